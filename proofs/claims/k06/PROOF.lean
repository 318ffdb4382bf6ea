import PyProof.Rows.All
import Wide.All
import OpenK.AllK
import Wide.FinOn
import HandS.ForMost
import HandS.ForExc
import HandS.CallSlots
import HandS.TupAny
import HandS.TupMul
import HandS.IsInst
import HandS.Style
import HandS.More
import HandS.SortInts
import KE.KDictKeyed
import HandS.Strs
import HandS.ExcOwn
import HandS.TryOnly
import HandS.ExcIs
import KE.KEqNest
import PySem.Challenge.RW_guesshush_k06_whole_source_programs
section
set_option Elab.async false
set_option linter.all false
set_option maxRecDepth 100000
set_option maxHeartbeats 4000000
set_option autoImplicit false
/-! DLA: data trees, how the abstract heap bears them, the world of a run, the canonical readings. -/
namespace DL
open PySem PySem.Spec L2
open PyProof.Rows hiding St

/-- data: immutable trees; scr: a locked list (the script); ref: an object of the store; own: the list or dict that a slot owns -/
inductive D where
  | non | bl (b : Bool) | int (i : Int) | str (x : Str)
  | tup (ds : List D) | lst (ds : List D)
  | scr (ds : List D)
  | dk (kvs : List (Key × D)) | dt (kvs : List (List Key × D)) | dn (kvs : List (D × D))
  | ref (i : Nat) | own (i : Nat)
/-- a slot holds a value, or owns a list or a dict that nobody else knows -/
inductive SV where
  | val (d : D) | own (d : D)
abbrev Sl := List (Option SV)
/-- an object of the store -/
inductive SO where
  | obj (d : D) | ins (c : Str) (fs : List (Str × D))
abbrev Sto := List SO
/-- what a def hands back: a value, or a new list or dict that nobody else knows -/
inductive RV where
  | val (d : D) | new (d : D)
inductive ER where
  | ok (d : D) (e : Sl) (s : Sto) | exc (k : Str) (e : Sl) (s : Sto) | stuck
inductive OR where
  | nx (e : Sl) (s : Sto) | rt (r : RV) (s : Sto) | bk (e : Sl) (s : Sto) | ct (e : Sl) (s : Sto) | exc (k : Str) (e : Sl) (s : Sto) | stuck
inductive FR where
  | ok (r : RV) (s : Sto) | exc (k : Str) (s : Sto) | stuck
abbrev EF := Sl → Sto → ER
abbrev SF := Sl → Sto → OR
abbrev Fn := List D → Sto → FR

/-! ### how the heap bears data -/
def TupF (_ : PySem.W.Frag) (F : Addr → Prop) (H : Hp) (a : Addr) (vs : List V) : Prop := F a ∧ H a = some (.tup vs)
def ScrF (K : PySem.W.Frag) (F : Addr → Prop) (H : Hp) (a : Addr) (vs : List V) : Prop := (F a ∧ Rd H a (.lst vs)) ∨ ∀ H', SqL K H' a vs
mutual
inductive Rep (K : PySem.W.Frag) (F : Addr → Prop) (ρ : List Addr) (H : Hp) : V → D → Prop
  | non : Rep K F ρ H .non .non
  | bl (b : Bool) : Rep K F ρ H (.bl b) (.bl b)
  | int (i : Int) : Rep K F ρ H (.int i) (.int i)
  | str (x : Str) : Rep K F ρ H (.str x) (.str x)
  | tup {a : Addr} {vs : List V} {ds : List D} : TupF K F H a vs → Reps K F ρ H vs ds → Rep K F ρ H (.ref a) (.tup ds)
  | lst {a : Addr} {vs : List V} {ds : List D} : F a → H a = some (.lst vs) → Reps K F ρ H vs ds → Rep K F ρ H (.ref a) (.lst ds)
  | scr {a : Addr} {vs : List V} {ds : List D} : ScrF K F H a vs → Reps K F ρ H vs ds → Rep K F ρ H (.ref a) (.scr ds)
  | dk {a : Addr} {kvs : List (Key × V)} {kds : List (Key × D)} : F a → Rd H a (.dK kvs) → RepK K F ρ H kvs kds → Rep K F ρ H (.ref a) (.dk kds)
  | dt {a : Addr} {kvs : List (List Key × V)} {kds : List (List Key × D)} : F a → H a = some (.dT kvs) → RepT K F ρ H kvs kds → Rep K F ρ H (.ref a) (.dt kds)
  | ref {a : Addr} {i : Nat} : ρ[i]? = some a → Rep K F ρ H (.ref a) (.ref i)
inductive Reps (K : PySem.W.Frag) (F : Addr → Prop) (ρ : List Addr) (H : Hp) : List V → List D → Prop
  | nil : Reps K F ρ H [] []
  | cons {v : V} {vs : List V} {d : D} {ds : List D} : Rep K F ρ H v d → Reps K F ρ H vs ds → Reps K F ρ H (v :: vs) (d :: ds)
inductive RepK (K : PySem.W.Frag) (F : Addr → Prop) (ρ : List Addr) (H : Hp) : List (Key × V) → List (Key × D) → Prop
  | nil : RepK K F ρ H [] []
  | cons {k : Key} {v : V} {vs : List (Key × V)} {d : D} {ds : List (Key × D)} : Rep K F ρ H v d → RepK K F ρ H vs ds → RepK K F ρ H ((k, v) :: vs) ((k, d) :: ds)
inductive RepT (K : PySem.W.Frag) (F : Addr → Prop) (ρ : List Addr) (H : Hp) : List (List Key × V) → List (List Key × D) → Prop
  | nil : RepT K F ρ H [] []
  | cons {k : List Key} {v : V} {vs : List (List Key × V)} {d : D} {ds : List (List Key × D)} : Rep K F ρ H v d → RepT K F ρ H vs ds → RepT K F ρ H ((k, v) :: vs) ((k, d) :: ds)
end

/-- what keeps data: known addresses stay known, known objects stay, the store grows -/
structure Le (F : Addr → Prop) (ρ : List Addr) (H : Hp) (F' : Addr → Prop) (ρ' : List Addr) (H' : Hp) : Prop where
  sub : ∀ a, F a → F' a
  rd : ∀ a u, F a → Rd H a u → Rd H' a u
  ls : ∀ a vs, F a → H a = some (.lst vs) → H' a = some (.lst vs)
  tp : ∀ a o, F a → H a = some o → H' a = some o
  pre : ∀ (i : Nat) (a : Addr), ρ[i]? = some a → ρ'[i]? = some a
section
variable {K : PySem.W.Frag} {F F' F2 : Addr → Prop} {ρ ρ' ρ2 : List Addr} {H H' H2 : Hp}
theorem Le.refl : Le F ρ H F ρ H := ⟨fun _ h => h, fun _ _ _ h => h, fun _ _ _ h => h, fun _ _ _ h => h, fun _ _ h => h⟩
theorem Le.trans (a : Le F ρ H F' ρ' H') (b : Le F' ρ' H' F2 ρ2 H2) : Le F ρ H F2 ρ2 H2 :=
  ⟨fun c h => b.sub c (a.sub c h), fun c u h r => b.rd c u (a.sub c h) (a.rd c u h r), fun c u h r => b.ls c u (a.sub c h) (a.ls c u h r), fun c u h r => b.tp c u (a.sub c h) (a.tp c u h r), fun i c h => b.pre i c (a.pre i c h)⟩
theorem TupF.mono {a : Addr} {vs : List V} (le : Le F ρ H F' ρ' H') (h : TupF K F H a vs) : TupF K F' H' a vs := ⟨le.sub _ h.1, le.tp _ _ h.1 h.2⟩
theorem ScrF.mono {a : Addr} {vs : List V} (le : Le F ρ H F' ρ' H') (h : ScrF K F H a vs) : ScrF K F' H' a vs := by
  rcases h with ⟨h1, h2⟩ | h
  · exact .inl ⟨le.sub _ h1, le.rd _ _ h1 h2⟩
  · exact .inr h
theorem ScrF.sq {a : Addr} {vs : List V} (h : ScrF K F H a vs) : SqL K H a vs := by
  rcases h with ⟨_, h⟩ | h
  · exact .inl h
  · exact h H
theorem TupF.sq {a : Addr} {vs : List V} (h : TupF K F H a vs) : SqT K H a vs := .inl (.inl h.2)
mutual
theorem Rep.mono (le : Le F ρ H F' ρ' H') : ∀ {d : D} {v : V}, Rep K F ρ H v d → Rep K F' ρ' H' v d
  | .non, _, h => by cases h; exact .non
  | .bl _, _, h => by cases h; exact .bl _
  | .int _, _, h => by cases h; exact .int _
  | .str _, _, h => by cases h; exact .str _
  | .tup ds, _, h => by cases h with | tup h1 h2 => exact .tup (h1.mono le) (Reps.mono le h2)
  | .lst ds, _, h => by cases h with | lst h1 h2 h3 => exact .lst (le.sub _ h1) (le.ls _ _ h1 h2) (Reps.mono le h3)
  | .scr ds, _, h => by cases h with | scr h1 h2 => exact .scr (h1.mono le) (Reps.mono le h2)
  | .dk ds, _, h => by cases h with | dk h1 h2 h3 => exact .dk (le.sub _ h1) (le.rd _ _ h1 h2) (RepK.mono le h3)
  | .dt ds, _, h => by cases h with | dt h1 h2 h3 => exact .dt (le.sub _ h1) (le.tp _ _ h1 h2) (RepT.mono le h3)
  | .dn _, _, h => nomatch h
  | .ref _, _, h => by cases h with | ref h => exact .ref (le.pre _ _ h)
  | .own _, _, h => nomatch h
theorem Reps.mono (le : Le F ρ H F' ρ' H') : ∀ {ds : List D} {vs : List V}, Reps K F ρ H vs ds → Reps K F' ρ' H' vs ds
  | [], _, h => by cases h; exact .nil
  | _ :: _, _, h => by cases h with | cons h1 h2 => exact .cons (Rep.mono le h1) (Reps.mono le h2)
theorem RepK.mono (le : Le F ρ H F' ρ' H') : ∀ {ds : List (Key × D)} {vs : List (Key × V)}, RepK K F ρ H vs ds → RepK K F' ρ' H' vs ds
  | [], _, h => by cases h; exact .nil
  | (_, _) :: _, _, h => by cases h with | cons h1 h2 => exact .cons (Rep.mono le h1) (RepK.mono le h2)
theorem RepT.mono (le : Le F ρ H F' ρ' H') : ∀ {ds : List (List Key × D)} {vs : List (List Key × V)}, RepT K F ρ H vs ds → RepT K F' ρ' H' vs ds
  | [], _, h => by cases h; exact .nil
  | (_, _) :: _, _, h => by cases h with | cons h1 h2 => exact .cons (Rep.mono le h1) (RepT.mono le h2)
end

theorem Reps.length {vs : List V} {ds : List D} (h : Reps K F ρ H vs ds) : vs.length = ds.length := by
  induction ds generalizing vs with
  | nil => cases h; rfl
  | cons d ds ih => cases h with | cons h1 h2 => rw [List.length_cons, List.length_cons, ih h2]
theorem Reps.get {i : Nat} {d : D} : ∀ {ds : List D} {vs : List V} {i : Nat}, Reps K F ρ H vs ds → ds[i]? = some d → ∃ v, vs[i]? = some v ∧ Rep K F ρ H v d
  | [], _, _, _, e => by simp at e
  | _ :: _, _, 0, h, e => by cases h with | cons h1 h2 => exact ⟨_, rfl, by simp at e; subst e; exact h1⟩
  | _ :: _, _, i + 1, h, e => by
    cases h with
    | cons h1 h2 =>
      obtain ⟨v, e1, r⟩ := Reps.get (i := i) (d := d) h2 (by simpa using e)
      exact ⟨v, by simpa using e1, r⟩
theorem Reps.get' {v : V} : ∀ {ds : List D} {vs : List V} {i : Nat}, Reps K F ρ H vs ds → vs[i]? = some v → ∃ d, ds[i]? = some d ∧ Rep K F ρ H v d
  | [], _, _, h, e => by cases h; simp at e
  | _ :: _, _, 0, h, e => by cases h with | cons h1 h2 => exact ⟨_, rfl, by simp at e; subst e; exact h1⟩
  | _ :: _, _, i + 1, h, e => by
    cases h with
    | cons h1 h2 =>
      obtain ⟨d, e1, r⟩ := Reps.get' (v := v) (i := i) h2 (by simpa using e)
      exact ⟨d, by simpa using e1, r⟩
theorem Reps.append : ∀ {ds es : List D} {vs us : List V}, Reps K F ρ H vs ds → Reps K F ρ H us es → Reps K F ρ H (vs ++ us) (ds ++ es)
  | [], _, _, _, h, h' => by cases h; exact h'
  | _ :: _, _, _, _, h, h' => by cases h with | cons h1 h2 => exact .cons h1 (Reps.append h2 h')
theorem Reps.take : ∀ (n : Nat) {ds : List D} {vs : List V}, Reps K F ρ H vs ds → Reps K F ρ H (vs.take n) (ds.take n)
  | 0, _, _, h => by simp only [List.take_zero]; exact .nil
  | n + 1, _, _, h => by
    cases h with
    | nil => exact .nil
    | cons h1 h2 => exact .cons h1 (Reps.take n h2)
theorem Reps.drop : ∀ (n : Nat) {ds : List D} {vs : List V}, Reps K F ρ H vs ds → Reps K F ρ H (vs.drop n) (ds.drop n)
  | 0, _, _, h => h
  | n + 1, _, _, h => by
    cases h with
    | nil => exact .nil
    | cons h1 h2 => exact Reps.drop n h2
theorem Reps.reverse {ds : List D} {vs : List V} (h : Reps K F ρ H vs ds) : Reps K F ρ H vs.reverse ds.reverse := by
  induction ds generalizing vs with
  | nil => cases h; exact .nil
  | cons d ds ih =>
    cases h with
    | cons h1 h2 =>
      rw [List.reverse_cons, List.reverse_cons]
      exact (ih h2).append (.cons h1 .nil)
theorem Reps.set {v : V} {d : D} (r : Rep K F ρ H v d) : ∀ {ds : List D} {vs : List V} (i : Nat), Reps K F ρ H vs ds → Reps K F ρ H (vs.set i v) (ds.set i d)
  | [], _, _, h => by cases h; exact .nil
  | _ :: _, _, 0, h => by cases h with | cons h1 h2 => exact .cons r h2
  | _ :: _, _, i + 1, h => by cases h with | cons h1 h2 => exact .cons h1 (Reps.set r i h2)
theorem RepK.length {vs : List (Key × V)} {ds : List (Key × D)} (h : RepK K F ρ H vs ds) : vs.length = ds.length := by
  induction ds generalizing vs with
  | nil => cases h; rfl
  | cons d ds ih => cases h with | cons h1 h2 => rw [List.length_cons, List.length_cons, ih h2]
theorem RepT.length {vs : List (List Key × V)} {ds : List (List Key × D)} (h : RepT K F ρ H vs ds) : vs.length = ds.length := by
  induction ds generalizing vs with
  | nil => cases h; rfl
  | cons d ds ih => cases h with | cons h1 h2 => rw [List.length_cons, List.length_cons, ih h2]
end

/-! ### owned and stored objects -/
/-- a list or dict at a, to be written -/
inductive CRep (K : PySem.W.Frag) (F : Addr → Prop) (ρ : List Addr) (H : Hp) (a : Addr) : D → Prop
  | lst {vs : List V} {ds : List D} : H a = some (.lst vs) → Reps K F ρ H vs ds → CRep K F ρ H a (.lst ds)
  | dk {kvs : List (Key × V)} {kds : List (Key × D)} : H a = some (.dK kvs) → RepK K F ρ H kvs kds → CRep K F ρ H a (.dk kds)
  | dt {kvs : List (List Key × V)} {kds : List (List Key × D)} : H a = some (.dT kvs) → RepT K F ρ H kvs kds → CRep K F ρ H a (.dt kds)
inductive RepF (K : PySem.W.Frag) (F : Addr → Prop) (ρ : List Addr) (H : Hp) : List (Str × V) → List (Str × D) → Prop
  | nil : RepF K F ρ H [] []
  | cons {k : Str} {v : V} {vs : List (Str × V)} {d : D} {ds : List (Str × D)} : Rep K F ρ H v d → RepF K F ρ H vs ds → RepF K F ρ H ((k, v) :: vs) ((k, d) :: ds)
def SRep (K : PySem.W.Frag) (mg : Str → Option Value) (F : Addr → Prop) (ρ : List Addr) (H : Hp) (a : Addr) : SO → Prop
  | .obj d => CRep K F ρ H a d
  | .ins c fs => ∃ C dx gs, mg c = some (.ref C) ∧ H a = some (.ins C dx gs) ∧ RepF K F ρ H gs fs

structure Wld (K : PySem.W.Frag) (mg : Str → Option Value) (F : Addr → Prop) (ρ : List Addr) (st : Sto) (H : Hp) : Prop where
  len : ρ.length = st.length
  nd : ρ.Nodup
  nF : ∀ a ∈ ρ, ¬ F a
  tr : ∀ a, F a → H a ≠ none
  so : ∀ (i : Nat) (a : Addr) (o : SO), ρ[i]? = some a → st[i]? = some o → SRep K mg F ρ H a o

/-- from the entry of a def to where it stands: what others own is kept -/
structure Ext (F : Addr → Prop) (ρ : List Addr) (H : Hp) (F' : Addr → Prop) (ρ' : List Addr) (H' : Hp) : Prop extends Le F ρ H F' ρ' H' where
  keep : ∀ a o, H a = some o → ¬ F a → a ∉ ρ → H' a = some o
  newF : ∀ a, F' a → F a ∨ H a = none
  newR : ∀ a, a ∈ ρ' → a ∈ ρ ∨ H a = none
  there : ∀ a, H a ≠ none → H' a ≠ none
theorem Ext.refl {F : Addr → Prop} {ρ : List Addr} {H : Hp} : Ext F ρ H F ρ H := ⟨Le.refl, fun _ _ h _ _ => h, fun _ h => .inl h, fun _ h => .inl h, fun _ h => h⟩
theorem Ext.trans {F F' F2 : Addr → Prop} {ρ ρ' ρ2 : List Addr} {H H' H2 : Hp} (a : Ext F ρ H F' ρ' H') (b : Ext F' ρ' H' F2 ρ2 H2) : Ext F ρ H F2 ρ2 H2 where
  toLe := a.toLe.trans b.toLe
  keep := fun c o h n m => b.keep c o (a.keep c o h n m) (fun z => by
    rcases a.newF c z with z | z
    · exact n z
    · rw [h] at z; cases z) fun z => by
    rcases a.newR c z with z | z
    · exact m z
    · rw [h] at z; cases z
  newF := fun c h => by
    rcases b.newF c h with h | h
    · exact a.newF c h
    · refine .inr ?_
      cases q : H c with
      | none => rfl
      | some o => exact absurd h (a.there c (by rw [q]; exact fun z => nomatch z))
  newR := fun c h => by
    rcases b.newR c h with h | h
    · exact a.newR c h
    · refine .inr ?_
      cases q : H c with
      | none => rfl
      | some o => exact absurd h (a.there c (by rw [q]; exact fun z => nomatch z))
  there := fun c h => b.there c (a.there c h)

/-- the entry of a def, and what is wanted of an exception -/
structure Dx where
  F : Addr → Prop
  ρ : List Addr
  H : Hp
  W : WX
/-- a slot is as the env says -/
def SlotOk (K : PySem.W.Frag) (c : Dx) (F : Addr → Prop) (ρ : List Addr) (H : Hp) (v : Option V) : SV → Prop
  | .val d => ∃ x, v = some x ∧ Rep K F ρ H x d
  | .own d => ∃ a, v = some (.ref a) ∧ CRep K F ρ H a d ∧ ¬ F a ∧ a ∉ ρ ∧ c.H a = none
structure R (K : PySem.W.Frag) (mg : Str → Option Value) (c : Dx) (F : Addr → Prop) (ρ : List Addr) (e : Sl) (st : Sto) (σ : St) (H : Hp) : Prop where
  w : Wld K mg F ρ st H
  x : Ext c.F c.ρ c.H F ρ H
  len : e.length = σ.length
  slot : ∀ (i : Nat) s, e[i]? = some (some s) → ∃ v, σ[i]? = some v ∧ SlotOk K c F ρ H v s
  dist : ∀ (i j : Nat) d d' a, i ≠ j → e[i]? = some (some (.own d)) → e[j]? = some (some (.own d')) → σ[i]? = some (some (.ref a)) → σ[j]? ≠ some (some (.ref a))
/-- a value that an expression gives -/
def RepX (K : PySem.W.Frag) (F : Addr → Prop) (ρ : List Addr) (H : Hp) (σ : St) (v : V) (d : D) : Prop := (∃ i a, d = .own i ∧ v = .ref a ∧ σ[i]? = some (some (.ref a))) ∨ Rep K F ρ H v d
/-- a value handed back -/
def RetRep (K : PySem.W.Frag) (F : Addr → Prop) (ρ : List Addr) (H H0 : Hp) (v : V) : RV → Prop
  | .val d => Rep K F ρ H v d
  | .new d => ∃ a, v = .ref a ∧ CRep K F ρ H a d ∧ ¬ F a ∧ a ∉ ρ ∧ H0 a = none
/-- the object that an owning slot owns -/
def OwnAt (e : Sl) (σ : St) (a : Addr) : Prop := ∃ (i : Nat) (d : D), e[i]? = some (some (.own d)) ∧ σ[i]? = some (some (.ref a))
/-- an expression's step: nothing that is owned is written -/
structure LeE (e e' : Sl) (σ : St) (F : Addr → Prop) (ρ : List Addr) (H : Hp) (F' : Addr → Prop) (ρ' : List Addr) (H' : Hp) : Prop extends Le F ρ H F' ρ' H' where
  ow : ∀ (i : Nat) (d : D), e'[i]? = some (some (.own d)) → e[i]? = some (some (.own d))
  keep : ∀ a o, H a = some o → ¬ F a → a ∉ ρ → ¬ OwnAt e σ a → H' a = some o
  newF : ∀ a, F' a → F a ∨ H a = none ∨ OwnAt e σ a
  newR : ∀ a, a ∈ ρ' → a ∈ ρ ∨ H a = none
  there : ∀ a, H a ≠ none → H' a ≠ none

/-! ### the canonical readings -/
def EPost (K : PySem.W.Frag) (mg : Str → Option Value) (c : Dx) (e : Sl) (σ : St) (F : Addr → Prop) (ρ : List Addr) (H : Hp) (Q : VK) : ER → Prop
  | .ok d e' st' => ∀ F' ρ' H' v, LeE e e' σ F ρ H F' ρ' H' → R K mg c F' ρ' e' st' σ H' → RepX K F' ρ' H' σ v d → Q v H'
  | .exc k e' st' => ∀ F' ρ' H' C, R K mg c F' ρ' e' st' σ H' → mg k = some (.ref C) → c.W (.ref C) none σ H'
  | .stuck => False
def tED (K : PySem.W.Frag) (mg : Str → Option Value) (c : Dx) (f : EF) : TE := fun σ H Q => ∃ F ρ e st, R K mg c F ρ e st σ H ∧ EPost K mg c e σ F ρ H Q (f e st)
abbrev DE (c : Dx) (X : Cx) (e : Expr) (f : EF) : Prop := PE X e (tED X.K X.mg c f)
def TPost (K : PySem.W.Frag) (mg : Str → Option Value) (c : Dx) (e : Sl) (σ : St) (F : Addr → Prop) (ρ : List Addr) (H : Hp) (Q : Bool → Hp → Prop) : ER → Prop
  | .ok (.bl b) e' st' => ∀ F' ρ' H', LeE e e' σ F ρ H F' ρ' H' → R K mg c F' ρ' e' st' σ H' → Q b H'
  | .ok _ _ _ => False
  | .exc k e' st' => ∀ F' ρ' H' C, R K mg c F' ρ' e' st' σ H' → mg k = some (.ref C) → c.W (.ref C) none σ H'
  | .stuck => False
def tTD (K : PySem.W.Frag) (mg : Str → Option Value) (c : Dx) (f : EF) : TT := fun σ H Q => ∃ F ρ e st, R K mg c F ρ e st σ H ∧ TPost K mg c e σ F ρ H Q (f e st)
abbrev DT (c : Dx) (X : Cx) (e : Expr) (f : EF) : Prop := PT X e (tTD X.K X.mg c f)
/-- arguments: a list of pure values -/
inductive AR where
  | ok (ds : List D) (e : Sl) (s : Sto) | exc (k : Str) (e : Sl) (s : Sto) | stuck
abbrev AF := Sl → Sto → AR
def APost (K : PySem.W.Frag) (mg : Str → Option Value) (c : Dx) (e : Sl) (σ : St) (F : Addr → Prop) (ρ : List Addr) (H : Hp) (Q : List V → Hp → Prop) : AR → Prop
  | .ok ds e' st' => ∀ F' ρ' H' vs, LeE e e' σ F ρ H F' ρ' H' → R K mg c F' ρ' e' st' σ H' → Reps K F' ρ' H' vs ds → Q vs H'
  | .exc k e' st' => ∀ F' ρ' H' C, R K mg c F' ρ' e' st' σ H' → mg k = some (.ref C) → c.W (.ref C) none σ H'
  | .stuck => False
def tAD (K : PySem.W.Frag) (mg : Str → Option Value) (c : Dx) (f : AF) : TA := fun σ H Q => ∃ F ρ e st, R K mg c F ρ e st σ H ∧ APost K mg c e σ F ρ H Q (f e st)
abbrev DA (c : Dx) (X : Cx) (es : List Expr) (f : AF) : Prop := PA X es (tAD X.K X.mg c f)
def SPost (K : PySem.W.Frag) (mg : Str → Option Value) (c : Dx) (F : Addr → Prop) (ρ : List Addr) (H : Hp) (D : Ends) : OR → Prop
  | .nx e' st' => ∀ F' ρ' σ' H', Le F ρ H F' ρ' H' → R K mg c F' ρ' e' st' σ' H' → D.nx σ' H'
  | .bk e' st' => ∀ F' ρ' σ' H', Le F ρ H F' ρ' H' → R K mg c F' ρ' e' st' σ' H' → D.bk σ' H'
  | .ct e' st' => ∀ F' ρ' σ' H', Le F ρ H F' ρ' H' → R K mg c F' ρ' e' st' σ' H' → D.ct σ' H'
  | .rt r st' => ∀ F' ρ' H' v, Wld K mg F' ρ' st' H' → Ext c.F c.ρ c.H F' ρ' H' → RetRep K F' ρ' H' c.H v r → D.rt v H'
  | .exc k e' st' => ∀ F' ρ' σ' H' C, R K mg c F' ρ' e' st' σ' H' → mg k = some (.ref C) → c.W (.ref C) none σ' H'
  | .stuck => False
def tSD (K : PySem.W.Frag) (mg : Str → Option Value) (c : Dx) (g : SF) : TS := fun D σ H => ∃ F ρ e st, R K mg c F ρ e st σ H ∧ SPost K mg c F ρ H D (g e st)
abbrev DS (c : Dx) (X : Cx) (s : Stmt) (g : SF) : Prop := PS X s (tSD X.K X.mg c g)
abbrev DSs (c : Dx) (X : Cx) (s : List Stmt) (g : SF) : Prop := PSs X s (tSD X.K X.mg c g)

/-! ### a def's promise -/
def FPost (K : PySem.W.Frag) (mg : Str → Option Value) (F : Addr → Prop) (ρ : List Addr) (H : Hp) (Q : VK) (E : XK) : FR → Prop
  | .ok r st' => ∀ F' ρ' H' v, Ext F ρ H F' ρ' H' → Wld K mg F' ρ' st' H' → RetRep K F' ρ' H' H v r → Q v H'
  | .exc k st' => ∀ F' ρ' H' C, Ext F ρ H F' ρ' H' → Wld K mg F' ρ' st' H' → mg k = some (.ref C) → E (.ref C) none H'
  | .stuck => False
def spD (K : PySem.W.Frag) (mg : Str → Option Value) (n : Nat) (fn : Fn) : Sp := fun vs H Q E => ∃ F ρ st ds, vs.length = n ∧ Wld K mg F ρ st H ∧ Reps K F ρ H vs ds ∧ FPost K mg F ρ H Q E (fn ds st)
end DL
end
section
set_option Elab.async false
set_option linter.all false
set_option maxRecDepth 100000
set_option maxHeartbeats 4000000
set_option autoImplicit false
/-! DLB: the world's steps: allocation, freezing, stores, calls. -/
namespace DL
open PySem PySem.Spec L2
open PyProof.Rows hiding St
section
variable {K : PySem.W.Frag} {mg : Str → Option Value} {c : Dx} {F F' F2 : Addr → Prop} {ρ ρ' ρ2 : List Addr} {H H' H2 : Hp} {e e' e2 : Sl} {σ σ' : St} {st st' : Sto}

theorem nd_at {α : Type} : ∀ {l : List α} {i j : Nat} {x : α}, l.Nodup → l[i]? = some x → l[j]? = some x → i = j
  | [], _, _, _, _, h, _ => by simp at h
  | _ :: _, 0, 0, _, _, _, _ => rfl
  | y :: r, 0, j + 1, x, n, h, h' => by
    simp at h h'
    subst h
    exact absurd (List.mem_of_getElem? h') (List.nodup_cons.mp n).1
  | y :: r, i + 1, 0, x, n, h, h' => by
    simp at h h'
    subst h'
    exact absurd (List.mem_of_getElem? h) (List.nodup_cons.mp n).1
  | y :: r, i + 1, j + 1, x, n, h, h' => by
    simp at h h'
    exact congrArg (· + 1) (nd_at (List.nodup_cons.mp n).2 h h')
theorem some_ne {H : Hp} {a : Addr} {o : HO} (h : H a = some o) : H a ≠ none := by rw [h]; exact fun z => nomatch z
theorem LeE.refl : LeE e e σ F ρ H F ρ H := ⟨Le.refl, fun _ _ h => h, fun _ _ h _ _ _ => h, fun _ h => .inl h, fun _ h => .inl h, fun _ h => h⟩
theorem LeE.trans (a : LeE e e' σ F ρ H F' ρ' H') (b : LeE e' e2 σ F' ρ' H' F2 ρ2 H2) : LeE e e2 σ F ρ H F2 ρ2 H2 where
  toLe := a.toLe.trans b.toLe
  ow := fun i d h => a.ow i d (b.ow i d h)
  keep := fun x o h n m no => by
    refine b.keep x o (a.keep x o h n m no) (fun q => ?_) (fun z => ?_) fun z => ?_
    · rcases a.newF x q with z | z | z
      · exact n z
      · rw [h] at z; cases z
      · exact no z
    · rcases a.newR x z with z | z
      · exact m z
      · rw [h] at z; cases z
    · obtain ⟨i, d, h1, h2⟩ := z
      exact no ⟨i, d, a.ow i d h1, h2⟩
  newF := fun x h => by
    rcases b.newF x h with h | h | h
    · exact a.newF x h
    · refine .inr (.inl ?_)
      cases q : H x with
      | none => rfl
      | some o => exact absurd h (a.there x (some_ne q))
    · obtain ⟨i, d, h1, h2⟩ := h
      exact .inr (.inr ⟨i, d, a.ow i d h1, h2⟩)
  newR := fun x h => by
    rcases b.newR x h with h | h
    · exact a.newR x h
    · refine .inr ?_
      cases q : H x with
      | none => rfl
      | some o => exact absurd h (a.there x (some_ne q))
  there := fun x h => b.there x (a.there x h)
theorem Ext.toLeE (x : Ext F ρ H F' ρ' H') : LeE e e σ F ρ H F' ρ' H' :=
  ⟨x.toLe, fun _ _ h => h, fun a o h n m _ => x.keep a o h n m, fun a h => (x.newF a h).elim .inl fun z => .inr (.inl z), x.newR, x.there⟩

theorem CRep.mono {a : Addr} {d : D} (le : Le F ρ H F' ρ' H') (k : ∀ o, H a = some o → H' a = some o) (h : CRep K F ρ H a d) : CRep K F' ρ' H' a d := by
  cases h with
  | lst h1 h2 => exact .lst (k _ h1) (h2.mono le)
  | dk h1 h2 => exact .dk (k _ h1) (h2.mono le)
  | dt h1 h2 => exact .dt (k _ h1) (h2.mono le)
theorem CRep.some {a : Addr} {d : D} (h : CRep K F ρ H a d) : ∃ o, H a = some o := by
  cases h with
  | lst h1 h2 => exact ⟨_, h1⟩
  | dk h1 h2 => exact ⟨_, h1⟩
  | dt h1 h2 => exact ⟨_, h1⟩
theorem RepF.mono (le : Le F ρ H F' ρ' H') : ∀ {ds : List (Str × D)} {vs : List (Str × V)}, RepF K F ρ H vs ds → RepF K F' ρ' H' vs ds
  | [], _, h => by cases h; exact .nil
  | (_, _) :: _, _, h => by cases h with | cons h1 h2 => exact .cons (Rep.mono le h1) (RepF.mono le h2)
theorem SRep.mono {a : Addr} {o : SO} (le : Le F ρ H F' ρ' H') (k : ∀ o, H a = some o → H' a = some o) (h : SRep K mg F ρ H a o) : SRep K mg F' ρ' H' a o := by
  cases o with
  | obj d => exact CRep.mono (d := d) le k h
  | ins cl fs =>
    obtain ⟨C, dx, gs, h1, h2, h3⟩ := h
    exact ⟨C, dx, gs, h1, k _ h2, h3.mono le⟩
theorem SRep.some {a : Addr} {o : SO} (h : SRep K mg F ρ H a o) : ∃ o, H a = some o := by
  cases o with
  | obj d => exact CRep.some (d := d) h
  | ins cl fs => obtain ⟨C, dx, gs, h1, h2, h3⟩ := h; exact ⟨_, h2⟩
theorem SlotOk.mono {v : Option V} {s : SV} (le : Le F ρ H F' ρ' H') (k : ∀ a o, s = .own o → v = some (.ref a) → (∀ u, H a = some u → H' a = some u) ∧ ¬ F' a ∧ a ∉ ρ') (h : SlotOk K c F ρ H v s) : SlotOk K c F' ρ' H' v s := by
  cases s with
  | val d => obtain ⟨x, h1, h2⟩ := h; exact ⟨x, h1, h2.mono le⟩
  | own d =>
    obtain ⟨a, h1, h2, h3, h4, h5⟩ := h
    obtain ⟨k1, k2, k3⟩ := k a d rfl h1
    exact ⟨a, h1, h2.mono le k1, k2, k3, h5⟩
theorem Wld.mem (w : Wld K mg F ρ st H) {a : Addr} (h : a ∈ ρ) : ∃ o, H a = some o := by
  obtain ⟨i, hi⟩ := List.getElem?_of_mem h
  have hl : i < st.length := by rw [← w.len]; exact (List.getElem?_eq_some_iff.mp hi).1
  exact (w.so i a _ hi (List.getElem?_eq_getElem hl)).some
theorem R.own (r : R K mg c F ρ e st σ H) {a : Addr} (h : OwnAt e σ a) : ∃ d, CRep K F ρ H a d ∧ ¬ F a ∧ a ∉ ρ ∧ c.H a = none := by
  obtain ⟨i, d, h1, h2⟩ := h
  obtain ⟨v, e1, b, e2, h3, h4, h5, h6⟩ := r.slot i _ h1
  rw [h2] at e1
  cases e1
  cases e2
  exact ⟨d, h3, h4, h5, h6⟩
/-- behind a call -/
theorem R.ext (r : R K mg c F ρ e st σ H) (x : Ext F ρ H F' ρ' H') (w : Wld K mg F' ρ' st' H') : R K mg c F' ρ' e st' σ H' := by
  refine ⟨w, r.x.trans x, r.len, fun i s hs => ?_, r.dist⟩
  obtain ⟨v, e1, h⟩ := r.slot i s hs
  refine ⟨v, e1, h.mono x.toLe fun a o hs' hv => ?_⟩
  subst hs'
  obtain ⟨b, e2, h3, h4, h5, h6⟩ := h
  rw [e2] at hv
  cases hv
  obtain ⟨o', ho'⟩ := h3.some
  refine ⟨fun u hu => x.keep a u hu h4 h5, fun z => ?_, fun z => ?_⟩
  · rcases x.newF a z with z | z
    · exact h4 z
    · rw [ho'] at z; cases z
  · rcases x.newR a z with z | z
    · exact h5 z
    · rw [ho'] at z; cases z

theorem le_upd {a : Addr} {o : HO} (h : ¬ F a) : Le F ρ H F ρ (upd H a o) :=
  ⟨fun _ z => z, fun b u z r => by
    have nb : b ≠ a := fun q => h (q ▸ z)
    rcases r with r | ⟨q, r⟩
    · exact .inl (by rw [upd_ne nb]; exact r)
    · exact .inr ⟨q, by rw [upd_ne nb]; exact r⟩, fun b u z r => by
    have nb : b ≠ a := fun q => h (q ▸ z)
    rw [upd_ne nb]; exact r, fun b u z r => by
    have nb : b ≠ a := fun q => h (q ▸ z)
    rw [upd_ne nb]; exact r, fun _ _ z => z⟩
theorem le_fz {a : Addr} : Le F ρ H (fun b => F b ∨ b = a) ρ H := ⟨fun _ z => .inl z, fun _ _ _ r => r, fun _ _ _ r => r, fun _ _ _ r => r, fun _ _ z => z⟩
theorem there_upd {a b : Addr} {o : HO} (h : H b ≠ none) : upd H a o b ≠ none := by
  unfold upd
  split
  · exact fun z => nomatch z
  · exact h

/-- a new object that is known from then on -/
theorem alloc (w : Wld K mg F ρ st H) {p : Addr} {o : HO} (hp : H p = none) :
    Wld K mg (fun b => F b ∨ b = p) ρ st (upd H p o) ∧ Ext F ρ H (fun b => F b ∨ b = p) ρ (upd H p o) := by
  have hF : ¬ F p := fun z => w.tr p z hp
  have hR : p ∉ ρ := fun z => by obtain ⟨o, q⟩ := w.mem z; rw [hp] at q; cases q
  have le : Le F ρ H (fun b => F b ∨ b = p) ρ (upd H p o) := (le_upd hF).trans le_fz
  refine ⟨⟨w.len, w.nd, fun a ha z => ?_, fun a ha => ?_, fun i a s h1 h2 => ?_⟩, ⟨le, fun a u h _ _ => ?_, fun a z => ?_, fun a z => .inl z, fun a z => there_upd z⟩⟩
  · rcases z with z | z
    · exact w.nF a ha z
    · exact hR (z ▸ ha)
  · rcases ha with z | z
    · exact there_upd (w.tr a z)
    · subst z; rw [upd_same]; exact fun q => nomatch q
  · refine (w.so i a s h1 h2).mono le fun u hu => ?_
    rw [upd_ne (ne_of_none hu hp)]
    exact hu
  · rw [upd_ne (ne_of_none h hp)]
    exact h
  · rcases z with z | z
    · exact .inl z
    · exact .inr (z ▸ hp)
/-- a new object, owned by nobody yet -/
theorem allocW (w : Wld K mg F ρ st H) {p : Addr} {o : HO} (hp : H p = none) :
    Wld K mg F ρ st (upd H p o) ∧ Ext F ρ H F ρ (upd H p o) ∧ ¬ F p ∧ p ∉ ρ := by
  have hF : ¬ F p := fun z => w.tr p z hp
  have hR : p ∉ ρ := fun z => by obtain ⟨o, q⟩ := w.mem z; rw [hp] at q; cases q
  have le : Le F ρ H F ρ (upd H p o) := le_upd hF
  refine ⟨⟨w.len, w.nd, w.nF, fun a z => there_upd (w.tr a z), fun i a s h1 h2 => ?_⟩, ⟨le, fun a u h _ _ => ?_, fun a z => .inl z, fun a z => .inl z, fun a z => there_upd z⟩, hF, hR⟩
  · refine (w.so i a s h1 h2).mono le fun u hu => ?_
    rw [upd_ne (ne_of_none hu hp)]
    exact hu
  · rw [upd_ne (ne_of_none h hp)]
    exact h
/-- a new object of the store -/
theorem allocS (w : Wld K mg F ρ st H) {p : Addr} {o : HO} {so : SO} (hp : H p = none) (hs : SRep K mg F (ρ ++ [p]) (upd H p o) p so) :
    Wld K mg F (ρ ++ [p]) (st ++ [so]) (upd H p o) ∧ Ext F ρ H F (ρ ++ [p]) (upd H p o) := by
  have hF : ¬ F p := fun z => w.tr p z hp
  have hR : p ∉ ρ := fun z => by obtain ⟨o, q⟩ := w.mem z; rw [hp] at q; cases q
  have le : Le F ρ H F (ρ ++ [p]) (upd H p o) := (le_upd hF).trans ⟨fun _ z => z, fun _ _ _ z => z, fun _ _ _ z => z, fun _ _ _ z => z, fun i a z => by
    rw [List.getElem?_append_left (List.getElem?_eq_some_iff.mp z).1]; exact z⟩
  refine ⟨⟨by simp [w.len], ?_, fun a ha => ?_, fun a z => there_upd (w.tr a z), fun i a s h1 h2 => ?_⟩, ⟨le, fun a u h _ _ => ?_, fun a z => .inl z, fun a z => ?_, fun a z => there_upd z⟩⟩
  · refine List.nodup_append.mpr ⟨w.nd, by simp, fun a ha b hb => ?_⟩
    simp only [List.mem_singleton] at hb
    subst hb
    exact fun q => hR (q ▸ ha)
  · rcases List.mem_append.mp ha with z | z
    · exact w.nF a z
    · simp only [List.mem_singleton] at z; subst z; exact hF
  · by_cases hi : i < ρ.length
    · rw [List.getElem?_append_left hi] at h1
      rw [List.getElem?_append_left (by rw [← w.len]; exact hi)] at h2
      refine (w.so i a s h1 h2).mono le fun u hu => ?_
      rw [upd_ne (ne_of_none hu hp)]
      exact hu
    · have hi2 : i = ρ.length := by
        have q := (List.getElem?_eq_some_iff.mp h1).1
        rw [List.length_append, List.length_singleton] at q
        omega
      subst hi2
      rw [List.getElem?_append_right (Nat.le_refl _), Nat.sub_self] at h1
      rw [w.len, List.getElem?_append_right (Nat.le_refl _), Nat.sub_self] at h2
      cases h1
      cases h2
      exact hs
  · rw [upd_ne (ne_of_none h hp)]
    exact h
  · rcases List.mem_append.mp z with z | z
    · exact .inl z
    · simp only [List.mem_singleton] at z; subst z; exact .inr hp
/-- an object of the store is written -/
theorem writeS (w : Wld K mg F ρ st H) {i : Nat} {a : Addr} {o : HO} {so : SO} (hi : ρ[i]? = some a) (hs : SRep K mg F ρ (upd H a o) a so) :
    Wld K mg F ρ (st.set i so) (upd H a o) ∧ Ext F ρ H F ρ (upd H a o) := by
  have ha : a ∈ ρ := List.mem_of_getElem? hi
  have hF : ¬ F a := w.nF a ha
  have le : Le F ρ H F ρ (upd H a o) := le_upd hF
  refine ⟨⟨by rw [List.length_set]; exact w.len, w.nd, w.nF, fun b z => there_upd (w.tr b z), fun j b s h1 h2 => ?_⟩, ⟨le, fun b u h n m => ?_, fun b z => .inl z, fun b z => .inl z, fun b z => there_upd z⟩⟩
  · by_cases hj : i = j
    · subst hj
      rw [hi] at h1
      cases h1
      have hl : i < st.length := by rw [← w.len]; exact (List.getElem?_eq_some_iff.mp hi).1
      rw [List.getElem?_set_self hl] at h2
      cases h2
      exact hs
    · rw [List.getElem?_set_ne hj] at h2
      have nb : b ≠ a := fun q => by
        subst q
        exact hj (nd_at w.nd hi h1)
      refine (w.so j b s h1 h2).mono le fun u hu => ?_
      rw [upd_ne nb]
      exact hu
  · have nb : b ≠ a := fun q => m (q ▸ ha)
    rw [upd_ne nb]
    exact h

/-! ### slots -/
theorem R.setVal (r : R K mg c F ρ e st σ H) {i : Nat} {v : V} {d : D} (hv : Rep K F ρ H v d) : R K mg c F ρ (e.set i (some (.val d))) st (σ.set i (some v)) H := by
  refine ⟨r.w, r.x, by rw [List.length_set, List.length_set]; exact r.len, fun j s hs => ?_, fun j k d1 d2 a hjk h1 h2 h3 h4 => ?_⟩
  · by_cases hj : i = j
    · subst hj
      have hl : i < e.length := by
        have := (List.getElem?_eq_some_iff.mp hs).1
        rwa [List.length_set] at this
      rw [List.getElem?_set_self hl] at hs
      cases hs
      exact ⟨_, List.getElem?_set_self (by rw [← r.len]; exact hl), v, rfl, hv⟩
    · rw [List.getElem?_set_ne hj] at hs
      rw [List.getElem?_set_ne hj]
      exact r.slot j s hs
  · have hj : i ≠ j := fun q => by
      subst q
      have hl : i < e.length := by
        have := (List.getElem?_eq_some_iff.mp h1).1
        rwa [List.length_set] at this
      rw [List.getElem?_set_self hl] at h1
      cases h1
    have hk : i ≠ k := fun q => by
      subst q
      have hl : i < e.length := by
        have := (List.getElem?_eq_some_iff.mp h2).1
        rwa [List.length_set] at this
      rw [List.getElem?_set_self hl] at h2
      cases h2
    rw [List.getElem?_set_ne hj] at h1 h3
    rw [List.getElem?_set_ne hk] at h2 h4
    exact r.dist j k d1 d2 a hjk h1 h2 h3 h4
theorem R.setOwn (r : R K mg c F ρ e st σ H) {i : Nat} {a : Addr} {d : D} (hv : CRep K F ρ H a d) (hF : ¬ F a) (hR : a ∉ ρ) (h0 : c.H a = none) (hn : ¬ OwnAt e σ a) :
    R K mg c F ρ (e.set i (some (.own d))) st (σ.set i (some (.ref a))) H := by
  refine ⟨r.w, r.x, by rw [List.length_set, List.length_set]; exact r.len, fun j s hs => ?_, fun j k d1 d2 b hjk h1 h2 h3 h4 => ?_⟩
  · by_cases hj : i = j
    · subst hj
      have hl : i < e.length := by
        have := (List.getElem?_eq_some_iff.mp hs).1
        rwa [List.length_set] at this
      rw [List.getElem?_set_self hl] at hs
      cases hs
      exact ⟨_, List.getElem?_set_self (by rw [← r.len]; exact hl), a, rfl, hv, hF, hR, h0⟩
    · rw [List.getElem?_set_ne hj] at hs
      rw [List.getElem?_set_ne hj]
      exact r.slot j s hs
  · by_cases hj : i = j
    · subst hj
      have hl : i < σ.length := by
        have := (List.getElem?_eq_some_iff.mp h3).1
        rwa [List.length_set] at this
      rw [List.getElem?_set_self hl] at h3
      cases h3
      rw [List.getElem?_set_ne hjk] at h2 h4
      exact hn ⟨k, d2, h2, h4⟩
    · by_cases hk : i = k
      · subst hk
        have hl : i < σ.length := by
          have := (List.getElem?_eq_some_iff.mp h4).1
          rwa [List.length_set] at this
        rw [List.getElem?_set_self hl] at h4
        cases h4
        rw [List.getElem?_set_ne hj] at h1 h3
        exact hn ⟨j, d1, h1, h3⟩
      · rw [List.getElem?_set_ne hj] at h1 h3
        rw [List.getElem?_set_ne hk] at h2 h4
        exact r.dist j k d1 d2 b hjk h1 h2 h3 h4
/-- what a slot owns is written -/
theorem R.writeOwn (r : R K mg c F ρ e st σ H) {i : Nat} {a : Addr} {o : HO} {d d' : D} (hi : e[i]? = some (some (.own d))) (hs : σ[i]? = some (some (.ref a))) (hv : CRep K F ρ (upd H a o) a d') :
    R K mg c F ρ (e.set i (some (.own d'))) st σ (upd H a o) := by
  obtain ⟨d0, hd0, hF, hR, h0⟩ := r.own ⟨i, d, hi, hs⟩
  obtain ⟨o0, ho0⟩ := hd0.some
  have le : Le F ρ H F ρ (upd H a o) := le_upd hF
  refine ⟨⟨r.w.len, r.w.nd, r.w.nF, fun b z => there_upd (r.w.tr b z), fun j b s h1 h2 => ?_⟩, ⟨⟨r.x.sub, fun b u z q => ?_, fun b u z q => ?_, fun b u z q => ?_, r.x.pre⟩, fun b u h n m => ?_, r.x.newF, r.x.newR, fun b z => there_upd (r.x.there b z)⟩, by rw [List.length_set]; exact r.len, fun j s h => ?_, fun j k d1 d2 b hjk h1 h2 h3 h4 => ?_⟩
  · refine (r.w.so j b s h1 h2).mono le fun u hu => ?_
    rw [upd_ne (fun q => by subst q; exact hR (List.mem_of_getElem? h1))]
    exact hu
  · exact le.rd b u (r.x.sub b z) (r.x.rd b u z q)
  · exact le.ls b u (r.x.sub b z) (r.x.ls b u z q)
  · exact le.tp b u (r.x.sub b z) (r.x.tp b u z q)
  · have nb : b ≠ a := fun q => by subst q; rw [h0] at h; cases h
    rw [upd_ne nb]
    exact r.x.keep b u h n m
  · by_cases hj : i = j
    · subst hj
      have hl : i < e.length := by
        have := (List.getElem?_eq_some_iff.mp h).1
        rwa [List.length_set] at this
      rw [List.getElem?_set_self hl] at h
      cases h
      exact ⟨_, hs, a, rfl, hv, hF, hR, h0⟩
    · rw [List.getElem?_set_ne hj] at h
      obtain ⟨v, e1, q⟩ := r.slot j s h
      refine ⟨v, e1, q.mono le fun b o' hs' hv' => ?_⟩
      subst hs'
      obtain ⟨b', e2, q2, q3, q4, q5⟩ := q
      rw [e2] at hv'
      cases hv'
      have nb : b ≠ a := fun z => by
        subst z
        exact r.dist i j _ _ b hj hi h hs (e1.trans (by rw [e2]))
      exact ⟨fun u hu => by rw [upd_ne nb]; exact hu, q3, q4⟩
  · have own' : ∀ (m : Nat) d, (e.set i (some (SV.own d')))[m]? = some (some (.own d)) → ∃ d, e[m]? = some (some (.own d)) := fun m d h => by
      by_cases hm : i = m
      · subst hm; exact ⟨_, hi⟩
      · rw [List.getElem?_set_ne hm] at h; exact ⟨_, h⟩
    obtain ⟨d1', h1⟩ := own' _ _ h1
    obtain ⟨d2', h2⟩ := own' _ _ h2
    exact r.dist j k _ _ b hjk h1 h2 h3 h4
/-- what a slot owns becomes known -/
theorem R.freeze (r : R K mg c F ρ e st σ H) {i : Nat} {a : Addr} {d : D} (hi : e[i]? = some (some (.own d))) (hs : σ[i]? = some (some (.ref a))) :
    R K mg c (fun b => F b ∨ b = a) ρ (e.set i (some (.val d))) st σ H ∧ LeE e (e.set i (some (.val d))) σ F ρ H (fun b => F b ∨ b = a) ρ H ∧ Rep K (fun b => F b ∨ b = a) ρ H (.ref a) d := by
  obtain ⟨v, e1, b, e2, hd, hF, hR, h0⟩ := r.slot i _ hi
  rw [hs] at e1
  cases e1
  cases e2
  obtain ⟨o0, ho0⟩ := hd.some
  have hrep : Rep K (fun b => F b ∨ b = a) ρ H (.ref a) d := by
    cases hd with
    | lst h1 h2 => exact .lst (.inr rfl) h1 (h2.mono le_fz)
    | dk h1 h2 => exact .dk (.inr rfl) (.inl h1) (h2.mono le_fz)
    | dt h1 h2 => exact .dt (.inr rfl) h1 (h2.mono le_fz)
  have hil : i < e.length := (List.getElem?_eq_some_iff.mp hi).1
  have ow : ∀ (m : Nat) d', (e.set i (some (SV.val d)))[m]? = some (some (.own d')) → e[m]? = some (some (.own d')) ∧ i ≠ m := fun m d' h => by
    by_cases hm : i = m
    · subst hm
      rw [List.getElem?_set_self hil] at h
      cases h
    · rw [List.getElem?_set_ne hm] at h; exact ⟨h, hm⟩
  refine ⟨⟨⟨r.w.len, r.w.nd, fun b hb z => ?_, fun b z => ?_, fun j b s h1 h2 => (r.w.so j b s h1 h2).mono le_fz fun _ h => h⟩, ⟨⟨fun b z => .inl (r.x.sub b z), r.x.rd, r.x.ls, r.x.tp, r.x.pre⟩, r.x.keep, fun b z => ?_, r.x.newR, r.x.there⟩, by rw [List.length_set]; exact r.len, fun j s h => ?_, fun j k d1 d2 b hjk h1 h2 h3 h4 => ?_⟩,
    ⟨le_fz, fun j d' h => (ow j d' h).1, fun b o h _ _ _ => h, fun b z => ?_, fun b z => .inl z, fun b z => z⟩, hrep⟩
  · rcases z with z | z
    · exact r.w.nF b hb z
    · exact hR (z ▸ hb)
  · rcases z with z | z
    · exact r.w.tr b z
    · subst z; exact some_ne ho0
  · rcases z with z | z
    · exact r.x.newF b z
    · exact .inr (z ▸ h0)
  · by_cases hj : i = j
    · subst hj
      rw [List.getElem?_set_self hil] at h
      cases h
      exact ⟨_, hs, _, rfl, hrep⟩
    · rw [List.getElem?_set_ne hj] at h
      obtain ⟨v, e1, q⟩ := r.slot j s h
      refine ⟨v, e1, q.mono le_fz fun b o' hs' hv' => ?_⟩
      subst hs'
      obtain ⟨b', e2, q2, q3, q4, q5⟩ := q
      rw [e2] at hv'
      cases hv'
      refine ⟨fun u hu => hu, fun z => ?_, q4⟩
      rcases z with z | z
      · exact q3 z
      · subst z
        exact r.dist i j _ _ b hj hi h hs (e1.trans (by rw [e2]))
  · exact r.dist j k _ _ b hjk (ow j _ h1).1 (ow k _ h2).1 h3 h4
  · rcases z with z | z
    · exact .inl z
    · exact .inr (.inr ⟨i, d, hi, z ▸ hs⟩)
theorem RepX.mono {v : V} {d : D} (le : Le F ρ H F' ρ' H') (h : RepX K F ρ H σ v d) : RepX K F' ρ' H' σ v d := by
  rcases h with h | h
  · exact .inl h
  · exact .inr (h.mono le)
end
end DL
end
section
set_option Elab.async false
set_option linter.all false
set_option maxRecDepth 100000
set_option maxHeartbeats 4000000
set_option autoImplicit false
/-! DLC: expressions: what each gives, and that it does. -/
namespace DL
open PySem PySem.Spec L2
open PyProof.Rows hiding St

def ER.bind (r : ER) (k : D → Sl → Sto → ER) : ER := match r with | .ok d e s => k d e s | .exc n e s => .exc n e s | .stuck => .stuck
def AR.bind (r : AR) (k : List D → Sl → Sto → ER) : ER := match r with | .ok d e s => k d e s | .exc n e s => .exc n e s | .stuck => .stuck
def ER.bindA (r : ER) (k : D → Sl → Sto → AR) : AR := match r with | .ok d e s => k d e s | .exc n e s => .exc n e s | .stuck => .stuck
def AR.bindA (r : AR) (k : List D → Sl → Sto → AR) : AR := match r with | .ok d e s => k d e s | .exc n e s => .exc n e s | .stuck => .stuck
def ER.bindS (r : ER) (k : D → Sl → Sto → OR) : OR := match r with | .ok d e s => k d e s | .exc n e s => .exc n e s | .stuck => .stuck
def AR.bindS (r : AR) (k : List D → Sl → Sto → OR) : OR := match r with | .ok d e s => k d e s | .exc n e s => .exc n e s | .stuck => .stuck

section
variable {K : PySem.W.Frag} {mg : Str → Option Value} {c : Dx} {F F' F1 F2 : Addr → Prop} {ρ ρ' ρ1 ρ2 : List Addr} {H H' H1 H2 : Hp} {e e' e1 e2 : Sl} {σ σ' : St} {st st' st1 : Sto} {Q Q' : VK}
theorem EPost.imp {r : ER} (h : EPost K mg c e σ F ρ H Q r) (k : ∀ v H', Q v H' → Q' v H') : EPost K mg c e σ F ρ H Q' r := by
  cases r with
  | ok d e' st' => exact fun F' ρ' H' v l r x => k _ _ (h F' ρ' H' v l r x)
  | exc n e' st' => exact h
  | stuck => exact h
theorem EPost.shift {r : ER} (le : LeE e e1 σ F ρ H F1 ρ1 H1) (h : EPost K mg c e σ F ρ H Q r) : EPost K mg c e1 σ F1 ρ1 H1 Q r := by
  cases r with
  | ok d e' st' => exact fun F' ρ' H' v l r x => h F' ρ' H' v (le.trans l) r x
  | exc n e' st' => exact h
  | stuck => exact h
theorem bindE {r : ER} {k : D → Sl → Sto → ER} (h : EPost K mg c e σ F ρ H Q (r.bind k))
    (q : ∀ F1 ρ1 e1 st1 H1 v d, LeE e e1 σ F ρ H F1 ρ1 H1 → R K mg c F1 ρ1 e1 st1 σ H1 → RepX K F1 ρ1 H1 σ v d → EPost K mg c e1 σ F1 ρ1 H1 Q (k d e1 st1) → Q' v H1) : EPost K mg c e σ F ρ H Q' r := by
  cases r with
  | ok d e' st' => exact fun F' ρ' H' v l r x => q F' ρ' e' st' H' v d l r x (EPost.shift (r := k d e' st') l h)
  | exc n e' st' => exact h
  | stuck => exact h
theorem bindA {r : AR} {k : List D → Sl → Sto → ER} {Q' : List V → Hp → Prop} (h : EPost K mg c e σ F ρ H Q (r.bind k))
    (q : ∀ F1 ρ1 e1 st1 H1 vs ds, LeE e e1 σ F ρ H F1 ρ1 H1 → R K mg c F1 ρ1 e1 st1 σ H1 → Reps K F1 ρ1 H1 vs ds → EPost K mg c e1 σ F1 ρ1 H1 Q (k ds e1 st1) → Q' vs H1) : APost K mg c e σ F ρ H Q' r := by
  cases r with
  | ok d e' st' => exact fun F' ρ' H' v l r x => q F' ρ' e' st' H' v d l r x (EPost.shift (r := k d e' st') l h)
  | exc n e' st' => exact h
  | stuck => exact h
theorem APost.imp {r : AR} {Q Q' : List V → Hp → Prop} (h : APost K mg c e σ F ρ H Q r) (k : ∀ v H', Q v H' → Q' v H') : APost K mg c e σ F ρ H Q' r := by
  cases r with
  | ok d e' st' => exact fun F' ρ' H' v l r x => k _ _ (h F' ρ' H' v l r x)
  | exc n e' st' => exact h
  | stuck => exact h
theorem APost.shift {r : AR} {Q : List V → Hp → Prop} (le : LeE e e1 σ F ρ H F1 ρ1 H1) (h : APost K mg c e σ F ρ H Q r) : APost K mg c e1 σ F1 ρ1 H1 Q r := by
  cases r with
  | ok d e' st' => exact fun F' ρ' H' v l r x => h F' ρ' H' v (le.trans l) r x
  | exc n e' st' => exact h
  | stuck => exact h
theorem bindEA {r : ER} {k : D → Sl → Sto → AR} {Q : List V → Hp → Prop} (h : APost K mg c e σ F ρ H Q (r.bindA k))
    (q : ∀ F1 ρ1 e1 st1 H1 v d, LeE e e1 σ F ρ H F1 ρ1 H1 → R K mg c F1 ρ1 e1 st1 σ H1 → RepX K F1 ρ1 H1 σ v d → APost K mg c e1 σ F1 ρ1 H1 Q (k d e1 st1) → Q' v H1) : EPost K mg c e σ F ρ H Q' r := by
  cases r with
  | ok d e' st' => exact fun F' ρ' H' v l r x => q F' ρ' e' st' H' v d l r x (APost.shift (r := k d e' st') l h)
  | exc n e' st' => exact h
  | stuck => exact h
theorem bindAA {r : AR} {k : List D → Sl → Sto → AR} {Q Q' : List V → Hp → Prop} (h : APost K mg c e σ F ρ H Q (r.bindA k))
    (q : ∀ F1 ρ1 e1 st1 H1 vs ds, LeE e e1 σ F ρ H F1 ρ1 H1 → R K mg c F1 ρ1 e1 st1 σ H1 → Reps K F1 ρ1 H1 vs ds → APost K mg c e1 σ F1 ρ1 H1 Q (k ds e1 st1) → Q' vs H1) : APost K mg c e σ F ρ H Q' r := by
  cases r with
  | ok d e' st' => exact fun F' ρ' H' v l r x => q F' ρ' e' st' H' v d l r x (APost.shift (r := k d e' st') l h)
  | exc n e' st' => exact h
  | stuck => exact h
theorem SPost.shift {r : OR} {D : Ends} (le : Le F ρ H F1 ρ1 H1) (h : SPost K mg c F ρ H D r) : SPost K mg c F1 ρ1 H1 D r := by
  cases r with
  | nx e s => exact fun F' ρ' σ' H' l => h F' ρ' σ' H' (le.trans l)
  | bk e s => exact fun F' ρ' σ' H' l => h F' ρ' σ' H' (le.trans l)
  | ct e s => exact fun F' ρ' σ' H' l => h F' ρ' σ' H' (le.trans l)
  | rt v s => exact h
  | exc k e s => exact h
  | stuck => exact h
theorem bindES {r : ER} {k : D → Sl → Sto → OR} {D : Ends} (h : SPost K mg c F ρ H D (r.bindS k))
    (q : ∀ F1 ρ1 e1 st1 H1 v d, LeE e e1 σ F ρ H F1 ρ1 H1 → R K mg c F1 ρ1 e1 st1 σ H1 → RepX K F1 ρ1 H1 σ v d → SPost K mg c F1 ρ1 H1 D (k d e1 st1) → Q' v H1) : EPost K mg c e σ F ρ H Q' r := by
  cases r with
  | ok d e' st' => exact fun F' ρ' H' v l r x => q F' ρ' e' st' H' v d l r x (SPost.shift (r := k d e' st') l.toLe h)
  | exc n e' st' => exact fun F' ρ' H' C r m => h F' ρ' σ H' C r m
  | stuck => exact h
theorem bindAS {r : AR} {k : List D → Sl → Sto → OR} {D : Ends} {Q' : List V → Hp → Prop} (h : SPost K mg c F ρ H D (r.bindS k))
    (q : ∀ F1 ρ1 e1 st1 H1 vs ds, LeE e e1 σ F ρ H F1 ρ1 H1 → R K mg c F1 ρ1 e1 st1 σ H1 → Reps K F1 ρ1 H1 vs ds → SPost K mg c F1 ρ1 H1 D (k ds e1 st1) → Q' vs H1) : APost K mg c e σ F ρ H Q' r := by
  cases r with
  | ok d e' st' => exact fun F' ρ' H' v l r x => q F' ρ' e' st' H' v d l r x (SPost.shift (r := k d e' st') l.toLe h)
  | exc n e' st' => exact fun F' ρ' H' C r m => h F' ρ' σ H' C r m
  | stuck => exact h

/-- a scalar is given -/
theorem EPost.sc {v : V} {d : D} (r : R K mg c F ρ e st σ H) (rep : ∀ F ρ H, Rep K F ρ H v d) (h : EPost K mg c e σ F ρ H Q (.ok d e st)) : Q v H := h F ρ H v LeE.refl r (.inr (rep F ρ H))
theorem EPost.pure {v : V} {d : D} (r : R K mg c F ρ e st σ H) (rep : Rep K F ρ H v d) (h : EPost K mg c e σ F ρ H Q (.ok d e st)) : Q v H := h F ρ H v LeE.refl r (.inr rep)
theorem EPost.bl {b : Bool} (r : R K mg c F ρ e st σ H) (h : EPost K mg c e σ F ρ H Q (.ok (.bl b) e st)) : Q (.bl b) H := h.sc r fun _ _ _ => .bl b
theorem EPost.int {b : Int} (r : R K mg c F ρ e st σ H) (h : EPost K mg c e σ F ρ H Q (.ok (.int b) e st)) : Q (.int b) H := h.sc r fun _ _ _ => .int b
/-- a new tuple -/
theorem EPost.tup {vs : List V} {ds : List D} {p : Addr} (r : R K mg c F ρ e st σ H) (rep : Reps K F ρ H vs ds) (h : EPost K mg c e σ F ρ H Q (.ok (.tup ds) e st)) (hp : H p = none) : Q (.ref p) (upd H p (.tup vs)) := by
  obtain ⟨w, x⟩ := alloc r.w (o := .tup vs) hp
  exact h _ _ _ _ x.toLeE (r.ext x w) (.inr (.tup ⟨.inr rfl, upd_same⟩ (rep.mono x.toLe)))
theorem EPost.lst {vs : List V} {ds : List D} {p : Addr} (r : R K mg c F ρ e st σ H) (rep : Reps K F ρ H vs ds) (h : EPost K mg c e σ F ρ H Q (.ok (.lst ds) e st)) (hp : H p = none) : Q (.ref p) (upd H p (.lst vs)) := by
  obtain ⟨w, x⟩ := alloc r.w (o := .lst vs) hp
  exact h _ _ _ _ x.toLeE (r.ext x w) (.inr (.lst (.inr rfl) upd_same (rep.mono x.toLe)))
theorem EPost.dk {vs : List (Key × V)} {ds : List (Key × D)} {p : Addr} (r : R K mg c F ρ e st σ H) (rep : RepK K F ρ H vs ds) (h : EPost K mg c e σ F ρ H Q (.ok (.dk ds) e st)) (hp : H p = none) : Q (.ref p) (upd H p (.dK vs)) := by
  obtain ⟨w, x⟩ := alloc r.w (o := .dK vs) hp
  exact h _ _ _ _ x.toLeE (r.ext x w) (.inr (.dk (.inr rfl) (.inl upd_same) (rep.mono x.toLe)))

/-! ### what a value shows -/
/-- an owned or stored object by what it holds -/
def vw (d : D) (e : Sl) (s : Sto) : D := match d with
  | .own i => (match e[i]? with | some (some (.own d')) => d' | _ => .own i)
  | .ref i => (match s[i]? with | some (.obj d') => d' | _ => .ref i)
  | d => d
inductive Vw (K : PySem.W.Frag) (F : Addr → Prop) (ρ : List Addr) (H : Hp) (v : V) : D → Prop
  | non : v = .non → Vw K F ρ H v .non
  | bl {b : Bool} : v = .bl b → Vw K F ρ H v (.bl b)
  | int {b : Int} : v = .int b → Vw K F ρ H v (.int b)
  | str {b : Str} : v = .str b → Vw K F ρ H v (.str b)
  | tup {a : Addr} {vs : List V} {ds : List D} : v = .ref a → TupF K F H a vs → Reps K F ρ H vs ds → Vw K F ρ H v (.tup ds)
  | lst {a : Addr} {vs : List V} {ds : List D} : v = .ref a → H a = some (.lst vs) → Reps K F ρ H vs ds → Vw K F ρ H v (.lst ds)
  | scr {a : Addr} {vs : List V} {ds : List D} : v = .ref a → SqL K H a vs → Reps K F ρ H vs ds → Vw K F ρ H v (.scr ds)
  | dk {a : Addr} {vs : List (Key × V)} {ds : List (Key × D)} : v = .ref a → Rd H a (.dK vs) → RepK K F ρ H vs ds → Vw K F ρ H v (.dk ds)
  | dt {a : Addr} {vs : List (List Key × V)} {ds : List (List Key × D)} : v = .ref a → H a = some (.dT vs) → RepT K F ρ H vs ds → Vw K F ρ H v (.dt ds)
  | own {i : Nat} : Vw K F ρ H v (.own i)
  | ref {i : Nat} {a : Addr} : v = .ref a → ρ[i]? = some a → Vw K F ρ H v (.ref i)
theorem CRep.vw {a : Addr} {d : D} (h : CRep K F ρ H a d) : Vw K F ρ H (.ref a) d := by
  cases h with
  | lst h1 h2 => exact .lst rfl h1 h2
  | dk h1 h2 => exact .dk rfl (.inl h1) h2
  | dt h1 h2 => exact .dt rfl h1 h2
theorem vw_ok (r : R K mg c F ρ e st σ H) {v : V} {d : D} (x : RepX K F ρ H σ v d) : Vw K F ρ H v (vw d e st) := by
  rcases x with ⟨i, a0, rfl, rfl, hi⟩ | x
  · unfold vw
    cases he : e[i]? with
    | none => simp only [he]; exact .own
    | some o =>
      cases o with
      | none => simp only [he]; exact .own
      | some s =>
        cases s with
        | val d => simp only [he]; exact .own
        | own d =>
          simp only [he]
          obtain ⟨v', e1, a, e2, h3, _⟩ := r.slot i _ he
          rw [hi] at e1
          cases e1
          cases e2
          exact h3.vw
  · cases x with
    | non => exact .non rfl
    | bl b => exact .bl rfl
    | int b => exact .int rfl
    | str b => exact .str rfl
    | tup h1 h2 => exact .tup rfl h1 h2
    | lst h0 h1 h2 => exact .lst rfl h1 h2
    | scr h1 h2 => exact .scr rfl h1.sq h2
    | dk h0 h1 h2 => exact .dk rfl h1 h2
    | dt h0 h1 h2 => exact .dt rfl h1 h2
    | @ref a i h =>
      have hl : i < st.length := by rw [← r.w.len]; exact (List.getElem?_eq_some_iff.mp h).1
      have q := r.w.so i a _ h (List.getElem?_eq_getElem hl)
      unfold vw
      simp only [List.getElem?_eq_getElem hl]
      cases hs : st[i] with
      | obj d =>
        rw [hs] at q
        exact CRep.vw q
      | ins cl fs => exact .ref rfl h
/-- a list, a tuple, the script: its items -/
def asSeq : D → Option (List D)
  | .tup ds => some ds
  | .lst ds => some ds
  | .scr ds => some ds
  | _ => none
theorem Vw.seq {v : V} {d : D} {ds : List D} (h : Vw K F ρ H v d) (e : asSeq d = some ds) : ∃ a vs, v = .ref a ∧ (SqL K H a vs ∨ SqT K H a vs) ∧ Reps K F ρ H vs ds := by
  cases h with
  | tup h1 h2 h3 => cases e; exact ⟨_, _, h1, .inr h2.sq, h3⟩
  | lst h1 h2 h3 => cases e; exact ⟨_, _, h1, .inl (.of h2), h3⟩
  | scr h1 h2 h3 => cases e; exact ⟨_, _, h1, .inl h2, h3⟩
  | _ => cases e
end

/-! ### names and constants -/
section
variable {X : Cx} {c : Dx} {x : Str} {pos : Pos}
def eVar (i : Nat) : EF := fun e s => match e[i]? with | some (some (.val d)) => .ok d e s | some (some (.own _)) => .ok (.own i) e s | _ => .stuck
def eK (d : D) : EF := fun e s => .ok d e s
theorem de_imp {e : Expr} {t : TE} {f : EF} (h : PE X e t) (k : ∀ F ρ e st σ H Q, R X.K X.mg c F ρ e st σ H → EPost X.K X.mg c e σ F ρ H Q (f e st) → t σ H Q) : DE c X e f :=
  ⟨fun pins s σ H Q I ⟨F, ρ, e, st, r, q⟩ => h.run pins s σ H Q I (k F ρ e st σ H Q r q)⟩
theorem de_var (i : Nat) (hN : X.N[i]? = some x := by rfl) (hv : Vis X.env.scope x := by first | exact Or.inl rfl | exact Or.inr (Or.inl rfl) | exact Or.inr (Or.inr rfl)) (hd : (x == ("__debug__" : Str)) = false := by decide)
    (hcd : (x == ("__classdict__" : Str)) = false := by decide) : DE c X (.Name x pos) (eVar i) := by
  refine de_imp (pe_var (i := i) hN hv hd hcd) fun F ρ e st σ H Q r h => ?_
  unfold eVar at h
  cases he : e[i]? with
  | none => rw [he] at h; exact h.elim
  | some o =>
    rw [he] at h
    cases o with
    | none => exact h.elim
    | some s =>
      obtain ⟨v, e1, q⟩ := r.slot i s he
      cases s with
      | val d =>
        obtain ⟨y, e2, q⟩ := q
        subst e2
        exact ⟨y, e1, EPost.pure r q h⟩
      | own d =>
        obtain ⟨a, e2, q⟩ := q
        subst e2
        exact ⟨_, e1, h F ρ H _ LeE.refl r (.inl ⟨i, a, rfl, rfl, e1⟩)⟩
theorem de_int {i j} : DE c X (.Constant (.int i) j pos) (eK (.int i)) := de_imp pe_int fun F ρ e st σ H Q r h => EPost.sc r (fun _ _ _ => .int i) h
theorem de_bl {i j} : DE c X (.Constant (.bool i) j pos) (eK (.bl i)) := de_imp pe_bl fun F ρ e st σ H Q r h => EPost.sc r (fun _ _ _ => .bl i) h
theorem de_non {j} : DE c X (.Constant .none j pos) (eK .non) := de_imp pe_non fun F ρ e st σ H Q r h => EPost.sc r (fun _ _ _ => .non) h
theorem de_str {i j} : DE c X (.Constant (.str i) j pos) (eK (.str i)) := de_imp pe_str fun F ρ e st σ H Q r h => EPost.sc r (fun _ _ _ => .str i) h
/-- a constant of the module: d stands at v whatever the heap is -/
structure Cst (K : PySem.W.Frag) (mg : Str → Option Value) (x : Str) (d : D) : Prop where
  ex : ∃ v u, mg x = some u ∧ RelV v u ∧ ∀ F ρ H, Rep K F ρ H v d
theorem de_glob {d : D} (k : Cst X.K X.mg x d) (hg : Gl X x) (hd : (x == ("__debug__" : Str)) = false := by decide) : DE c X (.Name x pos) (eK d) := by
  obtain ⟨v, u, h1, h2, h3⟩ := k.ex
  exact de_imp (pe_glob hg h1 h2 hd) fun F ρ e st σ H Q r h => EPost.sc r h3 h
end

/-! ### operators of two values -/
def eBin (g : D → D → Sl → Sto → ER) (fa fb : EF) : EF := fun e s => (fa e s).bind fun x e s => (fb e s).bind fun y e s => g x y e s
def OpD (X : Cx) (r : R2) (g : D → D → Sl → Sto → ER) : Prop := ∀ (c : Dx) (F : Addr → Prop) (ρ : List Addr) (e : Sl) (st : Sto) (σ : St) (H : Hp) (x y : D) (v u : V) (Q : VK), R X.K X.mg c F ρ e st σ H → RepX X.K F ρ H σ v x → RepX X.K F ρ H σ u y →
  EPost X.K X.mg c e σ F ρ H Q (g x y e st) → r v u H Q
section
variable {X : Cx} {c : Dx} {a b ex : Expr} {fa fb : EF} {pos : Pos} {r : R2} {g : D → D → Sl → Sto → ER}
theorem de_op2 (hp : PE X ex (tOp r (tED X.K X.mg c fa) (tED X.K X.mg c fb))) (ho : OpD X r g) : DE c X ex (eBin g fa fb) := by
  refine de_imp hp fun F ρ e st σ H Q hr h => ?_
  refine ⟨F, ρ, e, st, hr, bindE h fun F1 ρ1 e1 st1 H1 v x le1 r1 rx h1 => ?_⟩
  refine ⟨F1, ρ1, e1, st1, r1, bindE h1 fun F2 ρ2 e2 st2 H2 u y le2 r2 ry h2 => ?_⟩
  exact ho c F2 ρ2 e2 st2 σ H2 x y v u Q r2 (rx.mono le2.toLe) ry h2

/-- at most so many items -/
abbrev lim : Nat := 16777216
theorem lim_le {n : Nat} (h : n ≤ lim) : n ≤ sizeLine := by rw [sizeLine_eq]; exact h
theorem lim_lt {n : Nat} (h : n < lim) : n < sizeLine := by rw [sizeLine_eq]; exact h
def opO {X : Cx} {f : Value → Value → Sem Value} {r r' : R2} (h : OpR X f r) (h' : OpR X f r') : OpR X f (fun x y H Q => r x y H Q ∨ r' x y H Q) := OpR.or h h'

def gAdd (x y : D) (e : Sl) (s : Sto) : ER := match vw x e s, vw y e s with
  | .int i, .int j => .ok (.int (i + j)) e s
  | .tup a, .tup b => if a.length + b.length ≤ lim then .ok (.tup (a ++ b)) e s else .stuck
  | .lst a, .lst b => if a.length + b.length ≤ lim then .ok (.lst (a ++ b)) e s else .stuck
  | _, _ => .stuck
abbrev rAddD (K : PySem.W.Frag) : R2 := fun x y H Q => rI0 (fun i j => .int (i + j)) x y H Q ∨ rCatA K x y H Q ∨ rCat x y H Q
theorem reps_nil {K : PySem.W.Frag} {F : Addr → Prop} {ρ : List Addr} {H : Hp} {ds : List D} (h : Reps K F ρ H [] ds) : ds = [] := by cases h; rfl
theorem opD_add : OpD X (rAddD X.K) gAdd := by
  intro c F ρ e st σ H x y v u Q r rx ry h
  have hx := vw_ok r rx
  have hy := vw_ok r ry
  unfold gAdd at h
  generalize vw x e st = dx at *
  generalize vw y e st = dy at *
  split at h
  · cases hx; cases hy
    subst_vars
    exact .inl ⟨_, _, rfl, rfl, h.int r⟩
  · cases hx with | tup a1 a2 a3 => cases hy with | tup b1 b2 b3 =>
    subst a1 b1
    split at h
    case isFalse => exact h.elim
    rename_i hz
    refine .inr (.inl ⟨_, _, _, _, rfl, rfl, a2.sq, b2.sq, lim_le (by rw [a3.length, b3.length]; exact hz), fun q => ?_, fun q1 q2 => ?_, fun _ _ p hp => ?_⟩)
    · subst q
      cases reps_nil a3
      rw [List.nil_append] at h
      exact h.pure r (.tup b2 b3)
    · subst q2
      cases reps_nil b3
      rw [List.append_nil] at h
      exact h.pure r (.tup a2 a3)
    · exact h.tup r (a3.append b3) hp
  · cases hx with | lst a1 a2 a3 => cases hy with | lst b1 b2 b3 =>
    subst a1 b1
    split at h
    case isFalse => exact h.elim
    rename_i hz
    exact .inr (.inr ⟨_, _, _, _, rfl, rfl, a2, b2, lim_le (by rw [a3.length, b3.length]; exact hz), fun p hp => h.lst r (a3.append b3) hp⟩)
  · exact h.elim
theorem opr_add : OpR X (binaryOp .Add) (rAddD X.K) := op_add.or (op_catA.or op_cat)
theorem de_add (ha : DE c X a fa) (hb : DE c X b fb) : DE c X (.BinOp a .Add b pos) (eBin gAdd fa fb) := de_op2 (pe_op opr_add ha hb) opD_add

/-- ints in -/
def gI (k : Int → Int → Option D) (x y : D) (e : Sl) (s : Sto) : ER := match x, y with
  | .int i, .int j => (match k i j with | some d => .ok d e s | none => .stuck)
  | _, _ => .stuck
theorem repI {K : PySem.W.Frag} {F : Addr → Prop} {ρ : List Addr} {H : Hp} {σ : St} {v : V} {i : Int} (h : RepX K F ρ H σ v (.int i)) : v = .int i := by
  rcases h with ⟨_, _, q, _⟩ | h
  · cases q
  · cases h; rfl
theorem repB {K : PySem.W.Frag} {F : Addr → Prop} {ρ : List Addr} {H : Hp} {σ : St} {v : V} {i : Bool} (h : RepX K F ρ H σ v (.bl i)) : v = .bl i := by
  rcases h with ⟨_, _, q, _⟩ | h
  · cases q
  · cases h; rfl
theorem repS {K : PySem.W.Frag} {F : Addr → Prop} {ρ : List Addr} {H : Hp} {σ : St} {v : V} {i : Str} (h : RepX K F ρ H σ v (.str i)) : v = .str i := by
  rcases h with ⟨_, _, q, _⟩ | h
  · cases q
  · cases h; rfl
theorem opD_I {r : R2} {k : Int → Int → Option D} (h : ∀ (i j : Int) (d : D), k i j = some d → ∃ v : V, (∀ K F ρ H, Rep K F ρ H v d) ∧ ∀ H Q, Q v H → r (.int i) (.int j) H Q) : OpD X r (gI k) := by
  intro c F ρ e st σ H x y v u Q hr rx ry q
  unfold gI at q
  split at q
  · cases repI rx
    cases repI ry
    split at q
    case h_2 => exact q.elim
    rename_i d hd
    obtain ⟨v, h1, h2⟩ := h _ _ d hd
    exact h2 H Q (q.sc hr fun F ρ H => h1 _ F ρ H)
  · exact q.elim
def kSub (i j : Int) : Option D := some (.int (i - j))
def kMod (i j : Int) : Option D := if 0 < j then some (.int (i % j)) else none
noncomputable def kDiv (i j : Int) : Option D := @ite _ (0 < j ∧ j < 1073741824) (Classical.propDecidable _) (some (.int (i / j))) none
def kPow (i j : Int) : Option D := if 0 ≤ j ∧ j ≤ 1000000 ∧ i.natAbs < 2 ^ 64 then some (.int (i ^ j.toNat)) else none
def kLt (i j : Int) : Option D := some (.bl (decide (i < j)))
def kLe (i j : Int) : Option D := some (.bl (decide (i ≤ j)))
theorem de_sub (ha : DE c X a fa) (hb : DE c X b fb) : DE c X (.BinOp a .Sub b pos) (eBin (gI kSub) fa fb) :=
  de_op2 (pe_op op_sub ha hb) (opD_I fun i j d h => by cases h; exact ⟨_, fun _ _ _ _ => .int _, fun H Q q => ⟨_, _, rfl, rfl, q⟩⟩)
theorem de_mod (ha : DE c X a fa) (hb : DE c X b fb) : DE c X (.BinOp a .Mod b pos) (eBin (gI kMod) fa fb) :=
  de_op2 (pe_op op_mod ha hb) (opD_I fun i j d h => by
    unfold kMod at h
    split at h
    case isFalse => cases h
    rename_i hj
    cases h; exact ⟨_, fun _ _ _ _ => .int _, fun H Q q => ⟨_, _, rfl, rfl, hj, q⟩⟩)
theorem de_div (ha : DE c X a fa) (hb : DE c X b fb) : DE c X (.BinOp a .FloorDiv b pos) (eBin (gI kDiv) fa fb) :=
  de_op2 (pe_op op_fdiv ha hb) (opD_I fun i j d h => by
    unfold kDiv at h
    split at h
    case isFalse => cases h
    rename_i hj
    cases h; exact ⟨_, fun _ _ _ _ => .int _, fun H Q q => ⟨_, _, rfl, rfl, hj, q⟩⟩)
theorem de_pow (ha : DE c X a fa) (hb : DE c X b fb) : DE c X (.BinOp a .Pow b pos) (eBin (gI kPow) fa fb) :=
  de_op2 (pe_op op_pow ha hb) (opD_I fun i j d h => by
    unfold kPow at h
    split at h
    case isFalse => cases h
    rename_i hj
    cases h; exact ⟨_, fun _ _ _ _ => .int _, fun H Q q => ⟨_, _, rfl, rfl, hj, q⟩⟩)
theorem de_lt (ha : DE c X a fa) (hb : DE c X b fb) : DE c X (.Compare a [.Lt] [b] pos) (eBin (gI kLt) fa fb) :=
  de_op2 (pe_cmpR op_lt ha hb (nomark _)) (opD_I fun i j d h => by cases h; exact ⟨_, fun _ _ _ _ => .bl _, fun H Q q => ⟨_, _, rfl, rfl, q⟩⟩)
theorem de_le (ha : DE c X a fa) (hb : DE c X b fb) : DE c X (.Compare a [.LtE] [b] pos) (eBin (gI kLe) fa fb) :=
  de_op2 (pe_cmpR op_le ha hb (nomark _)) (opD_I fun i j d h => by cases h; exact ⟨_, fun _ _ _ _ => .bl _, fun H Q q => ⟨_, _, rfl, rfl, q⟩⟩)
theorem de_gt (ha : DE c X a fa) (hb : DE c X b fb) : DE c X (.Compare a [.Gt] [b] pos) (eBin (gI fun i j => kLt j i) fa fb) :=
  de_op2 (pe_cmpR op_gt ha hb (nomark _)) (opD_I fun i j d h => by cases h; exact ⟨_, fun _ _ _ _ => .bl _, fun H Q q => ⟨_, _, rfl, rfl, q⟩⟩)
theorem de_ge (ha : DE c X a fa) (hb : DE c X b fb) : DE c X (.Compare a [.GtE] [b] pos) (eBin (gI fun i j => kLe j i) fa fb) :=
  de_op2 (pe_cmpR op_ge ha hb (nomark _)) (opD_I fun i j d h => by cases h; exact ⟨_, fun _ _ _ _ => .bl _, fun H Q q => ⟨_, _, rfl, rfl, q⟩⟩)

/-! ### times -/
def rep (ds : List D) (k : Int) : List D := (List.replicate k.toNat ds).flatten
theorem reps_rep {K : PySem.W.Frag} {F : Addr → Prop} {ρ : List Addr} {H : Hp} {vs : List V} {ds : List D} (h : Reps K F ρ H vs ds) : ∀ n : Nat, Reps K F ρ H (List.replicate n vs).flatten (List.replicate n ds).flatten
  | 0 => .nil
  | n + 1 => by
    rw [List.replicate_succ, List.replicate_succ, List.flatten_cons, List.flatten_cons]
    exact h.append (reps_rep h n)
noncomputable def gMul (x y : D) (e : Sl) (s : Sto) : ER := match vw x e s, vw y e s with
  | .int i, .int j => @ite _ ((-(2 ^ 64) < i ∧ i < 2 ^ 64) ∨ (-(2 ^ 64) < j ∧ j < 2 ^ 64)) (Classical.propDecidable _) (.ok (.int (i * j)) e s) .stuck
  | .tup a, .int k => if a ≠ [] ∧ 2 ≤ k ∧ k ≤ 1000 ∧ a.length ≤ 1000 then .ok (.tup (rep a k)) e s else .stuck
  | .lst a, .int k => if 0 ≤ k ∧ k ≤ 1000 ∧ a.length ≤ 1000 then .ok (.lst (rep a k)) e s else .stuck
  | _, _ => .stuck
abbrev rMulD (K : PySem.W.Frag) : R2 := fun x y H Q => rI CMul (fun i j => .int (i * j)) x y H Q ∨ rRepT K x y H Q ∨ rRep x y H Q
theorem opD_mul : OpD X (rMulD X.K) gMul := by
  intro c F ρ e st σ H x y v u Q r rx ry h
  have hx := vw_ok r rx
  have hy := vw_ok r ry
  unfold gMul at h
  generalize vw x e st = dx at *
  generalize vw y e st = dy at *
  split at h
  · cases hx; cases hy
    subst_vars
    split at h
    case isFalse => exact h.elim
    rename_i hz
    exact .inl ⟨_, _, rfl, rfl, hz, h.int r⟩
  · cases hx with | tup a1 a2 a3 => cases hy with | int b1 =>
    subst a1 b1
    split at h
    case isFalse => exact h.elim
    rename_i hz
    exact .inr (.inl ⟨_, _, _, rfl, rfl, a2.sq, fun q => by subst q; exact hz.1 (reps_nil a3), hz.2.1, hz.2.2.1, by rw [a3.length]; exact hz.2.2.2, fun p hp => h.tup r (reps_rep a3 _) hp⟩)
  · cases hx with | lst a1 a2 a3 => cases hy with | int b1 =>
    subst a1 b1
    split at h
    case isFalse => exact h.elim
    rename_i hz
    obtain ⟨hz1, hz2, hz3⟩ := hz
    refine .inr (.inr ⟨_, _, _, rfl, rfl, a2, by omega, by omega, ?_, fun p hp => h.lst r (reps_rep a3 _) hp⟩)
    rw [a3.length]
    exact lim_le (Nat.le_trans (Nat.mul_le_mul hz3 (Int.toNat_le.mpr hz2)) (by decide))
  · exact h.elim
theorem opr_mul : OpR X (binaryOp .Mult) (rMulD X.K) := op_mul.or (op_repT.or op_rep)
theorem de_mul (ha : DE c X a fa) (hb : DE c X b fb) : DE c X (.BinOp a .Mult b pos) (eBin gMul fa fb) := de_op2 (pe_op opr_mul ha hb) opD_mul

/-! ### one value -/
def eUn (g : D → Sl → Sto → ER) (fa : EF) : EF := fun e s => (fa e s).bind g
theorem de_op1 {t : V → Hp → VK → Prop} {g : D → Sl → Sto → ER} (hp : PE X ex (tUn t (tED X.K X.mg c fa))) (ho : ∀ (F : Addr → Prop) (ρ : List Addr) (e : Sl) (st : Sto) (σ : St) (H : Hp) (x : D) (v : V) (Q : VK), R X.K X.mg c F ρ e st σ H → RepX X.K F ρ H σ v x →
    EPost X.K X.mg c e σ F ρ H Q (g x e st) → t v H Q) : DE c X ex (eUn g fa) := by
  refine de_imp hp fun F ρ e st σ H Q hr h => ?_
  exact ⟨F, ρ, e, st, hr, bindE h fun F1 ρ1 e1 st1 H1 v x le1 r1 rx h1 => ho F1 ρ1 e1 st1 σ H1 x v Q r1 rx h1⟩
def gNeg (x : D) (e : Sl) (s : Sto) : ER := match x with | .int i => .ok (.int (-i)) e s | _ => .stuck
theorem de_neg (ha : DE c X a fa) : DE c X (.UnaryOp .USub a pos) (eUn gNeg fa) := by
  refine de_op1 (pe_un un_neg ha) fun F ρ e st σ H x v Q r rx h => ?_
  unfold gNeg at h
  split at h
  · cases repI rx
    exact ⟨_, rfl, h.int r⟩
  · exact h.elim

/-! ### is -/
def isN : D → Bool
  | .non => true
  | _ => false
theorem isN_iff {K : PySem.W.Frag} {F : Addr → Prop} {ρ : List Addr} {H : Hp} {σ : St} {v : V} {d : D} (h : RepX K F ρ H σ v d) : decide (v = .non) = isN d := by
  rcases h with ⟨i, a, rfl, rfl, hi⟩ | h
  · rfl
  · cases h <;> rfl
def gIsN (_ x : D) (e : Sl) (s : Sto) : ER := .ok (.bl (isN x)) e s
def gNotN (_ x : D) (e : Sl) (s : Sto) : ER := .ok (.bl (!isN x)) e s
theorem de_isN {j : Nat} {pos' : Pos} (ha : DE c X a fa) : DE c X (.Compare a [.Is] [.Constant .none j pos'] pos) (eUn (gIsN .non) fa) := by
  refine de_op1 (t := fun x H Q => Q (.bl (decide (x = .non))) H) (pe_cmp (pc_isN ha)) fun F ρ e st σ H x v Q r rx h => ?_
  show Q (.bl (decide (v = .non))) H
  rw [isN_iff rx]
  exact h.bl r
theorem de_notN {j : Nat} {pos' : Pos} (ha : DE c X a fa) : DE c X (.Compare a [.IsNot] [.Constant .none j pos'] pos) (eUn (gNotN .non) fa) := by
  refine de_op1 (t := fun x H Q => Q (.bl (!decide (x = .non))) H) (pe_cmp (pc_notN ha)) fun F ρ e st σ H x v Q r rx h => ?_
  show Q (.bl (!decide (v = .non))) H
  rw [isN_iff rx]
  exact h.bl r
def gIsB (x y : D) (e : Sl) (s : Sto) : ER := match x, y with | .bl a, .bl b => .ok (.bl (decide (a = b))) e s | _, _ => .stuck
def gNotB (x y : D) (e : Sl) (s : Sto) : ER := match x, y with | .bl a, .bl b => .ok (.bl (!decide (a = b))) e s | _, _ => .stuck
theorem de_isB (ha : DE c X a fa) (hb : DE c X b fb) : DE c X (.Compare a [.Is] [b] pos) (eBin gIsB fa fb) := by
  refine de_op2 (pe_cmpR op_isBl ha hb (nomark _)) fun c F ρ e st σ H x y v u Q r rx ry h => ?_
  unfold gIsB at h
  split at h
  · cases repB rx
    cases repB ry
    exact ⟨_, _, rfl, rfl, h.bl r⟩
  · exact h.elim
theorem de_notB (ha : DE c X a fa) (hb : DE c X b fb) : DE c X (.Compare a [.IsNot] [b] pos) (eBin gNotB fa fb) := by
  refine de_op2 (pe_cmpR op_notBl ha hb (nomark _)) fun c F ρ e st σ H x y v u Q r rx ry h => ?_
  unfold gNotB at h
  split at h
  · cases repB rx
    cases repB ry
    exact ⟨_, _, rfl, rfl, h.bl r⟩
  · exact h.elim
end
end DL
end
section
set_option Elab.async false
set_option linter.all false
set_option maxRecDepth 100000
set_option maxHeartbeats 4000000
set_option autoImplicit false
/-! DLD: look-ups, displays, built-ins. -/
namespace DL
open PySem PySem.Spec L2
open PyProof.Rows hiding St

/-! ### new objects -/
def NPost (K : PySem.W.Frag) (mg : Str → Option Value) (c : Dx) (e : Sl) (σ : St) (F : Addr → Prop) (ρ : List Addr) (H : Hp) (Q : VK) : ER → Prop
  | .ok d e' st' => ∀ F' ρ' H' a, LeE e e' σ F ρ H F' ρ' H' → R K mg c F' ρ' e' st' σ H' → CRep K F' ρ' H' a d → ¬ F' a → a ∉ ρ' → ¬ OwnAt e' σ a → H a = none → Q (.ref a) H'
  | .exc k e' st' => ∀ F' ρ' H' C, R K mg c F' ρ' e' st' σ H' → mg k = some (.ref C) → c.W (.ref C) none σ H'
  | .stuck => False
def tND (K : PySem.W.Frag) (mg : Str → Option Value) (c : Dx) (f : EF) : TE := fun σ H Q => ∃ F ρ e st, R K mg c F ρ e st σ H ∧ NPost K mg c e σ F ρ H Q (f e st)
/-- an expression that makes a new list or dict -/
abbrev DN (c : Dx) (X : Cx) (e : Expr) (f : EF) : Prop := PE X e (tND X.K X.mg c f)
section
variable {K : PySem.W.Frag} {mg : Str → Option Value} {c : Dx} {F F' F1 F2 : Addr → Prop} {ρ ρ' ρ1 ρ2 : List Addr} {H H' H1 H2 : Hp} {e e' e1 e2 : Sl} {σ σ' : St} {st st' st1 st2 : Sto} {Q Q' : VK}
theorem NPost.shift {r : ER} (le : LeE e e1 σ F ρ H F1 ρ1 H1) (h : NPost K mg c e σ F ρ H Q r) : NPost K mg c e1 σ F1 ρ1 H1 Q r := by
  cases r with
  | ok d e' st' => exact fun F' ρ' H' a l r x n1 n2 n3 n4 => h F' ρ' H' a (le.trans l) r x n1 n2 n3 (by
      cases q : H a with
      | none => rfl
      | some o => exact absurd n4 (le.there a (some_ne q)))
  | exc n e' st' => exact h
  | stuck => exact h
theorem bindN {r : ER} {k : D → Sl → Sto → ER} (h : NPost K mg c e σ F ρ H Q (r.bind k))
    (q : ∀ F1 ρ1 e1 st1 H1 v d, LeE e e1 σ F ρ H F1 ρ1 H1 → R K mg c F1 ρ1 e1 st1 σ H1 → RepX K F1 ρ1 H1 σ v d → NPost K mg c e1 σ F1 ρ1 H1 Q (k d e1 st1) → Q' v H1) : EPost K mg c e σ F ρ H Q' r := by
  cases r with
  | ok d e' st' => exact fun F' ρ' H' v l r x => q F' ρ' e' st' H' v d l r x (NPost.shift (r := k d e' st') l h)
  | exc n e' st' => exact h
  | stuck => exact h
theorem bindNA {r : AR} {k : List D → Sl → Sto → ER} {Q' : List V → Hp → Prop} (h : NPost K mg c e σ F ρ H Q (r.bind k))
    (q : ∀ F1 ρ1 e1 st1 H1 vs ds, LeE e e1 σ F ρ H F1 ρ1 H1 → R K mg c F1 ρ1 e1 st1 σ H1 → Reps K F1 ρ1 H1 vs ds → NPost K mg c e1 σ F1 ρ1 H1 Q (k ds e1 st1) → Q' vs H1) : APost K mg c e σ F ρ H Q' r := by
  cases r with
  | ok d e' st' => exact fun F' ρ' H' v l r x => q F' ρ' e' st' H' v d l r x (NPost.shift (r := k d e' st') l h)
  | exc n e' st' => exact h
  | stuck => exact h
theorem R.ownH (r : R K mg c F ρ e st σ H) {a : Addr} (h : OwnAt e σ a) : H a ≠ none := by
  obtain ⟨d, hd, _⟩ := r.own h
  obtain ⟨o, ho⟩ := hd.some
  exact some_ne ho
theorem NPost.lst {vs : List V} {ds : List D} {p : Addr} (r : R K mg c F ρ e st σ H) (rep : Reps K F ρ H vs ds) (h : NPost K mg c e σ F ρ H Q (.ok (.lst ds) e st)) (hp : H p = none) : Q (.ref p) (upd H p (.lst vs)) := by
  obtain ⟨w, x, hF, hR⟩ := allocW r.w (o := .lst vs) hp
  exact h _ _ _ _ x.toLeE (r.ext x w) (.lst upd_same (rep.mono x.toLe)) hF hR (fun z => r.ownH z hp) hp
theorem NPost.dk {vs : List (Key × V)} {ds : List (Key × D)} {p : Addr} (r : R K mg c F ρ e st σ H) (rep : RepK K F ρ H vs ds) (h : NPost K mg c e σ F ρ H Q (.ok (.dk ds) e st)) (hp : H p = none) : Q (.ref p) (upd H p (.dK vs)) := by
  obtain ⟨w, x, hF, hR⟩ := allocW r.w (o := .dK vs) hp
  exact h _ _ _ _ x.toLeE (r.ext x w) (.dk upd_same (rep.mono x.toLe)) hF hR (fun z => r.ownH z hp) hp
theorem NPost.dt {vs : List (List Key × V)} {ds : List (List Key × D)} {p : Addr} (r : R K mg c F ρ e st σ H) (rep : RepT K F ρ H vs ds) (h : NPost K mg c e σ F ρ H Q (.ok (.dt ds) e st)) (hp : H p = none) : Q (.ref p) (upd H p (.dT vs)) := by
  obtain ⟨w, x, hF, hR⟩ := allocW r.w (o := .dT vs) hp
  exact h _ _ _ _ x.toLeE (r.ext x w) (.dt upd_same (rep.mono x.toLe)) hF hR (fun z => r.ownH z hp) hp
/-- an object that nobody owns becomes known -/
theorem R.know (r : R K mg c F ρ e st σ H) {a : Addr} {d : D} (hd : CRep K F ρ H a d) (hF : ¬ F a) (hR : a ∉ ρ) (hO : ¬ OwnAt e σ a) (h0 : c.H a = none) :
    R K mg c (fun b => F b ∨ b = a) ρ e st σ H ∧ Rep K (fun b => F b ∨ b = a) ρ H (.ref a) d := by
  obtain ⟨o0, ho0⟩ := hd.some
  have hrep : Rep K (fun b => F b ∨ b = a) ρ H (.ref a) d := by
    cases hd with
    | lst h1 h2 => exact .lst (.inr rfl) h1 (h2.mono le_fz)
    | dk h1 h2 => exact .dk (.inr rfl) (.inl h1) (h2.mono le_fz)
    | dt h1 h2 => exact .dt (.inr rfl) h1 (h2.mono le_fz)
  refine ⟨⟨⟨r.w.len, r.w.nd, fun b hb z => ?_, fun b z => ?_, fun j b s h1 h2 => (r.w.so j b s h1 h2).mono le_fz fun _ h => h⟩, ⟨⟨fun b z => .inl (r.x.sub b z), r.x.rd, r.x.ls, r.x.tp, r.x.pre⟩, r.x.keep, fun b z => ?_, r.x.newR, r.x.there⟩, r.len, fun j s h => ?_, r.dist⟩, hrep⟩
  · rcases z with z | z
    · exact r.w.nF b hb z
    · exact hR (z ▸ hb)
  · rcases z with z | z
    · exact r.w.tr b z
    · subst z; exact some_ne ho0
  · rcases z with z | z
    · exact r.x.newF b z
    · exact .inr (z ▸ h0)
  · obtain ⟨v, e1, q⟩ := r.slot j s h
    refine ⟨v, e1, q.mono le_fz fun b o' hs' hv' => ?_⟩
    subst hs'
    obtain ⟨b', e2, q2, q3, q4, q5⟩ := q
    rw [e2] at hv'
    cases hv'
    refine ⟨fun u hu => hu, fun z => ?_, q4⟩
    rcases z with z | z
    · exact q3 z
    · subst z
      exact hO ⟨j, o', h, e1.trans (by rw [e2])⟩
theorem LeE.know (le : LeE e e' σ F ρ H F' ρ' H') {a : Addr} (h0 : H a = none) : LeE e e' σ F ρ H (fun b => F' b ∨ b = a) ρ' H' :=
  ⟨le.toLe.trans le_fz, le.ow, le.keep, fun b z => z.elim (fun z => le.newF b z) fun z => .inr (.inl (z ▸ h0)), le.newR, le.there⟩
/-- behind an object p that was laid first, and then written -/
theorem adopt {p : Addr} {o0 o : HO} (r : R K mg c F ρ e st σ H) (hp : H p = none) (l : LeE e e' σ F ρ (upd H p o0) F2 ρ2 H2) (r2 : R K mg c F2 ρ2 e' st2 σ H2) :
    R K mg c F2 ρ2 e' st2 σ (upd H2 p o) ∧ LeE e e' σ F ρ H F2 ρ2 (upd H2 p o) ∧ Le F2 ρ2 H2 F2 ρ2 (upd H2 p o) ∧ ¬ F2 p ∧ p ∉ ρ2 ∧ ¬ OwnAt e' σ p ∧ H2 p = some o0 := by
  have nO : ¬ OwnAt e σ p := fun z => r.ownH z hp
  have nO' : ¬ OwnAt e' σ p := fun ⟨i, d, h1, h2⟩ => nO ⟨i, d, l.ow i d h1, h2⟩
  have nF0 : ¬ F p := fun z => r.w.tr p z hp
  have nR0 : p ∉ ρ := fun z => by obtain ⟨o, q⟩ := r.w.mem z; rw [hp] at q; cases q
  have nF : ¬ F2 p := fun z => by
    rcases l.newF p z with z | z | z
    · exact nF0 z
    · rw [upd_same] at z; cases z
    · exact nO z
  have nR : p ∉ ρ2 := fun z => by
    rcases l.newR p z with z | z
    · exact nR0 z
    · rw [upd_same] at z; cases z
  have h2 : H2 p = some o0 := l.keep p o0 upd_same nF0 nR0 nO
  have c0 : c.H p = none := by
    cases q : c.H p with
    | none => rfl
    | some o => exact absurd hp (r.x.there p (some_ne q))
  have le0 : Le F ρ H F ρ (upd H p o0) := le_upd nF0
  have le2 : Le F2 ρ2 H2 F2 ρ2 (upd H2 p o) := le_upd nF
  refine ⟨⟨⟨r2.w.len, r2.w.nd, r2.w.nF, fun b z => there_upd (r2.w.tr b z), fun j b s h1 h2 => (r2.w.so j b s h1 h2).mono le2 fun u hu => ?_⟩, ⟨⟨r2.x.sub, fun b u z q => ?_, fun b u z q => ?_, fun b u z q => ?_, r2.x.pre⟩, fun b u h n m => ?_, r2.x.newF, r2.x.newR, fun b z => there_upd (r2.x.there b z)⟩, r2.len, fun j s h => ?_, r2.dist⟩,
    ⟨le0.trans (l.toLe.trans le2), l.ow, fun b u h n m no => ?_, fun b z => ?_, fun b z => ?_, fun b z => there_upd (l.there b (there_upd z))⟩, le2, nF, nR, nO', h2⟩
  · rw [upd_ne (fun q => by subst q; exact nR (List.mem_of_getElem? h1))]
    exact hu
  · exact le2.rd b u (r2.x.sub b z) (r2.x.rd b u z q)
  · exact le2.ls b u (r2.x.sub b z) (r2.x.ls b u z q)
  · exact le2.tp b u (r2.x.sub b z) (r2.x.tp b u z q)
  · have nb : b ≠ p := fun q => by subst q; rw [c0] at h; cases h
    rw [upd_ne nb]
    exact r2.x.keep b u h n m
  · obtain ⟨v, e1, q⟩ := r2.slot j s h
    refine ⟨v, e1, q.mono le2 fun b o' hs' hv' => ?_⟩
    subst hs'
    obtain ⟨b', e2, q2, q3, q4, q5⟩ := q
    rw [e2] at hv'
    cases hv'
    have nb : b ≠ p := fun z => by
      subst z
      exact nO' ⟨j, o', h, e1.trans (by rw [e2])⟩
    exact ⟨fun u hu => by rw [upd_ne nb]; exact hu, q3, q4⟩
  · have nb : b ≠ p := fun q => by subst q; rw [hp] at h; cases h
    rw [upd_ne nb]
    exact l.keep b u (by rw [upd_ne nb]; exact h) n m no
  · rcases l.newF b z with z | z | z
    · exact .inl z
    · by_cases hb : b = p
      · subst hb; exact .inr (.inl hp)
      · rw [upd_ne hb] at z; exact .inr (.inl z)
    · exact .inr (.inr z)
  · rcases l.newR b z with z | z
    · exact .inl z
    · by_cases hb : b = p
      · subst hb; exact .inr hp
      · rw [upd_ne hb] at z; exact .inr z
end
section
variable {X : Cx} {c : Dx} {a b ex : Expr} {es : List Expr} {fa fb : EF} {fs : AF} {pos : Pos} {f : EF}
/-- a new object as a value: from then on it is known, and no longer written -/
theorem de_dn (h : DN c X ex f) : DE c X ex f := by
  refine de_imp h fun F ρ e st σ H Q r q => ⟨F, ρ, e, st, r, ?_⟩
  cases hr : f e st with
  | ok d e' st' =>
    rw [hr] at q
    intro F' ρ' H' p l r' cr n1 n2 n3 n4
    have c0 : c.H p = none := by
      cases q : c.H p with
      | none => rfl
      | some o => exact absurd n4 (r.x.there p (some_ne q))
    obtain ⟨r2, rep⟩ := r'.know cr n1 n2 n3 c0
    exact q _ _ _ _ (l.know n4) r2 (.inr rep)
  | exc n e' st' => rw [hr] at q; exact q
  | stuck => rw [hr] at q; exact q

/-! ### arguments -/
/-- an owned object is handed on: it is known from then on -/
def fz (d : D) (e : Sl) : Option (D × Sl) := match d with
  | .own i => (match e[i]? with | some (some (.own d')) => some (d', e.set i (some (.val d'))) | _ => none)
  | d => some (d, e)
def eFz (f : EF) : EF := fun e s => (f e s).bind fun d e s => match fz d e with | some (d', e') => .ok d' e' s | none => .stuck
def aNil : AF := fun e s => .ok [] e s
def aCons (f : EF) (g : AF) : AF := fun e s => (f e s).bindA fun d e s => match fz d e with | some (d', e') => (g e' s).bindA fun ds e s => .ok (d' :: ds) e s | none => .stuck
theorem fz_ok {K : PySem.W.Frag} {mg : Str → Option Value} {F : Addr → Prop} {ρ : List Addr} {H : Hp} {e e' : Sl} {st : Sto} {σ : St} {v : V} {d d' : D} (r : R K mg c F ρ e st σ H) (x : RepX K F ρ H σ v d) (h : fz d e = some (d', e')) :
    ∃ F', LeE e e' σ F ρ H F' ρ H ∧ R K mg c F' ρ e' st σ H ∧ Rep K F' ρ H v d' := by
  rcases x with ⟨i, a, rfl, rfl, hi⟩ | x
  · unfold fz at h
    simp only at h
    split at h
    · rename_i d0 h0
      cases h
      obtain ⟨h1, h2, h3⟩ := r.freeze h0 hi
      exact ⟨_, h2, h1, h3⟩
    · cases h
  · have : fz d e = some (d, e) := by
      cases x <;> rfl
    rw [this] at h
    cases h
    exact ⟨F, LeE.refl, r, x⟩
theorem de_fz (h : DE c X ex f) : DE c X ex (eFz f) := by
  refine de_imp h fun F ρ e st σ H Q r q => ⟨F, ρ, e, st, r, bindE q fun F1 ρ1 e1 st1 H1 v d le1 r1 rx h1 => ?_⟩
  split at h1
  · rename_i d' e' hz
    obtain ⟨F', l, r', x⟩ := fz_ok r1 rx hz
    exact h1 F' ρ1 H1 v l r' (.inr x)
  · exact h1.elim
theorem da_nil : DA c X [] aNil := ⟨fun pos pins s σ H Q I ⟨F, ρ, e, st, r, q⟩ => pa_nil.run pos pins s σ H Q I (q F ρ H [] LeE.refl r .nil)⟩
theorem da_cons (ha : DE c X a fa) (hr : DA c X es fs) (hs : starEach (a :: es) X.env = (false, eval a X.env) :: starEach es X.env := by rfl) : DA c X (a :: es) (aCons fa fs) := by
  refine ⟨fun pos pins s σ H Q I ⟨F, ρ, e, st, r, q⟩ => (pa_cons ha hr hs).run pos pins s σ H Q I ?_⟩
  refine ⟨F, ρ, e, st, r, bindEA q fun F1 ρ1 e1 st1 H1 v d le1 r1 rx h1 => ?_⟩
  split at h1
  · rename_i d' e' hz
    obtain ⟨F', l, r', x⟩ := fz_ok r1 rx hz
    refine ⟨F', ρ1, e', st1, r', bindAA (h1.shift l) fun F2 ρ2 e2 st2 H2 vs ds le2 r2 rs h2 => ?_⟩
    exact h2 F2 ρ2 H2 _ LeE.refl r2 (.cons (x.mono le2.toLe) rs)
  · exact h1.elim

/-! ### displays -/
def eTup (f : AF) : EF := fun e s => (f e s).bind fun ds e s => if ds.length ≤ lim then .ok (.tup ds) e s else .stuck
def eLst (f : AF) : EF := fun e s => (f e s).bind fun ds e s => if ds.length ≤ lim then .ok (.lst ds) e s else .stuck
theorem de_tup {x1 : Nat} (h : DA c X es fs) : DE c X (.Tuple es x1 pos) (eTup fs) := by
  refine de_imp (pe_tup h) fun F ρ e st σ H Q r q => ⟨F, ρ, e, st, r, bindA q fun F1 ρ1 e1 st1 H1 vs ds le1 r1 rs h1 => ?_⟩
  split at h1
  · rename_i hz
    exact ⟨lim_le (by rw [rs.length]; exact hz), fun p hp => h1.tup r1 rs hp⟩
  · exact h1.elim
theorem dn_lst (h : DA c X es fs) : DN c X (.List es pos) (eLst fs) := by
  refine ⟨fun pins s σ H Q I ⟨F, ρ, e, st, r, q⟩ => (pe_lst h).run pins s σ H Q I ⟨F, ρ, e, st, r, bindNA q fun F1 ρ1 e1 st1 H1 vs ds le1 r1 rs h1 => ?_⟩⟩
  split at h1
  · rename_i hz
    exact ⟨lim_le (by rw [rs.length]; exact hz), fun p hp => h1.lst r1 rs hp⟩
  · exact h1.elim

/-! ### keys -/
def toK : D → Option Key
  | .int i => some (.inl i)
  | .str x => some (.inr x)
  | _ => none
def toKs : List D → Option (List Key)
  | [] => some []
  | d :: ds => match toK d, toKs ds with
    | some k, some ks => some (k :: ks)
    | _, _ => none
section
variable {K : PySem.W.Frag} {mg : Str → Option Value} {F : Addr → Prop} {ρ : List Addr} {H : Hp} {σ : St}
theorem toK_ok {v : V} {d : D} {k : Key} (x : RepX K F ρ H σ v d) (h : toK d = some k) : v = kV k := by
  rcases x with ⟨i, a, rfl, rfl, hi⟩ | x
  · cases h
  · cases x <;> first | (cases h; rfl) | cases h
theorem toKs_ok : ∀ {ds : List D} {vs : List V} {ks : List Key}, Reps K F ρ H vs ds → toKs ds = some ks → vs = ks.map kV
  | [], _, _, h, e => by cases h; cases e; rfl
  | d :: ds, _, _, h, e => by
    cases h with
    | cons h1 h2 =>
      unfold toKs at e
      split at e
      · rename_i k ks hk hks
        cases e
        rw [toK_ok (σ := []) (.inr h1) hk, toKs_ok h2 hks]
        rfl
      · cases e
end
section
variable {κ : Type} [DecidableEq κ]
def lk : List (κ × D) → κ → Option D
  | [], _ => none
  | (k', d) :: r, k => if k' = k then some d else lk r k
def hasK : List (κ × D) → κ → Bool
  | [], _ => false
  | (k', _) :: r, k => if k' = k then true else hasK r k
/-- put the value at the key: at the key's place, or at the end -/
def pt (kvs : List (κ × D)) (k : κ) (d : D) : List (κ × D) := if hasK kvs k = true then kvs.map fun kv => if kv.1 = k then (kv.1, d) else kv else kvs ++ [(k, d)]
end
section
variable {K : PySem.W.Frag} {F : Addr → Prop} {ρ : List Addr} {H : Hp}
theorem RepK.lk : ∀ {kds : List (Key × D)} {kvs : List (Key × V)} (k : Key), RepK K F ρ H kvs kds → (∀ d, lk kds k = some d → ∃ v, valV kvs k = some v ∧ Rep K F ρ H v d) ∧ (lk kds k = none → valV kvs k = none)
  | [], _, k, h => by cases h; exact ⟨fun d e => (by cases e), fun _ => rfl⟩
  | (k', d') :: r, _, k, h => by
    cases h with
    | @cons _ v vs _ _ h1 h2 =>
      unfold DL.lk
      by_cases e : k' = k
      · rw [if_pos e, valV_pos (p := (k', v)) e]
        exact ⟨fun d q => (by cases q; exact ⟨_, rfl, h1⟩), fun q => (by cases q)⟩
      · rw [if_neg e, valV_neg (p := (k', v)) e]
        exact RepK.lk k h2
theorem RepT.lk : ∀ {kds : List (List Key × D)} {kvs : List (List Key × V)} (k : List Key), RepT K F ρ H kvs kds → (∀ d, DL.lk kds k = some d → ∃ v, valV kvs k = some v ∧ Rep K F ρ H v d) ∧ (DL.lk kds k = none → valV kvs k = none)
  | [], _, k, h => by cases h; exact ⟨fun d e => (by cases e), fun _ => rfl⟩
  | (k', d') :: r, _, k, h => by
    cases h with
    | @cons _ v vs _ _ h1 h2 =>
      unfold DL.lk
      by_cases e : k' = k
      · rw [if_pos e, valV_pos (p := (k', v)) e]
        exact ⟨fun d q => (by cases q; exact ⟨_, rfl, h1⟩), fun q => (by cases q)⟩
      · rw [if_neg e, valV_neg (p := (k', v)) e]
        exact RepT.lk k h2
theorem RepK.any : ∀ {kds : List (Key × D)} {kvs : List (Key × V)} (k : Key), RepK K F ρ H kvs kds → (kvs.any fun kv => decide (kv.1 = k)) = hasK kds k
  | [], _, k, h => by cases h; rfl
  | (k', d') :: r, _, k, h => by
    cases h with
    | @cons _ v vs _ _ h1 h2 =>
      unfold hasK
      rw [List.any_cons]
      by_cases e : k' = k
      · rw [if_pos e, decide_eq_true e, Bool.true_or]
      · rw [if_neg e, decide_eq_false e, Bool.false_or]
        exact RepK.any k h2
theorem RepT.any : ∀ {kds : List (List Key × D)} {kvs : List (List Key × V)} (k : List Key), RepT K F ρ H kvs kds → (kvs.any fun kv => decide (kv.1 = k)) = hasK kds k
  | [], _, k, h => by cases h; rfl
  | (k', d') :: r, _, k, h => by
    cases h with
    | @cons _ v vs _ _ h1 h2 =>
      unfold hasK
      rw [List.any_cons]
      by_cases e : k' = k
      · rw [if_pos e, decide_eq_true e, Bool.true_or]
      · rw [if_neg e, decide_eq_false e, Bool.false_or]
        exact RepT.any k h2
theorem RepK.append : ∀ {ds es : List (Key × D)} {vs us : List (Key × V)}, RepK K F ρ H vs ds → RepK K F ρ H us es → RepK K F ρ H (vs ++ us) (ds ++ es)
  | [], _, _, _, h, h' => by cases h; exact h'
  | _ :: _, _, _, _, h, h' => by cases h with | cons h1 h2 => exact .cons h1 (RepK.append h2 h')
theorem RepT.append : ∀ {ds es : List (List Key × D)} {vs us : List (List Key × V)}, RepT K F ρ H vs ds → RepT K F ρ H us es → RepT K F ρ H (vs ++ us) (ds ++ es)
  | [], _, _, _, h, h' => by cases h; exact h'
  | _ :: _, _, _, _, h, h' => by cases h with | cons h1 h2 => exact .cons h1 (RepT.append h2 h')
theorem RepK.repl {v : V} {d : D} (k : Key) (r : Rep K F ρ H v d) : ∀ {kds : List (Key × D)} {kvs : List (Key × V)}, RepK K F ρ H kvs kds → RepK K F ρ H (kvs.map fun kv => if kv.1 = k then (kv.1, v) else kv) (kds.map fun kv => if kv.1 = k then (kv.1, d) else kv)
  | [], _, h => by cases h; exact .nil
  | (k', d') :: _, _, h => by
    cases h with
    | cons h1 h2 =>
      rw [List.map_cons, List.map_cons]
      by_cases e : k' = k
      · rw [if_pos e, if_pos e]
        exact .cons r (RepK.repl k r h2)
      · rw [if_neg e, if_neg e]
        exact .cons h1 (RepK.repl k r h2)
theorem RepT.repl {v : V} {d : D} (k : List Key) (r : Rep K F ρ H v d) : ∀ {kds : List (List Key × D)} {kvs : List (List Key × V)}, RepT K F ρ H kvs kds → RepT K F ρ H (kvs.map fun kv => if kv.1 = k then (kv.1, v) else kv) (kds.map fun kv => if kv.1 = k then (kv.1, d) else kv)
  | [], _, h => by cases h; exact .nil
  | (k', d') :: _, _, h => by
    cases h with
    | cons h1 h2 =>
      rw [List.map_cons, List.map_cons]
      by_cases e : k' = k
      · rw [if_pos e, if_pos e]
        exact .cons r (RepT.repl k r h2)
      · rw [if_neg e, if_neg e]
        exact .cons h1 (RepT.repl k r h2)
theorem RepK.put {kds : List (Key × D)} {kvs : List (Key × V)} {v : V} {d : D} (k : Key) (h : RepK K F ρ H kvs kds) (r : Rep K F ρ H v d) : RepK K F ρ H (putK kvs k v) (pt kds k d) := by
  unfold putK pt
  rw [h.any k]
  split
  · exact RepK.repl k r h
  · exact h.append (.cons r .nil)
theorem RepT.put {kds : List (List Key × D)} {kvs : List (List Key × V)} {v : V} {d : D} (k : List Key) (h : RepT K F ρ H kvs kds) (r : Rep K F ρ H v d) : RepT K F ρ H (putK kvs k v) (pt kds k d) := by
  unfold putK pt
  rw [h.any k]
  split
  · exact RepT.repl k r h
  · exact h.append (.cons r .nil)
end

/-! ### a dict's display -/
/-- the keys are written; the values from the left -/
def ptAll (kvs : List (Key × D)) : List (Key × D) → List (Key × D)
  | [] => kvs
  | (k, d) :: r => ptAll (pt kvs k d) r
def eDict (ks : List Key) (f : AF) : EF := fun e s => (f e s).bind fun ds e s => if ds.length = ks.length ∧ ks.length ≤ 15 then .ok (.dk (ptAll [] (ks.zip ds))) e s else .stuck
theorem mergeK_all {K : PySem.W.Frag} {F : Addr → Prop} {ρ : List Addr} {H : Hp} : ∀ {more : List (Key × D)} {mv : List (Key × V)} {kds : List (Key × D)} {kvs : List (Key × V)}, RepK K F ρ H kvs kds → RepK K F ρ H mv more → RepK K F ρ H (mergeK kvs mv) (ptAll kds more)
  | [], _, _, _, h, h' => by cases h'; exact h
  | (k, d) :: r, _, _, _, h, h' => by
    cases h' with
    | @cons _ v vs _ _ h1 h2 =>
      show RepK K F ρ H (mergeK (putK _ k v) vs) (ptAll (pt _ k d) r)
      exact mergeK_all (h.put k h1) h2
/-- a written entry, key by key -/
structure KEx (X : Cx) (e : Expr) (k : Key) : Prop where
  ex : ∃ t, PE X e t ∧ ∀ σ H Q, Q (kV k) H → t σ H Q
theorem kex_str {i : Str} {j : Nat} : KEx X (.Constant (.str i) j pos) (.inr i) := ⟨_, pe_str, fun _ _ _ h => h⟩
theorem kex_int {i : Int} {j : Nat} : KEx X (.Constant (.int i) j pos) (.inl i) := ⟨_, pe_int, fun _ _ _ h => h⟩
/-- the entries of a display -/
structure DP (c : Dx) (X : Cx) (pos : Pos) (keys : List (Option Expr)) (vals : List Expr) (ks : List Key) (f : AF) : Prop where
  ex : ∃ trs, PPs X pos keys vals trs ∧ ∀ F ρ e st σ H (Q : List (V × V) → Hp → Prop), R X.K X.mg c F ρ e st σ H → APost X.K X.mg c e σ F ρ H (fun vs H' => Q ((ks.map kV).zip vs) H') (f e st) → tPairs trs σ H Q
theorem dp_nil : DP c X pos [] [] [] aNil := ⟨[], pps_nil, fun F ρ e st σ H Q r q => q F ρ H [] LeE.refl r .nil⟩
theorem dp_cons {k v : Expr} {keys : List (Option Expr)} {vals : List Expr} {kk : Key} {ks : List Key} {f : EF} {g : AF} (hk : KEx X k kk) (hv : DE c X v f) (hr : DP c X pos keys vals ks g) : DP c X pos (some k :: keys) (v :: vals) (kk :: ks) (aCons f g) := by
  obtain ⟨t, h1, h2⟩ := hk.ex
  obtain ⟨trs, h3, h4⟩ := hr.ex
  refine ⟨_, pps_cons h1 hv h3, fun F ρ e st σ H Q r q => ?_⟩
  refine h2 σ H _ ?_
  refine ⟨F, ρ, e, st, r, bindEA q fun F1 ρ1 e1 st1 H1 v d le1 r1 rx h5 => ?_⟩
  split at h5
  · rename_i d' e' hz
    obtain ⟨F', l, r', x⟩ := fz_ok r1 rx hz
    refine h4 F' ρ1 e' st1 σ H1 _ r' (bindAA (h5.shift l) fun F2 ρ2 e2 st2 H2 vs ds le2 r2 rs h6 => ?_)
    exact h6 F2 ρ2 H2 _ LeE.refl r2 (.cons (x.mono le2.toLe) rs)
  · exact h5.elim
theorem zip_rep {K : PySem.W.Frag} {F : Addr → Prop} {ρ : List Addr} {H : Hp} : ∀ {ks : List Key} {vs : List V} {ds : List D}, Reps K F ρ H vs ds → ds.length = ks.length → RepK K F ρ H (ks.zip vs) (ks.zip ds) ∧ (ks.map kV).zip vs = (ks.zip vs).map fun kv => (kV kv.1, kv.2)
  | [], _, _, _, _ => ⟨.nil, rfl⟩
  | k :: ks, _, [], h, e => by cases e
  | k :: ks, _, d :: ds, h, e => by
    cases h with
    | @cons v vs _ _ h1 h2 =>
      obtain ⟨q1, q2⟩ := zip_rep (ks := ks) h2 (by simpa using e)
      refine ⟨.cons h1 q1, ?_⟩
      rw [List.map_cons, List.zip_cons_cons, List.zip_cons_cons, List.map_cons, q2]
theorem dn_dict {keys : List (Option Expr)} {vals : List Expr} {ks : List Key} {f : AF} (h : DP c X pos keys vals ks f) (hall : keys.all (·.isSome) = true := by rfl) (hl : keys.length = vals.length := by rfl) (h0 : keys ≠ [] := by exact fun z => nomatch z) (h15 : keys.length ≤ 15 := by decide) :
    DN c X (.Dict keys vals pos) (eDict ks f) := by
  obtain ⟨trs, hp, hq⟩ := h.ex
  refine ⟨fun pins s σ H Q I ⟨F, ρ, e, st, r, q⟩ => (pe_disp hp hall hl h0 h15).run pins s σ H Q I fun p np => ?_⟩
  have w := allocW r.w (o := .dK []) np
  refine hq F ρ e st σ _ _ (r.ext w.2.1 w.1) ?_
  unfold eDict at q
  cases hr : f e st with
  | ok ds e' st' =>
    rw [hr] at q
    show ∀ F' ρ' H' vs, _ → _ → _ → _
    intro F' ρ' H' vs l r' rs
    simp only [AR.bind] at q
    split at q
    · rename_i hz
      obtain ⟨hz1, hz2⟩ := hz
      obtain ⟨r3, l3, le3, n1, n2, n3, h2⟩ := adopt (o := .dK (mergeK [] (ks.zip vs))) r np l r'
      obtain ⟨q1, q2⟩ := zip_rep rs hz1
      refine ⟨h2, ks.zip vs, q2, ?_, q F' ρ' _ p l3 r3 (.dk upd_same (mergeK_all .nil (q1.mono le3))) n1 n2 n3 np⟩
      rw [List.length_zip]
      exact Nat.le_trans (Nat.min_le_left _ _) hz2
    · exact q.elim
  | exc n e' st' => rw [hr] at q; exact q
  | stuck => rw [hr] at q; exact q
theorem dn_dict0 : DN c X (.Dict [] [] pos) (eK (.dk [])) := ⟨fun pins s σ H Q I ⟨F, ρ, e, st, r, q⟩ => pe_dnewK.run pins s σ H Q I fun p np => NPost.dk r .nil q np⟩
theorem dn_dict0T : DN c X (.Dict [] [] pos) (eK (.dt [])) := ⟨fun pins s σ H Q I ⟨F, ρ, e, st, r, q⟩ => pe_dnewT.run pins s σ H Q I fun p np => NPost.dt r .nil q np⟩

/-! ### in, not in -/
def flatD : D → Bool
  | .non => true
  | .bl _ => true
  | .int _ => true
  | .str _ => true
  | _ => false
def eqF : D → D → Bool
  | .non, .non => true
  | .bl a, .bl b => a == b
  | .bl a, .int b => (if a then 1 else 0) == b
  | .int a, .bl b => a == (if b then 1 else 0)
  | .int a, .int b => a == b
  | .str a, .str b => a == b
  | _, _ => false
section
variable {K : PySem.W.Frag} {mg : Str → Option Value} {F : Addr → Prop} {ρ : List Addr} {H : Hp} {σ : St}
theorem flat_ok {v : V} {d : D} (x : RepX K F ρ H σ v d) (h : flatD d = true) : flatV v = true ∧ Rep K F ρ H v d := by
  rcases x with ⟨i, a, rfl, rfl, hi⟩ | x
  · cases h
  · refine ⟨?_, x⟩
    cases x <;> first | rfl | cases h
theorem eqF_ok {v u : V} {d d' : D} (x : Rep K F ρ H v d) (y : Rep K F ρ H u d') (h : flatD d = true) (h' : flatD d' = true) : eqV v u = eqF d d' := by
  cases x <;> first | (cases h; done) | skip
  all_goals (cases y <;> first | rfl | (cases h'; done))
theorem flat_all : ∀ {ds : List D} {vs : List V}, Reps K F ρ H vs ds → ds.all flatD = true → vs.all flatV = true
  | [], _, h, _ => by cases h; rfl
  | d :: ds, _, h, e => by
    cases h with
    | cons h1 h2 =>
      rw [List.all_cons, Bool.and_eq_true] at e
      rw [List.all_cons, (flat_ok (σ := []) (.inr h1) e.1).1, flat_all h2 e.2]
      rfl
theorem in_ok {x : V} {d : D} (hx : Rep K F ρ H x d) (fx : flatD d = true) : ∀ {ds : List D} {vs : List V}, Reps K F ρ H vs ds → ds.all flatD = true → inV x vs = ds.any fun y => eqF y d
  | [], _, h, _ => by cases h; rfl
  | y :: ds, _, h, e => by
    cases h with
    | @cons u us _ _ h1 h2 =>
      rw [List.all_cons, Bool.and_eq_true] at e
      unfold inV
      rw [List.any_cons, List.any_cons, eqF_ok h1 hx e.1 fx]
      congr 1
      exact in_ok hx fx h2 e.2
end
def bxor (neg b : Bool) : Bool := if neg then !b else b
def gIn (neg : Bool) (x y : D) (e : Sl) (s : Sto) : ER := match vw y e s with
  | .dk kvs => (match toK x with | some k => .ok (.bl (bxor neg (lk kvs k).isSome)) e s | none => .stuck)
  | d => (match asSeq d with
    | some ds => if flatD x = true ∧ ds.all flatD = true then .ok (.bl (bxor neg (ds.any fun y => eqF y x))) e s else .stuck
    | none => .stuck)
def rDIn (neg : Bool) : R2 := fun y x H Q => ∃ a o, x = .ref a ∧ DGet H a y o ∧ Q (.bl (bxor neg o.isSome)) H
theorem op_DIn (hu : X.A.units + 1 < cLine) : OpR X (compareOp .In) (rDIn false) := by
  intro pins s σ H x y v u Q I rx ry h
  obtain ⟨a, o, rfl, g, q⟩ := h
  cases ry
  exact d_in hu I g rx fun s' I' => ⟨.bl o.isSome, H, I', rfl, q⟩
theorem op_DNotIn (hu : X.A.units + 1 < cLine) : OpR X (compareOp .NotIn) (rDIn true) := by
  intro pins s σ H x y v u Q I rx ry h
  obtain ⟨a, o, rfl, g, q⟩ := h
  cases ry
  exact d_notIn hu I g rx fun s' I' => ⟨.bl (!o.isSome), H, I', rfl, q⟩
abbrev rInD (K : PySem.W.Frag) (neg : Bool) : R2 := fun x y H Q => rDIn neg x y H Q ∨ rIn K neg x y H Q
theorem opD_in (neg : Bool) : OpD X (rInD X.K neg) (gIn neg) := by
  intro c F ρ e st σ H x y v u Q r rx ry h
  have hy := vw_ok r ry
  unfold gIn at h
  generalize vw y e st = dy at *
  split at h
  · cases hy with | dk b1 b2 b3 =>
    subst b1
    split at h
    · rename_i k hk
      cases toK_ok rx hk
      refine .inl ⟨_, _, rfl, .inl ⟨_, k, b2, rfl, rfl⟩, ?_⟩
      obtain ⟨q1, q2⟩ := b3.lk k
      cases hl : lk _ k with
      | none => rw [q2 hl]; rw [hl] at h; exact h.bl r
      | some d =>
        obtain ⟨w, hw, _⟩ := q1 d hl
        rw [hw]; rw [hl] at h; exact h.bl r
    · exact h.elim
  · split at h
    · rename_i ds hds
      obtain ⟨a, vs, rfl, hs, rs⟩ := hy.seq hds
      split at h
      · rename_i hf
        obtain ⟨f1, f2⟩ := flat_ok rx hf.1
        refine .inr ⟨a, vs, rfl, hs, f1, flat_all rs hf.2, ?_⟩
        rw [in_ok f2 hf.1 rs hf.2]
        exact h.bl r
      · exact h.elim
    · exact h.elim
theorem de_in (hu : X.A.units + 1 < cLine) (ha : DE c X a fa) (hb : DE c X b fb) (hm : behindInMarks .In b = false := by rfl) : DE c X (.Compare a [.In] [b] pos) (eBin (gIn false) fa fb) := de_op2 (pe_cmpR ((op_DIn hu).or op_in_seq) ha hb hm) (opD_in false)
theorem de_notIn (hu : X.A.units + 1 < cLine) (ha : DE c X a fa) (hb : DE c X b fb) (hm : behindInMarks .NotIn b = false := by rfl) : DE c X (.Compare a [.NotIn] [b] pos) (eBin (gIn true) fa fb) := de_op2 (pe_cmpR ((op_DNotIn hu).or op_notIn_seq) ha hb hm) (opD_in true)

/-! ### subscripts -/
def gIx (x y : D) (e : Sl) (s : Sto) : ER := match vw x e s, y with
  | .dk kvs, y => (match toK y with | some k => (match lk kvs k with | some d => .ok d e s | none => .stuck) | none => .stuck)
  | .dt kvs, .tup ks => (match toKs ks with | some k => (match lk kvs k with | some d => .ok d e s | none => .stuck) | none => .stuck)
  | .str z, .int i => (match atI z.cps.toList i with | some cp => if z.length ≤ lim then .ok (.str ⟨#[cp]⟩) e s else .stuck | none => .stuck)
  | d, .int i => (match asSeq d with | some ds => (match atI ds i with | some d => .ok d e s | none => .stuck) | none => .stuck)
  | _, _ => .stuck
theorem atI_ok {K : PySem.W.Frag} {F : Addr → Prop} {ρ : List Addr} {H : Hp} {vs : List V} {ds : List D} {i : Int} {d : D} (h : Reps K F ρ H vs ds) (e : atI ds i = some d) : ∃ v, atI vs i = some v ∧ Rep K F ρ H v d := by
  unfold atI at e ⊢
  rw [h.length]
  cases hx : ixN ds.length i with
  | none => rw [hx] at e; cases e
  | some j =>
    rw [hx] at e
    exact h.get (i := j) e
def rIxDT (K : PySem.W.Frag) : R2 := fun x y H Q => ∃ a b kvs k v, x = .ref a ∧ y = .ref b ∧ Rd H a (.dT kvs) ∧ SqT K H b (k.map kV) ∧ valV kvs k = some v ∧ Q v H
theorem key_sq {pins : List (Addr × Obj)} {σ : St} {H : Hp} {s : Shared} {b : Addr} {ks : List Key} (I : Inv X pins σ H s) (h : SqT X.K H b (ks.map kV)) : (tupleKind (mixKind X.prog X.w)).is s.heap ks b := by
  obtain ⟨its, r, ⟨o, h1, h2, n, h3⟩, _⟩ := I.tuple h
  exact ⟨o, its.toArray, n, h1, h2, h3, by simpa using items_are r⟩
theorem ix_dt (hu : X.A.units + 1 < cLine) : IxR X (rIxDT X.K) := by
  intro value slice pins s σ H x y v u Q I rx ry h hs
  obtain ⟨a, b, kvs, k, w, rfl, rfl, hd, hb, hl, q⟩ := h
  cases rx
  cases ry
  obtain ⟨z, _, xs, rel, dd⟩ := dt_rd I.hok hd
  obtain ⟨w', hw, rw'⟩ := RelO.some_of (v := w) (o := (atKey xs k).map (·.2)) (by rw [← hl]; exact rel.val k)
  obtain ⟨p, hp, hp2⟩ := Option.map_eq_some_iff.mp hw
  refine tail_any dd.typeIs PySem.F.slot_dict_getitem.lookup (wpAny_getItem_heap (tupleKind_room_in1 hu) (key_sq I hb) dd hp ?_) hs
  rw [hp2]
  exact ⟨w, H, I.tok _, rw', q⟩
abbrev rIxD (K : PySem.W.Frag) : R2 := fun x y H Q => ((∃ a v, x = .ref a ∧ DGet H a y (some v) ∧ Q v H) ∨ rIxDT K x y H Q) ∨ rIx K x y H Q
theorem ix_dict (hu : X.A.units + 1 < cLine) : IxR X (fun x y H Q => ∃ a v, x = .ref a ∧ DGet H a y (some v) ∧ Q v H) := by
  intro value slice pins s σ H x y v u Q I rx ry h hs
  obtain ⟨a, w, rfl, g, q⟩ := h
  cases rx
  exact tail_any (dict_typeIs I g) PySem.F.slot_dict_getitem.lookup (d_getItem hu I g ry fun w' s3 I3 rw' => ⟨w, H, I3, rw', q⟩) hs
theorem opD_ix : OpD X (rIxD X.K) gIx := by
  intro c F ρ e st σ H x y v u Q r rx ry h
  have hx := vw_ok r rx
  unfold gIx at h
  generalize vw x e st = dx at *
  split at h
  · cases hx with | dk b1 b2 b3 =>
    subst b1
    split at h
    · rename_i k hk
      cases toK_ok ry hk
      split at h
      · rename_i d hd
        obtain ⟨w, hw, rw'⟩ := (b3.lk k).1 d hd
        exact .inl (.inl ⟨_, w, rfl, .inl ⟨_, k, b2, rfl, hw.symm⟩, h.pure r rw'⟩)
      · exact h.elim
    · exact h.elim
  · cases hx with | dt b1 b2 b3 =>
    subst b1
    split at h
    · rename_i k hk
      split at h
      · rename_i d hd
        obtain ⟨w, hw, rw'⟩ := (b3.lk k).1 d hd
        rcases ry with ⟨_, _, q, _⟩ | ry
        · cases q
        · cases ry with
          | tup t1 t2 =>
            exact .inl (.inr ⟨_, _, _, k, w, rfl, rfl, .inl b2, by rw [← toKs_ok t2 hk]; exact t1.sq, hw, h.pure r rw'⟩)
      · exact h.elim
    · exact h.elim
  · cases hx with | str b1 =>
    subst b1
    cases repI ry
    split at h
    · rename_i cp hc
      split at h
      · rename_i hz
        exact .inr (.inr (.inr ⟨_, _, cp, rfl, rfl, lim_le hz, hc, h.sc r fun _ _ _ => .str _⟩))
      · exact h.elim
    · exact h.elim
  · cases repI ry
    split at h
    · rename_i ds hds
      obtain ⟨a, vs, rfl, hs, rs⟩ := hx.seq hds
      split at h
      · rename_i d hd
        obtain ⟨w, hw, rw'⟩ := atI_ok rs hd
        rcases hs with hs | hs
        · exact .inr (.inl ⟨a, vs, _, w, rfl, rfl, hs, hw, h.pure r rw'⟩)
        · exact .inr (.inr (.inl ⟨a, vs, _, w, rfl, rfl, hs, hw, h.pure r rw'⟩))
      · exact h.elim
    · exact h.elim
  · exact h.elim
theorem de_ix (hu : X.A.units + 1 < cLine) (ha : DE c X a fa) (hb : DE c X b fb) (hs : PlainIx b := by exact fun _ _ => rfl) : DE c X (.Subscript a b pos) (eBin gIx fa fb) := de_op2 (pe_ix (((ix_dict hu).or (ix_dt hu)).or ix_seq) ha hb hs) opD_ix
end
end DL
end
section
set_option Elab.async false
set_option linter.all false
set_option maxRecDepth 100000
set_option maxHeartbeats 4000000
set_option autoImplicit false
/-! DLE: slices, truth, built-ins. -/
namespace DL
open PySem PySem.Spec L2
open PyProof.Rows hiding St
section
variable {X : Cx} {c : Dx} {a b ex : Expr} {es : List Expr} {fa fb : EF} {fs : AF} {pos : Pos} {f : EF}

/-! ### slices -/
def cutD (xs : List D) (lo hi : Option Int) : List D := (xs.drop (HT.sIx xs.length 0 lo)).take (HT.sIx xs.length xs.length hi - HT.sIx xs.length 0 lo)
theorem cut_ok {K : PySem.W.Frag} {F : Addr → Prop} {ρ : List Addr} {H : Hp} {vs : List V} {ds : List D} (h : Reps K F ρ H vs ds) (lo hi : Option Int) : Reps K F ρ H (cutV vs lo hi) (cutD ds lo hi) := by
  unfold cutV cutD
  rw [h.length]
  exact (h.drop _).take _
/-- a part of a slice -/
def PF := Sl → Sto → ER
structure DPart (c : Dx) (X : Cx) (o : Option Expr) (g : Option EF) : Prop where
  no : g = none → o = none
  so : ∀ f, g = some f → ∃ e, o = some e ∧ DE c X e f
theorem dp_none : DPart c X none none := ⟨fun _ => rfl, fun _ h => nomatch h⟩
theorem dp_some (h : DE c X a fa) : DPart c X (some a) (some fa) := ⟨(fun h => nomatch h), fun f q => (by cases q; exact ⟨a, rfl, h⟩)⟩
def ePart (g : Option EF) (k : Option Int → Sl → Sto → ER) : Sl → Sto → ER := match g with
  | none => k none
  | some f => fun e s => (f e s).bind fun d e s => match d with | .int i => k (some i) e s | _ => .stuck
def gCut (x : D) (lo hi : Option Int) (e : Sl) (s : Sto) : ER := match vw x e s with
  | .tup ds => .ok (.tup (cutD ds lo hi)) e s
  | .lst ds => .ok (.lst (cutD ds lo hi)) e s
  | .scr ds => .ok (.lst (cutD ds lo hi)) e s
  | _ => .stuck
def eSl (fx : EF) (lo hi : Option EF) : EF := fun e s => (fx e s).bind fun x e s => ePart lo (fun l => ePart hi fun h => gCut x l h) e s
abbrev rSlD (K : PySem.W.Frag) : V → Option Int → Option Int → Hp → VK → Prop := fun x lo hi H Q => rSlL K x lo hi H Q ∨ rSlA K x lo hi H Q
theorem cut_whole {xs : List D} {lo hi : Option Int} (h : HT.sIx xs.length 0 lo = 0 ∧ HT.sIx xs.length xs.length hi = xs.length) : cutD xs lo hi = xs := by
  unfold cutD
  rw [h.1, h.2]
  simp
theorem gCut_ok {F : Addr → Prop} {ρ : List Addr} {H : Hp} {e : Sl} {st : Sto} {σ : St} {Q : VK} {x : D} {v : V} {lo hi : Option Int} (r : R X.K X.mg c F ρ e st σ H) (rx : RepX X.K F ρ H σ v x) (h : EPost X.K X.mg c e σ F ρ H Q (gCut x lo hi e st)) : rSlD X.K v lo hi H Q := by
  have hx := vw_ok r rx
  unfold gCut at h
  generalize vw x e st = dx at *
  split at h
  · cases hx with | tup a1 a2 a3 =>
    subst a1
    refine .inr ⟨_, _, rfl, a2.sq, fun hw => ?_, fun hw p hp => h.tup r (cut_ok a3 lo hi) hp⟩
    rw [a3.length] at hw
    rw [cut_whole hw] at h
    exact h.pure r (.tup a2 a3)
  · cases hx with | lst a1 a2 a3 =>
    subst a1
    exact .inl ⟨_, _, rfl, .of a2, fun p hp => h.lst r (cut_ok a3 lo hi) hp⟩
  · cases hx with | scr a1 a2 a3 =>
    subst a1
    exact .inl ⟨_, _, rfl, a2, fun p hp => h.lst r (cut_ok a3 lo hi) hp⟩
  · exact h.elim
theorem dpart_po {o : Option Expr} {g : Option EF} (h : DPart c X o g) : PO X o (fun σ H Q => ∃ F ρ e st, R X.K X.mg c F ρ e st σ H ∧ ∃ (k : Option Int → Sl → Sto → ER) (Q0 : VK), EPost X.K X.mg c e σ F ρ H Q0 (ePart g k e st) ∧
    ∀ F1 ρ1 e1 st1 H1 i, LeE e e1 σ F ρ H F1 ρ1 H1 → R X.K X.mg c F1 ρ1 e1 st1 σ H1 → EPost X.K X.mg c e1 σ F1 ρ1 H1 Q0 (k i e1 st1) → Q i H1) := by
  cases g with
  | none =>
    cases h.no rfl
    exact ⟨fun pins s σ H Q I ⟨F, ρ, e, st, r, k, Q0, q, n⟩ => po_none.run pins s σ H Q I (n F ρ e st H none LeE.refl r q)⟩
  | some f =>
    obtain ⟨e0, rfl, he⟩ := h.so f rfl
    refine ⟨fun pins s σ H Q I ⟨F, ρ, e, st, r, k, Q0, q, n⟩ => (po_some he).run pins s σ H Q I ⟨F, ρ, e, st, r, bindE q fun F1 ρ1 e1 st1 H1 v d le1 r1 rx h1 => ?_⟩⟩
    split at h1
    · cases repI rx
      exact ⟨_, rfl, n F1 ρ1 e1 st1 H1 _ le1 r1 h1⟩
    · exact h1.elim
theorem de_sl {lo hi : Option Expr} {gl gh : Option EF} {p2 : Pos} (ha : DE c X a fa) (hl : DPart c X lo gl) (hh : DPart c X hi gh) : DE c X (.Subscript a (.Slice lo hi none p2) pos) (eSl fa gl gh) := by
  refine de_imp (pe_slice (SlR.or sl_list sl_tupA) ha (dpart_po hl) (dpart_po hh)) fun F ρ e st σ H Q r q => ?_
  refine ⟨F, ρ, e, st, r, bindE q fun F1 ρ1 e1 st1 H1 v x le1 r1 rx h1 => ?_⟩
  refine ⟨F1, ρ1, e1, st1, r1, _, Q, h1, fun F2 ρ2 e2 st2 H2 l le2 r2 h2 => ?_⟩
  refine ⟨F2, ρ2, e2, st2, r2, _, Q, h2, fun F3 ρ3 e3 st3 H3 u le3 r3 h3 => ?_⟩
  exact gCut_ok r3 (rx.mono (le2.toLe.trans le3.toLe)) h3
/-- xs[::-1], a list -/
def gRev (x : D) (e : Sl) (s : Sto) : ER := match vw x e s with
  | .lst ds => .ok (.lst ds.reverse) e s
  | _ => .stuck
theorem de_rev {k : Nat} {p1 p2 p3 : Pos} (ha : DE c X a fa) : DE c X (.Subscript a (.Slice none none (some (.UnaryOp .USub (.Constant (.int 1) k p1) p2)) p3) pos) (eUn gRev fa) := by
  refine de_imp (pe_revL ha) fun F ρ e st σ H Q r q => ⟨F, ρ, e, st, r, bindE q fun F1 ρ1 e1 st1 H1 v x le1 r1 rx h1 => ?_⟩
  have hx := vw_ok r1 rx
  unfold gRev at h1
  generalize vw x e1 st1 = dx at *
  split at h1
  · cases hx with | lst a1 a2 a3 =>
    subst a1
    exact ⟨_, _, rfl, .of a2, fun p hp => h1.lst r1 a3.reverse hp⟩
  · exact h1.elim

/-! ### truth: and, or, not as values and as tests -/
def eAnd (fa fb : EF) : EF := fun e s => (fa e s).bind fun x e s => match x with | .bl true => fb e s | .bl false => .ok (.bl false) e s | _ => .stuck
def eOr (fa fb : EF) : EF := fun e s => (fa e s).bind fun x e s => match x with | .bl true => .ok (.bl true) e s | .bl false => fb e s | _ => .stuck
def gNot (x : D) (e : Sl) (s : Sto) : ER := match x with | .bl k => .ok (.bl (!k)) e s | _ => .stuck
def eIf (fc fa fb : EF) : EF := fun e s => (fc e s).bind fun x e s => match x with | .bl true => fa e s | .bl false => fb e s | _ => .stuck
theorem de_one {op : BoolOp} (h : DE c X a fa) : DE c X (.BoolOp op [a] pos) fa := pe_one h
theorem de_and {rest : List Expr} (ha : DE c X a fa) (hb : DE c X (.BoolOp .And (b :: rest) pos) fb) : DE c X (.BoolOp .And (a :: b :: rest) pos) (eAnd fa fb) := by
  refine de_imp (pe_and ha hb) fun F ρ e st σ H Q r q => ⟨F, ρ, e, st, r, bindE q fun F1 ρ1 e1 st1 H1 v x le1 r1 rx h1 => ?_⟩
  split at h1
  · cases repB rx
    exact ⟨true, rfl, by rw [if_pos rfl]; exact ⟨F1, ρ1, e1, st1, r1, h1⟩⟩
  · cases repB rx
    exact ⟨false, rfl, by rw [if_neg Bool.false_ne_true]; exact h1.bl r1⟩
  · exact h1.elim
theorem de_or {rest : List Expr} (ha : DE c X a fa) (hb : DE c X (.BoolOp .Or (b :: rest) pos) fb) : DE c X (.BoolOp .Or (a :: b :: rest) pos) (eOr fa fb) := by
  refine de_imp (pe_or ha hb) fun F ρ e st σ H Q r q => ⟨F, ρ, e, st, r, bindE q fun F1 ρ1 e1 st1 H1 v x le1 r1 rx h1 => ?_⟩
  split at h1
  · cases repB rx
    exact ⟨true, rfl, by rw [if_pos rfl]; exact h1.bl r1⟩
  · cases repB rx
    exact ⟨false, rfl, by rw [if_neg Bool.false_ne_true]; exact ⟨F1, ρ1, e1, st1, r1, h1⟩⟩
  · exact h1.elim
theorem de_not (ha : DE c X a fa) : DE c X (.UnaryOp .Not a pos) (eUn gNot fa) := by
  refine de_imp (pe_not ha) fun F ρ e st σ H Q r q => ⟨F, ρ, e, st, r, bindE q fun F1 ρ1 e1 st1 H1 v x le1 r1 rx h1 => ?_⟩
  unfold gNot at h1
  split at h1
  · cases repB rx
    exact ⟨_, rfl, h1.bl r1⟩
  · exact h1.elim
section
variable {K : PySem.W.Frag} {mg : Str → Option Value} {F F1 : Addr → Prop} {ρ ρ1 : List Addr} {H H1 : Hp} {e e1 : Sl} {σ : St} {st : Sto} {Q : Bool → Hp → Prop}
theorem TPost.shift {r : ER} (le : LeE e e1 σ F ρ H F1 ρ1 H1) (h : TPost K mg c e σ F ρ H Q r) : TPost K mg c e1 σ F1 ρ1 H1 Q r := by
  cases r with
  | ok d e' st' =>
    cases d with
    | bl b => exact fun F' ρ' H' l r => h F' ρ' H' (le.trans l) r
    | _ => exact h
  | exc n e' st' => exact h
  | stuck => exact h
theorem bindT {r : ER} {k : D → Sl → Sto → ER} {Q' : Bool → Hp → Prop} (h : TPost K mg c e σ F ρ H Q (r.bind k)) (hb : ∀ d e s, (∀ b, d ≠ .bl b) → k d e s = .stuck)
    (q : ∀ F1 ρ1 e1 st1 H1 b, LeE e e1 σ F ρ H F1 ρ1 H1 → R K mg c F1 ρ1 e1 st1 σ H1 → TPost K mg c e1 σ F1 ρ1 H1 Q (k (.bl b) e1 st1) → Q' b H1) : TPost K mg c e σ F ρ H Q' r := by
  cases r with
  | ok d e' st' =>
    by_cases hd : ∃ b, d = .bl b
    · obtain ⟨b, rfl⟩ := hd
      exact fun F' ρ' H' l r => q F' ρ' e' st' H' b l r (TPost.shift (r := k (.bl b) e' st') l h)
    · have := hb d e' st' fun b z => hd ⟨b, z⟩
      rw [show (ER.ok d e' st').bind k = k d e' st' from rfl, this] at h
      exact h.elim
  | exc n e' st' => exact h
  | stuck => exact h
/-- a test by a value that is True or False -/
theorem TPost.of {r : ER} (h : TPost K mg c e σ F ρ H Q r) : EPost K mg c e σ F ρ H (fun v H' => ∃ b, v = .bl b ∧ Q b H') r := by
  cases r with
  | ok d e' st' =>
    cases d with
    | bl b => exact fun F' ρ' H' v l r x => by cases repB x; exact ⟨b, rfl, h F' ρ' H' l r⟩
    | _ => exact h.elim
  | exc n e' st' => exact h
  | stuck => exact h
end
theorem dt_imp {e : Expr} {t : TT} {f : EF} (h : PT X e t) (k : ∀ F ρ e st σ H Q, R X.K X.mg c F ρ e st σ H → TPost X.K X.mg c e σ F ρ H Q (f e st) → t σ H Q) : DT c X e f :=
  ⟨fun pins s σ H Q I ⟨F, ρ, e, st, r, q⟩ => h.run pins s σ H Q I (k F ρ e st σ H Q r q)⟩
/-- any value that is True or False, as a test -/
theorem dt_val (h : DE c X a fa) (he : ∀ whole, isTrue a X.env whole = (do let v ← whole; standAt a.pos; holding [v] (truthy v)) := by intro _; rfl) : DT c X a fa :=
  dt_imp (pt_val h he) fun F ρ e st σ H Q r q => ⟨F, ρ, e, st, r, q.of⟩
theorem dt_cmp {op : CmpOp} {t : TE} (hp : PT X (.Compare a [op] [b] pos) (tTest t)) (k : ∀ F ρ e st σ H Q, R X.K X.mg c F ρ e st σ H → EPost X.K X.mg c e σ F ρ H Q (f e st) → t σ H Q) : DT c X (.Compare a [op] [b] pos) f :=
  dt_imp hp fun F ρ e st σ H Q r q => k F ρ e st σ H _ r q.of
structure DW (c : Dx) (X : Cx) (e : Expr) (f : EF) : Prop where
  p : PW X e (tTD X.K X.mg c f)
theorem dw_and1 (h : DT c X a fa) : DW c X (.BoolOp .And [a] pos) fa := ⟨pw_and1 h⟩
theorem dw_or1 (h : DT c X a fa) : DW c X (.BoolOp .Or [a] pos) fa := ⟨pw_or1 h⟩
theorem dw_and {rest : List Expr} (ha : DT c X a fa) (hb : DW c X (.BoolOp .And (b :: rest) pos) fb) : DW c X (.BoolOp .And (a :: b :: rest) pos) (eAnd fa fb) := by
  refine ⟨⟨fun whole pins s σ H Q I ⟨F, ρ, e, st, r, q⟩ => (pw_and ha hb.p).run whole pins s σ H Q I ⟨F, ρ, e, st, r, bindT q (fun d e s n => ?_) fun F1 ρ1 e1 st1 H1 b le1 r1 h1 => ?_⟩⟩⟩
  · cases d <;> first | rfl | exact absurd rfl (n _)
  · cases b with
    | true => rw [if_pos rfl]; exact ⟨F1, ρ1, e1, st1, r1, h1⟩
    | false => rw [if_neg Bool.false_ne_true]; exact h1 F1 ρ1 H1 LeE.refl r1
theorem dw_or {rest : List Expr} (ha : DT c X a fa) (hb : DW c X (.BoolOp .Or (b :: rest) pos) fb) : DW c X (.BoolOp .Or (a :: b :: rest) pos) (eOr fa fb) := by
  refine ⟨⟨fun whole pins s σ H Q I ⟨F, ρ, e, st, r, q⟩ => (pw_or ha hb.p).run whole pins s σ H Q I ⟨F, ρ, e, st, r, bindT q (fun d e s n => ?_) fun F1 ρ1 e1 st1 H1 b le1 r1 h1 => ?_⟩⟩⟩
  · cases d <;> first | rfl | exact absurd rfl (n _)
  · cases b with
    | true => rw [if_pos rfl]; exact h1 F1 ρ1 H1 LeE.refl r1
    | false => rw [if_neg Bool.false_ne_true]; exact ⟨F1, ρ1, e1, st1, r1, h1⟩
theorem DW.t (h : DW c X a fa) : DT c X a fa := h.p.pt
theorem dt_not (h : DT c X a fa) : DT c X (.UnaryOp .Not a pos) (eUn gNot fa) :=
  dt_imp (pt_not h) fun F ρ e st σ H Q r q => ⟨F, ρ, e, st, r, bindT q (fun d e s n => by cases d <;> first | rfl | exact absurd rfl (n _)) fun F1 ρ1 e1 st1 H1 b le1 r1 h1 => h1 F1 ρ1 H1 LeE.refl r1⟩
theorem de_ifx {cx : Expr} {fc : EF} (hc : DT c X cx fc) (ha : DE c X a fa) (hb : DE c X b fb) : DE c X (.IfExp cx a b pos) (eIf fc fa fb) := by
  refine de_imp (pe_ifExp hc ha hb) fun F ρ e st σ H Q r q => ⟨F, ρ, e, st, r, ?_⟩
  unfold eIf at q
  cases hr : fc e st with
  | ok d e' st' =>
    rw [hr] at q
    simp only [ER.bind] at q
    split at q
    · intro F' ρ' H' l r'
      rw [if_pos rfl]
      exact ⟨F', ρ', e', st', r', EPost.shift l q⟩
    · intro F' ρ' H' l r'
      rw [if_neg Bool.false_ne_true]
      exact ⟨F', ρ', e', st', r', EPost.shift l q⟩
    · exact q.elim
  | exc n e' st' => rw [hr] at q; exact q
  | stuck => rw [hr] at q; exact q
/-! ### comparisons, as values and as tests -/
structure Cm (c : Dx) (X : Cx) (op : CmpOp) (a b : Expr) (pos : Pos) (f : EF) : Prop where
  e : DE c X (.Compare a [op] [b] pos) f
  t : DT c X (.Compare a [op] [b] pos) f
theorem cm_of {op : CmpOp} {r : R2} {g : D → D → Sl → Sto → ER} (ho : OpR X (compareOp op) r) (hd : OpD X r g) (ha : DE c X a fa) (hb : DE c X b fb) (hm : behindInMarks op b = false) : Cm c X op a b pos (eBin g fa fb) := by
  have main : ∀ F ρ e st σ H Q, R X.K X.mg c F ρ e st σ H → EPost X.K X.mg c e σ F ρ H Q (eBin g fa fb e st) → tOp r (tED X.K X.mg c fa) (tED X.K X.mg c fb) σ H Q := fun F ρ e st σ H Q hr h =>
    ⟨F, ρ, e, st, hr, bindE h fun F1 ρ1 e1 st1 H1 v x le1 r1 rx h1 => ⟨F1, ρ1, e1, st1, r1, bindE h1 fun F2 ρ2 e2 st2 H2 u y le2 r2 ry h2 => hd c F2 ρ2 e2 st2 σ H2 x y v u Q r2 (rx.mono le2.toLe) ry h2⟩⟩
  exact ⟨de_imp (pe_cmpR ho ha hb hm) main, dt_imp (pt_cmpR ho ha hb hm) fun F ρ e st σ H Q r q => main F ρ e st σ H _ r q.of⟩
theorem opD_lt : OpD X (rI0 fun i j => .bl (decide (i < j))) (gI kLt) := opD_I fun i j d h => by cases h; exact ⟨_, fun _ _ _ _ => .bl _, fun H Q q => ⟨_, _, rfl, rfl, q⟩⟩
theorem opD_le : OpD X (rI0 fun i j => .bl (decide (i ≤ j))) (gI kLe) := opD_I fun i j d h => by cases h; exact ⟨_, fun _ _ _ _ => .bl _, fun H Q q => ⟨_, _, rfl, rfl, q⟩⟩
theorem opD_gt : OpD X (rI0 fun i j => .bl (decide (j < i))) (gI fun i j => kLt j i) := opD_I fun i j d h => by cases h; exact ⟨_, fun _ _ _ _ => .bl _, fun H Q q => ⟨_, _, rfl, rfl, q⟩⟩
theorem opD_ge : OpD X (rI0 fun i j => .bl (decide (j ≤ i))) (gI fun i j => kLe j i) := opD_I fun i j d h => by cases h; exact ⟨_, fun _ _ _ _ => .bl _, fun H Q q => ⟨_, _, rfl, rfl, q⟩⟩
theorem cm_lt (ha : DE c X a fa) (hb : DE c X b fb) : Cm c X .Lt a b pos (eBin (gI kLt) fa fb) := cm_of op_lt opD_lt ha hb (nomark _)
theorem cm_le (ha : DE c X a fa) (hb : DE c X b fb) : Cm c X .LtE a b pos (eBin (gI kLe) fa fb) := cm_of op_le opD_le ha hb (nomark _)
theorem cm_gt (ha : DE c X a fa) (hb : DE c X b fb) : Cm c X .Gt a b pos (eBin (gI fun i j => kLt j i) fa fb) := cm_of op_gt opD_gt ha hb (nomark _)
theorem cm_ge (ha : DE c X a fa) (hb : DE c X b fb) : Cm c X .GtE a b pos (eBin (gI fun i j => kLe j i) fa fb) := cm_of op_ge opD_ge ha hb (nomark _)
theorem cm_in (hu : X.A.units + 1 < cLine) (ha : DE c X a fa) (hb : DE c X b fb) (hm : behindInMarks .In b = false := by rfl) : Cm c X .In a b pos (eBin (gIn false) fa fb) := cm_of ((op_DIn hu).or op_in_seq) (opD_in false) ha hb hm
theorem cm_notIn (hu : X.A.units + 1 < cLine) (ha : DE c X a fa) (hb : DE c X b fb) (hm : behindInMarks .NotIn b = false := by rfl) : Cm c X .NotIn a b pos (eBin (gIn true) fa fb) := cm_of ((op_DNotIn hu).or op_notIn_seq) (opD_in true) ha hb hm
theorem opD_isB : OpD X rIsB gIsB := fun c F ρ e st σ H x y v u Q r rx ry h => by
  unfold gIsB at h
  split at h
  · cases repB rx
    cases repB ry
    exact ⟨_, _, rfl, rfl, h.bl r⟩
  · exact h.elim
theorem opD_notB : OpD X rNotB gNotB := fun c F ρ e st σ H x y v u Q r rx ry h => by
  unfold gNotB at h
  split at h
  · cases repB rx
    cases repB ry
    exact ⟨_, _, rfl, rfl, h.bl r⟩
  · exact h.elim
theorem cm_isB (ha : DE c X a fa) (hb : DE c X b fb) : Cm c X .Is a b pos (eBin gIsB fa fb) := cm_of op_isBl opD_isB ha hb (nomark _)
theorem cm_notB (ha : DE c X a fa) (hb : DE c X b fb) : Cm c X .IsNot a b pos (eBin gNotB fa fb) := cm_of op_notBl opD_notB ha hb (nomark _)
theorem cm_isN {j : Nat} {pos' : Pos} (ha : DE c X a fa) : Cm c X .Is a (.Constant .none j pos') pos (eUn (gIsN .non) fa) := by
  refine ⟨de_isN ha, dt_imp (pt_cmp (pc_isN ha)) fun F ρ e st σ H Q r q => ⟨F, ρ, e, st, r, bindE q.of fun F1 ρ1 e1 st1 H1 v x le1 r1 rx h1 => ?_⟩⟩
  show ∃ k, V.bl (decide (v = .non)) = .bl k ∧ Q k H1
  rw [isN_iff rx]
  exact h1.bl r1
theorem cm_notN {j : Nat} {pos' : Pos} (ha : DE c X a fa) : Cm c X .IsNot a (.Constant .none j pos') pos (eUn (gNotN .non) fa) := by
  refine ⟨de_notN ha, dt_imp (pt_cmp (pc_notN ha)) fun F ρ e st σ H Q r q => ⟨F, ρ, e, st, r, bindE q.of fun F1 ρ1 e1 st1 H1 v x le1 r1 rx h1 => ?_⟩⟩
  show ∃ k, V.bl (!decide (v = .non)) = .bl k ∧ Q k H1
  rw [isN_iff rx]
  exact h1.bl r1
/-- a < b < c, ints -/
def eChain (k k' : Int → Int → Bool) (fa fb fc : EF) : EF := fun e s => (fa e s).bind fun x e s => (fb e s).bind fun y e s => match x, y with
  | .int i, .int j => if k i j = true then (fc e s).bind (fun z e s => match z with | .int l => .ok (.bl (k' j l)) e s | _ => .stuck) else .ok (.bl false) e s
  | _, _ => .stuck
def bLt (i j : Int) : Bool := decide (i < j)
def bLe (i j : Int) : Bool := decide (i ≤ j)
structure Ch (c : Dx) (X : Cx) (op op' : CmpOp) (a b d : Expr) (pos : Pos) (f : EF) : Prop where
  e : DE c X (.Compare a [op, op'] [b, d] pos) f
  t : DT c X (.Compare a [op, op'] [b, d] pos) f
theorem ch_of {op op' : CmpOp} {k k' : Int → Int → Bool} {d : Expr} {fd : EF} (ho : OpR X (compareOp op) (rI0 fun i j => .bl (k i j))) (ho' : OpR X (compareOp op') (rI0 fun i j => .bl (k' i j))) (ha : DE c X a fa) (hb : DE c X b fb) (hd : DE c X d fd)
    (hm : lastMarks [op, op'] [b, d] = false) : Ch c X op op' a b d pos (eChain k k' fa fb fd) := by
  have main : ∀ F ρ e st σ H Q, R X.K X.mg c F ρ e st σ H → EPost X.K X.mg c e σ F ρ H Q (eChain k k' fa fb fd e st) → tChain (rI0 fun i j => .bl (k i j)) (rI0 fun i j => .bl (k' i j)) (tED X.K X.mg c fa) (tED X.K X.mg c fb) (tED X.K X.mg c fd) σ H Q := fun F ρ e st σ H Q hr h => by
    refine ⟨F, ρ, e, st, hr, bindE h fun F1 ρ1 e1 st1 H1 v x le1 r1 rx h1 => ⟨F1, ρ1, e1, st1, r1, bindE h1 fun F2 ρ2 e2 st2 H2 u y le2 r2 ry h2 => ?_⟩⟩
    split at h2
    · rename_i i j
      cases repI rx
      cases repI ry
      refine ⟨i, j, rfl, rfl, k i j, rfl, ?_⟩
      split at h2
      · rename_i hk
        rw [if_pos hk]
        refine ⟨F2, ρ2, e2, st2, r2, bindE h2 fun F3 ρ3 e3 st3 H3 w z le3 r3 rz h3 => ?_⟩
        split at h3
        · cases repI rz
          exact ⟨_, _, rfl, rfl, h3.bl r3⟩
        · exact h3.elim
      · rename_i hk
        rw [if_neg hk]
        exact h2.bl r2
    · exact h2.elim
  exact ⟨de_imp (pe_chain ho ho' ha hb hd hm) main, dt_imp (pt_chain ho ho' ha hb hd hm) fun F ρ e st σ H Q r q => main F ρ e st σ H _ r q.of⟩
theorem ch_leLt {d : Expr} {fd : EF} (ha : DE c X a fa) (hb : DE c X b fb) (hd : DE c X d fd) (hm : lastMarks [.LtE, .Lt] [b, d] = false := by with_unfolding_all rfl) : Ch c X .LtE .Lt a b d pos (eChain bLe bLt fa fb fd) := ch_of op_le op_lt ha hb hd hm
theorem ch_leLe {d : Expr} {fd : EF} (ha : DE c X a fa) (hb : DE c X b fb) (hd : DE c X d fd) (hm : lastMarks [.LtE, .LtE] [b, d] = false := by with_unfolding_all rfl) : Ch c X .LtE .LtE a b d pos (eChain bLe bLe fa fb fd) := ch_of op_le op_le ha hb hd hm

/-! ### calls of built-ins -/
theorem de_b1 {id : String} {x : Str} {p : Pos} {r : List V → Hp → VK → Prop} {g : D → Sl → Sto → ER} (hc : CallR X (.builtin id) r) (hg : Gl X x) (hm : X.mg x = none) (hv : bootBuiltins x = some (.builtin id))
    (ho : ∀ (F : Addr → Prop) (ρ : List Addr) (e : Sl) (st : Sto) (σ : St) (H : Hp) (x : D) (v : V) (Q : VK), R X.K X.mg c F ρ e st σ H → RepX X.K F ρ H σ v x → EPost X.K X.mg c e σ F ρ H Q (g x e st) → r [v] H Q)
    (ha : DE c X a fa) (hn : x ≠ "__name__" := by decide) (hdb : (x == ("__debug__" : Str)) = false := by decide)
    (he : starEach [a] X.env = (false, eval a X.env) :: starEach [] X.env := by rfl) (hpl : (backTo pos (starEach [] X.env)).any (·.1) = false := by rfl) : DE c X (.Call (.Name x p) [a] [] pos) (eUn g fa) := by
  refine de_imp (pe_callB hc hg hm hv (pa_cons ha pa_nil he) hn hdb he hpl) fun F ρ e st σ H Q r q => ⟨F, ρ, e, st, r, bindE q fun F1 ρ1 e1 st1 H1 v d le1 r1 rx h1 => ?_⟩
  exact ho F1 ρ1 e1 st1 σ H1 d v Q r1 rx h1
theorem de_t1 {T : String} {x : Str} {p : Pos} {r : List V → Hp → VK → Prop} {g : D → Sl → Sto → ER} (hc : CallR X (.type T) r) (hg : Gl X x) (hm : X.mg x = none) (hv : bootBuiltins x = some (.type T))
    (ho : ∀ (F : Addr → Prop) (ρ : List Addr) (e : Sl) (st : Sto) (σ : St) (H : Hp) (x : D) (v : V) (Q : VK), R X.K X.mg c F ρ e st σ H → RepX X.K F ρ H σ v x → EPost X.K X.mg c e σ F ρ H Q (g x e st) → r [v] H Q)
    (ha : DE c X a fa) (hn : x ≠ "__name__" := by decide) (hdb : (x == ("__debug__" : Str)) = false := by decide)
    (he : starEach [a] X.env = (false, eval a X.env) :: starEach [] X.env := by rfl) (hpl : (backTo pos (starEach [] X.env)).any (·.1) = false := by rfl) : DE c X (.Call (.Name x p) [a] [] pos) (eUn g fa) := by
  refine de_imp (pe_callTy hc hg hm hv (pa_cons ha pa_nil he) hn hdb he hpl) fun F ρ e st σ H Q r q => ⟨F, ρ, e, st, r, bindE q fun F1 ρ1 e1 st1 H1 v d le1 r1 rx h1 => ?_⟩
  exact ho F1 ρ1 e1 st1 σ H1 d v Q r1 rx h1
/-- .. that make a new list or dict -/
theorem dn_t1 {T : String} {x : Str} {p : Pos} {r : List V → Hp → VK → Prop} {g : D → Sl → Sto → ER} (hc : CallR X (.type T) r) (hg : Gl X x) (hm : X.mg x = none) (hv : bootBuiltins x = some (.type T))
    (ho : ∀ (F : Addr → Prop) (ρ : List Addr) (e : Sl) (st : Sto) (σ : St) (H : Hp) (x : D) (v : V) (Q : VK), R X.K X.mg c F ρ e st σ H → RepX X.K F ρ H σ v x → NPost X.K X.mg c e σ F ρ H Q (g x e st) → r [v] H Q)
    (ha : DE c X a fa) (hn : x ≠ "__name__" := by decide) (hdb : (x == ("__debug__" : Str)) = false := by decide)
    (he : starEach [a] X.env = (false, eval a X.env) :: starEach [] X.env := by rfl) (hpl : (backTo pos (starEach [] X.env)).any (·.1) = false := by rfl) : DN c X (.Call (.Name x p) [a] [] pos) (eUn g fa) := by
  refine ⟨fun pins s σ H Q I ⟨F, ρ, e, st, r, q⟩ => (pe_callTy hc hg hm hv (pa_cons ha pa_nil he) hn hdb he hpl).run pins s σ H Q I ⟨F, ρ, e, st, r, bindN q fun F1 ρ1 e1 st1 H1 v d le1 r1 rx h1 => ?_⟩⟩
  exact ho F1 ρ1 e1 st1 σ H1 d v Q r1 rx h1
theorem dn_b1 {id : String} {x : Str} {p : Pos} {r : List V → Hp → VK → Prop} {g : D → Sl → Sto → ER} (hc : CallR X (.builtin id) r) (hg : Gl X x) (hm : X.mg x = none) (hv : bootBuiltins x = some (.builtin id))
    (ho : ∀ (F : Addr → Prop) (ρ : List Addr) (e : Sl) (st : Sto) (σ : St) (H : Hp) (x : D) (v : V) (Q : VK), R X.K X.mg c F ρ e st σ H → RepX X.K F ρ H σ v x → NPost X.K X.mg c e σ F ρ H Q (g x e st) → r [v] H Q)
    (ha : DE c X a fa) (hn : x ≠ "__name__" := by decide) (hdb : (x == ("__debug__" : Str)) = false := by decide)
    (he : starEach [a] X.env = (false, eval a X.env) :: starEach [] X.env := by rfl) (hpl : (backTo pos (starEach [] X.env)).any (·.1) = false := by rfl) : DN c X (.Call (.Name x p) [a] [] pos) (eUn g fa) := by
  refine ⟨fun pins s σ H Q I ⟨F, ρ, e, st, r, q⟩ => (pe_callB hc hg hm hv (pa_cons ha pa_nil he) hn hdb he hpl).run pins s σ H Q I ⟨F, ρ, e, st, r, bindN q fun F1 ρ1 e1 st1 H1 v d le1 r1 rx h1 => ?_⟩⟩
  exact ho F1 ρ1 e1 st1 σ H1 d v Q r1 rx h1
theorem call_lenR : CallR X (.builtin "len") (fun xs H Q => ∃ a kvs, xs = [V.ref a] ∧ Rd H a (.dK kvs) ∧ Q (.int kvs.length) H) := by
  intro pins s σ H xs us Q I r ⟨a, kvs, e, ha, q⟩
  subst e
  obtain ⟨u, eu, ru⟩ := vals1 r
  subst eu
  cases ru
  exact d_len I ha fun t s' I' => ⟨.int kvs.length, H, I', ⟨t, rfl⟩, q⟩
/-- len -/
def gLen (x : D) (e : Sl) (s : Sto) : ER := match vw x e s with
  | .str z => if z.length ≤ lim then .ok (.int z.length) e s else .stuck
  | .dk kvs => .ok (.int kvs.length) e s
  | d => (match asSeq d with | some ds => .ok (.int ds.length) e s | none => .stuck)
theorem de_len {p : Pos} (hg : Gl X "len") (hm : X.mg "len" = none) (ha : DE c X a fa) (he : starEach [a] X.env = (false, eval a X.env) :: starEach [] X.env := by rfl) (hpl : (backTo pos (starEach [] X.env)).any (·.1) = false := by rfl) :
    DE c X (.Call (.Name "len" p) [a] [] pos) (eUn gLen fa) := by
  refine de_b1 (CallR.or call_len_seq (CallR.or call_len_str call_lenR)) hg hm boot_len (fun F ρ e st σ H x v Q r rx h => ?_) ha (by decide) (by decide) he hpl
  have hx := vw_ok r rx
  unfold gLen at h
  generalize vw x e st = dx at *
  split at h
  · cases hx with | str b1 =>
    subst b1
    split at h
    · rename_i hz
      exact .inr (.inl ⟨_, rfl, lim_le hz, h.int r⟩)
    · exact h.elim
  · cases hx with | dk b1 b2 b3 =>
    subst b1
    refine .inr (.inr ⟨_, _, rfl, b2, ?_⟩)
    rw [b3.length]
    exact h.int r
  · split at h
    · rename_i ds hds
      obtain ⟨a, vs, rfl, hs, rs⟩ := hx.seq hds
      refine .inl ⟨a, vs, rfl, hs, ?_⟩
      rw [rs.length]
      exact h.int r
    · exact h.elim
end
end DL
end
section
set_option Elab.async false
set_option linter.all false
set_option maxRecDepth 100000
set_option maxHeartbeats 4000000
set_option autoImplicit false
/-! DLF: more built-ins; isinstance; calls of defs. -/
namespace DL
open PySem PySem.Spec L2
open PyProof.Rows hiding St
section
variable {X : Cx} {c : Dx} {a b ex : Expr} {es : List Expr} {fa fb : EF} {fs : AF} {pos : Pos} {f : EF}

def gAbs (x : D) (e : Sl) (s : Sto) : ER := match x with | .int i => .ok (.int (if i < 0 then -i else i)) e s | _ => .stuck
theorem de_abs {p : Pos} (hg : Gl X "abs") (hm : X.mg "abs" = none) (ha : DE c X a fa) (he : starEach [a] X.env = (false, eval a X.env) :: starEach [] X.env := by rfl) (hpl : (backTo pos (starEach [] X.env)).any (·.1) = false := by rfl) :
    DE c X (.Call (.Name "abs" p) [a] [] pos) (eUn gAbs fa) := by
  refine de_b1 call_abs hg hm (by decide +kernel) (fun F ρ e st σ H x v Q r rx h => ?_) ha (by decide) (by decide) he hpl
  unfold gAbs at h
  split at h
  · cases repI rx
    exact ⟨_, rfl, h.int r⟩
  · exact h.elim
def gInt (x : D) (e : Sl) (s : Sto) : ER := match x with | .int i => .ok (.int i) e s | .bl k => .ok (.int (if k then 1 else 0)) e s | _ => .stuck
theorem de_int1 {p : Pos} (hg : Gl X "int") (hm : X.mg "int" = none) (ha : DE c X a fa) (he : starEach [a] X.env = (false, eval a X.env) :: starEach [] X.env := by rfl) (hpl : (backTo pos (starEach [] X.env)).any (·.1) = false := by rfl) :
    DE c X (.Call (.Name "int" p) [a] [] pos) (eUn gInt fa) := by
  refine de_t1 call_int1 hg hm (by decide +kernel) (fun F ρ e st σ H x v Q r rx h => ?_) ha (by decide) (by decide) he hpl
  unfold gInt at h
  split at h
  · cases repI rx
    exact .inl ⟨_, rfl, h.int r⟩
  · cases repB rx
    exact .inr ⟨_, rfl, h.int r⟩
  · exact h.elim
/-- list(x) -/
def gList (x : D) (e : Sl) (s : Sto) : ER := match asSeq (vw x e s) with | some ds => .ok (.lst ds) e s | none => .stuck
theorem dn_list {p : Pos} (hg : Gl X "list") (hm : X.mg "list" = none) (ha : DE c X a fa) (he : starEach [a] X.env = (false, eval a X.env) :: starEach [] X.env := by rfl) (hpl : (backTo pos (starEach [] X.env)).any (·.1) = false := by rfl) :
    DN c X (.Call (.Name "list" p) [a] [] pos) (eUn gList fa) := by
  refine dn_t1 call_list_of hg hm (by decide +kernel) (fun F ρ e st σ H x v Q r rx h => ?_) ha (by decide) (by decide) he hpl
  have hx := vw_ok r rx
  unfold gList at h
  split at h
  · rename_i ds hds
    obtain ⟨a, vs, rfl, hs, rs⟩ := hx.seq hds
    exact ⟨a, vs, rfl, hs, fun l hl => h.lst r rs hl⟩
  · exact h.elim
/-- tuple(x) -/
def gTuple (x : D) (e : Sl) (s : Sto) : ER := match asSeq (vw x e s) with | some ds => .ok (.tup ds) e s | none => .stuck
theorem de_tuple {p : Pos} (hg : Gl X "tuple") (hm : X.mg "tuple" = none) (ha : DE c X a fa) (he : starEach [a] X.env = (false, eval a X.env) :: starEach [] X.env := by rfl) (hpl : (backTo pos (starEach [] X.env)).any (·.1) = false := by rfl) :
    DE c X (.Call (.Name "tuple" p) [a] [] pos) (eUn gTuple fa) := by
  refine de_t1 call_tuple_of hg hm (by decide +kernel) (fun F ρ e st σ H x v Q r rx h => ?_) ha (by decide) (by decide) he hpl
  have hx := vw_ok r rx
  unfold gTuple at h
  generalize vw x e st = dx at *
  split at h
  · rename_i ds hds
    cases hx with
    | tup h1 h2 h3 => cases hds; subst h1; exact ⟨_, _, rfl, .inr ⟨h2.sq, h.pure r (.tup h2 h3)⟩⟩
    | lst h1 h2 h3 => cases hds; subst h1; exact ⟨_, _, rfl, .inl ⟨.of h2, fun l hl => h.tup r h3 hl⟩⟩
    | scr h1 h2 h3 => cases hds; subst h1; exact ⟨_, _, rfl, .inl ⟨h2, fun l hl => h.tup r h3 hl⟩⟩
    | _ => cases hds
  · exact h.elim
/-- dict(d), a copy; dict(ps), a list of pairs -/
def pairK : D → Option (Key × D)
  | .tup [k, d] => (match toK k with | some k => some (k, d) | none => none)
  | _ => none
def pairsK : List D → Option (List (Key × D))
  | [] => some []
  | p :: ps => match pairK p, pairsK ps with
    | some p, some ps => some (p :: ps)
    | _, _ => none
def gDict (x : D) (e : Sl) (s : Sto) : ER := match vw x e s with
  | .dk kvs => .ok (.dk kvs) e s
  | .lst ps => (match pairsK ps with | some kvs => .ok (.dk (ptAll [] kvs)) e s | none => .stuck)
  | _ => .stuck
theorem pairs_ok {K : PySem.W.Frag} {F : Addr → Prop} {ρ : List Addr} {H : Hp} : ∀ {ds : List D} {vs : List V} {kds : List (Key × D)}, Reps K F ρ H vs ds → pairsK ds = some kds →
    ∃ (ps : List Addr) (kvs : List (Key × V)), vs = ps.map V.ref ∧ Paired (fun p kv => SqT K H p [kV kv.1, kv.2]) ps kvs ∧ RepK K F ρ H kvs kds
  | [], _, _, h, e => by cases h; cases e; exact ⟨[], [], rfl, .nil, .nil⟩
  | d :: ds, _, _, h, e => by
    cases h with
    | @cons v vs _ _ h1 h2 =>
      unfold pairsK at e
      split at e
      · rename_i p ps hp hps
        cases e
        obtain ⟨as, kvs, rfl, q1, q2⟩ := pairs_ok h2 hps
        unfold pairK at hp
        split at hp
        · split at hp
          · rename_i k0 d0 k hk
            cases hp
            cases h1 with
            | @tup a us _ t1 t2 =>
              cases t2 with
              | @cons u1 us1 _ _ t3 t4 =>
                cases t4 with
                | @cons u2 us2 _ _ t5 t6 =>
                  cases t6
                  cases toK_ok (σ := []) (.inr t3) hk
                  exact ⟨a :: as, (k, u2) :: kvs, rfl, .cons t1.sq q1, .cons t5 q2⟩
          · cases hp
        · cases hp
      · cases e
theorem dn_dictOf {p : Pos} (hc : X.calm = true) (hg : Gl X "dict") (hm : X.mg "dict" = none) (ha : DE c X a fa) (he : starEach [a] X.env = (false, eval a X.env) :: starEach [] X.env := by rfl) (hpl : (backTo pos (starEach [] X.env)).any (·.1) = false := by rfl) :
    DN c X (.Call (.Name "dict" p) [a] [] pos) (eUn gDict fa) := by
  refine dn_t1 (CallR.or call_dictD (call_dictP hc)) hg hm (by decide +kernel) (fun F ρ e st σ H x v Q r rx h => ?_) ha (by decide) (by decide) he hpl
  have hx := vw_ok r rx
  unfold gDict at h
  generalize vw x e st = dx at *
  split at h
  · cases hx with | dk b1 b2 b3 =>
    subst b1
    exact .inl ⟨_, _, rfl, b2, fun p hp => h.dk r b3 hp⟩
  · cases hx with | lst b1 b2 b3 =>
    subst b1
    split at h
    · rename_i kds hk
      obtain ⟨ps, kvs, rfl, q1, q2⟩ := pairs_ok b3 hk
      exact .inr ⟨_, ps, kvs, rfl, .of b2, q1, fun p hp => h.dk r (mergeK_all .nil q2) hp⟩
    · exact h.elim
  · exact h.elim
/-- sorted, ints -/
def ins (i : Int) : List Int → List Int
  | [] => [i]
  | j :: r => if i ≤ j then i :: j :: r else j :: ins i r
def isort : List Int → List Int
  | [] => []
  | i :: r => ins i (isort r)
theorem ins_perm (i : Int) : ∀ l : List Int, (ins i l).Perm (i :: l)
  | [] => .refl _
  | j :: r => by
    unfold ins
    split
    · exact .refl _
    · exact ((ins_perm i r).cons j).trans (.swap i j r)
theorem isort_perm : ∀ l : List Int, (isort l).Perm l
  | [] => .refl _
  | i :: r => (ins_perm i _).trans ((isort_perm r).cons i)
theorem ins_sorted (i : Int) : ∀ l : List Int, l.Pairwise (· ≤ ·) → (ins i l).Pairwise (· ≤ ·)
  | [], _ => List.pairwise_singleton _ _
  | j :: r, h => by
    unfold ins
    rw [List.pairwise_cons] at h
    split
    · rename_i hij
      rw [List.pairwise_cons, List.pairwise_cons]
      refine ⟨fun x hx => ?_, h⟩
      rcases List.mem_cons.mp hx with e | hx
      · rw [e]; exact hij
      · exact Int.le_trans hij (h.1 x hx)
    · rename_i hij
      rw [List.pairwise_cons]
      refine ⟨fun x hx => ?_, ins_sorted i r h.2⟩
      rcases List.mem_cons.mp ((ins_perm i r).mem_iff.mp hx) with e | hx
      · rw [e]; omega
      · exact h.1 x hx
theorem isort_sorted : ∀ l : List Int, (isort l).Pairwise (· ≤ ·)
  | [] => .nil
  | i :: r => ins_sorted i _ (isort_sorted r)
theorem sorted_one : ∀ {l m : List Int}, l.Perm m → l.Pairwise (· ≤ ·) → m.Pairwise (· ≤ ·) → l = m
  | [], m, h, _, _ => (List.nil_perm.mp h).symm
  | x :: r, [], h, _, _ => absurd h.symm (fun z => by have := List.nil_perm.mp z; cases this)
  | x :: r, y :: t, h, h1, h2 => by
    rw [List.pairwise_cons] at h1 h2
    have e : x = y := by
      have hx : x ∈ y :: t := h.mem_iff.mp List.mem_cons_self
      have hy : y ∈ x :: r := h.mem_iff.mpr List.mem_cons_self
      rcases List.mem_cons.mp hx with q | q
      · exact q
      · rcases List.mem_cons.mp hy with p | p
        · exact p.symm
        · exact Int.le_antisymm (h1.1 y p) (h2.1 x q)
    subst e
    rw [sorted_one ((List.perm_cons x).mp h) h1.2 h2.2]
section
variable {α β : Type}
def allO (g : β → Option α) : List β → Option (List α)
  | [] => some []
  | d :: r => match g d, allO g r with
    | some i, some l => some (i :: l)
    | _, _ => none
end
def asI : D → Option Int
  | .int i => some i
  | _ => none
def asB : D → Option Bool
  | .bl i => some i
  | _ => none
def asInts (ds : List D) : Option (List Int) := allO asI ds
def asBls (ds : List D) : Option (List Bool) := allO asB ds
theorem allO_ok {K : PySem.W.Frag} {F : Addr → Prop} {ρ : List Addr} {H : Hp} {α : Type} {g : D → Option α} {k : α → V} (hk : ∀ v d x, Rep K F ρ H v d → g d = some x → v = k x) : ∀ {ds : List D} {vs : List V} {ns : List α}, Reps K F ρ H vs ds → allO g ds = some ns → vs = ns.map k
  | [], _, _, h, e => by cases h; cases e; rfl
  | d :: ds, _, _, h, e => by
    cases h with
    | cons h1 h2 =>
      unfold allO at e
      split at e
      · rename_i i l hi hl
        cases e
        rw [hk _ _ _ h1 hi, allO_ok hk h2 hl]
        rfl
      · cases e
theorem asInts_ok {K : PySem.W.Frag} {F : Addr → Prop} {ρ : List Addr} {H : Hp} {ds : List D} {vs : List V} {ns : List Int} (h : Reps K F ρ H vs ds) (e : asInts ds = some ns) : vs = ns.map V.int :=
  allO_ok (fun v d x r q => by cases r <;> first | (cases q; rfl) | cases q) h e
theorem asBls_ok {K : PySem.W.Frag} {F : Addr → Prop} {ρ : List Addr} {H : Hp} {ds : List D} {vs : List V} {ns : List Bool} (h : Reps K F ρ H vs ds) (e : asBls ds = some ns) : vs = ns.map V.bl :=
  allO_ok (fun v d x r q => by cases r <;> first | (cases q; rfl) | cases q) h e
theorem reps_ints {K : PySem.W.Frag} {F : Addr → Prop} {ρ : List Addr} {H : Hp} : ∀ ns : List Int, Reps K F ρ H (ns.map V.int) (ns.map D.int)
  | [] => .nil
  | n :: ns => .cons (.int n) (reps_ints ns)
def keyI : Key × D → Option Int
  | (.inl i, _) => some i
  | _ => none
def keysI (ds : List (Key × D)) : Option (List Int) := allO keyI ds
theorem keysI_ok {K : PySem.W.Frag} {F : Addr → Prop} {ρ : List Addr} {H : Hp} : ∀ {ds : List (Key × D)} {vs : List (Key × V)} {ns : List Int}, RepK K F ρ H vs ds → keysI ds = some ns → vs.map (·.1) = ns.map Sum.inl
  | [], _, _, h, e => by cases h; cases e; rfl
  | (k, d) :: ds, _, _, h, e => by
    cases h with
    | cons h1 h2 =>
      unfold keysI allO at e
      split at e
      · rename_i i l hi hl
        cases e
        have := keysI_ok h2 hl
        rw [List.map_cons, this]
        cases k with
        | inl z => cases hi; rfl
        | inr z => cases hi
      · cases e
def gSorted (x : D) (e : Sl) (s : Sto) : ER := match vw x e s with
  | .lst ds => (match asInts ds with | some ns => if ns.length < 64 then .ok (.lst ((isort ns).map .int)) e s else .stuck | none => .stuck)
  | .dk kvs => (match keysI kvs with | some ns => if ns.length < 64 then .ok (.lst ((isort ns).map .int)) e s else .stuck | none => .stuck)
  | _ => .stuck
theorem dn_sorted {p : Pos} (hc : X.calm = true) (hg : Gl X "sorted") (hm : X.mg "sorted" = none) (ha : DE c X a fa) (he : starEach [a] X.env = (false, eval a X.env) :: starEach [] X.env := by rfl) (hpl : (backTo pos (starEach [] X.env)).any (·.1) = false := by rfl) :
    DN c X (.Call (.Name "sorted" p) [a] [] pos) (eUn gSorted fa) := by
  refine dn_b1 (CallR.or cr_sorted (call_sortedDI hc)) hg hm (by decide +kernel) (fun F ρ e st σ H x v Q r rx h => ?_) ha (by decide) (by decide) he hpl
  have hx := vw_ok r rx
  unfold gSorted at h
  generalize vw x e st = dx at *
  split at h
  · cases hx with | lst b1 b2 b3 =>
    subst b1
    split at h
    · rename_i ns hk
      split at h
      · rename_i hz
        refine .inl ⟨_, ns, rfl, .of (by rw [← asInts_ok b3 hk]; exact b2), hz, fun ns' p h1 h2 h3 => ?_⟩
        rw [sorted_one (h1.trans (isort_perm ns).symm) h2 (isort_sorted ns)]
        exact h.lst r (reps_ints _) h3
      · exact h.elim
    · exact h.elim
  · cases hx with | dk b1 b2 b3 =>
    subst b1
    split at h
    · rename_i ns hk
      split at h
      · rename_i hz
        refine .inr ⟨_, _, ns, rfl, b2, keysI_ok b3 hk, hz, fun ns' p h1 h2 h3 => ?_⟩
        rw [sorted_one (h1.trans (isort_perm ns).symm) h2 (isort_sorted ns)]
        exact h.lst r (reps_ints _) h3
      · exact h.elim
    · exact h.elim
  · exact h.elim
/-- all, any of a list of truth values -/
def gAll (x : D) (e : Sl) (s : Sto) : ER := match vw x e s with | .lst ds => (match asBls ds with | some bs => .ok (.bl (bs.all id)) e s | none => .stuck) | _ => .stuck
def gAny (x : D) (e : Sl) (s : Sto) : ER := match vw x e s with | .lst ds => (match asBls ds with | some bs => .ok (.bl (bs.any id)) e s | none => .stuck) | _ => .stuck
theorem de_all {p : Pos} (hc : X.calm = true) (hg : Gl X "all") (hm : X.mg "all" = none) (ha : DE c X a fa) (he : starEach [a] X.env = (false, eval a X.env) :: starEach [] X.env := by rfl) (hpl : (backTo pos (starEach [] X.env)).any (·.1) = false := by rfl) :
    DE c X (.Call (.Name "all" p) [a] [] pos) (eUn gAll fa) := by
  refine de_b1 (cr_all hc) hg hm (by decide +kernel) (fun F ρ e st σ H x v Q r rx h => ?_) ha (by decide) (by decide) he hpl
  have hx := vw_ok r rx
  unfold gAll at h
  generalize vw x e st = dx at *
  split at h
  · cases hx with | lst b1 b2 b3 =>
    subst b1
    split at h
    · rename_i bs hk
      exact ⟨_, bs, rfl, .of (by rw [← asBls_ok b3 hk]; exact b2), h.bl r⟩
    · exact h.elim
  · exact h.elim
theorem de_any {p : Pos} (hc : X.calm = true) (hg : Gl X "any") (hm : X.mg "any" = none) (ha : DE c X a fa) (he : starEach [a] X.env = (false, eval a X.env) :: starEach [] X.env := by rfl) (hpl : (backTo pos (starEach [] X.env)).any (·.1) = false := by rfl) :
    DE c X (.Call (.Name "any" p) [a] [] pos) (eUn gAny fa) := by
  refine de_b1 (cr_any hc) hg hm (by decide +kernel) (fun F ρ e st σ H x v Q r rx h => ?_) ha (by decide) (by decide) he hpl
  have hx := vw_ok r rx
  unfold gAny at h
  generalize vw x e st = dx at *
  split at h
  · cases hx with | lst b1 b2 b3 =>
    subst b1
    split at h
    · rename_i bs hk
      exact ⟨_, bs, rfl, .of (by rw [← asBls_ok b3 hk]; exact b2), h.bl r⟩
    · exact h.elim
  · exact h.elim
/-- isinstance(x, T), T a built-in class -/
def tyName : D → Option String
  | .non => some "NoneType"
  | .bl _ => some "bool"
  | .int _ => some "int"
  | .str _ => some "str"
  | .tup _ => some "tuple"
  | .lst _ => some "list"
  | .dk _ => some "dict"
  | .dt _ => some "dict"
  | _ => none
def isTy (T : String) (t : String) : Bool := t == T || (t == "bool" && T == "int")
def gIsi (T : String) (x : D) (e : Sl) (s : Sto) : ER := match tyName (vw x e s) with | some t => .ok (.bl (isTy T t)) e s | none => .stuck
theorem tyx_ok {K : PySem.W.Frag} {F : Addr → Prop} {ρ : List Addr} {H : Hp} {v : V} {d : D} {t : String} (h : Vw K F ρ H v d) (e : tyName d = some t) : TyX K H v (.type t) := by
  cases h with
  | non h => cases e; subst h; exact .base .non
  | bl h => cases e; subst h; exact .base (.bl _)
  | int h => cases e; subst h; exact .base (.int _)
  | str h => cases e; subst h; exact .base (.str _)
  | tup h h2 h3 =>
    cases e; subst h
    exact .base (.tup h2.2)
  | lst h h2 h3 => cases e; subst h; exact .base (.lst h2)
  | dk h h2 h3 =>
    cases e; subst h
    rcases h2 with h2 | ⟨o, h2⟩
    · exact .base (.dK h2)
    · exact .fDict h2
  | dt h h2 h3 => cases e; subst h; exact .base (.dT h2)
  | _ => cases e
def tyNames : List String := ["NoneType", "bool", "int", "str", "tuple", "list", "dict"]
theorem tyName_mem {d : D} {t : String} (e : tyName d = some t) : t ∈ tyNames := by
  cases d <;> cases e <;> decide
theorem de_isi {T : Str} {TT : String} {p p2 : Pos} (hk : tyNames.all (fun t => kitB t TT == some (isTy TT t)) = true) (hg : Gl X "isinstance") (hm : X.mg "isinstance" = none) (hgT : Gl X T) (hmT : X.mg T = none) (hvT : bootBuiltins T = some (.type TT)) (ha : DE c X a fa)
    (hnT : T ≠ "__name__" := by decide) (hdT : (T == ("__debug__" : Str)) = false := by decide)
    (he2 : starEach [.Name T p2] X.env = (false, eval (.Name T p2) X.env) :: starEach [] X.env := by rfl) (he : starEach [a, .Name T p2] X.env = (false, eval a X.env) :: starEach [.Name T p2] X.env := by rfl) (hpl : (backTo pos (starEach [.Name T p2] X.env)).any (·.1) = false := by rfl) :
    DE c X (.Call (.Name "isinstance" p) [a, .Name T p2] [] pos) (eUn (gIsi TT) fa) := by
  refine de_imp (pe_callB call_isi hg hm (by decide +kernel) (pa_cons ha (pa_cons (pe_bltn (v := .ty TT) hgT hmT hvT rfl hnT hdT) pa_nil he2) he) (by decide) (by decide) he hpl) fun F ρ e st σ H Q r q => ⟨F, ρ, e, st, r, bindE q fun F1 ρ1 e1 st1 H1 v x le1 r1 rx h1 => ?_⟩
  unfold gIsi at h1
  split at h1
  · rename_i t ht
    refine ⟨v, .ty TT, .type t, .type TT, isTy TT t, rfl, .ty TT, tyx_ok (vw_ok r1 rx) ht, kit_ty ?_, h1.bl r1⟩
    exact beq_iff_eq.mp (List.all_eq_true.mp hk t (tyName_mem ht))
  · exact h1.elim
theorem kit_int : tyNames.all (fun t => kitB t "int" == some (isTy "int" t)) = true := by decide +kernel
theorem kit_bool : tyNames.all (fun t => kitB t "bool" == some (isTy "bool" t)) = true := by decide +kernel
theorem kit_str : tyNames.all (fun t => kitB t "str" == some (isTy "str" t)) = true := by decide +kernel
theorem kit_tuple : tyNames.all (fun t => kitB t "tuple" == some (isTy "tuple" t)) = true := by decide +kernel
theorem kit_list : tyNames.all (fun t => kitB t "list" == some (isTy "list" t)) = true := by decide +kernel
theorem kit_dict : tyNames.all (fun t => kitB t "dict" == some (isTy "dict" t)) = true := by decide +kernel
end
end DL
end
section
set_option Elab.async false
set_option linter.all false
set_option maxRecDepth 100000
set_option maxHeartbeats 4000000
set_option autoImplicit false
/-! DLG: calls of defs, iterators, comprehensions, statements. -/
namespace DL
open PySem PySem.Spec L2
open PyProof.Rows hiding St
section
/-- a def of the module by what it does -/
structure Callee (P : Program) (w : World) (K : PySem.W.Frag) (mg : Str → Option Value) (base : Heap) (x : Str) (n k : Nat) (fn : Fn) : Prop where
  ex : ∃ (f : Addr) (fd : FuncData) (ps : List Str), FnOk P w K mg base (CX P w) k f fd ps (spD K mg n fn) ∧ mg x = some (.ref f) ∧ PySem.W.keepIn K (.ref f) = true ∧ Binds K fd ps []
theorem Callee.mono {P : Program} {w : World} {K : PySem.W.Frag} {mg : Str → Option Value} {base : Heap} {x : Str} {n k k' : Nat} {fn : Fn} (C : Callee P w K mg base x n k fn) (h : k ≤ k') : Callee P w K mg base x n k' fn := by
  obtain ⟨f, fd, ps, h1, h2⟩ := C.ex
  exact ⟨f, fd, ps, h1.mono h, h2⟩
variable {X : Cx} {c : Dx} {a b ex : Expr} {es : List Expr} {fa fb : EF} {fs : AF} {pos : Pos} {f : EF}
def eCall (n : Nat) (fn : Fn) (fs : AF) : EF := fun e s => (fs e s).bind fun ds e s => if ds.length = n then (match fn ds s with | .ok (.val d) s' => .ok d e s' | .ok (.new d) s' => .ok d e s' | .exc k s' => .exc k e s' | .stuck => .stuck) else .stuck
/-- .. of a def that hands back a new object -/
def nCall (n : Nat) (fn : Fn) (fs : AF) : EF := fun e s => (fs e s).bind fun ds e s => if ds.length = n then (match fn ds s with | .ok (.val d) s' => .stuck | .ok (.new d) s' => .ok d e s' | .exc k s' => .exc k e s' | .stuck => .stuck) else .stuck
theorem LeE.ext {e e' : Sl} {σ : St} {F F' F2 : Addr → Prop} {ρ ρ' ρ2 : List Addr} {H H' H2 : Hp} (l : LeE e e' σ F ρ H F' ρ' H') (x : Ext F' ρ' H' F2 ρ2 H2) : LeE e e' σ F ρ H F2 ρ2 H2 := l.trans x.toLeE
theorem call_post {n : Nat} {fn : Fn} {F : Addr → Prop} {ρ : List Addr} {H : Hp} {e : Sl} {st : Sto} {σ : St} {Q : VK} {vs : List V} {ds : List D} (r : R X.K X.mg c F ρ e st σ H) (rs : Reps X.K F ρ H vs ds)
    (h : EPost X.K X.mg c e σ F ρ H Q (if ds.length = n then (match fn ds st with | .ok (.val d) s' => .ok d e s' | .ok (.new d) s' => .ok d e s' | .exc k s' => .exc k e s' | .stuck => .stuck) else .stuck)) :
    spD X.K X.mg n fn vs H Q (WE c.W σ) := by
  split at h
  · rename_i hn
    refine ⟨F, ρ, st, ds, by rw [rs.length]; exact hn, r.w, rs, ?_⟩
    cases hf : fn ds st with
    | ok rv st' =>
      rw [hf] at h
      intro F' ρ' H' v x w rr
      cases rv with
      | val d => exact h F' ρ' H' v x.toLeE (r.ext x w) (.inr rr)
      | new d =>
        obtain ⟨p, rfl, cr, n1, n2, n3⟩ := rr
        have c0 : c.H p = none := by
          cases q : c.H p with
          | none => rfl
          | some o => exact absurd n3 (r.x.there p (some_ne q))
        obtain ⟨r2, rep⟩ := (r.ext x w).know cr n1 n2 (fun z => r.ownH z n3) c0
        exact h _ _ _ _ (x.toLeE.know n3) r2 (.inr rep)
    | exc k st' =>
      rw [hf] at h
      intro F' ρ' H' C x w hk
      exact h F' ρ' H' C (r.ext x w) hk
    | stuck => rw [hf] at h; exact h
  · exact h.elim
theorem call_postN {n : Nat} {fn : Fn} {F : Addr → Prop} {ρ : List Addr} {H : Hp} {e : Sl} {st : Sto} {σ : St} {Q : VK} {vs : List V} {ds : List D} (r : R X.K X.mg c F ρ e st σ H) (rs : Reps X.K F ρ H vs ds)
    (h : NPost X.K X.mg c e σ F ρ H Q (if ds.length = n then (match fn ds st with | .ok (.val d) s' => .stuck | .ok (.new d) s' => .ok d e s' | .exc k s' => .exc k e s' | .stuck => .stuck) else .stuck)) :
    spD X.K X.mg n fn vs H Q (WE c.W σ) := by
  split at h
  · rename_i hn
    refine ⟨F, ρ, st, ds, by rw [rs.length]; exact hn, r.w, rs, ?_⟩
    cases hf : fn ds st with
    | ok rv st' =>
      rw [hf] at h
      intro F' ρ' H' v x w rr
      cases rv with
      | val d => exact h.elim
      | new d =>
        obtain ⟨p, rfl, cr, n1, n2, n3⟩ := rr
        exact h _ _ _ _ x.toLeE (r.ext x w) cr n1 n2 (fun z => r.ownH z n3) n3
    | exc k st' =>
      rw [hf] at h
      intro F' ρ' H' C x w hk
      exact h F' ρ' H' C (r.ext x w) hk
    | stuck => rw [hf] at h; exact h
  · exact h.elim
theorem de_call {n k : Nat} {fn : Fn} {x : Str} {p : Pos} (C : Callee X.prog X.w X.K X.mg X.base x n k fn) (hr : Room k X.A) (tk : Takes X c.W) (hg : Gl X x) (ha : DA c X (a :: es) fs) (hdb : (x == ("__debug__" : Str)) = false := by decide)
    (he : starEach (a :: es) X.env = (false, eval a X.env) :: starEach es X.env := by rfl) (hpl : (backTo pos (starEach es X.env)).any (·.1) = false := by rfl) : DE c X (.Call (.Name x p) (a :: es) [] pos) (eCall n fn fs) := by
  obtain ⟨fa, fd, ps, h1, h2, h3, h4⟩ := C.ex
  refine de_imp (pe_callSD (E := WE c.W) h1 hr hg h2 h3 h4 .nil (fun σ => L2.passAt tk σ) ha hdb he hpl) fun F ρ e st σ H Q r q => ⟨F, ρ, e, st, r, bindA q fun F1 ρ1 e1 st1 H1 vs ds le1 r1 rs h => ?_⟩
  rw [List.append_nil]
  exact call_post r1 rs h
theorem dn_call {n k : Nat} {fn : Fn} {x : Str} {p : Pos} (C : Callee X.prog X.w X.K X.mg X.base x n k fn) (hr : Room k X.A) (tk : Takes X c.W) (hg : Gl X x) (ha : DA c X (a :: es) fs) (hdb : (x == ("__debug__" : Str)) = false := by decide)
    (he : starEach (a :: es) X.env = (false, eval a X.env) :: starEach es X.env := by rfl) (hpl : (backTo pos (starEach es X.env)).any (·.1) = false := by rfl) : DN c X (.Call (.Name x p) (a :: es) [] pos) (nCall n fn fs) := by
  obtain ⟨fa, fd, ps, h1, h2, h3, h4⟩ := C.ex
  refine ⟨fun pins s σ H Q I ⟨F, ρ, e, st, r, q⟩ => (pe_callSD (E := WE c.W) h1 hr hg h2 h3 h4 .nil (fun σ => L2.passAt tk σ) ha hdb he hpl).run pins s σ H Q I ⟨F, ρ, e, st, r, bindNA q fun F1 ρ1 e1 st1 H1 vs ds le1 r1 rs h => ?_⟩⟩
  rw [List.append_nil]
  exact call_postN r1 rs h

/-! ### targets -/
abbrev BF := D → Sl → Option Sl
/-- what a target does: contexts of one K -/
structure DG (X : Cx) (tg : Expr) (bind : BF) : Prop where
  ex : ∃ g, PG X tg g ∧ ∀ (c : Dx) (F : Addr → Prop) (ρ : List Addr) (e e' : Sl) (st : Sto) (σ : St) (H : Hp) (v : V) (d : D) (k : St → Hp → Prop), R X.K X.mg c F ρ e st σ H → Rep X.K F ρ H v d → bind d e = some e' → (∀ σ', R X.K X.mg c F ρ e' st σ' H → k σ' H) → g v σ H k
def bName (i : Nat) : BF := fun d e => some (e.set i (some (.val d)))
/-- the reading of a target, whatever the context -/
structure TGok (K : PySem.W.Frag) (mg : Str → Option Value) (g : TG) (vs : List Nat) (bind : BF) : Prop where
  ow : ∀ (d : D) (e e' : Sl), bind d e = some e' → e'.length = e.length ∧ ∀ (i : Nat) d0, e'[i]? = some (some (.own d0)) → e[i]? = some (some (.own d0))
  run : ∀ (c : Dx) (F : Addr → Prop) (ρ : List Addr) (e e' : Sl) (st : Sto) (σ : St) (H : Hp) (v : V) (d : D) (k : St → Hp → Prop), R K mg c F ρ e st σ H → Rep K F ρ H v d → bind d e = some e' →
    (∀ σ', R K mg c F ρ e' st σ' H → σ'.length = σ.length → (∀ i, i ∉ vs → σ'[i]? = σ[i]?) → k σ' H) → g v σ H k
theorem tg_name {K : PySem.W.Frag} {mg : Str → Option Value} (i : Nat) : TGok K mg (gName i) [i] (bName i) := by
  refine ⟨fun d e e' h => ?_, fun c F ρ e e' st σ H v d k r x hb q => ?_⟩
  · cases h
    refine ⟨List.length_set .., fun j d0 h => ?_⟩
    by_cases hj : i = j
    · subst hj
      have hl := (List.getElem?_eq_some_iff.mp h).1
      rw [List.length_set] at hl
      rw [List.getElem?_set_self hl] at h
      cases h
    · rwa [List.getElem?_set_ne hj] at h
  cases hb
  refine q _ (r.setVal x) (by rw [List.length_set]) fun j hj => ?_
  rw [List.getElem?_set_ne (fun z => hj (by simp [z]))]
/-- a, b, .. = a tuple -/
structure TGsok (K : PySem.W.Frag) (mg : Str → Option Value) (g : TGs) (vs : List Nat) (bind : List D → Sl → Option Sl) : Prop where
  ow : ∀ (d : List D) (e e' : Sl), bind d e = some e' → e'.length = e.length ∧ ∀ (i : Nat) d0, e'[i]? = some (some (.own d0)) → e[i]? = some (some (.own d0))
  run : ∀ (c : Dx) (F : Addr → Prop) (ρ : List Addr) (e e' : Sl) (st : Sto) (σ : St) (H : Hp) (us : List V) (ds : List D) (k : St → Hp → Prop), R K mg c F ρ e st σ H → Reps K F ρ H us ds → bind ds e = some e' →
    (∀ σ', R K mg c F ρ e' st σ' H → σ'.length = σ.length → (∀ i, i ∉ vs → σ'[i]? = σ[i]?) → k σ' H) → g us σ H k
def bNil : List D → Sl → Option Sl := fun ds e => match ds with | [] => some e | _ => none
def bCons (b : BF) (bs : List D → Sl → Option Sl) : List D → Sl → Option Sl := fun ds e => match ds with | d :: ds => (match b d e with | some e1 => bs ds e1 | none => none) | [] => none
def bTup (n : Nat) (bs : List D → Sl → Option Sl) : BF := fun d e => match d with | .tup ds => if ds.length = n then bs ds e else none | _ => none
theorem tgs_nil {K : PySem.W.Frag} {mg : Str → Option Value} : TGsok K mg gNil [] bNil := by
  refine ⟨fun d e e' h => (by cases d with
    | nil => cases h; exact ⟨rfl, fun _ _ h => h⟩
    | cons d ds => cases h), fun c F ρ e e' st σ H us ds k r x hb q => ?_⟩
  cases ds with
  | nil => cases x; cases hb; exact ⟨rfl, q σ r rfl fun _ _ => rfl⟩
  | cons d ds => cases hb
theorem tgs_cons {K : PySem.W.Frag} {mg : Str → Option Value} {g : TG} {gs : TGs} {vs ws : List Nat} {b : BF} {bs : List D → Sl → Option Sl} (h1 : TGok K mg g vs b) (h2 : TGsok K mg gs ws bs) : TGsok K mg (gCons g gs) (vs ++ ws) (bCons b bs) := by
  refine ⟨fun d e e' h => ?_, fun c F ρ e e' st σ H us ds k r x hb q => ?_⟩
  · cases d with
    | nil => cases h
    | cons d ds =>
      unfold bCons at h
      simp only at h
      split at h
      · rename_i e1 he1
        obtain ⟨l1, k1⟩ := h1.ow d e e1 he1
        obtain ⟨l2, k2⟩ := h2.ow ds e1 e' h
        exact ⟨l2.trans l1, fun i d0 z => k1 i d0 (k2 i d0 z)⟩
      · cases h
  cases ds with
  | nil => cases hb
  | cons d ds =>
    cases x with
    | @cons v us _ _ x1 x2 =>
      unfold bCons at hb
      simp only at hb
      split at hb
      · rename_i e1 he1
        refine ⟨v, us, rfl, h1.run c F ρ e e1 st σ H v d _ r x1 he1 fun σ1 r1 l1 k1 => ?_⟩
        refine h2.run c F ρ e1 e' st σ1 H us ds _ r1 x2 hb fun σ2 r2 l2 k2 => q σ2 r2 (l2.trans l1) fun i hi => ?_
        rw [List.mem_append, not_or] at hi
        rw [k2 i hi.2, k1 i hi.1]
      · cases hb
theorem tg_tup {K : PySem.W.Frag} {mg : Str → Option Value} {gs : TGs} {vs : List Nat} {n : Nat} {bs : List D → Sl → Option Sl} (h : TGsok K mg gs vs bs) : TGok K mg (gTup K n gs) vs (bTup n bs) := by
  refine ⟨fun d e e' hb => (by
    unfold bTup at hb
    split at hb
    · split at hb
      · exact h.ow _ e e' hb
      · cases hb
    · cases hb), fun c F ρ e e' st σ H v d k r x hb q => ?_⟩
  unfold bTup at hb
  split at hb
  · cases x with
    | @tup a us ds t1 t2 =>
      split at hb
      · rename_i hn
        exact ⟨a, us, rfl, t1.sq, by rw [t2.length]; exact hn, h.run c F ρ e e' st σ H us _ k r t2 hb q⟩
      · cases hb
  · cases hb

/-! ### iterators -/
inductive IR where
  | ok (ds : List D) (e : Sl) (s : Sto) | exc (k : Str) (e : Sl) (s : Sto) | stuck
/-- J gives the items ds, and goes on doing so -/
structure Wlk (K : PySem.W.Frag) (F : Addr → Prop) (ρ : List Addr) (H : Hp) (J : It) (ds : List D) : Prop where
  go : ∀ F' ρ' H' i, Le F ρ H F' ρ' H' → i < ds.length → J.go i H'
  stop : ∀ F' ρ' H' i, Le F ρ H F' ρ' H' → ds.length ≤ i → J.stop i H'
  yld : ∀ F' ρ' H' i x H2, Le F ρ H F' ρ' H' → i < ds.length → J.yld i H' x H2 → H2 = H' ∧ ∃ d, ds[i]? = some d ∧ Rep K F' ρ' H' x d
def IPost (K : PySem.W.Frag) (mg : Str → Option Value) (c : Dx) (e : Sl) (σ : St) (F : Addr → Prop) (ρ : List Addr) (H : Hp) (Q : It → Hp → Prop) : IR → Prop
  | .ok ds e' st' => ∀ F' ρ' H' J, LeE e e' σ F ρ H F' ρ' H' → R K mg c F' ρ' e' st' σ H' → Wlk K F' ρ' H' J ds → Q J H'
  | .exc k e' st' => ∀ F' ρ' H' C, R K mg c F' ρ' e' st' σ H' → mg k = some (.ref C) → c.W (.ref C) none σ H'
  | .stuck => False
abbrev IF := Sl → Sto → IR
def tID (K : PySem.W.Frag) (mg : Str → Option Value) (c : Dx) (f : IF) : TI := fun σ H Q => ∃ F ρ e st, R K mg c F ρ e st σ H ∧ IPost K mg c e σ F ρ H Q (f e st)
abbrev DI (c : Dx) (X : Cx) (tg iter : Expr) (f : IF) : Prop := PI X tg iter (tID X.K X.mg c f)
/-- over a list or a tuple -/
def iSeq (f : EF) : IF := fun e s => match eFz f e s with
  | .ok d e1 s1 => (match asSeq d with | some ds => .ok ds e1 s1 | none => .stuck)
  | .exc k e1 s1 => .exc k e1 s1
  | .stuck => .stuck
theorem di_seq {tg : Expr} (ha : DE c X a fa) : DI c X tg a (iSeq fa) := by
  refine ⟨fun pins s σ H Q I ⟨F, ρ, e, st, r, q⟩ => ?_⟩
  have hz := de_fz ha
  unfold iSeq at q
  cases hr : eFz fa e st with
  | stuck => rw [hr] at q; exact q.elim
  | exc k e1 s1 =>
    rw [hr] at q
    exact (pi_list hz).run pins s σ H Q I ⟨F, ρ, e, st, r, by rw [hr]; exact q⟩
  | ok d e1 s1 =>
    rw [hr] at q
    simp only at q
    split at q
    · rename_i ds hds
      cases d with
      | tup xs =>
        cases hds
        refine (pi_tup hz).run pins s σ H Q I ⟨F, ρ, e, st, r, ?_⟩
        rw [hr]
        intro F' ρ' H' v l r' x
        rcases x with ⟨_, _, z, _⟩ | x
        · cases z
        cases x with
        | @tup p vs _ t1 t2 =>
          refine ⟨p, rfl, ⟨vs, t1.sq⟩, q F' ρ' H' _ l r' ⟨fun F2 ρ2 H2 i le hi => ?_, fun F2 ρ2 H2 i le hi => ?_, fun F2 ρ2 H2 i x H3 le hi hy => ?_⟩⟩
          · have hi' : i < vs.length := by rw [t2.length]; exact hi
            exact ⟨vs, vs[i], (t1.mono le).sq, List.getElem?_eq_getElem hi'⟩
          · exact ⟨vs, (t1.mono le).sq, by rw [t2.length]; exact hi⟩
          · obtain ⟨h1, h2⟩ := hy
            obtain ⟨d, hd, rep⟩ := Reps.get' (t2.mono le) (h2 vs (t1.mono le).sq)
            exact ⟨h1, d, hd, rep⟩
      | lst xs =>
        cases hds
        refine (pi_list hz).run pins s σ H Q I ⟨F, ρ, e, st, r, ?_⟩
        rw [hr]
        intro F' ρ' H' v l r' x
        rcases x with ⟨_, _, z, _⟩ | x
        · cases z
        cases x with
        | @lst p vs _ t0 t1 t2 =>
          refine ⟨p, rfl, ⟨vs, .of t1⟩, q F' ρ' H' _ l r' ⟨fun F2 ρ2 H2 i le hi => ?_, fun F2 ρ2 H2 i le hi => ?_, fun F2 ρ2 H2 i x H3 le hi hy => ?_⟩⟩
          · have hi' : i < vs.length := by rw [t2.length]; exact hi
            exact ⟨vs, vs[i], .of (le.ls _ _ t0 t1), List.getElem?_eq_getElem hi'⟩
          · exact ⟨vs, .of (le.ls _ _ t0 t1), by rw [t2.length]; exact hi⟩
          · obtain ⟨h1, h2⟩ := hy
            obtain ⟨d, hd, rep⟩ := Reps.get' (t2.mono le) (h2 vs (.of (le.ls _ _ t0 t1)))
            exact ⟨h1, d, hd, rep⟩
      | scr xs =>
        cases hds
        refine (pi_list hz).run pins s σ H Q I ⟨F, ρ, e, st, r, ?_⟩
        rw [hr]
        intro F' ρ' H' v l r' x
        rcases x with ⟨_, _, z, _⟩ | x
        · cases z
        cases x with
        | @scr p vs _ t1 t2 =>
          refine ⟨p, rfl, ⟨vs, t1.sq⟩, q F' ρ' H' _ l r' ⟨fun F2 ρ2 H2 i le hi => ?_, fun F2 ρ2 H2 i le hi => ?_, fun F2 ρ2 H2 i x H3 le hi hy => ?_⟩⟩
          · have hi' : i < vs.length := by rw [t2.length]; exact hi
            exact ⟨vs, vs[i], (t1.mono le).sq, List.getElem?_eq_getElem hi'⟩
          · exact ⟨vs, (t1.mono le).sq, by rw [t2.length]; exact hi⟩
          · obtain ⟨h1, h2⟩ := hy
            obtain ⟨d, hd, rep⟩ := Reps.get' (t2.mono le) (h2 vs ((t1.mono le).sq))
            exact ⟨h1, d, hd, rep⟩
      | _ => cases hds
    · exact q.elim
/-- over range(n), range(a, b) -/
def rngD (lo : Int) (n : Nat) : List D := (List.range n).map fun i => .int (lo + (i : Nat))
theorem rngD_at {lo : Int} {n i : Nat} (h : i < n) : (rngD lo n)[i]? = some (.int (lo + (i : Nat))) := by
  unfold rngD
  rw [List.getElem?_map, List.getElem?_range h]
  rfl
theorem wlk_rng {K : PySem.W.Frag} {F : Addr → Prop} {ρ : List Addr} {H : Hp} {lo : Int} {n : Nat} : Wlk K F ρ H (Itr lo n) (rngD lo n) := by
  have hl : (rngD lo n).length = n := by simp [rngD]
  refine ⟨fun F' ρ' H' i _ hi => by rw [hl] at hi; exact hi, fun F' ρ' H' i _ hi => by rw [hl] at hi; exact hi, fun F' ρ' H' i x H2 _ hi hy => ?_⟩
  rw [hl] at hi
  obtain ⟨h1, h2⟩ := hy
  subst h2
  exact ⟨h1, _, rngD_at hi, .int _⟩
noncomputable def iRange1 (f : EF) : IF := fun e s => match f e s with
  | .ok (.int j) e1 s1 => @ite _ (-(2 ^ 62) ≤ j ∧ j < 2 ^ 62) (Classical.propDecidable _) (.ok (rngD 0 j.toNat) e1 s1) .stuck
  | .exc k e1 s1 => .exc k e1 s1
  | _ => .stuck
theorem di_range1 {tg : Expr} {p : Pos} (hg : Gl X "range") (hm : X.mg "range" = none) (ha : DE c X a fa) (hs : starEach [a] X.env = (false, eval a X.env) :: starEach [] X.env := by rfl) (hs' : starEach [a] X.env = [(false, eval a X.env)] := by rfl) : DI c X tg (.Call (.Name "range" p) [a] [] pos) (iRange1 fa) := by
  refine ⟨fun pins s σ H Q I ⟨F, ρ, e, st, r, q⟩ => (pi_range1 hg hm (pa_cons ha pa_nil hs) hs').run pins s σ H Q I ⟨F, ρ, e, st, r, ?_⟩⟩
  unfold iRange1 at q
  cases hr : fa e st with
  | stuck => rw [hr] at q; exact q.elim
  | exc k e1 s1 => rw [hr] at q; exact q
  | ok d e1 s1 =>
    rw [hr] at q
    split at q
    · rename_i heq
      cases heq
      split at q
      · rename_i hj
        intro F' ρ' H' v l r' x
        cases repI x
        exact ⟨_, rfl, hj.1, hj.2, q F' ρ' H' _ l r' wlk_rng⟩
      · exact q.elim
    · rename_i heq; cases heq
    · exact q.elim
noncomputable def iRange2 (fa fb : EF) : IF := fun e s => match fa e s with
  | .ok (.int i) e1 s1 => (match fb e1 s1 with
    | .ok (.int j) e2 s2 => @ite _ (-(2 ^ 62) ≤ i ∧ i < 2 ^ 62 ∧ -(2 ^ 62) ≤ j ∧ j < 2 ^ 62) (Classical.propDecidable _) (.ok (rngD i (j - i).toNat) e2 s2) .stuck
    | .exc k e2 s2 => .exc k e2 s2
    | _ => .stuck)
  | .exc k e1 s1 => .exc k e1 s1
  | _ => .stuck
theorem di_range2 {tg : Expr} {p : Pos} (hg : Gl X "range") (hm : X.mg "range" = none) (ha : DE c X a fa) (hb : DE c X b fb) (hs0 : starEach [a, b] X.env = (false, eval a X.env) :: starEach [b] X.env := by rfl) (hs1 : starEach [b] X.env = (false, eval b X.env) :: starEach [] X.env := by rfl)
    (hs : starEach [a, b] X.env = [(false, eval a X.env), (false, eval b X.env)] := by rfl) (hs2 : starEach [b] X.env = [(false, eval b X.env)] := by rfl) : DI c X tg (.Call (.Name "range" p) [a, b] [] pos) (iRange2 fa fb) := by
  refine ⟨fun pins s σ H Q I ⟨F, ρ, e, st, r, q⟩ => (pi_range2 hg hm (pa_cons ha (pa_cons hb pa_nil hs1) hs0) hs hs2).run pins s σ H Q I ⟨F, ρ, e, st, r, ?_⟩⟩
  unfold iRange2 at q
  cases hr : fa e st with
  | stuck => rw [hr] at q; exact q.elim
  | exc k e1 s1 => rw [hr] at q; exact q
  | ok d e1 s1 =>
    rw [hr] at q
    split at q
    · rename_i heq
      cases heq
      intro F1 ρ1 H1 v l1 r1 x
      cases repI x
      refine ⟨F1, ρ1, e1, s1, r1, ?_⟩
      cases hr2 : fb e1 s1 with
      | stuck => rw [hr2] at q; exact q.elim
      | exc k e2 s2 => rw [hr2] at q; exact q
      | ok d2 e2 s2 =>
        rw [hr2] at q
        split at q
        · rename_i heq
          cases heq
          split at q
          · rename_i hj
            intro F2 ρ2 H2 v l2 r2 x
            cases repI x
            exact ⟨_, _, rfl, hj, q F2 ρ2 H2 _ (l1.trans l2) r2 wlk_rng⟩
          · exact q.elim
        · rename_i heq; cases heq
        · exact q.elim
    · rename_i heq; cases heq
    · exact q.elim
end
end DL
end
section
set_option Elab.async false
set_option linter.all false
set_option maxRecDepth 100000
set_option maxHeartbeats 4000000
set_option autoImplicit false
/-! DLH: comprehensions, statements, loops, bodies of defs. -/
namespace DL
open PySem PySem.Spec L2
open PyProof.Rows hiding St
section
variable {K : PySem.W.Frag} {mg : Str → Option Value} {c : Dx} {F F' F1 F2 : Addr → Prop} {ρ ρ' ρ1 ρ2 : List Addr} {H H' H1 H2 : Hp} {e e' e1 e2 : Sl} {σ σ' σ1 : St} {st st' st1 st2 : Sto} {Q Q' : VK}
def wipeE (e : Sl) : List Nat → Sl
  | [] => e
  | v :: vs => (wipeE e vs).set v none
theorem wipeE_length (e : Sl) : ∀ vs : List Nat, (wipeE e vs).length = e.length
  | [] => rfl
  | v :: vs => by unfold wipeE; rw [List.length_set, wipeE_length e vs]
theorem wipeE_some {i : Nat} {s : SV} : ∀ {vs : List Nat}, (wipeE e vs)[i]? = some (some s) → e[i]? = some (some s) ∧ i ∉ vs
  | [], h => ⟨h, by simp⟩
  | v :: vs, h => by
    unfold wipeE at h
    by_cases hi : v = i
    · subst hi
      by_cases hv : v < (wipeE e vs).length
      · rw [List.getElem?_set_self hv] at h; cases h
      · rw [List.getElem?_eq_none (by simpa using hv)] at h; cases h
    · rw [List.getElem?_set_ne hi] at h
      obtain ⟨h1, h2⟩ := wipeE_some h
      exact ⟨h1, by simp only [List.mem_cons, not_or]; exact ⟨fun q => hi q.symm, h2⟩⟩
theorem wipe_at {i : Nat} : ∀ {vs : List Nat}, i ∉ vs → (wipe σ vs)[i]? = σ[i]?
  | [], _ => rfl
  | v :: vs, h => by
    simp only [List.mem_cons, not_or] at h
    unfold wipe
    rw [List.getElem?_set_ne (fun q => h.1 q.symm), wipe_at h.2]
/-- other slots forgotten, other frames -/
theorem R.re (r : R K mg c F ρ e st σ H) (hl : e'.length = σ'.length) (h : ∀ (i : Nat) s, e'[i]? = some (some s) → e[i]? = some (some s) ∧ σ'[i]? = σ[i]?) : R K mg c F ρ e' st σ' H := by
  refine ⟨r.w, r.x, hl, fun i s hs => ?_, fun i j d d' a hij h1 h2 h3 h4 => ?_⟩
  · obtain ⟨h1, h2⟩ := h i s hs
    rw [h2]
    exact r.slot i s h1
  · obtain ⟨k1, k2⟩ := h i _ h1
    obtain ⟨k3, k4⟩ := h j _ h2
    rw [k2] at h3
    rw [k4] at h4
    exact r.dist i j d d' a hij k1 k3 h3 h4
theorem R.wish (r : R K mg c F ρ e st σ H) (W : WX) : R K mg { c with W := W } F ρ e st σ H := ⟨r.w, r.x, r.len, r.slot, r.dist⟩
theorem R.unwish {W : WX} (r : R K mg { c with W := W } F ρ e st σ H) : R K mg c F ρ e st σ H := ⟨r.w, r.x, r.len, r.slot, r.dist⟩
theorem R.upf (r : R K mg c F ρ e st σ H) {p : Addr} (nF : ¬ F p) (nR : p ∉ ρ) (nO : ¬ OwnAt e σ p) (c0 : c.H p = none) (o : HO) : R K mg c F ρ e st σ (upd H p o) := by
  have le : Le F ρ H F ρ (upd H p o) := le_upd nF
  refine ⟨⟨r.w.len, r.w.nd, r.w.nF, fun b z => there_upd (r.w.tr b z), fun j b s h1 h2 => (r.w.so j b s h1 h2).mono le fun u hu => ?_⟩, ⟨⟨r.x.sub, fun b u z q => ?_, fun b u z q => ?_, fun b u z q => ?_, r.x.pre⟩, fun b u h n m => ?_, r.x.newF, r.x.newR, fun b z => there_upd (r.x.there b z)⟩, r.len, fun j s h => ?_, r.dist⟩
  · rw [upd_ne (fun q => by subst q; exact nR (List.mem_of_getElem? h1))]
    exact hu
  · exact le.rd b u (r.x.sub b z) (r.x.rd b u z q)
  · exact le.ls b u (r.x.sub b z) (r.x.ls b u z q)
  · exact le.tp b u (r.x.sub b z) (r.x.tp b u z q)
  · have nb : b ≠ p := fun q => by subst q; rw [c0] at h; cases h
    rw [upd_ne nb]
    exact r.x.keep b u h n m
  · obtain ⟨v, e1, q⟩ := r.slot j s h
    refine ⟨v, e1, q.mono le fun b o' hs' hv' => ?_⟩
    subst hs'
    obtain ⟨b', e2, q2, q3, q4, q5⟩ := q
    rw [e2] at hv'
    cases hv'
    have nb : b ≠ p := fun z => by
      subst z
      exact nO ⟨j, o', h, e1.trans (by rw [e2])⟩
    exact ⟨fun u hu => by rw [upd_ne nb]; exact hu, q3, q4⟩
theorem LeE.upf (l : LeE e e' σ F ρ H F' ρ' H') {p : Addr} (hp : H p = none) (nF : ¬ F' p) (o : HO) : LeE e e' σ F ρ H F' ρ' (upd H' p o) := by
  refine ⟨l.toLe.trans (le_upd nF), l.ow, fun b u h n m no => ?_, l.newF, l.newR, fun b z => there_upd (l.there b z)⟩
  have nb : b ≠ p := fun q => by subst q; rw [hp] at h; cases h
  rw [upd_ne nb]
  exact l.keep b u h n m no

/-! ### comprehensions -/
def eYes : EF := fun e s => .ok (.bl true) e s
def compL (vs : List Nat) (bind : BF) (ft fe : EF) : List D → List D → Sl → Sto → ER
  | [], acc, e, s => .ok (.lst acc) e s
  | x :: xs, acc, e, s => match bind x e with
    | none => .stuck
    | some e1 => match ft e1 s with
      | .ok (.bl true) e2 s2 => (match eFz fe e2 s2 with
        | .ok d e3 s3 => if acc.length < lim then compL vs bind ft fe xs (acc ++ [d]) (wipeE e3 vs) s3 else .stuck
        | _ => .stuck)
      | .ok (.bl false) e2 s2 => compL vs bind ft fe xs acc (wipeE e2 vs) s2
      | _ => .stuck
def eComp (vs : List Nat) (fi : IF) (bind : BF) (ft fe : EF) : EF := fun e s => match fi e s with
  | .ok ds e1 s1 => compL vs bind ft fe ds [] (wipeE e1 vs) s1
  | .exc k e s => .exc k e s
  | .stuck => .stuck
abbrev noW : WX := fun _ _ _ _ => False
structure CompAt (K : PySem.W.Frag) (mg : Str → Option Value) (c : Dx) (vs : List Nat) (bind : BF) (ft fe : EF) (ds : List D) (eB : Sl) (σB : St) (F1 : Addr → Prop) (ρ1 : List Addr) (H1 : Hp) (p : Addr) (Q : VK) (i : Nat) (H : Hp) : Prop where
  ex : ∃ F ρ e st acc us, R K mg c F ρ e st σB H ∧ LeE eB e σB F1 ρ1 H1 F ρ H ∧ (∀ (j : Nat) s, e[j]? = some (some s) → j ∉ vs) ∧ H p = some (.lst us) ∧ Reps K F ρ H us acc ∧ ¬ F p ∧ p ∉ ρ ∧
    NPost K mg c eB σB F1 ρ1 H1 Q (compL vs bind ft fe (ds.drop i) acc e st)
theorem comp_turn {g : TG} {vs : List Nat} {bind : BF} {ft fe : EF} {tt : TT} {te : TE} {ds : List D} {eB : Sl} {σB : St} {p : Addr} {i : Nat} {x : V} {d : D}
    (hg : TGok K mg g vs bind) (htt : ∀ σ H Q, tTD K mg { c with W := noW } ft σ H Q → tt σ H Q) (hte : ∀ σ H Q, tED K mg { c with W := noW } fe σ H Q → te σ H Q)
    (hσ : wipe σB vs = σB) (h0 : c.H p = none) (h1 : H1 p = none) (nO : ¬ OwnAt eB σB p) (hd : ds[i]? = some d) (hx : ∀ F ρ, Le F1 ρ1 H1 F ρ H → Rep K F ρ H x d) (hC : CompAt K mg c vs bind ft fe ds eB σB F1 ρ1 H1 p Q i H) :
    g x σB H fun σ2 H2 => wipe σ2 vs = σB ∧ tt σ2 H2 fun b H3 =>
      if b = true then te σ2 H3 fun y H4 => ∃ acc, H4 p = some (.lst acc) ∧ acc.length < sizeLine ∧ CompAt K mg c vs bind ft fe ds eB σB F1 ρ1 H1 p Q (i + 1) (upd H4 p (.lst (acc ++ [y]))) else CompAt K mg c vs bind ft fe ds eB σB F1 ρ1 H1 p Q (i + 1) H3 := by
  obtain ⟨F, ρ, e, st, acc, us, r, l, hw, hp, ra, nF, nR, q⟩ := hC.ex
  have hdrop : ds.drop i = d :: ds.drop (i + 1) := by
    have hi : i < ds.length := (List.getElem?_eq_some_iff.mp hd).1
    rw [List.drop_eq_getElem_cons hi]
    congr 1
    rw [List.getElem?_eq_getElem hi] at hd
    exact Option.some.inj hd
  rw [hdrop] at q
  unfold compL at q
  split at q
  · exact q.elim
  rename_i e1 hb
  obtain ⟨el, eo⟩ := hg.ow d e e1 hb
  have nOe : ¬ OwnAt e σB p := fun ⟨j, d0, z1, z2⟩ => nO ⟨j, d0, l.ow j d0 z1, z2⟩
  refine hg.run c F ρ e e1 st σB H x d _ r (hx F ρ l.toLe) hb fun σ2 r2 hl2 k2 => ?_
  have hw2 : wipe σ2 vs = σB := by
    apply List.ext_getElem?
    intro j
    by_cases hj : j ∈ vs
    · rw [← hσ]
      have aux : ∀ (τ : St) (ws : List Nat), j ∈ ws → (wipe τ ws)[j]? = if j < τ.length then some none else none := by
        intro τ ws
        induction ws with
        | nil => intro h; cases h
        | cons w ws ih =>
          intro h
          unfold wipe
          by_cases hwj : w = j
          · subst hwj
            by_cases hlt : w < τ.length
            · rw [if_pos hlt, List.getElem?_set_self (by rw [wipe_length]; exact hlt)]
            · rw [if_neg hlt]
              exact List.getElem?_eq_none (by rw [List.length_set, wipe_length]; omega)
          · rw [List.getElem?_set_ne hwj]
            exact ih ((List.mem_cons.mp h).resolve_left fun z => hwj z.symm)
      rw [aux σ2 vs hj, aux σB vs hj, hl2]
    · rw [wipe_at hj, k2 j hj]
  -- owned slots of the block's env
  have own1 : ∀ a, OwnAt e1 σ2 a → OwnAt eB σB a := fun a ⟨j, d0, z1, z2⟩ => by
    have z3 := eo j d0 z1
    exact ⟨j, d0, l.ow j d0 z3, by rw [← k2 j (hw j _ z3)]; exact z2⟩
  have back : ∀ {e3 : Sl} {F3 : Addr → Prop} {ρ3 : List Addr} {H3 : Hp} {st3 : Sto}, LeE e1 e3 σ2 F ρ H F3 ρ3 H3 → R K mg { c with W := noW } F3 ρ3 e3 st3 σ2 H3 →
      R K mg c F3 ρ3 (wipeE e3 vs) st3 σB H3 ∧ LeE eB (wipeE e3 vs) σB F1 ρ1 H1 F3 ρ3 H3 ∧ (∀ (j : Nat) s, (wipeE e3 vs)[j]? = some (some s) → j ∉ vs) ∧ H3 p = some (.lst us) ∧ Reps K F3 ρ3 H3 us acc ∧ ¬ F3 p ∧ p ∉ ρ3 := by
    intro e3 F3 ρ3 H3 st3 l3 r3
    have nO1 : ¬ OwnAt e1 σ2 p := fun z => nO (own1 p z)
    refine ⟨r3.unwish.re (by rw [wipeE_length, r3.len, hl2]) (fun j s hs => ?_), ⟨l.toLe.trans l3.toLe, fun j d0 z => ?_, fun a o ha n m no => ?_, fun a z => ?_, fun a z => ?_, fun a z => l3.there a (l.there a z)⟩, fun j s hs => (wipeE_some hs).2, l3.keep p _ hp nF nR nO1, ra.mono l3.toLe, fun z => ?_, fun z => ?_⟩
    · obtain ⟨z1, z2⟩ := wipeE_some hs
      exact ⟨z1, (k2 j z2).symm⟩
    · exact l.ow j d0 (eo j d0 (l3.ow j d0 (wipeE_some z).1))
    · refine l3.keep a o (l.keep a o ha n m no) (fun z => ?_) (fun z => ?_) fun z => no (own1 a z)
      · rcases l.newF a z with z | z | z
        · exact n z
        · rw [ha] at z; cases z
        · exact no z
      · rcases l.newR a z with z | z
        · exact m z
        · rw [ha] at z; cases z
    · rcases l3.newF a z with z | z | z
      · exact l.newF a z
      · refine .inr (.inl ?_)
        cases hq : H1 a with
        | none => rfl
        | some o => exact absurd z (l.there a (some_ne hq))
      · exact .inr (.inr (own1 a z))
    · rcases l3.newR a z with z | z
      · exact l.newR a z
      · refine .inr ?_
        cases hq : H1 a with
        | none => rfl
        | some o => exact absurd z (l.there a (some_ne hq))
    · rcases l3.newF p z with z | z | z
      · exact nF z
      · rw [hp] at z; cases z
      · exact nO1 z
    · rcases l3.newR p z with z | z
      · exact nR z
      · rw [hp] at z; cases z
  refine ⟨hw2, htt σ2 H _ ⟨F, ρ, e1, st, r2.wish noW, ?_⟩⟩
  cases hft : ft e1 st with
  | stuck => rw [hft] at q; exact q.elim
  | exc k e2 s2 => rw [hft] at q; exact q.elim
  | ok db e2 s2 =>
    rw [hft] at q
    cases db with
    | bl b =>
      intro F3 ρ3 H3 l3 r3
      cases b with
      | false =>
        rw [if_neg Bool.false_ne_true]
        obtain ⟨b1, b2, b3, b4, b5, b6, b7⟩ := back l3 r3
        exact ⟨F3, ρ3, _, s2, acc, us, b1, b2, b3, b4, b5, b6, b7, q⟩
      | true =>
        rw [if_pos rfl]
        simp only at q
        refine hte σ2 H3 _ ⟨F3, ρ3, e2, s2, r3, ?_⟩
        have q' := q
        unfold eFz at q
        cases hfe : fe e2 s2 with
        | stuck => rw [hfe] at q; exact q.elim
        | exc k e4 s4 => rw [hfe] at q; exact q.elim
        | ok dd e4 s4 =>
          rw [hfe] at q
          simp only [ER.bind] at q
          intro F4 ρ4 H4 y l4 r4 x4
          cases hz : fz dd e4 with
          | none => rw [hz] at q; exact q.elim
          | some de =>
            obtain ⟨d5, e5⟩ := de
            rw [hz] at q
            simp only at q
            obtain ⟨F5, l5, r5, x5⟩ := fz_ok r4 x4 hz
            have l35 := (l3.trans l4).trans l5
            obtain ⟨b1, b2, b3, b4, b5, b6, b7⟩ := back l35 r5
            split at q
            · rename_i hlim
              refine ⟨us, b4, lim_lt (by rw [b5.length]; exact hlim), F5, ρ4, wipeE e5 vs, s4, acc ++ [d5], us ++ [y], b1.upf b6 b7 (fun ⟨j, d0, z1, z2⟩ => nO ⟨j, d0, b2.ow j d0 z1, z2⟩) h0 _, b2.upf h1 b6 _, b3, upd_same, ?_, b6, b7, q⟩
              have le := le_upd (ρ := ρ4) (H := H4) (a := p) (o := .lst (us ++ [y])) b6
              exact (b5.mono le).append (.cons (x5.mono le) .nil)
            · exact q.elim
    | _ => exact q.elim
theorem lc_read {wi : TI} {g : TG} {tt : TT} {te : TE} {vs : List Nat} {fi : IF} {bind : BF} {ft fe : EF} (hwi : ∀ σ H R, tID K mg c fi σ H R → wi σ H R) (hg : TGok K mg g vs bind) (htt : ∀ σ H Q, tTD K mg { c with W := noW } ft σ H Q → tt σ H Q) (hte : ∀ σ H Q, tED K mg { c with W := noW } fe σ H Q → te σ H Q)
    (r : R K mg c F ρ e st σ H) (q : NPost K mg c e σ F ρ H Q (eComp vs fi bind ft fe e st)) : tLc wi g tt te vs σ H Q := by
  refine hwi σ H _ ⟨F, ρ, e, st, r, ?_⟩
  unfold eComp at q
  cases hfi : fi e st with
  | stuck => rw [hfi] at q; exact q
  | exc k e1 s1 => rw [hfi] at q; exact q
  | ok ds e1 s1 =>
    rw [hfi] at q
    simp only at q
    intro F1 ρ1 H1 J l1 r1 wk p hp
    have c0 : c.H p = none := by
      cases q : c.H p with
      | none => rfl
      | some o => exact absurd hp (r1.x.there p (some_ne q))
    have wlen : ∀ (τ : St), (wipeE e1 vs).length = τ.length → True := fun _ _ => trivial
    have rB : R K mg c F1 ρ1 (wipeE e1 vs) s1 (wipe σ vs) H1 := r1.re (by rw [wipeE_length, wipe_length, r1.len]) fun j s hs => by
      obtain ⟨z1, z2⟩ := wipeE_some hs
      exact ⟨z1, wipe_at z2⟩
    have nO : ¬ OwnAt (wipeE e1 vs) (wipe σ vs) p := fun z => rB.ownH z hp
    have nF : ¬ F1 p := fun z => r1.w.tr p z hp
    have nR : p ∉ ρ1 := fun z => by obtain ⟨o, q⟩ := r1.w.mem z; rw [hp] at q; cases q
    have hσ : wipe (wipe σ vs) vs = wipe σ vs := by
      apply List.ext_getElem?
      intro j
      by_cases hj : j ∈ vs
      · have aux : ∀ (τ : St) (ws : List Nat), j ∈ ws → (wipe τ ws)[j]? = if j < τ.length then some none else none := by
          intro τ ws
          induction ws with
          | nil => intro h; cases h
          | cons w ws ih =>
            intro h
            unfold wipe
            by_cases hwj : w = j
            · subst hwj
              by_cases hlt : w < τ.length
              · rw [if_pos hlt, List.getElem?_set_self (by rw [wipe_length]; exact hlt)]
              · rw [if_neg hlt]
                exact List.getElem?_eq_none (by rw [List.length_set, wipe_length]; omega)
            · rw [List.getElem?_set_ne hwj]
              exact ih ((List.mem_cons.mp h).resolve_left fun z => hwj z.symm)
        rw [aux _ vs hj, aux _ vs hj, wipe_length]
      · rw [wipe_at hj]
    -- the end's wish, seen from within
    have q1 : NPost K mg c (wipeE e1 vs) (wipe σ vs) F1 ρ1 H1 (fun v H' => Q v H') (compL vs bind ft fe ds [] (wipeE e1 vs) s1) := by
      cases hres : compL vs bind ft fe ds [] (wipeE e1 vs) s1 with
      | stuck => rw [hres] at q; exact q
      | exc k e5 s5 =>
        exfalso
        have aux : ∀ (xs acc : List D) (e : Sl) (s : Sto), compL vs bind ft fe xs acc e s ≠ .exc k e5 s5 := by
          intro xs
          induction xs with
          | nil => intro acc e s h; cases h
          | cons x xs ih =>
            intro acc e s h
            unfold compL at h
            split at h
            · cases h
            split at h
            · split at h
              · split at h
                · exact ih _ _ _ h
                · cases h
              · cases h
            · exact ih _ _ _ h
            · cases h
        exact aux _ _ _ _ hres
      | ok d e5 s5 =>
        rw [hres] at q
        intro F' ρ' H' a l r' cr n1 n2 n3 n4
        have wipedE : ∀ (j : Nat) s, e5[j]? = some (some s) → j ∉ vs := by
          have aux : ∀ (xs acc : List D) (e : Sl) (s : Sto), (∀ (j : Nat) s, e[j]? = some (some s) → j ∉ vs) → compL vs bind ft fe xs acc e s = .ok d e5 s5 → ∀ (j : Nat) s, e5[j]? = some (some s) → j ∉ vs := by
            intro xs
            induction xs with
            | nil => intro acc e s hw h; cases h; exact hw
            | cons x xs ih =>
              intro acc e s hw h
              unfold compL at h
              split at h
              · cases h
              split at h
              · split at h
                · split at h
                  · exact ih _ _ _ (fun j s hs => (wipeE_some hs).2) h
                  · cases h
                · cases h
              · exact ih _ _ _ (fun j s hs => (wipeE_some hs).2) h
              · cases h
          exact aux ds [] _ s1 (fun j s hs => (wipeE_some hs).2) hres
        have r6 : R K mg c F' ρ' e5 s5 σ H' := r'.re (by rw [r'.len, wipe_length]) fun j s hs => ⟨hs, (wipe_at (wipedE j s hs)).symm⟩
        have ownB : ∀ b, OwnAt (wipeE e1 vs) (wipe σ vs) b → OwnAt e1 σ b := fun b ⟨j, d0, z1, z2⟩ => by
          obtain ⟨z3, z4⟩ := wipeE_some z1
          rw [wipe_at z4] at z2
          exact ⟨j, d0, z3, z2⟩
        have l6 : LeE e1 e5 σ F1 ρ1 H1 F' ρ' H' := ⟨l.toLe, fun j d0 z => (wipeE_some (l.ow j d0 z)).1, fun b o h n m no => l.keep b o h n m fun z => no (ownB b z), fun b z => by
          rcases l.newF b z with z | z | z
          · exact .inl z
          · exact .inr (.inl z)
          · exact .inr (.inr (ownB b z)), l.newR, l.there⟩
        refine q F' ρ' H' a (l1.trans l6) r6 cr n1 n2 (fun ⟨j, d0, z1, z2⟩ => n3 ⟨j, d0, z1, by rw [wipe_at (wipedE j _ z1)]; exact z2⟩) ?_
        cases hq : H a with
        | none => rfl
        | some o => exact absurd n4 (l1.there a (some_ne hq))
    refine ⟨fun i m H => m = ds.length - i ∧ i ≤ ds.length ∧ CompAt K mg c vs bind ft fe ds (wipeE e1 vs) (wipe σ vs) F1 ρ1 H1 p Q i H, ⟨ds.length, by simp, Nat.zero_le _, ?_⟩, ?_⟩
    · refine ⟨F1, ρ1, wipeE e1 vs, s1, [], [], rB.upf nF nR nO c0 _, LeE.refl.upf hp nF _, fun j s hs => (wipeE_some hs).2, upd_same, .nil, nF, nR, q1⟩
    · rintro i m H3 ⟨rfl, hi, hC⟩
      obtain ⟨F3, ρ3, e3, st3, acc, us, r3, l3, hw, hp3, ra, nF3, nR3, q3⟩ := id hC.ex
      by_cases hlt : i < ds.length
      · refine .inr ⟨wk.go F3 ρ3 H3 i l3.toLe hlt, CompAt K mg c vs bind ft fe ds (wipeE e1 vs) (wipe σ vs) F1 ρ1 H1 p Q (i + 1), fun H' hC' => ⟨ds.length - (i + 1), by omega, rfl, hlt, hC'⟩, fun x H4 hy => ?_⟩
        obtain ⟨e4, d, hd, _⟩ := wk.yld F3 ρ3 H3 i x H4 l3.toLe hlt hy
        subst e4
        refine comp_turn hg htt hte hσ c0 hp nO hd (fun F4 ρ4 le4 => ?_) hC
        obtain ⟨_, d', hd', rep⟩ := wk.yld F4 ρ4 _ i x _ le4 hlt hy
        rw [hd] at hd'
        cases hd'
        exact rep
      · have ei : i = ds.length := by omega
        subst ei
        refine .inl ⟨wk.stop F3 ρ3 H3 _ l3.toLe (Nat.le_refl _), ?_⟩
        rw [List.drop_length] at q3
        exact q3 F3 ρ3 H3 p l3 r3 (.lst hp3 ra) nF3 nR3 (fun ⟨j, d0, z1, z2⟩ => nO ⟨j, d0, l3.ow j d0 z1, z2⟩) hp
end
end DL
end
section
set_option Elab.async false
set_option linter.all false
set_option maxRecDepth 100000
set_option maxHeartbeats 4000000
set_option autoImplicit false
/-! DLI: statements, loops, bodies of defs. -/
namespace DL
open PySem PySem.Spec L2
open PyProof.Rows hiding St
section
variable {X : Cx} {c : Dx} {a b ex : Expr} {es : List Expr} {fa fb : EF} {fs : AF} {pos : Pos} {f : EF}
abbrev DTs (c : Dx) (X : Cx) (ifs : List Expr) (f : EF) : Prop := PTs X ifs (tTD X.K X.mg c f)
theorem dts_nil : DTs c X [] eYes := ⟨fun pins s σ H Q I ⟨F, ρ, e, st, r, q⟩ => pts_nil.run pins s σ H Q I (q F ρ H LeE.refl r)⟩
theorem dts_one (h : DT c X a fa) : DTs c X [a] fa := pts_one h
/-- the block of a comprehension: in every context that it may be run in -/
abbrev Blk (X : Cx) (scope : Scope) (P : Cx → Prop) : Prop := ∀ (s : Shared) (H : Hp) (C : Addr) (cl : List (Str × Addr)) (fp : List Addr), P (X.blk s H scope (compEnvC scope cl C X.env) fp)
theorem dn_comp {elt tg iter : Expr} {ifs : List Expr} {scope : Scope} {own : List (Str × Nat)} {g : TG} {bind : BF} {fi : IF} {ft fe : EF} (hc : X.calm = true) (hN : X.N.Nodup) (hi : DI c X tg iter fi) (ok : BlkOk X.N X.env.scope scope own)
    (hg : TGok X.K X.mg g (own.map (·.2)) bind) (hp : Blk X scope fun Y => PG Y tg g) (ht : Blk X scope fun Y => DTs { c with W := noW } Y ifs ft) (he : Blk X scope fun Y => DE { c with W := noW } Y elt fe)
    (hs : ∀ x, foldedSetIterable iter X.env x = pure x := by intro _; rfl) : DN c X (.ListComp elt [⟨tg, iter, ifs, 0⟩] scope pos) (eComp (own.map (·.2)) fi bind ft fe) :=
  ⟨fun pins s σ H Q I ⟨F, ρ, e, st, r, q⟩ => (pe_lc hc hN hi ok hp ht he hs).run pins s σ H Q I (lc_read (fun _ _ _ h => h) hg (fun _ _ _ h => h) (fun _ _ _ h => h) r q)⟩

/-! ### statements -/
def OR.bind (r : OR) (k : SF) : OR := match r with | .nx e s => k e s | r => r
def sSeq (f g : SF) : SF := fun e s => (f e s).bind g
def sNop : SF := fun e s => .nx e s
theorem dss_nil : DSs c X [] sNop := ⟨fun pins s σ H D I ⟨F, ρ, e, st, r, q⟩ => pss_nil.run pins s σ H D I (q F ρ σ H Le.refl r)⟩
theorem ds_imp {st : Stmt} {t : TS} {g : SF} (h : PS X st t) (k : ∀ F ρ e st σ H D, R X.K X.mg c F ρ e st σ H → SPost X.K X.mg c F ρ H D (g e st) → t D σ H) : DS c X st g :=
  ⟨fun pins s σ H D I ⟨F, ρ, e, st, r, q⟩ => h.run pins s σ H D I (k F ρ e st σ H D r q)⟩
theorem SPost.seq {K : PySem.W.Frag} {mg : Str → Option Value} {F : Addr → Prop} {ρ : List Addr} {H : Hp} {D : Ends} {r : OR} {k : SF} (h : SPost K mg c F ρ H D (r.bind k)) : SPost K mg c F ρ H { D with nx := tSD K mg c k D } r := by
  cases r with
  | nx e s => exact fun F' ρ' σ' H' l r => ⟨F', ρ', e, s, r, SPost.shift (r := k e s) l h⟩
  | bk e s => exact h
  | ct e s => exact h
  | rt v s => exact h
  | exc k e s => exact h
  | stuck => exact h
theorem dss_cons {st : Stmt} {sts : List Stmt} {g k : SF} (h1 : DS c X st g) (h2 : DSs c X sts k) : DSs c X (st :: sts) (sSeq g k) :=
  ⟨fun pins s σ H D I ⟨F, ρ, e, st, r, q⟩ => (pss_cons h1 h2).run pins s σ H D I ⟨F, ρ, e, st, r, SPost.seq q⟩⟩
theorem dss_one {st : Stmt} {g : SF} (h1 : DS c X st g) : DSs c X [st] g :=
  ⟨fun pins s σ H D I ⟨F, ρ, e, st, r, q⟩ => (pss_one h1).run pins s σ H D I ⟨F, ρ, e, st, r, q⟩⟩
/-- what a slot owns becomes known, ahead of the statements -/
def sFz (i : Nat) : SF := fun e s => match e[i]? with | some (some (.own d)) => .nx (e.set i (some (.val d))) s | _ => .stuck
theorem dss_fz {sts : List Stmt} {g : SF} (i : Nat) (h : DSs c X sts g) : DSs c X sts (sSeq (sFz i) g) := by
  refine ⟨fun pins s σ H D I ⟨F, ρ, e, st, r, q⟩ => h.run pins s σ H D I ?_⟩
  unfold sSeq sFz at q
  split at q
  · rename_i d hi
    obtain ⟨v, e1, p, e2, _⟩ := r.slot i _ hi
    subst e2
    obtain ⟨r2, l, _⟩ := r.freeze hi e1
    exact ⟨_, _, _, _, r2, SPost.shift l.toLe q⟩
  · exact q.elim
theorem ds_pass : DS c X (.Pass pos) sNop := ds_imp ps_pass fun F ρ e st σ H D r q => q F ρ σ H Le.refl r
def sBrk : SF := fun e s => .bk e s
def sCnt : SF := fun e s => .ct e s
theorem ds_break : DS c X (.Break pos) sBrk := ds_imp ps_break fun F ρ e st σ H D r q => q F ρ σ H Le.refl r
theorem ds_continue : DS c X (.Continue pos) sCnt := ds_imp ps_continue fun F ρ e st σ H D r q => q F ρ σ H Le.refl r
/-- x = e, a value -/
def sSet (i : Nat) (f : EF) : SF := fun e s => (eFz f e s).bindS fun d e s => .nx (e.set i (some (.val d))) s
theorem RepX.fz {K : PySem.W.Frag} {F : Addr → Prop} {ρ : List Addr} {H : Hp} {σ : St} {v : V} {d : D} (x : RepX K F ρ H σ v d) (h : ∀ i, d ≠ .own i) : Rep K F ρ H v d := by
  rcases x with ⟨i, _, rfl, _⟩ | x
  · exact absurd rfl (h i)
  · exact x
theorem fz_not {d d' : D} {e e' : Sl} {K : PySem.W.Frag} {mg : Str → Option Value} {F : Addr → Prop} {ρ : List Addr} {H : Hp} {σ : St} {st : Sto} (r : R K mg c F ρ e st σ H) (h : fz d e = some (d', e')) : ∀ i, d' ≠ .own i := by
  intro i z
  subst z
  unfold fz at h
  split at h
  · split at h
    · rename_i i0 d0 h0
      cases h
      obtain ⟨v, e1, a, e2, h3, _⟩ := r.slot _ _ h0
      cases h3
    · cases h
  · rename_i hn
    cases h
    exact hn _ rfl
theorem eFz_not {K : PySem.W.Frag} {mg : Str → Option Value} {F : Addr → Prop} {ρ : List Addr} {H : Hp} {e : Sl} {σ : St} {st : Sto} {Q : VK} (r : R K mg c F ρ e st σ H) {k : D → Sl → Sto → ER} : True := trivial
/-- a value that is known -/
theorem bindFz {K : PySem.W.Frag} {mg : Str → Option Value} {F : Addr → Prop} {ρ : List Addr} {H : Hp} {e : Sl} {σ : St} {st : Sto} {Q' : VK} {k : D → Sl → Sto → OR} {D : Ends} (h : SPost K mg c F ρ H D ((eFz f e st).bindS k))
    (q : ∀ F1 ρ1 e1 st1 H1 v d, LeE e e1 σ F ρ H F1 ρ1 H1 → R K mg c F1 ρ1 e1 st1 σ H1 → Rep K F1 ρ1 H1 v d → SPost K mg c F1 ρ1 H1 D (k d e1 st1) → Q' v H1) : EPost K mg c e σ F ρ H Q' (f e st) := by
  unfold eFz at h
  cases hr : f e st with
  | stuck => rw [hr] at h; exact h
  | exc n e1 s1 => rw [hr] at h; exact fun F' ρ' H' C r m => h F' ρ' σ H' C r m
  | ok d e1 s1 =>
    rw [hr] at h
    intro F' ρ' H' v l r' x
    simp only [ER.bind] at h
    split at h
    · rename_i d' e' hz
      obtain ⟨F2, l2, r2, x2⟩ := fz_ok r' x hz
      exact q F2 ρ' e' s1 H' v d' (l.trans l2) r2 x2 (SPost.shift (r := k d' e' s1) (l.trans l2).toLe h)
    · exact h.elim
theorem ds_set {x : Str} {p : Pos} (i : Nat) (hN : X.N.Nodup) (ha : DE c X a fa) (hi : X.N[i]? = some x := by rfl) (hx : Loc X.env.scope x := by first | exact Or.inl rfl | exact Or.inr rfl) (hs : swapsWith a (some (.Name x p)) pos.line X.env = pure false := by rfl)
    (hf : X.fn x = true ∨ X.env.scope.names.lookup x = some .local := by first | exact .inl rfl | exact .inr rfl | assumption) : DS c X (.Assign [.Name x p] a pos) (sSet i fa) :=
  ds_imp (ps_set hN hi hx ha hs hf) fun F ρ e st σ H D r q => ⟨F, ρ, e, st, r, bindFz q fun F1 ρ1 e1 st1 H1 v d l r1 x1 h1 => h1 F1 ρ1 _ H1 Le.refl (r1.setVal x1)⟩
/-- x = e, a new object that the slot owns -/
def sOwn (i : Nat) (f : EF) : SF := fun e s => (f e s).bindS fun d e s => .nx (e.set i (some (.own d))) s
theorem own_post {K : PySem.W.Frag} {mg : Str → Option Value} {F : Addr → Prop} {ρ : List Addr} {H : Hp} {e : Sl} {σ : St} {st : Sto} {D : Ends} {i : Nat} (r0 : R K mg c F ρ e st σ H) (h : SPost K mg c F ρ H D (sOwn i f e st)) : NPost K mg c e σ F ρ H (fun v H1 => D.nx (σ.set i (some v)) H1) (f e st) := by
  unfold sOwn at h
  cases hr : f e st with
  | stuck => rw [hr] at h; exact h
  | exc n e1 s1 => rw [hr] at h; exact fun F' ρ' H' C r m => h F' ρ' σ H' C r m
  | ok d e1 s1 =>
    rw [hr] at h
    intro F' ρ' H' p l r cr n1 n2 n3 n4
    have c0 : c.H p = none := by
      cases q : c.H p with
      | none => rfl
      | some o => exact absurd n4 (r0.x.there p (some_ne q))
    exact h F' ρ' _ H' l.toLe (r.setOwn cr n1 n2 c0 n3)
theorem ds_own {x : Str} {p : Pos} (i : Nat) (hN : X.N.Nodup) (ha : DN c X a fa) (hi : X.N[i]? = some x := by rfl) (hx : Loc X.env.scope x := by first | exact Or.inl rfl | exact Or.inr rfl) (hs : swapsWith a (some (.Name x p)) pos.line X.env = pure false := by rfl)
    (hf : X.fn x = true ∨ X.env.scope.names.lookup x = some .local := by first | exact .inl rfl | exact .inr rfl | assumption) : DS c X (.Assign [.Name x p] a pos) (sOwn i fa) :=
  ds_imp (ps_set hN hi hx ha hs hf) fun F ρ e st σ H D r q => ⟨F, ρ, e, st, r, own_post r q⟩
/-- x = [.. for ..], the swapping form -/
theorem ds_ownC {i : Nat} {y : Str} {py : Pos} {elt tg iter : Expr} {ifs : List Expr} {scope : Scope} {own : List (Str × Nat)} {spos : Pos} {g : TG} {bind : BF} {fi : IF} {ft fe : EF} (hc : X.calm = true) (hN : X.N.Nodup) (hi : DI c X tg iter fi) (ok : BlkOk X.N X.env.scope scope own)
    (hg : TGok X.K X.mg g (own.map (·.2)) bind) (hp : Blk X scope fun Y => PG Y tg g) (ht : Blk X scope fun Y => DTs { c with W := noW } Y ifs ft) (he : Blk X scope fun Y => DE { c with W := noW } Y elt fe)
    (hy : X.N[i]? = some y := by rfl) (hyl : X.env.scope.names.lookup y = some .local := by rfl) (hsw : swapsWith (.ListComp elt [⟨tg, iter, ifs, 0⟩] scope pos) (some (.Name y py)) spos.line X.env = pure true := by exact sw_true rfl rfl rfl (by decide +kernel))
    (hs : ∀ x, foldedSetIterable iter X.env x = pure x := by intro _; rfl) : DS c X (.Assign [.Name y py] (.ListComp elt [⟨tg, iter, ifs, 0⟩] scope pos) spos) (sOwn i (eComp (own.map (·.2)) fi bind ft fe)) :=
  ds_imp (ps_setLc hc hN hy hyl hsw hi ok hp ht he hs) fun F ρ e st σ H D r q => lc_read (fun _ _ _ h => h) hg (fun _ _ _ h => h) (fun _ _ _ h => h) r (own_post r q)
/-- an owned object that is known at once -/
theorem SPost.ownVal {K : PySem.W.Frag} {mg : Str → Option Value} {F : Addr → Prop} {ρ : List Addr} {H : Hp} {e : Sl} {σ : St} {st : Sto} {D : Ends} {i : Nat} (r0 : R K mg c F ρ e st σ H) (h : SPost K mg c F ρ H D (sSet i f e st)) : NPost K mg c e σ F ρ H (fun v H1 => D.nx (σ.set i (some v)) H1) (f e st) := by
  unfold sSet eFz at h
  cases hr : f e st with
  | stuck => rw [hr] at h; exact h
  | exc n e1 s1 => rw [hr] at h; exact fun F' ρ' H' C r m => h F' ρ' σ H' C r m
  | ok d e1 s1 =>
    rw [hr] at h
    intro F' ρ' H' p l r cr n1 n2 n3 n4
    have c0 : c.H p = none := by
      cases q : c.H p with
      | none => rfl
      | some o => exact absurd n4 (r0.x.there p (some_ne q))
    obtain ⟨r2, rep⟩ := r.know cr n1 n2 n3 c0
    have hz : fz d e1 = some (d, e1) := by cases cr <;> rfl
    simp only [ER.bind, hz] at h
    exact h _ ρ' _ H' (l.know n4).toLe (r2.setVal rep)
theorem ds_setC {i : Nat} {y : Str} {py : Pos} {elt tg iter : Expr} {ifs : List Expr} {scope : Scope} {own : List (Str × Nat)} {spos : Pos} {g : TG} {bind : BF} {fi : IF} {ft fe : EF} (hc : X.calm = true) (hN : X.N.Nodup) (hi : DI c X tg iter fi) (ok : BlkOk X.N X.env.scope scope own)
    (hg : TGok X.K X.mg g (own.map (·.2)) bind) (hp : Blk X scope fun Y => PG Y tg g) (ht : Blk X scope fun Y => DTs { c with W := noW } Y ifs ft) (he : Blk X scope fun Y => DE { c with W := noW } Y elt fe)
    (hy : X.N[i]? = some y := by rfl) (hyl : X.env.scope.names.lookup y = some .local := by rfl) (hsw : swapsWith (.ListComp elt [⟨tg, iter, ifs, 0⟩] scope pos) (some (.Name y py)) spos.line X.env = pure true := by exact sw_true rfl rfl rfl (by decide +kernel))
    (hs : ∀ x, foldedSetIterable iter X.env x = pure x := by intro _; rfl) : DS c X (.Assign [.Name y py] (.ListComp elt [⟨tg, iter, ifs, 0⟩] scope pos) spos) (sSet i (eComp (own.map (·.2)) fi bind ft fe)) :=
  ds_imp (ps_setLc hc hN hy hyl hsw hi ok hp ht he hs) fun F ρ e st σ H D r q => lc_read (fun _ _ _ h => h) hg (fun _ _ _ h => h) (fun _ _ _ h => h) r (SPost.ownVal r q)
/-- a target that is a tuple -/
def sAsg (bind : BF) (f : EF) : SF := fun e s => (eFz f e s).bindS fun d e s => match bind d e with | some e' => .nx e' s | none => .stuck
theorem ds_asg {tg : Expr} {g : TG} {vs : List Nat} {bind : BF} (hg : TGok X.K X.mg g vs bind) (hp : PG X tg g) (ha : DE c X a fa) (hs : swapsWithSole [tg] a pos.line X.env = pure false := by rfl) (hw : swappedStores [tg] a X.env = pure none := by rfl) (h1 : (assignEach [tg] X.env).map (·.2) = [assign tg X.env] := by rfl) : DS c X (.Assign [tg] a pos) (sAsg bind fa) :=
  ds_imp (ps_asg ha hp hs hw h1) fun F ρ e st σ H D r q => ⟨F, ρ, e, st, r, bindFz q fun F1 ρ1 e1 st1 H1 v d l r1 x1 h1 => by
    split at h1
    · rename_i e' hb
      exact hg.run c F1 ρ1 e1 e' st1 σ H1 v d _ r1 x1 hb fun σ' r' _ _ => h1 F1 ρ1 σ' H1 Le.refl r'
    · exact h1.elim⟩
/-- a, b = x, y -/
def sPar (i j : Nat) (fs : AF) : SF := fun e s => (fs e s).bindS fun ds e s => match ds with | [x, y] => .nx ((e.set i (some (.val x))).set j (some (.val y))) s | _ => .stuck
theorem ds_par {x y : Str} {px py pt : Pos} {kt k2 : Nat} {pt2 : Pos} (i j : Nat) (hc : X.calm = true) (hN : X.N.Nodup) (ha : DA c X [a, b] fs) (hi : X.N[i]? = some x := by rfl) (hj : X.N[j]? = some y := by rfl) (hij : i ≠ j := by decide)
    (hx : X.env.scope.names.lookup x = some .local := by rfl) (hy : X.env.scope.names.lookup y = some .local := by rfl)
    (hw : swappedStores [.Tuple [.Name x px, .Name y py] kt pt] (.Tuple [a, b] k2 pt2) X.env = pure (some [x, y]) := by rfl)
    (hs : swapsWithSole [.Tuple [.Name x px, .Name y py] kt pt] (.Tuple [a, b] k2 pt2) pos.line X.env = pure false := by rfl) : DS c X (.Assign [.Tuple [.Name x px, .Name y py] kt pt] (.Tuple [a, b] k2 pt2) pos) (sPar i j fs) := by
  refine ds_imp (ps_par hc hN hi hj hij hx hy ha hw hs) fun F ρ e st σ H D r q => ⟨F, ρ, e, st, r, bindAS q fun F1 ρ1 e1 st1 H1 vs ds l r1 rs h1 => ?_⟩
  split at h1
  · cases rs with
    | cons x1 rs => cases rs with
      | cons x2 rs =>
        cases rs
        exact ⟨_, _, rfl, h1 F1 ρ1 _ H1 Le.refl ((r1.setVal x1).setVal x2)⟩
  · exact h1.elim
/-- return -/
def sRet (f : EF) : SF := fun e s => (f e s).bindS fun d e s => match d with
  | .own i => (match e[i]? with | some (some (.own d')) => .rt (.new d') s | _ => .stuck)
  | d => .rt (.val d) s
theorem ds_ret (ha : DE c X a fa) : DS c X (.Return (some a) pos) (sRet fa) := by
  refine ds_imp (ps_ret ha) fun F ρ e st σ H D r q => ⟨F, ρ, e, st, r, bindES q fun F1 ρ1 e1 st1 H1 v d l r1 x h1 => ?_⟩
  rcases x with ⟨i, p, rfl, rfl, hi⟩ | x
  · simp only at h1
    split at h1
    · rename_i d' he
      obtain ⟨v, z1, p', z2, z3, z4, z5, z6⟩ := r1.slot i _ he
      rw [hi] at z1
      cases z1
      cases z2
      exact h1 F1 ρ1 H1 _ r1.w r1.x ⟨_, rfl, z3, z4, z5, z6⟩
    · exact h1.elim
  · have : (match d with | .own i => (match e1[i]? with | some (some (.own d')) => OR.rt (.new d') st1 | _ => .stuck) | d => .rt (.val d) st1) = .rt (.val d) st1 := by
      cases x <;> rfl
    rw [this] at h1
    exact h1 F1 ρ1 H1 v r1.w r1.x x
def sRetN (f : EF) : SF := fun e s => (f e s).bindS fun d e s => .rt (.new d) s
theorem ds_retN (ha : DN c X a fa) : DS c X (.Return (some a) pos) (sRetN fa) := by
  refine ds_imp (ps_ret ha) fun F ρ e st σ H D r q => ⟨F, ρ, e, st, r, ?_⟩
  unfold sRetN at q
  cases hr : fa e st with
  | stuck => rw [hr] at q; exact q
  | exc n e1 s1 => rw [hr] at q; exact fun F' ρ' H' C r m => q F' ρ' σ H' C r m
  | ok d e1 s1 =>
    rw [hr] at q
    intro F' ρ' H' p l r1 cr n1 n2 n3 n4
    have c0 : c.H p = none := by
      cases q : c.H p with
      | none => rfl
      | some o => exact absurd n4 (r.x.there p (some_ne q))
    exact q F' ρ' H' _ r1.w r1.x ⟨p, rfl, cr, n1, n2, c0⟩
def sRet0 : SF := fun e s => .rt (.val .non) s
theorem ds_ret0 : DS c X (.Return none pos) sRet0 := ds_imp ps_retN fun F ρ e st σ H D r q => q F ρ H _ r.w r.x .non
/-- if -/
def sIf (fc : EF) (g k : SF) : SF := fun e s => (fc e s).bindS fun d e s => match d with | .bl true => g e s | .bl false => k e s | _ => .stuck
theorem ds_if {cx : Expr} {fc : EF} {A B : List Stmt} {g k : SF} (hc : DT c X cx fc) (ha : DSs c X A g) (hb : DSs c X B k) : DS c X (.If cx A B pos) (sIf fc g k) := by
  refine ds_imp (ps_if hc ha hb) fun F ρ e st σ H D r q => ⟨F, ρ, e, st, r, ?_⟩
  unfold sIf at q
  cases hr : fc e st with
  | stuck => rw [hr] at q; exact q
  | exc n e1 s1 => rw [hr] at q; exact fun F' ρ' H' C r m => q F' ρ' σ H' C r m
  | ok d e1 s1 =>
    rw [hr] at q
    simp only [ER.bindS] at q
    split at q
    · intro F' ρ' H' l r'
      rw [if_pos rfl]
      exact ⟨F', ρ', e1, s1, r', SPost.shift l.toLe q⟩
    · intro F' ρ' H' l r'
      rw [if_neg Bool.false_ne_true]
      exact ⟨F', ρ', e1, s1, r', SPost.shift l.toLe q⟩
    · exact q.elim
/-- an expression alone -/
def sDo (f : EF) : SF := fun e s => (f e s).bindS fun _ e s => .nx e s
theorem ds_do (ha : DE c X a fa) (hs : swapsWith a none pos.line X.env = pure false := by rfl) : DS c X (.Expr a pos) (sDo fa) :=
  ds_imp (ps_expr ha hs) fun F ρ e st σ H D r q => ⟨F, ρ, e, st, r, bindES q fun F1 ρ1 e1 st1 H1 v d l r1 x h1 => h1 F1 ρ1 σ H1 Le.refl r1⟩

/-! ### for -/
def forL (bind : BF) (g : SF) : List D → Sl → Sto → OR
  | [], e, s => .nx e s
  | x :: xs, e, s => match bind x e with
    | none => .stuck
    | some e1 => match g e1 s with
      | .nx e2 s2 => forL bind g xs e2 s2
      | .ct e2 s2 => forL bind g xs e2 s2
      | .bk e2 s2 => .nx e2 s2
      | r => r
def sFor (fi : IF) (bind : BF) (g : SF) : SF := fun e s => match fi e s with
  | .ok ds e1 s1 => forL bind g ds e1 s1
  | .exc k e s => .exc k e s
  | .stuck => .stuck
theorem ds_for {tg iter : Expr} {body : List Stmt} {g : TG} {vs : List Nat} {bind : BF} {fi : IF} {k : SF} (hp : PassesOwn (model X.prog X.w) X.A X.env X.xe) (hc : X.calm = true) (hi : DI c X tg iter fi) (hg : TGok X.K X.mg g vs bind) (ht : PG X tg g) (hb : DSs c X body k)
    (hs : ∀ x, foldedSetIterable iter X.env x = pure x := by intro _; rfl) : DS c X (.For tg iter body [] pos) (sFor fi bind k) := by
  refine ds_imp (ps_for hp hc hi ht hb hs) fun F ρ e st σ H D r q => ⟨F, ρ, e, st, r, ?_⟩
  unfold sFor at q
  cases hr : fi e st with
  | stuck => rw [hr] at q; exact q
  | exc n e1 s1 => rw [hr] at q; exact fun F' ρ' H' C r m => q F' ρ' σ H' C r m
  | ok ds e1 s1 =>
    rw [hr] at q
    simp only at q
    intro F1 ρ1 H1 J l1 r1 wk
    refine ⟨fun i m σ H => m = ds.length - i ∧ i ≤ ds.length ∧ ∃ F ρ e st, R X.K X.mg c F ρ e st σ H ∧ Le F1 ρ1 H1 F ρ H ∧ SPost X.K X.mg c F1 ρ1 H1 D (forL bind k (ds.drop i) e st), ⟨ds.length, by simp, Nat.zero_le _, F1, ρ1, e1, s1, r1, Le.refl, q.shift l1.toLe⟩, ?_⟩
    rintro i m σ2 H2 ⟨rfl, hi2, F2, ρ2, e2, st2, r2, le2, q2⟩
    by_cases hlt : i < ds.length
    · refine .inr ⟨wk.go F2 ρ2 H2 i le2 hlt, fun σ H => ∃ F ρ e st, R X.K X.mg c F ρ e st σ H ∧ Le F1 ρ1 H1 F ρ H ∧ SPost X.K X.mg c F1 ρ1 H1 D (forL bind k (ds.drop (i + 1)) e st), fun σ' H' hN => ⟨ds.length - (i + 1), by omega, rfl, hlt, hN⟩, fun x H3 hy => ?_⟩
      obtain ⟨e3, d, hd, rep⟩ := wk.yld F2 ρ2 H2 i x H3 le2 hlt hy
      subst e3
      have hdrop : ds.drop i = d :: ds.drop (i + 1) := by
        rw [List.drop_eq_getElem_cons hlt]
        congr 1
        rw [List.getElem?_eq_getElem hlt] at hd
        exact Option.some.inj hd
      rw [hdrop] at q2
      unfold forL at q2
      split at q2
      · exact q2.elim
      rename_i e4 hbd
      refine hg.run c F2 ρ2 e2 e4 st2 σ2 _ x d _ r2 rep hbd fun σ4 r4 _ _ => ⟨F2, ρ2, e4, st2, r4, ?_⟩
      cases hk : k e4 st2 with
      | nx e5 s5 => rw [hk] at q2; exact fun F' ρ' σ' H' l r => ⟨F', ρ', e5, s5, r, le2.trans l, q2⟩
      | ct e5 s5 => rw [hk] at q2; exact fun F' ρ' σ' H' l r => ⟨F', ρ', e5, s5, r, le2.trans l, q2⟩
      | bk e5 s5 => rw [hk] at q2; exact fun F' ρ' σ' H' l r => q2 F' ρ' σ' H' (le2.trans l) r
      | rt v s5 => rw [hk] at q2; exact q2
      | exc n e5 s5 => rw [hk] at q2; exact q2
      | stuck => rw [hk] at q2; exact q2
    · have ei : i = ds.length := by omega
      subst ei
      refine .inl ⟨wk.stop F2 ρ2 H2 _ le2 (Nat.le_refl _), ?_⟩
      rw [List.drop_length] at q2
      exact q2 F2 ρ2 σ2 H2 le2 r2
end
end DL
end
section
set_option Elab.async false
set_option linter.all false
set_option maxRecDepth 100000
set_option maxHeartbeats 4000000
set_option autoImplicit false
/-! DLJ: stores into what a slot owns; bodies of defs; a def of the text. -/
namespace DL
open PySem PySem.Spec L2
open PyProof.Rows hiding St
section
variable {X : Cx} {c : Dx} {a b ex : Expr} {es : List Expr} {fa fb : EF} {fs : AF} {pos : Pos} {f : EF}
/-- xs.append(e), xs owned -/
def sApp (i : Nat) (f : EF) : SF := fun e s => match e[i]? with
  | some (some (.own (.lst _))) => (eFz f e s).bindS fun d e s => (match e[i]? with
    | some (some (.own (.lst ds))) => if ds.length < lim then .nx (e.set i (some (.own (.lst (ds ++ [d]))))) s else .stuck
    | _ => .stuck)
  | _ => .stuck
theorem ds_app {x : Str} {p p2 p3 : Pos} (i : Nat) (ha : DE c X a fa) (hN : X.N[i]? = some x := by rfl) (hv : Vis X.env.scope x := by first | exact Or.inl rfl | exact Or.inr (Or.inl rfl) | exact Or.inr (Or.inr rfl)) (hd : (x == ("__debug__" : Str)) = false := by decide)
    (hcd : (x == ("__classdict__" : Str)) = false := by decide) (he : starEach [a] X.env = (false, eval a X.env) :: starEach [] X.env := by rfl)
    (hx : PE X (.Call (.Attribute (.Name x p) "append" p2) [a] [] p3) (tBM X.K "list" rAppend (tVar i) (tCons (tED X.K X.mg c fa) tNil))) (hs : swapsWith (.Call (.Attribute (.Name x p) "append" p2) [a] [] p3) none pos.line X.env = pure false := by rfl) :
    DS c X (.Expr (.Call (.Attribute (.Name x p) "append" p2) [a] [] p3) pos) (sApp i fa) := by
  refine ds_imp (ps_expr hx hs) fun F ρ e st σ H D r q => ?_
  unfold sApp at q
  split at q
  · rename_i d0 h0
    obtain ⟨v, z1, p', z2, z3, z4, z5, z6⟩ := r.slot i _ h0
    subst z2
    refine ⟨_, z1, ?_, F, ρ, e, st, r, bindFz q fun F1 ρ1 e1 st1 H1 v1 d l r1 x1 h1 => ?_⟩
    · cases z3 with | lst y1 y2 => exact .inl ⟨rfl, _, .of y1⟩
    · split at h1
      · rename_i ds h2
        obtain ⟨v, w1, p2, w2, w3, w4, w5, w6⟩ := r1.slot i _ h2
        rw [z1] at w1
        cases w1
        cases w2
        split at h1
        · rename_i hlim
          cases w3 with
          | lst y1 y2 =>
            refine ⟨p', _, v1, rfl, rfl, y1, lim_lt (by rw [y2.length]; exact hlim), ?_⟩
            have le := fun o => le_upd (ρ := ρ1) (H := H1) (a := p') (o := o) w4
            exact h1 F1 ρ1 σ _ (le _) (r1.writeOwn h2 z1 (.lst upd_same ((y2.mono (le _)).append (.cons (x1.mono (le _)) .nil))))
        · exact h1.elim
      · exact h1.elim
  · exact q.elim
/-- x[k] = v, x owned -/
def putC (c k d : D) : Option D := match c, k with
  | .lst ds, .int j => (match ixN ds.length j with | some n => some (.lst (ds.set n d)) | none => none)
  | .dk kvs, k => (match toK k with | some k => if kvs.length < lim then some (.dk (pt kvs k d)) else none | none => none)
  | .dt kvs, .tup ks => (match toKs ks with | some k => if kvs.length < lim then some (.dt (pt kvs k d)) else none | none => none)
  | _, _ => none
def sPut (i : Nat) (fk fv : EF) : SF := fun e s => match e[i]? with
  | some (some (.own _)) => (eFz fv e s).bindS fun d e s => (eFz fk e s).bindS fun k e s => (match e[i]? with
    | some (some (.own c)) => (match putC c k d with | some c' => .nx (e.set i (some (.own c'))) s | none => .stuck)
    | _ => .stuck)
  | _ => .stuck
def rSetD : TSet := fun o i v H Q => ∃ a H4, o = .ref a ∧ DPut H a i v H4 ∧ Q H4
theorem set_dict (hu : X.A.units + 1 < cLine) : PSet X rSetD := by
  intro pins s σ H o i v ov iv u Q I ro ri rv ⟨a, H4, e, g, q⟩
  subst e
  cases ro
  exact d_setItem hu I g ri rv fun s' I' => ⟨H4, I', q⟩
theorem set_or {t t' : TSet} (h : PSet X t) (h' : PSet X t') : PSet X (fun o i v H Q => t o i v H Q ∨ t' o i v H Q) := by
  intro pins s σ H o i v ov iv u Q I ro ri rv q
  rcases q with q | q
  · exact h pins s σ H o i v ov iv u Q I ro ri rv q
  · exact h' pins s σ H o i v ov iv u Q I ro ri rv q
theorem putC_ok {K : PySem.W.Frag} {F : Addr → Prop} {ρ : List Addr} {H : Hp} {p : Addr} {co co' k d : D} {kv v : V} (nF : ¬ F p) (hc : CRep K F ρ H p co) (hk : Rep K F ρ H kv k) (hd : Rep K F ρ H v d) (h : putC co k d = some co') (D : Hp → Prop)
    (q : ∀ o, CRep K F ρ (upd H p o) p co' → D (upd H p o)) : rSetL (.ref p) kv v H D ∨ rSetD (.ref p) kv v H D := by
  have le := fun o => le_upd (ρ := ρ) (H := H) (a := p) (o := o) nF
  unfold putC at h
  split at h
  · split at h
    · rename_i n hn
      cases h
      cases hc with
      | lst y1 y2 =>
        cases hk
        refine .inl ⟨p, _, _, n, rfl, rfl, y1, by rw [y2.length]; exact hn, q _ (.lst upd_same ((y2.mono (le _)).set (hd.mono (le _)) n))⟩
    · cases h
  · split at h
    · rename_i k' hk'
      split at h
      · rename_i hlim
        cases h
        cases hc with
        | dk y1 y2 =>
          cases toK_ok (σ := []) (.inr hk) hk'
          exact .inr ⟨p, _, rfl, .inl ⟨_, k', y1, rfl, lim_lt (by rw [y2.length]; exact hlim), rfl⟩, q _ (.dk upd_same ((y2.mono (le _)).put k' (hd.mono (le _))))⟩
      · cases h
    · cases h
  · split at h
    · rename_i k' hk'
      split at h
      · rename_i hlim
        cases h
        cases hc with
        | dt y1 y2 =>
          cases hk with
          | @tup b ws _ w1 w2 =>
            cases toKs_ok w2 hk'
            exact .inr ⟨p, _, rfl, .inr ⟨_, k', b, y1, rfl, w1.2, lim_lt (by rw [y2.length]; exact hlim), rfl⟩, q _ (.dt upd_same ((y2.mono (le _)).put k' (hd.mono (le _))))⟩
      · cases h
    · cases h
  · cases h
theorem ds_put {x : Str} {p p2 : Pos} {ki v : Expr} {fk fv : EF} (i : Nat) (hu : X.A.units + 1 < cLine) (hv : DE c X v fv) (hk : DE c X ki fk) (hN : X.N[i]? = some x := by rfl) (hvis : Vis X.env.scope x := by first | exact Or.inl rfl | exact Or.inr (Or.inl rfl) | exact Or.inr (Or.inr rfl)) (hd : (x == ("__debug__" : Str)) = false := by decide)
    (hcd : (x == ("__classdict__" : Str)) = false := by decide)
    (ha : ∀ v, assign (.Subscript (.Name x p) ki p2) X.env v = (do
      let ov ← holding [v] (eval (.Name x p) X.env)
      let iv ← holding [v, ov] (eval ki X.env)
      standAt p2
      holding [v, ov, iv] (setItem ov iv v)
      release [v, ov, iv] []) := by intro _; rfl)
    (hs : swapsWithSole [.Subscript (.Name x p) ki p2] v pos.line X.env = pure false := by rfl) (hw : swappedStores [.Subscript (.Name x p) ki p2] v X.env = pure none := by rfl)
    (h1 : (assignEach [.Subscript (.Name x p) ki p2] X.env).map (·.2) = [assign (.Subscript (.Name x p) ki p2) X.env] := by rfl) :
    DS c X (.Assign [.Subscript (.Name x p) ki p2] v pos) (sPut i fk fv) := by
  refine ds_imp (ps_asg hv (pg_sub (pe_var (i := i) hN hvis hd hcd) hk (set_or set_list (set_dict hu)) ha) hs hw h1) fun F ρ e st σ H D r q => ?_
  unfold sPut at q
  split at q
  · rename_i d0 h0
    refine ⟨F, ρ, e, st, r, bindFz q fun F1 ρ1 e1 st1 H1 v1 d l r1 x1 h2 => ?_⟩
    obtain ⟨w, z1, p', z2, z3, z4, z5, z6⟩ := r.slot i _ h0
    subst z2
    refine ⟨_, z1, F1, ρ1, e1, st1, r1, bindFz h2 fun F2 ρ2 e2 st2 H2 v2 k l2 r2 x2 h3 => ?_⟩
    split at h3
    · rename_i co hco
      split at h3
      · rename_i co' hco'
        obtain ⟨w, y1, p2, y2, y3, y4, y5, y6⟩ := r2.slot i _ hco
        rw [z1] at y1
        cases y1
        cases y2
        have := putC_ok y4 y3 x2 (x1.mono l2.toLe) hco' (fun H' => D.nx σ H') (fun o cr => h3 F2 ρ2 σ _ (le_upd y4) (r2.writeOwn hco z1 cr))
        exact this
      · exact h3.elim
    · exact h3.elim
  · exact q.elim

/-! ### bodies of defs -/
def fnOf (n : Nat) (g : SF) : Fn := fun ds st => match g (ds.map (fun d => some (SV.val d)) ++ List.replicate (n - ds.length) none) st with
  | .nx _ s => .ok (.val .non) s
  | .rt r s => .ok r s
  | .exc k _ s => .exc k s
  | _ => .stuck
theorem slots_start {K : PySem.W.Frag} {mg : Str → Option Value} {F : Addr → Prop} {ρ : List Addr} {H : Hp} {st : Sto} {W : WX} {N : List Str} : ∀ {vs : List V} {ds : List D}, Wld K mg F ρ st H → Reps K F ρ H vs ds →
    R K mg ⟨F, ρ, H, W⟩ F ρ (ds.map (fun d => some (SV.val d)) ++ List.replicate (N.length - ds.length) none) st (L2.start N vs) H := by
  intro vs ds w rs
  have hl := rs.length
  have noown : ∀ (i : Nat) d, (ds.map (fun d => some (SV.val d)) ++ List.replicate (N.length - ds.length) none)[i]? ≠ some (some (.own d)) := fun i d h => by
    by_cases hi : i < ds.length
    · rw [List.getElem?_append_left (by simpa using hi), List.getElem?_map, List.getElem?_eq_getElem hi] at h
      cases h
    · rw [List.getElem?_append_right (by simpa using hi)] at h
      have := List.getElem?_eq_some_iff.mp h
      obtain ⟨h1, h2⟩ := this
      rw [List.getElem_replicate] at h2
      cases h2
  refine ⟨w, Ext.refl, by simp [L2.start, hl], fun i s hs => ?_, fun i j d d' a _ h => absurd h (noown i d)⟩
  by_cases hi : i < ds.length
  · rw [List.getElem?_append_left (by simpa using hi), List.getElem?_map, List.getElem?_eq_getElem hi] at hs
    cases hs
    obtain ⟨v, hv, rep⟩ := rs.get (i := i) (List.getElem?_eq_getElem hi)
    refine ⟨some v, ?_, v, rfl, rep⟩
    unfold L2.start
    rw [List.getElem?_append_left (by rw [List.length_map, hl]; exact hi), List.getElem?_map, hv]
    rfl
  · rw [List.getElem?_append_right (by simpa using hi)] at hs
    obtain ⟨h1, h2⟩ := List.getElem?_eq_some_iff.mp hs
    rw [List.getElem_replicate] at h2
    cases h2
section
variable {P : Program} {w : World} {K : PySem.W.Frag} {mg : Str → Option Value} {base : Heap}
/-- what a body's derivation may use -/
structure Bd (P : Program) (w : World) (K : PySem.W.Frag) (mg : Str → Option Value) (base : Heap) (N : List Str) (qual : Str) (sc : Scope) (f : Addr) (cdv : Value) (k : Nat) (c : Dx) (A : Around) (outer : List Env) (s : Shared) (H : Hp) (E : XK) : Prop where
  room : Room k (A.deeper (envOfC qual sc s.heap.objs.size f cdv))
  tk : Takes (cxOf (CX P w) P w K mg base N qual sc f cdv A outer s H E) c.W
theorem fn_ok {x qual : Str} {st : Stmt} {f : Addr} {fd : FuncData} {N ps : List Str} {k : Nat} {g : SF} (F : Fun K x qual st f fd) (S : FnScope N ps (defScope st))
    (hb : ∀ (c : Dx) (cdv : Value) (A : Around) (outer : List Env) (s : Shared) (H : Hp) (E : XK), Bd P w K mg base N qual (defScope st) f cdv k c A outer s H E → DSs c (cxOf (CX P w) P w K mg base N qual (defScope st) f cdv A outer s H E) (defBody st) g) :
    FnOk P w K mg base (CX P w) (k + 1) f fd ps (spD K mg ps.length (fnOf N.length g)) := by
  refine F.okX S (fun vs H Q E h => ?_) (fun cdv A outer s H vs Q E hr h => ?_)
  · obtain ⟨_, _, _, _, h, _⟩ := h
    exact h
  · obtain ⟨F0, ρ, sto, ds, hl, wl, rs, q⟩ := h
    refine ⟨_, hb ⟨F0, ρ, H, fun cls d _ H => E cls d H⟩ cdv A outer s H E ⟨hr, takes_of rfl rfl rfl rfl⟩, F0, ρ, _, sto, slots_start wl rs, ?_⟩
    unfold fnOf at q
    show SPost K mg _ F0 ρ H _ (g (ds.map (fun d => some (SV.val d)) ++ List.replicate (N.length - ds.length) none) sto)
    generalize g (ds.map (fun d => some (SV.val d)) ++ List.replicate (N.length - ds.length) none) sto = res at q
    cases res with
    | nx e' s' => exact fun F' ρ' σ' H' l r => q F' ρ' H' .non r.x r.w .non
    | rt rv s' => exact fun F' ρ' H' v w x rr => q F' ρ' H' v x w rr
    | exc n e' s' => exact fun F' ρ' σ' H' C r m => q F' ρ' H' C r.x r.w m
    | bk e' s' => exact q.elim
    | ct e' s' => exact q.elim
    | stuck => exact q.elim
end
end
end DL
end
section
set_option Elab.async false
set_option linter.all false
set_option maxRecDepth 100000
set_option maxHeartbeats 1000000
set_option autoImplicit false
/-! DLM: dicts with tuple keys: made of pairs, get. -/
namespace DL
open PySem PySem.Spec L2
open PyProof.Rows hiding St
theorem hu1_of {A : Around} {k : Nat} (hr : Room k A) : A.in1.units + 1 < cLine := by
  have h := hr.units
  show A.units + 1 + 1 < cLine
  omega
/-! ### d.get(k, x) -/
def isD : D → Bool
  | .dk _ => true
  | .dt _ => true
  | _ => false
def gGet (x k d : D) (e : Sl) (s : Sto) : ER := match vw x e s, k with
  | .dk kvs, k => (match toK k with | some k => .ok ((lk kvs k).getD d) e s | none => .stuck)
  | .dt kvs, .tup ks => (match toKs ks with | some k => .ok ((lk kvs k).getD d) e s | none => .stuck)
  | _, _ => .stuck
def eGet (fx fk fd : EF) : EF := fun e s => (fx e s).bind fun x e s => if isD (vw x e s) = true then (fk e s).bind fun k e s => (fd e s).bind fun d e s => gGet x k d e s else .stuck
section
variable {X : Cx} {c : Dx} {o ek ed : Expr} {fo fk fd : EF} {apos cpos : Pos}
theorem de_get2 (hu : X.A.units + 1 < cLine) (ho : DE c X o fo) (hk : DE c X ek fk) (hd : DE c X ed fd) (m : M2 X o "get" apos ek ed cpos) : DE c X (.Call (.Attribute o "get" apos) [ek, ed] [] cpos) (eGet fo fk fd) := by
  refine de_imp (pe_dget2 hu ho hk hd m) fun F ρ e st σ H Q r q => ⟨F, ρ, e, st, r, bindE q fun F1 ρ1 e1 st1 H1 v x le1 r1 rx h1 => ?_⟩
  split at h1
  · rename_i hD
    have hx := vw_ok r1 rx
    have key : ∃ a, v = .ref a ∧ IsD H1 a := by
      generalize vw x e1 st1 = dx at *
      cases hx with
      | dk a1 a2 a3 => exact ⟨_, a1, .inl ⟨_, a2⟩⟩
      | dt a1 a2 a3 => exact ⟨_, a1, .inr ⟨_, .inl a2⟩⟩
      | _ => cases hD
    obtain ⟨a, rfl, hI⟩ := key
    refine ⟨a, rfl, hI, F1, ρ1, e1, st1, r1, bindE h1 fun F2 ρ2 e2 st2 H2 kv k le2 r2 rk h2 => ⟨F2, ρ2, e2, st2, r2, bindE h2 fun F3 ρ3 e3 st3 H3 z d le3 r3 rd h3 => ?_⟩⟩
    have hx3 := vw_ok r3 (rx.mono (le2.toLe.trans le3.toLe))
    have rk3 := rk.mono le3.toLe
    unfold gGet at h3
    generalize vw x e3 st3 = dx at *
    split at h3
    · split at h3
      · rename_i kvs k1 kk hkk
        cases hx3 with | dk a1 a2 a3 =>
        cases a1
        cases toK_ok rk3 hkk
        refine ⟨_, .inl ⟨_, kk, a2, rfl, rfl⟩, ?_⟩
        obtain ⟨q1, q2⟩ := a3.lk kk
        cases hl : lk kvs kk with
        | none => rw [q2 hl]; rw [hl] at h3; exact h3 F3 ρ3 H3 z LeE.refl r3 rd
        | some w =>
          obtain ⟨w', hw, rw'⟩ := q1 w hl
          rw [hw]; rw [hl] at h3; exact h3 F3 ρ3 H3 w' LeE.refl r3 (.inr rw')
      · exact h3.elim
    · split at h3
      · rename_i kk hkk
        cases hx3 with | dt a1 a2 a3 =>
        cases a1
        rcases rk3 with ⟨i, b, z1, z2, z3⟩ | rk3
        · cases z1
        · cases rk3 with | tup t1 t2 =>
          cases toKs_ok t2 hkk
          refine ⟨_, .inr ⟨_, kk, _, .inl a2, rfl, t1.2, rfl⟩, ?_⟩
          obtain ⟨q1, q2⟩ := a3.lk kk
          cases hl : lk (κ := List Key) _ kk with
          | none => rw [q2 hl]; rw [hl] at h3; exact h3 F3 ρ3 H3 z LeE.refl r3 rd
          | some w =>
            obtain ⟨w', hw, rw'⟩ := q1 w hl
            rw [hw]; rw [hl] at h3; exact h3 F3 ρ3 H3 w' LeE.refl r3 (.inr rw')
      · exact h3.elim
    · exact h3.elim
  · exact h1.elim
end

/-! ### dict(xs), xs pairs with tuple keys -/
theorem isTup_ext {h h' : Heap} {ks : List Key} {b d : Addr} {P : Program} {w : World} (hk : ∀ b o, b ≠ d → h.get? b = some o → h'.get? b = some o) (e : (tupleKind (mixKind P w)).is h ks b) (n : b ≠ d) : (tupleKind (mixKind P w)).is h' ks b := by
  obtain ⟨o, its, m, h1, h2, h3, h4⟩ := e
  exact ⟨o, its, m, hk _ _ n h1, h2, h3, h4⟩
def mergeT (kvs more : List (List Key × V)) : List (List Key × V) := more.foldl (fun acc kv => putK acc kv.1 kv.2) kvs
theorem KT.merge {H : Hp} : ∀ {more : List (List Key × V)} {rs : List (List Key × Addr × Value)} {kvs : List (List Key × V)} {xs : List (List Key × Addr × Value)}, KT H more rs → KT H kvs xs → KT H (mergeT kvs more) (storedAllH xs rs) := by
  intro more rs kvs xs r
  induction r generalizing kvs xs with
  | nil => intro q; exact q
  | @cons p q ps qs h t ih =>
    intro z
    have e : KT H (putK kvs p.1 p.2) (storedH xs q.1 q.2.1 q.2.2) := by
      rw [← h.1]
      exact KT.put z p.1 h.2.1 h.2.2
    exact ih e
theorem length_mergeT : ∀ (more kvs : List (List Key × V)), (mergeT kvs more).length ≤ kvs.length + more.length
  | [], kvs => by show kvs.length ≤ kvs.length + 0; omega
  | p :: r, kvs => by
    have h1 := length_mergeT r (putK kvs p.1 p.2)
    have h2 := length_putK kvs p.1 p.2
    show (mergeT (putK kvs p.1 p.2) r).length ≤ _
    rw [List.length_cons]
    omega
section
variable {X : Cx}
theorem pairsT_of {pins : List (Addr × Obj)} {σ : St} {H : Hp} {s : Shared} (I : Inv X pins σ H s) : ∀ {ps : List Addr} {ts : List (List Key × Addr × V)}, Paired (fun p (t : List Key × Addr × V) => SqT X.K H p [V.ref t.2.1, t.2.2] ∧ H t.2.1 = some (.tup (t.1.map kV))) ps ts →
    ∃ rs : List (List Key × Addr × Value), KT H (ts.map fun t => (t.1, t.2.2)) rs ∧ rs.length = ps.length ∧ ts.length = ps.length ∧ ∀ (j : Nat) (q : List Key × Addr × Value), rs[j]? = some q → ∃ b, ps[j]? = some b ∧ IsTup s.heap b #[.ref q.2.1, q.2.2]
  | _, _, .nil => ⟨[], .nil, rfl, rfl, fun j q e => by simp at e⟩
  | _, _, .cons (a := p) (b := t) h tl => by
    obtain ⟨rs, r, hl, hl2, hp⟩ := pairsT_of I tl
    obtain ⟨its, rv, ht, _⟩ := I.tuple h.1
    obtain ⟨u, y, ei, ru, ry⟩ := vals2 rv
    subst ei
    cases (show u = Value.ref t.2.1 from ru)
    refine ⟨(t.1, t.2.1, y) :: rs, .cons ⟨rfl, h.2, ry⟩ r, by rw [List.length_cons, List.length_cons, hl], by rw [List.length_cons, List.length_cons, hl2], fun j q e => ?_⟩
    cases j with
    | zero =>
      have e' : (t.1, t.2.1, y) = q := Option.some.inj e
      subst e'
      exact ⟨p, rfl, ht⟩
    | succ j =>
      obtain ⟨b, e1, e2⟩ := hp j q (by simpa using e)
      exact ⟨b, by simpa using e1, e2⟩
theorem call_dictPT (hcalm : X.calm = true) (hu : X.A.in1.units + 1 < cLine) : CallR X (.type "dict") (fun xs H Q => ∃ (a : Addr) (ps : List Addr) (ts : List (List Key × Addr × V)), xs = [.ref a] ∧ SqL X.K H a (ps.map V.ref) ∧
    Paired (fun p (t : List Key × Addr × V) => SqT X.K H p [V.ref t.2.1, t.2.2] ∧ H t.2.1 = some (.tup (t.1.map kV))) ps ts ∧
    ∀ p, H p = none → Q (.ref p) (upd H p (.dT (mergeT [] (ts.map fun t => (t.1, t.2.2)))))) := by
  intro pins s σ H xs us Q I r q
  obtain ⟨a, ps, ts, ex, hq, hp, q⟩ := q
  subst ex
  obtain ⟨u, eu, rx⟩ := vals1 r
  subst eu
  cases rx
  obtain ⟨its, rv, pl, hz⟩ := I.list hq
  have ei := refs_at rv
  subst ei
  rw [List.length_map] at hz
  obtain ⟨rs, rel, hl, hl2, hpr⟩ := pairsT_of I hp
  obtain ⟨o, n, ho, hc, hd, hdat⟩ := pl
  have hkey : ∀ x ∈ rs, H x.2.1 = some (.tup (x.1.map kV)) := by
    have all : ∀ {l : List (List Key × V)} {m : List (List Key × Addr × Value)}, KT H l m → ∀ x ∈ m, H x.2.1 = some (.tup (x.1.map kV)) := by
      intro l m q
      induction q with
      | nil => intro x hx; exact nomatch hx
      | @cons p q ps qs hq t ih =>
        intro x hx
        rcases List.mem_cons.mp hx with e | hx
        · subst e
          rw [← hq.1]; exact hq.2.1
        · exact ih x hx
    exact all rel
  have P := PairArg.list (prog := X.prog) (w := X.w) a (ps.map Value.ref).toArray (fun j => ps.getD j 0) (rs.map fun x => (Value.ref x.2.1, x.2.2))
  refine call_dict_pairsH (knd := tupleKind (mixKind X.prog X.w)) (ps := rs) P (I.ok.hd hcalm) (tupleKind_room_in1 hu) ⟨⟨o, n, ho, hc, hd, hdat⟩, by simp [hl], fun j k v e => ?_⟩ ⟨by simp, fun i key v e => ?_⟩ (fun h' hk x hx => ?_) (by simp; rw [hl]; exact hz) fun h' tk hd' k => ?_
  · rw [List.getElem?_map] at e
    obtain ⟨q0, hq0, ek⟩ := Option.map_eq_some_iff.mp e
    cases ek
    obtain ⟨b, e1, e2⟩ := hpr j q0 hq0
    have hb : ps.getD j 0 = b := by rw [List.getD_eq_getElem?_getD, e1]; rfl
    show (List.map Value.ref ps).toArray[j]? = some (Value.ref (ps.getD j 0)) ∧ PairAt s.heap (ps.getD j 0) (Value.ref q0.snd.fst) q0.snd.snd
    rw [hb]
    exact ⟨by simp [e1], .inl e2⟩
  · have e' : (rs.map fun x => (Value.ref x.2.1, x.2.2))[i]? = some (key, v) := e
    rw [List.getElem?_map] at e'
    obtain ⟨q0, hq0, ek⟩ := Option.map_eq_some_iff.mp e'
    cases ek
    exact ⟨q0.1, q0.2.1, hq0, rfl⟩
  · exact isTup_ext (d := s.heap.objs.size) (fun b o n e => hk b o n (by simp) e) (key_of I.hok (hkey x hx)) (fun z => by
      have := hkey x hx
      rw [z] at this
      have h0 := I.hok.fresh (Nat.le_refl s.heap.objs.size)
      rw [h0] at this
      cases this)
  · have hm : (s.heap.objs.size == sysModules) = false := beq_eq_false_iff_ne.mpr (Nat.ne_of_gt I.big)
    have hlen : (mergeT [] (ts.map fun t => (t.1, t.2.2))).length ≤ sizeLine := by
      refine Nat.le_trans (length_mergeT _ []) ?_
      rw [List.length_nil, Nat.zero_add, List.length_map, hl2]
      exact hz
    obtain ⟨o1, es, ep, h1, h2, h3, h4, _, h5⟩ := hd'
    have h0 := I.hok.fresh (Nat.le_refl s.heap.objs.size)
    have kt : KT (upd H s.heap.objs.size (.dT (mergeT [] (ts.map fun t => (t.1, t.2.2))))) (mergeT [] (ts.map fun t => (t.1, t.2.2))) (storedAllH [] rs) :=
      (KT.merge rel .nil).keeps fun b ys hb => by
        rw [upd_ne (fun z => by rw [z, h0] at hb; cases hb)]
        exact hb
    exact ⟨.ref s.heap.objs.size, upd H s.heap.objs.size (.dT (mergeT [] (ts.map fun t => (t.1, t.2.2)))), I.laid (t' := tk) (fun b u e => k b u (by simp) e) (Nat.le_refl _) (show ObjOk X.prog X.w _ _ _ (.dT (mergeT [] (ts.map fun t => (t.1, t.2.2)))) from ⟨hlen, hm, storedAllH [] rs, kt, o1, es, ep, h1, h2, h3, h4, h5⟩), rfl, q _ h0⟩
end
/-- the same with the keys dicts' kinds: all entries -/
def ptAllT (kvs : List (List Key × D)) : List (List Key × D) → List (List Key × D)
  | [] => kvs
  | (k, d) :: r => ptAllT (pt kvs k d) r
def pairT : D → Option (List Key × D)
  | .tup [.tup ks, d] => (match toKs ks with | some k => some (k, d) | none => none)
  | _ => none
def pairsT : List D → Option (List (List Key × D))
  | [] => some []
  | p :: ps => match pairT p, pairsT ps with
    | some p, some ps => some (p :: ps)
    | _, _ => none
def gDictT (x : D) (e : Sl) (s : Sto) : ER := match vw x e s with
  | .lst ps => (match pairsT ps with | some kvs => .ok (.dt (ptAllT [] kvs)) e s | none => .stuck)
  | _ => .stuck
theorem mergeT_all {K : PySem.W.Frag} {F : Addr → Prop} {ρ : List Addr} {H : Hp} : ∀ {more : List (List Key × D)} {mv : List (List Key × V)} {kds : List (List Key × D)} {kvs : List (List Key × V)}, RepT K F ρ H kvs kds → RepT K F ρ H mv more → RepT K F ρ H (mergeT kvs mv) (ptAllT kds more)
  | [], _, _, _, h, h' => by cases h'; exact h
  | (k, d) :: r, _, _, _, h, h' => by
    cases h' with
    | @cons _ v vs _ _ h1 h2 =>
      show RepT K F ρ H (mergeT (putK _ k v) vs) (ptAllT (pt _ k d) r)
      exact mergeT_all (h.put k h1) h2
theorem pairsT_ok {K : PySem.W.Frag} {F : Addr → Prop} {ρ : List Addr} {H : Hp} : ∀ {ds : List D} {vs : List V} {kds : List (List Key × D)}, Reps K F ρ H vs ds → pairsT ds = some kds →
    ∃ (ps : List Addr) (ts : List (List Key × Addr × V)), vs = ps.map V.ref ∧ Paired (fun p (t : List Key × Addr × V) => SqT K H p [V.ref t.2.1, t.2.2] ∧ H t.2.1 = some (.tup (t.1.map kV))) ps ts ∧ RepT K F ρ H (ts.map fun t => (t.1, t.2.2)) kds
  | [], _, _, h, e => by cases h; cases e; exact ⟨[], [], rfl, .nil, .nil⟩
  | d :: ds, _, _, h, e => by
    cases h with
    | @cons v vs _ _ h1 h2 =>
      unfold pairsT at e
      split at e
      · rename_i p ps hp hps
        cases e
        obtain ⟨as, ts, rfl, q1, q2⟩ := pairsT_ok h2 hps
        unfold pairT at hp
        split at hp
        · split at hp
          · rename_i k0 d0 k hk
            cases hp
            cases h1 with
            | @tup a us _ t1 t2 =>
              cases t2 with
              | @cons u1 us1 _ _ t3 t4 =>
                cases t4 with
                | @cons u2 us2 _ _ t5 t6 =>
                  cases t6
                  cases t3 with
                  | @tup b ws _ w1 w2 =>
                    cases toKs_ok w2 hk
                    exact ⟨a :: as, (k, b, u2) :: ts, rfl, .cons ⟨t1.sq, w1.2⟩ q1, .cons t5 q2⟩
          · cases hp
        · cases hp
      · cases e
section
variable {X : Cx} {c : Dx} {a : Expr} {fa : EF} {pos : Pos}
theorem dn_dictT {p : Pos} (hc : X.calm = true) (hu : X.A.in1.units + 1 < cLine) (hg : Gl X "dict") (hm : X.mg "dict" = none) (ha : DE c X a fa) (he : starEach [a] X.env = (false, eval a X.env) :: starEach [] X.env := by rfl) (hpl : (backTo pos (starEach [] X.env)).any (·.1) = false := by rfl) :
    DN c X (.Call (.Name "dict" p) [a] [] pos) (eUn gDictT fa) := by
  refine dn_t1 (call_dictPT hc hu) hg hm (by decide +kernel) (fun F ρ e st σ H x v Q r rx h => ?_) ha (by decide) (by decide) he hpl
  have hx := vw_ok r rx
  unfold gDictT at h
  generalize vw x e st = dx at *
  split at h
  · cases hx with | lst b1 b2 b3 =>
    subst b1
    split at h
    · rename_i kds hk
      obtain ⟨ps, ts, rfl, q1, q2⟩ := pairsT_ok b3 hk
      exact ⟨_, ps, ts, rfl, .of b2, q1, fun p hp => NPost.dt r (mergeT_all .nil q2) h hp⟩
    · exact h.elim
  · exact h.elim
end
end DL
end
section
set_option Elab.async false
set_option linter.all false
set_option maxRecDepth 100000
set_option maxHeartbeats 1000000
set_option autoImplicit false
/-! DLN: t.index(x) of texts; [x] * n, a new list. -/
namespace DL
open PySem PySem.Spec L2
open PyProof.Rows hiding St
/-! ### t.index(x), t a tuple of texts -/
def asS : D → Option Str
  | .str x => some x
  | _ => none
def idx (z : Str) : List Str → Option Nat
  | [] => none
  | y :: ys => if y = z then some 0 else (idx z ys).map (· + 1)
theorem idx_ok {z : Str} : ∀ {ys : List Str} {j : Nat}, idx z ys = some j → ys[j]? = some z ∧ ∀ m, m < j → ys[m]? ≠ some z
  | [], _, h => by cases h
  | y :: ys, j, h => by
    unfold idx at h
    split at h
    · rename_i e
      cases h
      subst e
      exact ⟨rfl, fun m hm => by omega⟩
    · rename_i e
      obtain ⟨i, h1, h2⟩ := Option.map_eq_some_iff.mp h
      subst h2
      obtain ⟨q1, q2⟩ := idx_ok h1
      refine ⟨by simpa using q1, fun m hm => ?_⟩
      cases m with
      | zero => simp; exact e
      | succ m => simpa using q2 m (by omega)
def gIdx (ds : List D) (x : D) (e : Sl) (s : Sto) : ER := match x with
  | .str z => (match allO asS ds with | some ys => (match idx z ys with | some j => .ok (.int j) e s | none => .stuck) | none => .stuck)
  | _ => .stuck
def eIdx (ft fs : AF) : EF := fun e s => (ft e s).bind fun ds e s => if ds.length ≤ lim then (fs e s).bind fun xs e s => (match xs with | [x] => gIdx ds x e s | _ => .stuck) else .stuck
section
variable {X : Cx} {c : Dx} {o ek a b : Expr} {es : List Expr} {fo fa fb : EF} {ft fs : AF} {t te : TA} {apos cpos pos tp : Pos} {x1 : Nat}
def rTupIdx (K : PySem.W.Frag) : V → List V → Hp → VK → Prop := fun x xs H Q => ∃ p, ∃ ys : List Str, ∃ z j, x = .ref p ∧ xs = [.str z] ∧ SqT K H p (ys.map V.str) ∧ ys[j]? = some z ∧ (∀ m, m < j → ys[m]? ≠ some z) ∧ Q (.int (j : Nat)) H
theorem pe_dspIdx (ht : PA X es t) (ha : PA X [ek] te)
    (hbase : attributeBase (.Tuple es x1 tp) "index" X.env (eval (.Tuple es x1 tp) X.env) = eval (.Tuple es x1 tp) X.env := by rfl)
    (hfew : ((backTo cpos (starEach [ek] X.env)).all (fun x => !x.1) && (backToKw cpos (keywordEach [] X.env)).all (fun x => x.1.isSome)
      && decide (([ek] : List Expr).length + ([] : List Keyword).length + (if ([] : List Keyword).isEmpty then 0 else 1) < 30)) = true := by rfl)
    (hline : (apos.endLine == cpos.line) = true := by rfl) (hs : starEach [ek] X.env = (false, eval ek X.env) :: starEach [] X.env := by rfl) (hplain : (backTo cpos (starEach [] X.env)).any (·.1) = false := by rfl) :
    PE X (.Call (.Attribute (.Tuple es x1 tp) "index" apos) [ek] [] cpos) (fun σ H Q => t σ H fun xs H1 => xs.length ≤ sizeLine ∧ ∀ p, H1 p = none → te σ (upd H1 p (.tup xs)) fun as H2 => rTupIdx X.K (.ref p) as H2 Q) := by
  refine ⟨fun pins s σ H Q I h => ?_⟩
  refine wpAny_Call_method_late hbase hfew hline rfl (wpAny_Tuple_spliced (thn (ht.run tp pins s σ H _ I h) fun us s1 ⟨xs, H1, I1, r, z, q⟩ => ⟨by rw [← r.length]; exact z, ?_⟩))
  have hf : H1 s1.heap.objs.size = none := I1.hok.fresh (Nat.le_refl _)
  have I2 : Inv X pins σ (upd H1 s1.heap.objs.size (.tup xs)) { s1 with heap := s1.heap.push { cls := .type "tuple", data := .seq us.toArray } } :=
    I1.laid (t' := s1.toks) (fun b u e => Heap.get?_push_of_some _ e) (Nat.le_refl _) ⟨z, us, r, ⟨_, Heap.get?_push_size _ rfl, rfl, _, rfl⟩⟩
  refine ⟨"tuple", "tuple.index", PySem.F.plainAttrs_tuple, PySem.F.slot_tuple_index, PySem.F.type_tuple_index, ⟨_, Heap.get?_push_size _ rfl, rfl⟩, fun b e => ?_, ?_⟩
  · cases e
    exact ⟨_, Heap.get?_push_size _ rfl, rfl⟩
  have hA := ha.run cpos pins _ σ _ _ I2 (q _ hf)
  rw [hs] at hA ⊢
  refine Calls.callWith_builtin (by show (false || (backTo cpos (starEach [] X.env)).any (·.1)) = false; rw [hplain] <;> rfl) (Calls.evalArgs_plain ?_)
  exact thn hA fun us2 s2 ⟨vs, H2, I3, r2, q2⟩ => mt_tup_index pins s2 σ H2 (.ref s1.heap.objs.size) vs (.ref s1.heap.objs.size) us2 Q I3 rfl r2 q2
theorem de_index (ht : DA c X es ft) (ha : DA c X [ek] fs)
    (hbase : attributeBase (.Tuple es x1 tp) "index" X.env (eval (.Tuple es x1 tp) X.env) = eval (.Tuple es x1 tp) X.env := by rfl)
    (hfew : ((backTo cpos (starEach [ek] X.env)).all (fun x => !x.1) && (backToKw cpos (keywordEach [] X.env)).all (fun x => x.1.isSome)
      && decide (([ek] : List Expr).length + ([] : List Keyword).length + (if ([] : List Keyword).isEmpty then 0 else 1) < 30)) = true := by rfl)
    (hline : (apos.endLine == cpos.line) = true := by rfl) (hs : starEach [ek] X.env = (false, eval ek X.env) :: starEach [] X.env := by rfl) (hplain : (backTo cpos (starEach [] X.env)).any (·.1) = false := by rfl) :
    DE c X (.Call (.Attribute (.Tuple es x1 tp) "index" apos) [ek] [] cpos) (eIdx ft fs) := by
  refine de_imp (pe_dspIdx ht ha hbase hfew hline hs hplain) fun F ρ e st σ H Q r q => ⟨F, ρ, e, st, r, bindA q fun F1 ρ1 e1 st1 H1 vs ds le1 r1 rs h1 => ?_⟩
  split at h1
  · rename_i hz
    refine ⟨lim_le (by rw [rs.length]; exact hz), fun p hp => ?_⟩
    obtain ⟨w, x⟩ := alloc r1.w (o := .tup vs) hp
    have rp : Rep X.K _ ρ1 (upd H1 p (.tup vs)) (.ref p) (.tup ds) := .tup ⟨.inr rfl, upd_same⟩ (rs.mono x.toLe)
    refine ⟨_, ρ1, e1, st1, r1.ext x w, bindA (h1.shift x.toLeE) fun F2 ρ2 e2 st2 H2 us xs le2 r2 rs2 h2 => ?_⟩
    have rp2 := rp.mono le2.toLe
    split at h2
    · cases rs2 with | cons u1 u2 =>
      cases u2
      unfold gIdx at h2
      split at h2
      · split at h2
        · rename_i ys hys
          split at h2
          · rename_i j hj
            cases u1
            cases rp2 with | tup t1 t2 =>
            have e := allO_ok (g := asS) (k := V.str) (fun v d x r q => by cases r <;> first | (cases q; rfl) | cases q) t2 hys
            subst e
            obtain ⟨q1, q2⟩ := idx_ok hj
            exact ⟨p, ys, _, j, rfl, rfl, t1.sq, q1, q2, h2.int r2⟩
          · exact h2.elim
        · exact h2.elim
      · exact h2.elim
    · exact h2.elim
  · exact h1.elim
/-! ### xs * n, a new list -/
noncomputable def gMulN (x y : D) (e : Sl) (s : Sto) : ER := match vw x e s, y with
  | .lst a, .int k => @ite _ (0 ≤ k ∧ k ≤ 1000 ∧ a.length ≤ 1000) (Classical.propDecidable _) (.ok (.lst (rep a k)) e s) .stuck
  | _, _ => .stuck
theorem dn_mul (ha : DE c X a fa) (hb : DE c X b fb) : DN c X (.BinOp a .Mult b pos) (eBin gMulN fa fb) := by
  refine ⟨fun pins s σ H Q I ⟨F, ρ, e, st, r, q⟩ => (pe_op op_rep ha hb).run pins s σ H Q I ⟨F, ρ, e, st, r, bindN q fun F1 ρ1 e1 st1 H1 v x le1 r1 rx h1 => ⟨F1, ρ1, e1, st1, r1, bindN h1 fun F2 ρ2 e2 st2 H2 u y le2 r2 ry h2 => ?_⟩⟩⟩
  have hx := vw_ok r2 (rx.mono le2.toLe)
  unfold gMulN at h2
  generalize vw x e2 st2 = dx at *
  split at h2
  · cases hx with | lst a1 a2 a3 =>
    cases repI ry
    subst a1
    split at h2
    case isFalse => exact h2.elim
    rename_i hz
    obtain ⟨hz1, hz2, hz3⟩ := hz
    refine ⟨_, _, _, rfl, rfl, a2, by omega, by omega, ?_, fun p hp => NPost.lst r2 (reps_rep a3 _) h2 hp⟩
    rw [a3.length]
    exact lim_le (Nat.le_trans (Nat.mul_le_mul hz3 (Int.toNat_le.mpr hz2)) (by decide))
  · exact h2.elim
end
end DL
end
section
set_option Elab.async false
set_option linter.all false
set_option maxRecDepth 100000
set_option maxHeartbeats 1000000
set_option autoImplicit false
/-! DLO: raise X() of an own class. -/
namespace DL
open PySem PySem.Spec L2
open PyProof.Rows hiding St
/-- an own class of exceptions, with no __init__ of its own -/
structure ExcOk (K : PySem.W.Frag) (mg : Str → Option Value) (x : Str) : Prop where
  ex : ∃ (C : Addr) (B newId initId : String) (bmB : List Value), ExcBaseFacts B newId initId bmB ∧ PySem.W.excIn K C bmB newId = true ∧ mg x = some (.ref C) ∧ PySem.W.keepIn K (.ref C) = true ∧
    PySem.W.subIn K (.ref C) (.type "BaseException") = some true ∧ PySem.W.typeIn K (.ref C) = some (.type "type")
section
variable {X : Cx} {c : Dx} {x : Str} {p pos pos' : Pos}
theorem mk_exc0 {C : Addr} {bm0 : List Value} {B nid iid : String} (F : ExcBaseFacts B nid iid bm0) (hx : PySem.W.excIn X.K C bm0 nid = true) (gC : X.mg x = some (.ref C))
    (kC : PySem.W.keepIn X.K (.ref C) = true) (rs : Raises X (.ref C)) (hg : Gl X x) (hd : (x == ("__debug__" : Str)) = false := by decide) : PMk X (.Call (.Name x p) [] [] pos) (fun _ H Q => Q (.ref C) none H) := by
  intro pins s σ H Q I h
  refine wpAny_Call_Name_kw (ld_glob I hg gC ?_ hd)
  refine PySem.W.callWith_K0 I.kIn kC ?_
  show wpAny _ _ (call (.ref C) []) _ _ _
  obtain ⟨_, _, _, _, _, _, _, _, _, _, _, _, _, _, _, _, _, hC, hN, hni, T⟩ := exc_obj I.kIn hx
  obtain ⟨hp, g, dr, tk, os⟩ := s
  exact wpAny_call_exc_subT F T hC hN hni (fun h' e hm => mk_of I hm rs h (I.hok.gone hm.new)) (Nat.zero_le _)
def sRaise (k : Str) : SF := fun e s => .exc k e s
theorem ds_raise (hc : X.calm = true) (tk : Takes X c.W) (E : ExcOk X.K X.mg x) (hg : Gl X x) (hd : (x == ("__debug__" : Str)) = false := by decide) :
    DS c X (.Raise (some (.Call (.Name x p) [] [] pos)) none pos') (sRaise x) := by
  obtain ⟨C, B, nid, iid, bm0, h1, h2, h3, h4, h5, h6⟩ := E.ex
  exact ds_imp (ps_raise hc tk (mk_exc0 h1 h2 h3 h4 (raises_own h5 h6) hg hd)) fun F ρ e st σ H D r q => q F ρ σ H C r h3
end
end DL
end
section
set_option Elab.async false
set_option linter.all false
set_option maxRecDepth 100000
set_option maxHeartbeats 1000000
set_option autoImplicit false
/-! DLR: try: .. except X as e: return isinstance(e, Y). -/
namespace DL
open PySem PySem.Spec L2
open PyProof.Rows hiding St
/-- of an exception by name: is it caught by x, is it a y -/
structure ExcTab (K : PySem.W.Frag) (mg : Str → Option Value) (x y : Str) (r : Str → Option (Bool × Bool)) : Prop where
  nx : ∃ Cx : Addr, mg x = some (.ref Cx)
  ny : ∃ Cy : Addr, mg y = some (.ref Cy)
  at_ : ∀ k b1 b2, r k = some (b1, b2) → ∀ (C Cx Cy : Addr), mg k = some (.ref C) → mg x = some (.ref Cx) → mg y = some (.ref Cy) →
    PySem.W.exmOne K (.ref C) (.ref Cx) = some b1 ∧ PySem.W.kitOne K (.ref C) (.ref Cy) = some b2 ∧ ExcC K C
  un : ∀ k b1 b2, r k = some (b1, b2) → ∃ C : Addr, mg k = some (.ref C)
def sTryIs (i : Nat) (r : Str → Option (Bool × Bool)) (g : SF) : SF := fun e s => match g e s with
  | .exc k e' s' => (match r k with
    | some (true, b) => if i < e'.length then .rt (.val (.bl b)) s' else .stuck
    | some (false, _) => .exc k e' s'
    | none => .stuck)
  | o => o
section
variable {X : Cx} {c : Dx} {x y n : Str} {i : Nat} {body : List Stmt} {g : SF} {r : Str → Option (Bool × Bool)} {np pos pos' p1 p2 p3 p4 p5 : Pos}
def tsIs (K : PySem.W.Frag) (i : Nat) (Cy : Addr) (a : Addr) (cls : Value) (d : Option Addr) : TS := fun D σ H =>
  ∃ (C : Addr) (b : Bool), cls = .ref C ∧ d = none ∧ ExcC K C ∧ σ[i]? = some (some (.ref a)) ∧ PySem.W.kitOne K (.ref C) (.ref Cy) = some b ∧ D.rt (.bl b) H
theorem ds_tryIs (T : ExcTab X.K X.mg x y r) (tk : Takes X c.W) (hm : X.mg "isinstance" = none) (hg : Gl X "isinstance") (hgx : Gl X x) (hgy : Gl X y)
    (hb : ∀ (W : WX) (pn : List (Addr × Obj)) (xe : Value → Shared → Prop), Takes (X.tr pn xe) W → DSs { c with W := W } (X.tr pn xe) body g)
    (hs : X.stack = X.env :: X.outer := by rfl) (hf : X.env.frame = some X.env.locals := by rfl) (hN : X.N.Nodup) (hi : X.N[i]? = some n := by rfl) (hln : X.env.kindOf n = some .local := by rfl) (hv : Vis X.env.scope n := by first | exact Or.inl rfl | exact Or.inr (Or.inl rfl) | exact Or.inr (Or.inr rfl))
    (hdx : (x == ("__debug__" : Str)) = false := by decide) (hdy : (y == ("__debug__" : Str)) = false := by decide) (hdn : (n == ("__debug__" : Str)) = false := by decide) (hcn : (n == ("__classdict__" : Str)) = false := by decide)
    (he2 : ∀ a pn, starEach [.Name y p3] (X.suite a pn).env = (false, eval (.Name y p3) (X.suite a pn).env) :: starEach [] (X.suite a pn).env := by intro _ _; rfl)
    (he : ∀ a pn, starEach [.Name n p2, .Name y p3] (X.suite a pn).env = (false, eval (.Name n p2) (X.suite a pn).env) :: starEach [.Name y p3] (X.suite a pn).env := by intro _ _; rfl)
    (hpl : ∀ a pn, (backTo p4 (starEach [.Name y p3] (X.suite a pn).env)).any (·.1) = false := by intro _ _; rfl) :
    DS c X (.Try body [.ExceptHandler (some (.Name x np)) (some n) [.Return (some (.Call (.Name "isinstance" p1) [.Name n p2, .Name y p3] [] p4)) p5] pos'] [] [] pos) (sTryIs i r g) := by
  obtain ⟨Cx, gx⟩ := T.nx
  obtain ⟨Cy, gy⟩ := T.ny
  have hc : Names X x (.ref Cx) := ⟨hgx, hdx, .inl gx⟩
  have hsu : ∀ (a : Addr) (oe : Obj) (cls : Value) (d : Option Addr) (pn : List (Addr × Obj)), Zc cls d oe → (∃ vs, oe.data = .fields vs) → PSs (X.suite a ((a, oe) :: pn)) [.Return (some (.Call (.Name "isinstance" p1) [.Name n p2, .Name y p3] [] p4)) p5] (tsIs X.K i Cy a cls d) := by
    intro a oe cls d pn hz hfl
    refine ⟨fun pins s σ H D I ⟨C, b, h1, h2, h3, h4, h5, h6⟩ => ?_⟩
    subst h1
    subst h2
    have pr := pss_one (ps_ret (pos := p5) (pe_callB (X := X.suite a ((a, oe) :: pn)) (p := p1) (call_isE h3 hz hfl) hg hm (by decide +kernel) (pa_cons (pe_var hi hv hdn hcn) (pa_cons (pe_glob (v := .ref Cy) hgy gy rfl hdy) pa_nil (he2 _ _)) (he _ _)) (by decide) (by decide) (he _ _) (hpl _ _)))
    refine pr.run pins s σ H D I ⟨.ref a, h4, .ref Cy, .ref Cy, b, rfl, fun u hu => hu, h5, h6⟩
  have main := ps_try_as (i := i) (b₀ := .Return (some (.Call (.Name "isinstance" p1) [.Name n p2, .Name y p3] [] p4)) p5) (suite := []) (pos := pos) (pos' := pos') (np := np) (tb := fun W => tSD X.K X.mg { c with W := W } g) (Wout := c.W) hs hf hN hi hln hc tk (fun W pn xe t _ => hb W pn xe t) hsu
  refine ds_imp main fun F ρ e st σ H D rr q => ⟨F, ρ, e, st, rr.wish _, ?_⟩
  unfold sTryIs at q
  cases hr : g e st with
  | stuck => rw [hr] at q; exact q
  | nx e' st' => rw [hr] at q; exact fun F' ρ' σ' H' l r' => q F' ρ' σ' H' l r'.unwish
  | bk e' st' => rw [hr] at q; exact fun F' ρ' σ' H' l r' => q F' ρ' σ' H' l r'.unwish
  | ct e' st' => rw [hr] at q; exact fun F' ρ' σ' H' l r' => q F' ρ' σ' H' l r'.unwish
  | rt v st' => rw [hr] at q; exact q
  | exc k e' st' =>
    rw [hr] at q
    intro F' ρ' σ' H' C r' gC
    simp only at q
    split at q
    · rename_i b hk
      obtain ⟨q1, q2, q3⟩ := T.at_ _ _ _ hk C Cx Cy gC gx gy
      split at q
      · rename_i hlen
        refine ⟨true, q1, fun _ a ha => ⟨C, b, rfl, rfl, q3, ?_, q2, ?_⟩, fun z => nomatch z⟩
        · rw [List.getElem?_set_self (by rw [← r'.len]; exact hlen)]
        · exact q F' ρ' H' (.bl b) r'.w r'.x (.bl b)
      · exact q.elim
    · rename_i b hk
      obtain ⟨q1, q2, q3⟩ := T.at_ _ _ _ hk C Cx Cy gC gx gy
      exact ⟨false, q1, (fun z => by cases z), fun _ => q F' ρ' σ' H' C r'.unwish gC⟩
    · exact q.elim
end
end DL
end
section
set_option Elab.async false
set_option linter.all false
set_option maxRecDepth 100000
set_option maxHeartbeats 4000000
set_option autoImplicit false
/-! DLK: == and != of data of any depth. -/
namespace DL
open PySem PySem.Spec L2
open PyProof.Rows hiding St

/-- the kind of a datum, for kinds that never are equal -/
def kd : D → Nat
  | .non => 0 | .bl _ => 1 | .int _ => 2 | .str _ => 3 | .tup _ => 4 | .lst _ => 5 | _ => 9
def kdNe (a b : Nat) : Bool := (a < 9 && b < 9 && a != b)
mutual
def deq : D → D → Option Bool
  | .non, .non => some true
  | .bl a, .bl b => some (a == b)
  | .bl a, .int b => some ((if a then 1 else 0) == b)
  | .int a, .bl b => some (a == (if b then 1 else 0))
  | .int a, .int b => some (a == b)
  | .str a, .str b => some (a == b)
  | .tup xs, .tup ys => (deqs xs ys).map fun r => r && xs.length == ys.length
  | .lst xs, .lst ys => if xs.length = ys.length then deqs xs ys else some false
  | .dk xs, .dk ys => (deqk xs ys).map fun r => xs.length == ys.length && r
  | x, y => if kdNe (kd x) (kd y) = true then some false else none
def deqs : List D → List D → Option Bool
  | x :: xs, y :: ys => match deq x y, deqs xs ys with
    | some a, some b => some (a && b)
    | _, _ => none
  | _, _ => some true
def deqk : List (Key × D) → List (Key × D) → Option Bool
  | [], _ => some true
  | (k, x) :: xs, ys => match lk ys k with
    | some y => (match deq x y, deqk xs ys with
      | some a, some b => some (a && b)
      | _, _ => none)
    | none => (deqk xs ys).map fun _ => false
end
mutual
def depth : D → Nat
  | .tup ds => depths ds + 1
  | .lst ds => depths ds + 1
  | .dk kvs => depthk kvs + 1
  | _ => 0
def depths : List D → Nat
  | [] => 0
  | d :: ds => max (depth d) (depths ds)
def depthk : List (Key × D) → Nat
  | [] => 0
  | (_, d) :: ds => max (depth d) (depthk ds)
end
theorem t1 (xs ys : List D) : deq (.tup xs) (.tup ys) = (deqs xs ys).map fun r => r && xs.length == ys.length := by rfl
theorem t2 (i j : Int) : deq (.int i) (.int j) = some (i == j) := by rfl
theorem depths_mem : ∀ {ds : List D} {j : Nat} {d : D}, ds[j]? = some d → depth d ≤ depths ds
  | [], _, _, h => by simp at h
  | x :: xs, 0, d, h => by
    simp at h
    subst h
    unfold depths
    exact Nat.le_max_left _ _
  | x :: xs, j + 1, d, h => by
    have := depths_mem (ds := xs) (j := j) (d := d) (by simpa using h)
    unfold depths
    exact Nat.le_trans this (Nat.le_max_right _ _)
theorem depthk_mem : ∀ {ds : List (Key × D)} {k : Key} {d : D}, (k, d) ∈ ds → depth d ≤ depthk ds
  | [], _, _, h => by cases h
  | (k', x) :: xs, k, d, h => by
    unfold depthk
    rcases List.mem_cons.mp h with e | h
    · cases e
      exact Nat.le_max_left _ _
    · exact Nat.le_trans (depthk_mem h) (Nat.le_max_right _ _)
theorem deqs_some : ∀ {xs ys : List D} {r : Bool}, deqs xs ys = some r → ∃ e : Nat → Bool, (∀ (j : Nat) x y, xs[j]? = some x → ys[j]? = some y → deq x y = some (e j)) ∧ r = (List.range (min xs.length ys.length)).all e
  | [], ys, r, h => by
    unfold deqs at h
    cases h
    exact ⟨fun _ => true, fun j x y h => by simp at h, by simp⟩
  | x :: xs, [], r, h => by
    unfold deqs at h
    cases h
    exact ⟨fun _ => true, fun j x y _ h => by simp at h, by simp⟩
  | x :: xs, y :: ys, r, h => by
    unfold deqs at h
    split at h
    · rename_i a b ha hb
      cases h
      obtain ⟨e, he, hr⟩ := deqs_some hb
      refine ⟨fun j => match j with | 0 => a | j + 1 => e j, fun j x' y' h1 h2 => ?_, ?_⟩
      · cases j with
        | zero => simp at h1 h2; subst h1; subst h2; exact ha
        | succ j => exact he j x' y' (by simpa using h1) (by simpa using h2)
      · rw [hr, List.length_cons, List.length_cons, Nat.succ_min_succ, List.range_succ_eq_map, List.all_cons, List.all_map]
        rfl
    · cases h
theorem lk_mem {κ : Type} [DecidableEq κ] : ∀ {ds : List (κ × D)} {k : κ} {d : D}, lk ds k = some d → (k, d) ∈ ds
  | [], _, _, h => by cases h
  | (k', x) :: xs, k, d, h => by
    unfold lk at h
    split at h
    · rename_i e
      cases h
      subst e
      exact List.mem_cons_self
    · exact List.mem_cons_of_mem _ (lk_mem h)
theorem lk_of_mem {κ : Type} [DecidableEq κ] : ∀ {ds : List (κ × D)} {k : κ} {d : D}, (ds.map (·.1)).Nodup → (k, d) ∈ ds → lk ds k = some d
  | [], _, _, _, h => by cases h
  | (k', x) :: xs, k, d, n, h => by
    rw [List.map_cons, List.nodup_cons] at n
    unfold lk
    rcases List.mem_cons.mp h with e | h
    · cases e
      rw [if_pos rfl]
    · have : k' ≠ k := fun q => n.1 (by rw [q]; exact List.mem_map.mpr ⟨_, h, rfl⟩)
      rw [if_neg this]
      exact lk_of_mem n.2 h
theorem all_mem {α : Type} {f g : α → Bool} : ∀ {xs : List α}, (∀ p, p ∈ xs → f p = g p) → xs.all f = xs.all g
  | [], _ => rfl
  | x :: xs, h => by
    rw [List.all_cons, List.all_cons, h x List.mem_cons_self, all_mem fun p hp => h p (List.mem_cons_of_mem _ hp)]
theorem deqk_some : ∀ {xs ys : List (Key × D)} {r : Bool}, (xs.map (·.1)).Nodup → deqk xs ys = some r → ∃ e : Key → Bool, (∀ k x y, (k, x) ∈ xs → lk ys k = some y → deq x y = some (e k)) ∧ r = xs.all fun p => (lk ys p.1).isSome && e p.1
  | [], ys, r, _, h => by
    unfold deqk at h
    cases h
    exact ⟨fun _ => true, fun k x y h => (by cases h), rfl⟩
  | (k, x) :: xs, ys, r, n, h => by
    rw [List.map_cons, List.nodup_cons] at n
    unfold deqk at h
    split at h
    · rename_i y hy
      split at h
      · rename_i a b ha hb
        cases h
        obtain ⟨e, he, hr⟩ := deqk_some n.2 hb
        refine ⟨fun k' => if k' = k then a else e k', fun k' x' y' h1 h2 => ?_, ?_⟩
        · rcases List.mem_cons.mp h1 with q | h1
          · cases q
            rw [hy] at h2
            cases h2
            simp only [if_pos]
            exact ha
          · have : k' ≠ k := fun q => n.1 (by rw [← q]; exact List.mem_map.mpr ⟨_, h1, rfl⟩)
            simp only [if_neg this]
            exact he k' x' y' h1 h2
        · rw [List.all_cons, hr]
          simp only [hy, if_pos, Option.isSome_some, Bool.true_and]
          congr 1
          refine all_mem fun p hp => ?_
          have : p.1 ≠ k := fun q => n.1 (by rw [← q]; exact List.mem_map.mpr ⟨_, hp, rfl⟩)
          rw [if_neg this]
      · cases h
    · rename_i hy
      cases hk : deqk xs ys with
      | none => rw [hk] at h; cases h
      | some b =>
        rw [hk] at h
        cases h
        obtain ⟨e, he, hr⟩ := deqk_some n.2 hk
        refine ⟨e, fun k' x' y' h1 h2 => ?_, ?_⟩
        · rcases List.mem_cons.mp h1 with q | h1
          · cases q
            rw [hy] at h2
            cases h2
          · exact he k' x' y' h1 h2
        · rw [List.all_cons, hy]
          rfl
theorem RelO.of_some {o : Option V} {u : Value} (r : RelO o (some u)) : ∃ v, o = some v ∧ RelV v u := by
  cases o with
  | none => exact r.elim
  | some v => exact ⟨v, rfl, r⟩
/-! ### what a heap holds at a value -/
mutual
inductive Hd (K : PySem.W.Frag) (H : Hp) : V → D → Prop
  | non : Hd K H .non .non
  | bl (b : Bool) : Hd K H (.bl b) (.bl b)
  | int (i : Int) : Hd K H (.int i) (.int i)
  | str (x : Str) : Hd K H (.str x) (.str x)
  | tup {a : Addr} {vs : List V} {ds : List D} : SqT K H a vs → Hds K H vs ds → Hd K H (.ref a) (.tup ds)
  | lst {a : Addr} {vs : List V} {ds : List D} : SqL K H a vs → Hds K H vs ds → Hd K H (.ref a) (.lst ds)
  | dk {a : Addr} {kvs : List (Key × V)} {kds : List (Key × D)} : Rd H a (.dK kvs) → Hdk K H kvs kds → Hd K H (.ref a) (.dk kds)
  | any {v : V} {d : D} : kd d = 9 → (∀ kvs, d ≠ .dk kvs) → Hd K H v d
inductive Hds (K : PySem.W.Frag) (H : Hp) : List V → List D → Prop
  | nil : Hds K H [] []
  | cons {v : V} {vs : List V} {d : D} {ds : List D} : Hd K H v d → Hds K H vs ds → Hds K H (v :: vs) (d :: ds)
inductive Hdk (K : PySem.W.Frag) (H : Hp) : List (Key × V) → List (Key × D) → Prop
  | nil : Hdk K H [] []
  | cons {k : Key} {v : V} {vs : List (Key × V)} {d : D} {ds : List (Key × D)} : Hd K H v d → Hdk K H vs ds → Hdk K H ((k, v) :: vs) ((k, d) :: ds)
end
section
variable {K : PySem.W.Frag} {F : Addr → Prop} {ρ : List Addr} {H : Hp}
mutual
theorem Rep.hd : ∀ {d : D} {v : V}, Rep K F ρ H v d → Hd K H v d
  | .non, _, h => by cases h; exact .non
  | .bl _, _, h => by cases h; exact .bl _
  | .int _, _, h => by cases h; exact .int _
  | .str _, _, h => by cases h; exact .str _
  | .tup ds, _, h => by cases h with | tup h1 h2 => exact .tup h1.sq (Reps.hd h2)
  | .lst ds, _, h => by cases h with | lst h0 h1 h2 => exact .lst (.of h1) (Reps.hd h2)
  | .dk ds, _, h => by cases h with | dk h0 h1 h2 => exact .dk h1 (RepK.hd h2)
  | .scr ds, _, h => .any rfl fun _ z => nomatch z
  | .dt ds, _, h => .any rfl fun _ z => nomatch z
  | .dn ds, _, h => .any rfl fun _ z => nomatch z
  | .ref ds, _, h => .any rfl fun _ z => nomatch z
  | .own ds, _, h => .any rfl fun _ z => nomatch z
theorem Reps.hd : ∀ {ds : List D} {vs : List V}, Reps K F ρ H vs ds → Hds K H vs ds
  | [], _, h => by cases h; exact .nil
  | _ :: _, _, h => by cases h with | cons h1 h2 => exact .cons (Rep.hd h1) (Reps.hd h2)
theorem RepK.hd : ∀ {ds : List (Key × D)} {vs : List (Key × V)}, RepK K F ρ H vs ds → Hdk K H vs ds
  | [], _, h => by cases h; exact .nil
  | (_, _) :: _, _, h => by cases h with | cons h1 h2 => exact .cons (Rep.hd h1) (RepK.hd h2)
end
theorem Vw.hd {v : V} {d : D} (h : Vw K F ρ H v d) : Hd K H v d := by
  cases h with
  | non h => subst h; exact .non
  | bl h => subst h; exact .bl _
  | int h => subst h; exact .int _
  | str h => subst h; exact .str _
  | tup h h1 h2 => subst h; exact .tup h1.sq h2.hd
  | lst h h1 h2 => subst h; exact .lst (.of h1) h2.hd
  | dk h h1 h2 => subst h; exact .dk h1 h2.hd
  | scr h h1 h2 => exact .any rfl fun _ z => nomatch z
  | dt h h1 h2 => exact .any rfl fun _ z => nomatch z
  | own => exact .any rfl fun _ z => nomatch z
  | ref h h1 => exact .any rfl fun _ z => nomatch z
theorem Hds.length {vs : List V} {ds : List D} (h : Hds K H vs ds) : vs.length = ds.length := by
  induction ds generalizing vs with
  | nil => cases h; rfl
  | cons d ds ih => cases h with | cons h1 h2 => rw [List.length_cons, List.length_cons, ih h2]
theorem Hds.at {v : V} : ∀ {ds : List D} {vs : List V} {i : Nat}, Hds K H vs ds → vs[i]? = some v → ∃ d, ds[i]? = some d ∧ Hd K H v d
  | [], _, _, h, e => by cases h; simp at e
  | _ :: _, _, 0, h, e => by cases h with | cons h1 h2 => exact ⟨_, rfl, by simp at e; subst e; exact h1⟩
  | _ :: _, _, i + 1, h, e => by
    cases h with
    | cons h1 h2 =>
      obtain ⟨d, e1, r⟩ := Hds.at (v := v) (i := i) h2 (by simpa using e)
      exact ⟨d, by simpa using e1, r⟩
theorem Hdk.keys : ∀ {ds : List (Key × D)} {vs : List (Key × V)}, Hdk K H vs ds → vs.map (·.1) = ds.map (·.1)
  | [], _, h => by cases h; rfl
  | (k, d) :: ds, _, h => by cases h with | cons h1 h2 => rw [List.map_cons, List.map_cons, Hdk.keys h2]
theorem Hdk.length {vs : List (Key × V)} {ds : List (Key × D)} (h : Hdk K H vs ds) : vs.length = ds.length := by
  have := congrArg List.length h.keys
  simpa using this
theorem Hdk.at {k : Key} {v : V} : ∀ {ds : List (Key × D)} {vs : List (Key × V)}, Hdk K H vs ds → (k, v) ∈ vs → ∃ d, (k, d) ∈ ds ∧ Hd K H v d
  | [], _, h, e => by cases h; cases e
  | (k', d) :: ds, _, h, e => by
    cases h with
    | cons h1 h2 =>
      rcases List.mem_cons.mp e with q | e
      · cases q; exact ⟨d, List.mem_cons_self, h1⟩
      · obtain ⟨d, e1, r⟩ := Hdk.at h2 e
        exact ⟨d, List.mem_cons_of_mem _ e1, r⟩
theorem Hdk.lk : ∀ {ds : List (Key × D)} {vs : List (Key × V)} (k : Key), Hdk K H vs ds → (∀ v, valV vs k = some v → ∃ d, DL.lk ds k = some d ∧ Hd K H v d) ∧ (valV vs k = none → DL.lk ds k = none)
  | [], _, k, h => by cases h; exact ⟨fun v e => (by cases e), fun _ => rfl⟩
  | (k', d') :: r, _, k, h => by
    cases h with
    | @cons _ v vs _ _ h1 h2 =>
      unfold DL.lk
      by_cases e : k' = k
      · rw [if_pos e, valV_pos (p := (k', v)) e]
        exact ⟨fun v q => (by cases q; exact ⟨_, rfl, h1⟩), fun q => (by cases q)⟩
      · rw [if_neg e, valV_neg (p := (k', v)) e]
        exact Hdk.lk k h2
end
section
variable {X : Cx} {pins : List (Addr × Obj)} {σ : St} {H : Hp} {s : Shared}
theorem dk_nodup (I : Inv X pins σ H s) {a : Addr} {kvs : List (Key × V)} (h : Rd H a (.dK kvs)) : (kvs.map (·.1)).Nodup := by
  obtain ⟨_, _, vs, rel, _, _, _, _, _, _, _, _, nd⟩ := dk_rd I.hok h
  rw [KV.keys rel]
  exact nd
theorem deq_any_r {x y : D} (h : kd y = 9) (hn : ∀ kvs, y ≠ .dk kvs) : deq x y = none := by
  cases y <;> first | (cases h; done) | exact absurd rfl (hn _) | (cases x <;> rfl)
theorem deq_any_l {x y : D} (h : kd x = 9) (hn : ∀ kvs, x ≠ .dk kvs) : deq x y = none := by
  cases x <;> first | (cases h; done) | exact absurd rfl (hn _) | (cases y <;> rfl)
theorem sqT_sqL (I : Inv X pins σ H s) {a : Addr} {xs ys : List V} (h : SqT X.K H a xs) (h' : SqL X.K H a ys) : False := by
  obtain ⟨_, _, ⟨o, e1, c1, _⟩, _⟩ := I.tuple h
  obtain ⟨_, _, p, _⟩ := I.list h'
  obtain ⟨o', e2, c2, _⟩ := p.isList
  rw [e1] at e2
  cases e2
  exact absurd (Value.type.inj (c1.symm.trans c2)) (by decide)
theorem sqT_dk (I : Inv X pins σ H s) {a : Addr} {xs : List V} {kvs : List (Key × V)} (h : SqT X.K H a xs) (h' : Rd H a (.dK kvs)) : False := by
  obtain ⟨_, _, ⟨o, e1, c1, _⟩, _⟩ := I.tuple h
  obtain ⟨_, _, vs, rel, o', es, ep, e2, c2, _⟩ := dk_rd I.hok h'
  rw [e1] at e2
  cases e2
  exact absurd (Value.type.inj (c1.symm.trans c2.1)) (by decide)
theorem sqL_dk (I : Inv X pins σ H s) {a : Addr} {xs : List V} {kvs : List (Key × V)} (h : SqL X.K H a xs) (h' : Rd H a (.dK kvs)) : False := by
  obtain ⟨_, _, p, _⟩ := I.list h
  obtain ⟨o, e1, c1, _⟩ := p.isList
  obtain ⟨_, _, vs, rel, o', es, ep, e2, c2, _⟩ := dk_rd I.hok h'
  rw [e1] at e2
  cases e2
  exact absurd (Value.type.inj (c1.symm.trans c2.1)) (by decide)
theorem rd_inj (I : Inv X pins σ H s) {a : Addr} {xs ys : List (Key × V)} (h : Rd H a (.dK xs)) (h' : Rd H a (.dK ys)) : xs = ys := by
  rcases h with h | ⟨o, h⟩ <;> rcases h' with h' | ⟨o', h'⟩ <;> (rw [h] at h'; first | (cases h'; rfl) | cases h')
theorem all_true {n : Nat} {e : Nat → Bool} (h : ∀ j, j < n → e j = true) : (List.range n).all e = true := by
  rw [List.all_eq_true]
  intro j hj
  exact h j (List.mem_range.mp hj)
/-- one object is equal to itself, as far as == answers -/
theorem hd_same (I : Inv X pins σ H s) : ∀ (n : Nat) {x y : D} {v : V} {b : Bool}, depth x < n → Hd X.K H v x → Hd X.K H v y → deq x y = some b → b = true := by
  intro n
  induction n with
  | zero => intro x y v b h; exact absurd h (Nat.not_lt_zero _)
  | succ n ih =>
    intro x y v b hn hx hy h
    cases hx with
    | any k1 k2 => rw [deq_any_l k1 k2] at h; cases h
    | non => cases hy with
      | non => cases h; rfl
      | any k1 k2 => rw [deq_any_r k1 k2] at h; cases h
    | bl i => cases hy with
      | bl => cases h; simp
      | any k1 k2 => rw [deq_any_r k1 k2] at h; cases h
    | int i => cases hy with
      | int => cases h; simp
      | any k1 k2 => rw [deq_any_r k1 k2] at h; cases h
    | str i => cases hy with
      | str => cases h; simp
      | any k1 k2 => rw [deq_any_r k1 k2] at h; cases h
    | @tup a vs ds h1 h2 => cases hy with
      | any k1 k2 => rw [deq_any_r k1 k2] at h; cases h
      | lst h3 h4 => exact (sqT_sqL I h1 h3).elim
      | dk h3 h4 => exact (sqT_dk I h1 h3).elim
      | @tup _ vs' ds' h3 h4 =>
        cases I.tuple_inj h1 h3
        unfold deq at h
        cases hs : deqs ds ds' with
        | none => rw [hs] at h; cases h
        | some r =>
          rw [hs] at h
          cases h
          obtain ⟨e, he, hr⟩ := deqs_some hs
          have l1 := h2.length
          have l2 := h4.length
          have hb : (ds.length == ds'.length) = true := by rw [← l1, ← l2]; simp
          show (r && (ds.length == ds'.length)) = true
          rw [hb, Bool.and_true, hr]
          refine all_true fun j hj => ?_
          have hj1 : j < vs.length := by omega
          obtain ⟨x', hx', q1⟩ := h2.at (List.getElem?_eq_getElem hj1)
          obtain ⟨y', hy', q2⟩ := h4.at (List.getElem?_eq_getElem hj1)
          refine ih ?_ q1 q2 (he j x' y' hx' hy')
          have := depths_mem hx'
          unfold depth at hn
          omega
    | @lst a vs ds h1 h2 => cases hy with
      | any k1 k2 => rw [deq_any_r k1 k2] at h; cases h
      | tup h3 h4 => exact (sqT_sqL I h3 h1).elim
      | dk h3 h4 => exact (sqL_dk I h1 h3).elim
      | @lst _ vs' ds' h3 h4 =>
        cases I.list_inj h1 h3
        have l1 := h2.length
        have l2 := h4.length
        unfold deq at h
        rw [if_pos (by omega)] at h
        obtain ⟨e, he, hr⟩ := deqs_some h
        rw [hr]
        refine all_true fun j hj => ?_
        have hj1 : j < vs.length := by omega
        obtain ⟨x', hx', q1⟩ := h2.at (List.getElem?_eq_getElem hj1)
        obtain ⟨y', hy', q2⟩ := h4.at (List.getElem?_eq_getElem hj1)
        refine ih ?_ q1 q2 (he j x' y' hx' hy')
        have := depths_mem hx'
        unfold depth at hn
        omega
    | @dk a kvs ds h1 h2 => cases hy with
      | any k1 k2 => rw [deq_any_r k1 k2] at h; cases h
      | tup h3 h4 => exact (sqT_dk I h3 h1).elim
      | lst h3 h4 => exact (sqL_dk I h3 h1).elim
      | @dk _ kvs' ds' h3 h4 =>
        cases rd_inj I h1 h3
        have l1 := h2.length
        have l2 := h4.length
        have nd := dk_nodup I h1
        unfold deq at h
        cases hs : deqk ds ds' with
        | none => rw [hs] at h; cases h
        | some r =>
          rw [hs] at h
          cases h
          obtain ⟨e, he, hr⟩ := deqk_some (by rw [← h2.keys]; exact nd) hs
          have hb : (ds.length == ds'.length) = true := by rw [← l1, ← l2]; simp
          show ((ds.length == ds'.length) && r) = true
          rw [hb, Bool.true_and, hr, List.all_eq_true]
          rintro ⟨k, x'⟩ hm
          have hkv : ∃ v', (k, v') ∈ kvs := by
            have : k ∈ kvs.map (·.1) := by rw [h2.keys]; exact List.mem_map.mpr ⟨_, hm, rfl⟩
            obtain ⟨⟨k', v'⟩, q1, q2⟩ := List.mem_map.mp this
            cases q2
            exact ⟨v', q1⟩
          obtain ⟨v', hv'⟩ := hkv
          obtain ⟨x2, hx2, q1⟩ := h2.at hv'
          have nd2 : (ds.map (·.1)).Nodup := by rw [← h2.keys]; exact nd
          have ex : x2 = x' := Option.some.inj ((lk_of_mem nd2 hx2).symm.trans (lk_of_mem nd2 hm))
          subst ex
          obtain ⟨y', hy', q2⟩ := h4.at hv'
          have nd3 : (ds'.map (·.1)).Nodup := by rw [← h4.keys]; exact nd
          have hly := lk_of_mem nd3 hy'
          rw [Bool.and_eq_true]
          refine ⟨by rw [hly]; rfl, ih ?_ q1 q2 (he k _ y' hm hly)⟩
          have := depthk_mem hm
          unfold depth at hn
          omega
/-- == answers what deq says -/
theorem hd_eq (I : Inv X pins σ H s) : ∀ (n : Nat) {x y : D} {v u : V} {v' u' : Value} {b : Bool}, depth x < n → Hd X.K H v x → Hd X.K H u y → deq x y = some b → RelV v v' → RelV u u' → PySem.W.EqTree X.prog X.w s n v' u' b := by
  intro n
  induction n with
  | zero => intro x y v u v' u' b h; exact absurd h (Nat.not_lt_zero _)
  | succ n ih =>
    intro x y v u v' u' b hn hx hy h rv ru
    have deep := hd_same I (n + 1) (y := y) (b := b) hn hx
    cases hx with
    | any k1 k2 => rw [deq_any_l k1 k2] at h; cases h
    | non => cases hy with
      | any k1 k2 => rw [deq_any_r k1 k2] at h; cases h
      | non =>
        cases h
        cases rv
        cases ru
        exact .same
      | bl j =>
        cases h
        cases rv
        cases ru
        exact .leaf fun A hu => SeqAt.EqAt.none_bool _ 
      | int j =>
        cases h
        cases rv
        obtain ⟨tr, rfl⟩ := (show ∃ t, _ = _ from ru)
        exact .leaf fun A hu => SeqAt.EqAt.none_int _ _ 
      | str j =>
        cases h
        cases rv
        obtain ⟨tr, rfl⟩ := (show ∃ t, _ = _ from ru)
        exact .leaf fun A hu => SeqAt.EqAt.none_str _ _ 
      | @tup a2 vs2 ds2 h3 h4 =>
        cases h
        cases rv
        cases ru
        obtain ⟨its, r1, p1, _⟩ := I.tuple h3
        exact .leaf fun A hu => SeqAt.EqAt.none_tuple p1 (by omega)
      | @lst a2 vs2 ds2 h3 h4 =>
        cases h
        cases rv
        cases ru
        obtain ⟨its, r1, p1, _⟩ := I.list h3
        exact .leaf fun A hu => SeqAt.EqAt.none_list p1.isList (by omega)
      | dk h3 h4 => cases h
    | bl i => cases hy with
      | any k1 k2 => rw [deq_any_r k1 k2] at h; cases h
      | non =>
        cases h
        cases rv
        cases ru
        exact .leaf fun A hu => SeqAt.EqAt.bool_none _ 
      | bl j =>
        cases h
        cases rv
        cases ru
        exact .leaf fun A hu => SeqAt.EqAt.bool_bool _ _ 
      | int j =>
        cases h
        cases rv
        obtain ⟨tr, rfl⟩ := (show ∃ t, _ = _ from ru)
        exact .leaf fun A hu => SeqAt.EqAt.bool_int _ _ _ 
      | str j =>
        cases h
        cases rv
        obtain ⟨tr, rfl⟩ := (show ∃ t, _ = _ from ru)
        exact .leaf fun A hu => SeqAt.EqAt.bool_str _ _ _ 
      | @tup a2 vs2 ds2 h3 h4 =>
        cases h
        cases rv
        cases ru
        obtain ⟨its, r1, p1, _⟩ := I.tuple h3
        exact .leaf fun A hu => SeqAt.EqAt.bool_tuple _ p1 (by omega)
      | @lst a2 vs2 ds2 h3 h4 =>
        cases h
        cases rv
        cases ru
        obtain ⟨its, r1, p1, _⟩ := I.list h3
        exact .leaf fun A hu => SeqAt.EqAt.bool_list _ p1.isList (by omega)
      | dk h3 h4 => cases h
    | int i => cases hy with
      | any k1 k2 => rw [deq_any_r k1 k2] at h; cases h
      | non =>
        cases h
        obtain ⟨tl, rfl⟩ := (show ∃ t, _ = _ from rv)
        cases ru
        exact .leaf fun A hu => SeqAt.EqAt.int_none _ _ 
      | bl j =>
        cases h
        obtain ⟨tl, rfl⟩ := (show ∃ t, _ = _ from rv)
        cases ru
        exact .leaf fun A hu => SeqAt.EqAt.int_bool _ _ _ 
      | int j =>
        cases h
        obtain ⟨tl, rfl⟩ := (show ∃ t, _ = _ from rv)
        obtain ⟨tr, rfl⟩ := (show ∃ t, _ = _ from ru)
        exact .leaf fun A hu => SeqAt.EqAt.int_int _ _ _ _ 
      | str j =>
        cases h
        obtain ⟨tl, rfl⟩ := (show ∃ t, _ = _ from rv)
        obtain ⟨tr, rfl⟩ := (show ∃ t, _ = _ from ru)
        exact .leaf fun A hu => SeqAt.EqAt.int_str _ _ _ _ 
      | @tup a2 vs2 ds2 h3 h4 =>
        cases h
        obtain ⟨tl, rfl⟩ := (show ∃ t, _ = _ from rv)
        cases ru
        obtain ⟨its, r1, p1, _⟩ := I.tuple h3
        exact .leaf fun A hu => SeqAt.EqAt.int_tuple _ _ p1 (by omega)
      | @lst a2 vs2 ds2 h3 h4 =>
        cases h
        obtain ⟨tl, rfl⟩ := (show ∃ t, _ = _ from rv)
        cases ru
        obtain ⟨its, r1, p1, _⟩ := I.list h3
        exact .leaf fun A hu => SeqAt.EqAt.int_list _ _ p1.isList (by omega)
      | dk h3 h4 => cases h
    | str i => cases hy with
      | any k1 k2 => rw [deq_any_r k1 k2] at h; cases h
      | non =>
        cases h
        obtain ⟨tl, rfl⟩ := (show ∃ t, _ = _ from rv)
        cases ru
        exact .leaf fun A hu => SeqAt.EqAt.str_none _ _ 
      | bl j =>
        cases h
        obtain ⟨tl, rfl⟩ := (show ∃ t, _ = _ from rv)
        cases ru
        exact .leaf fun A hu => SeqAt.EqAt.str_bool _ _ _ 
      | int j =>
        cases h
        obtain ⟨tl, rfl⟩ := (show ∃ t, _ = _ from rv)
        obtain ⟨tr, rfl⟩ := (show ∃ t, _ = _ from ru)
        exact .leaf fun A hu => SeqAt.EqAt.str_int _ _ _ _ 
      | str j =>
        cases h
        obtain ⟨tl, rfl⟩ := (show ∃ t, _ = _ from rv)
        obtain ⟨tr, rfl⟩ := (show ∃ t, _ = _ from ru)
        exact .leaf fun A hu => SeqAt.EqAt.str_str _ _ _ _ 
      | @tup a2 vs2 ds2 h3 h4 =>
        cases h
        obtain ⟨tl, rfl⟩ := (show ∃ t, _ = _ from rv)
        cases ru
        obtain ⟨its, r1, p1, _⟩ := I.tuple h3
        exact .leaf fun A hu => SeqAt.EqAt.str_tuple _ _ p1 (by omega)
      | @lst a2 vs2 ds2 h3 h4 =>
        cases h
        obtain ⟨tl, rfl⟩ := (show ∃ t, _ = _ from rv)
        cases ru
        obtain ⟨its, r1, p1, _⟩ := I.list h3
        exact .leaf fun A hu => SeqAt.EqAt.str_list _ _ p1.isList (by omega)
      | dk h3 h4 => cases h
    | @tup a vs ds h1 h2 => cases hy with
      | any k1 k2 => rw [deq_any_r k1 k2] at h; cases h
      | non =>
        cases h
        cases rv
        cases ru
        obtain ⟨its, r1, p1, _⟩ := I.tuple h1
        exact .leaf fun A hu => SeqAt.EqAt.tuple_none p1 (by omega)
      | bl j =>
        cases h
        cases rv
        cases ru
        obtain ⟨its, r1, p1, _⟩ := I.tuple h1
        exact .leaf fun A hu => SeqAt.EqAt.tuple_bool _ p1 (by omega)
      | int j =>
        cases h
        cases rv
        obtain ⟨tr, rfl⟩ := (show ∃ t, _ = _ from ru)
        obtain ⟨its, r1, p1, _⟩ := I.tuple h1
        exact .leaf fun A hu => SeqAt.EqAt.tuple_int _ _ p1 (by omega)
      | str j =>
        cases h
        cases rv
        obtain ⟨tr, rfl⟩ := (show ∃ t, _ = _ from ru)
        obtain ⟨its, r1, p1, _⟩ := I.tuple h1
        exact .leaf fun A hu => SeqAt.EqAt.tuple_str _ _ p1 (by omega)
      | @tup a2 vs2 ds2 h3 h4 =>
        cases rv
        cases ru
        by_cases ea : a = a2
        · subst ea
          cases deep (.tup h3 h4) h
          exact .same
        unfold deq at h
        cases hs : deqs ds ds2 with
        | none => rw [hs] at h; cases h
        | some r =>
          rw [hs] at h
          cases h
          obtain ⟨e, he, hr⟩ := deqs_some hs
          obtain ⟨its, r1, p1, _⟩ := I.tuple h1
          obtain ⟨its2, r2, p2, _⟩ := I.tuple h3
          have l1 := r1.length
          have l2 := r2.length
          have l3 := h2.length
          have l4 := h4.length
          have goal := PySem.W.EqTree.tuples (n := n) (e := e) ea p1 p2 (fun j q1 q2 => ?_) (prog := X.prog) (w := X.w)
          · rw [List.size_toArray, List.size_toArray, ← l1, ← l2, l3, l4, ← hr] at goal
            exact goal
          · rw [List.size_toArray] at q1 q2
            have j1 : j < vs.length := by omega
            have j2 : j < vs2.length := by omega
            obtain ⟨x', hx', g1⟩ := h2.at (List.getElem?_eq_getElem j1)
            obtain ⟨y', hy', g2⟩ := h4.at (List.getElem?_eq_getElem j2)
            obtain ⟨w1, e1, g3⟩ := r1.get (List.getElem?_eq_getElem j1)
            obtain ⟨w2, e2, g4⟩ := r2.get (List.getElem?_eq_getElem j2)
            have e1' : its.toArray[j] = w1 := by
              rw [List.getElem?_eq_getElem q1] at e1
              simpa using e1
            have e2' : its2.toArray[j] = w2 := by
              rw [List.getElem?_eq_getElem q2] at e2
              simpa using e2
            rw [e1', e2']
            refine ih ?_ g1 g2 (he j x' y' hx' hy') g3 g4
            have := depths_mem hx'
            unfold depth at hn
            omega
      | @lst a2 vs2 ds2 h3 h4 =>
        cases h
        cases rv
        cases ru
        obtain ⟨its, r1, p1, _⟩ := I.tuple h1
        obtain ⟨its2, r2, p2, _⟩ := I.list h3
        exact .leaf fun A hu => SeqAt.EqAt.tuple_list p1 p2.isList (by omega)
      | dk h3 h4 => cases h
    | @lst a vs ds h1 h2 => cases hy with
      | any k1 k2 => rw [deq_any_r k1 k2] at h; cases h
      | non =>
        cases h
        cases rv
        cases ru
        obtain ⟨its, r1, p1, _⟩ := I.list h1
        exact .leaf fun A hu => SeqAt.EqAt.list_none p1.isList (by omega)
      | bl j =>
        cases h
        cases rv
        cases ru
        obtain ⟨its, r1, p1, _⟩ := I.list h1
        exact .leaf fun A hu => SeqAt.EqAt.list_bool _ p1.isList (by omega)
      | int j =>
        cases h
        cases rv
        obtain ⟨tr, rfl⟩ := (show ∃ t, _ = _ from ru)
        obtain ⟨its, r1, p1, _⟩ := I.list h1
        exact .leaf fun A hu => SeqAt.EqAt.list_int _ _ p1.isList (by omega)
      | str j =>
        cases h
        cases rv
        obtain ⟨tr, rfl⟩ := (show ∃ t, _ = _ from ru)
        obtain ⟨its, r1, p1, _⟩ := I.list h1
        exact .leaf fun A hu => SeqAt.EqAt.list_str _ _ p1.isList (by omega)
      | @tup a2 vs2 ds2 h3 h4 =>
        cases h
        cases rv
        cases ru
        obtain ⟨its, r1, p1, _⟩ := I.list h1
        obtain ⟨its2, r2, p2, _⟩ := I.tuple h3
        exact .leaf fun A hu => SeqAt.EqAt.list_tuple p1.isList p2 (by omega)
      | @lst a2 vs2 ds2 h3 h4 =>
        cases rv
        cases ru
        by_cases ea : a = a2
        · subst ea
          cases deep (.lst h3 h4) h
          exact .same
        obtain ⟨its, r1, p1, _⟩ := I.list h1
        obtain ⟨its2, r2, p2, _⟩ := I.list h3
        have l1 := r1.length
        have l2 := r2.length
        have l3 := h2.length
        have l4 := h4.length
        unfold deq at h
        by_cases el : ds.length = ds2.length
        · rw [if_pos el] at h
          obtain ⟨e, he, hr⟩ := deqs_some h
          have goal := PySem.W.EqTree.lists (n := n) (e := e) ea p1.isList p2.isList (by rw [List.size_toArray, List.size_toArray]; omega) (fun j q1 q2 => ?_) (prog := X.prog) (w := X.w)
          · rw [List.size_toArray, ← l1, l3] at goal
            rw [← el, Nat.min_self] at hr
            rw [hr]
            exact goal
          · rw [List.size_toArray] at q1 q2
            have j1 : j < vs.length := by omega
            have j2 : j < vs2.length := by omega
            obtain ⟨x', hx', g1⟩ := h2.at (List.getElem?_eq_getElem j1)
            obtain ⟨y', hy', g2⟩ := h4.at (List.getElem?_eq_getElem j2)
            obtain ⟨w1, e1, g3⟩ := r1.get (List.getElem?_eq_getElem j1)
            obtain ⟨w2, e2, g4⟩ := r2.get (List.getElem?_eq_getElem j2)
            have e1' : its.toArray[j] = w1 := by
              rw [List.getElem?_eq_getElem q1] at e1
              simpa using e1
            have e2' : its2.toArray[j] = w2 := by
              rw [List.getElem?_eq_getElem q2] at e2
              simpa using e2
            rw [e1', e2']
            refine ih ?_ g1 g2 (he j x' y' hx' hy') g3 g4
            have := depths_mem hx'
            unfold depth at hn
            omega
        · rw [if_neg el] at h
          cases h
          exact .listsLen ea p1.isList p2.isList (by rw [List.size_toArray, List.size_toArray, bne_iff_ne]; omega)
      | dk h3 h4 => cases h
    | @dk a kvs ds h1 h2 => cases hy with
      | any k1 k2 => rw [deq_any_r k1 k2] at h; cases h
      | @dk a2 kvs2 ds2 h3 h4 =>
        cases rv
        cases ru
        by_cases ea : a = a2
        · subst ea
          cases deep (.dk h3 h4) h
          exact .same
        have nd := dk_nodup I h1
        have nd2 : (ds.map (·.1)).Nodup := by rw [← h2.keys]; exact nd
        unfold deq at h
        cases hs : deqk ds ds2 with
        | none => rw [hs] at h; cases h
        | some r =>
          rw [hs] at h
          cases h
          obtain ⟨e, he, hr⟩ := deqk_some nd2 hs
          obtain ⟨_, y1, va, rela, da⟩ := dk_rd I.hok h1
          obtain ⟨_, y2, vb, relb, db⟩ := dk_rd I.hok h3
          have goal := PySem.W.EqTree.dicts (n := n) (e := e) ea y1 y2 da db (fun k w1 w2 hm hv => ?_) (prog := X.prog) (w := X.w)
          · have e1 : va.length = ds.length := by rw [← rela.length, h2.length]
            have e2 : vb.length = ds2.length := by rw [← relb.length, h4.length]
            have e3 : (va.all fun p => (valueAt vb p.1).isSome && e p.1) = ds.all fun p => (lk ds2 p.1).isSome && e p.1 := by
              have f1 : ∀ k, (valueAt vb k).isSome = (lk ds2 k).isSome := fun k => by
                rw [← (relb.val k).isSome_eq]
                obtain ⟨q1, q2⟩ := h4.lk k
                cases hv : valV kvs2 k with
                | none => rw [q2 hv]; rfl
                | some v => obtain ⟨d, hd, _⟩ := q1 v hv; rw [hd]; rfl
              have f2 : va.map (·.1) = ds.map (·.1) := by rw [← KV.keys rela, h2.keys]
              have f3 : ∀ {α : Type} (l : List (Key × α)), (l.all fun p => (lk ds2 p.1).isSome && e p.1) = (l.map (·.1)).all fun k => (lk ds2 k).isSome && e k := fun l => by rw [List.all_map]; rfl
              rw [f3 ds, ← f2, ← f3 va]
              exact all_mem fun p _ => by rw [f1]
            rw [e1, e2, e3, ← hr] at goal
            exact goal
          · have g1 : ∃ v1, (k, v1) ∈ kvs ∧ RelV v1 w1 := by
              have : ∀ {l : List (Key × V)} {m : List (Key × Value)}, KV l m → (k, w1) ∈ m → ∃ v1, (k, v1) ∈ l ∧ RelV v1 w1 := by
                intro l m q
                unfold KV at q
                induction q with
                | nil => intro h; cases h
                | @cons p q ps qs hh t ih2 =>
                  intro h
                  rcases List.mem_cons.mp h with e | h
                  · obtain ⟨p1, p2⟩ := p
                    subst e
                    obtain ⟨z1, z2⟩ := hh
                    have z1' : p1 = k := z1
                    subst z1'
                    exact ⟨p2, List.mem_cons_self, z2⟩
                  · obtain ⟨v1, z1, z2⟩ := ih2 h
                    exact ⟨v1, List.mem_cons_of_mem _ z1, z2⟩
              exact this rela hm
            obtain ⟨v1, m1, q1⟩ := g1
            obtain ⟨x', m2, q2⟩ := h2.at m1
            obtain ⟨v2, m3, q3⟩ := DL.RelO.of_some (by rw [← hv]; exact relb.val k)
            obtain ⟨y', m4, q4⟩ := (h4.lk k).1 v2 m3
            refine ih ?_ q2 q4 (he k x' y' m2 m4) q1 q3
            have := depthk_mem m2
            unfold depth at hn
            omega
      | _ => cases h
end
mutual
/-- no dict within -/
def noDk : D → Bool
  | .tup ds => noDks ds
  | .lst ds => noDks ds
  | .dk _ => false
  | _ => true
def noDks : List D → Bool
  | [] => true
  | d :: ds => noDk d && noDks ds
end
theorem noDks_mem : ∀ {ds : List D} {j : Nat} {d : D}, noDks ds = true → ds[j]? = some d → noDk d = true
  | [], _, _, _, h => by simp at h
  | x :: xs, 0, d, n, h => by
    simp at h
    subst h
    unfold noDks at n
    exact (Bool.and_eq_true_iff.mp n).1
  | x :: xs, j + 1, d, n, h => by
    unfold noDks at n
    exact noDks_mem (ds := xs) (j := j) (Bool.and_eq_true_iff.mp n).2 (by simpa using h)
section
variable {X : Cx} {pins : List (Addr × Obj)} {σ : St} {H : Hp} {s : Shared}
theorem hd_at (I : Inv X pins σ H s) : ∀ (n : Nat) {x y : D} {v u : V} {v' u' : Value} {b : Bool}, depth x < n → noDk x = true → Hd X.K H v x → Hd X.K H u y → deq x y = some b → RelV v v' → RelV u u' → ∀ A : Around, A.units + n < cLine → SeqAt.EqAt A s v' u' b := by
  intro n
  induction n with
  | zero => intro x y v u v' u' b h; exact absurd h (Nat.not_lt_zero _)
  | succ n ih =>
    intro x y v u v' u' b hn nd hx hy h rv ru A hu
    have deep := hd_same I (n + 1) (y := y) (b := b) hn hx
    cases hx with
    | any k1 k2 => rw [deq_any_l k1 k2] at h; cases h
    | dk h1 h2 => cases nd
    | non => cases hy with
      | any k1 k2 => rw [deq_any_r k1 k2] at h; cases h
      | dk h3 h4 => cases h
      | non =>
        cases h
        cases rv
        cases ru
        exact .same _
      | bl i2 =>
        cases h
        cases rv
        cases ru
        exact SeqAt.EqAt.none_bool _ 
      | int i2 =>
        cases h
        cases rv
        obtain ⟨tr, rfl⟩ := (show ∃ t, _ = _ from ru)
        exact SeqAt.EqAt.none_int _ _ 
      | str i2 =>
        cases h
        cases rv
        obtain ⟨tr, rfl⟩ := (show ∃ t, _ = _ from ru)
        exact SeqAt.EqAt.none_str _ _ 
      | @tup a2 vs2 ds2 h3 h4 =>
        cases h
        cases rv
        cases ru
        obtain ⟨its, r1, p1, _⟩ := I.tuple h3
        exact SeqAt.EqAt.none_tuple p1 (by omega)
      | @lst a2 vs2 ds2 h3 h4 =>
        cases h
        cases rv
        cases ru
        obtain ⟨its, r1, p1, _⟩ := I.list h3
        exact SeqAt.EqAt.none_list p1.isList (by omega)
    | bl i1 => cases hy with
      | any k1 k2 => rw [deq_any_r k1 k2] at h; cases h
      | dk h3 h4 => cases h
      | non =>
        cases h
        cases rv
        cases ru
        exact SeqAt.EqAt.bool_none _ 
      | bl i2 =>
        cases h
        cases rv
        cases ru
        exact SeqAt.EqAt.bool_bool _ _ 
      | int i2 =>
        cases h
        cases rv
        obtain ⟨tr, rfl⟩ := (show ∃ t, _ = _ from ru)
        exact SeqAt.EqAt.bool_int _ _ _ 
      | str i2 =>
        cases h
        cases rv
        obtain ⟨tr, rfl⟩ := (show ∃ t, _ = _ from ru)
        exact SeqAt.EqAt.bool_str _ _ _ 
      | @tup a2 vs2 ds2 h3 h4 =>
        cases h
        cases rv
        cases ru
        obtain ⟨its, r1, p1, _⟩ := I.tuple h3
        exact SeqAt.EqAt.bool_tuple _ p1 (by omega)
      | @lst a2 vs2 ds2 h3 h4 =>
        cases h
        cases rv
        cases ru
        obtain ⟨its, r1, p1, _⟩ := I.list h3
        exact SeqAt.EqAt.bool_list _ p1.isList (by omega)
    | int i1 => cases hy with
      | any k1 k2 => rw [deq_any_r k1 k2] at h; cases h
      | dk h3 h4 => cases h
      | non =>
        cases h
        obtain ⟨tl, rfl⟩ := (show ∃ t, _ = _ from rv)
        cases ru
        exact SeqAt.EqAt.int_none _ _ 
      | bl i2 =>
        cases h
        obtain ⟨tl, rfl⟩ := (show ∃ t, _ = _ from rv)
        cases ru
        exact SeqAt.EqAt.int_bool _ _ _ 
      | int i2 =>
        cases h
        obtain ⟨tl, rfl⟩ := (show ∃ t, _ = _ from rv)
        obtain ⟨tr, rfl⟩ := (show ∃ t, _ = _ from ru)
        exact SeqAt.EqAt.int_int _ _ _ _ 
      | str i2 =>
        cases h
        obtain ⟨tl, rfl⟩ := (show ∃ t, _ = _ from rv)
        obtain ⟨tr, rfl⟩ := (show ∃ t, _ = _ from ru)
        exact SeqAt.EqAt.int_str _ _ _ _ 
      | @tup a2 vs2 ds2 h3 h4 =>
        cases h
        obtain ⟨tl, rfl⟩ := (show ∃ t, _ = _ from rv)
        cases ru
        obtain ⟨its, r1, p1, _⟩ := I.tuple h3
        exact SeqAt.EqAt.int_tuple _ _ p1 (by omega)
      | @lst a2 vs2 ds2 h3 h4 =>
        cases h
        obtain ⟨tl, rfl⟩ := (show ∃ t, _ = _ from rv)
        cases ru
        obtain ⟨its, r1, p1, _⟩ := I.list h3
        exact SeqAt.EqAt.int_list _ _ p1.isList (by omega)
    | str i1 => cases hy with
      | any k1 k2 => rw [deq_any_r k1 k2] at h; cases h
      | dk h3 h4 => cases h
      | non =>
        cases h
        obtain ⟨tl, rfl⟩ := (show ∃ t, _ = _ from rv)
        cases ru
        exact SeqAt.EqAt.str_none _ _ 
      | bl i2 =>
        cases h
        obtain ⟨tl, rfl⟩ := (show ∃ t, _ = _ from rv)
        cases ru
        exact SeqAt.EqAt.str_bool _ _ _ 
      | int i2 =>
        cases h
        obtain ⟨tl, rfl⟩ := (show ∃ t, _ = _ from rv)
        obtain ⟨tr, rfl⟩ := (show ∃ t, _ = _ from ru)
        exact SeqAt.EqAt.str_int _ _ _ _ 
      | str i2 =>
        cases h
        obtain ⟨tl, rfl⟩ := (show ∃ t, _ = _ from rv)
        obtain ⟨tr, rfl⟩ := (show ∃ t, _ = _ from ru)
        exact SeqAt.EqAt.str_str _ _ _ _ 
      | @tup a2 vs2 ds2 h3 h4 =>
        cases h
        obtain ⟨tl, rfl⟩ := (show ∃ t, _ = _ from rv)
        cases ru
        obtain ⟨its, r1, p1, _⟩ := I.tuple h3
        exact SeqAt.EqAt.str_tuple _ _ p1 (by omega)
      | @lst a2 vs2 ds2 h3 h4 =>
        cases h
        obtain ⟨tl, rfl⟩ := (show ∃ t, _ = _ from rv)
        cases ru
        obtain ⟨its, r1, p1, _⟩ := I.list h3
        exact SeqAt.EqAt.str_list _ _ p1.isList (by omega)
    | @tup a1 vs1 ds1 h1 h2 => cases hy with
      | any k1 k2 => rw [deq_any_r k1 k2] at h; cases h
      | dk h3 h4 => cases h
      | non =>
        cases h
        cases rv
        cases ru
        obtain ⟨its, r1, p1, _⟩ := I.tuple h1
        exact SeqAt.EqAt.tuple_none p1 (by omega)
      | bl i2 =>
        cases h
        cases rv
        cases ru
        obtain ⟨its, r1, p1, _⟩ := I.tuple h1
        exact SeqAt.EqAt.tuple_bool _ p1 (by omega)
      | int i2 =>
        cases h
        cases rv
        obtain ⟨tr, rfl⟩ := (show ∃ t, _ = _ from ru)
        obtain ⟨its, r1, p1, _⟩ := I.tuple h1
        exact SeqAt.EqAt.tuple_int _ _ p1 (by omega)
      | str i2 =>
        cases h
        cases rv
        obtain ⟨tr, rfl⟩ := (show ∃ t, _ = _ from ru)
        obtain ⟨its, r1, p1, _⟩ := I.tuple h1
        exact SeqAt.EqAt.tuple_str _ _ p1 (by omega)
      | @tup a2 vs2 ds2 h3 h4 =>
        cases rv
        cases ru
        by_cases ea : a1 = a2
        · subst ea
          cases deep (.tup h3 h4) h
          exact .same _
        obtain ⟨its, r1, p1, _⟩ := I.tuple h1
        obtain ⟨its2, r2, p2, _⟩ := I.tuple h3
        have l1 := r1.length
        have l2 := r2.length
        have l3 := h2.length
        have l4 := h4.length
        unfold deq at h
        cases hs : deqs ds1 ds2 with
        | none => rw [hs] at h; cases h
        | some r =>
          rw [hs] at h
          cases h
          obtain ⟨e, he, hr⟩ := deqs_some hs
          have goal := SeqAt.RcAt.tuples (A := A) (s := s) (e := e) p1 p2 (by omega) (fun j q1 q2 => ?_)
          · rw [List.size_toArray, List.size_toArray, ← l1, ← l2, l3, l4, ← hr] at goal
            exact .of_refs ea goal
          · rw [List.size_toArray] at q1 q2
            have j1 : j < vs1.length := by omega
            have j2 : j < vs2.length := by omega
            obtain ⟨x', hx', g1⟩ := h2.at (List.getElem?_eq_getElem j1)
            obtain ⟨y', hy', g2⟩ := h4.at (List.getElem?_eq_getElem j2)
            obtain ⟨w1, e1, g3⟩ := r1.get (List.getElem?_eq_getElem j1)
            obtain ⟨w2, e2, g4⟩ := r2.get (List.getElem?_eq_getElem j2)
            have e1' : its.toArray[j] = w1 := by
              rw [List.getElem?_eq_getElem q1] at e1
              simpa using e1
            have e2' : its2.toArray[j] = w2 := by
              rw [List.getElem?_eq_getElem q2] at e2
              simpa using e2
            rw [e1', e2']
            have hdep := depths_mem hx'
            unfold depth at hn
            exact ih (by omega) (by have := nd; unfold noDk at this; exact noDks_mem this hx') g1 g2 (he j x' y' hx' hy') g3 g4 A.in1 (by show A.units + 1 + n < cLine; omega)
      | @lst a2 vs2 ds2 h3 h4 =>
        cases h
        cases rv
        cases ru
        obtain ⟨its, r1, p1, _⟩ := I.tuple h1
        obtain ⟨its2, r2, p2, _⟩ := I.list h3
        exact SeqAt.EqAt.tuple_list p1 p2.isList (by omega)
    | @lst a1 vs1 ds1 h1 h2 => cases hy with
      | any k1 k2 => rw [deq_any_r k1 k2] at h; cases h
      | dk h3 h4 => cases h
      | non =>
        cases h
        cases rv
        cases ru
        obtain ⟨its, r1, p1, _⟩ := I.list h1
        exact SeqAt.EqAt.list_none p1.isList (by omega)
      | bl i2 =>
        cases h
        cases rv
        cases ru
        obtain ⟨its, r1, p1, _⟩ := I.list h1
        exact SeqAt.EqAt.list_bool _ p1.isList (by omega)
      | int i2 =>
        cases h
        cases rv
        obtain ⟨tr, rfl⟩ := (show ∃ t, _ = _ from ru)
        obtain ⟨its, r1, p1, _⟩ := I.list h1
        exact SeqAt.EqAt.list_int _ _ p1.isList (by omega)
      | str i2 =>
        cases h
        cases rv
        obtain ⟨tr, rfl⟩ := (show ∃ t, _ = _ from ru)
        obtain ⟨its, r1, p1, _⟩ := I.list h1
        exact SeqAt.EqAt.list_str _ _ p1.isList (by omega)
      | @tup a2 vs2 ds2 h3 h4 =>
        cases h
        cases rv
        cases ru
        obtain ⟨its, r1, p1, _⟩ := I.list h1
        obtain ⟨its2, r2, p2, _⟩ := I.tuple h3
        exact SeqAt.EqAt.list_tuple p1.isList p2 (by omega)
      | @lst a2 vs2 ds2 h3 h4 =>
        cases rv
        cases ru
        by_cases ea : a1 = a2
        · subst ea
          cases deep (.lst h3 h4) h
          exact .same _
        obtain ⟨its, r1, p1, _⟩ := I.list h1
        obtain ⟨its2, r2, p2, _⟩ := I.list h3
        have l1 := r1.length
        have l2 := r2.length
        have l3 := h2.length
        have l4 := h4.length
        unfold deq at h
        by_cases el : ds1.length = ds2.length
        · rw [if_pos el] at h
          obtain ⟨e, he, hr⟩ := deqs_some h
          have goal := SeqAt.RcAt.lists (A := A) (s := s) (e := e) p1.isList p2.isList (by rw [List.size_toArray, List.size_toArray]; omega) (by omega) (fun j q1 q2 => ?_)
          · rw [List.size_toArray, ← l1, l3] at goal
            rw [← el, Nat.min_self] at hr
            rw [hr]
            exact .of_refs ea goal
          · rw [List.size_toArray] at q1 q2
            have j1 : j < vs1.length := by omega
            have j2 : j < vs2.length := by omega
            obtain ⟨x', hx', g1⟩ := h2.at (List.getElem?_eq_getElem j1)
            obtain ⟨y', hy', g2⟩ := h4.at (List.getElem?_eq_getElem j2)
            obtain ⟨w1, e1, g3⟩ := r1.get (List.getElem?_eq_getElem j1)
            obtain ⟨w2, e2, g4⟩ := r2.get (List.getElem?_eq_getElem j2)
            have e1' : its.toArray[j] = w1 := by
              rw [List.getElem?_eq_getElem q1] at e1
              simpa using e1
            have e2' : its2.toArray[j] = w2 := by
              rw [List.getElem?_eq_getElem q2] at e2
              simpa using e2
            rw [e1', e2']
            have hdep := depths_mem hx'
            unfold depth at hn
            exact ih (by omega) (by have := nd; unfold noDk at this; exact noDks_mem this hx') g1 g2 (he j x' y' hx' hy') g3 g4 A.in1 (by show A.units + 1 + n < cLine; omega)
        · rw [if_neg el] at h
          cases h
          exact .of_refs ea (SeqAt.RcAt.lists_lengths p1.isList p2.isList (by rw [List.size_toArray, List.size_toArray, bne_iff_ne]; omega) (by omega))
theorem hd_rc (I : Inv X pins σ H s) (n : Nat) {x y : D} {v u : V} {v' u' : Value} {b : Bool} (hn : depth x < n + 1) (nd : noDk x = true) (hx : Hd X.K H v x) (hy : Hd X.K H u y) (h : deq x y = some b) (rv : RelV v v') (ru : RelV u u') (A : Around) (hu : A.units + (n + 1) < cLine) : SeqAt.RcAt A s v' u' b := by
    cases hx with
    | any k1 k2 => rw [deq_any_l k1 k2] at h; cases h
    | dk h1 h2 => cases nd
    | non => cases hy with
      | any k1 k2 => rw [deq_any_r k1 k2] at h; cases h
      | dk h3 h4 => cases h
      | non =>
        cases h
        cases rv
        cases ru
        exact SeqAt.RcAt.none_none
      | bl i2 =>
        cases h
        cases rv
        cases ru
        exact SeqAt.RcAt.none_bool _ 
      | int i2 =>
        cases h
        cases rv
        obtain ⟨tr, rfl⟩ := (show ∃ t, _ = _ from ru)
        exact SeqAt.RcAt.none_int _ _ 
      | str i2 =>
        cases h
        cases rv
        obtain ⟨tr, rfl⟩ := (show ∃ t, _ = _ from ru)
        exact SeqAt.RcAt.none_str _ _ 
      | @tup a2 vs2 ds2 h3 h4 =>
        cases h
        cases rv
        cases ru
        obtain ⟨its, r1, p1, _⟩ := I.tuple h3
        exact SeqAt.RcAt.none_tuple p1 (by omega)
      | @lst a2 vs2 ds2 h3 h4 =>
        cases h
        cases rv
        cases ru
        obtain ⟨its, r1, p1, _⟩ := I.list h3
        exact SeqAt.RcAt.none_list p1.isList (by omega)
    | bl i1 => cases hy with
      | any k1 k2 => rw [deq_any_r k1 k2] at h; cases h
      | dk h3 h4 => cases h
      | non =>
        cases h
        cases rv
        cases ru
        exact SeqAt.RcAt.bool_none _ 
      | bl i2 =>
        cases h
        cases rv
        cases ru
        exact SeqAt.RcAt.bool_bool _ _ 
      | int i2 =>
        cases h
        cases rv
        obtain ⟨tr, rfl⟩ := (show ∃ t, _ = _ from ru)
        exact SeqAt.RcAt.bool_int _ _ _ 
      | str i2 =>
        cases h
        cases rv
        obtain ⟨tr, rfl⟩ := (show ∃ t, _ = _ from ru)
        exact SeqAt.RcAt.bool_str _ _ _ 
      | @tup a2 vs2 ds2 h3 h4 =>
        cases h
        cases rv
        cases ru
        obtain ⟨its, r1, p1, _⟩ := I.tuple h3
        exact SeqAt.RcAt.bool_tuple _ p1 (by omega)
      | @lst a2 vs2 ds2 h3 h4 =>
        cases h
        cases rv
        cases ru
        obtain ⟨its, r1, p1, _⟩ := I.list h3
        exact SeqAt.RcAt.bool_list _ p1.isList (by omega)
    | int i1 => cases hy with
      | any k1 k2 => rw [deq_any_r k1 k2] at h; cases h
      | dk h3 h4 => cases h
      | non =>
        cases h
        obtain ⟨tl, rfl⟩ := (show ∃ t, _ = _ from rv)
        cases ru
        exact SeqAt.RcAt.int_none _ _ 
      | bl i2 =>
        cases h
        obtain ⟨tl, rfl⟩ := (show ∃ t, _ = _ from rv)
        cases ru
        exact SeqAt.RcAt.int_bool _ _ _ 
      | int i2 =>
        cases h
        obtain ⟨tl, rfl⟩ := (show ∃ t, _ = _ from rv)
        obtain ⟨tr, rfl⟩ := (show ∃ t, _ = _ from ru)
        exact SeqAt.RcAt.int_int _ _ _ _ 
      | str i2 =>
        cases h
        obtain ⟨tl, rfl⟩ := (show ∃ t, _ = _ from rv)
        obtain ⟨tr, rfl⟩ := (show ∃ t, _ = _ from ru)
        exact SeqAt.RcAt.int_str _ _ _ _ 
      | @tup a2 vs2 ds2 h3 h4 =>
        cases h
        obtain ⟨tl, rfl⟩ := (show ∃ t, _ = _ from rv)
        cases ru
        obtain ⟨its, r1, p1, _⟩ := I.tuple h3
        exact SeqAt.RcAt.int_tuple _ _ p1 (by omega)
      | @lst a2 vs2 ds2 h3 h4 =>
        cases h
        obtain ⟨tl, rfl⟩ := (show ∃ t, _ = _ from rv)
        cases ru
        obtain ⟨its, r1, p1, _⟩ := I.list h3
        exact SeqAt.RcAt.int_list _ _ p1.isList (by omega)
    | str i1 => cases hy with
      | any k1 k2 => rw [deq_any_r k1 k2] at h; cases h
      | dk h3 h4 => cases h
      | non =>
        cases h
        obtain ⟨tl, rfl⟩ := (show ∃ t, _ = _ from rv)
        cases ru
        exact SeqAt.RcAt.str_none _ _ 
      | bl i2 =>
        cases h
        obtain ⟨tl, rfl⟩ := (show ∃ t, _ = _ from rv)
        cases ru
        exact SeqAt.RcAt.str_bool _ _ _ 
      | int i2 =>
        cases h
        obtain ⟨tl, rfl⟩ := (show ∃ t, _ = _ from rv)
        obtain ⟨tr, rfl⟩ := (show ∃ t, _ = _ from ru)
        exact SeqAt.RcAt.str_int _ _ _ _ 
      | str i2 =>
        cases h
        obtain ⟨tl, rfl⟩ := (show ∃ t, _ = _ from rv)
        obtain ⟨tr, rfl⟩ := (show ∃ t, _ = _ from ru)
        exact SeqAt.RcAt.str_str _ _ _ _ 
      | @tup a2 vs2 ds2 h3 h4 =>
        cases h
        obtain ⟨tl, rfl⟩ := (show ∃ t, _ = _ from rv)
        cases ru
        obtain ⟨its, r1, p1, _⟩ := I.tuple h3
        exact SeqAt.RcAt.str_tuple _ _ p1 (by omega)
      | @lst a2 vs2 ds2 h3 h4 =>
        cases h
        obtain ⟨tl, rfl⟩ := (show ∃ t, _ = _ from rv)
        cases ru
        obtain ⟨its, r1, p1, _⟩ := I.list h3
        exact SeqAt.RcAt.str_list _ _ p1.isList (by omega)
    | @tup a1 vs1 ds1 h1 h2 => cases hy with
      | any k1 k2 => rw [deq_any_r k1 k2] at h; cases h
      | dk h3 h4 => cases h
      | non =>
        cases h
        cases rv
        cases ru
        obtain ⟨its, r1, p1, _⟩ := I.tuple h1
        exact SeqAt.RcAt.tuple_none p1 (by omega)
      | bl i2 =>
        cases h
        cases rv
        cases ru
        obtain ⟨its, r1, p1, _⟩ := I.tuple h1
        exact SeqAt.RcAt.tuple_bool _ p1 (by omega)
      | int i2 =>
        cases h
        cases rv
        obtain ⟨tr, rfl⟩ := (show ∃ t, _ = _ from ru)
        obtain ⟨its, r1, p1, _⟩ := I.tuple h1
        exact SeqAt.RcAt.tuple_int _ _ p1 (by omega)
      | str i2 =>
        cases h
        cases rv
        obtain ⟨tr, rfl⟩ := (show ∃ t, _ = _ from ru)
        obtain ⟨its, r1, p1, _⟩ := I.tuple h1
        exact SeqAt.RcAt.tuple_str _ _ p1 (by omega)
      | @tup a2 vs2 ds2 h3 h4 =>
        cases rv
        cases ru
        obtain ⟨its, r1, p1, _⟩ := I.tuple h1
        obtain ⟨its2, r2, p2, _⟩ := I.tuple h3
        have l1 := r1.length
        have l2 := r2.length
        have l3 := h2.length
        have l4 := h4.length
        unfold deq at h
        cases hs : deqs ds1 ds2 with
        | none => rw [hs] at h; cases h
        | some r =>
          rw [hs] at h
          cases h
          obtain ⟨e, he, hr⟩ := deqs_some hs
          have goal := SeqAt.RcAt.tuples (A := A) (s := s) (e := e) p1 p2 (by omega) (fun j q1 q2 => ?_)
          · rw [List.size_toArray, List.size_toArray, ← l1, ← l2, l3, l4, ← hr] at goal
            exact goal
          · rw [List.size_toArray] at q1 q2
            have j1 : j < vs1.length := by omega
            have j2 : j < vs2.length := by omega
            obtain ⟨x', hx', g1⟩ := h2.at (List.getElem?_eq_getElem j1)
            obtain ⟨y', hy', g2⟩ := h4.at (List.getElem?_eq_getElem j2)
            obtain ⟨w1, e1, g3⟩ := r1.get (List.getElem?_eq_getElem j1)
            obtain ⟨w2, e2, g4⟩ := r2.get (List.getElem?_eq_getElem j2)
            have e1' : its.toArray[j] = w1 := by
              rw [List.getElem?_eq_getElem q1] at e1
              simpa using e1
            have e2' : its2.toArray[j] = w2 := by
              rw [List.getElem?_eq_getElem q2] at e2
              simpa using e2
            rw [e1', e2']
            have hdep := depths_mem hx'
            unfold depth at hn
            exact hd_at I n (by omega) (by have := nd; unfold noDk at this; exact noDks_mem this hx') g1 g2 (he j x' y' hx' hy') g3 g4 A.in1 (by show A.units + 1 + n < cLine; omega)
      | @lst a2 vs2 ds2 h3 h4 =>
        cases h
        cases rv
        cases ru
        obtain ⟨its, r1, p1, _⟩ := I.tuple h1
        obtain ⟨its2, r2, p2, _⟩ := I.list h3
        exact SeqAt.RcAt.tuple_list p1 p2.isList (by omega)
    | @lst a1 vs1 ds1 h1 h2 => cases hy with
      | any k1 k2 => rw [deq_any_r k1 k2] at h; cases h
      | dk h3 h4 => cases h
      | non =>
        cases h
        cases rv
        cases ru
        obtain ⟨its, r1, p1, _⟩ := I.list h1
        exact SeqAt.RcAt.list_none p1.isList (by omega)
      | bl i2 =>
        cases h
        cases rv
        cases ru
        obtain ⟨its, r1, p1, _⟩ := I.list h1
        exact SeqAt.RcAt.list_bool _ p1.isList (by omega)
      | int i2 =>
        cases h
        cases rv
        obtain ⟨tr, rfl⟩ := (show ∃ t, _ = _ from ru)
        obtain ⟨its, r1, p1, _⟩ := I.list h1
        exact SeqAt.RcAt.list_int _ _ p1.isList (by omega)
      | str i2 =>
        cases h
        cases rv
        obtain ⟨tr, rfl⟩ := (show ∃ t, _ = _ from ru)
        obtain ⟨its, r1, p1, _⟩ := I.list h1
        exact SeqAt.RcAt.list_str _ _ p1.isList (by omega)
      | @tup a2 vs2 ds2 h3 h4 =>
        cases h
        cases rv
        cases ru
        obtain ⟨its, r1, p1, _⟩ := I.list h1
        obtain ⟨its2, r2, p2, _⟩ := I.tuple h3
        exact SeqAt.RcAt.list_tuple p1.isList p2 (by omega)
      | @lst a2 vs2 ds2 h3 h4 =>
        cases rv
        cases ru
        obtain ⟨its, r1, p1, _⟩ := I.list h1
        obtain ⟨its2, r2, p2, _⟩ := I.list h3
        have l1 := r1.length
        have l2 := r2.length
        have l3 := h2.length
        have l4 := h4.length
        unfold deq at h
        by_cases el : ds1.length = ds2.length
        · rw [if_pos el] at h
          obtain ⟨e, he, hr⟩ := deqs_some h
          have goal := SeqAt.RcAt.lists (A := A) (s := s) (e := e) p1.isList p2.isList (by rw [List.size_toArray, List.size_toArray]; omega) (by omega) (fun j q1 q2 => ?_)
          · rw [List.size_toArray, ← l1, l3] at goal
            rw [← el, Nat.min_self] at hr
            rw [hr]
            exact goal
          · rw [List.size_toArray] at q1 q2
            have j1 : j < vs1.length := by omega
            have j2 : j < vs2.length := by omega
            obtain ⟨x', hx', g1⟩ := h2.at (List.getElem?_eq_getElem j1)
            obtain ⟨y', hy', g2⟩ := h4.at (List.getElem?_eq_getElem j2)
            obtain ⟨w1, e1, g3⟩ := r1.get (List.getElem?_eq_getElem j1)
            obtain ⟨w2, e2, g4⟩ := r2.get (List.getElem?_eq_getElem j2)
            have e1' : its.toArray[j] = w1 := by
              rw [List.getElem?_eq_getElem q1] at e1
              simpa using e1
            have e2' : its2.toArray[j] = w2 := by
              rw [List.getElem?_eq_getElem q2] at e2
              simpa using e2
            rw [e1', e2']
            have hdep := depths_mem hx'
            unfold depth at hn
            exact hd_at I n (by omega) (by have := nd; unfold noDk at this; exact noDks_mem this hx') g1 g2 (he j x' y' hx' hy') g3 g4 A.in1 (by show A.units + 1 + n < cLine; omega)
        · rw [if_neg el] at h
          cases h
          exact SeqAt.RcAt.lists_lengths p1.isList p2.isList (by rw [List.size_toArray, List.size_toArray, bne_iff_ne]; omega) (by omega)
theorem hd_ne (I : Inv X pins σ H s) (n : Nat) {x y : D} {v u : V} {v' u' : Value} {b : Bool} (hn : depth x < n + 1) (nd : noDk x = true) (hx : Hd X.K H v x) (hy : Hd X.K H u y) (h : deq x y = some b) (rv : RelV v v') (ru : RelV u u') (A : Around) (hu : A.units + (n + 1) < cLine) : SeqAt.RcNeAt A s v' u' (!b) := by
    cases hx with
    | any k1 k2 => rw [deq_any_l k1 k2] at h; cases h
    | dk h1 h2 => cases nd
    | non => cases hy with
      | any k1 k2 => rw [deq_any_r k1 k2] at h; cases h
      | dk h3 h4 => cases h
      | non =>
        cases h
        cases rv
        cases ru
        exact SeqAt.RcNeAt.none_none
      | bl i2 =>
        cases h
        cases rv
        cases ru
        exact SeqAt.RcNeAt.none_bool _ 
      | int i2 =>
        cases h
        cases rv
        obtain ⟨tr, rfl⟩ := (show ∃ t, _ = _ from ru)
        exact SeqAt.RcNeAt.none_int _ _ 
      | str i2 =>
        cases h
        cases rv
        obtain ⟨tr, rfl⟩ := (show ∃ t, _ = _ from ru)
        exact SeqAt.RcNeAt.none_str _ _ 
      | @tup a2 vs2 ds2 h3 h4 =>
        cases h
        cases rv
        cases ru
        obtain ⟨its, r1, p1, _⟩ := I.tuple h3
        exact SeqAt.RcNeAt.none_tuple p1 (by omega)
      | @lst a2 vs2 ds2 h3 h4 =>
        cases h
        cases rv
        cases ru
        obtain ⟨its, r1, p1, _⟩ := I.list h3
        exact SeqAt.RcNeAt.none_list p1.isList (by omega)
    | bl i1 => cases hy with
      | any k1 k2 => rw [deq_any_r k1 k2] at h; cases h
      | dk h3 h4 => cases h
      | non =>
        cases h
        cases rv
        cases ru
        exact SeqAt.RcNeAt.bool_none _ 
      | bl i2 =>
        cases h
        cases rv
        cases ru
        exact SeqAt.RcNeAt.bool_bool _ _ 
      | int i2 =>
        cases h
        cases rv
        obtain ⟨tr, rfl⟩ := (show ∃ t, _ = _ from ru)
        exact SeqAt.RcNeAt.bool_int _ _ _ 
      | str i2 =>
        cases h
        cases rv
        obtain ⟨tr, rfl⟩ := (show ∃ t, _ = _ from ru)
        exact SeqAt.RcNeAt.bool_str _ _ _ 
      | @tup a2 vs2 ds2 h3 h4 =>
        cases h
        cases rv
        cases ru
        obtain ⟨its, r1, p1, _⟩ := I.tuple h3
        exact SeqAt.RcNeAt.bool_tuple _ p1 (by omega)
      | @lst a2 vs2 ds2 h3 h4 =>
        cases h
        cases rv
        cases ru
        obtain ⟨its, r1, p1, _⟩ := I.list h3
        exact SeqAt.RcNeAt.bool_list _ p1.isList (by omega)
    | int i1 => cases hy with
      | any k1 k2 => rw [deq_any_r k1 k2] at h; cases h
      | dk h3 h4 => cases h
      | non =>
        cases h
        obtain ⟨tl, rfl⟩ := (show ∃ t, _ = _ from rv)
        cases ru
        exact SeqAt.RcNeAt.int_none _ _ 
      | bl i2 =>
        cases h
        obtain ⟨tl, rfl⟩ := (show ∃ t, _ = _ from rv)
        cases ru
        exact SeqAt.RcNeAt.int_bool _ _ _ 
      | int i2 =>
        cases h
        obtain ⟨tl, rfl⟩ := (show ∃ t, _ = _ from rv)
        obtain ⟨tr, rfl⟩ := (show ∃ t, _ = _ from ru)
        exact SeqAt.RcNeAt.int_int _ _ _ _ 
      | str i2 =>
        cases h
        obtain ⟨tl, rfl⟩ := (show ∃ t, _ = _ from rv)
        obtain ⟨tr, rfl⟩ := (show ∃ t, _ = _ from ru)
        exact SeqAt.RcNeAt.int_str _ _ _ _ 
      | @tup a2 vs2 ds2 h3 h4 =>
        cases h
        obtain ⟨tl, rfl⟩ := (show ∃ t, _ = _ from rv)
        cases ru
        obtain ⟨its, r1, p1, _⟩ := I.tuple h3
        exact SeqAt.RcNeAt.int_tuple _ _ p1 (by omega)
      | @lst a2 vs2 ds2 h3 h4 =>
        cases h
        obtain ⟨tl, rfl⟩ := (show ∃ t, _ = _ from rv)
        cases ru
        obtain ⟨its, r1, p1, _⟩ := I.list h3
        exact SeqAt.RcNeAt.int_list _ _ p1.isList (by omega)
    | str i1 => cases hy with
      | any k1 k2 => rw [deq_any_r k1 k2] at h; cases h
      | dk h3 h4 => cases h
      | non =>
        cases h
        obtain ⟨tl, rfl⟩ := (show ∃ t, _ = _ from rv)
        cases ru
        exact SeqAt.RcNeAt.str_none _ _ 
      | bl i2 =>
        cases h
        obtain ⟨tl, rfl⟩ := (show ∃ t, _ = _ from rv)
        cases ru
        exact SeqAt.RcNeAt.str_bool _ _ _ 
      | int i2 =>
        cases h
        obtain ⟨tl, rfl⟩ := (show ∃ t, _ = _ from rv)
        obtain ⟨tr, rfl⟩ := (show ∃ t, _ = _ from ru)
        exact SeqAt.RcNeAt.str_int _ _ _ _ 
      | str i2 =>
        cases h
        obtain ⟨tl, rfl⟩ := (show ∃ t, _ = _ from rv)
        obtain ⟨tr, rfl⟩ := (show ∃ t, _ = _ from ru)
        exact SeqAt.RcNeAt.str_str _ _ _ _ 
      | @tup a2 vs2 ds2 h3 h4 =>
        cases h
        obtain ⟨tl, rfl⟩ := (show ∃ t, _ = _ from rv)
        cases ru
        obtain ⟨its, r1, p1, _⟩ := I.tuple h3
        exact SeqAt.RcNeAt.str_tuple _ _ p1 (by omega)
      | @lst a2 vs2 ds2 h3 h4 =>
        cases h
        obtain ⟨tl, rfl⟩ := (show ∃ t, _ = _ from rv)
        cases ru
        obtain ⟨its, r1, p1, _⟩ := I.list h3
        exact SeqAt.RcNeAt.str_list _ _ p1.isList (by omega)
    | @tup a1 vs1 ds1 h1 h2 => cases hy with
      | any k1 k2 => rw [deq_any_r k1 k2] at h; cases h
      | dk h3 h4 => cases h
      | non =>
        cases h
        cases rv
        cases ru
        obtain ⟨its, r1, p1, _⟩ := I.tuple h1
        exact SeqAt.RcNeAt.tuple_none p1 (by omega)
      | bl i2 =>
        cases h
        cases rv
        cases ru
        obtain ⟨its, r1, p1, _⟩ := I.tuple h1
        exact SeqAt.RcNeAt.tuple_bool _ p1 (by omega)
      | int i2 =>
        cases h
        cases rv
        obtain ⟨tr, rfl⟩ := (show ∃ t, _ = _ from ru)
        obtain ⟨its, r1, p1, _⟩ := I.tuple h1
        exact SeqAt.RcNeAt.tuple_int _ _ p1 (by omega)
      | str i2 =>
        cases h
        cases rv
        obtain ⟨tr, rfl⟩ := (show ∃ t, _ = _ from ru)
        obtain ⟨its, r1, p1, _⟩ := I.tuple h1
        exact SeqAt.RcNeAt.tuple_str _ _ p1 (by omega)
      | @tup a2 vs2 ds2 h3 h4 =>
        cases rv
        cases ru
        obtain ⟨its, r1, p1, _⟩ := I.tuple h1
        obtain ⟨its2, r2, p2, _⟩ := I.tuple h3
        have l1 := r1.length
        have l2 := r2.length
        have l3 := h2.length
        have l4 := h4.length
        unfold deq at h
        cases hs : deqs ds1 ds2 with
        | none => rw [hs] at h; cases h
        | some r =>
          rw [hs] at h
          cases h
          obtain ⟨e, he, hr⟩ := deqs_some hs
          have goal := SeqAt.RcNeAt.tuples (A := A) (s := s) (e := e) p1 p2 (by omega) (fun j q1 q2 => ?_)
          · rw [List.size_toArray, List.size_toArray, ← l1, ← l2, l3, l4, ← hr] at goal
            exact goal
          · rw [List.size_toArray] at q1 q2
            have j1 : j < vs1.length := by omega
            have j2 : j < vs2.length := by omega
            obtain ⟨x', hx', g1⟩ := h2.at (List.getElem?_eq_getElem j1)
            obtain ⟨y', hy', g2⟩ := h4.at (List.getElem?_eq_getElem j2)
            obtain ⟨w1, e1, g3⟩ := r1.get (List.getElem?_eq_getElem j1)
            obtain ⟨w2, e2, g4⟩ := r2.get (List.getElem?_eq_getElem j2)
            have e1' : its.toArray[j] = w1 := by
              rw [List.getElem?_eq_getElem q1] at e1
              simpa using e1
            have e2' : its2.toArray[j] = w2 := by
              rw [List.getElem?_eq_getElem q2] at e2
              simpa using e2
            rw [e1', e2']
            have hdep := depths_mem hx'
            unfold depth at hn
            exact hd_at I n (by omega) (by have := nd; unfold noDk at this; exact noDks_mem this hx') g1 g2 (he j x' y' hx' hy') g3 g4 A.in1 (by show A.units + 1 + n < cLine; omega)
      | @lst a2 vs2 ds2 h3 h4 =>
        cases h
        cases rv
        cases ru
        obtain ⟨its, r1, p1, _⟩ := I.tuple h1
        obtain ⟨its2, r2, p2, _⟩ := I.list h3
        exact SeqAt.RcNeAt.tuple_list p1 p2.isList (by omega)
    | @lst a1 vs1 ds1 h1 h2 => cases hy with
      | any k1 k2 => rw [deq_any_r k1 k2] at h; cases h
      | dk h3 h4 => cases h
      | non =>
        cases h
        cases rv
        cases ru
        obtain ⟨its, r1, p1, _⟩ := I.list h1
        exact SeqAt.RcNeAt.list_none p1.isList (by omega)
      | bl i2 =>
        cases h
        cases rv
        cases ru
        obtain ⟨its, r1, p1, _⟩ := I.list h1
        exact SeqAt.RcNeAt.list_bool _ p1.isList (by omega)
      | int i2 =>
        cases h
        cases rv
        obtain ⟨tr, rfl⟩ := (show ∃ t, _ = _ from ru)
        obtain ⟨its, r1, p1, _⟩ := I.list h1
        exact SeqAt.RcNeAt.list_int _ _ p1.isList (by omega)
      | str i2 =>
        cases h
        cases rv
        obtain ⟨tr, rfl⟩ := (show ∃ t, _ = _ from ru)
        obtain ⟨its, r1, p1, _⟩ := I.list h1
        exact SeqAt.RcNeAt.list_str _ _ p1.isList (by omega)
      | @tup a2 vs2 ds2 h3 h4 =>
        cases h
        cases rv
        cases ru
        obtain ⟨its, r1, p1, _⟩ := I.list h1
        obtain ⟨its2, r2, p2, _⟩ := I.tuple h3
        exact SeqAt.RcNeAt.list_tuple p1.isList p2 (by omega)
      | @lst a2 vs2 ds2 h3 h4 =>
        cases rv
        cases ru
        obtain ⟨its, r1, p1, _⟩ := I.list h1
        obtain ⟨its2, r2, p2, _⟩ := I.list h3
        have l1 := r1.length
        have l2 := r2.length
        have l3 := h2.length
        have l4 := h4.length
        unfold deq at h
        by_cases el : ds1.length = ds2.length
        · rw [if_pos el] at h
          obtain ⟨e, he, hr⟩ := deqs_some h
          have goal := SeqAt.RcNeAt.lists (A := A) (s := s) (e := e) p1.isList p2.isList (by rw [List.size_toArray, List.size_toArray]; omega) (by omega) (fun j q1 q2 => ?_)
          · rw [List.size_toArray, ← l1, l3] at goal
            rw [← el, Nat.min_self] at hr
            rw [hr]
            exact goal
          · rw [List.size_toArray] at q1 q2
            have j1 : j < vs1.length := by omega
            have j2 : j < vs2.length := by omega
            obtain ⟨x', hx', g1⟩ := h2.at (List.getElem?_eq_getElem j1)
            obtain ⟨y', hy', g2⟩ := h4.at (List.getElem?_eq_getElem j2)
            obtain ⟨w1, e1, g3⟩ := r1.get (List.getElem?_eq_getElem j1)
            obtain ⟨w2, e2, g4⟩ := r2.get (List.getElem?_eq_getElem j2)
            have e1' : its.toArray[j] = w1 := by
              rw [List.getElem?_eq_getElem q1] at e1
              simpa using e1
            have e2' : its2.toArray[j] = w2 := by
              rw [List.getElem?_eq_getElem q2] at e2
              simpa using e2
            rw [e1', e2']
            have hdep := depths_mem hx'
            unfold depth at hn
            exact hd_at I n (by omega) (by have := nd; unfold noDk at this; exact noDks_mem this hx') g1 g2 (he j x' y' hx' hy') g3 g4 A.in1 (by show A.units + 1 + n < cLine; omega)
        · rw [if_neg el] at h
          cases h
          exact SeqAt.RcNeAt.lists_lengths p1.isList p2.isList (by rw [List.size_toArray, List.size_toArray, bne_iff_ne]; omega) (by omega)
end
end DL
end
section
set_option Elab.async false
set_option linter.all false
set_option maxRecDepth 100000
set_option maxHeartbeats 4000000
set_option autoImplicit false
/-! DLL: the rules for == and !=. -/
namespace DL
open PySem PySem.Spec L2
open PyProof.Rows hiding St
section
variable {X : Cx} {pins : List (Addr × Obj)} {σ : St} {H : Hp} {s : Shared}
theorem hd_top (I : Inv X pins σ H s) (n : Nat) {x y : D} {v u : V} {v' u' : Value} {b : Bool} (hn : depth x < n + 1) (hx : Hd X.K H v x) (hy : Hd X.K H u y) (h : deq x y = some b) (rv : RelV v v') (ru : RelV u u') (A : Around) (hu : A.units + (n + 1) < cLine)
    (E Q : Value → Shared → Prop) (q : Q (.bool b) s) : wpAny (model X.prog X.w) A (compareOp .Eq v' u') Q E s := by
    cases hx with
    | any k1 k2 => rw [deq_any_l k1 k2] at h; cases h
    | non => cases hy with
      | any k1 k2 => rw [deq_any_r k1 k2] at h; cases h
      | dk h3 h4 => cases h
      | non =>
        cases h
        cases rv
        cases ru
        exact (SeqAt.RcAt.none_none) _ _ _ _ q
      | bl i2 =>
        cases h
        cases rv
        cases ru
        exact (SeqAt.RcAt.none_bool _) _ _ _ _ q
      | int i2 =>
        cases h
        cases rv
        obtain ⟨tr, rfl⟩ := (show ∃ t, _ = _ from ru)
        exact (SeqAt.RcAt.none_int _ _) _ _ _ _ q
      | str i2 =>
        cases h
        cases rv
        obtain ⟨tr, rfl⟩ := (show ∃ t, _ = _ from ru)
        exact (SeqAt.RcAt.none_str _ _) _ _ _ _ q
      | @tup a2 vs2 ds2 h3 h4 =>
        cases h
        cases rv
        cases ru
        obtain ⟨its, r1, p1, _⟩ := I.tuple h3
        exact (SeqAt.RcAt.none_tuple p1 (by omega)) _ _ _ _ q
      | @lst a2 vs2 ds2 h3 h4 =>
        cases h
        cases rv
        cases ru
        obtain ⟨its, r1, p1, _⟩ := I.list h3
        exact (SeqAt.RcAt.none_list p1.isList (by omega)) _ _ _ _ q
    | bl i1 => cases hy with
      | any k1 k2 => rw [deq_any_r k1 k2] at h; cases h
      | dk h3 h4 => cases h
      | non =>
        cases h
        cases rv
        cases ru
        exact (SeqAt.RcAt.bool_none _) _ _ _ _ q
      | bl i2 =>
        cases h
        cases rv
        cases ru
        exact (SeqAt.RcAt.bool_bool _ _) _ _ _ _ q
      | int i2 =>
        cases h
        cases rv
        obtain ⟨tr, rfl⟩ := (show ∃ t, _ = _ from ru)
        exact (SeqAt.RcAt.bool_int _ _ _) _ _ _ _ q
      | str i2 =>
        cases h
        cases rv
        obtain ⟨tr, rfl⟩ := (show ∃ t, _ = _ from ru)
        exact (SeqAt.RcAt.bool_str _ _ _) _ _ _ _ q
      | @tup a2 vs2 ds2 h3 h4 =>
        cases h
        cases rv
        cases ru
        obtain ⟨its, r1, p1, _⟩ := I.tuple h3
        exact (SeqAt.RcAt.bool_tuple _ p1 (by omega)) _ _ _ _ q
      | @lst a2 vs2 ds2 h3 h4 =>
        cases h
        cases rv
        cases ru
        obtain ⟨its, r1, p1, _⟩ := I.list h3
        exact (SeqAt.RcAt.bool_list _ p1.isList (by omega)) _ _ _ _ q
    | int i1 => cases hy with
      | any k1 k2 => rw [deq_any_r k1 k2] at h; cases h
      | dk h3 h4 => cases h
      | non =>
        cases h
        obtain ⟨tl, rfl⟩ := (show ∃ t, _ = _ from rv)
        cases ru
        exact (SeqAt.RcAt.int_none _ _) _ _ _ _ q
      | bl i2 =>
        cases h
        obtain ⟨tl, rfl⟩ := (show ∃ t, _ = _ from rv)
        cases ru
        exact (SeqAt.RcAt.int_bool _ _ _) _ _ _ _ q
      | int i2 =>
        cases h
        obtain ⟨tl, rfl⟩ := (show ∃ t, _ = _ from rv)
        obtain ⟨tr, rfl⟩ := (show ∃ t, _ = _ from ru)
        exact (SeqAt.RcAt.int_int _ _ _ _) _ _ _ _ q
      | str i2 =>
        cases h
        obtain ⟨tl, rfl⟩ := (show ∃ t, _ = _ from rv)
        obtain ⟨tr, rfl⟩ := (show ∃ t, _ = _ from ru)
        exact (SeqAt.RcAt.int_str _ _ _ _) _ _ _ _ q
      | @tup a2 vs2 ds2 h3 h4 =>
        cases h
        obtain ⟨tl, rfl⟩ := (show ∃ t, _ = _ from rv)
        cases ru
        obtain ⟨its, r1, p1, _⟩ := I.tuple h3
        exact (SeqAt.RcAt.int_tuple _ _ p1 (by omega)) _ _ _ _ q
      | @lst a2 vs2 ds2 h3 h4 =>
        cases h
        obtain ⟨tl, rfl⟩ := (show ∃ t, _ = _ from rv)
        cases ru
        obtain ⟨its, r1, p1, _⟩ := I.list h3
        exact (SeqAt.RcAt.int_list _ _ p1.isList (by omega)) _ _ _ _ q
    | str i1 => cases hy with
      | any k1 k2 => rw [deq_any_r k1 k2] at h; cases h
      | dk h3 h4 => cases h
      | non =>
        cases h
        obtain ⟨tl, rfl⟩ := (show ∃ t, _ = _ from rv)
        cases ru
        exact (SeqAt.RcAt.str_none _ _) _ _ _ _ q
      | bl i2 =>
        cases h
        obtain ⟨tl, rfl⟩ := (show ∃ t, _ = _ from rv)
        cases ru
        exact (SeqAt.RcAt.str_bool _ _ _) _ _ _ _ q
      | int i2 =>
        cases h
        obtain ⟨tl, rfl⟩ := (show ∃ t, _ = _ from rv)
        obtain ⟨tr, rfl⟩ := (show ∃ t, _ = _ from ru)
        exact (SeqAt.RcAt.str_int _ _ _ _) _ _ _ _ q
      | str i2 =>
        cases h
        obtain ⟨tl, rfl⟩ := (show ∃ t, _ = _ from rv)
        obtain ⟨tr, rfl⟩ := (show ∃ t, _ = _ from ru)
        exact (SeqAt.RcAt.str_str _ _ _ _) _ _ _ _ q
      | @tup a2 vs2 ds2 h3 h4 =>
        cases h
        obtain ⟨tl, rfl⟩ := (show ∃ t, _ = _ from rv)
        cases ru
        obtain ⟨its, r1, p1, _⟩ := I.tuple h3
        exact (SeqAt.RcAt.str_tuple _ _ p1 (by omega)) _ _ _ _ q
      | @lst a2 vs2 ds2 h3 h4 =>
        cases h
        obtain ⟨tl, rfl⟩ := (show ∃ t, _ = _ from rv)
        cases ru
        obtain ⟨its, r1, p1, _⟩ := I.list h3
        exact (SeqAt.RcAt.str_list _ _ p1.isList (by omega)) _ _ _ _ q
    | @tup a1 vs1 ds1 h1 h2 => cases hy with
      | any k1 k2 => rw [deq_any_r k1 k2] at h; cases h
      | dk h3 h4 => cases h
      | non =>
        cases h
        cases rv
        cases ru
        obtain ⟨its, r1, p1, _⟩ := I.tuple h1
        exact (SeqAt.RcAt.tuple_none p1 (by omega)) _ _ _ _ q
      | bl i2 =>
        cases h
        cases rv
        cases ru
        obtain ⟨its, r1, p1, _⟩ := I.tuple h1
        exact (SeqAt.RcAt.tuple_bool _ p1 (by omega)) _ _ _ _ q
      | int i2 =>
        cases h
        cases rv
        obtain ⟨tr, rfl⟩ := (show ∃ t, _ = _ from ru)
        obtain ⟨its, r1, p1, _⟩ := I.tuple h1
        exact (SeqAt.RcAt.tuple_int _ _ p1 (by omega)) _ _ _ _ q
      | str i2 =>
        cases h
        cases rv
        obtain ⟨tr, rfl⟩ := (show ∃ t, _ = _ from ru)
        obtain ⟨its, r1, p1, _⟩ := I.tuple h1
        exact (SeqAt.RcAt.tuple_str _ _ p1 (by omega)) _ _ _ _ q
      | @tup a2 vs2 ds2 h3 h4 =>
        cases rv
        cases ru
        obtain ⟨its, r1, p1, _⟩ := I.tuple h1
        obtain ⟨its2, r2, p2, _⟩ := I.tuple h3
        have l1 := r1.length
        have l2 := r2.length
        have l3 := h2.length
        have l4 := h4.length
        unfold deq at h
        cases hs : deqs ds1 ds2 with
        | none => rw [hs] at h; cases h
        | some r =>
          rw [hs] at h
          cases h
          obtain ⟨e, he, hr⟩ := deqs_some hs
          refine PySem.W.eq_tuplesT (n := n) (e := e) p1 p2 (fun j q1 q2 => ?_) (by omega) ?_
          · rw [List.size_toArray] at q1 q2
            have j1 : j < vs1.length := by omega
            have j2 : j < vs2.length := by omega
            obtain ⟨x', hx', g1⟩ := h2.at (List.getElem?_eq_getElem j1)
            obtain ⟨y', hy', g2⟩ := h4.at (List.getElem?_eq_getElem j2)
            obtain ⟨w1, e1, g3⟩ := r1.get (List.getElem?_eq_getElem j1)
            obtain ⟨w2, e2, g4⟩ := r2.get (List.getElem?_eq_getElem j2)
            have e1' : its.toArray[j] = w1 := by
              rw [List.getElem?_eq_getElem q1] at e1
              simpa using e1
            have e2' : its2.toArray[j] = w2 := by
              rw [List.getElem?_eq_getElem q2] at e2
              simpa using e2
            rw [e1', e2']
            have hdep := depths_mem hx'
            unfold depth at hn
            exact hd_eq I n (by omega) g1 g2 (he j x' y' hx' hy') g3 g4
          · rw [List.size_toArray, List.size_toArray, ← l1, ← l2, l3, l4, ← hr]
            exact q
      | @lst a2 vs2 ds2 h3 h4 =>
        cases h
        cases rv
        cases ru
        obtain ⟨its, r1, p1, _⟩ := I.tuple h1
        obtain ⟨its2, r2, p2, _⟩ := I.list h3
        exact (SeqAt.RcAt.tuple_list p1 p2.isList (by omega)) _ _ _ _ q
    | @lst a1 vs1 ds1 h1 h2 => cases hy with
      | any k1 k2 => rw [deq_any_r k1 k2] at h; cases h
      | dk h3 h4 => cases h
      | non =>
        cases h
        cases rv
        cases ru
        obtain ⟨its, r1, p1, _⟩ := I.list h1
        exact (SeqAt.RcAt.list_none p1.isList (by omega)) _ _ _ _ q
      | bl i2 =>
        cases h
        cases rv
        cases ru
        obtain ⟨its, r1, p1, _⟩ := I.list h1
        exact (SeqAt.RcAt.list_bool _ p1.isList (by omega)) _ _ _ _ q
      | int i2 =>
        cases h
        cases rv
        obtain ⟨tr, rfl⟩ := (show ∃ t, _ = _ from ru)
        obtain ⟨its, r1, p1, _⟩ := I.list h1
        exact (SeqAt.RcAt.list_int _ _ p1.isList (by omega)) _ _ _ _ q
      | str i2 =>
        cases h
        cases rv
        obtain ⟨tr, rfl⟩ := (show ∃ t, _ = _ from ru)
        obtain ⟨its, r1, p1, _⟩ := I.list h1
        exact (SeqAt.RcAt.list_str _ _ p1.isList (by omega)) _ _ _ _ q
      | @tup a2 vs2 ds2 h3 h4 =>
        cases h
        cases rv
        cases ru
        obtain ⟨its, r1, p1, _⟩ := I.list h1
        obtain ⟨its2, r2, p2, _⟩ := I.tuple h3
        exact (SeqAt.RcAt.list_tuple p1.isList p2 (by omega)) _ _ _ _ q
      | @lst a2 vs2 ds2 h3 h4 =>
        cases rv
        cases ru
        obtain ⟨its, r1, p1, _⟩ := I.list h1
        obtain ⟨its2, r2, p2, _⟩ := I.list h3
        have l1 := r1.length
        have l2 := r2.length
        have l3 := h2.length
        have l4 := h4.length
        unfold deq at h
        by_cases el : ds1.length = ds2.length
        · rw [if_pos el] at h
          obtain ⟨e, he, hr⟩ := deqs_some h
          refine PySem.W.eq_listsT (n := n) (e := e) p1.isList p2.isList (by rw [List.size_toArray, List.size_toArray]; omega) (fun j q1 q2 => ?_) (by omega) ?_
          · rw [List.size_toArray] at q1 q2
            have j1 : j < vs1.length := by omega
            have j2 : j < vs2.length := by omega
            obtain ⟨x', hx', g1⟩ := h2.at (List.getElem?_eq_getElem j1)
            obtain ⟨y', hy', g2⟩ := h4.at (List.getElem?_eq_getElem j2)
            obtain ⟨w1, e1, g3⟩ := r1.get (List.getElem?_eq_getElem j1)
            obtain ⟨w2, e2, g4⟩ := r2.get (List.getElem?_eq_getElem j2)
            have e1' : its.toArray[j] = w1 := by
              rw [List.getElem?_eq_getElem q1] at e1
              simpa using e1
            have e2' : its2.toArray[j] = w2 := by
              rw [List.getElem?_eq_getElem q2] at e2
              simpa using e2
            rw [e1', e2']
            have hdep := depths_mem hx'
            unfold depth at hn
            exact hd_eq I n (by omega) g1 g2 (he j x' y' hx' hy') g3 g4
          · rw [List.size_toArray, ← l1, l3]
            rw [← el, Nat.min_self] at hr
            rw [← hr]
            exact q
        · rw [if_neg el] at h
          cases h
          exact SeqAt.RcAt.lists_lengths p1.isList p2.isList (by rw [List.size_toArray, List.size_toArray, bne_iff_ne]; omega) (by omega) _ _ _ _ q
    | @dk a kvs ds h1 h2 => cases hy with
      | any k1 k2 => rw [deq_any_r k1 k2] at h; cases h
      | @dk a2 kvs2 ds2 h3 h4 =>
        cases rv
        cases ru
        have nd := dk_nodup I h1
        have nd2 : (ds.map (·.1)).Nodup := by rw [← h2.keys]; exact nd
        unfold deq at h
        cases hs : deqk ds ds2 with
        | none => rw [hs] at h; cases h
        | some r =>
          rw [hs] at h
          cases h
          obtain ⟨e, he, hr⟩ := deqk_some nd2 hs
          obtain ⟨_, y1, va, rela, da⟩ := dk_rd I.hok h1
          obtain ⟨_, y2, vb, relb, db⟩ := dk_rd I.hok h3
          refine PySem.W.eq_dictsT (n := n) (e := e) y1 y2 da db (fun k w1 w2 hm hv => ?_) (by omega) ?_
          · have g1 : ∃ v1, (k, v1) ∈ kvs ∧ RelV v1 w1 := by
              have : ∀ {l : List (Key × V)} {m : List (Key × Value)}, KV l m → (k, w1) ∈ m → ∃ v1, (k, v1) ∈ l ∧ RelV v1 w1 := by
                intro l m q
                unfold KV at q
                induction q with
                | nil => intro h; cases h
                | @cons p q ps qs hh t ih2 =>
                  intro h
                  rcases List.mem_cons.mp h with e | h
                  · obtain ⟨p1, p2⟩ := p
                    subst e
                    obtain ⟨z1, z2⟩ := hh
                    have z1' : p1 = k := z1
                    subst z1'
                    exact ⟨p2, List.mem_cons_self, z2⟩
                  · obtain ⟨v1, z1, z2⟩ := ih2 h
                    exact ⟨v1, List.mem_cons_of_mem _ z1, z2⟩
              exact this rela hm
            obtain ⟨v1, m1, q1⟩ := g1
            obtain ⟨x', m2, q2⟩ := h2.at m1
            obtain ⟨v2, m3, q3⟩ := DL.RelO.of_some (by rw [← hv]; exact relb.val k)
            obtain ⟨y', m4, q4⟩ := (h4.lk k).1 v2 m3
            refine hd_eq I n ?_ q2 q4 (he k x' y' m2 m4) q1 q3
            have := depthk_mem m2
            unfold depth at hn
            omega
          · have e1 : va.length = ds.length := by rw [← rela.length, h2.length]
            have e2 : vb.length = ds2.length := by rw [← relb.length, h4.length]
            have e3 : (va.all fun p => (valueAt vb p.1).isSome && e p.1) = ds.all fun p => (lk ds2 p.1).isSome && e p.1 := by
              have f1 : ∀ k, (valueAt vb k).isSome = (lk ds2 k).isSome := fun k => by
                rw [← (relb.val k).isSome_eq]
                obtain ⟨q1, q2⟩ := h4.lk k
                cases hv : valV kvs2 k with
                | none => rw [q2 hv]; rfl
                | some v => obtain ⟨d, hd, _⟩ := q1 v hv; rw [hd]; rfl
              have f2 : va.map (·.1) = ds.map (·.1) := by rw [← KV.keys rela, h2.keys]
              have f3 : ∀ {α : Type} (l : List (Key × α)), (l.all fun p => (lk ds2 p.1).isSome && e p.1) = (l.map (·.1)).all fun k => (lk ds2 k).isSome && e k := fun l => by rw [List.all_map]; rfl
              rw [f3 ds, ← f2, ← f3 va]
              exact all_mem fun p _ => by rw [f1]
            rw [e1, e2, e3, ← hr]
            exact q
      | _ => cases h
end
section
variable {X : Cx} {c : Dx} {a b : Expr} {fa fb : EF} {pos : Pos}
def rEqH (K : PySem.W.Frag) : R2 := fun x y H Q => ∃ dx dy b, Hd K H x dx ∧ Hd K H y dy ∧ depth dx < 40 ∧ deq dx dy = some b ∧ Q (.bl b) H
def rNeH (K : PySem.W.Frag) : R2 := fun x y H Q => ∃ dx dy b, Hd K H x dx ∧ Hd K H y dy ∧ depth dx < 40 ∧ noDk dx = true ∧ deq dx dy = some b ∧ Q (.bl (!b)) H
theorem op_eqH (hu : X.A.units + 64 < cLine) : OpR X (compareOp .Eq) (rEqH X.K) := by
  intro pins s σ H x y v u Q I rx ry ⟨dx, dy, b, h1, h2, h3, h4, q⟩
  exact hd_top I 40 (by omega) h1 h2 h4 rx ry X.A (by omega) _ _ ⟨.bl b, H, I, rfl, q⟩
theorem op_neH (hu : X.A.units + 64 < cLine) : OpR X (compareOp .NotEq) (rNeH X.K) := by
  intro pins s σ H x y v u Q I rx ry ⟨dx, dy, b, h1, h2, h3, h5, h4, q⟩
  exact hd_ne I 40 (by omega) h5 h1 h2 h4 rx ry X.A (by omega) _ _ _ _ ⟨.bl (!b), H, I, rfl, q⟩
def gEq (x y : D) (e : Sl) (s : Sto) : ER := if depth (vw x e s) < 40 then (match deq (vw x e s) (vw y e s) with | some b => .ok (.bl b) e s | none => .stuck) else .stuck
def gNe (x y : D) (e : Sl) (s : Sto) : ER := if depth (vw x e s) < 40 ∧ noDk (vw x e s) = true then (match deq (vw x e s) (vw y e s) with | some b => .ok (.bl (!b)) e s | none => .stuck) else .stuck
theorem opD_eq : OpD X (rEqH X.K) gEq := by
  intro c F ρ e st σ H x y v u Q r rx ry h
  unfold gEq at h
  split at h
  · rename_i hd
    split at h
    · rename_i b hb
      exact ⟨_, _, b, (vw_ok r rx).hd, (vw_ok r ry).hd, hd, hb, h.bl r⟩
    · exact h.elim
  · exact h.elim
theorem opD_ne : OpD X (rNeH X.K) gNe := by
  intro c F ρ e st σ H x y v u Q r rx ry h
  unfold gNe at h
  split at h
  · rename_i hd
    split at h
    · rename_i b hb
      exact ⟨_, _, b, (vw_ok r rx).hd, (vw_ok r ry).hd, hd.1, hd.2, hb, h.bl r⟩
    · exact h.elim
  · exact h.elim
theorem cm_eq (hu : X.A.units + 64 < cLine) (ha : DE c X a fa) (hb : DE c X b fb) : Cm c X .Eq a b pos (eBin gEq fa fb) := cm_of (op_eqH hu) opD_eq ha hb (nomark _)
theorem cm_ne (hu : X.A.units + 64 < cLine) (ha : DE c X a fa) (hb : DE c X b fb) : Cm c X .NotEq a b pos (eBin gNe fa fb) := cm_of (op_neH hu) opD_ne ha hb (nomark _)
end
end DL
end
section
set_option Elab.async false
set_option linter.all false
set_option maxRecDepth 100000
set_option maxHeartbeats 4000000
set_option autoImplicit false
/-! DLT: written dicts of the module with text keys. -/
namespace DL
open PySem PySem.Spec L2
open PyProof.Rows hiding St
/-- a written dict: what is known of it, key by key (none: the key is not there) -/
structure Tab (K : PySem.W.Frag) (w : World) (mg : Str → Option Value) (x : Str) (tbl : List (Str × Option Str)) : Prop where
  ex : ∃ d es n, mg x = some (.ref d) ∧ KDict K w d es n ∧ (∀ z v, (z, some v) ∈ tbl → ∃ t, PySem.W.nsIn K d z = some (some (.str v t))) ∧ ∀ z, (z, none) ∈ tbl → PySem.W.nsIn K d z = some none
def tabAt : List (Str × Option Str) → Str → Option (Option Str)
  | [], _ => none
  | (k, o) :: r, z => if k = z then some o else tabAt r z
theorem tabAt_mem : ∀ {tbl : List (Str × Option Str)} {z : Str} {o : Option Str}, tabAt tbl z = some o → (z, o) ∈ tbl
  | [], _, _, h => by cases h
  | (k, o) :: r, z, o', h => by
    unfold tabAt at h
    split at h
    · rename_i e
      cases h
      subst e
      exact List.mem_cons_self
    · exact List.mem_cons_of_mem _ (tabAt_mem h)
def gInTab (neg : Bool) (tbl : List (Str × Option Str)) (x : D) (e : Sl) (s : Sto) : ER := match x with
  | .str z => (match tabAt tbl z with | some o => .ok (.bl (bxor neg o.isSome)) e s | none => .stuck)
  | _ => .stuck
def gTab (tbl : List (Str × Option Str)) (x : D) (e : Sl) (s : Sto) : ER := match x with
  | .str z => (match tabAt tbl z with | some (some v) => .ok (.str v) e s | _ => .stuck)
  | _ => .stuck
section
variable {X : Cx} {c : Dx} {a b : Expr} {fa fb : EF} {pos : Pos}
def rTab (K : PySem.W.Frag) (d : Addr) (neg : Bool) : R2 := fun x y H Q => ∃ (z : Str) (r : Option Value), x = .str z ∧ y = .ref d ∧ PySem.W.nsIn K d z = some r ∧ Q (.bl (bxor neg r.isSome)) H
theorem tab_main {x : Str} {tbl : List (Str × Option Str)} (neg : Bool) {d : Addr} (h1 : ∀ z v, (z, some v) ∈ tbl → ∃ t, PySem.W.nsIn X.K d z = some (some (.str v t))) (h2 : ∀ z, (z, none) ∈ tbl → PySem.W.nsIn X.K d z = some none)
    {F : Addr → Prop} {ρ : List Addr} {e : Sl} {st : Sto} {σ : St} {H : Hp} {Q : VK} (r : R X.K X.mg c F ρ e st σ H) (q : EPost X.K X.mg c e σ F ρ H Q (eUn (gInTab neg tbl) fa e st)) : tOp (rTab X.K d neg) (tED X.K X.mg c fa) (tC (.ref d)) σ H Q := by
  refine ⟨F, ρ, e, st, r, bindE q fun F1 ρ1 e1 st1 H1 v x le1 r1 rx h => ?_⟩
  unfold gInTab at h
  split at h
  · rename_i z
    cases repS rx
    split at h
    · rename_i o ho
      have hm := tabAt_mem ho
      cases o with
      | none => exact ⟨z, none, rfl, rfl, h2 z hm, h.bl r1⟩
      | some v =>
        obtain ⟨t, ht⟩ := h1 z v hm
        exact ⟨z, some _, rfl, rfl, ht, h.bl r1⟩
    · exact h.elim
  · exact h.elim
theorem cm_inTab {x : Str} {p : Pos} {tbl : List (Str × Option Str)} (T : Tab X.K X.w X.mg x tbl) (hg : Gl X x) (ha : DE c X a fa) (hd : (x == ("__debug__" : Str)) = false := by decide) (hm : behindInMarks .In (.Name x p) = false := by rfl) : Cm c X .In a (.Name x p) pos (eUn (gInTab false tbl) fa) := by
  obtain ⟨d, es, n, h0, kd, h1, h2⟩ := T.ex
  have ho : OpR X (compareOp .In) (rTab X.K d false) := fun pins s σ H x y v u Q I rx ry ⟨z, r, e1, e2, e3, q⟩ => op_in_kd kd pins s σ H x y v u Q I rx ry ⟨z, r, e1, e2, e3, q⟩
  exact ⟨de_imp (pe_cmpR ho ha (pe_glob hg h0 (v := .ref d) rfl hd) hm) fun F ρ e st σ H Q r q => tab_main (x := x) false h1 h2 r q, dt_imp (pt_cmpR ho ha (pe_glob hg h0 (v := .ref d) rfl hd) hm) fun F ρ e st σ H Q r q => tab_main (x := x) false h1 h2 r q.of⟩
theorem cm_notInTab {x : Str} {p : Pos} {tbl : List (Str × Option Str)} (T : Tab X.K X.w X.mg x tbl) (hg : Gl X x) (ha : DE c X a fa) (hd : (x == ("__debug__" : Str)) = false := by decide) (hm : behindInMarks .NotIn (.Name x p) = false := by rfl) : Cm c X .NotIn a (.Name x p) pos (eUn (gInTab true tbl) fa) := by
  obtain ⟨d, es, n, h0, kd, h1, h2⟩ := T.ex
  have ho : OpR X (compareOp .NotIn) (rTab X.K d true) := fun pins s σ H x y v u Q I rx ry ⟨z, r, e1, e2, e3, q⟩ => op_notIn_kd kd pins s σ H x y v u Q I rx ry ⟨z, r, e1, e2, e3, q⟩
  exact ⟨de_imp (pe_cmpR ho ha (pe_glob hg h0 (v := .ref d) rfl hd) hm) fun F ρ e st σ H Q r q => tab_main (x := x) true h1 h2 r q, dt_imp (pt_cmpR ho ha (pe_glob hg h0 (v := .ref d) rfl hd) hm) fun F ρ e st σ H Q r q => tab_main (x := x) true h1 h2 r q.of⟩
theorem de_tab {x : Str} {p : Pos} {tbl : List (Str × Option Str)} (T : Tab X.K X.w X.mg x tbl) (hg : Gl X x) (ha : DE c X a fa) (hd : (x == ("__debug__" : Str)) = false := by decide) (hs : PlainIx a := by exact fun _ _ => rfl) : DE c X (.Subscript (.Name x p) a pos) (eUn (gTab tbl) fa) := by
  obtain ⟨d, es, n, h0, kd, h1, h2⟩ := T.ex
  refine de_imp (pe_ix ix_kdict (pe_glob hg h0 (v := .ref d) rfl hd) ha hs) fun F ρ e st σ H Q r q => ?_
  show tED X.K X.mg c fa σ H fun y H2 => L2.rIxD X.K X.w (.ref d) y H2 Q
  refine ⟨F, ρ, e, st, r, bindE q fun F1 ρ1 e1 st1 H1 v x le1 r1 rx h => ?_⟩
  unfold gTab at h
  split at h
  · rename_i z
    cases repS rx
    split at h
    · rename_i v ho
      obtain ⟨t, ht⟩ := h1 z v (tabAt_mem ho)
      exact ⟨d, z, .str v, rfl, rfl, ⟨es, n, _, kd.at_, kd.lit, ht, ⟨t, rfl⟩⟩, h.sc r1 fun _ _ _ => .str v⟩
    · exact h.elim
  · exact h.elim
end
end DL
end
section
set_option Elab.async false
set_option linter.all false
set_option maxRecDepth 100000
set_option maxHeartbeats 1000000
set_option autoImplicit false
/-! DLS: != of dicts (of data of any depth). -/
namespace DL
open PySem PySem.Spec PySem.W L2
open PyProof.Rows hiding St
section
variable {prog : Program} {w : World} {A : Around} {E : Value → Shared → Prop} {s : Shared}
theorem ne_dictsT {κ : Type} [DecidableEq κ] {knd : KeyKind prog w κ} {n : Nat} {a b : Addr} {ka kb : List (κ × Value)} {e : κ → Bool} {Q : Value → Shared → Prop} (sa : (a == sysModules) = false) (sb : (b == sysModules) = false)
    (da : s.heap.DictOf knd a ka) (db : s.heap.DictOf knd b kb) (t : ∀ k v y, (k, v) ∈ ka → valueAt kb k = some y → EqTree prog w s n v y (e k)) (hu : A.units + (n + 1) < cLine)
    (h : Q (.bool (!(ka.length == kb.length && ka.all fun p => (valueAt kb p.1).isSome && e p.1))) s) : wpAny (model prog w) A (compareOp .NotEq (.ref a) (.ref b)) Q E s := by
  have ta := da.typeIs
  have tb := db.typeIs
  refine wpAny_richCompare_same_room (op := .NotEq) ta tb PySem.F.slot_dict_ne ?_ (by omega)
  refine wpAny_call_entry PySem.F.slot_dict_ne ta PySem.F.entry_dict_ne ?_ (PySem.F.args_dict_ne_2 _ _)
  change wpAny _ _ (Builtin.Dict.dictSlotArgs "__ne__" ⟨[Value.ref a, Value.ref b], []⟩ >>= _) _ _ s
  apply wpAny_bind
  unfold Builtin.Dict.dictSlotArgs
  refine wpAny_bind (wpAny_notOrdered_dict ta ?_)
  change wpAny _ _ (pure (Value.ref a, Value.ref b)) _ _ s
  apply wpAny_pure
  refine wpAny_bind (wpAny_isInstance (T := "dict") tb PySem.F.sub_dict_dict ?_)
  simp only [Bool.false_eq_true, Bool.not_true, if_false]
  refine wpAny_bind (wpAny_pure (wpAny_bind (wpAny_pure (wpAny_bind ?_))))
  refine keq_samePairsIn sa sb da db (fun _ => KeqHitsIn.of _ fun k v y hm hv => (t k v y hm hv).at A.in1 (by show A.units + 1 + _ < cLine; omega)) ?_
  exact wpAny_pure ⟨_, rfl, (fun x => nomatch x), by simpa using h⟩
end
section
open PySem.SeqAt (EqIn)
variable {prog : Program} {w : World}
/-- != of two tuples: the items by ==, then the lengths -/
theorem tup_neIn (p q : Addr) (xs ys : Array Value) (n1 n2 : Nat) (d1 d2 : Option Addr) (s1 s2 : Array (Option Value)) (e : Nat → Bool) :
    MeetsIn prog w (Builtin.«tuple.__ne__» ⟨[.ref p, .ref q], []⟩) (fun A R s =>
      s.heap.get? p = some { cls := .type "tuple", dict := d1, data := .seq xs n1, slots := s1 } ∧ s.heap.get? q = some { cls := .type "tuple", dict := d2, data := .seq ys n2, slots := s2 } ∧
      (∀ j (a1 : j < xs.size) (a2 : j < ys.size), EqIn prog w A.in1 s xs[j] ys[j] (e j)) ∧
      R (.ok (.ret (.bool (!((List.range (min xs.size ys.size)).all e && xs.size == ys.size))))) s) :=
  .of_wp fun A R s hyp => by
    obtain ⟨hp, g, d, tk, os⟩ := s
    obtain ⟨gp, gq, heq, fin0⟩ := hyp
    have sub0 := AutoSeq1.sub_tuple_tuple
    have zl : (xs.toList.zip ys.toList).length = min xs.size ys.size := by simp
    wp_walk using wpAny_loadPart' gp, wpAny_loadPart' gq, wpAny_forIn_list _ (fun tl b st => b.1 = none ∧ st = ⟨hp, g, d, tk, os⟩ ∧ ∃ m, tl = (xs.toList.zip ys.toList).drop m ∧
      R (.ok (.ret (.bool (!(((List.range (min xs.size ys.size)).drop m).all e && xs.size == ys.size))))) ⟨hp, g, d, tk, os⟩) _
    case turn =>
      rintro ⟨u, v⟩ tl b st ⟨hb0, rfl, m, hz, res⟩
      have mz : m < (xs.toList.zip ys.toList).length := by
        rcases Nat.lt_or_ge m (xs.toList.zip ys.toList).length with z | z
        · exact z
        · rw [List.drop_of_length_le z] at hz; cases hz
      have mm : m < min xs.size ys.size := zl ▸ mz
      have m1 : m < xs.size := Nat.lt_of_lt_of_le mm (Nat.min_le_left _ _)
      have m2 : m < ys.size := Nat.lt_of_lt_of_le mm (Nat.min_le_right _ _)
      rw [List.drop_eq_getElem_cons mz] at hz
      injection hz with huv htl
      obtain rfl : u = xs[m] := by have := congrArg Prod.fst huv; simpa using this
      obtain rfl : v = ys[m] := by have := congrArg Prod.snd huv; simpa using this
      have hr : (List.range (min xs.size ys.size)).drop m = m :: (List.range (min xs.size ys.size)).drop (m + 1) := by simp [List.drop_eq_getElem_cons, mm]
      rw [hr, List.all_cons] at res
      refine wpAny_bind (heq m m1 m2 _ _ ?_)
      cases em : e m with
      | true => rw [em] at res; wp_walk; exact ⟨rfl, rfl, m + 1, htl, by simpa using res⟩
      | false => rw [em] at res; wp_walk; exact ⟨_, rfl, by simpa using res⟩
    case fin =>
      rintro ⟨c1, c2⟩ st ⟨hb0, rfl, m, hz, res⟩
      simp only at hb0
      subst hb0
      have mge : min xs.size ys.size ≤ m := by
        rcases Nat.lt_or_ge m (xs.toList.zip ys.toList).length with z | z
        · rw [List.drop_eq_getElem_cons z] at hz; cases hz
        · exact zl ▸ z
      rw [List.drop_of_length_le (by simpa using mge)] at res
      wp_walk
      exact ⟨_, rfl, by simpa [bne, Builtin.Tuple.tupleCompareSizes] using res⟩
    case h => exact ⟨rfl, rfl, 0, rfl, by simpa using fin0⟩
end
section
open PySem.SeqAt (EqIn)
variable {prog : Program} {w : World} {A : Around} {E : Value → Shared → Prop} {s : Shared}
theorem ne_tuplesT {n : Nat} {p q : Addr} {xs ys : Array Value} {e : Nat → Bool} {Q : Value → Shared → Prop} (hp : s.heap.IsTuple p xs) (hq : s.heap.IsTuple q ys)
    (t : ∀ j (a1 : j < xs.size) (a2 : j < ys.size), EqTree prog w s n xs[j] ys[j] (e j)) (hu : A.units + (n + 1) < cLine)
    (h : Q (.bool (!((List.range (min xs.size ys.size)).all e && xs.size == ys.size))) s) : wpAny (model prog w) A (compareOp .NotEq (.ref p) (.ref q)) Q E s := by
  obtain ⟨⟨c1, dd1, dt1, sl1⟩, o1, k1, m1, z1⟩ := id hp
  obtain ⟨⟨c2, dd2, dt2, sl2⟩, o2, k2, m2, z2⟩ := id hq
  simp only at k1 z1 k2 z2
  subst k1 z1 k2 z2
  refine wpAny_richCompare_same_room (T := "tuple") (op := .NotEq) ⟨_, o1, rfl⟩ ⟨_, o2, rfl⟩ PySem.F.slot_tuple_ne ?_ (by omega)
  refine call_meetsIn PySem.F.slot_tuple_ne ⟨_, o1, rfl⟩ PySem.F.entry_tuple_ne (PySem.F.args_tuple_ne_2 _ _) (tup_neIn p q xs ys m1 m2 dd1 dd2 sl1 sl2 e) ⟨o1, o2, fun j a1 a2 => ?_, (fun x => nomatch x), h⟩
  exact (t j a1 a2).at A.in1 (by show A.units + 1 + _ < cLine; omega)
end
/-- what != is served for: no dicts within, or two tuples, or two dicts -/
def neOk : D → D → Bool
  | .tup _, .tup _ => true
  | .dk _, .dk _ => true
  | x, _ => noDk x
section
variable {X : Cx} {pins : List (Addr × Obj)} {σ : St} {H : Hp} {s : Shared}
theorem hd_neTup (I : Inv X pins σ H s) (n : Nat) {ds1 ds2 : List D} {v u : V} {v' u' : Value} {b : Bool} (hn : depth (.tup ds1) < n + 1) (hx : Hd X.K H v (.tup ds1)) (hy : Hd X.K H u (.tup ds2)) (h : deq (.tup ds1) (.tup ds2) = some b) (rv : RelV v v') (ru : RelV u u') (A : Around) (hu : A.units + (n + 1) < cLine)
    (E Q : Value → Shared → Prop) (q : Q (.bool (!b)) s) : wpAny (model X.prog X.w) A (compareOp .NotEq v' u') Q E s := by
  cases hx with
  | any k1 k2 => rw [deq_any_l k1 k2] at h; cases h
  | @tup a1 vs1 _ h1 h2 => cases hy with
    | any k1 k2 => rw [deq_any_r k1 k2] at h; cases h
    | @tup a2 vs2 _ h3 h4 =>
    cases rv
    cases ru
    obtain ⟨its, r1, p1, _⟩ := I.tuple h1
    obtain ⟨its2, r2, p2, _⟩ := I.tuple h3
    have l1 := r1.length
    have l2 := r2.length
    have l3 := h2.length
    have l4 := h4.length
    unfold deq at h
    cases hs : deqs ds1 ds2 with
    | none => rw [hs] at h; cases h
    | some r =>
      rw [hs] at h
      cases h
      obtain ⟨e, he, hr⟩ := deqs_some hs
      refine ne_tuplesT (n := n) (e := e) p1 p2 (fun j q1 q2 => ?_) (by omega) ?_
      · rw [List.size_toArray] at q1 q2
        have j1 : j < vs1.length := by omega
        have j2 : j < vs2.length := by omega
        obtain ⟨x', hx', g1⟩ := h2.at (List.getElem?_eq_getElem j1)
        obtain ⟨y', hy', g2⟩ := h4.at (List.getElem?_eq_getElem j2)
        obtain ⟨w1, e1, g3⟩ := r1.get (List.getElem?_eq_getElem j1)
        obtain ⟨w2, e2, g4⟩ := r2.get (List.getElem?_eq_getElem j2)
        have e1' : its.toArray[j] = w1 := by
          rw [List.getElem?_eq_getElem q1] at e1
          simpa using e1
        have e2' : its2.toArray[j] = w2 := by
          rw [List.getElem?_eq_getElem q2] at e2
          simpa using e2
        rw [e1', e2']
        have hdep := depths_mem hx'
        unfold depth at hn
        exact hd_eq I n (by omega) g1 g2 (he j x' y' hx' hy') g3 g4
      · rw [List.size_toArray, List.size_toArray, ← l1, ← l2, l3, l4, ← hr]
        exact q
theorem hd_neDk (I : Inv X pins σ H s) (n : Nat) {ds ds2 : List (Key × D)} {v u : V} {v' u' : Value} {b : Bool} (hn : depth (.dk ds) < n + 1) (hx : Hd X.K H v (.dk ds)) (hy : Hd X.K H u (.dk ds2)) (h : deq (.dk ds) (.dk ds2) = some b) (rv : RelV v v') (ru : RelV u u') (A : Around) (hu : A.units + (n + 1) < cLine)
    (E Q : Value → Shared → Prop) (q : Q (.bool (!b)) s) : wpAny (model X.prog X.w) A (compareOp .NotEq v' u') Q E s := by
  cases hx with
  | any k1 k2 => rw [deq_any_l k1 k2] at h; cases h
  | @dk a kvs _ h1 h2 => cases hy with
    | any k1 k2 => rw [deq_any_r k1 k2] at h; cases h
    | @dk a2 kvs2 _ h3 h4 =>
    cases rv
    cases ru
    have nd := dk_nodup I h1
    have nd2 : (ds.map (·.1)).Nodup := by rw [← h2.keys]; exact nd
    unfold deq at h
    cases hs : deqk ds ds2 with
    | none => rw [hs] at h; cases h
    | some r =>
      rw [hs] at h
      cases h
      obtain ⟨e, he, hr⟩ := deqk_some nd2 hs
      obtain ⟨_, y1, va, rela, da⟩ := dk_rd I.hok h1
      obtain ⟨_, y2, vb, relb, db⟩ := dk_rd I.hok h3
      refine ne_dictsT (n := n) (e := e) y1 y2 da db (fun k w1 w2 hm hv => ?_) (by omega) ?_
      · have g1 : ∃ v1, (k, v1) ∈ kvs ∧ RelV v1 w1 := by
          have : ∀ {l : List (Key × V)} {m : List (Key × Value)}, KV l m → (k, w1) ∈ m → ∃ v1, (k, v1) ∈ l ∧ RelV v1 w1 := by
            intro l m q
            unfold KV at q
            induction q with
            | nil => intro h; cases h
            | @cons p q ps qs hh t ih2 =>
              intro h
              rcases List.mem_cons.mp h with e | h
              · obtain ⟨p1, p2⟩ := p
                subst e
                obtain ⟨z1, z2⟩ := hh
                have z1' : p1 = k := z1
                subst z1'
                exact ⟨p2, List.mem_cons_self, z2⟩
              · obtain ⟨v1, z1, z2⟩ := ih2 h
                exact ⟨v1, List.mem_cons_of_mem _ z1, z2⟩
          exact this rela hm
        obtain ⟨v1, m1, q1⟩ := g1
        obtain ⟨x', m2, q2⟩ := h2.at m1
        obtain ⟨v2, m3, q3⟩ := DL.RelO.of_some (by rw [← hv]; exact relb.val k)
        obtain ⟨y', m4, q4⟩ := (h4.lk k).1 v2 m3
        refine hd_eq I n ?_ q2 q4 (he k x' y' m2 m4) q1 q3
        have := depthk_mem m2
        unfold depth at hn
        omega
      · have e1 : va.length = ds.length := by rw [← rela.length, h2.length]
        have e2 : vb.length = ds2.length := by rw [← relb.length, h4.length]
        have e3 : (va.all fun p => (valueAt vb p.1).isSome && e p.1) = ds.all fun p => (lk ds2 p.1).isSome && e p.1 := by
          have f1 : ∀ k, (valueAt vb k).isSome = (lk ds2 k).isSome := fun k => by
            rw [← (relb.val k).isSome_eq]
            obtain ⟨q1, q2⟩ := h4.lk k
            cases hv : valV kvs2 k with
            | none => rw [q2 hv]; rfl
            | some v => obtain ⟨d, hd, _⟩ := q1 v hv; rw [hd]; rfl
          have f2 : va.map (·.1) = ds.map (·.1) := by rw [← KV.keys rela, h2.keys]
          have f3 : ∀ {α : Type} (l : List (Key × α)), (l.all fun p => (lk ds2 p.1).isSome && e p.1) = (l.map (·.1)).all fun k => (lk ds2 k).isSome && e k := fun l => by rw [List.all_map]; rfl
          rw [f3 ds, ← f2, ← f3 va]
          exact all_mem fun p _ => by rw [f1]
        rw [e1, e2, e3, ← hr]
        exact q
theorem hd_topNe (I : Inv X pins σ H s) (n : Nat) {x y : D} {v u : V} {v' u' : Value} {b : Bool} (hn : depth x < n + 1) (ok : neOk x y = true) (hx : Hd X.K H v x) (hy : Hd X.K H u y) (h : deq x y = some b) (rv : RelV v v') (ru : RelV u u') (A : Around) (hu : A.units + (n + 1) < cLine)
    (E Q : Value → Shared → Prop) (q : Q (.bool (!b)) s) : wpAny (model X.prog X.w) A (compareOp .NotEq v' u') Q E s := by
  unfold neOk at ok
  split at ok
  · exact hd_neTup I n hn hx hy h rv ru A hu E Q q
  · exact hd_neDk I n hn hx hy h rv ru A hu E Q q
  · exact hd_ne I n hn ok hx hy h rv ru A (by omega) _ _ _ _ q
def rNeD (K : PySem.W.Frag) : R2 := fun x y H Q => ∃ dx dy b, Hd K H x dx ∧ Hd K H y dy ∧ depth dx < 40 ∧ neOk dx dy = true ∧ deq dx dy = some b ∧ Q (.bl (!b)) H
theorem op_neD (hu : X.A.units + 64 < cLine) : OpR X (compareOp .NotEq) (rNeD X.K) := by
  intro pins s σ H x y v u Q I rx ry ⟨dx, dy, b, h1, h2, h3, h5, h4, q⟩
  exact hd_topNe I 40 (by omega) h5 h1 h2 h4 rx ry X.A (by omega) _ _ ⟨.bl (!b), H, I, rfl, q⟩
def gNeD (x y : D) (e : Sl) (s : Sto) : ER := if depth (vw x e s) < 40 ∧ neOk (vw x e s) (vw y e s) = true then (match deq (vw x e s) (vw y e s) with | some b => .ok (.bl (!b)) e s | none => .stuck) else .stuck
theorem opD_neD : OpD X (rNeD X.K) gNeD := by
  intro c F ρ e st σ H x y v u Q r rx ry h
  unfold gNeD at h
  split at h
  · rename_i hd
    split at h
    · rename_i b hb
      exact ⟨_, _, b, (vw_ok r rx).hd, (vw_ok r ry).hd, hd.1, hd.2, hb, h.bl r⟩
    · exact h.elim
  · exact h.elim
theorem cm_neD {c : Dx} {a b : Expr} {fa fb : EF} {pos : Pos} (hu : X.A.units + 64 < cLine) (ha : DE c X a fa) (hb : DE c X b fb) : Cm c X .NotEq a b pos (eBin gNeD fa fb) := cm_of (op_neD hu) opD_neD ha hb (nomark _)
end
end DL
end
section
set_option Elab.async false
set_option linter.all false
set_option maxRecDepth 100000
set_option maxHeartbeats 1000000
set_option autoImplicit false
/-! DNA: `in` over lists and tuples of data of any depth. -/
namespace DL
open PySem PySem.Spec PySem.W L2
open PyProof.Rows hiding St
section
variable {prog : Program} {w : World} {A : Around} {E : Value → Shared → Prop} {s : Shared}
open PySem.SeqAt (EqIn)
open AutoSeq1 (wpAny_loadPart')
open MeetsSeq MeetsSeq2 MeetsSeq3 SeqRoads2
theorem contains_loopIn (l : Addr) (items : Array Value) (n : Nat) (dd : Option Addr) (sl : Array (Option Value)) (x : Value) (e : Nat → Bool) (k : Nat) :
    ∀ i : Nat, items.size - i = k → MeetsIn prog w (Builtin.«list.__contains__.loop» ⟨[.ref l, x, rawInt i], []⟩)
      (fun A R s => s.heap.get? l = some { cls := .type "list", dict := dd, data := .seq items n, slots := sl } ∧ (∀ j (h : j < items.size), EqIn prog w A.in1 s items[j] x (e j)) ∧ R (.ok (.ret (.bool (((List.range items.size).drop i).any e)))) s) := by
  induction k with
  | zero =>
    intro i hk A R s h
    obtain ⟨hp, g, d, tk, os⟩ := s; obtain ⟨hl, he, h⟩ := h
    wp_walk using wpAny_loadPart' hl
    have hi : items[((i : Nat) : Int).toNat]? = none := by simp; omega
    have hd : (List.range items.size).drop i = [] := by simp; omega
    rw [hd] at h
    rw [hi]
    wp_walk
    exact h
  | succ k ih =>
    intro i hk A R s h
    obtain ⟨hp, g, d, tk, os⟩ := s; obtain ⟨hl, he, h⟩ := h
    wp_walk using wpAny_loadPart' hl
    have hlt : i < items.size := by omega
    have hi : items[((i : Nat) : Int).toNat]? = some items[i] := by simp [hlt]
    have hd : (List.range items.size).drop i = i :: (List.range items.size).drop (i + 1) := by simp [List.drop_eq_getElem_cons, hlt]
    rw [hd, List.any_cons] at h
    rw [hi]
    refine wpAny_bind (he i hlt _ _ ?_)
    cases hb : e i with
    | true =>
      rw [hb] at h
      wp_walk
      exact h
    | false =>
      rw [hb] at h
      have hc : ((i : Int) + 1) = ((i + 1 : Nat) : Int) := by push_cast; rfl
      wp_walk
      rw [hc]
      exact ⟨plainId_quiet plain_contains_loop _, codeAny_builtin entry_contains_loop (by
        rw [Around.under_plainId plain_contains_loop _]
        exact ih (i + 1) (by omega) A R _ ⟨hl, he, by simpa using h⟩)⟩
theorem list_containsIn (l : Addr) (items : Array Value) (n : Nat) (dd : Option Addr) (sl : Array (Option Value)) (x : Value) (e : Nat → Bool) :
    MeetsIn prog w (Builtin.«list.__contains__» ⟨[.ref l, x], []⟩)
      (fun A R s => s.heap.get? l = some { cls := .type "list", dict := dd, data := .seq items n, slots := sl } ∧ (∀ j (h : j < items.size), EqIn prog w A.in1 s items[j] x (e j)) ∧ R (.ok (.ret (.bool ((List.range items.size).any e)))) s) := by
  intro A R s h
  obtain ⟨hp, g, d, tk, os⟩ := s; obtain ⟨hl, he, h⟩ := h
  wp_walk using wpAny_loadPart' hl
  exact ⟨plainId_quiet plain_contains_loop _, codeAny_builtin entry_contains_loop (by
    rw [Around.under_plainId plain_contains_loop _]
    exact contains_loopIn l items n dd sl x e _ 0 rfl A R _ ⟨hl, he, by simpa using h⟩)⟩
theorem tuple_containsIn (l : Addr) (items : Array Value) (n : Nat) (dd : Option Addr) (sl : Array (Option Value)) (x : Value) (e : Nat → Bool) :
    MeetsIn prog w (Builtin.«tuple.__contains__» ⟨[.ref l, x], []⟩)
      (fun A R s => s.heap.get? l = some { cls := .type "tuple", dict := dd, data := .seq items n, slots := sl } ∧ (∀ j (h : j < items.size), EqIn prog w A.in1 s items[j] x (e j)) ∧ R (.ok (.ret (.bool ((List.range items.size).any e)))) s) :=
  .of_wp fun A R s h => by
    obtain ⟨hp, g, d, tk, os⟩ := s; obtain ⟨hl, he, h⟩ := h
    wp_walk using wpAny_loadPart' hl, wpAny_forIn_array _ (fun rest b s' => b.1 = none ∧ s' = ⟨hp, g, d, tk, os⟩ ∧ ∃ m, rest = items.toList.drop m ∧ R (.ok (.ret (.bool (((List.range items.size).drop m).any e)))) ⟨hp, g, d, tk, os⟩) _
    case turn =>
      rintro y rest b s' ⟨hb, rfl, m, hm, hR⟩
      have mz : m < items.toList.length := by
        rcases Nat.lt_or_ge m items.toList.length with z | z
        · exact z
        · rw [List.drop_of_length_le z] at hm; cases hm
      have m1 : m < items.size := by simpa using mz
      rw [List.drop_eq_getElem_cons mz] at hm
      injection hm with h1 h2
      obtain rfl : y = items[m] := by simpa using h1
      have hr : (List.range items.size).drop m = m :: (List.range items.size).drop (m + 1) := by simp [List.drop_eq_getElem_cons, m1]
      rw [hr, List.any_cons] at hR
      refine wpAny_bind (he m m1 _ _ ?_)
      cases hy : e m with
      | true =>
        rw [hy] at hR
        wp_walk
        exact ⟨_, rfl, by simpa using hR⟩
      | false =>
        rw [hy] at hR
        wp_walk
        exact ⟨rfl, rfl, m + 1, h2, by simpa using hR⟩
    case fin =>
      rintro ⟨b1, b2⟩ s' ⟨hb, rfl, m, hm, hR⟩
      simp only at hb
      subst hb
      have mge : items.size ≤ m := by
        rcases Nat.lt_or_ge m items.toList.length with z | z
        · rw [List.drop_eq_getElem_cons z] at hm; cases hm
        · simpa using z
      rw [List.drop_of_length_le (by simpa using mge)] at hR
      wp_walk
      exact ⟨_, rfl, by simpa using hR⟩
    case h => exact ⟨rfl, rfl, 0, rfl, by simpa using h⟩
theorem in_meetsIn {T id : String} {B : Builtin} {c x : Value} {S : PySem.Spec} {Q : Value → Shared → Prop} (hT : s.TypeIs c T) (slot : Slot T "__contains__" id)
    (entry : entryFor table id = some B) (args : argsOk id ⟨[c, x], []⟩) (g : MeetsIn prog w (B ⟨[c, x], []⟩) S)
    (h : S A (wants (fun v s' => ∃ b, v = .bool b ∧ Q (.bool b) s') E) s) : wpAny (model prog w) A (compareOp .In x c) Q E s := by
  show wpAny _ A (do return .bool (← contains c x)) Q E s
  refine wpAny_bind (wpAny_contains_slot hT slot (wpAny_mono (call_meetsIn slot hT entry args g h) (fun v s' hv => ?_) fun _ _ e => e))
  obtain ⟨b, rfl, hq⟩ := hv
  exact wpAny_truthy_bool (wpAny_pure hq)
theorem notIn_meetsIn {T id : String} {B : Builtin} {c x : Value} {S : PySem.Spec} {Q : Value → Shared → Prop} (hT : s.TypeIs c T) (slot : Slot T "__contains__" id)
    (entry : entryFor table id = some B) (args : argsOk id ⟨[c, x], []⟩) (g : MeetsIn prog w (B ⟨[c, x], []⟩) S)
    (h : S A (wants (fun v s' => ∃ b, v = .bool b ∧ Q (.bool (!b)) s') E) s) : wpAny (model prog w) A (compareOp .NotIn x c) Q E s := by
  show wpAny _ A (do return .bool (!(← contains c x))) Q E s
  refine wpAny_bind (wpAny_contains_slot hT slot (wpAny_mono (call_meetsIn slot hT entry args g h) (fun v s' hv => ?_) fun _ _ e => e))
  obtain ⟨b, rfl, hq⟩ := hv
  exact wpAny_truthy_bool (wpAny_pure hq)
theorem in_seqIn {neg : Bool} {l : Addr} {items : Array Value} {x : Value} {Q : Value → Shared → Prop} (e : Nat → Bool) (hl : s.heap.IsList l items ∨ s.heap.IsTuple l items) (he : ∀ j (h : j < items.size), EqIn prog w A.in1 s items[j] x (e j))
    (h : Q (.bool (bxor neg ((List.range items.size).any e))) s) : wpAny (model prog w) A (compareOp (if neg then .NotIn else .In) x (.ref l)) Q E s := by
  rcases hl with hl | hl
  · obtain ⟨⟨cls, dd, data, sl⟩, ho, hc, n, hd⟩ := id hl
    simp only at hc hd
    subst hc hd
    cases neg
    · exact in_meetsIn ⟨_, ho, rfl⟩ F.slot_list_contains F.entry_list_contains (F.args_list_contains_2 _ _) (list_containsIn l items n dd sl x e) ⟨ho, he, _, rfl, h⟩
    · exact notIn_meetsIn ⟨_, ho, rfl⟩ F.slot_list_contains F.entry_list_contains (F.args_list_contains_2 _ _) (list_containsIn l items n dd sl x e) ⟨ho, he, _, rfl, h⟩
  · obtain ⟨⟨cls, dd, data, sl⟩, ho, hc, n, hd⟩ := id hl
    simp only at hc hd
    subst hc hd
    cases neg
    · exact in_meetsIn ⟨_, ho, rfl⟩ F.slot_tuple_contains F.entry_tuple_contains (F.args_tuple_contains_2 _ _) (tuple_containsIn l items n dd sl x e) ⟨ho, he, _, rfl, h⟩
    · exact notIn_meetsIn ⟨_, ho, rfl⟩ F.slot_tuple_contains F.entry_tuple_contains (F.args_tuple_contains_2 _ _) (tuple_containsIn l items n dd sl x e) ⟨ho, he, _, rfl, h⟩
end
/-- an item equals x -/
def deqIn (x : D) : List D → Option Bool
  | [] => some false
  | d :: ds => match deq d x, deqIn x ds with
    | some a, some b => some (a || b)
    | _, _ => none
theorem deqIn_some {x : D} : ∀ {ds : List D} {r : Bool}, deqIn x ds = some r → ∃ e : Nat → Bool, (∀ (j : Nat) d, ds[j]? = some d → deq d x = some (e j)) ∧ r = (List.range ds.length).any e
  | [], r, h => ⟨fun _ => false, (fun j d h => by simp at h), by cases h; rfl⟩
  | d :: ds, r, h => by
    unfold deqIn at h
    split at h
    · rename_i a b h1 h2
      cases h
      obtain ⟨e, he, hr⟩ := deqIn_some h2
      refine ⟨fun j => match j with | 0 => a | j + 1 => e j, fun j d' hd => ?_, ?_⟩
      · cases j with
        | zero => simp at hd; subst hd; exact h1
        | succ j => exact he j d' (by simpa using hd)
      · rw [List.length_cons, List.range_succ_eq_map, List.any_cons, List.any_map, hr]
        rfl
    · cases h
def gInE (neg : Bool) (x y : D) (e : Sl) (s : Sto) : ER := match asSeq (vw y e s) with
  | some ds => if depths ds < 40 then (match deqIn (vw x e s) ds with | some b => .ok (.bl (bxor neg b)) e s | none => .stuck) else .stuck
  | none => .stuck
def rInE (K : PySem.W.Frag) (neg : Bool) : R2 := fun x y H Q => ∃ p xs dx ds b, y = .ref p ∧ (SqL K H p xs ∨ SqT K H p xs) ∧ Hd K H x dx ∧ Hds K H xs ds ∧ depths ds < 40 ∧ deqIn dx ds = some b ∧ Q (.bl (bxor neg b)) H
section
variable {X : Cx} {c : Dx} {a b : Expr} {fa fb : EF} {pos : Pos}
theorem op_inE (neg : Bool) (hu : X.A.units + 64 < cLine) : OpR X (compareOp (if neg then .NotIn else .In)) (rInE X.K neg) := by
  intro pins s σ H x y v u Q I rx ry ⟨p, xs, dx, ds, b, hy, hq, hx, hs, hd, hb, q⟩
  subst hy
  cases ry
  obtain ⟨e, he, hr⟩ := deqIn_some hb
  have main : ∀ its, Vals xs its → (s.heap.IsList p its.toArray ∨ s.heap.IsTuple p its.toArray) → wpAny (model X.prog X.w) X.A (compareOp (if neg then .NotIn else .In) v (.ref p)) (EP X pins σ Q) X.xe s := fun its r hl => by
    have hlen := r.length
    have hlen2 := hs.length
    refine in_seqIn (neg := neg) e hl (fun j h => ?_) ?_
    · have hj : j < xs.length := by simp at h; omega
      obtain ⟨d, h1, h2⟩ := hs.at (List.getElem?_eq_getElem hj)
      have h3 := he j d h1
      have hrel : RelV xs[j] (its.toArray[j]) := by
        obtain ⟨u, h4, h5⟩ := Vals.get r (List.getElem?_eq_getElem hj)
        obtain ⟨h6, h7⟩ := List.getElem?_eq_some_iff.mp h4
        simp only [List.getElem_toArray]
        rw [h7]
        exact h5
      have t := hd_eq I 41 (Nat.lt_of_le_of_lt (depths_mem h1) (by omega)) h2 hx h3 hrel rx
      exact t.at X.A.in1 (by show X.A.units + 1 + _ < cLine; omega)
    · refine ⟨.bl _, H, I, rfl, ?_⟩
      rw [show its.toArray.size = ds.length by simp; omega, ← hr]
      exact q
  rcases hq with hq | hq
  · obtain ⟨its, r, pl, hz⟩ := I.list hq
    exact main its r (.inl pl.isList)
  · obtain ⟨its, r, pl, hz⟩ := I.tuple hq
    exact main its r (.inr pl)
theorem opD_inE (neg : Bool) : OpD X (rInE X.K neg) (gInE neg) := by
  intro c F ρ e st σ H x y v u Q r rx ry h
  have hy := vw_ok r ry
  have hx := vw_ok r rx
  unfold gInE at h
  generalize vw y e st = dy at *
  generalize vw x e st = dx at *
  split at h
  · rename_i ds hds
    obtain ⟨a, vs, rfl, hs, rs⟩ := hy.seq hds
    split at h
    · rename_i hd
      split at h
      · rename_i b hb
        exact ⟨a, vs, dx, ds, b, rfl, hs, hx.hd, rs.hd, hd, hb, h.bl r⟩
      · exact h.elim
    · exact h.elim
  · exact h.elim
theorem cm_inE (hu : X.A.units + 64 < cLine) (ha : DE c X a fa) (hb : DE c X b fb) (hm : behindInMarks .In b = false := by rfl) : Cm c X .In a b pos (eBin (gInE false) fa fb) := cm_of (op_inE false hu) (opD_inE false) ha hb hm
theorem cm_notInE (hu : X.A.units + 64 < cLine) (ha : DE c X a fa) (hb : DE c X b fb) (hm : behindInMarks .NotIn b = false := by rfl) : Cm c X .NotIn a b pos (eBin (gInE true) fa fb) := cm_of (op_inE true hu) (opD_inE true) ha hb hm
end
end DL
end
section
set_option Elab.async false
set_option linter.all false
set_option maxRecDepth 100000
set_option maxHeartbeats 4000000
set_option autoImplicit false
/-! DLU: objects of the store: lists and dicts that are shared, instances, fields, methods. -/
namespace DL
open PySem PySem.Spec L2
open PyProof.Rows hiding St
section
variable {K : PySem.W.Frag} {mg : Str → Option Value} {c : Dx} {F F' F1 F2 : Addr → Prop} {ρ ρ' ρ1 ρ2 : List Addr} {H H' H1 H2 : Hp} {e e' e1 e2 : Sl} {σ σ' : St} {st st' st1 st2 : Sto} {Q Q' : VK}
theorem le_push {p : Addr} : Le F ρ H F (ρ ++ [p]) H := ⟨fun _ z => z, fun _ _ _ z => z, fun _ _ _ z => z, fun _ _ _ z => z, fun i a z => by
    rw [List.getElem?_append_left (List.getElem?_eq_some_iff.mp z).1]; exact z⟩
/-- an object that nobody owns becomes one of the store -/
theorem R.publish (r : R K mg c F ρ e st σ H) {a : Addr} {d : D} (hd : CRep K F ρ H a d) (hF : ¬ F a) (hR : a ∉ ρ) (hO : ¬ OwnAt e σ a) (h0 : c.H a = none) :
    R K mg c F (ρ ++ [a]) e (st ++ [.obj d]) σ H := by
  have le : Le F ρ H F (ρ ++ [a]) H := le_push
  refine ⟨⟨by simp [r.w.len], ?_, fun b hb => ?_, r.w.tr, fun i b s h1 h2 => ?_⟩, ⟨r.x.toLe.trans le, r.x.keep, r.x.newF, fun b z => ?_, r.x.there⟩, r.len, fun j s h => ?_, r.dist⟩
  · refine List.nodup_append.mpr ⟨r.w.nd, by simp, fun x hx b hb => ?_⟩
    simp only [List.mem_singleton] at hb
    subst hb
    exact fun q => hR (q ▸ hx)
  · rcases List.mem_append.mp hb with z | z
    · exact r.w.nF b z
    · simp only [List.mem_singleton] at z; subst z; exact hF
  · by_cases hi : i < ρ.length
    · rw [List.getElem?_append_left hi] at h1
      rw [List.getElem?_append_left (by rw [← r.w.len]; exact hi)] at h2
      exact (r.w.so i b s h1 h2).mono le fun _ z => z
    · have hi2 : i = ρ.length := by
        have q := (List.getElem?_eq_some_iff.mp h1).1
        rw [List.length_append, List.length_singleton] at q
        omega
      subst hi2
      rw [List.getElem?_append_right (Nat.le_refl _), Nat.sub_self] at h1
      rw [r.w.len, List.getElem?_append_right (Nat.le_refl _), Nat.sub_self] at h2
      cases h1
      cases h2
      exact hd.mono le fun _ z => z
  · rcases List.mem_append.mp z with z | z
    · exact r.x.newR b z
    · simp only [List.mem_singleton] at z; subst z; exact .inr h0
  · obtain ⟨v, e1, q⟩ := r.slot j s h
    refine ⟨v, e1, q.mono le fun b o' hs' hv' => ?_⟩
    subst hs'
    obtain ⟨b', e2, q2, q3, q4, q5⟩ := q
    rw [e2] at hv'
    cases hv'
    refine ⟨fun u hu => hu, q3, fun z => ?_⟩
    rcases List.mem_append.mp z with z | z
    · exact q4 z
    · simp only [List.mem_singleton] at z
      subst z
      exact hO ⟨j, o', h, e1.trans (by rw [e2])⟩
theorem LeE.push (le : LeE e e' σ F ρ H F' ρ' H') {a : Addr} (h0 : H a = none) : LeE e e' σ F ρ H F' (ρ' ++ [a]) H' :=
  ⟨le.toLe.trans le_push, le.ow, le.keep, le.newF, fun b z => by
    rcases List.mem_append.mp z with z | z
    · exact le.newR b z
    · simp only [List.mem_singleton] at z; subst z; exact .inr h0, le.there⟩
theorem R.writeSt (r : R K mg c F ρ e st σ H) {i : Nat} {a : Addr} {o : HO} {so : SO} (hi : ρ[i]? = some a) (hs : SRep K mg F ρ (upd H a o) a so) : R K mg c F ρ e (st.set i so) σ (upd H a o) := by
  obtain ⟨w, x⟩ := writeS r.w hi hs
  exact r.ext x w
theorem R.refAt (r : R K mg c F ρ e st σ H) {i : Nat} {v : V} {so : SO} (x : RepX K F ρ H σ v (.ref i)) (h : st[i]? = some so) : ∃ a, v = .ref a ∧ ρ[i]? = some a ∧ SRep K mg F ρ H a so := by
  rcases x with ⟨j, a, h1, _⟩ | x
  · cases h1
  · cases x with
    | @ref a _ hi => exact ⟨a, rfl, hi, r.w.so i a so hi h⟩
/-! ### fields -/
def putFD (f : Str) (d : D) : List (Str × D) → List (Str × D)
  | [] => [(f, d)]
  | (g, x) :: r => if g = f then (g, d) :: r else (g, x) :: putFD f d r
def lkF : List (Str × D) → Str → Option D
  | [], _ => none
  | (g, d) :: r, f => if g = f then some d else lkF r f
theorem RepF.lk : ∀ {fs : List (Str × D)} {gs : List (Str × V)} {f : Str}, RepF K F ρ H gs fs → (lkF fs f = none → gs.lookup f = none) ∧ ∀ d, lkF fs f = some d → ∃ v, gs.lookup f = some v ∧ Rep K F ρ H v d
  | [], _, f, h => by cases h; exact ⟨fun _ => rfl, fun d h => nomatch h⟩
  | (g, x) :: r, _, f, h => by
    cases h with
    | @cons k v vs _ _ h1 h2 =>
      obtain ⟨i1, i2⟩ := RepF.lk (f := f) h2
      unfold lkF
      by_cases hg : g = f
      · subst hg
        rw [if_pos rfl]
        refine ⟨(fun z => nomatch z), fun d z => ⟨v, ?_, by cases z; exact h1⟩⟩
        rw [List.lookup_cons, beq_self_eq_true]
      · rw [if_neg hg]
        have hb : (f == g) = false := by
          rw [Bool.eq_false_iff]
          intro z
          exact hg (beq_iff_eq.mp z).symm
        rw [List.lookup_cons, hb]
        exact ⟨i1, i2⟩
theorem RepF.put {f : Str} {v : V} {d : D} (x : Rep K F ρ H v d) : ∀ {fs : List (Str × D)} {gs : List (Str × V)}, RepF K F ρ H gs fs → RepF K F ρ H (putF f v gs) (putFD f d fs)
  | [], _, h => by cases h; exact .cons x .nil
  | (g, y) :: r, _, h => by
    cases h with
    | cons h1 h2 =>
      unfold putF putFD
      by_cases hg : g = f
      · rw [if_pos hg, if_pos hg]; exact .cons x h2
      · rw [if_neg hg, if_neg hg]; exact .cons h1 (RepF.put x h2)
theorem RepF.length : ∀ {fs : List (Str × D)} {gs : List (Str × V)}, RepF K F ρ H gs fs → gs.length = fs.length
  | [], _, h => by cases h; rfl
  | _ :: _, _, h => by cases h with | cons h1 h2 => rw [List.length_cons, List.length_cons, RepF.length h2]
end
/-- a class and one of its fields -/
structure FldOk (K : PySem.W.Frag) (mg : Str → Option Value) (cls f : Str) : Prop where
  ex : ∃ C : Addr, mg cls = some (.ref C) ∧ Cls K C ∧ NoAttr K C f
def fldAt (cls f : Str) (x : D) (s : Sto) : Option D := match x with
  | .ref i => (match s[i]? with
    | some (.ins c fs) => if c = cls then lkF fs f else none
    | _ => none)
  | _ => none
def gFld (cls f : Str) (x : D) (e : Sl) (s : Sto) : ER := match fldAt cls f x s with
  | some d => .ok d e s
  | none => .stuck
/-- what a store to a field leaves -/
def fldPut (cls f : Str) (x d : D) (s : Sto) : Option Sto := match x with
  | .ref i => (match s[i]? with
    | some (.ins c fs) => if c = cls ∧ fs.length < 1000 then some (s.set i (.ins c (putFD f d fs))) else none
    | _ => none)
  | _ => none
/-- what a store to a place leaves -/
def objPut (x k d : D) (s : Sto) : Option Sto := match x with
  | .ref i => (match s[i]? with
    | some (.obj c) => (match putC c k d with
      | some c' => some (s.set i (.obj c'))
      | none => none)
    | _ => none)
  | _ => none
section
variable {X : Cx} {c : Dx} {a b ex o : Expr} {es : List Expr} {fa fb fo fk fv : EF} {fs : AF} {pos : Pos} {f : EF}
/-! ### a new object of the store -/
def eSto (f : EF) : EF := fun e s => (f e s).bind fun d e s => .ok (.ref s.length) e (s ++ [.obj d])
theorem de_sto (h : DN c X a fa) : DE c X a (eSto fa) := by
  refine ⟨fun pins s σ H Q I ⟨F, ρ, e, st, r, q⟩ => h.run pins s σ H Q I ⟨F, ρ, e, st, r, ?_⟩⟩
  unfold eSto at q
  cases hr : fa e st with
  | stuck => rw [hr] at q; exact q
  | exc n e1 s1 => rw [hr] at q; exact q
  | ok d e1 s1 =>
    rw [hr] at q
    intro F' ρ' H' p l r1 cr n1 n2 n3 n4
    have c0 : c.H p = none := by
      cases z : c.H p with
      | none => rfl
      | some o => exact absurd n4 (r.x.there p (some_ne z))
    refine q F' (ρ' ++ [p]) H' (.ref p) (l.push n4) (r1.publish cr n1 n2 n3 c0) (.inr (.ref ?_))
    rw [← r1.w.len, List.getElem?_append_right (Nat.le_refl _), Nat.sub_self]
    rfl
/-! ### fields -/
theorem fld_ok {K : PySem.W.Frag} {mg : Str → Option Value} {F : Addr → Prop} {ρ : List Addr} {H : Hp} {e : Sl} {st : Sto} {σ : St} {v : V} {x d : D} {cls fn : Str} (r : R K mg c F ρ e st σ H) (rx : RepX K F ρ H σ v x) (h : fldAt cls fn x st = some d) (T : FldOk K mg cls fn) :
    ∃ a C dx gs u, v = .ref a ∧ H a = some (.ins C dx gs) ∧ Cls K C ∧ NoAttr K C fn ∧ gs.lookup fn = some u ∧ Rep K F ρ H u d ∧ mg cls = some (.ref C) := by
  unfold fldAt at h
  split at h
  · split at h
    · rename_i hs
      split at h
      · rename_i hc
        obtain ⟨a, rfl, h1, C, dx, gs, h2, h3, h4⟩ := r.refAt rx hs
        obtain ⟨C', t1, t2, t3⟩ := T.ex
        rw [hc, t1] at h2
        cases h2
        obtain ⟨u, h5, h6⟩ := (RepF.lk h4).2 d h
        exact ⟨a, _, dx, gs, u, rfl, h3, t2, t3, h5, h6, t1⟩
      · cases h
    · cases h
  · cases h
theorem de_fld {cls fn : Str} (T : FldOk X.K X.mg cls fn) (ho : DE c X o fo) (hb : attributeBase o fn X.env (eval o X.env) = eval o X.env := by rfl) : DE c X (.Attribute o fn pos) (eUn (gFld cls fn) fo) := by
  refine de_imp (pe_fld ho hb) fun F ρ e st σ H Q r q => ⟨F, ρ, e, st, r, bindE q fun F1 ρ1 e1 st1 H1 v x le1 r1 rx h1 => ?_⟩
  unfold gFld at h1
  split at h1
  · rename_i d hd
    obtain ⟨a, C, dx, gs, u, g1, g2, g3, g4, g5, g6, _⟩ := fld_ok r1 rx hd T
    exact ⟨a, C, dx, gs, u, g1, g2, g3, g4, g5, h1 F1 ρ1 H1 u LeE.refl r1 (.inr g6)⟩
  · exact h1.elim
theorem put_ok {K : PySem.W.Frag} {mg : Str → Option Value} {F : Addr → Prop} {ρ : List Addr} {H : Hp} {e : Sl} {st st' : Sto} {σ : St} {v u : V} {x d : D} {cls fn : Str} (r : R K mg c F ρ e st σ H) (rx : RepX K F ρ H σ v x) (rd : Rep K F ρ H u d) (h : fldPut cls fn x d st = some st') (T : FldOk K mg cls fn) :
    ∃ a C dx gs, v = .ref a ∧ H a = some (.ins C dx gs) ∧ Cls K C ∧ NoAttr K C fn ∧ gs.length < 1000 ∧ R K mg c F ρ e st' σ (upd H a (.ins C dx (putF fn u gs))) ∧ Le F ρ H F ρ (upd H a (.ins C dx (putF fn u gs))) ∧ mg cls = some (.ref C) := by
  unfold fldPut at h
  split at h
  · split at h
    · rename_i hs
      split at h
      · rename_i hc
        obtain ⟨a, rfl, h1, C, dx, gs, h2, h3, h4⟩ := r.refAt rx hs
        obtain ⟨C', t1, t2, t3⟩ := T.ex
        rw [hc.1, t1] at h2
        cases h2
        cases h
        have nF : ¬ F a := r.w.nF a (List.mem_of_getElem? h1)
        have le := fun o => le_upd (ρ := ρ) (H := H) (a := a) (o := o) nF
        exact ⟨a, _, dx, gs, rfl, h3, t2, t3, by rw [h4.length]; exact hc.2, r.writeSt h1 ⟨_, dx, _, by rw [hc.1]; exact t1, upd_same, (h4.mono (le _)).put (rd.mono (le _))⟩, le _, t1⟩
      · cases h
    · cases h
  · cases h
theorem de_fz_post {K : PySem.W.Frag} {mg : Str → Option Value} {F : Addr → Prop} {ρ : List Addr} {H : Hp} {e : Sl} {σ : St} {st : Sto} {Q' : VK} {k : D → Sl → Sto → OR} {D : Ends} (h : SPost K mg c F ρ H D ((eFz f e st).bindS k))
    (q : ∀ F1 ρ1 e1 st1 H1 v d, LeE e e1 σ F ρ H F1 ρ1 H1 → R K mg c F1 ρ1 e1 st1 σ H1 → Rep K F1 ρ1 H1 v d → SPost K mg c F1 ρ1 H1 D (k d e1 st1) → Q' v H1) : EPost K mg c e σ F ρ H Q' (f e st) := bindFz h q
/-- o.f = v -/
def sFldS (cls fn : Str) (fo fv : EF) : SF := fun e s => (eFz fv e s).bindS fun d e s => (fo e s).bindS fun x e s => match fldPut cls fn x d s with
  | some s' => .nx e s'
  | none => .stuck
theorem ds_fld {fn cls : Str} {ap : Pos} (T : FldOk X.K X.mg cls fn) (hv : DE c X a fv) (ho : DE c X o fo) (hs : swapsWith a (some (.Attribute o fn ap)) pos.line X.env = pure false := by rfl) : DS c X (.Assign [.Attribute o fn ap] a pos) (sFldS cls fn fo fv) := by
  refine ds_imp (ps_fld ho hv hs) fun F ρ e st σ H D r q => ⟨F, ρ, e, st, r, ?_⟩
  unfold sFldS at q
  refine de_fz_post q fun F1 ρ1 e1 st1 H1 v1 d l r1 x1 h1 => ⟨F1, ρ1, e1, st1, r1, bindES h1 fun F2 ρ2 e2 st2 H2 v2 x l2 r2 x2 h2 => ?_⟩
  split at h2
  · rename_i s' hs'
    obtain ⟨a, C, dx, gs, g1, g2, g3, g4, g5, g6, g7, _⟩ := put_ok r2 x2 (x1.mono l2.toLe) hs' T
    exact ⟨a, C, dx, gs, g1, g2, g3, g4, g5, h2 F2 ρ2 σ _ g7 g6⟩
  · exact h2.elim
end
end DL
end
section
set_option Elab.async false
set_option linter.all false
set_option maxRecDepth 100000
set_option maxHeartbeats 4000000
set_option autoImplicit false
/-! DLW: methods, instances made, stores through what is shared, targets, while. -/
namespace DL
open PySem PySem.Spec L2
open PyProof.Rows hiding St
/-- a method by what it does -/
structure MCallee (P : Program) (w : World) (K : PySem.W.Frag) (mg : Str → Option Value) (base : Heap) (cls m : Str) (n k : Nat) (fn : Fn) : Prop where
  ex : ∃ (C f : Addr) (fd : FuncData) (ps : List Str), mg cls = some (.ref C) ∧ Cls K C ∧ Meth K C m f ∧ FnOk P w K mg base (CX P w) k f fd ps (spD K mg n fn) ∧ Binds K fd ps []
theorem MCallee.mono {P : Program} {w : World} {K : PySem.W.Frag} {mg : Str → Option Value} {base : Heap} {cls m : Str} {n k k' : Nat} {fn : Fn} (C : MCallee P w K mg base cls m n k fn) (h : k ≤ k') : MCallee P w K mg base cls m n k' fn := by
  obtain ⟨C, f, fd, ps, h1, h2, h3, h4, h5⟩ := C.ex
  exact ⟨C, f, fd, ps, h1, h2, h3, h4.mono h, h5⟩
/-- a class by what its __init__ does -/
structure MkCallee (P : Program) (w : World) (K : PySem.W.Frag) (mg : Str → Option Value) (base : Heap) (cls : Str) (n k : Nat) (fn : Fn) : Prop where
  ex : ∃ (C f : Addr) (fd : FuncData) (ps : List Str), mg cls = some (.ref C) ∧ Mk K C f ∧ FnOk P w K mg base (CX P w) k f fd ps (spD K mg n fn) ∧ Binds K fd ps []
theorem MkCallee.mono {P : Program} {w : World} {K : PySem.W.Frag} {mg : Str → Option Value} {base : Heap} {cls : Str} {n k k' : Nat} {fn : Fn} (C : MkCallee P w K mg base cls n k fn) (h : k ≤ k') : MkCallee P w K mg base cls n k' fn := by
  obtain ⟨C, f, fd, ps, h1, h2, h3, h4⟩ := C.ex
  exact ⟨C, f, fd, ps, h1, h2, h3.mono h, h4⟩
section
variable {X : Cx} {CX : CXT} {k : Nat} {f C : Addr} {fd : FuncData} {ps : List Str} {sp : Sp} {dvs : List V} {ds : List Value} {E : St → XK} {x m : Str} {p pos apos : Pos} {e o : Expr} {es : List Expr} {ta : TE} {t : TA}
def tMethSD (C : Addr) (m : Str) (sp : Sp) (E : St → XK) (ta : TE) (t : TA) : TE := fun σ H Q => ta σ H fun x H1 => ∃ a dx fs, x = .ref a ∧ H1 a = some (.ins C dx fs) ∧ fs.lookup m = none ∧
  t σ H1 fun vs H2 => sp (x :: vs) H2 Q (E σ)
theorem pe_methSD {pl : Sem Bool} (he : PE X o ta) (c : Cls X.K C) (hm : Meth X.K C m f) (F : FnOk X.prog X.w X.K X.mg X.base CX k f fd ps sp) (hr : Room k X.A) (hb : Binds X.K fd ps []) (hx : ∀ σ, PassesAt CX X σ (E σ)) (ha : PA X (e :: es) t)
    (hst : starEach (e :: es) X.env = (false, eval e X.env) :: starEach es X.env := by rfl) (hpl : (backTo pos (starEach es X.env)).any (·.1) = false := by rfl)
    (ht : eval (.Call (.Attribute o m apos) (e :: es) [] pos) X.env = (do
      let ov ← eval o X.env
      standAt apos.atName
      let (f, first) ← holding [ov] (getMethod ov m pl)
      callWith pos f first (backTo pos (starEach (e :: es) X.env)) (backToKw pos (keywordEach [] X.env))) := by rfl) :
    PE X (.Call (.Attribute o m apos) (e :: es) [] pos) (tMethSD C m sp E ta t) := by
  refine ⟨fun pins s σ H Q I h => ?_⟩
  refine PySem.W.methodCall_KW (pl := pl) (thn (he.run pins s σ H _ I h) fun u s1 ⟨x, H1, I1, rx, a, dx, fs, ex, ea, l, q⟩ => ?_) ht
  subst ex
  obtain rfl : u = Value.ref a := rx
  refine getmeth_ok I1 ea c hm l ?_
  refine PySem.W.callWith_K (first := [.ref a]) (h₀ := X.base) I.ok.mod.kin hm.kp (thn (ha.run pos pins s1 σ H1 _ I1 q) fun us s2 ⟨vs, H2, I2, r, q2⟩ => ⟨I2.kIn, ?_⟩) hst hpl
  exact run_fnSD (dvs := []) (ds := []) (us := .ref a :: us) (vs := .ref a :: vs) F hr hb .nil (hx σ) I2 (.cons rfl r) (by rw [List.append_nil]; exact q2)
theorem pe_methSD0 {pl : Sem Bool} (he : PE X o ta) (c : Cls X.K C) (hm : Meth X.K C m f) (F : FnOk X.prog X.w X.K X.mg X.base CX k f fd ps sp) (hr : Room k X.A) (hb : Binds X.K fd ps []) (hx : ∀ σ, PassesAt CX X σ (E σ))
    (ht : eval (.Call (.Attribute o m apos) [] [] pos) X.env = (do
      let ov ← eval o X.env
      standAt apos.atName
      let (f, first) ← holding [ov] (getMethod ov m pl)
      callWith pos f first (backTo pos (starEach [] X.env)) (backToKw pos (keywordEach [] X.env))) := by rfl) :
    PE X (.Call (.Attribute o m apos) [] [] pos) (tMethSD C m sp E ta tNil) := by
  refine ⟨fun pins s σ H Q I h => ?_⟩
  refine PySem.W.methodCall_KW (pl := pl) (thn (he.run pins s σ H _ I h) fun u s1 ⟨x, H1, I1, rx, a, dx, fs, ex, ea, l, q⟩ => ?_) ht
  subst ex
  obtain rfl : u = Value.ref a := rx
  refine getmeth_ok I1 ea c hm l ?_
  exact PySem.W.callWith_K0 (first := [.ref a]) I1.kIn hm.kp (run_fnSD (dvs := []) (ds := []) (us := [.ref a]) (vs := [.ref a]) F hr hb .nil (hx σ) I1 (.cons rfl .nil) q)
def tMakeSD (C : Addr) (sp : Sp) (E : St → XK) (t : TA) : TE := fun σ H Q => t σ H fun vs H1 => ∀ x dx, H1 x = none → H1 dx = none → dx ≠ x →
  sp (.ref x :: vs) (upd (upd H1 dx (.own x)) x (.ins C dx [])) (fun v H2 => v = .non ∧ Q (.ref x) H2) (E σ)
theorem run_makeSD {pins : List (Addr × Obj)} {σ : St} {H : Hp} {s : Shared} {Q : VK} {us : List Value} {vs : List V} (M : Mk X.K C f) (F : FnOk X.prog X.w X.K X.mg X.base CX k f fd ps sp) (hr : Room (k + 1) X.A) (hb : Binds X.K fd ps [])
    (hx : PassesAt CX X σ (E σ)) (I : Inv X pins σ H s) (r : Vals vs us)
    (h : ∀ x dx, H x = none → H dx = none → dx ≠ x → sp (.ref x :: vs) (upd (upd H dx (.own x)) x (.ins C dx [])) (fun v H2 => v = .non ∧ Q (.ref x) H2) (E σ)) :
    wpAny (model X.prog X.w) X.A (call (.ref C) us) (EP X pins σ Q) X.xe s := by
  have hq := h (s.heap.objs.size + 1) s.heap.objs.size (I.hok.fresh (Nat.le_succ _)) (I.hok.fresh (Nat.le_refl _)) (Nat.ne_of_lt (Nat.lt_succ_self _))
  have I2 := Inv.made (C := C) I
  have r2 : Vals (V.ref (s.heap.objs.size + 1) :: vs) (Value.ref (s.heap.objs.size + 1) :: us) := .cons rfl r
  have hl : (Value.ref (s.heap.objs.size + 1) :: us ++ []).length = ps.length := by
    have e := r2.length
    rw [F.len _ _ _ _ hq] at e
    rw [List.append_nil]
    exact e.symm
  have hb2 := hb _ (Value.ref (s.heap.objs.size + 1) :: us) I2.kIn hl
  rw [List.append_nil] at hb2
  refine wpAny_call (make_map (f := f) I.kIn M.makes M.init (beq_iff_eq.mp M.fn) (codeAny_mono (F.run _ X.stack _ _ ⟨Value.ref (s.heap.objs.size + 1) :: us, []⟩ (Value.ref (s.heap.objs.size + 1) :: us) _ _ (E σ) (hr.make C us [])
    (I2.env0.make C us []) hb2 r2 hq) fun r s' hq' => ?_))
  cases r with
  | error e => exact hx pins _ _ e s' I2 hq'
  | ok fl =>
    cases fl with
    | ret u =>
      obtain ⟨v, H', I3, rv, ev, q3⟩ := I2.after hq'
      subst ev
      exact ⟨rv, ⟨V.ref (s.heap.objs.size + 1), H', I3, rfl, q3⟩⟩
    | next => exact False.elim hq'
    | brk => exact False.elim hq'
    | cont => exact False.elim hq'
theorem pe_makeSD (M : Mk X.K C f) (F : FnOk X.prog X.w X.K X.mg X.base CX k f fd ps sp) (hr : Room (k + 1) X.A) (hg : Gl X x) (hm : X.mg x = some (.ref C)) (hb : Binds X.K fd ps []) (hx : ∀ σ, PassesAt CX X σ (E σ))
    (ha : PA X (e :: es) t) (hdb : (x == ("__debug__" : Str)) = false := by decide) (he : starEach (e :: es) X.env = (false, eval e X.env) :: starEach es X.env := by rfl) (hpl : (backTo pos (starEach es X.env)).any (·.1) = false := by rfl) :
    PE X (.Call (.Name x p) (e :: es) [] pos) (tMakeSD C sp E t) := by
  refine ⟨fun pins s σ H Q I h => ?_⟩
  refine wpAny_Call_Name_kw (ld_glob I hg hm ?_ hdb)
  refine PySem.W.callWith_K (h₀ := X.base) I.ok.mod.kin M.kp (thn (ha.run pos pins s σ H _ I h) fun us s1 ⟨vs, H1, I1, r, q⟩ => ⟨I1.kIn, ?_⟩) he hpl
  exact run_makeSD M F hr hb (hx σ) I1 r q
end
/-- is it an instance of the class that has no field of the name -/
def insOf (cls m : Str) (x : D) (s : Sto) : Bool := match x with
  | .ref i => (match s[i]? with
    | some (.ins c gs) => decide (c = cls) && (lkF gs m).isNone
    | _ => false)
  | _ => false
section
variable {X : Cx} {c : Dx} {a b ex o : Expr} {es : List Expr} {fa fb fo fk fv : EF} {fs : AF} {pos : Pos} {f : EF} {p p2 apos cpos : Pos}
/-! ### o.m(..) -/
def eMeth (cls m : Str) (n : Nat) (fn : Fn) (fo : EF) (fs : AF) : EF := fun e s => (fo e s).bind fun x e s => if insOf cls m x s = true then (fs e s).bind fun ds e s => if (x :: ds).length = n then (match fn (x :: ds) s with | .ok (.val d) s' => .ok d e s' | .ok (.new d) s' => .ok d e s' | .exc k s' => .exc k e s' | .stuck => .stuck) else .stuck else .stuck
theorem insOf_ok {K : PySem.W.Frag} {mg : Str → Option Value} {F : Addr → Prop} {ρ : List Addr} {H : Hp} {e : Sl} {st : Sto} {σ : St} {v : V} {x : D} {cls m : Str} {C : Addr} (r : R K mg c F ρ e st σ H) (rx : RepX K F ρ H σ v x) (h : insOf cls m x st = true) (hC : mg cls = some (.ref C)) :
    Rep K F ρ H v x ∧ ∃ a dx gs, v = .ref a ∧ H a = some (.ins C dx gs) ∧ gs.lookup m = none := by
  unfold insOf at h
  split at h
  · split at h
    · rename_i hs
      rw [Bool.and_eq_true] at h
      obtain ⟨a, rfl, h1, C', dx, gs, h2, h3, h4⟩ := r.refAt rx hs
      rw [of_decide_eq_true h.1, hC] at h2
      cases h2
      exact ⟨.ref h1, a, dx, gs, rfl, h3, (RepF.lk h4).1 (by simpa using h.2)⟩
    · cases h
  · cases h
theorem de_meth {cls m : Str} {n k : Nat} {fn : Fn} {pl : Sem Bool} (M : MCallee X.prog X.w X.K X.mg X.base cls m n k fn) (hr : Room k X.A) (tk : Takes X c.W) (ho : DE c X o fo) (ha : DA c X (a :: es) fs)
    (hst : starEach (a :: es) X.env = (false, eval a X.env) :: starEach es X.env := by rfl) (hpl : (backTo pos (starEach es X.env)).any (·.1) = false := by rfl)
    (ht : eval (.Call (.Attribute o m apos) (a :: es) [] pos) X.env = (do
      let ov ← eval o X.env
      standAt apos.atName
      let (f, first) ← holding [ov] (getMethod ov m pl)
      callWith pos f first (backTo pos (starEach (a :: es) X.env)) (backToKw pos (keywordEach [] X.env))) := by rfl) : DE c X (.Call (.Attribute o m apos) (a :: es) [] pos) (eMeth cls m n fn fo fs) := by
  obtain ⟨C, fa, fd, ps, h1, h2, h3, h4, h5⟩ := M.ex
  refine de_imp (pe_methSD (E := WE c.W) ho h2 h3 h4 hr h5 (fun σ => L2.passAt tk σ) ha hst hpl ht) fun F ρ e st σ H Q r q => ⟨F, ρ, e, st, r, bindE q fun F1 ρ1 e1 st1 H1 v x le1 r1 rx g => ?_⟩
  split at g
  · rename_i hi
    obtain ⟨rx', a', dx, gs, rfl, g1, g2⟩ := insOf_ok r1 rx hi h1
    refine ⟨a', dx, gs, rfl, g1, g2, F1, ρ1, e1, st1, r1, bindA g fun F2 ρ2 e2 st2 H2 vs ds le2 r2 rs g3 => ?_⟩
    exact call_post r2 (.cons (rx'.mono le2.toLe) rs) g3
  · exact g.elim
theorem de_meth0 {cls m : Str} {n k : Nat} {fn : Fn} {pl : Sem Bool} (M : MCallee X.prog X.w X.K X.mg X.base cls m n k fn) (hr : Room k X.A) (tk : Takes X c.W) (ho : DE c X o fo)
    (ht : eval (.Call (.Attribute o m apos) [] [] pos) X.env = (do
      let ov ← eval o X.env
      standAt apos.atName
      let (f, first) ← holding [ov] (getMethod ov m pl)
      callWith pos f first (backTo pos (starEach [] X.env)) (backToKw pos (keywordEach [] X.env))) := by rfl) : DE c X (.Call (.Attribute o m apos) [] [] pos) (eMeth cls m n fn fo aNil) := by
  obtain ⟨C, fa, fd, ps, h1, h2, h3, h4, h5⟩ := M.ex
  refine de_imp (pe_methSD0 (E := WE c.W) ho h2 h3 h4 hr h5 (fun σ => L2.passAt tk σ) ht) fun F ρ e st σ H Q r q => ⟨F, ρ, e, st, r, bindE q fun F1 ρ1 e1 st1 H1 v x le1 r1 rx g => ?_⟩
  split at g
  · rename_i hi
    obtain ⟨rx', a', dx, gs, rfl, g1, g2⟩ := insOf_ok r1 rx hi h1
    exact ⟨a', dx, gs, rfl, g1, g2, call_post r1 (.cons rx' .nil) g⟩
  · exact g.elim
/-! ### C(..) -/
def eMake (cls : Str) (n : Nat) (fn : Fn) (fs : AF) : EF := fun e s => (fs e s).bind fun ds e s => if ds.length + 1 = n then (match fn (.ref s.length :: ds) (s ++ [.ins cls []]) with | .ok (.val .non) s' => .ok (.ref s.length) e s' | .exc k s' => .exc k e s' | _ => .stuck) else .stuck
theorem de_make {x : Str} {n k : Nat} {fn : Fn} (M : MkCallee X.prog X.w X.K X.mg X.base x n k fn) (hr : Room (k + 1) X.A) (tk : Takes X c.W) (hg : Gl X x) (ha : DA c X (a :: es) fs) (hdb : (x == ("__debug__" : Str)) = false := by decide)
    (he : starEach (a :: es) X.env = (false, eval a X.env) :: starEach es X.env := by rfl) (hpl : (backTo pos (starEach es X.env)).any (·.1) = false := by rfl) : DE c X (.Call (.Name x p) (a :: es) [] pos) (eMake x n fn fs) := by
  obtain ⟨C, fa, fd, ps, h1, h2, h3, h4⟩ := M.ex
  refine de_imp (pe_makeSD (E := WE c.W) h2 h3 hr hg h1 h4 (fun σ => L2.passAt tk σ) ha hdb he hpl) fun F ρ e st σ H Q r q => ⟨F, ρ, e, st, r, bindA q fun F1 ρ1 e1 st1 H1 vs ds le1 r1 rs g => ?_⟩
  intro x' dx n1 n2 n3
  split at g
  · rename_i hn
    obtain ⟨w0, x0, _, _⟩ := allocW r1.w (o := .own x') n2
    have nx : upd H1 dx (.own x') x' = none := by rw [upd_ne (Ne.symm n3)]; exact n1
    obtain ⟨w2, x2⟩ := allocS w0 (p := x') (o := .ins C dx []) (so := .ins x []) nx ⟨C, dx, [], h1, upd_same, .nil⟩
    have xx := x0.trans x2
    refine ⟨F1, ρ1 ++ [x'], st1 ++ [.ins x []], .ref st1.length :: ds, by rw [List.length_cons, rs.length]; exact hn, w2, .cons (.ref ?_) (rs.mono xx.toLe), ?_⟩
    · rw [← r1.w.len, List.getElem?_append_right (Nat.le_refl _), Nat.sub_self]
      rfl
    · cases hf : fn (.ref st1.length :: ds) (st1 ++ [.ins x []]) with
      | ok rv st' =>
        rw [hf] at g
        intro F' ρ' H' v y w rr
        cases rv with
        | val d =>
          cases d <;> first | exact g.elim | skip
          have rv' : Rep X.K F' ρ' H' v .non := rr
          cases rv'
          have xy := xx.trans y
          refine ⟨rfl, g F' ρ' H' (.ref x') xy.toLeE (r1.ext xy w) (.inr (.ref (y.pre _ _ ?_)))⟩
          rw [← r1.w.len, List.getElem?_append_right (Nat.le_refl _), Nat.sub_self]
          rfl
        | new d => exact g.elim
      | exc k st' =>
        rw [hf] at g
        intro F' ρ' H' C' y w hk
        exact g F' ρ' H' C' (r1.ext (xx.trans y) w) hk
      | stuck => rw [hf] at g; exact g
  · exact g.elim
/-! ### o[k] = v, o.append(v), shared -/
def sPutR (fo fk fv : EF) : SF := fun e s => (eFz fv e s).bindS fun d e s => (fo e s).bindS fun x e s => (eFz fk e s).bindS fun k e s => match objPut x k d s with
  | some s' => .nx e s'
  | none => .stuck
theorem objPut_ok {K : PySem.W.Frag} {mg : Str → Option Value} {F : Addr → Prop} {ρ : List Addr} {H : Hp} {e : Sl} {st st' : Sto} {σ : St} {v u w : V} {x k d : D} (r : R K mg c F ρ e st σ H) (rx : RepX K F ρ H σ v x) (rk : Rep K F ρ H u k) (rd : Rep K F ρ H w d) (h : objPut x k d st = some st') (D : Hp → Prop)
    (q : ∀ H', Le F ρ H F ρ H' → R K mg c F ρ e st' σ H' → D H') : rSetL v u w H D ∨ rSetD v u w H D := by
  unfold objPut at h
  split at h
  · split at h
    · rename_i co hs
      split at h
      · rename_i c' hc
        cases h
        obtain ⟨a, rfl, h1, h2⟩ := r.refAt rx hs
        have nF : ¬ F a := r.w.nF a (List.mem_of_getElem? h1)
        exact putC_ok nF h2 rk rd hc D fun o cr => q _ (le_upd nF) (r.writeSt h1 cr)
      · cases h
    · cases h
  · cases h
theorem ds_putR {ki : Expr} (hu : X.A.units + 1 < cLine) (hv : DE c X b fv) (ho : DE c X o fo) (hk : DE c X ki fk)
    (ha : ∀ v, assign (.Subscript o ki p2) X.env v = (do
      let ov ← holding [v] (eval o X.env)
      let iv ← holding [v, ov] (eval ki X.env)
      standAt p2
      holding [v, ov, iv] (setItem ov iv v)
      release [v, ov, iv] []) := by intro _; rfl)
    (hs : swapsWithSole [.Subscript o ki p2] b pos.line X.env = pure false := by rfl) (hw : swappedStores [.Subscript o ki p2] b X.env = pure none := by rfl)
    (h1 : (assignEach [.Subscript o ki p2] X.env).map (·.2) = [assign (.Subscript o ki p2) X.env] := by rfl) :
    DS c X (.Assign [.Subscript o ki p2] b pos) (sPutR fo fk fv) := by
  refine ds_imp (ps_asg hv (pg_sub ho hk (set_or set_list (set_dict hu)) ha) hs hw h1) fun F ρ e st σ H D r q => ?_
  refine ⟨F, ρ, e, st, r, bindFz q fun F1 ρ1 e1 st1 H1 v1 d l r1 x1 h2 => ?_⟩
  refine ⟨F1, ρ1, e1, st1, r1, bindES h2 fun F2 ρ2 e2 st2 H2 v2 x l2 r2 x2 h3 => ?_⟩
  refine ⟨F2, ρ2, e2, st2, r2, bindFz h3 fun F3 ρ3 e3 st3 H3 v3 k l3 r3 x3 h4 => ?_⟩
  split at h4
  · rename_i st' hst
    exact objPut_ok r3 (x2.mono l3.toLe) x3 (x1.mono (l2.trans l3).toLe) hst _ fun H' l4 r4 => h4 F3 ρ3 σ H' l4 r4
  · exact h4.elim
/-- a list of the store -/
def lstAt (x : D) (s : Sto) : Option (List D) := match x with
  | .ref i => (match s[i]? with
    | some (.obj (.lst ds)) => some ds
    | _ => none)
  | _ => none
def lstPut (x : D) (ds : List D) (s : Sto) : Sto := match x with
  | .ref i => s.set i (.obj (.lst ds))
  | _ => s
theorem lstAt_ok {K : PySem.W.Frag} {mg : Str → Option Value} {F : Addr → Prop} {ρ : List Addr} {H : Hp} {e : Sl} {st : Sto} {σ : St} {v : V} {x : D} {ds : List D} (r : R K mg c F ρ e st σ H) (rx : RepX K F ρ H σ v x) (h : lstAt x st = some ds) :
    ∃ a i vs, x = .ref i ∧ v = .ref a ∧ ρ[i]? = some a ∧ H a = some (.lst vs) ∧ Reps K F ρ H vs ds := by
  unfold lstAt at h
  split at h
  · split at h
    · rename_i hs
      cases h
      obtain ⟨a, rfl, h1, h2⟩ := r.refAt rx hs
      cases h2 with
      | lst y1 y2 => exact ⟨a, _, _, rfl, rfl, h1, y1, y2⟩
    · cases h
  · cases h
def sAppR (fo f : EF) : SF := fun e s => (fo e s).bindS fun x e s => if (lstAt x s).isSome = true then (eFz f e s).bindS fun d e s => (match lstAt x s with
    | some ds => if ds.length < lim then .nx e (lstPut x (ds ++ [d]) s) else .stuck
    | none => .stuck) else .stuck
theorem ds_appR {p3 : Pos} (ho : DE c X o fo) (ha : DE c X a fa) (hx : PE X (.Call (.Attribute o "append" p2) [a] [] p3) (tBM X.K "list" rAppend (tED X.K X.mg c fo) (tCons (tED X.K X.mg c fa) tNil)))
    (hs : swapsWith (.Call (.Attribute o "append" p2) [a] [] p3) none pos.line X.env = pure false := by rfl) : DS c X (.Expr (.Call (.Attribute o "append" p2) [a] [] p3) pos) (sAppR fo fa) := by
  refine ds_imp (ps_expr hx hs) fun F ρ e st σ H D r q => ?_
  refine ⟨F, ρ, e, st, r, bindES q fun F1 ρ1 e1 st1 H1 v1 x l r1 x1 h1 => ?_⟩
  split at h1
  · rename_i hsome
    obtain ⟨ds0, hds0⟩ := Option.isSome_iff_exists.mp hsome
    obtain ⟨a1, i1, vs1, rfl, rfl, g1, g2, g3⟩ := lstAt_ok r1 x1 hds0
    refine ⟨.inl ⟨rfl, _, .of g2⟩, F1, ρ1, e1, st1, r1, bindFz h1 fun F2 ρ2 e2 st2 H2 v2 d l2 r2 x2 h2 => ?_⟩
    split at h2
    · rename_i ds hds
      obtain ⟨a2, i2, vs2, e3, e4, g4, g5, g6⟩ := lstAt_ok r2 (x1.mono l2.toLe) hds
      cases e3
      cases e4
      split at h2
      · rename_i hlim
        have nF : ¬ F2 a1 := r2.w.nF a1 (List.mem_of_getElem? g4)
        have le := fun o => le_upd (ρ := ρ2) (H := H2) (a := a1) (o := o) nF
        refine ⟨a1, _, v2, rfl, rfl, g5, lim_lt (by rw [g6.length]; exact hlim), ?_⟩
        exact h2 F2 ρ2 σ _ (le _) (r2.writeSt g4 (.lst upd_same ((g6.mono (le _)).append (.cons (x2.mono (le _)) .nil))))
      · exact h2.elim
    · exact h2.elim
  · exact h1.elim
/-! ### o.f += v -/
def sFldAug (cls fn : Str) (k : Int → Int → Int) (fo fv : EF) : SF := fun e s => (fo e s).bindS fun x e s => match fldAt cls fn x s with
  | some (.int i) => (fv e s).bindS fun y e s => (match y with
    | .int j => (match fldPut cls fn x (.int (k i j)) s with
      | some s' => .nx e s'
      | none => .stuck)
    | _ => .stuck)
  | _ => .stuck
theorem fldaug {op : Operator} {cls fn : Str} {k : Int → Int → Int} {ap : Pos} {rd : V → V → Hp → VK → Prop} (T : FldOk X.K X.mg cls fn) (ho : DE c X o fo) (hv : DE c X a fv) (hop : InOp X op rd) (hrd : ∀ i j H Q, Q (.int (k i j)) H → rd (.int i) (.int j) H Q) :
    DS c X (.AugAssign (.Attribute o fn ap) op a pos) (sFldAug cls fn k fo fv) := by
  refine ds_imp (ps_fldaug ho hv hop) fun F ρ e st σ H D r q => ?_
  refine ⟨F, ρ, e, st, r, bindES q fun F1 ρ1 e1 st1 H1 v1 x l r1 x1 h1 => ?_⟩
  split at h1
  · rename_i i hi
    obtain ⟨a1, C, dx, gs, u, g1, g2, g3, g4, g5, g6, g7⟩ := fld_ok r1 x1 hi T
    refine ⟨a1, C, dx, gs, u, g1, g2, g3, g4, g5, F1, ρ1, e1, st1, r1, bindES h1 fun F2 ρ2 e2 st2 H2 v2 y l2 r2 x2 h2 => ?_⟩
    cases g6
    split at h2
    · rename_i j
      split at h2
      · rename_i st' hst
        rcases x2 with ⟨_, _, z, _⟩ | x2
        · cases z
        cases x2
        obtain ⟨a2, C2, dx2, gs2, k1, k2, k3, k4, k5, k6, k7, k8⟩ := put_ok r2 (x1.mono l2.toLe) (.int (k i j)) hst T
        rw [g1] at k1
        cases k1
        have hCC : C = C2 := by rw [g7] at k8; cases k8; rfl
        subst hCC
        exact hrd i j _ _ ⟨dx2, gs2, k2, k5, h2 F2 ρ2 σ _ k7 k6⟩
      · exact h2.elim
    · exact h2.elim
  · exact h1.elim
theorem ds_fldadd {cls fn : Str} {ap : Pos} (T : FldOk X.K X.mg cls fn) (ho : DE c X o fo) (hv : DE c X a fv) : DS c X (.AugAssign (.Attribute o fn ap) .Add a pos) (sFldAug cls fn (fun i j => i + j) fo fv) :=
  fldaug T ho hv in_add fun i j H Q q => ⟨i, j, rfl, rfl, q⟩
theorem ds_fldsub {cls fn : Str} {ap : Pos} (T : FldOk X.K X.mg cls fn) (ho : DE c X o fo) (hv : DE c X a fv) : DS c X (.AugAssign (.Attribute o fn ap) .Sub a pos) (sFldAug cls fn (fun i j => i - j) fo fv) :=
  fldaug T ho hv in_sub fun i j H Q q => ⟨i, j, rfl, rfl, q⟩
end
end DL
end
section
set_option Elab.async false
set_option linter.all false
set_option maxRecDepth 100000
set_option maxHeartbeats 1000000
set_option autoImplicit false
/-! DNB: defs that call themselves, by levels. -/
namespace DL
open PySem PySem.Spec PySem.W L2
open PyProof.Rows hiding St
def fnStuck : Fn := fun _ _ => .stuck
theorem fnok_stuck {P : Program} {w : World} {K : PySem.W.Frag} {mg : Str → Option Value} {base : Heap} {k : Nat} {f : Addr} {fd : FuncData} {ps : List Str} : FnOk P w K mg base (CX P w) k f fd ps (spD K mg ps.length fnStuck) :=
  ⟨fun vs H Q E h => by obtain ⟨F, ρ, st, ds, h1, _⟩ := h; exact h1, fun A outer s H args us vs Q E hr he hb hv hs => by obtain ⟨F, ρ, st, ds, _, _, _, h⟩ := hs; exact h.elim⟩
/-! ### a list and a list, a new list -/
def gAddN (x y : D) (e : Sl) (s : Sto) : ER := match vw x e s, vw y e s with
  | .lst a, .lst b => if a.length + b.length ≤ lim then .ok (.lst (a ++ b)) e s else .stuck
  | _, _ => .stuck
section
variable {X : Cx} {c : Dx} {a b : Expr} {fa fb : EF} {pos : Pos}
theorem dn_add (ha : DE c X a fa) (hb : DE c X b fb) : DN c X (.BinOp a .Add b pos) (eBin gAddN fa fb) := by
  refine ⟨fun pins s σ H Q I ⟨F, ρ, e, st, r, q⟩ => (pe_op op_cat ha hb).run pins s σ H Q I ⟨F, ρ, e, st, r, bindN q fun F1 ρ1 e1 st1 H1 v x le1 r1 rx h1 => ⟨F1, ρ1, e1, st1, r1, bindN h1 fun F2 ρ2 e2 st2 H2 u y le2 r2 ry h2 => ?_⟩⟩⟩
  have hx := vw_ok r2 (rx.mono le2.toLe)
  have hy := vw_ok r2 ry
  unfold gAddN at h2
  generalize vw x e2 st2 = dx at *
  generalize vw y e2 st2 = dy at *
  split at h2
  · cases hx with | lst a1 a2 a3 => cases hy with | lst b1 b2 b3 =>
    subst a1 b1
    split at h2
    case isFalse => exact h2.elim
    rename_i hz
    exact ⟨_, _, _, _, rfl, rfl, a2, b2, lim_le (by rw [a3.length, b3.length]; exact hz), fun p hp => NPost.lst r2 (a3.append b3) h2 hp⟩
  · exact h2.elim
end
end DL
end
section
set_option Elab.async false
set_option linter.all false
set_option maxRecDepth 100000
set_option maxHeartbeats 4000000
set_option autoImplicit false
/-! DLX: targets that write the store, while. -/
namespace DL
open PySem PySem.Spec L2
open PyProof.Rows hiding St
/-- a value is stored -/
abbrev BT := D → SF
def onlyNx (Q : St → Hp → Prop) : Ends := { nx := Q, rt := fun _ _ => False, bk := fun _ _ => False, ct := fun _ _ => False }
def gSt (K : PySem.W.Frag) (mg : Str → Option Value) (c : Dx) (b : BT) : TG := fun v σ H Q => ∃ F ρ e st d, R K mg c F ρ e st σ H ∧ Rep K F ρ H v d ∧ SPost K mg c F ρ H (onlyNx Q) (b d e st)
def gSts (K : PySem.W.Frag) (mg : Str → Option Value) (c : Dx) (b : List D → SF) : TGs := fun vs σ H Q => ∃ F ρ e st ds, R K mg c F ρ e st σ H ∧ Reps K F ρ H vs ds ∧ SPost K mg c F ρ H (onlyNx Q) (b ds e st)
abbrev DTG (c : Dx) (X : Cx) (tg : Expr) (b : BT) : Prop := PG X tg (gSt X.K X.mg c b)
abbrev DTGs (c : Dx) (X : Cx) (tg : List Expr) (b : List D → SF) : Prop := PGs X tg (gSts X.K X.mg c b)
section
variable {X : Cx} {c : Dx} {a b ex o : Expr} {es : List Expr} {fa fb fo fk fv : EF} {fs : AF} {pos : Pos} {f : EF} {p p2 apos cpos : Pos}
theorem pg_imp {tg : Expr} {t t' : TG} (h : PG X tg t) (k : ∀ v σ H Q, t' v σ H Q → t v σ H Q) : PG X tg t' := ⟨fun pins s σ H v u Q I r q => h.run pins s σ H v u Q I r (k v σ H Q q)⟩
theorem pgs_imp {tg : List Expr} {t t' : TGs} (h : PGs X tg t) (k : ∀ v σ H Q, t' v σ H Q → t v σ H Q) : PGs X tg t' := ⟨fun pins s σ H v u Q I r q => h.run pins s σ H v u Q I r (k v σ H Q q)⟩
def tName (i : Nat) : BT := fun d e s => .nx (e.set i (some (.val d))) s
theorem dtg_name {x : Str} (i : Nat) (hN : X.N.Nodup) (hi : X.N[i]? = some x := by rfl) (hx : Loc X.env.scope x := by first | exact Or.inl rfl | exact Or.inr rfl) (hf : X.fn x = true ∨ X.env.scope.names.lookup x = some .local := by first | exact .inl rfl | exact .inr rfl | assumption) : DTG c X (.Name x pos) (tName i) := by
  refine pg_imp (pg_name (i := i) hN hi hx hf) fun v σ H Q q => ?_
  obtain ⟨F, ρ, e, st, d, r, x1, h⟩ := q
  exact h F ρ _ H Le.refl (r.setVal x1)
def tFldT (cls fn : Str) (fo : EF) : BT := fun d e s => (fo e s).bindS fun x e s => match fldPut cls fn x d s with
  | some s' => .nx e s'
  | none => .stuck
def gFldT (K : PySem.W.Frag) (ta : TE) (f : Str) : TG := fun y σ H Q => ta σ H fun x H2 => ∃ a C dx fs, x = .ref a ∧ H2 a = some (.ins C dx fs) ∧ Cls K C ∧ NoAttr K C f ∧ fs.length < 1000 ∧ Q σ (upd H2 a (.ins C dx (putF f y fs)))
theorem pg_fld {fn : Str} {ta : TE} (ho : PE X o ta) (hs : assign (.Attribute o fn pos) X.env = fun v => (do
    let ov ← holding [v] (eval o X.env)
    standAt pos.atName
    holding [v, ov] (setAttr ov fn v)
    release [v, ov] []) := by rfl) : PG X (.Attribute o fn pos) (gFldT X.K ta fn) := by
  refine ⟨fun pins s σ H v u Q I r h => ?_⟩
  rw [hs]
  refine wpAny_bind (wpAny_holding (thn (ho.run pins s σ H _ I h) fun ov s1 ⟨x, H1, I1, r1, a, C, dx, fs, ex, ea, cc, n, l, q⟩ => ?_))
  subst ex
  obtain rfl : ov = Value.ref a := r1
  refine wpAny_bind (wpAny_standAt (wpAny_bind (wpAny_holding (setattr_ok I1 ea cc n l r fun s3 I3 => ?_))))
  exact wpAny_release ⟨σ, _, I3, q⟩
theorem dtg_fld {cls fn : Str} (T : FldOk X.K X.mg cls fn) (ho : DE c X o fo) : DTG c X (.Attribute o fn pos) (tFldT cls fn fo) := by
  refine pg_imp (pg_fld ho) fun v σ H Q q => ?_
  obtain ⟨F, ρ, e, st, d, r, x1, h⟩ := q
  refine ⟨F, ρ, e, st, r, bindES h fun F2 ρ2 e2 st2 H2 v2 x l2 r2 x2 h2 => ?_⟩
  split at h2
  · rename_i s' hs'
    obtain ⟨a, C, dx, gs, g1, g2, g3, g4, g5, g6, g7, _⟩ := put_ok r2 x2 (x1.mono l2.toLe) hs' T
    exact ⟨a, C, dx, gs, g1, g2, g3, g4, g5, h2 F2 ρ2 σ _ g7 g6⟩
  · exact h2.elim
def tSubT (fo fk : EF) : BT := fun d e s => (fo e s).bindS fun x e s => (eFz fk e s).bindS fun k e s => match objPut x k d s with
  | some s' => .nx e s'
  | none => .stuck
theorem dtg_sub {ki : Expr} (hu : X.A.units + 1 < cLine) (ho : DE c X o fo) (hk : DE c X ki fk)
    (ha : ∀ v, assign (.Subscript o ki pos) X.env v = (do
      let ov ← holding [v] (eval o X.env)
      let iv ← holding [v, ov] (eval ki X.env)
      standAt pos
      holding [v, ov, iv] (setItem ov iv v)
      release [v, ov, iv] []) := by intro _; rfl) : DTG c X (.Subscript o ki pos) (tSubT fo fk) := by
  refine pg_imp (pg_sub ho hk (set_or set_list (set_dict hu)) ha) fun v σ H Q q => ?_
  obtain ⟨F, ρ, e, st, d, r, x1, h⟩ := q
  refine ⟨F, ρ, e, st, r, bindES h fun F2 ρ2 e2 st2 H2 v2 x l2 r2 x2 h3 => ?_⟩
  refine ⟨F2, ρ2, e2, st2, r2, bindFz h3 fun F3 ρ3 e3 st3 H3 v3 k l3 r3 x3 h4 => ?_⟩
  split at h4
  · rename_i st' hst
    exact objPut_ok r3 (x2.mono l3.toLe) x3 (x1.mono (l2.trans l3).toLe) hst _ fun H' l4 r4 => h4 F3 ρ3 σ H' l4 r4
  · exact h4.elim
def tsNil : List D → SF := fun ds e s => match ds with | [] => .nx e s | _ => .stuck
def tsCons (b : BT) (bs : List D → SF) : List D → SF := fun ds e s => match ds with
  | d :: ds => (b d e s).bind (bs ds)
  | [] => .stuck
theorem dtgs_nil : DTGs c X [] tsNil := by
  refine pgs_imp pgs_nil fun v σ H Q q => ?_
  obtain ⟨F, ρ, e, st, ds, r, x1, h⟩ := q
  cases x1 with
  | nil => exact ⟨rfl, h F ρ σ H Le.refl r⟩
  | cons _ _ => exact h.elim
theorem dtgs_cons {tg : Expr} {tgs : List Expr} {b : BT} {bs : List D → SF} (h1 : DTG c X tg b) (h2 : DTGs c X tgs bs)
    (hs : (assignEach (tg :: tgs) X.env).map (·.2) = assign tg X.env :: (assignEach tgs X.env).map (·.2) := by rfl) : DTGs c X (tg :: tgs) (tsCons b bs) := by
  refine pgs_imp (pgs_cons h1 h2 hs) fun v σ H Q q => ?_
  obtain ⟨F, ρ, e, st, ds, r, x1, h⟩ := q
  cases x1 with
  | nil => exact h.elim
  | @cons v1 vs d ds y1 y2 =>
    refine ⟨v1, vs, rfl, F, ρ, e, st, d, r, y1, ?_⟩
    unfold tsCons at h
    simp only at h
    cases hr : b d e st with
    | nx e1 s1 =>
      rw [hr] at h
      exact fun F' ρ' σ' H' l r => ⟨F', ρ', e1, s1, ds, r, y2.mono l, SPost.shift (r := bs ds e1 s1) l h⟩
    | bk e1 s1 => rw [hr] at h; exact fun F' ρ' σ' H' l r => h F' ρ' σ' H' l r
    | ct e1 s1 => rw [hr] at h; exact fun F' ρ' σ' H' l r => h F' ρ' σ' H' l r
    | rt v s1 => rw [hr] at h; exact fun F' ρ' H' v w x rr => h F' ρ' H' v w x rr
    | exc k e1 s1 => rw [hr] at h; exact h
    | stuck => rw [hr] at h; exact h
def tTup (n : Nat) (bs : List D → SF) : BT := fun d e s => match d with
  | .tup ds => if ds.length = n then bs ds e s else .stuck
  | _ => .stuck
theorem dtg_tup {n k : Nat} {bs : List D → SF} (hc : X.calm = true) (h : DTGs c X es bs) (hn : (assignEach es X.env).length = n := by rfl) (hst : (assignEach es X.env).findIdx? (·.1) = none := by rfl) : DTG c X (.Tuple es k pos) (tTup n bs) := by
  refine pg_imp (pg_tup hc h hn hst) fun v σ H Q q => ?_
  obtain ⟨F, ρ, e, st, d, r, x1, h⟩ := q
  unfold tTup at h
  split at h
  · cases x1 with
    | tup t1 t2 =>
      split at h
      · rename_i hl
        exact ⟨_, _, rfl, t1.sq, by rw [t2.length]; exact hl, F, ρ, e, st, _, r, t2, h⟩
      · exact h.elim
  · exact h.elim
/-- target = v, the target any -/
def OR.only (r : OR) : OR := match r with | .nx e s => .nx e s | .exc k e s => .exc k e s | _ => .stuck
def sAsgT (b : BT) (f : EF) : SF := fun e s => (eFz f e s).bindS fun d e s => (b d e s).only
theorem ds_asgT {tg : Expr} {b : BT} (hg : DTG c X tg b) (ha : DE c X a fa) (hs : swapsWithSole [tg] a pos.line X.env = pure false := by rfl) (hw : swappedStores [tg] a X.env = pure none := by rfl)
    (h1 : (assignEach [tg] X.env).map (·.2) = [assign tg X.env] := by rfl) : DS c X (.Assign [tg] a pos) (sAsgT b fa) := by
  refine ds_imp (ps_asg ha hg hs hw h1) fun F ρ e st σ H D r q => ⟨F, ρ, e, st, r, bindFz q fun F1 ρ1 e1 st1 H1 v d l1 r1 x1 h1 => ?_⟩
  refine ⟨F1, ρ1, e1, st1, d, r1, x1, ?_⟩
  cases hr : b d e1 st1 with
  | nx e2 s2 => rw [hr] at h1; exact fun F' ρ' σ' H' l r => h1 F' ρ' σ' H' l r
  | exc k e2 s2 => rw [hr] at h1; exact h1
  | bk e2 s2 => rw [hr] at h1; exact h1.elim
  | ct e2 s2 => rw [hr] at h1; exact h1.elim
  | rt v s2 => rw [hr] at h1; exact h1.elim
  | stuck => rw [hr] at h1; exact h1.elim
/-! ### while -/
def whL (ft : EF) (g : SF) : Nat → Sl → Sto → OR
  | 0, _, _ => .stuck
  | n + 1, e, s => (ft e s).bindS fun d e s => match d with
    | .bl true => (match g e s with
      | .nx e2 s2 => whL ft g n e2 s2
      | .ct e2 s2 => whL ft g n e2 s2
      | .bk e2 s2 => .nx e2 s2
      | r => r)
    | .bl false => .nx e s
    | _ => .stuck
def sWhile (fuel : Nat) (ft : EF) (g : SF) : SF := fun e s => whL ft g fuel e s
theorem ds_while {test : Expr} {body : List Stmt} {ft : EF} {g : SF} (fuel : Nat) (hp : PassesOwn (model X.prog X.w) X.A X.env X.xe) (hc : DT c X test ft) (hb : DSs c X body g) : DS c X (.While test body [] pos) (sWhile fuel ft g) := by
  refine ds_imp (ps_while hp hc hb) fun F ρ e st σ H D r q => ?_
  refine ⟨fun m σ' H' => ∃ F' ρ' e' st', Le F ρ H F' ρ' H' ∧ R X.K X.mg c F' ρ' e' st' σ' H' ∧ SPost X.K X.mg c F' ρ' H' D (whL ft g m e' st'), ⟨fuel, F, ρ, e, st, Le.refl, r, q⟩, ?_⟩
  rintro m σ1 H1 ⟨F1, ρ1, e1, st1, l1, r1, q1⟩
  cases m with
  | zero => exact q1.elim
  | succ m =>
    refine ⟨F1, ρ1, e1, st1, r1, ?_⟩
    unfold whL at q1
    cases hr : ft e1 st1 with
    | stuck => rw [hr] at q1; exact q1
    | exc k e2 s2 => rw [hr] at q1; exact fun F' ρ' H' C r m => q1 F' ρ' σ1 H' C r m
    | ok d e2 s2 =>
      rw [hr] at q1
      cases d <;> first | exact q1.elim | skip
      rename_i b
      intro F2 ρ2 H2 l2 r2
      cases b with
      | false =>
        rw [if_neg Bool.false_ne_true]
        exact q1 F2 ρ2 σ1 H2 l2.toLe r2
      | true =>
        rw [if_pos rfl]
        refine ⟨fun σ' H' => ∃ F' ρ' e' st', Le F ρ H F' ρ' H' ∧ R X.K X.mg c F' ρ' e' st' σ' H' ∧ SPost X.K X.mg c F' ρ' H' D (whL ft g m e' st'), fun σ' H' h => ⟨m, Nat.lt_succ_self m, h⟩, F2, ρ2, e2, s2, r2, ?_⟩
        have l02 : Le F ρ H F2 ρ2 H2 := l1.trans l2.toLe
        have q2 : SPost X.K X.mg c F2 ρ2 H2 D (match g e2 s2 with
          | .nx e2 s2 => whL ft g m e2 s2
          | .ct e2 s2 => whL ft g m e2 s2
          | .bk e2 s2 => .nx e2 s2
          | r => r) := SPost.shift l2.toLe q1
        cases hg : g e2 s2 with
        | nx e3 s3 => rw [hg] at q2; exact fun F' ρ' σ' H' l r => ⟨F', ρ', e3, s3, l02.trans l, r, SPost.shift l q2⟩
        | ct e3 s3 => rw [hg] at q2; exact fun F' ρ' σ' H' l r => ⟨F', ρ', e3, s3, l02.trans l, r, SPost.shift l q2⟩
        | bk e3 s3 => rw [hg] at q2; exact fun F' ρ' σ' H' l r => q2 F' ρ' σ' H' l r
        | rt v s3 => rw [hg] at q2; exact fun F' ρ' H' v w x rr => q2 F' ρ' H' v w x rr
        | exc k e3 s3 => rw [hg] at q2; exact q2
        | stuck => rw [hg] at q2; exact q2
/-! ### min(a, b), max(a, b) -/
def gMin2 (x y : D) (e : Sl) (s : Sto) : ER := match x, y with | .int i, .int j => .ok (.int (if j < i then j else i)) e s | _, _ => .stuck
def gMax2 (x y : D) (e : Sl) (s : Sto) : ER := match x, y with | .int i, .int j => .ok (.int (if j > i then j else i)) e s | _, _ => .stuck
theorem de_b2 {id : String} {x : Str} {p : Pos} {r : List V → Hp → VK → Prop} {g : D → D → Sl → Sto → ER} (hc : CallR X (.builtin id) r) (hg : Gl X x) (hm : X.mg x = none) (hv : bootBuiltins x = some (.builtin id))
    (ho : ∀ (F : Addr → Prop) (ρ : List Addr) (e : Sl) (st : Sto) (σ : St) (H : Hp) (x y : D) (v u : V) (Q : VK), R X.K X.mg c F ρ e st σ H → RepX X.K F ρ H σ v x → RepX X.K F ρ H σ u y → EPost X.K X.mg c e σ F ρ H Q (g x y e st) → r [v, u] H Q)
    (ha : DE c X a fa) (hb : DE c X b fb) (hn : x ≠ "__name__" := by decide) (hdb : (x == ("__debug__" : Str)) = false := by decide)
    (he2 : starEach [b] X.env = (false, eval b X.env) :: starEach [] X.env := by rfl) (he : starEach [a, b] X.env = (false, eval a X.env) :: starEach [b] X.env := by rfl) (hpl : (backTo pos (starEach [b] X.env)).any (·.1) = false := by rfl) : DE c X (.Call (.Name x p) [a, b] [] pos) (eBin g fa fb) := by
  refine de_imp (pe_callB hc hg hm hv (pa_cons ha (pa_cons hb pa_nil he2) he) hn hdb he hpl) fun F ρ e st σ H Q r q => ⟨F, ρ, e, st, r, bindE q fun F1 ρ1 e1 st1 H1 v d le1 r1 rx h1 => ?_⟩
  refine ⟨F1, ρ1, e1, st1, r1, bindE h1 fun F2 ρ2 e2 st2 H2 u y le2 r2 ry h2 => ?_⟩
  exact ho F2 ρ2 e2 st2 σ H2 d y v u Q r2 (rx.mono le2.toLe) ry h2
theorem de_min2 {p : Pos} (hc : X.calm = true) (hg : Gl X "min") (hm : X.mg "min" = none) (ha : DE c X a fa) (hb : DE c X b fb)
    (he2 : starEach [b] X.env = (false, eval b X.env) :: starEach [] X.env := by rfl) (he : starEach [a, b] X.env = (false, eval a X.env) :: starEach [b] X.env := by rfl) (hpl : (backTo pos (starEach [b] X.env)).any (·.1) = false := by rfl) : DE c X (.Call (.Name "min" p) [a, b] [] pos) (eBin gMin2 fa fb) :=
  de_b2 (call_min2 hc) hg hm (by decide +kernel) (fun F ρ e st σ H x y v u Q r rx ry h => (by
    unfold gMin2 at h
    split at h
    · cases repI rx; cases repI ry
      exact ⟨_, _, rfl, h.int r⟩
    · exact h.elim)) ha hb (by decide) (by decide) he2 he hpl
theorem de_max2 {p : Pos} (hc : X.calm = true) (hg : Gl X "max") (hm : X.mg "max" = none) (ha : DE c X a fa) (hb : DE c X b fb)
    (he2 : starEach [b] X.env = (false, eval b X.env) :: starEach [] X.env := by rfl) (he : starEach [a, b] X.env = (false, eval a X.env) :: starEach [b] X.env := by rfl) (hpl : (backTo pos (starEach [b] X.env)).any (·.1) = false := by rfl) : DE c X (.Call (.Name "max" p) [a, b] [] pos) (eBin gMax2 fa fb) :=
  de_b2 (call_max2 hc) hg hm (by decide +kernel) (fun F ρ e st σ H x y v u Q r rx ry h => (by
    unfold gMax2 at h
    split at h
    · cases repI rx; cases repI ry
      exact ⟨_, _, rfl, h.int r⟩
    · exact h.elim)) ha hb (by decide) (by decide) he2 he hpl
end
end DL
end
section
set_option Elab.async false
set_option linter.all false
set_option maxRecDepth 100000
set_option maxHeartbeats 4000000
set_option autoImplicit false
/-! DLY: written tuples, the truth of a list, try: .. return ["..", isinstance(e, Y)]. -/
namespace DL
open PySem PySem.Spec L2
open PyProof.Rows hiding St
/-- a written tuple of flat items -/
structure CstT (K : PySem.W.Frag) (mg : Str → Option Value) (x : Str) (ds : List D) : Prop where
  ex : ∃ (a : Addr) (vs : List V), mg x = some (.ref a) ∧ (∀ H, SqT K H a vs) ∧ ∀ F ρ H, Reps K F ρ H vs ds
def gInC (neg : Bool) (ds : List D) (x : D) (e : Sl) (s : Sto) : ER := if flatD x = true ∧ ds.all flatD = true then .ok (.bl (bxor neg (ds.any fun y => eqF y x))) e s else .stuck
/-- a list's truth -/
def gTru (x : D) (e : Sl) (s : Sto) : ER := match vw x e s with
  | .lst ds => .ok (.bl (!ds.isEmpty)) e s
  | .tup ds => .ok (.bl (!ds.isEmpty)) e s
  | _ => .stuck
section
variable {X : Cx} {c : Dx} {a b ex o : Expr} {es : List Expr} {fa fb fo fk fv : EF} {fs : AF} {pos : Pos} {f : EF} {p p2 apos cpos : Pos}
theorem cm_inC {x : Str} {ds : List D} (T : CstT X.K X.mg x ds) (hg : Gl X x) (ha : DE c X a fa) (hd : (x == ("__debug__" : Str)) = false := by decide) (hm : behindInMarks .In (.Name x p) = false := by rfl) : Cm c X .In a (.Name x p) pos (eUn (gInC false ds) fa) := by
  obtain ⟨d, vs, h0, h1, h2⟩ := T.ex
  have main : ∀ {F : Addr → Prop} {ρ : List Addr} {e : Sl} {st : Sto} {σ : St} {H : Hp} {Q : VK}, R X.K X.mg c F ρ e st σ H → EPost X.K X.mg c e σ F ρ H Q (eUn (gInC false ds) fa e st) → tOp (rIn X.K false) (tED X.K X.mg c fa) (tC (.ref d)) σ H Q := fun {F ρ e st σ H Q} r q => by
    refine ⟨F, ρ, e, st, r, bindE q fun F1 ρ1 e1 st1 H1 v x le1 r1 rx h => ?_⟩
    unfold gInC at h
    split at h
    · rename_i hf
      obtain ⟨f1, f2⟩ := flat_ok rx hf.1
      refine ⟨d, vs, rfl, .inr (h1 H1), f1, flat_all (h2 F1 ρ1 H1) hf.2, ?_⟩
      rw [in_ok f2 hf.1 (h2 F1 ρ1 H1) hf.2]
      exact h.bl r1
    · exact h.elim
  exact ⟨de_imp (pe_cmpR op_in_seq ha (pe_glob hg h0 (v := .ref d) rfl hd) hm) fun F ρ e st σ H Q r q => main r q, dt_imp (pt_cmpR op_in_seq ha (pe_glob hg h0 (v := .ref d) rfl hd) hm) fun F ρ e st σ H Q r q => main r q.of⟩
theorem dt_tru (h : DE c X a fa) (he : ∀ whole, isTrue a X.env whole = (do let v ← whole; standAt a.pos; holding [v] (truthy v)) := by intro _; rfl) : DT c X a (eUn gTru fa) := by
  refine dt_imp (pt_truth h he) fun F ρ e st σ H Q r q => ⟨F, ρ, e, st, r, bindE q.of fun F1 ρ1 e1 st1 H1 v x le1 r1 rx h1 => ?_⟩
  have hx := vw_ok r1 rx
  unfold gTru at h1
  generalize vw x e1 st1 = dx at *
  split at h1
  · rename_i ds
    cases hx with
    | @lst a vs _ b1 b2 b3 =>
      subst b1
      refine ⟨!ds.isEmpty, .inl ⟨vs, .of b2, ?_⟩, ?_⟩
      · have := b3.length
        cases vs <;> cases ds <;> simp at this ⊢
      · obtain ⟨k, hk, hq⟩ := h1.bl r1
        cases hk
        exact hq
  · rename_i ds
    cases hx with
    | @tup a vs _ b1 b2 b3 =>
      subst b1
      refine ⟨!ds.isEmpty, .inr (.inl ⟨vs, b2.sq, ?_⟩), ?_⟩
      · have := b3.length
        cases vs <;> cases ds <;> simp at this ⊢
      · obtain ⟨k, hk, hq⟩ := h1.bl r1
        cases hk
        exact hq
  · exact h1.elim
end
/-- .. return [z, isinstance(e, y)] -/
def sTryIsL (z : Str) (i : Nat) (r : Str → Option (Bool × Bool)) (g : SF) : SF := fun e s => match g e s with
  | .exc k e' s' => (match r k with
    | some (true, b) => if i < e'.length then .rt (.new (.lst [.str z, .bl b])) s' else .stuck
    | some (false, _) => .exc k e' s'
    | none => .stuck)
  | o => o
section
variable {X : Cx} {c : Dx} {x y n : Str} {i : Nat} {body : List Stmt} {g : SF} {r : Str → Option (Bool × Bool)} {np pos pos' p1 p2 p3 p4 p5 p6 p7 : Pos} {z : Str} {j : Nat} {jl : Nat}
def tsIsL (K : PySem.W.Frag) (z : Str) (i : Nat) (Cy : Addr) (a : Addr) (cls : Value) (d : Option Addr) : TS := fun D σ H =>
  ∃ (C : Addr) (b : Bool), cls = .ref C ∧ d = none ∧ ExcC K C ∧ σ[i]? = some (some (.ref a)) ∧ PySem.W.kitOne K (.ref C) (.ref Cy) = some b ∧ ∀ q, H q = none → D.rt (.ref q) (upd H q (.lst [.str z, .bl b]))
theorem ds_tryIsL (T : ExcTab X.K X.mg x y r) (tk : Takes X c.W) (hm : X.mg "isinstance" = none) (hg : Gl X "isinstance") (hgx : Gl X x) (hgy : Gl X y)
    (hb : ∀ (W : WX) (pn : List (Addr × Obj)) (xe : Value → Shared → Prop), Takes (X.tr pn xe) W → DSs { c with W := W } (X.tr pn xe) body g)
    (hs : X.stack = X.env :: X.outer := by rfl) (hf : X.env.frame = some X.env.locals := by rfl) (hN : X.N.Nodup) (hi : X.N[i]? = some n := by rfl) (hln : X.env.kindOf n = some .local := by rfl) (hv : Vis X.env.scope n := by first | exact Or.inl rfl | exact Or.inr (Or.inl rfl) | exact Or.inr (Or.inr rfl))
    (hdx : (x == ("__debug__" : Str)) = false := by decide) (hdy : (y == ("__debug__" : Str)) = false := by decide) (hdn : (n == ("__debug__" : Str)) = false := by decide) (hcn : (n == ("__classdict__" : Str)) = false := by decide)
    (he2 : ∀ a pn, starEach [.Name y p3] (X.suite a pn).env = (false, eval (.Name y p3) (X.suite a pn).env) :: starEach [] (X.suite a pn).env := by intro _ _; rfl)
    (he : ∀ a pn, starEach [.Name n p2, .Name y p3] (X.suite a pn).env = (false, eval (.Name n p2) (X.suite a pn).env) :: starEach [.Name y p3] (X.suite a pn).env := by intro _ _; rfl)
    (hl1 : ∀ a pn, starEach [.Call (.Name "isinstance" p1) [.Name n p2, .Name y p3] [] p4] (X.suite a pn).env = (false, eval (.Call (.Name "isinstance" p1) [.Name n p2, .Name y p3] [] p4) (X.suite a pn).env) :: starEach [] (X.suite a pn).env := by intro _ _; rfl)
    (hl2 : ∀ a pn, starEach [.Constant (.str z) jl p6, .Call (.Name "isinstance" p1) [.Name n p2, .Name y p3] [] p4] (X.suite a pn).env = (false, eval (.Constant (.str z) jl p6) (X.suite a pn).env) :: starEach [.Call (.Name "isinstance" p1) [.Name n p2, .Name y p3] [] p4] (X.suite a pn).env := by intro _ _; rfl)
    (hpl : ∀ a pn, (backTo p4 (starEach [.Name y p3] (X.suite a pn).env)).any (·.1) = false := by intro _ _; rfl) :
    DS c X (.Try body [.ExceptHandler (some (.Name x np)) (some n) [.Return (some (.List [.Constant (.str z) jl p6, .Call (.Name "isinstance" p1) [.Name n p2, .Name y p3] [] p4] p7)) p5] pos'] [] [] pos) (sTryIsL z i r g) := by
  obtain ⟨Cx, gx⟩ := T.nx
  obtain ⟨Cy, gy⟩ := T.ny
  have hc : Names X x (.ref Cx) := ⟨hgx, hdx, .inl gx⟩
  have hsu : ∀ (a : Addr) (oe : Obj) (cls : Value) (d : Option Addr) (pn : List (Addr × Obj)), Zc cls d oe → (∃ vs, oe.data = .fields vs) → PSs (X.suite a ((a, oe) :: pn)) [.Return (some (.List [.Constant (.str z) jl p6, .Call (.Name "isinstance" p1) [.Name n p2, .Name y p3] [] p4] p7)) p5] (tsIsL X.K z i Cy a cls d) := by
    intro a oe cls d pn hz hfl
    refine ⟨fun pins s σ H D I ⟨C, b, h1, h2, h3, h4, h5, h6⟩ => ?_⟩
    subst h1
    subst h2
    have pr := pss_one (ps_ret (pos := p5) (pe_lst (pos := p7) (pa_cons pe_str (pa_cons (pe_callB (X := X.suite a ((a, oe) :: pn)) (p := p1) (call_isE h3 hz hfl) hg hm (by decide +kernel) (pa_cons (pe_var hi hv hdn hcn) (pa_cons (pe_glob (v := .ref Cy) hgy gy rfl hdy) pa_nil (he2 _ _)) (he _ _)) (by decide) (by decide) (he _ _) (hpl _ _)) pa_nil (hl1 _ _)) (hl2 _ _))))
    refine pr.run pins s σ H D I ?_
    refine ⟨.ref a, h4, .ref Cy, .ref Cy, b, rfl, fun u hu => hu, h5, ?_⟩
    exact ⟨by show 2 ≤ sizeLine; rw [sizeLine_eq]; decide, fun q hq => h6 q hq⟩
  have main := ps_try_as (i := i) (b₀ := .Return (some (.List [.Constant (.str z) jl p6, .Call (.Name "isinstance" p1) [.Name n p2, .Name y p3] [] p4] p7)) p5) (suite := []) (pos := pos) (pos' := pos') (np := np) (tb := fun W => tSD X.K X.mg { c with W := W } g) (Wout := c.W) hs hf hN hi hln hc tk (fun W pn xe t _ => hb W pn xe t) hsu
  refine ds_imp main fun F ρ e st σ H D rr q => ⟨F, ρ, e, st, rr.wish _, ?_⟩
  unfold sTryIsL at q
  cases hr : g e st with
  | stuck => rw [hr] at q; exact q
  | nx e' st' => rw [hr] at q; exact fun F' ρ' σ' H' l r' => q F' ρ' σ' H' l r'.unwish
  | bk e' st' => rw [hr] at q; exact fun F' ρ' σ' H' l r' => q F' ρ' σ' H' l r'.unwish
  | ct e' st' => rw [hr] at q; exact fun F' ρ' σ' H' l r' => q F' ρ' σ' H' l r'.unwish
  | rt v st' => rw [hr] at q; exact q
  | exc k e' st' =>
    rw [hr] at q
    intro F' ρ' σ' H' C r' gC
    simp only at q
    split at q
    · rename_i b hk
      obtain ⟨q1, q2, q3⟩ := T.at_ _ _ _ hk C Cx Cy gC gx gy
      split at q
      · rename_i hlen
        refine ⟨true, q1, fun _ a ha => ⟨C, b, rfl, rfl, q3, ?_, q2, fun w hw => ?_⟩, fun z => nomatch z⟩
        · rw [List.getElem?_set_self (by rw [← r'.len]; exact hlen)]
        · obtain ⟨w1, x1, nF, nR⟩ := allocW r'.w (o := .lst [.str z, .bl b]) hw
          have c0 : c.H w = none := by
            cases zz : c.H w with
            | none => rfl
            | some o => exact absurd hw (r'.x.there w (some_ne zz))
          exact q F' ρ' _ (.ref w) w1 (r'.x.trans x1) ⟨w, rfl, .lst upd_same (.cons (.str _) (.cons (.bl _) .nil)), nF, nR, c0⟩
      · exact q.elim
    · rename_i b hk
      obtain ⟨q1, q2, q3⟩ := T.at_ _ _ _ hk C Cx Cy gC gx gy
      exact ⟨false, q1, (fun z => by cases z), fun _ => q F' ρ' σ' H' C r'.unwish gC⟩
    · exact q.elim
end
end DL
end
section
set_option Elab.async false
set_option linter.all false
set_option maxRecDepth 100000
set_option maxHeartbeats 4000000
set_option autoImplicit false
/-! DLP: plain lemmas: how the functions compute. -/
namespace DL
open PySem L2

/-! ### strings -/
theorem str_cps (a : String) : (Str.ofString a).cps.toList = a.toList.map Char.toNat := by
  show (cpsOfBytes 0 0 a.toByteArray.data.toList).toArray.toList = _
  rw [cpsOfBytes_string]
theorem toNats_inj : ∀ {a b : List Char}, a.map Char.toNat = b.map Char.toNat → a = b
  | [], [], _ => rfl
  | [], _ :: _, h => by simp at h
  | _ :: _, [], h => by simp at h
  | x :: xs, y :: ys, h => by
    simp only [List.map_cons, List.cons.injEq] at h
    have h1 : x = y := Char.ext (UInt32.toNat_inj.mp h.1)
    rw [h1, toNats_inj h.2]
@[simp] theorem str_inj {a b : String} : (Str.ofString a = Str.ofString b) ↔ a = b := by
  constructor
  · intro h
    have h2 := congrArg (fun z : Str => z.cps.toList) h
    simp only [str_cps] at h2
    exact String.ext (toNats_inj h2)
  · intro h; rw [h]
@[simp] theorem str_beq {a b : String} : (Str.ofString a == Str.ofString b) = (a == b) := by
  rw [Bool.eq_iff_iff]
  simp

/-! ### how results are handed on -/
section
variable {d : D} {ds : List D} {e : Sl} {s : Sto} {n : Str} {r : RV}
@[simp] theorem b_ok {k : D → Sl → Sto → ER} : (ER.ok d e s).bind k = k d e s := rfl
@[simp] theorem b_exc {k : D → Sl → Sto → ER} : (ER.exc n e s).bind k = .exc n e s := rfl
@[simp] theorem ba_ok {k : List D → Sl → Sto → ER} : (AR.ok ds e s).bind k = k ds e s := rfl
@[simp] theorem bA_ok {k : D → Sl → Sto → AR} : (ER.ok d e s).bindA k = k d e s := rfl
@[simp] theorem baA_ok {k : List D → Sl → Sto → AR} : (AR.ok ds e s).bindA k = k ds e s := rfl
@[simp] theorem bS_ok {k : D → Sl → Sto → OR} : (ER.ok d e s).bindS k = k d e s := rfl
@[simp] theorem bS_exc {k : D → Sl → Sto → OR} : (ER.exc n e s).bindS k = .exc n e s := rfl
@[simp] theorem baS_ok {k : List D → Sl → Sto → OR} : (AR.ok ds e s).bindS k = k ds e s := rfl
@[simp] theorem o_nx {k : SF} : (OR.nx e s).bind k = k e s := rfl
@[simp] theorem o_rt {k : SF} : (OR.rt r s).bind k = .rt r s := rfl
@[simp] theorem o_bk {k : SF} : (OR.bk e s).bind k = .bk e s := rfl
@[simp] theorem o_ct {k : SF} : (OR.ct e s).bind k = .ct e s := rfl
@[simp] theorem o_exc {k : SF} : (OR.exc n e s).bind k = .exc n e s := rfl
@[simp] theorem eK_at : eK d e s = .ok d e s := rfl
@[simp] theorem eYes_at : eYes e s = .ok (.bl true) e s := rfl
@[simp] theorem aNil_at : aNil e s = .ok [] e s := rfl
@[simp] theorem sNop_at : sNop e s = .nx e s := rfl
end
/-- which way a test's value leads -/
def D.sel {α : Type} (d : D) (x y z : α) : α := match d with | .bl true => x | .bl false => y | _ => z
@[simp] theorem sel_bl {α : Type} {b : Bool} {x y z : α} : (D.bl b).sel x y z = if b = true then x else y := by cases b <;> rfl
section
variable {e : Sl} {s : Sto} {f g h : EF} {fs : AF} {k k' : SF} {d x y : D} {ds : List D} {b : Bool}
@[simp] theorem sIf_at : sIf f k k' e s = (f e s).bindS fun d e s => d.sel (k e s) (k' e s) .stuck := by
  unfold sIf D.sel; rfl
@[simp] theorem eIf_at : eIf f g h e s = (f e s).bind fun d e s => d.sel (g e s) (h e s) .stuck := by
  unfold eIf D.sel; rfl
@[simp] theorem eAnd_at : eAnd f g e s = (f e s).bind fun d e s => d.sel (g e s) (.ok (.bl false) e s) .stuck := by
  unfold eAnd D.sel; rfl
@[simp] theorem eOr_at : eOr f g e s = (f e s).bind fun d e s => d.sel (.ok (.bl true) e s) (g e s) .stuck := by
  unfold eOr D.sel; rfl
@[simp] theorem gNot_at : gNot (.bl b) e s = .ok (.bl (!b)) e s := rfl
@[simp] theorem eVar_at {i : Nat} : eVar i e s = match e[i]? with | some (some (.val d)) => .ok d e s | some (some (.own _)) => .ok (.own i) e s | _ => .stuck := rfl
@[simp] theorem eUn_at {u : D → Sl → Sto → ER} : eUn u f e s = (f e s).bind u := rfl
@[simp] theorem eBin_at {u : D → D → Sl → Sto → ER} : eBin u f g e s = (f e s).bind fun x e s => (g e s).bind fun y e s => u x y e s := rfl
@[simp] theorem sSeq_at : sSeq k k' e s = (k e s).bind k' := rfl
@[simp] theorem sSet_at {i : Nat} : sSet i f e s = (eFz f e s).bindS fun d e s => .nx (e.set i (some (.val d))) s := rfl
@[simp] theorem sOwn_at {i : Nat} : sOwn i f e s = (f e s).bindS fun d e s => .nx (e.set i (some (.own d))) s := rfl
@[simp] theorem sRetN_at : sRetN f e s = (f e s).bindS fun d e s => .rt (.new d) s := rfl
@[simp] theorem eTup_at : eTup fs e s = (fs e s).bind fun ds e s => if ds.length ≤ lim then .ok (.tup ds) e s else .stuck := rfl
@[simp] theorem eLst_at : eLst fs e s = (fs e s).bind fun ds e s => if ds.length ≤ lim then .ok (.lst ds) e s else .stuck := rfl
@[simp] theorem eDict_at {ks : List Key} : eDict ks fs e s = (fs e s).bind fun ds e s => if ds.length = ks.length ∧ ks.length ≤ 15 then .ok (.dk (ptAll [] (ks.zip ds))) e s else .stuck := rfl
@[simp] theorem aCons_at : aCons f fs e s = (f e s).bindA fun d e s => match fz d e with | some (d', e') => (fs e' s).bindA fun ds e s => .ok (d' :: ds) e s | none => .stuck := rfl
@[simp] theorem eFz_at : eFz f e s = (f e s).bind fun d e s => match fz d e with | some (d', e') => .ok d' e' s | none => .stuck := rfl
/-- a call's result -/
def FR.toE (r : FR) (e : Sl) : ER := match r with | .ok (.val d) s' => .ok d e s' | .ok (.new d) s' => .ok d e s' | .exc k s' => .exc k e s' | .stuck => .stuck
def FR.toN (r : FR) (e : Sl) : ER := match r with | .ok (.val d) s' => .stuck | .ok (.new d) s' => .ok d e s' | .exc k s' => .exc k e s' | .stuck => .stuck
@[simp] theorem toE_val : (FR.ok (.val d) s).toE e = .ok d e s := rfl
@[simp] theorem toE_new : (FR.ok (.new d) s).toE e = .ok d e s := rfl
@[simp] theorem toN_new : (FR.ok (.new d) s).toN e = .ok d e s := rfl
@[simp] theorem eCall_at {n : Nat} {fn : Fn} : eCall n fn fs e s = (fs e s).bind fun ds e s => if ds.length = n then (fn ds s).toE e else .stuck := by unfold eCall FR.toE; rfl
@[simp] theorem nCall_at {n : Nat} {fn : Fn} : nCall n fn fs e s = (fs e s).bind fun ds e s => if ds.length = n then (fn ds s).toN e else .stuck := by unfold nCall FR.toN; rfl
/-- a def's end -/
def OR.toF : OR → FR
  | .nx _ s => .ok (.val .non) s
  | .rt r s => .ok r s
  | .exc k _ s => .exc k s
  | _ => .stuck
@[simp] theorem toF_rt {r : RV} : (OR.rt r s).toF = .ok r s := rfl
@[simp] theorem toF_nx : (OR.nx e s).toF = .ok (.val .non) s := rfl
@[simp] theorem toF_exc {n : Str} : (OR.exc n e s).toF = .exc n s := rfl
theorem fnOf_at {n : Nat} {k : SF} {st : Sto} : fnOf n k ds st = (k (ds.map (fun d => some (SV.val d)) ++ List.replicate (n - ds.length) none) st).toF := by unfold fnOf OR.toF; rfl
@[simp] theorem toF_ite {p : Prop} [Decidable p] {a b : OR} : (if p then a else b).toF = if p then a.toF else b.toF := by split <;> rfl
@[simp] theorem bind_ite {p : Prop} [Decidable p] {a b : OR} : (if p then a else b).bind k = if p then a.bind k else b.bind k := by split <;> rfl

@[simp] theorem ebind_ite {p : Prop} [Decidable p] {a b : ER} {k : D → Sl → Sto → ER} : (if p then a else b).bind k = if p then a.bind k else b.bind k := by split <;> rfl
@[simp] theorem ebindS_ite {p : Prop} [Decidable p] {a b : ER} {k : D → Sl → Sto → OR} : (if p then a else b).bindS k = if p then a.bindS k else b.bindS k := by split <;> rfl
@[simp] theorem ebindA_ite {p : Prop} [Decidable p] {a b : ER} {k : D → Sl → Sto → AR} : (if p then a else b).bindA k = if p then a.bindA k else b.bindA k := by split <;> rfl

/-! ### values that are no pseudo values -/
def Ty (d : D) : Bool := (tyName d).isSome
theorem fz_ty (h : Ty d = true) : fz d e = some (d, e) := by cases d <;> first | rfl | cases h
theorem vw_ty (h : Ty d = true) : vw d e s = d := by cases d <;> first | rfl | cases h
@[simp] theorem ty_non : Ty (.non) = true := rfl
@[simp] theorem ty_bl {b : Bool} : Ty (.bl b) = true := rfl
@[simp] theorem ty_int {b : Int} : Ty (.int b) = true := rfl
@[simp] theorem ty_str {b : Str} : Ty (.str b) = true := rfl
@[simp] theorem ty_tup {b : List D} : Ty (.tup b) = true := rfl
@[simp] theorem ty_lst {b : List D} : Ty (.lst b) = true := rfl
@[simp] theorem ty_dk {b : List (Key × D)} : Ty (.dk b) = true := rfl
@[simp] theorem fz_non : fz .non e = some (.non, e) := rfl
@[simp] theorem fz_bl : fz (.bl b) e = some (.bl b, e) := rfl
@[simp] theorem fz_int {i : Int} : fz (.int i) e = some (.int i, e) := rfl
@[simp] theorem fz_str {i : Str} : fz (.str i) e = some (.str i, e) := rfl
@[simp] theorem fz_tup : fz (.tup ds) e = some (.tup ds, e) := rfl
@[simp] theorem fz_lst : fz (.lst ds) e = some (.lst ds, e) := rfl
@[simp] theorem fz_scr : fz (.scr ds) e = some (.scr ds, e) := rfl
@[simp] theorem fz_dk {kvs : List (Key × D)} : fz (.dk kvs) e = some (.dk kvs, e) := rfl
@[simp] theorem fz_dt {kvs : List (List Key × D)} : fz (.dt kvs) e = some (.dt kvs, e) := rfl
@[simp] theorem fz_ref {i : Nat} : fz (.ref i) e = some (.ref i, e) := rfl
@[simp] theorem vw_non : vw .non e s = .non := rfl
@[simp] theorem vw_bl : vw (.bl b) e s = .bl b := rfl
@[simp] theorem vw_int {i : Int} : vw (.int i) e s = .int i := rfl
@[simp] theorem vw_str {i : Str} : vw (.str i) e s = .str i := rfl
@[simp] theorem vw_tup : vw (.tup ds) e s = .tup ds := rfl
@[simp] theorem vw_lst : vw (.lst ds) e s = .lst ds := rfl
@[simp] theorem vw_scr : vw (.scr ds) e s = .scr ds := rfl
@[simp] theorem vw_dk {kvs : List (Key × D)} : vw (.dk kvs) e s = .dk kvs := rfl
@[simp] theorem vw_dt {kvs : List (List Key × D)} : vw (.dt kvs) e s = .dt kvs := rfl
@[simp] theorem ret_ty {v : D} (h : Ty v = true) : (match v with | .own i => (match e[i]? with | some (some (.own d')) => OR.rt (.new d') s | _ => .stuck) | d => .rt (.val d) s) = .rt (.val v) s := by cases v <;> first | rfl | cases h
/-- what return hands back -/
def retv (d : D) (e : Sl) (s : Sto) : OR := match d with | .own i => (match e[i]? with | some (some (.own d')) => OR.rt (.new d') s | _ => .stuck) | d => .rt (.val d) s
@[simp] theorem sRet_at : sRet f e s = (f e s).bindS retv := rfl
theorem retv_ty (h : Ty d = true) : retv d e s = .rt (.val d) s := by cases d <;> first | rfl | cases h
@[simp] theorem retv_non : retv .non e s = .rt (.val .non) s := rfl
@[simp] theorem retv_bl : retv (.bl b) e s = .rt (.val (.bl b)) s := rfl
@[simp] theorem retv_int {i : Int} : retv (.int i) e s = .rt (.val (.int i)) s := rfl
@[simp] theorem retv_str {i : Str} : retv (.str i) e s = .rt (.val (.str i)) s := rfl
@[simp] theorem retv_tup : retv (.tup ds) e s = .rt (.val (.tup ds)) s := rfl
@[simp] theorem retv_lst : retv (.lst ds) e s = .rt (.val (.lst ds)) s := rfl
@[simp] theorem retv_dk {kvs : List (Key × D)} : retv (.dk kvs) e s = .rt (.val (.dk kvs)) s := rfl

/-! ### whole numbers -/
@[simp] theorem gSub_at {i j : Int} : gI kSub (.int i) (.int j) e s = .ok (.int (i - j)) e s := rfl
@[simp] theorem gLt_at {i j : Int} : gI kLt (.int i) (.int j) e s = .ok (.bl (decide (i < j))) e s := rfl
@[simp] theorem gLe_at {i j : Int} : gI kLe (.int i) (.int j) e s = .ok (.bl (decide (i ≤ j))) e s := rfl
@[simp] theorem gGt_at {i j : Int} : gI (fun i j => kLt j i) (.int i) (.int j) e s = .ok (.bl (decide (j < i))) e s := rfl
@[simp] theorem gGe_at {i j : Int} : gI (fun i j => kLe j i) (.int i) (.int j) e s = .ok (.bl (decide (j ≤ i))) e s := rfl
theorem gMod_at {i j : Int} (h : 0 < j) : gI kMod (.int i) (.int j) e s = .ok (.int (i % j)) e s := by unfold gI kMod; simp [h]
theorem gDiv_at {i j : Int} (h : 0 < j) (h' : j < 1073741824) : gI kDiv (.int i) (.int j) e s = .ok (.int (i / j)) e s := by unfold gI kDiv; simp [h, h']
@[simp] theorem gAdd_at {i j : Int} : gAdd (.int i) (.int j) e s = .ok (.int (i + j)) e s := rfl
theorem gMul_r {i j : Int} (h : -(2 ^ 64) < j) (h' : j < 2 ^ 64) : gMul (.int i) (.int j) e s = .ok (.int (i * j)) e s := by
  show (@ite _ ((-(2 ^ 64) < i ∧ i < 2 ^ 64) ∨ (-(2 ^ 64) < j ∧ j < 2 ^ 64)) (Classical.propDecidable _) (ER.ok (.int (i * j)) e s) .stuck) = _
  rw [if_pos (.inr ⟨h, h'⟩)]
theorem gMul_l {i j : Int} (h : -(2 ^ 64) < i) (h' : i < 2 ^ 64) : gMul (.int i) (.int j) e s = .ok (.int (i * j)) e s := by
  show (@ite _ ((-(2 ^ 64) < i ∧ i < 2 ^ 64) ∨ (-(2 ^ 64) < j ∧ j < 2 ^ 64)) (Classical.propDecidable _) (ER.ok (.int (i * j)) e s) .stuck) = _
  rw [if_pos (.inl ⟨h, h'⟩)]
@[simp] theorem eqI_at {i j : Int} : gEq (.int i) (.int j) e s = .ok (.bl (decide (i = j))) e s := rfl
@[simp] theorem eqS_at {i j : Str} : gEq (.str i) (.str j) e s = .ok (.bl (decide (i = j))) e s := rfl
@[simp] theorem neI_at {i j : Int} : gNe (.int i) (.int j) e s = .ok (.bl (!decide (i = j))) e s := rfl
@[simp] theorem neID_at {i j : Int} : gNeD (.int i) (.int j) e s = .ok (.bl (!decide (i = j))) e s := rfl
@[simp] theorem neSD_at {i j : Str} : gNeD (.str i) (.str j) e s = .ok (.bl (!decide (i = j))) e s := rfl
@[simp] theorem neS_at {i j : Str} : gNe (.str i) (.str j) e s = .ok (.bl (!decide (i = j))) e s := rfl
end

/-! ### loops -/
theorem compL_map {vs : List Nat} {bind : BF} {ft fe : EF} {e : Sl} {s : Sto} (e1 : D → Sl) (p : D → Bool) (g : D → D) : ∀ (xs acc : List D),
    (∀ x ∈ xs, bind x e = some (e1 x) ∧ ft (e1 x) s = .ok (.bl (p x)) (e1 x) s ∧ (p x = true → eFz fe (e1 x) s = .ok (g x) (e1 x) s) ∧ wipeE (e1 x) vs = e) →
    acc.length + xs.length ≤ lim → compL vs bind ft fe xs acc e s = .ok (.lst (acc ++ (xs.filter p).map g)) e s
  | [], acc, _, _ => by simp [compL]
  | x :: xs, acc, h, hl => by
    obtain ⟨h1, h2, h3, h4⟩ := h x (List.mem_cons_self)
    have hr := fun acc hl => compL_map e1 p g xs acc (fun y hy => h y (List.mem_cons_of_mem _ hy)) hl
    simp only [List.length_cons] at hl
    unfold compL
    rw [h1]
    simp only [h2]
    cases hp : p x with
    | true =>
      simp only [hp, h3 hp, h4]
      rw [if_pos (by omega), hr _ (by simp; omega), List.filter_cons, hp]
      simp
    | false =>
      simp only [hp, h4]
      rw [hr _ (by omega), List.filter_cons, hp]
      simp
/-- a for, its slots after each turn told by a law -/
theorem forL_fold {bind : BF} {g : SF} {s : Sto} (E : List D → Sl) : ∀ (xs done : List D),
    (∀ (d : List D) x r, done ++ xs = d ++ x :: r → ∃ e1, bind x (E d) = some e1 ∧ (g e1 s = .nx (E (d ++ [x])) s ∨ g e1 s = .ct (E (d ++ [x])) s)) →
    forL bind g xs (E done) s = .nx (E (done ++ xs)) s
  | [], done, _ => by simp [forL]
  | x :: xs, done, h => by
    obtain ⟨e1, h1, h2⟩ := h done x xs rfl
    unfold forL
    rw [h1]
    have hr := forL_fold E xs (done ++ [x]) (fun d y r hy => h d y r (by rw [← hy]; simp))
    rcases h2 with h2 | h2
    · simp only [h2, hr]; simp
    · simp only [h2, hr]; simp
/-- a for that keeps an invariant -/
theorem forL_inv {bind : BF} {g : SF} {s : Sto} (I : Nat → Sl → Prop) : ∀ (xs : List D) (n : Nat) (e : Sl), I n e →
    (∀ m e x, n ≤ m → x ∈ xs → xs[m - n]? = some x → I m e → ∃ e1 e2, bind x e = some e1 ∧ (g e1 s = .nx e2 s ∨ g e1 s = .ct e2 s) ∧ I (m + 1) e2) →
    ∃ e', forL bind g xs e s = .nx e' s ∧ I (n + xs.length) e'
  | [], n, e, hI, _ => ⟨e, rfl, by simpa using hI⟩
  | x :: xs, n, e, hI, h => by
    obtain ⟨e1, e2, h1, h2, h3⟩ := h n e x (Nat.le_refl _) List.mem_cons_self (by simp) hI
    obtain ⟨e', h4, h5⟩ := forL_inv I xs (n + 1) e2 h3 (fun m e y hm hy hx hI => h m e y (by omega) (List.mem_cons_of_mem _ hy) (by
      have : m - n = (m - (n + 1)) + 1 := by omega
      rw [this, List.getElem?_cons_succ]; exact hx) hI)
    refine ⟨e', ?_, by rw [List.length_cons]; have : n + (xs.length + 1) = n + 1 + xs.length := by omega
                       rw [this]; exact h5⟩
    unfold forL
    rw [h1]
    rcases h2 with h2 | h2
    · simp only [h2, h4]
    · simp only [h2, h4]
@[simp] theorem rngD_len {lo : Int} {n : Nat} : (rngD lo n).length = n := by simp [rngD]
theorem rngD_mem {lo : Int} {n : Nat} {x : D} (h : x ∈ rngD lo n) : ∃ i : Nat, i < n ∧ x = .int (lo + (i : Nat)) := by
  unfold rngD at h
  obtain ⟨i, h1, h2⟩ := List.mem_map.mp h
  exact ⟨i, List.mem_range.mp h1, h2.symm⟩
theorem iRange1_at {f : EF} {e : Sl} {s : Sto} {n : Nat} (h : f e s = .ok (.int n) e s) (hn : n ≤ lim) : iRange1 f e s = .ok (rngD 0 n) e s := by
  unfold iRange1
  rw [h]
  simp only
  unfold lim at hn
  rw [if_pos (by omega)]
  simp
theorem iSeq_at {f : EF} {e e1 : Sl} {s s1 : Sto} {d : D} {ds : List D} (h : eFz f e s = .ok d e1 s1) (hd : asSeq d = some ds) : iSeq f e s = .ok ds e1 s1 := by
  unfold iSeq
  rw [h]
  simp only [hd]
theorem eComp_at {vs : List Nat} {fi : IF} {bind : BF} {ft fe : EF} {e e1 : Sl} {s s1 : Sto} {ds : List D} (h : fi e s = .ok ds e1 s1) : eComp vs fi bind ft fe e s = compL vs bind ft fe ds [] (wipeE e1 vs) s1 := by
  unfold eComp
  rw [h]
theorem sFor_at {fi : IF} {bind : BF} {g : SF} {e e1 : Sl} {s s1 : Sto} {ds : List D} (h : fi e s = .ok ds e1 s1) : sFor fi bind g e s = forL bind g ds e1 s1 := by
  unfold sFor
  rw [h]
theorem sApp_at {i : Nat} {f : EF} {e : Sl} {s : Sto} {ds : List D} {d : D} (h : e[i]? = some (some (.own (.lst ds)))) (hf : eFz f e s = .ok d e s) (hl : ds.length < lim) : sApp i f e s = .nx (e.set i (some (.own (.lst (ds ++ [d]))))) s := by
  unfold sApp
  rw [h]
  simp only [hf, bS_ok, h]
  rw [if_pos hl]
theorem asInts_map (ns : List Int) : asInts (ns.map .int) = some ns := by
  unfold asInts
  induction ns with
  | nil => rfl
  | cons n ns ih => simp [allO, asI, ih]
theorem asBls_map {α : Type} (f : α → Bool) (l : List α) : asBls (l.map fun x => .bl (f x)) = some (l.map f) := by
  unfold asBls
  induction l with
  | nil => rfl
  | cons n ns ih => simp [allO, asB, ih]
end DL
end
section
set_option Elab.async false
set_option linter.all false
set_option maxRecDepth 100000
set_option maxHeartbeats 4000000
set_option autoImplicit false
/-! DLQ: plain lemmas on lists, dicts, equality. -/
namespace DL
open PySem L2
section
variable {d x y : D} {ds : List D} {e : Sl} {s : Sto} {i : Int} {kvs : List (Key × D)}
theorem atI_of {α : Type} {xs : List α} {i : Int} (h : 0 ≤ i) (h' : i < xs.length) : atI xs i = xs[i.toNat]? := by
  unfold atI ixN
  rw [if_pos h, if_pos h']
  rfl
theorem atI_last {α : Type} {xs : List α} {a : α} : atI (xs ++ [a]) (-1) = some a := by
  unfold atI ixN
  simp only [List.length_append, List.length_singleton]
  rw [if_neg (by omega), if_pos (by omega)]
  show (xs ++ [a])[_]? = _
  have : (-1 + ((xs.length + 1 : Nat) : Int)).toNat = xs.length := by omega
  rw [this]
  simp
theorem ix_lst (h : atI ds i = some d) : gIx (.lst ds) (.int i) e s = .ok d e s := by
  unfold gIx; simp only [vw_lst, asSeq, h]
theorem ix_tup (h : atI ds i = some d) : gIx (.tup ds) (.int i) e s = .ok d e s := by
  unfold gIx; simp only [vw_tup, asSeq, h]
theorem ix_scr (h : atI ds i = some d) : gIx (.scr ds) (.int i) e s = .ok d e s := by
  unfold gIx; simp only [vw_scr, asSeq, h]
theorem ix_dk {k : Str} (h : lk kvs (.inr k) = some d) : gIx (.dk kvs) (.str k) e s = .ok d e s := by
  unfold gIx; simp only [vw_dk, toK, h]
theorem ix_dki {k : Int} (h : lk kvs (.inl k) = some d) : gIx (.dk kvs) (.int k) e s = .ok d e s := by
  unfold gIx; simp only [vw_dk, toK, h]
theorem ix_str {z : Str} {cp : Nat} (h : atI z.cps.toList i = some cp) (hz : z.length ≤ lim) : gIx (.str z) (.int i) e s = .ok (.str ⟨#[cp]⟩) e s := by
  unfold gIx; simp only [vw_str, h]; rw [if_pos hz]
@[simp] theorem len_lst : gLen (.lst ds) e s = .ok (.int ds.length) e s := rfl
@[simp] theorem len_tup : gLen (.tup ds) e s = .ok (.int ds.length) e s := rfl
@[simp] theorem len_scr : gLen (.scr ds) e s = .ok (.int ds.length) e s := rfl
@[simp] theorem len_dk : gLen (.dk kvs) e s = .ok (.int kvs.length) e s := rfl
theorem len_str {z : Str} (h : z.length ≤ lim) : gLen (.str z) e s = .ok (.int z.length) e s := by
  show (if z.length ≤ lim then ER.ok (.int z.length) e s else .stuck) = _
  rw [if_pos h]
@[simp] theorem tuple_lst : gTuple (.lst ds) e s = .ok (.tup ds) e s := rfl
@[simp] theorem tuple_tup : gTuple (.tup ds) e s = .ok (.tup ds) e s := rfl
@[simp] theorem list_lst : gList (.lst ds) e s = .ok (.lst ds) e s := rfl
@[simp] theorem list_tup : gList (.tup ds) e s = .ok (.lst ds) e s := rfl
@[simp] theorem abs_at : gAbs (.int i) e s = .ok (.int (if i < 0 then -i else i)) e s := rfl
@[simp] theorem int_at : gInt (.int i) e s = .ok (.int i) e s := rfl
@[simp] theorem neg_at : gNeg (.int i) e s = .ok (.int (-i)) e s := rfl
@[simp] theorem vw_own {i : Nat} : vw (.own i) e s = match e[i]? with | some (some (.own d')) => d' | _ => .own i := rfl
@[simp] theorem fz_own {i : Nat} : fz (.own i) e = match e[i]? with | some (some (.own d')) => some (d', e.set i (some (.val d'))) | _ => none := rfl
@[simp] theorem retv_own {i : Nat} : retv (.own i) e s = match e[i]? with | some (some (.own d')) => OR.rt (.new d') s | _ => .stuck := rfl
@[simp] theorem asSeq_lst : asSeq (.lst ds) = some ds := rfl
@[simp] theorem asSeq_tup : asSeq (.tup ds) = some ds := rfl
@[simp] theorem asSeq_scr : asSeq (.scr ds) = some ds := rfl
@[simp] theorem tuple_own {i : Nat} : gTuple (.own i) e s = match asSeq (vw (.own i) e s) with | some ds => .ok (.tup ds) e s | none => .stuck := rfl
@[simp] theorem list_own {i : Nat} : gList (.own i) e s = match asSeq (vw (.own i) e s) with | some ds => .ok (.lst ds) e s | none => .stuck := rfl
@[simp] theorem len_own {i : Nat} : gLen (.own i) e s = match vw (.own i) e s with
  | .str z => if z.length ≤ lim then .ok (.int z.length) e s else .stuck
  | .dk kvs => .ok (.int kvs.length) e s
  | d => (match asSeq d with | some ds => .ok (.int ds.length) e s | none => .stuck) := rfl
theorem isi_at {T t : String} (h : tyName d = some t) : gIsi T d e s = .ok (.bl (isTy T t)) e s := by
  unfold gIsi
  rw [vw_ty (by unfold Ty; rw [h]; rfl), h]
@[simp] theorem isi_non {T : String} : gIsi T (.non) e s = .ok (.bl (isTy T "NoneType")) e s := rfl
@[simp] theorem isi_bl {T : String} {b : Bool} : gIsi T (.bl b) e s = .ok (.bl (isTy T "bool")) e s := rfl
@[simp] theorem isi_int {T : String} {b : Int} : gIsi T (.int b) e s = .ok (.bl (isTy T "int")) e s := rfl
@[simp] theorem isi_str {T : String} {b : Str} : gIsi T (.str b) e s = .ok (.bl (isTy T "str")) e s := rfl
@[simp] theorem isi_tup {T : String} {b : List D} : gIsi T (.tup b) e s = .ok (.bl (isTy T "tuple")) e s := rfl
@[simp] theorem isi_lst {T : String} {b : List D} : gIsi T (.lst b) e s = .ok (.bl (isTy T "list")) e s := rfl
@[simp] theorem isi_dk {T : String} {b : List (Key × D)} : gIsi T (.dk b) e s = .ok (.bl (isTy T "dict")) e s := rfl
theorem all_at {α : Type} (f : α → Bool) (l : List α) : gAll (.lst (l.map fun x => .bl (f x))) e s = .ok (.bl (l.all f)) e s := by
  unfold gAll
  simp only [vw_lst, asBls_map]
  rw [List.all_map]
  rfl
theorem addL {a b : List D} : gAdd (.lst a) (.lst b) e s = if a.length + b.length ≤ lim then .ok (.lst (a ++ b)) e s else .stuck := by
  unfold gAdd; rfl
theorem addT {a b : List D} : gAdd (.tup a) (.tup b) e s = if a.length + b.length ≤ lim then .ok (.tup (a ++ b)) e s else .stuck := by
  unfold gAdd; rfl
theorem addL' {a b : List D} (h : a.length + b.length ≤ lim) : gAdd (.lst a) (.lst b) e s = .ok (.lst (a ++ b)) e s := by rw [addL, if_pos h]
theorem addT' {a b : List D} (h : a.length + b.length ≤ lim) : gAdd (.tup a) (.tup b) e s = .ok (.tup (a ++ b)) e s := by rw [addT, if_pos h]
end

/-! ### equal to itself -/
mutual
def pd : D → Bool
  | .non => true
  | .bl _ => true
  | .int _ => true
  | .str _ => true
  | .tup ds => pds ds
  | .lst ds => pds ds
  | .dk kvs => decide (kvs.map (·.1)).Nodup && pdk kvs
  | _ => false
def pds : List D → Bool
  | [] => true
  | d :: ds => pd d && pds ds
def pdk : List (Key × D) → Bool
  | [] => true
  | (_, d) :: ds => pd d && pdk ds
end
theorem lk_nd : ∀ {kvs : List (Key × D)} {k : Key} {d : D}, (kvs.map (·.1)).Nodup → (k, d) ∈ kvs → lk kvs k = some d
  | (k', d') :: r, k, d, h, hm => by
    rw [List.map_cons, List.nodup_cons] at h
    unfold lk
    rcases List.mem_cons.mp hm with hm | hm
    · cases hm
      rw [if_pos rfl]
    · rw [if_neg (fun z => h.1 (List.mem_map.mpr ⟨(k, d), hm, z.symm⟩))]
      exact lk_nd h.2 hm
mutual
theorem deq_refl : ∀ {d : D}, pd d = true → deq d d = some true
  | .non, _ => rfl
  | .bl b, _ => by unfold deq; simp
  | .int b, _ => by unfold deq; simp
  | .str b, _ => by unfold deq; simp
  | .tup ds, h => by
    unfold pd at h
    unfold deq
    rw [deqs_refl h]
    simp
  | .lst ds, h => by
    unfold pd at h
    unfold deq
    rw [if_pos rfl, deqs_refl h]
  | .dk kvs, h => by
    unfold pd at h
    rw [Bool.and_eq_true] at h
    unfold deq
    rw [deqk_refl h.2 (fun k d m => lk_nd (by simpa using h.1) m)]
    simp
  | .scr _, h => nomatch h
  | .dt _, h => nomatch h
  | .dn _, h => nomatch h
  | .ref _, h => nomatch h
  | .own _, h => nomatch h
theorem deqs_refl : ∀ {ds : List D}, pds ds = true → deqs ds ds = some true
  | [], _ => by unfold deqs; rfl
  | d :: ds, h => by
    unfold pds at h
    rw [Bool.and_eq_true] at h
    unfold deqs
    rw [deq_refl h.1, deqs_refl h.2]
    rfl
theorem deqk_refl : ∀ {ds ys : List (Key × D)}, pdk ds = true → (∀ k d, (k, d) ∈ ds → lk ys k = some d) → deqk ds ys = some true
  | [], _, _, _ => by unfold deqk; rfl
  | (k, d) :: ds, ys, h, hm => by
    unfold pdk at h
    rw [Bool.and_eq_true] at h
    unfold deqk
    rw [hm k d List.mem_cons_self]
    simp only [deq_refl h.1, deqk_refl h.2 fun k d m => hm k d (List.mem_cons_of_mem _ m)]
    rfl
end
theorem pds_all : ∀ {ds : List D}, (∀ d ∈ ds, pd d = true) → pds ds = true
  | [], _ => rfl
  | d :: ds, h => by
    unfold pds
    rw [h d List.mem_cons_self, pds_all fun x m => h x (List.mem_cons_of_mem _ m)]
    rfl
theorem depths_le {n : Nat} : ∀ {ds : List D}, (∀ d ∈ ds, depth d ≤ n) → depths ds ≤ n
  | [], _ => by unfold depths; exact Nat.zero_le _
  | d :: ds, h => by
    unfold depths
    exact Nat.max_le.mpr ⟨h d List.mem_cons_self, depths_le fun x m => h x (List.mem_cons_of_mem _ m)⟩
theorem ty_pd {d : D} (h : pd d = true) : Ty d = true := by cases d <;> first | rfl | cases h
theorem eq_refl {d : D} {e : Sl} {s : Sto} (h : pd d = true) (hd : depth d < 40) : gEq d d e s = .ok (.bl true) e s := by
  unfold gEq
  rw [vw_ty (ty_pd h), if_pos hd, deq_refl h]
/-! ### for -/
theorem sFor_inv {bind : BF} {g : SF} {fi : IF} {e e0 : Sl} {s : Sto} {ds : List D} (I : Nat → Sl → Prop) (hi : fi e s = .ok ds e0 s) (h0 : I 0 e0)
    (h : ∀ m e x, ds[m]? = some x → I m e → ∃ e1 e2, bind x e = some e1 ∧ (g e1 s = .nx e2 s ∨ g e1 s = .ct e2 s) ∧ I (m + 1) e2) :
    ∃ e', sFor fi bind g e s = .nx e' s ∧ I ds.length e' := by
  rw [sFor_at hi]
  obtain ⟨e', h1, h2⟩ := forL_inv (bind := bind) (g := g) (s := s) I ds 0 e0 h0 (fun m e x _ _ hx hI => h m e x (by simpa using hx) hI)
  exact ⟨e', h1, by simpa using h2⟩
theorem rngD_get {lo : Int} {n m : Nat} {x : D} (h : (rngD lo n)[m]? = some x) : m < n ∧ x = .int (lo + (m : Nat)) := by
  have hm : m < n := by
    have := (List.getElem?_eq_some_iff.mp h).1
    simpa using this
  rw [rngD_at hm] at h
  cases h
  exact ⟨hm, rfl⟩
theorem sFor_rng {i : Nat} {g : SF} {f : EF} {e : Sl} {s : Sto} {n : Nat} (I : Nat → Sl → Prop) (hi : f e s = .ok (.int n) e s) (hn : n ≤ lim) (h0 : I 0 e)
    (h : ∀ m e, m < n → I m e → ∃ e2, (g (e.set i (some (.val (.int m)))) s = .nx e2 s ∨ g (e.set i (some (.val (.int m)))) s = .ct e2 s) ∧ I (m + 1) e2) :
    ∃ e', sFor (iRange1 f) (bName i) g e s = .nx e' s ∧ I n e' := by
  obtain ⟨e', h1, h2⟩ := sFor_inv (bind := bName i) (g := g) (s := s) (ds := rngD 0 n) I (iRange1_at hi hn) h0 (fun m e x hx hI => by
    obtain ⟨hm, rfl⟩ := rngD_get hx
    obtain ⟨e2, h3, h4⟩ := h m e hm hI
    exact ⟨_, e2, rfl, by simpa using h3, h4⟩)
  exact ⟨e', h1, by simpa using h2⟩
theorem comp_rng {i : Nat} {ft fe : EF} {f : EF} {e : Sl} {s : Sto} {n : Nat} (p : Nat → Bool) (g : Nat → D) (hi : f e s = .ok (.int n) e s) (hn : n ≤ lim) (he : e[i]? = some none)
    (h : ∀ m, m < n → ft (e.set i (some (.val (.int m)))) s = .ok (.bl (p m)) (e.set i (some (.val (.int m)))) s ∧ (p m = true → eFz fe (e.set i (some (.val (.int m)))) s = .ok (g m) (e.set i (some (.val (.int m)))) s)) :
    eComp [i] (iRange1 f) (bName i) ft fe e s = .ok (.lst (((List.range n).filter p).map g)) e s := by
  have hz : ∀ x, (e.set i x).set i none = e := fun x => by
    rw [List.set_set]
    have := (List.getElem?_eq_some_iff.mp he)
    obtain ⟨h1, h2⟩ := this
    rw [← h2]
    simp
  have hw : wipeE e [i] = e := by
    show (wipeE e []).set i none = e
    have := hz none
    rwa [List.set_set] at this
  rw [eComp_at (iRange1_at hi hn), hw]
  rw [compL_map (fun d => e.set i (some (.val d))) (fun d => match d with | .int j => p j.toNat | _ => false) (fun d => match d with | .int j => g j.toNat | _ => d) (rngD 0 n) [] (fun x hx => by
    obtain ⟨m, hm, rfl⟩ := rngD_mem hx
    obtain ⟨h1, h2⟩ := h m hm
    refine ⟨rfl, ?_, ?_, hz _⟩
    · simpa using h1
    · simpa using h2) (by simpa using hn)]
  congr 2
  unfold rngD
  rw [List.nil_append, List.filter_map, List.map_map]
  congr 1
  · funext x
    simp
  · congr 1
    funext x
    simp
theorem comp_seq {i : Nat} {ft fe : EF} {f : EF} {e : Sl} {s : Sto} {d : D} {ds : List D} (p : D → Bool) (g : D → D) (hi : eFz f e s = .ok d e s) (hd : asSeq d = some ds) (hn : ds.length ≤ lim) (he : e[i]? = some none)
    (h : ∀ x ∈ ds, ft (e.set i (some (.val x))) s = .ok (.bl (p x)) (e.set i (some (.val x))) s ∧ (p x = true → eFz fe (e.set i (some (.val x))) s = .ok (g x) (e.set i (some (.val x))) s)) :
    eComp [i] (iSeq f) (bName i) ft fe e s = .ok (.lst ((ds.filter p).map g)) e s := by
  have hz : ∀ x, (e.set i x).set i none = e := fun x => by
    rw [List.set_set]
    have := (List.getElem?_eq_some_iff.mp he)
    obtain ⟨h1, h2⟩ := this
    rw [← h2]
    simp
  have hw : wipeE e [i] = e := by
    show (wipeE e []).set i none = e
    have := hz none
    rwa [List.set_set] at this
  rw [eComp_at (iSeq_at hi hd), hw]
  exact compL_map (fun d => e.set i (some (.val d))) p g ds [] (fun x hx => ⟨rfl, (h x hx).1, (h x hx).2, hz (some (.val x))⟩) (by simpa using hn)
/-- the same, whatever the name held -/
theorem comp_rngW {i : Nat} {ft fe : EF} {f : EF} {e : Sl} {s : Sto} {n : Nat} (p : Nat → Bool) (g : Nat → D) (hi : f e s = .ok (.int n) e s) (hn : n ≤ lim)
    (h : ∀ m, m < n → ft (e.set i (some (.val (.int m)))) s = .ok (.bl (p m)) (e.set i (some (.val (.int m)))) s ∧ (p m = true → eFz fe (e.set i (some (.val (.int m)))) s = .ok (g m) (e.set i (some (.val (.int m)))) s)) :
    eComp [i] (iRange1 f) (bName i) ft fe e s = .ok (.lst (((List.range n).filter p).map g)) (e.set i none) s := by
  have hw : wipeE e [i] = e.set i none := rfl
  rw [eComp_at (iRange1_at hi hn), hw]
  rw [compL_map (fun d => e.set i (some (.val d))) (fun d => match d with | .int j => p j.toNat | _ => false) (fun d => match d with | .int j => g j.toNat | _ => d) (rngD 0 n) [] (fun x hx => by
    obtain ⟨m, hm, rfl⟩ := rngD_mem hx
    obtain ⟨h1, h2⟩ := h m hm
    refine ⟨by unfold bName; rw [List.set_set], ?_, ?_, by show (e.set i _).set i none = _; rw [List.set_set]⟩
    · simpa using h1
    · simpa using h2) (by simpa using hn)]
  congr 2
  unfold rngD
  rw [List.nil_append, List.filter_map, List.map_map]
  congr 1
  · funext x
    simp
  · congr 1
    funext x
    simp
end DL
end
section
set_option Elab.async false
set_option linter.all false
set_option maxRecDepth 100000
set_option maxHeartbeats 4000000
set_option autoImplicit false
/-! DLV: plain lemmas, second part: comprehensions over anything, dicts. -/
namespace DL
open PySem L2
theorem comp_any {i : Nat} {ft fe : EF} {fi : IF} {e : Sl} {s : Sto} {ds : List D} (p : D → Bool) (g : D → D) (hi : fi e s = .ok ds e s) (hn : ds.length ≤ lim)
    (h : ∀ x ∈ ds, ft (e.set i (some (.val x))) s = .ok (.bl (p x)) (e.set i (some (.val x))) s ∧ (p x = true → eFz fe (e.set i (some (.val x))) s = .ok (g x) (e.set i (some (.val x))) s)) :
    eComp [i] fi (bName i) ft fe e s = .ok (.lst ((ds.filter p).map g)) (e.set i none) s := by
  have hw : wipeE e [i] = e.set i none := rfl
  rw [eComp_at hi, hw]
  exact compL_map (fun d => e.set i (some (.val d))) p g ds [] (fun x hx => by
    obtain ⟨h1, h2⟩ := h x hx
    refine ⟨by unfold bName; rw [List.set_set], h1, h2, by show (e.set i _).set i none = _; rw [List.set_set]⟩) (by simpa using hn)
theorem iRange2_at {fa fb : EF} {e : Sl} {s : Sto} {i j : Int} (ha : fa e s = .ok (.int i) e s) (hb : fb e s = .ok (.int j) e s) (h1 : -1000000 < i ∧ i < 1000000) (h2 : -1000000 < j ∧ j < 1000000) : iRange2 fa fb e s = .ok (rngD i (j - i).toNat) e s := by
  unfold iRange2
  rw [ha]
  simp only [hb]
  rw [if_pos (by omega)]
section
variable {κ : Type} [DecidableEq κ]
theorem lk_hasK : ∀ (kvs : List (κ × D)) (k : κ), hasK kvs k = (lk kvs k).isSome
  | [], _ => rfl
  | (k', d) :: r, k => by
    unfold hasK lk
    split
    · rfl
    · exact lk_hasK r k
theorem lk_append : ∀ (a b : List (κ × D)) (k : κ), lk (a ++ b) k = (lk a k).or (lk b k)
  | [], b, k => rfl
  | (k', d) :: r, b, k => by
    rw [List.cons_append]
    by_cases h : k' = k
    · rw [lk, if_pos h, lk, if_pos h]; rfl
    · rw [lk, if_neg h, lk, if_neg h]; exact lk_append r b k
theorem lk_map : ∀ (kvs : List (κ × D)) (k k' : κ) (d : D), lk (kvs.map fun kv => if kv.1 = k then (kv.1, d) else kv) k' = if k = k' ∧ (lk kvs k').isSome then some d else lk kvs k'
  | [], _, _, _ => by simp [lk]
  | (a, b) :: r, k, k', d => by
    have ih := lk_map r k k' d
    rw [List.map_cons]
    by_cases h : a = k
    · simp only [h, if_true]
      unfold lk
      by_cases hk : k = k'
      · simp [hk]
      · simp only [hk, if_false, ih, false_and]
    · simp only [h, if_false]
      unfold lk
      by_cases hk : a = k'
      · have : ¬ k = k' := fun z => h (hk.trans z.symm)
        simp [hk, this]
      · simp only [hk, if_false, ih]
theorem lk_pt (kvs : List (κ × D)) (k k' : κ) (d : D) : lk (pt kvs k d) k' = if k = k' then some d else lk kvs k' := by
  unfold pt
  rw [lk_hasK]
  split
  · rename_i h
    rw [lk_map]
    by_cases hk : k = k'
    · subst hk; simp [h]
    · simp [hk]
  · rename_i h
    rw [lk_append]
    by_cases hk : k = k'
    · subst hk
      have : lk kvs k = none := by simpa using h
      simp [this, lk]
    · simp [lk, hk]
theorem pt_len (kvs : List (κ × D)) (k : κ) (d : D) : (pt kvs k d).length ≤ kvs.length + 1 := by
  unfold pt
  split <;> simp
theorem pt_all {P : D → Prop} {kvs : List (κ × D)} (h : ∀ kv ∈ kvs, P kv.2) {k : κ} {d : D} (hd : P d) : ∀ kv ∈ pt kvs k d, P kv.2 := by
  unfold pt
  intro kv hkv
  split at hkv
  · obtain ⟨kv', h1, rfl⟩ := List.mem_map.mp hkv
    split
    · exact hd
    · exact h _ h1
  · rcases List.mem_append.mp hkv with h1 | h1
    · exact h _ h1
    · rw [List.mem_singleton.mp h1]; exact hd
end
theorem ptAll_all {P : D → Prop} : ∀ {r kvs : List (Key × D)}, (∀ kv ∈ kvs, P kv.2) → (∀ kv ∈ r, P kv.2) → ∀ kv ∈ ptAll kvs r, P kv.2
  | [], _, h, _ => h
  | (k, d) :: r, kvs, h, h' => by
    unfold ptAll
    exact ptAll_all (pt_all h (h' (k, d) List.mem_cons_self)) fun kv m => h' kv (List.mem_cons_of_mem _ m)
theorem ptAllT_all {P : D → Prop} : ∀ {r kvs : List (List Key × D)}, (∀ kv ∈ kvs, P kv.2) → (∀ kv ∈ r, P kv.2) → ∀ kv ∈ ptAllT kvs r, P kv.2
  | [], _, h, _ => h
  | (k, d) :: r, kvs, h, h' => by
    unfold ptAllT
    exact ptAllT_all (pt_all h (h' (k, d) List.mem_cons_self)) fun kv m => h' kv (List.mem_cons_of_mem _ m)
theorem ptAllT_len : ∀ {r kvs : List (List Key × D)}, (ptAllT kvs r).length ≤ kvs.length + r.length
  | [], _ => by unfold ptAllT; simp
  | (k, d) :: r, kvs => by
    unfold ptAllT
    have h1 := ptAllT_len (r := r) (kvs := pt kvs k d)
    have h2 := pt_len kvs k d
    rw [List.length_cons]
    omega
theorem ptAll_len : ∀ {r kvs : List (Key × D)}, (ptAll kvs r).length ≤ kvs.length + r.length
  | [], _ => by unfold ptAll; simp
  | (k, d) :: r, kvs => by
    unfold ptAll
    have h1 := ptAll_len (r := r) (kvs := pt kvs k d)
    have h2 := pt_len kvs k d
    rw [List.length_cons]
    omega
theorem pairsK_map {α : Type} (f : α → Key) (g : α → D) (fd : α → D) (hf : ∀ a, toK (fd a) = some (f a)) : ∀ l : List α, pairsK (l.map fun a => .tup [fd a, g a]) = some (l.map fun a => (f a, g a))
  | [] => rfl
  | a :: l => by
    rw [List.map_cons, List.map_cons]
    unfold pairsK pairK
    simp only [hf, pairsK_map f g fd hf l]
theorem pairsT_map {α : Type} (f : α → List Key) (g : α → D) (fd : α → List D) (hf : ∀ a, toKs (fd a) = some (f a)) : ∀ l : List α, pairsT (l.map fun a => .tup [.tup (fd a), g a]) = some (l.map fun a => (f a, g a))
  | [] => rfl
  | a :: l => by
    rw [List.map_cons, List.map_cons]
    unfold pairsT pairT
    simp only [hf, pairsT_map f g fd hf l]
end DL
end
section
set_option Elab.async false
set_option linter.all false
set_option maxRecDepth 100000
set_option maxHeartbeats 4000000
set_option autoImplicit false
/-! DLZ: the law's end: the script, the answer. -/
namespace DL
open PySem PySem.Spec L2
open PyProof.Rows hiding St
def spScr (K : PySem.W.Frag) : Sp := fun vs H Q _ => ∃ (a : Addr) (ns : List Int), vs = [.ref a] ∧ ns.length ≤ 63 ∧ Only H ∧ SqL K H a (ns.map V.int) ∧ ∀ H', Q (.bl true) H'
theorem scr_rep {K : PySem.W.Frag} {H : Hp} {a : Addr} {ns : List Int} (h : SqL K H a (ns.map V.int)) : Rep K (fun b => H b ≠ none) [] H (.ref a) (.scr (ns.map .int)) := by
  refine .scr ?_ (reps_ints ns)
  rcases h with h | h
  · refine .inl ⟨?_, h⟩
    rcases h with h | ⟨o, h⟩
    · show H a ≠ none
      rw [h]; simp
    · show H a ≠ none
      rw [h]; simp
  · exact .inr fun H' => .inr h
theorem scr_ok {P : Program} {w : World} {K : PySem.W.Frag} {mg : Str → Option Value} {base : Heap} {k : Nat} {f : Addr} {fd : FuncData} {ps : List Str} {fn : Fn} (F : FnOk P w K mg base (CX P w) k f fd ps (spD K mg 1 fn))
    (hfn : ∀ ns : List Int, ns.length ≤ 63 → ∃ st, fn [.scr (ns.map .int)] [] = .ok (.val (.bl true)) st) : FnOk P w K mg base (CX P w) k f fd ps (spScr K) := by
  refine F.imp fun vs H Q E h => ?_
  obtain ⟨a, ns, rfl, hl, ho, hs, q⟩ := h
  refine ⟨fun b => H b ≠ none, [], [], [.scr (ns.map .int)], rfl, ⟨rfl, List.nodup_nil, fun _ h => (nomatch h), fun _ h => h, fun i a o h => by simp at h⟩, .cons (scr_rep hs) .nil, ?_⟩
  obtain ⟨st, hf⟩ := hfn ns hl
  rw [hf]
  intro F' ρ' H' v _ _ rv
  have : v = .bl true := by
    have rv' : Rep K F' ρ' H' v (.bl true) := rv
    cases rv'
    rfl
  subst this
  exact q H'
/-- the goal that k_head leaves -/
theorem law_walk {l : PySem.W.OpenLaw} {q : Program} {loose : List Str} {XP : (Str → Option Value) → Heap → Prop} {YP : World → Heap → Prop} {d : DefRec} {K : Params → PySem.W.Frag} {k : Nat} {x : Str} (hr : Room k callerA) (hn : l.most = some 63) (hdf : d.params.defaults = [])
    (hY : ∀ (w : World) (h : Heap), YP w h → (K w.params).In h)
    (F : ∀ (w : World) (mg : Str → Option Value) (fa : Addr) (h : Heap), (K w.params).In h → h.Ns mainGlobals mg → mg d.name = some (.ref fa) →
      ∃ fd : FuncData, (∀ (s : Shared) (u : Value), BindsTo s fd ⟨[u], []⟩ [(x, u)]) ∧ ∀ base : Heap, (K w.params).In base → base.Ns mainGlobals mg → FnOk l.prog w (K w.params) mg base (CX l.prog w) k fa fd [x] (spScr (K w.params))) :
    PySem.W.WalkO q loose XP YP l.row.toRowW d [] (fun f vs => PySem.call f vs) :=
  L2.walk_of (n := 63) (k := k) (x := x) (CX := fun w => CX l.prog w) (sp := fun w => spScr (K w.params)) hn (by decide) hdf hr hY F (fun _ H a ns hl ho hS => ⟨a, ns, rfl, hl, ho, hS, fun _ => rfl⟩) fun _ _ _ _ _ z => by
    obtain ⟨_, _, _, _, _, _, _, _, _, _, _, _, z⟩ := z
    exact z
end DL
end
section
set_option Elab.async false
set_option linter.all false
set_option maxRecDepth 100000
set_option maxHeartbeats 4000000
/-! printed by gen.py: what each def does, and that it does -/
namespace DL
open PySem PySem.Spec L2
open PyProof.Rows hiding St
def topS (i : Nat) : Stmt := PySem.Challenge.pw_guesshush_k06_whole_source_programs.main.body.getD i (.Pass ⟨0, 0, 0, 0⟩)
def tab_SHAPES : List (Str × Option Str) := [("ask", some "r"), ("mix", some "rrr"), ("load", some "rAr"), ("mask", some "rAr"), ("test", some "rAt"), ("put", some "sr"), ("get", some "rs"), ("fence", some ""), ("jump", some "t"), ("end", some ""), ("at", none), ("counts", none), ("do", none), ("if", none), ("in", none), ("loop", none), ("out", none), ("registers", none), ("slots", none)]
/-- of the exceptions that are raised here -/
def exc_GuessError_NotValid : Str → Option (Bool × Bool) := fun k => if k = Str.ofString "NotValid" then some (true, true) else none
structure Txt (K : PySem.W.Frag) (w : World) (mg : Str → Option Value) : Prop where
  n_abs : mg "abs" = none
  n_all : mg "all" = none
  n_bool : mg "bool" = none
  n_dict : mg "dict" = none
  n_int : mg "int" = none
  n_isinstance : mg "isinstance" = none
  n_len : mg "len" = none
  n_list : mg "list" = none
  n_range : mg "range" = none
  n_sorted : mg "sorted" = none
  n_str : mg "str" = none
  n_tuple : mg "tuple" = none
  c_REGISTERS : Cst K mg "REGISTERS" (.int 4)
  c_SLOTS : Cst K mg "SLOTS" (.int 2)
  c_ARRAYS : Cst K mg "ARRAYS" (.int 2)
  c_MOST_ROWS : Cst K mg "MOST_ROWS" (.int 32)
  e_NotValid : ExcOk K mg "NotValid"
  x_GuessError_NotValid : ExcTab K mg "GuessError" "NotValid" exc_GuessError_NotValid
  t_SHAPES : Tab K w mg "SHAPES" tab_SHAPES
  f_Run_left : FldOk K mg "Run" "left"
  f_Run_meaning : FldOk K mg "Run" "meaning"
  f_Run_secrets : FldOk K mg "Run" "secrets"
  f_Run_seen : FldOk K mg "Run" "seen"
  f_Run_state : FldOk K mg "Run" "state"
  k_DO_KINDS : CstT K mg "DO_KINDS" [.str (Str.ofString "ask"), .str (Str.ofString "mix"), .str (Str.ofString "load"), .str (Str.ofString "mask"), .str (Str.ofString "put"), .str (Str.ofString "get"), .str (Str.ofString "fence")]
section
variable {P : Program} {w : World} {K : PySem.W.Frag} {mg : Str → Option Value} {base : Heap}
/-! ### _law_tape -/
abbrev s_law_tape : Stmt := topS 42
theorem sc_law_tape : FnScope ["_law_script", "_law_tape_here", "_law_k", "_law_value", "_law_step"] ["_law_script"] (defScope s_law_tape) := ⟨rfl, rfl, rfl, by decide +kernel, rfl, by decide +kernel, by decide +kernel⟩
noncomputable def b_law_tape_1 : SF :=
  (sIf (eBin (gI fun i j => kLt j i) (eVar 3) (eK (.int 0))) (sSeq (sApp 1 (eBin (gI kMod) (eVar 3) (eK (.int 1000))))
    (sSet 3 (eBin (gI kDiv) (eVar 3) (eK (.int 1000))))) sNop)
noncomputable def b_law_tape_2 : SF :=
  (sSeq (sSet 3 (eBin (gI kMod) (eBin gAdd (eBin gAdd (eBin gMul (eVar 3) (eK (.int 48271))) (eBin gMul (eK (.int 69621)) (eBin gAdd (eVar 2) (eK (.int 1))))) (eBin gMul (eK (.int 7)) (eVar 4))) (eK (.int 2147483647))))
    (sSeq (sSet 3 (eBin (gI kMod) (eBin gMul (eVar 3) (eK (.int 16807))) (eK (.int 2147483647))))
    (sApp 1 (eBin (gI kMod) (eBin (gI kDiv) (eVar 3) (eK (.int 1000))) (eK (.int 1000))))))
noncomputable def b_law_tape_3 : SF :=
  (sSeq (sSet 3 (eUn gAbs (eUn gInt (eBin gIx (eVar 0) (eVar 2)))))
    (sIf (eBin (gI fun i j => kLe j i) (eVar 3) (eBin (gI kPow) (eK (.int 10)) (eK (.int 18)))) (sFor (iRange1 (eK (.int 60))) (bName 4) b_law_tape_1) (sFor (iRange1 (eK (.int 4))) (bName 4) b_law_tape_2)))
noncomputable def g_law_tape : SF :=
  (sSeq (sOwn 1 (eLst aNil))
    (sSeq (sFor (iRange1 (eUn gLen (eVar 0))) (bName 2) b_law_tape_3)
    (sRet (eVar 1))))
noncomputable def fn_law_tape : Fn := fnOf 5 g_law_tape
theorem fk_law_tape {f : Addr} {fd : FuncData} (F : Fun K "_law_tape" "_law_tape" s_law_tape f fd) (T : Txt K w mg)  :
    FnOk P w K mg base (CX P w) 1 f fd ["_law_script"] (spD K mg 1 fn_law_tape) :=
  fn_ok F sc_law_tape (fun c cdv A outer s H E B =>
    have S := sc_law_tape
    have hr : Room 0 _ := B.room
    have hu := hu_of B.room
    have hu1 := hu1_of B.room
    have hv := B.room.units
    (dss_cons (ds_own 1 S.nd (dn_lst da_nil))
      (dss_cons (ds_for (passes_of rfl) rfl (di_range1 (by rfl) T.n_range (de_len (by rfl) T.n_len (de_var 0))) (tg_name 2) (pg_name (i := 2) S.nd rfl (by first | exact Or.inl rfl | exact Or.inr rfl)) (dss_cons (ds_set 3 S.nd (de_abs (by rfl) T.n_abs (de_int1 (by rfl) T.n_int (de_ix hu (de_var 0) (de_var 2)))))
      (dss_one (ds_if (cm_ge (de_var 3) (de_pow de_int de_int)).t (dss_one (ds_for (passes_of rfl) rfl (di_range1 (by rfl) T.n_range de_int) (tg_name 4) (pg_name (i := 4) S.nd rfl (by first | exact Or.inl rfl | exact Or.inr rfl)) (dss_one (ds_if (cm_gt (de_var 3) de_int).t (dss_cons (ds_app 1 (de_mod (de_var 3) de_int) (hx := pe_bm PySem.F.plainAttrs_list PySem.F.slot_list_append PySem.F.type_list_append mt_append (pe_var (i := 1) rfl (by first | exact Or.inl rfl | exact Or.inr (Or.inl rfl))) (pa_cons (de_mod (de_var 3) de_int) pa_nil)))
      (dss_one (ds_set 3 S.nd (de_div (de_var 3) de_int)))) dss_nil)))) (dss_one (ds_for (passes_of rfl) rfl (di_range1 (by rfl) T.n_range de_int) (tg_name 4) (pg_name (i := 4) S.nd rfl (by first | exact Or.inl rfl | exact Or.inr rfl)) (dss_cons (ds_set 3 S.nd (de_mod (de_add (de_add (de_mul (de_var 3) de_int) (de_mul de_int (de_add (de_var 2) de_int))) (de_mul de_int (de_var 4))) de_int))
      (dss_cons (ds_set 3 S.nd (de_mod (de_mul (de_var 3) de_int) de_int))
      (dss_one (ds_app 1 (de_mod (de_div (de_var 3) de_int) de_int) (hx := pe_bm PySem.F.plainAttrs_list PySem.F.slot_list_append PySem.F.type_list_append mt_append (pe_var (i := 1) rfl (by first | exact Or.inl rfl | exact Or.inr (Or.inl rfl))) (pa_cons (de_mod (de_div (de_var 3) de_int) de_int) pa_nil))))))))))))
      (dss_one (ds_ret (de_var 1))))))
theorem ok_law_tape {f : Addr} {fd : FuncData} (F : Fun K "_law_tape" "_law_tape" s_law_tape f fd) (gf : mg "_law_tape" = some (.ref f)) (T : Txt K w mg)  :
    Callee P w K mg base "_law_tape" 1 1 fn_law_tape :=
  ⟨f, fd, ["_law_script"], fk_law_tape F T , gf, F.kp, F.binds (ps := ["_law_script"]) fun _ _ _ _ _ _ us hl => match us, hl with | [_], _ => rfl⟩
/-! ### _law_at -/
abbrev s_law_at : Stmt := topS 43
theorem sc_law_at : FnScope ["_law_tape_here", "_law_k"] ["_law_tape_here", "_law_k"] (defScope s_law_at) := ⟨rfl, rfl, rfl, by decide +kernel, rfl, by decide +kernel, by decide +kernel⟩
noncomputable def g_law_at : SF :=
  (sSeq (sIf (eBin (gI kLt) (eVar 1) (eUn gLen (eVar 0))) (sRet (eBin gIx (eVar 0) (eVar 1))) sNop)
    (sRet (eK (.int 0))))
noncomputable def fn_law_at : Fn := fnOf 2 g_law_at
theorem fk_law_at {f : Addr} {fd : FuncData} (F : Fun K "_law_at" "_law_at" s_law_at f fd) (T : Txt K w mg)  :
    FnOk P w K mg base (CX P w) 1 f fd ["_law_tape_here", "_law_k"] (spD K mg 2 fn_law_at) :=
  fn_ok F sc_law_at (fun c cdv A outer s H E B =>
    have S := sc_law_at
    have hr : Room 0 _ := B.room
    have hu := hu_of B.room
    have hu1 := hu1_of B.room
    have hv := B.room.units
    (dss_cons (ds_if (cm_lt (de_var 1) (de_len (by rfl) T.n_len (de_var 0))).t (dss_one (ds_ret (de_ix hu (de_var 0) (de_var 1)))) dss_nil)
      (dss_one (ds_ret de_int))))
theorem ok_law_at {f : Addr} {fd : FuncData} (F : Fun K "_law_at" "_law_at" s_law_at f fd) (gf : mg "_law_at" = some (.ref f)) (T : Txt K w mg)  :
    Callee P w K mg base "_law_at" 2 1 fn_law_at :=
  ⟨f, fd, ["_law_tape_here", "_law_k"], fk_law_at F T , gf, F.kp, F.binds (ps := ["_law_tape_here", "_law_k"]) fun _ _ _ _ _ _ us hl => match us, hl with | [_, _], _ => rfl⟩
/-! ### _law_do -/
abbrev s_law_do : Stmt := topS 48
theorem sc_law_do : FnScope ["_law_number", "_law_pick", "_law_kind"] ["_law_number", "_law_pick"] (defScope s_law_do) := ⟨rfl, rfl, rfl, by decide +kernel, rfl, by decide +kernel, by decide +kernel⟩
noncomputable def g_law_do : SF :=
  (sSeq (sSet 2 (eBin gIx (eLst (aCons (eK (.str (Str.ofString "ask"))) (aCons (eK (.str (Str.ofString "mix"))) (aCons (eK (.str (Str.ofString "load"))) (aCons (eK (.str (Str.ofString "mask"))) (aCons (eK (.str (Str.ofString "put"))) (aCons (eK (.str (Str.ofString "get"))) (aCons (eK (.str (Str.ofString "fence"))) (aCons (eK (.str (Str.ofString "load"))) aNil))))))))) (eBin (gI kMod) (eVar 0) (eK (.int 8)))))
    (sSeq (sIf (eBin gEq (eVar 2) (eK (.str (Str.ofString "ask")))) (sRet (eTup (aCons (eK (.str (Str.ofString "do"))) (aCons (eTup (aCons (eVar 2) (aCons (eBin (gI kMod) (eVar 1) (eK (.int 4))) aNil))) aNil)))) sNop)
    (sSeq (sIf (eBin gEq (eVar 2) (eK (.str (Str.ofString "mix")))) (sRet (eTup (aCons (eK (.str (Str.ofString "do"))) (aCons (eTup (aCons (eVar 2) (aCons (eBin (gI kMod) (eVar 1) (eK (.int 4))) (aCons (eBin (gI kMod) (eBin (gI kDiv) (eVar 1) (eK (.int 4))) (eK (.int 4))) (aCons (eBin (gI kMod) (eBin (gI kDiv) (eVar 1) (eK (.int 16))) (eK (.int 4))) aNil))))) aNil)))) sNop)
    (sSeq (sIf (eBin (gIn false) (eVar 2) (eTup (aCons (eK (.str (Str.ofString "load"))) (aCons (eK (.str (Str.ofString "mask"))) aNil)))) (sRet (eTup (aCons (eK (.str (Str.ofString "do"))) (aCons (eTup (aCons (eVar 2) (aCons (eBin (gI kMod) (eVar 1) (eK (.int 4))) (aCons (eBin (gI kMod) (eBin (gI kDiv) (eVar 1) (eK (.int 4))) (eK (.int 2))) (aCons (eBin (gI kMod) (eBin (gI kDiv) (eVar 1) (eK (.int 8))) (eK (.int 4))) aNil))))) aNil)))) sNop)
    (sSeq (sIf (eBin gEq (eVar 2) (eK (.str (Str.ofString "put")))) (sRet (eTup (aCons (eK (.str (Str.ofString "do"))) (aCons (eTup (aCons (eVar 2) (aCons (eBin (gI kMod) (eVar 1) (eK (.int 2))) (aCons (eBin (gI kMod) (eBin (gI kDiv) (eVar 1) (eK (.int 2))) (eK (.int 4))) aNil)))) aNil)))) sNop)
    (sSeq (sIf (eBin gEq (eVar 2) (eK (.str (Str.ofString "get")))) (sRet (eTup (aCons (eK (.str (Str.ofString "do"))) (aCons (eTup (aCons (eVar 2) (aCons (eBin (gI kMod) (eVar 1) (eK (.int 4))) (aCons (eBin (gI kMod) (eBin (gI kDiv) (eVar 1) (eK (.int 4))) (eK (.int 2))) aNil)))) aNil)))) sNop)
    (sRet (eTup (aCons (eK (.str (Str.ofString "do"))) (aCons (eTup (aCons (eVar 2) aNil)) aNil))))))))))
noncomputable def fn_law_do : Fn := fnOf 3 g_law_do
theorem fk_law_do {f : Addr} {fd : FuncData} (F : Fun K "_law_do" "_law_do" s_law_do f fd) (T : Txt K w mg)  :
    FnOk P w K mg base (CX P w) 1 f fd ["_law_number", "_law_pick"] (spD K mg 2 fn_law_do) :=
  fn_ok F sc_law_do (fun c cdv A outer s H E B =>
    have S := sc_law_do
    have hr : Room 0 _ := B.room
    have hu := hu_of B.room
    have hu1 := hu1_of B.room
    have hv := B.room.units
    (dss_cons (ds_set 2 S.nd (de_ix hu (de_dn (dn_lst (da_cons de_str (da_cons de_str (da_cons de_str (da_cons de_str (da_cons de_str (da_cons de_str (da_cons de_str (da_cons de_str da_nil)))))))))) (de_mod (de_var 0) de_int)))
      (dss_cons (ds_if (cm_eq hv (de_var 2) de_str).t (dss_one (ds_ret (de_tup (da_cons de_str (da_cons (de_tup (da_cons (de_var 2) (da_cons (de_mod (de_var 1) de_int) da_nil))) da_nil))))) dss_nil)
      (dss_cons (ds_if (cm_eq hv (de_var 2) de_str).t (dss_one (ds_ret (de_tup (da_cons de_str (da_cons (de_tup (da_cons (de_var 2) (da_cons (de_mod (de_var 1) de_int) (da_cons (de_mod (de_div (de_var 1) de_int) de_int) (da_cons (de_mod (de_div (de_var 1) de_int) de_int) da_nil))))) da_nil))))) dss_nil)
      (dss_cons (ds_if (cm_in hu (de_var 2) (de_tup (da_cons de_str (da_cons de_str da_nil)))).t (dss_one (ds_ret (de_tup (da_cons de_str (da_cons (de_tup (da_cons (de_var 2) (da_cons (de_mod (de_var 1) de_int) (da_cons (de_mod (de_div (de_var 1) de_int) de_int) (da_cons (de_mod (de_div (de_var 1) de_int) de_int) da_nil))))) da_nil))))) dss_nil)
      (dss_cons (ds_if (cm_eq hv (de_var 2) de_str).t (dss_one (ds_ret (de_tup (da_cons de_str (da_cons (de_tup (da_cons (de_var 2) (da_cons (de_mod (de_var 1) de_int) (da_cons (de_mod (de_div (de_var 1) de_int) de_int) da_nil)))) da_nil))))) dss_nil)
      (dss_cons (ds_if (cm_eq hv (de_var 2) de_str).t (dss_one (ds_ret (de_tup (da_cons de_str (da_cons (de_tup (da_cons (de_var 2) (da_cons (de_mod (de_var 1) de_int) (da_cons (de_mod (de_div (de_var 1) de_int) de_int) da_nil)))) da_nil))))) dss_nil)
      (dss_one (ds_ret (de_tup (da_cons de_str (da_cons (de_tup (da_cons (de_var 2) da_nil)) da_nil))))))))))))
theorem ok_law_do {f : Addr} {fd : FuncData} (F : Fun K "_law_do" "_law_do" s_law_do f fd) (gf : mg "_law_do" = some (.ref f)) (T : Txt K w mg)  :
    Callee P w K mg base "_law_do" 2 1 fn_law_do :=
  ⟨f, fd, ["_law_number", "_law_pick"], fk_law_do F T , gf, F.kp, F.binds (ps := ["_law_number", "_law_pick"]) fun _ _ _ _ _ _ us hl => match us, hl with | [_, _], _ => rfl⟩
/-! ### _law_tree -/
abbrev s_law_tree : Stmt := topS 49
theorem sc_law_tree : FnScope ["_law_tape_here", "_law_place", "_law_level", "_law_parts", "_law_k", "_law_number", "_law_pick"] ["_law_tape_here", "_law_place", "_law_level"] (defScope s_law_tree) := ⟨rfl, rfl, rfl, by decide +kernel, rfl, by decide +kernel, by decide +kernel⟩
noncomputable def b_law_tree_1 (r_law_tree : Fn) : SF :=
  (sSeq (sSet 5 (eCall 2 fn_law_at (aCons (eVar 0) (aCons (eBin gAdd (eBin gAdd (eVar 1) (eBin gMul (eK (.int 2)) (eVar 4))) (eK (.int 1))) aNil))))
    (sSeq (sSet 6 (eCall 2 fn_law_at (aCons (eVar 0) (aCons (eBin gAdd (eBin gAdd (eVar 1) (eBin gMul (eK (.int 2)) (eVar 4))) (eK (.int 2))) aNil))))
    (sIf (eAnd (eBin (gI kLt) (eVar 2) (eK (.int 2))) (eBin gEq (eBin (gI kMod) (eVar 5) (eK (.int 3))) (eK (.int 0)))) (sApp 3 (eTup (aCons (eK (.str (Str.ofString "if"))) (aCons (eBin (gI kMod) (eVar 6) (eK (.int 4))) (aCons (eBin (gI kMod) (eBin (gI kDiv) (eVar 6) (eK (.int 4))) (eK (.int 2))) (aCons (eCall 3 r_law_tree (aCons (eVar 0) (aCons (eBin gAdd (eBin gAdd (eVar 1) (eK (.int 9))) (eVar 4)) (aCons (eBin gAdd (eVar 2) (eK (.int 1))) aNil)))) (aCons (eCall 3 r_law_tree (aCons (eVar 0) (aCons (eBin gAdd (eBin gAdd (eVar 1) (eK (.int 14))) (eVar 4)) (aCons (eBin gAdd (eVar 2) (eK (.int 1))) aNil)))) aNil))))))) (sIf (eAnd (eBin (gI kLt) (eVar 2) (eK (.int 2))) (eBin gEq (eBin (gI kMod) (eVar 5) (eK (.int 3))) (eK (.int 1)))) (sApp 3 (eTup (aCons (eK (.str (Str.ofString "loop"))) (aCons (eBin (gI kMod) (eVar 6) (eK (.int 4))) (aCons (eBin (gI kMod) (eBin (gI kDiv) (eVar 6) (eK (.int 4))) (eK (.int 2))) (aCons (eCall 3 r_law_tree (aCons (eVar 0) (aCons (eBin gAdd (eBin gAdd (eVar 1) (eK (.int 11))) (eVar 4)) (aCons (eBin gAdd (eVar 2) (eK (.int 1))) aNil)))) aNil)))))) (sApp 3 (eCall 2 fn_law_do (aCons (eBin (gI kDiv) (eVar 5) (eK (.int 3))) (aCons (eVar 6) aNil))))))))
noncomputable def g_law_tree (r_law_tree : Fn) : SF :=
  (sSeq (sOwn 3 (eLst aNil))
    (sSeq (sFor (iRange1 (eBin (gI kMod) (eCall 2 fn_law_at (aCons (eVar 0) (aCons (eVar 1) aNil))) (eBin gIx (eLst (aCons (eK (.int 4)) (aCons (eK (.int 3)) (aCons (eK (.int 2)) aNil)))) (eVar 2)))) (bName 4) (b_law_tree_1 r_law_tree))
    (sRet (eUn gTuple (eVar 3)))))
noncomputable def fnr_law_tree (r_law_tree : Fn) : Fn := fnOf 7 (g_law_tree r_law_tree)
theorem fk_law_tree {f : Addr} {fd : FuncData} (F : Fun K "_law_tree" "_law_tree" s_law_tree f fd) (T : Txt K w mg) {l : Nat} (hl : 1 ≤ l) (C_law_at : Callee P w K mg base "_law_at" 2 1 fn_law_at) (C_law_do : Callee P w K mg base "_law_do" 2 1 fn_law_do) {r_law_tree : Fn} (C_law_tree : Callee P w K mg base "_law_tree" 3 l r_law_tree) :
    FnOk P w K mg base (CX P w) (l + 1) f fd ["_law_tape_here", "_law_place", "_law_level"] (spD K mg 3 (fnr_law_tree r_law_tree)) :=
  fn_ok F sc_law_tree (fun c cdv A outer s H E B =>
    have S := sc_law_tree
    have hr : Room l _ := B.room
    have hu := hu_of B.room
    have hu1 := hu1_of B.room
    have hv := B.room.units
    (dss_cons (ds_own 3 S.nd (dn_lst da_nil))
      (dss_cons (ds_for (passes_of rfl) rfl (di_range1 (by rfl) T.n_range (de_mod (de_call (C_law_at) (hr.mono (by omega)) B.tk (by rfl) (da_cons (de_var 0) (da_cons (de_var 1) da_nil))) (de_ix hu (de_dn (dn_lst (da_cons de_int (da_cons de_int (da_cons de_int da_nil))))) (de_var 2)))) (tg_name 4) (pg_name (i := 4) S.nd rfl (by first | exact Or.inl rfl | exact Or.inr rfl)) (dss_cons (ds_set 5 S.nd (de_call (C_law_at) (hr.mono (by omega)) B.tk (by rfl) (da_cons (de_var 0) (da_cons (de_add (de_add (de_var 1) (de_mul de_int (de_var 4))) de_int) da_nil))))
      (dss_cons (ds_set 6 S.nd (de_call (C_law_at) (hr.mono (by omega)) B.tk (by rfl) (da_cons (de_var 0) (da_cons (de_add (de_add (de_var 1) (de_mul de_int (de_var 4))) de_int) da_nil))))
      (dss_one (ds_if (dw_and (cm_lt (de_var 2) de_int).t (dw_and1 (cm_eq hv (de_mod (de_var 5) de_int) de_int).t)).t (dss_one (ds_app 3 (de_tup (da_cons de_str (da_cons (de_mod (de_var 6) de_int) (da_cons (de_mod (de_div (de_var 6) de_int) de_int) (da_cons (de_call (C_law_tree) (hr.mono (by omega)) B.tk (by rfl) (da_cons (de_var 0) (da_cons (de_add (de_add (de_var 1) de_int) (de_var 4)) (da_cons (de_add (de_var 2) de_int) da_nil)))) (da_cons (de_call (C_law_tree) (hr.mono (by omega)) B.tk (by rfl) (da_cons (de_var 0) (da_cons (de_add (de_add (de_var 1) de_int) (de_var 4)) (da_cons (de_add (de_var 2) de_int) da_nil)))) da_nil)))))) (hx := pe_bm PySem.F.plainAttrs_list PySem.F.slot_list_append PySem.F.type_list_append mt_append (pe_var (i := 3) rfl (by first | exact Or.inl rfl | exact Or.inr (Or.inl rfl))) (pa_cons (de_tup (da_cons de_str (da_cons (de_mod (de_var 6) de_int) (da_cons (de_mod (de_div (de_var 6) de_int) de_int) (da_cons (de_call (C_law_tree) (hr.mono (by omega)) B.tk (by rfl) (da_cons (de_var 0) (da_cons (de_add (de_add (de_var 1) de_int) (de_var 4)) (da_cons (de_add (de_var 2) de_int) da_nil)))) (da_cons (de_call (C_law_tree) (hr.mono (by omega)) B.tk (by rfl) (da_cons (de_var 0) (da_cons (de_add (de_add (de_var 1) de_int) (de_var 4)) (da_cons (de_add (de_var 2) de_int) da_nil)))) da_nil)))))) pa_nil)))) (dss_one (ds_if (dw_and (cm_lt (de_var 2) de_int).t (dw_and1 (cm_eq hv (de_mod (de_var 5) de_int) de_int).t)).t (dss_one (ds_app 3 (de_tup (da_cons de_str (da_cons (de_mod (de_var 6) de_int) (da_cons (de_mod (de_div (de_var 6) de_int) de_int) (da_cons (de_call (C_law_tree) (hr.mono (by omega)) B.tk (by rfl) (da_cons (de_var 0) (da_cons (de_add (de_add (de_var 1) de_int) (de_var 4)) (da_cons (de_add (de_var 2) de_int) da_nil)))) da_nil))))) (hx := pe_bm PySem.F.plainAttrs_list PySem.F.slot_list_append PySem.F.type_list_append mt_append (pe_var (i := 3) rfl (by first | exact Or.inl rfl | exact Or.inr (Or.inl rfl))) (pa_cons (de_tup (da_cons de_str (da_cons (de_mod (de_var 6) de_int) (da_cons (de_mod (de_div (de_var 6) de_int) de_int) (da_cons (de_call (C_law_tree) (hr.mono (by omega)) B.tk (by rfl) (da_cons (de_var 0) (da_cons (de_add (de_add (de_var 1) de_int) (de_var 4)) (da_cons (de_add (de_var 2) de_int) da_nil)))) da_nil))))) pa_nil)))) (dss_one (ds_app 3 (de_call (C_law_do) (hr.mono (by omega)) B.tk (by rfl) (da_cons (de_div (de_var 5) de_int) (da_cons (de_var 6) da_nil))) (hx := pe_bm PySem.F.plainAttrs_list PySem.F.slot_list_append PySem.F.type_list_append mt_append (pe_var (i := 3) rfl (by first | exact Or.inl rfl | exact Or.inr (Or.inl rfl))) (pa_cons (de_call (C_law_do) (hr.mono (by omega)) B.tk (by rfl) (da_cons (de_div (de_var 5) de_int) (da_cons (de_var 6) da_nil))) pa_nil)))))))))))
      (dss_one (ds_ret (de_tuple (by rfl) T.n_tuple (de_var 3)))))))
theorem ok_law_tree {f : Addr} {fd : FuncData} (F : Fun K "_law_tree" "_law_tree" s_law_tree f fd) (gf : mg "_law_tree" = some (.ref f)) (T : Txt K w mg) {l : Nat} (hl : 1 ≤ l) (C_law_at : Callee P w K mg base "_law_at" 2 1 fn_law_at) (C_law_do : Callee P w K mg base "_law_do" 2 1 fn_law_do) {r_law_tree : Fn} (C_law_tree : Callee P w K mg base "_law_tree" 3 l r_law_tree) :
    Callee P w K mg base "_law_tree" 3 (l + 1) (fnr_law_tree r_law_tree) :=
  ⟨f, fd, ["_law_tape_here", "_law_place", "_law_level"], fk_law_tree F T hl C_law_at C_law_do C_law_tree, gf, F.kp, F.binds (ps := ["_law_tape_here", "_law_place", "_law_level"]) fun _ _ _ _ _ _ us hl => match us, hl with | [_, _, _], _ => rfl⟩
noncomputable def rec_law_tree : Nat → Fn
  | 0 => fnStuck
  | n + 1 => (fnr_law_tree (rec_law_tree n))
noncomputable def fn_law_tree : Fn := rec_law_tree 4
theorem okn_law_tree {f_law_tree : Addr} {fd_law_tree : FuncData} (F_law_tree : Fun K "_law_tree" "_law_tree" s_law_tree f_law_tree fd_law_tree) (gf_law_tree : mg "_law_tree" = some (.ref f_law_tree)) (T : Txt K w mg) (C_law_at : Callee P w K mg base "_law_at" 2 1 fn_law_at) (C_law_do : Callee P w K mg base "_law_do" 2 1 fn_law_do) : ∀ n : Nat, Callee P w K mg base "_law_tree" 3 (1 + 1 * n) (rec_law_tree n)
  | 0 => ⟨f_law_tree, fd_law_tree, ["_law_tape_here", "_law_place", "_law_level"], fnok_stuck, gf_law_tree, F_law_tree.kp, F_law_tree.binds (ps := ["_law_tape_here", "_law_place", "_law_level"]) fun _ _ _ _ _ _ us hl => match us, hl with | [_, _, _], _ => rfl⟩
  | n + 1 => by
    have O_law_tree := okn_law_tree F_law_tree gf_law_tree T C_law_at C_law_do n
    have N := ok_law_tree (l := 1 + 1 * n + 0) F_law_tree gf_law_tree T (by omega) C_law_at C_law_do (O_law_tree.mono (by omega))
    exact N.mono (by omega)
theorem ok_g_law_tree {f_law_tree : Addr} {fd_law_tree : FuncData} (F_law_tree : Fun K "_law_tree" "_law_tree" s_law_tree f_law_tree fd_law_tree) (gf_law_tree : mg "_law_tree" = some (.ref f_law_tree)) (T : Txt K w mg) (C_law_at : Callee P w K mg base "_law_at" 2 1 fn_law_at) (C_law_do : Callee P w K mg base "_law_do" 2 1 fn_law_do) : Callee P w K mg base "_law_tree" 3 5 fn_law_tree := okn_law_tree F_law_tree gf_law_tree T C_law_at C_law_do 4
/-! ### _law_meaning -/
abbrev s_law_meaning : Stmt := topS 46
theorem sc_law_meaning : FnScope ["_law_tape_here", "_law_place", "_law_arrays", "_law_n", "_law_asked", "_law_loaded", "_law_mixed", "_law_k", "_law_number", "_law_table", "_law_v", "_law_x"] ["_law_tape_here", "_law_place"] (defScope s_law_meaning) := ⟨rfl, rfl, rfl, by decide +kernel, rfl, by decide +kernel, by decide +kernel⟩
noncomputable def b_law_meaning_1 : SF :=
  (sSeq (sSet 8 (eCall 2 fn_law_at (aCons (eVar 0) (aCons (eBin gAdd (eBin gAdd (eVar 1) (eK (.int 8))) (eVar 7)) aNil))))
    (sSeq (sOwn 9 (eUn gDictT (eComp [11] (iRange1 (eK (.int 9))) (bName 11) eYes (eTup (aCons (eTup (aCons (eVar 11) (aCons (eBin (gI kMod) (eVar 8) (eK (.int 9))) aNil))) (aCons (eBin (gI kMod) (eBin gAdd (eVar 11) (eVar 8)) (eK (.int 9))) aNil))))))
    (sSeq (sPut 9 (eTup (aCons (eBin (gI kMod) (eBin (gI kDiv) (eVar 8) (eK (.int 9))) (eK (.int 9))) (aCons (eBin (gI kMod) (eBin (gI kDiv) (eVar 8) (eK (.int 81))) (eK (.int 9))) aNil))) (eBin (gI kMod) (eVar 8) (eK (.int 7))))
    (sApp 6 (eVar 9)))))
noncomputable def b_law_meaning_2 : SF :=
  (sApp 2 (eUn gDict (eComp [10] (iRange2 (eK (.int 1)) (eK (.int 9))) (bName 10) (eBin gEq (eBin (gI kMod) (eBin (gI kDiv) (eCall 2 fn_law_at (aCons (eVar 0) (aCons (eBin gAdd (eVar 1) (eVar 3)) aNil))) (eVar 10)) (eK (.int 2))) (eK (.int 0))) (eTup (aCons (eVar 10) (aCons (eK (.bl true)) aNil))))))
noncomputable def g_law_meaning : SF :=
  (sSeq (sOwn 2 (eLst aNil))
    (sSeq (sFor (iRange1 (eK (.int 2))) (bName 3) b_law_meaning_2)
    (sSeq (sSet 4 (eComp [7] (iRange1 (eBin (gI kMod) (eCall 2 fn_law_at (aCons (eVar 0) (aCons (eBin gAdd (eVar 1) (eK (.int 2))) aNil))) (eK (.int 6)))) (bName 7) eYes (eBin (gI kMod) (eCall 2 fn_law_at (aCons (eVar 0) (aCons (eBin gAdd (eBin gAdd (eVar 1) (eK (.int 2))) (eVar 7)) aNil))) (eK (.int 9)))))
    (sSeq (sSet 5 (eComp [7] (iRange1 (eBin (gI kMod) (eCall 2 fn_law_at (aCons (eVar 0) (aCons (eBin gAdd (eVar 1) (eK (.int 5))) aNil))) (eK (.int 6)))) (bName 7) eYes (eBin (gI kMod) (eCall 2 fn_law_at (aCons (eVar 0) (aCons (eBin gAdd (eBin gAdd (eVar 1) (eK (.int 5))) (eVar 7)) aNil))) (eK (.int 9)))))
    (sSeq (sOwn 6 (eLst aNil))
    (sSeq (sFor (iRange1 (eBin (gI kMod) (eCall 2 fn_law_at (aCons (eVar 0) (aCons (eBin gAdd (eVar 1) (eK (.int 8))) aNil))) (eK (.int 6)))) (bName 7) b_law_meaning_1)
    (sRetN (eDict [.inr (Str.ofString "arrays"), .inr (Str.ofString "asked"), .inr (Str.ofString "mixed"), .inr (Str.ofString "loaded")] (aCons (eUn gTuple (eVar 2)) (aCons (eVar 4) (aCons (eVar 6) (aCons (eVar 5) aNil))))))))))))
noncomputable def fn_law_meaning : Fn := fnOf 12 g_law_meaning
theorem fk_law_meaning {f : Addr} {fd : FuncData} (F : Fun K "_law_meaning" "_law_meaning" s_law_meaning f fd) (T : Txt K w mg) (C_law_at : Callee P w K mg base "_law_at" 2 1 fn_law_at) :
    FnOk P w K mg base (CX P w) 2 f fd ["_law_tape_here", "_law_place"] (spD K mg 2 fn_law_meaning) :=
  fn_ok F sc_law_meaning (fun c cdv A outer s H E B =>
    have S := sc_law_meaning
    have hr : Room 1 _ := B.room
    have hu := hu_of B.room
    have hu1 := hu1_of B.room
    have hv := B.room.units
    (dss_cons (ds_own 2 S.nd (dn_lst da_nil))
      (dss_cons (ds_for (passes_of rfl) rfl (di_range1 (by rfl) T.n_range de_int) (tg_name 3) (pg_name (i := 3) S.nd rfl (by first | exact Or.inl rfl | exact Or.inr rfl)) (dss_one (ds_app 2 (de_dn (dn_dictOf rfl (by rfl) T.n_dict (de_dn (dn_comp (own := [("_law_v", 10)]) rfl S.nd (di_range2 (by rfl) T.n_range de_int de_int) (blkOk_by (N := ["_law_tape_here", "_law_place", "_law_arrays", "_law_n", "_law_asked", "_law_loaded", "_law_mixed", "_law_k", "_law_number", "_law_table", "_law_v", "_law_x"]) (sc := defScope s_law_meaning) (by decide +kernel)) (tg_name 10) (fun _ _ _ _ _ => (pg_name (i := 10) S.nd rfl (by first | exact Or.inl rfl | exact Or.inr rfl))) (fun _ _ _ _ _ => (dts_one (cm_eq hv (de_mod (de_div (de_call (C_law_at) (hr.mono (by decide)) takes0 (by rfl) (da_cons (de_var 0) (da_cons (de_add (de_var 1) (de_var 3)) da_nil))) (de_var 10)) de_int) de_int).t)) (fun _ _ _ _ _ => (de_tup (da_cons (de_var 10) (da_cons de_bl da_nil)))))))) (hx := pe_bm PySem.F.plainAttrs_list PySem.F.slot_list_append PySem.F.type_list_append mt_append (pe_var (i := 2) rfl (by first | exact Or.inl rfl | exact Or.inr (Or.inl rfl))) (pa_cons (de_dn (dn_dictOf rfl (by rfl) T.n_dict (de_dn (dn_comp (own := [("_law_v", 10)]) rfl S.nd (di_range2 (by rfl) T.n_range de_int de_int) (blkOk_by (N := ["_law_tape_here", "_law_place", "_law_arrays", "_law_n", "_law_asked", "_law_loaded", "_law_mixed", "_law_k", "_law_number", "_law_table", "_law_v", "_law_x"]) (sc := defScope s_law_meaning) (by decide +kernel)) (tg_name 10) (fun _ _ _ _ _ => (pg_name (i := 10) S.nd rfl (by first | exact Or.inl rfl | exact Or.inr rfl))) (fun _ _ _ _ _ => (dts_one (cm_eq hv (de_mod (de_div (de_call (C_law_at) (hr.mono (by decide)) takes0 (by rfl) (da_cons (de_var 0) (da_cons (de_add (de_var 1) (de_var 3)) da_nil))) (de_var 10)) de_int) de_int).t)) (fun _ _ _ _ _ => (de_tup (da_cons (de_var 10) (da_cons de_bl da_nil)))))))) pa_nil)))))
      (dss_cons (ds_setC (i := 4) (own := [("_law_k", 7)]) rfl S.nd (di_range1 (by rfl) T.n_range (de_mod (de_call (C_law_at) (hr.mono (by decide)) B.tk (by rfl) (da_cons (de_var 0) (da_cons (de_add (de_var 1) de_int) da_nil))) de_int)) (blkOk_by (N := ["_law_tape_here", "_law_place", "_law_arrays", "_law_n", "_law_asked", "_law_loaded", "_law_mixed", "_law_k", "_law_number", "_law_table", "_law_v", "_law_x"]) (sc := defScope s_law_meaning) (by decide +kernel)) (tg_name 7) (fun _ _ _ _ _ => (pg_name (i := 7) S.nd rfl (by first | exact Or.inl rfl | exact Or.inr rfl))) (fun _ _ _ _ _ => dts_nil) (fun _ _ _ _ _ => (de_mod (de_call (C_law_at) (hr.mono (by decide)) takes0 (by rfl) (da_cons (de_var 0) (da_cons (de_add (de_add (de_var 1) de_int) (de_var 7)) da_nil))) de_int)))
      (dss_cons (ds_setC (i := 5) (own := [("_law_k", 7)]) rfl S.nd (di_range1 (by rfl) T.n_range (de_mod (de_call (C_law_at) (hr.mono (by decide)) B.tk (by rfl) (da_cons (de_var 0) (da_cons (de_add (de_var 1) de_int) da_nil))) de_int)) (blkOk_by (N := ["_law_tape_here", "_law_place", "_law_arrays", "_law_n", "_law_asked", "_law_loaded", "_law_mixed", "_law_k", "_law_number", "_law_table", "_law_v", "_law_x"]) (sc := defScope s_law_meaning) (by decide +kernel)) (tg_name 7) (fun _ _ _ _ _ => (pg_name (i := 7) S.nd rfl (by first | exact Or.inl rfl | exact Or.inr rfl))) (fun _ _ _ _ _ => dts_nil) (fun _ _ _ _ _ => (de_mod (de_call (C_law_at) (hr.mono (by decide)) takes0 (by rfl) (da_cons (de_var 0) (da_cons (de_add (de_add (de_var 1) de_int) (de_var 7)) da_nil))) de_int)))
      (dss_cons (ds_own 6 S.nd (dn_lst da_nil))
      (dss_cons (ds_for (passes_of rfl) rfl (di_range1 (by rfl) T.n_range (de_mod (de_call (C_law_at) (hr.mono (by decide)) B.tk (by rfl) (da_cons (de_var 0) (da_cons (de_add (de_var 1) de_int) da_nil))) de_int)) (tg_name 7) (pg_name (i := 7) S.nd rfl (by first | exact Or.inl rfl | exact Or.inr rfl)) (dss_cons (ds_set 8 S.nd (de_call (C_law_at) (hr.mono (by decide)) B.tk (by rfl) (da_cons (de_var 0) (da_cons (de_add (de_add (de_var 1) de_int) (de_var 7)) da_nil))))
      (dss_cons (ds_own 9 S.nd (dn_dictT rfl hu1 (by rfl) T.n_dict (de_dn (dn_comp (own := [("_law_x", 11)]) rfl S.nd (di_range1 (by rfl) T.n_range de_int) (blkOk_by (N := ["_law_tape_here", "_law_place", "_law_arrays", "_law_n", "_law_asked", "_law_loaded", "_law_mixed", "_law_k", "_law_number", "_law_table", "_law_v", "_law_x"]) (sc := defScope s_law_meaning) (by decide +kernel)) (tg_name 11) (fun _ _ _ _ _ => (pg_name (i := 11) S.nd rfl (by first | exact Or.inl rfl | exact Or.inr rfl))) (fun _ _ _ _ _ => dts_nil) (fun _ _ _ _ _ => (de_tup (da_cons (de_tup (da_cons (de_var 11) (da_cons (de_mod (de_var 8) de_int) da_nil))) (da_cons (de_mod (de_add (de_var 11) (de_var 8)) de_int) da_nil))))))))
      (dss_cons (ds_put 9 hu (de_mod (de_var 8) de_int) (de_tup (da_cons (de_mod (de_div (de_var 8) de_int) de_int) (da_cons (de_mod (de_div (de_var 8) de_int) de_int) da_nil))))
      (dss_one (ds_app 6 (de_var 9) (hx := pe_bm PySem.F.plainAttrs_list PySem.F.slot_list_append PySem.F.type_list_append mt_append (pe_var (i := 6) rfl (by first | exact Or.inl rfl | exact Or.inr (Or.inl rfl))) (pa_cons (de_var 9) pa_nil))))))))
      (dss_one (ds_retN (dn_dict (dp_cons kex_str (de_tuple (by rfl) T.n_tuple (de_var 2)) (dp_cons kex_str (de_var 4) (dp_cons kex_str (de_var 6) (dp_cons kex_str (de_var 5) dp_nil))))))))))))))
theorem ok_law_meaning {f : Addr} {fd : FuncData} (F : Fun K "_law_meaning" "_law_meaning" s_law_meaning f fd) (gf : mg "_law_meaning" = some (.ref f)) (T : Txt K w mg) (C_law_at : Callee P w K mg base "_law_at" 2 1 fn_law_at) :
    Callee P w K mg base "_law_meaning" 2 2 fn_law_meaning :=
  ⟨f, fd, ["_law_tape_here", "_law_place"], fk_law_meaning F T C_law_at, gf, F.kp, F.binds (ps := ["_law_tape_here", "_law_place"]) fun _ _ _ _ _ _ us hl => match us, hl with | [_, _], _ => rfl⟩
/-! ### _law_secrets -/
abbrev s_law_secrets : Stmt := topS 47
theorem sc_law_secrets : FnScope ["_law_tape_here", "_law_place", "_law_registers", "_law_k"] ["_law_tape_here", "_law_place"] (defScope s_law_secrets) := ⟨rfl, rfl, rfl, by decide +kernel, rfl, by decide +kernel, by decide +kernel⟩
noncomputable def g_law_secrets : SF :=
  (sSeq (sSet 2 (eComp [3] (iRange1 (eBin (gI kMod) (eCall 2 fn_law_at (aCons (eVar 0) (aCons (eVar 1) aNil))) (eK (.int 5)))) (bName 3) eYes (eBin (gI kMod) (eCall 2 fn_law_at (aCons (eVar 0) (aCons (eBin gAdd (eVar 1) (eVar 3)) aNil))) (eK (.int 9)))))
    (sRetN (eDict [.inr (Str.ofString "registers"), .inr (Str.ofString "loaded")] (aCons (eVar 2) (aCons (eComp [3] (iRange1 (eBin (gI kMod) (eCall 2 fn_law_at (aCons (eVar 0) (aCons (eBin gAdd (eVar 1) (eK (.int 3))) aNil))) (eK (.int 6)))) (bName 3) eYes (eBin (gI kMod) (eCall 2 fn_law_at (aCons (eVar 0) (aCons (eBin gAdd (eBin gAdd (eVar 1) (eK (.int 3))) (eVar 3)) aNil))) (eK (.int 9)))) aNil)))))
noncomputable def fn_law_secrets : Fn := fnOf 4 g_law_secrets
theorem fk_law_secrets {f : Addr} {fd : FuncData} (F : Fun K "_law_secrets" "_law_secrets" s_law_secrets f fd) (T : Txt K w mg) (C_law_at : Callee P w K mg base "_law_at" 2 1 fn_law_at) :
    FnOk P w K mg base (CX P w) 2 f fd ["_law_tape_here", "_law_place"] (spD K mg 2 fn_law_secrets) :=
  fn_ok F sc_law_secrets (fun c cdv A outer s H E B =>
    have S := sc_law_secrets
    have hr : Room 1 _ := B.room
    have hu := hu_of B.room
    have hu1 := hu1_of B.room
    have hv := B.room.units
    (dss_cons (ds_setC (i := 2) (own := [("_law_k", 3)]) rfl S.nd (di_range1 (by rfl) T.n_range (de_mod (de_call (C_law_at) (hr.mono (by decide)) B.tk (by rfl) (da_cons (de_var 0) (da_cons (de_var 1) da_nil))) de_int)) (blkOk_by (N := ["_law_tape_here", "_law_place", "_law_registers", "_law_k"]) (sc := defScope s_law_secrets) (by decide +kernel)) (tg_name 3) (fun _ _ _ _ _ => (pg_name (i := 3) S.nd rfl (by first | exact Or.inl rfl | exact Or.inr rfl))) (fun _ _ _ _ _ => dts_nil) (fun _ _ _ _ _ => (de_mod (de_call (C_law_at) (hr.mono (by decide)) takes0 (by rfl) (da_cons (de_var 0) (da_cons (de_add (de_var 1) (de_var 3)) da_nil))) de_int)))
      (dss_one (ds_retN (dn_dict (dp_cons kex_str (de_var 2) (dp_cons kex_str (de_dn (dn_comp (own := [("_law_k", 3)]) rfl S.nd (di_range1 (by rfl) T.n_range (de_mod (de_call (C_law_at) (hr.mono (by decide)) B.tk (by rfl) (da_cons (de_var 0) (da_cons (de_add (de_var 1) de_int) da_nil))) de_int)) (blkOk_by (N := ["_law_tape_here", "_law_place", "_law_registers", "_law_k"]) (sc := defScope s_law_secrets) (by decide +kernel)) (tg_name 3) (fun _ _ _ _ _ => (pg_name (i := 3) S.nd rfl (by first | exact Or.inl rfl | exact Or.inr rfl))) (fun _ _ _ _ _ => dts_nil) (fun _ _ _ _ _ => (de_mod (de_call (C_law_at) (hr.mono (by decide)) takes0 (by rfl) (da_cons (de_var 0) (da_cons (de_add (de_add (de_var 1) de_int) (de_var 3)) da_nil))) de_int)))) dp_nil)))))))
theorem ok_law_secrets {f : Addr} {fd : FuncData} (F : Fun K "_law_secrets" "_law_secrets" s_law_secrets f fd) (gf : mg "_law_secrets" = some (.ref f)) (T : Txt K w mg) (C_law_at : Callee P w K mg base "_law_at" 2 1 fn_law_at) :
    Callee P w K mg base "_law_secrets" 2 2 fn_law_secrets :=
  ⟨f, fd, ["_law_tape_here", "_law_place"], fk_law_secrets F T C_law_at, gf, F.kp, F.binds (ps := ["_law_tape_here", "_law_place"]) fun _ _ _ _ _ _ us hl => match us, hl with | [_, _], _ => rfl⟩
/-! ### is_number -/
abbrev s_is_number : Stmt := topS 9
theorem sc_is_number : FnScope ["value", "many"] ["value", "many"] (defScope s_is_number) := ⟨rfl, rfl, rfl, by decide +kernel, rfl, by decide +kernel, by decide +kernel⟩
noncomputable def g_is_number : SF :=
  (sRet (eAnd (eUn (gIsi "int") (eVar 0)) (eAnd (eUn gNot (eUn (gIsi "bool") (eVar 0))) (eChain bLe bLt (eK (.int 0)) (eVar 0) (eVar 1)))))
noncomputable def fn_is_number : Fn := fnOf 2 g_is_number
theorem fk_is_number {f : Addr} {fd : FuncData} (F : Fun K "is_number" "is_number" s_is_number f fd) (T : Txt K w mg)  :
    FnOk P w K mg base (CX P w) 1 f fd ["value", "many"] (spD K mg 2 fn_is_number) :=
  fn_ok F sc_is_number (fun c cdv A outer s H E B =>
    have S := sc_is_number
    have hr : Room 0 _ := B.room
    have hu := hu_of B.room
    have hu1 := hu1_of B.room
    have hv := B.room.units
    (dss_one (ds_ret (de_and (de_isi kit_int (by rfl) T.n_isinstance (by rfl) T.n_int (by decide +kernel) (de_var 0)) (de_and (de_not (de_isi kit_bool (by rfl) T.n_isinstance (by rfl) T.n_bool (by decide +kernel) (de_var 0))) (de_one (ch_leLt de_int (de_var 0) (de_var 1)).e))))))
theorem ok_is_number {f : Addr} {fd : FuncData} (F : Fun K "is_number" "is_number" s_is_number f fd) (gf : mg "is_number" = some (.ref f)) (T : Txt K w mg)  :
    Callee P w K mg base "is_number" 2 1 fn_is_number :=
  ⟨f, fd, ["value", "many"], fk_is_number F T , gf, F.kp, F.binds (ps := ["value", "many"]) fun _ _ _ _ _ _ us hl => match us, hl with | [_, _], _ => rfl⟩
/-! ### is_secret -/
abbrev s_is_secret : Stmt := topS 12
theorem sc_is_secret : FnScope ["value", "one"] ["value"] (defScope s_is_secret) := ⟨rfl, rfl, rfl, by decide +kernel, rfl, by decide +kernel, by decide +kernel⟩
noncomputable def g_is_secret : SF :=
  (sSeq (sIf (eOr (eUn gNot (eUn (gIsi "tuple") (eVar 0))) (eUn gNot (eUn gAll (eComp [1] (iSeq (eVar 0)) (bName 1) eYes (eCall 2 fn_is_number (aCons (eVar 1) (aCons (eK (.int 4)) aNil))))))) (sRet (eK (.bl false))) sNop)
    (sRet (eBin gEq (eUn gList (eVar 0)) (eUn gSorted (eUn gDict (eComp [1] (iSeq (eVar 0)) (bName 1) eYes (eTup (aCons (eVar 1) (aCons (eK (.bl true)) aNil)))))))))
noncomputable def fn_is_secret : Fn := fnOf 2 g_is_secret
theorem fk_is_secret {f : Addr} {fd : FuncData} (F : Fun K "is_secret" "is_secret" s_is_secret f fd) (T : Txt K w mg) (C_is_number : Callee P w K mg base "is_number" 2 1 fn_is_number) :
    FnOk P w K mg base (CX P w) 2 f fd ["value"] (spD K mg 1 fn_is_secret) :=
  fn_ok F sc_is_secret (fun c cdv A outer s H E B =>
    have S := sc_is_secret
    have hr : Room 1 _ := B.room
    have hu := hu_of B.room
    have hu1 := hu1_of B.room
    have hv := B.room.units
    (dss_cons (ds_if (dw_or (dt_not (dt_val (de_isi kit_tuple (by rfl) T.n_isinstance (by rfl) T.n_tuple (by decide +kernel) (de_var 0)))) (dw_or1 (dt_not (dt_val (de_all rfl (by rfl) T.n_all (de_dn (dn_comp (own := [("one", 1)]) rfl S.nd (di_seq (de_var 0)) (blkOk_by (N := ["value", "one"]) (sc := defScope s_is_secret) (by decide +kernel)) (tg_name 1) (fun _ _ _ _ _ => (pg_name (i := 1) S.nd rfl (by first | exact Or.inl rfl | exact Or.inr rfl))) (fun _ _ _ _ _ => dts_nil) (fun _ _ _ _ _ => (de_call (C_is_number) (hr.mono (by decide)) takes0 (by rfl) (da_cons (de_var 1) (da_cons (de_glob T.c_REGISTERS (by rfl)) da_nil))))))))))).t (dss_one (ds_ret de_bl)) dss_nil)
      (dss_one (ds_ret (cm_eq hv (de_dn (dn_list (by rfl) T.n_list (de_var 0))) (de_dn (dn_sorted rfl (by rfl) T.n_sorted (de_dn (dn_dictOf rfl (by rfl) T.n_dict (de_dn (dn_comp (own := [("one", 1)]) rfl S.nd (di_seq (de_var 0)) (blkOk_by (N := ["value", "one"]) (sc := defScope s_is_secret) (by decide +kernel)) (tg_name 1) (fun _ _ _ _ _ => (pg_name (i := 1) S.nd rfl (by first | exact Or.inl rfl | exact Or.inr rfl))) (fun _ _ _ _ _ => dts_nil) (fun _ _ _ _ _ => (de_tup (da_cons (de_var 1) (da_cons de_bl da_nil))))))))))).e))))
theorem ok_is_secret {f : Addr} {fd : FuncData} (F : Fun K "is_secret" "is_secret" s_is_secret f fd) (gf : mg "is_secret" = some (.ref f)) (T : Txt K w mg) (C_is_number : Callee P w K mg base "is_number" 2 1 fn_is_number) :
    Callee P w K mg base "is_secret" 1 2 fn_is_secret :=
  ⟨f, fd, ["value"], fk_is_secret F T C_is_number, gf, F.kp, F.binds (ps := ["value"]) fun _ _ _ _ _ _ us hl => match us, hl with | [_], _ => rfl⟩
/-! ### most_of -/
abbrev s_most_of : Stmt := topS 10
theorem sc_most_of : FnScope ["letter", "rows"] ["letter", "rows"] (defScope s_most_of) := ⟨rfl, rfl, rfl, by decide +kernel, rfl, by decide +kernel, by decide +kernel⟩
noncomputable def g_most_of : SF :=
  (sSeq (sIf (eBin gEq (eVar 0) (eK (.str (Str.ofString "r")))) (sRet (eK (.int 4))) sNop)
    (sSeq (sIf (eBin gEq (eVar 0) (eK (.str (Str.ofString "s")))) (sRet (eK (.int 2))) sNop)
    (sSeq (sIf (eBin gEq (eVar 0) (eK (.str (Str.ofString "A")))) (sRet (eK (.int 2))) sNop)
    (sRet (eVar 1)))))
noncomputable def fn_most_of : Fn := fnOf 2 g_most_of
theorem fk_most_of {f : Addr} {fd : FuncData} (F : Fun K "most_of" "most_of" s_most_of f fd) (T : Txt K w mg)  :
    FnOk P w K mg base (CX P w) 1 f fd ["letter", "rows"] (spD K mg 2 fn_most_of) :=
  fn_ok F sc_most_of (fun c cdv A outer s H E B =>
    have S := sc_most_of
    have hr : Room 0 _ := B.room
    have hu := hu_of B.room
    have hu1 := hu1_of B.room
    have hv := B.room.units
    (dss_cons (ds_if (cm_eq hv (de_var 0) de_str).t (dss_one (ds_ret (de_glob T.c_REGISTERS (by rfl)))) dss_nil)
      (dss_cons (ds_if (cm_eq hv (de_var 0) de_str).t (dss_one (ds_ret (de_glob T.c_SLOTS (by rfl)))) dss_nil)
      (dss_cons (ds_if (cm_eq hv (de_var 0) de_str).t (dss_one (ds_ret (de_glob T.c_ARRAYS (by rfl)))) dss_nil)
      (dss_one (ds_ret (de_var 1)))))))
theorem ok_most_of {f : Addr} {fd : FuncData} (F : Fun K "most_of" "most_of" s_most_of f fd) (gf : mg "most_of" = some (.ref f)) (T : Txt K w mg)  :
    Callee P w K mg base "most_of" 2 1 fn_most_of :=
  ⟨f, fd, ["letter", "rows"], fk_most_of F T , gf, F.kp, F.binds (ps := ["letter", "rows"]) fun _ _ _ _ _ _ us hl => match us, hl with | [_, _], _ => rfl⟩
/-! ### is_row -/
abbrev s_is_row : Stmt := topS 11
theorem sc_is_row : FnScope ["value", "rows", "shape", "index"] ["value", "rows"] (defScope s_is_row) := ⟨rfl, rfl, rfl, by decide +kernel, rfl, by decide +kernel, by decide +kernel⟩
noncomputable def g_is_row : SF :=
  (sSeq (sIf (eOr (eUn gNot (eUn (gIsi "tuple") (eVar 0))) (eOr (eBin gEq (eUn gLen (eVar 0)) (eK (.int 0))) (eOr (eUn gNot (eUn (gIsi "str") (eBin gIx (eVar 0) (eK (.int 0))))) (eUn (gInTab true tab_SHAPES) (eBin gIx (eVar 0) (eK (.int 0))))))) (sRet (eK (.bl false))) sNop)
    (sSeq (sSet 2 (eUn (gTab tab_SHAPES) (eBin gIx (eVar 0) (eK (.int 0)))))
    (sSeq (sIf (eBin gNeD (eUn gLen (eVar 0)) (eBin gAdd (eK (.int 1)) (eUn gLen (eVar 2)))) (sRet (eK (.bl false))) sNop)
    (sRet (eUn gAll (eComp [3] (iRange1 (eUn gLen (eVar 2))) (bName 3) eYes (eCall 2 fn_is_number (aCons (eBin gIx (eVar 0) (eBin gAdd (eVar 3) (eK (.int 1)))) (aCons (eCall 2 fn_most_of (aCons (eBin gIx (eVar 2) (eVar 3)) (aCons (eVar 1) aNil))) aNil)))))))))
noncomputable def fn_is_row : Fn := fnOf 4 g_is_row
theorem fk_is_row {f : Addr} {fd : FuncData} (F : Fun K "is_row" "is_row" s_is_row f fd) (T : Txt K w mg) (C_is_number : Callee P w K mg base "is_number" 2 1 fn_is_number) (C_most_of : Callee P w K mg base "most_of" 2 1 fn_most_of) :
    FnOk P w K mg base (CX P w) 2 f fd ["value", "rows"] (spD K mg 2 fn_is_row) :=
  fn_ok F sc_is_row (fun c cdv A outer s H E B =>
    have S := sc_is_row
    have hr : Room 1 _ := B.room
    have hu := hu_of B.room
    have hu1 := hu1_of B.room
    have hv := B.room.units
    (dss_cons (ds_if (dw_or (dt_not (dt_val (de_isi kit_tuple (by rfl) T.n_isinstance (by rfl) T.n_tuple (by decide +kernel) (de_var 0)))) (dw_or (cm_eq hv (de_len (by rfl) T.n_len (de_var 0)) de_int).t (dw_or (dt_not (dt_val (de_isi kit_str (by rfl) T.n_isinstance (by rfl) T.n_str (by decide +kernel) (de_ix hu (de_var 0) de_int)))) (dw_or1 (cm_notInTab T.t_SHAPES (by rfl) (de_ix hu (de_var 0) de_int)).t)))).t (dss_one (ds_ret de_bl)) dss_nil)
      (dss_cons (ds_set 2 S.nd (de_tab T.t_SHAPES (by rfl) (de_ix hu (de_var 0) de_int)))
      (dss_cons (ds_if (cm_neD hv (de_len (by rfl) T.n_len (de_var 0)) (de_add de_int (de_len (by rfl) T.n_len (de_var 2)))).t (dss_one (ds_ret de_bl)) dss_nil)
      (dss_one (ds_ret (de_all rfl (by rfl) T.n_all (de_dn (dn_comp (own := [("index", 3)]) rfl S.nd (di_range1 (by rfl) T.n_range (de_len (by rfl) T.n_len (de_var 2))) (blkOk_by (N := ["value", "rows", "shape", "index"]) (sc := defScope s_is_row) (by decide +kernel)) (tg_name 3) (fun _ _ _ _ _ => (pg_name (i := 3) S.nd rfl (by first | exact Or.inl rfl | exact Or.inr rfl))) (fun _ _ _ _ _ => dts_nil) (fun _ _ _ _ _ => (de_call (C_is_number) (hr.mono (by decide)) takes0 (by rfl) (da_cons (de_ix hu (de_var 0) (de_add (de_var 3) de_int)) (da_cons (de_call (C_most_of) (hr.mono (by decide)) takes0 (by rfl) (da_cons (de_ix hu (de_var 2) (de_var 3)) (da_cons (de_var 1) da_nil))) da_nil)))))))))))))
theorem ok_is_row {f : Addr} {fd : FuncData} (F : Fun K "is_row" "is_row" s_is_row f fd) (gf : mg "is_row" = some (.ref f)) (T : Txt K w mg) (C_is_number : Callee P w K mg base "is_number" 2 1 fn_is_number) (C_most_of : Callee P w K mg base "most_of" 2 1 fn_most_of) :
    Callee P w K mg base "is_row" 2 2 fn_is_row :=
  ⟨f, fd, ["value", "rows"], fk_is_row F T C_is_number C_most_of, gf, F.kp, F.binds (ps := ["value", "rows"]) fun _ _ _ _ _ _ us hl => match us, hl with | [_, _], _ => rfl⟩
/-! ### is_program -/
abbrev s_is_program : Stmt := topS 13
theorem sc_is_program : FnScope ["value", "rows", "row"] ["value"] (defScope s_is_program) := ⟨rfl, rfl, rfl, by decide +kernel, rfl, by decide +kernel, by decide +kernel⟩
noncomputable def g_is_program : SF :=
  (sSeq (sIf (eOr (eUn gNot (eUn (gIsi "dict") (eVar 0))) (eOr (eBin gNeD (eUn gLen (eVar 0)) (eK (.int 2))) (eOr (eBin (gIn true) (eK (.str (Str.ofString "secret"))) (eVar 0)) (eBin (gIn true) (eK (.str (Str.ofString "rows"))) (eVar 0))))) (sRet (eK (.bl false))) sNop)
    (sSeq (sSet 1 (eBin gIx (eVar 0) (eK (.str (Str.ofString "rows")))))
    (sSeq (sIf (eOr (eUn gNot (eCall 1 fn_is_secret (aCons (eBin gIx (eVar 0) (eK (.str (Str.ofString "secret")))) aNil))) (eOr (eUn gNot (eUn (gIsi "tuple") (eVar 1))) (eUn gNot (eChain bLe bLe (eK (.int 1)) (eUn gLen (eVar 1)) (eK (.int 32)))))) (sRet (eK (.bl false))) sNop)
    (sRet (eAnd (eUn gAll (eComp [2] (iSeq (eVar 1)) (bName 2) eYes (eCall 2 fn_is_row (aCons (eVar 2) (aCons (eUn gLen (eVar 1)) aNil))))) (eBin (gIn false) (eBin gIx (eBin gIx (eVar 1) (eUn gNeg (eK (.int 1)))) (eK (.int 0))) (eTup (aCons (eK (.str (Str.ofString "jump"))) (aCons (eK (.str (Str.ofString "end"))) aNil)))))))))
noncomputable def fn_is_program : Fn := fnOf 3 g_is_program
theorem fk_is_program {f : Addr} {fd : FuncData} (F : Fun K "is_program" "is_program" s_is_program f fd) (T : Txt K w mg) (C_is_row : Callee P w K mg base "is_row" 2 2 fn_is_row) (C_is_secret : Callee P w K mg base "is_secret" 1 2 fn_is_secret) :
    FnOk P w K mg base (CX P w) 3 f fd ["value"] (spD K mg 1 fn_is_program) :=
  fn_ok F sc_is_program (fun c cdv A outer s H E B =>
    have S := sc_is_program
    have hr : Room 2 _ := B.room
    have hu := hu_of B.room
    have hu1 := hu1_of B.room
    have hv := B.room.units
    (dss_cons (ds_if (dw_or (dt_not (dt_val (de_isi kit_dict (by rfl) T.n_isinstance (by rfl) T.n_dict (by decide +kernel) (de_var 0)))) (dw_or (cm_neD hv (de_len (by rfl) T.n_len (de_var 0)) de_int).t (dw_or (cm_notIn hu de_str (de_var 0)).t (dw_or1 (cm_notIn hu de_str (de_var 0)).t)))).t (dss_one (ds_ret de_bl)) dss_nil)
      (dss_cons (ds_set 1 S.nd (de_ix hu (de_var 0) de_str))
      (dss_cons (ds_if (dw_or (dt_not (dt_val (de_call (C_is_secret) (hr.mono (by decide)) B.tk (by rfl) (da_cons (de_ix hu (de_var 0) de_str) da_nil)))) (dw_or (dt_not (dt_val (de_isi kit_tuple (by rfl) T.n_isinstance (by rfl) T.n_tuple (by decide +kernel) (de_var 1)))) (dw_or1 (dt_not (ch_leLe de_int (de_len (by rfl) T.n_len (de_var 1)) (de_glob T.c_MOST_ROWS (by rfl))).t)))).t (dss_one (ds_ret de_bl)) dss_nil)
      (dss_one (ds_ret (de_and (de_all rfl (by rfl) T.n_all (de_dn (dn_comp (own := [("row", 2)]) rfl S.nd (di_seq (de_var 1)) (blkOk_by (N := ["value", "rows", "row"]) (sc := defScope s_is_program) (by decide +kernel)) (tg_name 2) (fun _ _ _ _ _ => (pg_name (i := 2) S.nd rfl (by first | exact Or.inl rfl | exact Or.inr rfl))) (fun _ _ _ _ _ => dts_nil) (fun _ _ _ _ _ => (de_call (C_is_row) (hr.mono (by decide)) takes0 (by rfl) (da_cons (de_var 2) (da_cons (de_len (by rfl) T.n_len (de_var 1)) da_nil))))))) (de_one (cm_in hu (de_ix hu (de_ix hu (de_var 1) (de_neg de_int)) de_int) (de_tup (da_cons de_str (da_cons de_str da_nil)))).e))))))))
theorem ok_is_program {f : Addr} {fd : FuncData} (F : Fun K "is_program" "is_program" s_is_program f fd) (gf : mg "is_program" = some (.ref f)) (T : Txt K w mg) (C_is_row : Callee P w K mg base "is_row" 2 2 fn_is_row) (C_is_secret : Callee P w K mg base "is_secret" 1 2 fn_is_secret) :
    Callee P w K mg base "is_program" 1 3 fn_is_program :=
  ⟨f, fd, ["value"], fk_is_program F T C_is_row C_is_secret, gf, F.kp, F.binds (ps := ["value"]) fun _ _ _ _ _ _ us hl => match us, hl with | [_], _ => rfl⟩
/-! ### if_rows -/
abbrev s_if_rows : Stmt := topS 37
theorem sc_if_rows : FnScope ["part", "place", "then", "start", "other"] ["part", "place"] (defScope s_if_rows) := ⟨rfl, rfl, rfl, by decide +kernel, rfl, by decide +kernel, by decide +kernel⟩
noncomputable def g_if_rows (r_rows_of : Fn) : SF :=
  (sSeq (sSet 2 (eCall 2 r_rows_of (aCons (eBin gIx (eVar 0) (eK (.int 3))) (aCons (eBin gAdd (eVar 1) (eK (.int 1))) aNil))))
    (sSeq (sSet 3 (eBin gAdd (eBin gAdd (eVar 1) (eUn gLen (eVar 2))) (eK (.int 2))))
    (sSeq (sSet 4 (eCall 2 r_rows_of (aCons (eBin gIx (eVar 0) (eK (.int 4))) (aCons (eVar 3) aNil))))
    (sRet (eBin gAdd (eBin gAdd (eBin gAdd (eLst (aCons (eTup (aCons (eK (.str (Str.ofString "test"))) (aCons (eBin gIx (eVar 0) (eK (.int 1))) (aCons (eBin gIx (eVar 0) (eK (.int 2))) (aCons (eVar 3) aNil))))) aNil)) (eVar 2)) (eLst (aCons (eTup (aCons (eK (.str (Str.ofString "jump"))) (aCons (eBin gAdd (eVar 3) (eUn gLen (eVar 4))) aNil))) aNil))) (eVar 4))))))
noncomputable def fnr_if_rows (r_rows_of : Fn) : Fn := fnOf 5 (g_if_rows r_rows_of)
theorem fk_if_rows {f : Addr} {fd : FuncData} (F : Fun K "if_rows" "if_rows" s_if_rows f fd) (T : Txt K w mg) {l : Nat} (hl : 0 ≤ l) {r_rows_of : Fn} (C_rows_of : Callee P w K mg base "rows_of" 2 l r_rows_of) :
    FnOk P w K mg base (CX P w) (l + 1) f fd ["part", "place"] (spD K mg 2 (fnr_if_rows r_rows_of)) :=
  fn_ok F sc_if_rows (fun c cdv A outer s H E B =>
    have S := sc_if_rows
    have hr : Room l _ := B.room
    have hu := hu_of B.room
    have hu1 := hu1_of B.room
    have hv := B.room.units
    (dss_cons (ds_set 2 S.nd (de_call (C_rows_of) (hr.mono (by omega)) B.tk (by rfl) (da_cons (de_ix hu (de_var 0) de_int) (da_cons (de_add (de_var 1) de_int) da_nil))))
      (dss_cons (ds_set 3 S.nd (de_add (de_add (de_var 1) (de_len (by rfl) T.n_len (de_var 2))) de_int))
      (dss_cons (ds_set 4 S.nd (de_call (C_rows_of) (hr.mono (by omega)) B.tk (by rfl) (da_cons (de_ix hu (de_var 0) de_int) (da_cons (de_var 3) da_nil))))
      (dss_one (ds_ret (de_add (de_add (de_add (de_dn (dn_lst (da_cons (de_tup (da_cons de_str (da_cons (de_ix hu (de_var 0) de_int) (da_cons (de_ix hu (de_var 0) de_int) (da_cons (de_var 3) da_nil))))) da_nil))) (de_var 2)) (de_dn (dn_lst (da_cons (de_tup (da_cons de_str (da_cons (de_add (de_var 3) (de_len (by rfl) T.n_len (de_var 4))) da_nil))) da_nil)))) (de_var 4))))))))
theorem ok_if_rows {f : Addr} {fd : FuncData} (F : Fun K "if_rows" "if_rows" s_if_rows f fd) (gf : mg "if_rows" = some (.ref f)) (T : Txt K w mg) {l : Nat} (hl : 0 ≤ l) {r_rows_of : Fn} (C_rows_of : Callee P w K mg base "rows_of" 2 l r_rows_of) :
    Callee P w K mg base "if_rows" 2 (l + 1) (fnr_if_rows r_rows_of) :=
  ⟨f, fd, ["part", "place"], fk_if_rows F T hl C_rows_of, gf, F.kp, F.binds (ps := ["part", "place"]) fun _ _ _ _ _ _ us hl => match us, hl with | [_, _], _ => rfl⟩
/-! ### rows_of -/
abbrev s_rows_of : Stmt := topS 36
theorem sc_rows_of : FnScope ["tree", "first", "rows", "part", "place", "body", "test"] ["tree", "first"] (defScope s_rows_of) := ⟨rfl, rfl, rfl, by decide +kernel, rfl, by decide +kernel, by decide +kernel⟩
noncomputable def b_rows_of_1 (r_if_rows : Fn) (r_rows_of : Fn) : SF :=
  (sSeq (sSet 4 (eBin gAdd (eVar 1) (eUn gLen (eVar 2))))
    (sIf (eBin gEq (eBin gIx (eVar 3) (eK (.int 0))) (eK (.str (Str.ofString "do")))) (sApp 2 (eBin gIx (eVar 3) (eK (.int 1)))) (sIf (eBin gEq (eBin gIx (eVar 3) (eK (.int 0))) (eK (.str (Str.ofString "if")))) (sOwn 2 (eBin gAddN (eVar 2) (eCall 2 r_if_rows (aCons (eVar 3) (aCons (eVar 4) aNil))))) (sSeq (sSet 5 (eCall 2 r_rows_of (aCons (eBin gIx (eVar 3) (eK (.int 3))) (aCons (eBin gAdd (eVar 4) (eK (.int 1))) aNil))))
    (sSeq (sSet 6 (eTup (aCons (eK (.str (Str.ofString "test"))) (aCons (eBin gIx (eVar 3) (eK (.int 1))) (aCons (eBin gIx (eVar 3) (eK (.int 2))) (aCons (eBin gAdd (eBin gAdd (eVar 4) (eUn gLen (eVar 5))) (eK (.int 2))) aNil))))))
    (sOwn 2 (eBin gAddN (eBin gAdd (eBin gAdd (eVar 2) (eLst (aCons (eVar 6) aNil))) (eVar 5)) (eLst (aCons (eTup (aCons (eK (.str (Str.ofString "jump"))) (aCons (eVar 4) aNil))) aNil)))))))))
noncomputable def g_rows_of (r_if_rows : Fn) (r_rows_of : Fn) : SF :=
  (sSeq (sOwn 2 (eLst aNil))
    (sSeq (sFor (iSeq (eVar 0)) (bName 3) (b_rows_of_1 r_if_rows r_rows_of))
    (sRet (eVar 2))))
noncomputable def fnr_rows_of (r_if_rows : Fn) (r_rows_of : Fn) : Fn := fnOf 7 (g_rows_of r_if_rows r_rows_of)
theorem fk_rows_of {f : Addr} {fd : FuncData} (F : Fun K "rows_of" "rows_of" s_rows_of f fd) (T : Txt K w mg) {l : Nat} (hl : 0 ≤ l) {r_rows_of : Fn} (C_rows_of : Callee P w K mg base "rows_of" 2 l r_rows_of) {r_if_rows : Fn} (C_if_rows : Callee P w K mg base "if_rows" 2 l r_if_rows) :
    FnOk P w K mg base (CX P w) (l + 1) f fd ["tree", "first"] (spD K mg 2 (fnr_rows_of r_if_rows r_rows_of)) :=
  fn_ok F sc_rows_of (fun c cdv A outer s H E B =>
    have S := sc_rows_of
    have hr : Room l _ := B.room
    have hu := hu_of B.room
    have hu1 := hu1_of B.room
    have hv := B.room.units
    (dss_cons (ds_own 2 S.nd (dn_lst da_nil))
      (dss_cons (ds_for (passes_of rfl) rfl (di_seq (de_var 0)) (tg_name 3) (pg_name (i := 3) S.nd rfl (by first | exact Or.inl rfl | exact Or.inr rfl)) (dss_cons (ds_set 4 S.nd (de_add (de_var 1) (de_len (by rfl) T.n_len (de_var 2))))
      (dss_one (ds_if (cm_eq hv (de_ix hu (de_var 3) de_int) de_str).t (dss_one (ds_app 2 (de_ix hu (de_var 3) de_int) (hx := pe_bm PySem.F.plainAttrs_list PySem.F.slot_list_append PySem.F.type_list_append mt_append (pe_var (i := 2) rfl (by first | exact Or.inl rfl | exact Or.inr (Or.inl rfl))) (pa_cons (de_ix hu (de_var 3) de_int) pa_nil)))) (dss_one (ds_if (cm_eq hv (de_ix hu (de_var 3) de_int) de_str).t (dss_one (ds_own 2 S.nd (dn_add (de_var 2) (de_call (C_if_rows) (hr.mono (by omega)) B.tk (by rfl) (da_cons (de_var 3) (da_cons (de_var 4) da_nil)))))) (dss_cons (ds_set 5 S.nd (de_call (C_rows_of) (hr.mono (by omega)) B.tk (by rfl) (da_cons (de_ix hu (de_var 3) de_int) (da_cons (de_add (de_var 4) de_int) da_nil))))
      (dss_cons (ds_set 6 S.nd (de_tup (da_cons de_str (da_cons (de_ix hu (de_var 3) de_int) (da_cons (de_ix hu (de_var 3) de_int) (da_cons (de_add (de_add (de_var 4) (de_len (by rfl) T.n_len (de_var 5))) de_int) da_nil))))))
      (dss_one (ds_own 2 S.nd (dn_add (de_add (de_add (de_var 2) (de_dn (dn_lst (da_cons (de_var 6) da_nil)))) (de_var 5)) (de_dn (dn_lst (da_cons (de_tup (da_cons de_str (da_cons (de_var 4) da_nil))) da_nil))))))))))))))
      (dss_one (ds_ret (de_var 2))))))
theorem ok_rows_of {f : Addr} {fd : FuncData} (F : Fun K "rows_of" "rows_of" s_rows_of f fd) (gf : mg "rows_of" = some (.ref f)) (T : Txt K w mg) {l : Nat} (hl : 0 ≤ l) {r_rows_of : Fn} (C_rows_of : Callee P w K mg base "rows_of" 2 l r_rows_of) {r_if_rows : Fn} (C_if_rows : Callee P w K mg base "if_rows" 2 l r_if_rows) :
    Callee P w K mg base "rows_of" 2 (l + 1) (fnr_rows_of r_if_rows r_rows_of) :=
  ⟨f, fd, ["tree", "first"], fk_rows_of F T hl C_rows_of C_if_rows, gf, F.kp, F.binds (ps := ["tree", "first"]) fun _ _ _ _ _ _ us hl => match us, hl with | [_, _], _ => rfl⟩
noncomputable def rec_rows_of : Nat → Fn
  | 0 => fnStuck
  | n + 1 => (fnr_rows_of (fnr_if_rows (rec_rows_of n)) (rec_rows_of n))
noncomputable def fn_rows_of : Fn := rec_rows_of 4
theorem okn_rows_of {f_if_rows : Addr} {fd_if_rows : FuncData} (F_if_rows : Fun K "if_rows" "if_rows" s_if_rows f_if_rows fd_if_rows) (gf_if_rows : mg "if_rows" = some (.ref f_if_rows)) {f_rows_of : Addr} {fd_rows_of : FuncData} (F_rows_of : Fun K "rows_of" "rows_of" s_rows_of f_rows_of fd_rows_of) (gf_rows_of : mg "rows_of" = some (.ref f_rows_of)) (T : Txt K w mg)  : ∀ n : Nat, Callee P w K mg base "rows_of" 2 (0 + 2 * n) (rec_rows_of n)
  | 0 => ⟨f_rows_of, fd_rows_of, ["tree", "first"], fnok_stuck, gf_rows_of, F_rows_of.kp, F_rows_of.binds (ps := ["tree", "first"]) fun _ _ _ _ _ _ us hl => match us, hl with | [_, _], _ => rfl⟩
  | n + 1 => by
    have O_rows_of := okn_rows_of F_if_rows gf_if_rows F_rows_of gf_rows_of T  n
    have O_if_rows := ok_if_rows (l := 0 + 2 * n + 0) F_if_rows gf_if_rows T (by omega) (O_rows_of.mono (by omega))
    have N := ok_rows_of (l := 0 + 2 * n + 1) F_rows_of gf_rows_of T (by omega) (O_rows_of.mono (by omega)) (O_if_rows.mono (by omega))
    exact N.mono (by omega)
theorem ok_g_rows_of {f_if_rows : Addr} {fd_if_rows : FuncData} (F_if_rows : Fun K "if_rows" "if_rows" s_if_rows f_if_rows fd_if_rows) (gf_if_rows : mg "if_rows" = some (.ref f_if_rows)) {f_rows_of : Addr} {fd_rows_of : FuncData} (F_rows_of : Fun K "rows_of" "rows_of" s_rows_of f_rows_of fd_rows_of) (gf_rows_of : mg "rows_of" = some (.ref f_rows_of)) (T : Txt K w mg)  : Callee P w K mg base "rows_of" 2 8 fn_rows_of := okn_rows_of F_if_rows gf_if_rows F_rows_of gf_rows_of T  4
/-! ### lower -/
abbrev s_lower : Stmt := topS 38
theorem sc_lower : FnScope ["tree", "secret", "program"] ["tree", "secret"] (defScope s_lower) := ⟨rfl, rfl, rfl, by decide +kernel, rfl, by decide +kernel, by decide +kernel⟩
noncomputable def g_lower : SF :=
  (sSeq (sSet 2 (eDict [.inr (Str.ofString "secret"), .inr (Str.ofString "rows")] (aCons (eUn gTuple (eVar 1)) (aCons (eUn gTuple (eBin gAdd (eCall 2 fn_rows_of (aCons (eVar 0) (aCons (eK (.int 0)) aNil))) (eLst (aCons (eTup (aCons (eK (.str (Str.ofString "end"))) aNil)) aNil)))) aNil))))
    (sSeq (sIf (eUn gNot (eCall 1 fn_is_program (aCons (eVar 2) aNil))) (sRaise (Str.ofString "NotValid")) sNop)
    (sRet (eVar 2))))
noncomputable def fn_lower : Fn := fnOf 3 g_lower
theorem fk_lower {f : Addr} {fd : FuncData} (F : Fun K "lower" "lower" s_lower f fd) (T : Txt K w mg) (C_is_program : Callee P w K mg base "is_program" 1 3 fn_is_program) (C_rows_of : Callee P w K mg base "rows_of" 2 8 fn_rows_of) :
    FnOk P w K mg base (CX P w) 9 f fd ["tree", "secret"] (spD K mg 2 fn_lower) :=
  fn_ok F sc_lower (fun c cdv A outer s H E B =>
    have S := sc_lower
    have hr : Room 8 _ := B.room
    have hu := hu_of B.room
    have hu1 := hu1_of B.room
    have hv := B.room.units
    (dss_cons (ds_set 2 S.nd (de_dn (dn_dict (dp_cons kex_str (de_tuple (by rfl) T.n_tuple (de_var 1)) (dp_cons kex_str (de_tuple (by rfl) T.n_tuple (de_add (de_call (C_rows_of) (hr.mono (by decide)) B.tk (by rfl) (da_cons (de_var 0) (da_cons de_int da_nil))) (de_dn (dn_lst (da_cons (de_tup (da_cons de_str da_nil)) da_nil))))) dp_nil)))))
      (dss_cons (ds_if (dt_not (dt_val (de_call (C_is_program) (hr.mono (by decide)) B.tk (by rfl) (da_cons (de_var 2) da_nil)))) (dss_one (ds_raise rfl B.tk T.e_NotValid (by rfl))) dss_nil)
      (dss_one (ds_ret (de_var 2))))))
theorem ok_lower {f : Addr} {fd : FuncData} (F : Fun K "lower" "lower" s_lower f fd) (gf : mg "lower" = some (.ref f)) (T : Txt K w mg) (C_is_program : Callee P w K mg base "is_program" 1 3 fn_is_program) (C_rows_of : Callee P w K mg base "rows_of" 2 8 fn_rows_of) :
    Callee P w K mg base "lower" 2 9 fn_lower :=
  ⟨f, fd, ["tree", "secret"], fk_lower F T C_is_program C_rows_of, gf, F.kp, F.binds (ps := ["tree", "secret"]) fun _ _ _ _ _ _ us hl => match us, hl with | [_, _], _ => rfl⟩
/-! ### _law_told -/
abbrev s_law_told : Stmt := topS 51
theorem sc_law_told : FnScope ["_law_tree_here", "_law_secret", "e"] ["_law_tree_here", "_law_secret"] (defScope s_law_told) := ⟨rfl, rfl, rfl, by decide +kernel, rfl, by decide +kernel, by decide +kernel⟩
noncomputable def g_law_told : SF :=
  (sTryIsL (Str.ofString "refused") 2 exc_GuessError_NotValid (sRet (eCall 2 fn_lower (aCons (eVar 0) (aCons (eVar 1) aNil)))))
noncomputable def fn_law_told : Fn := fnOf 3 g_law_told
theorem fk_law_told {f : Addr} {fd : FuncData} (F : Fun K "_law_told" "_law_told" s_law_told f fd) (T : Txt K w mg) (C_lower : Callee P w K mg base "lower" 2 9 fn_lower) :
    FnOk P w K mg base (CX P w) 10 f fd ["_law_tree_here", "_law_secret"] (spD K mg 2 fn_law_told) :=
  fn_ok F sc_law_told (fun c cdv A outer s H E B =>
    have S := sc_law_told
    have hr : Room 9 _ := B.room
    have hu := hu_of B.room
    have hu1 := hu1_of B.room
    have hv := B.room.units
    (dss_one (ds_tryIsL (i := 2) T.x_GuessError_NotValid B.tk T.n_isinstance (by rfl) (by rfl) (by rfl) (fun W pn xe tk => (dss_one (ds_ret (de_call (C_lower) (hr.mono (by decide)) tk (by rfl) (da_cons (de_var 0) (da_cons (de_var 1) da_nil)))))) (hN := S.nd))))
theorem ok_law_told {f : Addr} {fd : FuncData} (F : Fun K "_law_told" "_law_told" s_law_told f fd) (gf : mg "_law_told" = some (.ref f)) (T : Txt K w mg) (C_lower : Callee P w K mg base "lower" 2 9 fn_lower) :
    Callee P w K mg base "_law_told" 2 10 fn_law_told :=
  ⟨f, fd, ["_law_tree_here", "_law_secret"], fk_law_told F T C_lower, gf, F.kp, F.binds (ps := ["_law_tree_here", "_law_secret"]) fun _ _ _ _ _ _ us hl => match us, hl with | [_, _], _ => rfl⟩
/-! ### at_place -/
abbrev s_at_place : Stmt := topS 15
theorem sc_at_place : FnScope ["values", "k"] ["values", "k"] (defScope s_at_place) := ⟨rfl, rfl, rfl, by decide +kernel, rfl, by decide +kernel, by decide +kernel⟩
noncomputable def g_at_place : SF :=
  (sSeq (sIf (eBin (gI kLt) (eVar 1) (eUn gLen (eVar 0))) (sRet (eBin gIx (eVar 0) (eVar 1))) sNop)
    (sRet (eK (.int 0))))
noncomputable def fn_at_place : Fn := fnOf 2 g_at_place
theorem fk_at_place {f : Addr} {fd : FuncData} (F : Fun K "at_place" "at_place" s_at_place f fd) (T : Txt K w mg)  :
    FnOk P w K mg base (CX P w) 1 f fd ["values", "k"] (spD K mg 2 fn_at_place) :=
  fn_ok F sc_at_place (fun c cdv A outer s H E B =>
    have S := sc_at_place
    have hr : Room 0 _ := B.room
    have hu := hu_of B.room
    have hu1 := hu1_of B.room
    have hv := B.room.units
    (dss_cons (ds_if (cm_lt (de_var 1) (de_len (by rfl) T.n_len (de_var 0))).t (dss_one (ds_ret (de_ix hu (de_var 0) (de_var 1)))) dss_nil)
      (dss_one (ds_ret de_int))))
theorem ok_at_place {f : Addr} {fd : FuncData} (F : Fun K "at_place" "at_place" s_at_place f fd) (gf : mg "at_place" = some (.ref f)) (T : Txt K w mg)  :
    Callee P w K mg base "at_place" 2 1 fn_at_place :=
  ⟨f, fd, ["values", "k"], fk_at_place F T , gf, F.kp, F.binds (ps := ["values", "k"]) fun _ _ _ _ _ _ us hl => match us, hl with | [_, _], _ => rfl⟩
/-! ### first_registers -/
abbrev s_first_registers : Stmt := topS 20
theorem sc_first_registers : FnScope ["program", "secrets", "values", "index"] ["program", "secrets"] (defScope s_first_registers) := ⟨rfl, rfl, rfl, by decide +kernel, rfl, by decide +kernel, by decide +kernel⟩
noncomputable def b_first_registers_1 : SF :=
  (sPut 2 (eBin gIx (eBin gIx (eVar 0) (eK (.str (Str.ofString "secret")))) (eVar 3)) (eCall 2 fn_at_place (aCons (eBin gIx (eVar 1) (eK (.str (Str.ofString "registers")))) (aCons (eVar 3) aNil))))
noncomputable def g_first_registers : SF :=
  (sSeq (sOwn 2 (eBin gMulN (eLst (aCons (eK (.int 0)) aNil)) (eK (.int 4))))
    (sSeq (sFor (iRange1 (eUn gLen (eBin gIx (eVar 0) (eK (.str (Str.ofString "secret")))))) (bName 3) b_first_registers_1)
    (sRet (eVar 2))))
noncomputable def fn_first_registers : Fn := fnOf 4 g_first_registers
theorem fk_first_registers {f : Addr} {fd : FuncData} (F : Fun K "first_registers" "first_registers" s_first_registers f fd) (T : Txt K w mg) (C_at_place : Callee P w K mg base "at_place" 2 1 fn_at_place) :
    FnOk P w K mg base (CX P w) 2 f fd ["program", "secrets"] (spD K mg 2 fn_first_registers) :=
  fn_ok F sc_first_registers (fun c cdv A outer s H E B =>
    have S := sc_first_registers
    have hr : Room 1 _ := B.room
    have hu := hu_of B.room
    have hu1 := hu1_of B.room
    have hv := B.room.units
    (dss_cons (ds_own 2 S.nd (dn_mul (de_dn (dn_lst (da_cons de_int da_nil))) (de_glob T.c_REGISTERS (by rfl))))
      (dss_cons (ds_for (passes_of rfl) rfl (di_range1 (by rfl) T.n_range (de_len (by rfl) T.n_len (de_ix hu (de_var 0) de_str))) (tg_name 3) (pg_name (i := 3) S.nd rfl (by first | exact Or.inl rfl | exact Or.inr rfl)) (dss_one (ds_put 2 hu (de_call (C_at_place) (hr.mono (by decide)) B.tk (by rfl) (da_cons (de_ix hu (de_var 1) de_str) (da_cons (de_var 3) da_nil))) (de_ix hu (de_ix hu (de_var 0) de_str) (de_var 3)))))
      (dss_one (ds_ret (de_var 2))))))
theorem ok_first_registers {f : Addr} {fd : FuncData} (F : Fun K "first_registers" "first_registers" s_first_registers f fd) (gf : mg "first_registers" = some (.ref f)) (T : Txt K w mg) (C_at_place : Callee P w K mg base "at_place" 2 1 fn_at_place) :
    Callee P w K mg base "first_registers" 2 2 fn_first_registers :=
  ⟨f, fd, ["program", "secrets"], fk_first_registers F T C_at_place, gf, F.kp, F.binds (ps := ["program", "secrets"]) fun _ _ _ _ _ _ us hl => match us, hl with | [_, _], _ => rfl⟩
/-! ### first_state -/
abbrev s_first_state : Stmt := topS 22
theorem sc_first_state : FnScope ["program", "secrets", "registers"] ["program", "secrets"] (defScope s_first_state) := ⟨rfl, rfl, rfl, by decide +kernel, rfl, by decide +kernel, by decide +kernel⟩
noncomputable def g_first_state : SF :=
  (sSeq (sSet 2 (eUn gTuple (eCall 2 fn_first_registers (aCons (eVar 0) (aCons (eVar 1) aNil)))))
    (sRetN (eDict [.inr (Str.ofString "place"), .inr (Str.ofString "registers"), .inr (Str.ofString "slots"), .inr (Str.ofString "counts")] (aCons (eK (.int 0)) (aCons (eVar 2) (aCons (eBin gMul (eTup (aCons (eK (.int 0)) aNil)) (eK (.int 2))) (aCons (eTup (aCons (eK (.int 0)) (aCons (eK (.int 0)) (aCons (eK (.int 0)) aNil)))) aNil)))))))
noncomputable def fn_first_state : Fn := fnOf 3 g_first_state
theorem fk_first_state {f : Addr} {fd : FuncData} (F : Fun K "first_state" "first_state" s_first_state f fd) (T : Txt K w mg) (C_first_registers : Callee P w K mg base "first_registers" 2 2 fn_first_registers) :
    FnOk P w K mg base (CX P w) 3 f fd ["program", "secrets"] (spD K mg 2 fn_first_state) :=
  fn_ok F sc_first_state (fun c cdv A outer s H E B =>
    have S := sc_first_state
    have hr : Room 2 _ := B.room
    have hu := hu_of B.room
    have hu1 := hu1_of B.room
    have hv := B.room.units
    (dss_cons (ds_set 2 S.nd (de_tuple (by rfl) T.n_tuple (de_call (C_first_registers) (hr.mono (by decide)) B.tk (by rfl) (da_cons (de_var 0) (da_cons (de_var 1) da_nil)))))
      (dss_one (ds_retN (dn_dict (dp_cons kex_str de_int (dp_cons kex_str (de_var 2) (dp_cons kex_str (de_mul (de_tup (da_cons de_int da_nil)) (de_glob T.c_SLOTS (by rfl))) (dp_cons kex_str (de_tup (da_cons de_int (da_cons de_int (da_cons de_int da_nil)))) dp_nil)))))))))
theorem ok_first_state {f : Addr} {fd : FuncData} (F : Fun K "first_state" "first_state" s_first_state f fd) (gf : mg "first_state" = some (.ref f)) (T : Txt K w mg) (C_first_registers : Callee P w K mg base "first_registers" 2 2 fn_first_registers) :
    Callee P w K mg base "first_state" 2 3 fn_first_state :=
  ⟨f, fd, ["program", "secrets"], fk_first_state F T C_first_registers, gf, F.kp, F.binds (ps := ["program", "secrets"]) fun _ _ _ _ _ _ us hl => match us, hl with | [_, _], _ => rfl⟩
/-! ### is_in -/
abbrev s_is_in : Stmt := topS 14
theorem sc_is_in : FnScope ["meaning", "array", "value"] ["meaning", "array", "value"] (defScope s_is_in) := ⟨rfl, rfl, rfl, by decide +kernel, rfl, by decide +kernel, by decide +kernel⟩
noncomputable def g_is_in : SF :=
  (sRet (eOr (eBin gEq (eVar 2) (eK (.int 0))) (eBin (gIn false) (eVar 2) (eBin gIx (eBin gIx (eVar 0) (eK (.str (Str.ofString "arrays")))) (eVar 1)))))
noncomputable def fn_is_in : Fn := fnOf 3 g_is_in
theorem fk_is_in {f : Addr} {fd : FuncData} (F : Fun K "is_in" "is_in" s_is_in f fd) (T : Txt K w mg)  :
    FnOk P w K mg base (CX P w) 1 f fd ["meaning", "array", "value"] (spD K mg 3 fn_is_in) :=
  fn_ok F sc_is_in (fun c cdv A outer s H E B =>
    have S := sc_is_in
    have hr : Room 0 _ := B.room
    have hu := hu_of B.room
    have hu1 := hu1_of B.room
    have hv := B.room.units
    (dss_one (ds_ret (de_or (cm_eq hv (de_var 2) de_int).e (de_one (cm_in hu (de_var 2) (de_ix hu (de_ix hu (de_var 0) de_str) (de_var 1))).e)))))
theorem ok_is_in {f : Addr} {fd : FuncData} (F : Fun K "is_in" "is_in" s_is_in f fd) (gf : mg "is_in" = some (.ref f)) (T : Txt K w mg)  :
    Callee P w K mg base "is_in" 3 1 fn_is_in :=
  ⟨f, fd, ["meaning", "array", "value"], fk_is_in F T , gf, F.kp, F.binds (ps := ["meaning", "array", "value"]) fun _ _ _ _ _ _ us hl => match us, hl with | [_, _, _], _ => rfl⟩
/-! ### loaded_secret -/
abbrev s_loaded_secret : Stmt := topS 19
theorem sc_loaded_secret : FnScope ["secrets", "k"] ["secrets", "k"] (defScope s_loaded_secret) := ⟨rfl, rfl, rfl, by decide +kernel, rfl, by decide +kernel, by decide +kernel⟩
noncomputable def g_loaded_secret : SF :=
  (sRet (eCall 2 fn_at_place (aCons (eBin gIx (eVar 0) (eK (.str (Str.ofString "loaded")))) (aCons (eVar 1) aNil))))
noncomputable def fn_loaded_secret : Fn := fnOf 2 g_loaded_secret
theorem fk_loaded_secret {f : Addr} {fd : FuncData} (F : Fun K "loaded_secret" "loaded_secret" s_loaded_secret f fd) (T : Txt K w mg) (C_at_place : Callee P w K mg base "at_place" 2 1 fn_at_place) :
    FnOk P w K mg base (CX P w) 2 f fd ["secrets", "k"] (spD K mg 2 fn_loaded_secret) :=
  fn_ok F sc_loaded_secret (fun c cdv A outer s H E B =>
    have S := sc_loaded_secret
    have hr : Room 1 _ := B.room
    have hu := hu_of B.room
    have hu1 := hu1_of B.room
    have hv := B.room.units
    (dss_one (ds_ret (de_call (C_at_place) (hr.mono (by decide)) B.tk (by rfl) (da_cons (de_ix hu (de_var 0) de_str) (da_cons (de_var 1) da_nil))))))
theorem ok_loaded_secret {f : Addr} {fd : FuncData} (F : Fun K "loaded_secret" "loaded_secret" s_loaded_secret f fd) (gf : mg "loaded_secret" = some (.ref f)) (T : Txt K w mg) (C_at_place : Callee P w K mg base "at_place" 2 1 fn_at_place) :
    Callee P w K mg base "loaded_secret" 2 2 fn_loaded_secret :=
  ⟨f, fd, ["secrets", "k"], fk_loaded_secret F T C_at_place, gf, F.kp, F.binds (ps := ["secrets", "k"]) fun _ _ _ _ _ _ us hl => match us, hl with | [_, _], _ => rfl⟩
/-! ### asked -/
abbrev s_asked : Stmt := topS 16
theorem sc_asked : FnScope ["meaning", "k"] ["meaning", "k"] (defScope s_asked) := ⟨rfl, rfl, rfl, by decide +kernel, rfl, by decide +kernel, by decide +kernel⟩
noncomputable def g_asked : SF :=
  (sRet (eCall 2 fn_at_place (aCons (eBin gIx (eVar 0) (eK (.str (Str.ofString "asked")))) (aCons (eVar 1) aNil))))
noncomputable def fn_asked : Fn := fnOf 2 g_asked
theorem fk_asked {f : Addr} {fd : FuncData} (F : Fun K "asked" "asked" s_asked f fd) (T : Txt K w mg) (C_at_place : Callee P w K mg base "at_place" 2 1 fn_at_place) :
    FnOk P w K mg base (CX P w) 2 f fd ["meaning", "k"] (spD K mg 2 fn_asked) :=
  fn_ok F sc_asked (fun c cdv A outer s H E B =>
    have S := sc_asked
    have hr : Room 1 _ := B.room
    have hu := hu_of B.room
    have hu1 := hu1_of B.room
    have hv := B.room.units
    (dss_one (ds_ret (de_call (C_at_place) (hr.mono (by decide)) B.tk (by rfl) (da_cons (de_ix hu (de_var 0) de_str) (da_cons (de_var 1) da_nil))))))
theorem ok_asked {f : Addr} {fd : FuncData} (F : Fun K "asked" "asked" s_asked f fd) (gf : mg "asked" = some (.ref f)) (T : Txt K w mg) (C_at_place : Callee P w K mg base "at_place" 2 1 fn_at_place) :
    Callee P w K mg base "asked" 2 2 fn_asked :=
  ⟨f, fd, ["meaning", "k"], fk_asked F T C_at_place, gf, F.kp, F.binds (ps := ["meaning", "k"]) fun _ _ _ _ _ _ us hl => match us, hl with | [_, _], _ => rfl⟩
/-! ### mixed -/
abbrev s_mixed : Stmt := topS 17
theorem sc_mixed : FnScope ["meaning", "k", "x", "y"] ["meaning", "k", "x", "y"] (defScope s_mixed) := ⟨rfl, rfl, rfl, by decide +kernel, rfl, by decide +kernel, by decide +kernel⟩
noncomputable def g_mixed : SF :=
  (sSeq (sIf (eBin (gI kLt) (eVar 1) (eUn gLen (eBin gIx (eVar 0) (eK (.str (Str.ofString "mixed")))))) (sRet (eGet (eBin gIx (eBin gIx (eVar 0) (eK (.str (Str.ofString "mixed")))) (eVar 1)) (eTup (aCons (eVar 2) (aCons (eVar 3) aNil))) (eK (.int 0)))) sNop)
    (sRet (eK (.int 0))))
noncomputable def fn_mixed : Fn := fnOf 4 g_mixed
theorem fk_mixed {f : Addr} {fd : FuncData} (F : Fun K "mixed" "mixed" s_mixed f fd) (T : Txt K w mg)  :
    FnOk P w K mg base (CX P w) 1 f fd ["meaning", "k", "x", "y"] (spD K mg 4 fn_mixed) :=
  fn_ok F sc_mixed (fun c cdv A outer s H E B =>
    have S := sc_mixed
    have hr : Room 0 _ := B.room
    have hu := hu_of B.room
    have hu1 := hu1_of B.room
    have hv := B.room.units
    (dss_cons (ds_if (cm_lt (de_var 1) (de_len (by rfl) T.n_len (de_ix hu (de_var 0) de_str))).t (dss_one (ds_ret (de_get2 hu (de_ix hu (de_ix hu (de_var 0) de_str) (de_var 1)) (de_tup (da_cons (de_var 2) (da_cons (de_var 3) da_nil))) de_int ⟨rfl, rfl, rfl, rfl⟩))) dss_nil)
      (dss_one (ds_ret de_int))))
theorem ok_mixed {f : Addr} {fd : FuncData} (F : Fun K "mixed" "mixed" s_mixed f fd) (gf : mg "mixed" = some (.ref f)) (T : Txt K w mg)  :
    Callee P w K mg base "mixed" 4 1 fn_mixed :=
  ⟨f, fd, ["meaning", "k", "x", "y"], fk_mixed F T , gf, F.kp, F.binds (ps := ["meaning", "k", "x", "y"]) fun _ _ _ _ _ _ us hl => match us, hl with | [_, _, _, _], _ => rfl⟩
/-! ### loaded -/
abbrev s_loaded : Stmt := topS 18
theorem sc_loaded : FnScope ["meaning", "k"] ["meaning", "k"] (defScope s_loaded) := ⟨rfl, rfl, rfl, by decide +kernel, rfl, by decide +kernel, by decide +kernel⟩
noncomputable def g_loaded : SF :=
  (sRet (eCall 2 fn_at_place (aCons (eBin gIx (eVar 0) (eK (.str (Str.ofString "loaded")))) (aCons (eVar 1) aNil))))
noncomputable def fn_loaded : Fn := fnOf 2 g_loaded
theorem fk_loaded {f : Addr} {fd : FuncData} (F : Fun K "loaded" "loaded" s_loaded f fd) (T : Txt K w mg) (C_at_place : Callee P w K mg base "at_place" 2 1 fn_at_place) :
    FnOk P w K mg base (CX P w) 2 f fd ["meaning", "k"] (spD K mg 2 fn_loaded) :=
  fn_ok F sc_loaded (fun c cdv A outer s H E B =>
    have S := sc_loaded
    have hr : Room 1 _ := B.room
    have hu := hu_of B.room
    have hu1 := hu1_of B.room
    have hv := B.room.units
    (dss_one (ds_ret (de_call (C_at_place) (hr.mono (by decide)) B.tk (by rfl) (da_cons (de_ix hu (de_var 0) de_str) (da_cons (de_var 1) da_nil))))))
theorem ok_loaded {f : Addr} {fd : FuncData} (F : Fun K "loaded" "loaded" s_loaded f fd) (gf : mg "loaded" = some (.ref f)) (T : Txt K w mg) (C_at_place : Callee P w K mg base "at_place" 2 1 fn_at_place) :
    Callee P w K mg base "loaded" 2 2 fn_loaded :=
  ⟨f, fd, ["meaning", "k"], fk_loaded F T C_at_place, gf, F.kp, F.binds (ps := ["meaning", "k"]) fun _ _ _ _ _ _ us hl => match us, hl with | [_, _], _ => rfl⟩
/-! ### new_value -/
abbrev s_new_value : Stmt := topS 28
theorem sc_new_value : FnScope ["row", "meaning", "secrets", "state", "registers", "counts", "value"] ["row", "meaning", "secrets", "state"] (defScope s_new_value) := ⟨rfl, rfl, rfl, by decide +kernel, rfl, by decide +kernel, by decide +kernel⟩
noncomputable def g_new_value : SF :=
  (sSeq (sSet 4 (eBin gIx (eVar 3) (eK (.str (Str.ofString "registers")))))
    (sSeq (sSet 5 (eBin gIx (eVar 3) (eK (.str (Str.ofString "counts")))))
    (sSeq (sIf (eBin gEq (eBin gIx (eVar 0) (eK (.int 0))) (eK (.str (Str.ofString "ask")))) (sRet (eCall 2 fn_asked (aCons (eVar 1) (aCons (eBin gIx (eVar 5) (eK (.int 0))) aNil)))) sNop)
    (sSeq (sIf (eBin gEq (eBin gIx (eVar 0) (eK (.int 0))) (eK (.str (Str.ofString "mix")))) (sRet (eCall 4 fn_mixed (aCons (eVar 1) (aCons (eBin gIx (eVar 5) (eK (.int 1))) (aCons (eBin gIx (eVar 4) (eBin gIx (eVar 0) (eK (.int 2)))) (aCons (eBin gIx (eVar 4) (eBin gIx (eVar 0) (eK (.int 3)))) aNil)))))) sNop)
    (sSeq (sIf (eBin gEq (eBin gIx (eVar 0) (eK (.int 0))) (eK (.str (Str.ofString "get")))) (sRet (eBin gIx (eBin gIx (eVar 3) (eK (.str (Str.ofString "slots")))) (eBin gIx (eVar 0) (eK (.int 2))))) sNop)
    (sSeq (sSet 6 (eBin gIx (eVar 4) (eBin gIx (eVar 0) (eK (.int 3)))))
    (sSeq (sIf (eBin gEq (eBin gIx (eVar 0) (eK (.int 0))) (eK (.str (Str.ofString "mask")))) (sRet (eBin gMul (eVar 6) (eUn gInt (eCall 3 fn_is_in (aCons (eVar 1) (aCons (eBin gIx (eVar 0) (eK (.int 2))) (aCons (eVar 6) aNil))))))) sNop)
    (sSeq (sIf (eCall 3 fn_is_in (aCons (eVar 1) (aCons (eBin gIx (eVar 0) (eK (.int 2))) (aCons (eVar 6) aNil)))) (sRet (eCall 2 fn_loaded (aCons (eVar 1) (aCons (eBin gIx (eVar 5) (eK (.int 2))) aNil)))) sNop)
    (sRet (eCall 2 fn_loaded_secret (aCons (eVar 2) (aCons (eBin gIx (eVar 5) (eK (.int 2))) aNil))))))))))))
noncomputable def fn_new_value : Fn := fnOf 7 g_new_value
theorem fk_new_value {f : Addr} {fd : FuncData} (F : Fun K "new_value" "new_value" s_new_value f fd) (T : Txt K w mg) (C_is_in : Callee P w K mg base "is_in" 3 1 fn_is_in) (C_asked : Callee P w K mg base "asked" 2 2 fn_asked) (C_mixed : Callee P w K mg base "mixed" 4 1 fn_mixed) (C_loaded : Callee P w K mg base "loaded" 2 2 fn_loaded) (C_loaded_secret : Callee P w K mg base "loaded_secret" 2 2 fn_loaded_secret) :
    FnOk P w K mg base (CX P w) 3 f fd ["row", "meaning", "secrets", "state"] (spD K mg 4 fn_new_value) :=
  fn_ok F sc_new_value (fun c cdv A outer s H E B =>
    have S := sc_new_value
    have hr : Room 2 _ := B.room
    have hu := hu_of B.room
    have hu1 := hu1_of B.room
    have hv := B.room.units
    (dss_cons (ds_set 4 S.nd (de_ix hu (de_var 3) de_str))
      (dss_cons (ds_set 5 S.nd (de_ix hu (de_var 3) de_str))
      (dss_cons (ds_if (cm_eq hv (de_ix hu (de_var 0) de_int) de_str).t (dss_one (ds_ret (de_call (C_asked) (hr.mono (by decide)) B.tk (by rfl) (da_cons (de_var 1) (da_cons (de_ix hu (de_var 5) de_int) da_nil))))) dss_nil)
      (dss_cons (ds_if (cm_eq hv (de_ix hu (de_var 0) de_int) de_str).t (dss_one (ds_ret (de_call (C_mixed) (hr.mono (by decide)) B.tk (by rfl) (da_cons (de_var 1) (da_cons (de_ix hu (de_var 5) de_int) (da_cons (de_ix hu (de_var 4) (de_ix hu (de_var 0) de_int)) (da_cons (de_ix hu (de_var 4) (de_ix hu (de_var 0) de_int)) da_nil))))))) dss_nil)
      (dss_cons (ds_if (cm_eq hv (de_ix hu (de_var 0) de_int) de_str).t (dss_one (ds_ret (de_ix hu (de_ix hu (de_var 3) de_str) (de_ix hu (de_var 0) de_int)))) dss_nil)
      (dss_cons (ds_set 6 S.nd (de_ix hu (de_var 4) (de_ix hu (de_var 0) de_int)))
      (dss_cons (ds_if (cm_eq hv (de_ix hu (de_var 0) de_int) de_str).t (dss_one (ds_ret (de_mul (de_var 6) (de_int1 (by rfl) T.n_int (de_call (C_is_in) (hr.mono (by decide)) B.tk (by rfl) (da_cons (de_var 1) (da_cons (de_ix hu (de_var 0) de_int) (da_cons (de_var 6) da_nil)))))))) dss_nil)
      (dss_cons (ds_if (dt_val (de_call (C_is_in) (hr.mono (by decide)) B.tk (by rfl) (da_cons (de_var 1) (da_cons (de_ix hu (de_var 0) de_int) (da_cons (de_var 6) da_nil))))) (dss_one (ds_ret (de_call (C_loaded) (hr.mono (by decide)) B.tk (by rfl) (da_cons (de_var 1) (da_cons (de_ix hu (de_var 5) de_int) da_nil))))) dss_nil)
      (dss_one (ds_ret (de_call (C_loaded_secret) (hr.mono (by decide)) B.tk (by rfl) (da_cons (de_var 2) (da_cons (de_ix hu (de_var 5) de_int) da_nil))))))))))))))
theorem ok_new_value {f : Addr} {fd : FuncData} (F : Fun K "new_value" "new_value" s_new_value f fd) (gf : mg "new_value" = some (.ref f)) (T : Txt K w mg) (C_is_in : Callee P w K mg base "is_in" 3 1 fn_is_in) (C_asked : Callee P w K mg base "asked" 2 2 fn_asked) (C_mixed : Callee P w K mg base "mixed" 4 1 fn_mixed) (C_loaded : Callee P w K mg base "loaded" 2 2 fn_loaded) (C_loaded_secret : Callee P w K mg base "loaded_secret" 2 2 fn_loaded_secret) :
    Callee P w K mg base "new_value" 4 3 fn_new_value :=
  ⟨f, fd, ["row", "meaning", "secrets", "state"], fk_new_value F T C_is_in C_asked C_mixed C_loaded C_loaded_secret, gf, F.kp, F.binds (ps := ["row", "meaning", "secrets", "state"]) fun _ _ _ _ _ _ us hl => match us, hl with | [_, _, _, _], _ => rfl⟩
/-! ### gone_on -/
abbrev s_gone_on : Stmt := topS 26
theorem sc_gone_on : FnScope ["state", "place", "changes", "after", "key", "value"] ["state", "place", "changes"] (defScope s_gone_on) := ⟨rfl, rfl, rfl, by decide +kernel, rfl, by decide +kernel, by decide +kernel⟩
noncomputable def b_gone_on_1 : SF :=
  (sPut 3 (eVar 4) (eVar 5))
noncomputable def g_gone_on : SF :=
  (sSeq (sOwn 3 (eUn gDict (eVar 0)))
    (sSeq (sPut 3 (eK (.str (Str.ofString "place"))) (eVar 1))
    (sSeq (sFor (iSeq (eVar 2)) (bTup 2 (bCons (bName 4) (bCons (bName 5) bNil))) b_gone_on_1)
    (sRet (eVar 3)))))
noncomputable def fn_gone_on : Fn := fnOf 6 g_gone_on
theorem fk_gone_on {f : Addr} {fd : FuncData} (F : Fun K "gone_on" "gone_on" s_gone_on f fd) (T : Txt K w mg)  :
    FnOk P w K mg base (CX P w) 1 f fd ["state", "place", "changes"] (spD K mg 3 fn_gone_on) :=
  fn_ok F sc_gone_on (fun c cdv A outer s H E B =>
    have S := sc_gone_on
    have hr : Room 0 _ := B.room
    have hu := hu_of B.room
    have hu1 := hu1_of B.room
    have hv := B.room.units
    (dss_cons (ds_own 3 S.nd (dn_dictOf rfl (by rfl) T.n_dict (de_var 0)))
      (dss_cons (ds_put 3 hu (de_var 1) de_str)
      (dss_cons (ds_for (passes_of rfl) rfl (di_seq (de_var 2)) (tg_tup (tgs_cons (tg_name 4) (tgs_cons (tg_name 5) tgs_nil))) (pg_tup rfl (pgs_cons (pg_name (i := 4) S.nd rfl (by first | exact Or.inl rfl | exact Or.inr rfl)) (pgs_cons (pg_name (i := 5) S.nd rfl (by first | exact Or.inl rfl | exact Or.inr rfl)) pgs_nil))) (dss_one (ds_put 3 hu (de_var 5) (de_var 4))))
      (dss_one (ds_ret (de_var 3)))))))
theorem ok_gone_on {f : Addr} {fd : FuncData} (F : Fun K "gone_on" "gone_on" s_gone_on f fd) (gf : mg "gone_on" = some (.ref f)) (T : Txt K w mg)  :
    Callee P w K mg base "gone_on" 3 1 fn_gone_on :=
  ⟨f, fd, ["state", "place", "changes"], fk_gone_on F T , gf, F.kp, F.binds (ps := ["state", "place", "changes"]) fun _ _ _ _ _ _ us hl => match us, hl with | [_, _, _], _ => rfl⟩
/-! ### with_part -/
abbrev s_with_part : Stmt := topS 23
theorem sc_with_part : FnScope ["values", "index", "value"] ["values", "index", "value"] (defScope s_with_part) := ⟨rfl, rfl, rfl, by decide +kernel, rfl, by decide +kernel, by decide +kernel⟩
noncomputable def g_with_part : SF :=
  (sRet (eBin gAdd (eBin gAdd (eSl (eVar 0) none (some (eVar 1))) (eTup (aCons (eVar 2) aNil))) (eSl (eVar 0) (some (eBin gAdd (eVar 1) (eK (.int 1)))) none)))
noncomputable def fn_with_part : Fn := fnOf 3 g_with_part
theorem fk_with_part {f : Addr} {fd : FuncData} (F : Fun K "with_part" "with_part" s_with_part f fd) (T : Txt K w mg)  :
    FnOk P w K mg base (CX P w) 1 f fd ["values", "index", "value"] (spD K mg 3 fn_with_part) :=
  fn_ok F sc_with_part (fun c cdv A outer s H E B =>
    have S := sc_with_part
    have hr : Room 0 _ := B.room
    have hu := hu_of B.room
    have hu1 := hu1_of B.room
    have hv := B.room.units
    (dss_one (ds_ret (de_add (de_add (de_sl (de_var 0) dp_none (dp_some (de_var 1))) (de_tup (da_cons (de_var 2) da_nil))) (de_sl (de_var 0) (dp_some (de_add (de_var 1) de_int)) dp_none)))))
theorem ok_with_part {f : Addr} {fd : FuncData} (F : Fun K "with_part" "with_part" s_with_part f fd) (gf : mg "with_part" = some (.ref f)) (T : Txt K w mg)  :
    Callee P w K mg base "with_part" 3 1 fn_with_part :=
  ⟨f, fd, ["values", "index", "value"], fk_with_part F T , gf, F.kp, F.binds (ps := ["values", "index", "value"]) fun _ _ _ _ _ _ us hl => match us, hl with | [_, _, _], _ => rfl⟩
/-! ### counted -/
abbrev s_counted : Stmt := topS 24
theorem sc_counted : FnScope ["state", "which", "counts"] ["state", "which"] (defScope s_counted) := ⟨rfl, rfl, rfl, by decide +kernel, rfl, by decide +kernel, by decide +kernel⟩
noncomputable def g_counted : SF :=
  (sSeq (sSet 2 (eBin gIx (eVar 0) (eK (.str (Str.ofString "counts")))))
    (sRet (eCall 3 fn_with_part (aCons (eVar 2) (aCons (eVar 1) (aCons (eBin gAdd (eBin gIx (eVar 2) (eVar 1)) (eK (.int 1))) aNil))))))
noncomputable def fn_counted : Fn := fnOf 3 g_counted
theorem fk_counted {f : Addr} {fd : FuncData} (F : Fun K "counted" "counted" s_counted f fd) (T : Txt K w mg) (C_with_part : Callee P w K mg base "with_part" 3 1 fn_with_part) :
    FnOk P w K mg base (CX P w) 2 f fd ["state", "which"] (spD K mg 2 fn_counted) :=
  fn_ok F sc_counted (fun c cdv A outer s H E B =>
    have S := sc_counted
    have hr : Room 1 _ := B.room
    have hu := hu_of B.room
    have hu1 := hu1_of B.room
    have hv := B.room.units
    (dss_cons (ds_set 2 S.nd (de_ix hu (de_var 0) de_str))
      (dss_one (ds_ret (de_call (C_with_part) (hr.mono (by decide)) B.tk (by rfl) (da_cons (de_var 2) (da_cons (de_var 1) (da_cons (de_add (de_ix hu (de_var 2) (de_var 1)) de_int) da_nil))))))))
theorem ok_counted {f : Addr} {fd : FuncData} (F : Fun K "counted" "counted" s_counted f fd) (gf : mg "counted" = some (.ref f)) (T : Txt K w mg) (C_with_part : Callee P w K mg base "with_part" 3 1 fn_with_part) :
    Callee P w K mg base "counted" 2 2 fn_counted :=
  ⟨f, fd, ["state", "which"], fk_counted F T C_with_part, gf, F.kp, F.binds (ps := ["state", "which"]) fun _ _ _ _ _ _ us hl => match us, hl with | [_, _], _ => rfl⟩
/-! ### register_step -/
abbrev s_register_step : Stmt := topS 29
theorem sc_register_step : FnScope ["program", "meaning", "secrets", "state", "place", "row", "seen", "value", "changes"] ["program", "meaning", "secrets", "state"] (defScope s_register_step) := ⟨rfl, rfl, rfl, by decide +kernel, rfl, by decide +kernel, by decide +kernel⟩
noncomputable def g_register_step : SF :=
  (sSeq (sSet 4 (eBin gIx (eVar 3) (eK (.str (Str.ofString "place")))))
    (sSeq (sSet 5 (eBin gIx (eBin gIx (eVar 0) (eK (.str (Str.ofString "rows")))) (eVar 4)))
    (sSeq (sSet 6 (eK .non))
    (sSeq (sIf (eBin gEq (eBin gIx (eVar 5) (eK (.int 0))) (eK (.str (Str.ofString "load")))) (sSet 6 (eTup (aCons (eK (.str (Str.ofString "at"))) (aCons (eBin gIx (eVar 5) (eK (.int 2))) (aCons (eBin gIx (eBin gIx (eVar 3) (eK (.str (Str.ofString "registers")))) (eBin gIx (eVar 5) (eK (.int 3)))) aNil))))) sNop)
    (sSeq (sSet 7 (eCall 4 fn_new_value (aCons (eVar 5) (aCons (eVar 1) (aCons (eVar 2) (aCons (eVar 3) aNil))))))
    (sSeq (sOwn 8 (eLst (aCons (eTup (aCons (eK (.str (Str.ofString "registers"))) (aCons (eCall 3 fn_with_part (aCons (eBin gIx (eVar 3) (eK (.str (Str.ofString "registers")))) (aCons (eBin gIx (eVar 5) (eK (.int 1))) (aCons (eVar 7) aNil)))) aNil))) aNil)))
    (sSeq (sIf (eBin (gIn false) (eBin gIx (eVar 5) (eK (.int 0))) (eTup (aCons (eK (.str (Str.ofString "ask"))) (aCons (eK (.str (Str.ofString "mix"))) (aCons (eK (.str (Str.ofString "load"))) aNil))))) (sApp 8 (eTup (aCons (eK (.str (Str.ofString "counts"))) (aCons (eCall 2 fn_counted (aCons (eVar 3) (aCons (eIdx (aCons (eK (.str (Str.ofString "ask"))) (aCons (eK (.str (Str.ofString "mix"))) (aCons (eK (.str (Str.ofString "load"))) aNil))) (aCons (eBin gIx (eVar 5) (eK (.int 0))) aNil)) aNil))) aNil)))) sNop)
    (sRet (eTup (aCons (eCall 3 fn_gone_on (aCons (eVar 3) (aCons (eBin gAdd (eVar 4) (eK (.int 1))) (aCons (eVar 8) aNil)))) (aCons (eTup (aCons (eVar 4) (aCons (eVar 6) aNil))) aNil)))))))))))
noncomputable def fn_register_step : Fn := fnOf 9 g_register_step
theorem fk_register_step {f : Addr} {fd : FuncData} (F : Fun K "register_step" "register_step" s_register_step f fd) (T : Txt K w mg) (C_with_part : Callee P w K mg base "with_part" 3 1 fn_with_part) (C_counted : Callee P w K mg base "counted" 2 2 fn_counted) (C_gone_on : Callee P w K mg base "gone_on" 3 1 fn_gone_on) (C_new_value : Callee P w K mg base "new_value" 4 3 fn_new_value) :
    FnOk P w K mg base (CX P w) 4 f fd ["program", "meaning", "secrets", "state"] (spD K mg 4 fn_register_step) :=
  fn_ok F sc_register_step (fun c cdv A outer s H E B =>
    have S := sc_register_step
    have hr : Room 3 _ := B.room
    have hu := hu_of B.room
    have hu1 := hu1_of B.room
    have hv := B.room.units
    (dss_cons (ds_set 4 S.nd (de_ix hu (de_var 3) de_str))
      (dss_cons (ds_set 5 S.nd (de_ix hu (de_ix hu (de_var 0) de_str) (de_var 4)))
      (dss_cons (ds_set 6 S.nd de_non)
      (dss_cons (ds_if (cm_eq hv (de_ix hu (de_var 5) de_int) de_str).t (dss_one (ds_set 6 S.nd (de_tup (da_cons de_str (da_cons (de_ix hu (de_var 5) de_int) (da_cons (de_ix hu (de_ix hu (de_var 3) de_str) (de_ix hu (de_var 5) de_int)) da_nil)))))) dss_nil)
      (dss_cons (ds_set 7 S.nd (de_call (C_new_value) (hr.mono (by decide)) B.tk (by rfl) (da_cons (de_var 5) (da_cons (de_var 1) (da_cons (de_var 2) (da_cons (de_var 3) da_nil))))))
      (dss_cons (ds_own 8 S.nd (dn_lst (da_cons (de_tup (da_cons de_str (da_cons (de_call (C_with_part) (hr.mono (by decide)) B.tk (by rfl) (da_cons (de_ix hu (de_var 3) de_str) (da_cons (de_ix hu (de_var 5) de_int) (da_cons (de_var 7) da_nil)))) da_nil))) da_nil)))
      (dss_cons (ds_if (cm_in hu (de_ix hu (de_var 5) de_int) (de_tup (da_cons de_str (da_cons de_str (da_cons de_str da_nil))))).t (dss_one (ds_app 8 (de_tup (da_cons de_str (da_cons (de_call (C_counted) (hr.mono (by decide)) B.tk (by rfl) (da_cons (de_var 3) (da_cons (de_index (da_cons de_str (da_cons de_str (da_cons de_str da_nil))) (da_cons (de_ix hu (de_var 5) de_int) da_nil)) da_nil))) da_nil))) (hx := pe_bm PySem.F.plainAttrs_list PySem.F.slot_list_append PySem.F.type_list_append mt_append (pe_var (i := 8) rfl (by first | exact Or.inl rfl | exact Or.inr (Or.inl rfl))) (pa_cons (de_tup (da_cons de_str (da_cons (de_call (C_counted) (hr.mono (by decide)) B.tk (by rfl) (da_cons (de_var 3) (da_cons (de_index (da_cons de_str (da_cons de_str (da_cons de_str da_nil))) (da_cons (de_ix hu (de_var 5) de_int) da_nil)) da_nil))) da_nil))) pa_nil)))) dss_nil)
      (dss_one (ds_ret (de_tup (da_cons (de_call (C_gone_on) (hr.mono (by decide)) B.tk (by rfl) (da_cons (de_var 3) (da_cons (de_add (de_var 4) de_int) (da_cons (de_var 8) da_nil)))) (da_cons (de_tup (da_cons (de_var 4) (da_cons (de_var 6) da_nil))) da_nil)))))))))))))
theorem ok_register_step {f : Addr} {fd : FuncData} (F : Fun K "register_step" "register_step" s_register_step f fd) (gf : mg "register_step" = some (.ref f)) (T : Txt K w mg) (C_with_part : Callee P w K mg base "with_part" 3 1 fn_with_part) (C_counted : Callee P w K mg base "counted" 2 2 fn_counted) (C_gone_on : Callee P w K mg base "gone_on" 3 1 fn_gone_on) (C_new_value : Callee P w K mg base "new_value" 4 3 fn_new_value) :
    Callee P w K mg base "register_step" 4 4 fn_register_step :=
  ⟨f, fd, ["program", "meaning", "secrets", "state"], fk_register_step F T C_with_part C_counted C_gone_on C_new_value, gf, F.kp, F.binds (ps := ["program", "meaning", "secrets", "state"]) fun _ _ _ _ _ _ us hl => match us, hl with | [_, _, _, _], _ => rfl⟩
/-! ### outcome -/
abbrev s_outcome : Stmt := topS 25
theorem sc_outcome : FnScope ["program", "meaning", "state", "row"] ["program", "meaning", "state"] (defScope s_outcome) := ⟨rfl, rfl, rfl, by decide +kernel, rfl, by decide +kernel, by decide +kernel⟩
noncomputable def g_outcome : SF :=
  (sSeq (sIf (eUn (gIsN .non) (eBin gIx (eVar 2) (eK (.str (Str.ofString "place"))))) (sRet (eK .non)) sNop)
    (sSeq (sSet 3 (eBin gIx (eBin gIx (eVar 0) (eK (.str (Str.ofString "rows")))) (eBin gIx (eVar 2) (eK (.str (Str.ofString "place"))))))
    (sSeq (sIf (eBin gNeD (eBin gIx (eVar 3) (eK (.int 0))) (eK (.str (Str.ofString "test")))) (sRet (eK .non)) sNop)
    (sSeq (sIf (eCall 3 fn_is_in (aCons (eVar 1) (aCons (eBin gIx (eVar 3) (eK (.int 2))) (aCons (eBin gIx (eBin gIx (eVar 2) (eK (.str (Str.ofString "registers")))) (eBin gIx (eVar 3) (eK (.int 1)))) aNil)))) (sRet (eK (.str (Str.ofString "in")))) sNop)
    (sRet (eK (.str (Str.ofString "out"))))))))
noncomputable def fn_outcome : Fn := fnOf 4 g_outcome
theorem fk_outcome {f : Addr} {fd : FuncData} (F : Fun K "outcome" "outcome" s_outcome f fd) (T : Txt K w mg) (C_is_in : Callee P w K mg base "is_in" 3 1 fn_is_in) :
    FnOk P w K mg base (CX P w) 2 f fd ["program", "meaning", "state"] (spD K mg 3 fn_outcome) :=
  fn_ok F sc_outcome (fun c cdv A outer s H E B =>
    have S := sc_outcome
    have hr : Room 1 _ := B.room
    have hu := hu_of B.room
    have hu1 := hu1_of B.room
    have hv := B.room.units
    (dss_cons (ds_if (cm_isN (de_ix hu (de_var 2) de_str)).t (dss_one (ds_ret de_non)) dss_nil)
      (dss_cons (ds_set 3 S.nd (de_ix hu (de_ix hu (de_var 0) de_str) (de_ix hu (de_var 2) de_str)))
      (dss_cons (ds_if (cm_neD hv (de_ix hu (de_var 3) de_int) de_str).t (dss_one (ds_ret de_non)) dss_nil)
      (dss_cons (ds_if (dt_val (de_call (C_is_in) (hr.mono (by decide)) B.tk (by rfl) (da_cons (de_var 1) (da_cons (de_ix hu (de_var 3) de_int) (da_cons (de_ix hu (de_ix hu (de_var 2) de_str) (de_ix hu (de_var 3) de_int)) da_nil))))) (dss_one (ds_ret de_str)) dss_nil)
      (dss_one (ds_ret de_str)))))))
theorem ok_outcome {f : Addr} {fd : FuncData} (F : Fun K "outcome" "outcome" s_outcome f fd) (gf : mg "outcome" = some (.ref f)) (T : Txt K w mg) (C_is_in : Callee P w K mg base "is_in" 3 1 fn_is_in) :
    Callee P w K mg base "outcome" 3 2 fn_outcome :=
  ⟨f, fd, ["program", "meaning", "state"], fk_outcome F T C_is_in, gf, F.kp, F.binds (ps := ["program", "meaning", "state"]) fun _ _ _ _ _ _ us hl => match us, hl with | [_, _, _], _ => rfl⟩
/-! ### test_step -/
abbrev s_test_step : Stmt := topS 27
theorem sc_test_step : FnScope ["program", "meaning", "state", "place", "row", "found"] ["program", "meaning", "state"] (defScope s_test_step) := ⟨rfl, rfl, rfl, by decide +kernel, rfl, by decide +kernel, by decide +kernel⟩
noncomputable def g_test_step : SF :=
  (sSeq (sSet 3 (eBin gIx (eVar 2) (eK (.str (Str.ofString "place")))))
    (sSeq (sSet 4 (eBin gIx (eBin gIx (eVar 0) (eK (.str (Str.ofString "rows")))) (eVar 3)))
    (sSeq (sSet 5 (eCall 3 fn_outcome (aCons (eVar 0) (aCons (eVar 1) (aCons (eVar 2) aNil)))))
    (sSeq (sIf (eBin gEq (eVar 5) (eK (.str (Str.ofString "in")))) (sRet (eTup (aCons (eCall 3 fn_gone_on (aCons (eVar 2) (aCons (eBin gAdd (eVar 3) (eK (.int 1))) (aCons (eLst aNil) aNil)))) (aCons (eTup (aCons (eVar 3) (aCons (eTup (aCons (eK (.str (Str.ofString "in"))) aNil)) aNil))) aNil)))) sNop)
    (sRet (eTup (aCons (eCall 3 fn_gone_on (aCons (eVar 2) (aCons (eBin gIx (eVar 4) (eK (.int 3))) (aCons (eLst aNil) aNil)))) (aCons (eTup (aCons (eVar 3) (aCons (eTup (aCons (eK (.str (Str.ofString "out"))) aNil)) aNil))) aNil))))))))
noncomputable def fn_test_step : Fn := fnOf 6 g_test_step
theorem fk_test_step {f : Addr} {fd : FuncData} (F : Fun K "test_step" "test_step" s_test_step f fd) (T : Txt K w mg) (C_outcome : Callee P w K mg base "outcome" 3 2 fn_outcome) (C_gone_on : Callee P w K mg base "gone_on" 3 1 fn_gone_on) :
    FnOk P w K mg base (CX P w) 3 f fd ["program", "meaning", "state"] (spD K mg 3 fn_test_step) :=
  fn_ok F sc_test_step (fun c cdv A outer s H E B =>
    have S := sc_test_step
    have hr : Room 2 _ := B.room
    have hu := hu_of B.room
    have hu1 := hu1_of B.room
    have hv := B.room.units
    (dss_cons (ds_set 3 S.nd (de_ix hu (de_var 2) de_str))
      (dss_cons (ds_set 4 S.nd (de_ix hu (de_ix hu (de_var 0) de_str) (de_var 3)))
      (dss_cons (ds_set 5 S.nd (de_call (C_outcome) (hr.mono (by decide)) B.tk (by rfl) (da_cons (de_var 0) (da_cons (de_var 1) (da_cons (de_var 2) da_nil)))))
      (dss_cons (ds_if (cm_eq hv (de_var 5) de_str).t (dss_one (ds_ret (de_tup (da_cons (de_call (C_gone_on) (hr.mono (by decide)) B.tk (by rfl) (da_cons (de_var 2) (da_cons (de_add (de_var 3) de_int) (da_cons (de_dn (dn_lst da_nil)) da_nil)))) (da_cons (de_tup (da_cons (de_var 3) (da_cons (de_tup (da_cons de_str da_nil)) da_nil))) da_nil))))) dss_nil)
      (dss_one (ds_ret (de_tup (da_cons (de_call (C_gone_on) (hr.mono (by decide)) B.tk (by rfl) (da_cons (de_var 2) (da_cons (de_ix hu (de_var 4) de_int) (da_cons (de_dn (dn_lst da_nil)) da_nil)))) (da_cons (de_tup (da_cons (de_var 3) (da_cons (de_tup (da_cons de_str da_nil)) da_nil))) da_nil))))))))))
theorem ok_test_step {f : Addr} {fd : FuncData} (F : Fun K "test_step" "test_step" s_test_step f fd) (gf : mg "test_step" = some (.ref f)) (T : Txt K w mg) (C_outcome : Callee P w K mg base "outcome" 3 2 fn_outcome) (C_gone_on : Callee P w K mg base "gone_on" 3 1 fn_gone_on) :
    Callee P w K mg base "test_step" 3 3 fn_test_step :=
  ⟨f, fd, ["program", "meaning", "state"], fk_test_step F T C_outcome C_gone_on, gf, F.kp, F.binds (ps := ["program", "meaning", "state"]) fun _ _ _ _ _ _ us hl => match us, hl with | [_, _, _], _ => rfl⟩
/-! ### after_step -/
abbrev s_after_step : Stmt := topS 30
theorem sc_after_step : FnScope ["program", "meaning", "secrets", "state", "place", "row", "slots"] ["program", "meaning", "secrets", "state"] (defScope s_after_step) := ⟨rfl, rfl, rfl, by decide +kernel, rfl, by decide +kernel, by decide +kernel⟩
noncomputable def g_after_step : SF :=
  (sSeq (sSet 4 (eBin gIx (eVar 3) (eK (.str (Str.ofString "place")))))
    (sSeq (sIf (eUn (gIsN .non) (eVar 4)) (sRaise (Str.ofString "NotValid")) sNop)
    (sSeq (sSet 5 (eBin gIx (eBin gIx (eVar 0) (eK (.str (Str.ofString "rows")))) (eVar 4)))
    (sSeq (sIf (eBin gEq (eBin gIx (eVar 5) (eK (.int 0))) (eK (.str (Str.ofString "test")))) (sRet (eCall 3 fn_test_step (aCons (eVar 0) (aCons (eVar 1) (aCons (eVar 3) aNil))))) sNop)
    (sSeq (sIf (eBin gEq (eBin gIx (eVar 5) (eK (.int 0))) (eK (.str (Str.ofString "end")))) (sRet (eTup (aCons (eCall 3 fn_gone_on (aCons (eVar 3) (aCons (eK .non) (aCons (eLst aNil) aNil)))) (aCons (eTup (aCons (eVar 4) (aCons (eK .non) aNil))) aNil)))) sNop)
    (sSeq (sIf (eBin gEq (eBin gIx (eVar 5) (eK (.int 0))) (eK (.str (Str.ofString "jump")))) (sRet (eTup (aCons (eCall 3 fn_gone_on (aCons (eVar 3) (aCons (eBin gIx (eVar 5) (eK (.int 1))) (aCons (eLst aNil) aNil)))) (aCons (eTup (aCons (eVar 4) (aCons (eK .non) aNil))) aNil)))) sNop)
    (sSeq (sIf (eBin gEq (eBin gIx (eVar 5) (eK (.int 0))) (eK (.str (Str.ofString "fence")))) (sRet (eTup (aCons (eCall 3 fn_gone_on (aCons (eVar 3) (aCons (eBin gAdd (eVar 4) (eK (.int 1))) (aCons (eLst aNil) aNil)))) (aCons (eTup (aCons (eVar 4) (aCons (eK .non) aNil))) aNil)))) sNop)
    (sSeq (sIf (eBin gEq (eBin gIx (eVar 5) (eK (.int 0))) (eK (.str (Str.ofString "put")))) (sSeq (sSet 6 (eCall 3 fn_with_part (aCons (eBin gIx (eVar 3) (eK (.str (Str.ofString "slots")))) (aCons (eBin gIx (eVar 5) (eK (.int 1))) (aCons (eBin gIx (eBin gIx (eVar 3) (eK (.str (Str.ofString "registers")))) (eBin gIx (eVar 5) (eK (.int 2)))) aNil)))))
    (sRet (eTup (aCons (eCall 3 fn_gone_on (aCons (eVar 3) (aCons (eBin gAdd (eVar 4) (eK (.int 1))) (aCons (eLst (aCons (eTup (aCons (eK (.str (Str.ofString "slots"))) (aCons (eVar 6) aNil))) aNil)) aNil)))) (aCons (eTup (aCons (eVar 4) (aCons (eK .non) aNil))) aNil))))) sNop)
    (sRet (eCall 4 fn_register_step (aCons (eVar 0) (aCons (eVar 1) (aCons (eVar 2) (aCons (eVar 3) aNil))))))))))))))
noncomputable def fn_after_step : Fn := fnOf 7 g_after_step
theorem fk_after_step {f : Addr} {fd : FuncData} (F : Fun K "after_step" "after_step" s_after_step f fd) (T : Txt K w mg) (C_with_part : Callee P w K mg base "with_part" 3 1 fn_with_part) (C_gone_on : Callee P w K mg base "gone_on" 3 1 fn_gone_on) (C_test_step : Callee P w K mg base "test_step" 3 3 fn_test_step) (C_register_step : Callee P w K mg base "register_step" 4 4 fn_register_step) :
    FnOk P w K mg base (CX P w) 5 f fd ["program", "meaning", "secrets", "state"] (spD K mg 4 fn_after_step) :=
  fn_ok F sc_after_step (fun c cdv A outer s H E B =>
    have S := sc_after_step
    have hr : Room 4 _ := B.room
    have hu := hu_of B.room
    have hu1 := hu1_of B.room
    have hv := B.room.units
    (dss_cons (ds_set 4 S.nd (de_ix hu (de_var 3) de_str))
      (dss_cons (ds_if (cm_isN (de_var 4)).t (dss_one (ds_raise rfl B.tk T.e_NotValid (by rfl))) dss_nil)
      (dss_cons (ds_set 5 S.nd (de_ix hu (de_ix hu (de_var 0) de_str) (de_var 4)))
      (dss_cons (ds_if (cm_eq hv (de_ix hu (de_var 5) de_int) de_str).t (dss_one (ds_ret (de_call (C_test_step) (hr.mono (by decide)) B.tk (by rfl) (da_cons (de_var 0) (da_cons (de_var 1) (da_cons (de_var 3) da_nil)))))) dss_nil)
      (dss_cons (ds_if (cm_eq hv (de_ix hu (de_var 5) de_int) de_str).t (dss_one (ds_ret (de_tup (da_cons (de_call (C_gone_on) (hr.mono (by decide)) B.tk (by rfl) (da_cons (de_var 3) (da_cons de_non (da_cons (de_dn (dn_lst da_nil)) da_nil)))) (da_cons (de_tup (da_cons (de_var 4) (da_cons de_non da_nil))) da_nil))))) dss_nil)
      (dss_cons (ds_if (cm_eq hv (de_ix hu (de_var 5) de_int) de_str).t (dss_one (ds_ret (de_tup (da_cons (de_call (C_gone_on) (hr.mono (by decide)) B.tk (by rfl) (da_cons (de_var 3) (da_cons (de_ix hu (de_var 5) de_int) (da_cons (de_dn (dn_lst da_nil)) da_nil)))) (da_cons (de_tup (da_cons (de_var 4) (da_cons de_non da_nil))) da_nil))))) dss_nil)
      (dss_cons (ds_if (cm_eq hv (de_ix hu (de_var 5) de_int) de_str).t (dss_one (ds_ret (de_tup (da_cons (de_call (C_gone_on) (hr.mono (by decide)) B.tk (by rfl) (da_cons (de_var 3) (da_cons (de_add (de_var 4) de_int) (da_cons (de_dn (dn_lst da_nil)) da_nil)))) (da_cons (de_tup (da_cons (de_var 4) (da_cons de_non da_nil))) da_nil))))) dss_nil)
      (dss_cons (ds_if (cm_eq hv (de_ix hu (de_var 5) de_int) de_str).t (dss_cons (ds_set 6 S.nd (de_call (C_with_part) (hr.mono (by decide)) B.tk (by rfl) (da_cons (de_ix hu (de_var 3) de_str) (da_cons (de_ix hu (de_var 5) de_int) (da_cons (de_ix hu (de_ix hu (de_var 3) de_str) (de_ix hu (de_var 5) de_int)) da_nil)))))
      (dss_one (ds_ret (de_tup (da_cons (de_call (C_gone_on) (hr.mono (by decide)) B.tk (by rfl) (da_cons (de_var 3) (da_cons (de_add (de_var 4) de_int) (da_cons (de_dn (dn_lst (da_cons (de_tup (da_cons de_str (da_cons (de_var 6) da_nil))) da_nil))) da_nil)))) (da_cons (de_tup (da_cons (de_var 4) (da_cons de_non da_nil))) da_nil)))))) dss_nil)
      (dss_one (ds_ret (de_call (C_register_step) (hr.mono (by decide)) B.tk (by rfl) (da_cons (de_var 0) (da_cons (de_var 1) (da_cons (de_var 2) (da_cons (de_var 3) da_nil))))))))))))))))
theorem ok_after_step {f : Addr} {fd : FuncData} (F : Fun K "after_step" "after_step" s_after_step f fd) (gf : mg "after_step" = some (.ref f)) (T : Txt K w mg) (C_with_part : Callee P w K mg base "with_part" 3 1 fn_with_part) (C_gone_on : Callee P w K mg base "gone_on" 3 1 fn_gone_on) (C_test_step : Callee P w K mg base "test_step" 3 3 fn_test_step) (C_register_step : Callee P w K mg base "register_step" 4 4 fn_register_step) :
    Callee P w K mg base "after_step" 4 5 fn_after_step :=
  ⟨f, fd, ["program", "meaning", "secrets", "state"], fk_after_step F T C_with_part C_gone_on C_test_step C_register_step, gf, F.kp, F.binds (ps := ["program", "meaning", "secrets", "state"]) fun _ _ _ _ _ _ us hl => match us, hl with | [_, _, _, _], _ => rfl⟩
/-! ### run -/
abbrev s_run : Stmt := topS 31
theorem sc_run : FnScope ["program", "meaning", "secrets", "steps", "state", "view", "_", "seen"] ["program", "meaning", "secrets", "steps"] (defScope s_run) := ⟨rfl, rfl, rfl, by decide +kernel, rfl, by decide +kernel, by decide +kernel⟩
noncomputable def b_run_1 : SF :=
  (sSeq (sIf (eUn (gIsN .non) (eBin gIx (eVar 4) (eK (.str (Str.ofString "place"))))) sBrk sNop)
    (sSeq (sAsg (bTup 2 (bCons (bName 4) (bCons (bName 7) bNil))) (eCall 4 fn_after_step (aCons (eVar 0) (aCons (eVar 1) (aCons (eVar 2) (aCons (eVar 4) aNil))))))
    (sApp 5 (eVar 7))))
noncomputable def g_run : SF :=
  (sSeq (sSet 4 (eCall 2 fn_first_state (aCons (eVar 0) (aCons (eVar 2) aNil))))
    (sSeq (sOwn 5 (eLst aNil))
    (sSeq (sFor (iRange1 (eVar 3)) (bName 6) b_run_1)
    (sRet (eTup (aCons (eVar 4) (aCons (eVar 5) aNil)))))))
noncomputable def fn_run : Fn := fnOf 8 g_run
theorem fk_run {f : Addr} {fd : FuncData} (F : Fun K "run" "run" s_run f fd) (T : Txt K w mg) (C_first_state : Callee P w K mg base "first_state" 2 3 fn_first_state) (C_after_step : Callee P w K mg base "after_step" 4 5 fn_after_step) :
    FnOk P w K mg base (CX P w) 6 f fd ["program", "meaning", "secrets", "steps"] (spD K mg 4 fn_run) :=
  fn_ok F sc_run (fun c cdv A outer s H E B =>
    have S := sc_run
    have hr : Room 5 _ := B.room
    have hu := hu_of B.room
    have hu1 := hu1_of B.room
    have hv := B.room.units
    (dss_cons (ds_set 4 S.nd (de_call (C_first_state) (hr.mono (by decide)) B.tk (by rfl) (da_cons (de_var 0) (da_cons (de_var 2) da_nil))))
      (dss_cons (ds_own 5 S.nd (dn_lst da_nil))
      (dss_cons (ds_for (passes_of rfl) rfl (di_range1 (by rfl) T.n_range (de_var 3)) (tg_name 6) (pg_name (i := 6) S.nd rfl (by first | exact Or.inl rfl | exact Or.inr rfl)) (dss_cons (ds_if (cm_isN (de_ix hu (de_var 4) de_str)).t (dss_one ds_break) dss_nil)
      (dss_cons (ds_asg (tg_tup (tgs_cons (tg_name 4) (tgs_cons (tg_name 7) tgs_nil))) (pg_tup rfl (pgs_cons (pg_name (i := 4) S.nd rfl (by first | exact Or.inl rfl | exact Or.inr rfl)) (pgs_cons (pg_name (i := 7) S.nd rfl (by first | exact Or.inl rfl | exact Or.inr rfl)) pgs_nil))) (de_call (C_after_step) (hr.mono (by decide)) B.tk (by rfl) (da_cons (de_var 0) (da_cons (de_var 1) (da_cons (de_var 2) (da_cons (de_var 4) da_nil))))))
      (dss_one (ds_app 5 (de_var 7) (hx := pe_bm PySem.F.plainAttrs_list PySem.F.slot_list_append PySem.F.type_list_append mt_append (pe_var (i := 5) rfl (by first | exact Or.inl rfl | exact Or.inr (Or.inl rfl))) (pa_cons (de_var 7) pa_nil)))))))
      (dss_one (ds_ret (de_tup (da_cons (de_var 4) (da_cons (de_var 5) da_nil)))))))))
theorem ok_run {f : Addr} {fd : FuncData} (F : Fun K "run" "run" s_run f fd) (gf : mg "run" = some (.ref f)) (T : Txt K w mg) (C_first_state : Callee P w K mg base "first_state" 2 3 fn_first_state) (C_after_step : Callee P w K mg base "after_step" 4 5 fn_after_step) :
    Callee P w K mg base "run" 4 6 fn_run :=
  ⟨f, fd, ["program", "meaning", "secrets", "steps"], fk_run F T C_first_state C_after_step, gf, F.kp, F.binds (ps := ["program", "meaning", "secrets", "steps"]) fun _ _ _ _ _ _ us hl => match us, hl with | [_, _, _, _], _ => rfl⟩
/-! ### Run.__init__ -/
abbrev s_Run___init : Stmt := inClass (topS 39) 0
theorem sc_Run___init : FnScope ["self", "secret", "meaning", "secrets", "turns"] ["self", "secret", "meaning", "secrets", "turns"] (defScope s_Run___init) := ⟨rfl, rfl, rfl, by decide +kernel, rfl, by decide +kernel, by decide +kernel⟩
noncomputable def g_Run___init : SF :=
  (sSeq (sFldS "Run" "meaning" (eVar 0) (eVar 2))
    (sSeq (sFldS "Run" "secrets" (eVar 0) (eVar 3))
    (sSeq (sFldS "Run" "left" (eVar 0) (eVar 4))
    (sSeq (sFldS "Run" "seen" (eVar 0) (eSto (eLst aNil)))
    (sFldS "Run" "state" (eVar 0) (eCall 2 fn_first_state (aCons (eDict [.inr (Str.ofString "secret"), .inr (Str.ofString "rows")] (aCons (eUn gTuple (eVar 1)) (aCons (eTup aNil) aNil))) (aCons (eVar 3) aNil))))))))
noncomputable def fn_Run___init : Fn := fnOf 5 g_Run___init
theorem fk_Run___init {f : Addr} {fd : FuncData} (F : Fun K "__init__" "Run.__init__" s_Run___init f fd) (T : Txt K w mg) (C_first_state : Callee P w K mg base "first_state" 2 3 fn_first_state) :
    FnOk P w K mg base (CX P w) 4 f fd ["self", "secret", "meaning", "secrets", "turns"] (spD K mg 5 fn_Run___init) :=
  fn_ok F sc_Run___init (fun c cdv A outer s H E B =>
    have S := sc_Run___init
    have hr : Room 3 _ := B.room
    have hu := hu_of B.room
    have hu1 := hu1_of B.room
    have hv := B.room.units
    (dss_cons (ds_fld T.f_Run_meaning (de_var 2) (de_var 0))
      (dss_cons (ds_fld T.f_Run_secrets (de_var 3) (de_var 0))
      (dss_cons (ds_fld T.f_Run_left (de_var 4) (de_var 0))
      (dss_cons (ds_fld T.f_Run_seen (de_sto (dn_lst da_nil)) (de_var 0))
      (dss_one (ds_fld T.f_Run_state (de_call (C_first_state) (hr.mono (by decide)) B.tk (by rfl) (da_cons (de_dn (dn_dict (dp_cons kex_str (de_tuple (by rfl) T.n_tuple (de_var 1)) (dp_cons kex_str (de_tup da_nil) dp_nil)))) (da_cons (de_var 3) da_nil))) (de_var 0))))))))
theorem ok_Run___init {C f : Addr} {fd : FuncData} (F : Fun K "__init__" "Run.__init__" s_Run___init f fd) (gf : mg "Run" = some (.ref C)) (M : Mk K C f) (T : Txt K w mg) (C_first_state : Callee P w K mg base "first_state" 2 3 fn_first_state) :
    MkCallee P w K mg base "Run" 5 4 fn_Run___init :=
  ⟨C, f, fd, ["self", "secret", "meaning", "secrets", "turns"], gf, M, fk_Run___init F T C_first_state, F.binds (ps := ["self", "secret", "meaning", "secrets", "turns"]) fun _ _ _ _ _ _ us hl => match us, hl with | [_, _, _, _, _], _ => rfl⟩
/-! ### Run.turn -/
abbrev s_Run_turn : Stmt := inClass (topS 39) 1
theorem sc_Run_turn : FnScope ["self"] ["self"] (defScope s_Run_turn) := ⟨rfl, rfl, rfl, by decide +kernel, rfl, by decide +kernel, by decide +kernel⟩
noncomputable def g_Run_turn : SF :=
  (sSeq (sFldAug "Run" "left" (fun i j => i - j) (eVar 0) (eK (.int 1)))
    (sRet (eBin (gI fun i j => kLe j i) (eUn (gFld "Run" "left") (eVar 0)) (eK (.int 0)))))
noncomputable def fn_Run_turn : Fn := fnOf 1 g_Run_turn
theorem fk_Run_turn {f : Addr} {fd : FuncData} (F : Fun K "turn" "Run.turn" s_Run_turn f fd) (T : Txt K w mg)  :
    FnOk P w K mg base (CX P w) 1 f fd ["self"] (spD K mg 1 fn_Run_turn) :=
  fn_ok F sc_Run_turn (fun c cdv A outer s H E B =>
    have S := sc_Run_turn
    have hr : Room 0 _ := B.room
    have hu := hu_of B.room
    have hu1 := hu1_of B.room
    have hv := B.room.units
    (dss_cons (ds_fldsub T.f_Run_left (de_var 0) de_int)
      (dss_one (ds_ret (cm_ge (de_fld T.f_Run_left (de_var 0)) de_int).e))))
theorem ok_Run_turn {C f : Addr} {fd : FuncData} (F : Fun K "turn" "Run.turn" s_Run_turn f fd) (gf : mg "Run" = some (.ref C)) (cl : Cls K C) (M : Meth K C "turn" f) (T : Txt K w mg)  :
    MCallee P w K mg base "Run" "turn" 1 1 fn_Run_turn :=
  ⟨C, f, fd, ["self"], gf, cl, M, fk_Run_turn F T , F.binds (ps := ["self"]) fun _ _ _ _ _ _ us hl => match us, hl with | [_], _ => rfl⟩
/-! ### Run.decide -/
abbrev s_Run_decide : Stmt := inClass (topS 39) 2
theorem sc_Run_decide : FnScope ["self", "part", "found"] ["self", "part"] (defScope s_Run_decide) := ⟨rfl, rfl, rfl, by decide +kernel, rfl, by decide +kernel, by decide +kernel⟩
noncomputable def g_Run_decide : SF :=
  (sSeq (sSet 2 (eCall 3 fn_is_in (aCons (eUn (gFld "Run" "meaning") (eVar 0)) (aCons (eBin gIx (eVar 1) (eK (.int 2))) (aCons (eBin gIx (eBin gIx (eUn (gFld "Run" "state") (eVar 0)) (eK (.str (Str.ofString "registers")))) (eBin gIx (eVar 1) (eK (.int 1)))) aNil)))))
    (sSeq (sAppR (eUn (gFld "Run" "seen") (eVar 0)) (eIf (eVar 2) (eTup (aCons (eK (.str (Str.ofString "in"))) aNil)) (eTup (aCons (eK (.str (Str.ofString "out"))) aNil))))
    (sRet (eVar 2))))
noncomputable def fn_Run_decide : Fn := fnOf 3 g_Run_decide
theorem fk_Run_decide {f : Addr} {fd : FuncData} (F : Fun K "decide" "Run.decide" s_Run_decide f fd) (T : Txt K w mg) (C_is_in : Callee P w K mg base "is_in" 3 1 fn_is_in) :
    FnOk P w K mg base (CX P w) 2 f fd ["self", "part"] (spD K mg 2 fn_Run_decide) :=
  fn_ok F sc_Run_decide (fun c cdv A outer s H E B =>
    have S := sc_Run_decide
    have hr : Room 1 _ := B.room
    have hu := hu_of B.room
    have hu1 := hu1_of B.room
    have hv := B.room.units
    (dss_cons (ds_set 2 S.nd (de_call (C_is_in) (hr.mono (by decide)) B.tk (by rfl) (da_cons (de_fld T.f_Run_meaning (de_var 0)) (da_cons (de_ix hu (de_var 1) de_int) (da_cons (de_ix hu (de_ix hu (de_fld T.f_Run_state (de_var 0)) de_str) (de_ix hu (de_var 1) de_int)) da_nil)))))
      (dss_cons (ds_appR (de_fld T.f_Run_seen (de_var 0)) (de_ifx (dt_val (de_var 2)) (de_tup (da_cons de_str da_nil)) (de_tup (da_cons de_str da_nil))) (pe_bm PySem.F.plainAttrs_list PySem.F.slot_list_append PySem.F.type_list_append mt_append (de_fld T.f_Run_seen (de_var 0)) (pa_cons (de_ifx (dt_val (de_var 2)) (de_tup (da_cons de_str da_nil)) (de_tup (da_cons de_str da_nil))) pa_nil)))
      (dss_one (ds_ret (de_var 2))))))
theorem ok_Run_decide {C f : Addr} {fd : FuncData} (F : Fun K "decide" "Run.decide" s_Run_decide f fd) (gf : mg "Run" = some (.ref C)) (cl : Cls K C) (M : Meth K C "decide" f) (T : Txt K w mg) (C_is_in : Callee P w K mg base "is_in" 3 1 fn_is_in) :
    MCallee P w K mg base "Run" "decide" 2 2 fn_Run_decide :=
  ⟨C, f, fd, ["self", "part"], gf, cl, M, fk_Run_decide F T C_is_in, F.binds (ps := ["self", "part"]) fun _ _ _ _ _ _ us hl => match us, hl with | [_, _], _ => rfl⟩
/-! ### Run.make_loop -/
abbrev s_Run_make_loop : Stmt := inClass (topS 39) 5
theorem sc_Run_make_loop : FnScope ["self", "part"] ["self", "part"] (defScope s_Run_make_loop) := ⟨rfl, rfl, rfl, by decide +kernel, rfl, by decide +kernel, by decide +kernel⟩
noncomputable def b_Run_make_loop_1 (r_Run_make : Fn) : SF :=
  (sSeq (sIf (eUn gNot (eMeth "Run" "decide" 2 fn_Run_decide (eVar 0) (aCons (eVar 1) aNil))) (sRet (eK (.bl true))) sNop)
    (sIf (eUn gNot (eMeth "Run" "make" 2 r_Run_make (eVar 0) (aCons (eBin gIx (eVar 1) (eK (.int 3))) aNil))) (sRet (eK (.bl false))) sNop))
noncomputable def g_Run_make_loop (r_Run_make : Fn) : SF :=
  (sSeq (sWhile 100000 (eMeth "Run" "turn" 1 fn_Run_turn (eVar 0) aNil) (b_Run_make_loop_1 r_Run_make))
    (sRet (eK (.bl false))))
noncomputable def fnr_Run_make_loop (r_Run_make : Fn) : Fn := fnOf 2 (g_Run_make_loop r_Run_make)
theorem fk_Run_make_loop {f : Addr} {fd : FuncData} (F : Fun K "make_loop" "Run.make_loop" s_Run_make_loop f fd) (T : Txt K w mg) {l : Nat} (hl : 2 ≤ l) (C_Run_turn : MCallee P w K mg base "Run" "turn" 1 1 fn_Run_turn) (C_Run_decide : MCallee P w K mg base "Run" "decide" 2 2 fn_Run_decide) {r_Run_make : Fn} (C_Run_make : MCallee P w K mg base "Run" "make" 2 l r_Run_make) :
    FnOk P w K mg base (CX P w) (l + 1) f fd ["self", "part"] (spD K mg 2 (fnr_Run_make_loop r_Run_make)) :=
  fn_ok F sc_Run_make_loop (fun c cdv A outer s H E B =>
    have S := sc_Run_make_loop
    have hr : Room l _ := B.room
    have hu := hu_of B.room
    have hu1 := hu1_of B.room
    have hv := B.room.units
    (dss_cons (ds_while 100000 (passes_of rfl) (dt_val (de_meth0 (C_Run_turn) (hr.mono (by omega)) B.tk (de_var 0))) (dss_cons (ds_if (dt_not (dt_val (de_meth (C_Run_decide) (hr.mono (by omega)) B.tk (de_var 0) (da_cons (de_var 1) da_nil)))) (dss_one (ds_ret de_bl)) dss_nil)
      (dss_one (ds_if (dt_not (dt_val (de_meth (C_Run_make) (hr.mono (by omega)) B.tk (de_var 0) (da_cons (de_ix hu (de_var 1) de_int) da_nil)))) (dss_one (ds_ret de_bl)) dss_nil))))
      (dss_one (ds_ret de_bl))))
theorem ok_Run_make_loop {C f : Addr} {fd : FuncData} (F : Fun K "make_loop" "Run.make_loop" s_Run_make_loop f fd) (gf : mg "Run" = some (.ref C)) (cl : Cls K C) (M : Meth K C "make_loop" f) (T : Txt K w mg) {l : Nat} (hl : 2 ≤ l) (C_Run_turn : MCallee P w K mg base "Run" "turn" 1 1 fn_Run_turn) (C_Run_decide : MCallee P w K mg base "Run" "decide" 2 2 fn_Run_decide) {r_Run_make : Fn} (C_Run_make : MCallee P w K mg base "Run" "make" 2 l r_Run_make) :
    MCallee P w K mg base "Run" "make_loop" 2 (l + 1) (fnr_Run_make_loop r_Run_make) :=
  ⟨C, f, fd, ["self", "part"], gf, cl, M, fk_Run_make_loop F T hl C_Run_turn C_Run_decide C_Run_make, F.binds (ps := ["self", "part"]) fun _ _ _ _ _ _ us hl => match us, hl with | [_, _], _ => rfl⟩
/-! ### Run.do -/
abbrev s_Run_do : Stmt := inClass (topS 39) 3
theorem sc_Run_do : FnScope ["self", "row", "state", "seen"] ["self", "row"] (defScope s_Run_do) := ⟨rfl, rfl, rfl, by decide +kernel, rfl, by decide +kernel, by decide +kernel⟩
noncomputable def g_Run_do : SF :=
  (sSeq (sOwn 2 (eUn gDict (eUn (gFld "Run" "state") (eVar 0))))
    (sSeq (sPut 2 (eK (.str (Str.ofString "place"))) (eK (.int 0)))
    (sSeq (sAsgT (tTup 2 (tsCons (tFldT "Run" "state" (eVar 0)) (tsCons (tName 3) tsNil))) (eCall 4 fn_after_step (aCons (eDict [.inr (Str.ofString "secret"), .inr (Str.ofString "rows")] (aCons (eTup aNil) (aCons (eTup (aCons (eVar 1) aNil)) aNil))) (aCons (eUn (gFld "Run" "meaning") (eVar 0)) (aCons (eUn (gFld "Run" "secrets") (eVar 0)) (aCons (eVar 2) aNil))))))
    (sIf (eUn (gNotN .non) (eBin gIx (eVar 3) (eK (.int 1)))) (sAppR (eUn (gFld "Run" "seen") (eVar 0)) (eBin gIx (eVar 3) (eK (.int 1)))) sNop))))
noncomputable def fn_Run_do : Fn := fnOf 4 g_Run_do
theorem fk_Run_do {f : Addr} {fd : FuncData} (F : Fun K "do" "Run.do" s_Run_do f fd) (T : Txt K w mg) (C_after_step : Callee P w K mg base "after_step" 4 5 fn_after_step) :
    FnOk P w K mg base (CX P w) 6 f fd ["self", "row"] (spD K mg 2 fn_Run_do) :=
  fn_ok F sc_Run_do (fun c cdv A outer s H E B =>
    have S := sc_Run_do
    have hr : Room 5 _ := B.room
    have hu := hu_of B.room
    have hu1 := hu1_of B.room
    have hv := B.room.units
    (dss_cons (ds_own 2 S.nd (dn_dictOf rfl (by rfl) T.n_dict (de_fld T.f_Run_state (de_var 0))))
      (dss_cons (ds_put 2 hu de_int de_str)
      (dss_cons (ds_asgT (dtg_tup rfl (dtgs_cons (dtg_fld T.f_Run_state (de_var 0)) (dtgs_cons (dtg_name 3 S.nd) dtgs_nil))) (de_call (C_after_step) (hr.mono (by decide)) B.tk (by rfl) (da_cons (de_dn (dn_dict (dp_cons kex_str (de_tup da_nil) (dp_cons kex_str (de_tup (da_cons (de_var 1) da_nil)) dp_nil)))) (da_cons (de_fld T.f_Run_meaning (de_var 0)) (da_cons (de_fld T.f_Run_secrets (de_var 0)) (da_cons (de_var 2) da_nil))))))
      (dss_one (ds_if (cm_notN (de_ix hu (de_var 3) de_int)).t (dss_one (ds_appR (de_fld T.f_Run_seen (de_var 0)) (de_ix hu (de_var 3) de_int) (pe_bm PySem.F.plainAttrs_list PySem.F.slot_list_append PySem.F.type_list_append mt_append (de_fld T.f_Run_seen (de_var 0)) (pa_cons (de_ix hu (de_var 3) de_int) pa_nil)))) dss_nil))))))
theorem ok_Run_do {C f : Addr} {fd : FuncData} (F : Fun K "do" "Run.do" s_Run_do f fd) (gf : mg "Run" = some (.ref C)) (cl : Cls K C) (M : Meth K C "do" f) (T : Txt K w mg) (C_after_step : Callee P w K mg base "after_step" 4 5 fn_after_step) :
    MCallee P w K mg base "Run" "do" 2 6 fn_Run_do :=
  ⟨C, f, fd, ["self", "row"], gf, cl, M, fk_Run_do F T C_after_step, F.binds (ps := ["self", "row"]) fun _ _ _ _ _ _ us hl => match us, hl with | [_, _], _ => rfl⟩
/-! ### Run.make -/
abbrev s_Run_make : Stmt := inClass (topS 39) 4
theorem sc_Run_make : FnScope ["self", "tree", "part"] ["self", "tree"] (defScope s_Run_make) := ⟨rfl, rfl, rfl, by decide +kernel, rfl, by decide +kernel, by decide +kernel⟩
noncomputable def b_Run_make_1 (r_Run_make : Fn) (r_Run_make_loop : Fn) : SF :=
  (sIf (eBin gEq (eBin gIx (eVar 2) (eK (.int 0))) (eK (.str (Str.ofString "loop")))) (sIf (eUn gNot (eMeth "Run" "make_loop" 2 r_Run_make_loop (eVar 0) (aCons (eVar 2) aNil))) (sRet (eK (.bl false))) sNop) (sIf (eUn gNot (eMeth "Run" "turn" 1 fn_Run_turn (eVar 0) aNil)) (sRet (eK (.bl false))) (sIf (eBin gEq (eBin gIx (eVar 2) (eK (.int 0))) (eK (.str (Str.ofString "do")))) (sDo (eMeth "Run" "do" 2 fn_Run_do (eVar 0) (aCons (eBin gIx (eVar 2) (eK (.int 1))) aNil))) (sIf (eUn gNot (eMeth "Run" "make" 2 r_Run_make (eVar 0) (aCons (eBin gIx (eVar 2) (eBin gAdd (eK (.int 3)) (eUn gInt (eUn gNot (eMeth "Run" "decide" 2 fn_Run_decide (eVar 0) (aCons (eVar 2) aNil)))))) aNil))) (sRet (eK (.bl false))) sNop))))
noncomputable def g_Run_make (r_Run_make : Fn) (r_Run_make_loop : Fn) : SF :=
  (sSeq (sFor (iSeq (eVar 1)) (bName 2) (b_Run_make_1 r_Run_make r_Run_make_loop))
    (sRet (eK (.bl true))))
noncomputable def fnr_Run_make (r_Run_make : Fn) (r_Run_make_loop : Fn) : Fn := fnOf 3 (g_Run_make r_Run_make r_Run_make_loop)
theorem fk_Run_make {f : Addr} {fd : FuncData} (F : Fun K "make" "Run.make" s_Run_make f fd) (T : Txt K w mg) {l : Nat} (hl : 6 ≤ l) (C_Run_turn : MCallee P w K mg base "Run" "turn" 1 1 fn_Run_turn) (C_Run_decide : MCallee P w K mg base "Run" "decide" 2 2 fn_Run_decide) (C_Run_do : MCallee P w K mg base "Run" "do" 2 6 fn_Run_do) {r_Run_make : Fn} (C_Run_make : MCallee P w K mg base "Run" "make" 2 l r_Run_make) {r_Run_make_loop : Fn} (C_Run_make_loop : MCallee P w K mg base "Run" "make_loop" 2 l r_Run_make_loop) :
    FnOk P w K mg base (CX P w) (l + 1) f fd ["self", "tree"] (spD K mg 2 (fnr_Run_make r_Run_make r_Run_make_loop)) :=
  fn_ok F sc_Run_make (fun c cdv A outer s H E B =>
    have S := sc_Run_make
    have hr : Room l _ := B.room
    have hu := hu_of B.room
    have hu1 := hu1_of B.room
    have hv := B.room.units
    (dss_cons (ds_for (passes_of rfl) rfl (di_seq (de_var 1)) (tg_name 2) (pg_name (i := 2) S.nd rfl (by first | exact Or.inl rfl | exact Or.inr rfl)) (dss_one (ds_if (cm_eq hv (de_ix hu (de_var 2) de_int) de_str).t (dss_one (ds_if (dt_not (dt_val (de_meth (C_Run_make_loop) (hr.mono (by omega)) B.tk (de_var 0) (da_cons (de_var 2) da_nil)))) (dss_one (ds_ret de_bl)) dss_nil)) (dss_one (ds_if (dt_not (dt_val (de_meth0 (C_Run_turn) (hr.mono (by omega)) B.tk (de_var 0)))) (dss_one (ds_ret de_bl)) (dss_one (ds_if (cm_eq hv (de_ix hu (de_var 2) de_int) de_str).t (dss_one (ds_do (de_meth (C_Run_do) (hr.mono (by omega)) B.tk (de_var 0) (da_cons (de_ix hu (de_var 2) de_int) da_nil)))) (dss_one (ds_if (dt_not (dt_val (de_meth (C_Run_make) (hr.mono (by omega)) B.tk (de_var 0) (da_cons (de_ix hu (de_var 2) (de_add de_int (de_int1 (by rfl) T.n_int (de_not (de_meth (C_Run_decide) (hr.mono (by omega)) B.tk (de_var 0) (da_cons (de_var 2) da_nil)))))) da_nil)))) (dss_one (ds_ret de_bl)) dss_nil)))))))))
      (dss_one (ds_ret de_bl))))
theorem ok_Run_make {C f : Addr} {fd : FuncData} (F : Fun K "make" "Run.make" s_Run_make f fd) (gf : mg "Run" = some (.ref C)) (cl : Cls K C) (M : Meth K C "make" f) (T : Txt K w mg) {l : Nat} (hl : 6 ≤ l) (C_Run_turn : MCallee P w K mg base "Run" "turn" 1 1 fn_Run_turn) (C_Run_decide : MCallee P w K mg base "Run" "decide" 2 2 fn_Run_decide) (C_Run_do : MCallee P w K mg base "Run" "do" 2 6 fn_Run_do) {r_Run_make : Fn} (C_Run_make : MCallee P w K mg base "Run" "make" 2 l r_Run_make) {r_Run_make_loop : Fn} (C_Run_make_loop : MCallee P w K mg base "Run" "make_loop" 2 l r_Run_make_loop) :
    MCallee P w K mg base "Run" "make" 2 (l + 1) (fnr_Run_make r_Run_make r_Run_make_loop) :=
  ⟨C, f, fd, ["self", "tree"], gf, cl, M, fk_Run_make F T hl C_Run_turn C_Run_decide C_Run_do C_Run_make C_Run_make_loop, F.binds (ps := ["self", "tree"]) fun _ _ _ _ _ _ us hl => match us, hl with | [_, _], _ => rfl⟩
noncomputable def rec_Run_make : Nat → Fn
  | 0 => fnStuck
  | n + 1 => (fnr_Run_make (rec_Run_make n) (fnr_Run_make_loop (rec_Run_make n)))
noncomputable def fn_Run_make : Fn := rec_Run_make 4
theorem okn_Run_make {C : Addr} (gf : mg "Run" = some (.ref C)) (cl : Cls K C) {f_Run_make_loop : Addr} {fd_Run_make_loop : FuncData} (F_Run_make_loop : Fun K "make_loop" "Run.make_loop" s_Run_make_loop f_Run_make_loop fd_Run_make_loop) (M_Run_make_loop : Meth K C "make_loop" f_Run_make_loop) {f_Run_make : Addr} {fd_Run_make : FuncData} (F_Run_make : Fun K "make" "Run.make" s_Run_make f_Run_make fd_Run_make) (M_Run_make : Meth K C "make" f_Run_make) (T : Txt K w mg) (C_Run_turn : MCallee P w K mg base "Run" "turn" 1 1 fn_Run_turn) (C_Run_decide : MCallee P w K mg base "Run" "decide" 2 2 fn_Run_decide) (C_Run_do : MCallee P w K mg base "Run" "do" 2 6 fn_Run_do) : ∀ n : Nat, MCallee P w K mg base "Run" "make" 2 (6 + 2 * n) (rec_Run_make n)
  | 0 => ⟨C, f_Run_make, fd_Run_make, ["self", "tree"], gf, cl, M_Run_make, fnok_stuck, F_Run_make.binds (ps := ["self", "tree"]) fun _ _ _ _ _ _ us hl => match us, hl with | [_, _], _ => rfl⟩
  | n + 1 => by
    have O_Run_make := okn_Run_make gf cl F_Run_make_loop M_Run_make_loop F_Run_make M_Run_make T C_Run_turn C_Run_decide C_Run_do n
    have O_Run_make_loop := ok_Run_make_loop (l := 6 + 2 * n + 0) F_Run_make_loop gf cl M_Run_make_loop T (by omega) C_Run_turn C_Run_decide (O_Run_make.mono (by omega))
    have N := ok_Run_make (l := 6 + 2 * n + 1) F_Run_make gf cl M_Run_make T (by omega) C_Run_turn C_Run_decide C_Run_do (O_Run_make.mono (by omega)) (O_Run_make_loop.mono (by omega))
    exact N.mono (by omega)
theorem ok_g_Run_make {C : Addr} (gf : mg "Run" = some (.ref C)) (cl : Cls K C) {f_Run_make_loop : Addr} {fd_Run_make_loop : FuncData} (F_Run_make_loop : Fun K "make_loop" "Run.make_loop" s_Run_make_loop f_Run_make_loop fd_Run_make_loop) (M_Run_make_loop : Meth K C "make_loop" f_Run_make_loop) {f_Run_make : Addr} {fd_Run_make : FuncData} (F_Run_make : Fun K "make" "Run.make" s_Run_make f_Run_make fd_Run_make) (M_Run_make : Meth K C "make" f_Run_make) (T : Txt K w mg) (C_Run_turn : MCallee P w K mg base "Run" "turn" 1 1 fn_Run_turn) (C_Run_decide : MCallee P w K mg base "Run" "decide" 2 2 fn_Run_decide) (C_Run_do : MCallee P w K mg base "Run" "do" 2 6 fn_Run_do) : MCallee P w K mg base "Run" "make" 2 14 fn_Run_make := okn_Run_make gf cl F_Run_make_loop M_Run_make_loop F_Run_make M_Run_make T C_Run_turn C_Run_decide C_Run_do 4
/-! ### run_tree -/
abbrev s_run_tree : Stmt := topS 40
theorem sc_run_tree : FnScope ["tree", "secret", "meaning", "secrets", "turns", "run"] ["tree", "secret", "meaning", "secrets", "turns"] (defScope s_run_tree) := ⟨rfl, rfl, rfl, by decide +kernel, rfl, by decide +kernel, by decide +kernel⟩
noncomputable def g_run_tree : SF :=
  (sSeq (sSet 5 (eMake "Run" 5 fn_Run___init (aCons (eVar 1) (aCons (eVar 2) (aCons (eVar 3) (aCons (eVar 4) aNil))))))
    (sSeq (sIf (eUn gNot (eMeth "Run" "make" 2 fn_Run_make (eVar 5) (aCons (eVar 0) aNil))) (sRet (eK .non)) sNop)
    (sRet (eTup (aCons (eBin gIx (eUn (gFld "Run" "state") (eVar 5)) (eK (.str (Str.ofString "registers")))) (aCons (eBin gIx (eUn (gFld "Run" "state") (eVar 5)) (eK (.str (Str.ofString "slots")))) (aCons (eBin gIx (eUn (gFld "Run" "state") (eVar 5)) (eK (.str (Str.ofString "counts")))) (aCons (eUn gList (eUn (gFld "Run" "seen") (eVar 5))) aNil))))))))
noncomputable def fn_run_tree : Fn := fnOf 6 g_run_tree
theorem fk_run_tree {f : Addr} {fd : FuncData} (F : Fun K "run_tree" "run_tree" s_run_tree f fd) (T : Txt K w mg) (C_Run___init : MkCallee P w K mg base "Run" 5 4 fn_Run___init) (C_Run_make : MCallee P w K mg base "Run" "make" 2 14 fn_Run_make) :
    FnOk P w K mg base (CX P w) 15 f fd ["tree", "secret", "meaning", "secrets", "turns"] (spD K mg 5 fn_run_tree) :=
  fn_ok F sc_run_tree (fun c cdv A outer s H E B =>
    have S := sc_run_tree
    have hr : Room 14 _ := B.room
    have hu := hu_of B.room
    have hu1 := hu1_of B.room
    have hv := B.room.units
    (dss_cons (ds_set 5 S.nd (de_make (C_Run___init) (hr.mono (by decide)) B.tk (by rfl) (da_cons (de_var 1) (da_cons (de_var 2) (da_cons (de_var 3) (da_cons (de_var 4) da_nil))))))
      (dss_cons (ds_if (dt_not (dt_val (de_meth (C_Run_make) (hr.mono (by decide)) B.tk (de_var 5) (da_cons (de_var 0) da_nil)))) (dss_one (ds_ret de_non)) dss_nil)
      (dss_one (ds_ret (de_tup (da_cons (de_ix hu (de_fld T.f_Run_state (de_var 5)) de_str) (da_cons (de_ix hu (de_fld T.f_Run_state (de_var 5)) de_str) (da_cons (de_ix hu (de_fld T.f_Run_state (de_var 5)) de_str) (da_cons (de_dn (dn_list (by rfl) T.n_list (de_fld T.f_Run_seen (de_var 5)))) da_nil))))))))))
theorem ok_run_tree {f : Addr} {fd : FuncData} (F : Fun K "run_tree" "run_tree" s_run_tree f fd) (gf : mg "run_tree" = some (.ref f)) (T : Txt K w mg) (C_Run___init : MkCallee P w K mg base "Run" 5 4 fn_Run___init) (C_Run_make : MCallee P w K mg base "Run" "make" 2 14 fn_Run_make) :
    Callee P w K mg base "run_tree" 5 15 fn_run_tree :=
  ⟨f, fd, ["tree", "secret", "meaning", "secrets", "turns"], fk_run_tree F T C_Run___init C_Run_make, gf, F.kp, F.binds (ps := ["tree", "secret", "meaning", "secrets", "turns"]) fun _ _ _ _ _ _ us hl => match us, hl with | [_, _, _, _, _], _ => rfl⟩
/-! ### is_part -/
abbrev s_is_part : Stmt := topS 34
theorem sc_is_part : FnScope ["value", "trees", "tree"] ["value"] (defScope s_is_part) := ⟨rfl, rfl, rfl, by decide +kernel, rfl, by decide +kernel, by decide +kernel⟩
noncomputable def g_is_part (r_is_tree : Fn) : SF :=
  (sSeq (sIf (eOr (eUn gNot (eUn (gIsi "tuple") (eVar 0))) (eOr (eBin gEq (eUn gLen (eVar 0)) (eK (.int 0))) (eUn gNot (eUn (gIsi "str") (eBin gIx (eVar 0) (eK (.int 0))))))) (sRet (eK (.bl false))) sNop)
    (sSeq (sIf (eBin gEq (eBin gIx (eVar 0) (eK (.int 0))) (eK (.str (Str.ofString "do")))) (sRet (eAnd (eBin gEq (eUn gLen (eVar 0)) (eK (.int 2))) (eAnd (eCall 2 fn_is_row (aCons (eBin gIx (eVar 0) (eK (.int 1))) (aCons (eK (.int 1)) aNil))) (eUn (gInC false [.str (Str.ofString "ask"), .str (Str.ofString "mix"), .str (Str.ofString "load"), .str (Str.ofString "mask"), .str (Str.ofString "put"), .str (Str.ofString "get"), .str (Str.ofString "fence")]) (eBin gIx (eBin gIx (eVar 0) (eK (.int 1))) (eK (.int 0))))))) sNop)
    (sSeq (sIf (eAnd (eBin gEq (eBin gIx (eVar 0) (eK (.int 0))) (eK (.str (Str.ofString "if")))) (eBin gEq (eUn gLen (eVar 0)) (eK (.int 5)))) (sSet 1 (eSl (eVar 0) (some (eK (.int 3))) none)) (sIf (eAnd (eBin gEq (eBin gIx (eVar 0) (eK (.int 0))) (eK (.str (Str.ofString "loop")))) (eBin gEq (eUn gLen (eVar 0)) (eK (.int 4)))) (sSet 1 (eSl (eVar 0) (some (eK (.int 3))) none)) (sRet (eK (.bl false)))))
    (sSeq (sIf (eOr (eUn gNot (eCall 2 fn_is_number (aCons (eBin gIx (eVar 0) (eK (.int 1))) (aCons (eK (.int 4)) aNil)))) (eUn gNot (eCall 2 fn_is_number (aCons (eBin gIx (eVar 0) (eK (.int 2))) (aCons (eK (.int 2)) aNil))))) (sRet (eK (.bl false))) sNop)
    (sRet (eUn gAll (eComp [2] (iSeq (eVar 1)) (bName 2) eYes (eCall 1 r_is_tree (aCons (eVar 2) aNil)))))))))
noncomputable def fnr_is_part (r_is_tree : Fn) : Fn := fnOf 3 (g_is_part r_is_tree)
theorem fk_is_part {f : Addr} {fd : FuncData} (F : Fun K "is_part" "is_part" s_is_part f fd) (T : Txt K w mg) {l : Nat} (hl : 2 ≤ l) (C_is_number : Callee P w K mg base "is_number" 2 1 fn_is_number) (C_is_row : Callee P w K mg base "is_row" 2 2 fn_is_row) {r_is_tree : Fn} (C_is_tree : Callee P w K mg base "is_tree" 1 l r_is_tree) :
    FnOk P w K mg base (CX P w) (l + 1) f fd ["value"] (spD K mg 1 (fnr_is_part r_is_tree)) :=
  fn_ok F sc_is_part (fun c cdv A outer s H E B =>
    have S := sc_is_part
    have hr : Room l _ := B.room
    have hu := hu_of B.room
    have hu1 := hu1_of B.room
    have hv := B.room.units
    (dss_cons (ds_if (dw_or (dt_not (dt_val (de_isi kit_tuple (by rfl) T.n_isinstance (by rfl) T.n_tuple (by decide +kernel) (de_var 0)))) (dw_or (cm_eq hv (de_len (by rfl) T.n_len (de_var 0)) de_int).t (dw_or1 (dt_not (dt_val (de_isi kit_str (by rfl) T.n_isinstance (by rfl) T.n_str (by decide +kernel) (de_ix hu (de_var 0) de_int))))))).t (dss_one (ds_ret de_bl)) dss_nil)
      (dss_cons (ds_if (cm_eq hv (de_ix hu (de_var 0) de_int) de_str).t (dss_one (ds_ret (de_and (cm_eq hv (de_len (by rfl) T.n_len (de_var 0)) de_int).e (de_and (de_call (C_is_row) (hr.mono (by omega)) B.tk (by rfl) (da_cons (de_ix hu (de_var 0) de_int) (da_cons de_int da_nil))) (de_one (cm_inC T.k_DO_KINDS (by rfl) (de_ix hu (de_ix hu (de_var 0) de_int) de_int)).e))))) dss_nil)
      (dss_cons (ds_if (dw_and (cm_eq hv (de_ix hu (de_var 0) de_int) de_str).t (dw_and1 (cm_eq hv (de_len (by rfl) T.n_len (de_var 0)) de_int).t)).t (dss_one (ds_set 1 S.nd (de_sl (de_var 0) (dp_some de_int) dp_none))) (dss_one (ds_if (dw_and (cm_eq hv (de_ix hu (de_var 0) de_int) de_str).t (dw_and1 (cm_eq hv (de_len (by rfl) T.n_len (de_var 0)) de_int).t)).t (dss_one (ds_set 1 S.nd (de_sl (de_var 0) (dp_some de_int) dp_none))) (dss_one (ds_ret de_bl)))))
      (dss_cons (ds_if (dw_or (dt_not (dt_val (de_call (C_is_number) (hr.mono (by omega)) B.tk (by rfl) (da_cons (de_ix hu (de_var 0) de_int) (da_cons (de_glob T.c_REGISTERS (by rfl)) da_nil))))) (dw_or1 (dt_not (dt_val (de_call (C_is_number) (hr.mono (by omega)) B.tk (by rfl) (da_cons (de_ix hu (de_var 0) de_int) (da_cons (de_glob T.c_ARRAYS (by rfl)) da_nil))))))).t (dss_one (ds_ret de_bl)) dss_nil)
      (dss_one (ds_ret (de_all rfl (by rfl) T.n_all (de_dn (dn_comp (own := [("tree", 2)]) rfl S.nd (di_seq (de_var 1)) (blkOk_by (N := ["value", "trees", "tree"]) (sc := defScope s_is_part) (by decide +kernel)) (tg_name 2) (fun _ _ _ _ _ => (pg_name (i := 2) S.nd rfl (by first | exact Or.inl rfl | exact Or.inr rfl))) (fun _ _ _ _ _ => dts_nil) (fun _ _ _ _ _ => (de_call (C_is_tree) (hr.mono (by omega)) takes0 (by rfl) (da_cons (de_var 2) da_nil)))))))))))))
theorem ok_is_part {f : Addr} {fd : FuncData} (F : Fun K "is_part" "is_part" s_is_part f fd) (gf : mg "is_part" = some (.ref f)) (T : Txt K w mg) {l : Nat} (hl : 2 ≤ l) (C_is_number : Callee P w K mg base "is_number" 2 1 fn_is_number) (C_is_row : Callee P w K mg base "is_row" 2 2 fn_is_row) {r_is_tree : Fn} (C_is_tree : Callee P w K mg base "is_tree" 1 l r_is_tree) :
    Callee P w K mg base "is_part" 1 (l + 1) (fnr_is_part r_is_tree) :=
  ⟨f, fd, ["value"], fk_is_part F T hl C_is_number C_is_row C_is_tree, gf, F.kp, F.binds (ps := ["value"]) fun _ _ _ _ _ _ us hl => match us, hl with | [_], _ => rfl⟩
/-! ### is_tree -/
abbrev s_is_tree : Stmt := topS 35
theorem sc_is_tree : FnScope ["value", "part"] ["value"] (defScope s_is_tree) := ⟨rfl, rfl, rfl, by decide +kernel, rfl, by decide +kernel, by decide +kernel⟩
noncomputable def g_is_tree (r_is_part : Fn) : SF :=
  (sRet (eAnd (eUn (gIsi "tuple") (eVar 0)) (eUn gAll (eComp [1] (iSeq (eVar 0)) (bName 1) eYes (eCall 1 r_is_part (aCons (eVar 1) aNil))))))
noncomputable def fnr_is_tree (r_is_part : Fn) : Fn := fnOf 2 (g_is_tree r_is_part)
theorem fk_is_tree {f : Addr} {fd : FuncData} (F : Fun K "is_tree" "is_tree" s_is_tree f fd) (T : Txt K w mg) {l : Nat} (hl : 0 ≤ l) {r_is_part : Fn} (C_is_part : Callee P w K mg base "is_part" 1 l r_is_part) :
    FnOk P w K mg base (CX P w) (l + 1) f fd ["value"] (spD K mg 1 (fnr_is_tree r_is_part)) :=
  fn_ok F sc_is_tree (fun c cdv A outer s H E B =>
    have S := sc_is_tree
    have hr : Room l _ := B.room
    have hu := hu_of B.room
    have hu1 := hu1_of B.room
    have hv := B.room.units
    (dss_one (ds_ret (de_and (de_isi kit_tuple (by rfl) T.n_isinstance (by rfl) T.n_tuple (by decide +kernel) (de_var 0)) (de_one (de_all rfl (by rfl) T.n_all (de_dn (dn_comp (own := [("part", 1)]) rfl S.nd (di_seq (de_var 0)) (blkOk_by (N := ["value", "part"]) (sc := defScope s_is_tree) (by decide +kernel)) (tg_name 1) (fun _ _ _ _ _ => (pg_name (i := 1) S.nd rfl (by first | exact Or.inl rfl | exact Or.inr rfl))) (fun _ _ _ _ _ => dts_nil) (fun _ _ _ _ _ => (de_call (C_is_part) (hr.mono (by omega)) takes0 (by rfl) (da_cons (de_var 1) da_nil)))))))))))
theorem ok_is_tree {f : Addr} {fd : FuncData} (F : Fun K "is_tree" "is_tree" s_is_tree f fd) (gf : mg "is_tree" = some (.ref f)) (T : Txt K w mg) {l : Nat} (hl : 0 ≤ l) {r_is_part : Fn} (C_is_part : Callee P w K mg base "is_part" 1 l r_is_part) :
    Callee P w K mg base "is_tree" 1 (l + 1) (fnr_is_tree r_is_part) :=
  ⟨f, fd, ["value"], fk_is_tree F T hl C_is_part, gf, F.kp, F.binds (ps := ["value"]) fun _ _ _ _ _ _ us hl => match us, hl with | [_], _ => rfl⟩
noncomputable def rec_is_tree : Nat → Fn
  | 0 => fnStuck
  | n + 1 => (fnr_is_tree (fnr_is_part (rec_is_tree n)))
noncomputable def fn_is_tree : Fn := rec_is_tree 4
theorem okn_is_tree {f_is_part : Addr} {fd_is_part : FuncData} (F_is_part : Fun K "is_part" "is_part" s_is_part f_is_part fd_is_part) (gf_is_part : mg "is_part" = some (.ref f_is_part)) {f_is_tree : Addr} {fd_is_tree : FuncData} (F_is_tree : Fun K "is_tree" "is_tree" s_is_tree f_is_tree fd_is_tree) (gf_is_tree : mg "is_tree" = some (.ref f_is_tree)) (T : Txt K w mg) (C_is_number : Callee P w K mg base "is_number" 2 1 fn_is_number) (C_is_row : Callee P w K mg base "is_row" 2 2 fn_is_row) : ∀ n : Nat, Callee P w K mg base "is_tree" 1 (2 + 2 * n) (rec_is_tree n)
  | 0 => ⟨f_is_tree, fd_is_tree, ["value"], fnok_stuck, gf_is_tree, F_is_tree.kp, F_is_tree.binds (ps := ["value"]) fun _ _ _ _ _ _ us hl => match us, hl with | [_], _ => rfl⟩
  | n + 1 => by
    have O_is_tree := okn_is_tree F_is_part gf_is_part F_is_tree gf_is_tree T C_is_number C_is_row n
    have O_is_part := ok_is_part (l := 2 + 2 * n + 0) F_is_part gf_is_part T (by omega) C_is_number C_is_row (O_is_tree.mono (by omega))
    have N := ok_is_tree (l := 2 + 2 * n + 1) F_is_tree gf_is_tree T (by omega) (O_is_part.mono (by omega))
    exact N.mono (by omega)
theorem ok_g_is_tree {f_is_part : Addr} {fd_is_part : FuncData} (F_is_part : Fun K "is_part" "is_part" s_is_part f_is_part fd_is_part) (gf_is_part : mg "is_part" = some (.ref f_is_part)) {f_is_tree : Addr} {fd_is_tree : FuncData} (F_is_tree : Fun K "is_tree" "is_tree" s_is_tree f_is_tree fd_is_tree) (gf_is_tree : mg "is_tree" = some (.ref f_is_tree)) (T : Txt K w mg) (C_is_number : Callee P w K mg base "is_number" 2 1 fn_is_number) (C_is_row : Callee P w K mg base "is_row" 2 2 fn_is_row) : Callee P w K mg base "is_tree" 1 10 fn_is_tree := okn_is_tree F_is_part gf_is_part F_is_tree gf_is_tree T C_is_number C_is_row 4
/-! ### _law_lowered -/
abbrev s_law_lowered : Stmt := topS 50
theorem sc_law_lowered : FnScope ["_law_tree_here", "_law_first", "_law_rows", "_law_part", "_law_place", "_law_body", "_law_then", "_law_start", "_law_other"] ["_law_tree_here", "_law_first"] (defScope s_law_lowered) := ⟨rfl, rfl, rfl, by decide +kernel, rfl, by decide +kernel, by decide +kernel⟩
noncomputable def b_law_lowered_1 (r_law_lowered : Fn) : SF :=
  (sSeq (sSet 4 (eBin gAdd (eVar 1) (eUn gLen (eVar 2))))
    (sIf (eBin gEq (eBin gIx (eVar 3) (eK (.int 0))) (eK (.str (Str.ofString "do")))) (sApp 2 (eBin gIx (eVar 3) (eK (.int 1)))) (sIf (eBin gEq (eBin gIx (eVar 3) (eK (.int 0))) (eK (.str (Str.ofString "loop")))) (sSeq (sSet 5 (eCall 2 r_law_lowered (aCons (eBin gIx (eVar 3) (eK (.int 3))) (aCons (eBin gAdd (eVar 4) (eK (.int 1))) aNil))))
    (sOwn 2 (eBin gAddN (eBin gAdd (eBin gAdd (eVar 2) (eLst (aCons (eTup (aCons (eK (.str (Str.ofString "test"))) (aCons (eBin gIx (eVar 3) (eK (.int 1))) (aCons (eBin gIx (eVar 3) (eK (.int 2))) (aCons (eBin gAdd (eBin gAdd (eVar 4) (eUn gLen (eVar 5))) (eK (.int 2))) aNil))))) aNil))) (eVar 5)) (eLst (aCons (eTup (aCons (eK (.str (Str.ofString "jump"))) (aCons (eVar 4) aNil))) aNil))))) (sSeq (sSet 6 (eCall 2 r_law_lowered (aCons (eBin gIx (eVar 3) (eK (.int 3))) (aCons (eBin gAdd (eVar 4) (eK (.int 1))) aNil))))
    (sSeq (sSet 7 (eBin gAdd (eBin gAdd (eVar 4) (eUn gLen (eVar 6))) (eK (.int 2))))
    (sSeq (sSet 8 (eCall 2 r_law_lowered (aCons (eBin gIx (eVar 3) (eK (.int 4))) (aCons (eVar 7) aNil))))
    (sOwn 2 (eBin gAddN (eBin gAdd (eBin gAdd (eBin gAdd (eVar 2) (eLst (aCons (eTup (aCons (eK (.str (Str.ofString "test"))) (aCons (eBin gIx (eVar 3) (eK (.int 1))) (aCons (eBin gIx (eVar 3) (eK (.int 2))) (aCons (eVar 7) aNil))))) aNil))) (eVar 6)) (eLst (aCons (eTup (aCons (eK (.str (Str.ofString "jump"))) (aCons (eBin gAdd (eVar 7) (eUn gLen (eVar 8))) aNil))) aNil))) (eVar 8)))))))))
noncomputable def g_law_lowered (r_law_lowered : Fn) : SF :=
  (sSeq (sOwn 2 (eLst aNil))
    (sSeq (sFor (iSeq (eVar 0)) (bName 3) (b_law_lowered_1 r_law_lowered))
    (sRet (eVar 2))))
noncomputable def fnr_law_lowered (r_law_lowered : Fn) : Fn := fnOf 9 (g_law_lowered r_law_lowered)
theorem fk_law_lowered {f : Addr} {fd : FuncData} (F : Fun K "_law_lowered" "_law_lowered" s_law_lowered f fd) (T : Txt K w mg) {l : Nat} (hl : 0 ≤ l) {r_law_lowered : Fn} (C_law_lowered : Callee P w K mg base "_law_lowered" 2 l r_law_lowered) :
    FnOk P w K mg base (CX P w) (l + 1) f fd ["_law_tree_here", "_law_first"] (spD K mg 2 (fnr_law_lowered r_law_lowered)) :=
  fn_ok F sc_law_lowered (fun c cdv A outer s H E B =>
    have S := sc_law_lowered
    have hr : Room l _ := B.room
    have hu := hu_of B.room
    have hu1 := hu1_of B.room
    have hv := B.room.units
    (dss_cons (ds_own 2 S.nd (dn_lst da_nil))
      (dss_cons (ds_for (passes_of rfl) rfl (di_seq (de_var 0)) (tg_name 3) (pg_name (i := 3) S.nd rfl (by first | exact Or.inl rfl | exact Or.inr rfl)) (dss_cons (ds_set 4 S.nd (de_add (de_var 1) (de_len (by rfl) T.n_len (de_var 2))))
      (dss_one (ds_if (cm_eq hv (de_ix hu (de_var 3) de_int) de_str).t (dss_one (ds_app 2 (de_ix hu (de_var 3) de_int) (hx := pe_bm PySem.F.plainAttrs_list PySem.F.slot_list_append PySem.F.type_list_append mt_append (pe_var (i := 2) rfl (by first | exact Or.inl rfl | exact Or.inr (Or.inl rfl))) (pa_cons (de_ix hu (de_var 3) de_int) pa_nil)))) (dss_one (ds_if (cm_eq hv (de_ix hu (de_var 3) de_int) de_str).t (dss_cons (ds_set 5 S.nd (de_call (C_law_lowered) (hr.mono (by omega)) B.tk (by rfl) (da_cons (de_ix hu (de_var 3) de_int) (da_cons (de_add (de_var 4) de_int) da_nil))))
      (dss_one (ds_own 2 S.nd (dn_add (de_add (de_add (de_var 2) (de_dn (dn_lst (da_cons (de_tup (da_cons de_str (da_cons (de_ix hu (de_var 3) de_int) (da_cons (de_ix hu (de_var 3) de_int) (da_cons (de_add (de_add (de_var 4) (de_len (by rfl) T.n_len (de_var 5))) de_int) da_nil))))) da_nil)))) (de_var 5)) (de_dn (dn_lst (da_cons (de_tup (da_cons de_str (da_cons (de_var 4) da_nil))) da_nil))))))) (dss_cons (ds_set 6 S.nd (de_call (C_law_lowered) (hr.mono (by omega)) B.tk (by rfl) (da_cons (de_ix hu (de_var 3) de_int) (da_cons (de_add (de_var 4) de_int) da_nil))))
      (dss_cons (ds_set 7 S.nd (de_add (de_add (de_var 4) (de_len (by rfl) T.n_len (de_var 6))) de_int))
      (dss_cons (ds_set 8 S.nd (de_call (C_law_lowered) (hr.mono (by omega)) B.tk (by rfl) (da_cons (de_ix hu (de_var 3) de_int) (da_cons (de_var 7) da_nil))))
      (dss_one (ds_own 2 S.nd (dn_add (de_add (de_add (de_add (de_var 2) (de_dn (dn_lst (da_cons (de_tup (da_cons de_str (da_cons (de_ix hu (de_var 3) de_int) (da_cons (de_ix hu (de_var 3) de_int) (da_cons (de_var 7) da_nil))))) da_nil)))) (de_var 6)) (de_dn (dn_lst (da_cons (de_tup (da_cons de_str (da_cons (de_add (de_var 7) (de_len (by rfl) T.n_len (de_var 8))) da_nil))) da_nil)))) (de_var 8)))))))))))))
      (dss_one (ds_ret (de_var 2))))))
theorem ok_law_lowered {f : Addr} {fd : FuncData} (F : Fun K "_law_lowered" "_law_lowered" s_law_lowered f fd) (gf : mg "_law_lowered" = some (.ref f)) (T : Txt K w mg) {l : Nat} (hl : 0 ≤ l) {r_law_lowered : Fn} (C_law_lowered : Callee P w K mg base "_law_lowered" 2 l r_law_lowered) :
    Callee P w K mg base "_law_lowered" 2 (l + 1) (fnr_law_lowered r_law_lowered) :=
  ⟨f, fd, ["_law_tree_here", "_law_first"], fk_law_lowered F T hl C_law_lowered, gf, F.kp, F.binds (ps := ["_law_tree_here", "_law_first"]) fun _ _ _ _ _ _ us hl => match us, hl with | [_, _], _ => rfl⟩
noncomputable def rec_law_lowered : Nat → Fn
  | 0 => fnStuck
  | n + 1 => (fnr_law_lowered (rec_law_lowered n))
noncomputable def fn_law_lowered : Fn := rec_law_lowered 4
theorem okn_law_lowered {f_law_lowered : Addr} {fd_law_lowered : FuncData} (F_law_lowered : Fun K "_law_lowered" "_law_lowered" s_law_lowered f_law_lowered fd_law_lowered) (gf_law_lowered : mg "_law_lowered" = some (.ref f_law_lowered)) (T : Txt K w mg)  : ∀ n : Nat, Callee P w K mg base "_law_lowered" 2 (0 + 1 * n) (rec_law_lowered n)
  | 0 => ⟨f_law_lowered, fd_law_lowered, ["_law_tree_here", "_law_first"], fnok_stuck, gf_law_lowered, F_law_lowered.kp, F_law_lowered.binds (ps := ["_law_tree_here", "_law_first"]) fun _ _ _ _ _ _ us hl => match us, hl with | [_, _], _ => rfl⟩
  | n + 1 => by
    have O_law_lowered := okn_law_lowered F_law_lowered gf_law_lowered T  n
    have N := ok_law_lowered (l := 0 + 1 * n + 0) F_law_lowered gf_law_lowered T (by omega) (O_law_lowered.mono (by omega))
    exact N.mono (by omega)
theorem ok_g_law_lowered {f_law_lowered : Addr} {fd_law_lowered : FuncData} (F_law_lowered : Fun K "_law_lowered" "_law_lowered" s_law_lowered f_law_lowered fd_law_lowered) (gf_law_lowered : mg "_law_lowered" = some (.ref f_law_lowered)) (T : Txt K w mg)  : Callee P w K mg base "_law_lowered" 2 4 fn_law_lowered := okn_law_lowered F_law_lowered gf_law_lowered T  4
/-! ### _law_bent -/
abbrev s_law_bent : Stmt := topS 52
theorem sc_law_bent : FnScope ["_law_tree_here", "_law_number", "_law_bad"] ["_law_tree_here", "_law_number"] (defScope s_law_bent) := ⟨rfl, rfl, rfl, by decide +kernel, rfl, by decide +kernel, by decide +kernel⟩
noncomputable def g_law_bent : SF :=
  (sSeq (sSet 2 (eLst (aCons (eTup (aCons (eK (.str (Str.ofString "do"))) (aCons (eTup (aCons (eK (.str (Str.ofString "test"))) (aCons (eK (.int 0)) (aCons (eK (.int 0)) (aCons (eK (.int 0)) aNil))))) aNil))) (aCons (eTup (aCons (eK (.str (Str.ofString "do"))) (aCons (eTup (aCons (eK (.str (Str.ofString "jump"))) (aCons (eK (.int 0)) aNil))) aNil))) (aCons (eTup (aCons (eK (.str (Str.ofString "do"))) (aCons (eTup (aCons (eK (.str (Str.ofString "ask"))) (aCons (eK (.int 4)) aNil))) aNil))) (aCons (eTup (aCons (eK (.str (Str.ofString "if"))) (aCons (eK (.int 0)) (aCons (eK (.int 0)) (aCons (eTup aNil) aNil))))) (aCons (eTup (aCons (eK (.str (Str.ofString "loop"))) (aCons (eK (.int 4)) (aCons (eK (.int 0)) (aCons (eTup aNil) aNil))))) (aCons (eTup (aCons (eK (.str (Str.ofString "loop"))) (aCons (eK (.int 0)) (aCons (eK (.int 2)) (aCons (eTup aNil) aNil))))) aNil))))))))
    (sSeq (sSet 2 (eBin gAdd (eVar 2) (eLst (aCons (eTup (aCons (eK (.str (Str.ofString "loop"))) (aCons (eK (.int 0)) (aCons (eK (.int 0)) (aCons (eLst aNil) aNil))))) (aCons (eTup (aCons (eK (.str (Str.ofString "do"))) aNil)) (aCons (eTup (aCons (eK (.str (Str.ofString "end"))) aNil)) (aCons (eTup aNil) (aCons (eK (.str (Str.ofString "do"))) (aCons (eTup (aCons (eK (.str (Str.ofString "if"))) (aCons (eK (.int 0)) (aCons (eK (.int 0)) (aCons (eTup aNil) (aCons (eTup (aCons (eK (.str (Str.ofString "do"))) (aCons (eTup (aCons (eK (.str (Str.ofString "fence"))) aNil)) aNil))) aNil)))))) (aCons (eTup (aCons (eK (.str (Str.ofString "do"))) (aCons (eLst (aCons (eK (.str (Str.ofString "fence"))) aNil)) aNil))) (aCons (eK (.int 5)) aNil)))))))))))
    (sRet (eBin gAdd (eVar 0) (eTup (aCons (eBin gIx (eVar 2) (eBin (gI kMod) (eVar 1) (eK (.int 14)))) aNil))))))
noncomputable def fn_law_bent : Fn := fnOf 3 g_law_bent
theorem fk_law_bent {f : Addr} {fd : FuncData} (F : Fun K "_law_bent" "_law_bent" s_law_bent f fd) (T : Txt K w mg)  :
    FnOk P w K mg base (CX P w) 1 f fd ["_law_tree_here", "_law_number"] (spD K mg 2 fn_law_bent) :=
  fn_ok F sc_law_bent (fun c cdv A outer s H E B =>
    have S := sc_law_bent
    have hr : Room 0 _ := B.room
    have hu := hu_of B.room
    have hu1 := hu1_of B.room
    have hv := B.room.units
    (dss_cons (ds_set 2 S.nd (de_dn (dn_lst (da_cons (de_tup (da_cons de_str (da_cons (de_tup (da_cons de_str (da_cons de_int (da_cons de_int (da_cons de_int da_nil))))) da_nil))) (da_cons (de_tup (da_cons de_str (da_cons (de_tup (da_cons de_str (da_cons de_int da_nil))) da_nil))) (da_cons (de_tup (da_cons de_str (da_cons (de_tup (da_cons de_str (da_cons de_int da_nil))) da_nil))) (da_cons (de_tup (da_cons de_str (da_cons de_int (da_cons de_int (da_cons (de_tup da_nil) da_nil))))) (da_cons (de_tup (da_cons de_str (da_cons de_int (da_cons de_int (da_cons (de_tup da_nil) da_nil))))) (da_cons (de_tup (da_cons de_str (da_cons de_int (da_cons de_int (da_cons (de_tup da_nil) da_nil))))) da_nil)))))))))
      (dss_cons (ds_set 2 S.nd (de_add (de_var 2) (de_dn (dn_lst (da_cons (de_tup (da_cons de_str (da_cons de_int (da_cons de_int (da_cons (de_dn (dn_lst da_nil)) da_nil))))) (da_cons (de_tup (da_cons de_str da_nil)) (da_cons (de_tup (da_cons de_str da_nil)) (da_cons (de_tup da_nil) (da_cons de_str (da_cons (de_tup (da_cons de_str (da_cons de_int (da_cons de_int (da_cons (de_tup da_nil) (da_cons (de_tup (da_cons de_str (da_cons (de_tup (da_cons de_str da_nil)) da_nil))) da_nil)))))) (da_cons (de_tup (da_cons de_str (da_cons (de_dn (dn_lst (da_cons de_str da_nil))) da_nil))) (da_cons de_int da_nil))))))))))))
      (dss_one (ds_ret (de_add (de_var 0) (de_tup (da_cons (de_ix hu (de_var 2) (de_mod (de_var 1) de_int)) da_nil))))))))
theorem ok_law_bent {f : Addr} {fd : FuncData} (F : Fun K "_law_bent" "_law_bent" s_law_bent f fd) (gf : mg "_law_bent" = some (.ref f)) (T : Txt K w mg)  :
    Callee P w K mg base "_law_bent" 2 1 fn_law_bent :=
  ⟨f, fd, ["_law_tree_here", "_law_number"], fk_law_bent F T , gf, F.kp, F.binds (ps := ["_law_tree_here", "_law_number"]) fun _ _ _ _ _ _ us hl => match us, hl with | [_, _], _ => rfl⟩
/-! ### law -/
abbrev s_law : Stmt := topS 53
theorem sc_law : FnScope ["_law_script", "_law_tape_here", "_law_tree_here", "_law_meaning_here", "_law_secrets_here", "_law_secret", "_law_rows", "_law_program_here", "_law_told_here", "_law_state", "_law_view", "_law_seen", "_law_r", "_law_row_here"] ["_law_script"] (defScope s_law) := ⟨rfl, rfl, rfl, by decide +kernel, rfl, by decide +kernel, by decide +kernel⟩
noncomputable def g_law : SF :=
  (sSeq (sSet 1 (eCall 1 fn_law_tape (aCons (eVar 0) aNil)))
    (sSeq (sSet 2 (eCall 3 fn_law_tree (aCons (eVar 1) (aCons (eK (.int 4)) (aCons (eK (.int 0)) aNil)))))
    (sSeq (sSet 3 (eCall 2 fn_law_meaning (aCons (eVar 1) (aCons (eK (.int 37)) aNil))))
    (sSeq (sSet 4 (eCall 2 fn_law_secrets (aCons (eVar 1) (aCons (eK (.int 51)) aNil))))
    (sSeq (sSet 5 (eUn gTuple (eComp [12] (iRange1 (eK (.int 4))) (bName 12) (eBin gEq (eBin (gI kMod) (eBin (gI kDiv) (eCall 2 fn_law_at (aCons (eVar 1) (aCons (eK (.int 1)) aNil))) (eBin gAdd (eVar 12) (eK (.int 1)))) (eK (.int 3))) (eK (.int 0))) (eVar 12))))
    (sSeq (sIf (eOr (eBin gNotB (eCall 1 fn_is_tree (aCons (eVar 2) aNil)) (eK (.bl true))) (eOr (eBin gNotB (eCall 1 fn_is_tree (aCons (eCall 2 fn_law_bent (aCons (eVar 2) (aCons (eCall 2 fn_law_at (aCons (eVar 1) (aCons (eK (.int 2)) aNil))) aNil))) aNil)) (eK (.bl false))) (eBin gNotB (eCall 1 fn_is_tree (aCons (eUn gList (eVar 2)) aNil)) (eK (.bl false))))) (sRet (eK (.bl false))) sNop)
    (sSeq (sSet 6 (eUn gTuple (eBin gAdd (eCall 2 fn_law_lowered (aCons (eVar 2) (aCons (eK (.int 0)) aNil))) (eLst (aCons (eTup (aCons (eK (.str (Str.ofString "end"))) aNil)) aNil)))))
    (sSeq (sSet 7 (eCall 2 fn_law_told (aCons (eVar 2) (aCons (eVar 5) aNil))))
    (sSeq (sIf (eBin (gI fun i j => kLt j i) (eUn gLen (eVar 6)) (eK (.int 32))) (sRet (eBin gEq (eVar 7) (eLst (aCons (eK (.str (Str.ofString "refused"))) (aCons (eK (.bl true)) aNil))))) sNop)
    (sSeq (sIf (eBin gNeD (eVar 7) (eDict [.inr (Str.ofString "secret"), .inr (Str.ofString "rows")] (aCons (eVar 5) (aCons (eVar 6) aNil)))) (sRet (eK (.bl false))) sNop)
    (sSeq (sSet 8 (eCall 5 fn_run_tree (aCons (eVar 2) (aCons (eVar 5) (aCons (eVar 3) (aCons (eVar 4) (aCons (eK (.int 60)) aNil)))))))
    (sSeq (sIf (eUn (gIsN .non) (eVar 8)) (sRet (eUn (gNotN .non) (eBin gIx (eBin gIx (eCall 4 fn_run (aCons (eVar 7) (aCons (eVar 3) (aCons (eVar 4) (aCons (eK (.int 60)) aNil))))) (eK (.int 0))) (eK (.str (Str.ofString "place")))))) sNop)
    (sSeq (sAsg (bTup 2 (bCons (bName 9) (bCons (bName 10) bNil))) (eCall 4 fn_run (aCons (eVar 7) (aCons (eVar 3) (aCons (eVar 4) (aCons (eK (.int 200)) aNil))))))
    (sSeq (sSet 11 (eComp [13] (iSeq (eVar 10)) (bName 13) (eUn (gNotN .non) (eBin gIx (eVar 13) (eK (.int 1)))) (eBin gIx (eVar 13) (eK (.int 1)))))
    (sRet (eAnd (eUn (gIsN .non) (eBin gIx (eVar 9) (eK (.str (Str.ofString "place"))))) (eBin gEq (eVar 8) (eTup (aCons (eBin gIx (eVar 9) (eK (.str (Str.ofString "registers")))) (aCons (eBin gIx (eVar 9) (eK (.str (Str.ofString "slots")))) (aCons (eBin gIx (eVar 9) (eK (.str (Str.ofString "counts")))) (aCons (eVar 11) aNil))))))))))))))))))))))
noncomputable def fn_law : Fn := fnOf 14 g_law
theorem fk_law {f : Addr} {fd : FuncData} (F : Fun K "law" "law" s_law f fd) (T : Txt K w mg) (C_run : Callee P w K mg base "run" 4 6 fn_run) (C_is_tree : Callee P w K mg base "is_tree" 1 10 fn_is_tree) (C_run_tree : Callee P w K mg base "run_tree" 5 15 fn_run_tree) (C_law_tape : Callee P w K mg base "_law_tape" 1 1 fn_law_tape) (C_law_at : Callee P w K mg base "_law_at" 2 1 fn_law_at) (C_law_meaning : Callee P w K mg base "_law_meaning" 2 2 fn_law_meaning) (C_law_secrets : Callee P w K mg base "_law_secrets" 2 2 fn_law_secrets) (C_law_tree : Callee P w K mg base "_law_tree" 3 5 fn_law_tree) (C_law_lowered : Callee P w K mg base "_law_lowered" 2 4 fn_law_lowered) (C_law_told : Callee P w K mg base "_law_told" 2 10 fn_law_told) (C_law_bent : Callee P w K mg base "_law_bent" 2 1 fn_law_bent) :
    FnOk P w K mg base (CX P w) 16 f fd ["_law_script"] (spD K mg 1 fn_law) :=
  fn_ok F sc_law (fun c cdv A outer s H E B =>
    have S := sc_law
    have hr : Room 15 _ := B.room
    have hu := hu_of B.room
    have hu1 := hu1_of B.room
    have hv := B.room.units
    (dss_cons (ds_set 1 S.nd (de_call (C_law_tape) (hr.mono (by decide)) B.tk (by rfl) (da_cons (de_var 0) da_nil)))
      (dss_cons (ds_set 2 S.nd (de_call (C_law_tree) (hr.mono (by decide)) B.tk (by rfl) (da_cons (de_var 1) (da_cons de_int (da_cons de_int da_nil)))))
      (dss_cons (ds_set 3 S.nd (de_call (C_law_meaning) (hr.mono (by decide)) B.tk (by rfl) (da_cons (de_var 1) (da_cons de_int da_nil))))
      (dss_cons (ds_set 4 S.nd (de_call (C_law_secrets) (hr.mono (by decide)) B.tk (by rfl) (da_cons (de_var 1) (da_cons de_int da_nil))))
      (dss_cons (ds_set 5 S.nd (de_tuple (by rfl) T.n_tuple (de_dn (dn_comp (own := [("_law_r", 12)]) rfl S.nd (di_range1 (by rfl) T.n_range de_int) (blkOk_by (N := ["_law_script", "_law_tape_here", "_law_tree_here", "_law_meaning_here", "_law_secrets_here", "_law_secret", "_law_rows", "_law_program_here", "_law_told_here", "_law_state", "_law_view", "_law_seen", "_law_r", "_law_row_here"]) (sc := defScope s_law) (by decide +kernel)) (tg_name 12) (fun _ _ _ _ _ => (pg_name (i := 12) S.nd rfl (by first | exact Or.inl rfl | exact Or.inr rfl))) (fun _ _ _ _ _ => (dts_one (cm_eq hv (de_mod (de_div (de_call (C_law_at) (hr.mono (by decide)) takes0 (by rfl) (da_cons (de_var 1) (da_cons de_int da_nil))) (de_add (de_var 12) de_int)) de_int) de_int).t)) (fun _ _ _ _ _ => (de_var 12))))))
      (dss_cons (ds_if (dw_or (cm_notB (de_call (C_is_tree) (hr.mono (by decide)) B.tk (by rfl) (da_cons (de_var 2) da_nil)) de_bl).t (dw_or (cm_notB (de_call (C_is_tree) (hr.mono (by decide)) B.tk (by rfl) (da_cons (de_call (C_law_bent) (hr.mono (by decide)) B.tk (by rfl) (da_cons (de_var 2) (da_cons (de_call (C_law_at) (hr.mono (by decide)) B.tk (by rfl) (da_cons (de_var 1) (da_cons de_int da_nil))) da_nil))) da_nil)) de_bl).t (dw_or1 (cm_notB (de_call (C_is_tree) (hr.mono (by decide)) B.tk (by rfl) (da_cons (de_dn (dn_list (by rfl) T.n_list (de_var 2))) da_nil)) de_bl).t))).t (dss_one (ds_ret de_bl)) dss_nil)
      (dss_cons (ds_set 6 S.nd (de_tuple (by rfl) T.n_tuple (de_add (de_call (C_law_lowered) (hr.mono (by decide)) B.tk (by rfl) (da_cons (de_var 2) (da_cons de_int da_nil))) (de_dn (dn_lst (da_cons (de_tup (da_cons de_str da_nil)) da_nil))))))
      (dss_cons (ds_set 7 S.nd (de_call (C_law_told) (hr.mono (by decide)) B.tk (by rfl) (da_cons (de_var 2) (da_cons (de_var 5) da_nil))))
      (dss_cons (ds_if (cm_gt (de_len (by rfl) T.n_len (de_var 6)) de_int).t (dss_one (ds_ret (cm_eq hv (de_var 7) (de_dn (dn_lst (da_cons de_str (da_cons de_bl da_nil))))).e)) dss_nil)
      (dss_cons (ds_if (cm_neD hv (de_var 7) (de_dn (dn_dict (dp_cons kex_str (de_var 5) (dp_cons kex_str (de_var 6) dp_nil))))).t (dss_one (ds_ret de_bl)) dss_nil)
      (dss_cons (ds_set 8 S.nd (de_call (C_run_tree) (hr.mono (by decide)) B.tk (by rfl) (da_cons (de_var 2) (da_cons (de_var 5) (da_cons (de_var 3) (da_cons (de_var 4) (da_cons de_int da_nil)))))))
      (dss_cons (ds_if (cm_isN (de_var 8)).t (dss_one (ds_ret (cm_notN (de_ix hu (de_ix hu (de_call (C_run) (hr.mono (by decide)) B.tk (by rfl) (da_cons (de_var 7) (da_cons (de_var 3) (da_cons (de_var 4) (da_cons de_int da_nil))))) de_int) de_str)).e)) dss_nil)
      (dss_cons (ds_asg (tg_tup (tgs_cons (tg_name 9) (tgs_cons (tg_name 10) tgs_nil))) (pg_tup rfl (pgs_cons (pg_name (i := 9) S.nd rfl (by first | exact Or.inl rfl | exact Or.inr rfl)) (pgs_cons (pg_name (i := 10) S.nd rfl (by first | exact Or.inl rfl | exact Or.inr rfl)) pgs_nil))) (de_call (C_run) (hr.mono (by decide)) B.tk (by rfl) (da_cons (de_var 7) (da_cons (de_var 3) (da_cons (de_var 4) (da_cons de_int da_nil))))))
      (dss_cons (ds_setC (i := 11) (own := [("_law_row_here", 13)]) rfl S.nd (di_seq (de_var 10)) (blkOk_by (N := ["_law_script", "_law_tape_here", "_law_tree_here", "_law_meaning_here", "_law_secrets_here", "_law_secret", "_law_rows", "_law_program_here", "_law_told_here", "_law_state", "_law_view", "_law_seen", "_law_r", "_law_row_here"]) (sc := defScope s_law) (by decide +kernel)) (tg_name 13) (fun _ _ _ _ _ => (pg_name (i := 13) S.nd rfl (by first | exact Or.inl rfl | exact Or.inr rfl))) (fun _ _ _ _ _ => (dts_one (cm_notN (de_ix hu (de_var 13) de_int)).t)) (fun _ _ _ _ _ => (de_ix hu (de_var 13) de_int)))
      (dss_one (ds_ret (de_and (cm_isN (de_ix hu (de_var 9) de_str)).e (de_one (cm_eq hv (de_var 8) (de_tup (da_cons (de_ix hu (de_var 9) de_str) (da_cons (de_ix hu (de_var 9) de_str) (da_cons (de_ix hu (de_var 9) de_str) (da_cons (de_var 11) da_nil)))))).e)))))))))))))))))))
theorem ok_law {f : Addr} {fd : FuncData} (F : Fun K "law" "law" s_law f fd) (gf : mg "law" = some (.ref f)) (T : Txt K w mg) (C_run : Callee P w K mg base "run" 4 6 fn_run) (C_is_tree : Callee P w K mg base "is_tree" 1 10 fn_is_tree) (C_run_tree : Callee P w K mg base "run_tree" 5 15 fn_run_tree) (C_law_tape : Callee P w K mg base "_law_tape" 1 1 fn_law_tape) (C_law_at : Callee P w K mg base "_law_at" 2 1 fn_law_at) (C_law_meaning : Callee P w K mg base "_law_meaning" 2 2 fn_law_meaning) (C_law_secrets : Callee P w K mg base "_law_secrets" 2 2 fn_law_secrets) (C_law_tree : Callee P w K mg base "_law_tree" 3 5 fn_law_tree) (C_law_lowered : Callee P w K mg base "_law_lowered" 2 4 fn_law_lowered) (C_law_told : Callee P w K mg base "_law_told" 2 10 fn_law_told) (C_law_bent : Callee P w K mg base "_law_bent" 2 1 fn_law_bent) :
    Callee P w K mg base "law" 1 16 fn_law :=
  ⟨f, fd, ["_law_script"], fk_law F T C_run C_is_tree C_run_tree C_law_tape C_law_at C_law_meaning C_law_secrets C_law_tree C_law_lowered C_law_told C_law_bent, gf, F.kp, F.binds (ps := ["_law_script"]) fun _ _ _ _ _ _ us hl => match us, hl with | [_], _ => rfl⟩
end
end DL
end
section
set_option Elab.async false
set_option linter.all false
set_option maxRecDepth 100000
set_option maxHeartbeats 4000000
set_option autoImplicit false
/-! DLQS: plain lemmas on the store. -/
namespace DL
open PySem L2
section
variable {d x y k : D} {ds : List D} {e : Sl} {s st : Sto} {i : Nat} {fo fv fk f : EF} {fs : AF} {cls m fn' : Str} {n : Nat} {fn : Fn}
@[simp] theorem eSto_at : eSto f e s = (f e s).bind fun d e s => .ok (.ref s.length) e (s ++ [.obj d]) := rfl
@[simp] theorem eMeth_at : eMeth cls m n fn fo fs e s = (fo e s).bind fun x e s => if insOf cls m x s = true then (fs e s).bind fun ds e s => if (x :: ds).length = n then (fn (x :: ds) s).toE e else .stuck else .stuck := by unfold eMeth FR.toE; rfl
/-- what __init__ left -/
def FR.toM (r : FR) (i : Nat) (e : Sl) : ER := match r with
  | .ok (.val .non) s' => .ok (.ref i) e s'
  | .exc k s' => .exc k e s'
  | _ => .stuck
@[simp] theorem toM_ok : (FR.ok (.val .non) s).toM i e = .ok (.ref i) e s := rfl
@[simp] theorem toM_exc : (FR.exc m s).toM i e = .exc m e s := rfl
@[simp] theorem toE_exc : (FR.exc m s).toE e = .exc m e s := rfl
@[simp] theorem eMake_at : eMake cls n fn fs e s = (fs e s).bind fun ds e s => if ds.length + 1 = n then (fn (.ref s.length :: ds) (s ++ [.ins cls []])).toM s.length e else .stuck := by unfold eMake FR.toM; rfl
/-- a store that may be stuck -/
def stO (o : Option Sto) (e : Sl) : OR := match o with | some s' => .nx e s' | none => .stuck
@[simp] theorem stO_some : stO (some s) e = .nx e s := rfl
@[simp] theorem sFldS_at : sFldS cls fn' fo fv e s = (eFz fv e s).bindS fun d e s => (fo e s).bindS fun x e s => stO (fldPut cls fn' x d s) e := by unfold sFldS stO; rfl
@[simp] theorem sPutR_at : sPutR fo fk fv e s = (eFz fv e s).bindS fun d e s => (fo e s).bindS fun x e s => (eFz fk e s).bindS fun k e s => stO (objPut x k d s) e := by unfold sPutR stO; rfl
@[simp] theorem sDo_at : sDo f e s = (f e s).bindS fun _ e s => .nx e s := rfl
@[simp] theorem sAsgT_at {b : BT} : sAsgT b f e s = (eFz f e s).bindS fun d e s => (b d e s).only := rfl
@[simp] theorem only_nx : (OR.nx e s).only = .nx e s := rfl
@[simp] theorem only_exc : (OR.exc m e s).only = .exc m e s := rfl
@[simp] theorem tName_at {i : Nat} : tName i d e s = .nx (e.set i (some (.val d))) s := rfl
@[simp] theorem tFldT_at : tFldT cls fn' fo d e s = (fo e s).bindS fun x e s => stO (fldPut cls fn' x d s) e := by unfold tFldT stO; rfl
@[simp] theorem tSubT_at : tSubT fo fk d e s = (fo e s).bindS fun x e s => (eFz fk e s).bindS fun k e s => stO (objPut x k d s) e := by unfold tSubT stO; rfl
@[simp] theorem tTup_at {bs : List D → SF} : tTup n bs (.tup ds) e s = if ds.length = n then bs ds e s else .stuck := rfl
@[simp] theorem tsNil_at : tsNil [] e s = .nx e s := rfl
@[simp] theorem tsCons_at {b : BT} {bs : List D → SF} : tsCons b bs (d :: ds) e s = (b d e s).bind (bs ds) := rfl
@[simp] theorem sAsg_at {b : BF} : sAsg b f e s = (eFz f e s).bindS fun d e s => match b d e with | some e' => .nx e' s | none => .stuck := rfl
@[simp] theorem bTup_at {bs : List D → Sl → Option Sl} : bTup n bs (.tup ds) e = if ds.length = n then bs ds e else none := rfl
@[simp] theorem bName_at {i : Nat} : bName i d e = some (e.set i (some (.val d))) := rfl
@[simp] theorem bNil_at : bNil [] e = some e := rfl
@[simp] theorem bCons_at {b : BF} {bs : List D → Sl → Option Sl} : bCons b bs (d :: ds) e = match b d e with | some e1 => bs ds e1 | none => none := rfl
@[simp] theorem retv_ref {i : Nat} : retv (.ref i) e s = .rt (.val (.ref i)) s := rfl
@[simp] theorem gTru_lst : gTru (.lst ds) e s = .ok (.bl (!ds.isEmpty)) e s := rfl
@[simp] theorem gTru_tup : gTru (.tup ds) e s = .ok (.bl (!ds.isEmpty)) e s := rfl
@[simp] theorem gMin2_at {i j : Int} : gMin2 (.int i) (.int j) e s = .ok (.int (if j < i then j else i)) e s := rfl
@[simp] theorem gMax2_at {i j : Int} : gMax2 (.int i) (.int j) e s = .ok (.int (if j > i then j else i)) e s := rfl
theorem vw_obj (h : st[i]? = some (.obj d)) : vw (.ref i) e st = d := by unfold vw; simp only [h]
theorem gIx_obj (h : st[i]? = some (.obj d)) (hd : Ty d = true) : gIx (.ref i) y e st = gIx d y e st := by
  unfold gIx
  rw [vw_obj h, vw_ty hd]
theorem gIx_dkr {kvs : List (Key × D)} {z : Str} (h : st[i]? = some (.obj (.dk kvs))) (hk : lk kvs (.inr z) = some d) : gIx (.ref i) (.str z) e st = .ok d e st := by
  rw [gIx_obj h rfl, ix_dk hk]
theorem gIx_lstr {j : Int} (h : st[i]? = some (.obj (.lst ds))) (hk : atI ds j = some d) : gIx (.ref i) (.int j) e st = .ok d e st := by
  rw [gIx_obj h rfl, ix_lst hk]
theorem gList_obj (h : st[i]? = some (.obj (.lst ds))) : gList (.ref i) e st = .ok (.lst ds) e st := by
  unfold gList
  rw [vw_obj h]
  rfl
theorem gLen_obj (h : st[i]? = some (.obj (.lst ds))) : gLen (.ref i) e st = .ok (.int ds.length) e st := by
  unfold gLen
  rw [vw_obj h]
  rfl
theorem gFld_at {c : Str} {fs : List (Str × D)} {f : Str} (h : st[i]? = some (.ins c fs)) (hf : lkF fs f = some d) : gFld c f (.ref i) e st = .ok d e st := by
  unfold gFld fldAt
  simp only [h, if_true, hf]
theorem fldAt_at {c : Str} {fs : List (Str × D)} {f : Str} (h : st[i]? = some (.ins c fs)) (hf : lkF fs f = some d) : fldAt c f (.ref i) st = some d := by
  unfold fldAt
  simp only [h, if_true, hf]
theorem fldPut_at {c : Str} {fs : List (Str × D)} {f : Str} (h : st[i]? = some (.ins c fs)) (hl : fs.length < 1000) : fldPut c f (.ref i) d st = some (st.set i (.ins c (putFD f d fs))) := by
  unfold fldPut
  simp only [h]
  rw [if_pos ⟨trivial, hl⟩]
theorem insOf_at {c : Str} {fs : List (Str × D)} {f : Str} (h : st[i]? = some (.ins c fs)) (hf : lkF fs f = none) : insOf c f (.ref i) st = true := by
  unfold insOf
  simp only [h, hf]
  simp
theorem objPut_dk {kvs : List (Key × D)} {z : Str} (h : st[i]? = some (.obj (.dk kvs))) (hl : kvs.length < 1000) : objPut (.ref i) (.str z) d st = some (st.set i (.obj (.dk (pt kvs (.inr z) d)))) := by
  unfold objPut
  simp only [h, putC, toK]
  rw [if_pos (by unfold lim; omega)]
theorem objPut_lst {j : Nat} (h : st[i]? = some (.obj (.lst ds))) (hl : j < ds.length) : objPut (.ref i) (.int (j : Int)) d st = some (st.set i (.obj (.lst (ds.set j d)))) := by
  unfold objPut
  simp only [h, putC]
  have : ixN ds.length (j : Int) = some j := by
    unfold ixN
    rw [if_pos (by omega), if_pos (by omega)]
    simp
  simp only [this]
theorem sAppR_at2 {s1 : Sto} (ho : fo e s = .ok (.ref i) e s) (hf : eFz f e s = .ok d e s1) (h0 : (lstAt (.ref i) s).isSome = true) (h : s1[i]? = some (.obj (.lst ds))) (hl : ds.length < lim) : sAppR fo f e s = .nx e (s1.set i (.obj (.lst (ds ++ [d])))) := by
  have h1 : lstAt (.ref i) s1 = some ds := by unfold lstAt; simp only [h]
  unfold sAppR
  rw [ho]
  simp only [bS_ok]
  rw [if_pos h0]
  simp only [hf, bS_ok, h1, if_pos hl]
  rfl
theorem lstAt_at (h : st[i]? = some (.obj (.lst ds))) : lstAt (.ref i) st = some ds := by unfold lstAt; simp only [h]
theorem sFldAug_at {c f : Str} {kk : Int → Int → Int} {fs : List (Str × D)} {a b : Int} (ho : fo e s = .ok (.ref i) e s) (h : s[i]? = some (.ins c fs)) (hf : lkF fs f = some (.int a)) (hv : fv e s = .ok (.int b) e s) (hl : fs.length < 1000) :
    sFldAug c f kk fo fv e s = .nx e (s.set i (.ins c (putFD f (.int (kk a b)) fs))) := by
  unfold sFldAug
  rw [ho]
  simp only [bS_ok, fldAt_at h hf, hv, fldPut_at h hl]
/-- a for over a store -/
theorem forL_st {bind : BF} {g : SF} (I : Nat → Sl → Sto → Prop) : ∀ (xs : List D) (n : Nat) (e : Sl) (s : Sto), I n e s →
    (∀ m e s x, n ≤ m → xs[m - n]? = some x → I m e s → ∃ e1 e2 s2, bind x e = some e1 ∧ (g e1 s = .nx e2 s2 ∨ g e1 s = .ct e2 s2) ∧ I (m + 1) e2 s2) →
    ∃ e' s', forL bind g xs e s = .nx e' s' ∧ I (n + xs.length) e' s'
  | [], n, e, s, hI, _ => ⟨e, s, rfl, by simpa using hI⟩
  | x :: xs, n, e, s, hI, h => by
    obtain ⟨e1, e2, s2, h1, h2, h3⟩ := h n e s x (Nat.le_refl _) (by simp) hI
    obtain ⟨e', s', h4, h5⟩ := forL_st I xs (n + 1) e2 s2 h3 (fun m e s y hm hx hI => h m e s y (by omega) (by
      have : m - n = (m - (n + 1)) + 1 := by omega
      rw [this, List.getElem?_cons_succ]; exact hx) hI)
    refine ⟨e', s', ?_, by rw [List.length_cons]; have : n + (xs.length + 1) = n + 1 + xs.length := by omega
                           rw [this]; exact h5⟩
    unfold forL
    rw [h1]
    rcases h2 with h2 | h2 <;> simp only [h2, h4]
theorem sFor_st {bind : BF} {g : SF} {fi : IF} {e e0 : Sl} {s s0 : Sto} {ds : List D} (I : Nat → Sl → Sto → Prop) (hi : fi e s = .ok ds e0 s0) (h0 : I 0 e0 s0)
    (h : ∀ m e s x, ds[m]? = some x → I m e s → ∃ e1 e2 s2, bind x e = some e1 ∧ (g e1 s = .nx e2 s2 ∨ g e1 s = .ct e2 s2) ∧ I (m + 1) e2 s2) :
    ∃ e' s', sFor fi bind g e s = .nx e' s' ∧ I ds.length e' s' := by
  rw [sFor_at hi]
  obtain ⟨e', s', h1, h2⟩ := forL_st (bind := bind) (g := g) I ds 0 e0 s0 h0 (fun m e s x _ hx hI => h m e s x (by simpa using hx) hI)
  exact ⟨e', s', h1, by simpa using h2⟩
end
/-! ### what a call may have touched -/
structure Fr (L : List Nat) (st st' : Sto) : Prop where
  len : st.length ≤ st'.length
  same : ∀ k, k < st.length → k ∉ L → st'[k]? = st[k]?
theorem Fr.refl {L : List Nat} {st : Sto} : Fr L st st := ⟨Nat.le_refl _, fun _ _ _ => rfl⟩
theorem Fr.trans {L L' : List Nat} {a b c : Sto} (h : Fr L a b) (h' : Fr L' b c) (hs : ∀ k ∈ L', k ∈ L ∨ a.length ≤ k) : Fr L a c :=
  ⟨Nat.le_trans h.len h'.len, fun k hk hn => by
    rw [h'.same k (Nat.lt_of_lt_of_le hk h.len) fun z => by
      rcases hs k z with q | q
      · exact hn q
      · omega]
    exact h.same k hk hn⟩
theorem Fr.mono {L L' : List Nat} {a b : Sto} (h : Fr L a b) (hs : ∀ k ∈ L, k ∈ L' ∨ a.length ≤ k) : Fr L' a b :=
  ⟨h.len, fun k hk hn => h.same k hk fun z => by
    rcases hs k z with q | q
    · exact hn q
    · omega⟩
theorem Fr.set {L : List Nat} {st : Sto} {i : Nat} {o : SO} (h : i ∈ L) : Fr L st (st.set i o) :=
  ⟨by rw [List.length_set]; exact Nat.le_refl _, fun k _ hn => by rw [List.getElem?_set_ne (fun (z : i = k) => hn (by rw [← z]; exact h))]⟩
theorem Fr.push {L : List Nat} {st : Sto} {o : SO} : Fr L st (st ++ [o]) :=
  ⟨by simp, fun k hk _ => by rw [List.getElem?_append_left hk]⟩
theorem Fr.push2 {L : List Nat} {st : Sto} {o o' : SO} : Fr L st (st ++ [o, o']) :=
  ⟨by simp, fun k hk _ => by rw [List.getElem?_append_left hk]⟩
theorem lt_of_at {st : Sto} {i : Nat} {o : SO} (h : st[i]? = some o) : i < st.length := (List.getElem?_eq_some_iff.mp h).1
end DL
end
section
set_option Elab.async false
set_option linter.all false
set_option maxRecDepth 100000
set_option maxHeartbeats 4000000
set_option autoImplicit false
/-! PM: the plain machine in plain Lean, and how its data are told. -/
namespace DL
open PySem L2
abbrev sx (a : String) : D := .str (Str.ofString a)
inductive Row where
  | ask (r : Nat) | mix (r a b : Nat) | load (r A a : Nat) | mask (r A a : Nat) | test (a A t : Nat) | put (s a : Nat) | get (r s : Nat) | fence | jump (t : Nat) | fin
deriving DecidableEq
abbrev dn (n : Nat) : D := .int (n : Int)
def Row.d : Row → D
  | .ask r => .tup [sx "ask", dn r]
  | .mix r a b => .tup [sx "mix", dn r, dn a, dn b]
  | .load r A a => .tup [sx "load", dn r, dn A, dn a]
  | .mask r A a => .tup [sx "mask", dn r, dn A, dn a]
  | .test a A t => .tup [sx "test", dn a, dn A, dn t]
  | .put s a => .tup [sx "put", dn s, dn a]
  | .get r s => .tup [sx "get", dn r, dn s]
  | .fence => .tup [sx "fence"]
  | .jump t => .tup [sx "jump", dn t]
  | .fin => .tup [sx "end"]
def Row.w : Row → String
  | .ask _ => "ask" | .mix _ _ _ => "mix" | .load _ _ _ => "load" | .mask _ _ _ => "mask" | .test _ _ _ => "test" | .put _ _ => "put" | .get _ _ => "get" | .fence => "fence" | .jump _ => "jump" | .fin => "end"
/-- the parts are in their bounds -/
def Row.ok (n : Nat) : Row → Prop
  | .ask r => r < 4
  | .mix r a b => r < 4 ∧ a < 4 ∧ b < 4
  | .load r A a => r < 4 ∧ A < 2 ∧ a < 4
  | .mask r A a => r < 4 ∧ A < 2 ∧ a < 4
  | .test a A t => a < 4 ∧ A < 2 ∧ t < n
  | .put s a => s < 2 ∧ a < 4
  | .get r s => r < 4 ∧ s < 2
  | .fence => True
  | .jump t => t < n
  | .fin => True
structure Prog where
  sec : List Nat
  rows : List Row
def Prog.d (p : Prog) : D := .dk [(.inr (Str.ofString "secret"), .tup (p.sec.map fun n => dn n)), (.inr (Str.ofString "rows"), .tup (p.rows.map Row.d))]
structure Prog.Ok (p : Prog) : Prop where
  pos : 0 < p.rows.length
  big : p.rows.length ≤ 100
  ok : ∀ r ∈ p.rows, r.ok p.rows.length
  last : p.rows.getLast? = some .fin ∨ ∃ t, p.rows.getLast? = some (.jump t)
  sec : ∃ q : Nat → Bool, p.sec = (List.range 4).filter q
/-- the meaning: where a list has ended it is 0 -/
structure Mean where
  arr : Nat → Int → Bool
  ask : Nat → Int
  mix : Nat → Int → Int → Int
  ld : Nat → Int
structure Secr where
  reg : Nat → Int
  ld : Nat → Int
def Mean.isIn (m : Mean) (A : Nat) (v : Int) : Bool := v == 0 || m.arr A v
structure PS where
  place : Option Nat
  regs : List Int
  slots : List Int
  counts : List Nat
deriving DecidableEq
def pl : Option Nat → D
  | none => .non
  | some n => dn n
def PS.d (s : PS) : D := .dk [(.inr (Str.ofString "place"), pl s.place), (.inr (Str.ofString "registers"), .tup (s.regs.map .int)), (.inr (Str.ofString "slots"), .tup (s.slots.map .int)), (.inr (Str.ofString "counts"), .tup (s.counts.map fun n => dn n))]
structure PS.Ok (n : Nat) (s : PS) : Prop where
  place : ∀ k, s.place = some k → k < n
  regs : s.regs.length = 4
  slots : s.slots.length = 2
  counts : s.counts.length = 3
inductive Seen where
  | no | at (A : Nat) (v : Int) | inn | out
deriving DecidableEq
def Seen.d : Seen → D
  | .no => .non
  | .at A v => .tup [sx "at", dn A, .int v]
  | .inn => .tup [sx "in"]
  | .out => .tup [sx "out"]
def seenD (p : Nat) (x : Seen) : D := .tup [dn p, x.d]
def rg (l : List Int) (i : Nat) : Int := l.getD i 0
def ct (l : List Nat) (i : Nat) : Nat := l.getD i 0
def up (l : List Nat) (i : Nat) : List Nat := l.set i (ct l i + 1)
/-- the value that an instruction gives its register -/
def newV (m : Mean) (x : Secr) (s : PS) : Row → Int
  | .ask _ => m.ask (ct s.counts 0)
  | .mix _ a b => m.mix (ct s.counts 1) (rg s.regs a) (rg s.regs b)
  | .get _ k => rg s.slots k
  | .mask _ A a => if m.isIn A (rg s.regs a) then rg s.regs a else 0
  | .load _ A a => if m.isIn A (rg s.regs a) then m.ld (ct s.counts 2) else x.ld (ct s.counts 2)
  | _ => 0
def cntOf : Row → Option Nat
  | .ask _ => some 0
  | .mix _ _ _ => some 1
  | .load _ _ _ => some 2
  | _ => none
/-- an instruction at a place -/
def stepR (m : Mean) (x : Secr) (s : PS) (p : Nat) (r : Row) : PS × Seen := match r with
  | .test a A t => if m.isIn A (rg s.regs a) then ({ s with place := some (p + 1) }, .inn) else ({ s with place := some t }, .out)
  | .fin => ({ s with place := none }, .no)
  | .jump t => ({ s with place := some t }, .no)
  | .fence => ({ s with place := some (p + 1) }, .no)
  | .put k a => ({ s with place := some (p + 1), slots := s.slots.set k (rg s.regs a) }, .no)
  | .ask r => ({ s with place := some (p + 1), regs := s.regs.set r (m.ask (ct s.counts 0)), counts := up s.counts 0 }, .no)
  | .mix r a b => ({ s with place := some (p + 1), regs := s.regs.set r (m.mix (ct s.counts 1) (rg s.regs a) (rg s.regs b)), counts := up s.counts 1 }, .no)
  | .load r A a => ({ s with place := some (p + 1), regs := s.regs.set r (if m.isIn A (rg s.regs a) then m.ld (ct s.counts 2) else x.ld (ct s.counts 2)), counts := up s.counts 2 }, .at A (rg s.regs a))
  | .mask r A a => ({ s with place := some (p + 1), regs := s.regs.set r (if m.isIn A (rg s.regs a) then rg s.regs a else 0) }, .no)
  | .get r k => ({ s with place := some (p + 1), regs := s.regs.set r (rg s.slots k) }, .no)
def rowAt (g : Prog) (p : Nat) : Row := g.rows.getD p .fin
/-- a step: None behind an end -/
def stepP (g : Prog) (m : Mean) (x : Secr) (s : PS) : Option (PS × Nat × Seen) := match s.place with
  | none => none
  | some p => let r := stepR m x s p (rowAt g p); some (r.1, p, r.2)
def outP (g : Prog) (m : Mean) (s : PS) : Option Bool := match s.place with
  | none => none
  | some p => match rowAt g p with
    | .test a A _ => some (m.isIn A (rg s.regs a))
    | _ => none
def way (b : Bool) : String := if b then "in" else "out"
def outD : Option Bool → D
  | none => .non
  | some b => sx (way b)
def regsUp (x : Nat → Int) (sec : List Nat) : Nat → List Int
  | 0 => [0, 0, 0, 0]
  | i + 1 => (regsUp x sec i).set (ct sec i) (x i)
def firstP (g : Prog) (x : Secr) : PS := ⟨some 0, regsUp x.reg g.sec g.sec.length, [0, 0], [0, 0, 0]⟩
theorem regsUp_len (x : Nat → Int) (sec : List Nat) : ∀ i : Nat, (regsUp x sec i).length = 4
  | 0 => rfl
  | i + 1 => by unfold regsUp; rw [List.length_set, regsUp_len x sec i]
theorem firstP_ok {g : Prog} (h : g.Ok) (x : Secr) : (firstP g x).Ok g.rows.length := ⟨fun k hk => by cases hk; exact h.pos, regsUp_len _ _ _, rfl, rfl⟩
theorem Prog.Ok.sec_len {g : Prog} (h : g.Ok) : g.sec.length ≤ 4 := by
  obtain ⟨q, hq⟩ := h.sec
  rw [hq]
  have := List.length_filter_le q (List.range 4)
  simpa using this
theorem Prog.Ok.sec_mem {g : Prog} (h : g.Ok) {r : Nat} (hr : r ∈ g.sec) : r < 4 := by
  obtain ⟨q, hq⟩ := h.sec
  rw [hq] at hr
  have := (List.mem_filter.mp hr).1
  simpa using this
theorem Prog.Ok.sec_lt {g : Prog} (h : g.Ok) {i : Nat} (hi : i < g.sec.length) : ct g.sec i < 4 := by
  unfold ct
  rw [List.getD_eq_getElem?_getD, List.getElem?_eq_getElem hi]
  exact h.sec_mem (List.getElem_mem hi)
theorem rowAt_ok {g : Prog} (h : g.Ok) {p : Nat} (hp : p < g.rows.length) : g.rows[p]? = some (rowAt g p) ∧ (rowAt g p).ok g.rows.length := by
  have : g.rows[p]? = some (rowAt g p) := by unfold rowAt; rw [List.getD_eq_getElem?_getD, List.getElem?_eq_getElem hp]; rfl
  exact ⟨this, h.ok _ (List.mem_of_getElem? this)⟩
theorem rowAt_last {g : Prog} (h : g.Ok) {p : Nat} (hp : p < g.rows.length) (hn : rowAt g p ≠ .fin) (hj : ∀ t, rowAt g p ≠ .jump t) : p + 1 < g.rows.length := by
  by_cases hq : p + 1 = g.rows.length
  · exfalso
    have hr := (rowAt_ok h hp).1
    have : g.rows.getLast? = some (rowAt g p) := by
      rw [List.getLast?_eq_getElem?, ← hr]
      congr 1
      omega
    rcases h.last with hl | ⟨t, hl⟩
    · rw [this] at hl; exact hn (Option.some.inj hl)
    · rw [this] at hl; exact hj t (Option.some.inj hl)
  · omega
theorem up_len {l : List Nat} {i : Nat} : (up l i).length = l.length := by unfold up; rw [List.length_set]
theorem stepR_ok {g : Prog} (h : g.Ok) (m : Mean) (x : Secr) {s : PS} (hs : s.Ok g.rows.length) {p : Nat} (hp : p < g.rows.length) : (stepR m x s p (rowAt g p)).1.Ok g.rows.length := by
  have hr := (rowAt_ok h hp).2
  have hl := rowAt_last h hp
  cases hrow : rowAt g p <;> rw [hrow] at hr hl <;> simp only [stepR]
  case test a A t =>
    split
    · exact ⟨fun k hk => by simp at hk; subst hk; exact hl (by simp) (by simp), hs.2, hs.3, hs.4⟩
    · exact ⟨fun k hk => by simp at hk; subst hk; exact hr.2.2, hs.2, hs.3, hs.4⟩
  case fin => exact ⟨fun k hk => by simp at hk, hs.2, hs.3, hs.4⟩
  case jump t => exact ⟨fun k hk => by simp at hk; subst hk; exact hr, hs.2, hs.3, hs.4⟩
  all_goals
    refine ⟨fun k hk => by simp at hk; subst hk; exact hl (by simp) (by simp), ?_, ?_, ?_⟩
    · simp [hs.2]
    · simp [hs.3]
    · simp [hs.4, up_len]
/-! ### how the meaning is told -/
def arrD (m : Mean) (A : Nat) (d : D) : Prop := ∃ kvs : List (Key × D), d = .dk kvs ∧ ∀ v : Int, (lk kvs (.inl v)).isSome = m.arr A v
def mixD (m : Mean) (k : Nat) (d : D) : Prop := ∃ kvs : List (List Key × D), d = .dt kvs ∧ ∀ x y : Int, ((lk kvs [.inl x, .inl y]).getD (.int 0)) = .int (m.mix k x y)
structure MRep (m : Mean) (d : D) : Prop where
  ex : ∃ (a0 a1 : D) (asked loaded : List Int) (mixed : List D), d = .dk [(.inr (Str.ofString "arrays"), .tup [a0, a1]), (.inr (Str.ofString "asked"), .lst (asked.map .int)), (.inr (Str.ofString "mixed"), .lst mixed), (.inr (Str.ofString "loaded"), .lst (loaded.map .int))] ∧
    arrD m 0 a0 ∧ arrD m 1 a1 ∧ (∀ k, asked.getD k 0 = m.ask k) ∧ (∀ k, loaded.getD k 0 = m.ld k) ∧ (∀ k t, mixed[k]? = some t → mixD m k t) ∧ (∀ k x y, mixed.length ≤ k → m.mix k x y = 0)
structure SRepr (x : Secr) (d : D) : Prop where
  ex : ∃ (regs loaded : List Int), d = .dk [(.inr (Str.ofString "registers"), .lst (regs.map .int)), (.inr (Str.ofString "loaded"), .lst (loaded.map .int))] ∧ (∀ k, regs.getD k 0 = x.reg k) ∧ (∀ k, loaded.getD k 0 = x.ld k)
end DL
end
section
set_option Elab.async false
set_option linter.all false
set_option maxRecDepth 100000
set_option maxHeartbeats 4000000
set_option autoImplicit false
/-! PS: what the functions of programs.py and plain.py compute. -/
namespace DL
open PySem L2
section
variable {e : Sl} {st : Sto} {g : Prog} {m : Mean} {x : Secr} {s : PS}
@[simp] theorem fz_psd : fz s.d e = some (s.d, e) := rfl
@[simp] theorem vw_psd : vw s.d e st = s.d := rfl
@[simp] theorem retv_psd : retv s.d e st = .rt (.val s.d) st := rfl
@[simp] theorem fz_pgd : fz g.d e = some (g.d, e) := rfl
@[simp] theorem vw_pgd : vw g.d e st = g.d := rfl
@[simp] theorem retv_pgd : retv g.d e st = .rt (.val g.d) st := rfl
@[simp] theorem ix_place : gIx s.d (sx "place") e st = .ok (pl s.place) e st := rfl
@[simp] theorem ix_regs : gIx s.d (sx "registers") e st = .ok (.tup (s.regs.map .int)) e st := by
  refine ix_dk ?_
  simp [lk]
@[simp] theorem ix_slots : gIx s.d (sx "slots") e st = .ok (.tup (s.slots.map .int)) e st := by
  refine ix_dk ?_
  simp [lk]
@[simp] theorem ix_counts : gIx s.d (sx "counts") e st = .ok (.tup (s.counts.map fun n => dn n)) e st := by
  refine ix_dk ?_
  simp [lk]
@[simp] theorem ix_sec : gIx g.d (sx "secret") e st = .ok (.tup (g.sec.map fun n => dn n)) e st := rfl
@[simp] theorem ix_rows : gIx g.d (sx "rows") e st = .ok (.tup (g.rows.map Row.d)) e st := by
  refine ix_dk ?_
  simp [lk]
theorem atI_nat {α : Type} {xs : List α} {i : Nat} : atI xs (i : Int) = xs[i]? := by
  by_cases h : i < xs.length
  · rw [atI_of (by omega) (by omega)]; rfl
  · unfold atI ixN
    rw [if_pos (by omega), if_neg (by omega), List.getElem?_eq_none (by omega)]
    rfl
theorem ix_ints {l : List Int} {i : Nat} (h : i < l.length) : gIx (.tup (l.map .int)) (.int (i : Int)) e st = .ok (.int (rg l i)) e st := by
  refine ix_tup ?_
  rw [atI_nat, List.getElem?_map, List.getElem?_eq_getElem h]
  unfold rg
  rw [List.getD_eq_getElem?_getD, List.getElem?_eq_getElem h]
  rfl
theorem ix_intsL {l : List Int} {i : Nat} (h : i < l.length) : gIx (.lst (l.map .int)) (.int (i : Int)) e st = .ok (.int (rg l i)) e st := by
  refine ix_lst ?_
  rw [atI_nat, List.getElem?_map, List.getElem?_eq_getElem h]
  unfold rg
  rw [List.getD_eq_getElem?_getD, List.getElem?_eq_getElem h]
  rfl
theorem ix_nats {l : List Nat} {i : Nat} (h : i < l.length) : gIx (.tup (l.map fun n => dn n)) (.int (i : Int)) e st = .ok (dn (ct l i)) e st := by
  refine ix_tup ?_
  rw [atI_nat, List.getElem?_map, List.getElem?_eq_getElem h]
  unfold ct
  rw [List.getD_eq_getElem?_getD, List.getElem?_eq_getElem h]
  rfl
theorem ix_nat0 {l : List Nat} (h : 0 < l.length) : gIx (.tup (l.map fun n => dn n)) (.int 0) e st = .ok (dn (ct l 0)) e st := ix_nats (i := 0) h
theorem ix_nat1 {l : List Nat} (h : 1 < l.length) : gIx (.tup (l.map fun n => dn n)) (.int 1) e st = .ok (dn (ct l 1)) e st := ix_nats (i := 1) h
theorem ix_nat2 {l : List Nat} (h : 2 < l.length) : gIx (.tup (l.map fun n => dn n)) (.int 2) e st = .ok (dn (ct l 2)) e st := ix_nats (i := 2) h
theorem ix_row {g : Prog} (h : g.Ok) {p : Nat} (hp : p < g.rows.length) : gIx (.tup (g.rows.map Row.d)) (.int (p : Int)) e st = .ok (rowAt g p).d e st := by
  refine ix_tup ?_
  rw [atI_nat, List.getElem?_map, (rowAt_ok h hp).1]
  rfl
@[simp] theorem fz_row {r : Row} : fz r.d e = some (r.d, e) := by cases r <;> rfl
@[simp] theorem vw_row {r : Row} : vw r.d e st = r.d := by cases r <;> rfl
@[simp] theorem row_0 {r : Row} : gIx r.d (.int 0) e st = .ok (sx r.w) e st := by cases r <;> rfl
@[simp] theorem t0_1 {a b : D} {l : List D} : gIx (.tup (a :: b :: l)) (.int 1) e st = .ok b e st := ix_tup (by rw [atI_of (by omega) (by simp; omega)]; rfl)
@[simp] theorem t0_2 {a b c : D} {l : List D} : gIx (.tup (a :: b :: c :: l)) (.int 2) e st = .ok c e st := ix_tup (by rw [atI_of (by omega) (by simp; omega)]; rfl)
@[simp] theorem t0_3 {a b c d : D} {l : List D} : gIx (.tup (a :: b :: c :: d :: l)) (.int 3) e st = .ok d e st := ix_tup (by rw [atI_of (by omega) (by simp; omega)]; rfl)
@[simp] theorem t0_0 {a : D} {l : List D} : gIx (.tup (a :: l)) (.int 0) e st = .ok a e st := ix_tup (by rw [atI_of (by omega) (by simp)]; rfl)
@[simp] theorem fz_pl {o : Option Nat} : fz (pl o) e = some (pl o, e) := by cases o <;> rfl
@[simp] theorem isN_pl {o : Option Nat} : isN (pl o) = o.isNone := by cases o <;> rfl
@[simp] theorem gIsN_at {d : D} : gIsN .non d e st = .ok (.bl (isN d)) e st := rfl
@[simp] theorem gNotN_at {d : D} : gNotN .non d e st = .ok (.bl (!isN d)) e st := rfl
@[simp] theorem isN_int {i : Int} : isN (.int i) = false := rfl
@[simp] theorem isN_non : isN .non = true := rfl
@[simp] theorem isN_str {i : Str} : isN (.str i) = false := rfl
theorem cut_to {xs : List D} (j : Nat) : cutD xs none (some (j : Int)) = xs.take j := by
  unfold cutD
  rw [HT.sIx_none, HT.sIx_nat, List.drop_zero, Nat.sub_zero]
  rcases Nat.le_total j xs.length with h | h
  · rw [Nat.min_eq_left h]
  · rw [Nat.min_eq_right h, List.take_of_length_le (Nat.le_refl _), List.take_of_length_le h]
theorem cut_from {xs : List D} (j : Nat) : cutD xs (some (j : Int)) none = xs.drop j := by
  unfold cutD
  rw [HT.sIx_none, HT.sIx_nat]
  rcases Nat.le_total j xs.length with h | h
  · rw [Nat.min_eq_left h, List.take_of_length_le (by simp)]
  · rw [Nat.min_eq_right h, Nat.sub_self, List.take_zero, List.drop_eq_nil_of_le h]
theorem set_cut {α : Type} {l : List α} {i : Nat} (h : i < l.length) (a : α) : l.take i ++ a :: l.drop (i + 1) = l.set i a := by
  rw [List.set_eq_take_append_cons_drop, if_pos h]
theorem sp_with_part {ds : List D} {i : Nat} {v : D} (h : i < ds.length) (hl : ds.length ≤ 1000) (hv : Ty v = true) (st : Sto) : fn_with_part [.tup ds, .int (i : Int), v] st = .ok (.val (.tup (ds.set i v))) st := by
  unfold fn_with_part g_with_part
  rw [fnOf_at]
  have c1 := cut_to (xs := ds) i
  have c2 : cutD ds (some ((i : Int) + 1)) none = ds.drop (i + 1) := by rw [← cut_from]; rfl
  have a1 := fun e => addT' (a := ds.take i) (b := [v]) (e := e) (s := st) (by simp; unfold lim; omega)
  have a2 := fun e => addT' (a := ds.take i ++ [v]) (b := ds.drop (i + 1)) (e := e) (s := st) (by simp; unfold lim; omega)
  have hs := set_cut h v
  simp only [List.append_assoc, List.cons_append, List.nil_append, hs] at a1 a2
  simp [eSl, ePart, gCut, c1, c2, a1, a2, lim, fz_ty hv, List.replicate]
theorem sp_wp_ints {l : List Int} {i : Nat} {v : Int} (h : i < l.length) (hl : l.length ≤ 1000) (st : Sto) : fn_with_part [.tup (l.map .int), .int (i : Int), .int v] st = .ok (.val (.tup ((l.set i v).map .int))) st := by
  rw [sp_with_part (by simpa using h) (by simpa using hl) rfl, List.map_set]
theorem sp_wp_nats {l : List Nat} {i : Nat} {v : Nat} (h : i < l.length) (hl : l.length ≤ 1000) (st : Sto) : fn_with_part [.tup (l.map fun n => dn n), .int (i : Int), .int (v : Int)] st = .ok (.val (.tup ((l.set i v).map fun n => dn n))) st := by
  rw [sp_with_part (by simpa using h) (by simpa using hl) rfl, List.map_set]
theorem in_arr {A : Nat} {d : D} (h : arrD m A d) (v : Int) : gIn false (.int v) d e st = .ok (.bl (m.arr A v)) e st := by
  obtain ⟨kvs, rfl, h⟩ := h
  unfold gIn
  simp only [vw_dk, toK, h, bxor]
  rfl
/-- what the meaning has -/
theorem mrep_at {d : D} (h : MRep m d) : ∃ (a0 a1 : D) (asked loaded : List Int) (mixed : List D), Ty d = true ∧ (∀ e st, gIx d (sx "arrays") e st = .ok (.tup [a0, a1]) e st) ∧ (∀ e st, gIx d (sx "asked") e st = .ok (.lst (asked.map .int)) e st) ∧
    (∀ e st, gIx d (sx "mixed") e st = .ok (.lst mixed) e st) ∧ (∀ e st, gIx d (sx "loaded") e st = .ok (.lst (loaded.map .int)) e st) ∧ arrD m 0 a0 ∧ arrD m 1 a1 ∧ (∀ k, asked.getD k 0 = m.ask k) ∧ (∀ k, loaded.getD k 0 = m.ld k) ∧ (∀ k t, mixed[k]? = some t → mixD m k t) ∧ (∀ k x y, mixed.length ≤ k → m.mix k x y = 0) := by
  obtain ⟨a0, a1, asked, loaded, mixed, rfl, hh⟩ := h.ex
  exact ⟨a0, a1, asked, loaded, mixed, rfl, fun e st => ix_dk (by simp [lk]), fun e st => ix_dk (by simp [lk]), fun e st => ix_dk (by simp [lk]), fun e st => ix_dk (by simp [lk]), hh⟩
theorem srep_at {d : D} (h : SRepr x d) : ∃ (regs loaded : List Int), Ty d = true ∧ (∀ e st, gIx d (sx "registers") e st = .ok (.lst (regs.map .int)) e st) ∧ (∀ e st, gIx d (sx "loaded") e st = .ok (.lst (loaded.map .int)) e st) ∧ (∀ k, regs.getD k 0 = x.reg k) ∧ (∀ k, loaded.getD k 0 = x.ld k) := by
  obtain ⟨regs, loaded, rfl, hh⟩ := h.ex
  exact ⟨regs, loaded, rfl, fun e st => ix_dk (by simp [lk]), fun e st => ix_dk (by simp [lk]), hh⟩
theorem sp_is_in {d : D} (h : MRep m d) {A : Nat} (hA : A < 2) (v : Int) (st : Sto) : fn_is_in [d, .int (A : Int), .int v] st = .ok (.val (.bl (m.isIn A v))) st := by
  obtain ⟨a0, a1, asked, loaded, mixed, ht, x1, x2, x3, x4, h0, h1, h2, h3, h4, h5⟩ := mrep_at h
  unfold fn_is_in g_is_in Mean.isIn
  rw [fnOf_at]
  have hA' : A = 0 ∨ A = 1 := by omega
  rcases hA' with rfl | rfl
  · have := fun e => in_arr (e := e) (st := st) h0 v
    simp [List.replicate, x1, this]
    by_cases hv : v = 0 <;> simp [hv]
  · have := fun e => in_arr (e := e) (st := st) h1 v
    simp [List.replicate, x1, this]
    by_cases hv : v = 0 <;> simp [hv]
theorem sp_at_place {l : List Int} (k : Nat) (st : Sto) : fn_at_place [.lst (l.map .int), .int (k : Int)] st = .ok (.val (.int (l.getD k 0))) st := by
  unfold fn_at_place g_at_place
  rw [fnOf_at]
  by_cases h : k < l.length
  · simp [List.replicate, h, ix_intsL h, rg]
  · have : l.getD k 0 = 0 := by rw [List.getD_eq_getElem?_getD, List.getElem?_eq_none (by omega)]; rfl
    simp only [this]
    simp [List.replicate, h]
theorem sp_asked {d : D} (h : MRep m d) (k : Nat) (st : Sto) : fn_asked [d, .int (k : Int)] st = .ok (.val (.int (m.ask k))) st := by
  obtain ⟨a0, a1, asked, loaded, mixed, ht, x1, x2, x3, x4, h0, h1, h2, h3, h4, h5⟩ := mrep_at h
  unfold fn_asked g_asked
  rw [fnOf_at]
  have q := sp_at_place (l := asked) k st
  rw [h2] at q
  simp [List.replicate, x2, q]
theorem sp_loaded {d : D} (h : MRep m d) (k : Nat) (st : Sto) : fn_loaded [d, .int (k : Int)] st = .ok (.val (.int (m.ld k))) st := by
  obtain ⟨a0, a1, asked, loaded, mixed, ht, x1, x2, x3, x4, h0, h1, h2, h3, h4, h5⟩ := mrep_at h
  unfold fn_loaded g_loaded
  rw [fnOf_at]
  have q := sp_at_place (l := loaded) k st
  rw [h3] at q
  simp [List.replicate, x4, q]
theorem sp_loaded_secret {d : D} (h : SRepr x d) (k : Nat) (st : Sto) : fn_loaded_secret [d, .int (k : Int)] st = .ok (.val (.int (x.ld k))) st := by
  obtain ⟨regs, loaded, ht, x1, x2, h2, h3⟩ := srep_at h
  unfold fn_loaded_secret g_loaded_secret
  rw [fnOf_at]
  have q := sp_at_place (l := loaded) k st
  rw [h3] at q
  simp [List.replicate, x2, q]
theorem get_mix {k : Nat} {d : D} (h : mixD m k d) (a b : Int) : isD d = true ∧ vw d e st = d ∧ gGet d (.tup [.int a, .int b]) (.int 0) e st = .ok (.int (m.mix k a b)) e st := by
  obtain ⟨kvs, rfl, h⟩ := h
  refine ⟨rfl, rfl, ?_⟩
  unfold gGet
  simp only [vw_dt, toKs, toK, h]
theorem sp_mixed {d : D} (h : MRep m d) (k : Nat) (a b : Int) (st : Sto) : fn_mixed [d, .int (k : Int), .int a, .int b] st = .ok (.val (.int (m.mix k a b))) st := by
  obtain ⟨a0, a1, asked, loaded, mixed, ht, x1, x2, x3, x4, h0, h1, h2, h3, h4, h5⟩ := mrep_at h
  unfold fn_mixed g_mixed
  rw [fnOf_at]
  by_cases hk : k < mixed.length
  · obtain ⟨t, ht⟩ : ∃ t, mixed[k]? = some t := ⟨mixed[k], List.getElem?_eq_getElem hk⟩
    have hx := fun e => ix_lst (e := e) (s := st) (i := (k : Int)) (ds := mixed) (d := t) (by rw [atI_nat, ht])
    have hg := fun e => get_mix (e := e) (st := st) (h4 k t ht) a b
    have hi := (hg []).1
    simp [List.replicate, x3, hk, hx, eGet, hg, hi, lim]
  · have := h5 k a b (by omega)
    simp [List.replicate, x3, hk, this]
end
end DL
end
section
set_option Elab.async false
set_option linter.all false
set_option maxRecDepth 100000
set_option maxHeartbeats 4000000
set_option autoImplicit false
/-! PT: the steps of the plain machine. -/
namespace DL
open PySem L2
section
variable {e : Sl} {st : Sto} {g : Prog} {m : Mean} {x : Secr} {s : PS} {dm dx : D}
def ps_put (s : PS) (p : Option Nat) : PS := { s with place := p }
theorem pt_place (s : PS) (p : Option Nat) : putC s.d (sx "place") (pl p) = some (ps_put s p).d := by
  unfold putC PS.d ps_put
  simp [toK, lim, pt, hasK]
theorem pt_regs (s : PS) (l : List Int) : putC s.d (sx "registers") (.tup (l.map .int)) = some ({ s with regs := l } : PS).d := by
  unfold putC PS.d
  simp [toK, lim, pt, hasK]
theorem pt_slots (s : PS) (l : List Int) : putC s.d (sx "slots") (.tup (l.map .int)) = some ({ s with slots := l } : PS).d := by
  unfold putC PS.d
  simp [toK, lim, pt, hasK]
theorem pt_counts (s : PS) (l : List Nat) : putC s.d (sx "counts") (.tup (l.map fun n => dn n)) = some ({ s with counts := l } : PS).d := by
  unfold putC PS.d
  simp [toK, lim, pt, hasK]
theorem sPut_at {i : Nat} {fk fv : EF} {c c' k d : D} {e : Sl} (h : e[i]? = some (some (.own c))) (hv : eFz fv e st = .ok d e st) (hk : eFz fk e st = .ok k e st) (hp : putC c k d = some c') : sPut i fk fv e st = .nx (e.set i (some (.own c'))) st := by
  unfold sPut
  rw [h]
  simp only [hv, bS_ok, hk, h, hp]
@[simp] theorem dict_psd : gDict s.d e st = .ok s.d e st := rfl
@[simp] theorem ty_psd : Ty s.d = true := rfl
@[simp] theorem ty_row {r : Row} : Ty r.d = true := by cases r <;> rfl
@[simp] theorem ty_pl {o : Option Nat} : Ty (pl o) = true := by cases o <;> rfl
/-- the changes of gone_on -/
inductive Chg where
  | regs (l : List Int) | slots (l : List Int) | counts (l : List Nat)
def Chg.d : Chg → D
  | .regs l => .tup [sx "registers", .tup (l.map .int)]
  | .slots l => .tup [sx "slots", .tup (l.map .int)]
  | .counts l => .tup [sx "counts", .tup (l.map fun n => dn n)]
def Chg.ap (s : PS) : Chg → PS
  | .regs l => { s with regs := l }
  | .slots l => { s with slots := l }
  | .counts l => { s with counts := l }
theorem chg_1 (c : Chg) (s : PS) (x0 x1 x2 x4 x5 : Option SV) (st : Sto) : ∃ e1 y4 y5, bTup 2 (bCons (bName 4) (bCons (bName 5) bNil)) c.d [x0, x1, x2, some (.own s.d), x4, x5] = some e1 ∧ b_gone_on_1 e1 st = .nx [x0, x1, x2, some (.own (c.ap s).d), y4, y5] st := by
  cases c with
  | regs l =>
    refine ⟨_, some (.val (sx "registers")), some (.val (.tup (l.map .int))), rfl, ?_⟩
    exact sPut_at (c' := (Chg.ap s (.regs l)).d) rfl (by simp) (by simp) (pt_regs s l)
  | slots l =>
    refine ⟨_, some (.val (sx "slots")), some (.val (.tup (l.map .int))), rfl, ?_⟩
    exact sPut_at (c' := (Chg.ap s (.slots l)).d) rfl (by simp) (by simp) (pt_slots s l)
  | counts l =>
    refine ⟨_, some (.val (sx "counts")), some (.val (.tup (l.map fun n => dn n))), rfl, ?_⟩
    exact sPut_at (c' := (Chg.ap s (.counts l)).d) rfl (by simp) (by simp) (pt_counts s l)
theorem chg_all : ∀ (cs : List Chg) (s : PS) (x0 x1 x2 x4 x5 : Option SV) (st : Sto), ∃ y4 y5, forL (bTup 2 (bCons (bName 4) (bCons (bName 5) bNil))) b_gone_on_1 (cs.map Chg.d) [x0, x1, x2, some (.own s.d), x4, x5] st = .nx [x0, x1, x2, some (.own (cs.foldl Chg.ap s).d), y4, y5] st
  | [], s, x0, x1, x2, x4, x5, st => ⟨_, _, rfl⟩
  | c :: cs, s, x0, x1, x2, x4, x5, st => by
    obtain ⟨e1, y4, y5, h1, h2⟩ := chg_1 c s x0 x1 x2 x4 x5 st
    obtain ⟨z4, z5, h3⟩ := chg_all cs (c.ap s) x0 x1 x2 y4 y5 st
    refine ⟨z4, z5, ?_⟩
    rw [List.map_cons]
    unfold forL
    simp only [h1, h2, h3]
    rfl
theorem sp_gone_on (s : PS) (p : Option Nat) (cs : List Chg) (st : Sto) : fn_gone_on [s.d, pl p, .lst (cs.map Chg.d)] st = .ok (.new (cs.foldl Chg.ap (ps_put s p)).d) st := by
  unfold fn_gone_on g_gone_on
  rw [fnOf_at]
  simp only [List.map_cons, List.map_nil, List.length_cons, List.length_nil, List.cons_append, List.nil_append, List.replicate, Nat.zero_add, Nat.reduceSub, Nat.reduceAdd]
  obtain ⟨y4, y5, h⟩ := chg_all cs (ps_put s p) (some (.val s.d)) (some (.val (pl p))) (some (.val (.lst (cs.map Chg.d)))) none none st
  have hf : ∀ e : Sl, e[2]? = some (some (.val (.lst (cs.map Chg.d)))) → sFor (iSeq (eVar 2)) (bTup 2 (bCons (bName 4) (bCons (bName 5) bNil))) b_gone_on_1 e st = forL (bTup 2 (bCons (bName 4) (bCons (bName 5) bNil))) b_gone_on_1 (cs.map Chg.d) e st := fun e he =>
    sFor_at (iSeq_at (d := .lst (cs.map Chg.d)) (by simp [he]) rfl)
  have hp : ∀ e : Sl, e[3]? = some (some (.own s.d)) → e[1]? = some (some (.val (pl p))) → sPut 3 (eK (sx "place")) (eVar 1) e st = .nx (e.set 3 (some (.own (ps_put s p).d))) st := fun e h3 h1 =>
    sPut_at h3 (by simp [h1]) (by simp) (pt_place s p)
  simp [hp, hf, h]
theorem sp_outcome (hg : g.Ok) (hs : s.Ok g.rows.length) (hm : MRep m dm) (st : Sto) : fn_outcome [g.d, dm, s.d] st = .ok (.val (outD (outP g m s))) st := by
  unfold fn_outcome g_outcome
  rw [fnOf_at]
  obtain ⟨p, regs, slots, counts⟩ := s
  cases p with
  | none => simp [List.replicate, outD, outP]
  | some p =>
    have hp := hs.place p rfl
    have ho : outP g m ⟨some p, regs, slots, counts⟩ = match rowAt g p with
      | .test a A _ => some (m.isIn A (rg regs a))
      | _ => none := rfl
    rw [ho]
    clear ho
    have hr' := fun e => ix_row (e := e) (st := st) hg hp
    have hok := (rowAt_ok hg hp).2
    have hl := hs.regs
    simp only at hl
    generalize rowAt g p = r at *
    have hdm : ∀ e, fz dm e = some (dm, e) := by
      obtain ⟨a0, a1, asked, loaded, mixed, rfl, _⟩ := hm.ex
      exact fun _ => rfl
    cases r with
    | test a A t =>
      have hq := fun e => ix_ints (e := e) (st := st) (l := regs) (i := a) (by rw [hl]; exact hok.1)
      have hi := sp_is_in hm hok.2.1 (rg regs a) st
      cases hb : m.isIn A (rg regs a)
      all_goals
        rw [hb] at hi
        simp [List.replicate, pl, hr', Row.w, Row.d, hq, hi, hdm, hb, outD, way]
    | _ => simp [List.replicate, pl, hr', Row.w, outD, hdm]
end
end DL
end
section
set_option Elab.async false
set_option linter.all false
set_option maxRecDepth 100000
set_option maxHeartbeats 4000000
set_option autoImplicit false
/-! PU: after_step. -/
namespace DL
open PySem L2
section
variable {e : Sl} {st : Sto} {g : Prog} {m : Mean} {x : Secr} {s : PS} {dm dx : D}
theorem MRep.ty (h : MRep m dm) : Ty dm = true := by obtain ⟨a0, a1, asked, loaded, mixed, rfl, _⟩ := h.ex; rfl
theorem SRepr.ty (h : SRepr x dx) : Ty dx = true := by obtain ⟨a0, a1, rfl, _⟩ := h.ex; rfl
theorem sp_counted {s : PS} {k : Nat} (hc : s.counts.length = 3) (hk : k < 3) (st : Sto) : fn_counted [s.d, .int (k : Int)] st = .ok (.val (.tup ((up s.counts k).map fun n => dn n))) st := by
  unfold fn_counted g_counted
  rw [fnOf_at]
  have h1 := fun e => ix_nats (e := e) (st := st) (l := s.counts) (i := k) (by omega)
  have h2 := sp_wp_nats (l := s.counts) (i := k) (v := ct s.counts k + 1) (by omega) (by omega) st
  have hc : ((ct s.counts k + 1 : Nat) : Int) = (ct s.counts k : Int) + 1 := by omega
  rw [hc] at h2
  simp [-List.map_set, List.replicate, h1, h2]
  rfl
theorem g0 (s : PS) (p : Option Nat) (st : Sto) : fn_gone_on [s.d, pl p, .lst []] st = .ok (.new (ps_put s p).d) st := sp_gone_on s p [] st
theorem g0n (s : PS) (st : Sto) : fn_gone_on [s.d, .non, .lst []] st = .ok (.new (ps_put s none).d) st := sp_gone_on s none [] st
theorem g0s (s : PS) (p : Nat) (st : Sto) : fn_gone_on [s.d, .int (p : Int), .lst []] st = .ok (.new (ps_put s (some p)).d) st := sp_gone_on s (some p) [] st
theorem g0p (s : PS) (p : Nat) (st : Sto) : fn_gone_on [s.d, .int ((p : Int) + 1), .lst []] st = .ok (.new (ps_put s (some (p + 1))).d) st := sp_gone_on s (some (p + 1)) [] st
theorem g1s (s : PS) (p : Nat) (l : List Int) (st : Sto) : fn_gone_on [s.d, .int ((p : Int) + 1), .lst [.tup [sx "slots", .tup (l.map .int)]]] st = .ok (.new ({ s with place := some (p + 1), slots := l } : PS).d) st := sp_gone_on s (some (p + 1)) [.slots l] st
theorem g1r (s : PS) (p : Nat) (l : List Int) (st : Sto) : fn_gone_on [s.d, .int ((p : Int) + 1), .lst [.tup [sx "registers", .tup (l.map .int)]]] st = .ok (.new ({ s with place := some (p + 1), regs := l } : PS).d) st := sp_gone_on s (some (p + 1)) [.regs l] st
theorem g2r (s : PS) (p : Nat) (l : List Int) (c : List Nat) (st : Sto) : fn_gone_on [s.d, .int ((p : Int) + 1), .lst [.tup [sx "registers", .tup (l.map .int)], .tup [sx "counts", .tup (c.map fun n => dn n)]]] st = .ok (.new ({ s with place := some (p + 1), regs := l, counts := c } : PS).d) st := sp_gone_on s (some (p + 1)) [.regs l, .counts c] st
/-- what is at hand at a place -/
structure At (g : Prog) (s : PS) (p : Nat) (r : Row) : Prop where
  place : s.place = some p
  lt : p < g.rows.length
  ix : ∀ (e : Sl) (st : Sto), gIx (.tup (g.rows.map Row.d)) (.int (p : Int)) e st = .ok r.d e st
  ok : r.ok g.rows.length
theorem at_of (hg : g.Ok) (hs : s.Ok g.rows.length) {p : Nat} (h : s.place = some p) : At g s p (rowAt g p) :=
  ⟨h, hs.place p h, fun e st => ix_row hg (hs.place p h), (rowAt_ok hg (hs.place p h)).2⟩
theorem sp_test_step (hg : g.Ok) (hs : s.Ok g.rows.length) (hm : MRep m dm) {p a A t : Nat} (h : At g s p (.test a A t)) (ho : outP g m s = some (m.isIn A (rg s.regs a))) (st : Sto) :
    fn_test_step [g.d, dm, s.d] st = .ok (.val (.tup [(stepR m x s p (.test a A t)).1.d, seenD p (stepR m x s p (.test a A t)).2])) st := by
  unfold fn_test_step g_test_step
  rw [fnOf_at]
  have h1 := h.ix
  have h2 := sp_outcome hg hs hm st
  rw [ho] at h2
  have hd := fun e => fz_ty (e := e) hm.ty
  simp only [Row.d] at h1
  have hpl : pl s.place = dn p := by rw [h.place]; rfl
  have hsp : ∀ q : Nat, ps_put s (some q) = { s with place := some q } := fun _ => rfl
  cases hb : m.isIn A (rg s.regs a) with
  | true =>
    rw [hb] at h2
    simp [-List.map_set, List.replicate, h2, h1, hpl, hd, outD, way, g0p, lim, stepR, hb, seenD, Seen.d, hsp]
  | false =>
    rw [hb] at h2
    simp [-List.map_set, List.replicate, h2, h1, hpl, hd, outD, way, g0s, lim, stepR, hb, seenD, Seen.d, hsp]
theorem gMul_b {a : Int} {b : Bool} : gMul (.int a) (.int (if b = true then 1 else 0)) e st = .ok (.int (if b = true then a else 0)) e st := by
  rw [gMul_r (by cases b <;> decide) (by cases b <;> decide)]
  cases b <;> simp
@[simp] theorem int_bl {b : Bool} : gInt (.bl b) e st = .ok (.int (if b then 1 else 0)) e st := rfl
/-- the rows that give a register a value -/
def Row.reg : Row → Option Nat
  | .ask r => some r | .mix r _ _ => some r | .load r _ _ => some r | .mask r _ _ => some r | .get r _ => some r | _ => none
theorem sp_new_value (hs : s.Ok g.rows.length) (hm : MRep m dm) (hx : SRepr x dx) {r : Row} (hr : r.ok g.rows.length) (hk : r.reg ≠ none) (st : Sto) :
    fn_new_value [r.d, dm, dx, s.d] st = .ok (.val (.int (newV m x s r))) st := by
  unfold fn_new_value g_new_value
  rw [fnOf_at]
  have hd := fun e => fz_ty (e := e) hm.ty
  have hd2 := fun e => fz_ty (e := e) hx.ty
  have c3 := hs.counts
  have r4 := hs.regs
  have s2 := hs.slots
  have c0 := fun e => ix_nat0 (e := e) (st := st) (l := s.counts) (by omega)
  have c1 := fun e => ix_nat1 (e := e) (st := st) (l := s.counts) (by omega)
  have c2 := fun e => ix_nat2 (e := e) (st := st) (l := s.counts) (by omega)
  cases r <;> first | exact absurd rfl hk | skip
  case ask r => simp [-List.map_set, List.replicate, Row.w, Row.d, newV, hd, hd2, c0, sp_asked hm]
  case mix r a b =>
    have h1 := fun e => ix_ints (e := e) (st := st) (l := s.regs) (i := a) (by rw [r4]; exact hr.2.1)
    have h2 := fun e => ix_ints (e := e) (st := st) (l := s.regs) (i := b) (by rw [r4]; exact hr.2.2)
    simp [-List.map_set, List.replicate, Row.w, Row.d, newV, hd, hd2, c1, h1, h2, sp_mixed hm]
  case load r A a =>
    have h1 := fun e => ix_ints (e := e) (st := st) (l := s.regs) (i := a) (by rw [r4]; exact hr.2.2)
    have h2 := sp_is_in hm hr.2.1 (rg s.regs a) st
    cases hb : m.isIn A (rg s.regs a)
    all_goals
      rw [hb] at h2
      simp [-List.map_set, List.replicate, Row.w, Row.d, newV, hd, hd2, c2, h1, h2, hb, sp_loaded hm, sp_loaded_secret hx]
  case mask r A a =>
    have h1 := fun e => ix_ints (e := e) (st := st) (l := s.regs) (i := a) (by rw [r4]; exact hr.2.2)
    have h2 := sp_is_in hm hr.2.1 (rg s.regs a) st
    simp [-List.map_set, List.replicate, Row.w, Row.d, newV, hd, hd2, c2, h1, h2, gMul_b]
  case get r k =>
    have h1 := fun e => ix_ints (e := e) (st := st) (l := s.slots) (i := k) (by rw [s2]; exact hr.2)
    simp [-List.map_set, List.replicate, Row.w, Row.d, newV, hd, hd2, h1]
theorem sApp_one {i : Nat} {f : EF} {d : D} {ds : List D} {e : Sl} (h : e[i]? = some (some (.own (.lst ds)))) (hf : eFz f e st = .ok d e st) (hl : ds.length < 1000) : sApp i f e st = .nx (e.set i (some (.own (.lst (ds ++ [d]))))) st := sApp_at h hf (by unfold lim; omega)
theorem sp_register_step (hs : s.Ok g.rows.length) (hm : MRep m dm) (hx : SRepr x dx) {p : Nat} {r : Row} (h : At g s p r) (hk : r.reg ≠ none) (st : Sto) :
    fn_register_step [g.d, dm, dx, s.d] st = .ok (.val (.tup [(stepR m x s p r).1.d, seenD p (stepR m x s p r).2])) st := by
  have hnv := sp_new_value hs hm hx h.ok hk st
  have hpl : pl s.place = dn p := by rw [h.place]; rfl
  have h1 := h.ix
  have hd := fun e => fz_ty (e := e) hm.ty
  have hd2 := fun e => fz_ty (e := e) hx.ty
  have hr := h.ok
  have r4 := hs.regs
  have c3 := hs.counts
  have k0 : fn_counted [s.d, .int 0] st = _ := sp_counted (s := s) (k := 0) c3 (by omega) st
  have k1 : fn_counted [s.d, .int 1] st = _ := sp_counted (s := s) (k := 1) c3 (by omega) st
  have k2 : fn_counted [s.d, .int 2] st = _ := sp_counted (s := s) (k := 2) c3 (by omega) st
  have hsl : (s : PS) = ⟨s.place, s.regs, s.slots, s.counts⟩ := rfl
  unfold fn_register_step g_register_step
  rw [fnOf_at]
  cases r <;> first | exact absurd rfl hk | skip
  case ask r =>
    have w := sp_wp_ints (l := s.regs) (i := r) (v := newV m x s (.ask r)) (by rw [r4]; exact hr) (by omega) st
    simp only [Row.d, newV] at h1 hnv w
    simp [-List.map_set, List.replicate, Row.w, hnv, h1, hpl, hd, hd2, w, lim, gIn, flatD, eqF, bxor, eIdx, gIdx, allO, asS, idx, sApp, k0, g2r, stepR, seenD, Seen.d]
  case mix r a b =>
    have w := sp_wp_ints (l := s.regs) (i := r) (v := newV m x s (.mix r a b)) (by rw [r4]; exact hr.1) (by omega) st
    simp only [Row.d, newV] at h1 hnv w
    simp [-List.map_set, List.replicate, Row.w, hnv, h1, hpl, hd, hd2, w, lim, gIn, flatD, eqF, bxor, eIdx, gIdx, allO, asS, idx, sApp, k1, g2r, stepR, seenD, Seen.d]
  case load r A a =>
    have w := sp_wp_ints (l := s.regs) (i := r) (v := newV m x s (.load r A a)) (by rw [r4]; exact hr.1) (by omega) st
    have q := fun e => ix_ints (e := e) (st := st) (l := s.regs) (i := a) (by rw [r4]; exact hr.2.2)
    simp only [Row.d, newV] at h1 hnv w
    simp [-List.map_set, List.replicate, Row.w, hnv, h1, hpl, hd, hd2, w, q, lim, gIn, flatD, eqF, bxor, eIdx, gIdx, allO, asS, idx, sApp, k2, g2r, stepR, seenD, Seen.d]
  case mask r A a =>
    have w := sp_wp_ints (l := s.regs) (i := r) (v := newV m x s (.mask r A a)) (by rw [r4]; exact hr.1) (by omega) st
    simp only [Row.d, newV] at h1 hnv w
    simp [-List.map_set, List.replicate, Row.w, hnv, h1, hpl, hd, hd2, w, lim, gIn, flatD, eqF, bxor, eIdx, gIdx, allO, asS, idx, sApp, g1r, stepR, seenD, Seen.d]
  case get r k =>
    have w := sp_wp_ints (l := s.regs) (i := r) (v := newV m x s (.get r k)) (by rw [r4]; exact hr.1) (by omega) st
    simp only [Row.d, newV] at h1 hnv w
    simp [-List.map_set, List.replicate, Row.w, hnv, h1, hpl, hd, hd2, w, lim, gIn, flatD, eqF, bxor, eIdx, gIdx, allO, asS, idx, sApp, g1r, stepR, seenD, Seen.d]
theorem sp_after_step (hg : g.Ok) (hs : s.Ok g.rows.length) (hm : MRep m dm) (hx : SRepr x dx) {p : Nat} (hp : s.place = some p) (st : Sto) :
    fn_after_step [g.d, dm, dx, s.d] st = .ok (.val (.tup [(stepR m x s p (rowAt g p)).1.d, seenD p (stepR m x s p (rowAt g p)).2])) st := by
  have h := at_of hg hs hp
  have hr := rowAt_ok hg h.lt
  have hpl : pl s.place = dn p := by rw [h.place]; rfl
  have ho : outP g m s = match rowAt g p with
    | .test a A _ => some (m.isIn A (rg s.regs a))
    | _ => none := by unfold outP; rw [hp] <;> rfl
  have hrs := fun hk => sp_register_step (m := m) (x := x) hs hm hx h hk st
  have hts := fun (a A t : Nat) (hrow : rowAt g p = .test a A t) => sp_test_step (x := x) hg hs hm (by rw [← hrow]; exact h) (by rw [ho, hrow]) st
  have hd := fun e => fz_ty (e := e) hm.ty
  have hd2 := fun e => fz_ty (e := e) hx.ty
  have h1 := h.ix
  have hrok := h.ok
  have r4 := hs.regs
  have s2 := hs.slots
  unfold fn_after_step g_after_step
  rw [fnOf_at]
  have hsp : ∀ q : Option Nat, ps_put s q = { s with place := q } := fun _ => rfl
  generalize rowAt g p = r at *
  cases r
  case test a A t =>
    have h2 := hts a A t rfl
    simp [-List.map_set, List.replicate, Row.w, h1, hpl, hd, hd2, h2]
  case fin => simp [-List.map_set, List.replicate, Row.w, h1, hpl, hd, hd2, g0n, lim, stepR, seenD, Seen.d, hsp]
  case jump t => simp [-List.map_set, List.replicate, Row.w, Row.d, h1, hpl, hd, hd2, g0s, lim, stepR, seenD, Seen.d, hsp]
  case fence => simp [-List.map_set, List.replicate, Row.w, h1, hpl, hd, hd2, g0p, lim, stepR, seenD, Seen.d, hsp]
  case put k a =>
    have q := fun e => ix_ints (e := e) (st := st) (l := s.regs) (i := a) (by rw [r4]; exact hrok.2)
    have w := sp_wp_ints (l := s.slots) (i := k) (v := rg s.regs a) (by rw [s2]; exact hrok.1) (by omega) st
    simp only [Row.d] at h1
    simp [-List.map_set, List.replicate, Row.w, h1, hpl, hd, hd2, g1s, q, w, lim, stepR, seenD, Seen.d]
  case ask r => simp [-List.map_set, List.replicate, Row.w, h1, hpl, hd, hd2, hrs (by simp [Row.reg])]
  case mix r a b => simp [-List.map_set, List.replicate, Row.w, h1, hpl, hd, hd2, hrs (by simp [Row.reg])]
  case load r A a => simp [-List.map_set, List.replicate, Row.w, h1, hpl, hd, hd2, hrs (by simp [Row.reg])]
  case mask r A a => simp [-List.map_set, List.replicate, Row.w, h1, hpl, hd, hd2, hrs (by simp [Row.reg])]
  case get r k => simp [-List.map_set, List.replicate, Row.w, h1, hpl, hd, hd2, hrs (by simp [Row.reg])]
theorem sp_after_none (hs : s.place = none) (hm : MRep m dm) (hx : SRepr x dx) (st : Sto) : fn_after_step [g.d, dm, dx, s.d] st = .exc (Str.ofString "NotValid") st := by
  have hpl : pl s.place = .non := by rw [hs]; rfl
  unfold fn_after_step g_after_step
  rw [fnOf_at]
  simp [-List.map_set, List.replicate, hpl, sRaise]
end
end DL
end
section
set_option Elab.async false
set_option linter.all false
set_option maxRecDepth 100000
set_option maxHeartbeats 4000000
set_option autoImplicit false
/-! PX: the tape and the drawn program. -/
namespace DL
open PySem L2
theorem dn_0 : dn 0 = .int 0 := rfl
theorem dn_1 : dn 1 = .int 1 := rfl
theorem dn_2 : dn 2 = .int 2 := rfl
def tat (t : List Int) (k : Int) : Int := t.getD k.toNat 0
def Tape (t : List Int) : Prop := ∀ x ∈ t, 0 ≤ x ∧ x < 1000
theorem tat_bd {t : List Int} (h : Tape t) (k : Int) : 0 ≤ tat t k ∧ tat t k < 1000 := by
  unfold tat
  rw [List.getD_eq_getElem?_getD]
  cases hx : t[k.toNat]? with
  | none => simp
  | some x => exact h x (List.mem_of_getElem? hx)
theorem sp_at {t : List Int} {k : Int} (hk : 0 ≤ k) (s : Sto) : fn_law_at [.lst (t.map .int), .int k] s = .ok (.val (.int (tat t k))) s := by
  unfold fn_law_at g_law_at
  rw [fnOf_at]
  simp only [List.map_cons, List.map_nil, List.length_cons, List.length_nil, List.cons_append, List.nil_append, List.replicate, Nat.sub_self, Nat.zero_add, Nat.reduceAdd]
  simp only [sSeq_at, sIf_at, eBin_at, eUn_at, eVar, List.getElem?_cons_zero, List.getElem?_cons_succ, b_ok, len_lst, gLt_at, bS_ok, sel_bl, sRet_at]
  by_cases h : k < t.length
  · rw [List.length_map, if_pos (by simpa using h)]
    have : atI (t.map D.int) k = some (.int (tat t k)) := by
      rw [atI_of hk (by simpa using h), List.getElem?_map]
      unfold tat
      rw [List.getD_eq_getElem?_getD]
      cases hx : t[k.toNat]? with
      | none => rw [List.getElem?_eq_none_iff] at hx; omega
      | some x => rfl
    simp [ix_lst this]
  · rw [List.length_map, if_neg (by simpa using h)]
    have : tat t k = 0 := by
      unfold tat
      rw [List.getD_eq_getElem?_getD, List.getElem?_eq_none (by omega)]
      rfl
    simp [this, sRet_at]
/-- a drawn row -/
inductive GRow (m : Int) : D → Prop
  | ask {a : Int} : 0 ≤ a → a < 4 → GRow m (.tup [sx "ask", .int a])
  | mix {a b c : Int} : 0 ≤ a → a < 4 → 0 ≤ b → b < 4 → 0 ≤ c → c < 4 → GRow m (.tup [sx "mix", .int a, .int b, .int c])
  | load {a b c : Int} : 0 ≤ a → a < 4 → 0 ≤ b → b < 2 → 0 ≤ c → c < 4 → GRow m (.tup [sx "load", .int a, .int b, .int c])
  | mask {a b c : Int} : 0 ≤ a → a < 4 → 0 ≤ b → b < 2 → 0 ≤ c → c < 4 → GRow m (.tup [sx "mask", .int a, .int b, .int c])
  | test {a b c : Int} : 0 ≤ a → a < 4 → 0 ≤ b → b < 2 → 0 ≤ c → c < m → GRow m (.tup [sx "test", .int a, .int b, .int c])
  | put {a b : Int} : 0 ≤ a → a < 2 → 0 ≤ b → b < 4 → GRow m (.tup [sx "put", .int a, .int b])
  | get {a b : Int} : 0 ≤ a → a < 4 → 0 ≤ b → b < 2 → GRow m (.tup [sx "get", .int a, .int b])
  | fence : GRow m (.tup [sx "fence"])
  | jump {a : Int} : 0 ≤ a → a < m → GRow m (.tup [sx "jump", .int a])
  | ed : GRow m (.tup [sx "end"])
def kinds : List String := ["ask", "mix", "load", "load", "mask", "test", "test", "put", "get", "get", "fence", "jump", "put", "load"]
theorem map_snoc (t : List Int) (x : Int) : t.map D.int ++ [.int x] = (t ++ [x]).map D.int := by simp
theorem tape_snoc {t : List Int} (h : Tape t) {x : Int} (h1 : 0 ≤ x) (h2 : x < 1000) : Tape (t ++ [x]) := by
  intro y hy
  rcases List.mem_append.mp hy with hy | hy
  · exact h y hy
  · rw [List.mem_singleton.mp hy]; exact ⟨h1, h2⟩
theorem tape_1 (scr : D) (x2 : Option SV) (s : Sto) (t : List Int) (v : Int) (hv : 0 ≤ v) (ht : Tape t) (hl : t.length < 100000) (x4 : Option SV) :
    ∃ e', sFor (iRange1 (eK (.int 60))) (bName 4) b_law_tape_1 [some (.val scr), some (.own (.lst (t.map .int))), x2, some (.val (.int v)), x4] s = .nx e' s ∧
      ∃ (t' : List Int) (v' : Int) (x4 : Option SV), e' = [some (.val scr), some (.own (.lst (t'.map .int))), x2, some (.val (.int v')), x4] ∧ 0 ≤ v' ∧ Tape t' ∧ t'.length ≤ t.length + 60 := by
  obtain ⟨e', h1, h2⟩ := sFor_rng (i := 4) (g := b_law_tape_1) (f := eK (.int 60)) (s := s) (n := 60) (e := [some (.val scr), some (.own (.lst (t.map .int))), x2, some (.val (.int v)), x4])
    (fun m e => ∃ (t' : List Int) (v' : Int) (x4 : Option SV), e = [some (.val scr), some (.own (.lst (t'.map .int))), x2, some (.val (.int v')), x4] ∧ 0 ≤ v' ∧ Tape t' ∧ t'.length ≤ t.length + m)
    rfl (by decide) ⟨t, v, x4, rfl, hv, ht, by omega⟩ (by
      intro m e hm ⟨t', v', x4, he, hv', ht', hl'⟩
      subst he
      unfold b_law_tape_1
      by_cases hp : 0 < v'
      · refine ⟨[some (.val scr), some (.own (.lst ((t' ++ [v' % 1000]).map .int))), x2, some (.val (.int (v' / 1000))), some (.val (.int m))], .inl ?_, t' ++ [v' % 1000], v' / 1000, _, rfl, by omega, tape_snoc ht' (by omega) (by omega), by simp; omega⟩
        have ha := sApp_at (i := 1) (f := eBin (gI kMod) (eVar 3) (eK (.int 1000))) (s := s) (ds := t'.map .int) (d := .int (v' % 1000)) (e := [some (.val scr), some (.own (.lst (t'.map .int))), x2, some (.val (.int v')), some (.val (.int m))]) rfl (by simp [gMod_at]) (by simp; unfold lim; omega)
        simp [hp, ha, gDiv_at]
      · refine ⟨[some (.val scr), some (.own (.lst (t'.map .int))), x2, some (.val (.int v')), some (.val (.int m))], .inl ?_, t', v', _, rfl, hv', ht', by omega⟩
        simp [hp])
  exact ⟨e', h1, h2⟩
theorem tape_2 (scr : D) (k0 : Nat) (hk0 : k0 < 1000) (s : Sto) (t : List Int) (v : Int) (hv : 0 ≤ v) (ht : Tape t) (hl : t.length < 100000) (x4 : Option SV) :
    ∃ e', sFor (iRange1 (eK (.int 4))) (bName 4) b_law_tape_2 [some (.val scr), some (.own (.lst (t.map .int))), some (.val (.int k0)), some (.val (.int v)), x4] s = .nx e' s ∧
      ∃ (t' : List Int) (v' : Int) (x4 : Option SV), e' = [some (.val scr), some (.own (.lst (t'.map .int))), some (.val (.int k0)), some (.val (.int v')), x4] ∧ 0 ≤ v' ∧ Tape t' ∧ t'.length ≤ t.length + 4 := by
  obtain ⟨e', h1, h2⟩ := sFor_rng (i := 4) (g := b_law_tape_2) (f := eK (.int 4)) (s := s) (n := 4) (e := [some (.val scr), some (.own (.lst (t.map .int))), some (.val (.int k0)), some (.val (.int v)), x4])
    (fun m e => ∃ (t' : List Int) (v' : Int) (x4 : Option SV), e = [some (.val scr), some (.own (.lst (t'.map .int))), some (.val (.int k0)), some (.val (.int v')), x4] ∧ 0 ≤ v' ∧ Tape t' ∧ t'.length ≤ t.length + m)
    rfl (by decide) ⟨t, v, x4, rfl, hv, ht, by omega⟩ (by
      intro m e hm ⟨t', v', x4, he, hv', ht', hl'⟩
      subst he
      unfold b_law_tape_2
      generalize hu : (v' * 48271 + 69621 * ((k0 : Int) + 1) + 7 * (m : Int)) % 2147483647 = u
      generalize hw : u * 16807 % 2147483647 = w
      have hw0 : 0 ≤ w ∧ w < 2147483647 := by omega
      refine ⟨[some (.val scr), some (.own (.lst ((t' ++ [w / 1000 % 1000]).map .int))), some (.val (.int k0)), some (.val (.int w)), some (.val (.int m))], .inl ?_, t' ++ [w / 1000 % 1000], w, _, rfl, by omega, tape_snoc ht' (by omega) (by omega), by simp; omega⟩
      have ha := sApp_at (i := 1) (f := eBin (gI kMod) (eBin (gI kDiv) (eVar 3) (eK (.int 1000))) (eK (.int 1000))) (s := s) (ds := t'.map .int) (d := .int (w / 1000 % 1000)) (e := [some (.val scr), some (.own (.lst (t'.map .int))), some (.val (.int k0)), some (.val (.int w)), some (.val (.int m))]) rfl (by simp [gMod_at, gDiv_at]) (by simp; unfold lim; omega)
      simp [gMul_l, gMul_r, gMod_at, hu, hw, ha])
  exact ⟨e', h1, h2⟩
theorem gPow_18 (e : Sl) (s : Sto) : gI kPow (.int 10) (.int 18) e s = .ok (.int 1000000000000000000) e s := by
  unfold gI kPow
  simp
theorem tape_fin {L : SF} {scr : D} {x2 x3 x4 : Option SV} (s : Sto) (t : List Int)
  (h1 : L [some (.val scr), some (.own (.lst [])), none, none, none] s = .nx [some (.val scr), some (.own (.lst (t.map .int))), x2, x3, x4] s) :
  fnOf 5 (sSeq (sOwn 1 (eLst aNil)) (sSeq L (sRet (eVar 1)))) [scr] s = .ok (.new (.lst (t.map .int))) s := by
  rw [fnOf_at]
  have l0 : (0 : Nat) ≤ lim := Nat.zero_le _
  simp only [List.map_cons, List.map_nil, List.length_cons, List.length_nil, List.cons_append, List.nil_append, List.replicate, Nat.zero_add, Nat.reduceSub, Nat.reduceAdd]
  simp [l0, h1]
theorem sp_tape {ns : List Int} (hn : ns.length ≤ 63) (s : Sto) : ∃ t : List Int, fn_law_tape [.scr (ns.map .int)] s = .ok (.new (.lst (t.map .int))) s ∧ Tape t := by
  obtain ⟨e', h1, t, x2, x3, x4, he, ht, hl⟩ := sFor_rng (i := 2) (g := b_law_tape_3) (f := eUn gLen (eVar 0)) (s := s) (n := ns.length) (e := [some (.val (.scr (ns.map .int))), some (.own (.lst [])), none, none, none])
    (fun m e => ∃ (t : List Int) (x2 x3 x4 : Option SV), e = [some (.val (.scr (ns.map .int))), some (.own (.lst (t.map .int))), x2, x3, x4] ∧ Tape t ∧ t.length ≤ 60 * m)
    (by simp) (by unfold lim; omega) ⟨[], none, none, none, rfl, (fun x hx => by cases hx), by simp⟩ (by
      intro m e hm ⟨t, x2, x3, x4, he, ht, hl⟩
      subst he
      have hat : atI (ns.map D.int) (m : Int) = some (.int (ns[m])) := by
        rw [atI_of (by omega) (by simpa using hm)]
        simp [hm]
      generalize ns[m] = v at hat
      generalize hv : (if v < 0 then -v else v) = w
      have hw : 0 ≤ w := by rw [← hv]; split <;> omega
      have q1 : t.length < 100000 := by omega
      have q2 : m < 1000 := by omega
      have q3 : ∀ n : Nat, n ≤ t.length + 60 → n ≤ 60 * (m + 1) := fun n _ => by omega
      have q4 : ∀ n : Nat, n ≤ t.length + 4 → n ≤ 60 * (m + 1) := fun n _ => by omega
      clear hl hm
      unfold b_law_tape_3
      by_cases hb : 1000000000000000000 ≤ w
      · obtain ⟨e2, g1, t', v', x4', he2, _, g3, g4⟩ := tape_1 (.scr (ns.map .int)) (some (.val (.int m))) s t w hw ht q1 x4
        refine ⟨e2, .inl ?_, t', _, _, _, he2, g3, q3 _ g4⟩
        simp [ix_scr hat, hv, gPow_18, hb, g1]
      · obtain ⟨e2, g1, t', v', x4', he2, _, g3, g4⟩ := tape_2 (.scr (ns.map .int)) m q2 s t w hw ht q1 x4
        refine ⟨e2, .inl ?_, t', _, _, _, he2, g3, q4 _ g4⟩
        simp [ix_scr hat, hv, gPow_18, hb, g1])
  subst he
  exact ⟨t, tape_fin s t h1, ht⟩
def progD (sec : List Int) (rows : List D) : D := .dk [(.inr (Str.ofString "secret"), .tup (sec.map .int)), (.inr (Str.ofString "rows"), .tup rows)]
/-- a drawn program -/
structure GProg (d : D) where
  sec : List Int
  rows : List D
  last : D
  eq : d = progD sec (rows ++ [last])
  big : rows.length < 12
  ok : ∀ r ∈ rows ++ [last], GRow (rows.length + 1 : Nat) r
  lastOk : last = .tup [sx "end"] ∨ ∃ a : Int, last = .tup [sx "jump", .int a]
  secOk : ∃ q : Nat → Bool, sec = ((List.range 4).filter q).map fun n => ((n : Nat) : Int)
/-- a drawn row as a row -/
theorem grow_row {n : Nat} {d : D} (h : GRow (n : Int) d) : ∃ r : Row, d = r.d ∧ r.ok n := by
  have c : ∀ i : Int, 0 ≤ i → ((i.toNat : Nat) : Int) = i := fun i h => Int.toNat_of_nonneg h
  cases h with
  | @ask a h1 h2 => exact ⟨.ask a.toNat, by simp [Row.d, dn, c _ h1], by simp only [Row.ok]; omega⟩
  | @mix a b k h1 h2 h3 h4 h5 h6 => exact ⟨.mix a.toNat b.toNat k.toNat, by simp [Row.d, dn, c _ h1, c _ h3, c _ h5], by simp only [Row.ok]; omega⟩
  | @load a b k h1 h2 h3 h4 h5 h6 => exact ⟨.load a.toNat b.toNat k.toNat, by simp [Row.d, dn, c _ h1, c _ h3, c _ h5], by simp only [Row.ok]; omega⟩
  | @mask a b k h1 h2 h3 h4 h5 h6 => exact ⟨.mask a.toNat b.toNat k.toNat, by simp [Row.d, dn, c _ h1, c _ h3, c _ h5], by simp only [Row.ok]; omega⟩
  | @test a b k h1 h2 h3 h4 h5 h6 => exact ⟨.test a.toNat b.toNat k.toNat, by simp [Row.d, dn, c _ h1, c _ h3, c _ h5], by simp only [Row.ok]; omega⟩
  | @put a b h1 h2 h3 h4 => exact ⟨.put a.toNat b.toNat, by simp [Row.d, dn, c _ h1, c _ h3], by simp only [Row.ok]; omega⟩
  | @get a b h1 h2 h3 h4 => exact ⟨.get a.toNat b.toNat, by simp [Row.d, dn, c _ h1, c _ h3], by simp only [Row.ok]; omega⟩
  | fence => exact ⟨.fence, rfl, trivial⟩
  | @jump a h1 h2 => exact ⟨.jump a.toNat, by simp [Row.d, dn, c _ h1], by simp only [Row.ok]; omega⟩
  | ed => exact ⟨.fin, rfl, trivial⟩
theorem grow_rows {n : Nat} : ∀ {l : List D}, (∀ r ∈ l, GRow (n : Int) r) → ∃ rs : List Row, l = rs.map Row.d ∧ ∀ r ∈ rs, r.ok n
  | [], _ => ⟨[], rfl, fun _ h => nomatch h⟩
  | d :: l, h => by
    obtain ⟨r, h1, h2⟩ := grow_row (h d List.mem_cons_self)
    obtain ⟨rs, h3, h4⟩ := grow_rows (l := l) fun r hr => h r (List.mem_cons_of_mem _ hr)
    exact ⟨r :: rs, by rw [h1, h3]; rfl, fun r' hr => by
      rcases List.mem_cons.mp hr with rfl | hr
      · exact h2
      · exact h4 _ hr⟩
theorem gprog_prog {d : D} (g : GProg d) : ∃ p : Prog, d = p.d ∧ p.Ok ∧ p.rows.length ≤ 12 := by
  obtain ⟨sec, rows, last, rfl, hb, ho, hl, q, hs⟩ := g
  obtain ⟨rs, h1, h2⟩ := grow_rows ho
  have hlen : rs.length = rows.length + 1 := by
    have := congrArg List.length h1
    simpa using this.symm
  refine ⟨⟨(List.range 4).filter q, rs⟩, ?_, ⟨by simp only; omega, by simp only; omega, fun r hr => by simp only [hlen]; exact h2 r hr, ?_, q, rfl⟩, by simp only; omega⟩
  · unfold progD Prog.d
    rw [h1, hs, List.map_map]
    rfl
  · have hlast : (rs.map Row.d).getLast? = some last := by rw [← h1]; simp
    rw [List.getLast?_map] at hlast
    obtain ⟨r, hr, hd⟩ := Option.map_eq_some_iff.mp hlast
    simp only [hr]
    rcases hl with rfl | ⟨a, rfl⟩
    · left
      cases r <;> simp [Row.d] at hd ⊢
    · right
      cases r <;> simp [Row.d] at hd ⊢
end DL
end
section
set_option Elab.async false
set_option linter.all false
set_option maxRecDepth 100000
set_option maxHeartbeats 4000000
set_option autoImplicit false
/-! PW: the tape, the drawn program, its first state. -/
namespace DL
open PySem L2
section
variable {e : Sl} {st : Sto} {g : Prog} {m : Mean} {x : Secr} {s : PS} {dm dx : D}
theorem rep_1 {d : D} {n : Nat} : rep [d] (n : Int) = List.replicate n d := by
  unfold rep
  rw [Int.toNat_natCast]
  induction n with
  | zero => rfl
  | succ n ih => rw [List.replicate_succ, List.flatten_cons, ih]; rfl
theorem sp_first_registersS (hsl : g.sec.length ≤ 4) (hs4 : ∀ i (h : i < g.sec.length), ct g.sec i < 4) (hx : SRepr x dx) (st : Sto) : fn_first_registers [g.d, dx] st = .ok (.new (.lst ((regsUp x.reg g.sec g.sec.length).map .int))) st := by
  have hd2 := fun e => fz_ty (e := e) hx.ty
  obtain ⟨regs, loaded, _, hix0, _, hr, _⟩ := srep_at hx
  have hix := fun e => hix0 e st
  unfold fn_first_registers g_first_registers
  rw [fnOf_at]
  simp only [List.map_cons, List.map_nil, List.length_cons, List.length_nil, List.cons_append, List.nil_append, List.replicate, Nat.zero_add, Nat.reduceSub, Nat.reduceAdd]
  obtain ⟨e', h1, y3, he⟩ := sFor_rng (i := 3) (g := b_first_registers_1) (f := eUn gLen (eBin gIx (eVar 0) (eK (sx "secret")))) (s := st) (n := g.sec.length) (e := [some (.val g.d), some (.val dx), some (.own (.lst ([0, 0, 0, 0].map .int))), none])
    (fun i e => ∃ y3, e = [some (.val g.d), some (.val dx), some (.own (.lst ((regsUp x.reg g.sec i).map .int))), y3]) (by simp) (by unfold lim; omega) ⟨none, rfl⟩ (by
      intro i e hi ⟨y3, he⟩
      subst he
      have a1 := fun e => ix_nats (e := e) (st := st) (l := g.sec) (i := i) hi
      have a2 := sp_at_place (l := regs) i st
      rw [hr] at a2
      have a4 := hs4 i hi
      have hlen : (regsUp x.reg g.sec i).length = 4 := regsUp_len _ _ _
      refine ⟨_, .inl ?_, some (.val (.int i)), rfl⟩
      unfold b_first_registers_1
      have hput : putC (.lst ((regsUp x.reg g.sec i).map .int)) (.int ((ct g.sec i : Nat) : Int)) (.int (x.reg i)) = some (.lst ((regsUp x.reg g.sec (i + 1)).map .int)) := by
        unfold putC
        have : ixN ((regsUp x.reg g.sec i).map D.int).length ((ct g.sec i : Nat) : Int) = some (ct g.sec i) := by
          unfold ixN
          rw [if_pos (by omega), if_pos (by rw [List.length_map, hlen]; omega)]
          simp
        simp only [this]
        rw [regsUp, List.map_set]
      simp [sPut, a1, a2, hd2, hix, hput])
  subst he
  have hrep : rep [D.int 0] 4 = [.int 0, .int 0, .int 0, .int 0] := by rfl
  have hmul : ∀ e, gMulN (.lst [.int 0]) (.int 4) e st = .ok (.lst [.int 0, .int 0, .int 0, .int 0]) e st := fun e => by
    unfold gMulN
    simp [hrep]
  simp only [List.map_cons, List.map_nil] at h1
  simp [hmul, h1, lim]
theorem sp_first_stateS (hsl : g.sec.length ≤ 4) (hs4 : ∀ i (h : i < g.sec.length), ct g.sec i < 4) (hx : SRepr x dx) (st : Sto) : fn_first_state [g.d, dx] st = .ok (.new (firstP g x).d) st := by
  have h := sp_first_registersS hsl hs4 hx st
  have hd2 := fun e => fz_ty (e := e) hx.ty
  unfold fn_first_state g_first_state
  rw [fnOf_at]
  have hmul : ∀ e, gMul (.tup [.int 0]) (.int 2) e st = .ok (.tup [.int 0, .int 0]) e st := fun e => by
    unfold gMul
    simp
    rfl
  simp [h, hd2, hmul, lim, ptAll, pt, hasK]
  rfl
theorem sp_first_state (hg : g.Ok) (hx : SRepr x dx) (st : Sto) : fn_first_state [g.d, dx] st = .ok (.new (firstP g x).d) st := sp_first_stateS hg.sec_len (fun i h => hg.sec_lt h) hx st
theorem comp_at {t : List Int} (ht : Tape t) {i : Nat} {f fe : EF} {e : Sl} {s : Sto} {n : Nat} (h : f e s = .ok (.int (n : Int)) e s) (hn : n ≤ 1000) (v : Nat → Int) (hi : ∀ m, m < n → eFz fe (e.set i (some (.val (.int m)))) s = .ok (.int (v m)) (e.set i (some (.val (.int m)))) s) :
    eComp [i] (iRange1 f) (bName i) eYes fe e s = .ok (.lst (((List.range n).map v).map .int)) (e.set i none) s := by
  have hc := comp_rngW (i := i) (s := s) (n := n) (e := e) (ft := eYes) (fe := fe) (f := f) (fun _ => true) (fun m => .int (v m)) h (by unfold lim; omega) (fun m hm => ⟨rfl, fun _ => hi m hm⟩)
  rw [hc]
  congr 2
  rw [List.map_map, List.filter_eq_self.mpr (fun _ _ => rfl)]
  rfl
theorem sp_secrets {t : List Int} (ht : Tape t) {p : Int} (hp : 0 ≤ p) (s : Sto) : ∃ d x, fn_law_secrets [.lst (t.map .int), .int p] s = .ok (.new d) s ∧ SRepr x d := by
  have h0 := sp_at (t := t) hp s
  have h3 := sp_at (t := t) (k := p + 3) (by omega) s
  have b0 := tat_bd ht p
  have b3 := tat_bd ht (p + 3)
  obtain ⟨n0, hn0⟩ : ∃ n : Nat, tat t p % 5 = n := ⟨(tat t p % 5).toNat, by omega⟩
  obtain ⟨n3, hn3⟩ : ∃ n : Nat, tat t (p + 3) % 6 = n := ⟨(tat t (p + 3) % 6).toNat, by omega⟩
  have c0 := comp_at ht (i := 3) (s := s) (n := n0) (e := [some (.val (.lst (t.map .int))), some (.val (.int p)), none, none]) (f := eBin (gI kMod) (eCall 2 fn_law_at (aCons (eVar 0) (aCons (eVar 1) aNil))) (eK (.int 5))) (fe := eBin (gI kMod) (eCall 2 fn_law_at (aCons (eVar 0) (aCons (eBin gAdd (eVar 1) (eVar 3)) aNil))) (eK (.int 9)))
    (by simp [h0, gMod_at, hn0]) (by omega) (fun m => tat t (p + m) % 9) (fun m hm => by simp [sp_at (t := t) (k := p + (m : Int)) (by omega) s, gMod_at])
  have c3 := fun x2 => comp_at ht (i := 3) (s := s) (n := n3) (e := [some (.val (.lst (t.map .int))), some (.val (.int p)), some (.val x2), none]) (f := eBin (gI kMod) (eCall 2 fn_law_at (aCons (eVar 0) (aCons (eBin gAdd (eVar 1) (eK (.int 3))) aNil))) (eK (.int 6))) (fe := eBin (gI kMod) (eCall 2 fn_law_at (aCons (eVar 0) (aCons (eBin gAdd (eBin gAdd (eVar 1) (eK (.int 3))) (eVar 3)) aNil))) (eK (.int 9)))
    (by simp [h3, gMod_at, hn3]) (by omega) (fun m => tat t (p + 3 + m) % 9) (fun m hm => by simp [sp_at (t := t) (k := p + 3 + (m : Int)) (by omega) s, gMod_at])
  generalize (List.range n0).map (fun m : Nat => tat t (p + (m : Int)) % 9) = l0 at *
  generalize (List.range n3).map (fun m : Nat => tat t (p + 3 + (m : Int)) % 9) = l3 at *
  refine ⟨_, ⟨fun k => l0.getD k 0, fun k => l3.getD k 0⟩, ?_, ⟨l0, l3, rfl, fun k => rfl, fun k => rfl⟩⟩
  unfold fn_law_secrets g_law_secrets
  rw [fnOf_at]
  simp only [List.map_cons, List.map_nil, List.length_cons, List.length_nil, List.cons_append, List.nil_append, List.replicate, Nat.zero_add, Nat.reduceSub, Nat.reduceAdd]
  generalize eComp [3] (iRange1 (eBin (gI kMod) (eCall 2 fn_law_at (aCons (eVar 0) (aCons (eVar 1) aNil))) (eK (.int 5)))) = C0 at *
  generalize eComp [3] (iRange1 (eBin (gI kMod) (eCall 2 fn_law_at (aCons (eVar 0) (aCons (eBin gAdd (eVar 1) (eK (.int 3))) aNil))) (eK (.int 6)))) = C3 at *
  simp [c0, c3, lim, ptAll, pt, hasK]
/-- the law's meaning -/
theorem mean_ex (a0 a1 : List (Key × D)) (asked loaded : List Int) (mixed : List D) (h : ∀ d ∈ mixed, ∃ kvs : List (List Key × D), d = .dt kvs ∧ ∀ kv ∈ kvs, ∃ i : Int, kv.2 = .int i) :
    ∃ m : Mean, MRep m (.dk [(.inr (Str.ofString "arrays"), .tup [.dk a0, .dk a1]), (.inr (Str.ofString "asked"), .lst (asked.map .int)), (.inr (Str.ofString "mixed"), .lst mixed), (.inr (Str.ofString "loaded"), .lst (loaded.map .int))]) := by
  refine ⟨⟨fun A v => if A = 0 then (lk a0 (.inl v)).isSome else (lk a1 (.inl v)).isSome, fun k => asked.getD k 0, fun k x y => match mixed[k]? with
    | some (.dt kvs) => (match (lk kvs [.inl x, .inl y]).getD (.int 0) with | .int i => i | _ => 0)
    | _ => 0, fun k => loaded.getD k 0⟩, ⟨_, _, _, _, _, rfl, ⟨a0, rfl, fun v => rfl⟩, ⟨a1, rfl, fun v => rfl⟩, fun k => rfl, fun k => rfl, fun k t ht => ?_, fun k x y hk => ?_⟩⟩
  · obtain ⟨kvs, rfl, hk⟩ := h t (List.mem_of_getElem? ht)
    refine ⟨kvs, rfl, fun x y => ?_⟩
    simp only [ht]
    cases hq : lk kvs [Sum.inl x, Sum.inl y] with
    | none => rfl
    | some d =>
      obtain ⟨i, hi⟩ := hk _ (lk_mem hq)
      simp only at hi
      subst hi
      rfl
  · simp only [List.getElem?_eq_none hk]
theorem arr_ex {t : List Int} (ht : Tape t) {p : Int} (hp : 0 ≤ p) (s : Sto) (m : Nat) (x2 x4 x5 x6 x7 x8 x9 x10 x11 : Option SV) : ∃ kvs : List (Key × D),
    (eFz (eUn gDict (eComp [10] (iRange2 (eK (.int 1)) (eK (.int 9))) (bName 10) (eBin gEq (eBin (gI kMod) (eBin (gI kDiv) (eCall 2 fn_law_at (aCons (eVar 0) (aCons (eBin gAdd (eVar 1) (eVar 3)) aNil))) (eVar 10)) (eK (.int 2))) (eK (.int 0))) (eTup (aCons (eVar 10) (aCons (eK (.bl true)) aNil))))))
      [some (.val (.lst (t.map .int))), some (.val (.int p)), x2, some (.val (.int m)), x4, x5, x6, x7, x8, x9, x10, x11] s = .ok (.dk kvs) [some (.val (.lst (t.map .int))), some (.val (.int p)), x2, some (.val (.int m)), x4, x5, x6, x7, x8, x9, none, x11] s := by
  have h0 := sp_at (t := t) (k := p + (m : Int)) (by omega) s
  have hc := comp_any (i := 10) (s := s) (e := [some (.val (.lst (t.map .int))), some (.val (.int p)), x2, some (.val (.int m)), x4, x5, x6, x7, x8, x9, x10, x11]) (fi := iRange2 (eK (.int 1)) (eK (.int 9))) (ds := rngD 1 8)
    (ft := eBin gEq (eBin (gI kMod) (eBin (gI kDiv) (eCall 2 fn_law_at (aCons (eVar 0) (aCons (eBin gAdd (eVar 1) (eVar 3)) aNil))) (eVar 10)) (eK (.int 2))) (eK (.int 0))) (fe := eTup (aCons (eVar 10) (aCons (eK (.bl true)) aNil)))
    (fun d => match d with | .int v => decide (tat t (p + (m : Int)) / v % 2 = 0) | _ => false) (fun d => .tup [d, .bl true]) (iRange2_at rfl rfl (by decide) (by decide)) (by simp [lim]) (fun x hx => by
      obtain ⟨i, hi, rfl⟩ := rngD_mem hx
      simp [h0, gDiv_at (show (0 : Int) < 1 + (i : Int) by omega) (show (1 : Int) + (i : Int) < 1073741824 by omega), gMod_at, lim])
  have hp : ∃ kvs, pairsK ((List.filter (fun d => match d with | .int v => decide (tat t (p + (m : Int)) / v % 2 = 0) | _ => false) (rngD 1 8)).map fun d => .tup [d, .bl true]) = some kvs := by
    unfold rngD
    rw [List.filter_map, List.map_map]
    exact ⟨_, pairsK_map (fun i : Nat => Sum.inl (1 + (i : Int))) (fun _ => .bl true) (fun i : Nat => .int (1 + (i : Int))) (fun _ => rfl) _⟩
  obtain ⟨kvs, hk⟩ := hp
  refine ⟨ptAll [] kvs, ?_⟩
  have hd : ∀ e, gDict (.lst ((List.filter (fun d => match d with | .int v => decide (tat t (p + (m : Int)) / v % 2 = 0) | _ => false) (rngD 1 8)).map fun d => .tup [d, .bl true])) e s = .ok (.dk (ptAll [] kvs)) e s := fun e => by
    unfold gDict
    simp only [vw_lst, hk]
  generalize eComp [10] = C at *
  simp [hc, hd]
def AllI (d : D) : Prop := ∃ kvs : List (List Key × D), d = .dt kvs ∧ ∀ kv ∈ kvs, ∃ i : Int, kv.2 = .int i
theorem mloop {t : List Int} (ht : Tape t) {p : Int} (hp : 0 ≤ p) (s : Sto) (l : List D) (hl : ∀ d ∈ l, AllI d) (hll : l.length < 100) (m : Nat) (hm : m < 100) (x2 x3 x4 x5 x8 x9 x10 x11 : Option SV) :
    ∃ d y8 y9 y11, AllI d ∧ b_law_meaning_1 [some (.val (.lst (t.map .int))), some (.val (.int p)), x2, x3, x4, x5, some (.own (.lst l)), some (.val (.int m)), x8, x9, x10, x11] s = .nx [some (.val (.lst (t.map .int))), some (.val (.int p)), x2, x3, x4, x5, some (.own (.lst (l ++ [d]))), some (.val (.int m)), y8, y9, x10, y11] s := by
  have h0 := sp_at (t := t) (k := p + 8 + (m : Int)) (by omega) s
  have hb := tat_bd ht (p + 8 + (m : Int))
  generalize tat t (p + 8 + (m : Int)) = n at *
  have hc := fun x9 => comp_rngW (i := 11) (s := s) (n := 9) (e := [some (.val (.lst (t.map .int))), some (.val (.int p)), x2, x3, x4, x5, some (.own (.lst l)), some (.val (.int m)), some (.val (.int n)), x9, x10, x11]) (f := eK (.int 9)) (ft := eYes)
    (fe := eTup (aCons (eTup (aCons (eVar 11) (aCons (eBin (gI kMod) (eVar 8) (eK (.int 9))) aNil))) (aCons (eBin (gI kMod) (eBin gAdd (eVar 11) (eVar 8)) (eK (.int 9))) aNil)))
    (fun _ => true) (fun i => .tup [.tup [.int (i : Nat), .int (n % 9)], .int (((i : Nat) + n) % 9)]) rfl (by decide) (fun i hi => ⟨rfl, fun _ => by simp [gMod_at, lim]⟩)
  rw [List.filter_eq_self.mpr (fun _ _ => rfl)] at hc
  have hpr := pairsT_map (fun i : Nat => [Sum.inl (i : Int), Sum.inl (n % 9)]) (fun i : Nat => .int (((i : Nat) + n) % 9)) (fun i : Nat => [.int (i : Nat), .int (n % 9)]) (fun _ => rfl) (List.range 9)
  have hd : ∀ e, gDictT (.lst ((List.range 9).map fun i : Nat => .tup [.tup [.int (i : Nat), .int (n % 9)], .int (((i : Nat) + n) % 9)])) e s = .ok (.dt (ptAllT [] ((List.range 9).map fun i : Nat => ([Sum.inl (i : Int), Sum.inl (n % 9)], .int (((i : Nat) + n) % 9))))) e s := fun e => by
    unfold gDictT
    simp only [vw_lst, hpr]
  have hall : ∀ kv ∈ ptAllT [] ((List.range 9).map fun i : Nat => (([Sum.inl (i : Int), Sum.inl (n % 9)] : List Key), D.int (((i : Nat) + n) % 9))), ∃ i : Int, kv.2 = .int i := ptAllT_all (P := fun d => ∃ i : Int, d = .int i) (fun _ h => nomatch h) (fun kv hkv => by
    obtain ⟨i, _, rfl⟩ := List.mem_map.mp hkv
    exact ⟨_, rfl⟩)
  have hlen : (ptAllT [] ((List.range 9).map fun i : Nat => (([Sum.inl (i : Int), Sum.inl (n % 9)] : List Key), D.int (((i : Nat) + n) % 9)))).length ≤ 9 := by
    refine Nat.le_trans ptAllT_len ?_
    simp
  generalize ptAllT [] ((List.range 9).map fun i : Nat => (([Sum.inl (i : Int), Sum.inl (n % 9)] : List Key), D.int (((i : Nat) + n) % 9))) = kvs at *
  generalize (List.range 9).map (fun i : Nat => D.tup [.tup [.int (i : Nat), .int (n % 9)], .int (((i : Nat) + n) % 9)]) = ps at *
  refine ⟨.dt (pt kvs [Sum.inl (n / 9 % 9), Sum.inl (n / 81 % 9)] (.int (n % 7))), some (.val (.int n)), some (.val (.dt (pt kvs [Sum.inl (n / 9 % 9), Sum.inl (n / 81 % 9)] (.int (n % 7))))), none, ⟨_, rfl, pt_all (P := fun d => ∃ i : Int, d = .int i) hall ⟨_, rfl⟩⟩, ?_⟩
  unfold b_law_meaning_1
  have hput : putC (.dt kvs) (.tup [.int (n / 9 % 9), .int (n / 81 % 9)]) (.int (n % 7)) = some (.dt (pt kvs [Sum.inl (n / 9 % 9), Sum.inl (n / 81 % 9)] (.int (n % 7)))) := by
    unfold putC toKs toKs toKs toK
    simp only
    rw [if_pos (by unfold lim; omega)]
  generalize eComp [11] = C at *
  have hl2 : l.length < lim := by unfold lim; omega
  simp [h0, hc, hd, sPut, hput, gDiv_at, gMod_at, lim, sApp, hl2]
theorem sp_meaning {t : List Int} (ht : Tape t) {p : Int} (hp : 0 ≤ p) (s : Sto) : ∃ d m, fn_law_meaning [.lst (t.map .int), .int p] s = .ok (.new d) s ∧ MRep m d := by
  have h2 := sp_at (t := t) (k := p + 2) (by omega) s
  have h5 := sp_at (t := t) (k := p + 5) (by omega) s
  have h8 := sp_at (t := t) (k := p + 8) (by omega) s
  have b2 := tat_bd ht (p + 2)
  have b5 := tat_bd ht (p + 5)
  have b8 := tat_bd ht (p + 8)
  obtain ⟨n2, hn2⟩ : ∃ n : Nat, tat t (p + 2) % 6 = n := ⟨(tat t (p + 2) % 6).toNat, by omega⟩
  obtain ⟨n5, hn5⟩ : ∃ n : Nat, tat t (p + 5) % 6 = n := ⟨(tat t (p + 5) % 6).toNat, by omega⟩
  obtain ⟨n8, hn8⟩ : ∃ n : Nat, tat t (p + 8) % 6 = n := ⟨(tat t (p + 8) % 6).toNat, by omega⟩
  obtain ⟨eA, hA, l, y3, y10, heA, hlA, hdA⟩ := sFor_rng (i := 3) (g := b_law_meaning_2) (f := eK (.int 2)) (s := s) (n := 2) (e := [some (.val (.lst (t.map .int))), some (.val (.int p)), some (.own (.lst [])), none, none, none, none, none, none, none, none, none])
    (fun i e => ∃ (l : List D) (y3 y10 : Option SV), e = [some (.val (.lst (t.map .int))), some (.val (.int p)), some (.own (.lst l)), y3, none, none, none, none, none, none, y10, none] ∧ l.length = i ∧ ∀ d ∈ l, ∃ kvs : List (Key × D), d = .dk kvs)
    rfl (by decide) ⟨[], _, _, rfl, rfl, fun _ h => nomatch h⟩ (by
      intro i e hi ⟨l, y3, y10, he, hl, hd⟩
      subst he
      obtain ⟨kvs, hk⟩ := arr_ex ht hp s i (some (.own (.lst l))) none none none none none none y10 none
      refine ⟨_, .inl ?_, l ++ [.dk kvs], some (.val (.int i)), none, rfl, by simp [hl], fun d hd' => ?_⟩
      · unfold b_law_meaning_2
        unfold sApp
        simp only [List.set, List.getElem?_cons_succ, List.getElem?_cons_zero]
        rw [hk]
        have : l.length < 16777216 := by omega
        simp [lim, this]
      · rcases List.mem_append.mp hd' with h | h
        · exact hd _ h
        · rw [List.mem_singleton.mp h]; exact ⟨_, rfl⟩)
  have hl2 : ∃ a0 a1 : List (Key × D), l = [.dk a0, .dk a1] := by
    match l, hlA with
    | [a, b], _ =>
      obtain ⟨a0, rfl⟩ := hdA a (by simp)
      obtain ⟨a1, rfl⟩ := hdA b (by simp)
      exact ⟨a0, a1, rfl⟩
  obtain ⟨a0, a1, rfl⟩ := hl2
  subst heA
  have c2 := comp_at ht (i := 7) (s := s) (n := n2) (e := [some (.val (.lst (t.map .int))), some (.val (.int p)), some (.own (.lst [.dk a0, .dk a1])), y3, none, none, none, none, none, none, y10, none]) (f := eBin (gI kMod) (eCall 2 fn_law_at (aCons (eVar 0) (aCons (eBin gAdd (eVar 1) (eK (.int 2))) aNil))) (eK (.int 6))) (fe := eBin (gI kMod) (eCall 2 fn_law_at (aCons (eVar 0) (aCons (eBin gAdd (eBin gAdd (eVar 1) (eK (.int 2))) (eVar 7)) aNil))) (eK (.int 9)))
    (by simp [h2, gMod_at, hn2]) (by omega) (fun m => tat t (p + 2 + m) % 9) (fun m hm => by simp [sp_at (t := t) (k := p + 2 + (m : Int)) (by omega) s, gMod_at])
  have c5 := fun x4 => comp_at ht (i := 7) (s := s) (n := n5) (e := [some (.val (.lst (t.map .int))), some (.val (.int p)), some (.own (.lst [.dk a0, .dk a1])), y3, x4, none, none, none, none, none, y10, none]) (f := eBin (gI kMod) (eCall 2 fn_law_at (aCons (eVar 0) (aCons (eBin gAdd (eVar 1) (eK (.int 5))) aNil))) (eK (.int 6))) (fe := eBin (gI kMod) (eCall 2 fn_law_at (aCons (eVar 0) (aCons (eBin gAdd (eBin gAdd (eVar 1) (eK (.int 5))) (eVar 7)) aNil))) (eK (.int 9)))
    (by simp [h5, gMod_at, hn5]) (by omega) (fun m => tat t (p + 5 + m) % 9) (fun m hm => by simp [sp_at (t := t) (k := p + 5 + (m : Int)) (by omega) s, gMod_at])
  generalize (List.range n2).map (fun m : Nat => tat t (p + 2 + (m : Int)) % 9) = l2 at *
  generalize (List.range n5).map (fun m : Nat => tat t (p + 5 + (m : Int)) % 9) = l5 at *
  obtain ⟨eB, hB, lm, z7, z8, z9, z11, heB, hlB, hdB⟩ := sFor_rng (i := 7) (g := b_law_meaning_1) (f := eBin (gI kMod) (eCall 2 fn_law_at (aCons (eVar 0) (aCons (eBin gAdd (eVar 1) (eK (.int 8))) aNil))) (eK (.int 6))) (s := s) (n := n8)
    (e := [some (.val (.lst (t.map .int))), some (.val (.int p)), some (.own (.lst [.dk a0, .dk a1])), y3, some (.val (.lst (l2.map .int))), some (.val (.lst (l5.map .int))), some (.own (.lst [])), none, none, none, y10, none])
    (fun i e => ∃ (lm : List D) (z7 z8 z9 z11 : Option SV), e = [some (.val (.lst (t.map .int))), some (.val (.int p)), some (.own (.lst [.dk a0, .dk a1])), y3, some (.val (.lst (l2.map .int))), some (.val (.lst (l5.map .int))), some (.own (.lst lm)), z7, z8, z9, y10, z11] ∧ lm.length = i ∧ ∀ d ∈ lm, AllI d)
    (by simp [h8, gMod_at, hn8]) (by unfold lim; omega) ⟨[], _, _, _, _, rfl, rfl, fun _ h => nomatch h⟩ (by
      intro i e hi ⟨lm, z7, z8, z9, z11, he, hl, hd⟩
      subst he
      obtain ⟨d, y8, y9, y11, hd1, hb⟩ := mloop ht hp s lm hd (by omega) i (by omega) (some (.own (.lst [.dk a0, .dk a1]))) y3 (some (.val (.lst (l2.map .int)))) (some (.val (.lst (l5.map .int)))) z8 z9 y10 z11
      refine ⟨_, .inl hb, lm ++ [d], _, _, _, _, rfl, by simp [hl], fun d' hd' => ?_⟩
      rcases List.mem_append.mp hd' with h | h
      · exact hd _ h
      · rw [List.mem_singleton.mp h]; exact hd1)
  subst heB
  obtain ⟨m, hm⟩ := mean_ex a0 a1 l2 l5 lm hdB
  refine ⟨_, m, ?_, hm⟩
  unfold fn_law_meaning g_law_meaning
  rw [fnOf_at]
  simp only [List.map_cons, List.map_nil, List.length_cons, List.length_nil, List.cons_append, List.nil_append, List.replicate, Nat.zero_add, Nat.reduceSub, Nat.reduceAdd]
  generalize eComp [7] (iRange1 (eBin (gI kMod) (eCall 2 fn_law_at (aCons (eVar 0) (aCons (eBin gAdd (eVar 1) (eK (.int 2))) aNil))) (eK (.int 6)))) = C2 at *
  generalize eComp [7] (iRange1 (eBin (gI kMod) (eCall 2 fn_law_at (aCons (eVar 0) (aCons (eBin gAdd (eVar 1) (eK (.int 5))) aNil))) (eK (.int 6)))) = C5 at *
  generalize sFor (iRange1 (eK (.int 2))) (bName 3) b_law_meaning_2 = LA at *
  generalize sFor (iRange1 (eBin (gI kMod) (eCall 2 fn_law_at (aCons (eVar 0) (aCons (eBin gAdd (eVar 1) (eK (.int 8))) aNil))) (eK (.int 6)))) (bName 7) b_law_meaning_1 = LB at *
  simp [hA, c2, c5, hB, lim, ptAll, pt, hasK]
end
end DL
end
section
set_option Elab.async false
set_option linter.all false
set_option maxRecDepth 100000
set_option maxHeartbeats 4000000
set_option autoImplicit false
/-! PY: plain facts on a state's form. -/
namespace DL
open PySem L2
section
variable {e : Sl} {st : Sto} {g : Prog} {m : Mean} {x : Secr} {s : PS} {dm dx : D}
theorem pds_ints (l : List Int) : pds (l.map D.int) = true := pds_all fun d hd => by obtain ⟨i, _, rfl⟩ := List.mem_map.mp hd; rfl
theorem pds_nats (l : List Nat) : pds (l.map fun n => dn n) = true := pds_all fun d hd => by obtain ⟨i, _, rfl⟩ := List.mem_map.mp hd; rfl
theorem depths_ints (l : List Int) : depths (l.map D.int) = 0 := Nat.le_zero.mp (depths_le fun d hd => by obtain ⟨i, _, rfl⟩ := List.mem_map.mp hd; exact Nat.le_refl _)
theorem depths_nats (l : List Nat) : depths (l.map fun n => dn n) = 0 := Nat.le_zero.mp (depths_le fun d hd => by obtain ⟨i, _, rfl⟩ := List.mem_map.mp hd; exact Nat.le_refl _)
theorem pd_psd (s : PS) : pd s.d = true ∧ depth s.d ≤ 2 := by
  constructor
  · cases hp : s.place <;> simp [PS.d, pd, pdk, pds_ints, pds_nats, pl, hp]
  · cases hp : s.place <;> simp [PS.d, depth, depthk, depths_ints, depths_nats, pl, hp]
theorem pd_seen (y : Seen) : pd y.d = true ∧ depth y.d ≤ 1 := by cases y <;> simp [Seen.d, pd, pds, depth, depths]
theorem pd_seenD (p : Nat) (y : Seen) : pd (seenD p y) = true ∧ depth (seenD p y) ≤ 2 := by
  have := pd_seen y
  constructor
  · simp [seenD, pd, pds, this.1]
  · simp [seenD, depth, depths]; omega
theorem neOk_self {d : D} (h : pd d = true) (hk : d = .tup [] ∨ (∃ l, d = .tup l) ∨ (∃ l, d = .dk l)) : neOk d d = true := by
  rcases hk with rfl | ⟨l, rfl⟩ | ⟨l, rfl⟩ <;> rfl
theorem neD_refl {d : D} (h : pd d = true) (hd : depth d < 40) (hk : neOk d d = true) : gNeD d d e st = .ok (.bl false) e st := by
  unfold gNeD
  rw [vw_ty (ty_pd h), if_pos ⟨hd, hk⟩, deq_refl h]
  rfl
@[simp] theorem ne_psd : gNeD s.d s.d e st = .ok (.bl false) e st := neD_refl (pd_psd s).1 (by have := (pd_psd s).2; omega) rfl
theorem ne_told {p : Nat} {y : Seen} : gNeD (.tup [s.d, seenD p y]) (.tup [s.d, seenD p y]) e st = .ok (.bl false) e st := by
  have h1 := pd_psd s
  have h2 := pd_seenD p y
  exact neD_refl (by simp [pd, pds, h1.1, h2.1]) (by simp [depth, depths]; omega) rfl
end
end DL
end
section
set_option Elab.async false
set_option linter.all false
set_option maxRecDepth 100000
set_option maxHeartbeats 4000000
set_option autoImplicit false
/-! PR: run. -/
namespace DL
open PySem L2
section
variable {e : Sl} {st : Sto} {g : Prog} {m : Mean} {x : Secr} {s : PS} {dm dx : D}
/-- the run: states and views -/
def runP (g : Prog) (m : Mean) (x : Secr) : Nat → PS × List D
  | 0 => (firstP g x, [])
  | n + 1 => let r := runP g m x n
    match stepP g m x r.1 with
    | none => r
    | some (s, p, y) => (s, r.2 ++ [seenD p y])
theorem stepP_some {p : Nat} (h : s.place = some p) : stepP g m x s = some ((stepR m x s p (rowAt g p)).1, p, (stepR m x s p (rowAt g p)).2) := by
  unfold stepP; rw [h]
theorem stepP_none (h : s.place = none) : stepP g m x s = none := by
  unfold stepP; rw [h]
theorem runP_ok (hg : g.Ok) (m : Mean) (x : Secr) : ∀ n, (runP g m x n).1.Ok g.rows.length
  | 0 => firstP_ok hg x
  | n + 1 => by
    have ih := runP_ok hg m x n
    unfold runP
    cases hp : (runP g m x n).1.place with
    | none => simp only [stepP_none hp]; exact ih
    | some p =>
      simp only [stepP_some hp]
      exact stepR_ok hg m x ih (ih.place p hp)
theorem runP_len (m : Mean) (x : Secr) : ∀ n, (runP g m x n).2.length ≤ n
  | 0 => Nat.zero_le _
  | n + 1 => by
    have ih := runP_len m x n
    unfold runP
    cases hp : (runP g m x n).1.place with
    | none => simp only [stepP_none hp]; omega
    | some p => simp only [stepP_some hp, List.length_append, List.length_singleton]; omega
theorem runP_stay (m : Mean) (x : Secr) {n : Nat} (h : (runP g m x n).1.place = none) : ∀ k, runP g m x (n + k) = runP g m x n
  | 0 => rfl
  | k + 1 => by
    rw [← Nat.add_assoc]
    conv => lhs; unfold runP
    simp only [runP_stay m x h k, stepP_none h]
theorem runP_pd (m : Mean) (x : Secr) : ∀ n, ∀ d ∈ (runP g m x n).2, pd d = true ∧ depth d ≤ 2
  | 0, d, h => nomatch h
  | n + 1, d, h => by
    unfold runP at h
    cases hp : (runP g m x n).1.place with
    | none => simp only [stepP_none hp] at h; exact runP_pd m x n d h
    | some p =>
      simp only [stepP_some hp] at h
      rcases List.mem_append.mp h with h | h
      · exact runP_pd m x n d h
      · rw [List.mem_singleton.mp h]; exact pd_seenD _ _
/-- a loop that may stop -/
theorem forL_stop {bind : BF} {g : SF} {s : Sto} (I : Nat → Sl → Prop) (Z : Sl → Prop) : ∀ (xs : List D) (n : Nat) (e : Sl), I n e →
    (∀ m e x, n ≤ m → xs[m - n]? = some x → I m e → ∃ e1 e2, bind x e = some e1 ∧ ((g e1 s = .nx e2 s ∧ I (m + 1) e2) ∨ (g e1 s = .bk e2 s ∧ Z e2))) →
    ∃ e', forL bind g xs e s = .nx e' s ∧ (I (n + xs.length) e' ∨ Z e')
  | [], n, e, hI, _ => ⟨e, rfl, .inl (by simpa using hI)⟩
  | x :: xs, n, e, hI, h => by
    obtain ⟨e1, e2, h1, h2⟩ := h n e x (Nat.le_refl _) (by simp) hI
    unfold forL
    rw [h1]
    rcases h2 with ⟨h2, h3⟩ | ⟨h2, h3⟩
    · obtain ⟨e', h4, h5⟩ := forL_stop I Z xs (n + 1) e2 h3 (fun m e y hm hx hI => h m e y (by omega) (by
        have : m - n = (m - (n + 1)) + 1 := by omega
        rw [this, List.getElem?_cons_succ]; exact hx) hI)
      refine ⟨e', by simp only [h2, h4], ?_⟩
      rw [List.length_cons]
      have : n + (xs.length + 1) = n + 1 + xs.length := by omega
      rw [this]
      exact h5
    · exact ⟨e2, by simp only [h2], .inr h3⟩
theorem sFor_stop {i : Nat} {g : SF} {f : EF} {e : Sl} {s : Sto} {n : Nat} (I : Nat → Sl → Prop) (Z : Sl → Prop) (hi : f e s = .ok (.int n) e s) (hn : n ≤ lim) (h0 : I 0 e)
    (h : ∀ m e, m < n → I m e → ∃ e2, (g (e.set i (some (.val (.int m)))) s = .nx e2 s ∧ I (m + 1) e2) ∨ (g (e.set i (some (.val (.int m)))) s = .bk e2 s ∧ Z e2)) :
    ∃ e', sFor (iRange1 f) (bName i) g e s = .nx e' s ∧ (I n e' ∨ Z e') := by
  rw [sFor_at (iRange1_at hi hn)]
  obtain ⟨e', h1, h2⟩ := forL_stop (bind := bName i) (g := g) (s := s) I Z (rngD 0 n) 0 e h0 (fun m e x _ hx hI => by
    obtain ⟨hm, rfl⟩ := rngD_get hx
    rw [Nat.sub_zero] at hm
    obtain ⟨e2, h3⟩ := h m e hm hI
    exact ⟨_, e2, rfl, by simpa using h3⟩)
  exact ⟨e', h1, by simpa using h2⟩
theorem sp_run (hg : g.Ok) (hm : MRep m dm) (hx : SRepr x dx) {n : Nat} (hn : n ≤ 1000) (st : Sto) : fn_run [g.d, dm, dx, .int (n : Int)] st = .ok (.val (.tup [(runP g m x n).1.d, .lst (runP g m x n).2])) st := by
  have hd := fun e => fz_ty (e := e) hm.ty
  have hd2 := fun e => fz_ty (e := e) hx.ty
  have hf := sp_first_state hg hx st
  obtain ⟨e', h1, h2⟩ := sFor_stop (i := 6) (g := b_run_1) (f := eVar 3) (s := st) (n := n) (e := [some (.val g.d), some (.val dm), some (.val dx), some (.val (.int n)), some (.val (firstP g x).d), some (.own (.lst [])), none, none])
    (fun i e => ∃ y6 y7, e = [some (.val g.d), some (.val dm), some (.val dx), some (.val (.int n)), some (.val (runP g m x i).1.d), some (.own (.lst (runP g m x i).2)), y6, y7])
    (fun e => ∃ y6 y7, e = [some (.val g.d), some (.val dm), some (.val dx), some (.val (.int n)), some (.val (runP g m x n).1.d), some (.own (.lst (runP g m x n).2)), y6, y7])
    (by simp) (by unfold lim; omega) ⟨none, none, rfl⟩ (by
      intro i e hi ⟨y6, y7, he⟩
      subst he
      have hok := runP_ok hg m x i
      have hlen := runP_len (g := g) m x i
      have hstay := runP_stay (g := g) m x (n := i)
      have hsucc : runP g m x (i + 1) = match stepP g m x (runP g m x i).1 with
        | none => runP g m x i
        | some (s, p, y) => (s, (runP g m x i).2 ++ [seenD p y]) := rfl
      generalize runP g m x i = r at *
      obtain ⟨s, v⟩ := r
      simp only at hok hlen hstay hsucc
      unfold b_run_1
      cases hp : s.place with
      | none =>
        refine ⟨_, .inr ⟨?_, some (.val (.int i)), y7, rfl⟩⟩
        have := hstay hp (n - i)
        rw [show i + (n - i) = n by omega] at this
        rw [this]
        simp [hp, sBrk]
      | some p =>
        have ha := sp_after_step hg hok hm hx hp st
        rw [stepP_some hp] at hsucc
        simp only at hsucc
        refine ⟨_, .inl ⟨?_, some (.val (.int i)), some (.val (seenD p (stepR m x s p (rowAt g p)).2)), rfl⟩⟩
        rw [hsucc]
        have hl : v.length < lim := by unfold lim; omega
        have hfz : ∀ e, fz (seenD p (stepR m x s p (rowAt g p)).2) e = some (seenD p (stepR m x s p (rowAt g p)).2, e) := fun _ => rfl
        generalize seenD p (stepR m x s p (rowAt g p)).2 = z at *
        simp [hp, hd, hd2, ha, sAsg, bTup, bCons, bName, bNil, sApp, hfz, hl])
  have he : ∃ y6 y7, e' = [some (.val g.d), some (.val dm), some (.val dx), some (.val (.int n)), some (.val (runP g m x n).1.d), some (.own (.lst (runP g m x n).2)), y6, y7] := by
    rcases h2 with h2 | h2 <;> exact h2
  obtain ⟨y6, y7, rfl⟩ := he
  unfold fn_run g_run
  rw [fnOf_at]
  have l0 : (0 : Nat) ≤ lim := Nat.zero_le _
  simp [List.replicate, hd, hd2, hf, h1, lim]
end
end DL
end
section
set_option Elab.async false
set_option linter.all false
set_option maxRecDepth 100000
set_option maxHeartbeats 4000000
set_option autoImplicit false
/-! TM: source trees and their rows, in plain Lean. -/
namespace DL
open PySem L2
/-- a tree: its first part, and the rest -/
inductive Tr where
  | nil
  | one (r : Row) (k : Tr)
  | ifp (a A : Nat) (t f k : Tr)
  | loop (a A : Nat) (b k : Tr)
def Tr.len : Tr → Nat
  | .nil => 0
  | .one _ k => k.len + 1
  | .ifp _ _ t f k => t.len + 2 + f.len + k.len
  | .loop _ _ b k => b.len + 2 + k.len
def Tr.rows : Tr → Nat → List Row
  | .nil, _ => []
  | .one r k, p => r :: k.rows (p + 1)
  | .ifp a A t f k, p => .test a A (p + t.len + 2) :: (t.rows (p + 1) ++ .jump (p + t.len + 2 + f.len) :: (f.rows (p + t.len + 2) ++ k.rows (p + t.len + 2 + f.len)))
  | .loop a A b k, p => .test a A (p + b.len + 2) :: (b.rows (p + 1) ++ .jump p :: k.rows (p + b.len + 2))
theorem Tr.rows_len : ∀ (t : Tr) (p : Nat), (t.rows p).length = t.len
  | .nil, p => rfl
  | .one r k, p => by simp [Tr.rows, Tr.len, Tr.rows_len k]
  | .ifp a A t f k, p => by simp [Tr.rows, Tr.len, Tr.rows_len t, Tr.rows_len f, Tr.rows_len k]; omega
  | .loop a A b k, p => by simp [Tr.rows, Tr.len, Tr.rows_len b, Tr.rows_len k]; omega
/-- a row that a part may do -/
def Row.isDo : Row → Bool
  | .test _ _ _ => false
  | .jump _ => false
  | .fin => false
  | _ => true
def Tr.ok : Tr → Prop
  | .nil => True
  | .one r k => r.isDo = true ∧ r.ok 1 ∧ k.ok
  | .ifp a A t f k => a < 4 ∧ A < 2 ∧ t.ok ∧ f.ok ∧ k.ok
  | .loop a A b k => a < 4 ∧ A < 2 ∧ b.ok ∧ k.ok
/-- the rows of the tree stand from p on -/
def Has (g : Prog) : Tr → Nat → Prop
  | .nil, _ => True
  | .one r k, p => rowAt g p = r ∧ Has g k (p + 1)
  | .ifp a A t f k, p => rowAt g p = .test a A (p + t.len + 2) ∧ Has g t (p + 1) ∧ rowAt g (p + t.len + 1) = .jump (p + t.len + 2 + f.len) ∧ Has g f (p + t.len + 2) ∧ Has g k (p + t.len + 2 + f.len)
  | .loop a A b k, p => rowAt g p = .test a A (p + b.len + 2) ∧ Has g b (p + 1) ∧ rowAt g (p + b.len + 1) = .jump p ∧ Has g k (p + b.len + 2)
theorem has_of {g : Prog} : ∀ (t : Tr) (p : Nat), (∀ i r, (t.rows p)[i]? = some r → rowAt g (p + i) = r) → Has g t p
  | .nil, p, h => trivial
  | .one r k, p, h => ⟨h 0 r rfl, has_of k (p + 1) fun i r' hi => by
      have := h (i + 1) r' (by simpa [Tr.rows] using hi)
      rw [← this]; congr 1; omega⟩
  | .ifp a A t f k, p, h => by
    have lt := Tr.rows_len t (p + 1)
    have lf := Tr.rows_len f (p + t.len + 2)
    refine ⟨h 0 _ rfl, has_of t (p + 1) fun i r hi => ?_, ?_, has_of f _ fun i r hi => ?_, has_of k _ fun i r hi => ?_⟩
    · have hl := (List.getElem?_eq_some_iff.mp hi).1
      have := h (i + 1) r (by simp only [Tr.rows, List.getElem?_cons_succ]; rw [List.getElem?_append_left hl]; exact hi)
      rw [← this]; congr 1; omega
    · have := h (t.len + 1) (.jump (p + t.len + 2 + f.len)) (by simp only [Tr.rows, List.getElem?_cons_succ]; rw [List.getElem?_append_right (by omega), lt, Nat.sub_self]; rfl)
      rw [← this]; congr 1
    · have hl := (List.getElem?_eq_some_iff.mp hi).1
      have := h (t.len + 2 + i) r (by
        rw [show t.len + 2 + i = (t.len + 1 + i) + 1 by omega]
        simp only [Tr.rows, List.getElem?_cons_succ]
        rw [List.getElem?_append_right (by omega), lt, show t.len + 1 + i - t.len = i + 1 by omega, List.getElem?_cons_succ, List.getElem?_append_left hl]; exact hi)
      rw [← this]; congr 1; omega
    · have := h (t.len + 2 + f.len + i) r (by
        rw [show t.len + 2 + f.len + i = (t.len + 1 + f.len + i) + 1 by omega]
        simp only [Tr.rows, List.getElem?_cons_succ]
        rw [List.getElem?_append_right (by omega), lt, show t.len + 1 + f.len + i - t.len = (f.len + i) + 1 by omega, List.getElem?_cons_succ, List.getElem?_append_right (by omega), lf, show f.len + i - f.len = i by omega]; exact hi)
      rw [← this]; congr 1; omega
  | .loop a A b k, p, h => by
    have lb := Tr.rows_len b (p + 1)
    refine ⟨h 0 _ rfl, has_of b (p + 1) fun i r hi => ?_, ?_, has_of k _ fun i r hi => ?_⟩
    · have hl := (List.getElem?_eq_some_iff.mp hi).1
      have := h (i + 1) r (by simp only [Tr.rows, List.getElem?_cons_succ]; rw [List.getElem?_append_left hl]; exact hi)
      rw [← this]; congr 1; omega
    · have := h (b.len + 1) (.jump p) (by simp only [Tr.rows, List.getElem?_cons_succ]; rw [List.getElem?_append_right (by omega), lb, Nat.sub_self]; rfl)
      rw [← this]; congr 1
    · have := h (b.len + 2 + i) r (by
        rw [show b.len + 2 + i = (b.len + 1 + i) + 1 by omega]
        simp only [Tr.rows, List.getElem?_cons_succ]
        rw [List.getElem?_append_right (by omega), lb, show b.len + 1 + i - b.len = i + 1 by omega, List.getElem?_cons_succ]; exact hi)
      rw [← this]; congr 1; omega
/-! ### the run of a tree -/
structure RS where
  ps : PS
  left : Int
  seen : List Seen
def vis (y : Seen) : List Seen := if y = .no then [] else [y]
def RS.turn (s : RS) : RS := { s with left := s.left - 1 }
def RS.do_ (m : Mean) (x : Secr) (s : RS) (r : Row) : RS :=
  let q := stepR m x { s.ps with place := some 0 } 0 r
  { s with ps := q.1, seen := s.seen ++ vis q.2 }
def wayS (b : Bool) : Seen := if b then .inn else .out
def RS.dec (m : Mean) (s : RS) (a A : Nat) : Bool := m.isIn A (rg s.ps.regs a)
def RS.see (s : RS) (b : Bool) : RS := { s with seen := s.seen ++ [wayS b] }
def loopI (m : Mean) (body : RS → Bool × RS) (a A : Nat) : Nat → RS → Bool × RS
  | 0, s => (false, s.turn)
  | n + 1, s => if 0 ≤ s.turn.left then
      (if s.turn.dec m a A then
        (let q := body (s.turn.see true)
        if q.1 then loopI m body a A n q.2 else (false, q.2))
      else (true, s.turn.see false))
    else (false, s.turn)
def mkT (m : Mean) (x : Secr) : Tr → RS → Bool × RS
  | .nil, s => (true, s)
  | .one r k, s => if 0 ≤ s.turn.left then mkT m x k (s.turn.do_ m x r) else (false, s.turn)
  | .ifp a A t f k, s => if 0 ≤ s.turn.left then
      (let q := if s.turn.dec m a A then mkT m x t (s.turn.see true) else mkT m x f (s.turn.see false)
      if q.1 then mkT m x k q.2 else (false, q.2))
    else (false, s.turn)
  | .loop a A b k, s =>
    let q := loopI m (fun s => mkT m x b s) a A (s.left.toNat + 1) s
    if q.1 then mkT m x k q.2 else (false, q.2)
/-! ### the plain machine makes the rows -/
/-- n plain steps, and what they saw -/
def itT (g : Prog) (m : Mean) (x : Secr) : Nat → PS → Option (PS × List (Nat × Seen))
  | 0, s => some (s, [])
  | n + 1, s => match stepP g m x s with
    | none => none
    | some (s', p, y) => (itT g m x n s').map fun q => (q.1, (p, y) :: q.2)
section
variable {g : Prog} {m : Mean} {x : Secr}
theorem itT_trans : ∀ {n k : Nat} {a b c : PS} {u v : List (Nat × Seen)}, itT g m x n a = some (b, u) → itT g m x k b = some (c, v) → itT g m x (n + k) a = some (c, u ++ v)
  | 0, k, a, b, c, u, v, h1, h2 => by cases h1; rw [Nat.zero_add]; exact h2
  | n + 1, k, a, b, c, u, v, h1, h2 => by
    rw [Nat.succ_add]
    unfold itT at h1 ⊢
    cases hs : stepP g m x a with
    | none => rw [hs] at h1; cases h1
    | some q =>
      obtain ⟨s', p, y⟩ := q
      rw [hs] at h1
      simp only at h1 ⊢
      cases hr : itT g m x n s' with
      | none => rw [hr] at h1; cases h1
      | some w =>
        rw [hr] at h1
        obtain ⟨w1, w2⟩ := w
        simp only [Option.map_some, Option.some.injEq, Prod.mk.injEq] at h1
        obtain ⟨rfl, rfl⟩ := h1
        rw [itT_trans hr h2]
        rfl
def visT (l : List (Nat × Seen)) : List Seen := (l.map (·.2)).filter fun y => !decide (y = .no)
theorem visT_append (a b : List (Nat × Seen)) : visT (a ++ b) = visT a ++ visT b := by unfold visT; rw [List.map_append, List.filter_append]
theorem visT_one (p : Nat) (y : Seen) : visT [(p, y)] = vis y := by
  unfold visT vis
  by_cases h : y = .no
  · simp [h]
  · simp [h]
def atP (s : PS) (p : Nat) : PS := { s with place := some p }
theorem one_step {s : PS} {p q : Nat} {s' : PS} {y : Seen} (h : stepR m x (atP s p) p (rowAt g p) = (atP s' q, y)) : itT g m x 1 (atP s p) = some (atP s' q, [(p, y)]) := by
  unfold itT stepP
  simp only [atP] at h ⊢
  simp only [h]
  rfl
theorem stepR_do {r : Row} (h : r.isDo = true) (s : PS) (p : Nat) : stepR m x (atP s p) p r = (atP (stepR m x (atP s 0) 0 r).1 (p + 1), (stepR m x (atP s 0) 0 r).2) := by
  cases r <;> first | rfl | cases h
/-- what a part's run comes to on the plain machine -/
structure Made (g : Prog) (m : Mean) (x : Secr) (s : RS) (p : Nat) (s' : RS) (p' : Nat) : Prop where
  ex : ∃ n l, itT g m x n (atP s.ps p) = some (atP s'.ps p', l) ∧ s'.seen = s.seen ++ visT l ∧ s.left - s'.left ≤ n ∧ (n : Int) ≤ 2 * (s.left - s'.left)
/-- the turns were too few -/
structure Cut (g : Prog) (m : Mean) (x : Secr) (s : RS) (p : Nat) : Prop where
  ex : ∃ n l y q, itT g m x n (atP s.ps p) = some (atP y q, l) ∧ s.left ≤ n
theorem Made.trans {s s1 s2 : RS} {p p1 p2 : Nat} (a : Made g m x s p s1 p1) (b : Made g m x s1 p1 s2 p2) : Made g m x s p s2 p2 := by
  obtain ⟨n, l, h1, h2, h3, h4⟩ := a.ex
  obtain ⟨k, l', k1, k2, k3, k4⟩ := b.ex
  exact ⟨n + k, l ++ l', itT_trans h1 k1, by rw [k2, h2, visT_append, List.append_assoc], by omega, by omega⟩
theorem Made.cut {s s1 : RS} {p p1 : Nat} (a : Made g m x s p s1 p1) (b : Cut g m x s1 p1) : Cut g m x s p := by
  obtain ⟨n, l, h1, h2, h3, h4⟩ := a.ex
  obtain ⟨k, l', y, q, k1, k2⟩ := b.ex
  exact ⟨n + k, l ++ l', y, q, itT_trans h1 k1, by omega⟩
/-- a turn, and then a row and perhaps a jump -/
theorem Made.refl (s : RS) (p : Nat) : Made g m x s p s p := ⟨0, [], rfl, by simp [visT], by omega, by omega⟩
theorem cut_zero {s : RS} {p : Nat} (h : s.left ≤ 0) : Cut g m x s p := ⟨0, [], s.ps, p, rfl, by omega⟩
theorem made_do {s : RS} {p : Nat} {r : Row} (h : r.isDo = true) (hr : rowAt g p = r) : Made g m x s p (s.turn.do_ m x r) (p + 1) := by
  refine ⟨1, _, one_step (s := s.ps) (s' := (s.turn.do_ m x r).ps) (q := p + 1) (y := (stepR m x (atP s.ps 0) 0 r).2) (by rw [hr, stepR_do h]; rfl), ?_, ?_, ?_⟩
  · rw [visT_one]; rfl
  · simp only [RS.do_, RS.turn]; omega
  · simp only [RS.do_, RS.turn]; omega
theorem made_test {s : RS} {p a A t : Nat} {b : Bool} (hr : rowAt g p = .test a A t) (hb : s.turn.dec m a A = b) : Made g m x s p (s.turn.see b) (if b then p + 1 else t) := by
  have hb2 : m.isIn A (rg s.ps.regs a) = b := hb
  refine ⟨1, _, one_step (s := s.ps) (s' := s.ps) (q := if b then p + 1 else t) (y := wayS b) (by rw [hr]; cases b <;> simp [stepR, atP, hb2, wayS]), ?_, ?_, ?_⟩
  · rw [visT_one]; cases b <;> rfl
  · simp only [RS.see, RS.turn]; omega
  · simp only [RS.see, RS.turn]; omega
/-- a turn was had: a jump is for free -/
theorem Made.jump {s s1 : RS} {p p1 t : Nat} (a : ∃ n l, itT g m x n (atP s.ps p) = some (atP s1.ps p1, l) ∧ s1.seen = s.seen ++ visT l ∧ s.left - s1.left ≤ n ∧ (n : Int) + 1 ≤ 2 * (s.left - s1.left)) (hr : rowAt g p1 = .jump t) : Made g m x s p s1 t := by
  obtain ⟨n, l, h1, h2, h3, h4⟩ := a
  exact ⟨n + 1, _, itT_trans h1 (one_step (s := s1.ps) (s' := s1.ps) (q := t) (y := .no) (by rw [hr]; rfl)), by rw [h2, visT_append, visT_one]; simp [vis], by omega, by omega⟩
/-- a test with a turn, and what follows -/
theorem test_then {s s1 : RS} {p a A t q : Nat} {b : Bool} (hr : rowAt g p = .test a A t) (hb : s.turn.dec m a A = b) (h : Made g m x (s.turn.see b) (if b then p + 1 else t) s1 q) :
    ∃ n l, itT g m x n (atP s.ps p) = some (atP s1.ps q, l) ∧ s1.seen = s.seen ++ visT l ∧ s.left - s1.left ≤ n ∧ (n : Int) + 1 ≤ 2 * (s.left - s1.left) := by
  have hb2 : m.isIn A (rg s.ps.regs a) = b := hb
  obtain ⟨n, l, h1, h2, h3, h4⟩ := h.ex
  refine ⟨1 + n, _, itT_trans (one_step (s := s.ps) (s' := s.ps) (q := if b then p + 1 else t) (y := wayS b) (by rw [hr]; cases b <;> simp [stepR, atP, hb2, wayS])) h1, ?_, ?_, ?_⟩
  · rw [h2, visT_append, visT_one, ← List.append_assoc]; cases b <;> rfl
  · simp only [RS.see, RS.turn] at h3; omega
  · simp only [RS.see, RS.turn] at h4; omega
/-- made or cut -/
def Res (g : Prog) (m : Mean) (x : Secr) (s : RS) (p : Nat) (r : Bool × RS) (p' : Nat) : Prop := if r.1 then Made g m x s p r.2 p' else Cut g m x s p
theorem loopI_res {body : RS → Bool × RS} {a A p l : Nat} (hr : rowAt g p = .test a A (p + l + 2)) (hj : rowAt g (p + l + 1) = .jump p) (hb : ∀ s, Res g m x s (p + 1) (body s) (p + l + 1)) (hd : ∀ s, (body s).2.left ≤ s.left) :
    ∀ (n : Nat) (s : RS), s.left < n → Res g m x s p (loopI m body a A n s) (p + l + 2)
  | 0, s, h => by
    unfold Res loopI
    exact cut_zero (by omega)
  | n + 1, s, h => by
    unfold loopI
    by_cases hl : 0 ≤ s.turn.left
    · rw [if_pos hl]
      cases hdec : s.turn.dec m a A with
      | false =>
        have := made_test (g := g) (x := x) hr hdec
        simpa [Res] using this
      | true =>
        simp only [if_true]
        have h1 := hb (s.turn.see true)
        have h2 := hd (s.turn.see true)
        have hmt := made_test (g := g) (x := x) hr hdec
        simp only [if_true] at hmt
        generalize body (s.turn.see true) = q at *
        cases hq : q.1 with
        | false =>
          unfold Res at h1
          rw [hq] at h1
          simp only [Bool.false_eq_true, if_false] at h1 ⊢
          exact hmt.cut h1
        | true =>
          unfold Res at h1
          rw [hq] at h1
          simp only [if_true] at h1 ⊢
          have h3 := Made.jump (test_then (g := g) (x := x) hr hdec (by simpa using h1)) hj
          have h4 := loopI_res hr hj hb hd n q.2 (by simp only [RS.see, RS.turn] at h2; omega)
          unfold Res at h4 ⊢
          cases hz : (loopI m body a A n q.2).1 with
          | false => rw [hz] at h4; exact h3.cut h4
          | true => rw [hz] at h4; exact h3.trans h4
    · rw [if_neg hl]
      unfold Res
      exact cut_zero (by simp only [RS.turn] at hl; omega)
theorem loopI_left {body : RS → Bool × RS} {a A : Nat} (hd : ∀ s, (body s).2.left ≤ s.left) : ∀ (n : Nat) (s : RS), (loopI m body a A n s).2.left ≤ s.left
  | 0, s => by unfold loopI; simp only [RS.turn]; omega
  | n + 1, s => by
    unfold loopI
    split
    · split
      · have h2 := hd (s.turn.see true)
        simp only [RS.see, RS.turn] at h2
        simp only
        split
        · exact Int.le_trans (loopI_left hd n _) (by simp only [RS.see, RS.turn]; omega)
        · simp only [RS.see, RS.turn]; omega
      · simp only [RS.see, RS.turn]; omega
    · simp only [RS.turn]; omega
theorem mkT_left : ∀ (t : Tr) (s : RS), (mkT m x t s).2.left ≤ s.left
  | .nil, s => Int.le_refl _
  | .one r k, s => by
    unfold mkT
    split
    · exact Int.le_trans (mkT_left k _) (by simp only [RS.do_, RS.turn]; omega)
    · simp only [RS.turn]; omega
  | .ifp a A t f k, s => by
    unfold mkT
    split
    · have h1 := mkT_left t (s.turn.see true)
      have h2 := mkT_left f (s.turn.see false)
      have h3 : (if s.turn.dec m a A = true then mkT m x t (s.turn.see true) else mkT m x f (s.turn.see false)).2.left ≤ s.left := by
        split
        · simp only [RS.see, RS.turn] at h1 ⊢; omega
        · simp only [RS.see, RS.turn] at h2 ⊢; omega
      simp only
      generalize (if s.turn.dec m a A = true then mkT m x t (s.turn.see true) else mkT m x f (s.turn.see false)) = q at *
      cases hq : q.1
      · simpa using h3
      · simp only [if_true]; exact Int.le_trans (mkT_left k _) h3
    · simp only [RS.turn]; omega
  | .loop a A b k, s => by
    unfold mkT
    have h1 := loopI_left (m := m) (body := fun s => mkT m x b s) (a := a) (A := A) (fun s => mkT_left b s) (s.left.toNat + 1) s
    simp only
    split
    · exact Int.le_trans (mkT_left k _) h1
    · exact h1
theorem mkT_res : ∀ (t : Tr) (p : Nat) (s : RS), Has g t p → t.ok → Res g m x s p (mkT m x t s) (p + t.len)
  | .nil, p, s, _, _ => by unfold Res mkT; exact Made.refl s p
  | .one r k, p, s, h, ho => by
    unfold mkT
    by_cases hl : 0 ≤ s.turn.left
    · rw [if_pos hl]
      have h1 := made_do (m := m) (x := x) (s := s) ho.1 h.1
      have h2 := mkT_res k (p + 1) (s.turn.do_ m x r) h.2 ho.2.2
      have he : p + 1 + k.len = p + (Tr.one r k).len := by simp only [Tr.len]; omega
      rw [he] at h2
      unfold Res at h2 ⊢
      cases hz : (mkT m x k (s.turn.do_ m x r)).1 with
      | false => rw [hz] at h2; exact h1.cut h2
      | true => rw [hz] at h2; exact h1.trans h2
    · rw [if_neg hl]
      unfold Res
      exact cut_zero (by simp only [RS.turn] at hl; omega)
  | .ifp a A t f k, p, s, ⟨h1, h2, h3, h4, h5⟩, ⟨_, _, o1, o2, o3⟩ => by
    unfold mkT
    by_cases hl : 0 ≤ s.turn.left
    · rw [if_pos hl]
      simp only
      have he : p + t.len + 2 + f.len + k.len = p + (Tr.ifp a A t f k).len := by simp only [Tr.len]; omega
      -- one of the two trees
      have key : Res g m x s p (if s.turn.dec m a A = true then mkT m x t (s.turn.see true) else mkT m x f (s.turn.see false)) (p + t.len + 2 + f.len) := by
        cases hdec : s.turn.dec m a A with
        | true =>
          simp only [if_true]
          have r1 := mkT_res t (p + 1) (s.turn.see true) h2 o1
          have hmt := made_test (g := g) (x := x) h1 hdec
          simp only [if_true] at hmt
          generalize mkT m x t (s.turn.see true) = q at *
          unfold Res at r1 ⊢
          cases hq : q.1 with
          | false => rw [hq] at r1; exact hmt.cut r1
          | true =>
            rw [hq] at r1
            simp only [if_true] at r1 ⊢
            have he2 : p + 1 + t.len = p + t.len + 1 := by omega
            rw [he2] at r1
            exact Made.jump (test_then (g := g) (x := x) h1 hdec (by simpa using r1)) h3
        | false =>
          simp only [Bool.false_eq_true, if_false]
          have r1 := mkT_res f (p + t.len + 2) (s.turn.see false) h4 o2
          have hmt := made_test (g := g) (x := x) h1 hdec
          simp only [Bool.false_eq_true, if_false] at hmt
          generalize mkT m x f (s.turn.see false) = q at *
          unfold Res at r1 ⊢
          cases hq : q.1 with
          | false => rw [hq] at r1; exact hmt.cut r1
          | true => rw [hq] at r1; exact hmt.trans r1
      generalize (if s.turn.dec m a A = true then mkT m x t (s.turn.see true) else mkT m x f (s.turn.see false)) = q at *
      unfold Res at key
      cases hq : q.1 with
      | false => rw [hq] at key; simpa [Res] using key
      | true =>
        rw [hq] at key
        simp only [if_true] at key ⊢
        have r2 := mkT_res k (p + t.len + 2 + f.len) q.2 h5 o3
        rw [he] at r2
        unfold Res at r2 ⊢
        cases hz : (mkT m x k q.2).1 with
        | false => rw [hz] at r2; exact key.cut r2
        | true => rw [hz] at r2; exact key.trans r2
    · rw [if_neg hl]
      unfold Res
      exact cut_zero (by simp only [RS.turn] at hl; omega)
  | .loop a A b k, p, s, ⟨h1, h2, h3, h4⟩, ⟨_, _, o1, o2⟩ => by
    unfold mkT
    have he : p + b.len + 2 + k.len = p + (Tr.loop a A b k).len := by simp only [Tr.len]; omega
    have he2 : p + 1 + b.len = p + b.len + 1 := by omega
    have key := loopI_res (m := m) (x := x) (body := fun s => mkT m x b s) (l := b.len) h1 h3 (fun s => by
      have := mkT_res b (p + 1) s h2 o1
      rw [he2] at this
      exact this) (fun s => mkT_left b s) (s.left.toNat + 1) s (by omega)
    simp only
    generalize loopI m (fun s => mkT m x b s) a A (s.left.toNat + 1) s = q at *
    unfold Res at key
    cases hq : q.1 with
    | false => rw [hq] at key; simpa [Res] using key
    | true =>
      rw [hq] at key
      simp only [if_true] at key ⊢
      have r2 := mkT_res k (p + b.len + 2) q.2 h4 o2
      rw [he] at r2
      unfold Res at r2 ⊢
      cases hz : (mkT m x k q.2).1 with
      | false => rw [hz] at r2; exact key.cut r2
      | true => rw [hz] at r2; exact key.trans r2
end
end DL
end
section
set_option Elab.async false
set_option linter.all false
set_option maxRecDepth 100000
set_option maxHeartbeats 4000000
set_option autoImplicit false
/-! TI: is_number, is_row, is_secret, is_program (as for k01). -/
namespace DL
open PySem L2
def isNum (d : D) (m : Int) : Bool := match d with | .int i => decide (0 ≤ i ∧ i < m) | _ => false
theorem isi_dt6 {T : String} {b : List (List Key × D)} {e : Sl} {st : Sto} : gIsi T (.dt b) e st = .ok (.bl (isTy T "dict")) e st := rfl
theorem sp_isnum {d : D} (h : Ty d = true) (m : Int) (s : Sto) : fn_is_number [d, .int m] s = .ok (.val (.bl (isNum d m))) s := by
  unfold fn_is_number g_is_number
  rw [fnOf_at]
  cases d <;> first | cases h | skip
  all_goals simp [isi_dt6, isTy, isNum, eChain, bLe, bLt]
  rename_i i
  by_cases h0 : 0 ≤ i <;> simp [h0]
def mostOf (c : Nat) (n : Int) : Int := if (⟨#[c]⟩ : Str) = Str.ofString "r" then 4 else if (⟨#[c]⟩ : Str) = Str.ofString "s" then 2 else if (⟨#[c]⟩ : Str) = Str.ofString "A" then 2 else n
theorem sp_most {c : Nat} (n : Int) (s : Sto) : fn_most_of [.str ⟨#[c]⟩, .int n] s = .ok (.val (.int (mostOf c n))) s := by
  unfold fn_most_of g_most_of mostOf
  rw [fnOf_at]
  simp only [List.map_cons, List.map_nil, List.length_cons, List.length_nil, List.cons_append, List.nil_append, List.replicate, Nat.sub_self, Nat.zero_add, Nat.reduceAdd]
  simp
  repeat' split
  all_goals rfl
theorem ty_fz {d : D} (h : Ty d = true) (e : Sl) : fz d e = some (d, e) := fz_ty h
theorem sp_isrow {k z : Str} {as : List D} (n : Int) (hk : tabAt tab_SHAPES k = some (some z)) (hl : as.length = z.length) (hty : ∀ a ∈ as, Ty a = true) (hb : z.length ≤ 100) (s : Sto) :
    fn_is_row [.tup (.str k :: as), .int n] s = .ok (.val (.bl ((List.range z.length).all fun i => isNum (as.getD i .non) (mostOf (z.cps.toList.getD i 0) n)))) s := by
  have hz : z.cps.toList.length = z.length := by simp [Str.length]
  generalize hf : (fun i => isNum (as.getD i .non) (mostOf (z.cps.toList.getD i 0) n)) = f
  unfold fn_is_row g_is_row
  rw [fnOf_at]
  have h0 : atI (.str k :: as) 0 = some (.str k) := by
    rw [atI_of (by omega) (by simp)]
    rfl
  have hlm : z.length ≤ lim := by unfold lim; omega
  have hc := comp_rng (i := 3) (s := s) (n := z.length) (e := [some (SV.val (D.tup (.str k :: as))), some (SV.val (D.int n)), some (SV.val (.str z)), none])
    (ft := eYes) (fe := eCall 2 fn_is_number (aCons (eBin gIx (eVar 0) (eBin gAdd (eVar 3) (eK (.int 1)))) (aCons (eCall 2 fn_most_of (aCons (eBin gIx (eVar 2) (eVar 3)) (aCons (eVar 1) aNil))) aNil))) (f := eUn gLen (eVar 2))
    (fun m => true) (fun i => .bl (f i)) (by simp [len_str hlm]) hlm rfl (fun m hm => by
      have a1 : as[m]? = some (as.getD m .non) := by rw [List.getD_eq_getElem?_getD, List.getElem?_eq_getElem (by omega)]; rfl
      have a2 : atI (.str k :: as) ((m : Int) + 1) = some (as.getD m .non) := by
        rw [atI_of (by omega) (by simp; omega)]
        have : ((m : Int) + 1).toNat = m + 1 := by omega
        rw [this, List.getElem?_cons_succ, a1]
      have a3 : atI z.cps.toList (m : Int) = some (z.cps.toList.getD m 0) := by
        rw [atI_of (by omega) (by omega)]
        have : (m : Int).toNat = m := by omega
        rw [this, List.getD_eq_getElem?_getD, List.getElem?_eq_getElem (by omega)]; rfl
      have a4 : Ty (as.getD m .non) = true := hty _ (List.mem_of_getElem? a1)
      have a5 := congrFun hf m
      refine ⟨rfl, fun _ => ?_⟩
      generalize as.getD m .non = a at *
      generalize z.cps.toList.getD m 0 = c at *
      simp [ix_tup a2, ix_str a3 hlm, sp_most, sp_isnum a4, ty_fz a4, a5])
  rw [show (List.range z.length).filter (fun m => true) = List.range z.length from List.filter_eq_self.mpr (fun _ _ => rfl)] at hc
  have hall := all_at (s := s) (e := [some (SV.val (D.tup (.str k :: as))), some (SV.val (D.int n)), some (SV.val (.str z)), none]) f (List.range z.length)
  generalize (List.range z.length).all f = b at *
  have h1 : ¬ (1 + (z.length : Int) = 0) := by omega
  have h2 : ((z.length : Int) + 1) = 1 + z.length := by omega
  simp [isTy, ix_tup h0, gInTab, gTab, hk, bxor, len_str hlm, hl, List.replicate, h1, h2, hc, hall]
end DL

namespace DL
open PySem L2
theorem tab_hit (k z : String) (h : (k, z) ∈ [("ask", "r"), ("mix", "rrr"), ("load", "rAr"), ("mask", "rAr"), ("test", "rAt"), ("put", "sr"), ("get", "rs"), ("fence", ""), ("jump", "t"), ("end", "")]) : tabAt tab_SHAPES (Str.ofString k) = some (some (Str.ofString z)) := by
  simp only [List.mem_cons, Prod.mk.injEq, List.not_mem_nil, or_false] at h
  rcases h with ⟨rfl, rfl⟩ | ⟨rfl, rfl⟩ | ⟨rfl, rfl⟩ | ⟨rfl, rfl⟩ | ⟨rfl, rfl⟩ | ⟨rfl, rfl⟩ | ⟨rfl, rfl⟩ | ⟨rfl, rfl⟩ | ⟨rfl, rfl⟩ | ⟨rfl, rfl⟩
  all_goals decide +kernel
theorem most_r (n : Int) : mostOf 114 n = 4 := if_pos (by decide +kernel)
theorem most_s (n : Int) : mostOf 115 n = 2 := by unfold mostOf; rw [if_neg (by decide +kernel), if_pos (by decide +kernel)]
theorem most_A (n : Int) : mostOf 65 n = 2 := by unfold mostOf; rw [if_neg (by decide +kernel), if_neg (by decide +kernel), if_pos (by decide +kernel)]
theorem most_t (n : Int) : mostOf 116 n = n := by unfold mostOf; rw [if_neg (by decide +kernel), if_neg (by decide +kernel), if_neg (by decide +kernel)]
theorem isrow_at (k z : String) (cs : List Nat) (as : List D) (n : Int) (b : Bool) (s : Sto) (hk : (k, z) ∈ [("ask", "r"), ("mix", "rrr"), ("load", "rAr"), ("mask", "rAr"), ("test", "rAt"), ("put", "sr"), ("get", "rs"), ("fence", ""), ("jump", "t"), ("end", "")])
    (hc : z.toList.map Char.toNat = cs) (hl : as.length = cs.length) (hty : ∀ a ∈ as, Ty a = true) (hlc : cs.length ≤ 100) (hb : ((List.range cs.length).all fun i => isNum (as.getD i .non) (mostOf (cs.getD i 0) n)) = b) :
    fn_is_row [.tup (sx k :: as), .int n] s = .ok (.val (.bl b)) s := by
  have hz : (Str.ofString z).cps.toList = cs := by rw [str_cps, hc]
  have hlen : (Str.ofString z).length = cs.length := by rw [← hz]; simp [Str.length]
  rw [sp_isrow n (tab_hit k z hk) (by rw [hlen]; exact hl) hty (by omega), hz, hlen, hb]
theorem isrow_good {m n : Int} (hmn : m ≤ n) {r : D} (h : GRow m r) (s : Sto) : fn_is_row [r, .int n] s = .ok (.val (.bl true)) s := by
  cases h with
  | ask => exact isrow_at "ask" "r" [114] [_] n true s (by decide) rfl rfl (by simp [Ty, tyName]) (by decide) (by simp [List.range, List.range.loop, isNum, most_r, *])
  | mix => exact isrow_at "mix" "rrr" [114, 114, 114] [_, _, _] n true s (by decide) rfl rfl (by simp [Ty, tyName]) (by decide) (by simp [List.range, List.range.loop, isNum, most_r, *])
  | load => exact isrow_at "load" "rAr" [114, 65, 114] [_, _, _] n true s (by decide) rfl rfl (by simp [Ty, tyName]) (by decide) (by simp [List.range, List.range.loop, isNum, most_r, most_A, *])
  | mask => exact isrow_at "mask" "rAr" [114, 65, 114] [_, _, _] n true s (by decide) rfl rfl (by simp [Ty, tyName]) (by decide) (by simp [List.range, List.range.loop, isNum, most_r, most_A, *])
  | test => exact isrow_at "test" "rAt" [114, 65, 116] [_, _, _] n true s (by decide) rfl rfl (by simp [Ty, tyName]) (by decide) (by simp [List.range, List.range.loop, isNum, most_r, most_A, most_t, *]; omega)
  | put => exact isrow_at "put" "sr" [115, 114] [_, _] n true s (by decide) rfl rfl (by simp [Ty, tyName]) (by decide) (by simp [List.range, List.range.loop, isNum, most_r, most_s, *])
  | get => exact isrow_at "get" "rs" [114, 115] [_, _] n true s (by decide) rfl rfl (by simp [Ty, tyName]) (by decide) (by simp [List.range, List.range.loop, isNum, most_r, most_s, *])
  | fence => exact isrow_at "fence" "" [] [] n true s (by decide) rfl rfl (by simp [Ty, tyName]) (by decide) (by simp)
  | jump => exact isrow_at "jump" "t" [116] [_] n true s (by decide) rfl rfl (by simp [Ty, tyName]) (by decide) (by simp [List.range, List.range.loop, isNum, most_t, *]; omega)
  | ed => exact isrow_at "end" "" [] [] n true s (by decide) rfl rfl (by simp [Ty, tyName]) (by decide) (by simp)
/-- a row of another length -/
theorem isrow_len (k z : String) (as : List D) (n : Int) (s : Sto) (hk : (k, z) ∈ [("ask", "r"), ("mix", "rrr"), ("load", "rAr"), ("mask", "rAr"), ("test", "rAt"), ("put", "sr"), ("get", "rs"), ("fence", ""), ("jump", "t"), ("end", "")])
    (hl : as.length ≠ (z.toList.map Char.toNat).length) (hlc : (z.toList.map Char.toNat).length ≤ 100) : fn_is_row [.tup (sx k :: as), .int n] s = .ok (.val (.bl false)) s := by
  have hlen : (Str.ofString z).length = (z.toList.map Char.toNat).length := by rw [← str_cps]; simp [Str.length]
  generalize (z.toList.map Char.toNat).length = q at *
  have h0 : atI (sx k :: as) 0 = some (sx k) := by
    rw [atI_of (by omega) (by simp)]
    rfl
  unfold fn_is_row g_is_row
  rw [fnOf_at]
  have h1 : ¬ ((as.length : Int) + 1 = 0) := by omega
  have h2 : ¬ ((as.length : Int) + 1 = 1 + (q : Int)) := by omega
  simp [isTy, ix_tup h0, gInTab, gTab, tab_hit k z hk, bxor, len_str (show (Str.ofString z).length ≤ lim by unfold lim; omega), hlen, List.replicate, h1, h2]
theorem isrow_extra {m n : Int} {r : List D} (h : GRow m (.tup r)) (x : D) (s : Sto) : fn_is_row [.tup (r ++ [x]), .int n] s = .ok (.val (.bl false)) s := by
  cases h with
  | ask => exact isrow_len "ask" "r" _ n s (by decide) (by simp) (by decide)
  | mix => exact isrow_len "mix" "rrr" _ n s (by decide) (by simp) (by decide)
  | load => exact isrow_len "load" "rAr" _ n s (by decide) (by simp) (by decide)
  | mask => exact isrow_len "mask" "rAr" _ n s (by decide) (by simp) (by decide)
  | test => exact isrow_len "test" "rAt" _ n s (by decide) (by simp) (by decide)
  | put => exact isrow_len "put" "sr" _ n s (by decide) (by simp) (by decide)
  | get => exact isrow_len "get" "rs" _ n s (by decide) (by simp) (by decide)
  | fence => exact isrow_len "fence" "" _ n s (by decide) (by simp) (by decide)
  | jump => exact isrow_len "jump" "t" _ n s (by decide) (by simp) (by decide)
  | ed => exact isrow_len "end" "" _ n s (by decide) (by simp) (by decide)
theorem sec_t (s : Sto) : fn_is_secret [.tup [.int 0, .int 2, .int 3]] s = .ok (.val (.bl true)) s := by rfl
end DL

namespace DL
open PySem L2
def pD (sec rows : D) : D := .dk [(.inr (Str.ofString "secret"), sec), (.inr (Str.ofString "rows"), rows)]
theorem lk_sec {sec rows : D} : lk [((Sum.inr (Str.ofString "secret") : Key), sec), (.inr (Str.ofString "rows"), rows)] (.inr (Str.ofString "secret")) = some sec := by simp [lk]
theorem lk_rows {sec rows : D} : lk [((Sum.inr (Str.ofString "secret") : Key), sec), (.inr (Str.ofString "rows"), rows)] (.inr (Str.ofString "rows")) = some rows := by simp [lk]
theorem sec_ok {sec : List Int} (h : ∃ q : Nat → Bool, sec = ((List.range 4).filter q).map fun n => ((n : Nat) : Int)) (s : Sto) : fn_is_secret [.tup (sec.map .int)] s = .ok (.val (.bl true)) s := by
  obtain ⟨q, rfl⟩ := h
  cases h0 : q 0 <;> cases h1 : q 1 <;> cases h2 : q 2 <;> cases h3 : q 3 <;>
    simp only [List.range, List.range.loop, List.filter_cons, h0, h1, h2, h3, List.filter_nil, List.map_cons, List.map_nil, if_true, Bool.false_eq_true, if_false] <;> rfl
theorem prog_sec {sec rows : D} (hs : Ty sec = true) (hr : Ty rows = true) (s : Sto) (h : fn_is_secret [sec] s = .ok (.val (.bl false)) s) : fn_is_program [pD sec rows] s = .ok (.val (.bl false)) s := by
  unfold fn_is_program g_is_program pD
  rw [fnOf_at]
  simp [isTy, gIn, toK, lk_sec, lk_rows, bxor, ix_dk lk_sec, ix_dk lk_rows, fz_ty hs, fz_ty hr, h, List.replicate]
theorem prog_notTup {sec rows : D} (hs : Ty sec = true) {t : String} (hr : tyName rows = some t) (ht : t ≠ "tuple" ∧ t ≠ "bool") (s : Sto) (h : fn_is_secret [sec] s = .ok (.val (.bl true)) s) : fn_is_program [pD sec rows] s = .ok (.val (.bl false)) s := by
  unfold fn_is_program g_is_program pD
  rw [fnOf_at]
  have hr' : Ty rows = true := by unfold Ty; rw [hr]; rfl
  simp [isTy, gIn, toK, lk_sec, lk_rows, bxor, ix_dk lk_sec, ix_dk lk_rows, fz_ty hs, fz_ty hr', h, isi_at hr, ht, List.replicate]
theorem prog_len {sec : D} {rows : List D} (hs : Ty sec = true) (s : Sto) (h : fn_is_secret [sec] s = .ok (.val (.bl true)) s) (hl : rows.length = 0 ∨ 32 < rows.length) : fn_is_program [pD sec (.tup rows)] s = .ok (.val (.bl false)) s := by
  unfold fn_is_program g_is_program pD
  rw [fnOf_at]
  have h1 : ¬ ((1 : Int) ≤ rows.length ∧ (rows.length : Int) ≤ 32) := by omega
  simp [isTy, gIn, toK, lk_sec, lk_rows, bxor, ix_dk lk_sec, ix_dk lk_rows, fz_ty hs, h, eChain, bLe, List.replicate]
  by_cases h2 : (1 : Int) ≤ rows.length
  · have h3 : ¬ ((rows.length : Int) ≤ 32) := by omega
    simp [h2, h3]
  · simp [h2]
theorem prog_rows {sec : D} {rows : List D} (hs : Ty sec = true) (s : Sto) (h : fn_is_secret [sec] s = .ok (.val (.bl true)) s) (h1 : 1 ≤ rows.length) (h2 : rows.length ≤ 32) (f : D → Bool)
    (hf : ∀ r ∈ rows, Ty r = true ∧ fn_is_row [r, .int rows.length] s = .ok (.val (.bl (f r))) s) (k : String) (as : List D) (hk : rows.all f = true → rows.getLast? = some (.tup (sx k :: as))) :
    fn_is_program [pD sec (.tup rows)] s = .ok (.val (.bl (rows.all f && ("jump" == k || "end" == k)))) s := by
  have hc := comp_seq (i := 2) (s := s) (e := [some (SV.val (pD sec (.tup rows))), some (SV.val (.tup rows)), none]) (ft := eYes) (fe := eCall 2 fn_is_row (aCons (eVar 2) (aCons (eUn gLen (eVar 1)) aNil))) (f := eVar 1) (fun _ => true) (fun r => .bl (f r)) (d := .tup rows) (ds := rows) rfl rfl (by unfold lim; omega) rfl (fun r hr => by
    obtain ⟨hr1, hr2⟩ := hf r hr
    refine ⟨rfl, fun _ => ?_⟩
    simp [fz_ty hr1, hr2])
  rw [show rows.filter (fun m => true) = rows from List.filter_eq_self.mpr (fun _ _ => rfl)] at hc
  have hall := all_at (s := s) (e := [some (SV.val (pD sec (.tup rows))), some (SV.val (.tup rows)), none]) f rows
  have hlast : rows.all f = true → atI rows (-1) = some (.tup (sx k :: as)) := fun hh => by
    have := hk hh
    obtain ⟨ys, hy⟩ := List.getLast?_eq_some_iff.mp this
    rw [hy]
    exact atI_last
  have h0 : atI (sx k :: as) 0 = some (sx k) := by
    rw [atI_of (by omega) (by simp)]
    rfl
  generalize rows.all f = b at *
  unfold fn_is_program g_is_program
  rw [fnOf_at]
  have z1 : (1 : Int) ≤ rows.length := by omega
  have z2 : (rows.length : Int) ≤ 32 := by omega
  have hv : pD sec (.tup rows) = .dk [(.inr (Str.ofString "secret"), sec), (.inr (Str.ofString "rows"), .tup rows)] := rfl
  rw [hv] at hc hall
  rw [hv]
  cases b with
  | false => simp [isTy, gIn, toK, lk_sec, lk_rows, bxor, ix_dk lk_sec, ix_dk lk_rows, fz_ty hs, h, eChain, bLe, List.replicate, z1, z2, hc, hall]
  | true =>
    have hl := hlast rfl
    simp [isTy, gIn, toK, lk_sec, lk_rows, bxor, ix_dk lk_sec, ix_dk lk_rows, fz_ty hs, h, eChain, bLe, List.replicate, z1, z2, hc, hall, ix_tup hl, ix_tup h0, flatD, eqF, lim]
/-- the drawn program is one -/
theorem prog_good {d : D} (g : GProg d) (s : Sto) : fn_is_program [d] s = .ok (.val (.bl true)) s := by
  obtain ⟨sec, rows, last, rfl, hb, ho, hl, hs⟩ := g
  have hq := sec_ok hs s
  have hlen : ((rows ++ [last]).length : Int) = (rows.length + 1 : Nat) := by simp
  have hty : ∀ r ∈ rows ++ [last], Ty r = true := fun r hr => by have := ho r hr; cases this <;> rfl
  have key : ∃ (k : String) (as : List D), last = .tup (sx k :: as) ∧ ("jump" == k || "end" == k) = true := by
    rcases hl with rfl | ⟨a, rfl⟩
    · exact ⟨"end", [], rfl, rfl⟩
    · exact ⟨"jump", [.int a], rfl, rfl⟩
  obtain ⟨k, as, hk, hkk⟩ := key
  have := prog_rows (sec := .tup (sec.map .int)) (rows := rows ++ [last]) rfl s hq (by simp) (by simp; omega) (fun _ => true) (fun r hr => ⟨hty r hr, by rw [hlen]; exact isrow_good (by omega) (ho r hr) s⟩) k as (fun _ => by simp [hk])
  rw [hkk] at this
  unfold progD
  unfold pD at this
  rw [this]
  simp
/-- rows of which one is none -/
theorem prog_bad {sec : List Int} {rows : List D} (hs : ∃ q : Nat → Bool, sec = ((List.range 4).filter q).map fun n => ((n : Nat) : Int)) (s : Sto) (h1 : 1 ≤ rows.length) (h2 : rows.length ≤ 32)
    (hf : ∀ r ∈ rows, Ty r = true ∧ ∃ b, fn_is_row [r, .int rows.length] s = .ok (.val (.bl b)) s) (hx : ∃ r ∈ rows, fn_is_row [r, .int rows.length] s = .ok (.val (.bl false)) s) :
    fn_is_program [pD (.tup (sec.map .int)) (.tup rows)] s = .ok (.val (.bl false)) s := by
  classical
  have hfb : ∀ r ∈ rows, fn_is_row [r, .int rows.length] s = .ok (.val (.bl (decide (fn_is_row [r, .int rows.length] s = .ok (.val (.bl true)) s)))) s := fun r hr => by
    obtain ⟨_, b, hb⟩ := hf r hr
    rw [hb]
    cases b <;> simp
  have hall : rows.all (fun r => decide (fn_is_row [r, .int rows.length] s = .ok (.val (.bl true)) s)) = false := by
    obtain ⟨r, hr, hx⟩ := hx
    rw [List.all_eq_false]
    exact ⟨r, hr, by rw [hx]; simp⟩
  have := prog_rows (sec := .tup (sec.map .int)) (rows := rows) rfl s (sec_ok hs s) h1 h2 (fun r => decide (fn_is_row [r, .int rows.length] s = .ok (.val (.bl true)) s)) (fun r hr => ⟨(hf r hr).1, hfb r hr⟩) "end" [] (fun h => by rw [hall] at h; cases h)
  rw [this, hall]
  rfl
/-- no row -/
theorem isrow_no {d : D} {t : String} (h : tyName d = some t) (ht : t ≠ "tuple" ∧ t ≠ "bool") (n : Int) (s : Sto) : fn_is_row [d, .int n] s = .ok (.val (.bl false)) s := by
  unfold fn_is_row g_is_row
  rw [fnOf_at]
  simp [isTy, isi_at h, ht, List.replicate]
theorem isrow_nil (n : Int) (s : Sto) : fn_is_row [.tup [], .int n] s = .ok (.val (.bl false)) s := by
  unfold fn_is_row g_is_row
  rw [fnOf_at]
  simp [isTy, List.replicate]
/-- what no register's number is -/
structure Odd (o : D) : Prop where
  ty : Ty o = true
  no : ∀ m : Int, m ≤ 4 → isNum o m = false
theorem odd_at : ∀ {o : D} {i : Int}, atI [.int 4, .int (-1), .bl true, .non, sx "0", .int 9] i = some o → Odd o := by
  intro o i h
  have hm : o ∈ [.int 4, .int (-1), .bl true, .non, sx "0", .int 9] := by
    unfold atI at h
    obtain ⟨j, h1, h2⟩ := Option.bind_eq_some_iff.mp h
    exact List.mem_of_getElem? h2
  simp only [List.mem_cons, List.not_mem_nil, or_false] at hm
  rcases hm with rfl | rfl | rfl | rfl | rfl | rfl <;> refine ⟨rfl, fun m hm => ?_⟩ <;> simp [isNum] <;> omega
end DL
end
section
set_option Elab.async false
set_option linter.all false
set_option maxRecDepth 100000
set_option maxHeartbeats 4000000
set_option autoImplicit false
/-! TS: is_tree. -/
namespace DL
open PySem L2
def Tr.ds : Tr → List D
  | .nil => []
  | .one r k => .tup [sx "do", r.d] :: k.ds
  | .ifp a A t f k => .tup [sx "if", dn a, dn A, .tup t.ds, .tup f.ds] :: k.ds
  | .loop a A b k => .tup [sx "loop", dn a, dn A, .tup b.ds] :: k.ds
abbrev Tr.d (t : Tr) : D := .tup t.ds
def Tr.depth : Tr → Nat
  | .nil => 0
  | .one _ k => k.depth
  | .ifp _ _ t f k => max (max (t.depth + 1) (f.depth + 1)) k.depth
  | .loop _ _ b k => max (b.depth + 1) k.depth
section
variable {e : Sl} {st : Sto}
theorem grow_of {r : Row} {n : Nat} (h : r.ok n) : GRow (n : Int) r.d := by
  cases r <;> simp only [Row.ok] at h <;> constructor <;> omega
theorem isrow_do {r : Row} (h : r.ok 1) (st : Sto) : fn_is_row [r.d, .int 1] st = .ok (.val (.bl true)) st := isrow_good (m := 1) (n := 1) (Int.le_refl _) (grow_of (n := 1) h) st
theorem row_ty (r : Row) : Ty r.d = true := by cases r <;> rfl
theorem row_w (r : Row) : gIx r.d (.int 0) e st = .ok (sx r.w) e st := by cases r <;> exact ix_tup rfl
theorem part_do {R : Fn} {r : Row} (h : r.isDo = true) (ho : r.ok 1) (st : Sto) : fnr_is_part R [.tup [sx "do", r.d]] st = .ok (.val (.bl true)) st := by
  have h0 : ∀ e, gIx (.tup [sx "do", r.d]) (.int 0) e st = .ok (sx "do") e st := fun e => ix_tup rfl
  have h1 : ∀ e, gIx (.tup [sx "do", r.d]) (.int 1) e st = .ok r.d e st := fun e => ix_tup rfl
  have h2 := isrow_do ho st
  have hf := fun e => fz_ty (e := e) (row_ty r)
  have hw := fun e => row_w (e := e) (st := st) r
  have hin : ∀ e, gInC false [.str (Str.ofString "ask"), .str (Str.ofString "mix"), .str (Str.ofString "load"), .str (Str.ofString "mask"), .str (Str.ofString "put"), .str (Str.ofString "get"), .str (Str.ofString "fence")] (sx r.w) e st = .ok (.bl true) e st := fun e => by
    cases r <;> first | cases h | skip
    all_goals simp [gInC, gIn, asSeq, flatD, eqF, bxor, Row.w]
  unfold fnr_is_part g_is_part
  rw [fnOf_at]
  generalize r.d = rd at *
  simp [List.replicate, isTy, h0, h1, h2, hf, hw, hin, lim]
theorem part_if {R : Fn} {a A : Nat} {x y : D} {bx by_ : Bool} (ha : a < 4) (hA : A < 2) (tx : Ty x = true) (ty : Ty y = true) (hx : R [x] st = .ok (.val (.bl bx)) st) (hy : R [y] st = .ok (.val (.bl by_)) st) : fnr_is_part R [.tup [sx "if", dn a, dn A, x, y]] st = .ok (.val (.bl (bx && by_))) st := by
  have h0 : ∀ e, gIx (.tup [sx "if", dn a, dn A, x, y]) (.int 0) e st = .ok (sx "if") e st := fun e => ix_tup rfl
  have h1 : ∀ e, gIx (.tup [sx "if", dn a, dn A, x, y]) (.int 1) e st = .ok (dn a) e st := fun e => ix_tup rfl
  have h2 : ∀ e, gIx (.tup [sx "if", dn a, dn A, x, y]) (.int 2) e st = .ok (dn A) e st := fun e => ix_tup rfl
  have h3 := sp_isnum (d := dn a) rfl 4 st
  have h4 := sp_isnum (d := dn A) rfl 2 st
  have e3 : isNum (dn a) 4 = true := by unfold isNum; simp only [decide_eq_true_eq]; omega
  have e4 : isNum (dn A) 2 = true := by unfold isNum; simp only [decide_eq_true_eq]; omega
  rw [e3] at h3
  rw [e4] at h4
  have fx := fun e => fz_ty (e := e) tx
  have fy := fun e => fz_ty (e := e) ty
  have hcut : cutD [sx "if", dn a, dn A, x, y] (some 3) none = [x, y] := rfl
  have hall : ∀ e, gAll (.lst [.bl bx, .bl by_]) e st = .ok (.bl (bx && by_)) e st := fun e => by
    have := all_at (e := e) (s := st) id [bx, by_]
    simpa using this
  have ftup : ∀ e, fz (.tup [x, y]) e = some (.tup [x, y], e) := fun e => rfl
  have hc : ∀ y0 y2, eComp [2] (iSeq (eVar 1)) (bName 2) eYes (eCall 1 R (aCons (eVar 2) aNil)) [y0, some (.val (.tup [x, y])), y2] st = .ok (.lst [.bl bx, .bl by_]) [y0, some (.val (.tup [x, y])), none] st := fun y0 y2 => by
    rw [eComp_at (e1 := [y0, some (.val (.tup [x, y])), y2]) (s1 := st) (iSeq_at (d := .tup [x, y]) (ds := [x, y]) (by simp [ftup]) rfl)]
    simp [compL, wipeE, bName, fx, fy, hx, hy, eYes, lim]
  unfold fnr_is_part g_is_part
  rw [fnOf_at]
  generalize eComp [2] = CC at *
  simp [List.replicate, isTy, h0, h1, h2, h3, h4, eSl, ePart, gCut, hcut, hc, hall, ftup, lim]
theorem part_loop {R : Fn} {a A : Nat} {x : D} {bx : Bool} (ha : a < 4) (hA : A < 2) (tx : Ty x = true) (hx : R [x] st = .ok (.val (.bl bx)) st) : fnr_is_part R [.tup [sx "loop", dn a, dn A, x]] st = .ok (.val (.bl bx)) st := by
  have h0 : ∀ e, gIx (.tup [sx "loop", dn a, dn A, x]) (.int 0) e st = .ok (sx "loop") e st := fun e => ix_tup rfl
  have h1 : ∀ e, gIx (.tup [sx "loop", dn a, dn A, x]) (.int 1) e st = .ok (dn a) e st := fun e => ix_tup rfl
  have h2 : ∀ e, gIx (.tup [sx "loop", dn a, dn A, x]) (.int 2) e st = .ok (dn A) e st := fun e => ix_tup rfl
  have h3 := sp_isnum (d := dn a) rfl 4 st
  have h4 := sp_isnum (d := dn A) rfl 2 st
  have e3 : isNum (dn a) 4 = true := by unfold isNum; simp only [decide_eq_true_eq]; omega
  have e4 : isNum (dn A) 2 = true := by unfold isNum; simp only [decide_eq_true_eq]; omega
  rw [e3] at h3
  rw [e4] at h4
  have fx := fun e => fz_ty (e := e) tx
  have hcut : cutD [sx "loop", dn a, dn A, x] (some 3) none = [x] := rfl
  have hall : ∀ e, gAll (.lst [.bl bx]) e st = .ok (.bl bx) e st := fun e => by
    have := all_at (e := e) (s := st) id [bx]
    simpa using this
  have ftup : ∀ e, fz (.tup [x]) e = some (.tup [x], e) := fun e => rfl
  have hc : ∀ y0 y2, eComp [2] (iSeq (eVar 1)) (bName 2) eYes (eCall 1 R (aCons (eVar 2) aNil)) [y0, some (.val (.tup [x])), y2] st = .ok (.lst [.bl bx]) [y0, some (.val (.tup [x])), none] st := fun y0 y2 => by
    rw [eComp_at (e1 := [y0, some (.val (.tup [x])), y2]) (s1 := st) (iSeq_at (d := .tup [x]) (ds := [x]) (by simp [ftup]) rfl)]
    simp [compL, wipeE, bName, fx, hx, eYes, lim]
  unfold fnr_is_part g_is_part
  rw [fnOf_at]
  generalize eComp [2] = CC at *
  simp [List.replicate, isTy, h0, h1, h2, h3, h4, eSl, ePart, gCut, hcut, hc, hall, ftup, lim]
/-- the parts, one by one -/
theorem tree_of {R : Fn} {l : List D} (f : D → Bool) (hl : l.length ≤ 1000) (hty : ∀ d ∈ l, Ty d = true) (h : ∀ d ∈ l, R [d] st = .ok (.val (.bl (f d))) st) : fnr_is_tree R [.tup l] st = .ok (.val (.bl (l.all f))) st := by
  have hc := comp_any (i := 1) (s := st) (e := [some (.val (.tup l)), none]) (fi := iSeq (eVar 0)) (ds := l) (ft := eYes) (fe := eCall 1 R (aCons (eVar 1) aNil)) (fun _ => true) (fun d => .bl (f d))
    (iSeq_at (d := .tup l) (by simp) rfl) (by unfold lim; omega) (fun x hx => by
      have fx := fun e => fz_ty (e := e) (hty x hx)
      have hr := h x hx
      exact ⟨rfl, fun _ => by simp [fx, hr]⟩)
  rw [List.filter_eq_self.mpr (fun _ _ => rfl)] at hc
  have hall := fun e => all_at (e := e) (s := st) f l
  unfold fnr_is_tree g_is_tree
  rw [fnOf_at]
  generalize eComp [1] = CC at *
  simp [List.replicate, isTy, hc, hall]
theorem Tr.ds_len (t : Tr) : t.ds.length ≤ t.len := by
  induction t with
  | nil => exact Nat.le_refl _
  | one r k ih => simp only [Tr.ds, Tr.len, List.length_cons]; omega
  | ifp a A t f k _ _ ih => simp only [Tr.ds, Tr.len, List.length_cons]; omega
  | loop a A b k _ ih => simp only [Tr.ds, Tr.len, List.length_cons]; omega
/-- a part of a tree -/
theorem Tr.mem {P : D → Prop} : ∀ (t : Tr), t.ok → (∀ r : Row, r.isDo = true → r.ok 1 → P (.tup [sx "do", r.d])) → (∀ (a A : Nat) (x y : Tr), a < 4 → A < 2 → x.ok → y.ok → x.depth + 1 ≤ t.depth → y.depth + 1 ≤ t.depth → x.len ≤ t.len → y.len ≤ t.len → P (.tup [sx "if", dn a, dn A, .tup x.ds, .tup y.ds])) → (∀ (a A : Nat) (x : Tr), a < 4 → A < 2 → x.ok → x.depth + 1 ≤ t.depth → x.len ≤ t.len → P (.tup [sx "loop", dn a, dn A, .tup x.ds])) → ∀ d ∈ t.ds, P d
  | .nil, _, _, _, _, d, hd => nomatch hd
  | .one r k, ho, h1, h2, h3, d, hd => by
    rcases List.mem_cons.mp hd with rfl | hd
    · exact h1 r ho.1 ho.2.1
    · exact Tr.mem k ho.2.2 h1 (fun a A x y q1 q2 q3 q4 q5 q6 q7 q8 => h2 a A x y q1 q2 q3 q4 q5 q6 (by simp only [Tr.len]; omega) (by simp only [Tr.len]; omega)) (fun a A x q1 q2 q3 q4 q5 => h3 a A x q1 q2 q3 q4 (by simp only [Tr.len]; omega)) d hd
  | .ifp a A t f k, ho, h1, h2, h3, d, hd => by
    rcases List.mem_cons.mp hd with rfl | hd
    · exact h2 a A t f ho.1 ho.2.1 ho.2.2.1 ho.2.2.2.1 (by simp only [Tr.depth]; omega) (by simp only [Tr.depth]; omega) (by simp only [Tr.len]; omega) (by simp only [Tr.len]; omega)
    · exact Tr.mem k ho.2.2.2.2 h1 (fun a A x y q1 q2 q3 q4 q5 q6 q7 q8 => h2 a A x y q1 q2 q3 q4 (by simp only [Tr.depth]; omega) (by simp only [Tr.depth]; omega) (by simp only [Tr.len]; omega) (by simp only [Tr.len]; omega)) (fun a A x q1 q2 q3 q4 q5 => h3 a A x q1 q2 q3 (by simp only [Tr.depth]; omega) (by simp only [Tr.len]; omega)) d hd
  | .loop a A b k, ho, h1, h2, h3, d, hd => by
    rcases List.mem_cons.mp hd with rfl | hd
    · exact h3 a A b ho.1 ho.2.1 ho.2.2.1 (by simp only [Tr.depth]; omega) (by simp only [Tr.len]; omega)
    · exact Tr.mem k ho.2.2.2 h1 (fun a A x y q1 q2 q3 q4 q5 q6 q7 q8 => h2 a A x y q1 q2 q3 q4 (by simp only [Tr.depth]; omega) (by simp only [Tr.depth]; omega) (by simp only [Tr.len]; omega) (by simp only [Tr.len]; omega)) (fun a A x q1 q2 q3 q4 q5 => h3 a A x q1 q2 q3 (by simp only [Tr.depth]; omega) (by simp only [Tr.len]; omega)) d hd
theorem tr_ty (t : Tr) : Ty t.d = true := rfl
theorem sp_tree_n (st : Sto) : ∀ (n : Nat) (t : Tr), t.ok → t.depth < n → t.len ≤ 1000 → rec_is_tree n [t.d] st = .ok (.val (.bl true)) st
  | 0, t, _, h, _ => absurd h (Nat.not_lt_zero _)
  | n + 1, t, ho, hd, hl => by
    show fnr_is_tree (fnr_is_part (rec_is_tree n)) [.tup t.ds] st = _
    have := tree_of (st := st) (R := fnr_is_part (rec_is_tree n)) (l := t.ds) (fun _ => true) (by have := t.ds_len; omega) (Tr.mem t ho (fun _ _ _ => rfl) (fun _ _ _ _ _ _ _ _ _ _ _ _ => rfl) (fun _ _ _ _ _ _ _ _ => rfl))
      (Tr.mem t ho (fun r h1 h2 => part_do h1 h2 st) (fun a A x y h1 h2 h3 h4 h5 h6 h7 h8 => by
        have p1 := sp_tree_n st n x h3 (by omega) (by omega)
        have p2 := sp_tree_n st n y h4 (by omega) (by omega)
        exact part_if h1 h2 rfl rfl p1 p2) (fun a A x h1 h2 h3 h4 h5 => part_loop h1 h2 rfl (sp_tree_n st n x h3 (by omega) (by omega))))
    rw [this]
    simp
theorem sp_is_tree {t : Tr} (ho : t.ok) (hd : t.depth < 4) (hl : t.len ≤ 1000) (st : Sto) : fn_is_tree [t.d] st = .ok (.val (.bl true)) st := sp_tree_n st 4 t ho hd hl
end
end DL
end
section
set_option Elab.async false
set_option linter.all false
set_option maxRecDepth 100000
set_option maxHeartbeats 4000000
set_option autoImplicit false
/-! TR: rows_of, _law_lowered. -/
namespace DL
open PySem L2
section
variable {e : Sl} {st : Sto}
abbrev rl (l : List Row) : D := .lst (l.map Row.d)
theorem rl_ty (l : List Row) : Ty (rl l) = true := rfl
theorem adN {a b : List D} (h : a.length + b.length ≤ lim) : gAdd (.lst a) (.lst b) e st = .ok (.lst (a ++ b)) e st := by rw [addL, if_pos h]
theorem adNN {a b : List D} (h : a.length + b.length ≤ lim) : gAddN (.lst a) (.lst b) e st = .ok (.lst (a ++ b)) e st := by
  unfold gAddN
  rw [vw_ty (d := .lst a) rfl, vw_ty (d := .lst b) rfl]
  simp only
  rw [if_pos h]
theorem sp_if_rows {R : Fn} {a A p : Nat} {t f : Tr} (ht : t.len ≤ 1000) (hf : f.len ≤ 1000) (h1 : R [t.d, .int ((p + 1 : Nat) : Int)] st = .ok (.new (rl (t.rows (p + 1)))) st) (h2 : R [f.d, .int ((p + t.len + 2 : Nat) : Int)] st = .ok (.new (rl (f.rows (p + t.len + 2)))) st) :
    fnr_if_rows R [.tup [sx "if", dn a, dn A, t.d, f.d], .int (p : Int)] st = .ok (.val (rl (.test a A (p + t.len + 2) :: (t.rows (p + 1) ++ .jump (p + t.len + 2 + f.len) :: f.rows (p + t.len + 2))))) st := by
  have g1 : ∀ e, gIx (.tup [sx "if", dn a, dn A, t.d, f.d]) (.int 1) e st = .ok (dn a) e st := fun e => ix_tup rfl
  have g2 : ∀ e, gIx (.tup [sx "if", dn a, dn A, t.d, f.d]) (.int 2) e st = .ok (dn A) e st := fun e => ix_tup rfl
  have g3 : ∀ e, gIx (.tup [sx "if", dn a, dn A, t.d, f.d]) (.int 3) e st = .ok t.d e st := fun e => ix_tup rfl
  have g4 : ∀ e, gIx (.tup [sx "if", dn a, dn A, t.d, f.d]) (.int 4) e st = .ok f.d e st := fun e => ix_tup rfl
  have c1 : ((p : Int) + 1) = ((p + 1 : Nat) : Int) := by omega
  have c2 : (p : Int) + (t.len : Int) + 2 = ((p + t.len + 2 : Nat) : Int) := by omega
  have c3 : ((p + t.len + 2 : Nat) : Int) + (f.len : Int) = ((p + t.len + 2 + f.len : Nat) : Int) := by omega
  have l1 := Tr.rows_len t (p + 1)
  have l2 := Tr.rows_len f (p + t.len + 2)
  have ft := fun e => fz_ty (e := e) (tr_ty t)
  have ff := fun e => fz_ty (e := e) (tr_ty f)
  unfold fnr_if_rows g_if_rows
  rw [fnOf_at]
  generalize hT : t.rows (p + 1) = T at *
  generalize hF : f.rows (p + t.len + 2) = F at *
  have q1 : ∀ e, gAdd (.lst [.tup [sx "test", dn a, dn A, .int ((p + t.len + 2 : Nat) : Int)]]) (rl T) e st = .ok (.lst (.tup [sx "test", dn a, dn A, .int ((p + t.len + 2 : Nat) : Int)] :: T.map Row.d)) e st := fun e => adN (by simp [lim]; omega)
  have q2 : ∀ e, gAdd (.lst (.tup [sx "test", dn a, dn A, .int ((p + t.len + 2 : Nat) : Int)] :: T.map Row.d)) (.lst [.tup [sx "jump", .int ((p + t.len + 2 + f.len : Nat) : Int)]]) e st = .ok (.lst (.tup [sx "test", dn a, dn A, .int ((p + t.len + 2 : Nat) : Int)] :: (T.map Row.d ++ [.tup [sx "jump", .int ((p + t.len + 2 + f.len : Nat) : Int)]]))) e st := fun e => adN (by simp [lim]; omega)
  have q3 : ∀ e, gAdd (.lst (.tup [sx "test", dn a, dn A, .int ((p + t.len + 2 : Nat) : Int)] :: (T.map Row.d ++ [.tup [sx "jump", .int ((p + t.len + 2 + f.len : Nat) : Int)]]))) (rl F) e st = .ok (.lst (.tup [sx "test", dn a, dn A, .int ((p + t.len + 2 : Nat) : Int)] :: (T.map Row.d ++ [.tup [sx "jump", .int ((p + t.len + 2 + f.len : Nat) : Int)]]) ++ F.map Row.d)) e st := fun e => adN (by simp [lim]; omega)
  have hfin : .tup [sx "test", dn a, dn A, .int ((p + t.len + 2 : Nat) : Int)] :: (T.map Row.d ++ [.tup [sx "jump", .int ((p + t.len + 2 + f.len : Nat) : Int)]]) ++ F.map Row.d = (.test a A (p + t.len + 2) :: (T ++ .jump (p + t.len + 2 + f.len) :: F) : List Row).map Row.d := by simp [Row.d]
  rw [hfin] at q3
  generalize D.tup [sx "if", dn a, dn A, t.d, f.d] = pd at *
  generalize hRS : ((.test a A (p + t.len + 2) :: (T ++ .jump (p + t.len + 2 + f.len) :: F) : List Row).map Row.d) = RS at *
  have hr : rl (.test a A (p + t.len + 2) :: (T ++ .jump (p + t.len + 2 + f.len) :: F)) = .lst RS := by show D.lst _ = _; rw [hRS]
  rw [hr]
  have f1 : ∀ e, fz (rl T) e = some (rl T, e) := fun e => rfl
  have f2 : ∀ e, fz (rl F) e = some (rl F, e) := fun e => rfl
  have n1 : ∀ e, gLen (rl T) e st = .ok (.int t.len) e st := fun e => by show ER.ok (.int ((T.map Row.d).length : Int)) e st = _; rw [List.length_map, l1]
  have n2 : ∀ e, gLen (rl F) e st = .ok (.int f.len) e st := fun e => by show ER.ok (.int ((F.map Row.d).length : Int)) e st = _; rw [List.length_map, l2]
  generalize rl T = TD at *
  generalize rl F = FD at *
  generalize ((p + 1 : Nat) : Int) = P1 at *
  generalize ((p + t.len + 2 + f.len : Nat) : Int) = P3 at *
  generalize ((p + t.len + 2 : Nat) : Int) = P2 at *
  generalize (t.len : Int) = LT at *
  generalize (f.len : Int) = LF at *
  generalize (p : Int) = P at *
  simp [List.replicate, g1, g2, g3, g4, c1, c2, c3, h1, h2, ft, ff, f1, f2, n1, n2, q1, q2, q3, lim]
abbrev envR (d0 : D) (P : Int) (acc : List Row) (y3 y4 y5 y6 : Option SV) : Sl := [some (.val d0), some (.val (.int P)), some (.own (.lst (acc.map Row.d))), y3, y4, y5, y6]
theorem rows_do {R1 R2 : Fn} {d0 : D} {P : Int} {acc : List Row} {r : Row} (hl : acc.length ≤ 2000) (y4 y5 y6 : Option SV) :
    ∃ y4', b_rows_of_1 R1 R2 (envR d0 P acc (some (.val (.tup [sx "do", r.d]))) y4 y5 y6) st = .nx (envR d0 P (acc ++ [r]) (some (.val (.tup [sx "do", r.d]))) y4' y5 y6) st := by
  have g0 : ∀ e, gIx (.tup [sx "do", r.d]) (.int 0) e st = .ok (sx "do") e st := fun e => ix_tup rfl
  have g1 : ∀ e, gIx (.tup [sx "do", r.d]) (.int 1) e st = .ok r.d e st := fun e => ix_tup rfl
  have hf := fun e => fz_ty (e := e) (row_ty r)
  have hl2 : acc.length < 16777216 := by omega
  refine ⟨some (.val (.int (P + acc.length))), ?_⟩
  unfold b_rows_of_1
  generalize hpd : D.tup [sx "do", r.d] = pd at *
  simp [envR, g0, g1, hf, sApp, hl2, lim]
theorem rows_if {R1 R2 : Fn} {d0 : D} {P : Int} {acc : List Row} {pd : D} {new : List Row} (hl : acc.length ≤ 2000) (hn : new.length ≤ 2000) (hp : Ty pd = true) (g0 : ∀ e, gIx pd (.int 0) e st = .ok (sx "if") e st) (h : R1 [pd, .int (P + acc.length)] st = .ok (.val (rl new)) st) (y4 y5 y6 : Option SV) :
    ∃ y4', b_rows_of_1 R1 R2 (envR d0 P acc (some (.val pd)) y4 y5 y6) st = .nx (envR d0 P (acc ++ new) (some (.val pd)) y4' y5 y6) st := by
  have hf := fun e => fz_ty (e := e) hp
  have q : ∀ e y, e = envR d0 P acc (some (.val pd)) y y5 y6 → gAddN (.own 2) (rl new) e st = .ok (.lst (acc.map Row.d ++ new.map Row.d)) e st := fun e y he => by
    subst he
    unfold gAddN
    rw [vw_ty (d := rl new) rfl]
    simp [envR, lim]
    omega
  have q2 := fun y => q _ y rfl
  refine ⟨some (.val (.int (P + acc.length))), ?_⟩
  unfold b_rows_of_1
  have f1 : ∀ e, fz (rl new) e = some (rl new, e) := fun e => rfl
  simp only [envR] at q2
  generalize rl new = nd at *
  simp [envR, g0, h, hf, q2, f1, lim, sOwn]
theorem rows_loop1 {R1 R2 : Fn} {d0 : D} {p : Nat} {acc : List Row} {a A : Nat} {b : Tr} (hl : acc.length ≤ 2000) (hb : b.len ≤ 1000) (h : R2 [b.d, .int ((p + acc.length + 1 : Nat) : Int)] st = .ok (.new (rl (b.rows (p + acc.length + 1)))) st) (y4 y5 y6 : Option SV) :
    ∃ y4' y5' y6', b_rows_of_1 R1 R2 (envR d0 (p : Int) acc (some (.val (.tup [sx "loop", dn a, dn A, b.d]))) y4 y5 y6) st = .nx (envR d0 (p : Int) (acc ++ (.test a A (p + acc.length + b.len + 2) :: (b.rows (p + acc.length + 1) ++ [.jump (p + acc.length)]))) (some (.val (.tup [sx "loop", dn a, dn A, b.d]))) y4' y5' y6') st := by
  have g0 : ∀ e, gIx (.tup [sx "loop", dn a, dn A, b.d]) (.int 0) e st = .ok (sx "loop") e st := fun e => ix_tup rfl
  have g1 : ∀ e, gIx (.tup [sx "loop", dn a, dn A, b.d]) (.int 1) e st = .ok (dn a) e st := fun e => ix_tup rfl
  have g2 : ∀ e, gIx (.tup [sx "loop", dn a, dn A, b.d]) (.int 2) e st = .ok (dn A) e st := fun e => ix_tup rfl
  have g3 : ∀ e, gIx (.tup [sx "loop", dn a, dn A, b.d]) (.int 3) e st = .ok b.d e st := fun e => ix_tup rfl
  have c0 : (p : Int) + (acc.length : Int) = ((p + acc.length : Nat) : Int) := by omega
  have c1 : ((p + acc.length : Nat) : Int) + 1 = ((p + acc.length + 1 : Nat) : Int) := by omega
  have c2 : ((p + acc.length : Nat) : Int) + (b.len : Int) + 2 = ((p + acc.length + b.len + 2 : Nat) : Int) := by omega
  have l1 := Tr.rows_len b (p + acc.length + 1)
  have fb := fun e => fz_ty (e := e) (tr_ty b)
  generalize hB : b.rows (p + acc.length + 1) = B at *
  have f1 : ∀ e, fz (rl B) e = some (rl B, e) := fun e => rfl
  have n1 : ∀ e, gLen (rl B) e st = .ok (.int b.len) e st := fun e => by show ER.ok (.int ((B.map Row.d).length : Int)) e st = _; rw [List.length_map, l1]
  have q1 : ∀ e y4 y5 y6 x, e = envR d0 (p : Int) acc (some (.val (.tup [sx "loop", dn a, dn A, b.d]))) y4 y5 y6 → gAdd (.own 2) (.lst [x]) e st = .ok (.lst (acc.map Row.d ++ [x])) e st := fun e y4 y5 y6 x he => by
    subst he
    unfold gAdd
    simp [envR, lim]
    omega
  have q1' := fun y4 y5 y6 x => q1 _ y4 y5 y6 x rfl
  have q2 : ∀ x e, gAdd (.lst (acc.map Row.d ++ [x])) (rl B) e st = .ok (.lst (acc.map Row.d ++ x :: B.map Row.d)) e st := fun x e => by
    have := adN (e := e) (st := st) (a := acc.map Row.d ++ [x]) (b := B.map Row.d) (by simp [lim]; omega)
    rw [this, List.append_assoc]; rfl
  have q3 : ∀ x z e, gAddN (.lst (acc.map Row.d ++ x :: B.map Row.d)) (.lst [z]) e st = .ok (.lst (acc.map Row.d ++ x :: (B.map Row.d ++ [z]))) e st := fun x z e => by
    have := adNN (e := e) (st := st) (a := acc.map Row.d ++ x :: B.map Row.d) (b := [z]) (by simp [lim]; omega)
    rw [this]; simp
  have hfin : (acc ++ (Row.test a A (p + acc.length + b.len + 2) :: (B ++ [Row.jump (p + acc.length)]))).map Row.d = acc.map Row.d ++ .tup [sx "test", dn a, dn A, .int ((p + acc.length + b.len + 2 : Nat) : Int)] :: (B.map Row.d ++ [.tup [sx "jump", .int ((p + acc.length : Nat) : Int)]]) := by simp [Row.d]
  refine ⟨some (.val (.int ((p + acc.length : Nat) : Int))), some (.val (rl B)), some (.val (.tup [sx "test", dn a, dn A, .int ((p + acc.length + b.len + 2 : Nat) : Int)])), ?_⟩
  unfold b_rows_of_1
  simp only [envR] at q1' ⊢
  rw [hfin]
  generalize D.tup [sx "loop", dn a, dn A, b.d] = pd at *
  generalize rl B = BD at *
  generalize ((p + acc.length + 1 : Nat) : Int) = P1 at *
  generalize ((p + acc.length + b.len + 2 : Nat) : Int) = P2 at *
  generalize ((p + acc.length : Nat) : Int) = P0 at *
  generalize (p : Int) = P at *
  generalize hal : (acc.length : Int) = LA at *
  generalize (b.len : Int) = LB at *
  simp [g0, g1, g2, g3, h, fb, f1, n1, q1', q2, q3, c0, c1, c2, lim, sOwn, hal]
theorem forL_cons {bind : BF} {g : SF} {x : D} {xs : List D} {e e1 e2 : Sl} {s s2 : Sto} (h1 : bind x e = some e1) (h2 : g e1 s = .nx e2 s2) : forL bind g (x :: xs) e s = forL bind g xs e2 s2 := by
  conv => lhs; unfold forL
  rw [h1]
  simp only [h2]
theorem bind_R {d0 : D} {P : Int} {acc : List Row} {x : D} {y3 y4 y5 y6 : Option SV} : bName 3 x (envR d0 P acc y3 y4 y5 y6) = some (envR d0 P acc (some (.val x)) y4 y5 y6) := rfl
theorem rows_for {n : Nat} (ih : ∀ (t : Tr) (p : Nat), t.depth < n → t.len ≤ 1000 → rec_rows_of n [t.d, .int (p : Int)] st = .ok (.new (rl (t.rows p))) st) {d0 : D} {p : Nat} :
    ∀ (t : Tr) (acc : List Row) (y3 y4 y5 y6 : Option SV), t.depth ≤ n → acc.length + t.len ≤ 1000 → ∃ y3' y4' y5' y6', forL (bName 3) (b_rows_of_1 (fnr_if_rows (rec_rows_of n)) (rec_rows_of n)) t.ds (envR d0 (p : Int) acc y3 y4 y5 y6) st = .nx (envR d0 (p : Int) (acc ++ t.rows (p + acc.length)) y3' y4' y5' y6') st
  | .nil, acc, y3, y4, y5, y6, _, _ => ⟨y3, y4, y5, y6, by simp [Tr.ds, Tr.rows, forL]⟩
  | .one r k, acc, y3, y4, y5, y6, hd, hl => by
    simp only [Tr.depth, Tr.len] at hd hl
    obtain ⟨z4, h1⟩ := rows_do (st := st) (R1 := fnr_if_rows (rec_rows_of n)) (R2 := rec_rows_of n) (d0 := d0) (P := (p : Int)) (acc := acc) (r := r) (by omega) y4 y5 y6
    obtain ⟨w3, w4, w5, w6, h2⟩ := rows_for ih k (acc ++ [r]) (some (.val (.tup [sx "do", r.d]))) z4 y5 y6 hd (by simp; omega)
    refine ⟨w3, w4, w5, w6, ?_⟩
    simp only [Tr.ds]
    rw [forL_cons bind_R h1, h2]
    congr 2
    simp [Tr.rows, Nat.add_assoc]
  | .ifp a A t f k, acc, y3, y4, y5, y6, hd, hl => by
    simp only [Tr.depth, Tr.len] at hd hl
    have i1 := ih t (p + acc.length + 1) (by omega) (by omega)
    have i2 := ih f (p + acc.length + t.len + 2) (by omega) (by omega)
    have hi := sp_if_rows (a := a) (A := A) (p := p + acc.length) (by omega) (by omega) i1 i2
    have l1 := Tr.rows_len t (p + acc.length + 1)
    have l2 := Tr.rows_len f (p + acc.length + t.len + 2)
    obtain ⟨z4, h1⟩ := rows_if (st := st) (R1 := fnr_if_rows (rec_rows_of n)) (R2 := rec_rows_of n) (d0 := d0) (P := (p : Int)) (acc := acc) (pd := .tup [sx "if", dn a, dn A, t.d, f.d]) (new := (Row.test a A (p + acc.length + t.len + 2) :: (t.rows (p + acc.length + 1) ++ Row.jump (p + acc.length + t.len + 2 + f.len) :: f.rows (p + acc.length + t.len + 2)))) (by omega) (by simp [l1, l2]; omega) rfl (fun e => ix_tup rfl) (by rw [← Int.natCast_add]; exact hi) y4 y5 y6
    obtain ⟨w3, w4, w5, w6, h2⟩ := rows_for ih k (acc ++ (.test a A (p + acc.length + t.len + 2) :: (t.rows (p + acc.length + 1) ++ .jump (p + acc.length + t.len + 2 + f.len) :: f.rows (p + acc.length + t.len + 2)))) (some (.val (.tup [sx "if", dn a, dn A, t.d, f.d]))) z4 y5 y6 (by omega) (by simp [l1, l2]; omega)
    refine ⟨w3, w4, w5, w6, ?_⟩
    simp only [Tr.ds]
    rw [forL_cons bind_R h1, h2]
    congr 2
    have hlen : p + (acc ++ (Row.test a A (p + acc.length + t.len + 2) :: (t.rows (p + acc.length + 1) ++ Row.jump (p + acc.length + t.len + 2 + f.len) :: f.rows (p + acc.length + t.len + 2)))).length = p + acc.length + t.len + 2 + f.len := by simp [l1, l2]; omega
    rw [hlen]
    simp [Tr.rows]
  | .loop a A b k, acc, y3, y4, y5, y6, hd, hl => by
    simp only [Tr.depth, Tr.len] at hd hl
    have i1 := ih b (p + acc.length + 1) (by omega) (by omega)
    have l1 := Tr.rows_len b (p + acc.length + 1)
    obtain ⟨z4, z5, z6, h1⟩ := rows_loop1 (st := st) (R1 := fnr_if_rows (rec_rows_of n)) (R2 := rec_rows_of n) (d0 := d0) (a := a) (A := A) (by omega) (by omega) i1 y4 y5 y6
    obtain ⟨w3, w4, w5, w6, h2⟩ := rows_for ih k (acc ++ (.test a A (p + acc.length + b.len + 2) :: (b.rows (p + acc.length + 1) ++ [.jump (p + acc.length)]))) (some (.val (.tup [sx "loop", dn a, dn A, b.d]))) z4 z5 z6 (by omega) (by simp [l1]; omega)
    refine ⟨w3, w4, w5, w6, ?_⟩
    simp only [Tr.ds]
    rw [forL_cons bind_R h1, h2]
    congr 2
    have hlen : p + (acc ++ (Row.test a A (p + acc.length + b.len + 2) :: (b.rows (p + acc.length + 1) ++ [Row.jump (p + acc.length)]))).length = p + acc.length + b.len + 2 := by simp [l1]; omega
    rw [hlen]
    simp [Tr.rows]
theorem sp_rows_n (st : Sto) : ∀ (n : Nat) (t : Tr) (p : Nat), t.depth < n → t.len ≤ 1000 → rec_rows_of n [t.d, .int (p : Int)] st = .ok (.new (rl (t.rows p))) st
  | 0, t, _, h, _ => absurd h (Nat.not_lt_zero _)
  | n + 1, t, p, hd, hl => by
    obtain ⟨y3, y4, y5, y6, h⟩ := rows_for (st := st) (d0 := t.d) (p := p) (fun t p => sp_rows_n st n t p) t [] none none none none (by omega) (by simp; omega)
    show fnr_rows_of (fnr_if_rows (rec_rows_of n)) (rec_rows_of n) [.tup t.ds, .int (p : Int)] st = _
    unfold fnr_rows_of g_rows_of
    rw [fnOf_at]
    have hfor := sFor_at (e1 := envR t.d (p : Int) [] none none none none) (s1 := st) (g := b_rows_of_1 (fnr_if_rows (rec_rows_of n)) (rec_rows_of n)) (bind := bName 3) (iSeq_at (f := eVar 0) (e := envR t.d (p : Int) [] none none none none) (s := st) (d := t.d) (ds := t.ds) (by simp [envR]) rfl)
    rw [h] at hfor
    simp only [envR, List.map_nil, List.nil_append, List.length_nil, Nat.add_zero] at hfor
    generalize sFor (iSeq (eVar 0)) (bName 3) (b_rows_of_1 (fnr_if_rows (rec_rows_of n)) (rec_rows_of n)) = LP at *
    simp [List.replicate, hfor, lim, sOwn]
theorem sp_rows_of {t : Tr} (hd : t.depth < 4) (hl : t.len ≤ 1000) (p : Nat) (st : Sto) : fn_rows_of [t.d, .int (p : Int)] st = .ok (.new (rl (t.rows p))) st := sp_rows_n st 4 t p hd hl
end
end DL
end
section
set_option Elab.async false
set_option linter.all false
set_option maxRecDepth 100000
set_option maxHeartbeats 4000000
set_option autoImplicit false
/-! TL: _law_lowered. -/
namespace DL
open PySem L2
section
variable {e : Sl} {st : Sto}
abbrev envW (d0 : D) (P : Int) (acc : List Row) (y3 y4 y5 y6 y7 y8 : Option SV) : Sl := [some (.val d0), some (.val (.int P)), some (.own (.lst (acc.map Row.d))), y3, y4, y5, y6, y7, y8]
theorem low_do {R : Fn} {d0 : D} {P : Int} {acc : List Row} {r : Row} (hl : acc.length ≤ 2000) (y4 y5 y6 y7 y8 : Option SV) :
    ∃ y4', b_law_lowered_1 R (envW d0 P acc (some (.val (.tup [sx "do", r.d]))) y4 y5 y6 y7 y8) st = .nx (envW d0 P (acc ++ [r]) (some (.val (.tup [sx "do", r.d]))) y4' y5 y6 y7 y8) st := by
  have g0 : ∀ e, gIx (.tup [sx "do", r.d]) (.int 0) e st = .ok (sx "do") e st := fun e => ix_tup rfl
  have g1 : ∀ e, gIx (.tup [sx "do", r.d]) (.int 1) e st = .ok r.d e st := fun e => ix_tup rfl
  have hf := fun e => fz_ty (e := e) (row_ty r)
  have hl2 : acc.length < 16777216 := by omega
  refine ⟨some (.val (.int (P + acc.length))), ?_⟩
  unfold b_law_lowered_1
  generalize hpd : D.tup [sx "do", r.d] = pd at *
  simp [envW, g0, g1, hf, sApp, hl2, lim]
theorem low_loop {R : Fn} {d0 : D} {p : Nat} {acc : List Row} {a A : Nat} {b : Tr} (hl : acc.length ≤ 2000) (hb : b.len ≤ 1000) (h : R [b.d, .int ((p + acc.length + 1 : Nat) : Int)] st = .ok (.new (rl (b.rows (p + acc.length + 1)))) st) (y4 y5 y6 y7 y8 : Option SV) :
    ∃ y4' y5', b_law_lowered_1 R (envW d0 (p : Int) acc (some (.val (.tup [sx "loop", dn a, dn A, b.d]))) y4 y5 y6 y7 y8) st = .nx (envW d0 (p : Int) (acc ++ (.test a A (p + acc.length + b.len + 2) :: (b.rows (p + acc.length + 1) ++ [.jump (p + acc.length)]))) (some (.val (.tup [sx "loop", dn a, dn A, b.d]))) y4' y5' y6 y7 y8) st := by
  have g0 : ∀ e, gIx (.tup [sx "loop", dn a, dn A, b.d]) (.int 0) e st = .ok (sx "loop") e st := fun e => ix_tup rfl
  have g1 : ∀ e, gIx (.tup [sx "loop", dn a, dn A, b.d]) (.int 1) e st = .ok (dn a) e st := fun e => ix_tup rfl
  have g2 : ∀ e, gIx (.tup [sx "loop", dn a, dn A, b.d]) (.int 2) e st = .ok (dn A) e st := fun e => ix_tup rfl
  have g3 : ∀ e, gIx (.tup [sx "loop", dn a, dn A, b.d]) (.int 3) e st = .ok b.d e st := fun e => ix_tup rfl
  have c0 : (p : Int) + (acc.length : Int) = ((p + acc.length : Nat) : Int) := by omega
  have c1 : ((p + acc.length : Nat) : Int) + 1 = ((p + acc.length + 1 : Nat) : Int) := by omega
  have c2 : ((p + acc.length : Nat) : Int) + (b.len : Int) + 2 = ((p + acc.length + b.len + 2 : Nat) : Int) := by omega
  have l1 := Tr.rows_len b (p + acc.length + 1)
  have fb := fun e => fz_ty (e := e) (tr_ty b)
  generalize hB : b.rows (p + acc.length + 1) = B at *
  have f1 : ∀ e, fz (rl B) e = some (rl B, e) := fun e => rfl
  have n1 : ∀ e, gLen (rl B) e st = .ok (.int b.len) e st := fun e => by show ER.ok (.int ((B.map Row.d).length : Int)) e st = _; rw [List.length_map, l1]
  have q1 : ∀ e y4 y5 x, e = envW d0 (p : Int) acc (some (.val (.tup [sx "loop", dn a, dn A, b.d]))) y4 y5 y6 y7 y8 → gAdd (.own 2) (.lst [x]) e st = .ok (.lst (acc.map Row.d ++ [x])) e st := fun e y4 y5 x he => by
    subst he
    unfold gAdd
    simp [envW, lim]
    omega
  have q1' := fun y4 y5 x => q1 _ y4 y5 x rfl
  have q2 : ∀ x e, gAdd (.lst (acc.map Row.d ++ [x])) (rl B) e st = .ok (.lst (acc.map Row.d ++ x :: B.map Row.d)) e st := fun x e => by
    have := adN (e := e) (st := st) (a := acc.map Row.d ++ [x]) (b := B.map Row.d) (by simp [lim]; omega)
    rw [this, List.append_assoc]; rfl
  have q3 : ∀ x z e, gAddN (.lst (acc.map Row.d ++ x :: B.map Row.d)) (.lst [z]) e st = .ok (.lst (acc.map Row.d ++ x :: (B.map Row.d ++ [z]))) e st := fun x z e => by
    have := adNN (e := e) (st := st) (a := acc.map Row.d ++ x :: B.map Row.d) (b := [z]) (by simp [lim]; omega)
    rw [this]; simp
  have hfin : (acc ++ (Row.test a A (p + acc.length + b.len + 2) :: (B ++ [Row.jump (p + acc.length)]))).map Row.d = acc.map Row.d ++ .tup [sx "test", dn a, dn A, .int ((p + acc.length + b.len + 2 : Nat) : Int)] :: (B.map Row.d ++ [.tup [sx "jump", .int ((p + acc.length : Nat) : Int)]]) := by simp [Row.d]
  refine ⟨some (.val (.int ((p + acc.length : Nat) : Int))), some (.val (rl B)), ?_⟩
  unfold b_law_lowered_1
  simp only [envW] at q1' ⊢
  rw [hfin]
  generalize D.tup [sx "loop", dn a, dn A, b.d] = pd at *
  generalize rl B = BD at *
  generalize ((p + acc.length + 1 : Nat) : Int) = P1 at *
  generalize ((p + acc.length + b.len + 2 : Nat) : Int) = P2 at *
  generalize ((p + acc.length : Nat) : Int) = P0 at *
  generalize (p : Int) = P at *
  generalize hal : (acc.length : Int) = LA at *
  generalize (b.len : Int) = LB at *
  simp [g0, g1, g2, g3, h, fb, f1, n1, q1', q2, q3, c0, c1, c2, lim, sOwn, hal]
theorem low_if {R : Fn} {d0 : D} {p : Nat} {acc : List Row} {a A : Nat} {t f : Tr} (hl : acc.length ≤ 2000) (ht : t.len ≤ 1000) (hf : f.len ≤ 1000) (h : R [t.d, .int ((p + acc.length + 1 : Nat) : Int)] st = .ok (.new (rl (t.rows (p + acc.length + 1)))) st)
    (h' : R [f.d, .int ((p + acc.length + t.len + 2 : Nat) : Int)] st = .ok (.new (rl (f.rows (p + acc.length + t.len + 2)))) st) (y4 y5 y6 y7 y8 : Option SV) :
    ∃ y4' y6' y7' y8', b_law_lowered_1 R (envW d0 (p : Int) acc (some (.val (.tup [sx "if", dn a, dn A, t.d, f.d]))) y4 y5 y6 y7 y8) st = .nx (envW d0 (p : Int) (acc ++ (.test a A (p + acc.length + t.len + 2) :: (t.rows (p + acc.length + 1) ++ .jump (p + acc.length + t.len + 2 + f.len) :: f.rows (p + acc.length + t.len + 2)))) (some (.val (.tup [sx "if", dn a, dn A, t.d, f.d]))) y4' y5 y6' y7' y8') st := by
  have g0 : ∀ e, gIx (.tup [sx "if", dn a, dn A, t.d, f.d]) (.int 0) e st = .ok (sx "if") e st := fun e => ix_tup rfl
  have g1 : ∀ e, gIx (.tup [sx "if", dn a, dn A, t.d, f.d]) (.int 1) e st = .ok (dn a) e st := fun e => ix_tup rfl
  have g2 : ∀ e, gIx (.tup [sx "if", dn a, dn A, t.d, f.d]) (.int 2) e st = .ok (dn A) e st := fun e => ix_tup rfl
  have g3 : ∀ e, gIx (.tup [sx "if", dn a, dn A, t.d, f.d]) (.int 3) e st = .ok t.d e st := fun e => ix_tup rfl
  have g4 : ∀ e, gIx (.tup [sx "if", dn a, dn A, t.d, f.d]) (.int 4) e st = .ok f.d e st := fun e => ix_tup rfl
  have c0 : (p : Int) + (acc.length : Int) = ((p + acc.length : Nat) : Int) := by omega
  have c1 : ((p + acc.length : Nat) : Int) + 1 = ((p + acc.length + 1 : Nat) : Int) := by omega
  have c2 : ((p + acc.length : Nat) : Int) + (t.len : Int) + 2 = ((p + acc.length + t.len + 2 : Nat) : Int) := by omega
  have c3 : ((p + acc.length + t.len + 2 : Nat) : Int) + (f.len : Int) = ((p + acc.length + t.len + 2 + f.len : Nat) : Int) := by omega
  have l1 := Tr.rows_len t (p + acc.length + 1)
  have l2 := Tr.rows_len f (p + acc.length + t.len + 2)
  have fb := fun e => fz_ty (e := e) (tr_ty t)
  have ff := fun e => fz_ty (e := e) (tr_ty f)
  generalize hB : t.rows (p + acc.length + 1) = B at *
  generalize hF : f.rows (p + acc.length + t.len + 2) = F at *
  have f1 : ∀ e, fz (rl B) e = some (rl B, e) := fun e => rfl
  have f2 : ∀ e, fz (rl F) e = some (rl F, e) := fun e => rfl
  have n1 : ∀ e, gLen (rl B) e st = .ok (.int t.len) e st := fun e => by show ER.ok (.int ((B.map Row.d).length : Int)) e st = _; rw [List.length_map, l1]
  have n2 : ∀ e, gLen (rl F) e st = .ok (.int f.len) e st := fun e => by show ER.ok (.int ((F.map Row.d).length : Int)) e st = _; rw [List.length_map, l2]
  have q1 : ∀ e y4 y6 y7 y8 x, e = envW d0 (p : Int) acc (some (.val (.tup [sx "if", dn a, dn A, t.d, f.d]))) y4 y5 y6 y7 y8 → gAdd (.own 2) (.lst [x]) e st = .ok (.lst (acc.map Row.d ++ [x])) e st := fun e y4 y6 y7 y8 x he => by
    subst he
    unfold gAdd
    simp [envW, lim]
    omega
  have q1' := fun y4 y6 y7 y8 x => q1 _ y4 y6 y7 y8 x rfl
  have q2 : ∀ x e, gAdd (.lst (acc.map Row.d ++ [x])) (rl B) e st = .ok (.lst (acc.map Row.d ++ x :: B.map Row.d)) e st := fun x e => by
    have := adN (e := e) (st := st) (a := acc.map Row.d ++ [x]) (b := B.map Row.d) (by simp [lim]; omega)
    rw [this, List.append_assoc]; rfl
  have q3 : ∀ x z e, gAdd (.lst (acc.map Row.d ++ x :: B.map Row.d)) (.lst [z]) e st = .ok (.lst (acc.map Row.d ++ x :: (B.map Row.d ++ [z]))) e st := fun x z e => by
    have := adN (e := e) (st := st) (a := acc.map Row.d ++ x :: B.map Row.d) (b := [z]) (by simp [lim]; omega)
    rw [this]; simp
  have q4 : ∀ x z e, gAddN (.lst (acc.map Row.d ++ x :: (B.map Row.d ++ [z]))) (rl F) e st = .ok (.lst (acc.map Row.d ++ x :: (B.map Row.d ++ z :: F.map Row.d))) e st := fun x z e => by
    have := adNN (e := e) (st := st) (a := acc.map Row.d ++ x :: (B.map Row.d ++ [z])) (b := F.map Row.d) (by simp [lim]; omega)
    rw [this]; simp
  have hfin : (acc ++ (Row.test a A (p + acc.length + t.len + 2) :: (B ++ Row.jump (p + acc.length + t.len + 2 + f.len) :: F))).map Row.d = acc.map Row.d ++ .tup [sx "test", dn a, dn A, .int ((p + acc.length + t.len + 2 : Nat) : Int)] :: (B.map Row.d ++ .tup [sx "jump", .int ((p + acc.length + t.len + 2 + f.len : Nat) : Int)] :: F.map Row.d) := by simp [Row.d]
  refine ⟨some (.val (.int ((p + acc.length : Nat) : Int))), some (.val (rl B)), some (.val (.int ((p + acc.length + t.len + 2 : Nat) : Int))), some (.val (rl F)), ?_⟩
  unfold b_law_lowered_1
  simp only [envW] at q1' ⊢
  rw [hfin]
  generalize D.tup [sx "if", dn a, dn A, t.d, f.d] = pd at *
  generalize rl B = BD at *
  generalize rl F = FD at *
  generalize ((p + acc.length + 1 : Nat) : Int) = P1 at *
  generalize ((p + acc.length + t.len + 2 + f.len : Nat) : Int) = P3 at *
  generalize ((p + acc.length + t.len + 2 : Nat) : Int) = P2 at *
  generalize ((p + acc.length : Nat) : Int) = P0 at *
  generalize (p : Int) = P at *
  generalize hal : (acc.length : Int) = LA at *
  generalize (t.len : Int) = LB at *
  generalize (f.len : Int) = LF at *
  simp [g0, g1, g2, g3, g4, h, h', fb, ff, f1, f2, n1, n2, q1', q2, q3, q4, c0, c1, c2, c3, lim, sOwn, hal]
theorem bind_W {d0 : D} {P : Int} {acc : List Row} {x : D} {y3 y4 y5 y6 y7 y8 : Option SV} : bName 3 x (envW d0 P acc y3 y4 y5 y6 y7 y8) = some (envW d0 P acc (some (.val x)) y4 y5 y6 y7 y8) := rfl
theorem low_for {n : Nat} (ih : ∀ (t : Tr) (p : Nat), t.depth < n → t.len ≤ 1000 → rec_law_lowered n [t.d, .int (p : Int)] st = .ok (.new (rl (t.rows p))) st) {d0 : D} {p : Nat} :
    ∀ (t : Tr) (acc : List Row) (y3 y4 y5 y6 y7 y8 : Option SV), t.depth ≤ n → acc.length + t.len ≤ 1000 → ∃ y3' y4' y5' y6' y7' y8', forL (bName 3) (b_law_lowered_1 (rec_law_lowered n)) t.ds (envW d0 (p : Int) acc y3 y4 y5 y6 y7 y8) st = .nx (envW d0 (p : Int) (acc ++ t.rows (p + acc.length)) y3' y4' y5' y6' y7' y8') st
  | .nil, acc, y3, y4, y5, y6, y7, y8, _, _ => ⟨y3, y4, y5, y6, y7, y8, by simp [Tr.ds, Tr.rows, forL]⟩
  | .one r k, acc, y3, y4, y5, y6, y7, y8, hd, hl => by
    simp only [Tr.depth, Tr.len] at hd hl
    obtain ⟨z4, h1⟩ := low_do (st := st) (R := rec_law_lowered n) (d0 := d0) (P := (p : Int)) (acc := acc) (r := r) (by omega) y4 y5 y6 y7 y8
    obtain ⟨w3, w4, w5, w6, w7, w8, h2⟩ := low_for ih k (acc ++ [r]) (some (.val (.tup [sx "do", r.d]))) z4 y5 y6 y7 y8 hd (by simp; omega)
    refine ⟨w3, w4, w5, w6, w7, w8, ?_⟩
    simp only [Tr.ds]
    rw [forL_cons bind_W h1, h2]
    congr 2
    simp [Tr.rows, Nat.add_assoc]
  | .ifp a A t f k, acc, y3, y4, y5, y6, y7, y8, hd, hl => by
    simp only [Tr.depth, Tr.len] at hd hl
    have i1 := ih t (p + acc.length + 1) (by omega) (by omega)
    have i2 := ih f (p + acc.length + t.len + 2) (by omega) (by omega)
    have l1 := Tr.rows_len t (p + acc.length + 1)
    have l2 := Tr.rows_len f (p + acc.length + t.len + 2)
    obtain ⟨z4, z6, z7, z8, h1⟩ := low_if (st := st) (d0 := d0) (a := a) (A := A) (acc := acc) (by omega) (by omega) (by omega) i1 i2 y4 y5 y6 y7 y8
    obtain ⟨w3, w4, w5, w6, w7, w8, h2⟩ := low_for ih k (acc ++ (.test a A (p + acc.length + t.len + 2) :: (t.rows (p + acc.length + 1) ++ .jump (p + acc.length + t.len + 2 + f.len) :: f.rows (p + acc.length + t.len + 2)))) (some (.val (.tup [sx "if", dn a, dn A, t.d, f.d]))) z4 y5 z6 z7 z8 (by omega) (by simp [l1, l2]; omega)
    refine ⟨w3, w4, w5, w6, w7, w8, ?_⟩
    simp only [Tr.ds]
    rw [forL_cons bind_W h1, h2]
    congr 2
    have hlen : p + (acc ++ (Row.test a A (p + acc.length + t.len + 2) :: (t.rows (p + acc.length + 1) ++ Row.jump (p + acc.length + t.len + 2 + f.len) :: f.rows (p + acc.length + t.len + 2)))).length = p + acc.length + t.len + 2 + f.len := by simp [l1, l2]; omega
    rw [hlen]
    simp [Tr.rows]
  | .loop a A b k, acc, y3, y4, y5, y6, y7, y8, hd, hl => by
    simp only [Tr.depth, Tr.len] at hd hl
    have i1 := ih b (p + acc.length + 1) (by omega) (by omega)
    have l1 := Tr.rows_len b (p + acc.length + 1)
    obtain ⟨z4, z5, h1⟩ := low_loop (st := st) (d0 := d0) (a := a) (A := A) (acc := acc) (by omega) (by omega) i1 y4 y5 y6 y7 y8
    obtain ⟨w3, w4, w5, w6, w7, w8, h2⟩ := low_for ih k (acc ++ (.test a A (p + acc.length + b.len + 2) :: (b.rows (p + acc.length + 1) ++ [.jump (p + acc.length)]))) (some (.val (.tup [sx "loop", dn a, dn A, b.d]))) z4 z5 y6 y7 y8 (by omega) (by simp [l1]; omega)
    refine ⟨w3, w4, w5, w6, w7, w8, ?_⟩
    simp only [Tr.ds]
    rw [forL_cons bind_W h1, h2]
    congr 2
    have hlen : p + (acc ++ (Row.test a A (p + acc.length + b.len + 2) :: (b.rows (p + acc.length + 1) ++ [Row.jump (p + acc.length)]))).length = p + acc.length + b.len + 2 := by simp [l1]; omega
    rw [hlen]
    simp [Tr.rows]
theorem sp_low_n (st : Sto) : ∀ (n : Nat) (t : Tr) (p : Nat), t.depth < n → t.len ≤ 1000 → rec_law_lowered n [t.d, .int (p : Int)] st = .ok (.new (rl (t.rows p))) st
  | 0, t, _, h, _ => absurd h (Nat.not_lt_zero _)
  | n + 1, t, p, hd, hl => by
    obtain ⟨y3, y4, y5, y6, y7, y8, h⟩ := low_for (st := st) (d0 := t.d) (p := p) (fun t p => sp_low_n st n t p) t [] none none none none none none (by omega) (by simp; omega)
    show fnr_law_lowered (rec_law_lowered n) [.tup t.ds, .int (p : Int)] st = _
    unfold fnr_law_lowered g_law_lowered
    rw [fnOf_at]
    have hfor := sFor_at (e1 := envW t.d (p : Int) [] none none none none none none) (s1 := st) (g := b_law_lowered_1 (rec_law_lowered n)) (bind := bName 3) (iSeq_at (f := eVar 0) (e := envW t.d (p : Int) [] none none none none none none) (s := st) (d := t.d) (ds := t.ds) (by simp [envW]) rfl)
    rw [h] at hfor
    simp only [envW, List.map_nil, List.nil_append, List.length_nil, Nat.add_zero] at hfor
    generalize sFor (iSeq (eVar 0)) (bName 3) (b_law_lowered_1 (rec_law_lowered n)) = LP at *
    simp [List.replicate, hfor, lim, sOwn]
theorem sp_law_lowered {t : Tr} (hd : t.depth < 4) (hl : t.len ≤ 1000) (p : Nat) (st : Sto) : fn_law_lowered [t.d, .int (p : Int)] st = .ok (.new (rl (t.rows p))) st := sp_low_n st 4 t p hd hl
end
end DL
end
section
set_option Elab.async false
set_option linter.all false
set_option maxRecDepth 100000
set_option maxHeartbeats 4000000
set_option autoImplicit false
/-! TQ: the run of a tree. -/
namespace DL
open PySem L2
abbrev nRun : Str := Str.ofString "Run"
def runF (dm dx : D) (s : RS) (j : Nat) : List (Str × D) := [(Str.ofString "meaning", dm), (Str.ofString "secrets", dx), (Str.ofString "left", .int s.left), (Str.ofString "seen", .ref j), (Str.ofString "state", s.ps.d)]
structure RRep (dm dx : D) (st : Sto) (i j : Nat) (s : RS) : Prop where
  me : st[i]? = some (.ins nRun (runF dm dx s j))
  seen : st[j]? = some (.obj (.lst (s.seen.map Seen.d)))
  ne : i ≠ j
section
variable {dm dx : D} {st : Sto} {i j : Nat} {s : RS} {e : Sl} {m : Mean} {x : Secr}
namespace RRep
theorem meaning (h : RRep dm dx st i j s) : gFld nRun (Str.ofString "meaning") (.ref i) e st = .ok dm e st := gFld_at h.me (by simp [lkF, runF])
theorem secrets (h : RRep dm dx st i j s) : gFld nRun (Str.ofString "secrets") (.ref i) e st = .ok dx e st := gFld_at h.me (by simp [lkF, runF])
theorem left (h : RRep dm dx st i j s) : gFld nRun (Str.ofString "left") (.ref i) e st = .ok (.int s.left) e st := gFld_at h.me (by simp [lkF, runF])
theorem seenF (h : RRep dm dx st i j s) : gFld nRun (Str.ofString "seen") (.ref i) e st = .ok (.ref j) e st := gFld_at h.me (by simp [lkF, runF])
theorem state (h : RRep dm dx st i j s) : gFld nRun (Str.ofString "state") (.ref i) e st = .ok s.ps.d e st := gFld_at h.me (by simp [lkF, runF])
theorem ins (h : RRep dm dx st i j s) {m : String} (hm : ["meaning", "secrets", "left", "seen", "state"].contains m = false) : insOf nRun (Str.ofString m) (.ref i) st = true := by
  refine insOf_at h.me ?_
  simp only [List.contains_cons, Bool.or_eq_false_iff, beq_eq_false_iff_ne] at hm
  obtain ⟨h1, h2, h3, h4, h5, _⟩ := hm
  simp [lkF, runF, h1.symm, h2.symm, h3.symm, h4.symm, h5.symm]
theorem put_left (h : RRep dm dx st i j s) (k : Int) : fldPut nRun (Str.ofString "left") (.ref i) (.int k) st = some (st.set i (.ins nRun (runF dm dx { s with left := k } j))) := by
  rw [fldPut_at h.me (by simp [runF])]
  simp [putFD, runF]
theorem put_state (h : RRep dm dx st i j s) (p : PS) : fldPut nRun (Str.ofString "state") (.ref i) p.d st = some (st.set i (.ins nRun (runF dm dx { s with ps := p } j))) := by
  rw [fldPut_at h.me (by simp [runF])]
  simp [putFD, runF]
theorem set_me (h : RRep dm dx st i j s) {s' : RS} (hs : s'.seen = s.seen) : RRep dm dx (st.set i (.ins nRun (runF dm dx s' j))) i j s' :=
  ⟨by rw [List.getElem?_set_self (lt_of_at h.me)], by rw [List.getElem?_set_ne h.ne, hs]; exact h.seen, h.ne⟩
theorem set_seen (h : RRep dm dx st i j s) (l : List Seen) : RRep dm dx (st.set j (.obj (.lst (l.map Seen.d)))) i j { s with seen := l } :=
  ⟨by rw [List.getElem?_set_ne h.ne.symm]; exact h.me, by rw [List.getElem?_set_self (lt_of_at h.seen)], h.ne⟩
end RRep
theorem sp_turn (h : RRep dm dx st i j s) : ∃ st', fn_Run_turn [.ref i] st = .ok (.val (.bl (decide (0 ≤ s.turn.left)))) st' ∧ RRep dm dx st' i j s.turn := by
  have r1 := h.set_me (s' := s.turn) rfl
  refine ⟨_, ?_, r1⟩
  have hl := fun e => r1.left (e := e)
  unfold fn_Run_turn g_Run_turn
  rw [fnOf_at]
  have h1 : sFldAug (Str.ofString "Run") (Str.ofString "left") (fun i j => i - j) (eVar 0) (eK (.int 1)) [some (.val (.ref i))] st = .nx [some (.val (.ref i))] (st.set i (.ins nRun (runF dm dx s.turn j))) := by
    rw [sFldAug_at (a := s.left) (b := 1) (by simp) h.me (by simp [lkF, runF]) (by simp) (by simp [runF])]
    simp [putFD, runF, RS.turn]
  simp [List.replicate, h1, hl]
theorem seen_ty (y : Seen) : Ty y.d = true := by cases y <;> rfl
theorem sp_see (h : RRep dm dx st i j s) (hl : s.seen.length ≤ 1000) (y : Seen) {fo f : EF} {e : Sl} (ho : fo e st = .ok (.ref j) e st) (hf : eFz f e st = .ok y.d e st) :
    sAppR fo f e st = .nx e (st.set j (.obj (.lst ((s.seen ++ [y]).map Seen.d)))) := by
  have := sAppR_at2 (s := st) (s1 := st) ho hf (by rw [lstAt_at h.seen]; rfl) h.seen (by rw [List.length_map]; unfold lim; omega)
  rw [this]
  simp
theorem sp_decide (h : RRep dm dx st i j s) (hm : MRep m dm) (hl : s.seen.length ≤ 1000) {part : D} {a A : Nat} (ha : a < s.ps.regs.length) (hA : A < 2) (hp : Ty part = true) (g1 : ∀ e st, gIx part (.int 1) e st = .ok (dn a) e st) (g2 : ∀ e st, gIx part (.int 2) e st = .ok (dn A) e st) :
    ∃ st', fn_Run_decide [.ref i, part] st = .ok (.val (.bl (s.dec m a A))) st' ∧ RRep dm dx st' i j (s.see (s.dec m a A)) := by
  have r1 := h.set_seen (s.seen ++ [wayS (s.dec m a A)])
  refine ⟨_, ?_, r1⟩
  have h1 := sp_is_in hm hA (rg s.ps.regs a) st
  have hd := fun e => fz_ty (e := e) hm.ty
  have hr := fun e => ix_ints (e := e) (st := st) (l := s.ps.regs) (i := a) ha
  have hmean := fun e => h.meaning (e := e)
  have hst := fun e => h.state (e := e)
  have hsf := fun e => h.seenF (e := e)
  have happ : ∀ b, s.dec m a A = b → sAppR (eUn (gFld nRun (Str.ofString "seen")) (eVar 0)) (eIf (eVar 2) (eTup (aCons (eK (sx "in")) aNil)) (eTup (aCons (eK (sx "out")) aNil))) [some (.val (.ref i)), some (.val part), some (.val (.bl b))] st = .nx [some (.val (.ref i)), some (.val part), some (.val (.bl b))] (st.set j (.obj (.lst ((s.seen ++ [wayS b]).map Seen.d)))) := fun b hb =>
    sp_see h hl (wayS b) (by simp [hsf]) (by cases b <;> simp [eIf, wayS, Seen.d, lim])
  have happ := happ _ rfl
  unfold fn_Run_decide g_Run_decide
  rw [fnOf_at]
  have hdec : m.isIn A (rg s.ps.regs a) = s.dec m a A := rfl
  rw [hdec] at h1
  generalize s.dec m a A = b at *
  generalize eIf (eVar 2) (eTup (aCons (eK (sx "in")) aNil)) (eTup (aCons (eK (sx "out")) aNil)) = EI at *
  simp [List.replicate, hmean, hst, hd, g1, g2, hr, h1, happ]
theorem sp_after_row {g : Prog} {s : PS} (hs : s.Ok g.rows.length) (hm : MRep m dm) (hx : SRepr x dx) {p : Nat} {r : Row} (h : At g s p r) (hk : r.isDo = true) (st : Sto) :
    fn_after_step [g.d, dm, dx, s.d] st = .ok (.val (.tup [(stepR m x s p r).1.d, seenD p (stepR m x s p r).2])) st := by
  have hpl : pl s.place = dn p := by rw [h.place]; rfl
  have hrs := fun hk => sp_register_step (m := m) (x := x) hs hm hx h hk st
  have hd := fun e => fz_ty (e := e) hm.ty
  have hd2 := fun e => fz_ty (e := e) hx.ty
  have h1 := h.ix
  have hrok := h.ok
  have r4 := hs.regs
  have s2 := hs.slots
  unfold fn_after_step g_after_step
  rw [fnOf_at]
  have hsp : ∀ q : Option Nat, ps_put s q = { s with place := q } := fun _ => rfl
  cases r
  case test a A t => cases hk
  case fin => cases hk
  case jump t => cases hk
  case fence => simp [-List.map_set, List.replicate, Row.w, h1, hpl, hd, hd2, g0p, lim, stepR, seenD, Seen.d, hsp]
  case put k a =>
    have q := fun e => ix_ints (e := e) (st := st) (l := s.regs) (i := a) (by rw [r4]; exact hrok.2)
    have w := sp_wp_ints (l := s.slots) (i := k) (v := rg s.regs a) (by rw [s2]; exact hrok.1) (by omega) st
    simp only [Row.d] at h1
    simp [-List.map_set, List.replicate, Row.w, h1, hpl, hd, hd2, g1s, q, w, lim, stepR, seenD, Seen.d]
  case ask r => simp [-List.map_set, List.replicate, Row.w, h1, hpl, hd, hd2, hrs (by simp [Row.reg])]
  case mix r a b => simp [-List.map_set, List.replicate, Row.w, h1, hpl, hd, hd2, hrs (by simp [Row.reg])]
  case load r A a => simp [-List.map_set, List.replicate, Row.w, h1, hpl, hd, hd2, hrs (by simp [Row.reg])]
  case mask r A a => simp [-List.map_set, List.replicate, Row.w, h1, hpl, hd, hd2, hrs (by simp [Row.reg])]
  case get r k => simp [-List.map_set, List.replicate, Row.w, h1, hpl, hd, hd2, hrs (by simp [Row.reg])]
/-- a state as it must be, but for the place -/
structure PS.Fine (s : PS) : Prop where
  regs : s.regs.length = 4
  slots : s.slots.length = 2
  counts : s.counts.length = 3
theorem PS.Fine.at_ {s : PS} (h : s.Fine) (n p : Nat) (hp : p < n) : (atP s p).Ok n := ⟨fun k hk => by cases hk; exact hp, h.regs, h.slots, h.counts⟩
theorem fine_do {s : PS} (h : s.Fine) {r : Row} (hr : r.isDo = true) : (stepR m x (atP s 0) 0 r).1.Fine := by
  obtain ⟨h1, h2, h3⟩ := h
  cases r <;> first | cases hr | skip
  all_goals refine ⟨?_, ?_, ?_⟩ <;> simp [stepR, atP, h1, h2, h3, up]
theorem sp_do (h : RRep dm dx st i j s) (hm : MRep m dm) (hx : SRepr x dx) (hf : s.ps.Fine) (hl : s.seen.length ≤ 1000) {r : Row} (hr : r.isDo = true) (ho : r.ok 1) :
    ∃ st', fn_Run_do [.ref i, r.d] st = .ok (.val .non) st' ∧ RRep dm dx st' i j (s.do_ m x r) := by
  have hat : At ⟨[], [r]⟩ (atP s.ps 0) 0 r := ⟨rfl, Nat.zero_lt_one, fun e st => ix_tup rfl, ho⟩
  have ha := sp_after_row (m := m) (x := x) (g := ⟨[], [r]⟩) (hf.at_ 1 0 Nat.zero_lt_one) hm hx hat hr st
  have hgd : (⟨[], [r]⟩ : Prog).d = .dk [(.inr (Str.ofString "secret"), .tup []), (.inr (Str.ofString "rows"), .tup [r.d])] := rfl
  rw [hgd] at ha
  have hd := fun e => fz_ty (e := e) hm.ty
  have hd2 := fun e => fz_ty (e := e) hx.ty
  have hrf := fun e => fz_ty (e := e) (row_ty r)
  have hst := fun e => h.state (e := e)
  have hput : putC s.ps.d (sx "place") (.int 0) = some (atP s.ps 0).d := pt_place s.ps (some 0)
  have r1 := h.set_me (s' := { s with ps := (stepR m x (atP s.ps 0) 0 r).1 }) rfl
  have h1 := h.put_state (stepR m x (atP s.ps 0) 0 r).1
  have hmean := fun e => h.meaning (e := e)
  have hsec := fun e => h.secrets (e := e)
  have hsf := fun e => r1.seenF (e := e)
  have hpf : ∀ (s : PS) e, fz s.d e = some (s.d, e) := fun s e => fz_ty (ty_pd (pd_psd s).1)
  have hd3 : s.do_ m x r = { s with ps := (stepR m x (atP s.ps 0) 0 r).1, seen := s.seen ++ vis (stepR m x (atP s.ps 0) 0 r).2 } := rfl
  rw [hd3]
  generalize hps : (stepR m x (atP s.ps 0) 0 r).1 = ps' at *
  generalize hy : (stepR m x (atP s.ps 0) 0 r).2 = y at *
  have hyt : ∀ e, fz y.d e = some (y.d, e) := fun e => fz_ty (seen_ty y)
  have hseen : seenD 0 y = .tup [.int 0, y.d] := rfl
  rw [hseen] at ha
  have g1 : ∀ e st, gIx (.tup [.int 0, y.d]) (.int 1) e st = .ok y.d e st := fun e st => ix_tup rfl
  unfold fn_Run_do g_Run_do
  rw [fnOf_at]
  have hgd : ∀ e, gDict s.ps.d e st = .ok s.ps.d e st := fun e => rfl
  have hp0 : sPut 2 (eK (sx "place")) (eK (.int 0)) [some (.val (.ref i)), some (.val r.d), some (.own s.ps.d), none] st = .nx [some (.val (.ref i)), some (.val r.d), some (.own (atP s.ps 0).d), none] st := sPut_at rfl (by simp) (by simp) hput
  generalize hrd : r.d = rd at *
  generalize hsd : s.ps.d = sd at *
  generalize hsd0 : (atP s.ps 0).d = sd0 at *
  by_cases hno : y = .no
  · subst hno
    refine ⟨_, ?_, by simpa [vis] using r1⟩
    have hn : Seen.d .no = .non := rfl
    rw [hn] at ha g1
    simp [List.replicate, hst, hgd, hp0, hmean, hsec, hd, hd2, hrf, ha, h1, g1, lim, ptAll, pt, hasK, hpf, sOwn]
  · have hv : vis y = [y] := by unfold vis; rw [if_neg hno]
    rw [hv]
    refine ⟨_, ?_, r1.set_seen (s.seen ++ [y])⟩
    have hnn : isN y.d = false := by cases y <;> first | rfl | exact absurd rfl hno
    have happ := fun e => sp_see r1 (by exact hl) y (fo := eUn (gFld nRun (Str.ofString "seen")) (eVar 0)) (f := eBin gIx (eVar 3) (eK (.int 1))) (e := [some (.val (.ref i)), some (.val rd), e, some (.val (.tup [.int 0, y.d]))]) (by simp [hsf]) (by simp [g1, hyt])
    simp only at happ
    generalize y.d = yd at *
    simp [List.replicate, hst, hgd, hp0, hmean, hsec, hd, hd2, hrf, ha, h1, g1, lim, ptAll, pt, hasK, hpf, sOwn, happ, hnn, gNotN]
end
end DL
end
section
set_option Elab.async false
set_option linter.all false
set_option maxRecDepth 100000
set_option maxHeartbeats 4000000
set_option autoImplicit false
/-! TW: make, make_loop. -/
namespace DL
open PySem L2
section
variable {dm dx : D} {st : Sto} {i j : Nat} {s : RS} {e : Sl} {m : Mean} {x : Secr}
structure RS.Inv (s : RS) : Prop where
  fine : s.ps.Fine
  few : (s.seen.length : Int) + s.left ≤ 900
  pos : 0 ≤ s.left
theorem vis_len (y : Seen) : (vis y).length ≤ 1 := by unfold vis; split <;> simp
theorem inv_do (h : s.Inv) (hl : 0 ≤ s.turn.left) {r : Row} (hr : r.isDo = true) : (s.turn.do_ m x r).Inv := by
  refine ⟨fine_do h.fine hr, ?_, hl⟩
  have := h.few
  have hv := vis_len (stepR m x (atP s.ps 0) 0 r).2
  show ((s.seen ++ vis (stepR m x (atP s.ps 0) 0 r).2).length : Int) + (s.left - 1) ≤ 900
  rw [List.length_append]
  omega
theorem inv_see (h : s.Inv) (hl : 0 ≤ s.turn.left) (b : Bool) : (s.turn.see b).Inv := by
  refine ⟨h.fine, ?_, hl⟩
  have := h.few
  simp only [RS.see, RS.turn, List.length_append, List.length_singleton]
  omega
theorem loopI_inv {body : RS → Bool × RS} {a A : Nat} (hb : ∀ s : RS, s.Inv → (body s).1 = true → (body s).2.Inv) : ∀ (n : Nat) (s : RS), s.Inv → (loopI m body a A n s).1 = true → (loopI m body a A n s).2.Inv
  | 0, s, h, ht => by unfold loopI at ht; cases ht
  | n + 1, s, h, ht => by
    unfold loopI at ht ⊢
    by_cases hl : 0 ≤ s.turn.left
    · rw [if_pos hl] at ht ⊢
      cases hdec : s.turn.dec m a A with
      | false => simpa [hdec] using inv_see h hl false
      | true =>
        simp only [hdec, if_true] at ht ⊢
        have h1 := hb (s.turn.see true) (inv_see h hl true)
        generalize body (s.turn.see true) = q at *
        cases hq : q.1 with
        | false => rw [hq] at ht; simp at ht
        | true =>
          rw [hq] at ht
          simp only [if_true] at ht ⊢
          exact loopI_inv hb n q.2 (h1 hq) ht
    · rw [if_neg hl] at ht; cases ht
theorem mkT_inv : ∀ (t : Tr) (s : RS), t.ok → s.Inv → (mkT m x t s).1 = true → (mkT m x t s).2.Inv
  | .nil, s, _, h, _ => h
  | .one r k, s, ho, h, ht => by
    unfold mkT at ht ⊢
    by_cases hl : 0 ≤ s.turn.left
    · rw [if_pos hl] at ht ⊢
      exact mkT_inv k _ ho.2.2 (inv_do h hl ho.1) ht
    · rw [if_neg hl] at ht; cases ht
  | .ifp a A t f k, s, ho, h, ht => by
    unfold mkT at ht ⊢
    by_cases hl : 0 ≤ s.turn.left
    · rw [if_pos hl] at ht ⊢
      simp only at ht ⊢
      have key : (if s.turn.dec m a A = true then mkT m x t (s.turn.see true) else mkT m x f (s.turn.see false)).1 = true → (if s.turn.dec m a A = true then mkT m x t (s.turn.see true) else mkT m x f (s.turn.see false)).2.Inv := by
        cases hdec : s.turn.dec m a A with
        | true => simp only [if_true]; exact mkT_inv t _ ho.2.2.1 (inv_see h hl true)
        | false => simp only [Bool.false_eq_true, if_false]; exact mkT_inv f _ ho.2.2.2.1 (inv_see h hl false)
      generalize (if s.turn.dec m a A = true then mkT m x t (s.turn.see true) else mkT m x f (s.turn.see false)) = q at *
      cases hq : q.1 with
      | false => rw [hq] at ht; simp at ht
      | true =>
        rw [hq] at ht
        simp only [if_true] at ht ⊢
        exact mkT_inv k q.2 ho.2.2.2.2 (key hq) ht
    · rw [if_neg hl] at ht; cases ht
  | .loop a A b k, s, ho, h, ht => by
    unfold mkT at ht ⊢
    have key := loopI_inv (m := m) (body := fun s => mkT m x b s) (a := a) (A := A) (fun s hs => mkT_inv b s ho.2.2.1 hs) (s.left.toNat + 1) s h
    simp only at ht ⊢
    generalize loopI m (fun s => mkT m x b s) a A (s.left.toNat + 1) s = q at *
    cases hq : q.1 with
    | false => rw [hq] at ht; simp at ht
    | true =>
      rw [hq] at ht
      simp only [if_true] at ht ⊢
      exact mkT_inv k q.2 ho.2.2.2 (key hq) ht
theorem seen_few (h : s.Inv) : s.seen.length ≤ 1000 := by have := h.few; have := h.pos; omega
theorem sp_loop {R : Fn} {b : Tr} {a A : Nat} (ho : b.ok) (ha : a < 4) (hA : A < 2) (hm : MRep m dm) (hR : ∀ (s : RS) (st : Sto), s.Inv → RRep dm dx st i j s → ∃ st', R [.ref i, b.d] st = .ok (.val (.bl (mkT m x b s).1)) st' ∧ RRep dm dx st' i j (mkT m x b s).2) :
    ∀ (n : Nat) (s : RS) (st : Sto), s.left < n → s.Inv → RRep dm dx st i j s → ∀ fuel, n + 1 ≤ fuel → ∃ st', RRep dm dx st' i j (loopI m (fun s => mkT m x b s) a A n s).2 ∧
      (((loopI m (fun s => mkT m x b s) a A n s).1 = true ∧ whL (eMeth "Run" "turn" 1 fn_Run_turn (eVar 0) aNil) (b_Run_make_loop_1 R) fuel [some (.val (.ref i)), some (.val (.tup [sx "loop", dn a, dn A, b.d]))] st = .rt (.val (.bl true)) st') ∨
       ((loopI m (fun s => mkT m x b s) a A n s).1 = false ∧ (whL (eMeth "Run" "turn" 1 fn_Run_turn (eVar 0) aNil) (b_Run_make_loop_1 R) fuel [some (.val (.ref i)), some (.val (.tup [sx "loop", dn a, dn A, b.d]))] st = .rt (.val (.bl false)) st' ∨
         whL (eMeth "Run" "turn" 1 fn_Run_turn (eVar 0) aNil) (b_Run_make_loop_1 R) fuel [some (.val (.ref i)), some (.val (.tup [sx "loop", dn a, dn A, b.d]))] st = .nx [some (.val (.ref i)), some (.val (.tup [sx "loop", dn a, dn A, b.d]))] st')))
  | 0, s, st, hl, h, _, _, _ => absurd hl (by have := h.pos; omega)
  | n + 1, s, st, hl, h, hrep, 0, hf => absurd hf (by omega)
  | n + 1, s, st, hl, h, hrep, fuel + 1, hf => by
    have g1 : ∀ e st, gIx (.tup [sx "loop", dn a, dn A, b.d]) (.int 1) e st = .ok (dn a) e st := fun e st => ix_tup rfl
    have g2 : ∀ e st, gIx (.tup [sx "loop", dn a, dn A, b.d]) (.int 2) e st = .ok (dn A) e st := fun e st => ix_tup rfl
    have g3 : ∀ e st, gIx (.tup [sx "loop", dn a, dn A, b.d]) (.int 3) e st = .ok b.d e st := fun e st => ix_tup rfl
    obtain ⟨st1, h1, r1⟩ := sp_turn hrep
    have i0 := hrep.ins (m := "turn") (by decide)
    have hft : ∀ (e : Sl), e = [some (.val (.ref i)), some (.val (.tup [sx "loop", dn a, dn A, b.d]))] → eMeth "Run" "turn" 1 fn_Run_turn (eVar 0) aNil e st = .ok (.bl (decide (0 ≤ s.turn.left))) e st1 := fun e he => by
      subst he
      simp [i0, h1]
    unfold whL loopI
    rw [hft _ rfl]
    by_cases ht : 0 ≤ s.turn.left
    · rw [decide_eq_true ht, if_pos ht]
      have i1 := r1.ins (m := "decide") (by decide)
      obtain ⟨st2, h2, r2⟩ := sp_decide r1 hm (seen_few (s := s) h) (part := .tup [sx "loop", dn a, dn A, b.d]) (a := a) (A := A) (by rw [show s.turn.ps = s.ps from rfl, h.fine.regs]; exact ha) hA rfl g1 g2
      have fp : ∀ e, fz (.tup [sx "loop", dn a, dn A, b.d]) e = some (.tup [sx "loop", dn a, dn A, b.d], e) := fun e => rfl
      have fb := fun e => fz_ty (e := e) (tr_ty b)
      cases hdec : s.turn.dec m a A with
      | false =>
        rw [hdec] at h2 r2
        refine ⟨st2, r2, .inl ⟨rfl, ?_⟩⟩
        have hb : b_Run_make_loop_1 R [some (.val (.ref i)), some (.val (.tup [sx "loop", dn a, dn A, b.d]))] st1 = .rt (.val (.bl true)) st2 := by
          unfold b_Run_make_loop_1
          generalize D.tup [sx "loop", dn a, dn A, b.d] = pd at *
          simp [i1, fp, h2]
        simp only [ER.bindS, hb]
      | true =>
        rw [hdec] at h2 r2
        simp only [if_true]
        have hinv := inv_see h ht true
        obtain ⟨st3, h3, r3⟩ := hR _ st2 hinv r2
        have i2 := r2.ins (m := "make") (by decide)
        have hinv2 := mkT_inv (m := m) (x := x) b _ ho hinv
        have hleft := mkT_left (m := m) (x := x) b (s.turn.see true)
        generalize mkT m x b (s.turn.see true) = q at *
        cases hq : q.1 with
        | false =>
          rw [hq] at h3
          simp only [Bool.false_eq_true, if_false]
          refine ⟨st3, r3, .inr ⟨trivial, .inl ?_⟩⟩
          have hb : b_Run_make_loop_1 R [some (.val (.ref i)), some (.val (.tup [sx "loop", dn a, dn A, b.d]))] st1 = .rt (.val (.bl false)) st3 := by
            unfold b_Run_make_loop_1
            generalize D.tup [sx "loop", dn a, dn A, b.d] = pd at *
            simp [i1, fp, h2, i2, g3, fb, h3]
          simp only [ER.bindS, hb]
        | true =>
          rw [hq] at h3
          simp only [if_true]
          have hb : b_Run_make_loop_1 R [some (.val (.ref i)), some (.val (.tup [sx "loop", dn a, dn A, b.d]))] st1 = .nx [some (.val (.ref i)), some (.val (.tup [sx "loop", dn a, dn A, b.d]))] st3 := by
            unfold b_Run_make_loop_1
            generalize D.tup [sx "loop", dn a, dn A, b.d] = pd at *
            simp [i1, fp, h2, i2, g3, fb, h3]
          have hrec := sp_loop ho ha hA hm hR n q.2 st3 (by simp only [RS.see, RS.turn] at hleft; omega) (hinv2 hq) r3 fuel (by omega)
          simp only [ER.bindS, hb]
          exact hrec
    · rw [decide_eq_false ht, if_neg ht]
      exact ⟨st1, r1, .inr ⟨rfl, .inr rfl⟩⟩
theorem forL_rt {bind : BF} {g : SF} {x : D} {xs : List D} {e e1 : Sl} {s s2 : Sto} {r : RV} (h1 : bind x e = some e1) (h2 : g e1 s = .rt r s2) : forL bind g (x :: xs) e s = .rt r s2 := by
  conv => lhs; unfold forL
  rw [h1]
  simp only [h2]
theorem sp_make_loop {R : Fn} {b : Tr} {a A : Nat} (ho : b.ok) (ha : a < 4) (hA : A < 2) (hm : MRep m dm) (hR : ∀ (s : RS) (st : Sto), s.Inv → RRep dm dx st i j s → ∃ st', R [.ref i, b.d] st = .ok (.val (.bl (mkT m x b s).1)) st' ∧ RRep dm dx st' i j (mkT m x b s).2) (hs : s.Inv) (hrep : RRep dm dx st i j s) :
    ∃ st', fnr_Run_make_loop R [.ref i, .tup [sx "loop", dn a, dn A, b.d]] st = .ok (.val (.bl (loopI m (fun s => mkT m x b s) a A (s.left.toNat + 1) s).1)) st' ∧ RRep dm dx st' i j (loopI m (fun s => mkT m x b s) a A (s.left.toNat + 1) s).2 := by
  have hp := hs.pos
  have hf := hs.few
  obtain ⟨st', r, h⟩ := sp_loop ho ha hA hm hR (s.left.toNat + 1) s st (by omega) hs hrep 100000 (by omega)
  generalize loopI m (fun s => mkT m x b s) a A (s.left.toNat + 1) s = q at *
  refine ⟨st', ?_, r⟩
  have hw : ∀ e st, sWhile 100000 (eMeth "Run" "turn" 1 fn_Run_turn (eVar 0) aNil) (b_Run_make_loop_1 R) e st = whL (eMeth "Run" "turn" 1 fn_Run_turn (eVar 0) aNil) (b_Run_make_loop_1 R) 100000 e st := fun _ _ => rfl
  unfold fnr_Run_make_loop g_Run_make_loop
  rw [fnOf_at]
  generalize sWhile 100000 (eMeth "Run" "turn" 1 fn_Run_turn (eVar 0) aNil) (b_Run_make_loop_1 R) = W at *
  rcases h with ⟨h1, h2⟩ | ⟨h1, h2 | h2⟩ <;> rw [← hw] at h2 <;> rw [h1] <;> generalize D.tup [sx "loop", dn a, dn A, b.d] = pd at * <;> simp [List.replicate, h2]
theorem make_for {n : Nat} (hm : MRep m dm) (hx : SRepr x dx) (ih : ∀ (t : Tr) (s : RS) (st : Sto), t.depth < n → t.ok → s.Inv → RRep dm dx st i j s → ∃ st', rec_Run_make n [.ref i, t.d] st = .ok (.val (.bl (mkT m x t s).1)) st' ∧ RRep dm dx st' i j (mkT m x t s).2) :
    ∀ (t : Tr) (s : RS) (st : Sto) (y1 y2 : Option SV), t.depth ≤ n → t.ok → s.Inv → RRep dm dx st i j s → ∃ st', RRep dm dx st' i j (mkT m x t s).2 ∧
      (((mkT m x t s).1 = true ∧ ∃ y2', forL (bName 2) (b_Run_make_1 (rec_Run_make n) (fnr_Run_make_loop (rec_Run_make n))) t.ds [some (.val (.ref i)), y1, y2] st = .nx [some (.val (.ref i)), y1, y2'] st') ∨
       ((mkT m x t s).1 = false ∧ forL (bName 2) (b_Run_make_1 (rec_Run_make n) (fnr_Run_make_loop (rec_Run_make n))) t.ds [some (.val (.ref i)), y1, y2] st = .rt (.val (.bl false)) st'))
  | .nil, s, st, y1, y2, _, _, _, hr => ⟨st, hr, .inl ⟨rfl, y2, rfl⟩⟩
  | .one r k, s, st, y1, y2, hd, ho, hs, hr => by
    have g0 : ∀ e st, gIx (.tup [sx "do", r.d]) (.int 0) e st = .ok (sx "do") e st := fun e st => ix_tup rfl
    have g1 : ∀ e st, gIx (.tup [sx "do", r.d]) (.int 1) e st = .ok r.d e st := fun e st => ix_tup rfl
    have fr := fun e => fz_ty (e := e) (row_ty r)
    obtain ⟨st1, h1, r1⟩ := sp_turn hr
    have i0 := hr.ins (m := "turn") (by decide)
    have hb : bName 2 (.tup [sx "do", r.d]) [some (.val (.ref i)), y1, y2] = some [some (.val (.ref i)), y1, some (.val (.tup [sx "do", r.d]))] := rfl
    unfold mkT
    simp only [Tr.ds]
    by_cases ht : 0 ≤ s.turn.left
    · rw [decide_eq_true ht] at h1
      rw [if_pos ht]
      have hinv := inv_do (m := m) (x := x) hs ht ho.1
      obtain ⟨st2, h2, r2⟩ := sp_do r1 hm hx hs.fine (seen_few (s := s) hs) ho.1 ho.2.1
      have i1 := r1.ins (m := "do") (by decide)
      have hg : b_Run_make_1 (rec_Run_make n) (fnr_Run_make_loop (rec_Run_make n)) [some (.val (.ref i)), y1, some (.val (.tup [sx "do", r.d]))] st = .nx [some (.val (.ref i)), y1, some (.val (.tup [sx "do", r.d]))] st2 := by
        unfold b_Run_make_1
        generalize D.tup [sx "do", r.d] = pd at *
        generalize r.d = rd at *
        simp [g0, g1, i0, h1, i1, h2, fr, sDo]
      obtain ⟨st3, r3, h3⟩ := make_for hm hx ih k (s.turn.do_ m x r) st2 y1 (some (.val (.tup [sx "do", r.d]))) hd ho.2.2 hinv r2
      refine ⟨st3, r3, ?_⟩
      rw [forL_cons hb hg]
      exact h3
    · rw [decide_eq_false ht] at h1
      rw [if_neg ht]
      refine ⟨st1, r1, .inr ⟨rfl, forL_rt hb ?_⟩⟩
      unfold b_Run_make_1
      generalize D.tup [sx "do", r.d] = pd at *
      simp [g0, i0, h1]
  | .ifp a A t f k, s, st, y1, y2, hd, ho, hs, hr => by
    simp only [Tr.depth] at hd
    have g0 : ∀ e st, gIx (.tup [sx "if", dn a, dn A, t.d, f.d]) (.int 0) e st = .ok (sx "if") e st := fun e st => ix_tup rfl
    have g1 : ∀ e st, gIx (.tup [sx "if", dn a, dn A, t.d, f.d]) (.int 1) e st = .ok (dn a) e st := fun e st => ix_tup rfl
    have g2 : ∀ e st, gIx (.tup [sx "if", dn a, dn A, t.d, f.d]) (.int 2) e st = .ok (dn A) e st := fun e st => ix_tup rfl
    have g3 : ∀ e st, gIx (.tup [sx "if", dn a, dn A, t.d, f.d]) (.int 3) e st = .ok t.d e st := fun e st => ix_tup rfl
    have g4 : ∀ e st, gIx (.tup [sx "if", dn a, dn A, t.d, f.d]) (.int 4) e st = .ok f.d e st := fun e st => ix_tup rfl
    have ft := fun e => fz_ty (e := e) (tr_ty t)
    have ff := fun e => fz_ty (e := e) (tr_ty f)
    have fp : ∀ e, fz (.tup [sx "if", dn a, dn A, t.d, f.d]) e = some (.tup [sx "if", dn a, dn A, t.d, f.d], e) := fun e => rfl
    obtain ⟨st1, h1, r1⟩ := sp_turn hr
    have i0 := hr.ins (m := "turn") (by decide)
    have hb : bName 2 (.tup [sx "if", dn a, dn A, t.d, f.d]) [some (.val (.ref i)), y1, y2] = some [some (.val (.ref i)), y1, some (.val (.tup [sx "if", dn a, dn A, t.d, f.d]))] := rfl
    unfold mkT
    simp only [Tr.ds]
    by_cases ht : 0 ≤ s.turn.left
    · rw [decide_eq_true ht] at h1
      rw [if_pos ht]
      obtain ⟨st2, h2, r2⟩ := sp_decide r1 hm (seen_few (s := s) hs) (part := .tup [sx "if", dn a, dn A, t.d, f.d]) (a := a) (A := A) (by rw [show s.turn.ps = s.ps from rfl, hs.fine.regs]; exact ho.1) ho.2.1 rfl g1 g2
      have i1 := r1.ins (m := "decide") (by decide)
      have i2 := r1.ins (m := "make") (by decide)
      -- the way that is gone
      obtain ⟨st3, r3, hq, hmk⟩ : ∃ st3, RRep dm dx st3 i j (if s.turn.dec m a A = true then mkT m x t (s.turn.see true) else mkT m x f (s.turn.see false)).2 ∧
          ((if s.turn.dec m a A = true then mkT m x t (s.turn.see true) else mkT m x f (s.turn.see false)).1 = true → (if s.turn.dec m a A = true then mkT m x t (s.turn.see true) else mkT m x f (s.turn.see false)).2.Inv) ∧
          b_Run_make_1 (rec_Run_make n) (fnr_Run_make_loop (rec_Run_make n)) [some (.val (.ref i)), y1, some (.val (.tup [sx "if", dn a, dn A, t.d, f.d]))] st = if (if s.turn.dec m a A = true then mkT m x t (s.turn.see true) else mkT m x f (s.turn.see false)).1 = true then .nx [some (.val (.ref i)), y1, some (.val (.tup [sx "if", dn a, dn A, t.d, f.d]))] st3 else .rt (.val (.bl false)) st3 := by
        cases hdec : s.turn.dec m a A with
        | true =>
          rw [hdec] at h2 r2
          simp only [if_true]
          have hinv := inv_see hs ht true
          obtain ⟨st3, h3, r3⟩ := ih t (s.turn.see true) st2 (by omega) ho.2.2.1 hinv r2
          refine ⟨st3, r3, mkT_inv t _ ho.2.2.1 hinv, ?_⟩
          generalize mkT m x t (s.turn.see true) = q at *
          unfold b_Run_make_1
          generalize D.tup [sx "if", dn a, dn A, t.d, f.d] = pd at *
          cases hq : q.1 <;> rw [hq] at h3 <;> simp [g0, i0, h1, i1, fp, h2, i2, g3, ft, h3]
        | false =>
          rw [hdec] at h2 r2
          simp only [Bool.false_eq_true, if_false]
          have hinv := inv_see hs ht false
          obtain ⟨st3, h3, r3⟩ := ih f (s.turn.see false) st2 (by omega) ho.2.2.2.1 hinv r2
          refine ⟨st3, r3, mkT_inv f _ ho.2.2.2.1 hinv, ?_⟩
          generalize mkT m x f (s.turn.see false) = q at *
          unfold b_Run_make_1
          generalize D.tup [sx "if", dn a, dn A, t.d, f.d] = pd at *
          cases hq : q.1 <;> rw [hq] at h3 <;> simp [g0, i0, h1, i1, fp, h2, i2, g4, ff, h3]
      generalize (if s.turn.dec m a A = true then mkT m x t (s.turn.see true) else mkT m x f (s.turn.see false)) = q at *
      cases hq1 : q.1 with
      | false =>
        rw [hq1] at hmk
        simp only [Bool.false_eq_true, if_false] at hmk ⊢
        exact ⟨st3, r3, .inr ⟨trivial, forL_rt hb hmk⟩⟩
      | true =>
        rw [hq1] at hmk
        simp only [if_true] at hmk ⊢
        obtain ⟨st4, r4, h4⟩ := make_for hm hx ih k q.2 st3 y1 (some (.val (.tup [sx "if", dn a, dn A, t.d, f.d]))) (by omega) ho.2.2.2.2 (hq hq1) r3
        refine ⟨st4, r4, ?_⟩
        rw [forL_cons hb hmk]
        exact h4
    · rw [decide_eq_false ht] at h1
      rw [if_neg ht]
      refine ⟨st1, r1, .inr ⟨rfl, forL_rt hb ?_⟩⟩
      unfold b_Run_make_1
      generalize D.tup [sx "if", dn a, dn A, t.d, f.d] = pd at *
      simp [g0, i0, h1]
  | .loop a A b k, s, st, y1, y2, hd, ho, hs, hr => by
    simp only [Tr.depth] at hd
    have g0 : ∀ e st, gIx (.tup [sx "loop", dn a, dn A, b.d]) (.int 0) e st = .ok (sx "loop") e st := fun e st => ix_tup rfl
    have fp : ∀ e, fz (.tup [sx "loop", dn a, dn A, b.d]) e = some (.tup [sx "loop", dn a, dn A, b.d], e) := fun e => rfl
    have hb : bName 2 (.tup [sx "loop", dn a, dn A, b.d]) [some (.val (.ref i)), y1, y2] = some [some (.val (.ref i)), y1, some (.val (.tup [sx "loop", dn a, dn A, b.d]))] := rfl
    obtain ⟨st1, h1, r1⟩ := sp_make_loop ho.2.2.1 ho.1 ho.2.1 hm (R := rec_Run_make n) (fun s st h1 h2 => ih b s st (by omega) ho.2.2.1 h1 h2) hs hr
    have i0 := hr.ins (m := "make_loop") (by decide)
    have hinv := loopI_inv (m := m) (body := fun s => mkT m x b s) (a := a) (A := A) (fun s hs => mkT_inv b s ho.2.2.1 hs) (s.left.toNat + 1) s hs
    unfold mkT
    simp only [Tr.ds]
    generalize loopI m (fun s => mkT m x b s) a A (s.left.toNat + 1) s = q at *
    have hmk : b_Run_make_1 (rec_Run_make n) (fnr_Run_make_loop (rec_Run_make n)) [some (.val (.ref i)), y1, some (.val (.tup [sx "loop", dn a, dn A, b.d]))] st = if q.1 = true then .nx [some (.val (.ref i)), y1, some (.val (.tup [sx "loop", dn a, dn A, b.d]))] st1 else .rt (.val (.bl false)) st1 := by
      unfold b_Run_make_1
      generalize D.tup [sx "loop", dn a, dn A, b.d] = pd at *
      cases hq : q.1 <;> rw [hq] at h1 <;> simp [g0, i0, fp, h1]
    cases hq1 : q.1 with
    | false =>
      rw [hq1] at hmk
      simp only [Bool.false_eq_true, if_false] at hmk ⊢
      exact ⟨st1, r1, .inr ⟨trivial, forL_rt hb hmk⟩⟩
    | true =>
      rw [hq1] at hmk
      simp only [if_true] at hmk ⊢
      obtain ⟨st4, r4, h4⟩ := make_for hm hx ih k q.2 st1 y1 (some (.val (.tup [sx "loop", dn a, dn A, b.d]))) (by omega) ho.2.2.2 (hinv hq1) r1
      refine ⟨st4, r4, ?_⟩
      rw [forL_cons hb hmk]
      exact h4
theorem sp_make_n (hm : MRep m dm) (hx : SRepr x dx) : ∀ (n : Nat) (t : Tr) (s : RS) (st : Sto), t.depth < n → t.ok → s.Inv → RRep dm dx st i j s → ∃ st', rec_Run_make n [.ref i, t.d] st = .ok (.val (.bl (mkT m x t s).1)) st' ∧ RRep dm dx st' i j (mkT m x t s).2
  | 0, t, s, st, h, _, _, _ => absurd h (Nat.not_lt_zero _)
  | n + 1, t, s, st, hd, ho, hs, hr => by
    obtain ⟨st', r, h⟩ := make_for hm hx (fun t s st => sp_make_n hm hx n t s st) t s st (some (.val t.d)) none (by omega) ho hs hr
    refine ⟨st', ?_, r⟩
    show fnr_Run_make (rec_Run_make n) (fnr_Run_make_loop (rec_Run_make n)) [.ref i, .tup t.ds] st = _
    unfold fnr_Run_make g_Run_make
    rw [fnOf_at]
    have hfor := sFor_at (e1 := [some (.val (.ref i)), some (.val t.d), none]) (s1 := st) (g := b_Run_make_1 (rec_Run_make n) (fnr_Run_make_loop (rec_Run_make n))) (bind := bName 2) (iSeq_at (f := eVar 1) (e := [some (.val (.ref i)), some (.val t.d), none]) (s := st) (d := t.d) (ds := t.ds) (by simp) rfl)
    generalize sFor (iSeq (eVar 1)) (bName 2) (b_Run_make_1 (rec_Run_make n) (fnr_Run_make_loop (rec_Run_make n))) = LP at *
    rcases h with ⟨h1, y2, h2⟩ | ⟨h1, h2⟩ <;> rw [h2] at hfor <;> rw [h1] <;> simp [List.replicate, hfor]
end
end DL
end
section
set_option Elab.async false
set_option linter.all false
set_option maxRecDepth 100000
set_option maxHeartbeats 4000000
set_option autoImplicit false
/-! TX: lower, run_tree. -/
namespace DL
open PySem L2
section
variable {dm dx : D} {st : Sto} {e : Sl} {m : Mean} {x : Secr}
theorem do_ok {r : Row} (h : r.isDo = true) (h1 : r.ok 1) (n : Nat) : r.ok n := by
  cases r <;> first | exact h1 | cases h
theorem rows_ok : ∀ (t : Tr) (p n : Nat), t.ok → p + t.len < n → ∀ r ∈ t.rows p, r.ok n
  | .nil, p, n, _, _, r, hr => nomatch hr
  | .one q k, p, n, ho, hl, r, hr => by
    simp only [Tr.len] at hl
    rcases List.mem_cons.mp hr with rfl | hr
    · exact do_ok ho.1 ho.2.1 n
    · exact rows_ok k (p + 1) n ho.2.2 (by omega) r hr
  | .ifp a A t f k, p, n, ho, hl, r, hr => by
    simp only [Tr.len] at hl
    simp only [Tr.rows, List.mem_cons, List.mem_append] at hr
    rcases hr with rfl | hr | rfl | hr | hr
    · exact ⟨ho.1, ho.2.1, by omega⟩
    · exact rows_ok t _ n ho.2.2.1 (by omega) r hr
    · show _ < n; omega
    · exact rows_ok f _ n ho.2.2.2.1 (by omega) r hr
    · exact rows_ok k _ n ho.2.2.2.2 (by omega) r hr
  | .loop a A b k, p, n, ho, hl, r, hr => by
    simp only [Tr.len] at hl
    simp only [Tr.rows, List.mem_cons, List.mem_append] at hr
    rcases hr with rfl | hr | rfl | hr
    · exact ⟨ho.1, ho.2.1, by omega⟩
    · exact rows_ok b _ n ho.2.2.1 (by omega) r hr
    · show p < n; omega
    · exact rows_ok k _ n ho.2.2.2 (by omega) r hr
/-- the lowered program -/
def lowP (sec : List Nat) (t : Tr) : Prog := ⟨sec, t.rows 0 ++ [.fin]⟩
theorem lowP_ok {sec : List Nat} {t : Tr} (ho : t.ok) (hs : ∃ q : Nat → Bool, sec = (List.range 4).filter q) (hl : t.len + 1 ≤ 32) : (lowP sec t).Ok := by
  have h1 := Tr.rows_len t 0
  refine ⟨by simp [lowP], by simp [lowP, h1]; omega, fun r hr => ?_, .inl (by simp [lowP]), hs⟩
  rcases List.mem_append.mp hr with hr | hr
  · exact rows_ok t 0 _ ho (by simp [lowP, h1]) r hr
  · rw [List.mem_singleton.mp hr]; trivial
theorem lowP_has (sec : List Nat) (t : Tr) : Has (lowP sec t) t 0 := has_of t 0 fun i r hi => by
  have hl := (List.getElem?_eq_some_iff.mp hi).1
  unfold rowAt lowP
  rw [List.getD_eq_getElem?_getD, Nat.zero_add, List.getElem?_append_left hl, hi]; rfl
theorem lowP_end (sec : List Nat) (t : Tr) : rowAt (lowP sec t) t.len = .fin := by
  have hl := Tr.rows_len t 0
  unfold rowAt lowP
  rw [List.getD_eq_getElem?_getD, List.getElem?_append_right (by omega), hl, Nat.sub_self]; rfl
theorem sp_program_ok {sec : List Nat} {t : Tr} (ho : t.ok) (hs : ∃ q : Nat → Bool, sec = (List.range 4).filter q) (st : Sto) : fn_is_program [(lowP sec t).d] st = .ok (.val (.bl (decide (t.len + 1 ≤ 32)))) st := by
  have h1 := Tr.rows_len t 0
  have hsec : fn_is_secret [.tup (sec.map fun n => dn n)] st = .ok (.val (.bl true)) st := by
    obtain ⟨q, hq⟩ := hs
    have := sec_ok (sec := sec.map fun n : Nat => (n : Int)) ⟨q, by rw [hq]⟩ st
    rw [List.map_map] at this
    exact this
  have hd : (lowP sec t).d = pD (.tup (sec.map fun n => dn n)) (.tup ((t.rows 0 ++ [Row.fin]).map Row.d)) := rfl
  rw [hd]
  by_cases hl : t.len + 1 ≤ 32
  · rw [decide_eq_true hl]
    have := prog_rows (sec := .tup (sec.map fun n => dn n)) (rows := (t.rows 0 ++ [Row.fin]).map Row.d) rfl st hsec (by simp) (by simp [h1]; omega) (fun _ => true) (fun r hr => by
      obtain ⟨q, hq, rfl⟩ := List.mem_map.mp hr
      refine ⟨row_ty q, ?_⟩
      have hlen : (((t.rows 0 ++ [Row.fin]).map Row.d).length : Int) = ((t.len + 1 : Nat) : Int) := by simp [h1]
      rw [hlen]
      have hok : q.ok (t.len + 1) := by
        rcases List.mem_append.mp hq with hq | hq
        · exact rows_ok t 0 _ ho (by omega) q hq
        · rw [List.mem_singleton.mp hq]; trivial
      exact isrow_good (Int.le_refl _) (grow_of hok) st) "end" [] (fun _ => by simp [Row.d])
    rw [this]
    simp
  · rw [decide_eq_false hl]
    exact prog_len rfl st hsec (.inr (by simp [h1]; omega))
theorem sp_told {sec : List Nat} {t : Tr} (ho : t.ok) (hd : t.depth < 4) (hlen : t.len ≤ 1000) (hs : ∃ q : Nat → Bool, sec = (List.range 4).filter q) (st : Sto) :
    ∃ r, fn_law_told [t.d, .tup (sec.map fun n => dn n)] st = .ok r st ∧ (t.len + 1 ≤ 32 → r = .val (lowP sec t).d) ∧ (¬ t.len + 1 ≤ 32 → r = .new (.lst [sx "refused", .bl true])) := by
  have hr : fn_rows_of [t.d, .int 0] st = .ok (.new (rl (t.rows 0))) st := sp_rows_of hd hlen 0 st
  have hp := sp_program_ok (sec := sec) ho hs st
  have h1 := Tr.rows_len t 0
  have ft := fun e => fz_ty (e := e) (tr_ty t)
  have fs : ∀ e, fz (.tup (sec.map fun n => dn n)) e = some (.tup (sec.map fun n => dn n), e) := fun e => rfl
  have hadd : ∀ e, gAdd (rl (t.rows 0)) (.lst [.tup [sx "end"]]) e st = .ok (.lst ((t.rows 0 ++ [Row.fin]).map Row.d)) e st := fun e => by
    rw [adN (by simp [lim, h1]; omega)]; simp [Row.d]
  have hdd : (lowP sec t).d = .dk [(.inr (Str.ofString "secret"), .tup (sec.map fun n => dn n)), (.inr (Str.ofString "rows"), .tup ((t.rows 0 ++ [Row.fin]).map Row.d))] := rfl
  have hfz : ∀ e, fz (lowP sec t).d e = some ((lowP sec t).d, e) := fun e => rfl
  have hlow : fn_lower [t.d, .tup (sec.map fun n => dn n)] st = if t.len + 1 ≤ 32 then .ok (.val (lowP sec t).d) st else .exc (Str.ofString "NotValid") st := by
    have hret : ∀ e, retv (lowP sec t).d e st = .rt (.val (lowP sec t).d) st := fun e => rfl
    unfold fn_lower g_lower
    rw [fnOf_at]
    rw [hdd] at hp hret hfz ⊢
    generalize (t.rows 0 ++ [Row.fin]).map Row.d = RD at *
    generalize sec.map (fun n => dn n) = SD at *
    generalize rl (t.rows 0) = RO at *
    by_cases hl : t.len + 1 ≤ 32
    · rw [decide_eq_true hl] at hp
      rw [if_pos hl]
      simp [List.replicate, hr, hadd, ft, fs, lim, ptAll, pt, hasK, hp, hret, hfz]
    · rw [decide_eq_false hl] at hp
      rw [if_neg hl]
      simp [List.replicate, hr, hadd, ft, fs, lim, ptAll, pt, hasK, hp, hret, hfz, sRaise]
  by_cases hl : t.len + 1 ≤ 32
  · rw [if_pos hl] at hlow
    refine ⟨.val (lowP sec t).d, ?_, fun _ => rfl, fun h => absurd hl h⟩
    have hret : ∀ e, retv (lowP sec t).d e st = .rt (.val (lowP sec t).d) st := fun e => rfl
    unfold fn_law_told g_law_told
    rw [fnOf_at]
    generalize (lowP sec t).d = LD at *
    simp [List.replicate, sTryIsL, ft, fs, hlow, hret]
  · rw [if_neg hl] at hlow
    refine ⟨.new (.lst [sx "refused", .bl true]), ?_, fun h => absurd h hl, fun _ => rfl⟩
    unfold fn_law_told g_law_told
    rw [fnOf_at]
    simp [List.replicate, sTryIsL, ft, fs, hlow, exc_GuessError_NotValid]
theorem sec_facts {sec : List Nat} (hs : ∃ q : Nat → Bool, sec = (List.range 4).filter q) : sec.length ≤ 4 ∧ ∀ i (h : i < sec.length), ct sec i < 4 := by
  have h : (lowP sec .nil).Ok := lowP_ok trivial hs (by decide)
  exact ⟨h.sec_len, fun i hi => h.sec_lt hi⟩
theorem first_fine (g : Prog) (x : Secr) : (firstP g x).Fine := ⟨regsUp_len _ _ _, rfl, rfl⟩
theorem sp_run_init {sec : List Nat} (hs : ∃ q : Nat → Bool, sec = (List.range 4).filter q) (hm : MRep m dm) (hx : SRepr x dx) (k : Int) (st : Sto) :
    ∃ st', fn_Run___init [.ref st.length, .tup (sec.map fun n => dn n), dm, dx, .int k] (st ++ [.ins nRun []]) = .ok (.val .non) st' ∧ RRep dm dx st' st.length (st.length + 1) ⟨firstP ⟨sec, []⟩ x, k, []⟩ := by
  obtain ⟨h1, h2⟩ := sec_facts hs
  have hfs := fun st => sp_first_stateS (g := ⟨sec, []⟩) (x := x) h1 h2 hx st
  have hgd : (⟨sec, []⟩ : Prog).d = .dk [(.inr (Str.ofString "secret"), .tup (sec.map fun n => dn n)), (.inr (Str.ofString "rows"), .tup [])] := rfl
  rw [hgd] at hfs
  have l1 : (st ++ [SO.ins nRun []])[st.length]? = some (.ins nRun []) := by rw [List.getElem?_append_right (Nat.le_refl _), Nat.sub_self]; rfl
  have a1 : ∀ (fs : List (Str × D)) (f : Str) (d : D), fs.length < 1000 → fldPut nRun f (.ref st.length) d (st ++ [.ins nRun fs]) = some (st ++ [.ins nRun (putFD f d fs)]) := fun fs f d hl => by
    rw [fldPut_at (fs := fs) (by rw [List.getElem?_append_right (Nat.le_refl _), Nat.sub_self]; rfl) hl, List.set_append_right _ _ (Nat.le_refl _), Nat.sub_self]; rfl
  have a2 : ∀ (fs : List (Str × D)) (f : Str) (d : D) (o : SO), fs.length < 1000 → fldPut nRun f (.ref st.length) d (st ++ [.ins nRun fs, o]) = some (st ++ [.ins nRun (putFD f d fs), o]) := fun fs f d o hl => by
    rw [fldPut_at (fs := fs) (by rw [List.getElem?_append_right (Nat.le_refl _), Nat.sub_self]; rfl) hl, List.set_append_right _ _ (Nat.le_refl _), Nat.sub_self]
    rfl
  have hd := fun e => fz_ty (e := e) hm.ty
  have hd2 := fun e => fz_ty (e := e) hx.ty
  have fsd : ∀ e, fz (.tup (sec.map fun n => dn n)) e = some (.tup (sec.map fun n => dn n), e) := fun e => rfl
  have hpf : ∀ (s : PS) e, fz s.d e = some (s.d, e) := fun s e => fz_ty (ty_pd (pd_psd s).1)
  have l0 : (0 : Nat) ≤ lim := Nat.zero_le _
  refine ⟨st ++ [.ins nRun (runF dm dx ⟨firstP ⟨sec, []⟩ x, k, []⟩ (st.length + 1)), .obj (.lst [])], ?_, ⟨?_, ?_, by omega⟩⟩
  · unfold fn_Run___init g_Run___init
    rw [fnOf_at]
    unfold runF
    simp only
    generalize sec.map (fun n => dn n) = SD at *
    generalize firstP ⟨sec, []⟩ x = P0 at *
    simp [List.replicate, hd, hd2, fsd, a1, a2, hfs, putFD, hpf, l0, lim, ptAll, pt, hasK]
  · rw [List.getElem?_append_right (Nat.le_refl _), Nat.sub_self]; rfl
  · rw [List.getElem?_append_right (by omega)]
    have : st.length + 1 - st.length = 1 := by omega
    rw [this]
    rfl
theorem sp_run_tree {sec : List Nat} {t : Tr} (hs : ∃ q : Nat → Bool, sec = (List.range 4).filter q) (hm : MRep m dm) (hx : SRepr x dx) (ho : t.ok) (hd : t.depth < 4) {k : Int} (hk : 0 ≤ k ∧ k ≤ 900) (st : Sto) :
    ∃ st', fn_run_tree [t.d, .tup (sec.map fun n => dn n), dm, dx, .int k] st = .ok (.val (if (mkT m x t ⟨firstP ⟨sec, []⟩ x, k, []⟩).1 then .tup [.tup ((mkT m x t ⟨firstP ⟨sec, []⟩ x, k, []⟩).2.ps.regs.map .int), .tup ((mkT m x t ⟨firstP ⟨sec, []⟩ x, k, []⟩).2.ps.slots.map .int), .tup ((mkT m x t ⟨firstP ⟨sec, []⟩ x, k, []⟩).2.ps.counts.map fun n => dn n), .lst ((mkT m x t ⟨firstP ⟨sec, []⟩ x, k, []⟩).2.seen.map Seen.d)] else .non)) st' := by
  obtain ⟨st1, h1, r1⟩ := sp_run_init hs hm hx k st
  obtain ⟨st2, h2, r2⟩ := sp_make_n hm hx 4 t _ st1 hd ho ⟨first_fine _ _, by simp; omega, hk.1⟩ r1
  have h2' : fn_Run_make [.ref st.length, t.d] st1 = _ := h2
  refine ⟨st2, ?_⟩
  generalize mkT m x t ⟨firstP ⟨sec, []⟩ x, k, []⟩ = q at *
  have hdm := fun e => fz_ty (e := e) hm.ty
  have hdx := fun e => fz_ty (e := e) hx.ty
  have fsd : ∀ e, fz (.tup (sec.map fun n => dn n)) e = some (.tup (sec.map fun n => dn n), e) := fun e => rfl
  have ft := fun e => fz_ty (e := e) (tr_ty t)
  have i0 := r1.ins (m := "make") (by decide)
  have hst := fun e => r2.state (e := e)
  have hsf := fun e => r2.seenF (e := e)
  have hli := fun e => gList_obj (e := e) r2.seen
  have f1 : ∀ (l : List Int) e, fz (.tup (l.map .int)) e = some (.tup (l.map .int), e) := fun _ _ => rfl
  have f2 : ∀ (l : List Nat) e, fz (.tup (l.map fun n => dn n)) e = some (.tup (l.map fun n => dn n), e) := fun _ _ => rfl
  have f3 : ∀ (l : List Seen) e, fz (.lst (l.map Seen.d)) e = some (.lst (l.map Seen.d), e) := fun _ _ => rfl
  unfold fn_run_tree g_run_tree
  rw [fnOf_at]
  cases hq : q.1 with
  | false =>
    rw [hq] at h2'
    simp [List.replicate, hdm, hdx, fsd, ft, h1, i0, h2']
  | true =>
    rw [hq] at h2'
    simp [List.replicate, hdm, hdx, fsd, ft, h1, i0, h2', hst, hsf, hli, f1, f2, f3, lim]
end
end DL
end
section
set_option Elab.async false
set_option linter.all false
set_option maxRecDepth 100000
set_option maxHeartbeats 4000000
set_option autoImplicit false
/-! TY: the lowered program's run. -/
namespace DL
open PySem L2
section
variable {dm dx : D} {st : Sto} {e : Sl} {g : Prog} {m : Mean} {x : Secr}
theorem itT_last : ∀ (n : Nat) (s q' : PS) (l' : List (Nat × Seen)), itT g m x (n + 1) s = some (q', l') → ∃ q l p y, itT g m x n s = some (q, l) ∧ stepP g m x q = some (q', p, y) ∧ l' = l ++ [(p, y)]
  | 0, s, q', l', h => by
    unfold itT at h
    cases hs : stepP g m x s with
    | none => rw [hs] at h; cases h
    | some z =>
      obtain ⟨s', p, y⟩ := z
      rw [hs] at h
      simp only [itT, Option.map_some, Option.some.injEq, Prod.mk.injEq] at h
      obtain ⟨rfl, rfl⟩ := h
      exact ⟨s, [], p, y, rfl, hs, rfl⟩
  | n + 1, s, q', l', h => by
    unfold itT at h
    cases hs : stepP g m x s with
    | none => rw [hs] at h; cases h
    | some z =>
      obtain ⟨s', p, y⟩ := z
      rw [hs] at h
      simp only at h
      cases hr : itT g m x (n + 1) s' with
      | none => rw [hr] at h; cases h
      | some w =>
        obtain ⟨w1, w2⟩ := w
        rw [hr] at h
        simp only [Option.map_some, Option.some.injEq, Prod.mk.injEq] at h
        obtain ⟨rfl, rfl⟩ := h
        obtain ⟨q, l, p', y', h1, h2, h3⟩ := itT_last n s' _ _ hr
        refine ⟨q, (p, y) :: l, p', y', ?_, h2, by rw [h3]; rfl⟩
        unfold itT
        rw [hs]
        simp only [h1, Option.map_some]
theorem itT_pre : ∀ (k n : Nat) (s q : PS) (l : List (Nat × Seen)), k < n → itT g m x n s = some (q, l) → ∃ z l', itT g m x k s = some (z, l') ∧ z.place ≠ none := fun k n => by
  induction n with
  | zero => intro s q l h _; exact absurd h (Nat.not_lt_zero _)
  | succ n ih =>
    intro s q l h hi
    obtain ⟨z, l1, p, y, h1, h2, _⟩ := itT_last n s q l hi
    rcases Nat.lt_succ_iff_lt_or_eq.mp h with hk | hk
    · exact ih s z l1 hk h1
    · subst hk
      refine ⟨z, l1, h1, fun hz => ?_⟩
      unfold stepP at h2
      rw [hz] at h2
      cases h2
theorem runP_of : ∀ (n : Nat) (q : PS) (l : List (Nat × Seen)), itT g m x n (firstP g x) = some (q, l) → runP g m x n = (q, l.map fun z => seenD z.1 z.2)
  | 0, q, l, h => by cases h; rfl
  | n + 1, q, l, h => by
    obtain ⟨z, l1, p, y, h1, h2, h3⟩ := itT_last n _ _ _ h
    have ih := runP_of n z l1 h1
    unfold runP
    rw [ih]
    simp only [h2, h3, List.map_append, List.map_cons, List.map_nil]
/-- a run that comes to its end -/
theorem run_made {sec : List Nat} {t : Tr} (ho : t.ok) {s' : RS} (hb : mkT m x t ⟨firstP ⟨sec, []⟩ x, 60, []⟩ = (true, s')) (hi : s'.Inv) :
    ∃ l, runP (lowP sec t) m x 200 = ({ s'.ps with place := none }, l.map fun z => seenD z.1 z.2) ∧ s'.seen = visT l := by
  have hres := mkT_res (g := lowP sec t) (m := m) (x := x) t 0 ⟨firstP ⟨sec, []⟩ x, 60, []⟩ (lowP_has sec t) ho
  unfold Res at hres
  rw [hb] at hres
  simp only [if_true, Nat.zero_add] at hres
  obtain ⟨n, l, h1, h2, h3, h4⟩ := hres.ex
  have hend : itT (lowP sec t) m x 1 (atP s'.ps t.len) = some ({ s'.ps with place := none }, [(t.len, .no)]) := by
    unfold itT stepP
    simp only [atP, lowP_end]
    rfl
  have hall := itT_trans h1 hend
  have hfirst : atP (firstP ⟨sec, []⟩ x) 0 = firstP (lowP sec t) x := rfl
  simp only at h1 hall h4
  rw [hfirst] at hall
  have hr := runP_of (n + 1) _ _ hall
  have hpos := hi.pos
  have hn : n ≤ 120 := by omega
  have hst := runP_stay (g := lowP sec t) m x (n := n + 1) (by rw [hr]) (200 - (n + 1))
  rw [show n + 1 + (200 - (n + 1)) = 200 by omega, hr] at hst
  refine ⟨_, hst, ?_⟩
  rw [visT_append, visT_one, h2]
  simp [vis]
theorem run_cut {sec : List Nat} {t : Tr} (ho : t.ok) {s' : RS} (hb : mkT m x t ⟨firstP ⟨sec, []⟩ x, 60, []⟩ = (false, s')) : (runP (lowP sec t) m x 60).1.place ≠ none := by
  have hres := mkT_res (g := lowP sec t) (m := m) (x := x) t 0 ⟨firstP ⟨sec, []⟩ x, 60, []⟩ (lowP_has sec t) ho
  unfold Res at hres
  rw [hb] at hres
  simp only [Bool.false_eq_true, if_false] at hres
  obtain ⟨n, l, y, q, h1, h2⟩ := hres.ex
  have hfirst : atP (firstP ⟨sec, []⟩ x) 0 = firstP (lowP sec t) x := rfl
  simp only at h1 h2
  rw [hfirst] at h1
  rcases Nat.lt_or_ge 60 n with h | h
  · obtain ⟨z, l', h3, h4⟩ := itT_pre 60 n _ _ _ h h1
    rw [runP_of 60 z l' h3]
    exact h4
  · have : n = 60 := by omega
    subst this
    rw [runP_of 60 _ _ h1]
    simp [atP]
theorem vis_view (l : List (Nat × Seen)) : (((l.map fun z => seenD z.1 z.2).filter fun d => match d with | .tup [_, v] => !isN v | _ => false).map fun d => match d with | .tup [_, v] => v | d => d) = (visT l).map Seen.d := by
  induction l with
  | nil => rfl
  | cons z l ih =>
    obtain ⟨p, y⟩ := z
    have hn : isN y.d = decide (y = .no) := by cases y <;> rfl
    simp only [List.map_cons, List.filter_cons, seenD, visT, hn]
    by_cases h : y = .no
    · simp only [h, decide_true, Bool.not_true, Bool.false_eq_true, if_false]
      simpa [seenD, visT] using ih
    · simp only [h, decide_false, Bool.not_false, if_true, List.map_cons]
      congr 1
end
end DL
end
section
set_option Elab.async false
set_option linter.all false
set_option maxRecDepth 100000
set_option maxHeartbeats 4000000
set_option autoImplicit false
/-! TT: the drawn tree. -/
namespace DL
open PySem L2
def Tr.app : Tr → Tr → Tr
  | .nil, b => b
  | .one r k, b => .one r (k.app b)
  | .ifp a A t f k, b => .ifp a A t f (k.app b)
  | .loop a A t k, b => .loop a A t (k.app b)
theorem Tr.app_ds : ∀ (a b : Tr), (a.app b).ds = a.ds ++ b.ds
  | .nil, b => rfl
  | .one r k, b => by simp [Tr.app, Tr.ds, Tr.app_ds k b]
  | .ifp a A t f k, b => by simp [Tr.app, Tr.ds, Tr.app_ds k b]
  | .loop a A t k, b => by simp [Tr.app, Tr.ds, Tr.app_ds k b]
theorem Tr.app_ok : ∀ (a b : Tr), a.ok → b.ok → (a.app b).ok
  | .nil, b, _, h => h
  | .one r k, b, h, h' => ⟨h.1, h.2.1, Tr.app_ok k b h.2.2 h'⟩
  | .ifp a A t f k, b, h, h' => ⟨h.1, h.2.1, h.2.2.1, h.2.2.2.1, Tr.app_ok k b h.2.2.2.2 h'⟩
  | .loop a A t k, b, h, h' => ⟨h.1, h.2.1, h.2.2.1, Tr.app_ok k b h.2.2.2 h'⟩
theorem Tr.app_len : ∀ (a b : Tr), (a.app b).len = a.len + b.len
  | .nil, b => by simp [Tr.app, Tr.len]
  | .one r k, b => by simp only [Tr.app, Tr.len, Tr.app_len k b]; omega
  | .ifp a A t f k, b => by simp only [Tr.app, Tr.len, Tr.app_len k b]; omega
  | .loop a A t k, b => by simp only [Tr.app, Tr.len, Tr.app_len k b]; omega
theorem Tr.app_depth : ∀ (a b : Tr), (a.app b).depth = max a.depth b.depth
  | .nil, b => by simp [Tr.app, Tr.depth]
  | .one r k, b => by simp only [Tr.app, Tr.depth, Tr.app_depth k b]
  | .ifp a A t f k, b => by simp only [Tr.app, Tr.depth, Tr.app_depth k b]; omega
  | .loop a A t k, b => by simp only [Tr.app, Tr.depth, Tr.app_depth k b]; omega
section
variable {st : Sto} {e : Sl}
theorem sp_law_do {n p : Int} (st : Sto) : ∃ r : Row, fn_law_do [.int n, .int p] st = .ok (.val (.tup [sx "do", r.d])) st ∧ r.isDo = true ∧ r.ok 1 := by
  obtain ⟨a1, h1⟩ : ∃ a : Nat, p % 4 = (a : Int) := ⟨(p % 4).toNat, by omega⟩
  obtain ⟨a2, h2⟩ : ∃ a : Nat, p / 4 % 4 = (a : Int) := ⟨(p / 4 % 4).toNat, by omega⟩
  obtain ⟨a3, h3⟩ : ∃ a : Nat, p / 16 % 4 = (a : Int) := ⟨(p / 16 % 4).toNat, by omega⟩
  obtain ⟨a4, h4⟩ : ∃ a : Nat, p / 4 % 2 = (a : Int) := ⟨(p / 4 % 2).toNat, by omega⟩
  obtain ⟨a5, h5⟩ : ∃ a : Nat, p / 8 % 4 = (a : Int) := ⟨(p / 8 % 4).toNat, by omega⟩
  obtain ⟨a6, h6⟩ : ∃ a : Nat, p % 2 = (a : Int) := ⟨(p % 2).toNat, by omega⟩
  obtain ⟨a7, h7⟩ : ∃ a : Nat, p / 2 % 4 = (a : Int) := ⟨(p / 2 % 4).toNat, by omega⟩
  have hn : n % 8 = 0 ∨ n % 8 = 1 ∨ n % 8 = 2 ∨ n % 8 = 3 ∨ n % 8 = 4 ∨ n % 8 = 5 ∨ n % 8 = 6 ∨ n % 8 = 7 := by omega
  have key : ∀ (k : String) (r : Row), (∀ e, gIx (.lst [sx "ask", sx "mix", sx "load", sx "mask", sx "put", sx "get", sx "fence", sx "load"]) (.int (n % 8)) e st = .ok (sx k) e st) → (k, r) ∈ [("ask", Row.ask a1), ("mix", .mix a1 a2 a3), ("load", .load a1 a4 a5), ("mask", .mask a1 a4 a5), ("put", .put a6 a7), ("get", .get a1 a4), ("fence", .fence)] → fn_law_do [.int n, .int p] st = .ok (.val (.tup [sx "do", r.d])) st := fun k r hk hr => by
    unfold fn_law_do g_law_do
    rw [fnOf_at]
    simp only [List.mem_cons, List.not_mem_nil, or_false, Prod.mk.injEq] at hr
    rcases hr with ⟨rfl, rfl⟩ | ⟨rfl, rfl⟩ | ⟨rfl, rfl⟩ | ⟨rfl, rfl⟩ | ⟨rfl, rfl⟩ | ⟨rfl, rfl⟩ | ⟨rfl, rfl⟩ <;>
      simp [List.replicate, gMod_at, gDiv_at, hk, h1, h2, h3, h4, h5, h6, h7, lim, gIn, flatD, eqF, bxor, Row.d]
  rcases hn with h | h | h | h | h | h | h | h <;> rw [h] at key
  · exact ⟨_, key "ask" (.ask a1) (fun e => ix_lst rfl) (by simp), rfl, by show _ < _; omega⟩
  · exact ⟨_, key "mix" (.mix a1 a2 a3) (fun e => ix_lst rfl) (by simp), rfl, ⟨by omega, by omega, by omega⟩⟩
  · exact ⟨_, key "load" (.load a1 a4 a5) (fun e => ix_lst rfl) (by simp), rfl, ⟨by omega, by omega, by omega⟩⟩
  · exact ⟨_, key "mask" (.mask a1 a4 a5) (fun e => ix_lst rfl) (by simp), rfl, ⟨by omega, by omega, by omega⟩⟩
  · exact ⟨_, key "put" (.put a6 a7) (fun e => ix_lst rfl) (by simp), rfl, ⟨by omega, by omega⟩⟩
  · exact ⟨_, key "get" (.get a1 a4) (fun e => ix_lst rfl) (by simp), rfl, ⟨by omega, by omega⟩⟩
  · exact ⟨_, key "fence" .fence (fun e => ix_lst rfl) (by simp), rfl, trivial⟩
  · exact ⟨_, key "load" (.load a1 a4 a5) (fun e => ix_lst rfl) (by simp), rfl, ⟨by omega, by omega, by omega⟩⟩
abbrev envT (t : List Int) (p : Int) (L : Nat) (tr : Tr) (y4 y5 y6 : Option SV) : Sl := [some (.val (.lst (t.map .int))), some (.val (.int p)), some (.val (.int (L : Int))), some (.own (.lst tr.ds)), y4, y5, y6]
theorem turn_tree {R : Fn} {t : List Int} (ht : Tape t) {p : Int} (hp : 0 ≤ p) {L c : Nat} (hL : L ≤ 2) (hR : L < 2 → ∀ p : Int, 0 ≤ p → ∃ b : Tr, R [.lst (t.map .int), .int p, .int ((L : Int) + 1)] st = .ok (.val b.d) st ∧ b.ok ∧ b.depth + 1 ≤ 2 - L ∧ b.len ≤ c) {tr : Tr} (hl : tr.len ≤ 1000) {k : Nat} (hk : k < 10) (y5 y6 : Option SV) :
    ∃ (q : Tr) (z5 z6 : Option SV), b_law_tree_1 R (envT t p L tr (some (.val (.int k))) y5 y6) st = .nx (envT t p L (tr.app q) (some (.val (.int k))) z5 z6) st ∧ q.ok ∧ q.depth ≤ 2 - L ∧ q.len ≤ 2 * c + 2 := by
  have a1 := sp_at (t := t) (k := p + 2 * (k : Int) + 1) (by omega) st
  have a2 := sp_at (t := t) (k := p + 2 * (k : Int) + 2) (by omega) st
  have b1 := tat_bd ht (p + 2 * (k : Int) + 1)
  have b2 := tat_bd ht (p + 2 * (k : Int) + 2)
  generalize tat t (p + 2 * (k : Int) + 1) = n at *
  generalize tat t (p + 2 * (k : Int) + 2) = w at *
  have hmul : ∀ e, gMul (.int 2) (.int (k : Int)) e st = .ok (.int (2 * (k : Int))) e st := fun e => gMul_r (by omega) (by omega)
  have hdl := tr.ds_len
  have hlen : tr.ds.length < 16777216 := by omega
  obtain ⟨u1, h1⟩ : ∃ a : Nat, w % 4 = (a : Int) := ⟨(w % 4).toNat, by omega⟩
  obtain ⟨u2, h2⟩ : ∃ a : Nat, w / 4 % 2 = (a : Int) := ⟨(w / 4 % 2).toNat, by omega⟩
  have fsn : ∀ l e, fz (.tup l) e = some (.tup l, e) := fun _ _ => rfl
  by_cases c1 : L < 2 ∧ n % 3 = 0
  · obtain ⟨x, hx1, hx2, hx3, hx4⟩ := hR c1.1 (p + 9 + (k : Int)) (by omega)
    obtain ⟨y, hy1, hy2, hy3, hy4⟩ := hR c1.1 (p + 14 + (k : Int)) (by omega)
    have hLL : (L : Int) < 2 := by omega
    refine ⟨.ifp u1 u2 x y .nil, some (.val (.int n)), some (.val (.int w)), ?_, ⟨by omega, by omega, hx2, hy2, trivial⟩, by simp only [Tr.depth]; omega, by simp only [Tr.len]; omega⟩
    unfold b_law_tree_1
    simp only [envT]
    rw [Tr.app_ds]
    simp only [Tr.ds]
    generalize tr.ds = TD at *
    simp [hmul, a1, a2, gMod_at, gDiv_at, hLL, c1.2, h1, h2, hx1, hy1, sApp, hlen, lim, fsn]
  · by_cases c2 : L < 2 ∧ n % 3 = 1
    · obtain ⟨x, hx1, hx2, hx3, hx4⟩ := hR c2.1 (p + 11 + (k : Int)) (by omega)
      have hLL : (L : Int) < 2 := by omega
      refine ⟨.loop u1 u2 x .nil, some (.val (.int n)), some (.val (.int w)), ?_, ⟨by omega, by omega, hx2, trivial⟩, by simp only [Tr.depth]; omega, by simp only [Tr.len]; omega⟩
      unfold b_law_tree_1
      simp only [envT]
      rw [Tr.app_ds]
      simp only [Tr.ds]
      generalize tr.ds = TD at *
      simp [hmul, a1, a2, gMod_at, gDiv_at, hLL, c2.2, h1, h2, hx1, sApp, hlen, lim, fsn]
    · obtain ⟨r, hr1, hr2, hr3⟩ := sp_law_do (n := n / 3) (p := w) st
      refine ⟨.one r .nil, some (.val (.int n)), some (.val (.int w)), ?_, ⟨hr2, hr3, trivial⟩, by simp only [Tr.depth]; omega, by simp only [Tr.len]; omega⟩
      unfold b_law_tree_1
      simp only [envT]
      rw [Tr.app_ds]
      simp only [Tr.ds]
      generalize tr.ds = TD at *
      generalize r.d = RD at *
      by_cases hL2 : L < 2
      · have hLL : (L : Int) < 2 := by omega
        have n0 : ¬ n % 3 = 0 := fun h => c1 ⟨hL2, h⟩
        have n1 : ¬ n % 3 = 1 := fun h => c2 ⟨hL2, h⟩
        simp [hmul, a1, a2, gMod_at, gDiv_at, hLL, n0, n1, hr1, sApp, hlen, lim, fsn]
      · have hLL : ¬ (L : Int) < 2 := by omega
        simp [hmul, a1, a2, gMod_at, gDiv_at, hLL, hr1, sApp, hlen, lim, fsn]
theorem tree_level {R : Fn} {t : List Int} (ht : Tape t) {p : Int} (hp : 0 ≤ p) {L c N : Nat} (hL : L ≤ 2) (hc : c ≤ 20) (hN : N ≤ 4) (hNL : ∀ e, gIx (.lst [.int 4, .int 3, .int 2]) (.int (L : Int)) e st = .ok (.int (N : Int)) e st) (hN0 : 0 < N)
    (hR : L < 2 → ∀ p : Int, 0 ≤ p → ∃ b : Tr, R [.lst (t.map .int), .int p, .int ((L : Int) + 1)] st = .ok (.val b.d) st ∧ b.ok ∧ b.depth + 1 ≤ 2 - L ∧ b.len ≤ c) :
    ∃ b : Tr, fnr_law_tree R [.lst (t.map .int), .int p, .int (L : Int)] st = .ok (.val b.d) st ∧ b.ok ∧ b.depth ≤ 2 - L ∧ b.len ≤ (N - 1) * (2 * c + 2) := by
  have a0 := sp_at (t := t) (k := p) hp st
  have b0 := tat_bd ht p
  have hNi : (0 : Int) < (N : Int) := by omega
  obtain ⟨n, hn, hnN⟩ : ∃ n : Nat, tat t p % (N : Int) = (n : Int) ∧ n < N := by
    have h1 := Int.emod_nonneg (tat t p) (b := (N : Int)) (by omega)
    have h2 := Int.emod_lt_of_pos (tat t p) hNi
    exact ⟨(tat t p % (N : Int)).toNat, by omega, by omega⟩
  have hmod : ∀ e, gI kMod (.int (tat t p)) (.int (N : Int)) e st = .ok (.int (n : Int)) e st := fun e => by rw [gMod_at hNi, hn]
  obtain ⟨e', h1, b, y4, y5, y6, he, hb1, hb2, hb3⟩ := sFor_rng (i := 4) (g := b_law_tree_1 R) (f := eBin (gI kMod) (eCall 2 fn_law_at (aCons (eVar 0) (aCons (eVar 1) aNil))) (eBin gIx (eLst (aCons (eK (.int 4)) (aCons (eK (.int 3)) (aCons (eK (.int 2)) aNil)))) (eVar 2))) (s := st) (n := n) (e := envT t p L .nil none none none)
    (fun k e => ∃ (b : Tr) (y4 y5 y6 : Option SV), e = envT t p L b y4 y5 y6 ∧ b.ok ∧ b.depth ≤ 2 - L ∧ b.len ≤ k * (2 * c + 2))
    (by simp [envT, a0, hNL, hmod, lim]) (by unfold lim; omega) ⟨.nil, none, none, none, rfl, trivial, Nat.zero_le _, by simp [Tr.len]⟩ (by
      intro k e hk ⟨b, y4, y5, y6, he, hb1, hb2, hb3⟩
      subst he
      have hkk : k * (2 * c + 2) ≤ 4 * 42 := Nat.mul_le_mul (by omega) (by omega)
      obtain ⟨q, z5, z6, h2, h3, h4, h5⟩ := turn_tree ht hp hL hR (tr := b) (by omega) (k := k) (by omega) y5 y6
      refine ⟨_, .inl h2, b.app q, _, z5, z6, rfl, Tr.app_ok b q hb1 h3, by rw [Tr.app_depth]; omega, ?_⟩
      rw [Tr.app_len, Nat.succ_mul]
      omega)
  subst he
  refine ⟨b, ?_, hb1, hb2, Nat.le_trans hb3 (Nat.mul_le_mul_right _ (by omega))⟩
  unfold fnr_law_tree g_law_tree
  rw [fnOf_at]
  simp only [envT, Tr.ds] at h1
  have hret : ∀ e, retv (.tup b.ds) e st = .rt (.val (.tup b.ds)) st := fun _ => rfl
  generalize sFor (iRange1 (eBin (gI kMod) (eCall 2 fn_law_at (aCons (eVar 0) (aCons (eVar 1) aNil))) (eBin gIx (eLst (aCons (eK (.int 4)) (aCons (eK (.int 3)) (aCons (eK (.int 2)) aNil)))) (eVar 2)))) (bName 4) (b_law_tree_1 R) = LP at *
  simp [List.replicate, h1, lim, sOwn, hret]
theorem sp_law_tree {t : List Int} (ht : Tape t) (st : Sto) : ∃ b : Tr, fn_law_tree [.lst (t.map .int), .int 4, .int 0] st = .ok (.val b.d) st ∧ b.ok ∧ b.depth ≤ 2 ∧ b.len ≤ 80 := by
  have l2 : ∀ p : Int, 0 ≤ p → ∃ b : Tr, rec_law_tree 2 [.lst (t.map .int), .int p, .int 2] st = .ok (.val b.d) st ∧ b.ok ∧ b.depth ≤ 0 ∧ b.len ≤ 2 := fun p hp => by
    obtain ⟨b, h1, h2, h3, h4⟩ := tree_level (st := st) (R := rec_law_tree 1) (L := 2) (c := 0) (N := 2) ht hp (by omega) (by omega) (by omega) (fun e => ix_lst rfl) (by omega) (fun h => absurd h (by omega))
    exact ⟨b, h1, h2, by omega, by omega⟩
  have l1 : ∀ p : Int, 0 ≤ p → ∃ b : Tr, rec_law_tree 3 [.lst (t.map .int), .int p, .int 1] st = .ok (.val b.d) st ∧ b.ok ∧ b.depth ≤ 1 ∧ b.len ≤ 12 := fun p hp => by
    obtain ⟨b, h1, h2, h3, h4⟩ := tree_level (st := st) (R := rec_law_tree 2) (L := 1) (c := 2) (N := 3) ht hp (by omega) (by omega) (by omega) (fun e => ix_lst rfl) (by omega) (fun _ p hp => by
      obtain ⟨b, k1, k2, k3, k4⟩ := l2 p hp
      exact ⟨b, k1, k2, by omega, k4⟩)
    exact ⟨b, h1, h2, by omega, by omega⟩
  obtain ⟨b, h1, h2, h3, h4⟩ := tree_level (st := st) (R := rec_law_tree 3) (L := 0) (c := 12) (N := 4) (p := 4) ht (by decide) (by omega) (by omega) (by omega) (fun e => ix_lst rfl) (by omega) (fun _ p hp => by
      obtain ⟨b, k1, k2, k3, k4⟩ := l1 p hp
      exact ⟨b, k1, k2, by omega, k4⟩)
  exact ⟨b, h1, h2, by omega, by omega⟩
end
end DL
end
section
set_option Elab.async false
set_option linter.all false
set_option maxRecDepth 100000
set_option maxHeartbeats 4000000
set_option autoImplicit false
/-! TB: trees that are none. -/
namespace DL
open PySem L2
section
variable {st : Sto} {e : Sl}
theorem tree_bad {R : Fn} {l : List D} {x : D} (hl : l.length ≤ 900) (hty : ∀ d ∈ l, Ty d = true) (h : ∀ d ∈ l, R [d] st = .ok (.val (.bl true)) st) (tx : Ty x = true) (hx : R [x] st = .ok (.val (.bl false)) st) : fnr_is_tree R [.tup (l ++ [x])] st = .ok (.val (.bl false)) st := by
  classical
  have := tree_of (st := st) (R := R) (l := l ++ [x]) (fun d => decide (R [d] st = .ok (.val (.bl true)) st)) (by simp; omega) (fun d hd => by
    rcases List.mem_append.mp hd with hd | hd
    · exact hty d hd
    · rw [List.mem_singleton.mp hd]; exact tx) (fun d hd => by
    rcases List.mem_append.mp hd with hd | hd
    · rw [h d hd]; simp
    · rw [List.mem_singleton.mp hd, hx]; simp)
  rw [this]
  have h2 : decide (R [x] st = .ok (.val (.bl true)) st) = false := by rw [hx]; simp
  rw [List.all_append]
  simp [h2]
theorem tree_no {R : Fn} {x : D} {t : String} (h : tyName x = some t) (ht : t ≠ "tuple" ∧ t ≠ "bool") (st : Sto) : fnr_is_tree R [x] st = .ok (.val (.bl false)) st := by
  unfold fnr_is_tree g_is_tree
  rw [fnOf_at]
  simp [List.replicate, isTy, isi_at h, ht]
theorem part_no {R : Fn} {x : D} {t : String} (h : tyName x = some t) (ht : t ≠ "tuple" ∧ t ≠ "bool") (st : Sto) : fnr_is_part R [x] st = .ok (.val (.bl false)) st := by
  unfold fnr_is_part g_is_part
  rw [fnOf_at]
  simp [List.replicate, isTy, isi_at h, ht]
def bads : List D := [.tup [sx "do", .tup [sx "test", .int 0, .int 0, .int 0]], .tup [sx "do", .tup [sx "jump", .int 0]], .tup [sx "do", .tup [sx "ask", .int 4]], .tup [sx "if", .int 0, .int 0, .tup []], .tup [sx "loop", .int 4, .int 0, .tup []], .tup [sx "loop", .int 0, .int 2, .tup []],
  .tup [sx "loop", .int 0, .int 0, .lst []], .tup [sx "do"], .tup [sx "end"], .tup [], sx "do", .tup [sx "if", .int 0, .int 0, .tup [], .tup [sx "do", .tup [sx "fence"]]], .tup [sx "do", .lst [sx "fence"]], .int 5]
theorem part_bad (st : Sto) : ∀ x ∈ bads, Ty x = true ∧ fnr_is_part (rec_is_tree 3) [x] st = .ok (.val (.bl false)) st := by
  intro x hx
  have n0 := sp_isnum (d := .int 0) rfl 4 st
  have n1 := sp_isnum (d := .int 0) rfl 2 st
  have n2 := sp_isnum (d := .int 4) rfl 4 st
  have n3 := sp_isnum (d := .int 2) rfl 2 st
  have e0 : isNum (.int 0) 4 = true := rfl
  have e1 : isNum (.int 0) 2 = true := rfl
  have e2 : isNum (.int 4) 4 = false := rfl
  have e3 : isNum (.int 2) 2 = false := rfl
  rw [e0] at n0
  rw [e1] at n1
  rw [e2] at n2
  rw [e3] at n3
  have ix0 : ∀ (a : D) l e, gIx (.tup (a :: l)) (.int 0) e st = .ok a e st := fun a l e => ix_tup (by rw [atI_of (by decide) (by rw [List.length_cons]; omega)]; rfl)
  have ix1 : ∀ (a b : D) l e, gIx (.tup (a :: b :: l)) (.int 1) e st = .ok b e st := fun a b l e => ix_tup (by rw [atI_of (by decide) (by simp only [List.length_cons]; omega)]; rfl)
  have ix2 : ∀ (a b c : D) l e, gIx (.tup (a :: b :: c :: l)) (.int 2) e st = .ok c e st := fun a b c l e => ix_tup (by rw [atI_of (by decide) (by simp only [List.length_cons]; omega)]; rfl)
  simp only [bads, List.mem_cons, List.not_mem_nil, or_false] at hx
  rcases hx with rfl | rfl | rfl | rfl | rfl | rfl | rfl | rfl | rfl | rfl | rfl | rfl | rfl | rfl <;> refine ⟨rfl, ?_⟩
  · have h := isrow_good (m := 1) (n := 1) (Int.le_refl _) (.test (a := 0) (b := 0) (c := 0) (by decide) (by decide) (by decide) (by decide) (by decide) (by decide)) st
    have f : ∀ e, fz (.tup [sx "test", .int 0, .int 0, .int 0]) e = some (.tup [sx "test", .int 0, .int 0, .int 0], e) := fun _ => rfl
    unfold fnr_is_part g_is_part
    rw [fnOf_at]
    simp [List.replicate, isTy, ix0, ix1, h, f, gInC, flatD, eqF, bxor]
  · have h := isrow_good (m := 1) (n := 1) (Int.le_refl _) (.jump (a := 0) (by decide) (by decide)) st
    have f : ∀ e, fz (.tup [sx "jump", .int 0]) e = some (.tup [sx "jump", .int 0], e) := fun _ => rfl
    unfold fnr_is_part g_is_part
    rw [fnOf_at]
    simp [List.replicate, isTy, ix0, ix1, h, f, gInC, flatD, eqF, bxor]
  · have h : fn_is_row [.tup [sx "ask", .int 4], .int 1] st = .ok (.val (.bl false)) st := isrow_at "ask" "r" [114] [.int 4] 1 false st (by simp) (by decide +kernel) rfl (by simp [Ty, tyName]) (by decide) (by simp [most_r, isNum])
    have f : ∀ e, fz (.tup [sx "ask", .int 4]) e = some (.tup [sx "ask", .int 4], e) := fun _ => rfl
    unfold fnr_is_part g_is_part
    rw [fnOf_at]
    simp [List.replicate, isTy, ix0, ix1, h, f]
  · unfold fnr_is_part g_is_part
    rw [fnOf_at]
    simp [List.replicate, isTy, ix0]
  · have hcut : cutD [sx "loop", .int 4, .int 0, .tup []] (some 3) none = [.tup []] := rfl
    unfold fnr_is_part g_is_part
    rw [fnOf_at]
    simp [List.replicate, isTy, ix0, ix1, ix2, eSl, ePart, gCut, hcut, n2, n1, lim]
  · have hcut : cutD [sx "loop", .int 0, .int 2, .tup []] (some 3) none = [.tup []] := rfl
    unfold fnr_is_part g_is_part
    rw [fnOf_at]
    simp [List.replicate, isTy, ix0, ix1, ix2, eSl, ePart, gCut, hcut, n0, n3, lim]
  · exact part_loop (a := 0) (A := 0) (by decide) (by decide) rfl (tree_no (x := .lst []) rfl (by decide) st)
  · unfold fnr_is_part g_is_part
    rw [fnOf_at]
    simp [List.replicate, isTy, ix0]
  · unfold fnr_is_part g_is_part
    rw [fnOf_at]
    simp [List.replicate, isTy, ix0]
  · unfold fnr_is_part g_is_part
    rw [fnOf_at]
    simp [List.replicate, isTy]
  · exact part_no (x := sx "do") rfl (by decide) st
  · have h1 : rec_is_tree 3 [.tup []] st = .ok (.val (.bl true)) st := sp_tree_n st 3 .nil trivial (by decide) (by decide)
    have h2 : rec_is_tree 3 [.tup [sx "do", .tup [sx "fence"]]] st = .ok (.val (.bl false)) st := by
      show fnr_is_tree (fnr_is_part (rec_is_tree 2)) [.tup [sx "do", .tup [sx "fence"]]] st = _
      have p1 : fnr_is_part (rec_is_tree 2) [sx "do"] st = .ok (.val (.bl false)) st := part_no rfl (by decide) st
      have p2 : fnr_is_part (rec_is_tree 2) [.tup [sx "fence"]] st = .ok (.val (.bl false)) st := by
        unfold fnr_is_part g_is_part
        rw [fnOf_at]
        simp [List.replicate, isTy, ix0]
      have := tree_of (st := st) (R := fnr_is_part (rec_is_tree 2)) (l := [sx "do", .tup [sx "fence"]]) (fun _ => false) (by decide) (by simp [Ty, tyName]) (by
        intro d hd
        simp only [List.mem_cons, List.not_mem_nil, or_false] at hd
        rcases hd with rfl | rfl
        · exact p1
        · exact p2)
      rw [this]; rfl
    exact part_if (a := 0) (A := 0) (by decide) (by decide) rfl rfl h1 h2
  · have h := isrow_no (d := .lst [sx "fence"]) rfl (by decide) 1 st
    have f : ∀ e, fz (.lst [sx "fence"]) e = some (.lst [sx "fence"], e) := fun _ => rfl
    unfold fnr_is_part g_is_part
    rw [fnOf_at]
    simp [List.replicate, isTy, ix0, ix1, h, f]
  · exact part_no (x := .int 5) rfl (by decide) st
theorem sp_law_bent {t : Tr} (hl : t.len ≤ 900) {n : Int} (hn : 0 ≤ n) (st : Sto) : ∃ x ∈ bads, fn_law_bent [t.d, .int n] st = .ok (.val (.tup (t.ds ++ [x]))) st := by
  have h : n % 14 = 0 ∨ n % 14 = 1 ∨ n % 14 = 2 ∨ n % 14 = 3 ∨ n % 14 = 4 ∨ n % 14 = 5 ∨ n % 14 = 6 ∨ n % 14 = 7 ∨ n % 14 = 8 ∨ n % 14 = 9 ∨ n % 14 = 10 ∨ n % 14 = 11 ∨ n % 14 = 12 ∨ n % 14 = 13 := by omega
  obtain ⟨x, hx, hix⟩ : ∃ x ∈ bads, ∀ e, gIx (.lst bads) (.int (n % 14)) e st = .ok x e st := by
    unfold bads
    rcases h with h | h | h | h | h | h | h | h | h | h | h | h | h | h <;> rw [h] <;> exact ⟨_, by simp only [List.mem_cons, true_or, or_true], fun e => ix_lst rfl⟩
  have hty := (part_bad st x hx).1
  have fx := fun e => fz_ty (e := e) hty
  have hdl := t.ds_len
  have hadd : ∀ e, gAdd t.d (.tup [x]) e st = .ok (.tup (t.ds ++ [x])) e st := fun e => by
    show gAdd (.tup t.ds) (.tup [x]) e st = _
    rw [addT, if_pos (by simp [lim]; omega)]
  have ft := fun e => fz_ty (e := e) (tr_ty t)
  have hret : ∀ e, retv (.tup (t.ds ++ [x])) e st = .rt (.val (.tup (t.ds ++ [x]))) st := fun _ => rfl
  refine ⟨x, hx, ?_⟩
  unfold bads at hix
  unfold fn_law_bent g_law_bent
  rw [fnOf_at]
  generalize t.ds ++ [x] = TX at *
  generalize t.d = TD at *
  have fl : ∀ l e, fz (.lst l) e = some (.lst l, e) := fun _ _ => rfl
  simp [List.replicate, gMod_at, lim, addL, hix, fx, hadd, hret, fl]
end
end DL
end
section
set_option Elab.async false
set_option linter.all false
set_option maxRecDepth 100000
set_option maxHeartbeats 4000000
set_option autoImplicit false
/-! TV: what a view shows. -/
namespace DL
open PySem L2
theorem view_comp {l : List (Nat × Seen)} (hl : l.length ≤ 1000) (st : Sto) (y0 y1 y2 y3 y4 y5 y6 y7 y8 y9 y11 y12 y13 : Option SV) : eComp [13] (iSeq (eVar 10)) (bName 13) (eUn (gNotN .non) (eBin gIx (eVar 13) (eK (.int 1)))) (eBin gIx (eVar 13) (eK (.int 1))) [y0, y1, y2, y3, y4, y5, y6, y7, y8, y9, some (.val (.lst (l.map fun z => seenD z.1 z.2))), y11, y12, y13] st = .ok (.lst ((visT l).map Seen.d)) [y0, y1, y2, y3, y4, y5, y6, y7, y8, y9, some (.val (.lst (l.map fun z => seenD z.1 z.2))), y11, y12, none] st := by
  have fl : ∀ e, fz (.lst (l.map fun z => seenD z.1 z.2)) e = some (.lst (l.map fun z => seenD z.1 z.2), e) := fun _ => rfl
  have := comp_any (i := 13) (s := st) (e := [y0, y1, y2, y3, y4, y5, y6, y7, y8, y9, some (.val (.lst (l.map fun z => seenD z.1 z.2))), y11, y12, y13]) (fi := iSeq (eVar 10)) (ds := l.map fun z => seenD z.1 z.2)
    (ft := eUn (gNotN .non) (eBin gIx (eVar 13) (eK (.int 1)))) (fe := eBin gIx (eVar 13) (eK (.int 1))) (fun d => match d with | .tup [_, v] => !isN v | _ => false) (fun d => match d with | .tup [_, v] => v | d => d)
    (iSeq_at (d := .lst (l.map fun z => seenD z.1 z.2)) (by simp [fl]) rfl) (by rw [List.length_map]; unfold lim; omega) (fun z hz => by
      obtain ⟨⟨q, y⟩, _, rfl⟩ := List.mem_map.mp hz
      have h1 : ∀ e, gIx (seenD q y) (.int 1) e st = .ok y.d e st := fun e => ix_tup rfl
      have h2 : ∀ e, fz y.d e = some (y.d, e) := fun e => fz_ty (seen_ty y)
      exact ⟨by cases y <;> (simp [h1, gNotN]; rfl), fun _ => by simp [h1, h2]; rfl⟩)
  exact this.trans (congrArg (fun z : List D => ER.ok (.lst z) [y0, y1, y2, y3, y4, y5, y6, y7, y8, y9, some (.val (.lst (l.map fun z : Nat × Seen => seenD z.1 z.2))), y11, y12, none] st) (vis_view l))
end DL
end
section
set_option Elab.async false
set_option linter.all false
set_option maxRecDepth 100000
set_option maxHeartbeats 4000000
set_option autoImplicit false
/-! P06: the law's answer. -/
namespace DL
open PySem L2
section
variable {e : Sl} {st : Sto}
theorem row_pd (r : Row) : pd r.d = true ∧ depth r.d ≤ 1 := by cases r <;> simp [Row.d, pd, pds, depth, depths]
theorem prog_pd (g : Prog) : pd g.d = true ∧ depth g.d < 40 := by
  have h1 : pds (g.rows.map Row.d) = true := pds_all fun d hd => by obtain ⟨r, _, rfl⟩ := List.mem_map.mp hd; exact (row_pd r).1
  have h2 : depths (g.rows.map Row.d) ≤ 1 := depths_le fun d hd => by obtain ⟨r, _, rfl⟩ := List.mem_map.mp hd; exact (row_pd r).2
  have h3 := pds_nats g.sec
  have h4 := depths_nats g.sec
  constructor
  · simp [Prog.d, pd, pdk, h1, h3]
  · simp [Prog.d, depth, depthk, h4]; omega
theorem seens_pd (l : List Seen) : pds (l.map Seen.d) = true ∧ depths (l.map Seen.d) ≤ 1 := ⟨pds_all fun d hd => by obtain ⟨y, _, rfl⟩ := List.mem_map.mp hd; exact (pd_seen y).1, depths_le fun d hd => by obtain ⟨y, _, rfl⟩ := List.mem_map.mp hd; exact (pd_seen y).2⟩
theorem main_k06 {ns : List Int} (hn : ns.length ≤ 63) (st : Sto) : ∃ st', fn_law [.scr (ns.map .int)] st = .ok (.val (.bl true)) st' := by
  obtain ⟨t, htape, ht⟩ := sp_tape hn st
  obtain ⟨b, htree, ho, hdp, hlen⟩ := sp_law_tree ht st
  obtain ⟨dm, m, hmean, hm⟩ := sp_meaning ht (p := 37) (by decide) st
  obtain ⟨dx, x, hsec, hx⟩ := sp_secrets ht (p := 51) (by decide) st
  have at1 := sp_at (t := t) (k := 1) (by decide) st
  have at2 := sp_at (t := t) (k := 2) (by decide) st
  have b1 := tat_bd ht 1
  have b2 := tat_bd ht 2
  have hd := fun e => fz_ty (e := e) hm.ty
  have hd2 := fun e => fz_ty (e := e) hx.ty
  have fb := fun e => fz_ty (e := e) (tr_ty b)
  -- the secret
  obtain ⟨sec, hsq, hsecc⟩ : ∃ sec : List Nat, (∃ q : Nat → Bool, sec = (List.range 4).filter q) ∧ ∀ y5 y6 y7 y8 y9 y10 y11 y12 y13, eComp [12] (iRange1 (eK (.int 4))) (bName 12) (eBin gEq (eBin (gI kMod) (eBin (gI kDiv) (eCall 2 fn_law_at (aCons (eVar 1) (aCons (eK (.int 1)) aNil))) (eBin gAdd (eVar 12) (eK (.int 1)))) (eK (.int 3))) (eK (.int 0))) (eVar 12)
      [some (.val (.scr (ns.map .int))), some (.val (.lst (t.map .int))), some (.val b.d), some (.val dm), some (.val dx), y5, y6, y7, y8, y9, y10, y11, y12, y13] st = .ok (.lst (sec.map fun n => dn n)) [some (.val (.scr (ns.map .int))), some (.val (.lst (t.map .int))), some (.val b.d), some (.val dm), some (.val dx), y5, y6, y7, y8, y9, y10, y11, none, y13] st := by
    refine ⟨(List.range 4).filter fun n => decide (tat t 1 / ((n : Int) + 1) % 3 = 0), ⟨_, rfl⟩, fun y5 y6 y7 y8 y9 y10 y11 y12 y13 => ?_⟩
    have := comp_any (i := 12) (s := st) (e := [some (.val (.scr (ns.map .int))), some (.val (.lst (t.map .int))), some (.val b.d), some (.val dm), some (.val dx), y5, y6, y7, y8, y9, y10, y11, y12, y13]) (fi := iRange1 (eK (.int 4))) (ds := rngD 0 4)
      (ft := eBin gEq (eBin (gI kMod) (eBin (gI kDiv) (eCall 2 fn_law_at (aCons (eVar 1) (aCons (eK (.int 1)) aNil))) (eBin gAdd (eVar 12) (eK (.int 1)))) (eK (.int 3))) (eK (.int 0))) (fe := eVar 12)
      (fun d => match d with | .int i => decide (tat t 1 / (i + 1) % 3 = 0) | _ => false) id (iRange1_at (n := 4) rfl (by decide)) (by decide) (fun z hz => by
        obtain ⟨k, hk⟩ := List.getElem?_of_mem hz
        obtain ⟨hk2, rfl⟩ := rngD_get hk
        rw [Int.zero_add]
        have hdiv : ∀ e, gI kDiv (.int (tat t 1)) (.int ((k : Int) + 1)) e st = .ok (.int (tat t 1 / ((k : Int) + 1))) e st := fun e => gDiv_at (by omega) (by omega)
        exact ⟨by simp [at1, hdiv, gMod_at], fun _ => by simp⟩)
    rw [this]
    congr 2
    unfold rngD
    rw [List.filter_map, List.map_map]
    have hc : ((fun d => match d with | D.int i => decide (tat t 1 / (i + 1) % 3 = 0) | _ => false) ∘ fun i : Nat => D.int (0 + (i : Int))) = fun n : Nat => decide (tat t 1 / ((n : Int) + 1) % 3 = 0) := by
      funext n
      simp
    rw [hc]
    apply List.map_congr_left
    intro n _
    simp
  have ht1 := sp_is_tree ho (by omega) (by omega) st
  obtain ⟨bad, hbad, hbent⟩ := sp_law_bent (t := b) (by omega) (n := tat t 2) b2.1 st
  have hbty := (part_bad st bad hbad).1
  have ht2 : fn_is_tree [.tup (b.ds ++ [bad])] st = .ok (.val (.bl false)) st := by
    show fnr_is_tree (fnr_is_part (rec_is_tree 3)) [.tup (b.ds ++ [bad])] st = _
    have hdl := b.ds_len
    exact tree_bad (by omega) (Tr.mem b ho (fun _ _ _ => rfl) (fun _ _ _ _ _ _ _ _ _ _ _ _ => rfl) (fun _ _ _ _ _ _ _ _ => rfl))
      (Tr.mem b ho (fun r h1 h2 => part_do h1 h2 st) (fun a A x y h1 h2 h3 h4 h5 h6 h7 h8 => part_if h1 h2 rfl rfl (sp_tree_n st 3 x h3 (by omega) (by omega)) (sp_tree_n st 3 y h4 (by omega) (by omega))) (fun a A x h1 h2 h3 h4 h5 => part_loop h1 h2 rfl (sp_tree_n st 3 x h3 (by omega) (by omega)))) hbty (part_bad st bad hbad).2
  have ht3 : fn_is_tree [.lst b.ds] st = .ok (.val (.bl false)) st := by
    show fnr_is_tree (fnr_is_part (rec_is_tree 3)) [.lst b.ds] st = _
    exact tree_no (x := .lst b.ds) rfl (by decide) st
  have hlow : fn_law_lowered [b.d, .int 0] st = .ok (.new (rl (b.rows 0))) st := sp_law_lowered (by omega) (by omega) 0 st
  obtain ⟨r, htold, hr1, hr2⟩ := sp_told (sec := sec) ho (by omega) (by omega) hsq st
  have hrl := Tr.rows_len b 0
  have hadd : ∀ e, gAdd (rl (b.rows 0)) (.lst [.tup [sx "end"]]) e st = .ok (.lst ((b.rows 0 ++ [Row.fin]).map Row.d)) e st := fun e => by
    rw [adN (by simp [lim, hrl]; omega)]; simp [Row.d]
  have fs : ∀ e, fz (.tup (sec.map fun n => dn n)) e = some (.tup (sec.map fun n => dn n), e) := fun e => rfl
  have fbad : ∀ e, fz (.tup (b.ds ++ [bad])) e = some (.tup (b.ds ++ [bad]), e) := fun e => rfl
  have flst : ∀ e, fz (.lst b.ds) e = some (.lst b.ds, e) := fun e => rfl
  have hglen : ((((b.rows 0 ++ [Row.fin]).map Row.d).length : Nat) : Int) = (b.len : Int) + 1 := by simp [hrl]
  have hdd : (lowP sec b).d = .dk [(.inr (Str.ofString "secret"), .tup (sec.map fun n => dn n)), (.inr (Str.ofString "rows"), .tup ((b.rows 0 ++ [Row.fin]).map Row.d))] := rfl
  have glist : ∀ e, gList b.d e st = .ok (.lst b.ds) e st := fun e => rfl
  by_cases hl : b.len + 1 ≤ 32
  · have hpp := prog_pd (lowP sec b)
    have hne := fun e st => neD_refl (e := e) (st := st) hpp.1 hpp.2 (by rfl)
    have hg := lowP_ok ho hsq hl
    rw [hr1 hl] at htold
    have flow : ∀ e, fz (lowP sec b).d e = some ((lowP sec b).d, e) := fun e => rfl
    obtain ⟨st2, hrt⟩ := sp_run_tree hsq hm hx ho (by omega) (k := 60) (by decide) st
    have hinv := mkT_inv (m := m) (x := x) b ⟨firstP ⟨sec, []⟩ x, 60, []⟩ ho ⟨first_fine _ _, by simp, by show (0 : Int) ≤ 60; decide⟩
    have hmade := fun s' => run_made (m := m) (x := x) (sec := sec) (t := b) (s' := s') ho
    have hcut := fun s' => run_cut (m := m) (x := x) (sec := sec) (t := b) (s' := s') ho
    have hrun60 : fn_run [(lowP sec b).d, dm, dx, .int 60] st2 = _ := sp_run (g := lowP sec b) hg hm hx (n := 60) (by decide) st2
    have hrun200 : fn_run [(lowP sec b).d, dm, dx, .int 200] st2 = _ := sp_run (g := lowP sec b) hg hm hx (n := 200) (by decide) st2
    have hl' : ¬ (32 : Int) < (b.len : Int) + 1 := by omega
    have hne' := fun e => hne e st
    generalize hq : mkT m x b ⟨firstP ⟨sec, []⟩ x, 60, []⟩ = q at *
    obtain ⟨qb, s'⟩ := q
    refine ⟨st2, ?_⟩
    unfold fn_law g_law
    rw [fnOf_at]
    have l0 : (0 : Nat) ≤ lim := Nat.zero_le _
    simp only [List.map_cons, List.map_nil, List.length_cons, List.length_nil, List.cons_append, List.nil_append, List.replicate, Nat.zero_add, Nat.reduceSub, Nat.reduceAdd]
    cases qb with
    | false =>
      simp only [Bool.false_eq_true, if_false] at hrt
      have hpl := hcut s' rfl
      generalize runP (lowP sec b) m x 60 = rp at *
      obtain ⟨rs, rv⟩ := rp
      simp only at hpl hrun60
      have i0 : ∀ e, gIx (.tup [rs.d, .lst rv]) (.int 0) e st2 = .ok rs.d e st2 := fun e => ix_tup rfl
      obtain ⟨pp, hpp2⟩ := Option.ne_none_iff_exists'.mp hpl
      generalize eComp [12] = C12 at *
      rw [hdd] at htold hne' hrun60 hrun200 flow
      generalize (b.rows 0 ++ [Row.fin]).map Row.d = RD at *
      generalize sec.map (fun n => dn n) = SD at *
      generalize rl (b.rows 0) = RO at *
      generalize b.ds ++ [bad] = BB at *
      simp [lim, htape, htree, hmean, hsec, fb, hd, hd2, hsecc, fs, ht1, at2, hbent, fbad, ht2, glist, flst, ht3, hlow, hadd, htold, flow, hglen, hl', hne', ptAll, pt, hasK, hrt, hrun60, i0, hpp2, gNotB, gIsN, gNotN]
    | true =>
      simp only [if_true] at hrt
      obtain ⟨l, h200, hseen⟩ := hmade s' rfl (hinv rfl)
      rw [h200] at hrun200
      simp only at hrun200
      rw [hseen] at hrt
      have hsp := seens_pd (visT l)
      have hll : l.length ≤ 1000 := by
        have := runP_len (g := lowP sec b) m x 200
        rw [h200] at this
        simp only [List.length_map] at this
        omega
      have hcomp := view_comp hll st2
      have hpd1 : pd (.tup [.tup (s'.ps.regs.map .int), .tup (s'.ps.slots.map .int), .tup (s'.ps.counts.map fun n => dn n), .lst ((visT l).map Seen.d)]) = true := by simp [pd, pds, pds_ints, pds_nats, hsp.1]
      have hdp1 : depth (.tup [.tup (s'.ps.regs.map .int), .tup (s'.ps.slots.map .int), .tup (s'.ps.counts.map fun n => dn n), .lst ((visT l).map Seen.d)]) < 40 := by simp [depth, depths, depths_ints, depths_nats]; have := hsp.2; omega
      have heq := fun e => eq_refl (e := e) (s := st2) hpd1 hdp1
      have hplc : ∀ e, gIx ({ s'.ps with place := none } : PS).d (sx "place") e st2 = .ok .non e st2 := fun e => rfl
      have hrg : ∀ e, gIx ({ s'.ps with place := none } : PS).d (sx "registers") e st2 = .ok (.tup (s'.ps.regs.map .int)) e st2 := fun e => ix_regs
      have hsl : ∀ e, gIx ({ s'.ps with place := none } : PS).d (sx "slots") e st2 = .ok (.tup (s'.ps.slots.map .int)) e st2 := fun e => ix_slots
      have hct : ∀ e, gIx ({ s'.ps with place := none } : PS).d (sx "counts") e st2 = .ok (.tup (s'.ps.counts.map fun n => dn n)) e st2 := fun e => ix_counts
      have fP : ∀ e, fz ({ s'.ps with place := none } : PS).d e = some (({ s'.ps with place := none } : PS).d, e) := fun _ => rfl
      have fV : ∀ e, fz (.lst (l.map fun z => seenD z.1 z.2)) e = some (.lst (l.map fun z => seenD z.1 z.2), e) := fun _ => rfl
      generalize ({ s'.ps with place := none } : PS).d = PD at *
      generalize (l.map fun z => seenD z.1 z.2) = VD at *
      generalize (visT l).map Seen.d = WD at *
      generalize s'.ps.regs.map D.int = RG at *
      generalize s'.ps.slots.map D.int = SL at *
      generalize (s'.ps.counts.map fun n => dn n) = CT at *
      generalize eComp [12] = C12 at *
      generalize eComp [13] = C13 at *
      rw [hdd] at htold hne' hrun60 hrun200 flow
      generalize (b.rows 0 ++ [Row.fin]).map Row.d = RD at *
      generalize sec.map (fun n => dn n) = SD at *
      generalize rl (b.rows 0) = RO at *
      generalize b.ds ++ [bad] = BB at *
      have ftt : ∀ l e, fz (.tup l) e = some (.tup l, e) := fun _ _ => rfl
      have fll : ∀ l e, fz (.lst l) e = some (.lst l, e) := fun _ _ => rfl
      simp [lim, htape, htree, hmean, hsec, fb, hd, hd2, hsecc, ht1, at2, hbent, ht2, glist, ht3, hlow, hadd, htold, flow, hglen, hl', hne', ptAll, pt, hasK, hrt, hrun200, gNotB, gIsN, gNotN, sAsg, bTup, bCons, bName, bNil, hcomp, hplc, hrg, hsl, hct, fP, ftt, fll, heq, isN]
  · rw [hr2 hl] at htold
    have hl' : (32 : Int) < (b.len : Int) + 1 := by omega
    have heq : ∀ e, gEq (.lst [sx "refused", .bl true]) (.lst [sx "refused", .bl true]) e st = .ok (.bl true) e st := fun e => eq_refl (by simp [pd, pds]) (by simp [depth, depths])
    refine ⟨st, ?_⟩
    unfold fn_law g_law
    rw [fnOf_at]
    simp only [List.map_cons, List.map_nil, List.length_cons, List.length_nil, List.cons_append, List.nil_append, List.replicate, Nat.zero_add, Nat.reduceSub, Nat.reduceAdd]
    have fref : ∀ e, fz (.lst [sx "refused", .bl true]) e = some (.lst [sx "refused", .bl true], e) := fun _ => rfl
    generalize eComp [12] = C12 at *
    generalize (b.rows 0 ++ [Row.fin]).map Row.d = RD at *
    generalize sec.map (fun n => dn n) = SD at *
    generalize rl (b.rows 0) = RO at *
    generalize b.ds ++ [bad] = BB at *
    simp [lim, htape, htree, hmean, hsec, fb, hd, hd2, hsecc, fs, ht1, at2, hbent, fbad, ht2, glist, flst, ht3, hlow, hadd, htold, hglen, hl', heq, fref, gNotB]
theorem hlaw_k06 : ∀ ns : List Int, ns.length ≤ 63 → ∃ st, fn_law [.scr (ns.map .int)] [] = .ok (.val (.bl true)) st := fun ns h => main_k06 h []
end
end DL
end
section
set_option Elab.async false
set_option linter.all false
set_option maxRecDepth 100000
set_option maxHeartbeats 4000000

/-! printed by head.py: what the top has written -/
namespace DL
open PySem PySem.Spec PySem.W L2
open PyProof.Rows hiding St
theorem all_mk {l : PySem.W.OpenLaw} {w : World} {K : PySem.W.Frag} {h : Heap} {mg : Str → Option Value} {fa f0 f1 f2 f3 f4 f5 f6 f7 f8 f9 f10 f11 f12 f13 f14 f15 f16 f17 f18 f19 f20 f21 f22 f23 f24 f25 f26 f27 f28 f29 f30 f31 f32 f33 f34 f35 f36 f37 f38 f39 f40 f41 f42 f43 : Addr} (X : K.In h) (G : h.Ns mainGlobals mg) (hfa : mg "law" = some (.ref fa))
    {K_Run : Addr} (q_Run : PySem.W.nsIn K mainGlobals "Run" = some (some (.ref K_Run))) (pg_Run : PySem.W.plainGet K K_Run Str.empty = true) (hd_Run : PySem.W.hasDictIn K K_Run = true) (po_Run : PySem.W.plainOver K K_Run = true) (sa_Run : PySem.W.findIn K (.ref K_Run) "__setattr__" = some (some (.builtin "object.__setattr__")))
    (mk_Run : PySem.W.makesIn K K_Run = true) (kk_Run : PySem.W.keepIn K (.ref K_Run) = true)
    (no_Run_left : PySem.W.findIn K (.ref K_Run) "left" = some none)
    (no_Run_meaning : PySem.W.findIn K (.ref K_Run) "meaning" = some none)
    (no_Run_secrets : PySem.W.findIn K (.ref K_Run) "secrets" = some none)
    (no_Run_seen : PySem.W.findIn K (.ref K_Run) "seen" = some none)
    (no_Run_state : PySem.W.findIn K (.ref K_Run) "state" = some none)
    {od0 an0 : Option Addr} {sl0 : Array (Option Value)} {oc0 kV0 dc0 pm0 cd0 ct0 : Value}
    (a0 : PySem.W.nsIn K mainGlobals "_law_tape" = some (some (.ref f0))) (l0 : K.lookup f0 = some ⟨oc0, od0, .func (PySem.W.fnOf "_law_tape" "_law_tape" (defArgs s_law_tape) (defBody s_law_tape) (defScope s_law_tape) .none kV0 dc0 pm0 an0 cd0 ct0), sl0⟩) (c0 : PySem.W.codeIn K cd0 "_law_tape" = true) (k0 : PySem.W.keepIn K (.ref f0) = true)
    {od1 an1 : Option Addr} {sl1 : Array (Option Value)} {oc1 kV1 dc1 pm1 cd1 ct1 : Value}
    (a1 : PySem.W.nsIn K mainGlobals "_law_at" = some (some (.ref f1))) (l1 : K.lookup f1 = some ⟨oc1, od1, .func (PySem.W.fnOf "_law_at" "_law_at" (defArgs s_law_at) (defBody s_law_at) (defScope s_law_at) .none kV1 dc1 pm1 an1 cd1 ct1), sl1⟩) (c1 : PySem.W.codeIn K cd1 "_law_at" = true) (k1 : PySem.W.keepIn K (.ref f1) = true)
    {od2 an2 : Option Addr} {sl2 : Array (Option Value)} {oc2 kV2 dc2 pm2 cd2 ct2 : Value}
    (a2 : PySem.W.nsIn K mainGlobals "_law_do" = some (some (.ref f2))) (l2 : K.lookup f2 = some ⟨oc2, od2, .func (PySem.W.fnOf "_law_do" "_law_do" (defArgs s_law_do) (defBody s_law_do) (defScope s_law_do) .none kV2 dc2 pm2 an2 cd2 ct2), sl2⟩) (c2 : PySem.W.codeIn K cd2 "_law_do" = true) (k2 : PySem.W.keepIn K (.ref f2) = true)
    {od3 an3 : Option Addr} {sl3 : Array (Option Value)} {oc3 kV3 dc3 pm3 cd3 ct3 : Value}
    (a3 : PySem.W.nsIn K mainGlobals "_law_tree" = some (some (.ref f3))) (l3 : K.lookup f3 = some ⟨oc3, od3, .func (PySem.W.fnOf "_law_tree" "_law_tree" (defArgs s_law_tree) (defBody s_law_tree) (defScope s_law_tree) .none kV3 dc3 pm3 an3 cd3 ct3), sl3⟩) (c3 : PySem.W.codeIn K cd3 "_law_tree" = true) (k3 : PySem.W.keepIn K (.ref f3) = true)
    {od4 an4 : Option Addr} {sl4 : Array (Option Value)} {oc4 kV4 dc4 pm4 cd4 ct4 : Value}
    (a4 : PySem.W.nsIn K mainGlobals "_law_meaning" = some (some (.ref f4))) (l4 : K.lookup f4 = some ⟨oc4, od4, .func (PySem.W.fnOf "_law_meaning" "_law_meaning" (defArgs s_law_meaning) (defBody s_law_meaning) (defScope s_law_meaning) .none kV4 dc4 pm4 an4 cd4 ct4), sl4⟩) (c4 : PySem.W.codeIn K cd4 "_law_meaning" = true) (k4 : PySem.W.keepIn K (.ref f4) = true)
    {od5 an5 : Option Addr} {sl5 : Array (Option Value)} {oc5 kV5 dc5 pm5 cd5 ct5 : Value}
    (a5 : PySem.W.nsIn K mainGlobals "_law_secrets" = some (some (.ref f5))) (l5 : K.lookup f5 = some ⟨oc5, od5, .func (PySem.W.fnOf "_law_secrets" "_law_secrets" (defArgs s_law_secrets) (defBody s_law_secrets) (defScope s_law_secrets) .none kV5 dc5 pm5 an5 cd5 ct5), sl5⟩) (c5 : PySem.W.codeIn K cd5 "_law_secrets" = true) (k5 : PySem.W.keepIn K (.ref f5) = true)
    {od6 an6 : Option Addr} {sl6 : Array (Option Value)} {oc6 kV6 dc6 pm6 cd6 ct6 : Value}
    (a6 : PySem.W.nsIn K mainGlobals "is_number" = some (some (.ref f6))) (l6 : K.lookup f6 = some ⟨oc6, od6, .func (PySem.W.fnOf "is_number" "is_number" (defArgs s_is_number) (defBody s_is_number) (defScope s_is_number) .none kV6 dc6 pm6 an6 cd6 ct6), sl6⟩) (c6 : PySem.W.codeIn K cd6 "is_number" = true) (k6 : PySem.W.keepIn K (.ref f6) = true)
    {od7 an7 : Option Addr} {sl7 : Array (Option Value)} {oc7 kV7 dc7 pm7 cd7 ct7 : Value}
    (a7 : PySem.W.nsIn K mainGlobals "is_secret" = some (some (.ref f7))) (l7 : K.lookup f7 = some ⟨oc7, od7, .func (PySem.W.fnOf "is_secret" "is_secret" (defArgs s_is_secret) (defBody s_is_secret) (defScope s_is_secret) .none kV7 dc7 pm7 an7 cd7 ct7), sl7⟩) (c7 : PySem.W.codeIn K cd7 "is_secret" = true) (k7 : PySem.W.keepIn K (.ref f7) = true)
    {od8 an8 : Option Addr} {sl8 : Array (Option Value)} {oc8 kV8 dc8 pm8 cd8 ct8 : Value}
    (a8 : PySem.W.nsIn K mainGlobals "most_of" = some (some (.ref f8))) (l8 : K.lookup f8 = some ⟨oc8, od8, .func (PySem.W.fnOf "most_of" "most_of" (defArgs s_most_of) (defBody s_most_of) (defScope s_most_of) .none kV8 dc8 pm8 an8 cd8 ct8), sl8⟩) (c8 : PySem.W.codeIn K cd8 "most_of" = true) (k8 : PySem.W.keepIn K (.ref f8) = true)
    {od9 an9 : Option Addr} {sl9 : Array (Option Value)} {oc9 kV9 dc9 pm9 cd9 ct9 : Value}
    (a9 : PySem.W.nsIn K mainGlobals "is_row" = some (some (.ref f9))) (l9 : K.lookup f9 = some ⟨oc9, od9, .func (PySem.W.fnOf "is_row" "is_row" (defArgs s_is_row) (defBody s_is_row) (defScope s_is_row) .none kV9 dc9 pm9 an9 cd9 ct9), sl9⟩) (c9 : PySem.W.codeIn K cd9 "is_row" = true) (k9 : PySem.W.keepIn K (.ref f9) = true)
    {od10 an10 : Option Addr} {sl10 : Array (Option Value)} {oc10 kV10 dc10 pm10 cd10 ct10 : Value}
    (a10 : PySem.W.nsIn K mainGlobals "is_program" = some (some (.ref f10))) (l10 : K.lookup f10 = some ⟨oc10, od10, .func (PySem.W.fnOf "is_program" "is_program" (defArgs s_is_program) (defBody s_is_program) (defScope s_is_program) .none kV10 dc10 pm10 an10 cd10 ct10), sl10⟩) (c10 : PySem.W.codeIn K cd10 "is_program" = true) (k10 : PySem.W.keepIn K (.ref f10) = true)
    {od11 an11 : Option Addr} {sl11 : Array (Option Value)} {oc11 kV11 dc11 pm11 cd11 ct11 : Value}
    (a11 : PySem.W.nsIn K mainGlobals "if_rows" = some (some (.ref f11))) (l11 : K.lookup f11 = some ⟨oc11, od11, .func (PySem.W.fnOf "if_rows" "if_rows" (defArgs s_if_rows) (defBody s_if_rows) (defScope s_if_rows) .none kV11 dc11 pm11 an11 cd11 ct11), sl11⟩) (c11 : PySem.W.codeIn K cd11 "if_rows" = true) (k11 : PySem.W.keepIn K (.ref f11) = true)
    {od12 an12 : Option Addr} {sl12 : Array (Option Value)} {oc12 kV12 dc12 pm12 cd12 ct12 : Value}
    (a12 : PySem.W.nsIn K mainGlobals "rows_of" = some (some (.ref f12))) (l12 : K.lookup f12 = some ⟨oc12, od12, .func (PySem.W.fnOf "rows_of" "rows_of" (defArgs s_rows_of) (defBody s_rows_of) (defScope s_rows_of) .none kV12 dc12 pm12 an12 cd12 ct12), sl12⟩) (c12 : PySem.W.codeIn K cd12 "rows_of" = true) (k12 : PySem.W.keepIn K (.ref f12) = true)
    {od13 an13 : Option Addr} {sl13 : Array (Option Value)} {oc13 kV13 dc13 pm13 cd13 ct13 : Value}
    (a13 : PySem.W.nsIn K mainGlobals "lower" = some (some (.ref f13))) (l13 : K.lookup f13 = some ⟨oc13, od13, .func (PySem.W.fnOf "lower" "lower" (defArgs s_lower) (defBody s_lower) (defScope s_lower) .none kV13 dc13 pm13 an13 cd13 ct13), sl13⟩) (c13 : PySem.W.codeIn K cd13 "lower" = true) (k13 : PySem.W.keepIn K (.ref f13) = true)
    {od14 an14 : Option Addr} {sl14 : Array (Option Value)} {oc14 kV14 dc14 pm14 cd14 ct14 : Value}
    (a14 : PySem.W.nsIn K mainGlobals "_law_told" = some (some (.ref f14))) (l14 : K.lookup f14 = some ⟨oc14, od14, .func (PySem.W.fnOf "_law_told" "_law_told" (defArgs s_law_told) (defBody s_law_told) (defScope s_law_told) .none kV14 dc14 pm14 an14 cd14 ct14), sl14⟩) (c14 : PySem.W.codeIn K cd14 "_law_told" = true) (k14 : PySem.W.keepIn K (.ref f14) = true)
    {od15 an15 : Option Addr} {sl15 : Array (Option Value)} {oc15 kV15 dc15 pm15 cd15 ct15 : Value}
    (a15 : PySem.W.nsIn K mainGlobals "at_place" = some (some (.ref f15))) (l15 : K.lookup f15 = some ⟨oc15, od15, .func (PySem.W.fnOf "at_place" "at_place" (defArgs s_at_place) (defBody s_at_place) (defScope s_at_place) .none kV15 dc15 pm15 an15 cd15 ct15), sl15⟩) (c15 : PySem.W.codeIn K cd15 "at_place" = true) (k15 : PySem.W.keepIn K (.ref f15) = true)
    {od16 an16 : Option Addr} {sl16 : Array (Option Value)} {oc16 kV16 dc16 pm16 cd16 ct16 : Value}
    (a16 : PySem.W.nsIn K mainGlobals "first_registers" = some (some (.ref f16))) (l16 : K.lookup f16 = some ⟨oc16, od16, .func (PySem.W.fnOf "first_registers" "first_registers" (defArgs s_first_registers) (defBody s_first_registers) (defScope s_first_registers) .none kV16 dc16 pm16 an16 cd16 ct16), sl16⟩) (c16 : PySem.W.codeIn K cd16 "first_registers" = true) (k16 : PySem.W.keepIn K (.ref f16) = true)
    {od17 an17 : Option Addr} {sl17 : Array (Option Value)} {oc17 kV17 dc17 pm17 cd17 ct17 : Value}
    (a17 : PySem.W.nsIn K mainGlobals "first_state" = some (some (.ref f17))) (l17 : K.lookup f17 = some ⟨oc17, od17, .func (PySem.W.fnOf "first_state" "first_state" (defArgs s_first_state) (defBody s_first_state) (defScope s_first_state) .none kV17 dc17 pm17 an17 cd17 ct17), sl17⟩) (c17 : PySem.W.codeIn K cd17 "first_state" = true) (k17 : PySem.W.keepIn K (.ref f17) = true)
    {od18 an18 : Option Addr} {sl18 : Array (Option Value)} {oc18 kV18 dc18 pm18 cd18 ct18 : Value}
    (a18 : PySem.W.nsIn K mainGlobals "is_in" = some (some (.ref f18))) (l18 : K.lookup f18 = some ⟨oc18, od18, .func (PySem.W.fnOf "is_in" "is_in" (defArgs s_is_in) (defBody s_is_in) (defScope s_is_in) .none kV18 dc18 pm18 an18 cd18 ct18), sl18⟩) (c18 : PySem.W.codeIn K cd18 "is_in" = true) (k18 : PySem.W.keepIn K (.ref f18) = true)
    {od19 an19 : Option Addr} {sl19 : Array (Option Value)} {oc19 kV19 dc19 pm19 cd19 ct19 : Value}
    (a19 : PySem.W.nsIn K mainGlobals "loaded_secret" = some (some (.ref f19))) (l19 : K.lookup f19 = some ⟨oc19, od19, .func (PySem.W.fnOf "loaded_secret" "loaded_secret" (defArgs s_loaded_secret) (defBody s_loaded_secret) (defScope s_loaded_secret) .none kV19 dc19 pm19 an19 cd19 ct19), sl19⟩) (c19 : PySem.W.codeIn K cd19 "loaded_secret" = true) (k19 : PySem.W.keepIn K (.ref f19) = true)
    {od20 an20 : Option Addr} {sl20 : Array (Option Value)} {oc20 kV20 dc20 pm20 cd20 ct20 : Value}
    (a20 : PySem.W.nsIn K mainGlobals "asked" = some (some (.ref f20))) (l20 : K.lookup f20 = some ⟨oc20, od20, .func (PySem.W.fnOf "asked" "asked" (defArgs s_asked) (defBody s_asked) (defScope s_asked) .none kV20 dc20 pm20 an20 cd20 ct20), sl20⟩) (c20 : PySem.W.codeIn K cd20 "asked" = true) (k20 : PySem.W.keepIn K (.ref f20) = true)
    {od21 an21 : Option Addr} {sl21 : Array (Option Value)} {oc21 kV21 dc21 pm21 cd21 ct21 : Value}
    (a21 : PySem.W.nsIn K mainGlobals "mixed" = some (some (.ref f21))) (l21 : K.lookup f21 = some ⟨oc21, od21, .func (PySem.W.fnOf "mixed" "mixed" (defArgs s_mixed) (defBody s_mixed) (defScope s_mixed) .none kV21 dc21 pm21 an21 cd21 ct21), sl21⟩) (c21 : PySem.W.codeIn K cd21 "mixed" = true) (k21 : PySem.W.keepIn K (.ref f21) = true)
    {od22 an22 : Option Addr} {sl22 : Array (Option Value)} {oc22 kV22 dc22 pm22 cd22 ct22 : Value}
    (a22 : PySem.W.nsIn K mainGlobals "loaded" = some (some (.ref f22))) (l22 : K.lookup f22 = some ⟨oc22, od22, .func (PySem.W.fnOf "loaded" "loaded" (defArgs s_loaded) (defBody s_loaded) (defScope s_loaded) .none kV22 dc22 pm22 an22 cd22 ct22), sl22⟩) (c22 : PySem.W.codeIn K cd22 "loaded" = true) (k22 : PySem.W.keepIn K (.ref f22) = true)
    {od23 an23 : Option Addr} {sl23 : Array (Option Value)} {oc23 kV23 dc23 pm23 cd23 ct23 : Value}
    (a23 : PySem.W.nsIn K mainGlobals "new_value" = some (some (.ref f23))) (l23 : K.lookup f23 = some ⟨oc23, od23, .func (PySem.W.fnOf "new_value" "new_value" (defArgs s_new_value) (defBody s_new_value) (defScope s_new_value) .none kV23 dc23 pm23 an23 cd23 ct23), sl23⟩) (c23 : PySem.W.codeIn K cd23 "new_value" = true) (k23 : PySem.W.keepIn K (.ref f23) = true)
    {od24 an24 : Option Addr} {sl24 : Array (Option Value)} {oc24 kV24 dc24 pm24 cd24 ct24 : Value}
    (a24 : PySem.W.nsIn K mainGlobals "gone_on" = some (some (.ref f24))) (l24 : K.lookup f24 = some ⟨oc24, od24, .func (PySem.W.fnOf "gone_on" "gone_on" (defArgs s_gone_on) (defBody s_gone_on) (defScope s_gone_on) .none kV24 dc24 pm24 an24 cd24 ct24), sl24⟩) (c24 : PySem.W.codeIn K cd24 "gone_on" = true) (k24 : PySem.W.keepIn K (.ref f24) = true)
    {od25 an25 : Option Addr} {sl25 : Array (Option Value)} {oc25 kV25 dc25 pm25 cd25 ct25 : Value}
    (a25 : PySem.W.nsIn K mainGlobals "with_part" = some (some (.ref f25))) (l25 : K.lookup f25 = some ⟨oc25, od25, .func (PySem.W.fnOf "with_part" "with_part" (defArgs s_with_part) (defBody s_with_part) (defScope s_with_part) .none kV25 dc25 pm25 an25 cd25 ct25), sl25⟩) (c25 : PySem.W.codeIn K cd25 "with_part" = true) (k25 : PySem.W.keepIn K (.ref f25) = true)
    {od26 an26 : Option Addr} {sl26 : Array (Option Value)} {oc26 kV26 dc26 pm26 cd26 ct26 : Value}
    (a26 : PySem.W.nsIn K mainGlobals "counted" = some (some (.ref f26))) (l26 : K.lookup f26 = some ⟨oc26, od26, .func (PySem.W.fnOf "counted" "counted" (defArgs s_counted) (defBody s_counted) (defScope s_counted) .none kV26 dc26 pm26 an26 cd26 ct26), sl26⟩) (c26 : PySem.W.codeIn K cd26 "counted" = true) (k26 : PySem.W.keepIn K (.ref f26) = true)
    {od27 an27 : Option Addr} {sl27 : Array (Option Value)} {oc27 kV27 dc27 pm27 cd27 ct27 : Value}
    (a27 : PySem.W.nsIn K mainGlobals "register_step" = some (some (.ref f27))) (l27 : K.lookup f27 = some ⟨oc27, od27, .func (PySem.W.fnOf "register_step" "register_step" (defArgs s_register_step) (defBody s_register_step) (defScope s_register_step) .none kV27 dc27 pm27 an27 cd27 ct27), sl27⟩) (c27 : PySem.W.codeIn K cd27 "register_step" = true) (k27 : PySem.W.keepIn K (.ref f27) = true)
    {od28 an28 : Option Addr} {sl28 : Array (Option Value)} {oc28 kV28 dc28 pm28 cd28 ct28 : Value}
    (a28 : PySem.W.nsIn K mainGlobals "outcome" = some (some (.ref f28))) (l28 : K.lookup f28 = some ⟨oc28, od28, .func (PySem.W.fnOf "outcome" "outcome" (defArgs s_outcome) (defBody s_outcome) (defScope s_outcome) .none kV28 dc28 pm28 an28 cd28 ct28), sl28⟩) (c28 : PySem.W.codeIn K cd28 "outcome" = true) (k28 : PySem.W.keepIn K (.ref f28) = true)
    {od29 an29 : Option Addr} {sl29 : Array (Option Value)} {oc29 kV29 dc29 pm29 cd29 ct29 : Value}
    (a29 : PySem.W.nsIn K mainGlobals "test_step" = some (some (.ref f29))) (l29 : K.lookup f29 = some ⟨oc29, od29, .func (PySem.W.fnOf "test_step" "test_step" (defArgs s_test_step) (defBody s_test_step) (defScope s_test_step) .none kV29 dc29 pm29 an29 cd29 ct29), sl29⟩) (c29 : PySem.W.codeIn K cd29 "test_step" = true) (k29 : PySem.W.keepIn K (.ref f29) = true)
    {od30 an30 : Option Addr} {sl30 : Array (Option Value)} {oc30 kV30 dc30 pm30 cd30 ct30 : Value}
    (a30 : PySem.W.nsIn K mainGlobals "after_step" = some (some (.ref f30))) (l30 : K.lookup f30 = some ⟨oc30, od30, .func (PySem.W.fnOf "after_step" "after_step" (defArgs s_after_step) (defBody s_after_step) (defScope s_after_step) .none kV30 dc30 pm30 an30 cd30 ct30), sl30⟩) (c30 : PySem.W.codeIn K cd30 "after_step" = true) (k30 : PySem.W.keepIn K (.ref f30) = true)
    {od31 an31 : Option Addr} {sl31 : Array (Option Value)} {oc31 kV31 dc31 pm31 cd31 ct31 : Value}
    (a31 : PySem.W.nsIn K mainGlobals "run" = some (some (.ref f31))) (l31 : K.lookup f31 = some ⟨oc31, od31, .func (PySem.W.fnOf "run" "run" (defArgs s_run) (defBody s_run) (defScope s_run) .none kV31 dc31 pm31 an31 cd31 ct31), sl31⟩) (c31 : PySem.W.codeIn K cd31 "run" = true) (k31 : PySem.W.keepIn K (.ref f31) = true)
    {od32 an32 : Option Addr} {sl32 : Array (Option Value)} {oc32 kV32 dc32 pm32 cd32 ct32 : Value}
    (a32 : PySem.W.findIn K (.ref K_Run) "__init__" = some (some (.ref f32))) (i32 : PySem.W.isFn K (.ref f32) = true) (l32 : K.lookup f32 = some ⟨oc32, od32, .func (PySem.W.fnOf "__init__" "Run.__init__" (defArgs s_Run___init) (defBody s_Run___init) (defScope s_Run___init) .none kV32 dc32 pm32 an32 cd32 ct32), sl32⟩) (c32 : PySem.W.codeIn K cd32 "Run.__init__" = true) (k32 : PySem.W.keepIn K (.ref f32) = true)
    {od33 an33 : Option Addr} {sl33 : Array (Option Value)} {oc33 kV33 dc33 pm33 cd33 ct33 : Value}
    (a33 : PySem.W.findIn K (.ref K_Run) "turn" = some (some (.ref f33))) (i33 : PySem.W.isFn K (.ref f33) = true) (l33 : K.lookup f33 = some ⟨oc33, od33, .func (PySem.W.fnOf "turn" "Run.turn" (defArgs s_Run_turn) (defBody s_Run_turn) (defScope s_Run_turn) .none kV33 dc33 pm33 an33 cd33 ct33), sl33⟩) (c33 : PySem.W.codeIn K cd33 "Run.turn" = true) (k33 : PySem.W.keepIn K (.ref f33) = true)
    {od34 an34 : Option Addr} {sl34 : Array (Option Value)} {oc34 kV34 dc34 pm34 cd34 ct34 : Value}
    (a34 : PySem.W.findIn K (.ref K_Run) "decide" = some (some (.ref f34))) (i34 : PySem.W.isFn K (.ref f34) = true) (l34 : K.lookup f34 = some ⟨oc34, od34, .func (PySem.W.fnOf "decide" "Run.decide" (defArgs s_Run_decide) (defBody s_Run_decide) (defScope s_Run_decide) .none kV34 dc34 pm34 an34 cd34 ct34), sl34⟩) (c34 : PySem.W.codeIn K cd34 "Run.decide" = true) (k34 : PySem.W.keepIn K (.ref f34) = true)
    {od35 an35 : Option Addr} {sl35 : Array (Option Value)} {oc35 kV35 dc35 pm35 cd35 ct35 : Value}
    (a35 : PySem.W.findIn K (.ref K_Run) "make_loop" = some (some (.ref f35))) (i35 : PySem.W.isFn K (.ref f35) = true) (l35 : K.lookup f35 = some ⟨oc35, od35, .func (PySem.W.fnOf "make_loop" "Run.make_loop" (defArgs s_Run_make_loop) (defBody s_Run_make_loop) (defScope s_Run_make_loop) .none kV35 dc35 pm35 an35 cd35 ct35), sl35⟩) (c35 : PySem.W.codeIn K cd35 "Run.make_loop" = true) (k35 : PySem.W.keepIn K (.ref f35) = true)
    {od36 an36 : Option Addr} {sl36 : Array (Option Value)} {oc36 kV36 dc36 pm36 cd36 ct36 : Value}
    (a36 : PySem.W.findIn K (.ref K_Run) "do" = some (some (.ref f36))) (i36 : PySem.W.isFn K (.ref f36) = true) (l36 : K.lookup f36 = some ⟨oc36, od36, .func (PySem.W.fnOf "do" "Run.do" (defArgs s_Run_do) (defBody s_Run_do) (defScope s_Run_do) .none kV36 dc36 pm36 an36 cd36 ct36), sl36⟩) (c36 : PySem.W.codeIn K cd36 "Run.do" = true) (k36 : PySem.W.keepIn K (.ref f36) = true)
    {od37 an37 : Option Addr} {sl37 : Array (Option Value)} {oc37 kV37 dc37 pm37 cd37 ct37 : Value}
    (a37 : PySem.W.findIn K (.ref K_Run) "make" = some (some (.ref f37))) (i37 : PySem.W.isFn K (.ref f37) = true) (l37 : K.lookup f37 = some ⟨oc37, od37, .func (PySem.W.fnOf "make" "Run.make" (defArgs s_Run_make) (defBody s_Run_make) (defScope s_Run_make) .none kV37 dc37 pm37 an37 cd37 ct37), sl37⟩) (c37 : PySem.W.codeIn K cd37 "Run.make" = true) (k37 : PySem.W.keepIn K (.ref f37) = true)
    {od38 an38 : Option Addr} {sl38 : Array (Option Value)} {oc38 kV38 dc38 pm38 cd38 ct38 : Value}
    (a38 : PySem.W.nsIn K mainGlobals "run_tree" = some (some (.ref f38))) (l38 : K.lookup f38 = some ⟨oc38, od38, .func (PySem.W.fnOf "run_tree" "run_tree" (defArgs s_run_tree) (defBody s_run_tree) (defScope s_run_tree) .none kV38 dc38 pm38 an38 cd38 ct38), sl38⟩) (c38 : PySem.W.codeIn K cd38 "run_tree" = true) (k38 : PySem.W.keepIn K (.ref f38) = true)
    {od39 an39 : Option Addr} {sl39 : Array (Option Value)} {oc39 kV39 dc39 pm39 cd39 ct39 : Value}
    (a39 : PySem.W.nsIn K mainGlobals "is_part" = some (some (.ref f39))) (l39 : K.lookup f39 = some ⟨oc39, od39, .func (PySem.W.fnOf "is_part" "is_part" (defArgs s_is_part) (defBody s_is_part) (defScope s_is_part) .none kV39 dc39 pm39 an39 cd39 ct39), sl39⟩) (c39 : PySem.W.codeIn K cd39 "is_part" = true) (k39 : PySem.W.keepIn K (.ref f39) = true)
    {od40 an40 : Option Addr} {sl40 : Array (Option Value)} {oc40 kV40 dc40 pm40 cd40 ct40 : Value}
    (a40 : PySem.W.nsIn K mainGlobals "is_tree" = some (some (.ref f40))) (l40 : K.lookup f40 = some ⟨oc40, od40, .func (PySem.W.fnOf "is_tree" "is_tree" (defArgs s_is_tree) (defBody s_is_tree) (defScope s_is_tree) .none kV40 dc40 pm40 an40 cd40 ct40), sl40⟩) (c40 : PySem.W.codeIn K cd40 "is_tree" = true) (k40 : PySem.W.keepIn K (.ref f40) = true)
    {od41 an41 : Option Addr} {sl41 : Array (Option Value)} {oc41 kV41 dc41 pm41 cd41 ct41 : Value}
    (a41 : PySem.W.nsIn K mainGlobals "_law_lowered" = some (some (.ref f41))) (l41 : K.lookup f41 = some ⟨oc41, od41, .func (PySem.W.fnOf "_law_lowered" "_law_lowered" (defArgs s_law_lowered) (defBody s_law_lowered) (defScope s_law_lowered) .none kV41 dc41 pm41 an41 cd41 ct41), sl41⟩) (c41 : PySem.W.codeIn K cd41 "_law_lowered" = true) (k41 : PySem.W.keepIn K (.ref f41) = true)
    {od42 an42 : Option Addr} {sl42 : Array (Option Value)} {oc42 kV42 dc42 pm42 cd42 ct42 : Value}
    (a42 : PySem.W.nsIn K mainGlobals "_law_bent" = some (some (.ref f42))) (l42 : K.lookup f42 = some ⟨oc42, od42, .func (PySem.W.fnOf "_law_bent" "_law_bent" (defArgs s_law_bent) (defBody s_law_bent) (defScope s_law_bent) .none kV42 dc42 pm42 an42 cd42 ct42), sl42⟩) (c42 : PySem.W.codeIn K cd42 "_law_bent" = true) (k42 : PySem.W.keepIn K (.ref f42) = true)
    {od43 an43 : Option Addr} {sl43 : Array (Option Value)} {oc43 kV43 dc43 pm43 cd43 ct43 : Value}
    (a43 : PySem.W.nsIn K mainGlobals "law" = some (some (.ref f43))) (l43 : K.lookup f43 = some ⟨oc43, od43, .func (PySem.W.fnOf "law" "law" (defArgs s_law) (defBody s_law) (defScope s_law) .none kV43 dc43 pm43 an43 cd43 ct43), sl43⟩) (c43 : PySem.W.codeIn K cd43 "law" = true) (k43 : PySem.W.keepIn K (.ref f43) = true)
    (z_abs : PySem.W.nsIn K mainGlobals "abs" = some none)
    (z_all : PySem.W.nsIn K mainGlobals "all" = some none)
    (z_bool : PySem.W.nsIn K mainGlobals "bool" = some none)
    (z_dict : PySem.W.nsIn K mainGlobals "dict" = some none)
    (z_int : PySem.W.nsIn K mainGlobals "int" = some none)
    (z_isinstance : PySem.W.nsIn K mainGlobals "isinstance" = some none)
    (z_len : PySem.W.nsIn K mainGlobals "len" = some none)
    (z_list : PySem.W.nsIn K mainGlobals "list" = some none)
    (z_range : PySem.W.nsIn K mainGlobals "range" = some none)
    (z_sorted : PySem.W.nsIn K mainGlobals "sorted" = some none)
    (z_str : PySem.W.nsIn K mainGlobals "str" = some none)
    (z_tuple : PySem.W.nsIn K mainGlobals "tuple" = some none)
    {t_REGISTERS : Tok} (g_REGISTERS : PySem.W.nsIn K mainGlobals "REGISTERS" = some (some (.int 4 t_REGISTERS)))
    {t_SLOTS : Tok} (g_SLOTS : PySem.W.nsIn K mainGlobals "SLOTS" = some (some (.int 2 t_SLOTS)))
    {t_ARRAYS : Tok} (g_ARRAYS : PySem.W.nsIn K mainGlobals "ARRAYS" = some (some (.int 2 t_ARRAYS)))
    {t_MOST_ROWS : Tok} (g_MOST_ROWS : PySem.W.nsIn K mainGlobals "MOST_ROWS" = some (some (.int 32 t_MOST_ROWS)))
    {w_DO_KINDS : Addr} {u_DO_KINDS_0 u_DO_KINDS_1 u_DO_KINDS_2 u_DO_KINDS_3 u_DO_KINDS_4 u_DO_KINDS_5 u_DO_KINDS_6 : Tok} {wd_DO_KINDS : Option Addr} {wn_DO_KINDS : Nat} {ws_DO_KINDS : Array (Option Value)} (g_DO_KINDS : PySem.W.nsIn K mainGlobals "DO_KINDS" = some (some (.ref w_DO_KINDS))) (lt_DO_KINDS : K.lookup w_DO_KINDS = some ⟨.type "tuple", wd_DO_KINDS, .seq #[.str "ask" u_DO_KINDS_0, .str "mix" u_DO_KINDS_1, .str "load" u_DO_KINDS_2, .str "mask" u_DO_KINDS_3, .str "put" u_DO_KINDS_4, .str "get" u_DO_KINDS_5, .str "fence" u_DO_KINDS_6] wn_DO_KINDS, ws_DO_KINDS⟩)
    {d_SHAPES : Addr} {es_SHAPES : Array DictEntry} {n_SHAPES : Nat} (g_SHAPES : PySem.W.nsIn K mainGlobals "SHAPES" = some (some (.ref d_SHAPES))) (lt_SHAPES : K.lookup d_SHAPES = some ⟨.type "dict", none, .dict es_SHAPES n_SHAPES, #[]⟩) (lo_SHAPES : (d_SHAPES == sysModules) = false) (ke_SHAPES : PySem.W.KeysLit w.params es_SHAPES.toList)
    {tk_SHAPES_ask : Tok} (e_SHAPES_ask : PySem.W.nsIn K d_SHAPES "ask" = some (some (.str "r" tk_SHAPES_ask)))
    {tk_SHAPES_mix : Tok} (e_SHAPES_mix : PySem.W.nsIn K d_SHAPES "mix" = some (some (.str "rrr" tk_SHAPES_mix)))
    {tk_SHAPES_load : Tok} (e_SHAPES_load : PySem.W.nsIn K d_SHAPES "load" = some (some (.str "rAr" tk_SHAPES_load)))
    {tk_SHAPES_mask : Tok} (e_SHAPES_mask : PySem.W.nsIn K d_SHAPES "mask" = some (some (.str "rAr" tk_SHAPES_mask)))
    {tk_SHAPES_test : Tok} (e_SHAPES_test : PySem.W.nsIn K d_SHAPES "test" = some (some (.str "rAt" tk_SHAPES_test)))
    {tk_SHAPES_put : Tok} (e_SHAPES_put : PySem.W.nsIn K d_SHAPES "put" = some (some (.str "sr" tk_SHAPES_put)))
    {tk_SHAPES_get : Tok} (e_SHAPES_get : PySem.W.nsIn K d_SHAPES "get" = some (some (.str "rs" tk_SHAPES_get)))
    {tk_SHAPES_fence : Tok} (e_SHAPES_fence : PySem.W.nsIn K d_SHAPES "fence" = some (some (.str "" tk_SHAPES_fence)))
    {tk_SHAPES_jump : Tok} (e_SHAPES_jump : PySem.W.nsIn K d_SHAPES "jump" = some (some (.str "t" tk_SHAPES_jump)))
    {tk_SHAPES_end : Tok} (e_SHAPES_end : PySem.W.nsIn K d_SHAPES "end" = some (some (.str "" tk_SHAPES_end)))
    (e_SHAPES_at : PySem.W.nsIn K d_SHAPES "at" = some none)
    (e_SHAPES_counts : PySem.W.nsIn K d_SHAPES "counts" = some none)
    (e_SHAPES_do : PySem.W.nsIn K d_SHAPES "do" = some none)
    (e_SHAPES_if : PySem.W.nsIn K d_SHAPES "if" = some none)
    (e_SHAPES_in : PySem.W.nsIn K d_SHAPES "in" = some none)
    (e_SHAPES_loop : PySem.W.nsIn K d_SHAPES "loop" = some none)
    (e_SHAPES_out : PySem.W.nsIn K d_SHAPES "out" = some none)
    (e_SHAPES_registers : PySem.W.nsIn K d_SHAPES "registers" = some none)
    (e_SHAPES_slots : PySem.W.nsIn K d_SHAPES "slots" = some none)
    {C_GuessError : Addr} (gc_GuessError : PySem.W.nsIn K mainGlobals "GuessError" = some (some (.ref C_GuessError)))
    {C_NotValid : Addr} (gc_NotValid : PySem.W.nsIn K mainGlobals "NotValid" = some (some (.ref C_NotValid)))
    (xc_NotValid : PySem.W.excIn K C_NotValid [.type "ValueError", .type "Exception", .type "BaseException", .type "object"] "ValueError.__new__" = true) (kc_NotValid : PySem.W.keepIn K (.ref C_NotValid) = true) (bc_NotValid : PySem.W.subIn K (.ref C_NotValid) (.type "BaseException") = some true) (tc_NotValid : PySem.W.typeIn K (.ref C_NotValid) = some (.type "type"))
    (h1 : PySem.W.findIn K (.ref C_NotValid) "__getattribute__" = some (some (.builtin "BaseException.__getattribute__"))) (h2 : PySem.W.findIn K (.ref C_NotValid) "__getattr__" = some none) (h3 : PySem.W.hasDictIn K C_NotValid = true) (h4 : PySem.W.findIn K (.ref C_NotValid) "__class__" = some (some (.builtin "object.__class__")))
    (h5 : PySem.W.specialIn K (.builtin "object.__class__") "__get__" = some (some (.builtin "getset_descriptor.__get__"))) (h6 : PySem.W.takesIn K (.builtin "object.__class__") = some true) (h7 : PySem.W.mroIn K C_NotValid (.type "object") = some true)
    (eb_GuessError_NotValid : PySem.W.subIn K (.ref C_GuessError) (.type "BaseException") = some true) (eh_GuessError_NotValid : PySem.W.hasDictIn K C_GuessError = true) (et_GuessError_NotValid : PySem.W.typeIn K (.ref C_GuessError) = some (.type "type")) (es_GuessError_NotValid : PySem.W.subIn K (.ref C_NotValid) (.ref C_GuessError) = some true)
    (hlaw : ∀ ns : List Int, ns.length ≤ 63 → ∃ st, fn_law [.scr (ns.map .int)] [] = .ok (.val (.bl true)) st) :
    ∃ fd : FuncData, (∀ (s : Shared) (v : Value), BindsTo s fd ⟨[v], []⟩ [("_law_script", v)]) ∧ ∀ base : Heap, K.In base → base.Ns mainGlobals mg → FnOk l.prog w K mg base (CX l.prog w) 16 fa fd ["_law_script"] (spScr K) := by
  have e := hfa.symm.trans (PySem.W.mg_of X G a43)
  cases e
  have xt_GuessError_NotValid : ExcTab K mg "GuessError" "NotValid" exc_GuessError_NotValid := by
    refine ⟨⟨_, PySem.W.mg_of X G gc_GuessError⟩, ⟨_, PySem.W.mg_of X G gc_NotValid⟩, fun k b1 b2 h C Cx Cy hk hx hy => ?_, fun k b1 b2 h => ?_⟩
    · unfold exc_GuessError_NotValid at h
      split at h
      · rename_i e
        subst e
        cases h
        cases hk.symm.trans (PySem.W.mg_of X G gc_NotValid)
        cases hx.symm.trans (PySem.W.mg_of X G gc_GuessError)
        cases hy.symm.trans (PySem.W.mg_of X G gc_NotValid)
        exact ⟨exm_ref eb_GuessError_NotValid eh_GuessError_NotValid et_GuessError_NotValid es_GuessError_NotValid, by unfold PySem.W.kitOne; rw [if_pos (beq_self_eq_true _)], ⟨h1, h2, bc_NotValid, h3, h4, h5, h6, h7⟩⟩
      · cases h
    · unfold exc_GuessError_NotValid at h
      split at h
      · rename_i e
        subst e
        exact ⟨_, PySem.W.mg_of X G gc_NotValid⟩
      · cases h
  have y_SHAPES : ∀ z v, (z, some v) ∈ tab_SHAPES → ∃ t, PySem.W.nsIn K d_SHAPES z = some (some (.str v t)) := fun z v h => by
    unfold tab_SHAPES at h
    simp only [List.mem_cons, List.not_mem_nil, or_false, false_or, Prod.mk.injEq, Option.some.injEq, reduceCtorEq, and_false, and_true] at h
    rcases h with ⟨rfl, rfl⟩ | ⟨rfl, rfl⟩ | ⟨rfl, rfl⟩ | ⟨rfl, rfl⟩ | ⟨rfl, rfl⟩ | ⟨rfl, rfl⟩ | ⟨rfl, rfl⟩ | ⟨rfl, rfl⟩ | ⟨rfl, rfl⟩ | ⟨rfl, rfl⟩
    · exact ⟨_, e_SHAPES_ask⟩
    · exact ⟨_, e_SHAPES_mix⟩
    · exact ⟨_, e_SHAPES_load⟩
    · exact ⟨_, e_SHAPES_mask⟩
    · exact ⟨_, e_SHAPES_test⟩
    · exact ⟨_, e_SHAPES_put⟩
    · exact ⟨_, e_SHAPES_get⟩
    · exact ⟨_, e_SHAPES_fence⟩
    · exact ⟨_, e_SHAPES_jump⟩
    · exact ⟨_, e_SHAPES_end⟩
  have n_SHAPES : ∀ z, (z, none) ∈ tab_SHAPES → PySem.W.nsIn K d_SHAPES z = some none := fun z h => by
    unfold tab_SHAPES at h
    simp only [List.mem_cons, List.not_mem_nil, or_false, false_or, Prod.mk.injEq, Option.some.injEq, reduceCtorEq, and_false, and_true] at h
    rcases h with rfl | rfl | rfl | rfl | rfl | rfl | rfl | rfl | rfl
    · exact e_SHAPES_at
    · exact e_SHAPES_counts
    · exact e_SHAPES_do
    · exact e_SHAPES_if
    · exact e_SHAPES_in
    · exact e_SHAPES_loop
    · exact e_SHAPES_out
    · exact e_SHAPES_registers
    · exact e_SHAPES_slots
  have cl_Run : Cls K K_Run := ⟨pg_Run, hd_Run, po_Run, sa_Run⟩
  have T : Txt K w mg := ⟨PySem.W.mg_none_of X G z_abs, PySem.W.mg_none_of X G z_all, PySem.W.mg_none_of X G z_bool, PySem.W.mg_none_of X G z_dict, PySem.W.mg_none_of X G z_int, PySem.W.mg_none_of X G z_isinstance, PySem.W.mg_none_of X G z_len, PySem.W.mg_none_of X G z_list, PySem.W.mg_none_of X G z_range, PySem.W.mg_none_of X G z_sorted, PySem.W.mg_none_of X G z_str, PySem.W.mg_none_of X G z_tuple, ⟨.int 4, _, PySem.W.mg_of X G g_REGISTERS, ⟨t_REGISTERS, rfl⟩, fun _ _ _ => .int _⟩, ⟨.int 2, _, PySem.W.mg_of X G g_SLOTS, ⟨t_SLOTS, rfl⟩, fun _ _ _ => .int _⟩, ⟨.int 2, _, PySem.W.mg_of X G g_ARRAYS, ⟨t_ARRAYS, rfl⟩, fun _ _ _ => .int _⟩, ⟨.int 32, _, PySem.W.mg_of X G g_MOST_ROWS, ⟨t_MOST_ROWS, rfl⟩, fun _ _ _ => .int _⟩, ⟨_, _, _, _, _, PySem.F.excBase_ValueError, xc_NotValid, PySem.W.mg_of X G gc_NotValid, kc_NotValid, bc_NotValid, tc_NotValid⟩, xt_GuessError_NotValid, ⟨_, _, _, PySem.W.mg_of X G g_SHAPES, ⟨lt_SHAPES, ke_SHAPES, lo_SHAPES⟩, y_SHAPES, n_SHAPES⟩, ⟨_, PySem.W.mg_of X G q_Run, cl_Run, no_Run_left⟩, ⟨_, PySem.W.mg_of X G q_Run, cl_Run, no_Run_meaning⟩, ⟨_, PySem.W.mg_of X G q_Run, cl_Run, no_Run_secrets⟩, ⟨_, PySem.W.mg_of X G q_Run, cl_Run, no_Run_seen⟩, ⟨_, PySem.W.mg_of X G q_Run, cl_Run, no_Run_state⟩, ⟨w_DO_KINDS, [V.str (Str.ofString "ask"), V.str (Str.ofString "mix"), V.str (Str.ofString "load"), V.str (Str.ofString "mask"), V.str (Str.ofString "put"), V.str (Str.ofString "get"), V.str (Str.ofString "fence")], PySem.W.mg_of X G g_DO_KINDS, fun H => .inr ⟨_, _, _, lt_DO_KINDS, rfl, rfl, by rw [sizeLine_eq]; show 7 ≤ 16777216; decide, (.cons ⟨u_DO_KINDS_0, rfl⟩ (.cons ⟨u_DO_KINDS_1, rfl⟩ (.cons ⟨u_DO_KINDS_2, rfl⟩ (.cons ⟨u_DO_KINDS_3, rfl⟩ (.cons ⟨u_DO_KINDS_4, rfl⟩ (.cons ⟨u_DO_KINDS_5, rfl⟩ (.cons ⟨u_DO_KINDS_6, rfl⟩ .nil)))))))⟩, fun F ρ H => (.cons (.str _) (.cons (.str _) (.cons (.str _) (.cons (.str _) (.cons (.str _) (.cons (.str _) (.cons (.str _) .nil)))))))⟩⟩
  have F0 := fun_mk (st := s_law_tape) l0 c0 k0
  have F1 := fun_mk (st := s_law_at) l1 c1 k1
  have F2 := fun_mk (st := s_law_do) l2 c2 k2
  have F3 := fun_mk (st := s_law_tree) l3 c3 k3
  have F4 := fun_mk (st := s_law_meaning) l4 c4 k4
  have F5 := fun_mk (st := s_law_secrets) l5 c5 k5
  have F6 := fun_mk (st := s_is_number) l6 c6 k6
  have F7 := fun_mk (st := s_is_secret) l7 c7 k7
  have F8 := fun_mk (st := s_most_of) l8 c8 k8
  have F9 := fun_mk (st := s_is_row) l9 c9 k9
  have F10 := fun_mk (st := s_is_program) l10 c10 k10
  have F11 := fun_mk (st := s_if_rows) l11 c11 k11
  have F12 := fun_mk (st := s_rows_of) l12 c12 k12
  have F13 := fun_mk (st := s_lower) l13 c13 k13
  have F14 := fun_mk (st := s_law_told) l14 c14 k14
  have F15 := fun_mk (st := s_at_place) l15 c15 k15
  have F16 := fun_mk (st := s_first_registers) l16 c16 k16
  have F17 := fun_mk (st := s_first_state) l17 c17 k17
  have F18 := fun_mk (st := s_is_in) l18 c18 k18
  have F19 := fun_mk (st := s_loaded_secret) l19 c19 k19
  have F20 := fun_mk (st := s_asked) l20 c20 k20
  have F21 := fun_mk (st := s_mixed) l21 c21 k21
  have F22 := fun_mk (st := s_loaded) l22 c22 k22
  have F23 := fun_mk (st := s_new_value) l23 c23 k23
  have F24 := fun_mk (st := s_gone_on) l24 c24 k24
  have F25 := fun_mk (st := s_with_part) l25 c25 k25
  have F26 := fun_mk (st := s_counted) l26 c26 k26
  have F27 := fun_mk (st := s_register_step) l27 c27 k27
  have F28 := fun_mk (st := s_outcome) l28 c28 k28
  have F29 := fun_mk (st := s_test_step) l29 c29 k29
  have F30 := fun_mk (st := s_after_step) l30 c30 k30
  have F31 := fun_mk (st := s_run) l31 c31 k31
  have F32 := fun_mk (st := s_Run___init) l32 c32 k32
  have F33 := fun_mk (st := s_Run_turn) l33 c33 k33
  have F34 := fun_mk (st := s_Run_decide) l34 c34 k34
  have F35 := fun_mk (st := s_Run_make_loop) l35 c35 k35
  have F36 := fun_mk (st := s_Run_do) l36 c36 k36
  have F37 := fun_mk (st := s_Run_make) l37 c37 k37
  have F38 := fun_mk (st := s_run_tree) l38 c38 k38
  have F39 := fun_mk (st := s_is_part) l39 c39 k39
  have F40 := fun_mk (st := s_is_tree) l40 c40 k40
  have F41 := fun_mk (st := s_law_lowered) l41 c41 k41
  have F42 := fun_mk (st := s_law_bent) l42 c42 k42
  have F43 := fun_mk (st := s_law) l43 c43 k43
  refine ⟨PySem.W.fnOf "law" "law" (defArgs s_law) (defBody s_law) (defScope s_law) .none kV43 dc43 pm43 an43 cd43 ct43, fun s v => .of_eq rfl, fun base _ _ => ?_⟩
  have O0 := ok_law_tape (P := l.prog) (base := base) F0 (PySem.W.mg_of X G a0) T 
  have O1 := ok_law_at (P := l.prog) (base := base) F1 (PySem.W.mg_of X G a1) T 
  have O2 := ok_law_do (P := l.prog) (base := base) F2 (PySem.W.mg_of X G a2) T 
  have O3 := ok_g_law_tree (P := l.prog) (base := base) F3 (PySem.W.mg_of X G a3) T O1 O2
  have O4 := ok_law_meaning (P := l.prog) (base := base) F4 (PySem.W.mg_of X G a4) T O1
  have O5 := ok_law_secrets (P := l.prog) (base := base) F5 (PySem.W.mg_of X G a5) T O1
  have O6 := ok_is_number (P := l.prog) (base := base) F6 (PySem.W.mg_of X G a6) T 
  have O7 := ok_is_secret (P := l.prog) (base := base) F7 (PySem.W.mg_of X G a7) T O6
  have O8 := ok_most_of (P := l.prog) (base := base) F8 (PySem.W.mg_of X G a8) T 
  have O9 := ok_is_row (P := l.prog) (base := base) F9 (PySem.W.mg_of X G a9) T O6 O8
  have O10 := ok_is_program (P := l.prog) (base := base) F10 (PySem.W.mg_of X G a10) T O9 O7
  have O12 := ok_g_rows_of (P := l.prog) (base := base) F11 (PySem.W.mg_of X G a11) F12 (PySem.W.mg_of X G a12) T 
  have O13 := ok_lower (P := l.prog) (base := base) F13 (PySem.W.mg_of X G a13) T O10 O12
  have O14 := ok_law_told (P := l.prog) (base := base) F14 (PySem.W.mg_of X G a14) T O13
  have O15 := ok_at_place (P := l.prog) (base := base) F15 (PySem.W.mg_of X G a15) T 
  have O16 := ok_first_registers (P := l.prog) (base := base) F16 (PySem.W.mg_of X G a16) T O15
  have O17 := ok_first_state (P := l.prog) (base := base) F17 (PySem.W.mg_of X G a17) T O16
  have O18 := ok_is_in (P := l.prog) (base := base) F18 (PySem.W.mg_of X G a18) T 
  have O19 := ok_loaded_secret (P := l.prog) (base := base) F19 (PySem.W.mg_of X G a19) T O15
  have O20 := ok_asked (P := l.prog) (base := base) F20 (PySem.W.mg_of X G a20) T O15
  have O21 := ok_mixed (P := l.prog) (base := base) F21 (PySem.W.mg_of X G a21) T 
  have O22 := ok_loaded (P := l.prog) (base := base) F22 (PySem.W.mg_of X G a22) T O15
  have O23 := ok_new_value (P := l.prog) (base := base) F23 (PySem.W.mg_of X G a23) T O18 O20 O21 O22 O19
  have O24 := ok_gone_on (P := l.prog) (base := base) F24 (PySem.W.mg_of X G a24) T 
  have O25 := ok_with_part (P := l.prog) (base := base) F25 (PySem.W.mg_of X G a25) T 
  have O26 := ok_counted (P := l.prog) (base := base) F26 (PySem.W.mg_of X G a26) T O25
  have O27 := ok_register_step (P := l.prog) (base := base) F27 (PySem.W.mg_of X G a27) T O25 O26 O24 O23
  have O28 := ok_outcome (P := l.prog) (base := base) F28 (PySem.W.mg_of X G a28) T O18
  have O29 := ok_test_step (P := l.prog) (base := base) F29 (PySem.W.mg_of X G a29) T O28 O24
  have O30 := ok_after_step (P := l.prog) (base := base) F30 (PySem.W.mg_of X G a30) T O25 O24 O29 O27
  have O31 := ok_run (P := l.prog) (base := base) F31 (PySem.W.mg_of X G a31) T O17 O30
  have O32 := ok_Run___init (P := l.prog) (base := base) F32 (PySem.W.mg_of X G q_Run) ⟨mk_Run, a32, i32, kk_Run⟩ T O17
  have O33 := ok_Run_turn (P := l.prog) (base := base) F33 (PySem.W.mg_of X G q_Run) cl_Run ⟨a33, i33, k33⟩ T 
  have O34 := ok_Run_decide (P := l.prog) (base := base) F34 (PySem.W.mg_of X G q_Run) cl_Run ⟨a34, i34, k34⟩ T O18
  have O36 := ok_Run_do (P := l.prog) (base := base) F36 (PySem.W.mg_of X G q_Run) cl_Run ⟨a36, i36, k36⟩ T O30
  have O37 := ok_g_Run_make (P := l.prog) (base := base) (PySem.W.mg_of X G q_Run) cl_Run F35 ⟨a35, i35, k35⟩ F37 ⟨a37, i37, k37⟩ T O33 O34 O36
  have O38 := ok_run_tree (P := l.prog) (base := base) F38 (PySem.W.mg_of X G a38) T O32 O37
  have O40 := ok_g_is_tree (P := l.prog) (base := base) F39 (PySem.W.mg_of X G a39) F40 (PySem.W.mg_of X G a40) T O6 O9
  have O41 := ok_g_law_lowered (P := l.prog) (base := base) F41 (PySem.W.mg_of X G a41) T 
  have O42 := ok_law_bent (P := l.prog) (base := base) F42 (PySem.W.mg_of X G a42) T 
  exact scr_ok (fk_law F43 T O31 O40 O38 O0 O1 O4 O5 O3 O41 O14 O42) hlaw
end DL
end
section
set_option Elab.async false
set_option linter.all false
set_option maxRecDepth 100000
set_option maxHeartbeats 4000000

open PySem PySem.W PyProof.Rows in
set_option maxRecDepth 100000 in
set_option maxHeartbeats 0 in
theorem PySem.Challenge.cw_guesshush_k06_whole_source_programs_holds : PySem.Challenge.rw_guesshush_k06_whole_source_programs.Holds := by
  w_on; o_law; k_head; (case hw => w_witness2)
  k_fill
  refine DL.law_walk (l := PySem.Challenge.rw_guesshush_k06_whole_source_programs) (k := 16) (x := "_law_script") ⟨rfl, by decide, by decide⟩ rfl rfl (fun w h Y => PySem.W.kIn_of Y) ?F
  case F =>
    intro w mg fa h KX G hmg
    refine' DL.all_mk KX G hmg ?q_Run ?pg_Run ?hd_Run ?po_Run ?sa_Run ?mk_Run ?kk_Run ?no_Run_left ?no_Run_meaning ?no_Run_secrets ?no_Run_seen ?no_Run_state ?a0 ?l0 ?c0 ?k0 ?a1 ?l1 ?c1 ?k1 ?a2 ?l2 ?c2 ?k2 ?a3 ?l3 ?c3 ?k3 ?a4 ?l4 ?c4 ?k4 ?a5 ?l5 ?c5 ?k5 ?a6 ?l6 ?c6 ?k6 ?a7 ?l7 ?c7 ?k7 ?a8 ?l8 ?c8 ?k8 ?a9 ?l9 ?c9 ?k9 ?a10 ?l10 ?c10 ?k10 ?a11 ?l11 ?c11 ?k11 ?a12 ?l12 ?c12 ?k12 ?a13 ?l13 ?c13 ?k13 ?a14 ?l14 ?c14 ?k14 ?a15 ?l15 ?c15 ?k15 ?a16 ?l16 ?c16 ?k16 ?a17 ?l17 ?c17 ?k17 ?a18 ?l18 ?c18 ?k18 ?a19 ?l19 ?c19 ?k19 ?a20 ?l20 ?c20 ?k20 ?a21 ?l21 ?c21 ?k21 ?a22 ?l22 ?c22 ?k22 ?a23 ?l23 ?c23 ?k23 ?a24 ?l24 ?c24 ?k24 ?a25 ?l25 ?c25 ?k25 ?a26 ?l26 ?c26 ?k26 ?a27 ?l27 ?c27 ?k27 ?a28 ?l28 ?c28 ?k28 ?a29 ?l29 ?c29 ?k29 ?a30 ?l30 ?c30 ?k30 ?a31 ?l31 ?c31 ?k31 ?a32 ?i32 ?l32 ?c32 ?k32 ?a33 ?i33 ?l33 ?c33 ?k33 ?a34 ?i34 ?l34 ?c34 ?k34 ?a35 ?i35 ?l35 ?c35 ?k35 ?a36 ?i36 ?l36 ?c36 ?k36 ?a37 ?i37 ?l37 ?c37 ?k37 ?a38 ?l38 ?c38 ?k38 ?a39 ?l39 ?c39 ?k39 ?a40 ?l40 ?c40 ?k40 ?a41 ?l41 ?c41 ?k41 ?a42 ?l42 ?c42 ?k42 ?a43 ?l43 ?c43 ?k43 ?z_abs ?z_all ?z_bool ?z_dict ?z_int ?z_isinstance ?z_len ?z_list ?z_range ?z_sorted ?z_str ?z_tuple ?g_REGISTERS ?g_SLOTS ?g_ARRAYS ?g_MOST_ROWS ?g_DO_KINDS ?lt_DO_KINDS ?g_SHAPES ?lt_SHAPES ?lo_SHAPES ?ke_SHAPES ?e_SHAPES_ask ?e_SHAPES_mix ?e_SHAPES_load ?e_SHAPES_mask ?e_SHAPES_test ?e_SHAPES_put ?e_SHAPES_get ?e_SHAPES_fence ?e_SHAPES_jump ?e_SHAPES_end ?e_SHAPES_at ?e_SHAPES_counts ?e_SHAPES_do ?e_SHAPES_if ?e_SHAPES_in ?e_SHAPES_loop ?e_SHAPES_out ?e_SHAPES_registers ?e_SHAPES_slots ?gc_GuessError ?gc_NotValid ?xc_NotValid ?kc_NotValid ?bc_NotValid ?tc_NotValid ?h1 ?h2 ?h3 ?h4 ?h5 ?h6 ?h7 ?eb_GuessError_NotValid ?eh_GuessError_NotValid ?et_GuessError_NotValid ?es_GuessError_NotValid DL.hlaw_k06
    (case q_Run => k_is)
    (case pg_Run => k_is)
    (case hd_Run => k_is)
    (case po_Run => k_is)
    (case sa_Run => k_is)
    (case mk_Run => k_is)
    (case kk_Run => k_is)
    (case no_Run_left => k_is)
    (case no_Run_meaning => k_is)
    (case no_Run_secrets => k_is)
    (case no_Run_seen => k_is)
    (case no_Run_state => k_is)
    (case a0 => k_is)
    (case l0 => k_is)
    (case c0 => k_is)
    (case k0 => k_is)
    (case a1 => k_is)
    (case l1 => k_is)
    (case c1 => k_is)
    (case k1 => k_is)
    (case a2 => k_is)
    (case l2 => k_is)
    (case c2 => k_is)
    (case k2 => k_is)
    (case a3 => k_is)
    (case l3 => k_is)
    (case c3 => k_is)
    (case k3 => k_is)
    (case a4 => k_is)
    (case l4 => k_is)
    (case c4 => k_is)
    (case k4 => k_is)
    (case a5 => k_is)
    (case l5 => k_is)
    (case c5 => k_is)
    (case k5 => k_is)
    (case a6 => k_is)
    (case l6 => k_is)
    (case c6 => k_is)
    (case k6 => k_is)
    (case a7 => k_is)
    (case l7 => k_is)
    (case c7 => k_is)
    (case k7 => k_is)
    (case a8 => k_is)
    (case l8 => k_is)
    (case c8 => k_is)
    (case k8 => k_is)
    (case a9 => k_is)
    (case l9 => k_is)
    (case c9 => k_is)
    (case k9 => k_is)
    (case a10 => k_is)
    (case l10 => k_is)
    (case c10 => k_is)
    (case k10 => k_is)
    (case a11 => k_is)
    (case l11 => k_is)
    (case c11 => k_is)
    (case k11 => k_is)
    (case a12 => k_is)
    (case l12 => k_is)
    (case c12 => k_is)
    (case k12 => k_is)
    (case a13 => k_is)
    (case l13 => k_is)
    (case c13 => k_is)
    (case k13 => k_is)
    (case a14 => k_is)
    (case l14 => k_is)
    (case c14 => k_is)
    (case k14 => k_is)
    (case a15 => k_is)
    (case l15 => k_is)
    (case c15 => k_is)
    (case k15 => k_is)
    (case a16 => k_is)
    (case l16 => k_is)
    (case c16 => k_is)
    (case k16 => k_is)
    (case a17 => k_is)
    (case l17 => k_is)
    (case c17 => k_is)
    (case k17 => k_is)
    (case a18 => k_is)
    (case l18 => k_is)
    (case c18 => k_is)
    (case k18 => k_is)
    (case a19 => k_is)
    (case l19 => k_is)
    (case c19 => k_is)
    (case k19 => k_is)
    (case a20 => k_is)
    (case l20 => k_is)
    (case c20 => k_is)
    (case k20 => k_is)
    (case a21 => k_is)
    (case l21 => k_is)
    (case c21 => k_is)
    (case k21 => k_is)
    (case a22 => k_is)
    (case l22 => k_is)
    (case c22 => k_is)
    (case k22 => k_is)
    (case a23 => k_is)
    (case l23 => k_is)
    (case c23 => k_is)
    (case k23 => k_is)
    (case a24 => k_is)
    (case l24 => k_is)
    (case c24 => k_is)
    (case k24 => k_is)
    (case a25 => k_is)
    (case l25 => k_is)
    (case c25 => k_is)
    (case k25 => k_is)
    (case a26 => k_is)
    (case l26 => k_is)
    (case c26 => k_is)
    (case k26 => k_is)
    (case a27 => k_is)
    (case l27 => k_is)
    (case c27 => k_is)
    (case k27 => k_is)
    (case a28 => k_is)
    (case l28 => k_is)
    (case c28 => k_is)
    (case k28 => k_is)
    (case a29 => k_is)
    (case l29 => k_is)
    (case c29 => k_is)
    (case k29 => k_is)
    (case a30 => k_is)
    (case l30 => k_is)
    (case c30 => k_is)
    (case k30 => k_is)
    (case a31 => k_is)
    (case l31 => k_is)
    (case c31 => k_is)
    (case k31 => k_is)
    (case a32 => k_is)
    (case i32 => k_is)
    (case l32 => k_is)
    (case c32 => k_is)
    (case k32 => k_is)
    (case a33 => k_is)
    (case i33 => k_is)
    (case l33 => k_is)
    (case c33 => k_is)
    (case k33 => k_is)
    (case a34 => k_is)
    (case i34 => k_is)
    (case l34 => k_is)
    (case c34 => k_is)
    (case k34 => k_is)
    (case a35 => k_is)
    (case i35 => k_is)
    (case l35 => k_is)
    (case c35 => k_is)
    (case k35 => k_is)
    (case a36 => k_is)
    (case i36 => k_is)
    (case l36 => k_is)
    (case c36 => k_is)
    (case k36 => k_is)
    (case a37 => k_is)
    (case i37 => k_is)
    (case l37 => k_is)
    (case c37 => k_is)
    (case k37 => k_is)
    (case a38 => k_is)
    (case l38 => k_is)
    (case c38 => k_is)
    (case k38 => k_is)
    (case a39 => k_is)
    (case l39 => k_is)
    (case c39 => k_is)
    (case k39 => k_is)
    (case a40 => k_is)
    (case l40 => k_is)
    (case c40 => k_is)
    (case k40 => k_is)
    (case a41 => k_is)
    (case l41 => k_is)
    (case c41 => k_is)
    (case k41 => k_is)
    (case a42 => k_is)
    (case l42 => k_is)
    (case c42 => k_is)
    (case k42 => k_is)
    (case a43 => k_is)
    (case l43 => k_is)
    (case c43 => k_is)
    (case k43 => k_is)
    (case z_abs => k_is)
    (case z_all => k_is)
    (case z_bool => k_is)
    (case z_dict => k_is)
    (case z_int => k_is)
    (case z_isinstance => k_is)
    (case z_len => k_is)
    (case z_list => k_is)
    (case z_range => k_is)
    (case z_sorted => k_is)
    (case z_str => k_is)
    (case z_tuple => k_is)
    (case g_REGISTERS => k_is)
    (case g_SLOTS => k_is)
    (case g_ARRAYS => k_is)
    (case g_MOST_ROWS => k_is)
    (case g_DO_KINDS => k_is)
    (case lt_DO_KINDS => k_is)
    (case g_SHAPES => k_is)
    (case lt_SHAPES => k_is)
    (case lo_SHAPES => exact rfl)
    (case ke_SHAPES => k_keys)
    (case e_SHAPES_ask => k_is)
    (case e_SHAPES_mix => k_is)
    (case e_SHAPES_load => k_is)
    (case e_SHAPES_mask => k_is)
    (case e_SHAPES_test => k_is)
    (case e_SHAPES_put => k_is)
    (case e_SHAPES_get => k_is)
    (case e_SHAPES_fence => k_is)
    (case e_SHAPES_jump => k_is)
    (case e_SHAPES_end => k_is)
    (case e_SHAPES_at => k_is)
    (case e_SHAPES_counts => k_is)
    (case e_SHAPES_do => k_is)
    (case e_SHAPES_if => k_is)
    (case e_SHAPES_in => k_is)
    (case e_SHAPES_loop => k_is)
    (case e_SHAPES_out => k_is)
    (case e_SHAPES_registers => k_is)
    (case e_SHAPES_slots => k_is)
    (case gc_GuessError => k_is)
    (case gc_NotValid => k_is)
    (case xc_NotValid => k_exc)
    (case kc_NotValid => k_is)
    (case bc_NotValid => k_is)
    (case tc_NotValid => k_is)
    (case h1 => k_is)
    (case h2 => k_is)
    (case h3 => k_is)
    (case h4 => k_is)
    (case h5 => k_is)
    (case h6 => k_is)
    (case h7 => k_is)
    (case eb_GuessError_NotValid => k_is)
    (case eh_GuessError_NotValid => k_is)
    (case et_GuessError_NotValid => k_is)
    (case es_GuessError_NotValid => k_is)
end
