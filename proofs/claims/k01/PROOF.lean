import PyProof.Rows.All
import Wide.All
import OpenK.AllK
import Wide.FinOn
import HandS.ForMost
import HandS.ForExc
import HandS.CallSlots
import HandS.TupAny
import HandS.TupMul
import HandS.IsInst
import HandS.Style
import HandS.More
import HandS.SortInts
import KE.KEqNest
import PySem.Challenge.RW_guesshush_k01_programs
section
set_option Elab.async false
set_option linter.all false
set_option maxRecDepth 100000
set_option maxHeartbeats 4000000
set_option autoImplicit false
/-! DLA: data trees, how the abstract heap bears them, the world of a run, the canonical readings. -/
namespace DL
open PySem PySem.Spec L2
open PyProof.Rows hiding St

/-- data: immutable trees; scr: a locked list (the script); ref: an object of the store; own: the list or dict that a slot owns -/
inductive D where
  | non | bl (b : Bool) | int (i : Int) | str (x : Str)
  | tup (ds : List D) | lst (ds : List D)
  | scr (ds : List D)
  | dk (kvs : List (Key × D)) | dt (kvs : List (List Key × D)) | dn (kvs : List (D × D))
  | ref (i : Nat) | own (i : Nat)
/-- a slot holds a value, or owns a list or a dict that nobody else knows -/
inductive SV where
  | val (d : D) | own (d : D)
abbrev Sl := List (Option SV)
/-- an object of the store -/
inductive SO where
  | obj (d : D) | ins (c : Str) (fs : List (Str × D))
abbrev Sto := List SO
/-- what a def hands back: a value, or a new list or dict that nobody else knows -/
inductive RV where
  | val (d : D) | new (d : D)
inductive ER where
  | ok (d : D) (e : Sl) (s : Sto) | exc (k : Str) (e : Sl) (s : Sto) | stuck
inductive OR where
  | nx (e : Sl) (s : Sto) | rt (r : RV) (s : Sto) | bk (e : Sl) (s : Sto) | ct (e : Sl) (s : Sto) | exc (k : Str) (e : Sl) (s : Sto) | stuck
inductive FR where
  | ok (r : RV) (s : Sto) | exc (k : Str) (s : Sto) | stuck
abbrev EF := Sl → Sto → ER
abbrev SF := Sl → Sto → OR
abbrev Fn := List D → Sto → FR

/-! ### how the heap bears data -/
def TupF (K : PySem.W.Frag) (F : Addr → Prop) (H : Hp) (a : Addr) (vs : List V) : Prop := (F a ∧ H a = some (.tup vs)) ∨ ∀ H', SqT K H' a vs
def ScrF (K : PySem.W.Frag) (F : Addr → Prop) (H : Hp) (a : Addr) (vs : List V) : Prop := (F a ∧ Rd H a (.lst vs)) ∨ ∀ H', SqL K H' a vs
mutual
inductive Rep (K : PySem.W.Frag) (F : Addr → Prop) (ρ : List Addr) (H : Hp) : V → D → Prop
  | non : Rep K F ρ H .non .non
  | bl (b : Bool) : Rep K F ρ H (.bl b) (.bl b)
  | int (i : Int) : Rep K F ρ H (.int i) (.int i)
  | str (x : Str) : Rep K F ρ H (.str x) (.str x)
  | tup {a : Addr} {vs : List V} {ds : List D} : TupF K F H a vs → Reps K F ρ H vs ds → Rep K F ρ H (.ref a) (.tup ds)
  | lst {a : Addr} {vs : List V} {ds : List D} : F a → H a = some (.lst vs) → Reps K F ρ H vs ds → Rep K F ρ H (.ref a) (.lst ds)
  | scr {a : Addr} {vs : List V} {ds : List D} : ScrF K F H a vs → Reps K F ρ H vs ds → Rep K F ρ H (.ref a) (.scr ds)
  | dk {a : Addr} {kvs : List (Key × V)} {kds : List (Key × D)} : F a → Rd H a (.dK kvs) → RepK K F ρ H kvs kds → Rep K F ρ H (.ref a) (.dk kds)
  | dt {a : Addr} {kvs : List (List Key × V)} {kds : List (List Key × D)} : F a → Rd H a (.dT kvs) → RepT K F ρ H kvs kds → Rep K F ρ H (.ref a) (.dt kds)
  | ref {a : Addr} {i : Nat} : ρ[i]? = some a → Rep K F ρ H (.ref a) (.ref i)
inductive Reps (K : PySem.W.Frag) (F : Addr → Prop) (ρ : List Addr) (H : Hp) : List V → List D → Prop
  | nil : Reps K F ρ H [] []
  | cons {v : V} {vs : List V} {d : D} {ds : List D} : Rep K F ρ H v d → Reps K F ρ H vs ds → Reps K F ρ H (v :: vs) (d :: ds)
inductive RepK (K : PySem.W.Frag) (F : Addr → Prop) (ρ : List Addr) (H : Hp) : List (Key × V) → List (Key × D) → Prop
  | nil : RepK K F ρ H [] []
  | cons {k : Key} {v : V} {vs : List (Key × V)} {d : D} {ds : List (Key × D)} : Rep K F ρ H v d → RepK K F ρ H vs ds → RepK K F ρ H ((k, v) :: vs) ((k, d) :: ds)
inductive RepT (K : PySem.W.Frag) (F : Addr → Prop) (ρ : List Addr) (H : Hp) : List (List Key × V) → List (List Key × D) → Prop
  | nil : RepT K F ρ H [] []
  | cons {k : List Key} {v : V} {vs : List (List Key × V)} {d : D} {ds : List (List Key × D)} : Rep K F ρ H v d → RepT K F ρ H vs ds → RepT K F ρ H ((k, v) :: vs) ((k, d) :: ds)
end

/-- what keeps data: known addresses stay known, known objects stay, the store grows -/
structure Le (F : Addr → Prop) (ρ : List Addr) (H : Hp) (F' : Addr → Prop) (ρ' : List Addr) (H' : Hp) : Prop where
  sub : ∀ a, F a → F' a
  rd : ∀ a u, F a → Rd H a u → Rd H' a u
  ls : ∀ a vs, F a → H a = some (.lst vs) → H' a = some (.lst vs)
  tp : ∀ a vs, F a → H a = some (.tup vs) → H' a = some (.tup vs)
  pre : ∀ (i : Nat) (a : Addr), ρ[i]? = some a → ρ'[i]? = some a
section
variable {K : PySem.W.Frag} {F F' F2 : Addr → Prop} {ρ ρ' ρ2 : List Addr} {H H' H2 : Hp}
theorem Le.refl : Le F ρ H F ρ H := ⟨fun _ h => h, fun _ _ _ h => h, fun _ _ _ h => h, fun _ _ _ h => h, fun _ _ h => h⟩
theorem Le.trans (a : Le F ρ H F' ρ' H') (b : Le F' ρ' H' F2 ρ2 H2) : Le F ρ H F2 ρ2 H2 :=
  ⟨fun c h => b.sub c (a.sub c h), fun c u h r => b.rd c u (a.sub c h) (a.rd c u h r), fun c u h r => b.ls c u (a.sub c h) (a.ls c u h r), fun c u h r => b.tp c u (a.sub c h) (a.tp c u h r), fun i c h => b.pre i c (a.pre i c h)⟩
theorem TupF.mono {a : Addr} {vs : List V} (le : Le F ρ H F' ρ' H') (h : TupF K F H a vs) : TupF K F' H' a vs := by
  rcases h with ⟨h1, h2⟩ | h
  · exact .inl ⟨le.sub _ h1, le.tp _ _ h1 h2⟩
  · exact .inr h
theorem ScrF.mono {a : Addr} {vs : List V} (le : Le F ρ H F' ρ' H') (h : ScrF K F H a vs) : ScrF K F' H' a vs := by
  rcases h with ⟨h1, h2⟩ | h
  · exact .inl ⟨le.sub _ h1, le.rd _ _ h1 h2⟩
  · exact .inr h
theorem ScrF.sq {a : Addr} {vs : List V} (h : ScrF K F H a vs) : SqL K H a vs := by
  rcases h with ⟨_, h⟩ | h
  · exact .inl h
  · exact h H
theorem TupF.sq {a : Addr} {vs : List V} (h : TupF K F H a vs) : SqT K H a vs := by
  rcases h with ⟨_, h⟩ | h
  · exact .inl (.inl h)
  · exact h H
mutual
theorem Rep.mono (le : Le F ρ H F' ρ' H') : ∀ {d : D} {v : V}, Rep K F ρ H v d → Rep K F' ρ' H' v d
  | .non, _, h => by cases h; exact .non
  | .bl _, _, h => by cases h; exact .bl _
  | .int _, _, h => by cases h; exact .int _
  | .str _, _, h => by cases h; exact .str _
  | .tup ds, _, h => by cases h with | tup h1 h2 => exact .tup (h1.mono le) (Reps.mono le h2)
  | .lst ds, _, h => by cases h with | lst h1 h2 h3 => exact .lst (le.sub _ h1) (le.ls _ _ h1 h2) (Reps.mono le h3)
  | .scr ds, _, h => by cases h with | scr h1 h2 => exact .scr (h1.mono le) (Reps.mono le h2)
  | .dk ds, _, h => by cases h with | dk h1 h2 h3 => exact .dk (le.sub _ h1) (le.rd _ _ h1 h2) (RepK.mono le h3)
  | .dt ds, _, h => by cases h with | dt h1 h2 h3 => exact .dt (le.sub _ h1) (le.rd _ _ h1 h2) (RepT.mono le h3)
  | .dn _, _, h => nomatch h
  | .ref _, _, h => by cases h with | ref h => exact .ref (le.pre _ _ h)
  | .own _, _, h => nomatch h
theorem Reps.mono (le : Le F ρ H F' ρ' H') : ∀ {ds : List D} {vs : List V}, Reps K F ρ H vs ds → Reps K F' ρ' H' vs ds
  | [], _, h => by cases h; exact .nil
  | _ :: _, _, h => by cases h with | cons h1 h2 => exact .cons (Rep.mono le h1) (Reps.mono le h2)
theorem RepK.mono (le : Le F ρ H F' ρ' H') : ∀ {ds : List (Key × D)} {vs : List (Key × V)}, RepK K F ρ H vs ds → RepK K F' ρ' H' vs ds
  | [], _, h => by cases h; exact .nil
  | (_, _) :: _, _, h => by cases h with | cons h1 h2 => exact .cons (Rep.mono le h1) (RepK.mono le h2)
theorem RepT.mono (le : Le F ρ H F' ρ' H') : ∀ {ds : List (List Key × D)} {vs : List (List Key × V)}, RepT K F ρ H vs ds → RepT K F' ρ' H' vs ds
  | [], _, h => by cases h; exact .nil
  | (_, _) :: _, _, h => by cases h with | cons h1 h2 => exact .cons (Rep.mono le h1) (RepT.mono le h2)
end

theorem Reps.length {vs : List V} {ds : List D} (h : Reps K F ρ H vs ds) : vs.length = ds.length := by
  induction ds generalizing vs with
  | nil => cases h; rfl
  | cons d ds ih => cases h with | cons h1 h2 => rw [List.length_cons, List.length_cons, ih h2]
theorem Reps.get {i : Nat} {d : D} : ∀ {ds : List D} {vs : List V} {i : Nat}, Reps K F ρ H vs ds → ds[i]? = some d → ∃ v, vs[i]? = some v ∧ Rep K F ρ H v d
  | [], _, _, _, e => by simp at e
  | _ :: _, _, 0, h, e => by cases h with | cons h1 h2 => exact ⟨_, rfl, by simp at e; subst e; exact h1⟩
  | _ :: _, _, i + 1, h, e => by
    cases h with
    | cons h1 h2 =>
      obtain ⟨v, e1, r⟩ := Reps.get (i := i) (d := d) h2 (by simpa using e)
      exact ⟨v, by simpa using e1, r⟩
theorem Reps.get' {v : V} : ∀ {ds : List D} {vs : List V} {i : Nat}, Reps K F ρ H vs ds → vs[i]? = some v → ∃ d, ds[i]? = some d ∧ Rep K F ρ H v d
  | [], _, _, h, e => by cases h; simp at e
  | _ :: _, _, 0, h, e => by cases h with | cons h1 h2 => exact ⟨_, rfl, by simp at e; subst e; exact h1⟩
  | _ :: _, _, i + 1, h, e => by
    cases h with
    | cons h1 h2 =>
      obtain ⟨d, e1, r⟩ := Reps.get' (v := v) (i := i) h2 (by simpa using e)
      exact ⟨d, by simpa using e1, r⟩
theorem Reps.append : ∀ {ds es : List D} {vs us : List V}, Reps K F ρ H vs ds → Reps K F ρ H us es → Reps K F ρ H (vs ++ us) (ds ++ es)
  | [], _, _, _, h, h' => by cases h; exact h'
  | _ :: _, _, _, _, h, h' => by cases h with | cons h1 h2 => exact .cons h1 (Reps.append h2 h')
theorem Reps.take : ∀ (n : Nat) {ds : List D} {vs : List V}, Reps K F ρ H vs ds → Reps K F ρ H (vs.take n) (ds.take n)
  | 0, _, _, h => by simp only [List.take_zero]; exact .nil
  | n + 1, _, _, h => by
    cases h with
    | nil => exact .nil
    | cons h1 h2 => exact .cons h1 (Reps.take n h2)
theorem Reps.drop : ∀ (n : Nat) {ds : List D} {vs : List V}, Reps K F ρ H vs ds → Reps K F ρ H (vs.drop n) (ds.drop n)
  | 0, _, _, h => h
  | n + 1, _, _, h => by
    cases h with
    | nil => exact .nil
    | cons h1 h2 => exact Reps.drop n h2
theorem Reps.reverse {ds : List D} {vs : List V} (h : Reps K F ρ H vs ds) : Reps K F ρ H vs.reverse ds.reverse := by
  induction ds generalizing vs with
  | nil => cases h; exact .nil
  | cons d ds ih =>
    cases h with
    | cons h1 h2 =>
      rw [List.reverse_cons, List.reverse_cons]
      exact (ih h2).append (.cons h1 .nil)
theorem Reps.set {v : V} {d : D} (r : Rep K F ρ H v d) : ∀ {ds : List D} {vs : List V} (i : Nat), Reps K F ρ H vs ds → Reps K F ρ H (vs.set i v) (ds.set i d)
  | [], _, _, h => by cases h; exact .nil
  | _ :: _, _, 0, h => by cases h with | cons h1 h2 => exact .cons r h2
  | _ :: _, _, i + 1, h => by cases h with | cons h1 h2 => exact .cons h1 (Reps.set r i h2)
theorem RepK.length {vs : List (Key × V)} {ds : List (Key × D)} (h : RepK K F ρ H vs ds) : vs.length = ds.length := by
  induction ds generalizing vs with
  | nil => cases h; rfl
  | cons d ds ih => cases h with | cons h1 h2 => rw [List.length_cons, List.length_cons, ih h2]
theorem RepT.length {vs : List (List Key × V)} {ds : List (List Key × D)} (h : RepT K F ρ H vs ds) : vs.length = ds.length := by
  induction ds generalizing vs with
  | nil => cases h; rfl
  | cons d ds ih => cases h with | cons h1 h2 => rw [List.length_cons, List.length_cons, ih h2]
end

/-! ### owned and stored objects -/
/-- a list or dict at a, to be written -/
inductive CRep (K : PySem.W.Frag) (F : Addr → Prop) (ρ : List Addr) (H : Hp) (a : Addr) : D → Prop
  | lst {vs : List V} {ds : List D} : H a = some (.lst vs) → Reps K F ρ H vs ds → CRep K F ρ H a (.lst ds)
  | dk {kvs : List (Key × V)} {kds : List (Key × D)} : H a = some (.dK kvs) → RepK K F ρ H kvs kds → CRep K F ρ H a (.dk kds)
  | dt {kvs : List (List Key × V)} {kds : List (List Key × D)} : H a = some (.dT kvs) → RepT K F ρ H kvs kds → CRep K F ρ H a (.dt kds)
inductive RepF (K : PySem.W.Frag) (F : Addr → Prop) (ρ : List Addr) (H : Hp) : List (Str × V) → List (Str × D) → Prop
  | nil : RepF K F ρ H [] []
  | cons {k : Str} {v : V} {vs : List (Str × V)} {d : D} {ds : List (Str × D)} : Rep K F ρ H v d → RepF K F ρ H vs ds → RepF K F ρ H ((k, v) :: vs) ((k, d) :: ds)
def SRep (K : PySem.W.Frag) (mg : Str → Option Value) (F : Addr → Prop) (ρ : List Addr) (H : Hp) (a : Addr) : SO → Prop
  | .obj d => CRep K F ρ H a d
  | .ins c fs => ∃ C dx gs, mg c = some (.ref C) ∧ H a = some (.ins C dx gs) ∧ RepF K F ρ H gs fs

structure Wld (K : PySem.W.Frag) (mg : Str → Option Value) (F : Addr → Prop) (ρ : List Addr) (st : Sto) (H : Hp) : Prop where
  len : ρ.length = st.length
  nd : ρ.Nodup
  nF : ∀ a ∈ ρ, ¬ F a
  tr : ∀ a, F a → H a ≠ none
  so : ∀ (i : Nat) (a : Addr) (o : SO), ρ[i]? = some a → st[i]? = some o → SRep K mg F ρ H a o

/-- from the entry of a def to where it stands: what others own is kept -/
structure Ext (F : Addr → Prop) (ρ : List Addr) (H : Hp) (F' : Addr → Prop) (ρ' : List Addr) (H' : Hp) : Prop extends Le F ρ H F' ρ' H' where
  keep : ∀ a o, H a = some o → ¬ F a → a ∉ ρ → H' a = some o
  newF : ∀ a, F' a → F a ∨ H a = none
  newR : ∀ a, a ∈ ρ' → a ∈ ρ ∨ H a = none
  there : ∀ a, H a ≠ none → H' a ≠ none
theorem Ext.refl {F : Addr → Prop} {ρ : List Addr} {H : Hp} : Ext F ρ H F ρ H := ⟨Le.refl, fun _ _ h _ _ => h, fun _ h => .inl h, fun _ h => .inl h, fun _ h => h⟩
theorem Ext.trans {F F' F2 : Addr → Prop} {ρ ρ' ρ2 : List Addr} {H H' H2 : Hp} (a : Ext F ρ H F' ρ' H') (b : Ext F' ρ' H' F2 ρ2 H2) : Ext F ρ H F2 ρ2 H2 where
  toLe := a.toLe.trans b.toLe
  keep := fun c o h n m => b.keep c o (a.keep c o h n m) (fun z => by
    rcases a.newF c z with z | z
    · exact n z
    · rw [h] at z; cases z) fun z => by
    rcases a.newR c z with z | z
    · exact m z
    · rw [h] at z; cases z
  newF := fun c h => by
    rcases b.newF c h with h | h
    · exact a.newF c h
    · refine .inr ?_
      cases q : H c with
      | none => rfl
      | some o => exact absurd h (a.there c (by rw [q]; exact fun z => nomatch z))
  newR := fun c h => by
    rcases b.newR c h with h | h
    · exact a.newR c h
    · refine .inr ?_
      cases q : H c with
      | none => rfl
      | some o => exact absurd h (a.there c (by rw [q]; exact fun z => nomatch z))
  there := fun c h => b.there c (a.there c h)

/-- the entry of a def, and what is wanted of an exception -/
structure Dx where
  F : Addr → Prop
  ρ : List Addr
  H : Hp
  W : WX
/-- a slot is as the env says -/
def SlotOk (K : PySem.W.Frag) (c : Dx) (F : Addr → Prop) (ρ : List Addr) (H : Hp) (v : Option V) : SV → Prop
  | .val d => ∃ x, v = some x ∧ Rep K F ρ H x d
  | .own d => ∃ a, v = some (.ref a) ∧ CRep K F ρ H a d ∧ ¬ F a ∧ a ∉ ρ ∧ c.H a = none
structure R (K : PySem.W.Frag) (mg : Str → Option Value) (c : Dx) (F : Addr → Prop) (ρ : List Addr) (e : Sl) (st : Sto) (σ : St) (H : Hp) : Prop where
  w : Wld K mg F ρ st H
  x : Ext c.F c.ρ c.H F ρ H
  len : e.length = σ.length
  slot : ∀ (i : Nat) s, e[i]? = some (some s) → ∃ v, σ[i]? = some v ∧ SlotOk K c F ρ H v s
  dist : ∀ (i j : Nat) d d' a, i ≠ j → e[i]? = some (some (.own d)) → e[j]? = some (some (.own d')) → σ[i]? = some (some (.ref a)) → σ[j]? ≠ some (some (.ref a))
/-- a value that an expression gives -/
def RepX (K : PySem.W.Frag) (F : Addr → Prop) (ρ : List Addr) (H : Hp) (σ : St) (v : V) (d : D) : Prop := (∃ i a, d = .own i ∧ v = .ref a ∧ σ[i]? = some (some (.ref a))) ∨ Rep K F ρ H v d
/-- a value handed back -/
def RetRep (K : PySem.W.Frag) (F : Addr → Prop) (ρ : List Addr) (H H0 : Hp) (v : V) : RV → Prop
  | .val d => Rep K F ρ H v d
  | .new d => ∃ a, v = .ref a ∧ CRep K F ρ H a d ∧ ¬ F a ∧ a ∉ ρ ∧ H0 a = none
/-- the object that an owning slot owns -/
def OwnAt (e : Sl) (σ : St) (a : Addr) : Prop := ∃ (i : Nat) (d : D), e[i]? = some (some (.own d)) ∧ σ[i]? = some (some (.ref a))
/-- an expression's step: nothing that is owned is written -/
structure LeE (e e' : Sl) (σ : St) (F : Addr → Prop) (ρ : List Addr) (H : Hp) (F' : Addr → Prop) (ρ' : List Addr) (H' : Hp) : Prop extends Le F ρ H F' ρ' H' where
  ow : ∀ (i : Nat) (d : D), e'[i]? = some (some (.own d)) → e[i]? = some (some (.own d))
  keep : ∀ a o, H a = some o → ¬ F a → a ∉ ρ → ¬ OwnAt e σ a → H' a = some o
  newF : ∀ a, F' a → F a ∨ H a = none ∨ OwnAt e σ a
  newR : ∀ a, a ∈ ρ' → a ∈ ρ ∨ H a = none
  there : ∀ a, H a ≠ none → H' a ≠ none

/-! ### the canonical readings -/
def EPost (K : PySem.W.Frag) (mg : Str → Option Value) (c : Dx) (e : Sl) (σ : St) (F : Addr → Prop) (ρ : List Addr) (H : Hp) (Q : VK) : ER → Prop
  | .ok d e' st' => ∀ F' ρ' H' v, LeE e e' σ F ρ H F' ρ' H' → R K mg c F' ρ' e' st' σ H' → RepX K F' ρ' H' σ v d → Q v H'
  | .exc k e' st' => ∀ F' ρ' H' C, R K mg c F' ρ' e' st' σ H' → mg k = some (.ref C) → c.W (.ref C) none σ H'
  | .stuck => False
def tED (K : PySem.W.Frag) (mg : Str → Option Value) (c : Dx) (f : EF) : TE := fun σ H Q => ∃ F ρ e st, R K mg c F ρ e st σ H ∧ EPost K mg c e σ F ρ H Q (f e st)
abbrev DE (c : Dx) (X : Cx) (e : Expr) (f : EF) : Prop := PE X e (tED X.K X.mg c f)
def TPost (K : PySem.W.Frag) (mg : Str → Option Value) (c : Dx) (e : Sl) (σ : St) (F : Addr → Prop) (ρ : List Addr) (H : Hp) (Q : Bool → Hp → Prop) : ER → Prop
  | .ok (.bl b) e' st' => ∀ F' ρ' H', LeE e e' σ F ρ H F' ρ' H' → R K mg c F' ρ' e' st' σ H' → Q b H'
  | .ok _ _ _ => False
  | .exc k e' st' => ∀ F' ρ' H' C, R K mg c F' ρ' e' st' σ H' → mg k = some (.ref C) → c.W (.ref C) none σ H'
  | .stuck => False
def tTD (K : PySem.W.Frag) (mg : Str → Option Value) (c : Dx) (f : EF) : TT := fun σ H Q => ∃ F ρ e st, R K mg c F ρ e st σ H ∧ TPost K mg c e σ F ρ H Q (f e st)
abbrev DT (c : Dx) (X : Cx) (e : Expr) (f : EF) : Prop := PT X e (tTD X.K X.mg c f)
/-- arguments: a list of pure values -/
inductive AR where
  | ok (ds : List D) (e : Sl) (s : Sto) | exc (k : Str) (e : Sl) (s : Sto) | stuck
abbrev AF := Sl → Sto → AR
def APost (K : PySem.W.Frag) (mg : Str → Option Value) (c : Dx) (e : Sl) (σ : St) (F : Addr → Prop) (ρ : List Addr) (H : Hp) (Q : List V → Hp → Prop) : AR → Prop
  | .ok ds e' st' => ∀ F' ρ' H' vs, LeE e e' σ F ρ H F' ρ' H' → R K mg c F' ρ' e' st' σ H' → Reps K F' ρ' H' vs ds → Q vs H'
  | .exc k e' st' => ∀ F' ρ' H' C, R K mg c F' ρ' e' st' σ H' → mg k = some (.ref C) → c.W (.ref C) none σ H'
  | .stuck => False
def tAD (K : PySem.W.Frag) (mg : Str → Option Value) (c : Dx) (f : AF) : TA := fun σ H Q => ∃ F ρ e st, R K mg c F ρ e st σ H ∧ APost K mg c e σ F ρ H Q (f e st)
abbrev DA (c : Dx) (X : Cx) (es : List Expr) (f : AF) : Prop := PA X es (tAD X.K X.mg c f)
def SPost (K : PySem.W.Frag) (mg : Str → Option Value) (c : Dx) (F : Addr → Prop) (ρ : List Addr) (H : Hp) (D : Ends) : OR → Prop
  | .nx e' st' => ∀ F' ρ' σ' H', Le F ρ H F' ρ' H' → R K mg c F' ρ' e' st' σ' H' → D.nx σ' H'
  | .bk e' st' => ∀ F' ρ' σ' H', Le F ρ H F' ρ' H' → R K mg c F' ρ' e' st' σ' H' → D.bk σ' H'
  | .ct e' st' => ∀ F' ρ' σ' H', Le F ρ H F' ρ' H' → R K mg c F' ρ' e' st' σ' H' → D.ct σ' H'
  | .rt r st' => ∀ F' ρ' H' v, Wld K mg F' ρ' st' H' → Ext c.F c.ρ c.H F' ρ' H' → RetRep K F' ρ' H' c.H v r → D.rt v H'
  | .exc k e' st' => ∀ F' ρ' σ' H' C, R K mg c F' ρ' e' st' σ' H' → mg k = some (.ref C) → c.W (.ref C) none σ' H'
  | .stuck => False
def tSD (K : PySem.W.Frag) (mg : Str → Option Value) (c : Dx) (g : SF) : TS := fun D σ H => ∃ F ρ e st, R K mg c F ρ e st σ H ∧ SPost K mg c F ρ H D (g e st)
abbrev DS (c : Dx) (X : Cx) (s : Stmt) (g : SF) : Prop := PS X s (tSD X.K X.mg c g)
abbrev DSs (c : Dx) (X : Cx) (s : List Stmt) (g : SF) : Prop := PSs X s (tSD X.K X.mg c g)

/-! ### a def's promise -/
def FPost (K : PySem.W.Frag) (mg : Str → Option Value) (F : Addr → Prop) (ρ : List Addr) (H : Hp) (Q : VK) (E : XK) : FR → Prop
  | .ok r st' => ∀ F' ρ' H' v, Ext F ρ H F' ρ' H' → Wld K mg F' ρ' st' H' → RetRep K F' ρ' H' H v r → Q v H'
  | .exc k st' => ∀ F' ρ' H' C, Ext F ρ H F' ρ' H' → Wld K mg F' ρ' st' H' → mg k = some (.ref C) → E (.ref C) none H'
  | .stuck => False
def spD (K : PySem.W.Frag) (mg : Str → Option Value) (n : Nat) (fn : Fn) : Sp := fun vs H Q E => ∃ F ρ st ds, vs.length = n ∧ Wld K mg F ρ st H ∧ Reps K F ρ H vs ds ∧ FPost K mg F ρ H Q E (fn ds st)
end DL
end
section
set_option Elab.async false
set_option linter.all false
set_option maxRecDepth 100000
set_option maxHeartbeats 4000000
set_option autoImplicit false
/-! DLB: the world's steps: allocation, freezing, stores, calls. -/
namespace DL
open PySem PySem.Spec L2
open PyProof.Rows hiding St
section
variable {K : PySem.W.Frag} {mg : Str → Option Value} {c : Dx} {F F' F2 : Addr → Prop} {ρ ρ' ρ2 : List Addr} {H H' H2 : Hp} {e e' e2 : Sl} {σ σ' : St} {st st' : Sto}

theorem nd_at {α : Type} : ∀ {l : List α} {i j : Nat} {x : α}, l.Nodup → l[i]? = some x → l[j]? = some x → i = j
  | [], _, _, _, _, h, _ => by simp at h
  | _ :: _, 0, 0, _, _, _, _ => rfl
  | y :: r, 0, j + 1, x, n, h, h' => by
    simp at h h'
    subst h
    exact absurd (List.mem_of_getElem? h') (List.nodup_cons.mp n).1
  | y :: r, i + 1, 0, x, n, h, h' => by
    simp at h h'
    subst h'
    exact absurd (List.mem_of_getElem? h) (List.nodup_cons.mp n).1
  | y :: r, i + 1, j + 1, x, n, h, h' => by
    simp at h h'
    exact congrArg (· + 1) (nd_at (List.nodup_cons.mp n).2 h h')
theorem some_ne {H : Hp} {a : Addr} {o : HO} (h : H a = some o) : H a ≠ none := by rw [h]; exact fun z => nomatch z
theorem LeE.refl : LeE e e σ F ρ H F ρ H := ⟨Le.refl, fun _ _ h => h, fun _ _ h _ _ _ => h, fun _ h => .inl h, fun _ h => .inl h, fun _ h => h⟩
theorem LeE.trans (a : LeE e e' σ F ρ H F' ρ' H') (b : LeE e' e2 σ F' ρ' H' F2 ρ2 H2) : LeE e e2 σ F ρ H F2 ρ2 H2 where
  toLe := a.toLe.trans b.toLe
  ow := fun i d h => a.ow i d (b.ow i d h)
  keep := fun x o h n m no => by
    refine b.keep x o (a.keep x o h n m no) (fun q => ?_) (fun z => ?_) fun z => ?_
    · rcases a.newF x q with z | z | z
      · exact n z
      · rw [h] at z; cases z
      · exact no z
    · rcases a.newR x z with z | z
      · exact m z
      · rw [h] at z; cases z
    · obtain ⟨i, d, h1, h2⟩ := z
      exact no ⟨i, d, a.ow i d h1, h2⟩
  newF := fun x h => by
    rcases b.newF x h with h | h | h
    · exact a.newF x h
    · refine .inr (.inl ?_)
      cases q : H x with
      | none => rfl
      | some o => exact absurd h (a.there x (some_ne q))
    · obtain ⟨i, d, h1, h2⟩ := h
      exact .inr (.inr ⟨i, d, a.ow i d h1, h2⟩)
  newR := fun x h => by
    rcases b.newR x h with h | h
    · exact a.newR x h
    · refine .inr ?_
      cases q : H x with
      | none => rfl
      | some o => exact absurd h (a.there x (some_ne q))
  there := fun x h => b.there x (a.there x h)
theorem Ext.toLeE (x : Ext F ρ H F' ρ' H') : LeE e e σ F ρ H F' ρ' H' :=
  ⟨x.toLe, fun _ _ h => h, fun a o h n m _ => x.keep a o h n m, fun a h => (x.newF a h).elim .inl fun z => .inr (.inl z), x.newR, x.there⟩

theorem CRep.mono {a : Addr} {d : D} (le : Le F ρ H F' ρ' H') (k : ∀ o, H a = some o → H' a = some o) (h : CRep K F ρ H a d) : CRep K F' ρ' H' a d := by
  cases h with
  | lst h1 h2 => exact .lst (k _ h1) (h2.mono le)
  | dk h1 h2 => exact .dk (k _ h1) (h2.mono le)
  | dt h1 h2 => exact .dt (k _ h1) (h2.mono le)
theorem CRep.some {a : Addr} {d : D} (h : CRep K F ρ H a d) : ∃ o, H a = some o := by
  cases h with
  | lst h1 h2 => exact ⟨_, h1⟩
  | dk h1 h2 => exact ⟨_, h1⟩
  | dt h1 h2 => exact ⟨_, h1⟩
theorem RepF.mono (le : Le F ρ H F' ρ' H') : ∀ {ds : List (Str × D)} {vs : List (Str × V)}, RepF K F ρ H vs ds → RepF K F' ρ' H' vs ds
  | [], _, h => by cases h; exact .nil
  | (_, _) :: _, _, h => by cases h with | cons h1 h2 => exact .cons (Rep.mono le h1) (RepF.mono le h2)
theorem SRep.mono {a : Addr} {o : SO} (le : Le F ρ H F' ρ' H') (k : ∀ o, H a = some o → H' a = some o) (h : SRep K mg F ρ H a o) : SRep K mg F' ρ' H' a o := by
  cases o with
  | obj d => exact CRep.mono (d := d) le k h
  | ins cl fs =>
    obtain ⟨C, dx, gs, h1, h2, h3⟩ := h
    exact ⟨C, dx, gs, h1, k _ h2, h3.mono le⟩
theorem SRep.some {a : Addr} {o : SO} (h : SRep K mg F ρ H a o) : ∃ o, H a = some o := by
  cases o with
  | obj d => exact CRep.some (d := d) h
  | ins cl fs => obtain ⟨C, dx, gs, h1, h2, h3⟩ := h; exact ⟨_, h2⟩
theorem SlotOk.mono {v : Option V} {s : SV} (le : Le F ρ H F' ρ' H') (k : ∀ a o, s = .own o → v = some (.ref a) → (∀ u, H a = some u → H' a = some u) ∧ ¬ F' a ∧ a ∉ ρ') (h : SlotOk K c F ρ H v s) : SlotOk K c F' ρ' H' v s := by
  cases s with
  | val d => obtain ⟨x, h1, h2⟩ := h; exact ⟨x, h1, h2.mono le⟩
  | own d =>
    obtain ⟨a, h1, h2, h3, h4, h5⟩ := h
    obtain ⟨k1, k2, k3⟩ := k a d rfl h1
    exact ⟨a, h1, h2.mono le k1, k2, k3, h5⟩
theorem Wld.mem (w : Wld K mg F ρ st H) {a : Addr} (h : a ∈ ρ) : ∃ o, H a = some o := by
  obtain ⟨i, hi⟩ := List.getElem?_of_mem h
  have hl : i < st.length := by rw [← w.len]; exact (List.getElem?_eq_some_iff.mp hi).1
  exact (w.so i a _ hi (List.getElem?_eq_getElem hl)).some
theorem R.own (r : R K mg c F ρ e st σ H) {a : Addr} (h : OwnAt e σ a) : ∃ d, CRep K F ρ H a d ∧ ¬ F a ∧ a ∉ ρ ∧ c.H a = none := by
  obtain ⟨i, d, h1, h2⟩ := h
  obtain ⟨v, e1, b, e2, h3, h4, h5, h6⟩ := r.slot i _ h1
  rw [h2] at e1
  cases e1
  cases e2
  exact ⟨d, h3, h4, h5, h6⟩
/-- behind a call -/
theorem R.ext (r : R K mg c F ρ e st σ H) (x : Ext F ρ H F' ρ' H') (w : Wld K mg F' ρ' st' H') : R K mg c F' ρ' e st' σ H' := by
  refine ⟨w, r.x.trans x, r.len, fun i s hs => ?_, r.dist⟩
  obtain ⟨v, e1, h⟩ := r.slot i s hs
  refine ⟨v, e1, h.mono x.toLe fun a o hs' hv => ?_⟩
  subst hs'
  obtain ⟨b, e2, h3, h4, h5, h6⟩ := h
  rw [e2] at hv
  cases hv
  obtain ⟨o', ho'⟩ := h3.some
  refine ⟨fun u hu => x.keep a u hu h4 h5, fun z => ?_, fun z => ?_⟩
  · rcases x.newF a z with z | z
    · exact h4 z
    · rw [ho'] at z; cases z
  · rcases x.newR a z with z | z
    · exact h5 z
    · rw [ho'] at z; cases z

theorem le_upd {a : Addr} {o : HO} (h : ¬ F a) : Le F ρ H F ρ (upd H a o) :=
  ⟨fun _ z => z, fun b u z r => by
    have nb : b ≠ a := fun q => h (q ▸ z)
    rcases r with r | ⟨q, r⟩
    · exact .inl (by rw [upd_ne nb]; exact r)
    · exact .inr ⟨q, by rw [upd_ne nb]; exact r⟩, fun b u z r => by
    have nb : b ≠ a := fun q => h (q ▸ z)
    rw [upd_ne nb]; exact r, fun b u z r => by
    have nb : b ≠ a := fun q => h (q ▸ z)
    rw [upd_ne nb]; exact r, fun _ _ z => z⟩
theorem le_fz {a : Addr} : Le F ρ H (fun b => F b ∨ b = a) ρ H := ⟨fun _ z => .inl z, fun _ _ _ r => r, fun _ _ _ r => r, fun _ _ _ r => r, fun _ _ z => z⟩
theorem there_upd {a b : Addr} {o : HO} (h : H b ≠ none) : upd H a o b ≠ none := by
  unfold upd
  split
  · exact fun z => nomatch z
  · exact h

/-- a new object that is known from then on -/
theorem alloc (w : Wld K mg F ρ st H) {p : Addr} {o : HO} (hp : H p = none) :
    Wld K mg (fun b => F b ∨ b = p) ρ st (upd H p o) ∧ Ext F ρ H (fun b => F b ∨ b = p) ρ (upd H p o) := by
  have hF : ¬ F p := fun z => w.tr p z hp
  have hR : p ∉ ρ := fun z => by obtain ⟨o, q⟩ := w.mem z; rw [hp] at q; cases q
  have le : Le F ρ H (fun b => F b ∨ b = p) ρ (upd H p o) := (le_upd hF).trans le_fz
  refine ⟨⟨w.len, w.nd, fun a ha z => ?_, fun a ha => ?_, fun i a s h1 h2 => ?_⟩, ⟨le, fun a u h _ _ => ?_, fun a z => ?_, fun a z => .inl z, fun a z => there_upd z⟩⟩
  · rcases z with z | z
    · exact w.nF a ha z
    · exact hR (z ▸ ha)
  · rcases ha with z | z
    · exact there_upd (w.tr a z)
    · subst z; rw [upd_same]; exact fun q => nomatch q
  · refine (w.so i a s h1 h2).mono le fun u hu => ?_
    rw [upd_ne (ne_of_none hu hp)]
    exact hu
  · rw [upd_ne (ne_of_none h hp)]
    exact h
  · rcases z with z | z
    · exact .inl z
    · exact .inr (z ▸ hp)
/-- a new object, owned by nobody yet -/
theorem allocW (w : Wld K mg F ρ st H) {p : Addr} {o : HO} (hp : H p = none) :
    Wld K mg F ρ st (upd H p o) ∧ Ext F ρ H F ρ (upd H p o) ∧ ¬ F p ∧ p ∉ ρ := by
  have hF : ¬ F p := fun z => w.tr p z hp
  have hR : p ∉ ρ := fun z => by obtain ⟨o, q⟩ := w.mem z; rw [hp] at q; cases q
  have le : Le F ρ H F ρ (upd H p o) := le_upd hF
  refine ⟨⟨w.len, w.nd, w.nF, fun a z => there_upd (w.tr a z), fun i a s h1 h2 => ?_⟩, ⟨le, fun a u h _ _ => ?_, fun a z => .inl z, fun a z => .inl z, fun a z => there_upd z⟩, hF, hR⟩
  · refine (w.so i a s h1 h2).mono le fun u hu => ?_
    rw [upd_ne (ne_of_none hu hp)]
    exact hu
  · rw [upd_ne (ne_of_none h hp)]
    exact h
/-- a new object of the store -/
theorem allocS (w : Wld K mg F ρ st H) {p : Addr} {o : HO} {so : SO} (hp : H p = none) (hs : SRep K mg F (ρ ++ [p]) (upd H p o) p so) :
    Wld K mg F (ρ ++ [p]) (st ++ [so]) (upd H p o) ∧ Ext F ρ H F (ρ ++ [p]) (upd H p o) := by
  have hF : ¬ F p := fun z => w.tr p z hp
  have hR : p ∉ ρ := fun z => by obtain ⟨o, q⟩ := w.mem z; rw [hp] at q; cases q
  have le : Le F ρ H F (ρ ++ [p]) (upd H p o) := (le_upd hF).trans ⟨fun _ z => z, fun _ _ _ z => z, fun _ _ _ z => z, fun _ _ _ z => z, fun i a z => by
    rw [List.getElem?_append_left (List.getElem?_eq_some_iff.mp z).1]; exact z⟩
  refine ⟨⟨by simp [w.len], ?_, fun a ha => ?_, fun a z => there_upd (w.tr a z), fun i a s h1 h2 => ?_⟩, ⟨le, fun a u h _ _ => ?_, fun a z => .inl z, fun a z => ?_, fun a z => there_upd z⟩⟩
  · refine List.nodup_append.mpr ⟨w.nd, by simp, fun a ha b hb => ?_⟩
    simp only [List.mem_singleton] at hb
    subst hb
    exact fun q => hR (q ▸ ha)
  · rcases List.mem_append.mp ha with z | z
    · exact w.nF a z
    · simp only [List.mem_singleton] at z; subst z; exact hF
  · by_cases hi : i < ρ.length
    · rw [List.getElem?_append_left hi] at h1
      rw [List.getElem?_append_left (by rw [← w.len]; exact hi)] at h2
      refine (w.so i a s h1 h2).mono le fun u hu => ?_
      rw [upd_ne (ne_of_none hu hp)]
      exact hu
    · have hi2 : i = ρ.length := by
        have q := (List.getElem?_eq_some_iff.mp h1).1
        rw [List.length_append, List.length_singleton] at q
        omega
      subst hi2
      rw [List.getElem?_append_right (Nat.le_refl _), Nat.sub_self] at h1
      rw [w.len, List.getElem?_append_right (Nat.le_refl _), Nat.sub_self] at h2
      cases h1
      cases h2
      exact hs
  · rw [upd_ne (ne_of_none h hp)]
    exact h
  · rcases List.mem_append.mp z with z | z
    · exact .inl z
    · simp only [List.mem_singleton] at z; subst z; exact .inr hp
/-- an object of the store is written -/
theorem writeS (w : Wld K mg F ρ st H) {i : Nat} {a : Addr} {o : HO} {so : SO} (hi : ρ[i]? = some a) (hs : SRep K mg F ρ (upd H a o) a so) :
    Wld K mg F ρ (st.set i so) (upd H a o) ∧ Ext F ρ H F ρ (upd H a o) := by
  have ha : a ∈ ρ := List.mem_of_getElem? hi
  have hF : ¬ F a := w.nF a ha
  have le : Le F ρ H F ρ (upd H a o) := le_upd hF
  refine ⟨⟨by rw [List.length_set]; exact w.len, w.nd, w.nF, fun b z => there_upd (w.tr b z), fun j b s h1 h2 => ?_⟩, ⟨le, fun b u h n m => ?_, fun b z => .inl z, fun b z => .inl z, fun b z => there_upd z⟩⟩
  · by_cases hj : i = j
    · subst hj
      rw [hi] at h1
      cases h1
      have hl : i < st.length := by rw [← w.len]; exact (List.getElem?_eq_some_iff.mp hi).1
      rw [List.getElem?_set_self hl] at h2
      cases h2
      exact hs
    · rw [List.getElem?_set_ne hj] at h2
      have nb : b ≠ a := fun q => by
        subst q
        exact hj (nd_at w.nd hi h1)
      refine (w.so j b s h1 h2).mono le fun u hu => ?_
      rw [upd_ne nb]
      exact hu
  · have nb : b ≠ a := fun q => m (q ▸ ha)
    rw [upd_ne nb]
    exact h

/-! ### slots -/
theorem R.setVal (r : R K mg c F ρ e st σ H) {i : Nat} {v : V} {d : D} (hv : Rep K F ρ H v d) : R K mg c F ρ (e.set i (some (.val d))) st (σ.set i (some v)) H := by
  refine ⟨r.w, r.x, by rw [List.length_set, List.length_set]; exact r.len, fun j s hs => ?_, fun j k d1 d2 a hjk h1 h2 h3 h4 => ?_⟩
  · by_cases hj : i = j
    · subst hj
      have hl : i < e.length := by
        have := (List.getElem?_eq_some_iff.mp hs).1
        rwa [List.length_set] at this
      rw [List.getElem?_set_self hl] at hs
      cases hs
      exact ⟨_, List.getElem?_set_self (by rw [← r.len]; exact hl), v, rfl, hv⟩
    · rw [List.getElem?_set_ne hj] at hs
      rw [List.getElem?_set_ne hj]
      exact r.slot j s hs
  · have hj : i ≠ j := fun q => by
      subst q
      have hl : i < e.length := by
        have := (List.getElem?_eq_some_iff.mp h1).1
        rwa [List.length_set] at this
      rw [List.getElem?_set_self hl] at h1
      cases h1
    have hk : i ≠ k := fun q => by
      subst q
      have hl : i < e.length := by
        have := (List.getElem?_eq_some_iff.mp h2).1
        rwa [List.length_set] at this
      rw [List.getElem?_set_self hl] at h2
      cases h2
    rw [List.getElem?_set_ne hj] at h1 h3
    rw [List.getElem?_set_ne hk] at h2 h4
    exact r.dist j k d1 d2 a hjk h1 h2 h3 h4
theorem R.setOwn (r : R K mg c F ρ e st σ H) {i : Nat} {a : Addr} {d : D} (hv : CRep K F ρ H a d) (hF : ¬ F a) (hR : a ∉ ρ) (h0 : c.H a = none) (hn : ¬ OwnAt e σ a) :
    R K mg c F ρ (e.set i (some (.own d))) st (σ.set i (some (.ref a))) H := by
  refine ⟨r.w, r.x, by rw [List.length_set, List.length_set]; exact r.len, fun j s hs => ?_, fun j k d1 d2 b hjk h1 h2 h3 h4 => ?_⟩
  · by_cases hj : i = j
    · subst hj
      have hl : i < e.length := by
        have := (List.getElem?_eq_some_iff.mp hs).1
        rwa [List.length_set] at this
      rw [List.getElem?_set_self hl] at hs
      cases hs
      exact ⟨_, List.getElem?_set_self (by rw [← r.len]; exact hl), a, rfl, hv, hF, hR, h0⟩
    · rw [List.getElem?_set_ne hj] at hs
      rw [List.getElem?_set_ne hj]
      exact r.slot j s hs
  · by_cases hj : i = j
    · subst hj
      have hl : i < σ.length := by
        have := (List.getElem?_eq_some_iff.mp h3).1
        rwa [List.length_set] at this
      rw [List.getElem?_set_self hl] at h3
      cases h3
      rw [List.getElem?_set_ne hjk] at h2 h4
      exact hn ⟨k, d2, h2, h4⟩
    · by_cases hk : i = k
      · subst hk
        have hl : i < σ.length := by
          have := (List.getElem?_eq_some_iff.mp h4).1
          rwa [List.length_set] at this
        rw [List.getElem?_set_self hl] at h4
        cases h4
        rw [List.getElem?_set_ne hj] at h1 h3
        exact hn ⟨j, d1, h1, h3⟩
      · rw [List.getElem?_set_ne hj] at h1 h3
        rw [List.getElem?_set_ne hk] at h2 h4
        exact r.dist j k d1 d2 b hjk h1 h2 h3 h4
/-- what a slot owns is written -/
theorem R.writeOwn (r : R K mg c F ρ e st σ H) {i : Nat} {a : Addr} {o : HO} {d d' : D} (hi : e[i]? = some (some (.own d))) (hs : σ[i]? = some (some (.ref a))) (hv : CRep K F ρ (upd H a o) a d') :
    R K mg c F ρ (e.set i (some (.own d'))) st σ (upd H a o) := by
  obtain ⟨d0, hd0, hF, hR, h0⟩ := r.own ⟨i, d, hi, hs⟩
  obtain ⟨o0, ho0⟩ := hd0.some
  have le : Le F ρ H F ρ (upd H a o) := le_upd hF
  refine ⟨⟨r.w.len, r.w.nd, r.w.nF, fun b z => there_upd (r.w.tr b z), fun j b s h1 h2 => ?_⟩, ⟨⟨r.x.sub, fun b u z q => ?_, fun b u z q => ?_, fun b u z q => ?_, r.x.pre⟩, fun b u h n m => ?_, r.x.newF, r.x.newR, fun b z => there_upd (r.x.there b z)⟩, by rw [List.length_set]; exact r.len, fun j s h => ?_, fun j k d1 d2 b hjk h1 h2 h3 h4 => ?_⟩
  · refine (r.w.so j b s h1 h2).mono le fun u hu => ?_
    rw [upd_ne (fun q => by subst q; exact hR (List.mem_of_getElem? h1))]
    exact hu
  · exact le.rd b u (r.x.sub b z) (r.x.rd b u z q)
  · exact le.ls b u (r.x.sub b z) (r.x.ls b u z q)
  · exact le.tp b u (r.x.sub b z) (r.x.tp b u z q)
  · have nb : b ≠ a := fun q => by subst q; rw [h0] at h; cases h
    rw [upd_ne nb]
    exact r.x.keep b u h n m
  · by_cases hj : i = j
    · subst hj
      have hl : i < e.length := by
        have := (List.getElem?_eq_some_iff.mp h).1
        rwa [List.length_set] at this
      rw [List.getElem?_set_self hl] at h
      cases h
      exact ⟨_, hs, a, rfl, hv, hF, hR, h0⟩
    · rw [List.getElem?_set_ne hj] at h
      obtain ⟨v, e1, q⟩ := r.slot j s h
      refine ⟨v, e1, q.mono le fun b o' hs' hv' => ?_⟩
      subst hs'
      obtain ⟨b', e2, q2, q3, q4, q5⟩ := q
      rw [e2] at hv'
      cases hv'
      have nb : b ≠ a := fun z => by
        subst z
        exact r.dist i j _ _ b hj hi h hs (e1.trans (by rw [e2]))
      exact ⟨fun u hu => by rw [upd_ne nb]; exact hu, q3, q4⟩
  · have own' : ∀ (m : Nat) d, (e.set i (some (SV.own d')))[m]? = some (some (.own d)) → ∃ d, e[m]? = some (some (.own d)) := fun m d h => by
      by_cases hm : i = m
      · subst hm; exact ⟨_, hi⟩
      · rw [List.getElem?_set_ne hm] at h; exact ⟨_, h⟩
    obtain ⟨d1', h1⟩ := own' _ _ h1
    obtain ⟨d2', h2⟩ := own' _ _ h2
    exact r.dist j k _ _ b hjk h1 h2 h3 h4
/-- what a slot owns becomes known -/
theorem R.freeze (r : R K mg c F ρ e st σ H) {i : Nat} {a : Addr} {d : D} (hi : e[i]? = some (some (.own d))) (hs : σ[i]? = some (some (.ref a))) :
    R K mg c (fun b => F b ∨ b = a) ρ (e.set i (some (.val d))) st σ H ∧ LeE e (e.set i (some (.val d))) σ F ρ H (fun b => F b ∨ b = a) ρ H ∧ Rep K (fun b => F b ∨ b = a) ρ H (.ref a) d := by
  obtain ⟨v, e1, b, e2, hd, hF, hR, h0⟩ := r.slot i _ hi
  rw [hs] at e1
  cases e1
  cases e2
  obtain ⟨o0, ho0⟩ := hd.some
  have hrep : Rep K (fun b => F b ∨ b = a) ρ H (.ref a) d := by
    cases hd with
    | lst h1 h2 => exact .lst (.inr rfl) h1 (h2.mono le_fz)
    | dk h1 h2 => exact .dk (.inr rfl) (.inl h1) (h2.mono le_fz)
    | dt h1 h2 => exact .dt (.inr rfl) (.inl h1) (h2.mono le_fz)
  have hil : i < e.length := (List.getElem?_eq_some_iff.mp hi).1
  have ow : ∀ (m : Nat) d', (e.set i (some (SV.val d)))[m]? = some (some (.own d')) → e[m]? = some (some (.own d')) ∧ i ≠ m := fun m d' h => by
    by_cases hm : i = m
    · subst hm
      rw [List.getElem?_set_self hil] at h
      cases h
    · rw [List.getElem?_set_ne hm] at h; exact ⟨h, hm⟩
  refine ⟨⟨⟨r.w.len, r.w.nd, fun b hb z => ?_, fun b z => ?_, fun j b s h1 h2 => (r.w.so j b s h1 h2).mono le_fz fun _ h => h⟩, ⟨⟨fun b z => .inl (r.x.sub b z), r.x.rd, r.x.ls, r.x.tp, r.x.pre⟩, r.x.keep, fun b z => ?_, r.x.newR, r.x.there⟩, by rw [List.length_set]; exact r.len, fun j s h => ?_, fun j k d1 d2 b hjk h1 h2 h3 h4 => ?_⟩,
    ⟨le_fz, fun j d' h => (ow j d' h).1, fun b o h _ _ _ => h, fun b z => ?_, fun b z => .inl z, fun b z => z⟩, hrep⟩
  · rcases z with z | z
    · exact r.w.nF b hb z
    · exact hR (z ▸ hb)
  · rcases z with z | z
    · exact r.w.tr b z
    · subst z; exact some_ne ho0
  · rcases z with z | z
    · exact r.x.newF b z
    · exact .inr (z ▸ h0)
  · by_cases hj : i = j
    · subst hj
      rw [List.getElem?_set_self hil] at h
      cases h
      exact ⟨_, hs, _, rfl, hrep⟩
    · rw [List.getElem?_set_ne hj] at h
      obtain ⟨v, e1, q⟩ := r.slot j s h
      refine ⟨v, e1, q.mono le_fz fun b o' hs' hv' => ?_⟩
      subst hs'
      obtain ⟨b', e2, q2, q3, q4, q5⟩ := q
      rw [e2] at hv'
      cases hv'
      refine ⟨fun u hu => hu, fun z => ?_, q4⟩
      rcases z with z | z
      · exact q3 z
      · subst z
        exact r.dist i j _ _ b hj hi h hs (e1.trans (by rw [e2]))
  · exact r.dist j k _ _ b hjk (ow j _ h1).1 (ow k _ h2).1 h3 h4
  · rcases z with z | z
    · exact .inl z
    · exact .inr (.inr ⟨i, d, hi, z ▸ hs⟩)
theorem RepX.mono {v : V} {d : D} (le : Le F ρ H F' ρ' H') (h : RepX K F ρ H σ v d) : RepX K F' ρ' H' σ v d := by
  rcases h with h | h
  · exact .inl h
  · exact .inr (h.mono le)
end
end DL
end
section
set_option Elab.async false
set_option linter.all false
set_option maxRecDepth 100000
set_option maxHeartbeats 4000000
set_option autoImplicit false
/-! DLC: expressions: what each gives, and that it does. -/
namespace DL
open PySem PySem.Spec L2
open PyProof.Rows hiding St

def ER.bind (r : ER) (k : D → Sl → Sto → ER) : ER := match r with | .ok d e s => k d e s | .exc n e s => .exc n e s | .stuck => .stuck
def AR.bind (r : AR) (k : List D → Sl → Sto → ER) : ER := match r with | .ok d e s => k d e s | .exc n e s => .exc n e s | .stuck => .stuck
def ER.bindA (r : ER) (k : D → Sl → Sto → AR) : AR := match r with | .ok d e s => k d e s | .exc n e s => .exc n e s | .stuck => .stuck
def AR.bindA (r : AR) (k : List D → Sl → Sto → AR) : AR := match r with | .ok d e s => k d e s | .exc n e s => .exc n e s | .stuck => .stuck
def ER.bindS (r : ER) (k : D → Sl → Sto → OR) : OR := match r with | .ok d e s => k d e s | .exc n e s => .exc n e s | .stuck => .stuck
def AR.bindS (r : AR) (k : List D → Sl → Sto → OR) : OR := match r with | .ok d e s => k d e s | .exc n e s => .exc n e s | .stuck => .stuck

section
variable {K : PySem.W.Frag} {mg : Str → Option Value} {c : Dx} {F F' F1 F2 : Addr → Prop} {ρ ρ' ρ1 ρ2 : List Addr} {H H' H1 H2 : Hp} {e e' e1 e2 : Sl} {σ σ' : St} {st st' st1 : Sto} {Q Q' : VK}
theorem EPost.imp {r : ER} (h : EPost K mg c e σ F ρ H Q r) (k : ∀ v H', Q v H' → Q' v H') : EPost K mg c e σ F ρ H Q' r := by
  cases r with
  | ok d e' st' => exact fun F' ρ' H' v l r x => k _ _ (h F' ρ' H' v l r x)
  | exc n e' st' => exact h
  | stuck => exact h
theorem EPost.shift {r : ER} (le : LeE e e1 σ F ρ H F1 ρ1 H1) (h : EPost K mg c e σ F ρ H Q r) : EPost K mg c e1 σ F1 ρ1 H1 Q r := by
  cases r with
  | ok d e' st' => exact fun F' ρ' H' v l r x => h F' ρ' H' v (le.trans l) r x
  | exc n e' st' => exact h
  | stuck => exact h
theorem bindE {r : ER} {k : D → Sl → Sto → ER} (h : EPost K mg c e σ F ρ H Q (r.bind k))
    (q : ∀ F1 ρ1 e1 st1 H1 v d, LeE e e1 σ F ρ H F1 ρ1 H1 → R K mg c F1 ρ1 e1 st1 σ H1 → RepX K F1 ρ1 H1 σ v d → EPost K mg c e1 σ F1 ρ1 H1 Q (k d e1 st1) → Q' v H1) : EPost K mg c e σ F ρ H Q' r := by
  cases r with
  | ok d e' st' => exact fun F' ρ' H' v l r x => q F' ρ' e' st' H' v d l r x (EPost.shift (r := k d e' st') l h)
  | exc n e' st' => exact h
  | stuck => exact h
theorem bindA {r : AR} {k : List D → Sl → Sto → ER} {Q' : List V → Hp → Prop} (h : EPost K mg c e σ F ρ H Q (r.bind k))
    (q : ∀ F1 ρ1 e1 st1 H1 vs ds, LeE e e1 σ F ρ H F1 ρ1 H1 → R K mg c F1 ρ1 e1 st1 σ H1 → Reps K F1 ρ1 H1 vs ds → EPost K mg c e1 σ F1 ρ1 H1 Q (k ds e1 st1) → Q' vs H1) : APost K mg c e σ F ρ H Q' r := by
  cases r with
  | ok d e' st' => exact fun F' ρ' H' v l r x => q F' ρ' e' st' H' v d l r x (EPost.shift (r := k d e' st') l h)
  | exc n e' st' => exact h
  | stuck => exact h
theorem APost.imp {r : AR} {Q Q' : List V → Hp → Prop} (h : APost K mg c e σ F ρ H Q r) (k : ∀ v H', Q v H' → Q' v H') : APost K mg c e σ F ρ H Q' r := by
  cases r with
  | ok d e' st' => exact fun F' ρ' H' v l r x => k _ _ (h F' ρ' H' v l r x)
  | exc n e' st' => exact h
  | stuck => exact h
theorem APost.shift {r : AR} {Q : List V → Hp → Prop} (le : LeE e e1 σ F ρ H F1 ρ1 H1) (h : APost K mg c e σ F ρ H Q r) : APost K mg c e1 σ F1 ρ1 H1 Q r := by
  cases r with
  | ok d e' st' => exact fun F' ρ' H' v l r x => h F' ρ' H' v (le.trans l) r x
  | exc n e' st' => exact h
  | stuck => exact h
theorem bindEA {r : ER} {k : D → Sl → Sto → AR} {Q : List V → Hp → Prop} (h : APost K mg c e σ F ρ H Q (r.bindA k))
    (q : ∀ F1 ρ1 e1 st1 H1 v d, LeE e e1 σ F ρ H F1 ρ1 H1 → R K mg c F1 ρ1 e1 st1 σ H1 → RepX K F1 ρ1 H1 σ v d → APost K mg c e1 σ F1 ρ1 H1 Q (k d e1 st1) → Q' v H1) : EPost K mg c e σ F ρ H Q' r := by
  cases r with
  | ok d e' st' => exact fun F' ρ' H' v l r x => q F' ρ' e' st' H' v d l r x (APost.shift (r := k d e' st') l h)
  | exc n e' st' => exact h
  | stuck => exact h
theorem bindAA {r : AR} {k : List D → Sl → Sto → AR} {Q Q' : List V → Hp → Prop} (h : APost K mg c e σ F ρ H Q (r.bindA k))
    (q : ∀ F1 ρ1 e1 st1 H1 vs ds, LeE e e1 σ F ρ H F1 ρ1 H1 → R K mg c F1 ρ1 e1 st1 σ H1 → Reps K F1 ρ1 H1 vs ds → APost K mg c e1 σ F1 ρ1 H1 Q (k ds e1 st1) → Q' vs H1) : APost K mg c e σ F ρ H Q' r := by
  cases r with
  | ok d e' st' => exact fun F' ρ' H' v l r x => q F' ρ' e' st' H' v d l r x (APost.shift (r := k d e' st') l h)
  | exc n e' st' => exact h
  | stuck => exact h
theorem SPost.shift {r : OR} {D : Ends} (le : Le F ρ H F1 ρ1 H1) (h : SPost K mg c F ρ H D r) : SPost K mg c F1 ρ1 H1 D r := by
  cases r with
  | nx e s => exact fun F' ρ' σ' H' l => h F' ρ' σ' H' (le.trans l)
  | bk e s => exact fun F' ρ' σ' H' l => h F' ρ' σ' H' (le.trans l)
  | ct e s => exact fun F' ρ' σ' H' l => h F' ρ' σ' H' (le.trans l)
  | rt v s => exact h
  | exc k e s => exact h
  | stuck => exact h
theorem bindES {r : ER} {k : D → Sl → Sto → OR} {D : Ends} (h : SPost K mg c F ρ H D (r.bindS k))
    (q : ∀ F1 ρ1 e1 st1 H1 v d, LeE e e1 σ F ρ H F1 ρ1 H1 → R K mg c F1 ρ1 e1 st1 σ H1 → RepX K F1 ρ1 H1 σ v d → SPost K mg c F1 ρ1 H1 D (k d e1 st1) → Q' v H1) : EPost K mg c e σ F ρ H Q' r := by
  cases r with
  | ok d e' st' => exact fun F' ρ' H' v l r x => q F' ρ' e' st' H' v d l r x (SPost.shift (r := k d e' st') l.toLe h)
  | exc n e' st' => exact fun F' ρ' H' C r m => h F' ρ' σ H' C r m
  | stuck => exact h
theorem bindAS {r : AR} {k : List D → Sl → Sto → OR} {D : Ends} {Q' : List V → Hp → Prop} (h : SPost K mg c F ρ H D (r.bindS k))
    (q : ∀ F1 ρ1 e1 st1 H1 vs ds, LeE e e1 σ F ρ H F1 ρ1 H1 → R K mg c F1 ρ1 e1 st1 σ H1 → Reps K F1 ρ1 H1 vs ds → SPost K mg c F1 ρ1 H1 D (k ds e1 st1) → Q' vs H1) : APost K mg c e σ F ρ H Q' r := by
  cases r with
  | ok d e' st' => exact fun F' ρ' H' v l r x => q F' ρ' e' st' H' v d l r x (SPost.shift (r := k d e' st') l.toLe h)
  | exc n e' st' => exact fun F' ρ' H' C r m => h F' ρ' σ H' C r m
  | stuck => exact h

/-- a scalar is given -/
theorem EPost.sc {v : V} {d : D} (r : R K mg c F ρ e st σ H) (rep : ∀ F ρ H, Rep K F ρ H v d) (h : EPost K mg c e σ F ρ H Q (.ok d e st)) : Q v H := h F ρ H v LeE.refl r (.inr (rep F ρ H))
theorem EPost.pure {v : V} {d : D} (r : R K mg c F ρ e st σ H) (rep : Rep K F ρ H v d) (h : EPost K mg c e σ F ρ H Q (.ok d e st)) : Q v H := h F ρ H v LeE.refl r (.inr rep)
theorem EPost.bl {b : Bool} (r : R K mg c F ρ e st σ H) (h : EPost K mg c e σ F ρ H Q (.ok (.bl b) e st)) : Q (.bl b) H := h.sc r fun _ _ _ => .bl b
theorem EPost.int {b : Int} (r : R K mg c F ρ e st σ H) (h : EPost K mg c e σ F ρ H Q (.ok (.int b) e st)) : Q (.int b) H := h.sc r fun _ _ _ => .int b
/-- a new tuple -/
theorem EPost.tup {vs : List V} {ds : List D} {p : Addr} (r : R K mg c F ρ e st σ H) (rep : Reps K F ρ H vs ds) (h : EPost K mg c e σ F ρ H Q (.ok (.tup ds) e st)) (hp : H p = none) : Q (.ref p) (upd H p (.tup vs)) := by
  obtain ⟨w, x⟩ := alloc r.w (o := .tup vs) hp
  exact h _ _ _ _ x.toLeE (r.ext x w) (.inr (.tup (.inl ⟨.inr rfl, upd_same⟩) (rep.mono x.toLe)))
theorem EPost.lst {vs : List V} {ds : List D} {p : Addr} (r : R K mg c F ρ e st σ H) (rep : Reps K F ρ H vs ds) (h : EPost K mg c e σ F ρ H Q (.ok (.lst ds) e st)) (hp : H p = none) : Q (.ref p) (upd H p (.lst vs)) := by
  obtain ⟨w, x⟩ := alloc r.w (o := .lst vs) hp
  exact h _ _ _ _ x.toLeE (r.ext x w) (.inr (.lst (.inr rfl) upd_same (rep.mono x.toLe)))
theorem EPost.dk {vs : List (Key × V)} {ds : List (Key × D)} {p : Addr} (r : R K mg c F ρ e st σ H) (rep : RepK K F ρ H vs ds) (h : EPost K mg c e σ F ρ H Q (.ok (.dk ds) e st)) (hp : H p = none) : Q (.ref p) (upd H p (.dK vs)) := by
  obtain ⟨w, x⟩ := alloc r.w (o := .dK vs) hp
  exact h _ _ _ _ x.toLeE (r.ext x w) (.inr (.dk (.inr rfl) (.inl upd_same) (rep.mono x.toLe)))

/-! ### what a value shows -/
/-- an owned or stored object by what it holds -/
def vw (d : D) (e : Sl) (s : Sto) : D := match d with
  | .own i => (match e[i]? with | some (some (.own d')) => d' | _ => .own i)
  | .ref i => (match s[i]? with | some (.obj d') => d' | _ => .ref i)
  | d => d
inductive Vw (K : PySem.W.Frag) (F : Addr → Prop) (ρ : List Addr) (H : Hp) (v : V) : D → Prop
  | non : v = .non → Vw K F ρ H v .non
  | bl {b : Bool} : v = .bl b → Vw K F ρ H v (.bl b)
  | int {b : Int} : v = .int b → Vw K F ρ H v (.int b)
  | str {b : Str} : v = .str b → Vw K F ρ H v (.str b)
  | tup {a : Addr} {vs : List V} {ds : List D} : v = .ref a → TupF K F H a vs → Reps K F ρ H vs ds → Vw K F ρ H v (.tup ds)
  | lst {a : Addr} {vs : List V} {ds : List D} : v = .ref a → H a = some (.lst vs) → Reps K F ρ H vs ds → Vw K F ρ H v (.lst ds)
  | scr {a : Addr} {vs : List V} {ds : List D} : v = .ref a → SqL K H a vs → Reps K F ρ H vs ds → Vw K F ρ H v (.scr ds)
  | dk {a : Addr} {vs : List (Key × V)} {ds : List (Key × D)} : v = .ref a → Rd H a (.dK vs) → RepK K F ρ H vs ds → Vw K F ρ H v (.dk ds)
  | dt {a : Addr} {vs : List (List Key × V)} {ds : List (List Key × D)} : v = .ref a → Rd H a (.dT vs) → RepT K F ρ H vs ds → Vw K F ρ H v (.dt ds)
  | own {i : Nat} : Vw K F ρ H v (.own i)
  | ref {i : Nat} {a : Addr} : v = .ref a → ρ[i]? = some a → Vw K F ρ H v (.ref i)
theorem CRep.vw {a : Addr} {d : D} (h : CRep K F ρ H a d) : Vw K F ρ H (.ref a) d := by
  cases h with
  | lst h1 h2 => exact .lst rfl h1 h2
  | dk h1 h2 => exact .dk rfl (.inl h1) h2
  | dt h1 h2 => exact .dt rfl (.inl h1) h2
theorem vw_ok (r : R K mg c F ρ e st σ H) {v : V} {d : D} (x : RepX K F ρ H σ v d) : Vw K F ρ H v (vw d e st) := by
  rcases x with ⟨i, a0, rfl, rfl, hi⟩ | x
  · unfold vw
    cases he : e[i]? with
    | none => simp only [he]; exact .own
    | some o =>
      cases o with
      | none => simp only [he]; exact .own
      | some s =>
        cases s with
        | val d => simp only [he]; exact .own
        | own d =>
          simp only [he]
          obtain ⟨v', e1, a, e2, h3, _⟩ := r.slot i _ he
          rw [hi] at e1
          cases e1
          cases e2
          exact h3.vw
  · cases x with
    | non => exact .non rfl
    | bl b => exact .bl rfl
    | int b => exact .int rfl
    | str b => exact .str rfl
    | tup h1 h2 => exact .tup rfl h1 h2
    | lst h0 h1 h2 => exact .lst rfl h1 h2
    | scr h1 h2 => exact .scr rfl h1.sq h2
    | dk h0 h1 h2 => exact .dk rfl h1 h2
    | dt h0 h1 h2 => exact .dt rfl h1 h2
    | @ref a i h =>
      have hl : i < st.length := by rw [← r.w.len]; exact (List.getElem?_eq_some_iff.mp h).1
      have q := r.w.so i a _ h (List.getElem?_eq_getElem hl)
      unfold vw
      simp only [List.getElem?_eq_getElem hl]
      cases hs : st[i] with
      | obj d =>
        rw [hs] at q
        exact CRep.vw q
      | ins cl fs => exact .ref rfl h
/-- a list, a tuple, the script: its items -/
def asSeq : D → Option (List D)
  | .tup ds => some ds
  | .lst ds => some ds
  | .scr ds => some ds
  | _ => none
theorem Vw.seq {v : V} {d : D} {ds : List D} (h : Vw K F ρ H v d) (e : asSeq d = some ds) : ∃ a vs, v = .ref a ∧ (SqL K H a vs ∨ SqT K H a vs) ∧ Reps K F ρ H vs ds := by
  cases h with
  | tup h1 h2 h3 => cases e; exact ⟨_, _, h1, .inr h2.sq, h3⟩
  | lst h1 h2 h3 => cases e; exact ⟨_, _, h1, .inl (.of h2), h3⟩
  | scr h1 h2 h3 => cases e; exact ⟨_, _, h1, .inl h2, h3⟩
  | _ => cases e
end

/-! ### names and constants -/
section
variable {X : Cx} {c : Dx} {x : Str} {pos : Pos}
def eVar (i : Nat) : EF := fun e s => match e[i]? with | some (some (.val d)) => .ok d e s | some (some (.own _)) => .ok (.own i) e s | _ => .stuck
def eK (d : D) : EF := fun e s => .ok d e s
theorem de_imp {e : Expr} {t : TE} {f : EF} (h : PE X e t) (k : ∀ F ρ e st σ H Q, R X.K X.mg c F ρ e st σ H → EPost X.K X.mg c e σ F ρ H Q (f e st) → t σ H Q) : DE c X e f :=
  ⟨fun pins s σ H Q I ⟨F, ρ, e, st, r, q⟩ => h.run pins s σ H Q I (k F ρ e st σ H Q r q)⟩
theorem de_var (i : Nat) (hN : X.N[i]? = some x := by rfl) (hv : Vis X.env.scope x := by first | exact Or.inl rfl | exact Or.inr (Or.inl rfl) | exact Or.inr (Or.inr rfl)) (hd : (x == ("__debug__" : Str)) = false := by decide)
    (hcd : (x == ("__classdict__" : Str)) = false := by decide) : DE c X (.Name x pos) (eVar i) := by
  refine de_imp (pe_var (i := i) hN hv hd hcd) fun F ρ e st σ H Q r h => ?_
  unfold eVar at h
  cases he : e[i]? with
  | none => rw [he] at h; exact h.elim
  | some o =>
    rw [he] at h
    cases o with
    | none => exact h.elim
    | some s =>
      obtain ⟨v, e1, q⟩ := r.slot i s he
      cases s with
      | val d =>
        obtain ⟨y, e2, q⟩ := q
        subst e2
        exact ⟨y, e1, EPost.pure r q h⟩
      | own d =>
        obtain ⟨a, e2, q⟩ := q
        subst e2
        exact ⟨_, e1, h F ρ H _ LeE.refl r (.inl ⟨i, a, rfl, rfl, e1⟩)⟩
theorem de_int {i j} : DE c X (.Constant (.int i) j pos) (eK (.int i)) := de_imp pe_int fun F ρ e st σ H Q r h => EPost.sc r (fun _ _ _ => .int i) h
theorem de_bl {i j} : DE c X (.Constant (.bool i) j pos) (eK (.bl i)) := de_imp pe_bl fun F ρ e st σ H Q r h => EPost.sc r (fun _ _ _ => .bl i) h
theorem de_non {j} : DE c X (.Constant .none j pos) (eK .non) := de_imp pe_non fun F ρ e st σ H Q r h => EPost.sc r (fun _ _ _ => .non) h
theorem de_str {i j} : DE c X (.Constant (.str i) j pos) (eK (.str i)) := de_imp pe_str fun F ρ e st σ H Q r h => EPost.sc r (fun _ _ _ => .str i) h
/-- a constant of the module: d stands at v whatever the heap is -/
structure Cst (K : PySem.W.Frag) (mg : Str → Option Value) (x : Str) (d : D) : Prop where
  ex : ∃ v u, mg x = some u ∧ RelV v u ∧ ∀ F ρ H, Rep K F ρ H v d
theorem de_glob {d : D} (k : Cst X.K X.mg x d) (hg : Gl X x) (hd : (x == ("__debug__" : Str)) = false := by decide) : DE c X (.Name x pos) (eK d) := by
  obtain ⟨v, u, h1, h2, h3⟩ := k.ex
  exact de_imp (pe_glob hg h1 h2 hd) fun F ρ e st σ H Q r h => EPost.sc r h3 h
end

/-! ### operators of two values -/
def eBin (g : D → D → Sl → Sto → ER) (fa fb : EF) : EF := fun e s => (fa e s).bind fun x e s => (fb e s).bind fun y e s => g x y e s
def OpD (X : Cx) (r : R2) (g : D → D → Sl → Sto → ER) : Prop := ∀ (c : Dx) (F : Addr → Prop) (ρ : List Addr) (e : Sl) (st : Sto) (σ : St) (H : Hp) (x y : D) (v u : V) (Q : VK), R X.K X.mg c F ρ e st σ H → RepX X.K F ρ H σ v x → RepX X.K F ρ H σ u y →
  EPost X.K X.mg c e σ F ρ H Q (g x y e st) → r v u H Q
section
variable {X : Cx} {c : Dx} {a b ex : Expr} {fa fb : EF} {pos : Pos} {r : R2} {g : D → D → Sl → Sto → ER}
theorem de_op2 (hp : PE X ex (tOp r (tED X.K X.mg c fa) (tED X.K X.mg c fb))) (ho : OpD X r g) : DE c X ex (eBin g fa fb) := by
  refine de_imp hp fun F ρ e st σ H Q hr h => ?_
  refine ⟨F, ρ, e, st, hr, bindE h fun F1 ρ1 e1 st1 H1 v x le1 r1 rx h1 => ?_⟩
  refine ⟨F1, ρ1, e1, st1, r1, bindE h1 fun F2 ρ2 e2 st2 H2 u y le2 r2 ry h2 => ?_⟩
  exact ho c F2 ρ2 e2 st2 σ H2 x y v u Q r2 (rx.mono le2.toLe) ry h2

/-- at most so many items -/
abbrev lim : Nat := 16777216
theorem lim_le {n : Nat} (h : n ≤ lim) : n ≤ sizeLine := by rw [sizeLine_eq]; exact h
theorem lim_lt {n : Nat} (h : n < lim) : n < sizeLine := by rw [sizeLine_eq]; exact h
def opO {X : Cx} {f : Value → Value → Sem Value} {r r' : R2} (h : OpR X f r) (h' : OpR X f r') : OpR X f (fun x y H Q => r x y H Q ∨ r' x y H Q) := OpR.or h h'

def gAdd (x y : D) (e : Sl) (s : Sto) : ER := match vw x e s, vw y e s with
  | .int i, .int j => .ok (.int (i + j)) e s
  | .tup a, .tup b => if a.length + b.length ≤ lim then .ok (.tup (a ++ b)) e s else .stuck
  | .lst a, .lst b => if a.length + b.length ≤ lim then .ok (.lst (a ++ b)) e s else .stuck
  | _, _ => .stuck
abbrev rAddD (K : PySem.W.Frag) : R2 := fun x y H Q => rI0 (fun i j => .int (i + j)) x y H Q ∨ rCatA K x y H Q ∨ rCat x y H Q
theorem reps_nil {K : PySem.W.Frag} {F : Addr → Prop} {ρ : List Addr} {H : Hp} {ds : List D} (h : Reps K F ρ H [] ds) : ds = [] := by cases h; rfl
theorem opD_add : OpD X (rAddD X.K) gAdd := by
  intro c F ρ e st σ H x y v u Q r rx ry h
  have hx := vw_ok r rx
  have hy := vw_ok r ry
  unfold gAdd at h
  generalize vw x e st = dx at *
  generalize vw y e st = dy at *
  split at h
  · cases hx; cases hy
    subst_vars
    exact .inl ⟨_, _, rfl, rfl, h.int r⟩
  · cases hx with | tup a1 a2 a3 => cases hy with | tup b1 b2 b3 =>
    subst a1 b1
    split at h
    case isFalse => exact h.elim
    rename_i hz
    refine .inr (.inl ⟨_, _, _, _, rfl, rfl, a2.sq, b2.sq, lim_le (by rw [a3.length, b3.length]; exact hz), fun q => ?_, fun q1 q2 => ?_, fun _ _ p hp => ?_⟩)
    · subst q
      cases reps_nil a3
      rw [List.nil_append] at h
      exact h.pure r (.tup b2 b3)
    · subst q2
      cases reps_nil b3
      rw [List.append_nil] at h
      exact h.pure r (.tup a2 a3)
    · exact h.tup r (a3.append b3) hp
  · cases hx with | lst a1 a2 a3 => cases hy with | lst b1 b2 b3 =>
    subst a1 b1
    split at h
    case isFalse => exact h.elim
    rename_i hz
    exact .inr (.inr ⟨_, _, _, _, rfl, rfl, a2, b2, lim_le (by rw [a3.length, b3.length]; exact hz), fun p hp => h.lst r (a3.append b3) hp⟩)
  · exact h.elim
theorem opr_add : OpR X (binaryOp .Add) (rAddD X.K) := op_add.or (op_catA.or op_cat)
theorem de_add (ha : DE c X a fa) (hb : DE c X b fb) : DE c X (.BinOp a .Add b pos) (eBin gAdd fa fb) := de_op2 (pe_op opr_add ha hb) opD_add

/-- ints in -/
def gI (k : Int → Int → Option D) (x y : D) (e : Sl) (s : Sto) : ER := match x, y with
  | .int i, .int j => (match k i j with | some d => .ok d e s | none => .stuck)
  | _, _ => .stuck
theorem repI {K : PySem.W.Frag} {F : Addr → Prop} {ρ : List Addr} {H : Hp} {σ : St} {v : V} {i : Int} (h : RepX K F ρ H σ v (.int i)) : v = .int i := by
  rcases h with ⟨_, _, q, _⟩ | h
  · cases q
  · cases h; rfl
theorem repB {K : PySem.W.Frag} {F : Addr → Prop} {ρ : List Addr} {H : Hp} {σ : St} {v : V} {i : Bool} (h : RepX K F ρ H σ v (.bl i)) : v = .bl i := by
  rcases h with ⟨_, _, q, _⟩ | h
  · cases q
  · cases h; rfl
theorem repS {K : PySem.W.Frag} {F : Addr → Prop} {ρ : List Addr} {H : Hp} {σ : St} {v : V} {i : Str} (h : RepX K F ρ H σ v (.str i)) : v = .str i := by
  rcases h with ⟨_, _, q, _⟩ | h
  · cases q
  · cases h; rfl
theorem opD_I {r : R2} {k : Int → Int → Option D} (h : ∀ (i j : Int) (d : D), k i j = some d → ∃ v : V, (∀ K F ρ H, Rep K F ρ H v d) ∧ ∀ H Q, Q v H → r (.int i) (.int j) H Q) : OpD X r (gI k) := by
  intro c F ρ e st σ H x y v u Q hr rx ry q
  unfold gI at q
  split at q
  · cases repI rx
    cases repI ry
    split at q
    case h_2 => exact q.elim
    rename_i d hd
    obtain ⟨v, h1, h2⟩ := h _ _ d hd
    exact h2 H Q (q.sc hr fun F ρ H => h1 _ F ρ H)
  · exact q.elim
def kSub (i j : Int) : Option D := some (.int (i - j))
def kMod (i j : Int) : Option D := if 0 < j then some (.int (i % j)) else none
noncomputable def kDiv (i j : Int) : Option D := @ite _ (0 < j ∧ j < 1073741824) (Classical.propDecidable _) (some (.int (i / j))) none
def kPow (i j : Int) : Option D := if 0 ≤ j ∧ j ≤ 1000000 ∧ i.natAbs < 2 ^ 64 then some (.int (i ^ j.toNat)) else none
def kLt (i j : Int) : Option D := some (.bl (decide (i < j)))
def kLe (i j : Int) : Option D := some (.bl (decide (i ≤ j)))
theorem de_sub (ha : DE c X a fa) (hb : DE c X b fb) : DE c X (.BinOp a .Sub b pos) (eBin (gI kSub) fa fb) :=
  de_op2 (pe_op op_sub ha hb) (opD_I fun i j d h => by cases h; exact ⟨_, fun _ _ _ _ => .int _, fun H Q q => ⟨_, _, rfl, rfl, q⟩⟩)
theorem de_mod (ha : DE c X a fa) (hb : DE c X b fb) : DE c X (.BinOp a .Mod b pos) (eBin (gI kMod) fa fb) :=
  de_op2 (pe_op op_mod ha hb) (opD_I fun i j d h => by
    unfold kMod at h
    split at h
    case isFalse => cases h
    rename_i hj
    cases h; exact ⟨_, fun _ _ _ _ => .int _, fun H Q q => ⟨_, _, rfl, rfl, hj, q⟩⟩)
theorem de_div (ha : DE c X a fa) (hb : DE c X b fb) : DE c X (.BinOp a .FloorDiv b pos) (eBin (gI kDiv) fa fb) :=
  de_op2 (pe_op op_fdiv ha hb) (opD_I fun i j d h => by
    unfold kDiv at h
    split at h
    case isFalse => cases h
    rename_i hj
    cases h; exact ⟨_, fun _ _ _ _ => .int _, fun H Q q => ⟨_, _, rfl, rfl, hj, q⟩⟩)
theorem de_pow (ha : DE c X a fa) (hb : DE c X b fb) : DE c X (.BinOp a .Pow b pos) (eBin (gI kPow) fa fb) :=
  de_op2 (pe_op op_pow ha hb) (opD_I fun i j d h => by
    unfold kPow at h
    split at h
    case isFalse => cases h
    rename_i hj
    cases h; exact ⟨_, fun _ _ _ _ => .int _, fun H Q q => ⟨_, _, rfl, rfl, hj, q⟩⟩)
theorem de_lt (ha : DE c X a fa) (hb : DE c X b fb) : DE c X (.Compare a [.Lt] [b] pos) (eBin (gI kLt) fa fb) :=
  de_op2 (pe_cmpR op_lt ha hb (nomark _)) (opD_I fun i j d h => by cases h; exact ⟨_, fun _ _ _ _ => .bl _, fun H Q q => ⟨_, _, rfl, rfl, q⟩⟩)
theorem de_le (ha : DE c X a fa) (hb : DE c X b fb) : DE c X (.Compare a [.LtE] [b] pos) (eBin (gI kLe) fa fb) :=
  de_op2 (pe_cmpR op_le ha hb (nomark _)) (opD_I fun i j d h => by cases h; exact ⟨_, fun _ _ _ _ => .bl _, fun H Q q => ⟨_, _, rfl, rfl, q⟩⟩)
theorem de_gt (ha : DE c X a fa) (hb : DE c X b fb) : DE c X (.Compare a [.Gt] [b] pos) (eBin (gI fun i j => kLt j i) fa fb) :=
  de_op2 (pe_cmpR op_gt ha hb (nomark _)) (opD_I fun i j d h => by cases h; exact ⟨_, fun _ _ _ _ => .bl _, fun H Q q => ⟨_, _, rfl, rfl, q⟩⟩)
theorem de_ge (ha : DE c X a fa) (hb : DE c X b fb) : DE c X (.Compare a [.GtE] [b] pos) (eBin (gI fun i j => kLe j i) fa fb) :=
  de_op2 (pe_cmpR op_ge ha hb (nomark _)) (opD_I fun i j d h => by cases h; exact ⟨_, fun _ _ _ _ => .bl _, fun H Q q => ⟨_, _, rfl, rfl, q⟩⟩)

/-! ### times -/
def rep (ds : List D) (k : Int) : List D := (List.replicate k.toNat ds).flatten
theorem reps_rep {K : PySem.W.Frag} {F : Addr → Prop} {ρ : List Addr} {H : Hp} {vs : List V} {ds : List D} (h : Reps K F ρ H vs ds) : ∀ n : Nat, Reps K F ρ H (List.replicate n vs).flatten (List.replicate n ds).flatten
  | 0 => .nil
  | n + 1 => by
    rw [List.replicate_succ, List.replicate_succ, List.flatten_cons, List.flatten_cons]
    exact h.append (reps_rep h n)
noncomputable def gMul (x y : D) (e : Sl) (s : Sto) : ER := match vw x e s, vw y e s with
  | .int i, .int j => @ite _ ((-(2 ^ 64) < i ∧ i < 2 ^ 64) ∨ (-(2 ^ 64) < j ∧ j < 2 ^ 64)) (Classical.propDecidable _) (.ok (.int (i * j)) e s) .stuck
  | .tup a, .int k => if a ≠ [] ∧ 2 ≤ k ∧ k ≤ 1000 ∧ a.length ≤ 1000 then .ok (.tup (rep a k)) e s else .stuck
  | .lst a, .int k => if 0 ≤ k ∧ k ≤ 1000 ∧ a.length ≤ 1000 then .ok (.lst (rep a k)) e s else .stuck
  | _, _ => .stuck
abbrev rMulD (K : PySem.W.Frag) : R2 := fun x y H Q => rI CMul (fun i j => .int (i * j)) x y H Q ∨ rRepT K x y H Q ∨ rRep x y H Q
theorem opD_mul : OpD X (rMulD X.K) gMul := by
  intro c F ρ e st σ H x y v u Q r rx ry h
  have hx := vw_ok r rx
  have hy := vw_ok r ry
  unfold gMul at h
  generalize vw x e st = dx at *
  generalize vw y e st = dy at *
  split at h
  · cases hx; cases hy
    subst_vars
    split at h
    case isFalse => exact h.elim
    rename_i hz
    exact .inl ⟨_, _, rfl, rfl, hz, h.int r⟩
  · cases hx with | tup a1 a2 a3 => cases hy with | int b1 =>
    subst a1 b1
    split at h
    case isFalse => exact h.elim
    rename_i hz
    exact .inr (.inl ⟨_, _, _, rfl, rfl, a2.sq, fun q => by subst q; exact hz.1 (reps_nil a3), hz.2.1, hz.2.2.1, by rw [a3.length]; exact hz.2.2.2, fun p hp => h.tup r (reps_rep a3 _) hp⟩)
  · cases hx with | lst a1 a2 a3 => cases hy with | int b1 =>
    subst a1 b1
    split at h
    case isFalse => exact h.elim
    rename_i hz
    obtain ⟨hz1, hz2, hz3⟩ := hz
    refine .inr (.inr ⟨_, _, _, rfl, rfl, a2, by omega, by omega, ?_, fun p hp => h.lst r (reps_rep a3 _) hp⟩)
    rw [a3.length]
    exact lim_le (Nat.le_trans (Nat.mul_le_mul hz3 (Int.toNat_le.mpr hz2)) (by decide))
  · exact h.elim
theorem opr_mul : OpR X (binaryOp .Mult) (rMulD X.K) := op_mul.or (op_repT.or op_rep)
theorem de_mul (ha : DE c X a fa) (hb : DE c X b fb) : DE c X (.BinOp a .Mult b pos) (eBin gMul fa fb) := de_op2 (pe_op opr_mul ha hb) opD_mul

/-! ### one value -/
def eUn (g : D → Sl → Sto → ER) (fa : EF) : EF := fun e s => (fa e s).bind g
theorem de_op1 {t : V → Hp → VK → Prop} {g : D → Sl → Sto → ER} (hp : PE X ex (tUn t (tED X.K X.mg c fa))) (ho : ∀ (F : Addr → Prop) (ρ : List Addr) (e : Sl) (st : Sto) (σ : St) (H : Hp) (x : D) (v : V) (Q : VK), R X.K X.mg c F ρ e st σ H → RepX X.K F ρ H σ v x →
    EPost X.K X.mg c e σ F ρ H Q (g x e st) → t v H Q) : DE c X ex (eUn g fa) := by
  refine de_imp hp fun F ρ e st σ H Q hr h => ?_
  exact ⟨F, ρ, e, st, hr, bindE h fun F1 ρ1 e1 st1 H1 v x le1 r1 rx h1 => ho F1 ρ1 e1 st1 σ H1 x v Q r1 rx h1⟩
def gNeg (x : D) (e : Sl) (s : Sto) : ER := match x with | .int i => .ok (.int (-i)) e s | _ => .stuck
theorem de_neg (ha : DE c X a fa) : DE c X (.UnaryOp .USub a pos) (eUn gNeg fa) := by
  refine de_op1 (pe_un un_neg ha) fun F ρ e st σ H x v Q r rx h => ?_
  unfold gNeg at h
  split at h
  · cases repI rx
    exact ⟨_, rfl, h.int r⟩
  · exact h.elim

/-! ### is -/
def isN : D → Bool
  | .non => true
  | _ => false
theorem isN_iff {K : PySem.W.Frag} {F : Addr → Prop} {ρ : List Addr} {H : Hp} {σ : St} {v : V} {d : D} (h : RepX K F ρ H σ v d) : decide (v = .non) = isN d := by
  rcases h with ⟨i, a, rfl, rfl, hi⟩ | h
  · rfl
  · cases h <;> rfl
def gIsN (_ x : D) (e : Sl) (s : Sto) : ER := .ok (.bl (isN x)) e s
def gNotN (_ x : D) (e : Sl) (s : Sto) : ER := .ok (.bl (!isN x)) e s
theorem de_isN {j : Nat} {pos' : Pos} (ha : DE c X a fa) : DE c X (.Compare a [.Is] [.Constant .none j pos'] pos) (eUn (gIsN .non) fa) := by
  refine de_op1 (t := fun x H Q => Q (.bl (decide (x = .non))) H) (pe_cmp (pc_isN ha)) fun F ρ e st σ H x v Q r rx h => ?_
  show Q (.bl (decide (v = .non))) H
  rw [isN_iff rx]
  exact h.bl r
theorem de_notN {j : Nat} {pos' : Pos} (ha : DE c X a fa) : DE c X (.Compare a [.IsNot] [.Constant .none j pos'] pos) (eUn (gNotN .non) fa) := by
  refine de_op1 (t := fun x H Q => Q (.bl (!decide (x = .non))) H) (pe_cmp (pc_notN ha)) fun F ρ e st σ H x v Q r rx h => ?_
  show Q (.bl (!decide (v = .non))) H
  rw [isN_iff rx]
  exact h.bl r
def gIsB (x y : D) (e : Sl) (s : Sto) : ER := match x, y with | .bl a, .bl b => .ok (.bl (decide (a = b))) e s | _, _ => .stuck
def gNotB (x y : D) (e : Sl) (s : Sto) : ER := match x, y with | .bl a, .bl b => .ok (.bl (!decide (a = b))) e s | _, _ => .stuck
theorem de_isB (ha : DE c X a fa) (hb : DE c X b fb) : DE c X (.Compare a [.Is] [b] pos) (eBin gIsB fa fb) := by
  refine de_op2 (pe_cmpR op_isBl ha hb (nomark _)) fun c F ρ e st σ H x y v u Q r rx ry h => ?_
  unfold gIsB at h
  split at h
  · cases repB rx
    cases repB ry
    exact ⟨_, _, rfl, rfl, h.bl r⟩
  · exact h.elim
theorem de_notB (ha : DE c X a fa) (hb : DE c X b fb) : DE c X (.Compare a [.IsNot] [b] pos) (eBin gNotB fa fb) := by
  refine de_op2 (pe_cmpR op_notBl ha hb (nomark _)) fun c F ρ e st σ H x y v u Q r rx ry h => ?_
  unfold gNotB at h
  split at h
  · cases repB rx
    cases repB ry
    exact ⟨_, _, rfl, rfl, h.bl r⟩
  · exact h.elim
end
end DL
end
section
set_option Elab.async false
set_option linter.all false
set_option maxRecDepth 100000
set_option maxHeartbeats 4000000
set_option autoImplicit false
/-! DLD: look-ups, displays, built-ins. -/
namespace DL
open PySem PySem.Spec L2
open PyProof.Rows hiding St

/-! ### new objects -/
def NPost (K : PySem.W.Frag) (mg : Str → Option Value) (c : Dx) (e : Sl) (σ : St) (F : Addr → Prop) (ρ : List Addr) (H : Hp) (Q : VK) : ER → Prop
  | .ok d e' st' => ∀ F' ρ' H' a, LeE e e' σ F ρ H F' ρ' H' → R K mg c F' ρ' e' st' σ H' → CRep K F' ρ' H' a d → ¬ F' a → a ∉ ρ' → ¬ OwnAt e' σ a → H a = none → Q (.ref a) H'
  | .exc k e' st' => ∀ F' ρ' H' C, R K mg c F' ρ' e' st' σ H' → mg k = some (.ref C) → c.W (.ref C) none σ H'
  | .stuck => False
def tND (K : PySem.W.Frag) (mg : Str → Option Value) (c : Dx) (f : EF) : TE := fun σ H Q => ∃ F ρ e st, R K mg c F ρ e st σ H ∧ NPost K mg c e σ F ρ H Q (f e st)
/-- an expression that makes a new list or dict -/
abbrev DN (c : Dx) (X : Cx) (e : Expr) (f : EF) : Prop := PE X e (tND X.K X.mg c f)
section
variable {K : PySem.W.Frag} {mg : Str → Option Value} {c : Dx} {F F' F1 F2 : Addr → Prop} {ρ ρ' ρ1 ρ2 : List Addr} {H H' H1 H2 : Hp} {e e' e1 e2 : Sl} {σ σ' : St} {st st' st1 st2 : Sto} {Q Q' : VK}
theorem NPost.shift {r : ER} (le : LeE e e1 σ F ρ H F1 ρ1 H1) (h : NPost K mg c e σ F ρ H Q r) : NPost K mg c e1 σ F1 ρ1 H1 Q r := by
  cases r with
  | ok d e' st' => exact fun F' ρ' H' a l r x n1 n2 n3 n4 => h F' ρ' H' a (le.trans l) r x n1 n2 n3 (by
      cases q : H a with
      | none => rfl
      | some o => exact absurd n4 (le.there a (some_ne q)))
  | exc n e' st' => exact h
  | stuck => exact h
theorem bindN {r : ER} {k : D → Sl → Sto → ER} (h : NPost K mg c e σ F ρ H Q (r.bind k))
    (q : ∀ F1 ρ1 e1 st1 H1 v d, LeE e e1 σ F ρ H F1 ρ1 H1 → R K mg c F1 ρ1 e1 st1 σ H1 → RepX K F1 ρ1 H1 σ v d → NPost K mg c e1 σ F1 ρ1 H1 Q (k d e1 st1) → Q' v H1) : EPost K mg c e σ F ρ H Q' r := by
  cases r with
  | ok d e' st' => exact fun F' ρ' H' v l r x => q F' ρ' e' st' H' v d l r x (NPost.shift (r := k d e' st') l h)
  | exc n e' st' => exact h
  | stuck => exact h
theorem bindNA {r : AR} {k : List D → Sl → Sto → ER} {Q' : List V → Hp → Prop} (h : NPost K mg c e σ F ρ H Q (r.bind k))
    (q : ∀ F1 ρ1 e1 st1 H1 vs ds, LeE e e1 σ F ρ H F1 ρ1 H1 → R K mg c F1 ρ1 e1 st1 σ H1 → Reps K F1 ρ1 H1 vs ds → NPost K mg c e1 σ F1 ρ1 H1 Q (k ds e1 st1) → Q' vs H1) : APost K mg c e σ F ρ H Q' r := by
  cases r with
  | ok d e' st' => exact fun F' ρ' H' v l r x => q F' ρ' e' st' H' v d l r x (NPost.shift (r := k d e' st') l h)
  | exc n e' st' => exact h
  | stuck => exact h
theorem R.ownH (r : R K mg c F ρ e st σ H) {a : Addr} (h : OwnAt e σ a) : H a ≠ none := by
  obtain ⟨d, hd, _⟩ := r.own h
  obtain ⟨o, ho⟩ := hd.some
  exact some_ne ho
theorem NPost.lst {vs : List V} {ds : List D} {p : Addr} (r : R K mg c F ρ e st σ H) (rep : Reps K F ρ H vs ds) (h : NPost K mg c e σ F ρ H Q (.ok (.lst ds) e st)) (hp : H p = none) : Q (.ref p) (upd H p (.lst vs)) := by
  obtain ⟨w, x, hF, hR⟩ := allocW r.w (o := .lst vs) hp
  exact h _ _ _ _ x.toLeE (r.ext x w) (.lst upd_same (rep.mono x.toLe)) hF hR (fun z => r.ownH z hp) hp
theorem NPost.dk {vs : List (Key × V)} {ds : List (Key × D)} {p : Addr} (r : R K mg c F ρ e st σ H) (rep : RepK K F ρ H vs ds) (h : NPost K mg c e σ F ρ H Q (.ok (.dk ds) e st)) (hp : H p = none) : Q (.ref p) (upd H p (.dK vs)) := by
  obtain ⟨w, x, hF, hR⟩ := allocW r.w (o := .dK vs) hp
  exact h _ _ _ _ x.toLeE (r.ext x w) (.dk upd_same (rep.mono x.toLe)) hF hR (fun z => r.ownH z hp) hp
theorem NPost.dt {vs : List (List Key × V)} {ds : List (List Key × D)} {p : Addr} (r : R K mg c F ρ e st σ H) (rep : RepT K F ρ H vs ds) (h : NPost K mg c e σ F ρ H Q (.ok (.dt ds) e st)) (hp : H p = none) : Q (.ref p) (upd H p (.dT vs)) := by
  obtain ⟨w, x, hF, hR⟩ := allocW r.w (o := .dT vs) hp
  exact h _ _ _ _ x.toLeE (r.ext x w) (.dt upd_same (rep.mono x.toLe)) hF hR (fun z => r.ownH z hp) hp
/-- an object that nobody owns becomes known -/
theorem R.know (r : R K mg c F ρ e st σ H) {a : Addr} {d : D} (hd : CRep K F ρ H a d) (hF : ¬ F a) (hR : a ∉ ρ) (hO : ¬ OwnAt e σ a) (h0 : c.H a = none) :
    R K mg c (fun b => F b ∨ b = a) ρ e st σ H ∧ Rep K (fun b => F b ∨ b = a) ρ H (.ref a) d := by
  obtain ⟨o0, ho0⟩ := hd.some
  have hrep : Rep K (fun b => F b ∨ b = a) ρ H (.ref a) d := by
    cases hd with
    | lst h1 h2 => exact .lst (.inr rfl) h1 (h2.mono le_fz)
    | dk h1 h2 => exact .dk (.inr rfl) (.inl h1) (h2.mono le_fz)
    | dt h1 h2 => exact .dt (.inr rfl) (.inl h1) (h2.mono le_fz)
  refine ⟨⟨⟨r.w.len, r.w.nd, fun b hb z => ?_, fun b z => ?_, fun j b s h1 h2 => (r.w.so j b s h1 h2).mono le_fz fun _ h => h⟩, ⟨⟨fun b z => .inl (r.x.sub b z), r.x.rd, r.x.ls, r.x.tp, r.x.pre⟩, r.x.keep, fun b z => ?_, r.x.newR, r.x.there⟩, r.len, fun j s h => ?_, r.dist⟩, hrep⟩
  · rcases z with z | z
    · exact r.w.nF b hb z
    · exact hR (z ▸ hb)
  · rcases z with z | z
    · exact r.w.tr b z
    · subst z; exact some_ne ho0
  · rcases z with z | z
    · exact r.x.newF b z
    · exact .inr (z ▸ h0)
  · obtain ⟨v, e1, q⟩ := r.slot j s h
    refine ⟨v, e1, q.mono le_fz fun b o' hs' hv' => ?_⟩
    subst hs'
    obtain ⟨b', e2, q2, q3, q4, q5⟩ := q
    rw [e2] at hv'
    cases hv'
    refine ⟨fun u hu => hu, fun z => ?_, q4⟩
    rcases z with z | z
    · exact q3 z
    · subst z
      exact hO ⟨j, o', h, e1.trans (by rw [e2])⟩
theorem LeE.know (le : LeE e e' σ F ρ H F' ρ' H') {a : Addr} (h0 : H a = none) : LeE e e' σ F ρ H (fun b => F' b ∨ b = a) ρ' H' :=
  ⟨le.toLe.trans le_fz, le.ow, le.keep, fun b z => z.elim (fun z => le.newF b z) fun z => .inr (.inl (z ▸ h0)), le.newR, le.there⟩
/-- behind an object p that was laid first, and then written -/
theorem adopt {p : Addr} {o0 o : HO} (r : R K mg c F ρ e st σ H) (hp : H p = none) (l : LeE e e' σ F ρ (upd H p o0) F2 ρ2 H2) (r2 : R K mg c F2 ρ2 e' st2 σ H2) :
    R K mg c F2 ρ2 e' st2 σ (upd H2 p o) ∧ LeE e e' σ F ρ H F2 ρ2 (upd H2 p o) ∧ Le F2 ρ2 H2 F2 ρ2 (upd H2 p o) ∧ ¬ F2 p ∧ p ∉ ρ2 ∧ ¬ OwnAt e' σ p ∧ H2 p = some o0 := by
  have nO : ¬ OwnAt e σ p := fun z => r.ownH z hp
  have nO' : ¬ OwnAt e' σ p := fun ⟨i, d, h1, h2⟩ => nO ⟨i, d, l.ow i d h1, h2⟩
  have nF0 : ¬ F p := fun z => r.w.tr p z hp
  have nR0 : p ∉ ρ := fun z => by obtain ⟨o, q⟩ := r.w.mem z; rw [hp] at q; cases q
  have nF : ¬ F2 p := fun z => by
    rcases l.newF p z with z | z | z
    · exact nF0 z
    · rw [upd_same] at z; cases z
    · exact nO z
  have nR : p ∉ ρ2 := fun z => by
    rcases l.newR p z with z | z
    · exact nR0 z
    · rw [upd_same] at z; cases z
  have h2 : H2 p = some o0 := l.keep p o0 upd_same nF0 nR0 nO
  have c0 : c.H p = none := by
    cases q : c.H p with
    | none => rfl
    | some o => exact absurd hp (r.x.there p (some_ne q))
  have le0 : Le F ρ H F ρ (upd H p o0) := le_upd nF0
  have le2 : Le F2 ρ2 H2 F2 ρ2 (upd H2 p o) := le_upd nF
  refine ⟨⟨⟨r2.w.len, r2.w.nd, r2.w.nF, fun b z => there_upd (r2.w.tr b z), fun j b s h1 h2 => (r2.w.so j b s h1 h2).mono le2 fun u hu => ?_⟩, ⟨⟨r2.x.sub, fun b u z q => ?_, fun b u z q => ?_, fun b u z q => ?_, r2.x.pre⟩, fun b u h n m => ?_, r2.x.newF, r2.x.newR, fun b z => there_upd (r2.x.there b z)⟩, r2.len, fun j s h => ?_, r2.dist⟩,
    ⟨le0.trans (l.toLe.trans le2), l.ow, fun b u h n m no => ?_, fun b z => ?_, fun b z => ?_, fun b z => there_upd (l.there b (there_upd z))⟩, le2, nF, nR, nO', h2⟩
  · rw [upd_ne (fun q => by subst q; exact nR (List.mem_of_getElem? h1))]
    exact hu
  · exact le2.rd b u (r2.x.sub b z) (r2.x.rd b u z q)
  · exact le2.ls b u (r2.x.sub b z) (r2.x.ls b u z q)
  · exact le2.tp b u (r2.x.sub b z) (r2.x.tp b u z q)
  · have nb : b ≠ p := fun q => by subst q; rw [c0] at h; cases h
    rw [upd_ne nb]
    exact r2.x.keep b u h n m
  · obtain ⟨v, e1, q⟩ := r2.slot j s h
    refine ⟨v, e1, q.mono le2 fun b o' hs' hv' => ?_⟩
    subst hs'
    obtain ⟨b', e2, q2, q3, q4, q5⟩ := q
    rw [e2] at hv'
    cases hv'
    have nb : b ≠ p := fun z => by
      subst z
      exact nO' ⟨j, o', h, e1.trans (by rw [e2])⟩
    exact ⟨fun u hu => by rw [upd_ne nb]; exact hu, q3, q4⟩
  · have nb : b ≠ p := fun q => by subst q; rw [hp] at h; cases h
    rw [upd_ne nb]
    exact l.keep b u (by rw [upd_ne nb]; exact h) n m no
  · rcases l.newF b z with z | z | z
    · exact .inl z
    · by_cases hb : b = p
      · subst hb; exact .inr (.inl hp)
      · rw [upd_ne hb] at z; exact .inr (.inl z)
    · exact .inr (.inr z)
  · rcases l.newR b z with z | z
    · exact .inl z
    · by_cases hb : b = p
      · subst hb; exact .inr hp
      · rw [upd_ne hb] at z; exact .inr z
end
section
variable {X : Cx} {c : Dx} {a b ex : Expr} {es : List Expr} {fa fb : EF} {fs : AF} {pos : Pos} {f : EF}
/-- a new object as a value: from then on it is known, and no longer written -/
theorem de_dn (h : DN c X ex f) : DE c X ex f := by
  refine de_imp h fun F ρ e st σ H Q r q => ⟨F, ρ, e, st, r, ?_⟩
  cases hr : f e st with
  | ok d e' st' =>
    rw [hr] at q
    intro F' ρ' H' p l r' cr n1 n2 n3 n4
    have c0 : c.H p = none := by
      cases q : c.H p with
      | none => rfl
      | some o => exact absurd n4 (r.x.there p (some_ne q))
    obtain ⟨r2, rep⟩ := r'.know cr n1 n2 n3 c0
    exact q _ _ _ _ (l.know n4) r2 (.inr rep)
  | exc n e' st' => rw [hr] at q; exact q
  | stuck => rw [hr] at q; exact q

/-! ### arguments -/
/-- an owned object is handed on: it is known from then on -/
def fz (d : D) (e : Sl) : Option (D × Sl) := match d with
  | .own i => (match e[i]? with | some (some (.own d')) => some (d', e.set i (some (.val d'))) | _ => none)
  | d => some (d, e)
def eFz (f : EF) : EF := fun e s => (f e s).bind fun d e s => match fz d e with | some (d', e') => .ok d' e' s | none => .stuck
def aNil : AF := fun e s => .ok [] e s
def aCons (f : EF) (g : AF) : AF := fun e s => (f e s).bindA fun d e s => match fz d e with | some (d', e') => (g e' s).bindA fun ds e s => .ok (d' :: ds) e s | none => .stuck
theorem fz_ok {K : PySem.W.Frag} {mg : Str → Option Value} {F : Addr → Prop} {ρ : List Addr} {H : Hp} {e e' : Sl} {st : Sto} {σ : St} {v : V} {d d' : D} (r : R K mg c F ρ e st σ H) (x : RepX K F ρ H σ v d) (h : fz d e = some (d', e')) :
    ∃ F', LeE e e' σ F ρ H F' ρ H ∧ R K mg c F' ρ e' st σ H ∧ Rep K F' ρ H v d' := by
  rcases x with ⟨i, a, rfl, rfl, hi⟩ | x
  · unfold fz at h
    simp only at h
    split at h
    · rename_i d0 h0
      cases h
      obtain ⟨h1, h2, h3⟩ := r.freeze h0 hi
      exact ⟨_, h2, h1, h3⟩
    · cases h
  · have : fz d e = some (d, e) := by
      cases x <;> rfl
    rw [this] at h
    cases h
    exact ⟨F, LeE.refl, r, x⟩
theorem de_fz (h : DE c X ex f) : DE c X ex (eFz f) := by
  refine de_imp h fun F ρ e st σ H Q r q => ⟨F, ρ, e, st, r, bindE q fun F1 ρ1 e1 st1 H1 v d le1 r1 rx h1 => ?_⟩
  split at h1
  · rename_i d' e' hz
    obtain ⟨F', l, r', x⟩ := fz_ok r1 rx hz
    exact h1 F' ρ1 H1 v l r' (.inr x)
  · exact h1.elim
theorem da_nil : DA c X [] aNil := ⟨fun pos pins s σ H Q I ⟨F, ρ, e, st, r, q⟩ => pa_nil.run pos pins s σ H Q I (q F ρ H [] LeE.refl r .nil)⟩
theorem da_cons (ha : DE c X a fa) (hr : DA c X es fs) (hs : starEach (a :: es) X.env = (false, eval a X.env) :: starEach es X.env := by rfl) : DA c X (a :: es) (aCons fa fs) := by
  refine ⟨fun pos pins s σ H Q I ⟨F, ρ, e, st, r, q⟩ => (pa_cons ha hr hs).run pos pins s σ H Q I ?_⟩
  refine ⟨F, ρ, e, st, r, bindEA q fun F1 ρ1 e1 st1 H1 v d le1 r1 rx h1 => ?_⟩
  split at h1
  · rename_i d' e' hz
    obtain ⟨F', l, r', x⟩ := fz_ok r1 rx hz
    refine ⟨F', ρ1, e', st1, r', bindAA (h1.shift l) fun F2 ρ2 e2 st2 H2 vs ds le2 r2 rs h2 => ?_⟩
    exact h2 F2 ρ2 H2 _ LeE.refl r2 (.cons (x.mono le2.toLe) rs)
  · exact h1.elim

/-! ### displays -/
def eTup (f : AF) : EF := fun e s => (f e s).bind fun ds e s => if ds.length ≤ lim then .ok (.tup ds) e s else .stuck
def eLst (f : AF) : EF := fun e s => (f e s).bind fun ds e s => if ds.length ≤ lim then .ok (.lst ds) e s else .stuck
theorem de_tup {x1 : Nat} (h : DA c X es fs) : DE c X (.Tuple es x1 pos) (eTup fs) := by
  refine de_imp (pe_tup h) fun F ρ e st σ H Q r q => ⟨F, ρ, e, st, r, bindA q fun F1 ρ1 e1 st1 H1 vs ds le1 r1 rs h1 => ?_⟩
  split at h1
  · rename_i hz
    exact ⟨lim_le (by rw [rs.length]; exact hz), fun p hp => h1.tup r1 rs hp⟩
  · exact h1.elim
theorem dn_lst (h : DA c X es fs) : DN c X (.List es pos) (eLst fs) := by
  refine ⟨fun pins s σ H Q I ⟨F, ρ, e, st, r, q⟩ => (pe_lst h).run pins s σ H Q I ⟨F, ρ, e, st, r, bindNA q fun F1 ρ1 e1 st1 H1 vs ds le1 r1 rs h1 => ?_⟩⟩
  split at h1
  · rename_i hz
    exact ⟨lim_le (by rw [rs.length]; exact hz), fun p hp => h1.lst r1 rs hp⟩
  · exact h1.elim

/-! ### keys -/
def toK : D → Option Key
  | .int i => some (.inl i)
  | .str x => some (.inr x)
  | _ => none
def toKs : List D → Option (List Key)
  | [] => some []
  | d :: ds => match toK d, toKs ds with
    | some k, some ks => some (k :: ks)
    | _, _ => none
section
variable {K : PySem.W.Frag} {mg : Str → Option Value} {F : Addr → Prop} {ρ : List Addr} {H : Hp} {σ : St}
theorem toK_ok {v : V} {d : D} {k : Key} (x : RepX K F ρ H σ v d) (h : toK d = some k) : v = kV k := by
  rcases x with ⟨i, a, rfl, rfl, hi⟩ | x
  · cases h
  · cases x <;> first | (cases h; rfl) | cases h
theorem toKs_ok : ∀ {ds : List D} {vs : List V} {ks : List Key}, Reps K F ρ H vs ds → toKs ds = some ks → vs = ks.map kV
  | [], _, _, h, e => by cases h; cases e; rfl
  | d :: ds, _, _, h, e => by
    cases h with
    | cons h1 h2 =>
      unfold toKs at e
      split at e
      · rename_i k ks hk hks
        cases e
        rw [toK_ok (σ := []) (.inr h1) hk, toKs_ok h2 hks]
        rfl
      · cases e
end
section
variable {κ : Type} [DecidableEq κ]
def lk : List (κ × D) → κ → Option D
  | [], _ => none
  | (k', d) :: r, k => if k' = k then some d else lk r k
def hasK : List (κ × D) → κ → Bool
  | [], _ => false
  | (k', _) :: r, k => if k' = k then true else hasK r k
/-- put the value at the key: at the key's place, or at the end -/
def pt (kvs : List (κ × D)) (k : κ) (d : D) : List (κ × D) := if hasK kvs k = true then kvs.map fun kv => if kv.1 = k then (kv.1, d) else kv else kvs ++ [(k, d)]
end
section
variable {K : PySem.W.Frag} {F : Addr → Prop} {ρ : List Addr} {H : Hp}
theorem RepK.lk : ∀ {kds : List (Key × D)} {kvs : List (Key × V)} (k : Key), RepK K F ρ H kvs kds → (∀ d, lk kds k = some d → ∃ v, valV kvs k = some v ∧ Rep K F ρ H v d) ∧ (lk kds k = none → valV kvs k = none)
  | [], _, k, h => by cases h; exact ⟨fun d e => (by cases e), fun _ => rfl⟩
  | (k', d') :: r, _, k, h => by
    cases h with
    | @cons _ v vs _ _ h1 h2 =>
      unfold DL.lk
      by_cases e : k' = k
      · rw [if_pos e, valV_pos (p := (k', v)) e]
        exact ⟨fun d q => (by cases q; exact ⟨_, rfl, h1⟩), fun q => (by cases q)⟩
      · rw [if_neg e, valV_neg (p := (k', v)) e]
        exact RepK.lk k h2
theorem RepT.lk : ∀ {kds : List (List Key × D)} {kvs : List (List Key × V)} (k : List Key), RepT K F ρ H kvs kds → (∀ d, DL.lk kds k = some d → ∃ v, valV kvs k = some v ∧ Rep K F ρ H v d) ∧ (DL.lk kds k = none → valV kvs k = none)
  | [], _, k, h => by cases h; exact ⟨fun d e => (by cases e), fun _ => rfl⟩
  | (k', d') :: r, _, k, h => by
    cases h with
    | @cons _ v vs _ _ h1 h2 =>
      unfold DL.lk
      by_cases e : k' = k
      · rw [if_pos e, valV_pos (p := (k', v)) e]
        exact ⟨fun d q => (by cases q; exact ⟨_, rfl, h1⟩), fun q => (by cases q)⟩
      · rw [if_neg e, valV_neg (p := (k', v)) e]
        exact RepT.lk k h2
theorem RepK.any : ∀ {kds : List (Key × D)} {kvs : List (Key × V)} (k : Key), RepK K F ρ H kvs kds → (kvs.any fun kv => decide (kv.1 = k)) = hasK kds k
  | [], _, k, h => by cases h; rfl
  | (k', d') :: r, _, k, h => by
    cases h with
    | @cons _ v vs _ _ h1 h2 =>
      unfold hasK
      rw [List.any_cons]
      by_cases e : k' = k
      · rw [if_pos e, decide_eq_true e, Bool.true_or]
      · rw [if_neg e, decide_eq_false e, Bool.false_or]
        exact RepK.any k h2
theorem RepT.any : ∀ {kds : List (List Key × D)} {kvs : List (List Key × V)} (k : List Key), RepT K F ρ H kvs kds → (kvs.any fun kv => decide (kv.1 = k)) = hasK kds k
  | [], _, k, h => by cases h; rfl
  | (k', d') :: r, _, k, h => by
    cases h with
    | @cons _ v vs _ _ h1 h2 =>
      unfold hasK
      rw [List.any_cons]
      by_cases e : k' = k
      · rw [if_pos e, decide_eq_true e, Bool.true_or]
      · rw [if_neg e, decide_eq_false e, Bool.false_or]
        exact RepT.any k h2
theorem RepK.append : ∀ {ds es : List (Key × D)} {vs us : List (Key × V)}, RepK K F ρ H vs ds → RepK K F ρ H us es → RepK K F ρ H (vs ++ us) (ds ++ es)
  | [], _, _, _, h, h' => by cases h; exact h'
  | _ :: _, _, _, _, h, h' => by cases h with | cons h1 h2 => exact .cons h1 (RepK.append h2 h')
theorem RepT.append : ∀ {ds es : List (List Key × D)} {vs us : List (List Key × V)}, RepT K F ρ H vs ds → RepT K F ρ H us es → RepT K F ρ H (vs ++ us) (ds ++ es)
  | [], _, _, _, h, h' => by cases h; exact h'
  | _ :: _, _, _, _, h, h' => by cases h with | cons h1 h2 => exact .cons h1 (RepT.append h2 h')
theorem RepK.repl {v : V} {d : D} (k : Key) (r : Rep K F ρ H v d) : ∀ {kds : List (Key × D)} {kvs : List (Key × V)}, RepK K F ρ H kvs kds → RepK K F ρ H (kvs.map fun kv => if kv.1 = k then (kv.1, v) else kv) (kds.map fun kv => if kv.1 = k then (kv.1, d) else kv)
  | [], _, h => by cases h; exact .nil
  | (k', d') :: _, _, h => by
    cases h with
    | cons h1 h2 =>
      rw [List.map_cons, List.map_cons]
      by_cases e : k' = k
      · rw [if_pos e, if_pos e]
        exact .cons r (RepK.repl k r h2)
      · rw [if_neg e, if_neg e]
        exact .cons h1 (RepK.repl k r h2)
theorem RepT.repl {v : V} {d : D} (k : List Key) (r : Rep K F ρ H v d) : ∀ {kds : List (List Key × D)} {kvs : List (List Key × V)}, RepT K F ρ H kvs kds → RepT K F ρ H (kvs.map fun kv => if kv.1 = k then (kv.1, v) else kv) (kds.map fun kv => if kv.1 = k then (kv.1, d) else kv)
  | [], _, h => by cases h; exact .nil
  | (k', d') :: _, _, h => by
    cases h with
    | cons h1 h2 =>
      rw [List.map_cons, List.map_cons]
      by_cases e : k' = k
      · rw [if_pos e, if_pos e]
        exact .cons r (RepT.repl k r h2)
      · rw [if_neg e, if_neg e]
        exact .cons h1 (RepT.repl k r h2)
theorem RepK.put {kds : List (Key × D)} {kvs : List (Key × V)} {v : V} {d : D} (k : Key) (h : RepK K F ρ H kvs kds) (r : Rep K F ρ H v d) : RepK K F ρ H (putK kvs k v) (pt kds k d) := by
  unfold putK pt
  rw [h.any k]
  split
  · exact RepK.repl k r h
  · exact h.append (.cons r .nil)
theorem RepT.put {kds : List (List Key × D)} {kvs : List (List Key × V)} {v : V} {d : D} (k : List Key) (h : RepT K F ρ H kvs kds) (r : Rep K F ρ H v d) : RepT K F ρ H (putK kvs k v) (pt kds k d) := by
  unfold putK pt
  rw [h.any k]
  split
  · exact RepT.repl k r h
  · exact h.append (.cons r .nil)
end

/-! ### a dict's display -/
/-- the keys are written; the values from the left -/
def ptAll (kvs : List (Key × D)) : List (Key × D) → List (Key × D)
  | [] => kvs
  | (k, d) :: r => ptAll (pt kvs k d) r
def eDict (ks : List Key) (f : AF) : EF := fun e s => (f e s).bind fun ds e s => if ds.length = ks.length ∧ ks.length ≤ 15 then .ok (.dk (ptAll [] (ks.zip ds))) e s else .stuck
theorem mergeK_all {K : PySem.W.Frag} {F : Addr → Prop} {ρ : List Addr} {H : Hp} : ∀ {more : List (Key × D)} {mv : List (Key × V)} {kds : List (Key × D)} {kvs : List (Key × V)}, RepK K F ρ H kvs kds → RepK K F ρ H mv more → RepK K F ρ H (mergeK kvs mv) (ptAll kds more)
  | [], _, _, _, h, h' => by cases h'; exact h
  | (k, d) :: r, _, _, _, h, h' => by
    cases h' with
    | @cons _ v vs _ _ h1 h2 =>
      show RepK K F ρ H (mergeK (putK _ k v) vs) (ptAll (pt _ k d) r)
      exact mergeK_all (h.put k h1) h2
/-- a written entry, key by key -/
structure KEx (X : Cx) (e : Expr) (k : Key) : Prop where
  ex : ∃ t, PE X e t ∧ ∀ σ H Q, Q (kV k) H → t σ H Q
theorem kex_str {i : Str} {j : Nat} : KEx X (.Constant (.str i) j pos) (.inr i) := ⟨_, pe_str, fun _ _ _ h => h⟩
theorem kex_int {i : Int} {j : Nat} : KEx X (.Constant (.int i) j pos) (.inl i) := ⟨_, pe_int, fun _ _ _ h => h⟩
/-- the entries of a display -/
structure DP (c : Dx) (X : Cx) (pos : Pos) (keys : List (Option Expr)) (vals : List Expr) (ks : List Key) (f : AF) : Prop where
  ex : ∃ trs, PPs X pos keys vals trs ∧ ∀ F ρ e st σ H (Q : List (V × V) → Hp → Prop), R X.K X.mg c F ρ e st σ H → APost X.K X.mg c e σ F ρ H (fun vs H' => Q ((ks.map kV).zip vs) H') (f e st) → tPairs trs σ H Q
theorem dp_nil : DP c X pos [] [] [] aNil := ⟨[], pps_nil, fun F ρ e st σ H Q r q => q F ρ H [] LeE.refl r .nil⟩
theorem dp_cons {k v : Expr} {keys : List (Option Expr)} {vals : List Expr} {kk : Key} {ks : List Key} {f : EF} {g : AF} (hk : KEx X k kk) (hv : DE c X v f) (hr : DP c X pos keys vals ks g) : DP c X pos (some k :: keys) (v :: vals) (kk :: ks) (aCons f g) := by
  obtain ⟨t, h1, h2⟩ := hk.ex
  obtain ⟨trs, h3, h4⟩ := hr.ex
  refine ⟨_, pps_cons h1 hv h3, fun F ρ e st σ H Q r q => ?_⟩
  refine h2 σ H _ ?_
  refine ⟨F, ρ, e, st, r, bindEA q fun F1 ρ1 e1 st1 H1 v d le1 r1 rx h5 => ?_⟩
  split at h5
  · rename_i d' e' hz
    obtain ⟨F', l, r', x⟩ := fz_ok r1 rx hz
    refine h4 F' ρ1 e' st1 σ H1 _ r' (bindAA (h5.shift l) fun F2 ρ2 e2 st2 H2 vs ds le2 r2 rs h6 => ?_)
    exact h6 F2 ρ2 H2 _ LeE.refl r2 (.cons (x.mono le2.toLe) rs)
  · exact h5.elim
theorem zip_rep {K : PySem.W.Frag} {F : Addr → Prop} {ρ : List Addr} {H : Hp} : ∀ {ks : List Key} {vs : List V} {ds : List D}, Reps K F ρ H vs ds → ds.length = ks.length → RepK K F ρ H (ks.zip vs) (ks.zip ds) ∧ (ks.map kV).zip vs = (ks.zip vs).map fun kv => (kV kv.1, kv.2)
  | [], _, _, _, _ => ⟨.nil, rfl⟩
  | k :: ks, _, [], h, e => by cases e
  | k :: ks, _, d :: ds, h, e => by
    cases h with
    | @cons v vs _ _ h1 h2 =>
      obtain ⟨q1, q2⟩ := zip_rep (ks := ks) h2 (by simpa using e)
      refine ⟨.cons h1 q1, ?_⟩
      rw [List.map_cons, List.zip_cons_cons, List.zip_cons_cons, List.map_cons, q2]
theorem dn_dict {keys : List (Option Expr)} {vals : List Expr} {ks : List Key} {f : AF} (h : DP c X pos keys vals ks f) (hall : keys.all (·.isSome) = true := by rfl) (hl : keys.length = vals.length := by rfl) (h0 : keys ≠ [] := by exact fun z => nomatch z) (h15 : keys.length ≤ 15 := by decide) :
    DN c X (.Dict keys vals pos) (eDict ks f) := by
  obtain ⟨trs, hp, hq⟩ := h.ex
  refine ⟨fun pins s σ H Q I ⟨F, ρ, e, st, r, q⟩ => (pe_disp hp hall hl h0 h15).run pins s σ H Q I fun p np => ?_⟩
  have w := allocW r.w (o := .dK []) np
  refine hq F ρ e st σ _ _ (r.ext w.2.1 w.1) ?_
  unfold eDict at q
  cases hr : f e st with
  | ok ds e' st' =>
    rw [hr] at q
    show ∀ F' ρ' H' vs, _ → _ → _ → _
    intro F' ρ' H' vs l r' rs
    simp only [AR.bind] at q
    split at q
    · rename_i hz
      obtain ⟨hz1, hz2⟩ := hz
      obtain ⟨r3, l3, le3, n1, n2, n3, h2⟩ := adopt (o := .dK (mergeK [] (ks.zip vs))) r np l r'
      obtain ⟨q1, q2⟩ := zip_rep rs hz1
      refine ⟨h2, ks.zip vs, q2, ?_, q F' ρ' _ p l3 r3 (.dk upd_same (mergeK_all .nil (q1.mono le3))) n1 n2 n3 np⟩
      rw [List.length_zip]
      exact Nat.le_trans (Nat.min_le_left _ _) hz2
    · exact q.elim
  | exc n e' st' => rw [hr] at q; exact q
  | stuck => rw [hr] at q; exact q
theorem dn_dict0 : DN c X (.Dict [] [] pos) (eK (.dk [])) := ⟨fun pins s σ H Q I ⟨F, ρ, e, st, r, q⟩ => pe_dnewK.run pins s σ H Q I fun p np => NPost.dk r .nil q np⟩
theorem dn_dict0T : DN c X (.Dict [] [] pos) (eK (.dt [])) := ⟨fun pins s σ H Q I ⟨F, ρ, e, st, r, q⟩ => pe_dnewT.run pins s σ H Q I fun p np => NPost.dt r .nil q np⟩

/-! ### in, not in -/
def flatD : D → Bool
  | .non => true
  | .bl _ => true
  | .int _ => true
  | .str _ => true
  | _ => false
def eqF : D → D → Bool
  | .non, .non => true
  | .bl a, .bl b => a == b
  | .bl a, .int b => (if a then 1 else 0) == b
  | .int a, .bl b => a == (if b then 1 else 0)
  | .int a, .int b => a == b
  | .str a, .str b => a == b
  | _, _ => false
section
variable {K : PySem.W.Frag} {mg : Str → Option Value} {F : Addr → Prop} {ρ : List Addr} {H : Hp} {σ : St}
theorem flat_ok {v : V} {d : D} (x : RepX K F ρ H σ v d) (h : flatD d = true) : flatV v = true ∧ Rep K F ρ H v d := by
  rcases x with ⟨i, a, rfl, rfl, hi⟩ | x
  · cases h
  · refine ⟨?_, x⟩
    cases x <;> first | rfl | cases h
theorem eqF_ok {v u : V} {d d' : D} (x : Rep K F ρ H v d) (y : Rep K F ρ H u d') (h : flatD d = true) (h' : flatD d' = true) : eqV v u = eqF d d' := by
  cases x <;> first | (cases h; done) | skip
  all_goals (cases y <;> first | rfl | (cases h'; done))
theorem flat_all : ∀ {ds : List D} {vs : List V}, Reps K F ρ H vs ds → ds.all flatD = true → vs.all flatV = true
  | [], _, h, _ => by cases h; rfl
  | d :: ds, _, h, e => by
    cases h with
    | cons h1 h2 =>
      rw [List.all_cons, Bool.and_eq_true] at e
      rw [List.all_cons, (flat_ok (σ := []) (.inr h1) e.1).1, flat_all h2 e.2]
      rfl
theorem in_ok {x : V} {d : D} (hx : Rep K F ρ H x d) (fx : flatD d = true) : ∀ {ds : List D} {vs : List V}, Reps K F ρ H vs ds → ds.all flatD = true → inV x vs = ds.any fun y => eqF y d
  | [], _, h, _ => by cases h; rfl
  | y :: ds, _, h, e => by
    cases h with
    | @cons u us _ _ h1 h2 =>
      rw [List.all_cons, Bool.and_eq_true] at e
      unfold inV
      rw [List.any_cons, List.any_cons, eqF_ok h1 hx e.1 fx]
      congr 1
      exact in_ok hx fx h2 e.2
end
def bxor (neg b : Bool) : Bool := if neg then !b else b
def gIn (neg : Bool) (x y : D) (e : Sl) (s : Sto) : ER := match vw y e s with
  | .dk kvs => (match toK x with | some k => .ok (.bl (bxor neg (lk kvs k).isSome)) e s | none => .stuck)
  | d => (match asSeq d with
    | some ds => if flatD x = true ∧ ds.all flatD = true then .ok (.bl (bxor neg (ds.any fun y => eqF y x))) e s else .stuck
    | none => .stuck)
def rDIn (neg : Bool) : R2 := fun y x H Q => ∃ a o, x = .ref a ∧ DGet H a y o ∧ Q (.bl (bxor neg o.isSome)) H
theorem op_DIn (hu : X.A.units + 1 < cLine) : OpR X (compareOp .In) (rDIn false) := by
  intro pins s σ H x y v u Q I rx ry h
  obtain ⟨a, o, rfl, g, q⟩ := h
  cases ry
  exact d_in hu I g rx fun s' I' => ⟨.bl o.isSome, H, I', rfl, q⟩
theorem op_DNotIn (hu : X.A.units + 1 < cLine) : OpR X (compareOp .NotIn) (rDIn true) := by
  intro pins s σ H x y v u Q I rx ry h
  obtain ⟨a, o, rfl, g, q⟩ := h
  cases ry
  exact d_notIn hu I g rx fun s' I' => ⟨.bl (!o.isSome), H, I', rfl, q⟩
abbrev rInD (K : PySem.W.Frag) (neg : Bool) : R2 := fun x y H Q => rDIn neg x y H Q ∨ rIn K neg x y H Q
theorem opD_in (neg : Bool) : OpD X (rInD X.K neg) (gIn neg) := by
  intro c F ρ e st σ H x y v u Q r rx ry h
  have hy := vw_ok r ry
  unfold gIn at h
  generalize vw y e st = dy at *
  split at h
  · cases hy with | dk b1 b2 b3 =>
    subst b1
    split at h
    · rename_i k hk
      cases toK_ok rx hk
      refine .inl ⟨_, _, rfl, .inl ⟨_, k, b2, rfl, rfl⟩, ?_⟩
      obtain ⟨q1, q2⟩ := b3.lk k
      cases hl : lk _ k with
      | none => rw [q2 hl]; rw [hl] at h; exact h.bl r
      | some d =>
        obtain ⟨w, hw, _⟩ := q1 d hl
        rw [hw]; rw [hl] at h; exact h.bl r
    · exact h.elim
  · split at h
    · rename_i ds hds
      obtain ⟨a, vs, rfl, hs, rs⟩ := hy.seq hds
      split at h
      · rename_i hf
        obtain ⟨f1, f2⟩ := flat_ok rx hf.1
        refine .inr ⟨a, vs, rfl, hs, f1, flat_all rs hf.2, ?_⟩
        rw [in_ok f2 hf.1 rs hf.2]
        exact h.bl r
      · exact h.elim
    · exact h.elim
theorem de_in (hu : X.A.units + 1 < cLine) (ha : DE c X a fa) (hb : DE c X b fb) (hm : behindInMarks .In b = false := by rfl) : DE c X (.Compare a [.In] [b] pos) (eBin (gIn false) fa fb) := de_op2 (pe_cmpR ((op_DIn hu).or op_in_seq) ha hb hm) (opD_in false)
theorem de_notIn (hu : X.A.units + 1 < cLine) (ha : DE c X a fa) (hb : DE c X b fb) (hm : behindInMarks .NotIn b = false := by rfl) : DE c X (.Compare a [.NotIn] [b] pos) (eBin (gIn true) fa fb) := de_op2 (pe_cmpR ((op_DNotIn hu).or op_notIn_seq) ha hb hm) (opD_in true)

/-! ### subscripts -/
def gIx (x y : D) (e : Sl) (s : Sto) : ER := match vw x e s, y with
  | .dk kvs, y => (match toK y with | some k => (match lk kvs k with | some d => .ok d e s | none => .stuck) | none => .stuck)
  | .dt kvs, .tup ks => (match toKs ks with | some k => (match lk kvs k with | some d => .ok d e s | none => .stuck) | none => .stuck)
  | .str z, .int i => (match atI z.cps.toList i with | some cp => if z.length ≤ lim then .ok (.str ⟨#[cp]⟩) e s else .stuck | none => .stuck)
  | d, .int i => (match asSeq d with | some ds => (match atI ds i with | some d => .ok d e s | none => .stuck) | none => .stuck)
  | _, _ => .stuck
theorem atI_ok {K : PySem.W.Frag} {F : Addr → Prop} {ρ : List Addr} {H : Hp} {vs : List V} {ds : List D} {i : Int} {d : D} (h : Reps K F ρ H vs ds) (e : atI ds i = some d) : ∃ v, atI vs i = some v ∧ Rep K F ρ H v d := by
  unfold atI at e ⊢
  rw [h.length]
  cases hx : ixN ds.length i with
  | none => rw [hx] at e; cases e
  | some j =>
    rw [hx] at e
    exact h.get (i := j) e
def rIxDT (K : PySem.W.Frag) : R2 := fun x y H Q => ∃ a b kvs k v, x = .ref a ∧ y = .ref b ∧ Rd H a (.dT kvs) ∧ SqT K H b (k.map kV) ∧ valV kvs k = some v ∧ Q v H
theorem key_sq {pins : List (Addr × Obj)} {σ : St} {H : Hp} {s : Shared} {b : Addr} {ks : List Key} (I : Inv X pins σ H s) (h : SqT X.K H b (ks.map kV)) : (tupleKind (mixKind X.prog X.w)).is s.heap ks b := by
  obtain ⟨its, r, ⟨o, h1, h2, n, h3⟩, _⟩ := I.tuple h
  exact ⟨o, its.toArray, n, h1, h2, h3, by simpa using items_are r⟩
theorem ix_dt (hu : X.A.units + 1 < cLine) : IxR X (rIxDT X.K) := by
  intro value slice pins s σ H x y v u Q I rx ry h hs
  obtain ⟨a, b, kvs, k, w, rfl, rfl, hd, hb, hl, q⟩ := h
  cases rx
  cases ry
  obtain ⟨z, _, xs, rel, dd⟩ := dt_rd I.hok hd
  obtain ⟨w', hw, rw'⟩ := RelO.some_of (v := w) (o := (atKey xs k).map (·.2)) (by rw [← hl]; exact rel.val k)
  obtain ⟨p, hp, hp2⟩ := Option.map_eq_some_iff.mp hw
  refine tail_any dd.typeIs PySem.F.slot_dict_getitem.lookup (wpAny_getItem_heap (tupleKind_room_in1 hu) (key_sq I hb) dd hp ?_) hs
  rw [hp2]
  exact ⟨w, H, I.tok _, rw', q⟩
abbrev rIxD (K : PySem.W.Frag) : R2 := fun x y H Q => ((∃ a v, x = .ref a ∧ DGet H a y (some v) ∧ Q v H) ∨ rIxDT K x y H Q) ∨ rIx K x y H Q
theorem ix_dict (hu : X.A.units + 1 < cLine) : IxR X (fun x y H Q => ∃ a v, x = .ref a ∧ DGet H a y (some v) ∧ Q v H) := by
  intro value slice pins s σ H x y v u Q I rx ry h hs
  obtain ⟨a, w, rfl, g, q⟩ := h
  cases rx
  exact tail_any (dict_typeIs I g) PySem.F.slot_dict_getitem.lookup (d_getItem hu I g ry fun w' s3 I3 rw' => ⟨w, H, I3, rw', q⟩) hs
theorem opD_ix : OpD X (rIxD X.K) gIx := by
  intro c F ρ e st σ H x y v u Q r rx ry h
  have hx := vw_ok r rx
  unfold gIx at h
  generalize vw x e st = dx at *
  split at h
  · cases hx with | dk b1 b2 b3 =>
    subst b1
    split at h
    · rename_i k hk
      cases toK_ok ry hk
      split at h
      · rename_i d hd
        obtain ⟨w, hw, rw'⟩ := (b3.lk k).1 d hd
        exact .inl (.inl ⟨_, w, rfl, .inl ⟨_, k, b2, rfl, hw.symm⟩, h.pure r rw'⟩)
      · exact h.elim
    · exact h.elim
  · cases hx with | dt b1 b2 b3 =>
    subst b1
    split at h
    · rename_i k hk
      split at h
      · rename_i d hd
        obtain ⟨w, hw, rw'⟩ := (b3.lk k).1 d hd
        rcases ry with ⟨_, _, q, _⟩ | ry
        · cases q
        · cases ry with
          | tup t1 t2 =>
            exact .inl (.inr ⟨_, _, _, k, w, rfl, rfl, b2, by rw [← toKs_ok t2 hk]; exact t1.sq, hw, h.pure r rw'⟩)
      · exact h.elim
    · exact h.elim
  · cases hx with | str b1 =>
    subst b1
    cases repI ry
    split at h
    · rename_i cp hc
      split at h
      · rename_i hz
        exact .inr (.inr (.inr ⟨_, _, cp, rfl, rfl, lim_le hz, hc, h.sc r fun _ _ _ => .str _⟩))
      · exact h.elim
    · exact h.elim
  · cases repI ry
    split at h
    · rename_i ds hds
      obtain ⟨a, vs, rfl, hs, rs⟩ := hx.seq hds
      split at h
      · rename_i d hd
        obtain ⟨w, hw, rw'⟩ := atI_ok rs hd
        rcases hs with hs | hs
        · exact .inr (.inl ⟨a, vs, _, w, rfl, rfl, hs, hw, h.pure r rw'⟩)
        · exact .inr (.inr (.inl ⟨a, vs, _, w, rfl, rfl, hs, hw, h.pure r rw'⟩))
      · exact h.elim
    · exact h.elim
  · exact h.elim
theorem de_ix (hu : X.A.units + 1 < cLine) (ha : DE c X a fa) (hb : DE c X b fb) (hs : PlainIx b := by exact fun _ _ => rfl) : DE c X (.Subscript a b pos) (eBin gIx fa fb) := de_op2 (pe_ix (((ix_dict hu).or (ix_dt hu)).or ix_seq) ha hb hs) opD_ix
end
end DL
end
section
set_option Elab.async false
set_option linter.all false
set_option maxRecDepth 100000
set_option maxHeartbeats 4000000
set_option autoImplicit false
/-! DLE: slices, truth, built-ins. -/
namespace DL
open PySem PySem.Spec L2
open PyProof.Rows hiding St
section
variable {X : Cx} {c : Dx} {a b ex : Expr} {es : List Expr} {fa fb : EF} {fs : AF} {pos : Pos} {f : EF}

/-! ### slices -/
def cutD (xs : List D) (lo hi : Option Int) : List D := (xs.drop (HT.sIx xs.length 0 lo)).take (HT.sIx xs.length xs.length hi - HT.sIx xs.length 0 lo)
theorem cut_ok {K : PySem.W.Frag} {F : Addr → Prop} {ρ : List Addr} {H : Hp} {vs : List V} {ds : List D} (h : Reps K F ρ H vs ds) (lo hi : Option Int) : Reps K F ρ H (cutV vs lo hi) (cutD ds lo hi) := by
  unfold cutV cutD
  rw [h.length]
  exact (h.drop _).take _
/-- a part of a slice -/
def PF := Sl → Sto → ER
structure DPart (c : Dx) (X : Cx) (o : Option Expr) (g : Option EF) : Prop where
  no : g = none → o = none
  so : ∀ f, g = some f → ∃ e, o = some e ∧ DE c X e f
theorem dp_none : DPart c X none none := ⟨fun _ => rfl, fun _ h => nomatch h⟩
theorem dp_some (h : DE c X a fa) : DPart c X (some a) (some fa) := ⟨(fun h => nomatch h), fun f q => (by cases q; exact ⟨a, rfl, h⟩)⟩
def ePart (g : Option EF) (k : Option Int → Sl → Sto → ER) : Sl → Sto → ER := match g with
  | none => k none
  | some f => fun e s => (f e s).bind fun d e s => match d with | .int i => k (some i) e s | _ => .stuck
def gCut (x : D) (lo hi : Option Int) (e : Sl) (s : Sto) : ER := match vw x e s with
  | .tup ds => .ok (.tup (cutD ds lo hi)) e s
  | .lst ds => .ok (.lst (cutD ds lo hi)) e s
  | .scr ds => .ok (.lst (cutD ds lo hi)) e s
  | _ => .stuck
def eSl (fx : EF) (lo hi : Option EF) : EF := fun e s => (fx e s).bind fun x e s => ePart lo (fun l => ePart hi fun h => gCut x l h) e s
abbrev rSlD (K : PySem.W.Frag) : V → Option Int → Option Int → Hp → VK → Prop := fun x lo hi H Q => rSlL K x lo hi H Q ∨ rSlA K x lo hi H Q
theorem cut_whole {xs : List D} {lo hi : Option Int} (h : HT.sIx xs.length 0 lo = 0 ∧ HT.sIx xs.length xs.length hi = xs.length) : cutD xs lo hi = xs := by
  unfold cutD
  rw [h.1, h.2]
  simp
theorem gCut_ok {F : Addr → Prop} {ρ : List Addr} {H : Hp} {e : Sl} {st : Sto} {σ : St} {Q : VK} {x : D} {v : V} {lo hi : Option Int} (r : R X.K X.mg c F ρ e st σ H) (rx : RepX X.K F ρ H σ v x) (h : EPost X.K X.mg c e σ F ρ H Q (gCut x lo hi e st)) : rSlD X.K v lo hi H Q := by
  have hx := vw_ok r rx
  unfold gCut at h
  generalize vw x e st = dx at *
  split at h
  · cases hx with | tup a1 a2 a3 =>
    subst a1
    refine .inr ⟨_, _, rfl, a2.sq, fun hw => ?_, fun hw p hp => h.tup r (cut_ok a3 lo hi) hp⟩
    rw [a3.length] at hw
    rw [cut_whole hw] at h
    exact h.pure r (.tup a2 a3)
  · cases hx with | lst a1 a2 a3 =>
    subst a1
    exact .inl ⟨_, _, rfl, .of a2, fun p hp => h.lst r (cut_ok a3 lo hi) hp⟩
  · cases hx with | scr a1 a2 a3 =>
    subst a1
    exact .inl ⟨_, _, rfl, a2, fun p hp => h.lst r (cut_ok a3 lo hi) hp⟩
  · exact h.elim
theorem dpart_po {o : Option Expr} {g : Option EF} (h : DPart c X o g) : PO X o (fun σ H Q => ∃ F ρ e st, R X.K X.mg c F ρ e st σ H ∧ ∃ (k : Option Int → Sl → Sto → ER) (Q0 : VK), EPost X.K X.mg c e σ F ρ H Q0 (ePart g k e st) ∧
    ∀ F1 ρ1 e1 st1 H1 i, LeE e e1 σ F ρ H F1 ρ1 H1 → R X.K X.mg c F1 ρ1 e1 st1 σ H1 → EPost X.K X.mg c e1 σ F1 ρ1 H1 Q0 (k i e1 st1) → Q i H1) := by
  cases g with
  | none =>
    cases h.no rfl
    exact ⟨fun pins s σ H Q I ⟨F, ρ, e, st, r, k, Q0, q, n⟩ => po_none.run pins s σ H Q I (n F ρ e st H none LeE.refl r q)⟩
  | some f =>
    obtain ⟨e0, rfl, he⟩ := h.so f rfl
    refine ⟨fun pins s σ H Q I ⟨F, ρ, e, st, r, k, Q0, q, n⟩ => (po_some he).run pins s σ H Q I ⟨F, ρ, e, st, r, bindE q fun F1 ρ1 e1 st1 H1 v d le1 r1 rx h1 => ?_⟩⟩
    split at h1
    · cases repI rx
      exact ⟨_, rfl, n F1 ρ1 e1 st1 H1 _ le1 r1 h1⟩
    · exact h1.elim
theorem de_sl {lo hi : Option Expr} {gl gh : Option EF} {p2 : Pos} (ha : DE c X a fa) (hl : DPart c X lo gl) (hh : DPart c X hi gh) : DE c X (.Subscript a (.Slice lo hi none p2) pos) (eSl fa gl gh) := by
  refine de_imp (pe_slice (SlR.or sl_list sl_tupA) ha (dpart_po hl) (dpart_po hh)) fun F ρ e st σ H Q r q => ?_
  refine ⟨F, ρ, e, st, r, bindE q fun F1 ρ1 e1 st1 H1 v x le1 r1 rx h1 => ?_⟩
  refine ⟨F1, ρ1, e1, st1, r1, _, Q, h1, fun F2 ρ2 e2 st2 H2 l le2 r2 h2 => ?_⟩
  refine ⟨F2, ρ2, e2, st2, r2, _, Q, h2, fun F3 ρ3 e3 st3 H3 u le3 r3 h3 => ?_⟩
  exact gCut_ok r3 (rx.mono (le2.toLe.trans le3.toLe)) h3
/-- xs[::-1], a list -/
def gRev (x : D) (e : Sl) (s : Sto) : ER := match vw x e s with
  | .lst ds => .ok (.lst ds.reverse) e s
  | _ => .stuck
theorem de_rev {k : Nat} {p1 p2 p3 : Pos} (ha : DE c X a fa) : DE c X (.Subscript a (.Slice none none (some (.UnaryOp .USub (.Constant (.int 1) k p1) p2)) p3) pos) (eUn gRev fa) := by
  refine de_imp (pe_revL ha) fun F ρ e st σ H Q r q => ⟨F, ρ, e, st, r, bindE q fun F1 ρ1 e1 st1 H1 v x le1 r1 rx h1 => ?_⟩
  have hx := vw_ok r1 rx
  unfold gRev at h1
  generalize vw x e1 st1 = dx at *
  split at h1
  · cases hx with | lst a1 a2 a3 =>
    subst a1
    exact ⟨_, _, rfl, .of a2, fun p hp => h1.lst r1 a3.reverse hp⟩
  · exact h1.elim

/-! ### truth: and, or, not as values and as tests -/
def eAnd (fa fb : EF) : EF := fun e s => (fa e s).bind fun x e s => match x with | .bl true => fb e s | .bl false => .ok (.bl false) e s | _ => .stuck
def eOr (fa fb : EF) : EF := fun e s => (fa e s).bind fun x e s => match x with | .bl true => .ok (.bl true) e s | .bl false => fb e s | _ => .stuck
def gNot (x : D) (e : Sl) (s : Sto) : ER := match x with | .bl k => .ok (.bl (!k)) e s | _ => .stuck
def eIf (fc fa fb : EF) : EF := fun e s => (fc e s).bind fun x e s => match x with | .bl true => fa e s | .bl false => fb e s | _ => .stuck
theorem de_one {op : BoolOp} (h : DE c X a fa) : DE c X (.BoolOp op [a] pos) fa := pe_one h
theorem de_and {rest : List Expr} (ha : DE c X a fa) (hb : DE c X (.BoolOp .And (b :: rest) pos) fb) : DE c X (.BoolOp .And (a :: b :: rest) pos) (eAnd fa fb) := by
  refine de_imp (pe_and ha hb) fun F ρ e st σ H Q r q => ⟨F, ρ, e, st, r, bindE q fun F1 ρ1 e1 st1 H1 v x le1 r1 rx h1 => ?_⟩
  split at h1
  · cases repB rx
    exact ⟨true, rfl, by rw [if_pos rfl]; exact ⟨F1, ρ1, e1, st1, r1, h1⟩⟩
  · cases repB rx
    exact ⟨false, rfl, by rw [if_neg Bool.false_ne_true]; exact h1.bl r1⟩
  · exact h1.elim
theorem de_or {rest : List Expr} (ha : DE c X a fa) (hb : DE c X (.BoolOp .Or (b :: rest) pos) fb) : DE c X (.BoolOp .Or (a :: b :: rest) pos) (eOr fa fb) := by
  refine de_imp (pe_or ha hb) fun F ρ e st σ H Q r q => ⟨F, ρ, e, st, r, bindE q fun F1 ρ1 e1 st1 H1 v x le1 r1 rx h1 => ?_⟩
  split at h1
  · cases repB rx
    exact ⟨true, rfl, by rw [if_pos rfl]; exact h1.bl r1⟩
  · cases repB rx
    exact ⟨false, rfl, by rw [if_neg Bool.false_ne_true]; exact ⟨F1, ρ1, e1, st1, r1, h1⟩⟩
  · exact h1.elim
theorem de_not (ha : DE c X a fa) : DE c X (.UnaryOp .Not a pos) (eUn gNot fa) := by
  refine de_imp (pe_not ha) fun F ρ e st σ H Q r q => ⟨F, ρ, e, st, r, bindE q fun F1 ρ1 e1 st1 H1 v x le1 r1 rx h1 => ?_⟩
  unfold gNot at h1
  split at h1
  · cases repB rx
    exact ⟨_, rfl, h1.bl r1⟩
  · exact h1.elim
section
variable {K : PySem.W.Frag} {mg : Str → Option Value} {F F1 : Addr → Prop} {ρ ρ1 : List Addr} {H H1 : Hp} {e e1 : Sl} {σ : St} {st : Sto} {Q : Bool → Hp → Prop}
theorem TPost.shift {r : ER} (le : LeE e e1 σ F ρ H F1 ρ1 H1) (h : TPost K mg c e σ F ρ H Q r) : TPost K mg c e1 σ F1 ρ1 H1 Q r := by
  cases r with
  | ok d e' st' =>
    cases d with
    | bl b => exact fun F' ρ' H' l r => h F' ρ' H' (le.trans l) r
    | _ => exact h
  | exc n e' st' => exact h
  | stuck => exact h
theorem bindT {r : ER} {k : D → Sl → Sto → ER} {Q' : Bool → Hp → Prop} (h : TPost K mg c e σ F ρ H Q (r.bind k)) (hb : ∀ d e s, (∀ b, d ≠ .bl b) → k d e s = .stuck)
    (q : ∀ F1 ρ1 e1 st1 H1 b, LeE e e1 σ F ρ H F1 ρ1 H1 → R K mg c F1 ρ1 e1 st1 σ H1 → TPost K mg c e1 σ F1 ρ1 H1 Q (k (.bl b) e1 st1) → Q' b H1) : TPost K mg c e σ F ρ H Q' r := by
  cases r with
  | ok d e' st' =>
    by_cases hd : ∃ b, d = .bl b
    · obtain ⟨b, rfl⟩ := hd
      exact fun F' ρ' H' l r => q F' ρ' e' st' H' b l r (TPost.shift (r := k (.bl b) e' st') l h)
    · have := hb d e' st' fun b z => hd ⟨b, z⟩
      rw [show (ER.ok d e' st').bind k = k d e' st' from rfl, this] at h
      exact h.elim
  | exc n e' st' => exact h
  | stuck => exact h
/-- a test by a value that is True or False -/
theorem TPost.of {r : ER} (h : TPost K mg c e σ F ρ H Q r) : EPost K mg c e σ F ρ H (fun v H' => ∃ b, v = .bl b ∧ Q b H') r := by
  cases r with
  | ok d e' st' =>
    cases d with
    | bl b => exact fun F' ρ' H' v l r x => by cases repB x; exact ⟨b, rfl, h F' ρ' H' l r⟩
    | _ => exact h.elim
  | exc n e' st' => exact h
  | stuck => exact h
end
theorem dt_imp {e : Expr} {t : TT} {f : EF} (h : PT X e t) (k : ∀ F ρ e st σ H Q, R X.K X.mg c F ρ e st σ H → TPost X.K X.mg c e σ F ρ H Q (f e st) → t σ H Q) : DT c X e f :=
  ⟨fun pins s σ H Q I ⟨F, ρ, e, st, r, q⟩ => h.run pins s σ H Q I (k F ρ e st σ H Q r q)⟩
/-- any value that is True or False, as a test -/
theorem dt_val (h : DE c X a fa) (he : ∀ whole, isTrue a X.env whole = (do let v ← whole; standAt a.pos; holding [v] (truthy v)) := by intro _; rfl) : DT c X a fa :=
  dt_imp (pt_val h he) fun F ρ e st σ H Q r q => ⟨F, ρ, e, st, r, q.of⟩
theorem dt_cmp {op : CmpOp} {t : TE} (hp : PT X (.Compare a [op] [b] pos) (tTest t)) (k : ∀ F ρ e st σ H Q, R X.K X.mg c F ρ e st σ H → EPost X.K X.mg c e σ F ρ H Q (f e st) → t σ H Q) : DT c X (.Compare a [op] [b] pos) f :=
  dt_imp hp fun F ρ e st σ H Q r q => k F ρ e st σ H _ r q.of
structure DW (c : Dx) (X : Cx) (e : Expr) (f : EF) : Prop where
  p : PW X e (tTD X.K X.mg c f)
theorem dw_and1 (h : DT c X a fa) : DW c X (.BoolOp .And [a] pos) fa := ⟨pw_and1 h⟩
theorem dw_or1 (h : DT c X a fa) : DW c X (.BoolOp .Or [a] pos) fa := ⟨pw_or1 h⟩
theorem dw_and {rest : List Expr} (ha : DT c X a fa) (hb : DW c X (.BoolOp .And (b :: rest) pos) fb) : DW c X (.BoolOp .And (a :: b :: rest) pos) (eAnd fa fb) := by
  refine ⟨⟨fun whole pins s σ H Q I ⟨F, ρ, e, st, r, q⟩ => (pw_and ha hb.p).run whole pins s σ H Q I ⟨F, ρ, e, st, r, bindT q (fun d e s n => ?_) fun F1 ρ1 e1 st1 H1 b le1 r1 h1 => ?_⟩⟩⟩
  · cases d <;> first | rfl | exact absurd rfl (n _)
  · cases b with
    | true => rw [if_pos rfl]; exact ⟨F1, ρ1, e1, st1, r1, h1⟩
    | false => rw [if_neg Bool.false_ne_true]; exact h1 F1 ρ1 H1 LeE.refl r1
theorem dw_or {rest : List Expr} (ha : DT c X a fa) (hb : DW c X (.BoolOp .Or (b :: rest) pos) fb) : DW c X (.BoolOp .Or (a :: b :: rest) pos) (eOr fa fb) := by
  refine ⟨⟨fun whole pins s σ H Q I ⟨F, ρ, e, st, r, q⟩ => (pw_or ha hb.p).run whole pins s σ H Q I ⟨F, ρ, e, st, r, bindT q (fun d e s n => ?_) fun F1 ρ1 e1 st1 H1 b le1 r1 h1 => ?_⟩⟩⟩
  · cases d <;> first | rfl | exact absurd rfl (n _)
  · cases b with
    | true => rw [if_pos rfl]; exact h1 F1 ρ1 H1 LeE.refl r1
    | false => rw [if_neg Bool.false_ne_true]; exact ⟨F1, ρ1, e1, st1, r1, h1⟩
theorem DW.t (h : DW c X a fa) : DT c X a fa := h.p.pt
theorem dt_not (h : DT c X a fa) : DT c X (.UnaryOp .Not a pos) (eUn gNot fa) :=
  dt_imp (pt_not h) fun F ρ e st σ H Q r q => ⟨F, ρ, e, st, r, bindT q (fun d e s n => by cases d <;> first | rfl | exact absurd rfl (n _)) fun F1 ρ1 e1 st1 H1 b le1 r1 h1 => h1 F1 ρ1 H1 LeE.refl r1⟩
theorem de_ifx {cx : Expr} {fc : EF} (hc : DT c X cx fc) (ha : DE c X a fa) (hb : DE c X b fb) : DE c X (.IfExp cx a b pos) (eIf fc fa fb) := by
  refine de_imp (pe_ifExp hc ha hb) fun F ρ e st σ H Q r q => ⟨F, ρ, e, st, r, ?_⟩
  unfold eIf at q
  cases hr : fc e st with
  | ok d e' st' =>
    rw [hr] at q
    simp only [ER.bind] at q
    split at q
    · intro F' ρ' H' l r'
      rw [if_pos rfl]
      exact ⟨F', ρ', e', st', r', EPost.shift l q⟩
    · intro F' ρ' H' l r'
      rw [if_neg Bool.false_ne_true]
      exact ⟨F', ρ', e', st', r', EPost.shift l q⟩
    · exact q.elim
  | exc n e' st' => rw [hr] at q; exact q
  | stuck => rw [hr] at q; exact q
/-! ### comparisons, as values and as tests -/
structure Cm (c : Dx) (X : Cx) (op : CmpOp) (a b : Expr) (pos : Pos) (f : EF) : Prop where
  e : DE c X (.Compare a [op] [b] pos) f
  t : DT c X (.Compare a [op] [b] pos) f
theorem cm_of {op : CmpOp} {r : R2} {g : D → D → Sl → Sto → ER} (ho : OpR X (compareOp op) r) (hd : OpD X r g) (ha : DE c X a fa) (hb : DE c X b fb) (hm : behindInMarks op b = false) : Cm c X op a b pos (eBin g fa fb) := by
  have main : ∀ F ρ e st σ H Q, R X.K X.mg c F ρ e st σ H → EPost X.K X.mg c e σ F ρ H Q (eBin g fa fb e st) → tOp r (tED X.K X.mg c fa) (tED X.K X.mg c fb) σ H Q := fun F ρ e st σ H Q hr h =>
    ⟨F, ρ, e, st, hr, bindE h fun F1 ρ1 e1 st1 H1 v x le1 r1 rx h1 => ⟨F1, ρ1, e1, st1, r1, bindE h1 fun F2 ρ2 e2 st2 H2 u y le2 r2 ry h2 => hd c F2 ρ2 e2 st2 σ H2 x y v u Q r2 (rx.mono le2.toLe) ry h2⟩⟩
  exact ⟨de_imp (pe_cmpR ho ha hb hm) main, dt_imp (pt_cmpR ho ha hb hm) fun F ρ e st σ H Q r q => main F ρ e st σ H _ r q.of⟩
theorem opD_lt : OpD X (rI0 fun i j => .bl (decide (i < j))) (gI kLt) := opD_I fun i j d h => by cases h; exact ⟨_, fun _ _ _ _ => .bl _, fun H Q q => ⟨_, _, rfl, rfl, q⟩⟩
theorem opD_le : OpD X (rI0 fun i j => .bl (decide (i ≤ j))) (gI kLe) := opD_I fun i j d h => by cases h; exact ⟨_, fun _ _ _ _ => .bl _, fun H Q q => ⟨_, _, rfl, rfl, q⟩⟩
theorem opD_gt : OpD X (rI0 fun i j => .bl (decide (j < i))) (gI fun i j => kLt j i) := opD_I fun i j d h => by cases h; exact ⟨_, fun _ _ _ _ => .bl _, fun H Q q => ⟨_, _, rfl, rfl, q⟩⟩
theorem opD_ge : OpD X (rI0 fun i j => .bl (decide (j ≤ i))) (gI fun i j => kLe j i) := opD_I fun i j d h => by cases h; exact ⟨_, fun _ _ _ _ => .bl _, fun H Q q => ⟨_, _, rfl, rfl, q⟩⟩
theorem cm_lt (ha : DE c X a fa) (hb : DE c X b fb) : Cm c X .Lt a b pos (eBin (gI kLt) fa fb) := cm_of op_lt opD_lt ha hb (nomark _)
theorem cm_le (ha : DE c X a fa) (hb : DE c X b fb) : Cm c X .LtE a b pos (eBin (gI kLe) fa fb) := cm_of op_le opD_le ha hb (nomark _)
theorem cm_gt (ha : DE c X a fa) (hb : DE c X b fb) : Cm c X .Gt a b pos (eBin (gI fun i j => kLt j i) fa fb) := cm_of op_gt opD_gt ha hb (nomark _)
theorem cm_ge (ha : DE c X a fa) (hb : DE c X b fb) : Cm c X .GtE a b pos (eBin (gI fun i j => kLe j i) fa fb) := cm_of op_ge opD_ge ha hb (nomark _)
theorem cm_in (hu : X.A.units + 1 < cLine) (ha : DE c X a fa) (hb : DE c X b fb) (hm : behindInMarks .In b = false := by rfl) : Cm c X .In a b pos (eBin (gIn false) fa fb) := cm_of ((op_DIn hu).or op_in_seq) (opD_in false) ha hb hm
theorem cm_notIn (hu : X.A.units + 1 < cLine) (ha : DE c X a fa) (hb : DE c X b fb) (hm : behindInMarks .NotIn b = false := by rfl) : Cm c X .NotIn a b pos (eBin (gIn true) fa fb) := cm_of ((op_DNotIn hu).or op_notIn_seq) (opD_in true) ha hb hm
theorem opD_isB : OpD X rIsB gIsB := fun c F ρ e st σ H x y v u Q r rx ry h => by
  unfold gIsB at h
  split at h
  · cases repB rx
    cases repB ry
    exact ⟨_, _, rfl, rfl, h.bl r⟩
  · exact h.elim
theorem opD_notB : OpD X rNotB gNotB := fun c F ρ e st σ H x y v u Q r rx ry h => by
  unfold gNotB at h
  split at h
  · cases repB rx
    cases repB ry
    exact ⟨_, _, rfl, rfl, h.bl r⟩
  · exact h.elim
theorem cm_isB (ha : DE c X a fa) (hb : DE c X b fb) : Cm c X .Is a b pos (eBin gIsB fa fb) := cm_of op_isBl opD_isB ha hb (nomark _)
theorem cm_notB (ha : DE c X a fa) (hb : DE c X b fb) : Cm c X .IsNot a b pos (eBin gNotB fa fb) := cm_of op_notBl opD_notB ha hb (nomark _)
theorem cm_isN {j : Nat} {pos' : Pos} (ha : DE c X a fa) : Cm c X .Is a (.Constant .none j pos') pos (eUn (gIsN .non) fa) := by
  refine ⟨de_isN ha, dt_imp (pt_cmp (pc_isN ha)) fun F ρ e st σ H Q r q => ⟨F, ρ, e, st, r, bindE q.of fun F1 ρ1 e1 st1 H1 v x le1 r1 rx h1 => ?_⟩⟩
  show ∃ k, V.bl (decide (v = .non)) = .bl k ∧ Q k H1
  rw [isN_iff rx]
  exact h1.bl r1
theorem cm_notN {j : Nat} {pos' : Pos} (ha : DE c X a fa) : Cm c X .IsNot a (.Constant .none j pos') pos (eUn (gNotN .non) fa) := by
  refine ⟨de_notN ha, dt_imp (pt_cmp (pc_notN ha)) fun F ρ e st σ H Q r q => ⟨F, ρ, e, st, r, bindE q.of fun F1 ρ1 e1 st1 H1 v x le1 r1 rx h1 => ?_⟩⟩
  show ∃ k, V.bl (!decide (v = .non)) = .bl k ∧ Q k H1
  rw [isN_iff rx]
  exact h1.bl r1
/-- a < b < c, ints -/
def eChain (k k' : Int → Int → Bool) (fa fb fc : EF) : EF := fun e s => (fa e s).bind fun x e s => (fb e s).bind fun y e s => match x, y with
  | .int i, .int j => if k i j = true then (fc e s).bind (fun z e s => match z with | .int l => .ok (.bl (k' j l)) e s | _ => .stuck) else .ok (.bl false) e s
  | _, _ => .stuck
def bLt (i j : Int) : Bool := decide (i < j)
def bLe (i j : Int) : Bool := decide (i ≤ j)
structure Ch (c : Dx) (X : Cx) (op op' : CmpOp) (a b d : Expr) (pos : Pos) (f : EF) : Prop where
  e : DE c X (.Compare a [op, op'] [b, d] pos) f
  t : DT c X (.Compare a [op, op'] [b, d] pos) f
theorem ch_of {op op' : CmpOp} {k k' : Int → Int → Bool} {d : Expr} {fd : EF} (ho : OpR X (compareOp op) (rI0 fun i j => .bl (k i j))) (ho' : OpR X (compareOp op') (rI0 fun i j => .bl (k' i j))) (ha : DE c X a fa) (hb : DE c X b fb) (hd : DE c X d fd)
    (hm : lastMarks [op, op'] [b, d] = false) : Ch c X op op' a b d pos (eChain k k' fa fb fd) := by
  have main : ∀ F ρ e st σ H Q, R X.K X.mg c F ρ e st σ H → EPost X.K X.mg c e σ F ρ H Q (eChain k k' fa fb fd e st) → tChain (rI0 fun i j => .bl (k i j)) (rI0 fun i j => .bl (k' i j)) (tED X.K X.mg c fa) (tED X.K X.mg c fb) (tED X.K X.mg c fd) σ H Q := fun F ρ e st σ H Q hr h => by
    refine ⟨F, ρ, e, st, hr, bindE h fun F1 ρ1 e1 st1 H1 v x le1 r1 rx h1 => ⟨F1, ρ1, e1, st1, r1, bindE h1 fun F2 ρ2 e2 st2 H2 u y le2 r2 ry h2 => ?_⟩⟩
    split at h2
    · rename_i i j
      cases repI rx
      cases repI ry
      refine ⟨i, j, rfl, rfl, k i j, rfl, ?_⟩
      split at h2
      · rename_i hk
        rw [if_pos hk]
        refine ⟨F2, ρ2, e2, st2, r2, bindE h2 fun F3 ρ3 e3 st3 H3 w z le3 r3 rz h3 => ?_⟩
        split at h3
        · cases repI rz
          exact ⟨_, _, rfl, rfl, h3.bl r3⟩
        · exact h3.elim
      · rename_i hk
        rw [if_neg hk]
        exact h2.bl r2
    · exact h2.elim
  exact ⟨de_imp (pe_chain ho ho' ha hb hd hm) main, dt_imp (pt_chain ho ho' ha hb hd hm) fun F ρ e st σ H Q r q => main F ρ e st σ H _ r q.of⟩
theorem ch_leLt {d : Expr} {fd : EF} (ha : DE c X a fa) (hb : DE c X b fb) (hd : DE c X d fd) (hm : lastMarks [.LtE, .Lt] [b, d] = false := by with_unfolding_all rfl) : Ch c X .LtE .Lt a b d pos (eChain bLe bLt fa fb fd) := ch_of op_le op_lt ha hb hd hm
theorem ch_leLe {d : Expr} {fd : EF} (ha : DE c X a fa) (hb : DE c X b fb) (hd : DE c X d fd) (hm : lastMarks [.LtE, .LtE] [b, d] = false := by with_unfolding_all rfl) : Ch c X .LtE .LtE a b d pos (eChain bLe bLe fa fb fd) := ch_of op_le op_le ha hb hd hm

/-! ### calls of built-ins -/
theorem de_b1 {id : String} {x : Str} {p : Pos} {r : List V → Hp → VK → Prop} {g : D → Sl → Sto → ER} (hc : CallR X (.builtin id) r) (hg : Gl X x) (hm : X.mg x = none) (hv : bootBuiltins x = some (.builtin id))
    (ho : ∀ (F : Addr → Prop) (ρ : List Addr) (e : Sl) (st : Sto) (σ : St) (H : Hp) (x : D) (v : V) (Q : VK), R X.K X.mg c F ρ e st σ H → RepX X.K F ρ H σ v x → EPost X.K X.mg c e σ F ρ H Q (g x e st) → r [v] H Q)
    (ha : DE c X a fa) (hn : x ≠ "__name__" := by decide) (hdb : (x == ("__debug__" : Str)) = false := by decide)
    (he : starEach [a] X.env = (false, eval a X.env) :: starEach [] X.env := by rfl) (hpl : (backTo pos (starEach [] X.env)).any (·.1) = false := by rfl) : DE c X (.Call (.Name x p) [a] [] pos) (eUn g fa) := by
  refine de_imp (pe_callB hc hg hm hv (pa_cons ha pa_nil he) hn hdb he hpl) fun F ρ e st σ H Q r q => ⟨F, ρ, e, st, r, bindE q fun F1 ρ1 e1 st1 H1 v d le1 r1 rx h1 => ?_⟩
  exact ho F1 ρ1 e1 st1 σ H1 d v Q r1 rx h1
theorem de_t1 {T : String} {x : Str} {p : Pos} {r : List V → Hp → VK → Prop} {g : D → Sl → Sto → ER} (hc : CallR X (.type T) r) (hg : Gl X x) (hm : X.mg x = none) (hv : bootBuiltins x = some (.type T))
    (ho : ∀ (F : Addr → Prop) (ρ : List Addr) (e : Sl) (st : Sto) (σ : St) (H : Hp) (x : D) (v : V) (Q : VK), R X.K X.mg c F ρ e st σ H → RepX X.K F ρ H σ v x → EPost X.K X.mg c e σ F ρ H Q (g x e st) → r [v] H Q)
    (ha : DE c X a fa) (hn : x ≠ "__name__" := by decide) (hdb : (x == ("__debug__" : Str)) = false := by decide)
    (he : starEach [a] X.env = (false, eval a X.env) :: starEach [] X.env := by rfl) (hpl : (backTo pos (starEach [] X.env)).any (·.1) = false := by rfl) : DE c X (.Call (.Name x p) [a] [] pos) (eUn g fa) := by
  refine de_imp (pe_callTy hc hg hm hv (pa_cons ha pa_nil he) hn hdb he hpl) fun F ρ e st σ H Q r q => ⟨F, ρ, e, st, r, bindE q fun F1 ρ1 e1 st1 H1 v d le1 r1 rx h1 => ?_⟩
  exact ho F1 ρ1 e1 st1 σ H1 d v Q r1 rx h1
/-- .. that make a new list or dict -/
theorem dn_t1 {T : String} {x : Str} {p : Pos} {r : List V → Hp → VK → Prop} {g : D → Sl → Sto → ER} (hc : CallR X (.type T) r) (hg : Gl X x) (hm : X.mg x = none) (hv : bootBuiltins x = some (.type T))
    (ho : ∀ (F : Addr → Prop) (ρ : List Addr) (e : Sl) (st : Sto) (σ : St) (H : Hp) (x : D) (v : V) (Q : VK), R X.K X.mg c F ρ e st σ H → RepX X.K F ρ H σ v x → NPost X.K X.mg c e σ F ρ H Q (g x e st) → r [v] H Q)
    (ha : DE c X a fa) (hn : x ≠ "__name__" := by decide) (hdb : (x == ("__debug__" : Str)) = false := by decide)
    (he : starEach [a] X.env = (false, eval a X.env) :: starEach [] X.env := by rfl) (hpl : (backTo pos (starEach [] X.env)).any (·.1) = false := by rfl) : DN c X (.Call (.Name x p) [a] [] pos) (eUn g fa) := by
  refine ⟨fun pins s σ H Q I ⟨F, ρ, e, st, r, q⟩ => (pe_callTy hc hg hm hv (pa_cons ha pa_nil he) hn hdb he hpl).run pins s σ H Q I ⟨F, ρ, e, st, r, bindN q fun F1 ρ1 e1 st1 H1 v d le1 r1 rx h1 => ?_⟩⟩
  exact ho F1 ρ1 e1 st1 σ H1 d v Q r1 rx h1
theorem dn_b1 {id : String} {x : Str} {p : Pos} {r : List V → Hp → VK → Prop} {g : D → Sl → Sto → ER} (hc : CallR X (.builtin id) r) (hg : Gl X x) (hm : X.mg x = none) (hv : bootBuiltins x = some (.builtin id))
    (ho : ∀ (F : Addr → Prop) (ρ : List Addr) (e : Sl) (st : Sto) (σ : St) (H : Hp) (x : D) (v : V) (Q : VK), R X.K X.mg c F ρ e st σ H → RepX X.K F ρ H σ v x → NPost X.K X.mg c e σ F ρ H Q (g x e st) → r [v] H Q)
    (ha : DE c X a fa) (hn : x ≠ "__name__" := by decide) (hdb : (x == ("__debug__" : Str)) = false := by decide)
    (he : starEach [a] X.env = (false, eval a X.env) :: starEach [] X.env := by rfl) (hpl : (backTo pos (starEach [] X.env)).any (·.1) = false := by rfl) : DN c X (.Call (.Name x p) [a] [] pos) (eUn g fa) := by
  refine ⟨fun pins s σ H Q I ⟨F, ρ, e, st, r, q⟩ => (pe_callB hc hg hm hv (pa_cons ha pa_nil he) hn hdb he hpl).run pins s σ H Q I ⟨F, ρ, e, st, r, bindN q fun F1 ρ1 e1 st1 H1 v d le1 r1 rx h1 => ?_⟩⟩
  exact ho F1 ρ1 e1 st1 σ H1 d v Q r1 rx h1
theorem call_lenR : CallR X (.builtin "len") (fun xs H Q => ∃ a kvs, xs = [V.ref a] ∧ Rd H a (.dK kvs) ∧ Q (.int kvs.length) H) := by
  intro pins s σ H xs us Q I r ⟨a, kvs, e, ha, q⟩
  subst e
  obtain ⟨u, eu, ru⟩ := vals1 r
  subst eu
  cases ru
  exact d_len I ha fun t s' I' => ⟨.int kvs.length, H, I', ⟨t, rfl⟩, q⟩
/-- len -/
def gLen (x : D) (e : Sl) (s : Sto) : ER := match vw x e s with
  | .str z => if z.length ≤ lim then .ok (.int z.length) e s else .stuck
  | .dk kvs => .ok (.int kvs.length) e s
  | d => (match asSeq d with | some ds => .ok (.int ds.length) e s | none => .stuck)
theorem de_len {p : Pos} (hg : Gl X "len") (hm : X.mg "len" = none) (ha : DE c X a fa) (he : starEach [a] X.env = (false, eval a X.env) :: starEach [] X.env := by rfl) (hpl : (backTo pos (starEach [] X.env)).any (·.1) = false := by rfl) :
    DE c X (.Call (.Name "len" p) [a] [] pos) (eUn gLen fa) := by
  refine de_b1 (CallR.or call_len_seq (CallR.or call_len_str call_lenR)) hg hm boot_len (fun F ρ e st σ H x v Q r rx h => ?_) ha (by decide) (by decide) he hpl
  have hx := vw_ok r rx
  unfold gLen at h
  generalize vw x e st = dx at *
  split at h
  · cases hx with | str b1 =>
    subst b1
    split at h
    · rename_i hz
      exact .inr (.inl ⟨_, rfl, lim_le hz, h.int r⟩)
    · exact h.elim
  · cases hx with | dk b1 b2 b3 =>
    subst b1
    refine .inr (.inr ⟨_, _, rfl, b2, ?_⟩)
    rw [b3.length]
    exact h.int r
  · split at h
    · rename_i ds hds
      obtain ⟨a, vs, rfl, hs, rs⟩ := hx.seq hds
      refine .inl ⟨a, vs, rfl, hs, ?_⟩
      rw [rs.length]
      exact h.int r
    · exact h.elim
end
end DL
end
section
set_option Elab.async false
set_option linter.all false
set_option maxRecDepth 100000
set_option maxHeartbeats 4000000
set_option autoImplicit false
/-! DLF: more built-ins; isinstance; calls of defs. -/
namespace DL
open PySem PySem.Spec L2
open PyProof.Rows hiding St
section
variable {X : Cx} {c : Dx} {a b ex : Expr} {es : List Expr} {fa fb : EF} {fs : AF} {pos : Pos} {f : EF}

def gAbs (x : D) (e : Sl) (s : Sto) : ER := match x with | .int i => .ok (.int (if i < 0 then -i else i)) e s | _ => .stuck
theorem de_abs {p : Pos} (hg : Gl X "abs") (hm : X.mg "abs" = none) (ha : DE c X a fa) (he : starEach [a] X.env = (false, eval a X.env) :: starEach [] X.env := by rfl) (hpl : (backTo pos (starEach [] X.env)).any (·.1) = false := by rfl) :
    DE c X (.Call (.Name "abs" p) [a] [] pos) (eUn gAbs fa) := by
  refine de_b1 call_abs hg hm (by decide +kernel) (fun F ρ e st σ H x v Q r rx h => ?_) ha (by decide) (by decide) he hpl
  unfold gAbs at h
  split at h
  · cases repI rx
    exact ⟨_, rfl, h.int r⟩
  · exact h.elim
def gInt (x : D) (e : Sl) (s : Sto) : ER := match x with | .int i => .ok (.int i) e s | .bl k => .ok (.int (if k then 1 else 0)) e s | _ => .stuck
theorem de_int1 {p : Pos} (hg : Gl X "int") (hm : X.mg "int" = none) (ha : DE c X a fa) (he : starEach [a] X.env = (false, eval a X.env) :: starEach [] X.env := by rfl) (hpl : (backTo pos (starEach [] X.env)).any (·.1) = false := by rfl) :
    DE c X (.Call (.Name "int" p) [a] [] pos) (eUn gInt fa) := by
  refine de_t1 call_int1 hg hm (by decide +kernel) (fun F ρ e st σ H x v Q r rx h => ?_) ha (by decide) (by decide) he hpl
  unfold gInt at h
  split at h
  · cases repI rx
    exact .inl ⟨_, rfl, h.int r⟩
  · cases repB rx
    exact .inr ⟨_, rfl, h.int r⟩
  · exact h.elim
/-- list(x) -/
def gList (x : D) (e : Sl) (s : Sto) : ER := match asSeq (vw x e s) with | some ds => .ok (.lst ds) e s | none => .stuck
theorem dn_list {p : Pos} (hg : Gl X "list") (hm : X.mg "list" = none) (ha : DE c X a fa) (he : starEach [a] X.env = (false, eval a X.env) :: starEach [] X.env := by rfl) (hpl : (backTo pos (starEach [] X.env)).any (·.1) = false := by rfl) :
    DN c X (.Call (.Name "list" p) [a] [] pos) (eUn gList fa) := by
  refine dn_t1 call_list_of hg hm (by decide +kernel) (fun F ρ e st σ H x v Q r rx h => ?_) ha (by decide) (by decide) he hpl
  have hx := vw_ok r rx
  unfold gList at h
  split at h
  · rename_i ds hds
    obtain ⟨a, vs, rfl, hs, rs⟩ := hx.seq hds
    exact ⟨a, vs, rfl, hs, fun l hl => h.lst r rs hl⟩
  · exact h.elim
/-- tuple(x) -/
def gTuple (x : D) (e : Sl) (s : Sto) : ER := match asSeq (vw x e s) with | some ds => .ok (.tup ds) e s | none => .stuck
theorem de_tuple {p : Pos} (hg : Gl X "tuple") (hm : X.mg "tuple" = none) (ha : DE c X a fa) (he : starEach [a] X.env = (false, eval a X.env) :: starEach [] X.env := by rfl) (hpl : (backTo pos (starEach [] X.env)).any (·.1) = false := by rfl) :
    DE c X (.Call (.Name "tuple" p) [a] [] pos) (eUn gTuple fa) := by
  refine de_t1 call_tuple_of hg hm (by decide +kernel) (fun F ρ e st σ H x v Q r rx h => ?_) ha (by decide) (by decide) he hpl
  have hx := vw_ok r rx
  unfold gTuple at h
  generalize vw x e st = dx at *
  split at h
  · rename_i ds hds
    cases hx with
    | tup h1 h2 h3 => cases hds; subst h1; exact ⟨_, _, rfl, .inr ⟨h2.sq, h.pure r (.tup h2 h3)⟩⟩
    | lst h1 h2 h3 => cases hds; subst h1; exact ⟨_, _, rfl, .inl ⟨.of h2, fun l hl => h.tup r h3 hl⟩⟩
    | scr h1 h2 h3 => cases hds; subst h1; exact ⟨_, _, rfl, .inl ⟨h2, fun l hl => h.tup r h3 hl⟩⟩
    | _ => cases hds
  · exact h.elim
/-- dict(d), a copy; dict(ps), a list of pairs -/
def pairK : D → Option (Key × D)
  | .tup [k, d] => (match toK k with | some k => some (k, d) | none => none)
  | _ => none
def pairsK : List D → Option (List (Key × D))
  | [] => some []
  | p :: ps => match pairK p, pairsK ps with
    | some p, some ps => some (p :: ps)
    | _, _ => none
def gDict (x : D) (e : Sl) (s : Sto) : ER := match vw x e s with
  | .dk kvs => .ok (.dk kvs) e s
  | .lst ps => (match pairsK ps with | some kvs => .ok (.dk (ptAll [] kvs)) e s | none => .stuck)
  | _ => .stuck
theorem pairs_ok {K : PySem.W.Frag} {F : Addr → Prop} {ρ : List Addr} {H : Hp} : ∀ {ds : List D} {vs : List V} {kds : List (Key × D)}, Reps K F ρ H vs ds → pairsK ds = some kds →
    ∃ (ps : List Addr) (kvs : List (Key × V)), vs = ps.map V.ref ∧ Paired (fun p kv => SqT K H p [kV kv.1, kv.2]) ps kvs ∧ RepK K F ρ H kvs kds
  | [], _, _, h, e => by cases h; cases e; exact ⟨[], [], rfl, .nil, .nil⟩
  | d :: ds, _, _, h, e => by
    cases h with
    | @cons v vs _ _ h1 h2 =>
      unfold pairsK at e
      split at e
      · rename_i p ps hp hps
        cases e
        obtain ⟨as, kvs, rfl, q1, q2⟩ := pairs_ok h2 hps
        unfold pairK at hp
        split at hp
        · split at hp
          · rename_i k0 d0 k hk
            cases hp
            cases h1 with
            | @tup a us _ t1 t2 =>
              cases t2 with
              | @cons u1 us1 _ _ t3 t4 =>
                cases t4 with
                | @cons u2 us2 _ _ t5 t6 =>
                  cases t6
                  cases toK_ok (σ := []) (.inr t3) hk
                  exact ⟨a :: as, (k, u2) :: kvs, rfl, .cons t1.sq q1, .cons t5 q2⟩
          · cases hp
        · cases hp
      · cases e
theorem dn_dictOf {p : Pos} (hc : X.calm = true) (hg : Gl X "dict") (hm : X.mg "dict" = none) (ha : DE c X a fa) (he : starEach [a] X.env = (false, eval a X.env) :: starEach [] X.env := by rfl) (hpl : (backTo pos (starEach [] X.env)).any (·.1) = false := by rfl) :
    DN c X (.Call (.Name "dict" p) [a] [] pos) (eUn gDict fa) := by
  refine dn_t1 (CallR.or call_dictD (call_dictP hc)) hg hm (by decide +kernel) (fun F ρ e st σ H x v Q r rx h => ?_) ha (by decide) (by decide) he hpl
  have hx := vw_ok r rx
  unfold gDict at h
  generalize vw x e st = dx at *
  split at h
  · cases hx with | dk b1 b2 b3 =>
    subst b1
    exact .inl ⟨_, _, rfl, b2, fun p hp => h.dk r b3 hp⟩
  · cases hx with | lst b1 b2 b3 =>
    subst b1
    split at h
    · rename_i kds hk
      obtain ⟨ps, kvs, rfl, q1, q2⟩ := pairs_ok b3 hk
      exact .inr ⟨_, ps, kvs, rfl, .of b2, q1, fun p hp => h.dk r (mergeK_all .nil q2) hp⟩
    · exact h.elim
  · exact h.elim
/-- sorted, ints -/
def ins (i : Int) : List Int → List Int
  | [] => [i]
  | j :: r => if i ≤ j then i :: j :: r else j :: ins i r
def isort : List Int → List Int
  | [] => []
  | i :: r => ins i (isort r)
theorem ins_perm (i : Int) : ∀ l : List Int, (ins i l).Perm (i :: l)
  | [] => .refl _
  | j :: r => by
    unfold ins
    split
    · exact .refl _
    · exact ((ins_perm i r).cons j).trans (.swap i j r)
theorem isort_perm : ∀ l : List Int, (isort l).Perm l
  | [] => .refl _
  | i :: r => (ins_perm i _).trans ((isort_perm r).cons i)
theorem ins_sorted (i : Int) : ∀ l : List Int, l.Pairwise (· ≤ ·) → (ins i l).Pairwise (· ≤ ·)
  | [], _ => List.pairwise_singleton _ _
  | j :: r, h => by
    unfold ins
    rw [List.pairwise_cons] at h
    split
    · rename_i hij
      rw [List.pairwise_cons, List.pairwise_cons]
      refine ⟨fun x hx => ?_, h⟩
      rcases List.mem_cons.mp hx with e | hx
      · rw [e]; exact hij
      · exact Int.le_trans hij (h.1 x hx)
    · rename_i hij
      rw [List.pairwise_cons]
      refine ⟨fun x hx => ?_, ins_sorted i r h.2⟩
      rcases List.mem_cons.mp ((ins_perm i r).mem_iff.mp hx) with e | hx
      · rw [e]; omega
      · exact h.1 x hx
theorem isort_sorted : ∀ l : List Int, (isort l).Pairwise (· ≤ ·)
  | [] => .nil
  | i :: r => ins_sorted i _ (isort_sorted r)
theorem sorted_one : ∀ {l m : List Int}, l.Perm m → l.Pairwise (· ≤ ·) → m.Pairwise (· ≤ ·) → l = m
  | [], m, h, _, _ => (List.nil_perm.mp h).symm
  | x :: r, [], h, _, _ => absurd h.symm (fun z => by have := List.nil_perm.mp z; cases this)
  | x :: r, y :: t, h, h1, h2 => by
    rw [List.pairwise_cons] at h1 h2
    have e : x = y := by
      have hx : x ∈ y :: t := h.mem_iff.mp List.mem_cons_self
      have hy : y ∈ x :: r := h.mem_iff.mpr List.mem_cons_self
      rcases List.mem_cons.mp hx with q | q
      · exact q
      · rcases List.mem_cons.mp hy with p | p
        · exact p.symm
        · exact Int.le_antisymm (h1.1 y p) (h2.1 x q)
    subst e
    rw [sorted_one ((List.perm_cons x).mp h) h1.2 h2.2]
section
variable {α β : Type}
def allO (g : β → Option α) : List β → Option (List α)
  | [] => some []
  | d :: r => match g d, allO g r with
    | some i, some l => some (i :: l)
    | _, _ => none
end
def asI : D → Option Int
  | .int i => some i
  | _ => none
def asB : D → Option Bool
  | .bl i => some i
  | _ => none
def asInts (ds : List D) : Option (List Int) := allO asI ds
def asBls (ds : List D) : Option (List Bool) := allO asB ds
theorem allO_ok {K : PySem.W.Frag} {F : Addr → Prop} {ρ : List Addr} {H : Hp} {α : Type} {g : D → Option α} {k : α → V} (hk : ∀ v d x, Rep K F ρ H v d → g d = some x → v = k x) : ∀ {ds : List D} {vs : List V} {ns : List α}, Reps K F ρ H vs ds → allO g ds = some ns → vs = ns.map k
  | [], _, _, h, e => by cases h; cases e; rfl
  | d :: ds, _, _, h, e => by
    cases h with
    | cons h1 h2 =>
      unfold allO at e
      split at e
      · rename_i i l hi hl
        cases e
        rw [hk _ _ _ h1 hi, allO_ok hk h2 hl]
        rfl
      · cases e
theorem asInts_ok {K : PySem.W.Frag} {F : Addr → Prop} {ρ : List Addr} {H : Hp} {ds : List D} {vs : List V} {ns : List Int} (h : Reps K F ρ H vs ds) (e : asInts ds = some ns) : vs = ns.map V.int :=
  allO_ok (fun v d x r q => by cases r <;> first | (cases q; rfl) | cases q) h e
theorem asBls_ok {K : PySem.W.Frag} {F : Addr → Prop} {ρ : List Addr} {H : Hp} {ds : List D} {vs : List V} {ns : List Bool} (h : Reps K F ρ H vs ds) (e : asBls ds = some ns) : vs = ns.map V.bl :=
  allO_ok (fun v d x r q => by cases r <;> first | (cases q; rfl) | cases q) h e
theorem reps_ints {K : PySem.W.Frag} {F : Addr → Prop} {ρ : List Addr} {H : Hp} : ∀ ns : List Int, Reps K F ρ H (ns.map V.int) (ns.map D.int)
  | [] => .nil
  | n :: ns => .cons (.int n) (reps_ints ns)
def keyI : Key × D → Option Int
  | (.inl i, _) => some i
  | _ => none
def keysI (ds : List (Key × D)) : Option (List Int) := allO keyI ds
theorem keysI_ok {K : PySem.W.Frag} {F : Addr → Prop} {ρ : List Addr} {H : Hp} : ∀ {ds : List (Key × D)} {vs : List (Key × V)} {ns : List Int}, RepK K F ρ H vs ds → keysI ds = some ns → vs.map (·.1) = ns.map Sum.inl
  | [], _, _, h, e => by cases h; cases e; rfl
  | (k, d) :: ds, _, _, h, e => by
    cases h with
    | cons h1 h2 =>
      unfold keysI allO at e
      split at e
      · rename_i i l hi hl
        cases e
        have := keysI_ok h2 hl
        rw [List.map_cons, this]
        cases k with
        | inl z => cases hi; rfl
        | inr z => cases hi
      · cases e
def gSorted (x : D) (e : Sl) (s : Sto) : ER := match vw x e s with
  | .lst ds => (match asInts ds with | some ns => if ns.length < 64 then .ok (.lst ((isort ns).map .int)) e s else .stuck | none => .stuck)
  | .dk kvs => (match keysI kvs with | some ns => if ns.length < 64 then .ok (.lst ((isort ns).map .int)) e s else .stuck | none => .stuck)
  | _ => .stuck
theorem dn_sorted {p : Pos} (hc : X.calm = true) (hg : Gl X "sorted") (hm : X.mg "sorted" = none) (ha : DE c X a fa) (he : starEach [a] X.env = (false, eval a X.env) :: starEach [] X.env := by rfl) (hpl : (backTo pos (starEach [] X.env)).any (·.1) = false := by rfl) :
    DN c X (.Call (.Name "sorted" p) [a] [] pos) (eUn gSorted fa) := by
  refine dn_b1 (CallR.or cr_sorted (call_sortedDI hc)) hg hm (by decide +kernel) (fun F ρ e st σ H x v Q r rx h => ?_) ha (by decide) (by decide) he hpl
  have hx := vw_ok r rx
  unfold gSorted at h
  generalize vw x e st = dx at *
  split at h
  · cases hx with | lst b1 b2 b3 =>
    subst b1
    split at h
    · rename_i ns hk
      split at h
      · rename_i hz
        refine .inl ⟨_, ns, rfl, .of (by rw [← asInts_ok b3 hk]; exact b2), hz, fun ns' p h1 h2 h3 => ?_⟩
        rw [sorted_one (h1.trans (isort_perm ns).symm) h2 (isort_sorted ns)]
        exact h.lst r (reps_ints _) h3
      · exact h.elim
    · exact h.elim
  · cases hx with | dk b1 b2 b3 =>
    subst b1
    split at h
    · rename_i ns hk
      split at h
      · rename_i hz
        refine .inr ⟨_, _, ns, rfl, b2, keysI_ok b3 hk, hz, fun ns' p h1 h2 h3 => ?_⟩
        rw [sorted_one (h1.trans (isort_perm ns).symm) h2 (isort_sorted ns)]
        exact h.lst r (reps_ints _) h3
      · exact h.elim
    · exact h.elim
  · exact h.elim
/-- all, any of a list of truth values -/
def gAll (x : D) (e : Sl) (s : Sto) : ER := match vw x e s with | .lst ds => (match asBls ds with | some bs => .ok (.bl (bs.all id)) e s | none => .stuck) | _ => .stuck
def gAny (x : D) (e : Sl) (s : Sto) : ER := match vw x e s with | .lst ds => (match asBls ds with | some bs => .ok (.bl (bs.any id)) e s | none => .stuck) | _ => .stuck
theorem de_all {p : Pos} (hc : X.calm = true) (hg : Gl X "all") (hm : X.mg "all" = none) (ha : DE c X a fa) (he : starEach [a] X.env = (false, eval a X.env) :: starEach [] X.env := by rfl) (hpl : (backTo pos (starEach [] X.env)).any (·.1) = false := by rfl) :
    DE c X (.Call (.Name "all" p) [a] [] pos) (eUn gAll fa) := by
  refine de_b1 (cr_all hc) hg hm (by decide +kernel) (fun F ρ e st σ H x v Q r rx h => ?_) ha (by decide) (by decide) he hpl
  have hx := vw_ok r rx
  unfold gAll at h
  generalize vw x e st = dx at *
  split at h
  · cases hx with | lst b1 b2 b3 =>
    subst b1
    split at h
    · rename_i bs hk
      exact ⟨_, bs, rfl, .of (by rw [← asBls_ok b3 hk]; exact b2), h.bl r⟩
    · exact h.elim
  · exact h.elim
theorem de_any {p : Pos} (hc : X.calm = true) (hg : Gl X "any") (hm : X.mg "any" = none) (ha : DE c X a fa) (he : starEach [a] X.env = (false, eval a X.env) :: starEach [] X.env := by rfl) (hpl : (backTo pos (starEach [] X.env)).any (·.1) = false := by rfl) :
    DE c X (.Call (.Name "any" p) [a] [] pos) (eUn gAny fa) := by
  refine de_b1 (cr_any hc) hg hm (by decide +kernel) (fun F ρ e st σ H x v Q r rx h => ?_) ha (by decide) (by decide) he hpl
  have hx := vw_ok r rx
  unfold gAny at h
  generalize vw x e st = dx at *
  split at h
  · cases hx with | lst b1 b2 b3 =>
    subst b1
    split at h
    · rename_i bs hk
      exact ⟨_, bs, rfl, .of (by rw [← asBls_ok b3 hk]; exact b2), h.bl r⟩
    · exact h.elim
  · exact h.elim
/-- isinstance(x, T), T a built-in class -/
def tyName : D → Option String
  | .non => some "NoneType"
  | .bl _ => some "bool"
  | .int _ => some "int"
  | .str _ => some "str"
  | .tup _ => some "tuple"
  | .lst _ => some "list"
  | .dk _ => some "dict"
  | _ => none
def isTy (T : String) (t : String) : Bool := t == T || (t == "bool" && T == "int")
def gIsi (T : String) (x : D) (e : Sl) (s : Sto) : ER := match tyName (vw x e s) with | some t => .ok (.bl (isTy T t)) e s | none => .stuck
theorem tyx_ok {K : PySem.W.Frag} {F : Addr → Prop} {ρ : List Addr} {H : Hp} {v : V} {d : D} {t : String} (h : Vw K F ρ H v d) (e : tyName d = some t) : TyX K H v (.type t) := by
  cases h with
  | non h => cases e; subst h; exact .base .non
  | bl h => cases e; subst h; exact .base (.bl _)
  | int h => cases e; subst h; exact .base (.int _)
  | str h => cases e; subst h; exact .base (.str _)
  | tup h h2 h3 =>
    cases e; subst h
    rcases h2 with ⟨_, h2⟩ | h2
    · exact .base (.tup h2)
    · rcases h2 (fun _ => none) with (z | ⟨_, z⟩) | ⟨o, its, n, q1, q2, _⟩
      · cases z
      · cases z
      · exact .kTuple q1 q2
  | lst h h2 h3 => cases e; subst h; exact .base (.lst h2)
  | dk h h2 h3 =>
    cases e; subst h
    rcases h2 with h2 | ⟨o, h2⟩
    · exact .base (.dK h2)
    · exact .fDict h2
  | _ => cases e
def tyNames : List String := ["NoneType", "bool", "int", "str", "tuple", "list", "dict"]
theorem tyName_mem {d : D} {t : String} (e : tyName d = some t) : t ∈ tyNames := by
  cases d <;> cases e <;> decide
theorem de_isi {T : Str} {TT : String} {p p2 : Pos} (hk : tyNames.all (fun t => kitB t TT == some (isTy TT t)) = true) (hg : Gl X "isinstance") (hm : X.mg "isinstance" = none) (hgT : Gl X T) (hmT : X.mg T = none) (hvT : bootBuiltins T = some (.type TT)) (ha : DE c X a fa)
    (hnT : T ≠ "__name__" := by decide) (hdT : (T == ("__debug__" : Str)) = false := by decide)
    (he2 : starEach [.Name T p2] X.env = (false, eval (.Name T p2) X.env) :: starEach [] X.env := by rfl) (he : starEach [a, .Name T p2] X.env = (false, eval a X.env) :: starEach [.Name T p2] X.env := by rfl) (hpl : (backTo pos (starEach [.Name T p2] X.env)).any (·.1) = false := by rfl) :
    DE c X (.Call (.Name "isinstance" p) [a, .Name T p2] [] pos) (eUn (gIsi TT) fa) := by
  refine de_imp (pe_callB call_isi hg hm (by decide +kernel) (pa_cons ha (pa_cons (pe_bltn (v := .ty TT) hgT hmT hvT rfl hnT hdT) pa_nil he2) he) (by decide) (by decide) he hpl) fun F ρ e st σ H Q r q => ⟨F, ρ, e, st, r, bindE q fun F1 ρ1 e1 st1 H1 v x le1 r1 rx h1 => ?_⟩
  unfold gIsi at h1
  split at h1
  · rename_i t ht
    refine ⟨v, .ty TT, .type t, .type TT, isTy TT t, rfl, .ty TT, tyx_ok (vw_ok r1 rx) ht, kit_ty ?_, h1.bl r1⟩
    exact beq_iff_eq.mp (List.all_eq_true.mp hk t (tyName_mem ht))
  · exact h1.elim
theorem kit_int : tyNames.all (fun t => kitB t "int" == some (isTy "int" t)) = true := by decide +kernel
theorem kit_bool : tyNames.all (fun t => kitB t "bool" == some (isTy "bool" t)) = true := by decide +kernel
theorem kit_str : tyNames.all (fun t => kitB t "str" == some (isTy "str" t)) = true := by decide +kernel
theorem kit_tuple : tyNames.all (fun t => kitB t "tuple" == some (isTy "tuple" t)) = true := by decide +kernel
theorem kit_list : tyNames.all (fun t => kitB t "list" == some (isTy "list" t)) = true := by decide +kernel
theorem kit_dict : tyNames.all (fun t => kitB t "dict" == some (isTy "dict" t)) = true := by decide +kernel
end
end DL
end
section
set_option Elab.async false
set_option linter.all false
set_option maxRecDepth 100000
set_option maxHeartbeats 4000000
set_option autoImplicit false
/-! DLG: calls of defs, iterators, comprehensions, statements. -/
namespace DL
open PySem PySem.Spec L2
open PyProof.Rows hiding St
section
/-- a def of the module by what it does -/
structure Callee (P : Program) (w : World) (K : PySem.W.Frag) (mg : Str → Option Value) (base : Heap) (x : Str) (n k : Nat) (fn : Fn) : Prop where
  ex : ∃ (f : Addr) (fd : FuncData) (ps : List Str), FnOk P w K mg base (CX P w) k f fd ps (spD K mg n fn) ∧ mg x = some (.ref f) ∧ PySem.W.keepIn K (.ref f) = true ∧ Binds K fd ps []
theorem Callee.mono {P : Program} {w : World} {K : PySem.W.Frag} {mg : Str → Option Value} {base : Heap} {x : Str} {n k k' : Nat} {fn : Fn} (C : Callee P w K mg base x n k fn) (h : k ≤ k') : Callee P w K mg base x n k' fn := by
  obtain ⟨f, fd, ps, h1, h2⟩ := C.ex
  exact ⟨f, fd, ps, h1.mono h, h2⟩
variable {X : Cx} {c : Dx} {a b ex : Expr} {es : List Expr} {fa fb : EF} {fs : AF} {pos : Pos} {f : EF}
def eCall (n : Nat) (fn : Fn) (fs : AF) : EF := fun e s => (fs e s).bind fun ds e s => if ds.length = n then (match fn ds s with | .ok (.val d) s' => .ok d e s' | .ok (.new d) s' => .ok d e s' | .exc k s' => .exc k e s' | .stuck => .stuck) else .stuck
/-- .. of a def that hands back a new object -/
def nCall (n : Nat) (fn : Fn) (fs : AF) : EF := fun e s => (fs e s).bind fun ds e s => if ds.length = n then (match fn ds s with | .ok (.val d) s' => .stuck | .ok (.new d) s' => .ok d e s' | .exc k s' => .exc k e s' | .stuck => .stuck) else .stuck
theorem LeE.ext {e e' : Sl} {σ : St} {F F' F2 : Addr → Prop} {ρ ρ' ρ2 : List Addr} {H H' H2 : Hp} (l : LeE e e' σ F ρ H F' ρ' H') (x : Ext F' ρ' H' F2 ρ2 H2) : LeE e e' σ F ρ H F2 ρ2 H2 := l.trans x.toLeE
theorem call_post {n : Nat} {fn : Fn} {F : Addr → Prop} {ρ : List Addr} {H : Hp} {e : Sl} {st : Sto} {σ : St} {Q : VK} {vs : List V} {ds : List D} (r : R X.K X.mg c F ρ e st σ H) (rs : Reps X.K F ρ H vs ds)
    (h : EPost X.K X.mg c e σ F ρ H Q (if ds.length = n then (match fn ds st with | .ok (.val d) s' => .ok d e s' | .ok (.new d) s' => .ok d e s' | .exc k s' => .exc k e s' | .stuck => .stuck) else .stuck)) :
    spD X.K X.mg n fn vs H Q (WE c.W σ) := by
  split at h
  · rename_i hn
    refine ⟨F, ρ, st, ds, by rw [rs.length]; exact hn, r.w, rs, ?_⟩
    cases hf : fn ds st with
    | ok rv st' =>
      rw [hf] at h
      intro F' ρ' H' v x w rr
      cases rv with
      | val d => exact h F' ρ' H' v x.toLeE (r.ext x w) (.inr rr)
      | new d =>
        obtain ⟨p, rfl, cr, n1, n2, n3⟩ := rr
        have c0 : c.H p = none := by
          cases q : c.H p with
          | none => rfl
          | some o => exact absurd n3 (r.x.there p (some_ne q))
        obtain ⟨r2, rep⟩ := (r.ext x w).know cr n1 n2 (fun z => r.ownH z n3) c0
        exact h _ _ _ _ (x.toLeE.know n3) r2 (.inr rep)
    | exc k st' =>
      rw [hf] at h
      intro F' ρ' H' C x w hk
      exact h F' ρ' H' C (r.ext x w) hk
    | stuck => rw [hf] at h; exact h
  · exact h.elim
theorem call_postN {n : Nat} {fn : Fn} {F : Addr → Prop} {ρ : List Addr} {H : Hp} {e : Sl} {st : Sto} {σ : St} {Q : VK} {vs : List V} {ds : List D} (r : R X.K X.mg c F ρ e st σ H) (rs : Reps X.K F ρ H vs ds)
    (h : NPost X.K X.mg c e σ F ρ H Q (if ds.length = n then (match fn ds st with | .ok (.val d) s' => .stuck | .ok (.new d) s' => .ok d e s' | .exc k s' => .exc k e s' | .stuck => .stuck) else .stuck)) :
    spD X.K X.mg n fn vs H Q (WE c.W σ) := by
  split at h
  · rename_i hn
    refine ⟨F, ρ, st, ds, by rw [rs.length]; exact hn, r.w, rs, ?_⟩
    cases hf : fn ds st with
    | ok rv st' =>
      rw [hf] at h
      intro F' ρ' H' v x w rr
      cases rv with
      | val d => exact h.elim
      | new d =>
        obtain ⟨p, rfl, cr, n1, n2, n3⟩ := rr
        exact h _ _ _ _ x.toLeE (r.ext x w) cr n1 n2 (fun z => r.ownH z n3) n3
    | exc k st' =>
      rw [hf] at h
      intro F' ρ' H' C x w hk
      exact h F' ρ' H' C (r.ext x w) hk
    | stuck => rw [hf] at h; exact h
  · exact h.elim
theorem de_call {n k : Nat} {fn : Fn} {x : Str} {p : Pos} (C : Callee X.prog X.w X.K X.mg X.base x n k fn) (hr : Room k X.A) (tk : Takes X c.W) (hg : Gl X x) (ha : DA c X (a :: es) fs) (hdb : (x == ("__debug__" : Str)) = false := by decide)
    (he : starEach (a :: es) X.env = (false, eval a X.env) :: starEach es X.env := by rfl) (hpl : (backTo pos (starEach es X.env)).any (·.1) = false := by rfl) : DE c X (.Call (.Name x p) (a :: es) [] pos) (eCall n fn fs) := by
  obtain ⟨fa, fd, ps, h1, h2, h3, h4⟩ := C.ex
  refine de_imp (pe_callSD (E := WE c.W) h1 hr hg h2 h3 h4 .nil (fun σ => L2.passAt tk σ) ha hdb he hpl) fun F ρ e st σ H Q r q => ⟨F, ρ, e, st, r, bindA q fun F1 ρ1 e1 st1 H1 vs ds le1 r1 rs h => ?_⟩
  rw [List.append_nil]
  exact call_post r1 rs h
theorem dn_call {n k : Nat} {fn : Fn} {x : Str} {p : Pos} (C : Callee X.prog X.w X.K X.mg X.base x n k fn) (hr : Room k X.A) (tk : Takes X c.W) (hg : Gl X x) (ha : DA c X (a :: es) fs) (hdb : (x == ("__debug__" : Str)) = false := by decide)
    (he : starEach (a :: es) X.env = (false, eval a X.env) :: starEach es X.env := by rfl) (hpl : (backTo pos (starEach es X.env)).any (·.1) = false := by rfl) : DN c X (.Call (.Name x p) (a :: es) [] pos) (nCall n fn fs) := by
  obtain ⟨fa, fd, ps, h1, h2, h3, h4⟩ := C.ex
  refine ⟨fun pins s σ H Q I ⟨F, ρ, e, st, r, q⟩ => (pe_callSD (E := WE c.W) h1 hr hg h2 h3 h4 .nil (fun σ => L2.passAt tk σ) ha hdb he hpl).run pins s σ H Q I ⟨F, ρ, e, st, r, bindNA q fun F1 ρ1 e1 st1 H1 vs ds le1 r1 rs h => ?_⟩⟩
  rw [List.append_nil]
  exact call_postN r1 rs h

/-! ### targets -/
abbrev BF := D → Sl → Option Sl
/-- what a target does: contexts of one K -/
structure DG (X : Cx) (tg : Expr) (bind : BF) : Prop where
  ex : ∃ g, PG X tg g ∧ ∀ (c : Dx) (F : Addr → Prop) (ρ : List Addr) (e e' : Sl) (st : Sto) (σ : St) (H : Hp) (v : V) (d : D) (k : St → Hp → Prop), R X.K X.mg c F ρ e st σ H → Rep X.K F ρ H v d → bind d e = some e' → (∀ σ', R X.K X.mg c F ρ e' st σ' H → k σ' H) → g v σ H k
def bName (i : Nat) : BF := fun d e => some (e.set i (some (.val d)))
/-- the reading of a target, whatever the context -/
structure TGok (K : PySem.W.Frag) (mg : Str → Option Value) (g : TG) (vs : List Nat) (bind : BF) : Prop where
  ow : ∀ (d : D) (e e' : Sl), bind d e = some e' → e'.length = e.length ∧ ∀ (i : Nat) d0, e'[i]? = some (some (.own d0)) → e[i]? = some (some (.own d0))
  run : ∀ (c : Dx) (F : Addr → Prop) (ρ : List Addr) (e e' : Sl) (st : Sto) (σ : St) (H : Hp) (v : V) (d : D) (k : St → Hp → Prop), R K mg c F ρ e st σ H → Rep K F ρ H v d → bind d e = some e' →
    (∀ σ', R K mg c F ρ e' st σ' H → σ'.length = σ.length → (∀ i, i ∉ vs → σ'[i]? = σ[i]?) → k σ' H) → g v σ H k
theorem tg_name {K : PySem.W.Frag} {mg : Str → Option Value} (i : Nat) : TGok K mg (gName i) [i] (bName i) := by
  refine ⟨fun d e e' h => ?_, fun c F ρ e e' st σ H v d k r x hb q => ?_⟩
  · cases h
    refine ⟨List.length_set .., fun j d0 h => ?_⟩
    by_cases hj : i = j
    · subst hj
      have hl := (List.getElem?_eq_some_iff.mp h).1
      rw [List.length_set] at hl
      rw [List.getElem?_set_self hl] at h
      cases h
    · rwa [List.getElem?_set_ne hj] at h
  cases hb
  refine q _ (r.setVal x) (by rw [List.length_set]) fun j hj => ?_
  rw [List.getElem?_set_ne (fun z => hj (by simp [z]))]
/-- a, b, .. = a tuple -/
structure TGsok (K : PySem.W.Frag) (mg : Str → Option Value) (g : TGs) (vs : List Nat) (bind : List D → Sl → Option Sl) : Prop where
  ow : ∀ (d : List D) (e e' : Sl), bind d e = some e' → e'.length = e.length ∧ ∀ (i : Nat) d0, e'[i]? = some (some (.own d0)) → e[i]? = some (some (.own d0))
  run : ∀ (c : Dx) (F : Addr → Prop) (ρ : List Addr) (e e' : Sl) (st : Sto) (σ : St) (H : Hp) (us : List V) (ds : List D) (k : St → Hp → Prop), R K mg c F ρ e st σ H → Reps K F ρ H us ds → bind ds e = some e' →
    (∀ σ', R K mg c F ρ e' st σ' H → σ'.length = σ.length → (∀ i, i ∉ vs → σ'[i]? = σ[i]?) → k σ' H) → g us σ H k
def bNil : List D → Sl → Option Sl := fun ds e => match ds with | [] => some e | _ => none
def bCons (b : BF) (bs : List D → Sl → Option Sl) : List D → Sl → Option Sl := fun ds e => match ds with | d :: ds => (match b d e with | some e1 => bs ds e1 | none => none) | [] => none
def bTup (n : Nat) (bs : List D → Sl → Option Sl) : BF := fun d e => match d with | .tup ds => if ds.length = n then bs ds e else none | _ => none
theorem tgs_nil {K : PySem.W.Frag} {mg : Str → Option Value} : TGsok K mg gNil [] bNil := by
  refine ⟨fun d e e' h => (by cases d with
    | nil => cases h; exact ⟨rfl, fun _ _ h => h⟩
    | cons d ds => cases h), fun c F ρ e e' st σ H us ds k r x hb q => ?_⟩
  cases ds with
  | nil => cases x; cases hb; exact ⟨rfl, q σ r rfl fun _ _ => rfl⟩
  | cons d ds => cases hb
theorem tgs_cons {K : PySem.W.Frag} {mg : Str → Option Value} {g : TG} {gs : TGs} {vs ws : List Nat} {b : BF} {bs : List D → Sl → Option Sl} (h1 : TGok K mg g vs b) (h2 : TGsok K mg gs ws bs) : TGsok K mg (gCons g gs) (vs ++ ws) (bCons b bs) := by
  refine ⟨fun d e e' h => ?_, fun c F ρ e e' st σ H us ds k r x hb q => ?_⟩
  · cases d with
    | nil => cases h
    | cons d ds =>
      unfold bCons at h
      simp only at h
      split at h
      · rename_i e1 he1
        obtain ⟨l1, k1⟩ := h1.ow d e e1 he1
        obtain ⟨l2, k2⟩ := h2.ow ds e1 e' h
        exact ⟨l2.trans l1, fun i d0 z => k1 i d0 (k2 i d0 z)⟩
      · cases h
  cases ds with
  | nil => cases hb
  | cons d ds =>
    cases x with
    | @cons v us _ _ x1 x2 =>
      unfold bCons at hb
      simp only at hb
      split at hb
      · rename_i e1 he1
        refine ⟨v, us, rfl, h1.run c F ρ e e1 st σ H v d _ r x1 he1 fun σ1 r1 l1 k1 => ?_⟩
        refine h2.run c F ρ e1 e' st σ1 H us ds _ r1 x2 hb fun σ2 r2 l2 k2 => q σ2 r2 (l2.trans l1) fun i hi => ?_
        rw [List.mem_append, not_or] at hi
        rw [k2 i hi.2, k1 i hi.1]
      · cases hb
theorem tg_tup {K : PySem.W.Frag} {mg : Str → Option Value} {gs : TGs} {vs : List Nat} {n : Nat} {bs : List D → Sl → Option Sl} (h : TGsok K mg gs vs bs) : TGok K mg (gTup K n gs) vs (bTup n bs) := by
  refine ⟨fun d e e' hb => (by
    unfold bTup at hb
    split at hb
    · split at hb
      · exact h.ow _ e e' hb
      · cases hb
    · cases hb), fun c F ρ e e' st σ H v d k r x hb q => ?_⟩
  unfold bTup at hb
  split at hb
  · cases x with
    | @tup a us ds t1 t2 =>
      split at hb
      · rename_i hn
        exact ⟨a, us, rfl, t1.sq, by rw [t2.length]; exact hn, h.run c F ρ e e' st σ H us _ k r t2 hb q⟩
      · cases hb
  · cases hb

/-! ### iterators -/
inductive IR where
  | ok (ds : List D) (e : Sl) (s : Sto) | exc (k : Str) (e : Sl) (s : Sto) | stuck
/-- J gives the items ds, and goes on doing so -/
structure Wlk (K : PySem.W.Frag) (F : Addr → Prop) (ρ : List Addr) (H : Hp) (J : It) (ds : List D) : Prop where
  go : ∀ F' ρ' H' i, Le F ρ H F' ρ' H' → i < ds.length → J.go i H'
  stop : ∀ F' ρ' H' i, Le F ρ H F' ρ' H' → ds.length ≤ i → J.stop i H'
  yld : ∀ F' ρ' H' i x H2, Le F ρ H F' ρ' H' → i < ds.length → J.yld i H' x H2 → H2 = H' ∧ ∃ d, ds[i]? = some d ∧ Rep K F' ρ' H' x d
def IPost (K : PySem.W.Frag) (mg : Str → Option Value) (c : Dx) (e : Sl) (σ : St) (F : Addr → Prop) (ρ : List Addr) (H : Hp) (Q : It → Hp → Prop) : IR → Prop
  | .ok ds e' st' => ∀ F' ρ' H' J, LeE e e' σ F ρ H F' ρ' H' → R K mg c F' ρ' e' st' σ H' → Wlk K F' ρ' H' J ds → Q J H'
  | .exc k e' st' => ∀ F' ρ' H' C, R K mg c F' ρ' e' st' σ H' → mg k = some (.ref C) → c.W (.ref C) none σ H'
  | .stuck => False
abbrev IF := Sl → Sto → IR
def tID (K : PySem.W.Frag) (mg : Str → Option Value) (c : Dx) (f : IF) : TI := fun σ H Q => ∃ F ρ e st, R K mg c F ρ e st σ H ∧ IPost K mg c e σ F ρ H Q (f e st)
abbrev DI (c : Dx) (X : Cx) (tg iter : Expr) (f : IF) : Prop := PI X tg iter (tID X.K X.mg c f)
/-- over a list or a tuple -/
def iSeq (f : EF) : IF := fun e s => match eFz f e s with
  | .ok d e1 s1 => (match asSeq d with | some ds => .ok ds e1 s1 | none => .stuck)
  | .exc k e1 s1 => .exc k e1 s1
  | .stuck => .stuck
theorem di_seq {tg : Expr} (ha : DE c X a fa) : DI c X tg a (iSeq fa) := by
  refine ⟨fun pins s σ H Q I ⟨F, ρ, e, st, r, q⟩ => ?_⟩
  have hz := de_fz ha
  unfold iSeq at q
  cases hr : eFz fa e st with
  | stuck => rw [hr] at q; exact q.elim
  | exc k e1 s1 =>
    rw [hr] at q
    exact (pi_list hz).run pins s σ H Q I ⟨F, ρ, e, st, r, by rw [hr]; exact q⟩
  | ok d e1 s1 =>
    rw [hr] at q
    simp only at q
    split at q
    · rename_i ds hds
      cases d with
      | tup xs =>
        cases hds
        refine (pi_tup hz).run pins s σ H Q I ⟨F, ρ, e, st, r, ?_⟩
        rw [hr]
        intro F' ρ' H' v l r' x
        rcases x with ⟨_, _, z, _⟩ | x
        · cases z
        cases x with
        | @tup p vs _ t1 t2 =>
          refine ⟨p, rfl, ⟨vs, t1.sq⟩, q F' ρ' H' _ l r' ⟨fun F2 ρ2 H2 i le hi => ?_, fun F2 ρ2 H2 i le hi => ?_, fun F2 ρ2 H2 i x H3 le hi hy => ?_⟩⟩
          · have hi' : i < vs.length := by rw [t2.length]; exact hi
            exact ⟨vs, vs[i], (t1.mono le).sq, List.getElem?_eq_getElem hi'⟩
          · exact ⟨vs, (t1.mono le).sq, by rw [t2.length]; exact hi⟩
          · obtain ⟨h1, h2⟩ := hy
            obtain ⟨d, hd, rep⟩ := Reps.get' (t2.mono le) (h2 vs (t1.mono le).sq)
            exact ⟨h1, d, hd, rep⟩
      | lst xs =>
        cases hds
        refine (pi_list hz).run pins s σ H Q I ⟨F, ρ, e, st, r, ?_⟩
        rw [hr]
        intro F' ρ' H' v l r' x
        rcases x with ⟨_, _, z, _⟩ | x
        · cases z
        cases x with
        | @lst p vs _ t0 t1 t2 =>
          refine ⟨p, rfl, ⟨vs, .of t1⟩, q F' ρ' H' _ l r' ⟨fun F2 ρ2 H2 i le hi => ?_, fun F2 ρ2 H2 i le hi => ?_, fun F2 ρ2 H2 i x H3 le hi hy => ?_⟩⟩
          · have hi' : i < vs.length := by rw [t2.length]; exact hi
            exact ⟨vs, vs[i], .of (le.ls _ _ t0 t1), List.getElem?_eq_getElem hi'⟩
          · exact ⟨vs, .of (le.ls _ _ t0 t1), by rw [t2.length]; exact hi⟩
          · obtain ⟨h1, h2⟩ := hy
            obtain ⟨d, hd, rep⟩ := Reps.get' (t2.mono le) (h2 vs (.of (le.ls _ _ t0 t1)))
            exact ⟨h1, d, hd, rep⟩
      | scr xs =>
        cases hds
        refine (pi_list hz).run pins s σ H Q I ⟨F, ρ, e, st, r, ?_⟩
        rw [hr]
        intro F' ρ' H' v l r' x
        rcases x with ⟨_, _, z, _⟩ | x
        · cases z
        cases x with
        | @scr p vs _ t1 t2 =>
          refine ⟨p, rfl, ⟨vs, t1.sq⟩, q F' ρ' H' _ l r' ⟨fun F2 ρ2 H2 i le hi => ?_, fun F2 ρ2 H2 i le hi => ?_, fun F2 ρ2 H2 i x H3 le hi hy => ?_⟩⟩
          · have hi' : i < vs.length := by rw [t2.length]; exact hi
            exact ⟨vs, vs[i], (t1.mono le).sq, List.getElem?_eq_getElem hi'⟩
          · exact ⟨vs, (t1.mono le).sq, by rw [t2.length]; exact hi⟩
          · obtain ⟨h1, h2⟩ := hy
            obtain ⟨d, hd, rep⟩ := Reps.get' (t2.mono le) (h2 vs ((t1.mono le).sq))
            exact ⟨h1, d, hd, rep⟩
      | _ => cases hds
    · exact q.elim
/-- over range(n), range(a, b) -/
def rngD (lo : Int) (n : Nat) : List D := (List.range n).map fun i => .int (lo + (i : Nat))
theorem rngD_at {lo : Int} {n i : Nat} (h : i < n) : (rngD lo n)[i]? = some (.int (lo + (i : Nat))) := by
  unfold rngD
  rw [List.getElem?_map, List.getElem?_range h]
  rfl
theorem wlk_rng {K : PySem.W.Frag} {F : Addr → Prop} {ρ : List Addr} {H : Hp} {lo : Int} {n : Nat} : Wlk K F ρ H (Itr lo n) (rngD lo n) := by
  have hl : (rngD lo n).length = n := by simp [rngD]
  refine ⟨fun F' ρ' H' i _ hi => by rw [hl] at hi; exact hi, fun F' ρ' H' i _ hi => by rw [hl] at hi; exact hi, fun F' ρ' H' i x H2 _ hi hy => ?_⟩
  rw [hl] at hi
  obtain ⟨h1, h2⟩ := hy
  subst h2
  exact ⟨h1, _, rngD_at hi, .int _⟩
noncomputable def iRange1 (f : EF) : IF := fun e s => match f e s with
  | .ok (.int j) e1 s1 => @ite _ (-(2 ^ 62) ≤ j ∧ j < 2 ^ 62) (Classical.propDecidable _) (.ok (rngD 0 j.toNat) e1 s1) .stuck
  | .exc k e1 s1 => .exc k e1 s1
  | _ => .stuck
theorem di_range1 {tg : Expr} {p : Pos} (hg : Gl X "range") (hm : X.mg "range" = none) (ha : DE c X a fa) (hs : starEach [a] X.env = (false, eval a X.env) :: starEach [] X.env := by rfl) (hs' : starEach [a] X.env = [(false, eval a X.env)] := by rfl) : DI c X tg (.Call (.Name "range" p) [a] [] pos) (iRange1 fa) := by
  refine ⟨fun pins s σ H Q I ⟨F, ρ, e, st, r, q⟩ => (pi_range1 hg hm (pa_cons ha pa_nil hs) hs').run pins s σ H Q I ⟨F, ρ, e, st, r, ?_⟩⟩
  unfold iRange1 at q
  cases hr : fa e st with
  | stuck => rw [hr] at q; exact q.elim
  | exc k e1 s1 => rw [hr] at q; exact q
  | ok d e1 s1 =>
    rw [hr] at q
    split at q
    · rename_i heq
      cases heq
      split at q
      · rename_i hj
        intro F' ρ' H' v l r' x
        cases repI x
        exact ⟨_, rfl, hj.1, hj.2, q F' ρ' H' _ l r' wlk_rng⟩
      · exact q.elim
    · rename_i heq; cases heq
    · exact q.elim
noncomputable def iRange2 (fa fb : EF) : IF := fun e s => match fa e s with
  | .ok (.int i) e1 s1 => (match fb e1 s1 with
    | .ok (.int j) e2 s2 => @ite _ (-(2 ^ 62) ≤ i ∧ i < 2 ^ 62 ∧ -(2 ^ 62) ≤ j ∧ j < 2 ^ 62) (Classical.propDecidable _) (.ok (rngD i (j - i).toNat) e2 s2) .stuck
    | .exc k e2 s2 => .exc k e2 s2
    | _ => .stuck)
  | .exc k e1 s1 => .exc k e1 s1
  | _ => .stuck
theorem di_range2 {tg : Expr} {p : Pos} (hg : Gl X "range") (hm : X.mg "range" = none) (ha : DE c X a fa) (hb : DE c X b fb) (hs0 : starEach [a, b] X.env = (false, eval a X.env) :: starEach [b] X.env := by rfl) (hs1 : starEach [b] X.env = (false, eval b X.env) :: starEach [] X.env := by rfl)
    (hs : starEach [a, b] X.env = [(false, eval a X.env), (false, eval b X.env)] := by rfl) (hs2 : starEach [b] X.env = [(false, eval b X.env)] := by rfl) : DI c X tg (.Call (.Name "range" p) [a, b] [] pos) (iRange2 fa fb) := by
  refine ⟨fun pins s σ H Q I ⟨F, ρ, e, st, r, q⟩ => (pi_range2 hg hm (pa_cons ha (pa_cons hb pa_nil hs1) hs0) hs hs2).run pins s σ H Q I ⟨F, ρ, e, st, r, ?_⟩⟩
  unfold iRange2 at q
  cases hr : fa e st with
  | stuck => rw [hr] at q; exact q.elim
  | exc k e1 s1 => rw [hr] at q; exact q
  | ok d e1 s1 =>
    rw [hr] at q
    split at q
    · rename_i heq
      cases heq
      intro F1 ρ1 H1 v l1 r1 x
      cases repI x
      refine ⟨F1, ρ1, e1, s1, r1, ?_⟩
      cases hr2 : fb e1 s1 with
      | stuck => rw [hr2] at q; exact q.elim
      | exc k e2 s2 => rw [hr2] at q; exact q
      | ok d2 e2 s2 =>
        rw [hr2] at q
        split at q
        · rename_i heq
          cases heq
          split at q
          · rename_i hj
            intro F2 ρ2 H2 v l2 r2 x
            cases repI x
            exact ⟨_, _, rfl, hj, q F2 ρ2 H2 _ (l1.trans l2) r2 wlk_rng⟩
          · exact q.elim
        · rename_i heq; cases heq
        · exact q.elim
    · rename_i heq; cases heq
    · exact q.elim
end
end DL
end
section
set_option Elab.async false
set_option linter.all false
set_option maxRecDepth 100000
set_option maxHeartbeats 4000000
set_option autoImplicit false
/-! DLH: comprehensions, statements, loops, bodies of defs. -/
namespace DL
open PySem PySem.Spec L2
open PyProof.Rows hiding St
section
variable {K : PySem.W.Frag} {mg : Str → Option Value} {c : Dx} {F F' F1 F2 : Addr → Prop} {ρ ρ' ρ1 ρ2 : List Addr} {H H' H1 H2 : Hp} {e e' e1 e2 : Sl} {σ σ' σ1 : St} {st st' st1 st2 : Sto} {Q Q' : VK}
def wipeE (e : Sl) : List Nat → Sl
  | [] => e
  | v :: vs => (wipeE e vs).set v none
theorem wipeE_length (e : Sl) : ∀ vs : List Nat, (wipeE e vs).length = e.length
  | [] => rfl
  | v :: vs => by unfold wipeE; rw [List.length_set, wipeE_length e vs]
theorem wipeE_some {i : Nat} {s : SV} : ∀ {vs : List Nat}, (wipeE e vs)[i]? = some (some s) → e[i]? = some (some s) ∧ i ∉ vs
  | [], h => ⟨h, by simp⟩
  | v :: vs, h => by
    unfold wipeE at h
    by_cases hi : v = i
    · subst hi
      by_cases hv : v < (wipeE e vs).length
      · rw [List.getElem?_set_self hv] at h; cases h
      · rw [List.getElem?_eq_none (by simpa using hv)] at h; cases h
    · rw [List.getElem?_set_ne hi] at h
      obtain ⟨h1, h2⟩ := wipeE_some h
      exact ⟨h1, by simp only [List.mem_cons, not_or]; exact ⟨fun q => hi q.symm, h2⟩⟩
theorem wipe_at {i : Nat} : ∀ {vs : List Nat}, i ∉ vs → (wipe σ vs)[i]? = σ[i]?
  | [], _ => rfl
  | v :: vs, h => by
    simp only [List.mem_cons, not_or] at h
    unfold wipe
    rw [List.getElem?_set_ne (fun q => h.1 q.symm), wipe_at h.2]
/-- other slots forgotten, other frames -/
theorem R.re (r : R K mg c F ρ e st σ H) (hl : e'.length = σ'.length) (h : ∀ (i : Nat) s, e'[i]? = some (some s) → e[i]? = some (some s) ∧ σ'[i]? = σ[i]?) : R K mg c F ρ e' st σ' H := by
  refine ⟨r.w, r.x, hl, fun i s hs => ?_, fun i j d d' a hij h1 h2 h3 h4 => ?_⟩
  · obtain ⟨h1, h2⟩ := h i s hs
    rw [h2]
    exact r.slot i s h1
  · obtain ⟨k1, k2⟩ := h i _ h1
    obtain ⟨k3, k4⟩ := h j _ h2
    rw [k2] at h3
    rw [k4] at h4
    exact r.dist i j d d' a hij k1 k3 h3 h4
theorem R.wish (r : R K mg c F ρ e st σ H) (W : WX) : R K mg { c with W := W } F ρ e st σ H := ⟨r.w, r.x, r.len, r.slot, r.dist⟩
theorem R.unwish {W : WX} (r : R K mg { c with W := W } F ρ e st σ H) : R K mg c F ρ e st σ H := ⟨r.w, r.x, r.len, r.slot, r.dist⟩
theorem R.upf (r : R K mg c F ρ e st σ H) {p : Addr} (nF : ¬ F p) (nR : p ∉ ρ) (nO : ¬ OwnAt e σ p) (c0 : c.H p = none) (o : HO) : R K mg c F ρ e st σ (upd H p o) := by
  have le : Le F ρ H F ρ (upd H p o) := le_upd nF
  refine ⟨⟨r.w.len, r.w.nd, r.w.nF, fun b z => there_upd (r.w.tr b z), fun j b s h1 h2 => (r.w.so j b s h1 h2).mono le fun u hu => ?_⟩, ⟨⟨r.x.sub, fun b u z q => ?_, fun b u z q => ?_, fun b u z q => ?_, r.x.pre⟩, fun b u h n m => ?_, r.x.newF, r.x.newR, fun b z => there_upd (r.x.there b z)⟩, r.len, fun j s h => ?_, r.dist⟩
  · rw [upd_ne (fun q => by subst q; exact nR (List.mem_of_getElem? h1))]
    exact hu
  · exact le.rd b u (r.x.sub b z) (r.x.rd b u z q)
  · exact le.ls b u (r.x.sub b z) (r.x.ls b u z q)
  · exact le.tp b u (r.x.sub b z) (r.x.tp b u z q)
  · have nb : b ≠ p := fun q => by subst q; rw [c0] at h; cases h
    rw [upd_ne nb]
    exact r.x.keep b u h n m
  · obtain ⟨v, e1, q⟩ := r.slot j s h
    refine ⟨v, e1, q.mono le fun b o' hs' hv' => ?_⟩
    subst hs'
    obtain ⟨b', e2, q2, q3, q4, q5⟩ := q
    rw [e2] at hv'
    cases hv'
    have nb : b ≠ p := fun z => by
      subst z
      exact nO ⟨j, o', h, e1.trans (by rw [e2])⟩
    exact ⟨fun u hu => by rw [upd_ne nb]; exact hu, q3, q4⟩
theorem LeE.upf (l : LeE e e' σ F ρ H F' ρ' H') {p : Addr} (hp : H p = none) (nF : ¬ F' p) (o : HO) : LeE e e' σ F ρ H F' ρ' (upd H' p o) := by
  refine ⟨l.toLe.trans (le_upd nF), l.ow, fun b u h n m no => ?_, l.newF, l.newR, fun b z => there_upd (l.there b z)⟩
  have nb : b ≠ p := fun q => by subst q; rw [hp] at h; cases h
  rw [upd_ne nb]
  exact l.keep b u h n m no

/-! ### comprehensions -/
def eYes : EF := fun e s => .ok (.bl true) e s
def compL (vs : List Nat) (bind : BF) (ft fe : EF) : List D → List D → Sl → Sto → ER
  | [], acc, e, s => .ok (.lst acc) e s
  | x :: xs, acc, e, s => match bind x e with
    | none => .stuck
    | some e1 => match ft e1 s with
      | .ok (.bl true) e2 s2 => (match eFz fe e2 s2 with
        | .ok d e3 s3 => if acc.length < lim then compL vs bind ft fe xs (acc ++ [d]) (wipeE e3 vs) s3 else .stuck
        | _ => .stuck)
      | .ok (.bl false) e2 s2 => compL vs bind ft fe xs acc (wipeE e2 vs) s2
      | _ => .stuck
def eComp (vs : List Nat) (fi : IF) (bind : BF) (ft fe : EF) : EF := fun e s => match fi e s with
  | .ok ds e1 s1 => compL vs bind ft fe ds [] (wipeE e1 vs) s1
  | .exc k e s => .exc k e s
  | .stuck => .stuck
abbrev noW : WX := fun _ _ _ _ => False
structure CompAt (K : PySem.W.Frag) (mg : Str → Option Value) (c : Dx) (vs : List Nat) (bind : BF) (ft fe : EF) (ds : List D) (eB : Sl) (σB : St) (F1 : Addr → Prop) (ρ1 : List Addr) (H1 : Hp) (p : Addr) (Q : VK) (i : Nat) (H : Hp) : Prop where
  ex : ∃ F ρ e st acc us, R K mg c F ρ e st σB H ∧ LeE eB e σB F1 ρ1 H1 F ρ H ∧ (∀ (j : Nat) s, e[j]? = some (some s) → j ∉ vs) ∧ H p = some (.lst us) ∧ Reps K F ρ H us acc ∧ ¬ F p ∧ p ∉ ρ ∧
    NPost K mg c eB σB F1 ρ1 H1 Q (compL vs bind ft fe (ds.drop i) acc e st)
theorem comp_turn {g : TG} {vs : List Nat} {bind : BF} {ft fe : EF} {tt : TT} {te : TE} {ds : List D} {eB : Sl} {σB : St} {p : Addr} {i : Nat} {x : V} {d : D}
    (hg : TGok K mg g vs bind) (htt : ∀ σ H Q, tTD K mg { c with W := noW } ft σ H Q → tt σ H Q) (hte : ∀ σ H Q, tED K mg { c with W := noW } fe σ H Q → te σ H Q)
    (hσ : wipe σB vs = σB) (h0 : c.H p = none) (h1 : H1 p = none) (nO : ¬ OwnAt eB σB p) (hd : ds[i]? = some d) (hx : ∀ F ρ, Le F1 ρ1 H1 F ρ H → Rep K F ρ H x d) (hC : CompAt K mg c vs bind ft fe ds eB σB F1 ρ1 H1 p Q i H) :
    g x σB H fun σ2 H2 => wipe σ2 vs = σB ∧ tt σ2 H2 fun b H3 =>
      if b = true then te σ2 H3 fun y H4 => ∃ acc, H4 p = some (.lst acc) ∧ acc.length < sizeLine ∧ CompAt K mg c vs bind ft fe ds eB σB F1 ρ1 H1 p Q (i + 1) (upd H4 p (.lst (acc ++ [y]))) else CompAt K mg c vs bind ft fe ds eB σB F1 ρ1 H1 p Q (i + 1) H3 := by
  obtain ⟨F, ρ, e, st, acc, us, r, l, hw, hp, ra, nF, nR, q⟩ := hC.ex
  have hdrop : ds.drop i = d :: ds.drop (i + 1) := by
    have hi : i < ds.length := (List.getElem?_eq_some_iff.mp hd).1
    rw [List.drop_eq_getElem_cons hi]
    congr 1
    rw [List.getElem?_eq_getElem hi] at hd
    exact Option.some.inj hd
  rw [hdrop] at q
  unfold compL at q
  split at q
  · exact q.elim
  rename_i e1 hb
  obtain ⟨el, eo⟩ := hg.ow d e e1 hb
  have nOe : ¬ OwnAt e σB p := fun ⟨j, d0, z1, z2⟩ => nO ⟨j, d0, l.ow j d0 z1, z2⟩
  refine hg.run c F ρ e e1 st σB H x d _ r (hx F ρ l.toLe) hb fun σ2 r2 hl2 k2 => ?_
  have hw2 : wipe σ2 vs = σB := by
    apply List.ext_getElem?
    intro j
    by_cases hj : j ∈ vs
    · rw [← hσ]
      have aux : ∀ (τ : St) (ws : List Nat), j ∈ ws → (wipe τ ws)[j]? = if j < τ.length then some none else none := by
        intro τ ws
        induction ws with
        | nil => intro h; cases h
        | cons w ws ih =>
          intro h
          unfold wipe
          by_cases hwj : w = j
          · subst hwj
            by_cases hlt : w < τ.length
            · rw [if_pos hlt, List.getElem?_set_self (by rw [wipe_length]; exact hlt)]
            · rw [if_neg hlt]
              exact List.getElem?_eq_none (by rw [List.length_set, wipe_length]; omega)
          · rw [List.getElem?_set_ne hwj]
            exact ih ((List.mem_cons.mp h).resolve_left fun z => hwj z.symm)
      rw [aux σ2 vs hj, aux σB vs hj, hl2]
    · rw [wipe_at hj, k2 j hj]
  -- owned slots of the block's env
  have own1 : ∀ a, OwnAt e1 σ2 a → OwnAt eB σB a := fun a ⟨j, d0, z1, z2⟩ => by
    have z3 := eo j d0 z1
    exact ⟨j, d0, l.ow j d0 z3, by rw [← k2 j (hw j _ z3)]; exact z2⟩
  have back : ∀ {e3 : Sl} {F3 : Addr → Prop} {ρ3 : List Addr} {H3 : Hp} {st3 : Sto}, LeE e1 e3 σ2 F ρ H F3 ρ3 H3 → R K mg { c with W := noW } F3 ρ3 e3 st3 σ2 H3 →
      R K mg c F3 ρ3 (wipeE e3 vs) st3 σB H3 ∧ LeE eB (wipeE e3 vs) σB F1 ρ1 H1 F3 ρ3 H3 ∧ (∀ (j : Nat) s, (wipeE e3 vs)[j]? = some (some s) → j ∉ vs) ∧ H3 p = some (.lst us) ∧ Reps K F3 ρ3 H3 us acc ∧ ¬ F3 p ∧ p ∉ ρ3 := by
    intro e3 F3 ρ3 H3 st3 l3 r3
    have nO1 : ¬ OwnAt e1 σ2 p := fun z => nO (own1 p z)
    refine ⟨r3.unwish.re (by rw [wipeE_length, r3.len, hl2]) (fun j s hs => ?_), ⟨l.toLe.trans l3.toLe, fun j d0 z => ?_, fun a o ha n m no => ?_, fun a z => ?_, fun a z => ?_, fun a z => l3.there a (l.there a z)⟩, fun j s hs => (wipeE_some hs).2, l3.keep p _ hp nF nR nO1, ra.mono l3.toLe, fun z => ?_, fun z => ?_⟩
    · obtain ⟨z1, z2⟩ := wipeE_some hs
      exact ⟨z1, (k2 j z2).symm⟩
    · exact l.ow j d0 (eo j d0 (l3.ow j d0 (wipeE_some z).1))
    · refine l3.keep a o (l.keep a o ha n m no) (fun z => ?_) (fun z => ?_) fun z => no (own1 a z)
      · rcases l.newF a z with z | z | z
        · exact n z
        · rw [ha] at z; cases z
        · exact no z
      · rcases l.newR a z with z | z
        · exact m z
        · rw [ha] at z; cases z
    · rcases l3.newF a z with z | z | z
      · exact l.newF a z
      · refine .inr (.inl ?_)
        cases hq : H1 a with
        | none => rfl
        | some o => exact absurd z (l.there a (some_ne hq))
      · exact .inr (.inr (own1 a z))
    · rcases l3.newR a z with z | z
      · exact l.newR a z
      · refine .inr ?_
        cases hq : H1 a with
        | none => rfl
        | some o => exact absurd z (l.there a (some_ne hq))
    · rcases l3.newF p z with z | z | z
      · exact nF z
      · rw [hp] at z; cases z
      · exact nO1 z
    · rcases l3.newR p z with z | z
      · exact nR z
      · rw [hp] at z; cases z
  refine ⟨hw2, htt σ2 H _ ⟨F, ρ, e1, st, r2.wish noW, ?_⟩⟩
  cases hft : ft e1 st with
  | stuck => rw [hft] at q; exact q.elim
  | exc k e2 s2 => rw [hft] at q; exact q.elim
  | ok db e2 s2 =>
    rw [hft] at q
    cases db with
    | bl b =>
      intro F3 ρ3 H3 l3 r3
      cases b with
      | false =>
        rw [if_neg Bool.false_ne_true]
        obtain ⟨b1, b2, b3, b4, b5, b6, b7⟩ := back l3 r3
        exact ⟨F3, ρ3, _, s2, acc, us, b1, b2, b3, b4, b5, b6, b7, q⟩
      | true =>
        rw [if_pos rfl]
        simp only at q
        refine hte σ2 H3 _ ⟨F3, ρ3, e2, s2, r3, ?_⟩
        have q' := q
        unfold eFz at q
        cases hfe : fe e2 s2 with
        | stuck => rw [hfe] at q; exact q.elim
        | exc k e4 s4 => rw [hfe] at q; exact q.elim
        | ok dd e4 s4 =>
          rw [hfe] at q
          simp only [ER.bind] at q
          intro F4 ρ4 H4 y l4 r4 x4
          cases hz : fz dd e4 with
          | none => rw [hz] at q; exact q.elim
          | some de =>
            obtain ⟨d5, e5⟩ := de
            rw [hz] at q
            simp only at q
            obtain ⟨F5, l5, r5, x5⟩ := fz_ok r4 x4 hz
            have l35 := (l3.trans l4).trans l5
            obtain ⟨b1, b2, b3, b4, b5, b6, b7⟩ := back l35 r5
            split at q
            · rename_i hlim
              refine ⟨us, b4, lim_lt (by rw [b5.length]; exact hlim), F5, ρ4, wipeE e5 vs, s4, acc ++ [d5], us ++ [y], b1.upf b6 b7 (fun ⟨j, d0, z1, z2⟩ => nO ⟨j, d0, b2.ow j d0 z1, z2⟩) h0 _, b2.upf h1 b6 _, b3, upd_same, ?_, b6, b7, q⟩
              have le := le_upd (ρ := ρ4) (H := H4) (a := p) (o := .lst (us ++ [y])) b6
              exact (b5.mono le).append (.cons (x5.mono le) .nil)
            · exact q.elim
    | _ => exact q.elim
theorem lc_read {wi : TI} {g : TG} {tt : TT} {te : TE} {vs : List Nat} {fi : IF} {bind : BF} {ft fe : EF} (hwi : ∀ σ H R, tID K mg c fi σ H R → wi σ H R) (hg : TGok K mg g vs bind) (htt : ∀ σ H Q, tTD K mg { c with W := noW } ft σ H Q → tt σ H Q) (hte : ∀ σ H Q, tED K mg { c with W := noW } fe σ H Q → te σ H Q)
    (r : R K mg c F ρ e st σ H) (q : NPost K mg c e σ F ρ H Q (eComp vs fi bind ft fe e st)) : tLc wi g tt te vs σ H Q := by
  refine hwi σ H _ ⟨F, ρ, e, st, r, ?_⟩
  unfold eComp at q
  cases hfi : fi e st with
  | stuck => rw [hfi] at q; exact q
  | exc k e1 s1 => rw [hfi] at q; exact q
  | ok ds e1 s1 =>
    rw [hfi] at q
    simp only at q
    intro F1 ρ1 H1 J l1 r1 wk p hp
    have c0 : c.H p = none := by
      cases q : c.H p with
      | none => rfl
      | some o => exact absurd hp (r1.x.there p (some_ne q))
    have wlen : ∀ (τ : St), (wipeE e1 vs).length = τ.length → True := fun _ _ => trivial
    have rB : R K mg c F1 ρ1 (wipeE e1 vs) s1 (wipe σ vs) H1 := r1.re (by rw [wipeE_length, wipe_length, r1.len]) fun j s hs => by
      obtain ⟨z1, z2⟩ := wipeE_some hs
      exact ⟨z1, wipe_at z2⟩
    have nO : ¬ OwnAt (wipeE e1 vs) (wipe σ vs) p := fun z => rB.ownH z hp
    have nF : ¬ F1 p := fun z => r1.w.tr p z hp
    have nR : p ∉ ρ1 := fun z => by obtain ⟨o, q⟩ := r1.w.mem z; rw [hp] at q; cases q
    have hσ : wipe (wipe σ vs) vs = wipe σ vs := by
      apply List.ext_getElem?
      intro j
      by_cases hj : j ∈ vs
      · have aux : ∀ (τ : St) (ws : List Nat), j ∈ ws → (wipe τ ws)[j]? = if j < τ.length then some none else none := by
          intro τ ws
          induction ws with
          | nil => intro h; cases h
          | cons w ws ih =>
            intro h
            unfold wipe
            by_cases hwj : w = j
            · subst hwj
              by_cases hlt : w < τ.length
              · rw [if_pos hlt, List.getElem?_set_self (by rw [wipe_length]; exact hlt)]
              · rw [if_neg hlt]
                exact List.getElem?_eq_none (by rw [List.length_set, wipe_length]; omega)
            · rw [List.getElem?_set_ne hwj]
              exact ih ((List.mem_cons.mp h).resolve_left fun z => hwj z.symm)
        rw [aux _ vs hj, aux _ vs hj, wipe_length]
      · rw [wipe_at hj]
    -- the end's wish, seen from within
    have q1 : NPost K mg c (wipeE e1 vs) (wipe σ vs) F1 ρ1 H1 (fun v H' => Q v H') (compL vs bind ft fe ds [] (wipeE e1 vs) s1) := by
      cases hres : compL vs bind ft fe ds [] (wipeE e1 vs) s1 with
      | stuck => rw [hres] at q; exact q
      | exc k e5 s5 =>
        exfalso
        have aux : ∀ (xs acc : List D) (e : Sl) (s : Sto), compL vs bind ft fe xs acc e s ≠ .exc k e5 s5 := by
          intro xs
          induction xs with
          | nil => intro acc e s h; cases h
          | cons x xs ih =>
            intro acc e s h
            unfold compL at h
            split at h
            · cases h
            split at h
            · split at h
              · split at h
                · exact ih _ _ _ h
                · cases h
              · cases h
            · exact ih _ _ _ h
            · cases h
        exact aux _ _ _ _ hres
      | ok d e5 s5 =>
        rw [hres] at q
        intro F' ρ' H' a l r' cr n1 n2 n3 n4
        have wipedE : ∀ (j : Nat) s, e5[j]? = some (some s) → j ∉ vs := by
          have aux : ∀ (xs acc : List D) (e : Sl) (s : Sto), (∀ (j : Nat) s, e[j]? = some (some s) → j ∉ vs) → compL vs bind ft fe xs acc e s = .ok d e5 s5 → ∀ (j : Nat) s, e5[j]? = some (some s) → j ∉ vs := by
            intro xs
            induction xs with
            | nil => intro acc e s hw h; cases h; exact hw
            | cons x xs ih =>
              intro acc e s hw h
              unfold compL at h
              split at h
              · cases h
              split at h
              · split at h
                · split at h
                  · exact ih _ _ _ (fun j s hs => (wipeE_some hs).2) h
                  · cases h
                · cases h
              · exact ih _ _ _ (fun j s hs => (wipeE_some hs).2) h
              · cases h
          exact aux ds [] _ s1 (fun j s hs => (wipeE_some hs).2) hres
        have r6 : R K mg c F' ρ' e5 s5 σ H' := r'.re (by rw [r'.len, wipe_length]) fun j s hs => ⟨hs, (wipe_at (wipedE j s hs)).symm⟩
        have ownB : ∀ b, OwnAt (wipeE e1 vs) (wipe σ vs) b → OwnAt e1 σ b := fun b ⟨j, d0, z1, z2⟩ => by
          obtain ⟨z3, z4⟩ := wipeE_some z1
          rw [wipe_at z4] at z2
          exact ⟨j, d0, z3, z2⟩
        have l6 : LeE e1 e5 σ F1 ρ1 H1 F' ρ' H' := ⟨l.toLe, fun j d0 z => (wipeE_some (l.ow j d0 z)).1, fun b o h n m no => l.keep b o h n m fun z => no (ownB b z), fun b z => by
          rcases l.newF b z with z | z | z
          · exact .inl z
          · exact .inr (.inl z)
          · exact .inr (.inr (ownB b z)), l.newR, l.there⟩
        refine q F' ρ' H' a (l1.trans l6) r6 cr n1 n2 (fun ⟨j, d0, z1, z2⟩ => n3 ⟨j, d0, z1, by rw [wipe_at (wipedE j _ z1)]; exact z2⟩) ?_
        cases hq : H a with
        | none => rfl
        | some o => exact absurd n4 (l1.there a (some_ne hq))
    refine ⟨fun i m H => m = ds.length - i ∧ i ≤ ds.length ∧ CompAt K mg c vs bind ft fe ds (wipeE e1 vs) (wipe σ vs) F1 ρ1 H1 p Q i H, ⟨ds.length, by simp, Nat.zero_le _, ?_⟩, ?_⟩
    · refine ⟨F1, ρ1, wipeE e1 vs, s1, [], [], rB.upf nF nR nO c0 _, LeE.refl.upf hp nF _, fun j s hs => (wipeE_some hs).2, upd_same, .nil, nF, nR, q1⟩
    · rintro i m H3 ⟨rfl, hi, hC⟩
      obtain ⟨F3, ρ3, e3, st3, acc, us, r3, l3, hw, hp3, ra, nF3, nR3, q3⟩ := id hC.ex
      by_cases hlt : i < ds.length
      · refine .inr ⟨wk.go F3 ρ3 H3 i l3.toLe hlt, CompAt K mg c vs bind ft fe ds (wipeE e1 vs) (wipe σ vs) F1 ρ1 H1 p Q (i + 1), fun H' hC' => ⟨ds.length - (i + 1), by omega, rfl, hlt, hC'⟩, fun x H4 hy => ?_⟩
        obtain ⟨e4, d, hd, _⟩ := wk.yld F3 ρ3 H3 i x H4 l3.toLe hlt hy
        subst e4
        refine comp_turn hg htt hte hσ c0 hp nO hd (fun F4 ρ4 le4 => ?_) hC
        obtain ⟨_, d', hd', rep⟩ := wk.yld F4 ρ4 _ i x _ le4 hlt hy
        rw [hd] at hd'
        cases hd'
        exact rep
      · have ei : i = ds.length := by omega
        subst ei
        refine .inl ⟨wk.stop F3 ρ3 H3 _ l3.toLe (Nat.le_refl _), ?_⟩
        rw [List.drop_length] at q3
        exact q3 F3 ρ3 H3 p l3 r3 (.lst hp3 ra) nF3 nR3 (fun ⟨j, d0, z1, z2⟩ => nO ⟨j, d0, l3.ow j d0 z1, z2⟩) hp
end
end DL
end
section
set_option Elab.async false
set_option linter.all false
set_option maxRecDepth 100000
set_option maxHeartbeats 4000000
set_option autoImplicit false
/-! DLI: statements, loops, bodies of defs. -/
namespace DL
open PySem PySem.Spec L2
open PyProof.Rows hiding St
section
variable {X : Cx} {c : Dx} {a b ex : Expr} {es : List Expr} {fa fb : EF} {fs : AF} {pos : Pos} {f : EF}
abbrev DTs (c : Dx) (X : Cx) (ifs : List Expr) (f : EF) : Prop := PTs X ifs (tTD X.K X.mg c f)
theorem dts_nil : DTs c X [] eYes := ⟨fun pins s σ H Q I ⟨F, ρ, e, st, r, q⟩ => pts_nil.run pins s σ H Q I (q F ρ H LeE.refl r)⟩
theorem dts_one (h : DT c X a fa) : DTs c X [a] fa := pts_one h
/-- the block of a comprehension: in every context that it may be run in -/
abbrev Blk (X : Cx) (scope : Scope) (P : Cx → Prop) : Prop := ∀ (s : Shared) (H : Hp) (C : Addr) (cl : List (Str × Addr)) (fp : List Addr), P (X.blk s H scope (compEnvC scope cl C X.env) fp)
theorem dn_comp {elt tg iter : Expr} {ifs : List Expr} {scope : Scope} {own : List (Str × Nat)} {g : TG} {bind : BF} {fi : IF} {ft fe : EF} (hc : X.calm = true) (hN : X.N.Nodup) (hi : DI c X tg iter fi) (ok : BlkOk X.N X.env.scope scope own)
    (hg : TGok X.K X.mg g (own.map (·.2)) bind) (hp : Blk X scope fun Y => PG Y tg g) (ht : Blk X scope fun Y => DTs { c with W := noW } Y ifs ft) (he : Blk X scope fun Y => DE { c with W := noW } Y elt fe)
    (hs : ∀ x, foldedSetIterable iter X.env x = pure x := by intro _; rfl) : DN c X (.ListComp elt [⟨tg, iter, ifs, 0⟩] scope pos) (eComp (own.map (·.2)) fi bind ft fe) :=
  ⟨fun pins s σ H Q I ⟨F, ρ, e, st, r, q⟩ => (pe_lc hc hN hi ok hp ht he hs).run pins s σ H Q I (lc_read (fun _ _ _ h => h) hg (fun _ _ _ h => h) (fun _ _ _ h => h) r q)⟩

/-! ### statements -/
def OR.bind (r : OR) (k : SF) : OR := match r with | .nx e s => k e s | r => r
def sSeq (f g : SF) : SF := fun e s => (f e s).bind g
def sNop : SF := fun e s => .nx e s
theorem dss_nil : DSs c X [] sNop := ⟨fun pins s σ H D I ⟨F, ρ, e, st, r, q⟩ => pss_nil.run pins s σ H D I (q F ρ σ H Le.refl r)⟩
theorem ds_imp {st : Stmt} {t : TS} {g : SF} (h : PS X st t) (k : ∀ F ρ e st σ H D, R X.K X.mg c F ρ e st σ H → SPost X.K X.mg c F ρ H D (g e st) → t D σ H) : DS c X st g :=
  ⟨fun pins s σ H D I ⟨F, ρ, e, st, r, q⟩ => h.run pins s σ H D I (k F ρ e st σ H D r q)⟩
theorem SPost.seq {K : PySem.W.Frag} {mg : Str → Option Value} {F : Addr → Prop} {ρ : List Addr} {H : Hp} {D : Ends} {r : OR} {k : SF} (h : SPost K mg c F ρ H D (r.bind k)) : SPost K mg c F ρ H { D with nx := tSD K mg c k D } r := by
  cases r with
  | nx e s => exact fun F' ρ' σ' H' l r => ⟨F', ρ', e, s, r, SPost.shift (r := k e s) l h⟩
  | bk e s => exact h
  | ct e s => exact h
  | rt v s => exact h
  | exc k e s => exact h
  | stuck => exact h
theorem dss_cons {st : Stmt} {sts : List Stmt} {g k : SF} (h1 : DS c X st g) (h2 : DSs c X sts k) : DSs c X (st :: sts) (sSeq g k) :=
  ⟨fun pins s σ H D I ⟨F, ρ, e, st, r, q⟩ => (pss_cons h1 h2).run pins s σ H D I ⟨F, ρ, e, st, r, SPost.seq q⟩⟩
theorem dss_one {st : Stmt} {g : SF} (h1 : DS c X st g) : DSs c X [st] g :=
  ⟨fun pins s σ H D I ⟨F, ρ, e, st, r, q⟩ => (pss_one h1).run pins s σ H D I ⟨F, ρ, e, st, r, q⟩⟩
/-- what a slot owns becomes known, ahead of the statements -/
def sFz (i : Nat) : SF := fun e s => match e[i]? with | some (some (.own d)) => .nx (e.set i (some (.val d))) s | _ => .stuck
theorem dss_fz {sts : List Stmt} {g : SF} (i : Nat) (h : DSs c X sts g) : DSs c X sts (sSeq (sFz i) g) := by
  refine ⟨fun pins s σ H D I ⟨F, ρ, e, st, r, q⟩ => h.run pins s σ H D I ?_⟩
  unfold sSeq sFz at q
  split at q
  · rename_i d hi
    obtain ⟨v, e1, p, e2, _⟩ := r.slot i _ hi
    subst e2
    obtain ⟨r2, l, _⟩ := r.freeze hi e1
    exact ⟨_, _, _, _, r2, SPost.shift l.toLe q⟩
  · exact q.elim
theorem ds_pass : DS c X (.Pass pos) sNop := ds_imp ps_pass fun F ρ e st σ H D r q => q F ρ σ H Le.refl r
def sBrk : SF := fun e s => .bk e s
def sCnt : SF := fun e s => .ct e s
theorem ds_break : DS c X (.Break pos) sBrk := ds_imp ps_break fun F ρ e st σ H D r q => q F ρ σ H Le.refl r
theorem ds_continue : DS c X (.Continue pos) sCnt := ds_imp ps_continue fun F ρ e st σ H D r q => q F ρ σ H Le.refl r
/-- x = e, a value -/
def sSet (i : Nat) (f : EF) : SF := fun e s => (eFz f e s).bindS fun d e s => .nx (e.set i (some (.val d))) s
theorem RepX.fz {K : PySem.W.Frag} {F : Addr → Prop} {ρ : List Addr} {H : Hp} {σ : St} {v : V} {d : D} (x : RepX K F ρ H σ v d) (h : ∀ i, d ≠ .own i) : Rep K F ρ H v d := by
  rcases x with ⟨i, _, rfl, _⟩ | x
  · exact absurd rfl (h i)
  · exact x
theorem fz_not {d d' : D} {e e' : Sl} {K : PySem.W.Frag} {mg : Str → Option Value} {F : Addr → Prop} {ρ : List Addr} {H : Hp} {σ : St} {st : Sto} (r : R K mg c F ρ e st σ H) (h : fz d e = some (d', e')) : ∀ i, d' ≠ .own i := by
  intro i z
  subst z
  unfold fz at h
  split at h
  · split at h
    · rename_i i0 d0 h0
      cases h
      obtain ⟨v, e1, a, e2, h3, _⟩ := r.slot _ _ h0
      cases h3
    · cases h
  · rename_i hn
    cases h
    exact hn _ rfl
theorem eFz_not {K : PySem.W.Frag} {mg : Str → Option Value} {F : Addr → Prop} {ρ : List Addr} {H : Hp} {e : Sl} {σ : St} {st : Sto} {Q : VK} (r : R K mg c F ρ e st σ H) {k : D → Sl → Sto → ER} : True := trivial
/-- a value that is known -/
theorem bindFz {K : PySem.W.Frag} {mg : Str → Option Value} {F : Addr → Prop} {ρ : List Addr} {H : Hp} {e : Sl} {σ : St} {st : Sto} {Q' : VK} {k : D → Sl → Sto → OR} {D : Ends} (h : SPost K mg c F ρ H D ((eFz f e st).bindS k))
    (q : ∀ F1 ρ1 e1 st1 H1 v d, LeE e e1 σ F ρ H F1 ρ1 H1 → R K mg c F1 ρ1 e1 st1 σ H1 → Rep K F1 ρ1 H1 v d → SPost K mg c F1 ρ1 H1 D (k d e1 st1) → Q' v H1) : EPost K mg c e σ F ρ H Q' (f e st) := by
  unfold eFz at h
  cases hr : f e st with
  | stuck => rw [hr] at h; exact h
  | exc n e1 s1 => rw [hr] at h; exact fun F' ρ' H' C r m => h F' ρ' σ H' C r m
  | ok d e1 s1 =>
    rw [hr] at h
    intro F' ρ' H' v l r' x
    simp only [ER.bind] at h
    split at h
    · rename_i d' e' hz
      obtain ⟨F2, l2, r2, x2⟩ := fz_ok r' x hz
      exact q F2 ρ' e' s1 H' v d' (l.trans l2) r2 x2 (SPost.shift (r := k d' e' s1) (l.trans l2).toLe h)
    · exact h.elim
theorem ds_set {x : Str} {p : Pos} (i : Nat) (hN : X.N.Nodup) (ha : DE c X a fa) (hi : X.N[i]? = some x := by rfl) (hx : Loc X.env.scope x := by first | exact Or.inl rfl | exact Or.inr rfl) (hs : swapsWith a (some (.Name x p)) pos.line X.env = pure false := by rfl)
    (hf : X.fn x = true ∨ X.env.scope.names.lookup x = some .local := by first | exact .inl rfl | exact .inr rfl | assumption) : DS c X (.Assign [.Name x p] a pos) (sSet i fa) :=
  ds_imp (ps_set hN hi hx ha hs hf) fun F ρ e st σ H D r q => ⟨F, ρ, e, st, r, bindFz q fun F1 ρ1 e1 st1 H1 v d l r1 x1 h1 => h1 F1 ρ1 _ H1 Le.refl (r1.setVal x1)⟩
/-- x = e, a new object that the slot owns -/
def sOwn (i : Nat) (f : EF) : SF := fun e s => (f e s).bindS fun d e s => .nx (e.set i (some (.own d))) s
theorem own_post {K : PySem.W.Frag} {mg : Str → Option Value} {F : Addr → Prop} {ρ : List Addr} {H : Hp} {e : Sl} {σ : St} {st : Sto} {D : Ends} {i : Nat} (r0 : R K mg c F ρ e st σ H) (h : SPost K mg c F ρ H D (sOwn i f e st)) : NPost K mg c e σ F ρ H (fun v H1 => D.nx (σ.set i (some v)) H1) (f e st) := by
  unfold sOwn at h
  cases hr : f e st with
  | stuck => rw [hr] at h; exact h
  | exc n e1 s1 => rw [hr] at h; exact fun F' ρ' H' C r m => h F' ρ' σ H' C r m
  | ok d e1 s1 =>
    rw [hr] at h
    intro F' ρ' H' p l r cr n1 n2 n3 n4
    have c0 : c.H p = none := by
      cases q : c.H p with
      | none => rfl
      | some o => exact absurd n4 (r0.x.there p (some_ne q))
    exact h F' ρ' _ H' l.toLe (r.setOwn cr n1 n2 c0 n3)
theorem ds_own {x : Str} {p : Pos} (i : Nat) (hN : X.N.Nodup) (ha : DN c X a fa) (hi : X.N[i]? = some x := by rfl) (hx : Loc X.env.scope x := by first | exact Or.inl rfl | exact Or.inr rfl) (hs : swapsWith a (some (.Name x p)) pos.line X.env = pure false := by rfl)
    (hf : X.fn x = true ∨ X.env.scope.names.lookup x = some .local := by first | exact .inl rfl | exact .inr rfl | assumption) : DS c X (.Assign [.Name x p] a pos) (sOwn i fa) :=
  ds_imp (ps_set hN hi hx ha hs hf) fun F ρ e st σ H D r q => ⟨F, ρ, e, st, r, own_post r q⟩
/-- x = [.. for ..], the swapping form -/
theorem ds_ownC {i : Nat} {y : Str} {py : Pos} {elt tg iter : Expr} {ifs : List Expr} {scope : Scope} {own : List (Str × Nat)} {spos : Pos} {g : TG} {bind : BF} {fi : IF} {ft fe : EF} (hc : X.calm = true) (hN : X.N.Nodup) (hi : DI c X tg iter fi) (ok : BlkOk X.N X.env.scope scope own)
    (hg : TGok X.K X.mg g (own.map (·.2)) bind) (hp : Blk X scope fun Y => PG Y tg g) (ht : Blk X scope fun Y => DTs { c with W := noW } Y ifs ft) (he : Blk X scope fun Y => DE { c with W := noW } Y elt fe)
    (hy : X.N[i]? = some y := by rfl) (hyl : X.env.scope.names.lookup y = some .local := by rfl) (hsw : swapsWith (.ListComp elt [⟨tg, iter, ifs, 0⟩] scope pos) (some (.Name y py)) spos.line X.env = pure true := by exact sw_true rfl rfl rfl (by decide +kernel))
    (hs : ∀ x, foldedSetIterable iter X.env x = pure x := by intro _; rfl) : DS c X (.Assign [.Name y py] (.ListComp elt [⟨tg, iter, ifs, 0⟩] scope pos) spos) (sOwn i (eComp (own.map (·.2)) fi bind ft fe)) :=
  ds_imp (ps_setLc hc hN hy hyl hsw hi ok hp ht he hs) fun F ρ e st σ H D r q => lc_read (fun _ _ _ h => h) hg (fun _ _ _ h => h) (fun _ _ _ h => h) r (own_post r q)
/-- an owned object that is known at once -/
theorem SPost.ownVal {K : PySem.W.Frag} {mg : Str → Option Value} {F : Addr → Prop} {ρ : List Addr} {H : Hp} {e : Sl} {σ : St} {st : Sto} {D : Ends} {i : Nat} (r0 : R K mg c F ρ e st σ H) (h : SPost K mg c F ρ H D (sSet i f e st)) : NPost K mg c e σ F ρ H (fun v H1 => D.nx (σ.set i (some v)) H1) (f e st) := by
  unfold sSet eFz at h
  cases hr : f e st with
  | stuck => rw [hr] at h; exact h
  | exc n e1 s1 => rw [hr] at h; exact fun F' ρ' H' C r m => h F' ρ' σ H' C r m
  | ok d e1 s1 =>
    rw [hr] at h
    intro F' ρ' H' p l r cr n1 n2 n3 n4
    have c0 : c.H p = none := by
      cases q : c.H p with
      | none => rfl
      | some o => exact absurd n4 (r0.x.there p (some_ne q))
    obtain ⟨r2, rep⟩ := r.know cr n1 n2 n3 c0
    have hz : fz d e1 = some (d, e1) := by cases cr <;> rfl
    simp only [ER.bind, hz] at h
    exact h _ ρ' _ H' (l.know n4).toLe (r2.setVal rep)
theorem ds_setC {i : Nat} {y : Str} {py : Pos} {elt tg iter : Expr} {ifs : List Expr} {scope : Scope} {own : List (Str × Nat)} {spos : Pos} {g : TG} {bind : BF} {fi : IF} {ft fe : EF} (hc : X.calm = true) (hN : X.N.Nodup) (hi : DI c X tg iter fi) (ok : BlkOk X.N X.env.scope scope own)
    (hg : TGok X.K X.mg g (own.map (·.2)) bind) (hp : Blk X scope fun Y => PG Y tg g) (ht : Blk X scope fun Y => DTs { c with W := noW } Y ifs ft) (he : Blk X scope fun Y => DE { c with W := noW } Y elt fe)
    (hy : X.N[i]? = some y := by rfl) (hyl : X.env.scope.names.lookup y = some .local := by rfl) (hsw : swapsWith (.ListComp elt [⟨tg, iter, ifs, 0⟩] scope pos) (some (.Name y py)) spos.line X.env = pure true := by exact sw_true rfl rfl rfl (by decide +kernel))
    (hs : ∀ x, foldedSetIterable iter X.env x = pure x := by intro _; rfl) : DS c X (.Assign [.Name y py] (.ListComp elt [⟨tg, iter, ifs, 0⟩] scope pos) spos) (sSet i (eComp (own.map (·.2)) fi bind ft fe)) :=
  ds_imp (ps_setLc hc hN hy hyl hsw hi ok hp ht he hs) fun F ρ e st σ H D r q => lc_read (fun _ _ _ h => h) hg (fun _ _ _ h => h) (fun _ _ _ h => h) r (SPost.ownVal r q)
/-- a target that is a tuple -/
def sAsg (bind : BF) (f : EF) : SF := fun e s => (eFz f e s).bindS fun d e s => match bind d e with | some e' => .nx e' s | none => .stuck
theorem ds_asg {tg : Expr} {g : TG} {vs : List Nat} {bind : BF} (hg : TGok X.K X.mg g vs bind) (hp : PG X tg g) (ha : DE c X a fa) (hs : swapsWithSole [tg] a pos.line X.env = pure false := by rfl) (hw : swappedStores [tg] a X.env = pure none := by rfl) (h1 : (assignEach [tg] X.env).map (·.2) = [assign tg X.env] := by rfl) : DS c X (.Assign [tg] a pos) (sAsg bind fa) :=
  ds_imp (ps_asg ha hp hs hw h1) fun F ρ e st σ H D r q => ⟨F, ρ, e, st, r, bindFz q fun F1 ρ1 e1 st1 H1 v d l r1 x1 h1 => by
    split at h1
    · rename_i e' hb
      exact hg.run c F1 ρ1 e1 e' st1 σ H1 v d _ r1 x1 hb fun σ' r' _ _ => h1 F1 ρ1 σ' H1 Le.refl r'
    · exact h1.elim⟩
/-- a, b = x, y -/
def sPar (i j : Nat) (fs : AF) : SF := fun e s => (fs e s).bindS fun ds e s => match ds with | [x, y] => .nx ((e.set i (some (.val x))).set j (some (.val y))) s | _ => .stuck
theorem ds_par {x y : Str} {px py pt : Pos} {kt k2 : Nat} {pt2 : Pos} (i j : Nat) (hc : X.calm = true) (hN : X.N.Nodup) (ha : DA c X [a, b] fs) (hi : X.N[i]? = some x := by rfl) (hj : X.N[j]? = some y := by rfl) (hij : i ≠ j := by decide)
    (hx : X.env.scope.names.lookup x = some .local := by rfl) (hy : X.env.scope.names.lookup y = some .local := by rfl)
    (hw : swappedStores [.Tuple [.Name x px, .Name y py] kt pt] (.Tuple [a, b] k2 pt2) X.env = pure (some [x, y]) := by rfl)
    (hs : swapsWithSole [.Tuple [.Name x px, .Name y py] kt pt] (.Tuple [a, b] k2 pt2) pos.line X.env = pure false := by rfl) : DS c X (.Assign [.Tuple [.Name x px, .Name y py] kt pt] (.Tuple [a, b] k2 pt2) pos) (sPar i j fs) := by
  refine ds_imp (ps_par hc hN hi hj hij hx hy ha hw hs) fun F ρ e st σ H D r q => ⟨F, ρ, e, st, r, bindAS q fun F1 ρ1 e1 st1 H1 vs ds l r1 rs h1 => ?_⟩
  split at h1
  · cases rs with
    | cons x1 rs => cases rs with
      | cons x2 rs =>
        cases rs
        exact ⟨_, _, rfl, h1 F1 ρ1 _ H1 Le.refl ((r1.setVal x1).setVal x2)⟩
  · exact h1.elim
/-- return -/
def sRet (f : EF) : SF := fun e s => (f e s).bindS fun d e s => match d with
  | .own i => (match e[i]? with | some (some (.own d')) => .rt (.new d') s | _ => .stuck)
  | d => .rt (.val d) s
theorem ds_ret (ha : DE c X a fa) : DS c X (.Return (some a) pos) (sRet fa) := by
  refine ds_imp (ps_ret ha) fun F ρ e st σ H D r q => ⟨F, ρ, e, st, r, bindES q fun F1 ρ1 e1 st1 H1 v d l r1 x h1 => ?_⟩
  rcases x with ⟨i, p, rfl, rfl, hi⟩ | x
  · simp only at h1
    split at h1
    · rename_i d' he
      obtain ⟨v, z1, p', z2, z3, z4, z5, z6⟩ := r1.slot i _ he
      rw [hi] at z1
      cases z1
      cases z2
      exact h1 F1 ρ1 H1 _ r1.w r1.x ⟨_, rfl, z3, z4, z5, z6⟩
    · exact h1.elim
  · have : (match d with | .own i => (match e1[i]? with | some (some (.own d')) => OR.rt (.new d') st1 | _ => .stuck) | d => .rt (.val d) st1) = .rt (.val d) st1 := by
      cases x <;> rfl
    rw [this] at h1
    exact h1 F1 ρ1 H1 v r1.w r1.x x
def sRetN (f : EF) : SF := fun e s => (f e s).bindS fun d e s => .rt (.new d) s
theorem ds_retN (ha : DN c X a fa) : DS c X (.Return (some a) pos) (sRetN fa) := by
  refine ds_imp (ps_ret ha) fun F ρ e st σ H D r q => ⟨F, ρ, e, st, r, ?_⟩
  unfold sRetN at q
  cases hr : fa e st with
  | stuck => rw [hr] at q; exact q
  | exc n e1 s1 => rw [hr] at q; exact fun F' ρ' H' C r m => q F' ρ' σ H' C r m
  | ok d e1 s1 =>
    rw [hr] at q
    intro F' ρ' H' p l r1 cr n1 n2 n3 n4
    have c0 : c.H p = none := by
      cases q : c.H p with
      | none => rfl
      | some o => exact absurd n4 (r.x.there p (some_ne q))
    exact q F' ρ' H' _ r1.w r1.x ⟨p, rfl, cr, n1, n2, c0⟩
def sRet0 : SF := fun e s => .rt (.val .non) s
theorem ds_ret0 : DS c X (.Return none pos) sRet0 := ds_imp ps_retN fun F ρ e st σ H D r q => q F ρ H _ r.w r.x .non
/-- if -/
def sIf (fc : EF) (g k : SF) : SF := fun e s => (fc e s).bindS fun d e s => match d with | .bl true => g e s | .bl false => k e s | _ => .stuck
theorem ds_if {cx : Expr} {fc : EF} {A B : List Stmt} {g k : SF} (hc : DT c X cx fc) (ha : DSs c X A g) (hb : DSs c X B k) : DS c X (.If cx A B pos) (sIf fc g k) := by
  refine ds_imp (ps_if hc ha hb) fun F ρ e st σ H D r q => ⟨F, ρ, e, st, r, ?_⟩
  unfold sIf at q
  cases hr : fc e st with
  | stuck => rw [hr] at q; exact q
  | exc n e1 s1 => rw [hr] at q; exact fun F' ρ' H' C r m => q F' ρ' σ H' C r m
  | ok d e1 s1 =>
    rw [hr] at q
    simp only [ER.bindS] at q
    split at q
    · intro F' ρ' H' l r'
      rw [if_pos rfl]
      exact ⟨F', ρ', e1, s1, r', SPost.shift l.toLe q⟩
    · intro F' ρ' H' l r'
      rw [if_neg Bool.false_ne_true]
      exact ⟨F', ρ', e1, s1, r', SPost.shift l.toLe q⟩
    · exact q.elim
/-- an expression alone -/
def sDo (f : EF) : SF := fun e s => (f e s).bindS fun _ e s => .nx e s
theorem ds_do (ha : DE c X a fa) (hs : swapsWith a none pos.line X.env = pure false := by rfl) : DS c X (.Expr a pos) (sDo fa) :=
  ds_imp (ps_expr ha hs) fun F ρ e st σ H D r q => ⟨F, ρ, e, st, r, bindES q fun F1 ρ1 e1 st1 H1 v d l r1 x h1 => h1 F1 ρ1 σ H1 Le.refl r1⟩

/-! ### for -/
def forL (bind : BF) (g : SF) : List D → Sl → Sto → OR
  | [], e, s => .nx e s
  | x :: xs, e, s => match bind x e with
    | none => .stuck
    | some e1 => match g e1 s with
      | .nx e2 s2 => forL bind g xs e2 s2
      | .ct e2 s2 => forL bind g xs e2 s2
      | .bk e2 s2 => .nx e2 s2
      | r => r
def sFor (fi : IF) (bind : BF) (g : SF) : SF := fun e s => match fi e s with
  | .ok ds e1 s1 => forL bind g ds e1 s1
  | .exc k e s => .exc k e s
  | .stuck => .stuck
theorem ds_for {tg iter : Expr} {body : List Stmt} {g : TG} {vs : List Nat} {bind : BF} {fi : IF} {k : SF} (hp : PassesOwn (model X.prog X.w) X.A X.env X.xe) (hc : X.calm = true) (hi : DI c X tg iter fi) (hg : TGok X.K X.mg g vs bind) (ht : PG X tg g) (hb : DSs c X body k)
    (hs : ∀ x, foldedSetIterable iter X.env x = pure x := by intro _; rfl) : DS c X (.For tg iter body [] pos) (sFor fi bind k) := by
  refine ds_imp (ps_for hp hc hi ht hb hs) fun F ρ e st σ H D r q => ⟨F, ρ, e, st, r, ?_⟩
  unfold sFor at q
  cases hr : fi e st with
  | stuck => rw [hr] at q; exact q
  | exc n e1 s1 => rw [hr] at q; exact fun F' ρ' H' C r m => q F' ρ' σ H' C r m
  | ok ds e1 s1 =>
    rw [hr] at q
    simp only at q
    intro F1 ρ1 H1 J l1 r1 wk
    refine ⟨fun i m σ H => m = ds.length - i ∧ i ≤ ds.length ∧ ∃ F ρ e st, R X.K X.mg c F ρ e st σ H ∧ Le F1 ρ1 H1 F ρ H ∧ SPost X.K X.mg c F1 ρ1 H1 D (forL bind k (ds.drop i) e st), ⟨ds.length, by simp, Nat.zero_le _, F1, ρ1, e1, s1, r1, Le.refl, q.shift l1.toLe⟩, ?_⟩
    rintro i m σ2 H2 ⟨rfl, hi2, F2, ρ2, e2, st2, r2, le2, q2⟩
    by_cases hlt : i < ds.length
    · refine .inr ⟨wk.go F2 ρ2 H2 i le2 hlt, fun σ H => ∃ F ρ e st, R X.K X.mg c F ρ e st σ H ∧ Le F1 ρ1 H1 F ρ H ∧ SPost X.K X.mg c F1 ρ1 H1 D (forL bind k (ds.drop (i + 1)) e st), fun σ' H' hN => ⟨ds.length - (i + 1), by omega, rfl, hlt, hN⟩, fun x H3 hy => ?_⟩
      obtain ⟨e3, d, hd, rep⟩ := wk.yld F2 ρ2 H2 i x H3 le2 hlt hy
      subst e3
      have hdrop : ds.drop i = d :: ds.drop (i + 1) := by
        rw [List.drop_eq_getElem_cons hlt]
        congr 1
        rw [List.getElem?_eq_getElem hlt] at hd
        exact Option.some.inj hd
      rw [hdrop] at q2
      unfold forL at q2
      split at q2
      · exact q2.elim
      rename_i e4 hbd
      refine hg.run c F2 ρ2 e2 e4 st2 σ2 _ x d _ r2 rep hbd fun σ4 r4 _ _ => ⟨F2, ρ2, e4, st2, r4, ?_⟩
      cases hk : k e4 st2 with
      | nx e5 s5 => rw [hk] at q2; exact fun F' ρ' σ' H' l r => ⟨F', ρ', e5, s5, r, le2.trans l, q2⟩
      | ct e5 s5 => rw [hk] at q2; exact fun F' ρ' σ' H' l r => ⟨F', ρ', e5, s5, r, le2.trans l, q2⟩
      | bk e5 s5 => rw [hk] at q2; exact fun F' ρ' σ' H' l r => q2 F' ρ' σ' H' (le2.trans l) r
      | rt v s5 => rw [hk] at q2; exact q2
      | exc n e5 s5 => rw [hk] at q2; exact q2
      | stuck => rw [hk] at q2; exact q2
    · have ei : i = ds.length := by omega
      subst ei
      refine .inl ⟨wk.stop F2 ρ2 H2 _ le2 (Nat.le_refl _), ?_⟩
      rw [List.drop_length] at q2
      exact q2 F2 ρ2 σ2 H2 le2 r2
end
end DL
end
section
set_option Elab.async false
set_option linter.all false
set_option maxRecDepth 100000
set_option maxHeartbeats 4000000
set_option autoImplicit false
/-! DLJ: stores into what a slot owns; bodies of defs; a def of the text. -/
namespace DL
open PySem PySem.Spec L2
open PyProof.Rows hiding St
section
variable {X : Cx} {c : Dx} {a b ex : Expr} {es : List Expr} {fa fb : EF} {fs : AF} {pos : Pos} {f : EF}
/-- xs.append(e), xs owned -/
def sApp (i : Nat) (f : EF) : SF := fun e s => match e[i]? with
  | some (some (.own (.lst _))) => (eFz f e s).bindS fun d e s => (match e[i]? with
    | some (some (.own (.lst ds))) => if ds.length < lim then .nx (e.set i (some (.own (.lst (ds ++ [d]))))) s else .stuck
    | _ => .stuck)
  | _ => .stuck
theorem ds_app {x : Str} {p p2 p3 : Pos} (i : Nat) (ha : DE c X a fa) (hN : X.N[i]? = some x := by rfl) (hv : Vis X.env.scope x := by first | exact Or.inl rfl | exact Or.inr (Or.inl rfl) | exact Or.inr (Or.inr rfl)) (hd : (x == ("__debug__" : Str)) = false := by decide)
    (hcd : (x == ("__classdict__" : Str)) = false := by decide) (he : starEach [a] X.env = (false, eval a X.env) :: starEach [] X.env := by rfl)
    (hx : PE X (.Call (.Attribute (.Name x p) "append" p2) [a] [] p3) (tBM X.K "list" rAppend (tVar i) (tCons (tED X.K X.mg c fa) tNil))) (hs : swapsWith (.Call (.Attribute (.Name x p) "append" p2) [a] [] p3) none pos.line X.env = pure false := by rfl) :
    DS c X (.Expr (.Call (.Attribute (.Name x p) "append" p2) [a] [] p3) pos) (sApp i fa) := by
  refine ds_imp (ps_expr hx hs) fun F ρ e st σ H D r q => ?_
  unfold sApp at q
  split at q
  · rename_i d0 h0
    obtain ⟨v, z1, p', z2, z3, z4, z5, z6⟩ := r.slot i _ h0
    subst z2
    refine ⟨_, z1, ?_, F, ρ, e, st, r, bindFz q fun F1 ρ1 e1 st1 H1 v1 d l r1 x1 h1 => ?_⟩
    · cases z3 with | lst y1 y2 => exact .inl ⟨rfl, _, .of y1⟩
    · split at h1
      · rename_i ds h2
        obtain ⟨v, w1, p2, w2, w3, w4, w5, w6⟩ := r1.slot i _ h2
        rw [z1] at w1
        cases w1
        cases w2
        split at h1
        · rename_i hlim
          cases w3 with
          | lst y1 y2 =>
            refine ⟨p', _, v1, rfl, rfl, y1, lim_lt (by rw [y2.length]; exact hlim), ?_⟩
            have le := fun o => le_upd (ρ := ρ1) (H := H1) (a := p') (o := o) w4
            exact h1 F1 ρ1 σ _ (le _) (r1.writeOwn h2 z1 (.lst upd_same ((y2.mono (le _)).append (.cons (x1.mono (le _)) .nil))))
        · exact h1.elim
      · exact h1.elim
  · exact q.elim
/-- x[k] = v, x owned -/
def putC (c k d : D) : Option D := match c, k with
  | .lst ds, .int j => (match ixN ds.length j with | some n => some (.lst (ds.set n d)) | none => none)
  | .dk kvs, k => (match toK k with | some k => if kvs.length < lim then some (.dk (pt kvs k d)) else none | none => none)
  | _, _ => none
def sPut (i : Nat) (fk fv : EF) : SF := fun e s => match e[i]? with
  | some (some (.own _)) => (eFz fv e s).bindS fun d e s => (eFz fk e s).bindS fun k e s => (match e[i]? with
    | some (some (.own c)) => (match putC c k d with | some c' => .nx (e.set i (some (.own c'))) s | none => .stuck)
    | _ => .stuck)
  | _ => .stuck
def rSetD : TSet := fun o i v H Q => ∃ a H4, o = .ref a ∧ DPut H a i v H4 ∧ Q H4
theorem set_dict (hu : X.A.units + 1 < cLine) : PSet X rSetD := by
  intro pins s σ H o i v ov iv u Q I ro ri rv ⟨a, H4, e, g, q⟩
  subst e
  cases ro
  exact d_setItem hu I g ri rv fun s' I' => ⟨H4, I', q⟩
theorem set_or {t t' : TSet} (h : PSet X t) (h' : PSet X t') : PSet X (fun o i v H Q => t o i v H Q ∨ t' o i v H Q) := by
  intro pins s σ H o i v ov iv u Q I ro ri rv q
  rcases q with q | q
  · exact h pins s σ H o i v ov iv u Q I ro ri rv q
  · exact h' pins s σ H o i v ov iv u Q I ro ri rv q
theorem putC_ok {K : PySem.W.Frag} {F : Addr → Prop} {ρ : List Addr} {H : Hp} {p : Addr} {co co' k d : D} {kv v : V} (nF : ¬ F p) (hc : CRep K F ρ H p co) (hk : Rep K F ρ H kv k) (hd : Rep K F ρ H v d) (h : putC co k d = some co') (D : Hp → Prop)
    (q : ∀ o, CRep K F ρ (upd H p o) p co' → D (upd H p o)) : rSetL (.ref p) kv v H D ∨ rSetD (.ref p) kv v H D := by
  have le := fun o => le_upd (ρ := ρ) (H := H) (a := p) (o := o) nF
  unfold putC at h
  split at h
  · split at h
    · rename_i n hn
      cases h
      cases hc with
      | lst y1 y2 =>
        cases hk
        refine .inl ⟨p, _, _, n, rfl, rfl, y1, by rw [y2.length]; exact hn, q _ (.lst upd_same ((y2.mono (le _)).set (hd.mono (le _)) n))⟩
    · cases h
  · split at h
    · rename_i k' hk'
      split at h
      · rename_i hlim
        cases h
        cases hc with
        | dk y1 y2 =>
          cases toK_ok (σ := []) (.inr hk) hk'
          exact .inr ⟨p, _, rfl, .inl ⟨_, k', y1, rfl, lim_lt (by rw [y2.length]; exact hlim), rfl⟩, q _ (.dk upd_same ((y2.mono (le _)).put k' (hd.mono (le _))))⟩
      · cases h
    · cases h
  · cases h
theorem ds_put {x : Str} {p p2 : Pos} {ki v : Expr} {fk fv : EF} (i : Nat) (hu : X.A.units + 1 < cLine) (hv : DE c X v fv) (hk : DE c X ki fk) (hN : X.N[i]? = some x := by rfl) (hvis : Vis X.env.scope x := by first | exact Or.inl rfl | exact Or.inr (Or.inl rfl) | exact Or.inr (Or.inr rfl)) (hd : (x == ("__debug__" : Str)) = false := by decide)
    (hcd : (x == ("__classdict__" : Str)) = false := by decide)
    (ha : ∀ v, assign (.Subscript (.Name x p) ki p2) X.env v = (do
      let ov ← holding [v] (eval (.Name x p) X.env)
      let iv ← holding [v, ov] (eval ki X.env)
      standAt p2
      holding [v, ov, iv] (setItem ov iv v)
      release [v, ov, iv] []) := by intro _; rfl)
    (hs : swapsWithSole [.Subscript (.Name x p) ki p2] v pos.line X.env = pure false := by rfl) (hw : swappedStores [.Subscript (.Name x p) ki p2] v X.env = pure none := by rfl)
    (h1 : (assignEach [.Subscript (.Name x p) ki p2] X.env).map (·.2) = [assign (.Subscript (.Name x p) ki p2) X.env] := by rfl) :
    DS c X (.Assign [.Subscript (.Name x p) ki p2] v pos) (sPut i fk fv) := by
  refine ds_imp (ps_asg hv (pg_sub (pe_var (i := i) hN hvis hd hcd) hk (set_or set_list (set_dict hu)) ha) hs hw h1) fun F ρ e st σ H D r q => ?_
  unfold sPut at q
  split at q
  · rename_i d0 h0
    refine ⟨F, ρ, e, st, r, bindFz q fun F1 ρ1 e1 st1 H1 v1 d l r1 x1 h2 => ?_⟩
    obtain ⟨w, z1, p', z2, z3, z4, z5, z6⟩ := r.slot i _ h0
    subst z2
    refine ⟨_, z1, F1, ρ1, e1, st1, r1, bindFz h2 fun F2 ρ2 e2 st2 H2 v2 k l2 r2 x2 h3 => ?_⟩
    split at h3
    · rename_i co hco
      split at h3
      · rename_i co' hco'
        obtain ⟨w, y1, p2, y2, y3, y4, y5, y6⟩ := r2.slot i _ hco
        rw [z1] at y1
        cases y1
        cases y2
        have := putC_ok y4 y3 x2 (x1.mono l2.toLe) hco' (fun H' => D.nx σ H') (fun o cr => h3 F2 ρ2 σ _ (le_upd y4) (r2.writeOwn hco z1 cr))
        exact this
      · exact h3.elim
    · exact h3.elim
  · exact q.elim

/-! ### bodies of defs -/
def fnOf (n : Nat) (g : SF) : Fn := fun ds st => match g (ds.map (fun d => some (SV.val d)) ++ List.replicate (n - ds.length) none) st with
  | .nx _ s => .ok (.val .non) s
  | .rt r s => .ok r s
  | .exc k _ s => .exc k s
  | _ => .stuck
theorem slots_start {K : PySem.W.Frag} {mg : Str → Option Value} {F : Addr → Prop} {ρ : List Addr} {H : Hp} {st : Sto} {W : WX} {N : List Str} : ∀ {vs : List V} {ds : List D}, Wld K mg F ρ st H → Reps K F ρ H vs ds →
    R K mg ⟨F, ρ, H, W⟩ F ρ (ds.map (fun d => some (SV.val d)) ++ List.replicate (N.length - ds.length) none) st (L2.start N vs) H := by
  intro vs ds w rs
  have hl := rs.length
  have noown : ∀ (i : Nat) d, (ds.map (fun d => some (SV.val d)) ++ List.replicate (N.length - ds.length) none)[i]? ≠ some (some (.own d)) := fun i d h => by
    by_cases hi : i < ds.length
    · rw [List.getElem?_append_left (by simpa using hi), List.getElem?_map, List.getElem?_eq_getElem hi] at h
      cases h
    · rw [List.getElem?_append_right (by simpa using hi)] at h
      have := List.getElem?_eq_some_iff.mp h
      obtain ⟨h1, h2⟩ := this
      rw [List.getElem_replicate] at h2
      cases h2
  refine ⟨w, Ext.refl, by simp [L2.start, hl], fun i s hs => ?_, fun i j d d' a _ h => absurd h (noown i d)⟩
  by_cases hi : i < ds.length
  · rw [List.getElem?_append_left (by simpa using hi), List.getElem?_map, List.getElem?_eq_getElem hi] at hs
    cases hs
    obtain ⟨v, hv, rep⟩ := rs.get (i := i) (List.getElem?_eq_getElem hi)
    refine ⟨some v, ?_, v, rfl, rep⟩
    unfold L2.start
    rw [List.getElem?_append_left (by rw [List.length_map, hl]; exact hi), List.getElem?_map, hv]
    rfl
  · rw [List.getElem?_append_right (by simpa using hi)] at hs
    obtain ⟨h1, h2⟩ := List.getElem?_eq_some_iff.mp hs
    rw [List.getElem_replicate] at h2
    cases h2
section
variable {P : Program} {w : World} {K : PySem.W.Frag} {mg : Str → Option Value} {base : Heap}
/-- what a body's derivation may use -/
structure Bd (P : Program) (w : World) (K : PySem.W.Frag) (mg : Str → Option Value) (base : Heap) (N : List Str) (qual : Str) (sc : Scope) (f : Addr) (cdv : Value) (k : Nat) (c : Dx) (A : Around) (outer : List Env) (s : Shared) (H : Hp) (E : XK) : Prop where
  room : Room k (A.deeper (envOfC qual sc s.heap.objs.size f cdv))
  tk : Takes (cxOf (CX P w) P w K mg base N qual sc f cdv A outer s H E) c.W
theorem fn_ok {x qual : Str} {st : Stmt} {f : Addr} {fd : FuncData} {N ps : List Str} {k : Nat} {g : SF} (F : Fun K x qual st f fd) (S : FnScope N ps (defScope st))
    (hb : ∀ (c : Dx) (cdv : Value) (A : Around) (outer : List Env) (s : Shared) (H : Hp) (E : XK), Bd P w K mg base N qual (defScope st) f cdv k c A outer s H E → DSs c (cxOf (CX P w) P w K mg base N qual (defScope st) f cdv A outer s H E) (defBody st) g) :
    FnOk P w K mg base (CX P w) (k + 1) f fd ps (spD K mg ps.length (fnOf N.length g)) := by
  refine F.okX S (fun vs H Q E h => ?_) (fun cdv A outer s H vs Q E hr h => ?_)
  · obtain ⟨_, _, _, _, h, _⟩ := h
    exact h
  · obtain ⟨F0, ρ, sto, ds, hl, wl, rs, q⟩ := h
    refine ⟨_, hb ⟨F0, ρ, H, fun cls d _ H => E cls d H⟩ cdv A outer s H E ⟨hr, takes_of rfl rfl rfl rfl⟩, F0, ρ, _, sto, slots_start wl rs, ?_⟩
    unfold fnOf at q
    show SPost K mg _ F0 ρ H _ (g (ds.map (fun d => some (SV.val d)) ++ List.replicate (N.length - ds.length) none) sto)
    generalize g (ds.map (fun d => some (SV.val d)) ++ List.replicate (N.length - ds.length) none) sto = res at q
    cases res with
    | nx e' s' => exact fun F' ρ' σ' H' l r => q F' ρ' H' .non r.x r.w .non
    | rt rv s' => exact fun F' ρ' H' v w x rr => q F' ρ' H' v x w rr
    | exc n e' s' => exact fun F' ρ' σ' H' C r m => q F' ρ' H' C r.x r.w m
    | bk e' s' => exact q.elim
    | ct e' s' => exact q.elim
    | stuck => exact q.elim
end
end
end DL
end
section
set_option Elab.async false
set_option linter.all false
set_option maxRecDepth 100000
set_option maxHeartbeats 4000000
set_option autoImplicit false
/-! DLK: == and != of data of any depth. -/
namespace DL
open PySem PySem.Spec L2
open PyProof.Rows hiding St

/-- the kind of a datum, for kinds that never are equal -/
def kd : D → Nat
  | .non => 0 | .bl _ => 1 | .int _ => 2 | .str _ => 3 | .tup _ => 4 | .lst _ => 5 | _ => 9
def kdNe (a b : Nat) : Bool := (a < 9 && b < 9 && a != b)
mutual
def deq : D → D → Option Bool
  | .non, .non => some true
  | .bl a, .bl b => some (a == b)
  | .bl a, .int b => some ((if a then 1 else 0) == b)
  | .int a, .bl b => some (a == (if b then 1 else 0))
  | .int a, .int b => some (a == b)
  | .str a, .str b => some (a == b)
  | .tup xs, .tup ys => (deqs xs ys).map fun r => r && xs.length == ys.length
  | .lst xs, .lst ys => if xs.length = ys.length then deqs xs ys else some false
  | .dk xs, .dk ys => (deqk xs ys).map fun r => xs.length == ys.length && r
  | x, y => if kdNe (kd x) (kd y) = true then some false else none
def deqs : List D → List D → Option Bool
  | x :: xs, y :: ys => match deq x y, deqs xs ys with
    | some a, some b => some (a && b)
    | _, _ => none
  | _, _ => some true
def deqk : List (Key × D) → List (Key × D) → Option Bool
  | [], _ => some true
  | (k, x) :: xs, ys => match lk ys k with
    | some y => (match deq x y, deqk xs ys with
      | some a, some b => some (a && b)
      | _, _ => none)
    | none => (deqk xs ys).map fun _ => false
end
mutual
def depth : D → Nat
  | .tup ds => depths ds + 1
  | .lst ds => depths ds + 1
  | .dk kvs => depthk kvs + 1
  | _ => 0
def depths : List D → Nat
  | [] => 0
  | d :: ds => max (depth d) (depths ds)
def depthk : List (Key × D) → Nat
  | [] => 0
  | (_, d) :: ds => max (depth d) (depthk ds)
end
theorem t1 (xs ys : List D) : deq (.tup xs) (.tup ys) = (deqs xs ys).map fun r => r && xs.length == ys.length := by rfl
theorem t2 (i j : Int) : deq (.int i) (.int j) = some (i == j) := by rfl
theorem depths_mem : ∀ {ds : List D} {j : Nat} {d : D}, ds[j]? = some d → depth d ≤ depths ds
  | [], _, _, h => by simp at h
  | x :: xs, 0, d, h => by
    simp at h
    subst h
    unfold depths
    exact Nat.le_max_left _ _
  | x :: xs, j + 1, d, h => by
    have := depths_mem (ds := xs) (j := j) (d := d) (by simpa using h)
    unfold depths
    exact Nat.le_trans this (Nat.le_max_right _ _)
theorem depthk_mem : ∀ {ds : List (Key × D)} {k : Key} {d : D}, (k, d) ∈ ds → depth d ≤ depthk ds
  | [], _, _, h => by cases h
  | (k', x) :: xs, k, d, h => by
    unfold depthk
    rcases List.mem_cons.mp h with e | h
    · cases e
      exact Nat.le_max_left _ _
    · exact Nat.le_trans (depthk_mem h) (Nat.le_max_right _ _)
theorem deqs_some : ∀ {xs ys : List D} {r : Bool}, deqs xs ys = some r → ∃ e : Nat → Bool, (∀ (j : Nat) x y, xs[j]? = some x → ys[j]? = some y → deq x y = some (e j)) ∧ r = (List.range (min xs.length ys.length)).all e
  | [], ys, r, h => by
    unfold deqs at h
    cases h
    exact ⟨fun _ => true, fun j x y h => by simp at h, by simp⟩
  | x :: xs, [], r, h => by
    unfold deqs at h
    cases h
    exact ⟨fun _ => true, fun j x y _ h => by simp at h, by simp⟩
  | x :: xs, y :: ys, r, h => by
    unfold deqs at h
    split at h
    · rename_i a b ha hb
      cases h
      obtain ⟨e, he, hr⟩ := deqs_some hb
      refine ⟨fun j => match j with | 0 => a | j + 1 => e j, fun j x' y' h1 h2 => ?_, ?_⟩
      · cases j with
        | zero => simp at h1 h2; subst h1; subst h2; exact ha
        | succ j => exact he j x' y' (by simpa using h1) (by simpa using h2)
      · rw [hr, List.length_cons, List.length_cons, Nat.succ_min_succ, List.range_succ_eq_map, List.all_cons, List.all_map]
        rfl
    · cases h
theorem lk_mem {κ : Type} [DecidableEq κ] : ∀ {ds : List (κ × D)} {k : κ} {d : D}, lk ds k = some d → (k, d) ∈ ds
  | [], _, _, h => by cases h
  | (k', x) :: xs, k, d, h => by
    unfold lk at h
    split at h
    · rename_i e
      cases h
      subst e
      exact List.mem_cons_self
    · exact List.mem_cons_of_mem _ (lk_mem h)
theorem lk_of_mem {κ : Type} [DecidableEq κ] : ∀ {ds : List (κ × D)} {k : κ} {d : D}, (ds.map (·.1)).Nodup → (k, d) ∈ ds → lk ds k = some d
  | [], _, _, _, h => by cases h
  | (k', x) :: xs, k, d, n, h => by
    rw [List.map_cons, List.nodup_cons] at n
    unfold lk
    rcases List.mem_cons.mp h with e | h
    · cases e
      rw [if_pos rfl]
    · have : k' ≠ k := fun q => n.1 (by rw [q]; exact List.mem_map.mpr ⟨_, h, rfl⟩)
      rw [if_neg this]
      exact lk_of_mem n.2 h
theorem all_mem {α : Type} {f g : α → Bool} : ∀ {xs : List α}, (∀ p, p ∈ xs → f p = g p) → xs.all f = xs.all g
  | [], _ => rfl
  | x :: xs, h => by
    rw [List.all_cons, List.all_cons, h x List.mem_cons_self, all_mem fun p hp => h p (List.mem_cons_of_mem _ hp)]
theorem deqk_some : ∀ {xs ys : List (Key × D)} {r : Bool}, (xs.map (·.1)).Nodup → deqk xs ys = some r → ∃ e : Key → Bool, (∀ k x y, (k, x) ∈ xs → lk ys k = some y → deq x y = some (e k)) ∧ r = xs.all fun p => (lk ys p.1).isSome && e p.1
  | [], ys, r, _, h => by
    unfold deqk at h
    cases h
    exact ⟨fun _ => true, fun k x y h => (by cases h), rfl⟩
  | (k, x) :: xs, ys, r, n, h => by
    rw [List.map_cons, List.nodup_cons] at n
    unfold deqk at h
    split at h
    · rename_i y hy
      split at h
      · rename_i a b ha hb
        cases h
        obtain ⟨e, he, hr⟩ := deqk_some n.2 hb
        refine ⟨fun k' => if k' = k then a else e k', fun k' x' y' h1 h2 => ?_, ?_⟩
        · rcases List.mem_cons.mp h1 with q | h1
          · cases q
            rw [hy] at h2
            cases h2
            simp only [if_pos]
            exact ha
          · have : k' ≠ k := fun q => n.1 (by rw [← q]; exact List.mem_map.mpr ⟨_, h1, rfl⟩)
            simp only [if_neg this]
            exact he k' x' y' h1 h2
        · rw [List.all_cons, hr]
          simp only [hy, if_pos, Option.isSome_some, Bool.true_and]
          congr 1
          refine all_mem fun p hp => ?_
          have : p.1 ≠ k := fun q => n.1 (by rw [← q]; exact List.mem_map.mpr ⟨_, hp, rfl⟩)
          rw [if_neg this]
      · cases h
    · rename_i hy
      cases hk : deqk xs ys with
      | none => rw [hk] at h; cases h
      | some b =>
        rw [hk] at h
        cases h
        obtain ⟨e, he, hr⟩ := deqk_some n.2 hk
        refine ⟨e, fun k' x' y' h1 h2 => ?_, ?_⟩
        · rcases List.mem_cons.mp h1 with q | h1
          · cases q
            rw [hy] at h2
            cases h2
          · exact he k' x' y' h1 h2
        · rw [List.all_cons, hy]
          rfl
theorem RelO.of_some {o : Option V} {u : Value} (r : RelO o (some u)) : ∃ v, o = some v ∧ RelV v u := by
  cases o with
  | none => exact r.elim
  | some v => exact ⟨v, rfl, r⟩
/-! ### what a heap holds at a value -/
mutual
inductive Hd (K : PySem.W.Frag) (H : Hp) : V → D → Prop
  | non : Hd K H .non .non
  | bl (b : Bool) : Hd K H (.bl b) (.bl b)
  | int (i : Int) : Hd K H (.int i) (.int i)
  | str (x : Str) : Hd K H (.str x) (.str x)
  | tup {a : Addr} {vs : List V} {ds : List D} : SqT K H a vs → Hds K H vs ds → Hd K H (.ref a) (.tup ds)
  | lst {a : Addr} {vs : List V} {ds : List D} : SqL K H a vs → Hds K H vs ds → Hd K H (.ref a) (.lst ds)
  | dk {a : Addr} {kvs : List (Key × V)} {kds : List (Key × D)} : Rd H a (.dK kvs) → Hdk K H kvs kds → Hd K H (.ref a) (.dk kds)
  | any {v : V} {d : D} : kd d = 9 → (∀ kvs, d ≠ .dk kvs) → Hd K H v d
inductive Hds (K : PySem.W.Frag) (H : Hp) : List V → List D → Prop
  | nil : Hds K H [] []
  | cons {v : V} {vs : List V} {d : D} {ds : List D} : Hd K H v d → Hds K H vs ds → Hds K H (v :: vs) (d :: ds)
inductive Hdk (K : PySem.W.Frag) (H : Hp) : List (Key × V) → List (Key × D) → Prop
  | nil : Hdk K H [] []
  | cons {k : Key} {v : V} {vs : List (Key × V)} {d : D} {ds : List (Key × D)} : Hd K H v d → Hdk K H vs ds → Hdk K H ((k, v) :: vs) ((k, d) :: ds)
end
section
variable {K : PySem.W.Frag} {F : Addr → Prop} {ρ : List Addr} {H : Hp}
mutual
theorem Rep.hd : ∀ {d : D} {v : V}, Rep K F ρ H v d → Hd K H v d
  | .non, _, h => by cases h; exact .non
  | .bl _, _, h => by cases h; exact .bl _
  | .int _, _, h => by cases h; exact .int _
  | .str _, _, h => by cases h; exact .str _
  | .tup ds, _, h => by cases h with | tup h1 h2 => exact .tup h1.sq (Reps.hd h2)
  | .lst ds, _, h => by cases h with | lst h0 h1 h2 => exact .lst (.of h1) (Reps.hd h2)
  | .dk ds, _, h => by cases h with | dk h0 h1 h2 => exact .dk h1 (RepK.hd h2)
  | .scr ds, _, h => .any rfl fun _ z => nomatch z
  | .dt ds, _, h => .any rfl fun _ z => nomatch z
  | .dn ds, _, h => .any rfl fun _ z => nomatch z
  | .ref ds, _, h => .any rfl fun _ z => nomatch z
  | .own ds, _, h => .any rfl fun _ z => nomatch z
theorem Reps.hd : ∀ {ds : List D} {vs : List V}, Reps K F ρ H vs ds → Hds K H vs ds
  | [], _, h => by cases h; exact .nil
  | _ :: _, _, h => by cases h with | cons h1 h2 => exact .cons (Rep.hd h1) (Reps.hd h2)
theorem RepK.hd : ∀ {ds : List (Key × D)} {vs : List (Key × V)}, RepK K F ρ H vs ds → Hdk K H vs ds
  | [], _, h => by cases h; exact .nil
  | (_, _) :: _, _, h => by cases h with | cons h1 h2 => exact .cons (Rep.hd h1) (RepK.hd h2)
end
theorem Vw.hd {v : V} {d : D} (h : Vw K F ρ H v d) : Hd K H v d := by
  cases h with
  | non h => subst h; exact .non
  | bl h => subst h; exact .bl _
  | int h => subst h; exact .int _
  | str h => subst h; exact .str _
  | tup h h1 h2 => subst h; exact .tup h1.sq h2.hd
  | lst h h1 h2 => subst h; exact .lst (.of h1) h2.hd
  | dk h h1 h2 => subst h; exact .dk h1 h2.hd
  | scr h h1 h2 => exact .any rfl fun _ z => nomatch z
  | dt h h1 h2 => exact .any rfl fun _ z => nomatch z
  | own => exact .any rfl fun _ z => nomatch z
  | ref h h1 => exact .any rfl fun _ z => nomatch z
theorem Hds.length {vs : List V} {ds : List D} (h : Hds K H vs ds) : vs.length = ds.length := by
  induction ds generalizing vs with
  | nil => cases h; rfl
  | cons d ds ih => cases h with | cons h1 h2 => rw [List.length_cons, List.length_cons, ih h2]
theorem Hds.at {v : V} : ∀ {ds : List D} {vs : List V} {i : Nat}, Hds K H vs ds → vs[i]? = some v → ∃ d, ds[i]? = some d ∧ Hd K H v d
  | [], _, _, h, e => by cases h; simp at e
  | _ :: _, _, 0, h, e => by cases h with | cons h1 h2 => exact ⟨_, rfl, by simp at e; subst e; exact h1⟩
  | _ :: _, _, i + 1, h, e => by
    cases h with
    | cons h1 h2 =>
      obtain ⟨d, e1, r⟩ := Hds.at (v := v) (i := i) h2 (by simpa using e)
      exact ⟨d, by simpa using e1, r⟩
theorem Hdk.keys : ∀ {ds : List (Key × D)} {vs : List (Key × V)}, Hdk K H vs ds → vs.map (·.1) = ds.map (·.1)
  | [], _, h => by cases h; rfl
  | (k, d) :: ds, _, h => by cases h with | cons h1 h2 => rw [List.map_cons, List.map_cons, Hdk.keys h2]
theorem Hdk.length {vs : List (Key × V)} {ds : List (Key × D)} (h : Hdk K H vs ds) : vs.length = ds.length := by
  have := congrArg List.length h.keys
  simpa using this
theorem Hdk.at {k : Key} {v : V} : ∀ {ds : List (Key × D)} {vs : List (Key × V)}, Hdk K H vs ds → (k, v) ∈ vs → ∃ d, (k, d) ∈ ds ∧ Hd K H v d
  | [], _, h, e => by cases h; cases e
  | (k', d) :: ds, _, h, e => by
    cases h with
    | cons h1 h2 =>
      rcases List.mem_cons.mp e with q | e
      · cases q; exact ⟨d, List.mem_cons_self, h1⟩
      · obtain ⟨d, e1, r⟩ := Hdk.at h2 e
        exact ⟨d, List.mem_cons_of_mem _ e1, r⟩
theorem Hdk.lk : ∀ {ds : List (Key × D)} {vs : List (Key × V)} (k : Key), Hdk K H vs ds → (∀ v, valV vs k = some v → ∃ d, DL.lk ds k = some d ∧ Hd K H v d) ∧ (valV vs k = none → DL.lk ds k = none)
  | [], _, k, h => by cases h; exact ⟨fun v e => (by cases e), fun _ => rfl⟩
  | (k', d') :: r, _, k, h => by
    cases h with
    | @cons _ v vs _ _ h1 h2 =>
      unfold DL.lk
      by_cases e : k' = k
      · rw [if_pos e, valV_pos (p := (k', v)) e]
        exact ⟨fun v q => (by cases q; exact ⟨_, rfl, h1⟩), fun q => (by cases q)⟩
      · rw [if_neg e, valV_neg (p := (k', v)) e]
        exact Hdk.lk k h2
end
section
variable {X : Cx} {pins : List (Addr × Obj)} {σ : St} {H : Hp} {s : Shared}
theorem dk_nodup (I : Inv X pins σ H s) {a : Addr} {kvs : List (Key × V)} (h : Rd H a (.dK kvs)) : (kvs.map (·.1)).Nodup := by
  obtain ⟨_, _, vs, rel, _, _, _, _, _, _, _, _, nd⟩ := dk_rd I.hok h
  rw [KV.keys rel]
  exact nd
theorem deq_any_r {x y : D} (h : kd y = 9) (hn : ∀ kvs, y ≠ .dk kvs) : deq x y = none := by
  cases y <;> first | (cases h; done) | exact absurd rfl (hn _) | (cases x <;> rfl)
theorem deq_any_l {x y : D} (h : kd x = 9) (hn : ∀ kvs, x ≠ .dk kvs) : deq x y = none := by
  cases x <;> first | (cases h; done) | exact absurd rfl (hn _) | (cases y <;> rfl)
theorem sqT_sqL (I : Inv X pins σ H s) {a : Addr} {xs ys : List V} (h : SqT X.K H a xs) (h' : SqL X.K H a ys) : False := by
  obtain ⟨_, _, ⟨o, e1, c1, _⟩, _⟩ := I.tuple h
  obtain ⟨_, _, p, _⟩ := I.list h'
  obtain ⟨o', e2, c2, _⟩ := p.isList
  rw [e1] at e2
  cases e2
  exact absurd (Value.type.inj (c1.symm.trans c2)) (by decide)
theorem sqT_dk (I : Inv X pins σ H s) {a : Addr} {xs : List V} {kvs : List (Key × V)} (h : SqT X.K H a xs) (h' : Rd H a (.dK kvs)) : False := by
  obtain ⟨_, _, ⟨o, e1, c1, _⟩, _⟩ := I.tuple h
  obtain ⟨_, _, vs, rel, o', es, ep, e2, c2, _⟩ := dk_rd I.hok h'
  rw [e1] at e2
  cases e2
  exact absurd (Value.type.inj (c1.symm.trans c2.1)) (by decide)
theorem sqL_dk (I : Inv X pins σ H s) {a : Addr} {xs : List V} {kvs : List (Key × V)} (h : SqL X.K H a xs) (h' : Rd H a (.dK kvs)) : False := by
  obtain ⟨_, _, p, _⟩ := I.list h
  obtain ⟨o, e1, c1, _⟩ := p.isList
  obtain ⟨_, _, vs, rel, o', es, ep, e2, c2, _⟩ := dk_rd I.hok h'
  rw [e1] at e2
  cases e2
  exact absurd (Value.type.inj (c1.symm.trans c2.1)) (by decide)
theorem rd_inj (I : Inv X pins σ H s) {a : Addr} {xs ys : List (Key × V)} (h : Rd H a (.dK xs)) (h' : Rd H a (.dK ys)) : xs = ys := by
  rcases h with h | ⟨o, h⟩ <;> rcases h' with h' | ⟨o', h'⟩ <;> (rw [h] at h'; first | (cases h'; rfl) | cases h')
theorem all_true {n : Nat} {e : Nat → Bool} (h : ∀ j, j < n → e j = true) : (List.range n).all e = true := by
  rw [List.all_eq_true]
  intro j hj
  exact h j (List.mem_range.mp hj)
/-- one object is equal to itself, as far as == answers -/
theorem hd_same (I : Inv X pins σ H s) : ∀ (n : Nat) {x y : D} {v : V} {b : Bool}, depth x < n → Hd X.K H v x → Hd X.K H v y → deq x y = some b → b = true := by
  intro n
  induction n with
  | zero => intro x y v b h; exact absurd h (Nat.not_lt_zero _)
  | succ n ih =>
    intro x y v b hn hx hy h
    cases hx with
    | any k1 k2 => rw [deq_any_l k1 k2] at h; cases h
    | non => cases hy with
      | non => cases h; rfl
      | any k1 k2 => rw [deq_any_r k1 k2] at h; cases h
    | bl i => cases hy with
      | bl => cases h; simp
      | any k1 k2 => rw [deq_any_r k1 k2] at h; cases h
    | int i => cases hy with
      | int => cases h; simp
      | any k1 k2 => rw [deq_any_r k1 k2] at h; cases h
    | str i => cases hy with
      | str => cases h; simp
      | any k1 k2 => rw [deq_any_r k1 k2] at h; cases h
    | @tup a vs ds h1 h2 => cases hy with
      | any k1 k2 => rw [deq_any_r k1 k2] at h; cases h
      | lst h3 h4 => exact (sqT_sqL I h1 h3).elim
      | dk h3 h4 => exact (sqT_dk I h1 h3).elim
      | @tup _ vs' ds' h3 h4 =>
        cases I.tuple_inj h1 h3
        unfold deq at h
        cases hs : deqs ds ds' with
        | none => rw [hs] at h; cases h
        | some r =>
          rw [hs] at h
          cases h
          obtain ⟨e, he, hr⟩ := deqs_some hs
          have l1 := h2.length
          have l2 := h4.length
          have hb : (ds.length == ds'.length) = true := by rw [← l1, ← l2]; simp
          show (r && (ds.length == ds'.length)) = true
          rw [hb, Bool.and_true, hr]
          refine all_true fun j hj => ?_
          have hj1 : j < vs.length := by omega
          obtain ⟨x', hx', q1⟩ := h2.at (List.getElem?_eq_getElem hj1)
          obtain ⟨y', hy', q2⟩ := h4.at (List.getElem?_eq_getElem hj1)
          refine ih ?_ q1 q2 (he j x' y' hx' hy')
          have := depths_mem hx'
          unfold depth at hn
          omega
    | @lst a vs ds h1 h2 => cases hy with
      | any k1 k2 => rw [deq_any_r k1 k2] at h; cases h
      | tup h3 h4 => exact (sqT_sqL I h3 h1).elim
      | dk h3 h4 => exact (sqL_dk I h1 h3).elim
      | @lst _ vs' ds' h3 h4 =>
        cases I.list_inj h1 h3
        have l1 := h2.length
        have l2 := h4.length
        unfold deq at h
        rw [if_pos (by omega)] at h
        obtain ⟨e, he, hr⟩ := deqs_some h
        rw [hr]
        refine all_true fun j hj => ?_
        have hj1 : j < vs.length := by omega
        obtain ⟨x', hx', q1⟩ := h2.at (List.getElem?_eq_getElem hj1)
        obtain ⟨y', hy', q2⟩ := h4.at (List.getElem?_eq_getElem hj1)
        refine ih ?_ q1 q2 (he j x' y' hx' hy')
        have := depths_mem hx'
        unfold depth at hn
        omega
    | @dk a kvs ds h1 h2 => cases hy with
      | any k1 k2 => rw [deq_any_r k1 k2] at h; cases h
      | tup h3 h4 => exact (sqT_dk I h3 h1).elim
      | lst h3 h4 => exact (sqL_dk I h3 h1).elim
      | @dk _ kvs' ds' h3 h4 =>
        cases rd_inj I h1 h3
        have l1 := h2.length
        have l2 := h4.length
        have nd := dk_nodup I h1
        unfold deq at h
        cases hs : deqk ds ds' with
        | none => rw [hs] at h; cases h
        | some r =>
          rw [hs] at h
          cases h
          obtain ⟨e, he, hr⟩ := deqk_some (by rw [← h2.keys]; exact nd) hs
          have hb : (ds.length == ds'.length) = true := by rw [← l1, ← l2]; simp
          show ((ds.length == ds'.length) && r) = true
          rw [hb, Bool.true_and, hr, List.all_eq_true]
          rintro ⟨k, x'⟩ hm
          have hkv : ∃ v', (k, v') ∈ kvs := by
            have : k ∈ kvs.map (·.1) := by rw [h2.keys]; exact List.mem_map.mpr ⟨_, hm, rfl⟩
            obtain ⟨⟨k', v'⟩, q1, q2⟩ := List.mem_map.mp this
            cases q2
            exact ⟨v', q1⟩
          obtain ⟨v', hv'⟩ := hkv
          obtain ⟨x2, hx2, q1⟩ := h2.at hv'
          have nd2 : (ds.map (·.1)).Nodup := by rw [← h2.keys]; exact nd
          have ex : x2 = x' := Option.some.inj ((lk_of_mem nd2 hx2).symm.trans (lk_of_mem nd2 hm))
          subst ex
          obtain ⟨y', hy', q2⟩ := h4.at hv'
          have nd3 : (ds'.map (·.1)).Nodup := by rw [← h4.keys]; exact nd
          have hly := lk_of_mem nd3 hy'
          rw [Bool.and_eq_true]
          refine ⟨by rw [hly]; rfl, ih ?_ q1 q2 (he k _ y' hm hly)⟩
          have := depthk_mem hm
          unfold depth at hn
          omega
/-- == answers what deq says -/
theorem hd_eq (I : Inv X pins σ H s) : ∀ (n : Nat) {x y : D} {v u : V} {v' u' : Value} {b : Bool}, depth x < n → Hd X.K H v x → Hd X.K H u y → deq x y = some b → RelV v v' → RelV u u' → PySem.W.EqTree X.prog X.w s n v' u' b := by
  intro n
  induction n with
  | zero => intro x y v u v' u' b h; exact absurd h (Nat.not_lt_zero _)
  | succ n ih =>
    intro x y v u v' u' b hn hx hy h rv ru
    have deep := hd_same I (n + 1) (y := y) (b := b) hn hx
    cases hx with
    | any k1 k2 => rw [deq_any_l k1 k2] at h; cases h
    | non => cases hy with
      | any k1 k2 => rw [deq_any_r k1 k2] at h; cases h
      | non =>
        cases h
        cases rv
        cases ru
        exact .same
      | bl j =>
        cases h
        cases rv
        cases ru
        exact .leaf fun A hu => SeqAt.EqAt.none_bool _ 
      | int j =>
        cases h
        cases rv
        obtain ⟨tr, rfl⟩ := (show ∃ t, _ = _ from ru)
        exact .leaf fun A hu => SeqAt.EqAt.none_int _ _ 
      | str j =>
        cases h
        cases rv
        obtain ⟨tr, rfl⟩ := (show ∃ t, _ = _ from ru)
        exact .leaf fun A hu => SeqAt.EqAt.none_str _ _ 
      | @tup a2 vs2 ds2 h3 h4 =>
        cases h
        cases rv
        cases ru
        obtain ⟨its, r1, p1, _⟩ := I.tuple h3
        exact .leaf fun A hu => SeqAt.EqAt.none_tuple p1 (by omega)
      | @lst a2 vs2 ds2 h3 h4 =>
        cases h
        cases rv
        cases ru
        obtain ⟨its, r1, p1, _⟩ := I.list h3
        exact .leaf fun A hu => SeqAt.EqAt.none_list p1.isList (by omega)
      | dk h3 h4 => cases h
    | bl i => cases hy with
      | any k1 k2 => rw [deq_any_r k1 k2] at h; cases h
      | non =>
        cases h
        cases rv
        cases ru
        exact .leaf fun A hu => SeqAt.EqAt.bool_none _ 
      | bl j =>
        cases h
        cases rv
        cases ru
        exact .leaf fun A hu => SeqAt.EqAt.bool_bool _ _ 
      | int j =>
        cases h
        cases rv
        obtain ⟨tr, rfl⟩ := (show ∃ t, _ = _ from ru)
        exact .leaf fun A hu => SeqAt.EqAt.bool_int _ _ _ 
      | str j =>
        cases h
        cases rv
        obtain ⟨tr, rfl⟩ := (show ∃ t, _ = _ from ru)
        exact .leaf fun A hu => SeqAt.EqAt.bool_str _ _ _ 
      | @tup a2 vs2 ds2 h3 h4 =>
        cases h
        cases rv
        cases ru
        obtain ⟨its, r1, p1, _⟩ := I.tuple h3
        exact .leaf fun A hu => SeqAt.EqAt.bool_tuple _ p1 (by omega)
      | @lst a2 vs2 ds2 h3 h4 =>
        cases h
        cases rv
        cases ru
        obtain ⟨its, r1, p1, _⟩ := I.list h3
        exact .leaf fun A hu => SeqAt.EqAt.bool_list _ p1.isList (by omega)
      | dk h3 h4 => cases h
    | int i => cases hy with
      | any k1 k2 => rw [deq_any_r k1 k2] at h; cases h
      | non =>
        cases h
        obtain ⟨tl, rfl⟩ := (show ∃ t, _ = _ from rv)
        cases ru
        exact .leaf fun A hu => SeqAt.EqAt.int_none _ _ 
      | bl j =>
        cases h
        obtain ⟨tl, rfl⟩ := (show ∃ t, _ = _ from rv)
        cases ru
        exact .leaf fun A hu => SeqAt.EqAt.int_bool _ _ _ 
      | int j =>
        cases h
        obtain ⟨tl, rfl⟩ := (show ∃ t, _ = _ from rv)
        obtain ⟨tr, rfl⟩ := (show ∃ t, _ = _ from ru)
        exact .leaf fun A hu => SeqAt.EqAt.int_int _ _ _ _ 
      | str j =>
        cases h
        obtain ⟨tl, rfl⟩ := (show ∃ t, _ = _ from rv)
        obtain ⟨tr, rfl⟩ := (show ∃ t, _ = _ from ru)
        exact .leaf fun A hu => SeqAt.EqAt.int_str _ _ _ _ 
      | @tup a2 vs2 ds2 h3 h4 =>
        cases h
        obtain ⟨tl, rfl⟩ := (show ∃ t, _ = _ from rv)
        cases ru
        obtain ⟨its, r1, p1, _⟩ := I.tuple h3
        exact .leaf fun A hu => SeqAt.EqAt.int_tuple _ _ p1 (by omega)
      | @lst a2 vs2 ds2 h3 h4 =>
        cases h
        obtain ⟨tl, rfl⟩ := (show ∃ t, _ = _ from rv)
        cases ru
        obtain ⟨its, r1, p1, _⟩ := I.list h3
        exact .leaf fun A hu => SeqAt.EqAt.int_list _ _ p1.isList (by omega)
      | dk h3 h4 => cases h
    | str i => cases hy with
      | any k1 k2 => rw [deq_any_r k1 k2] at h; cases h
      | non =>
        cases h
        obtain ⟨tl, rfl⟩ := (show ∃ t, _ = _ from rv)
        cases ru
        exact .leaf fun A hu => SeqAt.EqAt.str_none _ _ 
      | bl j =>
        cases h
        obtain ⟨tl, rfl⟩ := (show ∃ t, _ = _ from rv)
        cases ru
        exact .leaf fun A hu => SeqAt.EqAt.str_bool _ _ _ 
      | int j =>
        cases h
        obtain ⟨tl, rfl⟩ := (show ∃ t, _ = _ from rv)
        obtain ⟨tr, rfl⟩ := (show ∃ t, _ = _ from ru)
        exact .leaf fun A hu => SeqAt.EqAt.str_int _ _ _ _ 
      | str j =>
        cases h
        obtain ⟨tl, rfl⟩ := (show ∃ t, _ = _ from rv)
        obtain ⟨tr, rfl⟩ := (show ∃ t, _ = _ from ru)
        exact .leaf fun A hu => SeqAt.EqAt.str_str _ _ _ _ 
      | @tup a2 vs2 ds2 h3 h4 =>
        cases h
        obtain ⟨tl, rfl⟩ := (show ∃ t, _ = _ from rv)
        cases ru
        obtain ⟨its, r1, p1, _⟩ := I.tuple h3
        exact .leaf fun A hu => SeqAt.EqAt.str_tuple _ _ p1 (by omega)
      | @lst a2 vs2 ds2 h3 h4 =>
        cases h
        obtain ⟨tl, rfl⟩ := (show ∃ t, _ = _ from rv)
        cases ru
        obtain ⟨its, r1, p1, _⟩ := I.list h3
        exact .leaf fun A hu => SeqAt.EqAt.str_list _ _ p1.isList (by omega)
      | dk h3 h4 => cases h
    | @tup a vs ds h1 h2 => cases hy with
      | any k1 k2 => rw [deq_any_r k1 k2] at h; cases h
      | non =>
        cases h
        cases rv
        cases ru
        obtain ⟨its, r1, p1, _⟩ := I.tuple h1
        exact .leaf fun A hu => SeqAt.EqAt.tuple_none p1 (by omega)
      | bl j =>
        cases h
        cases rv
        cases ru
        obtain ⟨its, r1, p1, _⟩ := I.tuple h1
        exact .leaf fun A hu => SeqAt.EqAt.tuple_bool _ p1 (by omega)
      | int j =>
        cases h
        cases rv
        obtain ⟨tr, rfl⟩ := (show ∃ t, _ = _ from ru)
        obtain ⟨its, r1, p1, _⟩ := I.tuple h1
        exact .leaf fun A hu => SeqAt.EqAt.tuple_int _ _ p1 (by omega)
      | str j =>
        cases h
        cases rv
        obtain ⟨tr, rfl⟩ := (show ∃ t, _ = _ from ru)
        obtain ⟨its, r1, p1, _⟩ := I.tuple h1
        exact .leaf fun A hu => SeqAt.EqAt.tuple_str _ _ p1 (by omega)
      | @tup a2 vs2 ds2 h3 h4 =>
        cases rv
        cases ru
        by_cases ea : a = a2
        · subst ea
          cases deep (.tup h3 h4) h
          exact .same
        unfold deq at h
        cases hs : deqs ds ds2 with
        | none => rw [hs] at h; cases h
        | some r =>
          rw [hs] at h
          cases h
          obtain ⟨e, he, hr⟩ := deqs_some hs
          obtain ⟨its, r1, p1, _⟩ := I.tuple h1
          obtain ⟨its2, r2, p2, _⟩ := I.tuple h3
          have l1 := r1.length
          have l2 := r2.length
          have l3 := h2.length
          have l4 := h4.length
          have goal := PySem.W.EqTree.tuples (n := n) (e := e) ea p1 p2 (fun j q1 q2 => ?_) (prog := X.prog) (w := X.w)
          · rw [List.size_toArray, List.size_toArray, ← l1, ← l2, l3, l4, ← hr] at goal
            exact goal
          · rw [List.size_toArray] at q1 q2
            have j1 : j < vs.length := by omega
            have j2 : j < vs2.length := by omega
            obtain ⟨x', hx', g1⟩ := h2.at (List.getElem?_eq_getElem j1)
            obtain ⟨y', hy', g2⟩ := h4.at (List.getElem?_eq_getElem j2)
            obtain ⟨w1, e1, g3⟩ := r1.get (List.getElem?_eq_getElem j1)
            obtain ⟨w2, e2, g4⟩ := r2.get (List.getElem?_eq_getElem j2)
            have e1' : its.toArray[j] = w1 := by
              rw [List.getElem?_eq_getElem q1] at e1
              simpa using e1
            have e2' : its2.toArray[j] = w2 := by
              rw [List.getElem?_eq_getElem q2] at e2
              simpa using e2
            rw [e1', e2']
            refine ih ?_ g1 g2 (he j x' y' hx' hy') g3 g4
            have := depths_mem hx'
            unfold depth at hn
            omega
      | @lst a2 vs2 ds2 h3 h4 =>
        cases h
        cases rv
        cases ru
        obtain ⟨its, r1, p1, _⟩ := I.tuple h1
        obtain ⟨its2, r2, p2, _⟩ := I.list h3
        exact .leaf fun A hu => SeqAt.EqAt.tuple_list p1 p2.isList (by omega)
      | dk h3 h4 => cases h
    | @lst a vs ds h1 h2 => cases hy with
      | any k1 k2 => rw [deq_any_r k1 k2] at h; cases h
      | non =>
        cases h
        cases rv
        cases ru
        obtain ⟨its, r1, p1, _⟩ := I.list h1
        exact .leaf fun A hu => SeqAt.EqAt.list_none p1.isList (by omega)
      | bl j =>
        cases h
        cases rv
        cases ru
        obtain ⟨its, r1, p1, _⟩ := I.list h1
        exact .leaf fun A hu => SeqAt.EqAt.list_bool _ p1.isList (by omega)
      | int j =>
        cases h
        cases rv
        obtain ⟨tr, rfl⟩ := (show ∃ t, _ = _ from ru)
        obtain ⟨its, r1, p1, _⟩ := I.list h1
        exact .leaf fun A hu => SeqAt.EqAt.list_int _ _ p1.isList (by omega)
      | str j =>
        cases h
        cases rv
        obtain ⟨tr, rfl⟩ := (show ∃ t, _ = _ from ru)
        obtain ⟨its, r1, p1, _⟩ := I.list h1
        exact .leaf fun A hu => SeqAt.EqAt.list_str _ _ p1.isList (by omega)
      | @tup a2 vs2 ds2 h3 h4 =>
        cases h
        cases rv
        cases ru
        obtain ⟨its, r1, p1, _⟩ := I.list h1
        obtain ⟨its2, r2, p2, _⟩ := I.tuple h3
        exact .leaf fun A hu => SeqAt.EqAt.list_tuple p1.isList p2 (by omega)
      | @lst a2 vs2 ds2 h3 h4 =>
        cases rv
        cases ru
        by_cases ea : a = a2
        · subst ea
          cases deep (.lst h3 h4) h
          exact .same
        obtain ⟨its, r1, p1, _⟩ := I.list h1
        obtain ⟨its2, r2, p2, _⟩ := I.list h3
        have l1 := r1.length
        have l2 := r2.length
        have l3 := h2.length
        have l4 := h4.length
        unfold deq at h
        by_cases el : ds.length = ds2.length
        · rw [if_pos el] at h
          obtain ⟨e, he, hr⟩ := deqs_some h
          have goal := PySem.W.EqTree.lists (n := n) (e := e) ea p1.isList p2.isList (by rw [List.size_toArray, List.size_toArray]; omega) (fun j q1 q2 => ?_) (prog := X.prog) (w := X.w)
          · rw [List.size_toArray, ← l1, l3] at goal
            rw [← el, Nat.min_self] at hr
            rw [hr]
            exact goal
          · rw [List.size_toArray] at q1 q2
            have j1 : j < vs.length := by omega
            have j2 : j < vs2.length := by omega
            obtain ⟨x', hx', g1⟩ := h2.at (List.getElem?_eq_getElem j1)
            obtain ⟨y', hy', g2⟩ := h4.at (List.getElem?_eq_getElem j2)
            obtain ⟨w1, e1, g3⟩ := r1.get (List.getElem?_eq_getElem j1)
            obtain ⟨w2, e2, g4⟩ := r2.get (List.getElem?_eq_getElem j2)
            have e1' : its.toArray[j] = w1 := by
              rw [List.getElem?_eq_getElem q1] at e1
              simpa using e1
            have e2' : its2.toArray[j] = w2 := by
              rw [List.getElem?_eq_getElem q2] at e2
              simpa using e2
            rw [e1', e2']
            refine ih ?_ g1 g2 (he j x' y' hx' hy') g3 g4
            have := depths_mem hx'
            unfold depth at hn
            omega
        · rw [if_neg el] at h
          cases h
          exact .listsLen ea p1.isList p2.isList (by rw [List.size_toArray, List.size_toArray, bne_iff_ne]; omega)
      | dk h3 h4 => cases h
    | @dk a kvs ds h1 h2 => cases hy with
      | any k1 k2 => rw [deq_any_r k1 k2] at h; cases h
      | @dk a2 kvs2 ds2 h3 h4 =>
        cases rv
        cases ru
        by_cases ea : a = a2
        · subst ea
          cases deep (.dk h3 h4) h
          exact .same
        have nd := dk_nodup I h1
        have nd2 : (ds.map (·.1)).Nodup := by rw [← h2.keys]; exact nd
        unfold deq at h
        cases hs : deqk ds ds2 with
        | none => rw [hs] at h; cases h
        | some r =>
          rw [hs] at h
          cases h
          obtain ⟨e, he, hr⟩ := deqk_some nd2 hs
          obtain ⟨_, y1, va, rela, da⟩ := dk_rd I.hok h1
          obtain ⟨_, y2, vb, relb, db⟩ := dk_rd I.hok h3
          have goal := PySem.W.EqTree.dicts (n := n) (e := e) ea y1 y2 da db (fun k w1 w2 hm hv => ?_) (prog := X.prog) (w := X.w)
          · have e1 : va.length = ds.length := by rw [← rela.length, h2.length]
            have e2 : vb.length = ds2.length := by rw [← relb.length, h4.length]
            have e3 : (va.all fun p => (valueAt vb p.1).isSome && e p.1) = ds.all fun p => (lk ds2 p.1).isSome && e p.1 := by
              have f1 : ∀ k, (valueAt vb k).isSome = (lk ds2 k).isSome := fun k => by
                rw [← (relb.val k).isSome_eq]
                obtain ⟨q1, q2⟩ := h4.lk k
                cases hv : valV kvs2 k with
                | none => rw [q2 hv]; rfl
                | some v => obtain ⟨d, hd, _⟩ := q1 v hv; rw [hd]; rfl
              have f2 : va.map (·.1) = ds.map (·.1) := by rw [← KV.keys rela, h2.keys]
              have f3 : ∀ {α : Type} (l : List (Key × α)), (l.all fun p => (lk ds2 p.1).isSome && e p.1) = (l.map (·.1)).all fun k => (lk ds2 k).isSome && e k := fun l => by rw [List.all_map]; rfl
              rw [f3 ds, ← f2, ← f3 va]
              exact all_mem fun p _ => by rw [f1]
            rw [e1, e2, e3, ← hr] at goal
            exact goal
          · have g1 : ∃ v1, (k, v1) ∈ kvs ∧ RelV v1 w1 := by
              have : ∀ {l : List (Key × V)} {m : List (Key × Value)}, KV l m → (k, w1) ∈ m → ∃ v1, (k, v1) ∈ l ∧ RelV v1 w1 := by
                intro l m q
                unfold KV at q
                induction q with
                | nil => intro h; cases h
                | @cons p q ps qs hh t ih2 =>
                  intro h
                  rcases List.mem_cons.mp h with e | h
                  · obtain ⟨p1, p2⟩ := p
                    subst e
                    obtain ⟨z1, z2⟩ := hh
                    have z1' : p1 = k := z1
                    subst z1'
                    exact ⟨p2, List.mem_cons_self, z2⟩
                  · obtain ⟨v1, z1, z2⟩ := ih2 h
                    exact ⟨v1, List.mem_cons_of_mem _ z1, z2⟩
              exact this rela hm
            obtain ⟨v1, m1, q1⟩ := g1
            obtain ⟨x', m2, q2⟩ := h2.at m1
            obtain ⟨v2, m3, q3⟩ := DL.RelO.of_some (by rw [← hv]; exact relb.val k)
            obtain ⟨y', m4, q4⟩ := (h4.lk k).1 v2 m3
            refine ih ?_ q2 q4 (he k x' y' m2 m4) q1 q3
            have := depthk_mem m2
            unfold depth at hn
            omega
      | _ => cases h
end
mutual
/-- no dict within -/
def noDk : D → Bool
  | .tup ds => noDks ds
  | .lst ds => noDks ds
  | .dk _ => false
  | _ => true
def noDks : List D → Bool
  | [] => true
  | d :: ds => noDk d && noDks ds
end
theorem noDks_mem : ∀ {ds : List D} {j : Nat} {d : D}, noDks ds = true → ds[j]? = some d → noDk d = true
  | [], _, _, _, h => by simp at h
  | x :: xs, 0, d, n, h => by
    simp at h
    subst h
    unfold noDks at n
    exact (Bool.and_eq_true_iff.mp n).1
  | x :: xs, j + 1, d, n, h => by
    unfold noDks at n
    exact noDks_mem (ds := xs) (j := j) (Bool.and_eq_true_iff.mp n).2 (by simpa using h)
section
variable {X : Cx} {pins : List (Addr × Obj)} {σ : St} {H : Hp} {s : Shared}
theorem hd_at (I : Inv X pins σ H s) : ∀ (n : Nat) {x y : D} {v u : V} {v' u' : Value} {b : Bool}, depth x < n → noDk x = true → Hd X.K H v x → Hd X.K H u y → deq x y = some b → RelV v v' → RelV u u' → ∀ A : Around, A.units + n < cLine → SeqAt.EqAt A s v' u' b := by
  intro n
  induction n with
  | zero => intro x y v u v' u' b h; exact absurd h (Nat.not_lt_zero _)
  | succ n ih =>
    intro x y v u v' u' b hn nd hx hy h rv ru A hu
    have deep := hd_same I (n + 1) (y := y) (b := b) hn hx
    cases hx with
    | any k1 k2 => rw [deq_any_l k1 k2] at h; cases h
    | dk h1 h2 => cases nd
    | non => cases hy with
      | any k1 k2 => rw [deq_any_r k1 k2] at h; cases h
      | dk h3 h4 => cases h
      | non =>
        cases h
        cases rv
        cases ru
        exact .same _
      | bl i2 =>
        cases h
        cases rv
        cases ru
        exact SeqAt.EqAt.none_bool _ 
      | int i2 =>
        cases h
        cases rv
        obtain ⟨tr, rfl⟩ := (show ∃ t, _ = _ from ru)
        exact SeqAt.EqAt.none_int _ _ 
      | str i2 =>
        cases h
        cases rv
        obtain ⟨tr, rfl⟩ := (show ∃ t, _ = _ from ru)
        exact SeqAt.EqAt.none_str _ _ 
      | @tup a2 vs2 ds2 h3 h4 =>
        cases h
        cases rv
        cases ru
        obtain ⟨its, r1, p1, _⟩ := I.tuple h3
        exact SeqAt.EqAt.none_tuple p1 (by omega)
      | @lst a2 vs2 ds2 h3 h4 =>
        cases h
        cases rv
        cases ru
        obtain ⟨its, r1, p1, _⟩ := I.list h3
        exact SeqAt.EqAt.none_list p1.isList (by omega)
    | bl i1 => cases hy with
      | any k1 k2 => rw [deq_any_r k1 k2] at h; cases h
      | dk h3 h4 => cases h
      | non =>
        cases h
        cases rv
        cases ru
        exact SeqAt.EqAt.bool_none _ 
      | bl i2 =>
        cases h
        cases rv
        cases ru
        exact SeqAt.EqAt.bool_bool _ _ 
      | int i2 =>
        cases h
        cases rv
        obtain ⟨tr, rfl⟩ := (show ∃ t, _ = _ from ru)
        exact SeqAt.EqAt.bool_int _ _ _ 
      | str i2 =>
        cases h
        cases rv
        obtain ⟨tr, rfl⟩ := (show ∃ t, _ = _ from ru)
        exact SeqAt.EqAt.bool_str _ _ _ 
      | @tup a2 vs2 ds2 h3 h4 =>
        cases h
        cases rv
        cases ru
        obtain ⟨its, r1, p1, _⟩ := I.tuple h3
        exact SeqAt.EqAt.bool_tuple _ p1 (by omega)
      | @lst a2 vs2 ds2 h3 h4 =>
        cases h
        cases rv
        cases ru
        obtain ⟨its, r1, p1, _⟩ := I.list h3
        exact SeqAt.EqAt.bool_list _ p1.isList (by omega)
    | int i1 => cases hy with
      | any k1 k2 => rw [deq_any_r k1 k2] at h; cases h
      | dk h3 h4 => cases h
      | non =>
        cases h
        obtain ⟨tl, rfl⟩ := (show ∃ t, _ = _ from rv)
        cases ru
        exact SeqAt.EqAt.int_none _ _ 
      | bl i2 =>
        cases h
        obtain ⟨tl, rfl⟩ := (show ∃ t, _ = _ from rv)
        cases ru
        exact SeqAt.EqAt.int_bool _ _ _ 
      | int i2 =>
        cases h
        obtain ⟨tl, rfl⟩ := (show ∃ t, _ = _ from rv)
        obtain ⟨tr, rfl⟩ := (show ∃ t, _ = _ from ru)
        exact SeqAt.EqAt.int_int _ _ _ _ 
      | str i2 =>
        cases h
        obtain ⟨tl, rfl⟩ := (show ∃ t, _ = _ from rv)
        obtain ⟨tr, rfl⟩ := (show ∃ t, _ = _ from ru)
        exact SeqAt.EqAt.int_str _ _ _ _ 
      | @tup a2 vs2 ds2 h3 h4 =>
        cases h
        obtain ⟨tl, rfl⟩ := (show ∃ t, _ = _ from rv)
        cases ru
        obtain ⟨its, r1, p1, _⟩ := I.tuple h3
        exact SeqAt.EqAt.int_tuple _ _ p1 (by omega)
      | @lst a2 vs2 ds2 h3 h4 =>
        cases h
        obtain ⟨tl, rfl⟩ := (show ∃ t, _ = _ from rv)
        cases ru
        obtain ⟨its, r1, p1, _⟩ := I.list h3
        exact SeqAt.EqAt.int_list _ _ p1.isList (by omega)
    | str i1 => cases hy with
      | any k1 k2 => rw [deq_any_r k1 k2] at h; cases h
      | dk h3 h4 => cases h
      | non =>
        cases h
        obtain ⟨tl, rfl⟩ := (show ∃ t, _ = _ from rv)
        cases ru
        exact SeqAt.EqAt.str_none _ _ 
      | bl i2 =>
        cases h
        obtain ⟨tl, rfl⟩ := (show ∃ t, _ = _ from rv)
        cases ru
        exact SeqAt.EqAt.str_bool _ _ _ 
      | int i2 =>
        cases h
        obtain ⟨tl, rfl⟩ := (show ∃ t, _ = _ from rv)
        obtain ⟨tr, rfl⟩ := (show ∃ t, _ = _ from ru)
        exact SeqAt.EqAt.str_int _ _ _ _ 
      | str i2 =>
        cases h
        obtain ⟨tl, rfl⟩ := (show ∃ t, _ = _ from rv)
        obtain ⟨tr, rfl⟩ := (show ∃ t, _ = _ from ru)
        exact SeqAt.EqAt.str_str _ _ _ _ 
      | @tup a2 vs2 ds2 h3 h4 =>
        cases h
        obtain ⟨tl, rfl⟩ := (show ∃ t, _ = _ from rv)
        cases ru
        obtain ⟨its, r1, p1, _⟩ := I.tuple h3
        exact SeqAt.EqAt.str_tuple _ _ p1 (by omega)
      | @lst a2 vs2 ds2 h3 h4 =>
        cases h
        obtain ⟨tl, rfl⟩ := (show ∃ t, _ = _ from rv)
        cases ru
        obtain ⟨its, r1, p1, _⟩ := I.list h3
        exact SeqAt.EqAt.str_list _ _ p1.isList (by omega)
    | @tup a1 vs1 ds1 h1 h2 => cases hy with
      | any k1 k2 => rw [deq_any_r k1 k2] at h; cases h
      | dk h3 h4 => cases h
      | non =>
        cases h
        cases rv
        cases ru
        obtain ⟨its, r1, p1, _⟩ := I.tuple h1
        exact SeqAt.EqAt.tuple_none p1 (by omega)
      | bl i2 =>
        cases h
        cases rv
        cases ru
        obtain ⟨its, r1, p1, _⟩ := I.tuple h1
        exact SeqAt.EqAt.tuple_bool _ p1 (by omega)
      | int i2 =>
        cases h
        cases rv
        obtain ⟨tr, rfl⟩ := (show ∃ t, _ = _ from ru)
        obtain ⟨its, r1, p1, _⟩ := I.tuple h1
        exact SeqAt.EqAt.tuple_int _ _ p1 (by omega)
      | str i2 =>
        cases h
        cases rv
        obtain ⟨tr, rfl⟩ := (show ∃ t, _ = _ from ru)
        obtain ⟨its, r1, p1, _⟩ := I.tuple h1
        exact SeqAt.EqAt.tuple_str _ _ p1 (by omega)
      | @tup a2 vs2 ds2 h3 h4 =>
        cases rv
        cases ru
        by_cases ea : a1 = a2
        · subst ea
          cases deep (.tup h3 h4) h
          exact .same _
        obtain ⟨its, r1, p1, _⟩ := I.tuple h1
        obtain ⟨its2, r2, p2, _⟩ := I.tuple h3
        have l1 := r1.length
        have l2 := r2.length
        have l3 := h2.length
        have l4 := h4.length
        unfold deq at h
        cases hs : deqs ds1 ds2 with
        | none => rw [hs] at h; cases h
        | some r =>
          rw [hs] at h
          cases h
          obtain ⟨e, he, hr⟩ := deqs_some hs
          have goal := SeqAt.RcAt.tuples (A := A) (s := s) (e := e) p1 p2 (by omega) (fun j q1 q2 => ?_)
          · rw [List.size_toArray, List.size_toArray, ← l1, ← l2, l3, l4, ← hr] at goal
            exact .of_refs ea goal
          · rw [List.size_toArray] at q1 q2
            have j1 : j < vs1.length := by omega
            have j2 : j < vs2.length := by omega
            obtain ⟨x', hx', g1⟩ := h2.at (List.getElem?_eq_getElem j1)
            obtain ⟨y', hy', g2⟩ := h4.at (List.getElem?_eq_getElem j2)
            obtain ⟨w1, e1, g3⟩ := r1.get (List.getElem?_eq_getElem j1)
            obtain ⟨w2, e2, g4⟩ := r2.get (List.getElem?_eq_getElem j2)
            have e1' : its.toArray[j] = w1 := by
              rw [List.getElem?_eq_getElem q1] at e1
              simpa using e1
            have e2' : its2.toArray[j] = w2 := by
              rw [List.getElem?_eq_getElem q2] at e2
              simpa using e2
            rw [e1', e2']
            have hdep := depths_mem hx'
            unfold depth at hn
            exact ih (by omega) (by have := nd; unfold noDk at this; exact noDks_mem this hx') g1 g2 (he j x' y' hx' hy') g3 g4 A.in1 (by show A.units + 1 + n < cLine; omega)
      | @lst a2 vs2 ds2 h3 h4 =>
        cases h
        cases rv
        cases ru
        obtain ⟨its, r1, p1, _⟩ := I.tuple h1
        obtain ⟨its2, r2, p2, _⟩ := I.list h3
        exact SeqAt.EqAt.tuple_list p1 p2.isList (by omega)
    | @lst a1 vs1 ds1 h1 h2 => cases hy with
      | any k1 k2 => rw [deq_any_r k1 k2] at h; cases h
      | dk h3 h4 => cases h
      | non =>
        cases h
        cases rv
        cases ru
        obtain ⟨its, r1, p1, _⟩ := I.list h1
        exact SeqAt.EqAt.list_none p1.isList (by omega)
      | bl i2 =>
        cases h
        cases rv
        cases ru
        obtain ⟨its, r1, p1, _⟩ := I.list h1
        exact SeqAt.EqAt.list_bool _ p1.isList (by omega)
      | int i2 =>
        cases h
        cases rv
        obtain ⟨tr, rfl⟩ := (show ∃ t, _ = _ from ru)
        obtain ⟨its, r1, p1, _⟩ := I.list h1
        exact SeqAt.EqAt.list_int _ _ p1.isList (by omega)
      | str i2 =>
        cases h
        cases rv
        obtain ⟨tr, rfl⟩ := (show ∃ t, _ = _ from ru)
        obtain ⟨its, r1, p1, _⟩ := I.list h1
        exact SeqAt.EqAt.list_str _ _ p1.isList (by omega)
      | @tup a2 vs2 ds2 h3 h4 =>
        cases h
        cases rv
        cases ru
        obtain ⟨its, r1, p1, _⟩ := I.list h1
        obtain ⟨its2, r2, p2, _⟩ := I.tuple h3
        exact SeqAt.EqAt.list_tuple p1.isList p2 (by omega)
      | @lst a2 vs2 ds2 h3 h4 =>
        cases rv
        cases ru
        by_cases ea : a1 = a2
        · subst ea
          cases deep (.lst h3 h4) h
          exact .same _
        obtain ⟨its, r1, p1, _⟩ := I.list h1
        obtain ⟨its2, r2, p2, _⟩ := I.list h3
        have l1 := r1.length
        have l2 := r2.length
        have l3 := h2.length
        have l4 := h4.length
        unfold deq at h
        by_cases el : ds1.length = ds2.length
        · rw [if_pos el] at h
          obtain ⟨e, he, hr⟩ := deqs_some h
          have goal := SeqAt.RcAt.lists (A := A) (s := s) (e := e) p1.isList p2.isList (by rw [List.size_toArray, List.size_toArray]; omega) (by omega) (fun j q1 q2 => ?_)
          · rw [List.size_toArray, ← l1, l3] at goal
            rw [← el, Nat.min_self] at hr
            rw [hr]
            exact .of_refs ea goal
          · rw [List.size_toArray] at q1 q2
            have j1 : j < vs1.length := by omega
            have j2 : j < vs2.length := by omega
            obtain ⟨x', hx', g1⟩ := h2.at (List.getElem?_eq_getElem j1)
            obtain ⟨y', hy', g2⟩ := h4.at (List.getElem?_eq_getElem j2)
            obtain ⟨w1, e1, g3⟩ := r1.get (List.getElem?_eq_getElem j1)
            obtain ⟨w2, e2, g4⟩ := r2.get (List.getElem?_eq_getElem j2)
            have e1' : its.toArray[j] = w1 := by
              rw [List.getElem?_eq_getElem q1] at e1
              simpa using e1
            have e2' : its2.toArray[j] = w2 := by
              rw [List.getElem?_eq_getElem q2] at e2
              simpa using e2
            rw [e1', e2']
            have hdep := depths_mem hx'
            unfold depth at hn
            exact ih (by omega) (by have := nd; unfold noDk at this; exact noDks_mem this hx') g1 g2 (he j x' y' hx' hy') g3 g4 A.in1 (by show A.units + 1 + n < cLine; omega)
        · rw [if_neg el] at h
          cases h
          exact .of_refs ea (SeqAt.RcAt.lists_lengths p1.isList p2.isList (by rw [List.size_toArray, List.size_toArray, bne_iff_ne]; omega) (by omega))
theorem hd_rc (I : Inv X pins σ H s) (n : Nat) {x y : D} {v u : V} {v' u' : Value} {b : Bool} (hn : depth x < n + 1) (nd : noDk x = true) (hx : Hd X.K H v x) (hy : Hd X.K H u y) (h : deq x y = some b) (rv : RelV v v') (ru : RelV u u') (A : Around) (hu : A.units + (n + 1) < cLine) : SeqAt.RcAt A s v' u' b := by
    cases hx with
    | any k1 k2 => rw [deq_any_l k1 k2] at h; cases h
    | dk h1 h2 => cases nd
    | non => cases hy with
      | any k1 k2 => rw [deq_any_r k1 k2] at h; cases h
      | dk h3 h4 => cases h
      | non =>
        cases h
        cases rv
        cases ru
        exact SeqAt.RcAt.none_none
      | bl i2 =>
        cases h
        cases rv
        cases ru
        exact SeqAt.RcAt.none_bool _ 
      | int i2 =>
        cases h
        cases rv
        obtain ⟨tr, rfl⟩ := (show ∃ t, _ = _ from ru)
        exact SeqAt.RcAt.none_int _ _ 
      | str i2 =>
        cases h
        cases rv
        obtain ⟨tr, rfl⟩ := (show ∃ t, _ = _ from ru)
        exact SeqAt.RcAt.none_str _ _ 
      | @tup a2 vs2 ds2 h3 h4 =>
        cases h
        cases rv
        cases ru
        obtain ⟨its, r1, p1, _⟩ := I.tuple h3
        exact SeqAt.RcAt.none_tuple p1 (by omega)
      | @lst a2 vs2 ds2 h3 h4 =>
        cases h
        cases rv
        cases ru
        obtain ⟨its, r1, p1, _⟩ := I.list h3
        exact SeqAt.RcAt.none_list p1.isList (by omega)
    | bl i1 => cases hy with
      | any k1 k2 => rw [deq_any_r k1 k2] at h; cases h
      | dk h3 h4 => cases h
      | non =>
        cases h
        cases rv
        cases ru
        exact SeqAt.RcAt.bool_none _ 
      | bl i2 =>
        cases h
        cases rv
        cases ru
        exact SeqAt.RcAt.bool_bool _ _ 
      | int i2 =>
        cases h
        cases rv
        obtain ⟨tr, rfl⟩ := (show ∃ t, _ = _ from ru)
        exact SeqAt.RcAt.bool_int _ _ _ 
      | str i2 =>
        cases h
        cases rv
        obtain ⟨tr, rfl⟩ := (show ∃ t, _ = _ from ru)
        exact SeqAt.RcAt.bool_str _ _ _ 
      | @tup a2 vs2 ds2 h3 h4 =>
        cases h
        cases rv
        cases ru
        obtain ⟨its, r1, p1, _⟩ := I.tuple h3
        exact SeqAt.RcAt.bool_tuple _ p1 (by omega)
      | @lst a2 vs2 ds2 h3 h4 =>
        cases h
        cases rv
        cases ru
        obtain ⟨its, r1, p1, _⟩ := I.list h3
        exact SeqAt.RcAt.bool_list _ p1.isList (by omega)
    | int i1 => cases hy with
      | any k1 k2 => rw [deq_any_r k1 k2] at h; cases h
      | dk h3 h4 => cases h
      | non =>
        cases h
        obtain ⟨tl, rfl⟩ := (show ∃ t, _ = _ from rv)
        cases ru
        exact SeqAt.RcAt.int_none _ _ 
      | bl i2 =>
        cases h
        obtain ⟨tl, rfl⟩ := (show ∃ t, _ = _ from rv)
        cases ru
        exact SeqAt.RcAt.int_bool _ _ _ 
      | int i2 =>
        cases h
        obtain ⟨tl, rfl⟩ := (show ∃ t, _ = _ from rv)
        obtain ⟨tr, rfl⟩ := (show ∃ t, _ = _ from ru)
        exact SeqAt.RcAt.int_int _ _ _ _ 
      | str i2 =>
        cases h
        obtain ⟨tl, rfl⟩ := (show ∃ t, _ = _ from rv)
        obtain ⟨tr, rfl⟩ := (show ∃ t, _ = _ from ru)
        exact SeqAt.RcAt.int_str _ _ _ _ 
      | @tup a2 vs2 ds2 h3 h4 =>
        cases h
        obtain ⟨tl, rfl⟩ := (show ∃ t, _ = _ from rv)
        cases ru
        obtain ⟨its, r1, p1, _⟩ := I.tuple h3
        exact SeqAt.RcAt.int_tuple _ _ p1 (by omega)
      | @lst a2 vs2 ds2 h3 h4 =>
        cases h
        obtain ⟨tl, rfl⟩ := (show ∃ t, _ = _ from rv)
        cases ru
        obtain ⟨its, r1, p1, _⟩ := I.list h3
        exact SeqAt.RcAt.int_list _ _ p1.isList (by omega)
    | str i1 => cases hy with
      | any k1 k2 => rw [deq_any_r k1 k2] at h; cases h
      | dk h3 h4 => cases h
      | non =>
        cases h
        obtain ⟨tl, rfl⟩ := (show ∃ t, _ = _ from rv)
        cases ru
        exact SeqAt.RcAt.str_none _ _ 
      | bl i2 =>
        cases h
        obtain ⟨tl, rfl⟩ := (show ∃ t, _ = _ from rv)
        cases ru
        exact SeqAt.RcAt.str_bool _ _ _ 
      | int i2 =>
        cases h
        obtain ⟨tl, rfl⟩ := (show ∃ t, _ = _ from rv)
        obtain ⟨tr, rfl⟩ := (show ∃ t, _ = _ from ru)
        exact SeqAt.RcAt.str_int _ _ _ _ 
      | str i2 =>
        cases h
        obtain ⟨tl, rfl⟩ := (show ∃ t, _ = _ from rv)
        obtain ⟨tr, rfl⟩ := (show ∃ t, _ = _ from ru)
        exact SeqAt.RcAt.str_str _ _ _ _ 
      | @tup a2 vs2 ds2 h3 h4 =>
        cases h
        obtain ⟨tl, rfl⟩ := (show ∃ t, _ = _ from rv)
        cases ru
        obtain ⟨its, r1, p1, _⟩ := I.tuple h3
        exact SeqAt.RcAt.str_tuple _ _ p1 (by omega)
      | @lst a2 vs2 ds2 h3 h4 =>
        cases h
        obtain ⟨tl, rfl⟩ := (show ∃ t, _ = _ from rv)
        cases ru
        obtain ⟨its, r1, p1, _⟩ := I.list h3
        exact SeqAt.RcAt.str_list _ _ p1.isList (by omega)
    | @tup a1 vs1 ds1 h1 h2 => cases hy with
      | any k1 k2 => rw [deq_any_r k1 k2] at h; cases h
      | dk h3 h4 => cases h
      | non =>
        cases h
        cases rv
        cases ru
        obtain ⟨its, r1, p1, _⟩ := I.tuple h1
        exact SeqAt.RcAt.tuple_none p1 (by omega)
      | bl i2 =>
        cases h
        cases rv
        cases ru
        obtain ⟨its, r1, p1, _⟩ := I.tuple h1
        exact SeqAt.RcAt.tuple_bool _ p1 (by omega)
      | int i2 =>
        cases h
        cases rv
        obtain ⟨tr, rfl⟩ := (show ∃ t, _ = _ from ru)
        obtain ⟨its, r1, p1, _⟩ := I.tuple h1
        exact SeqAt.RcAt.tuple_int _ _ p1 (by omega)
      | str i2 =>
        cases h
        cases rv
        obtain ⟨tr, rfl⟩ := (show ∃ t, _ = _ from ru)
        obtain ⟨its, r1, p1, _⟩ := I.tuple h1
        exact SeqAt.RcAt.tuple_str _ _ p1 (by omega)
      | @tup a2 vs2 ds2 h3 h4 =>
        cases rv
        cases ru
        obtain ⟨its, r1, p1, _⟩ := I.tuple h1
        obtain ⟨its2, r2, p2, _⟩ := I.tuple h3
        have l1 := r1.length
        have l2 := r2.length
        have l3 := h2.length
        have l4 := h4.length
        unfold deq at h
        cases hs : deqs ds1 ds2 with
        | none => rw [hs] at h; cases h
        | some r =>
          rw [hs] at h
          cases h
          obtain ⟨e, he, hr⟩ := deqs_some hs
          have goal := SeqAt.RcAt.tuples (A := A) (s := s) (e := e) p1 p2 (by omega) (fun j q1 q2 => ?_)
          · rw [List.size_toArray, List.size_toArray, ← l1, ← l2, l3, l4, ← hr] at goal
            exact goal
          · rw [List.size_toArray] at q1 q2
            have j1 : j < vs1.length := by omega
            have j2 : j < vs2.length := by omega
            obtain ⟨x', hx', g1⟩ := h2.at (List.getElem?_eq_getElem j1)
            obtain ⟨y', hy', g2⟩ := h4.at (List.getElem?_eq_getElem j2)
            obtain ⟨w1, e1, g3⟩ := r1.get (List.getElem?_eq_getElem j1)
            obtain ⟨w2, e2, g4⟩ := r2.get (List.getElem?_eq_getElem j2)
            have e1' : its.toArray[j] = w1 := by
              rw [List.getElem?_eq_getElem q1] at e1
              simpa using e1
            have e2' : its2.toArray[j] = w2 := by
              rw [List.getElem?_eq_getElem q2] at e2
              simpa using e2
            rw [e1', e2']
            have hdep := depths_mem hx'
            unfold depth at hn
            exact hd_at I n (by omega) (by have := nd; unfold noDk at this; exact noDks_mem this hx') g1 g2 (he j x' y' hx' hy') g3 g4 A.in1 (by show A.units + 1 + n < cLine; omega)
      | @lst a2 vs2 ds2 h3 h4 =>
        cases h
        cases rv
        cases ru
        obtain ⟨its, r1, p1, _⟩ := I.tuple h1
        obtain ⟨its2, r2, p2, _⟩ := I.list h3
        exact SeqAt.RcAt.tuple_list p1 p2.isList (by omega)
    | @lst a1 vs1 ds1 h1 h2 => cases hy with
      | any k1 k2 => rw [deq_any_r k1 k2] at h; cases h
      | dk h3 h4 => cases h
      | non =>
        cases h
        cases rv
        cases ru
        obtain ⟨its, r1, p1, _⟩ := I.list h1
        exact SeqAt.RcAt.list_none p1.isList (by omega)
      | bl i2 =>
        cases h
        cases rv
        cases ru
        obtain ⟨its, r1, p1, _⟩ := I.list h1
        exact SeqAt.RcAt.list_bool _ p1.isList (by omega)
      | int i2 =>
        cases h
        cases rv
        obtain ⟨tr, rfl⟩ := (show ∃ t, _ = _ from ru)
        obtain ⟨its, r1, p1, _⟩ := I.list h1
        exact SeqAt.RcAt.list_int _ _ p1.isList (by omega)
      | str i2 =>
        cases h
        cases rv
        obtain ⟨tr, rfl⟩ := (show ∃ t, _ = _ from ru)
        obtain ⟨its, r1, p1, _⟩ := I.list h1
        exact SeqAt.RcAt.list_str _ _ p1.isList (by omega)
      | @tup a2 vs2 ds2 h3 h4 =>
        cases h
        cases rv
        cases ru
        obtain ⟨its, r1, p1, _⟩ := I.list h1
        obtain ⟨its2, r2, p2, _⟩ := I.tuple h3
        exact SeqAt.RcAt.list_tuple p1.isList p2 (by omega)
      | @lst a2 vs2 ds2 h3 h4 =>
        cases rv
        cases ru
        obtain ⟨its, r1, p1, _⟩ := I.list h1
        obtain ⟨its2, r2, p2, _⟩ := I.list h3
        have l1 := r1.length
        have l2 := r2.length
        have l3 := h2.length
        have l4 := h4.length
        unfold deq at h
        by_cases el : ds1.length = ds2.length
        · rw [if_pos el] at h
          obtain ⟨e, he, hr⟩ := deqs_some h
          have goal := SeqAt.RcAt.lists (A := A) (s := s) (e := e) p1.isList p2.isList (by rw [List.size_toArray, List.size_toArray]; omega) (by omega) (fun j q1 q2 => ?_)
          · rw [List.size_toArray, ← l1, l3] at goal
            rw [← el, Nat.min_self] at hr
            rw [hr]
            exact goal
          · rw [List.size_toArray] at q1 q2
            have j1 : j < vs1.length := by omega
            have j2 : j < vs2.length := by omega
            obtain ⟨x', hx', g1⟩ := h2.at (List.getElem?_eq_getElem j1)
            obtain ⟨y', hy', g2⟩ := h4.at (List.getElem?_eq_getElem j2)
            obtain ⟨w1, e1, g3⟩ := r1.get (List.getElem?_eq_getElem j1)
            obtain ⟨w2, e2, g4⟩ := r2.get (List.getElem?_eq_getElem j2)
            have e1' : its.toArray[j] = w1 := by
              rw [List.getElem?_eq_getElem q1] at e1
              simpa using e1
            have e2' : its2.toArray[j] = w2 := by
              rw [List.getElem?_eq_getElem q2] at e2
              simpa using e2
            rw [e1', e2']
            have hdep := depths_mem hx'
            unfold depth at hn
            exact hd_at I n (by omega) (by have := nd; unfold noDk at this; exact noDks_mem this hx') g1 g2 (he j x' y' hx' hy') g3 g4 A.in1 (by show A.units + 1 + n < cLine; omega)
        · rw [if_neg el] at h
          cases h
          exact SeqAt.RcAt.lists_lengths p1.isList p2.isList (by rw [List.size_toArray, List.size_toArray, bne_iff_ne]; omega) (by omega)
theorem hd_ne (I : Inv X pins σ H s) (n : Nat) {x y : D} {v u : V} {v' u' : Value} {b : Bool} (hn : depth x < n + 1) (nd : noDk x = true) (hx : Hd X.K H v x) (hy : Hd X.K H u y) (h : deq x y = some b) (rv : RelV v v') (ru : RelV u u') (A : Around) (hu : A.units + (n + 1) < cLine) : SeqAt.RcNeAt A s v' u' (!b) := by
    cases hx with
    | any k1 k2 => rw [deq_any_l k1 k2] at h; cases h
    | dk h1 h2 => cases nd
    | non => cases hy with
      | any k1 k2 => rw [deq_any_r k1 k2] at h; cases h
      | dk h3 h4 => cases h
      | non =>
        cases h
        cases rv
        cases ru
        exact SeqAt.RcNeAt.none_none
      | bl i2 =>
        cases h
        cases rv
        cases ru
        exact SeqAt.RcNeAt.none_bool _ 
      | int i2 =>
        cases h
        cases rv
        obtain ⟨tr, rfl⟩ := (show ∃ t, _ = _ from ru)
        exact SeqAt.RcNeAt.none_int _ _ 
      | str i2 =>
        cases h
        cases rv
        obtain ⟨tr, rfl⟩ := (show ∃ t, _ = _ from ru)
        exact SeqAt.RcNeAt.none_str _ _ 
      | @tup a2 vs2 ds2 h3 h4 =>
        cases h
        cases rv
        cases ru
        obtain ⟨its, r1, p1, _⟩ := I.tuple h3
        exact SeqAt.RcNeAt.none_tuple p1 (by omega)
      | @lst a2 vs2 ds2 h3 h4 =>
        cases h
        cases rv
        cases ru
        obtain ⟨its, r1, p1, _⟩ := I.list h3
        exact SeqAt.RcNeAt.none_list p1.isList (by omega)
    | bl i1 => cases hy with
      | any k1 k2 => rw [deq_any_r k1 k2] at h; cases h
      | dk h3 h4 => cases h
      | non =>
        cases h
        cases rv
        cases ru
        exact SeqAt.RcNeAt.bool_none _ 
      | bl i2 =>
        cases h
        cases rv
        cases ru
        exact SeqAt.RcNeAt.bool_bool _ _ 
      | int i2 =>
        cases h
        cases rv
        obtain ⟨tr, rfl⟩ := (show ∃ t, _ = _ from ru)
        exact SeqAt.RcNeAt.bool_int _ _ _ 
      | str i2 =>
        cases h
        cases rv
        obtain ⟨tr, rfl⟩ := (show ∃ t, _ = _ from ru)
        exact SeqAt.RcNeAt.bool_str _ _ _ 
      | @tup a2 vs2 ds2 h3 h4 =>
        cases h
        cases rv
        cases ru
        obtain ⟨its, r1, p1, _⟩ := I.tuple h3
        exact SeqAt.RcNeAt.bool_tuple _ p1 (by omega)
      | @lst a2 vs2 ds2 h3 h4 =>
        cases h
        cases rv
        cases ru
        obtain ⟨its, r1, p1, _⟩ := I.list h3
        exact SeqAt.RcNeAt.bool_list _ p1.isList (by omega)
    | int i1 => cases hy with
      | any k1 k2 => rw [deq_any_r k1 k2] at h; cases h
      | dk h3 h4 => cases h
      | non =>
        cases h
        obtain ⟨tl, rfl⟩ := (show ∃ t, _ = _ from rv)
        cases ru
        exact SeqAt.RcNeAt.int_none _ _ 
      | bl i2 =>
        cases h
        obtain ⟨tl, rfl⟩ := (show ∃ t, _ = _ from rv)
        cases ru
        exact SeqAt.RcNeAt.int_bool _ _ _ 
      | int i2 =>
        cases h
        obtain ⟨tl, rfl⟩ := (show ∃ t, _ = _ from rv)
        obtain ⟨tr, rfl⟩ := (show ∃ t, _ = _ from ru)
        exact SeqAt.RcNeAt.int_int _ _ _ _ 
      | str i2 =>
        cases h
        obtain ⟨tl, rfl⟩ := (show ∃ t, _ = _ from rv)
        obtain ⟨tr, rfl⟩ := (show ∃ t, _ = _ from ru)
        exact SeqAt.RcNeAt.int_str _ _ _ _ 
      | @tup a2 vs2 ds2 h3 h4 =>
        cases h
        obtain ⟨tl, rfl⟩ := (show ∃ t, _ = _ from rv)
        cases ru
        obtain ⟨its, r1, p1, _⟩ := I.tuple h3
        exact SeqAt.RcNeAt.int_tuple _ _ p1 (by omega)
      | @lst a2 vs2 ds2 h3 h4 =>
        cases h
        obtain ⟨tl, rfl⟩ := (show ∃ t, _ = _ from rv)
        cases ru
        obtain ⟨its, r1, p1, _⟩ := I.list h3
        exact SeqAt.RcNeAt.int_list _ _ p1.isList (by omega)
    | str i1 => cases hy with
      | any k1 k2 => rw [deq_any_r k1 k2] at h; cases h
      | dk h3 h4 => cases h
      | non =>
        cases h
        obtain ⟨tl, rfl⟩ := (show ∃ t, _ = _ from rv)
        cases ru
        exact SeqAt.RcNeAt.str_none _ _ 
      | bl i2 =>
        cases h
        obtain ⟨tl, rfl⟩ := (show ∃ t, _ = _ from rv)
        cases ru
        exact SeqAt.RcNeAt.str_bool _ _ _ 
      | int i2 =>
        cases h
        obtain ⟨tl, rfl⟩ := (show ∃ t, _ = _ from rv)
        obtain ⟨tr, rfl⟩ := (show ∃ t, _ = _ from ru)
        exact SeqAt.RcNeAt.str_int _ _ _ _ 
      | str i2 =>
        cases h
        obtain ⟨tl, rfl⟩ := (show ∃ t, _ = _ from rv)
        obtain ⟨tr, rfl⟩ := (show ∃ t, _ = _ from ru)
        exact SeqAt.RcNeAt.str_str _ _ _ _ 
      | @tup a2 vs2 ds2 h3 h4 =>
        cases h
        obtain ⟨tl, rfl⟩ := (show ∃ t, _ = _ from rv)
        cases ru
        obtain ⟨its, r1, p1, _⟩ := I.tuple h3
        exact SeqAt.RcNeAt.str_tuple _ _ p1 (by omega)
      | @lst a2 vs2 ds2 h3 h4 =>
        cases h
        obtain ⟨tl, rfl⟩ := (show ∃ t, _ = _ from rv)
        cases ru
        obtain ⟨its, r1, p1, _⟩ := I.list h3
        exact SeqAt.RcNeAt.str_list _ _ p1.isList (by omega)
    | @tup a1 vs1 ds1 h1 h2 => cases hy with
      | any k1 k2 => rw [deq_any_r k1 k2] at h; cases h
      | dk h3 h4 => cases h
      | non =>
        cases h
        cases rv
        cases ru
        obtain ⟨its, r1, p1, _⟩ := I.tuple h1
        exact SeqAt.RcNeAt.tuple_none p1 (by omega)
      | bl i2 =>
        cases h
        cases rv
        cases ru
        obtain ⟨its, r1, p1, _⟩ := I.tuple h1
        exact SeqAt.RcNeAt.tuple_bool _ p1 (by omega)
      | int i2 =>
        cases h
        cases rv
        obtain ⟨tr, rfl⟩ := (show ∃ t, _ = _ from ru)
        obtain ⟨its, r1, p1, _⟩ := I.tuple h1
        exact SeqAt.RcNeAt.tuple_int _ _ p1 (by omega)
      | str i2 =>
        cases h
        cases rv
        obtain ⟨tr, rfl⟩ := (show ∃ t, _ = _ from ru)
        obtain ⟨its, r1, p1, _⟩ := I.tuple h1
        exact SeqAt.RcNeAt.tuple_str _ _ p1 (by omega)
      | @tup a2 vs2 ds2 h3 h4 =>
        cases rv
        cases ru
        obtain ⟨its, r1, p1, _⟩ := I.tuple h1
        obtain ⟨its2, r2, p2, _⟩ := I.tuple h3
        have l1 := r1.length
        have l2 := r2.length
        have l3 := h2.length
        have l4 := h4.length
        unfold deq at h
        cases hs : deqs ds1 ds2 with
        | none => rw [hs] at h; cases h
        | some r =>
          rw [hs] at h
          cases h
          obtain ⟨e, he, hr⟩ := deqs_some hs
          have goal := SeqAt.RcNeAt.tuples (A := A) (s := s) (e := e) p1 p2 (by omega) (fun j q1 q2 => ?_)
          · rw [List.size_toArray, List.size_toArray, ← l1, ← l2, l3, l4, ← hr] at goal
            exact goal
          · rw [List.size_toArray] at q1 q2
            have j1 : j < vs1.length := by omega
            have j2 : j < vs2.length := by omega
            obtain ⟨x', hx', g1⟩ := h2.at (List.getElem?_eq_getElem j1)
            obtain ⟨y', hy', g2⟩ := h4.at (List.getElem?_eq_getElem j2)
            obtain ⟨w1, e1, g3⟩ := r1.get (List.getElem?_eq_getElem j1)
            obtain ⟨w2, e2, g4⟩ := r2.get (List.getElem?_eq_getElem j2)
            have e1' : its.toArray[j] = w1 := by
              rw [List.getElem?_eq_getElem q1] at e1
              simpa using e1
            have e2' : its2.toArray[j] = w2 := by
              rw [List.getElem?_eq_getElem q2] at e2
              simpa using e2
            rw [e1', e2']
            have hdep := depths_mem hx'
            unfold depth at hn
            exact hd_at I n (by omega) (by have := nd; unfold noDk at this; exact noDks_mem this hx') g1 g2 (he j x' y' hx' hy') g3 g4 A.in1 (by show A.units + 1 + n < cLine; omega)
      | @lst a2 vs2 ds2 h3 h4 =>
        cases h
        cases rv
        cases ru
        obtain ⟨its, r1, p1, _⟩ := I.tuple h1
        obtain ⟨its2, r2, p2, _⟩ := I.list h3
        exact SeqAt.RcNeAt.tuple_list p1 p2.isList (by omega)
    | @lst a1 vs1 ds1 h1 h2 => cases hy with
      | any k1 k2 => rw [deq_any_r k1 k2] at h; cases h
      | dk h3 h4 => cases h
      | non =>
        cases h
        cases rv
        cases ru
        obtain ⟨its, r1, p1, _⟩ := I.list h1
        exact SeqAt.RcNeAt.list_none p1.isList (by omega)
      | bl i2 =>
        cases h
        cases rv
        cases ru
        obtain ⟨its, r1, p1, _⟩ := I.list h1
        exact SeqAt.RcNeAt.list_bool _ p1.isList (by omega)
      | int i2 =>
        cases h
        cases rv
        obtain ⟨tr, rfl⟩ := (show ∃ t, _ = _ from ru)
        obtain ⟨its, r1, p1, _⟩ := I.list h1
        exact SeqAt.RcNeAt.list_int _ _ p1.isList (by omega)
      | str i2 =>
        cases h
        cases rv
        obtain ⟨tr, rfl⟩ := (show ∃ t, _ = _ from ru)
        obtain ⟨its, r1, p1, _⟩ := I.list h1
        exact SeqAt.RcNeAt.list_str _ _ p1.isList (by omega)
      | @tup a2 vs2 ds2 h3 h4 =>
        cases h
        cases rv
        cases ru
        obtain ⟨its, r1, p1, _⟩ := I.list h1
        obtain ⟨its2, r2, p2, _⟩ := I.tuple h3
        exact SeqAt.RcNeAt.list_tuple p1.isList p2 (by omega)
      | @lst a2 vs2 ds2 h3 h4 =>
        cases rv
        cases ru
        obtain ⟨its, r1, p1, _⟩ := I.list h1
        obtain ⟨its2, r2, p2, _⟩ := I.list h3
        have l1 := r1.length
        have l2 := r2.length
        have l3 := h2.length
        have l4 := h4.length
        unfold deq at h
        by_cases el : ds1.length = ds2.length
        · rw [if_pos el] at h
          obtain ⟨e, he, hr⟩ := deqs_some h
          have goal := SeqAt.RcNeAt.lists (A := A) (s := s) (e := e) p1.isList p2.isList (by rw [List.size_toArray, List.size_toArray]; omega) (by omega) (fun j q1 q2 => ?_)
          · rw [List.size_toArray, ← l1, l3] at goal
            rw [← el, Nat.min_self] at hr
            rw [hr]
            exact goal
          · rw [List.size_toArray] at q1 q2
            have j1 : j < vs1.length := by omega
            have j2 : j < vs2.length := by omega
            obtain ⟨x', hx', g1⟩ := h2.at (List.getElem?_eq_getElem j1)
            obtain ⟨y', hy', g2⟩ := h4.at (List.getElem?_eq_getElem j2)
            obtain ⟨w1, e1, g3⟩ := r1.get (List.getElem?_eq_getElem j1)
            obtain ⟨w2, e2, g4⟩ := r2.get (List.getElem?_eq_getElem j2)
            have e1' : its.toArray[j] = w1 := by
              rw [List.getElem?_eq_getElem q1] at e1
              simpa using e1
            have e2' : its2.toArray[j] = w2 := by
              rw [List.getElem?_eq_getElem q2] at e2
              simpa using e2
            rw [e1', e2']
            have hdep := depths_mem hx'
            unfold depth at hn
            exact hd_at I n (by omega) (by have := nd; unfold noDk at this; exact noDks_mem this hx') g1 g2 (he j x' y' hx' hy') g3 g4 A.in1 (by show A.units + 1 + n < cLine; omega)
        · rw [if_neg el] at h
          cases h
          exact SeqAt.RcNeAt.lists_lengths p1.isList p2.isList (by rw [List.size_toArray, List.size_toArray, bne_iff_ne]; omega) (by omega)
end
end DL
end
section
set_option Elab.async false
set_option linter.all false
set_option maxRecDepth 100000
set_option maxHeartbeats 4000000
set_option autoImplicit false
/-! DLL: the rules for == and !=. -/
namespace DL
open PySem PySem.Spec L2
open PyProof.Rows hiding St
section
variable {X : Cx} {pins : List (Addr × Obj)} {σ : St} {H : Hp} {s : Shared}
theorem hd_top (I : Inv X pins σ H s) (n : Nat) {x y : D} {v u : V} {v' u' : Value} {b : Bool} (hn : depth x < n + 1) (hx : Hd X.K H v x) (hy : Hd X.K H u y) (h : deq x y = some b) (rv : RelV v v') (ru : RelV u u') (A : Around) (hu : A.units + (n + 1) < cLine)
    (E Q : Value → Shared → Prop) (q : Q (.bool b) s) : wpAny (model X.prog X.w) A (compareOp .Eq v' u') Q E s := by
    cases hx with
    | any k1 k2 => rw [deq_any_l k1 k2] at h; cases h
    | non => cases hy with
      | any k1 k2 => rw [deq_any_r k1 k2] at h; cases h
      | dk h3 h4 => cases h
      | non =>
        cases h
        cases rv
        cases ru
        exact (SeqAt.RcAt.none_none) _ _ _ _ q
      | bl i2 =>
        cases h
        cases rv
        cases ru
        exact (SeqAt.RcAt.none_bool _) _ _ _ _ q
      | int i2 =>
        cases h
        cases rv
        obtain ⟨tr, rfl⟩ := (show ∃ t, _ = _ from ru)
        exact (SeqAt.RcAt.none_int _ _) _ _ _ _ q
      | str i2 =>
        cases h
        cases rv
        obtain ⟨tr, rfl⟩ := (show ∃ t, _ = _ from ru)
        exact (SeqAt.RcAt.none_str _ _) _ _ _ _ q
      | @tup a2 vs2 ds2 h3 h4 =>
        cases h
        cases rv
        cases ru
        obtain ⟨its, r1, p1, _⟩ := I.tuple h3
        exact (SeqAt.RcAt.none_tuple p1 (by omega)) _ _ _ _ q
      | @lst a2 vs2 ds2 h3 h4 =>
        cases h
        cases rv
        cases ru
        obtain ⟨its, r1, p1, _⟩ := I.list h3
        exact (SeqAt.RcAt.none_list p1.isList (by omega)) _ _ _ _ q
    | bl i1 => cases hy with
      | any k1 k2 => rw [deq_any_r k1 k2] at h; cases h
      | dk h3 h4 => cases h
      | non =>
        cases h
        cases rv
        cases ru
        exact (SeqAt.RcAt.bool_none _) _ _ _ _ q
      | bl i2 =>
        cases h
        cases rv
        cases ru
        exact (SeqAt.RcAt.bool_bool _ _) _ _ _ _ q
      | int i2 =>
        cases h
        cases rv
        obtain ⟨tr, rfl⟩ := (show ∃ t, _ = _ from ru)
        exact (SeqAt.RcAt.bool_int _ _ _) _ _ _ _ q
      | str i2 =>
        cases h
        cases rv
        obtain ⟨tr, rfl⟩ := (show ∃ t, _ = _ from ru)
        exact (SeqAt.RcAt.bool_str _ _ _) _ _ _ _ q
      | @tup a2 vs2 ds2 h3 h4 =>
        cases h
        cases rv
        cases ru
        obtain ⟨its, r1, p1, _⟩ := I.tuple h3
        exact (SeqAt.RcAt.bool_tuple _ p1 (by omega)) _ _ _ _ q
      | @lst a2 vs2 ds2 h3 h4 =>
        cases h
        cases rv
        cases ru
        obtain ⟨its, r1, p1, _⟩ := I.list h3
        exact (SeqAt.RcAt.bool_list _ p1.isList (by omega)) _ _ _ _ q
    | int i1 => cases hy with
      | any k1 k2 => rw [deq_any_r k1 k2] at h; cases h
      | dk h3 h4 => cases h
      | non =>
        cases h
        obtain ⟨tl, rfl⟩ := (show ∃ t, _ = _ from rv)
        cases ru
        exact (SeqAt.RcAt.int_none _ _) _ _ _ _ q
      | bl i2 =>
        cases h
        obtain ⟨tl, rfl⟩ := (show ∃ t, _ = _ from rv)
        cases ru
        exact (SeqAt.RcAt.int_bool _ _ _) _ _ _ _ q
      | int i2 =>
        cases h
        obtain ⟨tl, rfl⟩ := (show ∃ t, _ = _ from rv)
        obtain ⟨tr, rfl⟩ := (show ∃ t, _ = _ from ru)
        exact (SeqAt.RcAt.int_int _ _ _ _) _ _ _ _ q
      | str i2 =>
        cases h
        obtain ⟨tl, rfl⟩ := (show ∃ t, _ = _ from rv)
        obtain ⟨tr, rfl⟩ := (show ∃ t, _ = _ from ru)
        exact (SeqAt.RcAt.int_str _ _ _ _) _ _ _ _ q
      | @tup a2 vs2 ds2 h3 h4 =>
        cases h
        obtain ⟨tl, rfl⟩ := (show ∃ t, _ = _ from rv)
        cases ru
        obtain ⟨its, r1, p1, _⟩ := I.tuple h3
        exact (SeqAt.RcAt.int_tuple _ _ p1 (by omega)) _ _ _ _ q
      | @lst a2 vs2 ds2 h3 h4 =>
        cases h
        obtain ⟨tl, rfl⟩ := (show ∃ t, _ = _ from rv)
        cases ru
        obtain ⟨its, r1, p1, _⟩ := I.list h3
        exact (SeqAt.RcAt.int_list _ _ p1.isList (by omega)) _ _ _ _ q
    | str i1 => cases hy with
      | any k1 k2 => rw [deq_any_r k1 k2] at h; cases h
      | dk h3 h4 => cases h
      | non =>
        cases h
        obtain ⟨tl, rfl⟩ := (show ∃ t, _ = _ from rv)
        cases ru
        exact (SeqAt.RcAt.str_none _ _) _ _ _ _ q
      | bl i2 =>
        cases h
        obtain ⟨tl, rfl⟩ := (show ∃ t, _ = _ from rv)
        cases ru
        exact (SeqAt.RcAt.str_bool _ _ _) _ _ _ _ q
      | int i2 =>
        cases h
        obtain ⟨tl, rfl⟩ := (show ∃ t, _ = _ from rv)
        obtain ⟨tr, rfl⟩ := (show ∃ t, _ = _ from ru)
        exact (SeqAt.RcAt.str_int _ _ _ _) _ _ _ _ q
      | str i2 =>
        cases h
        obtain ⟨tl, rfl⟩ := (show ∃ t, _ = _ from rv)
        obtain ⟨tr, rfl⟩ := (show ∃ t, _ = _ from ru)
        exact (SeqAt.RcAt.str_str _ _ _ _) _ _ _ _ q
      | @tup a2 vs2 ds2 h3 h4 =>
        cases h
        obtain ⟨tl, rfl⟩ := (show ∃ t, _ = _ from rv)
        cases ru
        obtain ⟨its, r1, p1, _⟩ := I.tuple h3
        exact (SeqAt.RcAt.str_tuple _ _ p1 (by omega)) _ _ _ _ q
      | @lst a2 vs2 ds2 h3 h4 =>
        cases h
        obtain ⟨tl, rfl⟩ := (show ∃ t, _ = _ from rv)
        cases ru
        obtain ⟨its, r1, p1, _⟩ := I.list h3
        exact (SeqAt.RcAt.str_list _ _ p1.isList (by omega)) _ _ _ _ q
    | @tup a1 vs1 ds1 h1 h2 => cases hy with
      | any k1 k2 => rw [deq_any_r k1 k2] at h; cases h
      | dk h3 h4 => cases h
      | non =>
        cases h
        cases rv
        cases ru
        obtain ⟨its, r1, p1, _⟩ := I.tuple h1
        exact (SeqAt.RcAt.tuple_none p1 (by omega)) _ _ _ _ q
      | bl i2 =>
        cases h
        cases rv
        cases ru
        obtain ⟨its, r1, p1, _⟩ := I.tuple h1
        exact (SeqAt.RcAt.tuple_bool _ p1 (by omega)) _ _ _ _ q
      | int i2 =>
        cases h
        cases rv
        obtain ⟨tr, rfl⟩ := (show ∃ t, _ = _ from ru)
        obtain ⟨its, r1, p1, _⟩ := I.tuple h1
        exact (SeqAt.RcAt.tuple_int _ _ p1 (by omega)) _ _ _ _ q
      | str i2 =>
        cases h
        cases rv
        obtain ⟨tr, rfl⟩ := (show ∃ t, _ = _ from ru)
        obtain ⟨its, r1, p1, _⟩ := I.tuple h1
        exact (SeqAt.RcAt.tuple_str _ _ p1 (by omega)) _ _ _ _ q
      | @tup a2 vs2 ds2 h3 h4 =>
        cases rv
        cases ru
        obtain ⟨its, r1, p1, _⟩ := I.tuple h1
        obtain ⟨its2, r2, p2, _⟩ := I.tuple h3
        have l1 := r1.length
        have l2 := r2.length
        have l3 := h2.length
        have l4 := h4.length
        unfold deq at h
        cases hs : deqs ds1 ds2 with
        | none => rw [hs] at h; cases h
        | some r =>
          rw [hs] at h
          cases h
          obtain ⟨e, he, hr⟩ := deqs_some hs
          refine PySem.W.eq_tuplesT (n := n) (e := e) p1 p2 (fun j q1 q2 => ?_) (by omega) ?_
          · rw [List.size_toArray] at q1 q2
            have j1 : j < vs1.length := by omega
            have j2 : j < vs2.length := by omega
            obtain ⟨x', hx', g1⟩ := h2.at (List.getElem?_eq_getElem j1)
            obtain ⟨y', hy', g2⟩ := h4.at (List.getElem?_eq_getElem j2)
            obtain ⟨w1, e1, g3⟩ := r1.get (List.getElem?_eq_getElem j1)
            obtain ⟨w2, e2, g4⟩ := r2.get (List.getElem?_eq_getElem j2)
            have e1' : its.toArray[j] = w1 := by
              rw [List.getElem?_eq_getElem q1] at e1
              simpa using e1
            have e2' : its2.toArray[j] = w2 := by
              rw [List.getElem?_eq_getElem q2] at e2
              simpa using e2
            rw [e1', e2']
            have hdep := depths_mem hx'
            unfold depth at hn
            exact hd_eq I n (by omega) g1 g2 (he j x' y' hx' hy') g3 g4
          · rw [List.size_toArray, List.size_toArray, ← l1, ← l2, l3, l4, ← hr]
            exact q
      | @lst a2 vs2 ds2 h3 h4 =>
        cases h
        cases rv
        cases ru
        obtain ⟨its, r1, p1, _⟩ := I.tuple h1
        obtain ⟨its2, r2, p2, _⟩ := I.list h3
        exact (SeqAt.RcAt.tuple_list p1 p2.isList (by omega)) _ _ _ _ q
    | @lst a1 vs1 ds1 h1 h2 => cases hy with
      | any k1 k2 => rw [deq_any_r k1 k2] at h; cases h
      | dk h3 h4 => cases h
      | non =>
        cases h
        cases rv
        cases ru
        obtain ⟨its, r1, p1, _⟩ := I.list h1
        exact (SeqAt.RcAt.list_none p1.isList (by omega)) _ _ _ _ q
      | bl i2 =>
        cases h
        cases rv
        cases ru
        obtain ⟨its, r1, p1, _⟩ := I.list h1
        exact (SeqAt.RcAt.list_bool _ p1.isList (by omega)) _ _ _ _ q
      | int i2 =>
        cases h
        cases rv
        obtain ⟨tr, rfl⟩ := (show ∃ t, _ = _ from ru)
        obtain ⟨its, r1, p1, _⟩ := I.list h1
        exact (SeqAt.RcAt.list_int _ _ p1.isList (by omega)) _ _ _ _ q
      | str i2 =>
        cases h
        cases rv
        obtain ⟨tr, rfl⟩ := (show ∃ t, _ = _ from ru)
        obtain ⟨its, r1, p1, _⟩ := I.list h1
        exact (SeqAt.RcAt.list_str _ _ p1.isList (by omega)) _ _ _ _ q
      | @tup a2 vs2 ds2 h3 h4 =>
        cases h
        cases rv
        cases ru
        obtain ⟨its, r1, p1, _⟩ := I.list h1
        obtain ⟨its2, r2, p2, _⟩ := I.tuple h3
        exact (SeqAt.RcAt.list_tuple p1.isList p2 (by omega)) _ _ _ _ q
      | @lst a2 vs2 ds2 h3 h4 =>
        cases rv
        cases ru
        obtain ⟨its, r1, p1, _⟩ := I.list h1
        obtain ⟨its2, r2, p2, _⟩ := I.list h3
        have l1 := r1.length
        have l2 := r2.length
        have l3 := h2.length
        have l4 := h4.length
        unfold deq at h
        by_cases el : ds1.length = ds2.length
        · rw [if_pos el] at h
          obtain ⟨e, he, hr⟩ := deqs_some h
          refine PySem.W.eq_listsT (n := n) (e := e) p1.isList p2.isList (by rw [List.size_toArray, List.size_toArray]; omega) (fun j q1 q2 => ?_) (by omega) ?_
          · rw [List.size_toArray] at q1 q2
            have j1 : j < vs1.length := by omega
            have j2 : j < vs2.length := by omega
            obtain ⟨x', hx', g1⟩ := h2.at (List.getElem?_eq_getElem j1)
            obtain ⟨y', hy', g2⟩ := h4.at (List.getElem?_eq_getElem j2)
            obtain ⟨w1, e1, g3⟩ := r1.get (List.getElem?_eq_getElem j1)
            obtain ⟨w2, e2, g4⟩ := r2.get (List.getElem?_eq_getElem j2)
            have e1' : its.toArray[j] = w1 := by
              rw [List.getElem?_eq_getElem q1] at e1
              simpa using e1
            have e2' : its2.toArray[j] = w2 := by
              rw [List.getElem?_eq_getElem q2] at e2
              simpa using e2
            rw [e1', e2']
            have hdep := depths_mem hx'
            unfold depth at hn
            exact hd_eq I n (by omega) g1 g2 (he j x' y' hx' hy') g3 g4
          · rw [List.size_toArray, ← l1, l3]
            rw [← el, Nat.min_self] at hr
            rw [← hr]
            exact q
        · rw [if_neg el] at h
          cases h
          exact SeqAt.RcAt.lists_lengths p1.isList p2.isList (by rw [List.size_toArray, List.size_toArray, bne_iff_ne]; omega) (by omega) _ _ _ _ q
    | @dk a kvs ds h1 h2 => cases hy with
      | any k1 k2 => rw [deq_any_r k1 k2] at h; cases h
      | @dk a2 kvs2 ds2 h3 h4 =>
        cases rv
        cases ru
        have nd := dk_nodup I h1
        have nd2 : (ds.map (·.1)).Nodup := by rw [← h2.keys]; exact nd
        unfold deq at h
        cases hs : deqk ds ds2 with
        | none => rw [hs] at h; cases h
        | some r =>
          rw [hs] at h
          cases h
          obtain ⟨e, he, hr⟩ := deqk_some nd2 hs
          obtain ⟨_, y1, va, rela, da⟩ := dk_rd I.hok h1
          obtain ⟨_, y2, vb, relb, db⟩ := dk_rd I.hok h3
          refine PySem.W.eq_dictsT (n := n) (e := e) y1 y2 da db (fun k w1 w2 hm hv => ?_) (by omega) ?_
          · have g1 : ∃ v1, (k, v1) ∈ kvs ∧ RelV v1 w1 := by
              have : ∀ {l : List (Key × V)} {m : List (Key × Value)}, KV l m → (k, w1) ∈ m → ∃ v1, (k, v1) ∈ l ∧ RelV v1 w1 := by
                intro l m q
                unfold KV at q
                induction q with
                | nil => intro h; cases h
                | @cons p q ps qs hh t ih2 =>
                  intro h
                  rcases List.mem_cons.mp h with e | h
                  · obtain ⟨p1, p2⟩ := p
                    subst e
                    obtain ⟨z1, z2⟩ := hh
                    have z1' : p1 = k := z1
                    subst z1'
                    exact ⟨p2, List.mem_cons_self, z2⟩
                  · obtain ⟨v1, z1, z2⟩ := ih2 h
                    exact ⟨v1, List.mem_cons_of_mem _ z1, z2⟩
              exact this rela hm
            obtain ⟨v1, m1, q1⟩ := g1
            obtain ⟨x', m2, q2⟩ := h2.at m1
            obtain ⟨v2, m3, q3⟩ := DL.RelO.of_some (by rw [← hv]; exact relb.val k)
            obtain ⟨y', m4, q4⟩ := (h4.lk k).1 v2 m3
            refine hd_eq I n ?_ q2 q4 (he k x' y' m2 m4) q1 q3
            have := depthk_mem m2
            unfold depth at hn
            omega
          · have e1 : va.length = ds.length := by rw [← rela.length, h2.length]
            have e2 : vb.length = ds2.length := by rw [← relb.length, h4.length]
            have e3 : (va.all fun p => (valueAt vb p.1).isSome && e p.1) = ds.all fun p => (lk ds2 p.1).isSome && e p.1 := by
              have f1 : ∀ k, (valueAt vb k).isSome = (lk ds2 k).isSome := fun k => by
                rw [← (relb.val k).isSome_eq]
                obtain ⟨q1, q2⟩ := h4.lk k
                cases hv : valV kvs2 k with
                | none => rw [q2 hv]; rfl
                | some v => obtain ⟨d, hd, _⟩ := q1 v hv; rw [hd]; rfl
              have f2 : va.map (·.1) = ds.map (·.1) := by rw [← KV.keys rela, h2.keys]
              have f3 : ∀ {α : Type} (l : List (Key × α)), (l.all fun p => (lk ds2 p.1).isSome && e p.1) = (l.map (·.1)).all fun k => (lk ds2 k).isSome && e k := fun l => by rw [List.all_map]; rfl
              rw [f3 ds, ← f2, ← f3 va]
              exact all_mem fun p _ => by rw [f1]
            rw [e1, e2, e3, ← hr]
            exact q
      | _ => cases h
end
section
variable {X : Cx} {c : Dx} {a b : Expr} {fa fb : EF} {pos : Pos}
def rEqH (K : PySem.W.Frag) : R2 := fun x y H Q => ∃ dx dy b, Hd K H x dx ∧ Hd K H y dy ∧ depth dx < 40 ∧ deq dx dy = some b ∧ Q (.bl b) H
def rNeH (K : PySem.W.Frag) : R2 := fun x y H Q => ∃ dx dy b, Hd K H x dx ∧ Hd K H y dy ∧ depth dx < 40 ∧ noDk dx = true ∧ deq dx dy = some b ∧ Q (.bl (!b)) H
theorem op_eqH (hu : X.A.units + 64 < cLine) : OpR X (compareOp .Eq) (rEqH X.K) := by
  intro pins s σ H x y v u Q I rx ry ⟨dx, dy, b, h1, h2, h3, h4, q⟩
  exact hd_top I 40 (by omega) h1 h2 h4 rx ry X.A (by omega) _ _ ⟨.bl b, H, I, rfl, q⟩
theorem op_neH (hu : X.A.units + 64 < cLine) : OpR X (compareOp .NotEq) (rNeH X.K) := by
  intro pins s σ H x y v u Q I rx ry ⟨dx, dy, b, h1, h2, h3, h5, h4, q⟩
  exact hd_ne I 40 (by omega) h5 h1 h2 h4 rx ry X.A (by omega) _ _ _ _ ⟨.bl (!b), H, I, rfl, q⟩
def gEq (x y : D) (e : Sl) (s : Sto) : ER := if depth (vw x e s) < 40 then (match deq (vw x e s) (vw y e s) with | some b => .ok (.bl b) e s | none => .stuck) else .stuck
def gNe (x y : D) (e : Sl) (s : Sto) : ER := if depth (vw x e s) < 40 ∧ noDk (vw x e s) = true then (match deq (vw x e s) (vw y e s) with | some b => .ok (.bl (!b)) e s | none => .stuck) else .stuck
theorem opD_eq : OpD X (rEqH X.K) gEq := by
  intro c F ρ e st σ H x y v u Q r rx ry h
  unfold gEq at h
  split at h
  · rename_i hd
    split at h
    · rename_i b hb
      exact ⟨_, _, b, (vw_ok r rx).hd, (vw_ok r ry).hd, hd, hb, h.bl r⟩
    · exact h.elim
  · exact h.elim
theorem opD_ne : OpD X (rNeH X.K) gNe := by
  intro c F ρ e st σ H x y v u Q r rx ry h
  unfold gNe at h
  split at h
  · rename_i hd
    split at h
    · rename_i b hb
      exact ⟨_, _, b, (vw_ok r rx).hd, (vw_ok r ry).hd, hd.1, hd.2, hb, h.bl r⟩
    · exact h.elim
  · exact h.elim
theorem cm_eq (hu : X.A.units + 64 < cLine) (ha : DE c X a fa) (hb : DE c X b fb) : Cm c X .Eq a b pos (eBin gEq fa fb) := cm_of (op_eqH hu) opD_eq ha hb (nomark _)
theorem cm_ne (hu : X.A.units + 64 < cLine) (ha : DE c X a fa) (hb : DE c X b fb) : Cm c X .NotEq a b pos (eBin gNe fa fb) := cm_of (op_neH hu) opD_ne ha hb (nomark _)
end
end DL
end
section
set_option Elab.async false
set_option linter.all false
set_option maxRecDepth 100000
set_option maxHeartbeats 4000000
set_option autoImplicit false
/-! DLT: written dicts of the module with text keys. -/
namespace DL
open PySem PySem.Spec L2
open PyProof.Rows hiding St
/-- a written dict: what is known of it, key by key (none: the key is not there) -/
structure Tab (K : PySem.W.Frag) (w : World) (mg : Str → Option Value) (x : Str) (tbl : List (Str × Option Str)) : Prop where
  ex : ∃ d es n, mg x = some (.ref d) ∧ KDict K w d es n ∧ (∀ z v, (z, some v) ∈ tbl → ∃ t, PySem.W.nsIn K d z = some (some (.str v t))) ∧ ∀ z, (z, none) ∈ tbl → PySem.W.nsIn K d z = some none
def tabAt : List (Str × Option Str) → Str → Option (Option Str)
  | [], _ => none
  | (k, o) :: r, z => if k = z then some o else tabAt r z
theorem tabAt_mem : ∀ {tbl : List (Str × Option Str)} {z : Str} {o : Option Str}, tabAt tbl z = some o → (z, o) ∈ tbl
  | [], _, _, h => by cases h
  | (k, o) :: r, z, o', h => by
    unfold tabAt at h
    split at h
    · rename_i e
      cases h
      subst e
      exact List.mem_cons_self
    · exact List.mem_cons_of_mem _ (tabAt_mem h)
def gInTab (neg : Bool) (tbl : List (Str × Option Str)) (x : D) (e : Sl) (s : Sto) : ER := match x with
  | .str z => (match tabAt tbl z with | some o => .ok (.bl (bxor neg o.isSome)) e s | none => .stuck)
  | _ => .stuck
def gTab (tbl : List (Str × Option Str)) (x : D) (e : Sl) (s : Sto) : ER := match x with
  | .str z => (match tabAt tbl z with | some (some v) => .ok (.str v) e s | _ => .stuck)
  | _ => .stuck
section
variable {X : Cx} {c : Dx} {a b : Expr} {fa fb : EF} {pos : Pos}
def rTab (K : PySem.W.Frag) (d : Addr) (neg : Bool) : R2 := fun x y H Q => ∃ (z : Str) (r : Option Value), x = .str z ∧ y = .ref d ∧ PySem.W.nsIn K d z = some r ∧ Q (.bl (bxor neg r.isSome)) H
theorem tab_main {x : Str} {tbl : List (Str × Option Str)} (neg : Bool) {d : Addr} (h1 : ∀ z v, (z, some v) ∈ tbl → ∃ t, PySem.W.nsIn X.K d z = some (some (.str v t))) (h2 : ∀ z, (z, none) ∈ tbl → PySem.W.nsIn X.K d z = some none)
    {F : Addr → Prop} {ρ : List Addr} {e : Sl} {st : Sto} {σ : St} {H : Hp} {Q : VK} (r : R X.K X.mg c F ρ e st σ H) (q : EPost X.K X.mg c e σ F ρ H Q (eUn (gInTab neg tbl) fa e st)) : tOp (rTab X.K d neg) (tED X.K X.mg c fa) (tC (.ref d)) σ H Q := by
  refine ⟨F, ρ, e, st, r, bindE q fun F1 ρ1 e1 st1 H1 v x le1 r1 rx h => ?_⟩
  unfold gInTab at h
  split at h
  · rename_i z
    cases repS rx
    split at h
    · rename_i o ho
      have hm := tabAt_mem ho
      cases o with
      | none => exact ⟨z, none, rfl, rfl, h2 z hm, h.bl r1⟩
      | some v =>
        obtain ⟨t, ht⟩ := h1 z v hm
        exact ⟨z, some _, rfl, rfl, ht, h.bl r1⟩
    · exact h.elim
  · exact h.elim
theorem cm_inTab {x : Str} {p : Pos} {tbl : List (Str × Option Str)} (T : Tab X.K X.w X.mg x tbl) (hg : Gl X x) (ha : DE c X a fa) (hd : (x == ("__debug__" : Str)) = false := by decide) (hm : behindInMarks .In (.Name x p) = false := by rfl) : Cm c X .In a (.Name x p) pos (eUn (gInTab false tbl) fa) := by
  obtain ⟨d, es, n, h0, kd, h1, h2⟩ := T.ex
  have ho : OpR X (compareOp .In) (rTab X.K d false) := fun pins s σ H x y v u Q I rx ry ⟨z, r, e1, e2, e3, q⟩ => op_in_kd kd pins s σ H x y v u Q I rx ry ⟨z, r, e1, e2, e3, q⟩
  exact ⟨de_imp (pe_cmpR ho ha (pe_glob hg h0 (v := .ref d) rfl hd) hm) fun F ρ e st σ H Q r q => tab_main (x := x) false h1 h2 r q, dt_imp (pt_cmpR ho ha (pe_glob hg h0 (v := .ref d) rfl hd) hm) fun F ρ e st σ H Q r q => tab_main (x := x) false h1 h2 r q.of⟩
theorem cm_notInTab {x : Str} {p : Pos} {tbl : List (Str × Option Str)} (T : Tab X.K X.w X.mg x tbl) (hg : Gl X x) (ha : DE c X a fa) (hd : (x == ("__debug__" : Str)) = false := by decide) (hm : behindInMarks .NotIn (.Name x p) = false := by rfl) : Cm c X .NotIn a (.Name x p) pos (eUn (gInTab true tbl) fa) := by
  obtain ⟨d, es, n, h0, kd, h1, h2⟩ := T.ex
  have ho : OpR X (compareOp .NotIn) (rTab X.K d true) := fun pins s σ H x y v u Q I rx ry ⟨z, r, e1, e2, e3, q⟩ => op_notIn_kd kd pins s σ H x y v u Q I rx ry ⟨z, r, e1, e2, e3, q⟩
  exact ⟨de_imp (pe_cmpR ho ha (pe_glob hg h0 (v := .ref d) rfl hd) hm) fun F ρ e st σ H Q r q => tab_main (x := x) true h1 h2 r q, dt_imp (pt_cmpR ho ha (pe_glob hg h0 (v := .ref d) rfl hd) hm) fun F ρ e st σ H Q r q => tab_main (x := x) true h1 h2 r q.of⟩
theorem de_tab {x : Str} {p : Pos} {tbl : List (Str × Option Str)} (T : Tab X.K X.w X.mg x tbl) (hg : Gl X x) (ha : DE c X a fa) (hd : (x == ("__debug__" : Str)) = false := by decide) (hs : PlainIx a := by exact fun _ _ => rfl) : DE c X (.Subscript (.Name x p) a pos) (eUn (gTab tbl) fa) := by
  obtain ⟨d, es, n, h0, kd, h1, h2⟩ := T.ex
  refine de_imp (pe_ix ix_kdict (pe_glob hg h0 (v := .ref d) rfl hd) ha hs) fun F ρ e st σ H Q r q => ?_
  show tED X.K X.mg c fa σ H fun y H2 => L2.rIxD X.K X.w (.ref d) y H2 Q
  refine ⟨F, ρ, e, st, r, bindE q fun F1 ρ1 e1 st1 H1 v x le1 r1 rx h => ?_⟩
  unfold gTab at h
  split at h
  · rename_i z
    cases repS rx
    split at h
    · rename_i v ho
      obtain ⟨t, ht⟩ := h1 z v (tabAt_mem ho)
      exact ⟨d, z, .str v, rfl, rfl, ⟨es, n, _, kd.at_, kd.lit, ht, ⟨t, rfl⟩⟩, h.sc r1 fun _ _ _ => .str v⟩
    · exact h.elim
  · exact h.elim
end
end DL
end
section
set_option Elab.async false
set_option linter.all false
set_option maxRecDepth 100000
set_option maxHeartbeats 4000000
set_option autoImplicit false
/-! DLP: plain lemmas: how the functions compute. -/
namespace DL
open PySem L2

/-! ### strings -/
theorem str_cps (a : String) : (Str.ofString a).cps.toList = a.toList.map Char.toNat := by
  show (cpsOfBytes 0 0 a.toByteArray.data.toList).toArray.toList = _
  rw [cpsOfBytes_string]
theorem toNats_inj : ∀ {a b : List Char}, a.map Char.toNat = b.map Char.toNat → a = b
  | [], [], _ => rfl
  | [], _ :: _, h => by simp at h
  | _ :: _, [], h => by simp at h
  | x :: xs, y :: ys, h => by
    simp only [List.map_cons, List.cons.injEq] at h
    have h1 : x = y := Char.ext (UInt32.toNat_inj.mp h.1)
    rw [h1, toNats_inj h.2]
@[simp] theorem str_inj {a b : String} : (Str.ofString a = Str.ofString b) ↔ a = b := by
  constructor
  · intro h
    have h2 := congrArg (fun z : Str => z.cps.toList) h
    simp only [str_cps] at h2
    exact String.ext (toNats_inj h2)
  · intro h; rw [h]
@[simp] theorem str_beq {a b : String} : (Str.ofString a == Str.ofString b) = (a == b) := by
  rw [Bool.eq_iff_iff]
  simp

/-! ### how results are handed on -/
section
variable {d : D} {ds : List D} {e : Sl} {s : Sto} {n : Str} {r : RV}
@[simp] theorem b_ok {k : D → Sl → Sto → ER} : (ER.ok d e s).bind k = k d e s := rfl
@[simp] theorem b_exc {k : D → Sl → Sto → ER} : (ER.exc n e s).bind k = .exc n e s := rfl
@[simp] theorem ba_ok {k : List D → Sl → Sto → ER} : (AR.ok ds e s).bind k = k ds e s := rfl
@[simp] theorem bA_ok {k : D → Sl → Sto → AR} : (ER.ok d e s).bindA k = k d e s := rfl
@[simp] theorem baA_ok {k : List D → Sl → Sto → AR} : (AR.ok ds e s).bindA k = k ds e s := rfl
@[simp] theorem bS_ok {k : D → Sl → Sto → OR} : (ER.ok d e s).bindS k = k d e s := rfl
@[simp] theorem bS_exc {k : D → Sl → Sto → OR} : (ER.exc n e s).bindS k = .exc n e s := rfl
@[simp] theorem baS_ok {k : List D → Sl → Sto → OR} : (AR.ok ds e s).bindS k = k ds e s := rfl
@[simp] theorem o_nx {k : SF} : (OR.nx e s).bind k = k e s := rfl
@[simp] theorem o_rt {k : SF} : (OR.rt r s).bind k = .rt r s := rfl
@[simp] theorem o_bk {k : SF} : (OR.bk e s).bind k = .bk e s := rfl
@[simp] theorem o_ct {k : SF} : (OR.ct e s).bind k = .ct e s := rfl
@[simp] theorem o_exc {k : SF} : (OR.exc n e s).bind k = .exc n e s := rfl
@[simp] theorem eK_at : eK d e s = .ok d e s := rfl
@[simp] theorem eYes_at : eYes e s = .ok (.bl true) e s := rfl
@[simp] theorem aNil_at : aNil e s = .ok [] e s := rfl
@[simp] theorem sNop_at : sNop e s = .nx e s := rfl
end
/-- which way a test's value leads -/
def D.sel {α : Type} (d : D) (x y z : α) : α := match d with | .bl true => x | .bl false => y | _ => z
@[simp] theorem sel_bl {α : Type} {b : Bool} {x y z : α} : (D.bl b).sel x y z = if b = true then x else y := by cases b <;> rfl
section
variable {e : Sl} {s : Sto} {f g h : EF} {fs : AF} {k k' : SF} {d x y : D} {ds : List D} {b : Bool}
@[simp] theorem sIf_at : sIf f k k' e s = (f e s).bindS fun d e s => d.sel (k e s) (k' e s) .stuck := by
  unfold sIf D.sel; rfl
@[simp] theorem eIf_at : eIf f g h e s = (f e s).bind fun d e s => d.sel (g e s) (h e s) .stuck := by
  unfold eIf D.sel; rfl
@[simp] theorem eAnd_at : eAnd f g e s = (f e s).bind fun d e s => d.sel (g e s) (.ok (.bl false) e s) .stuck := by
  unfold eAnd D.sel; rfl
@[simp] theorem eOr_at : eOr f g e s = (f e s).bind fun d e s => d.sel (.ok (.bl true) e s) (g e s) .stuck := by
  unfold eOr D.sel; rfl
@[simp] theorem gNot_at : gNot (.bl b) e s = .ok (.bl (!b)) e s := rfl
@[simp] theorem eVar_at {i : Nat} : eVar i e s = match e[i]? with | some (some (.val d)) => .ok d e s | some (some (.own _)) => .ok (.own i) e s | _ => .stuck := rfl
@[simp] theorem eUn_at {u : D → Sl → Sto → ER} : eUn u f e s = (f e s).bind u := rfl
@[simp] theorem eBin_at {u : D → D → Sl → Sto → ER} : eBin u f g e s = (f e s).bind fun x e s => (g e s).bind fun y e s => u x y e s := rfl
@[simp] theorem sSeq_at : sSeq k k' e s = (k e s).bind k' := rfl
@[simp] theorem sSet_at {i : Nat} : sSet i f e s = (eFz f e s).bindS fun d e s => .nx (e.set i (some (.val d))) s := rfl
@[simp] theorem sOwn_at {i : Nat} : sOwn i f e s = (f e s).bindS fun d e s => .nx (e.set i (some (.own d))) s := rfl
@[simp] theorem sRetN_at : sRetN f e s = (f e s).bindS fun d e s => .rt (.new d) s := rfl
@[simp] theorem eTup_at : eTup fs e s = (fs e s).bind fun ds e s => if ds.length ≤ lim then .ok (.tup ds) e s else .stuck := rfl
@[simp] theorem eLst_at : eLst fs e s = (fs e s).bind fun ds e s => if ds.length ≤ lim then .ok (.lst ds) e s else .stuck := rfl
@[simp] theorem eDict_at {ks : List Key} : eDict ks fs e s = (fs e s).bind fun ds e s => if ds.length = ks.length ∧ ks.length ≤ 15 then .ok (.dk (ptAll [] (ks.zip ds))) e s else .stuck := rfl
@[simp] theorem aCons_at : aCons f fs e s = (f e s).bindA fun d e s => match fz d e with | some (d', e') => (fs e' s).bindA fun ds e s => .ok (d' :: ds) e s | none => .stuck := rfl
@[simp] theorem eFz_at : eFz f e s = (f e s).bind fun d e s => match fz d e with | some (d', e') => .ok d' e' s | none => .stuck := rfl
/-- a call's result -/
def FR.toE (r : FR) (e : Sl) : ER := match r with | .ok (.val d) s' => .ok d e s' | .ok (.new d) s' => .ok d e s' | .exc k s' => .exc k e s' | .stuck => .stuck
def FR.toN (r : FR) (e : Sl) : ER := match r with | .ok (.val d) s' => .stuck | .ok (.new d) s' => .ok d e s' | .exc k s' => .exc k e s' | .stuck => .stuck
@[simp] theorem toE_val : (FR.ok (.val d) s).toE e = .ok d e s := rfl
@[simp] theorem toE_new : (FR.ok (.new d) s).toE e = .ok d e s := rfl
@[simp] theorem toN_new : (FR.ok (.new d) s).toN e = .ok d e s := rfl
@[simp] theorem eCall_at {n : Nat} {fn : Fn} : eCall n fn fs e s = (fs e s).bind fun ds e s => if ds.length = n then (fn ds s).toE e else .stuck := by unfold eCall FR.toE; rfl
@[simp] theorem nCall_at {n : Nat} {fn : Fn} : nCall n fn fs e s = (fs e s).bind fun ds e s => if ds.length = n then (fn ds s).toN e else .stuck := by unfold nCall FR.toN; rfl
/-- a def's end -/
def OR.toF : OR → FR
  | .nx _ s => .ok (.val .non) s
  | .rt r s => .ok r s
  | .exc k _ s => .exc k s
  | _ => .stuck
@[simp] theorem toF_rt {r : RV} : (OR.rt r s).toF = .ok r s := rfl
@[simp] theorem toF_nx : (OR.nx e s).toF = .ok (.val .non) s := rfl
@[simp] theorem toF_exc {n : Str} : (OR.exc n e s).toF = .exc n s := rfl
theorem fnOf_at {n : Nat} {k : SF} {st : Sto} : fnOf n k ds st = (k (ds.map (fun d => some (SV.val d)) ++ List.replicate (n - ds.length) none) st).toF := by unfold fnOf OR.toF; rfl
@[simp] theorem toF_ite {p : Prop} [Decidable p] {a b : OR} : (if p then a else b).toF = if p then a.toF else b.toF := by split <;> rfl
@[simp] theorem bind_ite {p : Prop} [Decidable p] {a b : OR} : (if p then a else b).bind k = if p then a.bind k else b.bind k := by split <;> rfl

@[simp] theorem ebind_ite {p : Prop} [Decidable p] {a b : ER} {k : D → Sl → Sto → ER} : (if p then a else b).bind k = if p then a.bind k else b.bind k := by split <;> rfl
@[simp] theorem ebindS_ite {p : Prop} [Decidable p] {a b : ER} {k : D → Sl → Sto → OR} : (if p then a else b).bindS k = if p then a.bindS k else b.bindS k := by split <;> rfl
@[simp] theorem ebindA_ite {p : Prop} [Decidable p] {a b : ER} {k : D → Sl → Sto → AR} : (if p then a else b).bindA k = if p then a.bindA k else b.bindA k := by split <;> rfl

/-! ### values that are no pseudo values -/
def Ty (d : D) : Bool := (tyName d).isSome
theorem fz_ty (h : Ty d = true) : fz d e = some (d, e) := by cases d <;> first | rfl | cases h
theorem vw_ty (h : Ty d = true) : vw d e s = d := by cases d <;> first | rfl | cases h
@[simp] theorem ty_non : Ty (.non) = true := rfl
@[simp] theorem ty_bl {b : Bool} : Ty (.bl b) = true := rfl
@[simp] theorem ty_int {b : Int} : Ty (.int b) = true := rfl
@[simp] theorem ty_str {b : Str} : Ty (.str b) = true := rfl
@[simp] theorem ty_tup {b : List D} : Ty (.tup b) = true := rfl
@[simp] theorem ty_lst {b : List D} : Ty (.lst b) = true := rfl
@[simp] theorem ty_dk {b : List (Key × D)} : Ty (.dk b) = true := rfl
@[simp] theorem fz_non : fz .non e = some (.non, e) := rfl
@[simp] theorem fz_bl : fz (.bl b) e = some (.bl b, e) := rfl
@[simp] theorem fz_int {i : Int} : fz (.int i) e = some (.int i, e) := rfl
@[simp] theorem fz_str {i : Str} : fz (.str i) e = some (.str i, e) := rfl
@[simp] theorem fz_tup : fz (.tup ds) e = some (.tup ds, e) := rfl
@[simp] theorem fz_lst : fz (.lst ds) e = some (.lst ds, e) := rfl
@[simp] theorem fz_scr : fz (.scr ds) e = some (.scr ds, e) := rfl
@[simp] theorem fz_dk {kvs : List (Key × D)} : fz (.dk kvs) e = some (.dk kvs, e) := rfl
@[simp] theorem fz_dt {kvs : List (List Key × D)} : fz (.dt kvs) e = some (.dt kvs, e) := rfl
@[simp] theorem fz_ref {i : Nat} : fz (.ref i) e = some (.ref i, e) := rfl
@[simp] theorem vw_non : vw .non e s = .non := rfl
@[simp] theorem vw_bl : vw (.bl b) e s = .bl b := rfl
@[simp] theorem vw_int {i : Int} : vw (.int i) e s = .int i := rfl
@[simp] theorem vw_str {i : Str} : vw (.str i) e s = .str i := rfl
@[simp] theorem vw_tup : vw (.tup ds) e s = .tup ds := rfl
@[simp] theorem vw_lst : vw (.lst ds) e s = .lst ds := rfl
@[simp] theorem vw_scr : vw (.scr ds) e s = .scr ds := rfl
@[simp] theorem vw_dk {kvs : List (Key × D)} : vw (.dk kvs) e s = .dk kvs := rfl
@[simp] theorem vw_dt {kvs : List (List Key × D)} : vw (.dt kvs) e s = .dt kvs := rfl
@[simp] theorem ret_ty {v : D} (h : Ty v = true) : (match v with | .own i => (match e[i]? with | some (some (.own d')) => OR.rt (.new d') s | _ => .stuck) | d => .rt (.val d) s) = .rt (.val v) s := by cases v <;> first | rfl | cases h
/-- what return hands back -/
def retv (d : D) (e : Sl) (s : Sto) : OR := match d with | .own i => (match e[i]? with | some (some (.own d')) => OR.rt (.new d') s | _ => .stuck) | d => .rt (.val d) s
@[simp] theorem sRet_at : sRet f e s = (f e s).bindS retv := rfl
theorem retv_ty (h : Ty d = true) : retv d e s = .rt (.val d) s := by cases d <;> first | rfl | cases h
@[simp] theorem retv_non : retv .non e s = .rt (.val .non) s := rfl
@[simp] theorem retv_bl : retv (.bl b) e s = .rt (.val (.bl b)) s := rfl
@[simp] theorem retv_int {i : Int} : retv (.int i) e s = .rt (.val (.int i)) s := rfl
@[simp] theorem retv_str {i : Str} : retv (.str i) e s = .rt (.val (.str i)) s := rfl
@[simp] theorem retv_tup : retv (.tup ds) e s = .rt (.val (.tup ds)) s := rfl
@[simp] theorem retv_lst : retv (.lst ds) e s = .rt (.val (.lst ds)) s := rfl
@[simp] theorem retv_dk {kvs : List (Key × D)} : retv (.dk kvs) e s = .rt (.val (.dk kvs)) s := rfl

/-! ### whole numbers -/
@[simp] theorem gSub_at {i j : Int} : gI kSub (.int i) (.int j) e s = .ok (.int (i - j)) e s := rfl
@[simp] theorem gLt_at {i j : Int} : gI kLt (.int i) (.int j) e s = .ok (.bl (decide (i < j))) e s := rfl
@[simp] theorem gLe_at {i j : Int} : gI kLe (.int i) (.int j) e s = .ok (.bl (decide (i ≤ j))) e s := rfl
@[simp] theorem gGt_at {i j : Int} : gI (fun i j => kLt j i) (.int i) (.int j) e s = .ok (.bl (decide (j < i))) e s := rfl
@[simp] theorem gGe_at {i j : Int} : gI (fun i j => kLe j i) (.int i) (.int j) e s = .ok (.bl (decide (j ≤ i))) e s := rfl
theorem gMod_at {i j : Int} (h : 0 < j) : gI kMod (.int i) (.int j) e s = .ok (.int (i % j)) e s := by unfold gI kMod; simp [h]
theorem gDiv_at {i j : Int} (h : 0 < j) (h' : j < 1073741824) : gI kDiv (.int i) (.int j) e s = .ok (.int (i / j)) e s := by unfold gI kDiv; simp [h, h']
@[simp] theorem gAdd_at {i j : Int} : gAdd (.int i) (.int j) e s = .ok (.int (i + j)) e s := rfl
theorem gMul_r {i j : Int} (h : -(2 ^ 64) < j) (h' : j < 2 ^ 64) : gMul (.int i) (.int j) e s = .ok (.int (i * j)) e s := by
  show (@ite _ ((-(2 ^ 64) < i ∧ i < 2 ^ 64) ∨ (-(2 ^ 64) < j ∧ j < 2 ^ 64)) (Classical.propDecidable _) (ER.ok (.int (i * j)) e s) .stuck) = _
  rw [if_pos (.inr ⟨h, h'⟩)]
theorem gMul_l {i j : Int} (h : -(2 ^ 64) < i) (h' : i < 2 ^ 64) : gMul (.int i) (.int j) e s = .ok (.int (i * j)) e s := by
  show (@ite _ ((-(2 ^ 64) < i ∧ i < 2 ^ 64) ∨ (-(2 ^ 64) < j ∧ j < 2 ^ 64)) (Classical.propDecidable _) (ER.ok (.int (i * j)) e s) .stuck) = _
  rw [if_pos (.inl ⟨h, h'⟩)]
@[simp] theorem eqI_at {i j : Int} : gEq (.int i) (.int j) e s = .ok (.bl (decide (i = j))) e s := rfl
@[simp] theorem eqS_at {i j : Str} : gEq (.str i) (.str j) e s = .ok (.bl (decide (i = j))) e s := rfl
@[simp] theorem neI_at {i j : Int} : gNe (.int i) (.int j) e s = .ok (.bl (!decide (i = j))) e s := rfl
@[simp] theorem neS_at {i j : Str} : gNe (.str i) (.str j) e s = .ok (.bl (!decide (i = j))) e s := rfl
end

/-! ### loops -/
theorem compL_map {vs : List Nat} {bind : BF} {ft fe : EF} {e : Sl} {s : Sto} (e1 : D → Sl) (p : D → Bool) (g : D → D) : ∀ (xs acc : List D),
    (∀ x ∈ xs, bind x e = some (e1 x) ∧ ft (e1 x) s = .ok (.bl (p x)) (e1 x) s ∧ (p x = true → eFz fe (e1 x) s = .ok (g x) (e1 x) s) ∧ wipeE (e1 x) vs = e) →
    acc.length + xs.length ≤ lim → compL vs bind ft fe xs acc e s = .ok (.lst (acc ++ (xs.filter p).map g)) e s
  | [], acc, _, _ => by simp [compL]
  | x :: xs, acc, h, hl => by
    obtain ⟨h1, h2, h3, h4⟩ := h x (List.mem_cons_self)
    have hr := fun acc hl => compL_map e1 p g xs acc (fun y hy => h y (List.mem_cons_of_mem _ hy)) hl
    simp only [List.length_cons] at hl
    unfold compL
    rw [h1]
    simp only [h2]
    cases hp : p x with
    | true =>
      simp only [hp, h3 hp, h4]
      rw [if_pos (by omega), hr _ (by simp; omega), List.filter_cons, hp]
      simp
    | false =>
      simp only [hp, h4]
      rw [hr _ (by omega), List.filter_cons, hp]
      simp
/-- a for, its slots after each turn told by a law -/
theorem forL_fold {bind : BF} {g : SF} {s : Sto} (E : List D → Sl) : ∀ (xs done : List D),
    (∀ (d : List D) x r, done ++ xs = d ++ x :: r → ∃ e1, bind x (E d) = some e1 ∧ (g e1 s = .nx (E (d ++ [x])) s ∨ g e1 s = .ct (E (d ++ [x])) s)) →
    forL bind g xs (E done) s = .nx (E (done ++ xs)) s
  | [], done, _ => by simp [forL]
  | x :: xs, done, h => by
    obtain ⟨e1, h1, h2⟩ := h done x xs rfl
    unfold forL
    rw [h1]
    have hr := forL_fold E xs (done ++ [x]) (fun d y r hy => h d y r (by rw [← hy]; simp))
    rcases h2 with h2 | h2
    · simp only [h2, hr]; simp
    · simp only [h2, hr]; simp
/-- a for that keeps an invariant -/
theorem forL_inv {bind : BF} {g : SF} {s : Sto} (I : Nat → Sl → Prop) : ∀ (xs : List D) (n : Nat) (e : Sl), I n e →
    (∀ m e x, n ≤ m → x ∈ xs → xs[m - n]? = some x → I m e → ∃ e1 e2, bind x e = some e1 ∧ (g e1 s = .nx e2 s ∨ g e1 s = .ct e2 s) ∧ I (m + 1) e2) →
    ∃ e', forL bind g xs e s = .nx e' s ∧ I (n + xs.length) e'
  | [], n, e, hI, _ => ⟨e, rfl, by simpa using hI⟩
  | x :: xs, n, e, hI, h => by
    obtain ⟨e1, e2, h1, h2, h3⟩ := h n e x (Nat.le_refl _) List.mem_cons_self (by simp) hI
    obtain ⟨e', h4, h5⟩ := forL_inv I xs (n + 1) e2 h3 (fun m e y hm hy hx hI => h m e y (by omega) (List.mem_cons_of_mem _ hy) (by
      have : m - n = (m - (n + 1)) + 1 := by omega
      rw [this, List.getElem?_cons_succ]; exact hx) hI)
    refine ⟨e', ?_, by rw [List.length_cons]; have : n + (xs.length + 1) = n + 1 + xs.length := by omega
                       rw [this]; exact h5⟩
    unfold forL
    rw [h1]
    rcases h2 with h2 | h2
    · simp only [h2, h4]
    · simp only [h2, h4]
@[simp] theorem rngD_len {lo : Int} {n : Nat} : (rngD lo n).length = n := by simp [rngD]
theorem rngD_mem {lo : Int} {n : Nat} {x : D} (h : x ∈ rngD lo n) : ∃ i : Nat, i < n ∧ x = .int (lo + (i : Nat)) := by
  unfold rngD at h
  obtain ⟨i, h1, h2⟩ := List.mem_map.mp h
  exact ⟨i, List.mem_range.mp h1, h2.symm⟩
theorem iRange1_at {f : EF} {e : Sl} {s : Sto} {n : Nat} (h : f e s = .ok (.int n) e s) (hn : n ≤ lim) : iRange1 f e s = .ok (rngD 0 n) e s := by
  unfold iRange1
  rw [h]
  simp only
  unfold lim at hn
  rw [if_pos (by omega)]
  simp
theorem iSeq_at {f : EF} {e e1 : Sl} {s s1 : Sto} {d : D} {ds : List D} (h : eFz f e s = .ok d e1 s1) (hd : asSeq d = some ds) : iSeq f e s = .ok ds e1 s1 := by
  unfold iSeq
  rw [h]
  simp only [hd]
theorem eComp_at {vs : List Nat} {fi : IF} {bind : BF} {ft fe : EF} {e e1 : Sl} {s s1 : Sto} {ds : List D} (h : fi e s = .ok ds e1 s1) : eComp vs fi bind ft fe e s = compL vs bind ft fe ds [] (wipeE e1 vs) s1 := by
  unfold eComp
  rw [h]
theorem sFor_at {fi : IF} {bind : BF} {g : SF} {e e1 : Sl} {s s1 : Sto} {ds : List D} (h : fi e s = .ok ds e1 s1) : sFor fi bind g e s = forL bind g ds e1 s1 := by
  unfold sFor
  rw [h]
theorem sApp_at {i : Nat} {f : EF} {e : Sl} {s : Sto} {ds : List D} {d : D} (h : e[i]? = some (some (.own (.lst ds)))) (hf : eFz f e s = .ok d e s) (hl : ds.length < lim) : sApp i f e s = .nx (e.set i (some (.own (.lst (ds ++ [d]))))) s := by
  unfold sApp
  rw [h]
  simp only [hf, bS_ok, h]
  rw [if_pos hl]
theorem asInts_map (ns : List Int) : asInts (ns.map .int) = some ns := by
  unfold asInts
  induction ns with
  | nil => rfl
  | cons n ns ih => simp [allO, asI, ih]
theorem asBls_map {α : Type} (f : α → Bool) (l : List α) : asBls (l.map fun x => .bl (f x)) = some (l.map f) := by
  unfold asBls
  induction l with
  | nil => rfl
  | cons n ns ih => simp [allO, asB, ih]
end DL
end
section
set_option Elab.async false
set_option linter.all false
set_option maxRecDepth 100000
set_option maxHeartbeats 4000000
set_option autoImplicit false
/-! DLQ: plain lemmas on lists, dicts, equality. -/
namespace DL
open PySem L2
section
variable {d x y : D} {ds : List D} {e : Sl} {s : Sto} {i : Int} {kvs : List (Key × D)}
theorem atI_of {α : Type} {xs : List α} {i : Int} (h : 0 ≤ i) (h' : i < xs.length) : atI xs i = xs[i.toNat]? := by
  unfold atI ixN
  rw [if_pos h, if_pos h']
  rfl
theorem atI_last {α : Type} {xs : List α} {a : α} : atI (xs ++ [a]) (-1) = some a := by
  unfold atI ixN
  simp only [List.length_append, List.length_singleton]
  rw [if_neg (by omega), if_pos (by omega)]
  show (xs ++ [a])[_]? = _
  have : (-1 + ((xs.length + 1 : Nat) : Int)).toNat = xs.length := by omega
  rw [this]
  simp
theorem ix_lst (h : atI ds i = some d) : gIx (.lst ds) (.int i) e s = .ok d e s := by
  unfold gIx; simp only [vw_lst, asSeq, h]
theorem ix_tup (h : atI ds i = some d) : gIx (.tup ds) (.int i) e s = .ok d e s := by
  unfold gIx; simp only [vw_tup, asSeq, h]
theorem ix_scr (h : atI ds i = some d) : gIx (.scr ds) (.int i) e s = .ok d e s := by
  unfold gIx; simp only [vw_scr, asSeq, h]
theorem ix_dk {k : Str} (h : lk kvs (.inr k) = some d) : gIx (.dk kvs) (.str k) e s = .ok d e s := by
  unfold gIx; simp only [vw_dk, toK, h]
theorem ix_dki {k : Int} (h : lk kvs (.inl k) = some d) : gIx (.dk kvs) (.int k) e s = .ok d e s := by
  unfold gIx; simp only [vw_dk, toK, h]
theorem ix_str {z : Str} {cp : Nat} (h : atI z.cps.toList i = some cp) (hz : z.length ≤ lim) : gIx (.str z) (.int i) e s = .ok (.str ⟨#[cp]⟩) e s := by
  unfold gIx; simp only [vw_str, h]; rw [if_pos hz]
@[simp] theorem len_lst : gLen (.lst ds) e s = .ok (.int ds.length) e s := rfl
@[simp] theorem len_tup : gLen (.tup ds) e s = .ok (.int ds.length) e s := rfl
@[simp] theorem len_scr : gLen (.scr ds) e s = .ok (.int ds.length) e s := rfl
@[simp] theorem len_dk : gLen (.dk kvs) e s = .ok (.int kvs.length) e s := rfl
theorem len_str {z : Str} (h : z.length ≤ lim) : gLen (.str z) e s = .ok (.int z.length) e s := by
  show (if z.length ≤ lim then ER.ok (.int z.length) e s else .stuck) = _
  rw [if_pos h]
@[simp] theorem tuple_lst : gTuple (.lst ds) e s = .ok (.tup ds) e s := rfl
@[simp] theorem tuple_tup : gTuple (.tup ds) e s = .ok (.tup ds) e s := rfl
@[simp] theorem list_lst : gList (.lst ds) e s = .ok (.lst ds) e s := rfl
@[simp] theorem list_tup : gList (.tup ds) e s = .ok (.lst ds) e s := rfl
@[simp] theorem abs_at : gAbs (.int i) e s = .ok (.int (if i < 0 then -i else i)) e s := rfl
@[simp] theorem int_at : gInt (.int i) e s = .ok (.int i) e s := rfl
@[simp] theorem neg_at : gNeg (.int i) e s = .ok (.int (-i)) e s := rfl
@[simp] theorem vw_own {i : Nat} : vw (.own i) e s = match e[i]? with | some (some (.own d')) => d' | _ => .own i := rfl
@[simp] theorem fz_own {i : Nat} : fz (.own i) e = match e[i]? with | some (some (.own d')) => some (d', e.set i (some (.val d'))) | _ => none := rfl
@[simp] theorem retv_own {i : Nat} : retv (.own i) e s = match e[i]? with | some (some (.own d')) => OR.rt (.new d') s | _ => .stuck := rfl
@[simp] theorem asSeq_lst : asSeq (.lst ds) = some ds := rfl
@[simp] theorem asSeq_tup : asSeq (.tup ds) = some ds := rfl
@[simp] theorem asSeq_scr : asSeq (.scr ds) = some ds := rfl
@[simp] theorem tuple_own {i : Nat} : gTuple (.own i) e s = match asSeq (vw (.own i) e s) with | some ds => .ok (.tup ds) e s | none => .stuck := rfl
@[simp] theorem list_own {i : Nat} : gList (.own i) e s = match asSeq (vw (.own i) e s) with | some ds => .ok (.lst ds) e s | none => .stuck := rfl
@[simp] theorem len_own {i : Nat} : gLen (.own i) e s = match vw (.own i) e s with
  | .str z => if z.length ≤ lim then .ok (.int z.length) e s else .stuck
  | .dk kvs => .ok (.int kvs.length) e s
  | d => (match asSeq d with | some ds => .ok (.int ds.length) e s | none => .stuck) := rfl
theorem isi_at {T t : String} (h : tyName d = some t) : gIsi T d e s = .ok (.bl (isTy T t)) e s := by
  unfold gIsi
  rw [vw_ty (by unfold Ty; rw [h]; rfl), h]
@[simp] theorem isi_non {T : String} : gIsi T (.non) e s = .ok (.bl (isTy T "NoneType")) e s := rfl
@[simp] theorem isi_bl {T : String} {b : Bool} : gIsi T (.bl b) e s = .ok (.bl (isTy T "bool")) e s := rfl
@[simp] theorem isi_int {T : String} {b : Int} : gIsi T (.int b) e s = .ok (.bl (isTy T "int")) e s := rfl
@[simp] theorem isi_str {T : String} {b : Str} : gIsi T (.str b) e s = .ok (.bl (isTy T "str")) e s := rfl
@[simp] theorem isi_tup {T : String} {b : List D} : gIsi T (.tup b) e s = .ok (.bl (isTy T "tuple")) e s := rfl
@[simp] theorem isi_lst {T : String} {b : List D} : gIsi T (.lst b) e s = .ok (.bl (isTy T "list")) e s := rfl
@[simp] theorem isi_dk {T : String} {b : List (Key × D)} : gIsi T (.dk b) e s = .ok (.bl (isTy T "dict")) e s := rfl
theorem all_at {α : Type} (f : α → Bool) (l : List α) : gAll (.lst (l.map fun x => .bl (f x))) e s = .ok (.bl (l.all f)) e s := by
  unfold gAll
  simp only [vw_lst, asBls_map]
  rw [List.all_map]
  rfl
theorem addL {a b : List D} : gAdd (.lst a) (.lst b) e s = if a.length + b.length ≤ lim then .ok (.lst (a ++ b)) e s else .stuck := by
  unfold gAdd; rfl
theorem addT {a b : List D} : gAdd (.tup a) (.tup b) e s = if a.length + b.length ≤ lim then .ok (.tup (a ++ b)) e s else .stuck := by
  unfold gAdd; rfl
theorem addL' {a b : List D} (h : a.length + b.length ≤ lim) : gAdd (.lst a) (.lst b) e s = .ok (.lst (a ++ b)) e s := by rw [addL, if_pos h]
theorem addT' {a b : List D} (h : a.length + b.length ≤ lim) : gAdd (.tup a) (.tup b) e s = .ok (.tup (a ++ b)) e s := by rw [addT, if_pos h]
end

/-! ### equal to itself -/
mutual
def pd : D → Bool
  | .non => true
  | .bl _ => true
  | .int _ => true
  | .str _ => true
  | .tup ds => pds ds
  | .lst ds => pds ds
  | .dk kvs => decide (kvs.map (·.1)).Nodup && pdk kvs
  | _ => false
def pds : List D → Bool
  | [] => true
  | d :: ds => pd d && pds ds
def pdk : List (Key × D) → Bool
  | [] => true
  | (_, d) :: ds => pd d && pdk ds
end
theorem lk_nd : ∀ {kvs : List (Key × D)} {k : Key} {d : D}, (kvs.map (·.1)).Nodup → (k, d) ∈ kvs → lk kvs k = some d
  | (k', d') :: r, k, d, h, hm => by
    rw [List.map_cons, List.nodup_cons] at h
    unfold lk
    rcases List.mem_cons.mp hm with hm | hm
    · cases hm
      rw [if_pos rfl]
    · rw [if_neg (fun z => h.1 (List.mem_map.mpr ⟨(k, d), hm, z.symm⟩))]
      exact lk_nd h.2 hm
mutual
theorem deq_refl : ∀ {d : D}, pd d = true → deq d d = some true
  | .non, _ => rfl
  | .bl b, _ => by unfold deq; simp
  | .int b, _ => by unfold deq; simp
  | .str b, _ => by unfold deq; simp
  | .tup ds, h => by
    unfold pd at h
    unfold deq
    rw [deqs_refl h]
    simp
  | .lst ds, h => by
    unfold pd at h
    unfold deq
    rw [if_pos rfl, deqs_refl h]
  | .dk kvs, h => by
    unfold pd at h
    rw [Bool.and_eq_true] at h
    unfold deq
    rw [deqk_refl h.2 (fun k d m => lk_nd (by simpa using h.1) m)]
    simp
  | .scr _, h => nomatch h
  | .dt _, h => nomatch h
  | .dn _, h => nomatch h
  | .ref _, h => nomatch h
  | .own _, h => nomatch h
theorem deqs_refl : ∀ {ds : List D}, pds ds = true → deqs ds ds = some true
  | [], _ => by unfold deqs; rfl
  | d :: ds, h => by
    unfold pds at h
    rw [Bool.and_eq_true] at h
    unfold deqs
    rw [deq_refl h.1, deqs_refl h.2]
    rfl
theorem deqk_refl : ∀ {ds ys : List (Key × D)}, pdk ds = true → (∀ k d, (k, d) ∈ ds → lk ys k = some d) → deqk ds ys = some true
  | [], _, _, _ => by unfold deqk; rfl
  | (k, d) :: ds, ys, h, hm => by
    unfold pdk at h
    rw [Bool.and_eq_true] at h
    unfold deqk
    rw [hm k d List.mem_cons_self]
    simp only [deq_refl h.1, deqk_refl h.2 fun k d m => hm k d (List.mem_cons_of_mem _ m)]
    rfl
end
theorem pds_all : ∀ {ds : List D}, (∀ d ∈ ds, pd d = true) → pds ds = true
  | [], _ => rfl
  | d :: ds, h => by
    unfold pds
    rw [h d List.mem_cons_self, pds_all fun x m => h x (List.mem_cons_of_mem _ m)]
    rfl
theorem depths_le {n : Nat} : ∀ {ds : List D}, (∀ d ∈ ds, depth d ≤ n) → depths ds ≤ n
  | [], _ => by unfold depths; exact Nat.zero_le _
  | d :: ds, h => by
    unfold depths
    exact Nat.max_le.mpr ⟨h d List.mem_cons_self, depths_le fun x m => h x (List.mem_cons_of_mem _ m)⟩
theorem ty_pd {d : D} (h : pd d = true) : Ty d = true := by cases d <;> first | rfl | cases h
theorem eq_refl {d : D} {e : Sl} {s : Sto} (h : pd d = true) (hd : depth d < 40) : gEq d d e s = .ok (.bl true) e s := by
  unfold gEq
  rw [vw_ty (ty_pd h), if_pos hd, deq_refl h]
/-! ### for -/
theorem sFor_inv {bind : BF} {g : SF} {fi : IF} {e e0 : Sl} {s : Sto} {ds : List D} (I : Nat → Sl → Prop) (hi : fi e s = .ok ds e0 s) (h0 : I 0 e0)
    (h : ∀ m e x, ds[m]? = some x → I m e → ∃ e1 e2, bind x e = some e1 ∧ (g e1 s = .nx e2 s ∨ g e1 s = .ct e2 s) ∧ I (m + 1) e2) :
    ∃ e', sFor fi bind g e s = .nx e' s ∧ I ds.length e' := by
  rw [sFor_at hi]
  obtain ⟨e', h1, h2⟩ := forL_inv (bind := bind) (g := g) (s := s) I ds 0 e0 h0 (fun m e x _ _ hx hI => h m e x (by simpa using hx) hI)
  exact ⟨e', h1, by simpa using h2⟩
theorem rngD_get {lo : Int} {n m : Nat} {x : D} (h : (rngD lo n)[m]? = some x) : m < n ∧ x = .int (lo + (m : Nat)) := by
  have hm : m < n := by
    have := (List.getElem?_eq_some_iff.mp h).1
    simpa using this
  rw [rngD_at hm] at h
  cases h
  exact ⟨hm, rfl⟩
theorem sFor_rng {i : Nat} {g : SF} {f : EF} {e : Sl} {s : Sto} {n : Nat} (I : Nat → Sl → Prop) (hi : f e s = .ok (.int n) e s) (hn : n ≤ lim) (h0 : I 0 e)
    (h : ∀ m e, m < n → I m e → ∃ e2, (g (e.set i (some (.val (.int m)))) s = .nx e2 s ∨ g (e.set i (some (.val (.int m)))) s = .ct e2 s) ∧ I (m + 1) e2) :
    ∃ e', sFor (iRange1 f) (bName i) g e s = .nx e' s ∧ I n e' := by
  obtain ⟨e', h1, h2⟩ := sFor_inv (bind := bName i) (g := g) (s := s) (ds := rngD 0 n) I (iRange1_at hi hn) h0 (fun m e x hx hI => by
    obtain ⟨hm, rfl⟩ := rngD_get hx
    obtain ⟨e2, h3, h4⟩ := h m e hm hI
    exact ⟨_, e2, rfl, by simpa using h3, h4⟩)
  exact ⟨e', h1, by simpa using h2⟩
theorem comp_rng {i : Nat} {ft fe : EF} {f : EF} {e : Sl} {s : Sto} {n : Nat} (p : Nat → Bool) (g : Nat → D) (hi : f e s = .ok (.int n) e s) (hn : n ≤ lim) (he : e[i]? = some none)
    (h : ∀ m, m < n → ft (e.set i (some (.val (.int m)))) s = .ok (.bl (p m)) (e.set i (some (.val (.int m)))) s ∧ (p m = true → eFz fe (e.set i (some (.val (.int m)))) s = .ok (g m) (e.set i (some (.val (.int m)))) s)) :
    eComp [i] (iRange1 f) (bName i) ft fe e s = .ok (.lst (((List.range n).filter p).map g)) e s := by
  have hz : ∀ x, (e.set i x).set i none = e := fun x => by
    rw [List.set_set]
    have := (List.getElem?_eq_some_iff.mp he)
    obtain ⟨h1, h2⟩ := this
    rw [← h2]
    simp
  have hw : wipeE e [i] = e := by
    show (wipeE e []).set i none = e
    have := hz none
    rwa [List.set_set] at this
  rw [eComp_at (iRange1_at hi hn), hw]
  rw [compL_map (fun d => e.set i (some (.val d))) (fun d => match d with | .int j => p j.toNat | _ => false) (fun d => match d with | .int j => g j.toNat | _ => d) (rngD 0 n) [] (fun x hx => by
    obtain ⟨m, hm, rfl⟩ := rngD_mem hx
    obtain ⟨h1, h2⟩ := h m hm
    refine ⟨rfl, ?_, ?_, hz _⟩
    · simpa using h1
    · simpa using h2) (by simpa using hn)]
  congr 2
  unfold rngD
  rw [List.nil_append, List.filter_map, List.map_map]
  congr 1
  · funext x
    simp
  · congr 1
    funext x
    simp
theorem comp_seq {i : Nat} {ft fe : EF} {f : EF} {e : Sl} {s : Sto} {d : D} {ds : List D} (p : D → Bool) (g : D → D) (hi : eFz f e s = .ok d e s) (hd : asSeq d = some ds) (hn : ds.length ≤ lim) (he : e[i]? = some none)
    (h : ∀ x ∈ ds, ft (e.set i (some (.val x))) s = .ok (.bl (p x)) (e.set i (some (.val x))) s ∧ (p x = true → eFz fe (e.set i (some (.val x))) s = .ok (g x) (e.set i (some (.val x))) s)) :
    eComp [i] (iSeq f) (bName i) ft fe e s = .ok (.lst ((ds.filter p).map g)) e s := by
  have hz : ∀ x, (e.set i x).set i none = e := fun x => by
    rw [List.set_set]
    have := (List.getElem?_eq_some_iff.mp he)
    obtain ⟨h1, h2⟩ := this
    rw [← h2]
    simp
  have hw : wipeE e [i] = e := by
    show (wipeE e []).set i none = e
    have := hz none
    rwa [List.set_set] at this
  rw [eComp_at (iSeq_at hi hd), hw]
  exact compL_map (fun d => e.set i (some (.val d))) p g ds [] (fun x hx => ⟨rfl, (h x hx).1, (h x hx).2, hz (some (.val x))⟩) (by simpa using hn)
/-- the same, whatever the name held -/
theorem comp_rngW {i : Nat} {ft fe : EF} {f : EF} {e : Sl} {s : Sto} {n : Nat} (p : Nat → Bool) (g : Nat → D) (hi : f e s = .ok (.int n) e s) (hn : n ≤ lim)
    (h : ∀ m, m < n → ft (e.set i (some (.val (.int m)))) s = .ok (.bl (p m)) (e.set i (some (.val (.int m)))) s ∧ (p m = true → eFz fe (e.set i (some (.val (.int m)))) s = .ok (g m) (e.set i (some (.val (.int m)))) s)) :
    eComp [i] (iRange1 f) (bName i) ft fe e s = .ok (.lst (((List.range n).filter p).map g)) (e.set i none) s := by
  have hw : wipeE e [i] = e.set i none := rfl
  rw [eComp_at (iRange1_at hi hn), hw]
  rw [compL_map (fun d => e.set i (some (.val d))) (fun d => match d with | .int j => p j.toNat | _ => false) (fun d => match d with | .int j => g j.toNat | _ => d) (rngD 0 n) [] (fun x hx => by
    obtain ⟨m, hm, rfl⟩ := rngD_mem hx
    obtain ⟨h1, h2⟩ := h m hm
    refine ⟨by unfold bName; rw [List.set_set], ?_, ?_, by show (e.set i _).set i none = _; rw [List.set_set]⟩
    · simpa using h1
    · simpa using h2) (by simpa using hn)]
  congr 2
  unfold rngD
  rw [List.nil_append, List.filter_map, List.map_map]
  congr 1
  · funext x
    simp
  · congr 1
    funext x
    simp
end DL
end
section
set_option Elab.async false
set_option linter.all false
set_option maxRecDepth 100000
set_option maxHeartbeats 4000000
set_option autoImplicit false
/-! DLZ: the law's end: the script, the answer. -/
namespace DL
open PySem PySem.Spec L2
open PyProof.Rows hiding St
def spScr (K : PySem.W.Frag) : Sp := fun vs H Q _ => ∃ (a : Addr) (ns : List Int), vs = [.ref a] ∧ ns.length ≤ 63 ∧ Only H ∧ SqL K H a (ns.map V.int) ∧ ∀ H', Q (.bl true) H'
theorem scr_rep {K : PySem.W.Frag} {H : Hp} {a : Addr} {ns : List Int} (h : SqL K H a (ns.map V.int)) : Rep K (fun b => H b ≠ none) [] H (.ref a) (.scr (ns.map .int)) := by
  refine .scr ?_ (reps_ints ns)
  rcases h with h | h
  · refine .inl ⟨?_, h⟩
    rcases h with h | ⟨o, h⟩
    · show H a ≠ none
      rw [h]; simp
    · show H a ≠ none
      rw [h]; simp
  · exact .inr fun H' => .inr h
theorem scr_ok {P : Program} {w : World} {K : PySem.W.Frag} {mg : Str → Option Value} {base : Heap} {k : Nat} {f : Addr} {fd : FuncData} {ps : List Str} {fn : Fn} (F : FnOk P w K mg base (CX P w) k f fd ps (spD K mg 1 fn))
    (hfn : ∀ ns : List Int, ns.length ≤ 63 → ∃ st, fn [.scr (ns.map .int)] [] = .ok (.val (.bl true)) st) : FnOk P w K mg base (CX P w) k f fd ps (spScr K) := by
  refine F.imp fun vs H Q E h => ?_
  obtain ⟨a, ns, rfl, hl, ho, hs, q⟩ := h
  refine ⟨fun b => H b ≠ none, [], [], [.scr (ns.map .int)], rfl, ⟨rfl, List.nodup_nil, fun _ h => (nomatch h), fun _ h => h, fun i a o h => by simp at h⟩, .cons (scr_rep hs) .nil, ?_⟩
  obtain ⟨st, hf⟩ := hfn ns hl
  rw [hf]
  intro F' ρ' H' v _ _ rv
  have : v = .bl true := by
    have rv' : Rep K F' ρ' H' v (.bl true) := rv
    cases rv'
    rfl
  subst this
  exact q H'
/-- the goal that k_head leaves -/
theorem law_walk {l : PySem.W.OpenLaw} {q : Program} {loose : List Str} {XP : (Str → Option Value) → Heap → Prop} {YP : World → Heap → Prop} {d : DefRec} {K : Params → PySem.W.Frag} {k : Nat} {x : Str} (hr : Room k callerA) (hn : l.most = some 63) (hdf : d.params.defaults = [])
    (hY : ∀ (w : World) (h : Heap), YP w h → (K w.params).In h)
    (F : ∀ (w : World) (mg : Str → Option Value) (fa : Addr) (h : Heap), (K w.params).In h → h.Ns mainGlobals mg → mg d.name = some (.ref fa) →
      ∃ fd : FuncData, (∀ (s : Shared) (u : Value), BindsTo s fd ⟨[u], []⟩ [(x, u)]) ∧ ∀ base : Heap, (K w.params).In base → base.Ns mainGlobals mg → FnOk l.prog w (K w.params) mg base (CX l.prog w) k fa fd [x] (spScr (K w.params))) :
    PySem.W.WalkO q loose XP YP l.row.toRowW d [] (fun f vs => PySem.call f vs) :=
  L2.walk_of (n := 63) (k := k) (x := x) (CX := fun w => CX l.prog w) (sp := fun w => spScr (K w.params)) hn (by decide) hdf hr hY F (fun _ H a ns hl ho hS => ⟨a, ns, rfl, hl, ho, hS, fun _ => rfl⟩) fun _ _ _ _ _ z => by
    obtain ⟨_, _, _, _, _, _, _, _, _, _, _, _, z⟩ := z
    exact z
end DL
end
section
set_option Elab.async false
set_option linter.all false
set_option maxRecDepth 100000
set_option maxHeartbeats 4000000
/-! printed by gen.py: what each def does, and that it does -/
namespace DL
open PySem PySem.Spec L2
open PyProof.Rows hiding St
def topS (i : Nat) : Stmt := PySem.Challenge.pw_guesshush_k01_programs.main.body.getD i (.Pass ⟨0, 0, 0, 0⟩)
def tab_SHAPES : List (Str × Option Str) := [("ask", some "r"), ("mix", some "rrr"), ("load", some "rAr"), ("mask", some "rAr"), ("test", some "rAt"), ("put", some "sr"), ("get", some "rs"), ("fence", some ""), ("jump", some "t"), ("end", some ""), ("nothing", none)]
structure Txt (K : PySem.W.Frag) (w : World) (mg : Str → Option Value) : Prop where
  n_abs : mg "abs" = none
  n_all : mg "all" = none
  n_bool : mg "bool" = none
  n_dict : mg "dict" = none
  n_int : mg "int" = none
  n_isinstance : mg "isinstance" = none
  n_len : mg "len" = none
  n_list : mg "list" = none
  n_range : mg "range" = none
  n_sorted : mg "sorted" = none
  n_str : mg "str" = none
  n_tuple : mg "tuple" = none
  c_REGISTERS : Cst K mg "REGISTERS" (.int 4)
  c_SLOTS : Cst K mg "SLOTS" (.int 2)
  c_ARRAYS : Cst K mg "ARRAYS" (.int 2)
  c_MOST_ROWS : Cst K mg "MOST_ROWS" (.int 32)
  t_SHAPES : Tab K w mg "SHAPES" tab_SHAPES
section
variable {P : Program} {w : World} {K : PySem.W.Frag} {mg : Str → Option Value} {base : Heap}
/-! ### is_number -/
abbrev s_is_number : Stmt := topS 6
theorem sc_is_number : FnScope ["value", "many"] ["value", "many"] (defScope s_is_number) := ⟨rfl, rfl, rfl, by decide +kernel, rfl, by decide +kernel, by decide +kernel⟩
noncomputable def g_is_number : SF :=
  (sRet (eAnd (eUn (gIsi "int") (eVar 0)) (eAnd (eUn gNot (eUn (gIsi "bool") (eVar 0))) (eChain bLe bLt (eK (.int 0)) (eVar 0) (eVar 1)))))
noncomputable def fn_is_number : Fn := fnOf 2 g_is_number
theorem fk_is_number {f : Addr} {fd : FuncData} (F : Fun K "is_number" "is_number" s_is_number f fd) (T : Txt K w mg)  :
    FnOk P w K mg base (CX P w) 1 f fd ["value", "many"] (spD K mg 2 fn_is_number) :=
  fn_ok F sc_is_number (fun c cdv A outer s H E B =>
    have S := sc_is_number
    have hr : Room 0 _ := B.room
    have hu := hu_of B.room
    have hv := B.room.units
    (dss_one (ds_ret (de_and (de_isi kit_int (by rfl) T.n_isinstance (by rfl) T.n_int (by decide +kernel) (de_var 0)) (de_and (de_not (de_isi kit_bool (by rfl) T.n_isinstance (by rfl) T.n_bool (by decide +kernel) (de_var 0))) (de_one (ch_leLt de_int (de_var 0) (de_var 1)).e))))))
theorem ok_is_number {f : Addr} {fd : FuncData} (F : Fun K "is_number" "is_number" s_is_number f fd) (gf : mg "is_number" = some (.ref f)) (T : Txt K w mg)  :
    Callee P w K mg base "is_number" 2 1 fn_is_number :=
  ⟨f, fd, ["value", "many"], fk_is_number F T , gf, F.kp, F.binds (ps := ["value", "many"]) fun _ _ _ _ _ _ us hl => match us, hl with | [_, _], _ => rfl⟩
/-! ### most_of -/
abbrev s_most_of : Stmt := topS 7
theorem sc_most_of : FnScope ["letter", "rows"] ["letter", "rows"] (defScope s_most_of) := ⟨rfl, rfl, rfl, by decide +kernel, rfl, by decide +kernel, by decide +kernel⟩
noncomputable def g_most_of : SF :=
  (sSeq (sIf (eBin gEq (eVar 0) (eK (.str (Str.ofString "r")))) (sRet (eK (.int 4))) sNop)
    (sSeq (sIf (eBin gEq (eVar 0) (eK (.str (Str.ofString "s")))) (sRet (eK (.int 2))) sNop)
    (sSeq (sIf (eBin gEq (eVar 0) (eK (.str (Str.ofString "A")))) (sRet (eK (.int 2))) sNop)
    (sRet (eVar 1)))))
noncomputable def fn_most_of : Fn := fnOf 2 g_most_of
theorem fk_most_of {f : Addr} {fd : FuncData} (F : Fun K "most_of" "most_of" s_most_of f fd) (T : Txt K w mg)  :
    FnOk P w K mg base (CX P w) 1 f fd ["letter", "rows"] (spD K mg 2 fn_most_of) :=
  fn_ok F sc_most_of (fun c cdv A outer s H E B =>
    have S := sc_most_of
    have hr : Room 0 _ := B.room
    have hu := hu_of B.room
    have hv := B.room.units
    (dss_cons (ds_if (cm_eq hv (de_var 0) de_str).t (dss_one (ds_ret (de_glob T.c_REGISTERS (by rfl)))) dss_nil)
      (dss_cons (ds_if (cm_eq hv (de_var 0) de_str).t (dss_one (ds_ret (de_glob T.c_SLOTS (by rfl)))) dss_nil)
      (dss_cons (ds_if (cm_eq hv (de_var 0) de_str).t (dss_one (ds_ret (de_glob T.c_ARRAYS (by rfl)))) dss_nil)
      (dss_one (ds_ret (de_var 1)))))))
theorem ok_most_of {f : Addr} {fd : FuncData} (F : Fun K "most_of" "most_of" s_most_of f fd) (gf : mg "most_of" = some (.ref f)) (T : Txt K w mg)  :
    Callee P w K mg base "most_of" 2 1 fn_most_of :=
  ⟨f, fd, ["letter", "rows"], fk_most_of F T , gf, F.kp, F.binds (ps := ["letter", "rows"]) fun _ _ _ _ _ _ us hl => match us, hl with | [_, _], _ => rfl⟩
/-! ### is_row -/
abbrev s_is_row : Stmt := topS 8
theorem sc_is_row : FnScope ["value", "rows", "shape", "index"] ["value", "rows"] (defScope s_is_row) := ⟨rfl, rfl, rfl, by decide +kernel, rfl, by decide +kernel, by decide +kernel⟩
noncomputable def g_is_row : SF :=
  (sSeq (sIf (eOr (eUn gNot (eUn (gIsi "tuple") (eVar 0))) (eOr (eBin gEq (eUn gLen (eVar 0)) (eK (.int 0))) (eOr (eUn gNot (eUn (gIsi "str") (eBin gIx (eVar 0) (eK (.int 0))))) (eUn (gInTab true tab_SHAPES) (eBin gIx (eVar 0) (eK (.int 0))))))) (sRet (eK (.bl false))) sNop)
    (sSeq (sSet 2 (eUn (gTab tab_SHAPES) (eBin gIx (eVar 0) (eK (.int 0)))))
    (sSeq (sIf (eBin gNe (eUn gLen (eVar 0)) (eBin gAdd (eK (.int 1)) (eUn gLen (eVar 2)))) (sRet (eK (.bl false))) sNop)
    (sRet (eUn gAll (eComp [3] (iRange1 (eUn gLen (eVar 2))) (bName 3) eYes (eCall 2 fn_is_number (aCons (eBin gIx (eVar 0) (eBin gAdd (eVar 3) (eK (.int 1)))) (aCons (eCall 2 fn_most_of (aCons (eBin gIx (eVar 2) (eVar 3)) (aCons (eVar 1) aNil))) aNil)))))))))
noncomputable def fn_is_row : Fn := fnOf 4 g_is_row
theorem fk_is_row {f : Addr} {fd : FuncData} (F : Fun K "is_row" "is_row" s_is_row f fd) (T : Txt K w mg) (C_is_number : Callee P w K mg base "is_number" 2 1 fn_is_number) (C_most_of : Callee P w K mg base "most_of" 2 1 fn_most_of) :
    FnOk P w K mg base (CX P w) 2 f fd ["value", "rows"] (spD K mg 2 fn_is_row) :=
  fn_ok F sc_is_row (fun c cdv A outer s H E B =>
    have S := sc_is_row
    have hr : Room 1 _ := B.room
    have hu := hu_of B.room
    have hv := B.room.units
    (dss_cons (ds_if (dw_or (dt_not (dt_val (de_isi kit_tuple (by rfl) T.n_isinstance (by rfl) T.n_tuple (by decide +kernel) (de_var 0)))) (dw_or (cm_eq hv (de_len (by rfl) T.n_len (de_var 0)) de_int).t (dw_or (dt_not (dt_val (de_isi kit_str (by rfl) T.n_isinstance (by rfl) T.n_str (by decide +kernel) (de_ix hu (de_var 0) de_int)))) (dw_or1 (cm_notInTab T.t_SHAPES (by rfl) (de_ix hu (de_var 0) de_int)).t)))).t (dss_one (ds_ret de_bl)) dss_nil)
      (dss_cons (ds_set 2 S.nd (de_tab T.t_SHAPES (by rfl) (de_ix hu (de_var 0) de_int)))
      (dss_cons (ds_if (cm_ne hv (de_len (by rfl) T.n_len (de_var 0)) (de_add de_int (de_len (by rfl) T.n_len (de_var 2)))).t (dss_one (ds_ret de_bl)) dss_nil)
      (dss_one (ds_ret (de_all rfl (by rfl) T.n_all (de_dn (dn_comp (own := [("index", 3)]) rfl S.nd (di_range1 (by rfl) T.n_range (de_len (by rfl) T.n_len (de_var 2))) (blkOk_by (N := ["value", "rows", "shape", "index"]) (sc := defScope s_is_row) (by decide +kernel)) (tg_name 3) (fun _ _ _ _ _ => (pg_name (i := 3) S.nd rfl (by first | exact Or.inl rfl | exact Or.inr rfl))) (fun _ _ _ _ _ => dts_nil) (fun _ _ _ _ _ => (de_call (C_is_number) (hr.mono (by decide)) takes0 (by rfl) (da_cons (de_ix hu (de_var 0) (de_add (de_var 3) de_int)) (da_cons (de_call (C_most_of) (hr.mono (by decide)) takes0 (by rfl) (da_cons (de_ix hu (de_var 2) (de_var 3)) (da_cons (de_var 1) da_nil))) da_nil)))))))))))))
theorem ok_is_row {f : Addr} {fd : FuncData} (F : Fun K "is_row" "is_row" s_is_row f fd) (gf : mg "is_row" = some (.ref f)) (T : Txt K w mg) (C_is_number : Callee P w K mg base "is_number" 2 1 fn_is_number) (C_most_of : Callee P w K mg base "most_of" 2 1 fn_most_of) :
    Callee P w K mg base "is_row" 2 2 fn_is_row :=
  ⟨f, fd, ["value", "rows"], fk_is_row F T C_is_number C_most_of, gf, F.kp, F.binds (ps := ["value", "rows"]) fun _ _ _ _ _ _ us hl => match us, hl with | [_, _], _ => rfl⟩
/-! ### is_secret -/
abbrev s_is_secret : Stmt := topS 9
theorem sc_is_secret : FnScope ["value", "one"] ["value"] (defScope s_is_secret) := ⟨rfl, rfl, rfl, by decide +kernel, rfl, by decide +kernel, by decide +kernel⟩
noncomputable def g_is_secret : SF :=
  (sSeq (sIf (eOr (eUn gNot (eUn (gIsi "tuple") (eVar 0))) (eUn gNot (eUn gAll (eComp [1] (iSeq (eVar 0)) (bName 1) eYes (eCall 2 fn_is_number (aCons (eVar 1) (aCons (eK (.int 4)) aNil))))))) (sRet (eK (.bl false))) sNop)
    (sRet (eBin gEq (eUn gList (eVar 0)) (eUn gSorted (eUn gDict (eComp [1] (iSeq (eVar 0)) (bName 1) eYes (eTup (aCons (eVar 1) (aCons (eK (.bl true)) aNil)))))))))
noncomputable def fn_is_secret : Fn := fnOf 2 g_is_secret
theorem fk_is_secret {f : Addr} {fd : FuncData} (F : Fun K "is_secret" "is_secret" s_is_secret f fd) (T : Txt K w mg) (C_is_number : Callee P w K mg base "is_number" 2 1 fn_is_number) :
    FnOk P w K mg base (CX P w) 2 f fd ["value"] (spD K mg 1 fn_is_secret) :=
  fn_ok F sc_is_secret (fun c cdv A outer s H E B =>
    have S := sc_is_secret
    have hr : Room 1 _ := B.room
    have hu := hu_of B.room
    have hv := B.room.units
    (dss_cons (ds_if (dw_or (dt_not (dt_val (de_isi kit_tuple (by rfl) T.n_isinstance (by rfl) T.n_tuple (by decide +kernel) (de_var 0)))) (dw_or1 (dt_not (dt_val (de_all rfl (by rfl) T.n_all (de_dn (dn_comp (own := [("one", 1)]) rfl S.nd (di_seq (de_var 0)) (blkOk_by (N := ["value", "one"]) (sc := defScope s_is_secret) (by decide +kernel)) (tg_name 1) (fun _ _ _ _ _ => (pg_name (i := 1) S.nd rfl (by first | exact Or.inl rfl | exact Or.inr rfl))) (fun _ _ _ _ _ => dts_nil) (fun _ _ _ _ _ => (de_call (C_is_number) (hr.mono (by decide)) takes0 (by rfl) (da_cons (de_var 1) (da_cons (de_glob T.c_REGISTERS (by rfl)) da_nil))))))))))).t (dss_one (ds_ret de_bl)) dss_nil)
      (dss_one (ds_ret (cm_eq hv (de_dn (dn_list (by rfl) T.n_list (de_var 0))) (de_dn (dn_sorted rfl (by rfl) T.n_sorted (de_dn (dn_dictOf rfl (by rfl) T.n_dict (de_dn (dn_comp (own := [("one", 1)]) rfl S.nd (di_seq (de_var 0)) (blkOk_by (N := ["value", "one"]) (sc := defScope s_is_secret) (by decide +kernel)) (tg_name 1) (fun _ _ _ _ _ => (pg_name (i := 1) S.nd rfl (by first | exact Or.inl rfl | exact Or.inr rfl))) (fun _ _ _ _ _ => dts_nil) (fun _ _ _ _ _ => (de_tup (da_cons (de_var 1) (da_cons de_bl da_nil))))))))))).e))))
theorem ok_is_secret {f : Addr} {fd : FuncData} (F : Fun K "is_secret" "is_secret" s_is_secret f fd) (gf : mg "is_secret" = some (.ref f)) (T : Txt K w mg) (C_is_number : Callee P w K mg base "is_number" 2 1 fn_is_number) :
    Callee P w K mg base "is_secret" 1 2 fn_is_secret :=
  ⟨f, fd, ["value"], fk_is_secret F T C_is_number, gf, F.kp, F.binds (ps := ["value"]) fun _ _ _ _ _ _ us hl => match us, hl with | [_], _ => rfl⟩
/-! ### is_program -/
abbrev s_is_program : Stmt := topS 10
theorem sc_is_program : FnScope ["value", "rows", "row"] ["value"] (defScope s_is_program) := ⟨rfl, rfl, rfl, by decide +kernel, rfl, by decide +kernel, by decide +kernel⟩
noncomputable def g_is_program : SF :=
  (sSeq (sIf (eOr (eUn gNot (eUn (gIsi "dict") (eVar 0))) (eOr (eBin gNe (eUn gLen (eVar 0)) (eK (.int 2))) (eOr (eBin (gIn true) (eK (.str (Str.ofString "secret"))) (eVar 0)) (eBin (gIn true) (eK (.str (Str.ofString "rows"))) (eVar 0))))) (sRet (eK (.bl false))) sNop)
    (sSeq (sSet 1 (eBin gIx (eVar 0) (eK (.str (Str.ofString "rows")))))
    (sSeq (sIf (eOr (eUn gNot (eCall 1 fn_is_secret (aCons (eBin gIx (eVar 0) (eK (.str (Str.ofString "secret")))) aNil))) (eOr (eUn gNot (eUn (gIsi "tuple") (eVar 1))) (eUn gNot (eChain bLe bLe (eK (.int 1)) (eUn gLen (eVar 1)) (eK (.int 32)))))) (sRet (eK (.bl false))) sNop)
    (sRet (eAnd (eUn gAll (eComp [2] (iSeq (eVar 1)) (bName 2) eYes (eCall 2 fn_is_row (aCons (eVar 2) (aCons (eUn gLen (eVar 1)) aNil))))) (eBin (gIn false) (eBin gIx (eBin gIx (eVar 1) (eUn gNeg (eK (.int 1)))) (eK (.int 0))) (eTup (aCons (eK (.str (Str.ofString "jump"))) (aCons (eK (.str (Str.ofString "end"))) aNil)))))))))
noncomputable def fn_is_program : Fn := fnOf 3 g_is_program
theorem fk_is_program {f : Addr} {fd : FuncData} (F : Fun K "is_program" "is_program" s_is_program f fd) (T : Txt K w mg) (C_is_row : Callee P w K mg base "is_row" 2 2 fn_is_row) (C_is_secret : Callee P w K mg base "is_secret" 1 2 fn_is_secret) :
    FnOk P w K mg base (CX P w) 3 f fd ["value"] (spD K mg 1 fn_is_program) :=
  fn_ok F sc_is_program (fun c cdv A outer s H E B =>
    have S := sc_is_program
    have hr : Room 2 _ := B.room
    have hu := hu_of B.room
    have hv := B.room.units
    (dss_cons (ds_if (dw_or (dt_not (dt_val (de_isi kit_dict (by rfl) T.n_isinstance (by rfl) T.n_dict (by decide +kernel) (de_var 0)))) (dw_or (cm_ne hv (de_len (by rfl) T.n_len (de_var 0)) de_int).t (dw_or (cm_notIn hu de_str (de_var 0)).t (dw_or1 (cm_notIn hu de_str (de_var 0)).t)))).t (dss_one (ds_ret de_bl)) dss_nil)
      (dss_cons (ds_set 1 S.nd (de_ix hu (de_var 0) de_str))
      (dss_cons (ds_if (dw_or (dt_not (dt_val (de_call (C_is_secret) (hr.mono (by decide)) B.tk (by rfl) (da_cons (de_ix hu (de_var 0) de_str) da_nil)))) (dw_or (dt_not (dt_val (de_isi kit_tuple (by rfl) T.n_isinstance (by rfl) T.n_tuple (by decide +kernel) (de_var 1)))) (dw_or1 (dt_not (ch_leLe de_int (de_len (by rfl) T.n_len (de_var 1)) (de_glob T.c_MOST_ROWS (by rfl))).t)))).t (dss_one (ds_ret de_bl)) dss_nil)
      (dss_one (ds_ret (de_and (de_all rfl (by rfl) T.n_all (de_dn (dn_comp (own := [("row", 2)]) rfl S.nd (di_seq (de_var 1)) (blkOk_by (N := ["value", "rows", "row"]) (sc := defScope s_is_program) (by decide +kernel)) (tg_name 2) (fun _ _ _ _ _ => (pg_name (i := 2) S.nd rfl (by first | exact Or.inl rfl | exact Or.inr rfl))) (fun _ _ _ _ _ => dts_nil) (fun _ _ _ _ _ => (de_call (C_is_row) (hr.mono (by decide)) takes0 (by rfl) (da_cons (de_var 2) (da_cons (de_len (by rfl) T.n_len (de_var 1)) da_nil))))))) (de_one (cm_in hu (de_ix hu (de_ix hu (de_var 1) (de_neg de_int)) de_int) (de_tup (da_cons de_str (da_cons de_str da_nil)))).e))))))))
theorem ok_is_program {f : Addr} {fd : FuncData} (F : Fun K "is_program" "is_program" s_is_program f fd) (gf : mg "is_program" = some (.ref f)) (T : Txt K w mg) (C_is_row : Callee P w K mg base "is_row" 2 2 fn_is_row) (C_is_secret : Callee P w K mg base "is_secret" 1 2 fn_is_secret) :
    Callee P w K mg base "is_program" 1 3 fn_is_program :=
  ⟨f, fd, ["value"], fk_is_program F T C_is_row C_is_secret, gf, F.kp, F.binds (ps := ["value"]) fun _ _ _ _ _ _ us hl => match us, hl with | [_], _ => rfl⟩
/-! ### moved -/
abbrev s_moved : Stmt := topS 11
theorem sc_moved : FnScope ["place", "places", "other"] ["place", "places"] (defScope s_moved) := ⟨rfl, rfl, rfl, by decide +kernel, rfl, by decide +kernel, by decide +kernel⟩
noncomputable def g_moved : SF :=
  (sRet (eBin gAdd (eVar 0) (eUn gLen (eComp [2] (iSeq (eVar 1)) (bName 2) (eBin (gI kLt) (eVar 2) (eVar 0)) (eVar 2)))))
noncomputable def fn_moved : Fn := fnOf 3 g_moved
theorem fk_moved {f : Addr} {fd : FuncData} (F : Fun K "moved" "moved" s_moved f fd) (T : Txt K w mg)  :
    FnOk P w K mg base (CX P w) 1 f fd ["place", "places"] (spD K mg 2 fn_moved) :=
  fn_ok F sc_moved (fun c cdv A outer s H E B =>
    have S := sc_moved
    have hr : Room 0 _ := B.room
    have hu := hu_of B.room
    have hv := B.room.units
    (dss_one (ds_ret (de_add (de_var 0) (de_len (by rfl) T.n_len (de_dn (dn_comp (own := [("other", 2)]) rfl S.nd (di_seq (de_var 1)) (blkOk_by (N := ["place", "places", "other"]) (sc := defScope s_moved) (by decide +kernel)) (tg_name 2) (fun _ _ _ _ _ => (pg_name (i := 2) S.nd rfl (by first | exact Or.inl rfl | exact Or.inr rfl))) (fun _ _ _ _ _ => (dts_one (cm_lt (de_var 2) (de_var 0)).t)) (fun _ _ _ _ _ => (de_var 2)))))))))
theorem ok_moved {f : Addr} {fd : FuncData} (F : Fun K "moved" "moved" s_moved f fd) (gf : mg "moved" = some (.ref f)) (T : Txt K w mg)  :
    Callee P w K mg base "moved" 2 1 fn_moved :=
  ⟨f, fd, ["place", "places"], fk_moved F T , gf, F.kp, F.binds (ps := ["place", "places"]) fun _ _ _ _ _ _ us hl => match us, hl with | [_, _], _ => rfl⟩
/-! ### with_fences -/
abbrev s_with_fences : Stmt := topS 12
theorem sc_with_fences : FnScope ["program", "places", "rows", "index", "row"] ["program", "places"] (defScope s_with_fences) := ⟨rfl, rfl, rfl, by decide +kernel, rfl, by decide +kernel, by decide +kernel⟩
noncomputable def b_with_fences_1 : SF :=
  (sSeq (sSet 4 (eBin gIx (eBin gIx (eVar 0) (eK (.str (Str.ofString "rows")))) (eVar 3)))
    (sSeq (sIf (eBin (gIn false) (eVar 3) (eVar 1)) (sApp 2 (eTup (aCons (eK (.str (Str.ofString "fence"))) aNil))) sNop)
    (sSeq (sIf (eOr (eBin gEq (eBin gIx (eVar 4) (eK (.int 0))) (eK (.str (Str.ofString "jump")))) (eBin gEq (eBin gIx (eVar 4) (eK (.int 0))) (eK (.str (Str.ofString "test"))))) (sSet 4 (eBin gAdd (eSl (eVar 4) none (some (eUn gNeg (eK (.int 1))))) (eTup (aCons (eCall 2 fn_moved (aCons (eBin gIx (eVar 4) (eUn gNeg (eK (.int 1)))) (aCons (eVar 1) aNil))) aNil)))) sNop)
    (sApp 2 (eVar 4)))))
noncomputable def g_with_fences : SF :=
  (sSeq (sOwn 2 (eLst aNil))
    (sSeq (sFor (iRange1 (eUn gLen (eBin gIx (eVar 0) (eK (.str (Str.ofString "rows")))))) (bName 3) b_with_fences_1)
    (sRetN (eDict [.inr (Str.ofString "secret"), .inr (Str.ofString "rows")] (aCons (eBin gIx (eVar 0) (eK (.str (Str.ofString "secret")))) (aCons (eUn gTuple (eVar 2)) aNil))))))
noncomputable def fn_with_fences : Fn := fnOf 5 g_with_fences
theorem fk_with_fences {f : Addr} {fd : FuncData} (F : Fun K "with_fences" "with_fences" s_with_fences f fd) (T : Txt K w mg) (C_moved : Callee P w K mg base "moved" 2 1 fn_moved) :
    FnOk P w K mg base (CX P w) 2 f fd ["program", "places"] (spD K mg 2 fn_with_fences) :=
  fn_ok F sc_with_fences (fun c cdv A outer s H E B =>
    have S := sc_with_fences
    have hr : Room 1 _ := B.room
    have hu := hu_of B.room
    have hv := B.room.units
    (dss_cons (ds_own 2 S.nd (dn_lst da_nil))
      (dss_cons (ds_for (passes_of rfl) rfl (di_range1 (by rfl) T.n_range (de_len (by rfl) T.n_len (de_ix hu (de_var 0) de_str))) (tg_name 3) (pg_name (i := 3) S.nd rfl (by first | exact Or.inl rfl | exact Or.inr rfl)) (dss_cons (ds_set 4 S.nd (de_ix hu (de_ix hu (de_var 0) de_str) (de_var 3)))
      (dss_cons (ds_if (cm_in hu (de_var 3) (de_var 1)).t (dss_one (ds_app 2 (de_tup (da_cons de_str da_nil)) (hx := pe_bm PySem.F.plainAttrs_list PySem.F.slot_list_append PySem.F.type_list_append mt_append (pe_var (i := 2) rfl (by first | exact Or.inl rfl | exact Or.inr (Or.inl rfl))) (pa_cons (de_tup (da_cons de_str da_nil)) pa_nil)))) dss_nil)
      (dss_cons (ds_if (dw_or (cm_eq hv (de_ix hu (de_var 4) de_int) de_str).t (dw_or1 (cm_eq hv (de_ix hu (de_var 4) de_int) de_str).t)).t (dss_one (ds_set 4 S.nd (de_add (de_sl (de_var 4) dp_none (dp_some (de_neg de_int))) (de_tup (da_cons (de_call (C_moved) (hr.mono (by decide)) B.tk (by rfl) (da_cons (de_ix hu (de_var 4) (de_neg de_int)) (da_cons (de_var 1) da_nil))) da_nil))))) dss_nil)
      (dss_one (ds_app 2 (de_var 4) (hx := pe_bm PySem.F.plainAttrs_list PySem.F.slot_list_append PySem.F.type_list_append mt_append (pe_var (i := 2) rfl (by first | exact Or.inl rfl | exact Or.inr (Or.inl rfl))) (pa_cons (de_var 4) pa_nil))))))))
      (dss_one (ds_retN (dn_dict (dp_cons kex_str (de_ix hu (de_var 0) de_str) (dp_cons kex_str (de_tuple (by rfl) T.n_tuple (de_var 2)) dp_nil))))))))
theorem ok_with_fences {f : Addr} {fd : FuncData} (F : Fun K "with_fences" "with_fences" s_with_fences f fd) (gf : mg "with_fences" = some (.ref f)) (T : Txt K w mg) (C_moved : Callee P w K mg base "moved" 2 1 fn_moved) :
    Callee P w K mg base "with_fences" 2 2 fn_with_fences :=
  ⟨f, fd, ["program", "places"], fk_with_fences F T C_moved, gf, F.kp, F.binds (ps := ["program", "places"]) fun _ _ _ _ _ _ us hl => match us, hl with | [_, _], _ => rfl⟩
/-! ### _law_tape -/
abbrev s_law_tape : Stmt := topS 14
theorem sc_law_tape : FnScope ["_law_script", "_law_tape_here", "_law_k", "_law_value", "_law_step"] ["_law_script"] (defScope s_law_tape) := ⟨rfl, rfl, rfl, by decide +kernel, rfl, by decide +kernel, by decide +kernel⟩
noncomputable def b_law_tape_1 : SF :=
  (sIf (eBin (gI fun i j => kLt j i) (eVar 3) (eK (.int 0))) (sSeq (sApp 1 (eBin (gI kMod) (eVar 3) (eK (.int 1000))))
    (sSet 3 (eBin (gI kDiv) (eVar 3) (eK (.int 1000))))) sNop)
noncomputable def b_law_tape_2 : SF :=
  (sSeq (sSet 3 (eBin (gI kMod) (eBin gAdd (eBin gAdd (eBin gMul (eVar 3) (eK (.int 48271))) (eBin gMul (eK (.int 69621)) (eBin gAdd (eVar 2) (eK (.int 1))))) (eBin gMul (eK (.int 7)) (eVar 4))) (eK (.int 2147483647))))
    (sSeq (sSet 3 (eBin (gI kMod) (eBin gMul (eVar 3) (eK (.int 16807))) (eK (.int 2147483647))))
    (sApp 1 (eBin (gI kMod) (eBin (gI kDiv) (eVar 3) (eK (.int 1000))) (eK (.int 1000))))))
noncomputable def b_law_tape_3 : SF :=
  (sSeq (sSet 3 (eUn gAbs (eUn gInt (eBin gIx (eVar 0) (eVar 2)))))
    (sIf (eBin (gI fun i j => kLe j i) (eVar 3) (eBin (gI kPow) (eK (.int 10)) (eK (.int 18)))) (sFor (iRange1 (eK (.int 60))) (bName 4) b_law_tape_1) (sFor (iRange1 (eK (.int 4))) (bName 4) b_law_tape_2)))
noncomputable def g_law_tape : SF :=
  (sSeq (sOwn 1 (eLst aNil))
    (sSeq (sFor (iRange1 (eUn gLen (eVar 0))) (bName 2) b_law_tape_3)
    (sRet (eVar 1))))
noncomputable def fn_law_tape : Fn := fnOf 5 g_law_tape
theorem fk_law_tape {f : Addr} {fd : FuncData} (F : Fun K "_law_tape" "_law_tape" s_law_tape f fd) (T : Txt K w mg)  :
    FnOk P w K mg base (CX P w) 1 f fd ["_law_script"] (spD K mg 1 fn_law_tape) :=
  fn_ok F sc_law_tape (fun c cdv A outer s H E B =>
    have S := sc_law_tape
    have hr : Room 0 _ := B.room
    have hu := hu_of B.room
    have hv := B.room.units
    (dss_cons (ds_own 1 S.nd (dn_lst da_nil))
      (dss_cons (ds_for (passes_of rfl) rfl (di_range1 (by rfl) T.n_range (de_len (by rfl) T.n_len (de_var 0))) (tg_name 2) (pg_name (i := 2) S.nd rfl (by first | exact Or.inl rfl | exact Or.inr rfl)) (dss_cons (ds_set 3 S.nd (de_abs (by rfl) T.n_abs (de_int1 (by rfl) T.n_int (de_ix hu (de_var 0) (de_var 2)))))
      (dss_one (ds_if (cm_ge (de_var 3) (de_pow de_int de_int)).t (dss_one (ds_for (passes_of rfl) rfl (di_range1 (by rfl) T.n_range de_int) (tg_name 4) (pg_name (i := 4) S.nd rfl (by first | exact Or.inl rfl | exact Or.inr rfl)) (dss_one (ds_if (cm_gt (de_var 3) de_int).t (dss_cons (ds_app 1 (de_mod (de_var 3) de_int) (hx := pe_bm PySem.F.plainAttrs_list PySem.F.slot_list_append PySem.F.type_list_append mt_append (pe_var (i := 1) rfl (by first | exact Or.inl rfl | exact Or.inr (Or.inl rfl))) (pa_cons (de_mod (de_var 3) de_int) pa_nil)))
      (dss_one (ds_set 3 S.nd (de_div (de_var 3) de_int)))) dss_nil)))) (dss_one (ds_for (passes_of rfl) rfl (di_range1 (by rfl) T.n_range de_int) (tg_name 4) (pg_name (i := 4) S.nd rfl (by first | exact Or.inl rfl | exact Or.inr rfl)) (dss_cons (ds_set 3 S.nd (de_mod (de_add (de_add (de_mul (de_var 3) de_int) (de_mul de_int (de_add (de_var 2) de_int))) (de_mul de_int (de_var 4))) de_int))
      (dss_cons (ds_set 3 S.nd (de_mod (de_mul (de_var 3) de_int) de_int))
      (dss_one (ds_app 1 (de_mod (de_div (de_var 3) de_int) de_int) (hx := pe_bm PySem.F.plainAttrs_list PySem.F.slot_list_append PySem.F.type_list_append mt_append (pe_var (i := 1) rfl (by first | exact Or.inl rfl | exact Or.inr (Or.inl rfl))) (pa_cons (de_mod (de_div (de_var 3) de_int) de_int) pa_nil))))))))))))
      (dss_one (ds_ret (de_var 1))))))
theorem ok_law_tape {f : Addr} {fd : FuncData} (F : Fun K "_law_tape" "_law_tape" s_law_tape f fd) (gf : mg "_law_tape" = some (.ref f)) (T : Txt K w mg)  :
    Callee P w K mg base "_law_tape" 1 1 fn_law_tape :=
  ⟨f, fd, ["_law_script"], fk_law_tape F T , gf, F.kp, F.binds (ps := ["_law_script"]) fun _ _ _ _ _ _ us hl => match us, hl with | [_], _ => rfl⟩
/-! ### _law_at -/
abbrev s_law_at : Stmt := topS 15
theorem sc_law_at : FnScope ["_law_tape_here", "_law_k"] ["_law_tape_here", "_law_k"] (defScope s_law_at) := ⟨rfl, rfl, rfl, by decide +kernel, rfl, by decide +kernel, by decide +kernel⟩
noncomputable def g_law_at : SF :=
  (sSeq (sIf (eBin (gI kLt) (eVar 1) (eUn gLen (eVar 0))) (sRet (eBin gIx (eVar 0) (eVar 1))) sNop)
    (sRet (eK (.int 0))))
noncomputable def fn_law_at : Fn := fnOf 2 g_law_at
theorem fk_law_at {f : Addr} {fd : FuncData} (F : Fun K "_law_at" "_law_at" s_law_at f fd) (T : Txt K w mg)  :
    FnOk P w K mg base (CX P w) 1 f fd ["_law_tape_here", "_law_k"] (spD K mg 2 fn_law_at) :=
  fn_ok F sc_law_at (fun c cdv A outer s H E B =>
    have S := sc_law_at
    have hr : Room 0 _ := B.room
    have hu := hu_of B.room
    have hv := B.room.units
    (dss_cons (ds_if (cm_lt (de_var 1) (de_len (by rfl) T.n_len (de_var 0))).t (dss_one (ds_ret (de_ix hu (de_var 0) (de_var 1)))) dss_nil)
      (dss_one (ds_ret de_int))))
theorem ok_law_at {f : Addr} {fd : FuncData} (F : Fun K "_law_at" "_law_at" s_law_at f fd) (gf : mg "_law_at" = some (.ref f)) (T : Txt K w mg)  :
    Callee P w K mg base "_law_at" 2 1 fn_law_at :=
  ⟨f, fd, ["_law_tape_here", "_law_k"], fk_law_at F T , gf, F.kp, F.binds (ps := ["_law_tape_here", "_law_k"]) fun _ _ _ _ _ _ us hl => match us, hl with | [_, _], _ => rfl⟩
/-! ### _law_row -/
abbrev s_law_row : Stmt := topS 16
theorem sc_law_row : FnScope ["_law_number", "_law_pick", "_law_other", "_law_many", "_law_kind"] ["_law_number", "_law_pick", "_law_other", "_law_many"] (defScope s_law_row) := ⟨rfl, rfl, rfl, by decide +kernel, rfl, by decide +kernel, by decide +kernel⟩
noncomputable def g_law_row : SF :=
  (sSeq (sSet 4 (eBin gIx (eLst (aCons (eK (.str (Str.ofString "ask"))) (aCons (eK (.str (Str.ofString "mix"))) (aCons (eK (.str (Str.ofString "load"))) (aCons (eK (.str (Str.ofString "load"))) (aCons (eK (.str (Str.ofString "mask"))) (aCons (eK (.str (Str.ofString "test"))) (aCons (eK (.str (Str.ofString "test"))) (aCons (eK (.str (Str.ofString "put"))) (aCons (eK (.str (Str.ofString "get"))) (aCons (eK (.str (Str.ofString "get"))) (aCons (eK (.str (Str.ofString "fence"))) (aCons (eK (.str (Str.ofString "jump"))) (aCons (eK (.str (Str.ofString "put"))) (aCons (eK (.str (Str.ofString "load"))) aNil))))))))))))))) (eBin (gI kMod) (eVar 0) (eK (.int 14)))))
    (sSeq (sIf (eBin gEq (eVar 4) (eK (.str (Str.ofString "ask")))) (sRet (eTup (aCons (eVar 4) (aCons (eBin (gI kMod) (eVar 1) (eK (.int 4))) aNil)))) sNop)
    (sSeq (sIf (eBin gEq (eVar 4) (eK (.str (Str.ofString "mix")))) (sRet (eTup (aCons (eVar 4) (aCons (eBin (gI kMod) (eVar 1) (eK (.int 4))) (aCons (eBin (gI kMod) (eBin (gI kDiv) (eVar 1) (eK (.int 4))) (eK (.int 4))) (aCons (eBin (gI kMod) (eVar 2) (eK (.int 4))) aNil)))))) sNop)
    (sSeq (sIf (eBin (gIn false) (eVar 4) (eTup (aCons (eK (.str (Str.ofString "load"))) (aCons (eK (.str (Str.ofString "mask"))) aNil)))) (sRet (eTup (aCons (eVar 4) (aCons (eBin (gI kMod) (eVar 1) (eK (.int 4))) (aCons (eBin (gI kMod) (eVar 2) (eK (.int 2))) (aCons (eBin (gI kMod) (eBin (gI kDiv) (eVar 1) (eK (.int 4))) (eK (.int 4))) aNil)))))) sNop)
    (sSeq (sIf (eBin gEq (eVar 4) (eK (.str (Str.ofString "test")))) (sRet (eTup (aCons (eVar 4) (aCons (eBin (gI kMod) (eVar 1) (eK (.int 4))) (aCons (eBin (gI kMod) (eVar 2) (eK (.int 2))) (aCons (eBin (gI kMod) (eBin gAdd (eBin (gI kDiv) (eVar 1) (eK (.int 4))) (eVar 2)) (eVar 3)) aNil)))))) sNop)
    (sSeq (sIf (eBin gEq (eVar 4) (eK (.str (Str.ofString "put")))) (sRet (eTup (aCons (eVar 4) (aCons (eBin (gI kMod) (eVar 2) (eK (.int 2))) (aCons (eBin (gI kMod) (eVar 1) (eK (.int 4))) aNil))))) sNop)
    (sSeq (sIf (eBin gEq (eVar 4) (eK (.str (Str.ofString "get")))) (sRet (eTup (aCons (eVar 4) (aCons (eBin (gI kMod) (eVar 1) (eK (.int 4))) (aCons (eBin (gI kMod) (eVar 2) (eK (.int 2))) aNil))))) sNop)
    (sSeq (sIf (eBin gEq (eVar 4) (eK (.str (Str.ofString "jump")))) (sRet (eTup (aCons (eVar 4) (aCons (eBin (gI kMod) (eBin gAdd (eVar 1) (eVar 2)) (eVar 3)) aNil)))) sNop)
    (sRet (eTup (aCons (eVar 4) aNil)))))))))))
noncomputable def fn_law_row : Fn := fnOf 5 g_law_row
theorem fk_law_row {f : Addr} {fd : FuncData} (F : Fun K "_law_row" "_law_row" s_law_row f fd) (T : Txt K w mg)  :
    FnOk P w K mg base (CX P w) 1 f fd ["_law_number", "_law_pick", "_law_other", "_law_many"] (spD K mg 4 fn_law_row) :=
  fn_ok F sc_law_row (fun c cdv A outer s H E B =>
    have S := sc_law_row
    have hr : Room 0 _ := B.room
    have hu := hu_of B.room
    have hv := B.room.units
    (dss_cons (ds_set 4 S.nd (de_ix hu (de_dn (dn_lst (da_cons de_str (da_cons de_str (da_cons de_str (da_cons de_str (da_cons de_str (da_cons de_str (da_cons de_str (da_cons de_str (da_cons de_str (da_cons de_str (da_cons de_str (da_cons de_str (da_cons de_str (da_cons de_str da_nil)))))))))))))))) (de_mod (de_var 0) de_int)))
      (dss_cons (ds_if (cm_eq hv (de_var 4) de_str).t (dss_one (ds_ret (de_tup (da_cons (de_var 4) (da_cons (de_mod (de_var 1) de_int) da_nil))))) dss_nil)
      (dss_cons (ds_if (cm_eq hv (de_var 4) de_str).t (dss_one (ds_ret (de_tup (da_cons (de_var 4) (da_cons (de_mod (de_var 1) de_int) (da_cons (de_mod (de_div (de_var 1) de_int) de_int) (da_cons (de_mod (de_var 2) de_int) da_nil))))))) dss_nil)
      (dss_cons (ds_if (cm_in hu (de_var 4) (de_tup (da_cons de_str (da_cons de_str da_nil)))).t (dss_one (ds_ret (de_tup (da_cons (de_var 4) (da_cons (de_mod (de_var 1) de_int) (da_cons (de_mod (de_var 2) de_int) (da_cons (de_mod (de_div (de_var 1) de_int) de_int) da_nil))))))) dss_nil)
      (dss_cons (ds_if (cm_eq hv (de_var 4) de_str).t (dss_one (ds_ret (de_tup (da_cons (de_var 4) (da_cons (de_mod (de_var 1) de_int) (da_cons (de_mod (de_var 2) de_int) (da_cons (de_mod (de_add (de_div (de_var 1) de_int) (de_var 2)) (de_var 3)) da_nil))))))) dss_nil)
      (dss_cons (ds_if (cm_eq hv (de_var 4) de_str).t (dss_one (ds_ret (de_tup (da_cons (de_var 4) (da_cons (de_mod (de_var 2) de_int) (da_cons (de_mod (de_var 1) de_int) da_nil)))))) dss_nil)
      (dss_cons (ds_if (cm_eq hv (de_var 4) de_str).t (dss_one (ds_ret (de_tup (da_cons (de_var 4) (da_cons (de_mod (de_var 1) de_int) (da_cons (de_mod (de_var 2) de_int) da_nil)))))) dss_nil)
      (dss_cons (ds_if (cm_eq hv (de_var 4) de_str).t (dss_one (ds_ret (de_tup (da_cons (de_var 4) (da_cons (de_mod (de_add (de_var 1) (de_var 2)) (de_var 3)) da_nil))))) dss_nil)
      (dss_one (ds_ret (de_tup (da_cons (de_var 4) da_nil)))))))))))))
theorem ok_law_row {f : Addr} {fd : FuncData} (F : Fun K "_law_row" "_law_row" s_law_row f fd) (gf : mg "_law_row" = some (.ref f)) (T : Txt K w mg)  :
    Callee P w K mg base "_law_row" 4 1 fn_law_row :=
  ⟨f, fd, ["_law_number", "_law_pick", "_law_other", "_law_many"], fk_law_row F T , gf, F.kp, F.binds (ps := ["_law_number", "_law_pick", "_law_other", "_law_many"]) fun _ _ _ _ _ _ us hl => match us, hl with | [_, _, _, _], _ => rfl⟩
/-! ### _law_program -/
abbrev s_law_program : Stmt := topS 17
theorem sc_law_program : FnScope ["_law_tape_here", "_law_place", "_law_many", "_law_rows", "_law_k", "_law_secret", "_law_r"] ["_law_tape_here", "_law_place"] (defScope s_law_program) := ⟨rfl, rfl, rfl, by decide +kernel, rfl, by decide +kernel, by decide +kernel⟩
noncomputable def b_law_program_1 : SF :=
  (sApp 3 (eCall 4 fn_law_row (aCons (eCall 2 fn_law_at (aCons (eVar 0) (aCons (eBin gAdd (eBin gAdd (eVar 1) (eBin gMul (eK (.int 3)) (eVar 4))) (eK (.int 1))) aNil))) (aCons (eCall 2 fn_law_at (aCons (eVar 0) (aCons (eBin gAdd (eBin gAdd (eVar 1) (eBin gMul (eK (.int 3)) (eVar 4))) (eK (.int 2))) aNil))) (aCons (eCall 2 fn_law_at (aCons (eVar 0) (aCons (eBin gAdd (eBin gAdd (eVar 1) (eBin gMul (eK (.int 3)) (eVar 4))) (eK (.int 3))) aNil))) (aCons (eVar 2) aNil))))))
noncomputable def g_law_program : SF :=
  (sSeq (sSet 2 (eBin gAdd (eK (.int 2)) (eBin (gI kMod) (eCall 2 fn_law_at (aCons (eVar 0) (aCons (eVar 1) aNil))) (eK (.int 10)))))
    (sSeq (sOwn 3 (eLst aNil))
    (sSeq (sFor (iRange1 (eBin (gI kSub) (eVar 2) (eK (.int 1)))) (bName 4) b_law_program_1)
    (sSeq (sApp 3 (eBin gIx (eLst (aCons (eTup (aCons (eK (.str (Str.ofString "end"))) aNil)) (aCons (eTup (aCons (eK (.str (Str.ofString "jump"))) (aCons (eBin (gI kMod) (eCall 2 fn_law_at (aCons (eVar 0) (aCons (eVar 1) aNil))) (eVar 2)) aNil))) (aCons (eTup (aCons (eK (.str (Str.ofString "end"))) aNil)) aNil)))) (eBin (gI kMod) (eCall 2 fn_law_at (aCons (eVar 0) (aCons (eBin gAdd (eVar 1) (eK (.int 1))) aNil))) (eK (.int 3)))))
    (sSeq (sSet 5 (eUn gTuple (eComp [6] (iRange1 (eK (.int 4))) (bName 6) (eBin gEq (eBin (gI kMod) (eBin (gI kDiv) (eCall 2 fn_law_at (aCons (eVar 0) (aCons (eBin gAdd (eVar 1) (eK (.int 2))) aNil))) (eBin gAdd (eVar 6) (eK (.int 1)))) (eK (.int 3))) (eK (.int 0))) (eVar 6))))
    (sRetN (eDict [.inr (Str.ofString "secret"), .inr (Str.ofString "rows")] (aCons (eVar 5) (aCons (eUn gTuple (eVar 3)) aNil)))))))))
noncomputable def fn_law_program : Fn := fnOf 7 g_law_program
theorem fk_law_program {f : Addr} {fd : FuncData} (F : Fun K "_law_program" "_law_program" s_law_program f fd) (T : Txt K w mg) (C_law_at : Callee P w K mg base "_law_at" 2 1 fn_law_at) (C_law_row : Callee P w K mg base "_law_row" 4 1 fn_law_row) :
    FnOk P w K mg base (CX P w) 2 f fd ["_law_tape_here", "_law_place"] (spD K mg 2 fn_law_program) :=
  fn_ok F sc_law_program (fun c cdv A outer s H E B =>
    have S := sc_law_program
    have hr : Room 1 _ := B.room
    have hu := hu_of B.room
    have hv := B.room.units
    (dss_cons (ds_set 2 S.nd (de_add de_int (de_mod (de_call (C_law_at) (hr.mono (by decide)) B.tk (by rfl) (da_cons (de_var 0) (da_cons (de_var 1) da_nil))) de_int)))
      (dss_cons (ds_own 3 S.nd (dn_lst da_nil))
      (dss_cons (ds_for (passes_of rfl) rfl (di_range1 (by rfl) T.n_range (de_sub (de_var 2) de_int)) (tg_name 4) (pg_name (i := 4) S.nd rfl (by first | exact Or.inl rfl | exact Or.inr rfl)) (dss_one (ds_app 3 (de_call (C_law_row) (hr.mono (by decide)) B.tk (by rfl) (da_cons (de_call (C_law_at) (hr.mono (by decide)) B.tk (by rfl) (da_cons (de_var 0) (da_cons (de_add (de_add (de_var 1) (de_mul de_int (de_var 4))) de_int) da_nil))) (da_cons (de_call (C_law_at) (hr.mono (by decide)) B.tk (by rfl) (da_cons (de_var 0) (da_cons (de_add (de_add (de_var 1) (de_mul de_int (de_var 4))) de_int) da_nil))) (da_cons (de_call (C_law_at) (hr.mono (by decide)) B.tk (by rfl) (da_cons (de_var 0) (da_cons (de_add (de_add (de_var 1) (de_mul de_int (de_var 4))) de_int) da_nil))) (da_cons (de_var 2) da_nil))))) (hx := pe_bm PySem.F.plainAttrs_list PySem.F.slot_list_append PySem.F.type_list_append mt_append (pe_var (i := 3) rfl (by first | exact Or.inl rfl | exact Or.inr (Or.inl rfl))) (pa_cons (de_call (C_law_row) (hr.mono (by decide)) B.tk (by rfl) (da_cons (de_call (C_law_at) (hr.mono (by decide)) B.tk (by rfl) (da_cons (de_var 0) (da_cons (de_add (de_add (de_var 1) (de_mul de_int (de_var 4))) de_int) da_nil))) (da_cons (de_call (C_law_at) (hr.mono (by decide)) B.tk (by rfl) (da_cons (de_var 0) (da_cons (de_add (de_add (de_var 1) (de_mul de_int (de_var 4))) de_int) da_nil))) (da_cons (de_call (C_law_at) (hr.mono (by decide)) B.tk (by rfl) (da_cons (de_var 0) (da_cons (de_add (de_add (de_var 1) (de_mul de_int (de_var 4))) de_int) da_nil))) (da_cons (de_var 2) da_nil))))) pa_nil)))))
      (dss_cons (ds_app 3 (de_ix hu (de_dn (dn_lst (da_cons (de_tup (da_cons de_str da_nil)) (da_cons (de_tup (da_cons de_str (da_cons (de_mod (de_call (C_law_at) (hr.mono (by decide)) B.tk (by rfl) (da_cons (de_var 0) (da_cons (de_var 1) da_nil))) (de_var 2)) da_nil))) (da_cons (de_tup (da_cons de_str da_nil)) da_nil))))) (de_mod (de_call (C_law_at) (hr.mono (by decide)) B.tk (by rfl) (da_cons (de_var 0) (da_cons (de_add (de_var 1) de_int) da_nil))) de_int)) (hx := pe_bm PySem.F.plainAttrs_list PySem.F.slot_list_append PySem.F.type_list_append mt_append (pe_var (i := 3) rfl (by first | exact Or.inl rfl | exact Or.inr (Or.inl rfl))) (pa_cons (de_ix hu (de_dn (dn_lst (da_cons (de_tup (da_cons de_str da_nil)) (da_cons (de_tup (da_cons de_str (da_cons (de_mod (de_call (C_law_at) (hr.mono (by decide)) B.tk (by rfl) (da_cons (de_var 0) (da_cons (de_var 1) da_nil))) (de_var 2)) da_nil))) (da_cons (de_tup (da_cons de_str da_nil)) da_nil))))) (de_mod (de_call (C_law_at) (hr.mono (by decide)) B.tk (by rfl) (da_cons (de_var 0) (da_cons (de_add (de_var 1) de_int) da_nil))) de_int)) pa_nil)))
      (dss_cons (ds_set 5 S.nd (de_tuple (by rfl) T.n_tuple (de_dn (dn_comp (own := [("_law_r", 6)]) rfl S.nd (di_range1 (by rfl) T.n_range de_int) (blkOk_by (N := ["_law_tape_here", "_law_place", "_law_many", "_law_rows", "_law_k", "_law_secret", "_law_r"]) (sc := defScope s_law_program) (by decide +kernel)) (tg_name 6) (fun _ _ _ _ _ => (pg_name (i := 6) S.nd rfl (by first | exact Or.inl rfl | exact Or.inr rfl))) (fun _ _ _ _ _ => (dts_one (cm_eq hv (de_mod (de_div (de_call (C_law_at) (hr.mono (by decide)) takes0 (by rfl) (da_cons (de_var 0) (da_cons (de_add (de_var 1) de_int) da_nil))) (de_add (de_var 6) de_int)) de_int) de_int).t)) (fun _ _ _ _ _ => (de_var 6))))))
      (dss_one (ds_retN (dn_dict (dp_cons kex_str (de_var 5) (dp_cons kex_str (de_tuple (by rfl) T.n_tuple (de_var 3)) dp_nil)))))))))))
theorem ok_law_program {f : Addr} {fd : FuncData} (F : Fun K "_law_program" "_law_program" s_law_program f fd) (gf : mg "_law_program" = some (.ref f)) (T : Txt K w mg) (C_law_at : Callee P w K mg base "_law_at" 2 1 fn_law_at) (C_law_row : Callee P w K mg base "_law_row" 4 1 fn_law_row) :
    Callee P w K mg base "_law_program" 2 2 fn_law_program :=
  ⟨f, fd, ["_law_tape_here", "_law_place"], fk_law_program F T C_law_at C_law_row, gf, F.kp, F.binds (ps := ["_law_tape_here", "_law_place"]) fun _ _ _ _ _ _ us hl => match us, hl with | [_, _], _ => rfl⟩
/-! ### _law_made -/
abbrev s_law_made : Stmt := topS 20
theorem sc_law_made : FnScope ["_law_secret", "_law_rows"] ["_law_secret", "_law_rows"] (defScope s_law_made) := ⟨rfl, rfl, rfl, by decide +kernel, rfl, by decide +kernel, by decide +kernel⟩
noncomputable def g_law_made : SF :=
  (sRetN (eDict [.inr (Str.ofString "secret"), .inr (Str.ofString "rows")] (aCons (eVar 0) (aCons (eVar 1) aNil))))
noncomputable def fn_law_made : Fn := fnOf 2 g_law_made
theorem fk_law_made {f : Addr} {fd : FuncData} (F : Fun K "_law_made" "_law_made" s_law_made f fd) (T : Txt K w mg)  :
    FnOk P w K mg base (CX P w) 1 f fd ["_law_secret", "_law_rows"] (spD K mg 2 fn_law_made) :=
  fn_ok F sc_law_made (fun c cdv A outer s H E B =>
    have S := sc_law_made
    have hr : Room 0 _ := B.room
    have hu := hu_of B.room
    have hv := B.room.units
    (dss_one (ds_retN (dn_dict (dp_cons kex_str (de_var 0) (dp_cons kex_str (de_var 1) dp_nil))))))
theorem ok_law_made {f : Addr} {fd : FuncData} (F : Fun K "_law_made" "_law_made" s_law_made f fd) (gf : mg "_law_made" = some (.ref f)) (T : Txt K w mg)  :
    Callee P w K mg base "_law_made" 2 1 fn_law_made :=
  ⟨f, fd, ["_law_secret", "_law_rows"], fk_law_made F T , gf, F.kp, F.binds (ps := ["_law_secret", "_law_rows"]) fun _ _ _ _ _ _ us hl => match us, hl with | [_, _], _ => rfl⟩
/-! ### _law_spoiled -/
abbrev s_law_spoiled : Stmt := topS 21
theorem sc_law_spoiled : FnScope ["_law_program_here", "_law_kind", "_law_at_here", "_law_odd", "_law_secret", "_law_rows", "_law_row_here", "_law_bad"] ["_law_program_here", "_law_kind", "_law_at_here", "_law_odd"] (defScope s_law_spoiled) := ⟨rfl, rfl, rfl, by decide +kernel, rfl, by decide +kernel, by decide +kernel⟩
noncomputable def g_law_spoiled : SF :=
  (sSeq (sPar 4 5 (aCons (eBin gIx (eVar 0) (eK (.str (Str.ofString "secret")))) (aCons (eBin gIx (eVar 0) (eK (.str (Str.ofString "rows")))) aNil)))
    (sSeq (sSet 6 (eBin gIx (eVar 5) (eBin (gI kMod) (eVar 2) (eUn gLen (eVar 5)))))
    (sSeq (sIf (eBin gEq (eVar 1) (eK (.int 0))) (sRet (eCall 2 fn_law_made (aCons (eVar 4) (aCons (eBin gAdd (eBin gAdd (eSl (eVar 5) none (some (eBin (gI kMod) (eVar 2) (eUn gLen (eVar 5))))) (eTup (aCons (eBin gAdd (eVar 6) (eTup (aCons (eK (.int 0)) aNil))) aNil))) (eSl (eVar 5) (some (eBin gAdd (eBin (gI kMod) (eVar 2) (eUn gLen (eVar 5))) (eK (.int 1)))) none)) aNil)))) sNop)
    (sSeq (sIf (eBin gEq (eVar 1) (eK (.int 1))) (sRet (eCall 2 fn_law_made (aCons (eVar 4) (aCons (eBin gAdd (eVar 5) (eTup (aCons (eTup (aCons (eK (.str (Str.ofString "ask"))) (aCons (eK (.int 0)) aNil))) aNil))) aNil)))) sNop)
    (sSeq (sIf (eBin gEq (eVar 1) (eK (.int 2))) (sRet (eCall 2 fn_law_made (aCons (eVar 4) (aCons (eBin gAdd (eBin gMul (eTup (aCons (eTup (aCons (eK (.str (Str.ofString "fence"))) aNil)) aNil)) (eK (.int 32))) (eVar 5)) aNil)))) sNop)
    (sSeq (sIf (eBin gEq (eVar 1) (eK (.int 3))) (sRet (eCall 2 fn_law_made (aCons (eVar 4) (aCons (eUn gList (eVar 5)) aNil)))) sNop)
    (sSeq (sIf (eBin gEq (eVar 1) (eK (.int 4))) (sRet (eCall 2 fn_law_made (aCons (eTup (aCons (eK (.int 2)) (aCons (eK (.int 1)) aNil))) (aCons (eVar 5) aNil)))) sNop)
    (sSeq (sIf (eBin gEq (eVar 1) (eK (.int 5))) (sRet (eCall 2 fn_law_made (aCons (eTup (aCons (eK (.int 4)) aNil)) (aCons (eVar 5) aNil)))) sNop)
    (sSeq (sIf (eBin gEq (eVar 1) (eK (.int 6))) (sRet (eCall 2 fn_law_made (aCons (eVar 4) (aCons (eTup aNil) aNil)))) sNop)
    (sSeq (sIf (eBin gEq (eVar 1) (eK (.int 7))) (sRet (eBin gIx (eLst (aCons (eTup (aCons (eVar 4) (aCons (eVar 5) aNil))) (aCons (eDict [.inr (Str.ofString "secret")] (aCons (eVar 4) aNil)) (aCons (eDict [.inr (Str.ofString "secret"), .inr (Str.ofString "rows"), .inr (Str.ofString "more")] (aCons (eVar 4) (aCons (eVar 5) (aCons (eK (.int 1)) aNil)))) aNil)))) (eBin (gI kMod) (eVar 2) (eK (.int 3))))) sNop)
    (sSeq (sSet 7 (eLst (aCons (eTup (aCons (eK (.str (Str.ofString "ask"))) (aCons (eVar 3) aNil))) (aCons (eTup (aCons (eK (.str (Str.ofString "mix"))) (aCons (eK (.int 0)) (aCons (eK (.int 0)) (aCons (eVar 3) aNil))))) (aCons (eTup (aCons (eK (.str (Str.ofString "load"))) (aCons (eK (.int 0)) (aCons (eK (.int 2)) (aCons (eK (.int 0)) aNil))))) (aCons (eTup (aCons (eK (.str (Str.ofString "load"))) (aCons (eK (.int 0)) (aCons (eK (.int 0)) (aCons (eVar 3) aNil))))) (aCons (eTup (aCons (eK (.str (Str.ofString "mask"))) (aCons (eK (.int 0)) (aCons (eUn gNeg (eK (.int 1))) (aCons (eK (.int 0)) aNil))))) (aCons (eTup (aCons (eK (.str (Str.ofString "test"))) (aCons (eK (.int 0)) (aCons (eK (.int 0)) (aCons (eBin gAdd (eUn gLen (eVar 5)) (eK (.int 1))) aNil))))) aNil))))))))
    (sSeq (sSet 7 (eBin gAdd (eVar 7) (eLst (aCons (eTup (aCons (eK (.str (Str.ofString "put"))) (aCons (eK (.int 2)) (aCons (eK (.int 0)) aNil)))) (aCons (eTup (aCons (eK (.str (Str.ofString "get"))) (aCons (eK (.int 0)) (aCons (eVar 3) aNil)))) (aCons (eTup (aCons (eK (.str (Str.ofString "jump"))) (aCons (eUn gNeg (eK (.int 1))) aNil))) (aCons (eTup (aCons (eK (.str (Str.ofString "nothing"))) aNil)) (aCons (eTup (aCons (eK (.str (Str.ofString "ask"))) aNil)) (aCons (eLst (aCons (eK (.str (Str.ofString "ask"))) (aCons (eK (.int 0)) aNil))) (aCons (eK (.str (Str.ofString "ask"))) (aCons (eTup aNil) (aCons (eTup (aCons (eK (.str (Str.ofString "test"))) (aCons (eVar 3) (aCons (eK (.int 0)) (aCons (eK (.int 0)) aNil))))) aNil))))))))))))
    (sRet (eCall 2 fn_law_made (aCons (eVar 4) (aCons (eBin gAdd (eTup (aCons (eBin gIx (eVar 7) (eBin (gI kMod) (eVar 2) (eK (.int 15)))) aNil)) (eVar 5)) aNil))))))))))))))))
noncomputable def fn_law_spoiled : Fn := fnOf 8 g_law_spoiled
theorem fk_law_spoiled {f : Addr} {fd : FuncData} (F : Fun K "_law_spoiled" "_law_spoiled" s_law_spoiled f fd) (T : Txt K w mg) (C_law_made : Callee P w K mg base "_law_made" 2 1 fn_law_made) :
    FnOk P w K mg base (CX P w) 2 f fd ["_law_program_here", "_law_kind", "_law_at_here", "_law_odd"] (spD K mg 4 fn_law_spoiled) :=
  fn_ok F sc_law_spoiled (fun c cdv A outer s H E B =>
    have S := sc_law_spoiled
    have hr : Room 1 _ := B.room
    have hu := hu_of B.room
    have hv := B.room.units
    (dss_cons (ds_par 4 5 rfl S.nd (da_cons (de_ix hu (de_var 0) de_str) (da_cons (de_ix hu (de_var 0) de_str) da_nil)))
      (dss_cons (ds_set 6 S.nd (de_ix hu (de_var 5) (de_mod (de_var 2) (de_len (by rfl) T.n_len (de_var 5)))))
      (dss_cons (ds_if (cm_eq hv (de_var 1) de_int).t (dss_one (ds_ret (de_call (C_law_made) (hr.mono (by decide)) B.tk (by rfl) (da_cons (de_var 4) (da_cons (de_add (de_add (de_sl (de_var 5) dp_none (dp_some (de_mod (de_var 2) (de_len (by rfl) T.n_len (de_var 5))))) (de_tup (da_cons (de_add (de_var 6) (de_tup (da_cons de_int da_nil))) da_nil))) (de_sl (de_var 5) (dp_some (de_add (de_mod (de_var 2) (de_len (by rfl) T.n_len (de_var 5))) de_int)) dp_none)) da_nil))))) dss_nil)
      (dss_cons (ds_if (cm_eq hv (de_var 1) de_int).t (dss_one (ds_ret (de_call (C_law_made) (hr.mono (by decide)) B.tk (by rfl) (da_cons (de_var 4) (da_cons (de_add (de_var 5) (de_tup (da_cons (de_tup (da_cons de_str (da_cons de_int da_nil))) da_nil))) da_nil))))) dss_nil)
      (dss_cons (ds_if (cm_eq hv (de_var 1) de_int).t (dss_one (ds_ret (de_call (C_law_made) (hr.mono (by decide)) B.tk (by rfl) (da_cons (de_var 4) (da_cons (de_add (de_mul (de_tup (da_cons (de_tup (da_cons de_str da_nil)) da_nil)) de_int) (de_var 5)) da_nil))))) dss_nil)
      (dss_cons (ds_if (cm_eq hv (de_var 1) de_int).t (dss_one (ds_ret (de_call (C_law_made) (hr.mono (by decide)) B.tk (by rfl) (da_cons (de_var 4) (da_cons (de_dn (dn_list (by rfl) T.n_list (de_var 5))) da_nil))))) dss_nil)
      (dss_cons (ds_if (cm_eq hv (de_var 1) de_int).t (dss_one (ds_ret (de_call (C_law_made) (hr.mono (by decide)) B.tk (by rfl) (da_cons (de_tup (da_cons de_int (da_cons de_int da_nil))) (da_cons (de_var 5) da_nil))))) dss_nil)
      (dss_cons (ds_if (cm_eq hv (de_var 1) de_int).t (dss_one (ds_ret (de_call (C_law_made) (hr.mono (by decide)) B.tk (by rfl) (da_cons (de_tup (da_cons de_int da_nil)) (da_cons (de_var 5) da_nil))))) dss_nil)
      (dss_cons (ds_if (cm_eq hv (de_var 1) de_int).t (dss_one (ds_ret (de_call (C_law_made) (hr.mono (by decide)) B.tk (by rfl) (da_cons (de_var 4) (da_cons (de_tup da_nil) da_nil))))) dss_nil)
      (dss_cons (ds_if (cm_eq hv (de_var 1) de_int).t (dss_one (ds_ret (de_ix hu (de_dn (dn_lst (da_cons (de_tup (da_cons (de_var 4) (da_cons (de_var 5) da_nil))) (da_cons (de_dn (dn_dict (dp_cons kex_str (de_var 4) dp_nil))) (da_cons (de_dn (dn_dict (dp_cons kex_str (de_var 4) (dp_cons kex_str (de_var 5) (dp_cons kex_str de_int dp_nil))))) da_nil))))) (de_mod (de_var 2) de_int)))) dss_nil)
      (dss_cons (ds_set 7 S.nd (de_dn (dn_lst (da_cons (de_tup (da_cons de_str (da_cons (de_var 3) da_nil))) (da_cons (de_tup (da_cons de_str (da_cons de_int (da_cons de_int (da_cons (de_var 3) da_nil))))) (da_cons (de_tup (da_cons de_str (da_cons de_int (da_cons de_int (da_cons de_int da_nil))))) (da_cons (de_tup (da_cons de_str (da_cons de_int (da_cons de_int (da_cons (de_var 3) da_nil))))) (da_cons (de_tup (da_cons de_str (da_cons de_int (da_cons (de_neg de_int) (da_cons de_int da_nil))))) (da_cons (de_tup (da_cons de_str (da_cons de_int (da_cons de_int (da_cons (de_add (de_len (by rfl) T.n_len (de_var 5)) de_int) da_nil))))) da_nil)))))))))
      (dss_cons (ds_set 7 S.nd (de_add (de_var 7) (de_dn (dn_lst (da_cons (de_tup (da_cons de_str (da_cons de_int (da_cons de_int da_nil)))) (da_cons (de_tup (da_cons de_str (da_cons de_int (da_cons (de_var 3) da_nil)))) (da_cons (de_tup (da_cons de_str (da_cons (de_neg de_int) da_nil))) (da_cons (de_tup (da_cons de_str da_nil)) (da_cons (de_tup (da_cons de_str da_nil)) (da_cons (de_dn (dn_lst (da_cons de_str (da_cons de_int da_nil)))) (da_cons de_str (da_cons (de_tup da_nil) (da_cons (de_tup (da_cons de_str (da_cons (de_var 3) (da_cons de_int (da_cons de_int da_nil))))) da_nil)))))))))))))
      (dss_one (ds_ret (de_call (C_law_made) (hr.mono (by decide)) B.tk (by rfl) (da_cons (de_var 4) (da_cons (de_add (de_tup (da_cons (de_ix hu (de_var 7) (de_mod (de_var 2) de_int)) da_nil)) (de_var 5)) da_nil))))))))))))))))))
theorem ok_law_spoiled {f : Addr} {fd : FuncData} (F : Fun K "_law_spoiled" "_law_spoiled" s_law_spoiled f fd) (gf : mg "_law_spoiled" = some (.ref f)) (T : Txt K w mg) (C_law_made : Callee P w K mg base "_law_made" 2 1 fn_law_made) :
    Callee P w K mg base "_law_spoiled" 4 2 fn_law_spoiled :=
  ⟨f, fd, ["_law_program_here", "_law_kind", "_law_at_here", "_law_odd"], fk_law_spoiled F T C_law_made, gf, F.kp, F.binds (ps := ["_law_program_here", "_law_kind", "_law_at_here", "_law_odd"]) fun _ _ _ _ _ _ us hl => match us, hl with | [_, _, _, _], _ => rfl⟩
/-! ### _law_moved -/
abbrev s_law_moved : Stmt := topS 22
theorem sc_law_moved : FnScope ["_law_place", "_law_places", "_law_one"] ["_law_place", "_law_places"] (defScope s_law_moved) := ⟨rfl, rfl, rfl, by decide +kernel, rfl, by decide +kernel, by decide +kernel⟩
noncomputable def g_law_moved : SF :=
  (sRet (eBin gAdd (eVar 0) (eUn gLen (eComp [2] (iSeq (eVar 1)) (bName 2) (eBin (gI kLt) (eVar 2) (eVar 0)) (eVar 2)))))
noncomputable def fn_law_moved : Fn := fnOf 3 g_law_moved
theorem fk_law_moved {f : Addr} {fd : FuncData} (F : Fun K "_law_moved" "_law_moved" s_law_moved f fd) (T : Txt K w mg)  :
    FnOk P w K mg base (CX P w) 1 f fd ["_law_place", "_law_places"] (spD K mg 2 fn_law_moved) :=
  fn_ok F sc_law_moved (fun c cdv A outer s H E B =>
    have S := sc_law_moved
    have hr : Room 0 _ := B.room
    have hu := hu_of B.room
    have hv := B.room.units
    (dss_one (ds_ret (de_add (de_var 0) (de_len (by rfl) T.n_len (de_dn (dn_comp (own := [("_law_one", 2)]) rfl S.nd (di_seq (de_var 1)) (blkOk_by (N := ["_law_place", "_law_places", "_law_one"]) (sc := defScope s_law_moved) (by decide +kernel)) (tg_name 2) (fun _ _ _ _ _ => (pg_name (i := 2) S.nd rfl (by first | exact Or.inl rfl | exact Or.inr rfl))) (fun _ _ _ _ _ => (dts_one (cm_lt (de_var 2) (de_var 0)).t)) (fun _ _ _ _ _ => (de_var 2)))))))))
theorem ok_law_moved {f : Addr} {fd : FuncData} (F : Fun K "_law_moved" "_law_moved" s_law_moved f fd) (gf : mg "_law_moved" = some (.ref f)) (T : Txt K w mg)  :
    Callee P w K mg base "_law_moved" 2 1 fn_law_moved :=
  ⟨f, fd, ["_law_place", "_law_places"], fk_law_moved F T , gf, F.kp, F.binds (ps := ["_law_place", "_law_places"]) fun _ _ _ _ _ _ us hl => match us, hl with | [_, _], _ => rfl⟩
/-! ### _law_fenced -/
abbrev s_law_fenced : Stmt := topS 23
theorem sc_law_fenced : FnScope ["_law_program_here", "_law_places", "_law_rows", "_law_k", "_law_row_here"] ["_law_program_here", "_law_places"] (defScope s_law_fenced) := ⟨rfl, rfl, rfl, by decide +kernel, rfl, by decide +kernel, by decide +kernel⟩
noncomputable def b_law_fenced_1 : SF :=
  (sSeq (sIf (eBin (gIn false) (eVar 3) (eVar 1)) (sApp 2 (eTup (aCons (eK (.str (Str.ofString "fence"))) aNil))) sNop)
    (sSeq (sSet 4 (eBin gIx (eBin gIx (eVar 0) (eK (.str (Str.ofString "rows")))) (eVar 3)))
    (sSeq (sIf (eBin (gIn false) (eBin gIx (eVar 4) (eK (.int 0))) (eTup (aCons (eK (.str (Str.ofString "test"))) (aCons (eK (.str (Str.ofString "jump"))) aNil)))) (sSet 4 (eBin gAdd (eSl (eVar 4) none (some (eUn gNeg (eK (.int 1))))) (eTup (aCons (eCall 2 fn_law_moved (aCons (eBin gIx (eVar 4) (eUn gNeg (eK (.int 1)))) (aCons (eVar 1) aNil))) aNil)))) sNop)
    (sApp 2 (eVar 4)))))
noncomputable def g_law_fenced : SF :=
  (sSeq (sOwn 2 (eLst aNil))
    (sSeq (sFor (iRange1 (eUn gLen (eBin gIx (eVar 0) (eK (.str (Str.ofString "rows")))))) (bName 3) b_law_fenced_1)
    (sRet (eCall 2 fn_law_made (aCons (eBin gIx (eVar 0) (eK (.str (Str.ofString "secret")))) (aCons (eUn gTuple (eVar 2)) aNil))))))
noncomputable def fn_law_fenced : Fn := fnOf 5 g_law_fenced
theorem fk_law_fenced {f : Addr} {fd : FuncData} (F : Fun K "_law_fenced" "_law_fenced" s_law_fenced f fd) (T : Txt K w mg) (C_law_made : Callee P w K mg base "_law_made" 2 1 fn_law_made) (C_law_moved : Callee P w K mg base "_law_moved" 2 1 fn_law_moved) :
    FnOk P w K mg base (CX P w) 2 f fd ["_law_program_here", "_law_places"] (spD K mg 2 fn_law_fenced) :=
  fn_ok F sc_law_fenced (fun c cdv A outer s H E B =>
    have S := sc_law_fenced
    have hr : Room 1 _ := B.room
    have hu := hu_of B.room
    have hv := B.room.units
    (dss_cons (ds_own 2 S.nd (dn_lst da_nil))
      (dss_cons (ds_for (passes_of rfl) rfl (di_range1 (by rfl) T.n_range (de_len (by rfl) T.n_len (de_ix hu (de_var 0) de_str))) (tg_name 3) (pg_name (i := 3) S.nd rfl (by first | exact Or.inl rfl | exact Or.inr rfl)) (dss_cons (ds_if (cm_in hu (de_var 3) (de_var 1)).t (dss_one (ds_app 2 (de_tup (da_cons de_str da_nil)) (hx := pe_bm PySem.F.plainAttrs_list PySem.F.slot_list_append PySem.F.type_list_append mt_append (pe_var (i := 2) rfl (by first | exact Or.inl rfl | exact Or.inr (Or.inl rfl))) (pa_cons (de_tup (da_cons de_str da_nil)) pa_nil)))) dss_nil)
      (dss_cons (ds_set 4 S.nd (de_ix hu (de_ix hu (de_var 0) de_str) (de_var 3)))
      (dss_cons (ds_if (cm_in hu (de_ix hu (de_var 4) de_int) (de_tup (da_cons de_str (da_cons de_str da_nil)))).t (dss_one (ds_set 4 S.nd (de_add (de_sl (de_var 4) dp_none (dp_some (de_neg de_int))) (de_tup (da_cons (de_call (C_law_moved) (hr.mono (by decide)) B.tk (by rfl) (da_cons (de_ix hu (de_var 4) (de_neg de_int)) (da_cons (de_var 1) da_nil))) da_nil))))) dss_nil)
      (dss_one (ds_app 2 (de_var 4) (hx := pe_bm PySem.F.plainAttrs_list PySem.F.slot_list_append PySem.F.type_list_append mt_append (pe_var (i := 2) rfl (by first | exact Or.inl rfl | exact Or.inr (Or.inl rfl))) (pa_cons (de_var 4) pa_nil))))))))
      (dss_one (ds_ret (de_call (C_law_made) (hr.mono (by decide)) B.tk (by rfl) (da_cons (de_ix hu (de_var 0) de_str) (da_cons (de_tuple (by rfl) T.n_tuple (de_var 2)) da_nil))))))))
theorem ok_law_fenced {f : Addr} {fd : FuncData} (F : Fun K "_law_fenced" "_law_fenced" s_law_fenced f fd) (gf : mg "_law_fenced" = some (.ref f)) (T : Txt K w mg) (C_law_made : Callee P w K mg base "_law_made" 2 1 fn_law_made) (C_law_moved : Callee P w K mg base "_law_moved" 2 1 fn_law_moved) :
    Callee P w K mg base "_law_fenced" 2 2 fn_law_fenced :=
  ⟨f, fd, ["_law_program_here", "_law_places"], fk_law_fenced F T C_law_made C_law_moved, gf, F.kp, F.binds (ps := ["_law_program_here", "_law_places"]) fun _ _ _ _ _ _ us hl => match us, hl with | [_, _], _ => rfl⟩
/-! ### law -/
abbrev s_law : Stmt := topS 24
theorem sc_law : FnScope ["_law_script", "_law_tape_here", "_law_program_here", "_law_odd", "_law_k", "_law_spoiled_here", "_law_places", "_law_passed", "_law_told"] ["_law_script"] (defScope s_law) := ⟨rfl, rfl, rfl, by decide +kernel, rfl, by decide +kernel, by decide +kernel⟩
noncomputable def b_law_1 : SF :=
  (sSeq (sSet 5 (eCall 4 fn_law_spoiled (aCons (eVar 2) (aCons (eBin (gI kMod) (eBin gAdd (eCall 2 fn_law_at (aCons (eVar 1) (aCons (eK (.int 0)) aNil))) (eBin gMul (eK (.int 5)) (eVar 4))) (eK (.int 14))) (aCons (eBin gAdd (eCall 2 fn_law_at (aCons (eVar 1) (aCons (eK (.int 1)) aNil))) (eVar 4)) (aCons (eVar 3) aNil))))))
    (sIf (eBin gNotB (eCall 1 fn_is_program (aCons (eVar 5) aNil)) (eK (.bl false))) (sRet (eK (.bl false))) sNop))
noncomputable def g_law : SF :=
  (sSeq (sIf (eBin gNe (eTup (aCons (eK (.int 4)) (aCons (eK (.int 2)) (aCons (eK (.int 2)) (aCons (eK (.int 32)) aNil))))) (eTup (aCons (eK (.int 4)) (aCons (eK (.int 2)) (aCons (eK (.int 2)) (aCons (eK (.int 32)) aNil)))))) (sRet (eK (.bl false))) sNop)
    (sSeq (sSet 1 (eCall 1 fn_law_tape (aCons (eVar 0) aNil)))
    (sSeq (sSet 2 (eCall 2 fn_law_program (aCons (eVar 1) (aCons (eK (.int 4)) aNil))))
    (sSeq (sIf (eBin gNotB (eCall 1 fn_is_program (aCons (eVar 2) aNil)) (eK (.bl true))) (sRet (eK (.bl false))) sNop)
    (sSeq (sSet 3 (eBin gIx (eLst (aCons (eK (.int 4)) (aCons (eUn gNeg (eK (.int 1))) (aCons (eK (.bl true)) (aCons (eK .non) (aCons (eK (.str (Str.ofString "0"))) (aCons (eK (.int 9)) aNil))))))) (eBin (gI kMod) (eCall 2 fn_law_at (aCons (eVar 1) (aCons (eK (.int 2)) aNil))) (eK (.int 6)))))
    (sSeq (sFor (iRange1 (eK (.int 4))) (bName 4) b_law_1)
    (sSeq (sSet 6 (eComp [4] (iRange1 (eUn gLen (eBin gIx (eVar 2) (eK (.str (Str.ofString "rows")))))) (bName 4) (eBin gEq (eBin (gI kMod) (eBin (gI kDiv) (eCall 2 fn_law_at (aCons (eVar 1) (aCons (eK (.int 3)) aNil))) (eBin gAdd (eVar 4) (eK (.int 1)))) (eK (.int 3))) (eK (.int 0))) (eVar 4)))
    (sSeq (sSet 7 (eUn gRev (eVar 6)))
    (sSeq (sSet 8 (eCall 2 fn_with_fences (aCons (eVar 2) (aCons (eVar 7) aNil))))
    (sRet (eAnd (eBin gEq (eVar 8) (eCall 2 fn_law_fenced (aCons (eVar 2) (aCons (eVar 6) aNil)))) (eAnd (eBin gEq (eVar 7) (eUn gRev (eVar 6))) (eBin gIsB (eCall 1 fn_is_program (aCons (eK .non) aNil)) (eK (.bl false)))))))))))))))
noncomputable def fn_law : Fn := fnOf 9 g_law
theorem fk_law {f : Addr} {fd : FuncData} (F : Fun K "law" "law" s_law f fd) (T : Txt K w mg) (C_is_program : Callee P w K mg base "is_program" 1 3 fn_is_program) (C_with_fences : Callee P w K mg base "with_fences" 2 2 fn_with_fences) (C_law_tape : Callee P w K mg base "_law_tape" 1 1 fn_law_tape) (C_law_at : Callee P w K mg base "_law_at" 2 1 fn_law_at) (C_law_program : Callee P w K mg base "_law_program" 2 2 fn_law_program) (C_law_spoiled : Callee P w K mg base "_law_spoiled" 4 2 fn_law_spoiled) (C_law_fenced : Callee P w K mg base "_law_fenced" 2 2 fn_law_fenced) :
    FnOk P w K mg base (CX P w) 4 f fd ["_law_script"] (spD K mg 1 fn_law) :=
  fn_ok F sc_law (fun c cdv A outer s H E B =>
    have S := sc_law
    have hr : Room 3 _ := B.room
    have hu := hu_of B.room
    have hv := B.room.units
    (dss_cons (ds_if (cm_ne hv (de_tup (da_cons (de_glob T.c_REGISTERS (by rfl)) (da_cons (de_glob T.c_SLOTS (by rfl)) (da_cons (de_glob T.c_ARRAYS (by rfl)) (da_cons (de_glob T.c_MOST_ROWS (by rfl)) da_nil))))) (de_tup (da_cons de_int (da_cons de_int (da_cons de_int (da_cons de_int da_nil)))))).t (dss_one (ds_ret de_bl)) dss_nil)
      (dss_cons (ds_set 1 S.nd (de_call (C_law_tape) (hr.mono (by decide)) B.tk (by rfl) (da_cons (de_var 0) da_nil)))
      (dss_cons (ds_set 2 S.nd (de_call (C_law_program) (hr.mono (by decide)) B.tk (by rfl) (da_cons (de_var 1) (da_cons de_int da_nil))))
      (dss_cons (ds_if (cm_notB (de_call (C_is_program) (hr.mono (by decide)) B.tk (by rfl) (da_cons (de_var 2) da_nil)) de_bl).t (dss_one (ds_ret de_bl)) dss_nil)
      (dss_cons (ds_set 3 S.nd (de_ix hu (de_dn (dn_lst (da_cons de_int (da_cons (de_neg de_int) (da_cons de_bl (da_cons de_non (da_cons de_str (da_cons de_int da_nil)))))))) (de_mod (de_call (C_law_at) (hr.mono (by decide)) B.tk (by rfl) (da_cons (de_var 1) (da_cons de_int da_nil))) de_int)))
      (dss_cons (ds_for (passes_of rfl) rfl (di_range1 (by rfl) T.n_range de_int) (tg_name 4) (pg_name (i := 4) S.nd rfl (by first | exact Or.inl rfl | exact Or.inr rfl)) (dss_cons (ds_set 5 S.nd (de_call (C_law_spoiled) (hr.mono (by decide)) B.tk (by rfl) (da_cons (de_var 2) (da_cons (de_mod (de_add (de_call (C_law_at) (hr.mono (by decide)) B.tk (by rfl) (da_cons (de_var 1) (da_cons de_int da_nil))) (de_mul de_int (de_var 4))) de_int) (da_cons (de_add (de_call (C_law_at) (hr.mono (by decide)) B.tk (by rfl) (da_cons (de_var 1) (da_cons de_int da_nil))) (de_var 4)) (da_cons (de_var 3) da_nil))))))
      (dss_one (ds_if (cm_notB (de_call (C_is_program) (hr.mono (by decide)) B.tk (by rfl) (da_cons (de_var 5) da_nil)) de_bl).t (dss_one (ds_ret de_bl)) dss_nil))))
      (dss_cons (ds_setC (i := 6) (own := [("_law_k", 4)]) rfl S.nd (di_range1 (by rfl) T.n_range (de_len (by rfl) T.n_len (de_ix hu (de_var 2) de_str))) (blkOk_by (N := ["_law_script", "_law_tape_here", "_law_program_here", "_law_odd", "_law_k", "_law_spoiled_here", "_law_places", "_law_passed", "_law_told"]) (sc := defScope s_law) (by decide +kernel)) (tg_name 4) (fun _ _ _ _ _ => (pg_name (i := 4) S.nd rfl (by first | exact Or.inl rfl | exact Or.inr rfl))) (fun _ _ _ _ _ => (dts_one (cm_eq hv (de_mod (de_div (de_call (C_law_at) (hr.mono (by decide)) takes0 (by rfl) (da_cons (de_var 1) (da_cons de_int da_nil))) (de_add (de_var 4) de_int)) de_int) de_int).t)) (fun _ _ _ _ _ => (de_var 4)))
      (dss_cons (ds_set 7 S.nd (de_rev (de_var 6)))
      (dss_cons (ds_set 8 S.nd (de_call (C_with_fences) (hr.mono (by decide)) B.tk (by rfl) (da_cons (de_var 2) (da_cons (de_var 7) da_nil))))
      (dss_one (ds_ret (de_and (cm_eq hv (de_var 8) (de_call (C_law_fenced) (hr.mono (by decide)) B.tk (by rfl) (da_cons (de_var 2) (da_cons (de_var 6) da_nil)))).e (de_and (cm_eq hv (de_var 7) (de_rev (de_var 6))).e (de_one (cm_isB (de_call (C_is_program) (hr.mono (by decide)) B.tk (by rfl) (da_cons de_non da_nil)) de_bl).e)))))))))))))))
theorem ok_law {f : Addr} {fd : FuncData} (F : Fun K "law" "law" s_law f fd) (gf : mg "law" = some (.ref f)) (T : Txt K w mg) (C_is_program : Callee P w K mg base "is_program" 1 3 fn_is_program) (C_with_fences : Callee P w K mg base "with_fences" 2 2 fn_with_fences) (C_law_tape : Callee P w K mg base "_law_tape" 1 1 fn_law_tape) (C_law_at : Callee P w K mg base "_law_at" 2 1 fn_law_at) (C_law_program : Callee P w K mg base "_law_program" 2 2 fn_law_program) (C_law_spoiled : Callee P w K mg base "_law_spoiled" 4 2 fn_law_spoiled) (C_law_fenced : Callee P w K mg base "_law_fenced" 2 2 fn_law_fenced) :
    Callee P w K mg base "law" 1 4 fn_law :=
  ⟨f, fd, ["_law_script"], fk_law F T C_is_program C_with_fences C_law_tape C_law_at C_law_program C_law_spoiled C_law_fenced, gf, F.kp, F.binds (ps := ["_law_script"]) fun _ _ _ _ _ _ us hl => match us, hl with | [_], _ => rfl⟩
end
end DL
end
section
set_option Elab.async false
set_option linter.all false
set_option maxRecDepth 100000
set_option maxHeartbeats 4000000
set_option autoImplicit false
/-! K01P: what the functions of k01 compute. -/
namespace DL
open PySem L2
abbrev sx (a : String) : D := .str (Str.ofString a)
def tat (t : List Int) (k : Int) : Int := t.getD k.toNat 0
def Tape (t : List Int) : Prop := ∀ x ∈ t, 0 ≤ x ∧ x < 1000
theorem tat_bd {t : List Int} (h : Tape t) (k : Int) : 0 ≤ tat t k ∧ tat t k < 1000 := by
  unfold tat
  rw [List.getD_eq_getElem?_getD]
  cases hx : t[k.toNat]? with
  | none => simp
  | some x => exact h x (List.mem_of_getElem? hx)
theorem sp_at {t : List Int} {k : Int} (hk : 0 ≤ k) (s : Sto) : fn_law_at [.lst (t.map .int), .int k] s = .ok (.val (.int (tat t k))) s := by
  unfold fn_law_at g_law_at
  rw [fnOf_at]
  simp only [List.map_cons, List.map_nil, List.length_cons, List.length_nil, List.cons_append, List.nil_append, List.replicate, Nat.sub_self, Nat.zero_add, Nat.reduceAdd]
  simp only [sSeq_at, sIf_at, eBin_at, eUn_at, eVar, List.getElem?_cons_zero, List.getElem?_cons_succ, b_ok, len_lst, gLt_at, bS_ok, sel_bl, sRet_at]
  by_cases h : k < t.length
  · rw [List.length_map, if_pos (by simpa using h)]
    have : atI (t.map D.int) k = some (.int (tat t k)) := by
      rw [atI_of hk (by simpa using h), List.getElem?_map]
      unfold tat
      rw [List.getD_eq_getElem?_getD]
      cases hx : t[k.toNat]? with
      | none => rw [List.getElem?_eq_none_iff] at hx; omega
      | some x => rfl
    simp [ix_lst this]
  · rw [List.length_map, if_neg (by simpa using h)]
    have : tat t k = 0 := by
      unfold tat
      rw [List.getD_eq_getElem?_getD, List.getElem?_eq_none (by omega)]
      rfl
    simp [this, sRet_at]
/-- a drawn row -/
inductive GRow (m : Int) : D → Prop
  | ask {a : Int} : 0 ≤ a → a < 4 → GRow m (.tup [sx "ask", .int a])
  | mix {a b c : Int} : 0 ≤ a → a < 4 → 0 ≤ b → b < 4 → 0 ≤ c → c < 4 → GRow m (.tup [sx "mix", .int a, .int b, .int c])
  | load {a b c : Int} : 0 ≤ a → a < 4 → 0 ≤ b → b < 2 → 0 ≤ c → c < 4 → GRow m (.tup [sx "load", .int a, .int b, .int c])
  | mask {a b c : Int} : 0 ≤ a → a < 4 → 0 ≤ b → b < 2 → 0 ≤ c → c < 4 → GRow m (.tup [sx "mask", .int a, .int b, .int c])
  | test {a b c : Int} : 0 ≤ a → a < 4 → 0 ≤ b → b < 2 → 0 ≤ c → c < m → GRow m (.tup [sx "test", .int a, .int b, .int c])
  | put {a b : Int} : 0 ≤ a → a < 2 → 0 ≤ b → b < 4 → GRow m (.tup [sx "put", .int a, .int b])
  | get {a b : Int} : 0 ≤ a → a < 4 → 0 ≤ b → b < 2 → GRow m (.tup [sx "get", .int a, .int b])
  | fence : GRow m (.tup [sx "fence"])
  | jump {a : Int} : 0 ≤ a → a < m → GRow m (.tup [sx "jump", .int a])
  | ed : GRow m (.tup [sx "end"])
def kinds : List String := ["ask", "mix", "load", "load", "mask", "test", "test", "put", "get", "get", "fence", "jump", "put", "load"]
theorem sp_row {n p o m : Int} (hn : 0 ≤ n) (hm : 0 < m) (s : Sto) : ∃ r, fn_law_row [.int n, .int p, .int o, .int m] s = .ok (.val r) s ∧ GRow m r := by
  have hk : n % 14 = 0 ∨ n % 14 = 1 ∨ n % 14 = 2 ∨ n % 14 = 3 ∨ n % 14 = 4 ∨ n % 14 = 5 ∨ n % 14 = 6 ∨ n % 14 = 7 ∨ n % 14 = 8 ∨ n % 14 = 9 ∨ n % 14 = 10 ∨ n % 14 = 11 ∨ n % 14 = 12 ∨ n % 14 = 13 := by omega
  unfold fn_law_row g_law_row
  rw [fnOf_at]
  rcases hk with h | h | h | h | h | h | h | h | h | h | h | h | h | h
  all_goals
    simp [sSeq_at, sIf_at, sSet_at, eFz_at, eBin_at, eUn_at, eVar, sRet_at, eLst_at, eTup_at, aCons_at, gMod_at, gDiv_at, h, gIx, atI, ixN, asSeq, gIn, flatD, eqF, bxor, List.replicate, lim, hm]
  all_goals
    have h1 := Int.emod_nonneg (p / 4 + o) (Int.ne_of_gt hm)
    have h2 := Int.emod_lt_of_pos (p / 4 + o) hm
    have h3 := Int.emod_nonneg (p + o) (Int.ne_of_gt hm)
    have h4 := Int.emod_lt_of_pos (p + o) hm
    constructor <;> omega
end DL
end
section
set_option Elab.async false
set_option linter.all false
set_option maxRecDepth 100000
set_option maxHeartbeats 4000000
set_option autoImplicit false
/-! K01Q: the drawn program. -/
namespace DL
open PySem L2
def progD (sec : List Int) (rows : List D) : D := .dk [(.inr (Str.ofString "secret"), .tup (sec.map .int)), (.inr (Str.ofString "rows"), .tup rows)]
/-- a drawn program -/
structure GProg (d : D) where
  sec : List Int
  rows : List D
  last : D
  eq : d = progD sec (rows ++ [last])
  big : rows.length < 12
  ok : ∀ r ∈ rows ++ [last], GRow (rows.length + 1 : Nat) r
  lastOk : last = .tup [sx "end"] ∨ ∃ a : Int, last = .tup [sx "jump", .int a]
  secOk : ∃ q : Nat → Bool, sec = ((List.range 4).filter q).map fun n => ((n : Nat) : Int)
theorem sp_program {t : List Int} (ht : Tape t) {p : Int} (hp : 0 ≤ p) (s : Sto) : ∃ d, fn_law_program [.lst (t.map .int), .int p] s = .ok (.new d) s ∧ Nonempty (GProg d) := by
  unfold fn_law_program g_law_program
  rw [fnOf_at]
  have b0 := tat_bd ht p
  have b1 := tat_bd ht (p + 1)
  generalize hn : tat t p % 10 = n
  have hnb : 0 ≤ n ∧ n < 10 := by omega
  simp [gMod_at, gDiv_at, sp_at hp, hn, List.replicate, lim]
  obtain ⟨e', h1, rows, x4, rfl, hl, hg⟩ := sFor_rng (i := 4) (g := b_law_program_1) (f := eBin (gI kSub) (eVar 2) (eK (.int 1))) (s := s) (n := (n + 1).toNat)
    (fun m e => ∃ (rows : List D) (x4 : Option SV), e = [some (SV.val (D.lst (List.map D.int t))), some (SV.val (D.int p)), some (SV.val (D.int (2 + n))), some (SV.own (D.lst rows)), x4, none, none] ∧ rows.length = m ∧ ∀ r ∈ rows, GRow (2 + n) r)
    (by simp; omega) (by unfold lim; omega) ⟨[], none, rfl, rfl, by simp⟩ (by
      intro m e hm ⟨rows, x4, he, hl, hg⟩
      subst he
      obtain ⟨r, h1, h2⟩ := sp_row (n := tat t (p + 3 * (m : Int) + 1)) (p := tat t (p + 3 * (m : Int) + 2)) (o := tat t (p + 3 * (m : Int) + 3)) (m := 2 + n) (tat_bd ht _).1 (by omega) s
      refine ⟨_, .inl ?_, rows ++ [r], some (.val (.int m)), rfl, by simp [hl], ?_⟩
      · unfold b_law_program_1
        rw [sApp_at (ds := rows) (d := r) rfl ?_ (by unfold lim; omega)]
        · rfl
        · have hr : fz r = fun e => some (r, e) := by cases h2 <;> rfl
          have g1 := sp_at (t := t) (k := p + 3 * (m : Int) + 1) (by omega) s
          have g2 := sp_at (t := t) (k := p + 3 * (m : Int) + 2) (by omega) s
          have g3 := sp_at (t := t) (k := p + 3 * (m : Int) + 3) (by omega) s
          simp [gMul_l, g1, g2, g3, h1, hr]
      · intro r' hr'
        rcases List.mem_append.mp hr' with h | h
        · exact hg _ h
        · rw [List.mem_singleton.mp h]; exact h2)
  rw [h1]
  have hlast : ∃ r, eFz (eBin gIx (eLst (aCons (eTup (aCons (eK (.str (Str.ofString "end"))) aNil)) (aCons (eTup (aCons (eK (.str (Str.ofString "jump"))) (aCons (eBin (gI kMod) (eCall 2 fn_law_at (aCons (eVar 0) (aCons (eVar 1) aNil))) (eVar 2)) aNil))) (aCons (eTup (aCons (eK (.str (Str.ofString "end"))) aNil)) aNil)))) (eBin (gI kMod) (eCall 2 fn_law_at (aCons (eVar 0) (aCons (eBin gAdd (eVar 1) (eK (.int 1))) aNil))) (eK (.int 3)))) [some (SV.val (D.lst (List.map D.int t))), some (SV.val (D.int p)), some (SV.val (D.int (2 + n))), some (SV.own (D.lst rows)), x4, none, none] s = .ok r [some (SV.val (D.lst (List.map D.int t))), some (SV.val (D.int p)), some (SV.val (D.int (2 + n))), some (SV.own (D.lst rows)), x4, none, none] s ∧ GRow (2 + n) r ∧ (r = .tup [sx "end"] ∨ ∃ a : Int, r = .tup [sx "jump", .int a]) := by
    have g1 := sp_at (t := t) (k := p + 1) (by omega) s
    have hk : tat t (p + 1) % 3 = 0 ∨ tat t (p + 1) % 3 = 1 ∨ tat t (p + 1) % 3 = 2 := by omega
    have hm : 0 < 2 + n := by omega
    rcases hk with h | h | h
    · exact ⟨.tup [sx "end"], by simp [gMod_at, sp_at hp, g1, h, hm, gIx, atI, ixN, asSeq, lim], .ed, .inl rfl⟩
    · exact ⟨.tup [sx "jump", .int (tat t p % (2 + n))], by simp [gMod_at, sp_at hp, g1, h, hm, gIx, atI, ixN, asSeq, lim], .jump (Int.emod_nonneg _ (by omega)) (Int.emod_lt_of_pos _ (by omega)), .inr ⟨_, rfl⟩⟩
    · exact ⟨.tup [sx "end"], by simp [gMod_at, sp_at hp, g1, h, hm, gIx, atI, ixN, asSeq, lim], .ed, .inl rfl⟩
  obtain ⟨r, h2, hr, hrl⟩ := hlast
  have g2 := sp_at (t := t) (k := p + 2) (by omega) s
  have hc := comp_rng (i := 6) (s := s) (n := 4) (e := [some (SV.val (D.lst (List.map D.int t))), some (SV.val (D.int p)), some (SV.val (D.int (2 + n))), some (SV.own (D.lst (rows ++ [r]))), x4, none, none])
    (ft := eBin gEq (eBin (gI kMod) (eBin (gI kDiv) (eCall 2 fn_law_at (aCons (eVar 0) (aCons (eBin gAdd (eVar 1) (eK (.int 2))) aNil))) (eBin gAdd (eVar 6) (eK (.int 1)))) (eK (.int 3))) (eK (.int 0))) (fe := eVar 6) (f := eK (.int 4))
    (fun m => decide (tat t (p + 2) / ((m : Int) + 1) % 3 = 0)) (fun m => .int m) rfl (by decide) rfl (fun m hm => by
      simp [g2, gDiv_at (show (0 : Int) < (m : Int) + 1 by omega) (show (m : Int) + 1 < 1073741824 by omega), gMod_at])
  simp [sApp_at (i := 3) (ds := rows) (d := r) rfl h2 (by unfold lim; omega), hc, lim, ptAll, pt, hasK]
  refine ⟨⟨((List.range 4).filter fun (m : Nat) => decide (tat t (p + 2) / ((m : Int) + 1) % 3 = 0)).map fun n => ((n : Nat) : Int), rows, r, by unfold progD; rw [List.map_map]; rfl, by omega, ?_, hrl, _, rfl⟩⟩
  have : ((rows.length + 1 : Nat) : Int) = 2 + n := by omega
  rw [this]
  intro r' hr'
  rcases List.mem_append.mp hr' with h | h
  · exact hg _ h
  · rw [List.mem_singleton.mp h]; exact hr
end DL
end
section
set_option Elab.async false
set_option linter.all false
set_option maxRecDepth 100000
set_option maxHeartbeats 4000000
set_option autoImplicit false
/-! K01R: is_number, is_row, is_secret, is_program. -/
namespace DL
open PySem L2
def isNum (d : D) (m : Int) : Bool := match d with | .int i => decide (0 ≤ i ∧ i < m) | _ => false
theorem sp_isnum {d : D} (h : Ty d = true) (m : Int) (s : Sto) : fn_is_number [d, .int m] s = .ok (.val (.bl (isNum d m))) s := by
  unfold fn_is_number g_is_number
  rw [fnOf_at]
  cases d <;> first | cases h | skip
  all_goals simp [isTy, isNum, eChain, bLe, bLt]
  rename_i i
  by_cases h0 : 0 ≤ i <;> simp [h0]
def mostOf (c : Nat) (n : Int) : Int := if (⟨#[c]⟩ : Str) = Str.ofString "r" then 4 else if (⟨#[c]⟩ : Str) = Str.ofString "s" then 2 else if (⟨#[c]⟩ : Str) = Str.ofString "A" then 2 else n
theorem sp_most {c : Nat} (n : Int) (s : Sto) : fn_most_of [.str ⟨#[c]⟩, .int n] s = .ok (.val (.int (mostOf c n))) s := by
  unfold fn_most_of g_most_of mostOf
  rw [fnOf_at]
  simp only [List.map_cons, List.map_nil, List.length_cons, List.length_nil, List.cons_append, List.nil_append, List.replicate, Nat.sub_self, Nat.zero_add, Nat.reduceAdd]
  simp
  repeat' split
  all_goals rfl
theorem ty_fz {d : D} (h : Ty d = true) (e : Sl) : fz d e = some (d, e) := fz_ty h
theorem sp_isrow {k z : Str} {as : List D} (n : Int) (hk : tabAt tab_SHAPES k = some (some z)) (hl : as.length = z.length) (hty : ∀ a ∈ as, Ty a = true) (hb : z.length ≤ 100) (s : Sto) :
    fn_is_row [.tup (.str k :: as), .int n] s = .ok (.val (.bl ((List.range z.length).all fun i => isNum (as.getD i .non) (mostOf (z.cps.toList.getD i 0) n)))) s := by
  have hz : z.cps.toList.length = z.length := by simp [Str.length]
  generalize hf : (fun i => isNum (as.getD i .non) (mostOf (z.cps.toList.getD i 0) n)) = f
  unfold fn_is_row g_is_row
  rw [fnOf_at]
  have h0 : atI (.str k :: as) 0 = some (.str k) := by
    rw [atI_of (by omega) (by simp)]
    rfl
  have hlm : z.length ≤ lim := by unfold lim; omega
  have hc := comp_rng (i := 3) (s := s) (n := z.length) (e := [some (SV.val (D.tup (.str k :: as))), some (SV.val (D.int n)), some (SV.val (.str z)), none])
    (ft := eYes) (fe := eCall 2 fn_is_number (aCons (eBin gIx (eVar 0) (eBin gAdd (eVar 3) (eK (.int 1)))) (aCons (eCall 2 fn_most_of (aCons (eBin gIx (eVar 2) (eVar 3)) (aCons (eVar 1) aNil))) aNil))) (f := eUn gLen (eVar 2))
    (fun m => true) (fun i => .bl (f i)) (by simp [len_str hlm]) hlm rfl (fun m hm => by
      have a1 : as[m]? = some (as.getD m .non) := by rw [List.getD_eq_getElem?_getD, List.getElem?_eq_getElem (by omega)]; rfl
      have a2 : atI (.str k :: as) ((m : Int) + 1) = some (as.getD m .non) := by
        rw [atI_of (by omega) (by simp; omega)]
        have : ((m : Int) + 1).toNat = m + 1 := by omega
        rw [this, List.getElem?_cons_succ, a1]
      have a3 : atI z.cps.toList (m : Int) = some (z.cps.toList.getD m 0) := by
        rw [atI_of (by omega) (by omega)]
        have : (m : Int).toNat = m := by omega
        rw [this, List.getD_eq_getElem?_getD, List.getElem?_eq_getElem (by omega)]; rfl
      have a4 : Ty (as.getD m .non) = true := hty _ (List.mem_of_getElem? a1)
      have a5 := congrFun hf m
      refine ⟨rfl, fun _ => ?_⟩
      generalize as.getD m .non = a at *
      generalize z.cps.toList.getD m 0 = c at *
      simp [ix_tup a2, ix_str a3 hlm, sp_most, sp_isnum a4, ty_fz a4, a5])
  rw [show (List.range z.length).filter (fun m => true) = List.range z.length from List.filter_eq_self.mpr (fun _ _ => rfl)] at hc
  have hall := all_at (s := s) (e := [some (SV.val (D.tup (.str k :: as))), some (SV.val (D.int n)), some (SV.val (.str z)), none]) f (List.range z.length)
  generalize (List.range z.length).all f = b at *
  have h1 : ¬ (1 + (z.length : Int) = 0) := by omega
  have h2 : ((z.length : Int) + 1) = 1 + z.length := by omega
  simp [isTy, ix_tup h0, gInTab, gTab, hk, bxor, len_str hlm, hl, List.replicate, h1, h2, hc, hall]
end DL
end
section
set_option Elab.async false
set_option linter.all false
set_option maxRecDepth 100000
set_option maxHeartbeats 4000000
set_option autoImplicit false
/-! K01S: is_row on the rows at hand, is_secret. -/
namespace DL
open PySem L2
theorem tab_hit (k z : String) (h : (k, z) ∈ [("ask", "r"), ("mix", "rrr"), ("load", "rAr"), ("mask", "rAr"), ("test", "rAt"), ("put", "sr"), ("get", "rs"), ("fence", ""), ("jump", "t"), ("end", "")]) : tabAt tab_SHAPES (Str.ofString k) = some (some (Str.ofString z)) := by
  simp only [List.mem_cons, Prod.mk.injEq, List.not_mem_nil, or_false] at h
  rcases h with ⟨rfl, rfl⟩ | ⟨rfl, rfl⟩ | ⟨rfl, rfl⟩ | ⟨rfl, rfl⟩ | ⟨rfl, rfl⟩ | ⟨rfl, rfl⟩ | ⟨rfl, rfl⟩ | ⟨rfl, rfl⟩ | ⟨rfl, rfl⟩ | ⟨rfl, rfl⟩
  all_goals decide +kernel
theorem most_r (n : Int) : mostOf 114 n = 4 := if_pos (by decide +kernel)
theorem most_s (n : Int) : mostOf 115 n = 2 := by unfold mostOf; rw [if_neg (by decide +kernel), if_pos (by decide +kernel)]
theorem most_A (n : Int) : mostOf 65 n = 2 := by unfold mostOf; rw [if_neg (by decide +kernel), if_neg (by decide +kernel), if_pos (by decide +kernel)]
theorem most_t (n : Int) : mostOf 116 n = n := by unfold mostOf; rw [if_neg (by decide +kernel), if_neg (by decide +kernel), if_neg (by decide +kernel)]
theorem isrow_at (k z : String) (cs : List Nat) (as : List D) (n : Int) (b : Bool) (s : Sto) (hk : (k, z) ∈ [("ask", "r"), ("mix", "rrr"), ("load", "rAr"), ("mask", "rAr"), ("test", "rAt"), ("put", "sr"), ("get", "rs"), ("fence", ""), ("jump", "t"), ("end", "")])
    (hc : z.toList.map Char.toNat = cs) (hl : as.length = cs.length) (hty : ∀ a ∈ as, Ty a = true) (hlc : cs.length ≤ 100) (hb : ((List.range cs.length).all fun i => isNum (as.getD i .non) (mostOf (cs.getD i 0) n)) = b) :
    fn_is_row [.tup (sx k :: as), .int n] s = .ok (.val (.bl b)) s := by
  have hz : (Str.ofString z).cps.toList = cs := by rw [str_cps, hc]
  have hlen : (Str.ofString z).length = cs.length := by rw [← hz]; simp [Str.length]
  rw [sp_isrow n (tab_hit k z hk) (by rw [hlen]; exact hl) hty (by omega), hz, hlen, hb]
theorem isrow_good {m n : Int} (hmn : m ≤ n) {r : D} (h : GRow m r) (s : Sto) : fn_is_row [r, .int n] s = .ok (.val (.bl true)) s := by
  cases h with
  | ask => exact isrow_at "ask" "r" [114] [_] n true s (by decide) rfl rfl (by simp [Ty, tyName]) (by decide) (by simp [List.range, List.range.loop, isNum, most_r, *])
  | mix => exact isrow_at "mix" "rrr" [114, 114, 114] [_, _, _] n true s (by decide) rfl rfl (by simp [Ty, tyName]) (by decide) (by simp [List.range, List.range.loop, isNum, most_r, *])
  | load => exact isrow_at "load" "rAr" [114, 65, 114] [_, _, _] n true s (by decide) rfl rfl (by simp [Ty, tyName]) (by decide) (by simp [List.range, List.range.loop, isNum, most_r, most_A, *])
  | mask => exact isrow_at "mask" "rAr" [114, 65, 114] [_, _, _] n true s (by decide) rfl rfl (by simp [Ty, tyName]) (by decide) (by simp [List.range, List.range.loop, isNum, most_r, most_A, *])
  | test => exact isrow_at "test" "rAt" [114, 65, 116] [_, _, _] n true s (by decide) rfl rfl (by simp [Ty, tyName]) (by decide) (by simp [List.range, List.range.loop, isNum, most_r, most_A, most_t, *]; omega)
  | put => exact isrow_at "put" "sr" [115, 114] [_, _] n true s (by decide) rfl rfl (by simp [Ty, tyName]) (by decide) (by simp [List.range, List.range.loop, isNum, most_r, most_s, *])
  | get => exact isrow_at "get" "rs" [114, 115] [_, _] n true s (by decide) rfl rfl (by simp [Ty, tyName]) (by decide) (by simp [List.range, List.range.loop, isNum, most_r, most_s, *])
  | fence => exact isrow_at "fence" "" [] [] n true s (by decide) rfl rfl (by simp [Ty, tyName]) (by decide) (by simp)
  | jump => exact isrow_at "jump" "t" [116] [_] n true s (by decide) rfl rfl (by simp [Ty, tyName]) (by decide) (by simp [List.range, List.range.loop, isNum, most_t, *]; omega)
  | ed => exact isrow_at "end" "" [] [] n true s (by decide) rfl rfl (by simp [Ty, tyName]) (by decide) (by simp)
/-- a row of another length -/
theorem isrow_len (k z : String) (as : List D) (n : Int) (s : Sto) (hk : (k, z) ∈ [("ask", "r"), ("mix", "rrr"), ("load", "rAr"), ("mask", "rAr"), ("test", "rAt"), ("put", "sr"), ("get", "rs"), ("fence", ""), ("jump", "t"), ("end", "")])
    (hl : as.length ≠ (z.toList.map Char.toNat).length) (hlc : (z.toList.map Char.toNat).length ≤ 100) : fn_is_row [.tup (sx k :: as), .int n] s = .ok (.val (.bl false)) s := by
  have hlen : (Str.ofString z).length = (z.toList.map Char.toNat).length := by rw [← str_cps]; simp [Str.length]
  generalize (z.toList.map Char.toNat).length = q at *
  have h0 : atI (sx k :: as) 0 = some (sx k) := by
    rw [atI_of (by omega) (by simp)]
    rfl
  unfold fn_is_row g_is_row
  rw [fnOf_at]
  have h1 : ¬ ((as.length : Int) + 1 = 0) := by omega
  have h2 : ¬ ((as.length : Int) + 1 = 1 + (q : Int)) := by omega
  simp [isTy, ix_tup h0, gInTab, gTab, tab_hit k z hk, bxor, len_str (show (Str.ofString z).length ≤ lim by unfold lim; omega), hlen, List.replicate, h1, h2]
theorem isrow_extra {m n : Int} {r : List D} (h : GRow m (.tup r)) (x : D) (s : Sto) : fn_is_row [.tup (r ++ [x]), .int n] s = .ok (.val (.bl false)) s := by
  cases h with
  | ask => exact isrow_len "ask" "r" _ n s (by decide) (by simp) (by decide)
  | mix => exact isrow_len "mix" "rrr" _ n s (by decide) (by simp) (by decide)
  | load => exact isrow_len "load" "rAr" _ n s (by decide) (by simp) (by decide)
  | mask => exact isrow_len "mask" "rAr" _ n s (by decide) (by simp) (by decide)
  | test => exact isrow_len "test" "rAt" _ n s (by decide) (by simp) (by decide)
  | put => exact isrow_len "put" "sr" _ n s (by decide) (by simp) (by decide)
  | get => exact isrow_len "get" "rs" _ n s (by decide) (by simp) (by decide)
  | fence => exact isrow_len "fence" "" _ n s (by decide) (by simp) (by decide)
  | jump => exact isrow_len "jump" "t" _ n s (by decide) (by simp) (by decide)
  | ed => exact isrow_len "end" "" _ n s (by decide) (by simp) (by decide)
theorem sec_t (s : Sto) : fn_is_secret [.tup [.int 0, .int 2, .int 3]] s = .ok (.val (.bl true)) s := by rfl
end DL
end
section
set_option Elab.async false
set_option linter.all false
set_option maxRecDepth 100000
set_option maxHeartbeats 4000000
set_option autoImplicit false
/-! K01T: is_program. -/
namespace DL
open PySem L2
def pD (sec rows : D) : D := .dk [(.inr (Str.ofString "secret"), sec), (.inr (Str.ofString "rows"), rows)]
theorem lk_sec {sec rows : D} : lk [((Sum.inr (Str.ofString "secret") : Key), sec), (.inr (Str.ofString "rows"), rows)] (.inr (Str.ofString "secret")) = some sec := by simp [lk]
theorem lk_rows {sec rows : D} : lk [((Sum.inr (Str.ofString "secret") : Key), sec), (.inr (Str.ofString "rows"), rows)] (.inr (Str.ofString "rows")) = some rows := by simp [lk]
theorem sec_ok {sec : List Int} (h : ∃ q : Nat → Bool, sec = ((List.range 4).filter q).map fun n => ((n : Nat) : Int)) (s : Sto) : fn_is_secret [.tup (sec.map .int)] s = .ok (.val (.bl true)) s := by
  obtain ⟨q, rfl⟩ := h
  cases h0 : q 0 <;> cases h1 : q 1 <;> cases h2 : q 2 <;> cases h3 : q 3 <;>
    simp only [List.range, List.range.loop, List.filter_cons, h0, h1, h2, h3, List.filter_nil, List.map_cons, List.map_nil, if_true, Bool.false_eq_true, if_false] <;> rfl
theorem prog_sec {sec rows : D} (hs : Ty sec = true) (hr : Ty rows = true) (s : Sto) (h : fn_is_secret [sec] s = .ok (.val (.bl false)) s) : fn_is_program [pD sec rows] s = .ok (.val (.bl false)) s := by
  unfold fn_is_program g_is_program pD
  rw [fnOf_at]
  simp [isTy, gIn, toK, lk_sec, lk_rows, bxor, ix_dk lk_sec, ix_dk lk_rows, fz_ty hs, fz_ty hr, h, List.replicate]
theorem prog_notTup {sec rows : D} (hs : Ty sec = true) {t : String} (hr : tyName rows = some t) (ht : t ≠ "tuple" ∧ t ≠ "bool") (s : Sto) (h : fn_is_secret [sec] s = .ok (.val (.bl true)) s) : fn_is_program [pD sec rows] s = .ok (.val (.bl false)) s := by
  unfold fn_is_program g_is_program pD
  rw [fnOf_at]
  have hr' : Ty rows = true := by unfold Ty; rw [hr]; rfl
  simp [isTy, gIn, toK, lk_sec, lk_rows, bxor, ix_dk lk_sec, ix_dk lk_rows, fz_ty hs, fz_ty hr', h, isi_at hr, ht, List.replicate]
theorem prog_len {sec : D} {rows : List D} (hs : Ty sec = true) (s : Sto) (h : fn_is_secret [sec] s = .ok (.val (.bl true)) s) (hl : rows.length = 0 ∨ 32 < rows.length) : fn_is_program [pD sec (.tup rows)] s = .ok (.val (.bl false)) s := by
  unfold fn_is_program g_is_program pD
  rw [fnOf_at]
  have h1 : ¬ ((1 : Int) ≤ rows.length ∧ (rows.length : Int) ≤ 32) := by omega
  simp [isTy, gIn, toK, lk_sec, lk_rows, bxor, ix_dk lk_sec, ix_dk lk_rows, fz_ty hs, h, eChain, bLe, List.replicate]
  by_cases h2 : (1 : Int) ≤ rows.length
  · have h3 : ¬ ((rows.length : Int) ≤ 32) := by omega
    simp [h2, h3]
  · simp [h2]
theorem prog_rows {sec : D} {rows : List D} (hs : Ty sec = true) (s : Sto) (h : fn_is_secret [sec] s = .ok (.val (.bl true)) s) (h1 : 1 ≤ rows.length) (h2 : rows.length ≤ 32) (f : D → Bool)
    (hf : ∀ r ∈ rows, Ty r = true ∧ fn_is_row [r, .int rows.length] s = .ok (.val (.bl (f r))) s) (k : String) (as : List D) (hk : rows.all f = true → rows.getLast? = some (.tup (sx k :: as))) :
    fn_is_program [pD sec (.tup rows)] s = .ok (.val (.bl (rows.all f && ("jump" == k || "end" == k)))) s := by
  have hc := comp_seq (i := 2) (s := s) (e := [some (SV.val (pD sec (.tup rows))), some (SV.val (.tup rows)), none]) (ft := eYes) (fe := eCall 2 fn_is_row (aCons (eVar 2) (aCons (eUn gLen (eVar 1)) aNil))) (f := eVar 1) (fun _ => true) (fun r => .bl (f r)) (d := .tup rows) (ds := rows) rfl rfl (by unfold lim; omega) rfl (fun r hr => by
    obtain ⟨hr1, hr2⟩ := hf r hr
    refine ⟨rfl, fun _ => ?_⟩
    simp [fz_ty hr1, hr2])
  rw [show rows.filter (fun m => true) = rows from List.filter_eq_self.mpr (fun _ _ => rfl)] at hc
  have hall := all_at (s := s) (e := [some (SV.val (pD sec (.tup rows))), some (SV.val (.tup rows)), none]) f rows
  have hlast : rows.all f = true → atI rows (-1) = some (.tup (sx k :: as)) := fun hh => by
    have := hk hh
    obtain ⟨ys, hy⟩ := List.getLast?_eq_some_iff.mp this
    rw [hy]
    exact atI_last
  have h0 : atI (sx k :: as) 0 = some (sx k) := by
    rw [atI_of (by omega) (by simp)]
    rfl
  generalize rows.all f = b at *
  unfold fn_is_program g_is_program
  rw [fnOf_at]
  have z1 : (1 : Int) ≤ rows.length := by omega
  have z2 : (rows.length : Int) ≤ 32 := by omega
  have hv : pD sec (.tup rows) = .dk [(.inr (Str.ofString "secret"), sec), (.inr (Str.ofString "rows"), .tup rows)] := rfl
  rw [hv] at hc hall
  rw [hv]
  cases b with
  | false => simp [isTy, gIn, toK, lk_sec, lk_rows, bxor, ix_dk lk_sec, ix_dk lk_rows, fz_ty hs, h, eChain, bLe, List.replicate, z1, z2, hc, hall]
  | true =>
    have hl := hlast rfl
    simp [isTy, gIn, toK, lk_sec, lk_rows, bxor, ix_dk lk_sec, ix_dk lk_rows, fz_ty hs, h, eChain, bLe, List.replicate, z1, z2, hc, hall, ix_tup hl, ix_tup h0, flatD, eqF, lim]
/-- the drawn program is one -/
theorem prog_good {d : D} (g : GProg d) (s : Sto) : fn_is_program [d] s = .ok (.val (.bl true)) s := by
  obtain ⟨sec, rows, last, rfl, hb, ho, hl, hs⟩ := g
  have hq := sec_ok hs s
  have hlen : ((rows ++ [last]).length : Int) = (rows.length + 1 : Nat) := by simp
  have hty : ∀ r ∈ rows ++ [last], Ty r = true := fun r hr => by have := ho r hr; cases this <;> rfl
  have key : ∃ (k : String) (as : List D), last = .tup (sx k :: as) ∧ ("jump" == k || "end" == k) = true := by
    rcases hl with rfl | ⟨a, rfl⟩
    · exact ⟨"end", [], rfl, rfl⟩
    · exact ⟨"jump", [.int a], rfl, rfl⟩
  obtain ⟨k, as, hk, hkk⟩ := key
  have := prog_rows (sec := .tup (sec.map .int)) (rows := rows ++ [last]) rfl s hq (by simp) (by simp; omega) (fun _ => true) (fun r hr => ⟨hty r hr, by rw [hlen]; exact isrow_good (by omega) (ho r hr) s⟩) k as (fun _ => by simp [hk])
  rw [hkk] at this
  unfold progD
  unfold pD at this
  rw [this]
  simp
/-- rows of which one is none -/
theorem prog_bad {sec : List Int} {rows : List D} (hs : ∃ q : Nat → Bool, sec = ((List.range 4).filter q).map fun n => ((n : Nat) : Int)) (s : Sto) (h1 : 1 ≤ rows.length) (h2 : rows.length ≤ 32)
    (hf : ∀ r ∈ rows, Ty r = true ∧ ∃ b, fn_is_row [r, .int rows.length] s = .ok (.val (.bl b)) s) (hx : ∃ r ∈ rows, fn_is_row [r, .int rows.length] s = .ok (.val (.bl false)) s) :
    fn_is_program [pD (.tup (sec.map .int)) (.tup rows)] s = .ok (.val (.bl false)) s := by
  classical
  have hfb : ∀ r ∈ rows, fn_is_row [r, .int rows.length] s = .ok (.val (.bl (decide (fn_is_row [r, .int rows.length] s = .ok (.val (.bl true)) s)))) s := fun r hr => by
    obtain ⟨_, b, hb⟩ := hf r hr
    rw [hb]
    cases b <;> simp
  have hall : rows.all (fun r => decide (fn_is_row [r, .int rows.length] s = .ok (.val (.bl true)) s)) = false := by
    obtain ⟨r, hr, hx⟩ := hx
    rw [List.all_eq_false]
    exact ⟨r, hr, by rw [hx]; simp⟩
  have := prog_rows (sec := .tup (sec.map .int)) (rows := rows) rfl s (sec_ok hs s) h1 h2 (fun r => decide (fn_is_row [r, .int rows.length] s = .ok (.val (.bl true)) s)) (fun r hr => ⟨(hf r hr).1, hfb r hr⟩) "end" [] (fun h => by rw [hall] at h; cases h)
  rw [this, hall]
  rfl
/-- no row -/
theorem isrow_no {d : D} {t : String} (h : tyName d = some t) (ht : t ≠ "tuple" ∧ t ≠ "bool") (n : Int) (s : Sto) : fn_is_row [d, .int n] s = .ok (.val (.bl false)) s := by
  unfold fn_is_row g_is_row
  rw [fnOf_at]
  simp [isTy, isi_at h, ht, List.replicate]
theorem isrow_nil (n : Int) (s : Sto) : fn_is_row [.tup [], .int n] s = .ok (.val (.bl false)) s := by
  unfold fn_is_row g_is_row
  rw [fnOf_at]
  simp [isTy, List.replicate]
theorem isrow_word (as : List D) (n : Int) (s : Sto) : fn_is_row [.tup (sx "nothing" :: as), .int n] s = .ok (.val (.bl false)) s := by
  unfold fn_is_row g_is_row
  rw [fnOf_at]
  have h0 : atI (sx "nothing" :: as) 0 = some (sx "nothing") := by
    rw [atI_of (by omega) (by simp)]
    rfl
  have h1 : ¬ ((as.length : Int) + 1 = 0) := by omega
  have h3 : tabAt tab_SHAPES (Str.ofString "nothing") = some none := by decide +kernel
  simp [isTy, ix_tup h0, gInTab, h3, bxor, List.replicate, h1]
/-- what no register's number is -/
structure Odd (o : D) : Prop where
  ty : Ty o = true
  no : ∀ m : Int, m ≤ 4 → isNum o m = false
theorem odd_at : ∀ {o : D} {i : Int}, atI [.int 4, .int (-1), .bl true, .non, sx "0", .int 9] i = some o → Odd o := by
  intro o i h
  have hm : o ∈ [.int 4, .int (-1), .bl true, .non, sx "0", .int 9] := by
    unfold atI at h
    obtain ⟨j, h1, h2⟩ := Option.bind_eq_some_iff.mp h
    exact List.mem_of_getElem? h2
  simp only [List.mem_cons, List.not_mem_nil, or_false] at hm
  rcases hm with rfl | rfl | rfl | rfl | rfl | rfl <;> refine ⟨rfl, fun m hm => ?_⟩ <;> simp [isNum] <;> omega
end DL
end
section
set_option Elab.async false
set_option linter.all false
set_option maxRecDepth 100000
set_option maxHeartbeats 400000
set_option autoImplicit false
/-! K01U: the spoiled programs. -/
namespace DL
open PySem L2
theorem sp_made {x y : D} (hx : Ty x = true) (hy : Ty y = true) (s : Sto) : fn_law_made [x, y] s = .ok (.new (pD x y)) s := by
  unfold fn_law_made g_law_made pD
  rw [fnOf_at]
  simp [fz_ty hx, fz_ty hy, List.replicate, ptAll, pt, hasK]
theorem cut_to {xs : List D} (j : Nat) : cutD xs none (some (j : Int)) = xs.take j := by
  unfold cutD
  rw [HT.sIx_none, HT.sIx_nat, List.drop_zero, Nat.sub_zero]
  rcases Nat.le_total j xs.length with h | h
  · rw [Nat.min_eq_left h]
  · rw [Nat.min_eq_right h, List.take_of_length_le (Nat.le_refl _), List.take_of_length_le h]
theorem cut_from {xs : List D} (j : Nat) : cutD xs (some (j : Int)) none = xs.drop j := by
  unfold cutD
  rw [HT.sIx_none, HT.sIx_nat]
  rcases Nat.le_total j xs.length with h | h
  · rw [Nat.min_eq_left h, List.take_of_length_le (by simp)]
  · rw [Nat.min_eq_right h, Nat.sub_self, List.take_zero, List.drop_eq_nil_of_le h]
theorem grow_tup {m : Int} {r : D} (h : GRow m r) : ∃ (k : String) (as : List D), r = .tup (sx k :: as) ∧ as.length ≤ 3 := by
  cases h <;> exact ⟨_, _, rfl, by simp⟩
@[simp] theorem ty_pD {x y : D} : Ty (pD x y) = true := rfl
@[simp] theorem retv_pD {x y : D} {e : Sl} {s : Sto} : retv (pD x y) e s = .rt (.val (pD x y)) s := rfl
/-- what is_program refuses -/
def NoProg (x : D) (s : Sto) : Prop := Ty x = true ∧ fn_is_program [x] s = .ok (.val (.bl false)) s
structure Sp (sec : List Int) (rows : List D) : Prop where
  sec : ∃ q : Nat → Bool, sec = ((List.range 4).filter q).map fun n => ((n : Nat) : Int)
  pos : 1 ≤ rows.length
  big : rows.length ≤ 12
  ok : ∀ r ∈ rows, GRow rows.length r
theorem Sp.ty {sec : List Int} {rows : List D} (h : Sp sec rows) : ∀ r ∈ rows, Ty r = true := fun r hr => by have := h.ok r hr; cases this <;> rfl
def bads (o : D) (n : Nat) : List D := [.tup [sx "ask", o], .tup [sx "mix", .int 0, .int 0, o], .tup [sx "load", .int 0, .int 2, .int 0], .tup [sx "load", .int 0, .int 0, o], .tup [sx "mask", .int 0, .int (-1), .int 0], .tup [sx "test", .int 0, .int 0, .int (n + 1)],
  .tup [sx "put", .int 2, .int 0], .tup [sx "get", .int 0, o], .tup [sx "jump", .int (-1)], .tup [sx "nothing"], .tup [sx "ask"], .lst [sx "ask", .int 0], sx "ask", .tup [], .tup [sx "test", o, .int 0, .int 0]]
theorem bads_no {o : D} (ho : Odd o) (n : Nat) (s : Sto) : ∀ r ∈ bads o n, Ty r = true ∧ fn_is_row [r, .int (n + 1 : Nat)] s = .ok (.val (.bl false)) s := by
  intro r hr
  have n4 := ho.no 4 (by decide)
  have n2 := ho.no 2 (by decide)
  have hT := ho.ty
  simp only [bads, List.mem_cons, List.not_mem_nil, or_false] at hr
  rcases hr with rfl | rfl | rfl | rfl | rfl | rfl | rfl | rfl | rfl | rfl | rfl | rfl | rfl | rfl | rfl <;> refine ⟨rfl, ?_⟩
  · exact isrow_at "ask" "r" [114] [_] _ false s (by decide) rfl rfl (by simp [hT]) (by decide) (by simp [List.range, List.range.loop, most_r, n4])
  · exact isrow_at "mix" "rrr" [114, 114, 114] [_, _, _] _ false s (by decide) rfl rfl (by simp [hT, Ty, tyName]; exact hT) (by decide) (by simp [List.range, List.range.loop, most_r, n4])
  · exact isrow_at "load" "rAr" [114, 65, 114] [_, _, _] _ false s (by decide) rfl rfl (by simp [Ty, tyName]) (by decide) (by simp [List.range, List.range.loop, isNum, most_r, most_A])
  · exact isrow_at "load" "rAr" [114, 65, 114] [_, _, _] _ false s (by decide) rfl rfl (by simp [Ty, tyName]; exact hT) (by decide) (by simp [List.range, List.range.loop, most_r, most_A, n4])
  · exact isrow_at "mask" "rAr" [114, 65, 114] [_, _, _] _ false s (by decide) rfl rfl (by simp [Ty, tyName]) (by decide) (by simp [List.range, List.range.loop, isNum, most_r, most_A])
  · exact isrow_at "test" "rAt" [114, 65, 116] [_, _, _] _ false s (by decide) rfl rfl (by simp [Ty, tyName]) (by decide) (by simp [List.range, List.range.loop, isNum, most_r, most_A, most_t])
  · exact isrow_at "put" "sr" [115, 114] [_, _] _ false s (by decide) rfl rfl (by simp [Ty, tyName]) (by decide) (by simp [List.range, List.range.loop, isNum, most_r, most_s])
  · exact isrow_at "get" "rs" [114, 115] [_, _] _ false s (by decide) rfl rfl (by simp [Ty, tyName]; exact hT) (by decide) (by simp [List.range, List.range.loop, most_r, most_s, n2])
  · exact isrow_at "jump" "t" [116] [_] _ false s (by decide) rfl rfl (by simp [Ty, tyName]) (by decide) (by simp [List.range, List.range.loop, isNum, most_t])
  · exact isrow_word [] _ s
  · exact isrow_len "ask" "r" _ _ s (by decide) (by simp) (by decide)
  · exact isrow_no rfl (by decide) _ s
  · exact isrow_no rfl (by decide) _ s
  · exact isrow_nil _ s
  · exact isrow_at "test" "rAt" [114, 65, 116] [_, _, _] _ false s (by decide) rfl rfl (by simp [Ty, tyName]; exact hT) (by decide) (by simp [List.range, List.range.loop, most_r, most_A, most_t, n4])
theorem sp_spoiled {sec : List Int} {rows : List D} (h : Sp sec rows) {k a : Int} (hk : 0 ≤ k ∧ k < 14) (ha : 0 ≤ a) {o : D} (ho : Odd o) (s : Sto) :
    ∃ x, fn_law_spoiled [pD (.tup (sec.map .int)) (.tup rows), .int k, .int a, o] s = .ok (.val x) s ∧ NoProg x s := by
  have hq := sec_ok h.sec s
  obtain ⟨j, hj⟩ : ∃ j : Nat, a % (rows.length : Int) = j := ⟨(a % (rows.length : Int)).toNat, by have := Int.emod_nonneg a (b := (rows.length : Int)) (by have := h.pos; omega); omega⟩
  have hjl : j < rows.length := by have := Int.emod_lt_of_pos a (b := (rows.length : Int)) (by have := h.pos; omega); omega
  have hpos : (0 : Int) < rows.length := by have := h.pos; omega
  obtain ⟨r, hr⟩ : ∃ r, rows[j]? = some r := ⟨rows[j], List.getElem?_eq_getElem hjl⟩
  have hrm := List.mem_of_getElem? hr
  have hat : atI rows (j : Int) = some r := by
    rw [atI_of (by omega) (by omega)]
    simpa using hr
  obtain ⟨kw, as, rfl, has⟩ := grow_tup (h.ok r hrm)
  have hbig := h.big
  have hv : pD (.tup (sec.map .int)) (.tup rows) = .dk [(.inr (Str.ofString "secret"), .tup (sec.map .int)), (.inr (Str.ofString "rows"), .tup rows)] := rfl
  unfold fn_law_spoiled g_law_spoiled
  rw [fnOf_at, hv]
  have hcase : k = 0 ∨ k = 1 ∨ k = 2 ∨ k = 3 ∨ k = 4 ∨ k = 5 ∨ k = 6 ∨ k = 7 ∨ 7 < k := by omega
  have hc1 := cut_to (xs := rows) j
  have hc2 := cut_from (xs := rows) (j + 1)
  rcases hcase with rfl | rfl | rfl | rfl | rfl | rfl | rfl | rfl | h7
  · have c2 : cutD rows (some ((j : Int) + 1)) none = rows.drop (j + 1) := by rw [← hc2]; rfl
    have a1 := fun e => addT' (a := sx kw :: as) (b := [.int 0]) (e := e) (s := s) (by simp; unfold lim; omega)
    have a2 := fun e => addT' (a := rows.take j) (b := [.tup ((sx kw :: as) ++ [.int 0])]) (e := e) (s := s) (by simp; unfold lim; omega)
    have a3 := fun e => addT' (a := rows.take j ++ [.tup ((sx kw :: as) ++ [.int 0])]) (b := rows.drop (j + 1)) (e := e) (s := s) (by simp; unfold lim; omega)
    simp only [List.cons_append, List.append_assoc] at a1 a2 a3
    simp [sPar, ix_dk lk_sec, ix_dk lk_rows, List.replicate, gMod_at hpos, hj, ix_tup hat, eSl, ePart, gCut, hc1, c2, a1, a2, a3, lim, sp_made]
    rw [sp_made rfl rfl]
    simp
    have hn : (List.take j rows ++ D.tup (sx kw :: (as ++ [D.int 0])) :: List.drop (j + 1) rows).length = rows.length := by simp; omega
    have hx : ∀ n : Int, fn_is_row [D.tup (sx kw :: (as ++ [D.int 0])), .int n] s = .ok (.val (.bl false)) s := fun n => isrow_extra (r := sx kw :: as) (h.ok _ hrm) (.int 0) s
    refine ⟨rfl, prog_bad h.sec s (by omega) (by omega) ?_ ⟨D.tup (sx kw :: (as ++ [D.int 0])), by simp, hx _⟩⟩
    intro r hr'
    rw [hn]
    rcases List.mem_append.mp hr' with h1 | h1
    · have := List.mem_of_mem_take h1
      exact ⟨h.ty r this, true, isrow_good (Int.le_refl _) (h.ok r this) s⟩
    · rcases List.mem_cons.mp h1 with rfl | h1
      · exact ⟨rfl, false, hx _⟩
      · have := List.mem_of_mem_drop h1
        exact ⟨h.ty r this, true, isrow_good (Int.le_refl _) (h.ok r this) s⟩
  · have a1 := fun e => addT' (a := rows) (b := [.tup [sx "ask", .int 0]]) (e := e) (s := s) (by simp; unfold lim; omega)
    simp [sPar, ix_dk lk_sec, ix_dk lk_rows, List.replicate, gMod_at hpos, hj, ix_tup hat, a1, lim]
    rw [sp_made rfl rfl]
    simp
    have hn : (rows ++ [D.tup [sx "ask", D.int 0]]).length = rows.length + 1 := by simp
    refine ⟨rfl, ?_⟩
    rw [prog_rows rfl s hq (by simp) (by rw [hn]; omega) (fun _ => true) (fun r hr' => ?_) "ask" [.int 0] (fun _ => by simp)]
    · simp
    · rw [hn]
      rcases List.mem_append.mp hr' with h1 | h1
      · exact ⟨h.ty r h1, isrow_good (m := rows.length) (by omega) (h.ok r h1) s⟩
      · rw [List.mem_singleton.mp h1]
        exact ⟨rfl, isrow_good (m := rows.length) (by omega) (.ask (by decide) (by decide)) s⟩
  · have a0 : rep [D.tup [sx "fence"]] 32 = List.replicate 32 (D.tup [sx "fence"]) := by rfl
    have a1 := fun e => addT' (a := List.replicate 32 (D.tup [sx "fence"])) (b := rows) (e := e) (s := s) (by simp; unfold lim; omega)
    have a2 : ∀ e, gMul (D.tup [D.tup [sx "fence"]]) (.int 32) e s = .ok (.tup (List.replicate 32 (D.tup [sx "fence"]))) e s := fun e => by
      unfold gMul
      simp [a0]
    generalize hR : List.replicate 32 (D.tup [sx "fence"]) = R32 at *
    have hn : R32.length = 32 := by rw [← hR]; simp
    simp [sPar, ix_dk lk_sec, ix_dk lk_rows, List.replicate, gMod_at hpos, hj, ix_tup hat, a1, a2, lim]
    rw [sp_made rfl rfl]
    simp
    exact ⟨rfl, prog_len rfl s hq (.inr (by simp; omega))⟩
  · simp [sPar, ix_dk lk_sec, ix_dk lk_rows, List.replicate, gMod_at hpos, hj, ix_tup hat, lim]
    rw [sp_made rfl rfl]
    simp
    exact ⟨rfl, prog_notTup rfl (t := "list") rfl (by decide) s hq⟩
  · simp [sPar, ix_dk lk_sec, ix_dk lk_rows, List.replicate, gMod_at hpos, hj, ix_tup hat, lim]
    rw [sp_made rfl rfl]
    simp
    exact ⟨rfl, prog_sec rfl rfl s (by rfl)⟩
  · simp [sPar, ix_dk lk_sec, ix_dk lk_rows, List.replicate, gMod_at hpos, hj, ix_tup hat, lim]
    rw [sp_made rfl rfl]
    simp
    exact ⟨rfl, prog_sec rfl rfl s (by rfl)⟩
  · simp [sPar, ix_dk lk_sec, ix_dk lk_rows, List.replicate, gMod_at hpos, hj, ix_tup hat, lim]
    rw [sp_made rfl rfl]
    simp
    exact ⟨rfl, prog_len rfl s hq (.inl rfl)⟩
  · have hk3 : a % 3 = 0 ∨ a % 3 = 1 ∨ a % 3 = 2 := by omega
    have m0 := fun e => gMod_at (e := e) (s := s) (i := a) (j := 3) (by decide)
    have i0 : ∀ (x y z : D) e, gIx (.lst [x, y, z]) (.int 0) e s = .ok x e s := fun _ _ _ _ => ix_lst rfl
    have i1 : ∀ (x y z : D) e, gIx (.lst [x, y, z]) (.int 1) e s = .ok y e s := fun _ _ _ _ => ix_lst rfl
    have i2 : ∀ (x y z : D) e, gIx (.lst [x, y, z]) (.int 2) e s = .ok z e s := fun _ _ _ _ => ix_lst rfl
    rcases hk3 with h3 | h3 | h3
    all_goals
      simp [sPar, ix_dk lk_sec, ix_dk lk_rows, List.replicate, m0, gMod_at hpos, hj, ix_tup hat, lim, h3, i0, i1, i2, ptAll, pt, hasK]
      refine ⟨rfl, ?_⟩
      unfold fn_is_program g_is_program
      rw [fnOf_at]
      simp [isTy, List.replicate]
  · have b0 : (0 : Int) < 15 := by decide
    have m0 := fun e => gMod_at (e := e) (s := s) (i := a) (j := 15) b0
    obtain ⟨q, hq15⟩ : ∃ q : Nat, a % 15 = q := ⟨(a % 15).toNat, by omega⟩
    have hql : q < 15 := by omega
    obtain ⟨b, hb⟩ : ∃ b, (bads o rows.length)[q]? = some b := ⟨(bads o rows.length)[q]'(by simpa [bads] using hql), List.getElem?_eq_getElem _⟩
    have hbm := List.mem_of_getElem? hb
    have hbi : ∀ e, gIx (.lst (bads o rows.length)) (.int (q : Int)) e s = .ok b e s := fun e => ix_lst (by
      rw [atI_of (by omega) (by simp [bads]; omega)]
      simpa using hb)
    have a1 := fun e => addT' (a := [b]) (b := rows) (e := e) (s := s) (by simp; unfold lim; omega)
    obtain ⟨hbt, hbr⟩ := bads_no ho rows.length s b hbm
    have k0 : ¬ k = 0 := by omega
    have k1 : ¬ k = 1 := by omega
    have k2 : ¬ k = 2 := by omega
    have k3 : ¬ k = 3 := by omega
    have k4 : ¬ k = 4 := by omega
    have k5 : ¬ k = 5 := by omega
    have k6 : ¬ k = 6 := by omega
    have k7 : ¬ k = 7 := by omega
    unfold bads at hbi
    have ht := fun e => fz_ty (e := e) ho.ty
    simp [sPar, ix_dk lk_sec, ix_dk lk_rows, List.replicate, m0, gMod_at hpos, hj, ix_tup hat, lim, k0, k1, k2, k3, k4, k5, k6, k7, ht, addL, hq15, hbi, fz_ty hbt, a1]
    rw [sp_made rfl rfl]
    simp
    refine ⟨rfl, prog_bad h.sec s (by simp) (by simp; omega) ?_ ⟨b, by simp, hbr⟩⟩
    intro r hr'
    rcases List.mem_cons.mp hr' with rfl | h1
    · exact ⟨hbt, false, hbr⟩
    · exact ⟨h.ty r h1, true, isrow_good (m := rows.length) (by simp; omega) (h.ok r h1) s⟩
end DL
end
section
set_option Elab.async false
set_option linter.all false
set_option maxRecDepth 100000
set_option maxHeartbeats 400000
set_option autoImplicit false
/-! K01V: the tape. -/
namespace DL
open PySem L2
theorem map_snoc (t : List Int) (x : Int) : t.map D.int ++ [.int x] = (t ++ [x]).map D.int := by simp
theorem tape_snoc {t : List Int} (h : Tape t) {x : Int} (h1 : 0 ≤ x) (h2 : x < 1000) : Tape (t ++ [x]) := by
  intro y hy
  rcases List.mem_append.mp hy with hy | hy
  · exact h y hy
  · rw [List.mem_singleton.mp hy]; exact ⟨h1, h2⟩
theorem tape_1 (scr : D) (x2 : Option SV) (s : Sto) (t : List Int) (v : Int) (hv : 0 ≤ v) (ht : Tape t) (hl : t.length < 100000) (x4 : Option SV) :
    ∃ e', sFor (iRange1 (eK (.int 60))) (bName 4) b_law_tape_1 [some (.val scr), some (.own (.lst (t.map .int))), x2, some (.val (.int v)), x4] s = .nx e' s ∧
      ∃ (t' : List Int) (v' : Int) (x4 : Option SV), e' = [some (.val scr), some (.own (.lst (t'.map .int))), x2, some (.val (.int v')), x4] ∧ 0 ≤ v' ∧ Tape t' ∧ t'.length ≤ t.length + 60 := by
  obtain ⟨e', h1, h2⟩ := sFor_rng (i := 4) (g := b_law_tape_1) (f := eK (.int 60)) (s := s) (n := 60) (e := [some (.val scr), some (.own (.lst (t.map .int))), x2, some (.val (.int v)), x4])
    (fun m e => ∃ (t' : List Int) (v' : Int) (x4 : Option SV), e = [some (.val scr), some (.own (.lst (t'.map .int))), x2, some (.val (.int v')), x4] ∧ 0 ≤ v' ∧ Tape t' ∧ t'.length ≤ t.length + m)
    rfl (by decide) ⟨t, v, x4, rfl, hv, ht, by omega⟩ (by
      intro m e hm ⟨t', v', x4, he, hv', ht', hl'⟩
      subst he
      unfold b_law_tape_1
      by_cases hp : 0 < v'
      · refine ⟨[some (.val scr), some (.own (.lst ((t' ++ [v' % 1000]).map .int))), x2, some (.val (.int (v' / 1000))), some (.val (.int m))], .inl ?_, t' ++ [v' % 1000], v' / 1000, _, rfl, by omega, tape_snoc ht' (by omega) (by omega), by simp; omega⟩
        have ha := sApp_at (i := 1) (f := eBin (gI kMod) (eVar 3) (eK (.int 1000))) (s := s) (ds := t'.map .int) (d := .int (v' % 1000)) (e := [some (.val scr), some (.own (.lst (t'.map .int))), x2, some (.val (.int v')), some (.val (.int m))]) rfl (by simp [gMod_at]) (by simp; unfold lim; omega)
        simp [hp, ha, gDiv_at]
      · refine ⟨[some (.val scr), some (.own (.lst (t'.map .int))), x2, some (.val (.int v')), some (.val (.int m))], .inl ?_, t', v', _, rfl, hv', ht', by omega⟩
        simp [hp])
  exact ⟨e', h1, h2⟩
theorem tape_2 (scr : D) (k0 : Nat) (hk0 : k0 < 1000) (s : Sto) (t : List Int) (v : Int) (hv : 0 ≤ v) (ht : Tape t) (hl : t.length < 100000) (x4 : Option SV) :
    ∃ e', sFor (iRange1 (eK (.int 4))) (bName 4) b_law_tape_2 [some (.val scr), some (.own (.lst (t.map .int))), some (.val (.int k0)), some (.val (.int v)), x4] s = .nx e' s ∧
      ∃ (t' : List Int) (v' : Int) (x4 : Option SV), e' = [some (.val scr), some (.own (.lst (t'.map .int))), some (.val (.int k0)), some (.val (.int v')), x4] ∧ 0 ≤ v' ∧ Tape t' ∧ t'.length ≤ t.length + 4 := by
  obtain ⟨e', h1, h2⟩ := sFor_rng (i := 4) (g := b_law_tape_2) (f := eK (.int 4)) (s := s) (n := 4) (e := [some (.val scr), some (.own (.lst (t.map .int))), some (.val (.int k0)), some (.val (.int v)), x4])
    (fun m e => ∃ (t' : List Int) (v' : Int) (x4 : Option SV), e = [some (.val scr), some (.own (.lst (t'.map .int))), some (.val (.int k0)), some (.val (.int v')), x4] ∧ 0 ≤ v' ∧ Tape t' ∧ t'.length ≤ t.length + m)
    rfl (by decide) ⟨t, v, x4, rfl, hv, ht, by omega⟩ (by
      intro m e hm ⟨t', v', x4, he, hv', ht', hl'⟩
      subst he
      unfold b_law_tape_2
      generalize hu : (v' * 48271 + 69621 * ((k0 : Int) + 1) + 7 * (m : Int)) % 2147483647 = u
      generalize hw : u * 16807 % 2147483647 = w
      have hw0 : 0 ≤ w ∧ w < 2147483647 := by omega
      refine ⟨[some (.val scr), some (.own (.lst ((t' ++ [w / 1000 % 1000]).map .int))), some (.val (.int k0)), some (.val (.int w)), some (.val (.int m))], .inl ?_, t' ++ [w / 1000 % 1000], w, _, rfl, by omega, tape_snoc ht' (by omega) (by omega), by simp; omega⟩
      have ha := sApp_at (i := 1) (f := eBin (gI kMod) (eBin (gI kDiv) (eVar 3) (eK (.int 1000))) (eK (.int 1000))) (s := s) (ds := t'.map .int) (d := .int (w / 1000 % 1000)) (e := [some (.val scr), some (.own (.lst (t'.map .int))), some (.val (.int k0)), some (.val (.int w)), some (.val (.int m))]) rfl (by simp [gMod_at, gDiv_at]) (by simp; unfold lim; omega)
      simp [gMul_l, gMul_r, gMod_at, hu, hw, ha])
  exact ⟨e', h1, h2⟩
theorem gPow_18 (e : Sl) (s : Sto) : gI kPow (.int 10) (.int 18) e s = .ok (.int 1000000000000000000) e s := by
  unfold gI kPow
  simp
theorem tape_fin {L : SF} {scr : D} {x2 x3 x4 : Option SV} (s : Sto) (t : List Int)
  (h1 : L [some (.val scr), some (.own (.lst [])), none, none, none] s = .nx [some (.val scr), some (.own (.lst (t.map .int))), x2, x3, x4] s) :
  fnOf 5 (sSeq (sOwn 1 (eLst aNil)) (sSeq L (sRet (eVar 1)))) [scr] s = .ok (.new (.lst (t.map .int))) s := by
  rw [fnOf_at]
  have l0 : (0 : Nat) ≤ lim := Nat.zero_le _
  simp only [List.map_cons, List.map_nil, List.length_cons, List.length_nil, List.cons_append, List.nil_append, List.replicate, Nat.zero_add, Nat.reduceSub, Nat.reduceAdd]
  simp [l0, h1]
theorem sp_tape {ns : List Int} (hn : ns.length ≤ 63) (s : Sto) : ∃ t : List Int, fn_law_tape [.scr (ns.map .int)] s = .ok (.new (.lst (t.map .int))) s ∧ Tape t := by
  obtain ⟨e', h1, t, x2, x3, x4, he, ht, hl⟩ := sFor_rng (i := 2) (g := b_law_tape_3) (f := eUn gLen (eVar 0)) (s := s) (n := ns.length) (e := [some (.val (.scr (ns.map .int))), some (.own (.lst [])), none, none, none])
    (fun m e => ∃ (t : List Int) (x2 x3 x4 : Option SV), e = [some (.val (.scr (ns.map .int))), some (.own (.lst (t.map .int))), x2, x3, x4] ∧ Tape t ∧ t.length ≤ 60 * m)
    (by simp) (by unfold lim; omega) ⟨[], none, none, none, rfl, (fun x hx => by cases hx), by simp⟩ (by
      intro m e hm ⟨t, x2, x3, x4, he, ht, hl⟩
      subst he
      have hat : atI (ns.map D.int) (m : Int) = some (.int (ns[m])) := by
        rw [atI_of (by omega) (by simpa using hm)]
        simp [hm]
      generalize ns[m] = v at hat
      generalize hv : (if v < 0 then -v else v) = w
      have hw : 0 ≤ w := by rw [← hv]; split <;> omega
      have q1 : t.length < 100000 := by omega
      have q2 : m < 1000 := by omega
      have q3 : ∀ n : Nat, n ≤ t.length + 60 → n ≤ 60 * (m + 1) := fun n _ => by omega
      have q4 : ∀ n : Nat, n ≤ t.length + 4 → n ≤ 60 * (m + 1) := fun n _ => by omega
      clear hl hm
      unfold b_law_tape_3
      by_cases hb : 1000000000000000000 ≤ w
      · obtain ⟨e2, g1, t', v', x4', he2, _, g3, g4⟩ := tape_1 (.scr (ns.map .int)) (some (.val (.int m))) s t w hw ht q1 x4
        refine ⟨e2, .inl ?_, t', _, _, _, he2, g3, q3 _ g4⟩
        simp [ix_scr hat, hv, gPow_18, hb, g1]
      · obtain ⟨e2, g1, t', v', x4', he2, _, g3, g4⟩ := tape_2 (.scr (ns.map .int)) m q2 s t w hw ht q1 x4
        refine ⟨e2, .inl ?_, t', _, _, _, he2, g3, q4 _ g4⟩
        simp [ix_scr hat, hv, gPow_18, hb, g1])
  subst he
  exact ⟨t, tape_fin s t h1, ht⟩
end DL
end
section
set_option Elab.async false
set_option linter.all false
set_option maxRecDepth 100000
set_option maxHeartbeats 400000
set_option autoImplicit false
/-! K01W: the fences. -/
namespace DL
open PySem L2
def mv (L : List Int) (p : Int) : Int := p + (L.filter fun o => decide (o < p)).length
theorem flat_ints (L : List Int) : (L.map D.int).all flatD = true := by simp [flatD]
theorem in_ints (L : List Int) (i : Int) (e : Sl) (s : Sto) : gIn false (.int i) (.lst (L.map .int)) e s = .ok (.bl (L.any fun y => y == i)) e s := by
  unfold gIn
  simp only [vw_lst, asSeq_lst, flat_ints]
  rw [if_pos ⟨rfl, trivial⟩]
  rw [List.any_map]
  rfl
theorem sp_moved (L : List Int) (hl : L.length ≤ 1000) (p : Int) (s : Sto) : fn_moved [.int p, .lst (L.map .int)] s = .ok (.val (.int (mv L p))) s := by
  have hc := comp_seq (i := 2) (s := s) (e := [some (.val (.int p)), some (.val (.lst (L.map .int))), none]) (f := eVar 1) (ft := eBin (gI kLt) (eVar 2) (eVar 0)) (fe := eVar 2) (d := .lst (L.map .int)) (ds := L.map .int)
    (fun x => match x with | .int o => decide (o < p) | _ => false) (fun x => x) rfl rfl (by simp; unfold lim; omega) rfl (fun x hx => by
      obtain ⟨o, _, rfl⟩ := List.mem_map.mp hx
      simp)
  have hlen : (((L.map D.int).filter fun x => match x with | .int o => decide (o < p) | _ => false).map fun x => x).length = (L.filter fun o => decide (o < p)).length := by
    rw [List.filter_map, List.length_map, List.length_map]
    rfl
  unfold fn_moved g_moved mv
  rw [fnOf_at]
  simp only [List.map_cons, List.map_nil, List.length_cons, List.length_nil, List.cons_append, List.nil_append, List.replicate, Nat.zero_add, Nat.reduceSub, Nat.reduceAdd]
  simp
  rw [hc]
  simp only [b_ok, len_lst, hlen]
  simp
theorem sp_lmoved (L : List Int) (hl : L.length ≤ 1000) (p : Int) (s : Sto) : fn_law_moved [.int p, .lst (L.map .int)] s = .ok (.val (.int (mv L p))) s := sp_moved L hl p s
def fen : D := .tup [sx "fence"]
theorem appV {x0 x1 x3 : Option SV} (acc : List D) (r : D) (s : Sto) (hr : Ty r = true) (hl : acc.length < lim) : sApp 2 (eVar 4) [x0, x1, some (.own (.lst acc)), x3, some (.val r)] s = .nx [x0, x1, some (.own (.lst (acc ++ [r]))), x3, some (.val r)] s :=
  sApp_at rfl (by simp [fz_ty hr]) hl
theorem appF {x0 x1 x3 x4 : Option SV} (acc : List D) (s : Sto) (hl : acc.length < lim) : sApp 2 (eTup (aCons (eK (.str (Str.ofString "fence"))) aNil)) [x0, x1, some (.own (.lst acc)), x3, x4] s = .nx [x0, x1, some (.own (.lst (acc ++ [fen]))), x3, x4] s :=
  sApp_at rfl (by simp [lim, fen]) hl
theorem cut_last (ds : List D) (x : D) : cutD (ds ++ [x]) none (some (-1)) = ds := by
  unfold cutD
  have h : HT.sIx (ds ++ [x]).length (ds ++ [x]).length (some (-1)) = ds.length := by
    show (if (-1 : Int) < 0 then ((-1 : Int) + ((ds ++ [x]).length : Int)).toNat else min (-1 : Int).toNat (ds ++ [x]).length) = _
    rw [if_pos (by decide)]
    simp
    omega
  rw [h, HT.sIx_none]
  simp
def Acc (L : List Int) (i : Nat) (acc : List D) : List D := acc ++ (if (L.any fun y => y == (i : Int)) = true then [fen] else [])
section
variable {L : List Int} {sec : D} {rows acc ds as : List D} {x4 : Option SV} {i : Nat} {s : Sto} {k : String} {a : Int}
theorem lkr (e : Sl) (s : Sto) : gIx (pD sec (.tup rows)) (sx "rows") e s = .ok (.tup rows) e s := ix_dk lk_rows
theorem lks (e : Sl) (s : Sto) : gIx (pD sec (.tup rows)) (sx "secret") e s = .ok sec e s := ix_dk lk_sec
theorem in_tj (k : String) (e : Sl) (s : Sto) : gIn false (sx k) (.tup [sx "test", sx "jump"]) e s = .ok (.bl ("test" == k || "jump" == k)) e s := by
  simp [gIn, flatD, eqF, bxor]
theorem wf_jump (hl : L.length ≤ 1000) (hk : k = "jump" ∨ k = "test") (h0 : atI (ds ++ [.int a]) 0 = some (sx k)) (hat : atI rows (i : Int) = some (.tup (ds ++ [.int a]))) (hd : ds.length ≤ 10) (hac : acc.length < 1000) :
    b_with_fences_1 [some (.val (pD sec (.tup rows))), some (.val (.lst (L.map .int))), some (.own (.lst acc)), some (.val (.int i)), x4] s = .nx [some (.val (pD sec (.tup rows))), some (.val (.lst (L.map .int))), some (.own (.lst (Acc L i acc ++ [.tup (ds ++ [.int (mv L a)])]))), some (.val (.int i)), some (.val (.tup (ds ++ [.int (mv L a)])))] s := by
  have f1 : acc.length < lim := by unfold lim; omega
  have f2 : (acc ++ [fen]).length < lim := by unfold lim; simp; omega
  have f3 : ds.length + [D.int (mv L a)].length ≤ lim := by unfold lim; simp; omega
  unfold b_with_fences_1 Acc
  cases hb : (L.any fun y => y == (i : Int)) <;> rcases hk with rfl | rfl <;>
    simp [lkr, ix_tup hat, in_ints, hb, ix_tup h0, ix_tup atI_last, eSl, ePart, gCut, cut_last, sp_moved L hl, addT' f3, lim, appF acc s f1, appV acc (.tup (ds ++ [.int (mv L a)])) s rfl f1, appV (acc ++ [fen]) (.tup (ds ++ [.int (mv L a)])) s rfl f2]
theorem wf_else (hk : k ≠ "jump" ∧ k ≠ "test") (hat : atI rows (i : Int) = some (.tup (sx k :: as))) (hac : acc.length < 1000) :
    b_with_fences_1 [some (.val (pD sec (.tup rows))), some (.val (.lst (L.map .int))), some (.own (.lst acc)), some (.val (.int i)), x4] s = .nx [some (.val (pD sec (.tup rows))), some (.val (.lst (L.map .int))), some (.own (.lst (Acc L i acc ++ [.tup (sx k :: as)]))), some (.val (.int i)), some (.val (.tup (sx k :: as)))] s := by
  have f1 : acc.length < lim := by unfold lim; omega
  have f2 : (acc ++ [fen]).length < lim := by unfold lim; simp; omega
  have h0 : atI (sx k :: as) 0 = some (sx k) := by
    rw [atI_of (by omega) (by simp)]
    rfl
  unfold b_with_fences_1 Acc
  cases hb : (L.any fun y => y == (i : Int)) <;>
    simp [lkr, ix_tup hat, in_ints, hb, ix_tup h0, hk, appF acc s f1, appV acc (.tup (sx k :: as)) s rfl f1, appV (acc ++ [fen]) (.tup (sx k :: as)) s rfl f2]
theorem lf_jump (hl : L.length ≤ 1000) (hk : k = "jump" ∨ k = "test") (h0 : atI (ds ++ [.int a]) 0 = some (sx k)) (hat : atI rows (i : Int) = some (.tup (ds ++ [.int a]))) (hd : ds.length ≤ 10) (hac : acc.length < 1000) :
    b_law_fenced_1 [some (.val (pD sec (.tup rows))), some (.val (.lst (L.map .int))), some (.own (.lst acc)), some (.val (.int i)), x4] s = .nx [some (.val (pD sec (.tup rows))), some (.val (.lst (L.map .int))), some (.own (.lst (Acc L i acc ++ [.tup (ds ++ [.int (mv L a)])]))), some (.val (.int i)), some (.val (.tup (ds ++ [.int (mv L a)])))] s := by
  have f1 : acc.length < lim := by unfold lim; omega
  have f2 : (acc ++ [fen]).length < lim := by unfold lim; simp; omega
  have f3 : ds.length + [D.int (mv L a)].length ≤ lim := by unfold lim; simp; omega
  unfold b_law_fenced_1 Acc
  cases hb : (L.any fun y => y == (i : Int)) <;> rcases hk with rfl | rfl <;>
    simp [lkr, ix_tup hat, in_ints, hb, ix_tup h0, ix_tup atI_last, eSl, ePart, gCut, cut_last, sp_lmoved L hl, addT' f3, lim, in_tj, appF acc s f1, appV acc (.tup (ds ++ [.int (mv L a)])) s rfl f1, appV (acc ++ [fen]) (.tup (ds ++ [.int (mv L a)])) s rfl f2]
theorem lf_else (hk : k ≠ "jump" ∧ k ≠ "test") (hat : atI rows (i : Int) = some (.tup (sx k :: as))) (hac : acc.length < 1000) :
    b_law_fenced_1 [some (.val (pD sec (.tup rows))), some (.val (.lst (L.map .int))), some (.own (.lst acc)), some (.val (.int i)), x4] s = .nx [some (.val (pD sec (.tup rows))), some (.val (.lst (L.map .int))), some (.own (.lst (Acc L i acc ++ [.tup (sx k :: as)]))), some (.val (.int i)), some (.val (.tup (sx k :: as)))] s := by
  have f1 : acc.length < lim := by unfold lim; omega
  have f2 : (acc ++ [fen]).length < lim := by unfold lim; simp; omega
  have h0 : atI (sx k :: as) 0 = some (sx k) := by
    rw [atI_of (by omega) (by simp)]
    rfl
  unfold b_law_fenced_1 Acc
  cases hb : (L.any fun y => y == (i : Int)) <;>
    simp [lkr, ix_tup hat, in_ints, hb, ix_tup h0, hk, Ne.symm hk.1, Ne.symm hk.2, in_tj, lim, appF acc s f1, appV acc (.tup (sx k :: as)) s rfl f1, appV (acc ++ [fen]) (.tup (sx k :: as)) s rfl f2]
end
end DL
end
section
set_option Elab.async false
set_option linter.all false
set_option maxRecDepth 100000
set_option maxHeartbeats 400000
set_option autoImplicit false
/-! K01X: the fenced programs are the same. -/
namespace DL
open PySem L2
theorem mv_rev (L : List Int) (p : Int) : mv L.reverse p = mv L p := by
  unfold mv
  rw [List.filter_reverse, List.length_reverse]
theorem Acc_rev (L : List Int) (i : Nat) (acc : List D) : Acc L.reverse i acc = Acc L i acc := by
  unfold Acc
  rw [List.any_reverse]
/-- what both append for the row -/
def FrOk (L : List Int) (r r' : D) : Prop := pd r' = true ∧ depth r' ≤ 1 ∧ ∀ L' : List Int, L'.length ≤ 1000 → (∀ p, mv L' p = mv L p) → ∀ (sec : D) (rows acc : List D) (x4 : Option SV) (i : Nat) (s : Sto), atI rows (i : Int) = some r → acc.length < 1000 →
  b_with_fences_1 [some (.val (pD sec (.tup rows))), some (.val (.lst (L'.map .int))), some (.own (.lst acc)), some (.val (.int i)), x4] s = .nx [some (.val (pD sec (.tup rows))), some (.val (.lst (L'.map .int))), some (.own (.lst (Acc L' i acc ++ [r']))), some (.val (.int i)), some (.val r')] s ∧
  b_law_fenced_1 [some (.val (pD sec (.tup rows))), some (.val (.lst (L'.map .int))), some (.own (.lst acc)), some (.val (.int i)), x4] s = .nx [some (.val (pD sec (.tup rows))), some (.val (.lst (L'.map .int))), some (.own (.lst (Acc L' i acc ++ [r']))), some (.val (.int i)), some (.val r')] s
theorem fr_same {L : List Int} {k : String} {as : List D} (hk : k ≠ "jump" ∧ k ≠ "test") (hp : pd (.tup (sx k :: as)) = true) (hd : depth (.tup (sx k :: as)) ≤ 1) : FrOk L (.tup (sx k :: as)) (.tup (sx k :: as)) :=
  ⟨hp, hd, fun L' hl hm sec rows acc x4 i s hat hac => ⟨wf_else hk hat hac, lf_else hk hat hac⟩⟩
theorem fr_moved {L : List Int} {k : String} {ds : List D} {a : Int} (hk : k = "jump" ∨ k = "test") (h0 : atI (ds ++ [.int a]) 0 = some (sx k)) (hlen : ds.length ≤ 10) (hp : pd (.tup (ds ++ [.int (mv L a)])) = true) (hd : depth (.tup (ds ++ [.int (mv L a)])) ≤ 1) : FrOk L (.tup (ds ++ [.int a])) (.tup (ds ++ [.int (mv L a)])) :=
  ⟨hp, hd, fun L' hl hm sec rows acc x4 i s hat hac => by
    rw [← hm a]
    exact ⟨wf_jump hl hk h0 hat hlen hac, lf_jump hl hk h0 hat hlen hac⟩⟩
theorem fr_ex {m : Int} {r : D} (h : GRow m r) (L : List Int) : ∃ r', FrOk L r r' := by
  cases h with
  | ask => exact ⟨_, fr_same (by decide) rfl (by simp [depth, depths])⟩
  | mix => exact ⟨_, fr_same (by decide) rfl (by simp [depth, depths])⟩
  | load => exact ⟨_, fr_same (by decide) rfl (by simp [depth, depths])⟩
  | mask => exact ⟨_, fr_same (by decide) rfl (by simp [depth, depths])⟩
  | put => exact ⟨_, fr_same (by decide) rfl (by simp [depth, depths])⟩
  | get => exact ⟨_, fr_same (by decide) rfl (by simp [depth, depths])⟩
  | fence => exact ⟨_, fr_same (by decide) rfl (by simp [depth, depths])⟩
  | ed => exact ⟨_, fr_same (by decide) rfl (by simp [depth, depths])⟩
  | @jump a => exact ⟨_, fr_moved (ds := [sx "jump"]) (a := a) (.inl rfl) rfl (by decide) rfl (by simp [depth, depths])⟩
  | @test a b c => exact ⟨_, fr_moved (ds := [sx "test", .int a, .int b]) (a := c) (.inr rfl) rfl (by simp) rfl (by simp [depth, depths])⟩
def AC (L : List Int) (f : Nat → D) : Nat → List D
  | 0 => []
  | i + 1 => Acc L i (AC L f i) ++ [f i]
theorem AC_rev (L : List Int) (f : Nat → D) : ∀ i, AC L.reverse f i = AC L f i
  | 0 => rfl
  | i + 1 => by unfold AC; rw [AC_rev L f i, Acc_rev]
theorem AC_len (L : List Int) (f : Nat → D) : ∀ i, (AC L f i).length ≤ 2 * i
  | 0 => by simp [AC]
  | i + 1 => by
    have := AC_len L f i
    unfold AC Acc
    split <;> simp <;> omega
theorem AC_mem (L : List Int) (f : Nat → D) : ∀ (i : Nat) (x : D), x ∈ AC L f i → x = fen ∨ ∃ j, j < i ∧ x = f j
  | 0, x, h => by cases h
  | i + 1, x, h => by
    unfold AC Acc at h
    rcases List.mem_append.mp h with h | h
    · rcases List.mem_append.mp h with h | h
      · rcases AC_mem L f i x h with h | ⟨j, h1, h2⟩
        · exact .inl h
        · exact .inr ⟨j, by omega, h2⟩
      · split at h
        · exact .inl (List.mem_singleton.mp h)
        · cases h
    · exact .inr ⟨i, by omega, List.mem_singleton.mp h⟩
theorem wf_run {sec : D} {rows : List D} {L0 L : List Int} {f : Nat → D} (hs : Ty sec = true) (hn : rows.length ≤ 12) (hl : L.length ≤ 1000) (hm : ∀ p, mv L p = mv L0 p) (hf : ∀ (i : Nat) r, rows[i]? = some r → FrOk L0 r (f i)) (s : Sto) :
    fn_with_fences [pD sec (.tup rows), .lst (L.map .int)] s = .ok (.new (pD sec (.tup (AC L f rows.length)))) s := by
  obtain ⟨e', h1, x3, x4, he⟩ := sFor_rng (i := 3) (g := b_with_fences_1) (f := eUn gLen (eBin gIx (eVar 0) (eK (.str (Str.ofString "rows"))))) (s := s) (n := rows.length) (e := [some (.val (pD sec (.tup rows))), some (.val (.lst (L.map .int))), some (.own (.lst [])), none, none])
    (fun m e => ∃ x3 x4 : Option SV, e = [some (.val (pD sec (.tup rows))), some (.val (.lst (L.map .int))), some (.own (.lst (AC L f m))), x3, x4])
    (by simp [lkr]) (by unfold lim; omega) ⟨none, none, rfl⟩ (by
      intro m e hmm ⟨x3, x4, he⟩
      subst he
      obtain ⟨r, hr⟩ : ∃ r, rows[m]? = some r := ⟨rows[m], List.getElem?_eq_getElem hmm⟩
      have hat : atI rows (m : Int) = some r := by
        rw [atI_of (by omega) (by omega)]
        simpa using hr
      have := AC_len L f m
      exact ⟨_, .inl ((hf m r hr).2.2 L hl hm sec rows (AC L f m) x4 m s hat (by omega)).1, _, _, rfl⟩)
  subst he
  unfold fn_with_fences g_with_fences
  rw [fnOf_at]
  simp only [List.map_cons, List.map_nil, List.length_cons, List.length_nil, List.cons_append, List.nil_append, List.replicate, Nat.zero_add, Nat.reduceSub, Nat.reduceAdd]
  have l0 : (0 : Nat) ≤ lim := Nat.zero_le _
  simp [l0, h1, lks, fz_ty hs, ptAll, pt, hasK]
  rfl
theorem lf_run {sec : D} {rows : List D} {L0 L : List Int} {f : Nat → D} (hs : Ty sec = true) (hn : rows.length ≤ 12) (hl : L.length ≤ 1000) (hm : ∀ p, mv L p = mv L0 p) (hf : ∀ (i : Nat) r, rows[i]? = some r → FrOk L0 r (f i)) (s : Sto) :
    fn_law_fenced [pD sec (.tup rows), .lst (L.map .int)] s = .ok (.val (pD sec (.tup (AC L f rows.length)))) s := by
  obtain ⟨e', h1, x3, x4, he⟩ := sFor_rng (i := 3) (g := b_law_fenced_1) (f := eUn gLen (eBin gIx (eVar 0) (eK (.str (Str.ofString "rows"))))) (s := s) (n := rows.length) (e := [some (.val (pD sec (.tup rows))), some (.val (.lst (L.map .int))), some (.own (.lst [])), none, none])
    (fun m e => ∃ x3 x4 : Option SV, e = [some (.val (pD sec (.tup rows))), some (.val (.lst (L.map .int))), some (.own (.lst (AC L f m))), x3, x4])
    (by simp [lkr]) (by unfold lim; omega) ⟨none, none, rfl⟩ (by
      intro m e hmm ⟨x3, x4, he⟩
      subst he
      obtain ⟨r, hr⟩ : ∃ r, rows[m]? = some r := ⟨rows[m], List.getElem?_eq_getElem hmm⟩
      have hat : atI rows (m : Int) = some r := by
        rw [atI_of (by omega) (by omega)]
        simpa using hr
      have := AC_len L f m
      exact ⟨_, .inl ((hf m r hr).2.2 L hl hm sec rows (AC L f m) x4 m s hat (by omega)).2, _, _, rfl⟩)
  subst he
  unfold fn_law_fenced g_law_fenced
  rw [fnOf_at]
  simp only [List.map_cons, List.map_nil, List.length_cons, List.length_nil, List.cons_append, List.nil_append, List.replicate, Nat.zero_add, Nat.reduceSub, Nat.reduceAdd]
  have l0 : (0 : Nat) ≤ lim := Nat.zero_le _
  have hmade := sp_made (x := sec) (y := .tup (AC L f rows.length)) hs rfl s
  simp [l0, h1, lks, fz_ty hs, hmade]
end DL
end
section
set_option Elab.async false
set_option linter.all false
set_option maxRecDepth 100000
set_option maxHeartbeats 400000
set_option autoImplicit false
/-! K01Y: the law's answer. -/
namespace DL
open PySem L2
@[simp] theorem isB_at {a b : Bool} {e : Sl} {s : Sto} : gIsB (.bl a) (.bl b) e s = .ok (.bl (decide (a = b))) e s := rfl
@[simp] theorem notB_at {a b : Bool} {e : Sl} {s : Sto} : gNotB (.bl a) (.bl b) e s = .ok (.bl (!decide (a = b))) e s := rfl
@[simp] theorem fz_pD {x y : D} {e : Sl} : fz (pD x y) e = some (pD x y, e) := rfl
@[simp] theorem vw_pD {x y : D} {e : Sl} {s : Sto} : vw (pD x y) e s = pD x y := rfl
theorem rev_ints (L : List Int) (e : Sl) (s : Sto) : gRev (.lst (L.map .int)) e s = .ok (.lst (L.reverse.map .int)) e s := by
  unfold gRev
  simp
theorem spoil_loop {d o : D} {t : List Int} (ht : Tape t) {sec : List Int} {rows : List D} (hd : d = pD (.tup (sec.map .int)) (.tup rows)) (hsp : Sp sec rows) (ho : Odd o) (x0 x5 x6 x7 x8 : Option SV) (s : Sto) :
    ∃ e', sFor (iRange1 (eK (.int 4))) (bName 4) b_law_1 [x0, some (.val (.lst (t.map .int))), some (.val d), some (.val o), none, x5, x6, x7, x8] s = .nx e' s ∧
      ∃ y4 y5, e' = [x0, some (.val (.lst (t.map .int))), some (.val d), some (.val o), y4, y5, x6, x7, x8] := by
  obtain ⟨e', h1, h2⟩ := sFor_rng (i := 4) (g := b_law_1) (f := eK (.int 4)) (s := s) (n := 4) (e := [x0, some (.val (.lst (t.map .int))), some (.val d), some (.val o), none, x5, x6, x7, x8])
    (fun m e => ∃ y4 y5, e = [x0, some (.val (.lst (t.map .int))), some (.val d), some (.val o), y4, y5, x6, x7, x8])
    rfl (by decide) ⟨_, _, rfl⟩ (by
      intro m e hm ⟨y4, y5, he⟩
      subst he
      subst hd
      have b0 := tat_bd ht 0
      have b1 := tat_bd ht 1
      have g0 := sp_at (t := t) (k := 0) (by decide) s
      have g1 := sp_at (t := t) (k := 1) (by decide) s
      obtain ⟨x, h1, hx1, hx2⟩ := sp_spoiled hsp (k := (tat t 0 + 5 * (m : Int)) % 14) (a := tat t 1 + (m : Int)) (by omega) (by omega) ho s
      refine ⟨_, .inl ?_, some (.val (.int m)), some (.val x), rfl⟩
      unfold b_law_1
      simp [g0, g1, gMul_l, gMod_at, fz_ty ho.ty, h1, fz_ty hx1, hx2]
)
  exact ⟨e', h1, h2⟩
theorem depth_ints (l : List Int) : depth (.tup (l.map .int)) ≤ 1 := by
  unfold depth
  have : depths (l.map D.int) ≤ 0 := depths_le (fun x hx => by
    obtain ⟨i, _, rfl⟩ := List.mem_map.mp hx
    simp [depth])
  omega
theorem pd_ints (l : List Int) : pds (l.map .int) = true := pds_all (fun x hx => by
    obtain ⟨i, _, rfl⟩ := List.mem_map.mp hx
    rfl)
theorem pD_pd {sec : List Int} {rows : List D} (h : ∀ r ∈ rows, pd r = true ∧ depth r ≤ 1) : pd (pD (.tup (sec.map .int)) (.tup rows)) = true ∧ depth (pD (.tup (sec.map .int)) (.tup rows)) < 40 := by
  constructor
  · have h1 : pd (.tup (sec.map .int)) = true := by unfold pd; exact pd_ints sec
    have h2 : pd (.tup rows) = true := by unfold pd; exact pds_all fun r hr => (h r hr).1
    unfold pD
    simp [pd, pdk]
    unfold pd at h1 h2
    exact ⟨h1, h2⟩
  · have h1 := depth_ints sec
    have h2 : depth (.tup rows) ≤ 2 := by
      unfold depth
      have : depths rows ≤ 1 := depths_le fun r hr => (h r hr).2
      omega
    unfold pD
    simp [depth, depthk] at h1 h2 ⊢
    omega
theorem lists_eq {L : List Int} {e : Sl} {s : Sto} : gEq (.lst (L.map .int)) (.lst (L.map .int)) e s = .ok (.bl true) e s := by
  refine eq_refl (by unfold pd; exact pd_ints L) ?_
  have := depth_ints L
  unfold depth at this ⊢
  omega
theorem sp_none (s : Sto) : fn_is_program [.non] s = .ok (.val (.bl false)) s := by
  unfold fn_is_program g_is_program
  rw [fnOf_at]
  simp [isTy, List.replicate]
theorem gprog_sp {d : D} (g : GProg d) : ∃ sec rows, d = pD (.tup (sec.map .int)) (.tup rows) ∧ Sp sec rows := by
  obtain ⟨sec, rows, last, rfl, hb, ho, hl, hs⟩ := g
  have hlen : ((rows ++ [last]).length : Int) = (rows.length + 1 : Nat) := by simp
  exact ⟨sec, rows ++ [last], rfl, hs, by simp, by simp; omega, fun r hr => by rw [hlen]; exact ho r hr⟩
theorem main_k01 {ns : List Int} (hn : ns.length ≤ 63) (s : Sto) : fn_law [.scr (ns.map .int)] s = .ok (.val (.bl true)) s := by
  obtain ⟨t, htape, ht⟩ := sp_tape hn s
  obtain ⟨d, hprog, ⟨g⟩⟩ := sp_program ht (p := 4) (by decide) s
  have hgood := prog_good g s
  obtain ⟨sec, rows, hd, hsp⟩ := gprog_sp g
  have g2 := sp_at (t := t) (k := 2) (by decide) s
  have g3 := sp_at (t := t) (k := 3) (by decide) s
  have b2 := tat_bd ht 2
  obtain ⟨o, ho⟩ : ∃ o, atI [.int 4, .int (-1), .bl true, .non, sx "0", .int 9] (tat t 2 % 6) = some o := by
    have h6 : tat t 2 % 6 = 0 ∨ tat t 2 % 6 = 1 ∨ tat t 2 % 6 = 2 ∨ tat t 2 % 6 = 3 ∨ tat t 2 % 6 = 4 ∨ tat t 2 % 6 = 5 := by omega
    rcases h6 with h | h | h | h | h | h <;> rw [h] <;> exact ⟨_, rfl⟩
  have hodd := odd_at ho
  have ho2 : ∀ e, gIx (.lst [.int 4, .int (-1), .bl true, .non, sx "0", .int 9]) (.int (tat t 2 % 6)) e s = .ok o e s := fun e => ix_lst ho
  obtain ⟨e', hloop, y4, y5, he⟩ := spoil_loop ht hd hsp hodd (some (.val (.scr (ns.map .int)))) none none none none s
  subst he
  have hc := comp_rngW (i := 4) (s := s) (n := rows.length) (e := [some (.val (.scr (ns.map .int))), some (.val (.lst (t.map .int))), some (.val d), some (.val o), y4, y5, none, none, none])
    (ft := eBin gEq (eBin (gI kMod) (eBin (gI kDiv) (eCall 2 fn_law_at (aCons (eVar 1) (aCons (eK (.int 3)) aNil))) (eBin gAdd (eVar 4) (eK (.int 1)))) (eK (.int 3))) (eK (.int 0))) (fe := eVar 4) (f := eUn gLen (eBin gIx (eVar 2) (eK (.str (Str.ofString "rows")))))
    (fun (m : Nat) => decide (tat t 3 / ((m : Int) + 1) % 3 = 0)) (fun (m : Nat) => .int m) (by subst hd; simp [lkr]) (by have := hsp.big; unfold lim; omega) (fun m hm => by
      have hmb : (m : Int) + 1 < 1073741824 := by have := hsp.big; omega
      simp [g3, gDiv_at (show (0 : Int) < (m : Int) + 1 by omega) hmb, gMod_at])
  have hLx : ((List.range rows.length).filter fun (m : Nat) => decide (tat t 3 / ((m : Int) + 1) % 3 = 0)).map (fun (m : Nat) => D.int m) = (((List.range rows.length).filter fun (m : Nat) => decide (tat t 3 / ((m : Int) + 1) % 3 = 0)).map (fun (m : Nat) => (m : Int))).map D.int := by
    rw [List.map_map]; rfl
  rw [hLx] at hc
  have hLl : (((List.range rows.length).filter fun (m : Nat) => decide (tat t 3 / ((m : Int) + 1) % 3 = 0)).map (fun (m : Nat) => (m : Int))).length ≤ 12 := by
    rw [List.length_map]
    have := List.length_filter_le (fun (m : Nat) => decide (tat t 3 / ((m : Int) + 1) % 3 = 0)) (List.range rows.length)
    rw [List.length_range] at this
    have := hsp.big
    omega
  generalize ((List.range rows.length).filter fun (m : Nat) => decide (tat t 3 / ((m : Int) + 1) % 3 = 0)).map (fun (m : Nat) => (m : Int)) = L at hc hLl
  have hf : ∃ f : Nat → D, ∀ (i : Nat) r, rows[i]? = some r → FrOk L r (f i) := by
    refine ⟨fun i => match h : rows[i]? with | some r => Classical.choose (fr_ex (hsp.ok r (List.mem_of_getElem? h)) L) | none => .non, fun i r hr => ?_⟩
    simp only
    split
    · rename_i r' h
      rw [hr] at h
      cases h
      exact Classical.choose_spec (fr_ex (hsp.ok r (List.mem_of_getElem? hr)) L)
    · rename_i h
      rw [hr] at h
      cases h
  obtain ⟨f, hf⟩ := hf
  have hw := wf_run (sec := .tup (sec.map .int)) (rows := rows) (L0 := L) (L := L.reverse) (f := f) rfl hsp.big (by simp; omega) (fun p => mv_rev L p) hf s
  have hl := lf_run (sec := .tup (sec.map .int)) (rows := rows) (L0 := L) (L := L) (f := f) rfl hsp.big (by omega) (fun p => rfl) hf s
  rw [AC_rev] at hw
  have hpd := pD_pd (sec := sec) (rows := AC L f rows.length) (fun r hr => by
    rcases AC_mem L f _ r hr with rfl | ⟨j, hj, rfl⟩
    · exact ⟨rfl, by decide⟩
    · obtain ⟨r0, hr0⟩ : ∃ r, rows[j]? = some r := ⟨rows[j], List.getElem?_eq_getElem hj⟩
      exact ⟨(hf j r0 hr0).1, (hf j r0 hr0).2.1⟩)
  have heq := fun e => eq_refl (e := e) (s := s) hpd.1 hpd.2
  have hno := sp_none s
  have hle := fun e => lists_eq (L := L.reverse) (e := e) (s := s)
  have hrev := fun e => rev_ints L e s
  have hrev2 : ∀ e, gRev (.lst (L.map .int)) e s = .ok (.lst (L.reverse.map .int)) e s := hrev
  simp only [List.map_reverse] at hw hle hrev2
  subst hd
  unfold fn_law g_law
  rw [fnOf_at]
  generalize sFor (iRange1 (eK (.int 4))) (bName 4) b_law_1 = LP at hloop ⊢
  have hne : ∀ e, gNe (.tup [.int 4, .int 2, .int 2, .int 32]) (.tup [.int 4, .int 2, .int 2, .int 32]) e s = .ok (.bl false) e s := fun e => by rfl
  simp only [List.map_cons, List.map_nil, List.length_cons, List.length_nil, List.cons_append, List.nil_append, List.replicate, Nat.zero_add, Nat.reduceSub, Nat.reduceAdd]
  simp [lim, hne, htape, hprog, hgood, g2, gMod_at, ho2, fz_ty hodd.ty, hloop, hc, hrev2, hw, hl, heq, hle, hno]
theorem hlaw_k01 : ∀ ns : List Int, ns.length ≤ 63 → ∃ st, fn_law [.scr (ns.map .int)] [] = .ok (.val (.bl true)) st := fun ns h => ⟨[], main_k01 h []⟩
end DL
end
section
set_option Elab.async false
set_option linter.all false
set_option maxRecDepth 100000
set_option maxHeartbeats 4000000

/-! printed by head.py: what the top has written -/
namespace DL
open PySem PySem.Spec L2
open PyProof.Rows hiding St
theorem all_mk {l : PySem.W.OpenLaw} {w : World} {K : PySem.W.Frag} {h : Heap} {mg : Str → Option Value} {fa f0 f1 f2 f3 f4 f5 f6 f7 f8 f9 f10 f11 f12 f13 f14 f15 : Addr} (X : K.In h) (G : h.Ns mainGlobals mg) (hfa : mg "law" = some (.ref fa))
    {od0 an0 : Option Addr} {sl0 : Array (Option Value)} {oc0 kV0 dc0 pm0 cd0 ct0 : Value}
    (a0 : PySem.W.nsIn K mainGlobals "is_number" = some (some (.ref f0))) (l0 : K.lookup f0 = some ⟨oc0, od0, .func (PySem.W.fnOf "is_number" "is_number" (defArgs s_is_number) (defBody s_is_number) (defScope s_is_number) .none kV0 dc0 pm0 an0 cd0 ct0), sl0⟩) (c0 : PySem.W.codeIn K cd0 "is_number" = true) (k0 : PySem.W.keepIn K (.ref f0) = true)
    {od1 an1 : Option Addr} {sl1 : Array (Option Value)} {oc1 kV1 dc1 pm1 cd1 ct1 : Value}
    (a1 : PySem.W.nsIn K mainGlobals "most_of" = some (some (.ref f1))) (l1 : K.lookup f1 = some ⟨oc1, od1, .func (PySem.W.fnOf "most_of" "most_of" (defArgs s_most_of) (defBody s_most_of) (defScope s_most_of) .none kV1 dc1 pm1 an1 cd1 ct1), sl1⟩) (c1 : PySem.W.codeIn K cd1 "most_of" = true) (k1 : PySem.W.keepIn K (.ref f1) = true)
    {od2 an2 : Option Addr} {sl2 : Array (Option Value)} {oc2 kV2 dc2 pm2 cd2 ct2 : Value}
    (a2 : PySem.W.nsIn K mainGlobals "is_row" = some (some (.ref f2))) (l2 : K.lookup f2 = some ⟨oc2, od2, .func (PySem.W.fnOf "is_row" "is_row" (defArgs s_is_row) (defBody s_is_row) (defScope s_is_row) .none kV2 dc2 pm2 an2 cd2 ct2), sl2⟩) (c2 : PySem.W.codeIn K cd2 "is_row" = true) (k2 : PySem.W.keepIn K (.ref f2) = true)
    {od3 an3 : Option Addr} {sl3 : Array (Option Value)} {oc3 kV3 dc3 pm3 cd3 ct3 : Value}
    (a3 : PySem.W.nsIn K mainGlobals "is_secret" = some (some (.ref f3))) (l3 : K.lookup f3 = some ⟨oc3, od3, .func (PySem.W.fnOf "is_secret" "is_secret" (defArgs s_is_secret) (defBody s_is_secret) (defScope s_is_secret) .none kV3 dc3 pm3 an3 cd3 ct3), sl3⟩) (c3 : PySem.W.codeIn K cd3 "is_secret" = true) (k3 : PySem.W.keepIn K (.ref f3) = true)
    {od4 an4 : Option Addr} {sl4 : Array (Option Value)} {oc4 kV4 dc4 pm4 cd4 ct4 : Value}
    (a4 : PySem.W.nsIn K mainGlobals "is_program" = some (some (.ref f4))) (l4 : K.lookup f4 = some ⟨oc4, od4, .func (PySem.W.fnOf "is_program" "is_program" (defArgs s_is_program) (defBody s_is_program) (defScope s_is_program) .none kV4 dc4 pm4 an4 cd4 ct4), sl4⟩) (c4 : PySem.W.codeIn K cd4 "is_program" = true) (k4 : PySem.W.keepIn K (.ref f4) = true)
    {od5 an5 : Option Addr} {sl5 : Array (Option Value)} {oc5 kV5 dc5 pm5 cd5 ct5 : Value}
    (a5 : PySem.W.nsIn K mainGlobals "moved" = some (some (.ref f5))) (l5 : K.lookup f5 = some ⟨oc5, od5, .func (PySem.W.fnOf "moved" "moved" (defArgs s_moved) (defBody s_moved) (defScope s_moved) .none kV5 dc5 pm5 an5 cd5 ct5), sl5⟩) (c5 : PySem.W.codeIn K cd5 "moved" = true) (k5 : PySem.W.keepIn K (.ref f5) = true)
    {od6 an6 : Option Addr} {sl6 : Array (Option Value)} {oc6 kV6 dc6 pm6 cd6 ct6 : Value}
    (a6 : PySem.W.nsIn K mainGlobals "with_fences" = some (some (.ref f6))) (l6 : K.lookup f6 = some ⟨oc6, od6, .func (PySem.W.fnOf "with_fences" "with_fences" (defArgs s_with_fences) (defBody s_with_fences) (defScope s_with_fences) .none kV6 dc6 pm6 an6 cd6 ct6), sl6⟩) (c6 : PySem.W.codeIn K cd6 "with_fences" = true) (k6 : PySem.W.keepIn K (.ref f6) = true)
    {od7 an7 : Option Addr} {sl7 : Array (Option Value)} {oc7 kV7 dc7 pm7 cd7 ct7 : Value}
    (a7 : PySem.W.nsIn K mainGlobals "_law_tape" = some (some (.ref f7))) (l7 : K.lookup f7 = some ⟨oc7, od7, .func (PySem.W.fnOf "_law_tape" "_law_tape" (defArgs s_law_tape) (defBody s_law_tape) (defScope s_law_tape) .none kV7 dc7 pm7 an7 cd7 ct7), sl7⟩) (c7 : PySem.W.codeIn K cd7 "_law_tape" = true) (k7 : PySem.W.keepIn K (.ref f7) = true)
    {od8 an8 : Option Addr} {sl8 : Array (Option Value)} {oc8 kV8 dc8 pm8 cd8 ct8 : Value}
    (a8 : PySem.W.nsIn K mainGlobals "_law_at" = some (some (.ref f8))) (l8 : K.lookup f8 = some ⟨oc8, od8, .func (PySem.W.fnOf "_law_at" "_law_at" (defArgs s_law_at) (defBody s_law_at) (defScope s_law_at) .none kV8 dc8 pm8 an8 cd8 ct8), sl8⟩) (c8 : PySem.W.codeIn K cd8 "_law_at" = true) (k8 : PySem.W.keepIn K (.ref f8) = true)
    {od9 an9 : Option Addr} {sl9 : Array (Option Value)} {oc9 kV9 dc9 pm9 cd9 ct9 : Value}
    (a9 : PySem.W.nsIn K mainGlobals "_law_row" = some (some (.ref f9))) (l9 : K.lookup f9 = some ⟨oc9, od9, .func (PySem.W.fnOf "_law_row" "_law_row" (defArgs s_law_row) (defBody s_law_row) (defScope s_law_row) .none kV9 dc9 pm9 an9 cd9 ct9), sl9⟩) (c9 : PySem.W.codeIn K cd9 "_law_row" = true) (k9 : PySem.W.keepIn K (.ref f9) = true)
    {od10 an10 : Option Addr} {sl10 : Array (Option Value)} {oc10 kV10 dc10 pm10 cd10 ct10 : Value}
    (a10 : PySem.W.nsIn K mainGlobals "_law_program" = some (some (.ref f10))) (l10 : K.lookup f10 = some ⟨oc10, od10, .func (PySem.W.fnOf "_law_program" "_law_program" (defArgs s_law_program) (defBody s_law_program) (defScope s_law_program) .none kV10 dc10 pm10 an10 cd10 ct10), sl10⟩) (c10 : PySem.W.codeIn K cd10 "_law_program" = true) (k10 : PySem.W.keepIn K (.ref f10) = true)
    {od11 an11 : Option Addr} {sl11 : Array (Option Value)} {oc11 kV11 dc11 pm11 cd11 ct11 : Value}
    (a11 : PySem.W.nsIn K mainGlobals "_law_made" = some (some (.ref f11))) (l11 : K.lookup f11 = some ⟨oc11, od11, .func (PySem.W.fnOf "_law_made" "_law_made" (defArgs s_law_made) (defBody s_law_made) (defScope s_law_made) .none kV11 dc11 pm11 an11 cd11 ct11), sl11⟩) (c11 : PySem.W.codeIn K cd11 "_law_made" = true) (k11 : PySem.W.keepIn K (.ref f11) = true)
    {od12 an12 : Option Addr} {sl12 : Array (Option Value)} {oc12 kV12 dc12 pm12 cd12 ct12 : Value}
    (a12 : PySem.W.nsIn K mainGlobals "_law_spoiled" = some (some (.ref f12))) (l12 : K.lookup f12 = some ⟨oc12, od12, .func (PySem.W.fnOf "_law_spoiled" "_law_spoiled" (defArgs s_law_spoiled) (defBody s_law_spoiled) (defScope s_law_spoiled) .none kV12 dc12 pm12 an12 cd12 ct12), sl12⟩) (c12 : PySem.W.codeIn K cd12 "_law_spoiled" = true) (k12 : PySem.W.keepIn K (.ref f12) = true)
    {od13 an13 : Option Addr} {sl13 : Array (Option Value)} {oc13 kV13 dc13 pm13 cd13 ct13 : Value}
    (a13 : PySem.W.nsIn K mainGlobals "_law_moved" = some (some (.ref f13))) (l13 : K.lookup f13 = some ⟨oc13, od13, .func (PySem.W.fnOf "_law_moved" "_law_moved" (defArgs s_law_moved) (defBody s_law_moved) (defScope s_law_moved) .none kV13 dc13 pm13 an13 cd13 ct13), sl13⟩) (c13 : PySem.W.codeIn K cd13 "_law_moved" = true) (k13 : PySem.W.keepIn K (.ref f13) = true)
    {od14 an14 : Option Addr} {sl14 : Array (Option Value)} {oc14 kV14 dc14 pm14 cd14 ct14 : Value}
    (a14 : PySem.W.nsIn K mainGlobals "_law_fenced" = some (some (.ref f14))) (l14 : K.lookup f14 = some ⟨oc14, od14, .func (PySem.W.fnOf "_law_fenced" "_law_fenced" (defArgs s_law_fenced) (defBody s_law_fenced) (defScope s_law_fenced) .none kV14 dc14 pm14 an14 cd14 ct14), sl14⟩) (c14 : PySem.W.codeIn K cd14 "_law_fenced" = true) (k14 : PySem.W.keepIn K (.ref f14) = true)
    {od15 an15 : Option Addr} {sl15 : Array (Option Value)} {oc15 kV15 dc15 pm15 cd15 ct15 : Value}
    (a15 : PySem.W.nsIn K mainGlobals "law" = some (some (.ref f15))) (l15 : K.lookup f15 = some ⟨oc15, od15, .func (PySem.W.fnOf "law" "law" (defArgs s_law) (defBody s_law) (defScope s_law) .none kV15 dc15 pm15 an15 cd15 ct15), sl15⟩) (c15 : PySem.W.codeIn K cd15 "law" = true) (k15 : PySem.W.keepIn K (.ref f15) = true)
    (z_abs : PySem.W.nsIn K mainGlobals "abs" = some none)
    (z_all : PySem.W.nsIn K mainGlobals "all" = some none)
    (z_bool : PySem.W.nsIn K mainGlobals "bool" = some none)
    (z_dict : PySem.W.nsIn K mainGlobals "dict" = some none)
    (z_int : PySem.W.nsIn K mainGlobals "int" = some none)
    (z_isinstance : PySem.W.nsIn K mainGlobals "isinstance" = some none)
    (z_len : PySem.W.nsIn K mainGlobals "len" = some none)
    (z_list : PySem.W.nsIn K mainGlobals "list" = some none)
    (z_range : PySem.W.nsIn K mainGlobals "range" = some none)
    (z_sorted : PySem.W.nsIn K mainGlobals "sorted" = some none)
    (z_str : PySem.W.nsIn K mainGlobals "str" = some none)
    (z_tuple : PySem.W.nsIn K mainGlobals "tuple" = some none)
    {t_REGISTERS : Tok} (g_REGISTERS : PySem.W.nsIn K mainGlobals "REGISTERS" = some (some (.int 4 t_REGISTERS)))
    {t_SLOTS : Tok} (g_SLOTS : PySem.W.nsIn K mainGlobals "SLOTS" = some (some (.int 2 t_SLOTS)))
    {t_ARRAYS : Tok} (g_ARRAYS : PySem.W.nsIn K mainGlobals "ARRAYS" = some (some (.int 2 t_ARRAYS)))
    {t_MOST_ROWS : Tok} (g_MOST_ROWS : PySem.W.nsIn K mainGlobals "MOST_ROWS" = some (some (.int 32 t_MOST_ROWS)))
    {d_SHAPES : Addr} {es_SHAPES : Array DictEntry} {n_SHAPES : Nat} (g_SHAPES : PySem.W.nsIn K mainGlobals "SHAPES" = some (some (.ref d_SHAPES))) (lt_SHAPES : K.lookup d_SHAPES = some ⟨.type "dict", none, .dict es_SHAPES n_SHAPES, #[]⟩) (lo_SHAPES : (d_SHAPES == sysModules) = false) (ke_SHAPES : PySem.W.KeysLit w.params es_SHAPES.toList)
    {tk_SHAPES_ask : Tok} (e_SHAPES_ask : PySem.W.nsIn K d_SHAPES "ask" = some (some (.str "r" tk_SHAPES_ask)))
    {tk_SHAPES_mix : Tok} (e_SHAPES_mix : PySem.W.nsIn K d_SHAPES "mix" = some (some (.str "rrr" tk_SHAPES_mix)))
    {tk_SHAPES_load : Tok} (e_SHAPES_load : PySem.W.nsIn K d_SHAPES "load" = some (some (.str "rAr" tk_SHAPES_load)))
    {tk_SHAPES_mask : Tok} (e_SHAPES_mask : PySem.W.nsIn K d_SHAPES "mask" = some (some (.str "rAr" tk_SHAPES_mask)))
    {tk_SHAPES_test : Tok} (e_SHAPES_test : PySem.W.nsIn K d_SHAPES "test" = some (some (.str "rAt" tk_SHAPES_test)))
    {tk_SHAPES_put : Tok} (e_SHAPES_put : PySem.W.nsIn K d_SHAPES "put" = some (some (.str "sr" tk_SHAPES_put)))
    {tk_SHAPES_get : Tok} (e_SHAPES_get : PySem.W.nsIn K d_SHAPES "get" = some (some (.str "rs" tk_SHAPES_get)))
    {tk_SHAPES_fence : Tok} (e_SHAPES_fence : PySem.W.nsIn K d_SHAPES "fence" = some (some (.str "" tk_SHAPES_fence)))
    {tk_SHAPES_jump : Tok} (e_SHAPES_jump : PySem.W.nsIn K d_SHAPES "jump" = some (some (.str "t" tk_SHAPES_jump)))
    {tk_SHAPES_end : Tok} (e_SHAPES_end : PySem.W.nsIn K d_SHAPES "end" = some (some (.str "" tk_SHAPES_end)))
    (e_SHAPES_nothing : PySem.W.nsIn K d_SHAPES "nothing" = some none)
    (hlaw : ∀ ns : List Int, ns.length ≤ 63 → ∃ st, fn_law [.scr (ns.map .int)] [] = .ok (.val (.bl true)) st) :
    ∃ fd : FuncData, (∀ (s : Shared) (v : Value), BindsTo s fd ⟨[v], []⟩ [("_law_script", v)]) ∧ ∀ base : Heap, K.In base → base.Ns mainGlobals mg → FnOk l.prog w K mg base (CX l.prog w) 4 fa fd ["_law_script"] (spScr K) := by
  have e := hfa.symm.trans (PySem.W.mg_of X G a15)
  cases e
  have y_SHAPES : ∀ z v, (z, some v) ∈ tab_SHAPES → ∃ t, PySem.W.nsIn K d_SHAPES z = some (some (.str v t)) := fun z v h => by
    unfold tab_SHAPES at h
    simp only [List.mem_cons, List.not_mem_nil, or_false, false_or, Prod.mk.injEq, Option.some.injEq, reduceCtorEq, and_false, and_true] at h
    rcases h with ⟨rfl, rfl⟩ | ⟨rfl, rfl⟩ | ⟨rfl, rfl⟩ | ⟨rfl, rfl⟩ | ⟨rfl, rfl⟩ | ⟨rfl, rfl⟩ | ⟨rfl, rfl⟩ | ⟨rfl, rfl⟩ | ⟨rfl, rfl⟩ | ⟨rfl, rfl⟩
    · exact ⟨_, e_SHAPES_ask⟩
    · exact ⟨_, e_SHAPES_mix⟩
    · exact ⟨_, e_SHAPES_load⟩
    · exact ⟨_, e_SHAPES_mask⟩
    · exact ⟨_, e_SHAPES_test⟩
    · exact ⟨_, e_SHAPES_put⟩
    · exact ⟨_, e_SHAPES_get⟩
    · exact ⟨_, e_SHAPES_fence⟩
    · exact ⟨_, e_SHAPES_jump⟩
    · exact ⟨_, e_SHAPES_end⟩
  have n_SHAPES : ∀ z, (z, none) ∈ tab_SHAPES → PySem.W.nsIn K d_SHAPES z = some none := fun z h => by
    unfold tab_SHAPES at h
    simp only [List.mem_cons, List.not_mem_nil, or_false, false_or, Prod.mk.injEq, Option.some.injEq, reduceCtorEq, and_false, and_true] at h
    rcases h with ⟨rfl⟩
    · exact e_SHAPES_nothing
  have T : Txt K w mg := ⟨PySem.W.mg_none_of X G z_abs, PySem.W.mg_none_of X G z_all, PySem.W.mg_none_of X G z_bool, PySem.W.mg_none_of X G z_dict, PySem.W.mg_none_of X G z_int, PySem.W.mg_none_of X G z_isinstance, PySem.W.mg_none_of X G z_len, PySem.W.mg_none_of X G z_list, PySem.W.mg_none_of X G z_range, PySem.W.mg_none_of X G z_sorted, PySem.W.mg_none_of X G z_str, PySem.W.mg_none_of X G z_tuple, ⟨.int 4, _, PySem.W.mg_of X G g_REGISTERS, ⟨t_REGISTERS, rfl⟩, fun _ _ _ => .int _⟩, ⟨.int 2, _, PySem.W.mg_of X G g_SLOTS, ⟨t_SLOTS, rfl⟩, fun _ _ _ => .int _⟩, ⟨.int 2, _, PySem.W.mg_of X G g_ARRAYS, ⟨t_ARRAYS, rfl⟩, fun _ _ _ => .int _⟩, ⟨.int 32, _, PySem.W.mg_of X G g_MOST_ROWS, ⟨t_MOST_ROWS, rfl⟩, fun _ _ _ => .int _⟩, ⟨_, _, _, PySem.W.mg_of X G g_SHAPES, ⟨lt_SHAPES, ke_SHAPES, lo_SHAPES⟩, y_SHAPES, n_SHAPES⟩⟩
  have F0 := fun_mk (st := s_is_number) l0 c0 k0
  have F1 := fun_mk (st := s_most_of) l1 c1 k1
  have F2 := fun_mk (st := s_is_row) l2 c2 k2
  have F3 := fun_mk (st := s_is_secret) l3 c3 k3
  have F4 := fun_mk (st := s_is_program) l4 c4 k4
  have F5 := fun_mk (st := s_moved) l5 c5 k5
  have F6 := fun_mk (st := s_with_fences) l6 c6 k6
  have F7 := fun_mk (st := s_law_tape) l7 c7 k7
  have F8 := fun_mk (st := s_law_at) l8 c8 k8
  have F9 := fun_mk (st := s_law_row) l9 c9 k9
  have F10 := fun_mk (st := s_law_program) l10 c10 k10
  have F11 := fun_mk (st := s_law_made) l11 c11 k11
  have F12 := fun_mk (st := s_law_spoiled) l12 c12 k12
  have F13 := fun_mk (st := s_law_moved) l13 c13 k13
  have F14 := fun_mk (st := s_law_fenced) l14 c14 k14
  have F15 := fun_mk (st := s_law) l15 c15 k15
  refine ⟨PySem.W.fnOf "law" "law" (defArgs s_law) (defBody s_law) (defScope s_law) .none kV15 dc15 pm15 an15 cd15 ct15, fun s v => .of_eq rfl, fun base _ _ => ?_⟩
  have O0 := ok_is_number (P := l.prog) (base := base) F0 (PySem.W.mg_of X G a0) T 
  have O1 := ok_most_of (P := l.prog) (base := base) F1 (PySem.W.mg_of X G a1) T 
  have O2 := ok_is_row (P := l.prog) (base := base) F2 (PySem.W.mg_of X G a2) T O0 O1
  have O3 := ok_is_secret (P := l.prog) (base := base) F3 (PySem.W.mg_of X G a3) T O0
  have O4 := ok_is_program (P := l.prog) (base := base) F4 (PySem.W.mg_of X G a4) T O2 O3
  have O5 := ok_moved (P := l.prog) (base := base) F5 (PySem.W.mg_of X G a5) T 
  have O6 := ok_with_fences (P := l.prog) (base := base) F6 (PySem.W.mg_of X G a6) T O5
  have O7 := ok_law_tape (P := l.prog) (base := base) F7 (PySem.W.mg_of X G a7) T 
  have O8 := ok_law_at (P := l.prog) (base := base) F8 (PySem.W.mg_of X G a8) T 
  have O9 := ok_law_row (P := l.prog) (base := base) F9 (PySem.W.mg_of X G a9) T 
  have O10 := ok_law_program (P := l.prog) (base := base) F10 (PySem.W.mg_of X G a10) T O8 O9
  have O11 := ok_law_made (P := l.prog) (base := base) F11 (PySem.W.mg_of X G a11) T 
  have O12 := ok_law_spoiled (P := l.prog) (base := base) F12 (PySem.W.mg_of X G a12) T O11
  have O13 := ok_law_moved (P := l.prog) (base := base) F13 (PySem.W.mg_of X G a13) T 
  have O14 := ok_law_fenced (P := l.prog) (base := base) F14 (PySem.W.mg_of X G a14) T O11 O13
  exact scr_ok (fk_law F15 T O4 O6 O7 O8 O10 O12 O14) hlaw
end DL
end
section
set_option Elab.async false
set_option linter.all false
set_option maxRecDepth 100000
set_option maxHeartbeats 4000000

open PySem PySem.W PyProof.Rows in
set_option maxRecDepth 100000 in
set_option maxHeartbeats 0 in
theorem PySem.Challenge.cw_guesshush_k01_programs_holds : PySem.Challenge.rw_guesshush_k01_programs.Holds := by
  w_on; o_law; k_head; (case hw => w_witness2)
  k_fill
  refine DL.law_walk (l := PySem.Challenge.rw_guesshush_k01_programs) (k := 4) (x := "_law_script") ⟨rfl, by decide, by decide⟩ rfl rfl (fun w h Y => PySem.W.kIn_of Y) ?F
  case F =>
    intro w mg fa h KX G hmg
    refine' DL.all_mk KX G hmg ?a0 ?l0 ?c0 ?k0 ?a1 ?l1 ?c1 ?k1 ?a2 ?l2 ?c2 ?k2 ?a3 ?l3 ?c3 ?k3 ?a4 ?l4 ?c4 ?k4 ?a5 ?l5 ?c5 ?k5 ?a6 ?l6 ?c6 ?k6 ?a7 ?l7 ?c7 ?k7 ?a8 ?l8 ?c8 ?k8 ?a9 ?l9 ?c9 ?k9 ?a10 ?l10 ?c10 ?k10 ?a11 ?l11 ?c11 ?k11 ?a12 ?l12 ?c12 ?k12 ?a13 ?l13 ?c13 ?k13 ?a14 ?l14 ?c14 ?k14 ?a15 ?l15 ?c15 ?k15 ?z_abs ?z_all ?z_bool ?z_dict ?z_int ?z_isinstance ?z_len ?z_list ?z_range ?z_sorted ?z_str ?z_tuple ?g_REGISTERS ?g_SLOTS ?g_ARRAYS ?g_MOST_ROWS ?g_SHAPES ?lt_SHAPES ?lo_SHAPES ?ke_SHAPES ?e_SHAPES_ask ?e_SHAPES_mix ?e_SHAPES_load ?e_SHAPES_mask ?e_SHAPES_test ?e_SHAPES_put ?e_SHAPES_get ?e_SHAPES_fence ?e_SHAPES_jump ?e_SHAPES_end ?e_SHAPES_nothing DL.hlaw_k01
    (case a0 => k_is)
    (case l0 => k_is)
    (case c0 => k_is)
    (case k0 => k_is)
    (case a1 => k_is)
    (case l1 => k_is)
    (case c1 => k_is)
    (case k1 => k_is)
    (case a2 => k_is)
    (case l2 => k_is)
    (case c2 => k_is)
    (case k2 => k_is)
    (case a3 => k_is)
    (case l3 => k_is)
    (case c3 => k_is)
    (case k3 => k_is)
    (case a4 => k_is)
    (case l4 => k_is)
    (case c4 => k_is)
    (case k4 => k_is)
    (case a5 => k_is)
    (case l5 => k_is)
    (case c5 => k_is)
    (case k5 => k_is)
    (case a6 => k_is)
    (case l6 => k_is)
    (case c6 => k_is)
    (case k6 => k_is)
    (case a7 => k_is)
    (case l7 => k_is)
    (case c7 => k_is)
    (case k7 => k_is)
    (case a8 => k_is)
    (case l8 => k_is)
    (case c8 => k_is)
    (case k8 => k_is)
    (case a9 => k_is)
    (case l9 => k_is)
    (case c9 => k_is)
    (case k9 => k_is)
    (case a10 => k_is)
    (case l10 => k_is)
    (case c10 => k_is)
    (case k10 => k_is)
    (case a11 => k_is)
    (case l11 => k_is)
    (case c11 => k_is)
    (case k11 => k_is)
    (case a12 => k_is)
    (case l12 => k_is)
    (case c12 => k_is)
    (case k12 => k_is)
    (case a13 => k_is)
    (case l13 => k_is)
    (case c13 => k_is)
    (case k13 => k_is)
    (case a14 => k_is)
    (case l14 => k_is)
    (case c14 => k_is)
    (case k14 => k_is)
    (case a15 => k_is)
    (case l15 => k_is)
    (case c15 => k_is)
    (case k15 => k_is)
    (case z_abs => k_is)
    (case z_all => k_is)
    (case z_bool => k_is)
    (case z_dict => k_is)
    (case z_int => k_is)
    (case z_isinstance => k_is)
    (case z_len => k_is)
    (case z_list => k_is)
    (case z_range => k_is)
    (case z_sorted => k_is)
    (case z_str => k_is)
    (case z_tuple => k_is)
    (case g_REGISTERS => k_is)
    (case g_SLOTS => k_is)
    (case g_ARRAYS => k_is)
    (case g_MOST_ROWS => k_is)
    (case g_SHAPES => k_is)
    (case lt_SHAPES => k_is)
    (case lo_SHAPES => exact rfl)
    (case ke_SHAPES => k_keys)
    (case e_SHAPES_ask => k_is)
    (case e_SHAPES_mix => k_is)
    (case e_SHAPES_load => k_is)
    (case e_SHAPES_mask => k_is)
    (case e_SHAPES_test => k_is)
    (case e_SHAPES_put => k_is)
    (case e_SHAPES_get => k_is)
    (case e_SHAPES_fence => k_is)
    (case e_SHAPES_jump => k_is)
    (case e_SHAPES_end => k_is)
    (case e_SHAPES_nothing => k_is)
end
