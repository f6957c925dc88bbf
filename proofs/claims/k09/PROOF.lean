import PyProof.Rows.All
import Wide.All
import OpenK.AllK
import Wide.FinOn
import HandS.ForMost
import HandS.ForExc
import HandS.Defaults
import HandS.HeadHook4
import HandS.Conv
import HandS.Flow
import HandS.IsInst
import HandS.Deep
import HandS.ExcInit
import HandS.ExcOwn
import HandS.HeadEnd
import HandS.Wide
import HandS.RaiseMore
import HandS.Style
import HandS.NoneIn
import HandS.More
import HandS.Proxy
import HandS.HeadHook3
import HandS.NestedK
import KE.KExcSuper
import HandS.ExcField
import HandS.TryOnly
import HandS.ExcIs
import KE.KExcIs
import HandS.Codes
import HandS.Head0
import HandS.Head1
import HandS.Head2
import PySem.Challenge.RW_rerunrein_k09_values_of_conditions
import HandS.HeadHook1
import HandS.HeadHook2
set_option Elab.async false
set_option linter.all false
set_option maxRecDepth 100000
set_option maxHeartbeats 2000000
/-! DL: data in place of the heap. -/
namespace DL
open PySem PySem.Spec PyProof.Rows L2

inductive D where
  | non | bl (b : Bool) | int (i : Int) | str (x : Str) | ty (n : String) | ref (a : Addr) | loc (k : Nat)
  | tup (xs : List D) | lst (xs : List D)
  | ins (C : Addr) (ns : List Str) (vs : List D)
  | dic (ks : List Key) (vs : List D)
  | dit (ks : List (List Key)) (vs : List D)
  | exc (a dd C : Addr) (ns : List Str) (vs : List D)
  | cst (xs : List D)
  | exv (C : Addr) (ns : List Str) (vs : List D)

/-- what a mutable object holds -/
inductive MO where
  | lst (xs : List D)
  | ins (C : Addr) (ns : List Str) (vs : List D)
  | dic (ks : List Key) (vs : List D)
  | dit (ks : List (List Key)) (vs : List D)

abbrev Ga := List MO
abbrev Env := List (Option D)
abbrev Frag := PySem.W.Frag
/-- the mutable objects: h those that data may name, by number; x others -/
structure Al where
  h : List Addr
  x : List Addr
/-- no object twice -/
def Al.Nd (α : Al) : Prop := α.h.Nodup ∧ α.x.Nodup ∧ ∀ a ∈ α.h, a ∉ α.x
instance : Membership Addr Al := ⟨fun α a => a ∈ α.h ∨ a ∈ α.x⟩
def Al.push (α : Al) (p : Addr) : Al := ⟨α.h ++ [p], α.x⟩
theorem Al.mem_push {α : Al} {p a : Addr} : a ∈ α.push p ↔ a ∈ α ∨ a = p := by
  show (a ∈ α.h ++ [p] ∨ a ∈ α.x) ↔ ((a ∈ α.h ∨ a ∈ α.x) ∨ a = p)
  rw [List.mem_append, List.mem_singleton]
  constructor
  · rintro ((h | h) | h)
    · exact .inl (.inl h)
    · exact .inr h
    · exact .inl (.inr h)
  · rintro ((h | h) | h)
    · exact .inl (.inl h)
    · exact .inr h
    · exact .inl (.inr h)

def TupS (K : Frag) (H : Hp) (α : Al) (a : Addr) (vs : List V) : Prop :=
  a ∉ α ∧ H a = some (.tup vs)
/-- a tuple of the text's top -/
def TopS (K : Frag) (a : Addr) (vs : List V) : Prop := ∃ (o : Obj) (its : Array Value) (n : Nat), K.lookup a = some o ∧ o.cls = .type "tuple" ∧ o.data = .seq its n ∧ its.size ≤ sizeLine ∧ Vals vs its.toList

mutual
inductive Rp (K : Frag) (H : Hp) (α : Al) : V → D → Prop
  | non : Rp K H α .non .non
  | bl (b : Bool) : Rp K H α (.bl b) (.bl b)
  | int (i : Int) : Rp K H α (.int i) (.int i)
  | str (x : Str) : Rp K H α (.str x) (.str x)
  | ty (n : String) : Rp K H α (.ty n) (.ty n)
  | ref (a : Addr) : Rp K H α (.ref a) (.ref a)
  | loc {k : Nat} {a : Addr} : α.h[k]? = some a → Rp K H α (.ref a) (.loc k)
  | tup {a : Addr} {vs : List V} {ds : List D} : TupS K H α a vs → RpL K H α vs ds → Rp K H α (.ref a) (.tup ds)
  | lst {a : Addr} {vs : List V} {ds : List D} : a ∉ α → H a = some (.lst vs) → RpL K H α vs ds → Rp K H α (.ref a) (.lst ds)
  | ins {a C dx : Addr} {fs : List (Str × V)} {ds : List D} : a ∉ α → H a = some (.ins C dx fs) → RpL K H α (fs.map (·.2)) ds → Rp K H α (.ref a) (.ins C (fs.map (·.1)) ds)
  | dic {a : Addr} {kvs : List (Key × V)} {ds : List D} : a ∉ α → H a = some (.dK kvs) → RpL K H α (kvs.map (·.2)) ds → Rp K H α (.ref a) (.dic (kvs.map (·.1)) ds)
  | dit {a : Addr} {kvs : List (List Key × V)} {ds : List D} : a ∉ α → H a = some (.dT kvs) → RpL K H α (kvs.map (·.2)) ds → Rp K H α (.ref a) (.dit (kvs.map (·.1)) ds)
  | cst {a : Addr} {vs : List V} {ds : List D} : TopS K a vs → RpL K H α vs ds → Rp K H α (.ref a) (.cst ds)
  | exv {a dd C : Addr} {fs : List (Str × V)} {ds : List D} : a ∉ α → dd ∉ α → H a = some (exo a C (some dd)) → H dd = some (exd dd fs) → RpL K H α (fs.map (·.2)) ds → Rp K H α (.ref a) (.exv C (fs.map (·.1)) ds)
  | exc {a dd C : Addr} {fs : List (Str × V)} {ds : List D} : dd ∉ α → H dd = some (.xd fs) → RpL K H α (fs.map (·.2)) ds → Rp K H α (.ref a) (.exc a dd C (fs.map (·.1)) ds)
inductive RpL (K : Frag) (H : Hp) (α : Al) : List V → List D → Prop
  | nil : RpL K H α [] []
  | cons {v : V} {vs : List V} {d : D} {ds : List D} : Rp K H α v d → RpL K H α vs ds → RpL K H α (v :: vs) (d :: ds)
end

theorem Al.out_of {α α' : Al} {a : Addr} (eh : α'.h = α.h) (ex : ∀ a ∈ α'.x, a ∈ α.x) (n : a ∉ α) : a ∉ α' := fun h => by
  rcases h with h | h
  · exact n (.inl (by rw [← eh]; exact h))
  · exact n (.inr (ex a h))
/-- the heap grows; what is not mutable stands -/
structure ExtW (α : Al) (H : Hp) (α' : Al) (H' : Hp) : Prop where
  al : ∃ β, α'.h = α.h ++ β ∧ ∀ b ∈ β, H b = none
  nd : α'.Nd
  xx : ∃ δ, α'.x = δ ++ α.x ∧ ∀ b ∈ δ, H b = none
  keep : ∀ a o, a ∉ α → H a = some o → H' a = some o

theorem ExtW.refl {α : Al} {H : Hp} (h : α.Nd) : ExtW α H α H := ⟨⟨[], by simp, by simp⟩, h, ⟨[], by simp, by simp⟩, fun _ _ _ h => h⟩
theorem ExtW.out {α α' : Al} {H H' : Hp} (e : ExtW α H α' H') {a : Addr} {o : HO} (h : a ∉ α) (ho : H a = some o) : a ∉ α' := by
  obtain ⟨β, e1, f⟩ := e.al
  intro hm
  rcases hm with z | z
  · rw [e1] at z
    rcases List.mem_append.mp z with z | z
    · exact h (.inl z)
    · rw [f a z] at ho; cases ho
  · obtain ⟨δ, e2, f2⟩ := e.xx
    rw [e2] at z
    rcases List.mem_append.mp z with z | z
    · rw [f2 a z] at ho; cases ho
    · exact h (.inr z)
theorem ExtW.trans {α α1 α2 : Al} {H H1 H2 : Hp} (a : ExtW α H α1 H1) (b : ExtW α1 H1 α2 H2) : ExtW α H α2 H2 := by
  obtain ⟨β, e1, f1⟩ := a.al
  obtain ⟨β', e2, f2⟩ := b.al
  obtain ⟨δ, e3, f3⟩ := a.xx
  obtain ⟨δ', e4, f4⟩ := b.xx
  have back : ∀ x, H1 x = none → (x ∈ α → False) → H x = none := fun x h1 hxa => by
    cases q : H x with
    | none => rfl
    | some o => rw [a.keep x o (fun z => hxa z) q] at h1; cases h1
  refine ⟨⟨β ++ β', by rw [e2, e1, List.append_assoc], fun x hx => ?_⟩, b.nd, ⟨δ' ++ δ, by rw [e4, e3, List.append_assoc], fun x hx => ?_⟩, fun x o hx ho => b.keep x o (a.out hx ho) (a.keep x o hx ho)⟩
  · rcases List.mem_append.mp hx with h | h
    · exact f1 x h
    · refine back x (f2 x h) fun hm => ?_
      rcases hm with hm | hm
      · have nd := b.nd.1
        rw [e2] at nd
        exact (List.nodup_append.mp nd).2.2 x (by rw [e1]; exact List.mem_append_left _ hm) x h rfl
      · refine b.nd.2.2 x (by rw [e2]; exact List.mem_append_right _ h) ?_
        rw [e4, e3]
        exact List.mem_append_right _ (List.mem_append_right _ hm)
  · rcases List.mem_append.mp hx with h | h
    · refine back x (f4 x h) fun hm => ?_
      rcases hm with hm | hm
      · refine b.nd.2.2 x (by rw [e2, e1]; exact List.mem_append_left _ (List.mem_append_left _ hm)) ?_
        rw [e4]
        exact List.mem_append_left _ h
      · have nd := b.nd.2.1
        rw [e4, e3] at nd
        exact (List.nodup_append.mp nd).2.2 x h x (List.mem_append_right _ hm) rfl
    · exact f3 x h
theorem ExtW.get {α α' : Al} {H H' : Hp} (e : ExtW α H α' H') {k : Nat} {a : Addr} (h : α.h[k]? = some a) : α'.h[k]? = some a := by
  obtain ⟨β, e1, _⟩ := e.al
  rw [e1, List.getElem?_append_left (List.getElem?_eq_some_iff.mp h).1]
  exact h
theorem TupS.mono {K : Frag} {α α' : Al} {H H' : Hp} (e : ExtW α H α' H') {a : Addr} {vs : List V} (h : TupS K H α a vs) : TupS K H' α' a vs := by
  exact ⟨e.out h.1 h.2, e.keep _ _ h.1 h.2⟩
theorem TupS.sq {K : Frag} {α : Al} {H : Hp} {a : Addr} {vs : List V} (h : TupS K H α a vs) : SqT K H a vs := by
  exact .inl (.inl h.2)
theorem TopS.sq {K : Frag} {H : Hp} {a : Addr} {vs : List V} (h : TopS K a vs) : SqT K H a vs := .inr h
mutual
theorem Rp.monoW {K : Frag} {α α' : Al} {H H' : Hp} (e : ExtW α H α' H') : ∀ (d : D) (v : V), Rp K H α v d → Rp K H' α' v d
  | .non, _, h => by cases h; exact .non
  | .bl b, _, h => by cases h; exact .bl b
  | .int i, _, h => by cases h; exact .int i
  | .str x, _, h => by cases h; exact .str x
  | .ty n, _, h => by cases h; exact .ty n
  | .ref a, _, h => by cases h; exact .ref a
  | .loc k, _, h => by cases h with | loc h => exact .loc (e.get h)
  | .tup ds, _, h => by cases h with | tup h1 h2 => exact .tup (h1.mono e) (RpL.monoW e ds _ h2)
  | .lst ds, _, h => by cases h with | lst h1 h2 h3 => exact .lst (e.out h1 h2) (e.keep _ _ h1 h2) (RpL.monoW e ds _ h3)
  | .ins C ns ds, _, h => by cases h with | ins h1 h2 h3 => exact .ins (e.out h1 h2) (e.keep _ _ h1 h2) (RpL.monoW e ds _ h3)
  | .dic ks ds, _, h => by cases h with | dic h1 h2 h3 => exact .dic (e.out h1 h2) (e.keep _ _ h1 h2) (RpL.monoW e ds _ h3)
  | .dit ks ds, _, h => by cases h with | dit h1 h2 h3 => exact .dit (e.out h1 h2) (e.keep _ _ h1 h2) (RpL.monoW e ds _ h3)
  | .exc a dd C ks ds, _, h => by cases h with | exc h1 h2 h3 => exact .exc (e.out h1 h2) (e.keep _ _ h1 h2) (RpL.monoW e ds _ h3)
  | .cst ds, _, h => by cases h with | cst h1 h2 => exact .cst h1 (RpL.monoW e ds _ h2)
  | .exv C ks ds, _, h => by cases h with | exv h1 h2 h3 h4 h5 => exact .exv (e.out h1 h3) (e.out h2 h4) (e.keep _ _ h1 h3) (e.keep _ _ h2 h4) (RpL.monoW e ds _ h5)
theorem RpL.monoW {K : Frag} {α α' : Al} {H H' : Hp} (e : ExtW α H α' H') : ∀ (ds : List D) (vs : List V), RpL K H α vs ds → RpL K H' α' vs ds
  | [], _, h => by cases h; exact .nil
  | d :: ds, _, h => by cases h with | cons h1 h2 => exact .cons (Rp.monoW e d _ h1) (RpL.monoW e ds _ h2)
end
mutual
/-- fewer that may change -/
theorem Rp.shw {K : Frag} {α α' : Al} {H : Hp} (eh : α'.h = α.h) (ex : ∀ a ∈ α'.x, a ∈ α.x) : ∀ (d : D) (v : V), Rp K H α v d → Rp K H α' v d
  | .non, _, h => by cases h; exact .non
  | .bl b, _, h => by cases h; exact .bl b
  | .int i, _, h => by cases h; exact .int i
  | .str x, _, h => by cases h; exact .str x
  | .ty n, _, h => by cases h; exact .ty n
  | .ref a, _, h => by cases h; exact .ref a
  | .loc k, _, h => by cases h with | loc h => exact .loc (by rw [eh]; exact h)
  | .tup ds, _, h => by
    cases h with
    | tup h1 h2 =>
      exact .tup ⟨Al.out_of eh ex h1.1, h1.2⟩ (RpL.shw eh ex ds _ h2)
  | .lst ds, _, h => by cases h with | lst h1 h2 h3 => exact .lst (Al.out_of eh ex h1) h2 (RpL.shw eh ex ds _ h3)
  | .ins C ns ds, _, h => by cases h with | ins h1 h2 h3 => exact .ins (Al.out_of eh ex h1) h2 (RpL.shw eh ex ds _ h3)
  | .dic ks ds, _, h => by cases h with | dic h1 h2 h3 => exact .dic (Al.out_of eh ex h1) h2 (RpL.shw eh ex ds _ h3)
  | .dit ks ds, _, h => by cases h with | dit h1 h2 h3 => exact .dit (Al.out_of eh ex h1) h2 (RpL.shw eh ex ds _ h3)
  | .exc a dd C ks ds, _, h => by cases h with | exc h1 h2 h3 => exact .exc (Al.out_of eh ex h1) h2 (RpL.shw eh ex ds _ h3)
  | .cst ds, _, h => by cases h with | cst h1 h2 => exact .cst h1 (RpL.shw eh ex ds _ h2)
  | .exv C ks ds, _, h => by cases h with | exv h1 h2 h3 h4 h5 => exact .exv (Al.out_of eh ex h1) (Al.out_of eh ex h2) h3 h4 (RpL.shw eh ex ds _ h5)
theorem RpL.shw {K : Frag} {α α' : Al} {H : Hp} (eh : α'.h = α.h) (ex : ∀ a ∈ α'.x, a ∈ α.x) : ∀ (ds : List D) (vs : List V), RpL K H α vs ds → RpL K H α' vs ds
  | [], _, h => by cases h; exact .nil
  | d :: ds, _, h => by cases h with | cons h1 h2 => exact .cons (Rp.shw eh ex d _ h1) (RpL.shw eh ex ds _ h2)
end
section
variable {K : Frag} {α α' : Al} {H H' : Hp}
theorem RpL.length : ∀ {vs : List V} {ds : List D}, RpL K H α vs ds → vs.length = ds.length
  | _, [], h => by cases h; rfl
  | _, _ :: _, h => by cases h with | cons _ h2 => simp [RpL.length h2]
theorem RpL.get : ∀ {vs : List V} {ds : List D} {i : Nat} {d : D}, RpL K H α vs ds → ds[i]? = some d → ∃ v, vs[i]? = some v ∧ Rp K H α v d
  | _, [], _, _, _, e => by simp at e
  | _, _ :: _, 0, _, h, e => by cases h with | cons h1 h2 => simp at e; subst e; exact ⟨_, rfl, h1⟩
  | _, _ :: _, i + 1, _, h, e => by
    cases h with
    | cons h1 h2 =>
      obtain ⟨v, q1, q2⟩ := RpL.get (i := i) h2 (by simpa using e)
      exact ⟨v, by simpa using q1, q2⟩
theorem RpL.getV : ∀ {vs : List V} {ds : List D} {i : Nat} {v : V}, RpL K H α vs ds → vs[i]? = some v → ∃ d, ds[i]? = some d ∧ Rp K H α v d
  | [], _, _, _, _, e => by simp at e
  | _ :: _, _, 0, _, h, e => by cases h with | cons h1 h2 => simp at e; subst e; exact ⟨_, rfl, h1⟩
  | _ :: _, _, i + 1, _, h, e => by
    cases h with
    | cons h1 h2 =>
      obtain ⟨v, q1, q2⟩ := RpL.getV (i := i) h2 (by simpa using e)
      exact ⟨v, by simpa using q1, q2⟩
theorem RpL.append : ∀ {vs ws : List V} {ds es : List D}, RpL K H α vs ds → RpL K H α ws es → RpL K H α (vs ++ ws) (ds ++ es)
  | _, _, [], _, h, h' => by cases h; exact h'
  | _, _, _ :: _, _, h, h' => by cases h with | cons h1 h2 => exact .cons h1 (RpL.append h2 h')
theorem RpL.take : ∀ {vs : List V} {ds : List D} (n : Nat), RpL K H α vs ds → RpL K H α (vs.take n) (ds.take n)
  | _, _, 0, _ => .nil
  | _, [], _ + 1, h => by cases h; exact .nil
  | _, _ :: _, n + 1, h => by cases h with | cons h1 h2 => exact .cons h1 (RpL.take n h2)
theorem RpL.drop : ∀ {vs : List V} {ds : List D} (n : Nat), RpL K H α vs ds → RpL K H α (vs.drop n) (ds.drop n)
  | _, _, 0, h => h
  | _, [], _ + 1, h => by cases h; exact .nil
  | _, _ :: _, n + 1, h => by cases h with | cons h1 h2 => exact RpL.drop n h2
theorem RpL.set {v : V} {d : D} (r : Rp K H α v d) : ∀ {vs : List V} {ds : List D} (i : Nat), RpL K H α vs ds → RpL K H α (vs.set i v) (ds.set i d)
  | _, [], _, h => by cases h; exact .nil
  | _, _ :: _, 0, h => by cases h with | cons h1 h2 => exact .cons r h2
  | _, _ :: _, i + 1, h => by cases h with | cons h1 h2 => exact .cons h1 (RpL.set r i h2)
theorem RpL.eraseIdx : ∀ {vs : List V} {ds : List D} (i : Nat), RpL K H α vs ds → RpL K H α (vs.eraseIdx i) (ds.eraseIdx i)
  | _, [], _, h => by cases h; exact .nil
  | _, _ :: _, 0, h => by cases h with | cons h1 h2 => exact h2
  | _, _ :: _, i + 1, h => by cases h with | cons h1 h2 => exact .cons h1 (RpL.eraseIdx i h2)
theorem RpL.dropLast {vs : List V} {ds : List D} (h : RpL K H α vs ds) : RpL K H α vs.dropLast ds.dropLast := by
  rw [List.dropLast_eq_take, List.dropLast_eq_take, h.length]
  exact h.take _
end
/-- .. and the objects without a number stand, too -/
structure Ext (α : Al) (H : Hp) (α' : Al) (H' : Hp) : Prop extends ExtW α H α' H' where
  keepx : ∀ a o, a ∈ α.x → H a = some o → H' a = some o
theorem Ext.refl {α : Al} {H : Hp} (h : α.Nd) : Ext α H α H := ⟨ExtW.refl h, fun _ _ _ h => h⟩
theorem Ext.trans {α α1 α2 : Al} {H H1 H2 : Hp} (a : Ext α H α1 H1) (b : Ext α1 H1 α2 H2) : Ext α H α2 H2 :=
  ⟨a.toExtW.trans b.toExtW, fun x o h ho => b.keepx x o (by obtain ⟨δ, e, _⟩ := a.xx; rw [e]; exact List.mem_append_right _ h) (a.keepx x o h ho)⟩
theorem Ext.out {α α' : Al} {H H' : Hp} (e : Ext α H α' H') {a : Addr} {o : HO} (h : a ∉ α) (ho : H a = some o) : a ∉ α' := e.toExtW.out h ho
theorem Ext.get {α α' : Al} {H H' : Hp} (e : Ext α H α' H') {k : Nat} {a : Addr} (h : α.h[k]? = some a) : α'.h[k]? = some a := e.toExtW.get h
theorem Rp.mono {K : Frag} {α α' : Al} {H H' : Hp} (e : Ext α H α' H') (d : D) (v : V) (h : Rp K H α v d) : Rp K H' α' v d := Rp.monoW e.toExtW d v h
theorem RpL.mono {K : Frag} {α α' : Al} {H H' : Hp} (e : Ext α H α' H') (d : List D) (v : List V) (h : RpL K H α v d) : RpL K H' α' v d := RpL.monoW e.toExtW d v h
theorem TupS.monoE {K : Frag} {α α' : Al} {H H' : Hp} (e : Ext α H α' H') {a : Addr} {vs : List V} (h : TupS K H α a vs) : TupS K H' α' a vs := h.mono e.toExtW
end DL

set_option Elab.async false
set_option linter.all false
set_option maxRecDepth 100000
set_option maxHeartbeats 2000000
namespace DL
open PySem PySem.Spec PyProof.Rows L2

def MOk (K : Frag) (H : Hp) (α : Al) (a : Addr) : MO → Prop
  | .lst ds => ∃ vs, H a = some (.lst vs) ∧ RpL K H α vs ds
  | .ins C ns ds => ∃ dx fs, H a = some (.ins C dx fs) ∧ fs.map (·.1) = ns ∧ RpL K H α (fs.map (·.2)) ds
  | .dic ks ds => ∃ kvs, H a = some (.dK kvs) ∧ kvs.map (·.1) = ks ∧ RpL K H α (kvs.map (·.2)) ds
  | .dit ks ds => ∃ kvs, H a = some (.dT kvs) ∧ kvs.map (·.1) = ks ∧ RpL K H α (kvs.map (·.2)) ds
structure GaOk (K : Frag) (H : Hp) (α : Al) (γ : Ga) : Prop where
  nd : α.Nd
  len : α.h.length = γ.length
  at_ : ∀ (k : Nat) (a : Addr) (m : MO), α.h[k]? = some a → γ[k]? = some m → MOk K H α a m
  xs : ∀ a ∈ α.x, ∃ o, H a = some o
section
variable {K : Frag} {α α' : Al} {H H' : Hp} {γ : Ga}
theorem MOk.there {a : Addr} : ∀ {m : MO}, MOk K H α a m → ∃ o, H a = some o
  | .lst _, h => by obtain ⟨_, h, _⟩ := h; exact ⟨_, h⟩
  | .ins _ _ _, h => by obtain ⟨_, _, h, _⟩ := h; exact ⟨_, h⟩
  | .dic _ _, h => by obtain ⟨_, h, _⟩ := h; exact ⟨_, h⟩
  | .dit _ _, h => by obtain ⟨_, h, _⟩ := h; exact ⟨_, h⟩
theorem MOk.monoW (e : ExtW α H α' H') {a : Addr} (k : ∀ o, H a = some o → H' a = some o) : ∀ {m : MO}, MOk K H α a m → MOk K H' α' a m
  | .lst _, h => by obtain ⟨_, h, r⟩ := h; exact ⟨_, k _ h, RpL.monoW e _ _ r⟩
  | .ins _ _ _, h => by obtain ⟨_, _, h, n, r⟩ := h; exact ⟨_, _, k _ h, n, RpL.monoW e _ _ r⟩
  | .dic _ _, h => by obtain ⟨_, h, n, r⟩ := h; exact ⟨_, k _ h, n, RpL.monoW e _ _ r⟩
  | .dit _ _, h => by obtain ⟨_, h, n, r⟩ := h; exact ⟨_, k _ h, n, RpL.monoW e _ _ r⟩
theorem MOk.mono (e : Ext α H α' H') {a : Addr} (k : ∀ o, H a = some o → H' a = some o) {m : MO} (h : MOk K H α a m) : MOk K H' α' a m := h.monoW e.toExtW k
theorem GaOk.thereH (g : GaOk K H α γ) {a : Addr} (h : a ∈ α.h) : ∃ o, H a = some o := by
  obtain ⟨k, hk, e⟩ := List.mem_iff_getElem.mp h
  have hk' : k < γ.length := by rw [← g.len]; exact hk
  exact (g.at_ k a γ[k] (by rw [List.getElem?_eq_getElem hk, e]) (List.getElem?_eq_getElem hk')).there
theorem GaOk.there (g : GaOk K H α γ) {a : Addr} (h : a ∈ α) : ∃ o, H a = some o := by
  rcases h with h | h
  · exact g.thereH h
  · exact g.xs a h
theorem GaOk.refl (g : GaOk K H α γ) : Ext α H α H := Ext.refl g.nd
theorem kx0 (g : GaOk K H α γ) {p : Addr} {o : HO} (hp : p ∉ α.x) : ∀ a u, a ∈ α.x → H a = some u → upd H p o a = some u := fun a u h e => by rw [upd_ne (fun z : a = p => hp (z ▸ h))]; exact e
theorem GaOk.new (g : GaOk K H α γ) {p : Addr} (hp : H p = none) : p ∉ α := fun h => by
  obtain ⟨o, e⟩ := g.there h
  rw [hp] at e; cases e
theorem ext_imm0 (g : GaOk K H α γ) {p : Addr} {o : HO} (hp : H p = none) : Ext α H α (upd H p o) :=
  ⟨⟨⟨[], by simp, by simp⟩, g.nd, ⟨[], by simp, by simp⟩, fun a u _ h => by rw [upd_ne (ne_of_none h hp)]; exact h⟩, kx0 g fun z => g.new hp (.inr z)⟩
theorem xs_upd (x : ∀ a ∈ α.x, ∃ o, H a = some o) {p : Addr} {o : HO} : ∀ a ∈ α.x, ∃ u, upd H p o a = some u := fun a h => by
  by_cases e : a = p
  · subst e; exact ⟨o, upd_same⟩
  · rw [upd_ne e]; exact x a h
theorem ga_imm0 (g : GaOk K H α γ) {p : Addr} {o : HO} (hp : H p = none) : GaOk K (upd H p o) α γ :=
  ⟨g.nd, g.len, fun k a m h1 h2 => (g.at_ k a m h1 h2).mono (ext_imm0 g hp) fun u h => by rw [upd_ne (ne_of_none h hp)]; exact h, xs_upd g.xs⟩
theorem ext_loc0 (g : GaOk K H α γ) {p : Addr} {o : HO} (hp : H p = none) : Ext α H (α.push p) (upd H p o) :=
  ⟨⟨⟨[p], rfl, fun b hb => by
    have e : b = p := by simpa using hb
    rw [e]; exact hp⟩, by
    refine ⟨?_, g.nd.2.1, fun a ha => ?_⟩
    · show (α.h ++ [p]).Nodup
      rw [List.nodup_append]
      refine ⟨g.nd.1, by simp, fun a ha b hb e => ?_⟩
      have eb : b = p := by simpa using hb
      exact g.new hp (.inl (by rw [← eb, ← e]; exact ha))
    · rcases List.mem_append.mp (show a ∈ α.h ++ [p] from ha) with h | h
      · exact g.nd.2.2 a h
      · have eb : a = p := by simpa using h
        rw [eb]
        exact fun z => g.new hp (.inr z), ⟨[], by simp [Al.push], by simp⟩, fun a u _ h => by rw [upd_ne (ne_of_none h hp)]; exact h⟩, kx0 g fun z => g.new hp (.inr z)⟩
theorem ga_loc0 (g : GaOk K H α γ) {p : Addr} {o : HO} {m : MO} (hp : H p = none) (hm : MOk K (upd H p o) (α.push p) p m) : GaOk K (upd H p o) (α.push p) (γ ++ [m]) := by
  have e := ext_loc0 g (o := o) hp
  refine ⟨e.nd, by show (α.h ++ [p]).length = _; simp [g.len], fun k a m' h1 h2 => ?_, xs_upd g.xs⟩
  have h1 : (α.h ++ [p])[k]? = some a := h1
  by_cases hk : k < α.h.length
  · rw [List.getElem?_append_left hk] at h1
    rw [List.getElem?_append_left (by rw [← g.len]; exact hk)] at h2
    exact (g.at_ k a m' h1 h2).mono e fun u h => by rw [upd_ne (ne_of_none h hp)]; exact h
  · have hk2 : k = α.h.length := by
      have := (List.getElem?_eq_some_iff.mp h1).1
      simp at this; omega
    subst hk2
    rw [List.getElem?_append_right (Nat.le_refl _)] at h1
    rw [List.getElem?_append_right (by rw [g.len]; exact Nat.le_refl _)] at h2
    simp at h1
    rw [g.len] at h2
    simp at h2
    subst h1 h2
    exact hm
theorem ext_setW0 (g : GaOk K H α γ) {a : Addr} {o : HO} (ha : a ∈ α) : ExtW α H α (upd H a o) :=
  ⟨⟨[], by simp, by simp⟩, g.nd, ⟨[], by simp, by simp⟩, fun b u hb h => by rw [upd_ne (fun e : b = a => hb (by rw [e]; exact ha))]; exact h⟩
theorem ext_set0 (g : GaOk K H α γ) {a : Addr} {o : HO} (ha : a ∈ α.h) : Ext α H α (upd H a o) := ⟨ext_setW0 g (.inl ha), kx0 g (g.nd.2.2 a ha)⟩
theorem ga_set0 (g : GaOk K H α γ) {a : Addr} {k : Nat} {o : HO} {m : MO} (ha : α.h[k]? = some a) (hm : MOk K (upd H a o) α a m) : GaOk K (upd H a o) α (γ.set k m) := by
  have e := ext_set0 g (o := o) (List.mem_of_getElem? ha)
  refine ⟨g.nd, by simp [g.len], fun j b m' h1 h2 => ?_, xs_upd g.xs⟩
  by_cases hj : j = k
  · subst hj
    rw [ha] at h1; cases h1
    have hl : j < γ.length := by rw [← g.len]; exact (List.getElem?_eq_some_iff.mp ha).1
    rw [List.getElem?_set_self hl] at h2
    cases h2
    exact hm
  · rw [List.getElem?_set_ne (Ne.symm hj)] at h2
    refine (g.at_ j b m' h1 h2).mono e fun u h => ?_
    rw [upd_ne]
    · exact h
    · intro z
      subst z
      obtain ⟨l1, e1⟩ := List.getElem?_eq_some_iff.mp h1
      obtain ⟨l2, e2⟩ := List.getElem?_eq_some_iff.mp ha
      exact hj ((List.getElem_inj g.nd.1).mp (e1.trans e2.symm))
theorem GaOk.adr (g : GaOk K H α γ) {k : Nat} {m : MO} (h : γ[k]? = some m) : ∃ a, α.h[k]? = some a ∧ MOk K H α a m := by
  have hk : k < α.h.length := by rw [g.len]; exact (List.getElem?_eq_some_iff.mp h).1
  exact ⟨α.h[k], List.getElem?_eq_getElem hk, g.at_ k _ m (List.getElem?_eq_getElem hk) h⟩
end

theorem MOk.shw {K : Frag} {α α' : Al} {H : Hp} (eh : α'.h = α.h) (ex : ∀ a ∈ α'.x, a ∈ α.x) {a : Addr} : ∀ {m : MO}, MOk K H α a m → MOk K H α' a m
  | .lst _, h => by obtain ⟨_, h, r⟩ := h; exact ⟨_, h, RpL.shw eh ex _ _ r⟩
  | .ins _ _ _, h => by obtain ⟨_, _, h, n, r⟩ := h; exact ⟨_, _, h, n, RpL.shw eh ex _ _ r⟩
  | .dic _ _, h => by obtain ⟨_, h, n, r⟩ := h; exact ⟨_, h, n, RpL.shw eh ex _ _ r⟩
  | .dit _ _, h => by obtain ⟨_, h, n, r⟩ := h; exact ⟨_, h, n, RpL.shw eh ex _ _ r⟩
/-! ### a new object that may change, but has no number -/
def Al.hid (α : Al) (p : Addr) : Al := ⟨α.h, p :: α.x⟩
def Al.un (α : Al) (p : Addr) : Al := ⟨α.h, α.x.filter fun a => decide (a ≠ p)⟩
section
variable {K : Frag} {α α' : Al} {H H' : Hp} {γ : Ga}
theorem ext_hid0 (g : GaOk K H α γ) {p : Addr} {o : HO} (hp : H p = none) : Ext α H (α.hid p) (upd H p o) :=
  ⟨⟨⟨[], by simp [Al.hid], by simp⟩, ⟨g.nd.1, List.nodup_cons.mpr ⟨fun z => g.new hp (.inr z), g.nd.2.1⟩, fun a ha hm => by
    rcases List.mem_cons.mp hm with z | z
    · subst z; exact g.new hp (.inl ha)
    · exact g.nd.2.2 a ha z⟩, ⟨[p], rfl, fun b hb => by
    have e : b = p := by simpa using hb
    rw [e]; exact hp⟩, fun a u _ h => by rw [upd_ne (ne_of_none h hp)]; exact h⟩, kx0 g fun z => g.new hp (.inr z)⟩
theorem ga_hid0 (g : GaOk K H α γ) {p : Addr} {o : HO} (hp : H p = none) : GaOk K (upd H p o) (α.hid p) γ :=
  ⟨(ext_hid0 g (o := o) hp).nd, g.len, fun k a m h1 h2 => (g.at_ k a m h1 h2).mono (ext_hid0 g hp) fun u h => by rw [upd_ne (ne_of_none h hp)]; exact h, fun a ha => by
    rcases List.mem_cons.mp ha with z | z
    · subst z; exact ⟨_, upd_same⟩
    · exact xs_upd g.xs a z⟩
theorem un_x {p : Addr} : ∀ a ∈ (α.un p).x, a ∈ α.x := fun a h => (List.mem_filter.mp h).1
theorem ext_un0 (g : GaOk K H α γ) (e : Ext α H α' H') {p : Addr} (hp : H p = none) : Ext α H (α'.un p) H' := by
  obtain ⟨δ, e1, f1⟩ := e.xx
  refine ⟨⟨e.al, ⟨e.nd.1, e.nd.2.1.sublist (List.filter_sublist ..), fun a ha hm => e.nd.2.2 a ha (un_x a hm)⟩, ⟨δ.filter fun a => decide (a ≠ p), ?_, fun b hb => f1 b (List.mem_filter.mp hb).1⟩, e.keep⟩, e.keepx⟩
  show α'.x.filter _ = _
  rw [e1, List.filter_append]
  congr 1
  apply List.filter_eq_self.mpr
  intro a ha
  apply decide_eq_true
  intro z
  subst z
  exact g.new hp (.inr ha)
theorem ga_un0 (g : GaOk K H α γ) {p : Addr} : GaOk K H (α.un p) γ :=
  ⟨⟨g.nd.1, g.nd.2.1.sublist (List.filter_sublist ..), fun a ha hm => g.nd.2.2 a ha (un_x a hm)⟩, g.len, fun k a m h1 h2 => MOk.shw (α := α) (α' := α.un p) rfl un_x (g.at_ k a m h1 h2), fun a ha => g.xs a (un_x a ha)⟩
theorem out_un {p : Addr} (h : p ∉ α.h) : p ∉ α.un p := fun z => by
  rcases z with z | z
  · exact h z
  · exact of_decide_eq_true (List.mem_filter.mp z).2 rfl
/-- the hidden object is written -/
theorem ext_hset0 {α1 : Al} {H1 : Hp} (g1 : GaOk K H1 α1 γ') (e : Ext α1 H1 α H) {a : Addr} {o : HO} (ha : H1 a = none) : Ext α1 H1 α (upd H a o) :=
  ⟨⟨e.al, e.nd, e.xx, fun b u hb h => by rw [upd_ne (ne_of_none h ha)]; exact e.keep b u hb h⟩, fun b u hb h => by rw [upd_ne (ne_of_none h ha)]; exact e.keepx b u hb h⟩
theorem ga_hset0 (g : GaOk K H α γ) {a : Addr} {o : HO} (ha : a ∈ α.x) : GaOk K (upd H a o) α γ :=
  ⟨g.nd, g.len, fun k b m h1 h2 => (g.at_ k b m h1 h2).monoW (ext_setW0 g (.inr ha)) fun u h => by
    rw [upd_ne]
    · exact h
    · intro z
      subst z
      exact g.nd.2.2 b (List.mem_of_getElem? h1) ha, xs_upd g.xs⟩
end

/-- the slots -/
def RpE (K : Frag) (H : Hp) (α : Al) (σ : L2.St) (ρ : Env) : Prop := σ.length = ρ.length ∧ ∀ (i : Nat) (d : D), ρ[i]? = some (some d) → ∃ v, σ[i]? = some (some v) ∧ Rp K H α v d
theorem RpE.mono {K : Frag} {α α' : Al} {H H' : Hp} {σ : L2.St} {ρ : Env} (e : Ext α H α' H') (r : RpE K H α σ ρ) : RpE K H' α' σ ρ :=
  ⟨r.1, fun i d h => let ⟨v, h1, h2⟩ := r.2 i d h; ⟨v, h1, Rp.mono e d v h2⟩⟩
theorem RpE.set {K : Frag} {α : Al} {H : Hp} {σ : L2.St} {ρ : Env} (r : RpE K H α σ ρ) (i : Nat) {v : V} {d : D} (h : Rp K H α v d) : RpE K H α (σ.set i (some v)) (ρ.set i (some d)) := by
  refine ⟨by simp [r.1], fun j e hj => ?_⟩
  by_cases hij : i = j
  · subst hij
    have hl : i < ρ.length := by
      have := (List.getElem?_eq_some_iff.mp hj).1
      simpa using this
    rw [List.getElem?_set_self hl] at hj
    cases hj
    exact ⟨v, by rw [List.getElem?_set_self (by rw [r.1]; exact hl)], h⟩
  · rw [List.getElem?_set_ne hij] at hj
    obtain ⟨w, h1, h2⟩ := r.2 j e hj
    exact ⟨w, by rw [List.getElem?_set_ne hij]; exact h1, h2⟩
/-- what stands around: the written part, the wish of an exception, the same over data -/
abbrev XD := Addr → List Str → List D → Ga → Prop
structure KX where
  f : Frag
  E : WX
  e : Env → XD
instance : CoeOut KX Frag := ⟨KX.f⟩
def Exc (K : KX) (α : Al) (H : Hp) : Prop :=
  ∀ σ ρ C dd fs ds γ' α' H', K.e ρ C (fs.map (·.1)) ds γ' → RpE K.f H' α' σ ρ → Ext α H α' H' → GaOk K.f H' α' γ' → H' dd = some (.xd fs) → dd ∉ α' → RpL K.f H' α' (fs.map (·.2)) ds → K.E (.ref C) (some dd) σ H'
theorem ext_none {α α' : Al} {H H' : Hp} (e : Ext α H α' H') {p : Addr} (h : H' p = none) (there : ∀ a o, a ∈ α → H a = some o → ∃ o', H' a = some o') : H p = none := by
  cases q : H p with
  | none => rfl
  | some o =>
    by_cases hp : p ∈ α
    · obtain ⟨o', e'⟩ := there p o hp q
      rw [h] at e'; cases e'
    · rw [e.keep p o hp q] at h; cases h
structure GaX (K : KX) (H : Hp) (α : Al) (γ : Ga) : Prop extends GaOk K.f H α γ where
  exc : Exc K α H
theorem GaOk.noneB {K : Frag} {α α' : Al} {H H' : Hp} {γ : Ga} (g : GaOk K H' α' γ) (e : Ext α H α' H') {p : Addr} (h : H' p = none) : H p = none :=
  ext_none e h fun a o ha _ => g.there (by
    obtain ⟨β, e1, _⟩ := e.al
    obtain ⟨δ, e2, _⟩ := e.xx
    rcases ha with z | z
    · exact .inl (by rw [e1]; exact List.mem_append_left _ z)
    · exact .inr (by rw [e2]; exact List.mem_append_right _ z))
theorem Exc.mono {K : KX} {α α' : Al} {H H' : Hp} {γ : Ga} (x : Exc K α H) (g : GaOk K.f H' α' γ) (e : Ext α H α' H') : Exc K α' H' :=
  fun σ ρ C dd fs ds γ2 α2 H2 h r e2 g2 d o rl => x σ ρ C dd fs ds γ2 α2 H2 h r (e.trans e2) g2 d o rl
section
variable {K : KX} {α α' : Al} {H H' : Hp} {γ γ' : Ga}
theorem GaX.go (g : GaX K H α γ) (g' : GaOk K.f H' α' γ') (e : Ext α H α' H') : GaX K H' α' γ' := ⟨g', g.exc.mono g' e⟩
theorem kx (g : GaX K H α γ) {p : Addr} {o : HO} (hp : p ∉ α.x) : ∀ a u, a ∈ α.x → H a = some u → upd H p o a = some u := kx0 g.toGaOk hp
theorem ext_imm (g : GaX K H α γ) {p : Addr} {o : HO} (hp : H p = none) : Ext α H α (upd H p o) := ext_imm0 g.toGaOk hp
theorem ga_imm (g : GaX K H α γ) {p : Addr} {o : HO} (hp : H p = none) : GaX K (upd H p o) α γ := g.go (ga_imm0 g.toGaOk hp) (ext_imm g hp)
theorem ext_loc (g : GaX K H α γ) {p : Addr} {o : HO} (hp : H p = none) : Ext α H (α.push p) (upd H p o) := ext_loc0 g.toGaOk hp
theorem ga_loc (g : GaX K H α γ) {p : Addr} {o : HO} {m : MO} (hp : H p = none) (hm : MOk K.f (upd H p o) (α.push p) p m) : GaX K (upd H p o) (α.push p) (γ ++ [m]) := g.go (ga_loc0 g.toGaOk hp hm) (ext_loc g hp)
theorem ext_setW (g : GaX K H α γ) {a : Addr} {o : HO} (ha : a ∈ α) : ExtW α H α (upd H a o) := ext_setW0 g.toGaOk ha
theorem ext_set (g : GaX K H α γ) {a : Addr} {o : HO} (ha : a ∈ α.h) : Ext α H α (upd H a o) := ext_set0 g.toGaOk ha
theorem ga_set (g : GaX K H α γ) {a : Addr} {k : Nat} {o : HO} {m : MO} (ha : α.h[k]? = some a) (hm : MOk K.f (upd H a o) α a m) : GaX K (upd H a o) α (γ.set k m) := g.go (ga_set0 g.toGaOk ha hm) (ext_set g (List.mem_of_getElem? ha))
theorem ext_hid (g : GaX K H α γ) {p : Addr} {o : HO} (hp : H p = none) : Ext α H (α.hid p) (upd H p o) := ext_hid0 g.toGaOk hp
theorem ga_hid (g : GaX K H α γ) {p : Addr} {o : HO} (hp : H p = none) : GaX K (upd H p o) (α.hid p) γ := g.go (ga_hid0 g.toGaOk hp) (ext_hid g hp)
theorem ext_un (g : GaX K H α γ) (e : Ext α H α' H') {p : Addr} (hp : H p = none) : Ext α H (α'.un p) H' := ext_un0 g.toGaOk e hp
theorem ext_hset {α1 : Al} {H1 : Hp} (g1 : GaX K H1 α1 γ') (e : Ext α1 H1 α H) {a : Addr} {o : HO} (ha : H1 a = none) : Ext α1 H1 α (upd H a o) := ext_hset0 g1.toGaOk e ha
end
theorem GaX.adr {K : KX} {α : Al} {H : Hp} {γ : Ga} (g : GaX K H α γ) {k : Nat} {m : MO} (h : γ[k]? = some m) : ∃ a, α.h[k]? = some a ∧ MOk K.f H α a m := g.toGaOk.adr h
/-- what is wanted of a value, of a test, of arguments -/
abbrev QD := D → Ga → Prop
def Wv (K : KX) (α : Al) (H : Hp) (Q : QD) (q : VK) : Prop := ∀ v H' α' d γ', Q d γ' → Ext α H α' H' → GaX K H' α' γ' → Rp K H' α' v d → q v H'
def dE (K : KX) (t : TE) (ρ : Env) (γ : Ga) (Q : QD) : Prop :=
  ∀ σ H α q, RpE K H α σ ρ → GaX K H α γ → Wv K α H Q q → t σ H q
def dT (K : KX) (t : TT) (ρ : Env) (γ : Ga) (Q : Bool → Ga → Prop) : Prop :=
  ∀ σ H α (q : Bool → Hp → Prop), RpE K H α σ ρ → GaX K H α γ → (∀ b H' α' γ', Q b γ' → Ext α H α' H' → GaX K H' α' γ' → q b H') → t σ H q
def dA (K : KX) (t : TA) (ρ : Env) (γ : Ga) (Q : List D → Ga → Prop) : Prop :=
  ∀ σ H α (q : List V → Hp → Prop), RpE K H α σ ρ → GaX K H α γ → (∀ vs H' α' ds γ', Q ds γ' → Ext α H α' H' → GaX K H' α' γ' → RpL K H' α' vs ds → q vs H') → t σ H q
def dO (K : KX) (t : TO) (ρ : Env) (γ : Ga) (Q : Option Int → Ga → Prop) : Prop :=
  ∀ σ H α (q : Option Int → Hp → Prop), RpE K H α σ ρ → GaX K H α γ → (∀ b H' α' γ', Q b γ' → Ext α H α' H' → GaX K H' α' γ' → q b H') → t σ H q
theorem Wv.mono {K : KX} {α α' : Al} {H H' : Hp} {Q : QD} {q : VK} (e : Ext α H α' H') (w : Wv K α H Q q) : Wv K α' H' Q q :=
  fun v H2 α2 d γ2 h e2 g r => w v H2 α2 d γ2 h (e.trans e2) g r

section
variable {K : KX} {ρ : Env} {γ : Ga} {Q : QD}
theorem de_mono {t : TE} {Q Q' : QD} (h : dE K t ρ γ Q) (k : ∀ d γ', Q d γ' → Q' d γ') : dE K t ρ γ Q' :=
  fun σ H α q r g w => h σ H α q r g fun v H' α' d γ' hq => w v H' α' d γ' (k d γ' hq)
theorem dt_mono {t : TT} {Q Q' : Bool → Ga → Prop} (h : dT K t ρ γ Q) (k : ∀ d γ', Q d γ' → Q' d γ') : dT K t ρ γ Q' :=
  fun σ H α q r g w => h σ H α q r g fun b H' α' γ' hq => w b H' α' γ' (k b γ' hq)
theorem de_var {i : Nat} {d : D} (h : ρ[i]? = some (some d)) (q : Q d γ) : dE K (tVar i) ρ γ Q := fun σ H α _ r g w =>
  let ⟨v, h1, h2⟩ := r.2 i d h
  ⟨v, h1, w v H α d γ q g.refl g h2⟩
theorem de_int {i : Int} (q : Q (.int i) γ) : dE K (tC (.int i)) ρ γ Q := fun σ H α _ _ g w => w _ H α _ γ q g.refl g (.int i)
theorem de_bl {b : Bool} (q : Q (.bl b) γ) : dE K (tC (.bl b)) ρ γ Q := fun σ H α _ _ g w => w _ H α _ γ q g.refl g (.bl b)
theorem de_str {x : Str} (q : Q (.str x) γ) : dE K (tC (.str x)) ρ γ Q := fun σ H α _ _ g w => w _ H α _ γ q g.refl g (.str x)
theorem de_non (q : Q .non γ) : dE K (tC .non) ρ γ Q := fun σ H α _ _ g w => w _ H α _ γ q g.refl g .non
theorem de_ty {n : String} (q : Q (.ty n) γ) : dE K (tC (.ty n)) ρ γ Q := fun σ H α _ _ g w => w _ H α _ γ q g.refl g (.ty n)
/-- an address, as what it is known for -/
theorem de_ref {a : Addr} (q : Q (.ref a) γ) : dE K (tC (.ref a)) ρ γ Q := fun σ H α _ _ g w => w _ H α _ γ q g.refl g (.ref a)
/-- a tuple of the text's top -/
theorem de_top {a : Addr} {vs : List V} {ds : List D} (ht : TopS K.f a vs)
    (hr : ∀ H α, RpL K.f H α vs ds) (q : Q (.cst ds) γ) : dE K (tC (.ref a)) ρ γ Q := fun σ H α _ _ g w => w _ H α _ γ q g.refl g (.cst ht (hr H α))
theorem da_nil {Q : List D → Ga → Prop} (q : Q [] γ) : dA K tNil ρ γ Q := fun σ H α _ _ g w => w [] H α [] γ q g.refl g .nil
theorem da_cons {te : TE} {t : TA} {Q : List D → Ga → Prop} (h : dE K te ρ γ fun d γ1 => dA K t ρ γ1 fun ds γ2 => Q (d :: ds) γ2) : dA K (tCons te t) ρ γ Q := fun σ H α _ r g w =>
  h σ H α _ r g fun v H1 α1 d γ1 h1 e1 g1 r1 => h1 σ H1 α1 _ (r.mono e1) g1 fun vs H2 α2 ds γ2 h2 e2 g2 r2 =>
    w (v :: vs) H2 α2 (d :: ds) γ2 h2 (e1.trans e2) g2 (.cons (Rp.mono e2 d v r1) r2)
theorem de_tup {t : TA} (h : dA K t ρ γ fun ds γ' => ds.length ≤ sizeLine ∧ Q (.tup ds) γ') : dE K (tTup t) ρ γ Q := fun σ H α _ r g w =>
  h σ H α _ r g fun vs H1 α1 ds γ1 h1 e1 g1 r1 => ⟨by rw [r1.length]; exact h1.1, fun p hp =>
    w _ _ α1 _ γ1 h1.2 (e1.trans (ext_imm g1 hp)) (ga_imm g1 hp) (.tup ⟨g1.new hp, upd_same⟩ (RpL.mono (ext_imm g1 hp) _ _ r1))⟩
/-- a list that nobody will change -/
theorem de_lst {t : TA} (h : dA K t ρ γ fun ds γ' => ds.length ≤ sizeLine ∧ Q (.lst ds) γ') : dE K (tLst t) ρ γ Q := fun σ H α _ r g w =>
  h σ H α _ r g fun vs H1 α1 ds γ1 h1 e1 g1 r1 => ⟨by rw [r1.length]; exact h1.1, fun p hp =>
    w _ _ α1 _ γ1 h1.2 (e1.trans (ext_imm g1 hp)) (ga_imm g1 hp) (.lst (g1.new hp) upd_same (RpL.mono (ext_imm g1 hp) _ _ r1))⟩
/-- a list that will be changed -/
theorem de_lstM {t : TA} (h : dA K t ρ γ fun ds γ' => ds.length ≤ sizeLine ∧ Q (.loc γ'.length) (γ' ++ [.lst ds])) : dE K (tLst t) ρ γ Q := fun σ H α _ r g w =>
  h σ H α _ r g fun vs H1 α1 ds γ1 h1 e1 g1 r1 => ⟨by rw [r1.length]; exact h1.1, fun p hp =>
    w _ _ (α1.push p) _ _ h1.2 (e1.trans (ext_loc g1 hp)) (ga_loc g1 hp ⟨vs, upd_same, RpL.mono (ext_loc g1 hp) _ _ r1⟩) (.loc (by show (α1.h ++ [p])[γ1.length]? = _; rw [← g1.len]; simp))⟩
/-! ### operators, by values -/
def dR2 (K : KX) (r : R2) (x y : D) (γ : Ga) (Q : QD) : Prop :=
  ∀ H α v w q, GaX K H α γ → Rp K H α v x → Rp K H α w y → Wv K α H Q q → r v w H q
def dR1 (K : KX) (r : V → Hp → VK → Prop) (x : D) (γ : Ga) (Q : QD) : Prop :=
  ∀ H α v q, GaX K H α γ → Rp K H α v x → Wv K α H Q q → r v H q
def dRC (K : KX) (r : List V → Hp → VK → Prop) (xs : List D) (γ : Ga) (Q : QD) : Prop :=
  ∀ H α vs q, GaX K H α γ → RpL K H α vs xs → Wv K α H Q q → r vs H q
def dRM (K : KX) (r : V → List V → Hp → VK → Prop) (x : D) (xs : List D) (γ : Ga) (Q : QD) : Prop :=
  ∀ H α v vs q, GaX K H α γ → Rp K H α v x → RpL K H α vs xs → Wv K α H Q q → r v vs H q
theorem de_op {r : R2} {ta tb : TE} (h : dE K ta ρ γ fun x γ1 => dE K tb ρ γ1 fun y γ2 => dR2 K r x y γ2 Q) : dE K (tOp r ta tb) ρ γ Q := fun σ H α _ rr g w =>
  h σ H α _ rr g fun v H1 α1 x γ1 h1 e1 g1 r1 => h1 σ H1 α1 _ (rr.mono e1) g1 fun u H2 α2 y γ2 h2 e2 g2 r2 =>
    h2 H2 α2 v u _ g2 (Rp.mono e2 x v r1) r2 (w.mono (e1.trans e2))
theorem de_un {r : V → Hp → VK → Prop} {ta : TE} (h : dE K ta ρ γ fun x γ1 => dR1 K r x γ1 Q) : dE K (tUn r ta) ρ γ Q := fun σ H α _ rr g w =>
  h σ H α _ rr g fun v H1 α1 x γ1 h1 e1 g1 r1 => h1 H1 α1 v _ g1 r1 (w.mono e1)
theorem de_cb {r : List V → Hp → VK → Prop} {t : TA} (h : dA K t ρ γ fun xs γ1 => dRC K r xs γ1 Q) : dE K (tCB r t) ρ γ Q := fun σ H α _ rr g w =>
  h σ H α _ rr g fun vs H1 α1 xs γ1 h1 e1 g1 r1 => h1 H1 α1 vs _ g1 r1 (w.mono e1)
/-- the kinds of a receiver -/
def IsTy (K : KX) (T : String) (x : D) (γ : Ga) : Prop := ∀ H α v, GaX K H α γ → Rp K H α v x → tyV K T v H
theorem de_bm0 {T : String} {r : V → List V → Hp → VK → Prop} {to : TE} (h : dE K to ρ γ fun x γ1 => IsTy K T x γ1 ∧ dRM K r x [] γ1 Q) : dE K (tBM0 K T r to) ρ γ Q := fun σ H α _ rr g w =>
  h σ H α _ rr g fun v H1 α1 x γ1 h1 e1 g1 r1 => ⟨h1.1 H1 α1 v g1 r1, h1.2 H1 α1 v [] _ g1 r1 .nil (w.mono e1)⟩
theorem de_bm {T : String} {r : V → List V → Hp → VK → Prop} {to : TE} {t : TA} (h : dE K to ρ γ fun x γ1 => IsTy K T x γ1 ∧ dA K t ρ γ1 fun xs γ2 => dRM K r x xs γ2 Q) : dE K (tBM K T r to t) ρ γ Q := fun σ H α _ rr g w =>
  h σ H α _ rr g fun v H1 α1 x γ1 h1 e1 g1 r1 => ⟨h1.1 H1 α1 v g1 r1, h1.2 σ H1 α1 _ (rr.mono e1) g1 fun vs H2 α2 xs γ2 h2 e2 g2 r2 =>
    h2 H2 α2 v vs _ g2 (Rp.mono e2 x v r1) r2 (w.mono (e1.trans e2))⟩
theorem do_none {Q : Option Int → Ga → Prop} (q : Q none γ) : dO K tNoPart ρ γ Q := fun σ H α _ _ g w => w none H α γ q g.refl g
theorem do_some {te : TE} {Q : Option Int → Ga → Prop} (h : dE K te ρ γ fun d γ1 => ∃ i, d = .int i ∧ Q (some i) γ1) : dO K (tPart te) ρ γ Q := fun σ H α _ rr g w =>
  h σ H α _ rr g fun v H1 α1 d γ1 ⟨i, e, q⟩ e1 g1 r1 => by
    subst e
    cases r1
    exact ⟨i, rfl, w _ H1 α1 γ1 q e1 g1⟩
def dRS (K : KX) (r : V → Option Int → Option Int → Hp → VK → Prop) (x : D) (lo hi : Option Int) (γ : Ga) (Q : QD) : Prop :=
  ∀ H α v q, GaX K H α γ → Rp K H α v x → Wv K α H Q q → r v lo hi H q
theorem de_sl {r : V → Option Int → Option Int → Hp → VK → Prop} {te : TE} {tl th : TO} (h : dE K te ρ γ fun x γ1 => dO K tl ρ γ1 fun lo γ2 => dO K th ρ γ2 fun hi γ3 => dRS K r x lo hi γ3 Q) : dE K (tSl r te tl th) ρ γ Q := fun σ H α _ rr g w =>
  h σ H α _ rr g fun v H1 α1 x γ1 h1 e1 g1 r1 => h1 σ H1 α1 _ (rr.mono e1) g1 fun lo H2 α2 γ2 h2 e2 g2 => h2 σ H2 α2 _ (rr.mono (e1.trans e2)) g2 fun hi H3 α3 γ3 h3 e3 g3 =>
    h3 H3 α3 v _ g3 (Rp.mono (e2.trans e3) x v r1) (w.mono ((e1.trans e2).trans e3))
/-! ### tests -/
theorem dt_test {te : TE} {Q : Bool → Ga → Prop} (h : dE K te ρ γ fun d γ1 => ∃ b, d = .bl b ∧ Q b γ1) : dT K (tTest te) ρ γ Q := fun σ H α _ rr g w =>
  h σ H α _ rr g fun v H1 α1 d γ1 ⟨i, e, q⟩ e1 g1 r1 => by
    subst e
    cases r1
    exact ⟨i, rfl, w _ H1 α1 γ1 q e1 g1⟩
theorem dt_B {te : TE} {Q : Bool → Ga → Prop} (h : dE K te ρ γ fun d γ1 => ∃ b, d = .bl b ∧ Q b γ1) : dT K (tB te) ρ γ Q := dt_test h
theorem dt_and {t u : TT} {Q : Bool → Ga → Prop} (h : dT K t ρ γ fun b γ1 => if b = true then dT K u ρ γ1 Q else Q false γ1) : dT K (tAnd t u) ρ γ Q := fun σ H α _ rr g w =>
  h σ H α _ rr g fun b H1 α1 γ1 h1 e1 g1 => by
    cases b with
    | true => exact (iteT (h1 σ H1 α1 _ (rr.mono e1) g1 fun c H2 α2 γ2 h2 e2 g2 => w c H2 α2 γ2 h2 (e1.trans e2) g2))
    | false => exact (iteF (w _ H1 α1 γ1 h1 e1 g1))
theorem dt_or {t u : TT} {Q : Bool → Ga → Prop} (h : dT K t ρ γ fun b γ1 => if b = true then Q true γ1 else dT K u ρ γ1 Q) : dT K (tOr t u) ρ γ Q := fun σ H α _ rr g w =>
  h σ H α _ rr g fun b H1 α1 γ1 h1 e1 g1 => by
    cases b with
    | false => exact (iteF (h1 σ H1 α1 _ (rr.mono e1) g1 fun c H2 α2 γ2 h2 e2 g2 => w c H2 α2 γ2 h2 (e1.trans e2) g2))
    | true => exact (iteT (w _ H1 α1 γ1 h1 e1 g1))
theorem dt_not {t : TT} {Q : Bool → Ga → Prop} (h : dT K t ρ γ fun b γ1 => Q (!b) γ1) : dT K (tNot t) ρ γ Q := fun σ H α _ rr g w =>
  h σ H α _ rr g fun b H1 α1 γ1 h1 e1 g1 => w _ H1 α1 γ1 h1 e1 g1
theorem de_andV {ta tb : TE} (h : dE K ta ρ γ fun d γ1 => ∃ b, d = .bl b ∧ if b = true then dE K tb ρ γ1 Q else Q (.bl false) γ1) : dE K (tAndV ta tb) ρ γ Q := fun σ H α _ rr g w =>
  h σ H α _ rr g fun v H1 α1 d γ1 ⟨b, e, h1⟩ e1 g1 r1 => by
    subst e
    cases r1
    refine ⟨b, rfl, ?_⟩
    cases b with
    | true => exact iteT (h1 σ H1 α1 _ (rr.mono e1) g1 (w.mono e1))
    | false => exact iteF (w _ H1 α1 _ γ1 h1 e1 g1 (.bl false))
theorem de_orV {ta tb : TE} (h : dE K ta ρ γ fun d γ1 => ∃ b, d = .bl b ∧ if b = true then Q (.bl true) γ1 else dE K tb ρ γ1 Q) : dE K (tOrV ta tb) ρ γ Q := fun σ H α _ rr g w =>
  h σ H α _ rr g fun v H1 α1 d γ1 ⟨b, e, h1⟩ e1 g1 r1 => by
    subst e
    cases r1
    refine ⟨b, rfl, ?_⟩
    cases b with
    | false => exact iteF (h1 σ H1 α1 _ (rr.mono e1) g1 (w.mono e1))
    | true => exact iteT (w _ H1 α1 _ γ1 h1 e1 g1 (.bl true))
theorem de_notV {ta : TE} (h : dE K ta ρ γ fun d γ1 => ∃ b, d = .bl b ∧ Q (.bl (!b)) γ1) : dE K (tNotV ta) ρ γ Q := fun σ H α _ rr g w =>
  h σ H α _ rr g fun v H1 α1 d γ1 ⟨b, e, h1⟩ e1 g1 r1 => by
    subst e
    cases r1
    exact ⟨b, rfl, w _ H1 α1 _ γ1 h1 e1 g1 (.bl _)⟩
theorem de_if {t : TT} {ta tb : TE} (h : dT K t ρ γ fun b γ1 => if b = true then dE K ta ρ γ1 Q else dE K tb ρ γ1 Q) : dE K (tIf t ta tb) ρ γ Q := fun σ H α _ rr g w =>
  h σ H α _ rr g fun b H1 α1 γ1 h1 e1 g1 => by
    cases b with
    | true => exact iteT (h1 σ H1 α1 _ (rr.mono e1) g1 (w.mono e1))
    | false => exact iteF (h1 σ H1 α1 _ (rr.mono e1) g1 (w.mono e1))
theorem de_chain {r r' : R2} {ta tb tc : TE} (h : dE K ta ρ γ fun x γ1 => dE K tb ρ γ1 fun y γ2 => dR2 K r x y γ2 fun z γ3 => ∃ k, z = .bl k ∧ if k = true then dE K tc ρ γ3 fun u γ4 => dR2 K r' y u γ4 Q else Q (.bl false) γ3) :
    dE K (tChain r r' ta tb tc) ρ γ Q := fun σ H α _ rr g w =>
  h σ H α _ rr g fun v H1 α1 x γ1 h1 e1 g1 r1 => h1 σ H1 α1 _ (rr.mono e1) g1 fun u H2 α2 y γ2 h2 e2 g2 r2 =>
    h2 H2 α2 v u _ g2 (Rp.mono e2 x v r1) r2 fun z' H3 α3 z γ3 ⟨k, ez, h3⟩ e3 g3 r3 => by
      subst ez
      cases r3
      refine ⟨k, rfl, ?_⟩
      cases k with
      | true =>
        refine iteT (h3 σ H3 α3 _ (rr.mono ((e1.trans e2).trans e3)) g3 fun w' H4 α4 u' γ4 h4 e4 g4 r4 => ?_)
        exact h4 H4 α4 u w' _ g4 (Rp.mono (e3.trans e4) y u r2) r4 (w.mono (((e1.trans e2).trans e3).trans e4))
      | false => exact iteF (w _ H3 α3 _ γ3 h3 ((e1.trans e2).trans e3) g3 (.bl false))
end
end DL

set_option Elab.async false
set_option linter.all false
set_option maxRecDepth 100000
set_option maxHeartbeats 2000000
namespace DL
open PySem PySem.Spec PyProof.Rows L2

structure DEnds where
  nx : Env → Ga → Prop
  rt : QD
  bk : Env → Ga → Prop := fun _ _ => False
  ct : Env → Ga → Prop := fun _ _ => False
def Ws (K : KX) (α0 : Al) (H0 : Hp) (N : Env → Ga → Prop) (n : L2.St → Hp → Prop) : Prop :=
  ∀ σ H α ρ γ, N ρ γ → Ext α0 H0 α H → GaX K H α γ → RpE K H α σ ρ → n σ H
structure FinE (K : KX) (α0 : Al) (H0 : Hp) (B : DEnds) (Dn : Ends) : Prop where
  nx : Ws K α0 H0 B.nx Dn.nx
  rt : Wv K α0 H0 B.rt Dn.rt
  bk : Ws K α0 H0 B.bk Dn.bk
  ct : Ws K α0 H0 B.ct Dn.ct
theorem Ws.mono {K : KX} {α α' : Al} {H H' : Hp} {N : Env → Ga → Prop} {n : L2.St → Hp → Prop} (e : Ext α H α' H') (w : Ws K α H N n) : Ws K α' H' N n :=
  fun σ H2 α2 ρ γ h e2 => w σ H2 α2 ρ γ h (e.trans e2)
theorem FinE.mono {K : KX} {α α' : Al} {H H' : Hp} {B : DEnds} {Dn : Ends} (e : Ext α H α' H') (f : FinE K α H B Dn) : FinE K α' H' B Dn :=
  ⟨f.nx.mono e, f.rt.mono e, f.bk.mono e, f.ct.mono e⟩
/-- a statement: n mutable objects stood at the beginning of the block -/
def dS (K : KX) (n : Nat) (t : TS) (ρ : Env) (γ : Ga) (B : DEnds) : Prop :=
  ∀ σ H α α0 H0 Dn, α0.h.length = n → Ext α0 H0 α H → RpE K H α σ ρ → GaX K H α γ → FinE K α0 H0 B Dn → t Dn σ H
def SlotsEq (is : List Nat) (σ σ' : L2.St) : Prop := σ'.length = σ.length ∧ ∀ j, j ∉ is → σ'[j]? = σ[j]?
def dG (K : KX) (g : TG) (d : D) (ρ : Env) (γ : Ga) (is : List Nat) (N : Env → Ga → Prop) : Prop :=
  ∀ σ H α v (q : L2.St → Hp → Prop), RpE K H α σ ρ → GaX K H α γ → Rp K H α v d →
    (∀ σ' H' α' ρ' γ', N ρ' γ' → SlotsEq is σ σ' → Ext α H α' H' → GaX K H' α' γ' → RpE K H' α' σ' ρ' → q σ' H') → g v σ H q
def dGs (K : KX) (g : TGs) (ds : List D) (ρ : Env) (γ : Ga) (is : List Nat) (N : Env → Ga → Prop) : Prop :=
  ∀ σ H α vs (q : L2.St → Hp → Prop), RpE K H α σ ρ → GaX K H α γ → RpL K H α vs ds →
    (∀ σ' H' α' ρ' γ', N ρ' γ' → SlotsEq is σ σ' → Ext α H α' H' → GaX K H' α' γ' → RpE K H' α' σ' ρ' → q σ' H') → g vs σ H q
/-- an iterator that yields ds -/
structure WkI (K : KX) (J : It) (α0 : Al) (H0 : Hp) (ds : List D) : Prop where
  go : ∀ i H α γ, Ext α0 H0 α H → GaX K H α γ → i < ds.length → J.go i H
  stop : ∀ i H α γ, Ext α0 H0 α H → GaX K H α γ → ds.length ≤ i → J.stop i H
  yld : ∀ i H α γ x H', i < ds.length → Ext α0 H0 α H → GaX K H α γ → J.yld i H x H' → ∃ d, ds[i]? = some d ∧ Ext α H α H' ∧ GaX K H' α γ ∧ Rp K H' α x d
def dI (K : KX) (wi : TI) (ρ : Env) (γ : Ga) (R : List D → Ga → Prop) : Prop :=
  ∀ σ H α (r : It → Hp → Prop), RpE K H α σ ρ → GaX K H α γ → (∀ J H' α' γ' ds, R ds γ' → Ext α H α' H' → GaX K H' α' γ' → WkI K J α' H' ds → r J H') → wi σ H r

section
variable {K : KX} {n : Nat} {ρ : Env} {γ : Ga} {B : DEnds} {t u : TS}
theorem ds_next (h : B.nx ρ γ) : dS K n tNext ρ γ B := fun σ H α α0 H0 Dn _ e r g f => f.nx σ H α ρ γ h e g r
theorem ds_brk (h : B.bk ρ γ) : dS K n tBreak ρ γ B := fun σ H α α0 H0 Dn _ e r g f => f.bk σ H α ρ γ h e g r
theorem ds_cont (h : B.ct ρ γ) : dS K n tCont ρ γ B := fun σ H α α0 H0 Dn _ e r g f => f.ct σ H α ρ γ h e g r
theorem ds_seq (h : dS K n t ρ γ { B with nx := fun ρ' γ' => dS K n u ρ' γ' B }) : dS K n (tSeq t u) ρ γ B := fun σ H α α0 H0 Dn hn e r g f =>
  h σ H α α0 H0 { Dn with nx := u Dn } hn e r g ⟨fun σ' H' α' ρ' γ' h' e' g' r' => h' σ' H' α' α0 H0 Dn hn e' r' g' f, f.rt, f.bk, f.ct⟩
theorem ds_if {c : TT} (h : dT K c ρ γ fun b γ' => if b = true then dS K n t ρ γ' B else dS K n u ρ γ' B) : dS K n (tIfS c t u) ρ γ B := fun σ H α α0 H0 Dn hn e r g f =>
  h σ H α _ r g fun b H1 α1 γ1 h1 e1 g1 => by
    cases b with
    | true => exact iteT (h1 σ H1 α1 α0 H0 Dn hn (e.trans e1) (r.mono e1) g1 f)
    | false => exact iteF (h1 σ H1 α1 α0 H0 Dn hn (e.trans e1) (r.mono e1) g1 f)
theorem ds_asg {te : TE} {g : TG} {is : List Nat} (h : dE K te ρ γ fun d γ' => dG K g d ρ γ' is B.nx) : dS K n (tAsg te g) ρ γ B := fun σ H α α0 H0 Dn hn e r g f =>
  h σ H α _ r g fun v H1 α1 d γ1 h1 e1 g1 r1 => h1 σ H1 α1 v _ (r.mono e1) g1 r1 fun σ2 H2 α2 ρ2 γ2 h2 _ e2 g2 r2 => f.nx σ2 H2 α2 ρ2 γ2 h2 ((e.trans e1).trans e2) g2 r2
theorem dg_name {i : Nat} {d : D} {N : Env → Ga → Prop} (h : N (ρ.set i (some d)) γ) : dG K (gName i) d ρ γ [i] N := fun σ H α v q r g rv w =>
  w _ H α _ γ h ⟨by simp, fun j hj => by
    rw [List.getElem?_set_ne]
    intro e
    exact hj (by simp [e])⟩ g.refl g (r.set i rv)
theorem ds_set {te : TE} {i : Nat} (h : dE K te ρ γ fun d γ' => B.nx (ρ.set i (some d)) γ') : dS K n (tAsg te (gName i)) ρ γ B := ds_asg (de_mono h fun _ _ h' => dg_name h')
theorem ds_ret {te : TE} (h : dE K te ρ γ B.rt) : dS K n (tRet te) ρ γ B := fun σ H α α0 H0 Dn hn e r g f => h σ H α _ r g (f.rt.mono e)
theorem ds_retN (h : B.rt .non γ) : dS K n tRetN ρ γ B := fun σ H α α0 H0 Dn hn e r g f => f.rt _ H α _ γ h e g .non
theorem ds_expr {te : TE} (h : dE K te ρ γ fun _ γ' => B.nx ρ γ') : dS K n (tDrop te) ρ γ B := fun σ H α α0 H0 Dn hn e r g f =>
  h σ H α _ r g fun v H1 α1 d γ1 h1 e1 g1 r1 => f.nx σ H1 α1 ρ γ1 h1 (e.trans e1) g1 (r.mono e1)
theorem dgs_nil {N : Env → Ga → Prop} (h : N ρ γ) : dGs K gNil [] ρ γ [] N := fun σ H α vs q r g rv w => by
  cases rv
  exact ⟨rfl, w σ H α ρ γ h ⟨rfl, fun _ _ => rfl⟩ g.refl g r⟩
theorem dgs_cons {g : TG} {gs : TGs} {d : D} {ds : List D} {is js : List Nat} {N : Env → Ga → Prop} (h : dG K g d ρ γ is fun ρ1 γ1 => dGs K gs ds ρ1 γ1 js N) : dGs K (gCons g gs) (d :: ds) ρ γ (is ++ js) N := fun σ H α vs q r g rv w => by
  cases rv with
  | cons r1 r2 =>
    refine ⟨_, _, rfl, h σ H α _ _ r g r1 fun σ1 H1 α1 ρ1 γ1 h1 s1 e1 g1 q1 => ?_⟩
    refine h1 σ1 H1 α1 _ _ q1 g1 (RpL.mono e1 _ _ r2) fun σ2 H2 α2 ρ2 γ2 h2 s2 e2 g2 q2 => ?_
    refine w σ2 H2 α2 ρ2 γ2 h2 ⟨s2.1.trans s1.1, fun j hj => ?_⟩ (e1.trans e2) g2 q2
    rw [s2.2 j fun z => hj (List.mem_append_right _ z), s1.2 j fun z => hj (List.mem_append_left _ z)]
theorem dg_tup {m : Nat} {gs : TGs} {ds : List D} {is : List Nat} {N : Env → Ga → Prop} (hl : ds.length = m) (h : dGs K gs ds ρ γ is N) : dG K (gTup K m gs) (.tup ds) ρ γ is N := fun σ H α v q r g rv w => by
  cases rv with
  | tup h1 h2 => exact ⟨_, _, rfl, h1.sq, h2.length.trans hl, h σ H α _ q r g h2 w⟩
theorem ds_while {c : TT} {tb : TS} (P : Nat → Env → Ga → Prop) (h0 : ∃ m, P m ρ γ)
    (hs : ∀ m ρ γ, P m ρ γ → dT K c ρ γ fun b γ1 => if b = true then dS K n tb ρ γ1 { B with nx := fun ρ' γ' => ∃ m', m' < m ∧ P m' ρ' γ', ct := fun ρ' γ' => ∃ m', m' < m ∧ P m' ρ' γ', bk := B.nx } else B.nx ρ γ1) :
    dS K n (tWhile c tb) ρ γ B := fun σ H α α0 H0 Dn hn e r g f => by
  obtain ⟨m0, p0⟩ := h0
  refine ⟨fun m σ H => ∃ α ρ γ, P m ρ γ ∧ Ext α0 H0 α H ∧ GaX K H α γ ∧ RpE K H α σ ρ, ⟨m0, α, ρ, γ, p0, e, g, r⟩, ?_⟩
  rintro m σ1 H1 ⟨α1, ρ1, γ1, p1, e1, g1, r1⟩
  refine hs m ρ1 γ1 p1 σ1 H1 α1 _ r1 g1 fun b H2 α2 γ2 h2 e2 g2 => ?_
  cases b with
  | true =>
    refine iteT ⟨fun σ' H' => ∃ m', m' < m ∧ ∃ α ρ γ, P m' ρ γ ∧ Ext α0 H0 α H' ∧ GaX K H' α γ ∧ RpE K H' α σ' ρ, fun σ' H' hh => hh, ?_⟩
    refine h2 σ1 H2 α2 α0 H0 _ hn (e1.trans e2) (r1.mono e2) g2 ⟨?_, f.rt, f.nx, ?_⟩
    · rintro σ3 H3 α3 ρ3 γ3 ⟨m', hm, p3⟩ e3 g3 r3
      exact ⟨m', hm, α3, ρ3, γ3, p3, e3, g3, r3⟩
    · rintro σ3 H3 α3 ρ3 γ3 ⟨m', hm, p3⟩ e3 g3 r3
      exact ⟨m', hm, α3, ρ3, γ3, p3, e3, g3, r3⟩
  | false => exact iteF (f.nx σ1 H2 α2 ρ1 γ2 h2 (e1.trans e2) g2 (r1.mono e2))
theorem ds_for {wi : TI} {g : TG} {tb : TS} (is : List Nat) (h : dI K wi ρ γ fun ds γ1 => ∃ P : Nat → Env → Ga → Prop, P 0 ρ γ1 ∧
      (∀ i x ρ' γ', ds[i]? = some x → P i ρ' γ' → dG K g x ρ' γ' is fun ρ2 γ2 => dS K γ1.length tb ρ2 γ2 { B with nx := P (i + 1), ct := P (i + 1), bk := B.nx }) ∧
      ∀ ρ' γ', P ds.length ρ' γ' → B.nx ρ' γ') : dS K n (tFor wi g tb) ρ γ B := fun σ H α α0 H0 Dn hn e r g f => by
  refine h σ H α _ r g fun J H1 α1 γ1 ds h1 e1 g1 wk => ?_
  obtain ⟨P, p0, hs, hd⟩ := h1
  refine ⟨fun i m σ H => m = ds.length - i ∧ i ≤ ds.length ∧ ∃ α ρ γ, P i ρ γ ∧ Ext α1 H1 α H ∧ GaX K H α γ ∧ RpE K H α σ ρ,
    ⟨ds.length, by simp, Nat.zero_le _, α1, ρ, γ1, p0, g1.refl, g1, r.mono e1⟩, ?_⟩
  rintro i m σ2 H2 ⟨rfl, hi, α2, ρ2, γ2, p2, e2, g2, r2⟩
  by_cases hlt : i < ds.length
  · refine .inr ⟨wk.go i H2 α2 γ2 e2 g2 hlt, fun σ' H' => ∃ α ρ γ, P (i + 1) ρ γ ∧ Ext α1 H1 α H' ∧ GaX K H' α γ ∧ RpE K H' α σ' ρ, fun σ' H' hh => ⟨ds.length - (i + 1), by omega, rfl, hlt, hh⟩, fun x H' y => ?_⟩
    obtain ⟨d, hd1, e3, g3, r3⟩ := wk.yld i H2 α2 γ2 x H' hlt e2 g2 y
    refine hs i d ρ2 γ2 hd1 p2 σ2 H' α2 x _ (r2.mono e3) g3 r3 fun σ4 H4 α4 ρ4 γ4 h4 _ e4 g4 r4 => ?_
    have ea := (e2.trans e3).trans e4
    refine h4 σ4 H4 α4 α1 H1 _ g1.len ea r4 g4 ⟨?_, f.rt.mono (e.trans e1), f.nx.mono (e.trans e1), ?_⟩
    · intro σ5 H5 α5 ρ5 γ5 p5 e5 g5 r5
      exact ⟨α5, ρ5, γ5, p5, e5, g5, r5⟩
    · intro σ5 H5 α5 ρ5 γ5 p5 e5 g5 r5
      exact ⟨α5, ρ5, γ5, p5, e5, g5, r5⟩
  · have ei : i = ds.length := by omega
    subst ei
    exact .inl ⟨wk.stop _ H2 α2 γ2 e2 g2 (Nat.le_refl _), f.nx σ2 H2 α2 ρ2 γ2 (hd ρ2 γ2 p2) ((e.trans e1).trans e2) g2 r2⟩
/-! ### what is walked -/
theorem di_list {tl : TE} {R : List D → Ga → Prop} (h : dE K tl ρ γ fun d γ' => ∃ ds, d = .lst ds ∧ R ds γ') : dI K (iList K tl) ρ γ R := fun σ H α q r g w =>
  h σ H α _ r g fun v H1 α1 d γ1 ⟨ds, ed, h1⟩ e1 g1 r1 => by
    subst ed
    cases r1 with
    | @lst a vs _ na ha rl =>
      refine ⟨a, rfl, ⟨vs, SqL.of ha⟩, w _ H1 α1 γ1 ds h1 e1 g1 ⟨?_, ?_, ?_⟩⟩
      · intro i H2 α2 γ2 e2 g2 hi
        have hv : i < vs.length := by rw [rl.length]; exact hi
        exact ⟨vs, vs[i], SqL.of (e2.keep _ _ na ha), List.getElem?_eq_getElem hv⟩
      · intro i H2 α2 γ2 e2 g2 hi
        exact ⟨vs, SqL.of (e2.keep _ _ na ha), by rw [rl.length]; exact hi⟩
      · rintro i H2 α2 γ2 x H3 _ e2 g2 ⟨rfl, hy⟩
        obtain ⟨d, h1, h2⟩ := rl.getV (hy vs (SqL.of (e2.keep _ _ na ha)))
        exact ⟨d, h1, g2.refl, g2, Rp.mono e2 _ _ h2⟩
theorem di_tup {tl : TE} {R : List D → Ga → Prop} (h : dE K tl ρ γ fun d γ' => ∃ ds, (d = .tup ds ∨ d = .cst ds) ∧ R ds γ') : dI K (iTup K tl) ρ γ R := fun σ H α q r g w =>
  h σ H α _ r g fun v H1 α1 d γ1 ⟨ds, ed, h1⟩ e1 g1 r1 => by
    have key : ∃ a vs, v = .ref a ∧ (∀ H2 α2, Ext α1 H1 α2 H2 → SqT K.f H2 a vs) ∧ RpL K.f H1 α1 vs ds := by
      rcases ed with rfl | rfl
      · cases r1 with
        | @tup a vs _ ht rl => exact ⟨a, vs, rfl, fun H2 α2 e2 => (ht.monoE e2).sq, rl⟩
      · cases r1 with
        | @cst a vs _ ht rl => exact ⟨a, vs, rfl, fun H2 α2 e2 => ht.sq, rl⟩
    obtain ⟨a, vs, rfl, sq, rl⟩ := key
    refine ⟨a, rfl, ⟨vs, sq _ _ g1.refl⟩, w _ H1 α1 γ1 ds h1 e1 g1 ⟨?_, ?_, ?_⟩⟩
    · intro i H2 α2 γ2 e2 g2 hi
      have hv : i < vs.length := by rw [rl.length]; exact hi
      exact ⟨vs, vs[i], sq _ _ e2, List.getElem?_eq_getElem hv⟩
    · intro i H2 α2 γ2 e2 g2 hi
      exact ⟨vs, sq _ _ e2, by rw [rl.length]; exact hi⟩
    · rintro i H2 α2 γ2 x H3 _ e2 g2 ⟨rfl, hy⟩
      obtain ⟨d, h1, h2⟩ := rl.getV (hy vs (sq _ _ e2))
      exact ⟨d, h1, g2.refl, g2, Rp.mono e2 _ _ h2⟩
def rngD (lo : Int) (n : Nat) : List D := (List.range n).map fun i => D.int (lo + (i : Nat))
theorem wk_rng {α : Al} {H : Hp} {lo : Int} {m : Nat} : WkI K (Itr lo m) α H (rngD lo m) := by
  refine ⟨?_, ?_, ?_⟩
  · intro i H2 α2 γ2 e2 g2 hi
    have : i < m := by simpa [rngD] using hi
    exact this
  · intro i H2 α2 γ2 e2 g2 hi
    have : m ≤ i := by simpa [rngD] using hi
    exact this
  · rintro i H2 α2 γ2 x H3 hi e2 g2 ⟨rfl, rfl⟩
    have : i < m := by simpa [rngD] using hi
    exact ⟨.int (lo + i), by simp [rngD, this], g2.refl, g2, .int _⟩
theorem di_rng1 {ta : TA} {R : List D → Ga → Prop} (h : dA K ta ρ γ fun ds γ' => ∃ j : Int, ds = [.int j] ∧ -(2 ^ 62) ≤ j ∧ j < 2 ^ 62 ∧ R (rngD 0 j.toNat) γ') : dI K (iRng1 ta) ρ γ R := fun σ H α q r g w =>
  h σ H α _ r g fun vs H1 α1 ds γ1 ⟨j, ed, l1, l2, h1⟩ e1 g1 r1 => by
    subst ed
    cases r1 with
    | cons r1 r2 =>
      cases r1; cases r2
      exact ⟨j, rfl, l1, l2, w _ H1 α1 γ1 _ h1 e1 g1 wk_rng⟩
theorem di_rng2 {ta : TA} {R : List D → Ga → Prop} (h : dA K ta ρ γ fun ds γ' => ∃ i j : Int, ds = [.int i, .int j] ∧ (-(2 ^ 62) ≤ i ∧ i < 2 ^ 62 ∧ -(2 ^ 62) ≤ j ∧ j < 2 ^ 62) ∧ R (rngD i (j - i).toNat) γ') : dI K (iRng2 ta) ρ γ R := fun σ H α q r g w =>
  h σ H α _ r g fun vs H1 α1 ds γ1 ⟨i, j, ed, l, h1⟩ e1 g1 r1 => by
    subst ed
    cases r1 with
    | cons r1 r2 =>
      cases r2 with
      | cons r2 r3 =>
        cases r1; cases r2; cases r3
        exact ⟨i, j, rfl, l, w _ H1 α1 γ1 _ h1 e1 g1 wk_rng⟩
def chrsD (x : Str) : List D := x.cps.toList.map fun c => D.str ⟨#[c]⟩
theorem di_str {te : TE} {R : List D → Ga → Prop} (h : dE K te ρ γ fun d γ' => ∃ x, d = .str x ∧ R (chrsD x) γ') : dI K (iStr te) ρ γ R := fun σ H α q r g w =>
  h σ H α _ r g fun v H1 α1 d γ1 ⟨x, ed, h1⟩ e1 g1 r1 => by
    subst ed
    cases r1
    refine ⟨x, rfl, w _ H1 α1 γ1 _ h1 e1 g1 ⟨?_, ?_, ?_⟩⟩
    · intro i H2 α2 γ2 e2 g2 hi
      have : i < x.cps.size := by simpa [chrsD] using hi
      exact this
    · intro i H2 α2 γ2 e2 g2 hi
      have : x.cps.size ≤ i := by simpa [chrsD] using hi
      exact this
    · rintro i H2 α2 γ2 y H3 hi e2 g2 ⟨rfl, c, hc, rfl⟩
      refine ⟨.str ⟨#[c]⟩, ?_, g2.refl, g2, .str _⟩
      have hc' : x.cps.toList[i]? = some c := by simpa using hc
      simp [chrsD, hc']
/-! ### list comprehensions -/
def wipeE (ρ : Env) : List Nat → Env
  | [] => ρ
  | v :: vs => (wipeE ρ vs).set v none
theorem wipeE_length (ρ : Env) : ∀ vs : List Nat, (wipeE ρ vs).length = ρ.length
  | [] => rfl
  | v :: vs => by unfold wipeE; rw [List.length_set, wipeE_length ρ vs]
theorem rpe_wipe {H : Hp} {α : Al} {σ : L2.St} (r : RpE K H α σ ρ) : ∀ vs : List Nat, RpE K H α (wipe σ vs) (wipeE ρ vs)
  | [] => r
  | v :: vs => by
    have ih := rpe_wipe r vs
    refine ⟨by rw [wipe_length, wipeE_length]; exact r.1, fun i d h => ?_⟩
    unfold wipeE at h
    by_cases hv : v = i
    · subst hv
      by_cases hl : v < (wipeE ρ vs).length
      · rw [List.getElem?_set_self hl] at h; cases h
      · rw [List.getElem?_eq_none (by simpa using hl)] at h; cases h
    · rw [List.getElem?_set_ne hv] at h
      obtain ⟨u, h1, h2⟩ := ih.2 i d h
      exact ⟨u, by unfold wipe; rw [List.getElem?_set_ne hv]; exact h1, h2⟩
theorem wipe_at {σ : L2.St} {i : Nat} : ∀ {vs : List Nat}, (i ∉ vs → (wipe σ vs)[i]? = σ[i]?) ∧ (i ∈ vs → i < σ.length → (wipe σ vs)[i]? = some none)
  | [] => ⟨fun _ => rfl, fun h => by simp at h⟩
  | v :: vs => by
    have ih := @wipe_at σ i vs
    refine ⟨fun h => ?_, fun h hl => ?_⟩
    · simp only [List.mem_cons, not_or] at h
      unfold wipe
      rw [List.getElem?_set_ne (fun e => h.1 e.symm)]
      exact ih.1 h.2
    · unfold wipe
      by_cases hv : v = i
      · subst hv
        rw [List.getElem?_set_self (by rw [wipe_length]; exact hl)]
      · rw [List.getElem?_set_ne hv]
        rcases List.mem_cons.mp h with e | e
        · exact absurd e.symm hv
        · exact ih.2 e hl
theorem wipe_eq {σ σ' : L2.St} {is vs : List Nat} (h : SlotsEq is (wipe σ vs) σ') (hs : ∀ i ∈ is, i ∈ vs) : wipe σ' vs = wipe σ vs := by
  have hl : σ'.length = σ.length := by rw [h.1, wipe_length]
  apply List.ext_getElem?
  intro i
  by_cases hi : i ∈ vs
  · by_cases hlt : i < σ.length
    · rw [(wipe_at (σ := σ')).2 hi (by omega), (wipe_at (σ := σ)).2 hi hlt]
    · rw [List.getElem?_eq_none (by rw [wipe_length]; omega), List.getElem?_eq_none (by rw [wipe_length]; omega)]
  · rw [(wipe_at (σ := σ')).1 hi, h.2 i fun z => hi (hs i z)]
theorem size24 {m : Nat} (h : m < 1000000) : m < sizeLine := Nat.lt_of_lt_of_le h (by decide)
/-- where nothing is raised -/
abbrev W0 : WX := fun _ _ _ _ => False
abbrev _root_.DL.KX.cm (K : KX) : KX := ⟨K.f, W0, fun _ _ _ _ _ => False⟩
theorem _root_.DL.GaX.cm {K : KX} {H : Hp} {α : Al} {γ : Ga} (g : GaX K H α γ) : GaX K.cm H α γ := ⟨g.toGaOk, fun _ _ _ _ _ _ _ _ _ h => h.elim⟩
theorem de_lc {wi : TI} {g : TG} {tt : TT} {te : TE} {vs : List Nat} {Q : QD} (is : List Nat) (hsub : ∀ i ∈ is, i ∈ vs)
    (h : dI K wi ρ γ fun ds γ1 => ds.length ≤ 1000000 ∧ ∃ P : Nat → List D → Ga → Prop, P 0 [] γ1 ∧
      (∀ i x acc γ', ds[i]? = some x → P i acc γ' → dG K g x (wipeE ρ vs) γ' is fun ρ2 γ2 => dT K.cm tt ρ2 γ2 fun b γ3 => if b = true then dE K.cm te ρ2 γ3 fun y γ4 => P (i + 1) (acc ++ [y]) γ4 else P (i + 1) acc γ3) ∧
      ∀ acc γ', P ds.length acc γ' → Q (.lst acc) γ') : dE K (tLc wi g tt te vs) ρ γ Q := fun σ H α q r g0 w => by
  refine h σ H α _ r g0 fun J H1 α1 γ1 ds h1 e1 g1 wk => ?_
  obtain ⟨hlen, P, p0, hs, hd⟩ := h1
  intro Da hDa
  -- the new list is mutable while the loop runs, but has no number
  have ex := ext_hid g1 (o := .lst []) hDa
  have gx := ga_hid g1 (o := .lst []) hDa
  refine ⟨fun i m H => m = ds.length - i ∧ i ≤ ds.length ∧ ∃ acc us α γ, P i acc γ ∧ acc.length ≤ i ∧ H Da = some (.lst us) ∧ Da ∈ α.x ∧ RpL K H α us acc ∧ Ext α1 H1 α H ∧ GaX K H α γ,
    ⟨ds.length, by simp, Nat.zero_le _, [], [], α1.hid Da, γ1, p0, Nat.le_refl _, upd_same, List.mem_cons_self, .nil, ex, gx⟩, ?_⟩
  rintro i m H2 ⟨rfl, hi, acc, us, α2, γ2, p2, hacc, hD2, nD2, ra2, e2, g2⟩
  by_cases hlt : i < ds.length
  · refine .inr ⟨wk.go i H2 α2 γ2 e2 g2 hlt, fun H => i + 1 ≤ ds.length ∧ ∃ acc us α γ, P (i + 1) acc γ ∧ acc.length ≤ i + 1 ∧ H Da = some (.lst us) ∧ Da ∈ α.x ∧ RpL K H α us acc ∧ Ext α1 H1 α H ∧ GaX K H α γ, fun H' hh => ⟨ds.length - (i + 1), by omega, rfl, hh⟩, fun x H' y => ?_⟩
    obtain ⟨d, hd1, e3, g3, r3⟩ := wk.yld i H2 α2 γ2 x H' hlt e2 g2 y
    refine hs i d acc γ2 hd1 p2 (wipe σ vs) H' α2 x _ (rpe_wipe (r.mono ((e1.trans e2).trans e3)) vs) g3 r3 fun σ4 H4 α4 ρ4 γ4 h4 s4 e4 g4 r4 => ?_
    refine ⟨wipe_eq s4 hsub, ?_⟩
    refine h4 σ4 H4 α4 _ r4 g4.cm fun b H5 α5 γ5 h5 e5 g5c => ?_
    have g5 : GaX K H5 α5 γ5 := g4.go g5c.toGaOk e5
    have e25 := (e3.trans e4).trans e5
    have inx : ∀ {α6 : Al} {H6 : Hp}, Ext α2 H2 α6 H6 → Da ∈ α6.x := fun e => by
      obtain ⟨δ, q, _⟩ := e.xx
      rw [q]
      exact List.mem_append_right _ nD2
    cases b with
    | true =>
      refine iteT (h5 σ4 H5 α5 _ (r4.mono e5) g5.cm fun y H6 α6 yd γ6 h6 e6 g6c r6 => ?_)
      have g6 : GaX K H6 α6 γ6 := g5.go g6c.toGaOk e6
      have e26 := e25.trans e6
      have hD6 := e26.keepx _ _ nD2 hD2
      have nD6 := inx e26
      have ew := ext_setW g6 (o := .lst (us ++ [y])) (.inr nD6)
      refine ⟨us, hD6, ?_, hlt, acc ++ [yd], us ++ [y], α6, γ6, h6, by simp; omega, upd_same, nD6, ?_, ext_hset g1 (e2.trans e26) hDa, g1.go (ga_hset0 g6.toGaOk nD6) (ext_hset g1 (e2.trans e26) hDa)⟩
      · rw [(RpL.length ra2)]
        exact size24 (by omega)
      · exact RpL.monoW ew _ _ ((RpL.mono e26 _ _ ra2).append (.cons r6 .nil))
    | false =>
      exact iteF ⟨hlt, acc, us, α5, γ5, h5, by omega, e25.keepx _ _ nD2 hD2, inx e25, RpL.mono e25 _ _ ra2, e2.trans e25, g5⟩
  · have ei : i = ds.length := by omega
    subst ei
    have nh : Da ∉ α2.h := fun z => g2.nd.2.2 Da z nD2
    exact .inl ⟨wk.stop _ H2 α2 γ2 e2 g2 (Nat.le_refl _), w _ H2 (α2.un Da) _ γ2 (hd acc γ2 p2) (e1.trans (ext_un g1 e2 hDa)) (g1.go (ga_un0 g2.toGaOk) (ext_un g1 e2 hDa)) (.lst (out_un nh) hD2 (RpL.shw (α := α2) (α' := α2.un Da) rfl un_x _ _ ra2))⟩
end
end DL

set_option Elab.async false
set_option linter.all false
set_option maxRecDepth 100000
set_option maxHeartbeats 2000000
/-! what a def promises where no guard stands (repr of data asks that) -/
namespace DL
open PySem PySem.Spec PyProof.Rows L2

/-- room for k calls within one another (three times as many as with the library's own) -/
structure Room (k : Nat) (A : Around) : Prop where
  hd : A.handled = none
  dp : A.depth + k + 12 < recursionLimit
  un : A.units + 8 * k + 200 < cLine
theorem Room.mono {j k : Nat} {A : Around} (r : DL.Room k A) (h : j ≤ k) : DL.Room j A := ⟨r.hd, by have := r.dp; omega, by have := r.un; omega⟩
theorem Room.deeper {k : Nat} {A : Around} (r : DL.Room (k + 1) A) (env : PySem.Env) : DL.Room k (A.deeper env) :=
  ⟨r.hd, by have h : A.depth + (k + 1) + 12 < recursionLimit := r.dp; show A.depth + 1 + k + 12 < _; omega, by have h : A.units + 8 * (k + 1) + 200 < cLine := r.un; show A.units + 3 + 8 * k + 200 < _; omega⟩
theorem Room.make {k : Nat} {A : Around} (r : DL.Room (k + 1) A) (C : Addr) (us : List Value) (kw : List (Str × Value)) : DL.Room k (A.under (.builtin "type.__call__" ⟨.ref C :: us, kw⟩)) :=
  ⟨r.hd, by have := r.dp; rw [L2.make_depth]; omega, by have := r.un; rw [L2.make_units]; omega⟩
theorem Room.depth {k : Nat} {A : Around} (r : DL.Room k A) : A.depth < recursionLimit := by have := r.dp; omega
theorem Room.units {k : Nat} {A : Around} (r : DL.Room k A) : A.units + 64 < cLine := by have := r.un; omega
theorem huD {k : Nat} {A : Around} (r : DL.Room k A) : A.units + 1 < cLine := by have := r.un; omega
structure FnG (P : Program) (w : World) (K : Frag) (mg : Str → Option Value) (base : Heap) (CX : CXT) (k : Nat) (f : Addr) (fd : FuncData) (ps : List Str) (sp : Sp) : Prop where
  len : ∀ vs H Q E, sp vs H Q E → vs.length = ps.length
  run : ∀ (A : Around) (outer : List PySem.Env) (s : Shared) (H : Hp) (args : Args) (us : List Value) (vs : List V) (Q : VK) (E : XK), Room k A → A.guards = some [] → Env0 P w K mg base A outer s H → BindsTo s fd args (ps.zip us) → Vals vs us → sp vs H Q E →
    codeAny (model P w) A (.call (.ref f) args) (CR CX outer P w H s Q E) s
theorem FnG.mono {P : Program} {w : World} {K : Frag} {mg : Str → Option Value} {base : Heap} {CX : CXT} {j k : Nat} {f : Addr} {fd : FuncData} {ps : List Str} {sp : Sp} (F : FnG P w K mg base CX j f fd ps sp) (h : j ≤ k) : FnG P w K mg base CX k f fd ps sp :=
  ⟨F.len, fun A outer s H args us vs Q E room gd => F.run A outer s H args us vs Q E (room.mono h) gd⟩
theorem FnG.imp {P : Program} {w : World} {K : Frag} {mg : Str → Option Value} {base : Heap} {CX : CXT} {k : Nat} {f : Addr} {fd : FuncData} {ps : List Str} {sp sp' : Sp} (F : FnG P w K mg base CX k f fd ps sp) (h : ∀ vs H Q E, sp' vs H Q E → sp vs H Q E) : FnG P w K mg base CX k f fd ps sp' :=
  ⟨fun vs H Q E q => F.len vs H Q E (h vs H Q E q), fun A outer s H args us vs Q E room gd e0 bd rv q => F.run A outer s H args us vs Q E room gd e0 bd rv (h vs H Q E q)⟩
/-- calls that may raise: the wish goes by the slots -/
def tCallW (sp : Sp) (E : L2.St → XK) (t : TA) : TE := fun σ H Q => tCall sp [] (E σ) t σ H Q
def tMethW (C : Addr) (m : Str) (sp : Sp) (E : L2.St → XK) (ta : TE) (t : TA) : TE := fun σ H Q => tMeth C m sp [] (E σ) ta t σ H Q
def tMakeW (C : Addr) (sp : Sp) (E : L2.St → XK) (t : TA) : TE := fun σ H Q => tMake C sp [] (E σ) t σ H Q
section
variable {X : Cx} {CX : CXT} {k : Nat} {f C : Addr} {fd : FuncData} {ps : List Str} {sp : Sp} {E : XK} {EW : L2.St → XK} {x m : Str} {p pos apos : Pos} {e o : Expr} {es : List Expr} {ta : TE} {t : TA}
/-- the callee runs; every parameter is given -/
theorem runG {pins : List (Addr × Obj)} {σ : L2.St} {H : Hp} {s : Shared} {Q : VK} {us : List Value} {vs : List V} (F : FnG X.prog X.w X.K X.mg X.base CX k f fd ps sp) (room : Room k X.A) (gd : X.A.guards = some []) (bd : Binds X.K fd ps []) (px : PassesAt CX X σ E)
    (I : Inv X pins σ H s) (rv : Vals vs us) (q : sp vs H Q E) : wpAny (model X.prog X.w) X.A (call (.ref f) us) (EP X pins σ Q) X.xe s := by
  have bl := bd s us I.kIn (by rw [List.append_nil, ← rv.length]; exact F.len _ _ _ _ q)
  rw [List.append_nil] at bl
  refine wpAny_call (codeAny_mono (F.run X.A X.stack s H ⟨us, []⟩ us vs Q E room gd I.env0 bl rv q) fun res s2 hres => ?_)
  match res, hres with
  | .error e, hres => exact px pins H s e s2 I hres
  | .ok (.ret u), hres => exact I.after hres
  | .ok .next, hres => exact hres.elim
  | .ok .brk, hres => exact hres.elim
  | .ok .cont, hres => exact hres.elim
theorem callG (F : FnG X.prog X.w X.K X.mg X.base CX k f fd ps sp) (room : Room k X.A) (gd : X.A.guards = some []) (bd : Binds X.K fd ps []) (px : ∀ σ, PassesAt CX X σ (EW σ)) (gl : Gl X x) (mgx : X.mg x = some (.ref f)) (kp : PySem.W.keepIn X.K (.ref f) = true)
    (ha : PA X (e :: es) t) (h1 : (x == ("__debug__" : Str)) = false := by decide) (h2 : starEach (e :: es) X.env = (false, eval e X.env) :: starEach es X.env := by rfl) (h3 : (backTo pos (starEach es X.env)).any (·.1) = false := by rfl) :
    PE X (.Call (.Name x p) (e :: es) [] pos) (tCallW sp EW t) := ⟨fun pins s σ H Q I h => by
  refine wpAny_Call_Name_kw (ld_glob I gl mgx (PySem.W.callWith_K (h₀ := X.base) I.ok.mod.kin kp (thn (ha.run pos pins s σ H _ I h) fun us s1 hh => ?_) h2 h3) h1)
  obtain ⟨vs, H1, I1, rv, q⟩ := hh
  rw [List.append_nil] at q
  exact ⟨I1.kIn, runG F room gd bd (px _) I1 rv q⟩⟩
theorem callG0 (F : FnG X.prog X.w X.K X.mg X.base CX k f fd ps sp) (room : Room k X.A) (gd : X.A.guards = some []) (bd : Binds X.K fd ps []) (px : ∀ σ, PassesAt CX X σ (EW σ)) (gl : Gl X x) (mgx : X.mg x = some (.ref f)) (kp : PySem.W.keepIn X.K (.ref f) = true)
    (h1 : (x == ("__debug__" : Str)) = false := by decide) : PE X (.Call (.Name x p) [] [] pos) (tCallW sp EW tNil) :=
  ⟨fun pins s σ H Q I h => wpAny_Call_Name_kw (ld_glob I gl mgx (PySem.W.callWith_K0 I.kIn kp (runG (us := []) F room gd bd (px _) I .nil h)) h1)⟩
theorem methG {pl : Sem Bool} (he : PE X o ta) (cl : Cls X.K C) (mt : Meth X.K C m f) (F : FnG X.prog X.w X.K X.mg X.base CX k f fd ps sp) (room : Room k X.A) (gd : X.A.guards = some []) (bd : Binds X.K fd ps []) (px : ∀ σ, PassesAt CX X σ (EW σ)) (ha : PA X (e :: es) t)
    (h2 : starEach (e :: es) X.env = (false, eval e X.env) :: starEach es X.env := by rfl) (h3 : (backTo pos (starEach es X.env)).any (·.1) = false := by rfl)
    (ht : eval (.Call (.Attribute o m apos) (e :: es) [] pos) X.env = (do let ov ← eval o X.env; standAt apos.atName; let (f, first) ← holding [ov] (getMethod ov m pl); callWith pos f first (backTo pos (starEach (e :: es) X.env)) (backToKw pos (keywordEach [] X.env))) := by rfl) :
    PE X (.Call (.Attribute o m apos) (e :: es) [] pos) (tMethW C m sp EW ta t) := ⟨fun pins s σ H Q I h => by
  refine PySem.W.methodCall_KW (pl := pl) (thn (he.run pins s σ H _ I h) fun u s1 hh => ?_) ht
  obtain ⟨x1, H1, I1, rx, a, dx, fs, ex, ea, l, q⟩ := hh
  subst ex
  cases rx
  refine getmeth_ok I1 ea cl mt l (PySem.W.callWith_K (first := [.ref a]) (h₀ := X.base) I.ok.mod.kin mt.kp (thn (ha.run pos pins s1 σ H1 _ I1 q) fun us s2 hh2 => ?_) h2 h3)
  obtain ⟨vs, H2, I2, rv, q2⟩ := hh2
  rw [List.append_nil] at q2
  exact ⟨I2.kIn, runG (us := .ref a :: us) (vs := .ref a :: vs) F room gd bd (px _) I2 (.cons rfl rv) q2⟩⟩
theorem methG0 {pl : Sem Bool} (he : PE X o ta) (cl : Cls X.K C) (mt : Meth X.K C m f) (F : FnG X.prog X.w X.K X.mg X.base CX k f fd ps sp) (room : Room k X.A) (gd : X.A.guards = some []) (bd : Binds X.K fd ps []) (px : ∀ σ, PassesAt CX X σ (EW σ))
    (ht : eval (.Call (.Attribute o m apos) [] [] pos) X.env = (do let ov ← eval o X.env; standAt apos.atName; let (f, first) ← holding [ov] (getMethod ov m pl); callWith pos f first (backTo pos (starEach [] X.env)) (backToKw pos (keywordEach [] X.env))) := by rfl) :
    PE X (.Call (.Attribute o m apos) [] [] pos) (tMethW C m sp EW ta tNil) := ⟨fun pins s σ H Q I h => by
  refine PySem.W.methodCall_KW (pl := pl) (thn (he.run pins s σ H _ I h) fun u s1 hh => ?_) ht
  obtain ⟨x1, H1, I1, rx, a, dx, fs, ex, ea, l, q⟩ := hh
  subst ex
  cases rx
  exact getmeth_ok I1 ea cl mt l (PySem.W.callWith_K0 (first := [.ref a]) I1.kIn mt.kp (runG (us := [.ref a]) (vs := [.ref a]) F room gd bd (px _) I1 (.cons rfl .nil) q))⟩
theorem makeRunG {pins : List (Addr × Obj)} {σ : L2.St} {H : Hp} {s : Shared} {Q : VK} {us : List Value} {vs : List V} (M : Mk X.K C f) (F : FnG X.prog X.w X.K X.mg X.base CX k f fd ps sp) (room : Room (k + 1) X.A) (gd : X.A.guards = some []) (bd : Binds X.K fd ps []) (px : PassesAt CX X σ E)
    (I : Inv X pins σ H s) (rv : Vals vs us) (q : ∀ x dx, H x = none → H dx = none → dx ≠ x → sp (.ref x :: vs) (upd (upd H dx (.own x)) x (.ins C dx [])) (fun v H2 => v = .non ∧ Q (.ref x) H2) E) :
    wpAny (model X.prog X.w) X.A (call (.ref C) us) (EP X pins σ Q) X.xe s := by
  let n := s.heap.objs.size
  have q' := q (n + 1) n (I.hok.fresh (Nat.le_succ n)) (I.hok.fresh (Nat.le_refl n)) (Nat.ne_of_lt (Nat.lt_succ_self n))
  have J := Inv.made (C := C) I
  have rv' : Vals (V.ref (n + 1) :: vs) (Value.ref (n + 1) :: us) := .cons rfl rv
  have bl := bd _ (Value.ref (n + 1) :: us) J.kIn (by rw [List.append_nil, ← rv'.length]; exact F.len _ _ _ _ q')
  rw [List.append_nil] at bl
  refine wpAny_call (make_map (f := f) I.kIn M.makes M.init (beq_iff_eq.mp M.fn) (codeAny_mono (F.run _ X.stack _ _ ⟨Value.ref (n + 1) :: us, []⟩ _ _ _ E (room.make C us []) ?_ (J.env0.make C us []) bl rv' q') fun res s2 hres => ?_))
  · simp [Around.under, gd, Code.guards, Code.isGuard, pushGuards, guardIds]
  match res, hres with
  | .error e, hres => exact px pins _ _ e s2 J hres
  | .ok (.ret u), hres =>
    obtain ⟨v, H', J', rv2, ev, q3⟩ := J.after hres
    subst ev
    exact ⟨rv2, V.ref (n + 1), H', J', rfl, q3⟩
  | .ok .next, hres => exact hres.elim
  | .ok .brk, hres => exact hres.elim
  | .ok .cont, hres => exact hres.elim
theorem makeG (M : Mk X.K C f) (F : FnG X.prog X.w X.K X.mg X.base CX k f fd ps sp) (room : Room (k + 1) X.A) (gd : X.A.guards = some []) (bd : Binds X.K fd ps []) (px : ∀ σ, PassesAt CX X σ (EW σ)) (gl : Gl X x) (mgx : X.mg x = some (.ref C))
    (ha : PA X (e :: es) t) (h1 : (x == ("__debug__" : Str)) = false := by decide) (h2 : starEach (e :: es) X.env = (false, eval e X.env) :: starEach es X.env := by rfl) (h3 : (backTo pos (starEach es X.env)).any (·.1) = false := by rfl) :
    PE X (.Call (.Name x p) (e :: es) [] pos) (tMakeW C sp EW t) := ⟨fun pins s σ H Q I h => by
  refine wpAny_Call_Name_kw (ld_glob I gl mgx (PySem.W.callWith_K (h₀ := X.base) I.ok.mod.kin M.kp (thn (ha.run pos pins s σ H _ I h) fun us s1 hh => ?_) h2 h3) h1)
  obtain ⟨vs, H1, I1, rv, q⟩ := hh
  rw [List.append_nil] at q
  exact ⟨I1.kIn, makeRunG M F room gd bd (px _) I1 rv q⟩⟩
end
/-! ### a def's promise by its body -/
theorem fnG_of {CX : CXT} {P : Program} {w : World} {K : Frag} {mg : Str → Option Value} {base : Heap} {k : Nat} {f : Addr} {x qual : Str} {params : Arguments} {body : List Stmt} {scope : Scope} {dvs : List V} {kws : List (Str × V)} {fd : FuncData} {N ps : List Str} {sp : Sp}
    (F : FunD K x qual params body scope dvs kws f fd) (S : FnScope N ps scope) (len : ∀ vs H Q E, sp vs H Q E → vs.length = ps.length)
    (hb : ∀ (cdv : Value) (A : Around) (outer : List PySem.Env) (s : Shared) (H : Hp) (vs : List V) (Q : VK) (E : XK), Room k (cxOf CX P w K mg base N qual scope f cdv A outer s H E).A → (cxOf CX P w K mg base N qual scope f cdv A outer s H E).A.guards = some [] → sp vs H Q E →
      ∃ t, PSs (cxOf CX P w K mg base N qual scope f cdv A outer s H E) body t ∧ t { nx := fun _ H' => Q .non H', rt := Q } (start N vs) H) : FnG P w K mg base CX (k + 1) f fd ps sp := by
  obtain ⟨oc, od, dV, kV, doc, pm, an, cdv, ct, osl, rfl, lk, hcd, _, _⟩ := F.ex
  refine ⟨len, fun A outer s H args us vs Q E room gd e0 bd rv q => ?_⟩
  have KX : K.In s.heap := e0.mod.kin.keeps fun b o h => (e0.bs b o h).1
  have lim : s.heap.NoLimit := e0.mod.nolimit.keeps fun b o h => (e0.bs b o h).1
  refine codeAny_call_function room.depth (KX _ _ lk) rfl S.co S.gen rfl (PySem.W.codeRec_of KX hcd) (bd _ _ _ _ ?_)
  refine wpAny_newFunctionEnv_cells S.kind (fun y hy => ?_) fun env he s1 hin => ?_
  · rcases S.par y.1 (List.of_mem_zip (show (y.1, y.2) ∈ ps.zip us from hy)).1 with z | z
    · exact .inl z
    · exact .inr ⟨z, PySem.W.cellsFrom_some _ _ _ (.inl z)⟩
  subst he
  refine ⟨lim.keeps hin.toInCall.keep, codeAny_func ?_⟩
  obtain ⟨t, ht, hq⟩ := hb cdv A outer s H vs Q E (room.deeper _) gd q
  have J : Inv (cxOf CX P w K mg base N qual scope f cdv A outer s H E) [] (start N vs) H s1 := inv_start S room.hd e0 (len _ _ _ _ q) rv hin
  refine wpAny_mono (ht.run [] s1 (start N vs) H _ J hq) (fun fl s2 hs => ?_) fun _ _ hs => hs
  match fl, hs with
  | .ret u, ⟨v, _, H', I', r', q'⟩ => exact ⟨v, H', I'.os, I'.bare, I'.base, I'.hok, r', q'⟩
  | .next, ⟨_, H', I', q'⟩ => exact ⟨V.non, H', I'.os, I'.bare, I'.base, I'.hok, rfl, q'⟩
  | .brk, ⟨_, _, _, q'⟩ => exact False.elim q'
  | .cont, ⟨_, _, _, q'⟩ => exact False.elim q'
end DL

set_option Elab.async false
set_option linter.all false
set_option maxRecDepth 100000
set_option maxHeartbeats 2000000
namespace DL
open PySem PySem.Spec PyProof.Rows L2
section
variable {P : Program} {w : World} {K : Frag} {mg mb : Str → Option Value} {CX : CXT} {k : Nat} {fa a : Addr} {fd : FuncData} {x : Str} {sp : Sp} {s₁ : Shared} {vs : List Value} {ns : List Int}
/-- the law's call, from one abstract heap H that tracks nothing but the script -/
theorem lawG_at {H : Hp} (KX : K.In s₁.heap) (hns : s₁.heap.Ns mainGlobals mg) (hb : s₁.heap.Ns builtinsNs mb) (hbb : ∀ x : Str, x ≠ "__name__" → mb x = bootBuiltins x) (lim : s₁.heap.NoLimit) (g0 : s₁.gens = #[])
    (sc : s₁.heap.get? a = some { cls := .type "list", data := .seq vs.toArray }) (room : Room k callerA) (F : ∀ base : Heap, K.In base → base.Ns mainGlobals mg → FnG P w K mg base CX k fa fd [x] sp) (bd : ∀ (s : Shared) (u : Value), BindsTo s fd ⟨[u], []⟩ [(x, u)])
    (q : sp [.ref a] H (fun v _ => v = .bl true) fun _ _ _ => False) (hcx : ∀ e s', CX [] H s₁ (fun _ _ _ => False) e s' → False)
    (hO : Only H) (hok : HOk P w H s₁.heap) (at_a : ∀ b u, H b = some u → b = a) (notK : ∀ u, H a = some u → K.lookup a = none) :
    codeAny (model P w) callerA (.call (.ref fa) ⟨[.ref a], []⟩) (fun r s' => r = .ok (.ret (.bool true)) ∧ OldK s₁.heap s'.heap ∧ s'.os = s₁.os ∧ AllBare s'.gens) s₁ := by
  have free_of : ∀ b, (b = a → False) → H b = none := fun b n => by
    cases e : H b with
    | none => rfl
    | some u => exact (n (at_a b u e)).elim
  have keepNs : ∀ {b : Addr} {m : Str → Option Value}, s₁.heap.Ns b m → (hidT s₁.heap H).Ns b m := fun {b m} hn => by
    obtain ⟨o, es, ep, e, d, r⟩ := hn
    refine ⟨o, es, ep, hidT_get e (free_of b fun z => ?_), d, r⟩
    subst z
    rw [sc] at e
    cases e
    cases d
  have KB : K.In (hidT s₁.heap H) := fun b o e => by
    refine hidT_get (KX b o e) ?_
    cases z : H b with
    | none => rfl
    | some u =>
      have eb := at_a b u z
      subst eb
      rw [notK u z] at e
      cases e
  have md : Mod K mg (hidT s₁.heap H) := by
    obtain ⟨mc, l1, l2⟩ := lim
    exact ⟨KB, keepNs hns, ⟨mb, keepNs hb, hbb⟩, mc, keepNs l1, l2⟩
  have e0 : Env0 P w K mg (hidT s₁.heap H) callerA [] s₁ H := ⟨rfl, md, fun _ _ e => of_hidT e, Nat.le_of_eq (hidT_size _ _), trivial, fun b z => by simp [frs] at z, hok, AllBare.of_eq g0⟩
  refine codeAny_mono ((F _ KB (keepNs hns)).run callerA [] s₁ H ⟨[.ref a], []⟩ [.ref a] [.ref a] _ _ room rfl e0 (bd s₁ (.ref a)) (.cons rfl .nil) q) fun res s2 hres => ?_
  match res, hres with
  | .error e, hres => exact (hcx e s2 hres).elim
  | .ok .next, hres => exact hres.elim
  | .ok .brk, hres => exact hres.elim
  | .ok .cont, hres => exact hres.elim
  | .ok (.ret u), ⟨v, H', os, bare, un, hok', rv, qv⟩ =>
    cases qv
    cases rv
    refine ⟨rfl, OldK.of_keep fun b o e => ?_, os, bare⟩
    cases z : H b with
    | none => exact un.keep b o e z (by simp [frs]) (by simp)
    | some u =>
      rcases hO b with y | ⟨ob, xs, y⟩
      · rw [z] at y; cases y
      · have y2 := un.frzs b ob _ y
        obtain ⟨e1, _⟩ := hok b _ y
        obtain ⟨e2, _⟩ := hok' b _ y2
        rw [e] at e1
        cases e1
        exact e2
theorem lawG (KX : K.In s₁.heap) (hns : s₁.heap.Ns mainGlobals mg) (hb : s₁.heap.Ns builtinsNs mb) (hbb : ∀ x : Str, x ≠ "__name__" → mb x = bootBuiltins x) (lim : s₁.heap.NoLimit) (g0 : s₁.gens = #[])
    (sc : s₁.heap.get? a = some { cls := .type "list", data := .seq vs.toArray }) (hi : IntsAre vs ns) (hl : ns.length ≤ sizeLine) (room : Room k callerA) (F : ∀ base : Heap, K.In base → base.Ns mainGlobals mg → FnG P w K mg base CX k fa fd [x] sp) (bd : ∀ (s : Shared) (u : Value), BindsTo s fd ⟨[u], []⟩ [(x, u)])
    (q : ∀ H : Hp, Only H → SqL K H a (ns.map V.int) → sp [.ref a] H (fun v _ => v = .bl true) fun _ _ _ => False) (hcx : ∀ H e s', CX [] H s₁ (fun _ _ _ => False) e s' → False) :
    codeAny (model P w) callerA (.call (.ref fa) ⟨[.ref a], []⟩) (fun r s' => r = .ok (.ret (.bool true)) ∧ OldK s₁.heap s'.heap ∧ s'.os = s₁.os ∧ AllBare s'.gens) s₁ := by
  have rv := vals_ints hi
  cases hk : K.lookup a with
  | some o =>
    have e := KX a o hk
    rw [sc] at e
    cases e
    have hO : Only (fun _ => none) := fun _ => .inl rfl
    have hS : SqL K (fun _ => none) a (ns.map V.int) := .inr ⟨_, vs.toArray, _, hk, rfl, rfl, rfl, by rw [List.size_toArray, ← rv.length, List.length_map]; exact hl, by simpa using rv⟩
    exact lawG_at KX hns hb hbb lim g0 sc room F bd (q _ hO hS) (hcx _) hO (fun b u z => nomatch (show (none : Option HO) = some u from z)) (fun b u z => nomatch (show (none : Option HO) = some u from z)) fun u z => nomatch (show (none : Option HO) = some u from z)
  | none =>
    let o : Obj := { cls := .type "list", data := .seq vs.toArray }
    let H : Hp := fun b => if b = a then some (.frz o (.lst (ns.map V.int))) else none
    have Ha : H a = some (.frz o (.lst (ns.map V.int))) := if_pos rfl
    have Hb : ∀ b u, H b = some u → b = a := fun b u z => Classical.byContradiction fun n => by
      have z2 : (none : Option HO) = some u := (if_neg n).symm.trans z
      cases z2
    have hO : Only H := fun b => by
      by_cases n : b = a
      · exact .inr ⟨_, _, if_pos n⟩
      · exact .inl (if_neg n)
    refine lawG_at KX hns hb hbb lim g0 sc room F bd (q H hO (.inl (.inr ⟨o, Ha⟩))) (hcx H) hO (fun b u z => ?_) Hb fun _ _ => hk
    have eb := Hb b u z
    subst eb
    rw [Ha] at z
    cases z
    exact ⟨sc, by rw [List.length_map]; exact hl, vs, _, rv, sc⟩
end
theorem walkG {l : PySem.W.OpenLaw} {n k : Nat} {q : Program} {loose : List Str} {XP : (Str → Option Value) → Heap → Prop} {YP : World → Heap → Prop} {d : DefRec} {CX : World → CXT} {x : Str}
    (hn : l.most = some n) (hn2 : n ≤ sizeLine) (hdf : d.params.defaults = []) (room : Room k callerA)
    (F : ∀ (w : World) (mg : Str → Option Value) (fa : Addr) (h : Heap), YP w h → h.Ns mainGlobals mg → mg d.name = some (.ref fa) →
      ∃ (K : Frag) (fd : FuncData) (sp : Sp), K.In h ∧ (∀ (s : Shared) (u : Value), BindsTo s fd ⟨[u], []⟩ [(x, u)]) ∧
        (∀ (H : Hp) (a : Addr) (ns : List Int), ns.length ≤ n → Only H → SqL K H a (ns.map V.int) → sp [.ref a] H (fun v _ => v = .bl true) fun _ _ _ => False) ∧
        ∀ base : Heap, K.In base → base.Ns mainGlobals mg → FnG l.prog w K mg base (CX w) k fa fd [x] sp)
    (hCX : ∀ (w : World) (H : Hp) (s : Shared) (e : Value) (s' : Shared), CX w [] H s (fun _ _ _ => False) e s' → False) :
    PySem.W.WalkO q loose XP YP l.row.toRowW d [] (fun f vs => PySem.call f vs) := by
  refine Att.attach_call hn hdf fun w s₀ s₁ mg mb fa o pm cd doc a vs ns G Y ho hd hcd hmg hobj hints hlen hg => ?_
  obtain ⟨K, fd, sp, KX, hb, hsp, hF⟩ := F w mg fa _ Y G.T.g hmg
  exact lawG KX G.T.g G.T.b G.T.builtins G.T.nolimit hg hobj hints (Nat.le_trans hlen hn2) room hF hb (fun H hO hS => hsp H a ns hlen hO hS) fun H e s' => hCX w H s₁ e s'
end DL

set_option Elab.async false
set_option linter.all false
set_option maxRecDepth 100000
set_option maxHeartbeats 2000000
namespace DL
open PySem PySem.Spec PyProof.Rows L2

/-! ### promises over data -/
abbrev noX : XD := fun _ _ _ _ => False
abbrev SpD := List D → Ga → QD → XD → Prop
def Wv0 (K : Frag) (α : Al) (H : Hp) (Q : QD) (q : VK) : Prop := ∀ v H' α' d γ', Q d γ' → Ext α H α' H' → GaOk K H' α' γ' → Rp K H' α' v d → q v H'
theorem Wv.to0 {K : KX} {α : Al} {H : Hp} {Q : QD} {q : VK} (w : Wv K α H Q q) (x : Exc K α H) : Wv0 K.f α H Q q := fun v H' α' d γ' h e g r => w v H' α' d γ' h e ⟨g, x.mono g e⟩ r
def Xv (K : Frag) (α : Al) (H : Hp) (e : XD) (E : XK) : Prop :=
  ∀ C dd fs ds γ' α' H', e C (fs.map (·.1)) ds γ' → Ext α H α' H' → GaOk K H' α' γ' → H' dd = some (.xd fs) → dd ∉ α' → RpL K H' α' (fs.map (·.2)) ds → E (.ref C) (some dd) H'
def toSp (K : Frag) (s : SpD) : Sp := fun vs H Q E => ∃ α ds γ q e, RpL K H α vs ds ∧ GaOk K H α γ ∧ s ds γ q e ∧ Wv0 K α H q Q ∧ Xv K α H e E
theorem xv_no {K : Frag} {α : Al} {H : Hp} {E : XK} : Xv K α H noX E := fun _ _ _ _ _ _ _ h => h.elim
section
variable {K : KX} {n : Nat} {ρ : Env} {γ : Ga} {Q : QD} {s : SpD} {E : XK} {t : TA} {ta : TE} {C : Addr} {m : Str}
theorem Exc.xv {K : KX} {α : Al} {H : Hp} {σ : L2.St} {ρ : Env} (x : Exc K α H) (r : RpE K.f H α σ ρ) : Xv K.f α H (K.e ρ) (WE K.E σ) :=
  fun C dd fs ds γ' α' H' he e g hd nd rl => x σ ρ C dd fs ds γ' α' H' he (r.mono e) e g hd nd rl
theorem de_call (h : dA K t ρ γ fun ds γ1 => s ds γ1 Q (K.e ρ)) : dE K (tCallW (toSp K.f s) (WE K.E) t) ρ γ Q := fun σ H α q r g w =>
  h σ H α _ r g fun vs H1 α1 ds γ1 h1 e1 g1 r1 => by
    rw [List.append_nil]
    exact ⟨α1, ds, γ1, Q, K.e ρ, r1, g1.toGaOk, h1, (w.mono e1).to0 g1.exc, g1.exc.xv (r.mono e1)⟩
/-- r stands for an instance of the class at C with these fields -/
def InsAt (r : D) (γ : Ga) (C : Addr) (ns : List Str) (vs : List D) : Prop := (∃ k, r = .loc k ∧ γ[k]? = some (.ins C ns vs)) ∨ r = .ins C ns vs
theorem insAt_rp {H : Hp} {α : Al} {v : V} {r : D} {ns : List Str} {vs : List D} (i : InsAt r γ C ns vs) (g : GaX K H α γ) (rv : Rp K H α v r) :
    ∃ a dx fs, v = .ref a ∧ H a = some (.ins C dx fs) ∧ fs.map (·.1) = ns ∧ RpL K H α (fs.map (·.2)) vs := by
  rcases i with ⟨k, rfl, hk⟩ | rfl
  · cases rv with
    | loc ha =>
      obtain ⟨dx, fs, h1, h2, h3⟩ := g.at_ k _ _ ha hk
      exact ⟨_, dx, fs, rfl, h1, h2, h3⟩
  · cases rv with
    | ins h1 h2 h3 => exact ⟨_, _, _, rfl, h2, rfl, h3⟩
theorem lookup_none {fs : List (Str × V)} {m : Str} (h : (fs.map (·.1)).contains m = false) : fs.lookup m = none := by
  induction fs with
  | nil => rfl
  | cons p r ih =>
    obtain ⟨a, b⟩ := p
    simp only [List.map_cons, List.contains_cons, Bool.or_eq_false_iff] at h
    rw [List.lookup_cons, h.1]
    exact ih h.2
theorem de_meth (h : dE K ta ρ γ fun r γ1 => (∃ ns vs, InsAt r γ1 C ns vs ∧ ns.contains m = false) ∧ dA K t ρ γ1 fun ds γ2 => s (r :: ds) γ2 Q (K.e ρ)) : dE K (tMethW C m (toSp K.f s) (WE K.E) ta t) ρ γ Q := fun σ H α q r g w =>
  h σ H α _ r g fun v H1 α1 d γ1 ⟨⟨ns, vs, i, hm⟩, h1⟩ e1 g1 r1 => by
    obtain ⟨a, dx, fs, rfl, ha, hn, hv⟩ := insAt_rp i g1 r1
    refine ⟨a, dx, fs, rfl, ha, lookup_none (by rw [hn]; exact hm), h1 σ H1 α1 _ (r.mono e1) g1 fun us H2 α2 ds γ2 h2 e2 g2 r2 => ?_⟩
    rw [List.append_nil]
    exact ⟨α2, d :: ds, γ2, Q, K.e ρ, .cons (Rp.mono e2 _ _ r1) r2, g2.toGaOk, h2, (w.mono (e1.trans e2)).to0 g2.exc, g2.exc.xv ((r.mono e1).mono e2)⟩
/-- a new instance -/
theorem de_make (h : dA K t ρ γ fun ds γ1 => s (.loc γ1.length :: ds) (γ1 ++ [.ins C [] []]) (fun d γ2 => d = .non ∧ Q (.loc γ1.length) γ2) (K.e ρ)) : dE K (tMakeW C (toSp K.f s) (WE K.E) t) ρ γ Q := fun σ H α q r g w =>
  h σ H α _ r g fun us H1 α1 ds γ1 h1 e1 g1 r1 => fun x dx hx hdx hne => by
    rw [List.append_nil]
    have ea := ext_imm g1 (o := .own x) hdx
    have ga := ga_imm g1 (o := .own x) hdx
    have hx' : upd H1 dx (.own x) x = none := by rw [upd_ne (Ne.symm hne)]; exact hx
    have eb := ext_loc ga (o := .ins C dx []) hx'
    have gb := ga_loc ga (o := .ins C dx []) (m := .ins C [] []) hx' ⟨dx, [], upd_same, rfl, .nil⟩
    have hl : (α1.push x).h[γ1.length]? = some x := by show (α1.h ++ [x])[γ1.length]? = _; rw [← g1.len]; simp
    refine ⟨α1.push x, _, _, _, K.e ρ, .cons (.loc hl) (RpL.mono (ea.trans eb) _ _ r1), gb.toGaOk, h1, ?_, gb.exc.xv (((r.mono e1).mono ea).mono eb)⟩
    rintro v H2 α2 d γ2 ⟨rfl, hq⟩ e2 g2 r2
    cases r2
    exact ⟨rfl, w (.ref x) H2 α2 _ γ2 hq (((e1.trans ea).trans eb).trans e2) (gb.go g2 e2) (.loc (e2.get hl))⟩
/-! ### fields -/
def fix (ns : List Str) (f : Str) : Option Nat := ns.findIdx? (· == f)
theorem lookup_fix : ∀ {fs : List (Str × V)} {f : Str} {j : Nat}, fix (fs.map (·.1)) f = some j → ∃ v, fs.lookup f = some v ∧ (fs.map (·.2))[j]? = some v := by
  intro fs
  induction fs with
  | nil => intro f j h; cases h
  | cons p r ih =>
    intro f j h
    obtain ⟨a, b⟩ := p
    unfold fix at h
    rw [List.map_cons, List.findIdx?_cons] at h
    by_cases hc : (a == f) = true
    · rw [if_pos hc] at h
      cases h
      refine ⟨b, ?_, rfl⟩
      rw [List.lookup_cons, show (f == a) = true by rw [beq_iff_eq] at hc ⊢; exact hc.symm]
    · rw [if_neg hc] at h
      cases q : (r.map (·.1)).findIdx? (· == f) with
      | none => rw [q] at h; cases h
      | some i =>
        rw [q] at h
        cases h
        obtain ⟨v, h1, h2⟩ := ih (f := f) (j := i) q
        refine ⟨v, ?_, h2⟩
        rw [List.lookup_cons, show (f == a) = false by
          cases z : (f == a) with
          | false => rfl
          | true => exact absurd (by rw [beq_iff_eq] at z ⊢; exact z.symm) hc]
        exact h1
theorem de_fld {f : Str} (cl : Cls K C) (na : NoAttr K C f) (h : dE K ta ρ γ fun r γ1 => ∃ ns vs j d, InsAt r γ1 C ns vs ∧ fix ns f = some j ∧ vs[j]? = some d ∧ Q d γ1) : dE K (tFld K ta f) ρ γ Q := fun σ H α q r g w =>
  h σ H α _ r g fun v H1 α1 d γ1 ⟨ns, vs, j, x, i, hj, hx, hq⟩ e1 g1 r1 => by
    obtain ⟨a, dx, fs, rfl, ha, hn, hv⟩ := insAt_rp i g1 r1
    subst hn
    obtain ⟨u, h1, h2⟩ := lookup_fix hj
    obtain ⟨u', h3, h4⟩ := hv.get hx
    rw [h2] at h3
    cases h3
    exact ⟨a, C, dx, fs, u, rfl, ha, cl, na, h1, w u H1 α1 x γ1 hq e1 g1 h4⟩
theorem putF_new : ∀ {fs : List (Str × V)} {f : Str} {v : V}, fix (fs.map (·.1)) f = none → putF f v fs = fs ++ [(f, v)] := by
  intro fs
  induction fs with
  | nil => intro f v h; rfl
  | cons p r ih =>
    intro f v h
    obtain ⟨a, b⟩ := p
    unfold fix at h
    rw [List.map_cons, List.findIdx?_cons] at h
    by_cases hc : (a == f) = true
    · rw [if_pos hc] at h; cases h
    · rw [if_neg hc] at h
      have hn : ¬ a = f := fun e => hc (by rw [beq_iff_eq]; exact e)
      show (if a = f then _ else (a, b) :: putF f v r) = _
      rw [if_neg hn, ih]
      · rfl
      · unfold fix
        cases q : (r.map (·.1)).findIdx? (· == f) with
        | none => rfl
        | some i => rw [q] at h; cases h
theorem putF_old : ∀ {fs : List (Str × V)} {f : Str} {v : V} {j : Nat}, fix (fs.map (·.1)) f = some j → (putF f v fs).map (·.1) = fs.map (·.1) ∧ (putF f v fs).map (·.2) = (fs.map (·.2)).set j v := by
  intro fs
  induction fs with
  | nil => intro f v j h; cases h
  | cons p r ih =>
    intro f v j h
    obtain ⟨a, b⟩ := p
    unfold fix at h
    rw [List.map_cons, List.findIdx?_cons] at h
    by_cases hc : (a == f) = true
    · rw [if_pos hc] at h
      cases h
      have hn : a = f := by rw [beq_iff_eq] at hc; exact hc
      show ((if a = f then (a, v) :: r else (a, b) :: putF f v r).map (·.1)) = _ ∧ ((if a = f then (a, v) :: r else (a, b) :: putF f v r).map (·.2)) = _
      rw [if_pos hn]
      exact ⟨rfl, rfl⟩
    · rw [if_neg hc] at h
      have hn : ¬ a = f := fun e => hc (by rw [beq_iff_eq]; exact e)
      cases q : (r.map (·.1)).findIdx? (· == f) with
      | none => rw [q] at h; cases h
      | some i =>
        rw [q] at h
        cases h
        obtain ⟨h1, h2⟩ := ih (f := f) (v := v) (j := i) q
        show ((if a = f then (a, v) :: r else (a, b) :: putF f v r).map (·.1)) = _ ∧ ((if a = f then (a, v) :: r else (a, b) :: putF f v r).map (·.2)) = _
        rw [if_neg hn]
        refine ⟨?_, ?_⟩
        · show a :: (putF f v r).map (·.1) = _
          rw [h1]
          rfl
        · show b :: (putF f v r).map (·.2) = _
          rw [h2]
          rfl
/-- r.f = d, r the k-th mutable object -/
def stored (ns : List Str) (vs : List D) (f : Str) (d : D) : List Str × List D := match fix ns f with
  | some j => (ns, vs.set j d)
  | none => (ns ++ [f], vs ++ [d])
theorem ds_fld {B : DEnds} {tv : TE} {f : Str} (h : dE K tv ρ γ fun d γ1 => dE K ta ρ γ1 fun r γ2 => ∃ k C ns vs, r = .loc k ∧ γ2[k]? = some (.ins C ns vs) ∧ Cls K C ∧ NoAttr K C f ∧ vs.length < 1000 ∧
      B.nx ρ (γ2.set k (.ins C (stored ns vs f d).1 (stored ns vs f d).2))) : dS K n (sFld K ta tv f) ρ γ B := fun σ H α α0 H0 Dn hn e r g fe =>
  h σ H α _ r g fun v H1 α1 d γ1 h1 e1 g1 r1 => h1 σ H1 α1 _ (r.mono e1) g1 fun u H2 α2 ro γ2 ⟨k, C, ns, vs, er, hk, cl, na, hl, hq⟩ e2 g2 r2 => by
    subst er
    cases r2 with
    | @loc _ a ha =>
      obtain ⟨dx, fs, h1, h2, h3⟩ := g2.at_ k _ _ ha hk
      subst h2
      have rd := Rp.mono e2 _ _ r1
      have ex := ext_set g2 (o := .ins C dx (putF f v fs)) (List.mem_of_getElem? ha)
      refine ⟨a, C, dx, fs, rfl, h1, cl, na, by rw [← List.length_map (f := (·.2)), h3.length]; exact hl, fe.nx σ _ α2 ρ _ hq (((e.trans e1).trans e2).trans ex) (ga_set g2 ha ?_) (((r.mono e1).mono e2).mono ex)⟩
      unfold stored
      cases q : fix (fs.map (·.1)) f with
      | none =>
        have q1 : (putF f v fs).map (·.1) = fs.map (·.1) ++ [f] := by rw [putF_new q]; simp
        have q2 : (putF f v fs).map (·.2) = fs.map (·.2) ++ [v] := by rw [putF_new q]; simp
        refine ⟨dx, _, upd_same, q1, ?_⟩
        · rw [q2]
          exact (RpL.mono ex _ _ h3).append (.cons (Rp.mono ex _ _ rd) .nil)
      | some j =>
        obtain ⟨q1, q2⟩ := putF_old (v := v) q
        refine ⟨dx, _, upd_same, q1, ?_⟩
        rw [q2]
        exact (RpL.mono ex _ _ h3).set (Rp.mono ex _ _ rd) j
/-! ### xs[i] = e -/
theorem dg_setL {N : Env → Ga → Prop} {to ti : TE} {d : D} (h : dE K to ρ γ fun o γ1 => dE K ti ρ γ1 fun i γ2 => ∃ k xs z j, o = .loc k ∧ γ2[k]? = some (.lst xs) ∧ i = .int z ∧ ixN xs.length z = some j ∧ N ρ (γ2.set k (.lst (xs.set j d)))) :
    dG K (gSub to ti rSetL) d ρ γ [] N := fun σ H α v q r g rv w =>
  h σ H α _ r g fun vo H1 α1 o γ1 h1 e1 g1 r1 => h1 σ H1 α1 _ (r.mono e1) g1 fun vi H2 α2 i γ2 ⟨k, xs, z, j, eo, hk, ei, hj, hN⟩ e2 g2 r2 => by
    subst eo ei
    cases r2
    cases Rp.mono e2 _ _ r1 with
    | @loc _ a ha =>
      obtain ⟨us, h1, h3⟩ := g2.at_ k _ _ ha hk
      have rd := Rp.mono (e1.trans e2) _ _ rv
      have ex := ext_set g2 (o := .lst (us.set j v)) (List.mem_of_getElem? ha)
      refine ⟨a, us, z, j, rfl, rfl, h1, by rw [h3.length]; exact hj, w σ _ α2 ρ _ hN ⟨rfl, fun _ _ => rfl⟩ ((e1.trans e2).trans ex) (ga_set g2 ha ⟨_, upd_same, (RpL.mono ex _ _ h3).set (Rp.mono ex _ _ rd) j⟩) ((r.mono (e1.trans e2)).mono ex)⟩
end
end DL

set_option Elab.async false
set_option linter.all false
set_option maxRecDepth 100000
set_option maxHeartbeats 2000000
namespace DL
open PySem PySem.Spec PyProof.Rows L2

/-! ### data as the library's -/
mutual
def D.py : D → PyData
  | .bl b => .bool b
  | .int i => .int i
  | .str x => .str x
  | .tup ds => .tuple (pyL ds)
  | .lst ds => .list (pyL ds)
  | _ => .none
def pyL : List D → List PyData
  | [] => []
  | d :: ds => d.py :: pyL ds
end
mutual
/-- none but None, bools, ints, texts, tuples, lists -/
def D.pl : D → Bool
  | .non => true
  | .bl _ => true
  | .int _ => true
  | .str _ => true
  | .tup ds => plL ds
  | .lst ds => plL ds
  | _ => false
def plL : List D → Bool
  | [] => true
  | d :: ds => d.pl && plL ds
end
section
variable {K : KX} {H : Hp} {α : Al} {γ : Ga}
mutual
theorem Rp.dp : ∀ (d : D) (v : V), Rp K H α v d → d.pl = true → Dp K H v d.py
  | .non, _, h, _ => by cases h; exact .non
  | .bl b, _, h, _ => by cases h; exact .bl b
  | .int i, _, h, _ => by cases h; exact .int i
  | .str x, _, h, _ => by cases h; exact .str x
  | .tup ds, _, h, p => by
    cases h with
    | tup h1 h2 => exact .tup h1.sq (RpL.dp ds _ h2 (by simpa [D.pl] using p))
  | .lst ds, _, h, p => by
    cases h with
    | lst h1 h2 h3 => exact .lst (SqL.of h2) (RpL.dp ds _ h3 (by simpa [D.pl] using p))
  | .ty _, _, _, p => by simp [D.pl] at p
  | .ref _, _, _, p => by simp [D.pl] at p
  | .loc _, _, _, p => by simp [D.pl] at p
  | .ins _ _ _, _, _, p => by simp [D.pl] at p
  | .dic _ _, _, _, p => by simp [D.pl] at p
  | .dit _ _, _, _, p => by simp [D.pl] at p
  | .exc _ _ _ _ _, _, _, p => by simp [D.pl] at p
  | .cst _, _, _, p => by simp [D.pl] at p
  | .exv _ _ _, _, _, p => by simp [D.pl] at p
theorem RpL.dp : ∀ (ds : List D) (vs : List V), RpL K H α vs ds → plL ds = true → DpAll K H vs (pyL ds)
  | [], _, h, _ => by cases h; exact .nil
  | d :: ds, _, h, p => by
    cases h with
    | cons h1 h2 =>
      have p' : d.pl = true ∧ plL ds = true := by simpa [plL] using p
      exact .cons (Rp.dp d _ h1 p'.1) (RpL.dp ds _ h2 p'.2)
end
/-- a mutable list is read as it stands -/
def vw (γ : Ga) : D → D
  | .loc k => match γ[k]? with
    | some (.lst xs) => .lst xs
    | _ => .loc k
  | d => d
theorem Rp.dpv (g : GaX K H α γ) {d : D} {v : V} (r : Rp K H α v d) (p : (vw γ d).pl = true) : Dp K H v (vw γ d).py := by
  cases d with
  | loc k =>
    cases r with
    | @loc _ a ha =>
      cases q : γ[k]? with
      | none => simp [vw, q, D.pl] at p
      | some m =>
        cases m with
        | lst xs =>
          obtain ⟨us, h1, h2⟩ := g.at_ k _ _ ha q
          have p' : plL xs = true := by simpa [vw, q, D.pl] using p
          have e : vw γ (.loc k) = .lst xs := by simp [vw, q]
          rw [e]
          exact .lst (SqL.of h1) (RpL.dp xs _ h2 p')
        | _ => simp [vw, q, D.pl] at p
  | _ => exact Rp.dp _ _ r p
end
/-! ### comparisons -/
def rEqM (K : Frag) : R2 := fun x y H Q => ∃ d e, Dp K H x d ∧ Dp K H y e ∧ d.canLay0 = true ∧ e.canLay0 = true ∧ (d.depth ≤ 64 ∨ e.depth ≤ 64) ∧ Q (.bl (PyData.eqv d e)) H
def rNeM (K : Frag) : R2 := fun x y H Q => ∃ d e, Dp K H x d ∧ Dp K H y e ∧ d.canLay0 = true ∧ e.canLay0 = true ∧ (d.depth ≤ 64 ∨ e.depth ≤ 64) ∧ Q (.bl (!PyData.eqv d e)) H
theorem min64 {A : Around} {d e : PyData} (h : d.depth ≤ 64 ∨ e.depth ≤ 64) (hu : A.units + 64 < cLine) : A.units + min d.depth e.depth < cLine := by
  have h1 : min d.depth e.depth ≤ d.depth := Nat.min_le_left _ _
  have h2 : min d.depth e.depth ≤ e.depth := Nat.min_le_right _ _
  omega
theorem op_eqM {X : Cx} (hu : X.A.units + 64 < cLine) : OpR X (compareOp .Eq) (rEqM X.K) := by
  intro pins s σ H x y v u Q I rx ry h
  obtain ⟨d, e, hd, he, sd, se, hm, q⟩ := h
  obtain ⟨as, r1⟩ := Dp.reads I d x v hd rx
  obtain ⟨bs, r2⟩ := Dp.reads I e y u he ry
  exact SeqAt.compareEq_reads r1 r2 sd se (min64 hm hu) ⟨.bl _, H, I, rfl, q⟩
theorem op_neM {X : Cx} (hu : X.A.units + 64 < cLine) : OpR X (compareOp .NotEq) (rNeM X.K) := by
  intro pins s σ H x y v u Q I rx ry h
  obtain ⟨d, e, hd, he, sd, se, hm, q⟩ := h
  obtain ⟨as, r1⟩ := Dp.reads I d x v hd rx
  obtain ⟨bs, r2⟩ := Dp.reads I e y u he ry
  exact SeqAt.compareNe_reads r1 r2 sd se (min64 hm hu) ⟨.bl _, H, I, rfl, q⟩
def rEqG (K : Frag) : R2 := fun x y H Q => rEq x y H Q ∨ rEqM K x y H Q
def rNeG (K : Frag) : R2 := fun x y H Q => rNe x y H Q ∨ rNeM K x y H Q
theorem op_eqG {X : Cx} (hu : X.A.units + 64 < cLine) : OpR X (compareOp .Eq) (rEqG X.K) := op_eq.or (op_eqM hu)
theorem op_neG {X : Cx} (hu : X.A.units + 64 < cLine) : OpR X (compareOp .NotEq) (rNeG X.K) := op_ne.or (op_neM hu)
section
variable {K : KX} {γ : Ga} {Q : QD}
theorem req_int {i j : Int} (q : Q (.bl (decide (i = j))) γ) : dR2 K (rEqG K) (.int i) (.int j) γ Q := fun H α v w k g r1 r2 wv => by
  cases r1; cases r2
  refine .inl ⟨rfl, ?_⟩
  have e : decide (V.int i = V.int j) = decide (i = j) := by simp
  rw [e]
  exact wv _ H α _ γ q g.refl g (.bl _)
theorem req_str {i j : Str} (q : Q (.bl (decide (i = j))) γ) : dR2 K (rEqG K) (.str i) (.str j) γ Q := fun H α v w k g r1 r2 wv => by
  cases r1; cases r2
  refine .inl ⟨rfl, ?_⟩
  have e : decide (V.str i = V.str j) = decide (i = j) := by simp
  rw [e]
  exact wv _ H α _ γ q g.refl g (.bl _)
theorem req_bl {i j : Bool} (q : Q (.bl (decide (i = j))) γ) : dR2 K (rEqG K) (.bl i) (.bl j) γ Q := fun H α v w k g r1 r2 wv => by
  cases r1; cases r2
  refine .inl ⟨rfl, ?_⟩
  have e : decide (V.bl i = V.bl j) = decide (i = j) := by simp
  rw [e]
  exact wv _ H α _ γ q g.refl g (.bl _)
theorem req_D {x y : D} (p1 : (vw γ x).pl = true) (p2 : (vw γ y).pl = true) (s1 : SeqAt.shaped (vw γ x).py = true) (s2 : SeqAt.shaped (vw γ y).py = true) (q : Q (.bl (PyData.eqv (vw γ x).py (vw γ y).py)) γ) : dR2 K (rEqG K) x y γ Q := fun H α v w k g r1 r2 wv =>
  .inr ⟨_, _, r1.dpv g p1, r2.dpv g p2, SeqAt.canLay_of_shaped s1, SeqAt.canLay_of_shaped s2, .inl (SeqAt.depth_of_shaped s1), wv _ H α _ γ q g.refl g (.bl _)⟩
theorem req_M {x y : D} (p1 : (vw γ x).pl = true) (p2 : (vw γ y).pl = true) (s1 : (vw γ x).py.canLay0 = true) (s2 : (vw γ y).py.canLay0 = true) (hm : (vw γ x).py.depth ≤ 64 ∨ (vw γ y).py.depth ≤ 64) (q : Q (.bl (PyData.eqv (vw γ x).py (vw γ y).py)) γ) : dR2 K (rEqG K) x y γ Q := fun H α v w k g r1 r2 wv =>
  .inr ⟨_, _, r1.dpv g p1, r2.dpv g p2, s1, s2, hm, wv _ H α _ γ q g.refl g (.bl _)⟩
theorem rne_int {i j : Int} (q : Q (.bl (!decide (i = j))) γ) : dR2 K (rNeG K) (.int i) (.int j) γ Q := fun H α v w k g r1 r2 wv => by
  cases r1; cases r2
  refine .inl ⟨rfl, ?_⟩
  have e : decide (V.int i = V.int j) = decide (i = j) := by simp
  rw [e]
  exact wv _ H α _ γ q g.refl g (.bl _)
theorem rne_str {i j : Str} (q : Q (.bl (!decide (i = j))) γ) : dR2 K (rNeG K) (.str i) (.str j) γ Q := fun H α v w k g r1 r2 wv => by
  cases r1; cases r2
  refine .inl ⟨rfl, ?_⟩
  have e : decide (V.str i = V.str j) = decide (i = j) := by simp
  rw [e]
  exact wv _ H α _ γ q g.refl g (.bl _)
theorem rne_bl {i j : Bool} (q : Q (.bl (!decide (i = j))) γ) : dR2 K (rNeG K) (.bl i) (.bl j) γ Q := fun H α v w k g r1 r2 wv => by
  cases r1; cases r2
  refine .inl ⟨rfl, ?_⟩
  have e : decide (V.bl i = V.bl j) = decide (i = j) := by simp
  rw [e]
  exact wv _ H α _ γ q g.refl g (.bl _)
theorem rne_D {x y : D} (p1 : (vw γ x).pl = true) (p2 : (vw γ y).pl = true) (s1 : SeqAt.shaped (vw γ x).py = true) (s2 : SeqAt.shaped (vw γ y).py = true) (q : Q (.bl (!PyData.eqv (vw γ x).py (vw γ y).py)) γ) : dR2 K (rNeG K) x y γ Q := fun H α v w k g r1 r2 wv =>
  .inr ⟨_, _, r1.dpv g p1, r2.dpv g p2, SeqAt.canLay_of_shaped s1, SeqAt.canLay_of_shaped s2, .inl (SeqAt.depth_of_shaped s1), wv _ H α _ γ q g.refl g (.bl _)⟩
theorem ri0 {f : Int → Int → V} {i j : Int} {z : D} (hz : ∀ H α, Rp K H α (f i j) z) (q : Q z γ) : dR2 K (rI0 f) (.int i) (.int j) γ Q := fun H α v w k g r1 r2 wv => by
  cases r1; cases r2
  exact ⟨i, j, rfl, rfl, wv _ H α _ γ q g.refl g (hz H α)⟩
theorem ri {C : Int → Int → Prop} {f : Int → Int → V} {i j : Int} {z : D} (hz : ∀ H α, Rp K H α (f i j) z) (hc : C i j) (q : Q z γ) : dR2 K (rI C f) (.int i) (.int j) γ Q := fun H α v w k g r1 r2 wv => by
  cases r1; cases r2
  exact ⟨i, j, rfl, rfl, hc, wv _ H α _ γ q g.refl g (hz H α)⟩
end
/-! ### + -/
def rAddS : R2 := fun x y H Q => ∃ i j, x = .str i ∧ y = .str j ∧ i.length + j.length ≤ sizeLine ∧ Q (.str (i ++ j)) H
def rAddG (K : Frag) : R2 := fun x y H Q => rI0 (fun i j => .int (i + j)) x y H Q ∨ rAddS x y H Q ∨ rCat x y H Q ∨ rCatT K x y H Q
theorem op_addG {X : Cx} : OpR X (binaryOp .Add) (rAddG X.K) := op_add.or (op_add_str.or (op_cat.or op_catT))
theorem le24 {m : Nat} (h : m ≤ 1000000) : m ≤ sizeLine := Nat.le_trans h (by decide)
section
variable {K : KX} {γ : Ga} {Q : QD}
theorem radd_int {i j : Int} (q : Q (.int (i + j)) γ) : dR2 K (rAddG K) (.int i) (.int j) γ Q := fun H α v w k g r1 r2 wv =>
  .inl (ri0 (fun _ _ => .int _) q H α v w k g r1 r2 wv)
theorem radd_str {i j : Str} (hl : i.length + j.length ≤ 1000000) (q : Q (.str (i ++ j)) γ) : dR2 K (rAddG K) (.str i) (.str j) γ Q := fun H α v w k g r1 r2 wv => by
  cases r1; cases r2
  exact .inr (.inl ⟨i, j, rfl, rfl, le24 hl, wv _ H α _ γ q g.refl g (.str _)⟩)
theorem lst_vw {H : Hp} {α : Al} {v : V} {x : D} {xs : List D} (g : GaX K H α γ) (r : Rp K H α v x) (e : vw γ x = .lst xs) : ∃ a us, v = .ref a ∧ H a = some (.lst us) ∧ RpL K H α us xs := by
  cases r with
  | @loc k a ha =>
    cases q : γ[k]? with
    | none => simp [vw, q] at e
    | some m =>
      cases m with
      | lst ys =>
        simp [vw, q] at e
        subst e
        obtain ⟨us, h1, h2⟩ := g.at_ k _ _ ha q
        exact ⟨a, us, rfl, h1, h2⟩
      | _ => simp [vw, q] at e
  | lst h1 h2 h3 =>
    simp [vw] at e
    subst e
    exact ⟨_, _, rfl, h2, h3⟩
  | _ => simp [vw] at e
theorem radd_lst {x y : D} {xs ys : List D} (hx : vw γ x = .lst xs) (hy : vw γ y = .lst ys) (hl : xs.length + ys.length ≤ 1000000) (q : Q (.lst (xs ++ ys)) γ) : dR2 K (rAddG K) x y γ Q := fun H α v w k g r1 r2 wv => by
  obtain ⟨a, us, rfl, ha, ru⟩ := lst_vw g r1 hx
  obtain ⟨b, ws, rfl, hb, rw'⟩ := lst_vw g r2 hy
  refine .inr (.inr (.inl ⟨a, b, us, ws, rfl, rfl, ha, hb, by rw [ru.length, rw'.length]; exact le24 hl, fun p hp => ?_⟩))
  exact wv _ _ α _ γ q (ext_imm g hp) (ga_imm g hp) (.lst (g.new hp) upd_same (RpL.mono (ext_imm g hp) _ _ (ru.append rw')))
theorem radd_lstM {x y : D} {xs ys : List D} (hx : vw γ x = .lst xs) (hy : vw γ y = .lst ys) (hl : xs.length + ys.length ≤ 1000000) (q : Q (.loc γ.length) (γ ++ [.lst (xs ++ ys)])) : dR2 K (rAddG K) x y γ Q := fun H α v w k g r1 r2 wv => by
  obtain ⟨a, us, rfl, ha, ru⟩ := lst_vw g r1 hx
  obtain ⟨b, ws, rfl, hb, rw'⟩ := lst_vw g r2 hy
  refine .inr (.inr (.inl ⟨a, b, us, ws, rfl, rfl, ha, hb, by rw [ru.length, rw'.length]; exact le24 hl, fun p hp => ?_⟩))
  have ex := ext_loc g (o := .lst (us ++ ws)) hp
  exact wv _ _ (α.push p) _ _ q ex (ga_loc g hp ⟨_, upd_same, RpL.mono ex _ _ (ru.append rw')⟩) (.loc (by show (α.h ++ [p])[γ.length]? = _; rw [← g.len]; simp))
theorem radd_tup {xs ys : List D} (hl : xs.length + ys.length ≤ 1000000) (q : Q (.tup (xs ++ ys)) γ) (hx : xs ≠ []) : dR2 K (rAddG K) (.tup xs) (.tup ys) γ Q := fun H α v w k g r1 r2 wv => by
  cases r1 with
  | @tup a us _ h1 ru =>
    cases r2 with
    | @tup b ws _ h2 rw' =>
      have hne : us ≠ [] := fun e => hx (by subst e; have := ru.length; cases xs with | nil => rfl | cons _ _ => simp at this)
      refine .inr (.inr (.inr ⟨a, b, us, ws, rfl, rfl, h1.sq, h2.sq, hne, by rw [ru.length, rw'.length]; exact le24 hl, fun e => ?_, fun e p hp => ?_⟩))
      · subst e
        cases rw'
        rw [List.append_nil] at q
        exact wv _ H α _ γ q g.refl g (.tup h1 ru)
      · exact wv _ _ α _ γ q (ext_imm g hp) (ga_imm g hp) (.tup ⟨g.new hp, upd_same⟩ (RpL.mono (ext_imm g hp) _ _ (ru.append rw')))
end
end DL

set_option Elab.async false
set_option linter.all false
set_option maxRecDepth 100000
set_option maxHeartbeats 2000000
namespace DL
open PySem PySem.Spec PyProof.Rows L2

/-- a text by its code points -/
def S (l : List Nat) : Str := ⟨l.toArray⟩
theorem S_l (l : List Nat) : (S l).cps.toList = l := by simp [S]
theorem S_of (x : Str) : S x.cps.toList = x := by
  cases x; simp [S]
theorem S_len (l : List Nat) : (S l).length = l.length := by
  show l.toArray.size = l.length
  simp
theorem S_inj {a b : List Nat} : S a = S b ↔ a = b := ⟨fun h => by rw [← S_l a, h, S_l], fun h => by rw [h]⟩
theorem S_app (a b : List Nat) : S a ++ S b = S (a ++ b) := by
  show (⟨a.toArray ++ b.toArray⟩ : Str) = ⟨(a ++ b).toArray⟩
  simp
/-! ### * -/
def reps (n : Nat) (l : List Nat) : List Nat := (List.replicate n l).flatten
theorem foldl_app (ls : List (Array Nat)) : ∀ acc : Array Nat, (ls.foldl (· ++ ·) acc).toList = acc.toList ++ (ls.map (·.toList)).flatten := by
  induction ls with
  | nil => intro acc; simp
  | cons a r ih => intro acc; rw [List.foldl_cons, ih]; simp
theorem mul_S (l : List Nat) (n : Nat) : Txt.mul (S l) (n : Int) = S (reps n l) := by
  unfold Txt.mul
  by_cases h0 : n = 0
  · subst h0
    rw [if_pos (by omega)]
    rfl
  · rw [if_neg (by omega)]
    by_cases h1 : n = 1
    · subst h1
      rw [if_pos (by simp)]
      simp [reps]
    · by_cases hl : l = []
      · subst hl
        rw [if_pos (by simp [S, Str.length])]
        have : reps n [] = [] := by simp [reps]
        rw [this]
      · have hc : ((n : Int) == 1 || (S l).length == 0) = false := by
          rw [Bool.or_eq_false_iff]
          refine ⟨?_, ?_⟩
          · rw [beq_eq_false_iff_ne]; omega
          · rw [beq_eq_false_iff_ne, S_len]
            intro z
            exact hl (List.eq_nil_of_length_eq_zero z)
        rw [if_neg (by rw [hc]; exact Bool.false_ne_true)]
        have e : ((List.replicate (n : Int).toNat (S l).cps).foldl (· ++ ·) #[]).toList = reps n l := by
          rw [foldl_app]
          simp [reps, S]
        rw [← S_of ⟨_⟩]
        show S (_ : Array Nat).toList = _
        rw [e]
def rMulS : R2 := fun x y H Q => ∃ l n, x = .str (S l) ∧ y = .int (n : Nat) ∧ l.length * n ≤ 1000000 ∧ n ≤ 1000000 ∧ Q (.str (S (reps n l))) H
theorem op_mulS {X : Cx} : OpR X (binaryOp .Mult) rMulS := by
  intro pins s σ H x y v u Q I rx ry h
  obtain ⟨l, n, rfl, rfl, hl, hn, q⟩ := h
  obtain ⟨t, rfl⟩ := rx
  obtain ⟨t', rfl⟩ := ry
  refine SB.mul ⟨?_, fun h1 h2 => ?_, fun h1 h2 => ?_⟩ fun t2 k => ?_
  · rw [Bool.or_eq_false_iff, decide_eq_false_iff_not, decide_eq_false_iff_not]
    omega
  · intro h3
    have hp : (0 : Int) < (n : Int) := by omega
    have h4 : ((S l).length : Int) * n ≤ 1000000 := by
      rw [S_len]
      have h : ((l.length * n : Nat) : Int) ≤ ((1000000 : Nat) : Int) := Int.ofNat_le.mpr hl
      rw [Int.natCast_mul] at h
      exact h
    have h5 : (2 ^ 63 - 1 : Int) / n < (S l).length := h3
    have h6 := (Int.ediv_lt_iff_lt_mul hp).mp h5
    omega
  · have h7 : (S l).length * (n : Int).toNat = l.length * n := by rw [S_len, Int.toNat_natCast]
    rw [h7]
    exact decide_eq_false (Nat.not_lt.mpr (le24 hl))
  · rw [mul_S]
    exact ⟨.str _, H, ⟨I.tok k |>.ok, I.os, I.bare, I.base, I.loc, I.cell, I.free, I.freeC, I.pin, I.hok, I.len⟩, ⟨_, rfl⟩, q⟩
def rMulG (K : Frag) : R2 := fun x y H Q => rI CMul (fun i j => .int (i * j)) x y H Q ∨ rRep x y H Q ∨ rMulS x y H Q ∨ rI CMulW (fun i j => .int (i * j)) x y H Q
theorem op_mulG {X : Cx} : OpR X (binaryOp .Mult) (rMulG X.K) := op_mul.or (op_rep.or (op_mulS.or op_mulW))
section
variable {K : KX} {γ : Ga} {Q : QD}
theorem rmul_int {i j : Int} (hc : CMul i j) (q : Q (.int (i * j)) γ) : dR2 K (rMulG K) (.int i) (.int j) γ Q := fun H α v w k g r1 r2 wv =>
  .inl (ri (fun _ _ => .int _) hc q H α v w k g r1 r2 wv)
theorem rmul_str {l : List Nat} {n : Nat} (h1 : l.length * n ≤ 1000000) (h2 : n ≤ 1000000) (q : Q (.str (S (reps n l))) γ) : dR2 K (rMulG K) (.str (S l)) (.int (n : Int)) γ Q := fun H α v w k g r1 r2 wv => by
  cases r1; cases r2
  exact .inr (.inr (.inl ⟨l, n, rfl, rfl, h1, h2, wv _ H α _ γ q g.refl g (.str _)⟩))
theorem rmul_wide {i j : Int} (hc : CMulW i j) (q : Q (.int (i * j)) γ) : dR2 K (rMulG K) (.int i) (.int j) γ Q := fun H α v w k g r1 r2 wv =>
  .inr (.inr (.inr (ri (fun _ _ => .int _) hc q H α v w k g r1 r2 wv)))
theorem RpL.reps {H : Hp} {α : Al} {us : List V} {xs : List D} (r : RpL K H α us xs) : ∀ n : Nat, RpL K H α (List.replicate n us).flatten (List.replicate n xs).flatten
  | 0 => .nil
  | n + 1 => by
    rw [List.replicate_succ, List.replicate_succ, List.flatten_cons, List.flatten_cons]
    exact r.append (RpL.reps r n)
theorem rmul_lst {x : D} {xs : List D} {n : Nat} (hx : vw γ x = .lst xs) (h1 : xs.length * n ≤ 1000000) (h2 : n ≤ 1000000) (q : Q (.lst (List.replicate n xs).flatten) γ) : dR2 K (rMulG K) x (.int (n : Int)) γ Q := fun H α v w k g r1 r2 wv => by
  obtain ⟨a, us, rfl, ha, ru⟩ := lst_vw g r1 hx
  cases r2
  refine .inr (.inl ⟨a, n, us, rfl, rfl, ha, by omega, by omega, by rw [ru.length]; exact le24 (by simpa using h1), fun p hp => ?_⟩)
  have e : (n : Int).toNat = n := Int.toNat_natCast n
  rw [e]
  exact wv _ _ α _ γ q (ext_imm g hp) (ga_imm g hp) (.lst (g.new hp) upd_same (RpL.mono (ext_imm g hp) _ _ (ru.reps n)))
/-! ### the other operators of ints -/
def rSubD : R2 := rI0 fun i j => .int (i - j)
def CDivA (_ j : Int) : Prop := j ≠ 0 ∧ j.natAbs.log2 < 9000
theorem op_fdivA {X : Cx} : OpR X (binaryOp .FloorDiv) (rI CDivA fun i j => .int (i.fdiv j)) := opI fun _ _ _ _ _ _ _ hc q => floordiv_int hc.1 q (.inl (PyProof.noPylong_of_log2 hc.2))
def rFdiv : R2 := rI CDivA fun i j => .int (i.fdiv j)
def rMod : R2 := rI (fun _ j => j ≠ 0) fun i j => .int (i.fmod j)
def rPow : R2 := rI CPow fun i j => .int (i ^ j.toNat)
theorem rsub_int {i j : Int} (q : Q (.int (i - j)) γ) : dR2 K rSubD (.int i) (.int j) γ Q := ri0 (fun _ _ => .int _) q
theorem rfdiv_int {i j : Int} (hc : CDivN i j) (q : Q (.int (i.fdiv j)) γ) : dR2 K rFdiv (.int i) (.int j) γ Q := ri (fun _ _ => .int _) ⟨hc.1, by
  have h1 : j.natAbs ≠ 0 := by have := hc.1; omega
  have h2 : j.natAbs < 2 ^ 30 := hc.2
  have := (Nat.log2_lt h1).mpr h2
  omega⟩ q
theorem rfdiv_wide {i j : Int} (hc : CDivA i j) (q : Q (.int (i.fdiv j)) γ) : dR2 K rFdiv (.int i) (.int j) γ Q := ri (fun _ _ => .int _) hc q
theorem rmod_int {i j : Int} (hc : j ≠ 0) (q : Q (.int (i.fmod j)) γ) : dR2 K rMod (.int i) (.int j) γ Q := ri (fun _ _ => .int _) hc q
theorem rpow_int {i j : Int} (hc : CPow i j) (q : Q (.int (i ^ j.toNat)) γ) : dR2 K rPow (.int i) (.int j) γ Q := ri (fun _ _ => .int _) hc q
def rLtI : R2 := rI0 fun i j => .bl (decide (i < j))
def rLeI : R2 := rI0 fun i j => .bl (decide (i ≤ j))
def rGtI : R2 := rI0 fun i j => .bl (decide (j < i))
def rGeI : R2 := rI0 fun i j => .bl (decide (j ≤ i))
theorem rlt_int {i j : Int} (q : Q (.bl (decide (i < j))) γ) : dR2 K rLtI (.int i) (.int j) γ Q := ri0 (fun _ _ => .bl _) q
theorem rle_int {i j : Int} (q : Q (.bl (decide (i ≤ j))) γ) : dR2 K rLeI (.int i) (.int j) γ Q := ri0 (fun _ _ => .bl _) q
theorem rgt_int {i j : Int} (q : Q (.bl (decide (j < i))) γ) : dR2 K rGtI (.int i) (.int j) γ Q := ri0 (fun _ _ => .bl _) q
theorem rge_int {i j : Int} (q : Q (.bl (decide (j ≤ i))) γ) : dR2 K rGeI (.int i) (.int j) γ Q := ri0 (fun _ _ => .bl _) q
def rNeg : V → Hp → VK → Prop := rU fun i => .int (-i)
theorem rneg_int {i : Int} (q : Q (.int (-i)) γ) : dR1 K rNeg (.int i) γ Q := fun H α v k g r1 wv => by
  cases r1
  exact ⟨i, rfl, wv _ H α _ γ q g.refl g (.int _)⟩
/-- is None, is not None -/
def rIsN' : R2 := fun x y H Q => y = .non ∧ Q (.bl (decide (x = .non))) H
def rNotN' : R2 := fun x y H Q => y = .non ∧ Q (.bl (!decide (x = .non))) H
def D.isNon : D → Bool
  | .non => true
  | _ => false
theorem isNon_rp {H : Hp} {α : Al} {v : V} {d : D} (r : Rp K H α v d) : decide (v = .non) = d.isNon := by
  cases r <;> rfl
theorem risn {d : D} (q : Q (.bl d.isNon) γ) : dR2 K rIsN' d .non γ Q := fun H α v w k g r1 r2 wv => by
  cases r2
  refine ⟨rfl, ?_⟩
  rw [isNon_rp r1]
  exact wv _ H α _ γ q g.refl g (.bl _)
theorem rnotn {d : D} (q : Q (.bl (!d.isNon)) γ) : dR2 K rNotN' d .non γ Q := fun H α v w k g r1 r2 wv => by
  cases r2
  refine ⟨rfl, ?_⟩
  rw [isNon_rp r1]
  exact wv _ H α _ γ q g.refl g (.bl _)
/-! ### subscripts -/
theorem rix_lst {x : D} {xs : List D} {z : Int} {d : D} (hx : vw γ x = .lst xs) (ha : atI xs z = some d) (q : Q d γ) : dR2 K (rIx K) x (.int z) γ Q := fun H α v w k g r1 r2 wv => by
  obtain ⟨a, us, rfl, h1, ru⟩ := lst_vw g r1 hx
  cases r2
  obtain ⟨j, hj, hd⟩ := Option.bind_eq_some_iff.mp ha
  obtain ⟨u, hu, rd⟩ := ru.get hd
  exact .inl ⟨a, us, z, u, rfl, rfl, SqL.of h1, by unfold atI; rw [ru.length, hj]; exact hu, wv _ H α _ γ q g.refl g rd⟩
theorem rix_tup {xs : List D} {z : Int} {d : D} (ha : atI xs z = some d) (q : Q d γ) : dR2 K (rIx K) (.tup xs) (.int z) γ Q := fun H α v w k g r1 r2 wv => by
  cases r1 with
  | tup h1 ru =>
    cases r2
    obtain ⟨j, hj, hd⟩ := Option.bind_eq_some_iff.mp ha
    obtain ⟨u, hu, rd⟩ := ru.get hd
    exact .inr (.inl ⟨_, _, z, u, rfl, rfl, h1.sq, by unfold atI; rw [ru.length, hj]; exact hu, wv _ H α _ γ q g.refl g rd⟩)
theorem rix_str {l : List Nat} {z : Int} {c : Nat} (hl : l.length ≤ 1000000) (ha : atI l z = some c) (q : Q (.str (S [c])) γ) : dR2 K (rIx K) (.str (S l)) (.int z) γ Q := fun H α v w k g r1 r2 wv => by
  cases r1; cases r2
  exact .inr (.inr ⟨S l, z, c, rfl, rfl, by rw [S_len]; exact le24 hl, by rw [S_l]; exact ha, wv _ H α _ γ q g.refl g (.str _)⟩)
/-! ### slices -/
def rSlG (K : Frag) : V → Option Int → Option Int → Hp → VK → Prop := fun x lo hi H Q => rSlL K x lo hi H Q ∨ rSlT K x lo hi H Q ∨ rSlS x lo hi H Q
theorem sl_G {X : Cx} : SlR X (rSlG X.K) := sl_list.or (sl_tup.or sl_str)
def cutD {A : Type} (xs : List A) (lo hi : Option Int) : List A := (xs.drop (HT.sIx xs.length 0 lo)).take (HT.sIx xs.length xs.length hi - HT.sIx xs.length 0 lo)
theorem rsl_lst {x : D} {xs : List D} {lo hi : Option Int} (hx : vw γ x = .lst xs) (q : Q (.lst (cutD xs lo hi)) γ) : dRS K (rSlG K) x lo hi γ Q := fun H α v k g r1 wv => by
  obtain ⟨a, us, rfl, h1, ru⟩ := lst_vw g r1 hx
  refine .inl ⟨a, us, rfl, SqL.of h1, fun p hp => ?_⟩
  refine wv _ _ α _ γ q (ext_imm g hp) (ga_imm g hp) (.lst (g.new hp) upd_same (RpL.mono (ext_imm g hp) _ _ ?_))
  unfold cutV cutD
  rw [ru.length]
  exact (ru.drop _).take _
theorem rsl_str {l : List Nat} {lo hi : Option Int} (hl : l.length ≤ 1000000) (q : Q (.str (S (cutD l lo hi))) γ) : dRS K (rSlG K) (.str (S l)) lo hi γ Q := fun H α v k g r1 wv => by
  cases r1
  refine .inr (.inr ⟨S l, rfl, by rw [S_len]; exact le24 hl, ?_⟩)
  have e : cutS (S l) lo hi = S (cutD l lo hi) := by
    unfold cutS cutD
    rw [S_l, S_len]
    rfl
  rw [e]
  exact wv _ H α _ γ q g.refl g (.str _)
end
end DL

set_option Elab.async false
set_option linter.all false
set_option maxRecDepth 100000
set_option maxHeartbeats 2000000
namespace DL
open PySem PySem.Spec PyProof.Rows L2

/-! ### in, not in -/
def D.flat : D → Bool
  | .non => true
  | .bl _ => true
  | .int _ => true
  | .str _ => true
  | _ => false
def eqf : D → D → Bool
  | .non, .non => true
  | .bl a, .bl b => a == b
  | .bl a, .int b => (if a then 1 else 0) == b
  | .int a, .bl b => a == (if b then 1 else 0)
  | .int a, .int b => a == b
  | .str a, .str b => a == b
  | _, _ => false
def inD (x : D) (xs : List D) : Bool := xs.any fun y => eqf y x
section
variable {K : KX} {γ : Ga} {Q : QD}
theorem flat_rp {H : Hp} {α : Al} {v : V} {d : D} (r : Rp K H α v d) (f : d.flat = true) : flatV v = true := by
  cases r <;> first | rfl | simp [D.flat] at f
theorem eqf_rp {H : Hp} {α : Al} {v w : V} {d e : D} (r : Rp K H α v d) (r' : Rp K H α w e) (f : d.flat = true) (f' : e.flat = true) : eqV v w = eqf d e := by
  cases r <;> first | (simp [D.flat] at f; done) | (cases r' <;> first | rfl | (simp [D.flat] at f'; done))
theorem inD_rp {H : Hp} {α : Al} {v : V} {x : D} (r : Rp K H α v x) (f : x.flat = true) : ∀ {us : List V} {xs : List D}, RpL K H α us xs → xs.all D.flat = true → inV v us = inD x xs ∧ us.all flatV = true
  | _, [], h, _ => by cases h; exact ⟨rfl, rfl⟩
  | _, d :: ds, h, fa => by
    cases h with
    | cons h1 h2 =>
      rw [List.all_cons, Bool.and_eq_true] at fa
      obtain ⟨i1, i2⟩ := inD_rp r f h2 fa.2
      refine ⟨?_, by rw [List.all_cons, flat_rp h1 fa.1, i2]; rfl⟩
      have e1 := eqf_rp h1 r fa.1 f
      have e2 : (_ : Bool) = _ := i1
      unfold inV inD at e2 ⊢
      rw [List.any_cons, List.any_cons, e2, e1]
def rInS : R2 := fun x y H Q => ∃ (c : Nat) (z : Str), x = .str ⟨#[c]⟩ ∧ y = .str z ∧ Q (.bl (decide (c ∈ z.cps.toList))) H
def rNiS : R2 := fun x y H Q => ∃ (c : Nat) (z : Str), x = .str ⟨#[c]⟩ ∧ y = .str z ∧ Q (.bl (!decide (c ∈ z.cps.toList))) H
def rInG (K : Frag) : R2 := fun x y H Q => rIn K false x y H Q ∨ rInS x y H Q ∨ rInD K x y H Q
def rNiG (K : Frag) : R2 := fun x y H Q => rIn K true x y H Q ∨ rNiS x y H Q ∨ rNotInD K x y H Q
/-- the items of a list, a tuple -/
def SqD (γ : Ga) (x : D) (xs : List D) : Prop := vw γ x = .lst xs ∨ x = .tup xs ∨ x = .cst xs
theorem sq_of {H : Hp} {α : Al} {v : V} {x : D} {xs : List D} (g : GaX K H α γ) (r : Rp K H α v x) (e : SqD γ x xs) : ∃ a us, v = .ref a ∧ (SqL K H a us ∨ SqT K H a us) ∧ RpL K H α us xs := by
  rcases e with e | e | e
  · obtain ⟨a, us, h1, h2, h3⟩ := lst_vw g r e
    exact ⟨a, us, h1, .inl (SqL.of h2), h3⟩
  · subst e
    cases r with
    | tup h1 h2 => exact ⟨_, _, rfl, .inr h1.sq, h2⟩
  · subst e
    cases r with
    | cst h1 h2 => exact ⟨_, _, rfl, .inr h1.sq, h2⟩
theorem rin_seq {x y : D} {xs : List D} (hy : SqD γ y xs) (f : x.flat = true) (fa : xs.all D.flat = true) (q : Q (.bl (inD x xs)) γ) : dR2 K (rInG K) x y γ Q := fun H α v w k g r1 r2 wv => by
  obtain ⟨a, us, rfl, hs, ru⟩ := sq_of g r2 hy
  obtain ⟨i1, i2⟩ := inD_rp r1 f ru fa
  refine .inl ⟨a, us, rfl, hs, flat_rp r1 f, i2, ?_⟩
  rw [i1]
  exact wv _ H α _ γ q g.refl g (.bl _)
theorem rni_seq {x y : D} {xs : List D} (hy : SqD γ y xs) (f : x.flat = true) (fa : xs.all D.flat = true) (q : Q (.bl (!inD x xs)) γ) : dR2 K (rNiG K) x y γ Q := fun H α v w k g r1 r2 wv => by
  obtain ⟨a, us, rfl, hs, ru⟩ := sq_of g r2 hy
  obtain ⟨i1, i2⟩ := inD_rp r1 f ru fa
  refine .inl ⟨a, us, rfl, hs, flat_rp r1 f, i2, ?_⟩
  rw [i1]
  exact wv _ H α _ γ q g.refl g (.bl _)
theorem rin_sgn {c : Nat} {l : List Nat} (q : Q (.bl (decide (c ∈ l))) γ) : dR2 K (rInG K) (.str (S [c])) (.str (S l)) γ Q := fun H α v w k g r1 r2 wv => by
  cases r1; cases r2
  refine .inr (.inl ⟨c, S l, rfl, rfl, ?_⟩)
  have e : decide (c ∈ (S l).cps.toList) = decide (c ∈ l) := by rw [S_l]
  rw [e]
  exact wv _ H α _ γ q g.refl g (.bl _)
theorem rni_sgn {c : Nat} {l : List Nat} (q : Q (.bl (!decide (c ∈ l))) γ) : dR2 K (rNiG K) (.str (S [c])) (.str (S l)) γ Q := fun H α v w k g r1 r2 wv => by
  cases r1; cases r2
  refine .inr (.inl ⟨c, S l, rfl, rfl, ?_⟩)
  have e : decide (c ∈ (S l).cps.toList) = decide (c ∈ l) := by rw [S_l]
  rw [e]
  exact wv _ H α _ γ q g.refl g (.bl _)
/-! ### methods of lists and texts -/
theorem isTy_str {x : Str} : IsTy K "str" (.str x) γ := fun H α v g r => by cases r; rfl
theorem isTy_lst {x : D} {xs : List D} (h : vw γ x = .lst xs) : IsTy K "list" x γ := fun H α v g r => by
  obtain ⟨a, us, rfl, h1, _⟩ := lst_vw g r h
  exact .inl ⟨rfl, us, SqL.of h1⟩
theorem vw_loc {k : Nat} {xs : List D} (h : γ[k]? = some (.lst xs)) : vw γ (.loc k) = .lst xs := by simp [vw, h]
theorem rm_append {k : Nat} {xs : List D} {y : D} (hk : γ[k]? = some (.lst xs)) (hl : xs.length < 1000000) (q : Q .non (γ.set k (.lst (xs ++ [y])))) : dRM K rAppend (.loc k) [y] γ Q := fun H α v vs w g r1 r2 wv => by
  cases r1 with
  | @loc _ a ha =>
    obtain ⟨us, h1, h2⟩ := g.at_ k _ _ ha hk
    cases r2 with
    | @cons u _ _ _ ru rn =>
      cases rn
      have ex := ext_set g (o := .lst (us ++ [u])) (List.mem_of_getElem? ha)
      exact ⟨a, us, u, rfl, rfl, h1, by rw [h2.length]; exact size24 hl, wv _ _ α _ _ q ex (ga_set g ha ⟨_, upd_same, RpL.mono ex _ _ (h2.append (.cons ru .nil))⟩) .non⟩
theorem rm_popAt {k j : Nat} {xs : List D} {z : Int} {y : D} (hk : γ[k]? = some (.lst xs)) (h1 : -(2 ^ 63) ≤ z) (h2 : z < 2 ^ 63) (hj : seqIndex? z xs.length = some j) (hy : xs[j]? = some y) (q : Q y (γ.set k (.lst (xs.eraseIdx j)))) : dRM K rPopAt (.loc k) [.int z] γ Q := fun H α v vs w g r1 r2 wv => by
  cases r1 with
  | @loc _ a ha =>
    obtain ⟨us, h3, h4⟩ := g.at_ k _ _ ha hk
    cases r2 with
    | cons ru rn =>
      cases rn; cases ru
      obtain ⟨u, hu, rd⟩ := h4.get hy
      have ex := ext_set g (o := .lst (us.eraseIdx j)) (List.mem_of_getElem? ha)
      exact ⟨a, us, z, j, u, rfl, rfl, h3, h1, h2, by rw [h4.length]; exact hj, hu, wv _ _ α _ _ q ex (ga_set g ha ⟨_, upd_same, RpL.mono ex _ _ (h4.eraseIdx j)⟩) (Rp.mono ex _ _ rd)⟩
def rSplit : V → List V → Hp → VK → Prop := fun x xs H Q => ∃ a b, x = .str a ∧ xs = [.str b] ∧ (b.length == 0) = false ∧ a.length + 2 ≤ sizeLine ∧ rNewStrs (Txt.split a b) H Q
theorem strs_rp {H : Hp} {α : Al} : ∀ ys : List Str, RpL K H α (ys.map V.str) (ys.map D.str)
  | [] => .nil
  | y :: ys => .cons (.str y) (strs_rp ys)
theorem rm_split {a b : Str} {ys : List Str} (hb : (b.length == 0) = false) (hl : a.length ≤ 1000000) (hy : Txt.split a b = ys) (q : Q (.lst (ys.map D.str)) γ) : dRM K rSplit (.str a) [.str b] γ Q := fun H α v vs w g r1 r2 wv => by
  subst hy
  cases r1
  cases r2 with
  | cons ru rn =>
    cases rn; cases ru
    refine ⟨a, b, rfl, rfl, hb, Nat.le_trans (Nat.add_le_add_right hl 2) (by decide), fun p hp => ?_⟩
    exact wv _ _ α _ γ q (ext_imm g hp) (ga_imm g hp) (.lst (g.new hp) upd_same (strs_rp _))
def rJoin (K : Frag) : V → List V → Hp → VK → Prop := fun x xs H Q => ∃ a p, ∃ ys : List Str, x = .str a ∧ xs = [.ref p] ∧ (SqL K H p (ys.map V.str) ∨ SqT K H p (ys.map V.str)) ∧
    (ys.map (·.length)).sum + ys.length * a.length ≤ 16777216 ∧ Q (.str (Txt.join a ys)) H
theorem rp_strs {H : Hp} {α : Al} : ∀ {ys : List Str} {us : List V}, RpL K H α us (ys.map D.str) → us = ys.map V.str
  | [], _, h => by cases h; rfl
  | _ :: _, _, h => by
    cases h with
    | cons h1 h2 =>
      cases h1
      rw [rp_strs h2]
      rfl
theorem rm_join {a : Str} {x : D} {ys : List Str} (hx : SqD γ x (ys.map D.str)) (hl : (ys.map (·.length)).sum + ys.length * a.length ≤ 1000000) (q : Q (.str (Txt.join a ys)) γ) : dRM K (rJoin K) (.str a) [x] γ Q := fun H α v vs w g r1 r2 wv => by
  cases r1
  cases r2 with
  | cons ru rn =>
    cases rn
    obtain ⟨p, us, rfl, hs, rl⟩ := sq_of g ru hx
    have e := rp_strs rl
    subst e
    exact ⟨a, p, ys, rfl, rfl, hs, Nat.le_trans hl (by decide), wv _ H α _ γ q g.refl g (.str _)⟩
def rCount : V → List V → Hp → VK → Prop := fun x xs H Q => ∃ a b, x = .str a ∧ xs = [.str b] ∧ Q (.int (Txt.count a b)) H
theorem rm_count {a b : Str} (q : Q (.int (Txt.count a b)) γ) : dRM K rCount (.str a) [.str b] γ Q := fun H α v vs w g r1 r2 wv => by
  cases r1
  cases r2 with
  | cons ru rn =>
    cases rn; cases ru
    exact ⟨a, b, rfl, rfl, wv _ H α _ γ q g.refl g (.int _)⟩
/-! ### built-in functions -/
def rLenG (K : Frag) : List V → Hp → VK → Prop := fun xs H Q => ∃ x n, xs = [x] ∧ LenV K x H n ∧ Q (.int n) H
theorem rc_len_str {x : Str} (hl : x.length ≤ 1000000) (q : Q (.int (x.length : Nat)) γ) : dRC K (rLenG K) [.str x] γ Q := fun H α vs w g r wv => by
  cases r with
  | cons ru rn =>
    cases rn; cases ru
    exact ⟨_, x.length, rfl, ⟨le24 hl, rfl⟩, wv _ H α _ γ q g.refl g (.int _)⟩
theorem rc_len {x : D} {xs : List D} (hx : SqD γ x xs) (q : Q (.int (xs.length : Nat)) γ) : dRC K (rLenG K) [x] γ Q := fun H α vs w g r wv => by
  cases r with
  | cons ru rn =>
    cases rn
    obtain ⟨p, us, rfl, hs, rl⟩ := sq_of g ru hx
    refine ⟨_, xs.length, rfl, ?_, wv _ H α _ γ q g.refl g (.int _)⟩
    rcases hs with hs | hs
    · exact .inl ⟨us, hs, rl.length.symm⟩
    · exact .inr ⟨us, hs, rl.length.symm⟩
theorem rp_bls {H : Hp} {α : Al} : ∀ {ys : List Bool} {us : List V}, RpL K H α us (ys.map D.bl) → us = ys.map V.bl
  | [], _, h => by cases h; rfl
  | _ :: _, _, h => by
    cases h with
    | cons h1 h2 =>
      cases h1
      rw [rp_bls h2]
      rfl
theorem rc_all {x : D} {bs : List Bool} (hx : vw γ x = .lst (bs.map D.bl)) (q : Q (.bl (bs.all id)) γ) : dRC K (rAll K) [x] γ Q := fun H α vs w g r wv => by
  cases r with
  | cons ru rn =>
    cases rn
    obtain ⟨p, us, rfl, hs, rl⟩ := lst_vw g ru hx
    have e := rp_bls rl
    subst e
    exact ⟨p, bs, rfl, SqL.of hs, wv _ H α _ γ q g.refl g (.bl _)⟩
theorem rc_any {x : D} {bs : List Bool} (hx : vw γ x = .lst (bs.map D.bl)) (q : Q (.bl (bs.any id)) γ) : dRC K (rAny K) [x] γ Q := fun H α vs w g r wv => by
  cases r with
  | cons ru rn =>
    cases rn
    obtain ⟨p, us, rfl, hs, rl⟩ := lst_vw g ru hx
    have e := rp_bls rl
    subst e
    exact ⟨p, bs, rfl, SqL.of hs, wv _ H α _ γ q g.refl g (.bl _)⟩
theorem rp_ints {H : Hp} {α : Al} : ∀ {ys : List Int} {us : List V}, RpL K H α us (ys.map D.int) → us = ys.map V.int
  | [], _, h => by cases h; rfl
  | _ :: _, _, h => by
    cases h with
    | cons h1 h2 =>
      cases h1
      rw [rp_ints h2]
      rfl
theorem rc_max {x : D} {ns : List Int} (hx : vw γ x = .lst (ns.map D.int)) (h0 : 0 < ns.length) (q : ∀ m, m ∈ ns → (∀ y, y ∈ ns → y ≤ m) → Q (.int m) γ) : dRC K (rMax K) [x] γ Q := fun H α vs w g r wv => by
  cases r with
  | cons ru rn =>
    cases rn
    obtain ⟨p, us, rfl, hs, rl⟩ := lst_vw g ru hx
    have e := rp_ints rl
    subst e
    exact ⟨p, ns, rfl, SqL.of hs, h0, fun m h1 h2 => wv _ H α _ γ (q m h1 h2) g.refl g (.int _)⟩
theorem rc_min {x : D} {ns : List Int} (hx : vw γ x = .lst (ns.map D.int)) (h0 : 0 < ns.length) (q : ∀ m, m ∈ ns → (∀ y, y ∈ ns → m ≤ y) → Q (.int m) γ) : dRC K (rMin K) [x] γ Q := fun H α vs w g r wv => by
  cases r with
  | cons ru rn =>
    cases rn
    obtain ⟨p, us, rfl, hs, rl⟩ := lst_vw g ru hx
    have e := rp_ints rl
    subst e
    exact ⟨p, ns, rfl, SqL.of hs, h0, fun m h1 h2 => wv _ H α _ γ (q m h1 h2) g.refl g (.int _)⟩
def rMax2 : List V → Hp → VK → Prop := fun xs H Q => ∃ i j, xs = [.int i, .int j] ∧ Q (.int (if j > i then j else i)) H
theorem rc_max2 {i j : Int} (q : Q (.int (if j > i then j else i)) γ) : dRC K rMax2 [.int i, .int j] γ Q := fun H α vs w g r wv => by
  cases r with
  | cons ru rn =>
    cases rn with
    | cons ru2 rn2 =>
      cases ru; cases ru2; cases rn2
      exact ⟨i, j, rfl, wv _ H α _ γ q g.refl g (.int _)⟩
/-- int(..): of a text, an int, a bool -/
def rIntG : List V → Hp → VK → Prop := fun xs H Q => (∃ a n, xs = [.str a] ∧ PySem.intText? a = some n ∧ a.length ≤ 640 ∧ Q (.int n) H) ∨ ((∃ i, xs = [.int i] ∧ Q (.int i) H) ∨ ∃ k, xs = [.bl k] ∧ Q (.int (if k then 1 else 0)) H)
theorem call_intG {X : Cx} : CallR X (.type "int") rIntG := call_int_str.or call_int1
theorem rc_int_str {a : Str} {n : Int} (h : PySem.intText? a = some n) (hl : a.length ≤ 640) (q : Q (.int n) γ) : dRC K rIntG [.str a] γ Q := fun H α vs w g r wv => by
  cases r with
  | cons ru rn => cases rn; cases ru; exact .inl ⟨a, n, rfl, h, hl, wv _ H α _ γ q g.refl g (.int _)⟩
theorem rc_int_bl {b : Bool} (q : Q (.int (if b then 1 else 0)) γ) : dRC K rIntG [.bl b] γ Q := fun H α vs w g r wv => by
  cases r with
  | cons ru rn => cases rn; cases ru; exact .inr (.inr ⟨b, rfl, wv _ H α _ γ q g.refl g (.int _)⟩)
theorem rc_int_int {i : Int} (q : Q (.int i) γ) : dRC K rIntG [.int i] γ Q := fun H α vs w g r wv => by
  cases r with
  | cons ru rn => cases rn; cases ru; exact .inr (.inl ⟨i, rfl, wv _ H α _ γ q g.refl g (.int _)⟩)
/-- str(..): of an int, a text -/
def rStrG : List V → Hp → VK → Prop := fun xs H Q => (∃ i : Int, xs = [.int i] ∧ i.natAbs.log2 < 1920 ∧ Q (.str (toString i)) H) ∨ (∃ a, xs = [.str a] ∧ Q (.str a) H)
theorem call_strG {X : Cx} : CallR X (.type "str") rStrG := call_str_int.or SkE.call_str_str
theorem rc_str_int {i : Int} (h : i.natAbs.log2 < 1920) (q : Q (.str (toString i)) γ) : dRC K rStrG [.int i] γ Q := fun H α vs w g r wv => by
  cases r with
  | cons ru rn => cases rn; cases ru; exact .inl ⟨i, rfl, h, wv _ H α _ γ q g.refl g (.str _)⟩
theorem rc_str_str {a : Str} (q : Q (.str a) γ) : dRC K rStrG [.str a] γ Q := fun H α vs w g r wv => by
  cases r with
  | cons ru rn => cases rn; cases ru; exact .inr ⟨a, rfl, wv _ H α _ γ q g.refl g (.str _)⟩
/-- list(..): a new list -/
def rListOf (K : Frag) : List V → Hp → VK → Prop := fun xs H Q => ∃ p ys, xs = [.ref p] ∧ (SqL K H p ys ∨ SqT K H p ys) ∧ ∀ l, H l = none → Q (.ref l) (upd H l (.lst ys))
theorem rc_list {x : D} {xs : List D} (hx : SqD γ x xs) (q : Q (.lst xs) γ) : dRC K (rListOf K) [x] γ Q := fun H α vs w g r wv => by
  cases r with
  | cons ru rn =>
    cases rn
    obtain ⟨p, us, rfl, hs, rl⟩ := sq_of g ru hx
    exact ⟨p, us, rfl, hs, fun l hl => wv _ _ α _ γ q (ext_imm g hl) (ga_imm g hl) (.lst (g.new hl) upd_same (RpL.mono (ext_imm g hl) _ _ rl))⟩
theorem rc_listM {x : D} {xs : List D} (hx : SqD γ x xs) (q : Q (.loc γ.length) (γ ++ [.lst xs])) : dRC K (rListOf K) [x] γ Q := fun H α vs w g r wv => by
  cases r with
  | cons ru rn =>
    cases rn
    obtain ⟨p, us, rfl, hs, rl⟩ := sq_of g ru hx
    exact ⟨p, us, rfl, hs, fun l hl => wv _ _ (α.push l) _ _ q (ext_loc g hl) (ga_loc g hl ⟨us, upd_same, RpL.mono (ext_loc g hl) _ _ rl⟩) (.loc (by show (α.h ++ [l])[γ.length]? = _; rw [← g.len]; simp))⟩
def rTupleOf (K : Frag) : List V → Hp → VK → Prop := fun xs H Q => ∃ p ys, xs = [.ref p] ∧ ((SqL K H p ys ∧ ∀ l, H l = none → Q (.ref l) (upd H l (.tup ys))) ∨ (SqT K H p ys ∧ Q (.ref p) H))
theorem rc_tuple {x : D} {xs : List D} (hx : vw γ x = .lst xs ∨ x = .tup xs) (q : Q (.tup xs) γ) : dRC K (rTupleOf K) [x] γ Q := fun H α vs w g r wv => by
  cases r with
  | cons ru rn =>
    cases rn
    rcases hx with hx | rfl
    · obtain ⟨p, us, rfl, hs, rl⟩ := lst_vw g ru hx
      exact ⟨p, us, rfl, .inl ⟨SqL.of hs, fun l hl => wv _ _ α _ γ q (ext_imm g hl) (ga_imm g hl) (.tup ⟨g.new hl, upd_same⟩ (RpL.mono (ext_imm g hl) _ _ rl))⟩⟩
    · cases ru with
      | tup h1 h2 => exact ⟨_, _, rfl, .inr ⟨h1.sq, wv _ H α _ γ q g.refl g (.tup h1 h2)⟩⟩
/-! ### isinstance, one built-in class -/
def tyName (γ : Ga) : D → Option String
  | .non => some "NoneType"
  | .bl _ => some "bool"
  | .int _ => some "int"
  | .str _ => some "str"
  | .tup _ => some "tuple"
  | .cst _ => some "tuple"
  | .lst _ => some "list"
  | .dic _ _ => some "dict"
  | .dit _ _ => some "dict"
  | .loc k => match γ[k]? with
    | some (.lst _) => some "list"
    | some (.dic _ _) => some "dict"
    | some (.dit _ _) => some "dict"
    | _ => none
  | _ => none
theorem tyX_rp {H : Hp} {α : Al} {v : V} {d : D} {T : String} (g : GaX K H α γ) (r : Rp K H α v d) (h : tyName γ d = some T) : TyX K H v (.type T) := by
  cases r with
  | non => cases h; exact .base .non
  | bl b => cases h; exact .base (.bl b)
  | int i => cases h; exact .base (.int i)
  | str x => cases h; exact .base (.str x)
  | tup h1 h2 =>
    cases h
    exact .base (.tup h1.2)
  | cst h1 h2 =>
    cases h
    obtain ⟨o, its, n, h1, hc, _⟩ := h1
    exact .kTuple h1 hc
  | lst h1 h2 h3 => cases h; exact .base (.lst h2)
  | dic h1 h2 h3 => cases h; exact .base (.dK h2)
  | dit h1 h2 h3 => cases h; exact .base (.dT h2)
  | @loc k a ha =>
    unfold tyName at h
    cases q : γ[k]? with
    | none => simp [q] at h
    | some m =>
      have hm := g.at_ k a m ha q
      cases m with
      | lst xs => simp [q] at h; subst h; obtain ⟨_, h1, _⟩ := hm; exact .base (.lst h1)
      | dic ks xs => simp [q] at h; subst h; obtain ⟨_, h1, _⟩ := hm; exact .base (.dK h1)
      | dit ks xs => simp [q] at h; subst h; obtain ⟨_, h1, _⟩ := hm; exact .base (.dT h1)
      | ins _ _ _ => simp [q] at h
  | _ => cases h
theorem rc_isi {x : D} {T U : String} {b : Bool} (hx : tyName γ x = some T) (hk : kitB T U = some b) (q : Q (.bl b) γ) : dRC K (rIsi K) [x, .ty U] γ Q := fun H α vs w g r wv => by
  cases r with
  | cons ru rn =>
    cases rn with
    | cons r2 rn =>
      cases rn; cases r2
      exact ⟨_, _, _, _, b, rfl, .ty U, tyX_rp g ru hx, kit_ty hk, wv _ H α _ γ q g.refl g (.bl _)⟩
/-! ### repr of data -/
def rReprD (K : Frag) : List V → Hp → VK → Prop := fun xs H Q => ∃ a d, xs = [.ref a] ∧ Dp K H (.ref a) d ∧ d.showable = true ∧ d.hasDict = false ∧ d.depth ≤ 64 ∧ d.shown.length ≤ sizeLine ∧ Q (.str d.shown) H
theorem call_reprD {X : Cx} (gd : X.A.guards = some []) (hu : X.A.units + 65 < cLine) : CallR X (.builtin "repr") (rReprD X.K) := by
  intro pins s σ H xs us Q I r h
  obtain ⟨a, d, rfl, hd, h1, h2, h3, h4, q⟩ := h
  have e := r.ref1
  subst e
  obtain ⟨as, rd⟩ := Dp.reads I d (.ref a) (.ref a) hd rfl
  refine repr_of_reads' rd h1 (fun z => by rw [h2] at z; cases z) gd (by omega) (fun _ _ z => z) (fun h' u tk k => ?_) h4
  exact ⟨.str _, H, I.kept k, ⟨_, rfl⟩, q⟩
theorem rc_repr {x : D} (hr : ∀ H α v, Rp K H α v x → ∃ a, v = .ref a) (p : (vw γ x).pl = true) (h1 : (vw γ x).py.showable = true) (h2 : (vw γ x).py.hasDict = false) (h3 : (vw γ x).py.depth ≤ 64) (h4 : (vw γ x).py.shown.length ≤ 1000000) (q : Q (.str (vw γ x).py.shown) γ) : dRC K (rReprD K) [x] γ Q := fun H α vs w g r wv => by
  cases r with
  | cons ru rn =>
    cases rn
    obtain ⟨a, rfl⟩ := hr H α _ ru
    exact ⟨a, _, rfl, ru.dpv g p, h1, h2, h3, le24 h4, wv _ H α _ γ q g.refl g (.str _)⟩
end
end DL

set_option Elab.async false
set_option linter.all false
set_option maxRecDepth 100000
set_option maxHeartbeats 2000000
namespace DL
open PySem PySem.Spec PyProof.Rows L2

/-! ### what names no object from the m-th on -/
mutual
def D.lo (m : Nat) : D → Bool
  | .loc k => decide (k < m)
  | .tup ds => loL m ds
  | .lst ds => loL m ds
  | .ins _ _ ds => loL m ds
  | .dic _ ds => loL m ds
  | .dit _ ds => loL m ds
  | .exc _ _ _ _ ds => loL m ds
  | .cst ds => loL m ds
  | .exv _ _ ds => loL m ds
  | _ => true
def loL (m : Nat) : List D → Bool
  | [] => true
  | d :: ds => d.lo m && loL m ds
end
def MO.lo (m : Nat) : MO → Bool
  | .lst ds => loL m ds
  | .ins _ _ ds => loL m ds
  | .dic _ ds => loL m ds
  | .dit _ ds => loL m ds
def loG (m : Nat) : Ga → Bool
  | [] => true
  | o :: r => o.lo m && loG m r
theorem loG_get {m : Nat} : ∀ {γ : Ga} {k : Nat} {o : MO}, loG m γ = true → γ[k]? = some o → o.lo m = true
  | [], _, _, _, e => by simp at e
  | a :: r, 0, _, h, e => by
    have h' : a.lo m = true ∧ loG m r = true := by simpa [loG] using h
    simp at e; subst e; exact h'.1
  | a :: r, k + 1, _, h, e => by
    have h' : a.lo m = true ∧ loG m r = true := by simpa [loG] using h
    exact loG_get h'.2 (by simpa using e)
theorem loG_app {m : Nat} : ∀ {a b : Ga}, loG m (a ++ b) = (loG m a && loG m b)
  | [], b => by simp [loG]
  | x :: r, b => by
    show (x.lo m && loG m (r ++ b)) = ((x.lo m && loG m r) && loG m b)
    rw [loG_app, Bool.and_assoc]
section
variable {K : Frag} {H : Hp} {α : Al} {γ : Ga}
mutual
theorem Rp.lo : ∀ (d : D) (v : V), Rp K H α v d → d.lo α.h.length = true
  | .non, _, _ => rfl
  | .bl _, _, _ => rfl
  | .int _, _, _ => rfl
  | .str _, _, _ => rfl
  | .ty _, _, _ => rfl
  | .ref _, _, _ => rfl
  | .loc k, _, h => by cases h with | loc h => exact decide_eq_true (List.getElem?_eq_some_iff.mp h).1
  | .tup ds, _, h => by cases h with | tup h1 h2 => exact RpL.lo ds _ h2
  | .lst ds, _, h => by cases h with | lst h1 h2 h3 => exact RpL.lo ds _ h3
  | .ins C ns ds, _, h => by cases h with | ins h1 h2 h3 => exact RpL.lo ds _ h3
  | .dic ks ds, _, h => by cases h with | dic h1 h2 h3 => exact RpL.lo ds _ h3
  | .dit ks ds, _, h => by cases h with | dit h1 h2 h3 => exact RpL.lo ds _ h3
  | .exc a dd C ks ds, _, h => by cases h with | exc h1 h2 h3 => exact RpL.lo ds _ h3
  | .cst ds, _, h => by cases h with | cst h1 h2 => exact RpL.lo ds _ h2
  | .exv C ks ds, _, h => by cases h with | exv h1 h2 h3 h4 h5 => exact RpL.lo ds _ h5
theorem RpL.lo : ∀ (ds : List D) (vs : List V), RpL K H α vs ds → loL α.h.length ds = true
  | [], _, _ => rfl
  | d :: ds, _, h => by
    cases h with
    | cons h1 h2 =>
      show (d.lo _ && loL _ ds) = true
      rw [Rp.lo d _ h1, RpL.lo ds _ h2]
      rfl
end
def Al.tk (α : Al) (m : Nat) : Al := ⟨α.h.take m, α.x⟩
theorem tk_out {m : Nat} {a : Addr} (h : a ∉ α) : a ∉ α.tk m := fun z => by
  rcases z with z | z
  · exact h (.inl (List.mem_of_mem_take z))
  · exact h (.inr z)
mutual
theorem Rp.tk (m : Nat) : ∀ (d : D) (v : V), Rp K H α v d → d.lo m = true → Rp K H (α.tk m) v d
  | .non, _, h, _ => by cases h; exact .non
  | .bl b, _, h, _ => by cases h; exact .bl b
  | .int i, _, h, _ => by cases h; exact .int i
  | .str x, _, h, _ => by cases h; exact .str x
  | .ty n, _, h, _ => by cases h; exact .ty n
  | .ref a, _, h, _ => by cases h; exact .ref a
  | .loc k, _, h, b => by
    cases h with
    | loc h =>
      have hk : k < m := of_decide_eq_true b
      exact .loc (by show (α.h.take m)[k]? = _; rw [List.getElem?_take_of_lt hk]; exact h)
  | .tup ds, _, h, b => by
    cases h with
    | tup h1 h2 =>
      exact .tup ⟨tk_out h1.1, h1.2⟩ (RpL.tk m ds _ h2 b)
  | .lst ds, _, h, b => by cases h with | lst h1 h2 h3 => exact .lst (tk_out h1) h2 (RpL.tk m ds _ h3 b)
  | .ins C ns ds, _, h, b => by cases h with | ins h1 h2 h3 => exact .ins (tk_out h1) h2 (RpL.tk m ds _ h3 b)
  | .dic ks ds, _, h, b => by cases h with | dic h1 h2 h3 => exact .dic (tk_out h1) h2 (RpL.tk m ds _ h3 b)
  | .dit ks ds, _, h, b => by cases h with | dit h1 h2 h3 => exact .dit (tk_out h1) h2 (RpL.tk m ds _ h3 b)
  | .exc a dd C ks ds, _, h, b => by cases h with | exc h1 h2 h3 => exact .exc (tk_out h1) h2 (RpL.tk m ds _ h3 b)
  | .cst ds, _, h, b => by cases h with | cst h1 h2 => exact .cst h1 (RpL.tk m ds _ h2 b)
  | .exv C ks ds, _, h, b => by cases h with | exv h1 h2 h3 h4 h5 => exact .exv (tk_out h1) (tk_out h2) h3 h4 (RpL.tk m ds _ h5 b)
theorem RpL.tk (m : Nat) : ∀ (ds : List D) (vs : List V), RpL K H α vs ds → loL m ds = true → RpL K H (α.tk m) vs ds
  | [], _, h, _ => by cases h; exact .nil
  | d :: ds, _, h, b => by
    cases h with
    | cons h1 h2 =>
      have b' : d.lo m = true ∧ loL m ds = true := by simpa [loL] using b
      exact .cons (Rp.tk m d _ h1 b'.1) (RpL.tk m ds _ h2 b'.2)
end
theorem MOk.tk (m : Nat) {a : Addr} : ∀ {o : MO}, MOk K H α a o → o.lo m = true → MOk K H (α.tk m) a o
  | .lst _, h, b => by obtain ⟨_, h, r⟩ := h; exact ⟨_, h, RpL.tk m _ _ r b⟩
  | .ins _ _ _, h, b => by obtain ⟨_, _, h, n, r⟩ := h; exact ⟨_, _, h, n, RpL.tk m _ _ r b⟩
  | .dic _ _, h, b => by obtain ⟨_, h, n, r⟩ := h; exact ⟨_, h, n, RpL.tk m _ _ r b⟩
  | .dit _ _, h, b => by obtain ⟨_, h, n, r⟩ := h; exact ⟨_, h, n, RpL.tk m _ _ r b⟩
theorem MOk.lo {a : Addr} : ∀ {o : MO}, MOk K H α a o → o.lo α.h.length = true
  | .lst _, h => by obtain ⟨_, _, r⟩ := h; exact RpL.lo _ _ r
  | .ins _ _ _, h => by obtain ⟨_, _, _, _, r⟩ := h; exact RpL.lo _ _ r
  | .dic _ _, h => by obtain ⟨_, _, _, r⟩ := h; exact RpL.lo _ _ r
  | .dit _ _, h => by obtain ⟨_, _, _, r⟩ := h; exact RpL.lo _ _ r
theorem loG_all {m : Nat} : ∀ {γ : Ga}, (∀ (k : Nat) (o : MO), γ[k]? = some o → o.lo m = true) → loG m γ = true
  | [], _ => rfl
  | a :: r, h => by
    show (a.lo m && loG m r) = true
    rw [h 0 a rfl, loG_all fun k o e => h (k + 1) o (by simpa using e)]
    rfl
theorem GaOk.lo (g : GaOk K H α γ) : loG γ.length γ = true := loG_all fun k o e => by
  have hk : k < α.h.length := by rw [g.len]; exact (List.getElem?_eq_some_iff.mp e).1
  have h := (g.at_ k _ o (List.getElem?_eq_getElem hk) e).lo
  rw [g.len] at h
  exact h
theorem GaOk.tk {γ2 rest : Ga} (g : GaOk K H α (γ2 ++ rest)) (b : loG γ2.length γ2 = true) : GaOk K H (α.tk γ2.length) γ2 := by
  have hl : γ2.length ≤ α.h.length := by rw [g.len, List.length_append]; omega
  refine ⟨⟨g.nd.1.sublist (List.take_sublist _ _), g.nd.2.1, fun a ha => g.nd.2.2 a (List.mem_of_mem_take ha)⟩, ?_, fun k a o h1 h2 => ?_, g.xs⟩
  · show (α.h.take γ2.length).length = _
    rw [List.length_take]; omega
  · have hk : k < γ2.length := (List.getElem?_eq_some_iff.mp h2).1
    have h1' : (α.h.take γ2.length)[k]? = some a := h1
    rw [List.getElem?_take_of_lt hk] at h1'
    exact (g.at_ k a o h1' (by rw [List.getElem?_append_left hk]; exact h2)).tk _ (loG_get b h2)
theorem Ext.tk {α0 : Al} {H0 : Hp} (e : Ext α0 H0 α H) {m : Nat} (h : α0.h.length ≤ m) : Ext α0 H0 (α.tk m) H := by
  obtain ⟨β, e1, f1⟩ := e.al
  refine ⟨⟨⟨β.take (m - α0.h.length), ?_, fun b hb => f1 b (List.mem_of_mem_take hb)⟩, ⟨e.nd.1.sublist (List.take_sublist _ _), e.nd.2.1, fun a ha => e.nd.2.2 a (List.mem_of_mem_take ha)⟩, e.xx, e.keep⟩, e.keepx⟩
  show α.h.take m = _
  rw [e1, List.take_append, List.take_of_length_le h]
mutual
/-- d as it stands when the objects from the m-th on are no longer changed -/
inductive Fz (γ : Ga) (m : Nat) : D → D → Prop
  | keep {d : D} : d.lo m = true → Fz γ m d d
  | lst {k : Nat} {xs ys : List D} : m ≤ k → γ[k]? = some (.lst xs) → FzL γ m xs ys → Fz γ m (.loc k) (.lst ys)
  | ins {k : Nat} {C : Addr} {ns : List Str} {xs ys : List D} : m ≤ k → γ[k]? = some (.ins C ns xs) → FzL γ m xs ys → Fz γ m (.loc k) (.ins C ns ys)
  | dic {k : Nat} {ks : List Key} {xs ys : List D} : m ≤ k → γ[k]? = some (.dic ks xs) → FzL γ m xs ys → Fz γ m (.loc k) (.dic ks ys)
  | dit {k : Nat} {ks : List (List Key)} {xs ys : List D} : m ≤ k → γ[k]? = some (.dit ks xs) → FzL γ m xs ys → Fz γ m (.loc k) (.dit ks ys)
  | tupI {xs ys : List D} : FzL γ m xs ys → Fz γ m (.tup xs) (.tup ys)
  | lstI {xs ys : List D} : FzL γ m xs ys → Fz γ m (.lst xs) (.lst ys)
  | insI {C : Addr} {ns : List Str} {xs ys : List D} : FzL γ m xs ys → Fz γ m (.ins C ns xs) (.ins C ns ys)
  | dicI {ks : List Key} {xs ys : List D} : FzL γ m xs ys → Fz γ m (.dic ks xs) (.dic ks ys)
  | ditI {ks : List (List Key)} {xs ys : List D} : FzL γ m xs ys → Fz γ m (.dit ks xs) (.dit ks ys)
inductive FzL (γ : Ga) (m : Nat) : List D → List D → Prop
  | nil : FzL γ m [] []
  | cons {x y : D} {xs ys : List D} : Fz γ m x y → FzL γ m xs ys → FzL γ m (x :: xs) (y :: ys)
end
theorem FzL.keep {γ : Ga} {m : Nat} : ∀ {xs : List D}, loL m xs = true → FzL γ m xs xs
  | [], _ => .nil
  | x :: xs, b => by
    have b' : x.lo m = true ∧ loL m xs = true := by simpa [loL] using b
    exact .cons (.keep b'.1) (FzL.keep b'.2)
theorem tk_no (g : GaOk K H α γ) {m k : Nat} {a : Addr} (hm : m ≤ k) (ha : α.h[k]? = some a) : a ∉ α.tk m := fun z => by
  rcases z with z | z
  · obtain ⟨j, hj, e⟩ := List.mem_iff_getElem.mp (show a ∈ α.h.take m from z)
    have hj' : j < m ∧ j < α.h.length := by rw [List.length_take] at hj; omega
    obtain ⟨l2, e2⟩ := List.getElem?_eq_some_iff.mp ha
    rw [List.getElem_take] at e
    have := (List.getElem_inj g.nd.1).mp (e.trans e2.symm)
    omega
  · exact g.nd.2.2 a (List.mem_of_getElem? ha) z
mutual
theorem Rp.fz (g : GaOk K H α γ) {m : Nat} : ∀ {d d' : D}, Fz γ m d d' → ∀ {v : V}, Rp K H α v d → Rp K H (α.tk m) v d'
  | _, _, .keep b, _, r => Rp.tk m _ _ r b
  | _, _, .lst hm hk f, _, r => by
    cases r with
    | loc ha =>
      obtain ⟨us, h1, h2⟩ := g.at_ _ _ _ ha hk
      exact .lst (tk_no g hm ha) h1 (RpL.fz g f h2)
  | _, _, .ins hm hk f, _, r => by
    cases r with
    | loc ha =>
      obtain ⟨dx, fs, h1, h2, h3⟩ := g.at_ _ _ _ ha hk
      subst h2
      exact .ins (tk_no g hm ha) h1 (RpL.fz g f h3)
  | _, _, .dic hm hk f, _, r => by
    cases r with
    | loc ha =>
      obtain ⟨fs, h1, h2, h3⟩ := g.at_ _ _ _ ha hk
      subst h2
      exact .dic (tk_no g hm ha) h1 (RpL.fz g f h3)
  | _, _, .dit hm hk f, _, r => by
    cases r with
    | loc ha =>
      obtain ⟨fs, h1, h2, h3⟩ := g.at_ _ _ _ ha hk
      subst h2
      exact .dit (tk_no g hm ha) h1 (RpL.fz g f h3)
  | _, _, .tupI f, _, r => by cases r with | tup h1 h2 => exact .tup ⟨tk_out h1.1, h1.2⟩ (RpL.fz g f h2)
  | _, _, .lstI f, _, r => by cases r with | lst h1 h2 h3 => exact .lst (tk_out h1) h2 (RpL.fz g f h3)
  | _, _, .insI f, _, r => by cases r with | ins h1 h2 h3 => exact .ins (tk_out h1) h2 (RpL.fz g f h3)
  | _, _, .dicI f, _, r => by cases r with | dic h1 h2 h3 => exact .dic (tk_out h1) h2 (RpL.fz g f h3)
  | _, _, .ditI f, _, r => by cases r with | dit h1 h2 h3 => exact .dit (tk_out h1) h2 (RpL.fz g f h3)
theorem RpL.fz (g : GaOk K H α γ) {m : Nat} : ∀ {ds es : List D}, FzL γ m ds es → ∀ {vs : List V}, RpL K H α vs ds → RpL K H (α.tk m) vs es
  | _, _, .nil, _, r => by cases r; exact .nil
  | _, _, .cons f fs, _, r => by cases r with | cons h1 h2 => exact .cons (Rp.fz g f h1) (RpL.fz g fs h2)
end
end
/-- q, or q when the objects behind are let go -/
def Dr (n : Nat) (q : QD) : QD := fun d γ => q d γ ∨ ∃ d' γ2 rest, γ = γ2 ++ rest ∧ n ≤ γ2.length ∧ loG γ2.length γ2 = true ∧ Fz γ γ2.length d d' ∧ q d' γ2
theorem wv_dr {K : Frag} {α0 : Al} {H0 : Hp} {n : Nat} {q : QD} {k : VK} (hn : α0.h.length = n) (w : Wv0 K α0 H0 q k) : Wv0 K α0 H0 (Dr n q) k := by
  rintro v H α d γ (h | ⟨d', γ2, rest, rfl, hl, b, f, h⟩) e g r
  · exact w v H α d γ h e g r
  · exact w v H (α.tk γ2.length) d' γ2 h (e.tk (by omega)) (g.tk b) (Rp.fz g f r)
/-- .. of an exception -/
def DrX (n : Nat) (e : XD) : XD := fun C ns ds γ => e C ns ds γ ∨ ∃ γ2 rest, γ = γ2 ++ rest ∧ n ≤ γ2.length ∧ loG γ2.length γ2 = true ∧ loL γ2.length ds = true ∧ e C ns ds γ2
theorem xv_dr {K : Frag} {α0 : Al} {H0 : Hp} {n : Nat} {e : XD} {E : XK} (hn : α0.h.length = n) (x : Xv K α0 H0 e E) : Xv K α0 H0 (DrX n e) E := by
  rintro C dd fs ds γ α H (h | ⟨γ2, rest, rfl, hl, b, bl, h⟩) ext g hd nd rl
  · exact x C dd fs ds γ α H h ext g hd nd rl
  · exact x C dd fs ds γ2 (α.tk γ2.length) H h (ext.tk (by omega)) (g.tk b) hd (tk_out nd) (RpL.tk _ _ _ rl bl)
/-! ### a def by its body -/
theorem rpe_start {K : Frag} {H : Hp} {α : Al} {vs : List V} {ds : List D} (r : RpL K H α vs ds) (N : List Str) : RpE K H α (L2.start N vs) (ds.map some ++ List.replicate (N.length - ds.length) none) := by
  unfold L2.start
  rw [r.length]
  refine ⟨by simp [r.length], fun i d h => ?_⟩
  by_cases hi : i < ds.length
  · rw [List.getElem?_append_left (by simpa using hi), List.getElem?_map] at h
    cases q : ds[i]? with
    | none => rw [q] at h; cases h
    | some x =>
      rw [q] at h
      cases h
      obtain ⟨v, h1, h2⟩ := r.get q
      refine ⟨v, ?_, h2⟩
      rw [List.getElem?_append_left (by simp [r.length]; exact hi), List.getElem?_map, h1]
      rfl
  · rw [List.getElem?_append_right (by simpa using hi)] at h
    rw [List.getElem?_replicate] at h
    split at h <;> cases h
/-- a def's wish of an exception, whatever the slots are -/
abbrev wOf (E : XK) : WX := fun cls d _ H => E cls d H
theorem fn_dl {P : Program} {w : World} {K : Frag} {mg : Str → Option Value} {base : Heap} {k : Nat} {f : Addr} {x qual : Str} {params : Arguments} {body : List Stmt} {scope : Scope} {dvs : List V} {kws : List (Str × V)} {fd : FuncData} {N ps : List Str} {s : SpD}
    (F : FunD K x qual params body scope dvs kws f fd) (sc : FnScope N ps scope) (t : WX → TS) (len : ∀ ds γ q e, s ds γ q e → ds.length = ps.length)
    (der : ∀ (cdv : Value) (A : Around) (outer : List PySem.Env) (s : Shared) (H : Hp) (E : XK), Room k (cxOf (L2.CX P w) P w K mg base N qual scope f cdv A outer s H E).A → (cxOf (L2.CX P w) P w K mg base N qual scope f cdv A outer s H E).A.guards = some [] →
      Takes (cxOf (L2.CX P w) P w K mg base N qual scope f cdv A outer s H E) (wOf E) → PassesOwn (model P w) (cxOf (L2.CX P w) P w K mg base N qual scope f cdv A outer s H E).A (cxOf (L2.CX P w) P w K mg base N qual scope f cdv A outer s H E).env (cxOf (L2.CX P w) P w K mg base N qual scope f cdv A outer s H E).xe →
      PSs (cxOf (L2.CX P w) P w K mg base N qual scope f cdv A outer s H E) body (t (wOf E)))
    (h : ∀ ds γ q e E, loG γ.length γ = true → loL γ.length ds = true → s ds γ q e → dS ⟨K, wOf E, fun _ => DrX γ.length e⟩ γ.length (t (wOf E)) (ds.map some ++ List.replicate (N.length - ds.length) none) γ { nx := fun _ γ' => Dr γ.length q .non γ', rt := Dr γ.length q }) :
    FnG P w K mg base (L2.CX P w) (k + 1) f fd ps (toSp K s) := by
  refine fnG_of F sc (fun vs H Q E hs => ?_) fun cdv A outer s0 H vs Q E room gd hs => ⟨t (wOf E), der cdv A outer s0 H E room gd (takes_of rfl rfl rfl rfl) (passes_of rfl), ?_⟩
  · obtain ⟨α, ds, γ, q, e, r, g, hq, _⟩ := hs
    rw [r.length]
    exact len _ _ _ _ hq
  · obtain ⟨α, ds, γ, q, e, r, g, hq, wv, xv⟩ := hs
    have b2 := RpL.lo _ _ r
    rw [g.len] at b2
    have xv' := xv_dr g.len xv
    refine h ds γ q e E g.lo b2 hq (L2.start N vs) H α α H _ g.len g.refl (rpe_start r N) ⟨g, fun σ ρ C dd fs ds γ' α' H' he _ ext g' hd nd rl => xv' C dd fs ds γ' α' H' he ext g' hd nd rl⟩ ⟨?_, ?_, ?_, ?_⟩
    · intro σ1 H1 α1 ρ1 γ1 h1 e1 g1 r1
      exact wv_dr g.len wv .non H1 α1 .non γ1 h1 e1 g1.toGaOk .non
    · intro v1 H1 α1 d1 γ1 h1 e1 g1 r1
      exact wv_dr g.len wv v1 H1 α1 d1 γ1 h1 e1 g1.toGaOk r1
    · intro σ1 H1 α1 ρ1 γ1 h1 e1 g1 r1
      exact h1.elim
    · intro σ1 H1 α1 ρ1 γ1 h1 e1 g1 r1
      exact h1.elim
end DL

set_option Elab.async false
set_option linter.all false
set_option maxRecDepth 100000
set_option maxHeartbeats 2000000
namespace DL
open PySem PySem.Spec PyProof.Rows L2

/-- a def of the text keeps a promise -/
def Pk (P : Program) (w : World) (K : Frag) (mg : Str → Option Value) (base : Heap) (k : Nat) (a : Str × Option Str) (ps : List Str) (s : SpD) : Prop :=
  ∃ fd, FnG P w K mg base (L2.CX P w) k (He.fAd K a) fd ps (toSp K s) ∧ PySem.W.keepIn K (.ref (He.fAd K a)) = true ∧ Binds K fd ps []
theorem Pk.mono {P : Program} {w : World} {K : Frag} {mg : Str → Option Value} {base : Heap} {j k : Nat} {a : Str × Option Str} {ps : List Str} {s : SpD} (h : Pk P w K mg base j a ps s) (l : j ≤ k) : Pk P w K mg base k a ps s := by
  obtain ⟨fd, F, kp, b⟩ := h
  exact ⟨fd, F.mono l, kp, b⟩
theorem Pk.imp {P : Program} {w : World} {K : Frag} {mg : Str → Option Value} {base : Heap} {k : Nat} {a : Str × Option Str} {ps : List Str} {s s' : SpD} (h : Pk P w K mg base k a ps s) (l : ∀ ds γ q e, s' ds γ q e → s ds γ q e) : Pk P w K mg base k a ps s' := by
  obtain ⟨fd, F, kp, b⟩ := h
  exact ⟨fd, F.imp fun vs H Q E ⟨α, ds, γ, q, e, h1, h2, h3, h4⟩ => ⟨α, ds, γ, q, e, h1, h2, l _ _ _ _ h3, h4⟩, kp, b⟩
section
variable {X : Cx} {W : WX} {k : Nat} {C : Addr} {ps : List Str} {s : SpD} {x m : Str} {p pos apos : Pos} {e o : Expr} {es : List Expr} {ta : TE} {t : TA}
theorem callP (tk : Takes X W) (F : Pk X.prog X.w X.K X.mg X.base k (x, none) ps s) (room : Room k X.A) (gd : X.A.guards = some []) (gl : Gl X x) (mgx : X.mg x = some (.ref (He.ga X.K x)))
    (ha : PA X (e :: es) t) (h1 : (x == ("__debug__" : Str)) = false := by decide) (h2 : starEach (e :: es) X.env = (false, eval e X.env) :: starEach es X.env := by rfl) (h3 : (backTo pos (starEach es X.env)).any (·.1) = false := by rfl) :
    PE X (.Call (.Name x p) (e :: es) [] pos) (tCallW (toSp X.K s) (WE W) t) := by
  obtain ⟨fd, F, kp, b⟩ := F
  exact callG F room gd b (passAt tk) gl mgx kp ha h1 h2 h3
theorem callP0 (tk : Takes X W) (F : Pk X.prog X.w X.K X.mg X.base k (x, none) ps s) (room : Room k X.A) (gd : X.A.guards = some []) (gl : Gl X x) (mgx : X.mg x = some (.ref (He.ga X.K x)))
    (h1 : (x == ("__debug__" : Str)) = false := by decide) : PE X (.Call (.Name x p) [] [] pos) (tCallW (toSp X.K s) (WE W) tNil) := by
  obtain ⟨fd, F, kp, b⟩ := F
  exact callG0 F room gd b (passAt tk) gl mgx kp h1
theorem methP {c : Str} {pl : Sem Bool} (tk : Takes X W) (he : PE X o ta) (cl : Cls X.K (He.ga X.K c)) (mt : Meth X.K (He.ga X.K c) m (He.ma X.K (He.ga X.K c) m)) (F : Pk X.prog X.w X.K X.mg X.base k (c, some m) ps s) (room : Room k X.A) (gd : X.A.guards = some []) (ha : PA X (e :: es) t)
    (h2 : starEach (e :: es) X.env = (false, eval e X.env) :: starEach es X.env := by rfl) (h3 : (backTo pos (starEach es X.env)).any (·.1) = false := by rfl)
    (ht : eval (.Call (.Attribute o m apos) (e :: es) [] pos) X.env = (do let ov ← eval o X.env; standAt apos.atName; let (f, first) ← holding [ov] (getMethod ov m pl); callWith pos f first (backTo pos (starEach (e :: es) X.env)) (backToKw pos (keywordEach [] X.env))) := by rfl) :
    PE X (.Call (.Attribute o m apos) (e :: es) [] pos) (tMethW (He.ga X.K c) m (toSp X.K s) (WE W) ta t) := by
  obtain ⟨fd, F, kp, b⟩ := F
  exact methG he cl mt F room gd b (passAt tk) ha h2 h3 ht
theorem methP0 {c : Str} {pl : Sem Bool} (tk : Takes X W) (he : PE X o ta) (cl : Cls X.K (He.ga X.K c)) (mt : Meth X.K (He.ga X.K c) m (He.ma X.K (He.ga X.K c) m)) (F : Pk X.prog X.w X.K X.mg X.base k (c, some m) ps s) (room : Room k X.A) (gd : X.A.guards = some [])
    (ht : eval (.Call (.Attribute o m apos) [] [] pos) X.env = (do let ov ← eval o X.env; standAt apos.atName; let (f, first) ← holding [ov] (getMethod ov m pl); callWith pos f first (backTo pos (starEach [] X.env)) (backToKw pos (keywordEach [] X.env))) := by rfl) :
    PE X (.Call (.Attribute o m apos) [] [] pos) (tMethW (He.ga X.K c) m (toSp X.K s) (WE W) ta tNil) := by
  obtain ⟨fd, F, kp, b⟩ := F
  exact methG0 he cl mt F room gd b (passAt tk) ht
theorem makeP {j : Nat} (tk : Takes X W) (M : Mk X.K (He.ga X.K x) (He.ma X.K (He.ga X.K x) "__init__")) (F : Pk X.prog X.w X.K X.mg X.base j (x, some "__init__") ps s) (hj : j + 1 ≤ k) (room : Room k X.A) (gd : X.A.guards = some []) (gl : Gl X x) (mgx : X.mg x = some (.ref (He.ga X.K x)))
    (ha : PA X (e :: es) t) (h1 : (x == ("__debug__" : Str)) = false := by decide) (h2 : starEach (e :: es) X.env = (false, eval e X.env) :: starEach es X.env := by rfl) (h3 : (backTo pos (starEach es X.env)).any (·.1) = false := by rfl) :
    PE X (.Call (.Name x p) (e :: es) [] pos) (tMakeW (He.ga X.K x) (toSp X.K s) (WE W) t) := by
  obtain ⟨fd, F, kp, b⟩ := F
  exact makeG M F (room.mono hj) gd b (passAt tk) gl mgx ha h1 h2 h3
end
/-- a, b = e, f: both sides written -/
theorem ds_par {K : KX} {n : Nat} {ρ : Env} {γ : Ga} {B : DEnds} {i j : Nat} {ta : TA} (h : dA K ta ρ γ fun ds γ1 => ∃ x y, ds = [x, y] ∧ B.nx ((ρ.set i (some x)).set j (some y)) γ1) : dS K n (tPar i j ta) ρ γ B := fun σ H α α0 H0 Dn hn e r g fe =>
  h σ H α _ r g fun vs H1 α1 ds γ1 h1 e1 g1 r1 => by
    obtain ⟨x, y, rfl, hq⟩ := h1
    cases r1 with
    | cons r1 r2 =>
      cases r2 with
      | cons r2 r3 =>
        cases r3
        exact ⟨_, _, rfl, fe.nx _ H1 α1 _ γ1 hq (e.trans e1) g1 (((r.mono e1).set i r1).set j r2)⟩
theorem ds_aug {K : KX} {n : Nat} {ρ : Env} {γ : Ga} {B : DEnds} {i : Nat} {te : TE} {r : R2} (d : D) (hd : ρ[i]? = some (some d)) (h : dE K te ρ γ fun y γ1 => dR2 K r d y γ1 fun z γ2 => B.nx (ρ.set i (some z)) γ2) : dS K n (tAug i te r) ρ γ B := fun σ H α α0 H0 Dn hn e rr g fe => by
  obtain ⟨v, h1, h2⟩ := rr.2 i d hd
  exact ⟨v, h1, h σ H α _ rr g fun u H1 α1 y γ1 h3 e1 g1 r1 => h3 H1 α1 v u _ g1 (Rp.mono e1 _ _ h2) r1 fun z' H2 α2 z γ2 h4 e2 g2 r2 => fe.nx _ H2 α2 _ γ2 h4 ((e.trans e1).trans e2) g2 (((rr.mono e1).mono e2).set i r2)⟩
end DL

set_option Elab.async false
set_option linter.all false
set_option maxRecDepth 100000
set_option maxHeartbeats 2000000
namespace DL
open PySem PySem.Spec PyProof.Rows L2

theorem hu65 {A : Around} {k : Nat} (hr : Room k A) : A.units + 65 < cLine := by have := hr.un; omega
theorem op_inG {X : Cx} (hu : X.A.units + 65 < cLine) : OpR X (compareOp .In) (rInG X.K) := op_in_seq.or (op_in_sign.or (op_inD hu))
theorem op_niG {X : Cx} (hu : X.A.units + 65 < cLine) : OpR X (compareOp .NotIn) (rNiG X.K) := op_notIn_seq.or (op_notIn_sign.or (op_notInD hu))
def rAbs : List V → Hp → VK → Prop := fun xs H Q => ∃ i, xs = [.int i] ∧ Q (.int (if i < 0 then -i else i)) H
def rMin2 : List V → Hp → VK → Prop := fun xs H Q => ∃ i j, xs = [.int i, .int j] ∧ Q (.int (if j < i then j else i)) H
def tTruth (K : Frag) (ta : TE) : TT := fun σ H Q => ta σ H fun x H' => ∃ k, TruV K x H' k ∧ Q k H'
theorem pt_truthK {X : Cx} {a : Expr} {ta : TE} (ha : PE X a ta) (he : ∀ whole, isTrue a X.env whole = (do let v ← whole; standAt a.pos; holding [v] (truthy v))) : PT X a (tTruth X.K ta) := pt_truth ha he
/-! ### dicts that stand still -/
def valD (ks : List Key) (vs : List D) (k : Key) : Option D := ((ks.zip vs).find? fun p => decide (p.1 = k)).map (·.2)
def keyD : D → Option Key
  | .int i => some (.inl i)
  | .str x => some (.inr x)
  | _ => none
section
variable {K : KX} {ρ : Env} {γ : Ga} {Q : QD}
theorem keyD_rp {H : Hp} {α : Al} {v : V} {d : D} {k : Key} (r : Rp K H α v d) (h : keyD d = some k) : v = kV k := by
  cases r with
  | int i => cases h; rfl
  | str x => cases h; rfl
  | _ => cases h
theorem valD_rp {H : Hp} {α : Al} {k : Key} : ∀ {kvs : List (Key × V)} {vs : List D}, RpL K H α (kvs.map (·.2)) vs →
    (∀ d, valD (kvs.map (·.1)) vs k = some d → ∃ v, valV kvs k = some v ∧ Rp K H α v d) ∧ (valD (kvs.map (·.1)) vs k = none → valV kvs k = none)
  | [], _, h => by cases h; exact ⟨fun _ e => (by cases e), fun _ => rfl⟩
  | (a, b) :: r, _, h => by
    cases h with
    | @cons _ _ x xs h1 h2 =>
      obtain ⟨i1, i2⟩ := valD_rp (k := k) h2
      by_cases hk : a = k
      · have e1 : valD (((a, b) :: r).map (·.1)) (x :: xs) k = some x := by simp [valD, hk]
        have e2 : valV ((a, b) :: r) k = some b := by simp [valV, hk]
        rw [e1, e2]
        exact ⟨fun d e => by cases e; exact ⟨b, rfl, h1⟩, fun e => (by cases e)⟩
      · have e1 : valD (((a, b) :: r).map (·.1)) (x :: xs) k = valD (r.map (·.1)) xs k := by simp [valD, hk]
        have e2 : valV ((a, b) :: r) k = valV r k := by simp [valV, hk]
        rw [e1, e2]
        exact ⟨i1, i2⟩
/-- a dict, as it stands -/
def dvw (γ : Ga) : D → Option (List Key × List D)
  | .dic ks vs => some (ks, vs)
  | .loc k => match γ[k]? with
    | some (.dic ks vs) => some (ks, vs)
    | _ => none
  | _ => none
theorem dic_rp {H : Hp} {α : Al} {v : V} {d : D} {ks : List Key} {vs : List D} (g : GaX K H α γ) (r : Rp K H α v d) (h : dvw γ d = some (ks, vs)) : ∃ a kvs, v = .ref a ∧ H a = some (.dK kvs) ∧ kvs.map (·.1) = ks ∧ RpL K H α (kvs.map (·.2)) vs := by
  cases r with
  | dic h1 h2 h3 =>
    cases h
    exact ⟨_, _, rfl, h2, rfl, h3⟩
  | @loc k a ha =>
    unfold dvw at h
    cases q : γ[k]? with
    | none => simp [q] at h
    | some m =>
      cases m with
      | dic ks' vs' =>
        simp [q] at h
        obtain ⟨rfl, rfl⟩ := h
        obtain ⟨kvs, h1, h2, h3⟩ := g.at_ _ _ _ ha q
        exact ⟨a, kvs, rfl, h1, h2, h3⟩
      | _ => simp [q] at h
  | _ => cases h
theorem de_dget2 {td ty tx : TE} (h : dE K td ρ γ fun d γ1 => (∃ ks vs, dvw γ1 d = some (ks, vs)) ∧ dE K ty ρ γ1 fun y γ2 => dE K tx ρ γ2 fun x γ3 => ∃ ks vs k, dvw γ3 d = some (ks, vs) ∧ keyD y = some k ∧ Q ((valD ks vs k).getD x) γ3) :
    dE K (tDGet2 td ty tx) ρ γ Q := fun σ H α q r g w =>
  h σ H α _ r g fun v H1 α1 d γ1 ⟨⟨ks, vs, hd⟩, h1⟩ e1 g1 r1 => by
    obtain ⟨a, kvs, rfl, ha, hk, hv⟩ := dic_rp g1 r1 hd
    refine ⟨a, rfl, .inl ⟨kvs, .inl ha⟩, h1 σ H1 α1 _ (r.mono e1) g1 fun vy H2 α2 y γ2 h2 e2 g2 r2 => h2 σ H2 α2 _ ((r.mono e1).mono e2) g2 fun vx H3 α3 x γ3 ⟨ks', vs', k, hd3, hy, hq⟩ e3 g3 r3 => ?_⟩
    obtain ⟨a', kvs', ea, ha', hk', hv'⟩ := dic_rp g3 (Rp.mono (e2.trans e3) _ _ r1) hd3
    cases ea
    subst hk'
    have ey := keyD_rp (Rp.mono e3 _ _ r2) hy
    refine ⟨valV kvs' k, .inl ⟨kvs', k, .inl ha', ey, rfl⟩, ?_⟩
    obtain ⟨i1, i2⟩ := valD_rp (k := k) hv'
    cases z : valD (kvs'.map (·.1)) vs' k with
    | none =>
      rw [i2 z]
      rw [z] at hq
      exact w vx H3 α3 x γ3 hq ((e1.trans e2).trans e3) g3 r3
    | some dd =>
      obtain ⟨u, hu, ru⟩ := i1 dd z
      rw [hu]
      rw [z] at hq
      exact w u H3 α3 dd γ3 hq ((e1.trans e2).trans e3) g3 ru
/-- {k: v, ..}: written pairs -/
def dPairs (K : KX) : List (TE × TE) → Env → Ga → (List (D × D) → Ga → Prop) → Prop
  | [], _, γ, Q => Q [] γ
  | (tk, tv) :: r, ρ, γ, Q => dE K tk ρ γ fun k γ1 => dE K tv ρ γ1 fun v γ2 => dPairs K r ρ γ2 fun ps γ3 => Q ((k, v) :: ps) γ3
def PsRp (K : Frag) (H : Hp) (α : Al) (us : List (V × V)) (ps : List (D × D)) : Prop := RpL K H α (us.map (·.1)) (ps.map (·.1)) ∧ RpL K H α (us.map (·.2)) (ps.map (·.2))
theorem dPairs_run : ∀ {trs : List (TE × TE)} {ρ : Env} {γ : Ga} {Q : List (D × D) → Ga → Prop}, dPairs K trs ρ γ Q → ∀ σ H α (q : List (V × V) → Hp → Prop), RpE K H α σ ρ → GaX K H α γ →
    (∀ us H' α' ps γ', Q ps γ' → Ext α H α' H' → GaX K H' α' γ' → PsRp K H' α' us ps → q us H') → tPairs trs σ H q
  | [], ρ, γ, Q, h, σ, H, α, q, r, g, w => w [] H α [] γ h g.refl g ⟨.nil, .nil⟩
  | (tk, tv) :: rs, ρ, γ, Q, h, σ, H, α, q, r, g, w =>
    h σ H α _ r g fun k H1 α1 kd γ1 h1 e1 g1 r1 => h1 σ H1 α1 _ (r.mono e1) g1 fun v H2 α2 vd γ2 h2 e2 g2 r2 =>
      dPairs_run h2 σ H2 α2 _ ((r.mono e1).mono e2) g2 fun us H3 α3 ps γ3 h3 e3 g3 r3 =>
        w ((k, v) :: us) H3 α3 ((kd, vd) :: ps) γ3 h3 ((e1.trans e2).trans e3) g3 ⟨.cons (Rp.mono (e2.trans e3) _ _ r1) r3.1, .cons (Rp.mono e3 _ _ r2) r3.2⟩
theorem putK_new {kvs : List (Key × V)} {k : Key} {v : V} (h : k ∉ kvs.map (·.1)) : putK kvs k v = kvs ++ [(k, v)] := by
  unfold putK
  rw [if_neg]
  intro z
  obtain ⟨p, hp, e⟩ := List.any_eq_true.mp z
  exact h (List.mem_map.mpr ⟨p, hp, of_decide_eq_true e⟩)
theorem mergeK_nodup : ∀ {more kvs : List (Key × V)}, (kvs.map (·.1) ++ more.map (·.1)).Nodup → mergeK kvs more = kvs ++ more
  | [], kvs, _ => by simp [mergeK]
  | (k, v) :: r, kvs, h => by
    have hk : k ∉ kvs.map (·.1) := fun z => by
      rw [List.nodup_append] at h
      exact h.2.2 k z k (by simp) rfl
    show mergeK (putK kvs k v) r = _
    rw [putK_new hk, mergeK_nodup]
    · simp
    · simpa using h
theorem keysD_rp {H : Hp} {α : Al} : ∀ {us : List (V × V)} {ps : List (D × D)} {ks : List Key}, PsRp K H α us ps → ps.map (fun p => keyD p.1) = ks.map some → ∃ kvs : List (Key × V), us = kvs.map (fun kv => (kV kv.1, kv.2)) ∧ kvs.map (·.1) = ks ∧ kvs.map (·.2) = us.map (·.2)
  | [], [], ks, _, h => by
    cases ks with
    | nil => exact ⟨[], rfl, rfl, rfl⟩
    | cons _ _ => cases h
  | [], _ :: _, _, h, _ => by cases h.1
  | _ :: _, [], _, h, _ => by cases h.1
  | (a, b) :: us, (x, y) :: ps, ks, h, hk => by
    cases ks with
    | nil => cases hk
    | cons k ks =>
      simp only [List.map_cons, List.cons.injEq] at hk
      obtain ⟨h1, h2⟩ := h
      cases h1 with
      | cons r1 r2 =>
        cases h2 with
        | cons r3 r4 =>
          obtain ⟨kvs, e1, e2, e3⟩ := keysD_rp (us := us) (ps := ps) (ks := ks) ⟨r2, r4⟩ hk.2
          refine ⟨(k, b) :: kvs, ?_, by simp [e2], by simp [e3]⟩
          have ea : a = kV k := keyD_rp r1 hk.1
          rw [ea, e1]
          rfl
theorem de_disp {trs : List (TE × TE)} (h : dPairs K trs ρ γ fun ps γ1 => ∃ ks, ps.map (fun p => keyD p.1) = ks.map some ∧ ks.Nodup ∧ ks.length ≤ 15 ∧ Q (.dic ks (ps.map (·.2))) γ1) : dE K (tDisp trs) ρ γ Q := fun σ H α q r g w => by
  intro p hp
  have e0 := ext_hid g (o := .dK []) hp
  refine dPairs_run h σ _ _ _ (r.mono e0) (ga_hid g hp) fun us H1 α1 ps γ1 h1 e1 g1 r1 => ?_
  obtain ⟨ks, hk, nd, hl, hq⟩ := h1
  obtain ⟨kvs, k1, k2, k3⟩ := keysD_rp r1 hk
  have inx : p ∈ (α.hid p).x := List.mem_cons_self
  have hp1 := e1.keepx p _ inx upd_same
  have inx1 : p ∈ α1.x := by
    obtain ⟨δ, e, _⟩ := e1.xx
    rw [e]
    exact List.mem_append_right _ inx
  subst k2
  refine ⟨hp1, kvs, k1, by simpa using hl, ?_⟩
  have em : mergeK [] kvs = kvs := by rw [mergeK_nodup (by simpa using nd)]; rfl
  rw [em]
  have ew := ext_setW g1 (o := .dK kvs) (.inr inx1)
  have e2 : Ext α H α1 (upd H1 p (.dK kvs)) := ext_hset g (e0.trans e1) hp
  have g2 := g.go (ga_hset0 g1.toGaOk (o := .dK kvs) inx1) e2
  have nh : p ∉ α1.h := fun z => g1.nd.2.2 p z inx1
  refine w _ _ (α1.un p) _ γ1 hq (ext_un g e2 hp) (g.go (ga_un0 g2.toGaOk) (ext_un g e2 hp)) (.dic (out_un nh) upd_same ?_)
  rw [k3]
  exact RpL.shw (α := α1) (α' := α1.un p) rfl un_x _ _ (RpL.monoW ew _ _ r1.2)
end
end DL

set_option Elab.async false
set_option linter.all false
set_option maxRecDepth 100000
set_option maxHeartbeats 2000000
namespace DL
open PySem PySem.Spec PyProof.Rows L2

/-! ### the statements' rules, component by component -/
section
variable {K : KX} {n : Nat} {ρ : Env} {γ : Ga} {nx bk ct : Env → Ga → Prop} {rt : QD} {t u : TS}
theorem xs_next (h : nx ρ γ) : dS K n tNext ρ γ ⟨nx, rt, bk, ct⟩ := ds_next h
theorem xs_brk (h : bk ρ γ) : dS K n tBreak ρ γ ⟨nx, rt, bk, ct⟩ := ds_brk h
theorem xs_cont (h : ct ρ γ) : dS K n tCont ρ γ ⟨nx, rt, bk, ct⟩ := ds_cont h
theorem xs_seq (h : dS K n t ρ γ ⟨fun ρ' γ' => dS K n u ρ' γ' ⟨nx, rt, bk, ct⟩, rt, bk, ct⟩) : dS K n (tSeq t u) ρ γ ⟨nx, rt, bk, ct⟩ := ds_seq h
theorem xs_if {c : TT} (h : dT K c ρ γ fun b γ' => if b = true then dS K n t ρ γ' ⟨nx, rt, bk, ct⟩ else dS K n u ρ γ' ⟨nx, rt, bk, ct⟩) : dS K n (tIfS c t u) ρ γ ⟨nx, rt, bk, ct⟩ := ds_if h
theorem xs_asg {te : TE} {g : TG} (h : dE K te ρ γ fun d γ' => ∃ is, dG K g d ρ γ' is nx) : dS K n (tAsg te g) ρ γ ⟨nx, rt, bk, ct⟩ := fun σ H α α0 H0 Dn hn e r g fe =>
  h σ H α _ r g fun v H1 α1 d γ1 ⟨is, h1⟩ e1 g1 r1 => h1 σ H1 α1 v _ (r.mono e1) g1 r1 fun σ2 H2 α2 ρ2 γ2 h2 _ e2 g2 r2 => fe.nx σ2 H2 α2 ρ2 γ2 h2 ((e.trans e1).trans e2) g2 r2
theorem xs_set {te : TE} {i : Nat} (h : dE K te ρ γ fun d γ' => nx (ρ.set i (some d)) γ') : dS K n (tAsg te (gName i)) ρ γ ⟨nx, rt, bk, ct⟩ := ds_set h
theorem xs_ret {te : TE} (h : dE K te ρ γ rt) : dS K n (tRet te) ρ γ ⟨nx, rt, bk, ct⟩ := ds_ret h
theorem xs_retN (h : rt .non γ) : dS K n tRetN ρ γ ⟨nx, rt, bk, ct⟩ := ds_retN h
theorem xs_expr {te : TE} (h : dE K te ρ γ fun _ γ' => nx ρ γ') : dS K n (tDrop te) ρ γ ⟨nx, rt, bk, ct⟩ := ds_expr h
theorem xs_par {i j : Nat} {ta : TA} (h : dA K ta ρ γ fun ds γ1 => ∃ x y, ds = [x, y] ∧ nx ((ρ.set i (some x)).set j (some y)) γ1) : dS K n (tPar i j ta) ρ γ ⟨nx, rt, bk, ct⟩ := ds_par h
theorem xs_fld {ta tv : TE} {f : Str} (h : dE K tv ρ γ fun d γ1 => dE K ta ρ γ1 fun r γ2 => ∃ k C ns vs, r = .loc k ∧ γ2[k]? = some (.ins C ns vs) ∧ Cls K C ∧ NoAttr K C f ∧ vs.length < 1000 ∧
      nx ρ (γ2.set k (.ins C (stored ns vs f d).1 (stored ns vs f d).2))) : dS K n (sFld K ta tv f) ρ γ ⟨nx, rt, bk, ct⟩ := ds_fld h
theorem xs_while {c : TT} {tb : TS} (P : Nat → Env → Ga → Prop) (h0 : ∃ m, P m ρ γ)
    (hs : ∀ m ρ γ, P m ρ γ → dT K c ρ γ fun b γ1 => if b = true then dS K n tb ρ γ1 ⟨fun ρ' γ' => ∃ m', m' < m ∧ P m' ρ' γ', rt, nx, fun ρ' γ' => ∃ m', m' < m ∧ P m' ρ' γ'⟩ else nx ρ γ1) :
    dS K n (tWhile c tb) ρ γ ⟨nx, rt, bk, ct⟩ := ds_while P h0 hs
theorem xs_for {wi : TI} {g : TG} {tb : TS} (is : List Nat) (h : dI K wi ρ γ fun ds γ1 => ∃ P : Nat → Env → Ga → Prop, P 0 ρ γ1 ∧
      (∀ i x ρ' γ', ds[i]? = some x → P i ρ' γ' → dG K g x ρ' γ' is fun ρ2 γ2 => dS K γ1.length tb ρ2 γ2 ⟨P (i + 1), rt, nx, P (i + 1)⟩) ∧
      ∀ ρ' γ', P ds.length ρ' γ' → nx ρ' γ') : dS K n (tFor wi g tb) ρ γ ⟨nx, rt, bk, ct⟩ := ds_for is h
end
section
variable {K : KX} {ρ : Env} {γ : Ga} {Q : QD}
theorem xe_var {i : Nat} (h : ∃ d, ρ[i]? = some (some d) ∧ Q d γ) : dE K (tVar i) ρ γ Q := de_var h.choose_spec.1 h.choose_spec.2
theorem xg_name {i : Nat} {d : D} {N : Env → Ga → Prop} (h : N (ρ.set i (some d)) γ) : ∃ is, dG K (gName i) d ρ γ is N := ⟨_, dg_name h⟩
theorem xg_tup {m : Nat} {gs : TGs} {ds : List D} {N : Env → Ga → Prop} (hl : ds.length = m) (h : ∃ is, dGs K gs ds ρ γ is N) : ∃ is, dG K (gTup K m gs) (.tup ds) ρ γ is N := ⟨_, dg_tup hl h.choose_spec⟩
theorem dg_lst {m : Nat} {gs : TGs} {x : D} {ds : List D} {is : List Nat} {N : Env → Ga → Prop} (hx : vw γ x = .lst ds) (hl : ds.length = m) (h : dGs K gs ds ρ γ is N) : dG K (gUnl K m gs) x ρ γ is N := fun σ H α v q r g rv w => by
  obtain ⟨a, us, rfl, h1, ru⟩ := lst_vw g rv hx
  exact ⟨_, _, rfl, SqL.of h1, ru.length.trans hl, h σ H α _ q r g ru w⟩
theorem xg_lst {m : Nat} {gs : TGs} {x : D} {N : Env → Ga → Prop} (h : ∃ ds, vw γ x = .lst ds ∧ ds.length = m ∧ ∃ is, dGs K gs ds ρ γ is N) : ∃ is, dG K (gUnl K m gs) x ρ γ is N := by
  obtain ⟨ds, h1, h2, is, h3⟩ := h
  exact ⟨is, dg_lst h1 h2 h3⟩
theorem xgs_nil {N : Env → Ga → Prop} (h : N ρ γ) : ∃ is, dGs K gNil [] ρ γ is N := ⟨_, dgs_nil h⟩
theorem dg_mono {g : TG} {d : D} {is : List Nat} {N N' : Env → Ga → Prop} (h : dG K g d ρ γ is N) (k : ∀ ρ' γ', N ρ' γ' → N' ρ' γ') : dG K g d ρ γ is N' := fun σ H α v q r g0 rv w =>
  h σ H α v q r g0 rv fun σ' H' α' ρ' γ' n s e g1 r1 => w σ' H' α' ρ' γ' (k _ _ n) s e g1 r1
/-- a name first, then the rest -/
theorem xgs_name {i : Nat} {gs : TGs} {d : D} {ds : List D} {N : Env → Ga → Prop} (h : ∃ is, dGs K gs ds (ρ.set i (some d)) γ is N) : ∃ is, dGs K (gCons (gName i) gs) (d :: ds) ρ γ is N := ⟨_, dgs_cons (dg_name h.choose_spec)⟩
theorem xg_setL {to ti : TE} {d : D} {N : Env → Ga → Prop} (h : dE K to ρ γ fun o γ1 => dE K ti ρ γ1 fun i γ2 => ∃ k xs z j, o = .loc k ∧ γ2[k]? = some (.lst xs) ∧ i = .int z ∧ ixN xs.length z = some j ∧ N ρ (γ2.set k (.lst (xs.set j d)))) :
    ∃ is, dG K (gSub to ti rSetL) d ρ γ is N := ⟨_, dg_setL h⟩
theorem iteb {b : Bool} {p q : Prop} (h1 : b = true → p) (h2 : b = false → q) : if b = true then p else q := by
  cases b with
  | true => exact h1 rfl
  | false => exact h2 rfl
/-! ### tuples of the text's top -/
theorem de_topB {x : Str} {vs : List He.Dv} {ds : List D} (h : He.tupB K x vs = true) (hr : ∀ H α, RpL K H α (vs.map (He.Dv.v K)) ds) (q : Q (.cst ds) γ) : dE K (tC (.ref (He.ga K x))) ρ γ Q := by
  refine de_top (vs := vs.map (He.Dv.v K)) ?_ hr q
  unfold TopS
  unfold He.tupB at h
  cases e : K.f.lookup (He.ga K x) with
  | none => rw [e] at h; cases h
  | some o =>
    obtain ⟨oc, od, dt, osl⟩ := o
    rw [e] at h
    cases oc with
    | type c =>
      cases dt with
      | seq its n =>
        obtain ⟨h1, h2⟩ := He.ba (show (decide (c = "tuple") && (decide (its.size ≤ sizeLine) && He.relAll (vs.map (He.Dv.v K)) its.toList)) = true from h)
        obtain ⟨h3, h4⟩ := He.ba h2
        exact ⟨_, its, n, rfl, congrArg Value.type (of_decide_eq_true h1), rfl, of_decide_eq_true h3, He.relAll_ok h4⟩
      | _ => cases h
    | _ => cases dt <;> cases h
/-- a list that will be changed -/
def tLstM (t : TA) : TE := tLst t
theorem xe_tup {t : TA} (h : dA K t ρ γ fun ds γ' => ds.length ≤ 1000000 ∧ Q (.tup ds) γ') : dE K (tTup t) ρ γ Q := de_tup fun σ H α q r g w => h σ H α q r g fun vs H' α' ds γ' h' => w vs H' α' ds γ' ⟨le24 h'.1, h'.2⟩
theorem xe_lst {t : TA} (h : dA K t ρ γ fun ds γ' => ds.length ≤ 1000000 ∧ Q (.lst ds) γ') : dE K (tLst t) ρ γ Q := de_lst fun σ H α q r g w => h σ H α q r g fun vs H' α' ds γ' h' => w vs H' α' ds γ' ⟨le24 h'.1, h'.2⟩
theorem xe_lstM {t : TA} (h : dA K t ρ γ fun ds γ' => ds.length ≤ 1000000 ∧ Q (.loc γ'.length) (γ' ++ [.lst ds])) : dE K (tLstM t) ρ γ Q := de_lstM (t := t) fun σ H α q r g w => h σ H α q r g fun vs H' α' ds γ' h' => w vs H' α' ds γ' ⟨le24 h'.1, h'.2⟩
/-! ### texts as lists of codes -/
def strsD (ls : List (List Nat)) : List D := ls.map fun l => .str (S l)
theorem radd_S {a b : List Nat} (hl : a.length + b.length ≤ 1000000) (q : Q (.str (S (a ++ b))) γ) : dR2 K (rAddG K) (.str (S a)) (.str (S b)) γ Q := radd_str (by rw [S_len, S_len]; exact hl) (by rw [S_app]; exact q)
theorem req_S {a b : List Nat} (q : Q (.bl (decide (a = b))) γ) : dR2 K (rEqG K) (.str (S a)) (.str (S b)) γ Q := req_str (by
  have e : decide (S a = S b) = decide (a = b) := by simp only [S_inj]
  rw [e]; exact q)
theorem rne_S {a b : List Nat} (q : Q (.bl (!decide (a = b))) γ) : dR2 K (rNeG K) (.str (S a)) (.str (S b)) γ Q := rne_str (by
  have e : decide (S a = S b) = decide (a = b) := by simp only [S_inj]
  rw [e]; exact q)
theorem rc_len_S {a : List Nat} (hl : a.length ≤ 1000000) (q : Q (.int (a.length : Nat)) γ) : dRC K (rLenG K) [.str (S a)] γ Q := rc_len_str (by rw [S_len]; exact hl) (by rw [S_len]; exact q)
theorem eqf_S {a b : List Nat} : eqf (.str (S a)) (.str (S b)) = decide (a = b) := by
  show (S a == S b) = _
  rw [Bool.eq_iff_iff, beq_iff_eq, S_inj, decide_eq_true_iff]
theorem inD_nil {x : D} : inD x [] = false := rfl
theorem inD_cons {x y : D} {ys : List D} : inD x (y :: ys) = (eqf y x || inD x ys) := rfl
theorem inD_strs {l : List Nat} : ∀ {ls : List (List Nat)}, inD (.str (S l)) (strsD ls) = decide (l ∈ ls)
  | [] => by simp [strsD, inD]
  | a :: ls => by
    have ih := @inD_strs l ls
    show (eqf (.str (S a)) (.str (S l)) || inD (.str (S l)) (strsD ls)) = _
    rw [ih, eqf_S, Bool.eq_iff_iff, Bool.or_eq_true, decide_eq_true_iff, decide_eq_true_iff, decide_eq_true_iff, List.mem_cons]
    exact ⟨fun h => h.elim (fun e => .inl e.symm) .inr, fun h => h.elim (fun e => .inl e.symm) .inr⟩
theorem strs_flat : ∀ {ls : List (List Nat)}, (strsD ls).all D.flat = true
  | [] => rfl
  | a :: ls => by
    show ((D.str (S a)).flat && (strsD ls).all D.flat) = true
    rw [strs_flat]; rfl
theorem rin_strs {y : D} {l : List Nat} {ls : List (List Nat)} (hy : SqD γ y (strsD ls)) (q : Q (.bl (decide (l ∈ ls))) γ) : dR2 K (rInG K) (.str (S l)) y γ Q :=
  rin_seq hy rfl strs_flat (by rw [inD_strs]; exact q)
theorem rni_strs {y : D} {l : List Nat} {ls : List (List Nat)} (hy : SqD γ y (strsD ls)) (q : Q (.bl (!decide (l ∈ ls))) γ) : dR2 K (rNiG K) (.str (S l)) y γ Q :=
  rni_seq hy rfl strs_flat (by rw [inD_strs]; exact q)
/-! ### existential forms -/
theorem xix_lst {x : D} {z : Int} (h : ∃ xs, vw γ x = .lst xs ∧ ∃ d, atI xs z = some d ∧ Q d γ) : dR2 K (rIx K) x (.int z) γ Q := by
  obtain ⟨xs, h1, d, h2, h3⟩ := h
  exact rix_lst h1 h2 h3
theorem xadd_lst {x y : D} (h : ∃ xs, vw γ x = .lst xs ∧ ∃ ys, vw γ y = .lst ys ∧ xs.length + ys.length ≤ 1000000 ∧ Q (.lst (xs ++ ys)) γ) : dR2 K (rAddG K) x y γ Q := by
  obtain ⟨xs, h1, ys, h2, h3, h4⟩ := h
  exact radd_lst h1 h2 h3 h4
theorem xix_tup {xs : List D} {z : Int} (h : ∃ d, atI xs z = some d ∧ Q d γ) : dR2 K (rIx K) (.tup xs) (.int z) γ Q := rix_tup h.choose_spec.1 h.choose_spec.2
theorem xix_str {l : List Nat} {z : Int} (hl : l.length ≤ 1000000) (h : ∃ c, atI l z = some c ∧ Q (.str (S [c])) γ) : dR2 K (rIx K) (.str (S l)) (.int z) γ Q := rix_str hl h.choose_spec.1 h.choose_spec.2
theorem xc_len {x : D} (h : ∃ xs, SqD γ x xs ∧ Q (.int (xs.length : Nat)) γ) : dRC K (rLenG K) [x] γ Q := rc_len h.choose_spec.1 h.choose_spec.2
theorem xm_append {x y : D} (h : ∃ k xs, x = .loc k ∧ γ[k]? = some (.lst xs) ∧ xs.length < 1000000 ∧ Q .non (γ.set k (.lst (xs ++ [y])))) : dRM K rAppend x [y] γ Q := by
  obtain ⟨k, xs, rfl, h1, h2, h3⟩ := h
  exact rm_append h1 h2 h3
theorem xt_app {T : String} {r : V → List V → Hp → VK → Prop} {to : TE} {t : TA} (h : dE K to ρ γ fun x γ1 => IsTy K T x γ1 ∧ dA K t ρ γ1 fun xs γ2 => dRM K r x xs γ2 Q) : dE K (tBM K T r to t) ρ γ Q := de_bm h
theorem xty_lst {x : D} (h : ∃ xs, vw γ x = .lst xs) : IsTy K "list" x γ := isTy_lst h.choose_spec
theorem at_nat {A : Type} {xs : List A} {j : Nat} {d : A} (h : xs[j]? = some d) : atI xs (j : Int) = some d := by
  have hl : j < xs.length := (List.getElem?_eq_some_iff.mp h).1
  unfold atI ixN
  rw [if_pos (Int.natCast_nonneg j), if_pos (by omega)]
  exact h
theorem at_int {A : Type} {xs : List A} {z : Int} {d : A} (h0 : 0 ≤ z) (h : xs[z.toNat]? = some d) : atI xs z = some d := by
  have := at_nat h
  rwa [Int.toNat_of_nonneg h0] at this
end
/-! ### comprehensions, tests that are known -/
section
variable {K : KX} {ρ : Env} {γ : Ga} {Q : QD}
theorem ift {p q : Prop} (h : p) : if true = true then p else q := h
theorem iff_ {p q : Prop} (h : q) : if false = true then p else q := h
theorem ifnt {p q : Prop} (h : q) : if (!true) = true then p else q := h
theorem ifnf {p q : Prop} (h : p) : if (!false) = true then p else q := h
theorem ifd {c : Prop} [Decidable c] {p q : Prop} (h1 : c → p) (h2 : ¬ c → q) : if decide c = true then p else q := by
  by_cases hc : c
  · rw [if_pos (decide_eq_true hc)]; exact h1 hc
  · rw [if_neg (by simpa using hc)]; exact h2 hc
theorem ifnd {c : Prop} [Decidable c] {p q : Prop} (h1 : ¬ c → p) (h2 : c → q) : if (!decide c) = true then p else q := by
  by_cases hc : c
  · rw [if_neg (by simpa using hc)]; exact h2 hc
  · rw [if_pos (by simpa using hc)]; exact h1 hc
theorem xc_isi {x : D} {U : String} (h : ∃ T b, tyName γ x = some T ∧ kitB T U = some b ∧ Q (.bl b) γ) : dRC K (rIsi K) [x, .ty U] γ Q := by
  obtain ⟨T, b, h1, h2, h3⟩ := h
  exact rc_isi h1 h2 h3
theorem dt_yes {q : Bool → Ga → Prop} (h : q true γ) : dT K tYes ρ γ q := fun σ H α k r g w => w true H α γ h g.refl g
theorem xe_lcN {A : Type} {i : Nat} {wi : TI} {te : TE} {vs : List Nat} (xs : List A) (a b : A → D) (hv : i ∈ vs) (h : dI K wi ρ γ fun ds γ1 => ds = xs.map a ∧ xs.length ≤ 1000000 ∧
    (∀ x ∈ xs, dE K.cm te ((wipeE ρ vs).set i (some (a x))) γ1 fun y γ3 => y = b x ∧ γ3 = γ1) ∧ Q (.lst (xs.map b)) γ1) : dE K (tLc wi (gName i) tYes te vs) ρ γ Q := by
  refine de_lc [i] (by intro j hj; simp at hj; subst hj; exact hv) fun σ H α r rr g w => h σ H α r rr g fun J H' α' γ1 ds hh e g' wk => w J H' α' γ1 ds ?_ e g' wk
  obtain ⟨rfl, hl, he, hq⟩ := hh
  refine ⟨by simpa using hl, fun j acc γ' => γ' = γ1 ∧ acc = (xs.take j).map b, ⟨rfl, rfl⟩, ?_, ?_⟩
  · rintro j x acc γ' hx ⟨rfl, rfl⟩
    refine dg_name (dt_yes ?_)
    rw [if_pos rfl]
    rw [List.getElem?_map] at hx
    cases ex : xs[j]? with
    | none => rw [ex] at hx; cases hx
    | some y =>
      rw [ex] at hx
      cases hx
      refine de_mono (he y (List.mem_of_getElem? ex)) ?_
      rintro d γ3 ⟨rfl, rfl⟩
      refine ⟨rfl, ?_⟩
      rw [List.take_add_one, ex]
      simp
  · rintro acc γ' ⟨rfl, rfl⟩
    rw [List.length_map, List.take_length]
    exact hq
theorem chrsD_S {l : List Nat} : chrsD (S l) = l.map fun c => .str (S [c]) := by
  unfold chrsD
  rw [S_l]
  rfl
theorem map_bl {A : Type} {xs : List A} {b : A → Bool} : xs.map (fun x => D.bl (b x)) = (xs.map b).map D.bl := by rw [List.map_map]; rfl
theorem set_get {γ : Ga} {k : Nat} {a b : MO} (h : γ[k]? = some a) : (γ.set k b)[k]? = some b := by
  have hl : k < γ.length := (List.getElem?_eq_some_iff.mp h).1
  rw [List.getElem?_set_self hl]
theorem set_set {γ : Ga} {k : Nat} {a b : MO} : (γ.set k a).set k b = γ.set k b := by rw [List.set_set]
theorem dS_env {n : Nat} {t : TS} {ρ ρ' : Env} {B : DEnds} (e : ρ = ρ') (h : dS K n t ρ' γ B) : dS K n t ρ γ B := by rw [e]; exact h
end
/-! ### a stream's first number -/
section
variable {K : KX} {ρ : Env} {γ : Ga} {Q : QD}
theorem xs_cut {n : Nat} {t u : TS} {nx bk ct : Env → Ga → Prop} {rt : QD} (N : Env → Ga → Prop) (h1 : dS K n t ρ γ ⟨N, rt, bk, ct⟩) (h2 : ∀ ρ' γ', N ρ' γ' → dS K n u ρ' γ' ⟨nx, rt, bk, ct⟩) : dS K n (tSeq t u) ρ γ ⟨nx, rt, bk, ct⟩ :=
  xs_seq fun σ H α α0 H0 Dn hn e r g f => h1 σ H α α0 H0 Dn hn e r g ⟨fun σ' H' α' ρ' γ' h e' g' r' => f.nx σ' H' α' ρ' γ' (h2 _ _ h) e' g' r', f.rt, f.bk, f.ct⟩
theorem ints_pl : ∀ cs : List Int, plL (cs.map D.int) = true
  | [] => rfl
  | c :: cs => by
    show ((D.int c).pl && plL (cs.map D.int)) = true
    rw [ints_pl cs]; rfl
theorem ints_shaped : ∀ cs : List Int, PyData.canLayAll0 (pyL (cs.map D.int)) = true ∧ PyData.depthAll (pyL (cs.map D.int)) = 0
  | [] => ⟨by simp [pyL, PyData.canLayAll0], by simp [pyL, PyData.depthAll]⟩
  | c :: cs => by
    obtain ⟨h1, h2⟩ := ints_shaped cs
    refine ⟨?_, ?_⟩
    · simp [pyL, PyData.canLayAll0, D.py, PyData.canLay0, h1]
    · simp [pyL, PyData.depthAll, D.py, PyData.depth, h2]
theorem rne_nil {x : D} {cs : List Int} (hx : vw γ x = .lst (cs.map D.int)) (q : Q (.bl (decide (cs ≠ []))) γ) : dR2 K (rNeG K) x (.lst []) γ Q := by
  refine rne_D (by rw [hx]; exact ints_pl cs) rfl (by rw [hx]; obtain ⟨h1, h2⟩ := ints_shaped cs; simp [D.py, SeqAt.shaped, PyData.canLay0, PyData.depth, h1, h2]) rfl ?_
  rw [hx]
  cases cs with
  | nil => exact q
  | cons c cs => exact q
theorem rm_pop0 {k : Nat} {xs : List D} {y : D} (hk : γ[k]? = some (.lst (y :: xs))) (q : Q y (γ.set k (.lst xs))) : dRM K rPopAt (.loc k) [.int 0] γ Q :=
  rm_popAt hk (by decide) (by decide) (j := 0) (by simp [seqIndex?]) rfl q
end
/-! ### dicts that are written out -/
section
variable {K : KX} {ρ : Env} {γ : Ga} {Q : QD}
theorem xp_nil {q : List (D × D) → Ga → Prop} (h : q [] γ) : dPairs K [] ρ γ q := h
theorem xp_cons {tk tv : TE} {r : List (TE × TE)} {q : List (D × D) → Ga → Prop} (h : dE K tk ρ γ fun k γ1 => dE K tv ρ γ1 fun v γ2 => dPairs K r ρ γ2 fun ps γ3 => q ((k, v) :: ps) γ3) : dPairs K ((tk, tv) :: r) ρ γ q := h
theorem keys_all : ∀ ps : List (D × D), ps.all (fun p => (keyD p.1).isSome) = true → ps.map (fun p => keyD p.1) = (ps.filterMap fun p => keyD p.1).map some
  | [], _ => rfl
  | p :: ps, h => by
    rw [List.all_cons, Bool.and_eq_true] at h
    obtain ⟨k, hk⟩ := Option.isSome_iff_exists.mp h.1
    rw [List.map_cons, List.filterMap_cons, hk, keys_all ps h.2]
    rfl
theorem dPairs_mono : ∀ {trs : List (TE × TE)} {γ : Ga} {q q' : List (D × D) → Ga → Prop}, dPairs K trs ρ γ q → (∀ ps γ', q ps γ' → q' ps γ') → dPairs K trs ρ γ q'
  | [], _, _, _, h, k => k _ _ h
  | (tk, tv) :: r, _, _, _, h, k => de_mono h fun _ _ h1 => de_mono h1 fun _ _ h2 => dPairs_mono h2 fun ps γ' h3 => k _ _ h3
theorem xe_disp {trs : List (TE × TE)} (h : dPairs K trs ρ γ fun ps γ1 => ps.all (fun p => (keyD p.1).isSome) = true ∧ (ps.filterMap fun p => keyD p.1).Nodup ∧ ps.length ≤ 15 ∧ Q (.dic (ps.filterMap fun p => keyD p.1) (ps.map (·.2))) γ1) : dE K (tDisp trs) ρ γ Q := by
  refine de_disp (dPairs_mono h ?_)
  rintro ps γ1 ⟨h1, h2, h3, h4⟩
  exact ⟨_, keys_all ps h1, h2, Nat.le_trans (List.length_filterMap_le _ _) h3, h4⟩
end
/-! ### a law's start -/
theorem only_ga {K : Frag} {H : Hp} : GaOk K H ⟨[], []⟩ [] := ⟨⟨List.nodup_nil, List.nodup_nil, fun _ h => by simp at h⟩, rfl, fun _ _ _ h => by simp at h, fun _ h => by simp at h⟩
theorem ints_rp {K : Frag} {H : Hp} {α : Al} : ∀ ns : List Int, RpL K H α (ns.map V.int) (ns.map D.int)
  | [] => .nil
  | n :: ns => .cons (.int n) (ints_rp ns)
end DL

set_option Elab.async false
set_option linter.all false
set_option maxRecDepth 100000
set_option maxHeartbeats 2000000
namespace DL
open PySem PySem.Spec PyProof.Rows L2

/-! ### a law's own def; a def that is never called -/
/-- what the law is called with, and what it answers -/
def spLaw (K : Frag) : Sp := fun vs H Q E => ∃ a, ∃ ns : List Int, vs = [.ref a] ∧ ns.length ≤ 63 ∧ SqL K H a (ns.map V.int) ∧ ∀ v H', v = .bl true → Q v H'
def tStream (K : Frag) : TS := tAsg (tLst (tCons (tCB (rListOf K) (tCons (tVar 0) tNil)) (tCons (tC (.int 0)) (tCons (tC (.int 0)) (tCons (tC (.int 0)) tNil))))) (gName 1)
def dLaw (K : Frag) (N : List Str) (u : WX → TS) : Prop := ∀ a, ∀ ns : List Int, ns.length ≤ 63 →
  dS ⟨K, W0, fun _ => noX⟩ 2 (u W0) (([some (D.ref a)] ++ List.replicate (N.length - 1) none).set 1 (some (.loc 1))) [.lst (ns.map D.int), .lst [.loc 0, .int 0, .int 0, .int 0]] ⟨fun _ _ => False, fun d _ => d = .bl true, fun _ _ => False, fun _ _ => False⟩
theorem fn_law {P : Program} {w : World} {K : Frag} {mg : Str → Option Value} {base : Heap} {k : Nat} {f : Addr} {x qual : Str} {params : Arguments} {body : List Stmt} {scope : Scope} {dvs : List V} {kws : List (Str × V)} {fd : FuncData} {N : List Str} {p : Str}
    (F : FunD K x qual params body scope dvs kws f fd) (sc : FnScope N [p] scope) (u : WX → TS)
    (der : ∀ (cdv : Value) (A : Around) (outer : List PySem.Env) (s : Shared) (H : Hp) (E : XK), Room k (cxOf (L2.CX P w) P w K mg base N qual scope f cdv A outer s H E).A → (cxOf (L2.CX P w) P w K mg base N qual scope f cdv A outer s H E).A.guards = some [] →
      Takes (cxOf (L2.CX P w) P w K mg base N qual scope f cdv A outer s H E) W0 → PassesOwn (model P w) (cxOf (L2.CX P w) P w K mg base N qual scope f cdv A outer s H E).A (cxOf (L2.CX P w) P w K mg base N qual scope f cdv A outer s H E).env (cxOf (L2.CX P w) P w K mg base N qual scope f cdv A outer s H E).xe →
      PSs (cxOf (L2.CX P w) P w K mg base N qual scope f cdv A outer s H E) body (tSeq (tStream K) (u W0)))
    (h : dLaw K N u) : FnG P w K mg base (L2.CX P w) (k + 1) f fd [p] (spLaw K) := by
  refine fnG_of F sc (fun vs H Q E hs => ?_) fun cdv A outer s0 H vs Q E room gd hs => ⟨_, der cdv A outer s0 H E room gd ((takes_of rfl rfl rfl rfl).imp fun _ _ _ _ h => h.elim) (passes_of rfl), ?_⟩
  · obtain ⟨a, ns, rfl, _⟩ := hs
    rfl
  · obtain ⟨a, ns, rfl, hl, hS, hQ⟩ := hs
    refine ⟨.ref a, by unfold L2.start; rfl, a, ns.map V.int, rfl, .inl hS, fun l hl1 => ⟨by show 4 ≤ sizeLine; decide, fun q hq => ?_⟩⟩
    have hne : q ≠ l := fun e => by subst e; rw [upd_same] at hq; cases hq
    let H2 : Hp := upd (upd H l (.lst (ns.map V.int))) q (.lst [.ref l, .int 0, .int 0, .int 0])
    have hHl : H2 l = some (.lst (ns.map V.int)) := by show upd _ q _ l = _; rw [upd_ne (Ne.symm hne), upd_same]
    have hHq : H2 q = some (.lst [.ref l, .int 0, .int 0, .int 0]) := upd_same
    have g0 : GaOk K H2 ⟨[l, q], []⟩ [.lst (ns.map D.int), .lst [.loc 0, .int 0, .int 0, .int 0]] := by
      refine ⟨⟨by simp [Ne.symm hne], List.nodup_nil, fun _ _ h => by simp at h⟩, rfl, ?_, fun _ h => by simp at h⟩
      intro k b m hk hm
      match k, hk, hm with
      | 0, hk, hm =>
        cases hk; cases hm
        exact ⟨_, hHl, ints_rp ns⟩
      | 1, hk, hm =>
        cases hk; cases hm
        exact ⟨_, hHq, .cons (.loc rfl) (.cons (.int 0) (.cons (.int 0) (.cons (.int 0) .nil)))⟩
      | k + 2, hk, hm => cases hk
    have g : GaX ⟨K, W0, fun _ => noX⟩ H2 ⟨[l, q], []⟩ [.lst (ns.map D.int), .lst [.loc 0, .int 0, .int 0, .int 0]] := ⟨g0, fun _ _ _ _ _ _ _ _ _ h => h.elim⟩
    have r0 : RpE K H2 ⟨[l, q], []⟩ (L2.start N [.ref a]) ([D.ref a].map some ++ List.replicate (N.length - [D.ref a].length) none) := rpe_start (.cons (.ref a) .nil) N
    have r1 := r0.set 1 (v := .ref q) (d := .loc 1) (.loc rfl)
    refine h a ns hl _ H2 ⟨[l, q], []⟩ ⟨[l, q], []⟩ H2 _ rfl g.refl r1 g ⟨?_, ?_, ?_, ?_⟩
    · intro σ1 H1 α1 ρ1 γ1 h1
      exact h1.elim
    · rintro v H1 α1 d γ1 rfl e1 g1 r1
      cases r1
      exact hQ _ _ rfl
    · intro σ1 H1 α1 ρ1 γ1 h1
      exact h1.elim
    · intro σ1 H1 α1 ρ1 γ1 h1
      exact h1.elim
theorem pk_never {P : Program} {w : World} {K : Frag} {mg : Str → Option Value} {base : Heap} {k : Nat} {a : Str × Option Str} {x qual : Str} {params : Arguments} {body : List Stmt} {scope : Scope} {dvs : List V} {kws : List (Str × V)} {N ps : List Str}
    (F : ∃ fd, FunD K x qual params body scope dvs kws (He.fAd K a) fd) (sc : FnScope N ps scope) (hb : ∀ fd, FunD K x qual params body scope dvs kws (He.fAd K a) fd → Binds K fd ps []) : Pk P w K mg base (k + 1) a ps (fun _ _ _ _ => False) := by
  obtain ⟨fd, F⟩ := F
  exact ⟨fd, fnG_of F sc (fun vs H Q E ⟨_, _, _, _, _, _, _, h, _⟩ => h.elim) fun cdv A outer s0 H vs Q E room gd ⟨_, _, _, _, _, _, _, h, _⟩ => h.elim, F.kp, hb fd F⟩
end DL

set_option Elab.async false
set_option linter.all false
set_option maxRecDepth 100000
set_option maxHeartbeats 2000000
namespace DL
open PySem PySem.Spec PyProof.Rows L2

/-! ### dicts of the text's top, text keys -/
structure KVal (K : Frag) (x : Str) (kvs : List (Str × He.Dv)) : Prop where
  yes : ∀ p ∈ kvs, ∃ u, PySem.W.nsIn K (He.ga K x) p.1 = some (some u) ∧ RelV (p.2.v K) u
  no : ∀ z, z ∉ kvs.map (·.1) → PySem.W.nsIn K (He.ga K x) z = some none
theorem nsIn_none {K : Frag} {P : Params} {a : Addr} {ks : List Str} {z : Str} (h : He.dicW K a = some (He.keysIn P ks)) (hz : z ∉ ks) : PySem.W.nsIn K a z = some none := by
  unfold He.dicW at h
  unfold PySem.W.nsIn
  cases q : K.lookup a with
  | none => rw [q] at h; cases h
  | some o =>
    obtain ⟨oc, od, dt, osl⟩ := o
    rw [q] at h
    cases oc with
    | type c =>
      cases od with
      | none =>
        cases dt with
        | dict es n =>
          have h1 : (match decide (c = "dict") && (osl.isEmpty && !(a == sysModules)) with
            | true => some (es.toList.map He.keyOf)
            | false => none) = some (He.keysIn P ks) := h
          cases z1 : decide (c = "dict") && (osl.isEmpty && !(a == sysModules)) with
          | false => rw [z1] at h1; cases h1
          | true =>
            rw [z1] at h1
            have h2 : es.toList.map He.keyOf = He.keysIn P ks := Option.some.inj h1
            have hk : ∀ e ∈ es.toList, ∃ k ∈ ks, ∃ t, e.key = .str k t := by
              intro e he
              have h3 : He.keyOf e ∈ He.keysIn P ks := h2 ▸ List.mem_map_of_mem he
              unfold He.keysIn at h3
              obtain ⟨k, hk, e3⟩ := List.mem_map.mp h3
              unfold He.keyOf at e3
              split at e3
              · rename_i y t q2
                have := (Prod.mk.inj (Option.some.inj e3)).1
                exact ⟨k, hk, t, by rw [q2, this]⟩
              · cases e3
            show (match es.toList.find? (·.key.isStr z) with
              | some e => some (some e.val)
              | none => if es.toList.any (·.refKey) then none else some none) = some none
            have f1 : es.toList.find? (·.key.isStr z) = none := by
              rw [List.find?_eq_none]
              intro e he
              obtain ⟨k, hk1, t, e4⟩ := hk e he
              rw [e4]
              intro hh
              have : k = z := by
                first
                  | (simp [Value.isStr] at hh; exact hh)
                  | (simp [Value.isStr] at hh; exact hh.symm)
              exact hz (this ▸ hk1)
            have f2 : es.toList.any (·.refKey) = false := by
              rw [List.any_eq_false]
              intro e he
              obtain ⟨k, hk1, t, e4⟩ := hk e he
              simp [DictEntry.refKey, e4]
            rw [f1, f2]
            rfl
        | _ => cases h
      | some b => cases dt <;> cases h
    | _ => cases od <;> cases dt <;> cases h
theorem ktab_of {fa : List He.Fa} {fn : List He.DefD} {ts : List He.Tab} {w : World} {K : Frag} {x : Str} {kvs : List (Str × He.Dv)} (c : He.SaysT fa fn ts w K) (i : Nat) (h : ts[i]? = some ((fun K => He.ga K x), kvs.map (·.1)))
    (hv : He.valsB K (He.ga K x) kvs = true) : (∃ es n, KDict K w (He.ga K x) es n) ∧ KVal K x kvs := by
  have e : ts.map (fun t => He.dicW K (t.1 K)) = ts.map fun t => some (He.keysIn w.params t.2) := congrArg (fun z : He.AlT => z.2) c
  have e2 : (ts.map fun t => He.dicW K (t.1 K))[i]? = (ts.map fun t => some (He.keysIn w.params t.2))[i]? := by rw [e]
  rw [List.getElem?_map, List.getElem?_map, h] at e2
  have e3 : He.dicW K (He.ga K x) = some (He.keysIn w.params (kvs.map (·.1))) := Option.some.inj e2
  exact ⟨He.dicW_ok e3, fun p hp => He.valsB_ok hv hp, fun z hz => nsIn_none e3 hz⟩
/-- D[e] -/
def rKIx (K : Frag) (x : Str) : R2 := fun a b H Q => ∃ (z : Str) (u : Value) (v : V), a = .ref (He.ga K x) ∧ b = .str z ∧ PySem.W.nsIn K (He.ga K x) z = some (some u) ∧ RelV v u ∧ Q v H
theorem ix_kd {X : Cx} {x : Str} {es : Array DictEntry} {n : Nat} (D : KDict X.K X.w (He.ga X.K x) es n) : IxR X (rKIx X.K x) := by
  intro value slice pins s σ H x y v u Q I rx ry h hs
  obtain ⟨z, u0, v0, rfl, rfl, e, r, q⟩ := h
  cases rx
  obtain ⟨t, rfl⟩ := ry
  exact tail_any (kd_type D I) PySem.F.slot_dict_getitem.lookup (wpAny_getItem_of (PySem.strKind_is X.prog X.w z t) (PySem.W.mapOf_K (prog := X.prog) I.kIn D.at_ D.lit) (PySem.W.find_K D.at_ e) ⟨v0, H, I.tok _, r, q⟩) hs
/-- D.get(e, f) -/
def tKGet2 (K : Frag) (x : Str) (td ty tx : TE) : TE := fun σ H Q => td σ H fun a H1 => a = .ref (He.ga K x) ∧ ty σ H1 fun y H2 => tx σ H2 fun z H3 => ∃ s r, y = .str s ∧ PySem.W.nsIn K (He.ga K x) s = some r ∧ (∀ u, r = some u → ∃ v, RelV v u ∧ Q v H3) ∧ (r = none → Q z H3)
theorem pe_kget2 {X : Cx} {x : Str} {o e f : Expr} {td ty tx : TE} {apos cpos : Pos} (D : ∃ es n, KDict X.K X.w (He.ga X.K x) es n) (ho : PE X o td) (he : PE X e ty) (hf : PE X f tx) (m : M2 X o "get" apos e f cpos) : PE X (.Call (.Attribute o "get" apos) [e, f] [] cpos) (tKGet2 X.K x td ty tx) := by
  obtain ⟨es, n, D⟩ := D
  refine ⟨fun pins s σ H Q I h => ?_⟩
  refine wpAny_Call_method m.base m.few m.line PySem.F.plainAttrs_dict PySem.F.slot_dict_get PySem.F.type_dict_get (thn (ho.run pins s σ H _ I h) fun u s1 ⟨y, H1, I1, rx, ex, q1⟩ => ?_)
  subst ex
  obtain rfl : u = Value.ref (He.ga X.K x) := rx
  refine ⟨kd_type D I1, fun b hb => ?_, ?_⟩
  · cases hb
    exact ⟨_, I1.kIn _ _ D.at_, rfl⟩
  rw [m.trees]
  refine Calls.callWith_builtin rfl (Calls.evalArgs_plain (Calls.spliced_cons (thn (he.run pins s1 σ H1 _ I1 q1) fun iv s2 ⟨y, H2, I2, ry, q2⟩ =>
    Calls.spliced_cons (thn (hf.run pins s2 σ H2 _ I2 q2) fun fv s3 ⟨z, H3, I3, rz, st, r, ey, en, q3, q4⟩ => Calls.spliced_nil ?_))))
  subst ey
  obtain ⟨t, rfl⟩ := ry
  refine call_meetsIn PySem.F.slot_dict_get (kd_type D I3) PySem.F.entry_dict_get (PySem.F.args_dict_get_3 _ _ _) (meets_dict_get_default (strKind X.prog X.w) _ (PySem.strKind_is X.prog X.w st t) D.low fv) ⟨_, PySem.W.mapOf_K (prog := X.prog) I3.kIn D.at_ D.lit, ?_⟩
  rw [PySem.W.find_K D.at_ en]
  cases r with
  | none => exact ⟨z, H3, I3.tok _, rz, q4 rfl⟩
  | some u =>
    obtain ⟨v, rv, q5⟩ := q3 u rfl
    exact ⟨v, H3, I3.tok _, rv, q5⟩

/-! ### .. by data: a table of ints -/
abbrev kvI (tb : List (List Nat × Int)) : List (Str × He.Dv) := tb.map fun p => (S p.1, .int p.2)
section
variable {K : KX} {ρ : Env} {γ : Ga} {Q : QD} {x : Str} {tb : List (List Nat × Int)}
theorem look_some : ∀ {tb : List (List Nat × Int)} {w : List Nat} {i : Int}, tb.lookup w = some i → (S w, (He.Dv.int i)) ∈ kvI tb
  | [], w, i, h => by cases h
  | (a, b) :: r, w, i, h => by
    rw [List.lookup_cons] at h
    by_cases e : (w == a) = true
    · rw [e] at h
      cases h
      rw [beq_iff_eq] at e
      subst e
      exact List.mem_cons_self
    · rw [Bool.not_eq_true] at e
      rw [e] at h
      exact List.mem_cons_of_mem _ (look_some h)
theorem look_none : ∀ {tb : List (List Nat × Int)} {w : List Nat}, tb.lookup w = none → S w ∉ (kvI tb).map (·.1)
  | [], w, h => by simp
  | (a, b) :: r, w, h => by
    rw [List.lookup_cons] at h
    by_cases e : (w == a) = true
    · rw [e] at h; cases h
    · rw [Bool.not_eq_true] at e
      rw [e] at h
      intro hm
      rcases List.mem_cons.mp hm with hm | hm
      · have : w = a := S_inj.mp hm
        rw [this] at e
        simp at e
      · exact look_none h hm
def dOr : Option Int → D → D
  | some i, _ => .int i
  | none, z => z
theorem rk_ix {w : List Nat} {i : Int} (T : KVal K x (kvI tb)) (h : tb.lookup w = some i) (q : Q (.int i) γ) : dR2 K (rKIx K x) (.ref (He.ga K x)) (.str (S w)) γ Q := fun H α a b k g r1 r2 wv => by
  cases r1; cases r2
  obtain ⟨u, h1, h2⟩ := T.yes _ (look_some h)
  exact ⟨S w, u, _, rfl, rfl, h1, h2, wv _ H α _ γ q g.refl g (.int i)⟩
theorem de_kget2 {td ty tx : TE} (T : KVal K x (kvI tb)) (h : dE K td ρ γ fun d γ1 => d = .ref (He.ga K x) ∧ dE K ty ρ γ1 fun y γ2 => dE K tx ρ γ2 fun z γ3 => ∃ w, y = .str (S w) ∧ Q (dOr (tb.lookup w) z) γ3) : dE K (tKGet2 K x td ty tx) ρ γ Q := fun σ H α q r g wv =>
  h σ H α _ r g fun v H1 α1 d γ1 ⟨ed, h1⟩ e1 g1 r1 => by
    subst ed
    cases r1
    refine ⟨rfl, h1 σ H1 α1 _ (r.mono e1) g1 fun y H2 α2 yd γ2 h2 e2 g2 r2 => h2 σ H2 α2 _ ((r.mono e1).mono e2) g2 fun z H3 α3 zd γ3 ⟨w, ey, hq⟩ e3 g3 r3 => ?_⟩
    subst ey
    cases r2
    cases hl : tb.lookup w with
    | none =>
      rw [hl] at hq
      exact ⟨_, none, rfl, T.no _ (look_none hl), (fun u hu => by cases hu), fun _ => wv _ H3 α3 _ γ3 hq ((e1.trans e2).trans e3) g3 r3⟩
    | some i =>
      rw [hl] at hq
      obtain ⟨u, h4, h5⟩ := T.yes _ (look_some hl)
      refine ⟨_, some u, rfl, h4, fun u' hu => ?_, fun hh => by cases hh⟩
      cases hu
      exact ⟨_, h5, wv _ H3 α3 _ γ3 hq ((e1.trans e2).trans e3) g3 (.int i)⟩
end
end DL

set_option Elab.async false
set_option linter.all false
set_option maxRecDepth 100000
set_option maxHeartbeats 2000000
namespace DL
open PySem PySem.Spec PyProof.Rows L2
/-! ### a statement that is never reached (a raise that no input meets) -/
def tNo : TS := fun _ _ _ => False
theorem ps_no {X : Cx} {s : Stmt} : PS X s tNo := ⟨fun _ _ _ _ _ _ h => h.elim⟩
end DL

set_option Elab.async false
set_option linter.all false
set_option maxRecDepth 100000
set_option maxHeartbeats 4000000
/-! an own exception's __init__ that says super().__init__(..) -/
namespace DL
open PySem PySem.Spec PyProof.Rows L2 NdefX

/-- what the written part says of the class at C and its __init__, the function F at f -/
structure SupI (prog : Program) (K : Frag) (mg : Str → Option Value) (C f : Addr) (F : NF) : Prop where
  fn : ∃ oc od osl dV kV doc pm an ct, K.lookup f = some ⟨oc, od, .func (PySem.W.fnX F.name F.qual F.params F.body F.scope F.cl dV kV doc pm an (.ref F.c) ct), osl⟩
  code : PySem.W.codeIn K (.ref F.c) F.qual = true
  file : ∃ ccl cdd vs ccs file tf, K.lookup F.c = some ⟨ccl, cdd, .fields vs, ccs⟩ ∧ vs[2]? = some (.str file tf) ∧ ((prog.main.file : Str) == file) = true
  cell : ∃ cc, F.cl = [(("__class__" : Str), cc)] ∧ ∃ cl cld csl, K.lookup cc = some ⟨cl, cld, .cell (some (.ref C)), csl⟩
  cls : ∃ cd, PySem.W.clsIn K C = some cd
  sub : PySem.W.mroIn K C (.ref C) = some true
  opq : PySem.W.nsIn K cStatics "thirdparty.any" = some none
  sup : PySem.W.ks_superIn K C C ("__init__" : Str) = some (some (.builtin "ValueError.__init__"))
  isV : PySem.W.subIn K (.ref C) (.type "ValueError") = some true
  mgs : mg "super" = none
  top : (prog.main.scope.names.lookup ("super" : Str)).isSome = false
theorem exc_fin {A : Around} {E : Value → Shared → Prop} {prog : Program} {w : World} {h : Heap} {g : Array GenState} {d : Drawn} {t : Nat} {os : OsState} {nm q : Str} {C N : Addr} {bs bm : List Value} {sn : List Str} {sub : List Value} {ab : Bool} {col : Option Bool} {dd : Option Addr} {k0 k1 k2 k3 k5 : Option Value}
    {u x t0 : Addr} {rest : List Value} {Q : Value → Shared → Prop} (hC : h.get? C = some (excClassObj nm q C N bs bm true sn sub ab col dd k0 k1 k2 k3 k5 "ValueError.__new__"))
    (he : h.get? x = some ({ cls := .ref C, dict := none, data := .fields #[.ref t0, .none, .none, .none, .bool false, .none] } : Obj)) (hu : h.get? u = some (PySem.W.kxs_mw "ValueError.__init__" x)) (hz : rest.length ≤ sizeLine)
    (hq : ∀ h' t1, (∀ b o, b ≠ x → h.get? b = some o → h'.get? b = some o) → h'.get? x = some ({ cls := .ref C, dict := none, data := .fields #[.ref t1, .none, .none, .none, .bool false, .none] } : Obj) → Q .none ⟨h', g, d, t, os⟩) :
    wpAny (model prog w) A (call (.ref u) rest) Q E ⟨h, g, d, t, os⟩ := by
  have FB := F.excBase_ValueError
  refine wpAny_call (codeAny_of_tree ?_)
  show wpAny _ A.in1 (callAny (.ref u) ⟨rest, []⟩) _ _ _
  simp only [callAny]
  refine wpAny_bind (wpAny_load hu ?_)
  simp only [PySem.W.kxs_mw, show (Value.type "method-wrapper" == Value.type "method" || Value.type "method-wrapper" == Value.type "builtin_function_or_method" || Value.type "method-wrapper" == Value.type "method-wrapper") = true by decide, if_true]
  refine PySem.W.KFB.if_so (by decide) ?_
  refine wpAny_bind (PySem.W.check_bound_init FB.toExcCallFacts hC he rfl ?_)
  refine wpAny_bind (wpAny_pure (wpAny_pure ?_))
  refine ⟨plainId_quiet FB.init.plain _, codeAny_builtin FB.initEntry ?_⟩
  exact PySem.W.exc_init_tree (cls := .ref C) (t0 := t0) (dv := none) (c2 := .none) (c3 := .none) (b4 := .bool false) he hz fun h' k e' _ => hq h' _ k e'
section
variable {X : Cx} {F : NF} {f C x : Addr} {σ : L2.St} {H : Hp} {s : Shared}
theorem super_stmt {e : Expr} {es : List Expr} {ta : TA} {p0 p1 p2 p3 p4 : Pos} {ar : Arg} {body : List Stmt} {Q : Flow → Shared → Prop} {L : Addr} (T : OexC X.K C) (S : SupI X.prog X.K X.mg C f F) (henv : X.env = PySem.W.envX F.qual F.scope L f (.ref F.c) F.cl)
    (hks : F.scope.names.lookup ("super" : Str) = some .globalImplicit) (hkc : F.scope.names.lookup ("__class__" : Str) = some .free) (hka : F.scope.names.lookup ar.arg = some .local)
    (hp : (F.params.posonlyargs ++ F.params.args).head? = some ar) (hN : X.N[0]? = some ar.arg)
    (I : Inv X [] σ H s) (h0 : σ[0]? = some (some (.ref x))) (hx : H x = some (exo x C none)) (ha : PA X (e :: es) ta) (hta : ∀ q : List V → Hp → Prop, (∀ us, us.length ≤ 1000 → q us H) → ta σ H q)
    (hq : ∀ s', Inv X [] σ H s' → Q .next s')
    (hcall : eval (.Call (.Attribute (.Call (.Name "super" p0) [] [] p1) "__init__" p2) (e :: es) [] p3) X.env = (do
      let ov ← attributeBase (.Call (.Name "super" p0) [] [] p1) "__init__" X.env (eval (.Call (.Name "super" p0) [] [] p1) X.env)
      standAt p2.atName
      let (f, first) ← holding [ov] (getMethod ov "__init__" (pure false))
      callWith p3 f first (backTo p3 (starEach (e :: es) X.env)) []))
    (hst : starEach (e :: es) X.env = (false, eval e X.env) :: starEach es X.env) (hpl : (backTo p3 (starEach es X.env)).any (·.1) = false)
    (hi : interactive X.env = false) (hs : swapsWith (.Call (.Attribute (.Call (.Name "super" p0) [] [] p1) "__init__" p2) (e :: es) [] p3) none p4.line X.env = pure false) :
    _root_.PySem.wpAt (model X.prog X.w) X.A (.func body X.env) (exec (.Expr (.Call (.Attribute (.Call (.Name "super" p0) [] [] p1) "__init__" p2) (e :: es) [] p3) p4) X.env) Q X.xe s := by
  obtain ⟨oc, od, osl, dV, kV, doc, pm, an, ct, lf⟩ := S.fn
  obtain ⟨ccl, cdd, vs, ccs, file, tf, lc, hvs, hfile⟩ := S.file
  obtain ⟨cc, hcl, cl, cld, csl, lcell⟩ := S.cell
  obtain ⟨cd, hcd⟩ := S.cls
  obtain ⟨nm, q, N, bs, bm, sn, sub, ab, col, dd, k0, k1, k2, k3, k5, hC, hbm⟩ := T.cls
  have KX := I.kIn
  have kind := I.ok.kind
  have esc : X.env.scope = F.scope := by rw [henv]
  obtain ⟨t1, hobj⟩ := exo_at I.hok hx
  obtain ⟨m, hns, hl⟩ := I.loc
  obtain ⟨u, ru, lk⟩ := hl 0 ar.arg (.ref x) hN h0 (.inl (by rw [esc]; exact hka))
  obtain rfl : u = Value.ref x := ru
  have lm : m ar.arg = some (.ref x) := by
    rcases lk with ⟨_, z⟩ | ⟨z, _⟩
    · exact z
    · have : X.env.kindOf ar.arg = some .local := by show X.env.scope.names.lookup _ = _; rw [esc]; exact hka
      rcases z with z | z <;> rw [this] at z <;> cases z
  obtain ⟨hh, g, d, t, os⟩ := s
  have hD : hh.get? C = some (excClassObj nm q C N bs bm true sn sub ab col dd k0 k1 k2 k3 k5 "ValueError.__new__") := KX _ _ hC
  obtain ⟨mb, bb1, bb2⟩ := I.mod.blt
  refine ks_wpAt_Expr_any (ks_wpAt_MethodCall (ks_wpAt_super_base (f := f) (cc := F.c) (fd := PySem.W.fnX F.name F.qual F.params F.body F.scope F.cl dV kV doc pm an (.ref F.c) ct) (ar := ar) ?h1 ?h2 (by decide) ?h3 (KX _ _ lf) rfl hp ?h4 (KX _ _ lc) rfl hvs hfile S.top ?_) hcall) hi hs
  case h1 => show X.env.scope.names.lookup _ = _; rw [esc]; exact hks
  case h2 => show X.env.scope.names.lookup _ = _; rw [esc]; exact hkc
  case h3 => rw [henv]
  case h4 => rw [henv]
  refine PySem.W.ks_loadName_global kind (by show X.env.scope.names.lookup _ = _; rw [esc]; exact hks) (Calls.loadGlobal_builtin (by rw [I.ok.glob]; exact I.mod.glob.keeps I.bk) S.mgs (by rw [I.ok.blt]; exact bb1.keeps I.bk) ((bb2 _ (by decide)).trans (by decide +kernel)) ⟨rfl, ?_⟩)
  refine wpAny_loadName_free kind (by show X.env.scope.names.lookup _ = _; rw [esc]; exact hkc) (c := cc) (v := .ref C) (by rw [henv]; show F.cl.lookup _ = _; rw [hcl]; rfl) ⟨_, KX _ _ lcell, rfl⟩ ?_
  refine wpAny_loadName_local kind (by show X.env.scope.names.lookup _ = _; rw [esc]; exact hka) hns lm ?_
  refine ks_wpAny_isType_cls hD rfl ⟨rfl, ?_⟩
  refine ks_wpAny_call_super hD rfl hobj rfl (fun c z => by cases z) (PySem.W.looks_mroIn KX S.sub) (fun h' e1 k1' => ?_)
  have J1 : Inv X [] σ H ⟨h', g, d, t, os⟩ := I.kept (t' := t) k1'
  have KX1 := J1.kIn
  have hI : PySem.W.Looks (model X.prog X.w) h' (isInstance (.ref x) (.type "ValueError")) true := (show PySem.W.InstAt h' x _ C none from ⟨k1' _ _ hobj, rfl, rfl, trivial⟩).type.andThen (PySem.W.looks_subIn KX1 S.isV)
  have xC : x ≠ C := fun z => by
    rw [z, hD] at hobj
    have z2 := Option.some.inj hobj
    have z3 := congrArg Obj.data z2
    cases z3
  have hm := S.sup
  unfold PySem.W.ks_superIn at hm
  rw [hcd] at hm
  refine PySem.W.kxs_getMethod PySem.W.kxs_ValueError e1 (PySem.W.looks_opaque KX1 S.opq) (l₀ := cd.mro) (fun A Q E s k q => wpAny_bind ((PySem.W.looks_clsIn KX1 hcd) A _ E s k (wpAny_pure q))) rfl KX1 hm hI xC (by decide) ?_
  generalize hu : h'.objs.size = u
  have J2 : Inv X [] σ H ⟨h'.push (PySem.W.kxs_mw "ValueError.__init__" x), g, d, t + 1, os⟩ := J1.kept (t' := t + 1) fun b o e => Heap.get?_push_of_some _ e
  have nu : H u = none := J1.hok.fresh (Nat.le_of_eq hu)
  have J3 : Inv X [(u, PySem.W.kxs_mw "ValueError.__init__" x)] σ H ⟨h'.push (PySem.W.kxs_mw "ValueError.__init__" x), g, d, t + 1, os⟩ := J2.pins_of fun p hp' => by
    have : p = (u, PySem.W.kxs_mw "ValueError.__init__" x) := by simpa using hp'
    subst this
    refine ⟨by rw [← hu]; exact Heap.get?_push_size _ rfl, nu, ?_, ?_, fun v z => by cases z⟩
    · intro z
      have := J1.lt
      rw [← z, ← hu] at this
      exact absurd this (Nat.lt_irrefl _)
    · exact J1.nofs (Nat.le_of_eq hu)
  show wpAny _ _ (callWith p3 (.ref u) [] (backTo p3 (starEach (e :: es) X.env)) []) _ _ _
  have step := ha.run p3 [(u, PySem.W.kxs_mw "ValueError.__init__" x)] _ σ H (fun us H1 => H1 = H ∧ us.length ≤ 1000) J3 (hta _ fun us hl => ⟨rfl, hl⟩)
  rw [hst] at step ⊢
  refine PySem.W.kxs_callWith (i := "ValueError.__init__") (x := x) (by show (false || (backTo p3 (starEach es X.env)).any (·.1)) = false; rw [hpl]; rfl) (Calls.evalArgs_plain (thn step fun us s3 hh => ?_))
  obtain ⟨ws, H1, I3, rv, rfl, hlen⟩ := hh
  have hu3 := (I3.pin (u, _) (List.mem_append_right _ (List.mem_singleton.mpr rfl))).1
  refine ⟨hu3, ?_⟩
  obtain ⟨t3, hobj3⟩ := exo_at I3.hok hx
  obtain ⟨h3, g3, d3, tk3, os3⟩ := s3
  have hus : us.length ≤ sizeLine := by
    rw [← Paired.length rv, sizeLine_eq]
    omega
  refine exc_fin (I3.kIn _ _ hC) hobj3 hu3 (by simpa using hus) fun h4 t4 k4 e4 => ?_
  have J := I3.write (t' := tk3) (x := x) (e := x) (o := exo x C none) (by rw [hx]; exact True.intro) (.inl rfl) k4 ⟨_, e4⟩ (exo_ok e4)
  have eu : upd H1 x (exo x C none) = H1 := by
    funext b
    by_cases hb : b = x
    · rw [hb, upd_same, hx]
    · rw [upd_ne hb]
  rw [eu] at J
  exact hq _ (J.pins_of fun p hp => by cases hp)
end
end DL

set_option Elab.async false
set_option linter.all false
set_option maxRecDepth 100000
set_option maxHeartbeats 4000000
namespace DL
open PySem PySem.Spec PyProof.Rows L2 NdefX

/-! ### __init__ as a def -/
theorem cells_one {K : Frag} {h : Heap} {H : Hp} {cl : List (Str × Addr)} {cc C : Addr} (hcl : cl = [(("__class__" : Str), cc)]) (hc : h.IsCell cc (some (.ref C))) (hn : H cc = none) : CellsAt cl ["__class__"] [some (.ref C)] h H := by
  subst hcl
  have only : ∀ y c, ([(("__class__" : Str), cc)] : List (Str × Addr)).lookup y = some c → y = "__class__" ∧ c = cc := fun y c e => by
    by_cases hy : y = ("__class__" : Str)
    · subst hy
      have : ([(("__class__" : Str), cc)] : List (Str × Addr)).lookup ("__class__" : Str) = some cc := rfl
      rw [this] at e
      exact ⟨rfl, (Option.some.inj e).symm⟩
    · have hf : (y == ("__class__" : Str)) = false := by simpa using hy
      simp [List.lookup, hf] at e
  refine ⟨rfl, fun y c e => ?_, fun a b c h1 h2 => (only a c h1).1.trans (only b c h2).1.symm, fun i y e => ?_⟩
  · rw [(only y c e).2]
    exact ⟨hn, _, hc⟩
  · cases i with
    | zero =>
      cases e
      refine ⟨cc, rfl, fun v hv => ?_⟩
      cases hv
      exact ⟨.ref C, rfl, hc⟩
    | succ i => simp at e
theorem fnG_init {P : Program} {w : World} {K : Frag} {mg : Str → Option Value} {base : Heap} {k : Nat} {f C : Addr} {F : NF} {fd : FuncData} {N ps : List Str} {sp : Sp} {e : Expr} {es : List Expr} {rest : List Stmt} {p0 p1 p2 p3 p4 : Pos} {ar : Arg}
    (T : OexC K C) (SI : SupI P K mg C f F) (hfd : ∃ oc od osl, K.lookup f = some ⟨oc, od, .func fd, osl⟩) (S : NScope N ps ["__class__"] F.scope)
    (hbody : F.body = .Expr (.Call (.Attribute (.Call (.Name "super" p0) [] [] p1) "__init__" p2) (e :: es) [] p3) p4 :: rest)
    (hks : F.scope.names.lookup ("super" : Str) = some .globalImplicit) (hka : F.scope.names.lookup ar.arg = some .local)
    (hp : (F.params.posonlyargs ++ F.params.args).head? = some ar) (hN : N[0]? = some ar.arg)
    (len : ∀ vs H Q E, sp vs H Q E → vs.length = ps.length)
    (t : WX → TS) (ta : TA)
    (der : ∀ (A : Around) (outer : List PySem.Env) (s : Shared) (H : Hp) (E : XK), Room k (ncx (L2.CX P w) P w K mg base N F f A outer s H E).A → (ncx (L2.CX P w) P w K mg base N F f A outer s H E).A.guards = some [] → Takes (ncx (L2.CX P w) P w K mg base N F f A outer s H E) (wOf E) →
      PSs (ncx (L2.CX P w) P w K mg base N F f A outer s H E) rest (t (wOf E)) ∧ PA (ncx (L2.CX P w) P w K mg base N F f A outer s H E) (e :: es) ta)
    (h : ∀ vs H Q E, sp vs H Q E → ∃ x us, vs = .ref x :: us ∧ H x = some (exo x C none) ∧ (∀ q : List V → Hp → Prop, (∀ us, us.length ≤ 1000 → q us H) → ta (startF N vs [some (.ref C)]) H q) ∧ t (wOf E) { nx := fun _ H' => Q .non H', rt := Q } (startF N vs [some (.ref C)]) H)
    (hcall : ∀ env : PySem.Env, eval (.Call (.Attribute (.Call (.Name "super" p0) [] [] p1) "__init__" p2) (e :: es) [] p3) env = (do
      let ov ← attributeBase (.Call (.Name "super" p0) [] [] p1) "__init__" env (eval (.Call (.Name "super" p0) [] [] p1) env)
      standAt p2.atName
      let (f, first) ← holding [ov] (getMethod ov "__init__" (pure false))
      callWith p3 f first (backTo p3 (starEach (e :: es) env)) []) := by intro env; rfl)
    (hst : ∀ env : PySem.Env, starEach (e :: es) env = (false, eval e env) :: starEach es env := by intro env; rfl) (hpl : ∀ env : PySem.Env, (backTo p3 (starEach es env)).any (·.1) = false := by intro env; rfl)
    (hi : ∀ s f, interactive (envF F f s) = false := by intro s f; rfl) (hs : ∀ s f, swapsWith (.Call (.Attribute (.Call (.Name "super" p0) [] [] p1) "__init__" p2) (e :: es) [] p3) none p4.line (envF F f s) = pure false := by intro s f; rfl) :
    FnG P w K mg base (L2.CX P w) (k + 1) f fd ps sp := by
  refine ⟨len, fun A outer s H args us vs Q E room gd e0 bd rv q => ?_⟩
  obtain ⟨oc, od, osl, lk⟩ := hfd
  obtain ⟨oc', od', osl', dV, kV, doc, pm, an, ct, lf⟩ := SI.fn
  have efd : fd = PySem.W.fnX F.name F.qual F.params F.body F.scope F.cl dV kV doc pm an (.ref F.c) ct := by
    rw [lk] at lf
    cases lf
    rfl
  subst efd
  obtain ⟨cc, hcl, cl, cld, csl, lcell⟩ := SI.cell
  have KX : K.In s.heap := e0.mod.kin.keeps fun b o h => (e0.bs b o h).1
  have lim : s.heap.NoLimit := e0.mod.nolimit.keeps fun b o h => (e0.bs b o h).1
  have hl := len _ _ _ _ q
  refine codeAny_call_function room.depth (KX _ _ lk) rfl S.co S.gen rfl (PySem.W.codeRec_of KX SI.code) (bd _ _ _ _ ?_)
  refine wpAny_newFunctionEnv S.nocell (fun ⟨n, _⟩ hy => S.par n (List.of_mem_zip hy).1) (fun h₁ hns hsb => ⟨lim.fresh _ hsb, ?_⟩) S.kind
  show codeAny _ _ (.func F.body (envF F f s.heap.objs.size)) _ _
  refine ks_codeAny_funcAt ?_
  have kp : ∀ b o, s.heap.get? b = some o → h₁.get? b = some o := fun b o e => hsb.extBut b o (Nat.ne_of_lt (Heap.lt_size e)) (Heap.get?_push_of_some _ e)
  have CA : CellsAt F.cl ["__class__"] [some (.ref C)] s.heap H := cells_one (K := K) hcl ⟨_, KX _ _ lcell, rfl⟩ (e0.bs cc _ (e0.mod.kin _ _ lcell)).2
  have I : Inv (ncx (L2.CX P w) P w K mg base N F f A outer s H E) [] (startF N vs [some (.ref C)]) H { s with heap := h₁, toks := s.toks + (ps.zip us).length } := inv_startN S room.hd e0 hl rv CA hns kp
  obtain ⟨x, us', ev, hx, hta, hq⟩ := h vs H Q E q
  obtain ⟨d1, d2⟩ := der A outer s H E (room.deeper _) gd (takes_of rfl rfl rfl rfl)
  have fin : ∀ {σ' : L2.St} {H' : Hp} {v : V} {u : Value} {s'}, Inv (ncx (L2.CX P w) P w K mg base N F f A outer s H E) [] σ' H' s' → L2.RelV v u → Q v H' → CE outer P w H s Q u s' :=
    fun {σ' H' v u s'} J rv q => ⟨v, H', J.os, J.bare, J.base, J.hok, rv, q⟩
  rw [hbody]
  refine ks_wpAt_execs_cons (super_stmt (X := ncx (L2.CX P w) P w K mg base N F f A outer s H E) (x := x) (L := s.heap.objs.size) T SI rfl hks (S.frk _ (by simp)) hka hp hN I (by rw [ev]; rfl) hx d2 hta (fun s2 J => ?_) (hcall _) (hst _) (hpl _) (hi _ _) (hs _ _))
  refine wpAt_of_wpAny ?_
  refine wpAny_mono (d1.run [] _ _ H _ J hq) (fun fl s' hs => ?_) fun e s' hs => hs
  cases fl with
  | ret u =>
    obtain ⟨v, σ', H', J, rv, q⟩ := hs
    exact fin J rv q
  | next =>
    obtain ⟨σ', H', J, q⟩ := hs
    exact fin (v := V.non) (u := Value.none) J rfl q
  | brk =>
    obtain ⟨_, _, _, q⟩ := hs
    exact False.elim q
  | cont =>
    obtain ⟨_, _, _, q⟩ := hs
    exact False.elim q
end DL

set_option Elab.async false
set_option linter.all false
set_option maxRecDepth 100000
set_option maxHeartbeats 4000000
namespace DL
open PySem PySem.Spec PyProof.Rows L2 NdefX

/-! ### raise C(e, ..), C's __init__: super().__init__(..), self.f = frozen(f), .. -/
def tIni (K : Frag) (W : WX) (spf : SpD) : List (Str × Nat) → TS
  | [] => tNext
  | [(f, i)] => tOst K f (tVar 0) (tCallW (toSp K spf) (WE W) (tCons (tVar i) tNil))
  | (f, i) :: p :: r => tSeq (tOst K f (tVar 0) (tCallW (toSp K spf) (WE W) (tCons (tVar i) tNil))) (tIni K W spf (p :: r))
/-- frozen makes d' of d -/
def Frz1 (spf : SpD) (γ : Ga) (d d' : D) : Prop := spf [d] γ (fun x γ' => x = d' ∧ γ' = γ) noX
def FrzL (spf : SpD) (γ : Ga) : List D → List D → Prop
  | [], [] => True
  | d :: ds, e :: es => Frz1 spf γ d e ∧ FrzL spf γ ds es
  | _, _ => False
structure Mid (K : Frag) (C x : Addr) (α1 : Al) (H1 : Hp) (γ : Ga) (α : Al) (H : Hp) (fs : List (Str × V)) (ds : List D) : Prop where
  ext : Ext α1 H1 α H
  ga : GaOk K H α γ
  hx : x ∈ α.x
  st : (fs = [] ∧ H x = some (exo x C none)) ∨ ∃ dx, dx ∈ α.x ∧ dx ≠ x ∧ H x = some (exo x C (some dx)) ∧ H dx = some (exd dx fs) ∧ H1 dx = none
  rl : RpL K H α (fs.map (·.2)) ds
section
variable {K : Frag} {C x : Addr} {α1 α : Al} {H1 H : Hp} {γ : Ga} {spf : SpD} {σ : L2.St}
theorem ext_x {α α' : Al} {H H' : Hp} (e : Ext α H α' H') {a : Addr} (h : a ∈ α.x) : a ∈ α'.x := by
  obtain ⟨δ, e1, _⟩ := e.xx
  rw [e1]
  exact List.mem_append_right _ h
theorem ini_step {W : WX} {f : Str} {i : Nat} {fs : List (Str × V)} {ds : List D} {v : V} {d d' : D} {D' : Ends} (T : OexC K C) (no : PySem.W.findIn K (.ref C) f = some none) (g1 : GaOk K H1 α1 γ) (h1x : H1 x = none) (M : Mid K C x α1 H1 γ α H fs ds) (hl : fs.length ≤ 900)
    (h0 : σ[0]? = some (some (.ref x))) (hi : σ[i]? = some (some v)) (rv : Rp K H α v d) (fz : Frz1 spf γ d d')
    (hq : ∀ α' H' v', Mid K C x α1 H1 γ α' H' ((f, v') :: fs) (d' :: ds) → ExtW α H α' H' → D'.nx σ H') :
    tOst K f (tVar 0) (tCallW (toSp K spf) (WE W) (tCons (tVar i) tNil)) D' σ H := by
  refine ⟨v, hi, ?_⟩
  show toSp K spf ([v] ++ []) H _ _
  refine ⟨α, [d], γ, _, noX, .cons rv .nil, M.ga, fz, ?_, xv_no⟩
  rintro v2 H2 α2 d2 γ2 ⟨rfl, rfl⟩ e2 g2 r2
  refine ⟨.ref x, h0, x, C, rfl, T, no, ?_⟩
  have x2 := ext_x e2 M.hx
  have hxh : x ∉ α2.h := fun z => g2.nd.2.2 x z x2
  rcases M.st with ⟨rfl, hx⟩ | ⟨dx, hdx, ndx, hx, hd, h1d⟩
  · have hx2 := e2.keepx _ _ M.hx hx
    refine .inl ⟨hx2, fun dx hdx ndx => ?_⟩
    have e3 := ext_hid0 g2 (o := exd dx [(f, v2)]) hdx
    have g3 := ga_hid0 g2 (o := exd dx [(f, v2)]) hdx
    have ew := ext_setW0 g3 (o := exo x C (some dx)) (.inr (List.mem_cons_of_mem _ x2) : x ∈ α2.hid dx)
    have ee := ext_hset0 (α := α2.hid dx) (H := upd H2 dx (exd dx [(f, v2)])) (o := exo x C (some dx)) g1 ((M.ext.trans e2).trans e3) h1x
    refine hq (α2.hid dx) _ v2 ⟨ee, ga_hset0 g3 (List.mem_cons_of_mem _ x2), List.mem_cons_of_mem _ x2, .inr ⟨dx, List.mem_cons_self, ndx, upd_same, by rw [upd_ne ndx]; exact upd_same, g2.noneB (M.ext.trans e2) hdx⟩, ?_⟩ (e2.toExtW.trans (e3.toExtW.trans ew))
    have r := M.rl
    cases r
    exact .cons (Rp.monoW (e3.toExtW.trans ew) _ _ r2) .nil
  · have hx2 := e2.keepx _ _ M.hx hx
    have hd2 := e2.keepx _ _ hdx hd
    have dx2 := ext_x e2 hdx
    refine .inr ⟨dx, fs, hx2, hd2, hl, ?_⟩
    have ew := ext_setW0 g2 (o := exd dx ((f, v2) :: fs)) (.inr dx2 : dx ∈ α2)
    have ee := ext_hset0 (o := exd dx ((f, v2) :: fs)) g1 (M.ext.trans e2) h1d
    refine hq α2 _ v2 ⟨ee, ga_hset0 g2 dx2, x2, .inr ⟨dx, dx2, ndx, by rw [upd_ne (Ne.symm ndx)]; exact hx2, upd_same, h1d⟩, ?_⟩ (e2.toExtW.trans ew)
    exact .cons (Rp.monoW ew _ _ r2) (RpL.monoW (e2.toExtW.trans ew) _ _ M.rl)
def IniArgs (K : Frag) (H : Hp) (α : Al) (σ : L2.St) (spf : SpD) (γ : Ga) : List (Str × Nat) → List D → Prop
  | [], [] => True
  | (_, i) :: r, d' :: ds' => (∃ v d, σ[i]? = some (some v) ∧ Rp K H α v d ∧ Frz1 spf γ d d') ∧ IniArgs K H α σ spf γ r ds'
  | _, _ => False
theorem IniArgs.mono {α' : Al} {H' : Hp} (e : ExtW α H α' H') : ∀ {l : List (Str × Nat)} {es : List D}, IniArgs K H α σ spf γ l es → IniArgs K H' α' σ spf γ l es
  | [], [], _ => trivial
  | _ :: _, _ :: _, ⟨⟨v, d, h1, h2, h3⟩, h4⟩ => ⟨⟨v, d, h1, Rp.monoW e _ _ h2, h3⟩, IniArgs.mono e h4⟩
theorem ini_run {W : WX} {D' : Ends} (T : OexC K C) (g1 : GaOk K H1 α1 γ) (h1x : H1 x = none) (h0 : σ[0]? = some (some (.ref x))) :
    ∀ (l : List (Str × Nat)) (es : List D) (fs : List (Str × V)) (ds : List D) (α : Al) (H : Hp), Mid K C x α1 H1 γ α H fs ds → IniArgs K H α σ spf γ l es → fs.length + l.length ≤ 900 → (∀ p ∈ l, PySem.W.findIn K (.ref C) p.1 = some none) →
      (∀ α' H' fs', Mid K C x α1 H1 γ α' H' fs' (es.reverse ++ ds) → fs'.map (·.1) = (l.map (·.1)).reverse ++ fs.map (·.1) → D'.nx σ H') → tIni K W spf l D' σ H
  | [], [], fs, ds, α, H, M, _, _, _, hq => hq α H fs M rfl
  | [(f, i)], [e], fs, ds, α, H, M, ⟨⟨v, d, h1, h2, h3⟩, _⟩, hl, no, hq => by
    refine ini_step T (no (f, i) (by simp)) g1 h1x M (by simp at hl; omega) h0 h1 h2 h3 fun α' H' v' M' _ => ?_
    exact hq α' H' _ M' rfl
  | (f, i) :: p :: r, e :: es, fs, ds, α, H, M, ⟨⟨v, d, h1, h2, h3⟩, h4⟩, hl, no, hq => by
    show tOst K f (tVar 0) _ { D' with nx := tIni K W spf (p :: r) D' } σ H
    refine ini_step T (no (f, i) (by simp)) g1 h1x M (by simp at hl; omega) h0 h1 h2 h3 fun α' H' v' M' ew => ?_
    refine ini_run T g1 h1x h0 (p :: r) es _ _ α' H' M' (h4.mono ew) (by simp at hl ⊢; omega) (fun q hq => no q (List.mem_cons_of_mem _ hq)) fun α2 H2 fs2 M2 hn => ?_
    refine hq α2 H2 fs2 ?_ ?_
    · rw [List.reverse_cons, List.append_assoc]
      exact M2
    · rw [hn]
      simp
theorem mid_end {dx : Addr} {fs : List (Str × V)} {ds : List D} (g1 : GaOk K H1 α1 γ) (M : Mid K C x α1 H1 γ α H fs ds) (h1x : H1 x = none) (hdx : dx ∈ α.x) (ndx : dx ≠ x) (h1d : H1 dx = none) :
    Ext α1 H1 ((α.un x).un dx) (upd (del H x) dx (.xd fs)) ∧ GaOk K (upd (del H x) dx (.xd fs)) ((α.un x).un dx) γ ∧ dx ∉ (α.un x).un dx ∧ RpL K (upd (del H x) dx (.xd fs)) ((α.un x).un dx) (fs.map (·.2)) ds := by
  have keep : ∀ b o, b ≠ x → b ≠ dx → H b = some o → upd (del H x) dx (.xd fs) b = some o := fun b o h1 h2 h => by rw [upd_ne h2, del_ne h1]; exact h
  have inA : ∀ {b}, b ∉ α → b ≠ x ∧ b ≠ dx := fun {b} h => ⟨fun z => h (.inr (z ▸ M.hx)), fun z => h (.inr (z ▸ hdx))⟩
  have ndA := M.ga.nd
  have nd2 : ((α.un x).un dx).Nd := ⟨ndA.1, (ndA.2.1.sublist (List.filter_sublist ..)).sublist (List.filter_sublist ..), fun a ha hm => ndA.2.2 a ha (un_x a (un_x (α := α.un x) a hm))⟩
  have ew : ExtW α H α (upd (del H x) dx (.xd fs)) := ⟨⟨[], by simp, by simp⟩, ndA, ⟨[], by simp, by simp⟩, fun b o hb h => keep b o (inA hb).1 (inA hb).2 h⟩
  have sub : ∀ a ∈ ((α.un x).un dx).x, a ∈ α.x := fun a ha => un_x a (un_x (α := α.un x) a ha)
  have nx : ∀ a ∈ ((α.un x).un dx).x, a ≠ x ∧ a ≠ dx := fun a ha => ⟨of_decide_eq_true (List.mem_filter.mp (un_x (α := α.un x) a ha)).2, of_decide_eq_true (List.mem_filter.mp ha).2⟩
  refine ⟨?_, ?_, ?_, ?_⟩
  · obtain ⟨δ, e1, f1⟩ := M.ext.xx
    refine ⟨⟨M.ext.al, nd2, ⟨(δ.filter fun a => decide (a ≠ x)).filter fun a => decide (a ≠ dx), ?_, fun b hb => f1 b (List.mem_filter.mp (List.mem_filter.mp hb).1).1⟩, fun a o ha h => ?_⟩, fun a o ha h => ?_⟩
    · have nox : ∀ a ∈ α1.x, a ≠ x ∧ a ≠ dx := fun a ha => by
        obtain ⟨o, ho⟩ := g1.xs a ha
        exact ⟨fun z => (by rw [z, h1x] at ho; cases ho), fun z => (by rw [z, h1d] at ho; cases ho)⟩
      show (α.x.filter _).filter _ = _
      rw [e1, List.filter_append, List.filter_append]
      congr 1
      have f1 : (α1.x.filter fun a => decide (a ≠ x)) = α1.x := List.filter_eq_self.mpr fun a ha => decide_eq_true (nox a ha).1
      have f2 : (α1.x.filter fun a => decide (a ≠ dx)) = α1.x := List.filter_eq_self.mpr fun a ha => decide_eq_true (nox a ha).2
      rw [f1, f2]
    · exact keep a o (fun z => (by rw [z, h1x] at h; cases h)) (fun z => (by rw [z, h1d] at h; cases h)) (M.ext.keep a o ha h)
    · exact keep a o (fun z => (by rw [z, h1x] at h; cases h)) (fun z => (by rw [z, h1d] at h; cases h)) (M.ext.keepx a o ha h)
  · refine ⟨nd2, M.ga.len, fun k a m h1 h2 => ?_, fun a ha => ?_⟩
    · have := M.ga.at_ k a m h1 h2
      have hah : a ∈ α.h := List.mem_of_getElem? h1
      refine MOk.shw (α := α) (α' := (α.un x).un dx) rfl sub (this.monoW ew fun u h => keep a u (fun z => ndA.2.2 a hah (z ▸ M.hx)) (fun z => ndA.2.2 a hah (z ▸ hdx)) h)
    · obtain ⟨o, ho⟩ := M.ga.xs a (sub a ha)
      exact ⟨o, keep a o (nx a ha).1 (nx a ha).2 ho⟩
  · rintro (z | z)
    · exact ndA.2.2 dx z hdx
    · exact (nx dx z).2 rfl
  · exact RpL.shw (α := α) (α' := (α.un x).un dx) rfl sub _ _ (RpL.monoW ew _ _ M.rl)
end
end DL

set_option Elab.async false
set_option linter.all false
set_option maxRecDepth 100000
set_option maxHeartbeats 4000000
namespace DL
open PySem PySem.Spec PyProof.Rows L2 NdefX

def spIni (K : Frag) (C : Addr) (spf : SpD) (names : List Str) : Sp := fun vs H Q _ => ∃ x us α1 H1 α ds es γ, vs = .ref x :: us ∧ us.length = names.length ∧ GaOk K H1 α1 γ ∧ H1 x = none ∧ H x = some (exo x C none) ∧ Mid K C x α1 H1 γ α H [] [] ∧ RpL K H α us ds ∧ FrzL spf γ ds es ∧ names.length ≤ 20 ∧
  ∀ α' H' fs', Mid K C x α1 H1 γ α' H' fs' es.reverse → fs'.map (·.1) = names.reverse → Q .non H'
def tVars : Nat → Nat → TA
  | _, 0 => tNil
  | i, n + 1 => tCons (tVar i) (tVars (i + 1) n)
theorem tVars_run {σ : L2.St} {H : Hp} : ∀ (n i : Nat) (q : List V → Hp → Prop), (∀ j, j < n → ∃ v, σ[i + j]? = some (some v)) → (∀ us, us.length = n → q us H) → tVars i n σ H q
  | 0, _, q, _, h => h [] rfl
  | n + 1, i, q, hs, h => by
    obtain ⟨v, hv⟩ := hs 0 (Nat.succ_pos n)
    refine ⟨v, hv, tVars_run n (i + 1) _ (fun j hj => ?_) fun us hu => h (v :: us) (by simp [hu])⟩
    obtain ⟨v2, h2⟩ := hs (j + 1) (Nat.succ_lt_succ hj)
    exact ⟨v2, by rw [← h2]; congr 1; omega⟩
theorem iniArgs_of {K : Frag} {H : Hp} {α : Al} {σ : L2.St} {spf : SpD} {γ : Ga} : ∀ (names : List Str) (us : List V) (ds es : List D) (k : Nat), us.length = names.length → RpL K H α us ds → FrzL spf γ ds es → (∀ i v, us[i]? = some v → σ[k + i]? = some (some v)) →
    IniArgs K H α σ spf γ (names.zipIdx k) es
  | [], [], _, es, k, _, r, f, _ => by
    cases r
    cases es with
    | nil => exact True.intro
    | cons _ _ => exact f.elim
  | n :: names, u :: us, _, es, k, hl, r, f, hs => by
    cases r with
    | cons r1 r2 =>
      cases es with
      | nil => exact f.elim
      | cons e es =>
        refine ⟨⟨u, _, hs 0 u rfl, r1, f.1⟩, iniArgs_of names us _ es (k + 1) (by simpa using hl) r2 f.2 fun i v h => ?_⟩
        rw [← hs (i + 1) v (by simpa using h)]
        congr 1; omega
  | [], _ :: _, _, _, _, hl, _, _, _ => by simp at hl
  | _ :: _, [], _, _, _, hl, _, _, _ => by simp at hl
theorem fnG_exc {P : Program} {w : World} {K : Frag} {mg : Str → Option Value} {base : Heap} {k : Nat} {f C : Addr} {F : NF} {fd : FuncData} {N ps : List Str} {spf : SpD} {names : List Str} {e : Expr} {es : List Expr} {rest : List Stmt} {p0 p1 p2 p3 p4 : Pos} {ar : Arg}
    (T : OexC K C) (SI : SupI P K mg C f F) (hfd : ∃ oc od osl, K.lookup f = some ⟨oc, od, .func fd, osl⟩) (S : NScope N ps ["__class__"] F.scope)
    (hbody : F.body = .Expr (.Call (.Attribute (.Call (.Name "super" p0) [] [] p1) "__init__" p2) (e :: es) [] p3) p4 :: rest)
    (hks : F.scope.names.lookup ("super" : Str) = some .globalImplicit) (hka : F.scope.names.lookup ar.arg = some .local)
    (hp : (F.params.posonlyargs ++ F.params.args).head? = some ar) (hN : N[0]? = some ar.arg) (hps : ps.length = names.length + 1)
    (no : ∀ g ∈ names, PySem.W.findIn K (.ref C) g = some none)
    (der : ∀ (A : Around) (outer : List PySem.Env) (s : Shared) (H : Hp) (E : XK), Room k (ncx (L2.CX P w) P w K mg base N F f A outer s H E).A → (ncx (L2.CX P w) P w K mg base N F f A outer s H E).A.guards = some [] → Takes (ncx (L2.CX P w) P w K mg base N F f A outer s H E) (wOf E) →
      PSs (ncx (L2.CX P w) P w K mg base N F f A outer s H E) rest (tIni K (wOf E) spf (names.zipIdx 1)) ∧ PA (ncx (L2.CX P w) P w K mg base N F f A outer s H E) (e :: es) (tVars 1 names.length))
    (hcall : ∀ env : PySem.Env, eval (.Call (.Attribute (.Call (.Name "super" p0) [] [] p1) "__init__" p2) (e :: es) [] p3) env = (do
      let ov ← attributeBase (.Call (.Name "super" p0) [] [] p1) "__init__" env (eval (.Call (.Name "super" p0) [] [] p1) env)
      standAt p2.atName
      let (f, first) ← holding [ov] (getMethod ov "__init__" (pure false))
      callWith p3 f first (backTo p3 (starEach (e :: es) env)) []) := by intro env; rfl)
    (hst : ∀ env : PySem.Env, starEach (e :: es) env = (false, eval e env) :: starEach es env := by intro env; rfl) (hpl : ∀ env : PySem.Env, (backTo p3 (starEach es env)).any (·.1) = false := by intro env; rfl)
    (hi : ∀ s f, interactive (envF F f s) = false := by intro s f; rfl) (hs : ∀ s f, swapsWith (.Call (.Attribute (.Call (.Name "super" p0) [] [] p1) "__init__" p2) (e :: es) [] p3) none p4.line (envF F f s) = pure false := by intro s f; rfl) :
    FnG P w K mg base (L2.CX P w) (k + 1) f fd ps (spIni K C spf names) := by
  refine fnG_init T SI hfd S hbody hks hka hp hN ?_ (fun W => tIni K W spf (names.zipIdx 1)) (tVars 1 names.length) der ?_ hcall hst hpl hi hs
  · rintro vs H Q E ⟨x, us, α1, H1, α, ds, es', γ, rfl, hl, _⟩
    rw [List.length_cons, hl, hps]
  · rintro vs H Q E ⟨x, us, α1, H1, α, ds, es', γ, rfl, hl, g1, h1x, hx, M, rl, fz, hn, hq⟩
    have hsl : ∀ i v, us[i]? = some v → (startF N (.ref x :: us) [some (.ref C)])[1 + i]? = some (some v) := fun i v h => by
      unfold startF
      have hlt : i < us.length := (List.getElem?_eq_some_iff.mp h).1
      rw [List.getElem?_append_left (by simp; omega), List.getElem?_map, Nat.add_comm, List.getElem?_cons_succ, h]
      rfl
    refine ⟨x, us, rfl, hx, fun q hq => tVars_run _ _ q (fun j hj => ?_) fun us hu => hq us (by omega), ?_⟩
    · have hj' : j < us.length := by omega
      exact ⟨us[j], hsl j _ (List.getElem?_eq_getElem hj')⟩
    · refine ini_run T g1 h1x rfl (names.zipIdx 1) es' [] [] α H M (iniArgs_of names us ds es' 1 hl rl fz hsl) (by simp; omega) (fun p hp => no p.1 ?_) fun α' H' fs' M' hn' => ?_
      · obtain ⟨i, hi⟩ := List.mem_iff_getElem?.mp hp
        rw [List.getElem?_zipIdx] at hi
        cases h : names[i]? with
        | none => rw [h] at hi; cases hi
        | some y =>
          rw [h] at hi
          cases hi
          exact List.mem_of_getElem? h
      · refine hq α' H' fs' (by simpa using M') ?_
        rw [hn']
        simp [List.zipIdx_map_fst]
section
variable {X : Cx} {e : Expr} {es : List Expr} {ta : TA} {p pos : Pos}
theorem pmk_exc {x : Str} {C fI : Addr} {k : Nat} {fd : FuncData} {ps : List Str} {sp : Sp} (T : OexC X.K C) (iC : PySem.W.findIn X.K (.ref C) "__init__" = some (some (.ref fI))) (tI : PySem.W.typeIn X.K (.ref fI) = some (.type "function"))
    (F1 : FnG X.prog X.w X.K X.mg X.base (L2.CX X.prog X.w) k fI fd ps sp) (hr : Room (k + 1) X.A) (gd : X.A.guards = some []) (hb : Binds X.K fd ps []) (hg : Gl X x) (hm : X.mg x = some (.ref C)) (ha : PA X (e :: es) ta)
    (hdb : (x == ("__debug__" : Str)) = false := by decide) (he : starEach (e :: es) X.env = (false, eval e X.env) :: starEach es X.env := by rfl) (hpl : (backTo pos (starEach es X.env)).any (·.1) = false := by rfl) :
    PMk X (.Call (.Name x p) (e :: es) [] pos) (tMkO C sp [] ta) := by
  intro pins s σ H Q I h
  obtain ⟨nm, q, N, bs, bm, sn, sub, ab, col, dd, k0, k1, k2, k3, k5, hC, hbm⟩ := T.cls
  refine wpAny_Call_Name_kw (ld_glob I hg hm ?_ hdb)
  refine PySem.W.callWith_K (h₀ := X.base) I.ok.mod.kin T.kC (thn (ha.run pos pins s σ H _ I h) fun us s1 ⟨vs, H1, I1, r1, hz, q1⟩ => ⟨I1.kIn, ?_⟩) he hpl
  show wpAny _ _ (call (.ref C) us) _ _ _
  obtain ⟨hp, g, dr, tk, os⟩ := s1
  have hsz : hp.objs.size ≤ hp.objs.size + 1 := Nat.le_succ _
  have hn : H1 (hp.objs.size + 1) = none := I1.hok.fresh hsz
  have hq := q1 (hp.objs.size + 1) hn
  rw [List.append_nil] at hq
  have kk : ∀ b o, hp.get? b = some o → ((hp.push (PySem.W.kdv_tup us)).push (PySem.HandSPX.excO C hp.objs.size)).get? b = some o := fun b o e => Heap.get?_push_of_some _ (Heap.get?_push_of_some _ e)
  have hget : ((hp.push (PySem.W.kdv_tup us)).push (PySem.HandSPX.excO C hp.objs.size)).get? (hp.objs.size + 1) = some (PySem.HandSPX.excO C hp.objs.size) := by heap_get
  have I2 : Inv X pins σ (upd H1 (hp.objs.size + 1) (exo (hp.objs.size + 1) C none)) ⟨(hp.push (PySem.W.kdv_tup us)).push (PySem.HandSPX.excO C hp.objs.size), g, dr, tk, os⟩ :=
    I1.laid (t' := tk) (a := hp.objs.size + 1) (o := exo (hp.objs.size + 1) C none) (h' := (hp.push (PySem.W.kdv_tup us)).push (PySem.HandSPX.excO C hp.objs.size)) kk hsz (exo_ok hget)
  have r2 : Vals (V.ref (hp.objs.size + 1) :: vs) (Value.ref (hp.objs.size + 1) :: us) := .cons rfl r1
  have hl : (Value.ref (hp.objs.size + 1) :: us ++ []).length = ps.length := by
    have e := r2.length
    rw [F1.len _ _ _ _ hq] at e
    rw [List.append_nil]
    exact e.symm
  have hus : us.length ≤ sizeLine := by
    rw [← Paired.length r1, sizeLine_eq]
    omega
  have bd := hb _ (Value.ref (hp.objs.size + 1) :: us) I2.kIn hl
  rw [List.append_nil] at bd
  refine wpAny_call (PySem.HandSPX.call_own F.excBase_ValueError (fun Y => PySem.HandSPX.refsVE_contains Y bm hbm) (I1.kIn _ _ hC) (PySem.W.looks_findIn I1.kIn iC) (fun self => PySem.W.bind_fn I1.kIn self tI) hus
    (codeAny_mono (F1.run _ X.stack _ _ ⟨Value.ref (hp.objs.size + 1) :: us, []⟩ (Value.ref (hp.objs.size + 1) :: us) _ _ (fun _ _ _ => False) (hr.make C us []) (by simp [Around.under, gd, Code.guards, Code.isGuard, pushGuards, guardIds]) (I2.env0.make C us []) bd r2 hq) fun r s' hq' => ?_))
  cases r with
  | error er =>
    obtain ⟨_, _, _, _, _, _, _, _, _, _, _, _, z⟩ := hq'
    exact z.elim
  | ok fl =>
    cases fl with
    | ret u =>
      obtain ⟨v, H2, os2, bare2, un2, hok2, rv, ev, d, fs, ea, ed, hd1, q2⟩ := hq'
      subst ev
      obtain ⟨h2, g2, d2, t2, os'⟩ := s'
      exact ⟨rv, mk_end (raises_own T.exC T.tyC) I1 hsz kk un2 hok2 os2 bare2 ea ed hd1 q2⟩
    | next => exact False.elim hq'
    | brk => exact False.elim hq'
    | cont => exact False.elim hq'
end
/-- raise C(e, ..) -/
def tRaise (K : Frag) (W : WX) (C : Addr) (spf : SpD) (names : List Str) (ta : TA) : TS := fun _ σ H => tMkO C (spIni K C spf names) [] ta σ H fun cls d H' => W cls d σ H'
theorem ds_raise {K : KX} {n : Nat} {ρ : Env} {γ : Ga} {B : DEnds} {C : Addr} {spf : SpD} {names : List Str} {ta : TA} (T : OexC K.f C) (h : dA K ta ρ γ fun ds γ1 => ds.length = names.length ∧ 0 < names.length ∧ names.length ≤ 20 ∧ ∃ es, FrzL spf γ1 ds es ∧ K.e ρ C names.reverse es.reverse γ1) :
    dS K n (tRaise K.f K.E C spf names ta) ρ γ B := fun σ H α α0 H0 Dn hn e r g fe =>
  h σ H α _ r g fun vs H1 α1 ds γ1 ⟨hl, hp, hm, es, fz, he⟩ e1 g1 rl => by
    have hvl : vs.length = names.length := by rw [rl.length, hl]
    refine ⟨by omega, fun a ha => ?_⟩
    have ex := ext_hid0 g1.toGaOk (o := exo a C none) ha
    have gx := ga_hid0 g1.toGaOk (o := exo a C none) ha
    refine ⟨a, vs, α1, H1, α1.hid a, ds, es, γ1, by rw [List.append_nil], hvl, g1.toGaOk, ha, upd_same, ⟨ex, gx, List.mem_cons_self, .inl ⟨rfl, upd_same⟩, .nil⟩, RpL.mono ex _ _ rl, fz, hm, fun α' H' fs' M hnm => ⟨rfl, ?_⟩⟩
    rcases M.st with ⟨rfl, _⟩ | ⟨dx, hdx, ndx, hx, hd, h1d⟩
    · have := congrArg List.length hnm
      simp at this
      omega
    · obtain ⟨m1, m2, m3, m4⟩ := mid_end g1.toGaOk M ha hdx ndx h1d
      refine ⟨dx, fs', hx, hd, h1d, ?_⟩
      exact g1.exc σ ρ C dx fs' _ γ1 _ _ (by rw [hnm]; exact he) ((r.mono e1).mono m1) m1 m2 upd_same m3 m4
end DL

set_option Elab.async false
set_option linter.all false
set_option maxRecDepth 100000
set_option maxHeartbeats 4000000
namespace DL
open PySem PySem.Spec PyProof.Rows L2

/-! ### try .. except C [as n]: suite -/
/-- n.f in the suite, for any class -/
def tXfG (K : Frag) (a : Addr) (cls : Value) (d : Option Addr) (f : Str) (te : TE) : TE := fun σ H Q => te σ H fun x H1 => x = .ref a ∧ ∃ C, cls = .ref C ∧ XfC K C ∧ PySem.W.findIn K (.ref C) f = some none ∧ ∃ (dd : Addr) (fs : List (Str × V)) (v : V), d = some dd ∧ H1 dd = some (.xd fs) ∧ fs.lookup f = some v ∧ Q v H1
theorem pe_xfG {X : Cx} {a : Addr} {oe : Obj} {cls : Value} {d : Option Addr} {pn : List (Addr × Obj)} {e : Expr} {te : TE} {pos : Pos} {n : Str}
    (hz : Zc cls d oe) (hf : ∃ vs, oe.data = .fields vs) (he : PE (X.suite a ((a, oe) :: pn)) e te) (hb : attributeBase e n X.env (eval e X.env) = eval e X.env := by rfl) :
    PE (X.suite a ((a, oe) :: pn)) (.Attribute e n pos) (tXfG X.K a cls d n te) := by
  refine ⟨fun pins s σ H Q I h => ?_⟩
  refine attr_of hb (thn (he.run pins s σ H _ I h) fun u s1 hh => ?_)
  obtain ⟨x, H1, I1, rx, ex, C, ec, T, hno, dd, fs, v, ed, ea, l, q⟩ := hh
  subst ex
  obtain rfl : u = Value.ref a := rx
  subst ec
  subst ed
  obtain ⟨ha, _⟩ := I1.pin (a, oe) (List.mem_append_left _ List.mem_cons_self)
  obtain ⟨vs, hd⟩ := hf
  have hx : ObjOk X.prog X.w H1 s1.heap dd (.xd fs) := I1.hok dd _ ea
  obtain ⟨mA, hns, hr⟩ := hx
  obtain ⟨od, ho, hl⟩ := lookIn_ns hns
  obtain ⟨u, hu, ru⟩ := RelO.some_of (v := v) (o := mA n) (by rw [← l]; exact hr n)
  have J : PySem.W.InstAt s1.heap a oe C (some od) := ⟨ha, hz.1, by unfold PySem.W.notCls; rw [hd] <;> rfl, by rw [hz.2]; exact ho⟩
  exact HandSPX.exc_get I1.kIn J T.ga T.gg T.exC (PySem.W.findObj_own T.hdC hno rfl (by rw [hl, hu])) (handed_of ru) ⟨v, H1, I1.tok _, ru, q⟩
/-- the class of an exception that was caught, and its fields -/
structure XOk (K : Frag) (C : Addr) (ns : List Str) : Prop where
  xf : XfC K C
  no : ∀ f ∈ ns, PySem.W.findIn K (.ref C) f = some none
section
variable {K : KX} {n : Nat} {ρ : Env} {γ : Ga} {B : DEnds} {Q : QD}
theorem de_xf {a dd C : Addr} {f : Str} {te : TE} (h : dE K te ρ γ fun d γ1 => ∃ ns vs j x, d = .exc a dd C ns vs ∧ XfC K.f C ∧ PySem.W.findIn K.f (.ref C) f = some none ∧ fix ns f = some j ∧ vs[j]? = some x ∧ Q x γ1) : dE K (tXfG K.f a (.ref C) (some dd) f te) ρ γ Q := fun σ H α q r g w =>
  h σ H α _ r g fun v H1 α1 d γ1 ⟨ns, vs, j, x, ed, hT, hno, hj, hx, hq⟩ e1 g1 r1 => by
    subst ed
    cases r1 with
    | @exc _ _ _ fs _ hd1 hd2 hv =>
      obtain ⟨u, h1, h2⟩ := lookup_fix hj
      obtain ⟨u', h3, h4⟩ := hv.get hx
      rw [h2] at h3
      cases h3
      exact ⟨rfl, C, rfl, hT, hno, dd, fs, u, rfl, hd2, h1, w u H1 α1 x γ1 hq e1 g1 h4⟩
def tTryAs (K : Frag) (W : WX) (c : Value) (i : Nat) (tb : WX → TS) (ts : Addr → Value → Option Addr → TS) : TS := fun D σ H => tb (wAs K c i ts W D) D σ H
def tTryOnly (K : Frag) (W : WX) (c : Value) (tb : WX → TS) (ts : Addr → Value → Option Addr → TS) : TS := fun D σ H => tb (wOnly K c ts W D) D σ H
theorem ps_tryAsD {X : Cx} {x n : Str} {c : Value} {i : Nat} {body suite : List Stmt} {b₀ : Stmt} {np pos pos' : Pos} {tb : WX → TS} {ts : Addr → Value → Option Addr → TS} {Wout : WX} (hs : X.stack = X.env :: X.outer) (hf : X.env.frame = some X.env.locals) (hN : X.N.Nodup) (hi : X.N[i]? = some n) (hln : X.env.kindOf n = some .local) (hc : Names X x c) (tk : Takes X Wout)
    (hb : ∀ (W : WX) (pn : List (Addr × Obj)) (xe : Value → Shared → Prop), Takes (X.tr pn xe) W → PassesOwn (model X.prog X.w) X.A X.env xe → PSs (X.tr pn xe) body (tb W))
    (hsu : ∀ (a : Addr) (oe : Obj) (cls : Value) (d : Option Addr) (pn : List (Addr × Obj)), Zc cls d oe → (∃ vs, oe.data = .fields vs) → PSs (X.suite a ((a, oe) :: pn)) (b₀ :: suite) (ts a cls d)) :
    PS X (.Try body [.ExceptHandler (some (.Name x np)) (some n) (b₀ :: suite) pos'] [] [] pos) (tTryAs X.K Wout c i tb ts) := ps_try_as hs hf hN hi hln hc tk hb hsu
theorem ps_tryOnlyD {X : Cx} {x : Str} {c : Value} {body suite : List Stmt} {b₀ : Stmt} {np pos pos' : Pos} {tb : WX → TS} {ts : Addr → Value → Option Addr → TS} {Wout : WX} (hs : X.stack = X.env :: X.outer) (hf : X.env.frame = some X.env.locals) (hc : Names X x c) (tk : Takes X Wout)
    (hb : ∀ (W : WX) (pn : List (Addr × Obj)) (xe : Value → Shared → Prop), Takes (X.tr pn xe) W → PassesOwn (model X.prog X.w) X.A X.env xe → PSs (X.tr pn xe) body (tb W))
    (hsu : ∀ (a : Addr) (oe : Obj) (cls : Value) (d : Option Addr) (pn : List (Addr × Obj)), Zc cls d oe → (∃ vs, oe.data = .fields vs) → PSs (X.suite a ((a, oe) :: pn)) (b₀ :: suite) (ts a cls d)) :
    PS X (.Try body [.ExceptHandler (some (.Name x np)) none (b₀ :: suite) pos'] [] [] pos) (tTryOnly X.K Wout c tb ts) := ps_try_only hs hf hc tk hb hsu
theorem RpE.setN {K : Frag} {α : Al} {H : Hp} {σ : L2.St} {ρ : Env} (r : RpE K H α σ ρ) (i : Nat) : RpE K H α (σ.set i none) (ρ.set i none) := by
  refine ⟨by simp [r.1], fun j e hj => ?_⟩
  by_cases hij : i = j
  · subst hij
    by_cases hl : i < ρ.length
    · rw [List.getElem?_set_self hl] at hj; cases hj
    · rw [List.getElem?_eq_none (by simpa using hl)] at hj; cases hj
  · rw [List.getElem?_set_ne hij] at hj
    obtain ⟨w, h1, h2⟩ := r.2 j e hj
    exact ⟨w, by rw [List.getElem?_set_ne hij]; exact h1, h2⟩
theorem FinE.go {K K' : KX} {α : Al} {H : Hp} {B : DEnds} {Dn : Ends} (hf : K'.f = K.f) (x : Exc K α H) (f : FinE K α H B Dn) : FinE K' α H B Dn := by
  obtain ⟨kf, kE, ke⟩ := K
  obtain ⟨kf', kE', ke'⟩ := K'
  cases hf
  refine ⟨fun σ H1 α1 ρ γ h e g r => f.nx σ H1 α1 ρ γ h e ⟨g.toGaOk, x.mono g.toGaOk e⟩ r, fun v H1 α1 d γ h e g r => f.rt v H1 α1 d γ h e ⟨g.toGaOk, x.mono g.toGaOk e⟩ r,
    fun σ H1 α1 ρ γ h e g r => f.bk σ H1 α1 ρ γ h e ⟨g.toGaOk, x.mono g.toGaOk e⟩ r, fun σ H1 α1 ρ γ h e g r => f.ct σ H1 α1 ρ γ h e ⟨g.toGaOk, x.mono g.toGaOk e⟩ r⟩
theorem ds_tryAs {c : Value} {i : Nat} {tb : WX → TS} {ts : Addr → Value → Option Addr → TS} (e' : Env → XD) (hb : ∀ W', dS ⟨K.f, W', e'⟩ γ.length (tb W') ρ γ B)
    (hs : ∀ ρ' C ns ds γ', e' ρ' C ns ds γ' → (PySem.W.exmOne K.f (.ref C) c = some true ∧ ∀ a dd, dS K γ.length (ts a (.ref C) (some dd)) (ρ'.set i (some (.exc a dd C ns ds))) γ' ⟨fun ρ2 γ2 => B.nx (ρ2.set i none) γ2, B.rt, fun ρ2 γ2 => B.bk (ρ2.set i none) γ2, fun ρ2 γ2 => B.ct (ρ2.set i none) γ2⟩) ∨
      (PySem.W.exmOne K.f (.ref C) c = some false ∧ K.e ρ' C ns ds γ')) : dS K n (tTryAs K.f K.E c i tb ts) ρ γ B := fun σ H α α0 H0 Dn hn e r g fe => by
  have fe2 : FinE K α H B Dn := fe.mono e
  refine hb _ σ H α α H Dn g.len g.refl r ⟨g.toGaOk, ?_⟩ (FinE.go (K := K) (K' := ⟨K.f, _, e'⟩) rfl g.exc fe2)
  intro σ1 ρ1 C dd fs ds γ1 α1 H1 he r1 e1 g1 hd nd rl
  have gx : GaX K H1 α1 γ1 := g.go g1 e1
  rcases hs ρ1 C (fs.map (·.1)) ds γ1 he with ⟨hm, hsu⟩ | ⟨hm, hout⟩
  · refine ⟨true, hm, fun _ a ha => ?_, (fun z => by cases z)⟩
    refine hsu a dd (σ1.set i (some (.ref a))) H1 α1 α H _ g.len e1 (r1.set i (.exc nd hd rl)) gx ⟨fun σ2 H2 α2 ρ2 γ2 h2 e2 g2 r2 => ?_, fe2.rt, fun σ2 H2 α2 ρ2 γ2 h2 e2 g2 r2 => ?_, fun σ2 H2 α2 ρ2 γ2 h2 e2 g2 r2 => ?_⟩
    · exact fe2.nx _ H2 α2 _ γ2 h2 e2 g2 (r2.setN i)
    · exact fe2.bk _ H2 α2 _ γ2 h2 e2 g2 (r2.setN i)
    · exact fe2.ct _ H2 α2 _ γ2 h2 e2 g2 (r2.setN i)
  · exact ⟨false, hm, (fun z => by cases z), fun _ => g.exc σ1 ρ1 C dd fs ds γ1 α1 H1 hout r1 e1 g1 hd nd rl⟩
theorem ds_tryOnly {c : Value} {tb : WX → TS} {ts : Addr → Value → Option Addr → TS} (e' : Env → XD) (hb : ∀ W', dS ⟨K.f, W', e'⟩ γ.length (tb W') ρ γ B)
    (hs : ∀ ρ' C ns ds γ', e' ρ' C ns ds γ' → (PySem.W.exmOne K.f (.ref C) c = some true ∧ ∀ a dd, dS K γ.length (ts a (.ref C) (some dd)) ρ' γ' B) ∨
      (PySem.W.exmOne K.f (.ref C) c = some false ∧ K.e ρ' C ns ds γ')) : dS K n (tTryOnly K.f K.E c tb ts) ρ γ B := fun σ H α α0 H0 Dn hn e r g fe => by
  have fe2 : FinE K α H B Dn := fe.mono e
  refine hb _ σ H α α H Dn g.len g.refl r ⟨g.toGaOk, ?_⟩ (FinE.go (K := K) (K' := ⟨K.f, _, e'⟩) rfl g.exc fe2)
  intro σ1 ρ1 C dd fs ds γ1 α1 H1 he r1 e1 g1 hd nd rl
  have gx : GaX K H1 α1 γ1 := g.go g1 e1
  rcases hs ρ1 C (fs.map (·.1)) ds γ1 he with ⟨hm, hsu⟩ | ⟨hm, hout⟩
  · refine ⟨true, hm, fun _ a ha => ?_, (fun z => by cases z)⟩
    exact hsu a dd σ1 H1 α1 α H _ g.len e1 r1 gx fe2
  · exact ⟨false, hm, (fun z => by cases z), fun _ => g.exc σ1 ρ1 C dd fs ds γ1 α1 H1 hout r1 e1 g1 hd nd rl⟩
end
end DL

set_option Elab.async false
set_option linter.all false
set_option maxRecDepth 100000
set_option maxHeartbeats 4000000
namespace DL
open PySem PySem.Spec PyProof.Rows L2 NdefX

/-! ### the facts of an own exception, as the head tells them -/
def clsB (K : Frag) (C : Addr) : Bool := match K.lookup C with
  | some ⟨.type "type", _, .cls cd, sl⟩ => (match cd.mro, sl.toList with
    | .ref C' :: bm, [_, _, _, _, some (.builtin n), _] => C' == C && n == "ValueError.__new__" && !cd.hasDel && cd.hasDict && PySem.HandSPX.refsVE bm
    | _, _ => false)
  | _ => false
theorem clsB_ok {K : Frag} {C : Addr} (h : clsB K C = true) : (∃ nm q N bs bm sn sub ab col dd k0 k1 k2 k3 k5, K.lookup C = some (excClassObj nm q C N bs bm true sn sub ab col dd k0 k1 k2 k3 k5 "ValueError.__new__") ∧ PySem.HandSPX.refsVE bm = true) ∧ PySem.W.mroIn K C (.ref C) = some true ∧ ∃ cd, PySem.W.clsIn K C = some cd := by
  unfold clsB at h
  split at h
  · rename_i dd cd sl ho
    split at h
    · rename_i C' bm k0 k1 k2 k3 n k5 hm hs
      simp only [Bool.and_eq_true, beq_iff_eq, Bool.not_eq_true'] at h
      obtain ⟨⟨⟨⟨rfl, rfl⟩, hdel⟩, hd⟩, hr⟩ := h
      obtain ⟨nm, bs, mro, ns, qn, hdd, sn, sub, ab, col, del⟩ := cd
      dsimp only at hm hdel hd
      subst hm hdel hd
      have hsl : sl = #[k0, k1, k2, k3, some (.builtin "ValueError.__new__"), k5] := by
        obtain ⟨l⟩ := sl
        simp only at hs
        rw [hs]
      subst hsl
      have hc : PySem.W.clsIn K C' = some { name := nm, bases := bs, mro := .ref C' :: bm, ns := ns, qualname := qn, hasDict := true, slotNames := sn, subclasses := sub, abstract := ab, collection := col, hasDel := false } := by
        unfold PySem.W.clsIn
        rw [ho]
      refine ⟨⟨nm, qn, ns, bs, bm, sn, sub, ab, col, dd, k0, k1, k2, k3, k5, ho, hr⟩, ?_, _, hc⟩
      unfold PySem.W.mroIn
      rw [hc, Option.bind_some, if_neg (show ¬ (List.isEmpty (Value.ref C' :: bm) = true) from Bool.false_ne_true)]
      simp
    · cases h
  · cases h
def cellB (K : Frag) (cc C : Addr) : Bool := match K.lookup cc with
  | some ⟨_, _, .cell (some (.ref D)), _⟩ => D == C
  | _ => false
theorem cellB_ok {K : Frag} {cc C : Addr} (h : cellB K cc C = true) : ∃ cl cld csl, K.lookup cc = some ⟨cl, cld, .cell (some (.ref C)), csl⟩ := by
  unfold cellB at h
  split at h
  · rename_i a b D d ho
    obtain rfl : D = C := by simpa using h
    exact ⟨_, _, _, ho⟩
  · cases h
def fileB (file : Str) (K : Frag) (c : Addr) : Bool := match K.lookup c with
  | some ⟨_, _, .fields vs, _⟩ => (match ((vs : Array Value)[2]? : Option Value) with
    | some (.str z _) => file == z
    | _ => false)
  | _ => false
theorem fileB_ok {file : Str} {K : Frag} {c : Addr} (h : fileB file K c = true) : ∃ ccl cdd vs ccs z tf, K.lookup c = some ⟨ccl, cdd, .fields vs, ccs⟩ ∧ vs[2]? = some (.str z tf) ∧ (file == z) = true := by
  unfold fileB at h
  split at h
  · rename_i a b vs d ho
    split at h
    · rename_i z tf hz
      exact ⟨_, _, _, _, _, _, ho, hz, h⟩
    · cases h
  · cases h
def funB (file : Str) (K : Frag) (C f : Addr) (qual : Str) : Bool := match K.lookup f with
  | some ⟨_, _, .func fd, _⟩ => (match fd.closure, fd.code, fd.defaults, fd.kwdefaults with
    | [(nm, cc)], .ref c, .none, .none => nm == ("__class__" : Str) && cellB K cc C && PySem.W.codeIn K (.ref c) qual && fileB file K c
    | _, _, _, _ => false)
  | _ => false
abbrev FnS : Type := Option (Str × Str × Arguments × FuncBody × Scope × Addr × Addr)
def fnS (K : Frag) (p : Str × Option Str) : FnS := match K.lookup (He.fAd K p) with
  | some ⟨_, _, .func fd, _⟩ => some (fd.name, fd.qualname, fd.params, fd.body, fd.scope, fd.globals, fd.builtins)
  | _ => none
def valS (d : He.DefD) : FnS := some (d.name, d.qual, d.params, .stmts d.body, d.scope, mainGlobals, builtinsNs)
theorem funB_ok {file : Str} {K : Frag} {C : Addr} {d : He.DefD} (h : funB file K C (He.fAd K d.at_) d.qual = true) (e : fnS K d.at_ = valS d) :
    ∃ cc c, (∃ cl cld csl, K.lookup cc = some ⟨cl, cld, .cell (some (.ref C)), csl⟩) ∧ PySem.W.codeIn K (.ref c) d.qual = true ∧ (∃ ccl cdd vs ccs z tf, K.lookup c = some ⟨ccl, cdd, .fields vs, ccs⟩ ∧ vs[2]? = some (.str z tf) ∧ (file == z) = true) ∧
      ∃ oc od osl doc pm an ct, K.lookup (He.fAd K d.at_) = some ⟨oc, od, .func (PySem.W.fnX d.name d.qual d.params d.body d.scope [(("__class__" : Str), cc)] .none .none doc pm an (.ref c) ct), osl⟩ := by
  unfold funB at h
  unfold fnS at e
  split at h
  · rename_i oc od fd osl ho
    rw [ho] at e
    split at h
    · rename_i nm cc c h1 h2 h3 h4
      simp only [Bool.and_eq_true, beq_iff_eq] at h
      obtain ⟨⟨⟨rfl, hc⟩, hcd⟩, hf⟩ := h
      obtain ⟨n1, n2, n3, n4, n5, n6, n7, n8, n9, n10, n11, n12, n13, n14, n15⟩ := fd
      dsimp only at h1 h2 h3 h4
      subst h1 h2 h3 h4
      have e2 : (some (n1, n2, n3, n4, n5, n6, n15) : FnS) = some (d.name, d.qual, d.params, .stmts d.body, d.scope, mainGlobals, builtinsNs) := e
      simp only [Option.some.injEq, Prod.mk.injEq] at e2
      obtain ⟨g1, g2, g3, g4, g5, g6, g7⟩ := e2
      subst g1 g2 g3 g4 g5 g6 g7
      exact ⟨cc, c, cellB_ok hc, hcd, fileB_ok hf, oc, od, osl, n10, n11, n12, n14, ho⟩
    · cases h
  · cases h
def excB (file : Str) (K : Frag) (x qual : Str) (fs : List Str) : Bool :=
  clsB K (He.ga K x) && (funB file K (He.ga K x) (He.fAd K (x, some ("__init__" : Str))) qual && (xfB K (He.ga K x) && (fs.all (fun f => decide (PySem.W.findIn K (.ref (He.ga K x)) f = some none)) &&
    (decide (PySem.W.findIn K (.ref (He.ga K x)) "__setattr__" = some (some (.builtin "object.__setattr__"))) && (decide (PySem.W.typeIn K (.ref (He.ga K x)) = some (.type "type")) && (PySem.W.keepIn K (.ref (He.ga K x)) &&
      (decide (PySem.W.findIn K (.ref (He.ga K x)) "__init__" = some (some (.ref (He.fAd K (x, some ("__init__" : Str)))))) && (decide (PySem.W.typeIn K (.ref (He.fAd K (x, some ("__init__" : Str)))) = some (.type "function")) &&
        (decide (PySem.W.nsIn K cStatics "thirdparty.any" = some none) && (decide (PySem.W.ks_superIn K (He.ga K x) (He.ga K x) ("__init__" : Str) = some (some (.builtin "ValueError.__init__"))) && decide (PySem.W.subIn K (.ref (He.ga K x)) (.type "ValueError") = some true)))))))))))
structure PrgOk (P : Program) (file : Str) : Prop where
  file : (P.main.file : Str) = file
  top : (P.main.scope.names.lookup ("super" : Str)).isSome = false
/-- an own exception keeps to its class -/
structure ExcP (P : Program) (K : Frag) (mg : Str → Option Value) (x : Str) (fs : List Str) (d : He.DefD) : Prop where
  oex : OexC K (He.ga K x)
  xok : XOk K (He.ga K x) fs
  ini : PySem.W.findIn K (.ref (He.ga K x)) "__init__" = some (some (.ref (He.fAd K (x, some ("__init__" : Str)))))
  typ : PySem.W.typeIn K (.ref (He.fAd K (x, some ("__init__" : Str)))) = some (.type "function")
  sup : ∃ cc c, SupI P K mg (He.ga K x) (He.fAd K (x, some ("__init__" : Str))) ⟨d.name, d.qual, d.params, d.body, d.scope, [(("__class__" : Str), cc)], c⟩ ∧
    ∃ oc od osl doc pm an ct, K.lookup (He.fAd K (x, some ("__init__" : Str))) = some ⟨oc, od, .func (PySem.W.fnX d.name d.qual d.params d.body d.scope [(("__class__" : Str), cc)] .none .none doc pm an (.ref c) ct), osl⟩
theorem excB_ok {P : Program} {file : Str} {K : Frag} {mg : Str → Option Value} {x : Str} {fs : List Str} {d : He.DefD} (hd : d.at_ = (x, some ("__init__" : Str))) (h : excB file K x d.qual fs = true) (e : fnS K d.at_ = valS d) (hP : PrgOk P file) (ms : mg "super" = none) : ExcP P K mg x fs d := by
  unfold excB at h
  simp only [Bool.and_eq_true, decide_eq_true_eq, List.all_eq_true] at h
  obtain ⟨h1, h2, h3, h4, h5, h6, h7, h8, h9, h10, h11, h12⟩ := h
  obtain ⟨c1, c2, c3⟩ := clsB_ok h1
  have X := xfB_ok h3
  rw [← hd] at h2
  obtain ⟨cc, c, f1, f2, f3, f4⟩ := funB_ok h2 e
  rw [hd] at f4
  refine ⟨⟨c1, h5, X.exC, h6, h7⟩, ⟨X, h4⟩, h8, h9, cc, c, ⟨?_, f2, ?_, ⟨cc, rfl, f1⟩, c3, c2, h10, h11, h12, ms, hP.top⟩, f4⟩
  · obtain ⟨oc, od, osl, doc, pm, an, ct, lk⟩ := f4
    exact ⟨oc, od, osl, .none, .none, doc, pm, an, ct, lk⟩
  · obtain ⟨ccl, cdd, vs, ccs, z, tf, g1, g2, g3⟩ := f3
    exact ⟨ccl, cdd, vs, ccs, z, tf, g1, g2, by rw [hP.file]; exact g3⟩
/-- raising it -/
def PkE (P : Program) (w : World) (K : Frag) (mg : Str → Option Value) (base : Heap) (k : Nat) (x : Str) (names : List Str) (spf : SpD) : Prop :=
  ∃ fd ps, FnG P w K mg base (L2.CX P w) k (He.fAd K (x, some ("__init__" : Str))) fd ps (spIni K (He.ga K x) spf names) ∧ Binds K fd ps [] ∧ OexC K (He.ga K x) ∧ PySem.W.findIn K (.ref (He.ga K x)) "__init__" = some (some (.ref (He.fAd K (x, some ("__init__" : Str))))) ∧
    PySem.W.typeIn K (.ref (He.fAd K (x, some ("__init__" : Str)))) = some (.type "function")
theorem PkE.mono {P : Program} {w : World} {K : Frag} {mg : Str → Option Value} {base : Heap} {j k : Nat} {x : Str} {names : List Str} {spf : SpD} (h : PkE P w K mg base j x names spf) (l : j ≤ k) : PkE P w K mg base k x names spf := by
  obtain ⟨fd, ps, F, b⟩ := h
  exact ⟨fd, ps, F.mono l, b⟩
theorem raiseP {X : Cx} {W : WX} {k j : Nat} {x : Str} {names : List Str} {spf : SpD} {e : Expr} {es : List Expr} {ta : TA} {p pos pos' : Pos} (tk : Takes X W) (F : PkE X.prog X.w X.K X.mg X.base j x names spf) (hj : j + 1 ≤ k) (room : Room k X.A) (gd : X.A.guards = some []) (hc : X.calm = true) (gl : Gl X x) (mgx : X.mg x = some (.ref (He.ga X.K x)))
    (ha : PA X (e :: es) ta) (hdb : (x == ("__debug__" : Str)) = false := by decide) (he : starEach (e :: es) X.env = (false, eval e X.env) :: starEach es X.env := by rfl) (hpl : (backTo pos (starEach es X.env)).any (·.1) = false := by rfl) :
    PS X (.Raise (some (.Call (.Name x p) (e :: es) [] pos)) none pos') (tRaise X.K W (He.ga X.K x) spf names ta) := by
  obtain ⟨fd, ps, F, b, T, iC, tI⟩ := F
  exact ps_raise hc tk (pmk_exc T iC tI F (room.mono hj) gd b gl mgx ha hdb he hpl)
/-! ### the Hook, with the methods that have a __class__ cell -/
def frE (g : Addr → Option Obj) (n : Nat) : Frag := He.frT g (He.asD g n ++ [cStatics])
abbrev AlE : Type := (He.AlT × Bool) × List FnS
def obsE (n : Nat) (fa : List He.Fa) (fn : List He.DefD) (ts : List He.Tab) (sd : List He.DefD) (ex : Frag → Bool) (g : Addr → Option Obj) : AlE := ((He.obsT fa fn ts (frE g n), ex (frE g n)), sd.map fun d => fnS (frE g n) d.at_)
def valE (fn : List He.DefD) (ts : List He.Tab) (sd : List He.DefD) (w : World) : AlE := ((He.valT fn ts w, true), sd.map valS)
structure SaysE (fa : List He.Fa) (fn : List He.DefD) (ts : List He.Tab) (sd : List He.DefD) (ex : Frag → Bool) (w : World) (K : Frag) : Prop where
  t : He.SaysT fa fn ts w K
  more : ex K = true
  sup : sd.map (fun d => fnS K d.at_) = sd.map valS
def hookE (n : Nat) (fa : List He.Fa) (fn : List He.DefD) (ts : List He.Tab) (sd : List He.DefD) (ex : Frag → Bool) : PySem.W.Hook where
  α := AlE
  obs := fun s => obsE n fa fn ts sd ex s.heap.get?
  val := fun w => valE fn ts sd w
  says := fun w h => ∃ K : Frag, K.In h ∧ SaysE fa fn ts sd ex w K
  of := fun _ _ e => ⟨_, He.frT_in, congrArg (fun z : AlE => z.1.1) e, congrArg (fun z : AlE => z.1.2) e, congrArg (fun z : AlE => z.2) e⟩
  keeps := fun _ _ _ ⟨K, hK, c⟩ k => ⟨K, PySem.W.Frag.In.keeps hK k, c⟩
theorem obsE_eq {n : Nat} {fa : List He.Fa} {fn : List He.DefD} {ts : List He.Tab} {sd : List He.DefD} {ex : Frag → Bool} {g : Addr → Option Obj} {s : Shared} (h : ∀ a, g a = s.heap.get? a) : obsE n fa fn ts sd ex g = (hookE n fa fn ts sd ex).obs s := by
  have e : g = s.heap.get? := funext h
  rw [e] <;> rfl
theorem SaysE.supd {fa : List He.Fa} {fn : List He.DefD} {ts : List He.Tab} {sd : List He.DefD} {ex : Frag → Bool} {w : World} {K : Frag} (c : SaysE fa fn ts sd ex w K) (i : Nat) {d : He.DefD} (h : sd[i]? = some d := by rfl) : fnS K d.at_ = valS d := by
  have e : (sd.map fun d => fnS K d.at_)[i]? = (sd.map valS)[i]? := by rw [c.sup]
  rw [List.getElem?_map, List.getElem?_map, h] at e
  exact Option.some.inj e
end DL

set_option Elab.async false
set_option linter.all false
set_option maxRecDepth 100000
set_option maxHeartbeats 2000000
namespace DL
open PySem PySem.Spec PyProof.Rows L2

/-! ### dicts: keys are ints, texts, tuples of these -/
def valG {κ : Type} [DecidableEq κ] (ks : List κ) (vs : List D) (k : κ) : Option D := ((ks.zip vs).find? fun p => decide (p.1 = k)).map (·.2)
theorem valG_key {ks : List Key} {vs : List D} {k : Key} : valG ks vs k = valD ks vs k := rfl
def putP {κ : Type} [DecidableEq κ] (ps : List (κ × D)) (k : κ) (v : D) : List (κ × D) :=
  if (ps.any fun p => decide (p.1 = k)) = true then ps.map (fun p => if p.1 = k then (p.1, v) else p) else ps ++ [(k, v)]
def getP {κ : Type} [DecidableEq κ] (ps : List (κ × D)) (k : κ) : Option D := (ps.find? fun p => decide (p.1 = k)).map (·.2)
theorem valG_P {κ : Type} [DecidableEq κ] {k : κ} : ∀ {ps : List (κ × D)}, valG (ps.map (·.1)) (ps.map (·.2)) k = getP ps k := by
  intro ps
  unfold valG getP
  have e : ∀ l : List (κ × D), (l.map (·.1)).zip (l.map (·.2)) = l := fun l => by
    induction l with
    | nil => rfl
    | cons p r ih => simp [ih]
  rw [e]
def keysOf : List D → Option (List Key)
  | [] => some []
  | d :: ds => match keyD d, keysOf ds with
    | some k, some ks => some (k :: ks)
    | _, _ => none
def keyT : D → Option (List Key)
  | .tup ds => keysOf ds
  | _ => none
def dvwT (γ : Ga) : D → Option (List (List Key) × List D)
  | .dit ks vs => some (ks, vs)
  | .loc k => match γ[k]? with
    | some (.dit ks vs) => some (ks, vs)
    | _ => none
  | _ => none
/-- what the dict d has at y -/
def DV (γ : Ga) (d y : D) (o : Option D) : Prop :=
  (∃ ks vs k, dvw γ d = some (ks, vs) ∧ keyD y = some k ∧ o = valG ks vs k) ∨ ∃ ks vs k, dvwT γ d = some (ks, vs) ∧ keyT y = some k ∧ o = valG ks vs k
section
variable {K : KX} {ρ : Env} {γ : Ga} {Q : QD}
theorem keysOf_rp {K : Frag} {H : Hp} {α : Al} : ∀ {ds : List D} {us : List V} {ks : List Key}, RpL K H α us ds → keysOf ds = some ks → us = ks.map kV
  | [], _, ks, h, e => by
    cases h
    cases e
    rfl
  | d :: ds, _, ks, h, e => by
    cases h with
    | cons h1 h2 =>
      unfold keysOf at e
      split at e
      · rename_i k ks' e1 e2
        cases e
        have q1 := keyD_rp (K := ⟨K, W0, fun _ _ _ _ _ => False⟩) h1 e1
        subst q1
        rw [keysOf_rp h2 e2]
        rfl
      · cases e
theorem keyT_rp {K : Frag} {H : Hp} {α : Al} {v : V} {d : D} {k : List Key} (r : Rp K H α v d) (h : keyT d = some k) : ∃ b, v = .ref b ∧ H b = some (.tup (k.map kV)) := by
  cases r with
  | tup h1 h2 =>
    refine ⟨_, rfl, ?_⟩
    rw [← keysOf_rp h2 h]
    exact h1.2
  | _ => cases h
theorem dit_rp {H : Hp} {α : Al} {v : V} {d : D} {ks : List (List Key)} {vs : List D} (g : GaX K H α γ) (r : Rp K H α v d) (h : dvwT γ d = some (ks, vs)) : ∃ a kvs, v = .ref a ∧ H a = some (.dT kvs) ∧ kvs.map (·.1) = ks ∧ RpL K H α (kvs.map (·.2)) vs := by
  cases r with
  | dit h1 h2 h3 =>
    cases h
    exact ⟨_, _, rfl, h2, rfl, h3⟩
  | @loc k a ha =>
    unfold dvwT at h
    cases q : γ[k]? with
    | none => simp [q] at h
    | some m =>
      cases m with
      | dit ks' vs' =>
        simp [q] at h
        obtain ⟨rfl, rfl⟩ := h
        obtain ⟨kvs, h1, h2, h3⟩ := g.at_ _ _ _ ha q
        exact ⟨a, kvs, rfl, h1, h2, h3⟩
      | _ => simp [q] at h
  | _ => cases h
theorem valG_rp {κ : Type} [DecidableEq κ] {K : Frag} {H : Hp} {α : Al} {k : κ} : ∀ {kvs : List (κ × V)} {vs : List D}, RpL K H α (kvs.map (·.2)) vs →
    (∀ d, valG (kvs.map (·.1)) vs k = some d → ∃ v, valV kvs k = some v ∧ Rp K H α v d) ∧ (valG (kvs.map (·.1)) vs k = none → valV kvs k = none)
  | [], _, h => by cases h; exact ⟨fun _ e => (by cases e), fun _ => rfl⟩
  | (a, b) :: r, _, h => by
    cases h with
    | @cons _ _ x xs h1 h2 =>
      obtain ⟨i1, i2⟩ := valG_rp (k := k) h2
      by_cases hk : a = k
      · have e1 : valG (((a, b) :: r).map (·.1)) (x :: xs) k = some x := by simp [valG, hk]
        have e2 : valV ((a, b) :: r) k = some b := by simp [valV, hk]
        rw [e1, e2]
        exact ⟨fun d e => by cases e; exact ⟨b, rfl, h1⟩, fun e => (by cases e)⟩
      · have e1 : valG (((a, b) :: r).map (·.1)) (x :: xs) k = valG (r.map (·.1)) xs k := by simp [valG, hk]
        have e2 : valV ((a, b) :: r) k = valV r k := by simp [valV, hk]
        rw [e1, e2]
        exact ⟨i1, i2⟩
theorem dv_rp {H : Hp} {α : Al} {v w : V} {d y : D} {o : Option D} (g : GaX K H α γ) (r : Rp K H α v d) (rw_ : Rp K H α w y) (h : DV γ d y o) :
    ∃ a ov, v = .ref a ∧ DGet H a w ov ∧ (∀ x, o = some x → ∃ u, ov = some u ∧ Rp K H α u x) ∧ (o = none → ov = none) := by
  rcases h with ⟨ks, vs, k, h1, h2, rfl⟩ | ⟨ks, vs, k, h1, h2, rfl⟩
  · obtain ⟨a, kvs, rfl, ha, rfl, hv⟩ := dic_rp g r h1
    obtain ⟨i1, i2⟩ := valG_rp (k := k) hv
    rw [keyD_rp rw_ h2]
    exact ⟨a, _, rfl, .inl ⟨kvs, k, .inl ha, rfl, rfl⟩, i1, i2⟩
  · obtain ⟨a, kvs, rfl, ha, rfl, hv⟩ := dit_rp g r h1
    obtain ⟨i1, i2⟩ := valG_rp (k := k) hv
    obtain ⟨b, rfl, hb⟩ := keyT_rp rw_ h2
    exact ⟨a, _, rfl, .inr ⟨kvs, k, b, .inl ha, rfl, hb, rfl⟩, i1, i2⟩
def IsDD (γ : Ga) (d : D) : Prop := (∃ p, dvw γ d = some p) ∨ ∃ p, dvwT γ d = some p
theorem isD_rp {H : Hp} {α : Al} {v : V} {d : D} (g : GaX K H α γ) (r : Rp K H α v d) (h : IsDD γ d) : ∃ a, v = .ref a ∧ IsD H a := by
  rcases h with ⟨⟨ks, vs⟩, h⟩ | ⟨⟨ks, vs⟩, h⟩
  · obtain ⟨a, kvs, rfl, ha, _⟩ := dic_rp g r h
    exact ⟨a, rfl, .inl ⟨kvs, .inl ha⟩⟩
  · obtain ⟨a, kvs, rfl, ha, _⟩ := dit_rp g r h
    exact ⟨a, rfl, .inr ⟨kvs, .inl ha⟩⟩
theorem de_dget {td ty : TE} (h : dE K td ρ γ fun d γ1 => dE K ty ρ γ1 fun y γ2 => ∃ v, DV γ2 d y (some v) ∧ Q v γ2) : dE K (tDGet td ty) ρ γ Q := fun σ H α q r g w =>
  h σ H α _ r g fun v H1 α1 d γ1 h1 e1 g1 r1 => h1 σ H1 α1 _ (r.mono e1) g1 fun u H2 α2 y γ2 ⟨x, hv, hq⟩ e2 g2 r2 => by
    obtain ⟨a, ov, rfl, hd, i1, _⟩ := dv_rp g2 (Rp.mono e2 _ _ r1) r2 hv
    obtain ⟨u', rfl, ru⟩ := i1 x rfl
    exact ⟨a, u', rfl, hd, w u' H2 α2 x γ2 hq (e1.trans e2) g2 ru⟩
theorem de_dgt2 {td ty tx : TE} (h : dE K td ρ γ fun d γ1 => IsDD γ1 d ∧ dE K ty ρ γ1 fun y γ2 => dE K tx ρ γ2 fun x γ3 => ∃ o, DV γ3 d y o ∧ Q (o.getD x) γ3) : dE K (tDGet2 td ty tx) ρ γ Q := fun σ H α q r g w =>
  h σ H α _ r g fun v H1 α1 d γ1 ⟨hi, h1⟩ e1 g1 r1 => by
    obtain ⟨a, rfl, ia⟩ := isD_rp g1 r1 hi
    refine ⟨a, rfl, ia, h1 σ H1 α1 _ (r.mono e1) g1 fun vy H2 α2 y γ2 h2 e2 g2 r2 => h2 σ H2 α2 _ ((r.mono e1).mono e2) g2 fun vx H3 α3 x γ3 ⟨o, hv, hq⟩ e3 g3 r3 => ?_⟩
    obtain ⟨a', ov, ea, hd, i1, i2⟩ := dv_rp g3 (Rp.mono (e2.trans e3) _ _ r1) (Rp.mono e3 _ _ r2) hv
    cases ea
    refine ⟨ov, hd, ?_⟩
    cases o with
    | none =>
      rw [i2 rfl]
      exact w vx H3 α3 x γ3 hq ((e1.trans e2).trans e3) g3 r3
    | some dd =>
      obtain ⟨u, rfl, ru⟩ := i1 dd rfl
      exact w u H3 α3 dd γ3 hq ((e1.trans e2).trans e3) g3 ru
theorem de_dgt1 {td ty : TE} (h : dE K td ρ γ fun d γ1 => IsDD γ1 d ∧ dE K ty ρ γ1 fun y γ2 => ∃ o, DV γ2 d y o ∧ Q (o.getD .non) γ2) : dE K (tDGet1 td ty) ρ γ Q := fun σ H α q r g w =>
  h σ H α _ r g fun v H1 α1 d γ1 ⟨hi, h1⟩ e1 g1 r1 => by
    obtain ⟨a, rfl, ia⟩ := isD_rp g1 r1 hi
    refine ⟨a, rfl, ia, h1 σ H1 α1 _ (r.mono e1) g1 fun vy H2 α2 y γ2 ⟨o, hv, hq⟩ e2 g2 r2 => ?_⟩
    obtain ⟨a', ov, ea, hd, i1, i2⟩ := dv_rp g2 (Rp.mono e2 _ _ r1) r2 hv
    cases ea
    refine ⟨ov, hd, ?_⟩
    cases o with
    | none =>
      rw [i2 rfl]
      exact w .non H2 α2 .non γ2 hq (e1.trans e2) g2 .non
    | some dd =>
      obtain ⟨u, rfl, ru⟩ := i1 dd rfl
      exact w u H2 α2 dd γ2 hq (e1.trans e2) g2 ru
theorem de_din {ty td : TE} (h : dE K ty ρ γ fun y γ1 => dE K td ρ γ1 fun d γ2 => ∃ o, DV γ2 d y o ∧ Q (.bl o.isSome) γ2) : dE K (tDIn ty td) ρ γ Q := fun σ H α q r g w =>
  h σ H α _ r g fun v H1 α1 y γ1 h1 e1 g1 r1 => h1 σ H1 α1 _ (r.mono e1) g1 fun u H2 α2 d γ2 ⟨o, hv, hq⟩ e2 g2 r2 => by
    obtain ⟨a, ov, rfl, hd, i1, i2⟩ := dv_rp g2 r2 (Rp.mono e2 _ _ r1) hv
    refine ⟨a, ov, rfl, hd, ?_⟩
    have e : ov.isSome = o.isSome := by
      cases o with
      | none => rw [i2 rfl] <;> rfl
      | some x =>
        obtain ⟨u', rfl, _⟩ := i1 x rfl
        rfl
    rw [e]
    exact w _ H2 α2 _ γ2 hq (e1.trans e2) g2 (.bl _)
theorem de_dnotin {ty td : TE} (h : dE K ty ρ γ fun y γ1 => dE K td ρ γ1 fun d γ2 => ∃ o, DV γ2 d y o ∧ Q (.bl (!o.isSome)) γ2) : dE K (tDNotIn ty td) ρ γ Q := fun σ H α q r g w =>
  h σ H α _ r g fun v H1 α1 y γ1 h1 e1 g1 r1 => h1 σ H1 α1 _ (r.mono e1) g1 fun u H2 α2 d γ2 ⟨o, hv, hq⟩ e2 g2 r2 => by
    obtain ⟨a, ov, rfl, hd, i1, i2⟩ := dv_rp g2 r2 (Rp.mono e2 _ _ r1) hv
    refine ⟨a, ov, rfl, hd, ?_⟩
    have e : ov.isSome = o.isSome := by
      cases o with
      | none => rw [i2 rfl] <;> rfl
      | some x =>
        obtain ⟨u', rfl, _⟩ := i1 x rfl
        rfl
    rw [e]
    exact w _ H2 α2 _ γ2 hq (e1.trans e2) g2 (.bl _)
/-- {}: a new dict that will be changed -/
theorem de_dnewK (q : Q (.loc γ.length) (γ ++ [.dic [] []])) : dE K tDNewK ρ γ Q := fun σ H α k r g w => fun p hp =>
  w _ _ (α.push p) _ _ q (ext_loc g hp) (ga_loc g hp ⟨[], upd_same, rfl, .nil⟩) (.loc (by show (α.h ++ [p])[γ.length]? = _; rw [← g.len]; simp))
theorem de_dnewT (q : Q (.loc γ.length) (γ ++ [.dit [] []])) : dE K tDNewT ρ γ Q := fun σ H α k r g w => fun p hp =>
  w _ _ (α.push p) _ _ q (ext_loc g hp) (ga_loc g hp ⟨[], upd_same, rfl, .nil⟩) (.loc (by show (α.h ++ [p])[γ.length]? = _; rw [← g.len]; simp))
/-! ### d[k] = v -/
theorem putK_rp {κ : Type} [DecidableEq κ] {K : Frag} {H : Hp} {α : Al} {k : κ} {v : V} {d : D} (rv : Rp K H α v d) {kvs : List (κ × V)} {ps : List (κ × D)} (e : kvs.map (·.1) = ps.map (·.1)) (r : RpL K H α (kvs.map (·.2)) (ps.map (·.2))) :
    (putK kvs k v).map (·.1) = (putP ps k d).map (·.1) ∧ RpL K H α ((putK kvs k v).map (·.2)) ((putP ps k d).map (·.2)) ∧ (putK kvs k v).length ≤ kvs.length + 1 := by
  have hany : ∀ {kvs : List (κ × V)} {ps : List (κ × D)}, kvs.map (·.1) = ps.map (·.1) → (kvs.any fun p => decide (p.1 = k)) = ps.any fun p => decide (p.1 = k) := fun {kvs ps} e => by
    have h1 : (kvs.any fun p => decide (p.1 = k)) = (kvs.map (·.1)).any fun x => decide (x = k) := by rw [List.any_map]; rfl
    have h2 : (ps.any fun p => decide (p.1 = k)) = (ps.map (·.1)).any fun x => decide (x = k) := by rw [List.any_map]; rfl
    rw [h1, h2, e]
  have hmap : ∀ {kvs : List (κ × V)} {ps : List (κ × D)}, kvs.map (·.1) = ps.map (·.1) → RpL K H α (kvs.map (·.2)) (ps.map (·.2)) →
      ((kvs.map fun kv => if kv.1 = k then (kv.1, v) else kv).map (·.1)) = ((ps.map fun kv => if kv.1 = k then (kv.1, d) else kv).map (·.1)) ∧ RpL K H α ((kvs.map fun kv => if kv.1 = k then (kv.1, v) else kv).map (·.2)) ((ps.map fun kv => if kv.1 = k then (kv.1, d) else kv).map (·.2)) := by
    intro kvs
    induction kvs with
    | nil =>
      intro ps e r
      cases ps with
      | nil => exact ⟨rfl, .nil⟩
      | cons _ _ => cases e
    | cons p r ih =>
      intro ps e rr
      cases ps with
      | nil => cases e
      | cons q ps =>
        obtain ⟨a, b⟩ := p
        obtain ⟨a', b'⟩ := q
        simp only [List.map_cons, List.cons.injEq] at e
        obtain ⟨rfl, e⟩ := e
        cases rr with
        | cons r1 r2 =>
          obtain ⟨i1, i2⟩ := ih e r2
          by_cases hk : a = k
          · simp only [List.map_cons, if_pos hk]
            exact ⟨by rw [i1], .cons rv i2⟩
          · simp only [List.map_cons, if_neg hk]
            exact ⟨by rw [i1], .cons r1 i2⟩
  unfold putK putP
  rw [hany e]
  by_cases hh : (ps.any fun p => decide (p.1 = k)) = true
  · rw [if_pos hh, if_pos hh]
    obtain ⟨h1, h2⟩ := hmap e r
    exact ⟨h1, h2, by rw [List.length_map]; omega⟩
  · rw [if_neg hh, if_neg hh]
    refine ⟨by rw [List.map_append, List.map_append, e]; rfl, ?_, by simp⟩
    rw [List.map_append, List.map_append]
    exact r.append (.cons rv .nil)
end
section
variable {K : KX} {n : Nat} {ρ : Env} {γ : Ga} {nx bk ct : Env → Ga → Prop} {rt : QD}
/-- the dict at j with pairs ps -/
def DKat (γ : Ga) (j : Nat) (ps : List (Key × D)) : Prop := γ[j]? = some (.dic (ps.map (·.1)) (ps.map (·.2)))
def DTat (γ : Ga) (j : Nat) (ps : List (List Key × D)) : Prop := γ[j]? = some (.dit (ps.map (·.1)) (ps.map (·.2)))
abbrev moK (ps : List (Key × D)) : MO := .dic (ps.map (·.1)) (ps.map (·.2))
abbrev moT (ps : List (List Key × D)) : MO := .dit (ps.map (·.1)) (ps.map (·.2))
/-- what d[y] = v asks of the objects, and leaves -/
def DPutD (γ : Ga) (d y v : D) (q : Ga → Prop) : Prop :=
  (∃ j ps k, d = .loc j ∧ γ[j]? = some (moK ps) ∧ keyD y = some k ∧ ps.length < 1000000 ∧ q (γ.set j (moK (putP ps k v)))) ∨ ∃ j ps k, d = .loc j ∧ γ[j]? = some (moT ps) ∧ keyT y = some k ∧ ps.length < 1000000 ∧ q (γ.set j (moT (putP ps k v)))
theorem dput_rp {σ : L2.St} {H : Hp} {α : Al} {u w z : V} {d y v : D} {q : Ga → Prop} (g : GaX K H α γ) (ru : Rp K H α u d) (rw_ : Rp K H α w y) (rz : Rp K H α z v) (h : DPutD γ d y v q) :
    ∃ a H' γ', u = .ref a ∧ DPut H a w z H' ∧ q γ' ∧ Ext α H α H' ∧ GaX K H' α γ' := by
  rcases h with ⟨j, ps, k, rfl, hj, hk, hl, hq⟩ | ⟨j, ps, k, rfl, hj, hk, hl, hq⟩
  · cases ru with
    | @loc _ a ha =>
      obtain ⟨kvs, h1, h2, h3⟩ := g.at_ _ _ _ ha hj
      have ex := ext_set g (o := .dK (putK kvs k z)) (List.mem_of_getElem? ha)
      obtain ⟨p1, p2, _⟩ := putK_rp (k := k) (Rp.mono ex _ _ rz) h2 (RpL.mono ex _ _ h3)
      rw [keyD_rp rw_ hk]
      have hlen : kvs.length = ps.length := by simpa using congrArg List.length h2
      exact ⟨a, _, _, rfl, .inl ⟨kvs, k, h1, rfl, by rw [hlen]; exact size24 hl, rfl⟩, hq, ex, ga_set g ha ⟨_, upd_same, p1, p2⟩⟩
  · cases ru with
    | @loc _ a ha =>
      obtain ⟨kvs, h1, h2, h3⟩ := g.at_ _ _ _ ha hj
      have ex := ext_set g (o := .dT (putK kvs k z)) (List.mem_of_getElem? ha)
      obtain ⟨p1, p2, _⟩ := putK_rp (k := k) (Rp.mono ex _ _ rz) h2 (RpL.mono ex _ _ h3)
      obtain ⟨b, rfl, hb⟩ := keyT_rp rw_ hk
      have hlen : kvs.length = ps.length := by simpa using congrArg List.length h2
      exact ⟨a, _, _, rfl, .inr ⟨kvs, k, b, h1, rfl, hb, by rw [hlen]; exact size24 hl, rfl⟩, hq, ex, ga_set g ha ⟨_, upd_same, p1, p2⟩⟩
theorem xs_dput {td ty tv : TE} (h : dE K tv ρ γ fun v γ1 => dE K td ρ γ1 fun d γ2 => dE K ty ρ γ2 fun y γ3 => DPutD γ3 d y v fun γ4 => nx ρ γ4) : dS K n (sDPut td ty tv) ρ γ ⟨nx, rt, bk, ct⟩ := fun σ H α α0 H0 Dn hn e r g fe =>
  h σ H α _ r g fun z H1 α1 v γ1 h1 e1 g1 r1 => h1 σ H1 α1 _ (r.mono e1) g1 fun u H2 α2 d γ2 h2 e2 g2 r2 => h2 σ H2 α2 _ ((r.mono e1).mono e2) g2 fun w H3 α3 y γ3 h3 e3 g3 r3 => by
    obtain ⟨a, H', γ', rfl, hp, hq, ex, gx⟩ := dput_rp (σ := σ) g3 (Rp.mono e3 _ _ r2) r3 (Rp.mono (e2.trans e3) _ _ r1) h3
    exact ⟨a, H', rfl, hp, fe.nx σ H' α3 ρ γ' hq ((((e.trans e1).trans e2).trans e3).trans ex) gx ((((r.mono e1).mono e2).mono e3).mono ex)⟩
theorem xs_daug {td ty tv : TE} {rd : V → V → Hp → VK → Prop} (h : dE K td ρ γ fun d γ1 => dE K ty ρ γ1 fun y γ2 => ∃ v, DV γ2 d y (some v) ∧ dE K tv ρ γ2 fun w γ3 => dR2 K rd v w γ3 fun z γ4 => DPutD γ4 d y z fun γ5 => nx ρ γ5) : dS K n (sDAug td ty tv rd) ρ γ ⟨nx, rt, bk, ct⟩ := fun σ H α α0 H0 Dn hn e r g fe =>
  h σ H α _ r g fun u H1 α1 d γ1 h1 e1 g1 r1 => h1 σ H1 α1 _ (r.mono e1) g1 fun w H2 α2 y γ2 ⟨v, hv, h2⟩ e2 g2 r2 => by
    obtain ⟨a, ov, rfl, hd, i1, _⟩ := dv_rp g2 (Rp.mono e2 _ _ r1) r2 hv
    obtain ⟨u', rfl, ru⟩ := i1 v rfl
    refine ⟨a, u', rfl, hd, h2 σ H2 α2 _ ((r.mono e1).mono e2) g2 fun x H3 α3 xd γ3 h3 e3 g3 r3 => h3 H3 α3 u' x _ g3 (Rp.mono e3 _ _ ru) r3 fun z' H4 α4 z γ4 h4 e4 g4 r4 => ?_⟩
    obtain ⟨a', H', γ', ea, hp, hq, ex, gx⟩ := dput_rp (σ := σ) g4 (Rp.mono ((e2.trans e3).trans e4) _ _ r1) (Rp.mono (e3.trans e4) _ _ r2) r4 h4
    cases ea
    exact ⟨H', hp, fe.nx σ H' α4 ρ γ' hq (((((e.trans e1).trans e2).trans e3).trans e4).trans ex) gx (((((r.mono e1).mono e2).mono e3).mono e4).mono ex)⟩
/-! ### xs[::-1] -/
theorem de_revL {te : TE} {Q : QD} (h : dE K te ρ γ fun d γ1 => ∃ xs, vw γ1 d = .lst xs ∧ Q (.lst xs.reverse) γ1) : dE K (tRevL K.f te) ρ γ Q := fun σ H α q r g w =>
  h σ H α _ r g fun v H1 α1 d γ1 ⟨xs, hx, hq⟩ e1 g1 r1 => by
    obtain ⟨a, us, rfl, ha, ru⟩ := lst_vw g1 r1 hx
    refine ⟨a, us, rfl, SqL.of ha, fun p hp => w _ _ α1 _ γ1 hq (e1.trans (ext_imm g1 hp)) (ga_imm g1 hp) (.lst (g1.new hp) upd_same (RpL.mono (ext_imm g1 hp) _ _ ?_))⟩
    have key : ∀ {us : List V} {xs : List D}, RpL K.f H1 α1 us xs → RpL K.f H1 α1 us.reverse xs.reverse := by
      intro us
      induction us with
      | nil => intro xs h; cases h; exact .nil
      | cons u us ih =>
        intro xs h
        cases h with
        | cons h1 h2 =>
          rw [List.reverse_cons, List.reverse_cons]
          exact (ih h2).append (.cons h1 .nil)
    exact key ru
end
end DL

set_option Elab.async false
set_option linter.all false
set_option maxRecDepth 100000
set_option maxHeartbeats 4000000
/-! a list comprehension whose element may raise -/
namespace DL
open PySem PySem.Spec PyProof.Rows L2

section
variable {M : Model} {A : Around} {E : Value → Shared → Prop} {s : Shared} {env : PySem.Env}
/-- the end of the block: as the library tells it, but the frame of an error is known -/
def EndX (M : Model) (A : Around) (E : Value → Shared → Prop) (use : Option (Value → Sem Unit)) (Q : Value → Shared → Prop) (acc : Value) (C : Addr) (fr : Option Addr) (r : Result) (s' : Shared) : Prop :=
  match r with
  | .ok f => compPost M A E use Q acc C (.ok f) s'
  | .error x => ∃ m, s'.heap.Ns C m ∧ ∀ h2, Heap.SameBut C s'.heap h2 → ∀ ce : PySem.Env, ce.frame = fr → wpAny M A (passOn "comprehension.variables-let-go" x ce : Sem Value) (fun _ _ => False) E { s' with heap := h2 }
theorem comp_x {e : Expr} {scope : Scope} {pos : Pos} {fresh first : Sem Value} {g : Comprehension} {gs : List Comprehension} {cl : List (Str × Addr)} {use : Option (Value → Sem Unit)} {Q : Value → Shared → Prop}
    (h1 : clausesOf e = g :: gs) (h2 : ∀ x, foldedSetIterable g.iter env x = pure x) (h3 : closureFor scope env = pure cl) (h4 : scope.kind = .function) (h5 : ∀ x ∈ scope.names, x.2 = .local → scope.names.lookup x.1 = some .local)
    (h : wpAny M A first (fun x sa => wpAny M A (pyIter x) (fun it sb => wpAny M A fresh (fun acc sc => wpAny M A (newFunctionEnv scope env.globals cl [] env.qual none .none (some env)) (fun ce sd =>
      codeAny M A (.compStart e 0 it acc { ce with scope := relabel scope env }) (EndX M A E use Q acc ce.locals ce.frame) sd) E sc) E sb) E sa) E s) :
    wpAny M A (comprehension e scope env pos fresh false first use) Q E s := by
  unfold comprehension
  rw [h3, h1]
  have up : ∀ {β : Type} {t : Sem β} {P P' : β → Shared → Prop} {s0 : Shared}, wpAny M A t P E s0 → (∀ a b, P a b → P' a b) → wpAny M A t P' E s0 := fun a b => wpAny_mono a b fun _ _ z => z
  refine wpAny_bind (up h fun x sa ha => ?_)
  refine wpAny_bind (wpAny_standAt (wpAny_bind (wpAny_of_eq (h2 x) (wpAny_bind (wpAny_holding (up ha fun it sb hb => ?_))))))
  refine wpAny_standIf (wpAny_bind (up hb fun acc sc hc => ?_))
  refine wpAny_bind (wpAny_pure (wpAny_bind (up hc fun ce sd hd => ?_)))
  dsimp only
  have lk : ∀ x ∈ scope.names, x.2 = .local → PySem.Env.kindOf { ce with scope := relabel scope env } x.1 = some .local := fun x hx hl => lookup_relabel_local (h5 x hx hl)
  have lk1 : ∀ x ∈ (scope.names.filter fun x => (x.2 == .local || x.2 == .cell) && x.1 != (".0" : Str)).reverse, x.2 = .local → PySem.Env.kindOf { ce with scope := relabel scope env } x.1 = some .local := fun x hx hl =>
    lk x (List.mem_filter.mp (List.mem_reverse.mp hx)).1 hl
  have lk2 : ∀ x ∈ (scope.names.filter fun x => (x.2 == .local || x.2 == .cell) && x.1 != (".0" : Str)).reverse.drop 1 ++ (scope.names.filter fun x => (x.2 == .local || x.2 == .cell) && x.1 != (".0" : Str)).reverse.take 1, x.2 = .local → PySem.Env.kindOf { ce with scope := relabel scope env } x.1 = some .local := fun x hx hl => by
    rcases List.mem_append.mp hx with z | z
    · exact lk1 x (List.mem_of_mem_drop z) hl
    · exact lk1 x (List.mem_of_mem_take z) hl
  refine wpAny_holding (wpAny_bind (wpAny_attempt (wpAny_holding (wpAny_run (codeAny_mono hd fun r s2 hr => ?_)))))
  cases r with
  | error x =>
    obtain ⟨m, hn, hk⟩ := hr
    exact wpAny_bind (wpAny_holding (wpAny_comp_letGo (cenv := { ce with scope := relabel scope env }) h4 _ s2 m lk1 hn fun h' m' _ sb => wpAny_mono (hk h' sb _ rfl) (fun _ _ z => z.elim) fun _ _ z => z))
  | ok f =>
    cases use with
    | none =>
      obtain ⟨m, hn, hk⟩ := hr
      exact wpAny_bind (wpAny_holding (wpAny_comp_letGo (cenv := { ce with scope := relabel scope env }) h4 _ s2 m lk1 hn fun h' m' _ sb => wpAny_pure (hk h' sb)))
    | some u =>
      refine wpAny_bind (wpAny_rule (wpAny_bind (wpAny_holding (up hr fun _ s3 hk => ?_))))
      obtain ⟨m, hn, hk⟩ := hk
      exact wpAny_bind (wpAny_comp_letGo (cenv := { ce with scope := relabel scope env }) h4 _ s3 m lk2 hn fun h' m' _ sb => wpAny_pure (hk h' sb))
theorem note_frame {e : Value} {env1 env2 : PySem.Env} (h : env1.frame = env2.frame) : noteFrame e env1 = noteFrame e env2 := by
  unfold noteFrame PySem.frameOf
  rw [h]
end
section
variable {X : Cx} {pins : List (Addr × Obj)} {σ : L2.St} {H : Hp} {s : Shared}
/-- the block's context, its errors told -/
abbrev blkX (X : Cx) (s : Shared) (H : Hp) (scope : Scope) (ce : PySem.Env) (fp : List Addr) (xe : Value → Shared → Prop) : Cx := { X.blk s H scope ce fp with xe := xe }
theorem blk_to {scope : Scope} {ce : PySem.Env} {fp : List Addr} {xe : Value → Shared → Prop} {s0 : Shared} {H0 : Hp} (I : Inv (X.blk s0 H0 scope ce fp) pins σ H s) : Inv (blkX X s0 H0 scope ce fp xe) pins σ H s :=
  ⟨⟨I.ok.mod, I.ok.kind, I.ok.glob, I.ok.blt, I.ok.above, I.ok.inj, I.ok.has, I.ok.cab, I.ok.hd, I.ok.frames, I.ok.stk, I.ok.exf, I.ok.bs, I.ok.bsz, I.ok.noex, I.ok.exfs, I.ok.funs, I.ok.frf⟩, I.os, I.bare, I.base, I.loc, I.cell, I.free, I.freeC, I.pin, I.hok, I.len⟩
theorem blk_of {scope : Scope} {ce : PySem.Env} {fp : List Addr} {xe : Value → Shared → Prop} {s0 : Shared} {H0 : Hp} (I : Inv (blkX X s0 H0 scope ce fp xe) pins σ H s) : Inv (X.blk s0 H0 scope ce fp) pins σ H s :=
  ⟨⟨I.ok.mod, I.ok.kind, I.ok.glob, I.ok.blt, I.ok.above, I.ok.inj, I.ok.has, I.ok.cab, I.ok.hd, I.ok.frames, I.ok.stk, I.ok.exf, I.ok.bs, I.ok.bsz, I.ok.noex, I.ok.exfs, I.ok.funs, I.ok.frf⟩, I.os, I.bare, I.base, I.loc, I.cell, I.free, I.freeC, I.pin, I.hok, I.len⟩
/-- what a callee in the block lets out leaves the comprehension -/
theorem blk_err {scope : Scope} {ce : PySem.Env} {fp : List Addr} {pins9 : List (Addr × Obj)} {σ9 : L2.St} {H3 H9 : Hp} {s3 s9 s10 : Shared} {u : Value} {W : WX} {ER : XK} {use : Option (Value → Sem Unit)} {Qf : Value → Shared → Prop} {D : Addr}
    (hs : X.stack = X.env :: X.outer) (hf : X.env.frame = some X.env.locals) (hce : ce.frame = X.env.frame) (hcl : s3.heap.objs.size ≤ ce.locals) (tk : Takes X W) (I3 : Inv X pins σ H3 s3)
    (hfp : ∀ b ∈ fp, (b ∈ X.ex ∨ X.s_0.heap.objs.size ≤ b) ∧ b ≠ X.env.locals ∧ (∀ x c, X.env.cells.lookup x = some c → c ≠ b) ∧ ∀ p ∈ X.pn ++ pins, p.1 ≠ b)
    (I9 : Inv (X.blk s3 H3 scope ce fp) pins9 σ9 H9 s9) (c : CX X.prog X.w X.stack H9 s9 ER u s10) (hW : ∀ cls d H', ER cls d H' → W cls d σ H') :
    notedBy (model X.prog X.w) X.A ce (fun e s' => EndX (model X.prog X.w) X.A X.xe use Qf (.ref D) ce.locals ce.frame (.error e) s') u s10 := by
  obtain ⟨a, B, H', cls, d, rfl, fl, hok, ub, na, os, ag, hE⟩ := c
  have okX := I3.ok
  have hfr : X.A.frames = some (X.env :: X.outer) := by rw [okX.frames, hs]
  have cnf : ce.locals ∉ frs X.stack := fun hb => by
    obtain ⟨_, o, ho, _⟩ := I3.stack.mem hb
    exact absurd (Nat.lt_of_lt_of_le (Heap.lt_size ho) hcl) (Nat.lt_irrefl _)
  obtain ⟨mc, hn9, _⟩ := I9.loc
  obtain ⟨oc, esc, epc, hoc, hdc, hrc⟩ := (show s9.heap.Ns ce.locals mc from hn9)
  have freeC : H9 ce.locals = none := I9.free
  have Bc : B.get? ce.locals = some oc := ub.keep _ _ hoc freeC cnf
  have Ban : B.get? a = none := fl.2.1
  have aC : a ≠ ce.locals := fun z => by rw [z, Bc] at Ban; cases Ban
  rw [hs] at fl
  show wpAny _ _ (noteFrame (.ref a) ce) _ _ _
  rw [note_frame hce]
  refine HandSPX.looks_onZ Zc.steady hfr hf fl fun h1 hh1 up1 => ?_
  refine ⟨mc, ⟨oc, esc, epc, hh1.1 _ _ Bc, hdc, hrc⟩, fun h2 sb ce2 hce2 => ?_⟩
  obtain ⟨B2, b1, b2⟩ := restrict B fun b => decide (b ≠ ce.locals)
  have B2to : ∀ b o, b ≠ ce.locals → B.get? b = some o → B2.get? b = some o := fun b o hb e => by rw [b1 b (decide_eq_true hb)]; exact e
  have B2of : ∀ b o, B2.get? b = some o → B.get? b = some o ∧ b ≠ ce.locals := fun b o e => by
    by_cases hb : b = ce.locals
    · rw [b2 b (by simp [hb])] at e; cases e
    · rw [b1 b (decide_eq_true hb)] at e
      exact ⟨e, hb⟩
  have B2n : ∀ b, B.get? b = none → B2.get? b = none := fun b e => by
    cases q : B2.get? b with
    | none => rfl
    | some o => rw [(B2of b o q).1] at e; cases e
  have h2of : ∀ b o, b ≠ ce.locals → h1.get? b = some o → h2.get? b = some o := fun b o hb e => (sb.2 b hb).trans e
  have hh2 : HandSPX.HeldZ B2 (X.env :: X.outer) a (Zc cls d) X.env.locals h2 := by
    obtain ⟨k1, k2, k3, oe, vs, T, oT, ts, t1, t2, t3, t4, t5, t6, t7, t8, t9⟩ := hh1
    have TC : T ≠ ce.locals := fun z => by rw [z, Bc] at t5; cases t5
    refine ⟨fun b o e => h2of b o (B2of b o e).2 (k1 b o (B2of b o e).1), B2n a k2, ?_, oe, vs, T, oT, ts, h2of a oe aC t1, t2, t3, t4, B2n T t5, t6, h2of T oT TC t7, t8, t9⟩
    have all : ∀ l : List PySem.Env, h1.FunFrames B l → h2.FunFrames B2 l := by
      intro l
      induction l with
      | nil => intro _; trivial
      | cons env r ih =>
        rintro ⟨q1, ⟨L, o, q2, q3, q4, q5⟩, q6⟩
        have LC : L ≠ ce.locals := fun z => by rw [z, Bc] at q3; cases q3
        exact ⟨q1, ⟨L, o, q2, B2n L q3, h2of L o LC q4, q5⟩, ih q6⟩
    exact all _ k3
  obtain ⟨k1, k2, k3, oe, vs, T, oT, ts, t1, t2, t3, t4, t5, t6, t7, t8, t9⟩ := id hh2
  unfold PySem.passOn
  refine wpAny_bind (wpAny_field t1 t3 t4 ?_)
  rw [if_neg (show ¬ ((Value.ref T == Value.none) = true) by simp)]
  have fin : wpAny (model X.prog X.w) X.A (setFlight (.ref a) ce2.frame) (fun _ s4 => wpAny (model X.prog X.w) X.A (throw (.ref a) : Sem Value) (fun _ _ => False) X.xe s4) X.xe { s10 with heap := h2 } := by
    rw [hce2, hce, hf]
    refine HandSPX.setFlight_onZ hh2 fun h3 hh3 up3 => wpAny_throw (tk _ _ ?_)
    obtain ⟨G, g1, g2⟩ := restrict h3 fun b => (B2.get? b).isSome || decide (b ∈ frs X.stack)
    have st : B2.StaysIn h3 := hh3.1
    have gB : ∀ b o, B2.get? b = some o → G.get? b = some o := fun b o e => by
      rw [g1 b (by simp [e])]
      exact st b o e
    have gF : ∀ b, b ∈ frs X.stack → G.get? b = h3.get? b := fun b hb => g1 b (by simp [hb])
    have og : ∀ b o, G.get? b = some o → h3.get? b = some o ∧ ((B2.get? b).isSome = true ∨ b ∈ frs X.stack) := fun b o e => by
      cases q : ((B2.get? b).isSome || decide (b ∈ frs X.stack)) with
      | false => rw [g2 b q] at e; cases e
      | true =>
        rw [g1 b q] at e
        exact ⟨e, by simpa [Bool.or_eq_true] using q⟩
    have neC : ∀ b o, s3.heap.get? b = some o → b ≠ ce.locals := fun b o e => Nat.ne_of_lt (Nat.lt_of_lt_of_le (Heap.lt_size e) hcl)
    have base : Un (frs X.stack) fp H3 H9 s3.heap s9.heap := I9.base
    have slotAll : ∀ b o, s3.heap.get? b = some o → H3 b = none → b ∈ frs X.stack → b ∉ fp → ∃ sl, h3.get? b = some { o with slots := sl } := fun b o e n hb hx => by
      obtain ⟨_, o0, e0, hnf⟩ := I3.stack.mem hb
      rw [e] at e0; cases e0
      obtain ⟨s1, q1⟩ := base.slot b o e n hb hx
      obtain ⟨s2, q2⟩ := ub.slot b _ q1 hb
      obtain ⟨s3', q3⟩ := up1 b _ q2 hnf
      obtain ⟨s4, q4⟩ := up3 b _ (h2of b _ (neC b o e) q3) hnf
      exact ⟨s4, q4⟩
    have bfr : ∀ b ∈ frs X.stack, b ∉ fp := fun b hb hx => by
      rcases List.mem_cons.mp (I3.stkSub b hb) with z | z
      · exact (hfp b hx).2.1 z
      · rcases (hfp b hx).1 with y | y
        · exact okX.exfs b y z
        · obtain ⟨_, o, ho, _⟩ := okX.funs.mem z
          exact absurd (Nat.lt_of_lt_of_le (Heap.lt_size ho) y) (Nat.lt_irrefl _)
    have HH : HOk X.prog X.w H' G := fun b o q => by
      have noC : ∀ {c : Addr} {v : HO}, H' c = some v → c ≠ ce.locals := fun {c v} hc z => by
        have := ub.free _ _ hoc freeC
        rw [z, this] at hc
        cases hc
      exact (hok b o q).stay (fun c v hc z => gB c v (B2to c v (by
        rcases hc with hc | hc
        · rw [hc]; exact noC q
        · exact noC hc) z)) (fun _ z => z) fun _ _ z => z
    refine ⟨a, B2, { s3 with heap := G, gens := s10.gens, drawn := s10.drawn, toks := s10.toks }, pins, σ, H', cls, d, rfl, ?_, fun b o e hb => ?_, Heap.UpToSlots.of_keeps fun b o e => (og b o e).1, .inr (.inr (by rw [hs]; exact hh3)), na, ?_, ag, hW _ _ _ hE⟩
    · refine I3.call (ch := fp) ⟨fun b o e n hb hx => gB b o (B2to b o (neC b o e) (ub.keep b o (base.keep b o e n hb hx) (base.free b o e n hx) hb)), fun b o e n hb hx => ?_, fun b o e n hx => ?_, fun b o e hx => ?_, fun b xs e => ub.tups b xs (base.tups b xs e), fun b o xs e => ub.frzs b o xs (base.frzs b o xs e), fun b ps e => ?_⟩ HH ag hfp
      · obtain ⟨sl, q⟩ := slotAll b o e n hb hx
        exact ⟨sl, by rw [gF b hb]; exact q⟩
      · obtain ⟨o', q⟩ := base.there b o e hx
        exact ub.free b o' q (base.free b o e n hx)
      · by_cases hb : b ∈ frs X.stack
        · obtain ⟨sl, q⟩ := slotAll b o e (I3.stkFree b hb) hb hx
          exact ⟨_, by rw [gF b hb]; exact q⟩
        · obtain ⟨o', q⟩ := base.there b o e hx
          obtain ⟨o2, q2⟩ := ub.there b o' q hb
          exact ⟨o2, gB b o2 (B2to b o2 (neC b o e) q2)⟩
      · obtain ⟨m1, e1⟩ := base.tbls b ps e
        obtain ⟨m2, e2⟩ := ub.tbls b _ e1
        exact ⟨m1 ++ m2, by rw [e2, Array.append_assoc]⟩
    · obtain ⟨e', h⟩ := og b o e
      rcases h with h | h
      · obtain ⟨o', q⟩ := Option.isSome_iff_exists.mp h
        have z := st b o' q
        rw [e'] at z; cases z
        exact q
      · exact absurd h hb
    · exact os.trans I9.os
  first
    | exact wpAny_bind (wpAny_pure (wpAny_bind fin))
    | exact wpAny_bind fin
end
end DL

set_option Elab.async false
set_option linter.all false
set_option maxRecDepth 100000
set_option maxHeartbeats 4000000
namespace DL
open PySem PySem.Spec PyProof.Rows L2

/-- the wish of an exception within the block: by the slots of the def -/
abbrev wIn (W : WX) (σ : L2.St) : WX := fun cls d _ H => W cls d σ H
def tLcX (W : WX) (wi : TI) (g : TG) (tt : WX → TT) (te : WX → TE) (vs : List Nat) : TE := fun σ H Q => tLc wi g (tt (wIn W σ)) (te (wIn W σ)) vs σ H Q
abbrev PassB (X : Cx) (W : WX) : Prop := ∀ σ, PassesAt (L2.CX X.prog X.w) X σ (WE W σ)
section
variable {X : Cx} {pins : List (Addr × Obj)} {σ : L2.St} {H : Hp} {s : Shared}
theorem lcX {W : WX} {Q : VK} {elt tg iter : Expr} {ifs : List Expr} {scope : Scope} {own : List (Str × Nat)} {pos pos2 : Pos} {wi : TI} {g : TG} {tt : WX → TT} {te : WX → TE} {use : Option (Value → Sem Unit)} {Qf : Value → Shared → Prop}
    (hst : X.stack = X.env :: X.outer) (hfm : X.env.frame = some X.env.locals) (tk : Takes X W) (calm : X.calm = true) (nd : X.N.Nodup) (I : Inv X pins σ H s) (hi : PI X tg iter wi) (ok : BlkOk X.N X.env.scope scope own)
    (hg : ∀ (s : Shared) (H : Hp) (C : Addr) (cl : List (Str × Addr)) (fp : List Addr) (xe : Value → Shared → Prop), PG (blkX X s H scope (compEnvC scope cl C X.env) fp xe) tg g)
    (ht : ∀ (s : Shared) (H : Hp) (C : Addr) (cl : List (Str × Addr)) (fp : List Addr) (xe : Value → Shared → Prop) (W' : WX), PassB (blkX X s H scope (compEnvC scope cl C X.env) fp xe) W' → PTs (blkX X s H scope (compEnvC scope cl C X.env) fp xe) ifs (tt W'))
    (he : ∀ (s : Shared) (H : Hp) (C : Addr) (cl : List (Str × Addr)) (fp : List Addr) (xe : Value → Shared → Prop) (W' : WX), PassB (blkX X s H scope (compEnvC scope cl C X.env) fp xe) W' → PE (blkX X s H scope (compEnvC scope cl C X.env) fp xe) elt (te W'))
    (hsf : ∀ x, foldedSetIterable iter X.env x = pure x) (h : tLcX W wi g tt te (own.map (·.2)) σ H Q)
    (hend : ∀ D C s2 m H2, Inv X pins σ H2 s2 → Q (.ref D) H2 → s2.heap.Ns C m → FpOk X pins H2 C → compPost (model X.prog X.w) X.A X.xe use Qf (.ref D) C (.ok .next) s2) :
    wpAny (model X.prog X.w) X.A (comprehension (.ListComp elt [⟨tg, iter, ifs, 0⟩] scope pos) scope X.env pos2 (newList []) false (eval iter X.env) use) Qf X.xe s := by
  have clo : ∀ y ∈ scope.names, y.2 = .free → ∃ c, X.env.cells.lookup y.1 = some c := fun y hy e => (ok.free y hy e).elim (fun k => I.ok.has _ (.inl k)) fun k => I.ok.has _ (.inr k)
  refine comp_x rfl hsf (closure_ok clo) ok.kind (fun y hy e => by rw [ok.uniq y hy, e]) (thn (hi.run pins s σ H _ I h) fun xv sa hx => thn hx fun itv sb hb => ?_)
  obtain ⟨it, fp, tn, J, Hb, ei, Ib, T, stb, fb, hq⟩ := hb
  subst ei
  refine wpAny_newObj_type (newEnv_comp ?_) (by show 0 ≤ sizeLine; decide)
  -- the new list's address
  obtain ⟨D, hD⟩ : ∃ D, D = sb.heap.objs.size := ⟨_, rfl⟩
  rw [← hD]
  have Dn : Hb D = none := Ib.hok.fresh (Nat.le_of_eq hD.symm)
  obtain ⟨WW, ⟨m0, w0⟩, turn⟩ := hq D Dn
  obtain ⟨sc, hsc⟩ : ∃ sc : Shared, sc = { sb with heap := sb.heap.push { cls := .type "list", data := .seq ([] : List Value).toArray } } := ⟨_, rfl⟩
  rw [← hsc]
  have hpc : sc.heap = sb.heap.push { cls := .type "list", data := .seq ([] : List Value).toArray } := by rw [hsc]
  have Ic : Inv X pins σ (upd Hb D (.lst [])) sc := by
    rw [hsc]
    exact Ib.laid (t' := sb.toks) (fun b o e => Heap.get?_push_of_some _ e) (Nat.le_of_eq hD.symm) ⟨Nat.zero_le _, [], 0, .nil, by rw [hD]; exact Heap.get?_push_size _ rfl⟩
  have old : ∀ b ∈ fp, b < sb.heap.objs.size := fun b hb => by
    obtain ⟨o, e, _⟩ := T.obj _ _ stb b hb
    exact Heap.lt_size e
  have fc : ∀ b ∈ fp, FpOk X pins (upd Hb D (.lst [])) b ∧ b < sc.heap.objs.size := fun b hb => by
    have l := old b hb
    refine ⟨⟨by rw [upd_ne (by rw [hD]; exact Nat.ne_of_lt l)]; exact (fb b hb).1, (fb b hb).2⟩, by rw [hpc, Heap.size_push]; exact Nat.lt_succ_of_lt l⟩
  have stc : tn 0 sc.heap := T.keep _ _ _ stb fun b _ o e => by rw [hpc]; exact Heap.get?_push_of_some _ e
  have fpc : ∀ b ∈ fp, (b ∈ X.ex ∨ X.s_0.heap.objs.size ≤ b) ∧ b ≠ X.env.locals ∧ (∀ x c, X.env.cells.lookup x = some c → c ≠ b) ∧ ∀ p ∈ X.pn ++ pins, p.1 ≠ b := fun b hb => ⟨(fc b hb).1.2.2.2.1, (fc b hb).1.2.1, (fc b hb).1.2.2.2.2.1, (fc b hb).1.2.2.2.2.2⟩
  have Id := block_start Ic ok nd fc
  have nfp : ∀ b ∈ fp, (upd Hb D (.lst [])) b = none := fun b hb => (fc b hb).1.1
  obtain ⟨cl, hcl⟩ : ∃ cl, cl = cellsFrom (sc.heap.objs.size + 1) scope.names (cloFrom X.env.cells scope.names []) := ⟨_, rfl⟩
  obtain ⟨ce, hce⟩ : ∃ ce, ce = compEnvC scope cl sc.heap.objs.size X.env := ⟨_, rfl⟩
  have pg := fun xe => hg sc (upd Hb D (.lst [])) sc.heap.objs.size cl fp xe
  have pt := fun xe => ht sc (upd Hb D (.lst [])) sc.heap.objs.size cl fp xe
  have pe := fun xe => he sc (upd Hb D (.lst [])) sc.heap.objs.size cl fp xe
  rw [← hcl] at Id
  rw [← hce] at Id
  simp only [← hce] at pg pt pe
  show codeAny _ _ (.compStart (.ListComp elt [⟨tg, iter, ifs, 0⟩] scope pos) 0 (.ref it) (.ref D) (compEnvC scope (cellsFrom (sc.heap.objs.size + 1) scope.names (cloFrom X.env.cells scope.names [])) sc.heap.objs.size X.env)) (EndX (model X.prog X.w) X.A X.xe use Qf (.ref D) sc.heap.objs.size X.env.frame) { sc with heap := pushCells (sc.heap.push { cls := .type "dict", data := .dict #[] }) scope.names }
  rw [← hcl, ← hce]
  have cL : ce.locals = sc.heap.objs.size := by rw [hce]; rfl
  have cF : ce.frame = X.env.frame := by rw [hce]; rfl
  obtain ⟨H3, hH3⟩ : ∃ H3, H3 = upd Hb D (.lst []) := ⟨_, rfl⟩
  rw [← hH3] at Ic Id nfp fc w0
  simp only [← hH3] at pg pt pe
  obtain ⟨sd, hsd⟩ : ∃ sd : Shared, sd = { sc with heap := pushCells (sc.heap.push { cls := .type "dict", data := .dict #[] }) scope.names } := ⟨_, rfl⟩
  rw [← hsd] at Id ⊢
  have std : tn 0 sd.heap := T.keep _ _ _ stc fun b _ o e => by rw [hsd]; exact pushCells_keeps _ _ _ _ (Heap.get?_push_of_some _ e)
  have stat : ∀ {σ' : L2.St} {H' : Hp} {s' : Shared}, Inv (X.blk sc H3 scope ce fp) [] σ' H' s' → (∀ b ∈ fp, H' b = none) → ∀ b ∈ fp, FpOk (X.blk sc H3 scope ce fp) [] H' b := fun {σ' H' s'} I' hn b hb =>
    ⟨hn b hb, (I'.ok.exf b hb).1, I'.ok.exfs b hb, .inl hb, fun x c e => (I'.ok.exf b hb).2 x c e, fun p hp => by simp at hp⟩
  let xe : Value → Shared → Prop := notedBy (model X.prog X.w) X.A ce (fun e s' => EndX (model X.prog X.w) X.A X.xe use Qf (.ref D) sc.heap.objs.size X.env.frame (.error e) s')
  have px : PassB (blkX X sc H3 scope ce fp xe) (wIn W σ) := fun σ9 pins9 H9 s9 e s10 I9 c => by
    have z := blk_err (use := use) (Qf := Qf) (D := D) hst hfm cF (Nat.le_of_eq cL.symm) tk Ic fpc (blk_of I9) c (fun _ _ _ h => h)
    rw [cL, cF] at z
    exact z
  refine codeAny_compStart_list ?_ (T.self X.A 0 _ _ _ std ?_)
  all_goals
    refine compLoop_any (fun n s' => ∃ i H', Inv (X.blk sc H3 scope ce fp) [] (wipe σ (own.map (·.2))) H' s' ∧ tn i s'.heap ∧ (∀ b ∈ fp, H' b = none) ∧ WW i n H') ?_ m0 ⟨0, H3, Id, std, nfp, w0⟩
    rintro n s5 ⟨i, H5, I5, st5, n5, w5⟩
    rcases turn i n H5 w5 with ⟨stop, qq⟩ | ⟨go, Nx, hNx, step⟩
    · have td := T.done (X.blk sc H3 scope ce fp) rfl rfl rfl calm i [] s5 _ H5 (fun _ _ => False) I5 (stat I5 n5) st5 stop
      refine thnF td fun r s6 hr6 => ?_
      obtain ⟨rfl, I6⟩ := hr6
      have I7 : Inv X pins σ H5 s6 := Ic.call' (ch := fp) I6.os I6.base I6.hok I6.bare fpc
      have nC : H5 sc.heap.objs.size = none := by
        rw [← cL]
        exact I6.free
      obtain ⟨m, hn, _⟩ := I6.loc
      have hn : s6.heap.Ns ce.locals m := hn
      rw [cL] at hn
      exact hend D sc.heap.objs.size s6 m H5 I7 qq hn (Ic.fpOk (Nat.le_refl _) nC)
    · have ti := T.item (X.blk sc H3 scope ce fp) rfl rfl rfl calm i [] s5 _ H5 (fun _ _ => False) I5 (stat I5 n5) st5 go
      refine thnF ti fun r s6 hr6 => ?_
      obtain ⟨u, rfl, h6⟩ := hr6
      refine thnF h6 fun _ s7 hh7 => ?_
      obtain ⟨x, H7, I7, r7, y7, st7, n7⟩ := hh7
      have I7p := I7.pinned (stat I7 n7) (T.obj _ _ st7)
      refine wpAny_mono ((pg xe).run _ s7 _ H7 x u _ (blk_to I7p) r7 (step x H7 y7)) (fun _ s8 hh8 => ?_) fun _ _ z => z
      obtain ⟨σ8, H8, I8, hw8, q8⟩ := hh8
      refine wpAny_mono ((pt xe _ px).run _ s8 σ8 H8 _ I8 q8) (fun b s9 hh9 => ?_) fun _ _ z => z
      obtain ⟨H9, I9, q9⟩ := hh9
      have fin : ∀ {s' : Shared} {H' : Hp}, Inv (X.blk sc H3 scope ce fp) ([] ++ pinsAt fp s7.heap) σ8 H' s' → Nx H' → ∃ m, m < n ∧ ∃ i H', Inv (X.blk sc H3 scope ce fp) [] (wipe σ (own.map (·.2))) H' s' ∧ tn i s'.heap ∧ (∀ b ∈ fp, H' b = none) ∧ WW i m H' := fun {s' H'} I' nx => by
        obtain ⟨m', hm, w'⟩ := hNx H' nx
        have pinned : ∀ b ∈ fp, ∀ o, s7.heap.get? b = some o → s'.heap.get? b = some o ∧ H' b = none := fun b hb o e =>
          let z := I'.pin (b, o) (List.mem_append_right _ (List.mem_append_right _ (mem_pinsAt hb e)))
          ⟨z.1, z.2.1⟩
        refine ⟨m', hm, i + 1, H', (I'.unpinned (pins := [])).weak (by rw [← hw8, wipe_length]) (fun j v e => by rw [← hw8] at e; exact (wipe_some e).1), T.keep _ _ _ st7 fun b hb o e => (pinned b hb o e).1, fun b hb => ?_, w'⟩
        obtain ⟨o, e, _⟩ := T.obj _ _ st7 b hb
        exact (pinned b hb o e).2
      cases b with
      | false =>
        simp only [Bool.false_eq_true, if_false] at q9 ⊢
        exact fin (blk_of I9) q9
      | true =>
        simp only [if_true] at q9 ⊢
        refine wpAny_mono ((pe xe _ px).run _ s9 σ8 H9 _ I9 q9) (fun z s10 hh10 => ?_) fun _ _ z => z
        obtain ⟨yv, H10, I10, r10, acc, hD10, hz10, nx⟩ := hh10
        exact app_ok (X := X.blk sc H3 scope ce fp) (blk_of I10) hD10 hz10 r10 fun s11 I11 => fin I11 nx
end
end DL

set_option Elab.async false
set_option linter.all false
set_option maxRecDepth 100000
set_option maxHeartbeats 4000000
namespace DL
open PySem PySem.Spec PyProof.Rows L2
section
variable {X : Cx} {W : WX}
theorem pe_lcX {elt tg iter : Expr} {ifs : List Expr} {scope : Scope} {own : List (Str × Nat)} {pos : Pos} {wi : TI} {g : TG} {tt : WX → TT} {te : WX → TE} (hst : X.stack = X.env :: X.outer) (hfm : X.env.frame = some X.env.locals) (tk : Takes X W) (calm : X.calm = true) (nd : X.N.Nodup) (hi : PI X tg iter wi) (ok : BlkOk X.N X.env.scope scope own)
    (hg : ∀ (s : Shared) (H : Hp) (C : Addr) (cl : List (Str × Addr)) (fp : List Addr) (xe : Value → Shared → Prop), PG (blkX X s H scope (compEnvC scope cl C X.env) fp xe) tg g)
    (ht : ∀ (s : Shared) (H : Hp) (C : Addr) (cl : List (Str × Addr)) (fp : List Addr) (xe : Value → Shared → Prop) (W' : WX), PassB (blkX X s H scope (compEnvC scope cl C X.env) fp xe) W' → PTs (blkX X s H scope (compEnvC scope cl C X.env) fp xe) ifs (tt W'))
    (he : ∀ (s : Shared) (H : Hp) (C : Addr) (cl : List (Str × Addr)) (fp : List Addr) (xe : Value → Shared → Prop) (W' : WX), PassB (blkX X s H scope (compEnvC scope cl C X.env) fp xe) W' → PE (blkX X s H scope (compEnvC scope cl C X.env) fp xe) elt (te W'))
    (hsf : ∀ x, foldedSetIterable iter X.env x = pure x := by intro _; rfl) : PE X (.ListComp elt [⟨tg, iter, ifs, 0⟩] scope pos) (tLcX W wi g tt te (own.map (·.2))) := ⟨fun pins s σ H Q I h => by
  rw [eval_ListComp]
  refine lcX hst hfm tk calm nd I hi ok hg ht he hsf h fun D C s2 m H2 I2 q hn ⟨f0, f1, f2, f3, f4, f5⟩ => ⟨m, hn, fun h3 sb => ?_⟩
  exact ⟨.ref D, H2, I2.turned (t' := s2.toks) (fun b o hb e => (sb.2 b hb).trans e) f0 f1 f3 f4 f5, rfl, q⟩⟩
theorem ps_setLcX {i : Nat} {y : Str} {py : Pos} {elt tg iter : Expr} {ifs : List Expr} {scope : Scope} {own : List (Str × Nat)} {pos spos : Pos} {wi : TI} {g : TG} {tt : WX → TT} {te : WX → TE} (hst : X.stack = X.env :: X.outer) (hfm : X.env.frame = some X.env.locals) (tk : Takes X W) (calm : X.calm = true) (nd : X.N.Nodup) (hy : X.N[i]? = some y) (hyl : X.env.scope.names.lookup y = some .local)
    (hsw : swapsWith (.ListComp elt [⟨tg, iter, ifs, 0⟩] scope pos) (some (.Name y py)) spos.line X.env = pure true) (hi : PI X tg iter wi) (ok : BlkOk X.N X.env.scope scope own)
    (hg : ∀ (s : Shared) (H : Hp) (C : Addr) (cl : List (Str × Addr)) (fp : List Addr) (xe : Value → Shared → Prop), PG (blkX X s H scope (compEnvC scope cl C X.env) fp xe) tg g)
    (ht : ∀ (s : Shared) (H : Hp) (C : Addr) (cl : List (Str × Addr)) (fp : List Addr) (xe : Value → Shared → Prop) (W' : WX), PassB (blkX X s H scope (compEnvC scope cl C X.env) fp xe) W' → PTs (blkX X s H scope (compEnvC scope cl C X.env) fp xe) ifs (tt W'))
    (he : ∀ (s : Shared) (H : Hp) (C : Addr) (cl : List (Str × Addr)) (fp : List Addr) (xe : Value → Shared → Prop) (W' : WX), PassB (blkX X s H scope (compEnvC scope cl C X.env) fp xe) W' → PE (blkX X s H scope (compEnvC scope cl C X.env) fp xe) elt (te W'))
    (hsf : ∀ x, foldedSetIterable iter X.env x = pure x := by intro _; rfl) : PS X (.Assign [.Name y py] (.ListComp elt [⟨tg, iter, ifs, 0⟩] scope pos) spos) (tAsg (tLcX W wi g tt te (own.map (·.2))) (gName i)) := ⟨fun pins s σ H D I h => by
  rw [exec_Assign_Name_used _ _ _ _ hsw]
  refine wpAny_bind (wpAny_standAt (wpAny_bind ?_))
  show wpAny _ X.A (do let _ ← comprehension (.ListComp elt [⟨tg, iter, ifs, 0⟩] scope pos) scope X.env (firstIterPos [⟨tg, iter, ifs, 0⟩] pos) (newList []) false (eval iter X.env) (some (assign (.Name y py) X.env))) _ _ s
  have h' : tLcX W wi g tt te (own.map (·.2)) σ H (fun x H1 => gName i x σ H1 D.nx) := h
  refine wpAny_bind (thn (lcX (Qf := fun _ s' => SP X pins D .next s') hst hfm tk calm nd I hi ok hg ht he hsf h' fun L C s2 m H2 I2 q hn ⟨f0, f1, f2, f3, f4, f5⟩ => ?_) fun _ s' hq => wpAny_pure (wpAny_pure hq))
  show wpAny _ _ (assign (.Name y py) X.env (.ref L)) _ _ _
  refine wpAny_assign_Name (store_ok2 (v := V.ref L) I2 nd hy (.inl hyl) rfl (fun s3 I3 ⟨a, sb, ha⟩ => ⟨m, hn.sameBut sb ?_, fun h3 sb3 => ?_⟩) (.inr hyl))
  · rcases ha with z | z
    · rw [z]; exact f1
    · exact fun e => f4 y a z e.symm
  · exact ⟨_, H2, I3.turned (t' := s3.toks) (fun b o hb e => (sb3.2 b hb).trans e) f0 f1 f3 f4 f5, q⟩⟩
end
section
variable {X : Cx} {W : WX} {k : Nat} {C : Addr} {ps : List Str} {s : SpD} {x m : Str} {p pos apos : Pos} {e o : Expr} {es : List Expr} {ta : TE} {t : TA}
theorem callPB (px : PassB X W) (F : Pk X.prog X.w X.K X.mg X.base k (x, none) ps s) (room : Room k X.A) (gd : X.A.guards = some []) (gl : Gl X x) (mgx : X.mg x = some (.ref (He.ga X.K x)))
    (ha : PA X (e :: es) t) (h1 : (x == ("__debug__" : Str)) = false := by decide) (h2 : starEach (e :: es) X.env = (false, eval e X.env) :: starEach es X.env := by rfl) (h3 : (backTo pos (starEach es X.env)).any (·.1) = false := by rfl) :
    PE X (.Call (.Name x p) (e :: es) [] pos) (tCallW (toSp X.K s) (WE W) t) := by
  obtain ⟨fd, F, kp, b⟩ := F
  exact callG F room gd b px gl mgx kp ha h1 h2 h3
theorem callPB0 (px : PassB X W) (F : Pk X.prog X.w X.K X.mg X.base k (x, none) ps s) (room : Room k X.A) (gd : X.A.guards = some []) (gl : Gl X x) (mgx : X.mg x = some (.ref (He.ga X.K x)))
    (h1 : (x == ("__debug__" : Str)) = false := by decide) : PE X (.Call (.Name x p) [] [] pos) (tCallW (toSp X.K s) (WE W) tNil) := by
  obtain ⟨fd, F, kp, b⟩ := F
  exact callG0 F room gd b px gl mgx kp h1
theorem methPB {c : Str} {pl : Sem Bool} (px : PassB X W) (he : PE X o ta) (cl : Cls X.K (He.ga X.K c)) (mt : Meth X.K (He.ga X.K c) m (He.ma X.K (He.ga X.K c) m)) (F : Pk X.prog X.w X.K X.mg X.base k (c, some m) ps s) (room : Room k X.A) (gd : X.A.guards = some []) (ha : PA X (e :: es) t)
    (h2 : starEach (e :: es) X.env = (false, eval e X.env) :: starEach es X.env := by rfl) (h3 : (backTo pos (starEach es X.env)).any (·.1) = false := by rfl)
    (ht : eval (.Call (.Attribute o m apos) (e :: es) [] pos) X.env = (do let ov ← eval o X.env; standAt apos.atName; let (f, first) ← holding [ov] (getMethod ov m pl); callWith pos f first (backTo pos (starEach (e :: es) X.env)) (backToKw pos (keywordEach [] X.env))) := by rfl) :
    PE X (.Call (.Attribute o m apos) (e :: es) [] pos) (tMethW (He.ga X.K c) m (toSp X.K s) (WE W) ta t) := by
  obtain ⟨fd, F, kp, b⟩ := F
  exact methG he cl mt F room gd b px ha h2 h3 ht
theorem methPB0 {c : Str} {pl : Sem Bool} (px : PassB X W) (he : PE X o ta) (cl : Cls X.K (He.ga X.K c)) (mt : Meth X.K (He.ga X.K c) m (He.ma X.K (He.ga X.K c) m)) (F : Pk X.prog X.w X.K X.mg X.base k (c, some m) ps s) (room : Room k X.A) (gd : X.A.guards = some [])
    (ht : eval (.Call (.Attribute o m apos) [] [] pos) X.env = (do let ov ← eval o X.env; standAt apos.atName; let (f, first) ← holding [ov] (getMethod ov m pl); callWith pos f first (backTo pos (starEach [] X.env)) (backToKw pos (keywordEach [] X.env))) := by rfl) :
    PE X (.Call (.Attribute o m apos) [] [] pos) (tMethW (He.ga X.K c) m (toSp X.K s) (WE W) ta tNil) := by
  obtain ⟨fd, F, kp, b⟩ := F
  exact methG0 he cl mt F room gd b px ht
end
section
variable {K : KX} {n : Nat} {ρ : Env} {γ : Ga}
theorem de_lcX {wi : TI} {g : TG} {tt : WX → TT} {te : WX → TE} {vs : List Nat} {Q : QD} (is : List Nat) (hsub : ∀ i ∈ is, i ∈ vs)
    (h : dI K wi ρ γ fun ds γ1 => ds.length ≤ 1000000 ∧ ∃ P : Nat → List D → Ga → Prop, P 0 [] γ1 ∧
      (∀ i x acc γ', ds[i]? = some x → P i acc γ' → dG K g x (wipeE ρ vs) γ' is fun ρ2 γ2 => ∀ W', dT ⟨K.f, W', fun _ => K.e ρ⟩ (tt W') ρ2 γ2 fun b γ3 => if b = true then dE ⟨K.f, W', fun _ => K.e ρ⟩ (te W') ρ2 γ3 fun y γ4 => P (i + 1) (acc ++ [y]) γ4 else P (i + 1) acc γ3) ∧
      ∀ acc γ', P ds.length acc γ' → Q (.lst acc) γ') : dE K (tLcX K.E wi g tt te vs) ρ γ Q := fun σ H α q r g0 w => by
  have inK : ∀ {H' : Hp} {α' : Al} {γ' : Ga}, Ext α H α' H' → GaX K H' α' γ' → GaX ⟨K.f, wIn K.E σ, fun _ => K.e ρ⟩ H' α' γ' := fun e g => ⟨g.toGaOk, fun σ' ρ' C dd fs ds γ2 α2 H2 he _ e2 g2 hd nd rl => g.exc σ ρ C dd fs ds γ2 α2 H2 he (r.mono (e.trans e2)) e2 g2 hd nd rl⟩
  refine h σ H α _ r g0 fun J H1 α1 γ1 ds h1 e1 g1 wk => ?_
  obtain ⟨hlen, P, p0, hs, hd⟩ := h1
  intro Da hDa
  -- the new list is mutable while the loop runs, but has no number
  have ex := ext_hid g1 (o := .lst []) hDa
  have gx := ga_hid g1 (o := .lst []) hDa
  refine ⟨fun i m H => m = ds.length - i ∧ i ≤ ds.length ∧ ∃ acc us α γ, P i acc γ ∧ acc.length ≤ i ∧ H Da = some (.lst us) ∧ Da ∈ α.x ∧ RpL K H α us acc ∧ Ext α1 H1 α H ∧ GaX K H α γ,
    ⟨ds.length, by simp, Nat.zero_le _, [], [], α1.hid Da, γ1, p0, Nat.le_refl _, upd_same, List.mem_cons_self, .nil, ex, gx⟩, ?_⟩
  rintro i m H2 ⟨rfl, hi, acc, us, α2, γ2, p2, hacc, hD2, nD2, ra2, e2, g2⟩
  by_cases hlt : i < ds.length
  · refine .inr ⟨wk.go i H2 α2 γ2 e2 g2 hlt, fun H => i + 1 ≤ ds.length ∧ ∃ acc us α γ, P (i + 1) acc γ ∧ acc.length ≤ i + 1 ∧ H Da = some (.lst us) ∧ Da ∈ α.x ∧ RpL K H α us acc ∧ Ext α1 H1 α H ∧ GaX K H α γ, fun H' hh => ⟨ds.length - (i + 1), by omega, rfl, hh⟩, fun x H' y => ?_⟩
    obtain ⟨d, hd1, e3, g3, r3⟩ := wk.yld i H2 α2 γ2 x H' hlt e2 g2 y
    refine hs i d acc γ2 hd1 p2 (wipe σ vs) H' α2 x _ (rpe_wipe (r.mono ((e1.trans e2).trans e3)) vs) g3 r3 fun σ4 H4 α4 ρ4 γ4 h4 s4 e4 g4 r4 => ?_
    refine ⟨wipe_eq s4 hsub, ?_⟩
    refine h4 _ σ4 H4 α4 _ r4 (inK (((e1.trans e2).trans e3).trans e4) g4) fun b H5 α5 γ5 h5 e5 g5c => ?_
    have g5 : GaX K H5 α5 γ5 := g4.go g5c.toGaOk e5
    have e25 := (e3.trans e4).trans e5
    have inx : ∀ {α6 : Al} {H6 : Hp}, Ext α2 H2 α6 H6 → Da ∈ α6.x := fun e => by
      obtain ⟨δ, q, _⟩ := e.xx
      rw [q]
      exact List.mem_append_right _ nD2
    cases b with
    | true =>
      refine iteT (h5 σ4 H5 α5 _ (r4.mono e5) (inK ((((e1.trans e2).trans e3).trans e4).trans e5) g5) fun y H6 α6 yd γ6 h6 e6 g6c r6 => ?_)
      have g6 : GaX K H6 α6 γ6 := g5.go g6c.toGaOk e6
      have e26 := e25.trans e6
      have hD6 := e26.keepx _ _ nD2 hD2
      have nD6 := inx e26
      have ew := ext_setW g6 (o := .lst (us ++ [y])) (.inr nD6)
      refine ⟨us, hD6, ?_, hlt, acc ++ [yd], us ++ [y], α6, γ6, h6, by simp; omega, upd_same, nD6, ?_, ext_hset g1 (e2.trans e26) hDa, g1.go (ga_hset0 g6.toGaOk nD6) (ext_hset g1 (e2.trans e26) hDa)⟩
      · rw [(RpL.length ra2)]
        exact size24 (by omega)
      · exact RpL.monoW ew _ _ ((RpL.mono e26 _ _ ra2).append (.cons r6 .nil))
    | false =>
      exact iteF ⟨hlt, acc, us, α5, γ5, h5, by omega, e25.keepx _ _ nD2 hD2, inx e25, RpL.mono e25 _ _ ra2, e2.trans e25, g5⟩
  · have ei : i = ds.length := by omega
    subst ei
    have nh : Da ∉ α2.h := fun z => g2.nd.2.2 Da z nD2
    exact .inl ⟨wk.stop _ H2 α2 γ2 e2 g2 (Nat.le_refl _), w _ H2 (α2.un Da) _ γ2 (hd acc γ2 p2) (e1.trans (ext_un g1 e2 hDa)) (g1.go (ga_un0 g2.toGaOk) (ext_un g1 e2 hDa)) (.lst (out_un nh) hD2 (RpL.shw (α := α2) (α' := α2.un Da) rfl un_x _ _ ra2))⟩
end
end DL

set_option Elab.async false
set_option linter.all false
set_option maxRecDepth 100000
set_option maxHeartbeats 2000000
namespace DL
open PySem PySem.Spec PyProof.Rows L2

/-! ### tuples and lists alike -/
def gAny (K : Frag) (n : Nat) (gs : TGs) : TG := fun v σ H q => gTup K n gs v σ H q ∨ gUnl K n gs v σ H q
theorem pg_any {X : Cx} {es : List Expr} {k : Nat} {t : TGs} {n : Nat} {pos : Pos} (hc : X.calm = true) (h : PGs X es t)
    (hn : (assignEach es X.env).length = n := by rfl) (hst : (assignEach es X.env).findIdx? (·.1) = none := by rfl) : PG X (.Tuple es k pos) (gAny X.K n t) :=
  ⟨fun pins s σ H v u Q I r hw => hw.elim (fun hw => (pg_tup hc h hn hst).run pins s σ H v u Q I r hw) fun hw => (pg_unl hc h hn hst).run pins s σ H v u Q I r hw⟩
def iAny (K : Frag) (te : TE) : TI := fun σ H R => iList K te σ H R ∨ iTup K te σ H R
theorem pi_any {X : Cx} {tg e : Expr} {a b : TI} (h1 : PI X tg e a) (h2 : PI X tg e b) : PI X tg e (fun σ H R => a σ H R ∨ b σ H R) :=
  ⟨fun pins s σ H R I h => h.elim (fun h => h1.run pins s σ H R I h) fun h => h2.run pins s σ H R I h⟩
section
variable {K : KX} {ρ : Env} {γ : Ga} {Q : QD}
theorem dg_any {m : Nat} {gs : TGs} {x : D} {ds : List D} {is : List Nat} {N : Env → Ga → Prop} (hx : SqD γ x ds) (hl : ds.length = m) (h : dGs K gs ds ρ γ is N) : dG K (gAny K.f m gs) x ρ γ is N := fun σ H α v q r g rv w => by
  rcases hx with hx | rfl | rfl
  · exact .inr (dg_lst hx hl h σ H α v q r g rv w)
  · exact .inl (dg_tup hl h σ H α v q r g rv w)
  · cases rv with
    | cst h1 h2 => exact .inl ⟨_, _, rfl, h1.sq, h2.length.trans hl, h σ H α _ q r g h2 w⟩
theorem xg_any {m : Nat} {gs : TGs} {x : D} {N : Env → Ga → Prop} (h : ∃ ds, SqD γ x ds ∧ ds.length = m ∧ ∃ is, dGs K gs ds ρ γ is N) : ∃ is, dG K (gAny K.f m gs) x ρ γ is N := by
  obtain ⟨ds, h1, h2, is, h3⟩ := h
  exact ⟨is, dg_any h1 h2 h3⟩
theorem di_any {i : Nat} {d : D} {ds : List D} {R : List D → Ga → Prop} (hd : ρ[i]? = some (some d)) (hs : d = .lst ds ∨ d = .tup ds ∨ d = .cst ds) (h : R ds γ) : dI K (iAny K.f (tVar i)) ρ γ R := fun σ H α q r g w => by
  rcases hs with rfl | hs
  · exact .inl (di_list (de_var hd ⟨ds, rfl, h⟩) σ H α q r g w)
  · exact .inr (di_tup (de_var hd ⟨ds, hs, h⟩) σ H α q r g w)
/-! ### dict(pairs), xs.insert -/
def mergeP {κ : Type} [DecidableEq κ] (ps more : List (κ × D)) : List (κ × D) := more.foldl (fun acc p => putP acc p.1 p.2) ps
def rDictP (K : Frag) : List V → Hp → VK → Prop := fun xs H Q => ∃ (a : Addr) (ps : List Addr) (kvs : List (Key × V)), xs = [.ref a] ∧ SqL K H a (ps.map V.ref) ∧ Paired (fun p kv => SqT K H p [kV kv.1, kv.2]) ps kvs ∧
    ∀ p, H p = none → Q (.ref p) (upd H p (.dK (mergeK [] kvs)))
theorem call_dictG {X : Cx} (h : X.calm = true) : CallR X (.type "dict") (rDictP X.K) := call_dictP h
theorem merge_rp {K : Frag} {H : Hp} {α : Al} : ∀ {more : List (Key × V)} {mo : List (Key × D)} {kvs : List (Key × V)} {ps : List (Key × D)}, more.map (·.1) = mo.map (·.1) → RpL K H α (more.map (·.2)) (mo.map (·.2)) → kvs.map (·.1) = ps.map (·.1) → RpL K H α (kvs.map (·.2)) (ps.map (·.2)) →
    (mergeK kvs more).map (·.1) = (mergeP ps mo).map (·.1) ∧ RpL K H α ((mergeK kvs more).map (·.2)) ((mergeP ps mo).map (·.2)) := by
  intro more
  induction more with
  | nil =>
    intro mo kvs ps e r e2 r2
    cases mo with
    | nil => exact ⟨e2, r2⟩
    | cons _ _ => cases e
  | cons p t ih =>
    intro mo kvs ps e r e2 r2
    cases mo with
    | nil => cases e
    | cons q mo =>
      obtain ⟨a, b⟩ := p
      obtain ⟨a', b'⟩ := q
      simp only [List.map_cons, List.cons.injEq] at e
      obtain ⟨rfl, e⟩ := e
      cases r with
      | cons r1 r3 =>
        obtain ⟨i1, i2, _⟩ := putK_rp (k := a) r1 e2 r2
        exact ih (mo := mo) (kvs := putK kvs a b) (ps := putP ps a b') e r3 i1 i2
/-- pairs, each a tuple of a key and a value -/
def pairD (p : Key × D) : D := .tup [match p.1 with | .inl i => .int i | .inr s => .str s, p.2]
theorem pair_rp {K : Frag} {H : Hp} {α : Al} : ∀ {us : List V} {ps : List (Key × D)}, RpL K H α us (ps.map pairD) → ∃ (as : List Addr) (kvs : List (Key × V)), us = as.map V.ref ∧ Paired (fun p kv => SqT K H p [kV kv.1, kv.2]) as kvs ∧ kvs.map (·.1) = ps.map (·.1) ∧ RpL K H α (kvs.map (·.2)) (ps.map (·.2)) := by
  intro us
  induction us with
  | nil =>
    intro ps h
    cases ps with
    | nil => exact ⟨[], [], rfl, .nil, rfl, .nil⟩
    | cons _ _ => cases h
  | cons u us ih =>
    intro ps h
    cases ps with
    | nil => cases h
    | cons p ps =>
      cases h with
      | cons h1 h2 =>
        obtain ⟨as, kvs, rfl, pr, e, r⟩ := ih h2
        obtain ⟨k, d⟩ := p
        cases h1 with
        | @tup a vs _ ht hv =>
          have hk : ∃ v, vs = [kV k, v] ∧ Rp K H α v d := by
            cases k with
            | inl i =>
              cases hv with
              | cons a1 a2 =>
                cases a1
                cases a2 with
                | cons a3 a4 =>
                  cases a4
                  exact ⟨_, rfl, a3⟩
            | inr i =>
              cases hv with
              | cons a1 a2 =>
                cases a1
                cases a2 with
                | cons a3 a4 =>
                  cases a4
                  exact ⟨_, rfl, a3⟩
          obtain ⟨v, rfl, rv⟩ := hk
          exact ⟨a :: as, (k, v) :: kvs, rfl, .cons ht.sq pr, by simp [e], .cons rv r⟩
theorem rc_dictP {x : D} {ps : List (Key × D)} (hx : vw γ x = .lst (ps.map pairD)) (q : Q (.dic ((mergeP [] ps).map (·.1)) ((mergeP [] ps).map (·.2))) γ) : dRC K (rDictP K.f) [x] γ Q := fun H α vs w g r wv => by
  cases r with
  | cons ru rn =>
    cases rn
    obtain ⟨a, us, rfl, ha, rl⟩ := lst_vw g ru hx
    obtain ⟨as, kvs, rfl, pr, e, r2⟩ := pair_rp rl
    obtain ⟨m1, m2⟩ := merge_rp (kvs := []) (ps := []) e r2 rfl .nil
    refine ⟨a, as, kvs, rfl, SqL.of ha, pr, fun p hp => ?_⟩
    have ex := ext_imm g (o := .dK (mergeK [] kvs)) hp
    refine wv _ _ α _ γ q ex (ga_imm g hp) ?_
    rw [← m1]
    exact .dic (g.new hp) upd_same (RpL.mono ex _ _ m2)
theorem rc_dictPM {x : D} {ps : List (Key × D)} (hx : vw γ x = .lst (ps.map pairD)) (q : Q (.loc γ.length) (γ ++ [moK (mergeP [] ps)])) : dRC K (rDictP K.f) [x] γ Q := fun H α vs w g r wv => by
  cases r with
  | cons ru rn =>
    cases rn
    obtain ⟨a, us, rfl, ha, rl⟩ := lst_vw g ru hx
    obtain ⟨as, kvs, rfl, pr, e, r2⟩ := pair_rp rl
    obtain ⟨m1, m2⟩ := merge_rp (kvs := []) (ps := []) e r2 rfl .nil
    refine ⟨a, as, kvs, rfl, SqL.of ha, pr, fun p hp => ?_⟩
    have ex := ext_loc g (o := .dK (mergeK [] kvs)) hp
    exact wv _ _ (α.push p) _ _ q ex (ga_loc g hp ⟨_, upd_same, m1, RpL.mono ex _ _ m2⟩) (.loc (by show (α.h ++ [p])[γ.length]? = _; rw [← g.len]; simp))
def rInsert : V → List V → Hp → VK → Prop := fun x vs H Q => ∃ (l : Addr) (xs : List V) (i : Int) (y : V), x = .ref l ∧ vs = [.int i, y] ∧ H l = some (.lst xs) ∧ xs.length < sizeLine ∧ 0 ≤ i ∧ i < 2 ^ 63 ∧
    Q .non (upd H l (.lst (xs.take i.toNat ++ [y] ++ xs.drop i.toNat)))
theorem mt_insertG {X : Cx} : MtR X "list.insert" rInsert := mt_insert
theorem rm_insert {x y : D} {i : Nat} (h : ∃ k xs, x = .loc k ∧ γ[k]? = some (.lst xs) ∧ xs.length < 1000000 ∧ i < 1000000 ∧ Q .non (γ.set k (.lst (xs.take i ++ [y] ++ xs.drop i)))) : dRM K rInsert x [.int i, y] γ Q := fun H α v vs q g r1 r2 wv => by
  obtain ⟨k, xs, rfl, hk, hl, hi, hq⟩ := h
  cases r1 with
  | @loc _ a ha =>
    obtain ⟨us, h1, h2⟩ := g.at_ _ _ _ ha hk
    cases r2 with
    | cons ri r2 =>
      cases r2 with
      | @cons v2 _ _ _ ry r2 =>
        cases ri
        cases r2
        have ex := ext_set g (o := .lst (us.take i ++ [v2] ++ us.drop i)) (List.mem_of_getElem? ha)
        refine ⟨a, us, i, _, rfl, rfl, h1, by rw [h2.length]; exact size24 hl, by omega, by omega, ?_⟩
        rw [Int.toNat_natCast]
        exact wv .non _ α .non _ hq ex (ga_set g ha ⟨_, upd_same, (((RpL.mono ex _ _ h2).take i).append (.cons (Rp.mono ex _ _ ry) .nil)).append ((RpL.mono ex _ _ h2).drop i)⟩) .non
theorem rc_isiT {x : D} {T : String} {ns : List String} {b : Bool} (hx : tyName γ x = some T) (hk : PySem.W.kitAny K.f (.type T) (ns.map Value.type) = some b) (q : Q (.bl b) γ) : dRC K (rIsiT K.f) [x, .tup (ns.map D.ty)] γ Q := fun H α vs w g r wv => by
  cases r with
  | cons ru rn =>
    cases rn with
    | cons r2 rn =>
      cases rn
      cases r2 with
      | tup h1 h2 =>
        have key : ∀ {us : List V} {ns : List String}, RpL K.f H α us (ns.map D.ty) → Paired ClsV us (ns.map Value.type) := by
          intro us
          induction us with
          | nil =>
            intro ns h
            cases ns with
            | nil => exact .nil
            | cons _ _ => cases h
          | cons u us ih =>
            intro ns h
            cases ns with
            | nil => cases h
            | cons n ns =>
              cases h with
              | cons a1 a2 =>
                cases a1
                exact .cons (.ty n) (ih a2)
        exact ⟨_, _, _, _, _, b, rfl, h1.2, key h2, tyX_rp g ru hx, hk, wv _ H α _ γ q g.refl g (.bl _)⟩
theorem xc_isiT {x : D} {ns : List String} (h : ∃ T b, tyName γ x = some T ∧ PySem.W.kitAny K.f (.type T) (ns.map Value.type) = some b ∧ Q (.bl b) γ) : dRC K (rIsiT K.f) [x, .tup (ns.map D.ty)] γ Q := by
  obtain ⟨T, b, h1, h2, h3⟩ := h
  exact rc_isiT h1 h2 h3
end
end DL

set_option Elab.async false
set_option linter.all false
namespace DL
open PySem PySem.Spec PyProof.Rows L2
/-! sequences read: which kind -/
theorem sq_c {γ : Ga} {xs : List D} : SqD γ (.cst xs) xs := .inr (.inr rfl)
theorem sq_t {γ : Ga} {xs : List D} : SqD γ (.tup xs) xs := .inr (.inl rfl)
theorem sq_l {γ : Ga} {xs : List D} : SqD γ (.lst xs) xs := .inl rfl
theorem sq_v {γ : Ga} {x : D} {xs : List D} (h : vw γ x = .lst xs) : SqD γ x xs := .inl h
theorem sq_g {γ : Ga} {k : Nat} {xs : List D} (h : γ[k]? = some (.lst xs)) : SqD γ (.loc k) xs := .inl (vw_loc h)
theorem cx_none {P : Program} {w : World} {outer : List PySem.Env} {H : Hp} {s : Shared} {u : Value} {s' : Shared} (z : L2.CX P w outer H s (fun _ _ _ => False) u s') : False := by
  obtain ⟨_, _, _, _, _, _, _, _, _, _, _, _, h⟩ := z
  exact h
theorem ifdT {c : Prop} [Decidable c] {p q : Prop} (h : c) (hp : p) : if decide c = true then p else q := by rw [if_pos (decide_eq_true h)]; exact hp
theorem ifdF {c : Prop} [Decidable c] {p q : Prop} (h : ¬ c) (hp : q) : if decide c = true then p else q := by rw [if_neg (by simpa using h)]; exact hp
theorem ifnT {c : Prop} [Decidable c] {p q : Prop} (h : ¬ c) (hp : p) : if (!decide c) = true then p else q := by rw [if_pos (by simpa using h)]; exact hp
theorem ifnF {c : Prop} [Decidable c] {p q : Prop} (h : c) (hp : q) : if (!decide c) = true then p else q := by rw [if_neg (by simpa using h)]; exact hp
theorem ifbT {b : Bool} {p q : Prop} (h : b = true) (hp : p) : if b = true then p else q := by rw [if_pos h]; exact hp
theorem ifbF {b : Bool} {p q : Prop} (h : b = false) (hp : q) : if b = true then p else q := by rw [if_neg (by rw [h]; decide)]; exact hp
section
variable {K : KX} {ρ : Env} {γ : Ga} {Q : QD}
theorem rsl_tup {xs : List D} {lo hi : Option Int} (hw : ¬ (HT.sIx xs.length 0 lo = 0 ∧ HT.sIx xs.length xs.length hi = xs.length)) (q : Q (.tup (cutD xs lo hi)) γ) : dRS K (rSlG K.f) (.tup xs) lo hi γ Q := fun H α v k g r1 wv => by
  cases r1 with
  | @tup a us _ h1 ru =>
    refine .inr (.inl ⟨a, us, rfl, h1.sq, by rw [ru.length]; exact hw, fun p hp => ?_⟩)
    refine wv _ _ α _ γ q (ext_imm g hp) (ga_imm g hp) (.tup ⟨g.new hp, upd_same⟩ (RpL.mono (ext_imm g hp) _ _ ?_))
    unfold cutV cutD
    rw [ru.length]
    exact (ru.drop _).take _
theorem rc_abs {i : Int} (q : Q (.int (i.natAbs : Int)) γ) : dRC K rAbs [.int i] γ Q := fun H α vs w g r wv => by
  cases r with
  | cons ru rn =>
    cases ru; cases rn
    refine ⟨i, rfl, ?_⟩
    have e : (if i < 0 then -i else i) = (i.natAbs : Int) := by split <;> omega
    rw [e]
    exact wv _ H α _ γ q g.refl g (.int _)
theorem di_any_l {te : TE} {R : List D → Ga → Prop} (h : dI K (iList K.f te) ρ γ R) : dI K (iAny K.f te) ρ γ R := fun σ H α q r g w => .inl (h σ H α q r g w)
theorem di_any_t {te : TE} {R : List D → Ga → Prop} (h : dI K (iTup K.f te) ρ γ R) : dI K (iAny K.f te) ρ γ R := fun σ H α q r g w => .inr (h σ H α q r g w)
end
end DL

set_option Elab.async false
set_option linter.all false
set_option maxRecDepth 100000
set_option maxHeartbeats 4000000
/-! own exceptions as values: made, asked for a field, for their class -/
namespace DL
open PySem PySem.Spec PyProof.Rows L2 NdefX

def tMkV (C : Addr) (sp : Sp) (ta : TA) : TE := fun σ H Q => ta σ H fun vs H1 => vs.length ≤ 1000 ∧ ∀ a, H1 a = none → sp (.ref a :: (vs ++ [])) (upd H1 a (exo a C none)) (fun v H2 => v = .non ∧ Q (.ref a) H2) (fun _ _ _ => False)
section
variable {X : Cx} {e : Expr} {es : List Expr} {ta : TA} {p pos : Pos}
theorem pe_mkv {x : Str} {C fI : Addr} {k : Nat} {fd : FuncData} {ps : List Str} {sp : Sp} (T : OexC X.K C) (iC : PySem.W.findIn X.K (.ref C) "__init__" = some (some (.ref fI))) (tI : PySem.W.typeIn X.K (.ref fI) = some (.type "function"))
    (F1 : FnG X.prog X.w X.K X.mg X.base (L2.CX X.prog X.w) k fI fd ps sp) (hr : Room (k + 1) X.A) (gd : X.A.guards = some []) (hb : Binds X.K fd ps []) (hg : Gl X x) (hm : X.mg x = some (.ref C)) (ha : PA X (e :: es) ta)
    (hdb : (x == ("__debug__" : Str)) = false := by decide) (he : starEach (e :: es) X.env = (false, eval e X.env) :: starEach es X.env := by rfl) (hpl : (backTo pos (starEach es X.env)).any (·.1) = false := by rfl) :
    PE X (.Call (.Name x p) (e :: es) [] pos) (tMkV C sp ta) := by
  refine ⟨fun pins s σ H Q I h => ?_⟩
  obtain ⟨nm, q, N, bs, bm, sn, sub, ab, col, dd, k0, k1, k2, k3, k5, hC, hbm⟩ := T.cls
  refine wpAny_Call_Name_kw (ld_glob I hg hm ?_ hdb)
  refine PySem.W.callWith_K (h₀ := X.base) I.ok.mod.kin T.kC (thn (ha.run pos pins s σ H _ I h) fun us s1 ⟨vs, H1, I1, r1, hz, q1⟩ => ⟨I1.kIn, ?_⟩) he hpl
  show wpAny _ _ (call (.ref C) us) _ _ _
  obtain ⟨hp, g, dr, tk, os⟩ := s1
  have hsz : hp.objs.size ≤ hp.objs.size + 1 := Nat.le_succ _
  have hn : H1 (hp.objs.size + 1) = none := I1.hok.fresh hsz
  have hq := q1 (hp.objs.size + 1) hn
  rw [List.append_nil] at hq
  have hget : ((hp.push (PySem.W.kdv_tup us)).push (PySem.HandSPX.excO C hp.objs.size)).get? (hp.objs.size + 1) = some (PySem.HandSPX.excO C hp.objs.size) := by heap_get
  have I2 : Inv X pins σ (upd H1 (hp.objs.size + 1) (exo (hp.objs.size + 1) C none)) ⟨(hp.push (PySem.W.kdv_tup us)).push (PySem.HandSPX.excO C hp.objs.size), g, dr, tk, os⟩ :=
    I1.laid (t' := tk) (fun b o z => Heap.get?_push_of_some _ (Heap.get?_push_of_some _ z)) hsz (exo_ok hget)
  have r2 : Vals (V.ref (hp.objs.size + 1) :: vs) (Value.ref (hp.objs.size + 1) :: us) := .cons rfl r1
  have hl : (Value.ref (hp.objs.size + 1) :: us ++ []).length = ps.length := by
    rw [List.append_nil, ← r2.length]
    exact F1.len _ _ _ _ hq
  have hus : us.length ≤ sizeLine := by rw [← Paired.length r1, sizeLine_eq]; omega
  have bd := hb _ (Value.ref (hp.objs.size + 1) :: us) I2.kIn hl
  rw [List.append_nil] at bd
  have run := F1.run _ X.stack _ _ ⟨Value.ref (hp.objs.size + 1) :: us, []⟩ (Value.ref (hp.objs.size + 1) :: us) _ _ (fun _ _ _ => False) (hr.make C us []) (by simp [Around.under, gd, Code.guards, Code.isGuard, pushGuards, guardIds]) (I2.env0.make C us []) bd r2 hq
  refine wpAny_call (PySem.HandSPX.call_own F.excBase_ValueError (fun Y => PySem.HandSPX.refsVE_contains Y bm hbm) (I1.kIn _ _ hC) (PySem.W.looks_findIn I1.kIn iC) (fun self => PySem.W.bind_fn I1.kIn self tI) hus (codeAny_mono run fun r s' hq' => ?_))
  match r, hq' with
  | .error er, ⟨_, _, _, _, _, _, _, _, _, _, _, _, z⟩ => exact z.elim
  | .ok (.ret u), hq' =>
    obtain ⟨v, H', J', rv2, ev, q3⟩ := I2.after hq'
    subst ev
    exact ⟨rv2, V.ref (hp.objs.size + 1), H', J', rfl, q3⟩
  | .ok .next, hq' => exact hq'.elim
  | .ok .brk, hq' => exact hq'.elim
  | .ok .cont, hq' => exact hq'.elim
theorem mkvP {k j : Nat} {x : Str} {names : List Str} {spf : SpD} (F : PkE X.prog X.w X.K X.mg X.base j x names spf) (hj : j + 1 ≤ k) (room : Room k X.A) (gd : X.A.guards = some []) (gl : Gl X x) (mgx : X.mg x = some (.ref (He.ga X.K x)))
    (ha : PA X (e :: es) ta) (hdb : (x == ("__debug__" : Str)) = false := by decide) (he : starEach (e :: es) X.env = (false, eval e X.env) :: starEach es X.env := by rfl) (hpl : (backTo pos (starEach es X.env)).any (·.1) = false := by rfl) :
    PE X (.Call (.Name x p) (e :: es) [] pos) (tMkV (He.ga X.K x) (spIni X.K (He.ga X.K x) spf names) ta) := by
  obtain ⟨fd, ps, F, b, T, iC, tI⟩ := F
  exact pe_mkv T iC tI F (room.mono hj) gd b gl mgx ha hdb he hpl
/-- e.f -/
def tXfV (K : Frag) (f : Str) (te : TE) : TE := fun σ H Q => te σ H fun x H1 => ∃ a C dd fs v, x = .ref a ∧ H1 a = some (exo a C (some dd)) ∧ H1 dd = some (exd dd fs) ∧ XfC K C ∧ PySem.W.findIn K (.ref C) f = some none ∧ fs.lookup f = some v ∧ Q v H1
theorem pe_xfv {te : TE} {n : Str} (he : PE X e te) (hb : attributeBase e n X.env (eval e X.env) = eval e X.env := by rfl) : PE X (.Attribute e n pos) (tXfV X.K n te) := by
  refine ⟨fun pins s σ H Q I h => ?_⟩
  refine attr_of hb (thn (he.run pins s σ H _ I h) fun u s1 hh => ?_)
  obtain ⟨x, H1, I1, rx, a, C, dd, fs, v, rfl, ea, ed, T, hno, l, q⟩ := hh
  obtain rfl : u = Value.ref a := rx
  obtain ⟨t1, ho⟩ := exo_at I1.hok ea
  obtain ⟨mA, hns, hr⟩ := exd_at I1.hok ed
  obtain ⟨od, hod, hl⟩ := lookIn_ns hns
  obtain ⟨u, hu, ru⟩ := RelO.some_of (v := v) (o := mA n) (by rw [← l]; exact hr n)
  have J : PySem.W.InstAt s1.heap a _ C (some od) := ⟨ho, rfl, rfl, hod⟩
  exact HandSPX.exc_get I1.kIn J T.ga T.gg T.exC (PySem.W.findObj_own T.hdC hno rfl (by rw [hl, hu])) (handed_of ru) ⟨v, H1, I1.tok _, ru, q⟩
/-- isinstance(e, c) -/
def rIsV (K : Frag) : List V → Hp → VK → Prop := fun xs H Q => ∃ (a C dd : Addr) (fs : List (Str × V)) (c : V) (cv : Value) (b : Bool), xs = [.ref a, c] ∧ H a = some (exo a C (some dd)) ∧ H dd = some (exd dd fs) ∧ ExcC K C ∧ (∀ u, RelV c u → u = cv) ∧ PySem.W.kitOne K (.ref C) cv = some b ∧ Q (.bl b) H
theorem call_isV : CallR X (.builtin "isinstance") (rIsV X.K) := by
  intro pins s σ H xs us Q I r h
  obtain ⟨a, C, dd, fs, c, cv, b, rfl, ea, ed, E, hcv, ek, q⟩ := h
  cases r with
  | cons rx rr =>
    cases rr with
    | cons rt rr =>
      cases rr
      cases rx
      have ec := hcv _ rt
      subst ec
      obtain ⟨t1, ho⟩ := exo_at I.hok ea
      obtain ⟨mA, hns, hr⟩ := exd_at I.hok ed
      obtain ⟨od, hod, hl⟩ := lookIn_ns hns
      have J : PySem.W.InstAt s.heap a _ C (some od) := ⟨ho, rfl, rfl, hod⟩
      have hcl : (PySem.W.clsIn X.K C).isSome = true := by
        obtain ⟨cd, hc, _⟩ := PySem.W.any_some E.hd
        rw [hc]; rfl
      exact PySem.W.kia_one (PySem.W.kitx_exc hcl E.hg E.hk E.hs E.ha E.hn E.ht E.hm) I.kIn J ek (fun z => nomatch z) fun tk => ⟨.bl b, H, I.kept (t' := tk) fun _ _ z => z, rfl, q⟩
end
section
variable {K : KX} {ρ : Env} {γ : Ga} {Q : QD}
theorem de_mkv {C : Addr} {spf : SpD} {names : List Str} {ta : TA} (h : dA K ta ρ γ fun ds γ1 => ds.length = names.length ∧ 0 < names.length ∧ names.length ≤ 20 ∧ ∃ es, FrzL spf γ1 ds es ∧ Q (.exv C names.reverse es.reverse) γ1) : dE K (tMkV C (spIni K.f C spf names) ta) ρ γ Q := fun σ H α q r g w =>
  h σ H α _ r g fun vs H1 α1 ds γ1 ⟨hl, hp, hm, es, fz, hq⟩ e1 g1 rl => by
    have hvl : vs.length = names.length := by rw [rl.length, hl]
    refine ⟨by omega, fun a ha => ?_⟩
    have ex := ext_hid0 g1.toGaOk (o := exo a C none) ha
    have gx := ga_hid0 g1.toGaOk (o := exo a C none) ha
    refine ⟨a, vs, α1, H1, α1.hid a, ds, es, γ1, by rw [List.append_nil], hvl, g1.toGaOk, ha, upd_same, ⟨ex, gx, List.mem_cons_self, .inl ⟨rfl, upd_same⟩, .nil⟩, RpL.mono ex _ _ rl, fz, hm, fun α' H' fs' M hnm => ⟨rfl, ?_⟩⟩
    rcases M.st with ⟨rfl, _⟩ | ⟨dx, hdx, ndx, hx, hd, h1d⟩
    · have := congrArg List.length hnm
      simp at this
      omega
    · have e2 := ext_un0 g1.toGaOk M.ext ha
      have e3 := ext_un0 g1.toGaOk e2 h1d
      have g3 : GaOk K.f H' ((α'.un a).un dx) γ1 := ga_un0 (ga_un0 M.ga)
      have nh : ∀ z, z ∈ α'.x → z ∉ α'.h := fun z hz hh => M.ga.nd.2.2 z hh hz
      have oa : a ∉ α'.un a := out_un (nh a M.hx)
      have oa2 : a ∉ (α'.un a).un dx := by
        rintro (z | z)
        · exact nh a M.hx z
        · exact oa (.inr (un_x a z))
      have od : dx ∉ (α'.un a).un dx := out_un (nh dx hdx)
      have rl2 := RpL.shw (α := α') (α' := (α'.un a).un dx) rfl (fun z hz => un_x z (un_x (α := α'.un a) z hz)) _ _ M.rl
      have rp : Rp K.f H' ((α'.un a).un dx) (.ref a) (.exv C (fs'.map (·.1)) es.reverse) := .exv oa2 od hx hd rl2
      rw [hnm] at rp
      exact w (.ref a) H' ((α'.un a).un dx) _ γ1 hq (e1.trans e3) (g1.go g3 e3) rp
theorem de_xfv {f : Str} {te : TE} (h : dE K te ρ γ fun d γ1 => ∃ C ns vs j x, d = .exv C ns vs ∧ XfC K.f C ∧ PySem.W.findIn K.f (.ref C) f = some none ∧ fix ns f = some j ∧ vs[j]? = some x ∧ Q x γ1) : dE K (tXfV K.f f te) ρ γ Q := fun σ H α q r g w =>
  h σ H α _ r g fun v H1 α1 d γ1 ⟨C, ns, vs, j, x, ed, hT, hno, hj, hx, hq⟩ e1 g1 r1 => by
    subst ed
    cases r1 with
    | @exv a dd _ fs _ h1 h2 h3 h4 h5 =>
      obtain ⟨u, q1, q2⟩ := lookup_fix hj
      obtain ⟨u', q3, q4⟩ := h5.get hx
      rw [q2] at q3
      cases q3
      exact ⟨a, C, dd, fs, u, rfl, h3, h4, hT, hno, q1, w u H1 α1 x γ1 hq e1 g1 q4⟩
/-- isinstance of a value that is an own exception, or of any other -/
theorem rc_isv {C E : Addr} {ns : List Str} {vs : List D} {b : Bool} (hE : ExcC K.f C) (hk : PySem.W.kitOne K.f (.ref C) (.ref E) = some b) (q : Q (.bl b) γ) : dRC K (rIsV K.f) [.exv C ns vs, .ref E] γ Q := fun H α us w g r wv => by
  cases r with
  | cons r1 r2 =>
    cases r2 with
    | cons r2 r3 =>
      cases r3
      cases r2
      cases r1 with
      | exv h1 h2 h3 h4 h5 => exact ⟨_, C, _, _, _, .ref E, b, rfl, h3, h4, hE, fun u hu => hu, hk, wv _ H α _ γ q g.refl g (.bl b)⟩
theorem rc_isvT {C : Addr} {T : String} {ns : List Str} {vs : List D} {b : Bool} (hE : ExcC K.f C) (hk : PySem.W.kitOne K.f (.ref C) (.type T) = some b) (q : Q (.bl b) γ) : dRC K (rIsV K.f) [.exv C ns vs, .ty T] γ Q := fun H α us w g r wv => by
  cases r with
  | cons r1 r2 =>
    cases r2 with
    | cons r2 r3 =>
      cases r3
      cases r2
      cases r1 with
      | exv h1 h2 h3 h4 h5 => exact ⟨_, C, _, _, _, .type T, b, rfl, h3, h4, hE, fun u hu => hu, hk, wv _ H α _ γ q g.refl g (.bl b)⟩
end
/-- the class facts for isinstance, decided -/
def excIB (K : Frag) (D : Addr) : Bool := decide (PySem.W.findIn K (.ref D) "__class__" = some (some (.builtin "object.__class__"))) && (decide (PySem.W.specialIn K (.builtin "object.__class__") "__get__" = some (some (.builtin "getset_descriptor.__get__"))) && (decide (PySem.W.takesIn K (.builtin "object.__class__") = some true) && decide (PySem.W.mroIn K D (.type "object") = some true)))
theorem excIB_ok {K : Frag} {D : Addr} (x : XfC K D) (h : excIB K D = true) : ExcC K D := by
  unfold excIB at h
  simp only [Bool.and_eq_true, decide_eq_true_eq] at h
  exact ⟨x.ga, x.gg, x.exC, x.hdC, h.1, h.2.1, h.2.2.1, h.2.2.2⟩
end DL

set_option Elab.async false
set_option linter.all false
set_option maxRecDepth 100000
set_option maxHeartbeats 2000000
namespace DL
open PySem PySem.Spec PyProof.Rows L2
section
variable {K : KX} {ρ : Env} {γ : Ga} {Q : QD}
theorem rm_extend {k : Nat} {xs zs : List D} {y : D} (hk : γ[k]? = some (.lst xs)) (hy : vw γ y = .lst zs) (hl : xs.length + zs.length ≤ 1000000) (q : Q .non (γ.set k (.lst (xs ++ zs)))) : dRM K rExtend (.loc k) [y] γ Q := fun H α v vs w g r1 r2 wv => by
  cases r1 with
  | @loc _ a ha =>
    obtain ⟨us, h1, h2⟩ := g.at_ k _ _ ha hk
    cases r2 with
    | @cons u _ _ _ ru rn =>
      cases rn
      obtain ⟨b, ws, rfl, hb, rw_⟩ := lst_vw g ru hy
      have ex := ext_set g (o := .lst (us ++ ws)) (List.mem_of_getElem? ha)
      exact ⟨a, b, us, ws, rfl, rfl, h1, hb, by rw [h2.length, rw_.length, sizeLine_eq]; omega, wv _ _ α _ _ q ex (ga_set g ha ⟨_, upd_same, RpL.mono ex _ _ (h2.append rw_)⟩) .non⟩
theorem rm_pop {k : Nat} {xs : List D} {y : D} (hk : γ[k]? = some (.lst (xs ++ [y]))) (q : Q y (γ.set k (.lst xs))) : dRM K rPop (.loc k) [] γ Q := fun H α v vs w g r1 r2 wv => by
  cases r1 with
  | @loc _ a ha =>
    obtain ⟨us, h1, h2⟩ := g.at_ k _ _ ha hk
    cases r2
    have hl := h2.length
    obtain ⟨u, hu, ru⟩ := h2.get (i := xs.length) (d := y) (by simp)
    have ex := ext_set g (o := .lst us.dropLast) (List.mem_of_getElem? ha)
    have hd := h2.dropLast
    rw [List.dropLast_concat] at hd
    exact ⟨a, us, u, rfl, rfl, h1, by rw [hl, List.length_append]; simpa using hu, wv _ _ α _ _ q ex (ga_set g ha ⟨_, upd_same, RpL.mono ex _ _ hd⟩) (Rp.mono ex _ _ ru)⟩
theorem strs_pl : ∀ ls : List (List Nat), plL (strsD ls) = true
  | [] => rfl
  | c :: cs => by
    show ((D.str (S c)).pl && plL (strsD cs)) = true
    rw [strs_pl cs]; rfl
def okS (l : List Nat) : Bool := PyData.strOk (S l)
theorem strs_shaped : ∀ ls : List (List Nat), ls.all okS = true → PyData.canLayAll0 (pyL (strsD ls)) = true ∧ PyData.depthAll (pyL (strsD ls)) = 0
  | [], _ => ⟨by simp [strsD, pyL, PyData.canLayAll0], by simp [strsD, pyL, PyData.depthAll]⟩
  | c :: cs, h => by
    rw [List.all_cons, Bool.and_eq_true] at h
    obtain ⟨h1, h2⟩ := strs_shaped cs h.2
    have h3 : PyData.strOk (S c) = true := h.1
    unfold strsD at h1 h2 ⊢
    refine ⟨?_, ?_⟩
    · simp only [List.map_cons, pyL, PyData.canLayAll0, D.py, PyData.canLay0, h1, h3]; rfl
    · simp only [List.map_cons, pyL, PyData.depthAll, D.py, PyData.depth, h2]; rfl
theorem rne_lnil {x : D} {ls : List (List Nat)} (ok : ls.all okS = true) (hx : vw γ x = .lst (strsD ls)) (q : Q (.bl (!decide (ls = []))) γ) : dR2 K (rNeG K) x (.lst []) γ Q := by
  refine rne_D (by rw [hx]; exact strs_pl ls) rfl (by rw [hx]; obtain ⟨h1, h2⟩ := strs_shaped ls ok; simp [D.py, SeqAt.shaped, PyData.canLay0, PyData.depth, h1, h2]) rfl ?_
  rw [hx]
  cases ls with
  | nil => exact q
  | cons c cs => exact q
theorem req_lnil {x : D} {ls : List (List Nat)} (ok : ls.all okS = true) (hx : vw γ x = .lst (strsD ls)) (q : Q (.bl (decide (ls = []))) γ) : dR2 K (rEqG K) x (.lst []) γ Q := by
  refine req_D (by rw [hx]; exact strs_pl ls) rfl (by rw [hx]; obtain ⟨h1, h2⟩ := strs_shaped ls ok; simp [D.py, SeqAt.shaped, PyData.canLay0, PyData.depth, h1, h2]) rfl ?_
  rw [hx]
  cases ls with
  | nil => exact q
  | cons c cs => exact q
theorem ds_nx {n : Nat} {t : TS} {nx bk ct : Env → Ga → Prop} {rt : QD} (N : Env → Ga → Prop) (h1 : dS K n t ρ γ ⟨N, rt, bk, ct⟩) (h2 : ∀ ρ' γ', N ρ' γ' → nx ρ' γ') : dS K n t ρ γ ⟨nx, rt, bk, ct⟩ :=
  fun σ H α α0 H0 Dn hn e r g f => h1 σ H α α0 H0 Dn hn e r g ⟨fun σ' H' α' ρ' γ' h e' g' r' => f.nx σ' H' α' ρ' γ' (h2 _ _ h) e' g' r', f.rt, f.bk, f.ct⟩
end
end DL

set_option Elab.async false
set_option linter.all false
set_option maxRecDepth 100000
set_option maxHeartbeats 2000000
namespace DL
open PySem PySem.Spec PyProof.Rows L2
section
variable {K : KX} {n : Nat} {ρ : Env} {γ : Ga} {nx : Env → Ga → Prop} {rt : QD} {bk ct : Env → Ga → Prop}
/-- a for over a list that is changed (or stands still) while it is walked -/
theorem xs_forM {tl : TE} {g : TG} {tb : TS} (is : List Nat) (h : dE K tl ρ γ fun d γ1 => ∃ k N, d = .loc k ∧ ∃ P : Nat → Env → Ga → Prop, P 0 ρ γ1 ∧
      ∀ i ρ' γ', P i ρ' γ' → i ≤ N ∧ ∃ xs, γ'[k]? = some (.lst xs) ∧
        (∀ x, xs[i]? = some x → dG K g x ρ' γ' is fun ρ2 γ2 => dS K γ1.length tb ρ2 γ2 ⟨P (i + 1), rt, nx, P (i + 1)⟩) ∧ (xs.length ≤ i → nx ρ' γ')) :
    dS K n (tFor (iList K tl) g tb) ρ γ ⟨nx, rt, bk, ct⟩ := fun σ H α α0 H0 Dn hn e r g0 f => by
  refine h σ H α _ r g0 fun v H1 α1 d γ1 hh e1 g1 r1 => ?_
  obtain ⟨k, N, rfl, P, p0, hs⟩ := hh
  cases r1 with
  | @loc _ a ha =>
    have at2 : ∀ {i ρ2 γ2 α2 H2}, P i ρ2 γ2 → Ext α1 H1 α2 H2 → GaX K H2 α2 γ2 → ∃ xs us, γ2[k]? = some (.lst xs) ∧ SqL K.f H2 a us ∧ RpL K.f H2 α2 us xs := fun {i ρ2 γ2 α2 H2} p2 e2 g2 => by
      obtain ⟨_, xs, h1, _⟩ := hs i ρ2 γ2 p2
      obtain ⟨us, h2, h3⟩ := g2.at_ k _ _ (e2.get ha) h1
      exact ⟨xs, us, h1, SqL.of h2, h3⟩
    obtain ⟨_, us0, _, s0, _⟩ := at2 p0 g1.refl g1
    refine ⟨a, rfl, ⟨us0, s0⟩, ?_⟩
    refine ⟨fun i m σ H => m = N - i ∧ ∃ α ρ γ, P i ρ γ ∧ Ext α1 H1 α H ∧ GaX K H α γ ∧ RpE K H α σ ρ,
      ⟨N, rfl, α1, ρ, γ1, p0, g1.refl, g1, r.mono e1⟩, ?_⟩
    rintro i m σ2 H2 ⟨rfl, α2, ρ2, γ2, p2, e2, g2, r2⟩
    obtain ⟨hi, xs, hx, hgo, hstop⟩ := hs i ρ2 γ2 p2
    obtain ⟨xs', us, hx', hsq, hrl⟩ := at2 p2 e2 g2
    rw [hx] at hx'
    cases hx'
    by_cases hlt : i < xs.length
    · have hv : i < us.length := by rw [hrl.length]; exact hlt
      refine .inr ⟨⟨us, us[i], hsq, List.getElem?_eq_getElem hv⟩, fun σ' H' => ∃ α ρ γ, P (i + 1) ρ γ ∧ Ext α1 H1 α H' ∧ GaX K H' α γ ∧ RpE K H' α σ' ρ, fun σ' H' hh => ?_, fun x H' y => ?_⟩
      · have hh' := hh
        obtain ⟨α, ρ, γ, p, _⟩ := hh
        have := (hs (i + 1) ρ γ p).1
        exact ⟨N - (i + 1), by omega, rfl, hh'⟩
      · obtain ⟨rfl, hy⟩ := y
        obtain ⟨d, hd1, r3⟩ := hrl.getV (hy us hsq)
        refine hgo d hd1 σ2 _ α2 x _ r2 g2 r3 fun σ4 H4 α4 ρ4 γ4 h4 _ e4 g4 r4 => ?_
        refine h4 σ4 H4 α4 α1 H1 _ g1.len (e2.trans e4) r4 g4 ⟨?_, f.rt.mono (e.trans e1), f.nx.mono (e.trans e1), ?_⟩
        · intro σ5 H5 α5 ρ5 γ5 p5 e5 g5 r5
          exact ⟨α5, ρ5, γ5, p5, e5, g5, r5⟩
        · intro σ5 H5 α5 ρ5 γ5 p5 e5 g5 r5
          exact ⟨α5, ρ5, γ5, p5, e5, g5, r5⟩
    · have hv : us.length ≤ i := by rw [hrl.length]; omega
      exact .inl ⟨⟨us, hsq, hv⟩, f.nx σ2 H2 α2 ρ2 γ2 (hstop (by omega)) ((e.trans e1).trans e2) g2 r2⟩
end
end DL

set_option Elab.async false
set_option linter.all false
set_option maxRecDepth 100000
set_option maxHeartbeats 2000000
/-! `is True`, order of bools, and/or by truth, d.update(d2), places of γ -/
namespace DL
open PySem PySem.Spec PyProof.Rows L2
/-! ### is True, is False -/
def rIsT : R2 := fun x y H Q => ∃ b, y = .bl b ∧ Q (.bl (decide (x = .bl b))) H
def rNtT : R2 := fun x y H Q => ∃ b, y = .bl b ∧ Q (.bl (!decide (x = .bl b))) H
theorem op_isT {X : Cx} : OpR X (compareOp .Is) rIsT := by
  intro pins s σ H x y v u Q I rx ry h
  obtain ⟨b, rfl, q⟩ := h
  cases (show u = Value.bool b from ry)
  refine wpAny_is_plain ?_ ⟨.bl (decide (x = .bl b)), H, I, ?_, q⟩
  · cases x <;> first | (cases rx; rfl) | (obtain ⟨t, rfl⟩ := rx; rfl)
  · cases x with
    | bl a => cases rx; cases a <;> cases b <;> rfl
    | _ => first | (cases rx; rfl) | (obtain ⟨t, rfl⟩ := rx; rfl)
theorem op_ntT {X : Cx} : OpR X (compareOp .IsNot) rNtT := by
  intro pins s σ H x y v u Q I rx ry h
  obtain ⟨b, rfl, q⟩ := h
  cases (show u = Value.bool b from ry)
  refine wpAny_isNot_plain ?_ ⟨.bl (!decide (x = .bl b)), H, I, ?_, q⟩
  · cases x <;> first | (cases rx; rfl) | (obtain ⟨t, rfl⟩ := rx; rfl)
  · cases x with
    | bl a => cases rx; cases a <;> cases b <;> rfl
    | _ => first | (cases rx; rfl) | (obtain ⟨t, rfl⟩ := rx; rfl)
def D.isBl (b : Bool) : D → Bool
  | .bl a => a == b
  | _ => false
theorem isBl_rp {K : KX} {H : Hp} {α : Al} {v : V} {d : D} {b : Bool} (r : Rp K H α v d) : decide (v = .bl b) = d.isBl b := by
  cases r with
  | bl a => cases a <;> cases b <;> rfl
  | _ => rfl
section
variable {K : KX} {γ : Ga} {Q : QD}
theorem rist {d : D} {b : Bool} (q : Q (.bl (d.isBl b)) γ) : dR2 K rIsT d (.bl b) γ Q := fun H α v w k g r1 r2 wv => by
  cases r2
  refine ⟨b, rfl, ?_⟩
  rw [isBl_rp r1]
  exact wv _ H α _ γ q g.refl g (.bl _)
theorem rntt {d : D} {b : Bool} (q : Q (.bl (!d.isBl b)) γ) : dR2 K rNtT d (.bl b) γ Q := fun H α v w k g r1 r2 wv => by
  cases r2
  refine ⟨b, rfl, ?_⟩
  rw [isBl_rp r1]
  exact wv _ H α _ γ q g.refl g (.bl _)
end
/-! ### bools in order -/
def bI (b : Bool) : Int := if b then 1 else 0
def rOB (f : Int → Int → Bool) : R2 := fun x y H Q => ∃ a b : Bool, x = .bl a ∧ y = .bl b ∧ Q (.bl (f (bI a) (bI b))) H
section
variable {X : Cx} {prog : Program} {w : World} {A : Around} {E Q : Value → Shared → Prop} {s : Shared} {a b : Bool}
theorem lt_bool (h : Q (.bool (decide (bI a < bI b))) s) : wpAny (model prog w) A (compareOp .Lt (.bool a) (.bool b)) Q E s :=
  compareOp_gives (op := .Lt) (T := "bool") (m := .val (.bool (decide (bI a < bI b)))) rfl rfl F.slot_bool_lt F.entry_int_lt (F.args_int_lt_2 _ _) (.of_eq (by cases a <;> cases b <;> rfl)) (fun x => nomatch x) h
theorem op_ltB : OpR X (compareOp .Lt) (rOB fun i j => decide (i < j)) := by
  intro pins s σ H x y v u Q I rx ry h
  obtain ⟨a, b, rfl, rfl, q⟩ := h
  cases rx; cases ry
  exact lt_bool ⟨.bl _, H, I, rfl, q⟩
theorem le_bool (h : Q (.bool (decide (bI a ≤ bI b))) s) : wpAny (model prog w) A (compareOp .LtE (.bool a) (.bool b)) Q E s :=
  compareOp_gives (op := .LtE) (T := "bool") (m := .val (.bool (decide (bI a ≤ bI b)))) rfl rfl F.slot_bool_le F.entry_int_le (F.args_int_le_2 _ _) (.of_eq (by cases a <;> cases b <;> rfl)) (fun x => nomatch x) h
theorem op_leB : OpR X (compareOp .LtE) (rOB fun i j => decide (i ≤ j)) := by
  intro pins s σ H x y v u Q I rx ry h
  obtain ⟨a, b, rfl, rfl, q⟩ := h
  cases rx; cases ry
  exact le_bool ⟨.bl _, H, I, rfl, q⟩
theorem gt_bool (h : Q (.bool (decide (bI b < bI a))) s) : wpAny (model prog w) A (compareOp .Gt (.bool a) (.bool b)) Q E s :=
  compareOp_gives (op := .Gt) (T := "bool") (m := .val (.bool (decide (bI b < bI a)))) rfl rfl F.slot_bool_gt F.entry_int_gt (F.args_int_gt_2 _ _) (.of_eq (by cases a <;> cases b <;> rfl)) (fun x => nomatch x) h
theorem op_gtB : OpR X (compareOp .Gt) (rOB fun i j => decide (j < i)) := by
  intro pins s σ H x y v u Q I rx ry h
  obtain ⟨a, b, rfl, rfl, q⟩ := h
  cases rx; cases ry
  exact gt_bool ⟨.bl _, H, I, rfl, q⟩
theorem ge_bool (h : Q (.bool (decide (bI b ≤ bI a))) s) : wpAny (model prog w) A (compareOp .GtE (.bool a) (.bool b)) Q E s :=
  compareOp_gives (op := .GtE) (T := "bool") (m := .val (.bool (decide (bI b ≤ bI a)))) rfl rfl F.slot_bool_ge F.entry_int_ge (F.args_int_ge_2 _ _) (.of_eq (by cases a <;> cases b <;> rfl)) (fun x => nomatch x) h
theorem op_geB : OpR X (compareOp .GtE) (rOB fun i j => decide (j ≤ i)) := by
  intro pins s σ H x y v u Q I rx ry h
  obtain ⟨a, b, rfl, rfl, q⟩ := h
  cases rx; cases ry
  exact ge_bool ⟨.bl _, H, I, rfl, q⟩
end
def rLtG : R2 := fun x y H Q => rLtI x y H Q ∨ rOB (fun i j => decide (i < j)) x y H Q
def rLeG : R2 := fun x y H Q => rLeI x y H Q ∨ rOB (fun i j => decide (i ≤ j)) x y H Q
def rGtG : R2 := fun x y H Q => rGtI x y H Q ∨ rOB (fun i j => decide (j < i)) x y H Q
def rGeG : R2 := fun x y H Q => rGeI x y H Q ∨ rOB (fun i j => decide (j ≤ i)) x y H Q
section
variable {X : Cx}
theorem op_ltG : OpR X (compareOp .Lt) rLtG := op_lt.or op_ltB
theorem op_leG : OpR X (compareOp .LtE) rLeG := op_le.or op_leB
theorem op_gtG : OpR X (compareOp .Gt) rGtG := op_gt.or op_gtB
theorem op_geG : OpR X (compareOp .GtE) rGeG := op_ge.or op_geB
end
/-- an int or a bool -/
def ordD : D → Option Int
  | .int i => some i
  | .bl b => some (bI b)
  | _ => none
section
variable {K : KX} {γ : Ga} {Q : QD}
theorem rob {f : Int → Int → Bool} {a b : Bool} (q : Q (.bl (f (bI a) (bI b))) γ) : dR2 K (rOB f) (.bl a) (.bl b) γ Q := fun H α v w k g r1 r2 wv => by
  cases r1; cases r2
  exact ⟨a, b, rfl, rfl, wv _ H α _ γ q g.refl g (.bl _)⟩
theorem rltg_i {i j : Int} (q : Q (.bl (decide (i < j))) γ) : dR2 K rLtG (.int i) (.int j) γ Q := fun H α v w k g r1 r2 wv => .inl (rlt_int q H α v w k g r1 r2 wv)
theorem rleg_i {i j : Int} (q : Q (.bl (decide (i ≤ j))) γ) : dR2 K rLeG (.int i) (.int j) γ Q := fun H α v w k g r1 r2 wv => .inl (rle_int q H α v w k g r1 r2 wv)
theorem rgtg_i {i j : Int} (q : Q (.bl (decide (j < i))) γ) : dR2 K rGtG (.int i) (.int j) γ Q := fun H α v w k g r1 r2 wv => .inl (rgt_int q H α v w k g r1 r2 wv)
theorem rgeg_i {i j : Int} (q : Q (.bl (decide (j ≤ i))) γ) : dR2 K rGeG (.int i) (.int j) γ Q := fun H α v w k g r1 r2 wv => .inl (rge_int q H α v w k g r1 r2 wv)
theorem rltg_b {a b : Bool} (q : Q (.bl (decide (bI a < bI b))) γ) : dR2 K rLtG (.bl a) (.bl b) γ Q := fun H α v w k g r1 r2 wv => .inr (rob (f := fun i j => decide (i < j)) q H α v w k g r1 r2 wv)
theorem rleg_b {a b : Bool} (q : Q (.bl (decide (bI a ≤ bI b))) γ) : dR2 K rLeG (.bl a) (.bl b) γ Q := fun H α v w k g r1 r2 wv => .inr (rob (f := fun i j => decide (i ≤ j)) q H α v w k g r1 r2 wv)
theorem rgtg_b {a b : Bool} (q : Q (.bl (decide (bI b < bI a))) γ) : dR2 K rGtG (.bl a) (.bl b) γ Q := fun H α v w k g r1 r2 wv => .inr (rob (f := fun i j => decide (j < i)) q H α v w k g r1 r2 wv)
theorem rgeg_b {a b : Bool} (q : Q (.bl (decide (bI b ≤ bI a))) γ) : dR2 K rGeG (.bl a) (.bl b) γ Q := fun H α v w k g r1 r2 wv => .inr (rob (f := fun i j => decide (j ≤ i)) q H α v w k g r1 r2 wv)
end
/-! ### truth -/
/-- the truth of d -/
def truD (γ : Ga) : D → Option Bool
  | .non => some false
  | .bl b => some b
  | .int i => some (i != 0)
  | .lst xs => some (!xs.isEmpty)
  | .tup xs => some (!xs.isEmpty)
  | .cst xs => some (!xs.isEmpty)
  | .str x => if x.length ≤ 1000000 then some ((x.length : Int) != 0) else none
  | .dic ks _ => some (!ks.isEmpty)
  | .loc k => match γ[k]? with
    | some (.lst xs) => some (!xs.isEmpty)
    | some (.dic ks _) => some (!ks.isEmpty)
    | _ => none
  | _ => none
theorem emp_rl {K : Frag} {H : Hp} {α : Al} {us : List V} {xs : List D} (r : RpL K H α us xs) : us.isEmpty = xs.isEmpty := by
  cases r <;> rfl
theorem emp_map {A B : Type} {f : A → B} {l : List A} : (l.map f).isEmpty = l.isEmpty := by cases l <;> rfl
theorem tru_rp {K : KX} {γ : Ga} {H : Hp} {α : Al} {v : V} {d : D} {b : Bool} (g : GaX K H α γ) (r : Rp K H α v d) (h : truD γ d = some b) : TruV K v H b := by
  cases r with
  | non => cases h; rfl
  | bl a => cases h; rfl
  | int i => cases h; rfl
  | str x =>
    by_cases hl : x.length ≤ 1000000
    · simp only [truD, if_pos hl] at h
      cases h
      exact ⟨le24 hl, rfl⟩
    · simp only [truD, if_neg hl] at h
      cases h
  | tup h1 h2 => cases h; exact .inr (.inl ⟨_, h1.sq, by rw [emp_rl h2]⟩)
  | cst h1 h2 => cases h; exact .inr (.inl ⟨_, h1.sq, by rw [emp_rl h2]⟩)
  | lst h1 h2 h3 => cases h; exact .inl ⟨_, SqL.of h2, by rw [emp_rl h3]⟩
  | dic h1 h2 h3 => cases h; exact .inr (.inr ⟨_, h2, by rw [emp_map]⟩)
  | @loc k a ha =>
    cases q : γ[k]? with
    | none => simp [truD, q] at h
    | some m =>
      have hm := g.at_ k a m ha q
      cases m with
      | lst xs => simp only [truD, q] at h; cases h; obtain ⟨us, h1, h2⟩ := hm; exact .inl ⟨us, SqL.of h1, by rw [emp_rl h2]⟩
      | dic ks xs => simp only [truD, q] at h; cases h; obtain ⟨us, h1, h2, h3⟩ := hm; exact .inr (.inr ⟨us, h1, by rw [← h2, emp_map]⟩)
      | _ => simp [truD, q] at h
  | _ => cases h
section
variable {K : KX} {ρ : Env} {γ : Ga} {Q : QD}
theorem de_andT {ta tb : TE} (h : dE K ta ρ γ fun d γ1 => ∃ b, truD γ1 d = some b ∧ if b = true then dE K tb ρ γ1 Q else Q d γ1) : dE K (tAndT K ta tb) ρ γ Q := fun σ H α q r g w =>
  h σ H α _ r g fun v H1 α1 d γ1 ⟨b, hb, hq⟩ e1 g1 r1 => ⟨b, tru_rp g1 r1 hb, by
    cases b with
    | true => exact hq σ H1 α1 _ (r.mono e1) g1 (w.mono e1)
    | false => exact w v H1 α1 d γ1 hq e1 g1 r1⟩
theorem de_orT {ta tb : TE} (h : dE K ta ρ γ fun d γ1 => ∃ b, truD γ1 d = some b ∧ if b = true then Q d γ1 else dE K tb ρ γ1 Q) : dE K (tOrT K ta tb) ρ γ Q := fun σ H α q r g w =>
  h σ H α _ r g fun v H1 α1 d γ1 ⟨b, hb, hq⟩ e1 g1 r1 => ⟨b, tru_rp g1 r1 hb, by
    cases b with
    | false => exact hq σ H1 α1 _ (r.mono e1) g1 (w.mono e1)
    | true => exact w v H1 α1 d γ1 hq e1 g1 r1⟩
theorem dt_truth {ta : TE} {q : Bool → Ga → Prop} (h : dE K ta ρ γ fun d γ1 => ∃ b, truD γ1 d = some b ∧ q b γ1) : dT K (tTruth K ta) ρ γ q := fun σ H α k r g w =>
  h σ H α _ r g fun v H1 α1 d γ1 ⟨b, hb, hq⟩ e1 g1 r1 => ⟨b, tru_rp g1 r1 hb, w b H1 α1 γ1 hq e1 g1⟩
end
/-! ### d.update(d2) -/
def rUpdate : V → List V → Hp → VK → Prop := fun x vs H Q => ∃ (a b : Addr) (kvs more : List (Key × V)), x = .ref a ∧ vs = [.ref b] ∧ a ≠ b ∧ H a = some (.dK kvs) ∧ H b = some (.dK more) ∧ kvs.length + more.length ≤ sizeLine ∧ Q .non (upd H a (.dK (mergeK kvs more)))
theorem mt_update {X : Cx} : MtR X "dict.update" rUpdate := by
  intro pins s σ H x xs v us Q I rx r h
  obtain ⟨a, b, kvs, more, rfl, rfl, hne, ha, hb, hl, q⟩ := h
  cases rx
  have eu := r.ref1
  subst eu
  obtain ⟨z1, d1, vs1, rel1, dd1⟩ := dk_of I.hok ha
  obtain ⟨z2, d2, vs2, rel2, dd2⟩ := dk_of I.hok hb
  refine call_meetsIn PySem.F.slot_dict_update dd1.typeIs PySem.F.entry_dict_update (PySem.F.args_dict_update_2 _ _) (meets_dict_update (mixKind X.prog X.w) a b hne d2) ⟨vs1, vs2, dd1, dd2, by rw [← rel1.length, ← rel2.length]; exact hl, fun h' dd' _ hs => ?_⟩
  have hl2 : (mergeK kvs more).length ≤ sizeLine := Nat.le_trans (length_mergeK more kvs) hl
  have he : ∃ q, h'.get? a = some q := let ⟨q, _, _, hq, _⟩ := dd'; ⟨q, hq⟩
  exact ⟨.non, _, d_write (t' := s.toks) I (by rw [ha]; exact True.intro) hs he (dk_new hl2 d1 (KV.merge rel2 rel1) dd'), rfl, q⟩
section
variable {K : KX} {γ : Ga} {Q : QD}
/-- pairs put in, one behind the other -/
def putsP (ps more : List (Key × D)) : List (Key × D) := more.foldl (fun acc p => putP acc p.1 p.2) ps
theorem merge2_rp {K : Frag} {H : Hp} {α : Al} : ∀ {more : List (Key × V)} {mps : List (Key × D)} {kvs : List (Key × V)} {ps : List (Key × D)}, more.map (·.1) = mps.map (·.1) → RpL K H α (more.map (·.2)) (mps.map (·.2)) → kvs.map (·.1) = ps.map (·.1) → RpL K H α (kvs.map (·.2)) (ps.map (·.2)) →
    (mergeK kvs more).map (·.1) = (putsP ps mps).map (·.1) ∧ RpL K H α ((mergeK kvs more).map (·.2)) ((putsP ps mps).map (·.2))
  | [], [], _, _, _, _, e, r => ⟨e, r⟩
  | [], _ :: _, _, _, e, _, _, _ => by cases e
  | _ :: _, [], _, _, e, _, _, _ => by cases e
  | (a, b) :: more, (a', b') :: mps, kvs, ps, e1, r1, e, r => by
    simp only [List.map_cons, List.cons.injEq] at e1
    obtain ⟨rfl, e1⟩ := e1
    cases r1 with
    | cons rb r1 =>
      obtain ⟨p1, p2, _⟩ := putK_rp (k := a) rb e r
      have h := merge2_rp (more := more) (mps := mps) e1 r1 p1 p2
      exact h
theorem rm_update {x y : D} (h : ∃ j ps mps, x = .loc j ∧ γ[j]? = some (moK ps) ∧ y ≠ .loc j ∧ dvw γ y = some (mps.map (·.1), mps.map (·.2)) ∧ ps.length + mps.length ≤ 1000000 ∧ Q .non (γ.set j (moK (putsP ps mps)))) : dRM K rUpdate x [y] γ Q := fun H α v vs q g r1 r2 wv => by
  obtain ⟨j, ps, mps, rfl, hj, hne, hy, hl, hq⟩ := h
  cases r1 with
  | @loc _ a ha =>
    obtain ⟨kvs, h1, h2, h3⟩ := g.at_ _ _ _ ha hj
    cases r2 with
    | cons ry rn =>
      cases rn
      obtain ⟨b, more, rfl, hb, m2, m3⟩ := dic_rp g ry hy
      have hab : a ≠ b := fun z => by
        subst z
        cases ry with
        | dic n1 _ _ => exact n1 (.inl (List.mem_of_getElem? ha))
        | @loc j' _ ha' =>
          obtain ⟨l1, e1⟩ := List.getElem?_eq_some_iff.mp ha
          obtain ⟨l2, e2⟩ := List.getElem?_eq_some_iff.mp ha'
          have := (List.getElem_inj g.nd.1).mp (e1.trans e2.symm)
          exact hne (by rw [this])
        | _ => simp [dvw] at hy
      have ex := ext_set g (o := .dK (mergeK kvs more)) (List.mem_of_getElem? ha)
      obtain ⟨p1, p2⟩ := merge2_rp m2 (RpL.mono ex _ _ m3) h2 (RpL.mono ex _ _ h3)
      have e1 : kvs.length = ps.length := by simpa using congrArg List.length h2
      have e2 : more.length = mps.length := by simpa using congrArg List.length m2
      exact ⟨a, b, kvs, more, rfl, rfl, hab, h1, hb, by rw [e1, e2]; exact le24 hl, wv .non _ α .non _ hq ex (ga_set g ha ⟨_, upd_same, p1, p2⟩) .non⟩
theorem isTy_dic {x : D} {p : List Key × List D} (h : dvw γ x = some p) : IsTy K "dict" x γ := fun H α v g r => by
  obtain ⟨a, kvs, rfl, ha, _⟩ := dic_rp g r h
  exact .inr (.inr (.inl ⟨rfl, .inl ⟨kvs, ha⟩⟩))
end
/-! ### places of γ -/
section
variable {γ r : Ga} {a b c : MO}
theorem at_0 : (γ ++ a :: r)[γ.length]? = some a := by simp
theorem at_1 : (γ ++ a :: b :: r)[γ.length + 1]? = some b := by simp
theorem at_2 : (γ ++ a :: b :: c :: r)[γ.length + 2]? = some c := by simp
theorem set_0 {x : MO} : (γ ++ a :: r).set γ.length x = γ ++ x :: r := by simp
theorem set_1 {x : MO} : (γ ++ a :: b :: r).set (γ.length + 1) x = γ ++ a :: x :: r := by simp
theorem set_2 {x : MO} : (γ ++ a :: b :: c :: r).set (γ.length + 2) x = γ ++ a :: b :: x :: r := by simp
end
theorem rng_get {lo : Int} {n k : Nat} {x : D} (h : (rngD lo n)[k]? = some x) : k < n ∧ x = .int (lo + (k : Nat)) := by
  unfold rngD at h
  rw [List.getElem?_map] at h
  obtain ⟨i, hi, rfl⟩ := Option.map_eq_some_iff.mp h
  obtain ⟨h1, h2⟩ := List.getElem?_eq_some_iff.mp hi
  simp at h1 h2
  exact ⟨h1, by rw [h2]⟩
theorem rng_len {lo : Int} {n : Nat} : (rngD lo n).length = n := by simp [rngD]
end DL

set_option Elab.async false
set_option linter.all false
set_option maxRecDepth 100000
set_option maxHeartbeats 2000000
/-! a hidden object gets a number; a dict display that will be changed -/
namespace DL
open PySem PySem.Spec PyProof.Rows L2
mutual
theorem Rp.re {K : Frag} {α α' : Al} {H H' : Hp} (hk : ∀ (k : Nat) (a : Addr), α.h[k]? = some a → α'.h[k]? = some a) (ho : ∀ a o, a ∉ α → H a = some o → a ∉ α' ∧ H' a = some o) : ∀ (d : D) (v : V), Rp K H α v d → Rp K H' α' v d
  | .non, _, h => by cases h; exact .non
  | .bl b, _, h => by cases h; exact .bl b
  | .int i, _, h => by cases h; exact .int i
  | .str x, _, h => by cases h; exact .str x
  | .ty n, _, h => by cases h; exact .ty n
  | .ref a, _, h => by cases h; exact .ref a
  | .loc k, _, h => by cases h with | loc h => exact .loc (hk _ _ h)
  | .tup ds, _, h => by cases h with | tup h1 h2 => exact .tup (ho _ _ h1.1 h1.2) (RpL.re hk ho ds _ h2)
  | .lst ds, _, h => by cases h with | lst h1 h2 h3 => exact .lst (ho _ _ h1 h2).1 (ho _ _ h1 h2).2 (RpL.re hk ho ds _ h3)
  | .ins C ns ds, _, h => by cases h with | ins h1 h2 h3 => exact .ins (ho _ _ h1 h2).1 (ho _ _ h1 h2).2 (RpL.re hk ho ds _ h3)
  | .dic ks ds, _, h => by cases h with | dic h1 h2 h3 => exact .dic (ho _ _ h1 h2).1 (ho _ _ h1 h2).2 (RpL.re hk ho ds _ h3)
  | .dit ks ds, _, h => by cases h with | dit h1 h2 h3 => exact .dit (ho _ _ h1 h2).1 (ho _ _ h1 h2).2 (RpL.re hk ho ds _ h3)
  | .exc a dd C ks ds, _, h => by cases h with | exc h1 h2 h3 => exact .exc (ho _ _ h1 h2).1 (ho _ _ h1 h2).2 (RpL.re hk ho ds _ h3)
  | .cst ds, _, h => by cases h with | cst h1 h2 => exact .cst h1 (RpL.re hk ho ds _ h2)
  | .exv C ks ds, _, h => by cases h with | exv h1 h2 h3 h4 h5 => exact .exv (ho _ _ h1 h3).1 (ho _ _ h2 h4).1 (ho _ _ h1 h3).2 (ho _ _ h2 h4).2 (RpL.re hk ho ds _ h5)
theorem RpL.re {K : Frag} {α α' : Al} {H H' : Hp} (hk : ∀ (k : Nat) (a : Addr), α.h[k]? = some a → α'.h[k]? = some a) (ho : ∀ a o, a ∉ α → H a = some o → a ∉ α' ∧ H' a = some o) : ∀ (ds : List D) (vs : List V), RpL K H α vs ds → RpL K H' α' vs ds
  | [], _, h => by cases h; exact .nil
  | d :: ds, _, h => by cases h with | cons h1 h2 => exact .cons (Rp.re hk ho d _ h1) (RpL.re hk ho ds _ h2)
end
theorem MOk.re {K : Frag} {α α' : Al} {H H' : Hp} (hk : ∀ (k : Nat) (a : Addr), α.h[k]? = some a → α'.h[k]? = some a) (ho : ∀ a o, a ∉ α → H a = some o → a ∉ α' ∧ H' a = some o) {a : Addr} (e : ∀ o, H a = some o → H' a = some o) : ∀ {m : MO}, MOk K H α a m → MOk K H' α' a m
  | .lst _, h => by obtain ⟨_, h, r⟩ := h; exact ⟨_, e _ h, RpL.re hk ho _ _ r⟩
  | .ins _ _ _, h => by obtain ⟨_, _, h, n, r⟩ := h; exact ⟨_, _, e _ h, n, RpL.re hk ho _ _ r⟩
  | .dic _ _, h => by obtain ⟨_, h, n, r⟩ := h; exact ⟨_, e _ h, n, RpL.re hk ho _ _ r⟩
  | .dit _ _, h => by obtain ⟨_, h, n, r⟩ := h; exact ⟨_, e _ h, n, RpL.re hk ho _ _ r⟩
section
variable {K : KX} {α α1 : Al} {H H1 : Hp} {γ γ1 : Ga} {p : Addr} {o : HO} {m : MO}
theorem sho_mem {a : Addr} : a ∈ (α1.un p).push p ↔ a ∈ α1 ∨ a = p := by
  rw [Al.mem_push]
  constructor
  · rintro (h | h)
    · rcases h with h | h
      · exact .inl (.inl h)
      · exact .inl (.inr (un_x a h))
    · exact .inr h
  · rintro (h | h)
    · by_cases e : a = p
      · exact .inr e
      · rcases h with h | h
        · exact .inl (.inl h)
        · exact .inl (.inr (List.mem_filter.mpr ⟨h, decide_eq_true e⟩))
    · exact .inr h
theorem sho_hk (k : Nat) (a : Addr) (h : α1.h[k]? = some a) : ((α1.un p).push p).h[k]? = some a := by
  show (α1.h ++ [p])[k]? = some a
  rw [List.getElem?_append_left (List.getElem?_eq_some_iff.mp h).1]
  exact h
theorem sho_ho (inx : p ∈ α1.x) (a : Addr) (u : HO) (h : a ∉ α1) (e : H1 a = some u) : a ∉ (α1.un p).push p ∧ upd H1 p o a = some u := by
  have hp : a ≠ p := fun z => h (by rw [z]; exact .inr inx)
  exact ⟨fun z => (sho_mem.mp z).elim h hp, by rw [upd_ne hp]; exact e⟩
theorem sho_nd (g : GaOk K.f H1 α1 γ1) (inx : p ∈ α1.x) : ((α1.un p).push p).Nd := by
  have nh : p ∉ α1.h := fun z => g.nd.2.2 p z inx
  refine ⟨?_, (g.nd.2.1).sublist (List.filter_sublist ..), fun a ha hm => ?_⟩
  · show (α1.h ++ [p]).Nodup
    rw [List.nodup_append]
    refine ⟨g.nd.1, by simp, fun a ha b hb e => ?_⟩
    have eb : b = p := by simpa using hb
    exact nh (by rw [← eb, ← e]; exact ha)
  · rcases List.mem_append.mp (show a ∈ α1.h ++ [p] from ha) with z | z
    · exact g.nd.2.2 a z (un_x a hm)
    · have eb : a = p := by simpa using z
      exact of_decide_eq_true (List.mem_filter.mp hm).2 eb
theorem ga_sho0 (g : GaOk K.f H1 α1 γ1) (inx : p ∈ α1.x) (hm : MOk K.f (upd H1 p o) ((α1.un p).push p) p m) : GaOk K.f (upd H1 p o) ((α1.un p).push p) (γ1 ++ [m]) := by
  have nh : p ∉ α1.h := fun z => g.nd.2.2 p z inx
  refine ⟨sho_nd g inx, by show (α1.h ++ [p]).length = _; simp [g.len], fun k a m' h1 h2 => ?_, fun a ha => ?_⟩
  · have h1 : (α1.h ++ [p])[k]? = some a := h1
    by_cases hk : k < α1.h.length
    · rw [List.getElem?_append_left hk] at h1
      rw [List.getElem?_append_left (by rw [← g.len]; exact hk)] at h2
      have hne : a ≠ p := fun z => nh (by rw [← z]; exact List.mem_of_getElem? h1)
      exact (g.at_ k a m' h1 h2).re sho_hk (sho_ho inx) fun u h => by rw [upd_ne hne]; exact h
    · have hk2 : k = α1.h.length := by
        have := (List.getElem?_eq_some_iff.mp h1).1
        simp at this; omega
      subst hk2
      rw [List.getElem?_append_right (Nat.le_refl _)] at h1
      rw [List.getElem?_append_right (by rw [g.len]; exact Nat.le_refl _)] at h2
      simp at h1
      rw [g.len] at h2
      simp at h2
      subst h1 h2
      exact hm
  · exact xs_upd (α := α1) g.xs a (un_x a ha)
theorem ext_sho (g : GaX K H α γ) (e : Ext α H α1 H1) (g1 : GaOk K.f H1 α1 γ1) (hp : H p = none) (inx : p ∈ α1.x) : Ext α H ((α1.un p).push p) (upd H1 p o) := by
  have ex : Ext α H (α1.un p) (upd H1 p o) := ext_un g (ext_hset g e hp) hp
  obtain ⟨β, e1, f1⟩ := ex.al
  refine ⟨⟨⟨β ++ [p], ?_, fun b hb => ?_⟩, sho_nd g1 inx, ex.xx, ex.keep⟩, ex.keepx⟩
  · show (α1.un p).h ++ [p] = _
    rw [e1, List.append_assoc]
  · rcases List.mem_append.mp hb with z | z
    · exact f1 b z
    · rw [List.mem_singleton.mp z]; exact hp
/-- a dict display that will be changed -/
def tDispM (trs : List (TE × TE)) : TE := tDisp trs
theorem de_dispM {trs : List (TE × TE)} {ρ : Env} {Q : QD} (h : dPairs K trs ρ γ fun ps γ1 => ∃ ks, ps.map (fun p => keyD p.1) = ks.map some ∧ ks.Nodup ∧ ks.length ≤ 15 ∧ Q (.loc γ1.length) (γ1 ++ [.dic ks (ps.map (·.2))])) : dE K (tDispM trs) ρ γ Q := fun σ H α q r g w => by
  intro p hp
  have e0 := ext_hid g (o := .dK []) hp
  refine dPairs_run h σ _ _ _ (r.mono e0) (ga_hid g hp) fun us H1 α1 ps γ1 h1 e1 g1 r1 => ?_
  obtain ⟨ks, hk, nd, hl, hq⟩ := h1
  obtain ⟨kvs, k1, k2, k3⟩ := keysD_rp r1 hk
  have inx : p ∈ (α.hid p).x := List.mem_cons_self
  have hp1 := e1.keepx p _ inx upd_same
  have inx1 : p ∈ α1.x := by
    obtain ⟨δ, e, _⟩ := e1.xx
    rw [e]
    exact List.mem_append_right _ inx
  subst k2
  refine ⟨hp1, kvs, k1, by simpa using hl, ?_⟩
  have em : mergeK [] kvs = kvs := by rw [mergeK_nodup (by simpa using nd)]; rfl
  rw [em]
  have ex := ext_sho (o := .dK kvs) g (e0.trans e1) g1.toGaOk hp inx1
  refine w _ _ ((α1.un p).push p) _ _ hq ex (g.go (ga_sho0 g1.toGaOk inx1 ⟨kvs, upd_same, rfl, ?_⟩) ex) (.loc ?_)
  · rw [k3]
    exact RpL.re sho_hk (sho_ho inx1) _ _ r1.2
  · show (α1.h ++ [p])[γ1.length]? = _
    rw [← g1.len]; simp
end
theorem xe_dispM {K : KX} {trs : List (TE × TE)} {ρ : Env} {γ : Ga} {Q : QD} (h : dPairs K trs ρ γ fun ps γ1 => ps.all (fun p => (keyD p.1).isSome) = true ∧ (ps.filterMap fun p => keyD p.1).Nodup ∧ ps.length ≤ 15 ∧ Q (.loc γ1.length) (γ1 ++ [.dic (ps.filterMap fun p => keyD p.1) (ps.map (·.2))])) : dE K (tDispM trs) ρ γ Q := by
  refine de_dispM (dPairs_mono h ?_)
  rintro ps γ1 ⟨h1, h2, h3, h4⟩
  exact ⟨_, keys_all ps h1, h2, Nat.le_trans (List.length_filterMap_le _ _) h3, h4⟩
end DL

set_option Elab.async false
set_option linter.all false
set_option maxRecDepth 100000
set_option maxHeartbeats 2000000
namespace DL
open PySem PySem.Spec PyProof.Rows L2
/-! ### what the program's functions compute: names, numbers, tokens, the parser of expressions -/
def LET : List Nat := [97, 98, 99, 100, 101, 102, 103, 104, 105, 106, 107, 108, 109, 110, 111, 112, 113, 114, 115, 116, 117, 118, 119, 120, 121, 122]
def FIG : List Nat := [48, 49, 50, 51, 52, 53, 54, 55, 56, 57]
def RESV : List (List Nat) := [[97, 110, 100], [99, 104, 101, 99, 107, 112, 111, 105, 110, 116], [101, 108, 115, 101], [101, 110, 100], [105, 102], [105, 110, 112, 117, 116], [109, 111, 100], [110, 111, 116], [111, 114], [112, 114, 111, 99, 101, 115, 115], [114, 101, 99, 101, 105, 118, 101], [115, 101, 110, 100], [115, 101, 116], [116, 97, 107, 101], [119, 104, 105, 108, 101]]
def WRDS : List (List Nat) := [[97, 110, 100], [109, 111, 100], [110, 111, 116], [111, 114]]
def SGNS : List (List Nat) := [[60, 61], [62, 61], [33, 61], [47, 47], [43], [45], [42], [40], [41], [91], [93], [61], [60], [62]]
def isName (l : List Nat) : Bool := decide (1 ≤ l.length) && decide (l.length ≤ 8) && !decide (l ∈ RESV) && l.all fun c => decide (c ∈ LET)
def isNum (l : List Nat) : Bool := decide (0 < l.length) && decide (l.length ≤ 30) && (l.all fun c => decide (c ∈ FIG)) && (decide (l = [48]) || !decide (l.head? = some 48))
def runOf (signs r : List Nat) : List Nat := r.takeWhile fun c => decide (c ∈ signs)
inductive Kd where
  | sign | name | integer | odd | fin
  deriving DecidableEq
def Kd.c : Kd → List Nat
  | .sign => [115, 105, 103, 110]
  | .name => [110, 97, 109, 101]
  | .integer => [105, 110, 116, 101, 103, 101, 114]
  | .odd => [111, 100, 100]
  | .fin => [101, 110, 100]
structure Tkn where
  k : Kd
  v : List Nat
  p : Nat
def Tkn.d (t : Tkn) : D := .tup [.str (S t.k.c), .str (S t.v), .int t.p]
/-- the token at the beginning of r, which stands at s; and its length -/
def tokA (r : List Nat) (s : Nat) : Tkn × Nat := match r with
  | [] => (⟨.odd, [], s⟩, 1)
  | c :: _ =>
    if c ∈ LET then (⟨if runOf LET r ∈ WRDS then .sign else if isName (runOf LET r) then .name else .odd, runOf LET r, s⟩, (runOf LET r).length)
    else if c ∈ FIG then (⟨if isNum (runOf FIG r) then .integer else .odd, runOf FIG r, s⟩, (runOf FIG r).length)
    else match SGNS.find? fun g => decide (r.take g.length = g) with
      | some g => (⟨.sign, g, s⟩, g.length)
      | none => (⟨.odd, [c], s⟩, 1)
def tokL : Nat → List Nat → Nat → List Tkn
  | 0, _, _ => []
  | n + 1, r, s => match r.drop (runOf [32] r).length with
    | [] => [⟨.fin, [], s + (runOf [32] r).length⟩]
    | c :: r' =>
      if (tokA (c :: r') (s + (runOf [32] r).length)).1.k = .odd then [(tokA (c :: r') (s + (runOf [32] r).length)).1]
      else (tokA (c :: r') (s + (runOf [32] r).length)).1 :: tokL n ((c :: r').drop (tokA (c :: r') (s + (runOf [32] r).length)).2) (s + (runOf [32] r).length + (tokA (c :: r') (s + (runOf [32] r).length)).2)
def toks (l : List Nat) : List Tkn := tokL (l.length + 1) l 0
abbrev PR := Option (Except Nat (D × List Tkn))
def sees (t : Tkn) (gs : List (List Nat)) : Bool := decide (t.k = .sign) && decide (t.v ∈ gs)
def pLoop (f : List Tkn → PR) (ops : List (List Nat)) : Nat → D → List Tkn → PR
  | 0, _, _ => none
  | _ + 1, _, [] => none
  | m + 1, d, t :: r => if sees t ops then (match f r with
      | some (.ok (d2, r2)) => pLoop f ops m (.tup [.str (S t.v), d, d2]) r2
      | x => x) else some (.ok (d, t :: r))
def MUL : List (List Nat) := [[42], [47, 47], [109, 111, 100]]
def ADD : List (List Nat) := [[43], [45]]
def pT (f : List Tkn → PR) (ts : List Tkn) : PR := match f ts with
  | some (.ok (d, r)) => pLoop f MUL (r.length + 1) d r
  | x => x
def pE (f : List Tkn → PR) (ts : List Tkn) : PR := match pT f ts with
  | some (.ok (d, r)) => pLoop (pT f) ADD (r.length + 1) d r
  | x => x
def sNegate : List Nat := [110, 101, 103, 97, 116, 101]
def sNumber : List Nat := [110, 117, 109, 98, 101, 114]
def sVariable : List Nat := [118, 97, 114, 105, 97, 98, 108, 101]
def pLeaf (t : Tkn) (r : List Tkn) : PR :=
  if t.k = .integer then (match PySem.intText? (S t.v) with
    | some n => if t.v.length ≤ 640 then some (.ok (.tup [.str (S sNumber), .int n], r)) else none
    | none => none)
  else if t.k = .name then some (.ok (.tup [.str (S sVariable), .str (S t.v)], r))
  else some (.error t.p)
def pSign (gs : List (List Nat)) (d : D) : List Tkn → PR
  | [] => none
  | t :: r => if sees t gs then some (.ok (d, r)) else some (.error t.p)
def pFac : Nat → List Tkn → PR
  | 0, _ => none
  | _ + 1, [] => none
  | n + 1, t :: r =>
    if sees t [[45]] then (match pFac n r with
      | some (.ok (d, r2)) => some (.ok (.tup [.str (S sNegate), d], r2))
      | x => x)
    else if sees t [[40]] then (match pE (pFac n) r with
      | some (.ok (d, r2)) => pSign [[41]] d r2
      | x => x)
    else pLeaf t r
/-- what is left is an end of what was there -/
theorem pLoop_suf {f : List Tkn → PR} {ops : List (List Nat)} (hf : ∀ ts d r, f ts = some (.ok (d, r)) → r <:+ ts) : ∀ m d ts d' r, pLoop f ops m d ts = some (.ok (d', r)) → r <:+ ts
  | 0, _, _, _, _, h => by cases h
  | _ + 1, _, [], _, _, h => by cases h
  | m + 1, d, t :: r, d', r', h => by
    unfold pLoop at h
    split at h
    · split at h
      · rename_i d2 r2 e
        exact ((pLoop_suf hf m _ _ _ _ h).trans (hf _ _ _ e)).trans (List.suffix_cons _ _)
      · rename_i x _
        exact (hf _ _ _ h).trans (List.suffix_cons _ _)
    · cases h
      exact List.suffix_refl _
theorem pT_suf {f : List Tkn → PR} (hf : ∀ ts d r, f ts = some (.ok (d, r)) → r <:+ ts) : ∀ ts d r, pT f ts = some (.ok (d, r)) → r <:+ ts := fun ts d r h => by
  unfold pT at h
  split at h
  · rename_i d1 r1 e
    exact (pLoop_suf hf _ _ _ _ _ h).trans (hf _ _ _ e)
  · exact hf _ _ _ h
theorem pE_suf {f : List Tkn → PR} (hf : ∀ ts d r, f ts = some (.ok (d, r)) → r <:+ ts) : ∀ ts d r, pE f ts = some (.ok (d, r)) → r <:+ ts := fun ts d r h => by
  unfold pE at h
  split at h
  · rename_i d1 r1 e
    exact (pLoop_suf (pT_suf hf) _ _ _ _ _ h).trans (pT_suf hf _ _ _ e)
  · exact pT_suf hf _ _ _ h
theorem pSign_suf {gs : List (List Nat)} {d d' : D} : ∀ {ts r : List Tkn}, pSign gs d ts = some (.ok (d', r)) → r <:+ ts
  | [], _, h => by cases h
  | t :: ts, r, h => by
    by_cases c : sees t gs = true
    · rw [pSign, if_pos c] at h
      cases h
      exact List.suffix_cons _ _
    · rw [pSign, if_neg c] at h
      cases h
theorem pFac_suf : ∀ n ts d r, pFac n ts = some (.ok (d, r)) → r <:+ ts
  | 0, _, _, _, h => by cases h
  | _ + 1, [], _, _, h => by cases h
  | n + 1, t :: ts, d, r, h => by
    unfold pFac at h
    split at h
    · split at h
      · rename_i d2 r2 e
        cases h
        exact (pFac_suf n _ _ _ e).trans (List.suffix_cons _ _)
      · exact (pFac_suf n _ _ _ h).trans (List.suffix_cons _ _)
    · split at h
      · split at h
        · rename_i d2 r2 e
          have s := pE_suf (pFac_suf n) _ _ _ e
          exact ((pSign_suf h).trans s).trans (List.suffix_cons _ _)
        · exact (pE_suf (pFac_suf n) _ _ _ h).trans (List.suffix_cons _ _)
      · unfold pLeaf at h
        split at h
        · split at h
          · split at h
            · cases h; exact List.suffix_cons _ _
            · cases h
          · cases h
        · split at h
          · cases h; exact List.suffix_cons _ _
          · cases h
/-! ### conditions -/
def pL (f : List Tkn → PR) (ops : List (List Nat)) (ts : List Tkn) : PR := match f ts with
  | some (.ok (d, r)) => pLoop f ops (r.length + 1) d r
  | x => x
def sAnd : List Nat := [97, 110, 100]
def sOr : List Nat := [111, 114]
def sNot : List Nat := [110, 111, 116]
def CMPS : List (List Nat) := [[61], [33, 61], [60], [60, 61], [62], [62, 61]]
def pJ (f : List Tkn → PR) : List Tkn → PR := pL f [sAnd]
def pC (f : List Tkn → PR) : List Tkn → PR := pL (pJ f) [sOr]
def pCmp (fe : List Tkn → PR) (d : D) : List Tkn → PR
  | [] => none
  | t :: r => if sees t CMPS then (match fe r with
      | some (.ok (d2, r2)) => some (.ok (.tup [.str (S t.v), d, d2], r2))
      | x => x) else some (.error t.p)
def pNeg (fe : List Tkn → PR) : Nat → List Tkn → PR
  | 0, _ => none
  | _ + 1, [] => none
  | n + 1, t :: r =>
    if sees t [sNot] then (match pNeg fe n r with
      | some (.ok (d, r2)) => some (.ok (.tup [.str (S sNot), d], r2))
      | x => x)
    else if sees t [[91]] then (match pC (pNeg fe n) r with
      | some (.ok (d, r2)) => pSign [[93]] d r2
      | x => x)
    else match fe (t :: r) with
      | some (.ok (d, r2)) => pCmp fe d r2
      | x => x
theorem pL_suf {f : List Tkn → PR} {ops : List (List Nat)} (hf : ∀ ts d r, f ts = some (.ok (d, r)) → r <:+ ts) : ∀ ts d r, pL f ops ts = some (.ok (d, r)) → r <:+ ts := fun ts d r h => by
  unfold pL at h
  split at h
  · rename_i d1 r1 e
    exact (pLoop_suf hf _ _ _ _ _ h).trans (hf _ _ _ e)
  · exact hf _ _ _ h
theorem pCmp_s {fe : List Tkn → PR} {d : D} {t : Tkn} {r : List Tkn} : pCmp fe d (t :: r) = if sees t CMPS then (match fe r with
      | some (.ok (d2, r2)) => some (.ok (.tup [.str (S t.v), d, d2], r2))
      | x => x) else some (.error t.p) := rfl
theorem pCmp_suf {fe : List Tkn → PR} (hf : ∀ ts d r, fe ts = some (.ok (d, r)) → r <:+ ts) : ∀ d ts d' r, pCmp fe d ts = some (.ok (d', r)) → r <:+ ts
  | d, [], d', r, h => by cases h
  | d, t :: ts, d', r, h => by
    rw [pCmp_s] at h
    by_cases c1 : sees t CMPS = true
    · rw [if_pos c1] at h
      cases e : fe ts with
      | none => rw [e] at h; cases h
      | some o =>
        rw [e] at h
        cases o with
        | error p => cases h
        | ok o =>
          cases h
          exact (hf _ _ _ e).trans (List.suffix_cons _ _)
    · rw [if_neg c1] at h
      cases h
theorem pNeg_s {fe : List Tkn → PR} {n : Nat} {t : Tkn} {r : List Tkn} : pNeg fe (n + 1) (t :: r) =
    if sees t [sNot] then (match pNeg fe n r with
      | some (.ok (d, r2)) => some (.ok (.tup [.str (S sNot), d], r2))
      | x => x)
    else if sees t [[91]] then (match pC (pNeg fe n) r with
      | some (.ok (d, r2)) => pSign [[93]] d r2
      | x => x)
    else match fe (t :: r) with
      | some (.ok (d, r2)) => pCmp fe d r2
      | x => x := rfl
theorem pNeg_suf {fe : List Tkn → PR} (hf : ∀ ts d r, fe ts = some (.ok (d, r)) → r <:+ ts) : ∀ n ts d r, pNeg fe n ts = some (.ok (d, r)) → r <:+ ts
  | 0, _, _, _, h => by cases h
  | _ + 1, [], _, _, h => by cases h
  | n + 1, t :: ts, d, r, h => by
    rw [pNeg_s] at h
    by_cases c1 : sees t [sNot] = true
    · rw [if_pos c1] at h
      cases e : pNeg fe n ts with
      | none => rw [e] at h; cases h
      | some o =>
        rw [e] at h
        cases o with
        | error p => cases h
        | ok o =>
          cases h
          exact (pNeg_suf hf n _ _ _ e).trans (List.suffix_cons _ _)
    · rw [if_neg c1] at h
      by_cases c2 : sees t [[91]] = true
      · rw [if_pos c2] at h
        cases e : pC (pNeg fe n) ts with
        | none => rw [e] at h; cases h
        | some o =>
          rw [e] at h
          cases o with
          | error p => cases h
          | ok o => exact ((pSign_suf h).trans (pL_suf (pL_suf (pNeg_suf hf n)) _ _ _ e)).trans (List.suffix_cons _ _)
      · rw [if_neg c2] at h
        cases e : fe (t :: ts) with
        | none => rw [e] at h; cases h
        | some o =>
          rw [e] at h
          cases o with
          | error p => cases h
          | ok o => exact (pCmp_suf hf _ _ _ _ h).trans (hf _ _ _ e)
end DL

set_option Elab.async false
set_option linter.all false
set_option maxRecDepth 100000
set_option maxHeartbeats 2000000
namespace DL
open PySem PySem.Spec PyProof.Rows L2
/-! ### a table-driven recognizer, and that it answers as the parser does -/
def sName : List Nat := [110, 97, 109, 101]
def sInteger : List Nat := [105, 110, 116, 101, 103, 101, 114]
def sOdd : List Nat := [111, 100, 100]
def sEnd : List Nat := [101, 110, 100]
def KW : List (List Nat) := [[97, 110, 100], [109, 111, 100], [110, 111, 116], [111, 114], [43], [45], [42], [47, 47], [40], [41], [91], [93], [61], [33, 61], [60], [60, 61], [62], [62, 61]]
def KEYS : List (List Nat) := KW ++ [sName, sInteger, sOdd, sEnd]
def TAB : List ((List Nat × List Nat) × List (List Nat)) := [(([71], [110, 111, 116]), [[110, 111, 116], [71]]), (([71], [91]), [[91], [67], [93]]), (([71], [105, 110, 116, 101, 103, 101, 114]), [[69], [75]]), (([71], [110, 97, 109, 101]), [[69], [75]]), (([71], [45]), [[69], [75]]), (([71], [40]), [[69], [75]]), (([75], [61]), [[61], [69]]), (([75], [33, 61]), [[33, 61], [69]]), (([75], [60]), [[60], [69]]), (([75], [60, 61]), [[60, 61], [69]]), (([75], [62]), [[62], [69]]), (([75], [62, 61]), [[62, 61], [69]]), (([69, 115], [43]), [[43], [84], [69, 115]]), (([69, 115], [45]), [[45], [84], [69, 115]]), (([70, 115], [42]), [[42], [70], [70, 115]]), (([70, 115], [47, 47]), [[47, 47], [70], [70, 115]]), (([70, 115], [109, 111, 100]), [[109, 111, 100], [70], [70, 115]]), (([70], [105, 110, 116, 101, 103, 101, 114]), [[105, 110, 116, 101, 103, 101, 114]]), (([70], [110, 97, 109, 101]), [[110, 97, 109, 101]]), (([70], [45]), [[45], [70]]), (([70], [40]), [[40], [69], [41]]), (([67, 115], [111, 114]), [[111, 114], [74], [67, 115]]), (([74, 115], [97, 110, 100]), [[97, 110, 100], [71], [74, 115]])]
def ALW : List (List Nat × List (List Nat)) := [([67], [[74], [67, 115]]), ([74], [[71], [74, 115]]), ([69], [[84], [69, 115]]), ([84], [[70], [70, 115]])]
def yE : List Nat := [69]
def yT : List Nat := [84]
def yF : List Nat := [70]
def yG : List Nat := [71]
def yK : List Nat := [75]
def yC : List Nat := [67]
def yJ : List Nat := [74]
def yEs : List Nat := [69, 115]
def yFs : List Nat := [70, 115]
def yCs : List Nat := [67, 115]
def yJs : List Nat := [74, 115]
def EPS : List (List Nat) := [yCs, yJs, yEs, yFs]
def alwOf (X : List Nat) : List (List Nat) := ((ALW.find? fun e => decide (e.1 = X)).map (·.2)).getD []
def moreOf (X k : List Nat) : List (List Nat) := ((TAB.find? fun e => decide (e.1 = (X, k))).map (·.2)).getD (alwOf X)
def ky (t : Tkn) : List Nat := if t.k = .sign then t.v else t.k.c
def pk (t : Tkn) : List Nat × Nat := (ky t, t.p)
/-- a pile, the tokens that are left: where it stops -/
def rc : Nat → List (List Nat) → List (List Nat × Nat) → Option (Option Nat)
  | 0, _, _ => none
  | _ + 1, _, [] => some none
  | _ + 1, [], (k, p) :: _ => some (if k = sEnd then none else some p)
  | n + 1, X :: P, (k, p) :: ts => if X = k then rc n P ts else if moreOf X k = [] ∧ X ∉ EPS then some (some p) else rc n (moreOf X k ++ P) ((k, p) :: ts)
def Rc (P : List (List Nat)) (ts : List (List Nat × Nat)) (r : Option Nat) : Prop := ∃ n, rc n P ts = some r
theorem rc_match {k : List Nat} {p : Nat} {P : List (List Nat)} {ts : List (List Nat × Nat)} {r : Option Nat} (h : Rc P ts r) : Rc (k :: P) ((k, p) :: ts) r := by
  obtain ⟨n, h⟩ := h
  exact ⟨n + 1, by rw [rc, if_pos rfl]; exact h⟩
theorem rc_exp {X k : List Nat} {p : Nat} {m P : List (List Nat)} {ts : List (List Nat × Nat)} {r : Option Nat} (hx : X ≠ k) (hm : moreOf X k = m) (hn : m ≠ [] ∨ X ∈ EPS) (h : Rc (m ++ P) ((k, p) :: ts) r) : Rc (X :: P) ((k, p) :: ts) r := by
  obtain ⟨n, h⟩ := h
  subst hm
  exact ⟨n + 1, by rw [rc, if_neg hx, if_neg (fun c => hn.elim (fun z => z c.1) fun z => c.2 z)]; exact h⟩
theorem rc_err {X k : List Nat} {p : Nat} {P : List (List Nat)} {ts : List (List Nat × Nat)} (hx : X ≠ k) (hm : moreOf X k = []) (hn : X ∉ EPS) : Rc (X :: P) ((k, p) :: ts) (some p) := ⟨1, by rw [rc, if_neg hx, if_pos ⟨hm, hn⟩]⟩
/-! ### tokens as they come -/
def Wt (t : Tkn) : Prop := (t.k = .sign → t.v ∈ KW) ∧ (t.k = .integer → isNum t.v = true)
theorem kdc : ∀ a : Kd, a ≠ .sign → a.c ∈ KEYS ∧ a.c ∉ KW ∧ (a.c = sName ↔ a = .name) ∧ (a.c = sInteger ↔ a = .integer) ∧ (a.c = sEnd ↔ a = .fin) ∧ (a.c = sOdd ↔ a = .odd) := by
  intro a h
  cases a
  · exact absurd rfl h
  · decide
  · decide
  · decide
  · decide
theorem ky_in {t : Tkn} (h : Wt t) : ky t ∈ KEYS := by
  unfold ky
  by_cases c : t.k = .sign
  · rw [if_pos c]; exact List.mem_append_left _ (h.1 c)
  · rw [if_neg c]
    exact (kdc _ c).1
theorem sees_ky {t : Tkn} (h : Wt t) {gs : List (List Nat)} (hg : ∀ g ∈ gs, g ∈ KW) : sees t gs = decide (ky t ∈ gs) := by
  unfold sees ky
  by_cases c : t.k = .sign
  · rw [if_pos c]; simp [c]
  · rw [if_neg c]
    have : t.k.c ∉ gs := fun z => (kdc _ c).2.1 (hg _ z)
    simp [c, this]
theorem sign_no {t : Tkn} (h : Wt t) (c : t.k = .sign) {w : List Nat} (hw : w ∉ KW) {k : Kd} (hk : k ≠ .sign) : ky t = w ↔ t.k = k := by
  unfold ky
  rw [if_pos c]
  exact ⟨fun z => absurd (z ▸ h.1 c) hw, fun z => absurd (c.symm.trans z).symm hk⟩
theorem ky_name {t : Tkn} (h : Wt t) : ky t = sName ↔ t.k = .name := by
  by_cases c : t.k = .sign
  · exact sign_no h c (by decide) (by decide)
  · unfold ky; rw [if_neg c]; exact (kdc _ c).2.2.1
theorem ky_int {t : Tkn} (h : Wt t) : ky t = sInteger ↔ t.k = .integer := by
  by_cases c : t.k = .sign
  · exact sign_no h c (by decide) (by decide)
  · unfold ky; rw [if_neg c]; exact (kdc _ c).2.2.2.1
theorem ky_end {t : Tkn} (h : Wt t) : ky t = sEnd ↔ t.k = .fin := by
  by_cases c : t.k = .sign
  · exact sign_no h c (by decide) (by decide)
  · unfold ky; rw [if_neg c]; exact (kdc _ c).2.2.2.2.1
theorem ky_odd {t : Tkn} (h : Wt t) : ky t = sOdd ↔ t.k = .odd := by
  by_cases c : t.k = .sign
  · exact sign_no h c (by decide) (by decide)
  · unfold ky; rw [if_neg c]; exact (kdc _ c).2.2.2.2.2
/-- the recognizer with X ahead does what f does -/
def Sim (f : List Tkn → PR) (X : List Nat) : Prop := ∀ ts, (∀ t ∈ ts, Wt t) →
  (∀ d r, f ts = some (.ok (d, r)) → ∀ P res, Rc P (r.map pk) res → Rc (X :: P) (ts.map pk) res) ∧ ∀ p, f ts = some (.error p) → ∀ P, Rc (X :: P) (ts.map pk) (some p)
def Suf (f : List Tkn → PR) : Prop := ∀ ts d r, f ts = some (.ok (d, r)) → r <:+ ts
theorem wt_suf {ts r : List Tkn} (h : ∀ t ∈ ts, Wt t) (s : r <:+ ts) : ∀ t ∈ r, Wt t := fun t ht => h t (s.subset ht)
theorem mem_ite {k : List Nat} {ops : List (List Nat)} {m : List (List Nat)} : (if k ∈ ops then m else []) = if decide (k ∈ ops) = true then m else [] := by
  by_cases h : k ∈ ops <;> simp [h]
theorem sim_loop {f : List Tkn → PR} {X Xs : List Nat} {ops : List (List Nat)} (sf : Suf f) (hf : Sim f X) (ho : ∀ g ∈ ops, g ∈ KW) (hn : ∀ k ∈ KEYS, Xs ≠ k) (he : Xs ∈ EPS) (hm : ∀ k ∈ KEYS, moreOf Xs k = if k ∈ ops then [k, X, Xs] else []) :
    ∀ m d ts, (∀ t ∈ ts, Wt t) → (∀ d' r, pLoop f ops m d ts = some (.ok (d', r)) → ∀ P res, Rc P (r.map pk) res → Rc (Xs :: P) (ts.map pk) res) ∧ ∀ p, pLoop f ops m d ts = some (.error p) → ∀ P, Rc (Xs :: P) (ts.map pk) (some p)
  | 0, _, _, _ => ⟨fun _ _ h => (by cases h), fun _ h => (by cases h)⟩
  | _ + 1, _, [], _ => ⟨fun _ _ h => (by cases h), fun _ h => (by cases h)⟩
  | m + 1, d, t :: r, hw => by
    have ht := hw t List.mem_cons_self
    have hr : ∀ t ∈ r, Wt t := fun t h => hw t (List.mem_cons_of_mem _ h)
    have hk := ky_in ht
    have hmk := hm _ hk
    by_cases c : sees t ops = true
    · have hin : ky t ∈ ops := by rw [sees_ky ht ho] at c; simpa using c
      rw [if_pos hin] at hmk
      have st : ∀ P res, Rc (X :: Xs :: P) (r.map pk) res → Rc (Xs :: P) ((t :: r).map pk) res := fun P res h => rc_exp (hn _ hk) hmk (.inr he) (rc_match h)
      unfold pLoop
      rw [if_pos c]
      obtain ⟨f1, f2⟩ := hf r hr
      cases h2 : f r with
      | none => exact ⟨fun _ _ h => (by cases h), fun _ h => (by cases h)⟩
      | some o =>
        cases o with
        | error p =>
          refine ⟨fun _ _ h => (by cases h), fun p' h P => ?_⟩
          cases h
          exact st _ _ (f2 p h2 _)
        | ok o =>
          obtain ⟨d2, r2⟩ := o
          obtain ⟨i1, i2⟩ := sim_loop sf hf ho hn he hm m (.tup [.str (S t.v), d, d2]) r2 (wt_suf hr (sf _ _ _ h2))
          exact ⟨fun d' r' h P res hR => st _ _ (f1 d2 r2 h2 _ _ (i1 d' r' h _ _ hR)), fun p h P => st _ _ (f1 d2 r2 h2 _ _ (i2 p h _))⟩
    · have hin : ky t ∉ ops := fun z => c (by rw [sees_ky ht ho]; simpa using z)
      rw [if_neg hin] at hmk
      unfold pLoop
      rw [if_neg c]
      refine ⟨fun d' r' h P res hR => ?_, fun p h => (by cases h)⟩
      cases h
      exact rc_exp (hn _ hk) hmk (.inr he) hR
theorem sim_L {f : List Tkn → PR} {X Xs Y : List Nat} {ops : List (List Nat)} (sf : Suf f) (hf : Sim f X) (ho : ∀ g ∈ ops, g ∈ KW) (hn : ∀ k ∈ KEYS, Xs ≠ k) (he : Xs ∈ EPS) (hm : ∀ k ∈ KEYS, moreOf Xs k = if k ∈ ops then [k, X, Xs] else [])
    (hy : ∀ k ∈ KEYS, Y ≠ k) (hym : ∀ k ∈ KEYS, moreOf Y k = [X, Xs]) (nil : f [] = none) : Sim (pL f ops) Y := fun ts hw => by
  cases ts with
  | nil => unfold pL; rw [nil]; exact ⟨fun _ _ h => (by cases h), fun _ h => (by cases h)⟩
  | cons t r0 =>
  have hk := ky_in (hw t List.mem_cons_self)
  have st : ∀ P res, Rc (X :: Xs :: P) ((t :: r0).map pk) res → Rc (Y :: P) ((t :: r0).map pk) res := fun P res h => rc_exp (m := [X, Xs]) (hy _ hk) (hym _ hk) (.inl (by simp)) h
  obtain ⟨f1, f2⟩ := hf _ hw
  unfold pL
  cases h2 : f (t :: r0) with
  | none => exact ⟨fun _ _ h => (by cases h), fun _ h => (by cases h)⟩
  | some o =>
    cases o with
    | error p =>
      refine ⟨fun _ _ h => (by cases h), fun p' h P => ?_⟩
      cases h
      exact st _ _ (f2 p h2 _)
    | ok o =>
      obtain ⟨d2, r2⟩ := o
      obtain ⟨i1, i2⟩ := sim_loop sf hf ho hn he hm (r2.length + 1) d2 r2 (wt_suf hw (sf _ _ _ h2))
      exact ⟨fun d' r' h P res hR => st _ _ (f1 d2 r2 h2 _ _ (i1 d' r' h _ _ hR)), fun p h P => st _ _ (f1 d2 r2 h2 _ _ (i2 p h _))⟩
theorem sub_kw {gs : List (List Nat)} (h : gs.all (fun g => decide (g ∈ KW)) = true) : ∀ g ∈ gs, g ∈ KW := fun g hg => by
  have := List.all_eq_true.mp h g hg
  simpa using this
theorem keysF : ∀ k ∈ KEYS, yF ≠ k ∧ moreOf yF k = if k = sInteger then [sInteger] else if k = sName then [sName] else if k = [45] then [[45], yF] else if k = [40] then [[40], yE, [41]] else [] := by decide
theorem keysG : ∀ k ∈ KEYS, yG ≠ k ∧ moreOf yG k = if k = sNot then [sNot, yG] else if k = [91] then [[91], yC, [93]] else if k ∈ [sInteger, sName, [45], [40]] then [yE, yK] else [] := by decide
theorem keysK : ∀ k ∈ KEYS, yK ≠ k ∧ moreOf yK k = if k ∈ CMPS then [k, yE] else [] := by decide
theorem pT_L {f : List Tkn → PR} : pT f = pL f MUL := funext fun ts => rfl
theorem pE_L {f : List Tkn → PR} : pE f = pL (pL f MUL) ADD := funext fun ts => rfl
theorem pL_nil {f : List Tkn → PR} {ops : List (List Nat)} (h : f [] = none) : pL f ops [] = none := by unfold pL; rw [h]
theorem pFac_nil : ∀ n, pFac n [] = none
  | 0 => rfl
  | _ + 1 => rfl
theorem pNeg_nil {fe : List Tkn → PR} : ∀ n, pNeg fe n [] = none
  | 0 => rfl
  | _ + 1 => rfl
theorem pSign_s {gs : List (List Nat)} {d : D} {t : Tkn} {r : List Tkn} : pSign gs d (t :: r) = if sees t gs then some (.ok (d, r)) else some (.error t.p) := rfl
theorem sim_sign {ts : List Tkn} {g : List Nat} {d : D} (hg : g ∈ KW) (hw : ∀ t ∈ ts, Wt t) : (∀ d' r, pSign [g] d ts = some (.ok (d', r)) → ∀ P res, Rc P (r.map pk) res → Rc (g :: P) (ts.map pk) res) ∧ ∀ p, pSign [g] d ts = some (.error p) → (∀ k, moreOf g k = []) → g ∉ EPS → ∀ P, Rc (g :: P) (ts.map pk) (some p) := by
  cases ts with
  | nil => exact ⟨fun _ _ h => (by cases h), fun _ h => (by cases h)⟩
  | cons t r =>
    have ht := hw t List.mem_cons_self
    have hs := sees_ky ht (gs := [g]) (fun x hx => by rw [List.mem_singleton] at hx; rw [hx]; exact hg)
    rw [pSign_s]
    by_cases c : sees t [g] = true
    · rw [if_pos c]
      have e : ky t = g := by rw [hs] at c; simpa using c
      refine ⟨fun d' r' h P res hR => ?_, fun p h => (by cases h)⟩
      cases h
      show Rc (g :: P) ((ky t, t.p) :: r.map pk) res
      rw [e]
      exact rc_match hR
    · rw [if_neg c]
      have e : ky t ≠ g := fun z => c (by rw [hs, z]; simp)
      refine ⟨fun _ _ h => (by cases h), fun p h hm he P => ?_⟩
      cases h
      exact rc_err (Ne.symm e) (hm _) he
theorem more_none {g : List Nat} (h1 : (TAB.all fun e => decide (e.1.1 ≠ g)) = true) (h2 : alwOf g = []) : ∀ k, moreOf g k = [] := fun k => by
  unfold moreOf
  have : (TAB.find? fun e => decide (e.1 = (g, k))) = none := by
    rw [List.find?_eq_none]
    intro e he hc
    have := List.all_eq_true.mp h1 e he
    have hc : e.1 = (g, k) := by simpa using hc
    rw [hc] at this
    simp at this
  rw [this]
  exact h2
theorem sim_E {n : Nat} (h : Sim (pFac n) yF) : Sim (pE (pFac n)) yE := by
  rw [pE_L]
  refine sim_L (X := yT) (Xs := yEs) (pL_suf (pFac_suf n)) (sim_L (X := yF) (Xs := yFs) (pFac_suf n) h (sub_kw (by decide)) (by decide) (by decide) (by decide) (by decide) (by decide) (pFac_nil n)) (sub_kw (by decide)) (by decide) (by decide) (by decide) (by decide) (by decide) (pL_nil (pFac_nil n))
theorem sim_fac : ∀ n, Sim (pFac n) yF
  | 0 => fun ts _ => ⟨fun _ _ h => (by cases h), fun _ h => (by cases h)⟩
  | n + 1 => fun ts hw => by
    cases ts with
    | nil => exact ⟨fun _ _ h => (by cases h), fun _ h => (by cases h)⟩
    | cons t r =>
    have ht := hw t List.mem_cons_self
    have hr : ∀ t ∈ r, Wt t := fun t h => hw t (List.mem_cons_of_mem _ h)
    obtain ⟨hy, hm⟩ := keysF _ (ky_in ht)
    have st : ∀ m, moreOf yF (ky t) = m → m ≠ [] → ∀ P res, Rc (m ++ P) ((t :: r).map pk) res → Rc (yF :: P) ((t :: r).map pk) res := fun m e hn P res h => rc_exp hy e (.inl hn) h
    have s1 := sees_ky ht (gs := [[45]]) (sub_kw (by decide))
    have s2 := sees_ky ht (gs := [[40]]) (sub_kw (by decide))
    unfold pFac
    by_cases c1 : sees t [[45]] = true
    · rw [if_pos c1]
      have e : ky t = [45] := by rw [s1] at c1; simpa using c1
      have st1 : ∀ P res, Rc (yF :: P) (r.map pk) res → Rc (yF :: P) ((t :: r).map pk) res := fun P res h => by
        refine st _ (by rw [e]; decide) (by simp : [[45], yF] ≠ []) P res ?_
        show Rc ([45] :: yF :: P) ((ky t, t.p) :: r.map pk) res
        rw [e]
        exact rc_match h
      obtain ⟨f1, f2⟩ := sim_fac n r hr
      cases h2 : pFac n r with
      | none => exact ⟨fun _ _ h => (by cases h), fun _ h => (by cases h)⟩
      | some o =>
        cases o with
        | error p =>
          refine ⟨fun _ _ h => (by cases h), fun p' h P => ?_⟩
          cases h
          exact st1 _ _ (f2 p h2 _)
        | ok o =>
          obtain ⟨d2, r2⟩ := o
          refine ⟨fun d' r' h P res hR => ?_, fun p h => (by cases h)⟩
          cases h
          exact st1 _ _ (f1 d2 _ h2 _ _ hR)
    · rw [if_neg c1]
      by_cases c2 : sees t [[40]] = true
      · rw [if_pos c2]
        have e : ky t = [40] := by rw [s2] at c2; simpa using c2
        have st1 : ∀ P res, Rc (yE :: [41] :: P) (r.map pk) res → Rc (yF :: P) ((t :: r).map pk) res := fun P res h => by
          refine st _ (by rw [e]; decide) (by simp : [[40], yE, [41]] ≠ []) P res ?_
          show Rc ([40] :: yE :: [41] :: P) ((ky t, t.p) :: r.map pk) res
          rw [e]
          exact rc_match h
        obtain ⟨f1, f2⟩ := sim_E (sim_fac n) r hr
        cases h2 : pE (pFac n) r with
        | none => exact ⟨fun _ _ h => (by cases h), fun _ h => (by cases h)⟩
        | some o =>
          cases o with
          | error p =>
            refine ⟨fun _ _ h => (by cases h), fun p' h P => ?_⟩
            cases h
            exact st1 _ _ (f2 p h2 _)
          | ok o =>
            obtain ⟨d2, r2⟩ := o
            obtain ⟨g1, g2⟩ := sim_sign (g := [41]) (d := d2) (by decide) (wt_suf hr (pE_suf (pFac_suf n) _ _ _ h2))
            exact ⟨fun d' r' h P res hR => st1 _ _ (f1 d2 r2 h2 _ _ (g1 d' r' h _ _ hR)), fun p h P => st1 _ _ (f1 d2 r2 h2 _ _ (g2 p h (more_none (by decide) (by decide)) (by decide) _))⟩
      · rw [if_neg c2]
        unfold pLeaf
        by_cases c3 : t.k = .integer
        · rw [if_pos c3]
          have e := (ky_int ht).mpr c3
          have st1 : ∀ P res, Rc P (r.map pk) res → Rc (yF :: P) ((t :: r).map pk) res := fun P res h => by
            refine st _ (by rw [e]; decide) (by simp : [sInteger] ≠ []) P res ?_
            show Rc (sInteger :: P) ((ky t, t.p) :: r.map pk) res
            rw [e]
            exact rc_match h
          cases h4 : PySem.intText? (S t.v) with
          | none => exact ⟨fun _ _ h => (by cases h), fun _ h => (by cases h)⟩
          | some z =>
            by_cases h5 : t.v.length ≤ 640
            · simp only [if_pos h5]
              refine ⟨fun d' r' h P res hR => ?_, fun p h => (by cases h)⟩
              cases h
              exact st1 _ _ hR
            · simp only [if_neg h5]
              exact ⟨fun _ _ h => (by cases h), fun _ h => (by cases h)⟩
        · rw [if_neg c3]
          by_cases c4 : t.k = .name
          · rw [if_pos c4]
            have e := (ky_name ht).mpr c4
            refine ⟨fun d' r' h P res hR => ?_, fun p h => (by cases h)⟩
            cases h
            refine st _ (by rw [e]; decide) (by simp : [sName] ≠ []) P res ?_
            show Rc (sName :: P) ((ky t, t.p) :: r.map pk) res
            rw [e]
            exact rc_match hR
          · rw [if_neg c4]
            refine ⟨fun _ _ h => (by cases h), fun p h P => ?_⟩
            cases h
            refine rc_err hy ?_ (by decide)
            rw [hm, if_neg (fun z => c3 ((ky_int ht).mp z)), if_neg (fun z => c4 ((ky_name ht).mp z)), if_neg (fun z => c1 (by rw [s1, z]; rfl)), if_neg (fun z => c2 (by rw [s2, z]; rfl))]
/-- what begins no expression -/
theorem fac_first {n : Nat} {t : Tkn} {r : List Tkn} (ht : Wt t) (h : ky t ∉ [sInteger, sName, [45], [40]]) {x : Except Nat (D × List Tkn)} (e : pFac n (t :: r) = some x) : x = .error t.p := by
  cases n with
  | zero => cases e
  | succ n =>
    have s1 := sees_ky ht (gs := [[45]]) (sub_kw (by decide))
    have s2 := sees_ky ht (gs := [[40]]) (sub_kw (by decide))
    simp only [List.mem_cons, List.not_mem_nil, or_false, not_or] at h
    have c1 : ¬ sees t [[45]] = true := fun z => by rw [s1] at z; exact h.2.2.1 (by simpa using z)
    have c2 : ¬ sees t [[40]] = true := fun z => by rw [s2] at z; exact h.2.2.2 (by simpa using z)
    unfold pFac at e
    rw [if_neg c1, if_neg c2] at e
    unfold pLeaf at e
    rw [if_neg (fun z => h.1 ((ky_int ht).mpr z)), if_neg (fun z => h.2.1 ((ky_name ht).mpr z))] at e
    cases e
    rfl
theorem pL_first {f : List Tkn → PR} {ops : List (List Nat)} {p : Nat} {ts : List Tkn} (h : ∀ x, f ts = some x → x = .error p) : ∀ x, pL f ops ts = some x → x = .error p := fun x e => by
  unfold pL at e
  cases h2 : f ts with
  | none => rw [h2] at e; cases e
  | some o =>
    rw [h2, h o h2] at e
    cases e
    rfl
theorem e_first {n : Nat} {t : Tkn} {r : List Tkn} (ht : Wt t) (h : ky t ∉ [sInteger, sName, [45], [40]]) : ∀ x, pE (pFac n) (t :: r) = some x → x = .error t.p := by
  rw [pE_L]
  exact pL_first (pL_first fun x e => fac_first ht h e)
theorem sim_cmp {fe : List Tkn → PR} (hf : Sim fe yE) : ∀ d ts, (∀ t ∈ ts, Wt t) → (∀ d' r, pCmp fe d ts = some (.ok (d', r)) → ∀ P res, Rc P (r.map pk) res → Rc (yK :: P) (ts.map pk) res) ∧ ∀ p, pCmp fe d ts = some (.error p) → ∀ P, Rc (yK :: P) (ts.map pk) (some p)
  | _, [], _ => ⟨fun _ _ h => (by cases h), fun _ h => (by cases h)⟩
  | d, t :: r, hw => by
    have ht := hw t List.mem_cons_self
    have hr : ∀ t ∈ r, Wt t := fun t h => hw t (List.mem_cons_of_mem _ h)
    obtain ⟨hy, hm⟩ := keysK _ (ky_in ht)
    have s1 := sees_ky ht (gs := CMPS) (sub_kw (by decide))
    rw [pCmp_s]
    by_cases c : sees t CMPS = true
    · rw [if_pos c]
      have hin : ky t ∈ CMPS := by rw [s1] at c; simpa using c
      rw [if_pos hin] at hm
      have st : ∀ P res, Rc (yE :: P) (r.map pk) res → Rc (yK :: P) ((t :: r).map pk) res := fun P res h => rc_exp hy hm (.inl (by simp)) (rc_match h)
      obtain ⟨f1, f2⟩ := hf r hr
      cases h2 : fe r with
      | none => exact ⟨fun _ _ h => (by cases h), fun _ h => (by cases h)⟩
      | some o =>
        cases o with
        | error p =>
          refine ⟨fun _ _ h => (by cases h), fun p' h P => ?_⟩
          cases h
          exact st _ _ (f2 p h2 _)
        | ok o =>
          obtain ⟨d2, r2⟩ := o
          refine ⟨fun d' r' h P res hR => ?_, fun p h => (by cases h)⟩
          cases h
          exact st _ _ (f1 d2 _ h2 _ _ hR)
    · rw [if_neg c]
      have hin : ky t ∉ CMPS := fun z => c (by rw [s1]; simpa using z)
      rw [if_neg hin] at hm
      refine ⟨fun _ _ h => (by cases h), fun p h P => ?_⟩
      cases h
      exact rc_err hy hm (by decide)
theorem sim_C {fe : List Tkn → PR} {n : Nat} (sf : Suf fe) (h : Sim (pNeg fe n) yG) : Sim (pC (pNeg fe n)) yC :=
  sim_L (X := yJ) (Xs := yCs) (pL_suf (pNeg_suf sf n)) (sim_L (X := yG) (Xs := yJs) (pNeg_suf sf n) h (sub_kw (by decide)) (by decide) (by decide) (by decide) (by decide) (by decide) (pNeg_nil n)) (sub_kw (by decide)) (by decide) (by decide) (by decide) (by decide) (by decide) (pL_nil (pNeg_nil n))
theorem sim_neg {fe : List Tkn → PR} (sf : Suf fe) (hf : Sim fe yE) (h1 : ∀ t r, Wt t → ky t ∉ [sInteger, sName, [45], [40]] → ∀ x, fe (t :: r) = some x → x = .error t.p) : ∀ n, Sim (pNeg fe n) yG
  | 0 => fun ts _ => ⟨fun _ _ h => (by cases h), fun _ h => (by cases h)⟩
  | n + 1 => fun ts hw => by
    cases ts with
    | nil => exact ⟨fun _ _ h => (by cases h), fun _ h => (by cases h)⟩
    | cons t r =>
    have ht := hw t List.mem_cons_self
    have hr : ∀ t ∈ r, Wt t := fun t h => hw t (List.mem_cons_of_mem _ h)
    obtain ⟨hy, hm⟩ := keysG _ (ky_in ht)
    have st : ∀ m, moreOf yG (ky t) = m → m ≠ [] → ∀ P res, Rc (m ++ P) ((t :: r).map pk) res → Rc (yG :: P) ((t :: r).map pk) res := fun m e hn P res h => rc_exp hy e (.inl hn) h
    have s1 := sees_ky ht (gs := [sNot]) (sub_kw (by decide))
    have s2 := sees_ky ht (gs := [[91]]) (sub_kw (by decide))
    rw [pNeg_s]
    by_cases c1 : sees t [sNot] = true
    · rw [if_pos c1]
      have e : ky t = sNot := by rw [s1] at c1; simpa using c1
      have st1 : ∀ P res, Rc (yG :: P) (r.map pk) res → Rc (yG :: P) ((t :: r).map pk) res := fun P res h => by
        refine st _ (by rw [e]; decide) (by simp : [sNot, yG] ≠ []) P res ?_
        show Rc (sNot :: yG :: P) ((ky t, t.p) :: r.map pk) res
        rw [e]
        exact rc_match h
      obtain ⟨f1, f2⟩ := sim_neg sf hf h1 n r hr
      cases h2 : pNeg fe n r with
      | none => exact ⟨fun _ _ h => (by cases h), fun _ h => (by cases h)⟩
      | some o =>
        cases o with
        | error p =>
          refine ⟨fun _ _ h => (by cases h), fun p' h P => ?_⟩
          cases h
          exact st1 _ _ (f2 p h2 _)
        | ok o =>
          obtain ⟨d2, r2⟩ := o
          refine ⟨fun d' r' h P res hR => ?_, fun p h => (by cases h)⟩
          cases h
          exact st1 _ _ (f1 d2 _ h2 _ _ hR)
    · rw [if_neg c1]
      by_cases c2 : sees t [[91]] = true
      · rw [if_pos c2]
        have e : ky t = [91] := by rw [s2] at c2; simpa using c2
        have st1 : ∀ P res, Rc (yC :: [93] :: P) (r.map pk) res → Rc (yG :: P) ((t :: r).map pk) res := fun P res h => by
          refine st _ (by rw [e]; decide) (by simp : [[91], yC, [93]] ≠ []) P res ?_
          show Rc ([91] :: yC :: [93] :: P) ((ky t, t.p) :: r.map pk) res
          rw [e]
          exact rc_match h
        obtain ⟨f1, f2⟩ := sim_C sf (sim_neg sf hf h1 n) r hr
        cases h2 : pC (pNeg fe n) r with
        | none => exact ⟨fun _ _ h => (by cases h), fun _ h => (by cases h)⟩
        | some o =>
          cases o with
          | error p =>
            refine ⟨fun _ _ h => (by cases h), fun p' h P => ?_⟩
            cases h
            exact st1 _ _ (f2 p h2 _)
          | ok o =>
            obtain ⟨d2, r2⟩ := o
            obtain ⟨g1, g2⟩ := sim_sign (g := [93]) (d := d2) (by decide) (wt_suf hr (pL_suf (pL_suf (pNeg_suf sf n)) _ _ _ h2))
            exact ⟨fun d' r' h P res hR => st1 _ _ (f1 d2 r2 h2 _ _ (g1 d' r' h _ _ hR)), fun p h P => st1 _ _ (f1 d2 r2 h2 _ _ (g2 p h (more_none (by decide) (by decide)) (by decide) _))⟩
      · rw [if_neg c2]
        by_cases c3 : ky t ∈ [sInteger, sName, [45], [40]]
        · have hm2 : moreOf yG (ky t) = [yE, yK] := by
            rw [hm, if_neg (fun z => c1 (by rw [s1, z]; rfl)), if_neg (fun z => c2 (by rw [s2, z]; rfl)), if_pos c3]
          have st1 : ∀ P res, Rc (yE :: yK :: P) ((t :: r).map pk) res → Rc (yG :: P) ((t :: r).map pk) res := fun P res h => st _ hm2 (by simp) P res h
          obtain ⟨f1, f2⟩ := hf (t :: r) hw
          cases h2 : fe (t :: r) with
          | none => exact ⟨fun _ _ h => (by cases h), fun _ h => (by cases h)⟩
          | some o =>
            cases o with
            | error p =>
              refine ⟨fun _ _ h => (by cases h), fun p' h P => ?_⟩
              cases h
              exact st1 _ _ (f2 p h2 _)
            | ok o =>
              obtain ⟨d2, r2⟩ := o
              obtain ⟨g1, g2⟩ := sim_cmp hf d2 r2 (wt_suf hw (sf _ _ _ h2))
              exact ⟨fun d' r' h P res hR => st1 _ _ (f1 d2 r2 h2 _ _ (g1 d' r' h _ _ hR)), fun p h P => st1 _ _ (f1 d2 r2 h2 _ _ (g2 p h _))⟩
        · have hm2 : moreOf yG (ky t) = [] := by
            rw [hm, if_neg (fun z => c1 (by rw [s1, z]; rfl)), if_neg (fun z => c2 (by rw [s2, z]; rfl)), if_neg c3]
          cases h2 : fe (t :: r) with
          | none => exact ⟨fun _ _ h => (by cases h), fun _ h => (by cases h)⟩
          | some o =>
            have := h1 t r ht c3 o h2
            subst this
            refine ⟨fun _ _ h => (by cases h), fun p h P => ?_⟩
            cases h
            exact rc_err hy hm2 (by decide)
end DL

set_option Elab.async false
set_option linter.all false
set_option maxRecDepth 100000
set_option maxHeartbeats 2000000
namespace DL
open PySem PySem.Spec PyProof.Rows L2
/-! ### the parser is total on tokens that end -/
def Stop (t : Tkn) : Prop := t.k = .odd ∨ t.k = .fin
def Good (ts : List Tkn) : Prop := (∀ t ∈ ts, Wt t) ∧ ∃ a t, ts = a ++ [t] ∧ Stop t
theorem Good.tail {t : Tkn} {r : List Tkn} (h : Good (t :: r)) (hn : ¬ Stop t) : Good r := by
  obtain ⟨hw, a, u, e, hs⟩ := h
  refine ⟨fun x hx => hw x (List.mem_cons_of_mem _ hx), ?_⟩
  cases a with
  | nil => simp at e; rw [e.1] at hn; exact absurd hs hn
  | cons b a => simp at e; exact ⟨a, u, e.2, hs⟩
theorem Good.ne {ts : List Tkn} (h : Good ts) : ∃ t r, ts = t :: r := by
  obtain ⟨_, a, u, rfl, _⟩ := h
  cases a with
  | nil => exact ⟨_, _, rfl⟩
  | cons b a => exact ⟨_, _, rfl⟩
theorem sees_sign {t : Tkn} {gs : List (List Nat)} (h : sees t gs = true) : t.k = .sign ∧ t.v ∈ gs := by
  unfold sees at h
  simpa using h
theorem sees_go {t : Tkn} {gs : List (List Nat)} (h : sees t gs = true) : ¬ Stop t := fun z => by
  have := (sees_sign h).1
  rcases z with z | z <;> rw [this] at z <;> cases z
def PLd (d : D) : Prop := (∃ xs, d = .tup xs) ∧ ∀ m, d.lo m = true
theorem pld3 {a : Str} {d e : D} (h1 : PLd d) (h2 : PLd e) : PLd (.tup [.str a, d, e]) := ⟨⟨_, rfl⟩, fun m => by simp [D.lo, loL, h1.2 m, h2.2 m]⟩
theorem pld2 {a : Str} {d : D} (h1 : PLd d) : PLd (.tup [.str a, d]) := ⟨⟨_, rfl⟩, fun m => by simp [D.lo, loL, h1.2 m]⟩
def TotA (f : List Tkn → PR) (ts : List Tkn) : Prop := (∃ d r, f ts = some (.ok (d, r)) ∧ Good r ∧ r <:+ ts ∧ PLd d) ∨ ∃ p, f ts = some (.error p)
def Tot (f : List Tkn → PR) (B : List Tkn → Prop) : Prop := ∀ ts, Good ts → B ts → TotA f ts
def Cl (B : List Tkn → Prop) : Prop := ∀ ts ts', ts' <:+ ts → B ts → B ts'
theorem tot_loop {f : List Tkn → PR} {B : List Tkn → Prop} {ops : List (List Nat)} (hB : Cl B) (hf : Tot f B) : ∀ m d ts, PLd d → Good ts → B ts → ts.length < m → TotA (pLoop f ops m d) ts
  | 0, _, _, _, _, _, h => absurd h (Nat.not_lt_zero _)
  | m + 1, d, ts, hd, hg, hb, hl => by
    obtain ⟨t, r, rfl⟩ := hg.ne
    unfold TotA
    rw [show pLoop f ops (m + 1) d (t :: r) = if sees t ops then (match f r with
      | some (.ok (d2, r2)) => pLoop f ops m (.tup [.str (S t.v), d, d2]) r2
      | x => x) else some (.ok (d, t :: r)) from rfl]
    by_cases c : sees t ops = true
    · rw [if_pos c]
      have gr := hg.tail (sees_go c)
      have sr : r <:+ t :: r := List.suffix_cons _ _
      rcases hf r gr (hB _ _ sr hb) with ⟨d2, r2, h2, g2, s2, p2⟩ | ⟨p, h2⟩
      · rw [h2]
        have l2 := s2.length_le
        simp only [List.length_cons] at hl
        rcases tot_loop (ops := ops) hB hf m (.tup [.str (S t.v), d, d2]) r2 (pld3 hd p2) g2 (hB _ _ (s2.trans sr) hb) (by omega) with ⟨d3, r3, h3, g3, s3, p3⟩ | ⟨p, h3⟩
        · exact .inl ⟨d3, r3, h3, g3, (s3.trans s2).trans sr, p3⟩
        · exact .inr ⟨p, h3⟩
      · rw [h2]
        exact .inr ⟨p, rfl⟩
    · rw [if_neg c]
      exact .inl ⟨d, _, rfl, hg, List.suffix_refl _, hd⟩
theorem tot_L {f : List Tkn → PR} {B : List Tkn → Prop} {ops : List (List Nat)} (hB : Cl B) (hf : Tot f B) : Tot (pL f ops) B := fun ts hg hb => by
  unfold TotA pL
  rcases hf ts hg hb with ⟨d2, r2, h2, g2, s2, p2⟩ | ⟨p, h2⟩
  · rw [h2]
    rcases tot_loop (ops := ops) hB hf (r2.length + 1) d2 r2 p2 g2 (hB _ _ s2 hb) (Nat.lt_succ_self _) with ⟨d3, r3, h3, g3, s3, p3⟩ | ⟨p, h3⟩
    · exact .inl ⟨d3, r3, h3, g3, s3.trans s2, p3⟩
    · exact .inr ⟨p, h3⟩
  · rw [h2]
    exact .inr ⟨p, rfl⟩
theorem tot_sign {gs : List (List Nat)} {d : D} (hd : PLd d) : ∀ ts, Good ts → TotA (pSign gs d) ts := fun ts hg => by
  obtain ⟨t, r, rfl⟩ := hg.ne
  unfold TotA
  rw [pSign_s]
  by_cases c : sees t gs = true
  · rw [if_pos c]
    exact .inl ⟨d, r, rfl, hg.tail (sees_go c), List.suffix_cons _ _, hd⟩
  · rw [if_neg c]
    exact .inr ⟨_, rfl⟩
def opn (t : Tkn) : Bool := sees t [[45], [40], [91], sNot]
def nQ (op : Tkn → Bool) (ts : List Tkn) : Nat := (ts.filter op).length
theorem nQ_suf {op : Tkn → Bool} {ts ts' : List Tkn} (h : ts' <:+ ts) : nQ op ts' ≤ nQ op ts := (h.sublist.filter _).length_le
theorem nQ_cons {op : Tkn → Bool} {t : Tkn} {r : List Tkn} (h : op t = true) : nQ op (t :: r) = nQ op r + 1 := by
  unfold nQ
  rw [List.filter_cons_of_pos h]; rfl
def nO (ts : List Tkn) : Nat := (ts.filter opn).length
theorem nO_suf {ts ts' : List Tkn} (h : ts' <:+ ts) : nO ts' ≤ nO ts := nQ_suf h
theorem nO_cons {t : Tkn} {r : List Tkn} (h : opn t = true) : nO (t :: r) = nO r + 1 := nQ_cons h
/-- the tokens that open, by a test of one's own -/
structure OpE (op : Tkn → Bool) : Prop where
  neg : ∀ t, sees t [[45]] = true → op t = true
  par : ∀ t, sees t [[40]] = true → op t = true
structure OpC (op : Tkn → Bool) : Prop where
  not : ∀ t, sees t [sNot] = true → op t = true
  bra : ∀ t, sees t [[91]] = true → op t = true
theorem opn_of {t : Tkn} {g : List Nat} (h : sees t [g] = true) (hg : g ∈ [[45], [40], [91], sNot]) : opn t = true := by
  obtain ⟨h1, h2⟩ := sees_sign h
  rw [List.mem_singleton] at h2
  unfold opn sees
  rw [h1, h2]
  simpa using hg
def nB (op : Tkn → Bool) (n : Nat) (ts : List Tkn) : Prop := nQ op ts < n
theorem nB_cl {op : Tkn → Bool} {n : Nat} : Cl (nB op n) := fun _ _ s h => Nat.lt_of_le_of_lt (nQ_suf s) h
theorem tot_E {op : Tkn → Bool} {n : Nat} (h : Tot (pFac n) (nB op n)) : Tot (pE (pFac n)) (nB op n) := by
  rw [pE_L]
  exact tot_L nB_cl (tot_L nB_cl h)
theorem int_num {v : List Nat} (h : isNum v = true) : ∃ z, PySem.intText? (S v) = some z ∧ v.length ≤ 30 := by
  unfold isNum at h
  simp only [Bool.and_eq_true, decide_eq_true_eq] at h
  obtain ⟨⟨⟨h1, h2⟩, h3⟩, _⟩ := h
  refine ⟨_, SX.int_S (a := v) ?_ (by intro z; rw [z] at h1; exact absurd h1 (by decide)) (by omega), h2⟩
  rw [List.all_eq_true] at h3 ⊢
  intro c hc
  have hf : c ∈ FIG := by simpa using h3 c hc
  have : ∀ x ∈ FIG, (decide (48 ≤ x) && decide (x ≤ 57)) = true := by decide
  exact this c hf
theorem tot_fac {op : Tkn → Bool} (ho : OpE op) : ∀ n, Tot (pFac n) (nB op n)
  | 0 => fun ts _ h => absurd h (Nat.not_lt_zero _)
  | n + 1 => fun ts hg hb => by
    obtain ⟨t, r, rfl⟩ := hg.ne
    have hb : nQ op (t :: r) < n + 1 := hb
    have sr : r <:+ t :: r := List.suffix_cons _ _
    unfold TotA
    unfold pFac
    by_cases c1 : sees t [[45]] = true
    · rw [if_pos c1]
      rw [nQ_cons (ho.neg t c1)] at hb
      rcases tot_fac ho n r (hg.tail (sees_go c1)) (show nQ op r < n by omega) with ⟨d2, r2, h2, g2, s2, p2⟩ | ⟨p, h2⟩
      · rw [h2]
        exact .inl ⟨_, _, rfl, g2, s2.trans sr, pld2 p2⟩
      · rw [h2]
        exact .inr ⟨p, rfl⟩
    · rw [if_neg c1]
      by_cases c2 : sees t [[40]] = true
      · rw [if_pos c2]
        rw [nQ_cons (ho.par t c2)] at hb
        rcases tot_E (tot_fac ho n) r (hg.tail (sees_go c2)) (show nQ op r < n by omega) with ⟨d2, r2, h2, g2, s2, p2⟩ | ⟨p, h2⟩
        · rw [h2]
          rcases tot_sign (gs := [[41]]) p2 r2 g2 with ⟨d3, r3, h3, g3, s3, p3⟩ | ⟨p, h3⟩
          · exact .inl ⟨_, _, h3, g3, (s3.trans s2).trans sr, p3⟩
          · exact .inr ⟨p, h3⟩
        · rw [h2]
          exact .inr ⟨p, rfl⟩
      · rw [if_neg c2]
        unfold pLeaf
        have hw := hg.1 t List.mem_cons_self
        by_cases c3 : t.k = .integer
        · rw [if_pos c3]
          obtain ⟨z, hz, hl⟩ := int_num (hw.2 c3)
          rw [hz]
          simp only [if_pos (show t.v.length ≤ 640 by omega)]
          exact .inl ⟨_, _, rfl, hg.tail (fun z => by rcases z with z | z <;> rw [c3] at z <;> cases z), sr, ⟨_, rfl⟩, fun m => rfl⟩
        · rw [if_neg c3]
          by_cases c4 : t.k = .name
          · rw [if_pos c4]
            exact .inl ⟨_, _, rfl, hg.tail (fun z => by rcases z with z | z <;> rw [c4] at z <;> cases z), sr, ⟨_, rfl⟩, fun m => rfl⟩
          · rw [if_neg c4]
            exact .inr ⟨_, rfl⟩
theorem tot_cmp {fe : List Tkn → PR} {B : List Tkn → Prop} (hB : Cl B) (hf : Tot fe B) {d : D} (hd : PLd d) : ∀ ts, Good ts → B ts → TotA (pCmp fe d) ts := fun ts hg hb => by
  obtain ⟨t, r, rfl⟩ := hg.ne
  have sr : r <:+ t :: r := List.suffix_cons _ _
  unfold TotA
  rw [pCmp_s]
  by_cases c : sees t CMPS = true
  · rw [if_pos c]
    rcases hf r (hg.tail (sees_go c)) (hB _ _ sr hb) with ⟨d2, r2, h2, g2, s2, p2⟩ | ⟨p, h2⟩
    · rw [h2]
      exact .inl ⟨_, _, rfl, g2, s2.trans sr, pld3 hd p2⟩
    · rw [h2]
      exact .inr ⟨p, rfl⟩
  · rw [if_neg c]
    exact .inr ⟨_, rfl⟩
def nBB (op : Tkn → Bool) (B : List Tkn → Prop) (n : Nat) (ts : List Tkn) : Prop := B ts ∧ nQ op ts < n
theorem nBB_cl {op : Tkn → Bool} {B : List Tkn → Prop} (hB : Cl B) {n : Nat} : Cl (nBB op B n) := fun _ _ s h => ⟨hB _ _ s h.1, Nat.lt_of_le_of_lt (nQ_suf s) h.2⟩
theorem tot_C {op : Tkn → Bool} {fe : List Tkn → PR} {B : List Tkn → Prop} (hB : Cl B) {n : Nat} (h : Tot (pNeg fe n) (nBB op B n)) : Tot (pC (pNeg fe n)) (nBB op B n) := tot_L (nBB_cl hB) (tot_L (nBB_cl hB) h)
theorem tot_neg {op : Tkn → Bool} (ho : OpC op) {fe : List Tkn → PR} {B : List Tkn → Prop} (hB : Cl B) (hf : Tot fe B) : ∀ n, Tot (pNeg fe n) (nBB op B n)
  | 0 => fun ts _ h => absurd h.2 (Nat.not_lt_zero _)
  | n + 1 => fun ts hg hb => by
    obtain ⟨t, r, rfl⟩ := hg.ne
    obtain ⟨hb1, hb⟩ := hb
    have sr : r <:+ t :: r := List.suffix_cons _ _
    unfold TotA
    rw [pNeg_s]
    by_cases c1 : sees t [sNot] = true
    · rw [if_pos c1]
      rw [nQ_cons (ho.not t c1)] at hb
      rcases tot_neg ho hB hf n r (hg.tail (sees_go c1)) ⟨hB _ _ sr hb1, by omega⟩ with ⟨d2, r2, h2, g2, s2, p2⟩ | ⟨p, h2⟩
      · rw [h2]
        exact .inl ⟨_, _, rfl, g2, s2.trans sr, pld2 p2⟩
      · rw [h2]
        exact .inr ⟨p, rfl⟩
    · rw [if_neg c1]
      by_cases c2 : sees t [[91]] = true
      · rw [if_pos c2]
        rw [nQ_cons (ho.bra t c2)] at hb
        rcases tot_C hB (tot_neg ho hB hf n) r (hg.tail (sees_go c2)) ⟨hB _ _ sr hb1, by omega⟩ with ⟨d2, r2, h2, g2, s2, p2⟩ | ⟨p, h2⟩
        · rw [h2]
          rcases tot_sign (gs := [[93]]) p2 r2 g2 with ⟨d3, r3, h3, g3, s3, p3⟩ | ⟨p, h3⟩
          · exact .inl ⟨_, _, h3, g3, (s3.trans s2).trans sr, p3⟩
          · exact .inr ⟨p, h3⟩
        · rw [h2]
          exact .inr ⟨p, rfl⟩
      · rw [if_neg c2]
        rcases hf (t :: r) hg hb1 with ⟨d2, r2, h2, g2, s2, p2⟩ | ⟨p, h2⟩
        · rw [h2]
          rcases tot_cmp hB hf p2 r2 g2 (hB _ _ s2 hb1) with ⟨d3, r3, h3, g3, s3, p3⟩ | ⟨p, h3⟩
          · exact .inl ⟨_, _, h3, g3, s3.trans s2, p3⟩
          · exact .inr ⟨p, h3⟩
        · rw [h2]
          exact .inr ⟨p, rfl⟩
/-! ### the tokens of a text, all of them -/
def ftk : Nat → List Nat → Nat → List Tkn
  | 0, _, _ => []
  | _ + 1, [], _ => []
  | n + 1, c :: r, s => if c = 32 then ftk n r (s + 1) else (tokA (c :: r) s).1 :: ftk n ((c :: r).drop (tokA (c :: r) s).2) (s + (tokA (c :: r) s).2)
def cut : List Tkn → List Tkn
  | [] => []
  | t :: ts => if t.k = .odd then [t] else t :: cut ts
theorem run_stepM {g r : List Nat} {c : Nat} {t : List Nat} (h : r = c :: t) : (runOf g r).length = if c ∈ g then (runOf g t).length + 1 else 0 := by
  subst h
  unfold runOf
  rw [List.takeWhile_cons]
  by_cases hc : c ∈ g
  · rw [if_pos hc, if_pos (by simpa using hc)]; rfl
  · rw [if_neg hc, if_neg (by simpa using hc)]; rfl
theorem run_leM {g r : List Nat} : (runOf g r).length ≤ r.length := (List.takeWhile_prefix _).length_le
theorem take_runM {g r : List Nat} : r.take (runOf g r).length = runOf g r := (List.prefix_iff_eq_take.mp (List.takeWhile_prefix _)).symm
/-- a token begins r: its text stands there -/
theorem tokA_at {c : Nat} {t : List Nat} {s : Nat} : 1 ≤ (tokA (c :: t) s).2 ∧ (tokA (c :: t) s).2 ≤ (c :: t).length ∧ (c :: t).take (tokA (c :: t) s).2 = (tokA (c :: t) s).1.v ∧ Wt (tokA (c :: t) s).1 ∧ (tokA (c :: t) s).1.k ≠ .fin ∧ (tokA (c :: t) s).1.p = s := by
  unfold tokA
  by_cases h1 : c ∈ LET
  · simp only [if_pos h1]
    refine ⟨by rw [run_stepM rfl, if_pos h1]; omega, run_leM, take_runM, ⟨fun h => ?_, fun h => ?_⟩, ?_, trivial⟩
    · by_cases w : runOf LET (c :: t) ∈ WRDS
      · exact (show ∀ x ∈ WRDS, x ∈ KW by decide) _ w
      · rw [if_neg w] at h
        split at h <;> cases h
    · by_cases w : runOf LET (c :: t) ∈ WRDS
      · rw [if_pos w] at h; cases h
      · rw [if_neg w] at h
        split at h <;> cases h
    · split
      · exact fun z => by cases z
      · split <;> exact fun z => by cases z
  · simp only [if_neg h1]
    by_cases h2 : c ∈ FIG
    · simp only [if_pos h2]
      refine ⟨by rw [run_stepM rfl, if_pos h2]; omega, run_leM, take_runM, ⟨fun h => ?_, fun h => ?_⟩, ?_, trivial⟩
      · split at h <;> cases h
      · by_cases w : isNum (runOf FIG (c :: t)) = true
        · exact w
        · rw [if_neg w] at h; cases h
      · split <;> exact fun z => by cases z
    · simp only [if_neg h2]
      cases hf : SGNS.find? fun g => decide ((c :: t).take g.length = g) with
      | none => exact ⟨Nat.le_refl _, by simp, rfl, ⟨fun h => (by cases h), fun h => (by cases h)⟩, fun z => (by cases z), rfl⟩
      | some g =>
        have h3 : g ∈ SGNS := List.mem_of_find?_eq_some hf
        have h5 : (c :: t).take g.length = g := by simpa using List.find?_some hf
        have h7 := congrArg List.length h5
        rw [List.length_take] at h7
        exact ⟨(show ∀ x ∈ SGNS, 1 ≤ x.length by decide) g h3, by show g.length ≤ _; omega, h5, ⟨fun _ => (show ∀ x ∈ SGNS, x ∈ KW by decide) g h3, fun h => (by cases h)⟩, fun z => (by cases z), rfl⟩
theorem ftk_sp : ∀ (r : List Nat) (m s : Nat), r.length ≤ m → ftk m r s = ftk (m - (runOf [32] r).length) (r.drop (runOf [32] r).length) (s + (runOf [32] r).length)
  | [], m, s, _ => rfl
  | c :: r, m, s, h => by
    rw [run_stepM rfl]
    by_cases hc : c ∈ [32]
    · rw [if_pos hc]
      have e : c = 32 := by simpa using hc
      cases m with
      | zero => simp at h
      | succ m =>
        rw [ftk, if_pos e, ftk_sp r m (s + 1) (by simpa using h), List.drop_succ_cons, Nat.succ_sub_succ, Nat.add_assoc, Nat.add_comm 1]
    · rw [if_neg hc]
      rfl
theorem run_drop {g r : List Nat} {c : Nat} {t : List Nat} (h : r.drop (runOf g r).length = c :: t) : c ∉ g := by
  induction r with
  | nil => simp at h
  | cons a r ih =>
    rw [run_stepM rfl] at h
    by_cases ha : a ∈ g
    · rw [if_pos ha] at h
      exact ih h
    · rw [if_neg ha] at h
      simp at h
      rw [← h.1]; exact ha
theorem tokL_stepM {n s : Nat} {r : List Nat} : tokL (n + 1) r s = match r.drop (runOf [32] r).length with
    | [] => [⟨.fin, [], s + (runOf [32] r).length⟩]
    | c :: r' =>
      if (tokA (c :: r') (s + (runOf [32] r).length)).1.k = .odd then [(tokA (c :: r') (s + (runOf [32] r).length)).1]
      else (tokA (c :: r') (s + (runOf [32] r).length)).1 :: tokL n ((c :: r').drop (tokA (c :: r') (s + (runOf [32] r).length)).2) (s + (runOf [32] r).length + (tokA (c :: r') (s + (runOf [32] r).length)).2) := rfl
theorem cut_tokL : ∀ (n m : Nat) (r : List Nat) (s : Nat), r.length < n → r.length ≤ m → tokL n r s = cut (ftk m r s ++ [⟨.fin, [], s + r.length⟩])
  | 0, _, _, _, h, _ => absurd h (Nat.not_lt_zero _)
  | n + 1, m, r, s, h, hm => by
    have hk := @run_leM [32] r
    rw [ftk_sp r m s hm, tokL_stepM]
    generalize hkk : (runOf [32] r).length = k at *
    cases hd : r.drop k with
    | nil =>
      have e : r.length = k := by have := congrArg List.length hd; rw [List.length_drop] at this; simp at this; omega
      cases m - k with
      | zero => rw [e]; rfl
      | succ _ => rw [e]; rfl
    | cons c t =>
      have hl : r.length = k + (c :: t).length := by rw [← hd, List.length_drop]; omega
      have hc : c ≠ 32 := by
        have := run_drop (g := [32]) (r := r) (by rw [hkk]; exact hd)
        simpa using this
      obtain ⟨j, hj⟩ : ∃ j, m - k = j + 1 := ⟨m - k - 1, by simp only [List.length_cons] at hl; omega⟩
      rw [hj, ftk, if_neg hc]
      obtain ⟨a1, a2, _, _, _, _⟩ := @tokA_at c t (s + k)
      show (if _ then _ else _) = cut (_ :: (_ ++ _))
      rw [cut]
      by_cases ho : (tokA (c :: t) (s + k)).1.k = .odd
      · rw [if_pos ho, if_pos ho]
      · rw [if_neg ho, if_neg ho]
        generalize hw : (tokA (c :: t) (s + k)).2 = w at *
        have hdl : ((c :: t).drop w).length = (c :: t).length - w := List.length_drop
        rw [cut_tokL n j ((c :: t).drop w) (s + k + w) (by rw [hdl]; omega) (by rw [hdl]; omega)]
        rw [hdl, show s + k + w + ((c :: t).length - w) = s + r.length by omega]
theorem ftk_wt : ∀ (m : Nat) (r : List Nat) (s : Nat), ∀ t ∈ ftk m r s, Wt t ∧ t.k ≠ .fin
  | 0, _, _, t, h => by cases h
  | _ + 1, [], _, t, h => by cases h
  | m + 1, c :: r, s, t, h => by
    rw [ftk] at h
    by_cases hc : c = 32
    · rw [if_pos hc] at h
      exact ftk_wt m _ _ t h
    · rw [if_neg hc] at h
      rcases List.mem_cons.mp h with h | h
      · rw [h]; exact ⟨tokA_at.2.2.2.1, tokA_at.2.2.2.2.1⟩
      · exact ftk_wt m _ _ t h
def finT (p : Nat) : Tkn := ⟨.fin, [], p⟩
theorem fin_wt {p : Nat} : Wt (finT p) := ⟨fun h => (by cases h), fun h => (by cases h)⟩
/-- all tokens, then the end -/
def allT (l : List Nat) : List Tkn := ftk l.length l 0 ++ [finT l.length]
theorem toks_cut (l : List Nat) : toks l = cut (allT l) := by
  have := cut_tokL (l.length + 1) l.length l 0 (Nat.lt_succ_self _) (Nat.le_refl _)
  rw [Nat.zero_add] at this
  exact this
theorem allT_wt {l : List Nat} : ∀ t ∈ allT l, Wt t := fun t h => by
  rcases List.mem_append.mp h with h | h
  · exact (ftk_wt _ _ _ t h).1
  · rw [List.mem_singleton] at h; rw [h]; exact fin_wt
theorem cut_sub : ∀ {ts : List Tkn} {t : Tkn}, t ∈ cut ts → t ∈ ts
  | [], _, h => by cases h
  | a :: ts, t, h => by
    rw [cut] at h
    split at h
    · rw [List.mem_singleton] at h; rw [h]; exact List.mem_cons_self
    · rcases List.mem_cons.mp h with h | h
      · rw [h]; exact List.mem_cons_self
      · exact List.mem_cons_of_mem _ (cut_sub h)
theorem cut_end : ∀ {ts : List Tkn} {u : Tkn}, Stop u → ∃ a t, cut (ts ++ [u]) = a ++ [t] ∧ Stop t
  | [], u, h => by
    show ∃ a t, cut [u] = a ++ [t] ∧ Stop t
    rw [cut]
    split
    · exact ⟨[], u, rfl, h⟩
    · exact ⟨[], u, rfl, h⟩
  | b :: ts, u, h => by
    show ∃ a t, cut (b :: (ts ++ [u])) = a ++ [t] ∧ Stop t
    rw [cut]
    split
    · rename_i hb
      exact ⟨[], b, rfl, .inl hb⟩
    · obtain ⟨a, t, e, hs⟩ := cut_end (ts := ts) h
      exact ⟨b :: a, t, by rw [e]; rfl, hs⟩
theorem toks_good (l : List Nat) : Good (toks l) := by
  rw [toks_cut]
  exact ⟨fun t h => allT_wt t (cut_sub h), cut_end (.inr rfl)⟩
/-! ### what stands behind a token that is none does not matter -/
theorem odd_tab : ∀ e ∈ TAB, sOdd ∉ e.2 := by decide
theorem odd_alw : ∀ e ∈ ALW, sOdd ∉ e.2 := by decide
theorem odd_more {X k : List Nat} : sOdd ∉ moreOf X k := by
  unfold moreOf
  cases h : TAB.find? fun e => decide (e.1 = (X, k)) with
  | some e => exact odd_tab e (List.mem_of_find?_eq_some h)
  | none =>
    show sOdd ∉ alwOf X
    unfold alwOf
    cases h2 : ALW.find? fun e => decide (e.1 = X) with
    | some e => exact odd_alw e (List.mem_of_find?_eq_some h2)
    | none => exact fun z => by cases z
theorem rc_cut : ∀ (n : Nat) (P : List (List Nat)) (ts : List Tkn) (r : Option Nat), (∀ t ∈ ts, Wt t) → sOdd ∉ P → rc n P ((cut ts).map pk) = some r → rc n P (ts.map pk) = some r
  | 0, _, _, _, _, _, h => by cases h
  | n + 1, P, [], r, _, _, h => h
  | n + 1, [], t :: ts, r, _, _, h => by
    rw [cut] at h
    split at h <;> exact h
  | n + 1, X :: P, t :: ts, r, hw, ho, h => by
    have ht := hw t List.mem_cons_self
    have hX : X ≠ sOdd := fun z => ho (by rw [z]; exact List.mem_cons_self)
    have hP : sOdd ∉ P := fun z => ho (List.mem_cons_of_mem _ z)
    have ec : ∃ u, cut (t :: ts) = t :: u ∧ (t.k ≠ .odd → u = cut ts) := by
      rw [cut]
      by_cases c : t.k = .odd
      · rw [if_pos c]; exact ⟨[], rfl, fun z => absurd c z⟩
      · rw [if_neg c]; exact ⟨_, rfl, fun _ => rfl⟩
    obtain ⟨u, eu, hu⟩ := ec
    have h0 := h
    rw [eu] at h
    show rc (n + 1) (X :: P) ((ky t, t.p) :: ts.map pk) = some r
    have h : rc (n + 1) (X :: P) ((ky t, t.p) :: u.map pk) = some r := h
    rw [rc] at h ⊢
    by_cases c1 : X = ky t
    · rw [if_pos c1] at h ⊢
      have : t.k ≠ .odd := fun z => hX (c1.trans ((ky_odd ht).mpr z))
      rw [hu this] at h
      exact rc_cut n P ts r (fun x hx => hw x (List.mem_cons_of_mem _ hx)) hP h
    · rw [if_neg c1] at h ⊢
      by_cases c2 : moreOf X (ky t) = [] ∧ X ∉ EPS
      · rw [if_pos c2] at h ⊢
        exact h
      · rw [if_neg c2] at h ⊢
        refine rc_cut n _ (t :: ts) r hw (fun z => ?_) (by rw [eu]; exact h)
        rcases List.mem_append.mp z with z | z
        · exact odd_more z
        · exact hP z
/-! ### all in one -/
/-- what a whole text is parsed to: the tree, or where it stops -/
def pAll (f : List Tkn → PR) (l : List Nat) : Option (Except Nat D) := match f (toks l) with
  | some (.ok (d, t :: _)) => if t.k = .fin then some (.ok d) else some (.error t.p)
  | some (.error p) => some (.error p)
  | _ => none
theorem par_of {f : List Tkn → PR} {X : List Nat} {B : List Tkn → Prop} {l : List Nat} (hs : Sim f X) (ht : Tot f B) (hb : B (toks l)) (hX : X ≠ sOdd) :
    (∃ xs, pAll f l = some (.ok (.tup xs)) ∧ (∀ m, (D.tup xs).lo m = true) ∧ Rc [X] ((allT l).map pk) none) ∨ ∃ p, pAll f l = some (.error p) ∧ Rc [X] ((allT l).map pk) (some p) := by
  have hg := toks_good l
  have up : ∀ r, Rc [X] ((toks l).map pk) r → Rc [X] ((allT l).map pk) r := fun r ⟨n, h⟩ => ⟨n, rc_cut n _ _ r allT_wt (by simpa using Ne.symm hX) (by rw [← toks_cut]; exact h)⟩
  obtain ⟨s1, s2⟩ := hs (toks l) hg.1
  unfold pAll
  rcases ht (toks l) hg hb with ⟨d, r, h, g, sr, ⟨xs, rfl⟩, lo⟩ | ⟨p, h⟩
  · obtain ⟨t, r', rfl⟩ := g.ne
    rw [h]
    have hw := g.1 t List.mem_cons_self
    have fin : Rc [] ((t :: r').map pk) (if ky t = sEnd then none else some t.p) := ⟨1, rfl⟩
    have := s1 _ _ h [] _ fin
    by_cases c : t.k = .fin
    · refine .inl ⟨xs, by simp only [if_pos c], lo, up _ ?_⟩
      rw [if_pos ((ky_end hw).mpr c)] at this
      exact this
    · refine .inr ⟨t.p, by simp only [if_neg c], up _ ?_⟩
      rw [if_neg (fun z => c ((ky_end hw).mp z))] at this
      exact this
  · rw [h]
    exact .inr ⟨p, rfl, up _ (s2 p h [])⟩
theorem par_Eq {op : Tkn → Bool} (ho : OpE op) {n : Nat} {l : List Nat} (h : nQ op (toks l) < n) : (∃ xs, pAll (pE (pFac n)) l = some (.ok (.tup xs)) ∧ (∀ m, (D.tup xs).lo m = true) ∧ Rc [yE] ((allT l).map pk) none) ∨ ∃ p, pAll (pE (pFac n)) l = some (.error p) ∧ Rc [yE] ((allT l).map pk) (some p) :=
  par_of (sim_E (sim_fac n)) (tot_E (tot_fac ho n)) h (by decide)
theorem par_Cq {op op2 : Tkn → Bool} (ho : OpE op) (ho2 : OpC op2) {n m : Nat} {l : List Nat} (h : nQ op (toks l) < n) (h2 : nQ op2 (toks l) < m) : (∃ xs, pAll (pC (pNeg (pE (pFac n)) m)) l = some (.ok (.tup xs)) ∧ (∀ m, (D.tup xs).lo m = true) ∧ Rc [yC] ((allT l).map pk) none) ∨ ∃ p, pAll (pC (pNeg (pE (pFac n)) m)) l = some (.error p) ∧ Rc [yC] ((allT l).map pk) (some p) :=
  par_of (sim_C (pE_suf (pFac_suf n)) (sim_neg (pE_suf (pFac_suf n)) (sim_E (sim_fac n)) (fun t r hw h x e => e_first hw h x e) m)) (tot_C nB_cl (tot_neg ho2 nB_cl (tot_E (tot_fac ho n)) m)) ⟨h, h2⟩ (by decide)
theorem opn_E : OpE opn := ⟨fun t h => opn_of h (by decide), fun t h => opn_of h (by decide)⟩
theorem opn_C : OpC opn := ⟨fun t h => opn_of h (by decide), fun t h => opn_of h (by decide)⟩
theorem par_E {n : Nat} {l : List Nat} (h : nO (toks l) < n) : (∃ xs, pAll (pE (pFac n)) l = some (.ok (.tup xs)) ∧ (∀ m, (D.tup xs).lo m = true) ∧ Rc [yE] ((allT l).map pk) none) ∨ ∃ p, pAll (pE (pFac n)) l = some (.error p) ∧ Rc [yE] ((allT l).map pk) (some p) := par_Eq opn_E h
theorem par_C {n m : Nat} {l : List Nat} (h : nO (toks l) < n) (h2 : nO (toks l) < m) : (∃ xs, pAll (pC (pNeg (pE (pFac n)) m)) l = some (.ok (.tup xs)) ∧ (∀ m, (D.tup xs).lo m = true) ∧ Rc [yC] ((allT l).map pk) none) ∨ ∃ p, pAll (pC (pNeg (pE (pFac n)) m)) l = some (.error p) ∧ Rc [yC] ((allT l).map pk) (some p) := par_Cq opn_E opn_C h h2
/-! ### how many tokens that open -/
def OC : List Nat := [40, 45, 91, 110]
def nC (l : List Nat) : Nat := (l.filter fun c => decide (c ∈ OC)).length
theorem nC_app {a b : List Nat} : nC (a ++ b) = nC a + nC b := by unfold nC; rw [List.filter_append, List.length_append]
theorem nO_ftk : ∀ (m : Nat) (r : List Nat) (s : Nat), nO (ftk m r s) ≤ nC r
  | 0, _, _ => Nat.zero_le _
  | _ + 1, [], _ => Nat.zero_le _
  | m + 1, c :: r, s => by
    rw [ftk]
    by_cases hc : c = 32
    · rw [if_pos hc]
      have := nO_ftk m r (s + 1)
      have e : nC (c :: r) = nC [c] + nC r := nC_app (a := [c])
      omega
    · rw [if_neg hc]
      obtain ⟨_, _, h3, _, _, _⟩ := @tokA_at c r s
      generalize (tokA (c :: r) s).2 = w at *
      generalize (tokA (c :: r) s).1 = t at *
      have e : nC (c :: r) = nC ((c :: r).take w) + nC ((c :: r).drop w) := by rw [← nC_app, List.take_append_drop]
      have := nO_ftk m ((c :: r).drop w) (s + w)
      by_cases ho : opn t = true
      · rw [nO_cons ho, e, h3]
        obtain ⟨_, hv⟩ := sees_sign ho
        have : 1 ≤ nC t.v := (show ∀ x ∈ [[45], [40], [91], sNot], 1 ≤ nC x by decide) _ hv
        omega
      · have : nO (t :: ftk m ((c :: r).drop w) (s + w)) = nO (ftk m ((c :: r).drop w) (s + w)) := by unfold nO; rw [List.filter_cons_of_neg ho]
        omega
theorem nO_cut : ∀ ts : List Tkn, nO (cut ts) ≤ nO ts
  | [] => Nat.le_refl _
  | t :: ts => by
    rw [cut]
    by_cases c : t.k = .odd
    · rw [if_pos c]
      have h1 : nO (t :: ts) = nO [t] + nO ts := by unfold nO; rw [← List.length_append, ← List.filter_append]; rfl
      omega
    · rw [if_neg c]
      have h1 : nO (t :: ts) = nO [t] + nO ts := by unfold nO; rw [← List.length_append, ← List.filter_append]; rfl
      have h2 : nO (t :: cut ts) = nO [t] + nO (cut ts) := by unfold nO; rw [← List.length_append, ← List.filter_append]; rfl
      have := nO_cut ts
      omega
theorem nO_toks (l : List Nat) : nO (toks l) ≤ nC l := by
  rw [toks_cut]
  have h1 := nO_cut (allT l)
  have h2 := nO_ftk l.length l 0
  have h3 : nO (allT l) = nO (ftk l.length l 0) + nO [finT l.length] := by unfold nO allT; rw [List.filter_append, List.length_append]
  have h4 : nO [finT l.length] = 0 := rfl
  omega
end DL

set_option Elab.async false
set_option linter.all false
set_option maxRecDepth 100000
set_option maxHeartbeats 4000000
namespace K09
open PySem PySem.Spec PyProof.Rows L2 DL
def top (i : Nat) : Stmt := PySem.Challenge.pw_rerunrein_k09_values_of_conditions.main.body.getD i (.Pass ⟨0, 0, 0, 0⟩)
def d_frozen : He.DefD := ⟨("frozen", none), "frozen", "frozen", defArgs (top 5), defBody (top 5), defScope (top 5), [], []⟩
def d_is_name : He.DefD := ⟨("is_name", none), "is_name", "is_name", defArgs (top 6), defBody (top 6), defScope (top 6), [], []⟩
def d_is_number : He.DefD := ⟨("is_number", none), "is_number", "is_number", defArgs (top 15), defBody (top 15), defScope (top 15), [], []⟩
def d_end_of_run : He.DefD := ⟨("end_of_run", none), "end_of_run", "end_of_run", defArgs (top 16), defBody (top 16), defScope (top 16), [], []⟩
def d_token_at : He.DefD := ⟨("token_at", none), "token_at", "token_at", defArgs (top 17), defBody (top 17), defScope (top 17), [], []⟩
def d_tokens : He.DefD := ⟨("tokens", none), "tokens", "tokens", defArgs (top 18), defBody (top 18), defScope (top 18), [], []⟩
def d_Parser_init : He.DefD := ⟨("Parser", some "__init__"), "__init__", "Parser.__init__", defArgs (inClass (top 22) 0), defBody (inClass (top 22) 0), defScope (inClass (top 22) 0), [], []⟩
def d_Parser_sees : He.DefD := ⟨("Parser", some "sees"), "sees", "Parser.sees", defArgs (inClass (top 22) 1), defBody (inClass (top 22) 1), defScope (inClass (top 22) 1), [], []⟩
def d_Parser_take : He.DefD := ⟨("Parser", some "take"), "take", "Parser.take", defArgs (inClass (top 22) 2), defBody (inClass (top 22) 2), defScope (inClass (top 22) 2), [], []⟩
def d_Parser_refuse : He.DefD := ⟨("Parser", some "refuse"), "refuse", "Parser.refuse", defArgs (inClass (top 22) 3), defBody (inClass (top 22) 3), defScope (inClass (top 22) 3), [], []⟩
def d_Parser_take_sign : He.DefD := ⟨("Parser", some "take_sign"), "take_sign", "Parser.take_sign", defArgs (inClass (top 22) 4), defBody (inClass (top 22) 4), defScope (inClass (top 22) 4), [], []⟩
def d_Parser_finish : He.DefD := ⟨("Parser", some "finish"), "finish", "Parser.finish", defArgs (inClass (top 22) 5), defBody (inClass (top 22) 5), defScope (inClass (top 22) 5), [], []⟩
def d_Parser_condition : He.DefD := ⟨("Parser", some "condition"), "condition", "Parser.condition", defArgs (inClass (top 22) 6), defBody (inClass (top 22) 6), defScope (inClass (top 22) 6), [], []⟩
def d_Parser_conjunction : He.DefD := ⟨("Parser", some "conjunction"), "conjunction", "Parser.conjunction", defArgs (inClass (top 22) 7), defBody (inClass (top 22) 7), defScope (inClass (top 22) 7), [], []⟩
def d_Parser_negation : He.DefD := ⟨("Parser", some "negation"), "negation", "Parser.negation", defArgs (inClass (top 22) 8), defBody (inClass (top 22) 8), defScope (inClass (top 22) 8), [], []⟩
def d_Parser_expression : He.DefD := ⟨("Parser", some "expression"), "expression", "Parser.expression", defArgs (inClass (top 22) 9), defBody (inClass (top 22) 9), defScope (inClass (top 22) 9), [], []⟩
def d_Parser_term : He.DefD := ⟨("Parser", some "term"), "term", "Parser.term", defArgs (inClass (top 22) 10), defBody (inClass (top 22) 10), defScope (inClass (top 22) 10), [], []⟩
def d_Parser_factor : He.DefD := ⟨("Parser", some "factor"), "factor", "Parser.factor", defArgs (inClass (top 22) 11), defBody (inClass (top 22) 11), defScope (inClass (top 22) 11), [], []⟩
def d_parse_condition : He.DefD := ⟨("parse_condition", none), "parse_condition", "parse_condition", defArgs (top 23), defBody (top 23), defScope (top 23), [], []⟩
def d_bounded : He.DefD := ⟨("bounded", none), "bounded", "bounded", defArgs (top 24), defBody (top 24), defScope (top 24), [], []⟩
def d_calculated : He.DefD := ⟨("calculated", none), "calculated", "calculated", defArgs (top 25), defBody (top 25), defScope (top 25), [], []⟩
def d_compared : He.DefD := ⟨("compared", none), "compared", "compared", defArgs (top 26), defBody (top 26), defScope (top 26), [], []⟩
def d_value_of : He.DefD := ⟨("value_of", none), "value_of", "value_of", defArgs (top 27), defBody (top 27), defScope (top 27), [], []⟩
def d_evaluate : He.DefD := ⟨("evaluate", none), "evaluate", "evaluate", defArgs (top 28), defBody (top 28), defScope (top 28), [], []⟩
def d_holds : He.DefD := ⟨("holds", none), "holds", "holds", defArgs (top 29), defBody (top 29), defScope (top 29), [], []⟩
def d_L_draw : He.DefD := ⟨("_law_draw", none), "_law_draw", "_law_draw", defArgs (top 31), defBody (top 31), defScope (top 31), [], []⟩
def d_L_reserved : He.DefD := ⟨("_law_reserved", none), "_law_reserved", "_law_reserved", defArgs (top 32), defBody (top 32), defScope (top 32), [], []⟩
def d_L_name : He.DefD := ⟨("_law_name", none), "_law_name", "_law_name", defArgs (top 33), defBody (top 33), defScope (top 33), [], []⟩
def d_L_names : He.DefD := ⟨("_law_names", none), "_law_names", "_law_names", defArgs (top 34), defBody (top 34), defScope (top 34), [], []⟩
def d_L_number : He.DefD := ⟨("_law_number", none), "_law_number", "_law_number", defArgs (top 35), defBody (top 35), defScope (top 35), [], []⟩
def d_L_sum : He.DefD := ⟨("_law_sum", none), "_law_sum", "_law_sum", defArgs (top 36), defBody (top 36), defScope (top 36), [], []⟩
def d_L_truth : He.DefD := ⟨("_law_truth", none), "_law_truth", "_law_truth", defArgs (top 37), defBody (top 37), defScope (top 37), [], []⟩
def d_L_rank : He.DefD := ⟨("_law_rank", none), "_law_rank", "_law_rank", defArgs (top 38), defBody (top 38), defScope (top 38), [], []⟩
def d_L_canonical : He.DefD := ⟨("_law_canonical", none), "_law_canonical", "_law_canonical", defArgs (top 39), defBody (top 39), defScope (top 39), [], []⟩
def d_L_is_within : He.DefD := ⟨("_law_is_within", none), "_law_is_within", "_law_is_within", defArgs (top 40), defBody (top 40), defScope (top 40), [], []⟩
def d_L_listed : He.DefD := ⟨("_law_listed", none), "_law_listed", "_law_listed", defArgs (top 41), defBody (top 41), defScope (top 41), [], []⟩
def d_L_pairs : He.DefD := ⟨("_law_pairs", none), "_law_pairs", "_law_pairs", defArgs (top 42), defBody (top 42), defScope (top 42), [], []⟩
def d_L_calculated : He.DefD := ⟨("_law_calculated", none), "_law_calculated", "_law_calculated", defArgs (top 43), defBody (top 43), defScope (top 43), [], []⟩
def d_L_value : He.DefD := ⟨("_law_value", none), "_law_value", "_law_value", defArgs (top 44), defBody (top 44), defScope (top 44), [], []⟩
def d_L_evaluated : He.DefD := ⟨("_law_evaluated", none), "_law_evaluated", "_law_evaluated", defArgs (top 45), defBody (top 45), defScope (top 45), [], []⟩
def d_L_same : He.DefD := ⟨("_law_same", none), "_law_same", "_law_same", defArgs (top 46), defBody (top 46), defScope (top 46), [], []⟩
def d_law : He.DefD := ⟨("law", none), "law", "law", defArgs (top 47), defBody (top 47), defScope (top 47), [], []⟩
def d_E_BadText : He.DefD := ⟨("BadText", some "__init__"), "__init__", "BadText.__init__", defArgs (inClass (top 9) 0), defBody (inClass (top 9) 0), defScope (inClass (top 9) 0), [], []⟩
def d_E_Fault : He.DefD := ⟨("Fault", some "__init__"), "__init__", "Fault.__init__", defArgs (inClass (top 10) 0), defBody (inClass (top 10) 0), defScope (inClass (top 10) 0), [], []⟩
def sd : List He.DefD := [d_E_BadText, d_E_Fault]
def file : Str := PySem.Challenge.pw_rerunrein_k09_values_of_conditions.main.file
def fn : List He.DefD := [d_frozen, d_is_name, d_is_number, d_end_of_run, d_token_at, d_tokens, d_Parser_init, d_Parser_sees, d_Parser_take, d_Parser_refuse, d_Parser_take_sign, d_Parser_finish, d_Parser_condition, d_Parser_conjunction, d_Parser_negation, d_Parser_expression, d_Parser_term, d_Parser_factor, d_parse_condition, d_bounded, d_calculated, d_compared, d_value_of, d_evaluate, d_holds, d_L_draw, d_L_reserved, d_L_name, d_L_names, d_L_number, d_L_sum, d_L_truth, d_L_rank, d_L_canonical, d_L_is_within, d_L_listed, d_L_pairs, d_L_calculated, d_L_value, d_L_evaluated, d_L_same, d_law]
def ts : List He.Tab := []
def fa : List He.Fa := [.str "LETTERS" "abcdefghijklmnopqrstuvwxyz",
  .glo "RESERVED",
  .int "LONGEST_NAME" 8,
  .int "MOST_DIGITS" 30,
  .glo "frozen",
  .glo "is_name",
  .glo "RerunError",
  .glo "BadText",
  .glo "Fault",
  .str "FIGURES" "0123456789",
  .glo "WORDS",
  .glo "SIGNS",
  .glo "is_number",
  .glo "end_of_run",
  .glo "token_at",
  .glo "tokens",
  .int "GREATEST" 1000000000000000000000000000000,
  .glo "COMPARISONS",
  .glo "Parser",
  .cls "Parser",
  .mkr "Parser",
  .meth "Parser" "sees",
  .meth "Parser" "take",
  .meth "Parser" "refuse",
  .meth "Parser" "take_sign",
  .meth "Parser" "finish",
  .meth "Parser" "condition",
  .meth "Parser" "conjunction",
  .meth "Parser" "negation",
  .meth "Parser" "expression",
  .meth "Parser" "term",
  .meth "Parser" "factor",
  .noat "Parser" "place",
  .noat "Parser" "rest",
  .glo "parse_condition",
  .glo "bounded",
  .glo "calculated",
  .glo "compared",
  .glo "value_of",
  .glo "evaluate",
  .glo "holds",
  .glo "_law_draw",
  .glo "_law_reserved",
  .glo "_law_name",
  .glo "_law_names",
  .glo "_law_number",
  .glo "_law_sum",
  .glo "_law_truth",
  .glo "_law_rank",
  .glo "_law_canonical",
  .glo "_law_is_within",
  .glo "_law_listed",
  .glo "_law_pairs",
  .glo "_law_calculated",
  .glo "_law_value",
  .glo "_law_evaluated",
  .glo "_law_same",
  .glo "law",
  .free "ValueError",
  .free "abs",
  .free "all",
  .free "any",
  .free "bool",
  .free "dict",
  .free "int",
  .free "isinstance",
  .free "len",
  .free "list",
  .free "max",
  .free "range",
  .free "str",
  .free "super",
  .free "tuple"]
def ex : Frag → Bool := fun K => (He.tupB K "RESERVED" [.str "and", .str "checkpoint", .str "else", .str "end", .str "if", .str "input", .str "mod", .str "not", .str "or", .str "process", .str "receive", .str "send", .str "set", .str "take", .str "while"] && (He.tupB K "WORDS" [.str "and", .str "mod", .str "not", .str "or"] && (He.tupB K "SIGNS" [.str "<=", .str ">=", .str "!=", .str "//", .str "+", .str "-", .str "*", .str "(", .str ")", .str "[", .str "]", .str "=", .str "<", .str ">"] && (He.tupB K "COMPARISONS" [.str "=", .str "!=", .str "<", .str "<=", .str ">", .str ">="] && (decide (PySem.W.exmOne K (.ref (He.ga K "BadText")) (.ref (He.ga K "Fault")) = some false) && (decide (PySem.W.exmOne K (.ref (He.ga K "Fault")) (.ref (He.ga K "Fault")) = some true) && (excB file K "BadText" "BadText.__init__" ["position"] && (excB file K "Fault" "Fault.__init__" ["reason"] && (excIB K (He.ga K "Fault") && (decide (PySem.W.kitOne K (.ref (He.ga K "Fault")) (.ref (He.ga K "RerunError")) = some true) && (decide (PySem.W.kitOne K (.ref (He.ga K "Fault")) (.type "ValueError") = some true) && true)))))))))))
def RESERVED_L : List (List Nat) := [[97, 110, 100], [99, 104, 101, 99, 107, 112, 111, 105, 110, 116], [101, 108, 115, 101], [101, 110, 100], [105, 102], [105, 110, 112, 117, 116], [109, 111, 100], [110, 111, 116], [111, 114], [112, 114, 111, 99, 101, 115, 115], [114, 101, 99, 101, 105, 118, 101], [115, 101, 110, 100], [115, 101, 116], [116, 97, 107, 101], [119, 104, 105, 108, 101]]
def WORDS_L : List (List Nat) := [[97, 110, 100], [109, 111, 100], [110, 111, 116], [111, 114]]
def SIGNS_L : List (List Nat) := [[60, 61], [62, 61], [33, 61], [47, 47], [43], [45], [42], [40], [41], [91], [93], [61], [60], [62]]
def COMPARISONS_L : List (List Nat) := [[61], [33, 61], [60], [60, 61], [62], [62, 61]]
structure Tx (K : Frag) (mg : Str → Option Value) : Prop where
  c_LETTERS : ∃ t, mg "LETTERS" = some (.str "abcdefghijklmnopqrstuvwxyz" t)
  g_RESERVED : mg "RESERVED" = some (.ref (He.ga K "RESERVED"))
  c_LONGEST_NAME : ∃ t, mg "LONGEST_NAME" = some (.int 8 t)
  c_MOST_DIGITS : ∃ t, mg "MOST_DIGITS" = some (.int 30 t)
  g_frozen : mg "frozen" = some (.ref (He.ga K "frozen"))
  g_is_name : mg "is_name" = some (.ref (He.ga K "is_name"))
  g_RerunError : mg "RerunError" = some (.ref (He.ga K "RerunError"))
  g_BadText : mg "BadText" = some (.ref (He.ga K "BadText"))
  g_Fault : mg "Fault" = some (.ref (He.ga K "Fault"))
  c_FIGURES : ∃ t, mg "FIGURES" = some (.str "0123456789" t)
  g_WORDS : mg "WORDS" = some (.ref (He.ga K "WORDS"))
  g_SIGNS : mg "SIGNS" = some (.ref (He.ga K "SIGNS"))
  g_is_number : mg "is_number" = some (.ref (He.ga K "is_number"))
  g_end_of_run : mg "end_of_run" = some (.ref (He.ga K "end_of_run"))
  g_token_at : mg "token_at" = some (.ref (He.ga K "token_at"))
  g_tokens : mg "tokens" = some (.ref (He.ga K "tokens"))
  c_GREATEST : ∃ t, mg "GREATEST" = some (.int 1000000000000000000000000000000 t)
  g_COMPARISONS : mg "COMPARISONS" = some (.ref (He.ga K "COMPARISONS"))
  g_Parser : mg "Parser" = some (.ref (He.ga K "Parser"))
  cl_Parser : Cls K (He.ga K "Parser")
  mk_Parser : Mk K (He.ga K "Parser") (He.ma K (He.ga K "Parser") "__init__")
  me_Parser_sees : Meth K (He.ga K "Parser") "sees" (He.ma K (He.ga K "Parser") "sees")
  me_Parser_take : Meth K (He.ga K "Parser") "take" (He.ma K (He.ga K "Parser") "take")
  me_Parser_refuse : Meth K (He.ga K "Parser") "refuse" (He.ma K (He.ga K "Parser") "refuse")
  me_Parser_take_sign : Meth K (He.ga K "Parser") "take_sign" (He.ma K (He.ga K "Parser") "take_sign")
  me_Parser_finish : Meth K (He.ga K "Parser") "finish" (He.ma K (He.ga K "Parser") "finish")
  me_Parser_condition : Meth K (He.ga K "Parser") "condition" (He.ma K (He.ga K "Parser") "condition")
  me_Parser_conjunction : Meth K (He.ga K "Parser") "conjunction" (He.ma K (He.ga K "Parser") "conjunction")
  me_Parser_negation : Meth K (He.ga K "Parser") "negation" (He.ma K (He.ga K "Parser") "negation")
  me_Parser_expression : Meth K (He.ga K "Parser") "expression" (He.ma K (He.ga K "Parser") "expression")
  me_Parser_term : Meth K (He.ga K "Parser") "term" (He.ma K (He.ga K "Parser") "term")
  me_Parser_factor : Meth K (He.ga K "Parser") "factor" (He.ma K (He.ga K "Parser") "factor")
  na_Parser_place : NoAttr K (He.ga K "Parser") "place"
  na_Parser_rest : NoAttr K (He.ga K "Parser") "rest"
  g_parse_condition : mg "parse_condition" = some (.ref (He.ga K "parse_condition"))
  g_bounded : mg "bounded" = some (.ref (He.ga K "bounded"))
  g_calculated : mg "calculated" = some (.ref (He.ga K "calculated"))
  g_compared : mg "compared" = some (.ref (He.ga K "compared"))
  g_value_of : mg "value_of" = some (.ref (He.ga K "value_of"))
  g_evaluate : mg "evaluate" = some (.ref (He.ga K "evaluate"))
  g_holds : mg "holds" = some (.ref (He.ga K "holds"))
  g_L_draw : mg "_law_draw" = some (.ref (He.ga K "_law_draw"))
  g_L_reserved : mg "_law_reserved" = some (.ref (He.ga K "_law_reserved"))
  g_L_name : mg "_law_name" = some (.ref (He.ga K "_law_name"))
  g_L_names : mg "_law_names" = some (.ref (He.ga K "_law_names"))
  g_L_number : mg "_law_number" = some (.ref (He.ga K "_law_number"))
  g_L_sum : mg "_law_sum" = some (.ref (He.ga K "_law_sum"))
  g_L_truth : mg "_law_truth" = some (.ref (He.ga K "_law_truth"))
  g_L_rank : mg "_law_rank" = some (.ref (He.ga K "_law_rank"))
  g_L_canonical : mg "_law_canonical" = some (.ref (He.ga K "_law_canonical"))
  g_L_is_within : mg "_law_is_within" = some (.ref (He.ga K "_law_is_within"))
  g_L_listed : mg "_law_listed" = some (.ref (He.ga K "_law_listed"))
  g_L_pairs : mg "_law_pairs" = some (.ref (He.ga K "_law_pairs"))
  g_L_calculated : mg "_law_calculated" = some (.ref (He.ga K "_law_calculated"))
  g_L_value : mg "_law_value" = some (.ref (He.ga K "_law_value"))
  g_L_evaluated : mg "_law_evaluated" = some (.ref (He.ga K "_law_evaluated"))
  g_L_same : mg "_law_same" = some (.ref (He.ga K "_law_same"))
  g_law : mg "law" = some (.ref (He.ga K "law"))
  b_ValueError : mg "ValueError" = none
  b_abs : mg "abs" = none
  b_all : mg "all" = none
  b_any : mg "any" = none
  b_bool : mg "bool" = none
  b_dict : mg "dict" = none
  b_int : mg "int" = none
  b_isinstance : mg "isinstance" = none
  b_len : mg "len" = none
  b_list : mg "list" = none
  b_max : mg "max" = none
  b_range : mg "range" = none
  b_str : mg "str" = none
  b_super : mg "super" = none
  b_tuple : mg "tuple" = none
  u_RESERVED : He.tupB K "RESERVED" [.str "and", .str "checkpoint", .str "else", .str "end", .str "if", .str "input", .str "mod", .str "not", .str "or", .str "process", .str "receive", .str "send", .str "set", .str "take", .str "while"] = true
  u_WORDS : He.tupB K "WORDS" [.str "and", .str "mod", .str "not", .str "or"] = true
  u_SIGNS : He.tupB K "SIGNS" [.str "<=", .str ">=", .str "!=", .str "//", .str "+", .str "-", .str "*", .str "(", .str ")", .str "[", .str "]", .str "=", .str "<", .str ">"] = true
  u_COMPARISONS : He.tupB K "COMPARISONS" [.str "=", .str "!=", .str "<", .str "<=", .str ">", .str ">="] = true
  m_BadText_Fault : PySem.W.exmOne K (.ref (He.ga K "BadText")) (.ref (He.ga K "Fault")) = some false
  m_Fault_Fault : PySem.W.exmOne K (.ref (He.ga K "Fault")) (.ref (He.ga K "Fault")) = some true
theorem tx {K : Frag} {h : Heap} {mg : Str → Option Value} (X : K.In h) (G : h.Ns mainGlobals mg) {w : World} (ct : He.SaysT fa fn ts w K) (m : ex K = true) : Tx K mg := by
  have c := ct.d
  obtain ⟨x0, m0⟩ := He.ba (show (_ && _) = true from m)
  obtain ⟨x1, m1⟩ := He.ba (show (_ && _) = true from m0)
  obtain ⟨x2, m2⟩ := He.ba (show (_ && _) = true from m1)
  obtain ⟨x3, m3⟩ := He.ba (show (_ && _) = true from m2)
  obtain ⟨x4, m4⟩ := He.ba (show (_ && _) = true from m3)
  obtain ⟨x5, m5⟩ := He.ba (show (_ && _) = true from m4)
  obtain ⟨x6, m6⟩ := He.ba (show (_ && _) = true from m5)
  obtain ⟨x7, m7⟩ := He.ba (show (_ && _) = true from m6)
  obtain ⟨x8, m8⟩ := He.ba (show (_ && _) = true from m7)
  obtain ⟨x9, m9⟩ := He.ba (show (_ && _) = true from m8)
  obtain ⟨x10, m10⟩ := He.ba (show (_ && _) = true from m9)
  exact ⟨He.str_ok X G (c.fact 0 (f := .str "LETTERS" "abcdefghijklmnopqrstuvwxyz") rfl),
    He.glo_ok X G (c.fact 1 (f := .glo "RESERVED") rfl),
    He.int_ok X G (c.fact 2 (f := .int "LONGEST_NAME" 8) rfl),
    He.int_ok X G (c.fact 3 (f := .int "MOST_DIGITS" 30) rfl),
    He.glo_ok X G (c.fact 4 (f := .glo "frozen") rfl),
    He.glo_ok X G (c.fact 5 (f := .glo "is_name") rfl),
    He.glo_ok X G (c.fact 6 (f := .glo "RerunError") rfl),
    He.glo_ok X G (c.fact 7 (f := .glo "BadText") rfl),
    He.glo_ok X G (c.fact 8 (f := .glo "Fault") rfl),
    He.str_ok X G (c.fact 9 (f := .str "FIGURES" "0123456789") rfl),
    He.glo_ok X G (c.fact 10 (f := .glo "WORDS") rfl),
    He.glo_ok X G (c.fact 11 (f := .glo "SIGNS") rfl),
    He.glo_ok X G (c.fact 12 (f := .glo "is_number") rfl),
    He.glo_ok X G (c.fact 13 (f := .glo "end_of_run") rfl),
    He.glo_ok X G (c.fact 14 (f := .glo "token_at") rfl),
    He.glo_ok X G (c.fact 15 (f := .glo "tokens") rfl),
    He.int_ok X G (c.fact 16 (f := .int "GREATEST" 1000000000000000000000000000000) rfl),
    He.glo_ok X G (c.fact 17 (f := .glo "COMPARISONS") rfl),
    He.glo_ok X G (c.fact 18 (f := .glo "Parser") rfl),
    He.cls_ok (c.fact 19 (f := .cls "Parser") rfl),
    He.mkr_ok (c.fact 20 (f := .mkr "Parser") rfl),
    He.meth_ok (c.fact 21 (f := .meth "Parser" "sees") rfl),
    He.meth_ok (c.fact 22 (f := .meth "Parser" "take") rfl),
    He.meth_ok (c.fact 23 (f := .meth "Parser" "refuse") rfl),
    He.meth_ok (c.fact 24 (f := .meth "Parser" "take_sign") rfl),
    He.meth_ok (c.fact 25 (f := .meth "Parser" "finish") rfl),
    He.meth_ok (c.fact 26 (f := .meth "Parser" "condition") rfl),
    He.meth_ok (c.fact 27 (f := .meth "Parser" "conjunction") rfl),
    He.meth_ok (c.fact 28 (f := .meth "Parser" "negation") rfl),
    He.meth_ok (c.fact 29 (f := .meth "Parser" "expression") rfl),
    He.meth_ok (c.fact 30 (f := .meth "Parser" "term") rfl),
    He.meth_ok (c.fact 31 (f := .meth "Parser" "factor") rfl),
    He.noat_ok (c.fact 32 (f := .noat "Parser" "place") rfl),
    He.noat_ok (c.fact 33 (f := .noat "Parser" "rest") rfl),
    He.glo_ok X G (c.fact 34 (f := .glo "parse_condition") rfl),
    He.glo_ok X G (c.fact 35 (f := .glo "bounded") rfl),
    He.glo_ok X G (c.fact 36 (f := .glo "calculated") rfl),
    He.glo_ok X G (c.fact 37 (f := .glo "compared") rfl),
    He.glo_ok X G (c.fact 38 (f := .glo "value_of") rfl),
    He.glo_ok X G (c.fact 39 (f := .glo "evaluate") rfl),
    He.glo_ok X G (c.fact 40 (f := .glo "holds") rfl),
    He.glo_ok X G (c.fact 41 (f := .glo "_law_draw") rfl),
    He.glo_ok X G (c.fact 42 (f := .glo "_law_reserved") rfl),
    He.glo_ok X G (c.fact 43 (f := .glo "_law_name") rfl),
    He.glo_ok X G (c.fact 44 (f := .glo "_law_names") rfl),
    He.glo_ok X G (c.fact 45 (f := .glo "_law_number") rfl),
    He.glo_ok X G (c.fact 46 (f := .glo "_law_sum") rfl),
    He.glo_ok X G (c.fact 47 (f := .glo "_law_truth") rfl),
    He.glo_ok X G (c.fact 48 (f := .glo "_law_rank") rfl),
    He.glo_ok X G (c.fact 49 (f := .glo "_law_canonical") rfl),
    He.glo_ok X G (c.fact 50 (f := .glo "_law_is_within") rfl),
    He.glo_ok X G (c.fact 51 (f := .glo "_law_listed") rfl),
    He.glo_ok X G (c.fact 52 (f := .glo "_law_pairs") rfl),
    He.glo_ok X G (c.fact 53 (f := .glo "_law_calculated") rfl),
    He.glo_ok X G (c.fact 54 (f := .glo "_law_value") rfl),
    He.glo_ok X G (c.fact 55 (f := .glo "_law_evaluated") rfl),
    He.glo_ok X G (c.fact 56 (f := .glo "_law_same") rfl),
    He.glo_ok X G (c.fact 57 (f := .glo "law") rfl),
    He.free_ok X G (c.fact 58 (f := .free "ValueError") rfl),
    He.free_ok X G (c.fact 59 (f := .free "abs") rfl),
    He.free_ok X G (c.fact 60 (f := .free "all") rfl),
    He.free_ok X G (c.fact 61 (f := .free "any") rfl),
    He.free_ok X G (c.fact 62 (f := .free "bool") rfl),
    He.free_ok X G (c.fact 63 (f := .free "dict") rfl),
    He.free_ok X G (c.fact 64 (f := .free "int") rfl),
    He.free_ok X G (c.fact 65 (f := .free "isinstance") rfl),
    He.free_ok X G (c.fact 66 (f := .free "len") rfl),
    He.free_ok X G (c.fact 67 (f := .free "list") rfl),
    He.free_ok X G (c.fact 68 (f := .free "max") rfl),
    He.free_ok X G (c.fact 69 (f := .free "range") rfl),
    He.free_ok X G (c.fact 70 (f := .free "str") rfl),
    He.free_ok X G (c.fact 71 (f := .free "super") rfl),
    He.free_ok X G (c.fact 72 (f := .free "tuple") rfl),
    x0,
    x1,
    x2,
    x3,
    of_decide_eq_true x4,
    of_decide_eq_true x5⟩
structure Ty (K : Frag) (w : World) : Prop where
  triv : True
theorem ty {K : Frag} {w : World} (ct : He.SaysT fa fn ts w K) (m : ex K = true) : Ty K w := by
  obtain ⟨x0, m0⟩ := He.ba (show (_ && _) = true from m)
  obtain ⟨x1, m1⟩ := He.ba (show (_ && _) = true from m0)
  obtain ⟨x2, m2⟩ := He.ba (show (_ && _) = true from m1)
  obtain ⟨x3, m3⟩ := He.ba (show (_ && _) = true from m2)
  obtain ⟨x4, m4⟩ := He.ba (show (_ && _) = true from m3)
  obtain ⟨x5, m5⟩ := He.ba (show (_ && _) = true from m4)
  obtain ⟨x6, m6⟩ := He.ba (show (_ && _) = true from m5)
  obtain ⟨x7, m7⟩ := He.ba (show (_ && _) = true from m6)
  obtain ⟨x8, m8⟩ := He.ba (show (_ && _) = true from m7)
  obtain ⟨x9, m9⟩ := He.ba (show (_ && _) = true from m8)
  obtain ⟨x10, m10⟩ := He.ba (show (_ && _) = true from m9)
  exact ⟨trivial⟩
structure Te (P : Program) (K : Frag) (mg : Str → Option Value) : Prop where
  triv : True
  x_BadText : ExcP P K mg "BadText" ["position"] d_E_BadText
  x_Fault : ExcP P K mg "Fault" ["reason"] d_E_Fault
  i_Fault : ExcC K (He.ga K "Fault")
  k_Fault_RerunError : PySem.W.kitOne K (.ref (He.ga K "Fault")) (.ref (He.ga K "RerunError")) = some true
  k_Fault_ValueError : PySem.W.kitOne K (.ref (He.ga K "Fault")) (.type "ValueError") = some true
theorem te {P : Program} {K : Frag} {mg : Str → Option Value} {w : World} (T : Tx K mg) (hP : PrgOk P file) (c : SaysE fa fn ts sd ex w K) : Te P K mg := by
  have m := c.more
  obtain ⟨x0, m0⟩ := He.ba (show (_ && _) = true from m)
  obtain ⟨x1, m1⟩ := He.ba (show (_ && _) = true from m0)
  obtain ⟨x2, m2⟩ := He.ba (show (_ && _) = true from m1)
  obtain ⟨x3, m3⟩ := He.ba (show (_ && _) = true from m2)
  obtain ⟨x4, m4⟩ := He.ba (show (_ && _) = true from m3)
  obtain ⟨x5, m5⟩ := He.ba (show (_ && _) = true from m4)
  obtain ⟨x6, m6⟩ := He.ba (show (_ && _) = true from m5)
  obtain ⟨x7, m7⟩ := He.ba (show (_ && _) = true from m6)
  obtain ⟨x8, m8⟩ := He.ba (show (_ && _) = true from m7)
  obtain ⟨x9, m9⟩ := He.ba (show (_ && _) = true from m8)
  obtain ⟨x10, m10⟩ := He.ba (show (_ && _) = true from m9)
  exact ⟨trivial, excB_ok (d := d_E_BadText) rfl x6 (c.supd 0 (d := d_E_BadText) rfl) hP T.b_super, excB_ok (d := d_E_Fault) rfl x7 (c.supd 1 (d := d_E_Fault) rfl) hP T.b_super, excIB_ok (excB_ok (d := d_E_Fault) rfl x7 (c.supd 1 (d := d_E_Fault) rfl) hP T.b_super).xok.xf x8, of_decide_eq_true x9, of_decide_eq_true x10⟩
theorem q_RESERVED {K : KX} {mg : Str → Option Value} (T : Tx K.f mg) {ρ : DL.Env} {γ : Ga} {Q : QD} (q : Q (.cst (strsD RESERVED_L)) γ) : dE K (tC (.ref (He.ga K "RESERVED"))) ρ γ Q := de_topB T.u_RESERVED (fun _ _ => (DL.RpL.cons (DL.Rp.str _) (DL.RpL.cons (DL.Rp.str _) (DL.RpL.cons (DL.Rp.str _) (DL.RpL.cons (DL.Rp.str _) (DL.RpL.cons (DL.Rp.str _) (DL.RpL.cons (DL.Rp.str _) (DL.RpL.cons (DL.Rp.str _) (DL.RpL.cons (DL.Rp.str _) (DL.RpL.cons (DL.Rp.str _) (DL.RpL.cons (DL.Rp.str _) (DL.RpL.cons (DL.Rp.str _) (DL.RpL.cons (DL.Rp.str _) (DL.RpL.cons (DL.Rp.str _) (DL.RpL.cons (DL.Rp.str _) (DL.RpL.cons (DL.Rp.str _) DL.RpL.nil)))))))))))))))) q
theorem q_WORDS {K : KX} {mg : Str → Option Value} (T : Tx K.f mg) {ρ : DL.Env} {γ : Ga} {Q : QD} (q : Q (.cst (strsD WORDS_L)) γ) : dE K (tC (.ref (He.ga K "WORDS"))) ρ γ Q := de_topB T.u_WORDS (fun _ _ => (DL.RpL.cons (DL.Rp.str _) (DL.RpL.cons (DL.Rp.str _) (DL.RpL.cons (DL.Rp.str _) (DL.RpL.cons (DL.Rp.str _) DL.RpL.nil))))) q
theorem q_SIGNS {K : KX} {mg : Str → Option Value} (T : Tx K.f mg) {ρ : DL.Env} {γ : Ga} {Q : QD} (q : Q (.cst (strsD SIGNS_L)) γ) : dE K (tC (.ref (He.ga K "SIGNS"))) ρ γ Q := de_topB T.u_SIGNS (fun _ _ => (DL.RpL.cons (DL.Rp.str _) (DL.RpL.cons (DL.Rp.str _) (DL.RpL.cons (DL.Rp.str _) (DL.RpL.cons (DL.Rp.str _) (DL.RpL.cons (DL.Rp.str _) (DL.RpL.cons (DL.Rp.str _) (DL.RpL.cons (DL.Rp.str _) (DL.RpL.cons (DL.Rp.str _) (DL.RpL.cons (DL.Rp.str _) (DL.RpL.cons (DL.Rp.str _) (DL.RpL.cons (DL.Rp.str _) (DL.RpL.cons (DL.Rp.str _) (DL.RpL.cons (DL.Rp.str _) (DL.RpL.cons (DL.Rp.str _) DL.RpL.nil))))))))))))))) q
theorem q_COMPARISONS {K : KX} {mg : Str → Option Value} (T : Tx K.f mg) {ρ : DL.Env} {γ : Ga} {Q : QD} (q : Q (.cst (strsD COMPARISONS_L)) γ) : dE K (tC (.ref (He.ga K "COMPARISONS"))) ρ γ Q := de_topB T.u_COMPARISONS (fun _ _ => (DL.RpL.cons (DL.Rp.str _) (DL.RpL.cons (DL.Rp.str _) (DL.RpL.cons (DL.Rp.str _) (DL.RpL.cons (DL.Rp.str _) (DL.RpL.cons (DL.Rp.str _) (DL.RpL.cons (DL.Rp.str _) DL.RpL.nil))))))) q
end K09

set_option Elab.async false
set_option linter.all false
set_option maxRecDepth 100000
set_option maxHeartbeats 4000000
namespace K09
open PySem PySem.Spec PyProof.Rows L2 DL
def loose0 : List Str := ["LETTERS", "RESERVED", "LONGEST_NAME", "MOST_DIGITS", "frozen", "is_name", "RerunError", "BadText", "Fault", "FIGURES", "WORDS", "SIGNS", "is_number", "end_of_run", "token_at", "tokens", "GREATEST", "COMPARISONS", "Parser", "parse_condition"]
def loose1 : List Str := ["bounded", "calculated", "compared", "value_of", "evaluate", "holds", "_law_draw", "_law_reserved", "_law_name", "_law_names", "_law_number", "_law_sum", "_law_truth", "_law_rank", "_law_canonical", "_law_is_within", "_law_listed", "_law_pairs", "_law_calculated", "_law_value"]
def loose2 : List Str := ["_law_evaluated", "_law_same"]
def loose : List Str := loose0 ++ loose1 ++ loose2
abbrev R : PySem.W.OpenRow := PySem.W.OpenLaw.row PySem.Challenge.rw_rerunrein_k09_values_of_conditions
abbrev hk : PySem.W.Hook := hookE 5 fa fn ts sd ex
def ob (s : PySem.W.SharedT) : AlE := obsE 5 fa fn ts sd ex (HandSHeadRun.getT s)
theorem ob_eq (s : PySem.W.SharedT) : ob s = hk.obs s.abs := obsE_eq (HandSHeadRun.getT_eq s)
theorem run (w : World) : HandSHeadRun.RunEq R (PySem.W.view R.prog [47]) hk ob 6000 loose w := by
  intro os
  kernel_rfl
def FactsT : Prop := ∀ {P : Program} {w : World} {K : Frag} {h : Heap} {mg : Str → Option Value} {f : Addr}, PrgOk P file → K.In h → h.Ns mainGlobals mg → mg ("law" : Str) = some (.ref f) → SaysE fa fn ts sd ex w K →
    ∃ fd : FuncData, (∀ (s : Shared) (v : Value), BindsTo s fd ⟨[v], []⟩ [("_law_script", v)]) ∧ ∀ base : Heap, FnG P w K mg base (L2.CX P w) 320 f fd ["_law_script"] (spLaw K)
end K09
section
open PySem PySem.W PySem.Calls PyProof.Rows
theorem K09.fin (HF : K09.FactsT) : PySem.Challenge.rw_rerunrein_k09_values_of_conditions.Holds := by
  w_on; o_law
  refine HandSHeadRun.head_any (r := OpenLaw.row PySem.Challenge.rw_rerunrein_k09_values_of_conditions) (q := view (OpenLaw.row PySem.Challenge.rw_rerunrein_k09_values_of_conditions).prog [47]) (H := K09.hk) (ob := K09.ob) (M := 6000) (loose := K09.loose) (d := HandSHeadRun.topDef (OpenLaw.row PySem.Challenge.rw_rerunrein_k09_values_of_conditions).prog 47) (kwd := []) K09.ob_eq
    (by kernel_rfl) (fun s => by kernel_rfl) K09.run (by kernel_rfl) (by kernel_rfl) (by kernel_rfl) (by rfl) (by first | assumption | decide +kernel) (by decide +kernel) ⟨rfl, rfl, rfl, rfl, rfl, by decide +kernel⟩ ?hw ?hc
  case hw => w_witness2
  case hc =>
    refine DL.walkG (l := PySem.Challenge.rw_rerunrein_k09_values_of_conditions) (n := 63) (k := 320) (x := "_law_script") (CX := fun w => L2.CX (PySem.Challenge.rw_rerunrein_k09_values_of_conditions).prog w) rfl (by decide) (by kernel_rfl) ⟨rfl, by decide, by decide⟩ ?F (fun w H s e s' z => DL.cx_none z)
    intro w mg fa h Y G hmg0
    obtain ⟨K, KX, c⟩ := Y
    have hmg : mg ("law" : PySem.Str) = some (.ref fa) := by
      have e : (HandSHeadRun.topDef (OpenLaw.row PySem.Challenge.rw_rerunrein_k09_values_of_conditions).prog 47).name = ("law" : PySem.Str) := by kernel_rfl
      rw [← e]
      exact hmg0
    obtain ⟨fd, hb, hF⟩ := HF (P := (PySem.Challenge.rw_rerunrein_k09_values_of_conditions).prog) (w := w) ⟨rfl, by kernel_rfl⟩ KX G hmg c
    exact ⟨K, fd, DL.spLaw K, KX, hb, fun H a ns hl _ hS => ⟨a, ns, rfl, hl, hS, fun _ _ z => z⟩, fun base _ _ => hF base⟩
end

set_option Elab.async false
set_option linter.all false
set_option maxRecDepth 100000
set_option maxHeartbeats 4000000
namespace K09
open PySem PySem.Spec PyProof.Rows L2 DL
/-! ### the law's trees, their tokens, their texts -/
inductive Ex where
  | num (n : Int)
  | var (l : List Nat)
  | neg (a : Ex)
  | bin (o : List Nat) (a b : Ex)
  | cmp (o : List Nat) (a b : Ex)
  | nt (a : Ex)
  | con (o : List Nat) (a b : Ex)
def Ex.d : Ex → D
  | .num n => .tup [.str (S sNumber), .int n]
  | .var l => .tup [.str (S sVariable), .str (S l)]
  | .neg a => .tup [.str (S sNegate), a.d]
  | .bin o a b => .tup [.str (S o), a.d, b.d]
  | .cmp o a b => .tup [.str (S o), a.d, b.d]
  | .nt a => .tup [.str (S sNot), a.d]
  | .con o a b => .tup [.str (S o), a.d, b.d]
def NUMS : List Int := [0, 1, 2, 3, 7, 10, 999, 100000000000000000000000000000, 999999999999999999999999999999]
def OPS : List (List Nat) := [[43], [45], [42], [47, 47], [109, 111, 100]]
def CONS : List (List Nat) := [sOr, sAnd]
/-- an expression -/
def Ex.okE : Ex → Bool
  | .num n => decide (n ∈ NUMS)
  | .var l => isName l
  | .neg a => a.okE
  | .bin o a b => decide (o ∈ OPS) && a.okE && b.okE
  | _ => false
/-- a condition -/
def Ex.okC : Ex → Bool
  | .cmp o a b => decide (o ∈ CMPS) && a.okE && b.okE
  | .nt a => a.okC
  | .con o a b => decide (o ∈ CONS) && a.okC && b.okC
  | _ => false
def Ex.ok (e : Ex) : Bool := e.okE || e.okC
def Ex.dep : Ex → Nat
  | .num _ => 0
  | .var _ => 0
  | .neg a => a.dep + 1
  | .bin _ a b => max a.dep b.dep + 1
  | .cmp _ a b => max a.dep b.dep + 1
  | .nt a => a.dep + 1
  | .con _ a b => max a.dep b.dep + 1
def Ex.size : Ex → Nat
  | .num _ => 1
  | .var _ => 1
  | .neg a => a.size + 1
  | .bin _ a b => a.size + b.size + 1
  | .cmp _ a b => a.size + b.size + 1
  | .nt a => a.size + 1
  | .con _ a b => a.size + b.size + 1
def rankOf (o : List Nat) : Nat := if o ∈ ADD then 1 else 2
def rankC (o : List Nat) : Nat := if o = sOr then 1 else 2
def Ex.rk : Ex → Nat
  | .bin o _ _ => rankOf o
  | .con o _ _ => rankC o
  | _ => 3
/-- the brackets around it -/
def Ex.bo : Ex → List Nat
  | .cmp _ _ _ => [91]
  | .nt _ => [91]
  | .con _ _ _ => [91]
  | _ => [40]
def Ex.bc : Ex → List Nat
  | .cmp _ _ _ => [93]
  | .nt _ => [93]
  | .con _ _ _ => [93]
  | _ => [41]
def digs (n : Int) : List Nat := (toString n : Str).cps.toList
def Wr (e : Ex) (least : Nat) (c x : List (List Nat)) : Prop := x = e.bo :: (c ++ [e.bc]) ∨ (x = c ∧ least ≤ e.rk)
def RdC : Ex → List (List Nat) → Prop
  | .num n, ws => ws = [digs n]
  | .var l, ws => ws = [l]
  | .neg a, ws => ∃ c x, RdC a c ∧ Wr a 3 c x ∧ ws = [45] :: x
  | .bin o a b, ws => ∃ c x c' x', RdC a c ∧ Wr a (rankOf o) c x ∧ RdC b c' ∧ Wr b (rankOf o + 1) c' x' ∧ ws = x ++ o :: x'
  | .cmp o a b, ws => ∃ c x c' x', RdC a c ∧ Wr a 1 c x ∧ RdC b c' ∧ Wr b 1 c' x' ∧ ws = x ++ o :: x'
  | .nt a, ws => ∃ c x, RdC a c ∧ Wr a 3 c x ∧ ws = sNot :: x
  | .con o a b, ws => ∃ c x c' x', RdC a c ∧ Wr a (rankC o) c x ∧ RdC b c' ∧ Wr b (rankC o + 1) c' x' ∧ ws = x ++ o :: x'
def Rd (e : Ex) (least : Nat) (ws : List (List Nat)) : Prop := ∃ c, RdC e c ∧ Wr e least c ws
/-! ### the promises of the parser -/
def Strm (n : Nat) (A B : MO) : Prop := ∃ cs : List Int, ∃ c t m : Int, A = .lst (cs.map D.int) ∧ B = .lst [.loc 0, .int c, .int t, .int m] ∧ 0 ≤ c ∧ 0 ≤ t ∧ t + n ≤ 2 ^ 20 ∧ 0 ≤ m ∧ m < 2 ^ 31
def PO (K : Frag) (T ts : List Tkn) : MO := .ins (He.ga K "Parser") ["rest", "place"] [.lst (T.map Tkn.d), .int ((T.length - ts.length : Nat) : Int)]
def XB (K : Frag) (e : XD) (p : Nat) (γ : Ga) : Prop := e (He.ga K "BadText") ["position"] [.int p] γ
def spRes (K : Frag) (r : PR) (k : Nat) (T : List Tkn) (γ : Ga) (q : QD) (e : XD) : Prop := (∃ d r', r = some (.ok (d, r')) ∧ q d (γ.set k (PO K T r'))) ∨ ∃ p, r = some (.error p) ∧ ∀ ts', XB K e p (γ.set k (PO K T ts'))
def spP (K : Frag) (G : List Tkn → Prop) (f : List Tkn → PR) : SpD := fun ds γ q e => ∃ k T ts, ds = [.loc k] ∧ γ[k]? = some (PO K T ts) ∧ ts <:+ T ∧ G ts ∧ spRes K (f ts) k T γ q e
def sp_is_name (K : Frag) : SpD := fun ds γ q _ => ∃ l, ds = [.str (S l)] ∧ l.length ≤ 100000 ∧ q (.bl (isName l)) γ
def sp_is_number (K : Frag) : SpD := fun ds γ q _ => ∃ l, ds = [.str (S l)] ∧ l.length ≤ 100000 ∧ q (.bl (isNum l)) γ
def sp_end_of_run (K : Frag) : SpD := fun ds γ q _ => ∃ l g, ∃ s : Nat, ds = [.str (S l), .int s, .str (S g)] ∧ l.length ≤ 100000 ∧ s ≤ l.length ∧ q (.int ((s + (runOf g (l.drop s)).length : Nat) : Int)) γ
def sp_token_at (K : Frag) : SpD := fun ds γ q _ => ∃ l, ∃ s : Nat, ds = [.str (S l), .int s] ∧ l.length ≤ 100000 ∧ s < l.length ∧
  q (.tup [(tokA (l.drop s) s).1.d, .int ((s + (tokA (l.drop s) s).2 : Nat) : Int)]) γ
def sp_tokens (K : Frag) : SpD := fun ds γ q _ => ∃ l, ds = [.str (S l)] ∧ l.length ≤ 100000 ∧ q (.lst ((toks l).map Tkn.d)) γ
def sp_Parser_init (K : Frag) : SpD := fun ds γ q _ => ∃ k l, ds = [.loc k, .str (S l)] ∧ l.length ≤ 100000 ∧ γ[k]? = some (.ins (He.ga K "Parser") [] []) ∧ q .non (γ.set k (PO K (toks l) (toks l)))
def sp_Parser_sees (K : Frag) : SpD := fun ds γ q _ => ∃ k T t ts gs x, ds = [.loc k, x] ∧ (x = .tup (strsD gs) ∨ x = .cst (strsD gs)) ∧ γ[k]? = some (PO K T (t :: ts)) ∧ (t :: ts) <:+ T ∧ q (.bl (sees t gs)) γ
def sp_Parser_take (K : Frag) : SpD := fun ds γ q _ => ∃ k T t ts, ds = [.loc k] ∧ γ[k]? = some (PO K T (t :: ts)) ∧ (t :: ts) <:+ T ∧ q t.d (γ.set k (PO K T ts))
def sp_Parser_refuse (K : Frag) : SpD := fun ds γ q e => ∃ k T t ts, ds = [.loc k] ∧ γ[k]? = some (PO K T (t :: ts)) ∧ (t :: ts) <:+ T ∧ XB K e t.p γ
def sp_Parser_take_sign (K : Frag) : SpD := fun ds γ q e => ∃ k T t ts gs x, ds = [.loc k, x] ∧ (x = .tup (strsD gs) ∨ x = .cst (strsD gs)) ∧ γ[k]? = some (PO K T (t :: ts)) ∧ (t :: ts) <:+ T ∧ (sees t gs = true → q (.str (S t.v)) (γ.set k (PO K T ts))) ∧ (sees t gs = false → XB K e t.p γ)
def sp_Parser_finish (K : Frag) : SpD := fun ds γ q e => ∃ k T t ts d, ds = [.loc k, d] ∧ γ[k]? = some (PO K T (t :: ts)) ∧ (t :: ts) <:+ T ∧ (t.k = .fin → q d γ) ∧ (t.k ≠ .fin → XB K e t.p γ)
def spParse (K : Frag) (G : List Tkn → Prop) (f : List Tkn → PR) : SpD := fun ds γ q e => ∃ l, ds = [.str (S l)] ∧ l.length ≤ 100000 ∧ G (toks l) ∧ ((∃ d, pAll f l = some (.ok d) ∧ (∀ m, d.lo m = true) ∧ q d γ) ∨ ∃ p, pAll f l = some (.error p) ∧ XB K e p γ)
/-! ### frozen -/
mutual
def _root_.DL.D.fz : D → D
  | .tup ds => .tup (fzL ds)
  | .lst ds => .tup (fzL ds)
  | d => d
def fzL : List D → List D
  | [] => []
  | d :: ds => d.fz :: fzL ds
end
mutual
/-- None, bools, ints, texts, tuples and lists of these, up to a depth -/
def _root_.DL.D.any (n : Nat) : D → Bool
  | .non => true
  | .bl _ => true
  | .int _ => true
  | .str _ => true
  | .tup ds => decide (ds.length ≤ 1000000) && anyL n ds
  | .lst ds => decide (ds.length ≤ 1000000) && anyL n ds
  | _ => false
def anyL : Nat → List D → Bool
  | _, [] => true
  | 0, _ :: _ => false
  | n + 1, d :: ds => d.any n && anyL (n + 1) ds
end
def spFz (K : Frag) (n : Nat) : SpD := fun ds γ q _ => ∃ d, ds = [d] ∧ d.any n = true ∧ q d.fz γ
def sp_frozen (K : Frag) : SpD := spFz K 12
/-! ### canonical texts, values -/
def wrap (e : Ex) (least : Nat) (t : List Nat) : List Nat := if e.rk < least then e.bo ++ t ++ e.bc else t
def canon : Ex → List Nat
  | .num n => digs n
  | .var l => l
  | .neg a => [45] ++ wrap a 3 (canon a)
  | .nt a => [110, 111, 116, 32] ++ wrap a 3 (canon a)
  | .cmp o a b => canon a ++ [32] ++ o ++ [32] ++ canon b
  | .bin o a b => wrap a (rankOf o) (canon a) ++ [32] ++ o ++ [32] ++ wrap b (rankOf o + 1) (canon b)
  | .con o a b => wrap a (rankC o) (canon a) ++ [32] ++ o ++ [32] ++ wrap b (rankC o + 1) (canon b)
def Ex.dl : Ex → D
  | .num n => .lst [.str (S sNumber), .int n]
  | .var l => .lst [.str (S sVariable), .str (S l)]
  | .neg a => .lst [.str (S sNegate), a.dl]
  | .bin o a b => .lst [.str (S o), a.dl, b.dl]
  | .cmp o a b => .lst [.str (S o), a.dl, b.dl]
  | .nt a => .lst [.str (S sNot), a.dl]
  | .con o a b => .lst [.str (S o), a.dl, b.dl]
def spWr (K : Frag) (dp : Nat) : SpD := fun ds γ q _ => ∃ x, ∃ e : Ex, ds = [x] ∧ (x = e.d ∨ x = e.dl) ∧ e.ok = true ∧ e.dep ≤ dp ∧ e.size ≤ 400 ∧ q (.str (S (canon e))) γ
def spBr (K : Frag) (dp : Nat) : SpD := fun ds γ q _ => ∃ x, ∃ e : Ex, ∃ least : Nat, ds = [x, .int least] ∧ (x = e.d ∨ x = e.dl) ∧ e.ok = true ∧ e.dep ≤ dp ∧ e.size ≤ 400 ∧ least ≤ 3 ∧ q (.str (S (wrap e least (canon e)))) γ
def spCan (K : Frag) (dp : Nat) : SpD := fun ds γ q _ => ∃ e : Ex, ∃ least : Nat, ds = [e.d, .int least] ∧ e.ok = true ∧ e.dep ≤ dp ∧ e.size ≤ 400 ∧ 1 ≤ least ∧ least ≤ 3 ∧ q (.str (S (wrap e least (canon e)))) γ
def spLst (K : Frag) (dp : Nat) : SpD := fun ds γ q _ => ∃ x, ds = [x] ∧ ((∃ e : Ex, x = e.d ∧ e.dep ≤ dp ∧ q e.dl γ) ∨ (x.flat = true ∧ q x γ))
def BIG : Int := 1000000000000000000000000000000
abbrev Rs := Except (List Nat) D
def sDivision : List Nat := [100, 105, 118, 105, 115, 105, 111, 110]
def sOverflow : List Nat := [111, 118, 101, 114, 102, 108, 111, 119]
def bnd (z : Int) : Rs := if z.natAbs < BIG.natAbs then .ok (.int z) else .error sOverflow
def cal (o : List Nat) (x y : Int) : Rs :=
  if o = [43] then bnd (x + y) else if o = [45] then bnd (x - y) else if o = [42] then bnd (x * y)
  else if y = 0 then .error sDivision else if o = [47, 47] then .ok (.int (Int.fdiv x y)) else .ok (.int (Int.fmod x y))
def cmpD (o : List Nat) (x y : Int) : Bool :=
  if o = [61] then decide (x = y) else if o = [33, 61] then decide (x ≠ y) else if o = [60] then decide (x < y)
  else if o = [60, 61] then decide (x ≤ y) else if o = [62] then decide (x > y) else decide (x ≥ y)
def bind2 (r s : Rs) (f : D → D → Rs) : Rs := match r with
  | .error p => .error p
  | .ok x => match s with
    | .error p => .error p
    | .ok y => f x y
def onI (f : Int → Int → Rs) : D → D → Rs
  | .int x, .int y => f x y
  | _, _ => .error []
def onB (f : Bool → Bool → Bool) : D → D → Rs
  | .bl x, .bl y => .ok (.bl (f x y))
  | _, _ => .error []
/-- the value of a tree, or the reason of the first fault -/
def ev (kn : List Nat → Option Int) : Ex → Rs
  | .num n => .ok (.int n)
  | .var l => .ok (.int ((kn l).getD 0))
  | .neg a => bind2 (ev kn a) (.ok .non) fun x _ => match x with | .int n => .ok (.int (-n)) | _ => .error []
  | .bin o a b => bind2 (ev kn a) (ev kn b) (onI (cal o))
  | .cmp o a b => bind2 (ev kn a) (ev kn b) (onI fun x y => .ok (.bl (cmpD o x y)))
  | .nt a => bind2 (ev kn a) (.ok .non) fun x _ => match x with | .bl n => .ok (.bl (!n)) | _ => .error []
  | .con o a b => bind2 (ev kn a) (ev kn b) (onB fun x y => if o = sAnd then x && y else x || y)
def Rs.d : Rs → D
  | .ok d => d
  | .error r => .tup [.str (S r)]
def KnD (kd : D) (kn : List Nat → Option Int) : Prop := ∃ ks vs, kd = .dic ks vs ∧ (∀ l, valG ks vs (.inr (S l)) = (kn l).map D.int) ∧ ∀ l n, kn l = some n → n.natAbs < BIG.natAbs
def spVal (K : Frag) (dp : Nat) : SpD := fun ds γ q e => ∃ x kd kn, ∃ t : Ex, ds = [x, kd] ∧ (x = t.d ∨ x = t.dl) ∧ t.ok = true ∧ t.dep ≤ dp ∧ KnD kd kn ∧ (∀ d, ev kn t = .ok d → q d γ) ∧ (∀ r, ev kn t = .error r → e (He.ga K "Fault") ["reason"] [.str (S r)] γ)
abbrev Pr := Bool × List Nat × Int
def Pr.d (p : Pr) : D := if p.1 then .tup [.str (S p.2.1), .int p.2.2] else .lst [.str (S p.2.1), .int p.2.2]
/-- what the pairs say of a name: the last pair -/
def lk (ps : List Pr) (l : List Nat) : Option Int := (ps.reverse.find? fun p => decide (p.2.1 = l)).map (·.2.2)
def PrsD (x : D) (ps : List Pr) : Prop := (x = .lst (ps.map Pr.d) ∨ x = .tup (ps.map Pr.d)) ∧ ps.length ≤ 100 ∧ ∀ p ∈ ps, p.2.2.natAbs < BIG.natAbs
def sp_evaluate (K : Frag) : SpD := fun ds γ q e => ∃ x vs ps, ∃ t : Ex, ds = [x, vs] ∧ (x = t.d ∨ x = t.dl) ∧ t.ok = true ∧ t.dep ≤ 100 ∧ PrsD vs ps ∧ (∀ d, ev (lk ps) t = .ok d → q d γ) ∧ (∀ r, ev (lk ps) t = .error r → e (He.ga K "Fault") ["reason"] [.str (S r)] γ)
def sp_L_evaluated (K : Frag) : SpD := fun ds γ q _ => ∃ x vs ps, ∃ t : Ex, ds = [x, vs] ∧ (x = t.d ∨ x = t.dl) ∧ t.ok = true ∧ t.dep ≤ 100 ∧ PrsD vs ps ∧ q (ev (lk ps) t).d γ
def sp_bounded (K : Frag) : SpD := fun ds γ q e => ∃ z : Int, ds = [.int z] ∧ z.natAbs < 2 ^ 300 ∧ (∀ d, bnd z = .ok d → q d γ) ∧ (∀ r, bnd z = .error r → e (He.ga K "Fault") ["reason"] [.str (S r)] γ)
def sp_calculated (K : Frag) : SpD := fun ds γ q e => ∃ o, ∃ x y : Int, ds = [.str (S o), .int x, .int y] ∧ o ∈ OPS ∧ x.natAbs < BIG.natAbs ∧ y.natAbs < BIG.natAbs ∧ (∀ d, cal o x y = .ok d → q d γ) ∧ (∀ r, cal o x y = .error r → e (He.ga K "Fault") ["reason"] [.str (S r)] γ)
def sp_compared (K : Frag) : SpD := fun ds γ q _ => ∃ o, ∃ x y : Int, ds = [.str (S o), .int x, .int y] ∧ o ∈ CMPS ∧ x.natAbs < BIG.natAbs ∧ y.natAbs < BIG.natAbs ∧ q (.bl (cmpD o x y)) γ
def sp_L_same (K : Frag) : SpD := fun ds γ q _ => ∃ kn, ∃ t : Ex, t.ok = true ∧ ds = [(ev kn t).d, (ev kn t).d] ∧ (∀ l n, kn l = some n → n.natAbs < BIG.natAbs) ∧ q (.bl true) γ
def spLVal (K : Frag) (dp : Nat) : SpD := fun ds γ q _ => ∃ kd kn, ∃ t : Ex, ds = [t.d, kd] ∧ t.ok = true ∧ t.dep ≤ dp ∧ KnD kd kn ∧ q (ev kn t).d γ
/-! ### drawn things -/
def sp_L_draw (K : Frag) : SpD := fun ds γ q _ => ∃ n : Nat, ∃ m : Int, ∃ A B rest, ds = [.loc 1, .int m] ∧ 0 < m ∧ m < 1000000 ∧ γ = A :: B :: rest ∧ Strm (n + 1) A B ∧ ∀ d A' B', 0 ≤ d → d < m → Strm n A' B' → q (.int d) (A' :: B' :: rest)
def sp_L_reserved (K : Frag) : SpD := fun ds γ q _ => ds = [] ∧ q (.lst (strsD RESV)) γ
def sp_L_name (K : Frag) : SpD := fun ds γ q _ => ∃ n A B rest, ds = [.loc 1] ∧ γ = A :: B :: rest ∧ Strm (n + 9) A B ∧ ∀ l A' B', isName l = true → Strm n A' B' → q (.str (S l)) (A' :: B' :: rest)
def sp_L_names (K : Frag) : SpD := fun ds γ q _ => ∃ n A B rest, ds = [.loc 1, .int 3] ∧ γ = A :: B :: rest ∧ Strm (n + 27) A B ∧ ∀ ns A' B', ns.length = 3 → (∀ l ∈ ns, isName l = true) → ns.Nodup → Strm n A' B' → q (.lst (strsD ns)) (A' :: B' :: rest)
def sp_L_number (K : Frag) : SpD := fun ds γ q _ => ∃ n A B rest, ds = [.loc 1] ∧ γ = A :: B :: rest ∧ Strm (n + 1) A B ∧ ∀ i A' B', i ∈ NUMS → Strm n A' B' → q (.int i) (A' :: B' :: rest)
def bS : Nat → Nat
  | 0 => 3
  | d + 1 => 3 + 2 * bS d
def spSum (K : Frag) (dp : Nat) : SpD := fun ds γ q _ => ∃ n A B rest ns, ∃ dq : Nat, ds = [.loc 1, .lst (strsD ns), .int dq] ∧ dq ≤ dp ∧ ns.length = 3 ∧ (∀ l ∈ ns, isName l = true) ∧ γ = A :: B :: rest ∧ Strm (n + bS dq) A B ∧ ∀ e : Ex, ∀ A' B', e.okE = true → e.dep ≤ dq → Strm n A' B' → q e.d (A' :: B' :: rest)
def sp_L_rank (K : Frag) : SpD := fun ds γ q _ => ∃ e : Ex, e.ok = true ∧ ∃ o xs, e.d = .tup (o :: xs) ∧ ds = [o] ∧ q (.int e.rk) γ
def sp_L_is_within (K : Frag) : SpD := fun ds γ q _ => ∃ l, ds = [.str (S l)] ∧ l.length ≤ 100000 ∧ ∀ b, q (.bl b) γ
def sp_L_pairs (K : Frag) : SpD := fun ds γ q _ => ∃ n A B rest ns, ds = [.loc 1, .lst (strsD ns)] ∧ ns.length = 3 ∧ ns.Nodup ∧ γ = A :: B :: rest ∧ Strm (n + 18) A B ∧ ∀ ps kd A' B', ps.length ≤ 3 → (∀ p ∈ ps, p.2.2.natAbs < BIG.natAbs) → KnD kd (lk ps) → (kd.lo 0 = true) → Strm n A' B' → q (.lst [.lst (ps.map Pr.d), kd]) (A' :: B' :: rest)
abbrev eF : List Tkn → PR := pE (pFac 41)
abbrev cF : List Tkn → PR := pC (pNeg eF 41)
def GT : List Tkn → Prop := fun _ => True
def sp_Parser_expression (K : Frag) : SpD := spP K GT eF
def sp_Parser_term (K : Frag) : SpD := spP K GT (pT (pFac 41))
def sp_Parser_factor (K : Frag) : SpD := spP K GT (pFac 41)
def sp_Parser_condition (K : Frag) : SpD := spP K GT cF
def sp_Parser_conjunction (K : Frag) : SpD := spP K GT (pJ (pNeg eF 41))
def sp_Parser_negation (K : Frag) : SpD := spP K GT (pNeg eF 41)
def sp_parse_condition (K : Frag) : SpD := spParse K GT cF
def sp_value_of (K : Frag) : SpD := spVal K 100
def sp_L_sum (K : Frag) : SpD := spSum K 4
def kE : Ex → Nat
  | .num _ => 1
  | .var _ => 1
  | .neg a => kE a + 2
  | .bin _ a b => kE a + kE b + 2
  | .cmp _ a b => kE a + kE b
  | .nt a => kE a
  | .con _ a b => kE a + kE b
def kC : Ex → Nat
  | .cmp _ _ _ => 1
  | .nt a => kC a + 2
  | .con _ a b => kC a + kC b + 1
  | _ => 0
def KB (e : Ex) (dq : Nat) : Prop := kE e ≤ 20 * 2 ^ dq ∧ kC e + 1 ≤ 2 ^ (dq + 1)
def bT : Nat → Nat
  | 0 => 100
  | d + 1 => 100 + 2 * bT d
def spTruth (K : Frag) (dp : Nat) : SpD := fun ds γ q _ => ∃ n A B rest ns, ∃ dq : Nat, ds = [.loc 1, .lst (strsD ns), .int dq] ∧ dq ≤ dp ∧ ns.length = 3 ∧ (∀ l ∈ ns, isName l = true) ∧ γ = A :: B :: rest ∧ Strm (n + bT dq) A B ∧ ∀ e : Ex, ∀ A' B', e.okC = true → e.dep ≤ dq + 3 → KB e dq → Strm n A' B' → q e.d (A' :: B' :: rest)
def fOf (st : List Nat) : List Tkn → PR := if st = yE then eF else cF
def sp_L_truth (K : Frag) : SpD := spTruth K 3
def sp_L_calculated (K : Frag) : SpD := fun ds γ q _ => ∃ o, ∃ x y : Int, ds = [.str (S o), .int x, .int y] ∧ o ∈ OPS ∧ x.natAbs < BIG.natAbs ∧ y.natAbs < BIG.natAbs ∧ q (cal o x y).d γ
def sp_L_canonical (K : Frag) : SpD := spCan K 6
def sp_L_listed (K : Frag) : SpD := spLst K 7
def sp_L_value (K : Frag) : SpD := spLVal K 6
def holdD : Rs → Bool
  | .ok (.bl b) => b
  | _ => false
def sp_holds (K : Frag) : SpD := fun ds γ q _ => ∃ x vs ps, ∃ t : Ex, ds = [x, vs] ∧ (x = t.d ∨ x = t.dl) ∧ t.okC = true ∧ t.dep ≤ 100 ∧ PrsD vs ps ∧ q (.bl (holdD (ev (lk ps) t))) γ
def N_frozen : List Str := ["thing", "part"]
theorem sc_frozen : FnScope N_frozen ["thing"] (defScope (top 5)) := ⟨rfl, rfl, rfl, by decide +kernel, rfl, by decide +kernel, by decide +kernel⟩
def t_frozen (K : Frag) (s_frozen : SpD) (W : WX) : TS := (tSeq (tIfS (tB (tCB (rIsiT K) (tCons (tVar 0) (tCons (tTup (tCons (tC (.ty "tuple")) (tCons (tC (.ty "list")) tNil))) tNil)))) (tRet (tCB (rTupleOf K) (tCons (tLc (iAny K (tVar 0)) (gName 1) tYes (tCallW (toSp K s_frozen) (WE W0) (tCons (tVar 1) tNil)) [1]) tNil))) tNext) (tRet (tVar 0)))
abbrev DL_frozen (K : Frag) (s_frozen : SpD) (sp : SpD) : Prop := ∀ ds γ q e E, loG γ.length γ = true → loL γ.length ds = true → sp ds γ q e → dS ⟨K, wOf E, fun _ => DrX γ.length e⟩ γ.length (t_frozen K s_frozen (wOf E)) (ds.map some ++ List.replicate (2 - ds.length) none) γ { nx := fun _ γ' => Dr γ.length q .non γ', rt := Dr γ.length q }
def N_is_name : List Str := ["thing", "letter"]
theorem sc_is_name : FnScope N_is_name ["thing"] (defScope (top 6)) := ⟨rfl, rfl, rfl, by decide +kernel, rfl, by decide +kernel, by decide +kernel⟩
def t_is_name (K : Frag) (W : WX) : TS := (tSeq (tIfS (tOr (tNot (tB (tCB (rIsi K) (tCons (tVar 0) (tCons (tC (.ty "str")) tNil))))) (tOr (tNot (tTest (tChain rLeI rLeI (tC (.int 1)) (tCB (rLenG K) (tCons (tVar 0) tNil)) (tC (.int 8))))) (tTest (tOp (rInG K) (tVar 0) (tC (.ref (He.ga K "RESERVED"))))))) (tRet (tC (.bl false))) tNext) (tRet (tCB (rAll K) (tCons (tLc (iStr (tVar 0)) (gName 1) tYes (tOp (rInG K) (tVar 1) (tC (.str (S [97, 98, 99, 100, 101, 102, 103, 104, 105, 106, 107, 108, 109, 110, 111, 112, 113, 114, 115, 116, 117, 118, 119, 120, 121, 122])))) [1]) tNil))))
abbrev DL_is_name (K : Frag) (sp : SpD) : Prop := ∀ ds γ q e E, loG γ.length γ = true → loL γ.length ds = true → sp ds γ q e → dS ⟨K, wOf E, fun _ => DrX γ.length e⟩ γ.length (t_is_name K (wOf E)) (ds.map some ++ List.replicate (2 - ds.length) none) γ { nx := fun _ γ' => Dr γ.length q .non γ', rt := Dr γ.length q }
def N_is_number : List Str := ["text", "sign"]
theorem sc_is_number : FnScope N_is_number ["text"] (defScope (top 15)) := ⟨rfl, rfl, rfl, by decide +kernel, rfl, by decide +kernel, by decide +kernel⟩
def t_is_number (K : Frag) (W : WX) : TS := (tSeq (tIfS (tOr (tNot (tTest (tChain rLtI rLeI (tC (.int 0)) (tCB (rLenG K) (tCons (tVar 0) tNil)) (tC (.int 30))))) (tNot (tB (tCB (rAll K) (tCons (tLc (iStr (tVar 0)) (gName 1) tYes (tOp (rInG K) (tVar 1) (tC (.str (S [48, 49, 50, 51, 52, 53, 54, 55, 56, 57])))) [1]) tNil))))) (tRet (tC (.bl false))) tNext) (tRet (tOrV (tOp (rEqG K) (tVar 0) (tC (.str (S [48])))) (tOp (rNeG K) (tOp (rIx K) (tVar 0) (tC (.int 0))) (tC (.str (S [48])))))))
abbrev DL_is_number (K : Frag) (sp : SpD) : Prop := ∀ ds γ q e E, loG γ.length γ = true → loL γ.length ds = true → sp ds γ q e → dS ⟨K, wOf E, fun _ => DrX γ.length e⟩ γ.length (t_is_number K (wOf E)) (ds.map some ++ List.replicate (2 - ds.length) none) γ { nx := fun _ γ' => Dr γ.length q .non γ', rt := Dr γ.length q }
def N_end_of_run : List Str := ["text", "start", "signs", "end"]
theorem sc_end_of_run : FnScope N_end_of_run ["text", "start", "signs"] (defScope (top 16)) := ⟨rfl, rfl, rfl, by decide +kernel, rfl, by decide +kernel, by decide +kernel⟩
def t_end_of_run (K : Frag) (W : WX) : TS := (tSeq (tAsg (tVar 1) (gName 3)) (tSeq (tWhile (tAnd (tTest (tOp rLtI (tVar 3) (tCB (rLenG K) (tCons (tVar 0) tNil)))) (tTest (tOp (rInG K) (tOp (rIx K) (tVar 0) (tVar 3)) (tVar 2)))) (tAsg (tOp (rAddG K) (tVar 3) (tC (.int 1))) (gName 3))) (tRet (tVar 3))))
abbrev DL_end_of_run (K : Frag) (sp : SpD) : Prop := ∀ ds γ q e E, loG γ.length γ = true → loL γ.length ds = true → sp ds γ q e → dS ⟨K, wOf E, fun _ => DrX γ.length e⟩ γ.length (t_end_of_run K (wOf E)) (ds.map some ++ List.replicate (4 - ds.length) none) γ { nx := fun _ γ' => Dr γ.length q .non γ', rt := Dr γ.length q }
def N_token_at : List Str := ["text", "start", "end", "word", "kind", "sign"]
theorem sc_token_at : FnScope N_token_at ["text", "start"] (defScope (top 17)) := ⟨rfl, rfl, rfl, by decide +kernel, rfl, by decide +kernel, by decide +kernel⟩
def t_token_at (K : Frag) (W : WX) : TS := (tSeq (tIfS (tTest (tOp (rInG K) (tOp (rIx K) (tVar 0) (tVar 1)) (tC (.str (S [97, 98, 99, 100, 101, 102, 103, 104, 105, 106, 107, 108, 109, 110, 111, 112, 113, 114, 115, 116, 117, 118, 119, 120, 121, 122]))))) (tSeq (tAsg (tCallW (toSp K (sp_end_of_run K)) (WE W) (tCons (tVar 0) (tCons (tVar 1) (tCons (tC (.str (S [97, 98, 99, 100, 101, 102, 103, 104, 105, 106, 107, 108, 109, 110, 111, 112, 113, 114, 115, 116, 117, 118, 119, 120, 121, 122]))) tNil)))) (gName 2)) (tSeq (tAsg (tSl (rSlG K) (tVar 0) (tPart (tVar 1)) (tPart (tVar 2))) (gName 3)) (tSeq (tAsg (tIf (tTest (tOp (rInG K) (tVar 3) (tC (.ref (He.ga K "WORDS"))))) (tC (.str (S [115, 105, 103, 110]))) (tIf (tB (tCallW (toSp K (sp_is_name K)) (WE W) (tCons (tVar 3) tNil))) (tC (.str (S [110, 97, 109, 101]))) (tC (.str (S [111, 100, 100]))))) (gName 4)) (tRet (tTup (tCons (tTup (tCons (tVar 4) (tCons (tVar 3) (tCons (tVar 1) tNil)))) (tCons (tVar 2) tNil))))))) tNext) (tSeq (tIfS (tTest (tOp (rInG K) (tOp (rIx K) (tVar 0) (tVar 1)) (tC (.str (S [48, 49, 50, 51, 52, 53, 54, 55, 56, 57]))))) (tSeq (tAsg (tCallW (toSp K (sp_end_of_run K)) (WE W) (tCons (tVar 0) (tCons (tVar 1) (tCons (tC (.str (S [48, 49, 50, 51, 52, 53, 54, 55, 56, 57]))) tNil)))) (gName 2)) (tSeq (tAsg (tIf (tB (tCallW (toSp K (sp_is_number K)) (WE W) (tCons (tSl (rSlG K) (tVar 0) (tPart (tVar 1)) (tPart (tVar 2))) tNil))) (tC (.str (S [105, 110, 116, 101, 103, 101, 114]))) (tC (.str (S [111, 100, 100])))) (gName 4)) (tRet (tTup (tCons (tTup (tCons (tVar 4) (tCons (tSl (rSlG K) (tVar 0) (tPart (tVar 1)) (tPart (tVar 2))) (tCons (tVar 1) tNil)))) (tCons (tVar 2) tNil)))))) tNext) (tSeq (tFor (iTup K (tC (.ref (He.ga K "SIGNS")))) (gName 5) (tIfS (tTest (tOp (rEqG K) (tSl (rSlG K) (tVar 0) (tPart (tVar 1)) (tPart (tOp (rAddG K) (tVar 1) (tCB (rLenG K) (tCons (tVar 5) tNil))))) (tVar 5))) (tRet (tTup (tCons (tTup (tCons (tC (.str (S [115, 105, 103, 110]))) (tCons (tVar 5) (tCons (tVar 1) tNil)))) (tCons (tOp (rAddG K) (tVar 1) (tCB (rLenG K) (tCons (tVar 5) tNil))) tNil)))) tNext)) (tRet (tTup (tCons (tTup (tCons (tC (.str (S [111, 100, 100]))) (tCons (tOp (rIx K) (tVar 0) (tVar 1)) (tCons (tVar 1) tNil)))) (tCons (tOp (rAddG K) (tVar 1) (tC (.int 1))) tNil)))))))
abbrev DL_token_at (K : Frag) (sp : SpD) : Prop := ∀ ds γ q e E, loG γ.length γ = true → loL γ.length ds = true → sp ds γ q e → dS ⟨K, wOf E, fun _ => DrX γ.length e⟩ γ.length (t_token_at K (wOf E)) (ds.map some ++ List.replicate (6 - ds.length) none) γ { nx := fun _ γ' => Dr γ.length q .non γ', rt := Dr γ.length q }
def N_tokens : List Str := ["text", "found", "start", "token", "end"]
theorem sc_tokens : FnScope N_tokens ["text"] (defScope (top 18)) := ⟨rfl, rfl, rfl, by decide +kernel, rfl, by decide +kernel, by decide +kernel⟩
def t_tokens (K : Frag) (W : WX) : TS := (tSeq (tAsg (tLstM tNil) (gName 1)) (tSeq (tAsg (tCallW (toSp K (sp_end_of_run K)) (WE W) (tCons (tVar 0) (tCons (tC (.int 0)) (tCons (tC (.str (S [32]))) tNil)))) (gName 2)) (tSeq (tWhile (tTest (tOp rLtI (tVar 2) (tCB (rLenG K) (tCons (tVar 0) tNil)))) (tSeq (tAsg (tCallW (toSp K (sp_token_at K)) (WE W) (tCons (tVar 0) (tCons (tVar 2) tNil))) (gTup K 2 (gCons (gName 3) (gCons (gName 4) gNil)))) (tSeq (tDrop (tBM K "list" rAppend (tVar 1) (tCons (tVar 3) tNil))) (tSeq (tIfS (tTest (tOp (rEqG K) (tOp (rIx K) (tVar 3) (tC (.int 0))) (tC (.str (S [111, 100, 100]))))) (tRet (tVar 1)) tNext) (tAsg (tCallW (toSp K (sp_end_of_run K)) (WE W) (tCons (tVar 0) (tCons (tVar 4) (tCons (tC (.str (S [32]))) tNil)))) (gName 2)))))) (tRet (tOp (rAddG K) (tVar 1) (tLst (tCons (tTup (tCons (tC (.str (S [101, 110, 100]))) (tCons (tC (.str (S []))) (tCons (tCB (rLenG K) (tCons (tVar 0) tNil)) tNil)))) tNil)))))))
abbrev DL_tokens (K : Frag) (sp : SpD) : Prop := ∀ ds γ q e E, loG γ.length γ = true → loL γ.length ds = true → sp ds γ q e → dS ⟨K, wOf E, fun _ => DrX γ.length e⟩ γ.length (t_tokens K (wOf E)) (ds.map some ++ List.replicate (5 - ds.length) none) γ { nx := fun _ γ' => Dr γ.length q .non γ', rt := Dr γ.length q }
def N_Parser_init : List Str := ["self", "text"]
theorem sc_Parser_init : FnScope N_Parser_init ["self", "text"] (defScope (inClass (top 22) 0)) := ⟨rfl, rfl, rfl, by decide +kernel, rfl, by decide +kernel, by decide +kernel⟩
def t_Parser_init (K : Frag) (W : WX) : TS := (tSeq (sFld K (tVar 0) (tCallW (toSp K (sp_tokens K)) (WE W) (tCons (tVar 1) tNil)) "rest") (sFld K (tVar 0) (tC (.int 0)) "place"))
abbrev DL_Parser_init (K : Frag) (sp : SpD) : Prop := ∀ ds γ q e E, loG γ.length γ = true → loL γ.length ds = true → sp ds γ q e → dS ⟨K, wOf E, fun _ => DrX γ.length e⟩ γ.length (t_Parser_init K (wOf E)) (ds.map some ++ List.replicate (2 - ds.length) none) γ { nx := fun _ γ' => Dr γ.length q .non γ', rt := Dr γ.length q }
def N_Parser_sees : List Str := ["self", "signs", "kind", "value", "position"]
theorem sc_Parser_sees : FnScope N_Parser_sees ["self", "signs"] (defScope (inClass (top 22) 1)) := ⟨rfl, rfl, rfl, by decide +kernel, rfl, by decide +kernel, by decide +kernel⟩
def t_Parser_sees (K : Frag) (W : WX) : TS := (tSeq (tAsg (tOp (rIx K) (tFld K (tVar 0) "rest") (tFld K (tVar 0) "place")) (gTup K 3 (gCons (gName 2) (gCons (gName 3) (gCons (gName 4) gNil))))) (tRet (tAndV (tOp (rEqG K) (tVar 2) (tC (.str (S [115, 105, 103, 110])))) (tOp (rInG K) (tVar 3) (tVar 1)))))
abbrev DL_Parser_sees (K : Frag) (sp : SpD) : Prop := ∀ ds γ q e E, loG γ.length γ = true → loL γ.length ds = true → sp ds γ q e → dS ⟨K, wOf E, fun _ => DrX γ.length e⟩ γ.length (t_Parser_sees K (wOf E)) (ds.map some ++ List.replicate (5 - ds.length) none) γ { nx := fun _ γ' => Dr γ.length q .non γ', rt := Dr γ.length q }
def N_Parser_take : List Str := ["self"]
theorem sc_Parser_take : FnScope N_Parser_take ["self"] (defScope (inClass (top 22) 2)) := ⟨rfl, rfl, rfl, by decide +kernel, rfl, by decide +kernel, by decide +kernel⟩
def t_Parser_take (K : Frag) (W : WX) : TS := (tSeq (sFld K (tVar 0) (tOp (rAddG K) (tFld K (tVar 0) "place") (tC (.int 1))) "place") (tRet (tOp (rIx K) (tFld K (tVar 0) "rest") (tOp rSubD (tFld K (tVar 0) "place") (tC (.int 1))))))
abbrev DL_Parser_take (K : Frag) (sp : SpD) : Prop := ∀ ds γ q e E, loG γ.length γ = true → loL γ.length ds = true → sp ds γ q e → dS ⟨K, wOf E, fun _ => DrX γ.length e⟩ γ.length (t_Parser_take K (wOf E)) (ds.map some ++ List.replicate (1 - ds.length) none) γ { nx := fun _ γ' => Dr γ.length q .non γ', rt := Dr γ.length q }
def N_Parser_refuse : List Str := ["self"]
theorem sc_Parser_refuse : FnScope N_Parser_refuse ["self"] (defScope (inClass (top 22) 3)) := ⟨rfl, rfl, rfl, by decide +kernel, rfl, by decide +kernel, by decide +kernel⟩
def t_Parser_refuse (K : Frag) (W : WX) : TS := (tRaise K W (He.ga K "BadText") (sp_frozen K) ["position"] (tCons (tOp (rIx K) (tOp (rIx K) (tFld K (tVar 0) "rest") (tFld K (tVar 0) "place")) (tC (.int 2))) tNil))
abbrev DL_Parser_refuse (K : Frag) (sp : SpD) : Prop := ∀ ds γ q e E, loG γ.length γ = true → loL γ.length ds = true → sp ds γ q e → dS ⟨K, wOf E, fun _ => DrX γ.length e⟩ γ.length (t_Parser_refuse K (wOf E)) (ds.map some ++ List.replicate (1 - ds.length) none) γ { nx := fun _ γ' => Dr γ.length q .non γ', rt := Dr γ.length q }
def N_Parser_take_sign : List Str := ["self", "signs"]
theorem sc_Parser_take_sign : FnScope N_Parser_take_sign ["self", "signs"] (defScope (inClass (top 22) 4)) := ⟨rfl, rfl, rfl, by decide +kernel, rfl, by decide +kernel, by decide +kernel⟩
def t_Parser_take_sign (K : Frag) (W : WX) : TS := (tSeq (tIfS (tNot (tB (tMethW (He.ga K "Parser") "sees" (toSp K (sp_Parser_sees K)) (WE W) (tVar 0) (tCons (tVar 1) tNil)))) (tDrop (tMethW (He.ga K "Parser") "refuse" (toSp K (sp_Parser_refuse K)) (WE W) (tVar 0) tNil)) tNext) (tRet (tOp (rIx K) (tMethW (He.ga K "Parser") "take" (toSp K (sp_Parser_take K)) (WE W) (tVar 0) tNil) (tC (.int 1)))))
abbrev DL_Parser_take_sign (K : Frag) (sp : SpD) : Prop := ∀ ds γ q e E, loG γ.length γ = true → loL γ.length ds = true → sp ds γ q e → dS ⟨K, wOf E, fun _ => DrX γ.length e⟩ γ.length (t_Parser_take_sign K (wOf E)) (ds.map some ++ List.replicate (2 - ds.length) none) γ { nx := fun _ γ' => Dr γ.length q .non γ', rt := Dr γ.length q }
def N_Parser_finish : List Str := ["self", "node"]
theorem sc_Parser_finish : FnScope N_Parser_finish ["self", "node"] (defScope (inClass (top 22) 5)) := ⟨rfl, rfl, rfl, by decide +kernel, rfl, by decide +kernel, by decide +kernel⟩
def t_Parser_finish (K : Frag) (W : WX) : TS := (tSeq (tIfS (tTest (tOp (rNeG K) (tOp (rIx K) (tOp (rIx K) (tFld K (tVar 0) "rest") (tFld K (tVar 0) "place")) (tC (.int 0))) (tC (.str (S [101, 110, 100]))))) (tDrop (tMethW (He.ga K "Parser") "refuse" (toSp K (sp_Parser_refuse K)) (WE W) (tVar 0) tNil)) tNext) (tRet (tVar 1)))
abbrev DL_Parser_finish (K : Frag) (sp : SpD) : Prop := ∀ ds γ q e E, loG γ.length γ = true → loL γ.length ds = true → sp ds γ q e → dS ⟨K, wOf E, fun _ => DrX γ.length e⟩ γ.length (t_Parser_finish K (wOf E)) (ds.map some ++ List.replicate (2 - ds.length) none) γ { nx := fun _ γ' => Dr γ.length q .non γ', rt := Dr γ.length q }
def N_Parser_condition : List Str := ["self", "node"]
theorem sc_Parser_condition : FnScope N_Parser_condition ["self"] (defScope (inClass (top 22) 6)) := ⟨rfl, rfl, rfl, by decide +kernel, rfl, by decide +kernel, by decide +kernel⟩
def t_Parser_condition (K : Frag) (s_Parser_conjunction : SpD) (W : WX) : TS := (tSeq (tAsg (tMethW (He.ga K "Parser") "conjunction" (toSp K s_Parser_conjunction) (WE W) (tVar 0) tNil) (gName 1)) (tSeq (tWhile (tB (tMethW (He.ga K "Parser") "sees" (toSp K (sp_Parser_sees K)) (WE W) (tVar 0) (tCons (tTup (tCons (tC (.str (S [111, 114]))) tNil)) tNil))) (tSeq (tDrop (tMethW (He.ga K "Parser") "take" (toSp K (sp_Parser_take K)) (WE W) (tVar 0) tNil)) (tAsg (tTup (tCons (tC (.str (S [111, 114]))) (tCons (tVar 1) (tCons (tMethW (He.ga K "Parser") "conjunction" (toSp K s_Parser_conjunction) (WE W) (tVar 0) tNil) tNil)))) (gName 1)))) (tRet (tVar 1))))
abbrev DL_Parser_condition (K : Frag) (s_Parser_conjunction : SpD) (sp : SpD) : Prop := ∀ ds γ q e E, loG γ.length γ = true → loL γ.length ds = true → sp ds γ q e → dS ⟨K, wOf E, fun _ => DrX γ.length e⟩ γ.length (t_Parser_condition K s_Parser_conjunction (wOf E)) (ds.map some ++ List.replicate (2 - ds.length) none) γ { nx := fun _ γ' => Dr γ.length q .non γ', rt := Dr γ.length q }
def N_Parser_conjunction : List Str := ["self", "node"]
theorem sc_Parser_conjunction : FnScope N_Parser_conjunction ["self"] (defScope (inClass (top 22) 7)) := ⟨rfl, rfl, rfl, by decide +kernel, rfl, by decide +kernel, by decide +kernel⟩
def t_Parser_conjunction (K : Frag) (s_Parser_negation : SpD) (W : WX) : TS := (tSeq (tAsg (tMethW (He.ga K "Parser") "negation" (toSp K s_Parser_negation) (WE W) (tVar 0) tNil) (gName 1)) (tSeq (tWhile (tB (tMethW (He.ga K "Parser") "sees" (toSp K (sp_Parser_sees K)) (WE W) (tVar 0) (tCons (tTup (tCons (tC (.str (S [97, 110, 100]))) tNil)) tNil))) (tSeq (tDrop (tMethW (He.ga K "Parser") "take" (toSp K (sp_Parser_take K)) (WE W) (tVar 0) tNil)) (tAsg (tTup (tCons (tC (.str (S [97, 110, 100]))) (tCons (tVar 1) (tCons (tMethW (He.ga K "Parser") "negation" (toSp K s_Parser_negation) (WE W) (tVar 0) tNil) tNil)))) (gName 1)))) (tRet (tVar 1))))
abbrev DL_Parser_conjunction (K : Frag) (s_Parser_negation : SpD) (sp : SpD) : Prop := ∀ ds γ q e E, loG γ.length γ = true → loL γ.length ds = true → sp ds γ q e → dS ⟨K, wOf E, fun _ => DrX γ.length e⟩ γ.length (t_Parser_conjunction K s_Parser_negation (wOf E)) (ds.map some ++ List.replicate (2 - ds.length) none) γ { nx := fun _ γ' => Dr γ.length q .non γ', rt := Dr γ.length q }
def N_Parser_negation : List Str := ["self", "node", "left", "sign"]
theorem sc_Parser_negation : FnScope N_Parser_negation ["self"] (defScope (inClass (top 22) 8)) := ⟨rfl, rfl, rfl, by decide +kernel, rfl, by decide +kernel, by decide +kernel⟩
def t_Parser_negation (K : Frag) (s_Parser_negation : SpD) (s_Parser_condition : SpD) (s_Parser_expression : SpD) (W : WX) : TS := (tSeq (tIfS (tB (tMethW (He.ga K "Parser") "sees" (toSp K (sp_Parser_sees K)) (WE W) (tVar 0) (tCons (tTup (tCons (tC (.str (S [110, 111, 116]))) tNil)) tNil))) (tSeq (tDrop (tMethW (He.ga K "Parser") "take" (toSp K (sp_Parser_take K)) (WE W) (tVar 0) tNil)) (tRet (tTup (tCons (tC (.str (S [110, 111, 116]))) (tCons (tMethW (He.ga K "Parser") "negation" (toSp K s_Parser_negation) (WE W) (tVar 0) tNil) tNil))))) tNext) (tSeq (tIfS (tB (tMethW (He.ga K "Parser") "sees" (toSp K (sp_Parser_sees K)) (WE W) (tVar 0) (tCons (tTup (tCons (tC (.str (S [91]))) tNil)) tNil))) (tSeq (tDrop (tMethW (He.ga K "Parser") "take" (toSp K (sp_Parser_take K)) (WE W) (tVar 0) tNil)) (tSeq (tAsg (tMethW (He.ga K "Parser") "condition" (toSp K s_Parser_condition) (WE W) (tVar 0) tNil) (gName 1)) (tSeq (tDrop (tMethW (He.ga K "Parser") "take_sign" (toSp K (sp_Parser_take_sign K)) (WE W) (tVar 0) (tCons (tTup (tCons (tC (.str (S [93]))) tNil)) tNil))) (tRet (tVar 1))))) tNext) (tSeq (tAsg (tMethW (He.ga K "Parser") "expression" (toSp K s_Parser_expression) (WE W) (tVar 0) tNil) (gName 2)) (tSeq (tAsg (tMethW (He.ga K "Parser") "take_sign" (toSp K (sp_Parser_take_sign K)) (WE W) (tVar 0) (tCons (tC (.ref (He.ga K "COMPARISONS"))) tNil)) (gName 3)) (tRet (tTup (tCons (tVar 3) (tCons (tVar 2) (tCons (tMethW (He.ga K "Parser") "expression" (toSp K s_Parser_expression) (WE W) (tVar 0) tNil) tNil)))))))))
abbrev DL_Parser_negation (K : Frag) (s_Parser_negation : SpD) (s_Parser_condition : SpD) (s_Parser_expression : SpD) (sp : SpD) : Prop := ∀ ds γ q e E, loG γ.length γ = true → loL γ.length ds = true → sp ds γ q e → dS ⟨K, wOf E, fun _ => DrX γ.length e⟩ γ.length (t_Parser_negation K s_Parser_negation s_Parser_condition s_Parser_expression (wOf E)) (ds.map some ++ List.replicate (4 - ds.length) none) γ { nx := fun _ γ' => Dr γ.length q .non γ', rt := Dr γ.length q }
def N_Parser_expression : List Str := ["self", "node", "sign"]
theorem sc_Parser_expression : FnScope N_Parser_expression ["self"] (defScope (inClass (top 22) 9)) := ⟨rfl, rfl, rfl, by decide +kernel, rfl, by decide +kernel, by decide +kernel⟩
def t_Parser_expression (K : Frag) (s_Parser_term : SpD) (W : WX) : TS := (tSeq (tAsg (tMethW (He.ga K "Parser") "term" (toSp K s_Parser_term) (WE W) (tVar 0) tNil) (gName 1)) (tSeq (tWhile (tB (tMethW (He.ga K "Parser") "sees" (toSp K (sp_Parser_sees K)) (WE W) (tVar 0) (tCons (tTup (tCons (tC (.str (S [43]))) (tCons (tC (.str (S [45]))) tNil))) tNil))) (tSeq (tAsg (tOp (rIx K) (tMethW (He.ga K "Parser") "take" (toSp K (sp_Parser_take K)) (WE W) (tVar 0) tNil) (tC (.int 1))) (gName 2)) (tAsg (tTup (tCons (tVar 2) (tCons (tVar 1) (tCons (tMethW (He.ga K "Parser") "term" (toSp K s_Parser_term) (WE W) (tVar 0) tNil) tNil)))) (gName 1)))) (tRet (tVar 1))))
abbrev DL_Parser_expression (K : Frag) (s_Parser_term : SpD) (sp : SpD) : Prop := ∀ ds γ q e E, loG γ.length γ = true → loL γ.length ds = true → sp ds γ q e → dS ⟨K, wOf E, fun _ => DrX γ.length e⟩ γ.length (t_Parser_expression K s_Parser_term (wOf E)) (ds.map some ++ List.replicate (3 - ds.length) none) γ { nx := fun _ γ' => Dr γ.length q .non γ', rt := Dr γ.length q }
def N_Parser_term : List Str := ["self", "node", "sign"]
theorem sc_Parser_term : FnScope N_Parser_term ["self"] (defScope (inClass (top 22) 10)) := ⟨rfl, rfl, rfl, by decide +kernel, rfl, by decide +kernel, by decide +kernel⟩
def t_Parser_term (K : Frag) (s_Parser_factor : SpD) (W : WX) : TS := (tSeq (tAsg (tMethW (He.ga K "Parser") "factor" (toSp K s_Parser_factor) (WE W) (tVar 0) tNil) (gName 1)) (tSeq (tWhile (tB (tMethW (He.ga K "Parser") "sees" (toSp K (sp_Parser_sees K)) (WE W) (tVar 0) (tCons (tTup (tCons (tC (.str (S [42]))) (tCons (tC (.str (S [47, 47]))) (tCons (tC (.str (S [109, 111, 100]))) tNil)))) tNil))) (tSeq (tAsg (tOp (rIx K) (tMethW (He.ga K "Parser") "take" (toSp K (sp_Parser_take K)) (WE W) (tVar 0) tNil) (tC (.int 1))) (gName 2)) (tAsg (tTup (tCons (tVar 2) (tCons (tVar 1) (tCons (tMethW (He.ga K "Parser") "factor" (toSp K s_Parser_factor) (WE W) (tVar 0) tNil) tNil)))) (gName 1)))) (tRet (tVar 1))))
abbrev DL_Parser_term (K : Frag) (s_Parser_factor : SpD) (sp : SpD) : Prop := ∀ ds γ q e E, loG γ.length γ = true → loL γ.length ds = true → sp ds γ q e → dS ⟨K, wOf E, fun _ => DrX γ.length e⟩ γ.length (t_Parser_term K s_Parser_factor (wOf E)) (ds.map some ++ List.replicate (3 - ds.length) none) γ { nx := fun _ γ' => Dr γ.length q .non γ', rt := Dr γ.length q }
def N_Parser_factor : List Str := ["self", "node", "kind", "value", "position"]
theorem sc_Parser_factor : FnScope N_Parser_factor ["self"] (defScope (inClass (top 22) 11)) := ⟨rfl, rfl, rfl, by decide +kernel, rfl, by decide +kernel, by decide +kernel⟩
def t_Parser_factor (K : Frag) (s_Parser_factor : SpD) (s_Parser_expression : SpD) (W : WX) : TS := (tSeq (tIfS (tB (tMethW (He.ga K "Parser") "sees" (toSp K (sp_Parser_sees K)) (WE W) (tVar 0) (tCons (tTup (tCons (tC (.str (S [45]))) tNil)) tNil))) (tSeq (tDrop (tMethW (He.ga K "Parser") "take" (toSp K (sp_Parser_take K)) (WE W) (tVar 0) tNil)) (tRet (tTup (tCons (tC (.str (S [110, 101, 103, 97, 116, 101]))) (tCons (tMethW (He.ga K "Parser") "factor" (toSp K s_Parser_factor) (WE W) (tVar 0) tNil) tNil))))) tNext) (tSeq (tIfS (tB (tMethW (He.ga K "Parser") "sees" (toSp K (sp_Parser_sees K)) (WE W) (tVar 0) (tCons (tTup (tCons (tC (.str (S [40]))) tNil)) tNil))) (tSeq (tDrop (tMethW (He.ga K "Parser") "take" (toSp K (sp_Parser_take K)) (WE W) (tVar 0) tNil)) (tSeq (tAsg (tMethW (He.ga K "Parser") "expression" (toSp K s_Parser_expression) (WE W) (tVar 0) tNil) (gName 1)) (tSeq (tDrop (tMethW (He.ga K "Parser") "take_sign" (toSp K (sp_Parser_take_sign K)) (WE W) (tVar 0) (tCons (tTup (tCons (tC (.str (S [41]))) tNil)) tNil))) (tRet (tVar 1))))) tNext) (tSeq (tAsg (tOp (rIx K) (tFld K (tVar 0) "rest") (tFld K (tVar 0) "place")) (gTup K 3 (gCons (gName 2) (gCons (gName 3) (gCons (gName 4) gNil))))) (tSeq (tIfS (tTest (tOp (rNiG K) (tVar 2) (tTup (tCons (tC (.str (S [105, 110, 116, 101, 103, 101, 114]))) (tCons (tC (.str (S [110, 97, 109, 101]))) tNil))))) (tDrop (tMethW (He.ga K "Parser") "refuse" (toSp K (sp_Parser_refuse K)) (WE W) (tVar 0) tNil)) tNext) (tSeq (tDrop (tMethW (He.ga K "Parser") "take" (toSp K (sp_Parser_take K)) (WE W) (tVar 0) tNil)) (tRet (tIf (tTest (tOp (rEqG K) (tVar 2) (tC (.str (S [105, 110, 116, 101, 103, 101, 114]))))) (tTup (tCons (tC (.str (S [110, 117, 109, 98, 101, 114]))) (tCons (tCB rIntG (tCons (tVar 3) tNil)) tNil))) (tTup (tCons (tC (.str (S [118, 97, 114, 105, 97, 98, 108, 101]))) (tCons (tVar 3) tNil))))))))))
abbrev DL_Parser_factor (K : Frag) (s_Parser_factor : SpD) (s_Parser_expression : SpD) (sp : SpD) : Prop := ∀ ds γ q e E, loG γ.length γ = true → loL γ.length ds = true → sp ds γ q e → dS ⟨K, wOf E, fun _ => DrX γ.length e⟩ γ.length (t_Parser_factor K s_Parser_factor s_Parser_expression (wOf E)) (ds.map some ++ List.replicate (5 - ds.length) none) γ { nx := fun _ γ' => Dr γ.length q .non γ', rt := Dr γ.length q }
def N_parse_condition : List Str := ["text", "parser"]
theorem sc_parse_condition : FnScope N_parse_condition ["text"] (defScope (top 23)) := ⟨rfl, rfl, rfl, by decide +kernel, rfl, by decide +kernel, by decide +kernel⟩
def t_parse_condition (K : Frag) (W : WX) : TS := (tSeq (tAsg (tMakeW (He.ga K "Parser") (toSp K (sp_Parser_init K)) (WE W) (tCons (tVar 0) tNil)) (gName 1)) (tRet (tMethW (He.ga K "Parser") "finish" (toSp K (sp_Parser_finish K)) (WE W) (tVar 1) (tCons (tMethW (He.ga K "Parser") "condition" (toSp K (sp_Parser_condition K)) (WE W) (tVar 1) tNil) tNil))))
abbrev DL_parse_condition (K : Frag) (sp : SpD) : Prop := ∀ ds γ q e E, loG γ.length γ = true → loL γ.length ds = true → sp ds γ q e → dS ⟨K, wOf E, fun _ => DrX γ.length e⟩ γ.length (t_parse_condition K (wOf E)) (ds.map some ++ List.replicate (2 - ds.length) none) γ { nx := fun _ γ' => Dr γ.length q .non γ', rt := Dr γ.length q }
def N_bounded : List Str := ["number"]
theorem sc_bounded : FnScope N_bounded ["number"] (defScope (top 24)) := ⟨rfl, rfl, rfl, by decide +kernel, rfl, by decide +kernel, by decide +kernel⟩
def t_bounded (K : Frag) (W : WX) : TS := (tSeq (tIfS (tTest (tOp rGeI (tCB rAbs (tCons (tVar 0) tNil)) (tC (.int 1000000000000000000000000000000)))) (tRaise K W (He.ga K "Fault") (sp_frozen K) ["reason"] (tCons (tC (.str (S [111, 118, 101, 114, 102, 108, 111, 119]))) tNil)) tNext) (tRet (tVar 0)))
abbrev DL_bounded (K : Frag) (sp : SpD) : Prop := ∀ ds γ q e E, loG γ.length γ = true → loL γ.length ds = true → sp ds γ q e → dS ⟨K, wOf E, fun _ => DrX γ.length e⟩ γ.length (t_bounded K (wOf E)) (ds.map some ++ List.replicate (1 - ds.length) none) γ { nx := fun _ γ' => Dr γ.length q .non γ', rt := Dr γ.length q }
def N_calculated : List Str := ["word", "left", "right"]
theorem sc_calculated : FnScope N_calculated ["word", "left", "right"] (defScope (top 25)) := ⟨rfl, rfl, rfl, by decide +kernel, rfl, by decide +kernel, by decide +kernel⟩
def t_calculated (K : Frag) (W : WX) : TS := (tSeq (tIfS (tTest (tOp (rEqG K) (tVar 0) (tC (.str (S [43]))))) (tRet (tCallW (toSp K (sp_bounded K)) (WE W) (tCons (tOp (rAddG K) (tVar 1) (tVar 2)) tNil))) tNext) (tSeq (tIfS (tTest (tOp (rEqG K) (tVar 0) (tC (.str (S [45]))))) (tRet (tCallW (toSp K (sp_bounded K)) (WE W) (tCons (tOp rSubD (tVar 1) (tVar 2)) tNil))) tNext) (tSeq (tIfS (tTest (tOp (rEqG K) (tVar 0) (tC (.str (S [42]))))) (tRet (tCallW (toSp K (sp_bounded K)) (WE W) (tCons (tOp (rMulG K) (tVar 1) (tVar 2)) tNil))) tNext) (tSeq (tIfS (tTest (tOp (rEqG K) (tVar 2) (tC (.int 0)))) (tRaise K W (He.ga K "Fault") (sp_frozen K) ["reason"] (tCons (tC (.str (S [100, 105, 118, 105, 115, 105, 111, 110]))) tNil)) tNext) (tRet (tIf (tTest (tOp (rEqG K) (tVar 0) (tC (.str (S [47, 47]))))) (tOp rFdiv (tVar 1) (tVar 2)) (tOp rMod (tVar 1) (tVar 2))))))))
abbrev DL_calculated (K : Frag) (sp : SpD) : Prop := ∀ ds γ q e E, loG γ.length γ = true → loL γ.length ds = true → sp ds γ q e → dS ⟨K, wOf E, fun _ => DrX γ.length e⟩ γ.length (t_calculated K (wOf E)) (ds.map some ++ List.replicate (3 - ds.length) none) γ { nx := fun _ γ' => Dr γ.length q .non γ', rt := Dr γ.length q }
def N_compared : List Str := ["word", "left", "right"]
theorem sc_compared : FnScope N_compared ["word", "left", "right"] (defScope (top 26)) := ⟨rfl, rfl, rfl, by decide +kernel, rfl, by decide +kernel, by decide +kernel⟩
def t_compared (K : Frag) (W : WX) : TS := (tSeq (tIfS (tTest (tOp (rInG K) (tVar 0) (tTup (tCons (tC (.str (S [61]))) (tCons (tC (.str (S [33, 61]))) tNil))))) (tRet (tOp (rEqG K) (tOp (rEqG K) (tVar 1) (tVar 2)) (tOp (rEqG K) (tVar 0) (tC (.str (S [61])))))) tNext) (tSeq (tIfS (tTest (tOp (rInG K) (tVar 0) (tTup (tCons (tC (.str (S [60]))) (tCons (tC (.str (S [62, 61]))) tNil))))) (tRet (tOp (rEqG K) (tOp rLtI (tVar 1) (tVar 2)) (tOp (rEqG K) (tVar 0) (tC (.str (S [60])))))) tNext) (tRet (tOp (rEqG K) (tOp rGtI (tVar 1) (tVar 2)) (tOp (rEqG K) (tVar 0) (tC (.str (S [62]))))))))
abbrev DL_compared (K : Frag) (sp : SpD) : Prop := ∀ ds γ q e E, loG γ.length γ = true → loL γ.length ds = true → sp ds γ q e → dS ⟨K, wOf E, fun _ => DrX γ.length e⟩ γ.length (t_compared K (wOf E)) (ds.map some ++ List.replicate (3 - ds.length) none) γ { nx := fun _ γ' => Dr γ.length q .non γ', rt := Dr γ.length q }
def N_value_of : List Str := ["node", "known", "word", "parts", "part"]
theorem sc_value_of : FnScope N_value_of ["node", "known"] (defScope (top 27)) := ⟨rfl, rfl, rfl, by decide +kernel, rfl, by decide +kernel, by decide +kernel⟩
def t_value_of (K : Frag) (s_value_of : SpD) (W : WX) : TS := (tSeq (tAsg (tOp (rIx K) (tVar 0) (tC (.int 0))) (gName 2)) (tSeq (tIfS (tTest (tOp (rEqG K) (tVar 2) (tC (.str (S [110, 117, 109, 98, 101, 114]))))) (tRet (tOp (rIx K) (tVar 0) (tC (.int 1)))) tNext) (tSeq (tIfS (tTest (tOp (rEqG K) (tVar 2) (tC (.str (S [118, 97, 114, 105, 97, 98, 108, 101]))))) (tRet (tDGet2 (tVar 1) (tOp (rIx K) (tVar 0) (tC (.int 1))) (tC (.int 0)))) tNext) (tSeq (tAsg (tLcX W (iAny K (tSl (rSlG K) (tVar 0) (tPart (tC (.int 1))) tNoPart)) (gName 4) (fun Wc => tYes) (fun Wc => (tCallW (toSp K s_value_of) (WE Wc) (tCons (tVar 4) (tCons (tVar 1) tNil)))) [4]) (gName 3)) (tSeq (tIfS (tTest (tOp (rEqG K) (tVar 2) (tC (.str (S [110, 101, 103, 97, 116, 101]))))) (tRet (tUn rNeg (tOp (rIx K) (tVar 3) (tC (.int 0))))) tNext) (tSeq (tIfS (tTest (tOp (rEqG K) (tVar 2) (tC (.str (S [110, 111, 116]))))) (tRet (tNotV (tOp (rIx K) (tVar 3) (tC (.int 0))))) tNext) (tSeq (tIfS (tTest (tOp (rInG K) (tVar 2) (tTup (tCons (tC (.str (S [97, 110, 100]))) (tCons (tC (.str (S [111, 114]))) tNil))))) (tRet (tIf (tTest (tOp (rEqG K) (tVar 2) (tC (.str (S [97, 110, 100]))))) (tCB (rAll K) (tCons (tVar 3) tNil)) (tCB (rAny K) (tCons (tVar 3) tNil)))) tNext) (tSeq (tIfS (tTest (tOp (rInG K) (tVar 2) (tC (.ref (He.ga K "COMPARISONS"))))) (tRet (tCallW (toSp K (sp_compared K)) (WE W) (tCons (tVar 2) (tCons (tOp (rIx K) (tVar 3) (tC (.int 0))) (tCons (tOp (rIx K) (tVar 3) (tC (.int 1))) tNil))))) tNext) (tRet (tCallW (toSp K (sp_calculated K)) (WE W) (tCons (tVar 2) (tCons (tOp (rIx K) (tVar 3) (tC (.int 0))) (tCons (tOp (rIx K) (tVar 3) (tC (.int 1))) tNil)))))))))))))
abbrev DL_value_of (K : Frag) (s_value_of : SpD) (sp : SpD) : Prop := ∀ ds γ q e E, loG γ.length γ = true → loL γ.length ds = true → sp ds γ q e → dS ⟨K, wOf E, fun _ => DrX γ.length e⟩ γ.length (t_value_of K s_value_of (wOf E)) (ds.map some ++ List.replicate (5 - ds.length) none) γ { nx := fun _ γ' => Dr γ.length q .non γ', rt := Dr γ.length q }
def N_evaluate : List Str := ["node", "values", "name", "number"]
theorem sc_evaluate : FnScope N_evaluate ["node", "values"] (defScope (top 28)) := ⟨rfl, rfl, rfl, by decide +kernel, rfl, by decide +kernel, by decide +kernel⟩
def t_evaluate (K : Frag) (W : WX) : TS := (tRet (tCallW (toSp K (sp_value_of K)) (WE W) (tCons (tVar 0) (tCons (tCB (rDictP K) (tCons (tLc (iAny K (tVar 1)) (gAny K 2 (gCons (gName 2) (gCons (gName 3) gNil))) tYes (tTup (tCons (tVar 2) (tCons (tVar 3) tNil))) [2, 3]) tNil)) tNil))))
abbrev DL_evaluate (K : Frag) (sp : SpD) : Prop := ∀ ds γ q e E, loG γ.length γ = true → loL γ.length ds = true → sp ds γ q e → dS ⟨K, wOf E, fun _ => DrX γ.length e⟩ γ.length (t_evaluate K (wOf E)) (ds.map some ++ List.replicate (4 - ds.length) none) γ { nx := fun _ γ' => Dr γ.length q .non γ', rt := Dr γ.length q }
def N_holds : List Str := ["node", "values"]
theorem sc_holds : FnScope N_holds ["node", "values"] (defScope (top 29)) := ⟨rfl, rfl, rfl, by decide +kernel, rfl, by decide +kernel, by decide +kernel⟩
def t_holds (K : Frag) (W : WX) : TS := (tTryOnly K W (.ref (He.ga K "Fault")) (fun W' => (tRet (tCallW (toSp K (sp_evaluate K)) (WE W') (tCons (tVar 0) (tCons (tVar 1) tNil))))) (fun a cls d => (tRet (tC (.bl false)))))
abbrev DL_holds (K : Frag) (sp : SpD) : Prop := ∀ ds γ q e E, loG γ.length γ = true → loL γ.length ds = true → sp ds γ q e → dS ⟨K, wOf E, fun _ => DrX γ.length e⟩ γ.length (t_holds K (wOf E)) (ds.map some ++ List.replicate (2 - ds.length) none) γ { nx := fun _ γ' => Dr γ.length q .non γ', rt := Dr γ.length q }
def N_L_draw : List Str := ["_law_stream", "_law_many", "_law_digit", "_law_mixed"]
theorem sc_L_draw : FnScope N_L_draw ["_law_stream", "_law_many"] (defScope (top 31)) := ⟨rfl, rfl, rfl, by decide +kernel, rfl, by decide +kernel, by decide +kernel⟩
def t_L_draw (K : Frag) (W : WX) : TS := (tSeq (tAsg (tOp (rAddG K) (tOp (rIx K) (tVar 0) (tC (.int 2))) (tC (.int 1))) (gSub (tVar 0) (tC (.int 2)) rSetL)) (tSeq (tIfS (tAnd (tTest (tOp (rEqG K) (tOp (rIx K) (tVar 0) (tC (.int 1))) (tC (.int 0)))) (tTest (tOp (rNeG K) (tOp (rIx K) (tVar 0) (tC (.int 0))) (tLst tNil)))) (tSeq (tAsg (tBM K "list" rPopAt (tOp (rIx K) (tVar 0) (tC (.int 0))) (tCons (tC (.int 0)) tNil)) (gSub (tVar 0) (tC (.int 1)) rSetL)) (tIfS (tTest (tOp rLtI (tOp (rIx K) (tVar 0) (tC (.int 1))) (tOp rPow (tC (.int 10)) (tC (.int 18))))) (tSeq (tAsg (tOp rMod (tOp (rAddG K) (tOp (rAddG K) (tOp (rMulG K) (tOp (rIx K) (tVar 0) (tC (.int 3))) (tC (.int 31))) (tOp (rIx K) (tVar 0) (tC (.int 1)))) (tC (.int 7))) (tC (.int 2147483647))) (gSub (tVar 0) (tC (.int 3)) rSetL)) (tAsg (tC (.int 0)) (gSub (tVar 0) (tC (.int 1)) rSetL))) tNext)) tNext) (tSeq (tIfS (tTest (tOp rGtI (tOp (rIx K) (tVar 0) (tC (.int 1))) (tC (.int 0)))) (tSeq (tAsg (tOp rMod (tOp (rIx K) (tVar 0) (tC (.int 1))) (tVar 1)) (gName 2)) (tSeq (tAsg (tOp rFdiv (tOp (rIx K) (tVar 0) (tC (.int 1))) (tVar 1)) (gSub (tVar 0) (tC (.int 1)) rSetL)) (tRet (tVar 2)))) tNext) (tSeq (tAsg (tOp rMod (tOp rPow (tOp (rAddG K) (tOp (rAddG K) (tOp (rIx K) (tVar 0) (tC (.int 3))) (tOp (rMulG K) (tC (.int 104729)) (tOp (rIx K) (tVar 0) (tC (.int 2))))) (tC (.int 17))) (tC (.int 5))) (tC (.int 2147483629))) (gName 3)) (tRet (tOp rMod (tOp rMod (tOp rPow (tOp (rAddG K) (tOp (rAddG K) (tOp (rMulG K) (tVar 3) (tC (.int 48271))) (tOp (rMulG K) (tOp (rMulG K) (tC (.int 40503)) (tOp (rIx K) (tVar 0) (tC (.int 2)))) (tOp (rIx K) (tVar 0) (tC (.int 2))))) (tC (.int 13))) (tC (.int 3))) (tC (.int 1000000007))) (tVar 1)))))))
abbrev DL_L_draw (K : Frag) (sp : SpD) : Prop := ∀ ds γ q e E, loG γ.length γ = true → loL γ.length ds = true → sp ds γ q e → dS ⟨K, wOf E, fun _ => DrX γ.length e⟩ γ.length (t_L_draw K (wOf E)) (ds.map some ++ List.replicate (4 - ds.length) none) γ { nx := fun _ γ' => Dr γ.length q .non γ', rt := Dr γ.length q }
def N_L_reserved : List Str := []
theorem sc_L_reserved : FnScope N_L_reserved [] (defScope (top 32)) := ⟨rfl, rfl, rfl, by decide +kernel, rfl, by decide +kernel, by decide +kernel⟩
def t_L_reserved (K : Frag) (W : WX) : TS := (tRet (tBM K "str" rSplit (tC (.str (S [97, 110, 100, 32, 99, 104, 101, 99, 107, 112, 111, 105, 110, 116, 32, 101, 108, 115, 101, 32, 101, 110, 100, 32, 105, 102, 32, 105, 110, 112, 117, 116, 32, 109, 111, 100, 32, 110, 111, 116, 32, 111, 114, 32, 112, 114, 111, 99, 101, 115, 115, 32, 114, 101, 99, 101, 105, 118, 101, 32, 115, 101, 110, 100, 32, 115, 101, 116, 32, 116, 97, 107, 101, 32, 119, 104, 105, 108, 101]))) (tCons (tC (.str (S [32]))) tNil)))
abbrev DL_L_reserved (K : Frag) (sp : SpD) : Prop := ∀ ds γ q e E, loG γ.length γ = true → loL γ.length ds = true → sp ds γ q e → dS ⟨K, wOf E, fun _ => DrX γ.length e⟩ γ.length (t_L_reserved K (wOf E)) (ds.map some ++ List.replicate (0 - ds.length) none) γ { nx := fun _ γ' => Dr γ.length q .non γ', rt := Dr γ.length q }
def N_L_name : List Str := ["_law_stream", "_law_size", "_law_name_here", "_law_k"]
theorem sc_L_name : FnScope N_L_name ["_law_stream"] (defScope (top 33)) := ⟨rfl, rfl, rfl, by decide +kernel, rfl, by decide +kernel, by decide +kernel⟩
def t_L_name (K : Frag) (W : WX) : TS := (tSeq (tAsg (tOp (rIx K) (tLst (tCons (tC (.int 1)) (tCons (tC (.int 1)) (tCons (tC (.int 2)) (tCons (tC (.int 4)) (tCons (tC (.int 8)) tNil)))))) (tCallW (toSp K (sp_L_draw K)) (WE W) (tCons (tVar 0) (tCons (tC (.int 5)) tNil)))) (gName 1)) (tSeq (tAsg (tBM K "str" (rJoin K) (tC (.str (S []))) (tCons (tLc (iRng1 (tCons (tVar 1) tNil)) (gName 3) tYes (tOp (rIx K) (tC (.str (S [97, 98, 99, 100, 101, 102, 103, 104, 105, 106, 107, 108, 109, 110, 111, 112, 113, 114, 115, 116, 117, 118, 119, 120, 121, 122]))) (tCallW (toSp K (sp_L_draw K)) (WE W0) (tCons (tVar 0) (tCons (tC (.int 26)) tNil)))) [3]) tNil)) (gName 2)) (tRet (tOp (rAddG K) (tVar 2) (tOp (rMulG K) (tC (.str (S [113]))) (tCB rIntG (tCons (tOp (rInG K) (tVar 2) (tCallW (toSp K (sp_L_reserved K)) (WE W) tNil)) tNil)))))))
abbrev DL_L_name (K : Frag) (sp : SpD) : Prop := ∀ ds γ q e E, loG γ.length γ = true → loL γ.length ds = true → sp ds γ q e → dS ⟨K, wOf E, fun _ => DrX γ.length e⟩ γ.length (t_L_name K (wOf E)) (ds.map some ++ List.replicate (4 - ds.length) none) γ { nx := fun _ γ' => Dr γ.length q .non γ', rt := Dr γ.length q }
def N_L_names : List Str := ["_law_stream", "_law_many", "_law_found", "_law_k", "_law_name_here", "_law_spare"]
theorem sc_L_names : FnScope N_L_names ["_law_stream", "_law_many"] (defScope (top 34)) := ⟨rfl, rfl, rfl, by decide +kernel, rfl, by decide +kernel, by decide +kernel⟩
def t_L_names (K : Frag) (W : WX) : TS := (tSeq (tAsg (tLstM tNil) (gName 2)) (tSeq (tFor (iRng1 (tCons (tVar 1) tNil)) (gName 3) (tSeq (tAsg (tCallW (toSp K (sp_L_name K)) (WE W) (tCons (tVar 0) tNil)) (gName 4)) (tSeq (tFor (iList K (tLst (tCons (tC (.str (S [112, 97]))) (tCons (tC (.str (S [112, 98]))) (tCons (tC (.str (S [112, 99]))) (tCons (tC (.str (S [112, 100]))) (tCons (tC (.str (S [112, 101]))) (tCons (tC (.str (S [112, 102]))) tNil)))))))) (gName 5) (tIfS (tTest (tOp (rInG K) (tVar 4) (tVar 2))) (tAsg (tVar 5) (gName 4)) tNext)) (tDrop (tBM K "list" rAppend (tVar 2) (tCons (tVar 4) tNil)))))) (tRet (tVar 2))))
abbrev DL_L_names (K : Frag) (sp : SpD) : Prop := ∀ ds γ q e E, loG γ.length γ = true → loL γ.length ds = true → sp ds γ q e → dS ⟨K, wOf E, fun _ => DrX γ.length e⟩ γ.length (t_L_names K (wOf E)) (ds.map some ++ List.replicate (6 - ds.length) none) γ { nx := fun _ γ' => Dr γ.length q .non γ', rt := Dr γ.length q }
def N_L_number : List Str := ["_law_stream"]
theorem sc_L_number : FnScope N_L_number ["_law_stream"] (defScope (top 35)) := ⟨rfl, rfl, rfl, by decide +kernel, rfl, by decide +kernel, by decide +kernel⟩
def t_L_number (K : Frag) (W : WX) : TS := (tRet (tOp (rIx K) (tLst (tCons (tC (.int 0)) (tCons (tC (.int 1)) (tCons (tC (.int 2)) (tCons (tC (.int 7)) (tCons (tC (.int 10)) (tCons (tC (.int 999)) (tCons (tOp rPow (tC (.int 10)) (tC (.int 29))) (tCons (tOp rSubD (tOp rPow (tC (.int 10)) (tC (.int 30))) (tC (.int 1))) tNil))))))))) (tCallW (toSp K (sp_L_draw K)) (WE W) (tCons (tVar 0) (tCons (tC (.int 8)) tNil)))))
abbrev DL_L_number (K : Frag) (sp : SpD) : Prop := ∀ ds γ q e E, loG γ.length γ = true → loL γ.length ds = true → sp ds γ q e → dS ⟨K, wOf E, fun _ => DrX γ.length e⟩ γ.length (t_L_number K (wOf E)) (ds.map some ++ List.replicate (1 - ds.length) none) γ { nx := fun _ γ' => Dr γ.length q .non γ', rt := Dr γ.length q }
def N_L_sum : List Str := ["_law_stream", "_law_names_here", "_law_depth", "_law_way", "_law_word"]
theorem sc_L_sum : FnScope N_L_sum ["_law_stream", "_law_names_here", "_law_depth"] (defScope (top 36)) := ⟨rfl, rfl, rfl, by decide +kernel, rfl, by decide +kernel, by decide +kernel⟩
def t_L_sum (K : Frag) (s_L_sum : SpD) (W : WX) : TS := (tSeq (tAsg (tCallW (toSp K (sp_L_draw K)) (WE W) (tCons (tVar 0) (tCons (tC (.int 9)) tNil))) (gName 3)) (tSeq (tIfS (tOr (tTest (tOp (rEqG K) (tVar 2) (tC (.int 0)))) (tTest (tOp (rEqG K) (tVar 3) (tC (.int 0))))) (tSeq (tIfS (tTest (tOp (rEqG K) (tCallW (toSp K (sp_L_draw K)) (WE W) (tCons (tVar 0) (tCons (tC (.int 2)) tNil))) (tC (.int 0)))) (tRet (tTup (tCons (tC (.str (S [110, 117, 109, 98, 101, 114]))) (tCons (tCallW (toSp K (sp_L_number K)) (WE W) (tCons (tVar 0) tNil)) tNil)))) tNext) (tRet (tTup (tCons (tC (.str (S [118, 97, 114, 105, 97, 98, 108, 101]))) (tCons (tOp (rIx K) (tVar 1) (tCallW (toSp K (sp_L_draw K)) (WE W) (tCons (tVar 0) (tCons (tCB (rLenG K) (tCons (tVar 1) tNil)) tNil)))) tNil))))) tNext) (tSeq (tIfS (tTest (tOp rLtI (tVar 3) (tC (.int 3)))) (tRet (tTup (tCons (tC (.str (S [110, 101, 103, 97, 116, 101]))) (tCons (tCallW (toSp K s_L_sum) (WE W) (tCons (tVar 0) (tCons (tVar 1) (tCons (tOp rSubD (tVar 2) (tC (.int 1))) tNil)))) tNil)))) tNext) (tSeq (tAsg (tOp (rIx K) (tLst (tCons (tC (.str (S [43]))) (tCons (tC (.str (S [45]))) (tCons (tC (.str (S [42]))) (tCons (tC (.str (S [47, 47]))) (tCons (tC (.str (S [109, 111, 100]))) tNil)))))) (tOp rMod (tVar 3) (tC (.int 5)))) (gName 4)) (tRet (tTup (tCons (tVar 4) (tCons (tCallW (toSp K s_L_sum) (WE W) (tCons (tVar 0) (tCons (tVar 1) (tCons (tOp rSubD (tVar 2) (tC (.int 1))) tNil)))) (tCons (tCallW (toSp K s_L_sum) (WE W) (tCons (tVar 0) (tCons (tVar 1) (tCons (tOp rSubD (tVar 2) (tC (.int 1))) tNil)))) tNil)))))))))
abbrev DL_L_sum (K : Frag) (s_L_sum : SpD) (sp : SpD) : Prop := ∀ ds γ q e E, loG γ.length γ = true → loL γ.length ds = true → sp ds γ q e → dS ⟨K, wOf E, fun _ => DrX γ.length e⟩ γ.length (t_L_sum K s_L_sum (wOf E)) (ds.map some ++ List.replicate (5 - ds.length) none) γ { nx := fun _ γ' => Dr γ.length q .non γ', rt := Dr γ.length q }
def N_L_truth : List Str := ["_law_stream", "_law_names_here", "_law_depth", "_law_way", "_law_sign", "_law_left", "_law_word"]
theorem sc_L_truth : FnScope N_L_truth ["_law_stream", "_law_names_here", "_law_depth"] (defScope (top 37)) := ⟨rfl, rfl, rfl, by decide +kernel, rfl, by decide +kernel, by decide +kernel⟩
def t_L_truth (K : Frag) (s_L_truth : SpD) (W : WX) : TS := (tSeq (tAsg (tCallW (toSp K (sp_L_draw K)) (WE W) (tCons (tVar 0) (tCons (tC (.int 8)) tNil))) (gName 3)) (tSeq (tIfS (tOr (tTest (tOp (rEqG K) (tVar 2) (tC (.int 0)))) (tTest (tOp rLtI (tVar 3) (tC (.int 3))))) (tSeq (tAsg (tOp (rIx K) (tBM K "str" rSplit (tC (.str (S [61, 32, 33, 61, 32, 60, 32, 60, 61, 32, 62, 32, 62, 61]))) (tCons (tC (.str (S [32]))) tNil)) (tCallW (toSp K (sp_L_draw K)) (WE W) (tCons (tVar 0) (tCons (tC (.int 6)) tNil)))) (gName 4)) (tSeq (tAsg (tCallW (toSp K (sp_L_sum K)) (WE W) (tCons (tVar 0) (tCons (tVar 1) (tCons (tCallW (toSp K (sp_L_draw K)) (WE W) (tCons (tVar 0) (tCons (tC (.int 3)) tNil))) tNil)))) (gName 5)) (tRet (tTup (tCons (tVar 4) (tCons (tVar 5) (tCons (tCallW (toSp K (sp_L_sum K)) (WE W) (tCons (tVar 0) (tCons (tVar 1) (tCons (tCallW (toSp K (sp_L_draw K)) (WE W) (tCons (tVar 0) (tCons (tC (.int 3)) tNil))) tNil)))) tNil))))))) tNext) (tSeq (tIfS (tTest (tOp (rEqG K) (tVar 3) (tC (.int 3)))) (tRet (tTup (tCons (tC (.str (S [110, 111, 116]))) (tCons (tCallW (toSp K s_L_truth) (WE W) (tCons (tVar 0) (tCons (tVar 1) (tCons (tOp rSubD (tVar 2) (tC (.int 1))) tNil)))) tNil)))) tNext) (tSeq (tAsg (tOp (rIx K) (tLst (tCons (tC (.str (S [111, 114]))) (tCons (tC (.str (S [97, 110, 100]))) tNil))) (tOp rMod (tVar 3) (tC (.int 2)))) (gName 6)) (tRet (tTup (tCons (tVar 6) (tCons (tCallW (toSp K s_L_truth) (WE W) (tCons (tVar 0) (tCons (tVar 1) (tCons (tOp rSubD (tVar 2) (tC (.int 1))) tNil)))) (tCons (tCallW (toSp K s_L_truth) (WE W) (tCons (tVar 0) (tCons (tVar 1) (tCons (tOp rSubD (tVar 2) (tC (.int 1))) tNil)))) tNil)))))))))
abbrev DL_L_truth (K : Frag) (s_L_truth : SpD) (sp : SpD) : Prop := ∀ ds γ q e E, loG γ.length γ = true → loL γ.length ds = true → sp ds γ q e → dS ⟨K, wOf E, fun _ => DrX γ.length e⟩ γ.length (t_L_truth K s_L_truth (wOf E)) (ds.map some ++ List.replicate (7 - ds.length) none) γ { nx := fun _ γ' => Dr γ.length q .non γ', rt := Dr γ.length q }
def N_L_rank : List Str := ["_law_word"]
theorem sc_L_rank : FnScope N_L_rank ["_law_word"] (defScope (top 38)) := ⟨rfl, rfl, rfl, by decide +kernel, rfl, by decide +kernel, by decide +kernel⟩
def t_L_rank (K : Frag) (W : WX) : TS := (tRet (tDGet2 (tDisp [((tC (.str (S [111, 114]))), (tC (.int 1))), ((tC (.str (S [97, 110, 100]))), (tC (.int 2))), ((tC (.str (S [43]))), (tC (.int 1))), ((tC (.str (S [45]))), (tC (.int 1))), ((tC (.str (S [42]))), (tC (.int 2))), ((tC (.str (S [47, 47]))), (tC (.int 2))), ((tC (.str (S [109, 111, 100]))), (tC (.int 2)))]) (tVar 0) (tC (.int 3))))
abbrev DL_L_rank (K : Frag) (sp : SpD) : Prop := ∀ ds γ q e E, loG γ.length γ = true → loL γ.length ds = true → sp ds γ q e → dS ⟨K, wOf E, fun _ => DrX γ.length e⟩ γ.length (t_L_rank K (wOf E)) (ds.map some ++ List.replicate (1 - ds.length) none) γ { nx := fun _ γ' => Dr γ.length q .non γ', rt := Dr γ.length q }
def N_L_canonical : List Str := ["_law_node", "_law_least", "_law_word", "_law_rank_here", "_law_text", "_law_bars"]
theorem sc_L_canonical : FnScope N_L_canonical ["_law_node", "_law_least"] (defScope (top 39)) := ⟨rfl, rfl, rfl, by decide +kernel, rfl, by decide +kernel, by decide +kernel⟩
def t_L_canonical (K : Frag) (s_L_canonical : SpD) (W : WX) : TS := (tSeq (tAsg (tOp (rIx K) (tVar 0) (tC (.int 0))) (gName 2)) (tSeq (tAsg (tCallW (toSp K (sp_L_rank K)) (WE W) (tCons (tVar 2) tNil)) (gName 3)) (tSeq (tIfS (tTest (tOp (rInG K) (tVar 2) (tTup (tCons (tC (.str (S [110, 117, 109, 98, 101, 114]))) (tCons (tC (.str (S [118, 97, 114, 105, 97, 98, 108, 101]))) tNil))))) (tAsg (tCB rStrG (tCons (tOp (rIx K) (tVar 0) (tC (.int 1))) tNil)) (gName 4)) (tIfS (tTest (tOp (rInG K) (tVar 2) (tTup (tCons (tC (.str (S [110, 101, 103, 97, 116, 101]))) (tCons (tC (.str (S [110, 111, 116]))) tNil))))) (tAsg (tOp (rAddG K) (tOp (rIx K) (tLst (tCons (tC (.str (S [45]))) (tCons (tC (.str (S [110, 111, 116, 32]))) tNil))) (tCB rIntG (tCons (tOp (rEqG K) (tVar 2) (tC (.str (S [110, 111, 116])))) tNil))) (tCallW (toSp K s_L_canonical) (WE W) (tCons (tOp (rIx K) (tVar 0) (tC (.int 1))) (tCons (tC (.int 3)) tNil)))) (gName 4)) (tIfS (tTest (tOp (rInG K) (tVar 2) (tBM K "str" rSplit (tC (.str (S [61, 32, 33, 61, 32, 60, 32, 60, 61, 32, 62, 32, 62, 61]))) (tCons (tC (.str (S [32]))) tNil)))) (tAsg (tBM K "str" (rJoin K) (tC (.str (S [32]))) (tCons (tLst (tCons (tCallW (toSp K s_L_canonical) (WE W) (tCons (tOp (rIx K) (tVar 0) (tC (.int 1))) (tCons (tC (.int 1)) tNil))) (tCons (tVar 2) (tCons (tCallW (toSp K s_L_canonical) (WE W) (tCons (tOp (rIx K) (tVar 0) (tC (.int 2))) (tCons (tC (.int 1)) tNil))) tNil)))) tNil)) (gName 4)) (tAsg (tBM K "str" (rJoin K) (tC (.str (S [32]))) (tCons (tLst (tCons (tCallW (toSp K s_L_canonical) (WE W) (tCons (tOp (rIx K) (tVar 0) (tC (.int 1))) (tCons (tVar 3) tNil))) (tCons (tVar 2) (tCons (tCallW (toSp K s_L_canonical) (WE W) (tCons (tOp (rIx K) (tVar 0) (tC (.int 2))) (tCons (tOp (rAddG K) (tVar 3) (tC (.int 1))) tNil))) tNil)))) tNil)) (gName 4))))) (tSeq (tAsg (tOp (rIx K) (tLst (tCons (tC (.str (S [40, 41]))) (tCons (tC (.str (S [91, 93]))) tNil))) (tCB rIntG (tCons (tOp (rInG K) (tVar 2) (tTup (tCons (tC (.str (S [111, 114]))) (tCons (tC (.str (S [97, 110, 100]))) tNil)))) tNil))) (gName 5)) (tRet (tIf (tTest (tOp rLtI (tVar 3) (tVar 1))) (tOp (rAddG K) (tOp (rAddG K) (tOp (rIx K) (tVar 5) (tC (.int 0))) (tVar 4)) (tOp (rIx K) (tVar 5) (tC (.int 1)))) (tVar 4)))))))
abbrev DL_L_canonical (K : Frag) (s_L_canonical : SpD) (sp : SpD) : Prop := ∀ ds γ q e E, loG γ.length γ = true → loL γ.length ds = true → sp ds γ q e → dS ⟨K, wOf E, fun _ => DrX γ.length e⟩ γ.length (t_L_canonical K s_L_canonical (wOf E)) (ds.map some ++ List.replicate (6 - ds.length) none) γ { nx := fun _ γ' => Dr γ.length q .non γ', rt := Dr γ.length q }
def N_L_is_within : List Str := ["_law_text", "_law_sign"]
theorem sc_L_is_within : FnScope N_L_is_within ["_law_text"] (defScope (top 40)) := ⟨rfl, rfl, rfl, by decide +kernel, rfl, by decide +kernel, by decide +kernel⟩
def t_L_is_within (K : Frag) (W : WX) : TS := (tRet (tAndV (tOp rLeI (tCB (rLenG K) (tCons (tVar 0) tNil)) (tC (.int 400))) (tOp rLeI (tCB (rMax K) (tCons (tLc (iTup K (tTup (tCons (tC (.str (S [40]))) (tCons (tC (.str (S [91]))) (tCons (tC (.str (S [45]))) (tCons (tC (.str (S [110, 111, 116]))) tNil)))))) (gName 1) tYes (tBM K "str" rCount (tVar 0) (tCons (tVar 1) tNil)) [1]) tNil)) (tC (.int 40)))))
abbrev DL_L_is_within (K : Frag) (sp : SpD) : Prop := ∀ ds γ q e E, loG γ.length γ = true → loL γ.length ds = true → sp ds γ q e → dS ⟨K, wOf E, fun _ => DrX γ.length e⟩ γ.length (t_L_is_within K (wOf E)) (ds.map some ++ List.replicate (2 - ds.length) none) γ { nx := fun _ γ' => Dr γ.length q .non γ', rt := Dr γ.length q }
def N_L_listed : List Str := ["_law_node", "_law_part"]
theorem sc_L_listed : FnScope N_L_listed ["_law_node"] (defScope (top 41)) := ⟨rfl, rfl, rfl, by decide +kernel, rfl, by decide +kernel, by decide +kernel⟩
def t_L_listed (K : Frag) (s_L_listed : SpD) (W : WX) : TS := (tRet (tIf (tB (tCB (rIsi K) (tCons (tVar 0) (tCons (tC (.ty "tuple")) tNil)))) (tLc (iTup K (tVar 0)) (gName 1) tYes (tCallW (toSp K s_L_listed) (WE W0) (tCons (tVar 1) tNil)) [1]) (tVar 0)))
abbrev DL_L_listed (K : Frag) (s_L_listed : SpD) (sp : SpD) : Prop := ∀ ds γ q e E, loG γ.length γ = true → loL γ.length ds = true → sp ds γ q e → dS ⟨K, wOf E, fun _ => DrX γ.length e⟩ γ.length (t_L_listed K s_L_listed (wOf E)) (ds.map some ++ List.replicate (2 - ds.length) none) γ { nx := fun _ γ' => Dr γ.length q .non γ', rt := Dr γ.length q }
def N_L_pairs : List Str := ["_law_stream", "_law_names_here", "_law_known", "_law_found", "_law_name_here", "_law_some", "_law_pair"]
theorem sc_L_pairs : FnScope N_L_pairs ["_law_stream", "_law_names_here"] (defScope (top 42)) := ⟨rfl, rfl, rfl, by decide +kernel, rfl, by decide +kernel, by decide +kernel⟩
def t_L_pairs (K : Frag) (W : WX) : TS := (tSeq (tAsg tDNewK (gName 2)) (tSeq (tAsg (tLstM tNil) (gName 3)) (tSeq (tFor (iList K (tVar 1)) (gName 4) (tIfS (tTest (tOp rGtI (tCallW (toSp K (sp_L_draw K)) (WE W) (tCons (tVar 0) (tCons (tC (.int 4)) tNil))) (tC (.int 0)))) (tSeq (tAsg (tLst (tCons (tC (.int 0)) (tCons (tC (.int 1)) (tCons (tUn rNeg (tC (.int 1))) (tCons (tC (.int 3)) (tCons (tUn rNeg (tC (.int 7))) (tCons (tC (.int 12)) (tCons (tOp rPow (tC (.int 10)) (tC (.int 15))) (tCons (tUn rNeg (tOp rPow (tC (.int 10)) (tC (.int 15)))) (tCons (tOp rSubD (tOp rPow (tC (.int 10)) (tC (.int 30))) (tC (.int 1))) (tCons (tOp rSubD (tC (.int 1)) (tOp rPow (tC (.int 10)) (tC (.int 30)))) (tCons (tCallW (toSp K (sp_L_draw K)) (WE W) (tCons (tVar 0) (tCons (tC (.int 1000)) tNil))) tNil)))))))))))) (gName 5)) (tSeq (sDPut (tVar 2) (tVar 4) (tOp (rIx K) (tVar 5) (tCallW (toSp K (sp_L_draw K)) (WE W) (tCons (tVar 0) (tCons (tC (.int 11)) tNil))))) (tSeq (tAsg (tOp (rIx K) (tLst (tCons (tTup (tCons (tVar 4) (tCons (tDGet (tVar 2) (tVar 4)) tNil))) (tCons (tLst (tCons (tVar 4) (tCons (tDGet (tVar 2) (tVar 4)) tNil))) tNil))) (tCallW (toSp K (sp_L_draw K)) (WE W) (tCons (tVar 0) (tCons (tC (.int 2)) tNil)))) (gName 6)) (tDrop (tBM K "list" rInsert (tVar 3) (tCons (tCallW (toSp K (sp_L_draw K)) (WE W) (tCons (tVar 0) (tCons (tOp (rAddG K) (tCB (rLenG K) (tCons (tVar 3) tNil)) (tC (.int 1))) tNil))) (tCons (tVar 6) tNil))))))) tNext)) (tRet (tLst (tCons (tVar 3) (tCons (tVar 2) tNil)))))))
abbrev DL_L_pairs (K : Frag) (sp : SpD) : Prop := ∀ ds γ q e E, loG γ.length γ = true → loL γ.length ds = true → sp ds γ q e → dS ⟨K, wOf E, fun _ => DrX γ.length e⟩ γ.length (t_L_pairs K (wOf E)) (ds.map some ++ List.replicate (7 - ds.length) none) γ { nx := fun _ γ' => Dr γ.length q .non γ', rt := Dr γ.length q }
def N_L_calculated : List Str := ["_law_word", "_law_left", "_law_right", "_law_part", "_law_found"]
theorem sc_L_calculated : FnScope N_L_calculated ["_law_word", "_law_left", "_law_right"] (defScope (top 43)) := ⟨rfl, rfl, rfl, by decide +kernel, rfl, by decide +kernel, by decide +kernel⟩
def t_L_calculated (K : Frag) (W : WX) : TS := (tSeq (tIfS (tTest (tOp (rInG K) (tVar 0) (tTup (tCons (tC (.str (S [47, 47]))) (tCons (tC (.str (S [109, 111, 100]))) tNil))))) (tSeq (tIfS (tTest (tOp (rEqG K) (tVar 2) (tC (.int 0)))) (tRet (tTup (tCons (tC (.str (S [100, 105, 118, 105, 115, 105, 111, 110]))) tNil))) tNext) (tSeq (tAsg (tOp (rMulG K) (tOp rFdiv (tCB rAbs (tCons (tVar 1) tNil)) (tCB rAbs (tCons (tVar 2) tNil))) (tOp (rIx K) (tLst (tCons (tC (.int 1)) (tCons (tUn rNeg (tC (.int 1))) tNil))) (tCB rIntG (tCons (tOp (rNeG K) (tOp rLtI (tVar 1) (tC (.int 0))) (tOp rLtI (tVar 2) (tC (.int 0)))) tNil)))) (gName 3)) (tSeq (tAsg (tOp rSubD (tVar 3) (tCB rIntG (tCons (tAndV (tOp (rNeG K) (tOp (rMulG K) (tVar 3) (tVar 2)) (tVar 1)) (tOp (rNeG K) (tOp rLtI (tVar 1) (tC (.int 0))) (tOp rLtI (tVar 2) (tC (.int 0))))) tNil))) (gName 3)) (tRet (tIf (tTest (tOp (rEqG K) (tVar 0) (tC (.str (S [47, 47]))))) (tVar 3) (tOp rSubD (tVar 1) (tOp (rMulG K) (tVar 3) (tVar 2)))))))) tNext) (tSeq (tAsg (tIf (tTest (tOp (rEqG K) (tVar 0) (tC (.str (S [42]))))) (tOp (rMulG K) (tVar 1) (tVar 2)) (tOp (rAddG K) (tVar 1) (tOp (rIx K) (tLst (tCons (tVar 2) (tCons (tOp rSubD (tC (.int 0)) (tVar 2)) tNil))) (tCB rIntG (tCons (tOp (rEqG K) (tVar 0) (tC (.str (S [45])))) tNil))))) (gName 4)) (tRet (tIf (tTest (tOp rLtI (tCB (rLenG K) (tCons (tCB rStrG (tCons (tCB rAbs (tCons (tVar 4) tNil)) tNil)) tNil)) (tC (.int 31)))) (tVar 4) (tTup (tCons (tC (.str (S [111, 118, 101, 114, 102, 108, 111, 119]))) tNil))))))
abbrev DL_L_calculated (K : Frag) (sp : SpD) : Prop := ∀ ds γ q e E, loG γ.length γ = true → loL γ.length ds = true → sp ds γ q e → dS ⟨K, wOf E, fun _ => DrX γ.length e⟩ γ.length (t_L_calculated K (wOf E)) (ds.map some ++ List.replicate (5 - ds.length) none) γ { nx := fun _ γ' => Dr γ.length q .non γ', rt := Dr γ.length q }
def N_L_value : List Str := ["_law_node", "_law_known", "_law_word", "_law_parts", "_law_part", "_law_value_here", "_law_one", "_law_other", "_law_truths"]
theorem sc_L_value : FnScope N_L_value ["_law_node", "_law_known"] (defScope (top 44)) := ⟨rfl, rfl, rfl, by decide +kernel, rfl, by decide +kernel, by decide +kernel⟩
def t_L_value (K : Frag) (s_L_value : SpD) (W : WX) : TS := (tSeq (tAsg (tOp (rIx K) (tVar 0) (tC (.int 0))) (gName 2)) (tSeq (tIfS (tTest (tOp (rInG K) (tVar 2) (tTup (tCons (tC (.str (S [110, 117, 109, 98, 101, 114]))) (tCons (tC (.str (S [118, 97, 114, 105, 97, 98, 108, 101]))) tNil))))) (tRet (tIf (tTest (tOp (rEqG K) (tVar 2) (tC (.str (S [110, 117, 109, 98, 101, 114]))))) (tOp (rIx K) (tVar 0) (tC (.int 1))) (tDGet2 (tVar 1) (tOp (rIx K) (tVar 0) (tC (.int 1))) (tC (.int 0))))) tNext) (tSeq (tAsg (tLstM tNil) (gName 3)) (tSeq (tFor (iTup K (tSl (rSlG K) (tVar 0) (tPart (tC (.int 1))) tNoPart)) (gName 4) (tSeq (tAsg (tCallW (toSp K s_L_value) (WE W) (tCons (tVar 4) (tCons (tVar 1) tNil))) (gName 5)) (tSeq (tIfS (tB (tCB (rIsi K) (tCons (tVar 5) (tCons (tC (.ty "tuple")) tNil)))) (tRet (tVar 5)) tNext) (tDrop (tBM K "list" rAppend (tVar 3) (tCons (tVar 5) tNil)))))) (tSeq (tIfS (tTest (tOp (rInG K) (tVar 2) (tTup (tCons (tC (.str (S [110, 101, 103, 97, 116, 101]))) (tCons (tC (.str (S [110, 111, 116]))) tNil))))) (tRet (tIf (tTest (tOp (rEqG K) (tVar 2) (tC (.str (S [110, 101, 103, 97, 116, 101]))))) (tOp rSubD (tC (.int 0)) (tOp (rIx K) (tVar 3) (tC (.int 0)))) (tOp rIsT (tOp (rIx K) (tVar 3) (tC (.int 0))) (tC (.bl false))))) tNext) (tSeq (tAsg (tVar 3) (gUnl K 2 (gCons (gName 6) (gCons (gName 7) gNil)))) (tSeq (tIfS (tTest (tOp (rInG K) (tVar 2) (tTup (tCons (tC (.str (S [43]))) (tCons (tC (.str (S [45]))) (tCons (tC (.str (S [42]))) (tCons (tC (.str (S [47, 47]))) (tCons (tC (.str (S [109, 111, 100]))) tNil)))))))) (tRet (tCallW (toSp K (sp_L_calculated K)) (WE W) (tCons (tVar 2) (tCons (tVar 6) (tCons (tVar 7) tNil))))) tNext) (tSeq (tAsg (tDispM [((tC (.str (S [97, 110, 100]))), (tAndT K (tVar 6) (tVar 7))), ((tC (.str (S [111, 114]))), (tOrT K (tVar 6) (tVar 7))), ((tC (.str (S [61]))), (tOp (rEqG K) (tVar 6) (tVar 7))), ((tC (.str (S [33, 61]))), (tOp (rNeG K) (tVar 6) (tVar 7)))]) (gName 8)) (tSeq (tDrop (tBM K "dict" rUpdate (tVar 8) (tCons (tDisp [((tC (.str (S [60]))), (tOp rLtG (tVar 6) (tVar 7))), ((tC (.str (S [60, 61]))), (tOp rLeG (tVar 6) (tVar 7))), ((tC (.str (S [62]))), (tOp rGtG (tVar 6) (tVar 7))), ((tC (.str (S [62, 61]))), (tOp rGeG (tVar 6) (tVar 7)))]) tNil))) (tRet (tDGet (tVar 8) (tVar 2))))))))))))
abbrev DL_L_value (K : Frag) (s_L_value : SpD) (sp : SpD) : Prop := ∀ ds γ q e E, loG γ.length γ = true → loL γ.length ds = true → sp ds γ q e → dS ⟨K, wOf E, fun _ => DrX γ.length e⟩ γ.length (t_L_value K s_L_value (wOf E)) (ds.map some ++ List.replicate (9 - ds.length) none) γ { nx := fun _ γ' => Dr γ.length q .non γ', rt := Dr γ.length q }
def N_L_evaluated : List Str := ["_law_node", "_law_values", "_law_found", "e"]
theorem sc_L_evaluated : FnScope N_L_evaluated ["_law_node", "_law_values"] (defScope (top 45)) := ⟨rfl, rfl, rfl, by decide +kernel, rfl, by decide +kernel, by decide +kernel⟩
def t_L_evaluated (K : Frag) (W : WX) : TS := (tSeq (tAsg (tC .non) (gName 2)) (tSeq (tTryAs K W (.ref (He.ga K "Fault")) 3 (fun W' => (tAsg (tCallW (toSp K (sp_evaluate K)) (WE W') (tCons (tVar 0) (tCons (tVar 1) tNil))) (gName 2))) (fun a cls d => (tAsg (tTup (tCons (tXfG K a cls d "reason" (tVar 3)) tNil)) (gName 2)))) (tRet (tVar 2))))
abbrev DL_L_evaluated (K : Frag) (sp : SpD) : Prop := ∀ ds γ q e E, loG γ.length γ = true → loL γ.length ds = true → sp ds γ q e → dS ⟨K, wOf E, fun _ => DrX γ.length e⟩ γ.length (t_L_evaluated K (wOf E)) (ds.map some ++ List.replicate (4 - ds.length) none) γ { nx := fun _ γ' => Dr γ.length q .non γ', rt := Dr γ.length q }
def N_L_same : List Str := ["_law_found", "_law_due"]
theorem sc_L_same : FnScope N_L_same ["_law_found", "_law_due"] (defScope (top 46)) := ⟨rfl, rfl, rfl, by decide +kernel, rfl, by decide +kernel, by decide +kernel⟩
def t_L_same (K : Frag) (W : WX) : TS := (tRet (tAndV (tOp (rEqG K) (tCB (rIsi K) (tCons (tVar 0) (tCons (tC (.ty "bool")) tNil))) (tCB (rIsi K) (tCons (tVar 1) (tCons (tC (.ty "bool")) tNil)))) (tOp (rEqG K) (tVar 0) (tVar 1))))
abbrev DL_L_same (K : Frag) (sp : SpD) : Prop := ∀ ds γ q e E, loG γ.length γ = true → loL γ.length ds = true → sp ds γ q e → dS ⟨K, wOf E, fun _ => DrX γ.length e⟩ γ.length (t_L_same K (wOf E)) (ds.map some ++ List.replicate (2 - ds.length) none) γ { nx := fun _ γ' => Dr γ.length q .non γ', rt := Dr γ.length q }
def N_law : List Str := ["_law_script", "_law_stream", "_law_turn", "_law_names_here", "_law_node", "_law_values", "_law_known", "_law_due", "_law_handed", "_law_found", "_law_text", "_law_error"]
theorem sc_law : FnScope N_law ["_law_script"] (defScope (top 47)) := ⟨rfl, rfl, rfl, by decide +kernel, rfl, by decide +kernel, by decide +kernel⟩
def t_law (K : Frag) (W : WX) : TS := (tSeq (tFor (iRng1 (tCons (tC (.int 8)) tNil)) (gName 2) (tSeq (tAsg (tCallW (toSp K (sp_L_names K)) (WE W) (tCons (tVar 1) (tCons (tC (.int 3)) tNil))) (gName 3)) (tSeq (tAsg (tCallW (toSp K (sp_L_truth K)) (WE W) (tCons (tVar 1) (tCons (tVar 3) (tCons (tCallW (toSp K (sp_L_draw K)) (WE W) (tCons (tVar 1) (tCons (tC (.int 4)) tNil))) tNil)))) (gName 4)) (tSeq (tAsg (tCallW (toSp K (sp_L_pairs K)) (WE W) (tCons (tVar 1) (tCons (tVar 3) tNil))) (gAny K 2 (gCons (gName 5) (gCons (gName 6) gNil)))) (tSeq (tAsg (tCallW (toSp K (sp_L_value K)) (WE W) (tCons (tVar 4) (tCons (tVar 6) tNil))) (gName 7)) (tSeq (tAsg (tOp (rIx K) (tLst (tCons (tVar 4) (tCons (tCallW (toSp K (sp_L_listed K)) (WE W) (tCons (tVar 4) tNil)) tNil))) (tCallW (toSp K (sp_L_draw K)) (WE W) (tCons (tVar 1) (tCons (tC (.int 2)) tNil)))) (gName 8)) (tIfS (tB (tCallW (toSp K (sp_L_is_within K)) (WE W) (tCons (tCallW (toSp K (sp_L_canonical K)) (WE W) (tCons (tVar 4) (tCons (tC (.int 1)) tNil))) tNil))) (tSeq (tAsg (tCallW (toSp K (sp_holds K)) (WE W) (tCons (tVar 8) (tCons (tVar 5) tNil))) (gName 9)) (tIfS (tOr (tNot (tB (tCallW (toSp K (sp_L_same K)) (WE W) (tCons (tCallW (toSp K (sp_L_evaluated K)) (WE W) (tCons (tVar 8) (tCons (tVar 5) tNil))) (tCons (tVar 7) tNil))))) (tNot (tB (tCallW (toSp K (sp_L_same K)) (WE W) (tCons (tVar 9) (tCons (tOp rIsT (tVar 7) (tC (.bl true))) tNil)))))) (tRet (tC (.bl false))) tNext)) tNext))))))) (tSeq (tAsg (tC (.str (S [49, 32, 61, 32, 49, 32, 111, 114, 32, 49, 32, 47, 47, 32, 48, 32, 61, 32, 48]))) (gName 10)) (tSeq (tIfS (tOr (tTest (tOp (rNeG K) (tCallW (toSp K (sp_L_evaluated K)) (WE W) (tCons (tCallW (toSp K (sp_parse_condition K)) (WE W) (tCons (tVar 10) tNil)) (tCons (tTup tNil) tNil))) (tTup (tCons (tC (.str (S [100, 105, 118, 105, 115, 105, 111, 110]))) tNil)))) (tTest (tOp rNtT (tCallW (toSp K (sp_holds K)) (WE W) (tCons (tCallW (toSp K (sp_parse_condition K)) (WE W) (tCons (tVar 10) tNil)) (tCons (tTup tNil) tNil))) (tC (.bl false))))) (tRet (tC (.bl false))) tNext) (tSeq (tAsg (tCallW (toSp K (sp_parse_condition K)) (WE W) (tCons (tC (.str (S [120, 32, 42, 32, 120, 32, 61, 32, 48, 32, 97, 110, 100, 32, 49, 32, 61, 32, 50, 32, 111, 114, 32, 49, 32, 109, 111, 100, 32, 121, 32, 61, 32, 48]))) tNil)) (gName 4)) (tSeq (tIfS (tOr (tTest (tOp (rNeG K) (tCallW (toSp K (sp_L_evaluated K)) (WE W) (tCons (tVar 4) (tCons (tLst (tCons (tTup (tCons (tC (.str (S [120]))) (tCons (tOp rPow (tC (.int 10)) (tC (.int 15))) tNil))) tNil)) tNil))) (tTup (tCons (tC (.str (S [111, 118, 101, 114, 102, 108, 111, 119]))) tNil)))) (tTest (tOp (rNeG K) (tCallW (toSp K (sp_L_evaluated K)) (WE W) (tCons (tVar 4) (tCons (tLst (tCons (tTup (tCons (tC (.str (S [120]))) (tCons (tC (.int 9)) tNil))) tNil)) tNil))) (tTup (tCons (tC (.str (S [100, 105, 118, 105, 115, 105, 111, 110]))) tNil))))) (tRet (tC (.bl false))) tNext) (tSeq (tAsg (tMkV (He.ga K "Fault") (spIni K (He.ga K "Fault") (sp_frozen K) ["reason"]) (tCons (tC (.str (S [111, 100, 100]))) tNil)) (gName 11)) (tRet (tAndV (tCB (rIsV K) (tCons (tVar 11) (tCons (tC (.ref (He.ga K "RerunError"))) tNil))) (tAndV (tCB (rIsV K) (tCons (tVar 11) (tCons (tC (.ty "ValueError")) tNil))) (tOp (rEqG K) (tXfV K "reason" (tVar 11)) (tC (.str (S [111, 100, 100])))))))))))))
abbrev DL_law (K : Frag) : Prop := dLaw K N_law (t_law K)
end K09

set_option Elab.async false
set_option linter.all false
set_option maxRecDepth 100000
set_option maxHeartbeats 4000000
namespace K09
open PySem PySem.Spec PyProof.Rows L2 DL
local macro_rules | `(tactic| walk_at "GO") => `(tactic| repeat' (first | with_reducible refine xs_seq ?_ | with_reducible refine xs_set ?_ | with_reducible refine xs_asg ?_ | with_reducible refine xs_if ?_ | with_reducible refine xs_ret ?_ | with_reducible refine xs_next ?_ | with_reducible refine xs_expr ?_ | with_reducible refine xs_fld ?_ | with_reducible refine xs_par ?_ | with_reducible refine xs_retN ?_ | with_reducible refine xs_brk ?_ | with_reducible refine xp_nil ?_ | with_reducible refine xp_cons ?_ | with_reducible refine xe_disp ?_ | with_reducible refine xe_dispM ?_ | with_reducible refine xs_cont ?_ | with_reducible refine da_nil ?_ | with_reducible refine da_cons ?_ | with_reducible refine de_int ?_ | with_reducible refine de_str ?_ | with_reducible refine de_bl ?_ | with_reducible refine de_non ?_ | with_reducible refine de_ty ?_ | ((with_reducible refine xe_var ?_); refine ⟨_, rfl, ?_⟩) | with_reducible refine de_op ?_ | with_reducible refine de_un ?_ | with_reducible refine de_call ?_ | with_reducible refine de_cb ?_ | with_reducible refine de_sl ?_ | with_reducible refine do_none ?_ | with_reducible refine do_some ?_ | with_reducible refine de_if ?_ | with_reducible refine de_andV ?_ | with_reducible refine de_orV ?_ | with_reducible refine de_notV ?_ | with_reducible refine de_chain ?_ | with_reducible refine dt_test ?_ | with_reducible refine dt_B ?_ | with_reducible refine dt_and ?_ | with_reducible refine dt_or ?_ | with_reducible refine dt_not ?_ | (with_reducible refine xe_tup ?_) | (with_reducible refine xe_lst ?_) | (with_reducible refine xe_lstM ?_) | with_reducible refine q_RESERVED (by assumption) ?_ | with_reducible refine q_WORDS (by assumption) ?_ | with_reducible refine q_SIGNS (by assumption) ?_ | (with_reducible refine de_meth ?_) | with_reducible refine xs_dput ?_ | with_reducible refine xs_daug ?_ | with_reducible refine de_dget ?_ | with_reducible refine de_dgt1 ?_ | with_reducible refine de_dgt2 ?_ | with_reducible refine de_din ?_ | with_reducible refine de_dnotin ?_ | with_reducible refine de_dnewK ?_ | with_reducible refine de_dnewT ?_ | with_reducible refine de_revL ?_ | (with_reducible refine de_bm ?_) | (with_reducible refine de_bm0 ?_) | (with_reducible refine ⟨isTy_str, ?_⟩) | (with_reducible refine ⟨xty_lst ⟨_, rfl⟩, ?_⟩) | (with_reducible refine ⟨xty_lst ⟨_, vw_loc at_0⟩, ?_⟩) | (with_reducible refine rm_append at_0 ?_ ?_) | (with_reducible refine rm_pop at_0 ?_) | (with_reducible refine rc_len (.inl (vw_loc at_0)) ?_) | (with_reducible refine ⟨xty_lst ⟨_, vw_loc at_1⟩, ?_⟩) | (with_reducible refine rm_append at_1 ?_ ?_) | (with_reducible refine rm_pop at_1 ?_) | (with_reducible refine rc_len (.inl (vw_loc at_1)) ?_) | (with_reducible refine ⟨xty_lst ⟨_, vw_loc at_2⟩, ?_⟩) | (with_reducible refine rm_append at_2 ?_ ?_) | (with_reducible refine rm_pop at_2 ?_) | (with_reducible refine rc_len (.inl (vw_loc at_2)) ?_) | with_reducible refine radd_int ?_ | with_reducible refine radd_S ?_ ?_ | with_reducible refine rsub_int ?_ | with_reducible refine req_int ?_ | with_reducible refine rne_int ?_ | with_reducible refine req_S ?_ | with_reducible refine rne_S ?_ | with_reducible refine rlt_int ?_ | with_reducible refine rle_int ?_ | with_reducible refine rgt_int ?_ | with_reducible refine rge_int ?_ | with_reducible refine rneg_int ?_ | with_reducible refine rin_sgn ?_ | with_reducible refine rni_sgn ?_ | with_reducible refine rc_len_S ?_ ?_ | with_reducible refine rc_int_bl ?_ | with_reducible refine rc_str_int ?_ ?_ | with_reducible refine rc_str_str ?_ | with_reducible refine rc_max2 ?_ | with_reducible refine rc_abs ?_ | with_reducible refine req_bl ?_ | with_reducible refine rne_bl ?_ | with_reducible refine rltg_i ?_ | with_reducible refine rleg_i ?_ | with_reducible refine rgtg_i ?_ | with_reducible refine rgeg_i ?_ | with_reducible refine rltg_b ?_ | with_reducible refine rleg_b ?_ | with_reducible refine rgtg_b ?_ | with_reducible refine rgeg_b ?_ | with_reducible refine rist ?_ | with_reducible refine rntt ?_ | with_reducible refine dt_truth ?_ | ((with_reducible refine xc_isi ?_); refine ⟨_, true, rfl, rfl, ?_⟩) | ((with_reducible refine xc_isi ?_); refine ⟨_, false, rfl, rfl, ?_⟩) | with_reducible refine di_str ?_ | with_reducible refine di_list ?_ | with_reducible refine di_tup ?_ | with_reducible refine di_rng1 ?_ | with_reducible refine di_rng2 ?_ | with_reducible refine ift ?_ | with_reducible refine iff_ ?_ | with_reducible refine ifnt ?_ | with_reducible refine ifnf ?_ | with_reducible refine rin_strs sq_c ?_ | with_reducible refine rni_strs sq_c ?_ | with_reducible refine rin_strs sq_t ?_ | with_reducible refine rni_strs sq_t ?_ | with_reducible refine rin_strs sq_l ?_ | with_reducible refine rni_strs sq_l ?_ | with_reducible refine rin_strs (sq_v rfl) ?_ | with_reducible refine rni_strs (sq_v rfl) ?_ | ((with_reducible refine rin_seq sq_c ?_ ?_ ?_); rfl; rfl) | ((with_reducible refine rin_seq sq_t ?_ ?_ ?_); rfl; rfl) | ((with_reducible refine rin_seq sq_l ?_ ?_ ?_); rfl; rfl) | ((with_reducible refine rin_seq (sq_v rfl) ?_ ?_ ?_); rfl; rfl) | ((with_reducible refine rni_seq sq_c ?_ ?_ ?_); rfl; rfl) | ((with_reducible refine rni_seq sq_t ?_ ?_ ?_); rfl; rfl) | ((with_reducible refine rni_seq sq_l ?_ ?_ ?_); rfl; rfl) | ((with_reducible refine rni_seq (sq_v rfl) ?_ ?_ ?_); rfl; rfl) | (with_reducible refine xix_tup ?_) | ((with_reducible refine xc_len ?_); refine ⟨_, sq_c, ?_⟩) | ((with_reducible refine xc_len ?_); refine ⟨_, sq_t, ?_⟩) | ((with_reducible refine xc_len ?_); refine ⟨_, sq_l, ?_⟩) | ((with_reducible refine xc_len ?_); refine ⟨_, (sq_v rfl), ?_⟩) | (with_reducible refine rm_count ?_) | (with_reducible refine ⟨_, rfl, ?_⟩) | (with_reducible refine ⟨_, .inl rfl, ?_⟩) | (with_reducible refine ⟨_, .inr rfl, ?_⟩) | (with_reducible refine ⟨_, _, rfl, ?_⟩) | ((with_reducible refine xix_lst ?_); refine ⟨_, rfl, _, rfl, ?_⟩) | ((with_reducible refine xadd_lst ?_); refine ⟨_, rfl, _, rfl, ?_, ?_⟩) | with_reducible refine rmul_int ?_ ?_ | with_reducible refine rmod_int ?_ ?_ | with_reducible refine rfdiv_int ?_ ?_ | with_reducible refine rpow_int ?_ ?_ | with_reducible refine xg_setL ?_ | refine ⟨_, _, _, _, rfl, rfl, rfl, rfl, ?_⟩ | with_reducible refine xg_name ?_ | with_reducible refine xg_tup rfl ?_ | with_reducible refine xgs_name ?_ | with_reducible refine xgs_nil ?_ | (with_reducible refine ⟨Nat.le_of_ble_eq_true rfl, ?_⟩) | fail))
theorem resv : RESERVED_L = RESV := rfl
theorem wrds : WORDS_L = WRDS := rfl
theorem sgns : SIGNS_L = SGNS := rfl
theorem dl_is_name {K : Frag} {mg : Str → Option Value} (T : Tx K mg) : DL_is_name K (sp_is_name K) := by
  rintro ds γ q e E0 lo1 lo2 ⟨l, rfl, hl, hq⟩
  refine dS_env (ρ' := [some (.str (S l)), none]) rfl ?_
  unfold t_is_name
  walk_at "GO"
  · omega
  refine ifd (fun c1 => ?_) (fun c1 => ?_)
  · walk_at "GO"
    refine ifnd (fun c2 => ?_) (fun c2 => ?_)
    · walk_at "GO"
      have : isName l = false := by simp [isName]; omega
      exact .inl (this ▸ hq)
    · walk_at "GO"
      refine ifd (fun c3 => ?_) (fun c3 => ?_)
      · walk_at "GO"
        have : isName l = false := by rw [resv] at c3; simp [isName, c3]
        exact .inl (this ▸ hq)
      · walk_at "GO"
        refine xe_lcN l (fun c => .str (S [c])) (fun c => .bl (decide (c ∈ LET))) (by simp) ?_
        walk_at "GO"
        refine ⟨chrsD_S, by omega, fun c hc => ?_, ?_⟩
        · walk_at "GO"
          exact ⟨rfl, rfl⟩
        · rw [map_bl]
          walk_at "GO"
          refine rc_all rfl ?_
          have : ((l.map fun c => decide (c ∈ LET)).all id) = isName l := by
            rw [resv] at c3
            rw [List.all_map]
            have c1' : 1 ≤ l.length := by omega
            have c2' : l.length ≤ 8 := by omega
            simp [isName, c3, c1', c2']
          rw [this]
          exact .inl hq
  · walk_at "GO"
    have : isName l = false := by simp [isName]; omega
    exact .inl (this ▸ hq)
theorem dl_is_number {K : Frag} {mg : Str → Option Value} (T : Tx K mg) : DL_is_number K (sp_is_number K) := by
  rintro ds γ q e E0 lo1 lo2 ⟨l, rfl, hl, hq⟩
  refine dS_env (ρ' := [some (.str (S l)), none]) rfl ?_
  unfold t_is_number
  walk_at "GO"
  · omega
  refine ifd (fun c1 => ?_) (fun c1 => ?_)
  · walk_at "GO"
    refine ifnd (fun c2 => ?_) (fun c2 => ?_)
    · walk_at "GO"
      have : isNum l = false := by simp [isNum]; omega
      exact .inl (this ▸ hq)
    · walk_at "GO"
      refine xe_lcN l (fun c => .str (S [c])) (fun c => .bl (decide (c ∈ FIG))) (by simp) ?_
      walk_at "GO"
      refine ⟨chrsD_S, by omega, fun c hc => ?_, ?_⟩
      · walk_at "GO"
        exact ⟨rfl, rfl⟩
      · rw [map_bl]
        walk_at "GO"
        refine rc_all rfl ?_
        walk_at "GO"
        have e0 : ((l.map fun c => decide (c ∈ FIG)).all id) = l.all fun c => decide (c ∈ FIG) := by rw [List.all_map]; rfl
        rw [e0]
        cases l with
        | nil => simp at c1
        | cons a r =>
        have c2' : r.length + 1 ≤ 30 := by simpa using Int.ofNat_le.mp c2
        have e1 : isNum (a :: r) = (((a :: r).all fun c => decide (c ∈ FIG)) && (decide (a :: r = [48]) || !decide (a = 48))) := by
          unfold isNum
          have h1 : decide (0 < (a :: r).length) = true := by simp
          have h2 : decide ((a :: r).length ≤ 30) = true := by simpa using c2'
          rw [h1, h2]
          simp
        rw [e1] at hq
        cases ea : (a :: r).all fun c => decide (c ∈ FIG) with
        | false =>
          rw [ea] at hq
          walk_at "GO"
          exact .inl hq
        | true =>
          rw [ea] at hq
          walk_at "GO"
          refine ifd (fun c3 => ?_) (fun c3 => ?_)
          · rw [show decide (a :: r = [48]) = true from decide_eq_true c3] at hq
            exact .inl hq
          · walk_at "GO"
            refine xix_str (by omega) ⟨a, at_nat (j := 0) rfl, ?_⟩
            walk_at "GO"
            rw [show decide (a :: r = [48]) = false from decide_eq_false c3] at hq
            rw [show decide ([a] = [48]) = decide (a = 48) by simp]
            exact .inl hq
  · walk_at "GO"
    have : isNum l = false := by
      have : l = [] := by cases l with | nil => rfl | cons a r => exact absurd (by simp) c1
      subst this; rfl
    exact .inl (this ▸ hq)
theorem run_step {g r : List Nat} {c : Nat} {t : List Nat} (h : r = c :: t) : (runOf g r).length = if c ∈ g then (runOf g t).length + 1 else 0 := by
  subst h
  unfold runOf
  rw [List.takeWhile_cons]
  by_cases hc : c ∈ g
  · rw [if_pos hc, if_pos (by simpa using hc)]; rfl
  · rw [if_neg hc, if_neg (by simpa using hc)]; rfl
theorem dl_end_of_run {K : Frag} {mg : Str → Option Value} (T : Tx K mg) : DL_end_of_run K (sp_end_of_run K) := by
  rintro ds γ q e E0 lo1 lo2 ⟨l, g, s, rfl, hl, hs, hq⟩
  refine dS_env (ρ' := [some (.str (S l)), some (.int s), some (.str (S g)), none]) rfl ?_
  unfold t_end_of_run
  walk_at "GO"
  refine xs_while (fun m ρ γ' => ∃ j : Nat, s + j ≤ l.length ∧ m = l.length - (s + j) ∧ γ' = γ ∧ ρ = [some (.str (S l)), some (.int s), some (.str (S g)), some (.int ((s + j : Nat) : Int))] ∧ j + (runOf g (l.drop (s + j))).length = (runOf g (l.drop s)).length) ⟨_, 0, by simpa using hs, rfl, rfl, rfl, by simp⟩ ?_
  rintro m ρ γ' ⟨j, hj, rfl, rfl, rfl, hr⟩
  walk_at "GO"
  · omega
  refine ifd (fun c1 => ?_) (fun c1 => ?_)
  · have hlt : s + j < l.length := by omega
    have hx : l[s + j]? = some l[s + j] := List.getElem?_eq_getElem hlt
    have hd : l.drop (s + j) = l[s + j] :: l.drop (s + j + 1) := List.drop_eq_getElem_cons hlt
    rw [run_step hd] at hr
    walk_at "GO"
    refine xix_str (by omega) ⟨_, at_nat hx, ?_⟩
    walk_at "GO"
    refine ifd (fun c2 => ?_) (fun c2 => ?_)
    · rw [if_pos c2] at hr
      walk_at "GO"
      exact ⟨_, by omega, j + 1, by omega, rfl, rfl, rfl, by rw [← hr]; simp only [Nat.add_assoc]; omega⟩
    · rw [if_neg c2] at hr
      walk_at "GO"
      rw [← hr] at hq
      exact .inl hq
  · walk_at "GO"
    have hz : s + j = l.length := by omega
    rw [hz, List.drop_length] at hr
    rw [← hr] at hq
    exact .inl hq
end K09

set_option Elab.async false
set_option linter.all false
set_option maxRecDepth 100000
set_option maxHeartbeats 4000000
namespace K09
open PySem PySem.Spec PyProof.Rows L2 DL
local macro_rules | `(tactic| walk_at "GO") => `(tactic| repeat' (first | with_reducible refine xs_seq ?_ | with_reducible refine xs_set ?_ | with_reducible refine xs_asg ?_ | with_reducible refine xs_if ?_ | with_reducible refine xs_ret ?_ | with_reducible refine xs_next ?_ | with_reducible refine xs_expr ?_ | with_reducible refine xs_fld ?_ | with_reducible refine xs_par ?_ | with_reducible refine xs_retN ?_ | with_reducible refine xs_brk ?_ | with_reducible refine xp_nil ?_ | with_reducible refine xp_cons ?_ | with_reducible refine xe_disp ?_ | with_reducible refine xe_dispM ?_ | with_reducible refine xs_cont ?_ | with_reducible refine da_nil ?_ | with_reducible refine da_cons ?_ | with_reducible refine de_int ?_ | with_reducible refine de_str ?_ | with_reducible refine de_bl ?_ | with_reducible refine de_non ?_ | with_reducible refine de_ty ?_ | ((with_reducible refine xe_var ?_); refine ⟨_, rfl, ?_⟩) | with_reducible refine de_op ?_ | with_reducible refine de_un ?_ | with_reducible refine de_call ?_ | with_reducible refine de_cb ?_ | with_reducible refine de_sl ?_ | with_reducible refine do_none ?_ | with_reducible refine do_some ?_ | with_reducible refine de_if ?_ | with_reducible refine de_andV ?_ | with_reducible refine de_orV ?_ | with_reducible refine de_notV ?_ | with_reducible refine de_chain ?_ | with_reducible refine dt_test ?_ | with_reducible refine dt_B ?_ | with_reducible refine dt_and ?_ | with_reducible refine dt_or ?_ | with_reducible refine dt_not ?_ | (with_reducible refine xe_tup ?_) | (with_reducible refine xe_lst ?_) | (with_reducible refine xe_lstM ?_) | with_reducible refine q_RESERVED (by assumption) ?_ | with_reducible refine q_WORDS (by assumption) ?_ | with_reducible refine q_SIGNS (by assumption) ?_ | (with_reducible refine de_meth ?_) | with_reducible refine xs_dput ?_ | with_reducible refine xs_daug ?_ | with_reducible refine de_dget ?_ | with_reducible refine de_dgt1 ?_ | with_reducible refine de_dgt2 ?_ | with_reducible refine de_din ?_ | with_reducible refine de_dnotin ?_ | with_reducible refine de_dnewK ?_ | with_reducible refine de_dnewT ?_ | with_reducible refine de_revL ?_ | (with_reducible refine de_bm ?_) | (with_reducible refine de_bm0 ?_) | (with_reducible refine ⟨isTy_str, ?_⟩) | (with_reducible refine ⟨xty_lst ⟨_, rfl⟩, ?_⟩) | (with_reducible refine ⟨xty_lst ⟨_, vw_loc at_0⟩, ?_⟩) | (with_reducible refine rm_append at_0 ?_ ?_) | (with_reducible refine rm_pop at_0 ?_) | (with_reducible refine rc_len (.inl (vw_loc at_0)) ?_) | (with_reducible refine ⟨xty_lst ⟨_, vw_loc at_1⟩, ?_⟩) | (with_reducible refine rm_append at_1 ?_ ?_) | (with_reducible refine rm_pop at_1 ?_) | (with_reducible refine rc_len (.inl (vw_loc at_1)) ?_) | (with_reducible refine ⟨xty_lst ⟨_, vw_loc at_2⟩, ?_⟩) | (with_reducible refine rm_append at_2 ?_ ?_) | (with_reducible refine rm_pop at_2 ?_) | (with_reducible refine rc_len (.inl (vw_loc at_2)) ?_) | with_reducible refine radd_int ?_ | with_reducible refine radd_S ?_ ?_ | with_reducible refine rsub_int ?_ | with_reducible refine req_int ?_ | with_reducible refine rne_int ?_ | with_reducible refine req_S ?_ | with_reducible refine rne_S ?_ | with_reducible refine rlt_int ?_ | with_reducible refine rle_int ?_ | with_reducible refine rgt_int ?_ | with_reducible refine rge_int ?_ | with_reducible refine rneg_int ?_ | with_reducible refine rin_sgn ?_ | with_reducible refine rni_sgn ?_ | with_reducible refine rc_len_S ?_ ?_ | with_reducible refine rc_int_bl ?_ | with_reducible refine rc_str_int ?_ ?_ | with_reducible refine rc_str_str ?_ | with_reducible refine rc_max2 ?_ | with_reducible refine rc_abs ?_ | with_reducible refine req_bl ?_ | with_reducible refine rne_bl ?_ | with_reducible refine rltg_i ?_ | with_reducible refine rleg_i ?_ | with_reducible refine rgtg_i ?_ | with_reducible refine rgeg_i ?_ | with_reducible refine rltg_b ?_ | with_reducible refine rleg_b ?_ | with_reducible refine rgtg_b ?_ | with_reducible refine rgeg_b ?_ | with_reducible refine rist ?_ | with_reducible refine rntt ?_ | with_reducible refine dt_truth ?_ | ((with_reducible refine xc_isi ?_); refine ⟨_, true, rfl, rfl, ?_⟩) | ((with_reducible refine xc_isi ?_); refine ⟨_, false, rfl, rfl, ?_⟩) | with_reducible refine di_str ?_ | with_reducible refine di_list ?_ | with_reducible refine di_tup ?_ | with_reducible refine di_rng1 ?_ | with_reducible refine di_rng2 ?_ | with_reducible refine ift ?_ | with_reducible refine iff_ ?_ | with_reducible refine ifnt ?_ | with_reducible refine ifnf ?_ | with_reducible refine rin_strs sq_c ?_ | with_reducible refine rni_strs sq_c ?_ | with_reducible refine rin_strs sq_t ?_ | with_reducible refine rni_strs sq_t ?_ | with_reducible refine rin_strs sq_l ?_ | with_reducible refine rni_strs sq_l ?_ | with_reducible refine rin_strs (sq_v rfl) ?_ | with_reducible refine rni_strs (sq_v rfl) ?_ | ((with_reducible refine rin_seq sq_c ?_ ?_ ?_); rfl; rfl) | ((with_reducible refine rin_seq sq_t ?_ ?_ ?_); rfl; rfl) | ((with_reducible refine rin_seq sq_l ?_ ?_ ?_); rfl; rfl) | ((with_reducible refine rin_seq (sq_v rfl) ?_ ?_ ?_); rfl; rfl) | ((with_reducible refine rni_seq sq_c ?_ ?_ ?_); rfl; rfl) | ((with_reducible refine rni_seq sq_t ?_ ?_ ?_); rfl; rfl) | ((with_reducible refine rni_seq sq_l ?_ ?_ ?_); rfl; rfl) | ((with_reducible refine rni_seq (sq_v rfl) ?_ ?_ ?_); rfl; rfl) | (with_reducible refine xix_tup ?_) | ((with_reducible refine xc_len ?_); refine ⟨_, sq_c, ?_⟩) | ((with_reducible refine xc_len ?_); refine ⟨_, sq_t, ?_⟩) | ((with_reducible refine xc_len ?_); refine ⟨_, sq_l, ?_⟩) | ((with_reducible refine xc_len ?_); refine ⟨_, (sq_v rfl), ?_⟩) | (with_reducible refine rm_count ?_) | (with_reducible refine ⟨_, rfl, ?_⟩) | (with_reducible refine ⟨_, .inl rfl, ?_⟩) | (with_reducible refine ⟨_, .inr rfl, ?_⟩) | (with_reducible refine ⟨_, _, rfl, ?_⟩) | ((with_reducible refine xix_lst ?_); refine ⟨_, rfl, _, rfl, ?_⟩) | ((with_reducible refine xadd_lst ?_); refine ⟨_, rfl, _, rfl, ?_, ?_⟩) | with_reducible refine rmul_int ?_ ?_ | with_reducible refine rmod_int ?_ ?_ | with_reducible refine rfdiv_int ?_ ?_ | with_reducible refine rpow_int ?_ ?_ | with_reducible refine xg_setL ?_ | refine ⟨_, _, _, _, rfl, rfl, rfl, rfl, ?_⟩ | with_reducible refine xg_name ?_ | with_reducible refine xg_tup rfl ?_ | with_reducible refine xgs_name ?_ | with_reducible refine xgs_nil ?_ | (with_reducible refine ⟨Nat.le_of_ble_eq_true rfl, ?_⟩) | fail))
theorem cutD_nat {A : Type} {l : List A} {s e : Nat} (hs : s ≤ l.length) : DL.cutD l (some (s : Int)) (some (e : Int)) = (l.drop s).take (e - s) := by
  unfold DL.cutD
  rw [HT.sIx_nat, HT.sIx_nat, Nat.min_eq_left hs]
  by_cases h : e ≤ l.length
  · rw [Nat.min_eq_left h]
  · rw [Nat.min_eq_right (by omega), List.take_of_length_le (by simp), List.take_of_length_le (by simp; omega)]
theorem take_run {g r : List Nat} : r.take (runOf g r).length = runOf g r := (List.prefix_iff_eq_take.mp (List.takeWhile_prefix _)).symm
theorem run_le {g r : List Nat} : (runOf g r).length ≤ r.length := (List.takeWhile_prefix _).length_le
theorem find_at {A : Type} {p : A → Bool} : ∀ {xs : List A} {i : Nat} {g : A}, (∀ j x, j < i → xs[j]? = some x → p x = false) → xs[i]? = some g → p g = true → xs.find? p = some g
  | [], i, g, _, h, _ => by simp at h
  | x :: xs, 0, g, _, h, hp => by
    simp at h; subst h
    rw [List.find?_cons, hp]
  | x :: xs, i + 1, g, hn, h, hp => by
    have h0 := hn 0 x (by omega) rfl
    rw [List.find?_cons, h0]
    exact find_at (i := i) (fun j y hj hy => hn (j + 1) y (by omega) (by simpa using hy)) (by simpa using h) hp
theorem tokA_let {r : List Nat} {c : Nat} {t : List Nat} {s : Nat} (h : r = c :: t) (hc : c ∈ LET) : tokA r s = (⟨if runOf LET r ∈ WRDS then .sign else if isName (runOf LET r) then .name else .odd, runOf LET r, s⟩, (runOf LET r).length) := by
  subst h
  unfold tokA
  simp only [if_pos hc]
theorem tokA_fig {r : List Nat} {c : Nat} {t : List Nat} {s : Nat} (h : r = c :: t) (hc : c ∉ LET) (hf : c ∈ FIG) : tokA r s = (⟨if isNum (runOf FIG r) then .integer else .odd, runOf FIG r, s⟩, (runOf FIG r).length) := by
  subst h
  unfold tokA
  simp only [if_neg hc, if_pos hf]
theorem tokA_sgn {r : List Nat} {c : Nat} {t : List Nat} {s : Nat} (h : r = c :: t) (hc : c ∉ LET) (hf : c ∉ FIG) : tokA r s = match SGNS.find? fun g => decide (r.take g.length = g) with
      | some g => (⟨.sign, g, s⟩, g.length)
      | none => (⟨.odd, [c], s⟩, 1) := by
  subst h
  unfold tokA
  simp only [if_neg hc, if_neg hf] <;> rfl
theorem dl_token_at {K : Frag} {mg : Str → Option Value} (T : Tx K mg) : DL_token_at K (sp_token_at K) := by
  rintro ds γ q e E0 lo1 lo2 ⟨l, s, rfl, hl, hs, hq⟩
  refine dS_env (ρ' := [some (.str (S l)), some (.int s), none, none, none, none]) rfl ?_
  unfold t_token_at
  have hx : l[s]? = some l[s] := List.getElem?_eq_getElem hs
  have hd : l.drop s = l[s] :: l.drop (s + 1) := List.drop_eq_getElem_cons hs
  have hrl : (l.drop s).length = l.length - s := List.length_drop
  walk_at "GO"
  refine xix_str (by omega) ⟨_, at_nat hx, ?_⟩
  walk_at "GO"
  refine ifd (fun c1 => ?_) (fun c1 => ?_)
  · have htk := tokA_let (s := s) hd c1
    have hrle := @run_le LET (l.drop s)
    have htr := @take_run LET (l.drop s)
    rw [htk] at hq
    generalize hw : runOf LET (l.drop s) = w at *
    walk_at "GO"
    refine ⟨l, LET, s, rfl, hl, by omega, ?_⟩
    rw [hw]
    walk_at "GO"
    refine rsl_str (by omega) ?_
    rw [cutD_nat (by omega), Nat.add_sub_cancel_left, htr]
    walk_at "GO"
    refine ifd (fun c2 => ?_) (fun c2 => ?_)
    · rw [wrds] at c2
      rw [if_pos c2] at hq
      walk_at "GO"
      exact .inl hq
    · rw [wrds] at c2
      rw [if_neg c2] at hq
      walk_at "GO"
      refine ⟨_, rfl, by omega, ?_⟩
      walk_at "GO"
      cases hn : isName w with
      | true =>
        rw [hn] at hq
        walk_at "GO"
        exact .inl hq
      | false =>
        rw [hn] at hq
        walk_at "GO"
        exact .inl hq
  · walk_at "GO"
    refine xix_str (by omega) ⟨_, at_nat hx, ?_⟩
    walk_at "GO"
    refine ifd (fun c2 => ?_) (fun c2 => ?_)
    · have htk := tokA_fig (s := s) hd c1 c2
      have hrle := @run_le FIG (l.drop s)
      have htr := @take_run FIG (l.drop s)
      rw [htk] at hq
      generalize hw : runOf FIG (l.drop s) = w at *
      walk_at "GO"
      refine ⟨l, FIG, s, rfl, hl, by omega, ?_⟩
      rw [hw]
      walk_at "GO"
      refine rsl_str (by omega) ?_
      rw [cutD_nat (by omega), Nat.add_sub_cancel_left, htr]
      walk_at "GO"
      refine ⟨_, rfl, by omega, ?_⟩
      walk_at "GO"
      cases hn : isNum w with
      | true =>
        rw [hn] at hq
        walk_at "GO"
        refine rsl_str (by omega) ?_
        rw [cutD_nat (by omega), Nat.add_sub_cancel_left, htr]
        walk_at "GO"
        exact .inl hq
      | false =>
        rw [hn] at hq
        walk_at "GO"
        refine rsl_str (by omega) ?_
        rw [cutD_nat (by omega), Nat.add_sub_cancel_left, htr]
        walk_at "GO"
        exact .inl hq
    · have htk := tokA_sgn (s := s) hd c1 c2
      rw [htk] at hq
      walk_at "GO"
      refine xs_for [5] ?_
      walk_at "GO"
      rw [sgns]
      refine ⟨fun i ρ γ' => γ' = γ ∧ (∃ o, ρ = [some (.str (S l)), some (.int s), none, none, none, o]) ∧ ∀ j x, j < i → SGNS[j]? = some x → decide ((l.drop s).take x.length = x) = false, ⟨rfl, ⟨_, rfl⟩, fun j x hj => absurd hj (by omega)⟩, ?_, ?_⟩
      · rintro i x ρ γ' hi ⟨rfl, ⟨o, rfl⟩, hn⟩
        unfold strsD at hi
        rw [List.getElem?_map] at hi
        cases hg : SGNS[i]? with
        | none => rw [hg] at hi; cases hi
        | some g =>
        rw [hg] at hi
        cases hi
        have hgl : g.length ≤ 2 := by
          have h1 : g ∈ SGNS := List.mem_of_getElem? hg
          have h2 : ∀ x ∈ SGNS, x.length ≤ 2 := by decide
          exact h2 g h1
        refine dg_name ?_
        walk_at "GO"
        · omega
        refine rsl_str (by omega) ?_
        rw [show ((s : Int) + (g.length : Int)) = ((s + g.length : Nat) : Int) by simp, cutD_nat (by omega), Nat.add_sub_cancel_left]
        walk_at "GO"
        refine ifd (fun c3 => ?_) (fun c3 => ?_)
        · rw [find_at hn hg (by simpa using c3)] at hq
          walk_at "GO"
          · omega
          exact .inl hq
        · walk_at "GO"
          refine ⟨rfl, ⟨_, rfl⟩, fun j x hj hx => ?_⟩
          by_cases hji : j = i
          · subst hji
            rw [hg] at hx
            cases hx
            simpa using c3
          · exact hn j x (by omega) hx
      · rintro ρ γ' ⟨rfl, ⟨o, rfl⟩, hn⟩
        have hf : SGNS.find? (fun g => decide ((l.drop s).take g.length = g)) = none := by
          rw [List.find?_eq_none]
          intro x hx
          obtain ⟨j, hj⟩ := List.getElem?_of_mem hx
          have hjl : j < SGNS.length := (List.getElem?_eq_some_iff.mp hj).1
          have := hn j x (by simpa [strsD] using hjl) hj
          simpa using this
        rw [hf] at hq
        walk_at "GO"
        refine xix_str (by omega) ⟨_, at_nat hx, ?_⟩
        walk_at "GO"
        exact .inl hq
end K09

set_option Elab.async false
set_option linter.all false
set_option maxRecDepth 100000
set_option maxHeartbeats 4000000
namespace K09
open PySem PySem.Spec PyProof.Rows L2 DL
local macro_rules | `(tactic| walk_at "GO") => `(tactic| repeat' (first | with_reducible refine xs_seq ?_ | with_reducible refine xs_set ?_ | with_reducible refine xs_asg ?_ | with_reducible refine xs_if ?_ | with_reducible refine xs_ret ?_ | with_reducible refine xs_next ?_ | with_reducible refine xs_expr ?_ | with_reducible refine xs_fld ?_ | with_reducible refine xs_par ?_ | with_reducible refine xs_retN ?_ | with_reducible refine xs_brk ?_ | with_reducible refine xp_nil ?_ | with_reducible refine xp_cons ?_ | with_reducible refine xe_disp ?_ | with_reducible refine xe_dispM ?_ | with_reducible refine xs_cont ?_ | with_reducible refine da_nil ?_ | with_reducible refine da_cons ?_ | with_reducible refine de_int ?_ | with_reducible refine de_str ?_ | with_reducible refine de_bl ?_ | with_reducible refine de_non ?_ | with_reducible refine de_ty ?_ | ((with_reducible refine xe_var ?_); refine ⟨_, rfl, ?_⟩) | with_reducible refine de_op ?_ | with_reducible refine de_un ?_ | with_reducible refine de_call ?_ | with_reducible refine de_cb ?_ | with_reducible refine de_sl ?_ | with_reducible refine do_none ?_ | with_reducible refine do_some ?_ | with_reducible refine de_if ?_ | with_reducible refine de_andV ?_ | with_reducible refine de_orV ?_ | with_reducible refine de_notV ?_ | with_reducible refine de_chain ?_ | with_reducible refine dt_test ?_ | with_reducible refine dt_B ?_ | with_reducible refine dt_and ?_ | with_reducible refine dt_or ?_ | with_reducible refine dt_not ?_ | (with_reducible refine xe_tup ?_) | (with_reducible refine xe_lst ?_) | (with_reducible refine xe_lstM ?_) | with_reducible refine q_RESERVED (by assumption) ?_ | with_reducible refine q_WORDS (by assumption) ?_ | with_reducible refine q_SIGNS (by assumption) ?_ | (with_reducible refine de_meth ?_) | with_reducible refine xs_dput ?_ | with_reducible refine xs_daug ?_ | with_reducible refine de_dget ?_ | with_reducible refine de_dgt1 ?_ | with_reducible refine de_dgt2 ?_ | with_reducible refine de_din ?_ | with_reducible refine de_dnotin ?_ | with_reducible refine de_dnewK ?_ | with_reducible refine de_dnewT ?_ | with_reducible refine de_revL ?_ | with_reducible refine de_fld (f := "rest") (Tx.cl_Parser (by assumption)) (Tx.na_Parser_rest (by assumption)) ?_ | with_reducible refine de_fld (f := "place") (Tx.cl_Parser (by assumption)) (Tx.na_Parser_place (by assumption)) ?_ | (with_reducible refine de_bm ?_) | (with_reducible refine de_bm0 ?_) | (with_reducible refine ⟨isTy_str, ?_⟩) | (with_reducible refine ⟨xty_lst ⟨_, rfl⟩, ?_⟩) | with_reducible refine radd_int ?_ | with_reducible refine radd_S ?_ ?_ | with_reducible refine rsub_int ?_ | with_reducible refine req_int ?_ | with_reducible refine rne_int ?_ | with_reducible refine req_S ?_ | with_reducible refine rne_S ?_ | with_reducible refine rlt_int ?_ | with_reducible refine rle_int ?_ | with_reducible refine rgt_int ?_ | with_reducible refine rge_int ?_ | with_reducible refine rneg_int ?_ | with_reducible refine rin_sgn ?_ | with_reducible refine rni_sgn ?_ | with_reducible refine rc_len_S ?_ ?_ | with_reducible refine rc_int_bl ?_ | with_reducible refine rc_str_int ?_ ?_ | with_reducible refine rc_str_str ?_ | with_reducible refine rc_max2 ?_ | with_reducible refine rc_abs ?_ | with_reducible refine req_bl ?_ | with_reducible refine rne_bl ?_ | with_reducible refine rltg_i ?_ | with_reducible refine rleg_i ?_ | with_reducible refine rgtg_i ?_ | with_reducible refine rgeg_i ?_ | with_reducible refine rltg_b ?_ | with_reducible refine rleg_b ?_ | with_reducible refine rgtg_b ?_ | with_reducible refine rgeg_b ?_ | with_reducible refine rist ?_ | with_reducible refine rntt ?_ | with_reducible refine dt_truth ?_ | ((with_reducible refine xc_isi ?_); refine ⟨_, true, rfl, rfl, ?_⟩) | ((with_reducible refine xc_isi ?_); refine ⟨_, false, rfl, rfl, ?_⟩) | with_reducible refine di_str ?_ | with_reducible refine di_list ?_ | with_reducible refine di_tup ?_ | with_reducible refine di_rng1 ?_ | with_reducible refine di_rng2 ?_ | with_reducible refine ift ?_ | with_reducible refine iff_ ?_ | with_reducible refine ifnt ?_ | with_reducible refine ifnf ?_ | with_reducible refine rin_strs sq_c ?_ | with_reducible refine rni_strs sq_c ?_ | with_reducible refine rin_strs sq_t ?_ | with_reducible refine rni_strs sq_t ?_ | with_reducible refine rin_strs sq_l ?_ | with_reducible refine rni_strs sq_l ?_ | with_reducible refine rin_strs (sq_v rfl) ?_ | with_reducible refine rni_strs (sq_v rfl) ?_ | ((with_reducible refine rin_seq sq_c ?_ ?_ ?_); rfl; rfl) | ((with_reducible refine rin_seq sq_t ?_ ?_ ?_); rfl; rfl) | ((with_reducible refine rin_seq sq_l ?_ ?_ ?_); rfl; rfl) | ((with_reducible refine rin_seq (sq_v rfl) ?_ ?_ ?_); rfl; rfl) | ((with_reducible refine rni_seq sq_c ?_ ?_ ?_); rfl; rfl) | ((with_reducible refine rni_seq sq_t ?_ ?_ ?_); rfl; rfl) | ((with_reducible refine rni_seq sq_l ?_ ?_ ?_); rfl; rfl) | ((with_reducible refine rni_seq (sq_v rfl) ?_ ?_ ?_); rfl; rfl) | (with_reducible refine xix_tup ?_) | ((with_reducible refine xc_len ?_); refine ⟨_, sq_c, ?_⟩) | ((with_reducible refine xc_len ?_); refine ⟨_, sq_t, ?_⟩) | ((with_reducible refine xc_len ?_); refine ⟨_, sq_l, ?_⟩) | ((with_reducible refine xc_len ?_); refine ⟨_, (sq_v rfl), ?_⟩) | (with_reducible refine rm_count ?_) | (with_reducible refine ⟨_, rfl, ?_⟩) | (with_reducible refine ⟨_, .inl rfl, ?_⟩) | (with_reducible refine ⟨_, .inr rfl, ?_⟩) | (with_reducible refine ⟨_, _, rfl, ?_⟩) | ((with_reducible refine xix_lst ?_); refine ⟨_, rfl, _, rfl, ?_⟩) | ((with_reducible refine xadd_lst ?_); refine ⟨_, rfl, _, rfl, ?_, ?_⟩) | with_reducible refine rmul_int ?_ ?_ | with_reducible refine rmod_int ?_ ?_ | with_reducible refine rfdiv_int ?_ ?_ | with_reducible refine rpow_int ?_ ?_ | with_reducible refine xg_setL ?_ | refine ⟨_, _, _, _, rfl, rfl, rfl, rfl, ?_⟩ | with_reducible refine xg_name ?_ | with_reducible refine xg_tup rfl ?_ | with_reducible refine xgs_name ?_ | with_reducible refine xgs_nil ?_ | (with_reducible refine ⟨Nat.le_of_ble_eq_true rfl, ?_⟩) | fail))
theorem get_app {γ : Ga} {a : MO} {r : Ga} : (γ ++ a :: r)[γ.length]? = some a := by simp
theorem set_app {γ : Ga} {a b : MO} {r : Ga} : (γ ++ a :: r).set γ.length b = γ ++ b :: r := by simp
theorem vw_app {γ : Ga} {xs : List D} {r : Ga} : vw (γ ++ .lst xs :: r) (.loc γ.length) = .lst xs := vw_loc get_app
theorem dr_keep {γ rest : Ga} {q : QD} {d : D} (lo1 : loG γ.length γ = true) (h : d.lo γ.length = true) (hq : q d γ) : Dr γ.length q d (γ ++ rest) := .inr ⟨d, γ, rest, rfl, Nat.le_refl _, lo1, .keep h, hq⟩
theorem dr_lst {γ rest : Ga} {q : QD} {xs : List D} (lo1 : loG γ.length γ = true) (h : loL γ.length xs = true) (hq : q (.lst xs) γ) : Dr γ.length q (.loc γ.length) (γ ++ .lst xs :: rest) :=
  .inr ⟨.lst xs, γ, .lst xs :: rest, rfl, Nat.le_refl _, lo1, .lst (Nat.le_refl _) get_app (FzL.keep h), hq⟩
theorem loL_map {A : Type} {m : Nat} {f : A → D} (h : ∀ x, (f x).lo m = true) : ∀ xs : List A, loL m (xs.map f) = true
  | [] => rfl
  | x :: xs => by
    show ((f x).lo m && loL m (xs.map f)) = true
    rw [h x, loL_map h xs]; rfl
theorem tkn_lo {m : Nat} (t : Tkn) : t.d.lo m = true := rfl
theorem tokL_nil {n s k : Nat} {r : List Nat} (hk : (runOf [32] r).length = k) (h : r.drop k = []) : tokL (n + 1) r s = [⟨.fin, [], s + k⟩] := by
  subst hk
  unfold tokL
  rw [h]
theorem tokL_cons {n s c k : Nat} {r t : List Nat} (hk : (runOf [32] r).length = k) (h : r.drop k = c :: t) : tokL (n + 1) r s = if (tokA (c :: t) (s + k)).1.k = .odd then [(tokA (c :: t) (s + k)).1]
      else (tokA (c :: t) (s + k)).1 :: tokL n ((c :: t).drop (tokA (c :: t) (s + k)).2) (s + k + (tokA (c :: t) (s + k)).2) := by
  subst hk
  conv => lhs; unfold tokL
  rw [h]
theorem tokA_len {c : Nat} {t : List Nat} {s : Nat} : 1 ≤ (tokA (c :: t) s).2 ∧ (tokA (c :: t) s).2 ≤ (c :: t).length := by
  by_cases h1 : c ∈ LET
  · rw [tokA_let rfl h1]
    refine ⟨?_, run_le⟩
    rw [run_step rfl, if_pos h1]; omega
  · by_cases h2 : c ∈ FIG
    · rw [tokA_fig rfl h1 h2]
      refine ⟨?_, run_le⟩
      rw [run_step rfl, if_pos h2]; omega
    · rw [tokA_sgn rfl h1 h2]
      cases hf : SGNS.find? fun g => decide ((c :: t).take g.length = g) with
      | none => exact ⟨Nat.le_refl _, by simp⟩
      | some g =>
        have h3 : g ∈ SGNS := List.mem_of_find?_eq_some hf
        have h4 : ∀ x ∈ SGNS, 1 ≤ x.length := by decide
        have h5 := List.find?_some hf
        have h6 : (c :: t).take g.length = g := by simpa using h5
        refine ⟨h4 g h3, ?_⟩
        have h7 := congrArg List.length h6
        rw [List.length_take] at h7
        show g.length ≤ _
        omega
theorem dl_tokens {K : Frag} {mg : Str → Option Value} (T : Tx K mg) : DL_tokens K (sp_tokens K) := by
  rintro ds γ q e E0 lo1 lo2 ⟨l, rfl, hl, hq⟩
  refine dS_env (ρ' := [some (.str (S l)), none, none, none, none]) rfl ?_
  unfold t_tokens
  walk_at "GO"
  refine ⟨l, [32], 0, rfl, hl, by omega, ?_⟩
  walk_at "GO"
  refine xs_while (fun m ρ γ' => ∃ s n acc x3 x4, s ≤ l.length ∧ l.length - s < n ∧ m = l.length - (s + (runOf [32] (l.drop s)).length) ∧ γ' = γ ++ [.lst (acc.map Tkn.d)] ∧
    ρ = [some (.str (S l)), some (.loc γ.length), some (.int ((s + (runOf [32] (l.drop s)).length : Nat) : Int)), x3, x4] ∧ acc ++ tokL n (l.drop s) s = toks l ∧ acc.length ≤ s)
    ⟨_, 0, l.length + 1, [], none, none, by omega, by omega, rfl, rfl, rfl, rfl, by simp⟩ ?_
  rintro m ρ γ' ⟨s, n, acc, x3, x4, hs, hn, rfl, rfl, rfl, ht, hac⟩
  obtain ⟨n, rfl⟩ : ∃ k, n = k + 1 := ⟨n - 1, by omega⟩
  have hrl : (runOf [32] (l.drop s)).length ≤ l.length - s := by have := @run_le [32] (l.drop s); simpa using this
  have hdd : (l.drop s).drop (runOf [32] (l.drop s)).length = l.drop (s + (runOf [32] (l.drop s)).length) := List.drop_drop
  generalize hk : (runOf [32] (l.drop s)).length = k at *
  walk_at "GO"
  · omega
  refine ifd (fun c1 => ?_) (fun c1 => ?_)
  · have hlt : s + k < l.length := by omega
    have hc : l.drop (s + k) = l[s + k] :: l.drop (s + k + 1) := List.drop_eq_getElem_cons hlt
    have hst := tokL_cons (n := n) (s := s) hk (hdd.trans hc)
    have hlen := @tokA_len (l[s + k]) (l.drop (s + k + 1)) (s + k)
    rw [← hc] at hst hlen
    rw [List.length_drop] at hlen
    rw [hst] at ht
    walk_at "GO"
    refine ⟨l, s + k, rfl, hl, hlt, ?_⟩
    walk_at "GO"
    refine ⟨xty_lst ⟨_, vw_app⟩, ?_⟩
    walk_at "GO"
    refine xm_append ⟨_, _, rfl, get_app, by rw [List.length_map]; omega, ?_⟩
    rw [set_app]
    have hmap : acc.map Tkn.d ++ [(tokA (l.drop (s + k)) (s + k)).1.d] = (acc ++ [(tokA (l.drop (s + k)) (s + k)).1]).map Tkn.d := by simp
    rw [hmap]
    generalize hta : tokA (l.drop (s + k)) (s + k) = ta at *
    obtain ⟨t, w⟩ := ta
    have ek : decide (t.k.c = [111, 100, 100]) = decide (t.k = .odd) := by cases t.k <;> decide
    walk_at "GO"
    refine xix_tup (xs := [.str (S t.k.c), .str (S t.v), .int t.p]) ⟨_, rfl, ?_⟩
    walk_at "GO"
    rw [ek]
    refine ifd (fun c2 => ?_) (fun c2 => ?_)
    · rw [if_pos c2] at ht
      walk_at "GO"
      rw [← ht] at hq
      exact dr_lst lo1 (loL_map tkn_lo _) hq
    · rw [if_neg c2] at ht
      walk_at "GO"
      refine ⟨l, [32], s + k + w, rfl, hl, by omega, ?_⟩
      refine ⟨_, ?_, s + k + w, n, acc ++ [t], _, _, by omega, by omega, rfl, rfl, rfl, ?_, by simp; omega⟩
      · omega
      · rw [← ht, List.append_assoc, List.drop_drop]
        rfl
  · have hz : s + k = l.length := by omega
    have hst := tokL_nil (n := n) (s := s) hk (hdd.trans (by rw [hz, List.drop_length]))
    rw [hst] at ht
    walk_at "GO"
    · omega
    refine radd_lst vw_app rfl (by rw [List.length_map]; simp; omega) ?_
    have hfin : acc.map Tkn.d ++ [D.tup [.str (S [101, 110, 100]), .str (S []), .int l.length]] = (toks l).map Tkn.d := by
      rw [← ht, List.map_append, hz]; rfl
    rw [hfin]
    exact dr_keep lo1 (loL_map tkn_lo _) hq
end K09

set_option Elab.async false
set_option linter.all false
set_option maxRecDepth 100000
set_option maxHeartbeats 4000000
namespace K09
open PySem PySem.Spec PyProof.Rows L2 DL
local macro_rules | `(tactic| walk_at "GO") => `(tactic| repeat' (first | with_reducible refine xs_seq ?_ | with_reducible refine xs_set ?_ | with_reducible refine xs_asg ?_ | with_reducible refine xs_if ?_ | with_reducible refine xs_ret ?_ | with_reducible refine xs_next ?_ | with_reducible refine xs_expr ?_ | with_reducible refine xs_fld ?_ | with_reducible refine xs_par ?_ | with_reducible refine xs_retN ?_ | with_reducible refine xs_brk ?_ | with_reducible refine xp_nil ?_ | with_reducible refine xp_cons ?_ | with_reducible refine xe_disp ?_ | with_reducible refine xe_dispM ?_ | with_reducible refine xs_cont ?_ | with_reducible refine da_nil ?_ | with_reducible refine da_cons ?_ | with_reducible refine de_int ?_ | with_reducible refine de_str ?_ | with_reducible refine de_bl ?_ | with_reducible refine de_non ?_ | with_reducible refine de_ty ?_ | ((with_reducible refine xe_var ?_); refine ⟨_, rfl, ?_⟩) | with_reducible refine de_op ?_ | with_reducible refine de_un ?_ | with_reducible refine de_call ?_ | with_reducible refine de_cb ?_ | with_reducible refine de_sl ?_ | with_reducible refine do_none ?_ | with_reducible refine do_some ?_ | with_reducible refine de_if ?_ | with_reducible refine de_andV ?_ | with_reducible refine de_orV ?_ | with_reducible refine de_notV ?_ | with_reducible refine de_chain ?_ | with_reducible refine dt_test ?_ | with_reducible refine dt_B ?_ | with_reducible refine dt_and ?_ | with_reducible refine dt_or ?_ | with_reducible refine dt_not ?_ | (with_reducible refine xe_tup ?_) | (with_reducible refine xe_lst ?_) | (with_reducible refine xe_lstM ?_) | (with_reducible refine de_meth ?_) | with_reducible refine xs_dput ?_ | with_reducible refine xs_daug ?_ | with_reducible refine de_dget ?_ | with_reducible refine de_dgt1 ?_ | with_reducible refine de_dgt2 ?_ | with_reducible refine de_din ?_ | with_reducible refine de_dnotin ?_ | with_reducible refine de_dnewK ?_ | with_reducible refine de_dnewT ?_ | with_reducible refine de_revL ?_ | (with_reducible refine de_bm ?_) | (with_reducible refine de_bm0 ?_) | (with_reducible refine ⟨isTy_str, ?_⟩) | (with_reducible refine ⟨xty_lst ⟨_, rfl⟩, ?_⟩) | with_reducible refine radd_int ?_ | with_reducible refine radd_S ?_ ?_ | with_reducible refine rsub_int ?_ | with_reducible refine req_int ?_ | with_reducible refine rne_int ?_ | with_reducible refine req_S ?_ | with_reducible refine rne_S ?_ | with_reducible refine rlt_int ?_ | with_reducible refine rle_int ?_ | with_reducible refine rgt_int ?_ | with_reducible refine rge_int ?_ | with_reducible refine rneg_int ?_ | with_reducible refine rin_sgn ?_ | with_reducible refine rni_sgn ?_ | with_reducible refine rc_len_S ?_ ?_ | with_reducible refine rc_int_bl ?_ | with_reducible refine rc_str_int ?_ ?_ | with_reducible refine rc_str_str ?_ | with_reducible refine rc_max2 ?_ | with_reducible refine rc_abs ?_ | with_reducible refine req_bl ?_ | with_reducible refine rne_bl ?_ | with_reducible refine rltg_i ?_ | with_reducible refine rleg_i ?_ | with_reducible refine rgtg_i ?_ | with_reducible refine rgeg_i ?_ | with_reducible refine rltg_b ?_ | with_reducible refine rleg_b ?_ | with_reducible refine rgtg_b ?_ | with_reducible refine rgeg_b ?_ | with_reducible refine rist ?_ | with_reducible refine rntt ?_ | with_reducible refine dt_truth ?_ | ((with_reducible refine xc_isi ?_); refine ⟨_, true, rfl, rfl, ?_⟩) | ((with_reducible refine xc_isi ?_); refine ⟨_, false, rfl, rfl, ?_⟩) | with_reducible refine di_str ?_ | with_reducible refine di_list ?_ | with_reducible refine di_tup ?_ | with_reducible refine di_rng1 ?_ | with_reducible refine di_rng2 ?_ | with_reducible refine ift ?_ | with_reducible refine iff_ ?_ | with_reducible refine ifnt ?_ | with_reducible refine ifnf ?_ | with_reducible refine rin_strs sq_c ?_ | with_reducible refine rni_strs sq_c ?_ | with_reducible refine rin_strs sq_t ?_ | with_reducible refine rni_strs sq_t ?_ | with_reducible refine rin_strs sq_l ?_ | with_reducible refine rni_strs sq_l ?_ | with_reducible refine rin_strs (sq_v rfl) ?_ | with_reducible refine rni_strs (sq_v rfl) ?_ | ((with_reducible refine rin_seq sq_c ?_ ?_ ?_); rfl; rfl) | ((with_reducible refine rin_seq sq_t ?_ ?_ ?_); rfl; rfl) | ((with_reducible refine rin_seq sq_l ?_ ?_ ?_); rfl; rfl) | ((with_reducible refine rin_seq (sq_v rfl) ?_ ?_ ?_); rfl; rfl) | ((with_reducible refine rni_seq sq_c ?_ ?_ ?_); rfl; rfl) | ((with_reducible refine rni_seq sq_t ?_ ?_ ?_); rfl; rfl) | ((with_reducible refine rni_seq sq_l ?_ ?_ ?_); rfl; rfl) | ((with_reducible refine rni_seq (sq_v rfl) ?_ ?_ ?_); rfl; rfl) | (with_reducible refine xix_tup ?_) | ((with_reducible refine xc_len ?_); refine ⟨_, sq_c, ?_⟩) | ((with_reducible refine xc_len ?_); refine ⟨_, sq_t, ?_⟩) | ((with_reducible refine xc_len ?_); refine ⟨_, sq_l, ?_⟩) | ((with_reducible refine xc_len ?_); refine ⟨_, (sq_v rfl), ?_⟩) | (with_reducible refine rm_count ?_) | (with_reducible refine ⟨_, rfl, ?_⟩) | (with_reducible refine ⟨_, .inl rfl, ?_⟩) | (with_reducible refine ⟨_, .inr rfl, ?_⟩) | (with_reducible refine ⟨_, _, rfl, ?_⟩) | ((with_reducible refine xix_lst ?_); refine ⟨_, rfl, _, rfl, ?_⟩) | ((with_reducible refine xadd_lst ?_); refine ⟨_, rfl, _, rfl, ?_, ?_⟩) | with_reducible refine rmul_int ?_ ?_ | with_reducible refine rmod_int ?_ ?_ | with_reducible refine rfdiv_int ?_ ?_ | with_reducible refine rpow_int ?_ ?_ | with_reducible refine xg_setL ?_ | refine ⟨_, _, _, _, rfl, rfl, rfl, rfl, ?_⟩ | with_reducible refine xg_name ?_ | with_reducible refine xg_tup rfl ?_ | with_reducible refine xgs_name ?_ | with_reducible refine xgs_nil ?_ | (with_reducible refine ⟨Nat.le_of_ble_eq_true rfl, ?_⟩) | fail))
section
variable {K : KX} {P : Program} {mg : Str → Option Value} {ρ : DL.Env} {γ : Ga} {Q : QD}
theorem po_rest (T : Tx K.f mg) {ta : TE} (h : dE K ta ρ γ fun r γ1 => ∃ k Ts ts, r = .loc k ∧ γ1[k]? = some (PO K.f Ts ts) ∧ Q (.lst (Ts.map Tkn.d)) γ1) : dE K (tFld K.f ta "rest") ρ γ Q := by
  refine de_fld T.cl_Parser T.na_Parser_rest (de_mono h ?_)
  rintro d γ1 ⟨k, Ts, ts, rfl, hk, hq⟩
  exact ⟨_, _, _, _, .inl ⟨_, rfl, hk⟩, rfl, rfl, hq⟩
theorem po_place (T : Tx K.f mg) {ta : TE} (h : dE K ta ρ γ fun r γ1 => ∃ k Ts ts, r = .loc k ∧ γ1[k]? = some (PO K.f Ts ts) ∧ Q (.int ((Ts.length - ts.length : Nat) : Int)) γ1) : dE K (tFld K.f ta "place") ρ γ Q := by
  refine de_fld T.cl_Parser T.na_Parser_place (de_mono h ?_)
  rintro d γ1 ⟨k, Ts, ts, rfl, hk, hq⟩
  exact ⟨_, _, _, _, .inl ⟨_, rfl, hk⟩, rfl, rfl, hq⟩
theorem po_set (T : Tx K.f mg) {ta tv : TE} {n : Nat} {nx bk ct : DL.Env → Ga → Prop} {rt : QD} (h : dE K tv ρ γ fun d γ1 => dE K ta ρ γ1 fun r γ2 => ∃ k Ts ts ts', r = .loc k ∧ γ2[k]? = some (PO K.f Ts ts) ∧ d = .int ((Ts.length - ts'.length : Nat) : Int) ∧ nx ρ (γ2.set k (PO K.f Ts ts'))) :
    dS K n (sFld K.f ta tv "place") ρ γ ⟨nx, rt, bk, ct⟩ := by
  refine xs_fld (de_mono h fun d γ1 h1 => de_mono h1 ?_)
  rintro r γ2 ⟨k, Ts, ts, ts', rfl, hk, rfl, hq⟩
  exact ⟨k, _, _, _, rfl, hk, T.cl_Parser, T.na_Parser_place, by show 2 < 1000; decide, hq⟩
theorem po_meth {K : Frag} {C : Addr} {m : Str} {k : Nat} {Ts ts : List Tkn} (hk : γ[k]? = some (PO K Ts ts)) (hm : (["rest", "place"] : List Str).contains m = false) : ∃ ns vs, InsAt (.loc k) γ (He.ga K "Parser") ns vs ∧ ns.contains m = false := ⟨_, _, .inl ⟨_, rfl, hk⟩, hm⟩
theorem suf_get {t : Tkn} {ts Ts : List Tkn} (h : (t :: ts) <:+ Ts) : Ts[Ts.length - (t :: ts).length]? = some t := by
  obtain ⟨p, rfl⟩ := h
  simp
theorem suf_len {t : Tkn} {ts Ts : List Tkn} (h : (t :: ts) <:+ Ts) : ts.length + 1 ≤ Ts.length := by simpa using h.length_le
theorem kd_sign {k : Kd} : decide (k.c = [115, 105, 103, 110]) = decide (k = .sign) := by cases k <;> decide
theorem dl_init {K : Frag} (T : Tx K mg) : DL_Parser_init K (sp_Parser_init K) := by
  rintro ds γ q e E0 lo1 lo2 ⟨k, l, rfl, hl, hk, hq⟩
  refine dS_env (ρ' := [some (.loc k), some (.str (S l))]) rfl ?_
  unfold t_Parser_init
  walk_at "GO"
  refine ⟨l, rfl, hl, ?_⟩
  walk_at "GO"
  refine ⟨k, _, _, _, rfl, hk, T.cl_Parser, T.na_Parser_rest, by decide, ?_⟩
  walk_at "GO"
  refine ⟨k, _, _, _, rfl, set_get hk, T.cl_Parser, T.na_Parser_place, by show 1 < 1000; decide, ?_⟩
  rw [set_set]
  have e : PO K (toks l) (toks l) = .ins (He.ga K "Parser") (stored (stored [] [] "rest" (.lst ((toks l).map Tkn.d))).1 (stored [] [] "rest" (.lst ((toks l).map Tkn.d))).2 "place" (.int 0)).1 (stored (stored [] [] "rest" (.lst ((toks l).map Tkn.d))).1 (stored [] [] "rest" (.lst ((toks l).map Tkn.d))).2 "place" (.int 0)).2 := by
    unfold PO
    rw [Nat.sub_self]
    rfl
  rw [← e]
  exact .inl hq
theorem dl_sees {K : Frag} (T : Tx K mg) : DL_Parser_sees K (sp_Parser_sees K) := by
  rintro ds γ q e E0 lo1 lo2 ⟨k, Ts, t, ts, gs, x, rfl, hx, hk, hs, hq⟩
  refine dS_env (ρ' := [some (.loc k), some x, none, none, none]) rfl ?_
  unfold t_Parser_sees
  walk_at "GO"
  refine po_rest T ?_
  walk_at "GO"
  refine ⟨k, Ts, t :: ts, rfl, hk, ?_⟩
  refine po_place T ?_
  walk_at "GO"
  refine ⟨k, Ts, t :: ts, rfl, hk, ?_⟩
  refine xix_lst ⟨_, rfl, t.d, at_nat (by rw [List.getElem?_map, suf_get hs]; rfl), ?_⟩
  refine xg_tup (ds := [.str (S t.k.c), .str (S t.v), .int t.p]) rfl ?_
  walk_at "GO"
  rw [kd_sign]
  refine ifd (fun c1 => ?_) (fun c1 => ?_)
  · walk_at "GO"
    refine rin_strs (hx.elim (fun h => .inr (.inl h)) fun h => .inr (.inr h)) ?_
    have : sees t gs = decide (t.v ∈ gs) := by simp [sees, c1]
    rw [this] at hq
    exact .inl hq
  · have : sees t gs = false := by simp [sees, c1]
    rw [this] at hq
    exact .inl hq
theorem dl_take {K : Frag} (T : Tx K mg) : DL_Parser_take K (sp_Parser_take K) := by
  rintro ds γ q e E0 lo1 lo2 ⟨k, Ts, t, ts, rfl, hk, hs, hq⟩
  refine dS_env (ρ' := [some (.loc k)]) rfl ?_
  unfold t_Parser_take
  have hl := suf_len hs
  refine xs_seq (po_set T ?_)
  walk_at "GO"
  refine po_place T ?_
  walk_at "GO"
  refine ⟨k, Ts, t :: ts, rfl, hk, ?_⟩
  walk_at "GO"
  refine ⟨k, Ts, t :: ts, ts, rfl, hk, by congr 1; simp only [List.length_cons]; omega, ?_⟩
  walk_at "GO"
  refine po_rest T ?_
  walk_at "GO"
  refine ⟨k, Ts, ts, rfl, set_get hk, ?_⟩
  walk_at "GO"
  refine po_place T ?_
  walk_at "GO"
  refine ⟨k, Ts, ts, rfl, set_get hk, ?_⟩
  walk_at "GO"
  refine xix_lst ⟨_, rfl, t.d, ?_, .inl hq⟩
  rw [show ((Ts.length - ts.length : Nat) : Int) - 1 = ((Ts.length - (t :: ts).length : Nat) : Int) by simp only [List.length_cons]; omega]
  exact at_nat (by rw [List.getElem?_map, suf_get hs]; rfl)
theorem frz1_int {K : Frag} {γ : Ga} {i : Int} : Frz1 (sp_frozen K) γ (.int i) (.int i) := ⟨_, rfl, rfl, rfl, rfl⟩
theorem frz1_str {K : Frag} {γ : Ga} {i : Str} : Frz1 (sp_frozen K) γ (.str i) (.str i) := ⟨_, rfl, rfl, rfl, rfl⟩
theorem dl_refuse {K : Frag} (T : Tx K mg) (X : Te P K mg) : DL_Parser_refuse K (sp_Parser_refuse K) := by
  rintro ds γ q e E0 lo1 lo2 ⟨k, Ts, t, ts, rfl, hk, hs, he⟩
  refine dS_env (ρ' := [some (.loc k)]) rfl ?_
  unfold t_Parser_refuse
  refine ds_raise X.x_BadText.oex ?_
  walk_at "GO"
  refine po_rest T ?_
  walk_at "GO"
  refine ⟨k, Ts, t :: ts, rfl, hk, ?_⟩
  refine po_place T ?_
  walk_at "GO"
  refine ⟨k, Ts, t :: ts, rfl, hk, ?_⟩
  refine xix_lst ⟨_, rfl, t.d, at_nat (by rw [List.getElem?_map, suf_get hs]; rfl), ?_⟩
  walk_at "GO"
  refine xix_tup (xs := [.str (S t.k.c), .str (S t.v), .int t.p]) ⟨_, rfl, ?_⟩
  walk_at "GO"
  exact ⟨rfl, by decide, by decide, [.int t.p], ⟨frz1_int, trivial⟩, .inl he⟩
theorem dl_take_sign {K : Frag} (T : Tx K mg) : DL_Parser_take_sign K (sp_Parser_take_sign K) := by
  rintro ds γ q e E0 lo1 lo2 ⟨k, Ts, t, ts, gs, x, rfl, hx, hk, hs, h1, h2⟩
  refine dS_env (ρ' := [some (.loc k), some x]) rfl ?_
  unfold t_Parser_take_sign
  walk_at "GO"
  refine ⟨po_meth (C := He.ga K "Parser") hk rfl, ?_⟩
  walk_at "GO"
  refine ⟨k, Ts, t, ts, gs, x, rfl, hx, hk, hs, ?_⟩
  cases hc : sees t gs with
  | true =>
    walk_at "GO"
    refine ⟨po_meth (C := He.ga K "Parser") hk rfl, ?_⟩
    walk_at "GO"
    refine ⟨k, Ts, t, ts, rfl, hk, hs, ?_⟩
    walk_at "GO"
    refine xix_tup (xs := [.str (S t.k.c), .str (S t.v), .int t.p]) ⟨_, rfl, ?_⟩
    exact .inl (h1 hc)
  | false =>
    walk_at "GO"
    refine ⟨po_meth (C := He.ga K "Parser") hk rfl, ?_⟩
    walk_at "GO"
    exact ⟨k, Ts, t, ts, rfl, hk, hs, .inl (h2 hc)⟩
theorem kd_end : ∀ {k : Kd}, k.c = [101, 110, 100] → k = .fin := fun {k} h => by cases k <;> first | rfl | (revert h; decide)
theorem dl_finish {K : Frag} (T : Tx K mg) : DL_Parser_finish K (sp_Parser_finish K) := by
  rintro ds γ q e E0 lo1 lo2 ⟨k, Ts, t, ts, d, rfl, hk, hs, h1, h2⟩
  refine dS_env (ρ' := [some (.loc k), some d]) rfl ?_
  unfold t_Parser_finish
  walk_at "GO"
  refine po_rest T ?_
  walk_at "GO"
  refine ⟨k, Ts, t :: ts, rfl, hk, ?_⟩
  refine po_place T ?_
  walk_at "GO"
  refine ⟨k, Ts, t :: ts, rfl, hk, ?_⟩
  refine xix_lst ⟨_, rfl, t.d, at_nat (by rw [List.getElem?_map, suf_get hs]; rfl), ?_⟩
  walk_at "GO"
  refine xix_tup (xs := [.str (S t.k.c), .str (S t.v), .int t.p]) ⟨_, rfl, ?_⟩
  by_cases h3 : t.k = .fin
  · rw [h3]
    walk_at "GO"
    refine ifnd (fun c => absurd rfl c) (fun _ => ?_)
    walk_at "GO"
    exact .inl (h1 h3)
  · walk_at "GO"
    refine ifnd (fun _ => ?_) (fun c => absurd (kd_end c) h3)
    walk_at "GO"
    refine ⟨po_meth (C := He.ga K "Parser") hk rfl, ?_⟩
    walk_at "GO"
    exact ⟨k, Ts, t, ts, rfl, hk, hs, .inl (h2 h3)⟩
theorem dl_expression {K : Frag} (T : Tx K mg) {G : List Tkn → Prop} (hG : ∀ ts ts', ts' <:+ ts → G ts → G ts') {f : List Tkn → PR} (hf : ∀ ts d r, f ts = some (.ok (d, r)) → r <:+ ts) : DL_Parser_expression K (spP K G (pT f)) (spP K G (pE f)) := by
  rintro ds γ q e E0 lo1 lo2 ⟨k, Ts, ts, rfl, hk, hs, hg, hr⟩
  refine dS_env (ρ' := [some (.loc k), none, none]) rfl ?_
  unfold t_Parser_expression
  unfold pE at hr
  walk_at "GO"
  refine ⟨po_meth (C := He.ga K "Parser") hk rfl, ?_⟩
  walk_at "GO"
  refine ⟨k, Ts, ts, rfl, hk, hs, hg, ?_⟩
  cases h1 : (pT f) ts with
  | none =>
    rw [h1] at hr
    rcases hr with ⟨_, _, h, _⟩ | ⟨_, h, _⟩ <;> cases h
  | some o =>
  rw [h1] at hr
  cases o with
  | error p =>
    rcases hr with ⟨_, _, h, _⟩ | ⟨p', h, he⟩
    · cases h
    · cases h
      exact .inr ⟨p, rfl, fun ts' => .inl (he ts')⟩
  | ok o =>
  obtain ⟨d1, r1⟩ := o
  replace hr : spRes K (pLoop (pT f) ADD (r1.length + 1) d1 r1) k Ts γ q e := hr
  have s1 := (pT_suf hf _ _ _ h1).trans hs
  have g1 := hG _ _ (pT_suf hf _ _ _ h1) hg
  refine .inl ⟨d1, r1, rfl, ?_⟩
  walk_at "GO"
  refine xs_while (fun m ρ γ' => ∃ n dd ts' x, spRes K (pLoop (pT f) ADD n dd ts') k Ts γ q e ∧ ts' <:+ Ts ∧ G ts' ∧ m = n ∧ ρ = [some (.loc k), some dd, x] ∧ γ' = γ.set k (PO K Ts ts')) ⟨_, _, _, _, _, hr, s1, g1, rfl, rfl, rfl⟩ ?_
  rintro m ρ γ' ⟨n, dd, ts', x, hr', s', g', rfl, rfl, rfl⟩
  cases m with
  | zero => rcases hr' with ⟨_, _, h, _⟩ | ⟨_, h, _⟩ <;> cases h
  | succ m =>
  cases ts' with
  | nil => rcases hr' with ⟨_, _, h, _⟩ | ⟨_, h, _⟩ <;> cases h
  | cons t ts' =>
  unfold pLoop at hr'
  have hk' : (γ.set k (PO K Ts (t :: ts')))[k]? = some (PO K Ts (t :: ts')) := set_get hk
  walk_at "GO"
  refine ⟨po_meth (C := He.ga K "Parser") hk' rfl, ?_⟩
  walk_at "GO"
  refine ⟨k, Ts, t, ts', ADD, _, rfl, .inl rfl, hk', s', ?_⟩
  walk_at "GO"
  cases hs2 : sees t ADD with
  | true =>
    rw [if_pos hs2] at hr'
    walk_at "GO"
    refine ⟨po_meth (C := He.ga K "Parser") hk' rfl, ?_⟩
    walk_at "GO"
    refine ⟨k, Ts, t, ts', rfl, hk', s', ?_⟩
    rw [set_set]
    walk_at "GO"
    refine xix_tup (xs := [.str (S t.k.c), .str (S t.v), .int t.p]) ⟨_, rfl, ?_⟩
    walk_at "GO"
    refine ⟨po_meth (C := He.ga K "Parser") (set_get hk) rfl, ?_⟩
    walk_at "GO"
    have s3 : ts' <:+ Ts := (List.suffix_cons _ _).trans s'
    have g3 : G ts' := hG _ _ (List.suffix_cons _ _) g'
    refine ⟨k, Ts, ts', rfl, set_get hk, s3, g3, ?_⟩
    cases h2 : (pT f) ts' with
    | none =>
      rw [h2] at hr'
      rcases hr' with ⟨_, _, h, _⟩ | ⟨_, h, _⟩ <;> cases h
    | some o =>
    rw [h2] at hr'
    cases o with
    | error p =>
      rcases hr' with ⟨_, _, h, _⟩ | ⟨p', h, he⟩
      · cases h
      · cases h
        exact .inr ⟨p, rfl, fun ts' => .inl (by rw [set_set]; exact he ts')⟩
    | ok o =>
    obtain ⟨d2, r2⟩ := o
    refine .inl ⟨d2, r2, rfl, ?_⟩
    rw [set_set]
    walk_at "GO"
    exact ⟨m, Nat.lt_succ_self m, m, _, r2, _, hr', (pT_suf hf _ _ _ h2).trans s3, hG _ _ (pT_suf hf _ _ _ h2) g3, rfl, rfl, rfl⟩
  | false =>
    rw [if_neg (by rw [hs2]; decide)] at hr'
    rcases hr' with ⟨_, _, h, hq⟩ | ⟨_, h, _⟩
    · cases h
      walk_at "GO"
      exact .inl hq
    · cases h
theorem dl_term {K : Frag} (T : Tx K mg) {G : List Tkn → Prop} (hG : ∀ ts ts', ts' <:+ ts → G ts → G ts') {f : List Tkn → PR} (hf : ∀ ts d r, f ts = some (.ok (d, r)) → r <:+ ts) : DL_Parser_term K (spP K G f) (spP K G (pT f)) := by
  rintro ds γ q e E0 lo1 lo2 ⟨k, Ts, ts, rfl, hk, hs, hg, hr⟩
  refine dS_env (ρ' := [some (.loc k), none, none]) rfl ?_
  unfold t_Parser_term
  unfold pT at hr
  walk_at "GO"
  refine ⟨po_meth (C := He.ga K "Parser") hk rfl, ?_⟩
  walk_at "GO"
  refine ⟨k, Ts, ts, rfl, hk, hs, hg, ?_⟩
  cases h1 : f ts with
  | none =>
    rw [h1] at hr
    rcases hr with ⟨_, _, h, _⟩ | ⟨_, h, _⟩ <;> cases h
  | some o =>
  rw [h1] at hr
  cases o with
  | error p =>
    rcases hr with ⟨_, _, h, _⟩ | ⟨p', h, he⟩
    · cases h
    · cases h
      exact .inr ⟨p, rfl, fun ts' => .inl (he ts')⟩
  | ok o =>
  obtain ⟨d1, r1⟩ := o
  replace hr : spRes K (pLoop f MUL (r1.length + 1) d1 r1) k Ts γ q e := hr
  have s1 := (hf _ _ _ h1).trans hs
  have g1 := hG _ _ (hf _ _ _ h1) hg
  refine .inl ⟨d1, r1, rfl, ?_⟩
  walk_at "GO"
  refine xs_while (fun m ρ γ' => ∃ n dd ts' x, spRes K (pLoop f MUL n dd ts') k Ts γ q e ∧ ts' <:+ Ts ∧ G ts' ∧ m = n ∧ ρ = [some (.loc k), some dd, x] ∧ γ' = γ.set k (PO K Ts ts')) ⟨_, _, _, _, _, hr, s1, g1, rfl, rfl, rfl⟩ ?_
  rintro m ρ γ' ⟨n, dd, ts', x, hr', s', g', rfl, rfl, rfl⟩
  cases m with
  | zero => rcases hr' with ⟨_, _, h, _⟩ | ⟨_, h, _⟩ <;> cases h
  | succ m =>
  cases ts' with
  | nil => rcases hr' with ⟨_, _, h, _⟩ | ⟨_, h, _⟩ <;> cases h
  | cons t ts' =>
  unfold pLoop at hr'
  have hk' : (γ.set k (PO K Ts (t :: ts')))[k]? = some (PO K Ts (t :: ts')) := set_get hk
  walk_at "GO"
  refine ⟨po_meth (C := He.ga K "Parser") hk' rfl, ?_⟩
  walk_at "GO"
  refine ⟨k, Ts, t, ts', MUL, _, rfl, .inl rfl, hk', s', ?_⟩
  walk_at "GO"
  cases hs2 : sees t MUL with
  | true =>
    rw [if_pos hs2] at hr'
    walk_at "GO"
    refine ⟨po_meth (C := He.ga K "Parser") hk' rfl, ?_⟩
    walk_at "GO"
    refine ⟨k, Ts, t, ts', rfl, hk', s', ?_⟩
    rw [set_set]
    walk_at "GO"
    refine xix_tup (xs := [.str (S t.k.c), .str (S t.v), .int t.p]) ⟨_, rfl, ?_⟩
    walk_at "GO"
    refine ⟨po_meth (C := He.ga K "Parser") (set_get hk) rfl, ?_⟩
    walk_at "GO"
    have s3 : ts' <:+ Ts := (List.suffix_cons _ _).trans s'
    have g3 : G ts' := hG _ _ (List.suffix_cons _ _) g'
    refine ⟨k, Ts, ts', rfl, set_get hk, s3, g3, ?_⟩
    cases h2 : f ts' with
    | none =>
      rw [h2] at hr'
      rcases hr' with ⟨_, _, h, _⟩ | ⟨_, h, _⟩ <;> cases h
    | some o =>
    rw [h2] at hr'
    cases o with
    | error p =>
      rcases hr' with ⟨_, _, h, _⟩ | ⟨p', h, he⟩
      · cases h
      · cases h
        exact .inr ⟨p, rfl, fun ts' => .inl (by rw [set_set]; exact he ts')⟩
    | ok o =>
    obtain ⟨d2, r2⟩ := o
    refine .inl ⟨d2, r2, rfl, ?_⟩
    rw [set_set]
    walk_at "GO"
    exact ⟨m, Nat.lt_succ_self m, m, _, r2, _, hr', (hf _ _ _ h2).trans s3, hG _ _ (hf _ _ _ h2) g3, rfl, rfl, rfl⟩
  | false =>
    rw [if_neg (by rw [hs2]; decide)] at hr'
    rcases hr' with ⟨_, _, h, hq⟩ | ⟨_, h, _⟩
    · cases h
      walk_at "GO"
      exact .inl hq
    · cases h
end
end K09

set_option Elab.async false
set_option linter.all false
set_option maxRecDepth 100000
set_option maxHeartbeats 4000000
namespace K09
open PySem PySem.Spec PyProof.Rows L2 DL
local macro_rules | `(tactic| walk_at "GO") => `(tactic| repeat' (first | with_reducible refine xs_seq ?_ | with_reducible refine xs_set ?_ | with_reducible refine xs_asg ?_ | with_reducible refine xs_if ?_ | with_reducible refine xs_ret ?_ | with_reducible refine xs_next ?_ | with_reducible refine xs_expr ?_ | with_reducible refine xs_fld ?_ | with_reducible refine xs_par ?_ | with_reducible refine xs_retN ?_ | with_reducible refine xs_brk ?_ | with_reducible refine xp_nil ?_ | with_reducible refine xp_cons ?_ | with_reducible refine xe_disp ?_ | with_reducible refine xe_dispM ?_ | with_reducible refine xs_cont ?_ | with_reducible refine da_nil ?_ | with_reducible refine da_cons ?_ | with_reducible refine de_int ?_ | with_reducible refine de_str ?_ | with_reducible refine de_bl ?_ | with_reducible refine de_non ?_ | with_reducible refine de_ty ?_ | ((with_reducible refine xe_var ?_); refine ⟨_, rfl, ?_⟩) | with_reducible refine de_op ?_ | with_reducible refine de_un ?_ | with_reducible refine de_call ?_ | with_reducible refine de_cb ?_ | with_reducible refine de_sl ?_ | with_reducible refine do_none ?_ | with_reducible refine do_some ?_ | with_reducible refine de_if ?_ | with_reducible refine de_andV ?_ | with_reducible refine de_orV ?_ | with_reducible refine de_notV ?_ | with_reducible refine de_chain ?_ | with_reducible refine dt_test ?_ | with_reducible refine dt_B ?_ | with_reducible refine dt_and ?_ | with_reducible refine dt_or ?_ | with_reducible refine dt_not ?_ | (with_reducible refine xe_tup ?_) | (with_reducible refine xe_lst ?_) | (with_reducible refine xe_lstM ?_) | (with_reducible refine de_meth ?_) | with_reducible refine xs_dput ?_ | with_reducible refine xs_daug ?_ | with_reducible refine de_dget ?_ | with_reducible refine de_dgt1 ?_ | with_reducible refine de_dgt2 ?_ | with_reducible refine de_din ?_ | with_reducible refine de_dnotin ?_ | with_reducible refine de_dnewK ?_ | with_reducible refine de_dnewT ?_ | with_reducible refine de_revL ?_ | (with_reducible refine de_bm ?_) | (with_reducible refine de_bm0 ?_) | (with_reducible refine ⟨isTy_str, ?_⟩) | (with_reducible refine ⟨xty_lst ⟨_, rfl⟩, ?_⟩) | with_reducible refine radd_int ?_ | with_reducible refine radd_S ?_ ?_ | with_reducible refine rsub_int ?_ | with_reducible refine req_int ?_ | with_reducible refine rne_int ?_ | with_reducible refine req_S ?_ | with_reducible refine rne_S ?_ | with_reducible refine rlt_int ?_ | with_reducible refine rle_int ?_ | with_reducible refine rgt_int ?_ | with_reducible refine rge_int ?_ | with_reducible refine rneg_int ?_ | with_reducible refine rin_sgn ?_ | with_reducible refine rni_sgn ?_ | with_reducible refine rc_len_S ?_ ?_ | with_reducible refine rc_int_bl ?_ | with_reducible refine rc_str_int ?_ ?_ | with_reducible refine rc_str_str ?_ | with_reducible refine rc_max2 ?_ | with_reducible refine rc_abs ?_ | with_reducible refine req_bl ?_ | with_reducible refine rne_bl ?_ | with_reducible refine rltg_i ?_ | with_reducible refine rleg_i ?_ | with_reducible refine rgtg_i ?_ | with_reducible refine rgeg_i ?_ | with_reducible refine rltg_b ?_ | with_reducible refine rleg_b ?_ | with_reducible refine rgtg_b ?_ | with_reducible refine rgeg_b ?_ | with_reducible refine rist ?_ | with_reducible refine rntt ?_ | with_reducible refine dt_truth ?_ | ((with_reducible refine xc_isi ?_); refine ⟨_, true, rfl, rfl, ?_⟩) | ((with_reducible refine xc_isi ?_); refine ⟨_, false, rfl, rfl, ?_⟩) | with_reducible refine di_str ?_ | with_reducible refine di_list ?_ | with_reducible refine di_tup ?_ | with_reducible refine di_rng1 ?_ | with_reducible refine di_rng2 ?_ | with_reducible refine ift ?_ | with_reducible refine iff_ ?_ | with_reducible refine ifnt ?_ | with_reducible refine ifnf ?_ | with_reducible refine rin_strs sq_c ?_ | with_reducible refine rni_strs sq_c ?_ | with_reducible refine rin_strs sq_t ?_ | with_reducible refine rni_strs sq_t ?_ | with_reducible refine rin_strs sq_l ?_ | with_reducible refine rni_strs sq_l ?_ | with_reducible refine rin_strs (sq_v rfl) ?_ | with_reducible refine rni_strs (sq_v rfl) ?_ | ((with_reducible refine rin_seq sq_c ?_ ?_ ?_); rfl; rfl) | ((with_reducible refine rin_seq sq_t ?_ ?_ ?_); rfl; rfl) | ((with_reducible refine rin_seq sq_l ?_ ?_ ?_); rfl; rfl) | ((with_reducible refine rin_seq (sq_v rfl) ?_ ?_ ?_); rfl; rfl) | ((with_reducible refine rni_seq sq_c ?_ ?_ ?_); rfl; rfl) | ((with_reducible refine rni_seq sq_t ?_ ?_ ?_); rfl; rfl) | ((with_reducible refine rni_seq sq_l ?_ ?_ ?_); rfl; rfl) | ((with_reducible refine rni_seq (sq_v rfl) ?_ ?_ ?_); rfl; rfl) | (with_reducible refine xix_tup ?_) | ((with_reducible refine xc_len ?_); refine ⟨_, sq_c, ?_⟩) | ((with_reducible refine xc_len ?_); refine ⟨_, sq_t, ?_⟩) | ((with_reducible refine xc_len ?_); refine ⟨_, sq_l, ?_⟩) | ((with_reducible refine xc_len ?_); refine ⟨_, (sq_v rfl), ?_⟩) | (with_reducible refine rm_count ?_) | (with_reducible refine ⟨_, rfl, ?_⟩) | (with_reducible refine ⟨_, .inl rfl, ?_⟩) | (with_reducible refine ⟨_, .inr rfl, ?_⟩) | (with_reducible refine ⟨_, _, rfl, ?_⟩) | ((with_reducible refine xix_lst ?_); refine ⟨_, rfl, _, rfl, ?_⟩) | ((with_reducible refine xadd_lst ?_); refine ⟨_, rfl, _, rfl, ?_, ?_⟩) | with_reducible refine rmul_int ?_ ?_ | with_reducible refine rmod_int ?_ ?_ | with_reducible refine rfdiv_int ?_ ?_ | with_reducible refine rpow_int ?_ ?_ | with_reducible refine xg_setL ?_ | refine ⟨_, _, _, _, rfl, rfl, rfl, rfl, ?_⟩ | with_reducible refine xg_name ?_ | with_reducible refine xg_tup rfl ?_ | with_reducible refine xgs_name ?_ | with_reducible refine xgs_nil ?_ | (with_reducible refine ⟨Nat.le_of_ble_eq_true rfl, ?_⟩) | fail))
section
variable {P : Program} {mg : Str → Option Value}
theorem kd_int {k : Kd} : decide (k.c = [105, 110, 116, 101, 103, 101, 114]) = decide (k = .integer) := by cases k <;> decide
theorem spRes_bad {K : Frag} {k : Nat} {Ts : List Tkn} {γ : Ga} {q : QD} {e : XD} {C : Prop} (h : spRes K none k Ts γ q e) : C := by
  rcases h with ⟨_, _, h, _⟩ | ⟨_, h, _⟩ <;> cases h
theorem spRes_err {K : Frag} {k p : Nat} {Ts : List Tkn} {γ : Ga} {q : QD} {e : XD} (h : spRes K (some (.error p)) k Ts γ q e) : ∀ ts', XB K e p (γ.set k (PO K Ts ts')) := by
  rcases h with ⟨_, _, h, _⟩ | ⟨_, h, he⟩
  · cases h
  · cases h; exact he
theorem spRes_ok {K : Frag} {k : Nat} {d : D} {r : List Tkn} {Ts : List Tkn} {γ : Ga} {q : QD} {e : XD} (h : spRes K (some (.ok (d, r))) k Ts γ q e) : q d (γ.set k (PO K Ts r)) := by
  rcases h with ⟨_, _, h, hq⟩ | ⟨_, h, _⟩
  · cases h; exact hq
  · cases h
theorem po_same {K : Frag} {k : Nat} {T ts : List Tkn} {γ : Ga} (h : γ[k]? = some (PO K T ts)) : γ.set k (PO K T ts) = γ := by
  obtain ⟨l, e⟩ := List.getElem?_eq_some_iff.mp h
  rw [← e, List.set_getElem_self]
theorem dl_factor {K : Frag} (T : Tx K mg) {G Gm Gp : List Tkn → Prop} (hm : ∀ t ts, sees t [[45]] = true → G (t :: ts) → Gm ts) (hp : ∀ t ts, sees t [[40]] = true → G (t :: ts) → Gp ts) (n : Nat) :
    DL_Parser_factor K (spP K Gm (pFac n)) (spP K Gp (pE (pFac n))) (spP K G (pFac (n + 1))) := by
  rintro ds γ q e E0 lo1 lo2 ⟨k, Ts, ts, rfl, hk, hs, hg, hr⟩
  refine dS_env (ρ' := [some (.loc k), none, none, none, none]) rfl ?_
  unfold t_Parser_factor
  cases ts with
  | nil => exact spRes_bad hr
  | cons t ts =>
  unfold pFac at hr
  walk_at "GO"
  refine ⟨po_meth (C := He.ga K "Parser") hk rfl, ?_⟩
  walk_at "GO"
  refine ⟨k, Ts, t, ts, [[45]], _, rfl, .inl rfl, hk, hs, ?_⟩
  have s1 : ts <:+ Ts := (List.suffix_cons _ _).trans hs
  cases hs1 : sees t [[45]] with
  | true =>
    rw [if_pos hs1] at hr
    walk_at "GO"
    refine ⟨po_meth (C := He.ga K "Parser") hk rfl, ?_⟩
    walk_at "GO"
    refine ⟨k, Ts, t, ts, rfl, hk, hs, ?_⟩
    walk_at "GO"
    refine ⟨po_meth (C := He.ga K "Parser") (set_get hk) rfl, ?_⟩
    walk_at "GO"
    refine ⟨k, Ts, ts, rfl, set_get hk, s1, hm _ _ hs1 hg, ?_⟩
    cases h2 : pFac n ts with
    | none => rw [h2] at hr; exact spRes_bad hr
    | some o =>
    rw [h2] at hr
    cases o with
    | error p => exact .inr ⟨p, rfl, fun ts' => .inl (by rw [set_set]; exact spRes_err hr ts')⟩
    | ok o =>
    obtain ⟨d2, r2⟩ := o
    refine .inl ⟨d2, r2, rfl, ?_⟩
    rw [set_set]
    walk_at "GO"
    exact .inl (spRes_ok hr)
  | false =>
  rw [if_neg (by rw [hs1]; decide)] at hr
  walk_at "GO"
  refine ⟨po_meth (C := He.ga K "Parser") hk rfl, ?_⟩
  walk_at "GO"
  refine ⟨k, Ts, t, ts, [[40]], _, rfl, .inl rfl, hk, hs, ?_⟩
  cases hs2 : sees t [[40]] with
  | true =>
    rw [if_pos hs2] at hr
    walk_at "GO"
    refine ⟨po_meth (C := He.ga K "Parser") hk rfl, ?_⟩
    walk_at "GO"
    refine ⟨k, Ts, t, ts, rfl, hk, hs, ?_⟩
    walk_at "GO"
    refine ⟨po_meth (C := He.ga K "Parser") (set_get hk) rfl, ?_⟩
    walk_at "GO"
    refine ⟨k, Ts, ts, rfl, set_get hk, s1, hp _ _ hs2 hg, ?_⟩
    cases h2 : pE (pFac n) ts with
    | none => rw [h2] at hr; exact spRes_bad hr
    | some o =>
    rw [h2] at hr
    cases o with
    | error p => exact .inr ⟨p, rfl, fun ts' => .inl (by rw [set_set]; exact spRes_err hr ts')⟩
    | ok o =>
    obtain ⟨d2, r2⟩ := o
    have s2 := (pE_suf (pFac_suf n) _ _ _ h2).trans s1
    refine .inl ⟨d2, r2, rfl, ?_⟩
    rw [set_set]
    walk_at "GO"
    refine ⟨po_meth (C := He.ga K "Parser") (set_get hk) rfl, ?_⟩
    walk_at "GO"
    replace hr : spRes K (pSign [[41]] d2 r2) k Ts γ q e := hr
    cases r2 with
    | nil => exact spRes_bad hr
    | cons t2 r3 =>
    replace hr : spRes K (if sees t2 [[41]] = true then some (.ok (d2, r3)) else some (.error t2.p) : PR) k Ts γ q e := hr
    refine ⟨k, Ts, t2, r3, [[41]], _, rfl, .inl rfl, set_get hk, s2, fun hs3 => ?_, fun hs3 => ?_⟩
    · rw [if_pos hs3] at hr
      rw [set_set]
      walk_at "GO"
      exact .inl (spRes_ok hr)
    · rw [if_neg (by rw [hs3]; decide)] at hr
      exact .inl (spRes_err hr _)
  | false =>
  rw [if_neg (by rw [hs2]; decide)] at hr
  walk_at "GO"
  refine po_rest T ?_
  walk_at "GO"
  refine ⟨k, Ts, t :: ts, rfl, hk, ?_⟩
  refine po_place T ?_
  walk_at "GO"
  refine ⟨k, Ts, t :: ts, rfl, hk, ?_⟩
  refine xix_lst ⟨_, rfl, t.d, at_nat (by rw [List.getElem?_map, suf_get hs]; rfl), ?_⟩
  refine xg_tup (ds := [.str (S t.k.c), .str (S t.v), .int t.p]) rfl ?_
  walk_at "GO"
  unfold pLeaf at hr
  by_cases h3 : t.k = .integer
  · rw [if_pos h3] at hr
    rw [h3]
    have e : inD (.str (S Kd.integer.c)) [.str (S [105, 110, 116, 101, 103, 101, 114]), .str (S [110, 97, 109, 101])] = true := by rw [inD_cons, eqf_S]; rfl
    rw [e]
    walk_at "GO"
    refine ⟨po_meth (C := He.ga K "Parser") hk rfl, ?_⟩
    walk_at "GO"
    refine ⟨k, Ts, t, ts, rfl, hk, hs, ?_⟩
    walk_at "GO"
    refine ifd (fun _ => ?_) (fun c => absurd rfl c)
    cases h4 : PySem.intText? (S t.v) with
    | none => rw [h4] at hr; exact spRes_bad hr
    | some z =>
    rw [h4] at hr
    replace hr : spRes K (if t.v.length ≤ 640 then some (.ok (.tup [.str (S sNumber), .int z], ts)) else none : PR) k Ts γ q _ := hr
    by_cases h5 : t.v.length ≤ 640
    · rw [if_pos h5] at hr
      walk_at "GO"
      refine rc_int_str h4 (by rw [S_len]; exact h5) ?_
      walk_at "GO"
      exact .inl (spRes_ok hr)
    · rw [if_neg h5] at hr
      exact spRes_bad hr
  · rw [if_neg h3] at hr
    by_cases h4 : t.k = .name
    · rw [if_pos h4] at hr
      rw [h4]
      have e : inD (.str (S Kd.name.c)) [.str (S [105, 110, 116, 101, 103, 101, 114]), .str (S [110, 97, 109, 101])] = true := by
        rw [inD_cons, inD_cons, eqf_S, eqf_S]; rfl
      rw [e]
      walk_at "GO"
      refine ⟨po_meth (C := He.ga K "Parser") hk rfl, ?_⟩
      walk_at "GO"
      refine ⟨k, Ts, t, _, rfl, hk, hs, ?_⟩
      walk_at "GO"
      refine ifd (fun c => absurd c (by decide)) (fun _ => ?_)
      walk_at "GO"
      exact .inl (spRes_ok hr)
    · rw [if_neg h4] at hr
      have e : inD (.str (S t.k.c)) [.str (S [105, 110, 116, 101, 103, 101, 114]), .str (S [110, 97, 109, 101])] = false := by
        cases t with
        | mk a b c =>
        cases a <;> first | exact absurd rfl h3 | exact absurd rfl h4 | (rw [inD_cons, inD_cons, eqf_S, eqf_S]; rfl)
      rw [e]
      walk_at "GO"
      refine ⟨po_meth (C := He.ga K "Parser") hk rfl, ?_⟩
      walk_at "GO"
      have h6 := spRes_err hr (t :: ts)
      rw [po_same hk] at h6
      exact ⟨k, Ts, t, ts, rfl, hk, hs, .inl h6⟩
theorem drx_keep {γ rest : Ga} {e : XD} {C : Addr} {ns : List Str} {ds : List D} (lo1 : loG γ.length γ = true) (hl : loL γ.length ds = true) (he : e C ns ds γ) : DrX γ.length e C ns ds (γ ++ rest) := .inr ⟨γ, rest, rfl, Nat.le_refl _, lo1, hl, he⟩
end
end K09

set_option Elab.async false
set_option linter.all false
set_option maxRecDepth 100000
set_option maxHeartbeats 4000000
namespace K09
open PySem PySem.Spec PyProof.Rows L2 DL
local macro_rules | `(tactic| walk_at "GO") => `(tactic| repeat' (first | with_reducible refine xs_seq ?_ | with_reducible refine xs_set ?_ | with_reducible refine xs_asg ?_ | with_reducible refine xs_if ?_ | with_reducible refine xs_ret ?_ | with_reducible refine xs_next ?_ | with_reducible refine xs_expr ?_ | with_reducible refine xs_fld ?_ | with_reducible refine xs_par ?_ | with_reducible refine xs_retN ?_ | with_reducible refine xs_brk ?_ | with_reducible refine xp_nil ?_ | with_reducible refine xp_cons ?_ | with_reducible refine xe_disp ?_ | with_reducible refine xe_dispM ?_ | with_reducible refine xs_cont ?_ | with_reducible refine da_nil ?_ | with_reducible refine da_cons ?_ | with_reducible refine de_int ?_ | with_reducible refine de_str ?_ | with_reducible refine de_bl ?_ | with_reducible refine de_non ?_ | with_reducible refine de_ty ?_ | ((with_reducible refine xe_var ?_); refine ⟨_, rfl, ?_⟩) | with_reducible refine de_op ?_ | with_reducible refine de_un ?_ | with_reducible refine de_call ?_ | with_reducible refine de_cb ?_ | with_reducible refine de_sl ?_ | with_reducible refine do_none ?_ | with_reducible refine do_some ?_ | with_reducible refine de_if ?_ | with_reducible refine de_andV ?_ | with_reducible refine de_orV ?_ | with_reducible refine de_notV ?_ | with_reducible refine de_chain ?_ | with_reducible refine dt_test ?_ | with_reducible refine dt_B ?_ | with_reducible refine dt_and ?_ | with_reducible refine dt_or ?_ | with_reducible refine dt_not ?_ | (with_reducible refine xe_tup ?_) | (with_reducible refine xe_lst ?_) | (with_reducible refine xe_lstM ?_) | (with_reducible refine de_meth ?_) | with_reducible refine xs_dput ?_ | with_reducible refine xs_daug ?_ | with_reducible refine de_dget ?_ | with_reducible refine de_dgt1 ?_ | with_reducible refine de_dgt2 ?_ | with_reducible refine de_din ?_ | with_reducible refine de_dnotin ?_ | with_reducible refine de_dnewK ?_ | with_reducible refine de_dnewT ?_ | with_reducible refine de_revL ?_ | (with_reducible refine de_bm ?_) | (with_reducible refine de_bm0 ?_) | (with_reducible refine ⟨isTy_str, ?_⟩) | (with_reducible refine ⟨xty_lst ⟨_, rfl⟩, ?_⟩) | with_reducible refine radd_int ?_ | with_reducible refine radd_S ?_ ?_ | with_reducible refine rsub_int ?_ | with_reducible refine req_int ?_ | with_reducible refine rne_int ?_ | with_reducible refine req_S ?_ | with_reducible refine rne_S ?_ | with_reducible refine rlt_int ?_ | with_reducible refine rle_int ?_ | with_reducible refine rgt_int ?_ | with_reducible refine rge_int ?_ | with_reducible refine rneg_int ?_ | with_reducible refine rin_sgn ?_ | with_reducible refine rni_sgn ?_ | with_reducible refine rc_len_S ?_ ?_ | with_reducible refine rc_int_bl ?_ | with_reducible refine rc_str_int ?_ ?_ | with_reducible refine rc_str_str ?_ | with_reducible refine rc_max2 ?_ | with_reducible refine rc_abs ?_ | with_reducible refine req_bl ?_ | with_reducible refine rne_bl ?_ | with_reducible refine rltg_i ?_ | with_reducible refine rleg_i ?_ | with_reducible refine rgtg_i ?_ | with_reducible refine rgeg_i ?_ | with_reducible refine rltg_b ?_ | with_reducible refine rleg_b ?_ | with_reducible refine rgtg_b ?_ | with_reducible refine rgeg_b ?_ | with_reducible refine rist ?_ | with_reducible refine rntt ?_ | with_reducible refine dt_truth ?_ | ((with_reducible refine xc_isi ?_); refine ⟨_, true, rfl, rfl, ?_⟩) | ((with_reducible refine xc_isi ?_); refine ⟨_, false, rfl, rfl, ?_⟩) | with_reducible refine di_str ?_ | with_reducible refine di_list ?_ | with_reducible refine di_tup ?_ | with_reducible refine di_rng1 ?_ | with_reducible refine di_rng2 ?_ | with_reducible refine ift ?_ | with_reducible refine iff_ ?_ | with_reducible refine ifnt ?_ | with_reducible refine ifnf ?_ | with_reducible refine rin_strs sq_c ?_ | with_reducible refine rni_strs sq_c ?_ | with_reducible refine rin_strs sq_t ?_ | with_reducible refine rni_strs sq_t ?_ | with_reducible refine rin_strs sq_l ?_ | with_reducible refine rni_strs sq_l ?_ | with_reducible refine rin_strs (sq_v rfl) ?_ | with_reducible refine rni_strs (sq_v rfl) ?_ | ((with_reducible refine rin_seq sq_c ?_ ?_ ?_); rfl; rfl) | ((with_reducible refine rin_seq sq_t ?_ ?_ ?_); rfl; rfl) | ((with_reducible refine rin_seq sq_l ?_ ?_ ?_); rfl; rfl) | ((with_reducible refine rin_seq (sq_v rfl) ?_ ?_ ?_); rfl; rfl) | ((with_reducible refine rni_seq sq_c ?_ ?_ ?_); rfl; rfl) | ((with_reducible refine rni_seq sq_t ?_ ?_ ?_); rfl; rfl) | ((with_reducible refine rni_seq sq_l ?_ ?_ ?_); rfl; rfl) | ((with_reducible refine rni_seq (sq_v rfl) ?_ ?_ ?_); rfl; rfl) | (with_reducible refine xix_tup ?_) | ((with_reducible refine xc_len ?_); refine ⟨_, sq_c, ?_⟩) | ((with_reducible refine xc_len ?_); refine ⟨_, sq_t, ?_⟩) | ((with_reducible refine xc_len ?_); refine ⟨_, sq_l, ?_⟩) | ((with_reducible refine xc_len ?_); refine ⟨_, (sq_v rfl), ?_⟩) | (with_reducible refine rm_count ?_) | (with_reducible refine ⟨_, rfl, ?_⟩) | (with_reducible refine ⟨_, .inl rfl, ?_⟩) | (with_reducible refine ⟨_, .inr rfl, ?_⟩) | (with_reducible refine ⟨_, _, rfl, ?_⟩) | ((with_reducible refine xix_lst ?_); refine ⟨_, rfl, _, rfl, ?_⟩) | ((with_reducible refine xadd_lst ?_); refine ⟨_, rfl, _, rfl, ?_, ?_⟩) | with_reducible refine rmul_int ?_ ?_ | with_reducible refine rmod_int ?_ ?_ | with_reducible refine rfdiv_int ?_ ?_ | with_reducible refine rpow_int ?_ ?_ | with_reducible refine xg_setL ?_ | refine ⟨_, _, _, _, rfl, rfl, rfl, rfl, ?_⟩ | with_reducible refine xg_name ?_ | with_reducible refine xg_tup rfl ?_ | with_reducible refine xgs_name ?_ | with_reducible refine xgs_nil ?_ | (with_reducible refine ⟨Nat.le_of_ble_eq_true rfl, ?_⟩) | fail))
section
variable {P : Program} {mg : Str → Option Value}
theorem dl_condition {K : Frag} (T : Tx K mg) {G : List Tkn → Prop} (hG : ∀ ts ts', ts' <:+ ts → G ts → G ts') {f : List Tkn → PR} (hf : ∀ ts d r, f ts = some (.ok (d, r)) → r <:+ ts) : DL_Parser_condition K (spP K G f) (spP K G (pL f [sOr])) := by
  rintro ds γ q e E0 lo1 lo2 ⟨k, Ts, ts, rfl, hk, hs, hg, hr⟩
  refine dS_env (ρ' := [some (.loc k), none]) rfl ?_
  unfold t_Parser_condition
  unfold pL at hr
  walk_at "GO"
  refine ⟨po_meth (C := He.ga K "Parser") hk rfl, ?_⟩
  walk_at "GO"
  refine ⟨k, Ts, ts, rfl, hk, hs, hg, ?_⟩
  cases h1 : f ts with
  | none =>
    rw [h1] at hr
    rcases hr with ⟨_, _, h, _⟩ | ⟨_, h, _⟩ <;> cases h
  | some o =>
  rw [h1] at hr
  cases o with
  | error p =>
    rcases hr with ⟨_, _, h, _⟩ | ⟨p', h, he⟩
    · cases h
    · cases h
      exact .inr ⟨p, rfl, fun ts' => .inl (he ts')⟩
  | ok o =>
  obtain ⟨d1, r1⟩ := o
  replace hr : spRes K (pLoop f [sOr] (r1.length + 1) d1 r1) k Ts γ q e := hr
  have s1 := (hf _ _ _ h1).trans hs
  have g1 := hG _ _ (hf _ _ _ h1) hg
  refine .inl ⟨d1, r1, rfl, ?_⟩
  walk_at "GO"
  refine xs_while (fun m ρ γ' => ∃ n dd ts' , spRes K (pLoop f [sOr] n dd ts') k Ts γ q e ∧ ts' <:+ Ts ∧ G ts' ∧ m = n ∧ ρ = [some (.loc k), some dd] ∧ γ' = γ.set k (PO K Ts ts')) ⟨_, _, _, _, hr, s1, g1, rfl, rfl, rfl⟩ ?_
  rintro m ρ γ' ⟨n, dd, ts', hr', s', g', rfl, rfl, rfl⟩
  cases m with
  | zero => rcases hr' with ⟨_, _, h, _⟩ | ⟨_, h, _⟩ <;> cases h
  | succ m =>
  cases ts' with
  | nil => rcases hr' with ⟨_, _, h, _⟩ | ⟨_, h, _⟩ <;> cases h
  | cons t ts' =>
  unfold pLoop at hr'
  have hk' : (γ.set k (PO K Ts (t :: ts')))[k]? = some (PO K Ts (t :: ts')) := set_get hk
  walk_at "GO"
  refine ⟨po_meth (C := He.ga K "Parser") hk' rfl, ?_⟩
  walk_at "GO"
  refine ⟨k, Ts, t, ts', [sOr], _, rfl, .inl rfl, hk', s', ?_⟩
  walk_at "GO"
  cases hs2 : sees t [sOr] with
  | true =>
    rw [if_pos hs2] at hr'
    have htv : t.v = sOr := by
      unfold sees at hs2
      simp at hs2
      exact hs2.2
    rw [htv] at hr'
    walk_at "GO"
    refine ⟨po_meth (C := He.ga K "Parser") hk' rfl, ?_⟩
    walk_at "GO"
    refine ⟨k, Ts, t, ts', rfl, hk', s', ?_⟩
    rw [set_set]
    walk_at "GO"
    refine ⟨po_meth (C := He.ga K "Parser") (set_get hk) rfl, ?_⟩
    walk_at "GO"
    have s3 : ts' <:+ Ts := (List.suffix_cons _ _).trans s'
    have g3 : G ts' := hG _ _ (List.suffix_cons _ _) g'
    refine ⟨k, Ts, ts', rfl, set_get hk, s3, g3, ?_⟩
    cases h2 : f ts' with
    | none =>
      rw [h2] at hr'
      rcases hr' with ⟨_, _, h, _⟩ | ⟨_, h, _⟩ <;> cases h
    | some o =>
    rw [h2] at hr'
    cases o with
    | error p =>
      rcases hr' with ⟨_, _, h, _⟩ | ⟨p', h, he⟩
      · cases h
      · cases h
        exact .inr ⟨p, rfl, fun ts' => .inl (by rw [set_set]; exact he ts')⟩
    | ok o =>
    obtain ⟨d2, r2⟩ := o
    refine .inl ⟨d2, r2, rfl, ?_⟩
    rw [set_set]
    walk_at "GO"
    exact ⟨m, Nat.lt_succ_self m, m, _, r2, hr', (hf _ _ _ h2).trans s3, hG _ _ (hf _ _ _ h2) g3, rfl, rfl, rfl⟩
  | false =>
    rw [if_neg (by rw [hs2]; decide)] at hr'
    rcases hr' with ⟨_, _, h, hq⟩ | ⟨_, h, _⟩
    · cases h
      walk_at "GO"
      exact .inl hq
    · cases h
theorem dl_conjunction {K : Frag} (T : Tx K mg) {G : List Tkn → Prop} (hG : ∀ ts ts', ts' <:+ ts → G ts → G ts') {f : List Tkn → PR} (hf : ∀ ts d r, f ts = some (.ok (d, r)) → r <:+ ts) : DL_Parser_conjunction K (spP K G f) (spP K G (pL f [sAnd])) := by
  rintro ds γ q e E0 lo1 lo2 ⟨k, Ts, ts, rfl, hk, hs, hg, hr⟩
  refine dS_env (ρ' := [some (.loc k), none]) rfl ?_
  unfold t_Parser_conjunction
  unfold pL at hr
  walk_at "GO"
  refine ⟨po_meth (C := He.ga K "Parser") hk rfl, ?_⟩
  walk_at "GO"
  refine ⟨k, Ts, ts, rfl, hk, hs, hg, ?_⟩
  cases h1 : f ts with
  | none =>
    rw [h1] at hr
    rcases hr with ⟨_, _, h, _⟩ | ⟨_, h, _⟩ <;> cases h
  | some o =>
  rw [h1] at hr
  cases o with
  | error p =>
    rcases hr with ⟨_, _, h, _⟩ | ⟨p', h, he⟩
    · cases h
    · cases h
      exact .inr ⟨p, rfl, fun ts' => .inl (he ts')⟩
  | ok o =>
  obtain ⟨d1, r1⟩ := o
  replace hr : spRes K (pLoop f [sAnd] (r1.length + 1) d1 r1) k Ts γ q e := hr
  have s1 := (hf _ _ _ h1).trans hs
  have g1 := hG _ _ (hf _ _ _ h1) hg
  refine .inl ⟨d1, r1, rfl, ?_⟩
  walk_at "GO"
  refine xs_while (fun m ρ γ' => ∃ n dd ts' , spRes K (pLoop f [sAnd] n dd ts') k Ts γ q e ∧ ts' <:+ Ts ∧ G ts' ∧ m = n ∧ ρ = [some (.loc k), some dd] ∧ γ' = γ.set k (PO K Ts ts')) ⟨_, _, _, _, hr, s1, g1, rfl, rfl, rfl⟩ ?_
  rintro m ρ γ' ⟨n, dd, ts', hr', s', g', rfl, rfl, rfl⟩
  cases m with
  | zero => rcases hr' with ⟨_, _, h, _⟩ | ⟨_, h, _⟩ <;> cases h
  | succ m =>
  cases ts' with
  | nil => rcases hr' with ⟨_, _, h, _⟩ | ⟨_, h, _⟩ <;> cases h
  | cons t ts' =>
  unfold pLoop at hr'
  have hk' : (γ.set k (PO K Ts (t :: ts')))[k]? = some (PO K Ts (t :: ts')) := set_get hk
  walk_at "GO"
  refine ⟨po_meth (C := He.ga K "Parser") hk' rfl, ?_⟩
  walk_at "GO"
  refine ⟨k, Ts, t, ts', [sAnd], _, rfl, .inl rfl, hk', s', ?_⟩
  walk_at "GO"
  cases hs2 : sees t [sAnd] with
  | true =>
    rw [if_pos hs2] at hr'
    have htv : t.v = sAnd := by
      unfold sees at hs2
      simp at hs2
      exact hs2.2
    rw [htv] at hr'
    walk_at "GO"
    refine ⟨po_meth (C := He.ga K "Parser") hk' rfl, ?_⟩
    walk_at "GO"
    refine ⟨k, Ts, t, ts', rfl, hk', s', ?_⟩
    rw [set_set]
    walk_at "GO"
    refine ⟨po_meth (C := He.ga K "Parser") (set_get hk) rfl, ?_⟩
    walk_at "GO"
    have s3 : ts' <:+ Ts := (List.suffix_cons _ _).trans s'
    have g3 : G ts' := hG _ _ (List.suffix_cons _ _) g'
    refine ⟨k, Ts, ts', rfl, set_get hk, s3, g3, ?_⟩
    cases h2 : f ts' with
    | none =>
      rw [h2] at hr'
      rcases hr' with ⟨_, _, h, _⟩ | ⟨_, h, _⟩ <;> cases h
    | some o =>
    rw [h2] at hr'
    cases o with
    | error p =>
      rcases hr' with ⟨_, _, h, _⟩ | ⟨p', h, he⟩
      · cases h
      · cases h
        exact .inr ⟨p, rfl, fun ts' => .inl (by rw [set_set]; exact he ts')⟩
    | ok o =>
    obtain ⟨d2, r2⟩ := o
    refine .inl ⟨d2, r2, rfl, ?_⟩
    rw [set_set]
    walk_at "GO"
    exact ⟨m, Nat.lt_succ_self m, m, _, r2, hr', (hf _ _ _ h2).trans s3, hG _ _ (hf _ _ _ h2) g3, rfl, rfl, rfl⟩
  | false =>
    rw [if_neg (by rw [hs2]; decide)] at hr'
    rcases hr' with ⟨_, _, h, hq⟩ | ⟨_, h, _⟩
    · cases h
      walk_at "GO"
      exact .inl hq
    · cases h
end
end K09

set_option Elab.async false
set_option linter.all false
set_option maxRecDepth 100000
set_option maxHeartbeats 4000000
namespace K09
open PySem PySem.Spec PyProof.Rows L2 DL
local macro_rules | `(tactic| walk_at "GO") => `(tactic| repeat' (first | with_reducible refine xs_seq ?_ | with_reducible refine xs_set ?_ | with_reducible refine xs_asg ?_ | with_reducible refine xs_if ?_ | with_reducible refine xs_ret ?_ | with_reducible refine xs_next ?_ | with_reducible refine xs_expr ?_ | with_reducible refine xs_fld ?_ | with_reducible refine xs_par ?_ | with_reducible refine xs_retN ?_ | with_reducible refine xs_brk ?_ | with_reducible refine xp_nil ?_ | with_reducible refine xp_cons ?_ | with_reducible refine xe_disp ?_ | with_reducible refine xe_dispM ?_ | with_reducible refine xs_cont ?_ | with_reducible refine da_nil ?_ | with_reducible refine da_cons ?_ | with_reducible refine de_int ?_ | with_reducible refine de_str ?_ | with_reducible refine de_bl ?_ | with_reducible refine de_non ?_ | with_reducible refine de_ty ?_ | ((with_reducible refine xe_var ?_); refine ⟨_, rfl, ?_⟩) | with_reducible refine de_op ?_ | with_reducible refine de_un ?_ | with_reducible refine de_call ?_ | with_reducible refine de_cb ?_ | with_reducible refine de_sl ?_ | with_reducible refine do_none ?_ | with_reducible refine do_some ?_ | with_reducible refine de_if ?_ | with_reducible refine de_andV ?_ | with_reducible refine de_orV ?_ | with_reducible refine de_notV ?_ | with_reducible refine de_chain ?_ | with_reducible refine dt_test ?_ | with_reducible refine dt_B ?_ | with_reducible refine dt_and ?_ | with_reducible refine dt_or ?_ | with_reducible refine dt_not ?_ | (with_reducible refine xe_tup ?_) | (with_reducible refine xe_lst ?_) | (with_reducible refine xe_lstM ?_) | with_reducible refine q_COMPARISONS (by assumption) ?_ | (with_reducible refine de_meth ?_) | with_reducible refine xs_dput ?_ | with_reducible refine xs_daug ?_ | with_reducible refine de_dget ?_ | with_reducible refine de_dgt1 ?_ | with_reducible refine de_dgt2 ?_ | with_reducible refine de_din ?_ | with_reducible refine de_dnotin ?_ | with_reducible refine de_dnewK ?_ | with_reducible refine de_dnewT ?_ | with_reducible refine de_revL ?_ | (with_reducible refine de_bm ?_) | (with_reducible refine de_bm0 ?_) | (with_reducible refine ⟨isTy_str, ?_⟩) | (with_reducible refine ⟨xty_lst ⟨_, rfl⟩, ?_⟩) | with_reducible refine radd_int ?_ | with_reducible refine radd_S ?_ ?_ | with_reducible refine rsub_int ?_ | with_reducible refine req_int ?_ | with_reducible refine rne_int ?_ | with_reducible refine req_S ?_ | with_reducible refine rne_S ?_ | with_reducible refine rlt_int ?_ | with_reducible refine rle_int ?_ | with_reducible refine rgt_int ?_ | with_reducible refine rge_int ?_ | with_reducible refine rneg_int ?_ | with_reducible refine rin_sgn ?_ | with_reducible refine rni_sgn ?_ | with_reducible refine rc_len_S ?_ ?_ | with_reducible refine rc_int_bl ?_ | with_reducible refine rc_str_int ?_ ?_ | with_reducible refine rc_str_str ?_ | with_reducible refine rc_max2 ?_ | with_reducible refine rc_abs ?_ | with_reducible refine req_bl ?_ | with_reducible refine rne_bl ?_ | with_reducible refine rltg_i ?_ | with_reducible refine rleg_i ?_ | with_reducible refine rgtg_i ?_ | with_reducible refine rgeg_i ?_ | with_reducible refine rltg_b ?_ | with_reducible refine rleg_b ?_ | with_reducible refine rgtg_b ?_ | with_reducible refine rgeg_b ?_ | with_reducible refine rist ?_ | with_reducible refine rntt ?_ | with_reducible refine dt_truth ?_ | ((with_reducible refine xc_isi ?_); refine ⟨_, true, rfl, rfl, ?_⟩) | ((with_reducible refine xc_isi ?_); refine ⟨_, false, rfl, rfl, ?_⟩) | with_reducible refine di_str ?_ | with_reducible refine di_list ?_ | with_reducible refine di_tup ?_ | with_reducible refine di_rng1 ?_ | with_reducible refine di_rng2 ?_ | with_reducible refine ift ?_ | with_reducible refine iff_ ?_ | with_reducible refine ifnt ?_ | with_reducible refine ifnf ?_ | with_reducible refine rin_strs sq_c ?_ | with_reducible refine rni_strs sq_c ?_ | with_reducible refine rin_strs sq_t ?_ | with_reducible refine rni_strs sq_t ?_ | with_reducible refine rin_strs sq_l ?_ | with_reducible refine rni_strs sq_l ?_ | with_reducible refine rin_strs (sq_v rfl) ?_ | with_reducible refine rni_strs (sq_v rfl) ?_ | ((with_reducible refine rin_seq sq_c ?_ ?_ ?_); rfl; rfl) | ((with_reducible refine rin_seq sq_t ?_ ?_ ?_); rfl; rfl) | ((with_reducible refine rin_seq sq_l ?_ ?_ ?_); rfl; rfl) | ((with_reducible refine rin_seq (sq_v rfl) ?_ ?_ ?_); rfl; rfl) | ((with_reducible refine rni_seq sq_c ?_ ?_ ?_); rfl; rfl) | ((with_reducible refine rni_seq sq_t ?_ ?_ ?_); rfl; rfl) | ((with_reducible refine rni_seq sq_l ?_ ?_ ?_); rfl; rfl) | ((with_reducible refine rni_seq (sq_v rfl) ?_ ?_ ?_); rfl; rfl) | (with_reducible refine xix_tup ?_) | ((with_reducible refine xc_len ?_); refine ⟨_, sq_c, ?_⟩) | ((with_reducible refine xc_len ?_); refine ⟨_, sq_t, ?_⟩) | ((with_reducible refine xc_len ?_); refine ⟨_, sq_l, ?_⟩) | ((with_reducible refine xc_len ?_); refine ⟨_, (sq_v rfl), ?_⟩) | (with_reducible refine rm_count ?_) | (with_reducible refine ⟨_, rfl, ?_⟩) | (with_reducible refine ⟨_, .inl rfl, ?_⟩) | (with_reducible refine ⟨_, .inr rfl, ?_⟩) | (with_reducible refine ⟨_, _, rfl, ?_⟩) | ((with_reducible refine xix_lst ?_); refine ⟨_, rfl, _, rfl, ?_⟩) | ((with_reducible refine xadd_lst ?_); refine ⟨_, rfl, _, rfl, ?_, ?_⟩) | with_reducible refine rmul_int ?_ ?_ | with_reducible refine rmod_int ?_ ?_ | with_reducible refine rfdiv_int ?_ ?_ | with_reducible refine rpow_int ?_ ?_ | with_reducible refine xg_setL ?_ | refine ⟨_, _, _, _, rfl, rfl, rfl, rfl, ?_⟩ | with_reducible refine xg_name ?_ | with_reducible refine xg_tup rfl ?_ | with_reducible refine xgs_name ?_ | with_reducible refine xgs_nil ?_ | (with_reducible refine ⟨Nat.le_of_ble_eq_true rfl, ?_⟩) | fail))
section
variable {P : Program} {mg : Str → Option Value}
theorem cmps : COMPARISONS_L = CMPS := rfl
theorem dl_negation {K : Frag} (T : Tx K mg) {fe : List Tkn → PR} (hsuf : ∀ ts d r, fe ts = some (.ok (d, r)) → r <:+ ts) (n : Nat) :
    DL_Parser_negation K (spP K GT (pNeg fe n)) (spP K GT (pC (pNeg fe n))) (spP K GT fe) (spP K GT (pNeg fe (n + 1))) := by
  rintro ds γ q e E0 lo1 lo2 ⟨k, Ts, ts, rfl, hk, hs, hg, hr⟩
  refine dS_env (ρ' := [some (.loc k), none, none, none]) rfl ?_
  unfold t_Parser_negation
  cases ts with
  | nil => exact spRes_bad hr
  | cons t ts =>
  rw [pNeg_s] at hr
  walk_at "GO"
  refine ⟨po_meth (C := He.ga K "Parser") hk rfl, ?_⟩
  walk_at "GO"
  refine ⟨k, Ts, t, ts, [sNot], _, rfl, .inl rfl, hk, hs, ?_⟩
  have s1 : ts <:+ Ts := (List.suffix_cons _ _).trans hs
  cases hs1 : sees t [sNot] with
  | true =>
    rw [if_pos hs1] at hr
    walk_at "GO"
    refine ⟨po_meth (C := He.ga K "Parser") hk rfl, ?_⟩
    walk_at "GO"
    refine ⟨k, Ts, t, ts, rfl, hk, hs, ?_⟩
    walk_at "GO"
    refine ⟨po_meth (C := He.ga K "Parser") (set_get hk) rfl, ?_⟩
    walk_at "GO"
    refine ⟨k, Ts, ts, rfl, set_get hk, s1, trivial, ?_⟩
    cases h2 : pNeg fe n ts with
    | none => rw [h2] at hr; exact spRes_bad hr
    | some o =>
    rw [h2] at hr
    cases o with
    | error p => exact .inr ⟨p, rfl, fun ts' => .inl (by rw [set_set]; exact spRes_err hr ts')⟩
    | ok o =>
    obtain ⟨d2, r2⟩ := o
    refine .inl ⟨d2, r2, rfl, ?_⟩
    rw [set_set]
    walk_at "GO"
    exact .inl (spRes_ok hr)
  | false =>
  rw [if_neg (by rw [hs1]; decide)] at hr
  walk_at "GO"
  refine ⟨po_meth (C := He.ga K "Parser") hk rfl, ?_⟩
  walk_at "GO"
  refine ⟨k, Ts, t, ts, [[91]], _, rfl, .inl rfl, hk, hs, ?_⟩
  cases hs2 : sees t [[91]] with
  | true =>
    rw [if_pos hs2] at hr
    walk_at "GO"
    refine ⟨po_meth (C := He.ga K "Parser") hk rfl, ?_⟩
    walk_at "GO"
    refine ⟨k, Ts, t, ts, rfl, hk, hs, ?_⟩
    walk_at "GO"
    refine ⟨po_meth (C := He.ga K "Parser") (set_get hk) rfl, ?_⟩
    walk_at "GO"
    refine ⟨k, Ts, ts, rfl, set_get hk, s1, trivial, ?_⟩
    cases h2 : pC (pNeg fe n) ts with
    | none => rw [h2] at hr; exact spRes_bad hr
    | some o =>
    rw [h2] at hr
    cases o with
    | error p => exact .inr ⟨p, rfl, fun ts' => .inl (by rw [set_set]; exact spRes_err hr ts')⟩
    | ok o =>
    obtain ⟨d2, r2⟩ := o
    have s2 := (pL_suf (pL_suf (pNeg_suf hsuf n)) _ _ _ h2).trans s1
    refine .inl ⟨d2, r2, rfl, ?_⟩
    rw [set_set]
    walk_at "GO"
    refine ⟨po_meth (C := He.ga K "Parser") (set_get hk) rfl, ?_⟩
    walk_at "GO"
    replace hr : spRes K (pSign [[93]] d2 r2) k Ts γ q e := hr
    cases r2 with
    | nil => exact spRes_bad hr
    | cons t2 r3 =>
    replace hr : spRes K (if sees t2 [[93]] = true then some (.ok (d2, r3)) else some (.error t2.p) : PR) k Ts γ q e := hr
    refine ⟨k, Ts, t2, r3, [[93]], _, rfl, .inl rfl, set_get hk, s2, fun hs3 => ?_, fun hs3 => ?_⟩
    · rw [if_pos hs3] at hr
      rw [set_set]
      walk_at "GO"
      exact .inl (spRes_ok hr)
    · rw [if_neg (by rw [hs3]; decide)] at hr
      exact .inl (spRes_err hr _)
  | false =>
  rw [if_neg (by rw [hs2]; decide)] at hr
  walk_at "GO"
  refine ⟨po_meth (C := He.ga K "Parser") hk rfl, ?_⟩
  walk_at "GO"
  refine ⟨k, Ts, t :: ts, rfl, hk, hs, trivial, ?_⟩
  cases h2 : fe (t :: ts) with
  | none => rw [h2] at hr; exact spRes_bad hr
  | some o =>
  rw [h2] at hr
  cases o with
  | error p => exact .inr ⟨p, rfl, fun ts' => .inl (spRes_err hr ts')⟩
  | ok o =>
  obtain ⟨d2, r2⟩ := o
  have s2 := (hsuf _ _ _ h2).trans hs
  refine .inl ⟨d2, r2, rfl, ?_⟩
  replace hr : spRes K (pCmp fe d2 r2) k Ts γ q e := hr
  cases r2 with
  | nil => exact spRes_bad hr
  | cons t2 r3 =>
  rw [pCmp_s] at hr
  walk_at "GO"
  refine ⟨po_meth (C := He.ga K "Parser") (set_get hk) rfl, ?_⟩
  walk_at "GO"
  rw [cmps]
  refine ⟨k, Ts, t2, r3, CMPS, _, rfl, .inr rfl, set_get hk, s2, fun hs3 => ?_, fun hs3 => ?_⟩
  · rw [if_pos hs3] at hr
    rw [set_set]
    have s3 : r3 <:+ Ts := (List.suffix_cons _ _).trans s2
    walk_at "GO"
    refine ⟨po_meth (C := He.ga K "Parser") (set_get hk) rfl, ?_⟩
    walk_at "GO"
    refine ⟨k, Ts, r3, rfl, set_get hk, s3, trivial, ?_⟩
    cases h4 : fe r3 with
    | none => rw [h4] at hr; exact spRes_bad hr
    | some o =>
    rw [h4] at hr
    cases o with
    | error p => exact .inr ⟨p, rfl, fun ts' => .inl (by rw [set_set]; exact spRes_err hr ts')⟩
    | ok o =>
    obtain ⟨d4, r4⟩ := o
    refine .inl ⟨d4, r4, rfl, ?_⟩
    rw [set_set]
    walk_at "GO"
    exact .inl (spRes_ok hr)
  · rw [if_neg (by rw [hs3]; decide)] at hr
    exact .inl (spRes_err hr _)
theorem dl_parseC {K : Frag} (T : Tx K mg) {f : List Tkn → PR} (hf : sp_Parser_condition K = spP K GT f) (hsuf : ∀ ts d r, f ts = some (.ok (d, r)) → r <:+ ts) : DL_parse_condition K (spParse K GT f) := by
  rintro ds γ q e E0 lo1 lo2 ⟨l, rfl, hl, hg, hr⟩
  refine dS_env (ρ' := [some (.str (S l)), none]) rfl ?_
  unfold t_parse_condition
  rw [hf]
  walk_at "GO"
  refine de_make ?_
  walk_at "GO"
  refine ⟨γ.length, l, rfl, hl, get_app, rfl, ?_⟩
  rw [set_app]
  walk_at "GO"
  refine ⟨po_meth (C := He.ga K "Parser") get_app rfl, ?_⟩
  walk_at "GO"
  refine ⟨po_meth (C := He.ga K "Parser") get_app rfl, ?_⟩
  walk_at "GO"
  refine ⟨γ.length, toks l, toks l, rfl, get_app, List.suffix_refl _, hg, ?_⟩
  have hu : ∀ o, pAll f l = some o → (∃ d t r, f (toks l) = some (.ok (d, t :: r)) ∧ o = if t.k = .fin then .ok d else .error t.p) ∨ ∃ p, f (toks l) = some (.error p) ∧ o = .error p := by
    intro o h
    unfold pAll at h
    split at h
    · rename_i d t r h1
      refine .inl ⟨d, t, r, h1, ?_⟩
      by_cases c : t.k = .fin
      · rw [if_pos c] at h ⊢; cases h; rfl
      · rw [if_neg c] at h ⊢; cases h; rfl
    · rename_i p h1
      cases h
      exact .inr ⟨p, h1, rfl⟩
    · cases h
  rcases hr with ⟨d, ho, hd, hq⟩ | ⟨p, ho, he⟩
  · rcases hu _ ho with ⟨d', t, r, h1, h2⟩ | ⟨p, h1, h2⟩
    · by_cases c : t.k = .fin
      · rw [if_pos c] at h2
        cases h2
        refine .inl ⟨d, t :: r, h1, ?_⟩
        rw [set_app]
        walk_at "GO"
        exact ⟨γ.length, toks l, t, r, d, rfl, get_app, hsuf _ _ _ h1, fun _ => dr_keep lo1 (hd _) hq, fun c' => absurd c c'⟩
      · rw [if_neg c] at h2
        cases h2
    · cases h2
  · rcases hu _ ho with ⟨d', t, r, h1, h2⟩ | ⟨p, h1, h2⟩
    · by_cases c : t.k = .fin
      · rw [if_pos c] at h2
        cases h2
      · rw [if_neg c] at h2
        cases h2
        refine .inl ⟨d', t :: r, h1, ?_⟩
        rw [set_app]
        walk_at "GO"
        exact ⟨γ.length, toks l, t, r, d', rfl, get_app, hsuf _ _ _ h1, fun c' => absurd c' c, fun _ => drx_keep lo1 rfl he⟩
    · cases h2
      refine .inr ⟨p, h1, fun ts' => ?_⟩
      rw [set_app]
      exact drx_keep lo1 rfl he
end
end K09

set_option Elab.async false
set_option linter.all false
set_option maxRecDepth 100000
set_option maxHeartbeats 4000000
namespace K09
open PySem PySem.Spec PyProof.Rows L2 DL
local macro_rules | `(tactic| walk_at "GO") => `(tactic| repeat' (first | with_reducible refine xs_seq ?_ | with_reducible refine xs_set ?_ | with_reducible refine xs_asg ?_ | with_reducible refine xs_if ?_ | with_reducible refine xs_ret ?_ | with_reducible refine xs_next ?_ | with_reducible refine xs_expr ?_ | with_reducible refine xs_fld ?_ | with_reducible refine xs_par ?_ | with_reducible refine xs_retN ?_ | with_reducible refine xs_brk ?_ | with_reducible refine xp_nil ?_ | with_reducible refine xp_cons ?_ | with_reducible refine xe_disp ?_ | with_reducible refine xe_dispM ?_ | with_reducible refine xs_cont ?_ | with_reducible refine da_nil ?_ | with_reducible refine da_cons ?_ | with_reducible refine de_int ?_ | with_reducible refine de_str ?_ | with_reducible refine de_bl ?_ | with_reducible refine de_non ?_ | with_reducible refine de_ty ?_ | ((with_reducible refine xe_var ?_); refine ⟨_, rfl, ?_⟩) | with_reducible refine de_op ?_ | with_reducible refine de_un ?_ | with_reducible refine de_call ?_ | with_reducible refine de_cb ?_ | with_reducible refine de_sl ?_ | with_reducible refine do_none ?_ | with_reducible refine do_some ?_ | with_reducible refine de_if ?_ | with_reducible refine de_andV ?_ | with_reducible refine de_orV ?_ | with_reducible refine de_notV ?_ | with_reducible refine de_chain ?_ | with_reducible refine dt_test ?_ | with_reducible refine dt_B ?_ | with_reducible refine dt_and ?_ | with_reducible refine dt_or ?_ | with_reducible refine dt_not ?_ | (with_reducible refine xe_tup ?_) | (with_reducible refine xe_lst ?_) | (with_reducible refine xe_lstM ?_) | (with_reducible refine de_meth ?_) | with_reducible refine xs_dput ?_ | with_reducible refine xs_daug ?_ | with_reducible refine de_dget ?_ | with_reducible refine de_dgt1 ?_ | with_reducible refine de_dgt2 ?_ | with_reducible refine de_din ?_ | with_reducible refine de_dnotin ?_ | with_reducible refine de_dnewK ?_ | with_reducible refine de_dnewT ?_ | with_reducible refine de_revL ?_ | (with_reducible refine de_bm ?_) | (with_reducible refine de_bm0 ?_) | (with_reducible refine ⟨isTy_str, ?_⟩) | (with_reducible refine ⟨xty_lst ⟨_, rfl⟩, ?_⟩) | with_reducible refine radd_int ?_ | with_reducible refine radd_S ?_ ?_ | with_reducible refine rsub_int ?_ | with_reducible refine req_int ?_ | with_reducible refine rne_int ?_ | with_reducible refine req_S ?_ | with_reducible refine rne_S ?_ | with_reducible refine rlt_int ?_ | with_reducible refine rle_int ?_ | with_reducible refine rgt_int ?_ | with_reducible refine rge_int ?_ | with_reducible refine rneg_int ?_ | with_reducible refine rin_sgn ?_ | with_reducible refine rni_sgn ?_ | with_reducible refine rc_len_S ?_ ?_ | with_reducible refine rc_int_bl ?_ | with_reducible refine rc_str_int ?_ ?_ | with_reducible refine rc_str_str ?_ | with_reducible refine rc_max2 ?_ | with_reducible refine rc_abs ?_ | with_reducible refine req_bl ?_ | with_reducible refine rne_bl ?_ | with_reducible refine rltg_i ?_ | with_reducible refine rleg_i ?_ | with_reducible refine rgtg_i ?_ | with_reducible refine rgeg_i ?_ | with_reducible refine rltg_b ?_ | with_reducible refine rleg_b ?_ | with_reducible refine rgtg_b ?_ | with_reducible refine rgeg_b ?_ | with_reducible refine rist ?_ | with_reducible refine rntt ?_ | with_reducible refine dt_truth ?_ | ((with_reducible refine xc_isi ?_); refine ⟨_, true, rfl, rfl, ?_⟩) | ((with_reducible refine xc_isi ?_); refine ⟨_, false, rfl, rfl, ?_⟩) | with_reducible refine di_str ?_ | with_reducible refine di_list ?_ | with_reducible refine di_tup ?_ | with_reducible refine di_rng1 ?_ | with_reducible refine di_rng2 ?_ | with_reducible refine ift ?_ | with_reducible refine iff_ ?_ | with_reducible refine ifnt ?_ | with_reducible refine ifnf ?_ | with_reducible refine rin_strs sq_c ?_ | with_reducible refine rni_strs sq_c ?_ | with_reducible refine rin_strs sq_t ?_ | with_reducible refine rni_strs sq_t ?_ | with_reducible refine rin_strs sq_l ?_ | with_reducible refine rni_strs sq_l ?_ | with_reducible refine rin_strs (sq_v rfl) ?_ | with_reducible refine rni_strs (sq_v rfl) ?_ | ((with_reducible refine rin_seq sq_c ?_ ?_ ?_); rfl; rfl) | ((with_reducible refine rin_seq sq_t ?_ ?_ ?_); rfl; rfl) | ((with_reducible refine rin_seq sq_l ?_ ?_ ?_); rfl; rfl) | ((with_reducible refine rin_seq (sq_v rfl) ?_ ?_ ?_); rfl; rfl) | ((with_reducible refine rni_seq sq_c ?_ ?_ ?_); rfl; rfl) | ((with_reducible refine rni_seq sq_t ?_ ?_ ?_); rfl; rfl) | ((with_reducible refine rni_seq sq_l ?_ ?_ ?_); rfl; rfl) | ((with_reducible refine rni_seq (sq_v rfl) ?_ ?_ ?_); rfl; rfl) | (with_reducible refine xix_tup ?_) | ((with_reducible refine xc_len ?_); refine ⟨_, sq_c, ?_⟩) | ((with_reducible refine xc_len ?_); refine ⟨_, sq_t, ?_⟩) | ((with_reducible refine xc_len ?_); refine ⟨_, sq_l, ?_⟩) | ((with_reducible refine xc_len ?_); refine ⟨_, (sq_v rfl), ?_⟩) | (with_reducible refine rm_count ?_) | (with_reducible refine ⟨_, rfl, ?_⟩) | (with_reducible refine ⟨_, .inl rfl, ?_⟩) | (with_reducible refine ⟨_, .inr rfl, ?_⟩) | (with_reducible refine ⟨_, _, rfl, ?_⟩) | ((with_reducible refine xix_lst ?_); refine ⟨_, rfl, _, rfl, ?_⟩) | ((with_reducible refine xadd_lst ?_); refine ⟨_, rfl, _, rfl, ?_, ?_⟩) | with_reducible refine rmod_int ?_ ?_ | with_reducible refine rpow_int ?_ ?_ | with_reducible refine xg_setL ?_ | refine ⟨_, _, _, _, rfl, rfl, rfl, rfl, ?_⟩ | with_reducible refine xg_name ?_ | with_reducible refine xg_tup rfl ?_ | with_reducible refine xgs_name ?_ | with_reducible refine xgs_nil ?_ | (with_reducible refine ⟨Nat.le_of_ble_eq_true rfl, ?_⟩) | fail))
section
variable {P : Program} {mg : Str → Option Value}
theorem any_flat {d : D} (n : Nat) : d.any n = true → d.fz = d ∨ (∃ ds, d = .tup ds) ∨ ∃ ds, d = .lst ds := by
  intro h
  cases d <;> first | exact .inl rfl | exact .inr (.inl ⟨_, rfl⟩) | exact .inr (.inr ⟨_, rfl⟩)
theorem anyL_mem : ∀ {n : Nat} {ds : List D}, anyL (n + 1) ds = true → ∀ d ∈ ds, d.any n = true
  | n, [], _, d, h => by cases h
  | n, x :: xs, h, d, hd => by
    unfold anyL at h
    rw [Bool.and_eq_true] at h
    rcases List.mem_cons.mp hd with rfl | hd
    · exact h.1
    · exact anyL_mem h.2 d hd
theorem fzL_map : ∀ ds : List D, fzL ds = ds.map D.fz
  | [] => by unfold fzL; rfl
  | d :: ds => by
    unfold fzL
    rw [fzL_map ds]; rfl
theorem dl_frozen {K : Frag} (T : Tx K mg) (s : SpD) (n : Nat) (hrec : ∀ n', n = n' + 1 → ∀ ds γ q e, spFz K n' ds γ q e → s ds γ q e) : DL_frozen K s (spFz K n) := by
  rintro ds γ q e E0 lo1 lo2 ⟨d, rfl, ha, hq⟩
  refine dS_env (ρ' := [some d, none]) rfl ?_
  have seq : ∀ xs : List D, anyL n xs = true → xs.length ≤ 1000000 → d.fz = .tup (xs.map D.fz) → (d = .lst xs ∨ d = .tup xs) → tyName γ d = some "tuple" ∨ tyName γ d = some "list" → dS ⟨K, wOf E0, fun _ => DrX γ.length e⟩ γ.length (t_frozen K s (wOf E0)) [some d, none] γ ⟨fun _ γ' => Dr γ.length q .non γ', Dr γ.length q, fun _ _ => False, fun _ _ => False⟩ := by
    intro xs hxs hl hz hx ht
    unfold t_frozen
    have hb : ∃ T b, tyName γ d = some T ∧ PySem.W.kitAny K (.type T) (["tuple", "list"].map Value.type) = some b ∧ b = true := by
      rcases ht with ht | ht
      · exact ⟨_, _, ht, rfl, rfl⟩
      · exact ⟨_, _, ht, rfl, rfl⟩
    walk_at "GO"
    refine xc_isiT (ns := ["tuple", "list"]) ?_
    obtain ⟨T, b, h1, h2, rfl⟩ := hb
    refine ⟨T, _, h1, h2, ?_⟩
    walk_at "GO"
    refine xe_lcN xs id D.fz (by simp) ?_
    refine di_any rfl (hx.elim .inl fun h => .inr (.inl h)) ?_
    refine ⟨by simp, hl, fun x hm => ?_, ?_⟩
    · walk_at "GO"
      cases n with
      | zero =>
        cases xs with
        | nil => cases hm
        | cons a r => cases hxs
      | succ n => exact hrec n rfl _ _ _ _ ⟨x, rfl, anyL_mem hxs x hm, rfl, rfl⟩
    · walk_at "GO"
      refine rc_tuple (.inl rfl) ?_
      rw [← hz]
      exact .inl hq
  have oth : d.fz = d → (∃ T, tyName γ d = some T ∧ PySem.W.kitAny K (.type T) (["tuple", "list"].map Value.type) = some false) → dS ⟨K, wOf E0, fun _ => DrX γ.length e⟩ γ.length (t_frozen K s (wOf E0)) [some d, none] γ ⟨fun _ γ' => Dr γ.length q .non γ', Dr γ.length q, fun _ _ => False, fun _ _ => False⟩ := by
    rintro hz ⟨T, h1, h2⟩
    unfold t_frozen
    walk_at "GO"
    refine xc_isiT (ns := ["tuple", "list"]) ⟨T, _, h1, h2, ?_⟩
    walk_at "GO"
    rw [hz] at hq
    exact .inl hq
  cases d with
  | tup ds =>
    unfold D.any at ha
    rw [Bool.and_eq_true] at ha
    exact seq ds ha.2 (of_decide_eq_true ha.1) (by unfold D.fz; rw [fzL_map]) (.inr rfl) (.inl rfl)
  | lst ds =>
    unfold D.any at ha
    rw [Bool.and_eq_true] at ha
    exact seq ds ha.2 (of_decide_eq_true ha.1) (by unfold D.fz; rw [fzL_map]) (.inl rfl) (.inr rfl)
  | non => exact oth rfl ⟨_, rfl, rfl⟩
  | bl b => exact oth rfl ⟨_, rfl, rfl⟩
  | int b => exact oth rfl ⟨_, rfl, rfl⟩
  | str b => exact oth rfl ⟨_, rfl, rfl⟩
  | _ => cases ha
theorem natabs_big {z : Int} : (z.natAbs : Int) < BIG ↔ z.natAbs < BIG.natAbs := by
  have : (BIG : Int) = ((BIG.natAbs : Nat) : Int) := rfl
  omega
theorem dl_bounded {K : Frag} (T : Tx K mg) (X : Te P K mg) : DL_bounded K (sp_bounded K) := by
  rintro ds γ q e E0 lo1 lo2 ⟨z, rfl, hz, h1, h2⟩
  refine dS_env (ρ' := [some (.int z)]) rfl ?_
  unfold t_bounded
  have hB : BIG.natAbs = 1000000000000000000000000000000 := rfl
  walk_at "GO"
  refine ifd (fun c => ?_) (fun c => ?_)
  · refine ds_raise X.x_Fault.oex ?_
    walk_at "GO"
    refine ⟨rfl, by decide, by decide, [.str (S sOverflow)], ⟨frz1_str, trivial⟩, .inl (h2 _ ?_)⟩
    unfold bnd
    rw [if_neg (by omega)]
  · walk_at "GO"
    refine .inl (h1 _ ?_)
    unfold bnd
    rw [if_pos (by omega)]
end
end K09

set_option Elab.async false
set_option linter.all false
set_option maxRecDepth 100000
set_option maxHeartbeats 4000000
namespace K09
open PySem PySem.Spec PyProof.Rows L2 DL
local macro_rules | `(tactic| walk_at "GO") => `(tactic| repeat' (first | with_reducible refine xs_seq ?_ | with_reducible refine xs_set ?_ | with_reducible refine xs_asg ?_ | with_reducible refine xs_if ?_ | with_reducible refine xs_ret ?_ | with_reducible refine xs_next ?_ | with_reducible refine xs_expr ?_ | with_reducible refine xs_fld ?_ | with_reducible refine xs_par ?_ | with_reducible refine xs_retN ?_ | with_reducible refine xs_brk ?_ | with_reducible refine xp_nil ?_ | with_reducible refine xp_cons ?_ | with_reducible refine xe_disp ?_ | with_reducible refine xe_dispM ?_ | with_reducible refine xs_cont ?_ | with_reducible refine da_nil ?_ | with_reducible refine da_cons ?_ | with_reducible refine de_int ?_ | with_reducible refine de_str ?_ | with_reducible refine de_bl ?_ | with_reducible refine de_non ?_ | with_reducible refine de_ty ?_ | ((with_reducible refine xe_var ?_); refine ⟨_, rfl, ?_⟩) | with_reducible refine de_op ?_ | with_reducible refine de_un ?_ | with_reducible refine de_call ?_ | with_reducible refine de_cb ?_ | with_reducible refine de_sl ?_ | with_reducible refine do_none ?_ | with_reducible refine do_some ?_ | with_reducible refine de_if ?_ | with_reducible refine de_andV ?_ | with_reducible refine de_orV ?_ | with_reducible refine de_notV ?_ | with_reducible refine de_chain ?_ | with_reducible refine dt_test ?_ | with_reducible refine dt_B ?_ | with_reducible refine dt_and ?_ | with_reducible refine dt_or ?_ | with_reducible refine dt_not ?_ | (with_reducible refine xe_tup ?_) | (with_reducible refine xe_lst ?_) | (with_reducible refine xe_lstM ?_) | (with_reducible refine de_meth ?_) | with_reducible refine xs_dput ?_ | with_reducible refine xs_daug ?_ | with_reducible refine de_dget ?_ | with_reducible refine de_dgt1 ?_ | with_reducible refine de_dgt2 ?_ | with_reducible refine de_din ?_ | with_reducible refine de_dnotin ?_ | with_reducible refine de_dnewK ?_ | with_reducible refine de_dnewT ?_ | with_reducible refine de_revL ?_ | (with_reducible refine de_bm ?_) | (with_reducible refine de_bm0 ?_) | (with_reducible refine ⟨isTy_str, ?_⟩) | (with_reducible refine ⟨xty_lst ⟨_, rfl⟩, ?_⟩) | with_reducible refine radd_int ?_ | with_reducible refine radd_S ?_ ?_ | with_reducible refine rsub_int ?_ | with_reducible refine req_int ?_ | with_reducible refine rne_int ?_ | with_reducible refine req_S ?_ | with_reducible refine rne_S ?_ | with_reducible refine rlt_int ?_ | with_reducible refine rle_int ?_ | with_reducible refine rgt_int ?_ | with_reducible refine rge_int ?_ | with_reducible refine rneg_int ?_ | with_reducible refine rin_sgn ?_ | with_reducible refine rni_sgn ?_ | with_reducible refine rc_len_S ?_ ?_ | with_reducible refine rc_int_bl ?_ | with_reducible refine rc_str_int ?_ ?_ | with_reducible refine rc_str_str ?_ | with_reducible refine rc_max2 ?_ | with_reducible refine rc_abs ?_ | with_reducible refine req_bl ?_ | with_reducible refine rne_bl ?_ | with_reducible refine rltg_i ?_ | with_reducible refine rleg_i ?_ | with_reducible refine rgtg_i ?_ | with_reducible refine rgeg_i ?_ | with_reducible refine rltg_b ?_ | with_reducible refine rleg_b ?_ | with_reducible refine rgtg_b ?_ | with_reducible refine rgeg_b ?_ | with_reducible refine rist ?_ | with_reducible refine rntt ?_ | with_reducible refine dt_truth ?_ | ((with_reducible refine xc_isi ?_); refine ⟨_, true, rfl, rfl, ?_⟩) | ((with_reducible refine xc_isi ?_); refine ⟨_, false, rfl, rfl, ?_⟩) | with_reducible refine di_str ?_ | with_reducible refine di_list ?_ | with_reducible refine di_tup ?_ | with_reducible refine di_rng1 ?_ | with_reducible refine di_rng2 ?_ | with_reducible refine ift ?_ | with_reducible refine iff_ ?_ | with_reducible refine ifnt ?_ | with_reducible refine ifnf ?_ | with_reducible refine rin_strs sq_c ?_ | with_reducible refine rni_strs sq_c ?_ | with_reducible refine rin_strs sq_t ?_ | with_reducible refine rni_strs sq_t ?_ | with_reducible refine rin_strs sq_l ?_ | with_reducible refine rni_strs sq_l ?_ | with_reducible refine rin_strs (sq_v rfl) ?_ | with_reducible refine rni_strs (sq_v rfl) ?_ | ((with_reducible refine rin_seq sq_c ?_ ?_ ?_); rfl; rfl) | ((with_reducible refine rin_seq sq_t ?_ ?_ ?_); rfl; rfl) | ((with_reducible refine rin_seq sq_l ?_ ?_ ?_); rfl; rfl) | ((with_reducible refine rin_seq (sq_v rfl) ?_ ?_ ?_); rfl; rfl) | ((with_reducible refine rni_seq sq_c ?_ ?_ ?_); rfl; rfl) | ((with_reducible refine rni_seq sq_t ?_ ?_ ?_); rfl; rfl) | ((with_reducible refine rni_seq sq_l ?_ ?_ ?_); rfl; rfl) | ((with_reducible refine rni_seq (sq_v rfl) ?_ ?_ ?_); rfl; rfl) | (with_reducible refine xix_tup ?_) | ((with_reducible refine xc_len ?_); refine ⟨_, sq_c, ?_⟩) | ((with_reducible refine xc_len ?_); refine ⟨_, sq_t, ?_⟩) | ((with_reducible refine xc_len ?_); refine ⟨_, sq_l, ?_⟩) | ((with_reducible refine xc_len ?_); refine ⟨_, (sq_v rfl), ?_⟩) | (with_reducible refine rm_count ?_) | (with_reducible refine ⟨_, rfl, ?_⟩) | (with_reducible refine ⟨_, .inl rfl, ?_⟩) | (with_reducible refine ⟨_, .inr rfl, ?_⟩) | (with_reducible refine ⟨_, _, rfl, ?_⟩) | ((with_reducible refine xix_lst ?_); refine ⟨_, rfl, _, rfl, ?_⟩) | ((with_reducible refine xadd_lst ?_); refine ⟨_, rfl, _, rfl, ?_, ?_⟩) | with_reducible refine rmod_int ?_ ?_ | with_reducible refine rpow_int ?_ ?_ | with_reducible refine xg_setL ?_ | refine ⟨_, _, _, _, rfl, rfl, rfl, rfl, ?_⟩ | with_reducible refine xg_name ?_ | with_reducible refine xg_tup rfl ?_ | with_reducible refine xgs_name ?_ | with_reducible refine xgs_nil ?_ | (with_reducible refine ⟨Nat.le_of_ble_eq_true rfl, ?_⟩) | (with_reducible refine ifdT (by decide) ?_) | (with_reducible refine ifdF (by decide) ?_) | (with_reducible refine ifnT (by decide) ?_) | (with_reducible refine ifnF (by decide) ?_) | (with_reducible refine ifbT (by decide) ?_) | (with_reducible refine ifbF (by decide) ?_) | fail))
section
variable {P : Program} {mg : Str → Option Value}
theorem big_log {x : Int} (h : x.natAbs < BIG.natAbs) : x.natAbs.log2 < 100 := by
  by_cases h0 : x.natAbs = 0
  · rw [h0]; decide
  · refine (Nat.log2_lt h0).mpr (Nat.lt_of_lt_of_le h ?_)
    decide
theorem big_mul {x y : Int} (hx : x.natAbs < BIG.natAbs) (hy : y.natAbs < BIG.natAbs) : (x * y).natAbs < 2 ^ 300 := by
  rw [Int.natAbs_mul]
  have h1 : x.natAbs * y.natAbs ≤ BIG.natAbs * BIG.natAbs := Nat.mul_le_mul (Nat.le_of_lt hx) (Nat.le_of_lt hy)
  have h2 : BIG.natAbs * BIG.natAbs < 2 ^ 300 := by decide
  omega
theorem big_add {x y : Int} (hx : x.natAbs < BIG.natAbs) (hy : y.natAbs < BIG.natAbs) : (x + y).natAbs < 2 ^ 300 ∧ (x - y).natAbs < 2 ^ 300 := by
  have h2 : BIG.natAbs + BIG.natAbs < 2 ^ 300 := by decide
  omega
theorem ops_in {o : List Nat} (h : o ∈ OPS) : o = [43] ∨ o = [45] ∨ o = [42] ∨ o = [47, 47] ∨ o = [109, 111, 100] := by
  unfold OPS at h
  simpa using h
theorem dl_calculated {K : Frag} (T : Tx K mg) (X : Te P K mg) : DL_calculated K (sp_calculated K) := by
  rintro ds γ q e E0 lo1 lo2 ⟨o, x, y, rfl, ho, hx, hy, h1, h2⟩
  refine dS_env (ρ' := [some (.str (S o)), some (.int x), some (.int y)]) rfl ?_
  unfold t_calculated
  have lx := big_log hx
  have ly := big_log hy
  have ba := big_add hx hy
  have bm := big_mul hx hy
  rcases ops_in ho with rfl | rfl | rfl | rfl | rfl
  · walk_at "GO"
    exact ⟨_, rfl, ba.1, fun d h => .inl (h1 d h), fun r h => .inl (h2 r h)⟩
  · walk_at "GO"
    exact ⟨_, rfl, ba.2, fun d h => .inl (h1 d h), fun r h => .inl (h2 r h)⟩
  · walk_at "GO"
    refine rmul_wide (show x.natAbs.log2 + y.natAbs.log2 < 1000000 by omega) ?_
    walk_at "GO"
    exact ⟨_, rfl, bm, fun d h => .inl (h1 d h), fun r h => .inl (h2 r h)⟩
  · walk_at "GO"
    refine ifd (fun c => ?_) (fun c => ?_)
    · refine ds_raise X.x_Fault.oex ?_
      walk_at "GO"
      refine ⟨rfl, by decide, by decide, [.str (S sDivision)], ⟨frz1_str, trivial⟩, .inl (h2 _ ?_)⟩
      subst c
      rfl
    · walk_at "GO"
      refine rfdiv_wide ⟨c, by omega⟩ (.inl (h1 _ ?_))
      unfold cal
      rw [if_neg (by decide), if_neg (by decide), if_neg (by decide), if_neg c, if_pos rfl]
  · walk_at "GO"
    refine ifd (fun c => ?_) (fun c => ?_)
    · refine ds_raise X.x_Fault.oex ?_
      walk_at "GO"
      refine ⟨rfl, by decide, by decide, [.str (S sDivision)], ⟨frz1_str, trivial⟩, .inl (h2 _ ?_)⟩
      subst c
      rfl
    · walk_at "GO"
      · exact c
      refine .inl (h1 _ ?_)
      unfold cal
      rw [if_neg (by decide), if_neg (by decide), if_neg (by decide), if_neg c, if_neg (by decide)]
theorem cmps_in {o : List Nat} (h : o ∈ CMPS) : o = [61] ∨ o = [33, 61] ∨ o = [60] ∨ o = [60, 61] ∨ o = [62] ∨ o = [62, 61] := by
  unfold CMPS at h
  simpa using h
theorem dl_compared {K : Frag} (T : Tx K mg) : DL_compared K (sp_compared K) := by
  rintro ds γ q e E0 lo1 lo2 ⟨o, x, y, rfl, ho, hx, hy, hq⟩
  refine dS_env (ρ' := [some (.str (S o)), some (.int x), some (.int y)]) rfl ?_
  unfold t_compared
  rcases cmps_in ho with rfl | rfl | rfl | rfl | rfl | rfl
  · walk_at "GO"
    have e1 : decide (decide (x = y) = decide (([61] : List Nat) = [61])) = cmpD [61] x y := by
      show _ = decide (x = y)
      by_cases h : x = y <;> simp [h] <;> omega
    rw [e1]
    exact .inl hq
  · walk_at "GO"
    have e1 : decide (decide (x = y) = decide (([33, 61] : List Nat) = [61])) = cmpD [33, 61] x y := by
      show _ = decide (x ≠ y)
      by_cases h : x = y <;> simp [h] <;> omega
    rw [e1]
    exact .inl hq
  · walk_at "GO"
    have e1 : decide (decide (x < y) = decide (([60] : List Nat) = [60])) = cmpD [60] x y := by
      show _ = decide (x < y)
      by_cases h : x < y <;> simp [h] <;> omega
    rw [e1]
    exact .inl hq
  · walk_at "GO"
    have e1 : decide (decide (y < x) = decide (([60, 61] : List Nat) = [62])) = cmpD [60, 61] x y := by
      show _ = decide (x ≤ y)
      by_cases h : y < x <;> simp [h] <;> omega
    rw [e1]
    exact .inl hq
  · walk_at "GO"
    have e1 : decide (decide (y < x) = decide (([62] : List Nat) = [62])) = cmpD [62] x y := by
      show _ = decide (x > y)
      by_cases h : y < x <;> simp [h] <;> omega
    rw [e1]
    exact .inl hq
  · walk_at "GO"
    have e1 : decide (decide (x < y) = decide (([62, 61] : List Nat) = [60])) = cmpD [62, 61] x y := by
      show _ = decide (x ≥ y)
      by_cases h : x < y <;> simp [h] <;> omega
    rw [e1]
    exact .inl hq
end
end K09

set_option Elab.async false
set_option linter.all false
set_option maxRecDepth 100000
set_option maxHeartbeats 4000000
namespace K09
open PySem PySem.Spec PyProof.Rows L2 DL
local macro_rules | `(tactic| walk_at "GO") => `(tactic| repeat' (first | with_reducible refine xs_seq ?_ | with_reducible refine xs_set ?_ | with_reducible refine xs_asg ?_ | with_reducible refine xs_if ?_ | with_reducible refine xs_ret ?_ | with_reducible refine xs_next ?_ | with_reducible refine xs_expr ?_ | with_reducible refine xs_fld ?_ | with_reducible refine xs_par ?_ | with_reducible refine xs_retN ?_ | with_reducible refine xs_brk ?_ | with_reducible refine xp_nil ?_ | with_reducible refine xp_cons ?_ | with_reducible refine xe_disp ?_ | with_reducible refine xe_dispM ?_ | with_reducible refine xs_cont ?_ | with_reducible refine da_nil ?_ | with_reducible refine da_cons ?_ | with_reducible refine de_int ?_ | with_reducible refine de_str ?_ | with_reducible refine de_bl ?_ | with_reducible refine de_non ?_ | with_reducible refine de_ty ?_ | ((with_reducible refine xe_var ?_); refine ⟨_, rfl, ?_⟩) | with_reducible refine de_op ?_ | with_reducible refine de_un ?_ | with_reducible refine de_call ?_ | with_reducible refine de_cb ?_ | with_reducible refine de_sl ?_ | with_reducible refine do_none ?_ | with_reducible refine do_some ?_ | with_reducible refine de_if ?_ | with_reducible refine de_andV ?_ | with_reducible refine de_orV ?_ | with_reducible refine de_notV ?_ | with_reducible refine de_chain ?_ | with_reducible refine dt_test ?_ | with_reducible refine dt_B ?_ | with_reducible refine dt_and ?_ | with_reducible refine dt_or ?_ | with_reducible refine dt_not ?_ | (with_reducible refine xe_tup ?_) | (with_reducible refine xe_lst ?_) | (with_reducible refine xe_lstM ?_) | (with_reducible refine de_meth ?_) | with_reducible refine xs_dput ?_ | with_reducible refine xs_daug ?_ | with_reducible refine de_dget ?_ | with_reducible refine de_dgt1 ?_ | with_reducible refine de_dgt2 ?_ | with_reducible refine de_din ?_ | with_reducible refine de_dnotin ?_ | with_reducible refine de_dnewK ?_ | with_reducible refine de_dnewT ?_ | with_reducible refine de_revL ?_ | (with_reducible refine de_bm ?_) | (with_reducible refine de_bm0 ?_) | (with_reducible refine ⟨isTy_str, ?_⟩) | (with_reducible refine ⟨xty_lst ⟨_, rfl⟩, ?_⟩) | with_reducible refine radd_int ?_ | with_reducible refine radd_S ?_ ?_ | with_reducible refine rsub_int ?_ | with_reducible refine req_int ?_ | with_reducible refine rne_int ?_ | with_reducible refine req_S ?_ | with_reducible refine rne_S ?_ | with_reducible refine rlt_int ?_ | with_reducible refine rle_int ?_ | with_reducible refine rgt_int ?_ | with_reducible refine rge_int ?_ | with_reducible refine rneg_int ?_ | with_reducible refine rin_sgn ?_ | with_reducible refine rni_sgn ?_ | with_reducible refine rc_len_S ?_ ?_ | with_reducible refine rc_int_bl ?_ | with_reducible refine rc_str_int ?_ ?_ | with_reducible refine rc_str_str ?_ | with_reducible refine rc_max2 ?_ | with_reducible refine rc_abs ?_ | with_reducible refine req_bl ?_ | with_reducible refine rne_bl ?_ | with_reducible refine rltg_i ?_ | with_reducible refine rleg_i ?_ | with_reducible refine rgtg_i ?_ | with_reducible refine rgeg_i ?_ | with_reducible refine rltg_b ?_ | with_reducible refine rleg_b ?_ | with_reducible refine rgtg_b ?_ | with_reducible refine rgeg_b ?_ | with_reducible refine rist ?_ | with_reducible refine rntt ?_ | with_reducible refine dt_truth ?_ | ((with_reducible refine xc_isi ?_); refine ⟨_, true, rfl, rfl, ?_⟩) | ((with_reducible refine xc_isi ?_); refine ⟨_, false, rfl, rfl, ?_⟩) | with_reducible refine di_str ?_ | with_reducible refine di_list ?_ | with_reducible refine di_tup ?_ | with_reducible refine di_rng1 ?_ | with_reducible refine di_rng2 ?_ | with_reducible refine ift ?_ | with_reducible refine iff_ ?_ | with_reducible refine ifnt ?_ | with_reducible refine ifnf ?_ | with_reducible refine rin_strs sq_c ?_ | with_reducible refine rni_strs sq_c ?_ | with_reducible refine rin_strs sq_t ?_ | with_reducible refine rni_strs sq_t ?_ | with_reducible refine rin_strs sq_l ?_ | with_reducible refine rni_strs sq_l ?_ | with_reducible refine rin_strs (sq_v rfl) ?_ | with_reducible refine rni_strs (sq_v rfl) ?_ | ((with_reducible refine rin_seq sq_c ?_ ?_ ?_); rfl; rfl) | ((with_reducible refine rin_seq sq_t ?_ ?_ ?_); rfl; rfl) | ((with_reducible refine rin_seq sq_l ?_ ?_ ?_); rfl; rfl) | ((with_reducible refine rin_seq (sq_v rfl) ?_ ?_ ?_); rfl; rfl) | ((with_reducible refine rni_seq sq_c ?_ ?_ ?_); rfl; rfl) | ((with_reducible refine rni_seq sq_t ?_ ?_ ?_); rfl; rfl) | ((with_reducible refine rni_seq sq_l ?_ ?_ ?_); rfl; rfl) | ((with_reducible refine rni_seq (sq_v rfl) ?_ ?_ ?_); rfl; rfl) | (with_reducible refine xix_tup ?_) | ((with_reducible refine xc_len ?_); refine ⟨_, sq_c, ?_⟩) | ((with_reducible refine xc_len ?_); refine ⟨_, sq_t, ?_⟩) | ((with_reducible refine xc_len ?_); refine ⟨_, sq_l, ?_⟩) | ((with_reducible refine xc_len ?_); refine ⟨_, (sq_v rfl), ?_⟩) | (with_reducible refine rm_count ?_) | (with_reducible refine ⟨_, rfl, ?_⟩) | (with_reducible refine ⟨_, .inl rfl, ?_⟩) | (with_reducible refine ⟨_, .inr rfl, ?_⟩) | (with_reducible refine ⟨_, _, rfl, ?_⟩) | ((with_reducible refine xix_lst ?_); refine ⟨_, rfl, _, rfl, ?_⟩) | ((with_reducible refine xadd_lst ?_); refine ⟨_, rfl, _, rfl, ?_, ?_⟩) | with_reducible refine rmul_int ?_ ?_ | with_reducible refine rmod_int ?_ ?_ | with_reducible refine rfdiv_int ?_ ?_ | with_reducible refine rpow_int ?_ ?_ | with_reducible refine xg_setL ?_ | refine ⟨_, _, _, _, rfl, rfl, rfl, rfl, ?_⟩ | with_reducible refine xg_name ?_ | with_reducible refine xg_tup rfl ?_ | with_reducible refine xgs_name ?_ | with_reducible refine xgs_nil ?_ | (with_reducible refine ⟨Nat.le_of_ble_eq_true rfl, ?_⟩) | fail))
theorem Strm.mono {n m : Nat} {A B : MO} (h : Strm n A B) (l : m ≤ n) : Strm m A B := by
  obtain ⟨cs, c, t, x, h1, h2, h3, h4, h5, h6⟩ := h
  exact ⟨cs, c, t, x, h1, h2, h3, h4, by omega, h6⟩
section
variable {K : Frag} {mg : Str → Option Value} {ρ : DL.Env} {γ : Ga} {Q : QD}
theorem fmod_range {a b : Int} (hb : 0 < b) : 0 ≤ a.fmod b ∧ a.fmod b < b := ⟨Int.fmod_nonneg_of_pos a hb, Int.fmod_lt_of_pos a hb⟩
/-- the walk behind the taking of a number -/
theorem dl_L_draw (T : Tx K mg) : DL_L_draw K (sp_L_draw K) := by
  rintro ds γ q e E0 lo1 lo2 ⟨n, m, A, B, rest, rfl, hm, hm2, rfl, ⟨cs, c, t, x, rfl, rfl, hc, ht, htn, hx0, hx1⟩, hq⟩
  refine dS_env (ρ' := [some (.loc 1), some (.int m), none, none]) rfl ?_
  unfold t_L_draw
  have htn' : t + 1 + n ≤ 2 ^ 20 := by push_cast at htn; omega
  refine xs_cut (fun ρ' γ' => ρ' = [some (.loc 1), some (.int m), none, none] ∧ γ' = MO.lst (cs.map D.int) :: MO.lst [.loc 0, .int c, .int (t + 1), .int x] :: rest) ?_ ?_
  · walk_at "GO"
    exact ⟨rfl, rfl⟩
  rintro ρ' γ' ⟨rfl, rfl⟩
  refine xs_cut (fun ρ' γ' => ρ' = [some (.loc 1), some (.int m), none, none] ∧ ∃ (cs : List Int) (c x : Int), 0 ≤ c ∧ 0 ≤ x ∧ x < 2 ^ 31 ∧ γ' = MO.lst (cs.map D.int) :: MO.lst [.loc 0, .int c, .int (t + 1), .int x] :: rest) ?_ ?_
  · walk_at "GO"
    refine ifd (fun c1 => ?_) (fun c1 => ?_)
    · walk_at "GO"
      refine rne_nil rfl ?_
      cases cs with
      | nil =>
        walk_at "GO"
        refine ifd (fun c => absurd rfl c) (fun _ => ?_)
        walk_at "GO"
        exact ⟨rfl, [], c, x, hc, hx0, hx1, rfl⟩
      | cons d cs =>
        walk_at "GO"
        refine ifd (fun _ => ?_) (fun c => absurd (by simp) c)
        walk_at "GO"
        refine rm_pop0 rfl ?_
        walk_at "GO"
        · exact ⟨by decide, by decide, by decide⟩
        refine ifd (fun c2 => ?_) (fun c2 => ?_)
        · walk_at "GO"
          · exact .inr (by decide)
          · decide
          obtain ⟨h1, h2⟩ := @fmod_range (x * 31 + d + 7) 2147483647 (by decide)
          exact ⟨rfl, cs, 0, _, by decide, h1, by omega, rfl⟩
        · walk_at "GO"
          refine ⟨rfl, cs, d, x, ?_, hx0, hx1, rfl⟩
          have : (10 : Int) ^ 18 ≤ d := by simpa using c2
          omega
    · walk_at "GO"
      exact ⟨rfl, cs, c, x, hc, hx0, hx1, rfl⟩
  · rintro ρ' γ' ⟨rfl, cs, c, x, h1, h2, h3, rfl⟩
    walk_at "GO"
    refine ifd (fun c1 => ?_) (fun c1 => ?_)
    · walk_at "GO"
      · omega
      · exact ⟨by omega, by omega⟩
      obtain ⟨h4, h5⟩ := @fmod_range c m hm
      refine .inl (hq _ _ _ h4 h5 ⟨cs, c.fdiv m, t + 1, x, rfl, rfl, ?_, by omega, by omega, h2, h3⟩)
      exact Int.fdiv_nonneg h1 (by omega)
    · walk_at "GO"
      · exact .inl (by decide)
      · refine ⟨by decide, by decide, ?_⟩
        have : (0 : Int) ≤ x + 104729 * (t + 1) + 17 := by omega
        omega
      · decide
      · exact .inr (by decide)
      · exact .inl (by decide)
      · refine .inl ⟨by omega, by omega⟩
      · refine ⟨by decide, by decide, ?_⟩
        obtain ⟨h4, h5⟩ := @fmod_range ((x + 104729 * (t + 1) + 17) ^ (5 : Int).toNat) 2147483629 (by decide)
        generalize ((x + 104729 * (t + 1) + 17) ^ (5 : Int).toNat).fmod 2147483629 = y at *
        have h6 : 40503 * (t + 1) * (t + 1) ≤ 40503 * (2 ^ 20) * (2 ^ 20) := by
          have a1 : 40503 * (t + 1) ≤ 40503 * 2 ^ 20 := by omega
          exact Int.mul_le_mul a1 (by omega) (by omega) (by decide)
        have h7 : 0 ≤ 40503 * (t + 1) * (t + 1) := Int.mul_nonneg (by omega) (by omega)
        generalize 40503 * (t + 1) * (t + 1) = z at *
        omega
      · decide
      · omega
      refine .inl (hq _ _ _ ?_ ?_ ⟨cs, c, t + 1, x, rfl, rfl, h1, by omega, by omega, h2, h3⟩)
      · exact (fmod_range hm).1
      · exact (fmod_range hm).2
end
end K09

set_option Elab.async false
set_option linter.all false
set_option maxRecDepth 100000
set_option maxHeartbeats 4000000
namespace K09
open PySem PySem.Spec PyProof.Rows L2 DL
local macro_rules | `(tactic| walk_at "GO") => `(tactic| repeat' (first | with_reducible refine xs_seq ?_ | with_reducible refine xs_set ?_ | with_reducible refine xs_asg ?_ | with_reducible refine xs_if ?_ | with_reducible refine xs_ret ?_ | with_reducible refine xs_next ?_ | with_reducible refine xs_expr ?_ | with_reducible refine xs_fld ?_ | with_reducible refine xs_par ?_ | with_reducible refine xs_retN ?_ | with_reducible refine xs_brk ?_ | with_reducible refine xp_nil ?_ | with_reducible refine xp_cons ?_ | with_reducible refine xe_disp ?_ | with_reducible refine xe_dispM ?_ | with_reducible refine xs_cont ?_ | with_reducible refine da_nil ?_ | with_reducible refine da_cons ?_ | with_reducible refine de_int ?_ | with_reducible refine de_str ?_ | with_reducible refine de_bl ?_ | with_reducible refine de_non ?_ | with_reducible refine de_ty ?_ | ((with_reducible refine xe_var ?_); refine ⟨_, rfl, ?_⟩) | with_reducible refine de_op ?_ | with_reducible refine de_un ?_ | with_reducible refine de_call ?_ | with_reducible refine de_cb ?_ | with_reducible refine de_sl ?_ | with_reducible refine do_none ?_ | with_reducible refine do_some ?_ | with_reducible refine de_if ?_ | with_reducible refine de_andV ?_ | with_reducible refine de_orV ?_ | with_reducible refine de_notV ?_ | with_reducible refine de_chain ?_ | with_reducible refine dt_test ?_ | with_reducible refine dt_B ?_ | with_reducible refine dt_and ?_ | with_reducible refine dt_or ?_ | with_reducible refine dt_not ?_ | (with_reducible refine xe_tup ?_) | (with_reducible refine xe_lst ?_) | (with_reducible refine xe_lstM ?_) | (with_reducible refine de_meth ?_) | with_reducible refine xs_dput ?_ | with_reducible refine xs_daug ?_ | with_reducible refine de_dget ?_ | with_reducible refine de_dgt1 ?_ | with_reducible refine de_dgt2 ?_ | with_reducible refine de_din ?_ | with_reducible refine de_dnotin ?_ | with_reducible refine de_dnewK ?_ | with_reducible refine de_dnewT ?_ | with_reducible refine de_revL ?_ | (with_reducible refine de_bm ?_) | (with_reducible refine de_bm0 ?_) | (with_reducible refine ⟨isTy_str, ?_⟩) | (with_reducible refine ⟨xty_lst ⟨_, rfl⟩, ?_⟩) | with_reducible refine radd_int ?_ | with_reducible refine radd_S ?_ ?_ | with_reducible refine rsub_int ?_ | with_reducible refine req_int ?_ | with_reducible refine rne_int ?_ | with_reducible refine req_S ?_ | with_reducible refine rne_S ?_ | with_reducible refine rlt_int ?_ | with_reducible refine rle_int ?_ | with_reducible refine rgt_int ?_ | with_reducible refine rge_int ?_ | with_reducible refine rneg_int ?_ | with_reducible refine rin_sgn ?_ | with_reducible refine rni_sgn ?_ | with_reducible refine rc_len_S ?_ ?_ | with_reducible refine rc_int_bl ?_ | with_reducible refine rc_str_int ?_ ?_ | with_reducible refine rc_str_str ?_ | with_reducible refine rc_max2 ?_ | with_reducible refine rc_abs ?_ | with_reducible refine req_bl ?_ | with_reducible refine rne_bl ?_ | with_reducible refine rltg_i ?_ | with_reducible refine rleg_i ?_ | with_reducible refine rgtg_i ?_ | with_reducible refine rgeg_i ?_ | with_reducible refine rltg_b ?_ | with_reducible refine rleg_b ?_ | with_reducible refine rgtg_b ?_ | with_reducible refine rgeg_b ?_ | with_reducible refine rist ?_ | with_reducible refine rntt ?_ | with_reducible refine dt_truth ?_ | ((with_reducible refine xc_isi ?_); refine ⟨_, true, rfl, rfl, ?_⟩) | ((with_reducible refine xc_isi ?_); refine ⟨_, false, rfl, rfl, ?_⟩) | with_reducible refine di_str ?_ | with_reducible refine di_list ?_ | with_reducible refine di_tup ?_ | with_reducible refine di_rng1 ?_ | with_reducible refine di_rng2 ?_ | with_reducible refine ift ?_ | with_reducible refine iff_ ?_ | with_reducible refine ifnt ?_ | with_reducible refine ifnf ?_ | with_reducible refine rin_strs sq_c ?_ | with_reducible refine rni_strs sq_c ?_ | with_reducible refine rin_strs sq_t ?_ | with_reducible refine rni_strs sq_t ?_ | with_reducible refine rin_strs sq_l ?_ | with_reducible refine rni_strs sq_l ?_ | with_reducible refine rin_strs (sq_v rfl) ?_ | with_reducible refine rni_strs (sq_v rfl) ?_ | ((with_reducible refine rin_seq sq_c ?_ ?_ ?_); rfl; rfl) | ((with_reducible refine rin_seq sq_t ?_ ?_ ?_); rfl; rfl) | ((with_reducible refine rin_seq sq_l ?_ ?_ ?_); rfl; rfl) | ((with_reducible refine rin_seq (sq_v rfl) ?_ ?_ ?_); rfl; rfl) | ((with_reducible refine rni_seq sq_c ?_ ?_ ?_); rfl; rfl) | ((with_reducible refine rni_seq sq_t ?_ ?_ ?_); rfl; rfl) | ((with_reducible refine rni_seq sq_l ?_ ?_ ?_); rfl; rfl) | ((with_reducible refine rni_seq (sq_v rfl) ?_ ?_ ?_); rfl; rfl) | (with_reducible refine xix_tup ?_) | ((with_reducible refine xc_len ?_); refine ⟨_, sq_c, ?_⟩) | ((with_reducible refine xc_len ?_); refine ⟨_, sq_t, ?_⟩) | ((with_reducible refine xc_len ?_); refine ⟨_, sq_l, ?_⟩) | ((with_reducible refine xc_len ?_); refine ⟨_, (sq_v rfl), ?_⟩) | (with_reducible refine rm_count ?_) | (with_reducible refine ⟨_, rfl, ?_⟩) | (with_reducible refine ⟨_, .inl rfl, ?_⟩) | (with_reducible refine ⟨_, .inr rfl, ?_⟩) | (with_reducible refine ⟨_, _, rfl, ?_⟩) | ((with_reducible refine xix_lst ?_); refine ⟨_, rfl, _, rfl, ?_⟩) | ((with_reducible refine xadd_lst ?_); refine ⟨_, rfl, _, rfl, ?_, ?_⟩) | with_reducible refine rmul_int ?_ ?_ | with_reducible refine rmod_int ?_ ?_ | with_reducible refine rfdiv_int ?_ ?_ | with_reducible refine rpow_int ?_ ?_ | with_reducible refine xg_setL ?_ | refine ⟨_, _, _, _, rfl, rfl, rfl, rfl, ?_⟩ | with_reducible refine xg_name ?_ | with_reducible refine xg_tup rfl ?_ | with_reducible refine xgs_name ?_ | with_reducible refine xgs_nil ?_ | (with_reducible refine ⟨Nat.le_of_ble_eq_true rfl, ?_⟩) | fail))
section
variable {K : Frag} {mg : Str → Option Value} {ρ : DL.Env} {γ : Ga} {Q : QD}
theorem join0 : ∀ l : List Nat, Txt.join (S []) (l.map fun c => S [c]) = S l := by
  intro l
  have h : ∀ l : List Nat, Str.join (S []) (l.map fun c => S [c]) = S l := by
    intro l
    induction l with
    | nil => rfl
    | cons c r ih =>
      cases r with
      | nil => rfl
      | cons d r =>
        show S [c] ++ S [] ++ Str.join (S []) ((d :: r).map fun c => S [c]) = _
        rw [ih, S_app, S_app]
        rfl
  exact (StrLaws.glued_eq_join _ _).trans (h l)
theorem strm_lo {n m L : Nat} {A B A' B' : MO} {rest : Ga} (h : Strm n A B) (h' : Strm m A' B') (l : loG L (A :: B :: rest) = true) (hL : 1 ≤ L) : loG L (A' :: B' :: rest) = true := by
  obtain ⟨cs, c, t, x, rfl, rfl, _⟩ := h'
  have l2 : A.lo L = true ∧ B.lo L = true ∧ loG L rest = true := by simpa [loG] using l
  have l3 : ∀ cs : List Int, loL L (cs.map D.int) = true := fun cs => loL_map (fun _ => rfl) cs
  have l4 : decide (0 < L) = true := decide_eq_true hL
  simp [loG, MO.lo, loL, D.lo, l3, l4, l2.2.2]
theorem dl_L_reserved (T : Tx K mg) : DL_L_reserved K (sp_L_reserved K) := by
  rintro ds γ q e E0 lo1 lo2 ⟨rfl, hq⟩
  refine dS_env (ρ' := []) rfl ?_
  unfold t_L_reserved
  walk_at "GO"
  refine rm_split (ys := RESV.map S) (by decide) (by decide) (by decide +kernel) ?_
  exact .inl hq
theorem name_ok {l : List Nat} (h1 : 1 ≤ l.length) (h2 : l.length ≤ 8) (h3 : ∀ c ∈ l, c ∈ LET) (h4 : l ∉ RESV) : isName l = true := by
  simp [isName, h1, h2, h4]
  exact h3
theorem dl_L_name (T : Tx K mg) : DL_L_name K (sp_L_name K) := by
  rintro ds γ q e E0 lo1 lo2 ⟨n, A, B, rest, rfl, rfl, hs, hq⟩
  refine dS_env (ρ' := [some (.loc 1), none, none, none]) rfl ?_
  unfold t_L_name
  walk_at "GO"
  refine ⟨n + 8, 5, A, B, rest, rfl, by decide, by decide, rfl, hs, fun d A1 B1 h0 h1 hs1 => ?_⟩
  have hz : ∃ z : Nat, atI [D.int 1, .int 1, .int 2, .int 4, .int 8] d = some (.int z) ∧ 1 ≤ z ∧ z ≤ 8 := by
    have : d = 0 ∨ d = 1 ∨ d = 2 ∨ d = 3 ∨ d = 4 := by omega
    rcases this with rfl | rfl | rfl | rfl | rfl
    · exact ⟨1, rfl, by decide, by decide⟩
    · exact ⟨1, rfl, by decide, by decide⟩
    · exact ⟨2, rfl, by decide, by decide⟩
    · exact ⟨4, rfl, by decide, by decide⟩
    · exact ⟨8, rfl, by decide, by decide⟩
  obtain ⟨z, hz, hz1, hz8⟩ := hz
  refine xix_lst ⟨_, rfl, _, hz, ?_⟩
  walk_at "GO"
  refine de_lc [3] (by simp) ?_
  walk_at "GO"
  refine ⟨by omega, by omega, ?_⟩
  have hrl : (rngD 0 (z : Int).toNat).length = z := by simp [rngD]
  refine ⟨by rw [hrl]; omega, fun i acc γ' => ∃ A B l, γ' = A :: B :: rest ∧ Strm (n + 8 - i) A B ∧ acc = l.map (fun c => D.str (S [c])) ∧ l.length = i ∧ ∀ c ∈ l, c ∈ LET, ⟨A1, B1, [], rfl, hs1, rfl, rfl, by simp⟩, ?_, ?_⟩
  · rintro i x acc γ' hi ⟨A2, B2, l, rfl, hs2, rfl, rfl, hl⟩
    have hil : l.length < z := by rw [← hrl]; exact (List.getElem?_eq_some_iff.mp hi).1
    refine dg_name (dt_yes ?_)
    rw [if_pos rfl]
    walk_at "GO"
    refine ⟨n + 7 - l.length, 26, A2, B2, rest, rfl, by decide, by decide, rfl, hs2.mono (by omega), fun d A3 B3 h0 h1 hs3 => ?_⟩
    obtain ⟨k, rfl⟩ : ∃ k : Nat, d = k := ⟨d.toNat, by omega⟩
    have hk : k < LET.length := by show k < 26; omega
    refine xix_str (by decide) ⟨LET[k], at_nat (List.getElem?_eq_getElem hk), ?_⟩
    refine ⟨A3, B3, l ++ [LET[k]], rfl, hs3.mono (by omega), by simp, by simp, ?_⟩
    intro c hc
    rcases List.mem_append.mp hc with hc | hc
    · exact hl c hc
    · rw [List.mem_singleton] at hc
      rw [hc]
      exact List.getElem_mem hk
  · rintro acc γ' ⟨A2, B2, l, rfl, hs2, rfl, hll, hl⟩
    rw [hrl] at hll
    walk_at "GO"
    have hm : l.map (fun c => D.str (S [c])) = (l.map fun c => S [c]).map D.str := by rw [List.map_map]; rfl
    rw [hm]
    refine rm_join (ys := l.map fun c => S [c]) (.inl rfl) ?_ ?_
    · have : ∀ l : List Nat, ((l.map fun c => S [c]).map (·.length)).sum = l.length := by
        intro l
        induction l with
        | nil => rfl
        | cons c r ih => simp only [List.map_cons, List.sum_cons, ih, S_len, List.length_cons]; simp; omega
      rw [this, S_len, List.length_map]
      simp; omega
    rw [join0]
    walk_at "GO"
    refine ⟨rfl, ?_⟩
    refine rin_strs (.inl rfl) ?_
    walk_at "GO"
    by_cases hr : l ∈ RESV
    · rw [show (if decide (l ∈ RESV) = true then (1 : Int) else 0) = ((1 : Nat) : Int) by simp [hr]]
      refine rmul_str (by decide) (by decide) ?_
      walk_at "GO"
      · simp [reps]; omega
      have h8 : ∀ l ∈ RESV, l.length ≤ 8 → isName (l ++ reps 1 [113]) = true := by decide
      exact .inl (hq _ _ _ (h8 l hr (by omega)) (hs2.mono (by omega)))
    · rw [show (if decide (l ∈ RESV) = true then (1 : Int) else 0) = ((0 : Nat) : Int) by simp [hr]]
      refine rmul_str (by decide) (by decide) ?_
      walk_at "GO"
      · simp [reps]; omega
      rw [show l ++ reps 0 [113] = l by simp [reps]]
      exact .inl (hq _ _ _ (name_ok (by omega) (by omega) hl hr) (hs2.mono (by omega)))
end
end K09

set_option Elab.async false
set_option linter.all false
set_option maxRecDepth 100000
set_option maxHeartbeats 4000000
namespace K09
open PySem PySem.Spec PyProof.Rows L2 DL
local macro_rules | `(tactic| walk_at "GO") => `(tactic| repeat' (first | with_reducible refine xs_seq ?_ | with_reducible refine xs_set ?_ | with_reducible refine xs_asg ?_ | with_reducible refine xs_if ?_ | with_reducible refine xs_ret ?_ | with_reducible refine xs_next ?_ | with_reducible refine xs_expr ?_ | with_reducible refine xs_fld ?_ | with_reducible refine xs_par ?_ | with_reducible refine xs_retN ?_ | with_reducible refine xs_brk ?_ | with_reducible refine xp_nil ?_ | with_reducible refine xp_cons ?_ | with_reducible refine xe_disp ?_ | with_reducible refine xe_dispM ?_ | with_reducible refine xs_cont ?_ | with_reducible refine da_nil ?_ | with_reducible refine da_cons ?_ | with_reducible refine de_int ?_ | with_reducible refine de_str ?_ | with_reducible refine de_bl ?_ | with_reducible refine de_non ?_ | with_reducible refine de_ty ?_ | ((with_reducible refine xe_var ?_); refine ⟨_, rfl, ?_⟩) | with_reducible refine de_op ?_ | with_reducible refine de_un ?_ | with_reducible refine de_call ?_ | with_reducible refine de_cb ?_ | with_reducible refine de_sl ?_ | with_reducible refine do_none ?_ | with_reducible refine do_some ?_ | with_reducible refine de_if ?_ | with_reducible refine de_andV ?_ | with_reducible refine de_orV ?_ | with_reducible refine de_notV ?_ | with_reducible refine de_chain ?_ | with_reducible refine dt_test ?_ | with_reducible refine dt_B ?_ | with_reducible refine dt_and ?_ | with_reducible refine dt_or ?_ | with_reducible refine dt_not ?_ | (with_reducible refine xe_tup ?_) | (with_reducible refine xe_lst ?_) | (with_reducible refine xe_lstM ?_) | (with_reducible refine de_meth ?_) | with_reducible refine xs_dput ?_ | with_reducible refine xs_daug ?_ | with_reducible refine de_dget ?_ | with_reducible refine de_dgt1 ?_ | with_reducible refine de_dgt2 ?_ | with_reducible refine de_din ?_ | with_reducible refine de_dnotin ?_ | with_reducible refine de_dnewK ?_ | with_reducible refine de_dnewT ?_ | with_reducible refine de_revL ?_ | (with_reducible refine de_bm ?_) | (with_reducible refine de_bm0 ?_) | (with_reducible refine ⟨isTy_str, ?_⟩) | (with_reducible refine ⟨xty_lst ⟨_, rfl⟩, ?_⟩) | with_reducible refine radd_int ?_ | with_reducible refine radd_S ?_ ?_ | with_reducible refine rsub_int ?_ | with_reducible refine req_int ?_ | with_reducible refine rne_int ?_ | with_reducible refine req_S ?_ | with_reducible refine rne_S ?_ | with_reducible refine rlt_int ?_ | with_reducible refine rle_int ?_ | with_reducible refine rgt_int ?_ | with_reducible refine rge_int ?_ | with_reducible refine rneg_int ?_ | with_reducible refine rin_sgn ?_ | with_reducible refine rni_sgn ?_ | with_reducible refine rc_len_S ?_ ?_ | with_reducible refine rc_int_bl ?_ | with_reducible refine rc_str_int ?_ ?_ | with_reducible refine rc_str_str ?_ | with_reducible refine rc_max2 ?_ | with_reducible refine rc_abs ?_ | with_reducible refine req_bl ?_ | with_reducible refine rne_bl ?_ | with_reducible refine rltg_i ?_ | with_reducible refine rleg_i ?_ | with_reducible refine rgtg_i ?_ | with_reducible refine rgeg_i ?_ | with_reducible refine rltg_b ?_ | with_reducible refine rleg_b ?_ | with_reducible refine rgtg_b ?_ | with_reducible refine rgeg_b ?_ | with_reducible refine rist ?_ | with_reducible refine rntt ?_ | with_reducible refine dt_truth ?_ | ((with_reducible refine xc_isi ?_); refine ⟨_, true, rfl, rfl, ?_⟩) | ((with_reducible refine xc_isi ?_); refine ⟨_, false, rfl, rfl, ?_⟩) | with_reducible refine di_str ?_ | with_reducible refine di_list ?_ | with_reducible refine di_tup ?_ | with_reducible refine di_rng1 ?_ | with_reducible refine di_rng2 ?_ | with_reducible refine ift ?_ | with_reducible refine iff_ ?_ | with_reducible refine ifnt ?_ | with_reducible refine ifnf ?_ | with_reducible refine rin_strs sq_c ?_ | with_reducible refine rni_strs sq_c ?_ | with_reducible refine rin_strs sq_t ?_ | with_reducible refine rni_strs sq_t ?_ | with_reducible refine rin_strs sq_l ?_ | with_reducible refine rni_strs sq_l ?_ | with_reducible refine rin_strs (sq_v rfl) ?_ | with_reducible refine rni_strs (sq_v rfl) ?_ | ((with_reducible refine rin_seq sq_c ?_ ?_ ?_); rfl; rfl) | ((with_reducible refine rin_seq sq_t ?_ ?_ ?_); rfl; rfl) | ((with_reducible refine rin_seq sq_l ?_ ?_ ?_); rfl; rfl) | ((with_reducible refine rin_seq (sq_v rfl) ?_ ?_ ?_); rfl; rfl) | ((with_reducible refine rni_seq sq_c ?_ ?_ ?_); rfl; rfl) | ((with_reducible refine rni_seq sq_t ?_ ?_ ?_); rfl; rfl) | ((with_reducible refine rni_seq sq_l ?_ ?_ ?_); rfl; rfl) | ((with_reducible refine rni_seq (sq_v rfl) ?_ ?_ ?_); rfl; rfl) | (with_reducible refine xix_tup ?_) | ((with_reducible refine xc_len ?_); refine ⟨_, sq_c, ?_⟩) | ((with_reducible refine xc_len ?_); refine ⟨_, sq_t, ?_⟩) | ((with_reducible refine xc_len ?_); refine ⟨_, sq_l, ?_⟩) | ((with_reducible refine xc_len ?_); refine ⟨_, (sq_v rfl), ?_⟩) | (with_reducible refine rm_count ?_) | (with_reducible refine ⟨_, rfl, ?_⟩) | (with_reducible refine ⟨_, .inl rfl, ?_⟩) | (with_reducible refine ⟨_, .inr rfl, ?_⟩) | (with_reducible refine ⟨_, _, rfl, ?_⟩) | ((with_reducible refine xix_lst ?_); refine ⟨_, rfl, _, rfl, ?_⟩) | ((with_reducible refine xadd_lst ?_); refine ⟨_, rfl, _, rfl, ?_, ?_⟩) | with_reducible refine rmul_int ?_ ?_ | with_reducible refine rmod_int ?_ ?_ | with_reducible refine rfdiv_int ?_ ?_ | with_reducible refine rpow_int ?_ ?_ | with_reducible refine xg_setL ?_ | refine ⟨_, _, _, _, rfl, rfl, rfl, rfl, ?_⟩ | with_reducible refine xg_name ?_ | with_reducible refine xg_tup rfl ?_ | with_reducible refine xgs_name ?_ | with_reducible refine xgs_nil ?_ | (with_reducible refine ⟨Nat.le_of_ble_eq_true rfl, ?_⟩) | fail))
section
variable {K : Frag} {mg : Str → Option Value} {ρ : DL.Env} {γ : Ga} {Q : QD}
theorem get_end {A B a : MO} {rest : Ga} : (A :: B :: (rest ++ [a]))[rest.length + 1 + 1]? = some a := by simp
theorem set_end {A B a b : MO} {rest : Ga} : (A :: B :: (rest ++ [a])).set (rest.length + 1 + 1) b = A :: B :: (rest ++ [b]) := by simp
def SPRS : List (List Nat) := [[112, 97], [112, 98], [112, 99], [112, 100], [112, 101], [112, 102]]
theorem sprs_out {fs : List (List Nat)} (hl : fs.length < 3) (h : ∀ (i : Nat) (s : List Nat), i < 6 → SPRS[i]? = some s → s ∈ fs) : False := by
  have h0 := h 0 _ (by decide) rfl
  have h1 := h 1 _ (by decide) rfl
  have h2 := h 2 _ (by decide) rfl
  match fs, hl with
  | [], _ => cases h0
  | [a], _ =>
    rw [List.mem_singleton] at h0 h1
    exact absurd (h0.trans h1.symm) (by decide)
  | [a, b], _ =>
    simp only [List.mem_cons, List.not_mem_nil, or_false] at h0 h1 h2
    rcases h0 with h0 | h0 <;> rcases h1 with h1 | h1
    · exact absurd (h0.trans h1.symm) (by decide)
    · rcases h2 with h2 | h2
      · exact absurd (h0.trans h2.symm) (by decide)
      · exact absurd (h1.trans h2.symm) (by decide)
    · rcases h2 with h2 | h2
      · exact absurd (h1.trans h2.symm) (by decide)
      · exact absurd (h0.trans h2.symm) (by decide)
    · exact absurd (h0.trans h1.symm) (by decide)
theorem dl_L_names (T : Tx K mg) : DL_L_names K (sp_L_names K) := by
  rintro ds γ q e E0 lo1 lo2 ⟨n, A, B, rest, rfl, rfl, hs, hq⟩
  refine dS_env (ρ' := [some (.loc 1), some (.int 3), none, none, none, none]) rfl ?_
  unfold t_L_names
  refine xs_cut (fun ρ' γ' => ρ' = [some (.loc 1), some (.int 3), some (.loc (rest.length + 1 + 1)), none, none, none] ∧ γ' = A :: B :: (rest ++ [.lst []])) ?_ ?_
  · walk_at "GO"
    exact ⟨rfl, rfl⟩
  rintro ρ' γ' ⟨rfl, rfl⟩
  refine xs_cut (fun ρ' γ' => ∃ A' B' fs x3 x4 x5, ρ' = [some (.loc 1), some (.int 3), some (.loc (rest.length + 1 + 1)), x3, x4, x5] ∧ γ' = A' :: B' :: (rest ++ [.lst (strsD fs)]) ∧ Strm n A' B' ∧ fs.length = 3 ∧ (∀ l ∈ fs, isName l = true) ∧ fs.Nodup) ?_ ?_
  · refine xs_for [3] ?_
    walk_at "GO"
    refine ⟨by decide, by decide, ?_⟩
    refine ⟨fun i ρ' γ' => ∃ A' B' fs x3 x4 x5, ρ' = [some (.loc 1), some (.int 3), some (.loc (rest.length + 1 + 1)), x3, x4, x5] ∧ γ' = A' :: B' :: (rest ++ [.lst (strsD fs)]) ∧ Strm (n + 27 - 9 * i) A' B' ∧ fs.length = i ∧ (∀ l ∈ fs, isName l = true) ∧ fs.Nodup, ⟨A, B, [], none, none, none, rfl, rfl, hs, rfl, by simp, List.nodup_nil⟩, ?_, ?_⟩
    · rintro i x ρ' γ' hi ⟨A', B', fs, x3, x4, x5, rfl, rfl, hs', rfl, hf, hnd⟩
      have hi3 : fs.length < 3 := (List.getElem?_eq_some_iff.mp hi).1
      refine dg_name ?_
      walk_at "GO"
      refine ⟨n + 18 - 9 * fs.length, A', B', rest ++ [.lst (strsD fs)], rfl, rfl, hs'.mono (by omega), fun l A1 B1 hl hs1 => ?_⟩
      walk_at "GO"
      refine xs_for [5] ?_
      walk_at "GO"
      refine ⟨fun j ρ' γ' => ∃ l x3 x5, isName l = true ∧ (l ∈ fs → ∀ i s, i < j → SPRS[i]? = some s → s ∈ fs) ∧ ρ' = [some (.loc 1), some (.int 3), some (.loc (rest.length + 1 + 1)), x3, some (.str (S l)), x5] ∧ γ' = A1 :: B1 :: (rest ++ [.lst (strsD fs)]), ⟨l, _, _, hl, fun _ i s h => absurd h (by omega), rfl, rfl⟩, ?_, ?_⟩
      · rintro j y ρ' γ' hj ⟨l, x3, x5, hl, hin, rfl, rfl⟩
        have hy : ∃ sp, y = .str (S sp) ∧ isName sp = true ∧ SPRS[j]? = some sp := by
          match j, hj with
          | 0, hj => cases hj; exact ⟨_, rfl, by decide, rfl⟩
          | 1, hj => cases hj; exact ⟨_, rfl, by decide, rfl⟩
          | 2, hj => cases hj; exact ⟨_, rfl, by decide, rfl⟩
          | 3, hj => cases hj; exact ⟨_, rfl, by decide, rfl⟩
          | 4, hj => cases hj; exact ⟨_, rfl, by decide, rfl⟩
          | 5, hj => cases hj; exact ⟨_, rfl, by decide, rfl⟩
          | j + 6, hj => cases hj
        obtain ⟨sp, rfl, hsp, hsj⟩ := hy
        refine dg_name ?_
        walk_at "GO"
        refine rin_strs (.inl (vw_loc get_end)) ?_
        walk_at "GO"
        refine ifd (fun hc => ?_) (fun hc => ?_)
        · walk_at "GO"
          refine ⟨sp, _, _, hsp, fun hs i s h e => ?_, rfl, rfl⟩
          by_cases hij : i = j
          · subst hij
            rw [hsj] at e
            cases e
            exact hs
          · exact hin hc i s (by omega) e
        · walk_at "GO"
          exact ⟨l, _, _, hl, fun h => absurd h hc, rfl, rfl⟩
      · rintro ρ' γ' ⟨l, x3, x5, hl, hin, rfl, rfl⟩
        have hnew : l ∉ fs := fun h => sprs_out hi3 (hin h)
        walk_at "GO"
        refine ⟨xty_lst ⟨_, vw_loc get_end⟩, ?_⟩
        walk_at "GO"
        refine xm_append ⟨_, _, rfl, get_end, by simp [strsD]; omega, ?_⟩
        rw [set_end]
        refine ⟨A1, B1, fs ++ [l], _, _, _, rfl, by simp [strsD], hs1.mono (by omega), by simp, ?_, List.nodup_append.mpr ⟨hnd, List.nodup_cons.mpr ⟨by simp, List.nodup_nil⟩, fun a ha b hb hab => hnew (by rw [List.mem_singleton] at hb; rw [← hb, ← hab]; exact ha)⟩⟩
        intro y hy
        rcases List.mem_append.mp hy with hy | hy
        · exact hf y hy
        · rw [List.mem_singleton] at hy
          exact hy ▸ hl
    · rintro ρ' γ' ⟨A', B', fs, x3, x4, x5, rfl, rfl, hs', hl, hf, hnd⟩
      exact ⟨A', B', fs, x3, x4, x5, rfl, rfl, hs'.mono (by rw [show (rngD 0 (3 : Int).toNat).length = 3 from rfl]; omega), hl, hf, hnd⟩
  · rintro ρ' γ' ⟨A', B', fs, x3, x4, x5, rfl, rfl, hs', hl, hf, hnd⟩
    walk_at "GO"
    have lo1' := strm_lo hs hs' lo1 (by simp)
    exact dr_lst (γ := A' :: B' :: rest) (rest := []) lo1' (loL_map (fun _ => rfl) _) (hq fs A' B' hl hf hnd hs')
theorem dl_L_number (T : Tx K mg) : DL_L_number K (sp_L_number K) := by
  rintro ds γ q e E0 lo1 lo2 ⟨n, A, B, rest, rfl, rfl, hs, hq⟩
  refine dS_env (ρ' := [some (.loc 1)]) rfl ?_
  unfold t_L_number
  walk_at "GO"
  · exact ⟨by decide, by decide, by decide⟩
  · exact ⟨by decide, by decide, by decide⟩
  refine ⟨n, 8, A, B, rest, rfl, by decide, by decide, rfl, hs, fun d A1 B1 h0 h1 hs1 => ?_⟩
  have : d = 0 ∨ d = 1 ∨ d = 2 ∨ d = 3 ∨ d = 4 ∨ d = 5 ∨ d = 6 ∨ d = 7 := by omega
  rcases this with rfl | rfl | rfl | rfl | rfl | rfl | rfl | rfl <;> exact rix_lst rfl rfl (.inl (hq _ _ _ (by decide) hs1))
theorem dl_L_rank (T : Tx K mg) : DL_L_rank K (sp_L_rank K) := by
  rintro ds γ q e E0 lo1 lo2 ⟨e, he, o, xs, ho, rfl, hq⟩
  refine dS_env (ρ' := [some o]) rfl ?_
  unfold t_L_rank
  have hrow : ∃ w, o = .str (S w) ∧ (w, e.rk) ∈ [(sNumber, 3), (sVariable, 3), (sNegate, 3), ([43], 1), ([45], 1), ([42], 2), ([47, 47], 2), ([109, 111, 100], 2), (sNot, 3), ([61], 3), ([33, 61], 3), ([60], 3), ([60, 61], 3), ([62], 3), ([62, 61], 3), (sOr, 1), (sAnd, 2)] := by
    have bin3 : ∀ {p a b : Bool}, ((p && a && b) || false) = true → p = true := by
      intro p a b h
      cases p <;> simp at h ⊢
    cases e with
    | num z => cases ho; exact ⟨_, rfl, by show (sNumber, 3) ∈ _; decide⟩
    | var l => cases ho; exact ⟨_, rfl, by show (sVariable, 3) ∈ _; decide⟩
    | neg a => cases ho; exact ⟨_, rfl, by show (sNegate, 3) ∈ _; decide⟩
    | nt a => cases ho; exact ⟨_, rfl, by show (sNot, 3) ∈ _; decide⟩
    | bin w a b =>
      cases ho
      refine ⟨_, rfl, ?_⟩
      have hw : w ∈ OPS := of_decide_eq_true (bin3 he)
      have hall : ∀ w ∈ OPS, (w, rankOf w) ∈ [(sNumber, 3), (sVariable, 3), (sNegate, 3), ([43], 1), ([45], 1), ([42], 2), ([47, 47], 2), ([109, 111, 100], 2), (sNot, 3), ([61], 3), ([33, 61], 3), ([60], 3), ([60, 61], 3), ([62], 3), ([62, 61], 3), (sOr, 1), (sAnd, 2)] := by decide
      exact hall w hw
    | cmp w a b =>
      cases ho
      refine ⟨_, rfl, ?_⟩
      have hw : w ∈ CMPS := of_decide_eq_true (bin3 (by rw [Bool.or_false]; exact he))
      have hall : ∀ w ∈ CMPS, (w, 3) ∈ [(sNumber, 3), (sVariable, 3), (sNegate, 3), ([43], 1), ([45], 1), ([42], 2), ([47, 47], 2), ([109, 111, 100], 2), (sNot, 3), ([61], 3), ([33, 61], 3), ([60], 3), ([60, 61], 3), ([62], 3), ([62, 61], 3), (sOr, 1), (sAnd, 2)] := by decide
      exact hall w hw
    | con w a b =>
      cases ho
      refine ⟨_, rfl, ?_⟩
      have hw : w ∈ CONS := of_decide_eq_true (bin3 (by rw [Bool.or_false]; exact he))
      have hall : ∀ w ∈ CONS, (w, rankC w) ∈ [(sNumber, 3), (sVariable, 3), (sNegate, 3), ([43], 1), ([45], 1), ([42], 2), ([47, 47], 2), ([109, 111, 100], 2), (sNot, 3), ([61], 3), ([33, 61], 3), ([60], 3), ([60, 61], 3), ([62], 3), ([62, 61], 3), (sOr, 1), (sAnd, 2)] := by decide
      exact hall w hw
  obtain ⟨w, rfl, hw⟩ := hrow
  generalize e.rk = r at *
  walk_at "GO"
  refine ⟨rfl, by decide +kernel, by decide, ?_⟩
  refine ⟨.inl ⟨_, rfl⟩, ?_⟩
  walk_at "GO"
  refine ⟨_, .inl ⟨_, _, _, rfl, rfl, rfl⟩, ?_⟩
  simp only [List.mem_cons, List.not_mem_nil, or_false] at hw
  rcases hw with h | h | h | h | h | h | h | h | h | h | h | h | h | h | h | h | h <;> (cases h; exact .inl hq)
end
end K09

set_option Elab.async false
set_option linter.all false
set_option maxRecDepth 100000
set_option maxHeartbeats 4000000
namespace K09
open PySem PySem.Spec PyProof.Rows L2 DL
local macro_rules | `(tactic| walk_at "GO") => `(tactic| repeat' (first | with_reducible refine xs_seq ?_ | with_reducible refine xs_set ?_ | with_reducible refine xs_asg ?_ | with_reducible refine xs_if ?_ | with_reducible refine xs_ret ?_ | with_reducible refine xs_next ?_ | with_reducible refine xs_expr ?_ | with_reducible refine xs_fld ?_ | with_reducible refine xs_par ?_ | with_reducible refine xs_retN ?_ | with_reducible refine xs_brk ?_ | with_reducible refine xp_nil ?_ | with_reducible refine xp_cons ?_ | with_reducible refine xe_disp ?_ | with_reducible refine xe_dispM ?_ | with_reducible refine xs_cont ?_ | with_reducible refine da_nil ?_ | with_reducible refine da_cons ?_ | with_reducible refine de_int ?_ | with_reducible refine de_str ?_ | with_reducible refine de_bl ?_ | with_reducible refine de_non ?_ | with_reducible refine de_ty ?_ | ((with_reducible refine xe_var ?_); refine ⟨_, rfl, ?_⟩) | with_reducible refine de_op ?_ | with_reducible refine de_un ?_ | with_reducible refine de_call ?_ | with_reducible refine de_cb ?_ | with_reducible refine de_sl ?_ | with_reducible refine do_none ?_ | with_reducible refine do_some ?_ | with_reducible refine de_if ?_ | with_reducible refine de_andV ?_ | with_reducible refine de_orV ?_ | with_reducible refine de_notV ?_ | with_reducible refine de_chain ?_ | with_reducible refine dt_test ?_ | with_reducible refine dt_B ?_ | with_reducible refine dt_and ?_ | with_reducible refine dt_or ?_ | with_reducible refine dt_not ?_ | (with_reducible refine xe_tup ?_) | (with_reducible refine xe_lst ?_) | (with_reducible refine xe_lstM ?_) | (with_reducible refine de_meth ?_) | with_reducible refine xs_dput ?_ | with_reducible refine xs_daug ?_ | with_reducible refine de_dget ?_ | with_reducible refine de_dgt1 ?_ | with_reducible refine de_dgt2 ?_ | with_reducible refine de_din ?_ | with_reducible refine de_dnotin ?_ | with_reducible refine de_dnewK ?_ | with_reducible refine de_dnewT ?_ | with_reducible refine de_revL ?_ | (with_reducible refine de_bm ?_) | (with_reducible refine de_bm0 ?_) | (with_reducible refine ⟨isTy_str, ?_⟩) | (with_reducible refine ⟨xty_lst ⟨_, rfl⟩, ?_⟩) | with_reducible refine radd_int ?_ | with_reducible refine radd_S ?_ ?_ | with_reducible refine rsub_int ?_ | with_reducible refine req_int ?_ | with_reducible refine rne_int ?_ | with_reducible refine req_S ?_ | with_reducible refine rne_S ?_ | with_reducible refine rlt_int ?_ | with_reducible refine rle_int ?_ | with_reducible refine rgt_int ?_ | with_reducible refine rge_int ?_ | with_reducible refine rneg_int ?_ | with_reducible refine rin_sgn ?_ | with_reducible refine rni_sgn ?_ | with_reducible refine rc_len_S ?_ ?_ | with_reducible refine rc_int_bl ?_ | with_reducible refine rc_str_int ?_ ?_ | with_reducible refine rc_str_str ?_ | with_reducible refine rc_max2 ?_ | with_reducible refine rc_abs ?_ | with_reducible refine req_bl ?_ | with_reducible refine rne_bl ?_ | with_reducible refine rltg_i ?_ | with_reducible refine rleg_i ?_ | with_reducible refine rgtg_i ?_ | with_reducible refine rgeg_i ?_ | with_reducible refine rltg_b ?_ | with_reducible refine rleg_b ?_ | with_reducible refine rgtg_b ?_ | with_reducible refine rgeg_b ?_ | with_reducible refine rist ?_ | with_reducible refine rntt ?_ | with_reducible refine dt_truth ?_ | ((with_reducible refine xc_isi ?_); refine ⟨_, true, rfl, rfl, ?_⟩) | ((with_reducible refine xc_isi ?_); refine ⟨_, false, rfl, rfl, ?_⟩) | with_reducible refine di_str ?_ | with_reducible refine di_list ?_ | with_reducible refine di_tup ?_ | with_reducible refine di_rng1 ?_ | with_reducible refine di_rng2 ?_ | with_reducible refine ift ?_ | with_reducible refine iff_ ?_ | with_reducible refine ifnt ?_ | with_reducible refine ifnf ?_ | with_reducible refine rin_strs sq_c ?_ | with_reducible refine rni_strs sq_c ?_ | with_reducible refine rin_strs sq_t ?_ | with_reducible refine rni_strs sq_t ?_ | with_reducible refine rin_strs sq_l ?_ | with_reducible refine rni_strs sq_l ?_ | with_reducible refine rin_strs (sq_v rfl) ?_ | with_reducible refine rni_strs (sq_v rfl) ?_ | ((with_reducible refine rin_seq sq_c ?_ ?_ ?_); rfl; rfl) | ((with_reducible refine rin_seq sq_t ?_ ?_ ?_); rfl; rfl) | ((with_reducible refine rin_seq sq_l ?_ ?_ ?_); rfl; rfl) | ((with_reducible refine rin_seq (sq_v rfl) ?_ ?_ ?_); rfl; rfl) | ((with_reducible refine rni_seq sq_c ?_ ?_ ?_); rfl; rfl) | ((with_reducible refine rni_seq sq_t ?_ ?_ ?_); rfl; rfl) | ((with_reducible refine rni_seq sq_l ?_ ?_ ?_); rfl; rfl) | ((with_reducible refine rni_seq (sq_v rfl) ?_ ?_ ?_); rfl; rfl) | (with_reducible refine xix_tup ?_) | ((with_reducible refine xc_len ?_); refine ⟨_, sq_c, ?_⟩) | ((with_reducible refine xc_len ?_); refine ⟨_, sq_t, ?_⟩) | ((with_reducible refine xc_len ?_); refine ⟨_, sq_l, ?_⟩) | ((with_reducible refine xc_len ?_); refine ⟨_, (sq_v rfl), ?_⟩) | (with_reducible refine rm_count ?_) | (with_reducible refine ⟨_, rfl, ?_⟩) | (with_reducible refine ⟨_, .inl rfl, ?_⟩) | (with_reducible refine ⟨_, .inr rfl, ?_⟩) | (with_reducible refine ⟨_, _, rfl, ?_⟩) | ((with_reducible refine xix_lst ?_); refine ⟨_, rfl, _, rfl, ?_⟩) | ((with_reducible refine xadd_lst ?_); refine ⟨_, rfl, _, rfl, ?_, ?_⟩) | with_reducible refine rmul_int ?_ ?_ | with_reducible refine rmod_int ?_ ?_ | with_reducible refine rfdiv_int ?_ ?_ | with_reducible refine rpow_int ?_ ?_ | with_reducible refine xg_setL ?_ | refine ⟨_, _, _, _, rfl, rfl, rfl, rfl, ?_⟩ | with_reducible refine xg_name ?_ | with_reducible refine xg_tup rfl ?_ | with_reducible refine xgs_name ?_ | with_reducible refine xgs_nil ?_ | (with_reducible refine ⟨Nat.le_of_ble_eq_true rfl, ?_⟩) | fail))
section
variable {K : Frag} {mg : Str → Option Value} {ρ : DL.Env} {γ : Ga} {Q : QD}
theorem dl_L_sum (T : Tx K mg) (s : SpD) (dp : Nat) (hrec : ∀ dp', dp = dp' + 1 → ∀ ds γ q e, spSum K dp' ds γ q e → s ds γ q e) : DL_L_sum K s (spSum K dp) := by
  rintro ds γ q e E0 lo1 lo2 ⟨n, A, B, rest, ns, dq, rfl, hdq, hns, hok, rfl, hs, hq⟩
  refine dS_env (ρ' := [some (.loc 1), some (.lst (strsD ns)), some (.int dq), none, none]) rfl ?_
  unfold t_L_sum
  have h3 : 3 ≤ bS dq := by cases dq <;> simp [bS]
  walk_at "GO"
  refine ⟨n + bS dq - 1, 9, A, B, rest, rfl, by decide, by decide, rfl, hs.mono (by omega), fun way A1 B1 hw0 hw1 hs1 => ?_⟩
  -- a leaf
  refine xs_cut (fun ρ' γ' => ρ' = [some (.loc 1), some (.lst (strsD ns)), some (.int dq), some (.int way), none] ∧ γ' = A1 :: B1 :: rest ∧ ∃ d, dq = d + 1) ?_ ?_
  · have leaf : dS ⟨K, wOf E0, fun _ => DrX (A :: B :: rest).length e⟩ (A :: B :: rest).length (tSeq (tIfS (tTest (tOp (rEqG K) (tCallW (toSp K (sp_L_draw K)) (WE (wOf E0)) (tCons (tVar 0) (tCons (tC (.int 2)) tNil))) (tC (.int 0)))) (tRet (tTup (tCons (tC (.str (S [110, 117, 109, 98, 101, 114]))) (tCons (tCallW (toSp K (sp_L_number K)) (WE (wOf E0)) (tCons (tVar 0) tNil)) tNil)))) tNext) (tRet (tTup (tCons (tC (.str (S [118, 97, 114, 105, 97, 98, 108, 101]))) (tCons (tOp (rIx K) (tVar 1) (tCallW (toSp K (sp_L_draw K)) (WE (wOf E0)) (tCons (tVar 0) (tCons (tCB (rLenG K) (tCons (tVar 1) tNil)) tNil)))) tNil)))))
      [some (.loc 1), some (.lst (strsD ns)), some (.int dq), some (.int way), none] (A1 :: B1 :: rest) ⟨fun ρ' γ' => ρ' = [some (.loc 1), some (.lst (strsD ns)), some (.int dq), some (.int way), none] ∧ γ' = A1 :: B1 :: rest ∧ ∃ d, dq = d + 1, Dr (A :: B :: rest).length q, fun _ _ => False, fun _ _ => False⟩ := by
      walk_at "GO"
      refine ⟨n + bS dq - 2, 2, A1, B1, rest, rfl, by decide, by decide, rfl, hs1.mono (by omega), fun d A2 B2 hd0 hd1 hs2 => ?_⟩
      walk_at "GO"
      refine ifd (fun c1 => ?_) (fun c1 => ?_)
      · walk_at "GO"
        refine ⟨n + bS dq - 3, A2, B2, rest, rfl, rfl, hs2.mono (by omega), fun i A3 B3 hi hs3 => ?_⟩
        walk_at "GO"
        exact .inl (hq (.num i) _ _ (decide_eq_true hi) (Nat.zero_le _) (hs3.mono (by omega)))
      · walk_at "GO"
        have hlen : (strsD ns).length = 3 := by simp [strsD, hns]
        rw [hlen]
        refine ⟨n + bS dq - 3, 3, A2, B2, rest, rfl, by decide, by decide, rfl, hs2.mono (by omega), fun d A3 B3 hd0 hd1 hs3 => ?_⟩
        obtain ⟨k, rfl⟩ : ∃ k : Nat, d = k := ⟨d.toNat, by omega⟩
        have hk : k < ns.length := by omega
        refine xix_lst ⟨_, rfl, .str (S ns[k]), at_nat (by simp [strsD, hk]), ?_⟩
        walk_at "GO"
        exact .inl (hq (.var ns[k]) _ _ (hok _ (List.getElem_mem hk)) (Nat.zero_le _) (hs3.mono (by omega)))
    walk_at "GO"
    refine ifd (fun c1 => ?_) (fun c1 => ?_)
    · refine ift ?_
      exact leaf
    · walk_at "GO"
      refine ifd (fun c2 => ?_) (fun c2 => ?_)
      · exact leaf
      · walk_at "GO"
        refine ⟨rfl, rfl, dq - 1, ?_⟩
        have : (dq : Int) ≠ 0 := c1
        omega
  · rintro ρ' γ' ⟨rfl, rfl, d, rfl⟩
    obtain ⟨dp', rfl⟩ : ∃ k, dp = k + 1 := ⟨dp - 1, by omega⟩
    have hb : bS (d + 1) = 3 + 2 * bS d := rfl
    have hd : ((d + 1 : Nat) : Int) - 1 = (d : Nat) := by omega
    walk_at "GO"
    refine ifd (fun c1 => ?_) (fun c1 => ?_)
    · walk_at "GO"
      rw [hd]
      refine hrec dp' rfl _ _ _ _ ⟨n + 2 + bS d, A1, B1, rest, ns, d, rfl, by omega, hns, hok, rfl, hs1.mono (by omega), fun a A2 B2 ha hda hs2 => ?_⟩
      walk_at "GO"
      exact .inl (hq (.neg a) _ _ ha (Nat.succ_le_succ hda) (hs2.mono (by omega)))
    · walk_at "GO"
      · decide
      have hwd : ∃ o, atI [D.str (S [43]), .str (S [45]), .str (S [42]), .str (S [47, 47]), .str (S [109, 111, 100])] (way.fmod 5) = some (.str (S o)) ∧ o ∈ OPS := by
        have : way.fmod 5 = 0 ∨ way.fmod 5 = 1 ∨ way.fmod 5 = 2 ∨ way.fmod 5 = 3 ∨ way.fmod 5 = 4 := by
          have := @fmod_range way 5 (by decide); omega
        rcases this with h | h | h | h | h <;> rw [h]
        · exact ⟨_, rfl, by decide⟩
        · exact ⟨_, rfl, by decide⟩
        · exact ⟨_, rfl, by decide⟩
        · exact ⟨_, rfl, by decide⟩
        · exact ⟨_, rfl, by decide⟩
      obtain ⟨o, ho1, ho2⟩ := hwd
      refine xix_lst ⟨_, rfl, _, ho1, ?_⟩
      walk_at "GO"
      rw [hd]
      refine hrec dp' rfl _ _ _ _ ⟨n + 2 + bS d, A1, B1, rest, ns, d, rfl, by omega, hns, hok, rfl, hs1.mono (by omega), fun a A2 B2 ha hda hs2 => ?_⟩
      walk_at "GO"
      rw [hd]
      refine hrec dp' rfl _ _ _ _ ⟨n + 2, A2, B2, rest, ns, d, rfl, by omega, hns, hok, rfl, hs2.mono (by omega), fun b A3 B3 hb' hdb hs3 => ?_⟩
      walk_at "GO"
      refine .inl (hq (.bin o a b) _ _ ?_ ?_ (hs3.mono (by omega)))
      · show (decide (o ∈ OPS) && a.okE && b.okE) = true
        rw [decide_eq_true ho2, ha, hb']; rfl
      · show max a.dep b.dep + 1 ≤ d + 1
        omega
end
end K09

set_option Elab.async false
set_option linter.all false
set_option maxRecDepth 100000
set_option maxHeartbeats 4000000
namespace K09
open PySem PySem.Spec PyProof.Rows L2 DL
local macro_rules | `(tactic| walk_at "GO") => `(tactic| repeat' (first | with_reducible refine xs_seq ?_ | with_reducible refine xs_set ?_ | with_reducible refine xs_asg ?_ | with_reducible refine xs_if ?_ | with_reducible refine xs_ret ?_ | with_reducible refine xs_next ?_ | with_reducible refine xs_expr ?_ | with_reducible refine xs_fld ?_ | with_reducible refine xs_par ?_ | with_reducible refine xs_retN ?_ | with_reducible refine xs_brk ?_ | with_reducible refine xp_nil ?_ | with_reducible refine xp_cons ?_ | with_reducible refine xe_disp ?_ | with_reducible refine xe_dispM ?_ | with_reducible refine xs_cont ?_ | with_reducible refine da_nil ?_ | with_reducible refine da_cons ?_ | with_reducible refine de_int ?_ | with_reducible refine de_str ?_ | with_reducible refine de_bl ?_ | with_reducible refine de_non ?_ | with_reducible refine de_ty ?_ | ((with_reducible refine xe_var ?_); refine ⟨_, rfl, ?_⟩) | with_reducible refine de_op ?_ | with_reducible refine de_un ?_ | with_reducible refine de_call ?_ | with_reducible refine de_cb ?_ | with_reducible refine de_sl ?_ | with_reducible refine do_none ?_ | with_reducible refine do_some ?_ | with_reducible refine de_if ?_ | with_reducible refine de_andV ?_ | with_reducible refine de_orV ?_ | with_reducible refine de_notV ?_ | with_reducible refine de_chain ?_ | with_reducible refine dt_test ?_ | with_reducible refine dt_B ?_ | with_reducible refine dt_and ?_ | with_reducible refine dt_or ?_ | with_reducible refine dt_not ?_ | (with_reducible refine xe_tup ?_) | (with_reducible refine xe_lst ?_) | (with_reducible refine xe_lstM ?_) | (with_reducible refine de_meth ?_) | with_reducible refine xs_dput ?_ | with_reducible refine xs_daug ?_ | with_reducible refine de_dget ?_ | with_reducible refine de_dgt1 ?_ | with_reducible refine de_dgt2 ?_ | with_reducible refine de_din ?_ | with_reducible refine de_dnotin ?_ | with_reducible refine de_dnewK ?_ | with_reducible refine de_dnewT ?_ | with_reducible refine de_revL ?_ | (with_reducible refine de_bm ?_) | (with_reducible refine de_bm0 ?_) | (with_reducible refine ⟨isTy_str, ?_⟩) | (with_reducible refine ⟨xty_lst ⟨_, rfl⟩, ?_⟩) | with_reducible refine radd_int ?_ | with_reducible refine radd_S ?_ ?_ | with_reducible refine rsub_int ?_ | with_reducible refine req_int ?_ | with_reducible refine rne_int ?_ | with_reducible refine req_S ?_ | with_reducible refine rne_S ?_ | with_reducible refine rlt_int ?_ | with_reducible refine rle_int ?_ | with_reducible refine rgt_int ?_ | with_reducible refine rge_int ?_ | with_reducible refine rneg_int ?_ | with_reducible refine rin_sgn ?_ | with_reducible refine rni_sgn ?_ | with_reducible refine rc_len_S ?_ ?_ | with_reducible refine rc_int_bl ?_ | with_reducible refine rc_str_int ?_ ?_ | with_reducible refine rc_str_str ?_ | with_reducible refine rc_max2 ?_ | with_reducible refine rc_abs ?_ | with_reducible refine req_bl ?_ | with_reducible refine rne_bl ?_ | with_reducible refine rltg_i ?_ | with_reducible refine rleg_i ?_ | with_reducible refine rgtg_i ?_ | with_reducible refine rgeg_i ?_ | with_reducible refine rltg_b ?_ | with_reducible refine rleg_b ?_ | with_reducible refine rgtg_b ?_ | with_reducible refine rgeg_b ?_ | with_reducible refine rist ?_ | with_reducible refine rntt ?_ | with_reducible refine dt_truth ?_ | ((with_reducible refine xc_isi ?_); refine ⟨_, true, rfl, rfl, ?_⟩) | ((with_reducible refine xc_isi ?_); refine ⟨_, false, rfl, rfl, ?_⟩) | with_reducible refine di_str ?_ | with_reducible refine di_list ?_ | with_reducible refine di_tup ?_ | with_reducible refine di_rng1 ?_ | with_reducible refine di_rng2 ?_ | with_reducible refine ift ?_ | with_reducible refine iff_ ?_ | with_reducible refine ifnt ?_ | with_reducible refine ifnf ?_ | with_reducible refine rin_strs sq_c ?_ | with_reducible refine rni_strs sq_c ?_ | with_reducible refine rin_strs sq_t ?_ | with_reducible refine rni_strs sq_t ?_ | with_reducible refine rin_strs sq_l ?_ | with_reducible refine rni_strs sq_l ?_ | with_reducible refine rin_strs (sq_v rfl) ?_ | with_reducible refine rni_strs (sq_v rfl) ?_ | ((with_reducible refine rin_seq sq_c ?_ ?_ ?_); rfl; rfl) | ((with_reducible refine rin_seq sq_t ?_ ?_ ?_); rfl; rfl) | ((with_reducible refine rin_seq sq_l ?_ ?_ ?_); rfl; rfl) | ((with_reducible refine rin_seq (sq_v rfl) ?_ ?_ ?_); rfl; rfl) | ((with_reducible refine rni_seq sq_c ?_ ?_ ?_); rfl; rfl) | ((with_reducible refine rni_seq sq_t ?_ ?_ ?_); rfl; rfl) | ((with_reducible refine rni_seq sq_l ?_ ?_ ?_); rfl; rfl) | ((with_reducible refine rni_seq (sq_v rfl) ?_ ?_ ?_); rfl; rfl) | (with_reducible refine xix_tup ?_) | ((with_reducible refine xc_len ?_); refine ⟨_, sq_c, ?_⟩) | ((with_reducible refine xc_len ?_); refine ⟨_, sq_t, ?_⟩) | ((with_reducible refine xc_len ?_); refine ⟨_, sq_l, ?_⟩) | ((with_reducible refine xc_len ?_); refine ⟨_, (sq_v rfl), ?_⟩) | (with_reducible refine rm_count ?_) | (with_reducible refine ⟨_, rfl, ?_⟩) | (with_reducible refine ⟨_, .inl rfl, ?_⟩) | (with_reducible refine ⟨_, .inr rfl, ?_⟩) | (with_reducible refine ⟨_, _, rfl, ?_⟩) | ((with_reducible refine xix_lst ?_); refine ⟨_, rfl, _, rfl, ?_⟩) | ((with_reducible refine xadd_lst ?_); refine ⟨_, rfl, _, rfl, ?_, ?_⟩) | with_reducible refine rmul_int ?_ ?_ | with_reducible refine rmod_int ?_ ?_ | with_reducible refine rfdiv_int ?_ ?_ | with_reducible refine rpow_int ?_ ?_ | with_reducible refine xg_setL ?_ | refine ⟨_, _, _, _, rfl, rfl, rfl, rfl, ?_⟩ | with_reducible refine xg_name ?_ | with_reducible refine xg_tup rfl ?_ | with_reducible refine xgs_name ?_ | with_reducible refine xgs_nil ?_ | (with_reducible refine ⟨Nat.le_of_ble_eq_true rfl, ?_⟩) | fail))
section
variable {K : Frag} {mg : Str → Option Value} {ρ : DL.Env} {γ : Ga} {Q : QD}
theorem kE_dep : ∀ (e : Ex), e.okE = true → kE e + 2 ≤ 3 * 2 ^ e.dep
  | .num _, _ => by show 1 + 2 ≤ 3 * 2 ^ 0; decide
  | .var _, _ => by show 1 + 2 ≤ 3 * 2 ^ 0; decide
  | .neg a, h => by
    have := kE_dep a h
    show kE a + 2 + 2 ≤ 3 * 2 ^ (a.dep + 1)
    have h1 : 1 ≤ 2 ^ a.dep := Nat.one_le_two_pow
    rw [Nat.pow_succ]; omega
  | .bin o a b, h => by
    have h : (decide (o ∈ OPS) && a.okE && b.okE) = true := h
    simp only [Bool.and_eq_true] at h
    have i1 := kE_dep a h.1.2
    have i2 := kE_dep b h.2
    show kE a + kE b + 2 + 2 ≤ 3 * 2 ^ (max a.dep b.dep + 1)
    have h1 : 2 ^ a.dep ≤ 2 ^ max a.dep b.dep := Nat.pow_le_pow_right (by decide) (Nat.le_max_left _ _)
    have h2 : 2 ^ b.dep ≤ 2 ^ max a.dep b.dep := Nat.pow_le_pow_right (by decide) (Nat.le_max_right _ _)
    rw [Nat.pow_succ]; omega
  | .cmp _ _ _, h => by cases h
  | .nt _, h => by cases h
  | .con _ _ _, h => by cases h
theorem kE_two {a : Ex} (h : a.okE = true) (hd : a.dep ≤ 2) : kE a ≤ 10 := by
  have h1 := kE_dep a h
  have h2 : 2 ^ a.dep ≤ 2 ^ 2 := Nat.pow_le_pow_right (by decide) hd
  omega
theorem kb_cmp {o : List Nat} {a b : Ex} {dq : Nat} (ha : a.okE = true) (hb : b.okE = true) (h1 : a.dep ≤ 2) (h2 : b.dep ≤ 2) : KB (.cmp o a b) dq := by
  have i1 := kE_two ha h1
  have i2 := kE_two hb h2
  have p1 : 1 ≤ 2 ^ dq := Nat.one_le_two_pow
  refine ⟨?_, ?_⟩
  · show kE a + kE b ≤ 20 * 2 ^ dq
    omega
  · show 1 + 1 ≤ 2 ^ (dq + 1)
    rw [Nat.pow_succ]; omega
theorem kb_nt {a : Ex} {d : Nat} (h : KB a d) : KB (.nt a) (d + 1) := by
  obtain ⟨h1, h2⟩ := h
  have p1 : 1 ≤ 2 ^ d := Nat.one_le_two_pow
  rw [Nat.pow_succ] at h2
  refine ⟨?_, ?_⟩
  · show kE a ≤ 20 * 2 ^ (d + 1)
    rw [Nat.pow_succ]; omega
  · show kC a + 2 + 1 ≤ 2 ^ (d + 1 + 1)
    rw [Nat.pow_succ, Nat.pow_succ]; omega
theorem kb_con {o : List Nat} {a b : Ex} {d : Nat} (h : KB a d) (h' : KB b d) : KB (.con o a b) (d + 1) := by
  obtain ⟨h1, h2⟩ := h
  obtain ⟨h3, h4⟩ := h'
  rw [Nat.pow_succ] at h2 h4
  refine ⟨?_, ?_⟩
  · show kE a + kE b ≤ 20 * 2 ^ (d + 1)
    rw [Nat.pow_succ]; omega
  · show kC a + kC b + 1 + 1 ≤ 2 ^ (d + 1 + 1)
    rw [Nat.pow_succ, Nat.pow_succ]; omega
theorem dl_L_truth (T : Tx K mg) (s : SpD) (dp : Nat) (hdp3 : dp ≤ 3) (hrec : ∀ dp', dp = dp' + 1 → ∀ ds γ q e, spTruth K dp' ds γ q e → s ds γ q e) : DL_L_truth K s (spTruth K dp) := by
  rintro ds γ q e E0 lo1 lo2 ⟨n, A, B, rest, ns, dq, rfl, hdq, hns, hok, rfl, hs, hq⟩
  refine dS_env (ρ' := [some (.loc 1), some (.lst (strsD ns)), some (.int dq), none, none, none, none]) rfl ?_
  unfold t_L_truth
  have h3 : 100 ≤ bT dq := by cases dq <;> simp [bT]
  have hbs : ∀ k, k < 3 → bS k ≤ 21 := by decide
  walk_at "GO"
  refine ⟨n + bT dq - 1, 8, A, B, rest, rfl, by decide, by decide, rfl, hs.mono (by omega), fun way A1 B1 hw0 hw1 hs1 => ?_⟩
  refine xs_cut (fun ρ' γ' => ρ' = [some (.loc 1), some (.lst (strsD ns)), some (.int dq), some (.int way), none, none, none] ∧ γ' = A1 :: B1 :: rest ∧ ∃ d, dq = d + 1) ?_ ?_
  · have leaf : dS ⟨K, wOf E0, fun _ => DrX (A :: B :: rest).length e⟩ (A :: B :: rest).length (tSeq (tAsg (tOp (rIx K) (tBM K "str" rSplit (tC (.str (S [61, 32, 33, 61, 32, 60, 32, 60, 61, 32, 62, 32, 62, 61]))) (tCons (tC (.str (S [32]))) tNil)) (tCallW (toSp K (sp_L_draw K)) (WE (wOf E0)) (tCons (tVar 0) (tCons (tC (.int 6)) tNil)))) (gName 4)) (tSeq (tAsg (tCallW (toSp K (sp_L_sum K)) (WE (wOf E0)) (tCons (tVar 0) (tCons (tVar 1) (tCons (tCallW (toSp K (sp_L_draw K)) (WE (wOf E0)) (tCons (tVar 0) (tCons (tC (.int 3)) tNil))) tNil)))) (gName 5)) (tRet (tTup (tCons (tVar 4) (tCons (tVar 5) (tCons (tCallW (toSp K (sp_L_sum K)) (WE (wOf E0)) (tCons (tVar 0) (tCons (tVar 1) (tCons (tCallW (toSp K (sp_L_draw K)) (WE (wOf E0)) (tCons (tVar 0) (tCons (tC (.int 3)) tNil))) tNil)))) tNil)))))))
      [some (.loc 1), some (.lst (strsD ns)), some (.int dq), some (.int way), none, none, none] (A1 :: B1 :: rest) ⟨fun ρ' γ' => ρ' = [some (.loc 1), some (.lst (strsD ns)), some (.int dq), some (.int way), none, none, none] ∧ γ' = A1 :: B1 :: rest ∧ ∃ d, dq = d + 1, Dr (A :: B :: rest).length q, fun _ _ => False, fun _ _ => False⟩ := by
      walk_at "GO"
      refine rm_split (ys := CMPS.map S) (by decide) (by decide) (by decide +kernel) ?_
      walk_at "GO"
      refine ⟨n + bT dq - 2, 6, A1, B1, rest, rfl, by decide, by decide, rfl, hs1.mono (by omega), fun d A2 B2 hd0 hd1 hs2 => ?_⟩
      have hwd : ∃ o, atI ((CMPS.map S).map D.str) d = some (.str (S o)) ∧ o ∈ CMPS := by
        have : d = 0 ∨ d = 1 ∨ d = 2 ∨ d = 3 ∨ d = 4 ∨ d = 5 := by omega
        rcases this with h | h | h | h | h | h <;> rw [h]
        · exact ⟨_, rfl, by decide⟩
        · exact ⟨_, rfl, by decide⟩
        · exact ⟨_, rfl, by decide⟩
        · exact ⟨_, rfl, by decide⟩
        · exact ⟨_, rfl, by decide⟩
        · exact ⟨_, rfl, by decide⟩
      obtain ⟨o, ho1, ho2⟩ := hwd
      refine xix_lst ⟨_, rfl, _, ho1, ?_⟩
      walk_at "GO"
      refine ⟨n + bT dq - 3, 3, A2, B2, rest, rfl, by decide, by decide, rfl, hs2.mono (by omega), fun k A3 B3 hk0 hk1 hs3 => ?_⟩
      walk_at "GO"
      obtain ⟨k, rfl⟩ : ∃ j : Nat, k = j := ⟨k.toNat, by omega⟩
      have hk : k < 3 := by omega
      refine ⟨n + bT dq - 24, A3, B3, rest, ns, k, rfl, by omega, hns, hok, rfl, hs3.mono (by have := hbs k hk; omega), fun a A4 B4 ha hda hs4 => ?_⟩
      walk_at "GO"
      refine ⟨n + bT dq - 25, 3, A4, B4, rest, rfl, by decide, by decide, rfl, hs4.mono (by omega), fun k2 A5 B5 hk20 hk21 hs5 => ?_⟩
      walk_at "GO"
      obtain ⟨k2, rfl⟩ : ∃ j : Nat, k2 = j := ⟨k2.toNat, by omega⟩
      have hk2 : k2 < 3 := by omega
      refine ⟨n + bT dq - 46, A5, B5, rest, ns, k2, rfl, by omega, hns, hok, rfl, hs5.mono (by have := hbs k2 hk2; omega), fun b A6 B6 hb hdb hs6 => ?_⟩
      walk_at "GO"
      refine .inl (hq (.cmp o a b) _ _ ?_ ?_ ?_ (hs6.mono (by omega)))
      · show (decide (o ∈ CMPS) && a.okE && b.okE) = true
        rw [decide_eq_true ho2, ha, hb]; rfl
      · show max a.dep b.dep + 1 ≤ dq + 3
        omega
      · exact kb_cmp ha hb (by omega) (by omega)
    walk_at "GO"
    refine ifd (fun c1 => ?_) (fun c1 => ?_)
    · refine ift ?_
      exact leaf
    · walk_at "GO"
      refine ifd (fun c2 => ?_) (fun c2 => ?_)
      · exact leaf
      · walk_at "GO"
        refine ⟨rfl, rfl, dq - 1, ?_⟩
        have : (dq : Int) ≠ 0 := c1
        omega
  · rintro ρ' γ' ⟨rfl, rfl, d, rfl⟩
    obtain ⟨dp', rfl⟩ : ∃ k, dp = k + 1 := ⟨dp - 1, by omega⟩
    have hb : bT (d + 1) = 100 + 2 * bT d := rfl
    have hd : ((d + 1 : Nat) : Int) - 1 = (d : Nat) := by omega
    walk_at "GO"
    refine ifd (fun c1 => ?_) (fun c1 => ?_)
    · walk_at "GO"
      rw [hd]
      refine hrec dp' rfl _ _ _ _ ⟨n + 2 + bT d, A1, B1, rest, ns, d, rfl, by omega, hns, hok, rfl, hs1.mono (by omega), fun a A2 B2 ha hda hka hs2 => ?_⟩
      walk_at "GO"
      refine .inl (hq (.nt a) _ _ ha ?_ (kb_nt hka) (hs2.mono (by omega)))
      show a.dep + 1 ≤ d + 1 + 3
      omega
    · walk_at "GO"
      · decide
      have hwd : ∃ o, atI [D.str (S [111, 114]), .str (S [97, 110, 100])] (way.fmod 2) = some (.str (S o)) ∧ o ∈ CONS := by
        have : way.fmod 2 = 0 ∨ way.fmod 2 = 1 := by
          have := @fmod_range way 2 (by decide); omega
        rcases this with h | h <;> rw [h]
        · exact ⟨_, rfl, by decide⟩
        · exact ⟨_, rfl, by decide⟩
      obtain ⟨o, ho1, ho2⟩ := hwd
      refine xix_lst ⟨_, rfl, _, ho1, ?_⟩
      walk_at "GO"
      rw [hd]
      refine hrec dp' rfl _ _ _ _ ⟨n + 2 + bT d, A1, B1, rest, ns, d, rfl, by omega, hns, hok, rfl, hs1.mono (by omega), fun a A2 B2 ha hda hka hs2 => ?_⟩
      walk_at "GO"
      rw [hd]
      refine hrec dp' rfl _ _ _ _ ⟨n + 2, A2, B2, rest, ns, d, rfl, by omega, hns, hok, rfl, hs2.mono (by omega), fun b A3 B3 hb' hdb hkb hs3 => ?_⟩
      walk_at "GO"
      refine .inl (hq (.con o a b) _ _ ?_ ?_ (kb_con hka hkb) (hs3.mono (by omega)))
      · show (decide (o ∈ CONS) && a.okC && b.okC) = true
        rw [decide_eq_true ho2, ha, hb']; rfl
      · show max a.dep b.dep + 1 ≤ d + 1 + 3
        omega
end
end K09

set_option Elab.async false
set_option linter.all false
set_option maxRecDepth 100000
set_option maxHeartbeats 4000000
namespace K09
open PySem PySem.Spec PyProof.Rows L2 DL
section
variable {K : Frag} {mg : Str → Option Value} {ρ : DL.Env} {γ : Ga} {Q : QD}
theorem wr_len {e : Ex} {least : Nat} {c x : List (List Nat)} (h : Wr e least c x) : x.length ≤ c.length + 2 := by
  rcases h with rfl | ⟨rfl, _⟩
  · simp
  · omega
theorem rdc_len : ∀ (e : Ex) (c : List (List Nat)), RdC e c → c.length + 2 ≤ 3 * e.size
  | .num z, c, h => by cases h; simp [Ex.size]
  | .var l, c, h => by cases h; simp [Ex.size]
  | .neg a, c, h => by
    obtain ⟨c, x, h1, h2, rfl⟩ := h
    have := rdc_len a c h1
    have := wr_len h2
    simp [Ex.size]; omega
  | .nt a, c, h => by
    obtain ⟨c, x, h1, h2, rfl⟩ := h
    have := rdc_len a c h1
    have := wr_len h2
    simp [Ex.size]; omega
  | .bin o a b, c, h => by
    obtain ⟨c, x, c', x', h1, h2, h3, h4, rfl⟩ := h
    have := rdc_len a c h1
    have := wr_len h2
    have := rdc_len b c' h3
    have := wr_len h4
    simp [Ex.size]; omega
  | .cmp o a b, c, h => by
    obtain ⟨c, x, c', x', h1, h2, h3, h4, rfl⟩ := h
    have := rdc_len a c h1
    have := wr_len h2
    have := rdc_len b c' h3
    have := wr_len h4
    simp [Ex.size]; omega
  | .con o a b, c, h => by
    obtain ⟨c, x, c', x', h1, h2, h3, h4, rfl⟩ := h
    have := rdc_len a c h1
    have := wr_len h2
    have := rdc_len b c' h3
    have := wr_len h4
    simp [Ex.size]; omega
theorem size_two {p q n : Nat} {x y : Nat} (h1 : x + 1 ≤ 2 ^ (p + 1)) (h2 : y + 1 ≤ 2 ^ (q + 1)) : x + y + 1 + 1 ≤ 2 ^ (max p q + 1 + 1) := by
  have h3 : 2 ^ (p + 1) ≤ 2 ^ (max p q + 1) := Nat.pow_le_pow_right (by decide) (by omega)
  have h4 : 2 ^ (q + 1) ≤ 2 ^ (max p q + 1) := Nat.pow_le_pow_right (by decide) (by omega)
  rw [Nat.pow_succ 2 (max p q + 1)]; omega
theorem size_le : ∀ e : Ex, e.size + 1 ≤ 2 ^ (e.dep + 1)
  | .num z => by simp [Ex.size, Ex.dep]
  | .var l => by simp [Ex.size, Ex.dep]
  | .neg a => by
    have := size_le a
    simp only [Ex.size, Ex.dep]
    rw [Nat.pow_succ]; omega
  | .nt a => by
    have := size_le a
    simp only [Ex.size, Ex.dep]
    rw [Nat.pow_succ]; omega
  | .bin o a b => size_two (n := 0) (size_le a) (size_le b)
  | .cmp o a b => size_two (n := 0) (size_le a) (size_le b)
  | .con o a b => size_two (n := 0) (size_le a) (size_le b)
theorem size_127 {e : Ex} (h : e.dep ≤ 6) : e.size ≤ 127 := by
  have h1 := size_le e
  have h2 : 2 ^ (e.dep + 1) ≤ 2 ^ 7 := Nat.pow_le_pow_right (by decide) (by omega)
  omega
theorem num_bits {z : Int} (h : z ∈ NUMS) : z.natAbs.log2 < 1920 := by
  have : ∀ z ∈ NUMS, z.natAbs.log2 < 1920 := by decide +kernel
  exact this z h
theorem okE_ok {e : Ex} (h : e.okE = true) : e.ok = true := by unfold Ex.ok; rw [h]; rfl
theorem okC_ok {e : Ex} (h : e.okC = true) : e.ok = true := by unfold Ex.ok; rw [h]; cases e.okE <;> rfl
theorem and3 {p a b : Bool} (h : (p && a && b) = true) : p = true ∧ a = true ∧ b = true := by
  cases p <;> cases a <;> cases b <;> simp at h ⊢
/-- what a node of the kind is made of -/
theorem ok_bin {o : List Nat} {a b : Ex} (h : (Ex.bin o a b).ok = true) : o ∈ OPS ∧ a.okE = true ∧ b.okE = true := by
  have h2 : (decide (o ∈ OPS) && a.okE && b.okE) = true := by
    have : ((decide (o ∈ OPS) && a.okE && b.okE) || false) = true := h
    rwa [Bool.or_false] at this
  obtain ⟨h3, h4, h5⟩ := and3 h2
  exact ⟨of_decide_eq_true h3, h4, h5⟩
theorem ok_cmp {o : List Nat} {a b : Ex} (h : (Ex.cmp o a b).ok = true) : o ∈ CMPS ∧ a.okE = true ∧ b.okE = true := by
  obtain ⟨h3, h4, h5⟩ := and3 (show (decide (o ∈ CMPS) && a.okE && b.okE) = true from h)
  exact ⟨of_decide_eq_true h3, h4, h5⟩
theorem ok_con {o : List Nat} {a b : Ex} (h : (Ex.con o a b).ok = true) : o ∈ CONS ∧ a.okC = true ∧ b.okC = true := by
  obtain ⟨h3, h4, h5⟩ := and3 (show (decide (o ∈ CONS) && a.okC && b.okC) = true from h)
  exact ⟨of_decide_eq_true h3, h4, h5⟩
theorem ok_num {z : Int} (h : (Ex.num z).ok = true) : z ∈ NUMS := by
  have : (decide (z ∈ NUMS) || false) = true := h
  rw [Bool.or_false] at this
  exact of_decide_eq_true this
theorem ok_var {l : List Nat} (h : (Ex.var l).ok = true) : isName l = true := by
  have : (isName l || false) = true := h
  rwa [Bool.or_false] at this
theorem ok_neg {a : Ex} (h : (Ex.neg a).ok = true) : a.okE = true := by
  have : (a.okE || false) = true := h
  rwa [Bool.or_false] at this
theorem ok_nt {a : Ex} (h : (Ex.nt a).ok = true) : a.okC = true := h
def WORDS17 : List (List Nat) := [sNumber, sVariable, sNegate, [43], [45], [42], [47, 47], [109, 111, 100], sNot, [61], [33, 61], [60], [60, 61], [62], [62, 61], sOr, sAnd]
def CW : List (List Nat) := [sOr, sAnd, sNot, [61], [33, 61], [60], [60, 61], [62], [62, 61]]
theorem word_of {e : Ex} (hok : e.ok = true) : ∃ o xs, e.d = .tup (.str (S o) :: xs) ∧ o ∈ WORDS17 ∧ ((decide (o ∈ CW) = true ∧ e.bo = [91] ∧ e.bc = [93]) ∨ (decide (o ∈ CW) = false ∧ e.bo = [40] ∧ e.bc = [41])) := by
  cases e with
  | num z => exact ⟨_, _, rfl, by decide, .inr ⟨by decide, rfl, rfl⟩⟩
  | var l => exact ⟨_, _, rfl, by decide, .inr ⟨by decide, rfl, rfl⟩⟩
  | neg a => exact ⟨_, _, rfl, by decide, .inr ⟨by decide, rfl, rfl⟩⟩
  | nt a => exact ⟨_, _, rfl, by decide, .inl ⟨by decide, rfl, rfl⟩⟩
  | bin o a b =>
    have hall : ∀ o ∈ OPS, o ∈ WORDS17 ∧ decide (o ∈ CW) = false := by decide
    exact ⟨_, _, rfl, (hall o (ok_bin hok).1).1, .inr ⟨(hall o (ok_bin hok).1).2, rfl, rfl⟩⟩
  | cmp o a b =>
    have hall : ∀ o ∈ CMPS, o ∈ WORDS17 ∧ decide (o ∈ CW) = true := by decide
    exact ⟨_, _, rfl, (hall o (ok_cmp hok).1).1, .inl ⟨(hall o (ok_cmp hok).1).2, rfl, rfl⟩⟩
  | con o a b =>
    have hall : ∀ o ∈ CONS, o ∈ WORDS17 ∧ decide (o ∈ CW) = true := by decide
    exact ⟨_, _, rfl, (hall o (ok_con hok).1).1, .inl ⟨(hall o (ok_con hok).1).2, rfl, rfl⟩⟩
theorem in2 {o a b : List Nat} : inD (.str (S o)) [D.str (S a), D.str (S b)] = decide (o ∈ [a, b]) := inD_strs (ls := [a, b])
end
end K09

set_option Elab.async false
set_option linter.all false
set_option maxRecDepth 100000
set_option maxHeartbeats 4000000
namespace K09
open PySem PySem.Spec PyProof.Rows L2 DL
/-! ### the parser gives the tree -/
def kW (w : List Nat) : Kd := if w.head?.any (· ∈ LET) then (if w ∈ WRDS then .sign else .name) else if w.head?.any (· ∈ FIG) then .integer else .sign
def Tks (ws : List (List Nat)) (ts : List Tkn) : Prop := ts.map (fun t => (t.k, t.v)) = ws.map (fun w => (kW w, w))
theorem tks_cons {w : List Nat} {ws : List (List Nat)} {ts : List Tkn} (h : Tks (w :: ws) ts) : ∃ t ts', ts = t :: ts' ∧ t.k = kW w ∧ t.v = w ∧ Tks ws ts' := by
  unfold Tks at h
  cases ts with
  | nil => simp at h
  | cons t ts' =>
    simp only [List.map_cons, List.cons.injEq, Prod.mk.injEq] at h
    exact ⟨t, ts', rfl, h.1.1, h.1.2, h.2⟩
theorem tks_app {xs ys : List (List Nat)} {ts : List Tkn} (h : Tks (xs ++ ys) ts) : ∃ a b, ts = a ++ b ∧ Tks xs a ∧ Tks ys b := by
  unfold Tks at h
  rw [List.map_append] at h
  obtain ⟨a, b, rfl, h1, h2⟩ := List.map_eq_append_iff.mp h
  exact ⟨a, b, rfl, h1, h2⟩
theorem tks_nil {ts : List Tkn} (h : Tks [] ts) : ts = [] := by
  unfold Tks at h
  simpa using h
theorem sees_of {t : Tkn} {w : List Nat} {gs : List (List Nat)} (h1 : t.k = kW w) (h2 : t.v = w) : sees t gs = (decide (kW w = .sign) && decide (w ∈ gs)) := by
  unfold sees
  rw [h1, h2]
theorem num_int {z : Int} (h : z ∈ NUMS) : PySem.intText? (S (digs z)) = some z ∧ (digs z).length ≤ 30 ∧ kW (digs z) = .integer ∧ isNum (digs z) = true ∧ (digs z).all (fun c => decide (c ∈ FIG)) = true ∧ 0 < (digs z).length := by
  have : ∀ z ∈ NUMS, PySem.intText? (S (digs z)) = some z ∧ (digs z).length ≤ 30 ∧ kW (digs z) = .integer ∧ isNum (digs z) = true ∧ (digs z).all (fun c => decide (c ∈ FIG)) = true ∧ 0 < (digs z).length := by decide +kernel
  exact this z h
theorem name_kw {l : List Nat} (h : isName l = true) : kW l = .name ∧ l.length ≤ 8 ∧ 1 ≤ l.length ∧ (∀ c ∈ l, c ∈ LET) ∧ l ∉ WRDS := by
  unfold isName at h
  simp only [Bool.and_eq_true, decide_eq_true_eq, Bool.not_eq_true', decide_eq_false_iff_not, List.all_eq_true] at h
  obtain ⟨⟨⟨h1, h2⟩, h3⟩, h4⟩ := h
  have hw : l ∉ WRDS := fun z => h3 (by
    have : ∀ w ∈ WRDS, w ∈ RESV := by decide
    exact this l z)
  refine ⟨?_, h2, h1, h4, hw⟩
  cases l with
  | nil => simp at h1
  | cons c r =>
    unfold kW
    rw [if_pos (by simp [h4 c List.mem_cons_self]), if_neg hw]
theorem op_low {o : List Nat} (h : o ∈ OPS ++ CMPS ++ CONS) : (∀ c ∈ o, c < 128) ∧ o.length ≤ 3 := by
  have : ∀ o ∈ OPS ++ CMPS ++ CONS, (∀ c ∈ o, c < 128) ∧ o.length ≤ 3 := by decide
  exact this o h
end K09

set_option Elab.async false
set_option linter.all false
set_option maxRecDepth 100000
set_option maxHeartbeats 4000000
namespace K09
open PySem PySem.Spec PyProof.Rows L2 DL
section
variable {K : Frag} {mg : Str → Option Value} {ρ : DL.Env} {γ : Ga} {Q : QD}
/-- a node as a tuple or as a list -/
def ND (x : D) (o : List Nat) (as : List D) : Prop := x = .tup (.str (S o) :: as) ∨ x = .lst (.str (S o) :: as)
abbrev NE (x : D) (e : Ex) : Prop := x = e.d ∨ x = e.dl
theorem ix_nd {K : KX} {x : D} {o : List Nat} {as : List D} {z : Int} (h : ND x o as) (q : ∃ d, atI (.str (S o) :: as) z = some d ∧ Q d γ) : dR2 K (rIx K) x (.int z) γ Q := by
  obtain ⟨d, h1, h2⟩ := q
  rcases h with rfl | rfl
  · exact rix_tup h1 h2
  · exact rix_lst rfl h1 h2
theorem nd_num {x : D} {z : Int} (h : NE x (.num z)) : ND x sNumber [.int z] := h
theorem nd_var {x : D} {l : List Nat} (h : NE x (.var l)) : ND x sVariable [.str (S l)] := h
theorem nd_neg {x : D} {a : Ex} (h : NE x (.neg a)) : ∃ y, NE y a ∧ ND x sNegate [y] := by
  rcases h with rfl | rfl
  · exact ⟨_, .inl rfl, .inl rfl⟩
  · exact ⟨_, .inr rfl, .inr rfl⟩
theorem nd_nt {x : D} {a : Ex} (h : NE x (.nt a)) : ∃ y, NE y a ∧ ND x sNot [y] := by
  rcases h with rfl | rfl
  · exact ⟨_, .inl rfl, .inl rfl⟩
  · exact ⟨_, .inr rfl, .inr rfl⟩
theorem nd_bin {x : D} {o : List Nat} {a b : Ex} (h : NE x (.bin o a b)) : ∃ y z, NE y a ∧ NE z b ∧ ND x o [y, z] := by
  rcases h with rfl | rfl
  · exact ⟨_, _, .inl rfl, .inl rfl, .inl rfl⟩
  · exact ⟨_, _, .inr rfl, .inr rfl, .inr rfl⟩
theorem nd_cmp {x : D} {o : List Nat} {a b : Ex} (h : NE x (.cmp o a b)) : ∃ y z, NE y a ∧ NE z b ∧ ND x o [y, z] := by
  rcases h with rfl | rfl
  · exact ⟨_, _, .inl rfl, .inl rfl, .inl rfl⟩
  · exact ⟨_, _, .inr rfl, .inr rfl, .inr rfl⟩
theorem nd_con {x : D} {o : List Nat} {a b : Ex} (h : NE x (.con o a b)) : ∃ y z, NE y a ∧ NE z b ∧ ND x o [y, z] := by
  rcases h with rfl | rfl
  · exact ⟨_, _, .inl rfl, .inl rfl, .inl rfl⟩
  · exact ⟨_, _, .inr rfl, .inr rfl, .inr rfl⟩
theorem canon_len : ∀ e : Ex, e.ok = true → (canon e).length + 8 ≤ 40 * e.size
  | .num z, hok => by
    have := (num_int (ok_num hok)).2.1
    simp only [canon, Ex.size]; omega
  | .var l, hok => by
    have := (name_kw (ok_var hok)).2.1
    simp only [canon, Ex.size]; omega
  | .neg a, hok => by
    have := canon_len a (okE_ok (ok_neg hok))
    have := wrap_len a 3 (canon a)
    simp only [canon, Ex.size, List.length_append, List.length_cons, List.length_nil]; omega
  | .nt a, hok => by
    have := canon_len a (okC_ok (ok_nt hok))
    have := wrap_len a 3 (canon a)
    simp only [canon, Ex.size, List.length_append, List.length_cons, List.length_nil]; omega
  | .bin o a b, hok => by
    obtain ⟨ho, ha, hb⟩ := ok_bin hok
    have := (op_low (o := o) (by simp [ho])).2
    have := canon_len a (okE_ok ha)
    have := canon_len b (okE_ok hb)
    have := wrap_len a (rankOf o) (canon a)
    have := wrap_len b (rankOf o + 1) (canon b)
    simp only [canon, Ex.size, List.length_append, List.length_cons, List.length_nil]; omega
  | .cmp o a b, hok => by
    obtain ⟨ho, ha, hb⟩ := ok_cmp hok
    have := (op_low (o := o) (by simp [ho])).2
    have := canon_len a (okE_ok ha)
    have := canon_len b (okE_ok hb)
    simp only [canon, Ex.size, List.length_append, List.length_cons, List.length_nil]; omega
  | .con o a b, hok => by
    obtain ⟨ho, ha, hb⟩ := ok_con hok
    have := (op_low (o := o) (by simp [ho])).2
    have := canon_len a (okC_ok ha)
    have := canon_len b (okC_ok hb)
    have := wrap_len a (rankC o) (canon a)
    have := wrap_len b (rankC o + 1) (canon b)
    simp only [canon, Ex.size, List.length_append, List.length_cons, List.length_nil]; omega
where
  wrap_len (e : Ex) (n : Nat) (t : List Nat) : (wrap e n t).length ≤ t.length + 2 := by
    have hb : e.bo.length = 1 ∧ e.bc.length = 1 := by cases e <;> exact ⟨rfl, rfl⟩
    unfold wrap
    split
    · simp only [List.length_append]; omega
    · omega
theorem wrap_le (e : Ex) (n : Nat) (t : List Nat) : (wrap e n t).length ≤ t.length + 2 := canon_len.wrap_len e n t
end
end K09

set_option Elab.async false
set_option linter.all false
set_option maxRecDepth 100000
set_option maxHeartbeats 4000000
namespace K09
open PySem PySem.Spec PyProof.Rows L2 DL
local macro_rules | `(tactic| walk_at "GO") => `(tactic| repeat' (first | with_reducible refine xs_seq ?_ | with_reducible refine xs_set ?_ | with_reducible refine xs_asg ?_ | with_reducible refine xs_if ?_ | with_reducible refine xs_ret ?_ | with_reducible refine xs_next ?_ | with_reducible refine xs_expr ?_ | with_reducible refine xs_fld ?_ | with_reducible refine xs_par ?_ | with_reducible refine xs_retN ?_ | with_reducible refine xs_brk ?_ | with_reducible refine xp_nil ?_ | with_reducible refine xp_cons ?_ | with_reducible refine xe_disp ?_ | with_reducible refine xe_dispM ?_ | with_reducible refine xs_cont ?_ | with_reducible refine da_nil ?_ | with_reducible refine da_cons ?_ | with_reducible refine de_int ?_ | with_reducible refine de_str ?_ | with_reducible refine de_bl ?_ | with_reducible refine de_non ?_ | with_reducible refine de_ty ?_ | ((with_reducible refine xe_var ?_); refine ⟨_, rfl, ?_⟩) | with_reducible refine de_op ?_ | with_reducible refine de_un ?_ | with_reducible refine de_call ?_ | with_reducible refine de_cb ?_ | with_reducible refine de_sl ?_ | with_reducible refine do_none ?_ | with_reducible refine do_some ?_ | with_reducible refine de_if ?_ | with_reducible refine de_andV ?_ | with_reducible refine de_orV ?_ | with_reducible refine de_notV ?_ | with_reducible refine de_chain ?_ | with_reducible refine dt_test ?_ | with_reducible refine dt_B ?_ | with_reducible refine dt_and ?_ | with_reducible refine dt_or ?_ | with_reducible refine dt_not ?_ | (with_reducible refine xe_tup ?_) | (with_reducible refine xe_lst ?_) | (with_reducible refine xe_lstM ?_) | (with_reducible refine de_meth ?_) | with_reducible refine xs_dput ?_ | with_reducible refine xs_daug ?_ | with_reducible refine de_dget ?_ | with_reducible refine de_dgt1 ?_ | with_reducible refine de_dgt2 ?_ | with_reducible refine de_din ?_ | with_reducible refine de_dnotin ?_ | with_reducible refine de_dnewK ?_ | with_reducible refine de_dnewT ?_ | with_reducible refine de_revL ?_ | (with_reducible refine de_bm ?_) | (with_reducible refine de_bm0 ?_) | (with_reducible refine ⟨isTy_str, ?_⟩) | (with_reducible refine ⟨xty_lst ⟨_, rfl⟩, ?_⟩) | with_reducible refine radd_int ?_ | with_reducible refine radd_S ?_ ?_ | with_reducible refine rsub_int ?_ | with_reducible refine req_int ?_ | with_reducible refine rne_int ?_ | with_reducible refine req_S ?_ | with_reducible refine rne_S ?_ | with_reducible refine rlt_int ?_ | with_reducible refine rle_int ?_ | with_reducible refine rgt_int ?_ | with_reducible refine rge_int ?_ | with_reducible refine rneg_int ?_ | with_reducible refine rin_sgn ?_ | with_reducible refine rni_sgn ?_ | with_reducible refine rc_len_S ?_ ?_ | with_reducible refine rc_int_bl ?_ | with_reducible refine rc_str_int ?_ ?_ | with_reducible refine rc_str_str ?_ | with_reducible refine rc_max2 ?_ | with_reducible refine rc_abs ?_ | with_reducible refine req_bl ?_ | with_reducible refine rne_bl ?_ | with_reducible refine rltg_i ?_ | with_reducible refine rleg_i ?_ | with_reducible refine rgtg_i ?_ | with_reducible refine rgeg_i ?_ | with_reducible refine rltg_b ?_ | with_reducible refine rleg_b ?_ | with_reducible refine rgtg_b ?_ | with_reducible refine rgeg_b ?_ | with_reducible refine rist ?_ | with_reducible refine rntt ?_ | with_reducible refine dt_truth ?_ | ((with_reducible refine xc_isi ?_); refine ⟨_, true, rfl, rfl, ?_⟩) | ((with_reducible refine xc_isi ?_); refine ⟨_, false, rfl, rfl, ?_⟩) | with_reducible refine di_str ?_ | with_reducible refine di_list ?_ | with_reducible refine di_tup ?_ | with_reducible refine di_rng1 ?_ | with_reducible refine di_rng2 ?_ | with_reducible refine ift ?_ | with_reducible refine iff_ ?_ | with_reducible refine ifnt ?_ | with_reducible refine ifnf ?_ | with_reducible refine rin_strs sq_c ?_ | with_reducible refine rni_strs sq_c ?_ | with_reducible refine rin_strs sq_t ?_ | with_reducible refine rni_strs sq_t ?_ | with_reducible refine rin_strs sq_l ?_ | with_reducible refine rni_strs sq_l ?_ | with_reducible refine rin_strs (sq_v rfl) ?_ | with_reducible refine rni_strs (sq_v rfl) ?_ | ((with_reducible refine rin_seq sq_c ?_ ?_ ?_); rfl; rfl) | ((with_reducible refine rin_seq sq_t ?_ ?_ ?_); rfl; rfl) | ((with_reducible refine rin_seq sq_l ?_ ?_ ?_); rfl; rfl) | ((with_reducible refine rin_seq (sq_v rfl) ?_ ?_ ?_); rfl; rfl) | ((with_reducible refine rni_seq sq_c ?_ ?_ ?_); rfl; rfl) | ((with_reducible refine rni_seq sq_t ?_ ?_ ?_); rfl; rfl) | ((with_reducible refine rni_seq sq_l ?_ ?_ ?_); rfl; rfl) | ((with_reducible refine rni_seq (sq_v rfl) ?_ ?_ ?_); rfl; rfl) | (with_reducible refine xix_tup ?_) | ((with_reducible refine xc_len ?_); refine ⟨_, sq_c, ?_⟩) | ((with_reducible refine xc_len ?_); refine ⟨_, sq_t, ?_⟩) | ((with_reducible refine xc_len ?_); refine ⟨_, sq_l, ?_⟩) | ((with_reducible refine xc_len ?_); refine ⟨_, (sq_v rfl), ?_⟩) | (with_reducible refine rm_count ?_) | (with_reducible refine ⟨_, rfl, ?_⟩) | (with_reducible refine ⟨_, .inl rfl, ?_⟩) | (with_reducible refine ⟨_, .inr rfl, ?_⟩) | (with_reducible refine ⟨_, _, rfl, ?_⟩) | ((with_reducible refine xix_lst ?_); refine ⟨_, rfl, _, rfl, ?_⟩) | ((with_reducible refine xadd_lst ?_); refine ⟨_, rfl, _, rfl, ?_, ?_⟩) | with_reducible refine rmul_int ?_ ?_ | with_reducible refine rmod_int ?_ ?_ | with_reducible refine rfdiv_int ?_ ?_ | with_reducible refine rpow_int ?_ ?_ | with_reducible refine xg_setL ?_ | refine ⟨_, _, _, _, rfl, rfl, rfl, rfl, ?_⟩ | with_reducible refine xg_name ?_ | with_reducible refine xg_tup rfl ?_ | with_reducible refine xgs_name ?_ | with_reducible refine xgs_nil ?_ | (with_reducible refine ⟨Nat.le_of_ble_eq_true rfl, ?_⟩) | fail))
section
variable {K : Frag} {mg : Str → Option Value} {ρ : DL.Env} {γ : Ga} {Q : QD}
theorem join3 {a b c : List Nat} : Txt.join (S [32]) [S a, S b, S c] = S (a ++ [32] ++ b ++ [32] ++ c) := by
  refine (StrLaws.glued_eq_join _ _).trans ?_
  show S a ++ S [32] ++ (S b ++ S [32] ++ S c) = _
  rw [S_app, S_app, S_app, S_app]
  simp
theorem rk_cases (e : Ex) : e.rk = 1 ∨ e.rk = 2 ∨ e.rk = 3 := by
  cases e with
  | bin o a b =>
    show rankOf o = 1 ∨ rankOf o = 2 ∨ rankOf o = 3
    unfold rankOf
    split <;> omega
  | con o a b =>
    show rankC o = 1 ∨ rankC o = 2 ∨ rankC o = 3
    unfold rankC
    split <;> omega
  | _ => exact .inr (.inr rfl)
theorem dl_L_canonical (T : Tx K mg) (s : SpD) (dp : Nat) (hrec : ∀ dp', dp = dp' + 1 → ∀ ds γ q e, spCan K dp' ds γ q e → s ds γ q e) : DL_L_canonical K s (spCan K dp) := by
  rintro ds γ q e' E0 lo1 lo2 ⟨e, least, rfl, hok, hdp, hsz, hl1, hl3, hq⟩
  refine dS_env (ρ' := [some e.d, some (.int least), none, none, none, none]) rfl ?_
  unfold t_L_canonical
  have hcl := canon_len e hok
  obtain ⟨o, xs, ho, hos, hbar⟩ := word_of hok
  refine xs_cut (fun ρ' γ' => ρ' = [some e.d, some (.int least), some (.str (S o)), none, none, none] ∧ γ' = γ) ?_ ?_
  · rw [ho]
    walk_at "GO"
    exact ⟨_, at_nat (j := 0) rfl, rfl, rfl⟩
  rintro ρ' γ' ⟨rfl, rfl⟩
  refine xs_cut (fun ρ' γ'' => ρ' = [some e.d, some (.int least), some (.str (S o)), some (.int e.rk), none, none] ∧ γ'' = γ') ?_ ?_
  · walk_at "GO"
    exact ⟨e, hok, _, _, ho, rfl, rfl, rfl⟩
  rintro ρ' γ'' ⟨rfl, rfl⟩
  refine xs_cut (fun ρ' γ' => ρ' = [some e.d, some (.int least), some (.str (S o)), some (.int e.rk), some (.str (S (canon e))), none] ∧ γ' = γ'') ?_ ?_
  · have one : ∀ (a : Ex) (w : List Nat) (tw : TE), a.ok = true → a.dep + 1 ≤ dp → e.size = a.size + 1 → e.d = .tup [.str (S o), a.d] → canon e = w ++ wrap a 3 (canon a) → w.length ≤ 4 →
        (∀ γ (Q : QD), Q (.str (S w)) γ → dE ⟨K, wOf E0, fun _ => DrX γ''.length e'⟩ tw [some e.d, some (.int least), some (.str (S o)), some (.int e.rk), none, none] γ Q) →
        ∀ {bk ct : DL.Env → Ga → Prop} {rt : QD}, dS ⟨K, wOf E0, fun _ => DrX γ''.length e'⟩ γ''.length (tAsg (tOp (rAddG K) tw (tCallW (toSp K s) (WE (wOf E0)) (tCons (tOp (rIx K) (tVar 0) (tC (.int 1))) (tCons (tC (.int 3)) tNil)))) (gName 4)) [some e.d, some (.int least), some (.str (S o)), some (.int e.rk), none, none] γ'' ⟨fun ρ' γ' => ρ' = [some e.d, some (.int least), some (.str (S o)), some (.int e.rk), some (.str (S (canon e))), none] ∧ γ' = γ'', rt, bk, ct⟩ := by
      rintro a w tw ha hda hs hed hcn hwl htw bk ct rt
      have ix1 : ∀ γ (Q : QD), Q a.d γ → dR2 ⟨K, wOf E0, fun _ => DrX γ''.length e'⟩ (rIx K) e.d (.int 1) γ Q := by rw [hed]; exact fun γ Q h => xix_tup ⟨_, rfl, h⟩
      obtain ⟨dp', rfl⟩ : ∃ k, dp = k + 1 := ⟨dp - 1, by omega⟩
      have la := canon_len a ha
      have lw := wrap_le a 3 (canon a)
      walk_at "GO"
      refine htw _ _ ?_
      walk_at "GO"
      refine ix1 _ _ ?_
      walk_at "GO"
      refine hrec dp' rfl _ _ _ _ ⟨a, 3, rfl, ha, by omega, by omega, by decide, by decide, ?_⟩
      walk_at "GO"
      · omega
      rw [hcn]
      exact ⟨rfl, rfl⟩
    have two : ∀ (a b : Ex) (l1 l2 : Nat) (t1 t2 : TE), a.ok = true → b.ok = true → max a.dep b.dep + 1 ≤ dp → e.size = a.size + b.size + 1 → e.d = .tup [.str (S o), a.d, b.d] → 1 ≤ l1 → l1 ≤ 3 → 1 ≤ l2 → l2 ≤ 3 → o.length ≤ 3 → canon e = wrap a l1 (canon a) ++ [32] ++ o ++ [32] ++ wrap b l2 (canon b) →
        (∀ γ (Q : QD), Q (.int l1) γ → dE ⟨K, wOf E0, fun _ => DrX γ''.length e'⟩ t1 [some e.d, some (.int least), some (.str (S o)), some (.int e.rk), none, none] γ Q) → (∀ γ (Q : QD), Q (.int l2) γ → dE ⟨K, wOf E0, fun _ => DrX γ''.length e'⟩ t2 [some e.d, some (.int least), some (.str (S o)), some (.int e.rk), none, none] γ Q) →
        ∀ {bk ct : DL.Env → Ga → Prop} {rt : QD}, dS ⟨K, wOf E0, fun _ => DrX γ''.length e'⟩ γ''.length (tAsg (tBM K "str" (rJoin K) (tC (.str (S [32]))) (tCons (tLst (tCons (tCallW (toSp K s) (WE (wOf E0)) (tCons (tOp (rIx K) (tVar 0) (tC (.int 1))) (tCons t1 tNil))) (tCons (tVar 2) (tCons (tCallW (toSp K s) (WE (wOf E0)) (tCons (tOp (rIx K) (tVar 0) (tC (.int 2))) (tCons t2 tNil))) tNil)))) tNil)) (gName 4)) [some e.d, some (.int least), some (.str (S o)), some (.int e.rk), none, none] γ'' ⟨fun ρ' γ' => ρ' = [some e.d, some (.int least), some (.str (S o)), some (.int e.rk), some (.str (S (canon e))), none] ∧ γ' = γ'', rt, bk, ct⟩ := by
      rintro a b l1 l2 t1 t2 ha hb hda hs hed h1 h2 h3 h4 hol hcn ht1 ht2 bk ct rt
      have ix1 : ∀ γ (Q : QD), Q a.d γ → dR2 ⟨K, wOf E0, fun _ => DrX γ''.length e'⟩ (rIx K) e.d (.int 1) γ Q := by rw [hed]; exact fun γ Q h => xix_tup ⟨_, rfl, h⟩
      have ix2 : ∀ γ (Q : QD), Q b.d γ → dR2 ⟨K, wOf E0, fun _ => DrX γ''.length e'⟩ (rIx K) e.d (.int 2) γ Q := by rw [hed]; exact fun γ Q h => xix_tup ⟨_, rfl, h⟩
      obtain ⟨dp', rfl⟩ : ∃ k, dp = k + 1 := ⟨dp - 1, by omega⟩
      have la := canon_len a ha
      have lb := canon_len b hb
      have lwa := wrap_le a l1 (canon a)
      have lwb := wrap_le b l2 (canon b)
      walk_at "GO"
      refine ix1 _ _ ?_
      walk_at "GO"
      refine ht1 _ _ ?_
      walk_at "GO"
      refine hrec dp' rfl _ _ _ _ ⟨a, l1, rfl, ha, by omega, by omega, h1, h2, ?_⟩
      walk_at "GO"
      refine ix2 _ _ ?_
      walk_at "GO"
      refine ht2 _ _ ?_
      walk_at "GO"
      refine hrec dp' rfl _ _ _ _ ⟨b, l2, rfl, hb, by omega, by omega, h3, h4, ?_⟩
      walk_at "GO"
      refine rm_join (ys := [S (wrap a l1 (canon a)), S o, S (wrap b l2 (canon b))]) (.inl rfl) (by simp [S_len]; omega) ?_
      rw [join3, hcn]
      exact ⟨rfl, rfl⟩
    have rkl : ∀ e : Ex, e.ok = true → 1 ≤ e.rk := by
      intro e _
      have := rk_cases e
      omega
    have wrap1 : ∀ a : Ex, a.ok = true → wrap a 1 (canon a) = canon a := by
      intro a ha
      unfold wrap
      rw [if_neg (by have := rkl a ha; omega)]
    cases e with
    | num z =>
      cases ho
      have hz := ok_num hok
      refine xs_if (dt_test (de_op (xe_var ⟨_, rfl, de_tup (da_cons (de_str (da_cons (de_str (da_nil ⟨by decide, rin_seq sq_t rfl rfl ⟨_, rfl, ?_⟩⟩))))) ⟩)))
      rw [in2, show decide (sNumber ∈ [[110, 117, 109, 98, 101, 114], [118, 97, 114, 105, 97, 98, 108, 101]]) = true by decide]
      walk_at "GO"
      refine xix_tup (xs := [.str (S sNumber), .int z]) ⟨_, rfl, ?_⟩
      walk_at "GO"
      · exact num_bits hz
      rw [show (toString z : Str) = S (digs z) by unfold digs; rw [S_of]]
      exact ⟨rfl, rfl⟩
    | var l =>
      cases ho
      refine xs_if (dt_test (de_op (xe_var ⟨_, rfl, de_tup (da_cons (de_str (da_cons (de_str (da_nil ⟨by decide, rin_seq sq_t rfl rfl ⟨_, rfl, ?_⟩⟩))))) ⟩)))
      rw [in2, show decide (sVariable ∈ [[110, 117, 109, 98, 101, 114], [118, 97, 114, 105, 97, 98, 108, 101]]) = true by decide]
      walk_at "GO"
      refine xix_tup (xs := [.str (S sVariable), .str (S l)]) ⟨_, rfl, ?_⟩
      walk_at "GO"
      exact ⟨rfl, rfl⟩
    | neg a =>
      cases ho
      have ha := ok_neg hok
      simp only [Ex.dep] at hdp
      refine xs_if (dt_test (de_op (xe_var ⟨_, rfl, de_tup (da_cons (de_str (da_cons (de_str (da_nil ⟨by decide, rin_seq sq_t rfl rfl ⟨_, rfl, ?_⟩⟩))))) ⟩)))
      rw [in2, show decide (sNegate ∈ [[110, 117, 109, 98, 101, 114], [118, 97, 114, 105, 97, 98, 108, 101]]) = false by decide]
      refine iff_ (xs_if (dt_test (de_op (xe_var ⟨_, rfl, de_tup (da_cons (de_str (da_cons (de_str (da_nil ⟨by decide, rin_seq sq_t rfl rfl ⟨_, rfl, ?_⟩⟩))))) ⟩))))
      rw [in2, show decide (sNegate ∈ [[110, 101, 103, 97, 116, 101], [110, 111, 116]]) = true by decide]
      refine ift (one a [45] _ (okE_ok ha) hdp rfl rfl rfl (by decide) fun γ Q hQ => ?_)
      walk_at "GO"
      exact hQ
    | nt a =>
      cases ho
      have ha := ok_nt hok
      simp only [Ex.dep] at hdp
      refine xs_if (dt_test (de_op (xe_var ⟨_, rfl, de_tup (da_cons (de_str (da_cons (de_str (da_nil ⟨by decide, rin_seq sq_t rfl rfl ⟨_, rfl, ?_⟩⟩))))) ⟩)))
      rw [in2, show decide (sNot ∈ [[110, 117, 109, 98, 101, 114], [118, 97, 114, 105, 97, 98, 108, 101]]) = false by decide]
      refine iff_ (xs_if (dt_test (de_op (xe_var ⟨_, rfl, de_tup (da_cons (de_str (da_cons (de_str (da_nil ⟨by decide, rin_seq sq_t rfl rfl ⟨_, rfl, ?_⟩⟩))))) ⟩))))
      rw [in2, show decide (sNot ∈ [[110, 101, 103, 97, 116, 101], [110, 111, 116]]) = true by decide]
      refine ift (one a [110, 111, 116, 32] _ (okC_ok ha) hdp rfl rfl rfl (by decide) fun γ Q hQ => ?_)
      walk_at "GO"
      exact hQ
    | bin o' a b =>
      cases ho
      obtain ⟨ho1, ha, hb⟩ := ok_bin hok
      simp only [Ex.dep] at hdp
      have hrk3 : 1 ≤ rankOf o ∧ rankOf o + 1 ≤ 3 := by unfold rankOf; split <;> omega
      refine xs_if (dt_test (de_op (xe_var ⟨_, rfl, de_tup (da_cons (de_str (da_cons (de_str (da_nil ⟨by decide, rin_seq sq_t rfl rfl ⟨_, rfl, ?_⟩⟩))))) ⟩)))
      rw [in2, show decide (o ∈ [[110, 117, 109, 98, 101, 114], [118, 97, 114, 105, 97, 98, 108, 101]]) = false by
        have : ∀ o ∈ OPS, decide (o ∈ [[110, 117, 109, 98, 101, 114], [118, 97, 114, 105, 97, 98, 108, 101]]) = false := by decide
        exact this o ho1]
      refine iff_ (xs_if (dt_test (de_op (xe_var ⟨_, rfl, de_tup (da_cons (de_str (da_cons (de_str (da_nil ⟨by decide, rin_seq sq_t rfl rfl ⟨_, rfl, ?_⟩⟩))))) ⟩))))
      rw [in2, show decide (o ∈ [[110, 101, 103, 97, 116, 101], [110, 111, 116]]) = false by
        have : ∀ o ∈ OPS, decide (o ∈ [[110, 101, 103, 97, 116, 101], [110, 111, 116]]) = false := by decide
        exact this o ho1]
      refine iff_ ?_
      walk_at "GO"
      refine rm_split (ys := CMPS.map S) (by decide) (by decide) (by decide +kernel) ?_
      refine rin_strs (ls := CMPS) (.inl rfl) ?_
      rw [show decide (o ∈ CMPS) = false by
        have : ∀ o ∈ OPS, decide (o ∈ CMPS) = false := by decide
        exact this o ho1]
      refine ⟨_, rfl, iff_ (two a b (rankOf o) (rankOf o + 1) _ _ (okE_ok ha) (okE_ok hb) hdp rfl rfl (by omega) (by omega) (by omega) (by omega) (op_low (o := o) (by simp [ho1])).2 rfl (fun γ Q hQ => ?_) fun γ Q hQ => ?_)⟩
      · walk_at "GO"
        exact hQ
      · walk_at "GO"
        exact hQ
    | con o' a b =>
      cases ho
      obtain ⟨ho1, ha, hb⟩ := ok_con hok
      simp only [Ex.dep] at hdp
      have hrk3 : 1 ≤ rankC o ∧ rankC o + 1 ≤ 3 := by unfold rankC; split <;> omega
      refine xs_if (dt_test (de_op (xe_var ⟨_, rfl, de_tup (da_cons (de_str (da_cons (de_str (da_nil ⟨by decide, rin_seq sq_t rfl rfl ⟨_, rfl, ?_⟩⟩))))) ⟩)))
      rw [in2, show decide (o ∈ [[110, 117, 109, 98, 101, 114], [118, 97, 114, 105, 97, 98, 108, 101]]) = false by
        have : ∀ o ∈ CONS, decide (o ∈ [[110, 117, 109, 98, 101, 114], [118, 97, 114, 105, 97, 98, 108, 101]]) = false := by decide
        exact this o ho1]
      refine iff_ (xs_if (dt_test (de_op (xe_var ⟨_, rfl, de_tup (da_cons (de_str (da_cons (de_str (da_nil ⟨by decide, rin_seq sq_t rfl rfl ⟨_, rfl, ?_⟩⟩))))) ⟩))))
      rw [in2, show decide (o ∈ [[110, 101, 103, 97, 116, 101], [110, 111, 116]]) = false by
        have : ∀ o ∈ CONS, decide (o ∈ [[110, 101, 103, 97, 116, 101], [110, 111, 116]]) = false := by decide
        exact this o ho1]
      refine iff_ ?_
      walk_at "GO"
      refine rm_split (ys := CMPS.map S) (by decide) (by decide) (by decide +kernel) ?_
      refine rin_strs (ls := CMPS) (.inl rfl) ?_
      rw [show decide (o ∈ CMPS) = false by
        have : ∀ o ∈ CONS, decide (o ∈ CMPS) = false := by decide
        exact this o ho1]
      refine ⟨_, rfl, iff_ (two a b (rankC o) (rankC o + 1) _ _ (okC_ok ha) (okC_ok hb) hdp rfl rfl (by omega) (by omega) (by omega) (by omega) (op_low (o := o) (by simp [ho1])).2 rfl (fun γ Q hQ => ?_) fun γ Q hQ => ?_)⟩
      · walk_at "GO"
        exact hQ
      · walk_at "GO"
        exact hQ
    | cmp o' a b =>
      cases ho
      obtain ⟨ho1, ha, hb⟩ := ok_cmp hok
      simp only [Ex.dep] at hdp
      refine xs_if (dt_test (de_op (xe_var ⟨_, rfl, de_tup (da_cons (de_str (da_cons (de_str (da_nil ⟨by decide, rin_seq sq_t rfl rfl ⟨_, rfl, ?_⟩⟩))))) ⟩)))
      rw [in2, show decide (o ∈ [[110, 117, 109, 98, 101, 114], [118, 97, 114, 105, 97, 98, 108, 101]]) = false by
        have : ∀ o ∈ CMPS, decide (o ∈ [[110, 117, 109, 98, 101, 114], [118, 97, 114, 105, 97, 98, 108, 101]]) = false := by decide
        exact this o ho1]
      refine iff_ (xs_if (dt_test (de_op (xe_var ⟨_, rfl, de_tup (da_cons (de_str (da_cons (de_str (da_nil ⟨by decide, rin_seq sq_t rfl rfl ⟨_, rfl, ?_⟩⟩))))) ⟩))))
      rw [in2, show decide (o ∈ [[110, 101, 103, 97, 116, 101], [110, 111, 116]]) = false by
        have : ∀ o ∈ CMPS, decide (o ∈ [[110, 101, 103, 97, 116, 101], [110, 111, 116]]) = false := by decide
        exact this o ho1]
      refine iff_ ?_
      walk_at "GO"
      refine rm_split (ys := CMPS.map S) (by decide) (by decide) (by decide +kernel) ?_
      refine rin_strs (ls := CMPS) (.inl rfl) ?_
      rw [show decide (o ∈ CMPS) = true from decide_eq_true ho1]
      refine ⟨_, rfl, ift (two a b 1 1 _ _ (okE_ok ha) (okE_ok hb) hdp rfl rfl (by decide) (by decide) (by decide) (by decide) (op_low (o := o) (by simp [ho1])).2 (by rw [wrap1 a (okE_ok ha), wrap1 b (okE_ok hb)]; rfl) (fun γ Q hQ => ?_) fun γ Q hQ => ?_)⟩
      · walk_at "GO"
        exact hQ
      · walk_at "GO"
        exact hQ
  rintro ρ' γ' ⟨rfl, rfl⟩
  have hbr : e.rk < least → ∃ x y, e.bo = [x] ∧ e.bc = [y] ∧ atI [D.str (S [40, 41]), .str (S [91, 93])] (if inD (.str (S o)) [D.str (S [111, 114]), .str (S [97, 110, 100])] = true then 1 else 0) = some (.str (S [x, y])) := by
    intro hlt
    rw [in2]
    cases e with
    | num z => exact absurd hlt (by show ¬ 3 < least; omega)
    | var l => exact absurd hlt (by show ¬ 3 < least; omega)
    | neg a => exact absurd hlt (by show ¬ 3 < least; omega)
    | nt a => exact absurd hlt (by show ¬ 3 < least; omega)
    | cmp o a b => exact absurd hlt (by show ¬ 3 < least; omega)
    | bin o' a b =>
      cases ho
      have hall : ∀ o ∈ OPS, decide (o ∈ [[111, 114], [97, 110, 100]]) = false := by decide
      rw [hall o (ok_bin hok).1]
      exact ⟨40, 41, rfl, rfl, rfl⟩
    | con o' a b =>
      cases ho
      have hall : ∀ o ∈ CONS, decide (o ∈ [[111, 114], [97, 110, 100]]) = true := by decide
      rw [hall o (ok_con hok).1]
      exact ⟨91, 93, rfl, rfl, rfl⟩
  have hany : ∃ x y, atI [D.str (S [40, 41]), .str (S [91, 93])] (if inD (.str (S o)) [D.str (S [111, 114]), .str (S [97, 110, 100])] = true then 1 else 0) = some (.str (S [x, y])) ∧ (e.rk < least → e.bo = [x] ∧ e.bc = [y]) := by
    by_cases hlt : e.rk < least
    · obtain ⟨x, y, h1, h2, h3⟩ := hbr hlt
      exact ⟨x, y, h3, fun _ => ⟨h1, h2⟩⟩
    · cases inD (.str (S o)) [D.str (S [111, 114]), .str (S [97, 110, 100])] with
      | true => exact ⟨91, 93, rfl, fun z => absurd z hlt⟩
      | false => exact ⟨40, 41, rfl, fun z => absurd z hlt⟩
  obtain ⟨x, y, hxy, hbo⟩ := hany
  walk_at "GO"
  refine xix_lst ⟨_, rfl, _, hxy, ?_⟩
  walk_at "GO"
  refine ifd (fun c1 => ?_) (fun c1 => ?_)
  · have hlt : e.rk < least := by omega
    obtain ⟨h1, h2⟩ := hbo hlt
    walk_at "GO"
    refine xix_str (by simp) ⟨x, rfl, ?_⟩
    walk_at "GO"
    · simp; omega
    refine xix_str (by simp) ⟨y, rfl, ?_⟩
    walk_at "GO"
    · simp; omega
    have hwr : wrap e least (canon e) = [x] ++ canon e ++ [y] := by unfold wrap; rw [if_pos hlt, h1, h2]
    rw [hwr] at hq
    exact .inl hq
  · walk_at "GO"
    have : wrap e least (canon e) = canon e := by unfold wrap; rw [if_neg (by omega)]
    rw [this] at hq
    exact .inl hq
end
end K09

set_option Elab.async false
set_option linter.all false
set_option maxRecDepth 100000
set_option maxHeartbeats 4000000
namespace K09
open PySem PySem.Spec PyProof.Rows L2 DL
local macro_rules | `(tactic| walk_at "GO") => `(tactic| repeat' (first | with_reducible refine xs_seq ?_ | with_reducible refine xs_set ?_ | with_reducible refine xs_asg ?_ | with_reducible refine xs_if ?_ | with_reducible refine xs_ret ?_ | with_reducible refine xs_next ?_ | with_reducible refine xs_expr ?_ | with_reducible refine xs_fld ?_ | with_reducible refine xs_par ?_ | with_reducible refine xs_retN ?_ | with_reducible refine xs_brk ?_ | with_reducible refine xp_nil ?_ | with_reducible refine xp_cons ?_ | with_reducible refine xe_disp ?_ | with_reducible refine xe_dispM ?_ | with_reducible refine xs_cont ?_ | with_reducible refine da_nil ?_ | with_reducible refine da_cons ?_ | with_reducible refine de_int ?_ | with_reducible refine de_str ?_ | with_reducible refine de_bl ?_ | with_reducible refine de_non ?_ | with_reducible refine de_ty ?_ | ((with_reducible refine xe_var ?_); refine ⟨_, rfl, ?_⟩) | with_reducible refine de_op ?_ | with_reducible refine de_un ?_ | with_reducible refine de_call ?_ | with_reducible refine de_cb ?_ | with_reducible refine de_sl ?_ | with_reducible refine do_none ?_ | with_reducible refine do_some ?_ | with_reducible refine de_if ?_ | with_reducible refine de_andV ?_ | with_reducible refine de_orV ?_ | with_reducible refine de_notV ?_ | with_reducible refine de_chain ?_ | with_reducible refine dt_test ?_ | with_reducible refine dt_B ?_ | with_reducible refine dt_and ?_ | with_reducible refine dt_or ?_ | with_reducible refine dt_not ?_ | (with_reducible refine xe_tup ?_) | (with_reducible refine xe_lst ?_) | (with_reducible refine xe_lstM ?_) | (with_reducible refine de_meth ?_) | with_reducible refine xs_dput ?_ | with_reducible refine xs_daug ?_ | with_reducible refine de_dget ?_ | with_reducible refine de_dgt1 ?_ | with_reducible refine de_dgt2 ?_ | with_reducible refine de_din ?_ | with_reducible refine de_dnotin ?_ | with_reducible refine de_dnewK ?_ | with_reducible refine de_dnewT ?_ | with_reducible refine de_revL ?_ | (with_reducible refine de_bm ?_) | (with_reducible refine de_bm0 ?_) | (with_reducible refine ⟨isTy_str, ?_⟩) | (with_reducible refine ⟨xty_lst ⟨_, rfl⟩, ?_⟩) | with_reducible refine radd_int ?_ | with_reducible refine radd_S ?_ ?_ | with_reducible refine rsub_int ?_ | with_reducible refine req_int ?_ | with_reducible refine rne_int ?_ | with_reducible refine req_S ?_ | with_reducible refine rne_S ?_ | with_reducible refine rlt_int ?_ | with_reducible refine rle_int ?_ | with_reducible refine rgt_int ?_ | with_reducible refine rge_int ?_ | with_reducible refine rneg_int ?_ | with_reducible refine rin_sgn ?_ | with_reducible refine rni_sgn ?_ | with_reducible refine rc_len_S ?_ ?_ | with_reducible refine rc_int_bl ?_ | with_reducible refine rc_str_int ?_ ?_ | with_reducible refine rc_str_str ?_ | with_reducible refine rc_max2 ?_ | with_reducible refine rc_abs ?_ | with_reducible refine req_bl ?_ | with_reducible refine rne_bl ?_ | with_reducible refine rltg_i ?_ | with_reducible refine rleg_i ?_ | with_reducible refine rgtg_i ?_ | with_reducible refine rgeg_i ?_ | with_reducible refine rltg_b ?_ | with_reducible refine rleg_b ?_ | with_reducible refine rgtg_b ?_ | with_reducible refine rgeg_b ?_ | with_reducible refine rist ?_ | with_reducible refine rntt ?_ | with_reducible refine dt_truth ?_ | ((with_reducible refine xc_isi ?_); refine ⟨_, true, rfl, rfl, ?_⟩) | ((with_reducible refine xc_isi ?_); refine ⟨_, false, rfl, rfl, ?_⟩) | with_reducible refine di_str ?_ | with_reducible refine di_list ?_ | with_reducible refine di_tup ?_ | with_reducible refine di_rng1 ?_ | with_reducible refine di_rng2 ?_ | with_reducible refine ift ?_ | with_reducible refine iff_ ?_ | with_reducible refine ifnt ?_ | with_reducible refine ifnf ?_ | with_reducible refine rin_strs sq_c ?_ | with_reducible refine rni_strs sq_c ?_ | with_reducible refine rin_strs sq_t ?_ | with_reducible refine rni_strs sq_t ?_ | with_reducible refine rin_strs sq_l ?_ | with_reducible refine rni_strs sq_l ?_ | with_reducible refine rin_strs (sq_v rfl) ?_ | with_reducible refine rni_strs (sq_v rfl) ?_ | ((with_reducible refine rin_seq sq_c ?_ ?_ ?_); rfl; rfl) | ((with_reducible refine rin_seq sq_t ?_ ?_ ?_); rfl; rfl) | ((with_reducible refine rin_seq sq_l ?_ ?_ ?_); rfl; rfl) | ((with_reducible refine rin_seq (sq_v rfl) ?_ ?_ ?_); rfl; rfl) | ((with_reducible refine rni_seq sq_c ?_ ?_ ?_); rfl; rfl) | ((with_reducible refine rni_seq sq_t ?_ ?_ ?_); rfl; rfl) | ((with_reducible refine rni_seq sq_l ?_ ?_ ?_); rfl; rfl) | ((with_reducible refine rni_seq (sq_v rfl) ?_ ?_ ?_); rfl; rfl) | (with_reducible refine xix_tup ?_) | ((with_reducible refine xc_len ?_); refine ⟨_, sq_c, ?_⟩) | ((with_reducible refine xc_len ?_); refine ⟨_, sq_t, ?_⟩) | ((with_reducible refine xc_len ?_); refine ⟨_, sq_l, ?_⟩) | ((with_reducible refine xc_len ?_); refine ⟨_, (sq_v rfl), ?_⟩) | (with_reducible refine rm_count ?_) | (with_reducible refine ⟨_, rfl, ?_⟩) | (with_reducible refine ⟨_, .inl rfl, ?_⟩) | (with_reducible refine ⟨_, .inr rfl, ?_⟩) | (with_reducible refine ⟨_, _, rfl, ?_⟩) | ((with_reducible refine xix_lst ?_); refine ⟨_, rfl, _, rfl, ?_⟩) | ((with_reducible refine xadd_lst ?_); refine ⟨_, rfl, _, rfl, ?_, ?_⟩) | with_reducible refine rmul_int ?_ ?_ | with_reducible refine rmod_int ?_ ?_ | with_reducible refine rfdiv_int ?_ ?_ | with_reducible refine rpow_int ?_ ?_ | with_reducible refine xg_setL ?_ | refine ⟨_, _, _, _, rfl, rfl, rfl, rfl, ?_⟩ | with_reducible refine xg_name ?_ | with_reducible refine xg_tup rfl ?_ | with_reducible refine xgs_name ?_ | with_reducible refine xgs_nil ?_ | (with_reducible refine ⟨Nat.le_of_ble_eq_true rfl, ?_⟩) | fail))
section
variable {K : Frag} {mg : Str → Option Value} {ρ : DL.Env} {γ : Ga} {Q : QD}
theorem dl_L_listed (T : Tx K mg) (s : SpD) (dp : Nat) (hrec : ∀ ds γ q e, (dp = 0 → (∃ x, ds = [x] ∧ x.flat = true ∧ q x γ)) → (∀ dp', dp = dp' + 1 → spLst K dp' ds γ q e) → s ds γ q e) : DL_L_listed K s (spLst K dp) := by
  rintro ds γ q e' E0 lo1 lo2 ⟨x, rfl, hx⟩
  refine dS_env (ρ' := [some x, none]) rfl ?_
  unfold t_L_listed
  rcases hx with ⟨e, rfl, hdp, hq⟩ | ⟨hf, hq⟩
  · have main : ∀ xs : List (D × D), e.d = .tup (xs.map (·.1)) → e.dl = .lst (xs.map (·.2)) → xs.length ≤ 3 → (∀ p ∈ xs, (p.1.flat = true ∧ p.2 = p.1) ∨ ∃ a : Ex, p.1 = a.d ∧ p.2 = a.dl ∧ a.dep + 1 ≤ dp) →
        dS ⟨K, wOf E0, fun _ => DrX γ.length e'⟩ γ.length (tRet (tIf (tB (tCB (rIsi K) (tCons (tVar 0) (tCons (tC (.ty "tuple")) tNil)))) (tLc (iTup K (tVar 0)) (gName 1) tYes (tCallW (toSp K s) (WE W0) (tCons (tVar 1) tNil)) [1]) (tVar 0))) [some e.d, none] γ ⟨fun _ γ' => Dr γ.length q .non γ', Dr γ.length q, fun _ _ => False, fun _ _ => False⟩ := by
      intro xs h1 h2 h3 h4
      rw [h1]
      walk_at "GO"
      refine xe_lcN xs (·.1) (·.2) (by simp) ?_
      walk_at "GO"
      refine ⟨rfl, by omega, fun p hp => ?_, ?_⟩
      · walk_at "GO"
        refine hrec _ _ _ _ (fun h0 => ?_) (fun dp' hd => ?_)
        · rcases h4 p hp with ⟨f1, f2⟩ | ⟨a, f1, f2, f3⟩
          · exact ⟨_, rfl, f1, f2.symm, rfl⟩
          · omega
        · rcases h4 p hp with ⟨f1, f2⟩ | ⟨a, f1, f2, f3⟩
          · exact ⟨_, rfl, .inr ⟨f1, f2.symm, rfl⟩⟩
          · refine ⟨_, rfl, .inl ⟨a, f1, by omega, ?_, rfl⟩⟩
            exact f2.symm
      · rw [← h2]
        exact .inl hq
    cases e with
    | num z => exact main [(.str (S sNumber), .str (S sNumber)), (.int z, .int z)] rfl rfl (by simp) (by
        intro p hp
        simp at hp
        rcases hp with rfl | rfl <;> exact .inl ⟨rfl, rfl⟩)
    | var l => exact main [(.str (S sVariable), .str (S sVariable)), (.str (S l), .str (S l))] rfl rfl (by simp) (by
        intro p hp
        simp at hp
        rcases hp with rfl | rfl <;> exact .inl ⟨rfl, rfl⟩)
    | neg a => exact main [(.str (S sNegate), .str (S sNegate)), (a.d, a.dl)] rfl rfl (by simp) (by
        intro p hp
        simp only [Ex.dep] at hdp
        simp at hp
        rcases hp with rfl | rfl
        · exact .inl ⟨rfl, rfl⟩
        · exact .inr ⟨a, rfl, rfl, by omega⟩)
    | nt a => exact main [(.str (S sNot), .str (S sNot)), (a.d, a.dl)] rfl rfl (by simp) (by
        intro p hp
        simp only [Ex.dep] at hdp
        simp at hp
        rcases hp with rfl | rfl
        · exact .inl ⟨rfl, rfl⟩
        · exact .inr ⟨a, rfl, rfl, by omega⟩)
    | bin o a b => exact main [(.str (S o), .str (S o)), (a.d, a.dl), (b.d, b.dl)] rfl rfl (by simp) (by
        intro p hp
        simp only [Ex.dep] at hdp
        simp at hp
        rcases hp with rfl | rfl | rfl
        · exact .inl ⟨rfl, rfl⟩
        · exact .inr ⟨a, rfl, rfl, by omega⟩
        · exact .inr ⟨b, rfl, rfl, by omega⟩)
    | cmp o a b => exact main [(.str (S o), .str (S o)), (a.d, a.dl), (b.d, b.dl)] rfl rfl (by simp) (by
        intro p hp
        simp only [Ex.dep] at hdp
        simp at hp
        rcases hp with rfl | rfl | rfl
        · exact .inl ⟨rfl, rfl⟩
        · exact .inr ⟨a, rfl, rfl, by omega⟩
        · exact .inr ⟨b, rfl, rfl, by omega⟩)
    | con o a b => exact main [(.str (S o), .str (S o)), (a.d, a.dl), (b.d, b.dl)] rfl rfl (by simp) (by
        intro p hp
        simp only [Ex.dep] at hdp
        simp at hp
        rcases hp with rfl | rfl | rfl
        · exact .inl ⟨rfl, rfl⟩
        · exact .inr ⟨a, rfl, rfl, by omega⟩
        · exact .inr ⟨b, rfl, rfl, by omega⟩)
  · cases x with
    | str y =>
      walk_at "GO"
      exact .inl hq
    | int y =>
      walk_at "GO"
      exact .inl hq
    | bl y =>
      walk_at "GO"
      exact .inl hq
    | non =>
      walk_at "GO"
      exact .inl hq
    | _ => cases hf
end
end K09

set_option Elab.async false
set_option linter.all false
set_option maxRecDepth 100000
set_option maxHeartbeats 4000000
namespace K09
open PySem PySem.Spec PyProof.Rows L2 DL
local macro_rules | `(tactic| walk_at "GO") => `(tactic| repeat' (first | with_reducible refine xs_seq ?_ | with_reducible refine xs_set ?_ | with_reducible refine xs_asg ?_ | with_reducible refine xs_if ?_ | with_reducible refine xs_ret ?_ | with_reducible refine xs_next ?_ | with_reducible refine xs_expr ?_ | with_reducible refine xs_fld ?_ | with_reducible refine xs_par ?_ | with_reducible refine xs_retN ?_ | with_reducible refine xs_brk ?_ | with_reducible refine xp_nil ?_ | with_reducible refine xp_cons ?_ | with_reducible refine xe_disp ?_ | with_reducible refine xe_dispM ?_ | with_reducible refine xs_cont ?_ | with_reducible refine da_nil ?_ | with_reducible refine da_cons ?_ | with_reducible refine de_int ?_ | with_reducible refine de_str ?_ | with_reducible refine de_bl ?_ | with_reducible refine de_non ?_ | with_reducible refine de_ty ?_ | ((with_reducible refine xe_var ?_); refine ⟨_, rfl, ?_⟩) | with_reducible refine de_op ?_ | with_reducible refine de_un ?_ | with_reducible refine de_call ?_ | with_reducible refine de_cb ?_ | with_reducible refine de_sl ?_ | with_reducible refine do_none ?_ | with_reducible refine do_some ?_ | with_reducible refine de_if ?_ | with_reducible refine de_andV ?_ | with_reducible refine de_orV ?_ | with_reducible refine de_notV ?_ | with_reducible refine de_chain ?_ | with_reducible refine dt_test ?_ | with_reducible refine dt_B ?_ | with_reducible refine dt_and ?_ | with_reducible refine dt_or ?_ | with_reducible refine dt_not ?_ | (with_reducible refine xe_tup ?_) | (with_reducible refine xe_lst ?_) | (with_reducible refine xe_lstM ?_) | (with_reducible refine de_meth ?_) | with_reducible refine xs_dput ?_ | with_reducible refine xs_daug ?_ | with_reducible refine de_dget ?_ | with_reducible refine de_dgt1 ?_ | with_reducible refine de_dgt2 ?_ | with_reducible refine de_din ?_ | with_reducible refine de_dnotin ?_ | with_reducible refine de_dnewK ?_ | with_reducible refine de_dnewT ?_ | with_reducible refine de_revL ?_ | (with_reducible refine de_bm ?_) | (with_reducible refine de_bm0 ?_) | (with_reducible refine ⟨isTy_str, ?_⟩) | (with_reducible refine ⟨xty_lst ⟨_, rfl⟩, ?_⟩) | with_reducible refine radd_int ?_ | with_reducible refine radd_S ?_ ?_ | with_reducible refine rsub_int ?_ | with_reducible refine req_int ?_ | with_reducible refine rne_int ?_ | with_reducible refine req_S ?_ | with_reducible refine rne_S ?_ | with_reducible refine rlt_int ?_ | with_reducible refine rle_int ?_ | with_reducible refine rgt_int ?_ | with_reducible refine rge_int ?_ | with_reducible refine rneg_int ?_ | with_reducible refine rin_sgn ?_ | with_reducible refine rni_sgn ?_ | with_reducible refine rc_len_S ?_ ?_ | with_reducible refine rc_int_bl ?_ | with_reducible refine rc_str_int ?_ ?_ | with_reducible refine rc_str_str ?_ | with_reducible refine rc_max2 ?_ | with_reducible refine rc_abs ?_ | with_reducible refine req_bl ?_ | with_reducible refine rne_bl ?_ | with_reducible refine rltg_i ?_ | with_reducible refine rleg_i ?_ | with_reducible refine rgtg_i ?_ | with_reducible refine rgeg_i ?_ | with_reducible refine rltg_b ?_ | with_reducible refine rleg_b ?_ | with_reducible refine rgtg_b ?_ | with_reducible refine rgeg_b ?_ | with_reducible refine rist ?_ | with_reducible refine rntt ?_ | with_reducible refine dt_truth ?_ | ((with_reducible refine xc_isi ?_); refine ⟨_, true, rfl, rfl, ?_⟩) | ((with_reducible refine xc_isi ?_); refine ⟨_, false, rfl, rfl, ?_⟩) | with_reducible refine di_str ?_ | with_reducible refine di_list ?_ | with_reducible refine di_tup ?_ | with_reducible refine di_rng1 ?_ | with_reducible refine di_rng2 ?_ | with_reducible refine ift ?_ | with_reducible refine iff_ ?_ | with_reducible refine ifnt ?_ | with_reducible refine ifnf ?_ | with_reducible refine rin_strs sq_c ?_ | with_reducible refine rni_strs sq_c ?_ | with_reducible refine rin_strs sq_t ?_ | with_reducible refine rni_strs sq_t ?_ | with_reducible refine rin_strs sq_l ?_ | with_reducible refine rni_strs sq_l ?_ | with_reducible refine rin_strs (sq_v rfl) ?_ | with_reducible refine rni_strs (sq_v rfl) ?_ | ((with_reducible refine rin_seq sq_c ?_ ?_ ?_); rfl; rfl) | ((with_reducible refine rin_seq sq_t ?_ ?_ ?_); rfl; rfl) | ((with_reducible refine rin_seq sq_l ?_ ?_ ?_); rfl; rfl) | ((with_reducible refine rin_seq (sq_v rfl) ?_ ?_ ?_); rfl; rfl) | ((with_reducible refine rni_seq sq_c ?_ ?_ ?_); rfl; rfl) | ((with_reducible refine rni_seq sq_t ?_ ?_ ?_); rfl; rfl) | ((with_reducible refine rni_seq sq_l ?_ ?_ ?_); rfl; rfl) | ((with_reducible refine rni_seq (sq_v rfl) ?_ ?_ ?_); rfl; rfl) | (with_reducible refine xix_tup ?_) | ((with_reducible refine xc_len ?_); refine ⟨_, sq_c, ?_⟩) | ((with_reducible refine xc_len ?_); refine ⟨_, sq_t, ?_⟩) | ((with_reducible refine xc_len ?_); refine ⟨_, sq_l, ?_⟩) | ((with_reducible refine xc_len ?_); refine ⟨_, (sq_v rfl), ?_⟩) | (with_reducible refine rm_count ?_) | (with_reducible refine ⟨_, rfl, ?_⟩) | (with_reducible refine ⟨_, .inl rfl, ?_⟩) | (with_reducible refine ⟨_, .inr rfl, ?_⟩) | (with_reducible refine ⟨_, _, rfl, ?_⟩) | ((with_reducible refine xix_lst ?_); refine ⟨_, rfl, _, rfl, ?_⟩) | ((with_reducible refine xadd_lst ?_); refine ⟨_, rfl, _, rfl, ?_, ?_⟩) | with_reducible refine rmul_int ?_ ?_ | with_reducible refine rmod_int ?_ ?_ | with_reducible refine rfdiv_int ?_ ?_ | with_reducible refine rpow_int ?_ ?_ | with_reducible refine xg_setL ?_ | refine ⟨_, _, _, _, rfl, rfl, rfl, rfl, ?_⟩ | with_reducible refine xg_name ?_ | with_reducible refine xg_tup rfl ?_ | with_reducible refine xgs_name ?_ | with_reducible refine xgs_nil ?_ | (with_reducible refine ⟨Nat.le_of_ble_eq_true rfl, ?_⟩) | fail))
section
variable {K : Frag} {mg : Str → Option Value} {ρ : DL.Env} {γ : Ga} {Q : QD}
theorem dl_L_is_within (T : Tx K mg) : DL_L_is_within K (sp_L_is_within K) := by
  rintro ds γ q e E0 lo1 lo2 ⟨l, rfl, hl, hq⟩
  refine dS_env (ρ' := [some (.str (S l)), none]) rfl ?_
  unfold t_L_is_within
  walk_at "GO"
  · omega
  refine ifd (fun c1 => ?_) (fun c1 => ?_)
  · walk_at "GO"
    refine xe_lcN [[40], [91], [45], [110, 111, 116]] (fun w => .str (S w)) (fun w => .int (Txt.count (S l) (S w))) (by simp) ?_
    walk_at "GO"
    refine ⟨rfl, by decide, fun w hw => ?_, ?_⟩
    · walk_at "GO"
      exact ⟨rfl, rfl⟩
    · walk_at "GO"
      refine rc_max (ns := [(Txt.count (S l) (S [40]) : Int), Txt.count (S l) (S [91]), Txt.count (S l) (S [45]), Txt.count (S l) (S [110, 111, 116])]) rfl (by simp) (fun m hm _ => ?_)
      walk_at "GO"
      exact .inl (hq _)
  · exact .inl (hq _)
end
end K09

set_option Elab.async false
set_option linter.all false
set_option maxRecDepth 100000
set_option maxHeartbeats 4000000
namespace K09
open PySem PySem.Spec PyProof.Rows L2 DL
/-! ### plain laws of values -/
theorem len_ofString {s : String} : (PySem.Str.ofString s).length = s.length := by
  rw [PySem.Str.ofString_eq_toList]
  show (s.toList.map Char.toNat).toArray.size = s.length
  rw [List.size_toArray, List.length_map, String.length_toList]
theorem nat_text {n : Nat} : ((toString (n : Int) : Str)).length = n.repr.length := len_ofString (s := n.repr)
theorem text_lt {n : Nat} : ((toString (n : Int) : Str)).length < 31 ↔ n < BIG.natAbs := by
  rw [nat_text]
  have h := @Nat.length_repr_le_iff n 30 (by decide)
  have e : BIG.natAbs = 10 ^ 30 := by decide
  rw [e, ← h]
  omega
theorem nums_small : ∀ z ∈ NUMS, z.natAbs < BIG.natAbs := by decide
theorem bnd_ok {z : Int} {d : D} (h : bnd z = .ok d) : d = .int z ∧ z.natAbs < BIG.natAbs := by
  unfold bnd at h
  split at h
  · cases h; exact ⟨rfl, by assumption⟩
  · cases h
theorem fmod_small {x y : Int} (hy : y ≠ 0) (h : y.natAbs < BIG.natAbs) : (x.fmod y).natAbs < BIG.natAbs := by
  rcases Int.lt_trichotomy y 0 with c | c | c
  · have h1 := Int.fmod_lt_of_pos (-x) (b := -y) (by omega)
    have h2 := Int.fmod_nonneg_of_pos (-x) (b := -y) (by omega)
    have e : (-x).fmod (-y) = - x.fmod y := Int.neg_fmod_neg _ _
    omega
  · exact absurd c hy
  · have h1 := Int.fmod_lt_of_pos x c
    have h2 := Int.fmod_nonneg_of_pos x c
    omega
theorem cal_ok {o : List Nat} {x y : Int} {d : D} (hx : x.natAbs < BIG.natAbs) (hy : y.natAbs < BIG.natAbs) (h : cal o x y = .ok d) : ∃ n, d = .int n ∧ n.natAbs < BIG.natAbs := by
  unfold cal at h
  split at h
  · exact ⟨_, bnd_ok h⟩
  split at h
  · exact ⟨_, bnd_ok h⟩
  split at h
  · exact ⟨_, bnd_ok h⟩
  split at h
  · cases h
  rename_i h0
  split at h
  · cases h
    have := Int.natAbs_fdiv_le_natAbs x y
    exact ⟨_, rfl, by omega⟩
  · cases h
    exact ⟨_, rfl, fmod_small h0 hy⟩
theorem bind2_ok {r s : Rs} {f : D → D → Rs} {d : D} (h : bind2 r s f = .ok d) : ∃ x y, r = .ok x ∧ s = .ok y ∧ f x y = .ok d := by
  unfold bind2 at h
  split at h
  · cases h
  · split at h
    · cases h
    · exact ⟨_, _, rfl, rfl, h⟩
def SmallK (kn : List Nat → Option Int) : Prop := ∀ l n, kn l = some n → n.natAbs < BIG.natAbs
theorem ev_E {kn : List Nat → Option Int} (hk : SmallK kn) : ∀ (t : Ex), t.okE = true → ∀ d, ev kn t = .ok d → ∃ n, d = .int n ∧ n.natAbs < BIG.natAbs
  | .num z, h, d, e => by
    cases e
    exact ⟨z, rfl, nums_small z (of_decide_eq_true h)⟩
  | .var l, h, d, e => by
    cases e
    cases hl : kn l with
    | none => exact ⟨0, rfl, by decide⟩
    | some n => exact ⟨n, rfl, hk l n hl⟩
  | .neg a, h, d, e => by
    unfold ev at e
    obtain ⟨x, y, h1, h2, h3⟩ := bind2_ok e
    obtain ⟨n, rfl, hn⟩ := ev_E hk a h x h1
    cases h3
    exact ⟨-n, rfl, by omega⟩
  | .bin o a b, h, d, e => by
    unfold ev at e
    obtain ⟨x, y, h1, h2, h3⟩ := bind2_ok e
    have hh : (decide (o ∈ OPS) && a.okE && b.okE) = true := h
    obtain ⟨_, ha, hb⟩ := and3 hh
    obtain ⟨n, rfl, hn⟩ := ev_E hk a ha x h1
    obtain ⟨m, rfl, hm⟩ := ev_E hk b hb y h2
    exact cal_ok hn hm h3
  | .cmp _ _ _, h, _, _ => by cases h
  | .nt _, h, _, _ => by cases h
  | .con _ _ _, h, _, _ => by cases h
theorem ev_C {kn : List Nat → Option Int} (hk : SmallK kn) : ∀ (t : Ex), t.okC = true → ∀ d, ev kn t = .ok d → ∃ b, d = .bl b
  | .cmp o a b, h, d, e => by
    unfold ev at e
    obtain ⟨x, y, h1, h2, h3⟩ := bind2_ok e
    have hh : (decide (o ∈ CMPS) && a.okE && b.okE) = true := h
    obtain ⟨_, ha, hb⟩ := and3 hh
    obtain ⟨n, rfl, _⟩ := ev_E hk a ha x h1
    obtain ⟨m, rfl, _⟩ := ev_E hk b hb y h2
    cases h3
    exact ⟨_, rfl⟩
  | .nt a, h, d, e => by
    unfold ev at e
    obtain ⟨x, y, h1, h2, h3⟩ := bind2_ok e
    obtain ⟨b, rfl⟩ := ev_C hk a h x h1
    cases h3
    exact ⟨_, rfl⟩
  | .con o a b, h, d, e => by
    unfold ev at e
    obtain ⟨x, y, h1, h2, h3⟩ := bind2_ok e
    have hh : (decide (o ∈ CONS) && a.okC && b.okC) = true := h
    obtain ⟨_, ha, hb⟩ := and3 hh
    obtain ⟨n, rfl⟩ := ev_C hk a ha x h1
    obtain ⟨m, rfl⟩ := ev_C hk b hb y h2
    cases h3
    exact ⟨_, rfl⟩
  | .num _, h, _, _ => by cases h
  | .var _, h, _, _ => by cases h
  | .neg _, h, _, _ => by cases h
  | .bin _ _ _, h, _, _ => by cases h
/-- floor division by hand -/
def own (x y : Int) : Int := ((x.natAbs : Int).fdiv (y.natAbs : Int)) * (if (decide (x < 0) != decide (y < 0)) = true then -1 else 1)
theorem succ_quot (m n : Nat) : ((m + 1) / (n + 1) * (n + 1) = m + 1 ∧ (m + 1) / (n + 1) = m / (n + 1) + 1) ∨ ((m + 1) / (n + 1) * (n + 1) ≠ m + 1 ∧ (m + 1) / (n + 1) = m / (n + 1)) := by
  by_cases h : (n + 1) ∣ (m + 1)
  · refine .inl ⟨Nat.div_mul_cancel h, ?_⟩
    rw [Nat.succ_div, if_pos h]
  · refine .inr ⟨fun c => h ⟨(m + 1) / (n + 1), by rw [Nat.mul_comm]; exact c.symm⟩, ?_⟩
    rw [Nat.succ_div, if_neg h]; rfl
theorem own_div {x y : Int} (hy : y ≠ 0) : own x y - (if own x y * y ≠ x ∧ (decide (x < 0) != decide (y < 0)) = true then 1 else 0) = x.fdiv y := by
  have nat_fdiv : ∀ a b : Nat, ((a : Int).fdiv (b : Int)) = ((a / b : Nat) : Int) := fun a b => by
    cases a with
    | zero => simp
    | succ a => rfl
  cases x with
  | ofNat m =>
    cases y with
    | ofNat n =>
      have e1 : decide ((Int.ofNat m) < 0) = false := by simp
      have e2 : decide ((Int.ofNat n) < 0) = false := by simp
      unfold own
      rw [e1, e2]
      simp
    | negSucc n =>
      have e1 : decide ((Int.ofNat m) < 0) = false := by simp
      have e2 : decide ((Int.negSucc n) < 0) = true := by simp [Int.negSucc_lt_zero]
      have e3 : own (Int.ofNat m) (Int.negSucc n) = -((m / (n + 1) : Nat) : Int) := by
        unfold own
        rw [e1, e2]
        show ((m : Int).fdiv ((n + 1 : Nat) : Int)) * (-1) = _
        rw [nat_fdiv]; omega
      rw [e3, e1, e2]
      have ey : Int.negSucc n = -((n + 1 : Nat) : Int) := rfl
      cases m with
      | zero => simp
      | succ m =>
        have e4 : (Int.ofNat (m + 1)).fdiv (Int.negSucc n) = -((m / (n + 1) : Nat) : Int) - 1 := by
          show Int.negSucc (m / (n + 1)) = _
          omega
        rw [e4, ey, Int.neg_mul_neg, ← Int.natCast_mul]
        rcases succ_quot m n with ⟨h1, h2⟩ | ⟨h1, h2⟩
        · rw [h1, if_neg (by simp)]; omega
        · rw [if_pos ⟨fun c => h1 (Int.ofNat.inj c), rfl⟩]; omega
  | negSucc m =>
    have e1 : decide ((Int.negSucc m) < 0) = true := by simp [Int.negSucc_lt_zero]
    cases y with
    | ofNat n =>
      have e2 : decide ((Int.ofNat n) < 0) = false := by simp
      cases n with
      | zero => exact absurd rfl hy
      | succ n =>
        have e3 : own (Int.negSucc m) (Int.ofNat (n + 1)) = -(((m + 1) / (n + 1) : Nat) : Int) := by
          unfold own
          rw [e1, e2]
          show (((m + 1 : Nat) : Int).fdiv ((n + 1 : Nat) : Int)) * (-1) = _
          rw [nat_fdiv]; omega
        rw [e3, e1, e2]
        have e4 : (Int.negSucc m).fdiv (Int.ofNat (n + 1)) = -((m / (n + 1) : Nat) : Int) - 1 := by
          show Int.negSucc (m / (n + 1)) = _
          omega
        have ex : Int.negSucc m = -((m + 1 : Nat) : Int) := rfl
        rw [e4, ex]
        have e5 : -(((m + 1) / (n + 1) : Nat) : Int) * Int.ofNat (n + 1) = -(((m + 1) / (n + 1) * (n + 1) : Nat) : Int) := by
          rw [Int.neg_mul]
          rfl
        rcases succ_quot m n with ⟨h1, h2⟩ | ⟨h1, h2⟩
        · rw [if_neg (fun c => c.1 (by rw [e5, h1]))]; omega
        · rw [if_pos ⟨fun c => h1 (by have := e5.symm.trans c; omega), rfl⟩]; omega
    | negSucc n =>
      have e2 : decide ((Int.negSucc n) < 0) = true := by simp [Int.negSucc_lt_zero]
      unfold own
      rw [e1, e2]
      show (((m + 1 : Nat) : Int).fdiv ((n + 1 : Nat) : Int)) * 1 - _ = _
      rw [nat_fdiv, if_neg (by simp)]
      show (((m + 1) / (n + 1) : Nat) : Int) * 1 - 0 = Int.ofNat ((m + 1) / (n + 1))
      simp
end K09

set_option Elab.async false
set_option linter.all false
set_option maxRecDepth 100000
set_option maxHeartbeats 4000000
namespace K09
open PySem PySem.Spec PyProof.Rows L2 DL
local macro_rules | `(tactic| walk_at "GO") => `(tactic| repeat' (first | with_reducible refine xs_seq ?_ | with_reducible refine xs_set ?_ | with_reducible refine xs_asg ?_ | with_reducible refine xs_if ?_ | with_reducible refine xs_ret ?_ | with_reducible refine xs_next ?_ | with_reducible refine xs_expr ?_ | with_reducible refine xs_fld ?_ | with_reducible refine xs_par ?_ | with_reducible refine xs_retN ?_ | with_reducible refine xs_brk ?_ | with_reducible refine xp_nil ?_ | with_reducible refine xp_cons ?_ | with_reducible refine xe_disp ?_ | with_reducible refine xe_dispM ?_ | with_reducible refine xs_cont ?_ | with_reducible refine da_nil ?_ | with_reducible refine da_cons ?_ | with_reducible refine de_int ?_ | with_reducible refine de_str ?_ | with_reducible refine de_bl ?_ | with_reducible refine de_non ?_ | with_reducible refine de_ty ?_ | ((with_reducible refine xe_var ?_); refine ⟨_, rfl, ?_⟩) | with_reducible refine de_op ?_ | with_reducible refine de_un ?_ | with_reducible refine de_call ?_ | with_reducible refine de_cb ?_ | with_reducible refine de_sl ?_ | with_reducible refine do_none ?_ | with_reducible refine do_some ?_ | with_reducible refine de_if ?_ | with_reducible refine de_andV ?_ | with_reducible refine de_orV ?_ | with_reducible refine de_notV ?_ | with_reducible refine de_chain ?_ | with_reducible refine dt_test ?_ | with_reducible refine dt_B ?_ | with_reducible refine dt_and ?_ | with_reducible refine dt_or ?_ | with_reducible refine dt_not ?_ | (with_reducible refine xe_tup ?_) | (with_reducible refine xe_lst ?_) | (with_reducible refine xe_lstM ?_) | with_reducible refine q_COMPARISONS (by assumption) ?_ | (with_reducible refine de_meth ?_) | with_reducible refine xs_dput ?_ | with_reducible refine xs_daug ?_ | with_reducible refine de_dget ?_ | with_reducible refine de_dgt1 ?_ | with_reducible refine de_dgt2 ?_ | with_reducible refine de_din ?_ | with_reducible refine de_dnotin ?_ | with_reducible refine de_dnewK ?_ | with_reducible refine de_dnewT ?_ | with_reducible refine de_revL ?_ | (with_reducible refine de_bm ?_) | (with_reducible refine de_bm0 ?_) | (with_reducible refine ⟨isTy_str, ?_⟩) | (with_reducible refine ⟨xty_lst ⟨_, rfl⟩, ?_⟩) | with_reducible refine radd_int ?_ | with_reducible refine radd_S ?_ ?_ | with_reducible refine rsub_int ?_ | with_reducible refine req_int ?_ | with_reducible refine rne_int ?_ | with_reducible refine req_S ?_ | with_reducible refine rne_S ?_ | with_reducible refine rlt_int ?_ | with_reducible refine rle_int ?_ | with_reducible refine rgt_int ?_ | with_reducible refine rge_int ?_ | with_reducible refine rneg_int ?_ | with_reducible refine rin_sgn ?_ | with_reducible refine rni_sgn ?_ | with_reducible refine rc_len_S ?_ ?_ | with_reducible refine rc_int_bl ?_ | with_reducible refine rc_str_int ?_ ?_ | with_reducible refine rc_str_str ?_ | with_reducible refine rc_max2 ?_ | with_reducible refine rc_abs ?_ | with_reducible refine req_bl ?_ | with_reducible refine rne_bl ?_ | with_reducible refine rltg_i ?_ | with_reducible refine rleg_i ?_ | with_reducible refine rgtg_i ?_ | with_reducible refine rgeg_i ?_ | with_reducible refine rltg_b ?_ | with_reducible refine rleg_b ?_ | with_reducible refine rgtg_b ?_ | with_reducible refine rgeg_b ?_ | with_reducible refine rist ?_ | with_reducible refine rntt ?_ | with_reducible refine dt_truth ?_ | ((with_reducible refine xc_isi ?_); refine ⟨_, true, rfl, rfl, ?_⟩) | ((with_reducible refine xc_isi ?_); refine ⟨_, false, rfl, rfl, ?_⟩) | with_reducible refine di_str ?_ | with_reducible refine di_list ?_ | with_reducible refine di_tup ?_ | with_reducible refine di_rng1 ?_ | with_reducible refine di_rng2 ?_ | with_reducible refine ift ?_ | with_reducible refine iff_ ?_ | with_reducible refine ifnt ?_ | with_reducible refine ifnf ?_ | with_reducible refine rin_strs sq_c ?_ | with_reducible refine rni_strs sq_c ?_ | with_reducible refine rin_strs sq_t ?_ | with_reducible refine rni_strs sq_t ?_ | with_reducible refine rin_strs sq_l ?_ | with_reducible refine rni_strs sq_l ?_ | with_reducible refine rin_strs (sq_v rfl) ?_ | with_reducible refine rni_strs (sq_v rfl) ?_ | ((with_reducible refine rin_seq sq_c ?_ ?_ ?_); rfl; rfl) | ((with_reducible refine rin_seq sq_t ?_ ?_ ?_); rfl; rfl) | ((with_reducible refine rin_seq sq_l ?_ ?_ ?_); rfl; rfl) | ((with_reducible refine rin_seq (sq_v rfl) ?_ ?_ ?_); rfl; rfl) | ((with_reducible refine rni_seq sq_c ?_ ?_ ?_); rfl; rfl) | ((with_reducible refine rni_seq sq_t ?_ ?_ ?_); rfl; rfl) | ((with_reducible refine rni_seq sq_l ?_ ?_ ?_); rfl; rfl) | ((with_reducible refine rni_seq (sq_v rfl) ?_ ?_ ?_); rfl; rfl) | (with_reducible refine xix_tup ?_) | ((with_reducible refine xc_len ?_); refine ⟨_, sq_c, ?_⟩) | ((with_reducible refine xc_len ?_); refine ⟨_, sq_t, ?_⟩) | ((with_reducible refine xc_len ?_); refine ⟨_, sq_l, ?_⟩) | ((with_reducible refine xc_len ?_); refine ⟨_, (sq_v rfl), ?_⟩) | (with_reducible refine rm_count ?_) | (with_reducible refine ⟨_, rfl, ?_⟩) | (with_reducible refine ⟨_, .inl rfl, ?_⟩) | (with_reducible refine ⟨_, .inr rfl, ?_⟩) | (with_reducible refine ⟨_, _, rfl, ?_⟩) | ((with_reducible refine xix_lst ?_); refine ⟨_, rfl, _, rfl, ?_⟩) | ((with_reducible refine xadd_lst ?_); refine ⟨_, rfl, _, rfl, ?_, ?_⟩) | with_reducible refine rmul_int ?_ ?_ | with_reducible refine rmod_int ?_ ?_ | with_reducible refine rfdiv_int ?_ ?_ | with_reducible refine rpow_int ?_ ?_ | with_reducible refine xg_setL ?_ | refine ⟨_, _, _, _, rfl, rfl, rfl, rfl, ?_⟩ | with_reducible refine xg_name ?_ | with_reducible refine xg_tup rfl ?_ | with_reducible refine xgs_name ?_ | with_reducible refine xgs_nil ?_ | (with_reducible refine ⟨Nat.le_of_ble_eq_true rfl, ?_⟩) | (with_reducible refine ifdT (by decide) ?_) | (with_reducible refine ifdF (by decide) ?_) | (with_reducible refine ifnT (by decide) ?_) | (with_reducible refine ifnF (by decide) ?_) | (with_reducible refine ifbT (by decide) ?_) | (with_reducible refine ifbF (by decide) ?_) | fail))
section
variable {P : Program} {mg : Str → Option Value}
/-- the parts' values, one after the other -/
theorem val_parts {K : Frag} {E0 : XK} {e : XD} {m : Nat} {s : SpD} {γ : Ga} {x kd : D} {o : List Nat} {ρ2 ρ3 : Option D} {Q : QD} (kn : List Nat → Option Int) (ts : List Ex) (xs : List D) (hx : ND x o xs) (hl : xs.length = ts.length) (hl2 : ts.length ≤ 2) (hne : 0 < ts.length)
    (hxs : ∀ (i : Nat) (y : D) (t : Ex), xs[i]? = some y → ts[i]? = some t → ∀ q' e', (∀ d, ev kn t = .ok d → q' d γ) → (∀ r, ev kn t = .error r → e' (He.ga K "Fault") ["reason"] [.str (S r)] γ) → s [y, kd] γ q' e')
    (herr : ∀ (i : Nat) (t : Ex) (ds : List D) (r : List Nat), ts[i]? = some t → (ts.take i).map (ev kn) = ds.map Except.ok → ev kn t = .error r → DrX m e (He.ga K "Fault") ["reason"] [.str (S r)] γ)
    (hq : ∀ ds : List D, ts.map (ev kn) = ds.map Except.ok → Q (.lst ds) γ) :
    dE ⟨K, wOf E0, fun _ => DrX m e⟩ (tLcX (wOf E0) (iAny K (tSl (rSlG K) (tVar 0) (tPart (tC (.int 1))) tNoPart)) (gName 4) (fun Wc => tYes) (fun Wc => (tCallW (toSp K s) (WE Wc) (tCons (tVar 4) (tCons (tVar 1) tNil)))) [4]) [some x, some kd, ρ2, ρ3, none] γ Q := by
  refine de_lcX [4] (by simp) ?_
  have main : ∀ ds, ds = xs → ds.length ≤ 1000000 ∧ ∃ P : Nat → List D → Ga → Prop, P 0 [] γ ∧
      (∀ i x' acc γ', ds[i]? = some x' → P i acc γ' → dG ⟨K, wOf E0, fun _ => DrX m e⟩ (gName 4) x' (wipeE [some x, some kd, ρ2, ρ3, none] [4]) γ' [4] fun ρ2 γ2 => ∀ W', dT ⟨K, W', fun _ => DrX m e⟩ tYes ρ2 γ2 fun b γ3 => if b = true then dE ⟨K, W', fun _ => DrX m e⟩ (tCallW (toSp K s) (WE W') (tCons (tVar 4) (tCons (tVar 1) tNil))) ρ2 γ3 fun y γ4 => P (i + 1) (acc ++ [y]) γ4 else P (i + 1) acc γ3) ∧
      ∀ acc γ', P ds.length acc γ' → Q (.lst acc) γ' := by
    rintro _ rfl
    refine ⟨by omega, fun i acc γ' => γ' = γ ∧ (ts.take i).map (ev kn) = acc.map Except.ok, ⟨rfl, rfl⟩, ?_, ?_⟩
    · rintro i y acc γ' hy ⟨rfl, ha⟩
      refine dg_name fun W' => dt_yes ?_
      walk_at "GO"
      have hi : i < ts.length := by rw [← hl]; exact (List.getElem?_eq_some_iff.mp hy).1
      have ht : ts[i]? = some ts[i] := List.getElem?_eq_getElem hi
      refine hxs i y _ hy ht _ _ (fun d hd => ?_) (fun r hr => herr i _ acc r ht ha hr)
      refine ⟨rfl, ?_⟩
      rw [List.take_succ_eq_append_getElem hi, List.map_append, List.map_append, ha]
      simp [hd]
    · rintro acc γ' ⟨rfl, ha⟩
      rw [hl, List.take_length] at ha
      exact hq acc ha
  have len : (D.str (S o) :: xs).length = ts.length + 1 := by simp [hl]
  have cut : DL.cutD (D.str (S o) :: xs) (some 1) none = xs := by
    unfold DL.cutD
    have h1 : HT.sIx (D.str (S o) :: xs).length 0 (some 1) = 1 := by
      rw [show (1 : Int) = ((1 : Nat) : Int) from rfl, HT.sIx_nat, len]; omega
    rw [h1, HT.sIx_none, len, hl.symm]
    simp
  rcases hx with rfl | rfl
  · refine di_any_t ?_
    walk_at "GO"
    refine rsl_tup (fun c => ?_) ?_
    · have h1 := c.1
      rw [show (1 : Int) = ((1 : Nat) : Int) from rfl, HT.sIx_nat, len] at h1
      omega
    · rw [cut]
      exact ⟨_, .inl rfl, main _ rfl⟩
  · refine di_any_l ?_
    walk_at "GO"
    refine rsl_lst rfl ?_
    rw [cut]
    exact ⟨_, rfl, main _ rfl⟩
end
end K09

set_option Elab.async false
set_option linter.all false
set_option maxRecDepth 100000
set_option maxHeartbeats 4000000
namespace K09
open PySem PySem.Spec PyProof.Rows L2 DL
local macro_rules | `(tactic| walk_at "GO") => `(tactic| repeat' (first | with_reducible refine xs_seq ?_ | with_reducible refine xs_set ?_ | with_reducible refine xs_asg ?_ | with_reducible refine xs_if ?_ | with_reducible refine xs_ret ?_ | with_reducible refine xs_next ?_ | with_reducible refine xs_expr ?_ | with_reducible refine xs_fld ?_ | with_reducible refine xs_par ?_ | with_reducible refine xs_retN ?_ | with_reducible refine xs_brk ?_ | with_reducible refine xp_nil ?_ | with_reducible refine xp_cons ?_ | with_reducible refine xe_disp ?_ | with_reducible refine xe_dispM ?_ | with_reducible refine xs_cont ?_ | with_reducible refine da_nil ?_ | with_reducible refine da_cons ?_ | with_reducible refine de_int ?_ | with_reducible refine de_str ?_ | with_reducible refine de_bl ?_ | with_reducible refine de_non ?_ | with_reducible refine de_ty ?_ | ((with_reducible refine xe_var ?_); refine ⟨_, rfl, ?_⟩) | with_reducible refine de_op ?_ | with_reducible refine de_un ?_ | with_reducible refine de_call ?_ | with_reducible refine de_cb ?_ | with_reducible refine de_sl ?_ | with_reducible refine do_none ?_ | with_reducible refine do_some ?_ | with_reducible refine de_if ?_ | with_reducible refine de_andV ?_ | with_reducible refine de_orV ?_ | with_reducible refine de_notV ?_ | with_reducible refine de_chain ?_ | with_reducible refine dt_test ?_ | with_reducible refine dt_B ?_ | with_reducible refine dt_and ?_ | with_reducible refine dt_or ?_ | with_reducible refine dt_not ?_ | (with_reducible refine xe_tup ?_) | (with_reducible refine xe_lst ?_) | (with_reducible refine xe_lstM ?_) | with_reducible refine q_COMPARISONS (by assumption) ?_ | (with_reducible refine de_meth ?_) | with_reducible refine xs_dput ?_ | with_reducible refine xs_daug ?_ | with_reducible refine de_dget ?_ | with_reducible refine de_dgt1 ?_ | with_reducible refine de_dgt2 ?_ | with_reducible refine de_din ?_ | with_reducible refine de_dnotin ?_ | with_reducible refine de_dnewK ?_ | with_reducible refine de_dnewT ?_ | with_reducible refine de_revL ?_ | (with_reducible refine de_bm ?_) | (with_reducible refine de_bm0 ?_) | (with_reducible refine ⟨isTy_str, ?_⟩) | (with_reducible refine ⟨xty_lst ⟨_, rfl⟩, ?_⟩) | with_reducible refine radd_int ?_ | with_reducible refine radd_S ?_ ?_ | with_reducible refine rsub_int ?_ | with_reducible refine req_int ?_ | with_reducible refine rne_int ?_ | with_reducible refine req_S ?_ | with_reducible refine rne_S ?_ | with_reducible refine rlt_int ?_ | with_reducible refine rle_int ?_ | with_reducible refine rgt_int ?_ | with_reducible refine rge_int ?_ | with_reducible refine rneg_int ?_ | with_reducible refine rin_sgn ?_ | with_reducible refine rni_sgn ?_ | with_reducible refine rc_len_S ?_ ?_ | with_reducible refine rc_int_bl ?_ | with_reducible refine rc_str_int ?_ ?_ | with_reducible refine rc_str_str ?_ | with_reducible refine rc_max2 ?_ | with_reducible refine rc_abs ?_ | with_reducible refine req_bl ?_ | with_reducible refine rne_bl ?_ | with_reducible refine rltg_i ?_ | with_reducible refine rleg_i ?_ | with_reducible refine rgtg_i ?_ | with_reducible refine rgeg_i ?_ | with_reducible refine rltg_b ?_ | with_reducible refine rleg_b ?_ | with_reducible refine rgtg_b ?_ | with_reducible refine rgeg_b ?_ | with_reducible refine rist ?_ | with_reducible refine rntt ?_ | with_reducible refine dt_truth ?_ | ((with_reducible refine xc_isi ?_); refine ⟨_, true, rfl, rfl, ?_⟩) | ((with_reducible refine xc_isi ?_); refine ⟨_, false, rfl, rfl, ?_⟩) | with_reducible refine di_str ?_ | with_reducible refine di_list ?_ | with_reducible refine di_tup ?_ | with_reducible refine di_rng1 ?_ | with_reducible refine di_rng2 ?_ | with_reducible refine ift ?_ | with_reducible refine iff_ ?_ | with_reducible refine ifnt ?_ | with_reducible refine ifnf ?_ | with_reducible refine rin_strs sq_c ?_ | with_reducible refine rni_strs sq_c ?_ | with_reducible refine rin_strs sq_t ?_ | with_reducible refine rni_strs sq_t ?_ | with_reducible refine rin_strs sq_l ?_ | with_reducible refine rni_strs sq_l ?_ | with_reducible refine rin_strs (sq_v rfl) ?_ | with_reducible refine rni_strs (sq_v rfl) ?_ | ((with_reducible refine rin_seq sq_c ?_ ?_ ?_); rfl; rfl) | ((with_reducible refine rin_seq sq_t ?_ ?_ ?_); rfl; rfl) | ((with_reducible refine rin_seq sq_l ?_ ?_ ?_); rfl; rfl) | ((with_reducible refine rin_seq (sq_v rfl) ?_ ?_ ?_); rfl; rfl) | ((with_reducible refine rni_seq sq_c ?_ ?_ ?_); rfl; rfl) | ((with_reducible refine rni_seq sq_t ?_ ?_ ?_); rfl; rfl) | ((with_reducible refine rni_seq sq_l ?_ ?_ ?_); rfl; rfl) | ((with_reducible refine rni_seq (sq_v rfl) ?_ ?_ ?_); rfl; rfl) | (with_reducible refine xix_tup ?_) | ((with_reducible refine xc_len ?_); refine ⟨_, sq_c, ?_⟩) | ((with_reducible refine xc_len ?_); refine ⟨_, sq_t, ?_⟩) | ((with_reducible refine xc_len ?_); refine ⟨_, sq_l, ?_⟩) | ((with_reducible refine xc_len ?_); refine ⟨_, (sq_v rfl), ?_⟩) | (with_reducible refine rm_count ?_) | (with_reducible refine ⟨_, rfl, ?_⟩) | (with_reducible refine ⟨_, .inl rfl, ?_⟩) | (with_reducible refine ⟨_, .inr rfl, ?_⟩) | (with_reducible refine ⟨_, _, rfl, ?_⟩) | ((with_reducible refine xix_lst ?_); refine ⟨_, rfl, _, rfl, ?_⟩) | ((with_reducible refine xadd_lst ?_); refine ⟨_, rfl, _, rfl, ?_, ?_⟩) | with_reducible refine rmul_int ?_ ?_ | with_reducible refine rmod_int ?_ ?_ | with_reducible refine rfdiv_int ?_ ?_ | with_reducible refine rpow_int ?_ ?_ | with_reducible refine xg_setL ?_ | refine ⟨_, _, _, _, rfl, rfl, rfl, rfl, ?_⟩ | with_reducible refine xg_name ?_ | with_reducible refine xg_tup rfl ?_ | with_reducible refine xgs_name ?_ | with_reducible refine xgs_nil ?_ | (with_reducible refine ⟨Nat.le_of_ble_eq_true rfl, ?_⟩) | (with_reducible refine ifdT (by decide) ?_) | (with_reducible refine ifdF (by decide) ?_) | (with_reducible refine ifnT (by decide) ?_) | (with_reducible refine ifnF (by decide) ?_) | (with_reducible refine ifbT (by decide) ?_) | (with_reducible refine ifbF (by decide) ?_) | fail))
section
variable {P : Program} {mg : Str → Option Value}
theorem map1 {f : Ex → Rs} {a : Ex} {ds : List D} (h : [a].map f = ds.map Except.ok) : ∃ d, ds = [d] ∧ f a = .ok d := by
  match ds, h with
  | [], h => cases h
  | [d], h => exact ⟨d, rfl, by simpa using h⟩
  | _ :: _ :: _, h => simp at h
theorem map2 {f : Ex → Rs} {a b : Ex} {ds : List D} (h : [a, b].map f = ds.map Except.ok) : ∃ d d', ds = [d, d'] ∧ f a = .ok d ∧ f b = .ok d' := by
  match ds, h with
  | [], h => cases h
  | [_], h => simp at h
  | [d, d'], h => exact ⟨d, d', rfl, by simpa using h⟩
  | _ :: _ :: _ :: _, h => simp at h
theorem err1 {f : Ex → Rs} {a : Ex} {i : Nat} {t : Ex} {ds : List D} {r : List Nat} (ht : [a][i]? = some t) (hr : f t = .error r) : f a = .error r := by
  match i, ht with
  | 0, ht => cases ht; exact hr
theorem err2 {f : Ex → Rs} {a b : Ex} {i : Nat} {t : Ex} {ds : List D} {r : List Nat} (ht : [a, b][i]? = some t) (h : ([a, b].take i).map f = ds.map Except.ok) (hr : f t = .error r) : ∀ g, bind2 (f a) (f b) g = .error r := by
  intro g
  match i, ht, h with
  | 0, ht, h => cases ht; rw [hr]; rfl
  | 1, ht, h =>
    cases ht
    obtain ⟨d, rfl, hd⟩ := map1 (a := a) h
    rw [hd, hr]; rfl
theorem dl_value_of {K : Frag} (T : Tx K mg) (s : SpD) (dp : Nat) (hrec : ∀ dp', dp = dp' + 1 → ∀ ds γ q e, spVal K dp' ds γ q e → s ds γ q e) : DL_value_of K s (spVal K dp) := by
  rintro ds γ q e E0 lo1 lo2 ⟨x, kd, kn, t, rfl, hx, hok, hdp, hkd, h1, h2⟩
  refine dS_env (ρ' := [some x, some kd, none, none, none]) rfl ?_
  unfold t_value_of
  obtain ⟨ks, vs, rfl, hkv, hks⟩ := hkd
  have rec1 : ∀ (a : Ex) (y : D), NE y a → a.ok = true → a.dep + 1 ≤ dp → ∀ q' e', (∀ d, ev kn a = .ok d → q' d γ) → (∀ r, ev kn a = .error r → e' (He.ga K "Fault") ["reason"] [.str (S r)] γ) → s [y, .dic ks vs] γ q' e' := by
    intro a y hy ha hd q' e' g1 g2
    obtain ⟨dp', rfl⟩ : ∃ k, dp = k + 1 := ⟨dp - 1, by omega⟩
    exact hrec dp' rfl _ _ _ _ ⟨y, _, kn, a, rfl, hy, ha, by omega, ⟨ks, vs, rfl, hkv, hks⟩, g1, g2⟩
  cases t with
  | num z =>
    have hn := nd_num hx
    walk_at "GO"
    refine ix_nd hn ⟨_, at_nat (j := 0) rfl, ?_⟩
    walk_at "GO"
    refine ix_nd hn ⟨_, at_nat (j := 1) rfl, ?_⟩
    exact .inl (h1 _ rfl)
  | var l =>
    have hn := nd_var hx
    walk_at "GO"
    refine ix_nd hn ⟨_, at_nat (j := 0) rfl, ?_⟩
    walk_at "GO"
    refine ⟨.inl ⟨_, rfl⟩, ?_⟩
    walk_at "GO"
    refine ix_nd hn ⟨_, at_nat (j := 1) rfl, ?_⟩
    walk_at "GO"
    refine ⟨_, .inl ⟨_, _, _, rfl, rfl, rfl⟩, ?_⟩
    rw [hkv]
    refine .inl (h1 _ ?_)
    show Except.ok (D.int ((kn l).getD 0)) = _
    cases kn l <;> rfl
  | neg a =>
    obtain ⟨y, hy, hn⟩ := nd_neg hx
    have ha := ok_neg hok
    walk_at "GO"
    refine ix_nd hn ⟨_, at_nat (j := 0) rfl, ?_⟩
    walk_at "GO"
    refine val_parts kn [a] [y] hn rfl (by simp) (by simp) (fun i y' t' hy' ht' q' e' g1 g2 => ?_) (fun i t' ds r ht hds hr => ?_) (fun ds hds => ?_)
    · match i, hy', ht' with
      | 0, hy', ht' => cases hy'; cases ht'; exact rec1 a y hy (okE_ok ha) (by simpa only [Ex.dep] using hdp) q' e' g1 g2
    · refine .inl (h2 _ ?_)
      unfold ev
      rw [err1 (ds := ds) ht hr]; rfl
    · obtain ⟨d, rfl, hd⟩ := map1 hds
      obtain ⟨n, rfl, hn'⟩ := ev_E hks a ha d hd
      walk_at "GO"
      refine .inl (h1 _ ?_)
      unfold ev
      rw [hd]; rfl
  | nt a =>
    obtain ⟨y, hy, hn⟩ := nd_nt hx
    have ha := ok_nt hok
    walk_at "GO"
    refine ix_nd hn ⟨_, at_nat (j := 0) rfl, ?_⟩
    walk_at "GO"
    refine val_parts kn [a] [y] hn rfl (by simp) (by simp) (fun i y' t' hy' ht' q' e' g1 g2 => ?_) (fun i t' ds r ht hds hr => ?_) (fun ds hds => ?_)
    · match i, hy', ht' with
      | 0, hy', ht' => cases hy'; cases ht'; exact rec1 a y hy (okC_ok ha) (by simpa only [Ex.dep] using hdp) q' e' g1 g2
    · refine .inl (h2 _ ?_)
      unfold ev
      rw [err1 (ds := ds) ht hr]; rfl
    · obtain ⟨d, rfl, hd⟩ := map1 hds
      obtain ⟨n, rfl⟩ := ev_C hks a ha d hd
      walk_at "GO"
      refine .inl (h1 _ ?_)
      unfold ev
      rw [hd]; rfl
  | bin o a b =>
    obtain ⟨y, z, hy, hz, hn⟩ := nd_bin hx
    obtain ⟨ho, ha, hb⟩ := ok_bin hok
    simp only [Ex.dep] at hdp
    have ho' := ho
    rcases ops_in ho' with rfl | rfl | rfl | rfl | rfl
    all_goals
      walk_at "GO"
      refine ix_nd hn ⟨_, at_nat (j := 0) rfl, ?_⟩
      walk_at "GO"
      refine val_parts kn [a, b] [y, z] hn rfl (by simp) (by simp) (fun i y' t' hy' ht' q' e' g1 g2 => ?_) (fun i t' ds r ht hds hr => ?_) (fun ds hds => ?_)
      · match i, hy', ht' with
        | 0, hy', ht' => cases hy'; cases ht'; exact rec1 a y hy (okE_ok ha) (by omega) q' e' g1 g2
        | 1, hy', ht' => cases hy'; cases ht'; exact rec1 b z hz (okE_ok hb) (by omega) q' e' g1 g2
      · refine .inl (h2 _ ?_)
        unfold ev
        exact err2 ht hds hr _
      obtain ⟨d, d', rfl, hd, hd'⟩ := map2 hds
      obtain ⟨n, rfl, hn'⟩ := ev_E hks a ha d hd
      obtain ⟨m, rfl, hm'⟩ := ev_E hks b hb d' hd'
      walk_at "GO"
      refine ⟨_, n, m, rfl, ho, hn', hm', fun d h => .inl (h1 d ?_), fun r h => .inl (h2 r ?_)⟩
      · unfold ev
        rw [hd, hd']; exact h
      · unfold ev
        rw [hd, hd']; exact h
  | cmp o a b =>
    obtain ⟨y, z, hy, hz, hn⟩ := nd_cmp hx
    obtain ⟨ho, ha, hb⟩ := ok_cmp hok
    simp only [Ex.dep] at hdp
    have ho' := ho
    rcases cmps_in ho' with rfl | rfl | rfl | rfl | rfl | rfl
    all_goals
      walk_at "GO"
      refine ix_nd hn ⟨_, at_nat (j := 0) rfl, ?_⟩
      walk_at "GO"
      refine val_parts kn [a, b] [y, z] hn rfl (by simp) (by simp) (fun i y' t' hy' ht' q' e' g1 g2 => ?_) (fun i t' ds r ht hds hr => ?_) (fun ds hds => ?_)
      · match i, hy', ht' with
        | 0, hy', ht' => cases hy'; cases ht'; exact rec1 a y hy (okE_ok ha) (by omega) q' e' g1 g2
        | 1, hy', ht' => cases hy'; cases ht'; exact rec1 b z hz (okE_ok hb) (by omega) q' e' g1 g2
      · refine .inl (h2 _ ?_)
        unfold ev
        exact err2 ht hds hr _
      obtain ⟨d, d', rfl, hd, hd'⟩ := map2 hds
      obtain ⟨n, rfl, hn'⟩ := ev_E hks a ha d hd
      obtain ⟨m, rfl, hm'⟩ := ev_E hks b hb d' hd'
      walk_at "GO"
      refine ⟨_, n, m, rfl, ho, hn', hm', .inl (h1 _ ?_)⟩
      unfold ev
      rw [hd, hd']; rfl
  | con o a b =>
    obtain ⟨y, z, hy, hz, hn⟩ := nd_con hx
    obtain ⟨ho, ha, hb⟩ := ok_con hok
    simp only [Ex.dep] at hdp
    have ho' : o = sOr ∨ o = sAnd := by unfold CONS at ho; simpa using ho
    rcases ho' with rfl | rfl
    all_goals
      walk_at "GO"
      refine ix_nd hn ⟨_, at_nat (j := 0) rfl, ?_⟩
      walk_at "GO"
      refine val_parts kn [a, b] [y, z] hn rfl (by simp) (by simp) (fun i y' t' hy' ht' q' e' g1 g2 => ?_) (fun i t' ds r ht hds hr => ?_) (fun ds hds => ?_)
      · match i, hy', ht' with
        | 0, hy', ht' => cases hy'; cases ht'; exact rec1 a y hy (okC_ok ha) (by omega) q' e' g1 g2
        | 1, hy', ht' => cases hy'; cases ht'; exact rec1 b z hz (okC_ok hb) (by omega) q' e' g1 g2
      · refine .inl (h2 _ ?_)
        unfold ev
        exact err2 ht hds hr _
      obtain ⟨d, d', rfl, hd, hd'⟩ := map2 hds
      obtain ⟨n, rfl⟩ := ev_C hks a ha d hd
      obtain ⟨m, rfl⟩ := ev_C hks b hb d' hd'
      walk_at "GO"
      first
      | refine rc_all (bs := [n, m]) rfl ?_
      | refine rc_any (bs := [n, m]) rfl ?_
      refine .inl (h1 _ ?_)
      unfold ev
      rw [hd, hd']
      cases n <;> cases m <;> rfl
end
end K09

set_option Elab.async false
set_option linter.all false
set_option maxRecDepth 100000
set_option maxHeartbeats 4000000
namespace K09
open PySem PySem.Spec PyProof.Rows L2 DL
local macro_rules | `(tactic| walk_at "GO") => `(tactic| repeat' (first | with_reducible refine xs_seq ?_ | with_reducible refine xs_set ?_ | with_reducible refine xs_asg ?_ | with_reducible refine xs_if ?_ | with_reducible refine xs_ret ?_ | with_reducible refine xs_next ?_ | with_reducible refine xs_expr ?_ | with_reducible refine xs_fld ?_ | with_reducible refine xs_par ?_ | with_reducible refine xs_retN ?_ | with_reducible refine xs_brk ?_ | with_reducible refine xp_nil ?_ | with_reducible refine xp_cons ?_ | with_reducible refine xe_disp ?_ | with_reducible refine xe_dispM ?_ | with_reducible refine xs_cont ?_ | with_reducible refine da_nil ?_ | with_reducible refine da_cons ?_ | with_reducible refine de_int ?_ | with_reducible refine de_str ?_ | with_reducible refine de_bl ?_ | with_reducible refine de_non ?_ | with_reducible refine de_ty ?_ | ((with_reducible refine xe_var ?_); refine ⟨_, rfl, ?_⟩) | with_reducible refine de_op ?_ | with_reducible refine de_un ?_ | with_reducible refine de_call ?_ | with_reducible refine de_cb ?_ | with_reducible refine de_sl ?_ | with_reducible refine do_none ?_ | with_reducible refine do_some ?_ | with_reducible refine de_if ?_ | with_reducible refine de_andV ?_ | with_reducible refine de_orV ?_ | with_reducible refine de_notV ?_ | with_reducible refine de_chain ?_ | with_reducible refine dt_test ?_ | with_reducible refine dt_B ?_ | with_reducible refine dt_and ?_ | with_reducible refine dt_or ?_ | with_reducible refine dt_not ?_ | (with_reducible refine xe_tup ?_) | (with_reducible refine xe_lst ?_) | (with_reducible refine xe_lstM ?_) | (with_reducible refine de_meth ?_) | with_reducible refine xs_dput ?_ | with_reducible refine xs_daug ?_ | with_reducible refine de_dget ?_ | with_reducible refine de_dgt1 ?_ | with_reducible refine de_dgt2 ?_ | with_reducible refine de_din ?_ | with_reducible refine de_dnotin ?_ | with_reducible refine de_dnewK ?_ | with_reducible refine de_dnewT ?_ | with_reducible refine de_revL ?_ | (with_reducible refine de_bm ?_) | (with_reducible refine de_bm0 ?_) | (with_reducible refine ⟨isTy_str, ?_⟩) | (with_reducible refine ⟨xty_lst ⟨_, rfl⟩, ?_⟩) | with_reducible refine radd_int ?_ | with_reducible refine radd_S ?_ ?_ | with_reducible refine rsub_int ?_ | with_reducible refine req_int ?_ | with_reducible refine rne_int ?_ | with_reducible refine req_S ?_ | with_reducible refine rne_S ?_ | with_reducible refine rlt_int ?_ | with_reducible refine rle_int ?_ | with_reducible refine rgt_int ?_ | with_reducible refine rge_int ?_ | with_reducible refine rneg_int ?_ | with_reducible refine rin_sgn ?_ | with_reducible refine rni_sgn ?_ | with_reducible refine rc_len_S ?_ ?_ | with_reducible refine rc_int_bl ?_ | with_reducible refine rc_str_int ?_ ?_ | with_reducible refine rc_str_str ?_ | with_reducible refine rc_max2 ?_ | with_reducible refine rc_abs ?_ | with_reducible refine req_bl ?_ | with_reducible refine rne_bl ?_ | with_reducible refine rltg_i ?_ | with_reducible refine rleg_i ?_ | with_reducible refine rgtg_i ?_ | with_reducible refine rgeg_i ?_ | with_reducible refine rltg_b ?_ | with_reducible refine rleg_b ?_ | with_reducible refine rgtg_b ?_ | with_reducible refine rgeg_b ?_ | with_reducible refine rist ?_ | with_reducible refine rntt ?_ | with_reducible refine dt_truth ?_ | ((with_reducible refine xc_isi ?_); refine ⟨_, true, rfl, rfl, ?_⟩) | ((with_reducible refine xc_isi ?_); refine ⟨_, false, rfl, rfl, ?_⟩) | with_reducible refine di_str ?_ | with_reducible refine di_list ?_ | with_reducible refine di_tup ?_ | with_reducible refine di_rng1 ?_ | with_reducible refine di_rng2 ?_ | with_reducible refine ift ?_ | with_reducible refine iff_ ?_ | with_reducible refine ifnt ?_ | with_reducible refine ifnf ?_ | with_reducible refine rin_strs sq_c ?_ | with_reducible refine rni_strs sq_c ?_ | with_reducible refine rin_strs sq_t ?_ | with_reducible refine rni_strs sq_t ?_ | with_reducible refine rin_strs sq_l ?_ | with_reducible refine rni_strs sq_l ?_ | with_reducible refine rin_strs (sq_v rfl) ?_ | with_reducible refine rni_strs (sq_v rfl) ?_ | ((with_reducible refine rin_seq sq_c ?_ ?_ ?_); rfl; rfl) | ((with_reducible refine rin_seq sq_t ?_ ?_ ?_); rfl; rfl) | ((with_reducible refine rin_seq sq_l ?_ ?_ ?_); rfl; rfl) | ((with_reducible refine rin_seq (sq_v rfl) ?_ ?_ ?_); rfl; rfl) | ((with_reducible refine rni_seq sq_c ?_ ?_ ?_); rfl; rfl) | ((with_reducible refine rni_seq sq_t ?_ ?_ ?_); rfl; rfl) | ((with_reducible refine rni_seq sq_l ?_ ?_ ?_); rfl; rfl) | ((with_reducible refine rni_seq (sq_v rfl) ?_ ?_ ?_); rfl; rfl) | (with_reducible refine xix_tup ?_) | ((with_reducible refine xc_len ?_); refine ⟨_, sq_c, ?_⟩) | ((with_reducible refine xc_len ?_); refine ⟨_, sq_t, ?_⟩) | ((with_reducible refine xc_len ?_); refine ⟨_, sq_l, ?_⟩) | ((with_reducible refine xc_len ?_); refine ⟨_, (sq_v rfl), ?_⟩) | (with_reducible refine rm_count ?_) | (with_reducible refine ⟨_, rfl, ?_⟩) | (with_reducible refine ⟨_, .inl rfl, ?_⟩) | (with_reducible refine ⟨_, .inr rfl, ?_⟩) | (with_reducible refine ⟨_, _, rfl, ?_⟩) | ((with_reducible refine xix_lst ?_); refine ⟨_, rfl, _, rfl, ?_⟩) | ((with_reducible refine xadd_lst ?_); refine ⟨_, rfl, _, rfl, ?_, ?_⟩) | with_reducible refine rmul_int ?_ ?_ | with_reducible refine rmod_int ?_ ?_ | with_reducible refine rfdiv_int ?_ ?_ | with_reducible refine rpow_int ?_ ?_ | with_reducible refine xg_setL ?_ | refine ⟨_, _, _, _, rfl, rfl, rfl, rfl, ?_⟩ | with_reducible refine xg_name ?_ | with_reducible refine xg_tup rfl ?_ | with_reducible refine xgs_name ?_ | with_reducible refine xgs_nil ?_ | (with_reducible refine ⟨Nat.le_of_ble_eq_true rfl, ?_⟩) | fail))
theorem getP_put {κ : Type} [DecidableEq κ] {ps : List (κ × D)} {k k' : κ} {v : D} : getP (putP ps k v) k' = if k = k' then some v else getP ps k' := by
  unfold putP
  by_cases ha : (ps.any fun p => decide (p.1 = k)) = true
  · rw [if_pos ha]
    unfold getP
    rw [List.find?_map]
    have e : ((fun p : κ × D => decide (p.1 = k')) ∘ fun p : κ × D => if p.1 = k then (p.1, v) else p) = fun p => decide (p.1 = k') := by
      funext p
      show decide ((if p.1 = k then (p.1, v) else p).1 = k') = _
      split <;> rfl
    rw [e]
    cases hf : ps.find? fun p => decide (p.1 = k') with
    | none =>
      by_cases hk : k = k'
      · subst hk
        rw [List.find?_eq_none] at hf
        rw [List.any_eq_true] at ha
        obtain ⟨p, hp, hpk⟩ := ha
        exact absurd hpk (hf p hp)
      · rw [if_neg hk]; rfl
    | some p =>
      have hp : p.1 = k' := by simpa using List.find?_some hf
      by_cases hk : k = k'
      · rw [if_pos hk]
        show some (if p.1 = k then (p.1, v) else p).2 = some v
        rw [if_pos (hp.trans hk.symm)]
      · rw [if_neg hk]
        show some (if p.1 = k then (p.1, v) else p).2 = some p.2
        rw [if_neg (fun c => hk (c.symm.trans hp))]
  · rw [if_neg ha]
    have hno : ∀ p ∈ ps, p.1 ≠ k := fun p hp c => ha (List.any_eq_true.mpr ⟨p, hp, by simpa using c⟩)
    unfold getP
    rw [List.find?_append]
    by_cases hk : k = k'
    · subst hk
      have : ps.find? (fun p => decide (p.1 = k)) = none := by
        rw [List.find?_eq_none]
        intro p hp
        simpa using hno p hp
      rw [this]
      simp
    · rw [if_neg hk]
      simp [hk]
theorem getP_merge {κ : Type} [DecidableEq κ] {k : κ} : ∀ (more ps : List (κ × D)), getP (mergeP ps more) k = ((more.reverse.find? fun p => decide (p.1 = k)).map (·.2)).or (getP ps k)
  | [], ps => by simp [mergeP]
  | p :: more, ps => by
    show getP (mergeP (putP ps p.1 p.2) more) k = _
    rw [getP_merge more, getP_put, List.reverse_cons, List.find?_append]
    by_cases h : p.1 = k
    · cases hf : more.reverse.find? fun q => decide (q.1 = k) <;> simp [h]
    · cases hf : more.reverse.find? fun q => decide (q.1 = k) <;> simp [h]
def Pr.kv (p : Pr) : Key × D := (.inr (S p.2.1), .int p.2.2)
theorem lk_get (ps : List Pr) (l : List Nat) : getP (mergeP [] (ps.map Pr.kv)) (.inr (S l)) = (lk ps l).map D.int := by
  rw [getP_merge, ← List.map_reverse, List.find?_map]
  unfold lk
  have e : ((fun p : Key × D => decide (p.1 = Sum.inr (S l))) ∘ Pr.kv) = fun p : Pr => decide (p.2.1 = l) := by
    funext p
    show decide ((Sum.inr (S p.2.1) : Key) = Sum.inr (S l)) = _
    by_cases h : p.2.1 = l
    · simp [h]
    · have : (Sum.inr (S p.2.1) : Key) ≠ Sum.inr (S l) := fun c => h (S_inj.mp (Sum.inr.inj c))
      simp [h, this]
  rw [e]
  cases ps.reverse.find? fun p => decide (p.2.1 = l) <;> rfl
theorem lk_mem {ps : List Pr} {l : List Nat} {n : Int} (h : lk ps l = some n) : ∃ p ∈ ps, p.2.2 = n := by
  unfold lk at h
  obtain ⟨p, hp, rfl⟩ := Option.map_eq_some_iff.mp h
  exact ⟨p, List.mem_reverse.mp (List.mem_of_find?_eq_some hp), rfl⟩
theorem lk_knd {ps : List Pr} (hs : ∀ p ∈ ps, p.2.2.natAbs < BIG.natAbs) : KnD (.dic ((mergeP [] (ps.map Pr.kv)).map (·.1)) ((mergeP [] (ps.map Pr.kv)).map (·.2))) (lk ps) :=
  ⟨_, _, rfl, fun l => by rw [valG_P, lk_get], fun l n h => by obtain ⟨p, hp, rfl⟩ := lk_mem h; exact hs p hp⟩
section
variable {P : Program} {mg : Str → Option Value}
theorem dl_evaluate {K : Frag} (T : Tx K mg) (hv : sp_value_of K = spVal K 100) : DL_evaluate K (sp_evaluate K) := by
  rintro ds γ q e E0 lo1 lo2 ⟨x, vs, ps, t, rfl, hx, hok, hdp, ⟨hvs, hpl, hsm⟩, h1, h2⟩
  refine dS_env (ρ' := [some x, some vs, none, none]) rfl ?_
  unfold t_evaluate
  rw [hv]
  walk_at "GO"
  refine de_lc [2, 3] (by simp) ?_
  refine di_any rfl (hvs.elim .inl fun h => .inr (.inl h)) ?_
  refine ⟨by rw [List.length_map]; omega, fun i acc γ' => γ' = γ ∧ acc = (ps.take i).map fun p => DL.pairD (Pr.kv p), ⟨rfl, rfl⟩, ?_, ?_⟩
  · rintro i y acc γ' hy ⟨rfl, rfl⟩
    rw [List.getElem?_map] at hy
    obtain ⟨p, hp, rfl⟩ := Option.map_eq_some_iff.mp hy
    have hsq : SqD γ' p.d [.str (S p.2.1), .int p.2.2] := by
      unfold Pr.d
      split
      · exact sq_t
      · exact sq_l
    refine dg_any hsq rfl (dgs_cons (is := [2]) (js := [3]) (dg_name (dgs_cons (is := [3]) (js := []) (dg_name (dgs_nil ?_)))))
    refine dt_yes ?_
    walk_at "GO"
    refine ⟨rfl, ?_⟩
    have hi : i < ps.length := (List.getElem?_eq_some_iff.mp hp).1
    have hpe : ps[i] = p := (List.getElem?_eq_some_iff.mp hp).2
    rw [List.take_succ_eq_append_getElem hi, List.map_append, hpe]
    rfl
  · rintro acc γ' ⟨rfl, rfl⟩
    walk_at "GO"
    rw [List.length_map, List.take_length]
    refine rc_dictP (ps := ps.map Pr.kv) (by rw [List.map_map]; rfl) ?_
    walk_at "GO"
    exact ⟨x, _, lk ps, t, rfl, hx, hok, hdp, lk_knd hsm, fun d h => .inl (h1 d h), fun r h => .inl (h2 r h)⟩
theorem dl_L_evaluated {K : Frag} (T : Tx K mg) (X : Te P K mg) : DL_L_evaluated K (sp_L_evaluated K) := by
  rintro ds γ q e E0 lo1 lo2 ⟨x, vs, ps, t, rfl, hx, hok, hdp, hvs, hq⟩
  refine dS_env (ρ' := [some x, some vs, none, none]) rfl ?_
  unfold t_L_evaluated
  walk_at "GO"
  refine ds_tryAs (fun ρ' C ns ds γ' => ρ' = [some x, some vs, some .non, none] ∧ γ' = γ ∧ C = He.ga K "Fault" ∧ ns = (["reason"] : List Str) ∧ ∃ r, ds = [.str (S r)] ∧ ev (lk ps) t = .error r) (fun W' => ?_) ?_
  · walk_at "GO"
    refine ⟨x, vs, ps, t, rfl, hx, hok, hdp, hvs, fun d hd => ?_, fun r hr => ⟨rfl, rfl, rfl, rfl, r, rfl, hr⟩⟩
    rw [hd] at hq
    walk_at "GO"
    exact .inl hq
  · rintro ρ' C ns ds γ' ⟨rfl, rfl, rfl, rfl, r, rfl, hr⟩
    refine .inl ⟨T.m_Fault_Fault, fun a dd => ?_⟩
    rw [hr] at hq
    walk_at "GO"
    refine de_xf ?_
    walk_at "GO"
    refine ⟨_, _, 0, _, rfl, X.x_Fault.xok.xf, X.x_Fault.xok.no _ (by decide), rfl, rfl, ?_⟩
    walk_at "GO"
    exact .inl hq
end
end K09

set_option Elab.async false
set_option linter.all false
set_option maxRecDepth 100000
set_option maxHeartbeats 4000000
namespace K09
open PySem PySem.Spec PyProof.Rows L2 DL
local macro_rules | `(tactic| walk_at "GO") => `(tactic| repeat' (first | with_reducible refine xs_seq ?_ | with_reducible refine xs_set ?_ | with_reducible refine xs_asg ?_ | with_reducible refine xs_if ?_ | with_reducible refine xs_ret ?_ | with_reducible refine xs_next ?_ | with_reducible refine xs_expr ?_ | with_reducible refine xs_fld ?_ | with_reducible refine xs_par ?_ | with_reducible refine xs_retN ?_ | with_reducible refine xs_brk ?_ | with_reducible refine xp_nil ?_ | with_reducible refine xp_cons ?_ | with_reducible refine xe_disp ?_ | with_reducible refine xe_dispM ?_ | with_reducible refine xs_cont ?_ | with_reducible refine da_nil ?_ | with_reducible refine da_cons ?_ | with_reducible refine de_int ?_ | with_reducible refine de_str ?_ | with_reducible refine de_bl ?_ | with_reducible refine de_non ?_ | with_reducible refine de_ty ?_ | ((with_reducible refine xe_var ?_); refine ⟨_, rfl, ?_⟩) | with_reducible refine de_op ?_ | with_reducible refine de_un ?_ | with_reducible refine de_call ?_ | with_reducible refine de_cb ?_ | with_reducible refine de_sl ?_ | with_reducible refine do_none ?_ | with_reducible refine do_some ?_ | with_reducible refine de_if ?_ | with_reducible refine de_andV ?_ | with_reducible refine de_orV ?_ | with_reducible refine de_notV ?_ | with_reducible refine de_chain ?_ | with_reducible refine dt_test ?_ | with_reducible refine dt_B ?_ | with_reducible refine dt_and ?_ | with_reducible refine dt_or ?_ | with_reducible refine dt_not ?_ | (with_reducible refine xe_tup ?_) | (with_reducible refine xe_lst ?_) | (with_reducible refine xe_lstM ?_) | (with_reducible refine de_meth ?_) | with_reducible refine xs_dput ?_ | with_reducible refine xs_daug ?_ | with_reducible refine de_dget ?_ | with_reducible refine de_dgt1 ?_ | with_reducible refine de_dgt2 ?_ | with_reducible refine de_din ?_ | with_reducible refine de_dnotin ?_ | with_reducible refine de_dnewK ?_ | with_reducible refine de_dnewT ?_ | with_reducible refine de_revL ?_ | (with_reducible refine de_bm ?_) | (with_reducible refine de_bm0 ?_) | (with_reducible refine ⟨isTy_str, ?_⟩) | (with_reducible refine ⟨xty_lst ⟨_, rfl⟩, ?_⟩) | with_reducible refine radd_int ?_ | with_reducible refine radd_S ?_ ?_ | with_reducible refine rsub_int ?_ | with_reducible refine req_int ?_ | with_reducible refine rne_int ?_ | with_reducible refine req_S ?_ | with_reducible refine rne_S ?_ | with_reducible refine rlt_int ?_ | with_reducible refine rle_int ?_ | with_reducible refine rgt_int ?_ | with_reducible refine rge_int ?_ | with_reducible refine rneg_int ?_ | with_reducible refine rin_sgn ?_ | with_reducible refine rni_sgn ?_ | with_reducible refine rc_len_S ?_ ?_ | with_reducible refine rc_int_bl ?_ | with_reducible refine rc_str_int ?_ ?_ | with_reducible refine rc_str_str ?_ | with_reducible refine rc_max2 ?_ | with_reducible refine rc_abs ?_ | with_reducible refine req_bl ?_ | with_reducible refine rne_bl ?_ | with_reducible refine rltg_i ?_ | with_reducible refine rleg_i ?_ | with_reducible refine rgtg_i ?_ | with_reducible refine rgeg_i ?_ | with_reducible refine rltg_b ?_ | with_reducible refine rleg_b ?_ | with_reducible refine rgtg_b ?_ | with_reducible refine rgeg_b ?_ | with_reducible refine rist ?_ | with_reducible refine rntt ?_ | with_reducible refine dt_truth ?_ | ((with_reducible refine xc_isi ?_); refine ⟨_, true, rfl, rfl, ?_⟩) | ((with_reducible refine xc_isi ?_); refine ⟨_, false, rfl, rfl, ?_⟩) | with_reducible refine di_str ?_ | with_reducible refine di_list ?_ | with_reducible refine di_tup ?_ | with_reducible refine di_rng1 ?_ | with_reducible refine di_rng2 ?_ | with_reducible refine ift ?_ | with_reducible refine iff_ ?_ | with_reducible refine ifnt ?_ | with_reducible refine ifnf ?_ | with_reducible refine rin_strs sq_c ?_ | with_reducible refine rni_strs sq_c ?_ | with_reducible refine rin_strs sq_t ?_ | with_reducible refine rni_strs sq_t ?_ | with_reducible refine rin_strs sq_l ?_ | with_reducible refine rni_strs sq_l ?_ | with_reducible refine rin_strs (sq_v rfl) ?_ | with_reducible refine rni_strs (sq_v rfl) ?_ | ((with_reducible refine rin_seq sq_c ?_ ?_ ?_); rfl; rfl) | ((with_reducible refine rin_seq sq_t ?_ ?_ ?_); rfl; rfl) | ((with_reducible refine rin_seq sq_l ?_ ?_ ?_); rfl; rfl) | ((with_reducible refine rin_seq (sq_v rfl) ?_ ?_ ?_); rfl; rfl) | ((with_reducible refine rni_seq sq_c ?_ ?_ ?_); rfl; rfl) | ((with_reducible refine rni_seq sq_t ?_ ?_ ?_); rfl; rfl) | ((with_reducible refine rni_seq sq_l ?_ ?_ ?_); rfl; rfl) | ((with_reducible refine rni_seq (sq_v rfl) ?_ ?_ ?_); rfl; rfl) | (with_reducible refine xix_tup ?_) | ((with_reducible refine xc_len ?_); refine ⟨_, sq_c, ?_⟩) | ((with_reducible refine xc_len ?_); refine ⟨_, sq_t, ?_⟩) | ((with_reducible refine xc_len ?_); refine ⟨_, sq_l, ?_⟩) | ((with_reducible refine xc_len ?_); refine ⟨_, (sq_v rfl), ?_⟩) | (with_reducible refine rm_count ?_) | (with_reducible refine ⟨_, rfl, ?_⟩) | (with_reducible refine ⟨_, .inl rfl, ?_⟩) | (with_reducible refine ⟨_, .inr rfl, ?_⟩) | (with_reducible refine ⟨_, _, rfl, ?_⟩) | ((with_reducible refine xix_lst ?_); refine ⟨_, rfl, _, rfl, ?_⟩) | ((with_reducible refine xadd_lst ?_); refine ⟨_, rfl, _, rfl, ?_, ?_⟩) | with_reducible refine rmod_int ?_ ?_ | with_reducible refine rpow_int ?_ ?_ | with_reducible refine xg_setL ?_ | refine ⟨_, _, _, _, rfl, rfl, rfl, rfl, ?_⟩ | with_reducible refine xg_name ?_ | with_reducible refine xg_tup rfl ?_ | with_reducible refine xgs_name ?_ | with_reducible refine xgs_nil ?_ | (with_reducible refine ⟨Nat.le_of_ble_eq_true rfl, ?_⟩) | (with_reducible refine ifdT (by decide) ?_) | (with_reducible refine ifdF (by decide) ?_) | (with_reducible refine ifnT (by decide) ?_) | (with_reducible refine ifnF (by decide) ?_) | (with_reducible refine ifbT (by decide) ?_) | (with_reducible refine ifbF (by decide) ?_) | fail))
theorem log300 {n : Nat} (h : n < 2 ^ 300) : ((n : Int)).natAbs.log2 < 1920 := by
  rw [Int.natAbs_natCast]
  by_cases h0 : n = 0
  · rw [h0]; decide
  · have := (Nat.log2_lt h0).mpr h
    omega
theorem text300 {n : Nat} (h : n < 2 ^ 300) : ((toString (n : Int) : Str)).length ≤ 1000000 := by
  rw [nat_text]
  have h1 : n < 10 ^ 91 := Nat.lt_trans h (by decide)
  have := (Nat.length_repr_le_iff (n := n) (k := 91) (by decide)).mpr h1
  omega
theorem own_small {x y : Int} (hx : x.natAbs < BIG.natAbs) : (own x y).natAbs < BIG.natAbs := by
  have h1 := Int.natAbs_fdiv_le_natAbs (x.natAbs : Int) (y.natAbs : Int)
  have h2 : (own x y).natAbs = ((x.natAbs : Int).fdiv (y.natAbs : Int)).natAbs := by
    unfold own
    split
    · rw [Int.mul_neg, Int.mul_one, Int.natAbs_neg]
    · rw [Int.mul_one]
  rw [h2]
  omega
section
variable {P : Program} {mg : Str → Option Value}
theorem dl_L_calculated {K : Frag} (T : Tx K mg) : DL_L_calculated K (sp_L_calculated K) := by
  rintro ds γ q e E0 lo1 lo2 ⟨o, x, y, rfl, ho, hx, hy, hq⟩
  refine dS_env (ρ' := [some (.str (S o)), some (.int x), some (.int y), none, none]) rfl ?_
  unfold t_L_calculated
  have lx := big_log hx
  have ly := big_log hy
  have ba := big_add hx hy
  have bm := big_mul hx hy
  have hB : BIG.natAbs = 1000000000000000000000000000000 := rfl
  have hs : (!decide (decide (x < 0) = decide (y < 0))) = (decide (x < 0) != decide (y < 0)) := by
    cases decide (x < 0) <;> cases decide (y < 0) <;> rfl
  have ow := own_small (y := y) hx
  have lo := big_log ow
  rcases ops_in ho with rfl | rfl | rfl | rfl | rfl
  · walk_at "GO"
    · exact log300 ba.1
    refine rc_len_str (text300 ba.1) ?_
    walk_at "GO"
    have hq' : q (bnd (x + y)).d γ := hq
    unfold bnd at hq'
    refine ifd (fun c => ?_) (fun c => ?_)
    · rw [if_pos (text_lt.mp (by exact_mod_cast c))] at hq'
      walk_at "GO"
      exact .inl hq'
    · rw [if_neg (fun c' => c (by exact_mod_cast text_lt.mpr c'))] at hq'
      walk_at "GO"
      exact .inl hq'
  · have e1 : x + (0 - y) = x - y := by omega
    have ba2 : (x + (0 - y)).natAbs < 2 ^ 300 := by rw [e1]; exact ba.2
    walk_at "GO"
    · exact log300 ba2
    refine rc_len_str (text300 ba2) ?_
    walk_at "GO"
    have hq' : q (bnd (x + (0 - y))).d γ := by rw [e1]; exact hq
    unfold bnd at hq'
    refine ifd (fun c => ?_) (fun c => ?_)
    · rw [if_pos (text_lt.mp (by exact_mod_cast c))] at hq'
      walk_at "GO"
      exact .inl hq'
    · rw [if_neg (fun c' => c (by exact_mod_cast text_lt.mpr c'))] at hq'
      walk_at "GO"
      exact .inl hq'
  · walk_at "GO"
    refine rmul_wide (show x.natAbs.log2 + y.natAbs.log2 < 1000000 by omega) ?_
    walk_at "GO"
    · exact log300 bm
    refine rc_len_str (text300 bm) ?_
    walk_at "GO"
    have hq' : q (bnd (x * y)).d γ := hq
    unfold bnd at hq'
    refine ifd (fun c => ?_) (fun c => ?_)
    · rw [if_pos (text_lt.mp (by exact_mod_cast c))] at hq'
      walk_at "GO"
      exact .inl hq'
    · rw [if_neg (fun c' => c (by exact_mod_cast text_lt.mpr c'))] at hq'
      walk_at "GO"
      exact .inl hq'
  · walk_at "GO"
    refine ifd (fun c => ?_) (fun c => ?_)
    · walk_at "GO"
      subst c
      exact .inl hq
    · have hq' : q (.int (x.fdiv y)) γ := by
        have e : cal [47, 47] x y = .ok (.int (x.fdiv y)) := by
          unfold cal
          rw [if_neg (by decide), if_neg (by decide), if_neg (by decide), if_neg c, if_pos rfl]
        rw [e] at hq
        exact hq
      have hown := own_div (x := x) c
      have hfd := Int.natAbs_fdiv_le_natAbs (x.natAbs : Int) (y.natAbs : Int)
      have hfd2 := Int.natAbs_fdiv_le_natAbs x y
      have lf := big_log (x := x.fdiv y) (by omega)
      have lg := big_log (x := (x.natAbs : Int).fdiv (y.natAbs : Int)) (by omega)
      obtain ⟨sg, hsg⟩ : ∃ sg : Int, sg = if (decide (x < 0) != decide (y < 0)) = true then -1 else 1 := ⟨_, rfl⟩
      have hsl : sg.natAbs.log2 < 100 := by rw [hsg]; cases (decide (x < 0) != decide (y < 0)) <;> decide
      walk_at "GO"
      refine rfdiv_wide ⟨by omega, by simpa using (by omega : y.natAbs.log2 < 9000)⟩ ?_
      walk_at "GO"
      rw [hs]
      refine xix_lst ⟨_, rfl, .int sg, by rw [hsg]; cases (decide (x < 0) != decide (y < 0)) <;> rfl, ?_⟩
      refine rmul_wide (show _ < 1000000 by omega) ?_
      rw [show (x.natAbs : Int).fdiv (y.natAbs : Int) * sg = own x y by rw [hsg]; rfl]
      walk_at "GO"
      refine rmul_wide (show _ < 1000000 by omega) ?_
      walk_at "GO"
      refine ifnd (fun c2 => ?_) (fun c2 => ?_)
      · walk_at "GO"
        rw [hs]
        have e3 : own x y - (if (decide (x < 0) != decide (y < 0)) = true then 1 else 0) = x.fdiv y := by
          rw [← hown]
          cases (decide (x < 0) != decide (y < 0))
          · rw [if_neg (by simp), if_neg (by simp)]
          · rw [if_pos rfl, if_pos ⟨c2, rfl⟩]
        rw [e3]
        walk_at "GO"
        exact .inl hq'
      · walk_at "GO"
        have e3 : own x y - (if false = true then 1 else 0) = x.fdiv y := by
          rw [← hown, if_neg (by simp), if_neg (fun h => h.1 c2)]
        rw [e3]
        walk_at "GO"
        exact .inl hq'
  · walk_at "GO"
    refine ifd (fun c => ?_) (fun c => ?_)
    · walk_at "GO"
      subst c
      exact .inl hq
    · have hq' : q (.int (x.fmod y)) γ := by
        have e : cal [109, 111, 100] x y = .ok (.int (x.fmod y)) := by
          unfold cal
          rw [if_neg (by decide), if_neg (by decide), if_neg (by decide), if_neg c, if_neg (by decide)]
        rw [e] at hq
        exact hq
      have hown := own_div (x := x) c
      have hfd := Int.natAbs_fdiv_le_natAbs (x.natAbs : Int) (y.natAbs : Int)
      have hfd2 := Int.natAbs_fdiv_le_natAbs x y
      have lf := big_log (x := x.fdiv y) (by omega)
      have lg := big_log (x := (x.natAbs : Int).fdiv (y.natAbs : Int)) (by omega)
      obtain ⟨sg, hsg⟩ : ∃ sg : Int, sg = if (decide (x < 0) != decide (y < 0)) = true then -1 else 1 := ⟨_, rfl⟩
      have hsl : sg.natAbs.log2 < 100 := by rw [hsg]; cases (decide (x < 0) != decide (y < 0)) <;> decide
      walk_at "GO"
      refine rfdiv_wide ⟨by omega, by simpa using (by omega : y.natAbs.log2 < 9000)⟩ ?_
      walk_at "GO"
      rw [hs]
      refine xix_lst ⟨_, rfl, .int sg, by rw [hsg]; cases (decide (x < 0) != decide (y < 0)) <;> rfl, ?_⟩
      refine rmul_wide (show _ < 1000000 by omega) ?_
      rw [show (x.natAbs : Int).fdiv (y.natAbs : Int) * sg = own x y by rw [hsg]; rfl]
      walk_at "GO"
      refine rmul_wide (show _ < 1000000 by omega) ?_
      walk_at "GO"
      refine ifnd (fun c2 => ?_) (fun c2 => ?_)
      · walk_at "GO"
        rw [hs]
        have e3 : own x y - (if (decide (x < 0) != decide (y < 0)) = true then 1 else 0) = x.fdiv y := by
          rw [← hown]
          cases (decide (x < 0) != decide (y < 0))
          · rw [if_neg (by simp), if_neg (by simp)]
          · rw [if_pos rfl, if_pos ⟨c2, rfl⟩]
        rw [e3]
        walk_at "GO"
        refine rmul_wide (show _ < 1000000 by omega) ?_
        walk_at "GO"
        rw [Int.fmod_def, Int.mul_comm] at hq'
        exact .inl hq'
      · walk_at "GO"
        have e3 : own x y - (if false = true then 1 else 0) = x.fdiv y := by
          rw [← hown, if_neg (by simp), if_neg (fun h => h.1 c2)]
        rw [e3]
        walk_at "GO"
        refine rmul_wide (show _ < 1000000 by omega) ?_
        walk_at "GO"
        rw [Int.fmod_def, Int.mul_comm] at hq'
        exact .inl hq'
end
end K09

set_option Elab.async false
set_option linter.all false
set_option maxRecDepth 100000
set_option maxHeartbeats 4000000
namespace K09
open PySem PySem.Spec PyProof.Rows L2 DL
local macro_rules | `(tactic| walk_at "GO") => `(tactic| repeat' (first | with_reducible refine xs_seq ?_ | with_reducible refine xs_set ?_ | with_reducible refine xs_asg ?_ | with_reducible refine xs_if ?_ | with_reducible refine xs_ret ?_ | with_reducible refine xs_next ?_ | with_reducible refine xs_expr ?_ | with_reducible refine xs_fld ?_ | with_reducible refine xs_par ?_ | with_reducible refine xs_retN ?_ | with_reducible refine xs_brk ?_ | with_reducible refine xp_nil ?_ | with_reducible refine xp_cons ?_ | with_reducible refine xe_disp ?_ | with_reducible refine xe_dispM ?_ | with_reducible refine xs_cont ?_ | with_reducible refine da_nil ?_ | with_reducible refine da_cons ?_ | with_reducible refine de_int ?_ | with_reducible refine de_str ?_ | with_reducible refine de_bl ?_ | with_reducible refine de_non ?_ | with_reducible refine de_ty ?_ | ((with_reducible refine xe_var ?_); refine ⟨_, rfl, ?_⟩) | with_reducible refine de_op ?_ | with_reducible refine de_un ?_ | with_reducible refine de_call ?_ | with_reducible refine de_cb ?_ | with_reducible refine de_sl ?_ | with_reducible refine do_none ?_ | with_reducible refine do_some ?_ | with_reducible refine de_if ?_ | with_reducible refine de_andV ?_ | with_reducible refine de_orV ?_ | with_reducible refine de_notV ?_ | with_reducible refine de_chain ?_ | with_reducible refine dt_test ?_ | with_reducible refine dt_B ?_ | with_reducible refine dt_and ?_ | with_reducible refine dt_or ?_ | with_reducible refine dt_not ?_ | (with_reducible refine xe_tup ?_) | (with_reducible refine xe_lst ?_) | (with_reducible refine xe_lstM ?_) | (with_reducible refine de_meth ?_) | with_reducible refine xs_dput ?_ | with_reducible refine xs_daug ?_ | with_reducible refine de_dget ?_ | with_reducible refine de_dgt1 ?_ | with_reducible refine de_dgt2 ?_ | with_reducible refine de_din ?_ | with_reducible refine de_dnotin ?_ | with_reducible refine de_dnewK ?_ | with_reducible refine de_dnewT ?_ | with_reducible refine de_revL ?_ | (with_reducible refine de_bm ?_) | (with_reducible refine de_bm0 ?_) | (with_reducible refine ⟨isTy_str, ?_⟩) | (with_reducible refine ⟨xty_lst ⟨_, rfl⟩, ?_⟩) | with_reducible refine radd_int ?_ | with_reducible refine radd_S ?_ ?_ | with_reducible refine rsub_int ?_ | with_reducible refine req_int ?_ | with_reducible refine rne_int ?_ | with_reducible refine req_S ?_ | with_reducible refine rne_S ?_ | with_reducible refine rlt_int ?_ | with_reducible refine rle_int ?_ | with_reducible refine rgt_int ?_ | with_reducible refine rge_int ?_ | with_reducible refine rneg_int ?_ | with_reducible refine rin_sgn ?_ | with_reducible refine rni_sgn ?_ | with_reducible refine rc_len_S ?_ ?_ | with_reducible refine rc_int_bl ?_ | with_reducible refine rc_str_int ?_ ?_ | with_reducible refine rc_str_str ?_ | with_reducible refine rc_max2 ?_ | with_reducible refine rc_abs ?_ | with_reducible refine req_bl ?_ | with_reducible refine rne_bl ?_ | with_reducible refine rltg_i ?_ | with_reducible refine rleg_i ?_ | with_reducible refine rgtg_i ?_ | with_reducible refine rgeg_i ?_ | with_reducible refine rltg_b ?_ | with_reducible refine rleg_b ?_ | with_reducible refine rgtg_b ?_ | with_reducible refine rgeg_b ?_ | with_reducible refine rist ?_ | with_reducible refine rntt ?_ | with_reducible refine dt_truth ?_ | ((with_reducible refine xc_isi ?_); refine ⟨_, true, rfl, rfl, ?_⟩) | ((with_reducible refine xc_isi ?_); refine ⟨_, false, rfl, rfl, ?_⟩) | with_reducible refine di_str ?_ | with_reducible refine di_list ?_ | with_reducible refine di_tup ?_ | with_reducible refine di_rng1 ?_ | with_reducible refine di_rng2 ?_ | with_reducible refine ift ?_ | with_reducible refine iff_ ?_ | with_reducible refine ifnt ?_ | with_reducible refine ifnf ?_ | with_reducible refine rin_strs sq_c ?_ | with_reducible refine rni_strs sq_c ?_ | with_reducible refine rin_strs sq_t ?_ | with_reducible refine rni_strs sq_t ?_ | with_reducible refine rin_strs sq_l ?_ | with_reducible refine rni_strs sq_l ?_ | with_reducible refine rin_strs (sq_v rfl) ?_ | with_reducible refine rni_strs (sq_v rfl) ?_ | ((with_reducible refine rin_seq sq_c ?_ ?_ ?_); rfl; rfl) | ((with_reducible refine rin_seq sq_t ?_ ?_ ?_); rfl; rfl) | ((with_reducible refine rin_seq sq_l ?_ ?_ ?_); rfl; rfl) | ((with_reducible refine rin_seq (sq_v rfl) ?_ ?_ ?_); rfl; rfl) | ((with_reducible refine rni_seq sq_c ?_ ?_ ?_); rfl; rfl) | ((with_reducible refine rni_seq sq_t ?_ ?_ ?_); rfl; rfl) | ((with_reducible refine rni_seq sq_l ?_ ?_ ?_); rfl; rfl) | ((with_reducible refine rni_seq (sq_v rfl) ?_ ?_ ?_); rfl; rfl) | (with_reducible refine xix_tup ?_) | ((with_reducible refine xc_len ?_); refine ⟨_, sq_c, ?_⟩) | ((with_reducible refine xc_len ?_); refine ⟨_, sq_t, ?_⟩) | ((with_reducible refine xc_len ?_); refine ⟨_, sq_l, ?_⟩) | ((with_reducible refine xc_len ?_); refine ⟨_, (sq_v rfl), ?_⟩) | (with_reducible refine rm_count ?_) | (with_reducible refine ⟨_, rfl, ?_⟩) | (with_reducible refine ⟨_, .inl rfl, ?_⟩) | (with_reducible refine ⟨_, .inr rfl, ?_⟩) | (with_reducible refine ⟨_, _, rfl, ?_⟩) | ((with_reducible refine xix_lst ?_); refine ⟨_, rfl, _, rfl, ?_⟩) | ((with_reducible refine xadd_lst ?_); refine ⟨_, rfl, _, rfl, ?_, ?_⟩) | with_reducible refine rmul_int ?_ ?_ | with_reducible refine rmod_int ?_ ?_ | with_reducible refine rfdiv_int ?_ ?_ | with_reducible refine rpow_int ?_ ?_ | with_reducible refine xg_setL ?_ | refine ⟨_, _, _, _, rfl, rfl, rfl, rfl, ?_⟩ | with_reducible refine xg_name ?_ | with_reducible refine xg_tup rfl ?_ | with_reducible refine xgs_name ?_ | with_reducible refine xgs_nil ?_ | (with_reducible refine ⟨Nat.le_of_ble_eq_true rfl, ?_⟩) | (with_reducible refine ifdT (by decide) ?_) | (with_reducible refine ifdF (by decide) ?_) | (with_reducible refine ifnT (by decide) ?_) | (with_reducible refine ifnF (by decide) ?_) | (with_reducible refine ifbT (by decide) ?_) | (with_reducible refine ifbF (by decide) ?_) | fail))
section
variable {P : Program} {mg : Str → Option Value}
theorem getK {A B X Y : MO} {rest : Ga} : (A :: B :: (rest ++ [X, Y]))[rest.length + 1 + 1]? = some X := by simp
theorem getF {A B X Y : MO} {rest : Ga} : (A :: B :: (rest ++ [X, Y]))[rest.length + 1 + 1 + 1]? = some Y := by simp
theorem setK {A B X Y Z : MO} {rest : Ga} : (A :: B :: (rest ++ [X, Y])).set (rest.length + 1 + 1) Z = A :: B :: (rest ++ [Z, Y]) := by simp
theorem setF {A B X Y Z : MO} {rest : Ga} : (A :: B :: (rest ++ [X, Y])).set (rest.length + 1 + 1 + 1) Z = A :: B :: (rest ++ [X, Z]) := by simp
theorem lk_ins {ps : List Pr} {p : Pr} {j : Nat} (hf : ∀ q ∈ ps, q.2.1 ≠ p.2.1) (l : List Nat) : lk (ps.take j ++ [p] ++ ps.drop j) l = if p.2.1 = l then some p.2.2 else lk ps l := by
  unfold lk
  rw [List.reverse_append, List.reverse_append, List.find?_append, List.reverse_singleton]
  by_cases h : p.2.1 = l
  · subst h
    have h1 : (ps.drop j).reverse.find? (fun q => decide (q.2.1 = p.2.1)) = none := by
      rw [List.find?_eq_none]
      intro q hq
      simpa using hf q (List.mem_of_mem_drop (List.mem_reverse.mp hq))
    rw [h1]
    simp
  · rw [if_neg h, List.find?_append]
    have h2 : [p].find? (fun q => decide (q.2.1 = l)) = none := by simp [h]
    rw [h2, Option.none_or, ← List.find?_append, ← List.reverse_append, List.take_append_drop]
theorem dvw_loc {γ : Ga} {k : Nat} {ps : List (Key × D)} (h : γ[k]? = some (moK ps)) : dvw γ (.loc k) = some (ps.map (·.1), ps.map (·.2)) := by simp [dvw, h]
theorem dv_loc {γ : Ga} {k : Nat} {ps : List (Key × D)} {l : List Nat} {o : Option D} (h : γ[k]? = some (moK ps)) (e : getP ps (.inr (S l)) = o) : DV γ (.loc k) (.str (S l)) o := .inl ⟨_, _, _, dvw_loc h, rfl, by rw [valG_P, e]⟩
theorem pair_at {v : Int} {nm : List Nat} {d : Int} (h0 : 0 ≤ d) (h1 : d < 2) : ∃ b : Bool, atI [D.tup [.str (S nm), .int v], D.lst [.str (S nm), .int v]] d = some (Pr.d (b, nm, v)) := by
  have : d = 0 ∨ d = 1 := by omega
  rcases this with rfl | rfl
  · exact ⟨true, rfl⟩
  · exact ⟨false, rfl⟩
theorem ints_lo (m : Nat) : ∀ (kvs : List (Key × D)), (∀ p ∈ kvs, ∃ z, p.2 = .int z) → loL m (kvs.map (·.2)) = true
  | [], _ => rfl
  | p :: r, h => by
    obtain ⟨z, hz⟩ := h p List.mem_cons_self
    show (p.2.lo m && loL m (r.map (·.2))) = true
    rw [hz, ints_lo m r (fun p hp => h p (List.mem_cons_of_mem _ hp))]; rfl
theorem dl_L_pairs {K : Frag} (T : Tx K mg) : DL_L_pairs K (sp_L_pairs K) := by
  rintro ds γ q e E0 lo1 lo2 ⟨n, A, B, rest, ns, rfl, hns, hnd, rfl, hs, hq⟩
  refine dS_env (ρ' := [some (.loc 1), some (.lst (strsD ns)), none, none, none, none, none]) rfl ?_
  unfold t_L_pairs
  refine xs_cut (fun ρ' γ' => ρ' = [some (.loc 1), some (.lst (strsD ns)), some (.loc (rest.length + 1 + 1)), none, none, none, none] ∧ γ' = A :: B :: (rest ++ [moK []])) ?_ ?_
  · walk_at "GO"
    exact ⟨rfl, rfl⟩
  rintro ρ' γ' ⟨rfl, rfl⟩
  refine xs_cut (fun ρ' γ' => ρ' = [some (.loc 1), some (.lst (strsD ns)), some (.loc (rest.length + 1 + 1)), some (.loc (rest.length + 1 + 1 + 1)), none, none, none] ∧ γ' = A :: B :: (rest ++ [moK [], .lst []])) ?_ ?_
  · walk_at "GO"
    exact ⟨by simp, by simp⟩
  rintro ρ' γ' ⟨rfl, rfl⟩
  refine xs_cut (fun ρ' γ' => ∃ A' B' ps kvs x4 x5 x6, ρ' = [some (.loc 1), some (.lst (strsD ns)), some (.loc (rest.length + 1 + 1)), some (.loc (rest.length + 1 + 1 + 1)), x4, x5, x6] ∧ γ' = A' :: B' :: (rest ++ [moK kvs, .lst (ps.map Pr.d)]) ∧ Strm n A' B' ∧ ps.length ≤ 3 ∧ (∀ p ∈ ps, p.2.2.natAbs < BIG.natAbs) ∧ (∀ l, getP kvs (.inr (S l)) = (lk ps l).map D.int) ∧ ∀ p ∈ kvs, ∃ z, p.2 = .int z) ?_ ?_
  · refine xs_for [4] ?_
    walk_at "GO"
    refine ⟨fun i ρ' γ' => ∃ A' B' ps kvs x4 x5 x6, ρ' = [some (.loc 1), some (.lst (strsD ns)), some (.loc (rest.length + 1 + 1)), some (.loc (rest.length + 1 + 1 + 1)), x4, x5, x6] ∧ γ' = A' :: B' :: (rest ++ [moK kvs, .lst (ps.map Pr.d)]) ∧ Strm (n + 18 - 6 * i) A' B' ∧ ps.length ≤ i ∧ (∀ p ∈ ps, p.2.2.natAbs < BIG.natAbs) ∧ (∀ l, getP kvs (.inr (S l)) = (lk ps l).map D.int) ∧ (∀ p ∈ kvs, ∃ z, p.2 = .int z) ∧ kvs.length ≤ i ∧ ∀ p ∈ ps, p.2.1 ∈ ns.take i,
      ⟨A, B, [], [], none, none, none, rfl, rfl, hs, by simp, by simp, fun l => rfl, by simp, by simp, by simp⟩, ?_, ?_⟩
    · rintro i x ρ' γ' hi ⟨A', B', ps, kvs, x4, x5, x6, rfl, rfl, hs', hpl, hsm, hlk, hin, hkl, hnm⟩
      unfold strsD at hi
      rw [List.getElem?_map] at hi
      cases hg : ns[i]? with
      | none => rw [hg] at hi; cases hi
      | some nm =>
      rw [hg] at hi
      cases hi
      have hi3 : i < 3 := by rw [← hns]; exact (List.getElem?_eq_some_iff.mp hg).1
      refine dg_name ?_
      walk_at "GO"
      refine ⟨n + 18 - 6 * i - 1, 4, A', B', _, rfl, by decide, by decide, rfl, hs'.mono (by omega), fun d A1 B1 hd0 hd1 hs1 => ?_⟩
      walk_at "GO"
      refine ifd (fun c1 => ?_) (fun c1 => ?_)
      · walk_at "GO"
        · exact ⟨by decide, by decide, by decide⟩
        · exact ⟨by decide, by decide, by decide⟩
        · exact ⟨by decide, by decide, by decide⟩
        · exact ⟨by decide, by decide, by decide⟩
        refine ⟨n + 18 - 6 * i - 2, 1000, A1, B1, _, rfl, by decide, by decide, rfl, hs1.mono (by omega), fun d1 A2 B2 he0 he1 hs2 => ?_⟩
        walk_at "GO"
        refine ⟨n + 18 - 6 * i - 3, 11, A2, B2, _, rfl, by decide, by decide, rfl, hs2.mono (by omega), fun d2 A3 B3 hf0 hf1 hs3 => ?_⟩
        have hval : ∃ v : Int, atI [D.int 0, D.int 1, D.int (-1), D.int 3, D.int (-7), D.int 12, D.int (10 ^ Int.toNat 15), D.int (-10 ^ Int.toNat 15), D.int (10 ^ Int.toNat 30 - 1), D.int (1 - 10 ^ Int.toNat 30), D.int d1] d2 = some (.int v) ∧ v.natAbs < BIG.natAbs := by
          have : d2 = 0 ∨ d2 = 1 ∨ d2 = 2 ∨ d2 = 3 ∨ d2 = 4 ∨ d2 = 5 ∨ d2 = 6 ∨ d2 = 7 ∨ d2 = 8 ∨ d2 = 9 ∨ d2 = 10 := by omega
          have hB : BIG.natAbs = 1000000000000000000000000000000 := rfl
          rcases this with rfl | rfl | rfl | rfl | rfl | rfl | rfl | rfl | rfl | rfl | rfl
          all_goals first | exact ⟨_, rfl, by decide⟩ | exact ⟨_, rfl, by omega⟩
        obtain ⟨v, hv, hvs⟩ := hval
        refine xix_lst ⟨_, rfl, .int v, hv, ?_⟩
        walk_at "GO"
        refine .inl ⟨_, kvs, .inr (S nm), rfl, getK, rfl, by omega, ?_⟩
        rw [setK]
        have hg1 : getP (putP kvs (.inr (S nm)) (.int v)) (.inr (S nm)) = some (.int v) := by rw [getP_put, if_pos rfl]
        walk_at "GO"
        refine ⟨_, dv_loc getK hg1, ?_⟩
        walk_at "GO"
        refine ⟨_, dv_loc getK hg1, ?_⟩
        walk_at "GO"
        refine ⟨n + 18 - 6 * i - 4, 2, A3, B3, _, rfl, by decide, by decide, rfl, hs3.mono (by omega), fun d3 A4 B4 hh0 hh1 hs4 => ?_⟩
        obtain ⟨b, hb⟩ := pair_at (v := v) (nm := nm) hh0 hh1
        refine xix_lst ⟨_, rfl, _, hb, ?_⟩
        walk_at "GO"
        refine ⟨xty_lst ⟨_, vw_loc getF⟩, ?_⟩
        walk_at "GO"
        refine rc_len (sq_g getF) ?_
        walk_at "GO"
        have hlen : (ps.map Pr.d).length = ps.length := List.length_map _
        rw [hlen]
        refine ⟨n + 18 - 6 * i - 5, (ps.length : Int) + 1, A4, B4, _, rfl, by omega, by omega, rfl, hs4.mono (by omega), fun d4 A5 B5 hi0 hi1 hs5 => ?_⟩
        obtain ⟨j, rfl⟩ : ∃ j : Nat, d4 = j := ⟨d4.toNat, by omega⟩
        walk_at "GO"
        refine rm_insert ⟨_, _, rfl, getF, by rw [hlen]; omega, by omega, ?_⟩
        rw [setF]
        have hfresh : ∀ p ∈ ps, p.2.1 ≠ nm := by
          intro p hp c
          have h1 := hnm p hp
          rw [c] at h1
          obtain ⟨k, hk1, hk2⟩ := List.getElem_of_mem h1
          rw [List.getElem_take] at hk2
          have hk3 : k < i := by rw [List.length_take] at hk1; omega
          have hi' := List.getElem?_eq_some_iff.mp hg
          have := (List.getElem_inj hnd).mp (hk2.trans hi'.2.symm)
          omega
        refine ⟨A5, B5, ps.take j ++ [(b, nm, v)] ++ ps.drop j, putP kvs (.inr (S nm)) (.int v), _, _, _, rfl, ?_, hs5.mono (by omega), ?_, ?_, ?_, ?_, ?_, ?_⟩
        · rw [List.map_append, List.map_append, List.map_take, List.map_drop]; rfl
        · simp only [List.length_append, List.length_take, List.length_drop, List.length_singleton]; omega
        · intro p hp
          rcases List.mem_append.mp hp with hp | hp
          · rcases List.mem_append.mp hp with hp | hp
            · exact hsm p (List.mem_of_mem_take hp)
            · rw [List.mem_singleton] at hp; rw [hp]; exact hvs
          · exact hsm p (List.mem_of_mem_drop hp)
        · intro l
          rw [getP_put, lk_ins hfresh]
          by_cases h : nm = l
          · subst h
            rw [if_pos rfl, if_pos rfl]; rfl
          · rw [if_neg (fun c => h (S_inj.mp (Sum.inr.inj c))), if_neg h]
            exact hlk l
        · intro p hp
          unfold putP at hp
          split at hp
          · obtain ⟨p', hp', rfl⟩ := List.mem_map.mp hp
            split
            · exact ⟨v, rfl⟩
            · exact hin p' hp'
          · rcases List.mem_append.mp hp with hp | hp
            · exact hin p hp
            · rw [List.mem_singleton] at hp; rw [hp]; exact ⟨v, rfl⟩
        · unfold putP
          split
          · rw [List.length_map]; omega
          · simp; omega
        · intro p hp
          rcases List.mem_append.mp hp with hp | hp
          · rcases List.mem_append.mp hp with hp | hp
            · exact (List.take_subset_take_left ns (Nat.le_succ i)) (hnm p (List.mem_of_mem_take hp))
            · rw [List.mem_singleton] at hp; rw [hp]
              obtain ⟨hi1, hi2⟩ := List.getElem?_eq_some_iff.mp hg
              rw [List.take_succ_eq_append_getElem hi1, hi2]
              simp
          · exact (List.take_subset_take_left ns (Nat.le_succ i)) (hnm p (List.mem_of_mem_drop hp))
      · walk_at "GO"
        exact ⟨A1, B1, ps, kvs, _, _, _, rfl, rfl, hs1.mono (by omega), by omega, hsm, hlk, hin, by omega, fun p hp => (List.take_subset_take_left ns (Nat.le_succ i)) (hnm p hp)⟩
    · rintro ρ' γ' ⟨A', B', ps, kvs, x4, x5, x6, rfl, rfl, hs', hpl, hsm, hlk, hin, hkl, hnm⟩
      have hl3 : (strsD ns).length = 3 := by simp [strsD, hns]
      rw [hl3] at hs' hpl
      exact ⟨A', B', ps, kvs, x4, x5, x6, rfl, rfl, hs'.mono (by omega), hpl, hsm, hlk, hin⟩
  · rintro ρ' γ' ⟨A', B', ps, kvs, x4, x5, x6, rfl, rfl, hs', hpl, hsm, hlk, hin⟩
    walk_at "GO"
    have lo1' := strm_lo hs hs' lo1 (by simp)
    refine .inr ⟨.lst [.lst (ps.map Pr.d), .dic (kvs.map (·.1)) (kvs.map (·.2))], A' :: B' :: rest, [moK kvs, .lst (ps.map Pr.d)], rfl, Nat.le_refl _, lo1', ?_, ?_⟩
    · have hlo : ∀ m, loL m (ps.map Pr.d) = true := fun m => loL_map (fun p => by unfold Pr.d; split <;> rfl) _
      exact .lstI (.cons (.lst (by simp) getF (FzL.keep (hlo _))) (.cons (.dic (by simp) getK (FzL.keep (ints_lo _ kvs hin))) .nil))
    · refine hq ps _ A' B' hpl hsm ⟨_, _, rfl, fun l => by rw [valG_P]; exact hlk l, fun l n h => by obtain ⟨p, hp, rfl⟩ := lk_mem h; exact hsm p hp⟩ ?_ hs'
      exact ints_lo 0 kvs hin
end
end K09

set_option Elab.async false
set_option linter.all false
set_option maxRecDepth 100000
set_option maxHeartbeats 4000000
namespace K09
open PySem PySem.Spec PyProof.Rows L2 DL
local macro_rules | `(tactic| walk_at "GO") => `(tactic| repeat' (first | with_reducible refine xs_seq ?_ | with_reducible refine xs_set ?_ | with_reducible refine xs_asg ?_ | with_reducible refine xs_if ?_ | with_reducible refine xs_ret ?_ | with_reducible refine xs_next ?_ | with_reducible refine xs_expr ?_ | with_reducible refine xs_fld ?_ | with_reducible refine xs_par ?_ | with_reducible refine xs_retN ?_ | with_reducible refine xs_brk ?_ | with_reducible refine xp_nil ?_ | with_reducible refine xp_cons ?_ | with_reducible refine xe_disp ?_ | with_reducible refine xe_dispM ?_ | with_reducible refine xs_cont ?_ | with_reducible refine da_nil ?_ | with_reducible refine da_cons ?_ | with_reducible refine de_int ?_ | with_reducible refine de_str ?_ | with_reducible refine de_bl ?_ | with_reducible refine de_non ?_ | with_reducible refine de_ty ?_ | ((with_reducible refine xe_var ?_); refine ⟨_, rfl, ?_⟩) | with_reducible refine de_op ?_ | with_reducible refine de_un ?_ | with_reducible refine de_call ?_ | with_reducible refine de_cb ?_ | with_reducible refine de_sl ?_ | with_reducible refine do_none ?_ | with_reducible refine do_some ?_ | with_reducible refine de_if ?_ | with_reducible refine de_andV ?_ | with_reducible refine de_orV ?_ | with_reducible refine de_notV ?_ | with_reducible refine de_chain ?_ | with_reducible refine dt_test ?_ | with_reducible refine dt_B ?_ | with_reducible refine dt_and ?_ | with_reducible refine dt_or ?_ | with_reducible refine dt_not ?_ | (with_reducible refine xe_tup ?_) | (with_reducible refine xe_lst ?_) | (with_reducible refine xe_lstM ?_) | (with_reducible refine de_meth ?_) | with_reducible refine xs_dput ?_ | with_reducible refine xs_daug ?_ | with_reducible refine de_dget ?_ | with_reducible refine de_dgt1 ?_ | with_reducible refine de_dgt2 ?_ | with_reducible refine de_din ?_ | with_reducible refine de_dnotin ?_ | with_reducible refine de_dnewK ?_ | with_reducible refine de_dnewT ?_ | with_reducible refine de_revL ?_ | (with_reducible refine de_bm ?_) | (with_reducible refine de_bm0 ?_) | (with_reducible refine ⟨isTy_str, ?_⟩) | (with_reducible refine ⟨xty_lst ⟨_, rfl⟩, ?_⟩) | with_reducible refine radd_int ?_ | with_reducible refine radd_S ?_ ?_ | with_reducible refine rsub_int ?_ | with_reducible refine req_int ?_ | with_reducible refine rne_int ?_ | with_reducible refine req_S ?_ | with_reducible refine rne_S ?_ | with_reducible refine rlt_int ?_ | with_reducible refine rle_int ?_ | with_reducible refine rgt_int ?_ | with_reducible refine rge_int ?_ | with_reducible refine rneg_int ?_ | with_reducible refine rin_sgn ?_ | with_reducible refine rni_sgn ?_ | with_reducible refine rc_len_S ?_ ?_ | with_reducible refine rc_int_bl ?_ | with_reducible refine rc_str_int ?_ ?_ | with_reducible refine rc_str_str ?_ | with_reducible refine rc_max2 ?_ | with_reducible refine rc_abs ?_ | with_reducible refine req_bl ?_ | with_reducible refine rne_bl ?_ | with_reducible refine rltg_i ?_ | with_reducible refine rleg_i ?_ | with_reducible refine rgtg_i ?_ | with_reducible refine rgeg_i ?_ | with_reducible refine rltg_b ?_ | with_reducible refine rleg_b ?_ | with_reducible refine rgtg_b ?_ | with_reducible refine rgeg_b ?_ | with_reducible refine rist ?_ | with_reducible refine rntt ?_ | with_reducible refine dt_truth ?_ | ((with_reducible refine xc_isi ?_); refine ⟨_, true, rfl, rfl, ?_⟩) | ((with_reducible refine xc_isi ?_); refine ⟨_, false, rfl, rfl, ?_⟩) | with_reducible refine di_str ?_ | with_reducible refine di_list ?_ | with_reducible refine di_tup ?_ | with_reducible refine di_rng1 ?_ | with_reducible refine di_rng2 ?_ | with_reducible refine ift ?_ | with_reducible refine iff_ ?_ | with_reducible refine ifnt ?_ | with_reducible refine ifnf ?_ | with_reducible refine rin_strs sq_c ?_ | with_reducible refine rni_strs sq_c ?_ | with_reducible refine rin_strs sq_t ?_ | with_reducible refine rni_strs sq_t ?_ | with_reducible refine rin_strs sq_l ?_ | with_reducible refine rni_strs sq_l ?_ | with_reducible refine rin_strs (sq_v rfl) ?_ | with_reducible refine rni_strs (sq_v rfl) ?_ | ((with_reducible refine rin_seq sq_c ?_ ?_ ?_); rfl; rfl) | ((with_reducible refine rin_seq sq_t ?_ ?_ ?_); rfl; rfl) | ((with_reducible refine rin_seq sq_l ?_ ?_ ?_); rfl; rfl) | ((with_reducible refine rin_seq (sq_v rfl) ?_ ?_ ?_); rfl; rfl) | ((with_reducible refine rni_seq sq_c ?_ ?_ ?_); rfl; rfl) | ((with_reducible refine rni_seq sq_t ?_ ?_ ?_); rfl; rfl) | ((with_reducible refine rni_seq sq_l ?_ ?_ ?_); rfl; rfl) | ((with_reducible refine rni_seq (sq_v rfl) ?_ ?_ ?_); rfl; rfl) | (with_reducible refine xix_tup ?_) | ((with_reducible refine xc_len ?_); refine ⟨_, sq_c, ?_⟩) | ((with_reducible refine xc_len ?_); refine ⟨_, sq_t, ?_⟩) | ((with_reducible refine xc_len ?_); refine ⟨_, sq_l, ?_⟩) | ((with_reducible refine xc_len ?_); refine ⟨_, (sq_v rfl), ?_⟩) | (with_reducible refine rm_count ?_) | (with_reducible refine ⟨_, rfl, ?_⟩) | (with_reducible refine ⟨_, .inl rfl, ?_⟩) | (with_reducible refine ⟨_, .inr rfl, ?_⟩) | (with_reducible refine ⟨_, _, rfl, ?_⟩) | ((with_reducible refine xix_lst ?_); refine ⟨_, rfl, _, rfl, ?_⟩) | ((with_reducible refine xadd_lst ?_); refine ⟨_, rfl, _, rfl, ?_, ?_⟩) | with_reducible refine rmul_int ?_ ?_ | with_reducible refine rmod_int ?_ ?_ | with_reducible refine rfdiv_int ?_ ?_ | with_reducible refine rpow_int ?_ ?_ | with_reducible refine xg_setL ?_ | refine ⟨_, _, _, _, rfl, rfl, rfl, rfl, ?_⟩ | with_reducible refine xg_name ?_ | with_reducible refine xg_tup rfl ?_ | with_reducible refine xgs_name ?_ | with_reducible refine xgs_nil ?_ | (with_reducible refine ⟨Nat.le_of_ble_eq_true rfl, ?_⟩) | (with_reducible refine ifdT (by decide) ?_) | (with_reducible refine ifdF (by decide) ?_) | (with_reducible refine ifnT (by decide) ?_) | (with_reducible refine ifnF (by decide) ?_) | (with_reducible refine ifbT (by decide) ?_) | (with_reducible refine ifbF (by decide) ?_) | fail))
section
variable {P : Program} {mg : Str → Option Value}
def FLTS : List (List Nat) := [sDivision, sOverflow, []]
theorem cal_err {o : List Nat} {x y : Int} {r : List Nat} (h : cal o x y = .error r) : r ∈ FLTS := by
  have hb : ∀ z r, bnd z = .error r → r ∈ FLTS := by
    intro z r h
    unfold bnd at h
    split at h
    · cases h
    · cases h; decide
  unfold cal at h
  split at h
  · exact hb _ _ h
  split at h
  · exact hb _ _ h
  split at h
  · exact hb _ _ h
  split at h
  · cases h; decide
  split at h <;> cases h
theorem bind2_err {a b : Rs} {f : D → D → Rs} {r : List Nat} (h : bind2 a b f = .error r) : a = .error r ∨ b = .error r ∨ ∃ x y, f x y = .error r := by
  unfold bind2 at h
  split at h
  · cases h; exact .inl rfl
  · split at h
    · cases h; exact .inr (.inl rfl)
    · exact .inr (.inr ⟨_, _, h⟩)
theorem ev_err {kn : List Nat → Option Int} : ∀ (t : Ex) (r : List Nat), ev kn t = .error r → r ∈ FLTS
  | .num z, r, h => by cases h
  | .var l, r, h => by cases h
  | .neg a, r, h => by
    unfold ev at h
    rcases bind2_err h with h | h | ⟨x, y, h⟩
    · exact ev_err a r h
    · cases h
    · dsimp at h
      split at h <;> cases h
      decide
  | .nt a, r, h => by
    unfold ev at h
    rcases bind2_err h with h | h | ⟨x, y, h⟩
    · exact ev_err a r h
    · cases h
    · dsimp at h
      split at h <;> cases h
      decide
  | .bin o a b, r, h => by
    unfold ev at h
    rcases bind2_err h with h | h | ⟨x, y, h⟩
    · exact ev_err a r h
    · exact ev_err b r h
    · unfold onI at h
      split at h
      · exact cal_err h
      · cases h; decide
  | .cmp o a b, r, h => by
    unfold ev at h
    rcases bind2_err h with h | h | ⟨x, y, h⟩
    · exact ev_err a r h
    · exact ev_err b r h
    · unfold onI at h
      split at h <;> cases h
      decide
  | .con o a b, r, h => by
    unfold ev at h
    rcases bind2_err h with h | h | ⟨x, y, h⟩
    · exact ev_err a r h
    · exact ev_err b r h
    · unfold onB at h
      split at h <;> cases h
      decide
theorem flt_can {r : List Nat} (h : r ∈ FLTS) : (D.tup [.str (S r)]).py.canLay0 = true := by
  have : ∀ r ∈ FLTS, PyData.strOk (S r) = true := by decide +kernel
  simp [D.py, pyL, PyData.canLay0, PyData.canLayAll0, this r h]
theorem flt_shaped {r : List Nat} (h : r ∈ FLTS) : SeqAt.shaped (D.tup [.str (S r)]).py = true := by
  unfold SeqAt.shaped
  rw [flt_can h]
  simp [D.py, pyL, PyData.depth, PyData.depthAll]
theorem dl_L_same {K : Frag} (T : Tx K mg) : DL_L_same K (sp_L_same K) := by
  rintro ds γ q e E0 lo1 lo2 ⟨kn, t, hok, rfl, hk, hq⟩
  refine dS_env (ρ' := [some (ev kn t).d, some (ev kn t).d]) rfl ?_
  unfold t_L_same
  cases hev : ev kn t with
  | error r =>
    walk_at "GO"
    refine req_D (show (D.tup [.str (S r)]).pl = true from rfl) (show (D.tup [.str (S r)]).pl = true from rfl) (flt_shaped (ev_err t r hev)) (flt_shaped (ev_err t r hev)) ?_
    show Dr γ.length q (.bl (PyData.eqv (D.tup [.str (S r)]).py (D.tup [.str (S r)]).py)) γ
    rw [SeqAt.eqv_refl _ (flt_can (ev_err t r hev))]
    exact .inl hq
  | ok d =>
    have hd : (∃ n, d = .int n) ∨ ∃ b, d = .bl b := by
      unfold Ex.ok at hok
      rw [Bool.or_eq_true] at hok
      rcases hok with h | h
      · obtain ⟨n, rfl, _⟩ := ev_E hk t h d hev
        exact .inl ⟨n, rfl⟩
      · exact .inr (ev_C hk t h d hev)
    rcases hd with ⟨n, rfl⟩ | ⟨b, rfl⟩
    · show dS _ _ _ _ _ _
      walk_at "GO"
      refine req_int (i := n) (j := n) ?_
      rw [decide_eq_true rfl]
      exact .inl hq
    · show dS _ _ _ _ _ _
      walk_at "GO"
      refine req_bl (i := b) (j := b) ?_
      rw [decide_eq_true rfl]
      exact .inl hq
end
end K09

set_option Elab.async false
set_option linter.all false
set_option maxRecDepth 100000
set_option maxHeartbeats 4000000
namespace K09
open PySem PySem.Spec PyProof.Rows L2 DL
local macro_rules | `(tactic| walk_at "GO") => `(tactic| repeat' (first | with_reducible refine xs_seq ?_ | with_reducible refine xs_set ?_ | with_reducible refine xs_asg ?_ | with_reducible refine xs_if ?_ | with_reducible refine xs_ret ?_ | with_reducible refine xs_next ?_ | with_reducible refine xs_expr ?_ | with_reducible refine xs_fld ?_ | with_reducible refine xs_par ?_ | with_reducible refine xs_retN ?_ | with_reducible refine xs_brk ?_ | with_reducible refine xp_nil ?_ | with_reducible refine xp_cons ?_ | with_reducible refine xe_disp ?_ | with_reducible refine xe_dispM ?_ | with_reducible refine xs_cont ?_ | with_reducible refine da_nil ?_ | with_reducible refine da_cons ?_ | with_reducible refine de_int ?_ | with_reducible refine de_str ?_ | with_reducible refine de_bl ?_ | with_reducible refine de_non ?_ | with_reducible refine de_ty ?_ | ((with_reducible refine xe_var ?_); refine ⟨_, rfl, ?_⟩) | with_reducible refine de_op ?_ | with_reducible refine de_un ?_ | with_reducible refine de_call ?_ | with_reducible refine de_cb ?_ | with_reducible refine de_sl ?_ | with_reducible refine do_none ?_ | with_reducible refine do_some ?_ | with_reducible refine de_if ?_ | with_reducible refine de_andV ?_ | with_reducible refine de_orV ?_ | with_reducible refine de_notV ?_ | with_reducible refine de_chain ?_ | with_reducible refine dt_test ?_ | with_reducible refine dt_B ?_ | with_reducible refine dt_and ?_ | with_reducible refine dt_or ?_ | with_reducible refine dt_not ?_ | (with_reducible refine xe_tup ?_) | (with_reducible refine xe_lst ?_) | (with_reducible refine xe_lstM ?_) | (with_reducible refine de_meth ?_) | with_reducible refine xs_dput ?_ | with_reducible refine xs_daug ?_ | with_reducible refine de_dget ?_ | with_reducible refine de_dgt1 ?_ | with_reducible refine de_dgt2 ?_ | with_reducible refine de_din ?_ | with_reducible refine de_dnotin ?_ | with_reducible refine de_dnewK ?_ | with_reducible refine de_dnewT ?_ | with_reducible refine de_revL ?_ | (with_reducible refine de_bm ?_) | (with_reducible refine de_bm0 ?_) | (with_reducible refine ⟨isTy_str, ?_⟩) | (with_reducible refine ⟨xty_lst ⟨_, rfl⟩, ?_⟩) | (with_reducible refine ⟨xty_lst ⟨_, vw_loc at_0⟩, ?_⟩) | (with_reducible refine rm_append at_0 ?_ ?_) | (with_reducible refine rm_pop at_0 ?_) | (with_reducible refine rc_len (.inl (vw_loc at_0)) ?_) | (with_reducible refine ⟨xty_lst ⟨_, vw_loc at_1⟩, ?_⟩) | (with_reducible refine rm_append at_1 ?_ ?_) | (with_reducible refine rm_pop at_1 ?_) | (with_reducible refine rc_len (.inl (vw_loc at_1)) ?_) | (with_reducible refine ⟨xty_lst ⟨_, vw_loc at_2⟩, ?_⟩) | (with_reducible refine rm_append at_2 ?_ ?_) | (with_reducible refine rm_pop at_2 ?_) | (with_reducible refine rc_len (.inl (vw_loc at_2)) ?_) | with_reducible refine radd_int ?_ | with_reducible refine radd_S ?_ ?_ | with_reducible refine rsub_int ?_ | with_reducible refine req_int ?_ | with_reducible refine rne_int ?_ | with_reducible refine req_S ?_ | with_reducible refine rne_S ?_ | with_reducible refine rlt_int ?_ | with_reducible refine rle_int ?_ | with_reducible refine rgt_int ?_ | with_reducible refine rge_int ?_ | with_reducible refine rneg_int ?_ | with_reducible refine rin_sgn ?_ | with_reducible refine rni_sgn ?_ | with_reducible refine rc_len_S ?_ ?_ | with_reducible refine rc_int_bl ?_ | with_reducible refine rc_str_int ?_ ?_ | with_reducible refine rc_str_str ?_ | with_reducible refine rc_max2 ?_ | with_reducible refine rc_abs ?_ | with_reducible refine req_bl ?_ | with_reducible refine rne_bl ?_ | with_reducible refine rltg_i ?_ | with_reducible refine rleg_i ?_ | with_reducible refine rgtg_i ?_ | with_reducible refine rgeg_i ?_ | with_reducible refine rltg_b ?_ | with_reducible refine rleg_b ?_ | with_reducible refine rgtg_b ?_ | with_reducible refine rgeg_b ?_ | with_reducible refine rist ?_ | with_reducible refine rntt ?_ | with_reducible refine dt_truth ?_ | ((with_reducible refine xc_isi ?_); refine ⟨_, true, rfl, rfl, ?_⟩) | ((with_reducible refine xc_isi ?_); refine ⟨_, false, rfl, rfl, ?_⟩) | with_reducible refine di_str ?_ | with_reducible refine di_list ?_ | with_reducible refine di_tup ?_ | with_reducible refine di_rng1 ?_ | with_reducible refine di_rng2 ?_ | with_reducible refine ift ?_ | with_reducible refine iff_ ?_ | with_reducible refine ifnt ?_ | with_reducible refine ifnf ?_ | with_reducible refine rin_strs sq_c ?_ | with_reducible refine rni_strs sq_c ?_ | with_reducible refine rin_strs sq_t ?_ | with_reducible refine rni_strs sq_t ?_ | with_reducible refine rin_strs sq_l ?_ | with_reducible refine rni_strs sq_l ?_ | with_reducible refine rin_strs (sq_v rfl) ?_ | with_reducible refine rni_strs (sq_v rfl) ?_ | ((with_reducible refine rin_seq sq_c ?_ ?_ ?_); rfl; rfl) | ((with_reducible refine rin_seq sq_t ?_ ?_ ?_); rfl; rfl) | ((with_reducible refine rin_seq sq_l ?_ ?_ ?_); rfl; rfl) | ((with_reducible refine rin_seq (sq_v rfl) ?_ ?_ ?_); rfl; rfl) | ((with_reducible refine rni_seq sq_c ?_ ?_ ?_); rfl; rfl) | ((with_reducible refine rni_seq sq_t ?_ ?_ ?_); rfl; rfl) | ((with_reducible refine rni_seq sq_l ?_ ?_ ?_); rfl; rfl) | ((with_reducible refine rni_seq (sq_v rfl) ?_ ?_ ?_); rfl; rfl) | (with_reducible refine xix_tup ?_) | ((with_reducible refine xc_len ?_); refine ⟨_, sq_c, ?_⟩) | ((with_reducible refine xc_len ?_); refine ⟨_, sq_t, ?_⟩) | ((with_reducible refine xc_len ?_); refine ⟨_, sq_l, ?_⟩) | ((with_reducible refine xc_len ?_); refine ⟨_, (sq_v rfl), ?_⟩) | (with_reducible refine rm_count ?_) | (with_reducible refine ⟨_, rfl, ?_⟩) | (with_reducible refine ⟨_, .inl rfl, ?_⟩) | (with_reducible refine ⟨_, .inr rfl, ?_⟩) | (with_reducible refine ⟨_, _, rfl, ?_⟩) | ((with_reducible refine xix_lst ?_); refine ⟨_, rfl, _, rfl, ?_⟩) | ((with_reducible refine xadd_lst ?_); refine ⟨_, rfl, _, rfl, ?_, ?_⟩) | with_reducible refine rmul_int ?_ ?_ | with_reducible refine rmod_int ?_ ?_ | with_reducible refine rfdiv_int ?_ ?_ | with_reducible refine rpow_int ?_ ?_ | with_reducible refine xg_setL ?_ | refine ⟨_, _, _, _, rfl, rfl, rfl, rfl, ?_⟩ | with_reducible refine xg_name ?_ | with_reducible refine xg_tup rfl ?_ | with_reducible refine xgs_name ?_ | with_reducible refine xgs_nil ?_ | (with_reducible refine ⟨Nat.le_of_ble_eq_true rfl, ?_⟩) | (with_reducible refine ifdT (by decide) ?_) | (with_reducible refine ifdF (by decide) ?_) | (with_reducible refine ifnT (by decide) ?_) | (with_reducible refine ifnF (by decide) ?_) | (with_reducible refine ifbT (by decide) ?_) | (with_reducible refine ifbF (by decide) ?_) | fail))
section
variable {P : Program} {mg : Str → Option Value}
theorem de_andV2 {K : KX} {ρ : DL.Env} {γ : Ga} {Q : QD} {i j : Nat} {d e : D} {b : Bool} (hd : ρ[i]? = some (some d)) (he : ρ[j]? = some (some e)) (hb : truD γ d = some b) (q : Q (if b = true then e else d) γ) : dE K (tAndT K (tVar i) (tVar j)) ρ γ Q := de_andT (de_var hd ⟨b, hb, by cases b with | true => exact de_var he q | false => exact q⟩)
theorem de_orV2 {K : KX} {ρ : DL.Env} {γ : Ga} {Q : QD} {i j : Nat} {d e : D} {b : Bool} (hd : ρ[i]? = some (some d)) (he : ρ[j]? = some (some e)) (hb : truD γ d = some b) (q : Q (if b = true then d else e) γ) : dE K (tOrT K (tVar i) (tVar j)) ρ γ Q := de_orT (de_var hd ⟨b, hb, by cases b with | false => exact de_var he q | true => exact q⟩)
def TR1 (a b c d : D) : List (Key × D) := [(.inr (S sAnd), a), (.inr (S sOr), b), (.inr (S [61]), c), (.inr (S [33, 61]), d)]
def TR2 (a b c d : D) : List (Key × D) := [(.inr (S [60]), a), (.inr (S [60, 61]), b), (.inr (S [62]), c), (.inr (S [62, 61]), d)]
theorem nd1 : ([.inr (S sAnd), .inr (S sOr), .inr (S [61]), .inr (S [33, 61])] : List Key).Nodup := by decide
theorem nd2 : ([.inr (S [60]), .inr (S [60, 61]), .inr (S [62]), .inr (S [62, 61])] : List Key).Nodup := by decide
theorem tr_get {a b c d e f g h : D} : ∀ p ∈ TR1 a b c d ++ TR2 e f g h, getP (putsP (TR1 a b c d) (TR2 e f g h)) p.1 = some p.2 := by
  intro p hp
  simp only [TR1, TR2, List.cons_append, List.nil_append, List.mem_cons, List.not_mem_nil, or_false] at hp
  rcases hp with rfl | rfl | rfl | rfl | rfl | rfl | rfl | rfl <;> simp [putsP, putP, getP, TR1, TR2, S_inj, sAnd, sOr]
theorem tr_at {a b c d e f g h v : D} {k : Key} {i : Nat} (hi : (TR1 a b c d ++ TR2 e f g h)[i]? = some (k, v)) : getP (putsP (TR1 a b c d) (TR2 e f g h)) k = some v := tr_get (k, v) (List.mem_of_getElem? hi)
theorem ne_cmp {n m : Int} : (!decide (n = m)) = cmpD [33, 61] n m := by unfold cmpD; simp
theorem lval_loop {K : Frag} {E0 : XK} {e : XD} {γ : Ga} {s : SpD} {x kd : D} {o : List Nat} {ρ2 : Option D} (kn : List Nat → Option Int) (ts : List Ex) (xs : List D) (hx : x = .tup (.str (S o) :: xs)) (hl : xs.length = ts.length) (hl2 : ts.length ≤ 2) (hne : 0 < ts.length) (lo1 : loG γ.length γ = true)
    (hxs : ∀ (i : Nat) (y : D) (t : Ex), xs[i]? = some y → ts[i]? = some t → ∀ γ' q' e', q' (ev kn t).d γ' → s [y, kd] γ' q' e')
    (hty : ∀ t ∈ ts, ∀ d, ev kn t = .ok d → (∃ n, d = .int n) ∨ ∃ b, d = .bl b) {q : QD} {nx bk ct : DL.Env → Ga → Prop} {n : Nat}
    (herr : ∀ (i : Nat) (t : Ex) (ds : List D) (r : List Nat), ts[i]? = some t → (ts.take i).map (ev kn) = ds.map Except.ok → ev kn t = .error r → q (.tup [.str (S r)]) γ)
    (hq : ∀ (ds : List D) x4 x5, ts.map (ev kn) = ds.map Except.ok → nx [some x, some kd, ρ2, some (.loc γ.length), x4, x5, none, none, none] (γ ++ [.lst ds])) :
    dS ⟨K, wOf E0, fun _ => DrX γ.length e⟩ n (tFor (iTup K (tSl (rSlG K) (tVar 0) (tPart (tC (.int 1))) tNoPart)) (gName 4) (tSeq (tAsg (tCallW (toSp K s) (WE (wOf E0)) (tCons (tVar 4) (tCons (tVar 1) tNil))) (gName 5)) (tSeq (tIfS (tB (tCB (rIsi K) (tCons (tVar 5) (tCons (tC (.ty "tuple")) tNil)))) (tRet (tVar 5)) tNext) (tDrop (tBM K "list" rAppend (tVar 3) (tCons (tVar 5) tNil))))))
      [some x, some kd, ρ2, some (.loc γ.length), none, none, none, none, none] (γ ++ [.lst []]) ⟨nx, Dr γ.length q, bk, ct⟩ := by
  subst hx
  have len : (D.str (S o) :: xs).length = ts.length + 1 := by simp [hl]
  have cut : DL.cutD (D.str (S o) :: xs) (some 1) none = xs := by
    unfold DL.cutD
    have h1 : HT.sIx (D.str (S o) :: xs).length 0 (some 1) = 1 := by
      rw [show (1 : Int) = ((1 : Nat) : Int) from rfl, HT.sIx_nat, len]; omega
    rw [h1, HT.sIx_none, len, hl.symm]
    simp
  refine xs_for [4] ?_
  walk_at "GO"
  refine rsl_tup (fun c => ?_) ?_
  · have h1 := c.1
    rw [show (1 : Int) = ((1 : Nat) : Int) from rfl, HT.sIx_nat, len] at h1
    omega
  rw [cut]
  refine ⟨_, .inl rfl, fun i ρ' γ' => ∃ (ds : List D) (x4 x5 : Option D), ρ' = [some (.tup (.str (S o) :: xs)), some kd, ρ2, some (.loc γ.length), x4, x5, none, none, none] ∧ γ' = γ ++ [.lst ds] ∧ (ts.take i).map (ev kn) = ds.map Except.ok, ⟨[], none, none, rfl, rfl, rfl⟩, ?_, ?_⟩
  · rintro i y ρ' γ' hy ⟨ds, x4, x5, rfl, rfl, ha⟩
    have hi : i < ts.length := by rw [← hl]; exact (List.getElem?_eq_some_iff.mp hy).1
    have ht : ts[i]? = some ts[i] := List.getElem?_eq_getElem hi
    refine dg_name ?_
    walk_at "GO"
    refine hxs i y _ hy ht _ _ _ ?_
    cases hev : ev kn ts[i] with
    | error r =>
      walk_at "GO"
      exact dr_keep lo1 rfl (herr i _ ds r ht ha hev)
    | ok d =>
      have hdl : ds.length ≤ 2 := by
        have := congrArg List.length ha
        simp at this
        omega
      rcases hty _ (List.getElem_mem hi) d hev with ⟨n, rfl⟩ | ⟨n, rfl⟩
      all_goals
        show dS _ _ _ _ _ _
        walk_at "GO"
        · omega
        rw [set_0]
        refine ⟨ds ++ [_], _, _, rfl, rfl, ?_⟩
        rw [List.take_succ_eq_append_getElem hi, List.map_append, List.map_append, ha]
        simp [hev]
        rfl
  · rintro ρ' γ' ⟨ds, x4, x5, rfl, rfl, ha⟩
    rw [hl, List.take_length] at ha
    exact hq ds x4 x5 ha
theorem cal_lo {o : List Nat} {x y : Int} {m : Nat} (hx : x.natAbs < BIG.natAbs) (hy : y.natAbs < BIG.natAbs) : (cal o x y).d.lo m = true := by
  cases h : cal o x y with
  | error r => rfl
  | ok d =>
    obtain ⟨n, rfl, _⟩ := cal_ok hx hy h
    rfl
theorem dl_L_value {K : Frag} (T : Tx K mg) (s : SpD) (dp : Nat) (hrec : ∀ dp', dp = dp' + 1 → ∀ ds γ q e, spLVal K dp' ds γ q e → s ds γ q e) : DL_L_value K s (spLVal K dp) := by
  rintro ds γ q e E0 lo1 lo2 ⟨kd, kn, t, rfl, hok, hdp, hkd, hq⟩
  refine dS_env (ρ' := [some t.d, some kd, none, none, none, none, none, none, none]) rfl ?_
  unfold t_L_value
  have hkd' := hkd
  obtain ⟨ks, vs, rfl, hkv, hks⟩ := hkd
  have rec1 : ∀ (a : Ex), a.ok = true → a.dep + 1 ≤ dp → ∀ γ' q' e', q' (ev kn a).d γ' → s [a.d, .dic ks vs] γ' q' e' := by
    intro a ha hd γ' q' e' g
    obtain ⟨dp', rfl⟩ : ∃ k, dp = k + 1 := ⟨dp - 1, by omega⟩
    exact hrec dp' rfl _ _ _ _ ⟨_, kn, a, rfl, ha, by omega, hkd', g⟩
  have bl1 : ∀ a : Ex, a.okC = true → ∀ d, ev kn a = .ok d → ∃ b, d = .bl b := fun a ha d h => ev_C hks a ha d h
  have int1 : ∀ a : Ex, a.okE = true → ∀ d, ev kn a = .ok d → ∃ n, d = .int n := fun a ha d h => by
    obtain ⟨n, rfl, _⟩ := ev_E hks a ha d h
    exact ⟨n, rfl⟩
  cases t with
  | num z =>
    have e0 : (Ex.num z).d = .tup [.str (S sNumber), .int z] := rfl
    rw [e0]
    walk_at "GO"
    exact .inl hq
  | var l =>
    have e0 : (Ex.var l).d = .tup [.str (S sVariable), .str (S l)] := rfl
    rw [e0]
    walk_at "GO"
    refine ⟨.inl ⟨_, rfl⟩, ?_⟩
    walk_at "GO"
    refine ⟨_, .inl ⟨_, _, _, rfl, rfl, rfl⟩, ?_⟩
    rw [hkv]
    have e1 : (Option.map D.int (kn l)).getD (.int 0) = (ev kn (.var l)).d := by
      show _ = D.int ((kn l).getD 0)
      cases kn l <;> rfl
    rw [e1]
    exact .inl hq
  | neg a =>
    have e0 : (Ex.neg a).d = .tup [.str (S sNegate), a.d] := rfl
    have ha : a.okE = true := ok_neg hok
    simp only [Ex.dep] at hdp
    rw [e0]
    walk_at "GO"
    refine lval_loop kn [a] [a.d] rfl rfl (by simp) (by simp) lo1 (fun i y t' hy ht γ' q' e' g => ?_) (fun t' ht' d hd => ?_) (fun i t' ds r ht hds hr => ?_) (fun ds x4 x5 hds => ?_)
    · match i, hy, ht with
      | 0, hy, ht => cases hy; cases ht; exact rec1 a (okE_ok ha) hdp γ' q' e' g
    · rw [List.mem_singleton] at ht'
      exact .inl (int1 a ha d (ht' ▸ hd))
    · have e1 : ev kn (.neg a) = .error r := by
        unfold ev
        rw [err1 (ds := ds) ht hr]; rfl
      rw [e1] at hq
      exact hq
    · obtain ⟨d, rfl, hd⟩ := map1 hds
      obtain ⟨n, rfl⟩ := int1 a ha d hd
      walk_at "GO"
      refine xix_lst ⟨_, vw_app, _, rfl, ?_⟩
      walk_at "GO"
      have e1 : ev kn (.neg a) = .ok (.int (0 - n)) := by
        unfold ev
        rw [hd]
        show Except.ok (D.int (-n)) = _
        rw [show -n = 0 - n by omega]
      rw [e1] at hq
      exact dr_keep lo1 rfl hq
  | bin o a b =>
    have e0 : (Ex.bin o a b).d = .tup [.str (S o), a.d, b.d] := rfl
    obtain ⟨ho, ha, hb⟩ := ok_bin hok
    simp only [Ex.dep] at hdp
    rw [e0]
    have ho' := ho
    rcases ops_in ho' with rfl | rfl | rfl | rfl | rfl
    all_goals
      walk_at "GO"
      refine lval_loop kn [a, b] [a.d, b.d] rfl rfl (by simp) (by simp) lo1 (fun i y t' hy ht γ' q' e' g => ?_) (fun t' ht' d hd => ?_) (fun i t' ds r ht hds hr => ?_) (fun ds x4 x5 hds => ?_)
      · match i, hy, ht with
        | 0, hy, ht => cases hy; cases ht; exact rec1 a (okE_ok ha) (by omega) γ' q' e' g
        | 1, hy, ht => cases hy; cases ht; exact rec1 b (okE_ok hb) (by omega) γ' q' e' g
      · simp only [List.mem_cons, List.not_mem_nil, or_false] at ht'
        rcases ht' with rfl | rfl
        · exact .inl (int1 _ ha d hd)
        · exact .inl (int1 _ hb d hd)
      · have e1 := err2 ht hds hr
        unfold ev at hq
        rw [e1] at hq
        exact hq
      · obtain ⟨d, d', rfl, hd, hd'⟩ := map2 hds
        obtain ⟨n, rfl, hn'⟩ := ev_E hks a ha d hd
        obtain ⟨m, rfl, hm'⟩ := ev_E hks b hb d' hd'
        walk_at "GO"
        refine xg_lst ⟨_, vw_app, rfl, ?_⟩
        walk_at "GO"
        unfold ev at hq
        rw [hd, hd'] at hq
        exact ⟨_, n, m, rfl, ho, hn', hm', dr_keep lo1 (cal_lo hn' hm') hq⟩
  | nt a =>
    have e0 : (Ex.nt a).d = .tup [.str (S sNot), a.d] := rfl
    have ha : a.okC = true := ok_nt hok
    simp only [Ex.dep] at hdp
    rw [e0]
    walk_at "GO"
    refine lval_loop kn [a] [a.d] rfl rfl (by simp) (by simp) lo1 (fun i y t' hy ht γ' q' e' g => ?_) (fun t' ht' d hd => ?_) (fun i t' ds r ht hds hr => ?_) (fun ds x4 x5 hds => ?_)
    · match i, hy, ht with
      | 0, hy, ht => cases hy; cases ht; exact rec1 a (okC_ok ha) hdp γ' q' e' g
    · rw [List.mem_singleton] at ht'
      exact .inr (bl1 a ha d (ht' ▸ hd))
    · have e1 : ev kn (.nt a) = .error r := by
        unfold ev
        rw [err1 (ds := ds) ht hr]; rfl
      rw [e1] at hq
      exact hq
    · obtain ⟨d, rfl, hd⟩ := map1 hds
      obtain ⟨n, rfl⟩ := bl1 a ha d hd
      walk_at "GO"
      refine xix_lst ⟨_, vw_app, _, rfl, ?_⟩
      walk_at "GO"
      have e1 : ev kn (.nt a) = .ok (.bl ((D.bl n).isBl false)) := by
        unfold ev
        rw [hd]
        cases n <;> rfl
      rw [e1] at hq
      exact dr_keep lo1 rfl hq
  | cmp o a b =>
    have e0 : (Ex.cmp o a b).d = .tup [.str (S o), a.d, b.d] := rfl
    obtain ⟨ho, ha, hb⟩ := ok_cmp hok
    simp only [Ex.dep] at hdp
    rw [e0]
    have ho' : o = [61] ∨ o = [33, 61] ∨ o = [60] ∨ o = [60, 61] ∨ o = [62] ∨ o = [62, 61] := by simpa [CMPS] using ho
    rcases ho' with rfl | rfl | rfl | rfl | rfl | rfl
    all_goals
      walk_at "GO"
      refine lval_loop kn [a, b] [a.d, b.d] rfl rfl (by simp) (by simp) lo1 (fun i y t' hy ht γ' q' e' g => ?_) (fun t' ht' d hd => ?_) (fun i t' ds r ht hds hr => ?_) (fun ds x4 x5 hds => ?_)
      · match i, hy, ht with
        | 0, hy, ht => cases hy; cases ht; exact rec1 a (okE_ok ha) (by omega) γ' q' e' g
        | 1, hy, ht => cases hy; cases ht; exact rec1 b (okE_ok hb) (by omega) γ' q' e' g
      · simp only [List.mem_cons, List.not_mem_nil, or_false] at ht'
        rcases ht' with rfl | rfl
        · exact .inl (int1 _ ha d hd)
        · exact .inl (int1 _ hb d hd)
      · have e1 := err2 ht hds hr
        unfold ev at hq
        rw [e1] at hq
        exact hq
      · obtain ⟨d, d', rfl, hd, hd'⟩ := map2 hds
        obtain ⟨n, rfl⟩ := int1 a ha d hd
        obtain ⟨m, rfl⟩ := int1 b hb d' hd'
        unfold ev at hq
        rw [hd, hd'] at hq
        walk_at "GO"
        refine xg_lst ⟨_, vw_app, rfl, ?_⟩
        walk_at "GO"
        refine de_andV2 rfl rfl rfl ?_
        walk_at "GO"
        refine de_orV2 rfl rfl rfl ?_
        walk_at "GO"
        refine ⟨rfl, nd1, Nat.le_of_ble_eq_true rfl, ?_⟩
        walk_at "GO"
        refine ⟨isTy_dic (dvw_loc (ps := TR1 _ _ _ _) at_0), ?_⟩
        walk_at "GO"
        refine ⟨rfl, nd2, Nat.le_of_ble_eq_true rfl, ?_⟩
        walk_at "GO"
        refine rm_update ⟨_, TR1 _ _ _ _, TR2 _ _ _ _, rfl, at_0, by simp, rfl, Nat.le_of_ble_eq_true rfl, ?_⟩
        rw [set_0]
        walk_at "GO"
        refine ⟨_, dv_loc at_0 (by first | exact tr_at (i := 0) rfl | exact tr_at (i := 1) rfl | exact tr_at (i := 2) rfl | exact tr_at (i := 3) rfl | exact tr_at (i := 4) rfl | exact tr_at (i := 5) rfl | exact tr_at (i := 6) rfl | exact tr_at (i := 7) rfl), ?_⟩
        walk_at "GO"
        rw [List.append_assoc]
        first | exact dr_keep lo1 rfl hq | (rw [ne_cmp]; exact dr_keep lo1 rfl hq)
  | con o a b =>
    have e0 : (Ex.con o a b).d = .tup [.str (S o), a.d, b.d] := rfl
    obtain ⟨ho, ha, hb⟩ := ok_con hok
    simp only [Ex.dep] at hdp
    rw [e0]
    have ho' : o = sOr ∨ o = sAnd := by simpa [CONS] using ho
    rcases ho' with rfl | rfl
    all_goals
      walk_at "GO"
      refine lval_loop kn [a, b] [a.d, b.d] rfl rfl (by simp) (by simp) lo1 (fun i y t' hy ht γ' q' e' g => ?_) (fun t' ht' d hd => ?_) (fun i t' ds r ht hds hr => ?_) (fun ds x4 x5 hds => ?_)
      · match i, hy, ht with
        | 0, hy, ht => cases hy; cases ht; exact rec1 a (okC_ok ha) (by omega) γ' q' e' g
        | 1, hy, ht => cases hy; cases ht; exact rec1 b (okC_ok hb) (by omega) γ' q' e' g
      · simp only [List.mem_cons, List.not_mem_nil, or_false] at ht'
        rcases ht' with rfl | rfl
        · exact .inr (bl1 _ ha d hd)
        · exact .inr (bl1 _ hb d hd)
      · have e1 := err2 ht hds hr
        unfold ev at hq
        rw [e1] at hq
        exact hq
      · obtain ⟨d, d', rfl, hd, hd'⟩ := map2 hds
        obtain ⟨n, rfl⟩ := bl1 a ha d hd
        obtain ⟨m, rfl⟩ := bl1 b hb d' hd'
        unfold ev at hq
        rw [hd, hd'] at hq
        walk_at "GO"
        refine xg_lst ⟨_, vw_app, rfl, ?_⟩
        walk_at "GO"
        refine de_andV2 rfl rfl rfl ?_
        walk_at "GO"
        refine de_orV2 rfl rfl rfl ?_
        walk_at "GO"
        refine ⟨rfl, nd1, Nat.le_of_ble_eq_true rfl, ?_⟩
        walk_at "GO"
        refine ⟨isTy_dic (dvw_loc (ps := TR1 _ _ _ _) at_0), ?_⟩
        walk_at "GO"
        refine ⟨rfl, nd2, Nat.le_of_ble_eq_true rfl, ?_⟩
        walk_at "GO"
        refine rm_update ⟨_, TR1 _ _ _ _, TR2 _ _ _ _, rfl, at_0, by simp, rfl, Nat.le_of_ble_eq_true rfl, ?_⟩
        rw [set_0]
        walk_at "GO"
        refine ⟨_, dv_loc at_0 (by first | exact tr_at (i := 0) rfl | exact tr_at (i := 1) rfl), ?_⟩
        walk_at "GO"
        rw [List.append_assoc]
        cases n <;> cases m <;> exact dr_keep lo1 rfl hq
end
end K09

set_option Elab.async false
set_option linter.all false
set_option maxRecDepth 100000
set_option maxHeartbeats 4000000
namespace K09
open PySem PySem.Spec PyProof.Rows L2 DL
local macro_rules | `(tactic| walk_at "GO") => `(tactic| repeat' (first | with_reducible refine xs_seq ?_ | with_reducible refine xs_set ?_ | with_reducible refine xs_asg ?_ | with_reducible refine xs_if ?_ | with_reducible refine xs_ret ?_ | with_reducible refine xs_next ?_ | with_reducible refine xs_expr ?_ | with_reducible refine xs_fld ?_ | with_reducible refine xs_par ?_ | with_reducible refine xs_retN ?_ | with_reducible refine xs_brk ?_ | with_reducible refine xp_nil ?_ | with_reducible refine xp_cons ?_ | with_reducible refine xe_disp ?_ | with_reducible refine xe_dispM ?_ | with_reducible refine xs_cont ?_ | with_reducible refine da_nil ?_ | with_reducible refine da_cons ?_ | with_reducible refine de_int ?_ | with_reducible refine de_str ?_ | with_reducible refine de_bl ?_ | with_reducible refine de_non ?_ | with_reducible refine de_ty ?_ | ((with_reducible refine xe_var ?_); refine ⟨_, rfl, ?_⟩) | with_reducible refine de_op ?_ | with_reducible refine de_un ?_ | with_reducible refine de_call ?_ | with_reducible refine de_cb ?_ | with_reducible refine de_sl ?_ | with_reducible refine do_none ?_ | with_reducible refine do_some ?_ | with_reducible refine de_if ?_ | with_reducible refine de_andV ?_ | with_reducible refine de_orV ?_ | with_reducible refine de_notV ?_ | with_reducible refine de_chain ?_ | with_reducible refine dt_test ?_ | with_reducible refine dt_B ?_ | with_reducible refine dt_and ?_ | with_reducible refine dt_or ?_ | with_reducible refine dt_not ?_ | (with_reducible refine xe_tup ?_) | (with_reducible refine xe_lst ?_) | (with_reducible refine xe_lstM ?_) | (with_reducible refine de_meth ?_) | with_reducible refine xs_dput ?_ | with_reducible refine xs_daug ?_ | with_reducible refine de_dget ?_ | with_reducible refine de_dgt1 ?_ | with_reducible refine de_dgt2 ?_ | with_reducible refine de_din ?_ | with_reducible refine de_dnotin ?_ | with_reducible refine de_dnewK ?_ | with_reducible refine de_dnewT ?_ | with_reducible refine de_revL ?_ | (with_reducible refine de_bm ?_) | (with_reducible refine de_bm0 ?_) | (with_reducible refine ⟨isTy_str, ?_⟩) | (with_reducible refine ⟨xty_lst ⟨_, rfl⟩, ?_⟩) | with_reducible refine radd_int ?_ | with_reducible refine radd_S ?_ ?_ | with_reducible refine rsub_int ?_ | with_reducible refine req_int ?_ | with_reducible refine rne_int ?_ | with_reducible refine req_S ?_ | with_reducible refine rne_S ?_ | with_reducible refine rlt_int ?_ | with_reducible refine rle_int ?_ | with_reducible refine rgt_int ?_ | with_reducible refine rge_int ?_ | with_reducible refine rneg_int ?_ | with_reducible refine rin_sgn ?_ | with_reducible refine rni_sgn ?_ | with_reducible refine rc_len_S ?_ ?_ | with_reducible refine rc_int_bl ?_ | with_reducible refine rc_str_int ?_ ?_ | with_reducible refine rc_str_str ?_ | with_reducible refine rc_max2 ?_ | with_reducible refine rc_abs ?_ | with_reducible refine req_bl ?_ | with_reducible refine rne_bl ?_ | with_reducible refine rltg_i ?_ | with_reducible refine rleg_i ?_ | with_reducible refine rgtg_i ?_ | with_reducible refine rgeg_i ?_ | with_reducible refine rltg_b ?_ | with_reducible refine rleg_b ?_ | with_reducible refine rgtg_b ?_ | with_reducible refine rgeg_b ?_ | with_reducible refine rist ?_ | with_reducible refine rntt ?_ | with_reducible refine dt_truth ?_ | ((with_reducible refine xc_isi ?_); refine ⟨_, true, rfl, rfl, ?_⟩) | ((with_reducible refine xc_isi ?_); refine ⟨_, false, rfl, rfl, ?_⟩) | with_reducible refine di_str ?_ | with_reducible refine di_list ?_ | with_reducible refine di_tup ?_ | with_reducible refine di_rng1 ?_ | with_reducible refine di_rng2 ?_ | with_reducible refine ift ?_ | with_reducible refine iff_ ?_ | with_reducible refine ifnt ?_ | with_reducible refine ifnf ?_ | with_reducible refine rin_strs sq_c ?_ | with_reducible refine rni_strs sq_c ?_ | with_reducible refine rin_strs sq_t ?_ | with_reducible refine rni_strs sq_t ?_ | with_reducible refine rin_strs sq_l ?_ | with_reducible refine rni_strs sq_l ?_ | with_reducible refine rin_strs (sq_v rfl) ?_ | with_reducible refine rni_strs (sq_v rfl) ?_ | ((with_reducible refine rin_seq sq_c ?_ ?_ ?_); rfl; rfl) | ((with_reducible refine rin_seq sq_t ?_ ?_ ?_); rfl; rfl) | ((with_reducible refine rin_seq sq_l ?_ ?_ ?_); rfl; rfl) | ((with_reducible refine rin_seq (sq_v rfl) ?_ ?_ ?_); rfl; rfl) | ((with_reducible refine rni_seq sq_c ?_ ?_ ?_); rfl; rfl) | ((with_reducible refine rni_seq sq_t ?_ ?_ ?_); rfl; rfl) | ((with_reducible refine rni_seq sq_l ?_ ?_ ?_); rfl; rfl) | ((with_reducible refine rni_seq (sq_v rfl) ?_ ?_ ?_); rfl; rfl) | (with_reducible refine xix_tup ?_) | ((with_reducible refine xc_len ?_); refine ⟨_, sq_c, ?_⟩) | ((with_reducible refine xc_len ?_); refine ⟨_, sq_t, ?_⟩) | ((with_reducible refine xc_len ?_); refine ⟨_, sq_l, ?_⟩) | ((with_reducible refine xc_len ?_); refine ⟨_, (sq_v rfl), ?_⟩) | (with_reducible refine rm_count ?_) | (with_reducible refine ⟨_, rfl, ?_⟩) | (with_reducible refine ⟨_, .inl rfl, ?_⟩) | (with_reducible refine ⟨_, .inr rfl, ?_⟩) | (with_reducible refine ⟨_, _, rfl, ?_⟩) | ((with_reducible refine xix_lst ?_); refine ⟨_, rfl, _, rfl, ?_⟩) | ((with_reducible refine xadd_lst ?_); refine ⟨_, rfl, _, rfl, ?_, ?_⟩) | with_reducible refine rmul_int ?_ ?_ | with_reducible refine rmod_int ?_ ?_ | with_reducible refine rfdiv_int ?_ ?_ | with_reducible refine rpow_int ?_ ?_ | with_reducible refine xg_setL ?_ | refine ⟨_, _, _, _, rfl, rfl, rfl, rfl, ?_⟩ | with_reducible refine xg_name ?_ | with_reducible refine xg_tup rfl ?_ | with_reducible refine xgs_name ?_ | with_reducible refine xgs_nil ?_ | (with_reducible refine ⟨Nat.le_of_ble_eq_true rfl, ?_⟩) | (with_reducible refine ifdT (by decide) ?_) | (with_reducible refine ifdF (by decide) ?_) | (with_reducible refine ifnT (by decide) ?_) | (with_reducible refine ifnF (by decide) ?_) | (with_reducible refine ifbT (by decide) ?_) | (with_reducible refine ifbF (by decide) ?_) | fail))
section
variable {P : Program} {mg : Str → Option Value}
theorem dl_holds {K : Frag} (T : Tx K mg) (Z : Te P K mg) : DL_holds K (sp_holds K) := by
  rintro ds γ q e' E0 lo1 lo2 ⟨x, vs, ps, t, rfl, hx, hok, hdp, hps, hq⟩
  refine dS_env (ρ' := [some x, some vs]) rfl ?_
  unfold t_holds
  refine ds_tryOnly (fun ρ' C ns ds γ' => (∃ r, ev (lk ps) t = .error r ∧ C = He.ga K "Fault" ∧ γ' = γ)) (fun W' => ?_) ?_
  · walk_at "GO"
    refine ⟨x, vs, ps, t, rfl, hx, okC_ok hok, hdp, hps, fun d hd => ?_, fun r hr => ?_⟩
    · obtain ⟨b, rfl⟩ := ev_C (fun l n e => by obtain ⟨p, hp, rfl⟩ := lk_mem e; exact hps.2.2 p hp) t hok d hd
      rw [hd] at hq
      exact .inl hq
    · exact ⟨r, hr, rfl, rfl⟩
  · rintro ρ' C ns ds γ' ⟨r, hr, rfl, rfl⟩
    refine .inl ⟨T.m_Fault_Fault, fun a dd => ?_⟩
    rw [hr] at hq
    walk_at "GO"
    exact .inl hq
end
end K09

set_option Elab.async false
set_option linter.all false
set_option maxRecDepth 100000
set_option maxHeartbeats 4000000
namespace K09
open PySem PySem.Spec PyProof.Rows L2 DL
local macro_rules | `(tactic| walk_at "GO") => `(tactic| repeat' (first | with_reducible refine xs_seq ?_ | with_reducible refine xs_set ?_ | with_reducible refine xs_asg ?_ | with_reducible refine xs_if ?_ | with_reducible refine xs_ret ?_ | with_reducible refine xs_next ?_ | with_reducible refine xs_expr ?_ | with_reducible refine xs_fld ?_ | with_reducible refine xs_par ?_ | with_reducible refine xs_retN ?_ | with_reducible refine xs_brk ?_ | with_reducible refine xp_nil ?_ | with_reducible refine xp_cons ?_ | with_reducible refine xe_disp ?_ | with_reducible refine xe_dispM ?_ | with_reducible refine xs_cont ?_ | with_reducible refine da_nil ?_ | with_reducible refine da_cons ?_ | with_reducible refine de_int ?_ | with_reducible refine de_str ?_ | with_reducible refine de_bl ?_ | with_reducible refine de_non ?_ | with_reducible refine de_ty ?_ | ((with_reducible refine xe_var ?_); refine ⟨_, rfl, ?_⟩) | with_reducible refine de_op ?_ | with_reducible refine de_un ?_ | with_reducible refine de_call ?_ | with_reducible refine de_cb ?_ | with_reducible refine de_sl ?_ | with_reducible refine do_none ?_ | with_reducible refine do_some ?_ | with_reducible refine de_if ?_ | with_reducible refine de_andV ?_ | with_reducible refine de_orV ?_ | with_reducible refine de_notV ?_ | with_reducible refine de_chain ?_ | with_reducible refine dt_test ?_ | with_reducible refine dt_B ?_ | with_reducible refine dt_and ?_ | with_reducible refine dt_or ?_ | with_reducible refine dt_not ?_ | (with_reducible refine xe_tup ?_) | (with_reducible refine xe_lst ?_) | (with_reducible refine xe_lstM ?_) | (with_reducible refine de_meth ?_) | with_reducible refine xs_dput ?_ | with_reducible refine xs_daug ?_ | with_reducible refine de_dget ?_ | with_reducible refine de_dgt1 ?_ | with_reducible refine de_dgt2 ?_ | with_reducible refine de_din ?_ | with_reducible refine de_dnotin ?_ | with_reducible refine de_dnewK ?_ | with_reducible refine de_dnewT ?_ | with_reducible refine de_revL ?_ | (with_reducible refine de_bm ?_) | (with_reducible refine de_bm0 ?_) | (with_reducible refine ⟨isTy_str, ?_⟩) | (with_reducible refine ⟨xty_lst ⟨_, rfl⟩, ?_⟩) | with_reducible refine radd_int ?_ | with_reducible refine radd_S ?_ ?_ | with_reducible refine rsub_int ?_ | with_reducible refine req_int ?_ | with_reducible refine rne_int ?_ | with_reducible refine req_S ?_ | with_reducible refine rne_S ?_ | with_reducible refine rlt_int ?_ | with_reducible refine rle_int ?_ | with_reducible refine rgt_int ?_ | with_reducible refine rge_int ?_ | with_reducible refine rneg_int ?_ | with_reducible refine rin_sgn ?_ | with_reducible refine rni_sgn ?_ | with_reducible refine rc_len_S ?_ ?_ | with_reducible refine rc_int_bl ?_ | with_reducible refine rc_str_int ?_ ?_ | with_reducible refine rc_str_str ?_ | with_reducible refine rc_max2 ?_ | with_reducible refine rc_abs ?_ | with_reducible refine req_bl ?_ | with_reducible refine rne_bl ?_ | with_reducible refine rltg_i ?_ | with_reducible refine rleg_i ?_ | with_reducible refine rgtg_i ?_ | with_reducible refine rgeg_i ?_ | with_reducible refine rltg_b ?_ | with_reducible refine rleg_b ?_ | with_reducible refine rgtg_b ?_ | with_reducible refine rgeg_b ?_ | with_reducible refine rist ?_ | with_reducible refine rntt ?_ | with_reducible refine dt_truth ?_ | ((with_reducible refine xc_isi ?_); refine ⟨_, true, rfl, rfl, ?_⟩) | ((with_reducible refine xc_isi ?_); refine ⟨_, false, rfl, rfl, ?_⟩) | with_reducible refine di_str ?_ | with_reducible refine di_list ?_ | with_reducible refine di_tup ?_ | with_reducible refine di_rng1 ?_ | with_reducible refine di_rng2 ?_ | with_reducible refine ift ?_ | with_reducible refine iff_ ?_ | with_reducible refine ifnt ?_ | with_reducible refine ifnf ?_ | with_reducible refine rin_strs sq_c ?_ | with_reducible refine rni_strs sq_c ?_ | with_reducible refine rin_strs sq_t ?_ | with_reducible refine rni_strs sq_t ?_ | with_reducible refine rin_strs sq_l ?_ | with_reducible refine rni_strs sq_l ?_ | with_reducible refine rin_strs (sq_v rfl) ?_ | with_reducible refine rni_strs (sq_v rfl) ?_ | ((with_reducible refine rin_seq sq_c ?_ ?_ ?_); rfl; rfl) | ((with_reducible refine rin_seq sq_t ?_ ?_ ?_); rfl; rfl) | ((with_reducible refine rin_seq sq_l ?_ ?_ ?_); rfl; rfl) | ((with_reducible refine rin_seq (sq_v rfl) ?_ ?_ ?_); rfl; rfl) | ((with_reducible refine rni_seq sq_c ?_ ?_ ?_); rfl; rfl) | ((with_reducible refine rni_seq sq_t ?_ ?_ ?_); rfl; rfl) | ((with_reducible refine rni_seq sq_l ?_ ?_ ?_); rfl; rfl) | ((with_reducible refine rni_seq (sq_v rfl) ?_ ?_ ?_); rfl; rfl) | (with_reducible refine xix_tup ?_) | ((with_reducible refine xc_len ?_); refine ⟨_, sq_c, ?_⟩) | ((with_reducible refine xc_len ?_); refine ⟨_, sq_t, ?_⟩) | ((with_reducible refine xc_len ?_); refine ⟨_, sq_l, ?_⟩) | ((with_reducible refine xc_len ?_); refine ⟨_, (sq_v rfl), ?_⟩) | (with_reducible refine rm_count ?_) | (with_reducible refine ⟨_, rfl, ?_⟩) | (with_reducible refine ⟨_, .inl rfl, ?_⟩) | (with_reducible refine ⟨_, .inr rfl, ?_⟩) | (with_reducible refine ⟨_, _, rfl, ?_⟩) | ((with_reducible refine xix_lst ?_); refine ⟨_, rfl, _, rfl, ?_⟩) | ((with_reducible refine xadd_lst ?_); refine ⟨_, rfl, _, rfl, ?_, ?_⟩) | with_reducible refine rmul_int ?_ ?_ | with_reducible refine rmod_int ?_ ?_ | with_reducible refine rfdiv_int ?_ ?_ | with_reducible refine rpow_int ?_ ?_ | with_reducible refine xg_setL ?_ | refine ⟨_, _, _, _, rfl, rfl, rfl, rfl, ?_⟩ | with_reducible refine xg_name ?_ | with_reducible refine xg_tup rfl ?_ | with_reducible refine xgs_name ?_ | with_reducible refine xgs_nil ?_ | (with_reducible refine ⟨Nat.le_of_ble_eq_true rfl, ?_⟩) | fail))
section
variable {K : Frag} {mg : Str → Option Value}
def spFl (K : Frag) : SpD := fun ds γ q _ => ∃ x, ds = [x] ∧ x.flat = true ∧ q x γ
theorem dl_listed_flat (T : Tx K mg) (s : SpD) : DL_L_listed K s (spFl K) := by
  rintro ds γ q e' E0 lo1 lo2 ⟨x, rfl, hf, hq⟩
  refine dS_env (ρ' := [some x, none]) rfl ?_
  unfold t_L_listed
  cases x with
  | str y =>
    walk_at "GO"
    exact .inl hq
  | int y =>
    walk_at "GO"
    exact .inl hq
  | bl y =>
    walk_at "GO"
    exact .inl hq
  | non =>
    walk_at "GO"
    exact .inl hq
  | _ => cases hf
end
end K09

set_option Elab.async false
set_option linter.all false
set_option maxRecDepth 100000
set_option maxHeartbeats 4000000
namespace K09
open PySem PySem.Spec PyProof.Rows L2 DL
local macro_rules | `(tactic| walk_at "GO") => `(tactic| repeat' (first | with_reducible refine xs_seq ?_ | with_reducible refine xs_set ?_ | with_reducible refine xs_asg ?_ | with_reducible refine xs_if ?_ | with_reducible refine xs_ret ?_ | with_reducible refine xs_next ?_ | with_reducible refine xs_expr ?_ | with_reducible refine xs_fld ?_ | with_reducible refine xs_par ?_ | with_reducible refine xs_retN ?_ | with_reducible refine xs_brk ?_ | with_reducible refine xp_nil ?_ | with_reducible refine xp_cons ?_ | with_reducible refine xe_disp ?_ | with_reducible refine xe_dispM ?_ | with_reducible refine xs_cont ?_ | with_reducible refine da_nil ?_ | with_reducible refine da_cons ?_ | with_reducible refine de_int ?_ | with_reducible refine de_str ?_ | with_reducible refine de_bl ?_ | with_reducible refine de_non ?_ | with_reducible refine de_ty ?_ | ((with_reducible refine xe_var ?_); refine ⟨_, rfl, ?_⟩) | with_reducible refine de_op ?_ | with_reducible refine de_un ?_ | with_reducible refine de_call ?_ | with_reducible refine de_cb ?_ | with_reducible refine de_sl ?_ | with_reducible refine do_none ?_ | with_reducible refine do_some ?_ | with_reducible refine de_if ?_ | with_reducible refine de_andV ?_ | with_reducible refine de_orV ?_ | with_reducible refine de_notV ?_ | with_reducible refine de_chain ?_ | with_reducible refine dt_test ?_ | with_reducible refine dt_B ?_ | with_reducible refine dt_and ?_ | with_reducible refine dt_or ?_ | with_reducible refine dt_not ?_ | (with_reducible refine xe_tup ?_) | (with_reducible refine xe_lst ?_) | (with_reducible refine xe_lstM ?_) | (with_reducible refine de_meth ?_) | with_reducible refine xs_dput ?_ | with_reducible refine xs_daug ?_ | with_reducible refine de_dget ?_ | with_reducible refine de_dgt1 ?_ | with_reducible refine de_dgt2 ?_ | with_reducible refine de_din ?_ | with_reducible refine de_dnotin ?_ | with_reducible refine de_dnewK ?_ | with_reducible refine de_dnewT ?_ | with_reducible refine de_revL ?_ | (with_reducible refine de_bm ?_) | (with_reducible refine de_bm0 ?_) | (with_reducible refine ⟨isTy_str, ?_⟩) | (with_reducible refine ⟨xty_lst ⟨_, rfl⟩, ?_⟩) | with_reducible refine radd_int ?_ | with_reducible refine radd_S ?_ ?_ | with_reducible refine rsub_int ?_ | with_reducible refine req_int ?_ | with_reducible refine rne_int ?_ | with_reducible refine req_S ?_ | with_reducible refine rne_S ?_ | with_reducible refine rlt_int ?_ | with_reducible refine rle_int ?_ | with_reducible refine rgt_int ?_ | with_reducible refine rge_int ?_ | with_reducible refine rneg_int ?_ | with_reducible refine rin_sgn ?_ | with_reducible refine rni_sgn ?_ | with_reducible refine rc_len_S ?_ ?_ | with_reducible refine rc_int_bl ?_ | with_reducible refine rc_str_int ?_ ?_ | with_reducible refine rc_str_str ?_ | with_reducible refine rc_max2 ?_ | with_reducible refine rc_abs ?_ | with_reducible refine req_bl ?_ | with_reducible refine rne_bl ?_ | with_reducible refine rltg_i ?_ | with_reducible refine rleg_i ?_ | with_reducible refine rgtg_i ?_ | with_reducible refine rgeg_i ?_ | with_reducible refine rltg_b ?_ | with_reducible refine rleg_b ?_ | with_reducible refine rgtg_b ?_ | with_reducible refine rgeg_b ?_ | with_reducible refine rist ?_ | with_reducible refine rntt ?_ | with_reducible refine dt_truth ?_ | ((with_reducible refine xc_isi ?_); refine ⟨_, true, rfl, rfl, ?_⟩) | ((with_reducible refine xc_isi ?_); refine ⟨_, false, rfl, rfl, ?_⟩) | with_reducible refine di_str ?_ | with_reducible refine di_list ?_ | with_reducible refine di_tup ?_ | with_reducible refine di_rng1 ?_ | with_reducible refine di_rng2 ?_ | with_reducible refine ift ?_ | with_reducible refine iff_ ?_ | with_reducible refine ifnt ?_ | with_reducible refine ifnf ?_ | with_reducible refine rin_strs sq_c ?_ | with_reducible refine rni_strs sq_c ?_ | with_reducible refine rin_strs sq_t ?_ | with_reducible refine rni_strs sq_t ?_ | with_reducible refine rin_strs sq_l ?_ | with_reducible refine rni_strs sq_l ?_ | with_reducible refine rin_strs (sq_v rfl) ?_ | with_reducible refine rni_strs (sq_v rfl) ?_ | ((with_reducible refine rin_seq sq_c ?_ ?_ ?_); rfl; rfl) | ((with_reducible refine rin_seq sq_t ?_ ?_ ?_); rfl; rfl) | ((with_reducible refine rin_seq sq_l ?_ ?_ ?_); rfl; rfl) | ((with_reducible refine rin_seq (sq_v rfl) ?_ ?_ ?_); rfl; rfl) | ((with_reducible refine rni_seq sq_c ?_ ?_ ?_); rfl; rfl) | ((with_reducible refine rni_seq sq_t ?_ ?_ ?_); rfl; rfl) | ((with_reducible refine rni_seq sq_l ?_ ?_ ?_); rfl; rfl) | ((with_reducible refine rni_seq (sq_v rfl) ?_ ?_ ?_); rfl; rfl) | (with_reducible refine xix_tup ?_) | ((with_reducible refine xc_len ?_); refine ⟨_, sq_c, ?_⟩) | ((with_reducible refine xc_len ?_); refine ⟨_, sq_t, ?_⟩) | ((with_reducible refine xc_len ?_); refine ⟨_, sq_l, ?_⟩) | ((with_reducible refine xc_len ?_); refine ⟨_, (sq_v rfl), ?_⟩) | (with_reducible refine rm_count ?_) | (with_reducible refine ⟨_, rfl, ?_⟩) | (with_reducible refine ⟨_, .inl rfl, ?_⟩) | (with_reducible refine ⟨_, .inr rfl, ?_⟩) | (with_reducible refine ⟨_, _, rfl, ?_⟩) | ((with_reducible refine xix_lst ?_); refine ⟨_, rfl, _, rfl, ?_⟩) | ((with_reducible refine xadd_lst ?_); refine ⟨_, rfl, _, rfl, ?_, ?_⟩) | with_reducible refine rmul_int ?_ ?_ | with_reducible refine rmod_int ?_ ?_ | with_reducible refine rfdiv_int ?_ ?_ | with_reducible refine rpow_int ?_ ?_ | with_reducible refine xg_setL ?_ | refine ⟨_, _, _, _, rfl, rfl, rfl, rfl, ?_⟩ | with_reducible refine xg_name ?_ | with_reducible refine xg_tup rfl ?_ | with_reducible refine xgs_name ?_ | with_reducible refine xgs_nil ?_ | (with_reducible refine ⟨Nat.le_of_ble_eq_true rfl, ?_⟩) | (with_reducible refine ifdT (by decide) ?_) | (with_reducible refine ifdF (by decide) ?_) | (with_reducible refine ifnT (by decide) ?_) | (with_reducible refine ifnF (by decide) ?_) | (with_reducible refine ifbT (by decide) ?_) | (with_reducible refine ifbF (by decide) ?_) | fail))
section
variable {P : Program} {mg : Str → Option Value}
theorem rneT_D {K : KX} {γ : Ga} {Q : QD} {xs : List D} (p : (D.tup xs).pl = true) (s : SeqAt.shaped (D.tup xs).py = true) (l : (D.tup xs).py.canLay0 = true) (q : Q (.bl false) γ) : dR2 K (rNeG K.f) (.tup xs) (.tup xs) γ Q := by
  refine rne_D p p s s ?_
  show Q (.bl (!PyData.eqv (D.tup xs).py (D.tup xs).py)) γ
  rw [SeqAt.eqv_refl _ l]
  exact q
theorem ex_lo : ∀ (e : Ex) (m : Nat), e.d.lo m = true
  | .num _, _ => rfl
  | .var _, _ => rfl
  | .neg a, m => by show (true && (a.d.lo m && true)) = true; rw [ex_lo a m]; rfl
  | .nt a, m => by show (true && (a.d.lo m && true)) = true; rw [ex_lo a m]; rfl
  | .bin _ a b, m => by show (true && (a.d.lo m && (b.d.lo m && true))) = true; rw [ex_lo a m, ex_lo b m]; rfl
  | .cmp _ a b, m => by show (true && (a.d.lo m && (b.d.lo m && true))) = true; rw [ex_lo a m, ex_lo b m]; rfl
  | .con _ a b, m => by show (true && (a.d.lo m && (b.d.lo m && true))) = true; rw [ex_lo a m, ex_lo b m]; rfl
def tB (b : Bool) : Ex := .cmp [61] (.num 0) (.num (if b then 0 else 1))
theorem tB_ok : ∀ b, (tB b).ok = true := by decide
theorem tB_ev {kn : List Nat → Option Int} : ∀ b, ev kn (tB b) = .ok (.bl b) := by
  intro b; cases b <;> rfl
theorem hold_is {kn : List Nat → Option Int} (hk : SmallK kn) {t : Ex} (ht : t.okC = true) : (ev kn t).d.isBl true = holdD (ev kn t) := by
  cases h : ev kn t with
  | error r => rfl
  | ok d =>
    obtain ⟨b, rfl⟩ := ev_C hk t ht d h
    cases b <;> rfl
theorem prs_small {ps : List Pr} (h : ∀ p ∈ ps, p.2.2.natAbs < BIG.natAbs) : SmallK (lk ps) := fun l n e => by
  obtain ⟨p, hp, rfl⟩ := lk_mem e
  exact h p hp
def tx1 : List Nat := [49, 32, 61, 32, 49, 32, 111, 114, 32, 49, 32, 47, 47, 32, 48, 32, 61, 32, 48]
def e1 : Ex := .con sOr (.cmp [61] (.num 1) (.num 1)) (.cmp [61] (.bin [47, 47] (.num 1) (.num 0)) (.num 0))
def tx2 : List Nat := [120, 32, 42, 32, 120, 32, 61, 32, 48, 32, 97, 110, 100, 32, 49, 32, 61, 32, 50, 32, 111, 114, 32, 49, 32, 109, 111, 100, 32, 121, 32, 61, 32, 48]
def e2 : Ex := .con sOr (.con sAnd (.cmp [61] (.bin [42] (.var [120]) (.var [120])) (.num 0)) (.cmp [61] (.num 1) (.num 2))) (.cmp [61] (.bin [109, 111, 100] (.num 1) (.var [121])) (.num 0))
theorem tx1_p : pAll cF tx1 = some (.ok e1.d) := by kernel_rfl
theorem tx2_p : pAll cF tx2 = some (.ok e2.d) := by kernel_rfl
theorem e_ok : e1.okC = true ∧ e2.okC = true ∧ e1.dep ≤ 100 ∧ e2.dep ≤ 100 := by decide +kernel
def p15 : List Pr := [(true, [120], 1000000000000000)]
def p9 : List Pr := [(true, [120], 9)]
theorem ev1 : ev (lk []) e1 = .error sDivision := by kernel_rfl
theorem ev2 : ev (lk p15) e2 = .error sOverflow ∧ ev (lk p9) e2 = .error sDivision := ⟨by kernel_rfl, by kernel_rfl⟩
theorem dl_law {K : Frag} (T : Tx K mg) (X : Te P K mg) : DL_law K := by
  intro a ns hl
  refine dS_env (ρ' := [some (.ref a), some (.loc 1), none, none, none, none, none, none, none, none, none, none]) rfl ?_
  unfold t_law
  refine xs_cut (fun ρ' γ' => ∃ x2 x3 x4 x5 x6 x7 x8 x9, ρ' = [some (.ref a), some (.loc 1), x2, x3, x4, x5, x6, x7, x8, x9, none, none]) ?_ ?_
  · refine xs_for [2] ?_
    walk_at "GO"
    refine ⟨by decide, by decide, ?_⟩
    refine ⟨fun i ρ' γ' => i ≤ 8 ∧ (∃ x2 x3 x4 x5 x6 x7 x8 x9, ρ' = [some (.ref a), some (.loc 1), x2, x3, x4, x5, x6, x7, x8, x9, none, none]) ∧ ∃ A B, γ' = [A, B] ∧ Strm (16000 - 2000 * i) A B,
      ⟨by omega, ⟨_, _, _, _, _, _, _, _, rfl⟩, _, _, rfl, ns, 0, 0, 0, rfl, rfl, by decide, by decide, by decide, by decide, by decide⟩, ?_, ?_⟩
    · rintro i x ρ' γ' hi ⟨hi8, ⟨x2, x3, x4, x5, x6, x7, x8, x9, rfl⟩, A, B, rfl, hs⟩
      have hi7 : i < 8 := (List.getElem?_eq_some_iff.mp hi).1
      refine dg_name ?_
      walk_at "GO"
      refine ⟨16000 - 2000 * i - 27, A, B, [], rfl, rfl, hs.mono (by omega), fun ws A1 B1 h1 h2 h3 hs1 => ?_⟩
      walk_at "GO"
      refine ⟨16000 - 2000 * i - 28, 4, A1, B1, [], rfl, by decide, by decide, rfl, hs1.mono (by omega), fun d A2 B2 hd0 hd1 hs2 => ?_⟩
      obtain ⟨k, rfl⟩ : ∃ k : Nat, d = k := ⟨d.toNat, by omega⟩
      have hk : k ≤ 3 := by omega
      have hb : bT k ≤ 1500 := (show ∀ k, k ≤ 3 → bT k ≤ 1500 by decide) k hk
      walk_at "GO"
      refine ⟨16000 - 2000 * i - 1600, A2, B2, [], ws, k, rfl, hk, h1, h2, rfl, hs2.mono (by omega), fun t A3 B3 hok hdp hkb hs3 => ?_⟩
      walk_at "GO"
      refine ⟨16000 - 2000 * i - 1620, A3, B3, [], ws, rfl, h1, h3, rfl, hs3.mono (by omega), fun ps kd A4 B4 hpl hsm hkd hlo hs4 => ?_⟩
      refine xg_any ⟨_, sq_l, rfl, ?_⟩
      walk_at "GO"
      refine ⟨kd, lk ps, t, rfl, okC_ok hok, by omega, hkd, ?_⟩
      walk_at "GO"
      refine ⟨t.d, rfl, .inl ⟨t, rfl, by omega, ?_⟩⟩
      walk_at "GO"
      refine ⟨16000 - 2000 * i - 1621, 2, A4, B4, [], rfl, by decide, by decide, rfl, hs4.mono (by omega), fun d A5 B5 hd0 hd1 hs5 => ?_⟩
      have hx : ∃ x, atI [t.d, t.dl] d = some x ∧ NE x t := by
        have hd : d = 0 ∨ d = 1 := by omega
        rcases hd with rfl | rfl
        · exact ⟨_, rfl, .inl rfl⟩
        · exact ⟨_, rfl, .inr rfl⟩
      obtain ⟨x', hx1, hx2⟩ := hx
      refine xix_lst ⟨_, rfl, _, hx1, ?_⟩
      have hsz := size_127 (e := t) (by omega)
      have hcl := canon_len t (okC_ok hok)
      have hrk := rk_cases t
      have hw1 : wrap t 1 (canon t) = canon t := by unfold wrap; rw [if_neg (by omega)]
      have hprs : PrsD (.lst (ps.map Pr.d)) ps := ⟨.inl rfl, by omega, hsm⟩
      have hho := hold_is (prs_small hsm) hok
      walk_at "GO"
      refine ⟨t, 1, rfl, okC_ok hok, by omega, by omega, by decide, by decide, ?_⟩
      rw [hw1]
      walk_at "GO"
      refine ⟨canon t, rfl, by omega, fun b => ?_⟩
      cases b with
      | false =>
        walk_at "GO"
        exact ⟨by omega, ⟨_, _, _, _, _, _, _, _, rfl⟩, _, _, rfl, hs5.mono (by omega)⟩
      | true =>
        walk_at "GO"
        refine ⟨x', _, ps, t, rfl, hx2, hok, by omega, hprs, ?_⟩
        walk_at "GO"
        refine ⟨x', _, ps, t, rfl, hx2, okC_ok hok, by omega, hprs, ?_⟩
        walk_at "GO"
        refine ⟨lk ps, t, okC_ok hok, rfl, prs_small hsm, ?_⟩
        walk_at "GO"
        rw [hho]
        refine ⟨fun _ => none, tB (holdD (ev (lk ps) t)), tB_ok _, by rw [tB_ev]; rfl, fun l n h => (nomatch h), ?_⟩
        walk_at "GO"
        exact ⟨by omega, ⟨_, _, _, _, _, _, _, _, rfl⟩, _, _, rfl, hs5.mono (by omega)⟩
    · rintro ρ' γ' ⟨_, h, _⟩
      exact h
  rintro ρ' γ' ⟨x2, x3, x4, x5, x6, x7, x8, x9, rfl⟩
  obtain ⟨k1, k2, k3, k4⟩ := e_ok
  have v1 := ev1
  have v2 := ev2
  have p1 := tx1_p
  have p2 := tx2_p
  have lo1 := ex_lo e1
  have lo2 := ex_lo e2
  generalize e1 = E1 at *
  generalize e2 = E2 at *
  walk_at "GO"
  refine ⟨tx1, rfl, by decide, trivial, .inl ⟨_, p1, lo1, ?_⟩⟩
  walk_at "GO"
  refine ⟨_, .tup [], [], E1, rfl, .inl rfl, okC_ok k1, k3, ⟨.inr rfl, by simp, by simp⟩, ?_⟩
  rw [v1]
  walk_at "GO"
  refine rneT_D (by decide +kernel) (by decide +kernel) (by decide +kernel) ?_
  walk_at "GO"
  refine ⟨tx1, rfl, by decide, trivial, .inl ⟨_, p1, lo1, ?_⟩⟩
  walk_at "GO"
  refine ⟨_, .tup [], [], E1, rfl, .inl rfl, k1, k3, ⟨.inr rfl, by simp, by simp⟩, ?_⟩
  rw [v1]
  walk_at "GO"
  refine ⟨tx2, rfl, by decide, trivial, .inl ⟨_, p2, lo2, ?_⟩⟩
  walk_at "GO"
  · exact ⟨by decide, by decide, by decide⟩
  refine ⟨_, _, p15, E2, by rfl, .inl rfl, okC_ok k2, k4, ⟨.inl rfl, by decide, by decide⟩, ?_⟩
  rw [v2.1]
  walk_at "GO"
  refine rneT_D (by decide +kernel) (by decide +kernel) (by decide +kernel) ?_
  walk_at "GO"
  refine ⟨_, _, p9, E2, by rfl, .inl rfl, okC_ok k2, k4, ⟨.inl rfl, by decide, by decide⟩, ?_⟩
  rw [v2.2]
  walk_at "GO"
  refine rneT_D (by decide +kernel) (by decide +kernel) (by decide +kernel) ?_
  walk_at "GO"
  refine de_mkv ?_
  walk_at "GO"
  refine ⟨rfl, by decide, by decide, [.str (S [111, 100, 100])], ⟨frz1_str, trivial⟩, ?_⟩
  walk_at "GO"
  refine de_ref ?_
  walk_at "GO"
  refine rc_isv X.i_Fault X.k_Fault_RerunError ?_
  walk_at "GO"
  refine rc_isvT X.i_Fault X.k_Fault_ValueError ?_
  walk_at "GO"
  refine de_xfv ?_
  walk_at "GO"
  refine ⟨_, _, _, 0, _, rfl, X.x_Fault.xok.xf, X.x_Fault.xok.no _ (by decide), rfl, rfl, ?_⟩
  walk_at "GO"
  rfl
end
end K09

set_option Elab.async false
set_option linter.all false
set_option maxRecDepth 100000
set_option maxHeartbeats 4000000
namespace K09
open PySem PySem.Spec PyProof.Rows L2 DL
theorem pk_frozen {P : Program} {w : World} {K : Frag} {mg : Str → Option Value} {base : Heap} {k : Nat} (T : Tx K mg) (s_frozen : SpD) (C_frozen : Pk P w K mg base k ("frozen", none) ["thing"] s_frozen) {sp : SpD} (len : ∀ ds γ q e, sp ds γ q e → ds.length = 1) (h : DL_frozen K s_frozen sp)
    (F : ∃ fd, FunD K d_frozen.name d_frozen.qual d_frozen.params d_frozen.body d_frozen.scope (d_frozen.dvs K) (d_frozen.kws K) (He.fAd K d_frozen.at_) fd) : Pk P w K mg base (k + 1) ("frozen", none) ["thing"] sp := by
  obtain ⟨fd, F⟩ := F
  have nd := sc_frozen.nd
  refine ⟨fd, fn_dl F sc_frozen (t_frozen K s_frozen) len (fun cdv A outer s H E hr gd tk po => ?_) h, F.kp, F.bindsN fun _ _ _ _ _ _ us hl => match us, hl with | [_], _ => rfl⟩
  have hu := huD hr
  exact (pss_cons (ps_if (pt_val (pe_callB call_isiT (by rfl) T.b_isinstance (by decide +kernel) (pa_cons (pv 0) (pa_cons (pe_tup (pa_cons (pe_bltn (by rfl) T.b_tuple (by decide +kernel) rfl) (pa_cons (pe_bltn (by rfl) T.b_list (by decide +kernel) rfl) pa_nil))) pa_nil)))) (pss_one (ps_ret (pe_callTy call_tuple_of (by rfl) T.b_tuple (by decide +kernel) (pa_cons (pe_lc (own := [("part", 1)]) (g := (gName 1)) (tt := tYes) rfl nd (pi_any (pi_list (pv 0)) (pi_tup (pv 0))) (blkOk_by (own := [("part", 1)]) (N := N_frozen) (sc := defScope (top 5)) (by decide +kernel)) (fun _ _ _ _ _ => (pg_name (i := 1) nd rfl (Or.inl rfl))) (fun _ _ _ _ _ => pts_nil) (fun _ _ _ _ _ => (callP L2.takes0 C_frozen hr gd rfl T.g_frozen (pa_cons (pv 1) pa_nil)))) pa_nil)))) pss_nil) (pss_one (ps_ret (pv 0))))
theorem pk_is_name {P : Program} {w : World} {K : Frag} {mg : Str → Option Value} {base : Heap} {k : Nat} (T : Tx K mg) {sp : SpD} (len : ∀ ds γ q e, sp ds γ q e → ds.length = 1) (h : DL_is_name K sp)
    (F : ∃ fd, FunD K d_is_name.name d_is_name.qual d_is_name.params d_is_name.body d_is_name.scope (d_is_name.dvs K) (d_is_name.kws K) (He.fAd K d_is_name.at_) fd) : Pk P w K mg base (k + 1) ("is_name", none) ["thing"] sp := by
  obtain ⟨fd, F⟩ := F
  obtain ⟨_, c_LETTERS⟩ := T.c_LETTERS
  obtain ⟨_, c_LONGEST_NAME⟩ := T.c_LONGEST_NAME
  have nd := sc_is_name.nd
  refine ⟨fd, fn_dl F sc_is_name (t_is_name K) len (fun cdv A outer s H E hr gd tk po => ?_) h, F.kp, F.bindsN fun _ _ _ _ _ _ us hl => match us, hl with | [_], _ => rfl⟩
  have hu := huD hr
  exact (pss_cons (ps_if (PW.pt (pw_or (pt_not (pt_val (pe_callB call_isi (by rfl) T.b_isinstance (by decide +kernel) (pa_cons (pv 0) (pa_cons (pe_bltn (by rfl) T.b_str (by decide +kernel) rfl) pa_nil))))) (pw_or (pt_not (pt_chain op_le op_le pe_int (pe_callB call_len (by rfl) T.b_len (by decide +kernel) (pa_cons (pv 0) pa_nil)) (pe_glob rfl c_LONGEST_NAME ⟨_, rfl⟩))) (pw_or1 (pt_cmpR (op_inG (hu65 hr)) (pv 0) (pe_glob rfl T.g_RESERVED rfl) (by rfl)))))) (pss_one (ps_ret pe_bl)) pss_nil) (pss_one (ps_ret (pe_callB (cr_all rfl) (by rfl) T.b_all (by decide +kernel) (pa_cons (pe_lc (own := [("letter", 1)]) (g := (gName 1)) (tt := tYes) rfl nd (pi_str (pv 0)) (blkOk_by (own := [("letter", 1)]) (N := N_is_name) (sc := defScope (top 6)) (by decide +kernel)) (fun _ _ _ _ _ => (pg_name (i := 1) nd rfl (Or.inl rfl))) (fun _ _ _ _ _ => pts_nil) (fun _ _ _ _ _ => (pe_cmpR (op_inG (by exact hu65 hr)) (pv 1) (pe_glob rfl c_LETTERS ⟨_, rfl⟩) (by rfl)))) pa_nil)))))
theorem pk_is_number {P : Program} {w : World} {K : Frag} {mg : Str → Option Value} {base : Heap} {k : Nat} (T : Tx K mg) {sp : SpD} (len : ∀ ds γ q e, sp ds γ q e → ds.length = 1) (h : DL_is_number K sp)
    (F : ∃ fd, FunD K d_is_number.name d_is_number.qual d_is_number.params d_is_number.body d_is_number.scope (d_is_number.dvs K) (d_is_number.kws K) (He.fAd K d_is_number.at_) fd) : Pk P w K mg base (k + 1) ("is_number", none) ["text"] sp := by
  obtain ⟨fd, F⟩ := F
  obtain ⟨_, c_FIGURES⟩ := T.c_FIGURES
  obtain ⟨_, c_MOST_DIGITS⟩ := T.c_MOST_DIGITS
  have nd := sc_is_number.nd
  refine ⟨fd, fn_dl F sc_is_number (t_is_number K) len (fun cdv A outer s H E hr gd tk po => ?_) h, F.kp, F.bindsN fun _ _ _ _ _ _ us hl => match us, hl with | [_], _ => rfl⟩
  have hu := huD hr
  exact (pss_cons (ps_if (PW.pt (pw_or (pt_not (pt_chain op_lt op_le pe_int (pe_callB call_len (by rfl) T.b_len (by decide +kernel) (pa_cons (pv 0) pa_nil)) (pe_glob rfl c_MOST_DIGITS ⟨_, rfl⟩))) (pw_or1 (pt_not (pt_val (pe_callB (cr_all rfl) (by rfl) T.b_all (by decide +kernel) (pa_cons (pe_lc (own := [("sign", 1)]) (g := (gName 1)) (tt := tYes) rfl nd (pi_str (pv 0)) (blkOk_by (own := [("sign", 1)]) (N := N_is_number) (sc := defScope (top 15)) (by decide +kernel)) (fun _ _ _ _ _ => (pg_name (i := 1) nd rfl (Or.inl rfl))) (fun _ _ _ _ _ => pts_nil) (fun _ _ _ _ _ => (pe_cmpR (op_inG (by exact hu65 hr)) (pv 1) (pe_glob rfl c_FIGURES ⟨_, rfl⟩) (by rfl)))) pa_nil))))))) (pss_one (ps_ret pe_bl)) pss_nil) (pss_one (ps_ret (pe_or (pe_cmpR (op_eqG hr.units) (pv 0) pe_str (nomark _)) (pe_one (pe_cmpR (op_neG hr.units) (pe_ix ix_seq (pv 0) pe_int (fun _ _ => rfl)) pe_str (nomark _)))))))
theorem pk_end_of_run {P : Program} {w : World} {K : Frag} {mg : Str → Option Value} {base : Heap} {k : Nat} (T : Tx K mg) {sp : SpD} (len : ∀ ds γ q e, sp ds γ q e → ds.length = 3) (h : DL_end_of_run K sp)
    (F : ∃ fd, FunD K d_end_of_run.name d_end_of_run.qual d_end_of_run.params d_end_of_run.body d_end_of_run.scope (d_end_of_run.dvs K) (d_end_of_run.kws K) (He.fAd K d_end_of_run.at_) fd) : Pk P w K mg base (k + 1) ("end_of_run", none) ["text", "start", "signs"] sp := by
  obtain ⟨fd, F⟩ := F
  have nd := sc_end_of_run.nd
  refine ⟨fd, fn_dl F sc_end_of_run (t_end_of_run K) len (fun cdv A outer s H E hr gd tk po => ?_) h, F.kp, F.bindsN fun _ _ _ _ _ _ us hl => match us, hl with | [_, _, _], _ => rfl⟩
  have hu := huD hr
  exact (pss_cons (ps_set (i := 3) nd rfl (Or.inl rfl) (pv 1)) (pss_cons (ps_while po (PW.pt (pw_and (pt_cmpR op_lt (pv 3) (pe_callB call_len (by rfl) T.b_len (by decide +kernel) (pa_cons (pv 0) pa_nil)) (nomark _)) (pw_and1 (pt_cmpR (op_inG (hu65 hr)) (pe_ix ix_seq (pv 0) (pv 3) (fun _ _ => rfl)) (pv 2) (by rfl))))) (pss_one (ps_set (i := 3) nd rfl (Or.inl rfl) (pe_op op_addG (pv 3) pe_int)))) (pss_one (ps_ret (pv 3)))))
theorem pk_token_at {P : Program} {w : World} {K : Frag} {mg : Str → Option Value} {base : Heap} {k : Nat} (T : Tx K mg) (C_end_of_run : Pk P w K mg base k ("end_of_run", none) ["text", "start", "signs"] (sp_end_of_run K)) (C_is_name : Pk P w K mg base k ("is_name", none) ["thing"] (sp_is_name K)) (C_is_number : Pk P w K mg base k ("is_number", none) ["text"] (sp_is_number K)) {sp : SpD} (len : ∀ ds γ q e, sp ds γ q e → ds.length = 2) (h : DL_token_at K sp)
    (F : ∃ fd, FunD K d_token_at.name d_token_at.qual d_token_at.params d_token_at.body d_token_at.scope (d_token_at.dvs K) (d_token_at.kws K) (He.fAd K d_token_at.at_) fd) : Pk P w K mg base (k + 1) ("token_at", none) ["text", "start"] sp := by
  obtain ⟨fd, F⟩ := F
  obtain ⟨_, c_FIGURES⟩ := T.c_FIGURES
  obtain ⟨_, c_LETTERS⟩ := T.c_LETTERS
  have nd := sc_token_at.nd
  refine ⟨fd, fn_dl F sc_token_at (t_token_at K) len (fun cdv A outer s H E hr gd tk po => ?_) h, F.kp, F.bindsN fun _ _ _ _ _ _ us hl => match us, hl with | [_, _], _ => rfl⟩
  have hu := huD hr
  exact (pss_cons (ps_if (pt_cmpR (op_inG (hu65 hr)) (pe_ix ix_seq (pv 0) (pv 1) (fun _ _ => rfl)) (pe_glob rfl c_LETTERS ⟨_, rfl⟩) (by rfl)) (pss_cons (ps_set (i := 2) nd rfl (Or.inl rfl) (callP tk C_end_of_run hr gd rfl T.g_end_of_run (pa_cons (pv 0) (pa_cons (pv 1) (pa_cons (pe_glob rfl c_LETTERS ⟨_, rfl⟩) pa_nil))))) (pss_cons (ps_set (i := 3) nd rfl (Or.inl rfl) (pe_slice sl_G (pv 0) (po_some (pv 1)) (po_some (pv 2)))) (pss_cons (ps_set (i := 4) nd rfl (Or.inl rfl) (pe_ifExp (pt_cmpR (op_inG (hu65 hr)) (pv 3) (pe_glob rfl T.g_WORDS rfl) (by rfl)) pe_str (pe_ifExp (pt_val (callP tk C_is_name hr gd rfl T.g_is_name (pa_cons (pv 3) pa_nil))) pe_str pe_str))) (pss_one (ps_ret (pe_tup (pa_cons (pe_tup (pa_cons (pv 4) (pa_cons (pv 3) (pa_cons (pv 1) pa_nil)))) (pa_cons (pv 2) pa_nil)))))))) pss_nil) (pss_cons (ps_if (pt_cmpR (op_inG (hu65 hr)) (pe_ix ix_seq (pv 0) (pv 1) (fun _ _ => rfl)) (pe_glob rfl c_FIGURES ⟨_, rfl⟩) (by rfl)) (pss_cons (ps_set (i := 2) nd rfl (Or.inl rfl) (callP tk C_end_of_run hr gd rfl T.g_end_of_run (pa_cons (pv 0) (pa_cons (pv 1) (pa_cons (pe_glob rfl c_FIGURES ⟨_, rfl⟩) pa_nil))))) (pss_cons (ps_set (i := 4) nd rfl (Or.inl rfl) (pe_ifExp (pt_val (callP tk C_is_number hr gd rfl T.g_is_number (pa_cons (pe_slice sl_G (pv 0) (po_some (pv 1)) (po_some (pv 2))) pa_nil))) pe_str pe_str)) (pss_one (ps_ret (pe_tup (pa_cons (pe_tup (pa_cons (pv 4) (pa_cons (pe_slice sl_G (pv 0) (po_some (pv 1)) (po_some (pv 2))) (pa_cons (pv 1) pa_nil)))) (pa_cons (pv 2) pa_nil))))))) pss_nil) (pss_cons (ps_for po rfl (pi_tup (pe_glob rfl T.g_SIGNS rfl)) (pg_name (i := 5) nd rfl (Or.inl rfl)) (pss_one (ps_if (pt_cmpR (op_eqG hr.units) (pe_slice sl_G (pv 0) (po_some (pv 1)) (po_some (pe_op op_addG (pv 1) (pe_callB call_len (by rfl) T.b_len (by decide +kernel) (pa_cons (pv 5) pa_nil))))) (pv 5) (nomark _)) (pss_one (ps_ret (pe_tup (pa_cons (pe_tup (pa_cons pe_str (pa_cons (pv 5) (pa_cons (pv 1) pa_nil)))) (pa_cons (pe_op op_addG (pv 1) (pe_callB call_len (by rfl) T.b_len (by decide +kernel) (pa_cons (pv 5) pa_nil))) pa_nil))))) pss_nil))) (pss_one (ps_ret (pe_tup (pa_cons (pe_tup (pa_cons pe_str (pa_cons (pe_ix ix_seq (pv 0) (pv 1) (fun _ _ => rfl)) (pa_cons (pv 1) pa_nil)))) (pa_cons (pe_op op_addG (pv 1) pe_int) pa_nil))))))))
theorem pk_tokens {P : Program} {w : World} {K : Frag} {mg : Str → Option Value} {base : Heap} {k : Nat} (T : Tx K mg) (C_end_of_run : Pk P w K mg base k ("end_of_run", none) ["text", "start", "signs"] (sp_end_of_run K)) (C_token_at : Pk P w K mg base k ("token_at", none) ["text", "start"] (sp_token_at K)) {sp : SpD} (len : ∀ ds γ q e, sp ds γ q e → ds.length = 1) (h : DL_tokens K sp)
    (F : ∃ fd, FunD K d_tokens.name d_tokens.qual d_tokens.params d_tokens.body d_tokens.scope (d_tokens.dvs K) (d_tokens.kws K) (He.fAd K d_tokens.at_) fd) : Pk P w K mg base (k + 1) ("tokens", none) ["text"] sp := by
  obtain ⟨fd, F⟩ := F
  have nd := sc_tokens.nd
  refine ⟨fd, fn_dl F sc_tokens (t_tokens K) len (fun cdv A outer s H E hr gd tk po => ?_) h, F.kp, F.bindsN fun _ _ _ _ _ _ us hl => match us, hl with | [_], _ => rfl⟩
  have hu := huD hr
  exact (pss_cons (ps_set (i := 1) nd rfl (Or.inl rfl) (pe_lst pa_nil)) (pss_cons (ps_set (i := 2) nd rfl (Or.inl rfl) (callP tk C_end_of_run hr gd rfl T.g_end_of_run (pa_cons (pv 0) (pa_cons pe_int (pa_cons pe_str pa_nil))))) (pss_cons (ps_while po (pt_cmpR op_lt (pv 2) (pe_callB call_len (by rfl) T.b_len (by decide +kernel) (pa_cons (pv 0) pa_nil)) (nomark _)) (pss_cons (ps_asg (callP tk C_token_at hr gd rfl T.g_token_at (pa_cons (pv 0) (pa_cons (pv 2) pa_nil))) (pg_tup rfl (pgs_cons (pg_name (i := 3) nd rfl (Or.inl rfl)) (pgs_cons (pg_name (i := 4) nd rfl (Or.inl rfl)) pgs_nil)))) (pss_cons (ps_expr (pe_bm PySem.F.plainAttrs_list PySem.F.slot_list_append PySem.F.type_list_append mt_append (pv 1) (pa_cons (pv 3) pa_nil))) (pss_cons (ps_if (pt_cmpR (op_eqG hr.units) (pe_ix ix_seq (pv 3) pe_int (fun _ _ => rfl)) pe_str (nomark _)) (pss_one (ps_ret (pv 1))) pss_nil) (pss_one (ps_set (i := 2) nd rfl (Or.inl rfl) (callP tk C_end_of_run hr gd rfl T.g_end_of_run (pa_cons (pv 0) (pa_cons (pv 4) (pa_cons pe_str pa_nil)))))))))) (pss_one (ps_ret (pe_op op_addG (pv 1) (pe_lst (pa_cons (pe_tup (pa_cons pe_str (pa_cons pe_str (pa_cons (pe_callB call_len (by rfl) T.b_len (by decide +kernel) (pa_cons (pv 0) pa_nil)) pa_nil)))) pa_nil))))))))
theorem pk_Parser_init {P : Program} {w : World} {K : Frag} {mg : Str → Option Value} {base : Heap} {k : Nat} (T : Tx K mg) (C_tokens : Pk P w K mg base k ("tokens", none) ["text"] (sp_tokens K)) {sp : SpD} (len : ∀ ds γ q e, sp ds γ q e → ds.length = 2) (h : DL_Parser_init K sp)
    (F : ∃ fd, FunD K d_Parser_init.name d_Parser_init.qual d_Parser_init.params d_Parser_init.body d_Parser_init.scope (d_Parser_init.dvs K) (d_Parser_init.kws K) (He.fAd K d_Parser_init.at_) fd) : Pk P w K mg base (k + 1) ("Parser", some "__init__") ["self", "text"] sp := by
  obtain ⟨fd, F⟩ := F
  have nd := sc_Parser_init.nd
  refine ⟨fd, fn_dl F sc_Parser_init (t_Parser_init K) len (fun cdv A outer s H E hr gd tk po => ?_) h, F.kp, F.bindsN fun _ _ _ _ _ _ us hl => match us, hl with | [_, _], _ => rfl⟩
  have hu := huD hr
  exact (pss_cons (ps_fld (pv 0) (callP tk C_tokens hr gd rfl T.g_tokens (pa_cons (pv 1) pa_nil)) rfl) (pss_one (ps_fld (pv 0) pe_int rfl)))
theorem pk_Parser_sees {P : Program} {w : World} {K : Frag} {mg : Str → Option Value} {base : Heap} {k : Nat} (T : Tx K mg) {sp : SpD} (len : ∀ ds γ q e, sp ds γ q e → ds.length = 2) (h : DL_Parser_sees K sp)
    (F : ∃ fd, FunD K d_Parser_sees.name d_Parser_sees.qual d_Parser_sees.params d_Parser_sees.body d_Parser_sees.scope (d_Parser_sees.dvs K) (d_Parser_sees.kws K) (He.fAd K d_Parser_sees.at_) fd) : Pk P w K mg base (k + 1) ("Parser", some "sees") ["self", "signs"] sp := by
  obtain ⟨fd, F⟩ := F
  have nd := sc_Parser_sees.nd
  refine ⟨fd, fn_dl F sc_Parser_sees (t_Parser_sees K) len (fun cdv A outer s H E hr gd tk po => ?_) h, F.kp, F.bindsN fun _ _ _ _ _ _ us hl => match us, hl with | [_, _], _ => rfl⟩
  have hu := huD hr
  exact (pss_cons (ps_asg (pe_ix ix_seq (pe_fld (pv 0) rfl) (pe_fld (pv 0) rfl) (fun _ _ => rfl)) (pg_tup rfl (pgs_cons (pg_name (i := 2) nd rfl (Or.inl rfl)) (pgs_cons (pg_name (i := 3) nd rfl (Or.inl rfl)) (pgs_cons (pg_name (i := 4) nd rfl (Or.inl rfl)) pgs_nil))))) (pss_one (ps_ret (pe_and (pe_cmpR (op_eqG hr.units) (pv 2) pe_str (nomark _)) (pe_one (pe_cmpR (op_inG (hu65 hr)) (pv 3) (pv 1) (by rfl)))))))
theorem pk_Parser_take {P : Program} {w : World} {K : Frag} {mg : Str → Option Value} {base : Heap} {k : Nat} (T : Tx K mg) {sp : SpD} (len : ∀ ds γ q e, sp ds γ q e → ds.length = 1) (h : DL_Parser_take K sp)
    (F : ∃ fd, FunD K d_Parser_take.name d_Parser_take.qual d_Parser_take.params d_Parser_take.body d_Parser_take.scope (d_Parser_take.dvs K) (d_Parser_take.kws K) (He.fAd K d_Parser_take.at_) fd) : Pk P w K mg base (k + 1) ("Parser", some "take") ["self"] sp := by
  obtain ⟨fd, F⟩ := F
  have nd := sc_Parser_take.nd
  refine ⟨fd, fn_dl F sc_Parser_take (t_Parser_take K) len (fun cdv A outer s H E hr gd tk po => ?_) h, F.kp, F.bindsN fun _ _ _ _ _ _ us hl => match us, hl with | [_], _ => rfl⟩
  have hu := huD hr
  exact (pss_cons (ps_fld (pv 0) (pe_op op_addG (pe_fld (pv 0) rfl) pe_int) rfl) (pss_one (ps_ret (pe_ix ix_seq (pe_fld (pv 0) rfl) (pe_op op_sub (pe_fld (pv 0) rfl) pe_int) (fun _ _ => rfl)))))
theorem pk_Parser_refuse {P : Program} {w : World} {K : Frag} {mg : Str → Option Value} {base : Heap} {j k : Nat} (T : Tx K mg) (E_BadText : PkE P w K mg base j "BadText" ["position"] (sp_frozen K)) (hx : j + 1 ≤ k) {sp : SpD} (len : ∀ ds γ q e, sp ds γ q e → ds.length = 1) (h : DL_Parser_refuse K sp)
    (F : ∃ fd, FunD K d_Parser_refuse.name d_Parser_refuse.qual d_Parser_refuse.params d_Parser_refuse.body d_Parser_refuse.scope (d_Parser_refuse.dvs K) (d_Parser_refuse.kws K) (He.fAd K d_Parser_refuse.at_) fd) : Pk P w K mg base (k + 1) ("Parser", some "refuse") ["self"] sp := by
  obtain ⟨fd, F⟩ := F
  have nd := sc_Parser_refuse.nd
  refine ⟨fd, fn_dl F sc_Parser_refuse (t_Parser_refuse K) len (fun cdv A outer s H E hr gd tk po => ?_) h, F.kp, F.bindsN fun _ _ _ _ _ _ us hl => match us, hl with | [_], _ => rfl⟩
  have hu := huD hr
  exact (pss_one (raiseP tk E_BadText hx hr gd rfl (by rfl) T.g_BadText (pa_cons (pe_ix ix_seq (pe_ix ix_seq (pe_fld (pv 0) rfl) (pe_fld (pv 0) rfl) (fun _ _ => rfl)) pe_int (fun _ _ => rfl)) pa_nil)))
theorem pk_Parser_take_sign {P : Program} {w : World} {K : Frag} {mg : Str → Option Value} {base : Heap} {k : Nat} (T : Tx K mg) (C_Parser_sees : Pk P w K mg base k ("Parser", some "sees") ["self", "signs"] (sp_Parser_sees K)) (C_Parser_refuse : Pk P w K mg base k ("Parser", some "refuse") ["self"] (sp_Parser_refuse K)) (C_Parser_take : Pk P w K mg base k ("Parser", some "take") ["self"] (sp_Parser_take K)) {sp : SpD} (len : ∀ ds γ q e, sp ds γ q e → ds.length = 2) (h : DL_Parser_take_sign K sp)
    (F : ∃ fd, FunD K d_Parser_take_sign.name d_Parser_take_sign.qual d_Parser_take_sign.params d_Parser_take_sign.body d_Parser_take_sign.scope (d_Parser_take_sign.dvs K) (d_Parser_take_sign.kws K) (He.fAd K d_Parser_take_sign.at_) fd) : Pk P w K mg base (k + 1) ("Parser", some "take_sign") ["self", "signs"] sp := by
  obtain ⟨fd, F⟩ := F
  have nd := sc_Parser_take_sign.nd
  refine ⟨fd, fn_dl F sc_Parser_take_sign (t_Parser_take_sign K) len (fun cdv A outer s H E hr gd tk po => ?_) h, F.kp, F.bindsN fun _ _ _ _ _ _ us hl => match us, hl with | [_, _], _ => rfl⟩
  have hu := huD hr
  exact (pss_cons (ps_if (pt_not (pt_val (methP tk (c := "Parser") (pv 0) T.cl_Parser T.me_Parser_sees C_Parser_sees hr gd (pa_cons (pv 1) pa_nil)))) (pss_one (ps_expr (methP0 tk (c := "Parser") (pv 0) T.cl_Parser T.me_Parser_refuse C_Parser_refuse hr gd))) pss_nil) (pss_one (ps_ret (pe_ix ix_seq (methP0 tk (c := "Parser") (pv 0) T.cl_Parser T.me_Parser_take C_Parser_take hr gd) pe_int (fun _ _ => rfl)))))
theorem pk_Parser_finish {P : Program} {w : World} {K : Frag} {mg : Str → Option Value} {base : Heap} {k : Nat} (T : Tx K mg) (C_Parser_refuse : Pk P w K mg base k ("Parser", some "refuse") ["self"] (sp_Parser_refuse K)) {sp : SpD} (len : ∀ ds γ q e, sp ds γ q e → ds.length = 2) (h : DL_Parser_finish K sp)
    (F : ∃ fd, FunD K d_Parser_finish.name d_Parser_finish.qual d_Parser_finish.params d_Parser_finish.body d_Parser_finish.scope (d_Parser_finish.dvs K) (d_Parser_finish.kws K) (He.fAd K d_Parser_finish.at_) fd) : Pk P w K mg base (k + 1) ("Parser", some "finish") ["self", "node"] sp := by
  obtain ⟨fd, F⟩ := F
  have nd := sc_Parser_finish.nd
  refine ⟨fd, fn_dl F sc_Parser_finish (t_Parser_finish K) len (fun cdv A outer s H E hr gd tk po => ?_) h, F.kp, F.bindsN fun _ _ _ _ _ _ us hl => match us, hl with | [_, _], _ => rfl⟩
  have hu := huD hr
  exact (pss_cons (ps_if (pt_cmpR (op_neG hr.units) (pe_ix ix_seq (pe_ix ix_seq (pe_fld (pv 0) rfl) (pe_fld (pv 0) rfl) (fun _ _ => rfl)) pe_int (fun _ _ => rfl)) pe_str (nomark _)) (pss_one (ps_expr (methP0 tk (c := "Parser") (pv 0) T.cl_Parser T.me_Parser_refuse C_Parser_refuse hr gd))) pss_nil) (pss_one (ps_ret (pv 1))))
theorem pk_Parser_condition {P : Program} {w : World} {K : Frag} {mg : Str → Option Value} {base : Heap} {k : Nat} (T : Tx K mg) (s_Parser_conjunction : SpD) (C_Parser_conjunction : Pk P w K mg base k ("Parser", some "conjunction") ["self"] s_Parser_conjunction) (C_Parser_sees : Pk P w K mg base k ("Parser", some "sees") ["self", "signs"] (sp_Parser_sees K)) (C_Parser_take : Pk P w K mg base k ("Parser", some "take") ["self"] (sp_Parser_take K)) {sp : SpD} (len : ∀ ds γ q e, sp ds γ q e → ds.length = 1) (h : DL_Parser_condition K s_Parser_conjunction sp)
    (F : ∃ fd, FunD K d_Parser_condition.name d_Parser_condition.qual d_Parser_condition.params d_Parser_condition.body d_Parser_condition.scope (d_Parser_condition.dvs K) (d_Parser_condition.kws K) (He.fAd K d_Parser_condition.at_) fd) : Pk P w K mg base (k + 1) ("Parser", some "condition") ["self"] sp := by
  obtain ⟨fd, F⟩ := F
  have nd := sc_Parser_condition.nd
  refine ⟨fd, fn_dl F sc_Parser_condition (t_Parser_condition K s_Parser_conjunction) len (fun cdv A outer s H E hr gd tk po => ?_) h, F.kp, F.bindsN fun _ _ _ _ _ _ us hl => match us, hl with | [_], _ => rfl⟩
  have hu := huD hr
  exact (pss_cons (ps_set (i := 1) nd rfl (Or.inl rfl) (methP0 tk (c := "Parser") (pv 0) T.cl_Parser T.me_Parser_conjunction C_Parser_conjunction hr gd)) (pss_cons (ps_while po (pt_val (methP tk (c := "Parser") (pv 0) T.cl_Parser T.me_Parser_sees C_Parser_sees hr gd (pa_cons (pe_tup (pa_cons pe_str pa_nil)) pa_nil))) (pss_cons (ps_expr (methP0 tk (c := "Parser") (pv 0) T.cl_Parser T.me_Parser_take C_Parser_take hr gd)) (pss_one (ps_set (i := 1) nd rfl (Or.inl rfl) (pe_tup (pa_cons pe_str (pa_cons (pv 1) (pa_cons (methP0 tk (c := "Parser") (pv 0) T.cl_Parser T.me_Parser_conjunction C_Parser_conjunction hr gd) pa_nil)))))))) (pss_one (ps_ret (pv 1)))))
theorem pk_Parser_conjunction {P : Program} {w : World} {K : Frag} {mg : Str → Option Value} {base : Heap} {k : Nat} (T : Tx K mg) (s_Parser_negation : SpD) (C_Parser_negation : Pk P w K mg base k ("Parser", some "negation") ["self"] s_Parser_negation) (C_Parser_sees : Pk P w K mg base k ("Parser", some "sees") ["self", "signs"] (sp_Parser_sees K)) (C_Parser_take : Pk P w K mg base k ("Parser", some "take") ["self"] (sp_Parser_take K)) {sp : SpD} (len : ∀ ds γ q e, sp ds γ q e → ds.length = 1) (h : DL_Parser_conjunction K s_Parser_negation sp)
    (F : ∃ fd, FunD K d_Parser_conjunction.name d_Parser_conjunction.qual d_Parser_conjunction.params d_Parser_conjunction.body d_Parser_conjunction.scope (d_Parser_conjunction.dvs K) (d_Parser_conjunction.kws K) (He.fAd K d_Parser_conjunction.at_) fd) : Pk P w K mg base (k + 1) ("Parser", some "conjunction") ["self"] sp := by
  obtain ⟨fd, F⟩ := F
  have nd := sc_Parser_conjunction.nd
  refine ⟨fd, fn_dl F sc_Parser_conjunction (t_Parser_conjunction K s_Parser_negation) len (fun cdv A outer s H E hr gd tk po => ?_) h, F.kp, F.bindsN fun _ _ _ _ _ _ us hl => match us, hl with | [_], _ => rfl⟩
  have hu := huD hr
  exact (pss_cons (ps_set (i := 1) nd rfl (Or.inl rfl) (methP0 tk (c := "Parser") (pv 0) T.cl_Parser T.me_Parser_negation C_Parser_negation hr gd)) (pss_cons (ps_while po (pt_val (methP tk (c := "Parser") (pv 0) T.cl_Parser T.me_Parser_sees C_Parser_sees hr gd (pa_cons (pe_tup (pa_cons pe_str pa_nil)) pa_nil))) (pss_cons (ps_expr (methP0 tk (c := "Parser") (pv 0) T.cl_Parser T.me_Parser_take C_Parser_take hr gd)) (pss_one (ps_set (i := 1) nd rfl (Or.inl rfl) (pe_tup (pa_cons pe_str (pa_cons (pv 1) (pa_cons (methP0 tk (c := "Parser") (pv 0) T.cl_Parser T.me_Parser_negation C_Parser_negation hr gd) pa_nil)))))))) (pss_one (ps_ret (pv 1)))))
theorem pk_Parser_negation {P : Program} {w : World} {K : Frag} {mg : Str → Option Value} {base : Heap} {k : Nat} (T : Tx K mg) (s_Parser_negation : SpD) (s_Parser_condition : SpD) (s_Parser_expression : SpD) (C_Parser_sees : Pk P w K mg base k ("Parser", some "sees") ["self", "signs"] (sp_Parser_sees K)) (C_Parser_take : Pk P w K mg base k ("Parser", some "take") ["self"] (sp_Parser_take K)) (C_Parser_negation : Pk P w K mg base k ("Parser", some "negation") ["self"] s_Parser_negation) (C_Parser_condition : Pk P w K mg base k ("Parser", some "condition") ["self"] s_Parser_condition) (C_Parser_take_sign : Pk P w K mg base k ("Parser", some "take_sign") ["self", "signs"] (sp_Parser_take_sign K)) (C_Parser_expression : Pk P w K mg base k ("Parser", some "expression") ["self"] s_Parser_expression) {sp : SpD} (len : ∀ ds γ q e, sp ds γ q e → ds.length = 1) (h : DL_Parser_negation K s_Parser_negation s_Parser_condition s_Parser_expression sp)
    (F : ∃ fd, FunD K d_Parser_negation.name d_Parser_negation.qual d_Parser_negation.params d_Parser_negation.body d_Parser_negation.scope (d_Parser_negation.dvs K) (d_Parser_negation.kws K) (He.fAd K d_Parser_negation.at_) fd) : Pk P w K mg base (k + 1) ("Parser", some "negation") ["self"] sp := by
  obtain ⟨fd, F⟩ := F
  have nd := sc_Parser_negation.nd
  refine ⟨fd, fn_dl F sc_Parser_negation (t_Parser_negation K s_Parser_negation s_Parser_condition s_Parser_expression) len (fun cdv A outer s H E hr gd tk po => ?_) h, F.kp, F.bindsN fun _ _ _ _ _ _ us hl => match us, hl with | [_], _ => rfl⟩
  have hu := huD hr
  exact (pss_cons (ps_if (pt_val (methP tk (c := "Parser") (pv 0) T.cl_Parser T.me_Parser_sees C_Parser_sees hr gd (pa_cons (pe_tup (pa_cons pe_str pa_nil)) pa_nil))) (pss_cons (ps_expr (methP0 tk (c := "Parser") (pv 0) T.cl_Parser T.me_Parser_take C_Parser_take hr gd)) (pss_one (ps_ret (pe_tup (pa_cons pe_str (pa_cons (methP0 tk (c := "Parser") (pv 0) T.cl_Parser T.me_Parser_negation C_Parser_negation hr gd) pa_nil)))))) pss_nil) (pss_cons (ps_if (pt_val (methP tk (c := "Parser") (pv 0) T.cl_Parser T.me_Parser_sees C_Parser_sees hr gd (pa_cons (pe_tup (pa_cons pe_str pa_nil)) pa_nil))) (pss_cons (ps_expr (methP0 tk (c := "Parser") (pv 0) T.cl_Parser T.me_Parser_take C_Parser_take hr gd)) (pss_cons (ps_set (i := 1) nd rfl (Or.inl rfl) (methP0 tk (c := "Parser") (pv 0) T.cl_Parser T.me_Parser_condition C_Parser_condition hr gd)) (pss_cons (ps_expr (methP tk (c := "Parser") (pv 0) T.cl_Parser T.me_Parser_take_sign C_Parser_take_sign hr gd (pa_cons (pe_tup (pa_cons pe_str pa_nil)) pa_nil))) (pss_one (ps_ret (pv 1)))))) pss_nil) (pss_cons (ps_set (i := 2) nd rfl (Or.inl rfl) (methP0 tk (c := "Parser") (pv 0) T.cl_Parser T.me_Parser_expression C_Parser_expression hr gd)) (pss_cons (ps_set (i := 3) nd rfl (Or.inl rfl) (methP tk (c := "Parser") (pv 0) T.cl_Parser T.me_Parser_take_sign C_Parser_take_sign hr gd (pa_cons (pe_glob rfl T.g_COMPARISONS rfl) pa_nil))) (pss_one (ps_ret (pe_tup (pa_cons (pv 3) (pa_cons (pv 2) (pa_cons (methP0 tk (c := "Parser") (pv 0) T.cl_Parser T.me_Parser_expression C_Parser_expression hr gd) pa_nil))))))))))
theorem pk_Parser_expression {P : Program} {w : World} {K : Frag} {mg : Str → Option Value} {base : Heap} {k : Nat} (T : Tx K mg) (s_Parser_term : SpD) (C_Parser_term : Pk P w K mg base k ("Parser", some "term") ["self"] s_Parser_term) (C_Parser_sees : Pk P w K mg base k ("Parser", some "sees") ["self", "signs"] (sp_Parser_sees K)) (C_Parser_take : Pk P w K mg base k ("Parser", some "take") ["self"] (sp_Parser_take K)) {sp : SpD} (len : ∀ ds γ q e, sp ds γ q e → ds.length = 1) (h : DL_Parser_expression K s_Parser_term sp)
    (F : ∃ fd, FunD K d_Parser_expression.name d_Parser_expression.qual d_Parser_expression.params d_Parser_expression.body d_Parser_expression.scope (d_Parser_expression.dvs K) (d_Parser_expression.kws K) (He.fAd K d_Parser_expression.at_) fd) : Pk P w K mg base (k + 1) ("Parser", some "expression") ["self"] sp := by
  obtain ⟨fd, F⟩ := F
  have nd := sc_Parser_expression.nd
  refine ⟨fd, fn_dl F sc_Parser_expression (t_Parser_expression K s_Parser_term) len (fun cdv A outer s H E hr gd tk po => ?_) h, F.kp, F.bindsN fun _ _ _ _ _ _ us hl => match us, hl with | [_], _ => rfl⟩
  have hu := huD hr
  exact (pss_cons (ps_set (i := 1) nd rfl (Or.inl rfl) (methP0 tk (c := "Parser") (pv 0) T.cl_Parser T.me_Parser_term C_Parser_term hr gd)) (pss_cons (ps_while po (pt_val (methP tk (c := "Parser") (pv 0) T.cl_Parser T.me_Parser_sees C_Parser_sees hr gd (pa_cons (pe_tup (pa_cons pe_str (pa_cons pe_str pa_nil))) pa_nil))) (pss_cons (ps_set (i := 2) nd rfl (Or.inl rfl) (pe_ix ix_seq (methP0 tk (c := "Parser") (pv 0) T.cl_Parser T.me_Parser_take C_Parser_take hr gd) pe_int (fun _ _ => rfl))) (pss_one (ps_set (i := 1) nd rfl (Or.inl rfl) (pe_tup (pa_cons (pv 2) (pa_cons (pv 1) (pa_cons (methP0 tk (c := "Parser") (pv 0) T.cl_Parser T.me_Parser_term C_Parser_term hr gd) pa_nil)))))))) (pss_one (ps_ret (pv 1)))))
theorem pk_Parser_term {P : Program} {w : World} {K : Frag} {mg : Str → Option Value} {base : Heap} {k : Nat} (T : Tx K mg) (s_Parser_factor : SpD) (C_Parser_factor : Pk P w K mg base k ("Parser", some "factor") ["self"] s_Parser_factor) (C_Parser_sees : Pk P w K mg base k ("Parser", some "sees") ["self", "signs"] (sp_Parser_sees K)) (C_Parser_take : Pk P w K mg base k ("Parser", some "take") ["self"] (sp_Parser_take K)) {sp : SpD} (len : ∀ ds γ q e, sp ds γ q e → ds.length = 1) (h : DL_Parser_term K s_Parser_factor sp)
    (F : ∃ fd, FunD K d_Parser_term.name d_Parser_term.qual d_Parser_term.params d_Parser_term.body d_Parser_term.scope (d_Parser_term.dvs K) (d_Parser_term.kws K) (He.fAd K d_Parser_term.at_) fd) : Pk P w K mg base (k + 1) ("Parser", some "term") ["self"] sp := by
  obtain ⟨fd, F⟩ := F
  have nd := sc_Parser_term.nd
  refine ⟨fd, fn_dl F sc_Parser_term (t_Parser_term K s_Parser_factor) len (fun cdv A outer s H E hr gd tk po => ?_) h, F.kp, F.bindsN fun _ _ _ _ _ _ us hl => match us, hl with | [_], _ => rfl⟩
  have hu := huD hr
  exact (pss_cons (ps_set (i := 1) nd rfl (Or.inl rfl) (methP0 tk (c := "Parser") (pv 0) T.cl_Parser T.me_Parser_factor C_Parser_factor hr gd)) (pss_cons (ps_while po (pt_val (methP tk (c := "Parser") (pv 0) T.cl_Parser T.me_Parser_sees C_Parser_sees hr gd (pa_cons (pe_tup (pa_cons pe_str (pa_cons pe_str (pa_cons pe_str pa_nil)))) pa_nil))) (pss_cons (ps_set (i := 2) nd rfl (Or.inl rfl) (pe_ix ix_seq (methP0 tk (c := "Parser") (pv 0) T.cl_Parser T.me_Parser_take C_Parser_take hr gd) pe_int (fun _ _ => rfl))) (pss_one (ps_set (i := 1) nd rfl (Or.inl rfl) (pe_tup (pa_cons (pv 2) (pa_cons (pv 1) (pa_cons (methP0 tk (c := "Parser") (pv 0) T.cl_Parser T.me_Parser_factor C_Parser_factor hr gd) pa_nil)))))))) (pss_one (ps_ret (pv 1)))))
theorem pk_Parser_factor {P : Program} {w : World} {K : Frag} {mg : Str → Option Value} {base : Heap} {k : Nat} (T : Tx K mg) (s_Parser_factor : SpD) (s_Parser_expression : SpD) (C_Parser_sees : Pk P w K mg base k ("Parser", some "sees") ["self", "signs"] (sp_Parser_sees K)) (C_Parser_take : Pk P w K mg base k ("Parser", some "take") ["self"] (sp_Parser_take K)) (C_Parser_factor : Pk P w K mg base k ("Parser", some "factor") ["self"] s_Parser_factor) (C_Parser_expression : Pk P w K mg base k ("Parser", some "expression") ["self"] s_Parser_expression) (C_Parser_take_sign : Pk P w K mg base k ("Parser", some "take_sign") ["self", "signs"] (sp_Parser_take_sign K)) (C_Parser_refuse : Pk P w K mg base k ("Parser", some "refuse") ["self"] (sp_Parser_refuse K)) {sp : SpD} (len : ∀ ds γ q e, sp ds γ q e → ds.length = 1) (h : DL_Parser_factor K s_Parser_factor s_Parser_expression sp)
    (F : ∃ fd, FunD K d_Parser_factor.name d_Parser_factor.qual d_Parser_factor.params d_Parser_factor.body d_Parser_factor.scope (d_Parser_factor.dvs K) (d_Parser_factor.kws K) (He.fAd K d_Parser_factor.at_) fd) : Pk P w K mg base (k + 1) ("Parser", some "factor") ["self"] sp := by
  obtain ⟨fd, F⟩ := F
  have nd := sc_Parser_factor.nd
  refine ⟨fd, fn_dl F sc_Parser_factor (t_Parser_factor K s_Parser_factor s_Parser_expression) len (fun cdv A outer s H E hr gd tk po => ?_) h, F.kp, F.bindsN fun _ _ _ _ _ _ us hl => match us, hl with | [_], _ => rfl⟩
  have hu := huD hr
  exact (pss_cons (ps_if (pt_val (methP tk (c := "Parser") (pv 0) T.cl_Parser T.me_Parser_sees C_Parser_sees hr gd (pa_cons (pe_tup (pa_cons pe_str pa_nil)) pa_nil))) (pss_cons (ps_expr (methP0 tk (c := "Parser") (pv 0) T.cl_Parser T.me_Parser_take C_Parser_take hr gd)) (pss_one (ps_ret (pe_tup (pa_cons pe_str (pa_cons (methP0 tk (c := "Parser") (pv 0) T.cl_Parser T.me_Parser_factor C_Parser_factor hr gd) pa_nil)))))) pss_nil) (pss_cons (ps_if (pt_val (methP tk (c := "Parser") (pv 0) T.cl_Parser T.me_Parser_sees C_Parser_sees hr gd (pa_cons (pe_tup (pa_cons pe_str pa_nil)) pa_nil))) (pss_cons (ps_expr (methP0 tk (c := "Parser") (pv 0) T.cl_Parser T.me_Parser_take C_Parser_take hr gd)) (pss_cons (ps_set (i := 1) nd rfl (Or.inl rfl) (methP0 tk (c := "Parser") (pv 0) T.cl_Parser T.me_Parser_expression C_Parser_expression hr gd)) (pss_cons (ps_expr (methP tk (c := "Parser") (pv 0) T.cl_Parser T.me_Parser_take_sign C_Parser_take_sign hr gd (pa_cons (pe_tup (pa_cons pe_str pa_nil)) pa_nil))) (pss_one (ps_ret (pv 1)))))) pss_nil) (pss_cons (ps_asg (pe_ix ix_seq (pe_fld (pv 0) rfl) (pe_fld (pv 0) rfl) (fun _ _ => rfl)) (pg_tup rfl (pgs_cons (pg_name (i := 2) nd rfl (Or.inl rfl)) (pgs_cons (pg_name (i := 3) nd rfl (Or.inl rfl)) (pgs_cons (pg_name (i := 4) nd rfl (Or.inl rfl)) pgs_nil))))) (pss_cons (ps_if (pt_cmpR (op_niG (hu65 hr)) (pv 2) (pe_tup (pa_cons pe_str (pa_cons pe_str pa_nil))) (by rfl)) (pss_one (ps_expr (methP0 tk (c := "Parser") (pv 0) T.cl_Parser T.me_Parser_refuse C_Parser_refuse hr gd))) pss_nil) (pss_cons (ps_expr (methP0 tk (c := "Parser") (pv 0) T.cl_Parser T.me_Parser_take C_Parser_take hr gd)) (pss_one (ps_ret (pe_ifExp (pt_cmpR (op_eqG hr.units) (pv 2) pe_str (nomark _)) (pe_tup (pa_cons pe_str (pa_cons (pe_callTy call_intG (by rfl) T.b_int (by decide +kernel) (pa_cons (pv 3) pa_nil)) pa_nil))) (pe_tup (pa_cons pe_str (pa_cons (pv 3) pa_nil)))))))))))
theorem pk_parse_condition {P : Program} {w : World} {K : Frag} {mg : Str → Option Value} {base : Heap} {j k : Nat} (T : Tx K mg) (C_Parser_init : Pk P w K mg base j ("Parser", some "__init__") ["self", "text"] (sp_Parser_init K)) (C_Parser_condition : Pk P w K mg base k ("Parser", some "condition") ["self"] (sp_Parser_condition K)) (C_Parser_finish : Pk P w K mg base k ("Parser", some "finish") ["self", "node"] (sp_Parser_finish K)) (hj : j + 1 ≤ k) {sp : SpD} (len : ∀ ds γ q e, sp ds γ q e → ds.length = 1) (h : DL_parse_condition K sp)
    (F : ∃ fd, FunD K d_parse_condition.name d_parse_condition.qual d_parse_condition.params d_parse_condition.body d_parse_condition.scope (d_parse_condition.dvs K) (d_parse_condition.kws K) (He.fAd K d_parse_condition.at_) fd) : Pk P w K mg base (k + 1) ("parse_condition", none) ["text"] sp := by
  obtain ⟨fd, F⟩ := F
  have nd := sc_parse_condition.nd
  refine ⟨fd, fn_dl F sc_parse_condition (t_parse_condition K) len (fun cdv A outer s H E hr gd tk po => ?_) h, F.kp, F.bindsN fun _ _ _ _ _ _ us hl => match us, hl with | [_], _ => rfl⟩
  have hu := huD hr
  exact (pss_cons (ps_set (i := 1) nd rfl (Or.inl rfl) (makeP tk T.mk_Parser C_Parser_init hj hr gd rfl T.g_Parser (pa_cons (pv 0) pa_nil))) (pss_one (ps_ret (methP tk (c := "Parser") (pv 1) T.cl_Parser T.me_Parser_finish C_Parser_finish hr gd (pa_cons (methP0 tk (c := "Parser") (pv 1) T.cl_Parser T.me_Parser_condition C_Parser_condition hr gd) pa_nil)))))
theorem pk_bounded {P : Program} {w : World} {K : Frag} {mg : Str → Option Value} {base : Heap} {j k : Nat} (T : Tx K mg) (E_Fault : PkE P w K mg base j "Fault" ["reason"] (sp_frozen K)) (hx : j + 1 ≤ k) {sp : SpD} (len : ∀ ds γ q e, sp ds γ q e → ds.length = 1) (h : DL_bounded K sp)
    (F : ∃ fd, FunD K d_bounded.name d_bounded.qual d_bounded.params d_bounded.body d_bounded.scope (d_bounded.dvs K) (d_bounded.kws K) (He.fAd K d_bounded.at_) fd) : Pk P w K mg base (k + 1) ("bounded", none) ["number"] sp := by
  obtain ⟨fd, F⟩ := F
  obtain ⟨_, c_GREATEST⟩ := T.c_GREATEST
  have nd := sc_bounded.nd
  refine ⟨fd, fn_dl F sc_bounded (t_bounded K) len (fun cdv A outer s H E hr gd tk po => ?_) h, F.kp, F.bindsN fun _ _ _ _ _ _ us hl => match us, hl with | [_], _ => rfl⟩
  have hu := huD hr
  exact (pss_cons (ps_if (pt_cmpR op_ge (pe_callB call_abs (by rfl) T.b_abs (by decide +kernel) (pa_cons (pv 0) pa_nil)) (pe_glob rfl c_GREATEST ⟨_, rfl⟩) (nomark _)) (pss_one (raiseP tk E_Fault hx hr gd rfl (by rfl) T.g_Fault (pa_cons pe_str pa_nil))) pss_nil) (pss_one (ps_ret (pv 0))))
theorem pk_calculated {P : Program} {w : World} {K : Frag} {mg : Str → Option Value} {base : Heap} {j k : Nat} (T : Tx K mg) (C_bounded : Pk P w K mg base k ("bounded", none) ["number"] (sp_bounded K)) (E_Fault : PkE P w K mg base j "Fault" ["reason"] (sp_frozen K)) (hx : j + 1 ≤ k) {sp : SpD} (len : ∀ ds γ q e, sp ds γ q e → ds.length = 3) (h : DL_calculated K sp)
    (F : ∃ fd, FunD K d_calculated.name d_calculated.qual d_calculated.params d_calculated.body d_calculated.scope (d_calculated.dvs K) (d_calculated.kws K) (He.fAd K d_calculated.at_) fd) : Pk P w K mg base (k + 1) ("calculated", none) ["word", "left", "right"] sp := by
  obtain ⟨fd, F⟩ := F
  have nd := sc_calculated.nd
  refine ⟨fd, fn_dl F sc_calculated (t_calculated K) len (fun cdv A outer s H E hr gd tk po => ?_) h, F.kp, F.bindsN fun _ _ _ _ _ _ us hl => match us, hl with | [_, _, _], _ => rfl⟩
  have hu := huD hr
  exact (pss_cons (ps_if (pt_cmpR (op_eqG hr.units) (pv 0) pe_str (nomark _)) (pss_one (ps_ret (callP tk C_bounded hr gd rfl T.g_bounded (pa_cons (pe_op op_addG (pv 1) (pv 2)) pa_nil)))) pss_nil) (pss_cons (ps_if (pt_cmpR (op_eqG hr.units) (pv 0) pe_str (nomark _)) (pss_one (ps_ret (callP tk C_bounded hr gd rfl T.g_bounded (pa_cons (pe_op op_sub (pv 1) (pv 2)) pa_nil)))) pss_nil) (pss_cons (ps_if (pt_cmpR (op_eqG hr.units) (pv 0) pe_str (nomark _)) (pss_one (ps_ret (callP tk C_bounded hr gd rfl T.g_bounded (pa_cons (pe_op op_mulG (pv 1) (pv 2)) pa_nil)))) pss_nil) (pss_cons (ps_if (pt_cmpR (op_eqG hr.units) (pv 2) pe_int (nomark _)) (pss_one (raiseP tk E_Fault hx hr gd rfl (by rfl) T.g_Fault (pa_cons pe_str pa_nil))) pss_nil) (pss_one (ps_ret (pe_ifExp (pt_cmpR (op_eqG hr.units) (pv 0) pe_str (nomark _)) (pe_op op_fdivA (pv 1) (pv 2)) (pe_op op_modN (pv 1) (pv 2)))))))))
theorem pk_compared {P : Program} {w : World} {K : Frag} {mg : Str → Option Value} {base : Heap} {k : Nat} (T : Tx K mg) {sp : SpD} (len : ∀ ds γ q e, sp ds γ q e → ds.length = 3) (h : DL_compared K sp)
    (F : ∃ fd, FunD K d_compared.name d_compared.qual d_compared.params d_compared.body d_compared.scope (d_compared.dvs K) (d_compared.kws K) (He.fAd K d_compared.at_) fd) : Pk P w K mg base (k + 1) ("compared", none) ["word", "left", "right"] sp := by
  obtain ⟨fd, F⟩ := F
  have nd := sc_compared.nd
  refine ⟨fd, fn_dl F sc_compared (t_compared K) len (fun cdv A outer s H E hr gd tk po => ?_) h, F.kp, F.bindsN fun _ _ _ _ _ _ us hl => match us, hl with | [_, _, _], _ => rfl⟩
  have hu := huD hr
  exact (pss_cons (ps_if (pt_cmpR (op_inG (hu65 hr)) (pv 0) (pe_tup (pa_cons pe_str (pa_cons pe_str pa_nil))) (by rfl)) (pss_one (ps_ret (pe_cmpR (op_eqG hr.units) (pe_cmpR (op_eqG hr.units) (pv 1) (pv 2) (nomark _)) (pe_cmpR (op_eqG hr.units) (pv 0) pe_str (nomark _)) (nomark _)))) pss_nil) (pss_cons (ps_if (pt_cmpR (op_inG (hu65 hr)) (pv 0) (pe_tup (pa_cons pe_str (pa_cons pe_str pa_nil))) (by rfl)) (pss_one (ps_ret (pe_cmpR (op_eqG hr.units) (pe_cmpR op_lt (pv 1) (pv 2) (nomark _)) (pe_cmpR (op_eqG hr.units) (pv 0) pe_str (nomark _)) (nomark _)))) pss_nil) (pss_one (ps_ret (pe_cmpR (op_eqG hr.units) (pe_cmpR op_gt (pv 1) (pv 2) (nomark _)) (pe_cmpR (op_eqG hr.units) (pv 0) pe_str (nomark _)) (nomark _))))))
theorem pk_value_of {P : Program} {w : World} {K : Frag} {mg : Str → Option Value} {base : Heap} {k : Nat} (T : Tx K mg) (s_value_of : SpD) (C_value_of : Pk P w K mg base k ("value_of", none) ["node", "known"] s_value_of) (C_compared : Pk P w K mg base k ("compared", none) ["word", "left", "right"] (sp_compared K)) (C_calculated : Pk P w K mg base k ("calculated", none) ["word", "left", "right"] (sp_calculated K)) {sp : SpD} (len : ∀ ds γ q e, sp ds γ q e → ds.length = 2) (h : DL_value_of K s_value_of sp)
    (F : ∃ fd, FunD K d_value_of.name d_value_of.qual d_value_of.params d_value_of.body d_value_of.scope (d_value_of.dvs K) (d_value_of.kws K) (He.fAd K d_value_of.at_) fd) : Pk P w K mg base (k + 1) ("value_of", none) ["node", "known"] sp := by
  obtain ⟨fd, F⟩ := F
  have nd := sc_value_of.nd
  refine ⟨fd, fn_dl F sc_value_of (t_value_of K s_value_of) len (fun cdv A outer s H E hr gd tk po => ?_) h, F.kp, F.bindsN fun _ _ _ _ _ _ us hl => match us, hl with | [_, _], _ => rfl⟩
  have hu := huD hr
  exact (pss_cons (ps_set (i := 2) nd rfl (Or.inl rfl) (pe_ix ix_seq (pv 0) pe_int (fun _ _ => rfl))) (pss_cons (ps_if (pt_cmpR (op_eqG hr.units) (pv 2) pe_str (nomark _)) (pss_one (ps_ret (pe_ix ix_seq (pv 0) pe_int (fun _ _ => rfl)))) pss_nil) (pss_cons (ps_if (pt_cmpR (op_eqG hr.units) (pv 2) pe_str (nomark _)) (pss_one (ps_ret (pe_dget2 hu (pv 1) (pe_ix ix_seq (pv 0) pe_int (fun _ _ => rfl)) pe_int ⟨rfl, by rfl, rfl, rfl⟩))) pss_nil) (pss_cons (ps_setLcX (i := 3) (own := [("part", 4)]) (g := (gName 4)) rfl rfl tk rfl nd rfl rfl (sw_true rfl rfl rfl (by decide +kernel)) (pi_any (pi_list (pe_slice sl_G (pv 0) (po_some pe_int) po_none)) (pi_tup (pe_slice sl_G (pv 0) (po_some pe_int) po_none))) (blkOk_by (own := [("part", 4)]) (N := N_value_of) (sc := defScope (top 27)) (by decide +kernel)) (fun _ _ _ _ _ _ => (pg_name (i := 4) nd rfl (Or.inl rfl))) (fun _ _ _ _ _ _ Wc px => pts_nil) (fun _ _ _ _ _ _ Wc px => (callPB px C_value_of hr gd rfl T.g_value_of (pa_cons (pv 4) (pa_cons (pv 1) pa_nil))))) (pss_cons (ps_if (pt_cmpR (op_eqG hr.units) (pv 2) pe_str (nomark _)) (pss_one (ps_ret (pe_un un_neg (pe_ix ix_seq (pv 3) pe_int (fun _ _ => rfl))))) pss_nil) (pss_cons (ps_if (pt_cmpR (op_eqG hr.units) (pv 2) pe_str (nomark _)) (pss_one (ps_ret (pe_not (pe_ix ix_seq (pv 3) pe_int (fun _ _ => rfl))))) pss_nil) (pss_cons (ps_if (pt_cmpR (op_inG (hu65 hr)) (pv 2) (pe_tup (pa_cons pe_str (pa_cons pe_str pa_nil))) (by rfl)) (pss_one (ps_ret (pe_ifExp (pt_cmpR (op_eqG hr.units) (pv 2) pe_str (nomark _)) (pe_callB (cr_all rfl) (by rfl) T.b_all (by decide +kernel) (pa_cons (pv 3) pa_nil)) (pe_callB (cr_any rfl) (by rfl) T.b_any (by decide +kernel) (pa_cons (pv 3) pa_nil))))) pss_nil) (pss_cons (ps_if (pt_cmpR (op_inG (hu65 hr)) (pv 2) (pe_glob rfl T.g_COMPARISONS rfl) (by rfl)) (pss_one (ps_ret (callP tk C_compared hr gd rfl T.g_compared (pa_cons (pv 2) (pa_cons (pe_ix ix_seq (pv 3) pe_int (fun _ _ => rfl)) (pa_cons (pe_ix ix_seq (pv 3) pe_int (fun _ _ => rfl)) pa_nil)))))) pss_nil) (pss_one (ps_ret (callP tk C_calculated hr gd rfl T.g_calculated (pa_cons (pv 2) (pa_cons (pe_ix ix_seq (pv 3) pe_int (fun _ _ => rfl)) (pa_cons (pe_ix ix_seq (pv 3) pe_int (fun _ _ => rfl)) pa_nil))))))))))))))
theorem pk_evaluate {P : Program} {w : World} {K : Frag} {mg : Str → Option Value} {base : Heap} {k : Nat} (T : Tx K mg) (C_value_of : Pk P w K mg base k ("value_of", none) ["node", "known"] (sp_value_of K)) {sp : SpD} (len : ∀ ds γ q e, sp ds γ q e → ds.length = 2) (h : DL_evaluate K sp)
    (F : ∃ fd, FunD K d_evaluate.name d_evaluate.qual d_evaluate.params d_evaluate.body d_evaluate.scope (d_evaluate.dvs K) (d_evaluate.kws K) (He.fAd K d_evaluate.at_) fd) : Pk P w K mg base (k + 1) ("evaluate", none) ["node", "values"] sp := by
  obtain ⟨fd, F⟩ := F
  have nd := sc_evaluate.nd
  refine ⟨fd, fn_dl F sc_evaluate (t_evaluate K) len (fun cdv A outer s H E hr gd tk po => ?_) h, F.kp, F.bindsN fun _ _ _ _ _ _ us hl => match us, hl with | [_, _], _ => rfl⟩
  have hu := huD hr
  exact (pss_one (ps_ret (callP tk C_value_of hr gd rfl T.g_value_of (pa_cons (pv 0) (pa_cons (pe_callTy (call_dictG rfl) (by rfl) T.b_dict (by decide +kernel) (pa_cons (pe_lc (own := [("name", 2), ("number", 3)]) (g := (gAny K 2 (gCons (gName 2) (gCons (gName 3) gNil)))) (tt := tYes) rfl nd (pi_any (pi_list (pv 1)) (pi_tup (pv 1))) (blkOk_by (own := [("name", 2), ("number", 3)]) (N := N_evaluate) (sc := defScope (top 28)) (by decide +kernel)) (fun _ _ _ _ _ => (pg_any rfl (pgs_cons (pg_name (i := 2) nd rfl (Or.inl rfl)) (pgs_cons (pg_name (i := 3) nd rfl (Or.inl rfl)) pgs_nil)))) (fun _ _ _ _ _ => pts_nil) (fun _ _ _ _ _ => (pe_tup (pa_cons (pv 2) (pa_cons (pv 3) pa_nil))))) pa_nil)) pa_nil)))))
theorem pk_holds {P : Program} {w : World} {K : Frag} {mg : Str → Option Value} {base : Heap} {k : Nat} (T : Tx K mg) (C_evaluate : Pk P w K mg base k ("evaluate", none) ["node", "values"] (sp_evaluate K)) {sp : SpD} (len : ∀ ds γ q e, sp ds γ q e → ds.length = 2) (h : DL_holds K sp)
    (F : ∃ fd, FunD K d_holds.name d_holds.qual d_holds.params d_holds.body d_holds.scope (d_holds.dvs K) (d_holds.kws K) (He.fAd K d_holds.at_) fd) : Pk P w K mg base (k + 1) ("holds", none) ["node", "values"] sp := by
  obtain ⟨fd, F⟩ := F
  have nd := sc_holds.nd
  refine ⟨fd, fn_dl F sc_holds (t_holds K) len (fun cdv A outer s H E hr gd tk po => ?_) h, F.kp, F.bindsN fun _ _ _ _ _ _ us hl => match us, hl with | [_, _], _ => rfl⟩
  have hu := huD hr
  exact (pss_one (ps_tryOnlyD rfl rfl ⟨by rfl, by decide, .inl T.g_Fault⟩ tk (fun W' pn xe tk' po' => (pss_one (ps_ret (callP tk' C_evaluate hr gd rfl T.g_evaluate (pa_cons (pv 0) (pa_cons (pv 1) pa_nil)))))) (fun a oe cls d pn hz hf => (pss_one (ps_ret pe_bl)))))
theorem pk_L_draw {P : Program} {w : World} {K : Frag} {mg : Str → Option Value} {base : Heap} {k : Nat} (T : Tx K mg) {sp : SpD} (len : ∀ ds γ q e, sp ds γ q e → ds.length = 2) (h : DL_L_draw K sp)
    (F : ∃ fd, FunD K d_L_draw.name d_L_draw.qual d_L_draw.params d_L_draw.body d_L_draw.scope (d_L_draw.dvs K) (d_L_draw.kws K) (He.fAd K d_L_draw.at_) fd) : Pk P w K mg base (k + 1) ("_law_draw", none) ["_law_stream", "_law_many"] sp := by
  obtain ⟨fd, F⟩ := F
  have nd := sc_L_draw.nd
  refine ⟨fd, fn_dl F sc_L_draw (t_L_draw K) len (fun cdv A outer s H E hr gd tk po => ?_) h, F.kp, F.bindsN fun _ _ _ _ _ _ us hl => match us, hl with | [_, _], _ => rfl⟩
  have hu := huD hr
  exact (pss_cons (ps_asg (pe_op op_addG (pe_ix ix_seq (pv 0) pe_int (fun _ _ => rfl)) pe_int) (pg_sub (pv 0) pe_int set_list)) (pss_cons (ps_if (PW.pt (pw_and (pt_cmpR (op_eqG hr.units) (pe_ix ix_seq (pv 0) pe_int (fun _ _ => rfl)) pe_int (nomark _)) (pw_and1 (pt_cmpR (op_neG hr.units) (pe_ix ix_seq (pv 0) pe_int (fun _ _ => rfl)) (pe_lst pa_nil) (nomark _))))) (pss_cons (ps_asg (pe_bm PySem.F.plainAttrs_list PySem.F.slot_list_pop PySem.F.type_list_pop mt_popAt (pe_ix ix_seq (pv 0) pe_int (fun _ _ => rfl)) (pa_cons pe_int pa_nil)) (pg_sub (pv 0) pe_int set_list)) (pss_one (ps_if (pt_cmpR op_lt (pe_ix ix_seq (pv 0) pe_int (fun _ _ => rfl)) (pe_op op_pow pe_int pe_int) (nomark _)) (pss_cons (ps_asg (pe_op op_modN (pe_op op_addG (pe_op op_addG (pe_op op_mulG (pe_ix ix_seq (pv 0) pe_int (fun _ _ => rfl)) pe_int) (pe_ix ix_seq (pv 0) pe_int (fun _ _ => rfl))) pe_int) pe_int) (pg_sub (pv 0) pe_int set_list)) (pss_one (ps_asg pe_int (pg_sub (pv 0) pe_int set_list)))) pss_nil))) pss_nil) (pss_cons (ps_if (pt_cmpR op_gt (pe_ix ix_seq (pv 0) pe_int (fun _ _ => rfl)) pe_int (nomark _)) (pss_cons (ps_set (i := 2) nd rfl (Or.inl rfl) (pe_op op_modN (pe_ix ix_seq (pv 0) pe_int (fun _ _ => rfl)) (pv 1))) (pss_cons (ps_asg (pe_op op_fdivA (pe_ix ix_seq (pv 0) pe_int (fun _ _ => rfl)) (pv 1)) (pg_sub (pv 0) pe_int set_list)) (pss_one (ps_ret (pv 2))))) pss_nil) (pss_cons (ps_set (i := 3) nd rfl (Or.inl rfl) (pe_op op_modN (pe_op op_pow (pe_op op_addG (pe_op op_addG (pe_ix ix_seq (pv 0) pe_int (fun _ _ => rfl)) (pe_op op_mulG pe_int (pe_ix ix_seq (pv 0) pe_int (fun _ _ => rfl)))) pe_int) pe_int) pe_int)) (pss_one (ps_ret (pe_op op_modN (pe_op op_modN (pe_op op_pow (pe_op op_addG (pe_op op_addG (pe_op op_mulG (pv 3) pe_int) (pe_op op_mulG (pe_op op_mulG pe_int (pe_ix ix_seq (pv 0) pe_int (fun _ _ => rfl))) (pe_ix ix_seq (pv 0) pe_int (fun _ _ => rfl)))) pe_int) pe_int) pe_int) (pv 1))))))))
theorem pk_L_reserved {P : Program} {w : World} {K : Frag} {mg : Str → Option Value} {base : Heap} {k : Nat} (T : Tx K mg) {sp : SpD} (len : ∀ ds γ q e, sp ds γ q e → ds.length = 0) (h : DL_L_reserved K sp)
    (F : ∃ fd, FunD K d_L_reserved.name d_L_reserved.qual d_L_reserved.params d_L_reserved.body d_L_reserved.scope (d_L_reserved.dvs K) (d_L_reserved.kws K) (He.fAd K d_L_reserved.at_) fd) : Pk P w K mg base (k + 1) ("_law_reserved", none) [] sp := by
  obtain ⟨fd, F⟩ := F
  have nd := sc_L_reserved.nd
  refine ⟨fd, fn_dl F sc_L_reserved (t_L_reserved K) len (fun cdv A outer s H E hr gd tk po => ?_) h, F.kp, F.bindsN fun _ _ _ _ _ _ us hl => match us, hl with | [], _ => rfl⟩
  have hu := huD hr
  exact (pss_one (ps_ret (pe_bm PySem.F.plainAttrs_str PySem.F.slot_str_split PySem.F.type_str_split mt_split pe_str (pa_cons pe_str pa_nil))))
theorem pk_L_name {P : Program} {w : World} {K : Frag} {mg : Str → Option Value} {base : Heap} {k : Nat} (T : Tx K mg) (C_L_draw : Pk P w K mg base k ("_law_draw", none) ["_law_stream", "_law_many"] (sp_L_draw K)) (C_L_reserved : Pk P w K mg base k ("_law_reserved", none) [] (sp_L_reserved K)) {sp : SpD} (len : ∀ ds γ q e, sp ds γ q e → ds.length = 1) (h : DL_L_name K sp)
    (F : ∃ fd, FunD K d_L_name.name d_L_name.qual d_L_name.params d_L_name.body d_L_name.scope (d_L_name.dvs K) (d_L_name.kws K) (He.fAd K d_L_name.at_) fd) : Pk P w K mg base (k + 1) ("_law_name", none) ["_law_stream"] sp := by
  obtain ⟨fd, F⟩ := F
  have nd := sc_L_name.nd
  refine ⟨fd, fn_dl F sc_L_name (t_L_name K) len (fun cdv A outer s H E hr gd tk po => ?_) h, F.kp, F.bindsN fun _ _ _ _ _ _ us hl => match us, hl with | [_], _ => rfl⟩
  have hu := huD hr
  exact (pss_cons (ps_set (i := 1) nd rfl (Or.inl rfl) (pe_ix ix_seq (pe_lst (pa_cons pe_int (pa_cons pe_int (pa_cons pe_int (pa_cons pe_int (pa_cons pe_int pa_nil)))))) (callP tk C_L_draw hr gd rfl T.g_L_draw (pa_cons (pv 0) (pa_cons pe_int pa_nil))) (fun _ _ => rfl))) (pss_cons (ps_set (i := 2) nd rfl (Or.inl rfl) (pe_bm PySem.F.plainAttrs_str PySem.F.slot_str_join PySem.F.type_str_join mt_join pe_str (pa_cons (pe_lc (own := [("_law_k", 3)]) (g := (gName 3)) (tt := tYes) rfl nd (pi_range1 (by rfl) T.b_range (pa_cons (pv 1) pa_nil)) (blkOk_by (own := [("_law_k", 3)]) (N := N_L_name) (sc := defScope (top 33)) (by decide +kernel)) (fun _ _ _ _ _ => (pg_name (i := 3) nd rfl (Or.inl rfl))) (fun _ _ _ _ _ => pts_nil) (fun _ _ _ _ _ => (pe_ix ix_seq pe_str (callP L2.takes0 C_L_draw hr gd rfl T.g_L_draw (pa_cons (pv 0) (pa_cons pe_int pa_nil))) (fun _ _ => rfl)))) pa_nil))) (pss_one (ps_ret (pe_op op_addG (pv 2) (pe_op op_mulG pe_str (pe_callTy call_intG (by rfl) T.b_int (by decide +kernel) (pa_cons (pe_cmpR (op_inG (hu65 hr)) (pv 2) (callP0 tk C_L_reserved hr gd rfl T.g_L_reserved) (by rfl)) pa_nil))))))))
theorem pk_L_names {P : Program} {w : World} {K : Frag} {mg : Str → Option Value} {base : Heap} {k : Nat} (T : Tx K mg) (C_L_name : Pk P w K mg base k ("_law_name", none) ["_law_stream"] (sp_L_name K)) {sp : SpD} (len : ∀ ds γ q e, sp ds γ q e → ds.length = 2) (h : DL_L_names K sp)
    (F : ∃ fd, FunD K d_L_names.name d_L_names.qual d_L_names.params d_L_names.body d_L_names.scope (d_L_names.dvs K) (d_L_names.kws K) (He.fAd K d_L_names.at_) fd) : Pk P w K mg base (k + 1) ("_law_names", none) ["_law_stream", "_law_many"] sp := by
  obtain ⟨fd, F⟩ := F
  have nd := sc_L_names.nd
  refine ⟨fd, fn_dl F sc_L_names (t_L_names K) len (fun cdv A outer s H E hr gd tk po => ?_) h, F.kp, F.bindsN fun _ _ _ _ _ _ us hl => match us, hl with | [_, _], _ => rfl⟩
  have hu := huD hr
  exact (pss_cons (ps_set (i := 2) nd rfl (Or.inl rfl) (pe_lst pa_nil)) (pss_cons (ps_for po rfl (pi_range1 (by rfl) T.b_range (pa_cons (pv 1) pa_nil)) (pg_name (i := 3) nd rfl (Or.inl rfl)) (pss_cons (ps_set (i := 4) nd rfl (Or.inl rfl) (callP tk C_L_name hr gd rfl T.g_L_name (pa_cons (pv 0) pa_nil))) (pss_cons (ps_for po rfl (pi_list (pe_lst (pa_cons pe_str (pa_cons pe_str (pa_cons pe_str (pa_cons pe_str (pa_cons pe_str (pa_cons pe_str pa_nil)))))))) (pg_name (i := 5) nd rfl (Or.inl rfl)) (pss_one (ps_if (pt_cmpR (op_inG (hu65 hr)) (pv 4) (pv 2) (by rfl)) (pss_one (ps_set (i := 4) nd rfl (Or.inl rfl) (pv 5))) pss_nil))) (pss_one (ps_expr (pe_bm PySem.F.plainAttrs_list PySem.F.slot_list_append PySem.F.type_list_append mt_append (pv 2) (pa_cons (pv 4) pa_nil))))))) (pss_one (ps_ret (pv 2)))))
theorem pk_L_number {P : Program} {w : World} {K : Frag} {mg : Str → Option Value} {base : Heap} {k : Nat} (T : Tx K mg) (C_L_draw : Pk P w K mg base k ("_law_draw", none) ["_law_stream", "_law_many"] (sp_L_draw K)) {sp : SpD} (len : ∀ ds γ q e, sp ds γ q e → ds.length = 1) (h : DL_L_number K sp)
    (F : ∃ fd, FunD K d_L_number.name d_L_number.qual d_L_number.params d_L_number.body d_L_number.scope (d_L_number.dvs K) (d_L_number.kws K) (He.fAd K d_L_number.at_) fd) : Pk P w K mg base (k + 1) ("_law_number", none) ["_law_stream"] sp := by
  obtain ⟨fd, F⟩ := F
  have nd := sc_L_number.nd
  refine ⟨fd, fn_dl F sc_L_number (t_L_number K) len (fun cdv A outer s H E hr gd tk po => ?_) h, F.kp, F.bindsN fun _ _ _ _ _ _ us hl => match us, hl with | [_], _ => rfl⟩
  have hu := huD hr
  exact (pss_one (ps_ret (pe_ix ix_seq (pe_lst (pa_cons pe_int (pa_cons pe_int (pa_cons pe_int (pa_cons pe_int (pa_cons pe_int (pa_cons pe_int (pa_cons (pe_op op_pow pe_int pe_int) (pa_cons (pe_op op_sub (pe_op op_pow pe_int pe_int) pe_int) pa_nil))))))))) (callP tk C_L_draw hr gd rfl T.g_L_draw (pa_cons (pv 0) (pa_cons pe_int pa_nil))) (fun _ _ => rfl))))
theorem pk_L_sum {P : Program} {w : World} {K : Frag} {mg : Str → Option Value} {base : Heap} {k : Nat} (T : Tx K mg) (s_L_sum : SpD) (C_L_draw : Pk P w K mg base k ("_law_draw", none) ["_law_stream", "_law_many"] (sp_L_draw K)) (C_L_number : Pk P w K mg base k ("_law_number", none) ["_law_stream"] (sp_L_number K)) (C_L_sum : Pk P w K mg base k ("_law_sum", none) ["_law_stream", "_law_names_here", "_law_depth"] s_L_sum) {sp : SpD} (len : ∀ ds γ q e, sp ds γ q e → ds.length = 3) (h : DL_L_sum K s_L_sum sp)
    (F : ∃ fd, FunD K d_L_sum.name d_L_sum.qual d_L_sum.params d_L_sum.body d_L_sum.scope (d_L_sum.dvs K) (d_L_sum.kws K) (He.fAd K d_L_sum.at_) fd) : Pk P w K mg base (k + 1) ("_law_sum", none) ["_law_stream", "_law_names_here", "_law_depth"] sp := by
  obtain ⟨fd, F⟩ := F
  have nd := sc_L_sum.nd
  refine ⟨fd, fn_dl F sc_L_sum (t_L_sum K s_L_sum) len (fun cdv A outer s H E hr gd tk po => ?_) h, F.kp, F.bindsN fun _ _ _ _ _ _ us hl => match us, hl with | [_, _, _], _ => rfl⟩
  have hu := huD hr
  exact (pss_cons (ps_set (i := 3) nd rfl (Or.inl rfl) (callP tk C_L_draw hr gd rfl T.g_L_draw (pa_cons (pv 0) (pa_cons pe_int pa_nil)))) (pss_cons (ps_if (PW.pt (pw_or (pt_cmpR (op_eqG hr.units) (pv 2) pe_int (nomark _)) (pw_or1 (pt_cmpR (op_eqG hr.units) (pv 3) pe_int (nomark _))))) (pss_cons (ps_if (pt_cmpR (op_eqG hr.units) (callP tk C_L_draw hr gd rfl T.g_L_draw (pa_cons (pv 0) (pa_cons pe_int pa_nil))) pe_int (nomark _)) (pss_one (ps_ret (pe_tup (pa_cons pe_str (pa_cons (callP tk C_L_number hr gd rfl T.g_L_number (pa_cons (pv 0) pa_nil)) pa_nil))))) pss_nil) (pss_one (ps_ret (pe_tup (pa_cons pe_str (pa_cons (pe_ix ix_seq (pv 1) (callP tk C_L_draw hr gd rfl T.g_L_draw (pa_cons (pv 0) (pa_cons (pe_callB call_len (by rfl) T.b_len (by decide +kernel) (pa_cons (pv 1) pa_nil)) pa_nil))) (fun _ _ => rfl)) pa_nil)))))) pss_nil) (pss_cons (ps_if (pt_cmpR op_lt (pv 3) pe_int (nomark _)) (pss_one (ps_ret (pe_tup (pa_cons pe_str (pa_cons (callP tk C_L_sum hr gd rfl T.g_L_sum (pa_cons (pv 0) (pa_cons (pv 1) (pa_cons (pe_op op_sub (pv 2) pe_int) pa_nil)))) pa_nil))))) pss_nil) (pss_cons (ps_set (i := 4) nd rfl (Or.inl rfl) (pe_ix ix_seq (pe_lst (pa_cons pe_str (pa_cons pe_str (pa_cons pe_str (pa_cons pe_str (pa_cons pe_str pa_nil)))))) (pe_op op_modN (pv 3) pe_int) (fun _ _ => rfl))) (pss_one (ps_ret (pe_tup (pa_cons (pv 4) (pa_cons (callP tk C_L_sum hr gd rfl T.g_L_sum (pa_cons (pv 0) (pa_cons (pv 1) (pa_cons (pe_op op_sub (pv 2) pe_int) pa_nil)))) (pa_cons (callP tk C_L_sum hr gd rfl T.g_L_sum (pa_cons (pv 0) (pa_cons (pv 1) (pa_cons (pe_op op_sub (pv 2) pe_int) pa_nil)))) pa_nil))))))))))
theorem pk_L_truth {P : Program} {w : World} {K : Frag} {mg : Str → Option Value} {base : Heap} {k : Nat} (T : Tx K mg) (s_L_truth : SpD) (C_L_draw : Pk P w K mg base k ("_law_draw", none) ["_law_stream", "_law_many"] (sp_L_draw K)) (C_L_sum : Pk P w K mg base k ("_law_sum", none) ["_law_stream", "_law_names_here", "_law_depth"] (sp_L_sum K)) (C_L_truth : Pk P w K mg base k ("_law_truth", none) ["_law_stream", "_law_names_here", "_law_depth"] s_L_truth) {sp : SpD} (len : ∀ ds γ q e, sp ds γ q e → ds.length = 3) (h : DL_L_truth K s_L_truth sp)
    (F : ∃ fd, FunD K d_L_truth.name d_L_truth.qual d_L_truth.params d_L_truth.body d_L_truth.scope (d_L_truth.dvs K) (d_L_truth.kws K) (He.fAd K d_L_truth.at_) fd) : Pk P w K mg base (k + 1) ("_law_truth", none) ["_law_stream", "_law_names_here", "_law_depth"] sp := by
  obtain ⟨fd, F⟩ := F
  have nd := sc_L_truth.nd
  refine ⟨fd, fn_dl F sc_L_truth (t_L_truth K s_L_truth) len (fun cdv A outer s H E hr gd tk po => ?_) h, F.kp, F.bindsN fun _ _ _ _ _ _ us hl => match us, hl with | [_, _, _], _ => rfl⟩
  have hu := huD hr
  exact (pss_cons (ps_set (i := 3) nd rfl (Or.inl rfl) (callP tk C_L_draw hr gd rfl T.g_L_draw (pa_cons (pv 0) (pa_cons pe_int pa_nil)))) (pss_cons (ps_if (PW.pt (pw_or (pt_cmpR (op_eqG hr.units) (pv 2) pe_int (nomark _)) (pw_or1 (pt_cmpR op_lt (pv 3) pe_int (nomark _))))) (pss_cons (ps_set (i := 4) nd rfl (Or.inl rfl) (pe_ix ix_seq (pe_bm PySem.F.plainAttrs_str PySem.F.slot_str_split PySem.F.type_str_split mt_split pe_str (pa_cons pe_str pa_nil)) (callP tk C_L_draw hr gd rfl T.g_L_draw (pa_cons (pv 0) (pa_cons pe_int pa_nil))) (fun _ _ => rfl))) (pss_cons (ps_set (i := 5) nd rfl (Or.inl rfl) (callP tk C_L_sum hr gd rfl T.g_L_sum (pa_cons (pv 0) (pa_cons (pv 1) (pa_cons (callP tk C_L_draw hr gd rfl T.g_L_draw (pa_cons (pv 0) (pa_cons pe_int pa_nil))) pa_nil))))) (pss_one (ps_ret (pe_tup (pa_cons (pv 4) (pa_cons (pv 5) (pa_cons (callP tk C_L_sum hr gd rfl T.g_L_sum (pa_cons (pv 0) (pa_cons (pv 1) (pa_cons (callP tk C_L_draw hr gd rfl T.g_L_draw (pa_cons (pv 0) (pa_cons pe_int pa_nil))) pa_nil)))) pa_nil)))))))) pss_nil) (pss_cons (ps_if (pt_cmpR (op_eqG hr.units) (pv 3) pe_int (nomark _)) (pss_one (ps_ret (pe_tup (pa_cons pe_str (pa_cons (callP tk C_L_truth hr gd rfl T.g_L_truth (pa_cons (pv 0) (pa_cons (pv 1) (pa_cons (pe_op op_sub (pv 2) pe_int) pa_nil)))) pa_nil))))) pss_nil) (pss_cons (ps_set (i := 6) nd rfl (Or.inl rfl) (pe_ix ix_seq (pe_lst (pa_cons pe_str (pa_cons pe_str pa_nil))) (pe_op op_modN (pv 3) pe_int) (fun _ _ => rfl))) (pss_one (ps_ret (pe_tup (pa_cons (pv 6) (pa_cons (callP tk C_L_truth hr gd rfl T.g_L_truth (pa_cons (pv 0) (pa_cons (pv 1) (pa_cons (pe_op op_sub (pv 2) pe_int) pa_nil)))) (pa_cons (callP tk C_L_truth hr gd rfl T.g_L_truth (pa_cons (pv 0) (pa_cons (pv 1) (pa_cons (pe_op op_sub (pv 2) pe_int) pa_nil)))) pa_nil))))))))))
theorem pk_L_rank {P : Program} {w : World} {K : Frag} {mg : Str → Option Value} {base : Heap} {k : Nat} (T : Tx K mg) {sp : SpD} (len : ∀ ds γ q e, sp ds γ q e → ds.length = 1) (h : DL_L_rank K sp)
    (F : ∃ fd, FunD K d_L_rank.name d_L_rank.qual d_L_rank.params d_L_rank.body d_L_rank.scope (d_L_rank.dvs K) (d_L_rank.kws K) (He.fAd K d_L_rank.at_) fd) : Pk P w K mg base (k + 1) ("_law_rank", none) ["_law_word"] sp := by
  obtain ⟨fd, F⟩ := F
  have nd := sc_L_rank.nd
  refine ⟨fd, fn_dl F sc_L_rank (t_L_rank K) len (fun cdv A outer s H E hr gd tk po => ?_) h, F.kp, F.bindsN fun _ _ _ _ _ _ us hl => match us, hl with | [_], _ => rfl⟩
  have hu := huD hr
  exact (pss_one (ps_ret (pe_dget2 hu (pe_disp (pps_cons pe_str pe_int (pps_cons pe_str pe_int (pps_cons pe_str pe_int (pps_cons pe_str pe_int (pps_cons pe_str pe_int (pps_cons pe_str pe_int (pps_cons pe_str pe_int pps_nil))))))) (by rfl) (by rfl) (fun z => by cases z) (by decide)) (pv 0) pe_int ⟨rfl, by rfl, rfl, rfl⟩)))
theorem pk_L_canonical {P : Program} {w : World} {K : Frag} {mg : Str → Option Value} {base : Heap} {k : Nat} (T : Tx K mg) (s_L_canonical : SpD) (C_L_rank : Pk P w K mg base k ("_law_rank", none) ["_law_word"] (sp_L_rank K)) (C_L_canonical : Pk P w K mg base k ("_law_canonical", none) ["_law_node", "_law_least"] s_L_canonical) {sp : SpD} (len : ∀ ds γ q e, sp ds γ q e → ds.length = 2) (h : DL_L_canonical K s_L_canonical sp)
    (F : ∃ fd, FunD K d_L_canonical.name d_L_canonical.qual d_L_canonical.params d_L_canonical.body d_L_canonical.scope (d_L_canonical.dvs K) (d_L_canonical.kws K) (He.fAd K d_L_canonical.at_) fd) : Pk P w K mg base (k + 1) ("_law_canonical", none) ["_law_node", "_law_least"] sp := by
  obtain ⟨fd, F⟩ := F
  have nd := sc_L_canonical.nd
  refine ⟨fd, fn_dl F sc_L_canonical (t_L_canonical K s_L_canonical) len (fun cdv A outer s H E hr gd tk po => ?_) h, F.kp, F.bindsN fun _ _ _ _ _ _ us hl => match us, hl with | [_, _], _ => rfl⟩
  have hu := huD hr
  exact (pss_cons (ps_set (i := 2) nd rfl (Or.inl rfl) (pe_ix ix_seq (pv 0) pe_int (fun _ _ => rfl))) (pss_cons (ps_set (i := 3) nd rfl (Or.inl rfl) (callP tk C_L_rank hr gd rfl T.g_L_rank (pa_cons (pv 2) pa_nil))) (pss_cons (ps_if (pt_cmpR (op_inG (hu65 hr)) (pv 2) (pe_tup (pa_cons pe_str (pa_cons pe_str pa_nil))) (by rfl)) (pss_one (ps_set (i := 4) nd rfl (Or.inl rfl) (pe_callTy call_strG (by rfl) T.b_str (by decide +kernel) (pa_cons (pe_ix ix_seq (pv 0) pe_int (fun _ _ => rfl)) pa_nil)))) (pss_one (ps_if (pt_cmpR (op_inG (hu65 hr)) (pv 2) (pe_tup (pa_cons pe_str (pa_cons pe_str pa_nil))) (by rfl)) (pss_one (ps_set (i := 4) nd rfl (Or.inl rfl) (pe_op op_addG (pe_ix ix_seq (pe_lst (pa_cons pe_str (pa_cons pe_str pa_nil))) (pe_callTy call_intG (by rfl) T.b_int (by decide +kernel) (pa_cons (pe_cmpR (op_eqG hr.units) (pv 2) pe_str (nomark _)) pa_nil)) (fun _ _ => rfl)) (callP tk C_L_canonical hr gd rfl T.g_L_canonical (pa_cons (pe_ix ix_seq (pv 0) pe_int (fun _ _ => rfl)) (pa_cons pe_int pa_nil)))))) (pss_one (ps_if (pt_cmpR (op_inG (hu65 hr)) (pv 2) (pe_bm PySem.F.plainAttrs_str PySem.F.slot_str_split PySem.F.type_str_split mt_split pe_str (pa_cons pe_str pa_nil)) (by rfl)) (pss_one (ps_set (i := 4) nd rfl (Or.inl rfl) (pe_bm PySem.F.plainAttrs_str PySem.F.slot_str_join PySem.F.type_str_join mt_join pe_str (pa_cons (pe_lst (pa_cons (callP tk C_L_canonical hr gd rfl T.g_L_canonical (pa_cons (pe_ix ix_seq (pv 0) pe_int (fun _ _ => rfl)) (pa_cons pe_int pa_nil))) (pa_cons (pv 2) (pa_cons (callP tk C_L_canonical hr gd rfl T.g_L_canonical (pa_cons (pe_ix ix_seq (pv 0) pe_int (fun _ _ => rfl)) (pa_cons pe_int pa_nil))) pa_nil)))) pa_nil)))) (pss_one (ps_set (i := 4) nd rfl (Or.inl rfl) (pe_bm PySem.F.plainAttrs_str PySem.F.slot_str_join PySem.F.type_str_join mt_join pe_str (pa_cons (pe_lst (pa_cons (callP tk C_L_canonical hr gd rfl T.g_L_canonical (pa_cons (pe_ix ix_seq (pv 0) pe_int (fun _ _ => rfl)) (pa_cons (pv 3) pa_nil))) (pa_cons (pv 2) (pa_cons (callP tk C_L_canonical hr gd rfl T.g_L_canonical (pa_cons (pe_ix ix_seq (pv 0) pe_int (fun _ _ => rfl)) (pa_cons (pe_op op_addG (pv 3) pe_int) pa_nil))) pa_nil)))) pa_nil))))))))) (pss_cons (ps_set (i := 5) nd rfl (Or.inl rfl) (pe_ix ix_seq (pe_lst (pa_cons pe_str (pa_cons pe_str pa_nil))) (pe_callTy call_intG (by rfl) T.b_int (by decide +kernel) (pa_cons (pe_cmpR (op_inG (hu65 hr)) (pv 2) (pe_tup (pa_cons pe_str (pa_cons pe_str pa_nil))) (by rfl)) pa_nil)) (fun _ _ => rfl))) (pss_one (ps_ret (pe_ifExp (pt_cmpR op_lt (pv 3) (pv 1) (nomark _)) (pe_op op_addG (pe_op op_addG (pe_ix ix_seq (pv 5) pe_int (fun _ _ => rfl)) (pv 4)) (pe_ix ix_seq (pv 5) pe_int (fun _ _ => rfl))) (pv 4))))))))
theorem pk_L_is_within {P : Program} {w : World} {K : Frag} {mg : Str → Option Value} {base : Heap} {k : Nat} (T : Tx K mg) {sp : SpD} (len : ∀ ds γ q e, sp ds γ q e → ds.length = 1) (h : DL_L_is_within K sp)
    (F : ∃ fd, FunD K d_L_is_within.name d_L_is_within.qual d_L_is_within.params d_L_is_within.body d_L_is_within.scope (d_L_is_within.dvs K) (d_L_is_within.kws K) (He.fAd K d_L_is_within.at_) fd) : Pk P w K mg base (k + 1) ("_law_is_within", none) ["_law_text"] sp := by
  obtain ⟨fd, F⟩ := F
  have nd := sc_L_is_within.nd
  refine ⟨fd, fn_dl F sc_L_is_within (t_L_is_within K) len (fun cdv A outer s H E hr gd tk po => ?_) h, F.kp, F.bindsN fun _ _ _ _ _ _ us hl => match us, hl with | [_], _ => rfl⟩
  have hu := huD hr
  exact (pss_one (ps_ret (pe_and (pe_cmpR op_le (pe_callB call_len (by rfl) T.b_len (by decide +kernel) (pa_cons (pv 0) pa_nil)) pe_int (nomark _)) (pe_one (pe_cmpR op_le (pe_callB (cr_max rfl) (by rfl) T.b_max (by decide +kernel) (pa_cons (pe_lc (own := [("_law_sign", 1)]) (g := (gName 1)) (tt := tYes) rfl nd (pi_tup (pe_tup (pa_cons pe_str (pa_cons pe_str (pa_cons pe_str (pa_cons pe_str pa_nil)))))) (blkOk_by (own := [("_law_sign", 1)]) (N := N_L_is_within) (sc := defScope (top 40)) (by decide +kernel)) (fun _ _ _ _ _ => (pg_name (i := 1) nd rfl (Or.inl rfl))) (fun _ _ _ _ _ => pts_nil) (fun _ _ _ _ _ => (pe_bm PySem.F.plainAttrs_str PySem.F.slot_str_count PySem.F.type_str_count mt_count (pv 0) (pa_cons (pv 1) pa_nil)))) pa_nil)) pe_int (nomark _))))))
theorem pk_L_listed {P : Program} {w : World} {K : Frag} {mg : Str → Option Value} {base : Heap} {k : Nat} (T : Tx K mg) (s_L_listed : SpD) (C_L_listed : Pk P w K mg base k ("_law_listed", none) ["_law_node"] s_L_listed) {sp : SpD} (len : ∀ ds γ q e, sp ds γ q e → ds.length = 1) (h : DL_L_listed K s_L_listed sp)
    (F : ∃ fd, FunD K d_L_listed.name d_L_listed.qual d_L_listed.params d_L_listed.body d_L_listed.scope (d_L_listed.dvs K) (d_L_listed.kws K) (He.fAd K d_L_listed.at_) fd) : Pk P w K mg base (k + 1) ("_law_listed", none) ["_law_node"] sp := by
  obtain ⟨fd, F⟩ := F
  have nd := sc_L_listed.nd
  refine ⟨fd, fn_dl F sc_L_listed (t_L_listed K s_L_listed) len (fun cdv A outer s H E hr gd tk po => ?_) h, F.kp, F.bindsN fun _ _ _ _ _ _ us hl => match us, hl with | [_], _ => rfl⟩
  have hu := huD hr
  exact (pss_one (ps_ret (pe_ifExp (pt_val (pe_callB call_isi (by rfl) T.b_isinstance (by decide +kernel) (pa_cons (pv 0) (pa_cons (pe_bltn (by rfl) T.b_tuple (by decide +kernel) rfl) pa_nil)))) (pe_lc (own := [("_law_part", 1)]) (g := (gName 1)) (tt := tYes) rfl nd (pi_tup (pv 0)) (blkOk_by (own := [("_law_part", 1)]) (N := N_L_listed) (sc := defScope (top 41)) (by decide +kernel)) (fun _ _ _ _ _ => (pg_name (i := 1) nd rfl (Or.inl rfl))) (fun _ _ _ _ _ => pts_nil) (fun _ _ _ _ _ => (callP L2.takes0 C_L_listed hr gd rfl T.g_L_listed (pa_cons (pv 1) pa_nil)))) (pv 0))))
theorem pk_L_pairs {P : Program} {w : World} {K : Frag} {mg : Str → Option Value} {base : Heap} {k : Nat} (T : Tx K mg) (C_L_draw : Pk P w K mg base k ("_law_draw", none) ["_law_stream", "_law_many"] (sp_L_draw K)) {sp : SpD} (len : ∀ ds γ q e, sp ds γ q e → ds.length = 2) (h : DL_L_pairs K sp)
    (F : ∃ fd, FunD K d_L_pairs.name d_L_pairs.qual d_L_pairs.params d_L_pairs.body d_L_pairs.scope (d_L_pairs.dvs K) (d_L_pairs.kws K) (He.fAd K d_L_pairs.at_) fd) : Pk P w K mg base (k + 1) ("_law_pairs", none) ["_law_stream", "_law_names_here"] sp := by
  obtain ⟨fd, F⟩ := F
  have nd := sc_L_pairs.nd
  refine ⟨fd, fn_dl F sc_L_pairs (t_L_pairs K) len (fun cdv A outer s H E hr gd tk po => ?_) h, F.kp, F.bindsN fun _ _ _ _ _ _ us hl => match us, hl with | [_, _], _ => rfl⟩
  have hu := huD hr
  exact (pss_cons (ps_set (i := 2) nd rfl (Or.inl rfl) pe_dnewK) (pss_cons (ps_set (i := 3) nd rfl (Or.inl rfl) (pe_lst pa_nil)) (pss_cons (ps_for po rfl (pi_list (pv 1)) (pg_name (i := 4) nd rfl (Or.inl rfl)) (pss_one (ps_if (pt_cmpR op_gt (callP tk C_L_draw hr gd rfl T.g_L_draw (pa_cons (pv 0) (pa_cons pe_int pa_nil))) pe_int (nomark _)) (pss_cons (ps_set (i := 5) nd rfl (Or.inl rfl) (pe_lst (pa_cons pe_int (pa_cons pe_int (pa_cons (pe_un un_neg pe_int) (pa_cons pe_int (pa_cons (pe_un un_neg pe_int) (pa_cons pe_int (pa_cons (pe_op op_pow pe_int pe_int) (pa_cons (pe_un un_neg (pe_op op_pow pe_int pe_int)) (pa_cons (pe_op op_sub (pe_op op_pow pe_int pe_int) pe_int) (pa_cons (pe_op op_sub pe_int (pe_op op_pow pe_int pe_int)) (pa_cons (callP tk C_L_draw hr gd rfl T.g_L_draw (pa_cons (pv 0) (pa_cons pe_int pa_nil))) pa_nil))))))))))))) (pss_cons (ps_dput hu (pv 2) (pv 4) (pe_ix ix_seq (pv 5) (callP tk C_L_draw hr gd rfl T.g_L_draw (pa_cons (pv 0) (pa_cons pe_int pa_nil))) (fun _ _ => rfl)) rfl) (pss_cons (ps_set (i := 6) nd rfl (Or.inl rfl) (pe_ix ix_seq (pe_lst (pa_cons (pe_tup (pa_cons (pv 4) (pa_cons (pe_dget hu (pv 2) (pv 4) (fun _ _ => rfl)) pa_nil))) (pa_cons (pe_lst (pa_cons (pv 4) (pa_cons (pe_dget hu (pv 2) (pv 4) (fun _ _ => rfl)) pa_nil))) pa_nil))) (callP tk C_L_draw hr gd rfl T.g_L_draw (pa_cons (pv 0) (pa_cons pe_int pa_nil))) (fun _ _ => rfl))) (pss_one (ps_expr (pe_bm PySem.F.plainAttrs_list PySem.F.slot_list_insert PySem.F.type_list_insert mt_insertG (pv 3) (pa_cons (callP tk C_L_draw hr gd rfl T.g_L_draw (pa_cons (pv 0) (pa_cons (pe_op op_addG (pe_callB call_len (by rfl) T.b_len (by decide +kernel) (pa_cons (pv 3) pa_nil)) pe_int) pa_nil))) (pa_cons (pv 6) pa_nil)))))))) pss_nil))) (pss_one (ps_ret (pe_lst (pa_cons (pv 3) (pa_cons (pv 2) pa_nil))))))))
theorem pk_L_calculated {P : Program} {w : World} {K : Frag} {mg : Str → Option Value} {base : Heap} {k : Nat} (T : Tx K mg) {sp : SpD} (len : ∀ ds γ q e, sp ds γ q e → ds.length = 3) (h : DL_L_calculated K sp)
    (F : ∃ fd, FunD K d_L_calculated.name d_L_calculated.qual d_L_calculated.params d_L_calculated.body d_L_calculated.scope (d_L_calculated.dvs K) (d_L_calculated.kws K) (He.fAd K d_L_calculated.at_) fd) : Pk P w K mg base (k + 1) ("_law_calculated", none) ["_law_word", "_law_left", "_law_right"] sp := by
  obtain ⟨fd, F⟩ := F
  have nd := sc_L_calculated.nd
  refine ⟨fd, fn_dl F sc_L_calculated (t_L_calculated K) len (fun cdv A outer s H E hr gd tk po => ?_) h, F.kp, F.bindsN fun _ _ _ _ _ _ us hl => match us, hl with | [_, _, _], _ => rfl⟩
  have hu := huD hr
  exact (pss_cons (ps_if (pt_cmpR (op_inG (hu65 hr)) (pv 0) (pe_tup (pa_cons pe_str (pa_cons pe_str pa_nil))) (by rfl)) (pss_cons (ps_if (pt_cmpR (op_eqG hr.units) (pv 2) pe_int (nomark _)) (pss_one (ps_ret (pe_tup (pa_cons pe_str pa_nil)))) pss_nil) (pss_cons (ps_set (i := 3) nd rfl (Or.inl rfl) (pe_op op_mulG (pe_op op_fdivA (pe_callB call_abs (by rfl) T.b_abs (by decide +kernel) (pa_cons (pv 1) pa_nil)) (pe_callB call_abs (by rfl) T.b_abs (by decide +kernel) (pa_cons (pv 2) pa_nil))) (pe_ix ix_seq (pe_lst (pa_cons pe_int (pa_cons (pe_un un_neg pe_int) pa_nil))) (pe_callTy call_intG (by rfl) T.b_int (by decide +kernel) (pa_cons (pe_cmpR (op_neG hr.units) (pe_cmpR op_lt (pv 1) pe_int (nomark _)) (pe_cmpR op_lt (pv 2) pe_int (nomark _)) (nomark _)) pa_nil)) (fun _ _ => rfl)))) (pss_cons (ps_set (i := 3) nd rfl (Or.inl rfl) (pe_op op_sub (pv 3) (pe_callTy call_intG (by rfl) T.b_int (by decide +kernel) (pa_cons (pe_and (pe_cmpR (op_neG hr.units) (pe_op op_mulG (pv 3) (pv 2)) (pv 1) (nomark _)) (pe_one (pe_cmpR (op_neG hr.units) (pe_cmpR op_lt (pv 1) pe_int (nomark _)) (pe_cmpR op_lt (pv 2) pe_int (nomark _)) (nomark _)))) pa_nil)))) (pss_one (ps_ret (pe_ifExp (pt_cmpR (op_eqG hr.units) (pv 0) pe_str (nomark _)) (pv 3) (pe_op op_sub (pv 1) (pe_op op_mulG (pv 3) (pv 2))))))))) pss_nil) (pss_cons (ps_set (i := 4) nd rfl (Or.inl rfl) (pe_ifExp (pt_cmpR (op_eqG hr.units) (pv 0) pe_str (nomark _)) (pe_op op_mulG (pv 1) (pv 2)) (pe_op op_addG (pv 1) (pe_ix ix_seq (pe_lst (pa_cons (pv 2) (pa_cons (pe_op op_sub pe_int (pv 2)) pa_nil))) (pe_callTy call_intG (by rfl) T.b_int (by decide +kernel) (pa_cons (pe_cmpR (op_eqG hr.units) (pv 0) pe_str (nomark _)) pa_nil)) (fun _ _ => rfl))))) (pss_one (ps_ret (pe_ifExp (pt_cmpR op_lt (pe_callB call_len (by rfl) T.b_len (by decide +kernel) (pa_cons (pe_callTy call_strG (by rfl) T.b_str (by decide +kernel) (pa_cons (pe_callB call_abs (by rfl) T.b_abs (by decide +kernel) (pa_cons (pv 4) pa_nil)) pa_nil)) pa_nil)) pe_int (nomark _)) (pv 4) (pe_tup (pa_cons pe_str pa_nil)))))))
theorem pk_L_value {P : Program} {w : World} {K : Frag} {mg : Str → Option Value} {base : Heap} {k : Nat} (T : Tx K mg) (s_L_value : SpD) (C_L_value : Pk P w K mg base k ("_law_value", none) ["_law_node", "_law_known"] s_L_value) (C_L_calculated : Pk P w K mg base k ("_law_calculated", none) ["_law_word", "_law_left", "_law_right"] (sp_L_calculated K)) {sp : SpD} (len : ∀ ds γ q e, sp ds γ q e → ds.length = 2) (h : DL_L_value K s_L_value sp)
    (F : ∃ fd, FunD K d_L_value.name d_L_value.qual d_L_value.params d_L_value.body d_L_value.scope (d_L_value.dvs K) (d_L_value.kws K) (He.fAd K d_L_value.at_) fd) : Pk P w K mg base (k + 1) ("_law_value", none) ["_law_node", "_law_known"] sp := by
  obtain ⟨fd, F⟩ := F
  have nd := sc_L_value.nd
  refine ⟨fd, fn_dl F sc_L_value (t_L_value K s_L_value) len (fun cdv A outer s H E hr gd tk po => ?_) h, F.kp, F.bindsN fun _ _ _ _ _ _ us hl => match us, hl with | [_, _], _ => rfl⟩
  have hu := huD hr
  exact (pss_cons (ps_set (i := 2) nd rfl (Or.inl rfl) (pe_ix ix_seq (pv 0) pe_int (fun _ _ => rfl))) (pss_cons (ps_if (pt_cmpR (op_inG (hu65 hr)) (pv 2) (pe_tup (pa_cons pe_str (pa_cons pe_str pa_nil))) (by rfl)) (pss_one (ps_ret (pe_ifExp (pt_cmpR (op_eqG hr.units) (pv 2) pe_str (nomark _)) (pe_ix ix_seq (pv 0) pe_int (fun _ _ => rfl)) (pe_dget2 hu (pv 1) (pe_ix ix_seq (pv 0) pe_int (fun _ _ => rfl)) pe_int ⟨rfl, by rfl, rfl, rfl⟩)))) pss_nil) (pss_cons (ps_set (i := 3) nd rfl (Or.inl rfl) (pe_lst pa_nil)) (pss_cons (ps_for po rfl (pi_tup (pe_slice sl_G (pv 0) (po_some pe_int) po_none)) (pg_name (i := 4) nd rfl (Or.inl rfl)) (pss_cons (ps_set (i := 5) nd rfl (Or.inl rfl) (callP tk C_L_value hr gd rfl T.g_L_value (pa_cons (pv 4) (pa_cons (pv 1) pa_nil)))) (pss_cons (ps_if (pt_val (pe_callB call_isi (by rfl) T.b_isinstance (by decide +kernel) (pa_cons (pv 5) (pa_cons (pe_bltn (by rfl) T.b_tuple (by decide +kernel) rfl) pa_nil)))) (pss_one (ps_ret (pv 5))) pss_nil) (pss_one (ps_expr (pe_bm PySem.F.plainAttrs_list PySem.F.slot_list_append PySem.F.type_list_append mt_append (pv 3) (pa_cons (pv 5) pa_nil))))))) (pss_cons (ps_if (pt_cmpR (op_inG (hu65 hr)) (pv 2) (pe_tup (pa_cons pe_str (pa_cons pe_str pa_nil))) (by rfl)) (pss_one (ps_ret (pe_ifExp (pt_cmpR (op_eqG hr.units) (pv 2) pe_str (nomark _)) (pe_op op_sub pe_int (pe_ix ix_seq (pv 3) pe_int (fun _ _ => rfl))) (pe_cmpR op_isT (pe_ix ix_seq (pv 3) pe_int (fun _ _ => rfl)) pe_bl (nomark _))))) pss_nil) (pss_cons (ps_asg (pv 3) (pg_unl rfl (pgs_cons (pg_name (i := 6) nd rfl (Or.inl rfl)) (pgs_cons (pg_name (i := 7) nd rfl (Or.inl rfl)) pgs_nil)))) (pss_cons (ps_if (pt_cmpR (op_inG (hu65 hr)) (pv 2) (pe_tup (pa_cons pe_str (pa_cons pe_str (pa_cons pe_str (pa_cons pe_str (pa_cons pe_str pa_nil)))))) (by rfl)) (pss_one (ps_ret (callP tk C_L_calculated hr gd rfl T.g_L_calculated (pa_cons (pv 2) (pa_cons (pv 6) (pa_cons (pv 7) pa_nil)))))) pss_nil) (pss_cons (ps_set (i := 8) nd rfl (Or.inl rfl) (pe_disp (pps_cons pe_str (pe_andT (pv 6) (pe_one (pv 7))) (pps_cons pe_str (pe_orT (pv 6) (pe_one (pv 7))) (pps_cons pe_str (pe_cmpR (op_eqG hr.units) (pv 6) (pv 7) (nomark _)) (pps_cons pe_str (pe_cmpR (op_neG hr.units) (pv 6) (pv 7) (nomark _)) pps_nil)))) (by rfl) (by rfl) (fun z => by cases z) (by decide))) (pss_cons (ps_expr (pe_bm PySem.F.plainAttrs_dict PySem.F.slot_dict_update PySem.F.type_dict_update mt_update (pv 8) (pa_cons (pe_disp (pps_cons pe_str (pe_cmpR op_ltG (pv 6) (pv 7) (nomark _)) (pps_cons pe_str (pe_cmpR op_leG (pv 6) (pv 7) (nomark _)) (pps_cons pe_str (pe_cmpR op_gtG (pv 6) (pv 7) (nomark _)) (pps_cons pe_str (pe_cmpR op_geG (pv 6) (pv 7) (nomark _)) pps_nil)))) (by rfl) (by rfl) (fun z => by cases z) (by decide)) pa_nil))) (pss_one (ps_ret (pe_dget hu (pv 8) (pv 2) (fun _ _ => rfl)))))))))))))
theorem pk_L_evaluated {P : Program} {w : World} {K : Frag} {mg : Str → Option Value} {base : Heap} {k : Nat} (T : Tx K mg) (C_evaluate : Pk P w K mg base k ("evaluate", none) ["node", "values"] (sp_evaluate K)) {sp : SpD} (len : ∀ ds γ q e, sp ds γ q e → ds.length = 2) (h : DL_L_evaluated K sp)
    (F : ∃ fd, FunD K d_L_evaluated.name d_L_evaluated.qual d_L_evaluated.params d_L_evaluated.body d_L_evaluated.scope (d_L_evaluated.dvs K) (d_L_evaluated.kws K) (He.fAd K d_L_evaluated.at_) fd) : Pk P w K mg base (k + 1) ("_law_evaluated", none) ["_law_node", "_law_values"] sp := by
  obtain ⟨fd, F⟩ := F
  have nd := sc_L_evaluated.nd
  refine ⟨fd, fn_dl F sc_L_evaluated (t_L_evaluated K) len (fun cdv A outer s H E hr gd tk po => ?_) h, F.kp, F.bindsN fun _ _ _ _ _ _ us hl => match us, hl with | [_, _], _ => rfl⟩
  have hu := huD hr
  exact (pss_cons (ps_set (i := 2) nd rfl (Or.inl rfl) pe_non) (pss_cons (ps_tryAsD (i := 3) rfl rfl nd rfl rfl ⟨by rfl, by decide, .inl T.g_Fault⟩ tk (fun W' pn xe tk' po' => (pss_one (ps_set (i := 2) nd rfl (Or.inl rfl) (callP tk' C_evaluate hr gd rfl T.g_evaluate (pa_cons (pv 0) (pa_cons (pv 1) pa_nil)))))) (fun a oe cls d pn hz hf => (pss_one (ps_set (i := 2) nd rfl (Or.inl rfl) (pe_tup (pa_cons (pe_xfG hz hf (pv 3)) pa_nil)))))) (pss_one (ps_ret (pv 2)))))
theorem pk_L_same {P : Program} {w : World} {K : Frag} {mg : Str → Option Value} {base : Heap} {k : Nat} (T : Tx K mg) {sp : SpD} (len : ∀ ds γ q e, sp ds γ q e → ds.length = 2) (h : DL_L_same K sp)
    (F : ∃ fd, FunD K d_L_same.name d_L_same.qual d_L_same.params d_L_same.body d_L_same.scope (d_L_same.dvs K) (d_L_same.kws K) (He.fAd K d_L_same.at_) fd) : Pk P w K mg base (k + 1) ("_law_same", none) ["_law_found", "_law_due"] sp := by
  obtain ⟨fd, F⟩ := F
  have nd := sc_L_same.nd
  refine ⟨fd, fn_dl F sc_L_same (t_L_same K) len (fun cdv A outer s H E hr gd tk po => ?_) h, F.kp, F.bindsN fun _ _ _ _ _ _ us hl => match us, hl with | [_, _], _ => rfl⟩
  have hu := huD hr
  exact (pss_one (ps_ret (pe_and (pe_cmpR (op_eqG hr.units) (pe_callB call_isi (by rfl) T.b_isinstance (by decide +kernel) (pa_cons (pv 0) (pa_cons (pe_bltn (by rfl) T.b_bool (by decide +kernel) rfl) pa_nil))) (pe_callB call_isi (by rfl) T.b_isinstance (by decide +kernel) (pa_cons (pv 1) (pa_cons (pe_bltn (by rfl) T.b_bool (by decide +kernel) rfl) pa_nil))) (nomark _)) (pe_one (pe_cmpR (op_eqG hr.units) (pv 0) (pv 1) (nomark _))))))
theorem pk_law {P : Program} {w : World} {K : Frag} {mg : Str → Option Value} {base : Heap} {j k : Nat} {fd : FuncData} (T : Tx K mg) (C_L_names : Pk P w K mg base k ("_law_names", none) ["_law_stream", "_law_many"] (sp_L_names K)) (C_L_draw : Pk P w K mg base k ("_law_draw", none) ["_law_stream", "_law_many"] (sp_L_draw K)) (C_L_truth : Pk P w K mg base k ("_law_truth", none) ["_law_stream", "_law_names_here", "_law_depth"] (sp_L_truth K)) (C_L_pairs : Pk P w K mg base k ("_law_pairs", none) ["_law_stream", "_law_names_here"] (sp_L_pairs K)) (C_L_value : Pk P w K mg base k ("_law_value", none) ["_law_node", "_law_known"] (sp_L_value K)) (C_L_listed : Pk P w K mg base k ("_law_listed", none) ["_law_node"] (sp_L_listed K)) (C_L_canonical : Pk P w K mg base k ("_law_canonical", none) ["_law_node", "_law_least"] (sp_L_canonical K)) (C_L_is_within : Pk P w K mg base k ("_law_is_within", none) ["_law_text"] (sp_L_is_within K)) (C_holds : Pk P w K mg base k ("holds", none) ["node", "values"] (sp_holds K)) (C_L_evaluated : Pk P w K mg base k ("_law_evaluated", none) ["_law_node", "_law_values"] (sp_L_evaluated K)) (C_L_same : Pk P w K mg base k ("_law_same", none) ["_law_found", "_law_due"] (sp_L_same K)) (C_parse_condition : Pk P w K mg base k ("parse_condition", none) ["text"] (sp_parse_condition K)) (E_Fault : PkE P w K mg base j "Fault" ["reason"] (sp_frozen K)) (hx : j + 1 ≤ k) (h : DL_law K)
    (F : FunD K d_law.name d_law.qual d_law.params d_law.body d_law.scope (d_law.dvs K) (d_law.kws K) (He.fAd K d_law.at_) fd) : FnG P w K mg base (L2.CX P w) (k + 1) (He.fAd K d_law.at_) fd ["_law_script"] (spLaw K) := by
  have nd := sc_law.nd
  refine fn_law F sc_law (t_law K) (fun cdv A outer s H E hr gd tk po => ?_) h
  have hu := huD hr
  exact (pss_cons (ps_set (i := 1) nd rfl (Or.inl rfl) (pe_lst (pa_cons (pe_callTy call_list_of (by rfl) T.b_list (by decide +kernel) (pa_cons (pv 0) pa_nil)) (pa_cons pe_int (pa_cons pe_int (pa_cons pe_int pa_nil)))))) (pss_cons (ps_for po rfl (pi_range1 (by rfl) T.b_range (pa_cons pe_int pa_nil)) (pg_name (i := 2) nd rfl (Or.inl rfl)) (pss_cons (ps_set (i := 3) nd rfl (Or.inl rfl) (callP tk C_L_names hr gd rfl T.g_L_names (pa_cons (pv 1) (pa_cons pe_int pa_nil)))) (pss_cons (ps_set (i := 4) nd rfl (Or.inl rfl) (callP tk C_L_truth hr gd rfl T.g_L_truth (pa_cons (pv 1) (pa_cons (pv 3) (pa_cons (callP tk C_L_draw hr gd rfl T.g_L_draw (pa_cons (pv 1) (pa_cons pe_int pa_nil))) pa_nil))))) (pss_cons (ps_asg (callP tk C_L_pairs hr gd rfl T.g_L_pairs (pa_cons (pv 1) (pa_cons (pv 3) pa_nil))) (pg_any rfl (pgs_cons (pg_name (i := 5) nd rfl (Or.inl rfl)) (pgs_cons (pg_name (i := 6) nd rfl (Or.inl rfl)) pgs_nil)))) (pss_cons (ps_set (i := 7) nd rfl (Or.inl rfl) (callP tk C_L_value hr gd rfl T.g_L_value (pa_cons (pv 4) (pa_cons (pv 6) pa_nil)))) (pss_cons (ps_set (i := 8) nd rfl (Or.inl rfl) (pe_ix ix_seq (pe_lst (pa_cons (pv 4) (pa_cons (callP tk C_L_listed hr gd rfl T.g_L_listed (pa_cons (pv 4) pa_nil)) pa_nil))) (callP tk C_L_draw hr gd rfl T.g_L_draw (pa_cons (pv 1) (pa_cons pe_int pa_nil))) (fun _ _ => rfl))) (pss_one (ps_if (pt_val (callP tk C_L_is_within hr gd rfl T.g_L_is_within (pa_cons (callP tk C_L_canonical hr gd rfl T.g_L_canonical (pa_cons (pv 4) (pa_cons pe_int pa_nil))) pa_nil))) (pss_cons (ps_set (i := 9) nd rfl (Or.inl rfl) (callP tk C_holds hr gd rfl T.g_holds (pa_cons (pv 8) (pa_cons (pv 5) pa_nil)))) (pss_one (ps_if (PW.pt (pw_or (pt_not (pt_val (callP tk C_L_same hr gd rfl T.g_L_same (pa_cons (callP tk C_L_evaluated hr gd rfl T.g_L_evaluated (pa_cons (pv 8) (pa_cons (pv 5) pa_nil))) (pa_cons (pv 7) pa_nil))))) (pw_or1 (pt_not (pt_val (callP tk C_L_same hr gd rfl T.g_L_same (pa_cons (pv 9) (pa_cons (pe_cmpR op_isT (pv 7) pe_bl (nomark _)) pa_nil)))))))) (pss_one (ps_ret pe_bl)) pss_nil))) pss_nil)))))))) (pss_cons (ps_set (i := 10) nd rfl (Or.inl rfl) pe_str) (pss_cons (ps_if (PW.pt (pw_or (pt_cmpR (op_neG hr.units) (callP tk C_L_evaluated hr gd rfl T.g_L_evaluated (pa_cons (callP tk C_parse_condition hr gd rfl T.g_parse_condition (pa_cons (pv 10) pa_nil)) (pa_cons (pe_tup pa_nil) pa_nil))) (pe_tup (pa_cons pe_str pa_nil)) (nomark _)) (pw_or1 (pt_cmpR op_ntT (callP tk C_holds hr gd rfl T.g_holds (pa_cons (callP tk C_parse_condition hr gd rfl T.g_parse_condition (pa_cons (pv 10) pa_nil)) (pa_cons (pe_tup pa_nil) pa_nil))) pe_bl (nomark _))))) (pss_one (ps_ret pe_bl)) pss_nil) (pss_cons (ps_set (i := 4) nd rfl (Or.inl rfl) (callP tk C_parse_condition hr gd rfl T.g_parse_condition (pa_cons pe_str pa_nil))) (pss_cons (ps_if (PW.pt (pw_or (pt_cmpR (op_neG hr.units) (callP tk C_L_evaluated hr gd rfl T.g_L_evaluated (pa_cons (pv 4) (pa_cons (pe_lst (pa_cons (pe_tup (pa_cons pe_str (pa_cons (pe_op op_pow pe_int pe_int) pa_nil))) pa_nil)) pa_nil))) (pe_tup (pa_cons pe_str pa_nil)) (nomark _)) (pw_or1 (pt_cmpR (op_neG hr.units) (callP tk C_L_evaluated hr gd rfl T.g_L_evaluated (pa_cons (pv 4) (pa_cons (pe_lst (pa_cons (pe_tup (pa_cons pe_str (pa_cons pe_int pa_nil))) pa_nil)) pa_nil))) (pe_tup (pa_cons pe_str pa_nil)) (nomark _))))) (pss_one (ps_ret pe_bl)) pss_nil) (pss_cons (ps_set (i := 11) nd rfl (Or.inl rfl) (mkvP E_Fault hx hr gd (by rfl) T.g_Fault (pa_cons pe_str pa_nil))) (pss_one (ps_ret (pe_and (pe_callB call_isV (by rfl) T.b_isinstance (by decide +kernel) (pa_cons (pv 11) (pa_cons (pe_glob rfl T.g_RerunError rfl) pa_nil))) (pe_and (pe_callB call_isV (by rfl) T.b_isinstance (by decide +kernel) (pa_cons (pv 11) (pa_cons (pe_bltn (by rfl) T.b_ValueError (by decide +kernel) rfl) pa_nil))) (pe_one (pe_cmpR (op_eqG hr.units) (pe_xfv (pv 11)) pe_str (nomark _))))))))))))))
theorem pk_E_BadText {P : Program} {w : World} {K : Frag} {mg : Str → Option Value} {base : Heap} {k : Nat} (T : Tx K mg) (hX : ExcP P K mg "BadText" ["position"] d_E_BadText) (C_frozen : Pk P w K mg base k ("frozen", none) ["thing"] (sp_frozen K)) : PkE P w K mg base (k + 1) "BadText" ["position"] (sp_frozen K) := by
  obtain ⟨cc, c, SI, oc, od, osl, doc, pm, an, ct, lk⟩ := hX.sup
  refine ⟨_, ["self", "position"], fnG_exc (N := ["self", "position", "__class__"]) (ar := ((d_E_BadText.params.posonlyargs ++ d_E_BadText.params.args)[0]'(by decide))) hX.oex SI ⟨_, _, _, lk⟩ (show NdefX.NScope _ _ _ d_E_BadText.scope from NdefX.nscope_by (by decide +kernel)) rfl rfl rfl rfl rfl rfl hX.xok.no (fun A outer s H E hr gd tk => ⟨(pss_one (ps_ost (pv 0) (callP tk C_frozen hr gd (by rfl) T.g_frozen (pa_cons (pv 1) pa_nil)))), (pa_cons (pv 1) pa_nil)⟩), .all fun us hl => match us, hl with | [_, _], _ => rfl, hX.oex, hX.ini, hX.typ⟩
theorem pk_E_Fault {P : Program} {w : World} {K : Frag} {mg : Str → Option Value} {base : Heap} {k : Nat} (T : Tx K mg) (hX : ExcP P K mg "Fault" ["reason"] d_E_Fault) (C_frozen : Pk P w K mg base k ("frozen", none) ["thing"] (sp_frozen K)) : PkE P w K mg base (k + 1) "Fault" ["reason"] (sp_frozen K) := by
  obtain ⟨cc, c, SI, oc, od, osl, doc, pm, an, ct, lk⟩ := hX.sup
  refine ⟨_, ["self", "reason"], fnG_exc (N := ["self", "reason", "__class__"]) (ar := ((d_E_Fault.params.posonlyargs ++ d_E_Fault.params.args)[0]'(by decide))) hX.oex SI ⟨_, _, _, lk⟩ (show NdefX.NScope _ _ _ d_E_Fault.scope from NdefX.nscope_by (by decide +kernel)) rfl rfl rfl rfl rfl rfl hX.xok.no (fun A outer s H E hr gd tk => ⟨(pss_one (ps_ost (pv 0) (callP tk C_frozen hr gd (by rfl) T.g_frozen (pa_cons (pv 1) pa_nil)))), (pa_cons (pv 1) pa_nil)⟩), .all fun us hl => match us, hl with | [_, _], _ => rfl, hX.oex, hX.ini, hX.typ⟩
end K09

set_option Elab.async false
set_option linter.all false
set_option maxRecDepth 100000
set_option maxHeartbeats 4000000
namespace K09
open PySem PySem.Spec PyProof.Rows L2 DL
theorem facts {P : Program} {w : World} {K : Frag} {h : Heap} {mg : Str → Option Value} {f : Addr} (hP : PrgOk P file) (X : K.In h) (G : h.Ns mainGlobals mg) (hfa : mg ("law" : Str) = some (.ref f)) (c : SaysE fa fn ts sd ex w K) :
    ∃ fd : FuncData, (∀ (s : Shared) (v : Value), BindsTo s fd ⟨[v], []⟩ [("_law_script", v)]) ∧ ∀ base : Heap, FnG P w K mg base (L2.CX P w) 320 f fd ["_law_script"] (spLaw K) := by
  have T := tx X G c.t c.more
  have Y := ty c.t c.more
  have Z := te T hP c
  obtain ⟨fd, F⟩ := c.t.d.def_ 41 (d := d_law) rfl
  have e := hfa.symm.trans T.g_law
  cases e
  have b := FunD.bindsA (ps := ["_law_script"]) F fun _ _ _ _ _ _ us hl => match us, hl with | [_], _ => rfl
  refine ⟨fd, fun s v => b s [v] rfl, fun base => ?_⟩
  have R_frozen : ∀ n, Pk P w K mg base (2 + n) ("frozen", none) ["thing"] (spFz K n) := by
    intro n
    induction n with
    | zero => exact pk_frozen (k := 1) T (fun _ _ _ _ => False) ((pk_never (k := 0) (c.t.d.def_ 0 (d := d_frozen) rfl) sc_frozen fun fd F => F.bindsN fun _ _ _ _ _ _ us hl => match us, hl with | [_], _ => rfl).mono (by omega)) (by intro ds γ q e h; first | (obtain ⟨rfl, _⟩ := h; rfl) | (obtain ⟨_, rfl, _⟩ := h; rfl) | (obtain ⟨_, _, rfl, _⟩ := h; rfl) | (obtain ⟨_, _, _, rfl, _⟩ := h; rfl) | (obtain ⟨_, _, _, _, rfl, _⟩ := h; rfl) | (obtain ⟨_, _, _, _, _, rfl, _⟩ := h; rfl) | (obtain ⟨_, _, _, _, _, _, rfl, _⟩ := h; rfl) | (obtain ⟨_, _, _, _, _, _, _, rfl, _⟩ := h; rfl)) (dl_frozen T _ 0 fun dp' h => by cases h) (c.t.d.def_ 0 (d := d_frozen) rfl)
    | succ n ih => exact pk_frozen (k := 2 + n) T (spFz K n) ((ih).mono (by omega)) (by intro ds γ q e h; first | (obtain ⟨rfl, _⟩ := h; rfl) | (obtain ⟨_, rfl, _⟩ := h; rfl) | (obtain ⟨_, _, rfl, _⟩ := h; rfl) | (obtain ⟨_, _, _, rfl, _⟩ := h; rfl) | (obtain ⟨_, _, _, _, rfl, _⟩ := h; rfl) | (obtain ⟨_, _, _, _, _, rfl, _⟩ := h; rfl) | (obtain ⟨_, _, _, _, _, _, rfl, _⟩ := h; rfl) | (obtain ⟨_, _, _, _, _, _, _, rfl, _⟩ := h; rfl)) (dl_frozen T _ (n + 1) fun dp' h ds γ q e hh => by cases h; exact hh) (c.t.d.def_ 0 (d := d_frozen) rfl)
  have C_frozen : Pk P w K mg base (14) ("frozen", none) ["thing"] (sp_frozen K) := (R_frozen 12).mono (by decide)
  have E_BadText : PkE P w K mg base 15 "BadText" ["position"] (sp_frozen K) := pk_E_BadText (k := 14) T Z.x_BadText (C_frozen.mono (by decide))
  have E_Fault : PkE P w K mg base 15 "Fault" ["reason"] (sp_frozen K) := pk_E_Fault (k := 14) T Z.x_Fault (C_frozen.mono (by decide))
  have C_is_name : Pk P w K mg base (1) ("is_name", none) ["thing"] (sp_is_name K) := pk_is_name (k := 0) T (by intro ds γ q e h; first | (obtain ⟨rfl, _⟩ := h; rfl) | (obtain ⟨_, rfl, _⟩ := h; rfl) | (obtain ⟨_, _, rfl, _⟩ := h; rfl) | (obtain ⟨_, _, _, rfl, _⟩ := h; rfl) | (obtain ⟨_, _, _, _, rfl, _⟩ := h; rfl) | (obtain ⟨_, _, _, _, _, rfl, _⟩ := h; rfl) | (obtain ⟨_, _, _, _, _, _, rfl, _⟩ := h; rfl) | (obtain ⟨_, _, _, _, _, _, _, rfl, _⟩ := h; rfl)) (dl_is_name T) (c.t.d.def_ 1 (d := d_is_name) rfl)
  have C_is_number : Pk P w K mg base (1) ("is_number", none) ["text"] (sp_is_number K) := pk_is_number (k := 0) T (by intro ds γ q e h; first | (obtain ⟨rfl, _⟩ := h; rfl) | (obtain ⟨_, rfl, _⟩ := h; rfl) | (obtain ⟨_, _, rfl, _⟩ := h; rfl) | (obtain ⟨_, _, _, rfl, _⟩ := h; rfl) | (obtain ⟨_, _, _, _, rfl, _⟩ := h; rfl) | (obtain ⟨_, _, _, _, _, rfl, _⟩ := h; rfl) | (obtain ⟨_, _, _, _, _, _, rfl, _⟩ := h; rfl) | (obtain ⟨_, _, _, _, _, _, _, rfl, _⟩ := h; rfl)) (dl_is_number T) (c.t.d.def_ 2 (d := d_is_number) rfl)
  have C_end_of_run : Pk P w K mg base (1) ("end_of_run", none) ["text", "start", "signs"] (sp_end_of_run K) := pk_end_of_run (k := 0) T (by intro ds γ q e h; first | (obtain ⟨rfl, _⟩ := h; rfl) | (obtain ⟨_, rfl, _⟩ := h; rfl) | (obtain ⟨_, _, rfl, _⟩ := h; rfl) | (obtain ⟨_, _, _, rfl, _⟩ := h; rfl) | (obtain ⟨_, _, _, _, rfl, _⟩ := h; rfl) | (obtain ⟨_, _, _, _, _, rfl, _⟩ := h; rfl) | (obtain ⟨_, _, _, _, _, _, rfl, _⟩ := h; rfl) | (obtain ⟨_, _, _, _, _, _, _, rfl, _⟩ := h; rfl)) (dl_end_of_run T) (c.t.d.def_ 3 (d := d_end_of_run) rfl)
  have C_token_at : Pk P w K mg base (2) ("token_at", none) ["text", "start"] (sp_token_at K) := pk_token_at (k := 1) T ((C_end_of_run).mono (by decide)) ((C_is_name).mono (by decide)) ((C_is_number).mono (by decide)) (by intro ds γ q e h; first | (obtain ⟨rfl, _⟩ := h; rfl) | (obtain ⟨_, rfl, _⟩ := h; rfl) | (obtain ⟨_, _, rfl, _⟩ := h; rfl) | (obtain ⟨_, _, _, rfl, _⟩ := h; rfl) | (obtain ⟨_, _, _, _, rfl, _⟩ := h; rfl) | (obtain ⟨_, _, _, _, _, rfl, _⟩ := h; rfl) | (obtain ⟨_, _, _, _, _, _, rfl, _⟩ := h; rfl) | (obtain ⟨_, _, _, _, _, _, _, rfl, _⟩ := h; rfl)) (dl_token_at T) (c.t.d.def_ 4 (d := d_token_at) rfl)
  have C_tokens : Pk P w K mg base (3) ("tokens", none) ["text"] (sp_tokens K) := pk_tokens (k := 2) T ((C_end_of_run).mono (by decide)) ((C_token_at).mono (by decide)) (by intro ds γ q e h; first | (obtain ⟨rfl, _⟩ := h; rfl) | (obtain ⟨_, rfl, _⟩ := h; rfl) | (obtain ⟨_, _, rfl, _⟩ := h; rfl) | (obtain ⟨_, _, _, rfl, _⟩ := h; rfl) | (obtain ⟨_, _, _, _, rfl, _⟩ := h; rfl) | (obtain ⟨_, _, _, _, _, rfl, _⟩ := h; rfl) | (obtain ⟨_, _, _, _, _, _, rfl, _⟩ := h; rfl) | (obtain ⟨_, _, _, _, _, _, _, rfl, _⟩ := h; rfl)) (dl_tokens T) (c.t.d.def_ 5 (d := d_tokens) rfl)
  have C_Parser_init : Pk P w K mg base (4) ("Parser", some "__init__") ["self", "text"] (sp_Parser_init K) := pk_Parser_init (k := 3) T ((C_tokens).mono (by decide)) (by intro ds γ q e h; first | (obtain ⟨rfl, _⟩ := h; rfl) | (obtain ⟨_, rfl, _⟩ := h; rfl) | (obtain ⟨_, _, rfl, _⟩ := h; rfl) | (obtain ⟨_, _, _, rfl, _⟩ := h; rfl) | (obtain ⟨_, _, _, _, rfl, _⟩ := h; rfl) | (obtain ⟨_, _, _, _, _, rfl, _⟩ := h; rfl) | (obtain ⟨_, _, _, _, _, _, rfl, _⟩ := h; rfl) | (obtain ⟨_, _, _, _, _, _, _, rfl, _⟩ := h; rfl)) (dl_init T) (c.t.d.def_ 6 (d := d_Parser_init) rfl)
  have C_Parser_sees : Pk P w K mg base (1) ("Parser", some "sees") ["self", "signs"] (sp_Parser_sees K) := pk_Parser_sees (k := 0) T (by intro ds γ q e h; first | (obtain ⟨rfl, _⟩ := h; rfl) | (obtain ⟨_, rfl, _⟩ := h; rfl) | (obtain ⟨_, _, rfl, _⟩ := h; rfl) | (obtain ⟨_, _, _, rfl, _⟩ := h; rfl) | (obtain ⟨_, _, _, _, rfl, _⟩ := h; rfl) | (obtain ⟨_, _, _, _, _, rfl, _⟩ := h; rfl) | (obtain ⟨_, _, _, _, _, _, rfl, _⟩ := h; rfl) | (obtain ⟨_, _, _, _, _, _, _, rfl, _⟩ := h; rfl)) (dl_sees T) (c.t.d.def_ 7 (d := d_Parser_sees) rfl)
  have C_Parser_take : Pk P w K mg base (1) ("Parser", some "take") ["self"] (sp_Parser_take K) := pk_Parser_take (k := 0) T (by intro ds γ q e h; first | (obtain ⟨rfl, _⟩ := h; rfl) | (obtain ⟨_, rfl, _⟩ := h; rfl) | (obtain ⟨_, _, rfl, _⟩ := h; rfl) | (obtain ⟨_, _, _, rfl, _⟩ := h; rfl) | (obtain ⟨_, _, _, _, rfl, _⟩ := h; rfl) | (obtain ⟨_, _, _, _, _, rfl, _⟩ := h; rfl) | (obtain ⟨_, _, _, _, _, _, rfl, _⟩ := h; rfl) | (obtain ⟨_, _, _, _, _, _, _, rfl, _⟩ := h; rfl)) (dl_take T) (c.t.d.def_ 8 (d := d_Parser_take) rfl)
  have C_Parser_refuse : Pk P w K mg base (17) ("Parser", some "refuse") ["self"] (sp_Parser_refuse K) := pk_Parser_refuse (k := 16) (j := 15) T E_BadText (by decide) (by intro ds γ q e h; first | (obtain ⟨rfl, _⟩ := h; rfl) | (obtain ⟨_, rfl, _⟩ := h; rfl) | (obtain ⟨_, _, rfl, _⟩ := h; rfl) | (obtain ⟨_, _, _, rfl, _⟩ := h; rfl) | (obtain ⟨_, _, _, _, rfl, _⟩ := h; rfl) | (obtain ⟨_, _, _, _, _, rfl, _⟩ := h; rfl) | (obtain ⟨_, _, _, _, _, _, rfl, _⟩ := h; rfl) | (obtain ⟨_, _, _, _, _, _, _, rfl, _⟩ := h; rfl)) (dl_refuse T Z) (c.t.d.def_ 9 (d := d_Parser_refuse) rfl)
  have C_Parser_take_sign : Pk P w K mg base (18) ("Parser", some "take_sign") ["self", "signs"] (sp_Parser_take_sign K) := pk_Parser_take_sign (k := 17) T ((C_Parser_sees).mono (by decide)) ((C_Parser_refuse).mono (by decide)) ((C_Parser_take).mono (by decide)) (by intro ds γ q e h; first | (obtain ⟨rfl, _⟩ := h; rfl) | (obtain ⟨_, rfl, _⟩ := h; rfl) | (obtain ⟨_, _, rfl, _⟩ := h; rfl) | (obtain ⟨_, _, _, rfl, _⟩ := h; rfl) | (obtain ⟨_, _, _, _, rfl, _⟩ := h; rfl) | (obtain ⟨_, _, _, _, _, rfl, _⟩ := h; rfl) | (obtain ⟨_, _, _, _, _, _, rfl, _⟩ := h; rfl) | (obtain ⟨_, _, _, _, _, _, _, rfl, _⟩ := h; rfl)) (dl_take_sign T) (c.t.d.def_ 10 (d := d_Parser_take_sign) rfl)
  have C_Parser_finish : Pk P w K mg base (18) ("Parser", some "finish") ["self", "node"] (sp_Parser_finish K) := pk_Parser_finish (k := 17) T ((C_Parser_refuse).mono (by decide)) (by intro ds γ q e h; first | (obtain ⟨rfl, _⟩ := h; rfl) | (obtain ⟨_, rfl, _⟩ := h; rfl) | (obtain ⟨_, _, rfl, _⟩ := h; rfl) | (obtain ⟨_, _, _, rfl, _⟩ := h; rfl) | (obtain ⟨_, _, _, _, rfl, _⟩ := h; rfl) | (obtain ⟨_, _, _, _, _, rfl, _⟩ := h; rfl) | (obtain ⟨_, _, _, _, _, _, rfl, _⟩ := h; rfl) | (obtain ⟨_, _, _, _, _, _, _, rfl, _⟩ := h; rfl)) (dl_finish T) (c.t.d.def_ 11 (d := d_Parser_finish) rfl)
  have term_of : ∀ n, Pk P w K mg base (20 + 3 * n) ("Parser", some "factor") ["self"] (spP K GT (pFac n)) → Pk P w K mg base (20 + 3 * n + 1) ("Parser", some "term") ["self"] (spP K GT (pT (pFac n))) := fun n H =>
    pk_Parser_term (k := 20 + 3 * n) T (_) ((H).mono (by omega)) ((C_Parser_sees).mono (by omega)) ((C_Parser_take).mono (by omega)) (by intro ds γ q e h; first | (obtain ⟨rfl, _⟩ := h; rfl) | (obtain ⟨_, rfl, _⟩ := h; rfl) | (obtain ⟨_, _, rfl, _⟩ := h; rfl) | (obtain ⟨_, _, _, rfl, _⟩ := h; rfl) | (obtain ⟨_, _, _, _, rfl, _⟩ := h; rfl) | (obtain ⟨_, _, _, _, _, rfl, _⟩ := h; rfl) | (obtain ⟨_, _, _, _, _, _, rfl, _⟩ := h; rfl) | (obtain ⟨_, _, _, _, _, _, _, rfl, _⟩ := h; rfl)) (dl_term T (fun _ _ _ h => h) (pFac_suf n)) (c.t.d.def_ 16 (d := d_Parser_term) rfl)
  have exp_of : ∀ n, Pk P w K mg base (20 + 3 * n) ("Parser", some "factor") ["self"] (spP K GT (pFac n)) → Pk P w K mg base (20 + 3 * n + 2) ("Parser", some "expression") ["self"] (spP K GT (pE (pFac n))) := fun n H =>
    pk_Parser_expression (k := 20 + 3 * n + 1) T (_) ((term_of n H).mono (by omega)) ((C_Parser_sees).mono (by omega)) ((C_Parser_take).mono (by omega)) (by intro ds γ q e h; first | (obtain ⟨rfl, _⟩ := h; rfl) | (obtain ⟨_, rfl, _⟩ := h; rfl) | (obtain ⟨_, _, rfl, _⟩ := h; rfl) | (obtain ⟨_, _, _, rfl, _⟩ := h; rfl) | (obtain ⟨_, _, _, _, rfl, _⟩ := h; rfl) | (obtain ⟨_, _, _, _, _, rfl, _⟩ := h; rfl) | (obtain ⟨_, _, _, _, _, _, rfl, _⟩ := h; rfl) | (obtain ⟨_, _, _, _, _, _, _, rfl, _⟩ := h; rfl)) (dl_expression T (fun _ _ _ h => h) (pFac_suf n)) (c.t.d.def_ 15 (d := d_Parser_expression) rfl)
  have R_fac : ∀ n, Pk P w K mg base (20 + 3 * n) ("Parser", some "factor") ["self"] (spP K GT (pFac n)) := by
    intro n
    induction n with
    | zero =>
      exact ((pk_never (k := 0) (c.t.d.def_ 17 (d := d_Parser_factor) rfl) sc_Parser_factor fun fd F => F.bindsN fun _ _ _ _ _ _ us hl => match us, hl with | [_], _ => rfl).mono (by decide)).imp fun ds γ q e h => by
        obtain ⟨_, _, _, _, _, _, _, h⟩ := h
        exact spRes_bad h
    | succ n ih => exact pk_Parser_factor (k := 20 + 3 * n + 2) T (_) (_) ((C_Parser_sees).mono (by omega)) ((C_Parser_take).mono (by omega)) ((ih).mono (by omega)) ((exp_of n ih).mono (by omega)) ((C_Parser_take_sign).mono (by omega)) ((C_Parser_refuse).mono (by omega)) (by intro ds γ q e h; first | (obtain ⟨rfl, _⟩ := h; rfl) | (obtain ⟨_, rfl, _⟩ := h; rfl) | (obtain ⟨_, _, rfl, _⟩ := h; rfl) | (obtain ⟨_, _, _, rfl, _⟩ := h; rfl) | (obtain ⟨_, _, _, _, rfl, _⟩ := h; rfl) | (obtain ⟨_, _, _, _, _, rfl, _⟩ := h; rfl) | (obtain ⟨_, _, _, _, _, _, rfl, _⟩ := h; rfl) | (obtain ⟨_, _, _, _, _, _, _, rfl, _⟩ := h; rfl)) (dl_factor (G := GT) (Gm := GT) (Gp := GT) T (fun _ _ _ h => h) (fun _ _ _ h => h) n) (c.t.d.def_ 17 (d := d_Parser_factor) rfl)
  have C_Parser_expression : Pk P w K mg base (145) ("Parser", some "expression") ["self"] (sp_Parser_expression K) := exp_of 41 (R_fac 41)
  have conj_of : ∀ n, Pk P w K mg base (148 + 3 * n) ("Parser", some "negation") ["self"] (spP K GT (pNeg eF n)) → Pk P w K mg base (148 + 3 * n + 1) ("Parser", some "conjunction") ["self"] (spP K GT (pJ (pNeg eF n))) := fun n H =>
    pk_Parser_conjunction (k := 148 + 3 * n) T (_) ((H).mono (by omega)) ((C_Parser_sees).mono (by omega)) ((C_Parser_take).mono (by omega)) (by intro ds γ q e h; first | (obtain ⟨rfl, _⟩ := h; rfl) | (obtain ⟨_, rfl, _⟩ := h; rfl) | (obtain ⟨_, _, rfl, _⟩ := h; rfl) | (obtain ⟨_, _, _, rfl, _⟩ := h; rfl) | (obtain ⟨_, _, _, _, rfl, _⟩ := h; rfl) | (obtain ⟨_, _, _, _, _, rfl, _⟩ := h; rfl) | (obtain ⟨_, _, _, _, _, _, rfl, _⟩ := h; rfl) | (obtain ⟨_, _, _, _, _, _, _, rfl, _⟩ := h; rfl)) (dl_conjunction T (fun _ _ _ h => h) (pNeg_suf (pE_suf (pFac_suf 41)) n)) (c.t.d.def_ 13 (d := d_Parser_conjunction) rfl)
  have cond_of : ∀ n, Pk P w K mg base (148 + 3 * n) ("Parser", some "negation") ["self"] (spP K GT (pNeg eF n)) → Pk P w K mg base (148 + 3 * n + 2) ("Parser", some "condition") ["self"] (spP K GT (pC (pNeg eF n))) := fun n H =>
    pk_Parser_condition (k := 148 + 3 * n + 1) T (_) ((conj_of n H).mono (by omega)) ((C_Parser_sees).mono (by omega)) ((C_Parser_take).mono (by omega)) (by intro ds γ q e h; first | (obtain ⟨rfl, _⟩ := h; rfl) | (obtain ⟨_, rfl, _⟩ := h; rfl) | (obtain ⟨_, _, rfl, _⟩ := h; rfl) | (obtain ⟨_, _, _, rfl, _⟩ := h; rfl) | (obtain ⟨_, _, _, _, rfl, _⟩ := h; rfl) | (obtain ⟨_, _, _, _, _, rfl, _⟩ := h; rfl) | (obtain ⟨_, _, _, _, _, _, rfl, _⟩ := h; rfl) | (obtain ⟨_, _, _, _, _, _, _, rfl, _⟩ := h; rfl)) (dl_condition T (fun _ _ _ h => h) (pL_suf (pNeg_suf (pE_suf (pFac_suf 41)) n))) (c.t.d.def_ 12 (d := d_Parser_condition) rfl)
  have R_neg : ∀ n, Pk P w K mg base (148 + 3 * n) ("Parser", some "negation") ["self"] (spP K GT (pNeg eF n)) := by
    intro n
    induction n with
    | zero =>
      exact ((pk_never (k := 0) (c.t.d.def_ 14 (d := d_Parser_negation) rfl) sc_Parser_negation fun fd F => F.bindsN fun _ _ _ _ _ _ us hl => match us, hl with | [_], _ => rfl).mono (by decide)).imp fun ds γ q e h => by
        obtain ⟨_, _, _, _, _, _, _, h⟩ := h
        exact spRes_bad h
    | succ n ih => exact pk_Parser_negation (k := 148 + 3 * n + 2) T (_) (_) (_) ((C_Parser_sees).mono (by omega)) ((C_Parser_take).mono (by omega)) ((ih).mono (by omega)) ((cond_of n ih).mono (by omega)) ((C_Parser_take_sign).mono (by omega)) ((C_Parser_expression).mono (by omega)) (by intro ds γ q e h; first | (obtain ⟨rfl, _⟩ := h; rfl) | (obtain ⟨_, rfl, _⟩ := h; rfl) | (obtain ⟨_, _, rfl, _⟩ := h; rfl) | (obtain ⟨_, _, _, rfl, _⟩ := h; rfl) | (obtain ⟨_, _, _, _, rfl, _⟩ := h; rfl) | (obtain ⟨_, _, _, _, _, rfl, _⟩ := h; rfl) | (obtain ⟨_, _, _, _, _, _, rfl, _⟩ := h; rfl) | (obtain ⟨_, _, _, _, _, _, _, rfl, _⟩ := h; rfl)) (dl_negation T (pE_suf (pFac_suf 41)) n) (c.t.d.def_ 14 (d := d_Parser_negation) rfl)
  have C_Parser_condition : Pk P w K mg base (273) ("Parser", some "condition") ["self"] (sp_Parser_condition K) := cond_of 41 (R_neg 41)
  have C_parse_condition : Pk P w K mg base (274) ("parse_condition", none) ["text"] (sp_parse_condition K) := pk_parse_condition (k := 273) (j := 4) T C_Parser_init ((C_Parser_condition).mono (by decide)) ((C_Parser_finish).mono (by decide)) (by decide) (by intro ds γ q e h; first | (obtain ⟨rfl, _⟩ := h; rfl) | (obtain ⟨_, rfl, _⟩ := h; rfl) | (obtain ⟨_, _, rfl, _⟩ := h; rfl) | (obtain ⟨_, _, _, rfl, _⟩ := h; rfl) | (obtain ⟨_, _, _, _, rfl, _⟩ := h; rfl) | (obtain ⟨_, _, _, _, _, rfl, _⟩ := h; rfl) | (obtain ⟨_, _, _, _, _, _, rfl, _⟩ := h; rfl) | (obtain ⟨_, _, _, _, _, _, _, rfl, _⟩ := h; rfl)) (dl_parseC T rfl (pL_suf (pL_suf (pNeg_suf (pE_suf (pFac_suf 41)) 41)))) (c.t.d.def_ 18 (d := d_parse_condition) rfl)
  have C_bounded : Pk P w K mg base (17) ("bounded", none) ["number"] (sp_bounded K) := pk_bounded (k := 16) (j := 15) T E_Fault (by decide) (by intro ds γ q e h; first | (obtain ⟨rfl, _⟩ := h; rfl) | (obtain ⟨_, rfl, _⟩ := h; rfl) | (obtain ⟨_, _, rfl, _⟩ := h; rfl) | (obtain ⟨_, _, _, rfl, _⟩ := h; rfl) | (obtain ⟨_, _, _, _, rfl, _⟩ := h; rfl) | (obtain ⟨_, _, _, _, _, rfl, _⟩ := h; rfl) | (obtain ⟨_, _, _, _, _, _, rfl, _⟩ := h; rfl) | (obtain ⟨_, _, _, _, _, _, _, rfl, _⟩ := h; rfl)) (dl_bounded T Z) (c.t.d.def_ 19 (d := d_bounded) rfl)
  have C_calculated : Pk P w K mg base (18) ("calculated", none) ["word", "left", "right"] (sp_calculated K) := pk_calculated (k := 17) (j := 15) T ((C_bounded).mono (by decide)) E_Fault (by decide) (by intro ds γ q e h; first | (obtain ⟨rfl, _⟩ := h; rfl) | (obtain ⟨_, rfl, _⟩ := h; rfl) | (obtain ⟨_, _, rfl, _⟩ := h; rfl) | (obtain ⟨_, _, _, rfl, _⟩ := h; rfl) | (obtain ⟨_, _, _, _, rfl, _⟩ := h; rfl) | (obtain ⟨_, _, _, _, _, rfl, _⟩ := h; rfl) | (obtain ⟨_, _, _, _, _, _, rfl, _⟩ := h; rfl) | (obtain ⟨_, _, _, _, _, _, _, rfl, _⟩ := h; rfl)) (dl_calculated T Z) (c.t.d.def_ 20 (d := d_calculated) rfl)
  have C_compared : Pk P w K mg base (1) ("compared", none) ["word", "left", "right"] (sp_compared K) := pk_compared (k := 0) T (by intro ds γ q e h; first | (obtain ⟨rfl, _⟩ := h; rfl) | (obtain ⟨_, rfl, _⟩ := h; rfl) | (obtain ⟨_, _, rfl, _⟩ := h; rfl) | (obtain ⟨_, _, _, rfl, _⟩ := h; rfl) | (obtain ⟨_, _, _, _, rfl, _⟩ := h; rfl) | (obtain ⟨_, _, _, _, _, rfl, _⟩ := h; rfl) | (obtain ⟨_, _, _, _, _, _, rfl, _⟩ := h; rfl) | (obtain ⟨_, _, _, _, _, _, _, rfl, _⟩ := h; rfl)) (dl_compared T) (c.t.d.def_ 21 (d := d_compared) rfl)
  have R_value_of : ∀ n, Pk P w K mg base (20 + n) ("value_of", none) ["node", "known"] (spVal K n) := by
    intro n
    induction n with
    | zero => exact pk_value_of (k := 19) T (fun _ _ _ _ => False) ((pk_never (k := 0) (c.t.d.def_ 22 (d := d_value_of) rfl) sc_value_of fun fd F => F.bindsN fun _ _ _ _ _ _ us hl => match us, hl with | [_, _], _ => rfl).mono (by omega)) ((C_compared).mono (by omega)) ((C_calculated).mono (by omega)) (by intro ds γ q e h; first | (obtain ⟨rfl, _⟩ := h; rfl) | (obtain ⟨_, rfl, _⟩ := h; rfl) | (obtain ⟨_, _, rfl, _⟩ := h; rfl) | (obtain ⟨_, _, _, rfl, _⟩ := h; rfl) | (obtain ⟨_, _, _, _, rfl, _⟩ := h; rfl) | (obtain ⟨_, _, _, _, _, rfl, _⟩ := h; rfl) | (obtain ⟨_, _, _, _, _, _, rfl, _⟩ := h; rfl) | (obtain ⟨_, _, _, _, _, _, _, rfl, _⟩ := h; rfl)) (dl_value_of T _ 0 fun dp' h => by cases h) (c.t.d.def_ 22 (d := d_value_of) rfl)
    | succ n ih => exact pk_value_of (k := 20 + n) T (spVal K n) ((ih).mono (by omega)) ((C_compared).mono (by omega)) ((C_calculated).mono (by omega)) (by intro ds γ q e h; first | (obtain ⟨rfl, _⟩ := h; rfl) | (obtain ⟨_, rfl, _⟩ := h; rfl) | (obtain ⟨_, _, rfl, _⟩ := h; rfl) | (obtain ⟨_, _, _, rfl, _⟩ := h; rfl) | (obtain ⟨_, _, _, _, rfl, _⟩ := h; rfl) | (obtain ⟨_, _, _, _, _, rfl, _⟩ := h; rfl) | (obtain ⟨_, _, _, _, _, _, rfl, _⟩ := h; rfl) | (obtain ⟨_, _, _, _, _, _, _, rfl, _⟩ := h; rfl)) (dl_value_of T _ (n + 1) fun dp' h ds γ q e hh => by cases h; exact hh) (c.t.d.def_ 22 (d := d_value_of) rfl)
  have C_value_of : Pk P w K mg base (120) ("value_of", none) ["node", "known"] (sp_value_of K) := (R_value_of 100).mono (by decide)
  have C_evaluate : Pk P w K mg base (121) ("evaluate", none) ["node", "values"] (sp_evaluate K) := pk_evaluate (k := 120) T ((C_value_of).mono (by decide)) (by intro ds γ q e h; first | (obtain ⟨rfl, _⟩ := h; rfl) | (obtain ⟨_, rfl, _⟩ := h; rfl) | (obtain ⟨_, _, rfl, _⟩ := h; rfl) | (obtain ⟨_, _, _, rfl, _⟩ := h; rfl) | (obtain ⟨_, _, _, _, rfl, _⟩ := h; rfl) | (obtain ⟨_, _, _, _, _, rfl, _⟩ := h; rfl) | (obtain ⟨_, _, _, _, _, _, rfl, _⟩ := h; rfl) | (obtain ⟨_, _, _, _, _, _, _, rfl, _⟩ := h; rfl)) (dl_evaluate T rfl) (c.t.d.def_ 23 (d := d_evaluate) rfl)
  have C_holds : Pk P w K mg base (122) ("holds", none) ["node", "values"] (sp_holds K) := pk_holds (k := 121) T ((C_evaluate).mono (by decide)) (by intro ds γ q e h; first | (obtain ⟨rfl, _⟩ := h; rfl) | (obtain ⟨_, rfl, _⟩ := h; rfl) | (obtain ⟨_, _, rfl, _⟩ := h; rfl) | (obtain ⟨_, _, _, rfl, _⟩ := h; rfl) | (obtain ⟨_, _, _, _, rfl, _⟩ := h; rfl) | (obtain ⟨_, _, _, _, _, rfl, _⟩ := h; rfl) | (obtain ⟨_, _, _, _, _, _, rfl, _⟩ := h; rfl) | (obtain ⟨_, _, _, _, _, _, _, rfl, _⟩ := h; rfl)) (dl_holds T Z) (c.t.d.def_ 24 (d := d_holds) rfl)
  have C_L_draw : Pk P w K mg base (1) ("_law_draw", none) ["_law_stream", "_law_many"] (sp_L_draw K) := pk_L_draw (k := 0) T (by intro ds γ q e h; first | (obtain ⟨rfl, _⟩ := h; rfl) | (obtain ⟨_, rfl, _⟩ := h; rfl) | (obtain ⟨_, _, rfl, _⟩ := h; rfl) | (obtain ⟨_, _, _, rfl, _⟩ := h; rfl) | (obtain ⟨_, _, _, _, rfl, _⟩ := h; rfl) | (obtain ⟨_, _, _, _, _, rfl, _⟩ := h; rfl) | (obtain ⟨_, _, _, _, _, _, rfl, _⟩ := h; rfl) | (obtain ⟨_, _, _, _, _, _, _, rfl, _⟩ := h; rfl)) (dl_L_draw T) (c.t.d.def_ 25 (d := d_L_draw) rfl)
  have C_L_reserved : Pk P w K mg base (1) ("_law_reserved", none) [] (sp_L_reserved K) := pk_L_reserved (k := 0) T (by intro ds γ q e h; first | (obtain ⟨rfl, _⟩ := h; rfl) | (obtain ⟨_, rfl, _⟩ := h; rfl) | (obtain ⟨_, _, rfl, _⟩ := h; rfl) | (obtain ⟨_, _, _, rfl, _⟩ := h; rfl) | (obtain ⟨_, _, _, _, rfl, _⟩ := h; rfl) | (obtain ⟨_, _, _, _, _, rfl, _⟩ := h; rfl) | (obtain ⟨_, _, _, _, _, _, rfl, _⟩ := h; rfl) | (obtain ⟨_, _, _, _, _, _, _, rfl, _⟩ := h; rfl)) (dl_L_reserved T) (c.t.d.def_ 26 (d := d_L_reserved) rfl)
  have C_L_name : Pk P w K mg base (2) ("_law_name", none) ["_law_stream"] (sp_L_name K) := pk_L_name (k := 1) T ((C_L_draw).mono (by decide)) ((C_L_reserved).mono (by decide)) (by intro ds γ q e h; first | (obtain ⟨rfl, _⟩ := h; rfl) | (obtain ⟨_, rfl, _⟩ := h; rfl) | (obtain ⟨_, _, rfl, _⟩ := h; rfl) | (obtain ⟨_, _, _, rfl, _⟩ := h; rfl) | (obtain ⟨_, _, _, _, rfl, _⟩ := h; rfl) | (obtain ⟨_, _, _, _, _, rfl, _⟩ := h; rfl) | (obtain ⟨_, _, _, _, _, _, rfl, _⟩ := h; rfl) | (obtain ⟨_, _, _, _, _, _, _, rfl, _⟩ := h; rfl)) (dl_L_name T) (c.t.d.def_ 27 (d := d_L_name) rfl)
  have C_L_names : Pk P w K mg base (3) ("_law_names", none) ["_law_stream", "_law_many"] (sp_L_names K) := pk_L_names (k := 2) T ((C_L_name).mono (by decide)) (by intro ds γ q e h; first | (obtain ⟨rfl, _⟩ := h; rfl) | (obtain ⟨_, rfl, _⟩ := h; rfl) | (obtain ⟨_, _, rfl, _⟩ := h; rfl) | (obtain ⟨_, _, _, rfl, _⟩ := h; rfl) | (obtain ⟨_, _, _, _, rfl, _⟩ := h; rfl) | (obtain ⟨_, _, _, _, _, rfl, _⟩ := h; rfl) | (obtain ⟨_, _, _, _, _, _, rfl, _⟩ := h; rfl) | (obtain ⟨_, _, _, _, _, _, _, rfl, _⟩ := h; rfl)) (dl_L_names T) (c.t.d.def_ 28 (d := d_L_names) rfl)
  have C_L_number : Pk P w K mg base (2) ("_law_number", none) ["_law_stream"] (sp_L_number K) := pk_L_number (k := 1) T ((C_L_draw).mono (by decide)) (by intro ds γ q e h; first | (obtain ⟨rfl, _⟩ := h; rfl) | (obtain ⟨_, rfl, _⟩ := h; rfl) | (obtain ⟨_, _, rfl, _⟩ := h; rfl) | (obtain ⟨_, _, _, rfl, _⟩ := h; rfl) | (obtain ⟨_, _, _, _, rfl, _⟩ := h; rfl) | (obtain ⟨_, _, _, _, _, rfl, _⟩ := h; rfl) | (obtain ⟨_, _, _, _, _, _, rfl, _⟩ := h; rfl) | (obtain ⟨_, _, _, _, _, _, _, rfl, _⟩ := h; rfl)) (dl_L_number T) (c.t.d.def_ 29 (d := d_L_number) rfl)
  have C_L_rank : Pk P w K mg base (1) ("_law_rank", none) ["_law_word"] (sp_L_rank K) := pk_L_rank (k := 0) T (by intro ds γ q e h; first | (obtain ⟨rfl, _⟩ := h; rfl) | (obtain ⟨_, rfl, _⟩ := h; rfl) | (obtain ⟨_, _, rfl, _⟩ := h; rfl) | (obtain ⟨_, _, _, rfl, _⟩ := h; rfl) | (obtain ⟨_, _, _, _, rfl, _⟩ := h; rfl) | (obtain ⟨_, _, _, _, _, rfl, _⟩ := h; rfl) | (obtain ⟨_, _, _, _, _, _, rfl, _⟩ := h; rfl) | (obtain ⟨_, _, _, _, _, _, _, rfl, _⟩ := h; rfl)) (dl_L_rank T) (c.t.d.def_ 32 (d := d_L_rank) rfl)
  have C_L_is_within : Pk P w K mg base (1) ("_law_is_within", none) ["_law_text"] (sp_L_is_within K) := pk_L_is_within (k := 0) T (by intro ds γ q e h; first | (obtain ⟨rfl, _⟩ := h; rfl) | (obtain ⟨_, rfl, _⟩ := h; rfl) | (obtain ⟨_, _, rfl, _⟩ := h; rfl) | (obtain ⟨_, _, _, rfl, _⟩ := h; rfl) | (obtain ⟨_, _, _, _, rfl, _⟩ := h; rfl) | (obtain ⟨_, _, _, _, _, rfl, _⟩ := h; rfl) | (obtain ⟨_, _, _, _, _, _, rfl, _⟩ := h; rfl) | (obtain ⟨_, _, _, _, _, _, _, rfl, _⟩ := h; rfl)) (dl_L_is_within T) (c.t.d.def_ 34 (d := d_L_is_within) rfl)
  have C_L_pairs : Pk P w K mg base (2) ("_law_pairs", none) ["_law_stream", "_law_names_here"] (sp_L_pairs K) := pk_L_pairs (k := 1) T ((C_L_draw).mono (by decide)) (by intro ds γ q e h; first | (obtain ⟨rfl, _⟩ := h; rfl) | (obtain ⟨_, rfl, _⟩ := h; rfl) | (obtain ⟨_, _, rfl, _⟩ := h; rfl) | (obtain ⟨_, _, _, rfl, _⟩ := h; rfl) | (obtain ⟨_, _, _, _, rfl, _⟩ := h; rfl) | (obtain ⟨_, _, _, _, _, rfl, _⟩ := h; rfl) | (obtain ⟨_, _, _, _, _, _, rfl, _⟩ := h; rfl) | (obtain ⟨_, _, _, _, _, _, _, rfl, _⟩ := h; rfl)) (dl_L_pairs T) (c.t.d.def_ 36 (d := d_L_pairs) rfl)
  have C_L_calculated : Pk P w K mg base (1) ("_law_calculated", none) ["_law_word", "_law_left", "_law_right"] (sp_L_calculated K) := pk_L_calculated (k := 0) T (by intro ds γ q e h; first | (obtain ⟨rfl, _⟩ := h; rfl) | (obtain ⟨_, rfl, _⟩ := h; rfl) | (obtain ⟨_, _, rfl, _⟩ := h; rfl) | (obtain ⟨_, _, _, rfl, _⟩ := h; rfl) | (obtain ⟨_, _, _, _, rfl, _⟩ := h; rfl) | (obtain ⟨_, _, _, _, _, rfl, _⟩ := h; rfl) | (obtain ⟨_, _, _, _, _, _, rfl, _⟩ := h; rfl) | (obtain ⟨_, _, _, _, _, _, _, rfl, _⟩ := h; rfl)) (dl_L_calculated T) (c.t.d.def_ 37 (d := d_L_calculated) rfl)
  have C_L_same : Pk P w K mg base (1) ("_law_same", none) ["_law_found", "_law_due"] (sp_L_same K) := pk_L_same (k := 0) T (by intro ds γ q e h; first | (obtain ⟨rfl, _⟩ := h; rfl) | (obtain ⟨_, rfl, _⟩ := h; rfl) | (obtain ⟨_, _, rfl, _⟩ := h; rfl) | (obtain ⟨_, _, _, rfl, _⟩ := h; rfl) | (obtain ⟨_, _, _, _, rfl, _⟩ := h; rfl) | (obtain ⟨_, _, _, _, _, rfl, _⟩ := h; rfl) | (obtain ⟨_, _, _, _, _, _, rfl, _⟩ := h; rfl) | (obtain ⟨_, _, _, _, _, _, _, rfl, _⟩ := h; rfl)) (dl_L_same T) (c.t.d.def_ 40 (d := d_L_same) rfl)
  have C_L_evaluated : Pk P w K mg base (122) ("_law_evaluated", none) ["_law_node", "_law_values"] (sp_L_evaluated K) := pk_L_evaluated (k := 121) T ((C_evaluate).mono (by decide)) (by intro ds γ q e h; first | (obtain ⟨rfl, _⟩ := h; rfl) | (obtain ⟨_, rfl, _⟩ := h; rfl) | (obtain ⟨_, _, rfl, _⟩ := h; rfl) | (obtain ⟨_, _, _, rfl, _⟩ := h; rfl) | (obtain ⟨_, _, _, _, rfl, _⟩ := h; rfl) | (obtain ⟨_, _, _, _, _, rfl, _⟩ := h; rfl) | (obtain ⟨_, _, _, _, _, _, rfl, _⟩ := h; rfl) | (obtain ⟨_, _, _, _, _, _, _, rfl, _⟩ := h; rfl)) (dl_L_evaluated T Z) (c.t.d.def_ 39 (d := d_L_evaluated) rfl)
  have R_L_sum : ∀ n, Pk P w K mg base (3 + n) ("_law_sum", none) ["_law_stream", "_law_names_here", "_law_depth"] (spSum K n) := by
    intro n
    induction n with
    | zero => exact pk_L_sum (k := 2) T (fun _ _ _ _ => False) ((C_L_draw).mono (by omega)) ((C_L_number).mono (by omega)) ((pk_never (k := 0) (c.t.d.def_ 30 (d := d_L_sum) rfl) sc_L_sum fun fd F => F.bindsN fun _ _ _ _ _ _ us hl => match us, hl with | [_, _, _], _ => rfl).mono (by omega)) (by intro ds γ q e h; first | (obtain ⟨rfl, _⟩ := h; rfl) | (obtain ⟨_, rfl, _⟩ := h; rfl) | (obtain ⟨_, _, rfl, _⟩ := h; rfl) | (obtain ⟨_, _, _, rfl, _⟩ := h; rfl) | (obtain ⟨_, _, _, _, rfl, _⟩ := h; rfl) | (obtain ⟨_, _, _, _, _, rfl, _⟩ := h; rfl) | (obtain ⟨_, _, _, _, _, _, rfl, _⟩ := h; rfl) | (obtain ⟨_, _, _, _, _, _, _, rfl, _⟩ := h; rfl)) (dl_L_sum T _ 0 fun dp' h => by cases h) (c.t.d.def_ 30 (d := d_L_sum) rfl)
    | succ n ih => exact pk_L_sum (k := 3 + n) T (spSum K n) ((C_L_draw).mono (by omega)) ((C_L_number).mono (by omega)) ((ih).mono (by omega)) (by intro ds γ q e h; first | (obtain ⟨rfl, _⟩ := h; rfl) | (obtain ⟨_, rfl, _⟩ := h; rfl) | (obtain ⟨_, _, rfl, _⟩ := h; rfl) | (obtain ⟨_, _, _, rfl, _⟩ := h; rfl) | (obtain ⟨_, _, _, _, rfl, _⟩ := h; rfl) | (obtain ⟨_, _, _, _, _, rfl, _⟩ := h; rfl) | (obtain ⟨_, _, _, _, _, _, rfl, _⟩ := h; rfl) | (obtain ⟨_, _, _, _, _, _, _, rfl, _⟩ := h; rfl)) (dl_L_sum T _ (n + 1) fun dp' h ds γ q e hh => by cases h; exact hh) (c.t.d.def_ 30 (d := d_L_sum) rfl)
  have C_L_sum : Pk P w K mg base (7) ("_law_sum", none) ["_law_stream", "_law_names_here", "_law_depth"] (sp_L_sum K) := (R_L_sum 4).mono (by decide)
  have R_L_truth : ∀ n, n ≤ 3 → Pk P w K mg base (8 + n) ("_law_truth", none) ["_law_stream", "_law_names_here", "_law_depth"] (spTruth K n) := by
    intro n
    induction n with
    | zero => exact fun _ => pk_L_truth (k := 7) T (fun _ _ _ _ => False) ((C_L_draw).mono (by omega)) ((C_L_sum).mono (by omega)) ((pk_never (k := 0) (c.t.d.def_ 31 (d := d_L_truth) rfl) sc_L_truth fun fd F => F.bindsN fun _ _ _ _ _ _ us hl => match us, hl with | [_, _, _], _ => rfl).mono (by omega)) (by intro ds γ q e h; first | (obtain ⟨rfl, _⟩ := h; rfl) | (obtain ⟨_, rfl, _⟩ := h; rfl) | (obtain ⟨_, _, rfl, _⟩ := h; rfl) | (obtain ⟨_, _, _, rfl, _⟩ := h; rfl) | (obtain ⟨_, _, _, _, rfl, _⟩ := h; rfl) | (obtain ⟨_, _, _, _, _, rfl, _⟩ := h; rfl) | (obtain ⟨_, _, _, _, _, _, rfl, _⟩ := h; rfl) | (obtain ⟨_, _, _, _, _, _, _, rfl, _⟩ := h; rfl)) (dl_L_truth T _ 0 (by decide) (fun dp' h => by cases h)) (c.t.d.def_ 31 (d := d_L_truth) rfl)
    | succ n ih => exact fun hn => pk_L_truth (k := 8 + n) T (spTruth K n) ((C_L_draw).mono (by omega)) ((C_L_sum).mono (by omega)) (((ih (by omega))).mono (by omega)) (by intro ds γ q e h; first | (obtain ⟨rfl, _⟩ := h; rfl) | (obtain ⟨_, rfl, _⟩ := h; rfl) | (obtain ⟨_, _, rfl, _⟩ := h; rfl) | (obtain ⟨_, _, _, rfl, _⟩ := h; rfl) | (obtain ⟨_, _, _, _, rfl, _⟩ := h; rfl) | (obtain ⟨_, _, _, _, _, rfl, _⟩ := h; rfl) | (obtain ⟨_, _, _, _, _, _, rfl, _⟩ := h; rfl) | (obtain ⟨_, _, _, _, _, _, _, rfl, _⟩ := h; rfl)) (dl_L_truth T _ (n + 1) hn (fun dp' h ds γ q e hh => by cases h; exact hh)) (c.t.d.def_ 31 (d := d_L_truth) rfl)
  have C_L_truth : Pk P w K mg base (12) ("_law_truth", none) ["_law_stream", "_law_names_here", "_law_depth"] (sp_L_truth K) := (R_L_truth 3 (by decide)).mono (by decide)
  have R_L_canonical : ∀ n, Pk P w K mg base (2 + n) ("_law_canonical", none) ["_law_node", "_law_least"] (spCan K n) := by
    intro n
    induction n with
    | zero => exact pk_L_canonical (k := 1) T (fun _ _ _ _ => False) ((C_L_rank).mono (by omega)) ((pk_never (k := 0) (c.t.d.def_ 33 (d := d_L_canonical) rfl) sc_L_canonical fun fd F => F.bindsN fun _ _ _ _ _ _ us hl => match us, hl with | [_, _], _ => rfl).mono (by omega)) (by intro ds γ q e h; first | (obtain ⟨rfl, _⟩ := h; rfl) | (obtain ⟨_, rfl, _⟩ := h; rfl) | (obtain ⟨_, _, rfl, _⟩ := h; rfl) | (obtain ⟨_, _, _, rfl, _⟩ := h; rfl) | (obtain ⟨_, _, _, _, rfl, _⟩ := h; rfl) | (obtain ⟨_, _, _, _, _, rfl, _⟩ := h; rfl) | (obtain ⟨_, _, _, _, _, _, rfl, _⟩ := h; rfl) | (obtain ⟨_, _, _, _, _, _, _, rfl, _⟩ := h; rfl)) (dl_L_canonical T _ 0 fun dp' h => by cases h) (c.t.d.def_ 33 (d := d_L_canonical) rfl)
    | succ n ih => exact pk_L_canonical (k := 2 + n) T (spCan K n) ((C_L_rank).mono (by omega)) ((ih).mono (by omega)) (by intro ds γ q e h; first | (obtain ⟨rfl, _⟩ := h; rfl) | (obtain ⟨_, rfl, _⟩ := h; rfl) | (obtain ⟨_, _, rfl, _⟩ := h; rfl) | (obtain ⟨_, _, _, rfl, _⟩ := h; rfl) | (obtain ⟨_, _, _, _, rfl, _⟩ := h; rfl) | (obtain ⟨_, _, _, _, _, rfl, _⟩ := h; rfl) | (obtain ⟨_, _, _, _, _, _, rfl, _⟩ := h; rfl) | (obtain ⟨_, _, _, _, _, _, _, rfl, _⟩ := h; rfl)) (dl_L_canonical T _ (n + 1) fun dp' h ds γ q e hh => by cases h; exact hh) (c.t.d.def_ 33 (d := d_L_canonical) rfl)
  have C_L_canonical : Pk P w K mg base (8) ("_law_canonical", none) ["_law_node", "_law_least"] (sp_L_canonical K) := (R_L_canonical 6).mono (by decide)
  have R_L_value : ∀ n, Pk P w K mg base (2 + n) ("_law_value", none) ["_law_node", "_law_known"] (spLVal K n) := by
    intro n
    induction n with
    | zero => exact pk_L_value (k := 1) T (fun _ _ _ _ => False) ((pk_never (k := 0) (c.t.d.def_ 38 (d := d_L_value) rfl) sc_L_value fun fd F => F.bindsN fun _ _ _ _ _ _ us hl => match us, hl with | [_, _], _ => rfl).mono (by omega)) ((C_L_calculated).mono (by omega)) (by intro ds γ q e h; first | (obtain ⟨rfl, _⟩ := h; rfl) | (obtain ⟨_, rfl, _⟩ := h; rfl) | (obtain ⟨_, _, rfl, _⟩ := h; rfl) | (obtain ⟨_, _, _, rfl, _⟩ := h; rfl) | (obtain ⟨_, _, _, _, rfl, _⟩ := h; rfl) | (obtain ⟨_, _, _, _, _, rfl, _⟩ := h; rfl) | (obtain ⟨_, _, _, _, _, _, rfl, _⟩ := h; rfl) | (obtain ⟨_, _, _, _, _, _, _, rfl, _⟩ := h; rfl)) (dl_L_value T _ 0 fun dp' h => by cases h) (c.t.d.def_ 38 (d := d_L_value) rfl)
    | succ n ih => exact pk_L_value (k := 2 + n) T (spLVal K n) ((ih).mono (by omega)) ((C_L_calculated).mono (by omega)) (by intro ds γ q e h; first | (obtain ⟨rfl, _⟩ := h; rfl) | (obtain ⟨_, rfl, _⟩ := h; rfl) | (obtain ⟨_, _, rfl, _⟩ := h; rfl) | (obtain ⟨_, _, _, rfl, _⟩ := h; rfl) | (obtain ⟨_, _, _, _, rfl, _⟩ := h; rfl) | (obtain ⟨_, _, _, _, _, rfl, _⟩ := h; rfl) | (obtain ⟨_, _, _, _, _, _, rfl, _⟩ := h; rfl) | (obtain ⟨_, _, _, _, _, _, _, rfl, _⟩ := h; rfl)) (dl_L_value T _ (n + 1) fun dp' h ds γ q e hh => by cases h; exact hh) (c.t.d.def_ 38 (d := d_L_value) rfl)
  have C_L_value : Pk P w K mg base (8) ("_law_value", none) ["_law_node", "_law_known"] (sp_L_value K) := (R_L_value 6).mono (by decide)
  have C_fl : Pk P w K mg base (2) ("_law_listed", none) ["_law_node"] (spFl K) := pk_L_listed (k := 1) T (fun _ _ _ _ => False) ((pk_never (k := 0) (c.t.d.def_ 35 (d := d_L_listed) rfl) sc_L_listed fun fd F => F.bindsN fun _ _ _ _ _ _ us hl => match us, hl with | [_], _ => rfl).mono (by omega)) (by intro ds γ q e h; first | (obtain ⟨rfl, _⟩ := h; rfl) | (obtain ⟨_, rfl, _⟩ := h; rfl) | (obtain ⟨_, _, rfl, _⟩ := h; rfl) | (obtain ⟨_, _, _, rfl, _⟩ := h; rfl) | (obtain ⟨_, _, _, _, rfl, _⟩ := h; rfl) | (obtain ⟨_, _, _, _, _, rfl, _⟩ := h; rfl) | (obtain ⟨_, _, _, _, _, _, rfl, _⟩ := h; rfl) | (obtain ⟨_, _, _, _, _, _, _, rfl, _⟩ := h; rfl)) (dl_listed_flat T _) (c.t.d.def_ 35 (d := d_L_listed) rfl)
  have R_L_listed : ∀ n, Pk P w K mg base (3 + n) ("_law_listed", none) ["_law_node"] (spLst K n) := by
    intro n
    induction n with
    | zero => exact pk_L_listed (k := 2) T (spFl K) ((C_fl).mono (by omega)) (by intro ds γ q e h; first | (obtain ⟨rfl, _⟩ := h; rfl) | (obtain ⟨_, rfl, _⟩ := h; rfl) | (obtain ⟨_, _, rfl, _⟩ := h; rfl) | (obtain ⟨_, _, _, rfl, _⟩ := h; rfl) | (obtain ⟨_, _, _, _, rfl, _⟩ := h; rfl) | (obtain ⟨_, _, _, _, _, rfl, _⟩ := h; rfl) | (obtain ⟨_, _, _, _, _, _, rfl, _⟩ := h; rfl) | (obtain ⟨_, _, _, _, _, _, _, rfl, _⟩ := h; rfl)) (dl_L_listed T _ 0 fun ds γ q e h1 h2 => h1 rfl) (c.t.d.def_ 35 (d := d_L_listed) rfl)
    | succ n ih => exact pk_L_listed (k := 3 + n) T (spLst K n) ((ih).mono (by omega)) (by intro ds γ q e h; first | (obtain ⟨rfl, _⟩ := h; rfl) | (obtain ⟨_, rfl, _⟩ := h; rfl) | (obtain ⟨_, _, rfl, _⟩ := h; rfl) | (obtain ⟨_, _, _, rfl, _⟩ := h; rfl) | (obtain ⟨_, _, _, _, rfl, _⟩ := h; rfl) | (obtain ⟨_, _, _, _, _, rfl, _⟩ := h; rfl) | (obtain ⟨_, _, _, _, _, _, rfl, _⟩ := h; rfl) | (obtain ⟨_, _, _, _, _, _, _, rfl, _⟩ := h; rfl)) (dl_L_listed T _ (n + 1) fun ds γ q e h1 h2 => h2 n rfl) (c.t.d.def_ 35 (d := d_L_listed) rfl)
  have C_L_listed : Pk P w K mg base (10) ("_law_listed", none) ["_law_node"] (sp_L_listed K) := (R_L_listed 7).mono (by decide)
  exact pk_law (j := 15) (k := 319) T (C_L_names.mono (by decide)) (C_L_draw.mono (by decide)) (C_L_truth.mono (by decide)) (C_L_pairs.mono (by decide)) (C_L_value.mono (by decide)) (C_L_listed.mono (by decide)) (C_L_canonical.mono (by decide)) (C_L_is_within.mono (by decide)) (C_holds.mono (by decide)) (C_L_evaluated.mono (by decide)) (C_L_same.mono (by decide)) (C_parse_condition.mono (by decide)) E_Fault (by decide) (dl_law T Z) F
end K09
theorem PySem.Challenge.cw_rerunrein_k09_values_of_conditions_holds : PySem.Challenge.rw_rerunrein_k09_values_of_conditions.Holds := by
  exact K09.fin fun hP X G hfa c => K09.facts hP X G hfa c

