import PyProof.Rows.All
import Wide.All
import OpenK.AllK
import Wide.FinOn
import HandS.ForMost
import HandS.ForExc
import HandS.Defaults
import HandS.HeadHook4
import HandS.Conv
import HandS.Flow
import HandS.IsInst
import HandS.Deep
import HandS.ExcInit
import HandS.ExcOwn
import HandS.HeadEnd
import HandS.Wide
import HandS.RaiseMore
import HandS.Style
import HandS.NoneIn
import HandS.More
import HandS.Proxy
import HandS.HeadHook3
import HandS.NestedK
import KE.KExcSuper
import HandS.ExcField
import HandS.TryOnly
import HandS.ExcIs
import KE.KExcIs
import KE.GoesEnum
import HandS.Zip
import HandS.DictComp
import HandS.SetKeys
import PyProof.DictMoreH
import HandS.TupAny
import HandS.Head0
import HandS.Head1
import HandS.Head2
import PySem.Challenge.RW_rerunrein_k31_messages_refused
import HandS.HeadHook1
import HandS.HeadHook2
set_option Elab.async false
set_option linter.all false
set_option maxRecDepth 100000
set_option maxHeartbeats 2000000
/-! DL: data in place of the heap. -/
namespace DL
open PySem PySem.Spec PyProof.Rows L2

inductive D where
  | non | bl (b : Bool) | int (i : Int) | str (x : Str) | ty (n : String) | ref (a : Addr) | loc (k : Nat)
  | tup (xs : List D) | lst (xs : List D)
  | ins (C : Addr) (ns : List Str) (vs : List D)
  | dic (ks : List Key) (vs : List D)
  | dit (ks : List (List Key)) (vs : List D)
  | exc (a dd C : Addr) (ns : List Str) (vs : List D)
  | cst (xs : List D)
  | exv (C : Addr) (ns : List Str) (vs : List D)

/-- what a mutable object holds -/
inductive MO where
  | lst (xs : List D)
  | ins (C : Addr) (ns : List Str) (vs : List D)
  | dic (ks : List Key) (vs : List D)
  | dit (ks : List (List Key)) (vs : List D)

abbrev Ga := List MO
abbrev Env := List (Option D)
abbrev Frag := PySem.W.Frag
/-- the mutable objects: h those that data may name, by number; x others -/
structure Al where
  h : List Addr
  x : List Addr
/-- no object twice -/
def Al.Nd (α : Al) : Prop := α.h.Nodup ∧ α.x.Nodup ∧ ∀ a ∈ α.h, a ∉ α.x
instance : Membership Addr Al := ⟨fun α a => a ∈ α.h ∨ a ∈ α.x⟩
def Al.push (α : Al) (p : Addr) : Al := ⟨α.h ++ [p], α.x⟩
theorem Al.mem_push {α : Al} {p a : Addr} : a ∈ α.push p ↔ a ∈ α ∨ a = p := by
  show (a ∈ α.h ++ [p] ∨ a ∈ α.x) ↔ ((a ∈ α.h ∨ a ∈ α.x) ∨ a = p)
  rw [List.mem_append, List.mem_singleton]
  constructor
  · rintro ((h | h) | h)
    · exact .inl (.inl h)
    · exact .inr h
    · exact .inl (.inr h)
  · rintro ((h | h) | h)
    · exact .inl (.inl h)
    · exact .inr h
    · exact .inl (.inr h)

def TupS (K : Frag) (H : Hp) (α : Al) (a : Addr) (vs : List V) : Prop :=
  a ∉ α ∧ H a = some (.tup vs)
/-- a tuple of the text's top -/
def TopS (K : Frag) (a : Addr) (vs : List V) : Prop := ∃ (o : Obj) (its : Array Value) (n : Nat), K.lookup a = some o ∧ o.cls = .type "tuple" ∧ o.data = .seq its n ∧ its.size ≤ sizeLine ∧ Vals vs its.toList

mutual
inductive Rp (K : Frag) (H : Hp) (α : Al) : V → D → Prop
  | non : Rp K H α .non .non
  | bl (b : Bool) : Rp K H α (.bl b) (.bl b)
  | int (i : Int) : Rp K H α (.int i) (.int i)
  | str (x : Str) : Rp K H α (.str x) (.str x)
  | ty (n : String) : Rp K H α (.ty n) (.ty n)
  | ref (a : Addr) : Rp K H α (.ref a) (.ref a)
  | loc {k : Nat} {a : Addr} : α.h[k]? = some a → Rp K H α (.ref a) (.loc k)
  | tup {a : Addr} {vs : List V} {ds : List D} : TupS K H α a vs → RpL K H α vs ds → Rp K H α (.ref a) (.tup ds)
  | lst {a : Addr} {vs : List V} {ds : List D} : a ∉ α → H a = some (.lst vs) → RpL K H α vs ds → Rp K H α (.ref a) (.lst ds)
  | ins {a C dx : Addr} {fs : List (Str × V)} {ds : List D} : a ∉ α → H a = some (.ins C dx fs) → RpL K H α (fs.map (·.2)) ds → Rp K H α (.ref a) (.ins C (fs.map (·.1)) ds)
  | dic {a : Addr} {kvs : List (Key × V)} {ds : List D} : a ∉ α → H a = some (.dK kvs) → RpL K H α (kvs.map (·.2)) ds → Rp K H α (.ref a) (.dic (kvs.map (·.1)) ds)
  | dit {a : Addr} {kvs : List (List Key × V)} {ds : List D} : a ∉ α → H a = some (.dT kvs) → RpL K H α (kvs.map (·.2)) ds → Rp K H α (.ref a) (.dit (kvs.map (·.1)) ds)
  | cst {a : Addr} {vs : List V} {ds : List D} : TopS K a vs → RpL K H α vs ds → Rp K H α (.ref a) (.cst ds)
  | exv {a dd C : Addr} {fs : List (Str × V)} {ds : List D} : a ∉ α → dd ∉ α → H a = some (exo a C (some dd)) → H dd = some (exd dd fs) → RpL K H α (fs.map (·.2)) ds → Rp K H α (.ref a) (.exv C (fs.map (·.1)) ds)
  | exc {a dd C : Addr} {fs : List (Str × V)} {ds : List D} : dd ∉ α → H dd = some (.xd fs) → RpL K H α (fs.map (·.2)) ds → Rp K H α (.ref a) (.exc a dd C (fs.map (·.1)) ds)
inductive RpL (K : Frag) (H : Hp) (α : Al) : List V → List D → Prop
  | nil : RpL K H α [] []
  | cons {v : V} {vs : List V} {d : D} {ds : List D} : Rp K H α v d → RpL K H α vs ds → RpL K H α (v :: vs) (d :: ds)
end

theorem Al.out_of {α α' : Al} {a : Addr} (eh : α'.h = α.h) (ex : ∀ a ∈ α'.x, a ∈ α.x) (n : a ∉ α) : a ∉ α' := fun h => by
  rcases h with h | h
  · exact n (.inl (by rw [← eh]; exact h))
  · exact n (.inr (ex a h))
/-- the heap grows; what is not mutable stands -/
structure ExtW (α : Al) (H : Hp) (α' : Al) (H' : Hp) : Prop where
  al : ∃ β, α'.h = α.h ++ β ∧ ∀ b ∈ β, H b = none
  nd : α'.Nd
  xx : ∃ δ, α'.x = δ ++ α.x ∧ ∀ b ∈ δ, H b = none
  keep : ∀ a o, a ∉ α → H a = some o → H' a = some o

theorem ExtW.refl {α : Al} {H : Hp} (h : α.Nd) : ExtW α H α H := ⟨⟨[], by simp, by simp⟩, h, ⟨[], by simp, by simp⟩, fun _ _ _ h => h⟩
theorem ExtW.out {α α' : Al} {H H' : Hp} (e : ExtW α H α' H') {a : Addr} {o : HO} (h : a ∉ α) (ho : H a = some o) : a ∉ α' := by
  obtain ⟨β, e1, f⟩ := e.al
  intro hm
  rcases hm with z | z
  · rw [e1] at z
    rcases List.mem_append.mp z with z | z
    · exact h (.inl z)
    · rw [f a z] at ho; cases ho
  · obtain ⟨δ, e2, f2⟩ := e.xx
    rw [e2] at z
    rcases List.mem_append.mp z with z | z
    · rw [f2 a z] at ho; cases ho
    · exact h (.inr z)
theorem ExtW.trans {α α1 α2 : Al} {H H1 H2 : Hp} (a : ExtW α H α1 H1) (b : ExtW α1 H1 α2 H2) : ExtW α H α2 H2 := by
  obtain ⟨β, e1, f1⟩ := a.al
  obtain ⟨β', e2, f2⟩ := b.al
  obtain ⟨δ, e3, f3⟩ := a.xx
  obtain ⟨δ', e4, f4⟩ := b.xx
  have back : ∀ x, H1 x = none → (x ∈ α → False) → H x = none := fun x h1 hxa => by
    cases q : H x with
    | none => rfl
    | some o => rw [a.keep x o (fun z => hxa z) q] at h1; cases h1
  refine ⟨⟨β ++ β', by rw [e2, e1, List.append_assoc], fun x hx => ?_⟩, b.nd, ⟨δ' ++ δ, by rw [e4, e3, List.append_assoc], fun x hx => ?_⟩, fun x o hx ho => b.keep x o (a.out hx ho) (a.keep x o hx ho)⟩
  · rcases List.mem_append.mp hx with h | h
    · exact f1 x h
    · refine back x (f2 x h) fun hm => ?_
      rcases hm with hm | hm
      · have nd := b.nd.1
        rw [e2] at nd
        exact (List.nodup_append.mp nd).2.2 x (by rw [e1]; exact List.mem_append_left _ hm) x h rfl
      · refine b.nd.2.2 x (by rw [e2]; exact List.mem_append_right _ h) ?_
        rw [e4, e3]
        exact List.mem_append_right _ (List.mem_append_right _ hm)
  · rcases List.mem_append.mp hx with h | h
    · refine back x (f4 x h) fun hm => ?_
      rcases hm with hm | hm
      · refine b.nd.2.2 x (by rw [e2, e1]; exact List.mem_append_left _ (List.mem_append_left _ hm)) ?_
        rw [e4]
        exact List.mem_append_left _ h
      · have nd := b.nd.2.1
        rw [e4, e3] at nd
        exact (List.nodup_append.mp nd).2.2 x h x (List.mem_append_right _ hm) rfl
    · exact f3 x h
theorem ExtW.get {α α' : Al} {H H' : Hp} (e : ExtW α H α' H') {k : Nat} {a : Addr} (h : α.h[k]? = some a) : α'.h[k]? = some a := by
  obtain ⟨β, e1, _⟩ := e.al
  rw [e1, List.getElem?_append_left (List.getElem?_eq_some_iff.mp h).1]
  exact h
theorem TupS.mono {K : Frag} {α α' : Al} {H H' : Hp} (e : ExtW α H α' H') {a : Addr} {vs : List V} (h : TupS K H α a vs) : TupS K H' α' a vs := by
  exact ⟨e.out h.1 h.2, e.keep _ _ h.1 h.2⟩
theorem TupS.sq {K : Frag} {α : Al} {H : Hp} {a : Addr} {vs : List V} (h : TupS K H α a vs) : SqT K H a vs := by
  exact .inl (.inl h.2)
theorem TopS.sq {K : Frag} {H : Hp} {a : Addr} {vs : List V} (h : TopS K a vs) : SqT K H a vs := .inr h
mutual
theorem Rp.monoW {K : Frag} {α α' : Al} {H H' : Hp} (e : ExtW α H α' H') : ∀ (d : D) (v : V), Rp K H α v d → Rp K H' α' v d
  | .non, _, h => by cases h; exact .non
  | .bl b, _, h => by cases h; exact .bl b
  | .int i, _, h => by cases h; exact .int i
  | .str x, _, h => by cases h; exact .str x
  | .ty n, _, h => by cases h; exact .ty n
  | .ref a, _, h => by cases h; exact .ref a
  | .loc k, _, h => by cases h with | loc h => exact .loc (e.get h)
  | .tup ds, _, h => by cases h with | tup h1 h2 => exact .tup (h1.mono e) (RpL.monoW e ds _ h2)
  | .lst ds, _, h => by cases h with | lst h1 h2 h3 => exact .lst (e.out h1 h2) (e.keep _ _ h1 h2) (RpL.monoW e ds _ h3)
  | .ins C ns ds, _, h => by cases h with | ins h1 h2 h3 => exact .ins (e.out h1 h2) (e.keep _ _ h1 h2) (RpL.monoW e ds _ h3)
  | .dic ks ds, _, h => by cases h with | dic h1 h2 h3 => exact .dic (e.out h1 h2) (e.keep _ _ h1 h2) (RpL.monoW e ds _ h3)
  | .dit ks ds, _, h => by cases h with | dit h1 h2 h3 => exact .dit (e.out h1 h2) (e.keep _ _ h1 h2) (RpL.monoW e ds _ h3)
  | .exc a dd C ks ds, _, h => by cases h with | exc h1 h2 h3 => exact .exc (e.out h1 h2) (e.keep _ _ h1 h2) (RpL.monoW e ds _ h3)
  | .cst ds, _, h => by cases h with | cst h1 h2 => exact .cst h1 (RpL.monoW e ds _ h2)
  | .exv C ks ds, _, h => by cases h with | exv h1 h2 h3 h4 h5 => exact .exv (e.out h1 h3) (e.out h2 h4) (e.keep _ _ h1 h3) (e.keep _ _ h2 h4) (RpL.monoW e ds _ h5)
theorem RpL.monoW {K : Frag} {α α' : Al} {H H' : Hp} (e : ExtW α H α' H') : ∀ (ds : List D) (vs : List V), RpL K H α vs ds → RpL K H' α' vs ds
  | [], _, h => by cases h; exact .nil
  | d :: ds, _, h => by cases h with | cons h1 h2 => exact .cons (Rp.monoW e d _ h1) (RpL.monoW e ds _ h2)
end
mutual
/-- fewer that may change -/
theorem Rp.shw {K : Frag} {α α' : Al} {H : Hp} (eh : α'.h = α.h) (ex : ∀ a ∈ α'.x, a ∈ α.x) : ∀ (d : D) (v : V), Rp K H α v d → Rp K H α' v d
  | .non, _, h => by cases h; exact .non
  | .bl b, _, h => by cases h; exact .bl b
  | .int i, _, h => by cases h; exact .int i
  | .str x, _, h => by cases h; exact .str x
  | .ty n, _, h => by cases h; exact .ty n
  | .ref a, _, h => by cases h; exact .ref a
  | .loc k, _, h => by cases h with | loc h => exact .loc (by rw [eh]; exact h)
  | .tup ds, _, h => by
    cases h with
    | tup h1 h2 =>
      exact .tup ⟨Al.out_of eh ex h1.1, h1.2⟩ (RpL.shw eh ex ds _ h2)
  | .lst ds, _, h => by cases h with | lst h1 h2 h3 => exact .lst (Al.out_of eh ex h1) h2 (RpL.shw eh ex ds _ h3)
  | .ins C ns ds, _, h => by cases h with | ins h1 h2 h3 => exact .ins (Al.out_of eh ex h1) h2 (RpL.shw eh ex ds _ h3)
  | .dic ks ds, _, h => by cases h with | dic h1 h2 h3 => exact .dic (Al.out_of eh ex h1) h2 (RpL.shw eh ex ds _ h3)
  | .dit ks ds, _, h => by cases h with | dit h1 h2 h3 => exact .dit (Al.out_of eh ex h1) h2 (RpL.shw eh ex ds _ h3)
  | .exc a dd C ks ds, _, h => by cases h with | exc h1 h2 h3 => exact .exc (Al.out_of eh ex h1) h2 (RpL.shw eh ex ds _ h3)
  | .cst ds, _, h => by cases h with | cst h1 h2 => exact .cst h1 (RpL.shw eh ex ds _ h2)
  | .exv C ks ds, _, h => by cases h with | exv h1 h2 h3 h4 h5 => exact .exv (Al.out_of eh ex h1) (Al.out_of eh ex h2) h3 h4 (RpL.shw eh ex ds _ h5)
theorem RpL.shw {K : Frag} {α α' : Al} {H : Hp} (eh : α'.h = α.h) (ex : ∀ a ∈ α'.x, a ∈ α.x) : ∀ (ds : List D) (vs : List V), RpL K H α vs ds → RpL K H α' vs ds
  | [], _, h => by cases h; exact .nil
  | d :: ds, _, h => by cases h with | cons h1 h2 => exact .cons (Rp.shw eh ex d _ h1) (RpL.shw eh ex ds _ h2)
end
section
variable {K : Frag} {α α' : Al} {H H' : Hp}
theorem RpL.length : ∀ {vs : List V} {ds : List D}, RpL K H α vs ds → vs.length = ds.length
  | _, [], h => by cases h; rfl
  | _, _ :: _, h => by cases h with | cons _ h2 => simp [RpL.length h2]
theorem RpL.get : ∀ {vs : List V} {ds : List D} {i : Nat} {d : D}, RpL K H α vs ds → ds[i]? = some d → ∃ v, vs[i]? = some v ∧ Rp K H α v d
  | _, [], _, _, _, e => by simp at e
  | _, _ :: _, 0, _, h, e => by cases h with | cons h1 h2 => simp at e; subst e; exact ⟨_, rfl, h1⟩
  | _, _ :: _, i + 1, _, h, e => by
    cases h with
    | cons h1 h2 =>
      obtain ⟨v, q1, q2⟩ := RpL.get (i := i) h2 (by simpa using e)
      exact ⟨v, by simpa using q1, q2⟩
theorem RpL.getV : ∀ {vs : List V} {ds : List D} {i : Nat} {v : V}, RpL K H α vs ds → vs[i]? = some v → ∃ d, ds[i]? = some d ∧ Rp K H α v d
  | [], _, _, _, _, e => by simp at e
  | _ :: _, _, 0, _, h, e => by cases h with | cons h1 h2 => simp at e; subst e; exact ⟨_, rfl, h1⟩
  | _ :: _, _, i + 1, _, h, e => by
    cases h with
    | cons h1 h2 =>
      obtain ⟨v, q1, q2⟩ := RpL.getV (i := i) h2 (by simpa using e)
      exact ⟨v, by simpa using q1, q2⟩
theorem RpL.append : ∀ {vs ws : List V} {ds es : List D}, RpL K H α vs ds → RpL K H α ws es → RpL K H α (vs ++ ws) (ds ++ es)
  | _, _, [], _, h, h' => by cases h; exact h'
  | _, _, _ :: _, _, h, h' => by cases h with | cons h1 h2 => exact .cons h1 (RpL.append h2 h')
theorem RpL.take : ∀ {vs : List V} {ds : List D} (n : Nat), RpL K H α vs ds → RpL K H α (vs.take n) (ds.take n)
  | _, _, 0, _ => .nil
  | _, [], _ + 1, h => by cases h; exact .nil
  | _, _ :: _, n + 1, h => by cases h with | cons h1 h2 => exact .cons h1 (RpL.take n h2)
theorem RpL.drop : ∀ {vs : List V} {ds : List D} (n : Nat), RpL K H α vs ds → RpL K H α (vs.drop n) (ds.drop n)
  | _, _, 0, h => h
  | _, [], _ + 1, h => by cases h; exact .nil
  | _, _ :: _, n + 1, h => by cases h with | cons h1 h2 => exact RpL.drop n h2
theorem RpL.set {v : V} {d : D} (r : Rp K H α v d) : ∀ {vs : List V} {ds : List D} (i : Nat), RpL K H α vs ds → RpL K H α (vs.set i v) (ds.set i d)
  | _, [], _, h => by cases h; exact .nil
  | _, _ :: _, 0, h => by cases h with | cons h1 h2 => exact .cons r h2
  | _, _ :: _, i + 1, h => by cases h with | cons h1 h2 => exact .cons h1 (RpL.set r i h2)
theorem RpL.eraseIdx : ∀ {vs : List V} {ds : List D} (i : Nat), RpL K H α vs ds → RpL K H α (vs.eraseIdx i) (ds.eraseIdx i)
  | _, [], _, h => by cases h; exact .nil
  | _, _ :: _, 0, h => by cases h with | cons h1 h2 => exact h2
  | _, _ :: _, i + 1, h => by cases h with | cons h1 h2 => exact .cons h1 (RpL.eraseIdx i h2)
theorem RpL.dropLast {vs : List V} {ds : List D} (h : RpL K H α vs ds) : RpL K H α vs.dropLast ds.dropLast := by
  rw [List.dropLast_eq_take, List.dropLast_eq_take, h.length]
  exact h.take _
end
/-- .. and the objects without a number stand, too -/
structure Ext (α : Al) (H : Hp) (α' : Al) (H' : Hp) : Prop extends ExtW α H α' H' where
  keepx : ∀ a o, a ∈ α.x → H a = some o → H' a = some o
theorem Ext.refl {α : Al} {H : Hp} (h : α.Nd) : Ext α H α H := ⟨ExtW.refl h, fun _ _ _ h => h⟩
theorem Ext.trans {α α1 α2 : Al} {H H1 H2 : Hp} (a : Ext α H α1 H1) (b : Ext α1 H1 α2 H2) : Ext α H α2 H2 :=
  ⟨a.toExtW.trans b.toExtW, fun x o h ho => b.keepx x o (by obtain ⟨δ, e, _⟩ := a.xx; rw [e]; exact List.mem_append_right _ h) (a.keepx x o h ho)⟩
theorem Ext.out {α α' : Al} {H H' : Hp} (e : Ext α H α' H') {a : Addr} {o : HO} (h : a ∉ α) (ho : H a = some o) : a ∉ α' := e.toExtW.out h ho
theorem Ext.get {α α' : Al} {H H' : Hp} (e : Ext α H α' H') {k : Nat} {a : Addr} (h : α.h[k]? = some a) : α'.h[k]? = some a := e.toExtW.get h
theorem Rp.mono {K : Frag} {α α' : Al} {H H' : Hp} (e : Ext α H α' H') (d : D) (v : V) (h : Rp K H α v d) : Rp K H' α' v d := Rp.monoW e.toExtW d v h
theorem RpL.mono {K : Frag} {α α' : Al} {H H' : Hp} (e : Ext α H α' H') (d : List D) (v : List V) (h : RpL K H α v d) : RpL K H' α' v d := RpL.monoW e.toExtW d v h
theorem TupS.monoE {K : Frag} {α α' : Al} {H H' : Hp} (e : Ext α H α' H') {a : Addr} {vs : List V} (h : TupS K H α a vs) : TupS K H' α' a vs := h.mono e.toExtW
end DL

set_option Elab.async false
set_option linter.all false
set_option maxRecDepth 100000
set_option maxHeartbeats 2000000
namespace DL
open PySem PySem.Spec PyProof.Rows L2

def MOk (K : Frag) (H : Hp) (α : Al) (a : Addr) : MO → Prop
  | .lst ds => ∃ vs, H a = some (.lst vs) ∧ RpL K H α vs ds
  | .ins C ns ds => ∃ dx fs, H a = some (.ins C dx fs) ∧ fs.map (·.1) = ns ∧ RpL K H α (fs.map (·.2)) ds
  | .dic ks ds => ∃ kvs, H a = some (.dK kvs) ∧ kvs.map (·.1) = ks ∧ RpL K H α (kvs.map (·.2)) ds
  | .dit ks ds => ∃ kvs, H a = some (.dT kvs) ∧ kvs.map (·.1) = ks ∧ RpL K H α (kvs.map (·.2)) ds
structure GaOk (K : Frag) (H : Hp) (α : Al) (γ : Ga) : Prop where
  nd : α.Nd
  len : α.h.length = γ.length
  at_ : ∀ (k : Nat) (a : Addr) (m : MO), α.h[k]? = some a → γ[k]? = some m → MOk K H α a m
  xs : ∀ a ∈ α.x, ∃ o, H a = some o
section
variable {K : Frag} {α α' : Al} {H H' : Hp} {γ : Ga}
theorem MOk.there {a : Addr} : ∀ {m : MO}, MOk K H α a m → ∃ o, H a = some o
  | .lst _, h => by obtain ⟨_, h, _⟩ := h; exact ⟨_, h⟩
  | .ins _ _ _, h => by obtain ⟨_, _, h, _⟩ := h; exact ⟨_, h⟩
  | .dic _ _, h => by obtain ⟨_, h, _⟩ := h; exact ⟨_, h⟩
  | .dit _ _, h => by obtain ⟨_, h, _⟩ := h; exact ⟨_, h⟩
theorem MOk.monoW (e : ExtW α H α' H') {a : Addr} (k : ∀ o, H a = some o → H' a = some o) : ∀ {m : MO}, MOk K H α a m → MOk K H' α' a m
  | .lst _, h => by obtain ⟨_, h, r⟩ := h; exact ⟨_, k _ h, RpL.monoW e _ _ r⟩
  | .ins _ _ _, h => by obtain ⟨_, _, h, n, r⟩ := h; exact ⟨_, _, k _ h, n, RpL.monoW e _ _ r⟩
  | .dic _ _, h => by obtain ⟨_, h, n, r⟩ := h; exact ⟨_, k _ h, n, RpL.monoW e _ _ r⟩
  | .dit _ _, h => by obtain ⟨_, h, n, r⟩ := h; exact ⟨_, k _ h, n, RpL.monoW e _ _ r⟩
theorem MOk.mono (e : Ext α H α' H') {a : Addr} (k : ∀ o, H a = some o → H' a = some o) {m : MO} (h : MOk K H α a m) : MOk K H' α' a m := h.monoW e.toExtW k
theorem GaOk.thereH (g : GaOk K H α γ) {a : Addr} (h : a ∈ α.h) : ∃ o, H a = some o := by
  obtain ⟨k, hk, e⟩ := List.mem_iff_getElem.mp h
  have hk' : k < γ.length := by rw [← g.len]; exact hk
  exact (g.at_ k a γ[k] (by rw [List.getElem?_eq_getElem hk, e]) (List.getElem?_eq_getElem hk')).there
theorem GaOk.there (g : GaOk K H α γ) {a : Addr} (h : a ∈ α) : ∃ o, H a = some o := by
  rcases h with h | h
  · exact g.thereH h
  · exact g.xs a h
theorem GaOk.refl (g : GaOk K H α γ) : Ext α H α H := Ext.refl g.nd
theorem kx0 (g : GaOk K H α γ) {p : Addr} {o : HO} (hp : p ∉ α.x) : ∀ a u, a ∈ α.x → H a = some u → upd H p o a = some u := fun a u h e => by rw [upd_ne (fun z : a = p => hp (z ▸ h))]; exact e
theorem GaOk.new (g : GaOk K H α γ) {p : Addr} (hp : H p = none) : p ∉ α := fun h => by
  obtain ⟨o, e⟩ := g.there h
  rw [hp] at e; cases e
theorem ext_imm0 (g : GaOk K H α γ) {p : Addr} {o : HO} (hp : H p = none) : Ext α H α (upd H p o) :=
  ⟨⟨⟨[], by simp, by simp⟩, g.nd, ⟨[], by simp, by simp⟩, fun a u _ h => by rw [upd_ne (ne_of_none h hp)]; exact h⟩, kx0 g fun z => g.new hp (.inr z)⟩
theorem xs_upd (x : ∀ a ∈ α.x, ∃ o, H a = some o) {p : Addr} {o : HO} : ∀ a ∈ α.x, ∃ u, upd H p o a = some u := fun a h => by
  by_cases e : a = p
  · subst e; exact ⟨o, upd_same⟩
  · rw [upd_ne e]; exact x a h
theorem ga_imm0 (g : GaOk K H α γ) {p : Addr} {o : HO} (hp : H p = none) : GaOk K (upd H p o) α γ :=
  ⟨g.nd, g.len, fun k a m h1 h2 => (g.at_ k a m h1 h2).mono (ext_imm0 g hp) fun u h => by rw [upd_ne (ne_of_none h hp)]; exact h, xs_upd g.xs⟩
theorem ext_loc0 (g : GaOk K H α γ) {p : Addr} {o : HO} (hp : H p = none) : Ext α H (α.push p) (upd H p o) :=
  ⟨⟨⟨[p], rfl, fun b hb => by
    have e : b = p := by simpa using hb
    rw [e]; exact hp⟩, by
    refine ⟨?_, g.nd.2.1, fun a ha => ?_⟩
    · show (α.h ++ [p]).Nodup
      rw [List.nodup_append]
      refine ⟨g.nd.1, by simp, fun a ha b hb e => ?_⟩
      have eb : b = p := by simpa using hb
      exact g.new hp (.inl (by rw [← eb, ← e]; exact ha))
    · rcases List.mem_append.mp (show a ∈ α.h ++ [p] from ha) with h | h
      · exact g.nd.2.2 a h
      · have eb : a = p := by simpa using h
        rw [eb]
        exact fun z => g.new hp (.inr z), ⟨[], by simp [Al.push], by simp⟩, fun a u _ h => by rw [upd_ne (ne_of_none h hp)]; exact h⟩, kx0 g fun z => g.new hp (.inr z)⟩
theorem ga_loc0 (g : GaOk K H α γ) {p : Addr} {o : HO} {m : MO} (hp : H p = none) (hm : MOk K (upd H p o) (α.push p) p m) : GaOk K (upd H p o) (α.push p) (γ ++ [m]) := by
  have e := ext_loc0 g (o := o) hp
  refine ⟨e.nd, by show (α.h ++ [p]).length = _; simp [g.len], fun k a m' h1 h2 => ?_, xs_upd g.xs⟩
  have h1 : (α.h ++ [p])[k]? = some a := h1
  by_cases hk : k < α.h.length
  · rw [List.getElem?_append_left hk] at h1
    rw [List.getElem?_append_left (by rw [← g.len]; exact hk)] at h2
    exact (g.at_ k a m' h1 h2).mono e fun u h => by rw [upd_ne (ne_of_none h hp)]; exact h
  · have hk2 : k = α.h.length := by
      have := (List.getElem?_eq_some_iff.mp h1).1
      simp at this; omega
    subst hk2
    rw [List.getElem?_append_right (Nat.le_refl _)] at h1
    rw [List.getElem?_append_right (by rw [g.len]; exact Nat.le_refl _)] at h2
    simp at h1
    rw [g.len] at h2
    simp at h2
    subst h1 h2
    exact hm
theorem ext_setW0 (g : GaOk K H α γ) {a : Addr} {o : HO} (ha : a ∈ α) : ExtW α H α (upd H a o) :=
  ⟨⟨[], by simp, by simp⟩, g.nd, ⟨[], by simp, by simp⟩, fun b u hb h => by rw [upd_ne (fun e : b = a => hb (by rw [e]; exact ha))]; exact h⟩
theorem ext_set0 (g : GaOk K H α γ) {a : Addr} {o : HO} (ha : a ∈ α.h) : Ext α H α (upd H a o) := ⟨ext_setW0 g (.inl ha), kx0 g (g.nd.2.2 a ha)⟩
theorem ga_set0 (g : GaOk K H α γ) {a : Addr} {k : Nat} {o : HO} {m : MO} (ha : α.h[k]? = some a) (hm : MOk K (upd H a o) α a m) : GaOk K (upd H a o) α (γ.set k m) := by
  have e := ext_set0 g (o := o) (List.mem_of_getElem? ha)
  refine ⟨g.nd, by simp [g.len], fun j b m' h1 h2 => ?_, xs_upd g.xs⟩
  by_cases hj : j = k
  · subst hj
    rw [ha] at h1; cases h1
    have hl : j < γ.length := by rw [← g.len]; exact (List.getElem?_eq_some_iff.mp ha).1
    rw [List.getElem?_set_self hl] at h2
    cases h2
    exact hm
  · rw [List.getElem?_set_ne (Ne.symm hj)] at h2
    refine (g.at_ j b m' h1 h2).mono e fun u h => ?_
    rw [upd_ne]
    · exact h
    · intro z
      subst z
      obtain ⟨l1, e1⟩ := List.getElem?_eq_some_iff.mp h1
      obtain ⟨l2, e2⟩ := List.getElem?_eq_some_iff.mp ha
      exact hj ((List.getElem_inj g.nd.1).mp (e1.trans e2.symm))
theorem GaOk.adr (g : GaOk K H α γ) {k : Nat} {m : MO} (h : γ[k]? = some m) : ∃ a, α.h[k]? = some a ∧ MOk K H α a m := by
  have hk : k < α.h.length := by rw [g.len]; exact (List.getElem?_eq_some_iff.mp h).1
  exact ⟨α.h[k], List.getElem?_eq_getElem hk, g.at_ k _ m (List.getElem?_eq_getElem hk) h⟩
end

theorem MOk.shw {K : Frag} {α α' : Al} {H : Hp} (eh : α'.h = α.h) (ex : ∀ a ∈ α'.x, a ∈ α.x) {a : Addr} : ∀ {m : MO}, MOk K H α a m → MOk K H α' a m
  | .lst _, h => by obtain ⟨_, h, r⟩ := h; exact ⟨_, h, RpL.shw eh ex _ _ r⟩
  | .ins _ _ _, h => by obtain ⟨_, _, h, n, r⟩ := h; exact ⟨_, _, h, n, RpL.shw eh ex _ _ r⟩
  | .dic _ _, h => by obtain ⟨_, h, n, r⟩ := h; exact ⟨_, h, n, RpL.shw eh ex _ _ r⟩
  | .dit _ _, h => by obtain ⟨_, h, n, r⟩ := h; exact ⟨_, h, n, RpL.shw eh ex _ _ r⟩
/-! ### a new object that may change, but has no number -/
def Al.hid (α : Al) (p : Addr) : Al := ⟨α.h, p :: α.x⟩
def Al.un (α : Al) (p : Addr) : Al := ⟨α.h, α.x.filter fun a => decide (a ≠ p)⟩
section
variable {K : Frag} {α α' : Al} {H H' : Hp} {γ : Ga}
theorem ext_hid0 (g : GaOk K H α γ) {p : Addr} {o : HO} (hp : H p = none) : Ext α H (α.hid p) (upd H p o) :=
  ⟨⟨⟨[], by simp [Al.hid], by simp⟩, ⟨g.nd.1, List.nodup_cons.mpr ⟨fun z => g.new hp (.inr z), g.nd.2.1⟩, fun a ha hm => by
    rcases List.mem_cons.mp hm with z | z
    · subst z; exact g.new hp (.inl ha)
    · exact g.nd.2.2 a ha z⟩, ⟨[p], rfl, fun b hb => by
    have e : b = p := by simpa using hb
    rw [e]; exact hp⟩, fun a u _ h => by rw [upd_ne (ne_of_none h hp)]; exact h⟩, kx0 g fun z => g.new hp (.inr z)⟩
theorem ga_hid0 (g : GaOk K H α γ) {p : Addr} {o : HO} (hp : H p = none) : GaOk K (upd H p o) (α.hid p) γ :=
  ⟨(ext_hid0 g (o := o) hp).nd, g.len, fun k a m h1 h2 => (g.at_ k a m h1 h2).mono (ext_hid0 g hp) fun u h => by rw [upd_ne (ne_of_none h hp)]; exact h, fun a ha => by
    rcases List.mem_cons.mp ha with z | z
    · subst z; exact ⟨_, upd_same⟩
    · exact xs_upd g.xs a z⟩
theorem un_x {p : Addr} : ∀ a ∈ (α.un p).x, a ∈ α.x := fun a h => (List.mem_filter.mp h).1
theorem ext_un0 (g : GaOk K H α γ) (e : Ext α H α' H') {p : Addr} (hp : H p = none) : Ext α H (α'.un p) H' := by
  obtain ⟨δ, e1, f1⟩ := e.xx
  refine ⟨⟨e.al, ⟨e.nd.1, e.nd.2.1.sublist (List.filter_sublist ..), fun a ha hm => e.nd.2.2 a ha (un_x a hm)⟩, ⟨δ.filter fun a => decide (a ≠ p), ?_, fun b hb => f1 b (List.mem_filter.mp hb).1⟩, e.keep⟩, e.keepx⟩
  show α'.x.filter _ = _
  rw [e1, List.filter_append]
  congr 1
  apply List.filter_eq_self.mpr
  intro a ha
  apply decide_eq_true
  intro z
  subst z
  exact g.new hp (.inr ha)
theorem ga_un0 (g : GaOk K H α γ) {p : Addr} : GaOk K H (α.un p) γ :=
  ⟨⟨g.nd.1, g.nd.2.1.sublist (List.filter_sublist ..), fun a ha hm => g.nd.2.2 a ha (un_x a hm)⟩, g.len, fun k a m h1 h2 => MOk.shw (α := α) (α' := α.un p) rfl un_x (g.at_ k a m h1 h2), fun a ha => g.xs a (un_x a ha)⟩
theorem out_un {p : Addr} (h : p ∉ α.h) : p ∉ α.un p := fun z => by
  rcases z with z | z
  · exact h z
  · exact of_decide_eq_true (List.mem_filter.mp z).2 rfl
/-- the hidden object is written -/
theorem ext_hset0 {α1 : Al} {H1 : Hp} (g1 : GaOk K H1 α1 γ') (e : Ext α1 H1 α H) {a : Addr} {o : HO} (ha : H1 a = none) : Ext α1 H1 α (upd H a o) :=
  ⟨⟨e.al, e.nd, e.xx, fun b u hb h => by rw [upd_ne (ne_of_none h ha)]; exact e.keep b u hb h⟩, fun b u hb h => by rw [upd_ne (ne_of_none h ha)]; exact e.keepx b u hb h⟩
theorem ga_hset0 (g : GaOk K H α γ) {a : Addr} {o : HO} (ha : a ∈ α.x) : GaOk K (upd H a o) α γ :=
  ⟨g.nd, g.len, fun k b m h1 h2 => (g.at_ k b m h1 h2).monoW (ext_setW0 g (.inr ha)) fun u h => by
    rw [upd_ne]
    · exact h
    · intro z
      subst z
      exact g.nd.2.2 b (List.mem_of_getElem? h1) ha, xs_upd g.xs⟩
end

/-- the slots -/
def RpE (K : Frag) (H : Hp) (α : Al) (σ : L2.St) (ρ : Env) : Prop := σ.length = ρ.length ∧ ∀ (i : Nat) (d : D), ρ[i]? = some (some d) → ∃ v, σ[i]? = some (some v) ∧ Rp K H α v d
theorem RpE.mono {K : Frag} {α α' : Al} {H H' : Hp} {σ : L2.St} {ρ : Env} (e : Ext α H α' H') (r : RpE K H α σ ρ) : RpE K H' α' σ ρ :=
  ⟨r.1, fun i d h => let ⟨v, h1, h2⟩ := r.2 i d h; ⟨v, h1, Rp.mono e d v h2⟩⟩
theorem RpE.set {K : Frag} {α : Al} {H : Hp} {σ : L2.St} {ρ : Env} (r : RpE K H α σ ρ) (i : Nat) {v : V} {d : D} (h : Rp K H α v d) : RpE K H α (σ.set i (some v)) (ρ.set i (some d)) := by
  refine ⟨by simp [r.1], fun j e hj => ?_⟩
  by_cases hij : i = j
  · subst hij
    have hl : i < ρ.length := by
      have := (List.getElem?_eq_some_iff.mp hj).1
      simpa using this
    rw [List.getElem?_set_self hl] at hj
    cases hj
    exact ⟨v, by rw [List.getElem?_set_self (by rw [r.1]; exact hl)], h⟩
  · rw [List.getElem?_set_ne hij] at hj
    obtain ⟨w, h1, h2⟩ := r.2 j e hj
    exact ⟨w, by rw [List.getElem?_set_ne hij]; exact h1, h2⟩
/-- what stands around: the written part, the wish of an exception, the same over data -/
abbrev XD := Addr → List Str → List D → Ga → Prop
structure KX where
  f : Frag
  E : WX
  e : Env → XD
instance : CoeOut KX Frag := ⟨KX.f⟩
def Exc (K : KX) (α : Al) (H : Hp) : Prop :=
  ∀ σ ρ C dd fs ds γ' α' H', K.e ρ C (fs.map (·.1)) ds γ' → RpE K.f H' α' σ ρ → Ext α H α' H' → GaOk K.f H' α' γ' → H' dd = some (.xd fs) → dd ∉ α' → RpL K.f H' α' (fs.map (·.2)) ds → K.E (.ref C) (some dd) σ H'
theorem ext_none {α α' : Al} {H H' : Hp} (e : Ext α H α' H') {p : Addr} (h : H' p = none) (there : ∀ a o, a ∈ α → H a = some o → ∃ o', H' a = some o') : H p = none := by
  cases q : H p with
  | none => rfl
  | some o =>
    by_cases hp : p ∈ α
    · obtain ⟨o', e'⟩ := there p o hp q
      rw [h] at e'; cases e'
    · rw [e.keep p o hp q] at h; cases h
structure GaX (K : KX) (H : Hp) (α : Al) (γ : Ga) : Prop extends GaOk K.f H α γ where
  exc : Exc K α H
theorem GaOk.noneB {K : Frag} {α α' : Al} {H H' : Hp} {γ : Ga} (g : GaOk K H' α' γ) (e : Ext α H α' H') {p : Addr} (h : H' p = none) : H p = none :=
  ext_none e h fun a o ha _ => g.there (by
    obtain ⟨β, e1, _⟩ := e.al
    obtain ⟨δ, e2, _⟩ := e.xx
    rcases ha with z | z
    · exact .inl (by rw [e1]; exact List.mem_append_left _ z)
    · exact .inr (by rw [e2]; exact List.mem_append_right _ z))
theorem Exc.mono {K : KX} {α α' : Al} {H H' : Hp} {γ : Ga} (x : Exc K α H) (g : GaOk K.f H' α' γ) (e : Ext α H α' H') : Exc K α' H' :=
  fun σ ρ C dd fs ds γ2 α2 H2 h r e2 g2 d o rl => x σ ρ C dd fs ds γ2 α2 H2 h r (e.trans e2) g2 d o rl
section
variable {K : KX} {α α' : Al} {H H' : Hp} {γ γ' : Ga}
theorem GaX.go (g : GaX K H α γ) (g' : GaOk K.f H' α' γ') (e : Ext α H α' H') : GaX K H' α' γ' := ⟨g', g.exc.mono g' e⟩
theorem kx (g : GaX K H α γ) {p : Addr} {o : HO} (hp : p ∉ α.x) : ∀ a u, a ∈ α.x → H a = some u → upd H p o a = some u := kx0 g.toGaOk hp
theorem ext_imm (g : GaX K H α γ) {p : Addr} {o : HO} (hp : H p = none) : Ext α H α (upd H p o) := ext_imm0 g.toGaOk hp
theorem ga_imm (g : GaX K H α γ) {p : Addr} {o : HO} (hp : H p = none) : GaX K (upd H p o) α γ := g.go (ga_imm0 g.toGaOk hp) (ext_imm g hp)
theorem ext_loc (g : GaX K H α γ) {p : Addr} {o : HO} (hp : H p = none) : Ext α H (α.push p) (upd H p o) := ext_loc0 g.toGaOk hp
theorem ga_loc (g : GaX K H α γ) {p : Addr} {o : HO} {m : MO} (hp : H p = none) (hm : MOk K.f (upd H p o) (α.push p) p m) : GaX K (upd H p o) (α.push p) (γ ++ [m]) := g.go (ga_loc0 g.toGaOk hp hm) (ext_loc g hp)
theorem ext_setW (g : GaX K H α γ) {a : Addr} {o : HO} (ha : a ∈ α) : ExtW α H α (upd H a o) := ext_setW0 g.toGaOk ha
theorem ext_set (g : GaX K H α γ) {a : Addr} {o : HO} (ha : a ∈ α.h) : Ext α H α (upd H a o) := ext_set0 g.toGaOk ha
theorem ga_set (g : GaX K H α γ) {a : Addr} {k : Nat} {o : HO} {m : MO} (ha : α.h[k]? = some a) (hm : MOk K.f (upd H a o) α a m) : GaX K (upd H a o) α (γ.set k m) := g.go (ga_set0 g.toGaOk ha hm) (ext_set g (List.mem_of_getElem? ha))
theorem ext_hid (g : GaX K H α γ) {p : Addr} {o : HO} (hp : H p = none) : Ext α H (α.hid p) (upd H p o) := ext_hid0 g.toGaOk hp
theorem ga_hid (g : GaX K H α γ) {p : Addr} {o : HO} (hp : H p = none) : GaX K (upd H p o) (α.hid p) γ := g.go (ga_hid0 g.toGaOk hp) (ext_hid g hp)
theorem ext_un (g : GaX K H α γ) (e : Ext α H α' H') {p : Addr} (hp : H p = none) : Ext α H (α'.un p) H' := ext_un0 g.toGaOk e hp
theorem ext_hset {α1 : Al} {H1 : Hp} (g1 : GaX K H1 α1 γ') (e : Ext α1 H1 α H) {a : Addr} {o : HO} (ha : H1 a = none) : Ext α1 H1 α (upd H a o) := ext_hset0 g1.toGaOk e ha
end
theorem GaX.adr {K : KX} {α : Al} {H : Hp} {γ : Ga} (g : GaX K H α γ) {k : Nat} {m : MO} (h : γ[k]? = some m) : ∃ a, α.h[k]? = some a ∧ MOk K.f H α a m := g.toGaOk.adr h
/-- what is wanted of a value, of a test, of arguments -/
abbrev QD := D → Ga → Prop
def Wv (K : KX) (α : Al) (H : Hp) (Q : QD) (q : VK) : Prop := ∀ v H' α' d γ', Q d γ' → Ext α H α' H' → GaX K H' α' γ' → Rp K H' α' v d → q v H'
def dE (K : KX) (t : TE) (ρ : Env) (γ : Ga) (Q : QD) : Prop :=
  ∀ σ H α q, RpE K H α σ ρ → GaX K H α γ → Wv K α H Q q → t σ H q
def dT (K : KX) (t : TT) (ρ : Env) (γ : Ga) (Q : Bool → Ga → Prop) : Prop :=
  ∀ σ H α (q : Bool → Hp → Prop), RpE K H α σ ρ → GaX K H α γ → (∀ b H' α' γ', Q b γ' → Ext α H α' H' → GaX K H' α' γ' → q b H') → t σ H q
def dA (K : KX) (t : TA) (ρ : Env) (γ : Ga) (Q : List D → Ga → Prop) : Prop :=
  ∀ σ H α (q : List V → Hp → Prop), RpE K H α σ ρ → GaX K H α γ → (∀ vs H' α' ds γ', Q ds γ' → Ext α H α' H' → GaX K H' α' γ' → RpL K H' α' vs ds → q vs H') → t σ H q
def dO (K : KX) (t : TO) (ρ : Env) (γ : Ga) (Q : Option Int → Ga → Prop) : Prop :=
  ∀ σ H α (q : Option Int → Hp → Prop), RpE K H α σ ρ → GaX K H α γ → (∀ b H' α' γ', Q b γ' → Ext α H α' H' → GaX K H' α' γ' → q b H') → t σ H q
theorem Wv.mono {K : KX} {α α' : Al} {H H' : Hp} {Q : QD} {q : VK} (e : Ext α H α' H') (w : Wv K α H Q q) : Wv K α' H' Q q :=
  fun v H2 α2 d γ2 h e2 g r => w v H2 α2 d γ2 h (e.trans e2) g r

section
variable {K : KX} {ρ : Env} {γ : Ga} {Q : QD}
theorem de_mono {t : TE} {Q Q' : QD} (h : dE K t ρ γ Q) (k : ∀ d γ', Q d γ' → Q' d γ') : dE K t ρ γ Q' :=
  fun σ H α q r g w => h σ H α q r g fun v H' α' d γ' hq => w v H' α' d γ' (k d γ' hq)
theorem dt_mono {t : TT} {Q Q' : Bool → Ga → Prop} (h : dT K t ρ γ Q) (k : ∀ d γ', Q d γ' → Q' d γ') : dT K t ρ γ Q' :=
  fun σ H α q r g w => h σ H α q r g fun b H' α' γ' hq => w b H' α' γ' (k b γ' hq)
theorem de_var {i : Nat} {d : D} (h : ρ[i]? = some (some d)) (q : Q d γ) : dE K (tVar i) ρ γ Q := fun σ H α _ r g w =>
  let ⟨v, h1, h2⟩ := r.2 i d h
  ⟨v, h1, w v H α d γ q g.refl g h2⟩
theorem de_int {i : Int} (q : Q (.int i) γ) : dE K (tC (.int i)) ρ γ Q := fun σ H α _ _ g w => w _ H α _ γ q g.refl g (.int i)
theorem de_bl {b : Bool} (q : Q (.bl b) γ) : dE K (tC (.bl b)) ρ γ Q := fun σ H α _ _ g w => w _ H α _ γ q g.refl g (.bl b)
theorem de_str {x : Str} (q : Q (.str x) γ) : dE K (tC (.str x)) ρ γ Q := fun σ H α _ _ g w => w _ H α _ γ q g.refl g (.str x)
theorem de_non (q : Q .non γ) : dE K (tC .non) ρ γ Q := fun σ H α _ _ g w => w _ H α _ γ q g.refl g .non
theorem de_ty {n : String} (q : Q (.ty n) γ) : dE K (tC (.ty n)) ρ γ Q := fun σ H α _ _ g w => w _ H α _ γ q g.refl g (.ty n)
/-- an address, as what it is known for -/
theorem de_ref {a : Addr} (q : Q (.ref a) γ) : dE K (tC (.ref a)) ρ γ Q := fun σ H α _ _ g w => w _ H α _ γ q g.refl g (.ref a)
/-- a tuple of the text's top -/
theorem de_top {a : Addr} {vs : List V} {ds : List D} (ht : TopS K.f a vs)
    (hr : ∀ H α, RpL K.f H α vs ds) (q : Q (.cst ds) γ) : dE K (tC (.ref a)) ρ γ Q := fun σ H α _ _ g w => w _ H α _ γ q g.refl g (.cst ht (hr H α))
theorem da_nil {Q : List D → Ga → Prop} (q : Q [] γ) : dA K tNil ρ γ Q := fun σ H α _ _ g w => w [] H α [] γ q g.refl g .nil
theorem da_cons {te : TE} {t : TA} {Q : List D → Ga → Prop} (h : dE K te ρ γ fun d γ1 => dA K t ρ γ1 fun ds γ2 => Q (d :: ds) γ2) : dA K (tCons te t) ρ γ Q := fun σ H α _ r g w =>
  h σ H α _ r g fun v H1 α1 d γ1 h1 e1 g1 r1 => h1 σ H1 α1 _ (r.mono e1) g1 fun vs H2 α2 ds γ2 h2 e2 g2 r2 =>
    w (v :: vs) H2 α2 (d :: ds) γ2 h2 (e1.trans e2) g2 (.cons (Rp.mono e2 d v r1) r2)
theorem de_tup {t : TA} (h : dA K t ρ γ fun ds γ' => ds.length ≤ sizeLine ∧ Q (.tup ds) γ') : dE K (tTup t) ρ γ Q := fun σ H α _ r g w =>
  h σ H α _ r g fun vs H1 α1 ds γ1 h1 e1 g1 r1 => ⟨by rw [r1.length]; exact h1.1, fun p hp =>
    w _ _ α1 _ γ1 h1.2 (e1.trans (ext_imm g1 hp)) (ga_imm g1 hp) (.tup ⟨g1.new hp, upd_same⟩ (RpL.mono (ext_imm g1 hp) _ _ r1))⟩
/-- a list that nobody will change -/
theorem de_lst {t : TA} (h : dA K t ρ γ fun ds γ' => ds.length ≤ sizeLine ∧ Q (.lst ds) γ') : dE K (tLst t) ρ γ Q := fun σ H α _ r g w =>
  h σ H α _ r g fun vs H1 α1 ds γ1 h1 e1 g1 r1 => ⟨by rw [r1.length]; exact h1.1, fun p hp =>
    w _ _ α1 _ γ1 h1.2 (e1.trans (ext_imm g1 hp)) (ga_imm g1 hp) (.lst (g1.new hp) upd_same (RpL.mono (ext_imm g1 hp) _ _ r1))⟩
/-- a list that will be changed -/
theorem de_lstM {t : TA} (h : dA K t ρ γ fun ds γ' => ds.length ≤ sizeLine ∧ Q (.loc γ'.length) (γ' ++ [.lst ds])) : dE K (tLst t) ρ γ Q := fun σ H α _ r g w =>
  h σ H α _ r g fun vs H1 α1 ds γ1 h1 e1 g1 r1 => ⟨by rw [r1.length]; exact h1.1, fun p hp =>
    w _ _ (α1.push p) _ _ h1.2 (e1.trans (ext_loc g1 hp)) (ga_loc g1 hp ⟨vs, upd_same, RpL.mono (ext_loc g1 hp) _ _ r1⟩) (.loc (by show (α1.h ++ [p])[γ1.length]? = _; rw [← g1.len]; simp))⟩
/-! ### operators, by values -/
def dR2 (K : KX) (r : R2) (x y : D) (γ : Ga) (Q : QD) : Prop :=
  ∀ H α v w q, GaX K H α γ → Rp K H α v x → Rp K H α w y → Wv K α H Q q → r v w H q
def dR1 (K : KX) (r : V → Hp → VK → Prop) (x : D) (γ : Ga) (Q : QD) : Prop :=
  ∀ H α v q, GaX K H α γ → Rp K H α v x → Wv K α H Q q → r v H q
def dRC (K : KX) (r : List V → Hp → VK → Prop) (xs : List D) (γ : Ga) (Q : QD) : Prop :=
  ∀ H α vs q, GaX K H α γ → RpL K H α vs xs → Wv K α H Q q → r vs H q
def dRM (K : KX) (r : V → List V → Hp → VK → Prop) (x : D) (xs : List D) (γ : Ga) (Q : QD) : Prop :=
  ∀ H α v vs q, GaX K H α γ → Rp K H α v x → RpL K H α vs xs → Wv K α H Q q → r v vs H q
theorem de_op {r : R2} {ta tb : TE} (h : dE K ta ρ γ fun x γ1 => dE K tb ρ γ1 fun y γ2 => dR2 K r x y γ2 Q) : dE K (tOp r ta tb) ρ γ Q := fun σ H α _ rr g w =>
  h σ H α _ rr g fun v H1 α1 x γ1 h1 e1 g1 r1 => h1 σ H1 α1 _ (rr.mono e1) g1 fun u H2 α2 y γ2 h2 e2 g2 r2 =>
    h2 H2 α2 v u _ g2 (Rp.mono e2 x v r1) r2 (w.mono (e1.trans e2))
theorem de_un {r : V → Hp → VK → Prop} {ta : TE} (h : dE K ta ρ γ fun x γ1 => dR1 K r x γ1 Q) : dE K (tUn r ta) ρ γ Q := fun σ H α _ rr g w =>
  h σ H α _ rr g fun v H1 α1 x γ1 h1 e1 g1 r1 => h1 H1 α1 v _ g1 r1 (w.mono e1)
theorem de_cb {r : List V → Hp → VK → Prop} {t : TA} (h : dA K t ρ γ fun xs γ1 => dRC K r xs γ1 Q) : dE K (tCB r t) ρ γ Q := fun σ H α _ rr g w =>
  h σ H α _ rr g fun vs H1 α1 xs γ1 h1 e1 g1 r1 => h1 H1 α1 vs _ g1 r1 (w.mono e1)
/-- the kinds of a receiver -/
def IsTy (K : KX) (T : String) (x : D) (γ : Ga) : Prop := ∀ H α v, GaX K H α γ → Rp K H α v x → tyV K T v H
theorem de_bm0 {T : String} {r : V → List V → Hp → VK → Prop} {to : TE} (h : dE K to ρ γ fun x γ1 => IsTy K T x γ1 ∧ dRM K r x [] γ1 Q) : dE K (tBM0 K T r to) ρ γ Q := fun σ H α _ rr g w =>
  h σ H α _ rr g fun v H1 α1 x γ1 h1 e1 g1 r1 => ⟨h1.1 H1 α1 v g1 r1, h1.2 H1 α1 v [] _ g1 r1 .nil (w.mono e1)⟩
theorem de_bm {T : String} {r : V → List V → Hp → VK → Prop} {to : TE} {t : TA} (h : dE K to ρ γ fun x γ1 => IsTy K T x γ1 ∧ dA K t ρ γ1 fun xs γ2 => dRM K r x xs γ2 Q) : dE K (tBM K T r to t) ρ γ Q := fun σ H α _ rr g w =>
  h σ H α _ rr g fun v H1 α1 x γ1 h1 e1 g1 r1 => ⟨h1.1 H1 α1 v g1 r1, h1.2 σ H1 α1 _ (rr.mono e1) g1 fun vs H2 α2 xs γ2 h2 e2 g2 r2 =>
    h2 H2 α2 v vs _ g2 (Rp.mono e2 x v r1) r2 (w.mono (e1.trans e2))⟩
theorem do_none {Q : Option Int → Ga → Prop} (q : Q none γ) : dO K tNoPart ρ γ Q := fun σ H α _ _ g w => w none H α γ q g.refl g
theorem do_some {te : TE} {Q : Option Int → Ga → Prop} (h : dE K te ρ γ fun d γ1 => ∃ i, d = .int i ∧ Q (some i) γ1) : dO K (tPart te) ρ γ Q := fun σ H α _ rr g w =>
  h σ H α _ rr g fun v H1 α1 d γ1 ⟨i, e, q⟩ e1 g1 r1 => by
    subst e
    cases r1
    exact ⟨i, rfl, w _ H1 α1 γ1 q e1 g1⟩
def dRS (K : KX) (r : V → Option Int → Option Int → Hp → VK → Prop) (x : D) (lo hi : Option Int) (γ : Ga) (Q : QD) : Prop :=
  ∀ H α v q, GaX K H α γ → Rp K H α v x → Wv K α H Q q → r v lo hi H q
theorem de_sl {r : V → Option Int → Option Int → Hp → VK → Prop} {te : TE} {tl th : TO} (h : dE K te ρ γ fun x γ1 => dO K tl ρ γ1 fun lo γ2 => dO K th ρ γ2 fun hi γ3 => dRS K r x lo hi γ3 Q) : dE K (tSl r te tl th) ρ γ Q := fun σ H α _ rr g w =>
  h σ H α _ rr g fun v H1 α1 x γ1 h1 e1 g1 r1 => h1 σ H1 α1 _ (rr.mono e1) g1 fun lo H2 α2 γ2 h2 e2 g2 => h2 σ H2 α2 _ (rr.mono (e1.trans e2)) g2 fun hi H3 α3 γ3 h3 e3 g3 =>
    h3 H3 α3 v _ g3 (Rp.mono (e2.trans e3) x v r1) (w.mono ((e1.trans e2).trans e3))
/-! ### tests -/
theorem dt_test {te : TE} {Q : Bool → Ga → Prop} (h : dE K te ρ γ fun d γ1 => ∃ b, d = .bl b ∧ Q b γ1) : dT K (tTest te) ρ γ Q := fun σ H α _ rr g w =>
  h σ H α _ rr g fun v H1 α1 d γ1 ⟨i, e, q⟩ e1 g1 r1 => by
    subst e
    cases r1
    exact ⟨i, rfl, w _ H1 α1 γ1 q e1 g1⟩
theorem dt_B {te : TE} {Q : Bool → Ga → Prop} (h : dE K te ρ γ fun d γ1 => ∃ b, d = .bl b ∧ Q b γ1) : dT K (tB te) ρ γ Q := dt_test h
theorem dt_and {t u : TT} {Q : Bool → Ga → Prop} (h : dT K t ρ γ fun b γ1 => if b = true then dT K u ρ γ1 Q else Q false γ1) : dT K (tAnd t u) ρ γ Q := fun σ H α _ rr g w =>
  h σ H α _ rr g fun b H1 α1 γ1 h1 e1 g1 => by
    cases b with
    | true => exact (iteT (h1 σ H1 α1 _ (rr.mono e1) g1 fun c H2 α2 γ2 h2 e2 g2 => w c H2 α2 γ2 h2 (e1.trans e2) g2))
    | false => exact (iteF (w _ H1 α1 γ1 h1 e1 g1))
theorem dt_or {t u : TT} {Q : Bool → Ga → Prop} (h : dT K t ρ γ fun b γ1 => if b = true then Q true γ1 else dT K u ρ γ1 Q) : dT K (tOr t u) ρ γ Q := fun σ H α _ rr g w =>
  h σ H α _ rr g fun b H1 α1 γ1 h1 e1 g1 => by
    cases b with
    | false => exact (iteF (h1 σ H1 α1 _ (rr.mono e1) g1 fun c H2 α2 γ2 h2 e2 g2 => w c H2 α2 γ2 h2 (e1.trans e2) g2))
    | true => exact (iteT (w _ H1 α1 γ1 h1 e1 g1))
theorem dt_not {t : TT} {Q : Bool → Ga → Prop} (h : dT K t ρ γ fun b γ1 => Q (!b) γ1) : dT K (tNot t) ρ γ Q := fun σ H α _ rr g w =>
  h σ H α _ rr g fun b H1 α1 γ1 h1 e1 g1 => w _ H1 α1 γ1 h1 e1 g1
theorem de_andV {ta tb : TE} (h : dE K ta ρ γ fun d γ1 => ∃ b, d = .bl b ∧ if b = true then dE K tb ρ γ1 Q else Q (.bl false) γ1) : dE K (tAndV ta tb) ρ γ Q := fun σ H α _ rr g w =>
  h σ H α _ rr g fun v H1 α1 d γ1 ⟨b, e, h1⟩ e1 g1 r1 => by
    subst e
    cases r1
    refine ⟨b, rfl, ?_⟩
    cases b with
    | true => exact iteT (h1 σ H1 α1 _ (rr.mono e1) g1 (w.mono e1))
    | false => exact iteF (w _ H1 α1 _ γ1 h1 e1 g1 (.bl false))
theorem de_orV {ta tb : TE} (h : dE K ta ρ γ fun d γ1 => ∃ b, d = .bl b ∧ if b = true then Q (.bl true) γ1 else dE K tb ρ γ1 Q) : dE K (tOrV ta tb) ρ γ Q := fun σ H α _ rr g w =>
  h σ H α _ rr g fun v H1 α1 d γ1 ⟨b, e, h1⟩ e1 g1 r1 => by
    subst e
    cases r1
    refine ⟨b, rfl, ?_⟩
    cases b with
    | false => exact iteF (h1 σ H1 α1 _ (rr.mono e1) g1 (w.mono e1))
    | true => exact iteT (w _ H1 α1 _ γ1 h1 e1 g1 (.bl true))
theorem de_notV {ta : TE} (h : dE K ta ρ γ fun d γ1 => ∃ b, d = .bl b ∧ Q (.bl (!b)) γ1) : dE K (tNotV ta) ρ γ Q := fun σ H α _ rr g w =>
  h σ H α _ rr g fun v H1 α1 d γ1 ⟨b, e, h1⟩ e1 g1 r1 => by
    subst e
    cases r1
    exact ⟨b, rfl, w _ H1 α1 _ γ1 h1 e1 g1 (.bl _)⟩
theorem de_if {t : TT} {ta tb : TE} (h : dT K t ρ γ fun b γ1 => if b = true then dE K ta ρ γ1 Q else dE K tb ρ γ1 Q) : dE K (tIf t ta tb) ρ γ Q := fun σ H α _ rr g w =>
  h σ H α _ rr g fun b H1 α1 γ1 h1 e1 g1 => by
    cases b with
    | true => exact iteT (h1 σ H1 α1 _ (rr.mono e1) g1 (w.mono e1))
    | false => exact iteF (h1 σ H1 α1 _ (rr.mono e1) g1 (w.mono e1))
theorem de_chain {r r' : R2} {ta tb tc : TE} (h : dE K ta ρ γ fun x γ1 => dE K tb ρ γ1 fun y γ2 => dR2 K r x y γ2 fun z γ3 => ∃ k, z = .bl k ∧ if k = true then dE K tc ρ γ3 fun u γ4 => dR2 K r' y u γ4 Q else Q (.bl false) γ3) :
    dE K (tChain r r' ta tb tc) ρ γ Q := fun σ H α _ rr g w =>
  h σ H α _ rr g fun v H1 α1 x γ1 h1 e1 g1 r1 => h1 σ H1 α1 _ (rr.mono e1) g1 fun u H2 α2 y γ2 h2 e2 g2 r2 =>
    h2 H2 α2 v u _ g2 (Rp.mono e2 x v r1) r2 fun z' H3 α3 z γ3 ⟨k, ez, h3⟩ e3 g3 r3 => by
      subst ez
      cases r3
      refine ⟨k, rfl, ?_⟩
      cases k with
      | true =>
        refine iteT (h3 σ H3 α3 _ (rr.mono ((e1.trans e2).trans e3)) g3 fun w' H4 α4 u' γ4 h4 e4 g4 r4 => ?_)
        exact h4 H4 α4 u w' _ g4 (Rp.mono (e3.trans e4) y u r2) r4 (w.mono (((e1.trans e2).trans e3).trans e4))
      | false => exact iteF (w _ H3 α3 _ γ3 h3 ((e1.trans e2).trans e3) g3 (.bl false))
end
end DL

set_option Elab.async false
set_option linter.all false
set_option maxRecDepth 100000
set_option maxHeartbeats 2000000
namespace DL
open PySem PySem.Spec PyProof.Rows L2

structure DEnds where
  nx : Env → Ga → Prop
  rt : QD
  bk : Env → Ga → Prop := fun _ _ => False
  ct : Env → Ga → Prop := fun _ _ => False
def Ws (K : KX) (α0 : Al) (H0 : Hp) (N : Env → Ga → Prop) (n : L2.St → Hp → Prop) : Prop :=
  ∀ σ H α ρ γ, N ρ γ → Ext α0 H0 α H → GaX K H α γ → RpE K H α σ ρ → n σ H
structure FinE (K : KX) (α0 : Al) (H0 : Hp) (B : DEnds) (Dn : Ends) : Prop where
  nx : Ws K α0 H0 B.nx Dn.nx
  rt : Wv K α0 H0 B.rt Dn.rt
  bk : Ws K α0 H0 B.bk Dn.bk
  ct : Ws K α0 H0 B.ct Dn.ct
theorem Ws.mono {K : KX} {α α' : Al} {H H' : Hp} {N : Env → Ga → Prop} {n : L2.St → Hp → Prop} (e : Ext α H α' H') (w : Ws K α H N n) : Ws K α' H' N n :=
  fun σ H2 α2 ρ γ h e2 => w σ H2 α2 ρ γ h (e.trans e2)
theorem FinE.mono {K : KX} {α α' : Al} {H H' : Hp} {B : DEnds} {Dn : Ends} (e : Ext α H α' H') (f : FinE K α H B Dn) : FinE K α' H' B Dn :=
  ⟨f.nx.mono e, f.rt.mono e, f.bk.mono e, f.ct.mono e⟩
/-- a statement: n mutable objects stood at the beginning of the block -/
def dS (K : KX) (n : Nat) (t : TS) (ρ : Env) (γ : Ga) (B : DEnds) : Prop :=
  ∀ σ H α α0 H0 Dn, α0.h.length = n → Ext α0 H0 α H → RpE K H α σ ρ → GaX K H α γ → FinE K α0 H0 B Dn → t Dn σ H
def SlotsEq (is : List Nat) (σ σ' : L2.St) : Prop := σ'.length = σ.length ∧ ∀ j, j ∉ is → σ'[j]? = σ[j]?
def dG (K : KX) (g : TG) (d : D) (ρ : Env) (γ : Ga) (is : List Nat) (N : Env → Ga → Prop) : Prop :=
  ∀ σ H α v (q : L2.St → Hp → Prop), RpE K H α σ ρ → GaX K H α γ → Rp K H α v d →
    (∀ σ' H' α' ρ' γ', N ρ' γ' → SlotsEq is σ σ' → Ext α H α' H' → GaX K H' α' γ' → RpE K H' α' σ' ρ' → q σ' H') → g v σ H q
def dGs (K : KX) (g : TGs) (ds : List D) (ρ : Env) (γ : Ga) (is : List Nat) (N : Env → Ga → Prop) : Prop :=
  ∀ σ H α vs (q : L2.St → Hp → Prop), RpE K H α σ ρ → GaX K H α γ → RpL K H α vs ds →
    (∀ σ' H' α' ρ' γ', N ρ' γ' → SlotsEq is σ σ' → Ext α H α' H' → GaX K H' α' γ' → RpE K H' α' σ' ρ' → q σ' H') → g vs σ H q
/-- an iterator that yields ds -/
structure WkI (K : KX) (J : It) (α0 : Al) (H0 : Hp) (ds : List D) : Prop where
  go : ∀ i H α γ, Ext α0 H0 α H → GaX K H α γ → i < ds.length → J.go i H
  stop : ∀ i H α γ, Ext α0 H0 α H → GaX K H α γ → ds.length ≤ i → J.stop i H
  yld : ∀ i H α γ x H', i < ds.length → Ext α0 H0 α H → GaX K H α γ → J.yld i H x H' → ∃ d, ds[i]? = some d ∧ Ext α H α H' ∧ GaX K H' α γ ∧ Rp K H' α x d
def dI (K : KX) (wi : TI) (ρ : Env) (γ : Ga) (R : List D → Ga → Prop) : Prop :=
  ∀ σ H α (r : It → Hp → Prop), RpE K H α σ ρ → GaX K H α γ → (∀ J H' α' γ' ds, R ds γ' → Ext α H α' H' → GaX K H' α' γ' → WkI K J α' H' ds → r J H') → wi σ H r

section
variable {K : KX} {n : Nat} {ρ : Env} {γ : Ga} {B : DEnds} {t u : TS}
theorem ds_next (h : B.nx ρ γ) : dS K n tNext ρ γ B := fun σ H α α0 H0 Dn _ e r g f => f.nx σ H α ρ γ h e g r
theorem ds_brk (h : B.bk ρ γ) : dS K n tBreak ρ γ B := fun σ H α α0 H0 Dn _ e r g f => f.bk σ H α ρ γ h e g r
theorem ds_cont (h : B.ct ρ γ) : dS K n tCont ρ γ B := fun σ H α α0 H0 Dn _ e r g f => f.ct σ H α ρ γ h e g r
theorem ds_seq (h : dS K n t ρ γ { B with nx := fun ρ' γ' => dS K n u ρ' γ' B }) : dS K n (tSeq t u) ρ γ B := fun σ H α α0 H0 Dn hn e r g f =>
  h σ H α α0 H0 { Dn with nx := u Dn } hn e r g ⟨fun σ' H' α' ρ' γ' h' e' g' r' => h' σ' H' α' α0 H0 Dn hn e' r' g' f, f.rt, f.bk, f.ct⟩
theorem ds_if {c : TT} (h : dT K c ρ γ fun b γ' => if b = true then dS K n t ρ γ' B else dS K n u ρ γ' B) : dS K n (tIfS c t u) ρ γ B := fun σ H α α0 H0 Dn hn e r g f =>
  h σ H α _ r g fun b H1 α1 γ1 h1 e1 g1 => by
    cases b with
    | true => exact iteT (h1 σ H1 α1 α0 H0 Dn hn (e.trans e1) (r.mono e1) g1 f)
    | false => exact iteF (h1 σ H1 α1 α0 H0 Dn hn (e.trans e1) (r.mono e1) g1 f)
theorem ds_asg {te : TE} {g : TG} {is : List Nat} (h : dE K te ρ γ fun d γ' => dG K g d ρ γ' is B.nx) : dS K n (tAsg te g) ρ γ B := fun σ H α α0 H0 Dn hn e r g f =>
  h σ H α _ r g fun v H1 α1 d γ1 h1 e1 g1 r1 => h1 σ H1 α1 v _ (r.mono e1) g1 r1 fun σ2 H2 α2 ρ2 γ2 h2 _ e2 g2 r2 => f.nx σ2 H2 α2 ρ2 γ2 h2 ((e.trans e1).trans e2) g2 r2
theorem dg_name {i : Nat} {d : D} {N : Env → Ga → Prop} (h : N (ρ.set i (some d)) γ) : dG K (gName i) d ρ γ [i] N := fun σ H α v q r g rv w =>
  w _ H α _ γ h ⟨by simp, fun j hj => by
    rw [List.getElem?_set_ne]
    intro e
    exact hj (by simp [e])⟩ g.refl g (r.set i rv)
theorem ds_set {te : TE} {i : Nat} (h : dE K te ρ γ fun d γ' => B.nx (ρ.set i (some d)) γ') : dS K n (tAsg te (gName i)) ρ γ B := ds_asg (de_mono h fun _ _ h' => dg_name h')
theorem ds_ret {te : TE} (h : dE K te ρ γ B.rt) : dS K n (tRet te) ρ γ B := fun σ H α α0 H0 Dn hn e r g f => h σ H α _ r g (f.rt.mono e)
theorem ds_retN (h : B.rt .non γ) : dS K n tRetN ρ γ B := fun σ H α α0 H0 Dn hn e r g f => f.rt _ H α _ γ h e g .non
theorem ds_expr {te : TE} (h : dE K te ρ γ fun _ γ' => B.nx ρ γ') : dS K n (tDrop te) ρ γ B := fun σ H α α0 H0 Dn hn e r g f =>
  h σ H α _ r g fun v H1 α1 d γ1 h1 e1 g1 r1 => f.nx σ H1 α1 ρ γ1 h1 (e.trans e1) g1 (r.mono e1)
theorem dgs_nil {N : Env → Ga → Prop} (h : N ρ γ) : dGs K gNil [] ρ γ [] N := fun σ H α vs q r g rv w => by
  cases rv
  exact ⟨rfl, w σ H α ρ γ h ⟨rfl, fun _ _ => rfl⟩ g.refl g r⟩
theorem dgs_cons {g : TG} {gs : TGs} {d : D} {ds : List D} {is js : List Nat} {N : Env → Ga → Prop} (h : dG K g d ρ γ is fun ρ1 γ1 => dGs K gs ds ρ1 γ1 js N) : dGs K (gCons g gs) (d :: ds) ρ γ (is ++ js) N := fun σ H α vs q r g rv w => by
  cases rv with
  | cons r1 r2 =>
    refine ⟨_, _, rfl, h σ H α _ _ r g r1 fun σ1 H1 α1 ρ1 γ1 h1 s1 e1 g1 q1 => ?_⟩
    refine h1 σ1 H1 α1 _ _ q1 g1 (RpL.mono e1 _ _ r2) fun σ2 H2 α2 ρ2 γ2 h2 s2 e2 g2 q2 => ?_
    refine w σ2 H2 α2 ρ2 γ2 h2 ⟨s2.1.trans s1.1, fun j hj => ?_⟩ (e1.trans e2) g2 q2
    rw [s2.2 j fun z => hj (List.mem_append_right _ z), s1.2 j fun z => hj (List.mem_append_left _ z)]
theorem dg_tup {m : Nat} {gs : TGs} {ds : List D} {is : List Nat} {N : Env → Ga → Prop} (hl : ds.length = m) (h : dGs K gs ds ρ γ is N) : dG K (gTup K m gs) (.tup ds) ρ γ is N := fun σ H α v q r g rv w => by
  cases rv with
  | tup h1 h2 => exact ⟨_, _, rfl, h1.sq, h2.length.trans hl, h σ H α _ q r g h2 w⟩
theorem ds_while {c : TT} {tb : TS} (P : Nat → Env → Ga → Prop) (h0 : ∃ m, P m ρ γ)
    (hs : ∀ m ρ γ, P m ρ γ → dT K c ρ γ fun b γ1 => if b = true then dS K n tb ρ γ1 { B with nx := fun ρ' γ' => ∃ m', m' < m ∧ P m' ρ' γ', ct := fun ρ' γ' => ∃ m', m' < m ∧ P m' ρ' γ', bk := B.nx } else B.nx ρ γ1) :
    dS K n (tWhile c tb) ρ γ B := fun σ H α α0 H0 Dn hn e r g f => by
  obtain ⟨m0, p0⟩ := h0
  refine ⟨fun m σ H => ∃ α ρ γ, P m ρ γ ∧ Ext α0 H0 α H ∧ GaX K H α γ ∧ RpE K H α σ ρ, ⟨m0, α, ρ, γ, p0, e, g, r⟩, ?_⟩
  rintro m σ1 H1 ⟨α1, ρ1, γ1, p1, e1, g1, r1⟩
  refine hs m ρ1 γ1 p1 σ1 H1 α1 _ r1 g1 fun b H2 α2 γ2 h2 e2 g2 => ?_
  cases b with
  | true =>
    refine iteT ⟨fun σ' H' => ∃ m', m' < m ∧ ∃ α ρ γ, P m' ρ γ ∧ Ext α0 H0 α H' ∧ GaX K H' α γ ∧ RpE K H' α σ' ρ, fun σ' H' hh => hh, ?_⟩
    refine h2 σ1 H2 α2 α0 H0 _ hn (e1.trans e2) (r1.mono e2) g2 ⟨?_, f.rt, f.nx, ?_⟩
    · rintro σ3 H3 α3 ρ3 γ3 ⟨m', hm, p3⟩ e3 g3 r3
      exact ⟨m', hm, α3, ρ3, γ3, p3, e3, g3, r3⟩
    · rintro σ3 H3 α3 ρ3 γ3 ⟨m', hm, p3⟩ e3 g3 r3
      exact ⟨m', hm, α3, ρ3, γ3, p3, e3, g3, r3⟩
  | false => exact iteF (f.nx σ1 H2 α2 ρ1 γ2 h2 (e1.trans e2) g2 (r1.mono e2))
theorem ds_for {wi : TI} {g : TG} {tb : TS} (is : List Nat) (h : dI K wi ρ γ fun ds γ1 => ∃ P : Nat → Env → Ga → Prop, P 0 ρ γ1 ∧
      (∀ i x ρ' γ', ds[i]? = some x → P i ρ' γ' → dG K g x ρ' γ' is fun ρ2 γ2 => dS K γ1.length tb ρ2 γ2 { B with nx := P (i + 1), ct := P (i + 1), bk := B.nx }) ∧
      ∀ ρ' γ', P ds.length ρ' γ' → B.nx ρ' γ') : dS K n (tFor wi g tb) ρ γ B := fun σ H α α0 H0 Dn hn e r g f => by
  refine h σ H α _ r g fun J H1 α1 γ1 ds h1 e1 g1 wk => ?_
  obtain ⟨P, p0, hs, hd⟩ := h1
  refine ⟨fun i m σ H => m = ds.length - i ∧ i ≤ ds.length ∧ ∃ α ρ γ, P i ρ γ ∧ Ext α1 H1 α H ∧ GaX K H α γ ∧ RpE K H α σ ρ,
    ⟨ds.length, by simp, Nat.zero_le _, α1, ρ, γ1, p0, g1.refl, g1, r.mono e1⟩, ?_⟩
  rintro i m σ2 H2 ⟨rfl, hi, α2, ρ2, γ2, p2, e2, g2, r2⟩
  by_cases hlt : i < ds.length
  · refine .inr ⟨wk.go i H2 α2 γ2 e2 g2 hlt, fun σ' H' => ∃ α ρ γ, P (i + 1) ρ γ ∧ Ext α1 H1 α H' ∧ GaX K H' α γ ∧ RpE K H' α σ' ρ, fun σ' H' hh => ⟨ds.length - (i + 1), by omega, rfl, hlt, hh⟩, fun x H' y => ?_⟩
    obtain ⟨d, hd1, e3, g3, r3⟩ := wk.yld i H2 α2 γ2 x H' hlt e2 g2 y
    refine hs i d ρ2 γ2 hd1 p2 σ2 H' α2 x _ (r2.mono e3) g3 r3 fun σ4 H4 α4 ρ4 γ4 h4 _ e4 g4 r4 => ?_
    have ea := (e2.trans e3).trans e4
    refine h4 σ4 H4 α4 α1 H1 _ g1.len ea r4 g4 ⟨?_, f.rt.mono (e.trans e1), f.nx.mono (e.trans e1), ?_⟩
    · intro σ5 H5 α5 ρ5 γ5 p5 e5 g5 r5
      exact ⟨α5, ρ5, γ5, p5, e5, g5, r5⟩
    · intro σ5 H5 α5 ρ5 γ5 p5 e5 g5 r5
      exact ⟨α5, ρ5, γ5, p5, e5, g5, r5⟩
  · have ei : i = ds.length := by omega
    subst ei
    exact .inl ⟨wk.stop _ H2 α2 γ2 e2 g2 (Nat.le_refl _), f.nx σ2 H2 α2 ρ2 γ2 (hd ρ2 γ2 p2) ((e.trans e1).trans e2) g2 r2⟩
/-! ### what is walked -/
theorem di_list {tl : TE} {R : List D → Ga → Prop} (h : dE K tl ρ γ fun d γ' => ∃ ds, d = .lst ds ∧ R ds γ') : dI K (iList K tl) ρ γ R := fun σ H α q r g w =>
  h σ H α _ r g fun v H1 α1 d γ1 ⟨ds, ed, h1⟩ e1 g1 r1 => by
    subst ed
    cases r1 with
    | @lst a vs _ na ha rl =>
      refine ⟨a, rfl, ⟨vs, SqL.of ha⟩, w _ H1 α1 γ1 ds h1 e1 g1 ⟨?_, ?_, ?_⟩⟩
      · intro i H2 α2 γ2 e2 g2 hi
        have hv : i < vs.length := by rw [rl.length]; exact hi
        exact ⟨vs, vs[i], SqL.of (e2.keep _ _ na ha), List.getElem?_eq_getElem hv⟩
      · intro i H2 α2 γ2 e2 g2 hi
        exact ⟨vs, SqL.of (e2.keep _ _ na ha), by rw [rl.length]; exact hi⟩
      · rintro i H2 α2 γ2 x H3 _ e2 g2 ⟨rfl, hy⟩
        obtain ⟨d, h1, h2⟩ := rl.getV (hy vs (SqL.of (e2.keep _ _ na ha)))
        exact ⟨d, h1, g2.refl, g2, Rp.mono e2 _ _ h2⟩
theorem di_tup {tl : TE} {R : List D → Ga → Prop} (h : dE K tl ρ γ fun d γ' => ∃ ds, (d = .tup ds ∨ d = .cst ds) ∧ R ds γ') : dI K (iTup K tl) ρ γ R := fun σ H α q r g w =>
  h σ H α _ r g fun v H1 α1 d γ1 ⟨ds, ed, h1⟩ e1 g1 r1 => by
    have key : ∃ a vs, v = .ref a ∧ (∀ H2 α2, Ext α1 H1 α2 H2 → SqT K.f H2 a vs) ∧ RpL K.f H1 α1 vs ds := by
      rcases ed with rfl | rfl
      · cases r1 with
        | @tup a vs _ ht rl => exact ⟨a, vs, rfl, fun H2 α2 e2 => (ht.monoE e2).sq, rl⟩
      · cases r1 with
        | @cst a vs _ ht rl => exact ⟨a, vs, rfl, fun H2 α2 e2 => ht.sq, rl⟩
    obtain ⟨a, vs, rfl, sq, rl⟩ := key
    refine ⟨a, rfl, ⟨vs, sq _ _ g1.refl⟩, w _ H1 α1 γ1 ds h1 e1 g1 ⟨?_, ?_, ?_⟩⟩
    · intro i H2 α2 γ2 e2 g2 hi
      have hv : i < vs.length := by rw [rl.length]; exact hi
      exact ⟨vs, vs[i], sq _ _ e2, List.getElem?_eq_getElem hv⟩
    · intro i H2 α2 γ2 e2 g2 hi
      exact ⟨vs, sq _ _ e2, by rw [rl.length]; exact hi⟩
    · rintro i H2 α2 γ2 x H3 _ e2 g2 ⟨rfl, hy⟩
      obtain ⟨d, h1, h2⟩ := rl.getV (hy vs (sq _ _ e2))
      exact ⟨d, h1, g2.refl, g2, Rp.mono e2 _ _ h2⟩
def rngD (lo : Int) (n : Nat) : List D := (List.range n).map fun i => D.int (lo + (i : Nat))
theorem wk_rng {α : Al} {H : Hp} {lo : Int} {m : Nat} : WkI K (Itr lo m) α H (rngD lo m) := by
  refine ⟨?_, ?_, ?_⟩
  · intro i H2 α2 γ2 e2 g2 hi
    have : i < m := by simpa [rngD] using hi
    exact this
  · intro i H2 α2 γ2 e2 g2 hi
    have : m ≤ i := by simpa [rngD] using hi
    exact this
  · rintro i H2 α2 γ2 x H3 hi e2 g2 ⟨rfl, rfl⟩
    have : i < m := by simpa [rngD] using hi
    exact ⟨.int (lo + i), by simp [rngD, this], g2.refl, g2, .int _⟩
theorem di_rng1 {ta : TA} {R : List D → Ga → Prop} (h : dA K ta ρ γ fun ds γ' => ∃ j : Int, ds = [.int j] ∧ -(2 ^ 62) ≤ j ∧ j < 2 ^ 62 ∧ R (rngD 0 j.toNat) γ') : dI K (iRng1 ta) ρ γ R := fun σ H α q r g w =>
  h σ H α _ r g fun vs H1 α1 ds γ1 ⟨j, ed, l1, l2, h1⟩ e1 g1 r1 => by
    subst ed
    cases r1 with
    | cons r1 r2 =>
      cases r1; cases r2
      exact ⟨j, rfl, l1, l2, w _ H1 α1 γ1 _ h1 e1 g1 wk_rng⟩
theorem di_rng2 {ta : TA} {R : List D → Ga → Prop} (h : dA K ta ρ γ fun ds γ' => ∃ i j : Int, ds = [.int i, .int j] ∧ (-(2 ^ 62) ≤ i ∧ i < 2 ^ 62 ∧ -(2 ^ 62) ≤ j ∧ j < 2 ^ 62) ∧ R (rngD i (j - i).toNat) γ') : dI K (iRng2 ta) ρ γ R := fun σ H α q r g w =>
  h σ H α _ r g fun vs H1 α1 ds γ1 ⟨i, j, ed, l, h1⟩ e1 g1 r1 => by
    subst ed
    cases r1 with
    | cons r1 r2 =>
      cases r2 with
      | cons r2 r3 =>
        cases r1; cases r2; cases r3
        exact ⟨i, j, rfl, l, w _ H1 α1 γ1 _ h1 e1 g1 wk_rng⟩
def chrsD (x : Str) : List D := x.cps.toList.map fun c => D.str ⟨#[c]⟩
theorem di_str {te : TE} {R : List D → Ga → Prop} (h : dE K te ρ γ fun d γ' => ∃ x, d = .str x ∧ R (chrsD x) γ') : dI K (iStr te) ρ γ R := fun σ H α q r g w =>
  h σ H α _ r g fun v H1 α1 d γ1 ⟨x, ed, h1⟩ e1 g1 r1 => by
    subst ed
    cases r1
    refine ⟨x, rfl, w _ H1 α1 γ1 _ h1 e1 g1 ⟨?_, ?_, ?_⟩⟩
    · intro i H2 α2 γ2 e2 g2 hi
      have : i < x.cps.size := by simpa [chrsD] using hi
      exact this
    · intro i H2 α2 γ2 e2 g2 hi
      have : x.cps.size ≤ i := by simpa [chrsD] using hi
      exact this
    · rintro i H2 α2 γ2 y H3 hi e2 g2 ⟨rfl, c, hc, rfl⟩
      refine ⟨.str ⟨#[c]⟩, ?_, g2.refl, g2, .str _⟩
      have hc' : x.cps.toList[i]? = some c := by simpa using hc
      simp [chrsD, hc']
/-! ### list comprehensions -/
def wipeE (ρ : Env) : List Nat → Env
  | [] => ρ
  | v :: vs => (wipeE ρ vs).set v none
theorem wipeE_length (ρ : Env) : ∀ vs : List Nat, (wipeE ρ vs).length = ρ.length
  | [] => rfl
  | v :: vs => by unfold wipeE; rw [List.length_set, wipeE_length ρ vs]
theorem rpe_wipe {H : Hp} {α : Al} {σ : L2.St} (r : RpE K H α σ ρ) : ∀ vs : List Nat, RpE K H α (wipe σ vs) (wipeE ρ vs)
  | [] => r
  | v :: vs => by
    have ih := rpe_wipe r vs
    refine ⟨by rw [wipe_length, wipeE_length]; exact r.1, fun i d h => ?_⟩
    unfold wipeE at h
    by_cases hv : v = i
    · subst hv
      by_cases hl : v < (wipeE ρ vs).length
      · rw [List.getElem?_set_self hl] at h; cases h
      · rw [List.getElem?_eq_none (by simpa using hl)] at h; cases h
    · rw [List.getElem?_set_ne hv] at h
      obtain ⟨u, h1, h2⟩ := ih.2 i d h
      exact ⟨u, by unfold wipe; rw [List.getElem?_set_ne hv]; exact h1, h2⟩
theorem wipe_at {σ : L2.St} {i : Nat} : ∀ {vs : List Nat}, (i ∉ vs → (wipe σ vs)[i]? = σ[i]?) ∧ (i ∈ vs → i < σ.length → (wipe σ vs)[i]? = some none)
  | [] => ⟨fun _ => rfl, fun h => by simp at h⟩
  | v :: vs => by
    have ih := @wipe_at σ i vs
    refine ⟨fun h => ?_, fun h hl => ?_⟩
    · simp only [List.mem_cons, not_or] at h
      unfold wipe
      rw [List.getElem?_set_ne (fun e => h.1 e.symm)]
      exact ih.1 h.2
    · unfold wipe
      by_cases hv : v = i
      · subst hv
        rw [List.getElem?_set_self (by rw [wipe_length]; exact hl)]
      · rw [List.getElem?_set_ne hv]
        rcases List.mem_cons.mp h with e | e
        · exact absurd e.symm hv
        · exact ih.2 e hl
theorem wipe_eq {σ σ' : L2.St} {is vs : List Nat} (h : SlotsEq is (wipe σ vs) σ') (hs : ∀ i ∈ is, i ∈ vs) : wipe σ' vs = wipe σ vs := by
  have hl : σ'.length = σ.length := by rw [h.1, wipe_length]
  apply List.ext_getElem?
  intro i
  by_cases hi : i ∈ vs
  · by_cases hlt : i < σ.length
    · rw [(wipe_at (σ := σ')).2 hi (by omega), (wipe_at (σ := σ)).2 hi hlt]
    · rw [List.getElem?_eq_none (by rw [wipe_length]; omega), List.getElem?_eq_none (by rw [wipe_length]; omega)]
  · rw [(wipe_at (σ := σ')).1 hi, h.2 i fun z => hi (hs i z)]
theorem size24 {m : Nat} (h : m < 1000000) : m < sizeLine := Nat.lt_of_lt_of_le h (by decide)
/-- where nothing is raised -/
abbrev W0 : WX := fun _ _ _ _ => False
abbrev _root_.DL.KX.cm (K : KX) : KX := ⟨K.f, W0, fun _ _ _ _ _ => False⟩
theorem _root_.DL.GaX.cm {K : KX} {H : Hp} {α : Al} {γ : Ga} (g : GaX K H α γ) : GaX K.cm H α γ := ⟨g.toGaOk, fun _ _ _ _ _ _ _ _ _ h => h.elim⟩
theorem de_lc {wi : TI} {g : TG} {tt : TT} {te : TE} {vs : List Nat} {Q : QD} (is : List Nat) (hsub : ∀ i ∈ is, i ∈ vs)
    (h : dI K wi ρ γ fun ds γ1 => ds.length ≤ 1000000 ∧ ∃ P : Nat → List D → Ga → Prop, P 0 [] γ1 ∧
      (∀ i x acc γ', ds[i]? = some x → P i acc γ' → dG K g x (wipeE ρ vs) γ' is fun ρ2 γ2 => dT K.cm tt ρ2 γ2 fun b γ3 => if b = true then dE K.cm te ρ2 γ3 fun y γ4 => P (i + 1) (acc ++ [y]) γ4 else P (i + 1) acc γ3) ∧
      ∀ acc γ', P ds.length acc γ' → Q (.lst acc) γ') : dE K (tLc wi g tt te vs) ρ γ Q := fun σ H α q r g0 w => by
  refine h σ H α _ r g0 fun J H1 α1 γ1 ds h1 e1 g1 wk => ?_
  obtain ⟨hlen, P, p0, hs, hd⟩ := h1
  intro Da hDa
  -- the new list is mutable while the loop runs, but has no number
  have ex := ext_hid g1 (o := .lst []) hDa
  have gx := ga_hid g1 (o := .lst []) hDa
  refine ⟨fun i m H => m = ds.length - i ∧ i ≤ ds.length ∧ ∃ acc us α γ, P i acc γ ∧ acc.length ≤ i ∧ H Da = some (.lst us) ∧ Da ∈ α.x ∧ RpL K H α us acc ∧ Ext α1 H1 α H ∧ GaX K H α γ,
    ⟨ds.length, by simp, Nat.zero_le _, [], [], α1.hid Da, γ1, p0, Nat.le_refl _, upd_same, List.mem_cons_self, .nil, ex, gx⟩, ?_⟩
  rintro i m H2 ⟨rfl, hi, acc, us, α2, γ2, p2, hacc, hD2, nD2, ra2, e2, g2⟩
  by_cases hlt : i < ds.length
  · refine .inr ⟨wk.go i H2 α2 γ2 e2 g2 hlt, fun H => i + 1 ≤ ds.length ∧ ∃ acc us α γ, P (i + 1) acc γ ∧ acc.length ≤ i + 1 ∧ H Da = some (.lst us) ∧ Da ∈ α.x ∧ RpL K H α us acc ∧ Ext α1 H1 α H ∧ GaX K H α γ, fun H' hh => ⟨ds.length - (i + 1), by omega, rfl, hh⟩, fun x H' y => ?_⟩
    obtain ⟨d, hd1, e3, g3, r3⟩ := wk.yld i H2 α2 γ2 x H' hlt e2 g2 y
    refine hs i d acc γ2 hd1 p2 (wipe σ vs) H' α2 x _ (rpe_wipe (r.mono ((e1.trans e2).trans e3)) vs) g3 r3 fun σ4 H4 α4 ρ4 γ4 h4 s4 e4 g4 r4 => ?_
    refine ⟨wipe_eq s4 hsub, ?_⟩
    refine h4 σ4 H4 α4 _ r4 g4.cm fun b H5 α5 γ5 h5 e5 g5c => ?_
    have g5 : GaX K H5 α5 γ5 := g4.go g5c.toGaOk e5
    have e25 := (e3.trans e4).trans e5
    have inx : ∀ {α6 : Al} {H6 : Hp}, Ext α2 H2 α6 H6 → Da ∈ α6.x := fun e => by
      obtain ⟨δ, q, _⟩ := e.xx
      rw [q]
      exact List.mem_append_right _ nD2
    cases b with
    | true =>
      refine iteT (h5 σ4 H5 α5 _ (r4.mono e5) g5.cm fun y H6 α6 yd γ6 h6 e6 g6c r6 => ?_)
      have g6 : GaX K H6 α6 γ6 := g5.go g6c.toGaOk e6
      have e26 := e25.trans e6
      have hD6 := e26.keepx _ _ nD2 hD2
      have nD6 := inx e26
      have ew := ext_setW g6 (o := .lst (us ++ [y])) (.inr nD6)
      refine ⟨us, hD6, ?_, hlt, acc ++ [yd], us ++ [y], α6, γ6, h6, by simp; omega, upd_same, nD6, ?_, ext_hset g1 (e2.trans e26) hDa, g1.go (ga_hset0 g6.toGaOk nD6) (ext_hset g1 (e2.trans e26) hDa)⟩
      · rw [(RpL.length ra2)]
        exact size24 (by omega)
      · exact RpL.monoW ew _ _ ((RpL.mono e26 _ _ ra2).append (.cons r6 .nil))
    | false =>
      exact iteF ⟨hlt, acc, us, α5, γ5, h5, by omega, e25.keepx _ _ nD2 hD2, inx e25, RpL.mono e25 _ _ ra2, e2.trans e25, g5⟩
  · have ei : i = ds.length := by omega
    subst ei
    have nh : Da ∉ α2.h := fun z => g2.nd.2.2 Da z nD2
    exact .inl ⟨wk.stop _ H2 α2 γ2 e2 g2 (Nat.le_refl _), w _ H2 (α2.un Da) _ γ2 (hd acc γ2 p2) (e1.trans (ext_un g1 e2 hDa)) (g1.go (ga_un0 g2.toGaOk) (ext_un g1 e2 hDa)) (.lst (out_un nh) hD2 (RpL.shw (α := α2) (α' := α2.un Da) rfl un_x _ _ ra2))⟩
end
end DL

set_option Elab.async false
set_option linter.all false
set_option maxRecDepth 100000
set_option maxHeartbeats 2000000
/-! what a def promises where no guard stands (repr of data asks that) -/
namespace DL
open PySem PySem.Spec PyProof.Rows L2

/-- room for k calls within one another (three times as many as with the library's own) -/
structure Room (k : Nat) (A : Around) : Prop where
  hd : A.handled = none
  dp : A.depth + k + 12 < recursionLimit
  un : A.units + 8 * k + 200 < cLine
theorem Room.mono {j k : Nat} {A : Around} (r : DL.Room k A) (h : j ≤ k) : DL.Room j A := ⟨r.hd, by have := r.dp; omega, by have := r.un; omega⟩
theorem Room.deeper {k : Nat} {A : Around} (r : DL.Room (k + 1) A) (env : PySem.Env) : DL.Room k (A.deeper env) :=
  ⟨r.hd, by have h : A.depth + (k + 1) + 12 < recursionLimit := r.dp; show A.depth + 1 + k + 12 < _; omega, by have h : A.units + 8 * (k + 1) + 200 < cLine := r.un; show A.units + 3 + 8 * k + 200 < _; omega⟩
theorem Room.make {k : Nat} {A : Around} (r : DL.Room (k + 1) A) (C : Addr) (us : List Value) (kw : List (Str × Value)) : DL.Room k (A.under (.builtin "type.__call__" ⟨.ref C :: us, kw⟩)) :=
  ⟨r.hd, by have := r.dp; rw [L2.make_depth]; omega, by have := r.un; rw [L2.make_units]; omega⟩
theorem Room.depth {k : Nat} {A : Around} (r : DL.Room k A) : A.depth < recursionLimit := by have := r.dp; omega
theorem Room.units {k : Nat} {A : Around} (r : DL.Room k A) : A.units + 64 < cLine := by have := r.un; omega
theorem huD {k : Nat} {A : Around} (r : DL.Room k A) : A.units + 1 < cLine := by have := r.un; omega
structure FnG (P : Program) (w : World) (K : Frag) (mg : Str → Option Value) (base : Heap) (CX : CXT) (k : Nat) (f : Addr) (fd : FuncData) (ps : List Str) (sp : Sp) : Prop where
  len : ∀ vs H Q E, sp vs H Q E → vs.length = ps.length
  run : ∀ (A : Around) (outer : List PySem.Env) (s : Shared) (H : Hp) (args : Args) (us : List Value) (vs : List V) (Q : VK) (E : XK), Room k A → A.guards = some [] → Env0 P w K mg base A outer s H → BindsTo s fd args (ps.zip us) → Vals vs us → sp vs H Q E →
    codeAny (model P w) A (.call (.ref f) args) (CR CX outer P w H s Q E) s
theorem FnG.mono {P : Program} {w : World} {K : Frag} {mg : Str → Option Value} {base : Heap} {CX : CXT} {j k : Nat} {f : Addr} {fd : FuncData} {ps : List Str} {sp : Sp} (F : FnG P w K mg base CX j f fd ps sp) (h : j ≤ k) : FnG P w K mg base CX k f fd ps sp :=
  ⟨F.len, fun A outer s H args us vs Q E room gd => F.run A outer s H args us vs Q E (room.mono h) gd⟩
theorem FnG.imp {P : Program} {w : World} {K : Frag} {mg : Str → Option Value} {base : Heap} {CX : CXT} {k : Nat} {f : Addr} {fd : FuncData} {ps : List Str} {sp sp' : Sp} (F : FnG P w K mg base CX k f fd ps sp) (h : ∀ vs H Q E, sp' vs H Q E → sp vs H Q E) : FnG P w K mg base CX k f fd ps sp' :=
  ⟨fun vs H Q E q => F.len vs H Q E (h vs H Q E q), fun A outer s H args us vs Q E room gd e0 bd rv q => F.run A outer s H args us vs Q E room gd e0 bd rv (h vs H Q E q)⟩
/-- calls that may raise: the wish goes by the slots -/
def tCallW (sp : Sp) (E : L2.St → XK) (t : TA) : TE := fun σ H Q => tCall sp [] (E σ) t σ H Q
def tMethW (C : Addr) (m : Str) (sp : Sp) (E : L2.St → XK) (ta : TE) (t : TA) : TE := fun σ H Q => tMeth C m sp [] (E σ) ta t σ H Q
def tMakeW (C : Addr) (sp : Sp) (E : L2.St → XK) (t : TA) : TE := fun σ H Q => tMake C sp [] (E σ) t σ H Q
section
variable {X : Cx} {CX : CXT} {k : Nat} {f C : Addr} {fd : FuncData} {ps : List Str} {sp : Sp} {E : XK} {EW : L2.St → XK} {x m : Str} {p pos apos : Pos} {e o : Expr} {es : List Expr} {ta : TE} {t : TA}
/-- the callee runs; every parameter is given -/
theorem runG {pins : List (Addr × Obj)} {σ : L2.St} {H : Hp} {s : Shared} {Q : VK} {us : List Value} {vs : List V} (F : FnG X.prog X.w X.K X.mg X.base CX k f fd ps sp) (room : Room k X.A) (gd : X.A.guards = some []) (bd : Binds X.K fd ps []) (px : PassesAt CX X σ E)
    (I : Inv X pins σ H s) (rv : Vals vs us) (q : sp vs H Q E) : wpAny (model X.prog X.w) X.A (call (.ref f) us) (EP X pins σ Q) X.xe s := by
  have bl := bd s us I.kIn (by rw [List.append_nil, ← rv.length]; exact F.len _ _ _ _ q)
  rw [List.append_nil] at bl
  refine wpAny_call (codeAny_mono (F.run X.A X.stack s H ⟨us, []⟩ us vs Q E room gd I.env0 bl rv q) fun res s2 hres => ?_)
  match res, hres with
  | .error e, hres => exact px pins H s e s2 I hres
  | .ok (.ret u), hres => exact I.after hres
  | .ok .next, hres => exact hres.elim
  | .ok .brk, hres => exact hres.elim
  | .ok .cont, hres => exact hres.elim
theorem callG (F : FnG X.prog X.w X.K X.mg X.base CX k f fd ps sp) (room : Room k X.A) (gd : X.A.guards = some []) (bd : Binds X.K fd ps []) (px : ∀ σ, PassesAt CX X σ (EW σ)) (gl : Gl X x) (mgx : X.mg x = some (.ref f)) (kp : PySem.W.keepIn X.K (.ref f) = true)
    (ha : PA X (e :: es) t) (h1 : (x == ("__debug__" : Str)) = false := by decide) (h2 : starEach (e :: es) X.env = (false, eval e X.env) :: starEach es X.env := by rfl) (h3 : (backTo pos (starEach es X.env)).any (·.1) = false := by rfl) :
    PE X (.Call (.Name x p) (e :: es) [] pos) (tCallW sp EW t) := ⟨fun pins s σ H Q I h => by
  refine wpAny_Call_Name_kw (ld_glob I gl mgx (PySem.W.callWith_K (h₀ := X.base) I.ok.mod.kin kp (thn (ha.run pos pins s σ H _ I h) fun us s1 hh => ?_) h2 h3) h1)
  obtain ⟨vs, H1, I1, rv, q⟩ := hh
  rw [List.append_nil] at q
  exact ⟨I1.kIn, runG F room gd bd (px _) I1 rv q⟩⟩
theorem callG0 (F : FnG X.prog X.w X.K X.mg X.base CX k f fd ps sp) (room : Room k X.A) (gd : X.A.guards = some []) (bd : Binds X.K fd ps []) (px : ∀ σ, PassesAt CX X σ (EW σ)) (gl : Gl X x) (mgx : X.mg x = some (.ref f)) (kp : PySem.W.keepIn X.K (.ref f) = true)
    (h1 : (x == ("__debug__" : Str)) = false := by decide) : PE X (.Call (.Name x p) [] [] pos) (tCallW sp EW tNil) :=
  ⟨fun pins s σ H Q I h => wpAny_Call_Name_kw (ld_glob I gl mgx (PySem.W.callWith_K0 I.kIn kp (runG (us := []) F room gd bd (px _) I .nil h)) h1)⟩
theorem methG {pl : Sem Bool} (he : PE X o ta) (cl : Cls X.K C) (mt : Meth X.K C m f) (F : FnG X.prog X.w X.K X.mg X.base CX k f fd ps sp) (room : Room k X.A) (gd : X.A.guards = some []) (bd : Binds X.K fd ps []) (px : ∀ σ, PassesAt CX X σ (EW σ)) (ha : PA X (e :: es) t)
    (h2 : starEach (e :: es) X.env = (false, eval e X.env) :: starEach es X.env := by rfl) (h3 : (backTo pos (starEach es X.env)).any (·.1) = false := by rfl)
    (ht : eval (.Call (.Attribute o m apos) (e :: es) [] pos) X.env = (do let ov ← eval o X.env; standAt apos.atName; let (f, first) ← holding [ov] (getMethod ov m pl); callWith pos f first (backTo pos (starEach (e :: es) X.env)) (backToKw pos (keywordEach [] X.env))) := by rfl) :
    PE X (.Call (.Attribute o m apos) (e :: es) [] pos) (tMethW C m sp EW ta t) := ⟨fun pins s σ H Q I h => by
  refine PySem.W.methodCall_KW (pl := pl) (thn (he.run pins s σ H _ I h) fun u s1 hh => ?_) ht
  obtain ⟨x1, H1, I1, rx, a, dx, fs, ex, ea, l, q⟩ := hh
  subst ex
  cases rx
  refine getmeth_ok I1 ea cl mt l (PySem.W.callWith_K (first := [.ref a]) (h₀ := X.base) I.ok.mod.kin mt.kp (thn (ha.run pos pins s1 σ H1 _ I1 q) fun us s2 hh2 => ?_) h2 h3)
  obtain ⟨vs, H2, I2, rv, q2⟩ := hh2
  rw [List.append_nil] at q2
  exact ⟨I2.kIn, runG (us := .ref a :: us) (vs := .ref a :: vs) F room gd bd (px _) I2 (.cons rfl rv) q2⟩⟩
theorem methG0 {pl : Sem Bool} (he : PE X o ta) (cl : Cls X.K C) (mt : Meth X.K C m f) (F : FnG X.prog X.w X.K X.mg X.base CX k f fd ps sp) (room : Room k X.A) (gd : X.A.guards = some []) (bd : Binds X.K fd ps []) (px : ∀ σ, PassesAt CX X σ (EW σ))
    (ht : eval (.Call (.Attribute o m apos) [] [] pos) X.env = (do let ov ← eval o X.env; standAt apos.atName; let (f, first) ← holding [ov] (getMethod ov m pl); callWith pos f first (backTo pos (starEach [] X.env)) (backToKw pos (keywordEach [] X.env))) := by rfl) :
    PE X (.Call (.Attribute o m apos) [] [] pos) (tMethW C m sp EW ta tNil) := ⟨fun pins s σ H Q I h => by
  refine PySem.W.methodCall_KW (pl := pl) (thn (he.run pins s σ H _ I h) fun u s1 hh => ?_) ht
  obtain ⟨x1, H1, I1, rx, a, dx, fs, ex, ea, l, q⟩ := hh
  subst ex
  cases rx
  exact getmeth_ok I1 ea cl mt l (PySem.W.callWith_K0 (first := [.ref a]) I1.kIn mt.kp (runG (us := [.ref a]) (vs := [.ref a]) F room gd bd (px _) I1 (.cons rfl .nil) q))⟩
theorem makeRunG {pins : List (Addr × Obj)} {σ : L2.St} {H : Hp} {s : Shared} {Q : VK} {us : List Value} {vs : List V} (M : Mk X.K C f) (F : FnG X.prog X.w X.K X.mg X.base CX k f fd ps sp) (room : Room (k + 1) X.A) (gd : X.A.guards = some []) (bd : Binds X.K fd ps []) (px : PassesAt CX X σ E)
    (I : Inv X pins σ H s) (rv : Vals vs us) (q : ∀ x dx, H x = none → H dx = none → dx ≠ x → sp (.ref x :: vs) (upd (upd H dx (.own x)) x (.ins C dx [])) (fun v H2 => v = .non ∧ Q (.ref x) H2) E) :
    wpAny (model X.prog X.w) X.A (call (.ref C) us) (EP X pins σ Q) X.xe s := by
  let n := s.heap.objs.size
  have q' := q (n + 1) n (I.hok.fresh (Nat.le_succ n)) (I.hok.fresh (Nat.le_refl n)) (Nat.ne_of_lt (Nat.lt_succ_self n))
  have J := Inv.made (C := C) I
  have rv' : Vals (V.ref (n + 1) :: vs) (Value.ref (n + 1) :: us) := .cons rfl rv
  have bl := bd _ (Value.ref (n + 1) :: us) J.kIn (by rw [List.append_nil, ← rv'.length]; exact F.len _ _ _ _ q')
  rw [List.append_nil] at bl
  refine wpAny_call (make_map (f := f) I.kIn M.makes M.init (beq_iff_eq.mp M.fn) (codeAny_mono (F.run _ X.stack _ _ ⟨Value.ref (n + 1) :: us, []⟩ _ _ _ E (room.make C us []) ?_ (J.env0.make C us []) bl rv' q') fun res s2 hres => ?_))
  · simp [Around.under, gd, Code.guards, Code.isGuard, pushGuards, guardIds]
  match res, hres with
  | .error e, hres => exact px pins _ _ e s2 J hres
  | .ok (.ret u), hres =>
    obtain ⟨v, H', J', rv2, ev, q3⟩ := J.after hres
    subst ev
    exact ⟨rv2, V.ref (n + 1), H', J', rfl, q3⟩
  | .ok .next, hres => exact hres.elim
  | .ok .brk, hres => exact hres.elim
  | .ok .cont, hres => exact hres.elim
theorem makeG (M : Mk X.K C f) (F : FnG X.prog X.w X.K X.mg X.base CX k f fd ps sp) (room : Room (k + 1) X.A) (gd : X.A.guards = some []) (bd : Binds X.K fd ps []) (px : ∀ σ, PassesAt CX X σ (EW σ)) (gl : Gl X x) (mgx : X.mg x = some (.ref C))
    (ha : PA X (e :: es) t) (h1 : (x == ("__debug__" : Str)) = false := by decide) (h2 : starEach (e :: es) X.env = (false, eval e X.env) :: starEach es X.env := by rfl) (h3 : (backTo pos (starEach es X.env)).any (·.1) = false := by rfl) :
    PE X (.Call (.Name x p) (e :: es) [] pos) (tMakeW C sp EW t) := ⟨fun pins s σ H Q I h => by
  refine wpAny_Call_Name_kw (ld_glob I gl mgx (PySem.W.callWith_K (h₀ := X.base) I.ok.mod.kin M.kp (thn (ha.run pos pins s σ H _ I h) fun us s1 hh => ?_) h2 h3) h1)
  obtain ⟨vs, H1, I1, rv, q⟩ := hh
  rw [List.append_nil] at q
  exact ⟨I1.kIn, makeRunG M F room gd bd (px _) I1 rv q⟩⟩
end
/-! ### a def's promise by its body -/
theorem fnG_of {CX : CXT} {P : Program} {w : World} {K : Frag} {mg : Str → Option Value} {base : Heap} {k : Nat} {f : Addr} {x qual : Str} {params : Arguments} {body : List Stmt} {scope : Scope} {dvs : List V} {kws : List (Str × V)} {fd : FuncData} {N ps : List Str} {sp : Sp}
    (F : FunD K x qual params body scope dvs kws f fd) (S : FnScope N ps scope) (len : ∀ vs H Q E, sp vs H Q E → vs.length = ps.length)
    (hb : ∀ (cdv : Value) (A : Around) (outer : List PySem.Env) (s : Shared) (H : Hp) (vs : List V) (Q : VK) (E : XK), Room k (cxOf CX P w K mg base N qual scope f cdv A outer s H E).A → (cxOf CX P w K mg base N qual scope f cdv A outer s H E).A.guards = some [] → sp vs H Q E →
      ∃ t, PSs (cxOf CX P w K mg base N qual scope f cdv A outer s H E) body t ∧ t { nx := fun _ H' => Q .non H', rt := Q } (start N vs) H) : FnG P w K mg base CX (k + 1) f fd ps sp := by
  obtain ⟨oc, od, dV, kV, doc, pm, an, cdv, ct, osl, rfl, lk, hcd, _, _⟩ := F.ex
  refine ⟨len, fun A outer s H args us vs Q E room gd e0 bd rv q => ?_⟩
  have KX : K.In s.heap := e0.mod.kin.keeps fun b o h => (e0.bs b o h).1
  have lim : s.heap.NoLimit := e0.mod.nolimit.keeps fun b o h => (e0.bs b o h).1
  refine codeAny_call_function room.depth (KX _ _ lk) rfl S.co S.gen rfl (PySem.W.codeRec_of KX hcd) (bd _ _ _ _ ?_)
  refine wpAny_newFunctionEnv_cells S.kind (fun y hy => ?_) fun env he s1 hin => ?_
  · rcases S.par y.1 (List.of_mem_zip (show (y.1, y.2) ∈ ps.zip us from hy)).1 with z | z
    · exact .inl z
    · exact .inr ⟨z, PySem.W.cellsFrom_some _ _ _ (.inl z)⟩
  subst he
  refine ⟨lim.keeps hin.toInCall.keep, codeAny_func ?_⟩
  obtain ⟨t, ht, hq⟩ := hb cdv A outer s H vs Q E (room.deeper _) gd q
  have J : Inv (cxOf CX P w K mg base N qual scope f cdv A outer s H E) [] (start N vs) H s1 := inv_start S room.hd e0 (len _ _ _ _ q) rv hin
  refine wpAny_mono (ht.run [] s1 (start N vs) H _ J hq) (fun fl s2 hs => ?_) fun _ _ hs => hs
  match fl, hs with
  | .ret u, ⟨v, _, H', I', r', q'⟩ => exact ⟨v, H', I'.os, I'.bare, I'.base, I'.hok, r', q'⟩
  | .next, ⟨_, H', I', q'⟩ => exact ⟨V.non, H', I'.os, I'.bare, I'.base, I'.hok, rfl, q'⟩
  | .brk, ⟨_, _, _, q'⟩ => exact False.elim q'
  | .cont, ⟨_, _, _, q'⟩ => exact False.elim q'
end DL

set_option Elab.async false
set_option linter.all false
set_option maxRecDepth 100000
set_option maxHeartbeats 2000000
namespace DL
open PySem PySem.Spec PyProof.Rows L2
section
variable {P : Program} {w : World} {K : Frag} {mg mb : Str → Option Value} {CX : CXT} {k : Nat} {fa a : Addr} {fd : FuncData} {x : Str} {sp : Sp} {s₁ : Shared} {vs : List Value} {ns : List Int}
/-- the law's call, from one abstract heap H that tracks nothing but the script -/
theorem lawG_at {H : Hp} (KX : K.In s₁.heap) (hns : s₁.heap.Ns mainGlobals mg) (hb : s₁.heap.Ns builtinsNs mb) (hbb : ∀ x : Str, x ≠ "__name__" → mb x = bootBuiltins x) (lim : s₁.heap.NoLimit) (g0 : s₁.gens = #[])
    (sc : s₁.heap.get? a = some { cls := .type "list", data := .seq vs.toArray }) (room : Room k callerA) (F : ∀ base : Heap, K.In base → base.Ns mainGlobals mg → FnG P w K mg base CX k fa fd [x] sp) (bd : ∀ (s : Shared) (u : Value), BindsTo s fd ⟨[u], []⟩ [(x, u)])
    (q : sp [.ref a] H (fun v _ => v = .bl true) fun _ _ _ => False) (hcx : ∀ e s', CX [] H s₁ (fun _ _ _ => False) e s' → False)
    (hO : Only H) (hok : HOk P w H s₁.heap) (at_a : ∀ b u, H b = some u → b = a) (notK : ∀ u, H a = some u → K.lookup a = none) :
    codeAny (model P w) callerA (.call (.ref fa) ⟨[.ref a], []⟩) (fun r s' => r = .ok (.ret (.bool true)) ∧ OldK s₁.heap s'.heap ∧ s'.os = s₁.os ∧ AllBare s'.gens) s₁ := by
  have free_of : ∀ b, (b = a → False) → H b = none := fun b n => by
    cases e : H b with
    | none => rfl
    | some u => exact (n (at_a b u e)).elim
  have keepNs : ∀ {b : Addr} {m : Str → Option Value}, s₁.heap.Ns b m → (hidT s₁.heap H).Ns b m := fun {b m} hn => by
    obtain ⟨o, es, ep, e, d, r⟩ := hn
    refine ⟨o, es, ep, hidT_get e (free_of b fun z => ?_), d, r⟩
    subst z
    rw [sc] at e
    cases e
    cases d
  have KB : K.In (hidT s₁.heap H) := fun b o e => by
    refine hidT_get (KX b o e) ?_
    cases z : H b with
    | none => rfl
    | some u =>
      have eb := at_a b u z
      subst eb
      rw [notK u z] at e
      cases e
  have md : Mod K mg (hidT s₁.heap H) := by
    obtain ⟨mc, l1, l2⟩ := lim
    exact ⟨KB, keepNs hns, ⟨mb, keepNs hb, hbb⟩, mc, keepNs l1, l2⟩
  have e0 : Env0 P w K mg (hidT s₁.heap H) callerA [] s₁ H := ⟨rfl, md, fun _ _ e => of_hidT e, Nat.le_of_eq (hidT_size _ _), trivial, fun b z => by simp [frs] at z, hok, AllBare.of_eq g0⟩
  refine codeAny_mono ((F _ KB (keepNs hns)).run callerA [] s₁ H ⟨[.ref a], []⟩ [.ref a] [.ref a] _ _ room rfl e0 (bd s₁ (.ref a)) (.cons rfl .nil) q) fun res s2 hres => ?_
  match res, hres with
  | .error e, hres => exact (hcx e s2 hres).elim
  | .ok .next, hres => exact hres.elim
  | .ok .brk, hres => exact hres.elim
  | .ok .cont, hres => exact hres.elim
  | .ok (.ret u), ⟨v, H', os, bare, un, hok', rv, qv⟩ =>
    cases qv
    cases rv
    refine ⟨rfl, OldK.of_keep fun b o e => ?_, os, bare⟩
    cases z : H b with
    | none => exact un.keep b o e z (by simp [frs]) (by simp)
    | some u =>
      rcases hO b with y | ⟨ob, xs, y⟩
      · rw [z] at y; cases y
      · have y2 := un.frzs b ob _ y
        obtain ⟨e1, _⟩ := hok b _ y
        obtain ⟨e2, _⟩ := hok' b _ y2
        rw [e] at e1
        cases e1
        exact e2
theorem lawG (KX : K.In s₁.heap) (hns : s₁.heap.Ns mainGlobals mg) (hb : s₁.heap.Ns builtinsNs mb) (hbb : ∀ x : Str, x ≠ "__name__" → mb x = bootBuiltins x) (lim : s₁.heap.NoLimit) (g0 : s₁.gens = #[])
    (sc : s₁.heap.get? a = some { cls := .type "list", data := .seq vs.toArray }) (hi : IntsAre vs ns) (hl : ns.length ≤ sizeLine) (room : Room k callerA) (F : ∀ base : Heap, K.In base → base.Ns mainGlobals mg → FnG P w K mg base CX k fa fd [x] sp) (bd : ∀ (s : Shared) (u : Value), BindsTo s fd ⟨[u], []⟩ [(x, u)])
    (q : ∀ H : Hp, Only H → SqL K H a (ns.map V.int) → sp [.ref a] H (fun v _ => v = .bl true) fun _ _ _ => False) (hcx : ∀ H e s', CX [] H s₁ (fun _ _ _ => False) e s' → False) :
    codeAny (model P w) callerA (.call (.ref fa) ⟨[.ref a], []⟩) (fun r s' => r = .ok (.ret (.bool true)) ∧ OldK s₁.heap s'.heap ∧ s'.os = s₁.os ∧ AllBare s'.gens) s₁ := by
  have rv := vals_ints hi
  cases hk : K.lookup a with
  | some o =>
    have e := KX a o hk
    rw [sc] at e
    cases e
    have hO : Only (fun _ => none) := fun _ => .inl rfl
    have hS : SqL K (fun _ => none) a (ns.map V.int) := .inr ⟨_, vs.toArray, _, hk, rfl, rfl, rfl, by rw [List.size_toArray, ← rv.length, List.length_map]; exact hl, by simpa using rv⟩
    exact lawG_at KX hns hb hbb lim g0 sc room F bd (q _ hO hS) (hcx _) hO (fun b u z => nomatch (show (none : Option HO) = some u from z)) (fun b u z => nomatch (show (none : Option HO) = some u from z)) fun u z => nomatch (show (none : Option HO) = some u from z)
  | none =>
    let o : Obj := { cls := .type "list", data := .seq vs.toArray }
    let H : Hp := fun b => if b = a then some (.frz o (.lst (ns.map V.int))) else none
    have Ha : H a = some (.frz o (.lst (ns.map V.int))) := if_pos rfl
    have Hb : ∀ b u, H b = some u → b = a := fun b u z => Classical.byContradiction fun n => by
      have z2 : (none : Option HO) = some u := (if_neg n).symm.trans z
      cases z2
    have hO : Only H := fun b => by
      by_cases n : b = a
      · exact .inr ⟨_, _, if_pos n⟩
      · exact .inl (if_neg n)
    refine lawG_at KX hns hb hbb lim g0 sc room F bd (q H hO (.inl (.inr ⟨o, Ha⟩))) (hcx H) hO (fun b u z => ?_) Hb fun _ _ => hk
    have eb := Hb b u z
    subst eb
    rw [Ha] at z
    cases z
    exact ⟨sc, by rw [List.length_map]; exact hl, vs, _, rv, sc⟩
end
theorem walkG {l : PySem.W.OpenLaw} {n k : Nat} {q : Program} {loose : List Str} {XP : (Str → Option Value) → Heap → Prop} {YP : World → Heap → Prop} {d : DefRec} {CX : World → CXT} {x : Str}
    (hn : l.most = some n) (hn2 : n ≤ sizeLine) (hdf : d.params.defaults = []) (room : Room k callerA)
    (F : ∀ (w : World) (mg : Str → Option Value) (fa : Addr) (h : Heap), YP w h → h.Ns mainGlobals mg → mg d.name = some (.ref fa) →
      ∃ (K : Frag) (fd : FuncData) (sp : Sp), K.In h ∧ (∀ (s : Shared) (u : Value), BindsTo s fd ⟨[u], []⟩ [(x, u)]) ∧
        (∀ (H : Hp) (a : Addr) (ns : List Int), ns.length ≤ n → Only H → SqL K H a (ns.map V.int) → sp [.ref a] H (fun v _ => v = .bl true) fun _ _ _ => False) ∧
        ∀ base : Heap, K.In base → base.Ns mainGlobals mg → FnG l.prog w K mg base (CX w) k fa fd [x] sp)
    (hCX : ∀ (w : World) (H : Hp) (s : Shared) (e : Value) (s' : Shared), CX w [] H s (fun _ _ _ => False) e s' → False) :
    PySem.W.WalkO q loose XP YP l.row.toRowW d [] (fun f vs => PySem.call f vs) := by
  refine Att.attach_call hn hdf fun w s₀ s₁ mg mb fa o pm cd doc a vs ns G Y ho hd hcd hmg hobj hints hlen hg => ?_
  obtain ⟨K, fd, sp, KX, hb, hsp, hF⟩ := F w mg fa _ Y G.T.g hmg
  exact lawG KX G.T.g G.T.b G.T.builtins G.T.nolimit hg hobj hints (Nat.le_trans hlen hn2) room hF hb (fun H hO hS => hsp H a ns hlen hO hS) fun H e s' => hCX w H s₁ e s'
end DL

set_option Elab.async false
set_option linter.all false
set_option maxRecDepth 100000
set_option maxHeartbeats 2000000
namespace DL
open PySem PySem.Spec PyProof.Rows L2

/-! ### promises over data -/
abbrev noX : XD := fun _ _ _ _ => False
abbrev SpD := List D → Ga → QD → XD → Prop
def Wv0 (K : Frag) (α : Al) (H : Hp) (Q : QD) (q : VK) : Prop := ∀ v H' α' d γ', Q d γ' → Ext α H α' H' → GaOk K H' α' γ' → Rp K H' α' v d → q v H'
theorem Wv.to0 {K : KX} {α : Al} {H : Hp} {Q : QD} {q : VK} (w : Wv K α H Q q) (x : Exc K α H) : Wv0 K.f α H Q q := fun v H' α' d γ' h e g r => w v H' α' d γ' h e ⟨g, x.mono g e⟩ r
def Xv (K : Frag) (α : Al) (H : Hp) (e : XD) (E : XK) : Prop :=
  ∀ C dd fs ds γ' α' H', e C (fs.map (·.1)) ds γ' → Ext α H α' H' → GaOk K H' α' γ' → H' dd = some (.xd fs) → dd ∉ α' → RpL K H' α' (fs.map (·.2)) ds → E (.ref C) (some dd) H'
def toSp (K : Frag) (s : SpD) : Sp := fun vs H Q E => ∃ α ds γ q e, RpL K H α vs ds ∧ GaOk K H α γ ∧ s ds γ q e ∧ Wv0 K α H q Q ∧ Xv K α H e E
theorem xv_no {K : Frag} {α : Al} {H : Hp} {E : XK} : Xv K α H noX E := fun _ _ _ _ _ _ _ h => h.elim
section
variable {K : KX} {n : Nat} {ρ : Env} {γ : Ga} {Q : QD} {s : SpD} {E : XK} {t : TA} {ta : TE} {C : Addr} {m : Str}
theorem Exc.xv {K : KX} {α : Al} {H : Hp} {σ : L2.St} {ρ : Env} (x : Exc K α H) (r : RpE K.f H α σ ρ) : Xv K.f α H (K.e ρ) (WE K.E σ) :=
  fun C dd fs ds γ' α' H' he e g hd nd rl => x σ ρ C dd fs ds γ' α' H' he (r.mono e) e g hd nd rl
theorem de_call (h : dA K t ρ γ fun ds γ1 => s ds γ1 Q (K.e ρ)) : dE K (tCallW (toSp K.f s) (WE K.E) t) ρ γ Q := fun σ H α q r g w =>
  h σ H α _ r g fun vs H1 α1 ds γ1 h1 e1 g1 r1 => by
    rw [List.append_nil]
    exact ⟨α1, ds, γ1, Q, K.e ρ, r1, g1.toGaOk, h1, (w.mono e1).to0 g1.exc, g1.exc.xv (r.mono e1)⟩
/-- r stands for an instance of the class at C with these fields -/
def InsAt (r : D) (γ : Ga) (C : Addr) (ns : List Str) (vs : List D) : Prop := (∃ k, r = .loc k ∧ γ[k]? = some (.ins C ns vs)) ∨ r = .ins C ns vs
theorem insAt_rp {H : Hp} {α : Al} {v : V} {r : D} {ns : List Str} {vs : List D} (i : InsAt r γ C ns vs) (g : GaX K H α γ) (rv : Rp K H α v r) :
    ∃ a dx fs, v = .ref a ∧ H a = some (.ins C dx fs) ∧ fs.map (·.1) = ns ∧ RpL K H α (fs.map (·.2)) vs := by
  rcases i with ⟨k, rfl, hk⟩ | rfl
  · cases rv with
    | loc ha =>
      obtain ⟨dx, fs, h1, h2, h3⟩ := g.at_ k _ _ ha hk
      exact ⟨_, dx, fs, rfl, h1, h2, h3⟩
  · cases rv with
    | ins h1 h2 h3 => exact ⟨_, _, _, rfl, h2, rfl, h3⟩
theorem lookup_none {fs : List (Str × V)} {m : Str} (h : (fs.map (·.1)).contains m = false) : fs.lookup m = none := by
  induction fs with
  | nil => rfl
  | cons p r ih =>
    obtain ⟨a, b⟩ := p
    simp only [List.map_cons, List.contains_cons, Bool.or_eq_false_iff] at h
    rw [List.lookup_cons, h.1]
    exact ih h.2
theorem de_meth (h : dE K ta ρ γ fun r γ1 => (∃ ns vs, InsAt r γ1 C ns vs ∧ ns.contains m = false) ∧ dA K t ρ γ1 fun ds γ2 => s (r :: ds) γ2 Q (K.e ρ)) : dE K (tMethW C m (toSp K.f s) (WE K.E) ta t) ρ γ Q := fun σ H α q r g w =>
  h σ H α _ r g fun v H1 α1 d γ1 ⟨⟨ns, vs, i, hm⟩, h1⟩ e1 g1 r1 => by
    obtain ⟨a, dx, fs, rfl, ha, hn, hv⟩ := insAt_rp i g1 r1
    refine ⟨a, dx, fs, rfl, ha, lookup_none (by rw [hn]; exact hm), h1 σ H1 α1 _ (r.mono e1) g1 fun us H2 α2 ds γ2 h2 e2 g2 r2 => ?_⟩
    rw [List.append_nil]
    exact ⟨α2, d :: ds, γ2, Q, K.e ρ, .cons (Rp.mono e2 _ _ r1) r2, g2.toGaOk, h2, (w.mono (e1.trans e2)).to0 g2.exc, g2.exc.xv ((r.mono e1).mono e2)⟩
/-- a new instance -/
theorem de_make (h : dA K t ρ γ fun ds γ1 => s (.loc γ1.length :: ds) (γ1 ++ [.ins C [] []]) (fun d γ2 => d = .non ∧ Q (.loc γ1.length) γ2) (K.e ρ)) : dE K (tMakeW C (toSp K.f s) (WE K.E) t) ρ γ Q := fun σ H α q r g w =>
  h σ H α _ r g fun us H1 α1 ds γ1 h1 e1 g1 r1 => fun x dx hx hdx hne => by
    rw [List.append_nil]
    have ea := ext_imm g1 (o := .own x) hdx
    have ga := ga_imm g1 (o := .own x) hdx
    have hx' : upd H1 dx (.own x) x = none := by rw [upd_ne (Ne.symm hne)]; exact hx
    have eb := ext_loc ga (o := .ins C dx []) hx'
    have gb := ga_loc ga (o := .ins C dx []) (m := .ins C [] []) hx' ⟨dx, [], upd_same, rfl, .nil⟩
    have hl : (α1.push x).h[γ1.length]? = some x := by show (α1.h ++ [x])[γ1.length]? = _; rw [← g1.len]; simp
    refine ⟨α1.push x, _, _, _, K.e ρ, .cons (.loc hl) (RpL.mono (ea.trans eb) _ _ r1), gb.toGaOk, h1, ?_, gb.exc.xv (((r.mono e1).mono ea).mono eb)⟩
    rintro v H2 α2 d γ2 ⟨rfl, hq⟩ e2 g2 r2
    cases r2
    exact ⟨rfl, w (.ref x) H2 α2 _ γ2 hq (((e1.trans ea).trans eb).trans e2) (gb.go g2 e2) (.loc (e2.get hl))⟩
/-! ### fields -/
def fix (ns : List Str) (f : Str) : Option Nat := ns.findIdx? (· == f)
theorem lookup_fix : ∀ {fs : List (Str × V)} {f : Str} {j : Nat}, fix (fs.map (·.1)) f = some j → ∃ v, fs.lookup f = some v ∧ (fs.map (·.2))[j]? = some v := by
  intro fs
  induction fs with
  | nil => intro f j h; cases h
  | cons p r ih =>
    intro f j h
    obtain ⟨a, b⟩ := p
    unfold fix at h
    rw [List.map_cons, List.findIdx?_cons] at h
    by_cases hc : (a == f) = true
    · rw [if_pos hc] at h
      cases h
      refine ⟨b, ?_, rfl⟩
      rw [List.lookup_cons, show (f == a) = true by rw [beq_iff_eq] at hc ⊢; exact hc.symm]
    · rw [if_neg hc] at h
      cases q : (r.map (·.1)).findIdx? (· == f) with
      | none => rw [q] at h; cases h
      | some i =>
        rw [q] at h
        cases h
        obtain ⟨v, h1, h2⟩ := ih (f := f) (j := i) q
        refine ⟨v, ?_, h2⟩
        rw [List.lookup_cons, show (f == a) = false by
          cases z : (f == a) with
          | false => rfl
          | true => exact absurd (by rw [beq_iff_eq] at z ⊢; exact z.symm) hc]
        exact h1
theorem de_fld {f : Str} (cl : Cls K C) (na : NoAttr K C f) (h : dE K ta ρ γ fun r γ1 => ∃ ns vs j d, InsAt r γ1 C ns vs ∧ fix ns f = some j ∧ vs[j]? = some d ∧ Q d γ1) : dE K (tFld K ta f) ρ γ Q := fun σ H α q r g w =>
  h σ H α _ r g fun v H1 α1 d γ1 ⟨ns, vs, j, x, i, hj, hx, hq⟩ e1 g1 r1 => by
    obtain ⟨a, dx, fs, rfl, ha, hn, hv⟩ := insAt_rp i g1 r1
    subst hn
    obtain ⟨u, h1, h2⟩ := lookup_fix hj
    obtain ⟨u', h3, h4⟩ := hv.get hx
    rw [h2] at h3
    cases h3
    exact ⟨a, C, dx, fs, u, rfl, ha, cl, na, h1, w u H1 α1 x γ1 hq e1 g1 h4⟩
theorem putF_new : ∀ {fs : List (Str × V)} {f : Str} {v : V}, fix (fs.map (·.1)) f = none → putF f v fs = fs ++ [(f, v)] := by
  intro fs
  induction fs with
  | nil => intro f v h; rfl
  | cons p r ih =>
    intro f v h
    obtain ⟨a, b⟩ := p
    unfold fix at h
    rw [List.map_cons, List.findIdx?_cons] at h
    by_cases hc : (a == f) = true
    · rw [if_pos hc] at h; cases h
    · rw [if_neg hc] at h
      have hn : ¬ a = f := fun e => hc (by rw [beq_iff_eq]; exact e)
      show (if a = f then _ else (a, b) :: putF f v r) = _
      rw [if_neg hn, ih]
      · rfl
      · unfold fix
        cases q : (r.map (·.1)).findIdx? (· == f) with
        | none => rfl
        | some i => rw [q] at h; cases h
theorem putF_old : ∀ {fs : List (Str × V)} {f : Str} {v : V} {j : Nat}, fix (fs.map (·.1)) f = some j → (putF f v fs).map (·.1) = fs.map (·.1) ∧ (putF f v fs).map (·.2) = (fs.map (·.2)).set j v := by
  intro fs
  induction fs with
  | nil => intro f v j h; cases h
  | cons p r ih =>
    intro f v j h
    obtain ⟨a, b⟩ := p
    unfold fix at h
    rw [List.map_cons, List.findIdx?_cons] at h
    by_cases hc : (a == f) = true
    · rw [if_pos hc] at h
      cases h
      have hn : a = f := by rw [beq_iff_eq] at hc; exact hc
      show ((if a = f then (a, v) :: r else (a, b) :: putF f v r).map (·.1)) = _ ∧ ((if a = f then (a, v) :: r else (a, b) :: putF f v r).map (·.2)) = _
      rw [if_pos hn]
      exact ⟨rfl, rfl⟩
    · rw [if_neg hc] at h
      have hn : ¬ a = f := fun e => hc (by rw [beq_iff_eq]; exact e)
      cases q : (r.map (·.1)).findIdx? (· == f) with
      | none => rw [q] at h; cases h
      | some i =>
        rw [q] at h
        cases h
        obtain ⟨h1, h2⟩ := ih (f := f) (v := v) (j := i) q
        show ((if a = f then (a, v) :: r else (a, b) :: putF f v r).map (·.1)) = _ ∧ ((if a = f then (a, v) :: r else (a, b) :: putF f v r).map (·.2)) = _
        rw [if_neg hn]
        refine ⟨?_, ?_⟩
        · show a :: (putF f v r).map (·.1) = _
          rw [h1]
          rfl
        · show b :: (putF f v r).map (·.2) = _
          rw [h2]
          rfl
/-- r.f = d, r the k-th mutable object -/
def stored (ns : List Str) (vs : List D) (f : Str) (d : D) : List Str × List D := match fix ns f with
  | some j => (ns, vs.set j d)
  | none => (ns ++ [f], vs ++ [d])
theorem ds_fld {B : DEnds} {tv : TE} {f : Str} (h : dE K tv ρ γ fun d γ1 => dE K ta ρ γ1 fun r γ2 => ∃ k C ns vs, r = .loc k ∧ γ2[k]? = some (.ins C ns vs) ∧ Cls K C ∧ NoAttr K C f ∧ vs.length < 1000 ∧
      B.nx ρ (γ2.set k (.ins C (stored ns vs f d).1 (stored ns vs f d).2))) : dS K n (sFld K ta tv f) ρ γ B := fun σ H α α0 H0 Dn hn e r g fe =>
  h σ H α _ r g fun v H1 α1 d γ1 h1 e1 g1 r1 => h1 σ H1 α1 _ (r.mono e1) g1 fun u H2 α2 ro γ2 ⟨k, C, ns, vs, er, hk, cl, na, hl, hq⟩ e2 g2 r2 => by
    subst er
    cases r2 with
    | @loc _ a ha =>
      obtain ⟨dx, fs, h1, h2, h3⟩ := g2.at_ k _ _ ha hk
      subst h2
      have rd := Rp.mono e2 _ _ r1
      have ex := ext_set g2 (o := .ins C dx (putF f v fs)) (List.mem_of_getElem? ha)
      refine ⟨a, C, dx, fs, rfl, h1, cl, na, by rw [← List.length_map (f := (·.2)), h3.length]; exact hl, fe.nx σ _ α2 ρ _ hq (((e.trans e1).trans e2).trans ex) (ga_set g2 ha ?_) (((r.mono e1).mono e2).mono ex)⟩
      unfold stored
      cases q : fix (fs.map (·.1)) f with
      | none =>
        have q1 : (putF f v fs).map (·.1) = fs.map (·.1) ++ [f] := by rw [putF_new q]; simp
        have q2 : (putF f v fs).map (·.2) = fs.map (·.2) ++ [v] := by rw [putF_new q]; simp
        refine ⟨dx, _, upd_same, q1, ?_⟩
        · rw [q2]
          exact (RpL.mono ex _ _ h3).append (.cons (Rp.mono ex _ _ rd) .nil)
      | some j =>
        obtain ⟨q1, q2⟩ := putF_old (v := v) q
        refine ⟨dx, _, upd_same, q1, ?_⟩
        rw [q2]
        exact (RpL.mono ex _ _ h3).set (Rp.mono ex _ _ rd) j
/-! ### xs[i] = e -/
theorem dg_setL {N : Env → Ga → Prop} {to ti : TE} {d : D} (h : dE K to ρ γ fun o γ1 => dE K ti ρ γ1 fun i γ2 => ∃ k xs z j, o = .loc k ∧ γ2[k]? = some (.lst xs) ∧ i = .int z ∧ ixN xs.length z = some j ∧ N ρ (γ2.set k (.lst (xs.set j d)))) :
    dG K (gSub to ti rSetL) d ρ γ [] N := fun σ H α v q r g rv w =>
  h σ H α _ r g fun vo H1 α1 o γ1 h1 e1 g1 r1 => h1 σ H1 α1 _ (r.mono e1) g1 fun vi H2 α2 i γ2 ⟨k, xs, z, j, eo, hk, ei, hj, hN⟩ e2 g2 r2 => by
    subst eo ei
    cases r2
    cases Rp.mono e2 _ _ r1 with
    | @loc _ a ha =>
      obtain ⟨us, h1, h3⟩ := g2.at_ k _ _ ha hk
      have rd := Rp.mono (e1.trans e2) _ _ rv
      have ex := ext_set g2 (o := .lst (us.set j v)) (List.mem_of_getElem? ha)
      refine ⟨a, us, z, j, rfl, rfl, h1, by rw [h3.length]; exact hj, w σ _ α2 ρ _ hN ⟨rfl, fun _ _ => rfl⟩ ((e1.trans e2).trans ex) (ga_set g2 ha ⟨_, upd_same, (RpL.mono ex _ _ h3).set (Rp.mono ex _ _ rd) j⟩) ((r.mono (e1.trans e2)).mono ex)⟩
end
end DL

set_option Elab.async false
set_option linter.all false
set_option maxRecDepth 100000
set_option maxHeartbeats 2000000
namespace DL
open PySem PySem.Spec PyProof.Rows L2

/-! ### data as the library's -/
mutual
def D.py : D → PyData
  | .bl b => .bool b
  | .int i => .int i
  | .str x => .str x
  | .tup ds => .tuple (pyL ds)
  | .lst ds => .list (pyL ds)
  | _ => .none
def pyL : List D → List PyData
  | [] => []
  | d :: ds => d.py :: pyL ds
end
mutual
/-- none but None, bools, ints, texts, tuples, lists -/
def D.pl : D → Bool
  | .non => true
  | .bl _ => true
  | .int _ => true
  | .str _ => true
  | .tup ds => plL ds
  | .lst ds => plL ds
  | _ => false
def plL : List D → Bool
  | [] => true
  | d :: ds => d.pl && plL ds
end
section
variable {K : KX} {H : Hp} {α : Al} {γ : Ga}
mutual
theorem Rp.dp : ∀ (d : D) (v : V), Rp K H α v d → d.pl = true → Dp K H v d.py
  | .non, _, h, _ => by cases h; exact .non
  | .bl b, _, h, _ => by cases h; exact .bl b
  | .int i, _, h, _ => by cases h; exact .int i
  | .str x, _, h, _ => by cases h; exact .str x
  | .tup ds, _, h, p => by
    cases h with
    | tup h1 h2 => exact .tup h1.sq (RpL.dp ds _ h2 (by simpa [D.pl] using p))
  | .lst ds, _, h, p => by
    cases h with
    | lst h1 h2 h3 => exact .lst (SqL.of h2) (RpL.dp ds _ h3 (by simpa [D.pl] using p))
  | .ty _, _, _, p => by simp [D.pl] at p
  | .ref _, _, _, p => by simp [D.pl] at p
  | .loc _, _, _, p => by simp [D.pl] at p
  | .ins _ _ _, _, _, p => by simp [D.pl] at p
  | .dic _ _, _, _, p => by simp [D.pl] at p
  | .dit _ _, _, _, p => by simp [D.pl] at p
  | .exc _ _ _ _ _, _, _, p => by simp [D.pl] at p
  | .cst _, _, _, p => by simp [D.pl] at p
  | .exv _ _ _, _, _, p => by simp [D.pl] at p
theorem RpL.dp : ∀ (ds : List D) (vs : List V), RpL K H α vs ds → plL ds = true → DpAll K H vs (pyL ds)
  | [], _, h, _ => by cases h; exact .nil
  | d :: ds, _, h, p => by
    cases h with
    | cons h1 h2 =>
      have p' : d.pl = true ∧ plL ds = true := by simpa [plL] using p
      exact .cons (Rp.dp d _ h1 p'.1) (RpL.dp ds _ h2 p'.2)
end
/-- a mutable list is read as it stands -/
def vw (γ : Ga) : D → D
  | .loc k => match γ[k]? with
    | some (.lst xs) => .lst xs
    | _ => .loc k
  | d => d
theorem Rp.dpv (g : GaX K H α γ) {d : D} {v : V} (r : Rp K H α v d) (p : (vw γ d).pl = true) : Dp K H v (vw γ d).py := by
  cases d with
  | loc k =>
    cases r with
    | @loc _ a ha =>
      cases q : γ[k]? with
      | none => simp [vw, q, D.pl] at p
      | some m =>
        cases m with
        | lst xs =>
          obtain ⟨us, h1, h2⟩ := g.at_ k _ _ ha q
          have p' : plL xs = true := by simpa [vw, q, D.pl] using p
          have e : vw γ (.loc k) = .lst xs := by simp [vw, q]
          rw [e]
          exact .lst (SqL.of h1) (RpL.dp xs _ h2 p')
        | _ => simp [vw, q, D.pl] at p
  | _ => exact Rp.dp _ _ r p
end
/-! ### comparisons -/
def rEqM (K : Frag) : R2 := fun x y H Q => ∃ d e, Dp K H x d ∧ Dp K H y e ∧ d.canLay0 = true ∧ e.canLay0 = true ∧ (d.depth ≤ 64 ∨ e.depth ≤ 64) ∧ Q (.bl (PyData.eqv d e)) H
def rNeM (K : Frag) : R2 := fun x y H Q => ∃ d e, Dp K H x d ∧ Dp K H y e ∧ d.canLay0 = true ∧ e.canLay0 = true ∧ (d.depth ≤ 64 ∨ e.depth ≤ 64) ∧ Q (.bl (!PyData.eqv d e)) H
theorem min64 {A : Around} {d e : PyData} (h : d.depth ≤ 64 ∨ e.depth ≤ 64) (hu : A.units + 64 < cLine) : A.units + min d.depth e.depth < cLine := by
  have h1 : min d.depth e.depth ≤ d.depth := Nat.min_le_left _ _
  have h2 : min d.depth e.depth ≤ e.depth := Nat.min_le_right _ _
  omega
theorem op_eqM {X : Cx} (hu : X.A.units + 64 < cLine) : OpR X (compareOp .Eq) (rEqM X.K) := by
  intro pins s σ H x y v u Q I rx ry h
  obtain ⟨d, e, hd, he, sd, se, hm, q⟩ := h
  obtain ⟨as, r1⟩ := Dp.reads I d x v hd rx
  obtain ⟨bs, r2⟩ := Dp.reads I e y u he ry
  exact SeqAt.compareEq_reads r1 r2 sd se (min64 hm hu) ⟨.bl _, H, I, rfl, q⟩
theorem op_neM {X : Cx} (hu : X.A.units + 64 < cLine) : OpR X (compareOp .NotEq) (rNeM X.K) := by
  intro pins s σ H x y v u Q I rx ry h
  obtain ⟨d, e, hd, he, sd, se, hm, q⟩ := h
  obtain ⟨as, r1⟩ := Dp.reads I d x v hd rx
  obtain ⟨bs, r2⟩ := Dp.reads I e y u he ry
  exact SeqAt.compareNe_reads r1 r2 sd se (min64 hm hu) ⟨.bl _, H, I, rfl, q⟩
def rEqG (K : Frag) : R2 := fun x y H Q => rEq x y H Q ∨ rEqM K x y H Q
def rNeG (K : Frag) : R2 := fun x y H Q => rNe x y H Q ∨ rNeM K x y H Q
theorem op_eqG {X : Cx} (hu : X.A.units + 64 < cLine) : OpR X (compareOp .Eq) (rEqG X.K) := op_eq.or (op_eqM hu)
theorem op_neG {X : Cx} (hu : X.A.units + 64 < cLine) : OpR X (compareOp .NotEq) (rNeG X.K) := op_ne.or (op_neM hu)
section
variable {K : KX} {γ : Ga} {Q : QD}
theorem req_int {i j : Int} (q : Q (.bl (decide (i = j))) γ) : dR2 K (rEqG K) (.int i) (.int j) γ Q := fun H α v w k g r1 r2 wv => by
  cases r1; cases r2
  refine .inl ⟨rfl, ?_⟩
  have e : decide (V.int i = V.int j) = decide (i = j) := by simp
  rw [e]
  exact wv _ H α _ γ q g.refl g (.bl _)
theorem req_str {i j : Str} (q : Q (.bl (decide (i = j))) γ) : dR2 K (rEqG K) (.str i) (.str j) γ Q := fun H α v w k g r1 r2 wv => by
  cases r1; cases r2
  refine .inl ⟨rfl, ?_⟩
  have e : decide (V.str i = V.str j) = decide (i = j) := by simp
  rw [e]
  exact wv _ H α _ γ q g.refl g (.bl _)
theorem req_bl {i j : Bool} (q : Q (.bl (decide (i = j))) γ) : dR2 K (rEqG K) (.bl i) (.bl j) γ Q := fun H α v w k g r1 r2 wv => by
  cases r1; cases r2
  refine .inl ⟨rfl, ?_⟩
  have e : decide (V.bl i = V.bl j) = decide (i = j) := by simp
  rw [e]
  exact wv _ H α _ γ q g.refl g (.bl _)
theorem req_D {x y : D} (p1 : (vw γ x).pl = true) (p2 : (vw γ y).pl = true) (s1 : SeqAt.shaped (vw γ x).py = true) (s2 : SeqAt.shaped (vw γ y).py = true) (q : Q (.bl (PyData.eqv (vw γ x).py (vw γ y).py)) γ) : dR2 K (rEqG K) x y γ Q := fun H α v w k g r1 r2 wv =>
  .inr ⟨_, _, r1.dpv g p1, r2.dpv g p2, SeqAt.canLay_of_shaped s1, SeqAt.canLay_of_shaped s2, .inl (SeqAt.depth_of_shaped s1), wv _ H α _ γ q g.refl g (.bl _)⟩
theorem req_M {x y : D} (p1 : (vw γ x).pl = true) (p2 : (vw γ y).pl = true) (s1 : (vw γ x).py.canLay0 = true) (s2 : (vw γ y).py.canLay0 = true) (hm : (vw γ x).py.depth ≤ 64 ∨ (vw γ y).py.depth ≤ 64) (q : Q (.bl (PyData.eqv (vw γ x).py (vw γ y).py)) γ) : dR2 K (rEqG K) x y γ Q := fun H α v w k g r1 r2 wv =>
  .inr ⟨_, _, r1.dpv g p1, r2.dpv g p2, s1, s2, hm, wv _ H α _ γ q g.refl g (.bl _)⟩
theorem rne_int {i j : Int} (q : Q (.bl (!decide (i = j))) γ) : dR2 K (rNeG K) (.int i) (.int j) γ Q := fun H α v w k g r1 r2 wv => by
  cases r1; cases r2
  refine .inl ⟨rfl, ?_⟩
  have e : decide (V.int i = V.int j) = decide (i = j) := by simp
  rw [e]
  exact wv _ H α _ γ q g.refl g (.bl _)
theorem rne_str {i j : Str} (q : Q (.bl (!decide (i = j))) γ) : dR2 K (rNeG K) (.str i) (.str j) γ Q := fun H α v w k g r1 r2 wv => by
  cases r1; cases r2
  refine .inl ⟨rfl, ?_⟩
  have e : decide (V.str i = V.str j) = decide (i = j) := by simp
  rw [e]
  exact wv _ H α _ γ q g.refl g (.bl _)
theorem rne_bl {i j : Bool} (q : Q (.bl (!decide (i = j))) γ) : dR2 K (rNeG K) (.bl i) (.bl j) γ Q := fun H α v w k g r1 r2 wv => by
  cases r1; cases r2
  refine .inl ⟨rfl, ?_⟩
  have e : decide (V.bl i = V.bl j) = decide (i = j) := by simp
  rw [e]
  exact wv _ H α _ γ q g.refl g (.bl _)
theorem rne_D {x y : D} (p1 : (vw γ x).pl = true) (p2 : (vw γ y).pl = true) (s1 : SeqAt.shaped (vw γ x).py = true) (s2 : SeqAt.shaped (vw γ y).py = true) (q : Q (.bl (!PyData.eqv (vw γ x).py (vw γ y).py)) γ) : dR2 K (rNeG K) x y γ Q := fun H α v w k g r1 r2 wv =>
  .inr ⟨_, _, r1.dpv g p1, r2.dpv g p2, SeqAt.canLay_of_shaped s1, SeqAt.canLay_of_shaped s2, .inl (SeqAt.depth_of_shaped s1), wv _ H α _ γ q g.refl g (.bl _)⟩
theorem ri0 {f : Int → Int → V} {i j : Int} {z : D} (hz : ∀ H α, Rp K H α (f i j) z) (q : Q z γ) : dR2 K (rI0 f) (.int i) (.int j) γ Q := fun H α v w k g r1 r2 wv => by
  cases r1; cases r2
  exact ⟨i, j, rfl, rfl, wv _ H α _ γ q g.refl g (hz H α)⟩
theorem ri {C : Int → Int → Prop} {f : Int → Int → V} {i j : Int} {z : D} (hz : ∀ H α, Rp K H α (f i j) z) (hc : C i j) (q : Q z γ) : dR2 K (rI C f) (.int i) (.int j) γ Q := fun H α v w k g r1 r2 wv => by
  cases r1; cases r2
  exact ⟨i, j, rfl, rfl, hc, wv _ H α _ γ q g.refl g (hz H α)⟩
end
/-! ### + -/
def rAddS : R2 := fun x y H Q => ∃ i j, x = .str i ∧ y = .str j ∧ i.length + j.length ≤ sizeLine ∧ Q (.str (i ++ j)) H
def rAddG (K : Frag) : R2 := fun x y H Q => rI0 (fun i j => .int (i + j)) x y H Q ∨ rAddS x y H Q ∨ rCat x y H Q ∨ rCatT K x y H Q
theorem op_addG {X : Cx} : OpR X (binaryOp .Add) (rAddG X.K) := op_add.or (op_add_str.or (op_cat.or op_catT))
theorem le24 {m : Nat} (h : m ≤ 1000000) : m ≤ sizeLine := Nat.le_trans h (by decide)
section
variable {K : KX} {γ : Ga} {Q : QD}
theorem radd_int {i j : Int} (q : Q (.int (i + j)) γ) : dR2 K (rAddG K) (.int i) (.int j) γ Q := fun H α v w k g r1 r2 wv =>
  .inl (ri0 (fun _ _ => .int _) q H α v w k g r1 r2 wv)
theorem radd_str {i j : Str} (hl : i.length + j.length ≤ 1000000) (q : Q (.str (i ++ j)) γ) : dR2 K (rAddG K) (.str i) (.str j) γ Q := fun H α v w k g r1 r2 wv => by
  cases r1; cases r2
  exact .inr (.inl ⟨i, j, rfl, rfl, le24 hl, wv _ H α _ γ q g.refl g (.str _)⟩)
theorem lst_vw {H : Hp} {α : Al} {v : V} {x : D} {xs : List D} (g : GaX K H α γ) (r : Rp K H α v x) (e : vw γ x = .lst xs) : ∃ a us, v = .ref a ∧ H a = some (.lst us) ∧ RpL K H α us xs := by
  cases r with
  | @loc k a ha =>
    cases q : γ[k]? with
    | none => simp [vw, q] at e
    | some m =>
      cases m with
      | lst ys =>
        simp [vw, q] at e
        subst e
        obtain ⟨us, h1, h2⟩ := g.at_ k _ _ ha q
        exact ⟨a, us, rfl, h1, h2⟩
      | _ => simp [vw, q] at e
  | lst h1 h2 h3 =>
    simp [vw] at e
    subst e
    exact ⟨_, _, rfl, h2, h3⟩
  | _ => simp [vw] at e
theorem radd_lst {x y : D} {xs ys : List D} (hx : vw γ x = .lst xs) (hy : vw γ y = .lst ys) (hl : xs.length + ys.length ≤ 1000000) (q : Q (.lst (xs ++ ys)) γ) : dR2 K (rAddG K) x y γ Q := fun H α v w k g r1 r2 wv => by
  obtain ⟨a, us, rfl, ha, ru⟩ := lst_vw g r1 hx
  obtain ⟨b, ws, rfl, hb, rw'⟩ := lst_vw g r2 hy
  refine .inr (.inr (.inl ⟨a, b, us, ws, rfl, rfl, ha, hb, by rw [ru.length, rw'.length]; exact le24 hl, fun p hp => ?_⟩))
  exact wv _ _ α _ γ q (ext_imm g hp) (ga_imm g hp) (.lst (g.new hp) upd_same (RpL.mono (ext_imm g hp) _ _ (ru.append rw')))
theorem radd_lstM {x y : D} {xs ys : List D} (hx : vw γ x = .lst xs) (hy : vw γ y = .lst ys) (hl : xs.length + ys.length ≤ 1000000) (q : Q (.loc γ.length) (γ ++ [.lst (xs ++ ys)])) : dR2 K (rAddG K) x y γ Q := fun H α v w k g r1 r2 wv => by
  obtain ⟨a, us, rfl, ha, ru⟩ := lst_vw g r1 hx
  obtain ⟨b, ws, rfl, hb, rw'⟩ := lst_vw g r2 hy
  refine .inr (.inr (.inl ⟨a, b, us, ws, rfl, rfl, ha, hb, by rw [ru.length, rw'.length]; exact le24 hl, fun p hp => ?_⟩))
  have ex := ext_loc g (o := .lst (us ++ ws)) hp
  exact wv _ _ (α.push p) _ _ q ex (ga_loc g hp ⟨_, upd_same, RpL.mono ex _ _ (ru.append rw')⟩) (.loc (by show (α.h ++ [p])[γ.length]? = _; rw [← g.len]; simp))
theorem radd_tup {xs ys : List D} (hl : xs.length + ys.length ≤ 1000000) (q : Q (.tup (xs ++ ys)) γ) (hx : xs ≠ []) : dR2 K (rAddG K) (.tup xs) (.tup ys) γ Q := fun H α v w k g r1 r2 wv => by
  cases r1 with
  | @tup a us _ h1 ru =>
    cases r2 with
    | @tup b ws _ h2 rw' =>
      have hne : us ≠ [] := fun e => hx (by subst e; have := ru.length; cases xs with | nil => rfl | cons _ _ => simp at this)
      refine .inr (.inr (.inr ⟨a, b, us, ws, rfl, rfl, h1.sq, h2.sq, hne, by rw [ru.length, rw'.length]; exact le24 hl, fun e => ?_, fun e p hp => ?_⟩))
      · subst e
        cases rw'
        rw [List.append_nil] at q
        exact wv _ H α _ γ q g.refl g (.tup h1 ru)
      · exact wv _ _ α _ γ q (ext_imm g hp) (ga_imm g hp) (.tup ⟨g.new hp, upd_same⟩ (RpL.mono (ext_imm g hp) _ _ (ru.append rw')))
end
end DL

set_option Elab.async false
set_option linter.all false
set_option maxRecDepth 100000
set_option maxHeartbeats 2000000
namespace DL
open PySem PySem.Spec PyProof.Rows L2

/-- a text by its code points -/
def S (l : List Nat) : Str := ⟨l.toArray⟩
theorem S_l (l : List Nat) : (S l).cps.toList = l := by simp [S]
theorem S_of (x : Str) : S x.cps.toList = x := by
  cases x; simp [S]
theorem S_len (l : List Nat) : (S l).length = l.length := by
  show l.toArray.size = l.length
  simp
theorem S_inj {a b : List Nat} : S a = S b ↔ a = b := ⟨fun h => by rw [← S_l a, h, S_l], fun h => by rw [h]⟩
theorem S_app (a b : List Nat) : S a ++ S b = S (a ++ b) := by
  show (⟨a.toArray ++ b.toArray⟩ : Str) = ⟨(a ++ b).toArray⟩
  simp
/-! ### * -/
def reps (n : Nat) (l : List Nat) : List Nat := (List.replicate n l).flatten
theorem foldl_app (ls : List (Array Nat)) : ∀ acc : Array Nat, (ls.foldl (· ++ ·) acc).toList = acc.toList ++ (ls.map (·.toList)).flatten := by
  induction ls with
  | nil => intro acc; simp
  | cons a r ih => intro acc; rw [List.foldl_cons, ih]; simp
theorem mul_S (l : List Nat) (n : Nat) : Txt.mul (S l) (n : Int) = S (reps n l) := by
  unfold Txt.mul
  by_cases h0 : n = 0
  · subst h0
    rw [if_pos (by omega)]
    rfl
  · rw [if_neg (by omega)]
    by_cases h1 : n = 1
    · subst h1
      rw [if_pos (by simp)]
      simp [reps]
    · by_cases hl : l = []
      · subst hl
        rw [if_pos (by simp [S, Str.length])]
        have : reps n [] = [] := by simp [reps]
        rw [this]
      · have hc : ((n : Int) == 1 || (S l).length == 0) = false := by
          rw [Bool.or_eq_false_iff]
          refine ⟨?_, ?_⟩
          · rw [beq_eq_false_iff_ne]; omega
          · rw [beq_eq_false_iff_ne, S_len]
            intro z
            exact hl (List.eq_nil_of_length_eq_zero z)
        rw [if_neg (by rw [hc]; exact Bool.false_ne_true)]
        have e : ((List.replicate (n : Int).toNat (S l).cps).foldl (· ++ ·) #[]).toList = reps n l := by
          rw [foldl_app]
          simp [reps, S]
        rw [← S_of ⟨_⟩]
        show S (_ : Array Nat).toList = _
        rw [e]
def rMulS : R2 := fun x y H Q => ∃ l n, x = .str (S l) ∧ y = .int (n : Nat) ∧ l.length * n ≤ 1000000 ∧ n ≤ 1000000 ∧ Q (.str (S (reps n l))) H
theorem op_mulS {X : Cx} : OpR X (binaryOp .Mult) rMulS := by
  intro pins s σ H x y v u Q I rx ry h
  obtain ⟨l, n, rfl, rfl, hl, hn, q⟩ := h
  obtain ⟨t, rfl⟩ := rx
  obtain ⟨t', rfl⟩ := ry
  refine SB.mul ⟨?_, fun h1 h2 => ?_, fun h1 h2 => ?_⟩ fun t2 k => ?_
  · rw [Bool.or_eq_false_iff, decide_eq_false_iff_not, decide_eq_false_iff_not]
    omega
  · intro h3
    have hp : (0 : Int) < (n : Int) := by omega
    have h4 : ((S l).length : Int) * n ≤ 1000000 := by
      rw [S_len]
      have h : ((l.length * n : Nat) : Int) ≤ ((1000000 : Nat) : Int) := Int.ofNat_le.mpr hl
      rw [Int.natCast_mul] at h
      exact h
    have h5 : (2 ^ 63 - 1 : Int) / n < (S l).length := h3
    have h6 := (Int.ediv_lt_iff_lt_mul hp).mp h5
    omega
  · have h7 : (S l).length * (n : Int).toNat = l.length * n := by rw [S_len, Int.toNat_natCast]
    rw [h7]
    exact decide_eq_false (Nat.not_lt.mpr (le24 hl))
  · rw [mul_S]
    exact ⟨.str _, H, ⟨I.tok k |>.ok, I.os, I.bare, I.base, I.loc, I.cell, I.free, I.freeC, I.pin, I.hok, I.len⟩, ⟨_, rfl⟩, q⟩
def rMulG (K : Frag) : R2 := fun x y H Q => rI CMul (fun i j => .int (i * j)) x y H Q ∨ rRep x y H Q ∨ rMulS x y H Q ∨ rI CMulW (fun i j => .int (i * j)) x y H Q
theorem op_mulG {X : Cx} : OpR X (binaryOp .Mult) (rMulG X.K) := op_mul.or (op_rep.or (op_mulS.or op_mulW))
section
variable {K : KX} {γ : Ga} {Q : QD}
theorem rmul_int {i j : Int} (hc : CMul i j) (q : Q (.int (i * j)) γ) : dR2 K (rMulG K) (.int i) (.int j) γ Q := fun H α v w k g r1 r2 wv =>
  .inl (ri (fun _ _ => .int _) hc q H α v w k g r1 r2 wv)
theorem rmul_str {l : List Nat} {n : Nat} (h1 : l.length * n ≤ 1000000) (h2 : n ≤ 1000000) (q : Q (.str (S (reps n l))) γ) : dR2 K (rMulG K) (.str (S l)) (.int (n : Int)) γ Q := fun H α v w k g r1 r2 wv => by
  cases r1; cases r2
  exact .inr (.inr (.inl ⟨l, n, rfl, rfl, h1, h2, wv _ H α _ γ q g.refl g (.str _)⟩))
theorem rmul_wide {i j : Int} (hc : CMulW i j) (q : Q (.int (i * j)) γ) : dR2 K (rMulG K) (.int i) (.int j) γ Q := fun H α v w k g r1 r2 wv =>
  .inr (.inr (.inr (ri (fun _ _ => .int _) hc q H α v w k g r1 r2 wv)))
theorem RpL.reps {H : Hp} {α : Al} {us : List V} {xs : List D} (r : RpL K H α us xs) : ∀ n : Nat, RpL K H α (List.replicate n us).flatten (List.replicate n xs).flatten
  | 0 => .nil
  | n + 1 => by
    rw [List.replicate_succ, List.replicate_succ, List.flatten_cons, List.flatten_cons]
    exact r.append (RpL.reps r n)
theorem rmul_lst {x : D} {xs : List D} {n : Nat} (hx : vw γ x = .lst xs) (h1 : xs.length * n ≤ 1000000) (h2 : n ≤ 1000000) (q : Q (.lst (List.replicate n xs).flatten) γ) : dR2 K (rMulG K) x (.int (n : Int)) γ Q := fun H α v w k g r1 r2 wv => by
  obtain ⟨a, us, rfl, ha, ru⟩ := lst_vw g r1 hx
  cases r2
  refine .inr (.inl ⟨a, n, us, rfl, rfl, ha, by omega, by omega, by rw [ru.length]; exact le24 (by simpa using h1), fun p hp => ?_⟩)
  have e : (n : Int).toNat = n := Int.toNat_natCast n
  rw [e]
  exact wv _ _ α _ γ q (ext_imm g hp) (ga_imm g hp) (.lst (g.new hp) upd_same (RpL.mono (ext_imm g hp) _ _ (ru.reps n)))
/-! ### the other operators of ints -/
def rSubD : R2 := rI0 fun i j => .int (i - j)
def CDivA (_ j : Int) : Prop := j ≠ 0 ∧ j.natAbs.log2 < 9000
theorem op_fdivA {X : Cx} : OpR X (binaryOp .FloorDiv) (rI CDivA fun i j => .int (i.fdiv j)) := opI fun _ _ _ _ _ _ _ hc q => floordiv_int hc.1 q (.inl (PyProof.noPylong_of_log2 hc.2))
def rFdiv : R2 := rI CDivA fun i j => .int (i.fdiv j)
def rMod : R2 := rI (fun _ j => j ≠ 0) fun i j => .int (i.fmod j)
def rPow : R2 := rI CPow fun i j => .int (i ^ j.toNat)
theorem rsub_int {i j : Int} (q : Q (.int (i - j)) γ) : dR2 K rSubD (.int i) (.int j) γ Q := ri0 (fun _ _ => .int _) q
theorem rfdiv_int {i j : Int} (hc : CDivN i j) (q : Q (.int (i.fdiv j)) γ) : dR2 K rFdiv (.int i) (.int j) γ Q := ri (fun _ _ => .int _) ⟨hc.1, by
  have h1 : j.natAbs ≠ 0 := by have := hc.1; omega
  have h2 : j.natAbs < 2 ^ 30 := hc.2
  have := (Nat.log2_lt h1).mpr h2
  omega⟩ q
theorem rfdiv_wide {i j : Int} (hc : CDivA i j) (q : Q (.int (i.fdiv j)) γ) : dR2 K rFdiv (.int i) (.int j) γ Q := ri (fun _ _ => .int _) hc q
theorem rmod_int {i j : Int} (hc : j ≠ 0) (q : Q (.int (i.fmod j)) γ) : dR2 K rMod (.int i) (.int j) γ Q := ri (fun _ _ => .int _) hc q
theorem rpow_int {i j : Int} (hc : CPow i j) (q : Q (.int (i ^ j.toNat)) γ) : dR2 K rPow (.int i) (.int j) γ Q := ri (fun _ _ => .int _) hc q
def rLtI : R2 := rI0 fun i j => .bl (decide (i < j))
def rLeI : R2 := rI0 fun i j => .bl (decide (i ≤ j))
def rGtI : R2 := rI0 fun i j => .bl (decide (j < i))
def rGeI : R2 := rI0 fun i j => .bl (decide (j ≤ i))
theorem rlt_int {i j : Int} (q : Q (.bl (decide (i < j))) γ) : dR2 K rLtI (.int i) (.int j) γ Q := ri0 (fun _ _ => .bl _) q
theorem rle_int {i j : Int} (q : Q (.bl (decide (i ≤ j))) γ) : dR2 K rLeI (.int i) (.int j) γ Q := ri0 (fun _ _ => .bl _) q
theorem rgt_int {i j : Int} (q : Q (.bl (decide (j < i))) γ) : dR2 K rGtI (.int i) (.int j) γ Q := ri0 (fun _ _ => .bl _) q
theorem rge_int {i j : Int} (q : Q (.bl (decide (j ≤ i))) γ) : dR2 K rGeI (.int i) (.int j) γ Q := ri0 (fun _ _ => .bl _) q
def rNeg : V → Hp → VK → Prop := rU fun i => .int (-i)
theorem rneg_int {i : Int} (q : Q (.int (-i)) γ) : dR1 K rNeg (.int i) γ Q := fun H α v k g r1 wv => by
  cases r1
  exact ⟨i, rfl, wv _ H α _ γ q g.refl g (.int _)⟩
/-- is None, is not None -/
def rIsN' : R2 := fun x y H Q => y = .non ∧ Q (.bl (decide (x = .non))) H
def rNotN' : R2 := fun x y H Q => y = .non ∧ Q (.bl (!decide (x = .non))) H
def D.isNon : D → Bool
  | .non => true
  | _ => false
theorem isNon_rp {H : Hp} {α : Al} {v : V} {d : D} (r : Rp K H α v d) : decide (v = .non) = d.isNon := by
  cases r <;> rfl
theorem risn {d : D} (q : Q (.bl d.isNon) γ) : dR2 K rIsN' d .non γ Q := fun H α v w k g r1 r2 wv => by
  cases r2
  refine ⟨rfl, ?_⟩
  rw [isNon_rp r1]
  exact wv _ H α _ γ q g.refl g (.bl _)
theorem rnotn {d : D} (q : Q (.bl (!d.isNon)) γ) : dR2 K rNotN' d .non γ Q := fun H α v w k g r1 r2 wv => by
  cases r2
  refine ⟨rfl, ?_⟩
  rw [isNon_rp r1]
  exact wv _ H α _ γ q g.refl g (.bl _)
/-! ### subscripts -/
theorem rix_lst {x : D} {xs : List D} {z : Int} {d : D} (hx : vw γ x = .lst xs) (ha : atI xs z = some d) (q : Q d γ) : dR2 K (rIx K) x (.int z) γ Q := fun H α v w k g r1 r2 wv => by
  obtain ⟨a, us, rfl, h1, ru⟩ := lst_vw g r1 hx
  cases r2
  obtain ⟨j, hj, hd⟩ := Option.bind_eq_some_iff.mp ha
  obtain ⟨u, hu, rd⟩ := ru.get hd
  exact .inl ⟨a, us, z, u, rfl, rfl, SqL.of h1, by unfold atI; rw [ru.length, hj]; exact hu, wv _ H α _ γ q g.refl g rd⟩
theorem rix_tup {xs : List D} {z : Int} {d : D} (ha : atI xs z = some d) (q : Q d γ) : dR2 K (rIx K) (.tup xs) (.int z) γ Q := fun H α v w k g r1 r2 wv => by
  cases r1 with
  | tup h1 ru =>
    cases r2
    obtain ⟨j, hj, hd⟩ := Option.bind_eq_some_iff.mp ha
    obtain ⟨u, hu, rd⟩ := ru.get hd
    exact .inr (.inl ⟨_, _, z, u, rfl, rfl, h1.sq, by unfold atI; rw [ru.length, hj]; exact hu, wv _ H α _ γ q g.refl g rd⟩)
theorem rix_str {l : List Nat} {z : Int} {c : Nat} (hl : l.length ≤ 1000000) (ha : atI l z = some c) (q : Q (.str (S [c])) γ) : dR2 K (rIx K) (.str (S l)) (.int z) γ Q := fun H α v w k g r1 r2 wv => by
  cases r1; cases r2
  exact .inr (.inr ⟨S l, z, c, rfl, rfl, by rw [S_len]; exact le24 hl, by rw [S_l]; exact ha, wv _ H α _ γ q g.refl g (.str _)⟩)
/-! ### slices -/
def rSlG (K : Frag) : V → Option Int → Option Int → Hp → VK → Prop := fun x lo hi H Q => rSlL K x lo hi H Q ∨ rSlT K x lo hi H Q ∨ rSlS x lo hi H Q
theorem sl_G {X : Cx} : SlR X (rSlG X.K) := sl_list.or (sl_tup.or sl_str)
def cutD {A : Type} (xs : List A) (lo hi : Option Int) : List A := (xs.drop (HT.sIx xs.length 0 lo)).take (HT.sIx xs.length xs.length hi - HT.sIx xs.length 0 lo)
theorem rsl_lst {x : D} {xs : List D} {lo hi : Option Int} (hx : vw γ x = .lst xs) (q : Q (.lst (cutD xs lo hi)) γ) : dRS K (rSlG K) x lo hi γ Q := fun H α v k g r1 wv => by
  obtain ⟨a, us, rfl, h1, ru⟩ := lst_vw g r1 hx
  refine .inl ⟨a, us, rfl, SqL.of h1, fun p hp => ?_⟩
  refine wv _ _ α _ γ q (ext_imm g hp) (ga_imm g hp) (.lst (g.new hp) upd_same (RpL.mono (ext_imm g hp) _ _ ?_))
  unfold cutV cutD
  rw [ru.length]
  exact (ru.drop _).take _
theorem rsl_str {l : List Nat} {lo hi : Option Int} (hl : l.length ≤ 1000000) (q : Q (.str (S (cutD l lo hi))) γ) : dRS K (rSlG K) (.str (S l)) lo hi γ Q := fun H α v k g r1 wv => by
  cases r1
  refine .inr (.inr ⟨S l, rfl, by rw [S_len]; exact le24 hl, ?_⟩)
  have e : cutS (S l) lo hi = S (cutD l lo hi) := by
    unfold cutS cutD
    rw [S_l, S_len]
    rfl
  rw [e]
  exact wv _ H α _ γ q g.refl g (.str _)
end
end DL

set_option Elab.async false
set_option linter.all false
set_option maxRecDepth 100000
set_option maxHeartbeats 2000000
namespace DL
open PySem PySem.Spec PyProof.Rows L2

/-! ### in, not in -/
def D.flat : D → Bool
  | .non => true
  | .bl _ => true
  | .int _ => true
  | .str _ => true
  | _ => false
def eqf : D → D → Bool
  | .non, .non => true
  | .bl a, .bl b => a == b
  | .bl a, .int b => (if a then 1 else 0) == b
  | .int a, .bl b => a == (if b then 1 else 0)
  | .int a, .int b => a == b
  | .str a, .str b => a == b
  | _, _ => false
def inD (x : D) (xs : List D) : Bool := xs.any fun y => eqf y x
section
variable {K : KX} {γ : Ga} {Q : QD}
theorem flat_rp {H : Hp} {α : Al} {v : V} {d : D} (r : Rp K H α v d) (f : d.flat = true) : flatV v = true := by
  cases r <;> first | rfl | simp [D.flat] at f
theorem eqf_rp {H : Hp} {α : Al} {v w : V} {d e : D} (r : Rp K H α v d) (r' : Rp K H α w e) (f : d.flat = true) (f' : e.flat = true) : eqV v w = eqf d e := by
  cases r <;> first | (simp [D.flat] at f; done) | (cases r' <;> first | rfl | (simp [D.flat] at f'; done))
theorem inD_rp {H : Hp} {α : Al} {v : V} {x : D} (r : Rp K H α v x) (f : x.flat = true) : ∀ {us : List V} {xs : List D}, RpL K H α us xs → xs.all D.flat = true → inV v us = inD x xs ∧ us.all flatV = true
  | _, [], h, _ => by cases h; exact ⟨rfl, rfl⟩
  | _, d :: ds, h, fa => by
    cases h with
    | cons h1 h2 =>
      rw [List.all_cons, Bool.and_eq_true] at fa
      obtain ⟨i1, i2⟩ := inD_rp r f h2 fa.2
      refine ⟨?_, by rw [List.all_cons, flat_rp h1 fa.1, i2]; rfl⟩
      have e1 := eqf_rp h1 r fa.1 f
      have e2 : (_ : Bool) = _ := i1
      unfold inV inD at e2 ⊢
      rw [List.any_cons, List.any_cons, e2, e1]
def rInS : R2 := fun x y H Q => ∃ (c : Nat) (z : Str), x = .str ⟨#[c]⟩ ∧ y = .str z ∧ Q (.bl (decide (c ∈ z.cps.toList))) H
def rNiS : R2 := fun x y H Q => ∃ (c : Nat) (z : Str), x = .str ⟨#[c]⟩ ∧ y = .str z ∧ Q (.bl (!decide (c ∈ z.cps.toList))) H
def rInG (K : Frag) : R2 := fun x y H Q => rIn K false x y H Q ∨ rInS x y H Q ∨ rInD K x y H Q
def rNiG (K : Frag) : R2 := fun x y H Q => rIn K true x y H Q ∨ rNiS x y H Q ∨ rNotInD K x y H Q
/-- the items of a list, a tuple -/
def SqD (γ : Ga) (x : D) (xs : List D) : Prop := vw γ x = .lst xs ∨ x = .tup xs ∨ x = .cst xs
theorem sq_of {H : Hp} {α : Al} {v : V} {x : D} {xs : List D} (g : GaX K H α γ) (r : Rp K H α v x) (e : SqD γ x xs) : ∃ a us, v = .ref a ∧ (SqL K H a us ∨ SqT K H a us) ∧ RpL K H α us xs := by
  rcases e with e | e | e
  · obtain ⟨a, us, h1, h2, h3⟩ := lst_vw g r e
    exact ⟨a, us, h1, .inl (SqL.of h2), h3⟩
  · subst e
    cases r with
    | tup h1 h2 => exact ⟨_, _, rfl, .inr h1.sq, h2⟩
  · subst e
    cases r with
    | cst h1 h2 => exact ⟨_, _, rfl, .inr h1.sq, h2⟩
theorem rin_seq {x y : D} {xs : List D} (hy : SqD γ y xs) (f : x.flat = true) (fa : xs.all D.flat = true) (q : Q (.bl (inD x xs)) γ) : dR2 K (rInG K) x y γ Q := fun H α v w k g r1 r2 wv => by
  obtain ⟨a, us, rfl, hs, ru⟩ := sq_of g r2 hy
  obtain ⟨i1, i2⟩ := inD_rp r1 f ru fa
  refine .inl ⟨a, us, rfl, hs, flat_rp r1 f, i2, ?_⟩
  rw [i1]
  exact wv _ H α _ γ q g.refl g (.bl _)
theorem rni_seq {x y : D} {xs : List D} (hy : SqD γ y xs) (f : x.flat = true) (fa : xs.all D.flat = true) (q : Q (.bl (!inD x xs)) γ) : dR2 K (rNiG K) x y γ Q := fun H α v w k g r1 r2 wv => by
  obtain ⟨a, us, rfl, hs, ru⟩ := sq_of g r2 hy
  obtain ⟨i1, i2⟩ := inD_rp r1 f ru fa
  refine .inl ⟨a, us, rfl, hs, flat_rp r1 f, i2, ?_⟩
  rw [i1]
  exact wv _ H α _ γ q g.refl g (.bl _)
theorem rin_sgn {c : Nat} {l : List Nat} (q : Q (.bl (decide (c ∈ l))) γ) : dR2 K (rInG K) (.str (S [c])) (.str (S l)) γ Q := fun H α v w k g r1 r2 wv => by
  cases r1; cases r2
  refine .inr (.inl ⟨c, S l, rfl, rfl, ?_⟩)
  have e : decide (c ∈ (S l).cps.toList) = decide (c ∈ l) := by rw [S_l]
  rw [e]
  exact wv _ H α _ γ q g.refl g (.bl _)
theorem rni_sgn {c : Nat} {l : List Nat} (q : Q (.bl (!decide (c ∈ l))) γ) : dR2 K (rNiG K) (.str (S [c])) (.str (S l)) γ Q := fun H α v w k g r1 r2 wv => by
  cases r1; cases r2
  refine .inr (.inl ⟨c, S l, rfl, rfl, ?_⟩)
  have e : decide (c ∈ (S l).cps.toList) = decide (c ∈ l) := by rw [S_l]
  rw [e]
  exact wv _ H α _ γ q g.refl g (.bl _)
/-! ### methods of lists and texts -/
theorem isTy_str {x : Str} : IsTy K "str" (.str x) γ := fun H α v g r => by cases r; rfl
theorem isTy_lst {x : D} {xs : List D} (h : vw γ x = .lst xs) : IsTy K "list" x γ := fun H α v g r => by
  obtain ⟨a, us, rfl, h1, _⟩ := lst_vw g r h
  exact .inl ⟨rfl, us, SqL.of h1⟩
theorem vw_loc {k : Nat} {xs : List D} (h : γ[k]? = some (.lst xs)) : vw γ (.loc k) = .lst xs := by simp [vw, h]
theorem rm_append {k : Nat} {xs : List D} {y : D} (hk : γ[k]? = some (.lst xs)) (hl : xs.length < 1000000) (q : Q .non (γ.set k (.lst (xs ++ [y])))) : dRM K rAppend (.loc k) [y] γ Q := fun H α v vs w g r1 r2 wv => by
  cases r1 with
  | @loc _ a ha =>
    obtain ⟨us, h1, h2⟩ := g.at_ k _ _ ha hk
    cases r2 with
    | @cons u _ _ _ ru rn =>
      cases rn
      have ex := ext_set g (o := .lst (us ++ [u])) (List.mem_of_getElem? ha)
      exact ⟨a, us, u, rfl, rfl, h1, by rw [h2.length]; exact size24 hl, wv _ _ α _ _ q ex (ga_set g ha ⟨_, upd_same, RpL.mono ex _ _ (h2.append (.cons ru .nil))⟩) .non⟩
theorem rm_popAt {k j : Nat} {xs : List D} {z : Int} {y : D} (hk : γ[k]? = some (.lst xs)) (h1 : -(2 ^ 63) ≤ z) (h2 : z < 2 ^ 63) (hj : seqIndex? z xs.length = some j) (hy : xs[j]? = some y) (q : Q y (γ.set k (.lst (xs.eraseIdx j)))) : dRM K rPopAt (.loc k) [.int z] γ Q := fun H α v vs w g r1 r2 wv => by
  cases r1 with
  | @loc _ a ha =>
    obtain ⟨us, h3, h4⟩ := g.at_ k _ _ ha hk
    cases r2 with
    | cons ru rn =>
      cases rn; cases ru
      obtain ⟨u, hu, rd⟩ := h4.get hy
      have ex := ext_set g (o := .lst (us.eraseIdx j)) (List.mem_of_getElem? ha)
      exact ⟨a, us, z, j, u, rfl, rfl, h3, h1, h2, by rw [h4.length]; exact hj, hu, wv _ _ α _ _ q ex (ga_set g ha ⟨_, upd_same, RpL.mono ex _ _ (h4.eraseIdx j)⟩) (Rp.mono ex _ _ rd)⟩
def rSplit : V → List V → Hp → VK → Prop := fun x xs H Q => ∃ a b, x = .str a ∧ xs = [.str b] ∧ (b.length == 0) = false ∧ a.length + 2 ≤ sizeLine ∧ rNewStrs (Txt.split a b) H Q
theorem strs_rp {H : Hp} {α : Al} : ∀ ys : List Str, RpL K H α (ys.map V.str) (ys.map D.str)
  | [] => .nil
  | y :: ys => .cons (.str y) (strs_rp ys)
theorem rm_split {a b : Str} {ys : List Str} (hb : (b.length == 0) = false) (hl : a.length ≤ 1000000) (hy : Txt.split a b = ys) (q : Q (.lst (ys.map D.str)) γ) : dRM K rSplit (.str a) [.str b] γ Q := fun H α v vs w g r1 r2 wv => by
  subst hy
  cases r1
  cases r2 with
  | cons ru rn =>
    cases rn; cases ru
    refine ⟨a, b, rfl, rfl, hb, Nat.le_trans (Nat.add_le_add_right hl 2) (by decide), fun p hp => ?_⟩
    exact wv _ _ α _ γ q (ext_imm g hp) (ga_imm g hp) (.lst (g.new hp) upd_same (strs_rp _))
def rJoin (K : Frag) : V → List V → Hp → VK → Prop := fun x xs H Q => ∃ a p, ∃ ys : List Str, x = .str a ∧ xs = [.ref p] ∧ (SqL K H p (ys.map V.str) ∨ SqT K H p (ys.map V.str)) ∧
    (ys.map (·.length)).sum + ys.length * a.length ≤ 16777216 ∧ Q (.str (Txt.join a ys)) H
theorem rp_strs {H : Hp} {α : Al} : ∀ {ys : List Str} {us : List V}, RpL K H α us (ys.map D.str) → us = ys.map V.str
  | [], _, h => by cases h; rfl
  | _ :: _, _, h => by
    cases h with
    | cons h1 h2 =>
      cases h1
      rw [rp_strs h2]
      rfl
theorem rm_join {a : Str} {x : D} {ys : List Str} (hx : SqD γ x (ys.map D.str)) (hl : (ys.map (·.length)).sum + ys.length * a.length ≤ 1000000) (q : Q (.str (Txt.join a ys)) γ) : dRM K (rJoin K) (.str a) [x] γ Q := fun H α v vs w g r1 r2 wv => by
  cases r1
  cases r2 with
  | cons ru rn =>
    cases rn
    obtain ⟨p, us, rfl, hs, rl⟩ := sq_of g ru hx
    have e := rp_strs rl
    subst e
    exact ⟨a, p, ys, rfl, rfl, hs, Nat.le_trans hl (by decide), wv _ H α _ γ q g.refl g (.str _)⟩
def rCount : V → List V → Hp → VK → Prop := fun x xs H Q => ∃ a b, x = .str a ∧ xs = [.str b] ∧ Q (.int (Txt.count a b)) H
theorem rm_count {a b : Str} (q : Q (.int (Txt.count a b)) γ) : dRM K rCount (.str a) [.str b] γ Q := fun H α v vs w g r1 r2 wv => by
  cases r1
  cases r2 with
  | cons ru rn =>
    cases rn; cases ru
    exact ⟨a, b, rfl, rfl, wv _ H α _ γ q g.refl g (.int _)⟩
/-! ### built-in functions -/
def rLenG (K : Frag) : List V → Hp → VK → Prop := fun xs H Q => ∃ x n, xs = [x] ∧ LenV K x H n ∧ Q (.int n) H
theorem rc_len_str {x : Str} (hl : x.length ≤ 1000000) (q : Q (.int (x.length : Nat)) γ) : dRC K (rLenG K) [.str x] γ Q := fun H α vs w g r wv => by
  cases r with
  | cons ru rn =>
    cases rn; cases ru
    exact ⟨_, x.length, rfl, ⟨le24 hl, rfl⟩, wv _ H α _ γ q g.refl g (.int _)⟩
theorem rc_len {x : D} {xs : List D} (hx : SqD γ x xs) (q : Q (.int (xs.length : Nat)) γ) : dRC K (rLenG K) [x] γ Q := fun H α vs w g r wv => by
  cases r with
  | cons ru rn =>
    cases rn
    obtain ⟨p, us, rfl, hs, rl⟩ := sq_of g ru hx
    refine ⟨_, xs.length, rfl, ?_, wv _ H α _ γ q g.refl g (.int _)⟩
    rcases hs with hs | hs
    · exact .inl ⟨us, hs, rl.length.symm⟩
    · exact .inr ⟨us, hs, rl.length.symm⟩
theorem rp_bls {H : Hp} {α : Al} : ∀ {ys : List Bool} {us : List V}, RpL K H α us (ys.map D.bl) → us = ys.map V.bl
  | [], _, h => by cases h; rfl
  | _ :: _, _, h => by
    cases h with
    | cons h1 h2 =>
      cases h1
      rw [rp_bls h2]
      rfl
theorem rc_all {x : D} {bs : List Bool} (hx : vw γ x = .lst (bs.map D.bl)) (q : Q (.bl (bs.all id)) γ) : dRC K (rAll K) [x] γ Q := fun H α vs w g r wv => by
  cases r with
  | cons ru rn =>
    cases rn
    obtain ⟨p, us, rfl, hs, rl⟩ := lst_vw g ru hx
    have e := rp_bls rl
    subst e
    exact ⟨p, bs, rfl, SqL.of hs, wv _ H α _ γ q g.refl g (.bl _)⟩
theorem rc_any {x : D} {bs : List Bool} (hx : vw γ x = .lst (bs.map D.bl)) (q : Q (.bl (bs.any id)) γ) : dRC K (rAny K) [x] γ Q := fun H α vs w g r wv => by
  cases r with
  | cons ru rn =>
    cases rn
    obtain ⟨p, us, rfl, hs, rl⟩ := lst_vw g ru hx
    have e := rp_bls rl
    subst e
    exact ⟨p, bs, rfl, SqL.of hs, wv _ H α _ γ q g.refl g (.bl _)⟩
theorem rp_ints {H : Hp} {α : Al} : ∀ {ys : List Int} {us : List V}, RpL K H α us (ys.map D.int) → us = ys.map V.int
  | [], _, h => by cases h; rfl
  | _ :: _, _, h => by
    cases h with
    | cons h1 h2 =>
      cases h1
      rw [rp_ints h2]
      rfl
theorem rc_max {x : D} {ns : List Int} (hx : vw γ x = .lst (ns.map D.int)) (h0 : 0 < ns.length) (q : ∀ m, m ∈ ns → (∀ y, y ∈ ns → y ≤ m) → Q (.int m) γ) : dRC K (rMax K) [x] γ Q := fun H α vs w g r wv => by
  cases r with
  | cons ru rn =>
    cases rn
    obtain ⟨p, us, rfl, hs, rl⟩ := lst_vw g ru hx
    have e := rp_ints rl
    subst e
    exact ⟨p, ns, rfl, SqL.of hs, h0, fun m h1 h2 => wv _ H α _ γ (q m h1 h2) g.refl g (.int _)⟩
theorem rc_min {x : D} {ns : List Int} (hx : vw γ x = .lst (ns.map D.int)) (h0 : 0 < ns.length) (q : ∀ m, m ∈ ns → (∀ y, y ∈ ns → m ≤ y) → Q (.int m) γ) : dRC K (rMin K) [x] γ Q := fun H α vs w g r wv => by
  cases r with
  | cons ru rn =>
    cases rn
    obtain ⟨p, us, rfl, hs, rl⟩ := lst_vw g ru hx
    have e := rp_ints rl
    subst e
    exact ⟨p, ns, rfl, SqL.of hs, h0, fun m h1 h2 => wv _ H α _ γ (q m h1 h2) g.refl g (.int _)⟩
def rMax2 : List V → Hp → VK → Prop := fun xs H Q => ∃ i j, xs = [.int i, .int j] ∧ Q (.int (if j > i then j else i)) H
theorem rc_max2 {i j : Int} (q : Q (.int (if j > i then j else i)) γ) : dRC K rMax2 [.int i, .int j] γ Q := fun H α vs w g r wv => by
  cases r with
  | cons ru rn =>
    cases rn with
    | cons ru2 rn2 =>
      cases ru; cases ru2; cases rn2
      exact ⟨i, j, rfl, wv _ H α _ γ q g.refl g (.int _)⟩
/-- int(..): of a text, an int, a bool -/
def rIntG : List V → Hp → VK → Prop := fun xs H Q => (∃ a n, xs = [.str a] ∧ PySem.intText? a = some n ∧ a.length ≤ 640 ∧ Q (.int n) H) ∨ ((∃ i, xs = [.int i] ∧ Q (.int i) H) ∨ ∃ k, xs = [.bl k] ∧ Q (.int (if k then 1 else 0)) H)
theorem call_intG {X : Cx} : CallR X (.type "int") rIntG := call_int_str.or call_int1
theorem rc_int_str {a : Str} {n : Int} (h : PySem.intText? a = some n) (hl : a.length ≤ 640) (q : Q (.int n) γ) : dRC K rIntG [.str a] γ Q := fun H α vs w g r wv => by
  cases r with
  | cons ru rn => cases rn; cases ru; exact .inl ⟨a, n, rfl, h, hl, wv _ H α _ γ q g.refl g (.int _)⟩
theorem rc_int_bl {b : Bool} (q : Q (.int (if b then 1 else 0)) γ) : dRC K rIntG [.bl b] γ Q := fun H α vs w g r wv => by
  cases r with
  | cons ru rn => cases rn; cases ru; exact .inr (.inr ⟨b, rfl, wv _ H α _ γ q g.refl g (.int _)⟩)
theorem rc_int_int {i : Int} (q : Q (.int i) γ) : dRC K rIntG [.int i] γ Q := fun H α vs w g r wv => by
  cases r with
  | cons ru rn => cases rn; cases ru; exact .inr (.inl ⟨i, rfl, wv _ H α _ γ q g.refl g (.int _)⟩)
/-- str(..): of an int, a text -/
def rStrG : List V → Hp → VK → Prop := fun xs H Q => (∃ i : Int, xs = [.int i] ∧ i.natAbs.log2 < 1920 ∧ Q (.str (toString i)) H) ∨ (∃ a, xs = [.str a] ∧ Q (.str a) H)
theorem call_strG {X : Cx} : CallR X (.type "str") rStrG := call_str_int.or SkE.call_str_str
theorem rc_str_int {i : Int} (h : i.natAbs.log2 < 1920) (q : Q (.str (toString i)) γ) : dRC K rStrG [.int i] γ Q := fun H α vs w g r wv => by
  cases r with
  | cons ru rn => cases rn; cases ru; exact .inl ⟨i, rfl, h, wv _ H α _ γ q g.refl g (.str _)⟩
theorem rc_str_str {a : Str} (q : Q (.str a) γ) : dRC K rStrG [.str a] γ Q := fun H α vs w g r wv => by
  cases r with
  | cons ru rn => cases rn; cases ru; exact .inr ⟨a, rfl, wv _ H α _ γ q g.refl g (.str _)⟩
/-- list(..): a new list -/
def rListOf (K : Frag) : List V → Hp → VK → Prop := fun xs H Q => ∃ p ys, xs = [.ref p] ∧ (SqL K H p ys ∨ SqT K H p ys) ∧ ∀ l, H l = none → Q (.ref l) (upd H l (.lst ys))
theorem rc_list {x : D} {xs : List D} (hx : SqD γ x xs) (q : Q (.lst xs) γ) : dRC K (rListOf K) [x] γ Q := fun H α vs w g r wv => by
  cases r with
  | cons ru rn =>
    cases rn
    obtain ⟨p, us, rfl, hs, rl⟩ := sq_of g ru hx
    exact ⟨p, us, rfl, hs, fun l hl => wv _ _ α _ γ q (ext_imm g hl) (ga_imm g hl) (.lst (g.new hl) upd_same (RpL.mono (ext_imm g hl) _ _ rl))⟩
theorem rc_listM {x : D} {xs : List D} (hx : SqD γ x xs) (q : Q (.loc γ.length) (γ ++ [.lst xs])) : dRC K (rListOf K) [x] γ Q := fun H α vs w g r wv => by
  cases r with
  | cons ru rn =>
    cases rn
    obtain ⟨p, us, rfl, hs, rl⟩ := sq_of g ru hx
    exact ⟨p, us, rfl, hs, fun l hl => wv _ _ (α.push l) _ _ q (ext_loc g hl) (ga_loc g hl ⟨us, upd_same, RpL.mono (ext_loc g hl) _ _ rl⟩) (.loc (by show (α.h ++ [l])[γ.length]? = _; rw [← g.len]; simp))⟩
def rTupleOf (K : Frag) : List V → Hp → VK → Prop := fun xs H Q => ∃ p ys, xs = [.ref p] ∧ ((SqL K H p ys ∧ ∀ l, H l = none → Q (.ref l) (upd H l (.tup ys))) ∨ (SqT K H p ys ∧ Q (.ref p) H))
theorem rc_tuple {x : D} {xs : List D} (hx : vw γ x = .lst xs ∨ x = .tup xs) (q : Q (.tup xs) γ) : dRC K (rTupleOf K) [x] γ Q := fun H α vs w g r wv => by
  cases r with
  | cons ru rn =>
    cases rn
    rcases hx with hx | rfl
    · obtain ⟨p, us, rfl, hs, rl⟩ := lst_vw g ru hx
      exact ⟨p, us, rfl, .inl ⟨SqL.of hs, fun l hl => wv _ _ α _ γ q (ext_imm g hl) (ga_imm g hl) (.tup ⟨g.new hl, upd_same⟩ (RpL.mono (ext_imm g hl) _ _ rl))⟩⟩
    · cases ru with
      | tup h1 h2 => exact ⟨_, _, rfl, .inr ⟨h1.sq, wv _ H α _ γ q g.refl g (.tup h1 h2)⟩⟩
/-! ### isinstance, one built-in class -/
def tyName (γ : Ga) : D → Option String
  | .non => some "NoneType"
  | .bl _ => some "bool"
  | .int _ => some "int"
  | .str _ => some "str"
  | .tup _ => some "tuple"
  | .cst _ => some "tuple"
  | .lst _ => some "list"
  | .dic _ _ => some "dict"
  | .dit _ _ => some "dict"
  | .loc k => match γ[k]? with
    | some (.lst _) => some "list"
    | some (.dic _ _) => some "dict"
    | some (.dit _ _) => some "dict"
    | _ => none
  | _ => none
theorem tyX_rp {H : Hp} {α : Al} {v : V} {d : D} {T : String} (g : GaX K H α γ) (r : Rp K H α v d) (h : tyName γ d = some T) : TyX K H v (.type T) := by
  cases r with
  | non => cases h; exact .base .non
  | bl b => cases h; exact .base (.bl b)
  | int i => cases h; exact .base (.int i)
  | str x => cases h; exact .base (.str x)
  | tup h1 h2 =>
    cases h
    exact .base (.tup h1.2)
  | cst h1 h2 =>
    cases h
    obtain ⟨o, its, n, h1, hc, _⟩ := h1
    exact .kTuple h1 hc
  | lst h1 h2 h3 => cases h; exact .base (.lst h2)
  | dic h1 h2 h3 => cases h; exact .base (.dK h2)
  | dit h1 h2 h3 => cases h; exact .base (.dT h2)
  | @loc k a ha =>
    unfold tyName at h
    cases q : γ[k]? with
    | none => simp [q] at h
    | some m =>
      have hm := g.at_ k a m ha q
      cases m with
      | lst xs => simp [q] at h; subst h; obtain ⟨_, h1, _⟩ := hm; exact .base (.lst h1)
      | dic ks xs => simp [q] at h; subst h; obtain ⟨_, h1, _⟩ := hm; exact .base (.dK h1)
      | dit ks xs => simp [q] at h; subst h; obtain ⟨_, h1, _⟩ := hm; exact .base (.dT h1)
      | ins _ _ _ => simp [q] at h
  | _ => cases h
theorem rc_isi {x : D} {T U : String} {b : Bool} (hx : tyName γ x = some T) (hk : kitB T U = some b) (q : Q (.bl b) γ) : dRC K (rIsi K) [x, .ty U] γ Q := fun H α vs w g r wv => by
  cases r with
  | cons ru rn =>
    cases rn with
    | cons r2 rn =>
      cases rn; cases r2
      exact ⟨_, _, _, _, b, rfl, .ty U, tyX_rp g ru hx, kit_ty hk, wv _ H α _ γ q g.refl g (.bl _)⟩
/-! ### repr of data -/
def rReprD (K : Frag) : List V → Hp → VK → Prop := fun xs H Q => ∃ a d, xs = [.ref a] ∧ Dp K H (.ref a) d ∧ d.showable = true ∧ d.hasDict = false ∧ d.depth ≤ 64 ∧ d.shown.length ≤ sizeLine ∧ Q (.str d.shown) H
theorem call_reprD {X : Cx} (gd : X.A.guards = some []) (hu : X.A.units + 65 < cLine) : CallR X (.builtin "repr") (rReprD X.K) := by
  intro pins s σ H xs us Q I r h
  obtain ⟨a, d, rfl, hd, h1, h2, h3, h4, q⟩ := h
  have e := r.ref1
  subst e
  obtain ⟨as, rd⟩ := Dp.reads I d (.ref a) (.ref a) hd rfl
  refine repr_of_reads' rd h1 (fun z => by rw [h2] at z; cases z) gd (by omega) (fun _ _ z => z) (fun h' u tk k => ?_) h4
  exact ⟨.str _, H, I.kept k, ⟨_, rfl⟩, q⟩
theorem rc_repr {x : D} (hr : ∀ H α v, Rp K H α v x → ∃ a, v = .ref a) (p : (vw γ x).pl = true) (h1 : (vw γ x).py.showable = true) (h2 : (vw γ x).py.hasDict = false) (h3 : (vw γ x).py.depth ≤ 64) (h4 : (vw γ x).py.shown.length ≤ 1000000) (q : Q (.str (vw γ x).py.shown) γ) : dRC K (rReprD K) [x] γ Q := fun H α vs w g r wv => by
  cases r with
  | cons ru rn =>
    cases rn
    obtain ⟨a, rfl⟩ := hr H α _ ru
    exact ⟨a, _, rfl, ru.dpv g p, h1, h2, h3, le24 h4, wv _ H α _ γ q g.refl g (.str _)⟩
end
end DL

set_option Elab.async false
set_option linter.all false
set_option maxRecDepth 100000
set_option maxHeartbeats 2000000
namespace DL
open PySem PySem.Spec PyProof.Rows L2

/-! ### what names no object from the m-th on -/
mutual
def D.lo (m : Nat) : D → Bool
  | .loc k => decide (k < m)
  | .tup ds => loL m ds
  | .lst ds => loL m ds
  | .ins _ _ ds => loL m ds
  | .dic _ ds => loL m ds
  | .dit _ ds => loL m ds
  | .exc _ _ _ _ ds => loL m ds
  | .cst ds => loL m ds
  | .exv _ _ ds => loL m ds
  | _ => true
def loL (m : Nat) : List D → Bool
  | [] => true
  | d :: ds => d.lo m && loL m ds
end
def MO.lo (m : Nat) : MO → Bool
  | .lst ds => loL m ds
  | .ins _ _ ds => loL m ds
  | .dic _ ds => loL m ds
  | .dit _ ds => loL m ds
def loG (m : Nat) : Ga → Bool
  | [] => true
  | o :: r => o.lo m && loG m r
theorem loG_get {m : Nat} : ∀ {γ : Ga} {k : Nat} {o : MO}, loG m γ = true → γ[k]? = some o → o.lo m = true
  | [], _, _, _, e => by simp at e
  | a :: r, 0, _, h, e => by
    have h' : a.lo m = true ∧ loG m r = true := by simpa [loG] using h
    simp at e; subst e; exact h'.1
  | a :: r, k + 1, _, h, e => by
    have h' : a.lo m = true ∧ loG m r = true := by simpa [loG] using h
    exact loG_get h'.2 (by simpa using e)
theorem loG_app {m : Nat} : ∀ {a b : Ga}, loG m (a ++ b) = (loG m a && loG m b)
  | [], b => by simp [loG]
  | x :: r, b => by
    show (x.lo m && loG m (r ++ b)) = ((x.lo m && loG m r) && loG m b)
    rw [loG_app, Bool.and_assoc]
section
variable {K : Frag} {H : Hp} {α : Al} {γ : Ga}
mutual
theorem Rp.lo : ∀ (d : D) (v : V), Rp K H α v d → d.lo α.h.length = true
  | .non, _, _ => rfl
  | .bl _, _, _ => rfl
  | .int _, _, _ => rfl
  | .str _, _, _ => rfl
  | .ty _, _, _ => rfl
  | .ref _, _, _ => rfl
  | .loc k, _, h => by cases h with | loc h => exact decide_eq_true (List.getElem?_eq_some_iff.mp h).1
  | .tup ds, _, h => by cases h with | tup h1 h2 => exact RpL.lo ds _ h2
  | .lst ds, _, h => by cases h with | lst h1 h2 h3 => exact RpL.lo ds _ h3
  | .ins C ns ds, _, h => by cases h with | ins h1 h2 h3 => exact RpL.lo ds _ h3
  | .dic ks ds, _, h => by cases h with | dic h1 h2 h3 => exact RpL.lo ds _ h3
  | .dit ks ds, _, h => by cases h with | dit h1 h2 h3 => exact RpL.lo ds _ h3
  | .exc a dd C ks ds, _, h => by cases h with | exc h1 h2 h3 => exact RpL.lo ds _ h3
  | .cst ds, _, h => by cases h with | cst h1 h2 => exact RpL.lo ds _ h2
  | .exv C ks ds, _, h => by cases h with | exv h1 h2 h3 h4 h5 => exact RpL.lo ds _ h5
theorem RpL.lo : ∀ (ds : List D) (vs : List V), RpL K H α vs ds → loL α.h.length ds = true
  | [], _, _ => rfl
  | d :: ds, _, h => by
    cases h with
    | cons h1 h2 =>
      show (d.lo _ && loL _ ds) = true
      rw [Rp.lo d _ h1, RpL.lo ds _ h2]
      rfl
end
def Al.tk (α : Al) (m : Nat) : Al := ⟨α.h.take m, α.x⟩
theorem tk_out {m : Nat} {a : Addr} (h : a ∉ α) : a ∉ α.tk m := fun z => by
  rcases z with z | z
  · exact h (.inl (List.mem_of_mem_take z))
  · exact h (.inr z)
mutual
theorem Rp.tk (m : Nat) : ∀ (d : D) (v : V), Rp K H α v d → d.lo m = true → Rp K H (α.tk m) v d
  | .non, _, h, _ => by cases h; exact .non
  | .bl b, _, h, _ => by cases h; exact .bl b
  | .int i, _, h, _ => by cases h; exact .int i
  | .str x, _, h, _ => by cases h; exact .str x
  | .ty n, _, h, _ => by cases h; exact .ty n
  | .ref a, _, h, _ => by cases h; exact .ref a
  | .loc k, _, h, b => by
    cases h with
    | loc h =>
      have hk : k < m := of_decide_eq_true b
      exact .loc (by show (α.h.take m)[k]? = _; rw [List.getElem?_take_of_lt hk]; exact h)
  | .tup ds, _, h, b => by
    cases h with
    | tup h1 h2 =>
      exact .tup ⟨tk_out h1.1, h1.2⟩ (RpL.tk m ds _ h2 b)
  | .lst ds, _, h, b => by cases h with | lst h1 h2 h3 => exact .lst (tk_out h1) h2 (RpL.tk m ds _ h3 b)
  | .ins C ns ds, _, h, b => by cases h with | ins h1 h2 h3 => exact .ins (tk_out h1) h2 (RpL.tk m ds _ h3 b)
  | .dic ks ds, _, h, b => by cases h with | dic h1 h2 h3 => exact .dic (tk_out h1) h2 (RpL.tk m ds _ h3 b)
  | .dit ks ds, _, h, b => by cases h with | dit h1 h2 h3 => exact .dit (tk_out h1) h2 (RpL.tk m ds _ h3 b)
  | .exc a dd C ks ds, _, h, b => by cases h with | exc h1 h2 h3 => exact .exc (tk_out h1) h2 (RpL.tk m ds _ h3 b)
  | .cst ds, _, h, b => by cases h with | cst h1 h2 => exact .cst h1 (RpL.tk m ds _ h2 b)
  | .exv C ks ds, _, h, b => by cases h with | exv h1 h2 h3 h4 h5 => exact .exv (tk_out h1) (tk_out h2) h3 h4 (RpL.tk m ds _ h5 b)
theorem RpL.tk (m : Nat) : ∀ (ds : List D) (vs : List V), RpL K H α vs ds → loL m ds = true → RpL K H (α.tk m) vs ds
  | [], _, h, _ => by cases h; exact .nil
  | d :: ds, _, h, b => by
    cases h with
    | cons h1 h2 =>
      have b' : d.lo m = true ∧ loL m ds = true := by simpa [loL] using b
      exact .cons (Rp.tk m d _ h1 b'.1) (RpL.tk m ds _ h2 b'.2)
end
theorem MOk.tk (m : Nat) {a : Addr} : ∀ {o : MO}, MOk K H α a o → o.lo m = true → MOk K H (α.tk m) a o
  | .lst _, h, b => by obtain ⟨_, h, r⟩ := h; exact ⟨_, h, RpL.tk m _ _ r b⟩
  | .ins _ _ _, h, b => by obtain ⟨_, _, h, n, r⟩ := h; exact ⟨_, _, h, n, RpL.tk m _ _ r b⟩
  | .dic _ _, h, b => by obtain ⟨_, h, n, r⟩ := h; exact ⟨_, h, n, RpL.tk m _ _ r b⟩
  | .dit _ _, h, b => by obtain ⟨_, h, n, r⟩ := h; exact ⟨_, h, n, RpL.tk m _ _ r b⟩
theorem MOk.lo {a : Addr} : ∀ {o : MO}, MOk K H α a o → o.lo α.h.length = true
  | .lst _, h => by obtain ⟨_, _, r⟩ := h; exact RpL.lo _ _ r
  | .ins _ _ _, h => by obtain ⟨_, _, _, _, r⟩ := h; exact RpL.lo _ _ r
  | .dic _ _, h => by obtain ⟨_, _, _, r⟩ := h; exact RpL.lo _ _ r
  | .dit _ _, h => by obtain ⟨_, _, _, r⟩ := h; exact RpL.lo _ _ r
theorem loG_all {m : Nat} : ∀ {γ : Ga}, (∀ (k : Nat) (o : MO), γ[k]? = some o → o.lo m = true) → loG m γ = true
  | [], _ => rfl
  | a :: r, h => by
    show (a.lo m && loG m r) = true
    rw [h 0 a rfl, loG_all fun k o e => h (k + 1) o (by simpa using e)]
    rfl
theorem GaOk.lo (g : GaOk K H α γ) : loG γ.length γ = true := loG_all fun k o e => by
  have hk : k < α.h.length := by rw [g.len]; exact (List.getElem?_eq_some_iff.mp e).1
  have h := (g.at_ k _ o (List.getElem?_eq_getElem hk) e).lo
  rw [g.len] at h
  exact h
theorem GaOk.tk {γ2 rest : Ga} (g : GaOk K H α (γ2 ++ rest)) (b : loG γ2.length γ2 = true) : GaOk K H (α.tk γ2.length) γ2 := by
  have hl : γ2.length ≤ α.h.length := by rw [g.len, List.length_append]; omega
  refine ⟨⟨g.nd.1.sublist (List.take_sublist _ _), g.nd.2.1, fun a ha => g.nd.2.2 a (List.mem_of_mem_take ha)⟩, ?_, fun k a o h1 h2 => ?_, g.xs⟩
  · show (α.h.take γ2.length).length = _
    rw [List.length_take]; omega
  · have hk : k < γ2.length := (List.getElem?_eq_some_iff.mp h2).1
    have h1' : (α.h.take γ2.length)[k]? = some a := h1
    rw [List.getElem?_take_of_lt hk] at h1'
    exact (g.at_ k a o h1' (by rw [List.getElem?_append_left hk]; exact h2)).tk _ (loG_get b h2)
theorem Ext.tk {α0 : Al} {H0 : Hp} (e : Ext α0 H0 α H) {m : Nat} (h : α0.h.length ≤ m) : Ext α0 H0 (α.tk m) H := by
  obtain ⟨β, e1, f1⟩ := e.al
  refine ⟨⟨⟨β.take (m - α0.h.length), ?_, fun b hb => f1 b (List.mem_of_mem_take hb)⟩, ⟨e.nd.1.sublist (List.take_sublist _ _), e.nd.2.1, fun a ha => e.nd.2.2 a (List.mem_of_mem_take ha)⟩, e.xx, e.keep⟩, e.keepx⟩
  show α.h.take m = _
  rw [e1, List.take_append, List.take_of_length_le h]
mutual
/-- d as it stands when the objects from the m-th on are no longer changed -/
inductive Fz (γ : Ga) (m : Nat) : D → D → Prop
  | keep {d : D} : d.lo m = true → Fz γ m d d
  | lst {k : Nat} {xs ys : List D} : m ≤ k → γ[k]? = some (.lst xs) → FzL γ m xs ys → Fz γ m (.loc k) (.lst ys)
  | ins {k : Nat} {C : Addr} {ns : List Str} {xs ys : List D} : m ≤ k → γ[k]? = some (.ins C ns xs) → FzL γ m xs ys → Fz γ m (.loc k) (.ins C ns ys)
  | dic {k : Nat} {ks : List Key} {xs ys : List D} : m ≤ k → γ[k]? = some (.dic ks xs) → FzL γ m xs ys → Fz γ m (.loc k) (.dic ks ys)
  | dit {k : Nat} {ks : List (List Key)} {xs ys : List D} : m ≤ k → γ[k]? = some (.dit ks xs) → FzL γ m xs ys → Fz γ m (.loc k) (.dit ks ys)
  | tupI {xs ys : List D} : FzL γ m xs ys → Fz γ m (.tup xs) (.tup ys)
  | lstI {xs ys : List D} : FzL γ m xs ys → Fz γ m (.lst xs) (.lst ys)
  | insI {C : Addr} {ns : List Str} {xs ys : List D} : FzL γ m xs ys → Fz γ m (.ins C ns xs) (.ins C ns ys)
  | dicI {ks : List Key} {xs ys : List D} : FzL γ m xs ys → Fz γ m (.dic ks xs) (.dic ks ys)
  | ditI {ks : List (List Key)} {xs ys : List D} : FzL γ m xs ys → Fz γ m (.dit ks xs) (.dit ks ys)
inductive FzL (γ : Ga) (m : Nat) : List D → List D → Prop
  | nil : FzL γ m [] []
  | cons {x y : D} {xs ys : List D} : Fz γ m x y → FzL γ m xs ys → FzL γ m (x :: xs) (y :: ys)
end
theorem FzL.keep {γ : Ga} {m : Nat} : ∀ {xs : List D}, loL m xs = true → FzL γ m xs xs
  | [], _ => .nil
  | x :: xs, b => by
    have b' : x.lo m = true ∧ loL m xs = true := by simpa [loL] using b
    exact .cons (.keep b'.1) (FzL.keep b'.2)
theorem tk_no (g : GaOk K H α γ) {m k : Nat} {a : Addr} (hm : m ≤ k) (ha : α.h[k]? = some a) : a ∉ α.tk m := fun z => by
  rcases z with z | z
  · obtain ⟨j, hj, e⟩ := List.mem_iff_getElem.mp (show a ∈ α.h.take m from z)
    have hj' : j < m ∧ j < α.h.length := by rw [List.length_take] at hj; omega
    obtain ⟨l2, e2⟩ := List.getElem?_eq_some_iff.mp ha
    rw [List.getElem_take] at e
    have := (List.getElem_inj g.nd.1).mp (e.trans e2.symm)
    omega
  · exact g.nd.2.2 a (List.mem_of_getElem? ha) z
mutual
theorem Rp.fz (g : GaOk K H α γ) {m : Nat} : ∀ {d d' : D}, Fz γ m d d' → ∀ {v : V}, Rp K H α v d → Rp K H (α.tk m) v d'
  | _, _, .keep b, _, r => Rp.tk m _ _ r b
  | _, _, .lst hm hk f, _, r => by
    cases r with
    | loc ha =>
      obtain ⟨us, h1, h2⟩ := g.at_ _ _ _ ha hk
      exact .lst (tk_no g hm ha) h1 (RpL.fz g f h2)
  | _, _, .ins hm hk f, _, r => by
    cases r with
    | loc ha =>
      obtain ⟨dx, fs, h1, h2, h3⟩ := g.at_ _ _ _ ha hk
      subst h2
      exact .ins (tk_no g hm ha) h1 (RpL.fz g f h3)
  | _, _, .dic hm hk f, _, r => by
    cases r with
    | loc ha =>
      obtain ⟨fs, h1, h2, h3⟩ := g.at_ _ _ _ ha hk
      subst h2
      exact .dic (tk_no g hm ha) h1 (RpL.fz g f h3)
  | _, _, .dit hm hk f, _, r => by
    cases r with
    | loc ha =>
      obtain ⟨fs, h1, h2, h3⟩ := g.at_ _ _ _ ha hk
      subst h2
      exact .dit (tk_no g hm ha) h1 (RpL.fz g f h3)
  | _, _, .tupI f, _, r => by cases r with | tup h1 h2 => exact .tup ⟨tk_out h1.1, h1.2⟩ (RpL.fz g f h2)
  | _, _, .lstI f, _, r => by cases r with | lst h1 h2 h3 => exact .lst (tk_out h1) h2 (RpL.fz g f h3)
  | _, _, .insI f, _, r => by cases r with | ins h1 h2 h3 => exact .ins (tk_out h1) h2 (RpL.fz g f h3)
  | _, _, .dicI f, _, r => by cases r with | dic h1 h2 h3 => exact .dic (tk_out h1) h2 (RpL.fz g f h3)
  | _, _, .ditI f, _, r => by cases r with | dit h1 h2 h3 => exact .dit (tk_out h1) h2 (RpL.fz g f h3)
theorem RpL.fz (g : GaOk K H α γ) {m : Nat} : ∀ {ds es : List D}, FzL γ m ds es → ∀ {vs : List V}, RpL K H α vs ds → RpL K H (α.tk m) vs es
  | _, _, .nil, _, r => by cases r; exact .nil
  | _, _, .cons f fs, _, r => by cases r with | cons h1 h2 => exact .cons (Rp.fz g f h1) (RpL.fz g fs h2)
end
end
/-- q, or q when the objects behind are let go -/
def Dr (n : Nat) (q : QD) : QD := fun d γ => q d γ ∨ ∃ d' γ2 rest, γ = γ2 ++ rest ∧ n ≤ γ2.length ∧ loG γ2.length γ2 = true ∧ Fz γ γ2.length d d' ∧ q d' γ2
theorem wv_dr {K : Frag} {α0 : Al} {H0 : Hp} {n : Nat} {q : QD} {k : VK} (hn : α0.h.length = n) (w : Wv0 K α0 H0 q k) : Wv0 K α0 H0 (Dr n q) k := by
  rintro v H α d γ (h | ⟨d', γ2, rest, rfl, hl, b, f, h⟩) e g r
  · exact w v H α d γ h e g r
  · exact w v H (α.tk γ2.length) d' γ2 h (e.tk (by omega)) (g.tk b) (Rp.fz g f r)
/-- .. of an exception -/
def DrX (n : Nat) (e : XD) : XD := fun C ns ds γ => e C ns ds γ ∨ ∃ γ2 rest, γ = γ2 ++ rest ∧ n ≤ γ2.length ∧ loG γ2.length γ2 = true ∧ loL γ2.length ds = true ∧ e C ns ds γ2
theorem xv_dr {K : Frag} {α0 : Al} {H0 : Hp} {n : Nat} {e : XD} {E : XK} (hn : α0.h.length = n) (x : Xv K α0 H0 e E) : Xv K α0 H0 (DrX n e) E := by
  rintro C dd fs ds γ α H (h | ⟨γ2, rest, rfl, hl, b, bl, h⟩) ext g hd nd rl
  · exact x C dd fs ds γ α H h ext g hd nd rl
  · exact x C dd fs ds γ2 (α.tk γ2.length) H h (ext.tk (by omega)) (g.tk b) hd (tk_out nd) (RpL.tk _ _ _ rl bl)
/-! ### a def by its body -/
theorem rpe_start {K : Frag} {H : Hp} {α : Al} {vs : List V} {ds : List D} (r : RpL K H α vs ds) (N : List Str) : RpE K H α (L2.start N vs) (ds.map some ++ List.replicate (N.length - ds.length) none) := by
  unfold L2.start
  rw [r.length]
  refine ⟨by simp [r.length], fun i d h => ?_⟩
  by_cases hi : i < ds.length
  · rw [List.getElem?_append_left (by simpa using hi), List.getElem?_map] at h
    cases q : ds[i]? with
    | none => rw [q] at h; cases h
    | some x =>
      rw [q] at h
      cases h
      obtain ⟨v, h1, h2⟩ := r.get q
      refine ⟨v, ?_, h2⟩
      rw [List.getElem?_append_left (by simp [r.length]; exact hi), List.getElem?_map, h1]
      rfl
  · rw [List.getElem?_append_right (by simpa using hi)] at h
    rw [List.getElem?_replicate] at h
    split at h <;> cases h
/-- a def's wish of an exception, whatever the slots are -/
abbrev wOf (E : XK) : WX := fun cls d _ H => E cls d H
theorem fn_dl {P : Program} {w : World} {K : Frag} {mg : Str → Option Value} {base : Heap} {k : Nat} {f : Addr} {x qual : Str} {params : Arguments} {body : List Stmt} {scope : Scope} {dvs : List V} {kws : List (Str × V)} {fd : FuncData} {N ps : List Str} {s : SpD}
    (F : FunD K x qual params body scope dvs kws f fd) (sc : FnScope N ps scope) (t : WX → TS) (len : ∀ ds γ q e, s ds γ q e → ds.length = ps.length)
    (der : ∀ (cdv : Value) (A : Around) (outer : List PySem.Env) (s : Shared) (H : Hp) (E : XK), Room k (cxOf (L2.CX P w) P w K mg base N qual scope f cdv A outer s H E).A → (cxOf (L2.CX P w) P w K mg base N qual scope f cdv A outer s H E).A.guards = some [] →
      Takes (cxOf (L2.CX P w) P w K mg base N qual scope f cdv A outer s H E) (wOf E) → PassesOwn (model P w) (cxOf (L2.CX P w) P w K mg base N qual scope f cdv A outer s H E).A (cxOf (L2.CX P w) P w K mg base N qual scope f cdv A outer s H E).env (cxOf (L2.CX P w) P w K mg base N qual scope f cdv A outer s H E).xe →
      PSs (cxOf (L2.CX P w) P w K mg base N qual scope f cdv A outer s H E) body (t (wOf E)))
    (h : ∀ ds γ q e E, loG γ.length γ = true → loL γ.length ds = true → s ds γ q e → dS ⟨K, wOf E, fun _ => DrX γ.length e⟩ γ.length (t (wOf E)) (ds.map some ++ List.replicate (N.length - ds.length) none) γ { nx := fun _ γ' => Dr γ.length q .non γ', rt := Dr γ.length q }) :
    FnG P w K mg base (L2.CX P w) (k + 1) f fd ps (toSp K s) := by
  refine fnG_of F sc (fun vs H Q E hs => ?_) fun cdv A outer s0 H vs Q E room gd hs => ⟨t (wOf E), der cdv A outer s0 H E room gd (takes_of rfl rfl rfl rfl) (passes_of rfl), ?_⟩
  · obtain ⟨α, ds, γ, q, e, r, g, hq, _⟩ := hs
    rw [r.length]
    exact len _ _ _ _ hq
  · obtain ⟨α, ds, γ, q, e, r, g, hq, wv, xv⟩ := hs
    have b2 := RpL.lo _ _ r
    rw [g.len] at b2
    have xv' := xv_dr g.len xv
    refine h ds γ q e E g.lo b2 hq (L2.start N vs) H α α H _ g.len g.refl (rpe_start r N) ⟨g, fun σ ρ C dd fs ds γ' α' H' he _ ext g' hd nd rl => xv' C dd fs ds γ' α' H' he ext g' hd nd rl⟩ ⟨?_, ?_, ?_, ?_⟩
    · intro σ1 H1 α1 ρ1 γ1 h1 e1 g1 r1
      exact wv_dr g.len wv .non H1 α1 .non γ1 h1 e1 g1.toGaOk .non
    · intro v1 H1 α1 d1 γ1 h1 e1 g1 r1
      exact wv_dr g.len wv v1 H1 α1 d1 γ1 h1 e1 g1.toGaOk r1
    · intro σ1 H1 α1 ρ1 γ1 h1 e1 g1 r1
      exact h1.elim
    · intro σ1 H1 α1 ρ1 γ1 h1 e1 g1 r1
      exact h1.elim
end DL

set_option Elab.async false
set_option linter.all false
set_option maxRecDepth 100000
set_option maxHeartbeats 2000000
namespace DL
open PySem PySem.Spec PyProof.Rows L2

/-- a def of the text keeps a promise -/
def Pk (P : Program) (w : World) (K : Frag) (mg : Str → Option Value) (base : Heap) (k : Nat) (a : Str × Option Str) (ps : List Str) (s : SpD) : Prop :=
  ∃ fd, FnG P w K mg base (L2.CX P w) k (He.fAd K a) fd ps (toSp K s) ∧ PySem.W.keepIn K (.ref (He.fAd K a)) = true ∧ Binds K fd ps []
theorem Pk.mono {P : Program} {w : World} {K : Frag} {mg : Str → Option Value} {base : Heap} {j k : Nat} {a : Str × Option Str} {ps : List Str} {s : SpD} (h : Pk P w K mg base j a ps s) (l : j ≤ k) : Pk P w K mg base k a ps s := by
  obtain ⟨fd, F, kp, b⟩ := h
  exact ⟨fd, F.mono l, kp, b⟩
theorem Pk.imp {P : Program} {w : World} {K : Frag} {mg : Str → Option Value} {base : Heap} {k : Nat} {a : Str × Option Str} {ps : List Str} {s s' : SpD} (h : Pk P w K mg base k a ps s) (l : ∀ ds γ q e, s' ds γ q e → s ds γ q e) : Pk P w K mg base k a ps s' := by
  obtain ⟨fd, F, kp, b⟩ := h
  exact ⟨fd, F.imp fun vs H Q E ⟨α, ds, γ, q, e, h1, h2, h3, h4⟩ => ⟨α, ds, γ, q, e, h1, h2, l _ _ _ _ h3, h4⟩, kp, b⟩
section
variable {X : Cx} {W : WX} {k : Nat} {C : Addr} {ps : List Str} {s : SpD} {x m : Str} {p pos apos : Pos} {e o : Expr} {es : List Expr} {ta : TE} {t : TA}
theorem callP (tk : Takes X W) (F : Pk X.prog X.w X.K X.mg X.base k (x, none) ps s) (room : Room k X.A) (gd : X.A.guards = some []) (gl : Gl X x) (mgx : X.mg x = some (.ref (He.ga X.K x)))
    (ha : PA X (e :: es) t) (h1 : (x == ("__debug__" : Str)) = false := by decide) (h2 : starEach (e :: es) X.env = (false, eval e X.env) :: starEach es X.env := by rfl) (h3 : (backTo pos (starEach es X.env)).any (·.1) = false := by rfl) :
    PE X (.Call (.Name x p) (e :: es) [] pos) (tCallW (toSp X.K s) (WE W) t) := by
  obtain ⟨fd, F, kp, b⟩ := F
  exact callG F room gd b (passAt tk) gl mgx kp ha h1 h2 h3
theorem callP0 (tk : Takes X W) (F : Pk X.prog X.w X.K X.mg X.base k (x, none) ps s) (room : Room k X.A) (gd : X.A.guards = some []) (gl : Gl X x) (mgx : X.mg x = some (.ref (He.ga X.K x)))
    (h1 : (x == ("__debug__" : Str)) = false := by decide) : PE X (.Call (.Name x p) [] [] pos) (tCallW (toSp X.K s) (WE W) tNil) := by
  obtain ⟨fd, F, kp, b⟩ := F
  exact callG0 F room gd b (passAt tk) gl mgx kp h1
theorem methP {c : Str} {pl : Sem Bool} (tk : Takes X W) (he : PE X o ta) (cl : Cls X.K (He.ga X.K c)) (mt : Meth X.K (He.ga X.K c) m (He.ma X.K (He.ga X.K c) m)) (F : Pk X.prog X.w X.K X.mg X.base k (c, some m) ps s) (room : Room k X.A) (gd : X.A.guards = some []) (ha : PA X (e :: es) t)
    (h2 : starEach (e :: es) X.env = (false, eval e X.env) :: starEach es X.env := by rfl) (h3 : (backTo pos (starEach es X.env)).any (·.1) = false := by rfl)
    (ht : eval (.Call (.Attribute o m apos) (e :: es) [] pos) X.env = (do let ov ← eval o X.env; standAt apos.atName; let (f, first) ← holding [ov] (getMethod ov m pl); callWith pos f first (backTo pos (starEach (e :: es) X.env)) (backToKw pos (keywordEach [] X.env))) := by rfl) :
    PE X (.Call (.Attribute o m apos) (e :: es) [] pos) (tMethW (He.ga X.K c) m (toSp X.K s) (WE W) ta t) := by
  obtain ⟨fd, F, kp, b⟩ := F
  exact methG he cl mt F room gd b (passAt tk) ha h2 h3 ht
theorem methP0 {c : Str} {pl : Sem Bool} (tk : Takes X W) (he : PE X o ta) (cl : Cls X.K (He.ga X.K c)) (mt : Meth X.K (He.ga X.K c) m (He.ma X.K (He.ga X.K c) m)) (F : Pk X.prog X.w X.K X.mg X.base k (c, some m) ps s) (room : Room k X.A) (gd : X.A.guards = some [])
    (ht : eval (.Call (.Attribute o m apos) [] [] pos) X.env = (do let ov ← eval o X.env; standAt apos.atName; let (f, first) ← holding [ov] (getMethod ov m pl); callWith pos f first (backTo pos (starEach [] X.env)) (backToKw pos (keywordEach [] X.env))) := by rfl) :
    PE X (.Call (.Attribute o m apos) [] [] pos) (tMethW (He.ga X.K c) m (toSp X.K s) (WE W) ta tNil) := by
  obtain ⟨fd, F, kp, b⟩ := F
  exact methG0 he cl mt F room gd b (passAt tk) ht
theorem makeP {j : Nat} (tk : Takes X W) (M : Mk X.K (He.ga X.K x) (He.ma X.K (He.ga X.K x) "__init__")) (F : Pk X.prog X.w X.K X.mg X.base j (x, some "__init__") ps s) (hj : j + 1 ≤ k) (room : Room k X.A) (gd : X.A.guards = some []) (gl : Gl X x) (mgx : X.mg x = some (.ref (He.ga X.K x)))
    (ha : PA X (e :: es) t) (h1 : (x == ("__debug__" : Str)) = false := by decide) (h2 : starEach (e :: es) X.env = (false, eval e X.env) :: starEach es X.env := by rfl) (h3 : (backTo pos (starEach es X.env)).any (·.1) = false := by rfl) :
    PE X (.Call (.Name x p) (e :: es) [] pos) (tMakeW (He.ga X.K x) (toSp X.K s) (WE W) t) := by
  obtain ⟨fd, F, kp, b⟩ := F
  exact makeG M F (room.mono hj) gd b (passAt tk) gl mgx ha h1 h2 h3
end
/-- a, b = e, f: both sides written -/
theorem ds_par {K : KX} {n : Nat} {ρ : Env} {γ : Ga} {B : DEnds} {i j : Nat} {ta : TA} (h : dA K ta ρ γ fun ds γ1 => ∃ x y, ds = [x, y] ∧ B.nx ((ρ.set i (some x)).set j (some y)) γ1) : dS K n (tPar i j ta) ρ γ B := fun σ H α α0 H0 Dn hn e r g fe =>
  h σ H α _ r g fun vs H1 α1 ds γ1 h1 e1 g1 r1 => by
    obtain ⟨x, y, rfl, hq⟩ := h1
    cases r1 with
    | cons r1 r2 =>
      cases r2 with
      | cons r2 r3 =>
        cases r3
        exact ⟨_, _, rfl, fe.nx _ H1 α1 _ γ1 hq (e.trans e1) g1 (((r.mono e1).set i r1).set j r2)⟩
theorem ds_aug {K : KX} {n : Nat} {ρ : Env} {γ : Ga} {B : DEnds} {i : Nat} {te : TE} {r : R2} (d : D) (hd : ρ[i]? = some (some d)) (h : dE K te ρ γ fun y γ1 => dR2 K r d y γ1 fun z γ2 => B.nx (ρ.set i (some z)) γ2) : dS K n (tAug i te r) ρ γ B := fun σ H α α0 H0 Dn hn e rr g fe => by
  obtain ⟨v, h1, h2⟩ := rr.2 i d hd
  exact ⟨v, h1, h σ H α _ rr g fun u H1 α1 y γ1 h3 e1 g1 r1 => h3 H1 α1 v u _ g1 (Rp.mono e1 _ _ h2) r1 fun z' H2 α2 z γ2 h4 e2 g2 r2 => fe.nx _ H2 α2 _ γ2 h4 ((e.trans e1).trans e2) g2 (((rr.mono e1).mono e2).set i r2)⟩
end DL

set_option Elab.async false
set_option linter.all false
set_option maxRecDepth 100000
set_option maxHeartbeats 2000000
namespace DL
open PySem PySem.Spec PyProof.Rows L2

theorem hu65 {A : Around} {k : Nat} (hr : Room k A) : A.units + 65 < cLine := by have := hr.un; omega
theorem op_inG {X : Cx} (hu : X.A.units + 65 < cLine) : OpR X (compareOp .In) (rInG X.K) := op_in_seq.or (op_in_sign.or (op_inD hu))
theorem op_niG {X : Cx} (hu : X.A.units + 65 < cLine) : OpR X (compareOp .NotIn) (rNiG X.K) := op_notIn_seq.or (op_notIn_sign.or (op_notInD hu))
def rAbs : List V → Hp → VK → Prop := fun xs H Q => ∃ i, xs = [.int i] ∧ Q (.int (if i < 0 then -i else i)) H
def rMin2 : List V → Hp → VK → Prop := fun xs H Q => ∃ i j, xs = [.int i, .int j] ∧ Q (.int (if j < i then j else i)) H
def tTruth (K : Frag) (ta : TE) : TT := fun σ H Q => ta σ H fun x H' => ∃ k, TruV K x H' k ∧ Q k H'
theorem pt_truthK {X : Cx} {a : Expr} {ta : TE} (ha : PE X a ta) (he : ∀ whole, isTrue a X.env whole = (do let v ← whole; standAt a.pos; holding [v] (truthy v))) : PT X a (tTruth X.K ta) := pt_truth ha he
/-! ### dicts that stand still -/
def valD (ks : List Key) (vs : List D) (k : Key) : Option D := ((ks.zip vs).find? fun p => decide (p.1 = k)).map (·.2)
def keyD : D → Option Key
  | .int i => some (.inl i)
  | .str x => some (.inr x)
  | _ => none
section
variable {K : KX} {ρ : Env} {γ : Ga} {Q : QD}
theorem keyD_rp {H : Hp} {α : Al} {v : V} {d : D} {k : Key} (r : Rp K H α v d) (h : keyD d = some k) : v = kV k := by
  cases r with
  | int i => cases h; rfl
  | str x => cases h; rfl
  | _ => cases h
theorem valD_rp {H : Hp} {α : Al} {k : Key} : ∀ {kvs : List (Key × V)} {vs : List D}, RpL K H α (kvs.map (·.2)) vs →
    (∀ d, valD (kvs.map (·.1)) vs k = some d → ∃ v, valV kvs k = some v ∧ Rp K H α v d) ∧ (valD (kvs.map (·.1)) vs k = none → valV kvs k = none)
  | [], _, h => by cases h; exact ⟨fun _ e => (by cases e), fun _ => rfl⟩
  | (a, b) :: r, _, h => by
    cases h with
    | @cons _ _ x xs h1 h2 =>
      obtain ⟨i1, i2⟩ := valD_rp (k := k) h2
      by_cases hk : a = k
      · have e1 : valD (((a, b) :: r).map (·.1)) (x :: xs) k = some x := by simp [valD, hk]
        have e2 : valV ((a, b) :: r) k = some b := by simp [valV, hk]
        rw [e1, e2]
        exact ⟨fun d e => by cases e; exact ⟨b, rfl, h1⟩, fun e => (by cases e)⟩
      · have e1 : valD (((a, b) :: r).map (·.1)) (x :: xs) k = valD (r.map (·.1)) xs k := by simp [valD, hk]
        have e2 : valV ((a, b) :: r) k = valV r k := by simp [valV, hk]
        rw [e1, e2]
        exact ⟨i1, i2⟩
/-- a dict, as it stands -/
def dvw (γ : Ga) : D → Option (List Key × List D)
  | .dic ks vs => some (ks, vs)
  | .loc k => match γ[k]? with
    | some (.dic ks vs) => some (ks, vs)
    | _ => none
  | _ => none
theorem dic_rp {H : Hp} {α : Al} {v : V} {d : D} {ks : List Key} {vs : List D} (g : GaX K H α γ) (r : Rp K H α v d) (h : dvw γ d = some (ks, vs)) : ∃ a kvs, v = .ref a ∧ H a = some (.dK kvs) ∧ kvs.map (·.1) = ks ∧ RpL K H α (kvs.map (·.2)) vs := by
  cases r with
  | dic h1 h2 h3 =>
    cases h
    exact ⟨_, _, rfl, h2, rfl, h3⟩
  | @loc k a ha =>
    unfold dvw at h
    cases q : γ[k]? with
    | none => simp [q] at h
    | some m =>
      cases m with
      | dic ks' vs' =>
        simp [q] at h
        obtain ⟨rfl, rfl⟩ := h
        obtain ⟨kvs, h1, h2, h3⟩ := g.at_ _ _ _ ha q
        exact ⟨a, kvs, rfl, h1, h2, h3⟩
      | _ => simp [q] at h
  | _ => cases h
theorem de_dget2 {td ty tx : TE} (h : dE K td ρ γ fun d γ1 => (∃ ks vs, dvw γ1 d = some (ks, vs)) ∧ dE K ty ρ γ1 fun y γ2 => dE K tx ρ γ2 fun x γ3 => ∃ ks vs k, dvw γ3 d = some (ks, vs) ∧ keyD y = some k ∧ Q ((valD ks vs k).getD x) γ3) :
    dE K (tDGet2 td ty tx) ρ γ Q := fun σ H α q r g w =>
  h σ H α _ r g fun v H1 α1 d γ1 ⟨⟨ks, vs, hd⟩, h1⟩ e1 g1 r1 => by
    obtain ⟨a, kvs, rfl, ha, hk, hv⟩ := dic_rp g1 r1 hd
    refine ⟨a, rfl, .inl ⟨kvs, .inl ha⟩, h1 σ H1 α1 _ (r.mono e1) g1 fun vy H2 α2 y γ2 h2 e2 g2 r2 => h2 σ H2 α2 _ ((r.mono e1).mono e2) g2 fun vx H3 α3 x γ3 ⟨ks', vs', k, hd3, hy, hq⟩ e3 g3 r3 => ?_⟩
    obtain ⟨a', kvs', ea, ha', hk', hv'⟩ := dic_rp g3 (Rp.mono (e2.trans e3) _ _ r1) hd3
    cases ea
    subst hk'
    have ey := keyD_rp (Rp.mono e3 _ _ r2) hy
    refine ⟨valV kvs' k, .inl ⟨kvs', k, .inl ha', ey, rfl⟩, ?_⟩
    obtain ⟨i1, i2⟩ := valD_rp (k := k) hv'
    cases z : valD (kvs'.map (·.1)) vs' k with
    | none =>
      rw [i2 z]
      rw [z] at hq
      exact w vx H3 α3 x γ3 hq ((e1.trans e2).trans e3) g3 r3
    | some dd =>
      obtain ⟨u, hu, ru⟩ := i1 dd z
      rw [hu]
      rw [z] at hq
      exact w u H3 α3 dd γ3 hq ((e1.trans e2).trans e3) g3 ru
/-- {k: v, ..}: written pairs -/
def dPairs (K : KX) : List (TE × TE) → Env → Ga → (List (D × D) → Ga → Prop) → Prop
  | [], _, γ, Q => Q [] γ
  | (tk, tv) :: r, ρ, γ, Q => dE K tk ρ γ fun k γ1 => dE K tv ρ γ1 fun v γ2 => dPairs K r ρ γ2 fun ps γ3 => Q ((k, v) :: ps) γ3
def PsRp (K : Frag) (H : Hp) (α : Al) (us : List (V × V)) (ps : List (D × D)) : Prop := RpL K H α (us.map (·.1)) (ps.map (·.1)) ∧ RpL K H α (us.map (·.2)) (ps.map (·.2))
theorem dPairs_run : ∀ {trs : List (TE × TE)} {ρ : Env} {γ : Ga} {Q : List (D × D) → Ga → Prop}, dPairs K trs ρ γ Q → ∀ σ H α (q : List (V × V) → Hp → Prop), RpE K H α σ ρ → GaX K H α γ →
    (∀ us H' α' ps γ', Q ps γ' → Ext α H α' H' → GaX K H' α' γ' → PsRp K H' α' us ps → q us H') → tPairs trs σ H q
  | [], ρ, γ, Q, h, σ, H, α, q, r, g, w => w [] H α [] γ h g.refl g ⟨.nil, .nil⟩
  | (tk, tv) :: rs, ρ, γ, Q, h, σ, H, α, q, r, g, w =>
    h σ H α _ r g fun k H1 α1 kd γ1 h1 e1 g1 r1 => h1 σ H1 α1 _ (r.mono e1) g1 fun v H2 α2 vd γ2 h2 e2 g2 r2 =>
      dPairs_run h2 σ H2 α2 _ ((r.mono e1).mono e2) g2 fun us H3 α3 ps γ3 h3 e3 g3 r3 =>
        w ((k, v) :: us) H3 α3 ((kd, vd) :: ps) γ3 h3 ((e1.trans e2).trans e3) g3 ⟨.cons (Rp.mono (e2.trans e3) _ _ r1) r3.1, .cons (Rp.mono e3 _ _ r2) r3.2⟩
theorem putK_new {kvs : List (Key × V)} {k : Key} {v : V} (h : k ∉ kvs.map (·.1)) : putK kvs k v = kvs ++ [(k, v)] := by
  unfold putK
  rw [if_neg]
  intro z
  obtain ⟨p, hp, e⟩ := List.any_eq_true.mp z
  exact h (List.mem_map.mpr ⟨p, hp, of_decide_eq_true e⟩)
theorem mergeK_nodup : ∀ {more kvs : List (Key × V)}, (kvs.map (·.1) ++ more.map (·.1)).Nodup → mergeK kvs more = kvs ++ more
  | [], kvs, _ => by simp [mergeK]
  | (k, v) :: r, kvs, h => by
    have hk : k ∉ kvs.map (·.1) := fun z => by
      rw [List.nodup_append] at h
      exact h.2.2 k z k (by simp) rfl
    show mergeK (putK kvs k v) r = _
    rw [putK_new hk, mergeK_nodup]
    · simp
    · simpa using h
theorem keysD_rp {H : Hp} {α : Al} : ∀ {us : List (V × V)} {ps : List (D × D)} {ks : List Key}, PsRp K H α us ps → ps.map (fun p => keyD p.1) = ks.map some → ∃ kvs : List (Key × V), us = kvs.map (fun kv => (kV kv.1, kv.2)) ∧ kvs.map (·.1) = ks ∧ kvs.map (·.2) = us.map (·.2)
  | [], [], ks, _, h => by
    cases ks with
    | nil => exact ⟨[], rfl, rfl, rfl⟩
    | cons _ _ => cases h
  | [], _ :: _, _, h, _ => by cases h.1
  | _ :: _, [], _, h, _ => by cases h.1
  | (a, b) :: us, (x, y) :: ps, ks, h, hk => by
    cases ks with
    | nil => cases hk
    | cons k ks =>
      simp only [List.map_cons, List.cons.injEq] at hk
      obtain ⟨h1, h2⟩ := h
      cases h1 with
      | cons r1 r2 =>
        cases h2 with
        | cons r3 r4 =>
          obtain ⟨kvs, e1, e2, e3⟩ := keysD_rp (us := us) (ps := ps) (ks := ks) ⟨r2, r4⟩ hk.2
          refine ⟨(k, b) :: kvs, ?_, by simp [e2], by simp [e3]⟩
          have ea : a = kV k := keyD_rp r1 hk.1
          rw [ea, e1]
          rfl
theorem de_disp {trs : List (TE × TE)} (h : dPairs K trs ρ γ fun ps γ1 => ∃ ks, ps.map (fun p => keyD p.1) = ks.map some ∧ ks.Nodup ∧ ks.length ≤ 15 ∧ Q (.dic ks (ps.map (·.2))) γ1) : dE K (tDisp trs) ρ γ Q := fun σ H α q r g w => by
  intro p hp
  have e0 := ext_hid g (o := .dK []) hp
  refine dPairs_run h σ _ _ _ (r.mono e0) (ga_hid g hp) fun us H1 α1 ps γ1 h1 e1 g1 r1 => ?_
  obtain ⟨ks, hk, nd, hl, hq⟩ := h1
  obtain ⟨kvs, k1, k2, k3⟩ := keysD_rp r1 hk
  have inx : p ∈ (α.hid p).x := List.mem_cons_self
  have hp1 := e1.keepx p _ inx upd_same
  have inx1 : p ∈ α1.x := by
    obtain ⟨δ, e, _⟩ := e1.xx
    rw [e]
    exact List.mem_append_right _ inx
  subst k2
  refine ⟨hp1, kvs, k1, by simpa using hl, ?_⟩
  have em : mergeK [] kvs = kvs := by rw [mergeK_nodup (by simpa using nd)]; rfl
  rw [em]
  have ew := ext_setW g1 (o := .dK kvs) (.inr inx1)
  have e2 : Ext α H α1 (upd H1 p (.dK kvs)) := ext_hset g (e0.trans e1) hp
  have g2 := g.go (ga_hset0 g1.toGaOk (o := .dK kvs) inx1) e2
  have nh : p ∉ α1.h := fun z => g1.nd.2.2 p z inx1
  refine w _ _ (α1.un p) _ γ1 hq (ext_un g e2 hp) (g.go (ga_un0 g2.toGaOk) (ext_un g e2 hp)) (.dic (out_un nh) upd_same ?_)
  rw [k3]
  exact RpL.shw (α := α1) (α' := α1.un p) rfl un_x _ _ (RpL.monoW ew _ _ r1.2)
end
end DL

set_option Elab.async false
set_option linter.all false
set_option maxRecDepth 100000
set_option maxHeartbeats 2000000
namespace DL
open PySem PySem.Spec PyProof.Rows L2

/-! ### the statements' rules, component by component -/
section
variable {K : KX} {n : Nat} {ρ : Env} {γ : Ga} {nx bk ct : Env → Ga → Prop} {rt : QD} {t u : TS}
theorem xs_next (h : nx ρ γ) : dS K n tNext ρ γ ⟨nx, rt, bk, ct⟩ := ds_next h
theorem xs_brk (h : bk ρ γ) : dS K n tBreak ρ γ ⟨nx, rt, bk, ct⟩ := ds_brk h
theorem xs_cont (h : ct ρ γ) : dS K n tCont ρ γ ⟨nx, rt, bk, ct⟩ := ds_cont h
theorem xs_seq (h : dS K n t ρ γ ⟨fun ρ' γ' => dS K n u ρ' γ' ⟨nx, rt, bk, ct⟩, rt, bk, ct⟩) : dS K n (tSeq t u) ρ γ ⟨nx, rt, bk, ct⟩ := ds_seq h
theorem xs_if {c : TT} (h : dT K c ρ γ fun b γ' => if b = true then dS K n t ρ γ' ⟨nx, rt, bk, ct⟩ else dS K n u ρ γ' ⟨nx, rt, bk, ct⟩) : dS K n (tIfS c t u) ρ γ ⟨nx, rt, bk, ct⟩ := ds_if h
theorem xs_asg {te : TE} {g : TG} (h : dE K te ρ γ fun d γ' => ∃ is, dG K g d ρ γ' is nx) : dS K n (tAsg te g) ρ γ ⟨nx, rt, bk, ct⟩ := fun σ H α α0 H0 Dn hn e r g fe =>
  h σ H α _ r g fun v H1 α1 d γ1 ⟨is, h1⟩ e1 g1 r1 => h1 σ H1 α1 v _ (r.mono e1) g1 r1 fun σ2 H2 α2 ρ2 γ2 h2 _ e2 g2 r2 => fe.nx σ2 H2 α2 ρ2 γ2 h2 ((e.trans e1).trans e2) g2 r2
theorem xs_set {te : TE} {i : Nat} (h : dE K te ρ γ fun d γ' => nx (ρ.set i (some d)) γ') : dS K n (tAsg te (gName i)) ρ γ ⟨nx, rt, bk, ct⟩ := ds_set h
theorem xs_ret {te : TE} (h : dE K te ρ γ rt) : dS K n (tRet te) ρ γ ⟨nx, rt, bk, ct⟩ := ds_ret h
theorem xs_retN (h : rt .non γ) : dS K n tRetN ρ γ ⟨nx, rt, bk, ct⟩ := ds_retN h
theorem xs_expr {te : TE} (h : dE K te ρ γ fun _ γ' => nx ρ γ') : dS K n (tDrop te) ρ γ ⟨nx, rt, bk, ct⟩ := ds_expr h
theorem xs_par {i j : Nat} {ta : TA} (h : dA K ta ρ γ fun ds γ1 => ∃ x y, ds = [x, y] ∧ nx ((ρ.set i (some x)).set j (some y)) γ1) : dS K n (tPar i j ta) ρ γ ⟨nx, rt, bk, ct⟩ := ds_par h
theorem xs_fld {ta tv : TE} {f : Str} (h : dE K tv ρ γ fun d γ1 => dE K ta ρ γ1 fun r γ2 => ∃ k C ns vs, r = .loc k ∧ γ2[k]? = some (.ins C ns vs) ∧ Cls K C ∧ NoAttr K C f ∧ vs.length < 1000 ∧
      nx ρ (γ2.set k (.ins C (stored ns vs f d).1 (stored ns vs f d).2))) : dS K n (sFld K ta tv f) ρ γ ⟨nx, rt, bk, ct⟩ := ds_fld h
theorem xs_while {c : TT} {tb : TS} (P : Nat → Env → Ga → Prop) (h0 : ∃ m, P m ρ γ)
    (hs : ∀ m ρ γ, P m ρ γ → dT K c ρ γ fun b γ1 => if b = true then dS K n tb ρ γ1 ⟨fun ρ' γ' => ∃ m', m' < m ∧ P m' ρ' γ', rt, nx, fun ρ' γ' => ∃ m', m' < m ∧ P m' ρ' γ'⟩ else nx ρ γ1) :
    dS K n (tWhile c tb) ρ γ ⟨nx, rt, bk, ct⟩ := ds_while P h0 hs
theorem xs_for {wi : TI} {g : TG} {tb : TS} (is : List Nat) (h : dI K wi ρ γ fun ds γ1 => ∃ P : Nat → Env → Ga → Prop, P 0 ρ γ1 ∧
      (∀ i x ρ' γ', ds[i]? = some x → P i ρ' γ' → dG K g x ρ' γ' is fun ρ2 γ2 => dS K γ1.length tb ρ2 γ2 ⟨P (i + 1), rt, nx, P (i + 1)⟩) ∧
      ∀ ρ' γ', P ds.length ρ' γ' → nx ρ' γ') : dS K n (tFor wi g tb) ρ γ ⟨nx, rt, bk, ct⟩ := ds_for is h
end
section
variable {K : KX} {ρ : Env} {γ : Ga} {Q : QD}
theorem xe_var {i : Nat} (h : ∃ d, ρ[i]? = some (some d) ∧ Q d γ) : dE K (tVar i) ρ γ Q := de_var h.choose_spec.1 h.choose_spec.2
theorem xg_name {i : Nat} {d : D} {N : Env → Ga → Prop} (h : N (ρ.set i (some d)) γ) : ∃ is, dG K (gName i) d ρ γ is N := ⟨_, dg_name h⟩
theorem xg_tup {m : Nat} {gs : TGs} {ds : List D} {N : Env → Ga → Prop} (hl : ds.length = m) (h : ∃ is, dGs K gs ds ρ γ is N) : ∃ is, dG K (gTup K m gs) (.tup ds) ρ γ is N := ⟨_, dg_tup hl h.choose_spec⟩
theorem dg_lst {m : Nat} {gs : TGs} {x : D} {ds : List D} {is : List Nat} {N : Env → Ga → Prop} (hx : vw γ x = .lst ds) (hl : ds.length = m) (h : dGs K gs ds ρ γ is N) : dG K (gUnl K m gs) x ρ γ is N := fun σ H α v q r g rv w => by
  obtain ⟨a, us, rfl, h1, ru⟩ := lst_vw g rv hx
  exact ⟨_, _, rfl, SqL.of h1, ru.length.trans hl, h σ H α _ q r g ru w⟩
theorem xg_lst {m : Nat} {gs : TGs} {x : D} {N : Env → Ga → Prop} (h : ∃ ds, vw γ x = .lst ds ∧ ds.length = m ∧ ∃ is, dGs K gs ds ρ γ is N) : ∃ is, dG K (gUnl K m gs) x ρ γ is N := by
  obtain ⟨ds, h1, h2, is, h3⟩ := h
  exact ⟨is, dg_lst h1 h2 h3⟩
theorem xgs_nil {N : Env → Ga → Prop} (h : N ρ γ) : ∃ is, dGs K gNil [] ρ γ is N := ⟨_, dgs_nil h⟩
theorem dg_mono {g : TG} {d : D} {is : List Nat} {N N' : Env → Ga → Prop} (h : dG K g d ρ γ is N) (k : ∀ ρ' γ', N ρ' γ' → N' ρ' γ') : dG K g d ρ γ is N' := fun σ H α v q r g0 rv w =>
  h σ H α v q r g0 rv fun σ' H' α' ρ' γ' n s e g1 r1 => w σ' H' α' ρ' γ' (k _ _ n) s e g1 r1
/-- a name first, then the rest -/
theorem xgs_name {i : Nat} {gs : TGs} {d : D} {ds : List D} {N : Env → Ga → Prop} (h : ∃ is, dGs K gs ds (ρ.set i (some d)) γ is N) : ∃ is, dGs K (gCons (gName i) gs) (d :: ds) ρ γ is N := ⟨_, dgs_cons (dg_name h.choose_spec)⟩
theorem xg_setL {to ti : TE} {d : D} {N : Env → Ga → Prop} (h : dE K to ρ γ fun o γ1 => dE K ti ρ γ1 fun i γ2 => ∃ k xs z j, o = .loc k ∧ γ2[k]? = some (.lst xs) ∧ i = .int z ∧ ixN xs.length z = some j ∧ N ρ (γ2.set k (.lst (xs.set j d)))) :
    ∃ is, dG K (gSub to ti rSetL) d ρ γ is N := ⟨_, dg_setL h⟩
theorem iteb {b : Bool} {p q : Prop} (h1 : b = true → p) (h2 : b = false → q) : if b = true then p else q := by
  cases b with
  | true => exact h1 rfl
  | false => exact h2 rfl
/-! ### tuples of the text's top -/
theorem de_topB {x : Str} {vs : List He.Dv} {ds : List D} (h : He.tupB K x vs = true) (hr : ∀ H α, RpL K H α (vs.map (He.Dv.v K)) ds) (q : Q (.cst ds) γ) : dE K (tC (.ref (He.ga K x))) ρ γ Q := by
  refine de_top (vs := vs.map (He.Dv.v K)) ?_ hr q
  unfold TopS
  unfold He.tupB at h
  cases e : K.f.lookup (He.ga K x) with
  | none => rw [e] at h; cases h
  | some o =>
    obtain ⟨oc, od, dt, osl⟩ := o
    rw [e] at h
    cases oc with
    | type c =>
      cases dt with
      | seq its n =>
        obtain ⟨h1, h2⟩ := He.ba (show (decide (c = "tuple") && (decide (its.size ≤ sizeLine) && He.relAll (vs.map (He.Dv.v K)) its.toList)) = true from h)
        obtain ⟨h3, h4⟩ := He.ba h2
        exact ⟨_, its, n, rfl, congrArg Value.type (of_decide_eq_true h1), rfl, of_decide_eq_true h3, He.relAll_ok h4⟩
      | _ => cases h
    | _ => cases dt <;> cases h
/-- a list that will be changed -/
def tLstM (t : TA) : TE := tLst t
theorem xe_tup {t : TA} (h : dA K t ρ γ fun ds γ' => ds.length ≤ 1000000 ∧ Q (.tup ds) γ') : dE K (tTup t) ρ γ Q := de_tup fun σ H α q r g w => h σ H α q r g fun vs H' α' ds γ' h' => w vs H' α' ds γ' ⟨le24 h'.1, h'.2⟩
theorem xe_lst {t : TA} (h : dA K t ρ γ fun ds γ' => ds.length ≤ 1000000 ∧ Q (.lst ds) γ') : dE K (tLst t) ρ γ Q := de_lst fun σ H α q r g w => h σ H α q r g fun vs H' α' ds γ' h' => w vs H' α' ds γ' ⟨le24 h'.1, h'.2⟩
theorem xe_lstM {t : TA} (h : dA K t ρ γ fun ds γ' => ds.length ≤ 1000000 ∧ Q (.loc γ'.length) (γ' ++ [.lst ds])) : dE K (tLstM t) ρ γ Q := de_lstM (t := t) fun σ H α q r g w => h σ H α q r g fun vs H' α' ds γ' h' => w vs H' α' ds γ' ⟨le24 h'.1, h'.2⟩
/-! ### texts as lists of codes -/
def strsD (ls : List (List Nat)) : List D := ls.map fun l => .str (S l)
theorem radd_S {a b : List Nat} (hl : a.length + b.length ≤ 1000000) (q : Q (.str (S (a ++ b))) γ) : dR2 K (rAddG K) (.str (S a)) (.str (S b)) γ Q := radd_str (by rw [S_len, S_len]; exact hl) (by rw [S_app]; exact q)
theorem req_S {a b : List Nat} (q : Q (.bl (decide (a = b))) γ) : dR2 K (rEqG K) (.str (S a)) (.str (S b)) γ Q := req_str (by
  have e : decide (S a = S b) = decide (a = b) := by simp only [S_inj]
  rw [e]; exact q)
theorem rne_S {a b : List Nat} (q : Q (.bl (!decide (a = b))) γ) : dR2 K (rNeG K) (.str (S a)) (.str (S b)) γ Q := rne_str (by
  have e : decide (S a = S b) = decide (a = b) := by simp only [S_inj]
  rw [e]; exact q)
theorem rc_len_S {a : List Nat} (hl : a.length ≤ 1000000) (q : Q (.int (a.length : Nat)) γ) : dRC K (rLenG K) [.str (S a)] γ Q := rc_len_str (by rw [S_len]; exact hl) (by rw [S_len]; exact q)
theorem eqf_S {a b : List Nat} : eqf (.str (S a)) (.str (S b)) = decide (a = b) := by
  show (S a == S b) = _
  rw [Bool.eq_iff_iff, beq_iff_eq, S_inj, decide_eq_true_iff]
theorem inD_nil {x : D} : inD x [] = false := rfl
theorem inD_cons {x y : D} {ys : List D} : inD x (y :: ys) = (eqf y x || inD x ys) := rfl
theorem inD_strs {l : List Nat} : ∀ {ls : List (List Nat)}, inD (.str (S l)) (strsD ls) = decide (l ∈ ls)
  | [] => by simp [strsD, inD]
  | a :: ls => by
    have ih := @inD_strs l ls
    show (eqf (.str (S a)) (.str (S l)) || inD (.str (S l)) (strsD ls)) = _
    rw [ih, eqf_S, Bool.eq_iff_iff, Bool.or_eq_true, decide_eq_true_iff, decide_eq_true_iff, decide_eq_true_iff, List.mem_cons]
    exact ⟨fun h => h.elim (fun e => .inl e.symm) .inr, fun h => h.elim (fun e => .inl e.symm) .inr⟩
theorem strs_flat : ∀ {ls : List (List Nat)}, (strsD ls).all D.flat = true
  | [] => rfl
  | a :: ls => by
    show ((D.str (S a)).flat && (strsD ls).all D.flat) = true
    rw [strs_flat]; rfl
theorem rin_strs {y : D} {l : List Nat} {ls : List (List Nat)} (hy : SqD γ y (strsD ls)) (q : Q (.bl (decide (l ∈ ls))) γ) : dR2 K (rInG K) (.str (S l)) y γ Q :=
  rin_seq hy rfl strs_flat (by rw [inD_strs]; exact q)
theorem rni_strs {y : D} {l : List Nat} {ls : List (List Nat)} (hy : SqD γ y (strsD ls)) (q : Q (.bl (!decide (l ∈ ls))) γ) : dR2 K (rNiG K) (.str (S l)) y γ Q :=
  rni_seq hy rfl strs_flat (by rw [inD_strs]; exact q)
/-! ### existential forms -/
theorem xix_lst {x : D} {z : Int} (h : ∃ xs, vw γ x = .lst xs ∧ ∃ d, atI xs z = some d ∧ Q d γ) : dR2 K (rIx K) x (.int z) γ Q := by
  obtain ⟨xs, h1, d, h2, h3⟩ := h
  exact rix_lst h1 h2 h3
theorem xadd_lst {x y : D} (h : ∃ xs, vw γ x = .lst xs ∧ ∃ ys, vw γ y = .lst ys ∧ xs.length + ys.length ≤ 1000000 ∧ Q (.lst (xs ++ ys)) γ) : dR2 K (rAddG K) x y γ Q := by
  obtain ⟨xs, h1, ys, h2, h3, h4⟩ := h
  exact radd_lst h1 h2 h3 h4
theorem xix_tup {xs : List D} {z : Int} (h : ∃ d, atI xs z = some d ∧ Q d γ) : dR2 K (rIx K) (.tup xs) (.int z) γ Q := rix_tup h.choose_spec.1 h.choose_spec.2
theorem xix_str {l : List Nat} {z : Int} (hl : l.length ≤ 1000000) (h : ∃ c, atI l z = some c ∧ Q (.str (S [c])) γ) : dR2 K (rIx K) (.str (S l)) (.int z) γ Q := rix_str hl h.choose_spec.1 h.choose_spec.2
theorem xc_len {x : D} (h : ∃ xs, SqD γ x xs ∧ Q (.int (xs.length : Nat)) γ) : dRC K (rLenG K) [x] γ Q := rc_len h.choose_spec.1 h.choose_spec.2
theorem xm_append {x y : D} (h : ∃ k xs, x = .loc k ∧ γ[k]? = some (.lst xs) ∧ xs.length < 1000000 ∧ Q .non (γ.set k (.lst (xs ++ [y])))) : dRM K rAppend x [y] γ Q := by
  obtain ⟨k, xs, rfl, h1, h2, h3⟩ := h
  exact rm_append h1 h2 h3
theorem xt_app {T : String} {r : V → List V → Hp → VK → Prop} {to : TE} {t : TA} (h : dE K to ρ γ fun x γ1 => IsTy K T x γ1 ∧ dA K t ρ γ1 fun xs γ2 => dRM K r x xs γ2 Q) : dE K (tBM K T r to t) ρ γ Q := de_bm h
theorem xty_lst {x : D} (h : ∃ xs, vw γ x = .lst xs) : IsTy K "list" x γ := isTy_lst h.choose_spec
theorem at_nat {A : Type} {xs : List A} {j : Nat} {d : A} (h : xs[j]? = some d) : atI xs (j : Int) = some d := by
  have hl : j < xs.length := (List.getElem?_eq_some_iff.mp h).1
  unfold atI ixN
  rw [if_pos (Int.natCast_nonneg j), if_pos (by omega)]
  exact h
theorem at_int {A : Type} {xs : List A} {z : Int} {d : A} (h0 : 0 ≤ z) (h : xs[z.toNat]? = some d) : atI xs z = some d := by
  have := at_nat h
  rwa [Int.toNat_of_nonneg h0] at this
end
/-! ### comprehensions, tests that are known -/
section
variable {K : KX} {ρ : Env} {γ : Ga} {Q : QD}
theorem ift {p q : Prop} (h : p) : if true = true then p else q := h
theorem iff_ {p q : Prop} (h : q) : if false = true then p else q := h
theorem ifnt {p q : Prop} (h : q) : if (!true) = true then p else q := h
theorem ifnf {p q : Prop} (h : p) : if (!false) = true then p else q := h
theorem ifd {c : Prop} [Decidable c] {p q : Prop} (h1 : c → p) (h2 : ¬ c → q) : if decide c = true then p else q := by
  by_cases hc : c
  · rw [if_pos (decide_eq_true hc)]; exact h1 hc
  · rw [if_neg (by simpa using hc)]; exact h2 hc
theorem ifnd {c : Prop} [Decidable c] {p q : Prop} (h1 : ¬ c → p) (h2 : c → q) : if (!decide c) = true then p else q := by
  by_cases hc : c
  · rw [if_neg (by simpa using hc)]; exact h2 hc
  · rw [if_pos (by simpa using hc)]; exact h1 hc
theorem xc_isi {x : D} {U : String} (h : ∃ T b, tyName γ x = some T ∧ kitB T U = some b ∧ Q (.bl b) γ) : dRC K (rIsi K) [x, .ty U] γ Q := by
  obtain ⟨T, b, h1, h2, h3⟩ := h
  exact rc_isi h1 h2 h3
theorem dt_yes {q : Bool → Ga → Prop} (h : q true γ) : dT K tYes ρ γ q := fun σ H α k r g w => w true H α γ h g.refl g
theorem xe_lcN {A : Type} {i : Nat} {wi : TI} {te : TE} {vs : List Nat} (xs : List A) (a b : A → D) (hv : i ∈ vs) (h : dI K wi ρ γ fun ds γ1 => ds = xs.map a ∧ xs.length ≤ 1000000 ∧
    (∀ x ∈ xs, dE K.cm te ((wipeE ρ vs).set i (some (a x))) γ1 fun y γ3 => y = b x ∧ γ3 = γ1) ∧ Q (.lst (xs.map b)) γ1) : dE K (tLc wi (gName i) tYes te vs) ρ γ Q := by
  refine de_lc [i] (by intro j hj; simp at hj; subst hj; exact hv) fun σ H α r rr g w => h σ H α r rr g fun J H' α' γ1 ds hh e g' wk => w J H' α' γ1 ds ?_ e g' wk
  obtain ⟨rfl, hl, he, hq⟩ := hh
  refine ⟨by simpa using hl, fun j acc γ' => γ' = γ1 ∧ acc = (xs.take j).map b, ⟨rfl, rfl⟩, ?_, ?_⟩
  · rintro j x acc γ' hx ⟨rfl, rfl⟩
    refine dg_name (dt_yes ?_)
    rw [if_pos rfl]
    rw [List.getElem?_map] at hx
    cases ex : xs[j]? with
    | none => rw [ex] at hx; cases hx
    | some y =>
      rw [ex] at hx
      cases hx
      refine de_mono (he y (List.mem_of_getElem? ex)) ?_
      rintro d γ3 ⟨rfl, rfl⟩
      refine ⟨rfl, ?_⟩
      rw [List.take_add_one, ex]
      simp
  · rintro acc γ' ⟨rfl, rfl⟩
    rw [List.length_map, List.take_length]
    exact hq
theorem chrsD_S {l : List Nat} : chrsD (S l) = l.map fun c => .str (S [c]) := by
  unfold chrsD
  rw [S_l]
  rfl
theorem map_bl {A : Type} {xs : List A} {b : A → Bool} : xs.map (fun x => D.bl (b x)) = (xs.map b).map D.bl := by rw [List.map_map]; rfl
theorem set_get {γ : Ga} {k : Nat} {a b : MO} (h : γ[k]? = some a) : (γ.set k b)[k]? = some b := by
  have hl : k < γ.length := (List.getElem?_eq_some_iff.mp h).1
  rw [List.getElem?_set_self hl]
theorem set_set {γ : Ga} {k : Nat} {a b : MO} : (γ.set k a).set k b = γ.set k b := by rw [List.set_set]
theorem dS_env {n : Nat} {t : TS} {ρ ρ' : Env} {B : DEnds} (e : ρ = ρ') (h : dS K n t ρ' γ B) : dS K n t ρ γ B := by rw [e]; exact h
end
/-! ### a stream's first number -/
section
variable {K : KX} {ρ : Env} {γ : Ga} {Q : QD}
theorem xs_cut {n : Nat} {t u : TS} {nx bk ct : Env → Ga → Prop} {rt : QD} (N : Env → Ga → Prop) (h1 : dS K n t ρ γ ⟨N, rt, bk, ct⟩) (h2 : ∀ ρ' γ', N ρ' γ' → dS K n u ρ' γ' ⟨nx, rt, bk, ct⟩) : dS K n (tSeq t u) ρ γ ⟨nx, rt, bk, ct⟩ :=
  xs_seq fun σ H α α0 H0 Dn hn e r g f => h1 σ H α α0 H0 Dn hn e r g ⟨fun σ' H' α' ρ' γ' h e' g' r' => f.nx σ' H' α' ρ' γ' (h2 _ _ h) e' g' r', f.rt, f.bk, f.ct⟩
theorem ints_pl : ∀ cs : List Int, plL (cs.map D.int) = true
  | [] => rfl
  | c :: cs => by
    show ((D.int c).pl && plL (cs.map D.int)) = true
    rw [ints_pl cs]; rfl
theorem ints_shaped : ∀ cs : List Int, PyData.canLayAll0 (pyL (cs.map D.int)) = true ∧ PyData.depthAll (pyL (cs.map D.int)) = 0
  | [] => ⟨by simp [pyL, PyData.canLayAll0], by simp [pyL, PyData.depthAll]⟩
  | c :: cs => by
    obtain ⟨h1, h2⟩ := ints_shaped cs
    refine ⟨?_, ?_⟩
    · simp [pyL, PyData.canLayAll0, D.py, PyData.canLay0, h1]
    · simp [pyL, PyData.depthAll, D.py, PyData.depth, h2]
theorem rne_nil {x : D} {cs : List Int} (hx : vw γ x = .lst (cs.map D.int)) (q : Q (.bl (decide (cs ≠ []))) γ) : dR2 K (rNeG K) x (.lst []) γ Q := by
  refine rne_D (by rw [hx]; exact ints_pl cs) rfl (by rw [hx]; obtain ⟨h1, h2⟩ := ints_shaped cs; simp [D.py, SeqAt.shaped, PyData.canLay0, PyData.depth, h1, h2]) rfl ?_
  rw [hx]
  cases cs with
  | nil => exact q
  | cons c cs => exact q
theorem rm_pop0 {k : Nat} {xs : List D} {y : D} (hk : γ[k]? = some (.lst (y :: xs))) (q : Q y (γ.set k (.lst xs))) : dRM K rPopAt (.loc k) [.int 0] γ Q :=
  rm_popAt hk (by decide) (by decide) (j := 0) (by simp [seqIndex?]) rfl q
end
/-! ### dicts that are written out -/
section
variable {K : KX} {ρ : Env} {γ : Ga} {Q : QD}
theorem xp_nil {q : List (D × D) → Ga → Prop} (h : q [] γ) : dPairs K [] ρ γ q := h
theorem xp_cons {tk tv : TE} {r : List (TE × TE)} {q : List (D × D) → Ga → Prop} (h : dE K tk ρ γ fun k γ1 => dE K tv ρ γ1 fun v γ2 => dPairs K r ρ γ2 fun ps γ3 => q ((k, v) :: ps) γ3) : dPairs K ((tk, tv) :: r) ρ γ q := h
theorem keys_all : ∀ ps : List (D × D), ps.all (fun p => (keyD p.1).isSome) = true → ps.map (fun p => keyD p.1) = (ps.filterMap fun p => keyD p.1).map some
  | [], _ => rfl
  | p :: ps, h => by
    rw [List.all_cons, Bool.and_eq_true] at h
    obtain ⟨k, hk⟩ := Option.isSome_iff_exists.mp h.1
    rw [List.map_cons, List.filterMap_cons, hk, keys_all ps h.2]
    rfl
theorem dPairs_mono : ∀ {trs : List (TE × TE)} {γ : Ga} {q q' : List (D × D) → Ga → Prop}, dPairs K trs ρ γ q → (∀ ps γ', q ps γ' → q' ps γ') → dPairs K trs ρ γ q'
  | [], _, _, _, h, k => k _ _ h
  | (tk, tv) :: r, _, _, _, h, k => de_mono h fun _ _ h1 => de_mono h1 fun _ _ h2 => dPairs_mono h2 fun ps γ' h3 => k _ _ h3
theorem xe_disp {trs : List (TE × TE)} (h : dPairs K trs ρ γ fun ps γ1 => ps.all (fun p => (keyD p.1).isSome) = true ∧ (ps.filterMap fun p => keyD p.1).Nodup ∧ ps.length ≤ 15 ∧ Q (.dic (ps.filterMap fun p => keyD p.1) (ps.map (·.2))) γ1) : dE K (tDisp trs) ρ γ Q := by
  refine de_disp (dPairs_mono h ?_)
  rintro ps γ1 ⟨h1, h2, h3, h4⟩
  exact ⟨_, keys_all ps h1, h2, Nat.le_trans (List.length_filterMap_le _ _) h3, h4⟩
end
/-! ### a law's start -/
theorem only_ga {K : Frag} {H : Hp} : GaOk K H ⟨[], []⟩ [] := ⟨⟨List.nodup_nil, List.nodup_nil, fun _ h => by simp at h⟩, rfl, fun _ _ _ h => by simp at h, fun _ h => by simp at h⟩
theorem ints_rp {K : Frag} {H : Hp} {α : Al} : ∀ ns : List Int, RpL K H α (ns.map V.int) (ns.map D.int)
  | [] => .nil
  | n :: ns => .cons (.int n) (ints_rp ns)
end DL

set_option Elab.async false
set_option linter.all false
set_option maxRecDepth 100000
set_option maxHeartbeats 2000000
namespace DL
open PySem PySem.Spec PyProof.Rows L2

/-! ### a law's own def; a def that is never called -/
/-- what the law is called with, and what it answers -/
def spLaw (K : Frag) : Sp := fun vs H Q E => ∃ a, ∃ ns : List Int, vs = [.ref a] ∧ ns.length ≤ 63 ∧ SqL K H a (ns.map V.int) ∧ ∀ v H', v = .bl true → Q v H'
def tStream (K : Frag) : TS := tAsg (tLst (tCons (tCB (rListOf K) (tCons (tVar 0) tNil)) (tCons (tC (.int 0)) (tCons (tC (.int 0)) (tCons (tC (.int 0)) tNil))))) (gName 1)
def dLaw (K : Frag) (N : List Str) (u : WX → TS) : Prop := ∀ a, ∀ ns : List Int, ns.length ≤ 63 →
  dS ⟨K, W0, fun _ => noX⟩ 2 (u W0) (([some (D.ref a)] ++ List.replicate (N.length - 1) none).set 1 (some (.loc 1))) [.lst (ns.map D.int), .lst [.loc 0, .int 0, .int 0, .int 0]] ⟨fun _ _ => False, fun d _ => d = .bl true, fun _ _ => False, fun _ _ => False⟩
theorem fn_law {P : Program} {w : World} {K : Frag} {mg : Str → Option Value} {base : Heap} {k : Nat} {f : Addr} {x qual : Str} {params : Arguments} {body : List Stmt} {scope : Scope} {dvs : List V} {kws : List (Str × V)} {fd : FuncData} {N : List Str} {p : Str}
    (F : FunD K x qual params body scope dvs kws f fd) (sc : FnScope N [p] scope) (u : WX → TS)
    (der : ∀ (cdv : Value) (A : Around) (outer : List PySem.Env) (s : Shared) (H : Hp) (E : XK), Room k (cxOf (L2.CX P w) P w K mg base N qual scope f cdv A outer s H E).A → (cxOf (L2.CX P w) P w K mg base N qual scope f cdv A outer s H E).A.guards = some [] →
      Takes (cxOf (L2.CX P w) P w K mg base N qual scope f cdv A outer s H E) W0 → PassesOwn (model P w) (cxOf (L2.CX P w) P w K mg base N qual scope f cdv A outer s H E).A (cxOf (L2.CX P w) P w K mg base N qual scope f cdv A outer s H E).env (cxOf (L2.CX P w) P w K mg base N qual scope f cdv A outer s H E).xe →
      PSs (cxOf (L2.CX P w) P w K mg base N qual scope f cdv A outer s H E) body (tSeq (tStream K) (u W0)))
    (h : dLaw K N u) : FnG P w K mg base (L2.CX P w) (k + 1) f fd [p] (spLaw K) := by
  refine fnG_of F sc (fun vs H Q E hs => ?_) fun cdv A outer s0 H vs Q E room gd hs => ⟨_, der cdv A outer s0 H E room gd ((takes_of rfl rfl rfl rfl).imp fun _ _ _ _ h => h.elim) (passes_of rfl), ?_⟩
  · obtain ⟨a, ns, rfl, _⟩ := hs
    rfl
  · obtain ⟨a, ns, rfl, hl, hS, hQ⟩ := hs
    refine ⟨.ref a, by unfold L2.start; rfl, a, ns.map V.int, rfl, .inl hS, fun l hl1 => ⟨by show 4 ≤ sizeLine; decide, fun q hq => ?_⟩⟩
    have hne : q ≠ l := fun e => by subst e; rw [upd_same] at hq; cases hq
    let H2 : Hp := upd (upd H l (.lst (ns.map V.int))) q (.lst [.ref l, .int 0, .int 0, .int 0])
    have hHl : H2 l = some (.lst (ns.map V.int)) := by show upd _ q _ l = _; rw [upd_ne (Ne.symm hne), upd_same]
    have hHq : H2 q = some (.lst [.ref l, .int 0, .int 0, .int 0]) := upd_same
    have g0 : GaOk K H2 ⟨[l, q], []⟩ [.lst (ns.map D.int), .lst [.loc 0, .int 0, .int 0, .int 0]] := by
      refine ⟨⟨by simp [Ne.symm hne], List.nodup_nil, fun _ _ h => by simp at h⟩, rfl, ?_, fun _ h => by simp at h⟩
      intro k b m hk hm
      match k, hk, hm with
      | 0, hk, hm =>
        cases hk; cases hm
        exact ⟨_, hHl, ints_rp ns⟩
      | 1, hk, hm =>
        cases hk; cases hm
        exact ⟨_, hHq, .cons (.loc rfl) (.cons (.int 0) (.cons (.int 0) (.cons (.int 0) .nil)))⟩
      | k + 2, hk, hm => cases hk
    have g : GaX ⟨K, W0, fun _ => noX⟩ H2 ⟨[l, q], []⟩ [.lst (ns.map D.int), .lst [.loc 0, .int 0, .int 0, .int 0]] := ⟨g0, fun _ _ _ _ _ _ _ _ _ h => h.elim⟩
    have r0 : RpE K H2 ⟨[l, q], []⟩ (L2.start N [.ref a]) ([D.ref a].map some ++ List.replicate (N.length - [D.ref a].length) none) := rpe_start (.cons (.ref a) .nil) N
    have r1 := r0.set 1 (v := .ref q) (d := .loc 1) (.loc rfl)
    refine h a ns hl _ H2 ⟨[l, q], []⟩ ⟨[l, q], []⟩ H2 _ rfl g.refl r1 g ⟨?_, ?_, ?_, ?_⟩
    · intro σ1 H1 α1 ρ1 γ1 h1
      exact h1.elim
    · rintro v H1 α1 d γ1 rfl e1 g1 r1
      cases r1
      exact hQ _ _ rfl
    · intro σ1 H1 α1 ρ1 γ1 h1
      exact h1.elim
    · intro σ1 H1 α1 ρ1 γ1 h1
      exact h1.elim
theorem pk_never {P : Program} {w : World} {K : Frag} {mg : Str → Option Value} {base : Heap} {k : Nat} {a : Str × Option Str} {x qual : Str} {params : Arguments} {body : List Stmt} {scope : Scope} {dvs : List V} {kws : List (Str × V)} {N ps : List Str}
    (F : ∃ fd, FunD K x qual params body scope dvs kws (He.fAd K a) fd) (sc : FnScope N ps scope) (hb : ∀ fd, FunD K x qual params body scope dvs kws (He.fAd K a) fd → Binds K fd ps []) : Pk P w K mg base (k + 1) a ps (fun _ _ _ _ => False) := by
  obtain ⟨fd, F⟩ := F
  exact ⟨fd, fnG_of F sc (fun vs H Q E ⟨_, _, _, _, _, _, _, h, _⟩ => h.elim) fun cdv A outer s0 H vs Q E room gd ⟨_, _, _, _, _, _, _, h, _⟩ => h.elim, F.kp, hb fd F⟩
end DL

set_option Elab.async false
set_option linter.all false
set_option maxRecDepth 100000
set_option maxHeartbeats 2000000
namespace DL
open PySem PySem.Spec PyProof.Rows L2

/-! ### dicts of the text's top, text keys -/
structure KVal (K : Frag) (x : Str) (kvs : List (Str × He.Dv)) : Prop where
  yes : ∀ p ∈ kvs, ∃ u, PySem.W.nsIn K (He.ga K x) p.1 = some (some u) ∧ RelV (p.2.v K) u
  no : ∀ z, z ∉ kvs.map (·.1) → PySem.W.nsIn K (He.ga K x) z = some none
theorem nsIn_none {K : Frag} {P : Params} {a : Addr} {ks : List Str} {z : Str} (h : He.dicW K a = some (He.keysIn P ks)) (hz : z ∉ ks) : PySem.W.nsIn K a z = some none := by
  unfold He.dicW at h
  unfold PySem.W.nsIn
  cases q : K.lookup a with
  | none => rw [q] at h; cases h
  | some o =>
    obtain ⟨oc, od, dt, osl⟩ := o
    rw [q] at h
    cases oc with
    | type c =>
      cases od with
      | none =>
        cases dt with
        | dict es n =>
          have h1 : (match decide (c = "dict") && (osl.isEmpty && !(a == sysModules)) with
            | true => some (es.toList.map He.keyOf)
            | false => none) = some (He.keysIn P ks) := h
          cases z1 : decide (c = "dict") && (osl.isEmpty && !(a == sysModules)) with
          | false => rw [z1] at h1; cases h1
          | true =>
            rw [z1] at h1
            have h2 : es.toList.map He.keyOf = He.keysIn P ks := Option.some.inj h1
            have hk : ∀ e ∈ es.toList, ∃ k ∈ ks, ∃ t, e.key = .str k t := by
              intro e he
              have h3 : He.keyOf e ∈ He.keysIn P ks := h2 ▸ List.mem_map_of_mem he
              unfold He.keysIn at h3
              obtain ⟨k, hk, e3⟩ := List.mem_map.mp h3
              unfold He.keyOf at e3
              split at e3
              · rename_i y t q2
                have := (Prod.mk.inj (Option.some.inj e3)).1
                exact ⟨k, hk, t, by rw [q2, this]⟩
              · cases e3
            show (match es.toList.find? (·.key.isStr z) with
              | some e => some (some e.val)
              | none => if es.toList.any (·.refKey) then none else some none) = some none
            have f1 : es.toList.find? (·.key.isStr z) = none := by
              rw [List.find?_eq_none]
              intro e he
              obtain ⟨k, hk1, t, e4⟩ := hk e he
              rw [e4]
              intro hh
              have : k = z := by
                first
                  | (simp [Value.isStr] at hh; exact hh)
                  | (simp [Value.isStr] at hh; exact hh.symm)
              exact hz (this ▸ hk1)
            have f2 : es.toList.any (·.refKey) = false := by
              rw [List.any_eq_false]
              intro e he
              obtain ⟨k, hk1, t, e4⟩ := hk e he
              simp [DictEntry.refKey, e4]
            rw [f1, f2]
            rfl
        | _ => cases h
      | some b => cases dt <;> cases h
    | _ => cases od <;> cases dt <;> cases h
theorem ktab_of {fa : List He.Fa} {fn : List He.DefD} {ts : List He.Tab} {w : World} {K : Frag} {x : Str} {kvs : List (Str × He.Dv)} (c : He.SaysT fa fn ts w K) (i : Nat) (h : ts[i]? = some ((fun K => He.ga K x), kvs.map (·.1)))
    (hv : He.valsB K (He.ga K x) kvs = true) : (∃ es n, KDict K w (He.ga K x) es n) ∧ KVal K x kvs := by
  have e : ts.map (fun t => He.dicW K (t.1 K)) = ts.map fun t => some (He.keysIn w.params t.2) := congrArg (fun z : He.AlT => z.2) c
  have e2 : (ts.map fun t => He.dicW K (t.1 K))[i]? = (ts.map fun t => some (He.keysIn w.params t.2))[i]? := by rw [e]
  rw [List.getElem?_map, List.getElem?_map, h] at e2
  have e3 : He.dicW K (He.ga K x) = some (He.keysIn w.params (kvs.map (·.1))) := Option.some.inj e2
  exact ⟨He.dicW_ok e3, fun p hp => He.valsB_ok hv hp, fun z hz => nsIn_none e3 hz⟩
/-- D[e] -/
def rKIx (K : Frag) (x : Str) : R2 := fun a b H Q => ∃ (z : Str) (u : Value) (v : V), a = .ref (He.ga K x) ∧ b = .str z ∧ PySem.W.nsIn K (He.ga K x) z = some (some u) ∧ RelV v u ∧ Q v H
theorem ix_kd {X : Cx} {x : Str} {es : Array DictEntry} {n : Nat} (D : KDict X.K X.w (He.ga X.K x) es n) : IxR X (rKIx X.K x) := by
  intro value slice pins s σ H x y v u Q I rx ry h hs
  obtain ⟨z, u0, v0, rfl, rfl, e, r, q⟩ := h
  cases rx
  obtain ⟨t, rfl⟩ := ry
  exact tail_any (kd_type D I) PySem.F.slot_dict_getitem.lookup (wpAny_getItem_of (PySem.strKind_is X.prog X.w z t) (PySem.W.mapOf_K (prog := X.prog) I.kIn D.at_ D.lit) (PySem.W.find_K D.at_ e) ⟨v0, H, I.tok _, r, q⟩) hs
/-- D.get(e, f) -/
def tKGet2 (K : Frag) (x : Str) (td ty tx : TE) : TE := fun σ H Q => td σ H fun a H1 => a = .ref (He.ga K x) ∧ ty σ H1 fun y H2 => tx σ H2 fun z H3 => ∃ s r, y = .str s ∧ PySem.W.nsIn K (He.ga K x) s = some r ∧ (∀ u, r = some u → ∃ v, RelV v u ∧ Q v H3) ∧ (r = none → Q z H3)
theorem pe_kget2 {X : Cx} {x : Str} {o e f : Expr} {td ty tx : TE} {apos cpos : Pos} (D : ∃ es n, KDict X.K X.w (He.ga X.K x) es n) (ho : PE X o td) (he : PE X e ty) (hf : PE X f tx) (m : M2 X o "get" apos e f cpos) : PE X (.Call (.Attribute o "get" apos) [e, f] [] cpos) (tKGet2 X.K x td ty tx) := by
  obtain ⟨es, n, D⟩ := D
  refine ⟨fun pins s σ H Q I h => ?_⟩
  refine wpAny_Call_method m.base m.few m.line PySem.F.plainAttrs_dict PySem.F.slot_dict_get PySem.F.type_dict_get (thn (ho.run pins s σ H _ I h) fun u s1 ⟨y, H1, I1, rx, ex, q1⟩ => ?_)
  subst ex
  obtain rfl : u = Value.ref (He.ga X.K x) := rx
  refine ⟨kd_type D I1, fun b hb => ?_, ?_⟩
  · cases hb
    exact ⟨_, I1.kIn _ _ D.at_, rfl⟩
  rw [m.trees]
  refine Calls.callWith_builtin rfl (Calls.evalArgs_plain (Calls.spliced_cons (thn (he.run pins s1 σ H1 _ I1 q1) fun iv s2 ⟨y, H2, I2, ry, q2⟩ =>
    Calls.spliced_cons (thn (hf.run pins s2 σ H2 _ I2 q2) fun fv s3 ⟨z, H3, I3, rz, st, r, ey, en, q3, q4⟩ => Calls.spliced_nil ?_))))
  subst ey
  obtain ⟨t, rfl⟩ := ry
  refine call_meetsIn PySem.F.slot_dict_get (kd_type D I3) PySem.F.entry_dict_get (PySem.F.args_dict_get_3 _ _ _) (meets_dict_get_default (strKind X.prog X.w) _ (PySem.strKind_is X.prog X.w st t) D.low fv) ⟨_, PySem.W.mapOf_K (prog := X.prog) I3.kIn D.at_ D.lit, ?_⟩
  rw [PySem.W.find_K D.at_ en]
  cases r with
  | none => exact ⟨z, H3, I3.tok _, rz, q4 rfl⟩
  | some u =>
    obtain ⟨v, rv, q5⟩ := q3 u rfl
    exact ⟨v, H3, I3.tok _, rv, q5⟩

/-! ### .. by data: a table of ints -/
abbrev kvI (tb : List (List Nat × Int)) : List (Str × He.Dv) := tb.map fun p => (S p.1, .int p.2)
section
variable {K : KX} {ρ : Env} {γ : Ga} {Q : QD} {x : Str} {tb : List (List Nat × Int)}
theorem look_some : ∀ {tb : List (List Nat × Int)} {w : List Nat} {i : Int}, tb.lookup w = some i → (S w, (He.Dv.int i)) ∈ kvI tb
  | [], w, i, h => by cases h
  | (a, b) :: r, w, i, h => by
    rw [List.lookup_cons] at h
    by_cases e : (w == a) = true
    · rw [e] at h
      cases h
      rw [beq_iff_eq] at e
      subst e
      exact List.mem_cons_self
    · rw [Bool.not_eq_true] at e
      rw [e] at h
      exact List.mem_cons_of_mem _ (look_some h)
theorem look_none : ∀ {tb : List (List Nat × Int)} {w : List Nat}, tb.lookup w = none → S w ∉ (kvI tb).map (·.1)
  | [], w, h => by simp
  | (a, b) :: r, w, h => by
    rw [List.lookup_cons] at h
    by_cases e : (w == a) = true
    · rw [e] at h; cases h
    · rw [Bool.not_eq_true] at e
      rw [e] at h
      intro hm
      rcases List.mem_cons.mp hm with hm | hm
      · have : w = a := S_inj.mp hm
        rw [this] at e
        simp at e
      · exact look_none h hm
def dOr : Option Int → D → D
  | some i, _ => .int i
  | none, z => z
theorem rk_ix {w : List Nat} {i : Int} (T : KVal K x (kvI tb)) (h : tb.lookup w = some i) (q : Q (.int i) γ) : dR2 K (rKIx K x) (.ref (He.ga K x)) (.str (S w)) γ Q := fun H α a b k g r1 r2 wv => by
  cases r1; cases r2
  obtain ⟨u, h1, h2⟩ := T.yes _ (look_some h)
  exact ⟨S w, u, _, rfl, rfl, h1, h2, wv _ H α _ γ q g.refl g (.int i)⟩
theorem de_kget2 {td ty tx : TE} (T : KVal K x (kvI tb)) (h : dE K td ρ γ fun d γ1 => d = .ref (He.ga K x) ∧ dE K ty ρ γ1 fun y γ2 => dE K tx ρ γ2 fun z γ3 => ∃ w, y = .str (S w) ∧ Q (dOr (tb.lookup w) z) γ3) : dE K (tKGet2 K x td ty tx) ρ γ Q := fun σ H α q r g wv =>
  h σ H α _ r g fun v H1 α1 d γ1 ⟨ed, h1⟩ e1 g1 r1 => by
    subst ed
    cases r1
    refine ⟨rfl, h1 σ H1 α1 _ (r.mono e1) g1 fun y H2 α2 yd γ2 h2 e2 g2 r2 => h2 σ H2 α2 _ ((r.mono e1).mono e2) g2 fun z H3 α3 zd γ3 ⟨w, ey, hq⟩ e3 g3 r3 => ?_⟩
    subst ey
    cases r2
    cases hl : tb.lookup w with
    | none =>
      rw [hl] at hq
      exact ⟨_, none, rfl, T.no _ (look_none hl), (fun u hu => by cases hu), fun _ => wv _ H3 α3 _ γ3 hq ((e1.trans e2).trans e3) g3 r3⟩
    | some i =>
      rw [hl] at hq
      obtain ⟨u, h4, h5⟩ := T.yes _ (look_some hl)
      refine ⟨_, some u, rfl, h4, fun u' hu => ?_, fun hh => by cases hh⟩
      cases hu
      exact ⟨_, h5, wv _ H3 α3 _ γ3 hq ((e1.trans e2).trans e3) g3 (.int i)⟩
end
end DL

set_option Elab.async false
set_option linter.all false
set_option maxRecDepth 100000
set_option maxHeartbeats 2000000
namespace DL
open PySem PySem.Spec PyProof.Rows L2
/-! ### a statement that is never reached (a raise that no input meets) -/
def tNo : TS := fun _ _ _ => False
theorem ps_no {X : Cx} {s : Stmt} : PS X s tNo := ⟨fun _ _ _ _ _ _ h => h.elim⟩
end DL

set_option Elab.async false
set_option linter.all false
set_option maxRecDepth 100000
set_option maxHeartbeats 4000000
/-! an own exception's __init__ that says super().__init__(..) -/
namespace DL
open PySem PySem.Spec PyProof.Rows L2 NdefX

/-- what the written part says of the class at C and its __init__, the function F at f -/
structure SupI (prog : Program) (K : Frag) (mg : Str → Option Value) (C f : Addr) (F : NF) : Prop where
  fn : ∃ oc od osl dV kV doc pm an ct, K.lookup f = some ⟨oc, od, .func (PySem.W.fnX F.name F.qual F.params F.body F.scope F.cl dV kV doc pm an (.ref F.c) ct), osl⟩
  code : PySem.W.codeIn K (.ref F.c) F.qual = true
  file : ∃ ccl cdd vs ccs file tf, K.lookup F.c = some ⟨ccl, cdd, .fields vs, ccs⟩ ∧ vs[2]? = some (.str file tf) ∧ ((prog.main.file : Str) == file) = true
  cell : ∃ cc, F.cl = [(("__class__" : Str), cc)] ∧ ∃ cl cld csl, K.lookup cc = some ⟨cl, cld, .cell (some (.ref C)), csl⟩
  cls : ∃ cd, PySem.W.clsIn K C = some cd
  sub : PySem.W.mroIn K C (.ref C) = some true
  opq : PySem.W.nsIn K cStatics "thirdparty.any" = some none
  sup : PySem.W.ks_superIn K C C ("__init__" : Str) = some (some (.builtin "ValueError.__init__"))
  isV : PySem.W.subIn K (.ref C) (.type "ValueError") = some true
  mgs : mg "super" = none
  top : (prog.main.scope.names.lookup ("super" : Str)).isSome = false
theorem exc_fin {A : Around} {E : Value → Shared → Prop} {prog : Program} {w : World} {h : Heap} {g : Array GenState} {d : Drawn} {t : Nat} {os : OsState} {nm q : Str} {C N : Addr} {bs bm : List Value} {sn : List Str} {sub : List Value} {ab : Bool} {col : Option Bool} {dd : Option Addr} {k0 k1 k2 k3 k5 : Option Value}
    {u x t0 : Addr} {rest : List Value} {Q : Value → Shared → Prop} (hC : h.get? C = some (excClassObj nm q C N bs bm true sn sub ab col dd k0 k1 k2 k3 k5 "ValueError.__new__"))
    (he : h.get? x = some ({ cls := .ref C, dict := none, data := .fields #[.ref t0, .none, .none, .none, .bool false, .none] } : Obj)) (hu : h.get? u = some (PySem.W.kxs_mw "ValueError.__init__" x)) (hz : rest.length ≤ sizeLine)
    (hq : ∀ h' t1, (∀ b o, b ≠ x → h.get? b = some o → h'.get? b = some o) → h'.get? x = some ({ cls := .ref C, dict := none, data := .fields #[.ref t1, .none, .none, .none, .bool false, .none] } : Obj) → Q .none ⟨h', g, d, t, os⟩) :
    wpAny (model prog w) A (call (.ref u) rest) Q E ⟨h, g, d, t, os⟩ := by
  have FB := F.excBase_ValueError
  refine wpAny_call (codeAny_of_tree ?_)
  show wpAny _ A.in1 (callAny (.ref u) ⟨rest, []⟩) _ _ _
  simp only [callAny]
  refine wpAny_bind (wpAny_load hu ?_)
  simp only [PySem.W.kxs_mw, show (Value.type "method-wrapper" == Value.type "method" || Value.type "method-wrapper" == Value.type "builtin_function_or_method" || Value.type "method-wrapper" == Value.type "method-wrapper") = true by decide, if_true]
  refine PySem.W.KFB.if_so (by decide) ?_
  refine wpAny_bind (PySem.W.check_bound_init FB.toExcCallFacts hC he rfl ?_)
  refine wpAny_bind (wpAny_pure (wpAny_pure ?_))
  refine ⟨plainId_quiet FB.init.plain _, codeAny_builtin FB.initEntry ?_⟩
  exact PySem.W.exc_init_tree (cls := .ref C) (t0 := t0) (dv := none) (c2 := .none) (c3 := .none) (b4 := .bool false) he hz fun h' k e' _ => hq h' _ k e'
section
variable {X : Cx} {F : NF} {f C x : Addr} {σ : L2.St} {H : Hp} {s : Shared}
theorem super_stmt {e : Expr} {es : List Expr} {ta : TA} {p0 p1 p2 p3 p4 : Pos} {ar : Arg} {body : List Stmt} {Q : Flow → Shared → Prop} {L : Addr} (T : OexC X.K C) (S : SupI X.prog X.K X.mg C f F) (henv : X.env = PySem.W.envX F.qual F.scope L f (.ref F.c) F.cl)
    (hks : F.scope.names.lookup ("super" : Str) = some .globalImplicit) (hkc : F.scope.names.lookup ("__class__" : Str) = some .free) (hka : F.scope.names.lookup ar.arg = some .local)
    (hp : (F.params.posonlyargs ++ F.params.args).head? = some ar) (hN : X.N[0]? = some ar.arg)
    (I : Inv X [] σ H s) (h0 : σ[0]? = some (some (.ref x))) (hx : H x = some (exo x C none)) (ha : PA X (e :: es) ta) (hta : ∀ q : List V → Hp → Prop, (∀ us, us.length ≤ 1000 → q us H) → ta σ H q)
    (hq : ∀ s', Inv X [] σ H s' → Q .next s')
    (hcall : eval (.Call (.Attribute (.Call (.Name "super" p0) [] [] p1) "__init__" p2) (e :: es) [] p3) X.env = (do
      let ov ← attributeBase (.Call (.Name "super" p0) [] [] p1) "__init__" X.env (eval (.Call (.Name "super" p0) [] [] p1) X.env)
      standAt p2.atName
      let (f, first) ← holding [ov] (getMethod ov "__init__" (pure false))
      callWith p3 f first (backTo p3 (starEach (e :: es) X.env)) []))
    (hst : starEach (e :: es) X.env = (false, eval e X.env) :: starEach es X.env) (hpl : (backTo p3 (starEach es X.env)).any (·.1) = false)
    (hi : interactive X.env = false) (hs : swapsWith (.Call (.Attribute (.Call (.Name "super" p0) [] [] p1) "__init__" p2) (e :: es) [] p3) none p4.line X.env = pure false) :
    _root_.PySem.wpAt (model X.prog X.w) X.A (.func body X.env) (exec (.Expr (.Call (.Attribute (.Call (.Name "super" p0) [] [] p1) "__init__" p2) (e :: es) [] p3) p4) X.env) Q X.xe s := by
  obtain ⟨oc, od, osl, dV, kV, doc, pm, an, ct, lf⟩ := S.fn
  obtain ⟨ccl, cdd, vs, ccs, file, tf, lc, hvs, hfile⟩ := S.file
  obtain ⟨cc, hcl, cl, cld, csl, lcell⟩ := S.cell
  obtain ⟨cd, hcd⟩ := S.cls
  obtain ⟨nm, q, N, bs, bm, sn, sub, ab, col, dd, k0, k1, k2, k3, k5, hC, hbm⟩ := T.cls
  have KX := I.kIn
  have kind := I.ok.kind
  have esc : X.env.scope = F.scope := by rw [henv]
  obtain ⟨t1, hobj⟩ := exo_at I.hok hx
  obtain ⟨m, hns, hl⟩ := I.loc
  obtain ⟨u, ru, lk⟩ := hl 0 ar.arg (.ref x) hN h0 (.inl (by rw [esc]; exact hka))
  obtain rfl : u = Value.ref x := ru
  have lm : m ar.arg = some (.ref x) := by
    rcases lk with ⟨_, z⟩ | ⟨z, _⟩
    · exact z
    · have : X.env.kindOf ar.arg = some .local := by show X.env.scope.names.lookup _ = _; rw [esc]; exact hka
      rcases z with z | z <;> rw [this] at z <;> cases z
  obtain ⟨hh, g, d, t, os⟩ := s
  have hD : hh.get? C = some (excClassObj nm q C N bs bm true sn sub ab col dd k0 k1 k2 k3 k5 "ValueError.__new__") := KX _ _ hC
  obtain ⟨mb, bb1, bb2⟩ := I.mod.blt
  refine ks_wpAt_Expr_any (ks_wpAt_MethodCall (ks_wpAt_super_base (f := f) (cc := F.c) (fd := PySem.W.fnX F.name F.qual F.params F.body F.scope F.cl dV kV doc pm an (.ref F.c) ct) (ar := ar) ?h1 ?h2 (by decide) ?h3 (KX _ _ lf) rfl hp ?h4 (KX _ _ lc) rfl hvs hfile S.top ?_) hcall) hi hs
  case h1 => show X.env.scope.names.lookup _ = _; rw [esc]; exact hks
  case h2 => show X.env.scope.names.lookup _ = _; rw [esc]; exact hkc
  case h3 => rw [henv]
  case h4 => rw [henv]
  refine PySem.W.ks_loadName_global kind (by show X.env.scope.names.lookup _ = _; rw [esc]; exact hks) (Calls.loadGlobal_builtin (by rw [I.ok.glob]; exact I.mod.glob.keeps I.bk) S.mgs (by rw [I.ok.blt]; exact bb1.keeps I.bk) ((bb2 _ (by decide)).trans (by decide +kernel)) ⟨rfl, ?_⟩)
  refine wpAny_loadName_free kind (by show X.env.scope.names.lookup _ = _; rw [esc]; exact hkc) (c := cc) (v := .ref C) (by rw [henv]; show F.cl.lookup _ = _; rw [hcl]; rfl) ⟨_, KX _ _ lcell, rfl⟩ ?_
  refine wpAny_loadName_local kind (by show X.env.scope.names.lookup _ = _; rw [esc]; exact hka) hns lm ?_
  refine ks_wpAny_isType_cls hD rfl ⟨rfl, ?_⟩
  refine ks_wpAny_call_super hD rfl hobj rfl (fun c z => by cases z) (PySem.W.looks_mroIn KX S.sub) (fun h' e1 k1' => ?_)
  have J1 : Inv X [] σ H ⟨h', g, d, t, os⟩ := I.kept (t' := t) k1'
  have KX1 := J1.kIn
  have hI : PySem.W.Looks (model X.prog X.w) h' (isInstance (.ref x) (.type "ValueError")) true := (show PySem.W.InstAt h' x _ C none from ⟨k1' _ _ hobj, rfl, rfl, trivial⟩).type.andThen (PySem.W.looks_subIn KX1 S.isV)
  have xC : x ≠ C := fun z => by
    rw [z, hD] at hobj
    have z2 := Option.some.inj hobj
    have z3 := congrArg Obj.data z2
    cases z3
  have hm := S.sup
  unfold PySem.W.ks_superIn at hm
  rw [hcd] at hm
  refine PySem.W.kxs_getMethod PySem.W.kxs_ValueError e1 (PySem.W.looks_opaque KX1 S.opq) (l₀ := cd.mro) (fun A Q E s k q => wpAny_bind ((PySem.W.looks_clsIn KX1 hcd) A _ E s k (wpAny_pure q))) rfl KX1 hm hI xC (by decide) ?_
  generalize hu : h'.objs.size = u
  have J2 : Inv X [] σ H ⟨h'.push (PySem.W.kxs_mw "ValueError.__init__" x), g, d, t + 1, os⟩ := J1.kept (t' := t + 1) fun b o e => Heap.get?_push_of_some _ e
  have nu : H u = none := J1.hok.fresh (Nat.le_of_eq hu)
  have J3 : Inv X [(u, PySem.W.kxs_mw "ValueError.__init__" x)] σ H ⟨h'.push (PySem.W.kxs_mw "ValueError.__init__" x), g, d, t + 1, os⟩ := J2.pins_of fun p hp' => by
    have : p = (u, PySem.W.kxs_mw "ValueError.__init__" x) := by simpa using hp'
    subst this
    refine ⟨by rw [← hu]; exact Heap.get?_push_size _ rfl, nu, ?_, ?_, fun v z => by cases z⟩
    · intro z
      have := J1.lt
      rw [← z, ← hu] at this
      exact absurd this (Nat.lt_irrefl _)
    · exact J1.nofs (Nat.le_of_eq hu)
  show wpAny _ _ (callWith p3 (.ref u) [] (backTo p3 (starEach (e :: es) X.env)) []) _ _ _
  have step := ha.run p3 [(u, PySem.W.kxs_mw "ValueError.__init__" x)] _ σ H (fun us H1 => H1 = H ∧ us.length ≤ 1000) J3 (hta _ fun us hl => ⟨rfl, hl⟩)
  rw [hst] at step ⊢
  refine PySem.W.kxs_callWith (i := "ValueError.__init__") (x := x) (by show (false || (backTo p3 (starEach es X.env)).any (·.1)) = false; rw [hpl]; rfl) (Calls.evalArgs_plain (thn step fun us s3 hh => ?_))
  obtain ⟨ws, H1, I3, rv, rfl, hlen⟩ := hh
  have hu3 := (I3.pin (u, _) (List.mem_append_right _ (List.mem_singleton.mpr rfl))).1
  refine ⟨hu3, ?_⟩
  obtain ⟨t3, hobj3⟩ := exo_at I3.hok hx
  obtain ⟨h3, g3, d3, tk3, os3⟩ := s3
  have hus : us.length ≤ sizeLine := by
    rw [← Paired.length rv, sizeLine_eq]
    omega
  refine exc_fin (I3.kIn _ _ hC) hobj3 hu3 (by simpa using hus) fun h4 t4 k4 e4 => ?_
  have J := I3.write (t' := tk3) (x := x) (e := x) (o := exo x C none) (by rw [hx]; exact True.intro) (.inl rfl) k4 ⟨_, e4⟩ (exo_ok e4)
  have eu : upd H1 x (exo x C none) = H1 := by
    funext b
    by_cases hb : b = x
    · rw [hb, upd_same, hx]
    · rw [upd_ne hb]
  rw [eu] at J
  exact hq _ (J.pins_of fun p hp => by cases hp)
end
end DL

set_option Elab.async false
set_option linter.all false
set_option maxRecDepth 100000
set_option maxHeartbeats 4000000
namespace DL
open PySem PySem.Spec PyProof.Rows L2 NdefX

/-! ### __init__ as a def -/
theorem cells_one {K : Frag} {h : Heap} {H : Hp} {cl : List (Str × Addr)} {cc C : Addr} (hcl : cl = [(("__class__" : Str), cc)]) (hc : h.IsCell cc (some (.ref C))) (hn : H cc = none) : CellsAt cl ["__class__"] [some (.ref C)] h H := by
  subst hcl
  have only : ∀ y c, ([(("__class__" : Str), cc)] : List (Str × Addr)).lookup y = some c → y = "__class__" ∧ c = cc := fun y c e => by
    by_cases hy : y = ("__class__" : Str)
    · subst hy
      have : ([(("__class__" : Str), cc)] : List (Str × Addr)).lookup ("__class__" : Str) = some cc := rfl
      rw [this] at e
      exact ⟨rfl, (Option.some.inj e).symm⟩
    · have hf : (y == ("__class__" : Str)) = false := by simpa using hy
      simp [List.lookup, hf] at e
  refine ⟨rfl, fun y c e => ?_, fun a b c h1 h2 => (only a c h1).1.trans (only b c h2).1.symm, fun i y e => ?_⟩
  · rw [(only y c e).2]
    exact ⟨hn, _, hc⟩
  · cases i with
    | zero =>
      cases e
      refine ⟨cc, rfl, fun v hv => ?_⟩
      cases hv
      exact ⟨.ref C, rfl, hc⟩
    | succ i => simp at e
theorem fnG_init {P : Program} {w : World} {K : Frag} {mg : Str → Option Value} {base : Heap} {k : Nat} {f C : Addr} {F : NF} {fd : FuncData} {N ps : List Str} {sp : Sp} {e : Expr} {es : List Expr} {rest : List Stmt} {p0 p1 p2 p3 p4 : Pos} {ar : Arg}
    (T : OexC K C) (SI : SupI P K mg C f F) (hfd : ∃ oc od osl, K.lookup f = some ⟨oc, od, .func fd, osl⟩) (S : NScope N ps ["__class__"] F.scope)
    (hbody : F.body = .Expr (.Call (.Attribute (.Call (.Name "super" p0) [] [] p1) "__init__" p2) (e :: es) [] p3) p4 :: rest)
    (hks : F.scope.names.lookup ("super" : Str) = some .globalImplicit) (hka : F.scope.names.lookup ar.arg = some .local)
    (hp : (F.params.posonlyargs ++ F.params.args).head? = some ar) (hN : N[0]? = some ar.arg)
    (len : ∀ vs H Q E, sp vs H Q E → vs.length = ps.length)
    (t : WX → TS) (ta : TA)
    (der : ∀ (A : Around) (outer : List PySem.Env) (s : Shared) (H : Hp) (E : XK), Room k (ncx (L2.CX P w) P w K mg base N F f A outer s H E).A → (ncx (L2.CX P w) P w K mg base N F f A outer s H E).A.guards = some [] → Takes (ncx (L2.CX P w) P w K mg base N F f A outer s H E) (wOf E) →
      PSs (ncx (L2.CX P w) P w K mg base N F f A outer s H E) rest (t (wOf E)) ∧ PA (ncx (L2.CX P w) P w K mg base N F f A outer s H E) (e :: es) ta)
    (h : ∀ vs H Q E, sp vs H Q E → ∃ x us, vs = .ref x :: us ∧ H x = some (exo x C none) ∧ (∀ q : List V → Hp → Prop, (∀ us, us.length ≤ 1000 → q us H) → ta (startF N vs [some (.ref C)]) H q) ∧ t (wOf E) { nx := fun _ H' => Q .non H', rt := Q } (startF N vs [some (.ref C)]) H)
    (hcall : ∀ env : PySem.Env, eval (.Call (.Attribute (.Call (.Name "super" p0) [] [] p1) "__init__" p2) (e :: es) [] p3) env = (do
      let ov ← attributeBase (.Call (.Name "super" p0) [] [] p1) "__init__" env (eval (.Call (.Name "super" p0) [] [] p1) env)
      standAt p2.atName
      let (f, first) ← holding [ov] (getMethod ov "__init__" (pure false))
      callWith p3 f first (backTo p3 (starEach (e :: es) env)) []) := by intro env; rfl)
    (hst : ∀ env : PySem.Env, starEach (e :: es) env = (false, eval e env) :: starEach es env := by intro env; rfl) (hpl : ∀ env : PySem.Env, (backTo p3 (starEach es env)).any (·.1) = false := by intro env; rfl)
    (hi : ∀ s f, interactive (envF F f s) = false := by intro s f; rfl) (hs : ∀ s f, swapsWith (.Call (.Attribute (.Call (.Name "super" p0) [] [] p1) "__init__" p2) (e :: es) [] p3) none p4.line (envF F f s) = pure false := by intro s f; rfl) :
    FnG P w K mg base (L2.CX P w) (k + 1) f fd ps sp := by
  refine ⟨len, fun A outer s H args us vs Q E room gd e0 bd rv q => ?_⟩
  obtain ⟨oc, od, osl, lk⟩ := hfd
  obtain ⟨oc', od', osl', dV, kV, doc, pm, an, ct, lf⟩ := SI.fn
  have efd : fd = PySem.W.fnX F.name F.qual F.params F.body F.scope F.cl dV kV doc pm an (.ref F.c) ct := by
    rw [lk] at lf
    cases lf
    rfl
  subst efd
  obtain ⟨cc, hcl, cl, cld, csl, lcell⟩ := SI.cell
  have KX : K.In s.heap := e0.mod.kin.keeps fun b o h => (e0.bs b o h).1
  have lim : s.heap.NoLimit := e0.mod.nolimit.keeps fun b o h => (e0.bs b o h).1
  have hl := len _ _ _ _ q
  refine codeAny_call_function room.depth (KX _ _ lk) rfl S.co S.gen rfl (PySem.W.codeRec_of KX SI.code) (bd _ _ _ _ ?_)
  refine wpAny_newFunctionEnv S.nocell (fun ⟨n, _⟩ hy => S.par n (List.of_mem_zip hy).1) (fun h₁ hns hsb => ⟨lim.fresh _ hsb, ?_⟩) S.kind
  show codeAny _ _ (.func F.body (envF F f s.heap.objs.size)) _ _
  refine ks_codeAny_funcAt ?_
  have kp : ∀ b o, s.heap.get? b = some o → h₁.get? b = some o := fun b o e => hsb.extBut b o (Nat.ne_of_lt (Heap.lt_size e)) (Heap.get?_push_of_some _ e)
  have CA : CellsAt F.cl ["__class__"] [some (.ref C)] s.heap H := cells_one (K := K) hcl ⟨_, KX _ _ lcell, rfl⟩ (e0.bs cc _ (e0.mod.kin _ _ lcell)).2
  have I : Inv (ncx (L2.CX P w) P w K mg base N F f A outer s H E) [] (startF N vs [some (.ref C)]) H { s with heap := h₁, toks := s.toks + (ps.zip us).length } := inv_startN S room.hd e0 hl rv CA hns kp
  obtain ⟨x, us', ev, hx, hta, hq⟩ := h vs H Q E q
  obtain ⟨d1, d2⟩ := der A outer s H E (room.deeper _) gd (takes_of rfl rfl rfl rfl)
  have fin : ∀ {σ' : L2.St} {H' : Hp} {v : V} {u : Value} {s'}, Inv (ncx (L2.CX P w) P w K mg base N F f A outer s H E) [] σ' H' s' → L2.RelV v u → Q v H' → CE outer P w H s Q u s' :=
    fun {σ' H' v u s'} J rv q => ⟨v, H', J.os, J.bare, J.base, J.hok, rv, q⟩
  rw [hbody]
  refine ks_wpAt_execs_cons (super_stmt (X := ncx (L2.CX P w) P w K mg base N F f A outer s H E) (x := x) (L := s.heap.objs.size) T SI rfl hks (S.frk _ (by simp)) hka hp hN I (by rw [ev]; rfl) hx d2 hta (fun s2 J => ?_) (hcall _) (hst _) (hpl _) (hi _ _) (hs _ _))
  refine wpAt_of_wpAny ?_
  refine wpAny_mono (d1.run [] _ _ H _ J hq) (fun fl s' hs => ?_) fun e s' hs => hs
  cases fl with
  | ret u =>
    obtain ⟨v, σ', H', J, rv, q⟩ := hs
    exact fin J rv q
  | next =>
    obtain ⟨σ', H', J, q⟩ := hs
    exact fin (v := V.non) (u := Value.none) J rfl q
  | brk =>
    obtain ⟨_, _, _, q⟩ := hs
    exact False.elim q
  | cont =>
    obtain ⟨_, _, _, q⟩ := hs
    exact False.elim q
end DL

set_option Elab.async false
set_option linter.all false
set_option maxRecDepth 100000
set_option maxHeartbeats 4000000
namespace DL
open PySem PySem.Spec PyProof.Rows L2 NdefX

/-! ### raise C(e, ..), C's __init__: super().__init__(..), self.f = frozen(f), .. -/
def tIni (K : Frag) (W : WX) (spf : SpD) : List (Str × Nat) → TS
  | [] => tNext
  | [(f, i)] => tOst K f (tVar 0) (tCallW (toSp K spf) (WE W) (tCons (tVar i) tNil))
  | (f, i) :: p :: r => tSeq (tOst K f (tVar 0) (tCallW (toSp K spf) (WE W) (tCons (tVar i) tNil))) (tIni K W spf (p :: r))
/-- frozen makes d' of d -/
def Frz1 (spf : SpD) (γ : Ga) (d d' : D) : Prop := spf [d] γ (fun x γ' => x = d' ∧ γ' = γ) noX
def FrzL (spf : SpD) (γ : Ga) : List D → List D → Prop
  | [], [] => True
  | d :: ds, e :: es => Frz1 spf γ d e ∧ FrzL spf γ ds es
  | _, _ => False
structure Mid (K : Frag) (C x : Addr) (α1 : Al) (H1 : Hp) (γ : Ga) (α : Al) (H : Hp) (fs : List (Str × V)) (ds : List D) : Prop where
  ext : Ext α1 H1 α H
  ga : GaOk K H α γ
  hx : x ∈ α.x
  st : (fs = [] ∧ H x = some (exo x C none)) ∨ ∃ dx, dx ∈ α.x ∧ dx ≠ x ∧ H x = some (exo x C (some dx)) ∧ H dx = some (exd dx fs) ∧ H1 dx = none
  rl : RpL K H α (fs.map (·.2)) ds
section
variable {K : Frag} {C x : Addr} {α1 α : Al} {H1 H : Hp} {γ : Ga} {spf : SpD} {σ : L2.St}
theorem ext_x {α α' : Al} {H H' : Hp} (e : Ext α H α' H') {a : Addr} (h : a ∈ α.x) : a ∈ α'.x := by
  obtain ⟨δ, e1, _⟩ := e.xx
  rw [e1]
  exact List.mem_append_right _ h
theorem ini_step {W : WX} {f : Str} {i : Nat} {fs : List (Str × V)} {ds : List D} {v : V} {d d' : D} {D' : Ends} (T : OexC K C) (no : PySem.W.findIn K (.ref C) f = some none) (g1 : GaOk K H1 α1 γ) (h1x : H1 x = none) (M : Mid K C x α1 H1 γ α H fs ds) (hl : fs.length ≤ 900)
    (h0 : σ[0]? = some (some (.ref x))) (hi : σ[i]? = some (some v)) (rv : Rp K H α v d) (fz : Frz1 spf γ d d')
    (hq : ∀ α' H' v', Mid K C x α1 H1 γ α' H' ((f, v') :: fs) (d' :: ds) → ExtW α H α' H' → D'.nx σ H') :
    tOst K f (tVar 0) (tCallW (toSp K spf) (WE W) (tCons (tVar i) tNil)) D' σ H := by
  refine ⟨v, hi, ?_⟩
  show toSp K spf ([v] ++ []) H _ _
  refine ⟨α, [d], γ, _, noX, .cons rv .nil, M.ga, fz, ?_, xv_no⟩
  rintro v2 H2 α2 d2 γ2 ⟨rfl, rfl⟩ e2 g2 r2
  refine ⟨.ref x, h0, x, C, rfl, T, no, ?_⟩
  have x2 := ext_x e2 M.hx
  have hxh : x ∉ α2.h := fun z => g2.nd.2.2 x z x2
  rcases M.st with ⟨rfl, hx⟩ | ⟨dx, hdx, ndx, hx, hd, h1d⟩
  · have hx2 := e2.keepx _ _ M.hx hx
    refine .inl ⟨hx2, fun dx hdx ndx => ?_⟩
    have e3 := ext_hid0 g2 (o := exd dx [(f, v2)]) hdx
    have g3 := ga_hid0 g2 (o := exd dx [(f, v2)]) hdx
    have ew := ext_setW0 g3 (o := exo x C (some dx)) (.inr (List.mem_cons_of_mem _ x2) : x ∈ α2.hid dx)
    have ee := ext_hset0 (α := α2.hid dx) (H := upd H2 dx (exd dx [(f, v2)])) (o := exo x C (some dx)) g1 ((M.ext.trans e2).trans e3) h1x
    refine hq (α2.hid dx) _ v2 ⟨ee, ga_hset0 g3 (List.mem_cons_of_mem _ x2), List.mem_cons_of_mem _ x2, .inr ⟨dx, List.mem_cons_self, ndx, upd_same, by rw [upd_ne ndx]; exact upd_same, g2.noneB (M.ext.trans e2) hdx⟩, ?_⟩ (e2.toExtW.trans (e3.toExtW.trans ew))
    have r := M.rl
    cases r
    exact .cons (Rp.monoW (e3.toExtW.trans ew) _ _ r2) .nil
  · have hx2 := e2.keepx _ _ M.hx hx
    have hd2 := e2.keepx _ _ hdx hd
    have dx2 := ext_x e2 hdx
    refine .inr ⟨dx, fs, hx2, hd2, hl, ?_⟩
    have ew := ext_setW0 g2 (o := exd dx ((f, v2) :: fs)) (.inr dx2 : dx ∈ α2)
    have ee := ext_hset0 (o := exd dx ((f, v2) :: fs)) g1 (M.ext.trans e2) h1d
    refine hq α2 _ v2 ⟨ee, ga_hset0 g2 dx2, x2, .inr ⟨dx, dx2, ndx, by rw [upd_ne (Ne.symm ndx)]; exact hx2, upd_same, h1d⟩, ?_⟩ (e2.toExtW.trans ew)
    exact .cons (Rp.monoW ew _ _ r2) (RpL.monoW (e2.toExtW.trans ew) _ _ M.rl)
def IniArgs (K : Frag) (H : Hp) (α : Al) (σ : L2.St) (spf : SpD) (γ : Ga) : List (Str × Nat) → List D → Prop
  | [], [] => True
  | (_, i) :: r, d' :: ds' => (∃ v d, σ[i]? = some (some v) ∧ Rp K H α v d ∧ Frz1 spf γ d d') ∧ IniArgs K H α σ spf γ r ds'
  | _, _ => False
theorem IniArgs.mono {α' : Al} {H' : Hp} (e : ExtW α H α' H') : ∀ {l : List (Str × Nat)} {es : List D}, IniArgs K H α σ spf γ l es → IniArgs K H' α' σ spf γ l es
  | [], [], _ => trivial
  | _ :: _, _ :: _, ⟨⟨v, d, h1, h2, h3⟩, h4⟩ => ⟨⟨v, d, h1, Rp.monoW e _ _ h2, h3⟩, IniArgs.mono e h4⟩
theorem ini_run {W : WX} {D' : Ends} (T : OexC K C) (g1 : GaOk K H1 α1 γ) (h1x : H1 x = none) (h0 : σ[0]? = some (some (.ref x))) :
    ∀ (l : List (Str × Nat)) (es : List D) (fs : List (Str × V)) (ds : List D) (α : Al) (H : Hp), Mid K C x α1 H1 γ α H fs ds → IniArgs K H α σ spf γ l es → fs.length + l.length ≤ 900 → (∀ p ∈ l, PySem.W.findIn K (.ref C) p.1 = some none) →
      (∀ α' H' fs', Mid K C x α1 H1 γ α' H' fs' (es.reverse ++ ds) → fs'.map (·.1) = (l.map (·.1)).reverse ++ fs.map (·.1) → D'.nx σ H') → tIni K W spf l D' σ H
  | [], [], fs, ds, α, H, M, _, _, _, hq => hq α H fs M rfl
  | [(f, i)], [e], fs, ds, α, H, M, ⟨⟨v, d, h1, h2, h3⟩, _⟩, hl, no, hq => by
    refine ini_step T (no (f, i) (by simp)) g1 h1x M (by simp at hl; omega) h0 h1 h2 h3 fun α' H' v' M' _ => ?_
    exact hq α' H' _ M' rfl
  | (f, i) :: p :: r, e :: es, fs, ds, α, H, M, ⟨⟨v, d, h1, h2, h3⟩, h4⟩, hl, no, hq => by
    show tOst K f (tVar 0) _ { D' with nx := tIni K W spf (p :: r) D' } σ H
    refine ini_step T (no (f, i) (by simp)) g1 h1x M (by simp at hl; omega) h0 h1 h2 h3 fun α' H' v' M' ew => ?_
    refine ini_run T g1 h1x h0 (p :: r) es _ _ α' H' M' (h4.mono ew) (by simp at hl ⊢; omega) (fun q hq => no q (List.mem_cons_of_mem _ hq)) fun α2 H2 fs2 M2 hn => ?_
    refine hq α2 H2 fs2 ?_ ?_
    · rw [List.reverse_cons, List.append_assoc]
      exact M2
    · rw [hn]
      simp
theorem mid_end {dx : Addr} {fs : List (Str × V)} {ds : List D} (g1 : GaOk K H1 α1 γ) (M : Mid K C x α1 H1 γ α H fs ds) (h1x : H1 x = none) (hdx : dx ∈ α.x) (ndx : dx ≠ x) (h1d : H1 dx = none) :
    Ext α1 H1 ((α.un x).un dx) (upd (del H x) dx (.xd fs)) ∧ GaOk K (upd (del H x) dx (.xd fs)) ((α.un x).un dx) γ ∧ dx ∉ (α.un x).un dx ∧ RpL K (upd (del H x) dx (.xd fs)) ((α.un x).un dx) (fs.map (·.2)) ds := by
  have keep : ∀ b o, b ≠ x → b ≠ dx → H b = some o → upd (del H x) dx (.xd fs) b = some o := fun b o h1 h2 h => by rw [upd_ne h2, del_ne h1]; exact h
  have inA : ∀ {b}, b ∉ α → b ≠ x ∧ b ≠ dx := fun {b} h => ⟨fun z => h (.inr (z ▸ M.hx)), fun z => h (.inr (z ▸ hdx))⟩
  have ndA := M.ga.nd
  have nd2 : ((α.un x).un dx).Nd := ⟨ndA.1, (ndA.2.1.sublist (List.filter_sublist ..)).sublist (List.filter_sublist ..), fun a ha hm => ndA.2.2 a ha (un_x a (un_x (α := α.un x) a hm))⟩
  have ew : ExtW α H α (upd (del H x) dx (.xd fs)) := ⟨⟨[], by simp, by simp⟩, ndA, ⟨[], by simp, by simp⟩, fun b o hb h => keep b o (inA hb).1 (inA hb).2 h⟩
  have sub : ∀ a ∈ ((α.un x).un dx).x, a ∈ α.x := fun a ha => un_x a (un_x (α := α.un x) a ha)
  have nx : ∀ a ∈ ((α.un x).un dx).x, a ≠ x ∧ a ≠ dx := fun a ha => ⟨of_decide_eq_true (List.mem_filter.mp (un_x (α := α.un x) a ha)).2, of_decide_eq_true (List.mem_filter.mp ha).2⟩
  refine ⟨?_, ?_, ?_, ?_⟩
  · obtain ⟨δ, e1, f1⟩ := M.ext.xx
    refine ⟨⟨M.ext.al, nd2, ⟨(δ.filter fun a => decide (a ≠ x)).filter fun a => decide (a ≠ dx), ?_, fun b hb => f1 b (List.mem_filter.mp (List.mem_filter.mp hb).1).1⟩, fun a o ha h => ?_⟩, fun a o ha h => ?_⟩
    · have nox : ∀ a ∈ α1.x, a ≠ x ∧ a ≠ dx := fun a ha => by
        obtain ⟨o, ho⟩ := g1.xs a ha
        exact ⟨fun z => (by rw [z, h1x] at ho; cases ho), fun z => (by rw [z, h1d] at ho; cases ho)⟩
      show (α.x.filter _).filter _ = _
      rw [e1, List.filter_append, List.filter_append]
      congr 1
      have f1 : (α1.x.filter fun a => decide (a ≠ x)) = α1.x := List.filter_eq_self.mpr fun a ha => decide_eq_true (nox a ha).1
      have f2 : (α1.x.filter fun a => decide (a ≠ dx)) = α1.x := List.filter_eq_self.mpr fun a ha => decide_eq_true (nox a ha).2
      rw [f1, f2]
    · exact keep a o (fun z => (by rw [z, h1x] at h; cases h)) (fun z => (by rw [z, h1d] at h; cases h)) (M.ext.keep a o ha h)
    · exact keep a o (fun z => (by rw [z, h1x] at h; cases h)) (fun z => (by rw [z, h1d] at h; cases h)) (M.ext.keepx a o ha h)
  · refine ⟨nd2, M.ga.len, fun k a m h1 h2 => ?_, fun a ha => ?_⟩
    · have := M.ga.at_ k a m h1 h2
      have hah : a ∈ α.h := List.mem_of_getElem? h1
      refine MOk.shw (α := α) (α' := (α.un x).un dx) rfl sub (this.monoW ew fun u h => keep a u (fun z => ndA.2.2 a hah (z ▸ M.hx)) (fun z => ndA.2.2 a hah (z ▸ hdx)) h)
    · obtain ⟨o, ho⟩ := M.ga.xs a (sub a ha)
      exact ⟨o, keep a o (nx a ha).1 (nx a ha).2 ho⟩
  · rintro (z | z)
    · exact ndA.2.2 dx z hdx
    · exact (nx dx z).2 rfl
  · exact RpL.shw (α := α) (α' := (α.un x).un dx) rfl sub _ _ (RpL.monoW ew _ _ M.rl)
end
end DL

set_option Elab.async false
set_option linter.all false
set_option maxRecDepth 100000
set_option maxHeartbeats 4000000
namespace DL
open PySem PySem.Spec PyProof.Rows L2 NdefX

def spIni (K : Frag) (C : Addr) (spf : SpD) (names : List Str) : Sp := fun vs H Q _ => ∃ x us α1 H1 α ds es γ, vs = .ref x :: us ∧ us.length = names.length ∧ GaOk K H1 α1 γ ∧ H1 x = none ∧ H x = some (exo x C none) ∧ Mid K C x α1 H1 γ α H [] [] ∧ RpL K H α us ds ∧ FrzL spf γ ds es ∧ names.length ≤ 20 ∧
  ∀ α' H' fs', Mid K C x α1 H1 γ α' H' fs' es.reverse → fs'.map (·.1) = names.reverse → Q .non H'
def tVars : Nat → Nat → TA
  | _, 0 => tNil
  | i, n + 1 => tCons (tVar i) (tVars (i + 1) n)
theorem tVars_run {σ : L2.St} {H : Hp} : ∀ (n i : Nat) (q : List V → Hp → Prop), (∀ j, j < n → ∃ v, σ[i + j]? = some (some v)) → (∀ us, us.length = n → q us H) → tVars i n σ H q
  | 0, _, q, _, h => h [] rfl
  | n + 1, i, q, hs, h => by
    obtain ⟨v, hv⟩ := hs 0 (Nat.succ_pos n)
    refine ⟨v, hv, tVars_run n (i + 1) _ (fun j hj => ?_) fun us hu => h (v :: us) (by simp [hu])⟩
    obtain ⟨v2, h2⟩ := hs (j + 1) (Nat.succ_lt_succ hj)
    exact ⟨v2, by rw [← h2]; congr 1; omega⟩
theorem iniArgs_of {K : Frag} {H : Hp} {α : Al} {σ : L2.St} {spf : SpD} {γ : Ga} : ∀ (names : List Str) (us : List V) (ds es : List D) (k : Nat), us.length = names.length → RpL K H α us ds → FrzL spf γ ds es → (∀ i v, us[i]? = some v → σ[k + i]? = some (some v)) →
    IniArgs K H α σ spf γ (names.zipIdx k) es
  | [], [], _, es, k, _, r, f, _ => by
    cases r
    cases es with
    | nil => exact True.intro
    | cons _ _ => exact f.elim
  | n :: names, u :: us, _, es, k, hl, r, f, hs => by
    cases r with
    | cons r1 r2 =>
      cases es with
      | nil => exact f.elim
      | cons e es =>
        refine ⟨⟨u, _, hs 0 u rfl, r1, f.1⟩, iniArgs_of names us _ es (k + 1) (by simpa using hl) r2 f.2 fun i v h => ?_⟩
        rw [← hs (i + 1) v (by simpa using h)]
        congr 1; omega
  | [], _ :: _, _, _, _, hl, _, _, _ => by simp at hl
  | _ :: _, [], _, _, _, hl, _, _, _ => by simp at hl
theorem fnG_exc {P : Program} {w : World} {K : Frag} {mg : Str → Option Value} {base : Heap} {k : Nat} {f C : Addr} {F : NF} {fd : FuncData} {N ps : List Str} {spf : SpD} {names : List Str} {e : Expr} {es : List Expr} {rest : List Stmt} {p0 p1 p2 p3 p4 : Pos} {ar : Arg}
    (T : OexC K C) (SI : SupI P K mg C f F) (hfd : ∃ oc od osl, K.lookup f = some ⟨oc, od, .func fd, osl⟩) (S : NScope N ps ["__class__"] F.scope)
    (hbody : F.body = .Expr (.Call (.Attribute (.Call (.Name "super" p0) [] [] p1) "__init__" p2) (e :: es) [] p3) p4 :: rest)
    (hks : F.scope.names.lookup ("super" : Str) = some .globalImplicit) (hka : F.scope.names.lookup ar.arg = some .local)
    (hp : (F.params.posonlyargs ++ F.params.args).head? = some ar) (hN : N[0]? = some ar.arg) (hps : ps.length = names.length + 1)
    (no : ∀ g ∈ names, PySem.W.findIn K (.ref C) g = some none)
    (der : ∀ (A : Around) (outer : List PySem.Env) (s : Shared) (H : Hp) (E : XK), Room k (ncx (L2.CX P w) P w K mg base N F f A outer s H E).A → (ncx (L2.CX P w) P w K mg base N F f A outer s H E).A.guards = some [] → Takes (ncx (L2.CX P w) P w K mg base N F f A outer s H E) (wOf E) →
      PSs (ncx (L2.CX P w) P w K mg base N F f A outer s H E) rest (tIni K (wOf E) spf (names.zipIdx 1)) ∧ PA (ncx (L2.CX P w) P w K mg base N F f A outer s H E) (e :: es) (tVars 1 names.length))
    (hcall : ∀ env : PySem.Env, eval (.Call (.Attribute (.Call (.Name "super" p0) [] [] p1) "__init__" p2) (e :: es) [] p3) env = (do
      let ov ← attributeBase (.Call (.Name "super" p0) [] [] p1) "__init__" env (eval (.Call (.Name "super" p0) [] [] p1) env)
      standAt p2.atName
      let (f, first) ← holding [ov] (getMethod ov "__init__" (pure false))
      callWith p3 f first (backTo p3 (starEach (e :: es) env)) []) := by intro env; rfl)
    (hst : ∀ env : PySem.Env, starEach (e :: es) env = (false, eval e env) :: starEach es env := by intro env; rfl) (hpl : ∀ env : PySem.Env, (backTo p3 (starEach es env)).any (·.1) = false := by intro env; rfl)
    (hi : ∀ s f, interactive (envF F f s) = false := by intro s f; rfl) (hs : ∀ s f, swapsWith (.Call (.Attribute (.Call (.Name "super" p0) [] [] p1) "__init__" p2) (e :: es) [] p3) none p4.line (envF F f s) = pure false := by intro s f; rfl) :
    FnG P w K mg base (L2.CX P w) (k + 1) f fd ps (spIni K C spf names) := by
  refine fnG_init T SI hfd S hbody hks hka hp hN ?_ (fun W => tIni K W spf (names.zipIdx 1)) (tVars 1 names.length) der ?_ hcall hst hpl hi hs
  · rintro vs H Q E ⟨x, us, α1, H1, α, ds, es', γ, rfl, hl, _⟩
    rw [List.length_cons, hl, hps]
  · rintro vs H Q E ⟨x, us, α1, H1, α, ds, es', γ, rfl, hl, g1, h1x, hx, M, rl, fz, hn, hq⟩
    have hsl : ∀ i v, us[i]? = some v → (startF N (.ref x :: us) [some (.ref C)])[1 + i]? = some (some v) := fun i v h => by
      unfold startF
      have hlt : i < us.length := (List.getElem?_eq_some_iff.mp h).1
      rw [List.getElem?_append_left (by simp; omega), List.getElem?_map, Nat.add_comm, List.getElem?_cons_succ, h]
      rfl
    refine ⟨x, us, rfl, hx, fun q hq => tVars_run _ _ q (fun j hj => ?_) fun us hu => hq us (by omega), ?_⟩
    · have hj' : j < us.length := by omega
      exact ⟨us[j], hsl j _ (List.getElem?_eq_getElem hj')⟩
    · refine ini_run T g1 h1x rfl (names.zipIdx 1) es' [] [] α H M (iniArgs_of names us ds es' 1 hl rl fz hsl) (by simp; omega) (fun p hp => no p.1 ?_) fun α' H' fs' M' hn' => ?_
      · obtain ⟨i, hi⟩ := List.mem_iff_getElem?.mp hp
        rw [List.getElem?_zipIdx] at hi
        cases h : names[i]? with
        | none => rw [h] at hi; cases hi
        | some y =>
          rw [h] at hi
          cases hi
          exact List.mem_of_getElem? h
      · refine hq α' H' fs' (by simpa using M') ?_
        rw [hn']
        simp [List.zipIdx_map_fst]
section
variable {X : Cx} {e : Expr} {es : List Expr} {ta : TA} {p pos : Pos}
theorem pmk_exc {x : Str} {C fI : Addr} {k : Nat} {fd : FuncData} {ps : List Str} {sp : Sp} (T : OexC X.K C) (iC : PySem.W.findIn X.K (.ref C) "__init__" = some (some (.ref fI))) (tI : PySem.W.typeIn X.K (.ref fI) = some (.type "function"))
    (F1 : FnG X.prog X.w X.K X.mg X.base (L2.CX X.prog X.w) k fI fd ps sp) (hr : Room (k + 1) X.A) (gd : X.A.guards = some []) (hb : Binds X.K fd ps []) (hg : Gl X x) (hm : X.mg x = some (.ref C)) (ha : PA X (e :: es) ta)
    (hdb : (x == ("__debug__" : Str)) = false := by decide) (he : starEach (e :: es) X.env = (false, eval e X.env) :: starEach es X.env := by rfl) (hpl : (backTo pos (starEach es X.env)).any (·.1) = false := by rfl) :
    PMk X (.Call (.Name x p) (e :: es) [] pos) (tMkO C sp [] ta) := by
  intro pins s σ H Q I h
  obtain ⟨nm, q, N, bs, bm, sn, sub, ab, col, dd, k0, k1, k2, k3, k5, hC, hbm⟩ := T.cls
  refine wpAny_Call_Name_kw (ld_glob I hg hm ?_ hdb)
  refine PySem.W.callWith_K (h₀ := X.base) I.ok.mod.kin T.kC (thn (ha.run pos pins s σ H _ I h) fun us s1 ⟨vs, H1, I1, r1, hz, q1⟩ => ⟨I1.kIn, ?_⟩) he hpl
  show wpAny _ _ (call (.ref C) us) _ _ _
  obtain ⟨hp, g, dr, tk, os⟩ := s1
  have hsz : hp.objs.size ≤ hp.objs.size + 1 := Nat.le_succ _
  have hn : H1 (hp.objs.size + 1) = none := I1.hok.fresh hsz
  have hq := q1 (hp.objs.size + 1) hn
  rw [List.append_nil] at hq
  have kk : ∀ b o, hp.get? b = some o → ((hp.push (PySem.W.kdv_tup us)).push (PySem.HandSPX.excO C hp.objs.size)).get? b = some o := fun b o e => Heap.get?_push_of_some _ (Heap.get?_push_of_some _ e)
  have hget : ((hp.push (PySem.W.kdv_tup us)).push (PySem.HandSPX.excO C hp.objs.size)).get? (hp.objs.size + 1) = some (PySem.HandSPX.excO C hp.objs.size) := by heap_get
  have I2 : Inv X pins σ (upd H1 (hp.objs.size + 1) (exo (hp.objs.size + 1) C none)) ⟨(hp.push (PySem.W.kdv_tup us)).push (PySem.HandSPX.excO C hp.objs.size), g, dr, tk, os⟩ :=
    I1.laid (t' := tk) (a := hp.objs.size + 1) (o := exo (hp.objs.size + 1) C none) (h' := (hp.push (PySem.W.kdv_tup us)).push (PySem.HandSPX.excO C hp.objs.size)) kk hsz (exo_ok hget)
  have r2 : Vals (V.ref (hp.objs.size + 1) :: vs) (Value.ref (hp.objs.size + 1) :: us) := .cons rfl r1
  have hl : (Value.ref (hp.objs.size + 1) :: us ++ []).length = ps.length := by
    have e := r2.length
    rw [F1.len _ _ _ _ hq] at e
    rw [List.append_nil]
    exact e.symm
  have hus : us.length ≤ sizeLine := by
    rw [← Paired.length r1, sizeLine_eq]
    omega
  have bd := hb _ (Value.ref (hp.objs.size + 1) :: us) I2.kIn hl
  rw [List.append_nil] at bd
  refine wpAny_call (PySem.HandSPX.call_own F.excBase_ValueError (fun Y => PySem.HandSPX.refsVE_contains Y bm hbm) (I1.kIn _ _ hC) (PySem.W.looks_findIn I1.kIn iC) (fun self => PySem.W.bind_fn I1.kIn self tI) hus
    (codeAny_mono (F1.run _ X.stack _ _ ⟨Value.ref (hp.objs.size + 1) :: us, []⟩ (Value.ref (hp.objs.size + 1) :: us) _ _ (fun _ _ _ => False) (hr.make C us []) (by simp [Around.under, gd, Code.guards, Code.isGuard, pushGuards, guardIds]) (I2.env0.make C us []) bd r2 hq) fun r s' hq' => ?_))
  cases r with
  | error er =>
    obtain ⟨_, _, _, _, _, _, _, _, _, _, _, _, z⟩ := hq'
    exact z.elim
  | ok fl =>
    cases fl with
    | ret u =>
      obtain ⟨v, H2, os2, bare2, un2, hok2, rv, ev, d, fs, ea, ed, hd1, q2⟩ := hq'
      subst ev
      obtain ⟨h2, g2, d2, t2, os'⟩ := s'
      exact ⟨rv, mk_end (raises_own T.exC T.tyC) I1 hsz kk un2 hok2 os2 bare2 ea ed hd1 q2⟩
    | next => exact False.elim hq'
    | brk => exact False.elim hq'
    | cont => exact False.elim hq'
end
/-- raise C(e, ..) -/
def tRaise (K : Frag) (W : WX) (C : Addr) (spf : SpD) (names : List Str) (ta : TA) : TS := fun _ σ H => tMkO C (spIni K C spf names) [] ta σ H fun cls d H' => W cls d σ H'
theorem ds_raise {K : KX} {n : Nat} {ρ : Env} {γ : Ga} {B : DEnds} {C : Addr} {spf : SpD} {names : List Str} {ta : TA} (T : OexC K.f C) (h : dA K ta ρ γ fun ds γ1 => ds.length = names.length ∧ 0 < names.length ∧ names.length ≤ 20 ∧ ∃ es, FrzL spf γ1 ds es ∧ K.e ρ C names.reverse es.reverse γ1) :
    dS K n (tRaise K.f K.E C spf names ta) ρ γ B := fun σ H α α0 H0 Dn hn e r g fe =>
  h σ H α _ r g fun vs H1 α1 ds γ1 ⟨hl, hp, hm, es, fz, he⟩ e1 g1 rl => by
    have hvl : vs.length = names.length := by rw [rl.length, hl]
    refine ⟨by omega, fun a ha => ?_⟩
    have ex := ext_hid0 g1.toGaOk (o := exo a C none) ha
    have gx := ga_hid0 g1.toGaOk (o := exo a C none) ha
    refine ⟨a, vs, α1, H1, α1.hid a, ds, es, γ1, by rw [List.append_nil], hvl, g1.toGaOk, ha, upd_same, ⟨ex, gx, List.mem_cons_self, .inl ⟨rfl, upd_same⟩, .nil⟩, RpL.mono ex _ _ rl, fz, hm, fun α' H' fs' M hnm => ⟨rfl, ?_⟩⟩
    rcases M.st with ⟨rfl, _⟩ | ⟨dx, hdx, ndx, hx, hd, h1d⟩
    · have := congrArg List.length hnm
      simp at this
      omega
    · obtain ⟨m1, m2, m3, m4⟩ := mid_end g1.toGaOk M ha hdx ndx h1d
      refine ⟨dx, fs', hx, hd, h1d, ?_⟩
      exact g1.exc σ ρ C dx fs' _ γ1 _ _ (by rw [hnm]; exact he) ((r.mono e1).mono m1) m1 m2 upd_same m3 m4
end DL

set_option Elab.async false
set_option linter.all false
set_option maxRecDepth 100000
set_option maxHeartbeats 4000000
namespace DL
open PySem PySem.Spec PyProof.Rows L2

/-! ### try .. except C [as n]: suite -/
/-- n.f in the suite, for any class -/
def tXfG (K : Frag) (a : Addr) (cls : Value) (d : Option Addr) (f : Str) (te : TE) : TE := fun σ H Q => te σ H fun x H1 => x = .ref a ∧ ∃ C, cls = .ref C ∧ XfC K C ∧ PySem.W.findIn K (.ref C) f = some none ∧ ∃ (dd : Addr) (fs : List (Str × V)) (v : V), d = some dd ∧ H1 dd = some (.xd fs) ∧ fs.lookup f = some v ∧ Q v H1
theorem pe_xfG {X : Cx} {a : Addr} {oe : Obj} {cls : Value} {d : Option Addr} {pn : List (Addr × Obj)} {e : Expr} {te : TE} {pos : Pos} {n : Str}
    (hz : Zc cls d oe) (hf : ∃ vs, oe.data = .fields vs) (he : PE (X.suite a ((a, oe) :: pn)) e te) (hb : attributeBase e n X.env (eval e X.env) = eval e X.env := by rfl) :
    PE (X.suite a ((a, oe) :: pn)) (.Attribute e n pos) (tXfG X.K a cls d n te) := by
  refine ⟨fun pins s σ H Q I h => ?_⟩
  refine attr_of hb (thn (he.run pins s σ H _ I h) fun u s1 hh => ?_)
  obtain ⟨x, H1, I1, rx, ex, C, ec, T, hno, dd, fs, v, ed, ea, l, q⟩ := hh
  subst ex
  obtain rfl : u = Value.ref a := rx
  subst ec
  subst ed
  obtain ⟨ha, _⟩ := I1.pin (a, oe) (List.mem_append_left _ List.mem_cons_self)
  obtain ⟨vs, hd⟩ := hf
  have hx : ObjOk X.prog X.w H1 s1.heap dd (.xd fs) := I1.hok dd _ ea
  obtain ⟨mA, hns, hr⟩ := hx
  obtain ⟨od, ho, hl⟩ := lookIn_ns hns
  obtain ⟨u, hu, ru⟩ := RelO.some_of (v := v) (o := mA n) (by rw [← l]; exact hr n)
  have J : PySem.W.InstAt s1.heap a oe C (some od) := ⟨ha, hz.1, by unfold PySem.W.notCls; rw [hd] <;> rfl, by rw [hz.2]; exact ho⟩
  exact HandSPX.exc_get I1.kIn J T.ga T.gg T.exC (PySem.W.findObj_own T.hdC hno rfl (by rw [hl, hu])) (handed_of ru) ⟨v, H1, I1.tok _, ru, q⟩
/-- the class of an exception that was caught, and its fields -/
structure XOk (K : Frag) (C : Addr) (ns : List Str) : Prop where
  xf : XfC K C
  no : ∀ f ∈ ns, PySem.W.findIn K (.ref C) f = some none
section
variable {K : KX} {n : Nat} {ρ : Env} {γ : Ga} {B : DEnds} {Q : QD}
theorem de_xf {a dd C : Addr} {f : Str} {te : TE} (h : dE K te ρ γ fun d γ1 => ∃ ns vs j x, d = .exc a dd C ns vs ∧ XfC K.f C ∧ PySem.W.findIn K.f (.ref C) f = some none ∧ fix ns f = some j ∧ vs[j]? = some x ∧ Q x γ1) : dE K (tXfG K.f a (.ref C) (some dd) f te) ρ γ Q := fun σ H α q r g w =>
  h σ H α _ r g fun v H1 α1 d γ1 ⟨ns, vs, j, x, ed, hT, hno, hj, hx, hq⟩ e1 g1 r1 => by
    subst ed
    cases r1 with
    | @exc _ _ _ fs _ hd1 hd2 hv =>
      obtain ⟨u, h1, h2⟩ := lookup_fix hj
      obtain ⟨u', h3, h4⟩ := hv.get hx
      rw [h2] at h3
      cases h3
      exact ⟨rfl, C, rfl, hT, hno, dd, fs, u, rfl, hd2, h1, w u H1 α1 x γ1 hq e1 g1 h4⟩
def tTryAs (K : Frag) (W : WX) (c : Value) (i : Nat) (tb : WX → TS) (ts : Addr → Value → Option Addr → TS) : TS := fun D σ H => tb (wAs K c i ts W D) D σ H
def tTryOnly (K : Frag) (W : WX) (c : Value) (tb : WX → TS) (ts : Addr → Value → Option Addr → TS) : TS := fun D σ H => tb (wOnly K c ts W D) D σ H
theorem ps_tryAsD {X : Cx} {x n : Str} {c : Value} {i : Nat} {body suite : List Stmt} {b₀ : Stmt} {np pos pos' : Pos} {tb : WX → TS} {ts : Addr → Value → Option Addr → TS} {Wout : WX} (hs : X.stack = X.env :: X.outer) (hf : X.env.frame = some X.env.locals) (hN : X.N.Nodup) (hi : X.N[i]? = some n) (hln : X.env.kindOf n = some .local) (hc : Names X x c) (tk : Takes X Wout)
    (hb : ∀ (W : WX) (pn : List (Addr × Obj)) (xe : Value → Shared → Prop), Takes (X.tr pn xe) W → PassesOwn (model X.prog X.w) X.A X.env xe → PSs (X.tr pn xe) body (tb W))
    (hsu : ∀ (a : Addr) (oe : Obj) (cls : Value) (d : Option Addr) (pn : List (Addr × Obj)), Zc cls d oe → (∃ vs, oe.data = .fields vs) → PSs (X.suite a ((a, oe) :: pn)) (b₀ :: suite) (ts a cls d)) :
    PS X (.Try body [.ExceptHandler (some (.Name x np)) (some n) (b₀ :: suite) pos'] [] [] pos) (tTryAs X.K Wout c i tb ts) := ps_try_as hs hf hN hi hln hc tk hb hsu
theorem ps_tryOnlyD {X : Cx} {x : Str} {c : Value} {body suite : List Stmt} {b₀ : Stmt} {np pos pos' : Pos} {tb : WX → TS} {ts : Addr → Value → Option Addr → TS} {Wout : WX} (hs : X.stack = X.env :: X.outer) (hf : X.env.frame = some X.env.locals) (hc : Names X x c) (tk : Takes X Wout)
    (hb : ∀ (W : WX) (pn : List (Addr × Obj)) (xe : Value → Shared → Prop), Takes (X.tr pn xe) W → PassesOwn (model X.prog X.w) X.A X.env xe → PSs (X.tr pn xe) body (tb W))
    (hsu : ∀ (a : Addr) (oe : Obj) (cls : Value) (d : Option Addr) (pn : List (Addr × Obj)), Zc cls d oe → (∃ vs, oe.data = .fields vs) → PSs (X.suite a ((a, oe) :: pn)) (b₀ :: suite) (ts a cls d)) :
    PS X (.Try body [.ExceptHandler (some (.Name x np)) none (b₀ :: suite) pos'] [] [] pos) (tTryOnly X.K Wout c tb ts) := ps_try_only hs hf hc tk hb hsu
theorem RpE.setN {K : Frag} {α : Al} {H : Hp} {σ : L2.St} {ρ : Env} (r : RpE K H α σ ρ) (i : Nat) : RpE K H α (σ.set i none) (ρ.set i none) := by
  refine ⟨by simp [r.1], fun j e hj => ?_⟩
  by_cases hij : i = j
  · subst hij
    by_cases hl : i < ρ.length
    · rw [List.getElem?_set_self hl] at hj; cases hj
    · rw [List.getElem?_eq_none (by simpa using hl)] at hj; cases hj
  · rw [List.getElem?_set_ne hij] at hj
    obtain ⟨w, h1, h2⟩ := r.2 j e hj
    exact ⟨w, by rw [List.getElem?_set_ne hij]; exact h1, h2⟩
theorem FinE.go {K K' : KX} {α : Al} {H : Hp} {B : DEnds} {Dn : Ends} (hf : K'.f = K.f) (x : Exc K α H) (f : FinE K α H B Dn) : FinE K' α H B Dn := by
  obtain ⟨kf, kE, ke⟩ := K
  obtain ⟨kf', kE', ke'⟩ := K'
  cases hf
  refine ⟨fun σ H1 α1 ρ γ h e g r => f.nx σ H1 α1 ρ γ h e ⟨g.toGaOk, x.mono g.toGaOk e⟩ r, fun v H1 α1 d γ h e g r => f.rt v H1 α1 d γ h e ⟨g.toGaOk, x.mono g.toGaOk e⟩ r,
    fun σ H1 α1 ρ γ h e g r => f.bk σ H1 α1 ρ γ h e ⟨g.toGaOk, x.mono g.toGaOk e⟩ r, fun σ H1 α1 ρ γ h e g r => f.ct σ H1 α1 ρ γ h e ⟨g.toGaOk, x.mono g.toGaOk e⟩ r⟩
theorem ds_tryAs {c : Value} {i : Nat} {tb : WX → TS} {ts : Addr → Value → Option Addr → TS} (e' : Env → XD) (hb : ∀ W', dS ⟨K.f, W', e'⟩ γ.length (tb W') ρ γ B)
    (hs : ∀ ρ' C ns ds γ', e' ρ' C ns ds γ' → (PySem.W.exmOne K.f (.ref C) c = some true ∧ ∀ a dd, dS K γ.length (ts a (.ref C) (some dd)) (ρ'.set i (some (.exc a dd C ns ds))) γ' ⟨fun ρ2 γ2 => B.nx (ρ2.set i none) γ2, B.rt, fun ρ2 γ2 => B.bk (ρ2.set i none) γ2, fun ρ2 γ2 => B.ct (ρ2.set i none) γ2⟩) ∨
      (PySem.W.exmOne K.f (.ref C) c = some false ∧ K.e ρ' C ns ds γ')) : dS K n (tTryAs K.f K.E c i tb ts) ρ γ B := fun σ H α α0 H0 Dn hn e r g fe => by
  have fe2 : FinE K α H B Dn := fe.mono e
  refine hb _ σ H α α H Dn g.len g.refl r ⟨g.toGaOk, ?_⟩ (FinE.go (K := K) (K' := ⟨K.f, _, e'⟩) rfl g.exc fe2)
  intro σ1 ρ1 C dd fs ds γ1 α1 H1 he r1 e1 g1 hd nd rl
  have gx : GaX K H1 α1 γ1 := g.go g1 e1
  rcases hs ρ1 C (fs.map (·.1)) ds γ1 he with ⟨hm, hsu⟩ | ⟨hm, hout⟩
  · refine ⟨true, hm, fun _ a ha => ?_, (fun z => by cases z)⟩
    refine hsu a dd (σ1.set i (some (.ref a))) H1 α1 α H _ g.len e1 (r1.set i (.exc nd hd rl)) gx ⟨fun σ2 H2 α2 ρ2 γ2 h2 e2 g2 r2 => ?_, fe2.rt, fun σ2 H2 α2 ρ2 γ2 h2 e2 g2 r2 => ?_, fun σ2 H2 α2 ρ2 γ2 h2 e2 g2 r2 => ?_⟩
    · exact fe2.nx _ H2 α2 _ γ2 h2 e2 g2 (r2.setN i)
    · exact fe2.bk _ H2 α2 _ γ2 h2 e2 g2 (r2.setN i)
    · exact fe2.ct _ H2 α2 _ γ2 h2 e2 g2 (r2.setN i)
  · exact ⟨false, hm, (fun z => by cases z), fun _ => g.exc σ1 ρ1 C dd fs ds γ1 α1 H1 hout r1 e1 g1 hd nd rl⟩
theorem ds_tryOnly {c : Value} {tb : WX → TS} {ts : Addr → Value → Option Addr → TS} (e' : Env → XD) (hb : ∀ W', dS ⟨K.f, W', e'⟩ γ.length (tb W') ρ γ B)
    (hs : ∀ ρ' C ns ds γ', e' ρ' C ns ds γ' → (PySem.W.exmOne K.f (.ref C) c = some true ∧ ∀ a dd, dS K γ.length (ts a (.ref C) (some dd)) ρ' γ' B) ∨
      (PySem.W.exmOne K.f (.ref C) c = some false ∧ K.e ρ' C ns ds γ')) : dS K n (tTryOnly K.f K.E c tb ts) ρ γ B := fun σ H α α0 H0 Dn hn e r g fe => by
  have fe2 : FinE K α H B Dn := fe.mono e
  refine hb _ σ H α α H Dn g.len g.refl r ⟨g.toGaOk, ?_⟩ (FinE.go (K := K) (K' := ⟨K.f, _, e'⟩) rfl g.exc fe2)
  intro σ1 ρ1 C dd fs ds γ1 α1 H1 he r1 e1 g1 hd nd rl
  have gx : GaX K H1 α1 γ1 := g.go g1 e1
  rcases hs ρ1 C (fs.map (·.1)) ds γ1 he with ⟨hm, hsu⟩ | ⟨hm, hout⟩
  · refine ⟨true, hm, fun _ a ha => ?_, (fun z => by cases z)⟩
    exact hsu a dd σ1 H1 α1 α H _ g.len e1 r1 gx fe2
  · exact ⟨false, hm, (fun z => by cases z), fun _ => g.exc σ1 ρ1 C dd fs ds γ1 α1 H1 hout r1 e1 g1 hd nd rl⟩
end
end DL

set_option Elab.async false
set_option linter.all false
set_option maxRecDepth 100000
set_option maxHeartbeats 4000000
namespace DL
open PySem PySem.Spec PyProof.Rows L2 NdefX

/-! ### the facts of an own exception, as the head tells them -/
def clsB (K : Frag) (C : Addr) : Bool := match K.lookup C with
  | some ⟨.type "type", _, .cls cd, sl⟩ => (match cd.mro, sl.toList with
    | .ref C' :: bm, [_, _, _, _, some (.builtin n), _] => C' == C && n == "ValueError.__new__" && !cd.hasDel && cd.hasDict && PySem.HandSPX.refsVE bm
    | _, _ => false)
  | _ => false
theorem clsB_ok {K : Frag} {C : Addr} (h : clsB K C = true) : (∃ nm q N bs bm sn sub ab col dd k0 k1 k2 k3 k5, K.lookup C = some (excClassObj nm q C N bs bm true sn sub ab col dd k0 k1 k2 k3 k5 "ValueError.__new__") ∧ PySem.HandSPX.refsVE bm = true) ∧ PySem.W.mroIn K C (.ref C) = some true ∧ ∃ cd, PySem.W.clsIn K C = some cd := by
  unfold clsB at h
  split at h
  · rename_i dd cd sl ho
    split at h
    · rename_i C' bm k0 k1 k2 k3 n k5 hm hs
      simp only [Bool.and_eq_true, beq_iff_eq, Bool.not_eq_true'] at h
      obtain ⟨⟨⟨⟨rfl, rfl⟩, hdel⟩, hd⟩, hr⟩ := h
      obtain ⟨nm, bs, mro, ns, qn, hdd, sn, sub, ab, col, del⟩ := cd
      dsimp only at hm hdel hd
      subst hm hdel hd
      have hsl : sl = #[k0, k1, k2, k3, some (.builtin "ValueError.__new__"), k5] := by
        obtain ⟨l⟩ := sl
        simp only at hs
        rw [hs]
      subst hsl
      have hc : PySem.W.clsIn K C' = some { name := nm, bases := bs, mro := .ref C' :: bm, ns := ns, qualname := qn, hasDict := true, slotNames := sn, subclasses := sub, abstract := ab, collection := col, hasDel := false } := by
        unfold PySem.W.clsIn
        rw [ho]
      refine ⟨⟨nm, qn, ns, bs, bm, sn, sub, ab, col, dd, k0, k1, k2, k3, k5, ho, hr⟩, ?_, _, hc⟩
      unfold PySem.W.mroIn
      rw [hc, Option.bind_some, if_neg (show ¬ (List.isEmpty (Value.ref C' :: bm) = true) from Bool.false_ne_true)]
      simp
    · cases h
  · cases h
def cellB (K : Frag) (cc C : Addr) : Bool := match K.lookup cc with
  | some ⟨_, _, .cell (some (.ref D)), _⟩ => D == C
  | _ => false
theorem cellB_ok {K : Frag} {cc C : Addr} (h : cellB K cc C = true) : ∃ cl cld csl, K.lookup cc = some ⟨cl, cld, .cell (some (.ref C)), csl⟩ := by
  unfold cellB at h
  split at h
  · rename_i a b D d ho
    obtain rfl : D = C := by simpa using h
    exact ⟨_, _, _, ho⟩
  · cases h
def fileB (file : Str) (K : Frag) (c : Addr) : Bool := match K.lookup c with
  | some ⟨_, _, .fields vs, _⟩ => (match ((vs : Array Value)[2]? : Option Value) with
    | some (.str z _) => file == z
    | _ => false)
  | _ => false
theorem fileB_ok {file : Str} {K : Frag} {c : Addr} (h : fileB file K c = true) : ∃ ccl cdd vs ccs z tf, K.lookup c = some ⟨ccl, cdd, .fields vs, ccs⟩ ∧ vs[2]? = some (.str z tf) ∧ (file == z) = true := by
  unfold fileB at h
  split at h
  · rename_i a b vs d ho
    split at h
    · rename_i z tf hz
      exact ⟨_, _, _, _, _, _, ho, hz, h⟩
    · cases h
  · cases h
def funB (file : Str) (K : Frag) (C f : Addr) (qual : Str) : Bool := match K.lookup f with
  | some ⟨_, _, .func fd, _⟩ => (match fd.closure, fd.code, fd.defaults, fd.kwdefaults with
    | [(nm, cc)], .ref c, .none, .none => nm == ("__class__" : Str) && cellB K cc C && PySem.W.codeIn K (.ref c) qual && fileB file K c
    | _, _, _, _ => false)
  | _ => false
abbrev FnS : Type := Option (Str × Str × Arguments × FuncBody × Scope × Addr × Addr)
def fnS (K : Frag) (p : Str × Option Str) : FnS := match K.lookup (He.fAd K p) with
  | some ⟨_, _, .func fd, _⟩ => some (fd.name, fd.qualname, fd.params, fd.body, fd.scope, fd.globals, fd.builtins)
  | _ => none
def valS (d : He.DefD) : FnS := some (d.name, d.qual, d.params, .stmts d.body, d.scope, mainGlobals, builtinsNs)
theorem funB_ok {file : Str} {K : Frag} {C : Addr} {d : He.DefD} (h : funB file K C (He.fAd K d.at_) d.qual = true) (e : fnS K d.at_ = valS d) :
    ∃ cc c, (∃ cl cld csl, K.lookup cc = some ⟨cl, cld, .cell (some (.ref C)), csl⟩) ∧ PySem.W.codeIn K (.ref c) d.qual = true ∧ (∃ ccl cdd vs ccs z tf, K.lookup c = some ⟨ccl, cdd, .fields vs, ccs⟩ ∧ vs[2]? = some (.str z tf) ∧ (file == z) = true) ∧
      ∃ oc od osl doc pm an ct, K.lookup (He.fAd K d.at_) = some ⟨oc, od, .func (PySem.W.fnX d.name d.qual d.params d.body d.scope [(("__class__" : Str), cc)] .none .none doc pm an (.ref c) ct), osl⟩ := by
  unfold funB at h
  unfold fnS at e
  split at h
  · rename_i oc od fd osl ho
    rw [ho] at e
    split at h
    · rename_i nm cc c h1 h2 h3 h4
      simp only [Bool.and_eq_true, beq_iff_eq] at h
      obtain ⟨⟨⟨rfl, hc⟩, hcd⟩, hf⟩ := h
      obtain ⟨n1, n2, n3, n4, n5, n6, n7, n8, n9, n10, n11, n12, n13, n14, n15⟩ := fd
      dsimp only at h1 h2 h3 h4
      subst h1 h2 h3 h4
      have e2 : (some (n1, n2, n3, n4, n5, n6, n15) : FnS) = some (d.name, d.qual, d.params, .stmts d.body, d.scope, mainGlobals, builtinsNs) := e
      simp only [Option.some.injEq, Prod.mk.injEq] at e2
      obtain ⟨g1, g2, g3, g4, g5, g6, g7⟩ := e2
      subst g1 g2 g3 g4 g5 g6 g7
      exact ⟨cc, c, cellB_ok hc, hcd, fileB_ok hf, oc, od, osl, n10, n11, n12, n14, ho⟩
    · cases h
  · cases h
def excB (file : Str) (K : Frag) (x qual : Str) (fs : List Str) : Bool :=
  clsB K (He.ga K x) && (funB file K (He.ga K x) (He.fAd K (x, some ("__init__" : Str))) qual && (xfB K (He.ga K x) && (fs.all (fun f => decide (PySem.W.findIn K (.ref (He.ga K x)) f = some none)) &&
    (decide (PySem.W.findIn K (.ref (He.ga K x)) "__setattr__" = some (some (.builtin "object.__setattr__"))) && (decide (PySem.W.typeIn K (.ref (He.ga K x)) = some (.type "type")) && (PySem.W.keepIn K (.ref (He.ga K x)) &&
      (decide (PySem.W.findIn K (.ref (He.ga K x)) "__init__" = some (some (.ref (He.fAd K (x, some ("__init__" : Str)))))) && (decide (PySem.W.typeIn K (.ref (He.fAd K (x, some ("__init__" : Str)))) = some (.type "function")) &&
        (decide (PySem.W.nsIn K cStatics "thirdparty.any" = some none) && (decide (PySem.W.ks_superIn K (He.ga K x) (He.ga K x) ("__init__" : Str) = some (some (.builtin "ValueError.__init__"))) && decide (PySem.W.subIn K (.ref (He.ga K x)) (.type "ValueError") = some true)))))))))))
structure PrgOk (P : Program) (file : Str) : Prop where
  file : (P.main.file : Str) = file
  top : (P.main.scope.names.lookup ("super" : Str)).isSome = false
/-- an own exception keeps to its class -/
structure ExcP (P : Program) (K : Frag) (mg : Str → Option Value) (x : Str) (fs : List Str) (d : He.DefD) : Prop where
  oex : OexC K (He.ga K x)
  xok : XOk K (He.ga K x) fs
  ini : PySem.W.findIn K (.ref (He.ga K x)) "__init__" = some (some (.ref (He.fAd K (x, some ("__init__" : Str)))))
  typ : PySem.W.typeIn K (.ref (He.fAd K (x, some ("__init__" : Str)))) = some (.type "function")
  sup : ∃ cc c, SupI P K mg (He.ga K x) (He.fAd K (x, some ("__init__" : Str))) ⟨d.name, d.qual, d.params, d.body, d.scope, [(("__class__" : Str), cc)], c⟩ ∧
    ∃ oc od osl doc pm an ct, K.lookup (He.fAd K (x, some ("__init__" : Str))) = some ⟨oc, od, .func (PySem.W.fnX d.name d.qual d.params d.body d.scope [(("__class__" : Str), cc)] .none .none doc pm an (.ref c) ct), osl⟩
theorem excB_ok {P : Program} {file : Str} {K : Frag} {mg : Str → Option Value} {x : Str} {fs : List Str} {d : He.DefD} (hd : d.at_ = (x, some ("__init__" : Str))) (h : excB file K x d.qual fs = true) (e : fnS K d.at_ = valS d) (hP : PrgOk P file) (ms : mg "super" = none) : ExcP P K mg x fs d := by
  unfold excB at h
  simp only [Bool.and_eq_true, decide_eq_true_eq, List.all_eq_true] at h
  obtain ⟨h1, h2, h3, h4, h5, h6, h7, h8, h9, h10, h11, h12⟩ := h
  obtain ⟨c1, c2, c3⟩ := clsB_ok h1
  have X := xfB_ok h3
  rw [← hd] at h2
  obtain ⟨cc, c, f1, f2, f3, f4⟩ := funB_ok h2 e
  rw [hd] at f4
  refine ⟨⟨c1, h5, X.exC, h6, h7⟩, ⟨X, h4⟩, h8, h9, cc, c, ⟨?_, f2, ?_, ⟨cc, rfl, f1⟩, c3, c2, h10, h11, h12, ms, hP.top⟩, f4⟩
  · obtain ⟨oc, od, osl, doc, pm, an, ct, lk⟩ := f4
    exact ⟨oc, od, osl, .none, .none, doc, pm, an, ct, lk⟩
  · obtain ⟨ccl, cdd, vs, ccs, z, tf, g1, g2, g3⟩ := f3
    exact ⟨ccl, cdd, vs, ccs, z, tf, g1, g2, by rw [hP.file]; exact g3⟩
/-- raising it -/
def PkE (P : Program) (w : World) (K : Frag) (mg : Str → Option Value) (base : Heap) (k : Nat) (x : Str) (names : List Str) (spf : SpD) : Prop :=
  ∃ fd ps, FnG P w K mg base (L2.CX P w) k (He.fAd K (x, some ("__init__" : Str))) fd ps (spIni K (He.ga K x) spf names) ∧ Binds K fd ps [] ∧ OexC K (He.ga K x) ∧ PySem.W.findIn K (.ref (He.ga K x)) "__init__" = some (some (.ref (He.fAd K (x, some ("__init__" : Str))))) ∧
    PySem.W.typeIn K (.ref (He.fAd K (x, some ("__init__" : Str)))) = some (.type "function")
theorem PkE.mono {P : Program} {w : World} {K : Frag} {mg : Str → Option Value} {base : Heap} {j k : Nat} {x : Str} {names : List Str} {spf : SpD} (h : PkE P w K mg base j x names spf) (l : j ≤ k) : PkE P w K mg base k x names spf := by
  obtain ⟨fd, ps, F, b⟩ := h
  exact ⟨fd, ps, F.mono l, b⟩
theorem raiseP {X : Cx} {W : WX} {k j : Nat} {x : Str} {names : List Str} {spf : SpD} {e : Expr} {es : List Expr} {ta : TA} {p pos pos' : Pos} (tk : Takes X W) (F : PkE X.prog X.w X.K X.mg X.base j x names spf) (hj : j + 1 ≤ k) (room : Room k X.A) (gd : X.A.guards = some []) (hc : X.calm = true) (gl : Gl X x) (mgx : X.mg x = some (.ref (He.ga X.K x)))
    (ha : PA X (e :: es) ta) (hdb : (x == ("__debug__" : Str)) = false := by decide) (he : starEach (e :: es) X.env = (false, eval e X.env) :: starEach es X.env := by rfl) (hpl : (backTo pos (starEach es X.env)).any (·.1) = false := by rfl) :
    PS X (.Raise (some (.Call (.Name x p) (e :: es) [] pos)) none pos') (tRaise X.K W (He.ga X.K x) spf names ta) := by
  obtain ⟨fd, ps, F, b, T, iC, tI⟩ := F
  exact ps_raise hc tk (pmk_exc T iC tI F (room.mono hj) gd b gl mgx ha hdb he hpl)
/-! ### the Hook, with the methods that have a __class__ cell -/
def frE (g : Addr → Option Obj) (n : Nat) : Frag := He.frT g (He.asD g n ++ [cStatics])
abbrev AlE : Type := (He.AlT × Bool) × List FnS
def obsE (n : Nat) (fa : List He.Fa) (fn : List He.DefD) (ts : List He.Tab) (sd : List He.DefD) (ex : Frag → Bool) (g : Addr → Option Obj) : AlE := ((He.obsT fa fn ts (frE g n), ex (frE g n)), sd.map fun d => fnS (frE g n) d.at_)
def valE (fn : List He.DefD) (ts : List He.Tab) (sd : List He.DefD) (w : World) : AlE := ((He.valT fn ts w, true), sd.map valS)
structure SaysE (fa : List He.Fa) (fn : List He.DefD) (ts : List He.Tab) (sd : List He.DefD) (ex : Frag → Bool) (w : World) (K : Frag) : Prop where
  t : He.SaysT fa fn ts w K
  more : ex K = true
  sup : sd.map (fun d => fnS K d.at_) = sd.map valS
def hookE (n : Nat) (fa : List He.Fa) (fn : List He.DefD) (ts : List He.Tab) (sd : List He.DefD) (ex : Frag → Bool) : PySem.W.Hook where
  α := AlE
  obs := fun s => obsE n fa fn ts sd ex s.heap.get?
  val := fun w => valE fn ts sd w
  says := fun w h => ∃ K : Frag, K.In h ∧ SaysE fa fn ts sd ex w K
  of := fun _ _ e => ⟨_, He.frT_in, congrArg (fun z : AlE => z.1.1) e, congrArg (fun z : AlE => z.1.2) e, congrArg (fun z : AlE => z.2) e⟩
  keeps := fun _ _ _ ⟨K, hK, c⟩ k => ⟨K, PySem.W.Frag.In.keeps hK k, c⟩
theorem obsE_eq {n : Nat} {fa : List He.Fa} {fn : List He.DefD} {ts : List He.Tab} {sd : List He.DefD} {ex : Frag → Bool} {g : Addr → Option Obj} {s : Shared} (h : ∀ a, g a = s.heap.get? a) : obsE n fa fn ts sd ex g = (hookE n fa fn ts sd ex).obs s := by
  have e : g = s.heap.get? := funext h
  rw [e] <;> rfl
theorem SaysE.supd {fa : List He.Fa} {fn : List He.DefD} {ts : List He.Tab} {sd : List He.DefD} {ex : Frag → Bool} {w : World} {K : Frag} (c : SaysE fa fn ts sd ex w K) (i : Nat) {d : He.DefD} (h : sd[i]? = some d := by rfl) : fnS K d.at_ = valS d := by
  have e : (sd.map fun d => fnS K d.at_)[i]? = (sd.map valS)[i]? := by rw [c.sup]
  rw [List.getElem?_map, List.getElem?_map, h] at e
  exact Option.some.inj e
end DL

set_option Elab.async false
set_option linter.all false
set_option maxRecDepth 100000
set_option maxHeartbeats 2000000
namespace DL
open PySem PySem.Spec PyProof.Rows L2

/-! ### dicts: keys are ints, texts, tuples of these -/
def valG {κ : Type} [DecidableEq κ] (ks : List κ) (vs : List D) (k : κ) : Option D := ((ks.zip vs).find? fun p => decide (p.1 = k)).map (·.2)
theorem valG_key {ks : List Key} {vs : List D} {k : Key} : valG ks vs k = valD ks vs k := rfl
def putP {κ : Type} [DecidableEq κ] (ps : List (κ × D)) (k : κ) (v : D) : List (κ × D) :=
  if (ps.any fun p => decide (p.1 = k)) = true then ps.map (fun p => if p.1 = k then (p.1, v) else p) else ps ++ [(k, v)]
def getP {κ : Type} [DecidableEq κ] (ps : List (κ × D)) (k : κ) : Option D := (ps.find? fun p => decide (p.1 = k)).map (·.2)
theorem valG_P {κ : Type} [DecidableEq κ] {k : κ} : ∀ {ps : List (κ × D)}, valG (ps.map (·.1)) (ps.map (·.2)) k = getP ps k := by
  intro ps
  unfold valG getP
  have e : ∀ l : List (κ × D), (l.map (·.1)).zip (l.map (·.2)) = l := fun l => by
    induction l with
    | nil => rfl
    | cons p r ih => simp [ih]
  rw [e]
def keysOf : List D → Option (List Key)
  | [] => some []
  | d :: ds => match keyD d, keysOf ds with
    | some k, some ks => some (k :: ks)
    | _, _ => none
def keyT : D → Option (List Key)
  | .tup ds => keysOf ds
  | _ => none
def dvwT (γ : Ga) : D → Option (List (List Key) × List D)
  | .dit ks vs => some (ks, vs)
  | .loc k => match γ[k]? with
    | some (.dit ks vs) => some (ks, vs)
    | _ => none
  | _ => none
/-- what the dict d has at y -/
def DV (γ : Ga) (d y : D) (o : Option D) : Prop :=
  (∃ ks vs k, dvw γ d = some (ks, vs) ∧ keyD y = some k ∧ o = valG ks vs k) ∨ ∃ ks vs k, dvwT γ d = some (ks, vs) ∧ keyT y = some k ∧ o = valG ks vs k
section
variable {K : KX} {ρ : Env} {γ : Ga} {Q : QD}
theorem keysOf_rp {K : Frag} {H : Hp} {α : Al} : ∀ {ds : List D} {us : List V} {ks : List Key}, RpL K H α us ds → keysOf ds = some ks → us = ks.map kV
  | [], _, ks, h, e => by
    cases h
    cases e
    rfl
  | d :: ds, _, ks, h, e => by
    cases h with
    | cons h1 h2 =>
      unfold keysOf at e
      split at e
      · rename_i k ks' e1 e2
        cases e
        have q1 := keyD_rp (K := ⟨K, W0, fun _ _ _ _ _ => False⟩) h1 e1
        subst q1
        rw [keysOf_rp h2 e2]
        rfl
      · cases e
theorem keyT_rp {K : Frag} {H : Hp} {α : Al} {v : V} {d : D} {k : List Key} (r : Rp K H α v d) (h : keyT d = some k) : ∃ b, v = .ref b ∧ H b = some (.tup (k.map kV)) := by
  cases r with
  | tup h1 h2 =>
    refine ⟨_, rfl, ?_⟩
    rw [← keysOf_rp h2 h]
    exact h1.2
  | _ => cases h
theorem dit_rp {H : Hp} {α : Al} {v : V} {d : D} {ks : List (List Key)} {vs : List D} (g : GaX K H α γ) (r : Rp K H α v d) (h : dvwT γ d = some (ks, vs)) : ∃ a kvs, v = .ref a ∧ H a = some (.dT kvs) ∧ kvs.map (·.1) = ks ∧ RpL K H α (kvs.map (·.2)) vs := by
  cases r with
  | dit h1 h2 h3 =>
    cases h
    exact ⟨_, _, rfl, h2, rfl, h3⟩
  | @loc k a ha =>
    unfold dvwT at h
    cases q : γ[k]? with
    | none => simp [q] at h
    | some m =>
      cases m with
      | dit ks' vs' =>
        simp [q] at h
        obtain ⟨rfl, rfl⟩ := h
        obtain ⟨kvs, h1, h2, h3⟩ := g.at_ _ _ _ ha q
        exact ⟨a, kvs, rfl, h1, h2, h3⟩
      | _ => simp [q] at h
  | _ => cases h
theorem valG_rp {κ : Type} [DecidableEq κ] {K : Frag} {H : Hp} {α : Al} {k : κ} : ∀ {kvs : List (κ × V)} {vs : List D}, RpL K H α (kvs.map (·.2)) vs →
    (∀ d, valG (kvs.map (·.1)) vs k = some d → ∃ v, valV kvs k = some v ∧ Rp K H α v d) ∧ (valG (kvs.map (·.1)) vs k = none → valV kvs k = none)
  | [], _, h => by cases h; exact ⟨fun _ e => (by cases e), fun _ => rfl⟩
  | (a, b) :: r, _, h => by
    cases h with
    | @cons _ _ x xs h1 h2 =>
      obtain ⟨i1, i2⟩ := valG_rp (k := k) h2
      by_cases hk : a = k
      · have e1 : valG (((a, b) :: r).map (·.1)) (x :: xs) k = some x := by simp [valG, hk]
        have e2 : valV ((a, b) :: r) k = some b := by simp [valV, hk]
        rw [e1, e2]
        exact ⟨fun d e => by cases e; exact ⟨b, rfl, h1⟩, fun e => (by cases e)⟩
      · have e1 : valG (((a, b) :: r).map (·.1)) (x :: xs) k = valG (r.map (·.1)) xs k := by simp [valG, hk]
        have e2 : valV ((a, b) :: r) k = valV r k := by simp [valV, hk]
        rw [e1, e2]
        exact ⟨i1, i2⟩
theorem dv_rp {H : Hp} {α : Al} {v w : V} {d y : D} {o : Option D} (g : GaX K H α γ) (r : Rp K H α v d) (rw_ : Rp K H α w y) (h : DV γ d y o) :
    ∃ a ov, v = .ref a ∧ DGet H a w ov ∧ (∀ x, o = some x → ∃ u, ov = some u ∧ Rp K H α u x) ∧ (o = none → ov = none) := by
  rcases h with ⟨ks, vs, k, h1, h2, rfl⟩ | ⟨ks, vs, k, h1, h2, rfl⟩
  · obtain ⟨a, kvs, rfl, ha, rfl, hv⟩ := dic_rp g r h1
    obtain ⟨i1, i2⟩ := valG_rp (k := k) hv
    rw [keyD_rp rw_ h2]
    exact ⟨a, _, rfl, .inl ⟨kvs, k, .inl ha, rfl, rfl⟩, i1, i2⟩
  · obtain ⟨a, kvs, rfl, ha, rfl, hv⟩ := dit_rp g r h1
    obtain ⟨i1, i2⟩ := valG_rp (k := k) hv
    obtain ⟨b, rfl, hb⟩ := keyT_rp rw_ h2
    exact ⟨a, _, rfl, .inr ⟨kvs, k, b, .inl ha, rfl, hb, rfl⟩, i1, i2⟩
def IsDD (γ : Ga) (d : D) : Prop := (∃ p, dvw γ d = some p) ∨ ∃ p, dvwT γ d = some p
theorem isD_rp {H : Hp} {α : Al} {v : V} {d : D} (g : GaX K H α γ) (r : Rp K H α v d) (h : IsDD γ d) : ∃ a, v = .ref a ∧ IsD H a := by
  rcases h with ⟨⟨ks, vs⟩, h⟩ | ⟨⟨ks, vs⟩, h⟩
  · obtain ⟨a, kvs, rfl, ha, _⟩ := dic_rp g r h
    exact ⟨a, rfl, .inl ⟨kvs, .inl ha⟩⟩
  · obtain ⟨a, kvs, rfl, ha, _⟩ := dit_rp g r h
    exact ⟨a, rfl, .inr ⟨kvs, .inl ha⟩⟩
theorem de_dget {td ty : TE} (h : dE K td ρ γ fun d γ1 => dE K ty ρ γ1 fun y γ2 => ∃ v, DV γ2 d y (some v) ∧ Q v γ2) : dE K (tDGet td ty) ρ γ Q := fun σ H α q r g w =>
  h σ H α _ r g fun v H1 α1 d γ1 h1 e1 g1 r1 => h1 σ H1 α1 _ (r.mono e1) g1 fun u H2 α2 y γ2 ⟨x, hv, hq⟩ e2 g2 r2 => by
    obtain ⟨a, ov, rfl, hd, i1, _⟩ := dv_rp g2 (Rp.mono e2 _ _ r1) r2 hv
    obtain ⟨u', rfl, ru⟩ := i1 x rfl
    exact ⟨a, u', rfl, hd, w u' H2 α2 x γ2 hq (e1.trans e2) g2 ru⟩
theorem de_dgt2 {td ty tx : TE} (h : dE K td ρ γ fun d γ1 => IsDD γ1 d ∧ dE K ty ρ γ1 fun y γ2 => dE K tx ρ γ2 fun x γ3 => ∃ o, DV γ3 d y o ∧ Q (o.getD x) γ3) : dE K (tDGet2 td ty tx) ρ γ Q := fun σ H α q r g w =>
  h σ H α _ r g fun v H1 α1 d γ1 ⟨hi, h1⟩ e1 g1 r1 => by
    obtain ⟨a, rfl, ia⟩ := isD_rp g1 r1 hi
    refine ⟨a, rfl, ia, h1 σ H1 α1 _ (r.mono e1) g1 fun vy H2 α2 y γ2 h2 e2 g2 r2 => h2 σ H2 α2 _ ((r.mono e1).mono e2) g2 fun vx H3 α3 x γ3 ⟨o, hv, hq⟩ e3 g3 r3 => ?_⟩
    obtain ⟨a', ov, ea, hd, i1, i2⟩ := dv_rp g3 (Rp.mono (e2.trans e3) _ _ r1) (Rp.mono e3 _ _ r2) hv
    cases ea
    refine ⟨ov, hd, ?_⟩
    cases o with
    | none =>
      rw [i2 rfl]
      exact w vx H3 α3 x γ3 hq ((e1.trans e2).trans e3) g3 r3
    | some dd =>
      obtain ⟨u, rfl, ru⟩ := i1 dd rfl
      exact w u H3 α3 dd γ3 hq ((e1.trans e2).trans e3) g3 ru
theorem de_dgt1 {td ty : TE} (h : dE K td ρ γ fun d γ1 => IsDD γ1 d ∧ dE K ty ρ γ1 fun y γ2 => ∃ o, DV γ2 d y o ∧ Q (o.getD .non) γ2) : dE K (tDGet1 td ty) ρ γ Q := fun σ H α q r g w =>
  h σ H α _ r g fun v H1 α1 d γ1 ⟨hi, h1⟩ e1 g1 r1 => by
    obtain ⟨a, rfl, ia⟩ := isD_rp g1 r1 hi
    refine ⟨a, rfl, ia, h1 σ H1 α1 _ (r.mono e1) g1 fun vy H2 α2 y γ2 ⟨o, hv, hq⟩ e2 g2 r2 => ?_⟩
    obtain ⟨a', ov, ea, hd, i1, i2⟩ := dv_rp g2 (Rp.mono e2 _ _ r1) r2 hv
    cases ea
    refine ⟨ov, hd, ?_⟩
    cases o with
    | none =>
      rw [i2 rfl]
      exact w .non H2 α2 .non γ2 hq (e1.trans e2) g2 .non
    | some dd =>
      obtain ⟨u, rfl, ru⟩ := i1 dd rfl
      exact w u H2 α2 dd γ2 hq (e1.trans e2) g2 ru
theorem de_din {ty td : TE} (h : dE K ty ρ γ fun y γ1 => dE K td ρ γ1 fun d γ2 => ∃ o, DV γ2 d y o ∧ Q (.bl o.isSome) γ2) : dE K (tDIn ty td) ρ γ Q := fun σ H α q r g w =>
  h σ H α _ r g fun v H1 α1 y γ1 h1 e1 g1 r1 => h1 σ H1 α1 _ (r.mono e1) g1 fun u H2 α2 d γ2 ⟨o, hv, hq⟩ e2 g2 r2 => by
    obtain ⟨a, ov, rfl, hd, i1, i2⟩ := dv_rp g2 r2 (Rp.mono e2 _ _ r1) hv
    refine ⟨a, ov, rfl, hd, ?_⟩
    have e : ov.isSome = o.isSome := by
      cases o with
      | none => rw [i2 rfl] <;> rfl
      | some x =>
        obtain ⟨u', rfl, _⟩ := i1 x rfl
        rfl
    rw [e]
    exact w _ H2 α2 _ γ2 hq (e1.trans e2) g2 (.bl _)
theorem de_dnotin {ty td : TE} (h : dE K ty ρ γ fun y γ1 => dE K td ρ γ1 fun d γ2 => ∃ o, DV γ2 d y o ∧ Q (.bl (!o.isSome)) γ2) : dE K (tDNotIn ty td) ρ γ Q := fun σ H α q r g w =>
  h σ H α _ r g fun v H1 α1 y γ1 h1 e1 g1 r1 => h1 σ H1 α1 _ (r.mono e1) g1 fun u H2 α2 d γ2 ⟨o, hv, hq⟩ e2 g2 r2 => by
    obtain ⟨a, ov, rfl, hd, i1, i2⟩ := dv_rp g2 r2 (Rp.mono e2 _ _ r1) hv
    refine ⟨a, ov, rfl, hd, ?_⟩
    have e : ov.isSome = o.isSome := by
      cases o with
      | none => rw [i2 rfl] <;> rfl
      | some x =>
        obtain ⟨u', rfl, _⟩ := i1 x rfl
        rfl
    rw [e]
    exact w _ H2 α2 _ γ2 hq (e1.trans e2) g2 (.bl _)
/-- {}: a new dict that will be changed -/
theorem de_dnewK (q : Q (.loc γ.length) (γ ++ [.dic [] []])) : dE K tDNewK ρ γ Q := fun σ H α k r g w => fun p hp =>
  w _ _ (α.push p) _ _ q (ext_loc g hp) (ga_loc g hp ⟨[], upd_same, rfl, .nil⟩) (.loc (by show (α.h ++ [p])[γ.length]? = _; rw [← g.len]; simp))
theorem de_dnewT (q : Q (.loc γ.length) (γ ++ [.dit [] []])) : dE K tDNewT ρ γ Q := fun σ H α k r g w => fun p hp =>
  w _ _ (α.push p) _ _ q (ext_loc g hp) (ga_loc g hp ⟨[], upd_same, rfl, .nil⟩) (.loc (by show (α.h ++ [p])[γ.length]? = _; rw [← g.len]; simp))
/-! ### d[k] = v -/
theorem putK_rp {κ : Type} [DecidableEq κ] {K : Frag} {H : Hp} {α : Al} {k : κ} {v : V} {d : D} (rv : Rp K H α v d) {kvs : List (κ × V)} {ps : List (κ × D)} (e : kvs.map (·.1) = ps.map (·.1)) (r : RpL K H α (kvs.map (·.2)) (ps.map (·.2))) :
    (putK kvs k v).map (·.1) = (putP ps k d).map (·.1) ∧ RpL K H α ((putK kvs k v).map (·.2)) ((putP ps k d).map (·.2)) ∧ (putK kvs k v).length ≤ kvs.length + 1 := by
  have hany : ∀ {kvs : List (κ × V)} {ps : List (κ × D)}, kvs.map (·.1) = ps.map (·.1) → (kvs.any fun p => decide (p.1 = k)) = ps.any fun p => decide (p.1 = k) := fun {kvs ps} e => by
    have h1 : (kvs.any fun p => decide (p.1 = k)) = (kvs.map (·.1)).any fun x => decide (x = k) := by rw [List.any_map]; rfl
    have h2 : (ps.any fun p => decide (p.1 = k)) = (ps.map (·.1)).any fun x => decide (x = k) := by rw [List.any_map]; rfl
    rw [h1, h2, e]
  have hmap : ∀ {kvs : List (κ × V)} {ps : List (κ × D)}, kvs.map (·.1) = ps.map (·.1) → RpL K H α (kvs.map (·.2)) (ps.map (·.2)) →
      ((kvs.map fun kv => if kv.1 = k then (kv.1, v) else kv).map (·.1)) = ((ps.map fun kv => if kv.1 = k then (kv.1, d) else kv).map (·.1)) ∧ RpL K H α ((kvs.map fun kv => if kv.1 = k then (kv.1, v) else kv).map (·.2)) ((ps.map fun kv => if kv.1 = k then (kv.1, d) else kv).map (·.2)) := by
    intro kvs
    induction kvs with
    | nil =>
      intro ps e r
      cases ps with
      | nil => exact ⟨rfl, .nil⟩
      | cons _ _ => cases e
    | cons p r ih =>
      intro ps e rr
      cases ps with
      | nil => cases e
      | cons q ps =>
        obtain ⟨a, b⟩ := p
        obtain ⟨a', b'⟩ := q
        simp only [List.map_cons, List.cons.injEq] at e
        obtain ⟨rfl, e⟩ := e
        cases rr with
        | cons r1 r2 =>
          obtain ⟨i1, i2⟩ := ih e r2
          by_cases hk : a = k
          · simp only [List.map_cons, if_pos hk]
            exact ⟨by rw [i1], .cons rv i2⟩
          · simp only [List.map_cons, if_neg hk]
            exact ⟨by rw [i1], .cons r1 i2⟩
  unfold putK putP
  rw [hany e]
  by_cases hh : (ps.any fun p => decide (p.1 = k)) = true
  · rw [if_pos hh, if_pos hh]
    obtain ⟨h1, h2⟩ := hmap e r
    exact ⟨h1, h2, by rw [List.length_map]; omega⟩
  · rw [if_neg hh, if_neg hh]
    refine ⟨by rw [List.map_append, List.map_append, e]; rfl, ?_, by simp⟩
    rw [List.map_append, List.map_append]
    exact r.append (.cons rv .nil)
end
section
variable {K : KX} {n : Nat} {ρ : Env} {γ : Ga} {nx bk ct : Env → Ga → Prop} {rt : QD}
/-- the dict at j with pairs ps -/
def DKat (γ : Ga) (j : Nat) (ps : List (Key × D)) : Prop := γ[j]? = some (.dic (ps.map (·.1)) (ps.map (·.2)))
def DTat (γ : Ga) (j : Nat) (ps : List (List Key × D)) : Prop := γ[j]? = some (.dit (ps.map (·.1)) (ps.map (·.2)))
abbrev moK (ps : List (Key × D)) : MO := .dic (ps.map (·.1)) (ps.map (·.2))
abbrev moT (ps : List (List Key × D)) : MO := .dit (ps.map (·.1)) (ps.map (·.2))
/-- what d[y] = v asks of the objects, and leaves -/
def DPutD (γ : Ga) (d y v : D) (q : Ga → Prop) : Prop :=
  (∃ j ps k, d = .loc j ∧ γ[j]? = some (moK ps) ∧ keyD y = some k ∧ ps.length < 1000000 ∧ q (γ.set j (moK (putP ps k v)))) ∨ ∃ j ps k, d = .loc j ∧ γ[j]? = some (moT ps) ∧ keyT y = some k ∧ ps.length < 1000000 ∧ q (γ.set j (moT (putP ps k v)))
theorem dput_rp {σ : L2.St} {H : Hp} {α : Al} {u w z : V} {d y v : D} {q : Ga → Prop} (g : GaX K H α γ) (ru : Rp K H α u d) (rw_ : Rp K H α w y) (rz : Rp K H α z v) (h : DPutD γ d y v q) :
    ∃ a H' γ', u = .ref a ∧ DPut H a w z H' ∧ q γ' ∧ Ext α H α H' ∧ GaX K H' α γ' := by
  rcases h with ⟨j, ps, k, rfl, hj, hk, hl, hq⟩ | ⟨j, ps, k, rfl, hj, hk, hl, hq⟩
  · cases ru with
    | @loc _ a ha =>
      obtain ⟨kvs, h1, h2, h3⟩ := g.at_ _ _ _ ha hj
      have ex := ext_set g (o := .dK (putK kvs k z)) (List.mem_of_getElem? ha)
      obtain ⟨p1, p2, _⟩ := putK_rp (k := k) (Rp.mono ex _ _ rz) h2 (RpL.mono ex _ _ h3)
      rw [keyD_rp rw_ hk]
      have hlen : kvs.length = ps.length := by simpa using congrArg List.length h2
      exact ⟨a, _, _, rfl, .inl ⟨kvs, k, h1, rfl, by rw [hlen]; exact size24 hl, rfl⟩, hq, ex, ga_set g ha ⟨_, upd_same, p1, p2⟩⟩
  · cases ru with
    | @loc _ a ha =>
      obtain ⟨kvs, h1, h2, h3⟩ := g.at_ _ _ _ ha hj
      have ex := ext_set g (o := .dT (putK kvs k z)) (List.mem_of_getElem? ha)
      obtain ⟨p1, p2, _⟩ := putK_rp (k := k) (Rp.mono ex _ _ rz) h2 (RpL.mono ex _ _ h3)
      obtain ⟨b, rfl, hb⟩ := keyT_rp rw_ hk
      have hlen : kvs.length = ps.length := by simpa using congrArg List.length h2
      exact ⟨a, _, _, rfl, .inr ⟨kvs, k, b, h1, rfl, hb, by rw [hlen]; exact size24 hl, rfl⟩, hq, ex, ga_set g ha ⟨_, upd_same, p1, p2⟩⟩
theorem xs_dput {td ty tv : TE} (h : dE K tv ρ γ fun v γ1 => dE K td ρ γ1 fun d γ2 => dE K ty ρ γ2 fun y γ3 => DPutD γ3 d y v fun γ4 => nx ρ γ4) : dS K n (sDPut td ty tv) ρ γ ⟨nx, rt, bk, ct⟩ := fun σ H α α0 H0 Dn hn e r g fe =>
  h σ H α _ r g fun z H1 α1 v γ1 h1 e1 g1 r1 => h1 σ H1 α1 _ (r.mono e1) g1 fun u H2 α2 d γ2 h2 e2 g2 r2 => h2 σ H2 α2 _ ((r.mono e1).mono e2) g2 fun w H3 α3 y γ3 h3 e3 g3 r3 => by
    obtain ⟨a, H', γ', rfl, hp, hq, ex, gx⟩ := dput_rp (σ := σ) g3 (Rp.mono e3 _ _ r2) r3 (Rp.mono (e2.trans e3) _ _ r1) h3
    exact ⟨a, H', rfl, hp, fe.nx σ H' α3 ρ γ' hq ((((e.trans e1).trans e2).trans e3).trans ex) gx ((((r.mono e1).mono e2).mono e3).mono ex)⟩
theorem xs_daug {td ty tv : TE} {rd : V → V → Hp → VK → Prop} (h : dE K td ρ γ fun d γ1 => dE K ty ρ γ1 fun y γ2 => ∃ v, DV γ2 d y (some v) ∧ dE K tv ρ γ2 fun w γ3 => dR2 K rd v w γ3 fun z γ4 => DPutD γ4 d y z fun γ5 => nx ρ γ5) : dS K n (sDAug td ty tv rd) ρ γ ⟨nx, rt, bk, ct⟩ := fun σ H α α0 H0 Dn hn e r g fe =>
  h σ H α _ r g fun u H1 α1 d γ1 h1 e1 g1 r1 => h1 σ H1 α1 _ (r.mono e1) g1 fun w H2 α2 y γ2 ⟨v, hv, h2⟩ e2 g2 r2 => by
    obtain ⟨a, ov, rfl, hd, i1, _⟩ := dv_rp g2 (Rp.mono e2 _ _ r1) r2 hv
    obtain ⟨u', rfl, ru⟩ := i1 v rfl
    refine ⟨a, u', rfl, hd, h2 σ H2 α2 _ ((r.mono e1).mono e2) g2 fun x H3 α3 xd γ3 h3 e3 g3 r3 => h3 H3 α3 u' x _ g3 (Rp.mono e3 _ _ ru) r3 fun z' H4 α4 z γ4 h4 e4 g4 r4 => ?_⟩
    obtain ⟨a', H', γ', ea, hp, hq, ex, gx⟩ := dput_rp (σ := σ) g4 (Rp.mono ((e2.trans e3).trans e4) _ _ r1) (Rp.mono (e3.trans e4) _ _ r2) r4 h4
    cases ea
    exact ⟨H', hp, fe.nx σ H' α4 ρ γ' hq (((((e.trans e1).trans e2).trans e3).trans e4).trans ex) gx (((((r.mono e1).mono e2).mono e3).mono e4).mono ex)⟩
/-! ### xs[::-1] -/
theorem de_revL {te : TE} {Q : QD} (h : dE K te ρ γ fun d γ1 => ∃ xs, vw γ1 d = .lst xs ∧ Q (.lst xs.reverse) γ1) : dE K (tRevL K.f te) ρ γ Q := fun σ H α q r g w =>
  h σ H α _ r g fun v H1 α1 d γ1 ⟨xs, hx, hq⟩ e1 g1 r1 => by
    obtain ⟨a, us, rfl, ha, ru⟩ := lst_vw g1 r1 hx
    refine ⟨a, us, rfl, SqL.of ha, fun p hp => w _ _ α1 _ γ1 hq (e1.trans (ext_imm g1 hp)) (ga_imm g1 hp) (.lst (g1.new hp) upd_same (RpL.mono (ext_imm g1 hp) _ _ ?_))⟩
    have key : ∀ {us : List V} {xs : List D}, RpL K.f H1 α1 us xs → RpL K.f H1 α1 us.reverse xs.reverse := by
      intro us
      induction us with
      | nil => intro xs h; cases h; exact .nil
      | cons u us ih =>
        intro xs h
        cases h with
        | cons h1 h2 =>
          rw [List.reverse_cons, List.reverse_cons]
          exact (ih h2).append (.cons h1 .nil)
    exact key ru
end
end DL

set_option Elab.async false
set_option linter.all false
set_option maxRecDepth 100000
set_option maxHeartbeats 4000000
/-! a list comprehension whose element may raise -/
namespace DL
open PySem PySem.Spec PyProof.Rows L2

section
variable {M : Model} {A : Around} {E : Value → Shared → Prop} {s : Shared} {env : PySem.Env}
/-- the end of the block: as the library tells it, but the frame of an error is known -/
def EndX (M : Model) (A : Around) (E : Value → Shared → Prop) (use : Option (Value → Sem Unit)) (Q : Value → Shared → Prop) (acc : Value) (C : Addr) (fr : Option Addr) (r : Result) (s' : Shared) : Prop :=
  match r with
  | .ok f => compPost M A E use Q acc C (.ok f) s'
  | .error x => ∃ m, s'.heap.Ns C m ∧ ∀ h2, Heap.SameBut C s'.heap h2 → ∀ ce : PySem.Env, ce.frame = fr → wpAny M A (passOn "comprehension.variables-let-go" x ce : Sem Value) (fun _ _ => False) E { s' with heap := h2 }
theorem comp_x {e : Expr} {scope : Scope} {pos : Pos} {fresh first : Sem Value} {g : Comprehension} {gs : List Comprehension} {cl : List (Str × Addr)} {use : Option (Value → Sem Unit)} {Q : Value → Shared → Prop}
    (h1 : clausesOf e = g :: gs) (h2 : ∀ x, foldedSetIterable g.iter env x = pure x) (h3 : closureFor scope env = pure cl) (h4 : scope.kind = .function) (h5 : ∀ x ∈ scope.names, x.2 = .local → scope.names.lookup x.1 = some .local)
    (h : wpAny M A first (fun x sa => wpAny M A (pyIter x) (fun it sb => wpAny M A fresh (fun acc sc => wpAny M A (newFunctionEnv scope env.globals cl [] env.qual none .none (some env)) (fun ce sd =>
      codeAny M A (.compStart e 0 it acc { ce with scope := relabel scope env }) (EndX M A E use Q acc ce.locals ce.frame) sd) E sc) E sb) E sa) E s) :
    wpAny M A (comprehension e scope env pos fresh false first use) Q E s := by
  unfold comprehension
  rw [h3, h1]
  have up : ∀ {β : Type} {t : Sem β} {P P' : β → Shared → Prop} {s0 : Shared}, wpAny M A t P E s0 → (∀ a b, P a b → P' a b) → wpAny M A t P' E s0 := fun a b => wpAny_mono a b fun _ _ z => z
  refine wpAny_bind (up h fun x sa ha => ?_)
  refine wpAny_bind (wpAny_standAt (wpAny_bind (wpAny_of_eq (h2 x) (wpAny_bind (wpAny_holding (up ha fun it sb hb => ?_))))))
  refine wpAny_standIf (wpAny_bind (up hb fun acc sc hc => ?_))
  refine wpAny_bind (wpAny_pure (wpAny_bind (up hc fun ce sd hd => ?_)))
  dsimp only
  have lk : ∀ x ∈ scope.names, x.2 = .local → PySem.Env.kindOf { ce with scope := relabel scope env } x.1 = some .local := fun x hx hl => lookup_relabel_local (h5 x hx hl)
  have lk1 : ∀ x ∈ (scope.names.filter fun x => (x.2 == .local || x.2 == .cell) && x.1 != (".0" : Str)).reverse, x.2 = .local → PySem.Env.kindOf { ce with scope := relabel scope env } x.1 = some .local := fun x hx hl =>
    lk x (List.mem_filter.mp (List.mem_reverse.mp hx)).1 hl
  have lk2 : ∀ x ∈ (scope.names.filter fun x => (x.2 == .local || x.2 == .cell) && x.1 != (".0" : Str)).reverse.drop 1 ++ (scope.names.filter fun x => (x.2 == .local || x.2 == .cell) && x.1 != (".0" : Str)).reverse.take 1, x.2 = .local → PySem.Env.kindOf { ce with scope := relabel scope env } x.1 = some .local := fun x hx hl => by
    rcases List.mem_append.mp hx with z | z
    · exact lk1 x (List.mem_of_mem_drop z) hl
    · exact lk1 x (List.mem_of_mem_take z) hl
  refine wpAny_holding (wpAny_bind (wpAny_attempt (wpAny_holding (wpAny_run (codeAny_mono hd fun r s2 hr => ?_)))))
  cases r with
  | error x =>
    obtain ⟨m, hn, hk⟩ := hr
    exact wpAny_bind (wpAny_holding (wpAny_comp_letGo (cenv := { ce with scope := relabel scope env }) h4 _ s2 m lk1 hn fun h' m' _ sb => wpAny_mono (hk h' sb _ rfl) (fun _ _ z => z.elim) fun _ _ z => z))
  | ok f =>
    cases use with
    | none =>
      obtain ⟨m, hn, hk⟩ := hr
      exact wpAny_bind (wpAny_holding (wpAny_comp_letGo (cenv := { ce with scope := relabel scope env }) h4 _ s2 m lk1 hn fun h' m' _ sb => wpAny_pure (hk h' sb)))
    | some u =>
      refine wpAny_bind (wpAny_rule (wpAny_bind (wpAny_holding (up hr fun _ s3 hk => ?_))))
      obtain ⟨m, hn, hk⟩ := hk
      exact wpAny_bind (wpAny_comp_letGo (cenv := { ce with scope := relabel scope env }) h4 _ s3 m lk2 hn fun h' m' _ sb => wpAny_pure (hk h' sb))
theorem note_frame {e : Value} {env1 env2 : PySem.Env} (h : env1.frame = env2.frame) : noteFrame e env1 = noteFrame e env2 := by
  unfold noteFrame PySem.frameOf
  rw [h]
end
section
variable {X : Cx} {pins : List (Addr × Obj)} {σ : L2.St} {H : Hp} {s : Shared}
/-- the block's context, its errors told -/
abbrev blkX (X : Cx) (s : Shared) (H : Hp) (scope : Scope) (ce : PySem.Env) (fp : List Addr) (xe : Value → Shared → Prop) : Cx := { X.blk s H scope ce fp with xe := xe }
theorem blk_to {scope : Scope} {ce : PySem.Env} {fp : List Addr} {xe : Value → Shared → Prop} {s0 : Shared} {H0 : Hp} (I : Inv (X.blk s0 H0 scope ce fp) pins σ H s) : Inv (blkX X s0 H0 scope ce fp xe) pins σ H s :=
  ⟨⟨I.ok.mod, I.ok.kind, I.ok.glob, I.ok.blt, I.ok.above, I.ok.inj, I.ok.has, I.ok.cab, I.ok.hd, I.ok.frames, I.ok.stk, I.ok.exf, I.ok.bs, I.ok.bsz, I.ok.noex, I.ok.exfs, I.ok.funs, I.ok.frf⟩, I.os, I.bare, I.base, I.loc, I.cell, I.free, I.freeC, I.pin, I.hok, I.len⟩
theorem blk_of {scope : Scope} {ce : PySem.Env} {fp : List Addr} {xe : Value → Shared → Prop} {s0 : Shared} {H0 : Hp} (I : Inv (blkX X s0 H0 scope ce fp xe) pins σ H s) : Inv (X.blk s0 H0 scope ce fp) pins σ H s :=
  ⟨⟨I.ok.mod, I.ok.kind, I.ok.glob, I.ok.blt, I.ok.above, I.ok.inj, I.ok.has, I.ok.cab, I.ok.hd, I.ok.frames, I.ok.stk, I.ok.exf, I.ok.bs, I.ok.bsz, I.ok.noex, I.ok.exfs, I.ok.funs, I.ok.frf⟩, I.os, I.bare, I.base, I.loc, I.cell, I.free, I.freeC, I.pin, I.hok, I.len⟩
/-- what a callee in the block lets out leaves the comprehension -/
theorem blk_err {scope : Scope} {ce : PySem.Env} {fp : List Addr} {pins9 : List (Addr × Obj)} {σ9 : L2.St} {H3 H9 : Hp} {s3 s9 s10 : Shared} {u : Value} {W : WX} {ER : XK} {use : Option (Value → Sem Unit)} {Qf : Value → Shared → Prop} {D : Addr}
    (hs : X.stack = X.env :: X.outer) (hf : X.env.frame = some X.env.locals) (hce : ce.frame = X.env.frame) (hcl : s3.heap.objs.size ≤ ce.locals) (tk : Takes X W) (I3 : Inv X pins σ H3 s3)
    (hfp : ∀ b ∈ fp, (b ∈ X.ex ∨ X.s_0.heap.objs.size ≤ b) ∧ b ≠ X.env.locals ∧ (∀ x c, X.env.cells.lookup x = some c → c ≠ b) ∧ ∀ p ∈ X.pn ++ pins, p.1 ≠ b)
    (I9 : Inv (X.blk s3 H3 scope ce fp) pins9 σ9 H9 s9) (c : CX X.prog X.w X.stack H9 s9 ER u s10) (hW : ∀ cls d H', ER cls d H' → W cls d σ H') :
    notedBy (model X.prog X.w) X.A ce (fun e s' => EndX (model X.prog X.w) X.A X.xe use Qf (.ref D) ce.locals ce.frame (.error e) s') u s10 := by
  obtain ⟨a, B, H', cls, d, rfl, fl, hok, ub, na, os, ag, hE⟩ := c
  have okX := I3.ok
  have hfr : X.A.frames = some (X.env :: X.outer) := by rw [okX.frames, hs]
  have cnf : ce.locals ∉ frs X.stack := fun hb => by
    obtain ⟨_, o, ho, _⟩ := I3.stack.mem hb
    exact absurd (Nat.lt_of_lt_of_le (Heap.lt_size ho) hcl) (Nat.lt_irrefl _)
  obtain ⟨mc, hn9, _⟩ := I9.loc
  obtain ⟨oc, esc, epc, hoc, hdc, hrc⟩ := (show s9.heap.Ns ce.locals mc from hn9)
  have freeC : H9 ce.locals = none := I9.free
  have Bc : B.get? ce.locals = some oc := ub.keep _ _ hoc freeC cnf
  have Ban : B.get? a = none := fl.2.1
  have aC : a ≠ ce.locals := fun z => by rw [z, Bc] at Ban; cases Ban
  rw [hs] at fl
  show wpAny _ _ (noteFrame (.ref a) ce) _ _ _
  rw [note_frame hce]
  refine HandSPX.looks_onZ Zc.steady hfr hf fl fun h1 hh1 up1 => ?_
  refine ⟨mc, ⟨oc, esc, epc, hh1.1 _ _ Bc, hdc, hrc⟩, fun h2 sb ce2 hce2 => ?_⟩
  obtain ⟨B2, b1, b2⟩ := restrict B fun b => decide (b ≠ ce.locals)
  have B2to : ∀ b o, b ≠ ce.locals → B.get? b = some o → B2.get? b = some o := fun b o hb e => by rw [b1 b (decide_eq_true hb)]; exact e
  have B2of : ∀ b o, B2.get? b = some o → B.get? b = some o ∧ b ≠ ce.locals := fun b o e => by
    by_cases hb : b = ce.locals
    · rw [b2 b (by simp [hb])] at e; cases e
    · rw [b1 b (decide_eq_true hb)] at e
      exact ⟨e, hb⟩
  have B2n : ∀ b, B.get? b = none → B2.get? b = none := fun b e => by
    cases q : B2.get? b with
    | none => rfl
    | some o => rw [(B2of b o q).1] at e; cases e
  have h2of : ∀ b o, b ≠ ce.locals → h1.get? b = some o → h2.get? b = some o := fun b o hb e => (sb.2 b hb).trans e
  have hh2 : HandSPX.HeldZ B2 (X.env :: X.outer) a (Zc cls d) X.env.locals h2 := by
    obtain ⟨k1, k2, k3, oe, vs, T, oT, ts, t1, t2, t3, t4, t5, t6, t7, t8, t9⟩ := hh1
    have TC : T ≠ ce.locals := fun z => by rw [z, Bc] at t5; cases t5
    refine ⟨fun b o e => h2of b o (B2of b o e).2 (k1 b o (B2of b o e).1), B2n a k2, ?_, oe, vs, T, oT, ts, h2of a oe aC t1, t2, t3, t4, B2n T t5, t6, h2of T oT TC t7, t8, t9⟩
    have all : ∀ l : List PySem.Env, h1.FunFrames B l → h2.FunFrames B2 l := by
      intro l
      induction l with
      | nil => intro _; trivial
      | cons env r ih =>
        rintro ⟨q1, ⟨L, o, q2, q3, q4, q5⟩, q6⟩
        have LC : L ≠ ce.locals := fun z => by rw [z, Bc] at q3; cases q3
        exact ⟨q1, ⟨L, o, q2, B2n L q3, h2of L o LC q4, q5⟩, ih q6⟩
    exact all _ k3
  obtain ⟨k1, k2, k3, oe, vs, T, oT, ts, t1, t2, t3, t4, t5, t6, t7, t8, t9⟩ := id hh2
  unfold PySem.passOn
  refine wpAny_bind (wpAny_field t1 t3 t4 ?_)
  rw [if_neg (show ¬ ((Value.ref T == Value.none) = true) by simp)]
  have fin : wpAny (model X.prog X.w) X.A (setFlight (.ref a) ce2.frame) (fun _ s4 => wpAny (model X.prog X.w) X.A (throw (.ref a) : Sem Value) (fun _ _ => False) X.xe s4) X.xe { s10 with heap := h2 } := by
    rw [hce2, hce, hf]
    refine HandSPX.setFlight_onZ hh2 fun h3 hh3 up3 => wpAny_throw (tk _ _ ?_)
    obtain ⟨G, g1, g2⟩ := restrict h3 fun b => (B2.get? b).isSome || decide (b ∈ frs X.stack)
    have st : B2.StaysIn h3 := hh3.1
    have gB : ∀ b o, B2.get? b = some o → G.get? b = some o := fun b o e => by
      rw [g1 b (by simp [e])]
      exact st b o e
    have gF : ∀ b, b ∈ frs X.stack → G.get? b = h3.get? b := fun b hb => g1 b (by simp [hb])
    have og : ∀ b o, G.get? b = some o → h3.get? b = some o ∧ ((B2.get? b).isSome = true ∨ b ∈ frs X.stack) := fun b o e => by
      cases q : ((B2.get? b).isSome || decide (b ∈ frs X.stack)) with
      | false => rw [g2 b q] at e; cases e
      | true =>
        rw [g1 b q] at e
        exact ⟨e, by simpa [Bool.or_eq_true] using q⟩
    have neC : ∀ b o, s3.heap.get? b = some o → b ≠ ce.locals := fun b o e => Nat.ne_of_lt (Nat.lt_of_lt_of_le (Heap.lt_size e) hcl)
    have base : Un (frs X.stack) fp H3 H9 s3.heap s9.heap := I9.base
    have slotAll : ∀ b o, s3.heap.get? b = some o → H3 b = none → b ∈ frs X.stack → b ∉ fp → ∃ sl, h3.get? b = some { o with slots := sl } := fun b o e n hb hx => by
      obtain ⟨_, o0, e0, hnf⟩ := I3.stack.mem hb
      rw [e] at e0; cases e0
      obtain ⟨s1, q1⟩ := base.slot b o e n hb hx
      obtain ⟨s2, q2⟩ := ub.slot b _ q1 hb
      obtain ⟨s3', q3⟩ := up1 b _ q2 hnf
      obtain ⟨s4, q4⟩ := up3 b _ (h2of b _ (neC b o e) q3) hnf
      exact ⟨s4, q4⟩
    have bfr : ∀ b ∈ frs X.stack, b ∉ fp := fun b hb hx => by
      rcases List.mem_cons.mp (I3.stkSub b hb) with z | z
      · exact (hfp b hx).2.1 z
      · rcases (hfp b hx).1 with y | y
        · exact okX.exfs b y z
        · obtain ⟨_, o, ho, _⟩ := okX.funs.mem z
          exact absurd (Nat.lt_of_lt_of_le (Heap.lt_size ho) y) (Nat.lt_irrefl _)
    have HH : HOk X.prog X.w H' G := fun b o q => by
      have noC : ∀ {c : Addr} {v : HO}, H' c = some v → c ≠ ce.locals := fun {c v} hc z => by
        have := ub.free _ _ hoc freeC
        rw [z, this] at hc
        cases hc
      exact (hok b o q).stay (fun c v hc z => gB c v (B2to c v (by
        rcases hc with hc | hc
        · rw [hc]; exact noC q
        · exact noC hc) z)) (fun _ z => z) fun _ _ z => z
    refine ⟨a, B2, { s3 with heap := G, gens := s10.gens, drawn := s10.drawn, toks := s10.toks }, pins, σ, H', cls, d, rfl, ?_, fun b o e hb => ?_, Heap.UpToSlots.of_keeps fun b o e => (og b o e).1, .inr (.inr (by rw [hs]; exact hh3)), na, ?_, ag, hW _ _ _ hE⟩
    · refine I3.call (ch := fp) ⟨fun b o e n hb hx => gB b o (B2to b o (neC b o e) (ub.keep b o (base.keep b o e n hb hx) (base.free b o e n hx) hb)), fun b o e n hb hx => ?_, fun b o e n hx => ?_, fun b o e hx => ?_, fun b xs e => ub.tups b xs (base.tups b xs e), fun b o xs e => ub.frzs b o xs (base.frzs b o xs e), fun b ps e => ?_⟩ HH ag hfp
      · obtain ⟨sl, q⟩ := slotAll b o e n hb hx
        exact ⟨sl, by rw [gF b hb]; exact q⟩
      · obtain ⟨o', q⟩ := base.there b o e hx
        exact ub.free b o' q (base.free b o e n hx)
      · by_cases hb : b ∈ frs X.stack
        · obtain ⟨sl, q⟩ := slotAll b o e (I3.stkFree b hb) hb hx
          exact ⟨_, by rw [gF b hb]; exact q⟩
        · obtain ⟨o', q⟩ := base.there b o e hx
          obtain ⟨o2, q2⟩ := ub.there b o' q hb
          exact ⟨o2, gB b o2 (B2to b o2 (neC b o e) q2)⟩
      · obtain ⟨m1, e1⟩ := base.tbls b ps e
        obtain ⟨m2, e2⟩ := ub.tbls b _ e1
        exact ⟨m1 ++ m2, by rw [e2, Array.append_assoc]⟩
    · obtain ⟨e', h⟩ := og b o e
      rcases h with h | h
      · obtain ⟨o', q⟩ := Option.isSome_iff_exists.mp h
        have z := st b o' q
        rw [e'] at z; cases z
        exact q
      · exact absurd h hb
    · exact os.trans I9.os
  first
    | exact wpAny_bind (wpAny_pure (wpAny_bind fin))
    | exact wpAny_bind fin
end
end DL

set_option Elab.async false
set_option linter.all false
set_option maxRecDepth 100000
set_option maxHeartbeats 4000000
namespace DL
open PySem PySem.Spec PyProof.Rows L2

/-- the wish of an exception within the block: by the slots of the def -/
abbrev wIn (W : WX) (σ : L2.St) : WX := fun cls d _ H => W cls d σ H
def tLcX (W : WX) (wi : TI) (g : TG) (tt : WX → TT) (te : WX → TE) (vs : List Nat) : TE := fun σ H Q => tLc wi g (tt (wIn W σ)) (te (wIn W σ)) vs σ H Q
abbrev PassB (X : Cx) (W : WX) : Prop := ∀ σ, PassesAt (L2.CX X.prog X.w) X σ (WE W σ)
section
variable {X : Cx} {pins : List (Addr × Obj)} {σ : L2.St} {H : Hp} {s : Shared}
theorem lcX {W : WX} {Q : VK} {elt tg iter : Expr} {ifs : List Expr} {scope : Scope} {own : List (Str × Nat)} {pos pos2 : Pos} {wi : TI} {g : TG} {tt : WX → TT} {te : WX → TE} {use : Option (Value → Sem Unit)} {Qf : Value → Shared → Prop}
    (hst : X.stack = X.env :: X.outer) (hfm : X.env.frame = some X.env.locals) (tk : Takes X W) (calm : X.calm = true) (nd : X.N.Nodup) (I : Inv X pins σ H s) (hi : PI X tg iter wi) (ok : BlkOk X.N X.env.scope scope own)
    (hg : ∀ (s : Shared) (H : Hp) (C : Addr) (cl : List (Str × Addr)) (fp : List Addr) (xe : Value → Shared → Prop), PG (blkX X s H scope (compEnvC scope cl C X.env) fp xe) tg g)
    (ht : ∀ (s : Shared) (H : Hp) (C : Addr) (cl : List (Str × Addr)) (fp : List Addr) (xe : Value → Shared → Prop) (W' : WX), PassB (blkX X s H scope (compEnvC scope cl C X.env) fp xe) W' → PTs (blkX X s H scope (compEnvC scope cl C X.env) fp xe) ifs (tt W'))
    (he : ∀ (s : Shared) (H : Hp) (C : Addr) (cl : List (Str × Addr)) (fp : List Addr) (xe : Value → Shared → Prop) (W' : WX), PassB (blkX X s H scope (compEnvC scope cl C X.env) fp xe) W' → PE (blkX X s H scope (compEnvC scope cl C X.env) fp xe) elt (te W'))
    (hsf : ∀ x, foldedSetIterable iter X.env x = pure x) (h : tLcX W wi g tt te (own.map (·.2)) σ H Q)
    (hend : ∀ D C s2 m H2, Inv X pins σ H2 s2 → Q (.ref D) H2 → s2.heap.Ns C m → FpOk X pins H2 C → compPost (model X.prog X.w) X.A X.xe use Qf (.ref D) C (.ok .next) s2) :
    wpAny (model X.prog X.w) X.A (comprehension (.ListComp elt [⟨tg, iter, ifs, 0⟩] scope pos) scope X.env pos2 (newList []) false (eval iter X.env) use) Qf X.xe s := by
  have clo : ∀ y ∈ scope.names, y.2 = .free → ∃ c, X.env.cells.lookup y.1 = some c := fun y hy e => (ok.free y hy e).elim (fun k => I.ok.has _ (.inl k)) fun k => I.ok.has _ (.inr k)
  refine comp_x rfl hsf (closure_ok clo) ok.kind (fun y hy e => by rw [ok.uniq y hy, e]) (thn (hi.run pins s σ H _ I h) fun xv sa hx => thn hx fun itv sb hb => ?_)
  obtain ⟨it, fp, tn, J, Hb, ei, Ib, T, stb, fb, hq⟩ := hb
  subst ei
  refine wpAny_newObj_type (newEnv_comp ?_) (by show 0 ≤ sizeLine; decide)
  -- the new list's address
  obtain ⟨D, hD⟩ : ∃ D, D = sb.heap.objs.size := ⟨_, rfl⟩
  rw [← hD]
  have Dn : Hb D = none := Ib.hok.fresh (Nat.le_of_eq hD.symm)
  obtain ⟨WW, ⟨m0, w0⟩, turn⟩ := hq D Dn
  obtain ⟨sc, hsc⟩ : ∃ sc : Shared, sc = { sb with heap := sb.heap.push { cls := .type "list", data := .seq ([] : List Value).toArray } } := ⟨_, rfl⟩
  rw [← hsc]
  have hpc : sc.heap = sb.heap.push { cls := .type "list", data := .seq ([] : List Value).toArray } := by rw [hsc]
  have Ic : Inv X pins σ (upd Hb D (.lst [])) sc := by
    rw [hsc]
    exact Ib.laid (t' := sb.toks) (fun b o e => Heap.get?_push_of_some _ e) (Nat.le_of_eq hD.symm) ⟨Nat.zero_le _, [], 0, .nil, by rw [hD]; exact Heap.get?_push_size _ rfl⟩
  have old : ∀ b ∈ fp, b < sb.heap.objs.size := fun b hb => by
    obtain ⟨o, e, _⟩ := T.obj _ _ stb b hb
    exact Heap.lt_size e
  have fc : ∀ b ∈ fp, FpOk X pins (upd Hb D (.lst [])) b ∧ b < sc.heap.objs.size := fun b hb => by
    have l := old b hb
    refine ⟨⟨by rw [upd_ne (by rw [hD]; exact Nat.ne_of_lt l)]; exact (fb b hb).1, (fb b hb).2⟩, by rw [hpc, Heap.size_push]; exact Nat.lt_succ_of_lt l⟩
  have stc : tn 0 sc.heap := T.keep _ _ _ stb fun b _ o e => by rw [hpc]; exact Heap.get?_push_of_some _ e
  have fpc : ∀ b ∈ fp, (b ∈ X.ex ∨ X.s_0.heap.objs.size ≤ b) ∧ b ≠ X.env.locals ∧ (∀ x c, X.env.cells.lookup x = some c → c ≠ b) ∧ ∀ p ∈ X.pn ++ pins, p.1 ≠ b := fun b hb => ⟨(fc b hb).1.2.2.2.1, (fc b hb).1.2.1, (fc b hb).1.2.2.2.2.1, (fc b hb).1.2.2.2.2.2⟩
  have Id := block_start Ic ok nd fc
  have nfp : ∀ b ∈ fp, (upd Hb D (.lst [])) b = none := fun b hb => (fc b hb).1.1
  obtain ⟨cl, hcl⟩ : ∃ cl, cl = cellsFrom (sc.heap.objs.size + 1) scope.names (cloFrom X.env.cells scope.names []) := ⟨_, rfl⟩
  obtain ⟨ce, hce⟩ : ∃ ce, ce = compEnvC scope cl sc.heap.objs.size X.env := ⟨_, rfl⟩
  have pg := fun xe => hg sc (upd Hb D (.lst [])) sc.heap.objs.size cl fp xe
  have pt := fun xe => ht sc (upd Hb D (.lst [])) sc.heap.objs.size cl fp xe
  have pe := fun xe => he sc (upd Hb D (.lst [])) sc.heap.objs.size cl fp xe
  rw [← hcl] at Id
  rw [← hce] at Id
  simp only [← hce] at pg pt pe
  show codeAny _ _ (.compStart (.ListComp elt [⟨tg, iter, ifs, 0⟩] scope pos) 0 (.ref it) (.ref D) (compEnvC scope (cellsFrom (sc.heap.objs.size + 1) scope.names (cloFrom X.env.cells scope.names [])) sc.heap.objs.size X.env)) (EndX (model X.prog X.w) X.A X.xe use Qf (.ref D) sc.heap.objs.size X.env.frame) { sc with heap := pushCells (sc.heap.push { cls := .type "dict", data := .dict #[] }) scope.names }
  rw [← hcl, ← hce]
  have cL : ce.locals = sc.heap.objs.size := by rw [hce]; rfl
  have cF : ce.frame = X.env.frame := by rw [hce]; rfl
  obtain ⟨H3, hH3⟩ : ∃ H3, H3 = upd Hb D (.lst []) := ⟨_, rfl⟩
  rw [← hH3] at Ic Id nfp fc w0
  simp only [← hH3] at pg pt pe
  obtain ⟨sd, hsd⟩ : ∃ sd : Shared, sd = { sc with heap := pushCells (sc.heap.push { cls := .type "dict", data := .dict #[] }) scope.names } := ⟨_, rfl⟩
  rw [← hsd] at Id ⊢
  have std : tn 0 sd.heap := T.keep _ _ _ stc fun b _ o e => by rw [hsd]; exact pushCells_keeps _ _ _ _ (Heap.get?_push_of_some _ e)
  have stat : ∀ {σ' : L2.St} {H' : Hp} {s' : Shared}, Inv (X.blk sc H3 scope ce fp) [] σ' H' s' → (∀ b ∈ fp, H' b = none) → ∀ b ∈ fp, FpOk (X.blk sc H3 scope ce fp) [] H' b := fun {σ' H' s'} I' hn b hb =>
    ⟨hn b hb, (I'.ok.exf b hb).1, I'.ok.exfs b hb, .inl hb, fun x c e => (I'.ok.exf b hb).2 x c e, fun p hp => by simp at hp⟩
  let xe : Value → Shared → Prop := notedBy (model X.prog X.w) X.A ce (fun e s' => EndX (model X.prog X.w) X.A X.xe use Qf (.ref D) sc.heap.objs.size X.env.frame (.error e) s')
  have px : PassB (blkX X sc H3 scope ce fp xe) (wIn W σ) := fun σ9 pins9 H9 s9 e s10 I9 c => by
    have z := blk_err (use := use) (Qf := Qf) (D := D) hst hfm cF (Nat.le_of_eq cL.symm) tk Ic fpc (blk_of I9) c (fun _ _ _ h => h)
    rw [cL, cF] at z
    exact z
  refine codeAny_compStart_list ?_ (T.self X.A 0 _ _ _ std ?_)
  all_goals
    refine compLoop_any (fun n s' => ∃ i H', Inv (X.blk sc H3 scope ce fp) [] (wipe σ (own.map (·.2))) H' s' ∧ tn i s'.heap ∧ (∀ b ∈ fp, H' b = none) ∧ WW i n H') ?_ m0 ⟨0, H3, Id, std, nfp, w0⟩
    rintro n s5 ⟨i, H5, I5, st5, n5, w5⟩
    rcases turn i n H5 w5 with ⟨stop, qq⟩ | ⟨go, Nx, hNx, step⟩
    · have td := T.done (X.blk sc H3 scope ce fp) rfl rfl rfl calm i [] s5 _ H5 (fun _ _ => False) I5 (stat I5 n5) st5 stop
      refine thnF td fun r s6 hr6 => ?_
      obtain ⟨rfl, I6⟩ := hr6
      have I7 : Inv X pins σ H5 s6 := Ic.call' (ch := fp) I6.os I6.base I6.hok I6.bare fpc
      have nC : H5 sc.heap.objs.size = none := by
        rw [← cL]
        exact I6.free
      obtain ⟨m, hn, _⟩ := I6.loc
      have hn : s6.heap.Ns ce.locals m := hn
      rw [cL] at hn
      exact hend D sc.heap.objs.size s6 m H5 I7 qq hn (Ic.fpOk (Nat.le_refl _) nC)
    · have ti := T.item (X.blk sc H3 scope ce fp) rfl rfl rfl calm i [] s5 _ H5 (fun _ _ => False) I5 (stat I5 n5) st5 go
      refine thnF ti fun r s6 hr6 => ?_
      obtain ⟨u, rfl, h6⟩ := hr6
      refine thnF h6 fun _ s7 hh7 => ?_
      obtain ⟨x, H7, I7, r7, y7, st7, n7⟩ := hh7
      have I7p := I7.pinned (stat I7 n7) (T.obj _ _ st7)
      refine wpAny_mono ((pg xe).run _ s7 _ H7 x u _ (blk_to I7p) r7 (step x H7 y7)) (fun _ s8 hh8 => ?_) fun _ _ z => z
      obtain ⟨σ8, H8, I8, hw8, q8⟩ := hh8
      refine wpAny_mono ((pt xe _ px).run _ s8 σ8 H8 _ I8 q8) (fun b s9 hh9 => ?_) fun _ _ z => z
      obtain ⟨H9, I9, q9⟩ := hh9
      have fin : ∀ {s' : Shared} {H' : Hp}, Inv (X.blk sc H3 scope ce fp) ([] ++ pinsAt fp s7.heap) σ8 H' s' → Nx H' → ∃ m, m < n ∧ ∃ i H', Inv (X.blk sc H3 scope ce fp) [] (wipe σ (own.map (·.2))) H' s' ∧ tn i s'.heap ∧ (∀ b ∈ fp, H' b = none) ∧ WW i m H' := fun {s' H'} I' nx => by
        obtain ⟨m', hm, w'⟩ := hNx H' nx
        have pinned : ∀ b ∈ fp, ∀ o, s7.heap.get? b = some o → s'.heap.get? b = some o ∧ H' b = none := fun b hb o e =>
          let z := I'.pin (b, o) (List.mem_append_right _ (List.mem_append_right _ (mem_pinsAt hb e)))
          ⟨z.1, z.2.1⟩
        refine ⟨m', hm, i + 1, H', (I'.unpinned (pins := [])).weak (by rw [← hw8, wipe_length]) (fun j v e => by rw [← hw8] at e; exact (wipe_some e).1), T.keep _ _ _ st7 fun b hb o e => (pinned b hb o e).1, fun b hb => ?_, w'⟩
        obtain ⟨o, e, _⟩ := T.obj _ _ st7 b hb
        exact (pinned b hb o e).2
      cases b with
      | false =>
        simp only [Bool.false_eq_true, if_false] at q9 ⊢
        exact fin (blk_of I9) q9
      | true =>
        simp only [if_true] at q9 ⊢
        refine wpAny_mono ((pe xe _ px).run _ s9 σ8 H9 _ I9 q9) (fun z s10 hh10 => ?_) fun _ _ z => z
        obtain ⟨yv, H10, I10, r10, acc, hD10, hz10, nx⟩ := hh10
        exact app_ok (X := X.blk sc H3 scope ce fp) (blk_of I10) hD10 hz10 r10 fun s11 I11 => fin I11 nx
end
end DL

set_option Elab.async false
set_option linter.all false
set_option maxRecDepth 100000
set_option maxHeartbeats 4000000
namespace DL
open PySem PySem.Spec PyProof.Rows L2
section
variable {X : Cx} {W : WX}
theorem pe_lcX {elt tg iter : Expr} {ifs : List Expr} {scope : Scope} {own : List (Str × Nat)} {pos : Pos} {wi : TI} {g : TG} {tt : WX → TT} {te : WX → TE} (hst : X.stack = X.env :: X.outer) (hfm : X.env.frame = some X.env.locals) (tk : Takes X W) (calm : X.calm = true) (nd : X.N.Nodup) (hi : PI X tg iter wi) (ok : BlkOk X.N X.env.scope scope own)
    (hg : ∀ (s : Shared) (H : Hp) (C : Addr) (cl : List (Str × Addr)) (fp : List Addr) (xe : Value → Shared → Prop), PG (blkX X s H scope (compEnvC scope cl C X.env) fp xe) tg g)
    (ht : ∀ (s : Shared) (H : Hp) (C : Addr) (cl : List (Str × Addr)) (fp : List Addr) (xe : Value → Shared → Prop) (W' : WX), PassB (blkX X s H scope (compEnvC scope cl C X.env) fp xe) W' → PTs (blkX X s H scope (compEnvC scope cl C X.env) fp xe) ifs (tt W'))
    (he : ∀ (s : Shared) (H : Hp) (C : Addr) (cl : List (Str × Addr)) (fp : List Addr) (xe : Value → Shared → Prop) (W' : WX), PassB (blkX X s H scope (compEnvC scope cl C X.env) fp xe) W' → PE (blkX X s H scope (compEnvC scope cl C X.env) fp xe) elt (te W'))
    (hsf : ∀ x, foldedSetIterable iter X.env x = pure x := by intro _; rfl) : PE X (.ListComp elt [⟨tg, iter, ifs, 0⟩] scope pos) (tLcX W wi g tt te (own.map (·.2))) := ⟨fun pins s σ H Q I h => by
  rw [eval_ListComp]
  refine lcX hst hfm tk calm nd I hi ok hg ht he hsf h fun D C s2 m H2 I2 q hn ⟨f0, f1, f2, f3, f4, f5⟩ => ⟨m, hn, fun h3 sb => ?_⟩
  exact ⟨.ref D, H2, I2.turned (t' := s2.toks) (fun b o hb e => (sb.2 b hb).trans e) f0 f1 f3 f4 f5, rfl, q⟩⟩
theorem ps_setLcX {i : Nat} {y : Str} {py : Pos} {elt tg iter : Expr} {ifs : List Expr} {scope : Scope} {own : List (Str × Nat)} {pos spos : Pos} {wi : TI} {g : TG} {tt : WX → TT} {te : WX → TE} (hst : X.stack = X.env :: X.outer) (hfm : X.env.frame = some X.env.locals) (tk : Takes X W) (calm : X.calm = true) (nd : X.N.Nodup) (hy : X.N[i]? = some y) (hyl : X.env.scope.names.lookup y = some .local)
    (hsw : swapsWith (.ListComp elt [⟨tg, iter, ifs, 0⟩] scope pos) (some (.Name y py)) spos.line X.env = pure true) (hi : PI X tg iter wi) (ok : BlkOk X.N X.env.scope scope own)
    (hg : ∀ (s : Shared) (H : Hp) (C : Addr) (cl : List (Str × Addr)) (fp : List Addr) (xe : Value → Shared → Prop), PG (blkX X s H scope (compEnvC scope cl C X.env) fp xe) tg g)
    (ht : ∀ (s : Shared) (H : Hp) (C : Addr) (cl : List (Str × Addr)) (fp : List Addr) (xe : Value → Shared → Prop) (W' : WX), PassB (blkX X s H scope (compEnvC scope cl C X.env) fp xe) W' → PTs (blkX X s H scope (compEnvC scope cl C X.env) fp xe) ifs (tt W'))
    (he : ∀ (s : Shared) (H : Hp) (C : Addr) (cl : List (Str × Addr)) (fp : List Addr) (xe : Value → Shared → Prop) (W' : WX), PassB (blkX X s H scope (compEnvC scope cl C X.env) fp xe) W' → PE (blkX X s H scope (compEnvC scope cl C X.env) fp xe) elt (te W'))
    (hsf : ∀ x, foldedSetIterable iter X.env x = pure x := by intro _; rfl) : PS X (.Assign [.Name y py] (.ListComp elt [⟨tg, iter, ifs, 0⟩] scope pos) spos) (tAsg (tLcX W wi g tt te (own.map (·.2))) (gName i)) := ⟨fun pins s σ H D I h => by
  rw [exec_Assign_Name_used _ _ _ _ hsw]
  refine wpAny_bind (wpAny_standAt (wpAny_bind ?_))
  show wpAny _ X.A (do let _ ← comprehension (.ListComp elt [⟨tg, iter, ifs, 0⟩] scope pos) scope X.env (firstIterPos [⟨tg, iter, ifs, 0⟩] pos) (newList []) false (eval iter X.env) (some (assign (.Name y py) X.env))) _ _ s
  have h' : tLcX W wi g tt te (own.map (·.2)) σ H (fun x H1 => gName i x σ H1 D.nx) := h
  refine wpAny_bind (thn (lcX (Qf := fun _ s' => SP X pins D .next s') hst hfm tk calm nd I hi ok hg ht he hsf h' fun L C s2 m H2 I2 q hn ⟨f0, f1, f2, f3, f4, f5⟩ => ?_) fun _ s' hq => wpAny_pure (wpAny_pure hq))
  show wpAny _ _ (assign (.Name y py) X.env (.ref L)) _ _ _
  refine wpAny_assign_Name (store_ok2 (v := V.ref L) I2 nd hy (.inl hyl) rfl (fun s3 I3 ⟨a, sb, ha⟩ => ⟨m, hn.sameBut sb ?_, fun h3 sb3 => ?_⟩) (.inr hyl))
  · rcases ha with z | z
    · rw [z]; exact f1
    · exact fun e => f4 y a z e.symm
  · exact ⟨_, H2, I3.turned (t' := s3.toks) (fun b o hb e => (sb3.2 b hb).trans e) f0 f1 f3 f4 f5, q⟩⟩
end
section
variable {X : Cx} {W : WX} {k : Nat} {C : Addr} {ps : List Str} {s : SpD} {x m : Str} {p pos apos : Pos} {e o : Expr} {es : List Expr} {ta : TE} {t : TA}
theorem callPB (px : PassB X W) (F : Pk X.prog X.w X.K X.mg X.base k (x, none) ps s) (room : Room k X.A) (gd : X.A.guards = some []) (gl : Gl X x) (mgx : X.mg x = some (.ref (He.ga X.K x)))
    (ha : PA X (e :: es) t) (h1 : (x == ("__debug__" : Str)) = false := by decide) (h2 : starEach (e :: es) X.env = (false, eval e X.env) :: starEach es X.env := by rfl) (h3 : (backTo pos (starEach es X.env)).any (·.1) = false := by rfl) :
    PE X (.Call (.Name x p) (e :: es) [] pos) (tCallW (toSp X.K s) (WE W) t) := by
  obtain ⟨fd, F, kp, b⟩ := F
  exact callG F room gd b px gl mgx kp ha h1 h2 h3
theorem callPB0 (px : PassB X W) (F : Pk X.prog X.w X.K X.mg X.base k (x, none) ps s) (room : Room k X.A) (gd : X.A.guards = some []) (gl : Gl X x) (mgx : X.mg x = some (.ref (He.ga X.K x)))
    (h1 : (x == ("__debug__" : Str)) = false := by decide) : PE X (.Call (.Name x p) [] [] pos) (tCallW (toSp X.K s) (WE W) tNil) := by
  obtain ⟨fd, F, kp, b⟩ := F
  exact callG0 F room gd b px gl mgx kp h1
theorem methPB {c : Str} {pl : Sem Bool} (px : PassB X W) (he : PE X o ta) (cl : Cls X.K (He.ga X.K c)) (mt : Meth X.K (He.ga X.K c) m (He.ma X.K (He.ga X.K c) m)) (F : Pk X.prog X.w X.K X.mg X.base k (c, some m) ps s) (room : Room k X.A) (gd : X.A.guards = some []) (ha : PA X (e :: es) t)
    (h2 : starEach (e :: es) X.env = (false, eval e X.env) :: starEach es X.env := by rfl) (h3 : (backTo pos (starEach es X.env)).any (·.1) = false := by rfl)
    (ht : eval (.Call (.Attribute o m apos) (e :: es) [] pos) X.env = (do let ov ← eval o X.env; standAt apos.atName; let (f, first) ← holding [ov] (getMethod ov m pl); callWith pos f first (backTo pos (starEach (e :: es) X.env)) (backToKw pos (keywordEach [] X.env))) := by rfl) :
    PE X (.Call (.Attribute o m apos) (e :: es) [] pos) (tMethW (He.ga X.K c) m (toSp X.K s) (WE W) ta t) := by
  obtain ⟨fd, F, kp, b⟩ := F
  exact methG he cl mt F room gd b px ha h2 h3 ht
theorem methPB0 {c : Str} {pl : Sem Bool} (px : PassB X W) (he : PE X o ta) (cl : Cls X.K (He.ga X.K c)) (mt : Meth X.K (He.ga X.K c) m (He.ma X.K (He.ga X.K c) m)) (F : Pk X.prog X.w X.K X.mg X.base k (c, some m) ps s) (room : Room k X.A) (gd : X.A.guards = some [])
    (ht : eval (.Call (.Attribute o m apos) [] [] pos) X.env = (do let ov ← eval o X.env; standAt apos.atName; let (f, first) ← holding [ov] (getMethod ov m pl); callWith pos f first (backTo pos (starEach [] X.env)) (backToKw pos (keywordEach [] X.env))) := by rfl) :
    PE X (.Call (.Attribute o m apos) [] [] pos) (tMethW (He.ga X.K c) m (toSp X.K s) (WE W) ta tNil) := by
  obtain ⟨fd, F, kp, b⟩ := F
  exact methG0 he cl mt F room gd b px ht
end
section
variable {K : KX} {n : Nat} {ρ : Env} {γ : Ga}
theorem de_lcX {wi : TI} {g : TG} {tt : WX → TT} {te : WX → TE} {vs : List Nat} {Q : QD} (is : List Nat) (hsub : ∀ i ∈ is, i ∈ vs)
    (h : dI K wi ρ γ fun ds γ1 => ds.length ≤ 1000000 ∧ ∃ P : Nat → List D → Ga → Prop, P 0 [] γ1 ∧
      (∀ i x acc γ', ds[i]? = some x → P i acc γ' → dG K g x (wipeE ρ vs) γ' is fun ρ2 γ2 => ∀ W', dT ⟨K.f, W', fun _ => K.e ρ⟩ (tt W') ρ2 γ2 fun b γ3 => if b = true then dE ⟨K.f, W', fun _ => K.e ρ⟩ (te W') ρ2 γ3 fun y γ4 => P (i + 1) (acc ++ [y]) γ4 else P (i + 1) acc γ3) ∧
      ∀ acc γ', P ds.length acc γ' → Q (.lst acc) γ') : dE K (tLcX K.E wi g tt te vs) ρ γ Q := fun σ H α q r g0 w => by
  have inK : ∀ {H' : Hp} {α' : Al} {γ' : Ga}, Ext α H α' H' → GaX K H' α' γ' → GaX ⟨K.f, wIn K.E σ, fun _ => K.e ρ⟩ H' α' γ' := fun e g => ⟨g.toGaOk, fun σ' ρ' C dd fs ds γ2 α2 H2 he _ e2 g2 hd nd rl => g.exc σ ρ C dd fs ds γ2 α2 H2 he (r.mono (e.trans e2)) e2 g2 hd nd rl⟩
  refine h σ H α _ r g0 fun J H1 α1 γ1 ds h1 e1 g1 wk => ?_
  obtain ⟨hlen, P, p0, hs, hd⟩ := h1
  intro Da hDa
  -- the new list is mutable while the loop runs, but has no number
  have ex := ext_hid g1 (o := .lst []) hDa
  have gx := ga_hid g1 (o := .lst []) hDa
  refine ⟨fun i m H => m = ds.length - i ∧ i ≤ ds.length ∧ ∃ acc us α γ, P i acc γ ∧ acc.length ≤ i ∧ H Da = some (.lst us) ∧ Da ∈ α.x ∧ RpL K H α us acc ∧ Ext α1 H1 α H ∧ GaX K H α γ,
    ⟨ds.length, by simp, Nat.zero_le _, [], [], α1.hid Da, γ1, p0, Nat.le_refl _, upd_same, List.mem_cons_self, .nil, ex, gx⟩, ?_⟩
  rintro i m H2 ⟨rfl, hi, acc, us, α2, γ2, p2, hacc, hD2, nD2, ra2, e2, g2⟩
  by_cases hlt : i < ds.length
  · refine .inr ⟨wk.go i H2 α2 γ2 e2 g2 hlt, fun H => i + 1 ≤ ds.length ∧ ∃ acc us α γ, P (i + 1) acc γ ∧ acc.length ≤ i + 1 ∧ H Da = some (.lst us) ∧ Da ∈ α.x ∧ RpL K H α us acc ∧ Ext α1 H1 α H ∧ GaX K H α γ, fun H' hh => ⟨ds.length - (i + 1), by omega, rfl, hh⟩, fun x H' y => ?_⟩
    obtain ⟨d, hd1, e3, g3, r3⟩ := wk.yld i H2 α2 γ2 x H' hlt e2 g2 y
    refine hs i d acc γ2 hd1 p2 (wipe σ vs) H' α2 x _ (rpe_wipe (r.mono ((e1.trans e2).trans e3)) vs) g3 r3 fun σ4 H4 α4 ρ4 γ4 h4 s4 e4 g4 r4 => ?_
    refine ⟨wipe_eq s4 hsub, ?_⟩
    refine h4 _ σ4 H4 α4 _ r4 (inK (((e1.trans e2).trans e3).trans e4) g4) fun b H5 α5 γ5 h5 e5 g5c => ?_
    have g5 : GaX K H5 α5 γ5 := g4.go g5c.toGaOk e5
    have e25 := (e3.trans e4).trans e5
    have inx : ∀ {α6 : Al} {H6 : Hp}, Ext α2 H2 α6 H6 → Da ∈ α6.x := fun e => by
      obtain ⟨δ, q, _⟩ := e.xx
      rw [q]
      exact List.mem_append_right _ nD2
    cases b with
    | true =>
      refine iteT (h5 σ4 H5 α5 _ (r4.mono e5) (inK ((((e1.trans e2).trans e3).trans e4).trans e5) g5) fun y H6 α6 yd γ6 h6 e6 g6c r6 => ?_)
      have g6 : GaX K H6 α6 γ6 := g5.go g6c.toGaOk e6
      have e26 := e25.trans e6
      have hD6 := e26.keepx _ _ nD2 hD2
      have nD6 := inx e26
      have ew := ext_setW g6 (o := .lst (us ++ [y])) (.inr nD6)
      refine ⟨us, hD6, ?_, hlt, acc ++ [yd], us ++ [y], α6, γ6, h6, by simp; omega, upd_same, nD6, ?_, ext_hset g1 (e2.trans e26) hDa, g1.go (ga_hset0 g6.toGaOk nD6) (ext_hset g1 (e2.trans e26) hDa)⟩
      · rw [(RpL.length ra2)]
        exact size24 (by omega)
      · exact RpL.monoW ew _ _ ((RpL.mono e26 _ _ ra2).append (.cons r6 .nil))
    | false =>
      exact iteF ⟨hlt, acc, us, α5, γ5, h5, by omega, e25.keepx _ _ nD2 hD2, inx e25, RpL.mono e25 _ _ ra2, e2.trans e25, g5⟩
  · have ei : i = ds.length := by omega
    subst ei
    have nh : Da ∉ α2.h := fun z => g2.nd.2.2 Da z nD2
    exact .inl ⟨wk.stop _ H2 α2 γ2 e2 g2 (Nat.le_refl _), w _ H2 (α2.un Da) _ γ2 (hd acc γ2 p2) (e1.trans (ext_un g1 e2 hDa)) (g1.go (ga_un0 g2.toGaOk) (ext_un g1 e2 hDa)) (.lst (out_un nh) hD2 (RpL.shw (α := α2) (α' := α2.un Da) rfl un_x _ _ ra2))⟩
end
end DL

set_option Elab.async false
set_option linter.all false
set_option maxRecDepth 100000
set_option maxHeartbeats 2000000
namespace DL
open PySem PySem.Spec PyProof.Rows L2

/-! ### tuples and lists alike -/
def gAny (K : Frag) (n : Nat) (gs : TGs) : TG := fun v σ H q => gTup K n gs v σ H q ∨ gUnl K n gs v σ H q
theorem pg_any {X : Cx} {es : List Expr} {k : Nat} {t : TGs} {n : Nat} {pos : Pos} (hc : X.calm = true) (h : PGs X es t)
    (hn : (assignEach es X.env).length = n := by rfl) (hst : (assignEach es X.env).findIdx? (·.1) = none := by rfl) : PG X (.Tuple es k pos) (gAny X.K n t) :=
  ⟨fun pins s σ H v u Q I r hw => hw.elim (fun hw => (pg_tup hc h hn hst).run pins s σ H v u Q I r hw) fun hw => (pg_unl hc h hn hst).run pins s σ H v u Q I r hw⟩
def iAny (K : Frag) (te : TE) : TI := fun σ H R => iList K te σ H R ∨ iTup K te σ H R
theorem pi_any {X : Cx} {tg e : Expr} {a b : TI} (h1 : PI X tg e a) (h2 : PI X tg e b) : PI X tg e (fun σ H R => a σ H R ∨ b σ H R) :=
  ⟨fun pins s σ H R I h => h.elim (fun h => h1.run pins s σ H R I h) fun h => h2.run pins s σ H R I h⟩
section
variable {K : KX} {ρ : Env} {γ : Ga} {Q : QD}
theorem dg_any {m : Nat} {gs : TGs} {x : D} {ds : List D} {is : List Nat} {N : Env → Ga → Prop} (hx : SqD γ x ds) (hl : ds.length = m) (h : dGs K gs ds ρ γ is N) : dG K (gAny K.f m gs) x ρ γ is N := fun σ H α v q r g rv w => by
  rcases hx with hx | rfl | rfl
  · exact .inr (dg_lst hx hl h σ H α v q r g rv w)
  · exact .inl (dg_tup hl h σ H α v q r g rv w)
  · cases rv with
    | cst h1 h2 => exact .inl ⟨_, _, rfl, h1.sq, h2.length.trans hl, h σ H α _ q r g h2 w⟩
theorem xg_any {m : Nat} {gs : TGs} {x : D} {N : Env → Ga → Prop} (h : ∃ ds, SqD γ x ds ∧ ds.length = m ∧ ∃ is, dGs K gs ds ρ γ is N) : ∃ is, dG K (gAny K.f m gs) x ρ γ is N := by
  obtain ⟨ds, h1, h2, is, h3⟩ := h
  exact ⟨is, dg_any h1 h2 h3⟩
theorem di_any {i : Nat} {d : D} {ds : List D} {R : List D → Ga → Prop} (hd : ρ[i]? = some (some d)) (hs : d = .lst ds ∨ d = .tup ds ∨ d = .cst ds) (h : R ds γ) : dI K (iAny K.f (tVar i)) ρ γ R := fun σ H α q r g w => by
  rcases hs with rfl | hs
  · exact .inl (di_list (de_var hd ⟨ds, rfl, h⟩) σ H α q r g w)
  · exact .inr (di_tup (de_var hd ⟨ds, hs, h⟩) σ H α q r g w)
/-! ### dict(pairs), xs.insert -/
def mergeP {κ : Type} [DecidableEq κ] (ps more : List (κ × D)) : List (κ × D) := more.foldl (fun acc p => putP acc p.1 p.2) ps
def rDictP (K : Frag) : List V → Hp → VK → Prop := fun xs H Q => ∃ (a : Addr) (ps : List Addr) (kvs : List (Key × V)), xs = [.ref a] ∧ SqL K H a (ps.map V.ref) ∧ Paired (fun p kv => SqT K H p [kV kv.1, kv.2]) ps kvs ∧
    ∀ p, H p = none → Q (.ref p) (upd H p (.dK (mergeK [] kvs)))
theorem call_dictG {X : Cx} (h : X.calm = true) : CallR X (.type "dict") (rDictP X.K) := call_dictP h
theorem merge_rp {K : Frag} {H : Hp} {α : Al} : ∀ {more : List (Key × V)} {mo : List (Key × D)} {kvs : List (Key × V)} {ps : List (Key × D)}, more.map (·.1) = mo.map (·.1) → RpL K H α (more.map (·.2)) (mo.map (·.2)) → kvs.map (·.1) = ps.map (·.1) → RpL K H α (kvs.map (·.2)) (ps.map (·.2)) →
    (mergeK kvs more).map (·.1) = (mergeP ps mo).map (·.1) ∧ RpL K H α ((mergeK kvs more).map (·.2)) ((mergeP ps mo).map (·.2)) := by
  intro more
  induction more with
  | nil =>
    intro mo kvs ps e r e2 r2
    cases mo with
    | nil => exact ⟨e2, r2⟩
    | cons _ _ => cases e
  | cons p t ih =>
    intro mo kvs ps e r e2 r2
    cases mo with
    | nil => cases e
    | cons q mo =>
      obtain ⟨a, b⟩ := p
      obtain ⟨a', b'⟩ := q
      simp only [List.map_cons, List.cons.injEq] at e
      obtain ⟨rfl, e⟩ := e
      cases r with
      | cons r1 r3 =>
        obtain ⟨i1, i2, _⟩ := putK_rp (k := a) r1 e2 r2
        exact ih (mo := mo) (kvs := putK kvs a b) (ps := putP ps a b') e r3 i1 i2
/-- pairs, each a tuple of a key and a value -/
def pairD (p : Key × D) : D := .tup [match p.1 with | .inl i => .int i | .inr s => .str s, p.2]
theorem pair_rp {K : Frag} {H : Hp} {α : Al} : ∀ {us : List V} {ps : List (Key × D)}, RpL K H α us (ps.map pairD) → ∃ (as : List Addr) (kvs : List (Key × V)), us = as.map V.ref ∧ Paired (fun p kv => SqT K H p [kV kv.1, kv.2]) as kvs ∧ kvs.map (·.1) = ps.map (·.1) ∧ RpL K H α (kvs.map (·.2)) (ps.map (·.2)) := by
  intro us
  induction us with
  | nil =>
    intro ps h
    cases ps with
    | nil => exact ⟨[], [], rfl, .nil, rfl, .nil⟩
    | cons _ _ => cases h
  | cons u us ih =>
    intro ps h
    cases ps with
    | nil => cases h
    | cons p ps =>
      cases h with
      | cons h1 h2 =>
        obtain ⟨as, kvs, rfl, pr, e, r⟩ := ih h2
        obtain ⟨k, d⟩ := p
        cases h1 with
        | @tup a vs _ ht hv =>
          have hk : ∃ v, vs = [kV k, v] ∧ Rp K H α v d := by
            cases k with
            | inl i =>
              cases hv with
              | cons a1 a2 =>
                cases a1
                cases a2 with
                | cons a3 a4 =>
                  cases a4
                  exact ⟨_, rfl, a3⟩
            | inr i =>
              cases hv with
              | cons a1 a2 =>
                cases a1
                cases a2 with
                | cons a3 a4 =>
                  cases a4
                  exact ⟨_, rfl, a3⟩
          obtain ⟨v, rfl, rv⟩ := hk
          exact ⟨a :: as, (k, v) :: kvs, rfl, .cons ht.sq pr, by simp [e], .cons rv r⟩
theorem rc_dictP {x : D} {ps : List (Key × D)} (hx : vw γ x = .lst (ps.map pairD)) (q : Q (.dic ((mergeP [] ps).map (·.1)) ((mergeP [] ps).map (·.2))) γ) : dRC K (rDictP K.f) [x] γ Q := fun H α vs w g r wv => by
  cases r with
  | cons ru rn =>
    cases rn
    obtain ⟨a, us, rfl, ha, rl⟩ := lst_vw g ru hx
    obtain ⟨as, kvs, rfl, pr, e, r2⟩ := pair_rp rl
    obtain ⟨m1, m2⟩ := merge_rp (kvs := []) (ps := []) e r2 rfl .nil
    refine ⟨a, as, kvs, rfl, SqL.of ha, pr, fun p hp => ?_⟩
    have ex := ext_imm g (o := .dK (mergeK [] kvs)) hp
    refine wv _ _ α _ γ q ex (ga_imm g hp) ?_
    rw [← m1]
    exact .dic (g.new hp) upd_same (RpL.mono ex _ _ m2)
theorem rc_dictPM {x : D} {ps : List (Key × D)} (hx : vw γ x = .lst (ps.map pairD)) (q : Q (.loc γ.length) (γ ++ [moK (mergeP [] ps)])) : dRC K (rDictP K.f) [x] γ Q := fun H α vs w g r wv => by
  cases r with
  | cons ru rn =>
    cases rn
    obtain ⟨a, us, rfl, ha, rl⟩ := lst_vw g ru hx
    obtain ⟨as, kvs, rfl, pr, e, r2⟩ := pair_rp rl
    obtain ⟨m1, m2⟩ := merge_rp (kvs := []) (ps := []) e r2 rfl .nil
    refine ⟨a, as, kvs, rfl, SqL.of ha, pr, fun p hp => ?_⟩
    have ex := ext_loc g (o := .dK (mergeK [] kvs)) hp
    exact wv _ _ (α.push p) _ _ q ex (ga_loc g hp ⟨_, upd_same, m1, RpL.mono ex _ _ m2⟩) (.loc (by show (α.h ++ [p])[γ.length]? = _; rw [← g.len]; simp))
def rInsert : V → List V → Hp → VK → Prop := fun x vs H Q => ∃ (l : Addr) (xs : List V) (i : Int) (y : V), x = .ref l ∧ vs = [.int i, y] ∧ H l = some (.lst xs) ∧ xs.length < sizeLine ∧ 0 ≤ i ∧ i < 2 ^ 63 ∧
    Q .non (upd H l (.lst (xs.take i.toNat ++ [y] ++ xs.drop i.toNat)))
theorem mt_insertG {X : Cx} : MtR X "list.insert" rInsert := mt_insert
theorem rm_insert {x y : D} {i : Nat} (h : ∃ k xs, x = .loc k ∧ γ[k]? = some (.lst xs) ∧ xs.length < 1000000 ∧ i < 1000000 ∧ Q .non (γ.set k (.lst (xs.take i ++ [y] ++ xs.drop i)))) : dRM K rInsert x [.int i, y] γ Q := fun H α v vs q g r1 r2 wv => by
  obtain ⟨k, xs, rfl, hk, hl, hi, hq⟩ := h
  cases r1 with
  | @loc _ a ha =>
    obtain ⟨us, h1, h2⟩ := g.at_ _ _ _ ha hk
    cases r2 with
    | cons ri r2 =>
      cases r2 with
      | @cons v2 _ _ _ ry r2 =>
        cases ri
        cases r2
        have ex := ext_set g (o := .lst (us.take i ++ [v2] ++ us.drop i)) (List.mem_of_getElem? ha)
        refine ⟨a, us, i, _, rfl, rfl, h1, by rw [h2.length]; exact size24 hl, by omega, by omega, ?_⟩
        rw [Int.toNat_natCast]
        exact wv .non _ α .non _ hq ex (ga_set g ha ⟨_, upd_same, (((RpL.mono ex _ _ h2).take i).append (.cons (Rp.mono ex _ _ ry) .nil)).append ((RpL.mono ex _ _ h2).drop i)⟩) .non
theorem rc_isiT {x : D} {T : String} {ns : List String} {b : Bool} (hx : tyName γ x = some T) (hk : PySem.W.kitAny K.f (.type T) (ns.map Value.type) = some b) (q : Q (.bl b) γ) : dRC K (rIsiT K.f) [x, .tup (ns.map D.ty)] γ Q := fun H α vs w g r wv => by
  cases r with
  | cons ru rn =>
    cases rn with
    | cons r2 rn =>
      cases rn
      cases r2 with
      | tup h1 h2 =>
        have key : ∀ {us : List V} {ns : List String}, RpL K.f H α us (ns.map D.ty) → Paired ClsV us (ns.map Value.type) := by
          intro us
          induction us with
          | nil =>
            intro ns h
            cases ns with
            | nil => exact .nil
            | cons _ _ => cases h
          | cons u us ih =>
            intro ns h
            cases ns with
            | nil => cases h
            | cons n ns =>
              cases h with
              | cons a1 a2 =>
                cases a1
                exact .cons (.ty n) (ih a2)
        exact ⟨_, _, _, _, _, b, rfl, h1.2, key h2, tyX_rp g ru hx, hk, wv _ H α _ γ q g.refl g (.bl _)⟩
theorem xc_isiT {x : D} {ns : List String} (h : ∃ T b, tyName γ x = some T ∧ PySem.W.kitAny K.f (.type T) (ns.map Value.type) = some b ∧ Q (.bl b) γ) : dRC K (rIsiT K.f) [x, .tup (ns.map D.ty)] γ Q := by
  obtain ⟨T, b, h1, h2, h3⟩ := h
  exact rc_isiT h1 h2 h3
end
end DL

set_option Elab.async false
set_option linter.all false
namespace DL
open PySem PySem.Spec PyProof.Rows L2
/-! sequences read: which kind -/
theorem sq_c {γ : Ga} {xs : List D} : SqD γ (.cst xs) xs := .inr (.inr rfl)
theorem sq_t {γ : Ga} {xs : List D} : SqD γ (.tup xs) xs := .inr (.inl rfl)
theorem sq_l {γ : Ga} {xs : List D} : SqD γ (.lst xs) xs := .inl rfl
theorem sq_v {γ : Ga} {x : D} {xs : List D} (h : vw γ x = .lst xs) : SqD γ x xs := .inl h
theorem sq_g {γ : Ga} {k : Nat} {xs : List D} (h : γ[k]? = some (.lst xs)) : SqD γ (.loc k) xs := .inl (vw_loc h)
theorem cx_none {P : Program} {w : World} {outer : List PySem.Env} {H : Hp} {s : Shared} {u : Value} {s' : Shared} (z : L2.CX P w outer H s (fun _ _ _ => False) u s') : False := by
  obtain ⟨_, _, _, _, _, _, _, _, _, _, _, _, h⟩ := z
  exact h
theorem ifdT {c : Prop} [Decidable c] {p q : Prop} (h : c) (hp : p) : if decide c = true then p else q := by rw [if_pos (decide_eq_true h)]; exact hp
theorem ifdF {c : Prop} [Decidable c] {p q : Prop} (h : ¬ c) (hp : q) : if decide c = true then p else q := by rw [if_neg (by simpa using h)]; exact hp
theorem ifnT {c : Prop} [Decidable c] {p q : Prop} (h : ¬ c) (hp : p) : if (!decide c) = true then p else q := by rw [if_pos (by simpa using h)]; exact hp
theorem ifnF {c : Prop} [Decidable c] {p q : Prop} (h : c) (hp : q) : if (!decide c) = true then p else q := by rw [if_neg (by simpa using h)]; exact hp
theorem ifbT {b : Bool} {p q : Prop} (h : b = true) (hp : p) : if b = true then p else q := by rw [if_pos h]; exact hp
theorem ifbF {b : Bool} {p q : Prop} (h : b = false) (hp : q) : if b = true then p else q := by rw [if_neg (by rw [h]; decide)]; exact hp
section
variable {K : KX} {ρ : Env} {γ : Ga} {Q : QD}
theorem rsl_tup {xs : List D} {lo hi : Option Int} (hw : ¬ (HT.sIx xs.length 0 lo = 0 ∧ HT.sIx xs.length xs.length hi = xs.length)) (q : Q (.tup (cutD xs lo hi)) γ) : dRS K (rSlG K.f) (.tup xs) lo hi γ Q := fun H α v k g r1 wv => by
  cases r1 with
  | @tup a us _ h1 ru =>
    refine .inr (.inl ⟨a, us, rfl, h1.sq, by rw [ru.length]; exact hw, fun p hp => ?_⟩)
    refine wv _ _ α _ γ q (ext_imm g hp) (ga_imm g hp) (.tup ⟨g.new hp, upd_same⟩ (RpL.mono (ext_imm g hp) _ _ ?_))
    unfold cutV cutD
    rw [ru.length]
    exact (ru.drop _).take _
theorem rc_abs {i : Int} (q : Q (.int (i.natAbs : Int)) γ) : dRC K rAbs [.int i] γ Q := fun H α vs w g r wv => by
  cases r with
  | cons ru rn =>
    cases ru; cases rn
    refine ⟨i, rfl, ?_⟩
    have e : (if i < 0 then -i else i) = (i.natAbs : Int) := by split <;> omega
    rw [e]
    exact wv _ H α _ γ q g.refl g (.int _)
theorem di_any_l {te : TE} {R : List D → Ga → Prop} (h : dI K (iList K.f te) ρ γ R) : dI K (iAny K.f te) ρ γ R := fun σ H α q r g w => .inl (h σ H α q r g w)
theorem di_any_t {te : TE} {R : List D → Ga → Prop} (h : dI K (iTup K.f te) ρ γ R) : dI K (iAny K.f te) ρ γ R := fun σ H α q r g w => .inr (h σ H α q r g w)
end
end DL

set_option Elab.async false
set_option linter.all false
set_option maxRecDepth 100000
set_option maxHeartbeats 4000000
/-! own exceptions as values: made, asked for a field, for their class -/
namespace DL
open PySem PySem.Spec PyProof.Rows L2 NdefX

def tMkV (C : Addr) (sp : Sp) (ta : TA) : TE := fun σ H Q => ta σ H fun vs H1 => vs.length ≤ 1000 ∧ ∀ a, H1 a = none → sp (.ref a :: (vs ++ [])) (upd H1 a (exo a C none)) (fun v H2 => v = .non ∧ Q (.ref a) H2) (fun _ _ _ => False)
section
variable {X : Cx} {e : Expr} {es : List Expr} {ta : TA} {p pos : Pos}
theorem pe_mkv {x : Str} {C fI : Addr} {k : Nat} {fd : FuncData} {ps : List Str} {sp : Sp} (T : OexC X.K C) (iC : PySem.W.findIn X.K (.ref C) "__init__" = some (some (.ref fI))) (tI : PySem.W.typeIn X.K (.ref fI) = some (.type "function"))
    (F1 : FnG X.prog X.w X.K X.mg X.base (L2.CX X.prog X.w) k fI fd ps sp) (hr : Room (k + 1) X.A) (gd : X.A.guards = some []) (hb : Binds X.K fd ps []) (hg : Gl X x) (hm : X.mg x = some (.ref C)) (ha : PA X (e :: es) ta)
    (hdb : (x == ("__debug__" : Str)) = false := by decide) (he : starEach (e :: es) X.env = (false, eval e X.env) :: starEach es X.env := by rfl) (hpl : (backTo pos (starEach es X.env)).any (·.1) = false := by rfl) :
    PE X (.Call (.Name x p) (e :: es) [] pos) (tMkV C sp ta) := by
  refine ⟨fun pins s σ H Q I h => ?_⟩
  obtain ⟨nm, q, N, bs, bm, sn, sub, ab, col, dd, k0, k1, k2, k3, k5, hC, hbm⟩ := T.cls
  refine wpAny_Call_Name_kw (ld_glob I hg hm ?_ hdb)
  refine PySem.W.callWith_K (h₀ := X.base) I.ok.mod.kin T.kC (thn (ha.run pos pins s σ H _ I h) fun us s1 ⟨vs, H1, I1, r1, hz, q1⟩ => ⟨I1.kIn, ?_⟩) he hpl
  show wpAny _ _ (call (.ref C) us) _ _ _
  obtain ⟨hp, g, dr, tk, os⟩ := s1
  have hsz : hp.objs.size ≤ hp.objs.size + 1 := Nat.le_succ _
  have hn : H1 (hp.objs.size + 1) = none := I1.hok.fresh hsz
  have hq := q1 (hp.objs.size + 1) hn
  rw [List.append_nil] at hq
  have hget : ((hp.push (PySem.W.kdv_tup us)).push (PySem.HandSPX.excO C hp.objs.size)).get? (hp.objs.size + 1) = some (PySem.HandSPX.excO C hp.objs.size) := by heap_get
  have I2 : Inv X pins σ (upd H1 (hp.objs.size + 1) (exo (hp.objs.size + 1) C none)) ⟨(hp.push (PySem.W.kdv_tup us)).push (PySem.HandSPX.excO C hp.objs.size), g, dr, tk, os⟩ :=
    I1.laid (t' := tk) (fun b o z => Heap.get?_push_of_some _ (Heap.get?_push_of_some _ z)) hsz (exo_ok hget)
  have r2 : Vals (V.ref (hp.objs.size + 1) :: vs) (Value.ref (hp.objs.size + 1) :: us) := .cons rfl r1
  have hl : (Value.ref (hp.objs.size + 1) :: us ++ []).length = ps.length := by
    rw [List.append_nil, ← r2.length]
    exact F1.len _ _ _ _ hq
  have hus : us.length ≤ sizeLine := by rw [← Paired.length r1, sizeLine_eq]; omega
  have bd := hb _ (Value.ref (hp.objs.size + 1) :: us) I2.kIn hl
  rw [List.append_nil] at bd
  have run := F1.run _ X.stack _ _ ⟨Value.ref (hp.objs.size + 1) :: us, []⟩ (Value.ref (hp.objs.size + 1) :: us) _ _ (fun _ _ _ => False) (hr.make C us []) (by simp [Around.under, gd, Code.guards, Code.isGuard, pushGuards, guardIds]) (I2.env0.make C us []) bd r2 hq
  refine wpAny_call (PySem.HandSPX.call_own F.excBase_ValueError (fun Y => PySem.HandSPX.refsVE_contains Y bm hbm) (I1.kIn _ _ hC) (PySem.W.looks_findIn I1.kIn iC) (fun self => PySem.W.bind_fn I1.kIn self tI) hus (codeAny_mono run fun r s' hq' => ?_))
  match r, hq' with
  | .error er, ⟨_, _, _, _, _, _, _, _, _, _, _, _, z⟩ => exact z.elim
  | .ok (.ret u), hq' =>
    obtain ⟨v, H', J', rv2, ev, q3⟩ := I2.after hq'
    subst ev
    exact ⟨rv2, V.ref (hp.objs.size + 1), H', J', rfl, q3⟩
  | .ok .next, hq' => exact hq'.elim
  | .ok .brk, hq' => exact hq'.elim
  | .ok .cont, hq' => exact hq'.elim
theorem mkvP {k j : Nat} {x : Str} {names : List Str} {spf : SpD} (F : PkE X.prog X.w X.K X.mg X.base j x names spf) (hj : j + 1 ≤ k) (room : Room k X.A) (gd : X.A.guards = some []) (gl : Gl X x) (mgx : X.mg x = some (.ref (He.ga X.K x)))
    (ha : PA X (e :: es) ta) (hdb : (x == ("__debug__" : Str)) = false := by decide) (he : starEach (e :: es) X.env = (false, eval e X.env) :: starEach es X.env := by rfl) (hpl : (backTo pos (starEach es X.env)).any (·.1) = false := by rfl) :
    PE X (.Call (.Name x p) (e :: es) [] pos) (tMkV (He.ga X.K x) (spIni X.K (He.ga X.K x) spf names) ta) := by
  obtain ⟨fd, ps, F, b, T, iC, tI⟩ := F
  exact pe_mkv T iC tI F (room.mono hj) gd b gl mgx ha hdb he hpl
/-- e.f -/
def tXfV (K : Frag) (f : Str) (te : TE) : TE := fun σ H Q => te σ H fun x H1 => ∃ a C dd fs v, x = .ref a ∧ H1 a = some (exo a C (some dd)) ∧ H1 dd = some (exd dd fs) ∧ XfC K C ∧ PySem.W.findIn K (.ref C) f = some none ∧ fs.lookup f = some v ∧ Q v H1
theorem pe_xfv {te : TE} {n : Str} (he : PE X e te) (hb : attributeBase e n X.env (eval e X.env) = eval e X.env := by rfl) : PE X (.Attribute e n pos) (tXfV X.K n te) := by
  refine ⟨fun pins s σ H Q I h => ?_⟩
  refine attr_of hb (thn (he.run pins s σ H _ I h) fun u s1 hh => ?_)
  obtain ⟨x, H1, I1, rx, a, C, dd, fs, v, rfl, ea, ed, T, hno, l, q⟩ := hh
  obtain rfl : u = Value.ref a := rx
  obtain ⟨t1, ho⟩ := exo_at I1.hok ea
  obtain ⟨mA, hns, hr⟩ := exd_at I1.hok ed
  obtain ⟨od, hod, hl⟩ := lookIn_ns hns
  obtain ⟨u, hu, ru⟩ := RelO.some_of (v := v) (o := mA n) (by rw [← l]; exact hr n)
  have J : PySem.W.InstAt s1.heap a _ C (some od) := ⟨ho, rfl, rfl, hod⟩
  exact HandSPX.exc_get I1.kIn J T.ga T.gg T.exC (PySem.W.findObj_own T.hdC hno rfl (by rw [hl, hu])) (handed_of ru) ⟨v, H1, I1.tok _, ru, q⟩
/-- isinstance(e, c) -/
def rIsV (K : Frag) : List V → Hp → VK → Prop := fun xs H Q => ∃ (a C dd : Addr) (fs : List (Str × V)) (c : V) (cv : Value) (b : Bool), xs = [.ref a, c] ∧ H a = some (exo a C (some dd)) ∧ H dd = some (exd dd fs) ∧ ExcC K C ∧ (∀ u, RelV c u → u = cv) ∧ PySem.W.kitOne K (.ref C) cv = some b ∧ Q (.bl b) H
theorem call_isV : CallR X (.builtin "isinstance") (rIsV X.K) := by
  intro pins s σ H xs us Q I r h
  obtain ⟨a, C, dd, fs, c, cv, b, rfl, ea, ed, E, hcv, ek, q⟩ := h
  cases r with
  | cons rx rr =>
    cases rr with
    | cons rt rr =>
      cases rr
      cases rx
      have ec := hcv _ rt
      subst ec
      obtain ⟨t1, ho⟩ := exo_at I.hok ea
      obtain ⟨mA, hns, hr⟩ := exd_at I.hok ed
      obtain ⟨od, hod, hl⟩ := lookIn_ns hns
      have J : PySem.W.InstAt s.heap a _ C (some od) := ⟨ho, rfl, rfl, hod⟩
      have hcl : (PySem.W.clsIn X.K C).isSome = true := by
        obtain ⟨cd, hc, _⟩ := PySem.W.any_some E.hd
        rw [hc]; rfl
      exact PySem.W.kia_one (PySem.W.kitx_exc hcl E.hg E.hk E.hs E.ha E.hn E.ht E.hm) I.kIn J ek (fun z => nomatch z) fun tk => ⟨.bl b, H, I.kept (t' := tk) fun _ _ z => z, rfl, q⟩
end
section
variable {K : KX} {ρ : Env} {γ : Ga} {Q : QD}
theorem de_mkv {C : Addr} {spf : SpD} {names : List Str} {ta : TA} (h : dA K ta ρ γ fun ds γ1 => ds.length = names.length ∧ 0 < names.length ∧ names.length ≤ 20 ∧ ∃ es, FrzL spf γ1 ds es ∧ Q (.exv C names.reverse es.reverse) γ1) : dE K (tMkV C (spIni K.f C spf names) ta) ρ γ Q := fun σ H α q r g w =>
  h σ H α _ r g fun vs H1 α1 ds γ1 ⟨hl, hp, hm, es, fz, hq⟩ e1 g1 rl => by
    have hvl : vs.length = names.length := by rw [rl.length, hl]
    refine ⟨by omega, fun a ha => ?_⟩
    have ex := ext_hid0 g1.toGaOk (o := exo a C none) ha
    have gx := ga_hid0 g1.toGaOk (o := exo a C none) ha
    refine ⟨a, vs, α1, H1, α1.hid a, ds, es, γ1, by rw [List.append_nil], hvl, g1.toGaOk, ha, upd_same, ⟨ex, gx, List.mem_cons_self, .inl ⟨rfl, upd_same⟩, .nil⟩, RpL.mono ex _ _ rl, fz, hm, fun α' H' fs' M hnm => ⟨rfl, ?_⟩⟩
    rcases M.st with ⟨rfl, _⟩ | ⟨dx, hdx, ndx, hx, hd, h1d⟩
    · have := congrArg List.length hnm
      simp at this
      omega
    · have e2 := ext_un0 g1.toGaOk M.ext ha
      have e3 := ext_un0 g1.toGaOk e2 h1d
      have g3 : GaOk K.f H' ((α'.un a).un dx) γ1 := ga_un0 (ga_un0 M.ga)
      have nh : ∀ z, z ∈ α'.x → z ∉ α'.h := fun z hz hh => M.ga.nd.2.2 z hh hz
      have oa : a ∉ α'.un a := out_un (nh a M.hx)
      have oa2 : a ∉ (α'.un a).un dx := by
        rintro (z | z)
        · exact nh a M.hx z
        · exact oa (.inr (un_x a z))
      have od : dx ∉ (α'.un a).un dx := out_un (nh dx hdx)
      have rl2 := RpL.shw (α := α') (α' := (α'.un a).un dx) rfl (fun z hz => un_x z (un_x (α := α'.un a) z hz)) _ _ M.rl
      have rp : Rp K.f H' ((α'.un a).un dx) (.ref a) (.exv C (fs'.map (·.1)) es.reverse) := .exv oa2 od hx hd rl2
      rw [hnm] at rp
      exact w (.ref a) H' ((α'.un a).un dx) _ γ1 hq (e1.trans e3) (g1.go g3 e3) rp
theorem de_xfv {f : Str} {te : TE} (h : dE K te ρ γ fun d γ1 => ∃ C ns vs j x, d = .exv C ns vs ∧ XfC K.f C ∧ PySem.W.findIn K.f (.ref C) f = some none ∧ fix ns f = some j ∧ vs[j]? = some x ∧ Q x γ1) : dE K (tXfV K.f f te) ρ γ Q := fun σ H α q r g w =>
  h σ H α _ r g fun v H1 α1 d γ1 ⟨C, ns, vs, j, x, ed, hT, hno, hj, hx, hq⟩ e1 g1 r1 => by
    subst ed
    cases r1 with
    | @exv a dd _ fs _ h1 h2 h3 h4 h5 =>
      obtain ⟨u, q1, q2⟩ := lookup_fix hj
      obtain ⟨u', q3, q4⟩ := h5.get hx
      rw [q2] at q3
      cases q3
      exact ⟨a, C, dd, fs, u, rfl, h3, h4, hT, hno, q1, w u H1 α1 x γ1 hq e1 g1 q4⟩
/-- isinstance of a value that is an own exception, or of any other -/
theorem rc_isv {C E : Addr} {ns : List Str} {vs : List D} {b : Bool} (hE : ExcC K.f C) (hk : PySem.W.kitOne K.f (.ref C) (.ref E) = some b) (q : Q (.bl b) γ) : dRC K (rIsV K.f) [.exv C ns vs, .ref E] γ Q := fun H α us w g r wv => by
  cases r with
  | cons r1 r2 =>
    cases r2 with
    | cons r2 r3 =>
      cases r3
      cases r2
      cases r1 with
      | exv h1 h2 h3 h4 h5 => exact ⟨_, C, _, _, _, .ref E, b, rfl, h3, h4, hE, fun u hu => hu, hk, wv _ H α _ γ q g.refl g (.bl b)⟩
theorem rc_isvT {C : Addr} {T : String} {ns : List Str} {vs : List D} {b : Bool} (hE : ExcC K.f C) (hk : PySem.W.kitOne K.f (.ref C) (.type T) = some b) (q : Q (.bl b) γ) : dRC K (rIsV K.f) [.exv C ns vs, .ty T] γ Q := fun H α us w g r wv => by
  cases r with
  | cons r1 r2 =>
    cases r2 with
    | cons r2 r3 =>
      cases r3
      cases r2
      cases r1 with
      | exv h1 h2 h3 h4 h5 => exact ⟨_, C, _, _, _, .type T, b, rfl, h3, h4, hE, fun u hu => hu, hk, wv _ H α _ γ q g.refl g (.bl b)⟩
end
/-- the class facts for isinstance, decided -/
def excIB (K : Frag) (D : Addr) : Bool := decide (PySem.W.findIn K (.ref D) "__class__" = some (some (.builtin "object.__class__"))) && (decide (PySem.W.specialIn K (.builtin "object.__class__") "__get__" = some (some (.builtin "getset_descriptor.__get__"))) && (decide (PySem.W.takesIn K (.builtin "object.__class__") = some true) && decide (PySem.W.mroIn K D (.type "object") = some true)))
theorem excIB_ok {K : Frag} {D : Addr} (x : XfC K D) (h : excIB K D = true) : ExcC K D := by
  unfold excIB at h
  simp only [Bool.and_eq_true, decide_eq_true_eq] at h
  exact ⟨x.ga, x.gg, x.exC, x.hdC, h.1, h.2.1, h.2.2.1, h.2.2.2⟩
end DL

set_option Elab.async false
set_option linter.all false
set_option maxRecDepth 100000
set_option maxHeartbeats 2000000
namespace DL
open PySem PySem.Spec PyProof.Rows L2
section
variable {K : KX} {ρ : Env} {γ : Ga} {Q : QD}
theorem rm_extend {k : Nat} {xs zs : List D} {y : D} (hk : γ[k]? = some (.lst xs)) (hy : vw γ y = .lst zs) (hl : xs.length + zs.length ≤ 1000000) (q : Q .non (γ.set k (.lst (xs ++ zs)))) : dRM K rExtend (.loc k) [y] γ Q := fun H α v vs w g r1 r2 wv => by
  cases r1 with
  | @loc _ a ha =>
    obtain ⟨us, h1, h2⟩ := g.at_ k _ _ ha hk
    cases r2 with
    | @cons u _ _ _ ru rn =>
      cases rn
      obtain ⟨b, ws, rfl, hb, rw_⟩ := lst_vw g ru hy
      have ex := ext_set g (o := .lst (us ++ ws)) (List.mem_of_getElem? ha)
      exact ⟨a, b, us, ws, rfl, rfl, h1, hb, by rw [h2.length, rw_.length, sizeLine_eq]; omega, wv _ _ α _ _ q ex (ga_set g ha ⟨_, upd_same, RpL.mono ex _ _ (h2.append rw_)⟩) .non⟩
theorem rm_pop {k : Nat} {xs : List D} {y : D} (hk : γ[k]? = some (.lst (xs ++ [y]))) (q : Q y (γ.set k (.lst xs))) : dRM K rPop (.loc k) [] γ Q := fun H α v vs w g r1 r2 wv => by
  cases r1 with
  | @loc _ a ha =>
    obtain ⟨us, h1, h2⟩ := g.at_ k _ _ ha hk
    cases r2
    have hl := h2.length
    obtain ⟨u, hu, ru⟩ := h2.get (i := xs.length) (d := y) (by simp)
    have ex := ext_set g (o := .lst us.dropLast) (List.mem_of_getElem? ha)
    have hd := h2.dropLast
    rw [List.dropLast_concat] at hd
    exact ⟨a, us, u, rfl, rfl, h1, by rw [hl, List.length_append]; simpa using hu, wv _ _ α _ _ q ex (ga_set g ha ⟨_, upd_same, RpL.mono ex _ _ hd⟩) (Rp.mono ex _ _ ru)⟩
theorem strs_pl : ∀ ls : List (List Nat), plL (strsD ls) = true
  | [] => rfl
  | c :: cs => by
    show ((D.str (S c)).pl && plL (strsD cs)) = true
    rw [strs_pl cs]; rfl
def okS (l : List Nat) : Bool := PyData.strOk (S l)
theorem strs_shaped : ∀ ls : List (List Nat), ls.all okS = true → PyData.canLayAll0 (pyL (strsD ls)) = true ∧ PyData.depthAll (pyL (strsD ls)) = 0
  | [], _ => ⟨by simp [strsD, pyL, PyData.canLayAll0], by simp [strsD, pyL, PyData.depthAll]⟩
  | c :: cs, h => by
    rw [List.all_cons, Bool.and_eq_true] at h
    obtain ⟨h1, h2⟩ := strs_shaped cs h.2
    have h3 : PyData.strOk (S c) = true := h.1
    unfold strsD at h1 h2 ⊢
    refine ⟨?_, ?_⟩
    · simp only [List.map_cons, pyL, PyData.canLayAll0, D.py, PyData.canLay0, h1, h3]; rfl
    · simp only [List.map_cons, pyL, PyData.depthAll, D.py, PyData.depth, h2]; rfl
theorem rne_lnil {x : D} {ls : List (List Nat)} (ok : ls.all okS = true) (hx : vw γ x = .lst (strsD ls)) (q : Q (.bl (!decide (ls = []))) γ) : dR2 K (rNeG K) x (.lst []) γ Q := by
  refine rne_D (by rw [hx]; exact strs_pl ls) rfl (by rw [hx]; obtain ⟨h1, h2⟩ := strs_shaped ls ok; simp [D.py, SeqAt.shaped, PyData.canLay0, PyData.depth, h1, h2]) rfl ?_
  rw [hx]
  cases ls with
  | nil => exact q
  | cons c cs => exact q
theorem req_lnil {x : D} {ls : List (List Nat)} (ok : ls.all okS = true) (hx : vw γ x = .lst (strsD ls)) (q : Q (.bl (decide (ls = []))) γ) : dR2 K (rEqG K) x (.lst []) γ Q := by
  refine req_D (by rw [hx]; exact strs_pl ls) rfl (by rw [hx]; obtain ⟨h1, h2⟩ := strs_shaped ls ok; simp [D.py, SeqAt.shaped, PyData.canLay0, PyData.depth, h1, h2]) rfl ?_
  rw [hx]
  cases ls with
  | nil => exact q
  | cons c cs => exact q
theorem ds_nx {n : Nat} {t : TS} {nx bk ct : Env → Ga → Prop} {rt : QD} (N : Env → Ga → Prop) (h1 : dS K n t ρ γ ⟨N, rt, bk, ct⟩) (h2 : ∀ ρ' γ', N ρ' γ' → nx ρ' γ') : dS K n t ρ γ ⟨nx, rt, bk, ct⟩ :=
  fun σ H α α0 H0 Dn hn e r g f => h1 σ H α α0 H0 Dn hn e r g ⟨fun σ' H' α' ρ' γ' h e' g' r' => f.nx σ' H' α' ρ' γ' (h2 _ _ h) e' g' r', f.rt, f.bk, f.ct⟩
end
end DL

set_option Elab.async false
set_option linter.all false
set_option maxRecDepth 100000
set_option maxHeartbeats 2000000
namespace DL
open PySem PySem.Spec PyProof.Rows L2
section
variable {K : KX} {n : Nat} {ρ : Env} {γ : Ga} {nx : Env → Ga → Prop} {rt : QD} {bk ct : Env → Ga → Prop}
/-- a for over a list that is changed (or stands still) while it is walked -/
theorem xs_forM {tl : TE} {g : TG} {tb : TS} (is : List Nat) (h : dE K tl ρ γ fun d γ1 => ∃ k N, d = .loc k ∧ ∃ P : Nat → Env → Ga → Prop, P 0 ρ γ1 ∧
      ∀ i ρ' γ', P i ρ' γ' → i ≤ N ∧ ∃ xs, γ'[k]? = some (.lst xs) ∧
        (∀ x, xs[i]? = some x → dG K g x ρ' γ' is fun ρ2 γ2 => dS K γ1.length tb ρ2 γ2 ⟨P (i + 1), rt, nx, P (i + 1)⟩) ∧ (xs.length ≤ i → nx ρ' γ')) :
    dS K n (tFor (iList K tl) g tb) ρ γ ⟨nx, rt, bk, ct⟩ := fun σ H α α0 H0 Dn hn e r g0 f => by
  refine h σ H α _ r g0 fun v H1 α1 d γ1 hh e1 g1 r1 => ?_
  obtain ⟨k, N, rfl, P, p0, hs⟩ := hh
  cases r1 with
  | @loc _ a ha =>
    have at2 : ∀ {i ρ2 γ2 α2 H2}, P i ρ2 γ2 → Ext α1 H1 α2 H2 → GaX K H2 α2 γ2 → ∃ xs us, γ2[k]? = some (.lst xs) ∧ SqL K.f H2 a us ∧ RpL K.f H2 α2 us xs := fun {i ρ2 γ2 α2 H2} p2 e2 g2 => by
      obtain ⟨_, xs, h1, _⟩ := hs i ρ2 γ2 p2
      obtain ⟨us, h2, h3⟩ := g2.at_ k _ _ (e2.get ha) h1
      exact ⟨xs, us, h1, SqL.of h2, h3⟩
    obtain ⟨_, us0, _, s0, _⟩ := at2 p0 g1.refl g1
    refine ⟨a, rfl, ⟨us0, s0⟩, ?_⟩
    refine ⟨fun i m σ H => m = N - i ∧ ∃ α ρ γ, P i ρ γ ∧ Ext α1 H1 α H ∧ GaX K H α γ ∧ RpE K H α σ ρ,
      ⟨N, rfl, α1, ρ, γ1, p0, g1.refl, g1, r.mono e1⟩, ?_⟩
    rintro i m σ2 H2 ⟨rfl, α2, ρ2, γ2, p2, e2, g2, r2⟩
    obtain ⟨hi, xs, hx, hgo, hstop⟩ := hs i ρ2 γ2 p2
    obtain ⟨xs', us, hx', hsq, hrl⟩ := at2 p2 e2 g2
    rw [hx] at hx'
    cases hx'
    by_cases hlt : i < xs.length
    · have hv : i < us.length := by rw [hrl.length]; exact hlt
      refine .inr ⟨⟨us, us[i], hsq, List.getElem?_eq_getElem hv⟩, fun σ' H' => ∃ α ρ γ, P (i + 1) ρ γ ∧ Ext α1 H1 α H' ∧ GaX K H' α γ ∧ RpE K H' α σ' ρ, fun σ' H' hh => ?_, fun x H' y => ?_⟩
      · have hh' := hh
        obtain ⟨α, ρ, γ, p, _⟩ := hh
        have := (hs (i + 1) ρ γ p).1
        exact ⟨N - (i + 1), by omega, rfl, hh'⟩
      · obtain ⟨rfl, hy⟩ := y
        obtain ⟨d, hd1, r3⟩ := hrl.getV (hy us hsq)
        refine hgo d hd1 σ2 _ α2 x _ r2 g2 r3 fun σ4 H4 α4 ρ4 γ4 h4 _ e4 g4 r4 => ?_
        refine h4 σ4 H4 α4 α1 H1 _ g1.len (e2.trans e4) r4 g4 ⟨?_, f.rt.mono (e.trans e1), f.nx.mono (e.trans e1), ?_⟩
        · intro σ5 H5 α5 ρ5 γ5 p5 e5 g5 r5
          exact ⟨α5, ρ5, γ5, p5, e5, g5, r5⟩
        · intro σ5 H5 α5 ρ5 γ5 p5 e5 g5 r5
          exact ⟨α5, ρ5, γ5, p5, e5, g5, r5⟩
    · have hv : us.length ≤ i := by rw [hrl.length]; omega
      exact .inl ⟨⟨us, hsq, hv⟩, f.nx σ2 H2 α2 ρ2 γ2 (hstop (by omega)) ((e.trans e1).trans e2) g2 r2⟩
end
end DL

set_option Elab.async false
set_option linter.all false
set_option maxRecDepth 100000
set_option maxHeartbeats 2000000
/-! `is True`, order of bools, and/or by truth, d.update(d2), places of γ -/
namespace DL
open PySem PySem.Spec PyProof.Rows L2
/-! ### is True, is False -/
def rIsT : R2 := fun x y H Q => ∃ b, y = .bl b ∧ Q (.bl (decide (x = .bl b))) H
def rNtT : R2 := fun x y H Q => ∃ b, y = .bl b ∧ Q (.bl (!decide (x = .bl b))) H
theorem op_isT {X : Cx} : OpR X (compareOp .Is) rIsT := by
  intro pins s σ H x y v u Q I rx ry h
  obtain ⟨b, rfl, q⟩ := h
  cases (show u = Value.bool b from ry)
  refine wpAny_is_plain ?_ ⟨.bl (decide (x = .bl b)), H, I, ?_, q⟩
  · cases x <;> first | (cases rx; rfl) | (obtain ⟨t, rfl⟩ := rx; rfl)
  · cases x with
    | bl a => cases rx; cases a <;> cases b <;> rfl
    | _ => first | (cases rx; rfl) | (obtain ⟨t, rfl⟩ := rx; rfl)
theorem op_ntT {X : Cx} : OpR X (compareOp .IsNot) rNtT := by
  intro pins s σ H x y v u Q I rx ry h
  obtain ⟨b, rfl, q⟩ := h
  cases (show u = Value.bool b from ry)
  refine wpAny_isNot_plain ?_ ⟨.bl (!decide (x = .bl b)), H, I, ?_, q⟩
  · cases x <;> first | (cases rx; rfl) | (obtain ⟨t, rfl⟩ := rx; rfl)
  · cases x with
    | bl a => cases rx; cases a <;> cases b <;> rfl
    | _ => first | (cases rx; rfl) | (obtain ⟨t, rfl⟩ := rx; rfl)
def D.isBl (b : Bool) : D → Bool
  | .bl a => a == b
  | _ => false
theorem isBl_rp {K : KX} {H : Hp} {α : Al} {v : V} {d : D} {b : Bool} (r : Rp K H α v d) : decide (v = .bl b) = d.isBl b := by
  cases r with
  | bl a => cases a <;> cases b <;> rfl
  | _ => rfl
section
variable {K : KX} {γ : Ga} {Q : QD}
theorem rist {d : D} {b : Bool} (q : Q (.bl (d.isBl b)) γ) : dR2 K rIsT d (.bl b) γ Q := fun H α v w k g r1 r2 wv => by
  cases r2
  refine ⟨b, rfl, ?_⟩
  rw [isBl_rp r1]
  exact wv _ H α _ γ q g.refl g (.bl _)
theorem rntt {d : D} {b : Bool} (q : Q (.bl (!d.isBl b)) γ) : dR2 K rNtT d (.bl b) γ Q := fun H α v w k g r1 r2 wv => by
  cases r2
  refine ⟨b, rfl, ?_⟩
  rw [isBl_rp r1]
  exact wv _ H α _ γ q g.refl g (.bl _)
end
/-! ### bools in order -/
def bI (b : Bool) : Int := if b then 1 else 0
def rOB (f : Int → Int → Bool) : R2 := fun x y H Q => ∃ a b : Bool, x = .bl a ∧ y = .bl b ∧ Q (.bl (f (bI a) (bI b))) H
section
variable {X : Cx} {prog : Program} {w : World} {A : Around} {E Q : Value → Shared → Prop} {s : Shared} {a b : Bool}
theorem lt_bool (h : Q (.bool (decide (bI a < bI b))) s) : wpAny (model prog w) A (compareOp .Lt (.bool a) (.bool b)) Q E s :=
  compareOp_gives (op := .Lt) (T := "bool") (m := .val (.bool (decide (bI a < bI b)))) rfl rfl F.slot_bool_lt F.entry_int_lt (F.args_int_lt_2 _ _) (.of_eq (by cases a <;> cases b <;> rfl)) (fun x => nomatch x) h
theorem op_ltB : OpR X (compareOp .Lt) (rOB fun i j => decide (i < j)) := by
  intro pins s σ H x y v u Q I rx ry h
  obtain ⟨a, b, rfl, rfl, q⟩ := h
  cases rx; cases ry
  exact lt_bool ⟨.bl _, H, I, rfl, q⟩
theorem le_bool (h : Q (.bool (decide (bI a ≤ bI b))) s) : wpAny (model prog w) A (compareOp .LtE (.bool a) (.bool b)) Q E s :=
  compareOp_gives (op := .LtE) (T := "bool") (m := .val (.bool (decide (bI a ≤ bI b)))) rfl rfl F.slot_bool_le F.entry_int_le (F.args_int_le_2 _ _) (.of_eq (by cases a <;> cases b <;> rfl)) (fun x => nomatch x) h
theorem op_leB : OpR X (compareOp .LtE) (rOB fun i j => decide (i ≤ j)) := by
  intro pins s σ H x y v u Q I rx ry h
  obtain ⟨a, b, rfl, rfl, q⟩ := h
  cases rx; cases ry
  exact le_bool ⟨.bl _, H, I, rfl, q⟩
theorem gt_bool (h : Q (.bool (decide (bI b < bI a))) s) : wpAny (model prog w) A (compareOp .Gt (.bool a) (.bool b)) Q E s :=
  compareOp_gives (op := .Gt) (T := "bool") (m := .val (.bool (decide (bI b < bI a)))) rfl rfl F.slot_bool_gt F.entry_int_gt (F.args_int_gt_2 _ _) (.of_eq (by cases a <;> cases b <;> rfl)) (fun x => nomatch x) h
theorem op_gtB : OpR X (compareOp .Gt) (rOB fun i j => decide (j < i)) := by
  intro pins s σ H x y v u Q I rx ry h
  obtain ⟨a, b, rfl, rfl, q⟩ := h
  cases rx; cases ry
  exact gt_bool ⟨.bl _, H, I, rfl, q⟩
theorem ge_bool (h : Q (.bool (decide (bI b ≤ bI a))) s) : wpAny (model prog w) A (compareOp .GtE (.bool a) (.bool b)) Q E s :=
  compareOp_gives (op := .GtE) (T := "bool") (m := .val (.bool (decide (bI b ≤ bI a)))) rfl rfl F.slot_bool_ge F.entry_int_ge (F.args_int_ge_2 _ _) (.of_eq (by cases a <;> cases b <;> rfl)) (fun x => nomatch x) h
theorem op_geB : OpR X (compareOp .GtE) (rOB fun i j => decide (j ≤ i)) := by
  intro pins s σ H x y v u Q I rx ry h
  obtain ⟨a, b, rfl, rfl, q⟩ := h
  cases rx; cases ry
  exact ge_bool ⟨.bl _, H, I, rfl, q⟩
end
def rLtG : R2 := fun x y H Q => rLtI x y H Q ∨ rOB (fun i j => decide (i < j)) x y H Q
def rLeG : R2 := fun x y H Q => rLeI x y H Q ∨ rOB (fun i j => decide (i ≤ j)) x y H Q
def rGtG : R2 := fun x y H Q => rGtI x y H Q ∨ rOB (fun i j => decide (j < i)) x y H Q
def rGeG : R2 := fun x y H Q => rGeI x y H Q ∨ rOB (fun i j => decide (j ≤ i)) x y H Q
section
variable {X : Cx}
theorem op_ltG : OpR X (compareOp .Lt) rLtG := op_lt.or op_ltB
theorem op_leG : OpR X (compareOp .LtE) rLeG := op_le.or op_leB
theorem op_gtG : OpR X (compareOp .Gt) rGtG := op_gt.or op_gtB
theorem op_geG : OpR X (compareOp .GtE) rGeG := op_ge.or op_geB
end
/-- an int or a bool -/
def ordD : D → Option Int
  | .int i => some i
  | .bl b => some (bI b)
  | _ => none
section
variable {K : KX} {γ : Ga} {Q : QD}
theorem rob {f : Int → Int → Bool} {a b : Bool} (q : Q (.bl (f (bI a) (bI b))) γ) : dR2 K (rOB f) (.bl a) (.bl b) γ Q := fun H α v w k g r1 r2 wv => by
  cases r1; cases r2
  exact ⟨a, b, rfl, rfl, wv _ H α _ γ q g.refl g (.bl _)⟩
theorem rltg_i {i j : Int} (q : Q (.bl (decide (i < j))) γ) : dR2 K rLtG (.int i) (.int j) γ Q := fun H α v w k g r1 r2 wv => .inl (rlt_int q H α v w k g r1 r2 wv)
theorem rleg_i {i j : Int} (q : Q (.bl (decide (i ≤ j))) γ) : dR2 K rLeG (.int i) (.int j) γ Q := fun H α v w k g r1 r2 wv => .inl (rle_int q H α v w k g r1 r2 wv)
theorem rgtg_i {i j : Int} (q : Q (.bl (decide (j < i))) γ) : dR2 K rGtG (.int i) (.int j) γ Q := fun H α v w k g r1 r2 wv => .inl (rgt_int q H α v w k g r1 r2 wv)
theorem rgeg_i {i j : Int} (q : Q (.bl (decide (j ≤ i))) γ) : dR2 K rGeG (.int i) (.int j) γ Q := fun H α v w k g r1 r2 wv => .inl (rge_int q H α v w k g r1 r2 wv)
theorem rltg_b {a b : Bool} (q : Q (.bl (decide (bI a < bI b))) γ) : dR2 K rLtG (.bl a) (.bl b) γ Q := fun H α v w k g r1 r2 wv => .inr (rob (f := fun i j => decide (i < j)) q H α v w k g r1 r2 wv)
theorem rleg_b {a b : Bool} (q : Q (.bl (decide (bI a ≤ bI b))) γ) : dR2 K rLeG (.bl a) (.bl b) γ Q := fun H α v w k g r1 r2 wv => .inr (rob (f := fun i j => decide (i ≤ j)) q H α v w k g r1 r2 wv)
theorem rgtg_b {a b : Bool} (q : Q (.bl (decide (bI b < bI a))) γ) : dR2 K rGtG (.bl a) (.bl b) γ Q := fun H α v w k g r1 r2 wv => .inr (rob (f := fun i j => decide (j < i)) q H α v w k g r1 r2 wv)
theorem rgeg_b {a b : Bool} (q : Q (.bl (decide (bI b ≤ bI a))) γ) : dR2 K rGeG (.bl a) (.bl b) γ Q := fun H α v w k g r1 r2 wv => .inr (rob (f := fun i j => decide (j ≤ i)) q H α v w k g r1 r2 wv)
end
/-! ### truth -/
/-- the truth of d -/
def truD (γ : Ga) : D → Option Bool
  | .non => some false
  | .bl b => some b
  | .int i => some (i != 0)
  | .lst xs => some (!xs.isEmpty)
  | .tup xs => some (!xs.isEmpty)
  | .cst xs => some (!xs.isEmpty)
  | .str x => if x.length ≤ 1000000 then some ((x.length : Int) != 0) else none
  | .dic ks _ => some (!ks.isEmpty)
  | .loc k => match γ[k]? with
    | some (.lst xs) => some (!xs.isEmpty)
    | some (.dic ks _) => some (!ks.isEmpty)
    | _ => none
  | _ => none
theorem emp_rl {K : Frag} {H : Hp} {α : Al} {us : List V} {xs : List D} (r : RpL K H α us xs) : us.isEmpty = xs.isEmpty := by
  cases r <;> rfl
theorem emp_map {A B : Type} {f : A → B} {l : List A} : (l.map f).isEmpty = l.isEmpty := by cases l <;> rfl
theorem tru_rp {K : KX} {γ : Ga} {H : Hp} {α : Al} {v : V} {d : D} {b : Bool} (g : GaX K H α γ) (r : Rp K H α v d) (h : truD γ d = some b) : TruV K v H b := by
  cases r with
  | non => cases h; rfl
  | bl a => cases h; rfl
  | int i => cases h; rfl
  | str x =>
    by_cases hl : x.length ≤ 1000000
    · simp only [truD, if_pos hl] at h
      cases h
      exact ⟨le24 hl, rfl⟩
    · simp only [truD, if_neg hl] at h
      cases h
  | tup h1 h2 => cases h; exact .inr (.inl ⟨_, h1.sq, by rw [emp_rl h2]⟩)
  | cst h1 h2 => cases h; exact .inr (.inl ⟨_, h1.sq, by rw [emp_rl h2]⟩)
  | lst h1 h2 h3 => cases h; exact .inl ⟨_, SqL.of h2, by rw [emp_rl h3]⟩
  | dic h1 h2 h3 => cases h; exact .inr (.inr ⟨_, h2, by rw [emp_map]⟩)
  | @loc k a ha =>
    cases q : γ[k]? with
    | none => simp [truD, q] at h
    | some m =>
      have hm := g.at_ k a m ha q
      cases m with
      | lst xs => simp only [truD, q] at h; cases h; obtain ⟨us, h1, h2⟩ := hm; exact .inl ⟨us, SqL.of h1, by rw [emp_rl h2]⟩
      | dic ks xs => simp only [truD, q] at h; cases h; obtain ⟨us, h1, h2, h3⟩ := hm; exact .inr (.inr ⟨us, h1, by rw [← h2, emp_map]⟩)
      | _ => simp [truD, q] at h
  | _ => cases h
section
variable {K : KX} {ρ : Env} {γ : Ga} {Q : QD}
theorem de_andT {ta tb : TE} (h : dE K ta ρ γ fun d γ1 => ∃ b, truD γ1 d = some b ∧ if b = true then dE K tb ρ γ1 Q else Q d γ1) : dE K (tAndT K ta tb) ρ γ Q := fun σ H α q r g w =>
  h σ H α _ r g fun v H1 α1 d γ1 ⟨b, hb, hq⟩ e1 g1 r1 => ⟨b, tru_rp g1 r1 hb, by
    cases b with
    | true => exact hq σ H1 α1 _ (r.mono e1) g1 (w.mono e1)
    | false => exact w v H1 α1 d γ1 hq e1 g1 r1⟩
theorem de_orT {ta tb : TE} (h : dE K ta ρ γ fun d γ1 => ∃ b, truD γ1 d = some b ∧ if b = true then Q d γ1 else dE K tb ρ γ1 Q) : dE K (tOrT K ta tb) ρ γ Q := fun σ H α q r g w =>
  h σ H α _ r g fun v H1 α1 d γ1 ⟨b, hb, hq⟩ e1 g1 r1 => ⟨b, tru_rp g1 r1 hb, by
    cases b with
    | false => exact hq σ H1 α1 _ (r.mono e1) g1 (w.mono e1)
    | true => exact w v H1 α1 d γ1 hq e1 g1 r1⟩
theorem dt_truth {ta : TE} {q : Bool → Ga → Prop} (h : dE K ta ρ γ fun d γ1 => ∃ b, truD γ1 d = some b ∧ q b γ1) : dT K (tTruth K ta) ρ γ q := fun σ H α k r g w =>
  h σ H α _ r g fun v H1 α1 d γ1 ⟨b, hb, hq⟩ e1 g1 r1 => ⟨b, tru_rp g1 r1 hb, w b H1 α1 γ1 hq e1 g1⟩
end
/-! ### d.update(d2) -/
def rUpdate : V → List V → Hp → VK → Prop := fun x vs H Q => ∃ (a b : Addr) (kvs more : List (Key × V)), x = .ref a ∧ vs = [.ref b] ∧ a ≠ b ∧ H a = some (.dK kvs) ∧ H b = some (.dK more) ∧ kvs.length + more.length ≤ sizeLine ∧ Q .non (upd H a (.dK (mergeK kvs more)))
theorem mt_update {X : Cx} : MtR X "dict.update" rUpdate := by
  intro pins s σ H x xs v us Q I rx r h
  obtain ⟨a, b, kvs, more, rfl, rfl, hne, ha, hb, hl, q⟩ := h
  cases rx
  have eu := r.ref1
  subst eu
  obtain ⟨z1, d1, vs1, rel1, dd1⟩ := dk_of I.hok ha
  obtain ⟨z2, d2, vs2, rel2, dd2⟩ := dk_of I.hok hb
  refine call_meetsIn PySem.F.slot_dict_update dd1.typeIs PySem.F.entry_dict_update (PySem.F.args_dict_update_2 _ _) (meets_dict_update (mixKind X.prog X.w) a b hne d2) ⟨vs1, vs2, dd1, dd2, by rw [← rel1.length, ← rel2.length]; exact hl, fun h' dd' _ hs => ?_⟩
  have hl2 : (mergeK kvs more).length ≤ sizeLine := Nat.le_trans (length_mergeK more kvs) hl
  have he : ∃ q, h'.get? a = some q := let ⟨q, _, _, hq, _⟩ := dd'; ⟨q, hq⟩
  exact ⟨.non, _, d_write (t' := s.toks) I (by rw [ha]; exact True.intro) hs he (dk_new hl2 d1 (KV.merge rel2 rel1) dd'), rfl, q⟩
section
variable {K : KX} {γ : Ga} {Q : QD}
/-- pairs put in, one behind the other -/
def putsP (ps more : List (Key × D)) : List (Key × D) := more.foldl (fun acc p => putP acc p.1 p.2) ps
theorem merge2_rp {K : Frag} {H : Hp} {α : Al} : ∀ {more : List (Key × V)} {mps : List (Key × D)} {kvs : List (Key × V)} {ps : List (Key × D)}, more.map (·.1) = mps.map (·.1) → RpL K H α (more.map (·.2)) (mps.map (·.2)) → kvs.map (·.1) = ps.map (·.1) → RpL K H α (kvs.map (·.2)) (ps.map (·.2)) →
    (mergeK kvs more).map (·.1) = (putsP ps mps).map (·.1) ∧ RpL K H α ((mergeK kvs more).map (·.2)) ((putsP ps mps).map (·.2))
  | [], [], _, _, _, _, e, r => ⟨e, r⟩
  | [], _ :: _, _, _, e, _, _, _ => by cases e
  | _ :: _, [], _, _, e, _, _, _ => by cases e
  | (a, b) :: more, (a', b') :: mps, kvs, ps, e1, r1, e, r => by
    simp only [List.map_cons, List.cons.injEq] at e1
    obtain ⟨rfl, e1⟩ := e1
    cases r1 with
    | cons rb r1 =>
      obtain ⟨p1, p2, _⟩ := putK_rp (k := a) rb e r
      have h := merge2_rp (more := more) (mps := mps) e1 r1 p1 p2
      exact h
theorem rm_update {x y : D} (h : ∃ j ps mps, x = .loc j ∧ γ[j]? = some (moK ps) ∧ y ≠ .loc j ∧ dvw γ y = some (mps.map (·.1), mps.map (·.2)) ∧ ps.length + mps.length ≤ 1000000 ∧ Q .non (γ.set j (moK (putsP ps mps)))) : dRM K rUpdate x [y] γ Q := fun H α v vs q g r1 r2 wv => by
  obtain ⟨j, ps, mps, rfl, hj, hne, hy, hl, hq⟩ := h
  cases r1 with
  | @loc _ a ha =>
    obtain ⟨kvs, h1, h2, h3⟩ := g.at_ _ _ _ ha hj
    cases r2 with
    | cons ry rn =>
      cases rn
      obtain ⟨b, more, rfl, hb, m2, m3⟩ := dic_rp g ry hy
      have hab : a ≠ b := fun z => by
        subst z
        cases ry with
        | dic n1 _ _ => exact n1 (.inl (List.mem_of_getElem? ha))
        | @loc j' _ ha' =>
          obtain ⟨l1, e1⟩ := List.getElem?_eq_some_iff.mp ha
          obtain ⟨l2, e2⟩ := List.getElem?_eq_some_iff.mp ha'
          have := (List.getElem_inj g.nd.1).mp (e1.trans e2.symm)
          exact hne (by rw [this])
        | _ => simp [dvw] at hy
      have ex := ext_set g (o := .dK (mergeK kvs more)) (List.mem_of_getElem? ha)
      obtain ⟨p1, p2⟩ := merge2_rp m2 (RpL.mono ex _ _ m3) h2 (RpL.mono ex _ _ h3)
      have e1 : kvs.length = ps.length := by simpa using congrArg List.length h2
      have e2 : more.length = mps.length := by simpa using congrArg List.length m2
      exact ⟨a, b, kvs, more, rfl, rfl, hab, h1, hb, by rw [e1, e2]; exact le24 hl, wv .non _ α .non _ hq ex (ga_set g ha ⟨_, upd_same, p1, p2⟩) .non⟩
theorem isTy_dic {x : D} {p : List Key × List D} (h : dvw γ x = some p) : IsTy K "dict" x γ := fun H α v g r => by
  obtain ⟨a, kvs, rfl, ha, _⟩ := dic_rp g r h
  exact .inr (.inr (.inl ⟨rfl, .inl ⟨kvs, ha⟩⟩))
end
/-! ### places of γ -/
section
variable {γ r : Ga} {a b c : MO}
theorem at_0 : (γ ++ a :: r)[γ.length]? = some a := by simp
theorem at_1 : (γ ++ a :: b :: r)[γ.length + 1]? = some b := by simp
theorem at_2 : (γ ++ a :: b :: c :: r)[γ.length + 2]? = some c := by simp
theorem set_0 {x : MO} : (γ ++ a :: r).set γ.length x = γ ++ x :: r := by simp
theorem set_1 {x : MO} : (γ ++ a :: b :: r).set (γ.length + 1) x = γ ++ a :: x :: r := by simp
theorem set_2 {x : MO} : (γ ++ a :: b :: c :: r).set (γ.length + 2) x = γ ++ a :: b :: x :: r := by simp
end
theorem rng_get {lo : Int} {n k : Nat} {x : D} (h : (rngD lo n)[k]? = some x) : k < n ∧ x = .int (lo + (k : Nat)) := by
  unfold rngD at h
  rw [List.getElem?_map] at h
  obtain ⟨i, hi, rfl⟩ := Option.map_eq_some_iff.mp h
  obtain ⟨h1, h2⟩ := List.getElem?_eq_some_iff.mp hi
  simp at h1 h2
  exact ⟨h1, by rw [h2]⟩
theorem rng_len {lo : Int} {n : Nat} : (rngD lo n).length = n := by simp [rngD]
end DL

set_option Elab.async false
set_option linter.all false
set_option maxRecDepth 100000
set_option maxHeartbeats 2000000
/-! a hidden object gets a number; a dict display that will be changed -/
namespace DL
open PySem PySem.Spec PyProof.Rows L2
mutual
theorem Rp.re {K : Frag} {α α' : Al} {H H' : Hp} (hk : ∀ (k : Nat) (a : Addr), α.h[k]? = some a → α'.h[k]? = some a) (ho : ∀ a o, a ∉ α → H a = some o → a ∉ α' ∧ H' a = some o) : ∀ (d : D) (v : V), Rp K H α v d → Rp K H' α' v d
  | .non, _, h => by cases h; exact .non
  | .bl b, _, h => by cases h; exact .bl b
  | .int i, _, h => by cases h; exact .int i
  | .str x, _, h => by cases h; exact .str x
  | .ty n, _, h => by cases h; exact .ty n
  | .ref a, _, h => by cases h; exact .ref a
  | .loc k, _, h => by cases h with | loc h => exact .loc (hk _ _ h)
  | .tup ds, _, h => by cases h with | tup h1 h2 => exact .tup (ho _ _ h1.1 h1.2) (RpL.re hk ho ds _ h2)
  | .lst ds, _, h => by cases h with | lst h1 h2 h3 => exact .lst (ho _ _ h1 h2).1 (ho _ _ h1 h2).2 (RpL.re hk ho ds _ h3)
  | .ins C ns ds, _, h => by cases h with | ins h1 h2 h3 => exact .ins (ho _ _ h1 h2).1 (ho _ _ h1 h2).2 (RpL.re hk ho ds _ h3)
  | .dic ks ds, _, h => by cases h with | dic h1 h2 h3 => exact .dic (ho _ _ h1 h2).1 (ho _ _ h1 h2).2 (RpL.re hk ho ds _ h3)
  | .dit ks ds, _, h => by cases h with | dit h1 h2 h3 => exact .dit (ho _ _ h1 h2).1 (ho _ _ h1 h2).2 (RpL.re hk ho ds _ h3)
  | .exc a dd C ks ds, _, h => by cases h with | exc h1 h2 h3 => exact .exc (ho _ _ h1 h2).1 (ho _ _ h1 h2).2 (RpL.re hk ho ds _ h3)
  | .cst ds, _, h => by cases h with | cst h1 h2 => exact .cst h1 (RpL.re hk ho ds _ h2)
  | .exv C ks ds, _, h => by cases h with | exv h1 h2 h3 h4 h5 => exact .exv (ho _ _ h1 h3).1 (ho _ _ h2 h4).1 (ho _ _ h1 h3).2 (ho _ _ h2 h4).2 (RpL.re hk ho ds _ h5)
theorem RpL.re {K : Frag} {α α' : Al} {H H' : Hp} (hk : ∀ (k : Nat) (a : Addr), α.h[k]? = some a → α'.h[k]? = some a) (ho : ∀ a o, a ∉ α → H a = some o → a ∉ α' ∧ H' a = some o) : ∀ (ds : List D) (vs : List V), RpL K H α vs ds → RpL K H' α' vs ds
  | [], _, h => by cases h; exact .nil
  | d :: ds, _, h => by cases h with | cons h1 h2 => exact .cons (Rp.re hk ho d _ h1) (RpL.re hk ho ds _ h2)
end
theorem MOk.re {K : Frag} {α α' : Al} {H H' : Hp} (hk : ∀ (k : Nat) (a : Addr), α.h[k]? = some a → α'.h[k]? = some a) (ho : ∀ a o, a ∉ α → H a = some o → a ∉ α' ∧ H' a = some o) {a : Addr} (e : ∀ o, H a = some o → H' a = some o) : ∀ {m : MO}, MOk K H α a m → MOk K H' α' a m
  | .lst _, h => by obtain ⟨_, h, r⟩ := h; exact ⟨_, e _ h, RpL.re hk ho _ _ r⟩
  | .ins _ _ _, h => by obtain ⟨_, _, h, n, r⟩ := h; exact ⟨_, _, e _ h, n, RpL.re hk ho _ _ r⟩
  | .dic _ _, h => by obtain ⟨_, h, n, r⟩ := h; exact ⟨_, e _ h, n, RpL.re hk ho _ _ r⟩
  | .dit _ _, h => by obtain ⟨_, h, n, r⟩ := h; exact ⟨_, e _ h, n, RpL.re hk ho _ _ r⟩
section
variable {K : KX} {α α1 : Al} {H H1 : Hp} {γ γ1 : Ga} {p : Addr} {o : HO} {m : MO}
theorem sho_mem {a : Addr} : a ∈ (α1.un p).push p ↔ a ∈ α1 ∨ a = p := by
  rw [Al.mem_push]
  constructor
  · rintro (h | h)
    · rcases h with h | h
      · exact .inl (.inl h)
      · exact .inl (.inr (un_x a h))
    · exact .inr h
  · rintro (h | h)
    · by_cases e : a = p
      · exact .inr e
      · rcases h with h | h
        · exact .inl (.inl h)
        · exact .inl (.inr (List.mem_filter.mpr ⟨h, decide_eq_true e⟩))
    · exact .inr h
theorem sho_hk (k : Nat) (a : Addr) (h : α1.h[k]? = some a) : ((α1.un p).push p).h[k]? = some a := by
  show (α1.h ++ [p])[k]? = some a
  rw [List.getElem?_append_left (List.getElem?_eq_some_iff.mp h).1]
  exact h
theorem sho_ho (inx : p ∈ α1.x) (a : Addr) (u : HO) (h : a ∉ α1) (e : H1 a = some u) : a ∉ (α1.un p).push p ∧ upd H1 p o a = some u := by
  have hp : a ≠ p := fun z => h (by rw [z]; exact .inr inx)
  exact ⟨fun z => (sho_mem.mp z).elim h hp, by rw [upd_ne hp]; exact e⟩
theorem sho_nd (g : GaOk K.f H1 α1 γ1) (inx : p ∈ α1.x) : ((α1.un p).push p).Nd := by
  have nh : p ∉ α1.h := fun z => g.nd.2.2 p z inx
  refine ⟨?_, (g.nd.2.1).sublist (List.filter_sublist ..), fun a ha hm => ?_⟩
  · show (α1.h ++ [p]).Nodup
    rw [List.nodup_append]
    refine ⟨g.nd.1, by simp, fun a ha b hb e => ?_⟩
    have eb : b = p := by simpa using hb
    exact nh (by rw [← eb, ← e]; exact ha)
  · rcases List.mem_append.mp (show a ∈ α1.h ++ [p] from ha) with z | z
    · exact g.nd.2.2 a z (un_x a hm)
    · have eb : a = p := by simpa using z
      exact of_decide_eq_true (List.mem_filter.mp hm).2 eb
theorem ga_sho0 (g : GaOk K.f H1 α1 γ1) (inx : p ∈ α1.x) (hm : MOk K.f (upd H1 p o) ((α1.un p).push p) p m) : GaOk K.f (upd H1 p o) ((α1.un p).push p) (γ1 ++ [m]) := by
  have nh : p ∉ α1.h := fun z => g.nd.2.2 p z inx
  refine ⟨sho_nd g inx, by show (α1.h ++ [p]).length = _; simp [g.len], fun k a m' h1 h2 => ?_, fun a ha => ?_⟩
  · have h1 : (α1.h ++ [p])[k]? = some a := h1
    by_cases hk : k < α1.h.length
    · rw [List.getElem?_append_left hk] at h1
      rw [List.getElem?_append_left (by rw [← g.len]; exact hk)] at h2
      have hne : a ≠ p := fun z => nh (by rw [← z]; exact List.mem_of_getElem? h1)
      exact (g.at_ k a m' h1 h2).re sho_hk (sho_ho inx) fun u h => by rw [upd_ne hne]; exact h
    · have hk2 : k = α1.h.length := by
        have := (List.getElem?_eq_some_iff.mp h1).1
        simp at this; omega
      subst hk2
      rw [List.getElem?_append_right (Nat.le_refl _)] at h1
      rw [List.getElem?_append_right (by rw [g.len]; exact Nat.le_refl _)] at h2
      simp at h1
      rw [g.len] at h2
      simp at h2
      subst h1 h2
      exact hm
  · exact xs_upd (α := α1) g.xs a (un_x a ha)
theorem ext_sho (g : GaX K H α γ) (e : Ext α H α1 H1) (g1 : GaOk K.f H1 α1 γ1) (hp : H p = none) (inx : p ∈ α1.x) : Ext α H ((α1.un p).push p) (upd H1 p o) := by
  have ex : Ext α H (α1.un p) (upd H1 p o) := ext_un g (ext_hset g e hp) hp
  obtain ⟨β, e1, f1⟩ := ex.al
  refine ⟨⟨⟨β ++ [p], ?_, fun b hb => ?_⟩, sho_nd g1 inx, ex.xx, ex.keep⟩, ex.keepx⟩
  · show (α1.un p).h ++ [p] = _
    rw [e1, List.append_assoc]
  · rcases List.mem_append.mp hb with z | z
    · exact f1 b z
    · rw [List.mem_singleton.mp z]; exact hp
/-- a dict display that will be changed -/
def tDispM (trs : List (TE × TE)) : TE := tDisp trs
theorem de_dispM {trs : List (TE × TE)} {ρ : Env} {Q : QD} (h : dPairs K trs ρ γ fun ps γ1 => ∃ ks, ps.map (fun p => keyD p.1) = ks.map some ∧ ks.Nodup ∧ ks.length ≤ 15 ∧ Q (.loc γ1.length) (γ1 ++ [.dic ks (ps.map (·.2))])) : dE K (tDispM trs) ρ γ Q := fun σ H α q r g w => by
  intro p hp
  have e0 := ext_hid g (o := .dK []) hp
  refine dPairs_run h σ _ _ _ (r.mono e0) (ga_hid g hp) fun us H1 α1 ps γ1 h1 e1 g1 r1 => ?_
  obtain ⟨ks, hk, nd, hl, hq⟩ := h1
  obtain ⟨kvs, k1, k2, k3⟩ := keysD_rp r1 hk
  have inx : p ∈ (α.hid p).x := List.mem_cons_self
  have hp1 := e1.keepx p _ inx upd_same
  have inx1 : p ∈ α1.x := by
    obtain ⟨δ, e, _⟩ := e1.xx
    rw [e]
    exact List.mem_append_right _ inx
  subst k2
  refine ⟨hp1, kvs, k1, by simpa using hl, ?_⟩
  have em : mergeK [] kvs = kvs := by rw [mergeK_nodup (by simpa using nd)]; rfl
  rw [em]
  have ex := ext_sho (o := .dK kvs) g (e0.trans e1) g1.toGaOk hp inx1
  refine w _ _ ((α1.un p).push p) _ _ hq ex (g.go (ga_sho0 g1.toGaOk inx1 ⟨kvs, upd_same, rfl, ?_⟩) ex) (.loc ?_)
  · rw [k3]
    exact RpL.re sho_hk (sho_ho inx1) _ _ r1.2
  · show (α1.h ++ [p])[γ1.length]? = _
    rw [← g1.len]; simp
end
theorem xe_dispM {K : KX} {trs : List (TE × TE)} {ρ : Env} {γ : Ga} {Q : QD} (h : dPairs K trs ρ γ fun ps γ1 => ps.all (fun p => (keyD p.1).isSome) = true ∧ (ps.filterMap fun p => keyD p.1).Nodup ∧ ps.length ≤ 15 ∧ Q (.loc γ1.length) (γ1 ++ [.dic (ps.filterMap fun p => keyD p.1) (ps.map (·.2))])) : dE K (tDispM trs) ρ γ Q := by
  refine de_dispM (dPairs_mono h ?_)
  rintro ps γ1 ⟨h1, h2, h3, h4⟩
  exact ⟨_, keys_all ps h1, h2, Nat.le_trans (List.length_filterMap_le _ _) h3, h4⟩
end DL

set_option Elab.async false
set_option linter.all false
set_option maxRecDepth 100000
set_option maxHeartbeats 2000000
/-! enumerate(x), enumerate(x, c) over tuples and lists; zip of two -/
namespace DL
open PySem PySem.Spec PyProof.Rows L2 RZ
/-- a tuple (t) or a list -/
def SqB (K : Frag) (H : Hp) (t : Bool) (a : Addr) (xs : List V) : Prop := if t = true then SqT K H a xs else SqL K H a xs
def ItB (h : Heap) (t : Bool) (it a : Addr) (i : Nat) : Prop := if t = true then h.IsTupleIter it a i else h.IsListIter it a i
theorem ItB.obj {h : Heap} {t : Bool} {it a : Addr} {i : Nat} (x : ItB h t it a i) : ∃ o vs, h.get? it = some o ∧ o.cls = .type (if t = true then "tuple_iterator" else "list_iterator") ∧ o.data = .fields vs := by
  unfold ItB at x
  cases t with
  | true => obtain ⟨o, ho, hc, hd⟩ := x; exact ⟨o, _, ho, hc, hd⟩
  | false => obtain ⟨o, ho, hc, hd⟩ := x; exact ⟨o, _, ho, hc, hd⟩
theorem ItB.at {h h' : Heap} {t : Bool} {it a : Addr} {i : Nat} (x : ItB h t it a i) (e : ∀ o, h.get? it = some o → h'.get? it = some o) : ItB h' t it a i := by
  unfold ItB at *
  cases t with
  | true => exact Heap.IsTupleIter.at x e
  | false => exact Heap.IsListIter.at x e
/-- the same items, tuple or list -/
def AtB (h : Heap) (t : Bool) (a : Addr) (its : Array Value) : Prop := if t = true then h.IsTuple a its else h.IsList a its
theorem AtB.obj {h : Heap} {t : Bool} {a : Addr} {its : Array Value} (x : AtB h t a its) : ∃ o n, h.get? a = some o ∧ o.cls = .type (if t = true then "tuple" else "list") ∧ o.data = .seq its n := by
  unfold AtB at x
  cases t with
  | true => obtain ⟨o, ho, hc, n, hd⟩ := x; exact ⟨o, n, ho, hc, hd⟩
  | false => obtain ⟨o, ho, hc, n, hd⟩ := x; exact ⟨o, n, ho, hc, hd⟩
theorem Draws.ab {prog : Program} {w : World} {A : Around} (hh : A.handled = none) (t : Bool) (it a : Addr) (hne : a ≠ it) (items : Array Value) :
    Draws prog w A it [it, a] items.size (fun i v => items[i]? = some v) (fun i h => ItB h t it a i ∧ AtB h t a items) := by
  cases t with
  | true => exact Draws.tuple hh it a hne items
  | false => exact Draws.list hh it a hne items
theorem Draws.stop {prog : Program} {w : World} {A : Around} (hh : A.handled = none) (t : Bool) (it a : Addr) (items : Array Value) (i : Nat) (hi : items[i]? = none) :
    Draws prog w A it [it, a] i (fun _ _ => True) (fun j h => j = i ∧ ItB h t it a i ∧ AtB h t a items) where
  live := fun _ _ st => let ⟨o, _, ho, _⟩ := st.2.1.obj; ⟨o, ho⟩
  frame := fun _ _ _ st hk => ⟨st.1, st.2.1.at fun o e => hk it (by simp) o e, by
    obtain ⟨_, _, h⟩ := st
    unfold AtB at *
    cases t with
    | true => exact Heap.IsTuple.at h fun o e => hk a (by simp) o e
    | false => exact Heap.IsList.at h fun o e => hk a (by simp) o e⟩
  item := fun j s Q E hj st hQ => absurd st.1 (Nat.ne_of_lt hj)
  done := fun s Q E st hE => by
    obtain ⟨_, h1, h2⟩ := st
    cases t with
    | true => exact wpAny_nextOf_tuple_end hh h1 h2 hi hE
    | false => exact wpAny_nextOf_list_end hh h1 h2 hi hE
theorem inv_sqb {X : Cx} {pins : List (Addr × Obj)} {σ : L2.St} {H : Hp} {s : Shared} {t : Bool} {a : Addr} {xs : List V} (I : Inv X pins σ H s) (h : SqB X.K H t a xs) : ∃ its : List Value, Vals xs its ∧ AtB s.heap t a its.toArray ∧ xs.length ≤ sizeLine := by
  unfold SqB at h
  unfold AtB
  cases t with
  | true =>
    obtain ⟨its, rv, p, hz⟩ := I.tuple h
    exact ⟨its, rv, p, hz⟩
  | false =>
    obtain ⟨its, rv, p, hz⟩ := I.list h
    exact ⟨its, rv, p.isList, hz⟩
theorem sqb_inj {X : Cx} {pins : List (Addr × Obj)} {σ : L2.St} {H : Hp} {s : Shared} {t : Bool} {a : Addr} {xs ys : List V} (I : Inv X pins σ H s) (h : SqB X.K H t a xs) (h' : SqB X.K H t a ys) : xs = ys := by
  unfold SqB at h h'
  cases t with
  | true => exact I.tuple_inj h h'
  | false => exact I.list_inj h h'
/-- items with their numbers from c on, each in a new pair -/
def IteC (K : Frag) (c : Int) (t : Bool) (a : Addr) : It :=
  ⟨fun i H => ∃ (xs : List V) (x : V), SqB K H t a xs ∧ xs[i]? = some x, fun i H v H' => ∃ T x, v = .ref T ∧ H T = none ∧ H' = upd H T (.tup [.int (c + (i : Nat)), x]) ∧ ∀ xs, SqB K H t a xs → xs[i]? = some x, fun i H => ∃ xs : List V, SqB K H t a xs ∧ xs.length ≤ i⟩
theorem ite_ne {t : Bool} {s1 s2 u1 u2 : String} (h1 : s1 ≠ u1) (h2 : s2 ≠ u2) : (if t = true then s1 else s2) ≠ (if t = true then u1 else u2) := by
  cases t with
  | true => exact h1
  | false => exact h2
theorem turn_enumC {P : Program} {w : World} {K : Frag} {elts : List Expr} {kk : Nat} {tpos : Pos} (c : Int) (t : Bool) (a e it : Addr) :
    Turn P w K (.Tuple elts kk tpos) (IteC K c t a) [e, it] e (fun i h => (∃ old, IsEnum h e it (c + (i : Nat)) old) ∧ ItB h t it a i ∧ e ≠ it) where
  mem := by simp
  obj := fun i h st b hb => by
    obtain ⟨⟨old, he⟩, hx, _⟩ := st
    obtain ⟨o, vs, ho, hc, hd⟩ := hx.obj
    have e' : b = e ∨ b = it := by simpa using hb
    rcases e' with z | z
    · rw [z]; exact ⟨_, he, fun v q => nomatch q⟩
    · rw [z]; exact ⟨o, ho, fun v q => by rw [hd] at q; cases q⟩
  keep := fun i h h' st k => let ⟨⟨old, he⟩, hi, hne⟩ := st; ⟨⟨old, k e (by simp) _ he⟩, hi.at fun o q => k it (by simp) o q, hne⟩
  item := by
    intro X hP hw hK hc i pins s σ H E I hf st hg
    subst hP hw hK
    obtain ⟨⟨old, he⟩, hit, hne⟩ := st
    obtain ⟨xs, x, hq, hx⟩ := hg
    obtain ⟨its, rv, p, hz⟩ := inv_sqb I hq
    obtain ⟨u, hu, ru⟩ := rv.get hx
    have hel : e < s.heap.objs.size := Heap.lt_size he
    obtain ⟨oi, _, hio, hic, _⟩ := hit.obj
    obtain ⟨oa, _, hao, hac, _⟩ := p.obj
    have hil : it < s.heap.objs.size := Heap.lt_size hio
    have hai : a ≠ it := fun z => by
      rw [z, hio] at hao; cases hao
      rw [hic] at hac
      injection hac with hac
      exact ite_ne (by decide) (by decide) hac
    have hae : e ≠ a := fun z => by
      have he' : s.heap.get? a = _ := z ▸ he
      rw [hao] at he'
      injection he' with he'
      rw [he'] at hac
      injection hac with hac
      cases t <;> exact absurd hac (by decide)
    have D := Draws.ab (prog := X.prog) (w := X.w) (A := X.A.in1) (I.ok.hd hc) t it a hai its.toArray
    refine wpAny_pyNext_enum_itemC D he ⟨hit, p⟩ (by have := (List.getElem?_eq_some_iff.mp hu).1; simpa using this) hne (by simp [hne, hae]) fun x' h' tk hP ho hs' hT hsz hk => ?_
    have ex' : x' = u := by
      have h1 : its.toArray[i]? = some x' := hP
      rw [List.getElem?_toArray, hu] at h1
      cases h1; rfl
    subst ex'
    refine ⟨_, rfl, wpAny_letOwnedTupleGo_enum (s := { s with heap := h', toks := tk + 1 }) ho fun h'' he' sb => ?_⟩
    have hT2 : h''.get? s.heap.objs.size = some { cls := .type "tuple", data := .seq #[.int (c + (i : Nat)) tk, x'] } := (sb.2 _ (Nat.ne_of_gt hel)).trans hT
    have new : ObjOk X.prog X.w (upd H s.heap.objs.size (.tup [.int (c + (i : Nat)), x])) h'' s.heap.objs.size (.tup [.int (c + (i : Nat)), x]) :=
      ⟨by show 2 ≤ sizeLine; decide, [.int (c + (i : Nat)) tk, x'], .cons ⟨_, rfl⟩ (.cons ru .nil), ⟨_, hT2, rfl, _, rfl⟩⟩
    have I1 : Inv X pins σ (upd H s.heap.objs.size (.tup [.int (c + (i : Nat)), x])) { s with heap := h'', toks := tk + 1 } :=
      I.turnedNew (ch := [e, it]) (fun b ob hb q => (sb.2 b (fun z => hb (by simp [z]))).trans (hk b ob (fun z => hb (by simp [z])) (fun z => hb (by simp [z])) q)) hf (Nat.le_refl _) new
    refine ⟨.ref s.heap.objs.size, _, I1, rfl, ⟨_, x, rfl, I.hok.fresh (Nat.le_refl _), rfl, fun ys hy => by rw [sqb_inj I hy hq]; exact hx⟩, ⟨⟨x', ?_⟩, hs'.1.at fun o q => (sb.2 it (Ne.symm hne)).trans q, hne⟩, fun b hb => ?_⟩
    · have e1 : c + ((i + 1 : Nat) : Int) = c + (i : Nat) + 1 := by omega
      rw [e1]; exact he'
    · have hb' : b < s.heap.objs.size := by
        have e' : b = e ∨ b = it := by simpa using hb
        rcases e' with z | z
        · rw [z]; exact hel
        · rw [z]; exact hil
      rw [upd_ne (Nat.ne_of_lt hb')]
      exact (hf b hb).1
  done := by
    intro X hP hw hK hc i pins s σ H E I hf st hg
    subst hP hw hK
    obtain ⟨⟨old, he⟩, hit, hne⟩ := st
    obtain ⟨xs, hq, hx⟩ := hg
    obtain ⟨its, rv, p, hz⟩ := inv_sqb I hq
    obtain ⟨f0, f1, f2, f3, f4, f5⟩ := hf it (by simp)
    have hl := rv.length
    exact wpAny_pyNext_enum_endD (Draws.stop (A := X.A.in1) (I.ok.hd hc) t it a its.toArray i (by simp; omega)) he ⟨rfl, hit, p⟩ fun h' eb => ⟨rfl, I.turned (t' := s.toks) (fun b o hb q => eb b o hb q) f0 f1 f3 f4 f5⟩
  self := fun A i s Q E st h => let ⟨⟨_, he⟩, _⟩ := st; wpAny_pyIter_enum he h
def iEnumC (K : Frag) (c : Int) (ta : TA) : TI := fun σ H R => ta σ H fun vs H1 => ∃ t a xs, vs = [.ref a] ∧ SqB K H1 t a xs ∧ R (IteC K c t a) H1
def iEnumF (K : Frag) (ta : TA) : TI := fun σ H R => ta σ H fun vs H1 => ∃ t a xs c, vs = [.ref a, .int c] ∧ 0 ≤ c ∧ c < 1000000 ∧ SqB K H1 t a xs ∧ R (IteC K c t a) H1
/-- a new iterator of a -/
def obI (t : Bool) (a : Addr) : Obj := { cls := .type (if t = true then "tuple_iterator" else "list_iterator"), data := .fields #[.ref a, .int 0 0] }
theorem begins_ab (t : Bool) (a : Addr) (its : Array Value) : Begins (.ref a) (obI t a) (fun h => AtB h t a its) := by
  cases t with
  | true => exact begins_tuple a its
  | false => exact begins_list a its
theorem itB_new {h : Heap} {t : Bool} {it a : Addr} (e : h.get? it = some (obI t a)) : ItB h t it a 0 := by
  unfold ItB
  cases t with
  | true => exact ⟨_, e, rfl, rfl⟩
  | false => exact ⟨_, e, rfl, rfl⟩
set_option maxHeartbeats 1000000 in
theorem meets_enum_new1 {v : Value} {o : Obj} {H : Heap → Prop} (B : Begins v o H) :
    Meets (Builtin.«enumerate.__new__» ⟨[.type "enumerate", v], []⟩) (fun _ R s => H s.heap ∧
      R (.ok (.ret (.ref (s.heap.push o).objs.size))) { s with heap := (s.heap.push o).push { cls := .type "enumerate", data := .fields #[.none, .bool false, .ref s.heap.objs.size, rawInt 0, .none, .none] } }) :=
  .of_wp fun prog w A R s h => by
    obtain ⟨hp, g, d, tk, os⟩ := s; obtain ⟨h1, h⟩ := h
    have hsub := sub_enumerate
    have q1 : ∀ {A' : Around} {E : Value → Shared → Prop} {Q : Value → Shared → Prop}, Q (.ref hp.objs.size) ⟨hp.push o, g, d, tk, os⟩ → wpAny (model prog w) A' (pyIter v) Q E ⟨hp, g, d, tk, os⟩ :=
      fun q => B.iter prog w _ _ ⟨hp, g, d, tk, os⟩ _ h1 q
    wp_walk using q1
    refine wpAny_stack_any fun st => wpAny_pure ?_
    split
    · rename_i c _ _ _ _ _
      cases (c == Value.type "enumerate")
      · wp_walk using q1
        exact ⟨_, rfl, h⟩
      · wp_walk using q1
        exact ⟨_, rfl, h⟩
    · wp_walk using q1
      exact ⟨_, rfl, h⟩
section
variable {prog : Program} {w : World} {A : Around} {E : Value → Shared → Prop} {s : Shared}
theorem enum_begins1 {v : Value} {o : Obj} {H : Heap → Prop} {Q : Value → Shared → Prop} (B : Begins v o H) (h1 : H s.heap)
    (h : ∀ h', IsEnum h' (s.heap.objs.size + 1) s.heap.objs.size 0 .none → h'.get? s.heap.objs.size = some o → h'.objs.size = s.heap.objs.size + 2 →
      (∀ b o, s.heap.get? b = some o → h'.get? b = some o) → Q (.ref (s.heap.objs.size + 1)) { s with heap := h' }) :
    wpAny (model prog w) A (call (.type "enumerate") [v]) Q E s := by
  refine callType_new F.called_enumerate (by decide) (F.typeCall_enumerate_1 _) (F.newCall_enumerate_1 _) (fun obj => F.args_object_init_2 obj _) F.entry_enumerate_new
    (meets_enum_new1 B) ⟨h1, ?_⟩
  have hz : (s.heap.push o).objs.size = s.heap.objs.size + 1 := Heap.size_push ..
  show _ ∧ _
  rw [hz]
  have he : IsEnum ((s.heap.push o).push { cls := .type "enumerate", data := .fields #[.none, .bool false, .ref s.heap.objs.size, rawInt 0, .none, .none] }) (s.heap.objs.size + 1) s.heap.objs.size 0 .none := by
    have := Heap.get?_push_size (s.heap.push o) (o := { cls := .type "enumerate", data := .fields #[.none, .bool false, .ref s.heap.objs.size, rawInt 0, .none, .none] }) rfl
    rw [hz] at this; exact this
  refine ⟨⟨_, he, rfl⟩, h _ he (Heap.get?_push_of_some _ (Heap.get?_push_size _ B.free)) (by rw [Heap.size_push, hz]) fun b o x => Heap.get?_push_of_some _ (Heap.get?_push_of_some _ x)⟩
end
/-- behind the making of an enumerate -/
theorem enum_end {X : Cx} {pins : List (Addr × Obj)} {σ : L2.St} {H1 : Hp} {s1 : Shared} {elts : List Expr} {kk : Nat} {tpos : Pos} {R : It → Hp → Prop} {c : Int} {t : Bool} {a : Addr} {h' : Heap} (I1 : Inv X pins σ H1 s1) (q : R (IteC X.K c t a) H1)
    (he : IsEnum h' (s1.heap.objs.size + 1) s1.heap.objs.size c .none) (hit : h'.get? s1.heap.objs.size = some (obI t a)) (hk : ∀ b o, s1.heap.get? b = some o → h'.get? b = some o) :
    wpAny (model X.prog X.w) X.A (pyIter (.ref (s1.heap.objs.size + 1))) (PIE X pins σ (.Tuple elts kk tpos) R) X.xe { s1 with heap := h' } := by
  refine wpAny_pyIter_enum he ?_
  have I2 : Inv X pins σ H1 { s1 with heap := h' } := I1.kept (t' := s1.toks) hk
  refine ⟨s1.heap.objs.size + 1, [s1.heap.objs.size + 1, s1.heap.objs.size], _, _, H1, rfl, I2, turn_enumC c t a (s1.heap.objs.size + 1) s1.heap.objs.size, ⟨⟨.none, by rw [show c + ((0 : Nat) : Int) = c by omega]; exact he⟩, itB_new hit, Nat.succ_ne_self _⟩, fun b hb => ?_, q⟩
  have e' : b = s1.heap.objs.size + 1 ∨ b = s1.heap.objs.size := by simpa using hb
  have hle : s1.heap.objs.size ≤ b := by
    rcases e' with z | z
    · rw [z]; exact Nat.le_add_right _ _
    · rw [z]; exact Nat.le_refl _
  exact I1.fpOk hle (I1.hok.fresh hle)
theorem pi_enumC {X : Cx} {e : Expr} {ta : TA} {p pos tpos : Pos} {elts : List Expr} {kk : Nat} (hg : Gl X "enumerate") (hm : X.mg "enumerate" = none) (ha : PA X [e] ta) (hs : starEach [e] X.env = [(false, eval e X.env)] := by rfl) :
    PI X (.Tuple elts kk tpos) (.Call (.Name "enumerate" p) [e] [] pos) (iEnumC X.K 0 ta) := by
  refine ⟨fun pins s σ H R I h => ?_⟩
  refine Call_ (ld_blt I hg hm boot_enumerate (PyProof.Rows.callWith_type1 (thn (ha.run pos pins s σ H _ I h) fun us s1 ⟨vs, H1, I1, r1, q1⟩ => ?_) hs rfl))
  obtain ⟨t, a, xs, ex, hq, q⟩ := q1
  subst ex
  cases r1 with
  | cons r rr =>
    cases rr
    cases r
    obtain ⟨its, rv, p', hz⟩ := inv_sqb I1 hq
    exact enum_begins1 (begins_ab t a its.toArray) p' fun h' he hit hsz hk => enum_end I1 q he hit hk
theorem pi_enumF {X : Cx} {e e2 : Expr} {ta : TA} {p pos tpos : Pos} {elts : List Expr} {kk : Nat} (hg : Gl X "enumerate") (hm : X.mg "enumerate" = none) (ha : PA X [e, e2] ta)
    (hs : starEach [e, e2] X.env = (false, eval e X.env) :: starEach [e2] X.env := by rfl) (hpl : (backTo pos (starEach [e2] X.env)).any (·.1) = false := by rfl) :
    PI X (.Tuple elts kk tpos) (.Call (.Name "enumerate" p) [e, e2] [] pos) (iEnumF X.K ta) := by
  refine ⟨fun pins s σ H R I h => ?_⟩
  refine Call_ (ld_blt I hg hm boot_enumerate (PyProof.Rows.callWith_type1 (thn (ha.run pos pins s σ H _ I h) fun us s1 ⟨vs, H1, I1, r1, q1⟩ => ?_) hs hpl))
  obtain ⟨t, a, xs, c, ex, l1, l2, hq, q⟩ := q1
  subst ex
  cases r1 with
  | cons r rr =>
    cases rr with
    | cons r' rr =>
      cases rr
      cases r
      obtain ⟨tk, rfl⟩ := r'
      obtain ⟨its, rv, p', hz⟩ := inv_sqb I1 hq
      exact enum_begins (begins_ab t a its.toArray) p' (by omega) (by omega) fun h' he hit hsz hk => enum_end I1 q he hit hk
/-! ### over data -/
/-- a tuple or a list that stands still -/
def SqI (x : D) (xs : List D) : Prop := x = .lst xs ∨ x = .tup xs ∨ x = .cst xs
section
variable {K : KX} {ρ : Env} {γ : Ga}
theorem sqi_rp {H : Hp} {α : Al} {v : V} {x : D} {xs : List D} (r : Rp K H α v x) (h : SqI x xs) : ∃ t a us, v = .ref a ∧ RpL K H α us xs ∧ ∀ α' H', Ext α H α' H' → SqB K H' t a us := by
  rcases h with rfl | rfl | rfl
  · cases r with
    | lst h1 h2 h3 => exact ⟨false, _, _, rfl, h3, fun α' H' e => SqL.of (e.keep _ _ h1 h2)⟩
  · cases r with
    | tup h1 h2 => exact ⟨true, _, _, rfl, h2, fun α' H' e => (h1.monoE e).sq⟩
  · cases r with
    | cst h1 h2 => exact ⟨true, _, _, rfl, h2, fun α' H' e => h1.sq⟩
def numD : Int → List D → List D
  | _, [] => []
  | c, d :: ds => .tup [.int c, d] :: numD (c + 1) ds
theorem numD_len {ds : List D} : ∀ {c : Int}, (numD c ds).length = ds.length := by
  induction ds with
  | nil => intro c; rfl
  | cons d ds ih => intro c; simp [numD, ih]
theorem numD_get : ∀ {ds : List D} {c : Int} {i : Nat} {d : D}, ds[i]? = some d → (numD c ds)[i]? = some (.tup [.int (c + (i : Nat)), d])
  | [], _, _, _, h => by simp at h
  | x :: ds, c, 0, d, h => by
    simp at h; subst h
    simp [numD]
  | x :: ds, c, i + 1, d, h => by
    have h' := numD_get (c := c + 1) (i := i) (by simpa using h)
    simp only [numD, List.getElem?_cons_succ]
    rw [h']
    congr 3
    congr 1
    omega
theorem numD_at {ds : List D} {c : Int} {i : Nat} {y : D} (h : (numD c ds)[i]? = some y) : ∃ d, ds[i]? = some d ∧ y = .tup [.int (c + (i : Nat)), d] := by
  have hl := (List.getElem?_eq_some_iff.mp h).1
  rw [numD_len] at hl
  have := numD_get (c := c) (List.getElem?_eq_getElem hl)
  rw [h] at this
  exact ⟨_, List.getElem?_eq_getElem hl, Option.some.inj this⟩
theorem wk_enum {α : Al} {H : Hp} {t : Bool} {a : Addr} {us : List V} {xs : List D} (c : Int) (g : GaX K H α γ) (rl : RpL K H α us xs) (sq : ∀ α' H', Ext α H α' H' → SqB K H' t a us) : WkI K (IteC K c t a) α H (numD c xs) := by
  refine ⟨?_, ?_, ?_⟩
  · intro i H2 α2 γ2 e2 g2 hi
    have hv : i < us.length := by rw [rl.length]; rwa [numD_len] at hi
    exact ⟨us, us[i], sq _ _ e2, List.getElem?_eq_getElem hv⟩
  · intro i H2 α2 γ2 e2 g2 hi
    exact ⟨us, sq _ _ e2, by rw [rl.length]; rwa [numD_len] at hi⟩
  · rintro i H2 α2 γ2 x H3 hi e2 g2 ⟨T, u, rfl, hT, rfl, hu⟩
    obtain ⟨d, h1, h2⟩ := rl.getV (hu us (sq _ _ e2))
    refine ⟨_, numD_get h1, ext_imm g2 hT, ga_imm g2 hT, .tup ⟨g2.new hT, upd_same⟩ (.cons (.int _) (.cons (Rp.mono (e2.trans (ext_imm g2 hT)) _ _ h2) .nil))⟩
theorem di_enumC {ta : TA} {R : List D → Ga → Prop} (h : dA K ta ρ γ fun ds γ1 => ∃ x xs, ds = [x] ∧ SqI x xs ∧ R (numD 0 xs) γ1) : dI K (iEnumC K 0 ta) ρ γ R := fun σ H α q r g w =>
  h σ H α _ r g fun vs H1 α1 ds γ1 ⟨x, xs, ed, hx, hR⟩ e1 g1 rl => by
    subst ed
    cases rl with
    | cons r1 r2 =>
      cases r2
      obtain ⟨t, a, us, rfl, rl, sq⟩ := sqi_rp r1 hx
      exact ⟨t, a, us, rfl, sq _ _ g1.refl, w _ H1 α1 γ1 _ hR e1 g1 (wk_enum 0 g1 rl sq)⟩
theorem di_enumF {ta : TA} {R : List D → Ga → Prop} (h : dA K ta ρ γ fun ds γ1 => ∃ x xs c, ds = [x, .int c] ∧ SqI x xs ∧ 0 ≤ c ∧ c < 1000000 ∧ R (numD c xs) γ1) : dI K (iEnumF K ta) ρ γ R := fun σ H α q r g w =>
  h σ H α _ r g fun vs H1 α1 ds γ1 ⟨x, xs, c, ed, hx, l1, l2, hR⟩ e1 g1 rl => by
    subst ed
    cases rl with
    | cons r1 r2 =>
      cases r2 with
      | cons r2 r3 =>
        cases r3
        cases r2
        obtain ⟨t, a, us, rfl, rl, sq⟩ := sqi_rp r1 hx
        exact ⟨t, a, us, c, rfl, l1, l2, sq _ _ g1.refl, w _ H1 α1 γ1 _ hR e1 g1 (wk_enum c g1 rl sq)⟩
/-! ### zip of two tuples, of two lists -/
theorem di_zip {ta : TA} {R : List D → Ga → Prop} (h : dA K ta ρ γ fun ds γ1 => ∃ x y xs ys, ds = [x, y] ∧ ((x = .lst xs ∧ y = .lst ys) ∨ ((x = .tup xs ∨ x = .cst xs) ∧ (y = .tup ys ∨ y = .cst ys))) ∧ R ((xs.zip ys).map fun p => .tup [p.1, p.2]) γ1) : dI K (iZipA K ta) ρ γ R := fun σ H α q r g w =>
  h σ H α _ r g fun vs H1 α1 ds γ1 ⟨x, y, xs, ys, ed, hx, hR⟩ e1 g1 rl => by
    subst ed
    have zl : ∀ {us ws : List V}, RpL K H1 α1 us xs → RpL K H1 α1 ws ys → us.length = xs.length ∧ ws.length = ys.length ∧ ((xs.zip ys).map fun p => D.tup [p.1, p.2]).length = min xs.length ys.length := fun a b => ⟨a.length, b.length, by simp⟩
    cases rl with
    | cons r1 r2 =>
      cases r2 with
      | cons r2 r3 =>
        cases r3
        have zg : ∀ {i : Nat} {d d' : D}, xs[i]? = some d → ys[i]? = some d' → ((xs.zip ys).map fun p => D.tup [p.1, p.2])[i]? = some (.tup [d, d']) := fun {i d d'} h1 h2 => by
          rw [List.getElem?_map, (List.getElem?_zip_eq_some (z := (d, d'))).mpr ⟨h1, h2⟩]; rfl
        rcases hx with ⟨rfl, rfl⟩ | hx
        · cases r1 with
          | lst a1 a2 a3 =>
            cases r2 with
            | lst b1 b2 b3 =>
              obtain ⟨l1, l2, l3⟩ := zl a3 b3
              refine ⟨_, _, _, _, rfl, .inl ⟨SqL.of a2, SqL.of b2, w _ H1 α1 γ1 _ hR e1 g1 ⟨?_, ?_, ?_⟩⟩⟩
              · intro i H2 α2 γ2 e2 g2 hi
                exact ⟨_, _, _, _, SqL.of (e2.keep _ _ a1 a2), SqL.of (e2.keep _ _ b1 b2), List.getElem?_eq_getElem (by omega), List.getElem?_eq_getElem (by omega)⟩
              · intro i H2 α2 γ2 e2 g2 hi
                exact ⟨_, _, SqL.of (e2.keep _ _ a1 a2), SqL.of (e2.keep _ _ b1 b2), by omega⟩
              · rintro i H2 α2 γ2 x H3 hi e2 g2 ⟨T, u, u', rfl, hT, rfl, hu, hu'⟩
                obtain ⟨d, h1, h2⟩ := a3.getV (hu _ (SqL.of (e2.keep _ _ a1 a2)))
                obtain ⟨d', h1', h2'⟩ := b3.getV (hu' _ (SqL.of (e2.keep _ _ b1 b2)))
                exact ⟨_, zg h1 h1', ext_imm g2 hT, ga_imm g2 hT, .tup ⟨g2.new hT, upd_same⟩ (.cons (Rp.mono (e2.trans (ext_imm g2 hT)) _ _ h2) (.cons (Rp.mono (e2.trans (ext_imm g2 hT)) _ _ h2') .nil))⟩
        · have key : ∀ {v : V} {x : D} {xs : List D}, Rp K H1 α1 v x → (x = .tup xs ∨ x = .cst xs) → ∃ a us, v = .ref a ∧ RpL K H1 α1 us xs ∧ ∀ α' H', Ext α1 H1 α' H' → SqT K H' a us := by
            intro v x xs r h
            rcases h with rfl | rfl
            · cases r with
              | tup h1 h2 => exact ⟨_, _, rfl, h2, fun α' H' e => (h1.monoE e).sq⟩
            · cases r with
              | cst h1 h2 => exact ⟨_, _, rfl, h2, fun α' H' e => h1.sq⟩
          obtain ⟨a, us, rfl, a3, sa⟩ := key r1 hx.1
          obtain ⟨b, ws, rfl, b3, sb⟩ := key r2 hx.2
          obtain ⟨l1, l2, l3⟩ := zl a3 b3
          refine ⟨_, _, _, _, rfl, .inr ⟨sa _ _ g1.refl, sb _ _ g1.refl, w _ H1 α1 γ1 _ hR e1 g1 ⟨?_, ?_, ?_⟩⟩⟩
          · intro i H2 α2 γ2 e2 g2 hi
            exact ⟨_, _, _, _, sa _ _ e2, sb _ _ e2, List.getElem?_eq_getElem (by omega), List.getElem?_eq_getElem (by omega)⟩
          · intro i H2 α2 γ2 e2 g2 hi
            exact ⟨_, _, sa _ _ e2, sb _ _ e2, by omega⟩
          · rintro i H2 α2 γ2 x H3 hi e2 g2 ⟨T, u, u', rfl, hT, rfl, hu, hu'⟩
            obtain ⟨d, h1, h2⟩ := a3.getV (hu _ (sa _ _ e2))
            obtain ⟨d', h1', h2'⟩ := b3.getV (hu' _ (sb _ _ e2))
            exact ⟨_, zg h1 h1', ext_imm g2 hT, ga_imm g2 hT, .tup ⟨g2.new hT, upd_same⟩ (.cons (Rp.mono (e2.trans (ext_imm g2 hT)) _ _ h2) (.cons (Rp.mono (e2.trans (ext_imm g2 hT)) _ _ h2') .nil))⟩
end
end DL

set_option Elab.async false
set_option linter.all false
set_option maxRecDepth 100000
set_option maxHeartbeats 2000000
/-! dict comprehensions; d.setdefault(k, x) -/
namespace DL
open PySem PySem.Spec PyProof.Rows L2
theorem upd_self {H : Hp} {p : Addr} {o : HO} (h : H p = some o) : upd H p o = H := by
  funext b
  by_cases e : b = p
  · subst e; rw [upd_same, h]
  · rw [upd_ne e]
section
variable {X : Cx}
/-- name = {k: v for ..} on one line, the name a local -/
theorem ps_setDc {i : Nat} {y : Str} {py : Pos} {kx vx tg iter : Expr} {ifs : List Expr} {scope : Scope} {own : List (Str × Nat)} {pos spos : Pos} {wi : TI} {g : TG} {tt : TT} {tk tv : TE} (hc : X.calm = true) (hN : X.N.Nodup) (hy : X.N[i]? = some y) (hyl : X.env.scope.names.lookup y = some .local)
    (hsw : swapsWith (.DictComp kx vx [⟨tg, iter, ifs, 0⟩] scope pos) (some (.Name y py)) spos.line X.env = pure true) (hi : PI X tg iter wi) (ok : BlkOk X.N X.env.scope scope own)
    (hg : ∀ (s : Shared) (H : Hp) (C : Addr) (cl : List (Str × Addr)) (fp : List Addr), PG (X.blk s H scope (compEnvC scope cl C X.env) fp) tg g) (ht : ∀ (s : Shared) (H : Hp) (C : Addr) (cl : List (Str × Addr)) (fp : List Addr), PTs (X.blk s H scope (compEnvC scope cl C X.env) fp) ifs tt)
    (hk : ∀ (s : Shared) (H : Hp) (C : Addr) (cl : List (Str × Addr)) (fp : List Addr), PE (X.blk s H scope (compEnvC scope cl C X.env) fp) kx tk)
    (he : ∀ (s : Shared) (H : Hp) (C : Addr) (cl : List (Str × Addr)) (fp : List Addr), PE (X.blk s H scope (compEnvC scope cl C X.env) fp) vx tv) (hs : ∀ x, foldedSetIterable iter X.env x = pure x := by intro _; rfl) :
    PS X (.Assign [.Name y py] (.DictComp kx vx [⟨tg, iter, ifs, 0⟩] scope pos) spos) (tAsg (tDc wi g tt tk tv (own.map (·.2))) (gName i)) := by
  refine ⟨fun pins s σ H D I h => ?_⟩
  rw [exec_Assign_Name_used _ _ _ _ hsw]
  refine wpAny_bind (wpAny_standAt (wpAny_bind ?_))
  show wpAny _ X.A (do let _ ← comprehension (.DictComp kx vx [⟨tg, iter, ifs, 0⟩] scope pos) scope X.env (firstIterPos [⟨tg, iter, ifs, 0⟩] pos) newDict false (eval iter X.env) (some (assign (.Name y py) X.env))) _ _ s
  have h : tDc wi g tt tk tv (own.map (·.2)) σ H (fun x H1 => gName i x σ H1 D.nx) := h
  refine wpAny_bind (thn (dc_core (Qf := fun _ s' => SP X pins D .next s') hc hN I hi ok hg ht hk he hs h fun L C s' m H' I' q hn f => ?_) fun _ s' hq => wpAny_pure (wpAny_pure hq))
  show wpAny _ _ (assign (.Name y py) X.env (.ref L)) _ _ _
  refine wpAny_assign_Name (store_ok2 (v := V.ref L) I' hN hy (.inl hyl) rfl (fun s2 I2 ⟨a, sb, ha⟩ => ?_) (.inr hyl))
  obtain ⟨f0, f1, f2, f3, f4, f5⟩ := f
  have haC : C ≠ a := by
    rcases ha with z | z
    · rw [z]; exact f1
    · exact fun e => f4 y a z e.symm
  refine ⟨m, hn.sameBut sb haC, fun h3 sb3 => ?_⟩
  exact ⟨_, H', I2.turned (t' := s2.toks) (fun b o hb e => (sb3.2 b hb).trans e) f0 f1 f3 f4 f5, q⟩
theorem sw_trueD {kx vx : Expr} {gs : List Comprehension} {scope : Scope} {pos py : Pos} {y : Str} {l : Nat} {env : PySem.Env} (hk : env.scope.kind = .function) (hy : env.scope.names.lookup y = some .local) (hl : (py.line == pos.line) = true)
    (ha : (scope.names.any fun (n, k) => n == y && (k == .local || k == .cell)) = false) : swapsWith (.DictComp kx vx gs scope pos) (some (.Name y py)) l env = pure true := by
  have ky : env.kindOf y = some .local := hy
  have hb : env.blockKind = .function := by unfold PySem.Env.blockKind; rw [hk]; rfl
  unfold swapsWith
  simp only [hb, ky, ha, Expr.pos, hl]
  rfl
end
/-- a dict comprehension whose result will be changed -/
def tDcM (wi : TI) (g : TG) (tt : TT) (tk tv : TE) (vs : List Nat) : TE := tDc wi g tt tk tv vs
section
variable {K : KX} {ρ : Env} {γ : Ga}
theorem de_dc {wi : TI} {g : TG} {tt : TT} {tk tv : TE} {vs : List Nat} {Q : QD} (is : List Nat) (hsub : ∀ i ∈ is, i ∈ vs)
    (h : dI K wi ρ γ fun ds γ1 => ds.length ≤ 1000000 ∧ ∃ P : Nat → List (Key × D) → Ga → Prop, P 0 [] γ1 ∧
      (∀ i x acc γ', ds[i]? = some x → P i acc γ' → dG K g x (wipeE ρ vs) γ' is fun ρ2 γ2 => dT K.cm tt ρ2 γ2 fun b γ3 => if b = true then dE K.cm tk ρ2 γ3 fun y γ4 => dE K.cm tv ρ2 γ4 fun z γ5 => ∃ k, keyD y = some k ∧ P (i + 1) (putP acc k z) γ5 else P (i + 1) acc γ3) ∧
      ∀ acc γ', P ds.length acc γ' → Q (.dic (acc.map (·.1)) (acc.map (·.2))) γ') : dE K (tDc wi g tt tk tv vs) ρ γ Q := fun σ H α q r g0 w => by
  refine h σ H α _ r g0 fun J H1 α1 γ1 ds h1 e1 g1 wk => ?_
  obtain ⟨hlen, P, p0, hs, hd⟩ := h1
  intro Da hDa
  have ex := ext_hid g1 (o := .dK []) hDa
  have gx := ga_hid g1 (o := .dK []) hDa
  refine ⟨fun i m H => m = ds.length - i ∧ i ≤ ds.length ∧ ∃ acc us α γ, P i acc γ ∧ acc.length ≤ i ∧ H Da = some (.dK us) ∧ Da ∈ α.x ∧ us.map (·.1) = acc.map (·.1) ∧ RpL K H α (us.map (·.2)) (acc.map (·.2)) ∧ Ext α1 H1 α H ∧ GaX K H α γ,
    ⟨ds.length, by simp, Nat.zero_le _, [], [], α1.hid Da, γ1, p0, Nat.le_refl _, upd_same, List.mem_cons_self, rfl, .nil, ex, gx⟩, ?_⟩
  rintro i m H2 ⟨rfl, hi, acc, us, α2, γ2, p2, hacc, hD2, nD2, rk2, ra2, e2, g2⟩
  by_cases hlt : i < ds.length
  · refine .inr ⟨wk.go i H2 α2 γ2 e2 g2 hlt, fun H => i + 1 ≤ ds.length ∧ ∃ acc us α γ, P (i + 1) acc γ ∧ acc.length ≤ i + 1 ∧ H Da = some (.dK us) ∧ Da ∈ α.x ∧ us.map (·.1) = acc.map (·.1) ∧ RpL K H α (us.map (·.2)) (acc.map (·.2)) ∧ Ext α1 H1 α H ∧ GaX K H α γ, fun H' hh => ⟨ds.length - (i + 1), by omega, rfl, hh⟩, fun x H' y => ?_⟩
    obtain ⟨d, hd1, e3, g3, r3⟩ := wk.yld i H2 α2 γ2 x H' hlt e2 g2 y
    refine hs i d acc γ2 hd1 p2 (wipe σ vs) H' α2 x _ (rpe_wipe (r.mono ((e1.trans e2).trans e3)) vs) g3 r3 fun σ4 H4 α4 ρ4 γ4 h4 s4 e4 g4 r4 => ?_
    refine ⟨wipe_eq s4 hsub, ?_⟩
    refine h4 σ4 H4 α4 _ r4 g4.cm fun b H5 α5 γ5 h5 e5 g5c => ?_
    have g5 : GaX K H5 α5 γ5 := g4.go g5c.toGaOk e5
    have e25 := (e3.trans e4).trans e5
    have inx : ∀ {α6 : Al} {H6 : Hp}, Ext α2 H2 α6 H6 → Da ∈ α6.x := fun e => by
      obtain ⟨δ, q, _⟩ := e.xx
      rw [q]
      exact List.mem_append_right _ nD2
    cases b with
    | true =>
      refine iteT (h5 σ4 H5 α5 _ (r4.mono e5) g5.cm fun y H6 α6 yd γ6 h6 e6 g6c r6 => ?_)
      have g6 : GaX K H6 α6 γ6 := g5.go g6c.toGaOk e6
      refine h6 σ4 H6 α6 _ ((r4.mono e5).mono e6) g6.cm fun z H7 α7 zd γ7 h7 e7 g7c r7 => ?_
      have g7 : GaX K H7 α7 γ7 := g6.go g7c.toGaOk e7
      obtain ⟨k, hk, p7⟩ := h7
      have e27 := (e25.trans e6).trans e7
      have hD7 := e27.keepx _ _ nD2 hD2
      have nD7 := inx e27
      have hlu : us.length = acc.length := by simpa using congrArg List.length rk2
      have ew := ext_setW g7 (o := .dK (putK us k z)) (.inr nD7)
      obtain ⟨q1, q2, _⟩ := putK_rp (k := k) (RpL.monoW ew [zd] [z] (.cons r7 .nil) |> fun h => by cases h with | cons h _ => exact h) rk2 (RpL.monoW ew _ _ (RpL.mono e27 _ _ ra2))
      refine ⟨us, k, keyD_rp (Rp.mono e7 _ _ r6) hk, hD7, ?_, hlt, putP acc k zd, putK us k z, α7, γ7, p7, ?_, upd_same, nD7, q1, q2, ext_hset g1 (e2.trans e27) hDa, g1.go (ga_hset0 g7.toGaOk nD7) (ext_hset g1 (e2.trans e27) hDa)⟩
      · rw [hlu]; exact size24 (by omega)
      · have hl : (putP acc k zd).length ≤ acc.length + 1 := by
          unfold putP
          split <;> simp
        omega
    | false =>
      exact iteF ⟨hlt, acc, us, α5, γ5, h5, by omega, e25.keepx _ _ nD2 hD2, inx e25, rk2, RpL.mono e25 _ _ ra2, e2.trans e25, g5⟩
  · have ei : i = ds.length := by omega
    subst ei
    have nh : Da ∉ α2.h := fun z => g2.nd.2.2 Da z nD2
    refine .inl ⟨wk.stop _ H2 α2 γ2 e2 g2 (Nat.le_refl _), ?_⟩
    have hq := hd acc γ2 p2
    rw [← rk2] at hq
    exact w _ H2 (α2.un Da) _ γ2 hq (e1.trans (ext_un g1 e2 hDa)) (g1.go (ga_un0 g2.toGaOk) (ext_un g1 e2 hDa)) (.dic (out_un nh) hD2 (RpL.shw (α := α2) (α' := α2.un Da) rfl un_x _ _ ra2))
theorem de_dcM {wi : TI} {g : TG} {tt : TT} {tk tv : TE} {vs : List Nat} {Q : QD} (is : List Nat) (hsub : ∀ i ∈ is, i ∈ vs)
    (h : dI K wi ρ γ fun ds γ1 => ds.length ≤ 1000000 ∧ ∃ P : Nat → List (Key × D) → Ga → Prop, P 0 [] γ1 ∧
      (∀ i x acc γ', ds[i]? = some x → P i acc γ' → dG K g x (wipeE ρ vs) γ' is fun ρ2 γ2 => dT K.cm tt ρ2 γ2 fun b γ3 => if b = true then dE K.cm tk ρ2 γ3 fun y γ4 => dE K.cm tv ρ2 γ4 fun z γ5 => ∃ k, keyD y = some k ∧ P (i + 1) (putP acc k z) γ5 else P (i + 1) acc γ3) ∧
      ∀ acc γ', P ds.length acc γ' → Q (.loc γ'.length) (γ' ++ [moK acc])) : dE K (tDcM wi g tt tk tv vs) ρ γ Q := fun σ H α q r g0 w => by
  refine h σ H α _ r g0 fun J H1 α1 γ1 ds h1 e1 g1 wk => ?_
  obtain ⟨hlen, P, p0, hs, hd⟩ := h1
  intro Da hDa
  have ex := ext_hid g1 (o := .dK []) hDa
  have gx := ga_hid g1 (o := .dK []) hDa
  refine ⟨fun i m H => m = ds.length - i ∧ i ≤ ds.length ∧ ∃ acc us α γ, P i acc γ ∧ acc.length ≤ i ∧ H Da = some (.dK us) ∧ Da ∈ α.x ∧ us.map (·.1) = acc.map (·.1) ∧ RpL K H α (us.map (·.2)) (acc.map (·.2)) ∧ Ext α1 H1 α H ∧ GaX K H α γ,
    ⟨ds.length, by simp, Nat.zero_le _, [], [], α1.hid Da, γ1, p0, Nat.le_refl _, upd_same, List.mem_cons_self, rfl, .nil, ex, gx⟩, ?_⟩
  rintro i m H2 ⟨rfl, hi, acc, us, α2, γ2, p2, hacc, hD2, nD2, rk2, ra2, e2, g2⟩
  by_cases hlt : i < ds.length
  · refine .inr ⟨wk.go i H2 α2 γ2 e2 g2 hlt, fun H => i + 1 ≤ ds.length ∧ ∃ acc us α γ, P (i + 1) acc γ ∧ acc.length ≤ i + 1 ∧ H Da = some (.dK us) ∧ Da ∈ α.x ∧ us.map (·.1) = acc.map (·.1) ∧ RpL K H α (us.map (·.2)) (acc.map (·.2)) ∧ Ext α1 H1 α H ∧ GaX K H α γ, fun H' hh => ⟨ds.length - (i + 1), by omega, rfl, hh⟩, fun x H' y => ?_⟩
    obtain ⟨d, hd1, e3, g3, r3⟩ := wk.yld i H2 α2 γ2 x H' hlt e2 g2 y
    refine hs i d acc γ2 hd1 p2 (wipe σ vs) H' α2 x _ (rpe_wipe (r.mono ((e1.trans e2).trans e3)) vs) g3 r3 fun σ4 H4 α4 ρ4 γ4 h4 s4 e4 g4 r4 => ?_
    refine ⟨wipe_eq s4 hsub, ?_⟩
    refine h4 σ4 H4 α4 _ r4 g4.cm fun b H5 α5 γ5 h5 e5 g5c => ?_
    have g5 : GaX K H5 α5 γ5 := g4.go g5c.toGaOk e5
    have e25 := (e3.trans e4).trans e5
    have inx : ∀ {α6 : Al} {H6 : Hp}, Ext α2 H2 α6 H6 → Da ∈ α6.x := fun e => by
      obtain ⟨δ, q, _⟩ := e.xx
      rw [q]
      exact List.mem_append_right _ nD2
    cases b with
    | true =>
      refine iteT (h5 σ4 H5 α5 _ (r4.mono e5) g5.cm fun y H6 α6 yd γ6 h6 e6 g6c r6 => ?_)
      have g6 : GaX K H6 α6 γ6 := g5.go g6c.toGaOk e6
      refine h6 σ4 H6 α6 _ ((r4.mono e5).mono e6) g6.cm fun z H7 α7 zd γ7 h7 e7 g7c r7 => ?_
      have g7 : GaX K H7 α7 γ7 := g6.go g7c.toGaOk e7
      obtain ⟨k, hk, p7⟩ := h7
      have e27 := (e25.trans e6).trans e7
      have hD7 := e27.keepx _ _ nD2 hD2
      have nD7 := inx e27
      have hlu : us.length = acc.length := by simpa using congrArg List.length rk2
      have ew := ext_setW g7 (o := .dK (putK us k z)) (.inr nD7)
      obtain ⟨q1, q2, _⟩ := putK_rp (k := k) (RpL.monoW ew [zd] [z] (.cons r7 .nil) |> fun h => by cases h with | cons h _ => exact h) rk2 (RpL.monoW ew _ _ (RpL.mono e27 _ _ ra2))
      refine ⟨us, k, keyD_rp (Rp.mono e7 _ _ r6) hk, hD7, ?_, hlt, putP acc k zd, putK us k z, α7, γ7, p7, ?_, upd_same, nD7, q1, q2, ext_hset g1 (e2.trans e27) hDa, g1.go (ga_hset0 g7.toGaOk nD7) (ext_hset g1 (e2.trans e27) hDa)⟩
      · rw [hlu]; exact size24 (by omega)
      · have hl : (putP acc k zd).length ≤ acc.length + 1 := by
          unfold putP
          split <;> simp
        omega
    | false =>
      exact iteF ⟨hlt, acc, us, α5, γ5, h5, by omega, e25.keepx _ _ nD2 hD2, inx e25, rk2, RpL.mono e25 _ _ ra2, e2.trans e25, g5⟩
  · have ei : i = ds.length := by omega
    subst ei
    have nh : Da ∉ α2.h := fun z => g2.nd.2.2 Da z nD2
    refine .inl ⟨wk.stop _ H2 α2 γ2 e2 g2 (Nat.le_refl _), ?_⟩
    have hq := hd acc γ2 p2
    have es := ext_sho (o := .dK us) g1 e2 g2.toGaOk hDa nD2
    have gs := ga_sho0 (o := .dK us) (m := moK acc) g2.toGaOk nD2 ⟨us, upd_same, rk2, RpL.re sho_hk (sho_ho nD2) _ _ ra2⟩
    rw [upd_self hD2] at es gs
    exact w _ H2 ((α2.un Da).push Da) _ _ hq (e1.trans es) (g1.go gs es) (.loc (by show (α2.h ++ [Da])[γ2.length]? = _; rw [← g2.len]; simp))
end
/-! ### d.setdefault(y, z) -/
section
variable {X : Cx} {pins : List (Addr × Obj)} {σ : L2.St} {H : Hp} {s : Shared} {a : Addr} {u r : Value} {A : Around} {E : Value → Shared → Prop}
theorem d_setdT {kvs : List (List Key × V)} {k : List Key} {b : Addr} {d : V} {Q : Value → Shared → Prop} (hu : A.units + 1 < cLine) (I : Inv X pins σ H s) (e : H a = some (.dT kvs)) (eb : H b = some (.tup (k.map kV))) (rd : RelV d r) (hl : kvs.length < sizeLine)
    (h1 : ∀ v, valV kvs k = some v → ∀ (w' : Value) (s' : Shared), Inv X pins σ H s' → RelV v w' → Q w' s') (h2 : valV kvs k = none → ∀ (w' : Value) (s' : Shared), Inv X pins σ (upd H a (.dT (putK kvs k d))) s' → RelV d w' → Q w' s') :
    wpAny (model X.prog X.w) A (call (.builtin "dict.setdefault") [.ref a, .ref b, r]) Q E s := by
  obtain ⟨z, hd, xs, rel, dd⟩ := dt_of I.hok e
  have hz : xs.length ≤ sizeLine := by rw [← Paired.length rel]; exact z
  have q := rel.val k
  refine call_setdefault_heap (hsz := hz) (tupleKind_room_in1 hu) (key_of I.hok eb) hd dd (fun p hp => ?_) fun hn h' dd' hs => ?_
  · rw [hp] at q
    cases q0 : valV kvs k with
    | none =>
      rw [q0] at q
      exact (show False from q).elim
    | some v0 =>
      rw [q0] at q
      exact h1 v0 q0 _ _ (I.tok _) q
  · rw [hn] at q
    cases q0 : valV kvs k with
    | some v0 =>
      rw [q0] at q
      exact (show False from q).elim
    | none =>
      have hl2 : (putK kvs k d).length ≤ sizeLine := by
        have := length_putK kvs k d
        omega
      obtain ⟨q, es, ep, hq, g2, g3, g4, _, g5⟩ := dd'
      refine h2 q0 _ _ (d_write I (by rw [e]; exact True.intro) hs ⟨q, hq⟩ ⟨hl2, hd, _, (rel.put k eb rd).keeps fun c ys ec => ?_, q, es, ep, hq, g2, g3, g4, g5⟩) rd
      rw [upd_ne (ne_of ec e (fun z => nomatch z))]
      exact ec
end
def DSet (H : Hp) (a : Addr) (y z : V) (Q : VK) : Prop :=
  (∃ (kvs : List (Key × V)) (k : Key), H a = some (.dK kvs) ∧ y = kV k ∧ kvs.length < sizeLine ∧ (∀ v, valV kvs k = some v → Q v H) ∧ (valV kvs k = none → Q z (upd H a (.dK (putK kvs k z))))) ∨
  ∃ (kvs : List (List Key × V)) (k : List Key) (b : Addr), H a = some (.dT kvs) ∧ y = .ref b ∧ H b = some (.tup (k.map kV)) ∧ kvs.length < sizeLine ∧ (∀ v, valV kvs k = some v → Q v H) ∧ (valV kvs k = none → Q z (upd H a (.dT (putK kvs k z))))
def tDSet (td ty tx : TE) : TE := fun σ H Q => td σ H fun x H1 => ∃ a, x = .ref a ∧ IsD H1 a ∧ ty σ H1 fun y H2 => tx σ H2 fun z H3 => DSet H3 a y z Q
theorem pe_dset {X : Cx} {o e f : Expr} {td ty tx : TE} {apos cpos : Pos} (hu : X.A.units + 1 < cLine) (ho : PE X o td) (he : PE X e ty) (hf : PE X f tx) (m : M2 X o "setdefault" apos e f cpos) : PE X (.Call (.Attribute o "setdefault" apos) [e, f] [] cpos) (tDSet td ty tx) := by
  refine ⟨fun pins s σ H Q I h => ?_⟩
  refine wpAny_Call_method m.base m.few m.line PySem.F.plainAttrs_dict PySem.F.slot_dict_setdefault PySem.F.type_dict_setdefault (thn (ho.run pins s σ H _ I h) fun u s1 ⟨x, H1, I1, rx, a, ex, d, q1⟩ => ?_)
  subst ex
  obtain rfl : u = Value.ref a := rx
  obtain ⟨t1, t2, _⟩ := isD_at I1 d
  refine ⟨t1, t2, ?_⟩
  rw [m.trees]
  refine Calls.callWith_builtin rfl (Calls.evalArgs_plain (Calls.spliced_cons (thn (he.run pins s1 σ H1 _ I1 q1) fun iv s2 ⟨y, H2, I2, ry, q2⟩ =>
    Calls.spliced_cons (thn (hf.run pins s2 σ H2 _ I2 q2) fun fv s3 ⟨z, H3, I3, rz, q3⟩ => Calls.spliced_nil ?_))))
  rcases q3 with ⟨kvs, k, ea, ey, hl, q3, q4⟩ | ⟨kvs, k, b, ea, ey, eb, hl, q3, q4⟩
  · subst ey
    exact d_setd I3 ea ry rz hl (fun v hv w' s4 I4 rw' => ⟨v, _, I4, rw', q3 v hv⟩) fun hn w' s4 I4 rw' => ⟨z, _, I4, rw', q4 hn⟩
  · subst ey
    cases (show iv = Value.ref b from ry)
    exact d_setdT hu I3 ea eb rz hl (fun v hv w' s4 I4 rw' => ⟨v, _, I4, rw', q3 v hv⟩) fun hn w' s4 I4 rw' => ⟨z, _, I4, rw', q4 hn⟩
section
variable {K : KX} {ρ : Env} {γ : Ga}
def DSetD (γ : Ga) (d y z : D) (Q : QD) : Prop :=
  (∃ j ps k, d = .loc j ∧ γ[j]? = some (moK ps) ∧ keyD y = some k ∧ ps.length < 1000000 ∧ (∀ v, getP ps k = some v → Q v γ) ∧ (getP ps k = none → Q z (γ.set j (moK (putP ps k z))))) ∨
  ∃ j ps k, d = .loc j ∧ γ[j]? = some (moT ps) ∧ keyT y = some k ∧ ps.length < 1000000 ∧ (∀ v, getP ps k = some v → Q v γ) ∧ (getP ps k = none → Q z (γ.set j (moT (putP ps k z))))
theorem getP_rp {κ : Type} [DecidableEq κ] {K : Frag} {H : Hp} {α : Al} {k : κ} {kvs : List (κ × V)} {ps : List (κ × D)} (e : kvs.map (·.1) = ps.map (·.1)) (r : RpL K H α (kvs.map (·.2)) (ps.map (·.2))) :
    (∀ v, valV kvs k = some v → ∃ d, getP ps k = some d ∧ Rp K H α v d) ∧ (valV kvs k = none → getP ps k = none) := by
  obtain ⟨i1, i2⟩ := valG_rp (k := k) r
  rw [e, valG_P] at i1 i2
  constructor
  · intro v hv
    cases q : getP ps k with
    | none => rw [i2 q] at hv; cases hv
    | some d =>
      obtain ⟨v', h1, h2⟩ := i1 d q
      rw [hv] at h1
      cases h1
      exact ⟨d, rfl, h2⟩
  · intro hn
    cases q : getP ps k with
    | none => rfl
    | some d =>
      obtain ⟨v', h1, h2⟩ := i1 d q
      rw [hn] at h1
      cases h1
theorem dset_rp {H : Hp} {α : Al} {u w z : V} {d y x : D} {Q : QD} {q : VK} (g : GaX K H α γ) (ru : Rp K H α u d) (rw_ : Rp K H α w y) (rz : Rp K H α z x) (wv : Wv K α H Q q) (h : DSetD γ d y x Q) : ∃ a, u = .ref a ∧ DSet H a w z q := by
  rcases h with ⟨j, ps, k, rfl, hj, hk, hl, h1, h2⟩ | ⟨j, ps, k, rfl, hj, hk, hl, h1, h2⟩
  · cases ru with
    | @loc _ a ha =>
      obtain ⟨kvs, k1, k2, k3⟩ := g.at_ _ _ _ ha hj
      obtain ⟨i1, i2⟩ := getP_rp (k := k) k2 k3
      have hlen : kvs.length = ps.length := by simpa using congrArg List.length k2
      refine ⟨a, rfl, .inl ⟨kvs, k, k1, keyD_rp rw_ hk, by rw [hlen]; exact size24 hl, fun v hv => ?_, fun hn => ?_⟩⟩
      · obtain ⟨d, e1, e2⟩ := i1 v hv
        exact wv v H α d γ (h1 d e1) g.refl g e2
      · have ex := ext_set g (o := .dK (putK kvs k z)) (List.mem_of_getElem? ha)
        obtain ⟨p1, p2, _⟩ := putK_rp (k := k) (Rp.mono ex _ _ rz) k2 (RpL.mono ex _ _ k3)
        exact wv z _ α x _ (h2 (i2 hn)) ex (ga_set g ha ⟨_, upd_same, p1, p2⟩) (Rp.mono ex _ _ rz)
  · cases ru with
    | @loc _ a ha =>
      obtain ⟨kvs, k1, k2, k3⟩ := g.at_ _ _ _ ha hj
      obtain ⟨i1, i2⟩ := getP_rp (k := k) k2 k3
      obtain ⟨b, rfl, hb⟩ := keyT_rp rw_ hk
      have hlen : kvs.length = ps.length := by simpa using congrArg List.length k2
      refine ⟨a, rfl, .inr ⟨kvs, k, b, k1, rfl, hb, by rw [hlen]; exact size24 hl, fun v hv => ?_, fun hn => ?_⟩⟩
      · obtain ⟨d, e1, e2⟩ := i1 v hv
        exact wv v H α d γ (h1 d e1) g.refl g e2
      · have ex := ext_set g (o := .dT (putK kvs k z)) (List.mem_of_getElem? ha)
        obtain ⟨p1, p2, _⟩ := putK_rp (k := k) (Rp.mono ex _ _ rz) k2 (RpL.mono ex _ _ k3)
        exact wv z _ α x _ (h2 (i2 hn)) ex (ga_set g ha ⟨_, upd_same, p1, p2⟩) (Rp.mono ex _ _ rz)
theorem de_dset {td ty tx : TE} {Q : QD} (h : dE K td ρ γ fun d γ1 => IsDD γ1 d ∧ dE K ty ρ γ1 fun y γ2 => dE K tx ρ γ2 fun x γ3 => DSetD γ3 d y x Q) : dE K (tDSet td ty tx) ρ γ Q := fun σ H α q r g w =>
  h σ H α _ r g fun v H1 α1 d γ1 ⟨hi, h1⟩ e1 g1 r1 => by
    obtain ⟨a, rfl, ia⟩ := isD_rp g1 r1 hi
    refine ⟨a, rfl, ia, h1 σ H1 α1 _ (r.mono e1) g1 fun vy H2 α2 y γ2 h2 e2 g2 r2 => h2 σ H2 α2 _ ((r.mono e1).mono e2) g2 fun vx H3 α3 x γ3 h3 e3 g3 r3 => ?_⟩
    obtain ⟨a', ea, hq⟩ := dset_rp g3 (Rp.mono (e2.trans e3) _ _ r1) (Rp.mono e3 _ _ r2) r3 (w.mono ((e1.trans e2).trans e3)) h3
    cases ea
    exact hq
end
end DL

set_option Elab.async false
set_option linter.all false
set_option maxRecDepth 100000
set_option maxHeartbeats 2000000
/-! written dicts with tuples of texts; isinstance(e, C) in a suite -/
namespace DL
open PySem PySem.Spec PyProof.Rows L2
/-- the address that the written dict x has at k -/
def dAt (K : Frag) (x k : Str) : Addr := match PySem.W.nsIn K (He.ga K x) k with
  | some (some (.ref a)) => a
  | _ => 0
/-- a written tuple at an address -/
def tupA (K : Frag) (a : Addr) (vs : List V) : Bool := match K.lookup a with
  | some ⟨.type c, _, .seq its _, _⟩ => decide (c = "tuple") && (decide (its.size ≤ sizeLine) && He.relAll vs its.toList)
  | _ => false
theorem tupA_ok {K : Frag} {a : Addr} {vs : List V} (h : tupA K a vs = true) : TopS K a vs := by
  unfold tupA at h
  cases e : K.lookup a with
  | none => rw [e] at h; cases h
  | some o =>
    obtain ⟨oc, od, dt, osl⟩ := o
    rw [e] at h
    cases oc with
    | type c =>
      cases dt with
      | seq its n =>
        obtain ⟨h1, h2⟩ := He.ba (show (decide (c = "tuple") && (decide (its.size ≤ sizeLine) && He.relAll vs its.toList)) = true from h)
        obtain ⟨h3, h4⟩ := He.ba h2
        exact ⟨_, its, n, e, congrArg Value.type (of_decide_eq_true h1), rfl, of_decide_eq_true h3, He.relAll_ok h4⟩
      | _ => cases h
    | _ => cases dt <;> cases h
abbrev TTab := List (List Nat × List (List Nat))
abbrev kvT (x : Str) (tb : TTab) : List (Str × He.Dv) := tb.map fun p => (S p.1, .adr fun K => dAt K x (S p.1))
def strV (ls : List (List Nat)) : List V := ls.map fun l => V.str (S l)
def tabTB (K : Frag) (x : Str) (tb : TTab) : Bool := He.valsB K (He.ga K x) (kvT x tb) && tb.all fun p => tupA K (dAt K x (S p.1)) (strV p.2)
structure KTup (K : Frag) (x : Str) (tb : TTab) : Prop where
  val : KVal K x (kvT x tb)
  tup : ∀ p ∈ tb, TopS K (dAt K x (S p.1)) (strV p.2)
theorem ktup_of {fa : List He.Fa} {fn : List He.DefD} {ts : List He.Tab} {w : World} {K : Frag} {x : Str} {tb : TTab} (c : He.SaysT fa fn ts w K) (i : Nat) (h : ts[i]? = some ((fun K => He.ga K x), (kvT x tb).map (·.1)))
    (hv : tabTB K x tb = true) : (∃ es n, KDict K w (He.ga K x) es n) ∧ KTup K x tb := by
  unfold tabTB at hv
  rw [Bool.and_eq_true] at hv
  obtain ⟨h1, h2⟩ := ktab_of (kvs := kvT x tb) c i h hv.1
  exact ⟨h1, h2, fun p hp => tupA_ok (List.all_eq_true.mp hv.2 p hp)⟩
/-- k in D -/
def rKIn (K : Frag) (x : Str) : R2 := fun a b H Q => ∃ (z : Str) (r : Option Value), a = .str z ∧ b = .ref (He.ga K x) ∧ PySem.W.nsIn K (He.ga K x) z = some r ∧ Q (.bl r.isSome) H
def rKNi (K : Frag) (x : Str) : R2 := fun a b H Q => ∃ (z : Str) (r : Option Value), a = .str z ∧ b = .ref (He.ga K x) ∧ PySem.W.nsIn K (He.ga K x) z = some r ∧ Q (.bl (!r.isSome)) H
theorem op_kin {X : Cx} {x : Str} {es : Array DictEntry} {n : Nat} (D : KDict X.K X.w (He.ga X.K x) es n) : OpR X (compareOp .In) (rKIn X.K x) := op_in_kd D
theorem op_kni {X : Cx} {x : Str} {es : Array DictEntry} {n : Nat} (D : KDict X.K X.w (He.ga X.K x) es n) : OpR X (compareOp .NotIn) (rKNi X.K x) := op_notIn_kd D
section
variable {K : KX} {ρ : Env} {γ : Ga} {Q : QD} {x : Str} {tb : TTab}
theorem lookT_some : ∀ {tb : TTab} {w : List Nat} {i : List (List Nat)}, tb.lookup w = some i → (w, i) ∈ tb
  | [], w, i, h => by cases h
  | (a, b) :: r, w, i, h => by
    rw [List.lookup_cons] at h
    by_cases e : (w == a) = true
    · rw [e] at h
      cases h
      rw [beq_iff_eq] at e
      subst e
      exact List.mem_cons_self
    · rw [Bool.not_eq_true] at e
      rw [e] at h
      exact List.mem_cons_of_mem _ (lookT_some h)
theorem lookT_none : ∀ {tb : TTab} {w : List Nat}, tb.lookup w = none → S w ∉ (kvT x tb).map (·.1)
  | [], w, h => by simp
  | (a, b) :: r, w, h => by
    rw [List.lookup_cons] at h
    by_cases e : (w == a) = true
    · rw [e] at h; cases h
    · rw [Bool.not_eq_true] at e
      rw [e] at h
      intro hm
      rcases List.mem_cons.mp hm with hm | hm
      · have : w = a := S_inj.mp hm
        rw [this] at e
        simp at e
      · exact lookT_none h hm
theorem strs_rpT {H : Hp} {α : Al} {K : Frag} : ∀ ls : List (List Nat), RpL K H α (strV ls) (strsD ls)
  | [] => .nil
  | l :: ls => .cons (.str _) (strs_rpT ls)
theorem kt_at (T : KTup K x tb) {w : List Nat} : ∃ r, PySem.W.nsIn K (He.ga K x) (S w) = some r ∧ r.isSome = (tb.lookup w).isSome := by
  cases hl : tb.lookup w with
  | none => exact ⟨none, T.val.no _ (lookT_none hl), rfl⟩
  | some ls =>
    obtain ⟨u, h1, _⟩ := T.val.yes (S w, .adr fun K => dAt K x (S w)) (List.mem_map.mpr ⟨_, lookT_some hl, rfl⟩)
    exact ⟨some u, h1, rfl⟩
theorem rk_in {w : List Nat} (T : KTup K x tb) (q : Q (.bl (tb.lookup w).isSome) γ) : dR2 K (rKIn K x) (.str (S w)) (.ref (He.ga K x)) γ Q := fun H α a b k g r1 r2 wv => by
  cases r1; cases r2
  obtain ⟨r, h1, h2⟩ := kt_at T (w := w)
  refine ⟨S w, r, rfl, rfl, h1, ?_⟩
  rw [h2]
  exact wv _ H α _ γ q g.refl g (.bl _)
theorem rk_ni {w : List Nat} (T : KTup K x tb) (q : Q (.bl (!(tb.lookup w).isSome)) γ) : dR2 K (rKNi K x) (.str (S w)) (.ref (He.ga K x)) γ Q := fun H α a b k g r1 r2 wv => by
  cases r1; cases r2
  obtain ⟨r, h1, h2⟩ := kt_at T (w := w)
  refine ⟨S w, r, rfl, rfl, h1, ?_⟩
  rw [h2]
  exact wv _ H α _ γ q g.refl g (.bl _)
theorem rk_ixT {w : List Nat} {ls : List (List Nat)} (T : KTup K x tb) (h : tb.lookup w = some ls) (q : Q (.cst (strsD ls)) γ) : dR2 K (rKIx K x) (.ref (He.ga K x)) (.str (S w)) γ Q := fun H α a b k g r1 r2 wv => by
  cases r1; cases r2
  obtain ⟨u, h1, h2⟩ := T.val.yes (S w, .adr fun K => dAt K x (S w)) (List.mem_map.mpr ⟨_, lookT_some h, rfl⟩)
  exact ⟨S w, u, _, rfl, rfl, h1, h2, wv _ H α _ γ q g.refl g (.cst (T.tup _ (lookT_some h)) (strs_rpT ls))⟩
end
/-! ### isinstance(e, C), e caught -/
def rIsG (K : Frag) (a : Addr) (cls : Value) (d : Option Addr) : List V → Hp → VK → Prop := fun xs H Q => ∃ (D dd : Addr) (fs : List (Str × V)) (c : V) (cv : Value) (b : Bool), cls = .ref D ∧ d = some dd ∧ ExcC K D ∧ H dd = some (.xd fs) ∧ xs = [.ref a, c] ∧ (∀ u, RelV c u → u = cv) ∧ PySem.W.kitOne K (.ref D) cv = some b ∧ Q (.bl b) H
theorem call_isG {X : Cx} {a : Addr} {oe : Obj} {cls : Value} {d : Option Addr} {pn : List (Addr × Obj)} (hz : Zc cls d oe) (hf : ∃ vs, oe.data = .fields vs) : CallR (X.suite a ((a, oe) :: pn)) (.builtin "isinstance") (rIsG X.K a cls d) := by
  intro pins s σ H xs us Q I r h
  obtain ⟨D, dd, fs, c, cv, b, rfl, rfl, C, ed, rfl, hcv, ek, q⟩ := h
  cases r with
  | cons rx rr =>
    cases rr with
    | cons rt rr =>
      cases rr
      cases rx
      have ec := hcv _ rt
      subst ec
      obtain ⟨ha, _⟩ := I.pin (a, oe) (List.mem_append_left _ List.mem_cons_self)
      obtain ⟨vs, hd⟩ := hf
      have hx : ObjOk X.prog X.w H s.heap dd (.xd fs) := I.hok dd _ ed
      obtain ⟨mA, hns, hr⟩ := hx
      obtain ⟨od, ho, hl⟩ := lookIn_ns hns
      have J : PySem.W.InstAt s.heap a oe D (some od) := ⟨ha, hz.1, by unfold PySem.W.notCls; rw [hd] <;> rfl, by rw [hz.2]; exact ho⟩
      have hcl : (PySem.W.clsIn X.K D).isSome = true := by
        obtain ⟨cd, hc, _⟩ := PySem.W.any_some C.hd
        rw [hc]; rfl
      exact PySem.W.kia_one (PySem.W.kitx_exc hcl C.hg C.hk C.hs C.ha C.hn C.ht C.hm) I.kIn J ek (fun z => nomatch z) fun tk => ⟨.bl b, H, I.kept (t' := tk) fun _ _ z => z, rfl, q⟩
section
variable {K : KX} {γ : Ga} {Q : QD} {a dd C E : Addr} {ns : List Str} {vs : List D} {b : Bool}
theorem rc_isg (hE : ExcC K.f C) (hk : PySem.W.kitOne K.f (.ref C) (.ref E) = some b) (q : Q (.bl b) γ) : dRC K (rIsG K.f a (.ref C) (some dd)) [.exc a dd C ns vs, .ref E] γ Q := fun H α us w g r wv => by
  cases r with
  | cons r1 r2 =>
    cases r2 with
    | cons r2 r3 =>
      cases r3
      cases r2
      cases r1 with
      | exc h1 h2 h3 => exact ⟨C, dd, _, _, .ref E, b, rfl, rfl, hE, h2, rfl, fun u hu => hu, hk, wv _ H α _ γ q g.refl g (.bl b)⟩
theorem rc_isgT {T : String} (hE : ExcC K.f C) (hk : PySem.W.kitOne K.f (.ref C) (.type T) = some b) (q : Q (.bl b) γ) : dRC K (rIsG K.f a (.ref C) (some dd)) [.exc a dd C ns vs, .ty T] γ Q := fun H α us w g r wv => by
  cases r with
  | cons r1 r2 =>
    cases r2 with
    | cons r2 r3 =>
      cases r3
      cases r2
      cases r1 with
      | exc h1 h2 h3 => exact ⟨C, dd, _, _, .type T, b, rfl, rfl, hE, h2, rfl, fun u hu => hu, hk, wv _ H α _ γ q g.refl g (.bl b)⟩
end
end DL

set_option Elab.async false
set_option linter.all false
set_option maxRecDepth 100000
set_option maxHeartbeats 2000000
/-! tuple + tuple and slices of tuples, of any kind -/
namespace DL
open PySem PySem.Spec PyProof.Rows L2
def rAddA (K : Frag) : R2 := fun x y H Q => rAddG K x y H Q ∨ rCatA K x y H Q
theorem op_addA {X : Cx} : OpR X (binaryOp .Add) (rAddA X.K) := op_addG.or op_catA
def rSlU (K : Frag) : V → Option Int → Option Int → Hp → VK → Prop := fun x lo hi H Q => rSlG K x lo hi H Q ∨ rSlA K x lo hi H Q
theorem sl_U {X : Cx} : SlR X (rSlU X.K) := sl_G.or sl_tupA
section
variable {K : KX} {γ : Ga} {Q : QD}
theorem radA_G {x y : D} (h : dR2 K (rAddG K.f) x y γ Q) : dR2 K (rAddA K.f) x y γ Q := fun H α v w k g r1 r2 wv => .inl (h H α v w k g r1 r2 wv)
theorem radA_tup {xs ys : List D} (hl : xs.length + ys.length ≤ 1000000) (q : Q (.tup (xs ++ ys)) γ) : dR2 K (rAddA K.f) (.tup xs) (.tup ys) γ Q := fun H α v w k g r1 r2 wv => by
  cases r1 with
  | @tup a us _ h1 ru =>
    cases r2 with
    | @tup b ws _ h2 rw' =>
      refine .inr ⟨a, b, us, ws, rfl, rfl, h1.sq, h2.sq, by rw [ru.length, rw'.length]; exact le24 hl, fun e => ?_, fun _ e => ?_, fun _ _ p hp => ?_⟩
      · subst e
        cases ru
        exact wv _ H α _ γ q g.refl g (.tup h2 rw')
      · subst e
        cases rw'
        rw [List.append_nil] at q
        exact wv _ H α _ γ q g.refl g (.tup h1 ru)
      · exact wv _ _ α _ γ q (ext_imm g hp) (ga_imm g hp) (.tup ⟨g.new hp, upd_same⟩ (RpL.mono (ext_imm g hp) _ _ (ru.append rw')))
theorem rslU_G {x : D} {lo hi : Option Int} (h : dRS K (rSlG K.f) x lo hi γ Q) : dRS K (rSlU K.f) x lo hi γ Q := fun H α v k g r1 wv => .inl (h H α v k g r1 wv)
theorem cut_whole {A : Type} {xs : List A} {lo hi : Option Int} (h : HT.sIx xs.length 0 lo = 0 ∧ HT.sIx xs.length xs.length hi = xs.length) : cutD xs lo hi = xs := by
  unfold cutD
  rw [h.1, h.2, List.drop_zero, Nat.sub_zero, List.take_length]
theorem rslU_tup {xs : List D} {lo hi : Option Int} (q : Q (.tup (cutD xs lo hi)) γ) : dRS K (rSlU K.f) (.tup xs) lo hi γ Q := fun H α v k g r1 wv => by
  cases r1 with
  | @tup a us _ h1 ru =>
    refine .inr ⟨a, us, rfl, h1.sq, fun hw => ?_, fun hw p hp => ?_⟩
    · rw [ru.length] at hw
      rw [cut_whole hw] at q
      exact wv _ H α _ γ q g.refl g (.tup h1 ru)
    · refine wv _ _ α _ γ q (ext_imm g hp) (ga_imm g hp) (.tup ⟨g.new hp, upd_same⟩ (RpL.mono (ext_imm g hp) _ _ ?_))
      unfold cutV cutD
      rw [ru.length]
      exact (ru.drop _).take _
end
end DL

set_option Elab.async false
set_option linter.all false
set_option maxRecDepth 100000
set_option maxHeartbeats 2000000
namespace DL
open PySem PySem.Spec PyProof.Rows L2
/-! ### what the program's functions compute: names, numbers, tokens, the parser of expressions -/
def LET : List Nat := [97, 98, 99, 100, 101, 102, 103, 104, 105, 106, 107, 108, 109, 110, 111, 112, 113, 114, 115, 116, 117, 118, 119, 120, 121, 122]
def FIG : List Nat := [48, 49, 50, 51, 52, 53, 54, 55, 56, 57]
def RESV : List (List Nat) := [[97, 110, 100], [99, 104, 101, 99, 107, 112, 111, 105, 110, 116], [101, 108, 115, 101], [101, 110, 100], [105, 102], [105, 110, 112, 117, 116], [109, 111, 100], [110, 111, 116], [111, 114], [112, 114, 111, 99, 101, 115, 115], [114, 101, 99, 101, 105, 118, 101], [115, 101, 110, 100], [115, 101, 116], [116, 97, 107, 101], [119, 104, 105, 108, 101]]
def WRDS : List (List Nat) := [[97, 110, 100], [109, 111, 100], [110, 111, 116], [111, 114]]
def SGNS : List (List Nat) := [[60, 61], [62, 61], [33, 61], [47, 47], [43], [45], [42], [40], [41], [91], [93], [61], [60], [62]]
def isName (l : List Nat) : Bool := decide (1 ≤ l.length) && decide (l.length ≤ 8) && !decide (l ∈ RESV) && l.all fun c => decide (c ∈ LET)
def isNum (l : List Nat) : Bool := decide (0 < l.length) && decide (l.length ≤ 30) && (l.all fun c => decide (c ∈ FIG)) && (decide (l = [48]) || !decide (l.head? = some 48))
def runOf (signs r : List Nat) : List Nat := r.takeWhile fun c => decide (c ∈ signs)
inductive Kd where
  | sign | name | integer | odd | fin
  deriving DecidableEq
def Kd.c : Kd → List Nat
  | .sign => [115, 105, 103, 110]
  | .name => [110, 97, 109, 101]
  | .integer => [105, 110, 116, 101, 103, 101, 114]
  | .odd => [111, 100, 100]
  | .fin => [101, 110, 100]
structure Tkn where
  k : Kd
  v : List Nat
  p : Nat
def Tkn.d (t : Tkn) : D := .tup [.str (S t.k.c), .str (S t.v), .int t.p]
/-- the token at the beginning of r, which stands at s; and its length -/
def tokA (r : List Nat) (s : Nat) : Tkn × Nat := match r with
  | [] => (⟨.odd, [], s⟩, 1)
  | c :: _ =>
    if c ∈ LET then (⟨if runOf LET r ∈ WRDS then .sign else if isName (runOf LET r) then .name else .odd, runOf LET r, s⟩, (runOf LET r).length)
    else if c ∈ FIG then (⟨if isNum (runOf FIG r) then .integer else .odd, runOf FIG r, s⟩, (runOf FIG r).length)
    else match SGNS.find? fun g => decide (r.take g.length = g) with
      | some g => (⟨.sign, g, s⟩, g.length)
      | none => (⟨.odd, [c], s⟩, 1)
def tokL : Nat → List Nat → Nat → List Tkn
  | 0, _, _ => []
  | n + 1, r, s => match r.drop (runOf [32] r).length with
    | [] => [⟨.fin, [], s + (runOf [32] r).length⟩]
    | c :: r' =>
      if (tokA (c :: r') (s + (runOf [32] r).length)).1.k = .odd then [(tokA (c :: r') (s + (runOf [32] r).length)).1]
      else (tokA (c :: r') (s + (runOf [32] r).length)).1 :: tokL n ((c :: r').drop (tokA (c :: r') (s + (runOf [32] r).length)).2) (s + (runOf [32] r).length + (tokA (c :: r') (s + (runOf [32] r).length)).2)
def toks (l : List Nat) : List Tkn := tokL (l.length + 1) l 0
abbrev PR := Option (Except Nat (D × List Tkn))
def sees (t : Tkn) (gs : List (List Nat)) : Bool := decide (t.k = .sign) && decide (t.v ∈ gs)
def pLoop (f : List Tkn → PR) (ops : List (List Nat)) : Nat → D → List Tkn → PR
  | 0, _, _ => none
  | _ + 1, _, [] => none
  | m + 1, d, t :: r => if sees t ops then (match f r with
      | some (.ok (d2, r2)) => pLoop f ops m (.tup [.str (S t.v), d, d2]) r2
      | x => x) else some (.ok (d, t :: r))
def MUL : List (List Nat) := [[42], [47, 47], [109, 111, 100]]
def ADD : List (List Nat) := [[43], [45]]
def pT (f : List Tkn → PR) (ts : List Tkn) : PR := match f ts with
  | some (.ok (d, r)) => pLoop f MUL (r.length + 1) d r
  | x => x
def pE (f : List Tkn → PR) (ts : List Tkn) : PR := match pT f ts with
  | some (.ok (d, r)) => pLoop (pT f) ADD (r.length + 1) d r
  | x => x
def sNegate : List Nat := [110, 101, 103, 97, 116, 101]
def sNumber : List Nat := [110, 117, 109, 98, 101, 114]
def sVariable : List Nat := [118, 97, 114, 105, 97, 98, 108, 101]
def pLeaf (t : Tkn) (r : List Tkn) : PR :=
  if t.k = .integer then (match PySem.intText? (S t.v) with
    | some n => if t.v.length ≤ 640 then some (.ok (.tup [.str (S sNumber), .int n], r)) else none
    | none => none)
  else if t.k = .name then some (.ok (.tup [.str (S sVariable), .str (S t.v)], r))
  else some (.error t.p)
def pSign (gs : List (List Nat)) (d : D) : List Tkn → PR
  | [] => none
  | t :: r => if sees t gs then some (.ok (d, r)) else some (.error t.p)
def pFac : Nat → List Tkn → PR
  | 0, _ => none
  | _ + 1, [] => none
  | n + 1, t :: r =>
    if sees t [[45]] then (match pFac n r with
      | some (.ok (d, r2)) => some (.ok (.tup [.str (S sNegate), d], r2))
      | x => x)
    else if sees t [[40]] then (match pE (pFac n) r with
      | some (.ok (d, r2)) => pSign [[41]] d r2
      | x => x)
    else pLeaf t r
/-- what is left is an end of what was there -/
theorem pLoop_suf {f : List Tkn → PR} {ops : List (List Nat)} (hf : ∀ ts d r, f ts = some (.ok (d, r)) → r <:+ ts) : ∀ m d ts d' r, pLoop f ops m d ts = some (.ok (d', r)) → r <:+ ts
  | 0, _, _, _, _, h => by cases h
  | _ + 1, _, [], _, _, h => by cases h
  | m + 1, d, t :: r, d', r', h => by
    unfold pLoop at h
    split at h
    · split at h
      · rename_i d2 r2 e
        exact ((pLoop_suf hf m _ _ _ _ h).trans (hf _ _ _ e)).trans (List.suffix_cons _ _)
      · rename_i x _
        exact (hf _ _ _ h).trans (List.suffix_cons _ _)
    · cases h
      exact List.suffix_refl _
theorem pT_suf {f : List Tkn → PR} (hf : ∀ ts d r, f ts = some (.ok (d, r)) → r <:+ ts) : ∀ ts d r, pT f ts = some (.ok (d, r)) → r <:+ ts := fun ts d r h => by
  unfold pT at h
  split at h
  · rename_i d1 r1 e
    exact (pLoop_suf hf _ _ _ _ _ h).trans (hf _ _ _ e)
  · exact hf _ _ _ h
theorem pE_suf {f : List Tkn → PR} (hf : ∀ ts d r, f ts = some (.ok (d, r)) → r <:+ ts) : ∀ ts d r, pE f ts = some (.ok (d, r)) → r <:+ ts := fun ts d r h => by
  unfold pE at h
  split at h
  · rename_i d1 r1 e
    exact (pLoop_suf (pT_suf hf) _ _ _ _ _ h).trans (pT_suf hf _ _ _ e)
  · exact pT_suf hf _ _ _ h
theorem pSign_suf {gs : List (List Nat)} {d d' : D} : ∀ {ts r : List Tkn}, pSign gs d ts = some (.ok (d', r)) → r <:+ ts
  | [], _, h => by cases h
  | t :: ts, r, h => by
    by_cases c : sees t gs = true
    · rw [pSign, if_pos c] at h
      cases h
      exact List.suffix_cons _ _
    · rw [pSign, if_neg c] at h
      cases h
theorem pFac_suf : ∀ n ts d r, pFac n ts = some (.ok (d, r)) → r <:+ ts
  | 0, _, _, _, h => by cases h
  | _ + 1, [], _, _, h => by cases h
  | n + 1, t :: ts, d, r, h => by
    unfold pFac at h
    split at h
    · split at h
      · rename_i d2 r2 e
        cases h
        exact (pFac_suf n _ _ _ e).trans (List.suffix_cons _ _)
      · exact (pFac_suf n _ _ _ h).trans (List.suffix_cons _ _)
    · split at h
      · split at h
        · rename_i d2 r2 e
          have s := pE_suf (pFac_suf n) _ _ _ e
          exact ((pSign_suf h).trans s).trans (List.suffix_cons _ _)
        · exact (pE_suf (pFac_suf n) _ _ _ h).trans (List.suffix_cons _ _)
      · unfold pLeaf at h
        split at h
        · split at h
          · split at h
            · cases h; exact List.suffix_cons _ _
            · cases h
          · cases h
        · split at h
          · cases h; exact List.suffix_cons _ _
          · cases h
/-! ### conditions -/
def pL (f : List Tkn → PR) (ops : List (List Nat)) (ts : List Tkn) : PR := match f ts with
  | some (.ok (d, r)) => pLoop f ops (r.length + 1) d r
  | x => x
def sAnd : List Nat := [97, 110, 100]
def sOr : List Nat := [111, 114]
def sNot : List Nat := [110, 111, 116]
def CMPS : List (List Nat) := [[61], [33, 61], [60], [60, 61], [62], [62, 61]]
def pJ (f : List Tkn → PR) : List Tkn → PR := pL f [sAnd]
def pC (f : List Tkn → PR) : List Tkn → PR := pL (pJ f) [sOr]
def pCmp (fe : List Tkn → PR) (d : D) : List Tkn → PR
  | [] => none
  | t :: r => if sees t CMPS then (match fe r with
      | some (.ok (d2, r2)) => some (.ok (.tup [.str (S t.v), d, d2], r2))
      | x => x) else some (.error t.p)
def pNeg (fe : List Tkn → PR) : Nat → List Tkn → PR
  | 0, _ => none
  | _ + 1, [] => none
  | n + 1, t :: r =>
    if sees t [sNot] then (match pNeg fe n r with
      | some (.ok (d, r2)) => some (.ok (.tup [.str (S sNot), d], r2))
      | x => x)
    else if sees t [[91]] then (match pC (pNeg fe n) r with
      | some (.ok (d, r2)) => pSign [[93]] d r2
      | x => x)
    else match fe (t :: r) with
      | some (.ok (d, r2)) => pCmp fe d r2
      | x => x
theorem pL_suf {f : List Tkn → PR} {ops : List (List Nat)} (hf : ∀ ts d r, f ts = some (.ok (d, r)) → r <:+ ts) : ∀ ts d r, pL f ops ts = some (.ok (d, r)) → r <:+ ts := fun ts d r h => by
  unfold pL at h
  split at h
  · rename_i d1 r1 e
    exact (pLoop_suf hf _ _ _ _ _ h).trans (hf _ _ _ e)
  · exact hf _ _ _ h
theorem pCmp_s {fe : List Tkn → PR} {d : D} {t : Tkn} {r : List Tkn} : pCmp fe d (t :: r) = if sees t CMPS then (match fe r with
      | some (.ok (d2, r2)) => some (.ok (.tup [.str (S t.v), d, d2], r2))
      | x => x) else some (.error t.p) := rfl
theorem pCmp_suf {fe : List Tkn → PR} (hf : ∀ ts d r, fe ts = some (.ok (d, r)) → r <:+ ts) : ∀ d ts d' r, pCmp fe d ts = some (.ok (d', r)) → r <:+ ts
  | d, [], d', r, h => by cases h
  | d, t :: ts, d', r, h => by
    rw [pCmp_s] at h
    by_cases c1 : sees t CMPS = true
    · rw [if_pos c1] at h
      cases e : fe ts with
      | none => rw [e] at h; cases h
      | some o =>
        rw [e] at h
        cases o with
        | error p => cases h
        | ok o =>
          cases h
          exact (hf _ _ _ e).trans (List.suffix_cons _ _)
    · rw [if_neg c1] at h
      cases h
theorem pNeg_s {fe : List Tkn → PR} {n : Nat} {t : Tkn} {r : List Tkn} : pNeg fe (n + 1) (t :: r) =
    if sees t [sNot] then (match pNeg fe n r with
      | some (.ok (d, r2)) => some (.ok (.tup [.str (S sNot), d], r2))
      | x => x)
    else if sees t [[91]] then (match pC (pNeg fe n) r with
      | some (.ok (d, r2)) => pSign [[93]] d r2
      | x => x)
    else match fe (t :: r) with
      | some (.ok (d, r2)) => pCmp fe d r2
      | x => x := rfl
theorem pNeg_suf {fe : List Tkn → PR} (hf : ∀ ts d r, fe ts = some (.ok (d, r)) → r <:+ ts) : ∀ n ts d r, pNeg fe n ts = some (.ok (d, r)) → r <:+ ts
  | 0, _, _, _, h => by cases h
  | _ + 1, [], _, _, h => by cases h
  | n + 1, t :: ts, d, r, h => by
    rw [pNeg_s] at h
    by_cases c1 : sees t [sNot] = true
    · rw [if_pos c1] at h
      cases e : pNeg fe n ts with
      | none => rw [e] at h; cases h
      | some o =>
        rw [e] at h
        cases o with
        | error p => cases h
        | ok o =>
          cases h
          exact (pNeg_suf hf n _ _ _ e).trans (List.suffix_cons _ _)
    · rw [if_neg c1] at h
      by_cases c2 : sees t [[91]] = true
      · rw [if_pos c2] at h
        cases e : pC (pNeg fe n) ts with
        | none => rw [e] at h; cases h
        | some o =>
          rw [e] at h
          cases o with
          | error p => cases h
          | ok o => exact ((pSign_suf h).trans (pL_suf (pL_suf (pNeg_suf hf n)) _ _ _ e)).trans (List.suffix_cons _ _)
      · rw [if_neg c2] at h
        cases e : fe (t :: ts) with
        | none => rw [e] at h; cases h
        | some o =>
          rw [e] at h
          cases o with
          | error p => cases h
          | ok o => exact (pCmp_suf hf _ _ _ _ h).trans (hf _ _ _ e)
end DL

set_option Elab.async false
set_option linter.all false
set_option maxRecDepth 100000
set_option maxHeartbeats 4000000
namespace K31
open PySem PySem.Spec PyProof.Rows L2 DL
def top (i : Nat) : Stmt := PySem.Challenge.pw_rerunrein_k31_messages_refused.main.body.getD i (.Pass ⟨0, 0, 0, 0⟩)
def d_frozen : He.DefD := ⟨("frozen", none), "frozen", "frozen", defArgs (top 5), defBody (top 5), defScope (top 5), [], []⟩
def d_is_integer : He.DefD := ⟨("is_integer", none), "is_integer", "is_integer", defArgs (top 6), defBody (top 6), defScope (top 6), [], []⟩
def d_is_small : He.DefD := ⟨("is_small", none), "is_small", "is_small", defArgs (top 7), defBody (top 7), defScope (top 7), [], []⟩
def d_is_name : He.DefD := ⟨("is_name", none), "is_name", "is_name", defArgs (top 8), defBody (top 8), defScope (top 8), [], []⟩
def d_check_rows : He.DefD := ⟨("check_rows", none), "check_rows", "check_rows", defArgs (top 18), defBody (top 18), defScope (top 18), [], []⟩
def d_fits : He.DefD := ⟨("fits", none), "fits", "fits", defArgs (top 19), defBody (top 19), defScope (top 19), [], []⟩
def d_is_form : He.DefD := ⟨("is_form", none), "is_form", "is_form", defArgs (top 20), defBody (top 20), defScope (top 20), [], []⟩
def d_check_events : He.DefD := ⟨("check_events", none), "check_events", "check_events", defArgs (top 21), defBody (top 21), defScope (top 21), [], []⟩
def d_sends_of : He.DefD := ⟨("sends_of", none), "sends_of", "sends_of", defArgs (top 22), defBody (top 22), defScope (top 22), [], []⟩
def d_linked : He.DefD := ⟨("linked", none), "linked", "linked", defArgs (top 23), defBody (top 23), defScope (top 23), [], []⟩
def d_executable : He.DefD := ⟨("executable", none), "executable", "executable", defArgs (top 24), defBody (top 24), defScope (top 24), [], []⟩
def d_Record_init : He.DefD := ⟨("Record", some "__init__"), "__init__", "Record.__init__", defArgs (inClass (top 25) 0), defBody (inClass (top 25) 0), defScope (inClass (top 25) 0), [], []⟩
def d_L_draw : He.DefD := ⟨("_law_draw", none), "_law_draw", "_law_draw", defArgs (top 27), defBody (top 27), defScope (top 27), [], []⟩
def d_L_value : He.DefD := ⟨("_law_value", none), "_law_value", "_law_value", defArgs (top 28), defBody (top 28), defScope (top 28), [], []⟩
def d_L_event : He.DefD := ⟨("_law_event", none), "_law_event", "_law_event", defArgs (top 29), defBody (top 29), defScope (top 29), [], []⟩
def d_L_rows : He.DefD := ⟨("_law_rows", none), "_law_rows", "_law_rows", defArgs (top 30), defBody (top 30), defScope (top 30), [], []⟩
def d_L_word : He.DefD := ⟨("_law_word", none), "_law_word", "_law_word", defArgs (top 31), defBody (top 31), defScope (top 31), [], []⟩
def d_L_words : He.DefD := ⟨("_law_words", none), "_law_words", "_law_words", defArgs (top 32), defBody (top 32), defScope (top 32), [], []⟩
def d_L_same : He.DefD := ⟨("_law_same", none), "_law_same", "_law_same", defArgs (top 33), defBody (top 33), defScope (top 33), [], []⟩
def d_L_lists_of : He.DefD := ⟨("_law_lists_of", none), "_law_lists_of", "_law_lists_of", defArgs (top 34), defBody (top 34), defScope (top 34), [], []⟩
def d_L_bad_record : He.DefD := ⟨("_law_bad_record", none), "_law_bad_record", "_law_bad_record", defArgs (top 35), defBody (top 35), defScope (top 35), [], []⟩
def d_L_first_message : He.DefD := ⟨("_law_first_message", none), "_law_first_message", "_law_first_message", defArgs (top 36), defBody (top 36), defScope (top 36), [], []⟩
def d_L_moved : He.DefD := ⟨("_law_moved", none), "_law_moved", "_law_moved", defArgs (top 37), defBody (top 37), defScope (top 37), [], []⟩
def d_law : He.DefD := ⟨("law", none), "law", "law", defArgs (top 38), defBody (top 38), defScope (top 38), [], []⟩
def d_E_UnknownProcess : He.DefD := ⟨("UnknownProcess", some "__init__"), "__init__", "UnknownProcess.__init__", defArgs (inClass (top 11) 0), defBody (inClass (top 11) 0), defScope (inClass (top 11) 0), [], []⟩
def d_E_BadRecord : He.DefD := ⟨("BadRecord", some "__init__"), "__init__", "BadRecord.__init__", defArgs (inClass (top 12) 0), defBody (inClass (top 12) 0), defScope (inClass (top 12) 0), [], []⟩
def d_E_BadEvent : He.DefD := ⟨("BadEvent", some "__init__"), "__init__", "BadEvent.__init__", defArgs (inClass (top 13) 0), defBody (inClass (top 13) 0), defScope (inClass (top 13) 0), [], []⟩
def sd : List He.DefD := [d_E_UnknownProcess, d_E_BadRecord, d_E_BadEvent]
def file : Str := PySem.Challenge.pw_rerunrein_k31_messages_refused.main.file
def fn : List He.DefD := [d_frozen, d_is_integer, d_is_small, d_is_name, d_check_rows, d_fits, d_is_form, d_check_events, d_sends_of, d_linked, d_executable, d_Record_init, d_L_draw, d_L_value, d_L_event, d_L_rows, d_L_word, d_L_words, d_L_same, d_L_lists_of, d_L_bad_record, d_L_first_message, d_L_moved, d_law]
def FORMS_T : TTab := [([115, 101, 116], [[118, 97, 114, 105, 97, 98, 108, 101], [118, 97, 108, 117, 101]]), ([115, 101, 110, 100], [[112, 114, 111, 99, 101, 115, 115], [118, 97, 108, 117, 101]]), ([114, 101, 99, 101, 105, 118, 101], [[112, 114, 111, 99, 101, 115, 115], [118, 97, 114, 105, 97, 98, 108, 101], [118, 97, 108, 117, 101]]), ([116, 97, 107, 101], [[112, 114, 111, 99, 101, 115, 115], [118, 97, 114, 105, 97, 98, 108, 101], [118, 97, 108, 117, 101]]), ([105, 110, 112, 117, 116], [[118, 97, 114, 105, 97, 98, 108, 101], [118, 97, 108, 117, 101]]), ([99, 104, 101, 99, 107, 112, 111, 105, 110, 116], [])]
def ts : List He.Tab := [((fun K => He.ga K "FORMS"), (kvT "FORMS" FORMS_T).map (·.1))]
def fa : List He.Fa := [.glo "_wall",
  .str "LETTERS" "abcdefghijklmnopqrstuvwxyz",
  .glo "RESERVED",
  .int "LONGEST_NAME" 8,
  .glo "frozen",
  .glo "is_integer",
  .glo "is_small",
  .glo "is_name",
  .glo "RerunError",
  .glo "UnknownProcess",
  .glo "BadRecord",
  .glo "BadEvent",
  .int "MOST_PROCESSES" 40,
  .glo "RECEIVING",
  .glo "FORMS",
  .glo "check_rows",
  .glo "fits",
  .glo "is_form",
  .glo "check_events",
  .glo "sends_of",
  .glo "linked",
  .glo "executable",
  .glo "Record",
  .cls "Record",
  .mkr "Record",
  .meth "Record" "__eq__",
  .meth "Record" "names",
  .meth "Record" "check_name",
  .meth "Record" "events",
  .meth "Record" "length",
  .meth "Record" "variables",
  .meth "Record" "state",
  .meth "Record" "has_event",
  .meth "Record" "form_of",
  .meth "Record" "partner",
  .noat "Record" "links",
  .noat "Record" "rows",
  .noat "Record" "sequence",
  .noat "Record" "table",
  .glo "_law_draw",
  .glo "_law_value",
  .glo "_law_event",
  .glo "_law_rows",
  .glo "_law_word",
  .glo "_law_words",
  .glo "_law_same",
  .glo "_law_lists_of",
  .glo "_law_bad_record",
  .glo "_law_first_message",
  .glo "_law_moved",
  .glo "law",
  .free "ValueError",
  .free "abs",
  .free "all",
  .free "bool",
  .free "enumerate",
  .free "int",
  .free "isinstance",
  .free "len",
  .free "list",
  .free "range",
  .free "str",
  .free "super",
  .free "tuple",
  .free "zip"]
def ex : Frag → Bool := fun K => (He.tupB K "RESERVED" [.str "and", .str "checkpoint", .str "else", .str "end", .str "if", .str "input", .str "mod", .str "not", .str "or", .str "process", .str "receive", .str "send", .str "set", .str "take", .str "while"] && (He.tupB K "RECEIVING" [.str "receive", .str "take"] && (tabTB K "FORMS" FORMS_T && (decide (PySem.W.exmOne K (.ref (He.ga K "UnknownProcess")) (.ref (He.ga K "BadRecord")) = some false) && (decide (PySem.W.exmOne K (.ref (He.ga K "BadRecord")) (.ref (He.ga K "BadRecord")) = some true) && (decide (PySem.W.exmOne K (.ref (He.ga K "BadEvent")) (.ref (He.ga K "BadRecord")) = some false) && (excB file K "UnknownProcess" "UnknownProcess.__init__" ["name"] && (excB file K "BadRecord" "BadRecord.__init__" ["reason", "name", "number"] && (excB file K "BadEvent" "BadEvent.__init__" ["event"] && (excIB K (He.ga K "BadRecord") && (decide (PySem.W.kitOne K (.ref (He.ga K "BadRecord")) (.ref (He.ga K "BadEvent")) = some false) && (decide (PySem.W.kitOne K (.ref (He.ga K "BadRecord")) (.ref (He.ga K "RerunError")) = some true) && (decide (PySem.W.kitOne K (.ref (He.ga K "BadRecord")) (.type "ValueError") = some true) && true)))))))))))))
def RESERVED_L : List (List Nat) := [[97, 110, 100], [99, 104, 101, 99, 107, 112, 111, 105, 110, 116], [101, 108, 115, 101], [101, 110, 100], [105, 102], [105, 110, 112, 117, 116], [109, 111, 100], [110, 111, 116], [111, 114], [112, 114, 111, 99, 101, 115, 115], [114, 101, 99, 101, 105, 118, 101], [115, 101, 110, 100], [115, 101, 116], [116, 97, 107, 101], [119, 104, 105, 108, 101]]
def RECEIVING_L : List (List Nat) := [[114, 101, 99, 101, 105, 118, 101], [116, 97, 107, 101]]
structure Tx (K : Frag) (mg : Str → Option Value) : Prop where
  g__wall : mg "_wall" = some (.ref (He.ga K "_wall"))
  c_LETTERS : ∃ t, mg "LETTERS" = some (.str "abcdefghijklmnopqrstuvwxyz" t)
  g_RESERVED : mg "RESERVED" = some (.ref (He.ga K "RESERVED"))
  c_LONGEST_NAME : ∃ t, mg "LONGEST_NAME" = some (.int 8 t)
  g_frozen : mg "frozen" = some (.ref (He.ga K "frozen"))
  g_is_integer : mg "is_integer" = some (.ref (He.ga K "is_integer"))
  g_is_small : mg "is_small" = some (.ref (He.ga K "is_small"))
  g_is_name : mg "is_name" = some (.ref (He.ga K "is_name"))
  g_RerunError : mg "RerunError" = some (.ref (He.ga K "RerunError"))
  g_UnknownProcess : mg "UnknownProcess" = some (.ref (He.ga K "UnknownProcess"))
  g_BadRecord : mg "BadRecord" = some (.ref (He.ga K "BadRecord"))
  g_BadEvent : mg "BadEvent" = some (.ref (He.ga K "BadEvent"))
  c_MOST_PROCESSES : ∃ t, mg "MOST_PROCESSES" = some (.int 40 t)
  g_RECEIVING : mg "RECEIVING" = some (.ref (He.ga K "RECEIVING"))
  g_FORMS : mg "FORMS" = some (.ref (He.ga K "FORMS"))
  g_check_rows : mg "check_rows" = some (.ref (He.ga K "check_rows"))
  g_fits : mg "fits" = some (.ref (He.ga K "fits"))
  g_is_form : mg "is_form" = some (.ref (He.ga K "is_form"))
  g_check_events : mg "check_events" = some (.ref (He.ga K "check_events"))
  g_sends_of : mg "sends_of" = some (.ref (He.ga K "sends_of"))
  g_linked : mg "linked" = some (.ref (He.ga K "linked"))
  g_executable : mg "executable" = some (.ref (He.ga K "executable"))
  g_Record : mg "Record" = some (.ref (He.ga K "Record"))
  cl_Record : Cls K (He.ga K "Record")
  mk_Record : Mk K (He.ga K "Record") (He.ma K (He.ga K "Record") "__init__")
  me_Record___eq__ : Meth K (He.ga K "Record") "__eq__" (He.ma K (He.ga K "Record") "__eq__")
  me_Record_names : Meth K (He.ga K "Record") "names" (He.ma K (He.ga K "Record") "names")
  me_Record_check_name : Meth K (He.ga K "Record") "check_name" (He.ma K (He.ga K "Record") "check_name")
  me_Record_events : Meth K (He.ga K "Record") "events" (He.ma K (He.ga K "Record") "events")
  me_Record_length : Meth K (He.ga K "Record") "length" (He.ma K (He.ga K "Record") "length")
  me_Record_variables : Meth K (He.ga K "Record") "variables" (He.ma K (He.ga K "Record") "variables")
  me_Record_state : Meth K (He.ga K "Record") "state" (He.ma K (He.ga K "Record") "state")
  me_Record_has_event : Meth K (He.ga K "Record") "has_event" (He.ma K (He.ga K "Record") "has_event")
  me_Record_form_of : Meth K (He.ga K "Record") "form_of" (He.ma K (He.ga K "Record") "form_of")
  me_Record_partner : Meth K (He.ga K "Record") "partner" (He.ma K (He.ga K "Record") "partner")
  na_Record_links : NoAttr K (He.ga K "Record") "links"
  na_Record_rows : NoAttr K (He.ga K "Record") "rows"
  na_Record_sequence : NoAttr K (He.ga K "Record") "sequence"
  na_Record_table : NoAttr K (He.ga K "Record") "table"
  g_L_draw : mg "_law_draw" = some (.ref (He.ga K "_law_draw"))
  g_L_value : mg "_law_value" = some (.ref (He.ga K "_law_value"))
  g_L_event : mg "_law_event" = some (.ref (He.ga K "_law_event"))
  g_L_rows : mg "_law_rows" = some (.ref (He.ga K "_law_rows"))
  g_L_word : mg "_law_word" = some (.ref (He.ga K "_law_word"))
  g_L_words : mg "_law_words" = some (.ref (He.ga K "_law_words"))
  g_L_same : mg "_law_same" = some (.ref (He.ga K "_law_same"))
  g_L_lists_of : mg "_law_lists_of" = some (.ref (He.ga K "_law_lists_of"))
  g_L_bad_record : mg "_law_bad_record" = some (.ref (He.ga K "_law_bad_record"))
  g_L_first_message : mg "_law_first_message" = some (.ref (He.ga K "_law_first_message"))
  g_L_moved : mg "_law_moved" = some (.ref (He.ga K "_law_moved"))
  g_law : mg "law" = some (.ref (He.ga K "law"))
  b_ValueError : mg "ValueError" = none
  b_abs : mg "abs" = none
  b_all : mg "all" = none
  b_bool : mg "bool" = none
  b_enumerate : mg "enumerate" = none
  b_int : mg "int" = none
  b_isinstance : mg "isinstance" = none
  b_len : mg "len" = none
  b_list : mg "list" = none
  b_range : mg "range" = none
  b_str : mg "str" = none
  b_super : mg "super" = none
  b_tuple : mg "tuple" = none
  b_zip : mg "zip" = none
  u_RESERVED : He.tupB K "RESERVED" [.str "and", .str "checkpoint", .str "else", .str "end", .str "if", .str "input", .str "mod", .str "not", .str "or", .str "process", .str "receive", .str "send", .str "set", .str "take", .str "while"] = true
  u_RECEIVING : He.tupB K "RECEIVING" [.str "receive", .str "take"] = true
  kv_FORMS : KTup K "FORMS" FORMS_T
  m_UnknownProcess_BadRecord : PySem.W.exmOne K (.ref (He.ga K "UnknownProcess")) (.ref (He.ga K "BadRecord")) = some false
  m_BadRecord_BadRecord : PySem.W.exmOne K (.ref (He.ga K "BadRecord")) (.ref (He.ga K "BadRecord")) = some true
  m_BadEvent_BadRecord : PySem.W.exmOne K (.ref (He.ga K "BadEvent")) (.ref (He.ga K "BadRecord")) = some false
theorem tx {K : Frag} {h : Heap} {mg : Str → Option Value} (X : K.In h) (G : h.Ns mainGlobals mg) {w : World} (ct : He.SaysT fa fn ts w K) (m : ex K = true) : Tx K mg := by
  have c := ct.d
  obtain ⟨x0, m0⟩ := He.ba (show (_ && _) = true from m)
  obtain ⟨x1, m1⟩ := He.ba (show (_ && _) = true from m0)
  obtain ⟨x2, m2⟩ := He.ba (show (_ && _) = true from m1)
  obtain ⟨x3, m3⟩ := He.ba (show (_ && _) = true from m2)
  obtain ⟨x4, m4⟩ := He.ba (show (_ && _) = true from m3)
  obtain ⟨x5, m5⟩ := He.ba (show (_ && _) = true from m4)
  obtain ⟨x6, m6⟩ := He.ba (show (_ && _) = true from m5)
  obtain ⟨x7, m7⟩ := He.ba (show (_ && _) = true from m6)
  obtain ⟨x8, m8⟩ := He.ba (show (_ && _) = true from m7)
  obtain ⟨x9, m9⟩ := He.ba (show (_ && _) = true from m8)
  obtain ⟨x10, m10⟩ := He.ba (show (_ && _) = true from m9)
  obtain ⟨x11, m11⟩ := He.ba (show (_ && _) = true from m10)
  obtain ⟨x12, m12⟩ := He.ba (show (_ && _) = true from m11)
  exact ⟨He.glo_ok X G (c.fact 0 (f := .glo "_wall") rfl),
    He.str_ok X G (c.fact 1 (f := .str "LETTERS" "abcdefghijklmnopqrstuvwxyz") rfl),
    He.glo_ok X G (c.fact 2 (f := .glo "RESERVED") rfl),
    He.int_ok X G (c.fact 3 (f := .int "LONGEST_NAME" 8) rfl),
    He.glo_ok X G (c.fact 4 (f := .glo "frozen") rfl),
    He.glo_ok X G (c.fact 5 (f := .glo "is_integer") rfl),
    He.glo_ok X G (c.fact 6 (f := .glo "is_small") rfl),
    He.glo_ok X G (c.fact 7 (f := .glo "is_name") rfl),
    He.glo_ok X G (c.fact 8 (f := .glo "RerunError") rfl),
    He.glo_ok X G (c.fact 9 (f := .glo "UnknownProcess") rfl),
    He.glo_ok X G (c.fact 10 (f := .glo "BadRecord") rfl),
    He.glo_ok X G (c.fact 11 (f := .glo "BadEvent") rfl),
    He.int_ok X G (c.fact 12 (f := .int "MOST_PROCESSES" 40) rfl),
    He.glo_ok X G (c.fact 13 (f := .glo "RECEIVING") rfl),
    He.glo_ok X G (c.fact 14 (f := .glo "FORMS") rfl),
    He.glo_ok X G (c.fact 15 (f := .glo "check_rows") rfl),
    He.glo_ok X G (c.fact 16 (f := .glo "fits") rfl),
    He.glo_ok X G (c.fact 17 (f := .glo "is_form") rfl),
    He.glo_ok X G (c.fact 18 (f := .glo "check_events") rfl),
    He.glo_ok X G (c.fact 19 (f := .glo "sends_of") rfl),
    He.glo_ok X G (c.fact 20 (f := .glo "linked") rfl),
    He.glo_ok X G (c.fact 21 (f := .glo "executable") rfl),
    He.glo_ok X G (c.fact 22 (f := .glo "Record") rfl),
    He.cls_ok (c.fact 23 (f := .cls "Record") rfl),
    He.mkr_ok (c.fact 24 (f := .mkr "Record") rfl),
    He.meth_ok (c.fact 25 (f := .meth "Record" "__eq__") rfl),
    He.meth_ok (c.fact 26 (f := .meth "Record" "names") rfl),
    He.meth_ok (c.fact 27 (f := .meth "Record" "check_name") rfl),
    He.meth_ok (c.fact 28 (f := .meth "Record" "events") rfl),
    He.meth_ok (c.fact 29 (f := .meth "Record" "length") rfl),
    He.meth_ok (c.fact 30 (f := .meth "Record" "variables") rfl),
    He.meth_ok (c.fact 31 (f := .meth "Record" "state") rfl),
    He.meth_ok (c.fact 32 (f := .meth "Record" "has_event") rfl),
    He.meth_ok (c.fact 33 (f := .meth "Record" "form_of") rfl),
    He.meth_ok (c.fact 34 (f := .meth "Record" "partner") rfl),
    He.noat_ok (c.fact 35 (f := .noat "Record" "links") rfl),
    He.noat_ok (c.fact 36 (f := .noat "Record" "rows") rfl),
    He.noat_ok (c.fact 37 (f := .noat "Record" "sequence") rfl),
    He.noat_ok (c.fact 38 (f := .noat "Record" "table") rfl),
    He.glo_ok X G (c.fact 39 (f := .glo "_law_draw") rfl),
    He.glo_ok X G (c.fact 40 (f := .glo "_law_value") rfl),
    He.glo_ok X G (c.fact 41 (f := .glo "_law_event") rfl),
    He.glo_ok X G (c.fact 42 (f := .glo "_law_rows") rfl),
    He.glo_ok X G (c.fact 43 (f := .glo "_law_word") rfl),
    He.glo_ok X G (c.fact 44 (f := .glo "_law_words") rfl),
    He.glo_ok X G (c.fact 45 (f := .glo "_law_same") rfl),
    He.glo_ok X G (c.fact 46 (f := .glo "_law_lists_of") rfl),
    He.glo_ok X G (c.fact 47 (f := .glo "_law_bad_record") rfl),
    He.glo_ok X G (c.fact 48 (f := .glo "_law_first_message") rfl),
    He.glo_ok X G (c.fact 49 (f := .glo "_law_moved") rfl),
    He.glo_ok X G (c.fact 50 (f := .glo "law") rfl),
    He.free_ok X G (c.fact 51 (f := .free "ValueError") rfl),
    He.free_ok X G (c.fact 52 (f := .free "abs") rfl),
    He.free_ok X G (c.fact 53 (f := .free "all") rfl),
    He.free_ok X G (c.fact 54 (f := .free "bool") rfl),
    He.free_ok X G (c.fact 55 (f := .free "enumerate") rfl),
    He.free_ok X G (c.fact 56 (f := .free "int") rfl),
    He.free_ok X G (c.fact 57 (f := .free "isinstance") rfl),
    He.free_ok X G (c.fact 58 (f := .free "len") rfl),
    He.free_ok X G (c.fact 59 (f := .free "list") rfl),
    He.free_ok X G (c.fact 60 (f := .free "range") rfl),
    He.free_ok X G (c.fact 61 (f := .free "str") rfl),
    He.free_ok X G (c.fact 62 (f := .free "super") rfl),
    He.free_ok X G (c.fact 63 (f := .free "tuple") rfl),
    He.free_ok X G (c.fact 64 (f := .free "zip") rfl),
    x0,
    x1,
    (ktup_of ct 0 rfl x2).2,
    of_decide_eq_true x3,
    of_decide_eq_true x4,
    of_decide_eq_true x5⟩
structure Ty (K : Frag) (w : World) : Prop where
  triv : True
  kd_FORMS : ∃ es n, KDict K w (He.ga K "FORMS") es n
theorem ty {K : Frag} {w : World} (ct : He.SaysT fa fn ts w K) (m : ex K = true) : Ty K w := by
  obtain ⟨x0, m0⟩ := He.ba (show (_ && _) = true from m)
  obtain ⟨x1, m1⟩ := He.ba (show (_ && _) = true from m0)
  obtain ⟨x2, m2⟩ := He.ba (show (_ && _) = true from m1)
  obtain ⟨x3, m3⟩ := He.ba (show (_ && _) = true from m2)
  obtain ⟨x4, m4⟩ := He.ba (show (_ && _) = true from m3)
  obtain ⟨x5, m5⟩ := He.ba (show (_ && _) = true from m4)
  obtain ⟨x6, m6⟩ := He.ba (show (_ && _) = true from m5)
  obtain ⟨x7, m7⟩ := He.ba (show (_ && _) = true from m6)
  obtain ⟨x8, m8⟩ := He.ba (show (_ && _) = true from m7)
  obtain ⟨x9, m9⟩ := He.ba (show (_ && _) = true from m8)
  obtain ⟨x10, m10⟩ := He.ba (show (_ && _) = true from m9)
  obtain ⟨x11, m11⟩ := He.ba (show (_ && _) = true from m10)
  obtain ⟨x12, m12⟩ := He.ba (show (_ && _) = true from m11)
  exact ⟨trivial, (ktup_of ct 0 rfl x2).1⟩
structure Te (P : Program) (K : Frag) (mg : Str → Option Value) : Prop where
  triv : True
  x_UnknownProcess : ExcP P K mg "UnknownProcess" ["name"] d_E_UnknownProcess
  x_BadRecord : ExcP P K mg "BadRecord" ["reason", "name", "number"] d_E_BadRecord
  x_BadEvent : ExcP P K mg "BadEvent" ["event"] d_E_BadEvent
  i_BadRecord : ExcC K (He.ga K "BadRecord")
  k_BadRecord_BadEvent : PySem.W.kitOne K (.ref (He.ga K "BadRecord")) (.ref (He.ga K "BadEvent")) = some false
  k_BadRecord_RerunError : PySem.W.kitOne K (.ref (He.ga K "BadRecord")) (.ref (He.ga K "RerunError")) = some true
  k_BadRecord_ValueError : PySem.W.kitOne K (.ref (He.ga K "BadRecord")) (.type "ValueError") = some true
theorem te {P : Program} {K : Frag} {mg : Str → Option Value} {w : World} (T : Tx K mg) (hP : PrgOk P file) (c : SaysE fa fn ts sd ex w K) : Te P K mg := by
  have m := c.more
  obtain ⟨x0, m0⟩ := He.ba (show (_ && _) = true from m)
  obtain ⟨x1, m1⟩ := He.ba (show (_ && _) = true from m0)
  obtain ⟨x2, m2⟩ := He.ba (show (_ && _) = true from m1)
  obtain ⟨x3, m3⟩ := He.ba (show (_ && _) = true from m2)
  obtain ⟨x4, m4⟩ := He.ba (show (_ && _) = true from m3)
  obtain ⟨x5, m5⟩ := He.ba (show (_ && _) = true from m4)
  obtain ⟨x6, m6⟩ := He.ba (show (_ && _) = true from m5)
  obtain ⟨x7, m7⟩ := He.ba (show (_ && _) = true from m6)
  obtain ⟨x8, m8⟩ := He.ba (show (_ && _) = true from m7)
  obtain ⟨x9, m9⟩ := He.ba (show (_ && _) = true from m8)
  obtain ⟨x10, m10⟩ := He.ba (show (_ && _) = true from m9)
  obtain ⟨x11, m11⟩ := He.ba (show (_ && _) = true from m10)
  obtain ⟨x12, m12⟩ := He.ba (show (_ && _) = true from m11)
  exact ⟨trivial, excB_ok (d := d_E_UnknownProcess) rfl x6 (c.supd 0 (d := d_E_UnknownProcess) rfl) hP T.b_super, excB_ok (d := d_E_BadRecord) rfl x7 (c.supd 1 (d := d_E_BadRecord) rfl) hP T.b_super, excB_ok (d := d_E_BadEvent) rfl x8 (c.supd 2 (d := d_E_BadEvent) rfl) hP T.b_super, excIB_ok (excB_ok (d := d_E_BadRecord) rfl x7 (c.supd 1 (d := d_E_BadRecord) rfl) hP T.b_super).xok.xf x9, of_decide_eq_true x10, of_decide_eq_true x11, of_decide_eq_true x12⟩
theorem q_RESERVED {K : KX} {mg : Str → Option Value} (T : Tx K.f mg) {ρ : DL.Env} {γ : Ga} {Q : QD} (q : Q (.cst (strsD RESERVED_L)) γ) : dE K (tC (.ref (He.ga K "RESERVED"))) ρ γ Q := de_topB T.u_RESERVED (fun _ _ => (DL.RpL.cons (DL.Rp.str _) (DL.RpL.cons (DL.Rp.str _) (DL.RpL.cons (DL.Rp.str _) (DL.RpL.cons (DL.Rp.str _) (DL.RpL.cons (DL.Rp.str _) (DL.RpL.cons (DL.Rp.str _) (DL.RpL.cons (DL.Rp.str _) (DL.RpL.cons (DL.Rp.str _) (DL.RpL.cons (DL.Rp.str _) (DL.RpL.cons (DL.Rp.str _) (DL.RpL.cons (DL.Rp.str _) (DL.RpL.cons (DL.Rp.str _) (DL.RpL.cons (DL.Rp.str _) (DL.RpL.cons (DL.Rp.str _) (DL.RpL.cons (DL.Rp.str _) DL.RpL.nil)))))))))))))))) q
theorem q_RECEIVING {K : KX} {mg : Str → Option Value} (T : Tx K.f mg) {ρ : DL.Env} {γ : Ga} {Q : QD} (q : Q (.cst (strsD RECEIVING_L)) γ) : dE K (tC (.ref (He.ga K "RECEIVING"))) ρ γ Q := de_topB T.u_RECEIVING (fun _ _ => (DL.RpL.cons (DL.Rp.str _) (DL.RpL.cons (DL.Rp.str _) DL.RpL.nil))) q
end K31

set_option Elab.async false
set_option linter.all false
set_option maxRecDepth 100000
set_option maxHeartbeats 4000000
namespace K31
open PySem PySem.Spec PyProof.Rows L2 DL
def loose0 : List Str := ["_wall", "LETTERS", "RESERVED", "LONGEST_NAME", "frozen", "is_integer", "is_small", "is_name", "RerunError", "UnknownProcess", "BadRecord", "BadEvent", "MOST_PROCESSES", "RECEIVING", "FORMS", "check_rows", "fits", "is_form", "check_events", "sends_of"]
def loose1 : List Str := ["linked", "executable", "Record", "_law_draw", "_law_value", "_law_event", "_law_rows", "_law_word", "_law_words", "_law_same", "_law_lists_of", "_law_bad_record", "_law_first_message", "_law_moved"]
def loose : List Str := loose0 ++ loose1
abbrev R : PySem.W.OpenRow := PySem.W.OpenLaw.row PySem.Challenge.rw_rerunrein_k31_messages_refused
abbrev hk : PySem.W.Hook := hookE 5 fa fn ts sd ex
def ob (s : PySem.W.SharedT) : AlE := obsE 5 fa fn ts sd ex (HandSHeadRun.getT s)
theorem ob_eq (s : PySem.W.SharedT) : ob s = hk.obs s.abs := obsE_eq (HandSHeadRun.getT_eq s)
theorem run (w : World) : HandSHeadRun.RunEq R (PySem.W.view R.prog [38]) hk ob 6000 loose w := by
  refine PySem.W.byRow2 "special-get-raises" (P := fun w => HandSHeadRun.RunEq R (PySem.W.view R.prog [38]) hk ob 6000 loose w) (fun w => ?_) (fun w => ?_) w
  · intro os
    kernel_rfl
  · intro os
    kernel_rfl
def FactsT : Prop := ∀ {P : Program} {w : World} {K : Frag} {h : Heap} {mg : Str → Option Value} {f : Addr}, PrgOk P file → K.In h → h.Ns mainGlobals mg → mg ("law" : Str) = some (.ref f) → SaysE fa fn ts sd ex w K →
    ∃ fd : FuncData, (∀ (s : Shared) (v : Value), BindsTo s fd ⟨[v], []⟩ [("_law_script", v)]) ∧ ∀ base : Heap, FnG P w K mg base (L2.CX P w) 22 f fd ["_law_script"] (spLaw K)
end K31
section
open PySem PySem.W PySem.Calls PyProof.Rows
theorem K31.fin (HF : K31.FactsT) : PySem.Challenge.rw_rerunrein_k31_messages_refused.Holds := by
  w_on; o_law
  refine HandSHeadRun.head_any (r := OpenLaw.row PySem.Challenge.rw_rerunrein_k31_messages_refused) (q := view (OpenLaw.row PySem.Challenge.rw_rerunrein_k31_messages_refused).prog [38]) (H := K31.hk) (ob := K31.ob) (M := 6000) (loose := K31.loose) (d := HandSHeadRun.topDef (OpenLaw.row PySem.Challenge.rw_rerunrein_k31_messages_refused).prog 38) (kwd := []) K31.ob_eq
    (by kernel_rfl) (fun s => by kernel_rfl) K31.run (by kernel_rfl) (by kernel_rfl) (by kernel_rfl) (by rfl) (by first | assumption | decide +kernel) (by decide +kernel) ⟨rfl, rfl, rfl, rfl, rfl, by decide +kernel⟩ ?hw ?hc
  case hw => w_witness2
  case hc =>
    refine DL.walkG (l := PySem.Challenge.rw_rerunrein_k31_messages_refused) (n := 63) (k := 22) (x := "_law_script") (CX := fun w => L2.CX (PySem.Challenge.rw_rerunrein_k31_messages_refused).prog w) rfl (by decide) (by kernel_rfl) ⟨rfl, by decide, by decide⟩ ?F (fun w H s e s' z => DL.cx_none z)
    intro w mg fa h Y G hmg0
    obtain ⟨K, KX, c⟩ := Y
    have hmg : mg ("law" : PySem.Str) = some (.ref fa) := by
      have e : (HandSHeadRun.topDef (OpenLaw.row PySem.Challenge.rw_rerunrein_k31_messages_refused).prog 38).name = ("law" : PySem.Str) := by kernel_rfl
      rw [← e]
      exact hmg0
    obtain ⟨fd, hb, hF⟩ := HF (P := (PySem.Challenge.rw_rerunrein_k31_messages_refused).prog) (w := w) ⟨rfl, by kernel_rfl⟩ KX G hmg c
    exact ⟨K, fd, DL.spLaw K, KX, hb, fun H a ns hl _ hS => ⟨a, ns, rfl, hl, hS, fun _ _ z => z⟩, fun base _ _ => hF base⟩
end

set_option Elab.async false
set_option linter.all false
set_option maxRecDepth 100000
set_option maxHeartbeats 4000000
namespace K31
open PySem PySem.Spec PyProof.Rows L2 DL
/-! ### plain data -/
mutual
def _root_.DL.D.fz : D → D
  | .tup ds => .tup (fzL ds)
  | .lst ds => .tup (fzL ds)
  | d => d
def fzL : List D → List D
  | [] => []
  | d :: ds => d.fz :: fzL ds
end
mutual
/-- None, bools, ints, texts, tuples and lists of these, up to a depth -/
def _root_.DL.D.any (n : Nat) : D → Bool
  | .non => true
  | .bl _ => true
  | .int _ => true
  | .str _ => true
  | .tup ds => decide (ds.length ≤ 1000000) && anyL n ds
  | .lst ds => decide (ds.length ≤ 1000000) && anyL n ds
  | _ => false
def anyL : Nat → List D → Bool
  | _, [] => true
  | 0, _ :: _ => false
  | n + 1, d :: ds => d.any n && anyL (n + 1) ds
end
mutual
/-- .. small, texts of code points -/
def _root_.DL.D.oks (n : Nat) : D → Bool
  | .non => true
  | .bl _ => true
  | .int i => decide (i.natAbs < 2 ^ 200)
  | .str x => decide (x.length ≤ 10000) && PyData.strOk x
  | .tup ds => decide (ds.length ≤ 10000) && oksL n ds
  | .lst ds => decide (ds.length ≤ 10000) && oksL n ds
  | _ => false
def oksL : Nat → List D → Bool
  | _, [] => true
  | 0, _ :: _ => false
  | n + 1, d :: ds => d.oks n && oksL (n + 1) ds
end
def spFz (K : Frag) (n : Nat) : SpD := fun ds γ q _ => ∃ d, ds = [d] ∧ d.any n = true ∧ q d.fz γ
def sp_frozen (K : Frag) : SpD := spFz K 12
/-! ### events, rows -/
def wVar : List Nat := [118, 97, 114, 105, 97, 98, 108, 101]
def wVal : List Nat := [118, 97, 108, 117, 101]
def wPrc : List Nat := [112, 114, 111, 99, 101, 115, 115]
def wSet : List Nat := [115, 101, 116]
def wSend : List Nat := [115, 101, 110, 100]
def wRcv : List Nat := [114, 101, 99, 101, 105, 118, 101]
def wTake : List Nat := [116, 97, 107, 101]
def wInp : List Nat := [105, 110, 112, 117, 116]
def wChk : List Nat := [99, 104, 101, 99, 107, 112, 111, 105, 110, 116]
def wRow : List Nat := [114, 111, 119]
def wEvent : List Nat := [101, 118, 101, 110, 116]
def wMsg : List Nat := [109, 101, 115, 115, 97, 103, 101]
def wOrder : List Nat := [111, 114, 100, 101, 114]
/-- tk: take, not receive; ip: input, not set -/
inductive Ev where
  | set (ip : Bool) (v : List Nat) (x : Int)
  | snd (q : List Nat) (x : Int)
  | rcv (tk : Bool) (p v : List Nat) (x : Int)
  | chk
def Ev.w : Ev → List Nat
  | .set ip _ _ => if ip then wInp else wSet
  | .snd _ _ => wSend
  | .rcv tk _ _ _ => if tk then wTake else wRcv
  | .chk => wChk
def Ev.d : Ev → D
  | .set ip v x => .tup [.str (S (if ip then wInp else wSet)), .str (S v), .int x]
  | .snd q x => .tup [.str (S wSend), .str (S q), .int x]
  | .rcv tk p v x => .tup [.str (S (if tk then wTake else wRcv)), .str (S p), .str (S v), .int x]
  | .chk => .tup [.str (S wChk)]
abbrev Row := List Nat × List Ev
def rowD (r : Row) : D := .tup [.str (S r.1), .tup (r.2.map Ev.d)]
def BIG : Int := 1000000000000000000000000000000
def namesOf (R : List Row) : List (List Nat) := R.map (·.1)
/-- .. of process nm among the names ns -/
def Ev.okIn (nm : List Nat) (ns : List (List Nat)) : Ev → Bool
  | .set _ v x => isName v && decide (x.natAbs < BIG.natAbs)
  | .snd q x => decide (q ∈ ns) && decide (q ≠ nm) && decide (x.natAbs < BIG.natAbs)
  | .rcv _ p v x => decide (p ∈ ns) && decide (p ≠ nm) && isName v && decide (x.natAbs < BIG.natAbs)
  | .chk => true
/-! ### the checks -/
def isNameD : D → Bool
  | .str x => isName x.cps.toList
  | _ => false
def isSmallD : D → Bool
  | .int i => decide (i.natAbs < BIG.natAbs)
  | _ => false
def isIntD : D → Bool
  | .int _ => true
  | _ => false
def rowOk : D → Option (List Nat × List D)
  | .tup [.str x, .tup evs] => if isName x.cps.toList = true then some (x.cps.toList, evs) else none
  | _ => none
/-- the number of the first row that is none, from number i on, with the names kn -/
def rowErr : List D → Nat → List (List Nat) → Option Nat
  | [], _, _ => none
  | r :: rs, i, kn => match rowOk r with
    | none => some i
    | some (nm, _) => if i = 40 ∨ nm ∈ kn then some i else rowErr rs (i + 1) (kn ++ [nm])
def rowsErr (rs : List D) : Option Nat := if rs = [] then some 0 else rowErr rs 0 []
def fitsS (nm : List Nat) (ns : List (List Nat)) : D → Bool
  | .str x => decide (x.cps.toList ∈ ns) && decide (x.cps.toList ≠ nm)
  | _ => false
def fitsD (kind : List Nat) (part : D) (nm : List Nat) (ns : List (List Nat)) : Bool :=
  if kind = wVar then isNameD part else if kind = wVal then isSmallD part else fitsS nm ns part
def formB (d : D) (nm : List Nat) (ns : List (List Nat)) : Bool := match d with
  | .tup (.str w :: xs) => (match FORMS_T.lookup w.cps.toList with
    | none => false
    | some kinds => decide (xs.length = kinds.length) && (kinds.zip xs).all fun p => fitsD p.1 p.2 nm ns)
  | _ => false
abbrev RowX := List Nat × List D
def rowXD (r : RowX) : D := .tup [.str (S r.1), .tup r.2]
def firstNo (nm : List Nat) (ns : List (List Nat)) : List D → Nat → Option Nat
  | [], _ => none
  | d :: ds, i => if formB d nm ns = true then firstNo nm ns ds (i + 1) else some i
/-- the first event without a form -/
def evErr (ns : List (List Nat)) : List RowX → Option (List Nat × Nat)
  | [] => none
  | r :: rs => match firstNo r.1 ns r.2 1 with
    | some i => some (r.1, i)
    | none => evErr ns rs
/-! ### messages -/
abbrev EvN := List Nat × Nat
def evD (e : EvN) : D := .tup [.str (S e.1), .int (e.2 : Nat)]
def kE (e : EvN) : List Key := [.inr (S e.1), .inl (e.2 : Nat)]
def kC (c : List Nat × List Nat) : List Key := [.inr (S c.1), .inr (S c.2)]
abbrev Chan := List ((List Nat × List Nat) × List (Nat × Int))
def sndD (p : Nat × Int) : D := .tup [.int (p.1 : Nat), .int p.2]
def chanD (l : List (Nat × Int)) : D := .lst (l.map sndD)
/-- a send more in its channel -/
def addS (cs : Chan) (c : List Nat × List Nat) (x : Nat × Int) : Chan :=
  if (cs.any fun p => decide (p.1 = c)) = true then cs.map (fun p => if p.1 = c then (p.1, p.2 ++ [x]) else p) else cs ++ [(c, [x])]
def sndEv (nm : List Nat) : List Ev → Nat → Chan → Chan
  | [], _, cs => cs
  | .snd q x :: es, i, cs => sndEv nm es (i + 1) (addS cs (nm, q) (i, x))
  | _ :: es, i, cs => sndEv nm es (i + 1) cs
def sndR : List Row → Chan → Chan
  | [], cs => cs
  | r :: rs, cs => sndR rs (sndEv r.1 r.2 1 cs)
def sndsOf (R : List Row) : Chan := sndR R []
def chanAt (cs : Chan) (c : List Nat × List Nat) : List (Nat × Int) := ((cs.find? fun p => decide (p.1 = c)).map (·.2)).getD []
/-- how many were received from p so far -/
abbrev Cnt := List (List Nat × Nat)
def cntAt (t : Cnt) (p : List Nat) : Nat := ((t.find? fun x => decide (x.1 = p)).map (·.2)).getD 0
def cntUp (t : Cnt) (p : List Nat) (n : Nat) : Cnt :=
  if (t.any fun x => decide (x.1 = p)) = true then t.map (fun x => if x.1 = p then (x.1, n) else x) else t ++ [(p, n)]
/-- the pairs (send, receipt) of a row, or the number of the first receipt that finds none -/
def lnkEv (cs : Chan) (nm : List Nat) : List Ev → Nat → Cnt → Except Nat (List (EvN × EvN))
  | [], _, _ => .ok []
  | .rcv _ p _ x :: es, i, t => match (chanAt cs (p, nm))[cntAt t p]? with
    | some (m, y) => if y = x then (match lnkEv cs nm es (i + 1) (cntUp t p (cntAt t p + 1)) with
        | .ok l => .ok (((p, m), (nm, i)) :: l)
        | .error j => .error j) else .error i
    | none => .error i
  | _ :: es, i, t => lnkEv cs nm es (i + 1) t
def lnkR (cs : Chan) : List Row → Except EvN (List (EvN × EvN))
  | [] => .ok []
  | r :: rs => match lnkEv cs r.1 r.2 1 [] with
    | .error i => .error (r.1, i)
    | .ok l => (match lnkR cs rs with
      | .ok l' => .ok (l ++ l')
      | .error e => .error e)
/-- the pairs (send, receipt), or the first receipt that finds none -/
def msgsOf (R : List Row) : Except EvN (List (EvN × EvN)) := lnkR (sndsOf R) R
/-- the dict of the pairs, both ways -/
def lnkPs (l : List (EvN × EvN)) (acc : List (List Key × D)) : List (List Key × D) :=
  l.foldl (fun a p => putP (putP a (kE p.1) (evD p.2)) (kE p.2) (evD p.1)) acc
/-! ### an order of execution -/
def sndFor (l : List (EvN × EvN)) (e : EvN) : Option EvN := (l.reverse.find? fun p => decide (p.2 = e)).map (·.1)
def placeOf (pl : List (List Nat × Nat)) (a : List Nat) : Nat := ((pl.find? fun x => decide (x.1 = a)).map (·.2)).getD 0
/-- whether event number i of nm (its text ev) cannot be executed -/
def blocked (l : List (EvN × EvN)) (pl : List (List Nat × Nat)) (nm : List Nat) (ev : Ev) (i : Nat) : Bool := match ev with
  | .rcv _ _ _ _ => (match sndFor l (nm, i) with
    | some (a, m) => decide (placeOf pl a < m)
    | none => false)
  | _ => false
def plUp (pl : List (List Nat × Nat)) (a : List Nat) : List (List Nat × Nat) := pl.map fun x => if x.1 = a then (x.1, x.2 + 1) else x
abbrev Run := List (List Nat × Nat) × List EvN
/-- one row as far as it goes; evs: its events from the present place on -/
def goRow (l : List (EvN × EvN)) (nm : List Nat) : List Ev → Run → Run
  | [], s => s
  | ev :: evs, s => if blocked l s.1 nm ev (placeOf s.1 nm + 1) = true then s else goRow l nm evs (plUp s.1 nm, s.2 ++ [(nm, placeOf s.1 nm + 1)])
def goRows (l : List (EvN × EvN)) : List Row → Run → Run
  | [], s => s
  | r :: rs, s => goRows l rs (goRow l r.1 (r.2.drop (placeOf s.1 r.1)) s)
/-- rounds, until nothing moves -/
def goAll (l : List (EvN × EvN)) (R : List Row) : Nat → Run → Run
  | 0, s => s
  | n + 1, s => if (goRows l R s).2.length = s.2.length then goRows l R s else goAll l R n (goRows l R s)
def evCount (R : List Row) : Nat := (R.map fun r => r.2.length).sum
def seqOf (l : List (EvN × EvN)) (R : List Row) : List EvN := (goAll l R (evCount R + 1) (R.map fun r => (r.1, 0), [])).2
def doneOf (sq : List EvN) (nm : List Nat) : Nat := (sq.filter fun e => decide (e.1 = nm)).length
def ordErr (sq : List EvN) : List Row → Option EvN
  | [] => none
  | r :: rs => if doneOf sq r.1 < r.2.length then some (r.1, doneOf sq r.1 + 1) else ordErr sq rs
/-! ### the judge -/
def evOf : D → Ev
  | .tup [_, .str v, .int x] => .set false v.cps.toList x
  | _ => .chk
/-- an event by its data -/
def evOfD : D → Ev
  | .tup [.str w, .str v, .int x] => if w.cps.toList = wSend then .snd v.cps.toList x else .set (decide (w.cps.toList = wInp)) v.cps.toList x
  | .tup [.str w, .str p, .str v, .int x] => .rcv (decide (w.cps.toList = wTake)) p.cps.toList v.cps.toList x
  | _ => .chk
def rowsX : List D → List RowX
  | [] => []
  | r :: rs => match rowOk r with
    | some x => x :: rowsX rs
    | none => rowsX rs
def rowsE (rs : List RowX) : List Row := rs.map fun r => (r.1, r.2.map evOfD)
structure Bad where
  reason : List Nat
  name : D
  number : Nat
/-- what Record says of frozen rows -/
def judge (rs : List D) : Except Bad (List Row × List (EvN × EvN)) := match rowsErr rs with
  | some i => .error ⟨wRow, .non, i⟩
  | none => match evErr ((rowsX rs).map (·.1)) (rowsX rs) with
    | some (n, i) => .error ⟨wEvent, .str (S n), i⟩
    | none => match msgsOf (rowsE (rowsX rs)) with
      | .error (n, i) => .error ⟨wMsg, .str (S n), i⟩
      | .ok l => match ordErr (seqOf l (rowsE (rowsX rs))) (rowsE (rowsX rs)) with
        | some (n, i) => .error ⟨wOrder, .str (S n), i⟩
        | none => .ok (rowsE (rowsX rs), l)
/-! ### promises -/
def XR (K : Frag) (e : XD) (b : Bad) (γ : Ga) : Prop := e (He.ga K "BadRecord") ["number", "name", "reason"] [.int (b.number : Nat), b.name, .str (S b.reason)] γ
def okRows (rs : List D) : Bool := decide (rs.length ≤ 10000) && rs.all fun d => d.oks 10
def sp_is_integer (K : Frag) : SpD := fun ds γ q _ => ∃ d, ds = [d] ∧ d.oks 12 = true ∧ q (.bl (isIntD d)) γ
def sp_is_small (K : Frag) : SpD := fun ds γ q _ => ∃ d, ds = [d] ∧ d.oks 12 = true ∧ q (.bl (isSmallD d)) γ
def sp_is_name (K : Frag) : SpD := fun ds γ q _ => ∃ d, ds = [d] ∧ d.oks 12 = true ∧ q (.bl (isNameD d)) γ
def sp_check_rows (K : Frag) : SpD := fun ds γ q e => ∃ rs, ds = [.tup rs] ∧ okRows rs = true ∧ (rowsErr rs = none → q .non γ) ∧ (∀ i, rowsErr rs = some i → XR K e ⟨wRow, .non, i⟩ γ)
def sp_fits (K : Frag) : SpD := fun ds γ q _ => ∃ kind part nm ns, ds = [.str (S kind), part, .str (S nm), .lst (strsD ns)] ∧ part.oks 12 = true ∧ q (.bl (fitsD kind part nm ns)) γ
def sp_is_form (K : Frag) : SpD := fun ds γ q _ => ∃ d nm ns, ds = [d, .str (S nm), .lst (strsD ns)] ∧ d.oks 12 = true ∧ q (.bl (formB d nm ns)) γ
def okX (r : RowX) : Bool := decide (r.2.length ≤ 10000) && r.2.all fun d => d.oks 10
def sp_check_events (K : Frag) : SpD := fun ds γ q e => ∃ rs : List RowX, ds = [.tup (rs.map rowXD)] ∧ rs.length ≤ 100 ∧ rs.all okX = true ∧ (evErr (rs.map (·.1)) rs = none → q .non γ) ∧ (∀ n i, evErr (rs.map (·.1)) rs = some (n, i) → XR K e ⟨wEvent, .str (S n), i⟩ γ)
/-- rows within the checks -/
def RowsOk (R : List Row) : Prop := R.length ≤ 40 ∧ (namesOf R).Nodup ∧ (∀ r ∈ R, r.2.length ≤ 10000 ∧ ∀ ev ∈ r.2, ev.okIn r.1 (namesOf R) = true)
def chanPs (cs : Chan) : List (List Key × D) := cs.map fun p => (kC p.1, chanD p.2)
def sp_sends_of (K : Frag) : SpD := fun ds γ q _ => ∃ R : List Row, ds = [.tup (R.map rowD)] ∧ RowsOk R ∧ q (.dit ((chanPs (sndsOf R)).map (·.1)) ((chanPs (sndsOf R)).map (·.2))) γ
def sp_linked (K : Frag) : SpD := fun ds γ q e => ∃ R : List Row, ds = [.tup (R.map rowD)] ∧ RowsOk R ∧ (∀ l, msgsOf R = .ok l → q (.dit ((lnkPs l []).map (·.1)) ((lnkPs l []).map (·.2))) γ) ∧ (∀ n i, msgsOf R = .error (n, i) → XR K e ⟨wMsg, .str (S n), i⟩ γ)
def sp_executable (K : Frag) : SpD := fun ds γ q _ => ∃ R : List Row, ∃ l, ds = [.tup (R.map rowD), .dit ((lnkPs l []).map (·.1)) ((lnkPs l []).map (·.2))] ∧ RowsOk R ∧ msgsOf R = .ok l ∧ q (.lst ((seqOf l R).map evD)) γ
/-- the object of a record -/
def tabPs (R : List Row) : List (Key × D) := R.map fun r => (.inr (S r.1), .tup (r.2.map Ev.d))
def recMO (K : Frag) (R : List Row) (l : List (EvN × EvN)) : MO := .ins (He.ga K "Record") ["rows", "table", "links", "sequence"]
  [.tup (R.map rowD), .dic ((tabPs R).map (·.1)) ((tabPs R).map (·.2)), .dit ((lnkPs l []).map (·.1)) ((lnkPs l []).map (·.2)), .lst ((seqOf l R).map evD)]
def sp_Record_init (K : Frag) : SpD := fun ds γ q e => ∃ k x rs, ds = [.loc k, x] ∧ (x = .lst rs ∨ x = .tup rs) ∧ okRows rs = true ∧ γ[k]? = some (.ins (He.ga K "Record") [] []) ∧
  (∀ R l, judge (fzL rs) = .ok (R, l) → q .non (γ.set k (recMO K R l))) ∧ (∀ b, judge (fzL rs) = .error b → ∀ m, XR K e b (γ.set k m))
/-! ### the drawn rows -/
/-- a stream with n numbers to draw at least -/
def Strm (n : Nat) (A B : MO) : Prop := ∃ cs : List Int, ∃ c t m : Int, A = .lst (cs.map D.int) ∧ B = .lst [.loc 0, .int c, .int t, .int m] ∧ 0 ≤ c ∧ 0 ≤ t ∧ t + n ≤ 2 ^ 20 ∧ 0 ≤ m ∧ m < 2 ^ 31
def smallI (x : Int) : Bool := decide (x.natAbs < BIG.natAbs)
/-- the messages under way -/
abbrev Qs := List ((List Nat × List Nat) × List Int)
def qAt (qs : Qs) (c : List Nat × List Nat) : List Int := ((qs.find? fun p => decide (p.1 = c)).map (·.2)).getD []
def qPut (qs : Qs) (c : List Nat × List Nat) (l : List Int) : Qs :=
  if (qs.any fun p => decide (p.1 = c)) = true then qs.map (fun p => if p.1 = c then (p.1, l) else p) else qs ++ [(c, l)]
def qPs (qs : Qs) : List (List Key × D) := qs.map fun p => (kC p.1, .lst (p.2.map D.int))
def QOk (N : Nat) (qs : Qs) : Prop := qs.length ≤ N ∧ ∀ p ∈ qs, p.2.length ≤ N ∧ (∀ x ∈ p.2, smallI x = true) ∧ (p.2 ≠ [] → p.1.1 ≠ p.1.2)
def isXY (v : List Nat) : Prop := v = [120] ∨ v = [121]
/-- event ev of process nm moves the messages under way -/
inductive EvS (ns : List (List Nat)) (nm : List Nat) (qs : Qs) : Ev → Qs → Prop
  | snd (q x) : q ∈ ns → q ≠ nm → smallI x = true → EvS ns nm qs (.snd q x) (qPut qs (nm, q) (qAt qs (nm, q) ++ [x]))
  | rcv (tk p v x r) : p ∈ ns → p ≠ nm → isXY v → qAt qs (p, nm) = x :: r → smallI x = true → EvS ns nm qs (.rcv tk p v x) (qPut qs (p, nm) r)
  | set (ip v x) : isXY v → smallI x = true → EvS ns nm qs (.set ip v x) qs
  | chk : EvS ns nm qs .chk qs
/-- rows in the order of a drawn run; the number of events -/
inductive Drw (ns : List (List Nat)) : Nat → List Row → Qs → Prop
  | nil : Drw ns 0 (ns.map fun n => (n, [])) []
  | step {n R qs i r ev qs'} : Drw ns n R qs → R[i]? = some r → EvS ns r.1 qs ev qs' → Drw ns (n + 1) (R.set i (r.1, r.2 ++ [ev])) qs'
def wordOk (l : List Nat) : Bool := isName l && decide (l.length ≠ 5)
def sp_L_draw (K : Frag) : SpD := fun ds γ q _ => ∃ n : Nat, ∃ m : Int, ∃ A B rest, ds = [.loc 1, .int m] ∧ 0 < m ∧ m < 1000000 ∧ γ = A :: B :: rest ∧ Strm (n + 1) A B ∧ ∀ d A' B', 0 ≤ d → d < m → Strm n A' B' → q (.int d) (A' :: B' :: rest)
def sp_L_value (K : Frag) : SpD := fun ds γ q _ => ∃ n A B rest, ds = [.loc 1] ∧ γ = A :: B :: rest ∧ Strm (n + 2) A B ∧ ∀ x A' B', smallI x = true → Strm n A' B' → q (.int x) (A' :: B' :: rest)
def sp_L_event (K : Frag) : SpD := fun ds γ q _ => ∃ n A B rest ns, ∃ i : Nat, ∃ nm N j qs, ds = [.loc 1, .lst (strsD ns), .int i, .loc (j + 2)] ∧ (∀ l ∈ ns, isName l = true) ∧ ns.Nodup ∧ ns.length ≤ 100 ∧ ns[i]? = some nm ∧ γ = A :: B :: rest ∧ rest[j]? = some (moT (qPs qs)) ∧ QOk N qs ∧ N ≤ 10000 ∧
  Strm (n + 10) A B ∧ ∀ ev qs' A' B', EvS ns nm qs ev qs' → QOk (N + 1) qs' → Strm n A' B' → q ev.d (A' :: B' :: rest.set j (moT (qPs qs')))
def sp_L_rows (K : Frag) : SpD := fun ds γ q _ => ∃ n A B rest ns, ∃ many : Nat, ds = [.loc 1, .lst (strsD ns), .int many] ∧ (∀ l ∈ ns, isName l = true) ∧ ns.Nodup ∧ 0 < ns.length ∧ ns.length ≤ 100 ∧ many ≤ 1000 ∧ γ = A :: B :: rest ∧ Strm (n + 11 * many) A B ∧
  ∀ R qs A' B', Drw ns many R qs → Strm n A' B' → q (.lst (R.map rowD)) (A' :: B' :: rest)
def sp_L_word (K : Frag) : SpD := fun ds γ q _ => ∃ n A B rest, ds = [.loc 1] ∧ γ = A :: B :: rest ∧ Strm (n + 9) A B ∧ ∀ l A' B', wordOk l = true → Strm n A' B' → q (.str (S l)) (A' :: B' :: rest)
def sp_L_words (K : Frag) : SpD := fun ds γ q _ => ∃ n A B rest, ∃ many : Nat, ds = [.loc 1, .int many] ∧ many ≤ 40 ∧ γ = A :: B :: rest ∧ Strm (n + 9 * many) A B ∧ ∀ ns A' B', ns.length = many → (∀ l ∈ ns, wordOk l = true) → ns.Nodup → Strm n A' B' → q (.lst (strsD ns)) (A' :: B' :: rest)
/-! ### looks of the laws -/
mutual
def eqD : D → D → Bool
  | .non, d => match d with | .non => true | _ => false
  | .bl a, d => match d with | .bl b => decide (a = b) | _ => false
  | .int a, d => match d with | .int b => decide (a = b) | _ => false
  | .str a, d => match d with | .str b => decide (a = b) | _ => false
  | .tup a, d => match d with | .tup b => eqDL a b | _ => false
  | .lst a, d => match d with | .lst b => eqDL a b | _ => false
  | _, _ => false
def eqDL : List D → List D → Bool
  | [], ys => match ys with | [] => true | _ => false
  | x :: xs, ys => match ys with | [] => false | y :: ys => eqD x y && eqDL xs ys
end
mutual
def _root_.DL.D.ls : D → D
  | .tup ds => .lst (lsL ds)
  | .lst ds => .lst (lsL ds)
  | d => d
def lsL : List D → List D
  | [] => []
  | d :: ds => d.ls :: lsL ds
end
def spSame (K : Frag) (n : Nat) : SpD := fun ds γ q _ => ∃ a b, ds = [a, b] ∧ a.oks n = true ∧ b.oks n = true ∧ q (.bl (eqD a b)) γ
def sp_L_same (K : Frag) : SpD := spSame K 12
def spLs (K : Frag) (n : Nat) : SpD := fun ds γ q _ => ∃ d, ds = [d] ∧ d.oks n = true ∧ q d.ls γ
def sp_L_lists_of (K : Frag) : SpD := spLs K 12
def badD (b : Bad) : D := .lst [.str (S b.reason), b.name, .int (b.number : Nat)]
def recD {A : Type} : Except Bad A → D
  | .ok _ => .non
  | .error b => badD b
def optD : Option Nat → D
  | none => .non
  | some i => .int (i : Nat)
def sp_L_any (K : Frag) : SpD := fun ds γ q _ => ∃ n A B rest, ds = [.loc 1] ∧ γ = A :: B :: rest ∧ Strm (n + 1) A B ∧ ∀ d A' B', d.oks 3 = true → (∀ ps, d = .tup ps → ps.length ≤ 5) → Strm n A' B' → q d (A' :: B' :: rest)
def sp_L_is_name (K : Frag) : SpD := sp_is_name K
def sp_L_bad_record (K : Frag) : SpD := fun ds γ q _ => ∃ x rs, ds = [x] ∧ (x = .lst rs ∨ x = .tup rs) ∧ okRows rs = true ∧ q (recD (judge (fzL rs))) γ
def RES15 : List (List Nat) := [[97, 110, 100], [99, 104, 101, 99, 107, 112, 111, 105, 110, 116], [101, 108, 115, 101], [101, 110, 100], [105, 102], [105, 110, 112, 117, 116], [109, 111, 100], [110, 111, 116], [111, 114], [112, 114, 111, 99, 101, 115, 115], [114, 101, 99, 101, 105, 118, 101], [115, 101, 110, 100], [115, 101, 116], [116, 97, 107, 101], [119, 104, 105, 108, 101]]
def sp_L_reserved (K : Frag) : SpD := fun ds γ q _ => ds = [] ∧ q (.lst (strsD RES15)) γ
def optM {A : Type} : Except EvN A → D
  | .ok _ => .non
  | .error (n, i) => .lst [.str (S wMsg), .str (S n), .int (i : Nat)]
def sp_L_first_message (K : Frag) : SpD := fun ds γ q _ => ∃ R : List Row, ds = [.lst (R.map rowD)] ∧ RowsOk R ∧ q (optM (msgsOf R)) γ
def sp_L_moved (K : Frag) : SpD := fun ds γ q _ => ∃ n A B rest, ∃ es : List Ev, ∃ nm ns, ds = [.loc 1, .tup (es.map Ev.d), .str (S nm), .lst (strsD ns)] ∧ es ≠ [] ∧ es.length ≤ 100 ∧ (∀ ev ∈ es, ev.okIn nm ns = true) ∧ ns.Nodup ∧ nm ∈ ns ∧ 2 ≤ ns.length ∧ ns.length ≤ 100 ∧ γ = A :: B :: rest ∧ Strm (n + 4) A B ∧
  ∀ (es' : List Ev) A' B', es'.length ≤ es.length → (∀ ev ∈ es', ev.okIn nm ns = true) → Strm n A' B' → q (.tup (es'.map Ev.d)) (A' :: B' :: rest)
def sp_law (K : Frag) : SpD := fun _ _ _ _ => True
def N_frozen : List Str := ["thing", "part"]
theorem sc_frozen : FnScope N_frozen ["thing"] (defScope (top 5)) := ⟨rfl, rfl, rfl, by decide +kernel, rfl, by decide +kernel, by decide +kernel⟩
def t_frozen (K : Frag) (s_frozen : SpD) (W : WX) : TS := (tSeq (tIfS (tB (tCB (rIsiT K) (tCons (tVar 0) (tCons (tTup (tCons (tC (.ty "tuple")) (tCons (tC (.ty "list")) tNil))) tNil)))) (tRet (tCB (rTupleOf K) (tCons (tLc (iAny K (tVar 0)) (gName 1) tYes (tCallW (toSp K s_frozen) (WE W0) (tCons (tVar 1) tNil)) [1]) tNil))) tNext) (tRet (tVar 0)))
abbrev DL_frozen (K : Frag) (s_frozen : SpD) (sp : SpD) : Prop := ∀ ds γ q e E, loG γ.length γ = true → loL γ.length ds = true → sp ds γ q e → dS ⟨K, wOf E, fun _ => DrX γ.length e⟩ γ.length (t_frozen K s_frozen (wOf E)) (ds.map some ++ List.replicate (2 - ds.length) none) γ { nx := fun _ γ' => Dr γ.length q .non γ', rt := Dr γ.length q }
def N_is_integer : List Str := ["thing"]
theorem sc_is_integer : FnScope N_is_integer ["thing"] (defScope (top 6)) := ⟨rfl, rfl, rfl, by decide +kernel, rfl, by decide +kernel, by decide +kernel⟩
def t_is_integer (K : Frag) (W : WX) : TS := (tRet (tAndV (tCB (rIsi K) (tCons (tVar 0) (tCons (tC (.ty "int")) tNil))) (tNotV (tCB (rIsi K) (tCons (tVar 0) (tCons (tC (.ty "bool")) tNil))))))
abbrev DL_is_integer (K : Frag) (sp : SpD) : Prop := ∀ ds γ q e E, loG γ.length γ = true → loL γ.length ds = true → sp ds γ q e → dS ⟨K, wOf E, fun _ => DrX γ.length e⟩ γ.length (t_is_integer K (wOf E)) (ds.map some ++ List.replicate (1 - ds.length) none) γ { nx := fun _ γ' => Dr γ.length q .non γ', rt := Dr γ.length q }
def N_is_small : List Str := ["thing"]
theorem sc_is_small : FnScope N_is_small ["thing"] (defScope (top 7)) := ⟨rfl, rfl, rfl, by decide +kernel, rfl, by decide +kernel, by decide +kernel⟩
def t_is_small (K : Frag) (W : WX) : TS := (tRet (tAndV (tCallW (toSp K (sp_is_integer K)) (WE W) (tCons (tVar 0) tNil)) (tOp rLtI (tCB rAbs (tCons (tVar 0) tNil)) (tOp rPow (tC (.int 10)) (tC (.int 30))))))
abbrev DL_is_small (K : Frag) (sp : SpD) : Prop := ∀ ds γ q e E, loG γ.length γ = true → loL γ.length ds = true → sp ds γ q e → dS ⟨K, wOf E, fun _ => DrX γ.length e⟩ γ.length (t_is_small K (wOf E)) (ds.map some ++ List.replicate (1 - ds.length) none) γ { nx := fun _ γ' => Dr γ.length q .non γ', rt := Dr γ.length q }
def N_is_name : List Str := ["thing", "letter"]
theorem sc_is_name : FnScope N_is_name ["thing"] (defScope (top 8)) := ⟨rfl, rfl, rfl, by decide +kernel, rfl, by decide +kernel, by decide +kernel⟩
def t_is_name (K : Frag) (W : WX) : TS := (tSeq (tIfS (tOr (tNot (tB (tCB (rIsi K) (tCons (tVar 0) (tCons (tC (.ty "str")) tNil))))) (tOr (tNot (tTest (tChain rLeI rLeI (tC (.int 1)) (tCB (rLenG K) (tCons (tVar 0) tNil)) (tC (.int 8))))) (tTest (tOp (rInG K) (tVar 0) (tC (.ref (He.ga K "RESERVED"))))))) (tRet (tC (.bl false))) tNext) (tRet (tCB (rAll K) (tCons (tLc (iStr (tVar 0)) (gName 1) tYes (tOp (rInG K) (tVar 1) (tC (.str (S [97, 98, 99, 100, 101, 102, 103, 104, 105, 106, 107, 108, 109, 110, 111, 112, 113, 114, 115, 116, 117, 118, 119, 120, 121, 122])))) [1]) tNil))))
abbrev DL_is_name (K : Frag) (sp : SpD) : Prop := ∀ ds γ q e E, loG γ.length γ = true → loL γ.length ds = true → sp ds γ q e → dS ⟨K, wOf E, fun _ => DrX γ.length e⟩ γ.length (t_is_name K (wOf E)) (ds.map some ++ List.replicate (2 - ds.length) none) γ { nx := fun _ γ' => Dr γ.length q .non γ', rt := Dr γ.length q }
def N_check_rows : List Str := ["rows", "known", "index", "row"]
theorem sc_check_rows : FnScope N_check_rows ["rows"] (defScope (top 18)) := ⟨rfl, rfl, rfl, by decide +kernel, rfl, by decide +kernel, by decide +kernel⟩
def t_check_rows (K : Frag) (W : WX) : TS := (tSeq (tIfS (tTest (tOp (rEqG K) (tCB (rLenG K) (tCons (tVar 0) tNil)) (tC (.int 0)))) (tRaise K W (He.ga K "BadRecord") (sp_frozen K) ["reason", "name", "number"] (tCons (tC (.str (S [114, 111, 119]))) (tCons (tC .non) (tCons (tC (.int 0)) tNil)))) tNext) (tSeq (tAsg (tLstM tNil) (gName 1)) (tFor (iEnumC K 0 (tCons (tVar 0) tNil)) (gTup K 2 (gCons (gName 2) (gCons (gName 3) gNil))) (tSeq (tIfS (tOr (tTest (tOp (rEqG K) (tVar 2) (tC (.int 40)))) (tOr (tNot (tB (tCB (rIsi K) (tCons (tVar 3) (tCons (tC (.ty "tuple")) tNil))))) (tTest (tOp (rNeG K) (tCB (rLenG K) (tCons (tVar 3) tNil)) (tC (.int 2)))))) (tRaise K W (He.ga K "BadRecord") (sp_frozen K) ["reason", "name", "number"] (tCons (tC (.str (S [114, 111, 119]))) (tCons (tC .non) (tCons (tVar 2) tNil)))) tNext) (tSeq (tIfS (tOr (tNot (tB (tCallW (toSp K (sp_is_name K)) (WE W) (tCons (tOp (rIx K) (tVar 3) (tC (.int 0))) tNil)))) (tOr (tTest (tOp (rInG K) (tOp (rIx K) (tVar 3) (tC (.int 0))) (tVar 1))) (tNot (tB (tCB (rIsi K) (tCons (tOp (rIx K) (tVar 3) (tC (.int 1))) (tCons (tC (.ty "tuple")) tNil))))))) (tRaise K W (He.ga K "BadRecord") (sp_frozen K) ["reason", "name", "number"] (tCons (tC (.str (S [114, 111, 119]))) (tCons (tC .non) (tCons (tVar 2) tNil)))) tNext) (tDrop (tBM K "list" rAppend (tVar 1) (tCons (tOp (rIx K) (tVar 3) (tC (.int 0))) tNil))))))))
abbrev DL_check_rows (K : Frag) (sp : SpD) : Prop := ∀ ds γ q e E, loG γ.length γ = true → loL γ.length ds = true → sp ds γ q e → dS ⟨K, wOf E, fun _ => DrX γ.length e⟩ γ.length (t_check_rows K (wOf E)) (ds.map some ++ List.replicate (4 - ds.length) none) γ { nx := fun _ γ' => Dr γ.length q .non γ', rt := Dr γ.length q }
def N_fits : List Str := ["kind", "part", "name", "names"]
theorem sc_fits : FnScope N_fits ["kind", "part", "name", "names"] (defScope (top 19)) := ⟨rfl, rfl, rfl, by decide +kernel, rfl, by decide +kernel, by decide +kernel⟩
def t_fits (K : Frag) (W : WX) : TS := (tSeq (tIfS (tTest (tOp (rEqG K) (tVar 0) (tC (.str (S [118, 97, 114, 105, 97, 98, 108, 101]))))) (tRet (tCallW (toSp K (sp_is_name K)) (WE W) (tCons (tVar 1) tNil))) tNext) (tSeq (tIfS (tTest (tOp (rEqG K) (tVar 0) (tC (.str (S [118, 97, 108, 117, 101]))))) (tRet (tCallW (toSp K (sp_is_small K)) (WE W) (tCons (tVar 1) tNil))) tNext) (tRet (tAndV (tCB (rIsi K) (tCons (tVar 1) (tCons (tC (.ty "str")) tNil))) (tAndV (tOp (rInG K) (tVar 1) (tVar 3)) (tOp (rNeG K) (tVar 1) (tVar 2)))))))
abbrev DL_fits (K : Frag) (sp : SpD) : Prop := ∀ ds γ q e E, loG γ.length γ = true → loL γ.length ds = true → sp ds γ q e → dS ⟨K, wOf E, fun _ => DrX γ.length e⟩ γ.length (t_fits K (wOf E)) (ds.map some ++ List.replicate (4 - ds.length) none) γ { nx := fun _ γ' => Dr γ.length q .non γ', rt := Dr γ.length q }
def N_is_form : List Str := ["event", "name", "names", "kinds", "kind", "part"]
theorem sc_is_form : FnScope N_is_form ["event", "name", "names"] (defScope (top 20)) := ⟨rfl, rfl, rfl, by decide +kernel, rfl, by decide +kernel, by decide +kernel⟩
def t_is_form (K : Frag) (W : WX) : TS := (tSeq (tIfS (tOr (tNot (tB (tCB (rIsi K) (tCons (tVar 0) (tCons (tC (.ty "tuple")) tNil))))) (tOr (tTest (tOp (rEqG K) (tCB (rLenG K) (tCons (tVar 0) tNil)) (tC (.int 0)))) (tOr (tNot (tB (tCB (rIsi K) (tCons (tOp (rIx K) (tVar 0) (tC (.int 0))) (tCons (tC (.ty "str")) tNil))))) (tTest (tOp (rKNi K "FORMS") (tOp (rIx K) (tVar 0) (tC (.int 0))) (tC (.ref (He.ga K "FORMS")))))))) (tRet (tC (.bl false))) tNext) (tSeq (tAsg (tOp (rKIx K "FORMS") (tC (.ref (He.ga K "FORMS"))) (tOp (rIx K) (tVar 0) (tC (.int 0)))) (gName 3)) (tSeq (tIfS (tTest (tOp (rNeG K) (tCB (rLenG K) (tCons (tVar 0) tNil)) (tOp (rAddG K) (tC (.int 1)) (tCB (rLenG K) (tCons (tVar 3) tNil))))) (tRet (tC (.bl false))) tNext) (tRet (tCB (rAll K) (tCons (tLc (RZ.iZipA K (tCons (tVar 3) (tCons (tSl (rSlG K) (tVar 0) (tPart (tC (.int 1))) tNoPart) tNil))) (gTup K 2 (gCons (gName 4) (gCons (gName 5) gNil))) tYes (tCallW (toSp K (sp_fits K)) (WE W0) (tCons (tVar 4) (tCons (tVar 5) (tCons (tVar 1) (tCons (tVar 2) tNil))))) [4, 5]) tNil))))))
abbrev DL_is_form (K : Frag) (sp : SpD) : Prop := ∀ ds γ q e E, loG γ.length γ = true → loL γ.length ds = true → sp ds γ q e → dS ⟨K, wOf E, fun _ => DrX γ.length e⟩ γ.length (t_is_form K (wOf E)) (ds.map some ++ List.replicate (6 - ds.length) none) γ { nx := fun _ γ' => Dr γ.length q .non γ', rt := Dr γ.length q }
def N_check_events : List Str := ["rows", "names", "name", "events", "number", "event"]
theorem sc_check_events : FnScope N_check_events ["rows"] (defScope (top 21)) := ⟨rfl, rfl, rfl, by decide +kernel, rfl, by decide +kernel, by decide +kernel⟩
def t_check_events (K : Frag) (W : WX) : TS := (tSeq (tAsg (tLc (iTup K (tVar 0)) (gTup K 2 (gCons (gName 2) (gCons (gName 3) gNil))) tYes (tVar 2) [2, 3]) (gName 1)) (tFor (iTup K (tVar 0)) (gTup K 2 (gCons (gName 2) (gCons (gName 3) gNil))) (tFor (iEnumF K (tCons (tVar 3) (tCons (tC (.int 1)) tNil))) (gTup K 2 (gCons (gName 4) (gCons (gName 5) gNil))) (tIfS (tNot (tB (tCallW (toSp K (sp_is_form K)) (WE W) (tCons (tVar 5) (tCons (tVar 2) (tCons (tVar 1) tNil)))))) (tRaise K W (He.ga K "BadRecord") (sp_frozen K) ["reason", "name", "number"] (tCons (tC (.str (S [101, 118, 101, 110, 116]))) (tCons (tVar 2) (tCons (tVar 4) tNil)))) tNext))))
abbrev DL_check_events (K : Frag) (sp : SpD) : Prop := ∀ ds γ q e E, loG γ.length γ = true → loL γ.length ds = true → sp ds γ q e → dS ⟨K, wOf E, fun _ => DrX γ.length e⟩ γ.length (t_check_events K (wOf E)) (ds.map some ++ List.replicate (6 - ds.length) none) γ { nx := fun _ γ' => Dr γ.length q .non γ', rt := Dr γ.length q }
def N_sends_of : List Str := ["rows", "found", "name", "events", "number", "event"]
theorem sc_sends_of : FnScope N_sends_of ["rows"] (defScope (top 22)) := ⟨rfl, rfl, rfl, by decide +kernel, rfl, by decide +kernel, by decide +kernel⟩
def t_sends_of (K : Frag) (W : WX) : TS := (tSeq (tAsg tDNewT (gName 1)) (tSeq (tFor (iTup K (tVar 0)) (gTup K 2 (gCons (gName 2) (gCons (gName 3) gNil))) (tFor (iEnumF K (tCons (tVar 3) (tCons (tC (.int 1)) tNil))) (gTup K 2 (gCons (gName 4) (gCons (gName 5) gNil))) (tIfS (tTest (tOp (rEqG K) (tOp (rIx K) (tVar 5) (tC (.int 0))) (tC (.str (S [115, 101, 110, 100]))))) (tDrop (tBM K "list" rAppend (tDSet (tVar 1) (tTup (tCons (tVar 2) (tCons (tOp (rIx K) (tVar 5) (tC (.int 1))) tNil))) (tLstM tNil)) (tCons (tTup (tCons (tVar 4) (tCons (tOp (rIx K) (tVar 5) (tC (.int 2))) tNil))) tNil))) tNext))) (tRet (tVar 1))))
abbrev DL_sends_of (K : Frag) (sp : SpD) : Prop := ∀ ds γ q e E, loG γ.length γ = true → loL γ.length ds = true → sp ds γ q e → dS ⟨K, wOf E, fun _ => DrX γ.length e⟩ γ.length (t_sends_of K (wOf E)) (ds.map some ++ List.replicate (6 - ds.length) none) γ { nx := fun _ γ' => Dr γ.length q .non γ', rt := Dr γ.length q }
def N_linked : List Str := ["rows", "sends", "links", "name", "events", "taken", "number", "event", "sender", "at", "channel"]
theorem sc_linked : FnScope N_linked ["rows"] (defScope (top 23)) := ⟨rfl, rfl, rfl, by decide +kernel, rfl, by decide +kernel, by decide +kernel⟩
def t_linked (K : Frag) (W : WX) : TS := (tSeq (tAsg (tCallW (toSp K (sp_sends_of K)) (WE W) (tCons (tVar 0) tNil)) (gName 1)) (tSeq (tAsg tDNewT (gName 2)) (tSeq (tFor (iTup K (tVar 0)) (gTup K 2 (gCons (gName 3) (gCons (gName 4) gNil))) (tSeq (tAsg tDNewK (gName 5)) (tFor (iEnumF K (tCons (tVar 4) (tCons (tC (.int 1)) tNil))) (gTup K 2 (gCons (gName 6) (gCons (gName 7) gNil))) (tIfS (tTest (tOp (rInG K) (tOp (rIx K) (tVar 7) (tC (.int 0))) (tC (.ref (He.ga K "RECEIVING"))))) (tSeq (tAsg (tOp (rIx K) (tVar 7) (tC (.int 1))) (gName 8)) (tSeq (tAsg (tDGet2 (tVar 5) (tVar 8) (tC (.int 0))) (gName 9)) (tSeq (sDPut (tVar 5) (tVar 8) (tOp (rAddG K) (tVar 9) (tC (.int 1)))) (tSeq (tAsg (tDGet2 (tVar 1) (tTup (tCons (tVar 8) (tCons (tVar 3) tNil))) (tLst tNil)) (gName 10)) (tSeq (tIfS (tOr (tTest (tOp rGeI (tVar 9) (tCB (rLenG K) (tCons (tVar 10) tNil)))) (tTest (tOp (rNeG K) (tOp (rIx K) (tOp (rIx K) (tVar 10) (tVar 9)) (tC (.int 1))) (tOp (rIx K) (tVar 7) (tC (.int 3)))))) (tRaise K W (He.ga K "BadRecord") (sp_frozen K) ["reason", "name", "number"] (tCons (tC (.str (S [109, 101, 115, 115, 97, 103, 101]))) (tCons (tVar 3) (tCons (tVar 6) tNil)))) tNext) (tSeq (sDPut (tVar 2) (tTup (tCons (tVar 8) (tCons (tOp (rIx K) (tOp (rIx K) (tVar 10) (tVar 9)) (tC (.int 0))) tNil))) (tTup (tCons (tVar 3) (tCons (tVar 6) tNil)))) (sDPut (tVar 2) (tTup (tCons (tVar 3) (tCons (tVar 6) tNil))) (tTup (tCons (tVar 8) (tCons (tOp (rIx K) (tOp (rIx K) (tVar 10) (tVar 9)) (tC (.int 0))) tNil)))))))))) tNext)))) (tRet (tVar 2)))))
abbrev DL_linked (K : Frag) (sp : SpD) : Prop := ∀ ds γ q e E, loG γ.length γ = true → loL γ.length ds = true → sp ds γ q e → dS ⟨K, wOf E, fun _ => DrX γ.length e⟩ γ.length (t_linked K (wOf E)) (ds.map some ++ List.replicate (11 - ds.length) none) γ { nx := fun _ γ' => Dr γ.length q .non γ', rt := Dr γ.length q }
def N_executable : List Str := ["rows", "links", "found", "places", "name", "events", "moved", "event"]
theorem sc_executable : FnScope N_executable ["rows", "links"] (defScope (top 24)) := ⟨rfl, rfl, rfl, by decide +kernel, rfl, by decide +kernel, by decide +kernel⟩
def t_executable (K : Frag) (W : WX) : TS := (tSeq (tAsg (tLstM tNil) (gName 2)) (tSeq (tAsg (tDcM (iTup K (tVar 0)) (gTup K 2 (gCons (gName 4) (gCons (gName 5) gNil))) tYes (tVar 4) (tC (.int 0)) [4, 5]) (gName 3)) (tSeq (tAsg (tC (.bl true)) (gName 6)) (tSeq (tWhile (tB (tVar 6)) (tSeq (tAsg (tC (.bl false)) (gName 6)) (tFor (iTup K (tVar 0)) (gTup K 2 (gCons (gName 4) (gCons (gName 5) gNil))) (tWhile (tTest (tOp rLtI (tDGet (tVar 3) (tVar 4)) (tCB (rLenG K) (tCons (tVar 5) tNil)))) (tSeq (tAsg (tTup (tCons (tVar 4) (tCons (tOp (rAddG K) (tDGet (tVar 3) (tVar 4)) (tC (.int 1))) tNil))) (gName 7)) (tSeq (tIfS (tAnd (tTest (tOp (rInG K) (tOp (rIx K) (tOp (rIx K) (tVar 5) (tDGet (tVar 3) (tVar 4))) (tC (.int 0))) (tC (.ref (He.ga K "RECEIVING"))))) (tTest (tOp rGtI (tOp (rIx K) (tDGet (tVar 1) (tVar 7)) (tC (.int 1))) (tDGet (tVar 3) (tOp (rIx K) (tDGet (tVar 1) (tVar 7)) (tC (.int 0))))))) tBreak tNext) (tSeq (sDAug (tVar 3) (tVar 4) (tC (.int 1)) (rI0 (fun i j => .int (i + j)))) (tSeq (tDrop (tBM K "list" rAppend (tVar 2) (tCons (tVar 7) tNil))) (tAsg (tC (.bl true)) (gName 6)))))))))) (tRet (tVar 2))))))
abbrev DL_executable (K : Frag) (sp : SpD) : Prop := ∀ ds γ q e E, loG γ.length γ = true → loL γ.length ds = true → sp ds γ q e → dS ⟨K, wOf E, fun _ => DrX γ.length e⟩ γ.length (t_executable K (wOf E)) (ds.map some ++ List.replicate (8 - ds.length) none) γ { nx := fun _ γ' => Dr γ.length q .non γ', rt := Dr γ.length q }
def N_Record_init : List Str := ["self", "rows", "row", "name", "events", "done", "event"]
theorem sc_Record_init : FnScope N_Record_init ["self", "rows"] (defScope (inClass (top 25) 0)) := ⟨rfl, rfl, rfl, by decide +kernel, rfl, by decide +kernel, by decide +kernel⟩
def t_Record_init (K : Frag) (W : WX) : TS := (tSeq (sFld K (tVar 0) (tCB (rTupleOf K) (tCons (tLc (iAny K (tVar 1)) (gName 2) tYes (tCallW (toSp K (sp_frozen K)) (WE W0) (tCons (tVar 2) tNil)) [2]) tNil)) "rows") (tSeq (tDrop (tCallW (toSp K (sp_check_rows K)) (WE W) (tCons (tFld K (tVar 0) "rows") tNil))) (tSeq (tDrop (tCallW (toSp K (sp_check_events K)) (WE W) (tCons (tFld K (tVar 0) "rows") tNil))) (tSeq (sFld K (tVar 0) (tDc (iTup K (tFld K (tVar 0) "rows")) (gTup K 2 (gCons (gName 3) (gCons (gName 4) gNil))) tYes (tVar 3) (tVar 4) [3, 4]) "table") (tSeq (sFld K (tVar 0) (tCallW (toSp K (sp_linked K)) (WE W) (tCons (tFld K (tVar 0) "rows") tNil)) "links") (tSeq (sFld K (tVar 0) (tCallW (toSp K (sp_executable K)) (WE W) (tCons (tFld K (tVar 0) "rows") (tCons (tFld K (tVar 0) "links") tNil))) "sequence") (tFor (iTup K (tFld K (tVar 0) "rows")) (gTup K 2 (gCons (gName 3) (gCons (gName 4) gNil))) (tSeq (tAsg (tCB (rLenG K) (tCons (tLc (iList K (tFld K (tVar 0) "sequence")) (gName 6) (tTest (tOp (rEqG K) (tOp (rIx K) (tVar 6) (tC (.int 0))) (tVar 3))) (tVar 6) [6]) tNil)) (gName 5)) (tIfS (tTest (tOp rLtI (tVar 5) (tCB (rLenG K) (tCons (tVar 4) tNil)))) (tRaise K W (He.ga K "BadRecord") (sp_frozen K) ["reason", "name", "number"] (tCons (tC (.str (S [111, 114, 100, 101, 114]))) (tCons (tVar 3) (tCons (tOp (rAddG K) (tVar 5) (tC (.int 1))) tNil)))) tNext)))))))))
abbrev DL_Record_init (K : Frag) (sp : SpD) : Prop := ∀ ds γ q e E, loG γ.length γ = true → loL γ.length ds = true → sp ds γ q e → dS ⟨K, wOf E, fun _ => DrX γ.length e⟩ γ.length (t_Record_init K (wOf E)) (ds.map some ++ List.replicate (7 - ds.length) none) γ { nx := fun _ γ' => Dr γ.length q .non γ', rt := Dr γ.length q }
def N_L_draw : List Str := ["_law_stream", "_law_many", "_law_digit", "_law_mixed"]
theorem sc_L_draw : FnScope N_L_draw ["_law_stream", "_law_many"] (defScope (top 27)) := ⟨rfl, rfl, rfl, by decide +kernel, rfl, by decide +kernel, by decide +kernel⟩
def t_L_draw (K : Frag) (W : WX) : TS := (tSeq (tAsg (tOp (rAddG K) (tOp (rIx K) (tVar 0) (tC (.int 2))) (tC (.int 1))) (gSub (tVar 0) (tC (.int 2)) rSetL)) (tSeq (tIfS (tAnd (tTest (tOp (rEqG K) (tOp (rIx K) (tVar 0) (tC (.int 1))) (tC (.int 0)))) (tTest (tOp (rNeG K) (tOp (rIx K) (tVar 0) (tC (.int 0))) (tLst tNil)))) (tSeq (tAsg (tBM K "list" rPopAt (tOp (rIx K) (tVar 0) (tC (.int 0))) (tCons (tC (.int 0)) tNil)) (gSub (tVar 0) (tC (.int 1)) rSetL)) (tIfS (tTest (tOp rLtI (tOp (rIx K) (tVar 0) (tC (.int 1))) (tOp rPow (tC (.int 10)) (tC (.int 18))))) (tSeq (tAsg (tOp rMod (tOp (rAddG K) (tOp (rAddG K) (tOp (rMulG K) (tOp (rIx K) (tVar 0) (tC (.int 3))) (tC (.int 31))) (tOp (rIx K) (tVar 0) (tC (.int 1)))) (tC (.int 7))) (tC (.int 2147483647))) (gSub (tVar 0) (tC (.int 3)) rSetL)) (tAsg (tC (.int 0)) (gSub (tVar 0) (tC (.int 1)) rSetL))) tNext)) tNext) (tSeq (tIfS (tTest (tOp rGtI (tOp (rIx K) (tVar 0) (tC (.int 1))) (tC (.int 0)))) (tSeq (tAsg (tOp rMod (tOp (rIx K) (tVar 0) (tC (.int 1))) (tVar 1)) (gName 2)) (tSeq (tAsg (tOp rFdiv (tOp (rIx K) (tVar 0) (tC (.int 1))) (tVar 1)) (gSub (tVar 0) (tC (.int 1)) rSetL)) (tRet (tVar 2)))) tNext) (tSeq (tAsg (tOp rMod (tOp rPow (tOp (rAddG K) (tOp (rAddG K) (tOp (rIx K) (tVar 0) (tC (.int 3))) (tOp (rMulG K) (tC (.int 104729)) (tOp (rIx K) (tVar 0) (tC (.int 2))))) (tC (.int 17))) (tC (.int 5))) (tC (.int 2147483629))) (gName 3)) (tRet (tOp rMod (tOp rMod (tOp rPow (tOp (rAddG K) (tOp (rAddG K) (tOp (rMulG K) (tVar 3) (tC (.int 48271))) (tOp (rMulG K) (tOp (rMulG K) (tC (.int 40503)) (tOp (rIx K) (tVar 0) (tC (.int 2)))) (tOp (rIx K) (tVar 0) (tC (.int 2))))) (tC (.int 13))) (tC (.int 3))) (tC (.int 1000000007))) (tVar 1)))))))
abbrev DL_L_draw (K : Frag) (sp : SpD) : Prop := ∀ ds γ q e E, loG γ.length γ = true → loL γ.length ds = true → sp ds γ q e → dS ⟨K, wOf E, fun _ => DrX γ.length e⟩ γ.length (t_L_draw K (wOf E)) (ds.map some ++ List.replicate (4 - ds.length) none) γ { nx := fun _ γ' => Dr γ.length q .non γ', rt := Dr γ.length q }
def N_L_value : List Str := ["_law_stream", "_law_way"]
theorem sc_L_value : FnScope N_L_value ["_law_stream"] (defScope (top 28)) := ⟨rfl, rfl, rfl, by decide +kernel, rfl, by decide +kernel, by decide +kernel⟩
def t_L_value (K : Frag) (W : WX) : TS := (tSeq (tAsg (tCallW (toSp K (sp_L_draw K)) (WE W) (tCons (tVar 0) (tCons (tC (.int 8)) tNil))) (gName 1)) (tSeq (tIfS (tTest (tOp rLtI (tVar 1) (tC (.int 6)))) (tRet (tOp rSubD (tCallW (toSp K (sp_L_draw K)) (WE W) (tCons (tVar 0) (tCons (tC (.int 5)) tNil))) (tC (.int 2)))) tNext) (tRet (tOp (rIx K) (tLst (tCons (tOp rSubD (tOp rPow (tC (.int 10)) (tC (.int 30))) (tC (.int 1))) (tCons (tOp rSubD (tC (.int 1)) (tOp rPow (tC (.int 10)) (tC (.int 30)))) (tCons (tC (.int 17)) (tCons (tC (.int 1000)) tNil))))) (tCallW (toSp K (sp_L_draw K)) (WE W) (tCons (tVar 0) (tCons (tC (.int 4)) tNil)))))))
abbrev DL_L_value (K : Frag) (sp : SpD) : Prop := ∀ ds γ q e E, loG γ.length γ = true → loL γ.length ds = true → sp ds γ q e → dS ⟨K, wOf E, fun _ => DrX γ.length e⟩ γ.length (t_L_value K (wOf E)) (ds.map some ++ List.replicate (2 - ds.length) none) γ { nx := fun _ γ' => Dr γ.length q .non γ', rt := Dr γ.length q }
def N_L_event : List Str := ["_law_stream", "_law_names", "_law_at", "_law_queues", "_law_name", "_law_way", "_law_value_here", "_law_variable", "_law_full", "_law_other", "_law_one"]
theorem sc_L_event : FnScope N_L_event ["_law_stream", "_law_names", "_law_at", "_law_queues"] (defScope (top 29)) := ⟨rfl, rfl, rfl, by decide +kernel, rfl, by decide +kernel, by decide +kernel⟩
def t_L_event (K : Frag) (W : WX) : TS := (tSeq (tAsg (tOp (rIx K) (tVar 1) (tVar 2)) (gName 4)) (tSeq (tAsg (tCallW (toSp K (sp_L_draw K)) (WE W) (tCons (tVar 0) (tCons (tC (.int 8)) tNil))) (gName 5)) (tSeq (tAsg (tCallW (toSp K (sp_L_value K)) (WE W) (tCons (tVar 0) tNil)) (gName 6)) (tSeq (tAsg (tOp (rIx K) (tLst (tCons (tC (.str (S [120]))) (tCons (tC (.str (S [121]))) tNil))) (tCallW (toSp K (sp_L_draw K)) (WE W) (tCons (tVar 0) (tCons (tC (.int 2)) tNil)))) (gName 7)) (tSeq (tAsg (tLc (iList K (tVar 1)) (gName 9) (tTest (tOp (rNeG K) (tDGet2 (tVar 3) (tTup (tCons (tVar 9) (tCons (tVar 4) tNil))) (tLst tNil)) (tLst tNil))) (tVar 9) [9]) (gName 8)) (tSeq (tIfS (tAnd (tTest (tOp rLtI (tVar 5) (tC (.int 3)))) (tTest (tOp rGtI (tCB (rLenG K) (tCons (tVar 1) tNil)) (tC (.int 1))))) (tSeq (tAsg (tOp (rIx K) (tLc (iList K (tVar 1)) (gName 10) (tTest (tOp (rNeG K) (tVar 10) (tVar 4))) (tVar 10) [10]) (tCallW (toSp K (sp_L_draw K)) (WE W) (tCons (tVar 0) (tCons (tOp rSubD (tCB (rLenG K) (tCons (tVar 1) tNil)) (tC (.int 1))) tNil)))) (gName 9)) (tSeq (sDPut (tVar 3) (tTup (tCons (tVar 4) (tCons (tVar 9) tNil))) (tOp (rAddG K) (tDGet2 (tVar 3) (tTup (tCons (tVar 4) (tCons (tVar 9) tNil))) (tLst tNil)) (tLst (tCons (tVar 6) tNil)))) (tRet (tTup (tCons (tC (.str (S [115, 101, 110, 100]))) (tCons (tVar 9) (tCons (tVar 6) tNil))))))) tNext) (tSeq (tIfS (tAnd (tTest (tOp rLtI (tVar 5) (tC (.int 6)))) (tTest (tOp (rNeG K) (tVar 8) (tLst tNil)))) (tSeq (tAsg (tOp (rIx K) (tVar 8) (tCallW (toSp K (sp_L_draw K)) (WE W) (tCons (tVar 0) (tCons (tCB (rLenG K) (tCons (tVar 8) tNil)) tNil)))) (gName 9)) (tSeq (tAsg (tOp (rIx K) (tDGet (tVar 3) (tTup (tCons (tVar 9) (tCons (tVar 4) tNil)))) (tC (.int 0))) (gName 6)) (tSeq (sDPut (tVar 3) (tTup (tCons (tVar 9) (tCons (tVar 4) tNil))) (tSl (rSlG K) (tDGet (tVar 3) (tTup (tCons (tVar 9) (tCons (tVar 4) tNil)))) (tPart (tC (.int 1))) tNoPart)) (tRet (tTup (tCons (tOp (rIx K) (tLst (tCons (tC (.str (S [114, 101, 99, 101, 105, 118, 101]))) (tCons (tC (.str (S [116, 97, 107, 101]))) tNil))) (tCallW (toSp K (sp_L_draw K)) (WE W) (tCons (tVar 0) (tCons (tC (.int 2)) tNil)))) (tCons (tVar 9) (tCons (tVar 7) (tCons (tVar 6) tNil))))))))) tNext) (tSeq (tIfS (tTest (tOp (rEqG K) (tVar 5) (tC (.int 6)))) (tRet (tTup (tCons (tC (.str (S [99, 104, 101, 99, 107, 112, 111, 105, 110, 116]))) tNil))) tNext) (tRet (tTup (tCons (tOp (rIx K) (tLst (tCons (tC (.str (S [115, 101, 116]))) (tCons (tC (.str (S [105, 110, 112, 117, 116]))) tNil))) (tCallW (toSp K (sp_L_draw K)) (WE W) (tCons (tVar 0) (tCons (tC (.int 2)) tNil)))) (tCons (tVar 7) (tCons (tVar 6) tNil)))))))))))))
abbrev DL_L_event (K : Frag) (sp : SpD) : Prop := ∀ ds γ q e E, loG γ.length γ = true → loL γ.length ds = true → sp ds γ q e → dS ⟨K, wOf E, fun _ => DrX γ.length e⟩ γ.length (t_L_event K (wOf E)) (ds.map some ++ List.replicate (11 - ds.length) none) γ { nx := fun _ γ' => Dr γ.length q .non γ', rt := Dr γ.length q }
def N_L_rows : List Str := ["_law_stream", "_law_names", "_law_many", "_law_rows_here", "_law_name", "_law_queues", "_law_turn", "_law_at", "_law_event_here", "_law_events"]
theorem sc_L_rows : FnScope N_L_rows ["_law_stream", "_law_names", "_law_many"] (defScope (top 30)) := ⟨rfl, rfl, rfl, by decide +kernel, rfl, by decide +kernel, by decide +kernel⟩
def t_L_rows (K : Frag) (W : WX) : TS := (tSeq (tAsg (tLc (iList K (tVar 1)) (gName 4) tYes (tTup (tCons (tVar 4) (tCons (tLstM tNil) tNil))) [4]) (gName 3)) (tSeq (tAsg tDNewT (gName 5)) (tSeq (tFor (iRng1 (tCons (tVar 2) tNil)) (gName 6) (tSeq (tAsg (tCallW (toSp K (sp_L_draw K)) (WE W) (tCons (tVar 0) (tCons (tCB (rLenG K) (tCons (tVar 1) tNil)) tNil))) (gName 7)) (tSeq (tAsg (tCallW (toSp K (sp_L_event K)) (WE W) (tCons (tVar 0) (tCons (tVar 1) (tCons (tVar 7) (tCons (tVar 5) tNil))))) (gName 8)) (tDrop (tBM K "list" rAppend (tOp (rIx K) (tOp (rIx K) (tVar 3) (tVar 7)) (tC (.int 1))) (tCons (tVar 8) tNil)))))) (tRet (tLc (iList K (tVar 3)) (gTup K 2 (gCons (gName 4) (gCons (gName 9) gNil))) tYes (tTup (tCons (tVar 4) (tCons (tCB (rTupleOf K) (tCons (tVar 9) tNil)) tNil))) [4, 9])))))
abbrev DL_L_rows (K : Frag) (sp : SpD) : Prop := ∀ ds γ q e E, loG γ.length γ = true → loL γ.length ds = true → sp ds γ q e → dS ⟨K, wOf E, fun _ => DrX γ.length e⟩ γ.length (t_L_rows K (wOf E)) (ds.map some ++ List.replicate (10 - ds.length) none) γ { nx := fun _ γ' => Dr γ.length q .non γ', rt := Dr γ.length q }
def N_L_word : List Str := ["_law_stream", "_law_letters", "_law_word_here", "_law_k", "_law_some"]
theorem sc_L_word : FnScope N_L_word ["_law_stream"] (defScope (top 31)) := ⟨rfl, rfl, rfl, by decide +kernel, rfl, by decide +kernel, by decide +kernel⟩
def t_L_word (K : Frag) (W : WX) : TS := (tSeq (tAsg (tC (.str (S [97, 98, 99, 100, 101, 102, 103, 104, 105, 106, 107, 108, 109, 110, 111, 112, 113, 114, 115, 116, 117, 118, 119, 120, 121, 122]))) (gName 1)) (tSeq (tAsg (tOp (rIx K) (tVar 1) (tCallW (toSp K (sp_L_draw K)) (WE W) (tCons (tVar 0) (tCons (tC (.int 26)) tNil)))) (gName 2)) (tSeq (tFor (iRng1 (tCons (tOp (rIx K) (tLst (tCons (tC (.int 0)) (tCons (tC (.int 0)) (tCons (tC (.int 1)) (tCons (tC (.int 2)) (tCons (tC (.int 7)) tNil)))))) (tCallW (toSp K (sp_L_draw K)) (WE W) (tCons (tVar 0) (tCons (tC (.int 5)) tNil)))) tNil)) (gName 3) (tAsg (tOp (rAddG K) (tVar 2) (tOp (rIx K) (tVar 1) (tCallW (toSp K (sp_L_draw K)) (WE W) (tCons (tVar 0) (tCons (tC (.int 26)) tNil))))) (gName 2))) (tSeq (tAsg (tTup (tCons (tC (.str (S [97, 110, 100]))) (tCons (tC (.str (S [101, 108, 115, 101]))) (tCons (tC (.str (S [101, 110, 100]))) (tCons (tC (.str (S [105, 102]))) (tCons (tC (.str (S [105, 110, 112, 117, 116]))) (tCons (tC (.str (S [109, 111, 100]))) (tCons (tC (.str (S [110, 111, 116]))) (tCons (tC (.str (S [111, 114]))) (tCons (tC (.str (S [112, 114, 111, 99, 101, 115, 115]))) (tCons (tC (.str (S [114, 101, 99, 101, 105, 118, 101]))) (tCons (tC (.str (S [115, 101, 110, 100]))) (tCons (tC (.str (S [115, 101, 116]))) (tCons (tC (.str (S [116, 97, 107, 101]))) tNil)))))))))))))) (gName 4)) (tRet (tIf (tOr (tTest (tOp (rInG K) (tVar 2) (tVar 4))) (tTest (tOp (rEqG K) (tVar 2) (tC (.str (S [119, 104, 105, 108, 101])))))) (tOp (rAddG K) (tVar 2) (tC (.str (S [113])))) (tVar 2)))))))
abbrev DL_L_word (K : Frag) (sp : SpD) : Prop := ∀ ds γ q e E, loG γ.length γ = true → loL γ.length ds = true → sp ds γ q e → dS ⟨K, wOf E, fun _ => DrX γ.length e⟩ γ.length (t_L_word K (wOf E)) (ds.map some ++ List.replicate (5 - ds.length) none) γ { nx := fun _ γ' => Dr γ.length q .non γ', rt := Dr γ.length q }
def N_L_words : List Str := ["_law_stream", "_law_many", "_law_letters", "_law_spare", "_law_j", "_law_found", "_law_k", "_law_word_here", "_law_one"]
theorem sc_L_words : FnScope N_L_words ["_law_stream", "_law_many"] (defScope (top 32)) := ⟨rfl, rfl, rfl, by decide +kernel, rfl, by decide +kernel, by decide +kernel⟩
def t_L_words (K : Frag) (W : WX) : TS := (tSeq (tAsg (tC (.str (S [97, 98, 99, 100, 101, 102, 103, 104, 105, 106, 107, 108, 109, 110, 111, 112, 113, 114, 115, 116, 117, 118, 119, 120, 121, 122]))) (gName 2)) (tSeq (tAsg (tLc (iRng1 (tCons (tC (.int 41)) tNil)) (gName 4) tYes (tOp (rAddG K) (tOp (rAddG K) (tOp (rIx K) (tVar 2) (tOp rMod (tVar 4) (tC (.int 26)))) (tOp (rIx K) (tVar 2) (tOp rFdiv (tVar 4) (tC (.int 26))))) (tC (.str (S [122])))) [4]) (gName 3)) (tSeq (tAsg (tLstM tNil) (gName 5)) (tSeq (tFor (iRng1 (tCons (tVar 1) tNil)) (gName 6) (tSeq (tAsg (tCallW (toSp K (sp_L_word K)) (WE W) (tCons (tVar 0) tNil)) (gName 7)) (tDrop (tBM K "list" rAppend (tVar 5) (tCons (tIf (tTest (tOp (rInG K) (tVar 7) (tVar 5))) (tOp (rIx K) (tLc (iList K (tVar 3)) (gName 8) (tTest (tOp (rNiG K) (tVar 8) (tVar 5))) (tVar 8) [8]) (tC (.int 0))) (tVar 7)) tNil))))) (tRet (tVar 5))))))
abbrev DL_L_words (K : Frag) (sp : SpD) : Prop := ∀ ds γ q e E, loG γ.length γ = true → loL γ.length ds = true → sp ds γ q e → dS ⟨K, wOf E, fun _ => DrX γ.length e⟩ γ.length (t_L_words K (wOf E)) (ds.map some ++ List.replicate (9 - ds.length) none) γ { nx := fun _ γ' => Dr γ.length q .non γ', rt := Dr γ.length q }
def N_L_same : List Str := ["_law_found", "_law_due", "_law_a", "_law_b"]
theorem sc_L_same : FnScope N_L_same ["_law_found", "_law_due"] (defScope (top 33)) := ⟨rfl, rfl, rfl, by decide +kernel, rfl, by decide +kernel, by decide +kernel⟩
def t_L_same (K : Frag) (s_L_same : SpD) (W : WX) : TS := (tSeq (tIfS (tB (tCB (rIsiT K) (tCons (tVar 1) (tCons (tTup (tCons (tC (.ty "list")) (tCons (tC (.ty "tuple")) tNil))) tNil)))) (tSeq (tIfS (tOr (tTest (tOp (rNeG K) (tCB (rIsi K) (tCons (tVar 0) (tCons (tC (.ty "list")) tNil))) (tCB (rIsi K) (tCons (tVar 1) (tCons (tC (.ty "list")) tNil))))) (tTest (tOp (rNeG K) (tCB (rIsi K) (tCons (tVar 0) (tCons (tC (.ty "tuple")) tNil))) (tCB (rIsi K) (tCons (tVar 1) (tCons (tC (.ty "tuple")) tNil)))))) (tRet (tC (.bl false))) tNext) (tRet (tAndV (tOp (rEqG K) (tCB (rLenG K) (tCons (tVar 0) tNil)) (tCB (rLenG K) (tCons (tVar 1) tNil))) (tCB (rAll K) (tCons (tLc (RZ.iZipA K (tCons (tVar 0) (tCons (tVar 1) tNil))) (gTup K 2 (gCons (gName 2) (gCons (gName 3) gNil))) tYes (tCallW (toSp K s_L_same) (WE W0) (tCons (tVar 2) (tCons (tVar 3) tNil))) [2, 3]) tNil))))) tNext) (tSeq (tIfS (tB (tCB (rIsi K) (tCons (tVar 1) (tCons (tC (.ty "int")) tNil)))) (tRet (tAndV (tCB (rIsi K) (tCons (tVar 0) (tCons (tC (.ty "int")) tNil))) (tAndV (tOp (rEqG K) (tCB (rIsi K) (tCons (tVar 0) (tCons (tC (.ty "bool")) tNil))) (tCB (rIsi K) (tCons (tVar 1) (tCons (tC (.ty "bool")) tNil)))) (tOp (rEqG K) (tVar 0) (tVar 1))))) tNext) (tRet (tAndV (tNotV (tCB (rIsi K) (tCons (tVar 0) (tCons (tC (.ty "int")) tNil)))) (tOp (rEqG K) (tVar 0) (tVar 1))))))
abbrev DL_L_same (K : Frag) (s_L_same : SpD) (sp : SpD) : Prop := ∀ ds γ q e E, loG γ.length γ = true → loL γ.length ds = true → sp ds γ q e → dS ⟨K, wOf E, fun _ => DrX γ.length e⟩ γ.length (t_L_same K s_L_same (wOf E)) (ds.map some ++ List.replicate (4 - ds.length) none) γ { nx := fun _ γ' => Dr γ.length q .non γ', rt := Dr γ.length q }
def N_L_lists_of : List Str := ["_law_thing", "_law_part"]
theorem sc_L_lists_of : FnScope N_L_lists_of ["_law_thing"] (defScope (top 34)) := ⟨rfl, rfl, rfl, by decide +kernel, rfl, by decide +kernel, by decide +kernel⟩
def t_L_lists_of (K : Frag) (s_L_lists_of : SpD) (W : WX) : TS := (tSeq (tIfS (tB (tCB (rIsiT K) (tCons (tVar 0) (tCons (tTup (tCons (tC (.ty "list")) (tCons (tC (.ty "tuple")) tNil))) tNil)))) (tRet (tLc (iAny K (tVar 0)) (gName 1) tYes (tCallW (toSp K s_L_lists_of) (WE W0) (tCons (tVar 1) tNil)) [1])) tNext) (tRet (tVar 0)))
abbrev DL_L_lists_of (K : Frag) (s_L_lists_of : SpD) (sp : SpD) : Prop := ∀ ds γ q e E, loG γ.length γ = true → loL γ.length ds = true → sp ds γ q e → dS ⟨K, wOf E, fun _ => DrX γ.length e⟩ γ.length (t_L_lists_of K s_L_lists_of (wOf E)) (ds.map some ++ List.replicate (2 - ds.length) none) γ { nx := fun _ γ' => Dr γ.length q .non γ', rt := Dr γ.length q }
def N_L_bad_record : List Str := ["_law_rows_here", "_law_found", "e"]
theorem sc_L_bad_record : FnScope N_L_bad_record ["_law_rows_here"] (defScope (top 35)) := ⟨rfl, rfl, rfl, by decide +kernel, rfl, by decide +kernel, by decide +kernel⟩
def t_L_bad_record (K : Frag) (W : WX) : TS := (tSeq (tAsg (tC .non) (gName 1)) (tSeq (tTryAs K W (.ref (He.ga K "BadRecord")) 2 (fun W' => (tDrop (tMakeW (He.ga K "Record") (toSp K (sp_Record_init K)) (WE W') (tCons (tVar 0) tNil)))) (fun a cls d => (tSeq (tAsg (tLst (tCons (tXfG K a cls d "reason" (tVar 2)) (tCons (tXfG K a cls d "name" (tVar 2)) (tCons (tXfG K a cls d "number" (tVar 2)) tNil)))) (gName 1)) (tIfS (tOr (tNot (tB (tCB (rIsG K a cls d) (tCons (tVar 2) (tCons (tC (.ref (He.ga K "RerunError"))) tNil))))) (tOr (tNot (tB (tCB (rIsG K a cls d) (tCons (tVar 2) (tCons (tC (.ty "ValueError")) tNil))))) (tB (tCB (rIsG K a cls d) (tCons (tVar 2) (tCons (tC (.ref (He.ga K "BadEvent"))) tNil)))))) (tAsg (tLst (tCons (tC (.bl false)) tNil)) (gName 1)) tNext)))) (tRet (tVar 1))))
abbrev DL_L_bad_record (K : Frag) (sp : SpD) : Prop := ∀ ds γ q e E, loG γ.length γ = true → loL γ.length ds = true → sp ds γ q e → dS ⟨K, wOf E, fun _ => DrX γ.length e⟩ γ.length (t_L_bad_record K (wOf E)) (ds.map some ++ List.replicate (3 - ds.length) none) γ { nx := fun _ γ' => Dr γ.length q .non γ', rt := Dr γ.length q }
def N_L_first_message : List Str := ["_law_rows_here", "_law_sent", "_law_name", "_law_events", "_law_event_here", "_law_k", "_law_other", "_law_many", "_law_one"]
theorem sc_L_first_message : FnScope N_L_first_message ["_law_rows_here"] (defScope (top 36)) := ⟨rfl, rfl, rfl, by decide +kernel, rfl, by decide +kernel, by decide +kernel⟩
def t_L_first_message (K : Frag) (W : WX) : TS := (tSeq (tAsg tDNewT (gName 1)) (tSeq (tFor (iList K (tVar 0)) (gTup K 2 (gCons (gName 2) (gCons (gName 3) gNil))) (tFor (iTup K (tVar 3)) (gName 4) (tIfS (tTest (tOp (rEqG K) (tOp (rIx K) (tVar 4) (tC (.int 0))) (tC (.str (S [115, 101, 110, 100]))))) (sDPut (tVar 1) (tTup (tCons (tVar 2) (tCons (tOp (rIx K) (tVar 4) (tC (.int 1))) tNil))) (tOp (rAddA K) (tDGet2 (tVar 1) (tTup (tCons (tVar 2) (tCons (tOp (rIx K) (tVar 4) (tC (.int 1))) tNil))) (tLst tNil)) (tLst (tCons (tOp (rIx K) (tVar 4) (tC (.int 2))) tNil)))) tNext))) (tSeq (tFor (iList K (tVar 0)) (gTup K 2 (gCons (gName 2) (gCons (gName 3) gNil))) (tFor (iRng1 (tCons (tCB (rLenG K) (tCons (tVar 3) tNil)) tNil)) (gName 5) (tIfS (tTest (tOp (rInG K) (tOp (rIx K) (tOp (rIx K) (tVar 3) (tVar 5)) (tC (.int 0))) (tTup (tCons (tC (.str (S [114, 101, 99, 101, 105, 118, 101]))) (tCons (tC (.str (S [116, 97, 107, 101]))) tNil))))) (tSeq (tAsg (tOp (rIx K) (tOp (rIx K) (tVar 3) (tVar 5)) (tC (.int 1))) (gName 6)) (tSeq (tAsg (tCB (rLenG K) (tCons (tLc (iTup K (tSl (rSlU K) (tVar 3) tNoPart (tPart (tVar 5)))) (gName 8) (tAnd (tTest (tOp (rInG K) (tOp (rIx K) (tVar 8) (tC (.int 0))) (tTup (tCons (tC (.str (S [114, 101, 99, 101, 105, 118, 101]))) (tCons (tC (.str (S [116, 97, 107, 101]))) tNil))))) (tTest (tOp (rEqG K) (tOp (rIx K) (tVar 8) (tC (.int 1))) (tVar 6)))) (tVar 8) [8]) tNil)) (gName 7)) (tIfS (tTest (tOp (rNeG K) (tSl (rSlU K) (tDGet2 (tVar 1) (tTup (tCons (tVar 6) (tCons (tVar 2) tNil))) (tLst tNil)) (tPart (tVar 7)) (tPart (tOp (rAddA K) (tVar 7) (tC (.int 1))))) (tLst (tCons (tOp (rIx K) (tOp (rIx K) (tVar 3) (tVar 5)) (tC (.int 3))) tNil)))) (tRet (tLst (tCons (tC (.str (S [109, 101, 115, 115, 97, 103, 101]))) (tCons (tVar 2) (tCons (tOp (rAddA K) (tVar 5) (tC (.int 1))) tNil))))) tNext))) tNext))) (tRet (tC .non)))))
abbrev DL_L_first_message (K : Frag) (sp : SpD) : Prop := ∀ ds γ q e E, loG γ.length γ = true → loL γ.length ds = true → sp ds γ q e → dS ⟨K, wOf E, fun _ => DrX γ.length e⟩ γ.length (t_L_first_message K (wOf E)) (ds.map some ++ List.replicate (9 - ds.length) none) γ { nx := fun _ γ' => Dr γ.length q .non γ', rt := Dr γ.length q }
def N_L_moved : List Str := ["_law_stream", "_law_events", "_law_name", "_law_names", "_law_at", "_law_other", "_law_event_here", "_law_way", "_law_found", "_law_some", "_law_one"]
theorem sc_L_moved : FnScope N_L_moved ["_law_stream", "_law_events", "_law_name", "_law_names"] (defScope (top 37)) := ⟨rfl, rfl, rfl, by decide +kernel, rfl, by decide +kernel, by decide +kernel⟩
def t_L_moved (K : Frag) (W : WX) : TS := (tSeq (tPar 4 5 (tCons (tCallW (toSp K (sp_L_draw K)) (WE W) (tCons (tVar 0) (tCons (tCB (rLenG K) (tCons (tVar 1) tNil)) tNil))) (tCons (tCallW (toSp K (sp_L_draw K)) (WE W) (tCons (tVar 0) (tCons (tCB (rLenG K) (tCons (tVar 1) tNil)) tNil))) tNil))) (tSeq (tAsg (tOp (rIx K) (tVar 1) (tVar 4)) (gName 6)) (tSeq (tAsg (tCallW (toSp K (sp_L_draw K)) (WE W) (tCons (tVar 0) (tCons (tC (.int 6)) tNil))) (gName 7)) (tSeq (tIfS (tTest (tOp (rEqG K) (tVar 7) (tC (.int 0)))) (tRet (tOp (rAddA K) (tSl (rSlU K) (tVar 1) tNoPart (tPart (tVar 4))) (tSl (rSlU K) (tVar 1) (tPart (tOp (rAddA K) (tVar 4) (tC (.int 1)))) tNoPart))) tNext) (tSeq (tIfS (tTest (tOp (rEqG K) (tVar 7) (tC (.int 1)))) (tSeq (tAsg (tCB (rListOf K) (tCons (tVar 1) tNil)) (gName 8)) (tSeq (tAsg (tTup (tCons (tOp (rIx K) (tVar 8) (tVar 5)) (tCons (tOp (rIx K) (tVar 8) (tVar 4)) tNil))) (gTup K 2 (gCons (gSub (tVar 8) (tVar 4) rSetL) (gCons (gSub (tVar 8) (tVar 5) rSetL) gNil)))) (tRet (tCB (rTupleOf K) (tCons (tVar 8) tNil))))) tNext) (tSeq (tIfS (tAnd (tTest (tOp (rEqG K) (tVar 7) (tC (.int 2)))) (tTest (tOp rLtI (tOp (rAddA K) (tVar 4) (tC (.int 1))) (tCB (rLenG K) (tCons (tVar 1) tNil))))) (tRet (tOp (rAddA K) (tOp (rAddA K) (tSl (rSlU K) (tVar 1) tNoPart (tPart (tVar 4))) (tTup (tCons (tOp (rIx K) (tVar 1) (tOp (rAddA K) (tVar 4) (tC (.int 1)))) (tCons (tVar 6) tNil)))) (tSl (rSlU K) (tVar 1) (tPart (tOp (rAddA K) (tVar 4) (tC (.int 2)))) tNoPart))) tNext) (tSeq (tIfS (tAnd (tTest (tOp rLtI (tVar 7) (tC (.int 5)))) (tTest (tOp (rInG K) (tOp (rIx K) (tVar 6) (tC (.int 0))) (tTup (tCons (tC (.str (S [115, 101, 110, 100]))) (tCons (tC (.str (S [114, 101, 99, 101, 105, 118, 101]))) (tCons (tC (.str (S [116, 97, 107, 101]))) tNil))))))) (tAsg (tOp (rAddA K) (tSl (rSlU K) (tVar 6) tNoPart (tPart (tUn rNeg (tC (.int 1))))) (tTup (tCons (tOp (rIx K) (tLst (tCons (tOp (rAddA K) (tOp (rIx K) (tVar 6) (tUn rNeg (tC (.int 1)))) (tC (.int 1))) (tCons (tC (.int 0)) (tCons (tUn rNeg (tOp (rIx K) (tVar 6) (tUn rNeg (tC (.int 1))))) (tCons (tC (.int 17)) tNil))))) (tCallW (toSp K (sp_L_draw K)) (WE W) (tCons (tVar 0) (tCons (tC (.int 4)) tNil)))) tNil))) (gName 6)) (tIfS (tTest (tOp (rInG K) (tOp (rIx K) (tVar 6) (tC (.int 0))) (tTup (tCons (tC (.str (S [115, 101, 110, 100]))) (tCons (tC (.str (S [114, 101, 99, 101, 105, 118, 101]))) (tCons (tC (.str (S [116, 97, 107, 101]))) tNil)))))) (tSeq (tAsg (tLc (iList K (tVar 3)) (gName 10) (tTest (tOp (rNeG K) (tVar 10) (tVar 2))) (tVar 10) [10]) (gName 9)) (tAsg (tOp (rAddA K) (tTup (tCons (tOp (rIx K) (tVar 6) (tC (.int 0))) (tCons (tOp (rIx K) (tVar 9) (tCallW (toSp K (sp_L_draw K)) (WE W) (tCons (tVar 0) (tCons (tCB (rLenG K) (tCons (tVar 9) tNil)) tNil)))) tNil))) (tSl (rSlU K) (tVar 6) (tPart (tC (.int 2))) tNoPart)) (gName 6))) tNext)) (tSeq (tIfS (tTest (tOp rGeI (tCB rAbs (tCons (tIf (tB (tCB (rIsi K) (tCons (tOp (rIx K) (tVar 6) (tUn rNeg (tC (.int 1)))) (tCons (tC (.ty "int")) tNil)))) (tOp (rIx K) (tVar 6) (tUn rNeg (tC (.int 1)))) (tC (.int 0))) tNil)) (tOp rPow (tC (.int 10)) (tC (.int 30))))) (tAsg (tOp (rIx K) (tVar 1) (tVar 4)) (gName 6)) tNext) (tRet (tOp (rAddA K) (tOp (rAddA K) (tSl (rSlU K) (tVar 1) tNoPart (tPart (tVar 4))) (tTup (tCons (tVar 6) tNil))) (tSl (rSlU K) (tVar 1) (tPart (tOp (rAddA K) (tVar 4) (tC (.int 1)))) tNoPart)))))))))))
abbrev DL_L_moved (K : Frag) (sp : SpD) : Prop := ∀ ds γ q e E, loG γ.length γ = true → loL γ.length ds = true → sp ds γ q e → dS ⟨K, wOf E, fun _ => DrX γ.length e⟩ γ.length (t_L_moved K (wOf E)) (ds.map some ++ List.replicate (11 - ds.length) none) γ { nx := fun _ γ' => Dr γ.length q .non γ', rt := Dr γ.length q }
def N_law : List Str := ["_law_script", "_law_stream", "_law_names", "_law_rows_here", "_law_turn", "_law_at", "_law_name", "_law_events", "_law_due", "_law_handed", "_law_found"]
theorem sc_law : FnScope N_law ["_law_script"] (defScope (top 38)) := ⟨rfl, rfl, rfl, by decide +kernel, rfl, by decide +kernel, by decide +kernel⟩
def t_law (K : Frag) (W : WX) : TS := (tSeq (tAsg (tCallW (toSp K (sp_L_words K)) (WE W) (tCons (tVar 1) (tCons (tOp (rAddA K) (tC (.int 2)) (tCallW (toSp K (sp_L_draw K)) (WE W) (tCons (tVar 1) (tCons (tC (.int 4)) tNil)))) tNil))) (gName 2)) (tSeq (tAsg (tCallW (toSp K (sp_L_rows K)) (WE W) (tCons (tVar 1) (tCons (tVar 2) (tCons (tOp (rAddA K) (tC (.int 2)) (tCallW (toSp K (sp_L_draw K)) (WE W) (tCons (tVar 1) (tCons (tC (.int 39)) tNil)))) tNil)))) (gName 3)) (tSeq (tFor (iRng1 (tCons (tCallW (toSp K (sp_L_draw K)) (WE W) (tCons (tVar 1) (tCons (tC (.int 3)) tNil))) tNil)) (gName 4) (tSeq (tAsg (tCallW (toSp K (sp_L_draw K)) (WE W) (tCons (tVar 1) (tCons (tCB (rLenG K) (tCons (tVar 3) tNil)) tNil))) (gName 5)) (tSeq (tAsg (tOp (rIx K) (tVar 3) (tVar 5)) (gTup K 2 (gCons (gName 6) (gCons (gName 7) gNil)))) (tIfS (tTest (tOp rGtI (tCB (rLenG K) (tCons (tVar 7) tNil)) (tC (.int 0)))) (tAsg (tOp (rAddA K) (tOp (rAddA K) (tSl (rSlU K) (tVar 3) tNoPart (tPart (tVar 5))) (tLst (tCons (tTup (tCons (tVar 6) (tCons (tCallW (toSp K (sp_L_moved K)) (WE W) (tCons (tVar 1) (tCons (tVar 7) (tCons (tVar 6) (tCons (tVar 2) tNil))))) tNil))) tNil))) (tSl (rSlU K) (tVar 3) (tPart (tOp (rAddA K) (tVar 5) (tC (.int 1)))) tNoPart)) (gName 3)) tNext)))) (tSeq (tAsg (tCallW (toSp K (sp_L_first_message K)) (WE W) (tCons (tVar 3) tNil)) (gName 8)) (tSeq (tFor (iTup K (tTup (tCons (tVar 3) (tCons (tCallW (toSp K (sp_L_lists_of K)) (WE W) (tCons (tVar 3) tNil)) tNil)))) (gName 9) (tSeq (tAsg (tCallW (toSp K (sp_L_bad_record K)) (WE W) (tCons (tVar 9) tNil)) (gName 10)) (tSeq (tIfS (tAnd (tTest (tOp rNotN' (tVar 8) (tC .non))) (tNot (tB (tCallW (toSp K (sp_L_same K)) (WE W) (tCons (tVar 10) (tCons (tVar 8) tNil)))))) (tRet (tC (.bl false))) tNext) (tIfS (tAnd (tTest (tOp rIsN' (tVar 8) (tC .non))) (tAnd (tTest (tOp rNotN' (tVar 10) (tC .non))) (tTest (tOp (rNeG K) (tOp (rIx K) (tVar 10) (tC (.int 0))) (tC (.str (S [111, 114, 100, 101, 114]))))))) (tRet (tC (.bl false))) tNext)))) (tRet (tC (.bl true))))))))
abbrev DL_law (K : Frag) : Prop := dLaw K N_law (t_law K)
end K31

set_option Elab.async false
set_option linter.all false
set_option maxRecDepth 100000
set_option maxHeartbeats 4000000
namespace K31
open PySem PySem.Spec PyProof.Rows L2 DL
local macro_rules | `(tactic| walk_at "GO") => `(tactic| repeat' (first | with_reducible refine xs_seq ?_ | with_reducible refine xs_set ?_ | with_reducible refine xs_asg ?_ | with_reducible refine xs_if ?_ | with_reducible refine xs_ret ?_ | with_reducible refine xs_next ?_ | with_reducible refine xs_expr ?_ | with_reducible refine xs_fld ?_ | with_reducible refine xs_par ?_ | with_reducible refine xs_retN ?_ | with_reducible refine xs_brk ?_ | with_reducible refine xp_nil ?_ | with_reducible refine xp_cons ?_ | with_reducible refine xe_disp ?_ | with_reducible refine xe_dispM ?_ | with_reducible refine xs_cont ?_ | with_reducible refine da_nil ?_ | with_reducible refine da_cons ?_ | with_reducible refine de_int ?_ | with_reducible refine de_str ?_ | with_reducible refine de_bl ?_ | with_reducible refine de_non ?_ | with_reducible refine de_ty ?_ | ((with_reducible refine xe_var ?_); refine ⟨_, rfl, ?_⟩) | with_reducible refine de_op ?_ | with_reducible refine de_un ?_ | with_reducible refine de_call ?_ | with_reducible refine de_cb ?_ | with_reducible refine de_sl ?_ | with_reducible refine do_none ?_ | with_reducible refine do_some ?_ | with_reducible refine de_if ?_ | with_reducible refine de_andV ?_ | with_reducible refine de_orV ?_ | with_reducible refine de_notV ?_ | with_reducible refine de_chain ?_ | with_reducible refine dt_test ?_ | with_reducible refine dt_B ?_ | with_reducible refine dt_and ?_ | with_reducible refine dt_or ?_ | with_reducible refine dt_not ?_ | (with_reducible refine xe_tup ?_) | (with_reducible refine xe_lst ?_) | (with_reducible refine xe_lstM ?_) | with_reducible refine q_RESERVED (by assumption) ?_ | (with_reducible refine de_meth ?_) | with_reducible refine xs_dput ?_ | with_reducible refine xs_daug ?_ | with_reducible refine de_dget ?_ | with_reducible refine de_dgt1 ?_ | with_reducible refine de_dgt2 ?_ | with_reducible refine de_din ?_ | with_reducible refine de_dnotin ?_ | with_reducible refine de_dnewK ?_ | with_reducible refine de_dnewT ?_ | with_reducible refine de_revL ?_ | (with_reducible refine de_bm ?_) | (with_reducible refine de_bm0 ?_) | (with_reducible refine ⟨isTy_str, ?_⟩) | (with_reducible refine ⟨xty_lst ⟨_, rfl⟩, ?_⟩) | with_reducible refine radd_int ?_ | with_reducible refine radd_S ?_ ?_ | with_reducible refine rsub_int ?_ | with_reducible refine req_int ?_ | with_reducible refine rne_int ?_ | with_reducible refine req_S ?_ | with_reducible refine rne_S ?_ | with_reducible refine rlt_int ?_ | with_reducible refine rle_int ?_ | with_reducible refine rgt_int ?_ | with_reducible refine rge_int ?_ | with_reducible refine rneg_int ?_ | with_reducible refine rin_sgn ?_ | with_reducible refine rni_sgn ?_ | with_reducible refine rc_len_S ?_ ?_ | with_reducible refine rc_int_bl ?_ | with_reducible refine rc_str_int ?_ ?_ | with_reducible refine rc_str_str ?_ | with_reducible refine rc_max2 ?_ | with_reducible refine rc_abs ?_ | with_reducible refine req_bl ?_ | with_reducible refine rne_bl ?_ | with_reducible refine rltg_i ?_ | with_reducible refine rleg_i ?_ | with_reducible refine rgtg_i ?_ | with_reducible refine rgeg_i ?_ | with_reducible refine rltg_b ?_ | with_reducible refine rleg_b ?_ | with_reducible refine rgtg_b ?_ | with_reducible refine rgeg_b ?_ | with_reducible refine rist ?_ | with_reducible refine rntt ?_ | with_reducible refine dt_truth ?_ | ((with_reducible refine xc_isi ?_); refine ⟨_, true, rfl, rfl, ?_⟩) | ((with_reducible refine xc_isi ?_); refine ⟨_, false, rfl, rfl, ?_⟩) | with_reducible refine di_str ?_ | with_reducible refine di_list ?_ | with_reducible refine di_tup ?_ | with_reducible refine di_rng1 ?_ | with_reducible refine di_rng2 ?_ | with_reducible refine ift ?_ | with_reducible refine iff_ ?_ | with_reducible refine ifnt ?_ | with_reducible refine ifnf ?_ | with_reducible refine rin_strs sq_c ?_ | with_reducible refine rni_strs sq_c ?_ | with_reducible refine rin_strs sq_t ?_ | with_reducible refine rni_strs sq_t ?_ | with_reducible refine rin_strs sq_l ?_ | with_reducible refine rni_strs sq_l ?_ | with_reducible refine rin_strs (sq_v rfl) ?_ | with_reducible refine rni_strs (sq_v rfl) ?_ | ((with_reducible refine rin_seq sq_c ?_ ?_ ?_); rfl; rfl) | ((with_reducible refine rin_seq sq_t ?_ ?_ ?_); rfl; rfl) | ((with_reducible refine rin_seq sq_l ?_ ?_ ?_); rfl; rfl) | ((with_reducible refine rin_seq (sq_v rfl) ?_ ?_ ?_); rfl; rfl) | ((with_reducible refine rni_seq sq_c ?_ ?_ ?_); rfl; rfl) | ((with_reducible refine rni_seq sq_t ?_ ?_ ?_); rfl; rfl) | ((with_reducible refine rni_seq sq_l ?_ ?_ ?_); rfl; rfl) | ((with_reducible refine rni_seq (sq_v rfl) ?_ ?_ ?_); rfl; rfl) | (with_reducible refine xix_tup ?_) | ((with_reducible refine xc_len ?_); refine ⟨_, sq_c, ?_⟩) | ((with_reducible refine xc_len ?_); refine ⟨_, sq_t, ?_⟩) | ((with_reducible refine xc_len ?_); refine ⟨_, sq_l, ?_⟩) | ((with_reducible refine xc_len ?_); refine ⟨_, (sq_v rfl), ?_⟩) | (with_reducible refine rm_count ?_) | (with_reducible refine ⟨_, rfl, ?_⟩) | (with_reducible refine ⟨_, .inl rfl, ?_⟩) | (with_reducible refine ⟨_, .inr rfl, ?_⟩) | (with_reducible refine ⟨_, _, rfl, ?_⟩) | ((with_reducible refine xix_lst ?_); refine ⟨_, rfl, _, rfl, ?_⟩) | ((with_reducible refine xadd_lst ?_); refine ⟨_, rfl, _, rfl, ?_, ?_⟩) | with_reducible refine rmul_int ?_ ?_ | with_reducible refine rmod_int ?_ ?_ | with_reducible refine rfdiv_int ?_ ?_ | with_reducible refine rpow_int ?_ ?_ | with_reducible refine xg_setL ?_ | refine ⟨_, _, _, _, rfl, rfl, rfl, rfl, ?_⟩ | with_reducible refine xg_name ?_ | with_reducible refine xg_tup rfl ?_ | with_reducible refine xgs_name ?_ | with_reducible refine xgs_nil ?_ | (with_reducible refine ⟨Nat.le_of_ble_eq_true rfl, ?_⟩) | (with_reducible refine ifdT (by decide) ?_) | (with_reducible refine ifdF (by decide) ?_) | (with_reducible refine ifnT (by decide) ?_) | (with_reducible refine ifnF (by decide) ?_) | (with_reducible refine ifbT (by decide) ?_) | (with_reducible refine ifbF (by decide) ?_) | fail))
section
variable {P : Program} {mg : Str → Option Value}
theorem at_h0 {x : D} {xs : List D} : atI (x :: xs) 0 = some x := at_nat (j := 0) rfl
theorem at_h1 {x y : D} {xs : List D} : atI (x :: y :: xs) 1 = some y := at_nat (j := 1) rfl
theorem at_h2 {x y z : D} {xs : List D} : atI (x :: y :: z :: xs) 2 = some z := at_nat (j := 2) rfl
theorem at_h3 {x y z w : D} {xs : List D} : atI (x :: y :: z :: w :: xs) 3 = some w := at_nat (j := 3) rfl
theorem any_flat {d : D} (n : Nat) : d.any n = true → d.fz = d ∨ (∃ ds, d = .tup ds) ∨ ∃ ds, d = .lst ds := by
  intro h
  cases d <;> first | exact .inl rfl | exact .inr (.inl ⟨_, rfl⟩) | exact .inr (.inr ⟨_, rfl⟩)
theorem anyL_mem : ∀ {n : Nat} {ds : List D}, anyL (n + 1) ds = true → ∀ d ∈ ds, d.any n = true
  | n, [], _, d, h => by cases h
  | n, x :: xs, h, d, hd => by
    unfold anyL at h
    rw [Bool.and_eq_true] at h
    rcases List.mem_cons.mp hd with rfl | hd
    · exact h.1
    · exact anyL_mem h.2 d hd
theorem fzL_map : ∀ ds : List D, fzL ds = ds.map D.fz
  | [] => by unfold fzL; rfl
  | d :: ds => by
    unfold fzL
    rw [fzL_map ds]; rfl
theorem dl_frozen {K : Frag} (T : Tx K mg) (s : SpD) (n : Nat) (hrec : ∀ n', n = n' + 1 → ∀ ds γ q e, spFz K n' ds γ q e → s ds γ q e) : DL_frozen K s (spFz K n) := by
  rintro ds γ q e E0 lo1 lo2 ⟨d, rfl, ha, hq⟩
  refine dS_env (ρ' := [some d, none]) rfl ?_
  have seq : ∀ xs : List D, anyL n xs = true → xs.length ≤ 1000000 → d.fz = .tup (xs.map D.fz) → (d = .lst xs ∨ d = .tup xs) → tyName γ d = some "tuple" ∨ tyName γ d = some "list" → dS ⟨K, wOf E0, fun _ => DrX γ.length e⟩ γ.length (t_frozen K s (wOf E0)) [some d, none] γ ⟨fun _ γ' => Dr γ.length q .non γ', Dr γ.length q, fun _ _ => False, fun _ _ => False⟩ := by
    intro xs hxs hl hz hx ht
    unfold t_frozen
    have hb : ∃ T b, tyName γ d = some T ∧ PySem.W.kitAny K (.type T) (["tuple", "list"].map Value.type) = some b ∧ b = true := by
      rcases ht with ht | ht
      · exact ⟨_, _, ht, rfl, rfl⟩
      · exact ⟨_, _, ht, rfl, rfl⟩
    walk_at "GO"
    refine xc_isiT (ns := ["tuple", "list"]) ?_
    obtain ⟨T, b, h1, h2, rfl⟩ := hb
    refine ⟨T, _, h1, h2, ?_⟩
    walk_at "GO"
    refine xe_lcN xs id D.fz (by simp) ?_
    refine di_any rfl (hx.elim .inl fun h => .inr (.inl h)) ?_
    refine ⟨by simp, hl, fun x hm => ?_, ?_⟩
    · walk_at "GO"
      cases n with
      | zero =>
        cases xs with
        | nil => cases hm
        | cons a r => cases hxs
      | succ n => exact hrec n rfl _ _ _ _ ⟨x, rfl, anyL_mem hxs x hm, rfl, rfl⟩
    · walk_at "GO"
      refine rc_tuple (.inl rfl) ?_
      rw [← hz]
      exact .inl hq
  have oth : d.fz = d → (∃ T, tyName γ d = some T ∧ PySem.W.kitAny K (.type T) (["tuple", "list"].map Value.type) = some false) → dS ⟨K, wOf E0, fun _ => DrX γ.length e⟩ γ.length (t_frozen K s (wOf E0)) [some d, none] γ ⟨fun _ γ' => Dr γ.length q .non γ', Dr γ.length q, fun _ _ => False, fun _ _ => False⟩ := by
    rintro hz ⟨T, h1, h2⟩
    unfold t_frozen
    walk_at "GO"
    refine xc_isiT (ns := ["tuple", "list"]) ⟨T, _, h1, h2, ?_⟩
    walk_at "GO"
    rw [hz] at hq
    exact .inl hq
  cases d with
  | tup ds =>
    unfold D.any at ha
    rw [Bool.and_eq_true] at ha
    exact seq ds ha.2 (of_decide_eq_true ha.1) (by unfold D.fz; rw [fzL_map]) (.inr rfl) (.inl rfl)
  | lst ds =>
    unfold D.any at ha
    rw [Bool.and_eq_true] at ha
    exact seq ds ha.2 (of_decide_eq_true ha.1) (by unfold D.fz; rw [fzL_map]) (.inl rfl) (.inr rfl)
  | non => exact oth rfl ⟨_, rfl, rfl⟩
  | bl b => exact oth rfl ⟨_, rfl, rfl⟩
  | int b => exact oth rfl ⟨_, rfl, rfl⟩
  | str b => exact oth rfl ⟨_, rfl, rfl⟩
  | _ => cases ha
theorem natabs_big {z : Int} : (z.natAbs : Int) < BIG ↔ z.natAbs < BIG.natAbs := by
  have : (BIG : Int) = ((BIG.natAbs : Nat) : Int) := rfl
  omega

theorem oks_cases {n : Nat} {d : D} (h : d.oks n = true) : d = .non ∨ (∃ b, d = .bl b) ∨ (∃ i : Int, d = .int i ∧ i.natAbs < 2 ^ 200) ∨ (∃ l : List Nat, d = .str (S l) ∧ l.length ≤ 10000 ∧ PyData.strOk (S l) = true) ∨ (∃ ds, d = .tup ds ∧ ds.length ≤ 10000 ∧ oksL n ds = true) ∨ (∃ ds, d = .lst ds ∧ ds.length ≤ 10000 ∧ oksL n ds = true) := by
  cases d with
  | non => exact .inl rfl
  | bl b => exact .inr (.inl ⟨b, rfl⟩)
  | int i => exact .inr (.inr (.inl ⟨i, rfl, of_decide_eq_true h⟩))
  | str x =>
    unfold D.oks at h
    rw [Bool.and_eq_true] at h
    have e := S_of x
    refine .inr (.inr (.inr (.inl ⟨x.cps.toList, by rw [e], ?_, by rw [e]; exact h.2⟩)))
    have := of_decide_eq_true h.1
    rwa [← e, S_len] at this
  | tup ds =>
    unfold D.oks at h
    rw [Bool.and_eq_true] at h
    exact .inr (.inr (.inr (.inr (.inl ⟨ds, rfl, of_decide_eq_true h.1, h.2⟩))))
  | lst ds =>
    unfold D.oks at h
    rw [Bool.and_eq_true] at h
    exact .inr (.inr (.inr (.inr (.inr ⟨ds, rfl, of_decide_eq_true h.1, h.2⟩))))
  | _ => cases h
theorem dl_is_integer {K : Frag} (T : Tx K mg) : DL_is_integer K (sp_is_integer K) := by
  rintro ds γ q e E0 lo1 lo2 ⟨d, rfl, ho, hq⟩
  refine dS_env (ρ' := [some d]) rfl ?_
  unfold t_is_integer
  rcases oks_cases ho with rfl | ⟨b, rfl⟩ | ⟨i, rfl, _⟩ | ⟨l, rfl, _⟩ | ⟨xs, rfl, _⟩ | ⟨xs, rfl, _⟩
  all_goals
    walk_at "GO"
    exact .inl hq
theorem dl_is_small {K : Frag} (T : Tx K mg) : DL_is_small K (sp_is_small K) := by
  rintro ds γ q e E0 lo1 lo2 ⟨d, rfl, ho, hq⟩
  refine dS_env (ρ' := [some d]) rfl ?_
  unfold t_is_small
  have hB : BIG.natAbs = 1000000000000000000000000000000 := rfl
  walk_at "GO"
  refine ⟨d, rfl, ho, ?_⟩
  rcases oks_cases ho with rfl | ⟨b, rfl⟩ | ⟨i, rfl, _⟩ | ⟨l, rfl, _⟩ | ⟨xs, rfl, _⟩ | ⟨xs, rfl, _⟩
  case inr.inr.inl =>
    refine ⟨_, rfl, ift ?_⟩
    walk_at "GO"
    · exact ⟨by decide, by decide, by decide⟩
    have hb : decide ((i.natAbs : Int) < 10 ^ Int.toNat 30) = isSmallD (.int i) := by
      have e1 : (10 : Int) ^ Int.toNat 30 = 1000000000000000000000000000000 := by decide +kernel
      rw [e1]
      unfold isSmallD
      apply decide_eq_decide.mpr
      rw [hB]
      omega
    rw [hb]
    exact .inl hq
  all_goals
    refine ⟨_, rfl, iff_ ?_⟩
    exact .inl hq
theorem resv : RESERVED_L = RESV := rfl
theorem dl_is_name {K : Frag} (T : Tx K mg) : DL_is_name K (sp_is_name K) := by
  rintro ds γ q e E0 lo1 lo2 ⟨d, rfl, ho, hq⟩
  refine dS_env (ρ' := [some d, none]) rfl ?_
  unfold t_is_name
  rcases oks_cases ho with rfl | ⟨b, rfl⟩ | ⟨i, rfl, _⟩ | ⟨l, rfl, hl, _⟩ | ⟨xs, rfl, _⟩ | ⟨xs, rfl, _⟩
  case inr.inr.inr.inl =>
    have hq : q (.bl (isName l)) γ := by
      have : isNameD (.str (S l)) = isName l := by show isName (S l).cps.toList = _; rw [S_l]
      rw [← this]; exact hq
    walk_at "GO"
    · omega
    refine ifd (fun c1 => ?_) (fun c1 => ?_)
    · walk_at "GO"
      refine ifnd (fun c2 => ?_) (fun c2 => ?_)
      · walk_at "GO"
        have : isName l = false := by simp [isName]; omega
        exact .inl (this ▸ hq)
      · walk_at "GO"
        refine ifd (fun c3 => ?_) (fun c3 => ?_)
        · walk_at "GO"
          have : isName l = false := by rw [resv] at c3; simp [isName, c3]
          exact .inl (this ▸ hq)
        · walk_at "GO"
          refine xe_lcN l (fun c => .str (S [c])) (fun c => .bl (decide (c ∈ LET))) (by simp) ?_
          walk_at "GO"
          refine ⟨chrsD_S, by omega, fun c hc => ?_, ?_⟩
          · walk_at "GO"
            exact ⟨rfl, rfl⟩
          · rw [map_bl]
            walk_at "GO"
            refine rc_all rfl ?_
            have : ((l.map fun c => decide (c ∈ LET)).all id) = isName l := by
              rw [resv] at c3
              rw [List.all_map]
              have c1' : 1 ≤ l.length := by omega
              have c2' : l.length ≤ 8 := by omega
              simp [isName, c3, c1', c2']
            rw [this]
            exact .inl hq
    · walk_at "GO"
      have : isName l = false := by simp [isName]; omega
      exact .inl (this ▸ hq)
  all_goals
    walk_at "GO"
    exact .inl hq
end
end K31

set_option Elab.async false
set_option linter.all false
set_option maxRecDepth 100000
set_option maxHeartbeats 4000000
namespace K31
open PySem PySem.Spec PyProof.Rows L2 DL
local macro_rules | `(tactic| walk_at "GO") => `(tactic| repeat' (first | with_reducible refine xs_seq ?_ | with_reducible refine xs_set ?_ | with_reducible refine xs_asg ?_ | with_reducible refine xs_if ?_ | with_reducible refine xs_ret ?_ | with_reducible refine xs_next ?_ | with_reducible refine xs_expr ?_ | with_reducible refine xs_fld ?_ | with_reducible refine xs_par ?_ | with_reducible refine xs_retN ?_ | with_reducible refine xs_brk ?_ | with_reducible refine xp_nil ?_ | with_reducible refine xp_cons ?_ | with_reducible refine xe_disp ?_ | with_reducible refine xe_dispM ?_ | with_reducible refine xs_cont ?_ | with_reducible refine da_nil ?_ | with_reducible refine da_cons ?_ | with_reducible refine de_int ?_ | with_reducible refine de_str ?_ | with_reducible refine de_bl ?_ | with_reducible refine de_non ?_ | with_reducible refine de_ty ?_ | ((with_reducible refine xe_var ?_); refine ⟨_, rfl, ?_⟩) | with_reducible refine de_op ?_ | with_reducible refine de_un ?_ | with_reducible refine de_call ?_ | with_reducible refine de_cb ?_ | with_reducible refine de_sl ?_ | with_reducible refine do_none ?_ | with_reducible refine do_some ?_ | with_reducible refine de_if ?_ | with_reducible refine de_andV ?_ | with_reducible refine de_orV ?_ | with_reducible refine de_notV ?_ | with_reducible refine de_chain ?_ | with_reducible refine dt_test ?_ | with_reducible refine dt_B ?_ | with_reducible refine dt_and ?_ | with_reducible refine dt_or ?_ | with_reducible refine dt_not ?_ | (with_reducible refine xe_tup ?_) | (with_reducible refine xe_lst ?_) | (with_reducible refine xe_lstM ?_) | (with_reducible refine de_meth ?_) | with_reducible refine xs_dput ?_ | with_reducible refine xs_daug ?_ | with_reducible refine de_dget ?_ | with_reducible refine de_dgt1 ?_ | with_reducible refine de_dgt2 ?_ | with_reducible refine de_din ?_ | with_reducible refine de_dnotin ?_ | with_reducible refine de_dnewK ?_ | with_reducible refine de_dnewT ?_ | with_reducible refine de_revL ?_ | (with_reducible refine de_bm ?_) | (with_reducible refine de_bm0 ?_) | (with_reducible refine ⟨isTy_str, ?_⟩) | (with_reducible refine ⟨xty_lst ⟨_, rfl⟩, ?_⟩) | (with_reducible refine ⟨xty_lst ⟨_, vw_loc at_0⟩, ?_⟩) | (with_reducible refine rm_append at_0 ?_ ?_) | (with_reducible refine rm_pop at_0 ?_) | (with_reducible refine rc_len (.inl (vw_loc at_0)) ?_) | (with_reducible refine ⟨xty_lst ⟨_, vw_loc at_1⟩, ?_⟩) | (with_reducible refine rm_append at_1 ?_ ?_) | (with_reducible refine rm_pop at_1 ?_) | (with_reducible refine rc_len (.inl (vw_loc at_1)) ?_) | (with_reducible refine ⟨xty_lst ⟨_, vw_loc at_2⟩, ?_⟩) | (with_reducible refine rm_append at_2 ?_ ?_) | (with_reducible refine rm_pop at_2 ?_) | (with_reducible refine rc_len (.inl (vw_loc at_2)) ?_) | with_reducible refine radd_int ?_ | with_reducible refine radd_S ?_ ?_ | with_reducible refine rsub_int ?_ | with_reducible refine req_int ?_ | with_reducible refine rne_int ?_ | with_reducible refine req_S ?_ | with_reducible refine rne_S ?_ | with_reducible refine rlt_int ?_ | with_reducible refine rle_int ?_ | with_reducible refine rgt_int ?_ | with_reducible refine rge_int ?_ | with_reducible refine rneg_int ?_ | with_reducible refine rin_sgn ?_ | with_reducible refine rni_sgn ?_ | with_reducible refine rc_len_S ?_ ?_ | with_reducible refine rc_int_bl ?_ | with_reducible refine rc_str_int ?_ ?_ | with_reducible refine rc_str_str ?_ | with_reducible refine rc_max2 ?_ | with_reducible refine rc_abs ?_ | with_reducible refine req_bl ?_ | with_reducible refine rne_bl ?_ | with_reducible refine rltg_i ?_ | with_reducible refine rleg_i ?_ | with_reducible refine rgtg_i ?_ | with_reducible refine rgeg_i ?_ | with_reducible refine rltg_b ?_ | with_reducible refine rleg_b ?_ | with_reducible refine rgtg_b ?_ | with_reducible refine rgeg_b ?_ | with_reducible refine rist ?_ | with_reducible refine rntt ?_ | with_reducible refine dt_truth ?_ | ((with_reducible refine xc_isi ?_); refine ⟨_, true, rfl, rfl, ?_⟩) | ((with_reducible refine xc_isi ?_); refine ⟨_, false, rfl, rfl, ?_⟩) | with_reducible refine di_str ?_ | with_reducible refine di_list ?_ | with_reducible refine di_tup ?_ | with_reducible refine di_rng1 ?_ | with_reducible refine di_rng2 ?_ | with_reducible refine ift ?_ | with_reducible refine iff_ ?_ | with_reducible refine ifnt ?_ | with_reducible refine ifnf ?_ | with_reducible refine rin_strs sq_c ?_ | with_reducible refine rni_strs sq_c ?_ | with_reducible refine rin_strs sq_t ?_ | with_reducible refine rni_strs sq_t ?_ | with_reducible refine rin_strs sq_l ?_ | with_reducible refine rni_strs sq_l ?_ | with_reducible refine rin_strs (sq_v rfl) ?_ | with_reducible refine rni_strs (sq_v rfl) ?_ | ((with_reducible refine rin_seq sq_c ?_ ?_ ?_); rfl; rfl) | ((with_reducible refine rin_seq sq_t ?_ ?_ ?_); rfl; rfl) | ((with_reducible refine rin_seq sq_l ?_ ?_ ?_); rfl; rfl) | ((with_reducible refine rin_seq (sq_v rfl) ?_ ?_ ?_); rfl; rfl) | ((with_reducible refine rni_seq sq_c ?_ ?_ ?_); rfl; rfl) | ((with_reducible refine rni_seq sq_t ?_ ?_ ?_); rfl; rfl) | ((with_reducible refine rni_seq sq_l ?_ ?_ ?_); rfl; rfl) | ((with_reducible refine rni_seq (sq_v rfl) ?_ ?_ ?_); rfl; rfl) | (with_reducible refine xix_tup ?_) | ((with_reducible refine xc_len ?_); refine ⟨_, sq_c, ?_⟩) | ((with_reducible refine xc_len ?_); refine ⟨_, sq_t, ?_⟩) | ((with_reducible refine xc_len ?_); refine ⟨_, sq_l, ?_⟩) | ((with_reducible refine xc_len ?_); refine ⟨_, (sq_v rfl), ?_⟩) | (with_reducible refine rm_count ?_) | (with_reducible refine ⟨_, rfl, ?_⟩) | (with_reducible refine ⟨_, at_h0, ?_⟩) | (with_reducible refine ⟨_, at_h1, ?_⟩) | (with_reducible refine ⟨_, at_h2, ?_⟩) | (with_reducible refine ⟨_, at_h3, ?_⟩) | (with_reducible refine ⟨_, .inl rfl, ?_⟩) | (with_reducible refine ⟨_, .inr rfl, ?_⟩) | (with_reducible refine ⟨_, _, rfl, ?_⟩) | ((with_reducible refine xix_lst ?_); refine ⟨_, rfl, _, rfl, ?_⟩) | ((with_reducible refine xadd_lst ?_); refine ⟨_, rfl, _, rfl, ?_, ?_⟩) | with_reducible refine rmul_int ?_ ?_ | with_reducible refine rmod_int ?_ ?_ | with_reducible refine rfdiv_int ?_ ?_ | with_reducible refine rpow_int ?_ ?_ | with_reducible refine xg_setL ?_ | refine ⟨_, _, _, _, rfl, rfl, rfl, rfl, ?_⟩ | with_reducible refine xg_name ?_ | with_reducible refine xg_tup rfl ?_ | with_reducible refine xgs_name ?_ | with_reducible refine xgs_nil ?_ | (with_reducible refine ⟨Nat.le_of_ble_eq_true rfl, ?_⟩) | (with_reducible refine ifdT (by decide) ?_) | (with_reducible refine ifdF (by decide) ?_) | (with_reducible refine ifnT (by decide) ?_) | (with_reducible refine ifnF (by decide) ?_) | (with_reducible refine ifbT (by decide) ?_) | (with_reducible refine ifbF (by decide) ?_) | fail))
section
variable {P : Program} {mg : Str → Option Value}
theorem dr_keep {γ rest : Ga} {q : QD} {d : D} (lo1 : loG γ.length γ = true) (h : d.lo γ.length = true) (hq : q d γ) : Dr γ.length q d (γ ++ rest) := .inr ⟨d, γ, rest, rfl, Nat.le_refl _, lo1, .keep h, hq⟩
theorem dr_lst {γ rest : Ga} {q : QD} {xs : List D} (lo1 : loG γ.length γ = true) (h : loL γ.length xs = true) (hq : q (.lst xs) γ) : Dr γ.length q (.loc γ.length) (γ ++ .lst xs :: rest) :=
  .inr ⟨.lst xs, γ, .lst xs :: rest, rfl, Nat.le_refl _, lo1, .lst (Nat.le_refl _) at_0 (FzL.keep h), hq⟩
theorem loL_map {A : Type} {m : Nat} {f : A → D} (h : ∀ x, (f x).lo m = true) : ∀ xs : List A, loL m (xs.map f) = true
  | [] => rfl
  | x :: xs => by
    show ((f x).lo m && loL m (xs.map f)) = true
    rw [h x, loL_map h xs]; rfl
theorem drx_keep {γ rest : Ga} {e : XD} {C : Addr} {ns : List Str} {ds : List D} (lo1 : loG γ.length γ = true) (hl : loL γ.length ds = true) (he : e C ns ds γ) : DrX γ.length e C ns ds (γ ++ rest) := .inr ⟨γ, rest, rfl, Nat.le_refl _, lo1, hl, he⟩
theorem frz1_int {K : Frag} {γ : Ga} {i : Int} : Frz1 (sp_frozen K) γ (.int i) (.int i) := ⟨_, rfl, rfl, rfl, rfl⟩
theorem frz1_str {K : Frag} {γ : Ga} {i : Str} : Frz1 (sp_frozen K) γ (.str i) (.str i) := ⟨_, rfl, rfl, rfl, rfl⟩
theorem frz1_non {K : Frag} {γ : Ga} : Frz1 (sp_frozen K) γ .non .non := ⟨_, rfl, rfl, rfl, rfl⟩
theorem dgs_two {KX : KX} {ρ : DL.Env} {γ : Ga} {i j : Nat} {a b : D} {N : DL.Env → Ga → Prop} (h : N ((ρ.set i (some a)).set j (some b)) γ) : dGs KX (gCons (gName i) (gCons (gName j) gNil)) [a, b] ρ γ [i, j] N := dgs_cons (is := [i]) (js := [j]) (dg_name (dgs_cons (is := [j]) (js := []) (dg_name (dgs_nil h))))
mutual
theorem oks_mono {n m : Nat} (h : n ≤ m) : ∀ d : D, d.oks n = true → d.oks m = true
  | .non, _ => rfl
  | .bl _, _ => rfl
  | .int _, q => q
  | .str _, q => q
  | .tup ds, q => by
    unfold D.oks at q ⊢
    rw [Bool.and_eq_true] at q ⊢
    exact ⟨q.1, oksL_mono h ds q.2⟩
  | .lst ds, q => by
    unfold D.oks at q ⊢
    rw [Bool.and_eq_true] at q ⊢
    exact ⟨q.1, oksL_mono h ds q.2⟩
  | .ty _, q => by cases q
  | .ref _, q => by cases q
  | .loc _, q => by cases q
  | .ins _ _ _, q => by cases q
  | .dic _ _, q => by cases q
  | .dit _ _, q => by cases q
  | .exc _ _ _ _ _, q => by cases q
  | .cst _, q => by cases q
  | .exv _ _ _, q => by cases q
theorem oksL_mono {n m : Nat} (h : n ≤ m) : ∀ ds : List D, oksL n ds = true → oksL m ds = true
  | [], _ => by unfold oksL; rfl
  | d :: ds, q => by
    cases n with
    | zero => unfold oksL at q; cases q
    | succ n =>
      cases m with
      | zero => omega
      | succ m =>
        unfold oksL at q ⊢
        rw [Bool.and_eq_true] at q ⊢
        exact ⟨oks_mono (by omega) d q.1, oksL_mono h ds q.2⟩
end
theorem oksL_mem : ∀ {n : Nat} {ds : List D}, oksL n ds = true → ∀ d ∈ ds, d.oks (n - 1) = true
  | _, [], _, d, hd => by cases hd
  | 0, _ :: _, h, _, _ => by unfold oksL at h; cases h
  | n + 1, x :: xs, h, d, hd => by
    unfold oksL at h
    rw [Bool.and_eq_true] at h
    rcases List.mem_cons.mp hd with rfl | hd
    · exact h.1
    · exact oksL_mem h.2 d hd
theorem drop_at {A : Type} {l : List A} {k : Nat} {c : A} (h : l[k]? = some c) : l.drop k = c :: l.drop (k + 1) := by
  obtain ⟨hk, e⟩ := List.getElem?_eq_some_iff.mp h
  rw [List.drop_eq_getElem_cons hk, e]
theorem name_str {d : D} (h : isNameD d = true) : ∃ l, d = .str (S l) ∧ isName l = true := by
  cases d with
  | str x => exact ⟨x.cps.toList, by rw [S_of], h⟩
  | _ => cases h
theorem rowErr_40 {d : D} {r : List D} {kn : List (List Nat)} : rowErr (d :: r) 40 kn = some 40 := by
  unfold rowErr
  split
  · rfl
  · rw [if_pos (.inl rfl)]
theorem rowErr_no {d : D} {r : List D} {i : Nat} {kn : List (List Nat)} (h : rowOk d = none) : rowErr (d :: r) i kn = some i := by
  unfold rowErr
  rw [h]
theorem rowOk_len {xs : List D} (h : xs.length ≠ 2) : rowOk (.tup xs) = none := by
  unfold rowOk
  split
  · rename_i hx
    cases hx
    exact absurd rfl h
  · rfl
theorem rowOk_nm {a b : D} (h : isNameD a = false) : rowOk (.tup [a, b]) = none := by
  unfold rowOk
  split
  · rename_i x evs hx
    cases hx
    rw [if_neg (by rw [show isNameD (.str x) = isName x.cps.toList from rfl] at h; rw [h]; exact Bool.false_ne_true)]
  · rfl
theorem rowErr_in {l : List Nat} {b : D} {r : List D} {i : Nat} {kn : List (List Nat)} (h : l ∈ kn) : rowErr (.tup [.str (S l), b] :: r) i kn = some i := by
  unfold rowErr
  split
  · rfl
  · rename_i nm evs hx
    unfold rowOk at hx
    split at hx
    · rename_i x evs' he
      cases he
      split at hx
      · cases hx
        rw [S_l, if_pos (.inr h)]
      · cases hx
    · cases hx
theorem strs_app {kn : List (List Nat)} {l : List Nat} : strsD kn ++ [D.str (S l)] = strsD (kn ++ [l]) := by simp [strsD]
theorem dl_check_rows {K : Frag} (T : Tx K mg) (X : Te P K mg) : DL_check_rows K (sp_check_rows K) := by
  rintro ds γ q e E0 lo1 lo2 ⟨rs, rfl, hok, h1, h2⟩
  refine dS_env (ρ' := [some (.tup rs), none, none, none]) rfl ?_
  unfold t_check_rows
  unfold okRows at hok
  rw [Bool.and_eq_true, decide_eq_true_eq] at hok
  walk_at "GO"
  refine ifd (fun c => ?_) (fun c => ?_)
  · have hr : rs = [] := List.eq_nil_of_length_eq_zero (by omega)
    subst hr
    refine ds_raise X.x_BadRecord.oex ?_
    walk_at "GO"
    exact ⟨rfl, by decide, by decide, [.str (S wRow), .non, .int 0], ⟨frz1_str, frz1_non, frz1_int, trivial⟩, .inl (h2 0 rfl)⟩
  have hne : rs ≠ [] := fun z => c (by rw [z]; rfl)
  have he : rowsErr rs = rowErr rs 0 [] := by unfold rowsErr; rw [if_neg hne]
  walk_at "GO"
  refine xs_for [2, 3] (di_enumC ?_)
  walk_at "GO"
  refine ⟨_, rs, rfl, .inr (.inl rfl), fun i ρ' γ' => ∃ kn x2 x3, ρ' = [some (.tup rs), some (.loc γ.length), x2, x3] ∧ γ' = γ ++ [.lst (strsD kn)] ∧ kn.length ≤ i ∧ rowErr (rs.drop i) i kn = rowErr rs 0 [], ⟨[], none, none, rfl, rfl, Nat.le_refl _, rfl⟩, ?_, ?_⟩
  · rintro i y ρ' γ' hy ⟨kn, x2, x3, rfl, rfl, hkn, hr⟩
    obtain ⟨d, hd, rfl⟩ := numD_at hy
    rw [Int.zero_add]
    have hdo := List.all_eq_true.mp hok.2 d (List.mem_of_getElem? hd)
    have hil : i < rs.length := (List.getElem?_eq_some_iff.mp hd).1
    rw [drop_at hd] at hr
    refine dg_tup rfl (dgs_two ?_)
    have rz : rowErr (d :: rs.drop (i + 1)) i kn = some i → ∀ B, dS ⟨K, wOf E0, fun _ => DrX γ.length e⟩ (γ ++ [MO.lst []]).length (tRaise K (wOf E0) (He.ga K "BadRecord") (sp_frozen K) ["reason", "name", "number"] (tCons (tC (.str (S [114, 111, 119]))) (tCons (tC .non) (tCons (tVar 2) tNil)))) [some (.tup rs), some (.loc γ.length), some (.int (i : Nat)), some d] (γ ++ [MO.lst (strsD kn)]) B := by
      intro hz B
      refine ds_raise X.x_BadRecord.oex ?_
      walk_at "GO"
      exact ⟨rfl, by decide, by decide, [.str (S wRow), .non, .int (i : Nat)], ⟨frz1_str, frz1_non, frz1_int, trivial⟩, drx_keep lo1 rfl (h2 i (by rw [he, ← hr, hz]))⟩
    have i40 : ((i : Nat) : Int) = 40 → rowErr (d :: rs.drop (i + 1)) i kn = some i := fun z => by
      have : i = 40 := by omega
      subst this
      exact rowErr_40
    rcases oks_cases hdo with rfl | ⟨b, rfl⟩ | ⟨z, rfl, _⟩ | ⟨l, rfl, _⟩ | ⟨xs, rfl, hxl, hxs⟩ | ⟨xs, rfl, _⟩
    case inr.inr.inr.inr.inl =>
      walk_at "GO"
      refine ifd (fun c40 => ?_) (fun c40 => ?_)
      · walk_at "GO"
        exact rz (i40 c40) _
      walk_at "GO"
      refine ifnd (fun cl => ?_) (fun cl => ?_)
      · walk_at "GO"
        exact rz (rowErr_no (rowOk_len (by omega))) _
      walk_at "GO"
      obtain ⟨a, b, rfl⟩ : ∃ a b, xs = [a, b] := by
        match xs, cl with
        | [a, b], _ => exact ⟨a, b, rfl⟩
        | [], h => simp at h
        | [_], h => simp at h
        | _ :: _ :: _ :: _, h => simp at h; omega
      have ha := oksL_mem hxs a (by simp)
      have hb := oksL_mem hxs b (by simp)
      walk_at "GO"
      refine ⟨a, rfl, oks_mono (by decide) a ha, ?_⟩
      cases hnm : isNameD a with
      | false =>
        walk_at "GO"
        exact rz (rowErr_no (rowOk_nm hnm)) _
      | true =>
        obtain ⟨l, rfl, hl⟩ := name_str hnm
        have ro : ∀ evs, rowOk (.tup [.str (S l), .tup evs]) = some (l, evs) := fun evs => by
          unfold rowOk
          simp only [S_l, hl, if_true]
        walk_at "GO"
        refine rin_strs (.inl (vw_loc at_0)) ?_
        walk_at "GO"
        refine ifd (fun cin => ?_) (fun cin => ?_)
        · walk_at "GO"
          exact rz (rowErr_in cin) _
        walk_at "GO"
        rcases oks_cases hb with rfl | ⟨b, rfl⟩ | ⟨z, rfl, _⟩ | ⟨l', rfl, _⟩ | ⟨evs, rfl, _⟩ | ⟨evs, rfl, _⟩
        case inr.inr.inr.inr.inl =>
          walk_at "GO"
          · simp [strsD]; omega
          rw [set_0, strs_app]
          refine ⟨kn ++ [l], _, _, rfl, rfl, by simp; omega, ?_⟩
          rw [← hr]
          conv => rhs; unfold rowErr
          rw [ro]
          simp only
          rw [if_neg (by rintro (z | z); · exact c40 (by omega)
                         · exact cin z)]
        all_goals
          walk_at "GO"
          exact rz (rowErr_no rfl) _
    all_goals
      walk_at "GO"
      refine ifd (fun c40 => ?_) (fun c40 => ?_)
      · walk_at "GO"
        exact rz (i40 c40) _
      walk_at "GO"
      exact rz rfl _
  · rintro ρ' γ' ⟨kn, x2, x3, rfl, rfl, hkn, hr⟩
    rw [numD_len, List.drop_length] at hr
    exact dr_keep lo1 rfl (h1 (by rw [he, ← hr]; rfl))
theorem dl_fits {K : Frag} (T : Tx K mg) : DL_fits K (sp_fits K) := by
  rintro ds γ q e E0 lo1 lo2 ⟨kind, part, nm, ns, rfl, ho, hq⟩
  refine dS_env (ρ' := [some (.str (S kind)), some part, some (.str (S nm)), some (.lst (strsD ns))]) rfl ?_
  unfold t_fits
  walk_at "GO"
  refine ifd (fun c => ?_) (fun c => ?_)
  · walk_at "GO"
    have e1 : fitsD kind part nm ns = isNameD part := by unfold fitsD; rw [if_pos (show kind = wVar from c)]
    rw [e1] at hq
    exact ⟨part, rfl, ho, .inl hq⟩
  walk_at "GO"
  refine ifd (fun c2 => ?_) (fun c2 => ?_)
  · walk_at "GO"
    have e1 : fitsD kind part nm ns = isSmallD part := by unfold fitsD; rw [if_neg (show ¬kind = wVar from c), if_pos (show kind = wVal from c2)]
    rw [e1] at hq
    exact ⟨part, rfl, ho, .inl hq⟩
  have e1 : fitsD kind part nm ns = fitsS nm ns part := by unfold fitsD; rw [if_neg (show ¬kind = wVar from c), if_neg (show ¬kind = wVal from c2)]
  rw [e1] at hq
  walk_at "GO"
  rcases oks_cases ho with rfl | ⟨b, rfl⟩ | ⟨z, rfl, _⟩ | ⟨l, rfl, _⟩ | ⟨evs, rfl, _⟩ | ⟨evs, rfl, _⟩
  case inr.inr.inr.inl =>
    have hq : q (.bl (decide (l ∈ ns) && decide (l ≠ nm))) γ := by
      have : (decide ((S l).cps.toList ∈ ns) && decide ((S l).cps.toList ≠ nm)) = (decide (l ∈ ns) && decide (l ≠ nm)) := by rw [S_l]
      rw [← this]; exact hq
    walk_at "GO"
    refine ifd (fun c3 => ?_) (fun c3 => ?_)
    · walk_at "GO"
      rw [show (!decide (l = nm)) = (decide (l ∈ ns) && decide (l ≠ nm)) by simp [c3]]
      exact .inl hq
    · rw [show (decide (l ∈ ns) && decide (l ≠ nm)) = false by simp [c3]] at hq
      exact .inl hq
  all_goals
    walk_at "GO"
    exact .inl hq
theorem xe_lcP {KX : KX} {ρ : DL.Env} {γ : Ga} {Q : QD} {A : Type} {i j : Nat} {wi : TI} {te : TE} {vs : List Nat} (xs : List A) (a b c : A → D) (hi : i ∈ vs) (hj : j ∈ vs) (h : dI KX wi ρ γ fun ds γ1 => ds = xs.map (fun x => D.tup [a x, b x]) ∧ xs.length ≤ 1000000 ∧
    (∀ x ∈ xs, dE KX.cm te (((wipeE ρ vs).set i (some (a x))).set j (some (b x))) γ1 fun y γ3 => y = c x ∧ γ3 = γ1) ∧ Q (.lst (xs.map c)) γ1) : dE KX (tLc wi (gTup KX.f 2 (gCons (gName i) (gCons (gName j) gNil))) tYes te vs) ρ γ Q := by
  refine de_lc [i, j] (by intro k hk; simp at hk; rcases hk with rfl | rfl <;> assumption) fun σ H α r rr g w => h σ H α r rr g fun J H' α' γ1 ds hh e g' wk => w J H' α' γ1 ds ?_ e g' wk
  obtain ⟨rfl, hl, he, hq⟩ := hh
  refine ⟨by simpa using hl, fun k acc γ' => γ' = γ1 ∧ acc = (xs.take k).map c, ⟨rfl, rfl⟩, ?_, ?_⟩
  · rintro k x acc γ' hx ⟨rfl, rfl⟩
    rw [List.getElem?_map] at hx
    cases ex : xs[k]? with
    | none => rw [ex] at hx; cases hx
    | some y =>
      rw [ex] at hx
      cases hx
      refine dg_tup rfl (dgs_two (dt_yes ?_))
      rw [if_pos rfl]
      refine de_mono (he y (List.mem_of_getElem? ex)) ?_
      rintro d γ3 ⟨rfl, rfl⟩
      refine ⟨rfl, ?_⟩
      rw [List.take_add_one, ex]
      simp
  · rintro acc γ' ⟨rfl, rfl⟩
    rw [List.length_map, List.take_length]
    exact hq
theorem dl_is_form {K : Frag} (T : Tx K mg) : DL_is_form K (sp_is_form K) := by
  rintro ds γ q e E0 lo1 lo2 ⟨d, nm, ns, rfl, ho, hq⟩
  refine dS_env (ρ' := [some d, some (.str (S nm)), some (.lst (strsD ns)), none, none, none]) rfl ?_
  unfold t_is_form
  rcases oks_cases ho with rfl | ⟨b, rfl⟩ | ⟨z, rfl, _⟩ | ⟨l, rfl, _⟩ | ⟨xs, rfl, hxl, hxs⟩ | ⟨evs, rfl, _⟩
  case inr.inr.inr.inr.inl =>
    cases xs with
    | nil =>
      walk_at "GO"
      exact .inl hq
    | cons x xs =>
      have hx := oksL_mem hxs x (by simp)
      walk_at "GO"
      refine ifd (fun c => ?_) (fun c => ?_)
      · simp at c; omega
      walk_at "GO"
      rcases oks_cases hx with rfl | ⟨b, rfl⟩ | ⟨z, rfl, _⟩ | ⟨w, rfl, _⟩ | ⟨evs, rfl, _⟩ | ⟨evs, rfl, _⟩
      case inr.inr.inr.inl =>
        walk_at "GO"
        refine de_ref ?_
        refine rk_ni T.kv_FORMS ?_
        cases hl : FORMS_T.lookup w with
        | none =>
          have hf : formB (.tup (.str (S w) :: xs)) nm ns = false := by unfold formB; simp only [S_l, hl]
          rw [hf] at hq
          walk_at "GO"
          exact .inl hq
        | some kinds =>
          have hf : formB (.tup (.str (S w) :: xs)) nm ns = (decide (xs.length = kinds.length) && (kinds.zip xs).all fun p => fitsD p.1 p.2 nm ns) := by unfold formB; simp only [S_l, hl]
          rw [hf] at hq
          refine ⟨_, rfl, iff_ ?_⟩
          walk_at "GO"
          refine de_ref ?_
          walk_at "GO"
          refine rk_ixT T.kv_FORMS hl ?_
          walk_at "GO"
          have hsl : (strsD kinds).length = kinds.length := by simp [strsD]
          refine ifnd (fun cl => ?_) (fun cl => ?_)
          · rw [show decide (xs.length = kinds.length) = false from decide_eq_false (fun z => cl (by rw [hsl]; simp; omega))] at hq
            walk_at "GO"
            exact .inl hq
          · have hxk : xs.length = kinds.length := by rw [hsl] at cl; simp at cl; omega
            rw [decide_eq_true hxk, Bool.true_and] at hq
            walk_at "GO"
            refine xe_lcP (kinds.zip xs) (fun p => .str (S p.1)) (fun p => p.2) (fun p => .bl (fitsD p.1 p.2 nm ns)) (by simp) (by simp) (di_zip ?_)
            walk_at "GO"
            have cut : DL.cutD (D.str (S w) :: xs) (some 1) none = xs := by
              unfold DL.cutD
              have h1 : HT.sIx (D.str (S w) :: xs).length 0 (some 1) = 1 := by
                rw [show (1 : Int) = ((1 : Nat) : Int) from rfl, HT.sIx_nat]; simp
              rw [h1, HT.sIx_none]
              simp
            refine rsl_tup (fun c => ?_) ?_
            · have h1 := c.1
              rw [show (1 : Int) = ((1 : Nat) : Int) from rfl, HT.sIx_nat] at h1
              simp at h1
            rw [cut]
            walk_at "GO"
            refine ⟨_, _, strsD kinds, xs, rfl, .inr ⟨.inr rfl, .inl rfl⟩, ?_, by simp; omega, fun p hp => ?_, ?_⟩
            · simp [strsD, List.zip_map_left]
            · walk_at "GO"
              have hpx := oksL_mem hxs p.2 (List.mem_cons_of_mem _ (List.of_mem_zip hp).2)
              exact ⟨p.1, p.2, nm, ns, rfl, oks_mono (by decide) _ hpx, rfl, rfl⟩
            · rw [map_bl]
              walk_at "GO"
              refine rc_all rfl ?_
              rw [List.all_map]
              exact .inl hq
      all_goals
        walk_at "GO"
        exact .inl hq
  all_goals
    walk_at "GO"
    exact .inl hq
theorem dl_check_events {K : Frag} (T : Tx K mg) (X : Te P K mg) : DL_check_events K (sp_check_events K) := by
  rintro ds γ q e E0 lo1 lo2 ⟨rs, rfl, hl, hok, h1, h2⟩
  refine dS_env (ρ' := [some (.tup (rs.map rowXD)), none, none, none, none, none]) rfl ?_
  unfold t_check_events
  walk_at "GO"
  refine xe_lcP rs (fun r => .str (S r.1)) (fun r => .tup r.2) (fun r => .str (S r.1)) (by simp) (by simp) ?_
  walk_at "GO"
  refine ⟨rfl, by omega, fun r hr => ?_, ?_⟩
  · walk_at "GO"
    exact ⟨rfl, rfl⟩
  have hns : rs.map (fun r => D.str (S r.1)) = strsD (rs.map (·.1)) := by simp [strsD]
  rw [hns]
  generalize hN : rs.map (·.1) = N at *
  refine xs_for [2, 3] ?_
  walk_at "GO"
  refine ⟨fun i ρ' γ' => ∃ x2 x3 x4 x5, ρ' = [some (.tup (rs.map rowXD)), some (.lst (strsD N)), x2, x3, x4, x5] ∧ γ = γ' ∧ evErr N (rs.drop i) = evErr N rs, ⟨_, _, _, _, rfl, rfl, rfl⟩, ?_, ?_⟩
  · rintro i y ρ' γ' hy ⟨x2, x3, x4, x5, rfl, rfl, he⟩
    rw [List.getElem?_map] at hy
    obtain ⟨r, hr, rfl⟩ := Option.map_eq_some_iff.mp hy
    have hro := List.all_eq_true.mp hok r (List.mem_of_getElem? hr)
    unfold okX at hro
    rw [Bool.and_eq_true, decide_eq_true_eq] at hro
    rw [drop_at hr] at he
    refine dg_tup rfl (dgs_two ?_)
    refine xs_for [4, 5] (di_enumF ?_)
    walk_at "GO"
    refine ⟨_, r.2, _, rfl, .inr (.inl rfl), by decide, by decide, fun j ρ' γ' => ∃ x4 x5, ρ' = [some (.tup (rs.map rowXD)), some (.lst (strsD N)), some (.str (S r.1)), some (.tup r.2), x4, x5] ∧ γ = γ' ∧ firstNo r.1 N (r.2.drop j) (j + 1) = firstNo r.1 N r.2 1, ⟨_, _, rfl, rfl, rfl⟩, ?_, ?_⟩
    · rintro j y ρ' γ' hy ⟨x4, x5, rfl, rfl, hf⟩
      obtain ⟨d, hd, rfl⟩ := numD_at hy
      have hdo := List.all_eq_true.mp hro.2 d (List.mem_of_getElem? hd)
      rw [drop_at hd] at hf
      refine dg_tup rfl (dgs_two ?_)
      walk_at "GO"
      refine ⟨d, r.1, N, rfl, oks_mono (by decide) _ hdo, ?_⟩
      cases hb : formB d r.1 N with
      | true =>
        walk_at "GO"
        refine ⟨rfl, ?_⟩
        rw [← hf]
        conv => rhs; unfold firstNo
        rw [if_pos hb]
      | false =>
        walk_at "GO"
        refine ds_raise X.x_BadRecord.oex ?_
        walk_at "GO"
        have hz : evErr N rs = some (r.1, j + 1) := by
          rw [← he]
          unfold evErr
          rw [← hf]
          unfold firstNo
          rw [if_neg (by rw [hb]; exact Bool.false_ne_true)]
        refine ⟨rfl, by decide, by decide, [.str (S wEvent), .str (S r.1), .int (1 + (j : Nat))], ⟨frz1_str, frz1_str, frz1_int, trivial⟩, .inl ?_⟩
        have := h2 r.1 (j + 1) hz
        unfold XR at this
        rw [show (1 : Int) + (j : Nat) = ((j + 1 : Nat) : Int) by omega]
        exact this
    · rintro ρ' γ' ⟨x4, x5, rfl, rfl, hf⟩
      rw [numD_len, List.drop_length] at hf
      refine ⟨_, _, _, _, rfl, rfl, ?_⟩
      rw [← he]
      conv => rhs; unfold evErr
      rw [← hf]
      rfl
  · rintro ρ' γ' ⟨x2, x3, x4, x5, rfl, rfl, he⟩
    rw [List.length_map, List.drop_length] at he
    exact .inl (h1 (by rw [← he]; rfl))
end
end K31

set_option Elab.async false
set_option linter.all false
set_option maxRecDepth 100000
set_option maxHeartbeats 4000000
namespace K31
open PySem PySem.Spec PyProof.Rows L2 DL
local macro_rules | `(tactic| walk_at "GO") => `(tactic| repeat' (first | with_reducible refine xs_seq ?_ | with_reducible refine xs_set ?_ | with_reducible refine xs_asg ?_ | with_reducible refine xs_if ?_ | with_reducible refine xs_ret ?_ | with_reducible refine xs_next ?_ | with_reducible refine xs_expr ?_ | with_reducible refine xs_fld ?_ | with_reducible refine xs_par ?_ | with_reducible refine xs_retN ?_ | with_reducible refine xs_brk ?_ | with_reducible refine xp_nil ?_ | with_reducible refine xp_cons ?_ | with_reducible refine xe_disp ?_ | with_reducible refine xe_dispM ?_ | with_reducible refine xs_cont ?_ | with_reducible refine da_nil ?_ | with_reducible refine da_cons ?_ | with_reducible refine de_int ?_ | with_reducible refine de_str ?_ | with_reducible refine de_bl ?_ | with_reducible refine de_non ?_ | with_reducible refine de_ty ?_ | ((with_reducible refine xe_var ?_); refine ⟨_, rfl, ?_⟩) | with_reducible refine de_op ?_ | with_reducible refine de_un ?_ | with_reducible refine de_call ?_ | with_reducible refine de_cb ?_ | with_reducible refine de_sl ?_ | with_reducible refine do_none ?_ | with_reducible refine do_some ?_ | with_reducible refine de_if ?_ | with_reducible refine de_andV ?_ | with_reducible refine de_orV ?_ | with_reducible refine de_notV ?_ | with_reducible refine de_chain ?_ | with_reducible refine dt_test ?_ | with_reducible refine dt_B ?_ | with_reducible refine dt_and ?_ | with_reducible refine dt_or ?_ | with_reducible refine dt_not ?_ | (with_reducible refine xe_tup ?_) | (with_reducible refine xe_lst ?_) | (with_reducible refine xe_lstM ?_) | (with_reducible refine de_meth ?_) | with_reducible refine xs_dput ?_ | with_reducible refine xs_daug ?_ | with_reducible refine de_dget ?_ | with_reducible refine de_dgt1 ?_ | with_reducible refine de_dgt2 ?_ | with_reducible refine de_din ?_ | with_reducible refine de_dnotin ?_ | with_reducible refine de_dnewK ?_ | with_reducible refine de_dnewT ?_ | with_reducible refine de_revL ?_ | (with_reducible refine de_bm ?_) | (with_reducible refine de_bm0 ?_) | (with_reducible refine ⟨isTy_str, ?_⟩) | (with_reducible refine ⟨xty_lst ⟨_, rfl⟩, ?_⟩) | (with_reducible refine ⟨xty_lst ⟨_, vw_loc at_0⟩, ?_⟩) | (with_reducible refine rm_append at_0 ?_ ?_) | (with_reducible refine rm_pop at_0 ?_) | (with_reducible refine rc_len (.inl (vw_loc at_0)) ?_) | (with_reducible refine ⟨xty_lst ⟨_, vw_loc at_1⟩, ?_⟩) | (with_reducible refine rm_append at_1 ?_ ?_) | (with_reducible refine rm_pop at_1 ?_) | (with_reducible refine rc_len (.inl (vw_loc at_1)) ?_) | (with_reducible refine ⟨xty_lst ⟨_, vw_loc at_2⟩, ?_⟩) | (with_reducible refine rm_append at_2 ?_ ?_) | (with_reducible refine rm_pop at_2 ?_) | (with_reducible refine rc_len (.inl (vw_loc at_2)) ?_) | with_reducible refine radd_int ?_ | with_reducible refine radd_S ?_ ?_ | with_reducible refine rsub_int ?_ | with_reducible refine req_int ?_ | with_reducible refine rne_int ?_ | with_reducible refine req_S ?_ | with_reducible refine rne_S ?_ | with_reducible refine rlt_int ?_ | with_reducible refine rle_int ?_ | with_reducible refine rgt_int ?_ | with_reducible refine rge_int ?_ | with_reducible refine rneg_int ?_ | with_reducible refine rin_sgn ?_ | with_reducible refine rni_sgn ?_ | with_reducible refine rc_len_S ?_ ?_ | with_reducible refine rc_int_bl ?_ | with_reducible refine rc_str_int ?_ ?_ | with_reducible refine rc_str_str ?_ | with_reducible refine rc_max2 ?_ | with_reducible refine rc_abs ?_ | with_reducible refine req_bl ?_ | with_reducible refine rne_bl ?_ | with_reducible refine rltg_i ?_ | with_reducible refine rleg_i ?_ | with_reducible refine rgtg_i ?_ | with_reducible refine rgeg_i ?_ | with_reducible refine rltg_b ?_ | with_reducible refine rleg_b ?_ | with_reducible refine rgtg_b ?_ | with_reducible refine rgeg_b ?_ | with_reducible refine rist ?_ | with_reducible refine rntt ?_ | with_reducible refine dt_truth ?_ | ((with_reducible refine xc_isi ?_); refine ⟨_, true, rfl, rfl, ?_⟩) | ((with_reducible refine xc_isi ?_); refine ⟨_, false, rfl, rfl, ?_⟩) | with_reducible refine di_str ?_ | with_reducible refine di_list ?_ | with_reducible refine di_tup ?_ | with_reducible refine di_rng1 ?_ | with_reducible refine di_rng2 ?_ | with_reducible refine ift ?_ | with_reducible refine iff_ ?_ | with_reducible refine ifnt ?_ | with_reducible refine ifnf ?_ | with_reducible refine rin_strs sq_c ?_ | with_reducible refine rni_strs sq_c ?_ | with_reducible refine rin_strs sq_t ?_ | with_reducible refine rni_strs sq_t ?_ | with_reducible refine rin_strs sq_l ?_ | with_reducible refine rni_strs sq_l ?_ | with_reducible refine rin_strs (sq_v rfl) ?_ | with_reducible refine rni_strs (sq_v rfl) ?_ | ((with_reducible refine rin_seq sq_c ?_ ?_ ?_); rfl; rfl) | ((with_reducible refine rin_seq sq_t ?_ ?_ ?_); rfl; rfl) | ((with_reducible refine rin_seq sq_l ?_ ?_ ?_); rfl; rfl) | ((with_reducible refine rin_seq (sq_v rfl) ?_ ?_ ?_); rfl; rfl) | ((with_reducible refine rni_seq sq_c ?_ ?_ ?_); rfl; rfl) | ((with_reducible refine rni_seq sq_t ?_ ?_ ?_); rfl; rfl) | ((with_reducible refine rni_seq sq_l ?_ ?_ ?_); rfl; rfl) | ((with_reducible refine rni_seq (sq_v rfl) ?_ ?_ ?_); rfl; rfl) | (with_reducible refine xix_tup ?_) | ((with_reducible refine xc_len ?_); refine ⟨_, sq_c, ?_⟩) | ((with_reducible refine xc_len ?_); refine ⟨_, sq_t, ?_⟩) | ((with_reducible refine xc_len ?_); refine ⟨_, sq_l, ?_⟩) | ((with_reducible refine xc_len ?_); refine ⟨_, (sq_v rfl), ?_⟩) | (with_reducible refine rm_count ?_) | (with_reducible refine ⟨_, rfl, ?_⟩) | (with_reducible refine ⟨_, at_h0, ?_⟩) | (with_reducible refine ⟨_, at_h1, ?_⟩) | (with_reducible refine ⟨_, at_h2, ?_⟩) | (with_reducible refine ⟨_, at_h3, ?_⟩) | (with_reducible refine ⟨_, .inl rfl, ?_⟩) | (with_reducible refine ⟨_, .inr rfl, ?_⟩) | (with_reducible refine ⟨_, _, rfl, ?_⟩) | ((with_reducible refine xix_lst ?_); refine ⟨_, rfl, _, rfl, ?_⟩) | ((with_reducible refine xadd_lst ?_); refine ⟨_, rfl, _, rfl, ?_, ?_⟩) | with_reducible refine rmul_int ?_ ?_ | with_reducible refine rmod_int ?_ ?_ | with_reducible refine rfdiv_int ?_ ?_ | with_reducible refine rpow_int ?_ ?_ | with_reducible refine xg_setL ?_ | refine ⟨_, _, _, _, rfl, rfl, rfl, rfl, ?_⟩ | with_reducible refine xg_name ?_ | with_reducible refine xg_tup rfl ?_ | with_reducible refine xgs_name ?_ | with_reducible refine xgs_nil ?_ | (with_reducible refine ⟨Nat.le_of_ble_eq_true rfl, ?_⟩) | (with_reducible refine ifdT (by decide) ?_) | (with_reducible refine ifdF (by decide) ?_) | (with_reducible refine ifnT (by decide) ?_) | (with_reducible refine ifnF (by decide) ?_) | (with_reducible refine ifbT (by decide) ?_) | (with_reducible refine ifbF (by decide) ?_) | fail))
section
variable {P : Program} {mg : Str → Option Value}
theorem DSetD.mono {γ : Ga} {d y z : D} {Q Q' : QD} (h : DSetD γ d y z Q) (w : ∀ a b, Q a b → Q' a b) : DSetD γ d y z Q' := by
  rcases h with ⟨j, ps, k, h1, h2, h3, h4, h5, h6⟩ | ⟨j, ps, k, h1, h2, h3, h4, h5, h6⟩
  · exact .inl ⟨j, ps, k, h1, h2, h3, h4, fun v hv => w _ _ (h5 v hv), fun hn => w _ _ (h6 hn)⟩
  · exact .inr ⟨j, ps, k, h1, h2, h3, h4, fun v hv => w _ _ (h5 v hv), fun hn => w _ _ (h6 hn)⟩
theorem S_inj {a b : List Nat} (h : S a = S b) : a = b := by
  have := congrArg (fun s => s.cps.toList) h
  simpa only [S_l] using this
theorem kC_inj {a b : List Nat × List Nat} (h : kC a = kC b) : a = b := by
  obtain ⟨a1, a2⟩ := a
  obtain ⟨b1, b2⟩ := b
  unfold kC at h
  simp only [List.cons.injEq, Sum.inr.injEq, and_true] at h
  rw [S_inj h.1, S_inj h.2]
structure Zs where
  c : List Nat × List Nat
  l : List (Nat × Int)
  j : Nat
def csZ (zs : List Zs) : Chan := zs.map fun z => (z.c, z.l)
def psZ (zs : List Zs) : List (List Key × D) := zs.map fun z => (kC z.c, .loc z.j)
def OkZ (n : Nat) (γ : Ga) (zs : List Zs) : Prop := (∀ z ∈ zs, n < z.j ∧ γ[z.j]? = some (.lst (z.l.map sndD))) ∧ (zs.map Zs.j).Nodup ∧ (zs.map Zs.c).Nodup
theorem split_z : ∀ (zs : List Zs) (c : List Nat × List Nat), (∀ z ∈ zs, z.c ≠ c) ∨ ∃ A z B, zs = A ++ z :: B ∧ z.c = c ∧ ∀ y ∈ A, y.c ≠ c
  | [], c => .inl (by simp)
  | z :: zs, c => by
    by_cases e : z.c = c
    · exact .inr ⟨[], z, zs, rfl, e, by simp⟩
    rcases split_z zs c with h | ⟨A, y, B, rfl, hy, hA⟩
    · exact .inl fun y hy => by
        rcases List.mem_cons.mp hy with rfl | hy
        · exact e
        · exact h y hy
    · exact .inr ⟨z :: A, y, B, rfl, hy, fun y hy => by
        rcases List.mem_cons.mp hy with rfl | hy
        · exact e
        · exact hA y hy⟩
theorem getZ_no {zs : List Zs} {c : List Nat × List Nat} (h : ∀ z ∈ zs, z.c ≠ c) : getP (psZ zs) (kC c) = none := by
  unfold getP psZ
  rw [List.find?_eq_none.mpr]; rfl
  intro p hp
  obtain ⟨z, hz, rfl⟩ := List.mem_map.mp hp
  simpa using fun e => h z hz (kC_inj e)
theorem getZ_at {A B : List Zs} {z : Zs} (h : ∀ y ∈ A, y.c ≠ z.c) : getP (psZ (A ++ z :: B)) (kC z.c) = some (.loc z.j) := by
  unfold getP psZ
  rw [List.map_append, List.find?_append, List.find?_eq_none.mpr]
  · simp
  intro p hp
  obtain ⟨y, hy, rfl⟩ := List.mem_map.mp hp
  simpa using fun e => h y hy (kC_inj e)
theorem addS_no {zs : List Zs} {c : List Nat × List Nat} {x : Nat × Int} {j : Nat} (h : ∀ z ∈ zs, z.c ≠ c) : addS (csZ zs) c x = csZ (zs ++ [⟨c, [x], j⟩]) := by
  unfold addS csZ
  rw [if_neg]
  · simp
  · simp only [List.any_map, List.any_eq_true, not_exists, not_and]
    intro z hz
    simpa using h z hz
theorem putZ_no {zs : List Zs} {c : List Nat × List Nat} {l : List (Nat × Int)} {j : Nat} (h : ∀ z ∈ zs, z.c ≠ c) : putP (psZ zs) (kC c) (.loc j) = psZ (zs ++ [⟨c, l, j⟩]) := by
  unfold putP psZ
  rw [if_neg]
  · simp
  · simp only [List.any_map, List.any_eq_true, not_exists, not_and]
    intro z hz
    simpa using fun e => h z hz (kC_inj e)
theorem addS_at {A B : List Zs} {z : Zs} {x : Nat × Int} (hA : ∀ y ∈ A, y.c ≠ z.c) (hB : ∀ y ∈ B, y.c ≠ z.c) : addS (csZ (A ++ z :: B)) z.c x = csZ (A ++ ⟨z.c, z.l ++ [x], z.j⟩ :: B) := by
  unfold addS csZ
  rw [if_pos (by simp)]
  rw [List.map_append, List.map_append, List.map_cons, List.map_append, List.map_cons]
  have e : ∀ L : List Zs, (∀ y ∈ L, y.c ≠ z.c) → (L.map fun z => (z.c, z.l)).map (fun p => if p.1 = z.c then (p.1, p.2 ++ [x]) else p) = L.map fun z => (z.c, z.l) := by
    intro L hL
    rw [List.map_map]
    refine List.map_congr_left fun y hy => ?_
    show (if y.c = z.c then _ else _) = _
    rw [if_neg (hL y hy)]
  simp only [List.map_cons]
  rw [e A hA, e B hB, if_pos True.intro]
/-- the sends so far, their objects -/
def SiG (γ0 : Ga) (cs : Chan) (N : Nat) (γ' : Ga) : Prop := ∃ zs T, γ' = γ0 ++ moT (psZ zs) :: T ∧ csZ zs = cs ∧ OkZ γ0.length γ' zs ∧ zs.length ≤ N ∧ ∀ z ∈ zs, z.l.length ≤ N
theorem SiG.mono {γ0 γ' : Ga} {cs : Chan} {N M : Nat} (h : SiG γ0 cs N γ') (l : N ≤ M) : SiG γ0 cs M γ' := by
  obtain ⟨zs, T, h1, h2, h3, h4, h5⟩ := h
  exact ⟨zs, T, h1, h2, h3, by omega, fun z hz => Nat.le_trans (h5 z hz) l⟩
theorem set_tail {γ0 T : Ga} {a x : MO} {j : Nat} (h : γ0.length < j) : (γ0 ++ a :: T).set j x = γ0 ++ a :: T.set (j - γ0.length - 1) x := by
  rw [List.set_append, if_neg (by omega)]
  congr 1
  obtain ⟨k, rfl⟩ : ∃ k, j = γ0.length + 1 + k := ⟨j - γ0.length - 1, by omega⟩
  rw [show γ0.length + 1 + k - γ0.length = k + 1 by omega, List.set_cons_succ]
  congr 2
theorem si_step {γ0 γ' : Ga} {cs : Chan} {N : Nat} {c : List Nat × List Nat} {x : Nat × Int} {y : D} {Q : Ga → Prop} (h : SiG γ0 cs N γ') (hN : N < 900000) (hy : keyT y = some (kC c)) (hq : ∀ γ'', SiG γ0 (addS cs c x) (N + 1) γ'' → Q γ'') :
    DSetD (γ' ++ [.lst []]) (.loc γ0.length) y (.loc γ'.length) fun d γ2 => ∃ j l, d = .loc j ∧ γ2[j]? = some (.lst l) ∧ l.length < 1000000 ∧ Q (γ2.set j (.lst (l ++ [sndD x]))) := by
  obtain ⟨zs, T, rfl, rfl, ⟨hz, hj, hc⟩, hl, hll⟩ := h
  have hlen : ∀ z ∈ zs, z.j < (γ0 ++ moT (psZ zs) :: T).length := fun z m => (List.getElem?_eq_some_iff.mp (hz z m).2).1
  refine .inr ⟨_, psZ zs, kC c, rfl, by simp, hy, by unfold psZ; rw [List.length_map]; omega, fun v hv => ?_, fun hn => ?_⟩
  · rcases split_z zs c with hno | ⟨A, z, B, rfl, rfl, hA⟩
    · rw [getZ_no hno] at hv; cases hv
    rw [getZ_at hA] at hv
    cases hv
    have hB : ∀ y ∈ B, y.c ≠ z.c := by
      rw [List.map_append, List.map_cons, List.nodup_append] at hc
      intro y hy e
      exact (List.nodup_cons.mp hc.2.1).1 (List.mem_map.mpr ⟨y, hy, e⟩)
    have hjA : ∀ y ∈ A, y.j ≠ z.j := by
      rw [List.map_append, List.map_cons, List.nodup_append] at hj
      exact fun y hy => hj.2.2 _ (List.mem_map.mpr ⟨y, hy, rfl⟩) _ List.mem_cons_self
    have hjB : ∀ y ∈ B, y.j ≠ z.j := by
      rw [List.map_append, List.map_cons, List.nodup_append] at hj
      intro y hy e
      exact (List.nodup_cons.mp hj.2.1).1 (List.mem_map.mpr ⟨y, hy, e⟩)
    have hm : z ∈ A ++ z :: B := by simp
    obtain ⟨z1, z2⟩ := hz z hm
    have zl := hlen z hm
    refine ⟨z.j, z.l.map sndD, rfl, ?_, by rw [List.length_map]; have := hll z hm; omega, hq _ ?_⟩
    · rw [List.getElem?_append_left zl]; exact z2
    refine ⟨A ++ ⟨z.c, z.l ++ [x], z.j⟩ :: B, (T ++ [MO.lst []]).set (z.j - γ0.length - 1) (MO.lst (z.l.map sndD ++ [sndD x])), ?_, (addS_at hA hB).symm, ⟨?_, ?_, ?_⟩, ?_, ?_⟩
    · rw [show γ0 ++ moT (psZ (A ++ z :: B)) :: T ++ [MO.lst []] = γ0 ++ moT (psZ (A ++ z :: B)) :: (T ++ [MO.lst []]) by simp, set_tail z1]
      congr 3
      unfold psZ
      simp
    · have keep : ∀ y ∈ A ++ z :: B, y.j ≠ z.j → γ0.length < y.j ∧ ((γ0 ++ moT (psZ (A ++ z :: B)) :: T ++ [MO.lst []]).set z.j (.lst (z.l.map sndD ++ [sndD x])))[y.j]? = some (.lst (y.l.map sndD)) := fun y hy e => by
        refine ⟨(hz y hy).1, ?_⟩
        rw [List.getElem?_set_ne (fun h => e h.symm), List.getElem?_append_left (hlen y hy)]
        exact (hz y hy).2
      intro y hy
      rcases List.mem_append.mp hy with hy | hy
      · exact keep y (by simp [hy]) (hjA y hy)
      rcases List.mem_cons.mp hy with rfl | hy
      · refine ⟨z1, ?_⟩
        show _ = some (MO.lst ((z.l ++ [x]).map sndD))
        rw [List.getElem?_set_self (by rw [List.length_append]; omega)]
        simp
      · exact keep y (by simp [hy]) (hjB y hy)
    · simpa using hj
    · simpa using hc
    · simp at hl ⊢; omega
    · intro y hy
      rcases List.mem_append.mp hy with hy | hy
      · have := hll y (by simp [hy]); omega
      rcases List.mem_cons.mp hy with rfl | hy
      · have := hll z hm
        simp; omega
      · have := hll y (by simp [hy]); omega
  · rcases split_z zs c with hno | ⟨A, z, B, rfl, rfl, hA⟩
    case inr => rw [getZ_at hA] at hn; cases hn
    have e1 : (γ0 ++ moT (psZ zs) :: T ++ [MO.lst []]).set γ0.length (moT (putP (psZ zs) (kC c) (.loc (γ0 ++ moT (psZ zs) :: T).length))) = γ0 ++ moT (psZ (zs ++ [⟨c, [x], (γ0 ++ moT (psZ zs) :: T).length⟩])) :: T ++ [MO.lst []] := by
      rw [putZ_no (l := [x]) hno]
      simp
    rw [e1]
    have hL : (γ0 ++ moT (psZ zs) :: T).length = (γ0 ++ moT (psZ (zs ++ [⟨c, [x], (γ0 ++ moT (psZ zs) :: T).length⟩])) :: T).length := by simp
    generalize hp : psZ (zs ++ [⟨c, [x], (γ0 ++ moT (psZ zs) :: T).length⟩]) = ps2 at *
    refine ⟨_, [], rfl, by rw [hL]; simp, by decide, hq _ ?_⟩
    refine ⟨zs ++ [⟨c, [x], (γ0 ++ moT (psZ zs) :: T).length⟩], T ++ [.lst [sndD x]], ?_, (addS_no hno).symm, ⟨?_, ?_, ?_⟩, ?_, ?_⟩
    · rw [hp, hL]
      simp
    · intro y hy
      rcases List.mem_append.mp hy with hy | hy
      · obtain ⟨y1, y2⟩ := hz y hy
        refine ⟨y1, ?_⟩
        have yl := hlen y hy
        rw [List.getElem?_set_ne (by omega), List.getElem?_append_left (by rw [← hL]; exact yl), ← y2, List.getElem?_append_right (by omega), List.getElem?_append_right (by omega)]
        obtain ⟨k, hk⟩ : ∃ k, y.j - γ0.length = k + 1 := ⟨y.j - γ0.length - 1, by omega⟩
        rw [hk]; rfl
      · obtain rfl := List.mem_singleton.mp hy
        refine ⟨by simp, ?_⟩
        show ((γ0 ++ moT ps2 :: T ++ [MO.lst []]).set (γ0 ++ moT (psZ zs) :: T).length _)[(γ0 ++ moT (psZ zs) :: T).length]? = _
        rw [List.getElem?_set_self (by simp)]
        rfl
    · rw [List.map_append, List.nodup_append]
      refine ⟨hj, by simp, ?_⟩
      intro a ha b hb
      obtain ⟨y, hy, rfl⟩ := List.mem_map.mp ha
      obtain rfl := List.mem_singleton.mp hb
      have := hlen y hy
      show y.j ≠ (γ0 ++ moT (psZ zs) :: T).length
      omega
    · rw [List.map_append, List.nodup_append]
      refine ⟨hc, by simp, ?_⟩
      intro a ha b hb
      obtain ⟨w, hw, rfl⟩ := List.mem_map.mp ha
      cases List.mem_singleton.mp hb
      exact hno w hw
    · simp; omega
    · intro y hy
      rcases List.mem_append.mp hy with hy | hy
      · have := hll y hy; omega
      · obtain rfl := List.mem_singleton.mp hy
        simp
theorem fzl_z {γ : Ga} {n : Nat} : ∀ zs : List Zs, (∀ z ∈ zs, n < z.j ∧ γ[z.j]? = some (.lst (z.l.map sndD))) → FzL γ n ((psZ zs).map (·.2)) ((chanPs (csZ zs)).map (·.2))
  | [], _ => .nil
  | z :: zs, h => .cons (.lst (Nat.le_of_lt (h z List.mem_cons_self).1) (h z List.mem_cons_self).2 (FzL.keep (loL_map (fun _ => rfl) _))) (fzl_z zs fun y hy => h y (List.mem_cons_of_mem _ hy))
theorem si_end {γ0 γ' : Ga} {cs : Chan} {N : Nat} {q : QD} (lo1 : loG γ0.length γ0 = true) (h : SiG γ0 cs N γ') (hq : q (.dit ((chanPs cs).map (·.1)) ((chanPs cs).map (·.2))) γ0) : Dr γ0.length q (.loc γ0.length) γ' := by
  obtain ⟨zs, T, rfl, rfl, ⟨hz, _⟩, _, _⟩ := h
  refine .inr ⟨_, γ0, moT (psZ zs) :: T, rfl, Nat.le_refl _, lo1, ?_, hq⟩
  have e : (chanPs (csZ zs)).map (·.1) = (psZ zs).map (·.1) := by simp [chanPs, csZ, psZ]
  rw [e]
  exact .dit (Nat.le_refl _) at_0 (fzl_z zs hz)
theorem isDD_si {γ0 γ' : Ga} {cs : Chan} {N : Nat} (h : SiG γ0 cs N γ') : IsDD γ' (.loc γ0.length) := by
  obtain ⟨zs, T, rfl, _⟩ := h
  refine .inr ⟨((psZ zs).map (·.1), (psZ zs).map (·.2)), ?_⟩
  unfold dvwT
  simp only [at_0]
theorem dl_sends_of {K : Frag} (T : Tx K mg) : DL_sends_of K (sp_sends_of K) := by
  rintro ds γ q e E0 lo1 lo2 ⟨R, rfl, ⟨hR, _, hro⟩, hq⟩
  refine dS_env (ρ' := [some (.tup (R.map rowD)), none, none, none, none, none]) rfl ?_
  unfold t_sends_of
  walk_at "GO"
  refine xs_for [2, 3] ?_
  walk_at "GO"
  refine ⟨fun i ρ' γ' => ∃ x2 x3 x4 x5, ρ' = [some (.tup (R.map rowD)), some (.loc γ.length), x2, x3, x4, x5] ∧ ∃ cs, SiG γ cs (i * 10000) γ' ∧ sndR (R.drop i) cs = sndsOf R, ⟨_, _, _, _, rfl, [], ⟨[], [], rfl, rfl, ⟨by simp, by simp, by simp⟩, by simp, by simp⟩, rfl⟩, ?_, ?_⟩
  · rintro i y ρ' γ' hy ⟨x2, x3, x4, x5, rfl, cs, hg, he⟩
    rw [List.getElem?_map] at hy
    obtain ⟨r, hr, rfl⟩ := Option.map_eq_some_iff.mp hy
    have hi := (List.getElem?_eq_some_iff.mp hr).1
    have hev := (hro r (List.mem_of_getElem? hr)).1
    rw [drop_at hr] at he
    refine dg_tup rfl (dgs_two ?_)
    refine xs_for [4, 5] (di_enumF ?_)
    walk_at "GO"
    refine ⟨_, r.2.map Ev.d, _, rfl, .inr (.inl rfl), by decide, by decide, fun j ρ' γ' => ∃ x4 x5, ρ' = [some (.tup (R.map rowD)), some (.loc γ.length), some (.str (S r.1)), some (.tup (r.2.map Ev.d)), x4, x5] ∧ ∃ cs', SiG γ cs' (i * 10000 + j) γ' ∧ sndEv r.1 (r.2.drop j) (j + 1) cs' = sndEv r.1 r.2 1 cs, ⟨_, _, rfl, cs, hg, rfl⟩, ?_, ?_⟩
    · rintro j y ρ' γ' hy ⟨x4, x5, rfl, cs', hg, hf⟩
      obtain ⟨d, hd, rfl⟩ := numD_at hy
      rw [List.getElem?_map] at hd
      obtain ⟨ev, hv, rfl⟩ := Option.map_eq_some_iff.mp hd
      have hjl := (List.getElem?_eq_some_iff.mp hv).1
      rw [drop_at hv] at hf
      refine dg_tup rfl (dgs_two ?_)
      cases ev with
      | snd p x =>
        rw [show (Ev.snd p x).d = D.tup [.str (S wSend), .str (S p), .int x] from rfl]
        walk_at "GO"
        refine de_dset ?_
        walk_at "GO"
        refine ⟨isDD_si hg, ?_⟩
        walk_at "GO"
        refine DSetD.mono (si_step (c := (r.1, p)) (x := (j + 1, x)) (Q := fun γ'' => SiG γ (addS cs' (r.1, p) (j + 1, x)) (i * 10000 + j + 1) γ'') hg (by omega) rfl fun _ h => h) ?_
        rintro d γ2 ⟨j', l, rfl, hj', hl', hQ⟩
        refine ⟨xty_lst ⟨_, vw_loc hj'⟩, ?_⟩
        walk_at "GO"
        refine rm_append hj' hl' ?_
        refine ⟨_, _, rfl, _, ?_, hf⟩
        rw [show sndD (j + 1, x) = .tup [.int (1 + (j : Nat)), .int x] by unfold sndD; rw [show ((j + 1 : Nat) : Int) = 1 + (j : Nat) by omega]] at hQ
        exact hQ
      | set ip v x =>
        rw [show (Ev.set ip v x).d = D.tup [.str (S (if ip = true then wInp else wSet)), .str (S v), .int x] from rfl]
        cases ip
        all_goals
          walk_at "GO"
          exact ⟨cs', hg.mono (by omega), hf⟩
      | rcv tk p v x =>
        rw [show (Ev.rcv tk p v x).d = D.tup [.str (S (if tk = true then wTake else wRcv)), .str (S p), .str (S v), .int x] from rfl]
        cases tk
        all_goals
          walk_at "GO"
          exact ⟨cs', hg.mono (by omega), hf⟩
      | chk =>
        rw [show Ev.chk.d = D.tup [.str (S wChk)] from rfl]
        walk_at "GO"
        exact ⟨cs', hg.mono (by omega), hf⟩
    · rintro ρ' γ' ⟨x4, x5, rfl, cs', hg, hf⟩
      rw [numD_len, List.length_map, List.drop_length] at hf
      refine ⟨_, _, _, _, rfl, cs', hg.mono (by rw [numD_len, List.length_map]; omega), ?_⟩
      rw [← he, show cs' = sndEv r.1 r.2 1 cs from hf]
      rfl
  · rintro ρ' γ' ⟨x2, x3, x4, x5, rfl, cs, hg, he⟩
    rw [List.length_map, List.drop_length] at he
    cases (show cs = sndsOf R from he)
    walk_at "GO"
    exact si_end lo1 hg hq
end
end K31

set_option Elab.async false
set_option linter.all false
set_option maxRecDepth 100000
set_option maxHeartbeats 4000000
namespace K31
open PySem PySem.Spec PyProof.Rows L2 DL
local macro_rules | `(tactic| walk_at "GO") => `(tactic| repeat' (first | with_reducible refine xs_seq ?_ | with_reducible refine xs_set ?_ | with_reducible refine xs_asg ?_ | with_reducible refine xs_if ?_ | with_reducible refine xs_ret ?_ | with_reducible refine xs_next ?_ | with_reducible refine xs_expr ?_ | with_reducible refine xs_fld ?_ | with_reducible refine xs_par ?_ | with_reducible refine xs_retN ?_ | with_reducible refine xs_brk ?_ | with_reducible refine xp_nil ?_ | with_reducible refine xp_cons ?_ | with_reducible refine xe_disp ?_ | with_reducible refine xe_dispM ?_ | with_reducible refine xs_cont ?_ | with_reducible refine da_nil ?_ | with_reducible refine da_cons ?_ | with_reducible refine de_int ?_ | with_reducible refine de_str ?_ | with_reducible refine de_bl ?_ | with_reducible refine de_non ?_ | with_reducible refine de_ty ?_ | ((with_reducible refine xe_var ?_); refine ⟨_, rfl, ?_⟩) | with_reducible refine de_op ?_ | with_reducible refine de_un ?_ | with_reducible refine de_call ?_ | with_reducible refine de_cb ?_ | with_reducible refine de_sl ?_ | with_reducible refine do_none ?_ | with_reducible refine do_some ?_ | with_reducible refine de_if ?_ | with_reducible refine de_andV ?_ | with_reducible refine de_orV ?_ | with_reducible refine de_notV ?_ | with_reducible refine de_chain ?_ | with_reducible refine dt_test ?_ | with_reducible refine dt_B ?_ | with_reducible refine dt_and ?_ | with_reducible refine dt_or ?_ | with_reducible refine dt_not ?_ | (with_reducible refine xe_tup ?_) | (with_reducible refine xe_lst ?_) | (with_reducible refine xe_lstM ?_) | with_reducible refine q_RECEIVING (by assumption) ?_ | (with_reducible refine de_meth ?_) | with_reducible refine xs_dput ?_ | with_reducible refine xs_daug ?_ | with_reducible refine de_dget ?_ | with_reducible refine de_dgt1 ?_ | with_reducible refine de_dgt2 ?_ | with_reducible refine de_din ?_ | with_reducible refine de_dnotin ?_ | with_reducible refine de_dnewK ?_ | with_reducible refine de_dnewT ?_ | with_reducible refine de_revL ?_ | (with_reducible refine de_bm ?_) | (with_reducible refine de_bm0 ?_) | (with_reducible refine ⟨isTy_str, ?_⟩) | (with_reducible refine ⟨xty_lst ⟨_, rfl⟩, ?_⟩) | (with_reducible refine ⟨xty_lst ⟨_, vw_loc at_0⟩, ?_⟩) | (with_reducible refine rm_append at_0 ?_ ?_) | (with_reducible refine rm_pop at_0 ?_) | (with_reducible refine rc_len (.inl (vw_loc at_0)) ?_) | (with_reducible refine ⟨xty_lst ⟨_, vw_loc at_1⟩, ?_⟩) | (with_reducible refine rm_append at_1 ?_ ?_) | (with_reducible refine rm_pop at_1 ?_) | (with_reducible refine rc_len (.inl (vw_loc at_1)) ?_) | (with_reducible refine ⟨xty_lst ⟨_, vw_loc at_2⟩, ?_⟩) | (with_reducible refine rm_append at_2 ?_ ?_) | (with_reducible refine rm_pop at_2 ?_) | (with_reducible refine rc_len (.inl (vw_loc at_2)) ?_) | with_reducible refine radd_int ?_ | with_reducible refine radd_S ?_ ?_ | with_reducible refine rsub_int ?_ | with_reducible refine req_int ?_ | with_reducible refine rne_int ?_ | with_reducible refine req_S ?_ | with_reducible refine rne_S ?_ | with_reducible refine rlt_int ?_ | with_reducible refine rle_int ?_ | with_reducible refine rgt_int ?_ | with_reducible refine rge_int ?_ | with_reducible refine rneg_int ?_ | with_reducible refine rin_sgn ?_ | with_reducible refine rni_sgn ?_ | with_reducible refine rc_len_S ?_ ?_ | with_reducible refine rc_int_bl ?_ | with_reducible refine rc_str_int ?_ ?_ | with_reducible refine rc_str_str ?_ | with_reducible refine rc_max2 ?_ | with_reducible refine rc_abs ?_ | with_reducible refine req_bl ?_ | with_reducible refine rne_bl ?_ | with_reducible refine rltg_i ?_ | with_reducible refine rleg_i ?_ | with_reducible refine rgtg_i ?_ | with_reducible refine rgeg_i ?_ | with_reducible refine rltg_b ?_ | with_reducible refine rleg_b ?_ | with_reducible refine rgtg_b ?_ | with_reducible refine rgeg_b ?_ | with_reducible refine rist ?_ | with_reducible refine rntt ?_ | with_reducible refine dt_truth ?_ | ((with_reducible refine xc_isi ?_); refine ⟨_, true, rfl, rfl, ?_⟩) | ((with_reducible refine xc_isi ?_); refine ⟨_, false, rfl, rfl, ?_⟩) | with_reducible refine di_str ?_ | with_reducible refine di_list ?_ | with_reducible refine di_tup ?_ | with_reducible refine di_rng1 ?_ | with_reducible refine di_rng2 ?_ | with_reducible refine ift ?_ | with_reducible refine iff_ ?_ | with_reducible refine ifnt ?_ | with_reducible refine ifnf ?_ | with_reducible refine rin_strs sq_c ?_ | with_reducible refine rni_strs sq_c ?_ | with_reducible refine rin_strs sq_t ?_ | with_reducible refine rni_strs sq_t ?_ | with_reducible refine rin_strs sq_l ?_ | with_reducible refine rni_strs sq_l ?_ | with_reducible refine rin_strs (sq_v rfl) ?_ | with_reducible refine rni_strs (sq_v rfl) ?_ | ((with_reducible refine rin_seq sq_c ?_ ?_ ?_); rfl; rfl) | ((with_reducible refine rin_seq sq_t ?_ ?_ ?_); rfl; rfl) | ((with_reducible refine rin_seq sq_l ?_ ?_ ?_); rfl; rfl) | ((with_reducible refine rin_seq (sq_v rfl) ?_ ?_ ?_); rfl; rfl) | ((with_reducible refine rni_seq sq_c ?_ ?_ ?_); rfl; rfl) | ((with_reducible refine rni_seq sq_t ?_ ?_ ?_); rfl; rfl) | ((with_reducible refine rni_seq sq_l ?_ ?_ ?_); rfl; rfl) | ((with_reducible refine rni_seq (sq_v rfl) ?_ ?_ ?_); rfl; rfl) | (with_reducible refine xix_tup ?_) | ((with_reducible refine xc_len ?_); refine ⟨_, sq_c, ?_⟩) | ((with_reducible refine xc_len ?_); refine ⟨_, sq_t, ?_⟩) | ((with_reducible refine xc_len ?_); refine ⟨_, sq_l, ?_⟩) | ((with_reducible refine xc_len ?_); refine ⟨_, (sq_v rfl), ?_⟩) | (with_reducible refine rm_count ?_) | (with_reducible refine ⟨_, rfl, ?_⟩) | (with_reducible refine ⟨_, at_h0, ?_⟩) | (with_reducible refine ⟨_, at_h1, ?_⟩) | (with_reducible refine ⟨_, at_h2, ?_⟩) | (with_reducible refine ⟨_, at_h3, ?_⟩) | (with_reducible refine ⟨_, .inl rfl, ?_⟩) | (with_reducible refine ⟨_, .inr rfl, ?_⟩) | (with_reducible refine ⟨_, _, rfl, ?_⟩) | ((with_reducible refine xix_lst ?_); refine ⟨_, rfl, _, rfl, ?_⟩) | ((with_reducible refine xadd_lst ?_); refine ⟨_, rfl, _, rfl, ?_, ?_⟩) | with_reducible refine rmul_int ?_ ?_ | with_reducible refine rmod_int ?_ ?_ | with_reducible refine rfdiv_int ?_ ?_ | with_reducible refine rpow_int ?_ ?_ | with_reducible refine xg_setL ?_ | refine ⟨_, _, _, _, rfl, rfl, rfl, rfl, ?_⟩ | with_reducible refine xg_name ?_ | with_reducible refine xg_tup rfl ?_ | with_reducible refine xgs_name ?_ | with_reducible refine xgs_nil ?_ | (with_reducible refine ⟨Nat.le_of_ble_eq_true rfl, ?_⟩) | (with_reducible refine ifdT (by decide) ?_) | (with_reducible refine ifdF (by decide) ?_) | (with_reducible refine ifnT (by decide) ?_) | (with_reducible refine ifnF (by decide) ?_) | (with_reducible refine ifbT (by decide) ?_) | (with_reducible refine ifbF (by decide) ?_) | fail))
section
variable {P : Program} {mg : Str → Option Value}
theorem putP_len {κ : Type} [DecidableEq κ] (ps : List (κ × D)) (k : κ) (v : D) : (putP ps k v).length ≤ ps.length + 1 := by
  unfold putP
  split <;> simp
def addOk {ε : Type} (l : List (EvN × EvN)) : Except ε (List (EvN × EvN)) → Except ε (List (EvN × EvN))
  | .ok l' => .ok (l ++ l')
  | .error e => .error e
def tkPs (t : Cnt) : List (Key × D) := t.map fun x => (.inr (S x.1), .int (x.2 : Nat))
theorem find_tk {p : List Nat} : ∀ t : Cnt, (tkPs t).find? (fun x => decide (x.1 = Sum.inr (S p))) = (t.find? fun x => decide (x.1 = p)).map fun x => ((Sum.inr (S x.1) : Key), D.int (x.2 : Nat))
  | [] => rfl
  | x :: t => by
    unfold tkPs
    rw [List.map_cons, List.find?_cons, List.find?_cons]
    by_cases e : x.1 = p
    · rw [decide_eq_true e, decide_eq_true (by rw [e])]; rfl
    · rw [decide_eq_false e, decide_eq_false (fun z => e (S_inj (Sum.inr.inj z)))]
      exact find_tk t
theorem get_tk {t : Cnt} {p : List Nat} : (getP (tkPs t) (.inr (S p))).getD (.int 0) = .int (cntAt t p : Nat) := by
  unfold getP cntAt
  rw [find_tk]
  cases t.find? fun x => decide (x.1 = p) <;> rfl
theorem put_tk {t : Cnt} {p : List Nat} {n : Nat} : putP (tkPs t) (.inr (S p)) (.int (n : Nat)) = tkPs (cntUp t p n) := by
  unfold putP cntUp
  have e : ((tkPs t).any fun x => decide (x.1 = Sum.inr (S p))) = t.any fun x => decide (x.1 = p) := by
    unfold tkPs
    rw [List.any_map]
    congr 1
    funext x
    show decide ((Sum.inr (S x.1) : Key) = Sum.inr (S p)) = _
    by_cases e : x.1 = p
    · rw [decide_eq_true e, decide_eq_true (by rw [e])]
    · rw [decide_eq_false e, decide_eq_false (fun z => e (S_inj (Sum.inr.inj z)))]
  rw [e]
  split
  · unfold tkPs
    rw [List.map_map, List.map_map]
    refine List.map_congr_left fun x _ => ?_
    show (if (Sum.inr (S x.1) : Key) = Sum.inr (S p) then _ else _) = ((Sum.inr (S (if x.1 = p then (x.1, n) else x).1) : Key), D.int ((if x.1 = p then (x.1, n) else x).2 : Nat))
    by_cases e : x.1 = p
    · rw [if_pos e, if_pos (by rw [e])]
    · rw [if_neg e, if_neg (fun z => e (S_inj (Sum.inr.inj z)))]
  · simp [tkPs]
theorem find_ch {c : List Nat × List Nat} : ∀ cs : Chan, (chanPs cs).find? (fun x => decide (x.1 = kC c)) = (cs.find? fun x => decide (x.1 = c)).map fun x => (kC x.1, chanD x.2)
  | [] => rfl
  | x :: t => by
    unfold chanPs
    rw [List.map_cons, List.find?_cons, List.find?_cons]
    by_cases e : x.1 = c
    · rw [decide_eq_true e, decide_eq_true (by rw [e])]; rfl
    · rw [decide_eq_false e, decide_eq_false (fun z => e (kC_inj z))]
      exact find_ch t
theorem get_ch {cs : Chan} {c : List Nat × List Nat} : (getP (chanPs cs) (kC c)).getD (.lst []) = chanD (chanAt cs c) := by
  unfold getP chanAt
  rw [find_ch]
  cases cs.find? fun x => decide (x.1 = c) <;> rfl
theorem cntUp_len {t : Cnt} {p : List Nat} {n : Nat} : (cntUp t p n).length ≤ t.length + 1 := by
  unfold cntUp
  split <;> simp
theorem lnkPs_len : ∀ (l : List (EvN × EvN)) (acc : List (List Key × D)), (lnkPs l acc).length ≤ acc.length + 2 * l.length
  | [], acc => by show acc.length ≤ _; simp
  | p :: l, acc => by
    have h := lnkPs_len l (putP (putP acc (kE p.1) (evD p.2)) (kE p.2) (evD p.1))
    have h1 := putP_len (putP acc (kE p.1) (evD p.2)) (kE p.2) (evD p.1)
    have h2 := putP_len acc (kE p.1) (evD p.2)
    show (lnkPs l (putP (putP acc (kE p.1) (evD p.2)) (kE p.2) (evD p.1))).length ≤ _
    simp only [List.length_cons]
    omega
theorem lnkPs_app (l : List (EvN × EvN)) (p : EvN × EvN) (acc : List (List Key × D)) : lnkPs (l ++ [p]) acc = putP (putP (lnkPs l acc) (kE p.1) (evD p.2)) (kE p.2) (evD p.1) := by
  unfold lnkPs
  rw [List.foldl_append]; rfl
theorem at_end {γ T : Ga} {a x : MO} {n : Nat} (h : n = γ.length + 1 + T.length) : (γ ++ a :: (T ++ [x]))[n]? = some x := by
  subst h
  rw [show γ ++ a :: (T ++ [x]) = (γ ++ a :: T) ++ [x] by simp, show γ.length + 1 + T.length = (γ ++ a :: T).length by simp; omega]
  exact List.getElem?_concat_length
theorem set_end {γ T : Ga} {a x y : MO} {n : Nat} (h : n = γ.length + 1 + T.length) : (γ ++ a :: (T ++ [x])).set n y = γ ++ a :: (T ++ [y]) := by
  subst h
  rw [show γ ++ a :: (T ++ [x]) = (γ ++ a :: T) ++ [x] by simp, show γ.length + 1 + T.length = (γ ++ a :: T).length by simp; omega, List.set_append_right _ _ (Nat.le_refl _)]
  simp
theorem isDD_K {γ : Ga} {k : Nat} {ps : List (Key × D)} (h : γ[k]? = some (moK ps)) : IsDD γ (.loc k) := .inl ⟨(ps.map (·.1), ps.map (·.2)), by unfold dvw; simp only [h]⟩
theorem isDD_T {γ : Ga} {k : Nat} {ps : List (List Key × D)} (h : γ[k]? = some (moT ps)) : IsDD γ (.loc k) := .inr ⟨(ps.map (·.1), ps.map (·.2)), by unfold dvwT; simp only [h]⟩
theorem isDD_dit {γ : Ga} {ks : List (List Key)} {vs : List D} : IsDD γ (.dit ks vs) := .inr ⟨(ks, vs), rfl⟩
theorem dvK {γ : Ga} {k : Nat} {ps : List (Key × D)} {y : D} {key : Key} (h : γ[k]? = some (moK ps)) (hy : keyD y = some key) : DV γ (.loc k) y (getP ps key) := .inl ⟨ps.map (·.1), ps.map (·.2), key, by unfold dvw; simp only [h], hy, valG_P.symm⟩
theorem dvTl {γ : Ga} {k : Nat} {ps : List (List Key × D)} {y : D} {key : List Key} (h : γ[k]? = some (moT ps)) (hy : keyT y = some key) : DV γ (.loc k) y (getP ps key) := .inr ⟨ps.map (·.1), ps.map (·.2), key, by unfold dvwT; simp only [h], hy, valG_P.symm⟩
theorem dvTd {γ : Ga} {ps : List (List Key × D)} {y : D} {key : List Key} (hy : keyT y = some key) : DV γ (.dit (ps.map (·.1)) (ps.map (·.2))) y (getP ps key) := .inr ⟨_, _, key, rfl, hy, valG_P.symm⟩
theorem put_lo {κ : Type} [DecidableEq κ] {m : Nat} {ps : List (κ × D)} {k : κ} {v : D} (hv : v.lo m = true) (h : ∀ p ∈ ps, p.2.lo m = true) : ∀ p ∈ putP ps k v, p.2.lo m = true := by
  unfold putP
  intro p hp
  split at hp
  · obtain ⟨x, hx, rfl⟩ := List.mem_map.mp hp
    split
    · exact hv
    · exact h x hx
  · rcases List.mem_append.mp hp with hp | hp
    · exact h p hp
    · cases List.mem_singleton.mp hp
      exact hv
theorem lnkPs_lo {m : Nat} : ∀ (l : List (EvN × EvN)) (acc : List (List Key × D)), (∀ p ∈ acc, p.2.lo m = true) → ∀ p ∈ lnkPs l acc, p.2.lo m = true
  | [], acc, h => h
  | x :: l, acc, h => lnkPs_lo l _ (put_lo rfl (put_lo rfl h))
theorem loL_all {m : Nat} : ∀ {ds : List D}, (∀ d ∈ ds, d.lo m = true) → loL m ds = true
  | [], _ => rfl
  | d :: ds, h => by
    show (d.lo m && loL m ds) = true
    rw [h d List.mem_cons_self, loL_all fun x hx => h x (List.mem_cons_of_mem _ hx)]; rfl
theorem lnk_lo {m : Nat} (l : List (EvN × EvN)) : loL m ((lnkPs l []).map (·.2)) = true := loL_all fun d hd => by
  obtain ⟨p, hp, rfl⟩ := List.mem_map.mp hd
  exact lnkPs_lo l [] (by simp) p hp
theorem dl_linked {K : Frag} (T : Tx K mg) (X : Te P K mg) : DL_linked K (sp_linked K) := by
  rintro ds γ q e E0 lo1 lo2 ⟨R, rfl, hRo, hq, he⟩
  obtain ⟨hR, hnd, hro⟩ := id hRo
  refine dS_env (ρ' := [some (.tup (R.map rowD)), none, none, none, none, none, none, none, none, none, none]) rfl ?_
  unfold t_linked
  walk_at "GO"
  refine ⟨R, rfl, hRo, ?_⟩
  generalize hcs : sndsOf R = cs at *
  walk_at "GO"
  refine xs_for [3, 4] ?_
  walk_at "GO"
  refine ⟨fun i ρ' γ' => ∃ x3 x4 x5 x6 x7 x8 x9 x10, ρ' = [some (.tup (R.map rowD)), some (.dit ((chanPs cs).map (·.1)) ((chanPs cs).map (·.2))), some (.loc γ.length), x3, x4, x5, x6, x7, x8, x9, x10] ∧ ∃ l T, γ' = γ ++ moT (lnkPs l []) :: T ∧ l.length ≤ i * 10000 ∧ addOk l (lnkR cs (R.drop i)) = lnkR cs R, ⟨_, _, _, _, _, _, _, _, rfl, [], [], rfl, Nat.zero_le _, ?_⟩, ?_, ?_⟩
  · show addOk [] (lnkR cs R) = _
    cases lnkR cs R <;> rfl
  · rintro i y ρ' γ' hy ⟨x3, x4, x5, x6, x7, x8, x9, x10, rfl, l0, T0, rfl, hl0, he0⟩
    rw [List.getElem?_map] at hy
    obtain ⟨r, hr, rfl⟩ := Option.map_eq_some_iff.mp hy
    have hi := (List.getElem?_eq_some_iff.mp hr).1
    have hev := (hro r (List.mem_of_getElem? hr)).1
    rw [drop_at hr] at he0
    refine dg_tup rfl (dgs_two ?_)
    walk_at "GO"
    refine xs_for [6, 7] (di_enumF ?_)
    walk_at "GO"
    generalize hn : (γ ++ moT (lnkPs l0 []) :: T0).length = n
    have hnl : n = γ.length + 1 + T0.length := by rw [← hn]; simp; omega
    refine ⟨_, r.2.map Ev.d, _, rfl, .inr (.inl rfl), by decide, by decide, fun j ρ' γ' => ∃ x6 x7 x8 x9 x10, ρ' = [some (.tup (R.map rowD)), some (.dit ((chanPs cs).map (·.1)) ((chanPs cs).map (·.2))), some (.loc γ.length), some (.str (S r.1)), some (.tup (r.2.map Ev.d)), some (.loc n), x6, x7, x8, x9, x10] ∧ ∃ l t, γ' = γ ++ moT (lnkPs l []) :: (T0 ++ [moK (tkPs t)]) ∧ l.length ≤ i * 10000 + j ∧ t.length ≤ j ∧ addOk l (lnkEv cs r.1 (r.2.drop j) (j + 1) t) = addOk l0 (lnkEv cs r.1 r.2 1 []), ⟨_, _, _, _, _, rfl, l0, [], ?_, by omega, Nat.le_refl _, rfl⟩, ?_, ?_⟩
    · simp [tkPs]
    · rintro j y ρ' γ' hy ⟨x6, x7, x8, x9, x10, rfl, l, t, rfl, hl, ht, hf⟩
      obtain ⟨d, hd, rfl⟩ := numD_at hy
      rw [List.getElem?_map] at hd
      obtain ⟨ev, hv, rfl⟩ := Option.map_eq_some_iff.mp hd
      have hjl := (List.getElem?_eq_some_iff.mp hv).1
      rw [drop_at hv] at hf
      refine dg_tup rfl (dgs_two ?_)
      cases ev with
      | snd p x =>
        rw [show (Ev.snd p x).d = D.tup [.str (S wSend), .str (S p), .int x] from rfl]
        walk_at "GO"
        exact ⟨_, _, _, _, _, rfl, l, t, rfl, by omega, by omega, hf⟩
      | set ip v x =>
        rw [show (Ev.set ip v x).d = D.tup [.str (S (if ip = true then wInp else wSet)), .str (S v), .int x] from rfl]
        cases ip
        all_goals
          walk_at "GO"
          exact ⟨_, _, _, _, _, rfl, l, t, rfl, by omega, by omega, hf⟩
      | rcv tk p v x =>
        rw [show (Ev.rcv tk p v x).d = D.tup [.str (S (if tk = true then wTake else wRcv)), .str (S p), .str (S v), .int x] from rfl]
        obtain ⟨w, hw, hw2⟩ : ∃ w, w ∈ RECEIVING_L ∧ (if tk = true then wTake else wRcv) = w := by cases tk <;> exact ⟨_, by decide, rfl⟩
        rw [hw2]
        have hat := at_end (γ := γ) (a := moT (lnkPs l [])) (x := moK (tkPs t)) hnl
        walk_at "GO"
        refine ifd (fun _ => ?_) (fun c => absurd hw c)
        walk_at "GO"
        refine ⟨isDD_K hat, ?_⟩
        walk_at "GO"
        refine ⟨_, dvK (key := .inr (S p)) hat rfl, ?_⟩
        rw [get_tk]
        walk_at "GO"
        refine .inl ⟨n, _, _, rfl, hat, rfl, by simp [tkPs]; omega, ?_⟩
        rw [set_end hnl, show ((cntAt t p : Nat) + 1 : Int) = ((cntAt t p + 1 : Nat) : Int) by omega, put_tk]
        walk_at "GO"
        refine ⟨isDD_dit, ?_⟩
        walk_at "GO"
        refine ⟨_, dvTd (key := kC (p, r.1)) rfl, ?_⟩
        rw [get_ch, show chanD (chanAt cs (p, r.1)) = .lst ((chanAt cs (p, r.1)).map sndD) from rfl]
        walk_at "GO"
        have rz : lnkEv cs r.1 (.rcv tk p v x :: r.2.drop (j + 1)) (j + 1) t = .error (j + 1) → ∀ rest, DrX γ.length e (He.ga K "BadRecord") ["number", "name", "reason"] [.int (1 + (j : Nat)), .str (S r.1), .str (S wMsg)] (γ ++ rest) := by
          intro hz rest
          rw [hz] at hf
          have h1 : lnkEv cs r.1 r.2 1 [] = .error (j + 1) := by
            cases h : lnkEv cs r.1 r.2 1 [] with
            | ok l' => rw [h] at hf; cases hf
            | error k => rw [h] at hf; cases hf; rfl
          have h2 : msgsOf R = .error (r.1, j + 1) := by
            unfold msgsOf
            rw [hcs, ← he0]
            unfold lnkR
            rw [h1]; rfl
          have := he r.1 (j + 1) h2
          unfold XR at this
          rw [show (1 : Int) + (j : Nat) = ((j + 1 : Nat) : Int) by omega]
          exact drx_keep lo1 rfl this
        refine ifd (fun c1 => ?_) (fun c1 => ?_)
        · walk_at "GO"
          refine ds_raise X.x_BadRecord.oex ?_
          walk_at "GO"
          refine ⟨rfl, by decide, by decide, [.str (S wMsg), .str (S r.1), .int (1 + (j : Nat))], ⟨frz1_str, frz1_str, frz1_int, trivial⟩, rz ?_ _⟩
          rw [List.length_map] at c1
          unfold lnkEv
          rw [List.getElem?_eq_none (by omega)]
        rw [List.length_map] at c1
        obtain ⟨⟨m, y⟩, hmy⟩ : ∃ my, (chanAt cs (p, r.1))[cntAt t p]? = some my := ⟨_, List.getElem?_eq_getElem (by omega)⟩
        have hix : atI ((chanAt cs (p, r.1)).map sndD) ((cntAt t p : Nat) : Int) = some (D.tup [.int (m : Nat), .int y]) := at_nat (by rw [List.getElem?_map, hmy]; rfl)
        walk_at "GO"
        refine xix_lst ⟨_, rfl, _, hix, ?_⟩
        walk_at "GO"
        refine ifnd (fun c2 => ?_) (fun c2 => ?_)
        · walk_at "GO"
          refine ds_raise X.x_BadRecord.oex ?_
          walk_at "GO"
          refine ⟨rfl, by decide, by decide, [.str (S wMsg), .str (S r.1), .int (1 + (j : Nat))], ⟨frz1_str, frz1_str, frz1_int, trivial⟩, rz ?_ _⟩
          unfold lnkEv
          rw [hmy]
          simp only
          rw [if_neg c2]
        · walk_at "GO"
          refine xix_lst ⟨_, rfl, _, hix, ?_⟩
          walk_at "GO"
          refine .inr ⟨γ.length, lnkPs l [], kE (p, m), rfl, at_0, rfl, by have := lnkPs_len l []; simp at this; omega, ?_⟩
          rw [set_0]
          walk_at "GO"
          refine xix_lst ⟨_, rfl, _, hix, ?_⟩
          walk_at "GO"
          refine .inr ⟨γ.length, _, kE (r.1, j + 1), rfl, at_0, ?_, by have h1 := lnkPs_len l []; have h2 := putP_len (lnkPs l []) (kE (p, m)) (.tup [.str (S r.1), .int (1 + (j : Nat))]); rw [List.length_nil] at h1; omega, ?_⟩
          · rw [show (1 : Int) + (j : Nat) = ((j + 1 : Nat) : Int) by omega]; rfl
          rw [set_0]
          refine ⟨_, _, _, _, _, rfl, l ++ [((p, m), (r.1, j + 1))], cntUp t p (cntAt t p + 1), ?_, by simp; omega, by have := @cntUp_len t p (cntAt t p + 1); omega, ?_⟩
          · rw [lnkPs_app, show (1 : Int) + (j : Nat) = ((j + 1 : Nat) : Int) by omega]; rfl
          · rw [← hf]
            conv => rhs; unfold lnkEv
            rw [hmy]
            simp only
            rw [if_pos c2]
            cases lnkEv cs r.1 (r.2.drop (j + 1)) (j + 1 + 1) (cntUp t p (cntAt t p + 1)) with
            | error k => rfl
            | ok l' => show Except.ok (l ++ [_] ++ l') = Except.ok (l ++ _ :: l'); rw [List.append_assoc]; rfl
      | chk =>
        rw [show Ev.chk.d = D.tup [.str (S wChk)] from rfl]
        walk_at "GO"
        exact ⟨_, _, _, _, _, rfl, l, t, rfl, by omega, by omega, hf⟩
    · rintro ρ' γ' ⟨x6, x7, x8, x9, x10, rfl, l, t, rfl, hl, ht, hf⟩
      rw [numD_len, List.length_map, List.drop_length] at hf
      rw [numD_len, List.length_map] at hl
      refine ⟨_, _, _, _, _, _, _, _, rfl, l, _, rfl, by omega, ?_⟩
      rw [← he0]
      conv => rhs; unfold lnkR
      cases h : lnkEv cs r.1 r.2 1 [] with
      | error k => rw [h] at hf; cases hf
      | ok l' =>
        rw [h] at hf
        have hf' : (Except.ok (l ++ []) : Except Nat (List (EvN × EvN))) = .ok (l0 ++ l') := hf
        rw [List.append_nil] at hf'
        cases hf'
        simp only
        cases lnkR cs (R.drop (i + 1)) with
        | error k => rfl
        | ok l2 => show Except.ok _ = Except.ok _; rw [List.append_assoc]
  · rintro ρ' γ' ⟨x3, x4, x5, x6, x7, x8, x9, x10, rfl, l, T, rfl, hl, he1⟩
    rw [List.length_map, List.drop_length] at he1
    have hm : msgsOf R = .ok l := by
      unfold msgsOf
      rw [hcs, ← he1]
      show Except.ok (l ++ []) = _
      rw [List.append_nil]
    walk_at "GO"
    rw [← List.append_nil (γ ++ moT (lnkPs l []) :: T)]
    refine .inr ⟨_, γ, moT (lnkPs l []) :: T ++ [], by simp, Nat.le_refl _, lo1, ?_, hq l hm⟩
    exact .dit (Nat.le_refl _) (by rw [List.append_nil]; exact at_0) (FzL.keep (lnk_lo l))
end
end K31

set_option Elab.async false
set_option linter.all false
set_option maxRecDepth 100000
set_option maxHeartbeats 4000000
namespace K31
open PySem PySem.Spec PyProof.Rows L2 DL
theorem getP_put {κ : Type} [DecidableEq κ] {ps : List (κ × D)} {k k' : κ} {v : D} : getP (putP ps k v) k' = if k = k' then some v else getP ps k' := by
  unfold putP
  by_cases ha : (ps.any fun p => decide (p.1 = k)) = true
  · rw [if_pos ha]
    unfold getP
    rw [List.find?_map]
    have e : ((fun p : κ × D => decide (p.1 = k')) ∘ fun p : κ × D => if p.1 = k then (p.1, v) else p) = fun p => decide (p.1 = k') := by
      funext p
      show decide ((if p.1 = k then (p.1, v) else p).1 = k') = _
      split <;> rfl
    rw [e]
    cases hf : ps.find? fun p => decide (p.1 = k') with
    | none =>
      by_cases hk : k = k'
      · subst hk
        rw [List.find?_eq_none] at hf
        rw [List.any_eq_true] at ha
        obtain ⟨p, hp, hpk⟩ := ha
        exact absurd hpk (hf p hp)
      · rw [if_neg hk]; rfl
    | some p =>
      have hp : p.1 = k' := by simpa using List.find?_some hf
      by_cases hk : k = k'
      · rw [if_pos hk]
        show some (if p.1 = k then (p.1, v) else p).2 = some v
        rw [if_pos (hp.trans hk.symm)]
      · rw [if_neg hk]
        show some (if p.1 = k then (p.1, v) else p).2 = some p.2
        rw [if_neg (fun c => hk (c.symm.trans hp))]
  · rw [if_neg ha]
    have hno : ∀ p ∈ ps, p.1 ≠ k := fun p hp c => ha (List.any_eq_true.mpr ⟨p, hp, by simpa using c⟩)
    unfold getP
    rw [List.find?_append]
    by_cases hk : k = k'
    · subst hk
      have : ps.find? (fun p => decide (p.1 = k)) = none := by
        rw [List.find?_eq_none]
        intro p hp
        simpa using hno p hp
      rw [this]
      simp
    · rw [if_neg hk]
      simp [hk]
theorem kE_inj {a b : EvN} (h : kE a = kE b) : a = b := by
  obtain ⟨a1, a2⟩ := a
  obtain ⟨b1, b2⟩ := b
  unfold kE at h
  simp only [List.cons.injEq, Sum.inr.injEq, Sum.inl.injEq, and_true] at h
  rw [S_inj h.1, show a2 = b2 by omega]
theorem lnk_get_rev {e : EvN} : ∀ l : List (EvN × EvN), (∀ p ∈ l, p.1 ≠ e) → getP (lnkPs l.reverse []) (kE e) = ((l.find? fun p => decide (p.2 = e)).map (·.1)).map evD
  | [], _ => rfl
  | p :: l, h => by
    rw [List.reverse_cons, lnkPs_app, getP_put, getP_put, List.find?_cons]
    by_cases c : p.2 = e
    · rw [if_pos (by rw [c]), decide_eq_true c]; rfl
    · rw [if_neg (fun z => c (kE_inj z)), if_neg (fun z => h p List.mem_cons_self (kE_inj z)), decide_eq_false c]
      exact lnk_get_rev l fun q hq => h q (List.mem_cons_of_mem _ hq)
theorem lnk_get {e : EvN} {l : List (EvN × EvN)} (h : ∀ p ∈ l, p.1 ≠ e) : getP (lnkPs l []) (kE e) = (sndFor l e).map evD := by
  have := lnk_get_rev (e := e) l.reverse fun p hp => h p (List.mem_reverse.mp hp)
  rw [List.reverse_reverse] at this
  exact this
/-! ### the messages of rows -/
def GoodS (R : List Row) (c : List Nat × List Nat) (my : Nat × Int) : Prop := ∃ r ∈ R, r.1 = c.1 ∧ ∃ k, my.1 = k + 1 ∧ r.2[k]? = some (.snd c.2 my.2)
theorem add_good {R : List Row} {cs : Chan} {c : List Nat × List Nat} {x : Nat × Int} (h : ∀ p ∈ cs, ∀ y ∈ p.2, GoodS R p.1 y) (hx : GoodS R c x) : ∀ p ∈ addS cs c x, ∀ y ∈ p.2, GoodS R p.1 y := by
  unfold addS
  split
  · intro p hp y hy
    obtain ⟨q, hq, rfl⟩ := List.mem_map.mp hp
    by_cases e : q.1 = c
    · rw [if_pos e] at hy ⊢
      rcases List.mem_append.mp hy with hy | hy
      · exact h q hq y hy
      · cases List.mem_singleton.mp hy
        rw [show (q.1, q.2 ++ [x]).1 = c from e]
        exact hx
    · rw [if_neg e] at hy ⊢
      exact h q hq y hy
  · intro p hp y hy
    rcases List.mem_append.mp hp with hp | hp
    · exact h p hp y hy
    · cases List.mem_singleton.mp hp
      cases List.mem_singleton.mp hy
      exact hx
theorem sndEv_good {R : List Row} {r : Row} (hr : r ∈ R) : ∀ (es : List Ev) (k : Nat) (cs : Chan), r.2.drop k = es → (∀ p ∈ cs, ∀ y ∈ p.2, GoodS R p.1 y) → ∀ p ∈ sndEv r.1 es (k + 1) cs, ∀ y ∈ p.2, GoodS R p.1 y
  | [], _, _, _, h => h
  | ev :: es, k, cs, hd, h => by
    have hd2 : r.2.drop (k + 1) = es := by rw [← List.drop_drop, hd]; rfl
    have hk : r.2[k]? = some ev := by
      have := congrArg (fun l => l[0]?) hd
      simpa using this
    cases ev with
    | snd q x => exact sndEv_good hr es (k + 1) _ hd2 (add_good h ⟨r, hr, rfl, k, rfl, hk⟩)
    | set => exact sndEv_good hr es (k + 1) _ hd2 h
    | rcv => exact sndEv_good hr es (k + 1) _ hd2 h
    | chk => exact sndEv_good hr es (k + 1) _ hd2 h
theorem sndR_good {R : List Row} : ∀ (rs : List Row) (cs : Chan), (∀ r ∈ rs, r ∈ R) → (∀ p ∈ cs, ∀ y ∈ p.2, GoodS R p.1 y) → ∀ p ∈ sndR rs cs, ∀ y ∈ p.2, GoodS R p.1 y
  | [], _, _, h => h
  | r :: rs, cs, hm, h => sndR_good rs _ (fun x hx => hm x (List.mem_cons_of_mem _ hx)) (sndEv_good (hm r List.mem_cons_self) r.2 0 cs rfl h)
theorem chan_good {R : List Row} {c : List Nat × List Nat} {y : Nat × Int} (h : y ∈ chanAt (sndsOf R) c) : GoodS R c y := by
  unfold chanAt at h
  cases hf : (sndsOf R).find? fun p => decide (p.1 = c) with
  | none => rw [hf] at h; cases h
  | some p =>
    rw [hf] at h
    have e : p.1 = c := by simpa using List.find?_some hf
    have := sndR_good (R := R) R [] (fun _ h => h) (by simp) p (List.mem_of_find?_eq_some hf) y h
    rwa [e] at this
theorem lnkEv_ok {cs : Chan} {nm : List Nat} : ∀ (es : List Ev) (i : Nat) (t : Cnt) (l : List (EvN × EvN)), lnkEv cs nm es i t = .ok l →
    (∀ p ∈ l, ∃ y, (p.1.2, y) ∈ chanAt cs (p.1.1, nm)) ∧ ∀ k tk q v x, es[k]? = some (.rcv tk q v x) → ∃ p ∈ l, p.2 = (nm, i + k)
  | [], i, t, l, h => by
    cases h
    exact ⟨by simp, by simp⟩
  | ev :: es, i, t, l, h => by
    cases ev with
    | rcv tk p v x =>
      unfold lnkEv at h
      cases hc : (chanAt cs (p, nm))[cntAt t p]? with
      | none => rw [hc] at h; cases h
      | some my =>
        obtain ⟨m, y⟩ := my
        rw [hc] at h
        simp only at h
        by_cases e : y = x
        · rw [if_pos e] at h
          cases hl : lnkEv cs nm es (i + 1) (cntUp t p (cntAt t p + 1)) with
          | error k => rw [hl] at h; cases h
          | ok l' =>
            rw [hl] at h
            cases h
            obtain ⟨h1, h2⟩ := lnkEv_ok es _ _ _ hl
            refine ⟨fun q hq => ?_, fun k tk' q' v' x' hk => ?_⟩
            · rcases List.mem_cons.mp hq with rfl | hq
              · exact ⟨y, List.mem_of_getElem? hc⟩
              · exact h1 q hq
            · cases k with
              | zero => exact ⟨_, List.mem_cons_self, rfl⟩
              | succ k =>
                obtain ⟨q, hq, e⟩ := h2 k tk' q' v' x' (by simpa using hk)
                exact ⟨q, List.mem_cons_of_mem _ hq, by rw [e]; congr 1; omega⟩
        · rw [if_neg e] at h; cases h
    | snd q x =>
      obtain ⟨h1, h2⟩ := lnkEv_ok es (i + 1) t l h
      refine ⟨h1, fun k tk' q' v' x' hk => ?_⟩
      cases k with
      | zero => cases hk
      | succ k =>
        obtain ⟨q, hq, e⟩ := h2 k tk' q' v' x' (by simpa using hk)
        exact ⟨q, hq, by rw [e]; congr 1; omega⟩
    | set ip v x =>
      obtain ⟨h1, h2⟩ := lnkEv_ok es (i + 1) t l h
      refine ⟨h1, fun k tk' q' v' x' hk => ?_⟩
      cases k with
      | zero => cases hk
      | succ k =>
        obtain ⟨q, hq, e⟩ := h2 k tk' q' v' x' (by simpa using hk)
        exact ⟨q, hq, by rw [e]; congr 1; omega⟩
    | chk =>
      obtain ⟨h1, h2⟩ := lnkEv_ok es (i + 1) t l h
      refine ⟨h1, fun k tk' q' v' x' hk => ?_⟩
      cases k with
      | zero => cases hk
      | succ k =>
        obtain ⟨q, hq, e⟩ := h2 k tk' q' v' x' (by simpa using hk)
        exact ⟨q, hq, by rw [e]; congr 1; omega⟩
theorem lnkR_ok {cs : Chan} : ∀ (R : List Row) (l : List (EvN × EvN)), lnkR cs R = .ok l →
    (∀ p ∈ l, ∃ nm y, (p.1.2, y) ∈ chanAt cs (p.1.1, nm)) ∧ ∀ r ∈ R, ∀ k tk q v x, r.2[k]? = some (.rcv tk q v x) → ∃ p ∈ l, p.2 = (r.1, k + 1)
  | [], l, h => by
    cases h
    exact ⟨by simp, by simp⟩
  | r :: R, l, h => by
    unfold lnkR at h
    cases h1 : lnkEv cs r.1 r.2 1 [] with
    | error i => rw [h1] at h; cases h
    | ok l1 =>
      rw [h1] at h
      simp only at h
      cases h2 : lnkR cs R with
      | error i => rw [h2] at h; cases h
      | ok l2 =>
        rw [h2] at h
        cases h
        obtain ⟨a1, a2⟩ := lnkEv_ok _ _ _ _ h1
        obtain ⟨b1, b2⟩ := lnkR_ok R l2 h2
        refine ⟨fun p hp => ?_, fun r' hr k tk q v x hk => ?_⟩
        · rcases List.mem_append.mp hp with hp | hp
          · obtain ⟨y, hy⟩ := a1 p hp
            exact ⟨_, y, hy⟩
          · exact b1 p hp
        · rcases List.mem_cons.mp hr with rfl | hr
          · obtain ⟨p, hp, e⟩ := a2 k tk q v x hk
            exact ⟨p, List.mem_append_left _ hp, by rw [e]; congr 1; omega⟩
          · obtain ⟨p, hp, e⟩ := b2 r' hr k tk q v x hk
            exact ⟨p, List.mem_append_right _ hp, e⟩
theorem row_uniq {R : List Row} (h : (namesOf R).Nodup) {a b : Row} (ha : a ∈ R) (hb : b ∈ R) (e : a.1 = b.1) : a = b := by
  induction R with
  | nil => cases ha
  | cons r R ih =>
    obtain ⟨h1, h2⟩ := List.nodup_cons.mp (show ((r :: R).map (·.1)).Nodup from h)
    rcases List.mem_cons.mp ha with e1 | ha1
    · rcases List.mem_cons.mp hb with e2 | hb1
      · rw [e1, e2]
      · exact absurd (show r.1 ∈ R.map (·.1) from List.mem_map.mpr ⟨b, hb1, by rw [← e1]; exact e.symm⟩) h1
    · rcases List.mem_cons.mp hb with e2 | hb1
      · exact absurd (show r.1 ∈ R.map (·.1) from List.mem_map.mpr ⟨a, ha1, by rw [← e2]; exact e⟩) h1
      · exact ih h2 ha1 hb1
/-- a receipt has its send -/
theorem rcv_link {R : List Row} {l : List (EvN × EvN)} (hn : (namesOf R).Nodup) (hm : msgsOf R = .ok l) {r : Row} (hr : r ∈ R) {k : Nat} {tk : Bool} {q v : List Nat} {x : Int} (hk : r.2[k]? = some (.rcv tk q v x)) :
    ∃ a m, sndFor l (r.1, k + 1) = some (a, m) ∧ getP (lnkPs l []) (kE (r.1, k + 1)) = some (evD (a, m)) ∧ a ∈ namesOf R := by
  obtain ⟨h1, h2⟩ := lnkR_ok R l hm
  have hg : ∀ p ∈ l, ∃ nm y, GoodS R (p.1.1, nm) (p.1.2, y) := fun p hp => by
    obtain ⟨nm, y, h⟩ := h1 p hp
    exact ⟨nm, y, chan_good h⟩
  have hne : ∀ p ∈ l, p.1 ≠ (r.1, k + 1) := fun p hp e => by
    obtain ⟨nm, y, r', hr', e1, k', e2, e3⟩ := hg p hp
    have er : r' = r := row_uniq hn hr' hr (by rw [e1, e])
    subst er
    have : k' = k := by rw [e] at e2; simp at e2; omega
    subst this
    rw [hk] at e3
    cases e3
  obtain ⟨p, hp, e⟩ := h2 r hr k tk q v x hk
  cases hs : sndFor l (r.1, k + 1) with
  | none =>
    unfold sndFor at hs
    rw [Option.map_eq_none_iff, List.find?_eq_none] at hs
    exact absurd (by simpa using e) (hs p (List.mem_reverse.mpr hp))
  | some am =>
    obtain ⟨a, m⟩ := am
    refine ⟨a, m, rfl, by rw [lnk_get hne, hs]; rfl, ?_⟩
    unfold sndFor at hs
    obtain ⟨q', hq', eq⟩ := Option.map_eq_some_iff.mp hs
    obtain ⟨nm, y, r', hr', e1, _⟩ := hg q' (List.mem_reverse.mp (List.mem_of_find?_eq_some hq'))
    exact List.mem_map.mpr ⟨r', hr', by rw [e1, eq]⟩
/-! ### places -/
theorem place_mem {pl : List (List Nat × Nat)} (hn : (pl.map (·.1)).Nodup) {x : List Nat × Nat} (hx : x ∈ pl) : placeOf pl x.1 = x.2 := by
  unfold placeOf
  induction pl with
  | nil => cases hx
  | cons y pl ih =>
    obtain ⟨h1, h2⟩ := List.nodup_cons.mp hn
    rw [List.find?_cons]
    rcases List.mem_cons.mp hx with rfl | hx
    · simp
    · rw [decide_eq_false (fun e => h1 (List.mem_map.mpr ⟨x, hx, e.symm⟩))]
      exact ih h2 hx
theorem up_cnt {pl : List (List Nat × Nat)} (hn : (pl.map (·.1)).Nodup) {a : List Nat} (ha : a ∈ pl.map (·.1)) : cntUp pl a (placeOf pl a + 1) = plUp pl a := by
  unfold cntUp plUp
  obtain ⟨x, hx, rfl⟩ := List.mem_map.mp ha
  rw [if_pos (List.any_eq_true.mpr ⟨x, hx, by simp⟩)]
  refine List.map_congr_left fun y hy => ?_
  by_cases e : y.1 = x.1
  · rw [if_pos e, if_pos e, ← e, place_mem hn hy]
  · rw [if_neg e, if_neg e]
theorem up_keys {pl : List (List Nat × Nat)} {a : List Nat} : (plUp pl a).map (·.1) = pl.map (·.1) := by
  unfold plUp
  rw [List.map_map]
  refine List.map_congr_left fun y _ => ?_
  show (if y.1 = a then (y.1, y.2 + 1) else y).1 = y.1
  split <;> rfl
theorem place_up {pl : List (List Nat × Nat)} (hn : (pl.map (·.1)).Nodup) {a b : List Nat} (hb : b ∈ pl.map (·.1)) : placeOf (plUp pl a) b = if b = a then placeOf pl b + 1 else placeOf pl b := by
  obtain ⟨x, hx, rfl⟩ := List.mem_map.mp hb
  have hk : ((plUp pl a).map (·.1)).Nodup := by rw [up_keys]; exact hn
  have h1 := place_mem hk (show (if x.1 = a then (x.1, x.2 + 1) else x) ∈ plUp pl a from List.mem_map.mpr ⟨x, hx, rfl⟩)
  have h2 := place_mem hn hx
  rw [h2]
  by_cases e : x.1 = a
  · rw [if_pos e] at h1 ⊢
    exact h1
  · rw [if_neg e] at h1 ⊢
    exact h1
theorem sum_up {a : List Nat} : ∀ {pl : List (List Nat × Nat)}, (pl.map (·.1)).Nodup → a ∈ pl.map (·.1) → ((plUp pl a).map (·.2)).sum = (pl.map (·.2)).sum + 1
  | [], _, h => by cases h
  | x :: pl, hn, ha => by
    obtain ⟨h1, h2⟩ := List.nodup_cons.mp hn
    by_cases e : x.1 = a
    · have hno : plUp pl a = pl := by
        unfold plUp
        conv => rhs; rw [← List.map_id pl]
        refine List.map_congr_left fun y hy => ?_
        rw [if_neg (fun z => h1 (List.mem_map.mpr ⟨y, hy, z.trans e.symm⟩))]; rfl
      show ((if x.1 = a then (x.1, x.2 + 1) else x) :: plUp pl a |>.map (·.2)).sum = _
      rw [hno, if_pos e]
      simp
      omega
    · have ih := sum_up h2 (by
        rcases List.mem_cons.mp ha with z | z
        · exact absurd z.symm e
        · exact z)
      show ((if x.1 = a then (x.1, x.2 + 1) else x) :: plUp pl a |>.map (·.2)).sum = _
      rw [if_neg e]
      simp only [List.map_cons, List.sum_cons]
      rw [ih]
      omega
theorem sum_le : ∀ {pl : List (List Nat × Nat)} {R : List Row}, pl.map (·.1) = namesOf R → (namesOf R).Nodup → (∀ r ∈ R, placeOf pl r.1 ≤ r.2.length) → (pl.map (·.2)).sum ≤ evCount R
  | [], _, _, _, _ => Nat.zero_le _
  | x :: pl, [], h, _, _ => by cases h
  | x :: pl, r :: R, h, hn, hp => by
    have hh : x.1 = r.1 ∧ pl.map (·.1) = namesOf R := by
      have h' : x.1 :: pl.map (·.1) = r.1 :: namesOf R := h
      exact List.cons.inj h'
    obtain ⟨e, h'⟩ := hh
    obtain ⟨h1, h2⟩ := List.nodup_cons.mp (show (r.1 :: namesOf R).Nodup from hn)
    have ih := sum_le h' h2 fun r' hr' => by
      have := hp r' (List.mem_cons_of_mem _ hr')
      unfold placeOf at this ⊢
      rw [List.find?_cons, decide_eq_false (fun z => h1 (List.mem_map.mpr ⟨r', hr', by rw [← z, e]⟩))] at this
      exact this
    have h3 := hp r List.mem_cons_self
    rw [← e, place_mem (by rw [h]; exact hn) List.mem_cons_self] at h3
    show x.2 + (pl.map (·.2)).sum ≤ r.2.length + evCount R
    omega
/-- places within the rows -/
structure Jn (R : List Row) (s : Run) : Prop where
  keys : s.1.map (·.1) = namesOf R
  le : ∀ r ∈ R, placeOf s.1 r.1 ≤ r.2.length
  len : s.2.length = (s.1.map (·.2)).sum
theorem Jn.bound {R : List Row} {s : Run} (h : Jn R s) (hn : (namesOf R).Nodup) : s.2.length ≤ evCount R := by
  rw [h.len]
  exact sum_le h.keys hn h.le
theorem Jn.step {R : List Row} {s : Run} (h : Jn R s) (hn : (namesOf R).Nodup) {r : Row} (hr : r ∈ R) (hlt : placeOf s.1 r.1 < r.2.length) {e : EvN} : Jn R (plUp s.1 r.1, s.2 ++ [e]) := by
  have hk : (s.1.map (·.1)).Nodup := by rw [h.keys]; exact hn
  have hm : ∀ x ∈ R, x.1 ∈ s.1.map (·.1) := fun x hx => by rw [h.keys]; exact List.mem_map.mpr ⟨x, hx, rfl⟩
  refine ⟨up_keys.trans h.keys, fun x hx => ?_, ?_⟩
  · show placeOf (plUp s.1 r.1) x.1 ≤ _
    rw [place_up hk (hm x hx)]
    split
    · rename_i e
      cases row_uniq hn hx hr e
      omega
    · exact h.le x hx
  · show (s.2 ++ [e]).length = ((plUp s.1 r.1).map (·.2)).sum
    rw [sum_up hk (hm r hr), List.length_append, h.len]; rfl
end K31

set_option Elab.async false
set_option linter.all false
set_option maxRecDepth 100000
set_option maxHeartbeats 4000000
namespace K31
open PySem PySem.Spec PyProof.Rows L2 DL
local macro_rules | `(tactic| walk_at "GO") => `(tactic| repeat' (first | with_reducible refine xs_seq ?_ | with_reducible refine xs_set ?_ | with_reducible refine xs_asg ?_ | with_reducible refine xs_if ?_ | with_reducible refine xs_ret ?_ | with_reducible refine xs_next ?_ | with_reducible refine xs_expr ?_ | with_reducible refine xs_fld ?_ | with_reducible refine xs_par ?_ | with_reducible refine xs_retN ?_ | with_reducible refine xs_brk ?_ | with_reducible refine xp_nil ?_ | with_reducible refine xp_cons ?_ | with_reducible refine xe_disp ?_ | with_reducible refine xe_dispM ?_ | with_reducible refine xs_cont ?_ | with_reducible refine da_nil ?_ | with_reducible refine da_cons ?_ | with_reducible refine de_int ?_ | with_reducible refine de_str ?_ | with_reducible refine de_bl ?_ | with_reducible refine de_non ?_ | with_reducible refine de_ty ?_ | ((with_reducible refine xe_var ?_); refine ⟨_, rfl, ?_⟩) | with_reducible refine de_op ?_ | with_reducible refine de_un ?_ | with_reducible refine de_call ?_ | with_reducible refine de_cb ?_ | with_reducible refine de_sl ?_ | with_reducible refine do_none ?_ | with_reducible refine do_some ?_ | with_reducible refine de_if ?_ | with_reducible refine de_andV ?_ | with_reducible refine de_orV ?_ | with_reducible refine de_notV ?_ | with_reducible refine de_chain ?_ | with_reducible refine dt_test ?_ | with_reducible refine dt_B ?_ | with_reducible refine dt_and ?_ | with_reducible refine dt_or ?_ | with_reducible refine dt_not ?_ | (with_reducible refine xe_tup ?_) | (with_reducible refine xe_lst ?_) | (with_reducible refine xe_lstM ?_) | with_reducible refine q_RECEIVING (by assumption) ?_ | (with_reducible refine de_meth ?_) | with_reducible refine xs_dput ?_ | with_reducible refine xs_daug ?_ | with_reducible refine de_dget ?_ | with_reducible refine de_dgt1 ?_ | with_reducible refine de_dgt2 ?_ | with_reducible refine de_din ?_ | with_reducible refine de_dnotin ?_ | with_reducible refine de_dnewK ?_ | with_reducible refine de_dnewT ?_ | with_reducible refine de_revL ?_ | (with_reducible refine de_bm ?_) | (with_reducible refine de_bm0 ?_) | (with_reducible refine ⟨isTy_str, ?_⟩) | (with_reducible refine ⟨xty_lst ⟨_, rfl⟩, ?_⟩) | (with_reducible refine ⟨xty_lst ⟨_, vw_loc at_0⟩, ?_⟩) | (with_reducible refine rm_append at_0 ?_ ?_) | (with_reducible refine rm_pop at_0 ?_) | (with_reducible refine rc_len (.inl (vw_loc at_0)) ?_) | (with_reducible refine ⟨xty_lst ⟨_, vw_loc at_1⟩, ?_⟩) | (with_reducible refine rm_append at_1 ?_ ?_) | (with_reducible refine rm_pop at_1 ?_) | (with_reducible refine rc_len (.inl (vw_loc at_1)) ?_) | (with_reducible refine ⟨xty_lst ⟨_, vw_loc at_2⟩, ?_⟩) | (with_reducible refine rm_append at_2 ?_ ?_) | (with_reducible refine rm_pop at_2 ?_) | (with_reducible refine rc_len (.inl (vw_loc at_2)) ?_) | with_reducible refine radd_int ?_ | with_reducible refine radd_S ?_ ?_ | with_reducible refine rsub_int ?_ | with_reducible refine req_int ?_ | with_reducible refine rne_int ?_ | with_reducible refine req_S ?_ | with_reducible refine rne_S ?_ | with_reducible refine rlt_int ?_ | with_reducible refine rle_int ?_ | with_reducible refine rgt_int ?_ | with_reducible refine rge_int ?_ | with_reducible refine rneg_int ?_ | with_reducible refine rin_sgn ?_ | with_reducible refine rni_sgn ?_ | with_reducible refine rc_len_S ?_ ?_ | with_reducible refine rc_int_bl ?_ | with_reducible refine rc_str_int ?_ ?_ | with_reducible refine rc_str_str ?_ | with_reducible refine rc_max2 ?_ | with_reducible refine rc_abs ?_ | with_reducible refine req_bl ?_ | with_reducible refine rne_bl ?_ | with_reducible refine rltg_i ?_ | with_reducible refine rleg_i ?_ | with_reducible refine rgtg_i ?_ | with_reducible refine rgeg_i ?_ | with_reducible refine rltg_b ?_ | with_reducible refine rleg_b ?_ | with_reducible refine rgtg_b ?_ | with_reducible refine rgeg_b ?_ | with_reducible refine rist ?_ | with_reducible refine rntt ?_ | with_reducible refine dt_truth ?_ | ((with_reducible refine xc_isi ?_); refine ⟨_, true, rfl, rfl, ?_⟩) | ((with_reducible refine xc_isi ?_); refine ⟨_, false, rfl, rfl, ?_⟩) | with_reducible refine di_str ?_ | with_reducible refine di_list ?_ | with_reducible refine di_tup ?_ | with_reducible refine di_rng1 ?_ | with_reducible refine di_rng2 ?_ | with_reducible refine ift ?_ | with_reducible refine iff_ ?_ | with_reducible refine ifnt ?_ | with_reducible refine ifnf ?_ | with_reducible refine rin_strs sq_c ?_ | with_reducible refine rni_strs sq_c ?_ | with_reducible refine rin_strs sq_t ?_ | with_reducible refine rni_strs sq_t ?_ | with_reducible refine rin_strs sq_l ?_ | with_reducible refine rni_strs sq_l ?_ | with_reducible refine rin_strs (sq_v rfl) ?_ | with_reducible refine rni_strs (sq_v rfl) ?_ | ((with_reducible refine rin_seq sq_c ?_ ?_ ?_); rfl; rfl) | ((with_reducible refine rin_seq sq_t ?_ ?_ ?_); rfl; rfl) | ((with_reducible refine rin_seq sq_l ?_ ?_ ?_); rfl; rfl) | ((with_reducible refine rin_seq (sq_v rfl) ?_ ?_ ?_); rfl; rfl) | ((with_reducible refine rni_seq sq_c ?_ ?_ ?_); rfl; rfl) | ((with_reducible refine rni_seq sq_t ?_ ?_ ?_); rfl; rfl) | ((with_reducible refine rni_seq sq_l ?_ ?_ ?_); rfl; rfl) | ((with_reducible refine rni_seq (sq_v rfl) ?_ ?_ ?_); rfl; rfl) | (with_reducible refine xix_tup ?_) | ((with_reducible refine xc_len ?_); refine ⟨_, sq_c, ?_⟩) | ((with_reducible refine xc_len ?_); refine ⟨_, sq_t, ?_⟩) | ((with_reducible refine xc_len ?_); refine ⟨_, sq_l, ?_⟩) | ((with_reducible refine xc_len ?_); refine ⟨_, (sq_v rfl), ?_⟩) | (with_reducible refine rm_count ?_) | (with_reducible refine ⟨_, rfl, ?_⟩) | (with_reducible refine ⟨_, at_h0, ?_⟩) | (with_reducible refine ⟨_, at_h1, ?_⟩) | (with_reducible refine ⟨_, at_h2, ?_⟩) | (with_reducible refine ⟨_, at_h3, ?_⟩) | (with_reducible refine ⟨_, .inl rfl, ?_⟩) | (with_reducible refine ⟨_, .inr rfl, ?_⟩) | (with_reducible refine ⟨_, _, rfl, ?_⟩) | ((with_reducible refine xix_lst ?_); refine ⟨_, rfl, _, rfl, ?_⟩) | ((with_reducible refine xadd_lst ?_); refine ⟨_, rfl, _, rfl, ?_, ?_⟩) | with_reducible refine rmul_int ?_ ?_ | with_reducible refine rmod_int ?_ ?_ | with_reducible refine rfdiv_int ?_ ?_ | with_reducible refine rpow_int ?_ ?_ | with_reducible refine xg_setL ?_ | refine ⟨_, _, _, _, rfl, rfl, rfl, rfl, ?_⟩ | with_reducible refine xg_name ?_ | with_reducible refine xg_tup rfl ?_ | with_reducible refine xgs_name ?_ | with_reducible refine xgs_nil ?_ | (with_reducible refine ⟨Nat.le_of_ble_eq_true rfl, ?_⟩) | (with_reducible refine ifdT (by decide) ?_) | (with_reducible refine ifdF (by decide) ?_) | (with_reducible refine ifnT (by decide) ?_) | (with_reducible refine ifnF (by decide) ?_) | (with_reducible refine ifbT (by decide) ?_) | (with_reducible refine ifbF (by decide) ?_) | fail))
section
variable {P : Program} {mg : Str → Option Value}
theorem cnt_new {t : Cnt} {p : List Nat} {n : Nat} (h : p ∉ t.map (·.1)) : cntUp t p n = t ++ [(p, n)] := by
  unfold cntUp
  rw [if_neg]
  intro z
  obtain ⟨x, hx, e⟩ := List.any_eq_true.mp z
  exact h (List.mem_map.mpr ⟨x, hx, by simpa using e⟩)
theorem get_pl {t : Cnt} {p : List Nat} (h : p ∈ t.map (·.1)) : getP (tkPs t) (.inr (S p)) = some (.int (placeOf t p : Nat)) := by
  unfold getP placeOf
  rw [find_tk]
  cases hf : t.find? fun x => decide (x.1 = p) with
  | none =>
    obtain ⟨x, hx, e⟩ := List.mem_map.mp h
    exact absurd (by simpa using e) (List.find?_eq_none.mp hf x hx)
  | some x => rfl
theorem goAll_step {l : List (EvN × EvN)} {R : List Row} {n : Nat} {s : Run} : goAll l R (n + 1) s = if (goRows l R s).2.length = s.2.length then goRows l R s else goAll l R n (goRows l R s) := rfl
def GX (γ : Ga) (s : Run) : Ga := γ ++ MO.lst (s.2.map evD) :: moK (tkPs s.1) :: []
theorem sum_zero : ∀ R : List Row, (R.map ((fun x : List Nat × Nat => x.2) ∘ fun r : Row => (r.1, 0))).sum = 0
  | [] => rfl
  | r :: R => by
    rw [List.map_cons, List.sum_cons, sum_zero R]; rfl
theorem ev_le : ∀ {R : List Row}, (∀ r ∈ R, r.2.length ≤ 10000) → evCount R ≤ 10000 * R.length
  | [], _ => Nat.zero_le _
  | r :: R, h => by
    have h1 := h r List.mem_cons_self
    have h2 := ev_le fun x hx => h x (List.mem_cons_of_mem _ hx)
    show r.2.length + evCount R ≤ _
    rw [List.length_cons]
    omega
theorem dl_executable {K : Frag} (T : Tx K mg) : DL_executable K (sp_executable K) := by
  rintro ds γ q e E0 lo1 lo2 ⟨R, l, rfl, ⟨hR, hnd, hro⟩, hm, hq⟩
  refine dS_env (ρ' := [some (.tup (R.map rowD)), some (.dit ((lnkPs l []).map (·.1)) ((lnkPs l []).map (·.2))), none, none, none, none, none, none]) rfl ?_
  unfold t_executable
  walk_at "GO"
  refine de_dcM [4, 5] (by simp) ?_
  walk_at "GO"
  refine ⟨by simp; omega, fun k acc γ' => γ' = γ ++ [.lst []] ∧ acc = tkPs ((R.take k).map fun r => (r.1, 0)), ⟨rfl, rfl⟩, ?_, ?_⟩
  · rintro k x acc γ' hx ⟨rfl, rfl⟩
    rw [List.getElem?_map] at hx
    obtain ⟨r, hr, rfl⟩ := Option.map_eq_some_iff.mp hx
    refine dg_tup rfl (dgs_two (dt_yes ?_))
    rw [if_pos rfl]
    walk_at "GO"
    refine ⟨rfl, ?_⟩
    rw [show (D.int 0) = .int ((0 : Nat) : Int) from rfl, put_tk, cnt_new, List.take_add_one, hr]
    · simp
    · intro z
      rw [List.map_map] at z
      obtain ⟨r', hr', e⟩ := List.mem_map.mp z
      obtain ⟨i', hi', rfl⟩ := List.getElem_of_mem hr'
      rw [List.length_take] at hi'
      rw [List.getElem_take] at e
      have hk := (List.getElem?_eq_some_iff.mp hr)
      have h1 : (namesOf R)[i']? = some r.1 := by unfold namesOf; rw [List.getElem?_map, List.getElem?_eq_getElem (by omega)]; exact congrArg some e
      have h2 : (namesOf R)[k]? = some r.1 := by unfold namesOf; rw [List.getElem?_map, hr]; rfl
      have h3 := (List.getElem?_inj (List.getElem?_eq_some_iff.mp h1).1 hnd).mp (h1.trans h2.symm)
      omega
  rintro acc γ' ⟨rfl, rfl⟩
  rw [List.length_map, List.take_length]
  rw [show (γ ++ [MO.lst []]).length = γ.length + 1 by simp]
  generalize hs0 : ((R.map fun r => (r.1, 0), []) : Run) = s0
  have hG0 : γ ++ [MO.lst []] ++ [moK (tkPs (R.map fun r => (r.1, 0)))] = GX γ s0 := by rw [← hs0]; simp [GX]
  have hJ0 : Jn R s0 := by
    rw [← hs0]
    refine ⟨?_, fun r hr => ?_, ?_⟩
    · show (R.map fun r => (r.1, 0)).map (·.1) = _
      rw [List.map_map]; rfl
    · have := place_mem (pl := R.map fun r => (r.1, 0)) (by rw [List.map_map]; exact hnd) (List.mem_map.mpr ⟨r, hr, rfl⟩)
      rw [this]
      exact Nat.zero_le _
    · show 0 = _
      rw [List.map_map]
      exact (sum_zero R).symm
  have hs : seqOf l R = (goAll l R (evCount R + 1) s0).2 := by rw [← hs0]; rfl
  have hec : evCount R ≤ 10000 * R.length := ev_le fun r hr => (hro r hr).1
  rw [hG0]
  walk_at "GO"
  refine xs_while (fun m ρ' γ' => ∃ s n b x4 x5 x7, ρ' = [some (.tup (R.map rowD)), some (.dit ((lnkPs l []).map (·.1)) ((lnkPs l []).map (·.2))), some (.loc γ.length), some (.loc (γ.length + 1)), x4, x5, some (.bl b), x7] ∧ γ' = GX γ s ∧ Jn R s ∧ m = (if b = true then evCount R + 1 - s.2.length else 0) ∧ (if b = true then goAll l R n s else s) = goAll l R (evCount R + 1) s0 ∧ (b = true → evCount R + 1 ≤ n + s.2.length)) ⟨_, s0, evCount R + 1, true, _, _, _, rfl, rfl, hJ0, rfl, rfl, fun _ => Nat.le_add_right _ _⟩ ?_
  rintro m ρ' γ' ⟨s, n, b, x4, x5, x7, rfl, rfl, hJ, rfl, hg, hn⟩
  cases b with
  | false =>
    walk_at "GO"
    refine dr_lst lo1 (loL_map (fun _ => rfl) _) ?_
    rw [show s.2 = seqOf l R by rw [hs, ← hg]; rfl]
    exact hq
  | true =>
    have hb := hJ.bound hnd
    obtain ⟨n, rfl⟩ : ∃ n', n = n' + 1 := ⟨n - 1, by have := hn rfl; omega⟩
    rw [if_pos rfl, goAll_step] at hg
    have hn := hn rfl
    walk_at "GO"
    refine xs_for [4, 5] ?_
    walk_at "GO"
    refine ⟨fun i ρ' γ' => ∃ s1 x4 x5 x7, ρ' = [some (.tup (R.map rowD)), some (.dit ((lnkPs l []).map (·.1)) ((lnkPs l []).map (·.2))), some (.loc γ.length), some (.loc (γ.length + 1)), x4, x5, some (.bl (decide (s.2.length < s1.2.length))), x7] ∧ γ' = GX γ s1 ∧ Jn R s1 ∧ s.2.length ≤ s1.2.length ∧ goRows l (R.drop i) s1 = goRows l R s, ⟨s, _, _, _, by rw [decide_eq_false (Nat.lt_irrefl _)]; rfl, rfl, hJ, Nat.le_refl _, rfl⟩, ?_, ?_⟩
    · rintro i y ρ' γ' hy ⟨s1, x4, x5, x7, rfl, rfl, hJ1, hle, hgo⟩
      rw [List.getElem?_map] at hy
      obtain ⟨r, hr, rfl⟩ := Option.map_eq_some_iff.mp hy
      have hrm := List.mem_of_getElem? hr
      rw [drop_at hr] at hgo
      refine dg_tup rfl (dgs_two ?_)
      have hrn : r.1 ∈ namesOf R := List.mem_map.mpr ⟨r, hrm, rfl⟩
      refine xs_while (fun m ρ' γ' => ∃ s2 x7, ρ' = [some (.tup (R.map rowD)), some (.dit ((lnkPs l []).map (·.1)) ((lnkPs l []).map (·.2))), some (.loc γ.length), some (.loc (γ.length + 1)), some (.str (S r.1)), some (.tup (r.2.map Ev.d)), some (.bl (decide (s.2.length < s2.2.length))), x7] ∧ γ' = GX γ s2 ∧ Jn R s2 ∧ s.2.length ≤ s2.2.length ∧ m = r.2.length - placeOf s2.1 r.1 ∧ goRow l r.1 (r.2.drop (placeOf s2.1 r.1)) s2 = goRow l r.1 (r.2.drop (placeOf s1.1 r.1)) s1) ⟨_, s1, x7, rfl, rfl, hJ1, hle, rfl, rfl⟩ ?_
      rintro m ρ' γ' ⟨s2, x7', rfl, rfl, hJ2, hle2, rfl, hgr⟩
      have dpl : ∀ a, a ∈ namesOf R → DV (GX γ s2) (.loc (γ.length + 1)) (.str (S a)) (some (.int (placeOf s2.1 a : Nat))) := fun a ha => by
        rw [← get_pl (by rw [hJ2.keys]; exact ha)]
        exact dvK at_1 rfl
      have hpl := dpl r.1 hrn
      walk_at "GO"
      refine ⟨_, hpl, ?_⟩
      walk_at "GO"
      rw [List.length_map]
      refine ifd (fun c1 => ?_) (fun c1 => ?_)
      case refine_2 =>
        rw [List.drop_eq_nil_of_le (by omega)] at hgr
        refine ⟨s2, _, _, _, rfl, rfl, hJ2, hle2, ?_⟩
        rw [← hgo]
        conv => rhs; unfold goRows
        rw [← hgr]; rfl
      obtain ⟨ev, hev⟩ : ∃ ev, r.2[placeOf s2.1 r.1]? = some ev := ⟨_, List.getElem?_eq_getElem (by omega)⟩
      have hed : (r.2.map Ev.d)[placeOf s2.1 r.1]? = some ev.d := by rw [List.getElem?_map, hev]; rfl
      rw [drop_at hev] at hgr
      refine xs_cut (fun ρ' γ' => ρ' = [some (.tup (R.map rowD)), some (.dit ((lnkPs l []).map (·.1)) ((lnkPs l []).map (·.2))), some (.loc γ.length), some (.loc (γ.length + 1)), some (.str (S r.1)), some (.tup (r.2.map Ev.d)), some (.bl (decide (s.2.length < s2.2.length))), some (evD (r.1, placeOf s2.1 r.1 + 1))] ∧ γ' = GX γ s2) ?_ ?_
      · walk_at "GO"
        refine ⟨_, hpl, ?_⟩
        walk_at "GO"
        exact ⟨rfl, rfl⟩
      rintro ρ' γ' ⟨rfl, rfl⟩
      refine xs_cut (fun ρ' γ' => ρ' = [some (.tup (R.map rowD)), some (.dit ((lnkPs l []).map (·.1)) ((lnkPs l []).map (·.2))), some (.loc γ.length), some (.loc (γ.length + 1)), some (.str (S r.1)), some (.tup (r.2.map Ev.d)), some (.bl (decide (s.2.length < s2.2.length))), some (evD (r.1, placeOf s2.1 r.1 + 1))] ∧ γ' = GX γ s2 ∧ blocked l s2.1 r.1 ev (placeOf s2.1 r.1 + 1) = false) ?_ ?_
      · walk_at "GO"
        refine ⟨_, hpl, ?_⟩
        walk_at "GO"
        refine ⟨_, at_nat hed, ?_⟩
        cases ev with
        | snd p x =>
          rw [show (Ev.snd p x).d = D.tup [.str (S wSend), .str (S p), .int x] from rfl]
          walk_at "GO"
          exact ⟨rfl, rfl, rfl⟩
        | set ip v x =>
          rw [show (Ev.set ip v x).d = D.tup [.str (S (if ip = true then wInp else wSet)), .str (S v), .int x] from rfl]
          cases ip
          all_goals
            walk_at "GO"
            exact ⟨rfl, rfl, rfl⟩
        | chk =>
          rw [show Ev.chk.d = D.tup [.str (S wChk)] from rfl]
          walk_at "GO"
          exact ⟨rfl, rfl, rfl⟩
        | rcv tk p v x =>
          rw [show (Ev.rcv tk p v x).d = D.tup [.str (S (if tk = true then wTake else wRcv)), .str (S p), .str (S v), .int x] from rfl]
          obtain ⟨w, hw, hw2⟩ : ∃ w, w ∈ RECEIVING_L ∧ (if tk = true then wTake else wRcv) = w := by cases tk <;> exact ⟨_, by decide, rfl⟩
          rw [hw2]
          obtain ⟨a, m, k1, k2, k3⟩ := rcv_link hnd hm hrm hev
          have hlk : DV (GX γ s2) (.dit ((lnkPs l []).map (·.1)) ((lnkPs l []).map (·.2))) (evD (r.1, placeOf s2.1 r.1 + 1)) (some (.tup [.str (S a), .int (m : Nat)])) := by
            rw [show D.tup [.str (S a), .int (m : Nat)] = evD (a, m) from rfl, ← k2]
            exact dvTd rfl
          walk_at "GO"
          refine ifd (fun _ => ?_) (fun c => absurd hw c)
          walk_at "GO"
          refine ⟨_, hlk, ?_⟩
          walk_at "GO"
          refine ⟨_, hlk, ?_⟩
          walk_at "GO"
          refine ⟨_, dpl a k3, ?_⟩
          walk_at "GO"
          have hbe : blocked l s2.1 r.1 (.rcv tk p v x) (placeOf s2.1 r.1 + 1) = decide (placeOf s2.1 a < m) := by
            unfold blocked
            rw [k1]
          refine ifd (fun c2 => ?_) (fun c2 => ?_)
          · walk_at "GO"
            refine ⟨s2, _, _, _, rfl, rfl, hJ2, hle2, ?_⟩
            rw [← hgo]
            conv => rhs; unfold goRows
            rw [← hgr]
            conv => rhs; unfold goRow
            rw [if_pos (by rw [hbe]; exact decide_eq_true (by omega))]
          · walk_at "GO"
            exact ⟨rfl, rfl, by rw [hbe]; exact decide_eq_false (by omega)⟩
      · rintro ρ' γ' ⟨rfl, rfl, hbl⟩
        have hlen := hJ2.bound hnd
        walk_at "GO"
        refine ⟨_, hpl, ?_⟩
        walk_at "GO"
        refine ri0 (fun H α => .int _) ?_
        refine .inl ⟨_, _, _, rfl, at_1, rfl, ?_, ?_⟩
        · have := congrArg List.length hJ2.keys
          rw [List.length_map] at this
          have h3 : (namesOf R).length = R.length := by unfold namesOf; rw [List.length_map]
          unfold tkPs
          rw [List.length_map]
          omega
        rw [show ((placeOf s2.1 r.1 : Nat) : Int) + 1 = ((placeOf s2.1 r.1 + 1 : Nat) : Int) by omega, put_tk, up_cnt (by rw [hJ2.keys]; exact hnd) (by rw [hJ2.keys]; exact hrn), (show ∀ x, (GX γ s2).set (γ.length + 1) x = γ ++ MO.lst (s2.2.map evD) :: x :: [] from fun x => set_1)]
        walk_at "GO"
        · rw [List.length_map]; omega
        rw [set_0]
        have hl1 : (s2.2 ++ [(r.1, placeOf s2.1 r.1 + 1)]).length = s2.2.length + 1 := by rw [List.length_append]; rfl
        have hpu : placeOf (plUp s2.1 r.1) r.1 = placeOf s2.1 r.1 + 1 := by rw [place_up (by rw [hJ2.keys]; exact hnd) (by rw [hJ2.keys]; exact hrn), if_pos rfl]
        refine ⟨_, ?_, (plUp s2.1 r.1, s2.2 ++ [(r.1, placeOf s2.1 r.1 + 1)]), some (evD (r.1, placeOf s2.1 r.1 + 1)), ?_, ?_, hJ2.step hnd hrm (by omega), by show _ ≤ (s2.2 ++ _).length; omega, rfl, ?_⟩
        · show r.2.length - placeOf (plUp s2.1 r.1) r.1 < _
          rw [hpu]
          omega
        · rw [decide_eq_true (show s.2.length < (s2.2 ++ [(r.1, placeOf s2.1 r.1 + 1)]).length by omega)]; rfl
        · unfold GX
          rw [List.map_append]; rfl
        · show goRow l r.1 (r.2.drop (placeOf (plUp s2.1 r.1) r.1)) _ = _
          rw [hpu, ← hgr]
          conv => rhs; unfold goRow
          rw [if_neg (by rw [hbl]; exact Bool.false_ne_true)]
    · rintro ρ' γ' ⟨s1, x4, x5, x7, rfl, rfl, hJ1, hle, hgo⟩
      rw [List.length_map, List.drop_length] at hgo
      cases (show s1 = goRows l R s from hgo)
      have hb1 := hJ1.bound hnd
      by_cases e : (goRows l R s).2.length = s.2.length
      · rw [if_pos e] at hg
        refine ⟨0, by rw [if_pos rfl]; omega, _, 0, false, _, _, _, by rw [decide_eq_false (by omega)], rfl, hJ1, rfl, hg, fun z => nomatch z⟩
      · rw [if_neg e] at hg
        refine ⟨_, ?_, _, n, true, _, _, _, by rw [decide_eq_true (by omega)], rfl, hJ1, rfl, hg, fun _ => by omega⟩
        simp only [if_true]
        omega
end
end K31

set_option Elab.async false
set_option linter.all false
set_option maxRecDepth 100000
set_option maxHeartbeats 4000000
namespace K31
open PySem PySem.Spec PyProof.Rows L2 DL
mutual
theorem any_of_oks {n m : Nat} (h : n ≤ m) : ∀ d : D, d.oks n = true → d.any m = true
  | .non, _ => rfl
  | .bl _, _ => rfl
  | .int _, _ => rfl
  | .str _, _ => rfl
  | .tup ds, q => by
    unfold D.oks at q
    unfold D.any
    rw [Bool.and_eq_true] at q ⊢
    exact ⟨decide_eq_true (Nat.le_trans (of_decide_eq_true q.1) (by decide)), anyL_of_oks h ds q.2⟩
  | .lst ds, q => by
    unfold D.oks at q
    unfold D.any
    rw [Bool.and_eq_true] at q ⊢
    exact ⟨decide_eq_true (Nat.le_trans (of_decide_eq_true q.1) (by decide)), anyL_of_oks h ds q.2⟩
  | .ty _, q => by cases q
  | .ref _, q => by cases q
  | .loc _, q => by cases q
  | .ins _ _ _, q => by cases q
  | .dic _ _, q => by cases q
  | .dit _ _, q => by cases q
  | .exc _ _ _ _ _, q => by cases q
  | .cst _, q => by cases q
  | .exv _ _ _, q => by cases q
theorem anyL_of_oks {n m : Nat} (h : n ≤ m) : ∀ ds : List D, oksL n ds = true → anyL m ds = true
  | [], _ => by unfold anyL; rfl
  | d :: ds, q => by
    cases n with
    | zero => unfold oksL at q; cases q
    | succ n =>
      cases m with
      | zero => omega
      | succ m =>
        unfold oksL at q
        unfold anyL
        rw [Bool.and_eq_true] at q ⊢
        exact ⟨any_of_oks (by omega) d q.1, anyL_of_oks h ds q.2⟩
end
theorem fzL_len (ds : List D) : (fzL ds).length = ds.length := by rw [fzL_map, List.length_map]
mutual
theorem oks_fz {n : Nat} : ∀ d : D, d.oks n = true → d.fz.oks n = true
  | .non, _ => rfl
  | .bl _, _ => rfl
  | .int _, q => q
  | .str _, q => q
  | .tup ds, q => by
    unfold D.fz
    unfold D.oks at q ⊢
    rw [Bool.and_eq_true] at q ⊢
    exact ⟨by rw [fzL_len]; exact q.1, oksL_fz ds q.2⟩
  | .lst ds, q => by
    unfold D.fz
    unfold D.oks at q ⊢
    rw [Bool.and_eq_true] at q ⊢
    exact ⟨by rw [fzL_len]; exact q.1, oksL_fz ds q.2⟩
  | .ty _, q => by cases q
  | .ref _, q => by cases q
  | .loc _, q => by cases q
  | .ins _ _ _, q => by cases q
  | .dic _ _, q => by cases q
  | .dit _ _, q => by cases q
  | .exc _ _ _ _ _, q => by cases q
  | .cst _, q => by cases q
  | .exv _ _ _, q => by cases q
theorem oksL_fz {n : Nat} : ∀ ds : List D, oksL n ds = true → oksL n (fzL ds) = true
  | [], _ => by unfold fzL oksL; rfl
  | d :: ds, q => by
    cases n with
    | zero => unfold oksL at q; cases q
    | succ n =>
      unfold fzL
      unfold oksL at q ⊢
      rw [Bool.and_eq_true] at q ⊢
      exact ⟨oks_fz d q.1, oksL_fz ds q.2⟩
end
theorem okRows_fz {rs : List D} (h : okRows rs = true) : okRows (fzL rs) = true := by
  unfold okRows at h ⊢
  rw [Bool.and_eq_true] at h ⊢
  refine ⟨by rw [fzL_len]; exact h.1, ?_⟩
  rw [fzL_map, List.all_map]
  refine List.all_eq_true.mpr fun d hd => ?_
  exact oks_fz d (List.all_eq_true.mp h.2 d hd)
theorem rowOk_some {d : D} {x : RowX} (h : rowOk d = some x) : d = rowXD x ∧ isName x.1 = true := by
  unfold rowOk at h
  split at h
  · rename_i s evs
    split at h
    · cases h
      exact ⟨by unfold rowXD; rw [S_of], by assumption⟩
    · cases h
  · cases h
theorem rowErr_none : ∀ (rs : List D) (i : Nat) (kn : List (List Nat)), i ≤ 40 → kn.Nodup → rowErr rs i kn = none →
    rs = (rowsX rs).map rowXD ∧ (kn ++ (rowsX rs).map (·.1)).Nodup ∧ i + rs.length ≤ 40 ∧ ∀ r ∈ rowsX rs, isName r.1 = true
  | [], i, kn, h, hk, _ => ⟨rfl, by simpa [rowsX] using hk, h, by simp [rowsX]⟩
  | d :: rs, i, kn, h, hk, he => by
    unfold rowErr at he
    cases hr : rowOk d with
    | none => rw [hr] at he; cases he
    | some x =>
      obtain ⟨nm, evs⟩ := x
      rw [hr] at he
      simp only at he
      by_cases c : i = 40 ∨ nm ∈ kn
      · rw [if_pos c] at he; cases he
      rw [if_neg c] at he
      obtain ⟨h1, h2, h3, h4⟩ := rowErr_none rs (i + 1) (kn ++ [nm]) (by omega) (by
        rw [List.nodup_append]
        refine ⟨hk, by simp, fun a ha b hb => ?_⟩
        cases List.mem_singleton.mp hb
        exact fun e => c (.inr (e ▸ ha))) he
      obtain ⟨e1, e2⟩ := rowOk_some hr
      unfold rowsX
      rw [hr]
      refine ⟨?_, ?_, by rw [List.length_cons]; omega, fun r hr' => ?_⟩
      · show d :: rs = rowXD (nm, evs) :: (rowsX rs).map rowXD
        rw [← e1, ← h1]
      · show (kn ++ nm :: (rowsX rs).map (·.1)).Nodup
        rw [List.append_assoc] at h2
        exact h2
      · rcases List.mem_cons.mp hr' with rfl | hr'
        · exact e2
        · exact h4 r hr'
theorem rows_ok {rs : List D} (h : rowsErr rs = none) : rs = (rowsX rs).map rowXD ∧ ((rowsX rs).map (·.1)).Nodup ∧ rs.length ≤ 40 ∧ (∀ r ∈ rowsX rs, isName r.1 = true) ∧ rs ≠ [] := by
  unfold rowsErr at h
  by_cases c : rs = []
  · rw [if_pos c] at h; cases h
  rw [if_neg c] at h
  obtain ⟨h1, h2, h3, h4⟩ := rowErr_none rs 0 [] (by decide) (by simp) h
  exact ⟨h1, by simpa using h2, by omega, h4, c⟩
theorem first_none {nm : List Nat} {ns : List (List Nat)} : ∀ (ds : List D) (i : Nat), firstNo nm ns ds i = none → ∀ d ∈ ds, formB d nm ns = true
  | [], _, _, d, hd => by cases hd
  | x :: ds, i, h, d, hd => by
    unfold firstNo at h
    by_cases c : formB x nm ns = true
    · rw [if_pos c] at h
      rcases List.mem_cons.mp hd with rfl | hd
      · exact c
      · exact first_none ds _ h d hd
    · rw [if_neg c] at h; cases h
theorem evErr_none {ns : List (List Nat)} : ∀ rs : List RowX, evErr ns rs = none → ∀ r ∈ rs, ∀ d ∈ r.2, formB d r.1 ns = true
  | [], _, r, hr, _, _ => by cases hr
  | x :: rs, h, r, hr, d, hd => by
    unfold evErr at h
    cases hf : firstNo x.1 ns x.2 1 with
    | some i => rw [hf] at h; cases h
    | none =>
      rw [hf] at h
      rcases List.mem_cons.mp hr with rfl | hr
      · exact first_none _ _ hf d hd
      · exact evErr_none rs h r hr d hd
theorem small_int {d : D} (h : isSmallD d = true) : ∃ x : Int, d = .int x ∧ decide (x.natAbs < BIG.natAbs) = true := by
  cases d with
  | int x => exact ⟨x, rfl, h⟩
  | _ => cases h
theorem fitsS_str {nm : List Nat} {ns : List (List Nat)} {d : D} (h : fitsS nm ns d = true) : ∃ p, d = .str (S p) ∧ p ∈ ns ∧ p ≠ nm := by
  cases d with
  | str x =>
    unfold fitsS at h
    rw [Bool.and_eq_true, decide_eq_true_eq, decide_eq_true_eq] at h
    exact ⟨x.cps.toList, by rw [S_of], h.1, h.2⟩
  | _ => cases h
theorem lookup_mem {w : List Nat} {k : List (List Nat)} : ∀ {t : List (List Nat × List (List Nat))}, t.lookup w = some k → (w, k) ∈ t
  | [], h => by cases h
  | (a, b) :: t, h => by
    rw [List.lookup_cons] at h
    by_cases c : w = a
    · subst c
      simp at h
      subst h
      exact List.mem_cons_self
    · rw [show (w == a) = false by simpa using c] at h
      exact List.mem_cons_of_mem _ (lookup_mem h)
theorem fits_var {d : D} {nm : List Nat} {ns : List (List Nat)} : fitsD wVar d nm ns = isNameD d := by unfold fitsD; rw [if_pos rfl]
theorem fits_val {d : D} {nm : List Nat} {ns : List (List Nat)} : fitsD wVal d nm ns = isSmallD d := by unfold fitsD; rw [if_neg (by decide), if_pos rfl]
theorem fits_prc {d : D} {nm : List Nat} {ns : List (List Nat)} : fitsD wPrc d nm ns = fitsS nm ns d := by unfold fitsD; rw [if_neg (by decide), if_neg (by decide)]
theorem form_ev {d : D} {nm : List Nat} {ns : List (List Nat)} (h : formB d nm ns = true) : (evOfD d).d = d ∧ (evOfD d).okIn nm ns = true := by
  unfold formB at h
  split at h
  case h_2 => cases h
  rename_i w xs
  rw [← S_of w] at *
  generalize w.cps.toList = w at *
  rw [S_l] at h
  cases hl : FORMS_T.lookup w with
  | none => rw [hl] at h; cases h
  | some kinds =>
    rw [hl] at h
    simp only at h
    rw [Bool.and_eq_true, decide_eq_true_eq] at h
    obtain ⟨hlen, hall⟩ := h
    have hm := lookup_mem hl
    have hm2 : (w, kinds) ∈ [(wSet, [wVar, wVal]), (wInp, [wVar, wVal]), (wSend, [wPrc, wVal]), (wRcv, [wPrc, wVar, wVal]), (wTake, [wPrc, wVar, wVal]), (wChk, [])] := by
      revert hm
      generalize (w, kinds) = p
      intro hm
      exact (by decide : ∀ p ∈ FORMS_T, p ∈ [(wSet, [wVar, wVal]), (wInp, [wVar, wVal]), (wSend, [wPrc, wVal]), (wRcv, [wPrc, wVar, wVal]), (wTake, [wPrc, wVar, wVal]), (wChk, [])]) p hm
    have two : ∀ a b, kinds = [a, b] → ∃ x y, xs = [x, y] ∧ fitsD a x nm ns = true ∧ fitsD b y nm ns = true := by
      rintro a b rfl
      match xs, hlen with
      | [x, y], _ =>
        simp only [List.zip_cons_cons, List.zip_nil_right, List.all_cons, List.all_nil, Bool.and_true, Bool.and_eq_true] at hall
        exact ⟨x, y, rfl, hall.1, hall.2⟩
    have three : ∀ a b c, kinds = [a, b, c] → ∃ x y z, xs = [x, y, z] ∧ fitsD a x nm ns = true ∧ fitsD b y nm ns = true ∧ fitsD c z nm ns = true := by
      rintro a b c rfl
      match xs, hlen with
      | [x, y, z], _ =>
        simp only [List.zip_cons_cons, List.zip_nil_right, List.all_cons, List.all_nil, Bool.and_true, Bool.and_eq_true] at hall
        exact ⟨x, y, z, rfl, hall.1, hall.2.1, hall.2.2⟩
    simp only [List.mem_cons, Prod.mk.injEq, List.not_mem_nil, or_false] at hm2
    rcases hm2 with ⟨rfl, rfl⟩ | ⟨rfl, rfl⟩ | ⟨rfl, rfl⟩ | ⟨rfl, rfl⟩ | ⟨rfl, rfl⟩ | ⟨rfl, rfl⟩
    · obtain ⟨x, y, rfl, hx, hy⟩ := two _ _ rfl
      rw [fits_var] at hx
      rw [fits_val] at hy
      obtain ⟨v, rfl, hv⟩ := name_str hx
      obtain ⟨z, rfl, hz⟩ := small_int hy
      have e : evOfD (.tup [.str (S wSet), .str (S v), .int z]) = .set false v z := by
        unfold evOfD
        simp only [S_l]
        rw [if_neg (by decide)]; rfl
      rw [e]
      exact ⟨rfl, by unfold Ev.okIn; simp only [hv, hz]; rfl⟩
    · obtain ⟨x, y, rfl, hx, hy⟩ := two _ _ rfl
      rw [fits_var] at hx
      rw [fits_val] at hy
      obtain ⟨v, rfl, hv⟩ := name_str hx
      obtain ⟨z, rfl, hz⟩ := small_int hy
      have e : evOfD (.tup [.str (S wInp), .str (S v), .int z]) = .set true v z := by
        unfold evOfD
        simp only [S_l]
        rw [if_neg (by decide)]; rfl
      rw [e]
      exact ⟨rfl, by unfold Ev.okIn; simp only [hv, hz]; rfl⟩
    · obtain ⟨x, y, rfl, hx, hy⟩ := two _ _ rfl
      rw [fits_prc] at hx
      rw [fits_val] at hy
      obtain ⟨p, rfl, hp1, hp2⟩ := fitsS_str hx
      obtain ⟨z, rfl, hz⟩ := small_int hy
      have e : evOfD (.tup [.str (S wSend), .str (S p), .int z]) = .snd p z := by
        unfold evOfD
        simp only [S_l]
        rw [if_pos trivial]
      rw [e]
      exact ⟨rfl, by unfold Ev.okIn; simp only [hz, decide_eq_true hp1, decide_eq_true hp2]; rfl⟩
    · obtain ⟨x, y, z, rfl, hx, hy, hz⟩ := three _ _ _ rfl
      rw [fits_prc] at hx
      rw [fits_var] at hy
      rw [fits_val] at hz
      obtain ⟨p, rfl, hp1, hp2⟩ := fitsS_str hx
      obtain ⟨v, rfl, hv⟩ := name_str hy
      obtain ⟨z, rfl, hz'⟩ := small_int hz
      have e : evOfD (.tup [.str (S wRcv), .str (S p), .str (S v), .int z]) = .rcv false p v z := by
        unfold evOfD
        simp only [S_l]
        rfl
      rw [e]
      exact ⟨rfl, by unfold Ev.okIn; simp only [hz', hv, decide_eq_true hp1, decide_eq_true hp2]; rfl⟩
    · obtain ⟨x, y, z, rfl, hx, hy, hz⟩ := three _ _ _ rfl
      rw [fits_prc] at hx
      rw [fits_var] at hy
      rw [fits_val] at hz
      obtain ⟨p, rfl, hp1, hp2⟩ := fitsS_str hx
      obtain ⟨v, rfl, hv⟩ := name_str hy
      obtain ⟨z, rfl, hz'⟩ := small_int hz
      have e : evOfD (.tup [.str (S wTake), .str (S p), .str (S v), .int z]) = .rcv true p v z := by
        unfold evOfD
        simp only [S_l]
        rfl
      rw [e]
      exact ⟨rfl, by unfold Ev.okIn; simp only [hz', hv, decide_eq_true hp1, decide_eq_true hp2]; rfl⟩
    · obtain rfl : xs = [] := List.eq_nil_of_length_eq_zero hlen
      exact ⟨rfl, rfl⟩
/-- rows that pass the checks -/
theorem rows_good {F : List D} (hF : okRows F = true) (h1 : rowsErr F = none) (h2 : evErr ((rowsX F).map (·.1)) (rowsX F) = none) :
    F = (rowsE (rowsX F)).map rowD ∧ RowsOk (rowsE (rowsX F)) := by
  obtain ⟨e, hn, hl, hi, hne⟩ := rows_ok h1
  have hev := evErr_none _ h2
  have hns : namesOf (rowsE (rowsX F)) = (rowsX F).map (·.1) := by
    unfold namesOf rowsE
    rw [List.map_map]; rfl
  have hll : (rowsX F).length ≤ 40 := by
    have := congrArg List.length e
    rw [List.length_map] at this
    omega
  refine ⟨?_, ?_, by rw [hns]; exact hn, ?_⟩
  · conv => lhs; rw [e]
    unfold rowsE
    rw [List.map_map]
    refine List.map_congr_left fun r hr => ?_
    show D.tup [.str (S r.1), .tup r.2] = .tup [.str (S r.1), .tup ((r.2.map evOfD).map Ev.d)]
    rw [List.map_map]
    have : r.2.map (Ev.d ∘ evOfD) = r.2 := by
      conv => rhs; rw [← List.map_id r.2]
      exact List.map_congr_left fun d hd => (form_ev (hev r hr d hd)).1
    rw [this]
  · unfold rowsE
    rw [List.length_map]
    exact hll
  · intro r hr
    obtain ⟨x, hx, rfl⟩ := List.mem_map.mp hr
    constructor
    · show (x.2.map evOfD).length ≤ 10000
      rw [List.length_map]
      have hm : rowXD x ∈ F := by rw [e]; exact List.mem_map.mpr ⟨x, hx, rfl⟩
      unfold okRows at hF
      rw [Bool.and_eq_true] at hF
      have := List.all_eq_true.mp hF.2 _ hm
      unfold rowXD D.oks at this
      rw [Bool.and_eq_true] at this
      have h3 := oksL_mem this.2 (.tup x.2) (by simp)
      unfold D.oks at h3
      rw [Bool.and_eq_true, decide_eq_true_eq] at h3
      exact h3.1
    · intro ev hev'
      obtain ⟨d, hd, rfl⟩ := List.mem_map.mp (show ev ∈ x.2.map evOfD from hev')
      rw [hns]
      exact (form_ev (hev x hx d hd)).2
end K31

set_option Elab.async false
set_option linter.all false
set_option maxRecDepth 100000
set_option maxHeartbeats 4000000
namespace K31
open PySem PySem.Spec PyProof.Rows L2 DL
local macro_rules | `(tactic| walk_at "GO") => `(tactic| repeat' (first | with_reducible refine xs_seq ?_ | with_reducible refine xs_set ?_ | with_reducible refine xs_asg ?_ | with_reducible refine xs_if ?_ | with_reducible refine xs_ret ?_ | with_reducible refine xs_next ?_ | with_reducible refine xs_expr ?_ | with_reducible refine xs_fld ?_ | with_reducible refine xs_par ?_ | with_reducible refine xs_retN ?_ | with_reducible refine xs_brk ?_ | with_reducible refine xp_nil ?_ | with_reducible refine xp_cons ?_ | with_reducible refine xe_disp ?_ | with_reducible refine xe_dispM ?_ | with_reducible refine xs_cont ?_ | with_reducible refine da_nil ?_ | with_reducible refine da_cons ?_ | with_reducible refine de_int ?_ | with_reducible refine de_str ?_ | with_reducible refine de_bl ?_ | with_reducible refine de_non ?_ | with_reducible refine de_ty ?_ | ((with_reducible refine xe_var ?_); refine ⟨_, rfl, ?_⟩) | with_reducible refine de_op ?_ | with_reducible refine de_un ?_ | with_reducible refine de_call ?_ | with_reducible refine de_cb ?_ | with_reducible refine de_sl ?_ | with_reducible refine do_none ?_ | with_reducible refine do_some ?_ | with_reducible refine de_if ?_ | with_reducible refine de_andV ?_ | with_reducible refine de_orV ?_ | with_reducible refine de_notV ?_ | with_reducible refine de_chain ?_ | with_reducible refine dt_test ?_ | with_reducible refine dt_B ?_ | with_reducible refine dt_and ?_ | with_reducible refine dt_or ?_ | with_reducible refine dt_not ?_ | (with_reducible refine xe_tup ?_) | (with_reducible refine xe_lst ?_) | (with_reducible refine xe_lstM ?_) | (with_reducible refine de_meth ?_) | with_reducible refine xs_dput ?_ | with_reducible refine xs_daug ?_ | with_reducible refine de_dget ?_ | with_reducible refine de_dgt1 ?_ | with_reducible refine de_dgt2 ?_ | with_reducible refine de_din ?_ | with_reducible refine de_dnotin ?_ | with_reducible refine de_dnewK ?_ | with_reducible refine de_dnewT ?_ | with_reducible refine de_revL ?_ | with_reducible refine de_fld (f := "rows") (Tx.cl_Record (by assumption)) (Tx.na_Record_rows (by assumption)) ?_ | with_reducible refine de_fld (f := "links") (Tx.cl_Record (by assumption)) (Tx.na_Record_links (by assumption)) ?_ | with_reducible refine de_fld (f := "sequence") (Tx.cl_Record (by assumption)) (Tx.na_Record_sequence (by assumption)) ?_ | (with_reducible refine de_bm ?_) | (with_reducible refine de_bm0 ?_) | (with_reducible refine ⟨isTy_str, ?_⟩) | (with_reducible refine ⟨xty_lst ⟨_, rfl⟩, ?_⟩) | (with_reducible refine ⟨xty_lst ⟨_, vw_loc at_0⟩, ?_⟩) | (with_reducible refine rm_append at_0 ?_ ?_) | (with_reducible refine rm_pop at_0 ?_) | (with_reducible refine rc_len (.inl (vw_loc at_0)) ?_) | (with_reducible refine ⟨xty_lst ⟨_, vw_loc at_1⟩, ?_⟩) | (with_reducible refine rm_append at_1 ?_ ?_) | (with_reducible refine rm_pop at_1 ?_) | (with_reducible refine rc_len (.inl (vw_loc at_1)) ?_) | (with_reducible refine ⟨xty_lst ⟨_, vw_loc at_2⟩, ?_⟩) | (with_reducible refine rm_append at_2 ?_ ?_) | (with_reducible refine rm_pop at_2 ?_) | (with_reducible refine rc_len (.inl (vw_loc at_2)) ?_) | with_reducible refine radd_int ?_ | with_reducible refine radd_S ?_ ?_ | with_reducible refine rsub_int ?_ | with_reducible refine req_int ?_ | with_reducible refine rne_int ?_ | with_reducible refine req_S ?_ | with_reducible refine rne_S ?_ | with_reducible refine rlt_int ?_ | with_reducible refine rle_int ?_ | with_reducible refine rgt_int ?_ | with_reducible refine rge_int ?_ | with_reducible refine rneg_int ?_ | with_reducible refine rin_sgn ?_ | with_reducible refine rni_sgn ?_ | with_reducible refine rc_len_S ?_ ?_ | with_reducible refine rc_int_bl ?_ | with_reducible refine rc_str_int ?_ ?_ | with_reducible refine rc_str_str ?_ | with_reducible refine rc_max2 ?_ | with_reducible refine rc_abs ?_ | with_reducible refine req_bl ?_ | with_reducible refine rne_bl ?_ | with_reducible refine rltg_i ?_ | with_reducible refine rleg_i ?_ | with_reducible refine rgtg_i ?_ | with_reducible refine rgeg_i ?_ | with_reducible refine rltg_b ?_ | with_reducible refine rleg_b ?_ | with_reducible refine rgtg_b ?_ | with_reducible refine rgeg_b ?_ | with_reducible refine rist ?_ | with_reducible refine rntt ?_ | with_reducible refine dt_truth ?_ | ((with_reducible refine xc_isi ?_); refine ⟨_, true, rfl, rfl, ?_⟩) | ((with_reducible refine xc_isi ?_); refine ⟨_, false, rfl, rfl, ?_⟩) | with_reducible refine di_str ?_ | with_reducible refine di_list ?_ | with_reducible refine di_tup ?_ | with_reducible refine di_rng1 ?_ | with_reducible refine di_rng2 ?_ | with_reducible refine ift ?_ | with_reducible refine iff_ ?_ | with_reducible refine ifnt ?_ | with_reducible refine ifnf ?_ | with_reducible refine rin_strs sq_c ?_ | with_reducible refine rni_strs sq_c ?_ | with_reducible refine rin_strs sq_t ?_ | with_reducible refine rni_strs sq_t ?_ | with_reducible refine rin_strs sq_l ?_ | with_reducible refine rni_strs sq_l ?_ | with_reducible refine rin_strs (sq_v rfl) ?_ | with_reducible refine rni_strs (sq_v rfl) ?_ | ((with_reducible refine rin_seq sq_c ?_ ?_ ?_); rfl; rfl) | ((with_reducible refine rin_seq sq_t ?_ ?_ ?_); rfl; rfl) | ((with_reducible refine rin_seq sq_l ?_ ?_ ?_); rfl; rfl) | ((with_reducible refine rin_seq (sq_v rfl) ?_ ?_ ?_); rfl; rfl) | ((with_reducible refine rni_seq sq_c ?_ ?_ ?_); rfl; rfl) | ((with_reducible refine rni_seq sq_t ?_ ?_ ?_); rfl; rfl) | ((with_reducible refine rni_seq sq_l ?_ ?_ ?_); rfl; rfl) | ((with_reducible refine rni_seq (sq_v rfl) ?_ ?_ ?_); rfl; rfl) | (with_reducible refine xix_tup ?_) | ((with_reducible refine xc_len ?_); refine ⟨_, sq_c, ?_⟩) | ((with_reducible refine xc_len ?_); refine ⟨_, sq_t, ?_⟩) | ((with_reducible refine xc_len ?_); refine ⟨_, sq_l, ?_⟩) | ((with_reducible refine xc_len ?_); refine ⟨_, (sq_v rfl), ?_⟩) | (with_reducible refine rm_count ?_) | (with_reducible refine ⟨_, rfl, ?_⟩) | (with_reducible refine ⟨_, at_h0, ?_⟩) | (with_reducible refine ⟨_, at_h1, ?_⟩) | (with_reducible refine ⟨_, at_h2, ?_⟩) | (with_reducible refine ⟨_, at_h3, ?_⟩) | (with_reducible refine ⟨_, .inl rfl, ?_⟩) | (with_reducible refine ⟨_, .inr rfl, ?_⟩) | (with_reducible refine ⟨_, _, rfl, ?_⟩) | ((with_reducible refine xix_lst ?_); refine ⟨_, rfl, _, rfl, ?_⟩) | ((with_reducible refine xadd_lst ?_); refine ⟨_, rfl, _, rfl, ?_, ?_⟩) | with_reducible refine rmul_int ?_ ?_ | with_reducible refine rmod_int ?_ ?_ | with_reducible refine rfdiv_int ?_ ?_ | with_reducible refine rpow_int ?_ ?_ | with_reducible refine xg_setL ?_ | refine ⟨_, _, _, _, rfl, rfl, rfl, rfl, ?_⟩ | with_reducible refine xg_name ?_ | with_reducible refine xg_tup rfl ?_ | with_reducible refine xgs_name ?_ | with_reducible refine xgs_nil ?_ | (with_reducible refine ⟨Nat.le_of_ble_eq_true rfl, ?_⟩) | (with_reducible refine ifdT (by decide) ?_) | (with_reducible refine ifdF (by decide) ?_) | (with_reducible refine ifnT (by decide) ?_) | (with_reducible refine ifnF (by decide) ?_) | (with_reducible refine ifbT (by decide) ?_) | (with_reducible refine ifbF (by decide) ?_) | fail))
section
variable {P : Program} {mg : Str → Option Value}
theorem xe_lcF {A : Type} {K : KX} {ρ : DL.Env} {γ : Ga} {Q : QD} {i : Nat} {wi : TI} {tt : TT} {te : TE} {vs : List Nat} (xs : List A) (a b : A → D) (p : A → Bool) (hv : i ∈ vs) (h : dI K wi ρ γ fun ds γ1 => ds = xs.map a ∧ xs.length ≤ 1000000 ∧
    (∀ x ∈ xs, dT K.cm tt ((wipeE ρ vs).set i (some (a x))) γ1 fun y γ3 => if p x = true then y = true ∧ dE K.cm te ((wipeE ρ vs).set i (some (a x))) γ3 fun y γ3 => y = b x ∧ γ3 = γ1 else y = false ∧ γ3 = γ1) ∧ Q (.lst ((xs.filter p).map b)) γ1) : dE K (tLc wi (gName i) tt te vs) ρ γ Q := by
  refine de_lc [i] (by intro j hj; simp at hj; subst hj; exact hv) fun σ H α r rr g w => h σ H α r rr g fun J H' α' γ1 ds hh e g' wk => w J H' α' γ1 ds ?_ e g' wk
  obtain ⟨rfl, hl, he, hq⟩ := hh
  refine ⟨by simpa using hl, fun j acc γ' => γ' = γ1 ∧ acc = ((xs.take j).filter p).map b, ⟨rfl, rfl⟩, ?_, ?_⟩
  · rintro j x acc γ' hx ⟨rfl, rfl⟩
    rw [List.getElem?_map] at hx
    obtain ⟨y, hy, rfl⟩ := Option.map_eq_some_iff.mp hx
    refine dg_name ?_
    have h1 := he y (List.mem_of_getElem? hy)
    intro σ H α q r g w
    refine h1 σ H α q r g fun bb H2 α2 γ2 hb e2 g2 => w bb H2 α2 γ2 ?_ e2 g2
    dsimp only at hb
    have e1 : ∀ c : Bool, p y = c → ((xs.take (j + 1)).filter p).map b = ((xs.take j).filter p).map b ++ (if c = true then [b y] else []) := by
      rintro c rfl
      rw [List.take_add_one, hy]
      cases c : p y <;> simp [c]
    by_cases c : p y = true
    · rw [if_pos c] at hb
      obtain ⟨rfl, hb⟩ := hb
      refine iteT (de_mono hb ?_)
      rintro d γ3 ⟨rfl, rfl⟩
      exact ⟨rfl, (e1 true c).symm⟩
    · rw [if_neg c] at hb
      obtain ⟨rfl, rfl⟩ := hb
      refine iteF ⟨rfl, ?_⟩
      have := e1 false (by simpa using c)
      simpa using this.symm
  · rintro acc γ' ⟨rfl, rfl⟩
    rw [List.length_map, List.take_length]
    exact hq
def R1 (K : Frag) (F : List D) : MO := .ins (He.ga K "Record") ["rows"] [.tup F]
def R2 (K : Frag) (R : List Row) : MO := .ins (He.ga K "Record") ["rows", "table"] [.tup (R.map rowD), .dic ((tabPs R).map (·.1)) ((tabPs R).map (·.2))]
def R3 (K : Frag) (R : List Row) (l : List (EvN × EvN)) : MO := .ins (He.ga K "Record") ["rows", "table", "links"] [.tup (R.map rowD), .dic ((tabPs R).map (·.1)) ((tabPs R).map (·.2)), .dit ((lnkPs l []).map (·.1)) ((lnkPs l []).map (·.2))]
theorem putP_new {κ : Type} [DecidableEq κ] {ps : List (κ × D)} {k : κ} {v : D} (h : ∀ p ∈ ps, p.1 ≠ k) : putP ps k v = ps ++ [(k, v)] := by
  unfold putP
  rw [if_neg]
  intro z
  obtain ⟨p, hp, e⟩ := List.any_eq_true.mp z
  exact h p hp (by simpa using e)
theorem tab_step {R : List Row} (hn : (namesOf R).Nodup) {i : Nat} {r : Row} (hr : R[i]? = some r) : putP (tabPs (R.take i)) (.inr (S r.1)) (.tup (r.2.map Ev.d)) = tabPs (R.take (i + 1)) := by
  rw [putP_new]
  · rw [List.take_add_one, hr]
    simp [tabPs]
  · intro p hp e
    obtain ⟨r', hr', rfl⟩ := List.mem_map.mp hp
    obtain ⟨j, hj, rfl⟩ := List.getElem_of_mem hr'
    rw [List.length_take] at hj
    rw [List.getElem_take] at e
    have h1 : (namesOf R)[j]? = some r.1 := by unfold namesOf; rw [List.getElem?_map, List.getElem?_eq_getElem (by omega)]; exact congrArg some (S_inj (Sum.inr.inj e))
    have h2 : (namesOf R)[i]? = some r.1 := by unfold namesOf; rw [List.getElem?_map, hr]; rfl
    have h3 := (List.getElem?_inj (List.getElem?_eq_some_iff.mp h1).1 hn).mp (h1.trans h2.symm)
    omega
theorem goRow_J {l : List (EvN × EvN)} {R : List Row} (hn : (namesOf R).Nodup) {r : Row} (hr : r ∈ R) : ∀ (evs : List Ev) (s : Run), Jn R s → r.2.drop (placeOf s.1 r.1) = evs → Jn R (goRow l r.1 evs s)
  | [], s, h, _ => h
  | ev :: evs, s, h, e => by
    unfold goRow
    split
    · exact h
    · have hlt : placeOf s.1 r.1 < r.2.length := by
        refine Nat.lt_of_not_le fun c => ?_
        rw [List.drop_eq_nil_of_le c] at e
        cases e
      refine goRow_J hn hr evs _ (h.step hn hr hlt) ?_
      show r.2.drop (placeOf (plUp s.1 r.1) r.1) = evs
      rw [place_up (by rw [h.keys]; exact hn) (by rw [h.keys]; exact List.mem_map.mpr ⟨r, hr, rfl⟩), if_pos rfl, ← List.drop_drop, e]
      rfl
theorem goRows_J {l : List (EvN × EvN)} {R : List Row} (hn : (namesOf R).Nodup) : ∀ (rs : List Row) (s : Run), (∀ r ∈ rs, r ∈ R) → Jn R s → Jn R (goRows l rs s)
  | [], _, _, h => h
  | r :: rs, s, hm, h => goRows_J hn rs _ (fun x hx => hm x (List.mem_cons_of_mem _ hx)) (goRow_J hn (hm r List.mem_cons_self) _ s h rfl)
theorem goAll_J {l : List (EvN × EvN)} {R : List Row} (hn : (namesOf R).Nodup) : ∀ (n : Nat) (s : Run), Jn R s → Jn R (goAll l R n s)
  | 0, _, h => h
  | n + 1, s, h => by
    unfold goAll
    have h1 := goRows_J (l := l) hn R s (fun _ h => h) h
    split
    · exact h1
    · exact goAll_J hn n _ h1
theorem jn_zero {R : List Row} (hn : (namesOf R).Nodup) : Jn R (R.map fun r => (r.1, 0), []) := by
  refine ⟨?_, fun r hr => ?_, ?_⟩
  · show (R.map fun r => (r.1, 0)).map (·.1) = _
    rw [List.map_map]; rfl
  · have := place_mem (pl := R.map fun r => (r.1, 0)) (by rw [List.map_map]; exact hn) (List.mem_map.mpr ⟨r, hr, rfl⟩)
    rw [this]
    exact Nat.zero_le _
  · show 0 = _
    rw [List.map_map]
    exact (sum_zero R).symm
theorem seq_len (l : List (EvN × EvN)) {R : List Row} (hn : (namesOf R).Nodup) (h : ∀ r ∈ R, r.2.length ≤ 10000) : (seqOf l R).length ≤ 10000 * R.length :=
  Nat.le_trans ((goAll_J hn _ _ (jn_zero hn)).bound hn) (ev_le h)
theorem rowsX_ok {F : List D} (h : okRows F = true) (e : F = (rowsX F).map rowXD) : (rowsX F).all okX = true := by
  refine List.all_eq_true.mpr fun x hx => ?_
  have hm : rowXD x ∈ F := by rw [e]; exact List.mem_map.mpr ⟨x, hx, rfl⟩
  unfold okRows at h
  rw [Bool.and_eq_true] at h
  have := List.all_eq_true.mp h.2 _ hm
  unfold rowXD D.oks at this
  rw [Bool.and_eq_true] at this
  have h3 := oksL_mem this.2 (.tup x.2) (by simp)
  unfold D.oks at h3
  rw [Bool.and_eq_true] at h3
  unfold okX
  rw [Bool.and_eq_true]
  exact ⟨h3.1, List.all_eq_true.mpr fun d hd => oks_mono (by decide) d (oksL_mem h3.2 d hd)⟩
theorem dl_Record_init {K : Frag} (T : Tx K mg) (X : Te P K mg) : DL_Record_init K (sp_Record_init K) := by
  rintro ds γ q e E0 lo1 lo2 ⟨k, x, rs, rfl, hx, hok, hk, hq, he⟩
  refine dS_env (ρ' := [some (.loc k), some x, none, none, none, none, none]) rfl ?_
  have hrl : rs.length ≤ 10000 := by
    unfold okRows at hok
    rw [Bool.and_eq_true, decide_eq_true_eq] at hok
    exact hok.1
  have hro : ∀ d ∈ rs, d.oks 10 = true := by
    unfold okRows at hok
    rw [Bool.and_eq_true] at hok
    exact List.all_eq_true.mp hok.2
  unfold t_Record_init
  walk_at "GO"
  refine xe_lcN rs id D.fz (by simp) ?_
  refine di_any rfl (hx.elim .inl fun h => .inr (.inl h)) ?_
  refine ⟨by simp, by omega, fun x hm => ?_, ?_⟩
  · walk_at "GO"
    exact ⟨x, rfl, any_of_oks (by decide) x (hro x hm), rfl, rfl⟩
  walk_at "GO"
  refine rc_tuple (.inl rfl) ?_
  rw [← fzL_map]
  walk_at "GO"
  refine ⟨k, _, _, _, rfl, hk, T.cl_Record, T.na_Record_rows, by decide, ?_⟩
  have hokF := okRows_fz hok
  generalize fzL rs = F at *
  have hk1 : (γ.set k (R1 K F))[k]? = some (R1 K F) := set_get hk
  rw [show MO.ins (He.ga K "Record") (stored [] [] "rows" (.tup F)).1 (stored [] [] "rows" (.tup F)).2 = R1 K F from rfl]
  walk_at "GO"
  refine ⟨_, _, _, _, .inl ⟨_, rfl, hk1⟩, rfl, rfl, ?_⟩
  walk_at "GO"
  refine ⟨F, rfl, hokF, fun hr => ?_, fun i hr => .inl (he _ (by unfold judge; rw [hr]) _)⟩
  walk_at "GO"
  refine ⟨_, _, _, _, .inl ⟨_, rfl, hk1⟩, rfl, rfl, ?_⟩
  walk_at "GO"
  obtain ⟨eF, hnd, hFl, hnm, hne⟩ := rows_ok hr
  have hXl : (rowsX F).length ≤ 40 := by
    have := congrArg List.length eF
    rw [List.length_map] at this
    omega
  refine ⟨rowsX F, by rw [← eF], by omega, rowsX_ok hokF eF, fun hev => ?_, fun n i hev => .inl (he _ (by unfold judge; rw [hr]; simp only; rw [hev]) _)⟩
  obtain ⟨eR, hRok⟩ := rows_good hokF hr hev
  have hj : judge F = (match msgsOf (rowsE (rowsX F)) with
      | .error (n, i) => .error ⟨wMsg, .str (S n), i⟩
      | .ok l => match ordErr (seqOf l (rowsE (rowsX F))) (rowsE (rowsX F)) with
        | some (n, i) => .error ⟨wOrder, .str (S n), i⟩
        | none => .ok (rowsE (rowsX F), l)) := by
    unfold judge
    rw [hr]
    simp only
    rw [hev]
    all_goals rfl
  generalize rowsE (rowsX F) = R at *
  obtain ⟨hRl, hRn, hRe⟩ := id hRok
  subst eR
  walk_at "GO"
  refine de_dc (vs := [3, 4]) [3, 4] (by simp) ?_
  walk_at "GO"
  refine ⟨_, _, _, _, .inl ⟨_, rfl, hk1⟩, rfl, rfl, ?_⟩
  walk_at "GO"
  refine ⟨by simp; omega, fun i acc γ' => γ' = γ.set k (R1 K (R.map rowD)) ∧ acc = tabPs (R.take i), ⟨rfl, rfl⟩, ?_, ?_⟩
  · rintro i x acc γ' hx ⟨rfl, rfl⟩
    rw [List.getElem?_map] at hx
    obtain ⟨r, hr, rfl⟩ := Option.map_eq_some_iff.mp hx
    refine dg_tup rfl (dgs_two (dt_yes ?_))
    rw [if_pos rfl]
    walk_at "GO"
    refine ⟨rfl, ?_⟩
    exact tab_step hRn hr
  rintro acc γ' ⟨rfl, rfl⟩
  rw [List.length_map, List.take_length]
  walk_at "GO"
  refine ⟨k, _, _, _, rfl, hk1, T.cl_Record, T.na_Record_table, by show 1 < 1000; decide, ?_⟩
  rw [set_set, show MO.ins (He.ga K "Record") (stored ["rows"] [.tup (R.map rowD)] "table" (.dic ((tabPs R).map (·.1)) ((tabPs R).map (·.2)))).1 (stored ["rows"] [.tup (R.map rowD)] "table" (.dic ((tabPs R).map (·.1)) ((tabPs R).map (·.2)))).2 = R2 K R from rfl]
  have hk2 : (γ.set k (R2 K R))[k]? = some (R2 K R) := set_get hk
  walk_at "GO"
  refine ⟨_, _, _, _, .inl ⟨_, rfl, hk2⟩, rfl, rfl, ?_⟩
  walk_at "GO"
  refine ⟨R, rfl, hRok, fun l hm => ?_, fun n i hm => .inl (he _ (by rw [hj, hm]) _)⟩
  walk_at "GO"
  refine ⟨k, _, _, _, rfl, hk2, T.cl_Record, T.na_Record_links, by show 2 < 1000; decide, ?_⟩
  rw [set_set, show MO.ins (He.ga K "Record") (stored ["rows", "table"] [.tup (R.map rowD), .dic ((tabPs R).map (·.1)) ((tabPs R).map (·.2))] "links" (.dit ((lnkPs l []).map (·.1)) ((lnkPs l []).map (·.2)))).1 (stored ["rows", "table"] [.tup (R.map rowD), .dic ((tabPs R).map (·.1)) ((tabPs R).map (·.2))] "links" (.dit ((lnkPs l []).map (·.1)) ((lnkPs l []).map (·.2)))).2 = R3 K R l from rfl]
  have hk3 : (γ.set k (R3 K R l))[k]? = some (R3 K R l) := set_get hk
  walk_at "GO"
  refine ⟨_, _, _, _, .inl ⟨_, rfl, hk3⟩, rfl, rfl, ?_⟩
  walk_at "GO"
  refine ⟨_, _, _, _, .inl ⟨_, rfl, hk3⟩, rfl, rfl, ?_⟩
  walk_at "GO"
  refine ⟨R, l, rfl, hRok, hm, ?_⟩
  walk_at "GO"
  refine ⟨k, _, _, _, rfl, hk3, T.cl_Record, T.na_Record_sequence, by show 3 < 1000; decide, ?_⟩
  rw [set_set, show MO.ins (He.ga K "Record") (stored ["rows", "table", "links"] [.tup (R.map rowD), .dic ((tabPs R).map (·.1)) ((tabPs R).map (·.2)), .dit ((lnkPs l []).map (·.1)) ((lnkPs l []).map (·.2))] "sequence" (.lst ((seqOf l R).map evD))).1 (stored ["rows", "table", "links"] [.tup (R.map rowD), .dic ((tabPs R).map (·.1)) ((tabPs R).map (·.2)), .dit ((lnkPs l []).map (·.1)) ((lnkPs l []).map (·.2))] "sequence" (.lst ((seqOf l R).map evD))).2 = recMO K R l from rfl]
  have hk4 : (γ.set k (recMO K R l))[k]? = some (recMO K R l) := set_get hk
  refine xs_for [3, 4] ?_
  walk_at "GO"
  refine ⟨_, _, _, _, .inl ⟨_, rfl, hk4⟩, rfl, rfl, ?_⟩
  walk_at "GO"
  refine ⟨fun i ρ' γ' => ∃ x3 x4 x5 x6, ρ' = [some (.loc k), some x, none, x3, x4, x5, x6] ∧ γ' = γ.set k (recMO K R l) ∧ ordErr (seqOf l R) (R.drop i) = ordErr (seqOf l R) R, ⟨_, _, _, _, rfl, rfl, rfl⟩, ?_, ?_⟩
  · rintro i y ρ' γ' hy ⟨x3, x4, x5, x6, rfl, rfl, ho⟩
    rw [List.getElem?_map] at hy
    obtain ⟨r, hr, rfl⟩ := Option.map_eq_some_iff.mp hy
    rw [drop_at hr] at ho
    refine dg_tup rfl (dgs_two ?_)
    walk_at "GO"
    refine xe_lcF (seqOf l R) (fun e => .tup [.str (S e.1), .int (e.2 : Nat)]) (fun e => .tup [.str (S e.1), .int (e.2 : Nat)]) (fun e => decide (e.1 = r.1)) (by simp) ?_
    walk_at "GO"
    refine ⟨_, _, _, _, .inl ⟨_, rfl, hk4⟩, rfl, rfl, ?_⟩
    walk_at "GO"
    refine ⟨rfl, by have := seq_len l hRn (fun r hr => (hRe r hr).1); omega, fun y hy => ?_, ?_⟩
    · walk_at "GO"
      by_cases c : y.1 = r.1
      · rw [if_pos (decide_eq_true c)]
        refine ⟨decide_eq_true c, ?_⟩
        walk_at "GO"
        exact ⟨rfl, rfl⟩
      · rw [if_neg (by simpa using c)]
        exact ⟨decide_eq_false c, rfl⟩
    walk_at "GO"
    rw [List.length_map, List.length_map, show ((seqOf l R).filter fun e => decide (e.1 = r.1)).length = doneOf (seqOf l R) r.1 from rfl]
    refine ifd (fun c => ?_) (fun c => ?_)
    · walk_at "GO"
      refine ds_raise X.x_BadRecord.oex ?_
      walk_at "GO"
      refine ⟨rfl, by decide, by decide, [.str (S wOrder), .str (S r.1), .int ((doneOf (seqOf l R) r.1 : Nat) + 1)], ⟨frz1_str, frz1_str, frz1_int, trivial⟩, .inl ?_⟩
      have ho2 : ordErr (seqOf l R) R = some (r.1, doneOf (seqOf l R) r.1 + 1) := by
        rw [← ho]
        unfold ordErr
        rw [if_pos (by omega)]
      exact he _ (by rw [hj, hm]; simp only; rw [ho2]) _
    · walk_at "GO"
      refine ⟨_, _, _, _, rfl, rfl, ?_⟩
      rw [← ho]
      conv => rhs; unfold ordErr
      rw [if_neg (by omega)]
  · rintro ρ' γ' ⟨x3, x4, x5, x6, rfl, rfl, ho⟩
    rw [List.length_map, List.drop_length] at ho
    exact .inl (hq R l (by rw [hj, hm]; simp only; rw [← ho]; rfl))
end
end K31

set_option Elab.async false
set_option linter.all false
set_option maxRecDepth 100000
set_option maxHeartbeats 4000000
namespace K31
open PySem PySem.Spec PyProof.Rows L2 DL
section
mutual
theorem oks_pl {n : Nat} : ∀ d : D, d.oks n = true → d.pl = true ∧ d.py.canLay0 = true
  | .non, _ => ⟨rfl, rfl⟩
  | .bl _, _ => ⟨rfl, rfl⟩
  | .int _, _ => ⟨rfl, rfl⟩
  | .str x, q => by
    unfold D.oks at q
    rw [Bool.and_eq_true] at q
    exact ⟨rfl, q.2⟩
  | .tup ds, q => by
    unfold D.oks at q
    rw [Bool.and_eq_true] at q
    obtain ⟨h1, h2⟩ := oksL_pl ds q.2
    exact ⟨h1, h2⟩
  | .lst ds, q => by
    unfold D.oks at q
    rw [Bool.and_eq_true] at q
    obtain ⟨h1, h2⟩ := oksL_pl ds q.2
    exact ⟨h1, h2⟩
  | .ty _, q => by cases q
  | .ref _, q => by cases q
  | .loc _, q => by cases q
  | .ins _ _ _, q => by cases q
  | .dic _ _, q => by cases q
  | .dit _ _, q => by cases q
  | .exc _ _ _ _ _, q => by cases q
  | .cst _, q => by cases q
  | .exv _ _ _, q => by cases q
theorem oksL_pl {n : Nat} : ∀ ds : List D, oksL n ds = true → plL ds = true ∧ PyData.canLayAll0 (pyL ds) = true
  | [], _ => ⟨rfl, rfl⟩
  | d :: ds, q => by
    cases n with
    | zero => unfold oksL at q; cases q
    | succ n =>
      unfold oksL at q
      rw [Bool.and_eq_true] at q
      obtain ⟨a1, a2⟩ := oks_pl d q.1
      obtain ⟨b1, b2⟩ := oksL_pl ds q.2
      refine ⟨?_, ?_⟩
      · show (d.pl && plL ds) = true
        rw [a1, b1]; rfl
      · show (d.py.canLay0 && PyData.canLayAll0 (pyL ds)) = true
        rw [a2, b2]; rfl
end
variable {K : KX} {γ : Ga} {Q : QD}
theorem ri_add {i j : Int} (q : Q (.int (i + j)) γ) : dR2 K (rI0 fun i j => .int (i + j)) (.int i) (.int j) γ Q := ri0 (fun H α => .int _) q
theorem req_nil {x : D} {xs : List D} {n : Nat} (hx : vw γ x = .lst xs) (h : oksL n xs = true) (q : Q (.bl (decide (xs = []))) γ) : dR2 K (rEqG K.f) x (.lst []) γ Q := by
  obtain ⟨h1, h2⟩ := oksL_pl xs h
  refine req_M (by rw [hx]; exact h1) rfl (by rw [hx]; exact h2) rfl (.inr (show (PyData.list []).depth ≤ 64 by decide)) ?_
  rw [hx]
  cases xs with
  | nil => exact q
  | cons c cs => exact q
end
end K31

set_option Elab.async false
set_option linter.all false
set_option maxRecDepth 100000
set_option maxHeartbeats 4000000
namespace K31
open PySem PySem.Spec PyProof.Rows L2 DL
local macro_rules | `(tactic| walk_at "GO") => `(tactic| repeat' (first | with_reducible refine xs_seq ?_ | with_reducible refine xs_set ?_ | with_reducible refine xs_asg ?_ | with_reducible refine xs_if ?_ | with_reducible refine xs_ret ?_ | with_reducible refine xs_next ?_ | with_reducible refine xs_expr ?_ | with_reducible refine xs_fld ?_ | with_reducible refine xs_par ?_ | with_reducible refine xs_retN ?_ | with_reducible refine xs_brk ?_ | with_reducible refine xp_nil ?_ | with_reducible refine xp_cons ?_ | with_reducible refine xe_disp ?_ | with_reducible refine xe_dispM ?_ | with_reducible refine xs_cont ?_ | with_reducible refine da_nil ?_ | with_reducible refine da_cons ?_ | with_reducible refine de_int ?_ | with_reducible refine de_str ?_ | with_reducible refine de_bl ?_ | with_reducible refine de_non ?_ | with_reducible refine de_ty ?_ | ((with_reducible refine xe_var ?_); refine ⟨_, rfl, ?_⟩) | with_reducible refine de_op ?_ | with_reducible refine de_un ?_ | with_reducible refine de_call ?_ | with_reducible refine de_cb ?_ | with_reducible refine de_sl ?_ | with_reducible refine do_none ?_ | with_reducible refine do_some ?_ | with_reducible refine de_if ?_ | with_reducible refine de_andV ?_ | with_reducible refine de_orV ?_ | with_reducible refine de_notV ?_ | with_reducible refine de_chain ?_ | with_reducible refine dt_test ?_ | with_reducible refine dt_B ?_ | with_reducible refine dt_and ?_ | with_reducible refine dt_or ?_ | with_reducible refine dt_not ?_ | (with_reducible refine xe_tup ?_) | (with_reducible refine xe_lst ?_) | (with_reducible refine xe_lstM ?_) | (with_reducible refine de_meth ?_) | with_reducible refine xs_dput ?_ | with_reducible refine xs_daug ?_ | with_reducible refine de_dget ?_ | with_reducible refine de_dgt1 ?_ | with_reducible refine de_dgt2 ?_ | with_reducible refine de_din ?_ | with_reducible refine de_dnotin ?_ | with_reducible refine de_dnewK ?_ | with_reducible refine de_dnewT ?_ | with_reducible refine de_revL ?_ | (with_reducible refine de_bm ?_) | (with_reducible refine de_bm0 ?_) | (with_reducible refine ⟨isTy_str, ?_⟩) | (with_reducible refine ⟨xty_lst ⟨_, rfl⟩, ?_⟩) | with_reducible refine radd_int ?_ | with_reducible refine radd_S ?_ ?_ | with_reducible refine rsub_int ?_ | with_reducible refine req_int ?_ | with_reducible refine rne_int ?_ | with_reducible refine req_S ?_ | with_reducible refine rne_S ?_ | with_reducible refine rlt_int ?_ | with_reducible refine rle_int ?_ | with_reducible refine rgt_int ?_ | with_reducible refine rge_int ?_ | with_reducible refine rneg_int ?_ | with_reducible refine rin_sgn ?_ | with_reducible refine rni_sgn ?_ | with_reducible refine rc_len_S ?_ ?_ | with_reducible refine rc_int_bl ?_ | with_reducible refine rc_str_int ?_ ?_ | with_reducible refine rc_str_str ?_ | with_reducible refine rc_max2 ?_ | with_reducible refine rc_abs ?_ | with_reducible refine req_bl ?_ | with_reducible refine rne_bl ?_ | with_reducible refine rltg_i ?_ | with_reducible refine rleg_i ?_ | with_reducible refine rgtg_i ?_ | with_reducible refine rgeg_i ?_ | with_reducible refine rltg_b ?_ | with_reducible refine rleg_b ?_ | with_reducible refine rgtg_b ?_ | with_reducible refine rgeg_b ?_ | with_reducible refine rist ?_ | with_reducible refine rntt ?_ | with_reducible refine dt_truth ?_ | ((with_reducible refine xc_isi ?_); refine ⟨_, true, rfl, rfl, ?_⟩) | ((with_reducible refine xc_isi ?_); refine ⟨_, false, rfl, rfl, ?_⟩) | with_reducible refine di_str ?_ | with_reducible refine di_list ?_ | with_reducible refine di_tup ?_ | with_reducible refine di_rng1 ?_ | with_reducible refine di_rng2 ?_ | with_reducible refine ift ?_ | with_reducible refine iff_ ?_ | with_reducible refine ifnt ?_ | with_reducible refine ifnf ?_ | with_reducible refine rin_strs sq_c ?_ | with_reducible refine rni_strs sq_c ?_ | with_reducible refine rin_strs sq_t ?_ | with_reducible refine rni_strs sq_t ?_ | with_reducible refine rin_strs sq_l ?_ | with_reducible refine rni_strs sq_l ?_ | with_reducible refine rin_strs (sq_v rfl) ?_ | with_reducible refine rni_strs (sq_v rfl) ?_ | ((with_reducible refine rin_seq sq_c ?_ ?_ ?_); rfl; rfl) | ((with_reducible refine rin_seq sq_t ?_ ?_ ?_); rfl; rfl) | ((with_reducible refine rin_seq sq_l ?_ ?_ ?_); rfl; rfl) | ((with_reducible refine rin_seq (sq_v rfl) ?_ ?_ ?_); rfl; rfl) | ((with_reducible refine rni_seq sq_c ?_ ?_ ?_); rfl; rfl) | ((with_reducible refine rni_seq sq_t ?_ ?_ ?_); rfl; rfl) | ((with_reducible refine rni_seq sq_l ?_ ?_ ?_); rfl; rfl) | ((with_reducible refine rni_seq (sq_v rfl) ?_ ?_ ?_); rfl; rfl) | (with_reducible refine xix_tup ?_) | ((with_reducible refine xc_len ?_); refine ⟨_, sq_c, ?_⟩) | ((with_reducible refine xc_len ?_); refine ⟨_, sq_t, ?_⟩) | ((with_reducible refine xc_len ?_); refine ⟨_, sq_l, ?_⟩) | ((with_reducible refine xc_len ?_); refine ⟨_, (sq_v rfl), ?_⟩) | (with_reducible refine rm_count ?_) | (with_reducible refine ⟨_, rfl, ?_⟩) | (with_reducible refine ⟨_, .inl rfl, ?_⟩) | (with_reducible refine ⟨_, .inr rfl, ?_⟩) | (with_reducible refine ⟨_, _, rfl, ?_⟩) | ((with_reducible refine xix_lst ?_); refine ⟨_, rfl, _, rfl, ?_⟩) | ((with_reducible refine xadd_lst ?_); refine ⟨_, rfl, _, rfl, ?_, ?_⟩) | with_reducible refine rmul_int ?_ ?_ | with_reducible refine rmod_int ?_ ?_ | with_reducible refine rfdiv_int ?_ ?_ | with_reducible refine rpow_int ?_ ?_ | with_reducible refine xg_setL ?_ | refine ⟨_, _, _, _, rfl, rfl, rfl, rfl, ?_⟩ | with_reducible refine xg_name ?_ | with_reducible refine xg_tup rfl ?_ | with_reducible refine xgs_name ?_ | with_reducible refine xgs_nil ?_ | (with_reducible refine ⟨Nat.le_of_ble_eq_true rfl, ?_⟩) | fail))
section
variable {P : Program} {mg : Str → Option Value}
theorem Strm.mono {n m : Nat} {A B : MO} (h : Strm n A B) (l : m ≤ n) : Strm m A B := by
  obtain ⟨cs, c, t, x, h1, h2, h3, h4, h5, h6⟩ := h
  exact ⟨cs, c, t, x, h1, h2, h3, h4, by omega, h6⟩
theorem fmod_range {a b : Int} (hb : 0 < b) : 0 ≤ a.fmod b ∧ a.fmod b < b := ⟨Int.fmod_nonneg_of_pos a hb, Int.fmod_lt_of_pos a hb⟩
theorem dl_L_draw {K : Frag} (T : Tx K mg) : DL_L_draw K (sp_L_draw K) := by
  rintro ds γ q e E0 lo1 lo2 ⟨n, m, A, B, rest, rfl, hm, hm2, rfl, ⟨cs, c, t, x, rfl, rfl, hc, ht, htn, hx0, hx1⟩, hq⟩
  refine dS_env (ρ' := [some (.loc 1), some (.int m), none, none]) rfl ?_
  unfold t_L_draw
  have htn' : t + 1 + n ≤ 2 ^ 20 := by push_cast at htn; omega
  refine xs_cut (fun ρ' γ' => ρ' = [some (.loc 1), some (.int m), none, none] ∧ γ' = MO.lst (cs.map D.int) :: MO.lst [.loc 0, .int c, .int (t + 1), .int x] :: rest) ?_ ?_
  · walk_at "GO"
    exact ⟨rfl, rfl⟩
  rintro ρ' γ' ⟨rfl, rfl⟩
  refine xs_cut (fun ρ' γ' => ρ' = [some (.loc 1), some (.int m), none, none] ∧ ∃ (cs : List Int) (c x : Int), 0 ≤ c ∧ 0 ≤ x ∧ x < 2 ^ 31 ∧ γ' = MO.lst (cs.map D.int) :: MO.lst [.loc 0, .int c, .int (t + 1), .int x] :: rest) ?_ ?_
  · walk_at "GO"
    refine ifd (fun c1 => ?_) (fun c1 => ?_)
    · walk_at "GO"
      refine rne_nil rfl ?_
      cases cs with
      | nil =>
        walk_at "GO"
        refine ifd (fun c => absurd rfl c) (fun _ => ?_)
        walk_at "GO"
        exact ⟨rfl, [], c, x, hc, hx0, hx1, rfl⟩
      | cons d cs =>
        walk_at "GO"
        refine ifd (fun _ => ?_) (fun c => absurd (by simp) c)
        walk_at "GO"
        refine rm_pop0 rfl ?_
        walk_at "GO"
        · exact ⟨by decide, by decide, by decide⟩
        refine ifd (fun c2 => ?_) (fun c2 => ?_)
        · walk_at "GO"
          · exact .inr (by decide)
          · decide
          obtain ⟨h1, h2⟩ := @fmod_range (x * 31 + d + 7) 2147483647 (by decide)
          exact ⟨rfl, cs, 0, _, by decide, h1, by omega, rfl⟩
        · walk_at "GO"
          refine ⟨rfl, cs, d, x, ?_, hx0, hx1, rfl⟩
          have : (10 : Int) ^ 18 ≤ d := by simpa using c2
          omega
    · walk_at "GO"
      exact ⟨rfl, cs, c, x, hc, hx0, hx1, rfl⟩
  · rintro ρ' γ' ⟨rfl, cs, c, x, h1, h2, h3, rfl⟩
    walk_at "GO"
    refine ifd (fun c1 => ?_) (fun c1 => ?_)
    · walk_at "GO"
      · omega
      · exact ⟨by omega, by omega⟩
      obtain ⟨h4, h5⟩ := @fmod_range c m hm
      refine .inl (hq _ _ _ h4 h5 ⟨cs, c.fdiv m, t + 1, x, rfl, rfl, ?_, by omega, by omega, h2, h3⟩)
      exact Int.fdiv_nonneg h1 (by omega)
    · walk_at "GO"
      · exact .inl (by decide)
      · refine ⟨by decide, by decide, ?_⟩
        have : (0 : Int) ≤ x + 104729 * (t + 1) + 17 := by omega
        omega
      · decide
      · exact .inr (by decide)
      · exact .inl (by decide)
      · refine .inl ⟨by omega, by omega⟩
      · refine ⟨by decide, by decide, ?_⟩
        obtain ⟨h4, h5⟩ := @fmod_range ((x + 104729 * (t + 1) + 17) ^ (5 : Int).toNat) 2147483629 (by decide)
        generalize ((x + 104729 * (t + 1) + 17) ^ (5 : Int).toNat).fmod 2147483629 = y at *
        have h6 : 40503 * (t + 1) * (t + 1) ≤ 40503 * (2 ^ 20) * (2 ^ 20) := by
          have a1 : 40503 * (t + 1) ≤ 40503 * 2 ^ 20 := by omega
          exact Int.mul_le_mul a1 (by omega) (by omega) (by decide)
        have h7 : 0 ≤ 40503 * (t + 1) * (t + 1) := Int.mul_nonneg (by omega) (by omega)
        generalize 40503 * (t + 1) * (t + 1) = z at *
        omega
      · decide
      · omega
      refine .inl (hq _ _ _ ?_ ?_ ⟨cs, c, t + 1, x, rfl, rfl, h1, by omega, by omega, h2, h3⟩)
      · exact (fmod_range hm).1
      · exact (fmod_range hm).2
end
end K31

set_option Elab.async false
set_option linter.all false
set_option maxRecDepth 100000
set_option maxHeartbeats 4000000
namespace K31
open PySem PySem.Spec PyProof.Rows L2 DL
local macro_rules | `(tactic| walk_at "GO") => `(tactic| repeat' (first | with_reducible refine xs_seq ?_ | with_reducible refine xs_set ?_ | with_reducible refine xs_asg ?_ | with_reducible refine xs_if ?_ | with_reducible refine xs_ret ?_ | with_reducible refine xs_next ?_ | with_reducible refine xs_expr ?_ | with_reducible refine xs_fld ?_ | with_reducible refine xs_par ?_ | with_reducible refine xs_retN ?_ | with_reducible refine xs_brk ?_ | with_reducible refine xp_nil ?_ | with_reducible refine xp_cons ?_ | with_reducible refine xe_disp ?_ | with_reducible refine xe_dispM ?_ | with_reducible refine xs_cont ?_ | with_reducible refine da_nil ?_ | with_reducible refine da_cons ?_ | with_reducible refine de_int ?_ | with_reducible refine de_str ?_ | with_reducible refine de_bl ?_ | with_reducible refine de_non ?_ | with_reducible refine de_ty ?_ | ((with_reducible refine xe_var ?_); refine ⟨_, rfl, ?_⟩) | with_reducible refine de_op ?_ | with_reducible refine de_un ?_ | with_reducible refine de_call ?_ | with_reducible refine de_cb ?_ | with_reducible refine de_sl ?_ | with_reducible refine do_none ?_ | with_reducible refine do_some ?_ | with_reducible refine de_if ?_ | with_reducible refine de_andV ?_ | with_reducible refine de_orV ?_ | with_reducible refine de_notV ?_ | with_reducible refine de_chain ?_ | with_reducible refine dt_test ?_ | with_reducible refine dt_B ?_ | with_reducible refine dt_and ?_ | with_reducible refine dt_or ?_ | with_reducible refine dt_not ?_ | (with_reducible refine xe_tup ?_) | (with_reducible refine xe_lst ?_) | (with_reducible refine xe_lstM ?_) | (with_reducible refine de_meth ?_) | with_reducible refine xs_dput ?_ | with_reducible refine xs_daug ?_ | with_reducible refine de_dget ?_ | with_reducible refine de_dgt1 ?_ | with_reducible refine de_dgt2 ?_ | with_reducible refine de_din ?_ | with_reducible refine de_dnotin ?_ | with_reducible refine de_dnewK ?_ | with_reducible refine de_dnewT ?_ | with_reducible refine de_revL ?_ | (with_reducible refine de_bm ?_) | (with_reducible refine de_bm0 ?_) | (with_reducible refine ⟨isTy_str, ?_⟩) | (with_reducible refine ⟨xty_lst ⟨_, rfl⟩, ?_⟩) | (with_reducible refine ⟨xty_lst ⟨_, vw_loc at_0⟩, ?_⟩) | (with_reducible refine rm_append at_0 ?_ ?_) | (with_reducible refine rm_pop at_0 ?_) | (with_reducible refine rc_len (.inl (vw_loc at_0)) ?_) | (with_reducible refine ⟨xty_lst ⟨_, vw_loc at_1⟩, ?_⟩) | (with_reducible refine rm_append at_1 ?_ ?_) | (with_reducible refine rm_pop at_1 ?_) | (with_reducible refine rc_len (.inl (vw_loc at_1)) ?_) | (with_reducible refine ⟨xty_lst ⟨_, vw_loc at_2⟩, ?_⟩) | (with_reducible refine rm_append at_2 ?_ ?_) | (with_reducible refine rm_pop at_2 ?_) | (with_reducible refine rc_len (.inl (vw_loc at_2)) ?_) | with_reducible refine radd_int ?_ | with_reducible refine radd_S ?_ ?_ | with_reducible refine rsub_int ?_ | with_reducible refine req_int ?_ | with_reducible refine rne_int ?_ | with_reducible refine req_S ?_ | with_reducible refine rne_S ?_ | with_reducible refine rlt_int ?_ | with_reducible refine rle_int ?_ | with_reducible refine rgt_int ?_ | with_reducible refine rge_int ?_ | with_reducible refine rneg_int ?_ | with_reducible refine rin_sgn ?_ | with_reducible refine rni_sgn ?_ | with_reducible refine rc_len_S ?_ ?_ | with_reducible refine rc_int_bl ?_ | with_reducible refine rc_str_int ?_ ?_ | with_reducible refine rc_str_str ?_ | with_reducible refine rc_max2 ?_ | with_reducible refine rc_abs ?_ | with_reducible refine req_bl ?_ | with_reducible refine rne_bl ?_ | with_reducible refine rltg_i ?_ | with_reducible refine rleg_i ?_ | with_reducible refine rgtg_i ?_ | with_reducible refine rgeg_i ?_ | with_reducible refine rltg_b ?_ | with_reducible refine rleg_b ?_ | with_reducible refine rgtg_b ?_ | with_reducible refine rgeg_b ?_ | with_reducible refine rist ?_ | with_reducible refine rntt ?_ | with_reducible refine dt_truth ?_ | ((with_reducible refine xc_isi ?_); refine ⟨_, true, rfl, rfl, ?_⟩) | ((with_reducible refine xc_isi ?_); refine ⟨_, false, rfl, rfl, ?_⟩) | with_reducible refine di_str ?_ | with_reducible refine di_list ?_ | with_reducible refine di_tup ?_ | with_reducible refine di_rng1 ?_ | with_reducible refine di_rng2 ?_ | with_reducible refine ift ?_ | with_reducible refine iff_ ?_ | with_reducible refine ifnt ?_ | with_reducible refine ifnf ?_ | with_reducible refine rin_strs sq_c ?_ | with_reducible refine rni_strs sq_c ?_ | with_reducible refine rin_strs sq_t ?_ | with_reducible refine rni_strs sq_t ?_ | with_reducible refine rin_strs sq_l ?_ | with_reducible refine rni_strs sq_l ?_ | with_reducible refine rin_strs (sq_v rfl) ?_ | with_reducible refine rni_strs (sq_v rfl) ?_ | ((with_reducible refine rin_seq sq_c ?_ ?_ ?_); rfl; rfl) | ((with_reducible refine rin_seq sq_t ?_ ?_ ?_); rfl; rfl) | ((with_reducible refine rin_seq sq_l ?_ ?_ ?_); rfl; rfl) | ((with_reducible refine rin_seq (sq_v rfl) ?_ ?_ ?_); rfl; rfl) | ((with_reducible refine rni_seq sq_c ?_ ?_ ?_); rfl; rfl) | ((with_reducible refine rni_seq sq_t ?_ ?_ ?_); rfl; rfl) | ((with_reducible refine rni_seq sq_l ?_ ?_ ?_); rfl; rfl) | ((with_reducible refine rni_seq (sq_v rfl) ?_ ?_ ?_); rfl; rfl) | (with_reducible refine xix_tup ?_) | ((with_reducible refine xc_len ?_); refine ⟨_, sq_c, ?_⟩) | ((with_reducible refine xc_len ?_); refine ⟨_, sq_t, ?_⟩) | ((with_reducible refine xc_len ?_); refine ⟨_, sq_l, ?_⟩) | ((with_reducible refine xc_len ?_); refine ⟨_, (sq_v rfl), ?_⟩) | (with_reducible refine rm_count ?_) | (with_reducible refine ⟨_, rfl, ?_⟩) | (with_reducible refine ⟨_, at_h0, ?_⟩) | (with_reducible refine ⟨_, at_h1, ?_⟩) | (with_reducible refine ⟨_, at_h2, ?_⟩) | (with_reducible refine ⟨_, at_h3, ?_⟩) | (with_reducible refine ⟨_, .inl rfl, ?_⟩) | (with_reducible refine ⟨_, .inr rfl, ?_⟩) | (with_reducible refine ⟨_, _, rfl, ?_⟩) | ((with_reducible refine xix_lst ?_); refine ⟨_, rfl, _, rfl, ?_⟩) | ((with_reducible refine xadd_lst ?_); refine ⟨_, rfl, _, rfl, ?_, ?_⟩) | with_reducible refine rmul_int ?_ ?_ | with_reducible refine rmod_int ?_ ?_ | with_reducible refine rfdiv_int ?_ ?_ | with_reducible refine rpow_int ?_ ?_ | with_reducible refine xg_setL ?_ | refine ⟨_, _, _, _, rfl, rfl, rfl, rfl, ?_⟩ | with_reducible refine xg_name ?_ | with_reducible refine xg_tup rfl ?_ | with_reducible refine xgs_name ?_ | with_reducible refine xgs_nil ?_ | (with_reducible refine ⟨Nat.le_of_ble_eq_true rfl, ?_⟩) | (with_reducible refine ifdT (by decide) ?_) | (with_reducible refine ifdF (by decide) ?_) | (with_reducible refine ifnT (by decide) ?_) | (with_reducible refine ifnF (by decide) ?_) | (with_reducible refine ifbT (by decide) ?_) | (with_reducible refine ifbF (by decide) ?_) | fail))
section
variable {P : Program} {mg : Str → Option Value}
theorem name_ok {l : List Nat} (h : isName l = true) : l ≠ [] ∧ l.length ≤ 8 ∧ PyData.strOk (S l) = true := by
  unfold isName at h
  simp only [Bool.and_eq_true, decide_eq_true_eq] at h
  obtain ⟨⟨⟨h1, h2⟩, _⟩, h3⟩ := h
  refine ⟨by rintro rfl; simp at h1, h2, ?_⟩
  unfold PyData.strOk
  rw [← Array.all_toList, S_l, List.all_eq_true]
  intro c hc
  have h4 : ∀ c ∈ LET, c < 128 := by decide
  have := h4 c (by simpa using List.all_eq_true.mp h3 c hc)
  simp; omega
theorem names_pl : ∀ {ns : List (List Nat)}, (∀ l ∈ ns, isName l = true) → plL (strsD ns) = true ∧ PyData.canLayAll0 (pyL (strsD ns)) = true
  | [], _ => ⟨rfl, rfl⟩
  | l :: ns, h => by
    obtain ⟨h1, h2⟩ := names_pl fun x hx => h x (List.mem_cons_of_mem _ hx)
    refine ⟨h1, ?_⟩
    show (PyData.strOk (S l) && PyData.canLayAll0 (pyL (strsD ns))) = true
    rw [(name_ok (h l List.mem_cons_self)).2.2, h2]; rfl
theorem rne_M {K : KX} {γ : Ga} {Q : QD} {x y : D} (p1 : (vw γ x).pl = true) (p2 : (vw γ y).pl = true) (s1 : (vw γ x).py.canLay0 = true) (s2 : (vw γ y).py.canLay0 = true) (hm : (vw γ x).py.depth ≤ 64 ∨ (vw γ y).py.depth ≤ 64) (q : Q (.bl (!PyData.eqv (vw γ x).py (vw γ y).py)) γ) : dR2 K (rNeG K.f) x y γ Q := fun H α v w k g r1 r2 wv =>
  .inr ⟨_, _, r1.dpv g p1, r2.dpv g p2, s1, s2, hm, wv _ H α _ γ q g.refl g (.bl _)⟩
theorem rne_nilG {K : KX} {γ : Ga} {Q : QD} {x : D} {xs : List D} (hx : vw γ x = .lst xs) (h : plL xs = true ∧ PyData.canLayAll0 (pyL xs) = true) (q : Q (.bl (decide (xs ≠ []))) γ) : dR2 K (rNeG K.f) x (.lst []) γ Q := by
  refine rne_M (by rw [hx]; exact h.1) rfl (by rw [hx]; exact h.2) rfl (.inr (show (PyData.list []).depth ≤ 64 by decide)) ?_
  rw [hx]
  cases xs with
  | nil => exact q
  | cons c cs => exact q
theorem dl_L_value {K : Frag} (T : Tx K mg) : DL_L_value K (sp_L_value K) := by
  rintro ds γ q e E0 lo1 lo2 ⟨n, A, B, rest, rfl, rfl, hs, hq⟩
  refine dS_env (ρ' := [some (.loc 1), none]) rfl ?_
  unfold t_L_value
  walk_at "GO"
  refine ⟨n + 1, 8, A, B, rest, rfl, by decide, by decide, rfl, hs, fun d A' B' d0 d1 hs' => ?_⟩
  walk_at "GO"
  refine ifd (fun c => ?_) (fun c => ?_)
  · walk_at "GO"
    refine ⟨n, 5, A', B', rest, rfl, by decide, by decide, rfl, hs', fun d A' B' d0 d1 hs' => ?_⟩
    walk_at "GO"
    refine .inl (hq _ _ _ ?_ hs')
    unfold smallI BIG
    simp; omega
  · walk_at "GO"
    · exact ⟨by decide, by decide, by decide⟩
    · exact ⟨by decide, by decide, by decide⟩
    refine ⟨n, 4, A', B', rest, rfl, by decide, by decide, rfl, hs', fun d A' B' d0 d1 hs' => ?_⟩
    obtain ⟨k, rfl⟩ : ∃ k : Nat, d = k := ⟨d.toNat, by omega⟩
    have hk : k < 4 := by omega
    match k, hk with
    | 0, _ => exact xix_lst ⟨_, rfl, _, rfl, .inl (hq _ _ _ (by decide) hs')⟩
    | 1, _ => exact xix_lst ⟨_, rfl, _, rfl, .inl (hq _ _ _ (by decide) hs')⟩
    | 2, _ => exact xix_lst ⟨_, rfl, _, rfl, .inl (hq _ _ _ (by decide) hs')⟩
    | 3, _ => exact xix_lst ⟨_, rfl, _, rfl, .inl (hq _ _ _ (by decide) hs')⟩
theorem find_q {c : List Nat × List Nat} : ∀ qs : Qs, (qPs qs).find? (fun x => decide (x.1 = kC c)) = (qs.find? fun x => decide (x.1 = c)).map fun x => (kC x.1, .lst (x.2.map D.int))
  | [] => rfl
  | x :: t => by
    unfold qPs
    rw [List.map_cons, List.find?_cons, List.find?_cons]
    by_cases e : x.1 = c
    · rw [decide_eq_true e, decide_eq_true (by rw [e])]; rfl
    · rw [decide_eq_false e, decide_eq_false (fun z => e (kC_inj z))]
      exact find_q t
theorem get_q {qs : Qs} {c : List Nat × List Nat} : (getP (qPs qs) (kC c)).getD (.lst []) = .lst ((qAt qs c).map D.int) := by
  unfold getP qAt
  rw [find_q]
  cases qs.find? fun x => decide (x.1 = c) <;> rfl
theorem get_q1 {qs : Qs} {c : List Nat × List Nat} (h : qAt qs c ≠ []) : getP (qPs qs) (kC c) = some (.lst ((qAt qs c).map D.int)) := by
  unfold qAt at h ⊢
  unfold getP
  rw [find_q]
  cases hf : qs.find? fun x => decide (x.1 = c) with
  | none => rw [hf] at h; exact absurd rfl h
  | some x => rfl
theorem put_q {qs : Qs} {c : List Nat × List Nat} {l : List Int} : putP (qPs qs) (kC c) (.lst (l.map D.int)) = qPs (qPut qs c l) := by
  unfold putP qPut
  have e : ((qPs qs).any fun x => decide (x.1 = kC c)) = qs.any fun x => decide (x.1 = c) := by
    unfold qPs
    rw [List.any_map]
    congr 1
    funext x
    show decide (kC x.1 = kC c) = _
    by_cases e : x.1 = c
    · rw [decide_eq_true e, decide_eq_true (by rw [e])]
    · rw [decide_eq_false e, decide_eq_false (fun z => e (kC_inj z))]
  rw [e]
  split
  · unfold qPs
    rw [List.map_map, List.map_map]
    refine List.map_congr_left fun x _ => ?_
    show (if kC x.1 = kC c then (kC x.1, D.lst (l.map D.int)) else (kC x.1, .lst (x.2.map D.int))) = (kC (if x.1 = c then (x.1, l) else x).1, .lst ((if x.1 = c then (x.1, l) else x).2.map D.int))
    by_cases e : x.1 = c
    · rw [if_pos e, if_pos (by rw [e])]
    · rw [if_neg e, if_neg (fun z => e (kC_inj z))]
  · simp [qPs]
theorem q_at {N : Nat} {qs : Qs} (h : QOk N qs) (c : List Nat × List Nat) : (qAt qs c).length ≤ N ∧ (∀ x ∈ qAt qs c, smallI x = true) ∧ (qAt qs c ≠ [] → c.1 ≠ c.2) := by
  unfold qAt
  cases hf : qs.find? fun x => decide (x.1 = c) with
  | none => exact ⟨Nat.zero_le _, fun x hx => (by cases hx), fun z => absurd rfl z⟩
  | some p =>
    have e : p.1 = c := by simpa using List.find?_some hf
    have := h.2 p (List.mem_of_find?_eq_some hf)
    rw [e] at this
    exact this
theorem q_put {N : Nat} {qs : Qs} {c : List Nat × List Nat} {l : List Int} (h : QOk N qs) (h1 : l.length ≤ N + 1) (h2 : ∀ x ∈ l, smallI x = true) (h3 : l ≠ [] → c.1 ≠ c.2) : QOk (N + 1) (qPut qs c l) := by
  obtain ⟨a, b⟩ := h
  unfold qPut
  split
  · refine ⟨by rw [List.length_map]; omega, fun p hp => ?_⟩
    obtain ⟨x, hx, rfl⟩ := List.mem_map.mp hp
    obtain ⟨b1, b2, b3⟩ := b x hx
    split
    · rename_i e
      refine ⟨h1, h2, fun z => ?_⟩
      show x.1.1 ≠ x.1.2
      rw [e]
      exact h3 z
    · exact ⟨by omega, b2, b3⟩
  · refine ⟨by rw [List.length_append]; simpa using a, fun p hp => ?_⟩
    rcases List.mem_append.mp hp with hp | hp
    · obtain ⟨b1, b2, b3⟩ := b p hp
      exact ⟨by omega, b2, b3⟩
    · cases List.mem_singleton.mp hp
      exact ⟨h1, h2, h3⟩
theorem filter_ne {nm : List Nat} : ∀ {ns : List (List Nat)}, ns.Nodup → nm ∈ ns → (ns.filter fun o => decide (o ≠ nm)).length = ns.length - 1
  | [], _, h => by cases h
  | x :: ns, hn, h => by
    obtain ⟨h1, h2⟩ := List.nodup_cons.mp hn
    by_cases e : x = nm
    · subst e
      rw [List.filter_cons_of_neg (by simp), List.filter_eq_self.mpr]
      · simp
      · intro y hy
        exact decide_eq_true fun z => h1 (by rw [← z]; exact hy)
    · have hm : nm ∈ ns := by
        rcases List.mem_cons.mp h with z | z
        · exact absurd z.symm e
        · exact z
      rw [List.filter_cons_of_pos (by simpa using e), List.length_cons, filter_ne h2 hm, List.length_cons]
      have := List.length_pos_of_mem hm
      omega
theorem cut_one {x : D} {xs : List D} : DL.cutD (x :: xs) (some 1) none = xs := by
  unfold DL.cutD
  have h1 : HT.sIx (x :: xs).length 0 (some 1) = 1 := by
    rw [show (1 : Int) = ((1 : Nat) : Int) from rfl, HT.sIx_nat]; simp
  rw [h1, HT.sIx_none]
  simp
theorem dl_L_event {K : Frag} (T : Tx K mg) : DL_L_event K (sp_L_event K) := by
  rintro ds γ q e E0 lo1 lo2 ⟨n, A, B, rest, ns, i, nm, N, j, qs, rfl, hns, hnd, hnl, hi, rfl, hj, hQ, hN, hs, hq⟩
  refine dS_env (ρ' := [some (.loc 1), some (.lst (strsD ns)), some (.int i), some (.loc (j + 2)), none, none, none, none, none, none, none]) rfl ?_
  unfold t_L_event
  have hnm : nm ∈ ns := List.mem_of_getElem? hi
  have hix : atI (strsD ns) ((i : Nat) : Int) = some (D.str (S nm)) := at_nat (by unfold strsD; rw [List.getElem?_map, hi]; rfl)
  walk_at "GO"
  refine xix_lst ⟨_, rfl, _, hix, ?_⟩
  walk_at "GO"
  refine ⟨n + 9, 8, A, B, rest, rfl, by decide, by decide, rfl, hs, fun way A' B' w0 w1 hs' => ?_⟩
  walk_at "GO"
  refine ⟨n + 7, A', B', rest, rfl, rfl, hs', fun x A' B' hx hs' => ?_⟩
  walk_at "GO"
  refine ⟨n + 6, 2, A', B', rest, rfl, by decide, by decide, rfl, hs', fun d A' B' d0 d1 hs' => ?_⟩
  obtain ⟨v, hv, hxy⟩ : ∃ v, atI [D.str (S [120]), .str (S [121])] d = some (.str (S v)) ∧ isXY v := by
    rcases (show d = 0 ∨ d = 1 by omega) with rfl | rfl
    · exact ⟨[120], rfl, .inl rfl⟩
    · exact ⟨[121], rfl, .inr rfl⟩
  refine xix_lst ⟨_, rfl, _, hv, ?_⟩
  have hj' : ∀ A' B' : MO, (A' :: B' :: rest)[j + 2]? = some (moT (qPs qs)) := fun _ _ => hj
  walk_at "GO"
  refine xe_lcF ns (fun o => .str (S o)) (fun o => .str (S o)) (fun o => decide (qAt qs (o, nm) ≠ [])) (by simp) ?_
  walk_at "GO"
  refine ⟨rfl, by omega, fun o ho => ?_, ?_⟩
  · walk_at "GO"
    refine ⟨isDD_T (hj' _ _), ?_⟩
    walk_at "GO"
    refine ⟨_, dvTl (key := kC (o, nm)) (hj' _ _) rfl, ?_⟩
    rw [get_q]
    walk_at "GO"
    refine rne_nil rfl ?_
    refine ⟨_, rfl, iteb (fun c => ⟨c, ?_⟩) (fun c => ⟨c, rfl⟩)⟩
    walk_at "GO"
    exact ⟨rfl, rfl⟩
  generalize hfull : ns.filter (fun o => decide (qAt qs (o, nm) ≠ [])) = full
  have hfm : ∀ o ∈ full, o ∈ ns ∧ qAt qs (o, nm) ≠ [] := fun o ho => by
    rw [← hfull] at ho
    exact ⟨(List.mem_filter.mp ho).1, of_decide_eq_true (List.mem_filter.mp ho).2⟩
  have hfl : full.length ≤ 100 := by
    rw [← hfull]
    exact Nat.le_trans (List.length_filter_le _ _) hnl
  rw [show full.map (fun o => D.str (S o)) = strsD full from rfl]
  refine xs_cut (fun ρ' γ' => ρ' = [some (.loc 1), some (.lst (strsD ns)), some (.int i), some (.loc (j + 2)), some (.str (S nm)), some (.int way), some (.int x), some (.str (S v)), some (.lst (strsD full)), none, none] ∧ γ' = A' :: B' :: rest) ?_ ?_
  · walk_at "GO"
    refine ifd (fun c1 => ?_) (fun c1 => ?_)
    · walk_at "GO"
      refine ifd (fun c2 => ?_) (fun c2 => ?_)
      · walk_at "GO"
        refine xe_lcF ns (fun o => .str (S o)) (fun o => .str (S o)) (fun o => decide (o ≠ nm)) (by simp) ?_
        walk_at "GO"
        refine ⟨rfl, by omega, fun o ho => ?_, ?_⟩
        · walk_at "GO"
          refine iteb (fun c => ⟨by simpa using c, ?_⟩) (fun c => ⟨by simpa using c, rfl⟩)
          walk_at "GO"
          exact ⟨rfl, rfl⟩
        walk_at "GO"
        have hlen : (strsD ns).length = ns.length := by simp [strsD]
        rw [hlen] at c2 ⊢
        refine ⟨n + 5, (ns.length : Int) - 1, A', B', rest, rfl, by omega, by omega, rfl, hs', fun d A' B' d0 d1 hs' => ?_⟩
        obtain ⟨k, rfl⟩ : ∃ k : Nat, d = k := ⟨d.toNat, by omega⟩
        have hfn := filter_ne hnd hnm
        obtain ⟨o, ho⟩ : ∃ o, (ns.filter fun o => decide (o ≠ nm))[k]? = some o := ⟨_, List.getElem?_eq_getElem (by omega)⟩
        have hom := List.mem_filter.mp (List.mem_of_getElem? ho)
        have hon : o ≠ nm := of_decide_eq_true hom.2
        refine xix_lst ⟨_, rfl, .str (S o), at_nat (by rw [List.getElem?_map, ho]; rfl), ?_⟩
        walk_at "GO"
        refine ⟨isDD_T (hj' _ _), ?_⟩
        walk_at "GO"
        refine ⟨_, dvTl (key := kC (nm, o)) (hj' _ _) rfl, ?_⟩
        rw [get_q]
        obtain ⟨q1, q2, q3⟩ := q_at hQ (nm, o)
        walk_at "GO"
        · rw [List.length_map]
          show _ + 1 ≤ _
          omega
        refine .inr ⟨_, _, kC (nm, o), rfl, hj' _ _, rfl, ?_, ?_⟩
        · unfold qPs
          rw [List.length_map]
          have := hQ.1
          omega
        rw [show (qAt qs (nm, o)).map D.int ++ [D.int x] = (qAt qs (nm, o) ++ [x]).map D.int by simp, put_q]
        walk_at "GO"
        refine .inl (hq _ _ _ _ (.snd o x hom.1 hon hx) (q_put hQ ?_ ?_ fun _ => fun z => hon z.symm) (hs'.mono (by omega)))
        · rw [List.length_append]
          show _ + 1 ≤ _
          omega
        · intro y hy
          rcases List.mem_append.mp hy with hy | hy
          · exact q2 y hy
          · cases List.mem_singleton.mp hy
            exact hx
      · walk_at "GO"
        exact ⟨rfl, rfl⟩
    · walk_at "GO"
      exact ⟨rfl, rfl⟩
  rintro ρ' γ' ⟨rfl, rfl⟩
  refine xs_cut (fun ρ' γ' => ρ' = [some (.loc 1), some (.lst (strsD ns)), some (.int i), some (.loc (j + 2)), some (.str (S nm)), some (.int way), some (.int x), some (.str (S v)), some (.lst (strsD full)), none, none] ∧ γ' = A' :: B' :: rest) ?_ ?_
  · have hfp := names_pl fun o ho => hns o (hfm o ho).1
    walk_at "GO"
    refine ifd (fun c1 => ?_) (fun c1 => ?_)
    · walk_at "GO"
      refine rne_nilG rfl hfp ?_
      walk_at "GO"
      refine ifd (fun c2 => ?_) (fun c2 => ?_)
      · walk_at "GO"
        have hlen : (strsD full).length = full.length := by simp [strsD]
        rw [hlen]
        have hpos : 0 < full.length := by
          refine Nat.pos_of_ne_zero fun z => c2 ?_
          rw [List.eq_nil_of_length_eq_zero z]; rfl
        refine ⟨n + 5, (full.length : Int), A', B', rest, rfl, by omega, by omega, rfl, hs', fun d A' B' d0 d1 hs' => ?_⟩
        obtain ⟨k, rfl⟩ : ∃ k : Nat, d = k := ⟨d.toNat, by omega⟩
        obtain ⟨o, ho⟩ : ∃ o, full[k]? = some o := ⟨_, List.getElem?_eq_getElem (by omega)⟩
        obtain ⟨hon, hoq⟩ := hfm o (List.mem_of_getElem? ho)
        obtain ⟨q1, q2, q3⟩ := q_at hQ (o, nm)
        have q3 := q3 hoq
        obtain ⟨y, r, hyr⟩ : ∃ y r, qAt qs (o, nm) = y :: r := by
          cases h : qAt qs (o, nm) with
          | nil => exact absurd h hoq
          | cons y r => exact ⟨y, r, rfl⟩
        have hdv : ∀ A' B' : MO, DV (A' :: B' :: rest) (.loc (j + 2)) (.tup [.str (S o), .str (S nm)]) (some (.lst (.int y :: r.map D.int))) := fun A' B' => by
          have := dvTl (key := kC (o, nm)) (y := .tup [.str (S o), .str (S nm)]) (hj' A' B') rfl
          rw [get_q1 hoq, hyr] at this
          exact this
        refine xix_lst ⟨_, rfl, .str (S o), at_nat (by unfold strsD; rw [List.getElem?_map, ho]; rfl), ?_⟩
        walk_at "GO"
        refine ⟨_, hdv _ _, ?_⟩
        walk_at "GO"
        refine xix_lst ⟨.int y :: r.map D.int, rfl, _, at_h0, ?_⟩
        walk_at "GO"
        refine ⟨_, hdv _ _, ?_⟩
        walk_at "GO"
        refine rsl_lst rfl ?_
        rw [cut_one]
        walk_at "GO"
        refine .inr ⟨_, _, kC (o, nm), rfl, hj' _ _, rfl, ?_, ?_⟩
        · unfold qPs
          rw [List.length_map]
          have := hQ.1
          omega
        rw [put_q]
        walk_at "GO"
        refine ⟨n, 2, A', B', _, rfl, by decide, by decide, rfl, hs'.mono (by omega), fun d A' B' d0 d1 hs' => ?_⟩
        have hev : ∀ tk, EvS ns nm qs (.rcv tk o v y) (qPut qs (o, nm) r) := fun tk => .rcv tk o v y r hon q3 hxy hyr (q2 y (by rw [hyr]; exact List.mem_cons_self))
        have hQ' : QOk (N + 1) (qPut qs (o, nm) r) := q_put hQ (by rw [hyr] at q1; simp at q1; omega) (fun z hz => q2 z (by rw [hyr]; exact List.mem_cons_of_mem _ hz)) fun _ => q3
        rcases (show d = 0 ∨ d = 1 by omega) with rfl | rfl
        · refine xix_lst ⟨_, rfl, _, at_h0, ?_⟩
          walk_at "GO"
          exact .inl (hq _ _ _ _ (hev false) hQ' hs')
        · refine xix_lst ⟨_, rfl, _, at_h1, ?_⟩
          walk_at "GO"
          exact .inl (hq _ _ _ _ (hev true) hQ' hs')
      · walk_at "GO"
        exact ⟨rfl, rfl⟩
    · walk_at "GO"
      exact ⟨rfl, rfl⟩
  rintro ρ' γ' ⟨rfl, rfl⟩
  have hset : rest.set j (moT (qPs qs)) = rest := by
    obtain ⟨h1, h2⟩ := List.getElem?_eq_some_iff.mp hj
    rw [← h2, List.set_getElem_self]
  have hQ' : QOk (N + 1) qs := ⟨by have := hQ.1; omega, fun p hp => ⟨by have := (hQ.2 p hp).1; omega, (hQ.2 p hp).2⟩⟩
  have hq' : ∀ ev A' B', EvS ns nm qs ev qs → Strm n A' B' → q ev.d (A' :: B' :: rest) := fun ev A' B' h1 h2 => by
    have := hq ev qs A' B' h1 hQ' h2
    rw [hset] at this
    exact this
  walk_at "GO"
  refine ifd (fun c1 => ?_) (fun c1 => ?_)
  · walk_at "GO"
    exact .inl (hq' _ _ _ .chk (hs'.mono (by omega)))
  · walk_at "GO"
    refine ⟨n + 5, 2, A', B', rest, rfl, by decide, by decide, rfl, hs', fun d A' B' d0 d1 hs' => ?_⟩
    rcases (show d = 0 ∨ d = 1 by omega) with rfl | rfl
    · refine xix_lst ⟨_, rfl, _, at_h0, ?_⟩
      walk_at "GO"
      exact .inl (hq' _ _ _ (.set false v x hxy hx) (hs'.mono (by omega)))
    · refine xix_lst ⟨_, rfl, _, at_h1, ?_⟩
      walk_at "GO"
      exact .inl (hq' _ _ _ (.set true v x hxy hx) (hs'.mono (by omega)))
end
end K31

set_option Elab.async false
set_option linter.all false
set_option maxRecDepth 100000
set_option maxHeartbeats 4000000
namespace K31
open PySem PySem.Spec PyProof.Rows L2 DL
local macro_rules | `(tactic| walk_at "GO") => `(tactic| repeat' (first | with_reducible refine xs_seq ?_ | with_reducible refine xs_set ?_ | with_reducible refine xs_asg ?_ | with_reducible refine xs_if ?_ | with_reducible refine xs_ret ?_ | with_reducible refine xs_next ?_ | with_reducible refine xs_expr ?_ | with_reducible refine xs_fld ?_ | with_reducible refine xs_par ?_ | with_reducible refine xs_retN ?_ | with_reducible refine xs_brk ?_ | with_reducible refine xp_nil ?_ | with_reducible refine xp_cons ?_ | with_reducible refine xe_disp ?_ | with_reducible refine xe_dispM ?_ | with_reducible refine xs_cont ?_ | with_reducible refine da_nil ?_ | with_reducible refine da_cons ?_ | with_reducible refine de_int ?_ | with_reducible refine de_str ?_ | with_reducible refine de_bl ?_ | with_reducible refine de_non ?_ | with_reducible refine de_ty ?_ | ((with_reducible refine xe_var ?_); refine ⟨_, rfl, ?_⟩) | with_reducible refine de_op ?_ | with_reducible refine de_un ?_ | with_reducible refine de_call ?_ | with_reducible refine de_cb ?_ | with_reducible refine de_sl ?_ | with_reducible refine do_none ?_ | with_reducible refine do_some ?_ | with_reducible refine de_if ?_ | with_reducible refine de_andV ?_ | with_reducible refine de_orV ?_ | with_reducible refine de_notV ?_ | with_reducible refine de_chain ?_ | with_reducible refine dt_test ?_ | with_reducible refine dt_B ?_ | with_reducible refine dt_and ?_ | with_reducible refine dt_or ?_ | with_reducible refine dt_not ?_ | (with_reducible refine xe_tup ?_) | (with_reducible refine xe_lst ?_) | (with_reducible refine xe_lstM ?_) | (with_reducible refine de_meth ?_) | with_reducible refine xs_dput ?_ | with_reducible refine xs_daug ?_ | with_reducible refine de_dget ?_ | with_reducible refine de_dgt1 ?_ | with_reducible refine de_dgt2 ?_ | with_reducible refine de_din ?_ | with_reducible refine de_dnotin ?_ | with_reducible refine de_dnewK ?_ | with_reducible refine de_dnewT ?_ | with_reducible refine de_revL ?_ | (with_reducible refine de_bm ?_) | (with_reducible refine de_bm0 ?_) | (with_reducible refine ⟨isTy_str, ?_⟩) | (with_reducible refine ⟨xty_lst ⟨_, rfl⟩, ?_⟩) | (with_reducible refine ⟨xty_lst ⟨_, vw_loc at_0⟩, ?_⟩) | (with_reducible refine rm_append at_0 ?_ ?_) | (with_reducible refine rm_pop at_0 ?_) | (with_reducible refine rc_len (.inl (vw_loc at_0)) ?_) | (with_reducible refine ⟨xty_lst ⟨_, vw_loc at_1⟩, ?_⟩) | (with_reducible refine rm_append at_1 ?_ ?_) | (with_reducible refine rm_pop at_1 ?_) | (with_reducible refine rc_len (.inl (vw_loc at_1)) ?_) | (with_reducible refine ⟨xty_lst ⟨_, vw_loc at_2⟩, ?_⟩) | (with_reducible refine rm_append at_2 ?_ ?_) | (with_reducible refine rm_pop at_2 ?_) | (with_reducible refine rc_len (.inl (vw_loc at_2)) ?_) | with_reducible refine radd_int ?_ | with_reducible refine radd_S ?_ ?_ | with_reducible refine rsub_int ?_ | with_reducible refine req_int ?_ | with_reducible refine rne_int ?_ | with_reducible refine req_S ?_ | with_reducible refine rne_S ?_ | with_reducible refine rlt_int ?_ | with_reducible refine rle_int ?_ | with_reducible refine rgt_int ?_ | with_reducible refine rge_int ?_ | with_reducible refine rneg_int ?_ | with_reducible refine rin_sgn ?_ | with_reducible refine rni_sgn ?_ | with_reducible refine rc_len_S ?_ ?_ | with_reducible refine rc_int_bl ?_ | with_reducible refine rc_str_int ?_ ?_ | with_reducible refine rc_str_str ?_ | with_reducible refine rc_max2 ?_ | with_reducible refine rc_abs ?_ | with_reducible refine req_bl ?_ | with_reducible refine rne_bl ?_ | with_reducible refine rltg_i ?_ | with_reducible refine rleg_i ?_ | with_reducible refine rgtg_i ?_ | with_reducible refine rgeg_i ?_ | with_reducible refine rltg_b ?_ | with_reducible refine rleg_b ?_ | with_reducible refine rgtg_b ?_ | with_reducible refine rgeg_b ?_ | with_reducible refine rist ?_ | with_reducible refine rntt ?_ | with_reducible refine dt_truth ?_ | ((with_reducible refine xc_isi ?_); refine ⟨_, true, rfl, rfl, ?_⟩) | ((with_reducible refine xc_isi ?_); refine ⟨_, false, rfl, rfl, ?_⟩) | with_reducible refine di_str ?_ | with_reducible refine di_list ?_ | with_reducible refine di_tup ?_ | with_reducible refine di_rng1 ?_ | with_reducible refine di_rng2 ?_ | with_reducible refine ift ?_ | with_reducible refine iff_ ?_ | with_reducible refine ifnt ?_ | with_reducible refine ifnf ?_ | with_reducible refine rin_strs sq_c ?_ | with_reducible refine rni_strs sq_c ?_ | with_reducible refine rin_strs sq_t ?_ | with_reducible refine rni_strs sq_t ?_ | with_reducible refine rin_strs sq_l ?_ | with_reducible refine rni_strs sq_l ?_ | with_reducible refine rin_strs (sq_v rfl) ?_ | with_reducible refine rni_strs (sq_v rfl) ?_ | ((with_reducible refine rin_seq sq_c ?_ ?_ ?_); rfl; rfl) | ((with_reducible refine rin_seq sq_t ?_ ?_ ?_); rfl; rfl) | ((with_reducible refine rin_seq sq_l ?_ ?_ ?_); rfl; rfl) | ((with_reducible refine rin_seq (sq_v rfl) ?_ ?_ ?_); rfl; rfl) | ((with_reducible refine rni_seq sq_c ?_ ?_ ?_); rfl; rfl) | ((with_reducible refine rni_seq sq_t ?_ ?_ ?_); rfl; rfl) | ((with_reducible refine rni_seq sq_l ?_ ?_ ?_); rfl; rfl) | ((with_reducible refine rni_seq (sq_v rfl) ?_ ?_ ?_); rfl; rfl) | (with_reducible refine xix_tup ?_) | ((with_reducible refine xc_len ?_); refine ⟨_, sq_c, ?_⟩) | ((with_reducible refine xc_len ?_); refine ⟨_, sq_t, ?_⟩) | ((with_reducible refine xc_len ?_); refine ⟨_, sq_l, ?_⟩) | ((with_reducible refine xc_len ?_); refine ⟨_, (sq_v rfl), ?_⟩) | (with_reducible refine rm_count ?_) | (with_reducible refine ⟨_, rfl, ?_⟩) | (with_reducible refine ⟨_, at_h0, ?_⟩) | (with_reducible refine ⟨_, at_h1, ?_⟩) | (with_reducible refine ⟨_, at_h2, ?_⟩) | (with_reducible refine ⟨_, at_h3, ?_⟩) | (with_reducible refine ⟨_, .inl rfl, ?_⟩) | (with_reducible refine ⟨_, .inr rfl, ?_⟩) | (with_reducible refine ⟨_, _, rfl, ?_⟩) | ((with_reducible refine xix_lst ?_); refine ⟨_, rfl, _, rfl, ?_⟩) | ((with_reducible refine xadd_lst ?_); refine ⟨_, rfl, _, rfl, ?_, ?_⟩) | with_reducible refine rmul_int ?_ ?_ | with_reducible refine rmod_int ?_ ?_ | with_reducible refine rfdiv_int ?_ ?_ | with_reducible refine rpow_int ?_ ?_ | with_reducible refine xg_setL ?_ | refine ⟨_, _, _, _, rfl, rfl, rfl, rfl, ?_⟩ | with_reducible refine xg_name ?_ | with_reducible refine xg_tup rfl ?_ | with_reducible refine xgs_name ?_ | with_reducible refine xgs_nil ?_ | (with_reducible refine ⟨Nat.le_of_ble_eq_true rfl, ?_⟩) | (with_reducible refine ifdT (by decide) ?_) | (with_reducible refine ifdF (by decide) ?_) | (with_reducible refine ifnT (by decide) ?_) | (with_reducible refine ifnF (by decide) ?_) | (with_reducible refine ifbT (by decide) ?_) | (with_reducible refine ifbF (by decide) ?_) | fail))
section
variable {P : Program} {mg : Str → Option Value}
theorem strm_lo {n m L : Nat} {A B A' B' : MO} {rest : Ga} (h : Strm n A B) (h' : Strm m A' B') (l : loG L (A :: B :: rest) = true) (hL : 1 ≤ L) : loG L (A' :: B' :: rest) = true := by
  obtain ⟨cs, c, t, x, rfl, rfl, _⟩ := h'
  have l2 : A.lo L = true ∧ B.lo L = true ∧ loG L rest = true := by simpa [loG] using l
  have l3 : ∀ cs : List Int, loL L (cs.map D.int) = true := fun cs => loL_map (fun _ => rfl) cs
  have l4 : decide (0 < L) = true := decide_eq_true hL
  simp [loG, MO.lo, loL, D.lo, l3, l4, l2.2.2]
def rwL : Nat → List (List Nat) → List D
  | _, [] => []
  | m, n :: ns => .tup [.str (S n), .loc m] :: rwL (m + 1) ns
theorem rwL_len : ∀ (ns : List (List Nat)) (m : Nat), (rwL m ns).length = ns.length
  | [], _ => rfl
  | n :: ns, m => by
    show (rwL (m + 1) ns).length + 1 = _
    rw [rwL_len ns]; rfl
theorem rwL_get : ∀ (ns : List (List Nat)) (m k : Nat) (n : List Nat), ns[k]? = some n → (rwL m ns)[k]? = some (.tup [.str (S n), .loc (m + k)])
  | [], _, _, _, h => by cases h
  | x :: ns, m, 0, n, h => by cases h; rfl
  | x :: ns, m, k + 1, n, h => by
    show (rwL (m + 1) ns)[k]? = _
    rw [rwL_get ns (m + 1) k n (by simpa using h)]
    congr 5
    omega
theorem rwL_app : ∀ (ns : List (List Nat)) (m : Nat) (n : List Nat), rwL m (ns ++ [n]) = rwL m ns ++ [.tup [.str (S n), .loc (m + ns.length)]]
  | [], m, n => rfl
  | x :: ns, m, n => by
    show D.tup [.str (S x), .loc m] :: rwL (m + 1) (ns ++ [n]) = _
    rw [rwL_app ns (m + 1) n]
    show _ = D.tup [.str (S x), .loc m] :: (rwL (m + 1) ns ++ _)
    rw [List.length_cons, show m + 1 + ns.length = m + (ns.length + 1) by omega]
theorem drw_names {ns : List (List Nat)} {k : Nat} {R : List Row} {qs : Qs} (h : Drw ns k R qs) : namesOf R = ns := by
  induction h with
  | nil =>
    unfold namesOf
    rw [List.map_map]
    exact List.map_id ns
  | @step n R qs i r ev qs' h hr _ ih =>
    unfold namesOf at ih ⊢
    rw [List.map_set, ih]
    have : ns[i]? = some r.1 := by rw [← ih, List.getElem?_map, hr]; rfl
    obtain ⟨h1, h2⟩ := List.getElem?_eq_some_iff.mp this
    show ns.set i r.1 = ns
    rw [← h2, List.set_getElem_self]
theorem drw_len {ns : List (List Nat)} {k : Nat} {R : List Row} {qs : Qs} (h : Drw ns k R qs) : ∀ r ∈ R, r.2.length ≤ k := by
  induction h with
  | nil =>
    intro r hr
    obtain ⟨x, _, rfl⟩ := List.mem_map.mp hr
    exact Nat.le_refl _
  | @step n R qs i r ev qs' h hr _ ih =>
    intro x hx
    rcases List.mem_or_eq_of_mem_set hx with hx | rfl
    · have := ih x hx
      omega
    · have := ih r (List.mem_of_getElem? hr)
      show (r.2 ++ [ev]).length ≤ n + 1
      rw [List.length_append]
      show _ + 1 ≤ _
      omega
def rwM (R : List Row) : Ga := R.map fun r => MO.lst (r.2.map Ev.d)
def GR (A B : MO) (rest : Ga) (R : List Row) (qs : Qs) : Ga := A :: B :: (rest ++ rwM R ++ [moT (qPs qs)])
theorem gr_row {A B : MO} {rest : Ga} {R : List Row} {qs : Qs} {i : Nat} {r : Row} (h : R[i]? = some r) : (GR A B rest R qs)[2 + rest.length + i]? = some (.lst (r.2.map Ev.d)) := by
  have hi := (List.getElem?_eq_some_iff.mp h).1
  unfold GR rwM
  rw [show 2 + rest.length + i = rest.length + i + 2 by omega]
  show (rest ++ (R.map fun r => MO.lst (r.2.map Ev.d)) ++ [moT (qPs qs)])[rest.length + i]? = _
  rw [List.append_assoc, List.getElem?_append_right (by omega), show rest.length + i - rest.length = i by omega, List.getElem?_append_left (by rw [List.length_map]; exact hi), List.getElem?_map, h]; rfl
theorem gr_set {A B : MO} {rest : Ga} {R : List Row} {qs : Qs} {i : Nat} {r : Row} (h : i < R.length) : (GR A B rest R qs).set (2 + rest.length + i) (.lst (r.2.map Ev.d)) = GR A B rest (R.set i r) qs := by
  unfold GR rwM
  rw [show 2 + rest.length + i = rest.length + i + 2 by omega]
  show A :: B :: ((rest ++ (R.map fun r => MO.lst (r.2.map Ev.d)) ++ [moT (qPs qs)]).set (rest.length + i) _) = _
  rw [List.append_assoc, List.set_append_right _ _ (by omega), show rest.length + i - rest.length = i by omega, List.set_append_left _ _ (by rw [List.length_map]; exact h), List.map_set, List.append_assoc]
theorem gr_q {R : List Row} {rest : Ga} {qs qs' : Qs} {m : Nat} (h : m = R.length) : (rest ++ rwM R ++ [moT (qPs qs)])[rest.length + m]? = some (moT (qPs qs)) ∧ (rest ++ rwM R ++ [moT (qPs qs)]).set (rest.length + m) (moT (qPs qs')) = rest ++ rwM R ++ [moT (qPs qs')] := by
  have e : rest.length + m = (rest ++ rwM R).length := by unfold rwM; rw [List.length_append, List.length_map, h]
  rw [e]
  refine ⟨List.getElem?_concat_length, ?_⟩
  rw [List.set_append_right _ _ (Nat.le_refl _)]
  simp
theorem ev_lo {m : Nat} (ev : Ev) : ev.d.lo m = true := by cases ev <;> rfl
theorem rows_lo {m : Nat} (r : Row) : (rowD r).lo m = true := by
  show (true && (loL m (r.2.map Ev.d) && true)) = true
  rw [loL_map (fun _ => ev_lo _) r.2]; rfl
theorem dl_L_rows {K : Frag} (T : Tx K mg) : DL_L_rows K (sp_L_rows K) := by
  rintro ds γ q e E0 lo1 lo2 ⟨n, A, B, rest, ns, many, rfl, hns, hnd, hn0, hnl, hmany, rfl, hs, hq⟩
  refine dS_env (ρ' := [some (.loc 1), some (.lst (strsD ns)), some (.int many), none, none, none, none, none, none, none]) rfl ?_
  unfold t_L_rows
  have hb : (A :: B :: rest).length = 2 + rest.length := by simp; omega
  walk_at "GO"
  refine de_lc [4] (by simp) ?_
  walk_at "GO"
  refine ⟨by simp [strsD]; omega, fun i acc γ' => acc = rwL (2 + rest.length) (ns.take i) ∧ γ' = (A :: B :: rest) ++ List.replicate i (.lst []), ⟨rfl, by simp⟩, ?_, ?_⟩
  · rintro i y acc γ' hy ⟨rfl, rfl⟩
    unfold strsD at hy
    rw [List.getElem?_map] at hy
    obtain ⟨nm, hnm, rfl⟩ := Option.map_eq_some_iff.mp hy
    have hil := (List.getElem?_eq_some_iff.mp hnm).1
    refine dg_name (dt_yes ?_)
    rw [if_pos rfl]
    walk_at "GO"
    refine ⟨?_, ?_⟩
    · rw [List.take_add_one, hnm]
      show _ = rwL _ (ns.take i ++ [nm])
      rw [rwL_app, List.length_take, List.length_append, List.length_replicate, hb, Nat.min_eq_left (by omega)]
    · rw [List.append_assoc, List.replicate_succ']
  rintro acc γ' ⟨rfl, rfl⟩
  rw [show (strsD ns).length = ns.length by simp [strsD], List.take_length]
  walk_at "GO"
  have hG0 : (A :: B :: rest) ++ List.replicate ns.length (MO.lst []) ++ [MO.dit [] []] = GR A B rest (ns.map fun n => (n, [])) [] := by
    unfold GR rwM
    rw [List.map_map]
    show A :: B :: (rest ++ _ ++ _) = A :: B :: (rest ++ _ ++ _)
    have : ns.map ((fun r : Row => MO.lst (r.2.map Ev.d)) ∘ fun n => (n, [])) = List.replicate ns.length (MO.lst []) := List.eq_replicate_iff.mpr ⟨by rw [List.length_map], fun b hb => by
      obtain ⟨x, _, rfl⟩ := List.mem_map.mp hb
      rfl⟩
    rw [this]
    rfl
  rw [show ((A :: B :: rest) ++ List.replicate ns.length (MO.lst [])).length = 2 + rest.length + ns.length by rw [List.length_append, hb, List.length_replicate], hG0]
  refine xs_for [6] ?_
  walk_at "GO"
  refine ⟨by omega, by omega, fun i ρ' γ' => ∃ x6 x7 x8 A' B' R qs, ρ' = [some (.loc 1), some (.lst (strsD ns)), some (.int many), some (.lst (rwL (2 + rest.length) ns)), none, some (.loc (2 + rest.length + ns.length)), x6, x7, x8, none] ∧ γ' = GR A' B' rest R qs ∧ Drw ns i R qs ∧ QOk i qs ∧ Strm (n + 11 * (many - i)) A' B', ⟨_, _, _, A, B, _, _, rfl, rfl, .nil, ⟨Nat.le_refl _, by simp⟩, hs⟩, ?_, ?_⟩
  · rintro i y ρ' γ' hy ⟨x6, x7, x8, A', B', R, qs, rfl, rfl, hd, hQ, hs'⟩
    have him : i < many := by
      have := (List.getElem?_eq_some_iff.mp hy).1
      rw [rng_len] at this
      omega
    have hR := drw_names hd
    have hRl : R.length = ns.length := by rw [← hR]; unfold namesOf; rw [List.length_map]
    refine dg_name ?_
    walk_at "GO"
    rw [show (strsD ns).length = ns.length by simp [strsD]]
    refine ⟨n + 11 * (many - (i + 1)) + 10, (ns.length : Int), A', B', _, rfl, by omega, by omega, rfl, hs'.mono (by omega), fun d A1 B1 d0 d1 hs1 => ?_⟩
    obtain ⟨k, rfl⟩ : ∃ k : Nat, d = k := ⟨d.toNat, by omega⟩
    have hk : k < ns.length := by omega
    obtain ⟨r, hr⟩ : ∃ r, R[k]? = some r := ⟨_, List.getElem?_eq_getElem (by omega)⟩
    have hnk : ns[k]? = some r.1 := by rw [← hR]; unfold namesOf; rw [List.getElem?_map, hr]; rfl
    walk_at "GO"
    obtain ⟨g1, g2⟩ := @gr_q R rest qs qs ns.length hRl.symm
    refine ⟨n + 11 * (many - (i + 1)), A1, B1, _, ns, k, r.1, i, rest.length + ns.length, qs, ?_, hns, hnd, hnl, hnk, rfl, g1, hQ, by omega, hs1, fun ev qs' A2 B2 hev hQ' hs2 => ?_⟩
    · rw [show 2 + rest.length + ns.length = rest.length + ns.length + 2 by omega]
    rw [(@gr_q R rest qs qs' ns.length hRl.symm).2, show A2 :: B2 :: (rest ++ rwM R ++ [moT (qPs qs')]) = GR A2 B2 rest R qs' from rfl]
    walk_at "GO"
    refine xix_lst ⟨_, rfl, _, at_nat (rwL_get ns _ _ _ hnk), ?_⟩
    walk_at "GO"
    refine ⟨xty_lst ⟨_, vw_loc (gr_row hr)⟩, ?_⟩
    walk_at "GO"
    refine rm_append (gr_row hr) (by rw [List.length_map]; have := drw_len hd r (List.mem_of_getElem? hr); omega) ?_
    rw [show r.2.map Ev.d ++ [ev.d] = (r.1, r.2 ++ [ev]).2.map Ev.d by simp, gr_set (by omega)]
    exact ⟨_, _, _, A2, B2, _, qs', rfl, rfl, .step hd hr hev, hQ', hs2⟩
  · rintro ρ' γ' ⟨x6, x7, x8, A', B', R, qs, rfl, rfl, hd, hQ, hs'⟩
    rw [rng_len] at hd hQ hs'
    rw [Int.toNat_natCast] at hd hQ hs'
    have hR := drw_names hd
    have hRl : R.length = ns.length := by rw [← hR]; unfold namesOf; rw [List.length_map]
    walk_at "GO"
    refine de_lc [4, 9] (by simp) ?_
    walk_at "GO"
    refine ⟨by rw [rwL_len]; omega, fun i acc γ' => γ' = GR A' B' rest R qs ∧ acc = (R.take i).map rowD, ⟨rfl, rfl⟩, ?_, ?_⟩
    · rintro i y acc γ' hy ⟨rfl, rfl⟩
      have hil := (List.getElem?_eq_some_iff.mp hy).1
      rw [rwL_len] at hil
      obtain ⟨r, hr⟩ : ∃ r, R[i]? = some r := ⟨_, List.getElem?_eq_getElem (by omega)⟩
      have hnk : ns[i]? = some r.1 := by rw [← hR]; unfold namesOf; rw [List.getElem?_map, hr]; rfl
      rw [rwL_get ns _ _ _ hnk] at hy
      cases hy
      refine dg_tup rfl (dgs_two (dt_yes ?_))
      rw [if_pos rfl]
      walk_at "GO"
      refine rc_tuple (.inl (vw_loc (gr_row hr))) ?_
      walk_at "GO"
      refine ⟨rfl, ?_⟩
      rw [List.take_add_one, hr]
      simp [rowD]
    rintro acc γ' ⟨rfl, rfl⟩
    rw [rwL_len, ← hRl, List.take_length]
    have hs2 : Strm n A' B' := hs'.mono (by omega)
    rw [show GR A' B' rest R qs = (A' :: B' :: rest) ++ (rwM R ++ [moT (qPs qs)]) by unfold GR; simp]
    exact dr_keep (γ := A' :: B' :: rest) (strm_lo hs hs2 lo1 (by simp)) (loL_map (fun _ => rows_lo _) R) (hq R qs A' B' hd hs2)
end
end K31

set_option Elab.async false
set_option linter.all false
set_option maxRecDepth 100000
set_option maxHeartbeats 4000000
namespace K31
open PySem PySem.Spec PyProof.Rows L2 DL
local macro_rules | `(tactic| walk_at "GO") => `(tactic| repeat' (first | with_reducible refine xs_seq ?_ | with_reducible refine xs_set ?_ | with_reducible refine xs_asg ?_ | with_reducible refine xs_if ?_ | with_reducible refine xs_ret ?_ | with_reducible refine xs_next ?_ | with_reducible refine xs_expr ?_ | with_reducible refine xs_fld ?_ | with_reducible refine xs_par ?_ | with_reducible refine xs_retN ?_ | with_reducible refine xs_brk ?_ | with_reducible refine xp_nil ?_ | with_reducible refine xp_cons ?_ | with_reducible refine xe_disp ?_ | with_reducible refine xe_dispM ?_ | with_reducible refine xs_cont ?_ | with_reducible refine da_nil ?_ | with_reducible refine da_cons ?_ | with_reducible refine de_int ?_ | with_reducible refine de_str ?_ | with_reducible refine de_bl ?_ | with_reducible refine de_non ?_ | with_reducible refine de_ty ?_ | ((with_reducible refine xe_var ?_); refine ⟨_, rfl, ?_⟩) | with_reducible refine de_op ?_ | with_reducible refine de_un ?_ | with_reducible refine de_call ?_ | with_reducible refine de_cb ?_ | with_reducible refine de_sl ?_ | with_reducible refine do_none ?_ | with_reducible refine do_some ?_ | with_reducible refine de_if ?_ | with_reducible refine de_andV ?_ | with_reducible refine de_orV ?_ | with_reducible refine de_notV ?_ | with_reducible refine de_chain ?_ | with_reducible refine dt_test ?_ | with_reducible refine dt_B ?_ | with_reducible refine dt_and ?_ | with_reducible refine dt_or ?_ | with_reducible refine dt_not ?_ | (with_reducible refine xe_tup ?_) | (with_reducible refine xe_lst ?_) | (with_reducible refine xe_lstM ?_) | (with_reducible refine de_meth ?_) | with_reducible refine xs_dput ?_ | with_reducible refine xs_daug ?_ | with_reducible refine de_dget ?_ | with_reducible refine de_dgt1 ?_ | with_reducible refine de_dgt2 ?_ | with_reducible refine de_din ?_ | with_reducible refine de_dnotin ?_ | with_reducible refine de_dnewK ?_ | with_reducible refine de_dnewT ?_ | with_reducible refine de_revL ?_ | (with_reducible refine de_bm ?_) | (with_reducible refine de_bm0 ?_) | (with_reducible refine ⟨isTy_str, ?_⟩) | (with_reducible refine ⟨xty_lst ⟨_, rfl⟩, ?_⟩) | (with_reducible refine ⟨xty_lst ⟨_, vw_loc at_0⟩, ?_⟩) | (with_reducible refine rm_append at_0 ?_ ?_) | (with_reducible refine rm_pop at_0 ?_) | (with_reducible refine rc_len (.inl (vw_loc at_0)) ?_) | (with_reducible refine ⟨xty_lst ⟨_, vw_loc at_1⟩, ?_⟩) | (with_reducible refine rm_append at_1 ?_ ?_) | (with_reducible refine rm_pop at_1 ?_) | (with_reducible refine rc_len (.inl (vw_loc at_1)) ?_) | (with_reducible refine ⟨xty_lst ⟨_, vw_loc at_2⟩, ?_⟩) | (with_reducible refine rm_append at_2 ?_ ?_) | (with_reducible refine rm_pop at_2 ?_) | (with_reducible refine rc_len (.inl (vw_loc at_2)) ?_) | with_reducible refine radd_int ?_ | with_reducible refine radd_S ?_ ?_ | with_reducible refine rsub_int ?_ | with_reducible refine req_int ?_ | with_reducible refine rne_int ?_ | with_reducible refine req_S ?_ | with_reducible refine rne_S ?_ | with_reducible refine rlt_int ?_ | with_reducible refine rle_int ?_ | with_reducible refine rgt_int ?_ | with_reducible refine rge_int ?_ | with_reducible refine rneg_int ?_ | with_reducible refine rin_sgn ?_ | with_reducible refine rni_sgn ?_ | with_reducible refine rc_len_S ?_ ?_ | with_reducible refine rc_int_bl ?_ | with_reducible refine rc_str_int ?_ ?_ | with_reducible refine rc_str_str ?_ | with_reducible refine rc_max2 ?_ | with_reducible refine rc_abs ?_ | with_reducible refine req_bl ?_ | with_reducible refine rne_bl ?_ | with_reducible refine rltg_i ?_ | with_reducible refine rleg_i ?_ | with_reducible refine rgtg_i ?_ | with_reducible refine rgeg_i ?_ | with_reducible refine rltg_b ?_ | with_reducible refine rleg_b ?_ | with_reducible refine rgtg_b ?_ | with_reducible refine rgeg_b ?_ | with_reducible refine rist ?_ | with_reducible refine rntt ?_ | with_reducible refine dt_truth ?_ | ((with_reducible refine xc_isi ?_); refine ⟨_, true, rfl, rfl, ?_⟩) | ((with_reducible refine xc_isi ?_); refine ⟨_, false, rfl, rfl, ?_⟩) | with_reducible refine di_str ?_ | with_reducible refine di_list ?_ | with_reducible refine di_tup ?_ | with_reducible refine di_rng1 ?_ | with_reducible refine di_rng2 ?_ | with_reducible refine ift ?_ | with_reducible refine iff_ ?_ | with_reducible refine ifnt ?_ | with_reducible refine ifnf ?_ | with_reducible refine rin_strs sq_c ?_ | with_reducible refine rni_strs sq_c ?_ | with_reducible refine rin_strs sq_t ?_ | with_reducible refine rni_strs sq_t ?_ | with_reducible refine rin_strs sq_l ?_ | with_reducible refine rni_strs sq_l ?_ | with_reducible refine rin_strs (sq_v rfl) ?_ | with_reducible refine rni_strs (sq_v rfl) ?_ | ((with_reducible refine rin_seq sq_c ?_ ?_ ?_); rfl; rfl) | ((with_reducible refine rin_seq sq_t ?_ ?_ ?_); rfl; rfl) | ((with_reducible refine rin_seq sq_l ?_ ?_ ?_); rfl; rfl) | ((with_reducible refine rin_seq (sq_v rfl) ?_ ?_ ?_); rfl; rfl) | ((with_reducible refine rni_seq sq_c ?_ ?_ ?_); rfl; rfl) | ((with_reducible refine rni_seq sq_t ?_ ?_ ?_); rfl; rfl) | ((with_reducible refine rni_seq sq_l ?_ ?_ ?_); rfl; rfl) | ((with_reducible refine rni_seq (sq_v rfl) ?_ ?_ ?_); rfl; rfl) | (with_reducible refine xix_tup ?_) | ((with_reducible refine xc_len ?_); refine ⟨_, sq_c, ?_⟩) | ((with_reducible refine xc_len ?_); refine ⟨_, sq_t, ?_⟩) | ((with_reducible refine xc_len ?_); refine ⟨_, sq_l, ?_⟩) | ((with_reducible refine xc_len ?_); refine ⟨_, (sq_v rfl), ?_⟩) | (with_reducible refine rm_count ?_) | (with_reducible refine ⟨_, rfl, ?_⟩) | (with_reducible refine ⟨_, at_h0, ?_⟩) | (with_reducible refine ⟨_, at_h1, ?_⟩) | (with_reducible refine ⟨_, at_h2, ?_⟩) | (with_reducible refine ⟨_, at_h3, ?_⟩) | (with_reducible refine ⟨_, .inl rfl, ?_⟩) | (with_reducible refine ⟨_, .inr rfl, ?_⟩) | (with_reducible refine ⟨_, _, rfl, ?_⟩) | ((with_reducible refine xix_lst ?_); refine ⟨_, rfl, _, rfl, ?_⟩) | ((with_reducible refine xadd_lst ?_); refine ⟨_, rfl, _, rfl, ?_, ?_⟩) | with_reducible refine rmul_int ?_ ?_ | with_reducible refine rmod_int ?_ ?_ | with_reducible refine rfdiv_int ?_ ?_ | with_reducible refine rpow_int ?_ ?_ | with_reducible refine xg_setL ?_ | refine ⟨_, _, _, _, rfl, rfl, rfl, rfl, ?_⟩ | with_reducible refine xg_name ?_ | with_reducible refine xg_tup rfl ?_ | with_reducible refine xgs_name ?_ | with_reducible refine xgs_nil ?_ | (with_reducible refine ⟨Nat.le_of_ble_eq_true rfl, ?_⟩) | (with_reducible refine ifdT (by decide) ?_) | (with_reducible refine ifdF (by decide) ?_) | (with_reducible refine ifnT (by decide) ?_) | (with_reducible refine ifnF (by decide) ?_) | (with_reducible refine ifbT (by decide) ?_) | (with_reducible refine ifbF (by decide) ?_) | fail))
section
variable {P : Program} {mg : Str → Option Value}
def W13 : List (List Nat) := [[97, 110, 100], [101, 108, 115, 101], [101, 110, 100], [105, 102], [105, 110, 112, 117, 116], [109, 111, 100], [110, 111, 116], [111, 114], [112, 114, 111, 99, 101, 115, 115], [114, 101, 99, 101, 105, 118, 101], [115, 101, 110, 100], [115, 101, 116], [116, 97, 107, 101]]
def wWhile : List Nat := [119, 104, 105, 108, 101]
theorem word_q : ∀ w ∈ wWhile :: W13, (w.length = 1 ∨ w.length = 2 ∨ w.length = 3 ∨ w.length = 8) → wordOk (w ++ [113]) = true := by decide
theorem word_n {l : List Nat} (h : l.length = 1 ∨ l.length = 2 ∨ l.length = 3 ∨ l.length = 8) (hl : ∀ c ∈ l, c ∈ LET) (h1 : l ∉ W13) (h2 : l ≠ wWhile) : wordOk l = true := by
  have h3 : l ∉ RESV := by
    intro z
    have : ∀ w ∈ RESV, w ∈ W13 ∨ w = wWhile ∨ w.length = 10 := by decide
    rcases this l z with z | z | z
    · exact h1 z
    · exact h2 z
    · omega
  unfold wordOk isName
  simp only [Bool.and_eq_true, decide_eq_true_eq, Bool.not_eq_true', decide_eq_false_iff_not]
  exact ⟨⟨⟨⟨by omega, by omega⟩, h3⟩, List.all_eq_true.mpr fun c hc => decide_eq_true (hl c hc)⟩, by omega⟩
theorem in_strs {l : List Nat} {ls : List (List Nat)} (h : inD (.str (S l)) (strsD ls) = true) : l ∈ ls := by
  rw [inD_strs] at h
  exact of_decide_eq_true h
theorem ni_strs {l : List Nat} {ls : List (List Nat)} (h : inD (.str (S l)) (strsD ls) = false) : l ∉ ls := by
  rw [inD_strs] at h
  exact of_decide_eq_false h
theorem let_at {d : Int} (h0 : 0 ≤ d) (h1 : d < 26) : ∃ c, atI LET d = some c ∧ c ∈ LET := by
  obtain ⟨k, rfl⟩ : ∃ k : Nat, d = k := ⟨d.toNat, by omega⟩
  have hk : k < LET.length := by show k < 26; omega
  exact ⟨LET[k], at_nat (List.getElem?_eq_getElem hk), List.getElem_mem hk⟩
theorem dl_L_word {K : Frag} (T : Tx K mg) : DL_L_word K (sp_L_word K) := by
  rintro ds γ q e E0 lo1 lo2 ⟨n, A, B, rest, rfl, rfl, hs, hq⟩
  refine dS_env (ρ' := [some (.loc 1), none, none, none, none]) rfl ?_
  unfold t_L_word
  walk_at "GO"
  refine ⟨n + 8, 26, A, B, rest, rfl, by decide, by decide, rfl, hs, fun d A1 B1 d0 d1 hs1 => ?_⟩
  obtain ⟨c, hc, hcl⟩ := let_at d0 d1
  refine xix_str (l := LET) (by decide) ⟨c, hc, ?_⟩
  walk_at "GO"
  refine xs_for [3] ?_
  walk_at "GO"
  refine ⟨n + 7, 5, A1, B1, rest, rfl, by decide, by decide, rfl, hs1, fun d A2 B2 d0 d1 hs2 => ?_⟩
  obtain ⟨m, hm, hm2⟩ : ∃ m : Nat, atI [D.int 0, .int 0, .int 1, .int 2, .int 7] d = some (.int m) ∧ (m = 0 ∨ m = 1 ∨ m = 2 ∨ m = 7) := by
    rcases (show d = 0 ∨ d = 1 ∨ d = 2 ∨ d = 3 ∨ d = 4 by omega) with rfl | rfl | rfl | rfl | rfl
    · exact ⟨0, rfl, .inl rfl⟩
    · exact ⟨0, rfl, .inl rfl⟩
    · exact ⟨1, rfl, .inr (.inl rfl)⟩
    · exact ⟨2, rfl, .inr (.inr (.inl rfl))⟩
    · exact ⟨7, rfl, .inr (.inr (.inr rfl))⟩
  refine xix_lst ⟨_, rfl, _, hm, ?_⟩
  walk_at "GO"
  refine ⟨by omega, by omega, fun i ρ' γ' => ∃ l x3 A' B', ρ' = [some (.loc 1), some (.str (S LET)), some (.str (S l)), x3, none] ∧ γ' = A' :: B' :: rest ∧ l.length = i + 1 ∧ (∀ c ∈ l, c ∈ LET) ∧ Strm (n + (m - i)) A' B', ⟨[c], _, A2, B2, rfl, rfl, rfl, by simpa using hcl, hs2.mono (by omega)⟩, ?_, ?_⟩
  · rintro i y ρ' γ' hy ⟨l, x3, A', B', rfl, rfl, hl, hL, hs'⟩
    have him := (rng_get hy).1
    rw [Int.toNat_natCast] at him
    refine dg_name ?_
    walk_at "GO"
    refine ⟨n + (m - (i + 1)), 26, A', B', rest, rfl, by decide, by decide, rfl, hs'.mono (by omega), fun d A3 B3 d0 d1 hs3 => ?_⟩
    obtain ⟨c', hc', hcl'⟩ := let_at d0 d1
    refine xix_str (l := LET) (by decide) ⟨c', hc', ?_⟩
    walk_at "GO"
    · rw [hl]
      show _ + 1 + 1 ≤ _
      omega
    refine ⟨l ++ [c'], _, A3, B3, rfl, rfl, by rw [List.length_append, hl]; rfl, fun x hx => ?_, hs3⟩
    rcases List.mem_append.mp hx with hx | hx
    · exact hL x hx
    · cases List.mem_singleton.mp hx
      exact hcl'
  · rintro ρ' γ' ⟨l, x3, A', B', rfl, rfl, hl, hL, hs'⟩
    rw [rng_len, Int.toNat_natCast] at hl hs'
    have hs4 : Strm n A' B' := hs'.mono (by omega)
    have hlen : l.length = 1 ∨ l.length = 2 ∨ l.length = 3 ∨ l.length = 8 := by omega
    walk_at "GO"
    refine iteb (fun c1 => ?_) (fun c1 => ?_)
    · have c1 : l ∈ W13 := in_strs c1
      walk_at "GO"
      · rw [hl]
        show _ + 1 + 1 ≤ _
        omega
      exact .inl (hq _ _ _ (word_q l (List.mem_cons_of_mem _ c1) hlen) hs4)
    · have c1 : l ∉ W13 := ni_strs c1
      walk_at "GO"
      refine ifd (fun c2 => ?_) (fun c2 => ?_)
      · walk_at "GO"
        · rw [hl]
          show _ + 1 + 1 ≤ _
          omega
        rw [show l = wWhile from c2] at hlen
        exact absurd hlen (by decide)
      · walk_at "GO"
        exact .inl (hq _ _ _ (word_n hlen hL c1 c2) hs4)
end
end K31

set_option Elab.async false
set_option linter.all false
set_option maxRecDepth 100000
set_option maxHeartbeats 4000000
namespace K31
open PySem PySem.Spec PyProof.Rows L2 DL
local macro_rules | `(tactic| walk_at "GO") => `(tactic| repeat' (first | with_reducible refine xs_seq ?_ | with_reducible refine xs_set ?_ | with_reducible refine xs_asg ?_ | with_reducible refine xs_if ?_ | with_reducible refine xs_ret ?_ | with_reducible refine xs_next ?_ | with_reducible refine xs_expr ?_ | with_reducible refine xs_fld ?_ | with_reducible refine xs_par ?_ | with_reducible refine xs_retN ?_ | with_reducible refine xs_brk ?_ | with_reducible refine xp_nil ?_ | with_reducible refine xp_cons ?_ | with_reducible refine xe_disp ?_ | with_reducible refine xe_dispM ?_ | with_reducible refine xs_cont ?_ | with_reducible refine da_nil ?_ | with_reducible refine da_cons ?_ | with_reducible refine de_int ?_ | with_reducible refine de_str ?_ | with_reducible refine de_bl ?_ | with_reducible refine de_non ?_ | with_reducible refine de_ty ?_ | ((with_reducible refine xe_var ?_); refine ⟨_, rfl, ?_⟩) | with_reducible refine de_op ?_ | with_reducible refine de_un ?_ | with_reducible refine de_call ?_ | with_reducible refine de_cb ?_ | with_reducible refine de_sl ?_ | with_reducible refine do_none ?_ | with_reducible refine do_some ?_ | with_reducible refine de_if ?_ | with_reducible refine de_andV ?_ | with_reducible refine de_orV ?_ | with_reducible refine de_notV ?_ | with_reducible refine de_chain ?_ | with_reducible refine dt_test ?_ | with_reducible refine dt_B ?_ | with_reducible refine dt_and ?_ | with_reducible refine dt_or ?_ | with_reducible refine dt_not ?_ | (with_reducible refine xe_tup ?_) | (with_reducible refine xe_lst ?_) | (with_reducible refine xe_lstM ?_) | (with_reducible refine de_meth ?_) | with_reducible refine xs_dput ?_ | with_reducible refine xs_daug ?_ | with_reducible refine de_dget ?_ | with_reducible refine de_dgt1 ?_ | with_reducible refine de_dgt2 ?_ | with_reducible refine de_din ?_ | with_reducible refine de_dnotin ?_ | with_reducible refine de_dnewK ?_ | with_reducible refine de_dnewT ?_ | with_reducible refine de_revL ?_ | (with_reducible refine de_bm ?_) | (with_reducible refine de_bm0 ?_) | (with_reducible refine ⟨isTy_str, ?_⟩) | (with_reducible refine ⟨xty_lst ⟨_, rfl⟩, ?_⟩) | (with_reducible refine ⟨xty_lst ⟨_, vw_loc at_0⟩, ?_⟩) | (with_reducible refine rm_append at_0 ?_ ?_) | (with_reducible refine rm_pop at_0 ?_) | (with_reducible refine rc_len (.inl (vw_loc at_0)) ?_) | (with_reducible refine ⟨xty_lst ⟨_, vw_loc at_1⟩, ?_⟩) | (with_reducible refine rm_append at_1 ?_ ?_) | (with_reducible refine rm_pop at_1 ?_) | (with_reducible refine rc_len (.inl (vw_loc at_1)) ?_) | (with_reducible refine ⟨xty_lst ⟨_, vw_loc at_2⟩, ?_⟩) | (with_reducible refine rm_append at_2 ?_ ?_) | (with_reducible refine rm_pop at_2 ?_) | (with_reducible refine rc_len (.inl (vw_loc at_2)) ?_) | with_reducible refine radd_int ?_ | with_reducible refine radd_S ?_ ?_ | with_reducible refine rsub_int ?_ | with_reducible refine req_int ?_ | with_reducible refine rne_int ?_ | with_reducible refine req_S ?_ | with_reducible refine rne_S ?_ | with_reducible refine rlt_int ?_ | with_reducible refine rle_int ?_ | with_reducible refine rgt_int ?_ | with_reducible refine rge_int ?_ | with_reducible refine rneg_int ?_ | with_reducible refine rin_sgn ?_ | with_reducible refine rni_sgn ?_ | with_reducible refine rc_len_S ?_ ?_ | with_reducible refine rc_int_bl ?_ | with_reducible refine rc_str_int ?_ ?_ | with_reducible refine rc_str_str ?_ | with_reducible refine rc_max2 ?_ | with_reducible refine rc_abs ?_ | with_reducible refine req_bl ?_ | with_reducible refine rne_bl ?_ | with_reducible refine rltg_i ?_ | with_reducible refine rleg_i ?_ | with_reducible refine rgtg_i ?_ | with_reducible refine rgeg_i ?_ | with_reducible refine rltg_b ?_ | with_reducible refine rleg_b ?_ | with_reducible refine rgtg_b ?_ | with_reducible refine rgeg_b ?_ | with_reducible refine rist ?_ | with_reducible refine rntt ?_ | with_reducible refine dt_truth ?_ | ((with_reducible refine xc_isi ?_); refine ⟨_, true, rfl, rfl, ?_⟩) | ((with_reducible refine xc_isi ?_); refine ⟨_, false, rfl, rfl, ?_⟩) | with_reducible refine di_str ?_ | with_reducible refine di_list ?_ | with_reducible refine di_tup ?_ | with_reducible refine di_rng1 ?_ | with_reducible refine di_rng2 ?_ | with_reducible refine ift ?_ | with_reducible refine iff_ ?_ | with_reducible refine ifnt ?_ | with_reducible refine ifnf ?_ | with_reducible refine rin_strs sq_c ?_ | with_reducible refine rni_strs sq_c ?_ | with_reducible refine rin_strs sq_t ?_ | with_reducible refine rni_strs sq_t ?_ | with_reducible refine rin_strs sq_l ?_ | with_reducible refine rni_strs sq_l ?_ | with_reducible refine rin_strs (sq_v rfl) ?_ | with_reducible refine rni_strs (sq_v rfl) ?_ | ((with_reducible refine rin_seq sq_c ?_ ?_ ?_); rfl; rfl) | ((with_reducible refine rin_seq sq_t ?_ ?_ ?_); rfl; rfl) | ((with_reducible refine rin_seq sq_l ?_ ?_ ?_); rfl; rfl) | ((with_reducible refine rin_seq (sq_v rfl) ?_ ?_ ?_); rfl; rfl) | ((with_reducible refine rni_seq sq_c ?_ ?_ ?_); rfl; rfl) | ((with_reducible refine rni_seq sq_t ?_ ?_ ?_); rfl; rfl) | ((with_reducible refine rni_seq sq_l ?_ ?_ ?_); rfl; rfl) | ((with_reducible refine rni_seq (sq_v rfl) ?_ ?_ ?_); rfl; rfl) | (with_reducible refine xix_tup ?_) | ((with_reducible refine xc_len ?_); refine ⟨_, sq_c, ?_⟩) | ((with_reducible refine xc_len ?_); refine ⟨_, sq_t, ?_⟩) | ((with_reducible refine xc_len ?_); refine ⟨_, sq_l, ?_⟩) | ((with_reducible refine xc_len ?_); refine ⟨_, (sq_v rfl), ?_⟩) | (with_reducible refine rm_count ?_) | (with_reducible refine ⟨_, rfl, ?_⟩) | (with_reducible refine ⟨_, at_h0, ?_⟩) | (with_reducible refine ⟨_, at_h1, ?_⟩) | (with_reducible refine ⟨_, at_h2, ?_⟩) | (with_reducible refine ⟨_, at_h3, ?_⟩) | (with_reducible refine ⟨_, .inl rfl, ?_⟩) | (with_reducible refine ⟨_, .inr rfl, ?_⟩) | (with_reducible refine ⟨_, _, rfl, ?_⟩) | ((with_reducible refine xix_lst ?_); refine ⟨_, rfl, _, rfl, ?_⟩) | ((with_reducible refine xadd_lst ?_); refine ⟨_, rfl, _, rfl, ?_, ?_⟩) | with_reducible refine rmul_int ?_ ?_ | with_reducible refine rmod_int ?_ ?_ | with_reducible refine rfdiv_int ?_ ?_ | with_reducible refine rpow_int ?_ ?_ | with_reducible refine xg_setL ?_ | refine ⟨_, _, _, _, rfl, rfl, rfl, rfl, ?_⟩ | with_reducible refine xg_name ?_ | with_reducible refine xg_tup rfl ?_ | with_reducible refine xgs_name ?_ | with_reducible refine xgs_nil ?_ | (with_reducible refine ⟨Nat.le_of_ble_eq_true rfl, ?_⟩) | (with_reducible refine ifdT (by decide) ?_) | (with_reducible refine ifdF (by decide) ?_) | (with_reducible refine ifnT (by decide) ?_) | (with_reducible refine ifnF (by decide) ?_) | (with_reducible refine ifbT (by decide) ?_) | (with_reducible refine ifbF (by decide) ?_) | fail))
section
variable {P : Program} {mg : Str → Option Value}
theorem filter_out : ∀ (M L : List (List Nat)), L.Nodup → L.length ≤ (L.filter fun o => decide (o ∉ M)).length + M.length
  | [], L, h => by
    rw [List.filter_eq_self.mpr (by simp)]
    exact Nat.le_add_right _ _
  | x :: M, L, h => by
    have h1 : L.length ≤ (L.filter fun o => decide (o ≠ x)).length + 1 := by
      by_cases c : x ∈ L
      · rw [filter_ne h c]
        omega
      · have : (L.filter fun o => decide (o ≠ x)) = L := List.filter_eq_self.mpr fun y hy => decide_eq_true fun z : y = x => c (by rw [← z]; exact hy)
        rw [this]
        exact Nat.le_add_right _ _
    have h2 := filter_out M (L.filter fun o => decide (o ≠ x)) (h.sublist List.filter_sublist)
    rw [List.filter_filter] at h2
    have e : (fun o : List Nat => (decide (o ∉ M)) && decide (o ≠ x)) = fun o => decide (o ∉ x :: M) := by
      funext o
      by_cases c1 : o = x
      · simp [c1]
      · simp [c1]
    rw [e] at h2
    rw [List.length_cons]
    omega
def spr (j : Nat) : List Nat := [97 + j % 26, 97 + j / 26, 122]
def SPR : List (List Nat) := (List.range 41).map spr
theorem spr_ok : ∀ w ∈ SPR, wordOk w = true := by decide +kernel
theorem spr_nd : SPR.Nodup := by decide +kernel
theorem let_get : ∀ k, k < 26 → LET[k]? = some (97 + k) := by decide
theorem word_name {l : List Nat} (h : wordOk l = true) : isName l = true ∧ l.length ≤ 8 ∧ l.length ≠ 5 := by
  unfold wordOk at h
  rw [Bool.and_eq_true, decide_eq_true_eq] at h
  exact ⟨h.1, (name_ok h.1).2.1, h.2⟩
theorem dl_L_words {K : Frag} (T : Tx K mg) : DL_L_words K (sp_L_words K) := by
  rintro ds γ q e E0 lo1 lo2 ⟨n, A, B, rest, many, rfl, hm, rfl, hs, hq⟩
  refine dS_env (ρ' := [some (.loc 1), some (.int many), none, none, none, none, none, none, none]) rfl ?_
  unfold t_L_words
  have hb : (A :: B :: rest).length = 2 + rest.length := by simp; omega
  walk_at "GO"
  refine xe_lcN (List.range 41) (fun j => .int (j : Nat)) (fun j => .str (S (spr j))) (by simp) ?_
  walk_at "GO"
  refine ⟨by decide, by decide, ?_⟩
  refine ⟨?_, by decide, fun j hj => ?_, ?_⟩
  · simp [rngD]
  · have hj := List.mem_range.mp hj
    have e1 : ((j : Nat) : Int).fmod 26 = ((j % 26 : Nat) : Int) := by rw [Int.fmod_eq_emod_of_nonneg _ (by decide)]; omega
    have e2 : ((j : Nat) : Int).fdiv 26 = ((j / 26 : Nat) : Int) := by rw [Int.fdiv_eq_ediv_of_nonneg _ (by decide)]; omega
    walk_at "GO"
    · decide
    refine xix_str (l := LET) (by decide) ⟨97 + j % 26, by rw [e1]; exact at_nat (let_get _ (by omega)), ?_⟩
    walk_at "GO"
    · exact ⟨by decide, by decide⟩
    refine xix_str (l := LET) (by decide) ⟨97 + j / 26, by rw [e2]; exact at_nat (let_get _ (by omega)), ?_⟩
    walk_at "GO"
    · show 1 + 1 ≤ 1000000
      decide
    · show 2 + 1 ≤ 1000000
      decide
    exact ⟨rfl, rfl⟩
  rw [show (List.range 41).map (fun j => D.str (S (spr j))) = strsD SPR by unfold strsD SPR; rw [List.map_map]; rfl]
  walk_at "GO"
  refine xs_for [6] ?_
  walk_at "GO"
  refine ⟨by omega, by omega, fun i ρ' γ' => ∃ x6 x7 A' B' ns, ρ' = [some (.loc 1), some (.int many), some (.str (S LET)), some (.lst (strsD SPR)), none, some (.loc (A :: B :: rest).length), x6, x7, none] ∧ γ' = (A' :: B' :: rest) ++ [.lst (strsD ns)] ∧ ns.length = i ∧ (∀ l ∈ ns, wordOk l = true) ∧ ns.Nodup ∧ Strm (n + 9 * (many - i)) A' B', ⟨_, _, A, B, [], rfl, rfl, rfl, by simp, by simp, hs⟩, ?_, ?_⟩
  · rintro i y ρ' γ' hy ⟨x6, x7, A', B', ns, rfl, rfl, hl, hok, hnd, hs'⟩
    have him := (rng_get hy).1
    rw [Int.toNat_natCast] at him
    refine dg_name ?_
    walk_at "GO"
    refine ⟨n + 9 * (many - (i + 1)), A', B', rest ++ [.lst (strsD ns)], rfl, rfl, hs'.mono (by omega), fun w A1 B1 hw hs1 => ?_⟩
    have hat : (A1 :: B1 :: (rest ++ [MO.lst (strsD ns)]))[(A :: B :: rest).length]? = some (.lst (strsD ns)) := by
      show ((A1 :: B1 :: rest) ++ [MO.lst (strsD ns)])[(A1 :: B1 :: rest).length]? = _
      exact List.getElem?_concat_length
    have hst : ∀ x, (A1 :: B1 :: (rest ++ [MO.lst (strsD ns)])).set (A :: B :: rest).length x = (A1 :: B1 :: rest) ++ [x] := fun x => by
      show ((A1 :: B1 :: rest) ++ [MO.lst (strsD ns)]).set (A1 :: B1 :: rest).length x = _
      simp
    walk_at "GO"
    refine rin_strs (.inl (vw_loc hat)) ?_
    have fin : ∀ w', wordOk w' = true → w' ∉ ns → ∃ x6 x7 A' B' ns', [some (.loc 1), some (.int many), some (.str (S LET)), some (.lst (strsD SPR)), none, some (.loc (A :: B :: rest).length), some y, some (.str (S w)), none] = [some (.loc 1), some (.int many), some (.str (S LET)), some (.lst (strsD SPR)), none, some (.loc (A :: B :: rest).length), x6, x7, none] ∧ (A1 :: B1 :: rest) ++ [MO.lst (strsD ns ++ [.str (S w')])] = (A' :: B' :: rest) ++ [.lst (strsD ns')] ∧ ns'.length = i + 1 ∧ (∀ l ∈ ns', wordOk l = true) ∧ ns'.Nodup ∧ Strm (n + 9 * (many - (i + 1))) A' B' := fun w' h1 h2 => by
      refine ⟨_, _, A1, B1, ns ++ [w'], rfl, by rw [strs_app], by rw [List.length_append, hl]; rfl, fun l hl' => ?_, ?_, hs1⟩
      · rcases List.mem_append.mp hl' with hl' | hl'
        · exact hok l hl'
        · cases List.mem_singleton.mp hl'
          exact h1
      · rw [List.nodup_append]
        refine ⟨hnd, by simp, fun a ha b hb => ?_⟩
        cases List.mem_singleton.mp hb
        exact fun e => h2 (e ▸ ha)
    have hsl : (strsD ns).length < 1000000 := by
      unfold strsD
      rw [List.length_map]
      omega
    walk_at "GO"
    refine ifd (fun c => ?_) (fun c => ?_)
    · walk_at "GO"
      refine xe_lcF SPR (fun o => .str (S o)) (fun o => .str (S o)) (fun o => decide (o ∉ ns)) (by simp) ?_
      walk_at "GO"
      refine ⟨rfl, by decide, fun o ho => ?_, ?_⟩
      · walk_at "GO"
        refine rni_strs (.inl (vw_loc hat)) ?_
        refine ⟨_, rfl, iteb (fun c => ⟨by simpa using c, ?_⟩) (fun c => ⟨by simpa using c, rfl⟩)⟩
        walk_at "GO"
        exact ⟨rfl, rfl⟩
      walk_at "GO"
      have hf := filter_out ns SPR spr_nd
      have hSl : SPR.length = 41 := by decide
      obtain ⟨w', hw'⟩ : ∃ w', (SPR.filter fun o => decide (o ∉ ns))[0]? = some w' := ⟨_, List.getElem?_eq_getElem (by omega)⟩
      have hwm := List.mem_filter.mp (List.mem_of_getElem? hw')
      refine xix_lst ⟨_, rfl, .str (S w'), at_nat (j := 0) (by rw [List.getElem?_map, hw']; rfl), ?_⟩
      walk_at "GO"
      · exact hsl
      rw [hst]
      exact fin w' (spr_ok w' hwm.1) (of_decide_eq_true hwm.2)
    · walk_at "GO"
      · exact hsl
      rw [hst]
      exact fin w hw c
  · rintro ρ' γ' ⟨x6, x7, A', B', ns, rfl, rfl, hl, hok, hnd, hs'⟩
    rw [rng_len, Int.toNat_natCast] at hl hs'
    have hs4 : Strm n A' B' := hs'.mono (by omega)
    walk_at "GO"
    exact dr_lst (γ := A' :: B' :: rest) (strm_lo hs hs4 lo1 (by simp)) (loL_map (fun _ => rfl) _) (hq ns A' B' hl hok hnd hs4)
end
end K31

set_option Elab.async false
set_option linter.all false
set_option maxRecDepth 100000
set_option maxHeartbeats 4000000
namespace K31
open PySem PySem.Spec PyProof.Rows L2 DL
local macro_rules | `(tactic| walk_at "GO") => `(tactic| repeat' (first | with_reducible refine xs_seq ?_ | with_reducible refine xs_set ?_ | with_reducible refine xs_asg ?_ | with_reducible refine xs_if ?_ | with_reducible refine xs_ret ?_ | with_reducible refine xs_next ?_ | with_reducible refine xs_expr ?_ | with_reducible refine xs_fld ?_ | with_reducible refine xs_par ?_ | with_reducible refine xs_retN ?_ | with_reducible refine xs_brk ?_ | with_reducible refine xp_nil ?_ | with_reducible refine xp_cons ?_ | with_reducible refine xe_disp ?_ | with_reducible refine xe_dispM ?_ | with_reducible refine xs_cont ?_ | with_reducible refine da_nil ?_ | with_reducible refine da_cons ?_ | with_reducible refine de_int ?_ | with_reducible refine de_str ?_ | with_reducible refine de_bl ?_ | with_reducible refine de_non ?_ | with_reducible refine de_ty ?_ | ((with_reducible refine xe_var ?_); refine ⟨_, rfl, ?_⟩) | with_reducible refine de_op ?_ | with_reducible refine de_un ?_ | with_reducible refine de_call ?_ | with_reducible refine de_cb ?_ | with_reducible refine de_sl ?_ | with_reducible refine do_none ?_ | with_reducible refine do_some ?_ | with_reducible refine de_if ?_ | with_reducible refine de_andV ?_ | with_reducible refine de_orV ?_ | with_reducible refine de_notV ?_ | with_reducible refine de_chain ?_ | with_reducible refine dt_test ?_ | with_reducible refine dt_B ?_ | with_reducible refine dt_and ?_ | with_reducible refine dt_or ?_ | with_reducible refine dt_not ?_ | (with_reducible refine xe_tup ?_) | (with_reducible refine xe_lst ?_) | (with_reducible refine xe_lstM ?_) | (with_reducible refine de_meth ?_) | with_reducible refine xs_dput ?_ | with_reducible refine xs_daug ?_ | with_reducible refine de_dget ?_ | with_reducible refine de_dgt1 ?_ | with_reducible refine de_dgt2 ?_ | with_reducible refine de_din ?_ | with_reducible refine de_dnotin ?_ | with_reducible refine de_dnewK ?_ | with_reducible refine de_dnewT ?_ | with_reducible refine de_revL ?_ | (with_reducible refine de_bm ?_) | (with_reducible refine de_bm0 ?_) | (with_reducible refine ⟨isTy_str, ?_⟩) | (with_reducible refine ⟨xty_lst ⟨_, rfl⟩, ?_⟩) | (with_reducible refine ⟨xty_lst ⟨_, vw_loc at_0⟩, ?_⟩) | (with_reducible refine rm_append at_0 ?_ ?_) | (with_reducible refine rm_pop at_0 ?_) | (with_reducible refine rc_len (.inl (vw_loc at_0)) ?_) | (with_reducible refine ⟨xty_lst ⟨_, vw_loc at_1⟩, ?_⟩) | (with_reducible refine rm_append at_1 ?_ ?_) | (with_reducible refine rm_pop at_1 ?_) | (with_reducible refine rc_len (.inl (vw_loc at_1)) ?_) | (with_reducible refine ⟨xty_lst ⟨_, vw_loc at_2⟩, ?_⟩) | (with_reducible refine rm_append at_2 ?_ ?_) | (with_reducible refine rm_pop at_2 ?_) | (with_reducible refine rc_len (.inl (vw_loc at_2)) ?_) | with_reducible refine radd_int ?_ | with_reducible refine radd_S ?_ ?_ | with_reducible refine rsub_int ?_ | with_reducible refine req_int ?_ | with_reducible refine rne_int ?_ | with_reducible refine req_S ?_ | with_reducible refine rne_S ?_ | with_reducible refine rlt_int ?_ | with_reducible refine rle_int ?_ | with_reducible refine rgt_int ?_ | with_reducible refine rge_int ?_ | with_reducible refine rneg_int ?_ | with_reducible refine rin_sgn ?_ | with_reducible refine rni_sgn ?_ | with_reducible refine rc_len_S ?_ ?_ | with_reducible refine rc_int_bl ?_ | with_reducible refine rc_str_int ?_ ?_ | with_reducible refine rc_str_str ?_ | with_reducible refine rc_max2 ?_ | with_reducible refine rc_abs ?_ | with_reducible refine req_bl ?_ | with_reducible refine rne_bl ?_ | with_reducible refine rltg_i ?_ | with_reducible refine rleg_i ?_ | with_reducible refine rgtg_i ?_ | with_reducible refine rgeg_i ?_ | with_reducible refine rltg_b ?_ | with_reducible refine rleg_b ?_ | with_reducible refine rgtg_b ?_ | with_reducible refine rgeg_b ?_ | with_reducible refine rist ?_ | with_reducible refine rntt ?_ | with_reducible refine dt_truth ?_ | ((with_reducible refine xc_isi ?_); refine ⟨_, true, rfl, rfl, ?_⟩) | ((with_reducible refine xc_isi ?_); refine ⟨_, false, rfl, rfl, ?_⟩) | with_reducible refine di_str ?_ | with_reducible refine di_list ?_ | with_reducible refine di_tup ?_ | with_reducible refine di_rng1 ?_ | with_reducible refine di_rng2 ?_ | with_reducible refine ift ?_ | with_reducible refine iff_ ?_ | with_reducible refine ifnt ?_ | with_reducible refine ifnf ?_ | with_reducible refine rin_strs sq_c ?_ | with_reducible refine rni_strs sq_c ?_ | with_reducible refine rin_strs sq_t ?_ | with_reducible refine rni_strs sq_t ?_ | with_reducible refine rin_strs sq_l ?_ | with_reducible refine rni_strs sq_l ?_ | with_reducible refine rin_strs (sq_v rfl) ?_ | with_reducible refine rni_strs (sq_v rfl) ?_ | ((with_reducible refine rin_seq sq_c ?_ ?_ ?_); rfl; rfl) | ((with_reducible refine rin_seq sq_t ?_ ?_ ?_); rfl; rfl) | ((with_reducible refine rin_seq sq_l ?_ ?_ ?_); rfl; rfl) | ((with_reducible refine rin_seq (sq_v rfl) ?_ ?_ ?_); rfl; rfl) | ((with_reducible refine rni_seq sq_c ?_ ?_ ?_); rfl; rfl) | ((with_reducible refine rni_seq sq_t ?_ ?_ ?_); rfl; rfl) | ((with_reducible refine rni_seq sq_l ?_ ?_ ?_); rfl; rfl) | ((with_reducible refine rni_seq (sq_v rfl) ?_ ?_ ?_); rfl; rfl) | (with_reducible refine xix_tup ?_) | ((with_reducible refine xc_len ?_); refine ⟨_, sq_c, ?_⟩) | ((with_reducible refine xc_len ?_); refine ⟨_, sq_t, ?_⟩) | ((with_reducible refine xc_len ?_); refine ⟨_, sq_l, ?_⟩) | ((with_reducible refine xc_len ?_); refine ⟨_, (sq_v rfl), ?_⟩) | (with_reducible refine rm_count ?_) | (with_reducible refine ⟨_, rfl, ?_⟩) | (with_reducible refine ⟨_, at_h0, ?_⟩) | (with_reducible refine ⟨_, at_h1, ?_⟩) | (with_reducible refine ⟨_, at_h2, ?_⟩) | (with_reducible refine ⟨_, at_h3, ?_⟩) | (with_reducible refine ⟨_, .inl rfl, ?_⟩) | (with_reducible refine ⟨_, .inr rfl, ?_⟩) | (with_reducible refine ⟨_, _, rfl, ?_⟩) | ((with_reducible refine xix_lst ?_); refine ⟨_, rfl, _, rfl, ?_⟩) | ((with_reducible refine xadd_lst ?_); refine ⟨_, rfl, _, rfl, ?_, ?_⟩) | with_reducible refine rmul_int ?_ ?_ | with_reducible refine rmod_int ?_ ?_ | with_reducible refine rfdiv_int ?_ ?_ | with_reducible refine rpow_int ?_ ?_ | with_reducible refine xg_setL ?_ | refine ⟨_, _, _, _, rfl, rfl, rfl, rfl, ?_⟩ | with_reducible refine xg_name ?_ | with_reducible refine xg_tup rfl ?_ | with_reducible refine xgs_name ?_ | with_reducible refine xgs_nil ?_ | (with_reducible refine ⟨Nat.le_of_ble_eq_true rfl, ?_⟩) | (with_reducible refine ifdT (by decide) ?_) | (with_reducible refine ifdF (by decide) ?_) | (with_reducible refine ifnT (by decide) ?_) | (with_reducible refine ifnF (by decide) ?_) | (with_reducible refine ifbT (by decide) ?_) | (with_reducible refine ifbF (by decide) ?_) | fail))
section
variable {P : Program} {mg : Str → Option Value}
theorem di_mono {K : KX} {wi : TI} {ρ : DL.Env} {γ : Ga} {R R' : List D → Ga → Prop} (h : dI K wi ρ γ R) (f : ∀ ds γ1, R ds γ1 → R' ds γ1) : dI K wi ρ γ R' := fun σ H α r rr g w => h σ H α r rr g fun J H' α' γ1 ds hh e g' wk => w J H' α' γ1 ds (f _ _ hh) e g' wk
theorem req_any {K : KX} {γ : Ga} {Q : QD} {a b : D} {n : Nat} (ha : a.oks n = true) (hbo : b.oks n = true) (hb : b = .non ∨ ∃ l, b = .str (S l)) (na : (∀ i, a ≠ .int i) ∧ ∀ i, a ≠ .bl i) (q : Q (.bl (eqD a b)) γ) : dR2 K (rEqG K.f) a b γ Q := by
  have hp := oks_pl a ha
  have hq := oks_pl b hbo
  rcases hb with rfl | ⟨l, rfl⟩
  · rcases oks_cases ha with rfl | ⟨b, rfl⟩ | ⟨i, rfl, _⟩ | ⟨l, rfl, _⟩ | ⟨xs, rfl, _⟩ | ⟨xs, rfl, _⟩
    · exact req_M rfl rfl rfl rfl (.inr (by show (0 : Nat) ≤ 64; decide)) q
    · exact absurd rfl (na.2 b)
    · exact absurd rfl (na.1 i)
    all_goals exact req_M hp.1 rfl hp.2 rfl (.inr (by show (0 : Nat) ≤ 64; decide)) q
  · rcases oks_cases ha with rfl | ⟨b, rfl⟩ | ⟨i, rfl, _⟩ | ⟨l', rfl, _, hs⟩ | ⟨xs, rfl, _⟩ | ⟨xs, rfl, _⟩
    case inr.inr.inr.inr.inl =>
      refine req_S ?_
      have : eqD (.str (S l')) (.str (S l)) = decide (l' = l) := by
        show decide (S l' = S l) = _
        by_cases c : l' = l
        · rw [decide_eq_true c, decide_eq_true (by rw [c])]
        · rw [decide_eq_false c, decide_eq_false (fun z => c (S_inj z))]
      rw [← this]; exact q
    all_goals first | exact absurd rfl (na.2 _) | exact absurd rfl (na.1 _) | exact req_M hp.1 hq.1 hp.2 hq.2 (.inr (by show (0 : Nat) ≤ 64; decide)) q
theorem eqD_str {l l' : List Nat} : eqD (.str (S l')) (.str (S l)) = decide (l' = l) := by
  show decide (S l' = S l) = _
  by_cases c : l' = l
  · rw [decide_eq_true c, decide_eq_true (by rw [c])]
  · rw [decide_eq_false c, decide_eq_false (fun z => c (S_inj z))]
theorem eqDL_zip : ∀ xs ys : List D, eqDL xs ys = (decide (xs.length = ys.length) && (xs.zip ys).all fun p => eqD p.1 p.2)
  | [], [] => rfl
  | [], _ :: _ => rfl
  | _ :: _, [] => rfl
  | x :: xs, y :: ys => by
    show (eqD x y && eqDL xs ys) = _
    rw [eqDL_zip xs ys, List.zip_cons_cons, List.all_cons]
    by_cases c : xs.length = ys.length
    · rw [decide_eq_true c, decide_eq_true (by simp [c])]; simp
    · rw [decide_eq_false c, decide_eq_false (by simpa using c)]; simp
theorem dl_L_same {K : Frag} (T : Tx K mg) (s : SpD) (n : Nat) (hrec : ∀ n', n = n' + 1 → ∀ ds γ q e, spSame K n' ds γ q e → s ds γ q e) : DL_L_same K s (spSame K n) := by
  rintro ds γ q e E0 lo1 lo2 ⟨a, b, rfl, ha, hb, hq⟩
  refine dS_env (ρ' := [some a, some b, none, none]) rfl ?_
  have zp : ∀ xs ys : List D, xs.length ≤ 10000 → ys.length ≤ 10000 → oksL n xs = true → oksL n ys = true → ∀ Q : QD, Q (.bl ((xs.zip ys).all fun p => eqD p.1 p.2)) γ → dI ⟨K, wOf E0, fun _ => DrX γ.length e⟩ (RZ.iZipA K (tCons (tVar 0) (tCons (tVar 1) tNil))) [some a, some b, none, none] γ (fun ds γ1 => ds = (xs.zip ys).map (fun p => D.tup [p.1, p.2]) ∧ γ1 = γ) → dE ⟨K, wOf E0, fun _ => DrX γ.length e⟩ (tCB (rAll K) (tCons (tLc (RZ.iZipA K (tCons (tVar 0) (tCons (tVar 1) tNil))) (gTup K 2 (gCons (gName 2) (gCons (gName 3) gNil))) tYes (tCallW (toSp K s) (WE W0) (tCons (tVar 2) (tCons (tVar 3) tNil))) [2, 3]) tNil)) [some a, some b, none, none] γ Q := by
    intro xs ys hx hy ox oy Q hQ hz
    walk_at "GO"
    refine xe_lcP (xs.zip ys) (fun p => p.1) (fun p => p.2) (fun p => .bl (eqD p.1 p.2)) (by simp) (by simp) (di_mono hz ?_)
    rintro ds γ1 ⟨rfl, rfl⟩
    refine ⟨rfl, by rw [List.length_zip]; omega, fun p hp => ?_, ?_⟩
    · walk_at "GO"
      obtain ⟨m1, m2⟩ := List.of_mem_zip hp
      cases n with
      | zero =>
        cases xs with
        | nil => cases m1
        | cons x xs => unfold oksL at ox; cases ox
      | succ n =>
        refine hrec n rfl _ _ _ _ ?_
        exact ⟨p.1, p.2, rfl, oksL_mem ox _ m1, oksL_mem oy _ m2, rfl, rfl⟩
    · rw [map_bl]
      walk_at "GO"
      refine rc_all rfl ?_
      rw [List.all_map]
      exact hQ
  unfold t_L_same
  rcases oks_cases hb with rfl | ⟨b, rfl⟩ | ⟨i, rfl, _⟩ | ⟨l, rfl, _⟩ | ⟨ys, rfl, hyl, hys⟩ | ⟨ys, rfl, hyl, hys⟩
  all_goals rcases oks_cases ha with rfl | ⟨b', rfl⟩ | ⟨i', rfl, _⟩ | ⟨l', rfl, _⟩ | ⟨xs, rfl, hxl, hxs⟩ | ⟨xs, rfl, hxl, hxs⟩
  all_goals
    walk_at "GO"
  all_goals first | exact .inl hq | refine xc_isiT (ns := ["list", "tuple"]) ⟨_, true, rfl, rfl, ?_⟩ | refine xc_isiT (ns := ["list", "tuple"]) ⟨_, false, rfl, rfl, ?_⟩
  all_goals
    walk_at "GO"
  all_goals try exact .inl hq
  all_goals try exact req_any ha hb (by first | exact .inl rfl | exact .inr ⟨_, rfl⟩) ⟨fun _ z => (by cases z), fun _ z => (by cases z)⟩ (.inl hq)
  all_goals try (rw [eqD_str] at hq; exact .inl hq)
  · rw [show eqD (.tup xs) (.tup ys) = eqDL xs ys from rfl, eqDL_zip] at hq
    refine ifd (fun c => ?_) (fun c => ?_)
    · rw [decide_eq_true (by omega), Bool.true_and] at hq
      refine zp xs ys hxl hyl hxs hys _ (.inl hq) (di_zip ?_)
      walk_at "GO"
      exact ⟨_, _, xs, ys, rfl, .inr ⟨.inl rfl, .inl rfl⟩, rfl, rfl⟩
    · rw [decide_eq_false (by omega), Bool.false_and] at hq
      exact .inl hq
  · rw [show eqD (.lst xs) (.lst ys) = eqDL xs ys from rfl, eqDL_zip] at hq
    refine ifd (fun c => ?_) (fun c => ?_)
    · rw [decide_eq_true (by omega), Bool.true_and] at hq
      refine zp xs ys hxl hyl hxs hys _ (.inl hq) (di_zip ?_)
      walk_at "GO"
      exact ⟨_, _, xs, ys, rfl, .inl ⟨rfl, rfl⟩, rfl, rfl⟩
    · rw [decide_eq_false (by omega), Bool.false_and] at hq
      exact .inl hq
end
end K31

set_option Elab.async false
set_option linter.all false
set_option maxRecDepth 100000
set_option maxHeartbeats 4000000
namespace K31
open PySem PySem.Spec PyProof.Rows L2 DL
local macro_rules | `(tactic| walk_at "GO") => `(tactic| repeat' (first | with_reducible refine xs_seq ?_ | with_reducible refine xs_set ?_ | with_reducible refine xs_asg ?_ | with_reducible refine xs_if ?_ | with_reducible refine xs_ret ?_ | with_reducible refine xs_next ?_ | with_reducible refine xs_expr ?_ | with_reducible refine xs_fld ?_ | with_reducible refine xs_par ?_ | with_reducible refine xs_retN ?_ | with_reducible refine xs_brk ?_ | with_reducible refine xp_nil ?_ | with_reducible refine xp_cons ?_ | with_reducible refine xe_disp ?_ | with_reducible refine xe_dispM ?_ | with_reducible refine xs_cont ?_ | with_reducible refine da_nil ?_ | with_reducible refine da_cons ?_ | with_reducible refine de_int ?_ | with_reducible refine de_str ?_ | with_reducible refine de_bl ?_ | with_reducible refine de_non ?_ | with_reducible refine de_ty ?_ | ((with_reducible refine xe_var ?_); refine ⟨_, rfl, ?_⟩) | with_reducible refine de_op ?_ | with_reducible refine de_un ?_ | with_reducible refine de_call ?_ | with_reducible refine de_cb ?_ | with_reducible refine de_sl ?_ | with_reducible refine do_none ?_ | with_reducible refine do_some ?_ | with_reducible refine de_if ?_ | with_reducible refine de_andV ?_ | with_reducible refine de_orV ?_ | with_reducible refine de_notV ?_ | with_reducible refine de_chain ?_ | with_reducible refine dt_test ?_ | with_reducible refine dt_B ?_ | with_reducible refine dt_and ?_ | with_reducible refine dt_or ?_ | with_reducible refine dt_not ?_ | (with_reducible refine xe_tup ?_) | (with_reducible refine xe_lst ?_) | (with_reducible refine xe_lstM ?_) | (with_reducible refine de_meth ?_) | with_reducible refine xs_dput ?_ | with_reducible refine xs_daug ?_ | with_reducible refine de_dget ?_ | with_reducible refine de_dgt1 ?_ | with_reducible refine de_dgt2 ?_ | with_reducible refine de_din ?_ | with_reducible refine de_dnotin ?_ | with_reducible refine de_dnewK ?_ | with_reducible refine de_dnewT ?_ | with_reducible refine de_revL ?_ | (with_reducible refine de_bm ?_) | (with_reducible refine de_bm0 ?_) | (with_reducible refine ⟨isTy_str, ?_⟩) | (with_reducible refine ⟨xty_lst ⟨_, rfl⟩, ?_⟩) | (with_reducible refine ⟨xty_lst ⟨_, vw_loc at_0⟩, ?_⟩) | (with_reducible refine rm_append at_0 ?_ ?_) | (with_reducible refine rm_pop at_0 ?_) | (with_reducible refine rc_len (.inl (vw_loc at_0)) ?_) | (with_reducible refine ⟨xty_lst ⟨_, vw_loc at_1⟩, ?_⟩) | (with_reducible refine rm_append at_1 ?_ ?_) | (with_reducible refine rm_pop at_1 ?_) | (with_reducible refine rc_len (.inl (vw_loc at_1)) ?_) | (with_reducible refine ⟨xty_lst ⟨_, vw_loc at_2⟩, ?_⟩) | (with_reducible refine rm_append at_2 ?_ ?_) | (with_reducible refine rm_pop at_2 ?_) | (with_reducible refine rc_len (.inl (vw_loc at_2)) ?_) | with_reducible refine radd_int ?_ | with_reducible refine radd_S ?_ ?_ | with_reducible refine rsub_int ?_ | with_reducible refine req_int ?_ | with_reducible refine rne_int ?_ | with_reducible refine req_S ?_ | with_reducible refine rne_S ?_ | with_reducible refine rlt_int ?_ | with_reducible refine rle_int ?_ | with_reducible refine rgt_int ?_ | with_reducible refine rge_int ?_ | with_reducible refine rneg_int ?_ | with_reducible refine rin_sgn ?_ | with_reducible refine rni_sgn ?_ | with_reducible refine rc_len_S ?_ ?_ | with_reducible refine rc_int_bl ?_ | with_reducible refine rc_str_int ?_ ?_ | with_reducible refine rc_str_str ?_ | with_reducible refine rc_max2 ?_ | with_reducible refine rc_abs ?_ | with_reducible refine req_bl ?_ | with_reducible refine rne_bl ?_ | with_reducible refine rltg_i ?_ | with_reducible refine rleg_i ?_ | with_reducible refine rgtg_i ?_ | with_reducible refine rgeg_i ?_ | with_reducible refine rltg_b ?_ | with_reducible refine rleg_b ?_ | with_reducible refine rgtg_b ?_ | with_reducible refine rgeg_b ?_ | with_reducible refine rist ?_ | with_reducible refine rntt ?_ | with_reducible refine dt_truth ?_ | ((with_reducible refine xc_isi ?_); refine ⟨_, true, rfl, rfl, ?_⟩) | ((with_reducible refine xc_isi ?_); refine ⟨_, false, rfl, rfl, ?_⟩) | with_reducible refine di_str ?_ | with_reducible refine di_list ?_ | with_reducible refine di_tup ?_ | with_reducible refine di_rng1 ?_ | with_reducible refine di_rng2 ?_ | with_reducible refine ift ?_ | with_reducible refine iff_ ?_ | with_reducible refine ifnt ?_ | with_reducible refine ifnf ?_ | with_reducible refine rin_strs sq_c ?_ | with_reducible refine rni_strs sq_c ?_ | with_reducible refine rin_strs sq_t ?_ | with_reducible refine rni_strs sq_t ?_ | with_reducible refine rin_strs sq_l ?_ | with_reducible refine rni_strs sq_l ?_ | with_reducible refine rin_strs (sq_v rfl) ?_ | with_reducible refine rni_strs (sq_v rfl) ?_ | ((with_reducible refine rin_seq sq_c ?_ ?_ ?_); rfl; rfl) | ((with_reducible refine rin_seq sq_t ?_ ?_ ?_); rfl; rfl) | ((with_reducible refine rin_seq sq_l ?_ ?_ ?_); rfl; rfl) | ((with_reducible refine rin_seq (sq_v rfl) ?_ ?_ ?_); rfl; rfl) | ((with_reducible refine rni_seq sq_c ?_ ?_ ?_); rfl; rfl) | ((with_reducible refine rni_seq sq_t ?_ ?_ ?_); rfl; rfl) | ((with_reducible refine rni_seq sq_l ?_ ?_ ?_); rfl; rfl) | ((with_reducible refine rni_seq (sq_v rfl) ?_ ?_ ?_); rfl; rfl) | (with_reducible refine xix_tup ?_) | ((with_reducible refine xc_len ?_); refine ⟨_, sq_c, ?_⟩) | ((with_reducible refine xc_len ?_); refine ⟨_, sq_t, ?_⟩) | ((with_reducible refine xc_len ?_); refine ⟨_, sq_l, ?_⟩) | ((with_reducible refine xc_len ?_); refine ⟨_, (sq_v rfl), ?_⟩) | (with_reducible refine rm_count ?_) | (with_reducible refine ⟨_, rfl, ?_⟩) | (with_reducible refine ⟨_, at_h0, ?_⟩) | (with_reducible refine ⟨_, at_h1, ?_⟩) | (with_reducible refine ⟨_, at_h2, ?_⟩) | (with_reducible refine ⟨_, at_h3, ?_⟩) | (with_reducible refine ⟨_, .inl rfl, ?_⟩) | (with_reducible refine ⟨_, .inr rfl, ?_⟩) | (with_reducible refine ⟨_, _, rfl, ?_⟩) | ((with_reducible refine xix_lst ?_); refine ⟨_, rfl, _, rfl, ?_⟩) | ((with_reducible refine xadd_lst ?_); refine ⟨_, rfl, _, rfl, ?_, ?_⟩) | with_reducible refine rmul_int ?_ ?_ | with_reducible refine rmod_int ?_ ?_ | with_reducible refine rfdiv_int ?_ ?_ | with_reducible refine rpow_int ?_ ?_ | with_reducible refine xg_setL ?_ | refine ⟨_, _, _, _, rfl, rfl, rfl, rfl, ?_⟩ | with_reducible refine xg_name ?_ | with_reducible refine xg_tup rfl ?_ | with_reducible refine xgs_name ?_ | with_reducible refine xgs_nil ?_ | (with_reducible refine ⟨Nat.le_of_ble_eq_true rfl, ?_⟩) | (with_reducible refine ifdT (by decide) ?_) | (with_reducible refine ifdF (by decide) ?_) | (with_reducible refine ifnT (by decide) ?_) | (with_reducible refine ifnF (by decide) ?_) | (with_reducible refine ifbT (by decide) ?_) | (with_reducible refine ifbF (by decide) ?_) | fail))
section
variable {P : Program} {mg : Str → Option Value}
theorem lsL_map : ∀ ds : List D, lsL ds = ds.map D.ls
  | [] => by unfold lsL; rfl
  | d :: ds => by
    unfold lsL
    rw [lsL_map ds]; rfl
theorem dl_L_lists_of {K : Frag} (T : Tx K mg) (s : SpD) (n : Nat) (hrec : ∀ n', n = n' + 1 → ∀ ds γ q e, spLs K n' ds γ q e → s ds γ q e) : DL_L_lists_of K s (spLs K n) := by
  rintro ds γ q e E0 lo1 lo2 ⟨d, rfl, ha, hq⟩
  refine dS_env (ρ' := [some d, none]) rfl ?_
  have seq : ∀ xs : List D, oksL n xs = true → xs.length ≤ 10000 → d.ls = .lst (xs.map D.ls) → (d = .lst xs ∨ d = .tup xs) → dE ⟨K, wOf E0, fun _ => DrX γ.length e⟩ (tLc (iAny K (tVar 0)) (gName 1) tYes (tCallW (toSp K s) (WE W0) (tCons (tVar 1) tNil)) [1]) [some d, none] γ (Dr γ.length q) := by
    intro xs hxs hl hz hx
    refine xe_lcN xs id D.ls (by simp) ?_
    refine di_any rfl (hx.elim .inl fun h => .inr (.inl h)) ?_
    refine ⟨by simp, by omega, fun x hm => ?_, ?_⟩
    · walk_at "GO"
      cases n with
      | zero =>
        cases xs with
        | nil => cases hm
        | cons a r => unfold oksL at hxs; cases hxs
      | succ n => exact hrec n rfl _ _ _ _ ⟨x, rfl, oksL_mem hxs x hm, rfl, rfl⟩
    · rw [← hz]
      exact .inl hq
  unfold t_L_lists_of
  rcases oks_cases ha with rfl | ⟨b', rfl⟩ | ⟨i', rfl, _⟩ | ⟨l', rfl, _⟩ | ⟨xs, rfl, hxl, hxs⟩ | ⟨xs, rfl, hxl, hxs⟩
  all_goals
    walk_at "GO"
  all_goals first | refine xc_isiT (ns := ["list", "tuple"]) ⟨_, true, rfl, rfl, ?_⟩ | refine xc_isiT (ns := ["list", "tuple"]) ⟨_, false, rfl, rfl, ?_⟩
  all_goals
    walk_at "GO"
  all_goals try exact .inl hq
  · exact seq xs hxs hxl (by unfold D.ls; rw [lsL_map]) (.inr rfl)
  · exact seq xs hxs hxl (by unfold D.ls; rw [lsL_map]) (.inl rfl)
end
end K31

set_option Elab.async false
set_option linter.all false
set_option maxRecDepth 100000
set_option maxHeartbeats 4000000
namespace K31
open PySem PySem.Spec PyProof.Rows L2 DL
local macro_rules | `(tactic| walk_at "GO") => `(tactic| repeat' (first | with_reducible refine xs_seq ?_ | with_reducible refine xs_set ?_ | with_reducible refine xs_asg ?_ | with_reducible refine xs_if ?_ | with_reducible refine xs_ret ?_ | with_reducible refine xs_next ?_ | with_reducible refine xs_expr ?_ | with_reducible refine xs_fld ?_ | with_reducible refine xs_par ?_ | with_reducible refine xs_retN ?_ | with_reducible refine xs_brk ?_ | with_reducible refine xp_nil ?_ | with_reducible refine xp_cons ?_ | with_reducible refine xe_disp ?_ | with_reducible refine xe_dispM ?_ | with_reducible refine xs_cont ?_ | with_reducible refine da_nil ?_ | with_reducible refine da_cons ?_ | with_reducible refine de_int ?_ | with_reducible refine de_str ?_ | with_reducible refine de_bl ?_ | with_reducible refine de_non ?_ | with_reducible refine de_ty ?_ | ((with_reducible refine xe_var ?_); refine ⟨_, rfl, ?_⟩) | with_reducible refine de_op ?_ | with_reducible refine de_un ?_ | with_reducible refine de_call ?_ | with_reducible refine de_cb ?_ | with_reducible refine de_sl ?_ | with_reducible refine do_none ?_ | with_reducible refine do_some ?_ | with_reducible refine de_if ?_ | with_reducible refine de_andV ?_ | with_reducible refine de_orV ?_ | with_reducible refine de_notV ?_ | with_reducible refine de_chain ?_ | with_reducible refine dt_test ?_ | with_reducible refine dt_B ?_ | with_reducible refine dt_and ?_ | with_reducible refine dt_or ?_ | with_reducible refine dt_not ?_ | (with_reducible refine xe_tup ?_) | (with_reducible refine xe_lst ?_) | (with_reducible refine xe_lstM ?_) | (with_reducible refine de_meth ?_) | with_reducible refine xs_dput ?_ | with_reducible refine xs_daug ?_ | with_reducible refine de_dget ?_ | with_reducible refine de_dgt1 ?_ | with_reducible refine de_dgt2 ?_ | with_reducible refine de_din ?_ | with_reducible refine de_dnotin ?_ | with_reducible refine de_dnewK ?_ | with_reducible refine de_dnewT ?_ | with_reducible refine de_revL ?_ | (with_reducible refine de_bm ?_) | (with_reducible refine de_bm0 ?_) | (with_reducible refine ⟨isTy_str, ?_⟩) | (with_reducible refine ⟨xty_lst ⟨_, rfl⟩, ?_⟩) | (with_reducible refine ⟨xty_lst ⟨_, vw_loc at_0⟩, ?_⟩) | (with_reducible refine rm_append at_0 ?_ ?_) | (with_reducible refine rm_pop at_0 ?_) | (with_reducible refine rc_len (.inl (vw_loc at_0)) ?_) | (with_reducible refine ⟨xty_lst ⟨_, vw_loc at_1⟩, ?_⟩) | (with_reducible refine rm_append at_1 ?_ ?_) | (with_reducible refine rm_pop at_1 ?_) | (with_reducible refine rc_len (.inl (vw_loc at_1)) ?_) | (with_reducible refine ⟨xty_lst ⟨_, vw_loc at_2⟩, ?_⟩) | (with_reducible refine rm_append at_2 ?_ ?_) | (with_reducible refine rm_pop at_2 ?_) | (with_reducible refine rc_len (.inl (vw_loc at_2)) ?_) | with_reducible refine radd_int ?_ | with_reducible refine radd_S ?_ ?_ | with_reducible refine rsub_int ?_ | with_reducible refine req_int ?_ | with_reducible refine rne_int ?_ | with_reducible refine req_S ?_ | with_reducible refine rne_S ?_ | with_reducible refine rlt_int ?_ | with_reducible refine rle_int ?_ | with_reducible refine rgt_int ?_ | with_reducible refine rge_int ?_ | with_reducible refine rneg_int ?_ | with_reducible refine rin_sgn ?_ | with_reducible refine rni_sgn ?_ | with_reducible refine rc_len_S ?_ ?_ | with_reducible refine rc_int_bl ?_ | with_reducible refine rc_str_int ?_ ?_ | with_reducible refine rc_str_str ?_ | with_reducible refine rc_max2 ?_ | with_reducible refine rc_abs ?_ | with_reducible refine req_bl ?_ | with_reducible refine rne_bl ?_ | with_reducible refine rltg_i ?_ | with_reducible refine rleg_i ?_ | with_reducible refine rgtg_i ?_ | with_reducible refine rgeg_i ?_ | with_reducible refine rltg_b ?_ | with_reducible refine rleg_b ?_ | with_reducible refine rgtg_b ?_ | with_reducible refine rgeg_b ?_ | with_reducible refine rist ?_ | with_reducible refine rntt ?_ | with_reducible refine dt_truth ?_ | ((with_reducible refine xc_isi ?_); refine ⟨_, true, rfl, rfl, ?_⟩) | ((with_reducible refine xc_isi ?_); refine ⟨_, false, rfl, rfl, ?_⟩) | with_reducible refine di_str ?_ | with_reducible refine di_list ?_ | with_reducible refine di_tup ?_ | with_reducible refine di_rng1 ?_ | with_reducible refine di_rng2 ?_ | with_reducible refine ift ?_ | with_reducible refine iff_ ?_ | with_reducible refine ifnt ?_ | with_reducible refine ifnf ?_ | with_reducible refine rin_strs sq_c ?_ | with_reducible refine rni_strs sq_c ?_ | with_reducible refine rin_strs sq_t ?_ | with_reducible refine rni_strs sq_t ?_ | with_reducible refine rin_strs sq_l ?_ | with_reducible refine rni_strs sq_l ?_ | with_reducible refine rin_strs (sq_v rfl) ?_ | with_reducible refine rni_strs (sq_v rfl) ?_ | ((with_reducible refine rin_seq sq_c ?_ ?_ ?_); rfl; rfl) | ((with_reducible refine rin_seq sq_t ?_ ?_ ?_); rfl; rfl) | ((with_reducible refine rin_seq sq_l ?_ ?_ ?_); rfl; rfl) | ((with_reducible refine rin_seq (sq_v rfl) ?_ ?_ ?_); rfl; rfl) | ((with_reducible refine rni_seq sq_c ?_ ?_ ?_); rfl; rfl) | ((with_reducible refine rni_seq sq_t ?_ ?_ ?_); rfl; rfl) | ((with_reducible refine rni_seq sq_l ?_ ?_ ?_); rfl; rfl) | ((with_reducible refine rni_seq (sq_v rfl) ?_ ?_ ?_); rfl; rfl) | (with_reducible refine xix_tup ?_) | ((with_reducible refine xc_len ?_); refine ⟨_, sq_c, ?_⟩) | ((with_reducible refine xc_len ?_); refine ⟨_, sq_t, ?_⟩) | ((with_reducible refine xc_len ?_); refine ⟨_, sq_l, ?_⟩) | ((with_reducible refine xc_len ?_); refine ⟨_, (sq_v rfl), ?_⟩) | (with_reducible refine rm_count ?_) | (with_reducible refine ⟨_, rfl, ?_⟩) | (with_reducible refine ⟨_, at_h0, ?_⟩) | (with_reducible refine ⟨_, at_h1, ?_⟩) | (with_reducible refine ⟨_, at_h2, ?_⟩) | (with_reducible refine ⟨_, at_h3, ?_⟩) | (with_reducible refine ⟨_, .inl rfl, ?_⟩) | (with_reducible refine ⟨_, .inr rfl, ?_⟩) | (with_reducible refine ⟨_, _, rfl, ?_⟩) | ((with_reducible refine xix_lst ?_); refine ⟨_, rfl, _, rfl, ?_⟩) | ((with_reducible refine xadd_lst ?_); refine ⟨_, rfl, _, rfl, ?_, ?_⟩) | with_reducible refine rmul_int ?_ ?_ | with_reducible refine rmod_int ?_ ?_ | with_reducible refine rfdiv_int ?_ ?_ | with_reducible refine rpow_int ?_ ?_ | with_reducible refine xg_setL ?_ | refine ⟨_, _, _, _, rfl, rfl, rfl, rfl, ?_⟩ | with_reducible refine xg_name ?_ | with_reducible refine xg_tup rfl ?_ | with_reducible refine xgs_name ?_ | with_reducible refine xgs_nil ?_ | (with_reducible refine ⟨Nat.le_of_ble_eq_true rfl, ?_⟩) | (with_reducible refine ifdT (by decide) ?_) | (with_reducible refine ifdF (by decide) ?_) | (with_reducible refine ifnT (by decide) ?_) | (with_reducible refine ifnF (by decide) ?_) | (with_reducible refine ifbT (by decide) ?_) | (with_reducible refine ifbF (by decide) ?_) | fail))
section
variable {P : Program} {mg : Str → Option Value}
theorem judge_lo {m : Nat} {F : List D} {b : Bad} (h : judge F = .error b) : b.name.lo m = true := by
  unfold judge at h
  split at h
  · cases h; rfl
  · split at h
    · cases h; rfl
    · split at h
      · cases h; rfl
      · split at h
        · cases h; rfl
        · cases h
theorem dl_L_bad_record {K : Frag} (T : Tx K mg) (X : Te P K mg) : DL_L_bad_record K (sp_L_bad_record K) := by
  rintro ds γ q e E0 lo1 lo2 ⟨x, rs, rfl, hx, hok, hq⟩
  refine dS_env (ρ' := [some x, none, none]) rfl ?_
  unfold t_L_bad_record
  walk_at "GO"
  refine ds_tryAs (fun ρ' C ns ds γ' => ρ' = [some x, some .non, none] ∧ (∃ m, γ' = γ ++ [m]) ∧ C = He.ga K "BadRecord" ∧ ns = (["number", "name", "reason"] : List Str) ∧ ∃ b, judge (fzL rs) = .error b ∧ ds = [.int (b.number : Nat), b.name, .str (S b.reason)]) (fun W' => ?_) ?_
  · walk_at "GO"
    refine de_make ?_
    walk_at "GO"
    refine ⟨γ.length, x, rs, rfl, hx, hok, by simp, fun R l hj => ⟨rfl, ?_⟩, fun b hj m => ?_⟩
    · walk_at "GO"
      rw [hj] at hq
      rw [show (γ ++ [MO.ins (He.ga K "Record") [] []]).set γ.length (recMO K R l) = γ ++ [recMO K R l] by simp]
      exact dr_keep lo1 rfl hq
    · exact ⟨rfl, ⟨m, by simp⟩, rfl, rfl, b, hj, rfl⟩
  · rintro ρ' C ns ds γ' ⟨rfl, ⟨m, rfl⟩, rfl, rfl, b, hj, rfl⟩
    refine .inl ⟨T.m_BadRecord_BadRecord, fun a dd => ?_⟩
    walk_at "GO"
    refine de_xf ?_
    walk_at "GO"
    refine ⟨_, _, 2, _, rfl, X.x_BadRecord.xok.xf, X.x_BadRecord.xok.no _ (by decide), rfl, rfl, ?_⟩
    walk_at "GO"
    refine de_xf ?_
    walk_at "GO"
    refine ⟨_, _, 1, _, rfl, X.x_BadRecord.xok.xf, X.x_BadRecord.xok.no _ (by decide), rfl, rfl, ?_⟩
    walk_at "GO"
    refine de_xf ?_
    walk_at "GO"
    refine ⟨_, _, 0, _, rfl, X.x_BadRecord.xok.xf, X.x_BadRecord.xok.no _ (by decide), rfl, rfl, ?_⟩
    walk_at "GO"
    refine de_ref ?_
    walk_at "GO"
    refine rc_isg (b := true) ?_ ?_ ?_
    · exact X.i_BadRecord
    · exact X.k_BadRecord_RerunError
    walk_at "GO"
    refine rc_isgT (b := true) ?_ ?_ ?_
    · exact X.i_BadRecord
    · exact X.k_BadRecord_ValueError
    walk_at "GO"
    refine de_ref ?_
    walk_at "GO"
    refine rc_isg (b := false) ?_ ?_ ?_
    · exact X.i_BadRecord
    · exact X.k_BadRecord_BadEvent
    walk_at "GO"
    rw [hj] at hq
    refine dr_keep lo1 ?_ hq
    show (true && (b.name.lo γ.length && true)) = true
    rw [judge_lo hj]; rfl
end
end K31

set_option Elab.async false
set_option linter.all false
set_option maxRecDepth 100000
set_option maxHeartbeats 4000000
namespace K31
open PySem PySem.Spec PyProof.Rows L2 DL
section
variable {P : Program} {mg : Str → Option Value}
theorem rowOk_fz2 {a b : D} {xs : List D} (h : b.fz = .tup xs) {l : List Nat} (hl : isName l = true) : rowOk (.tup [D.str (S l), b.fz]) = some (l, xs) := by
  rw [h]
  unfold rowOk
  simp only [S_l, hl, if_true]
theorem rowOk_b {a b : D} (h : ∀ xs, b ≠ .tup xs) : rowOk (.tup [a, b]) = none := by
  unfold rowOk
  split
  · rename_i x evs hx
    cases hx
    exact absurd rfl (h _)
  · rfl
theorem rowOk_t {d : D} (h : ∀ xs, d ≠ .tup xs) : rowOk d = none := by
  unfold rowOk
  split
  · exact absurd rfl (h _)
  · rfl
section
variable {K : KX} {γ : Ga} {Q : QD}
theorem isi_yes {x : D} {xs : List D} (h : x = .tup xs ∨ x = .lst xs) (q : Q (.bl true) γ) : dRC K (rIsiT K.f) [x, .tup [.ty "list", .ty "tuple"]] γ Q := by
  rcases h with rfl | rfl
  · exact xc_isiT (ns := ["list", "tuple"]) ⟨_, true, rfl, rfl, q⟩
  · exact xc_isiT (ns := ["list", "tuple"]) ⟨_, true, rfl, rfl, q⟩
theorem isi_no {x : D} {n : Nat} (h : x.oks n = true) (h1 : ∀ xs, x ≠ .tup xs) (h2 : ∀ xs, x ≠ .lst xs) (q : Q (.bl false) γ) : dRC K (rIsiT K.f) [x, .tup [.ty "list", .ty "tuple"]] γ Q := by
  rcases oks_cases h with rfl | ⟨b', rfl⟩ | ⟨i', rfl, _⟩ | ⟨l', rfl, _⟩ | ⟨xs, rfl, _⟩ | ⟨xs, rfl, _⟩
  · exact xc_isiT (ns := ["list", "tuple"]) ⟨_, false, rfl, rfl, q⟩
  · exact xc_isiT (ns := ["list", "tuple"]) ⟨_, false, rfl, rfl, q⟩
  · exact xc_isiT (ns := ["list", "tuple"]) ⟨_, false, rfl, rfl, q⟩
  · exact xc_isiT (ns := ["list", "tuple"]) ⟨_, false, rfl, rfl, q⟩
  · exact absurd rfl (h1 _)
  · exact absurd rfl (h2 _)
theorem rix_seq {x : D} {xs : List D} {z : Int} {d : D} (h : x = .tup xs ∨ x = .lst xs) (ha : atI xs z = some d) (q : Q d γ) : dR2 K (rIx K.f) x (.int z) γ Q := by
  rcases h with rfl | rfl
  · exact xix_tup ⟨_, ha, q⟩
  · exact xix_lst ⟨_, rfl, _, ha, q⟩
theorem sq_seq {x : D} {xs : List D} (h : x = .tup xs ∨ x = .lst xs) : SqD γ x xs := by
  rcases h with rfl | rfl
  · exact .inr (.inl rfl)
  · exact .inl rfl
theorem all_pl {n : Nat} : ∀ {xs : List D}, (∀ d ∈ xs, d.oks n = true) → plL xs = true ∧ PyData.canLayAll0 (pyL xs) = true
  | [], _ => ⟨rfl, rfl⟩
  | d :: ds, h => by
    obtain ⟨a1, a2⟩ := oks_pl d (h d List.mem_cons_self)
    obtain ⟨b1, b2⟩ := all_pl fun x hx => h x (List.mem_cons_of_mem _ hx)
    refine ⟨?_, ?_⟩
    · show (d.pl && plL ds) = true
      rw [a1, b1]; rfl
    · show (d.py.canLay0 && PyData.canLayAll0 (pyL ds)) = true
      rw [a2, b2]; rfl
theorem req_nilL {x y : D} {xs : List D} {n : Nat} (hx : vw γ x = .lst xs) (hy : vw γ y = .lst []) (h : ∀ d ∈ xs, d.oks n = true) (q : Q (.bl (decide (xs = []))) γ) : dR2 K (rEqG K.f) x y γ Q := by
  obtain ⟨h1, h2⟩ := all_pl h
  refine req_M (by rw [hx]; exact h1) (by rw [hy]; rfl) (by rw [hx]; exact h2) (by rw [hy]; rfl) (.inr (by rw [hy]; exact (show (PyData.list []).depth ≤ 64 by decide))) ?_
  rw [hx, hy]
  cases xs with
  | nil => exact q
  | cons c cs => exact q
theorem seq_or {n : Nat} {d : D} (h : d.oks n = true) : (∃ xs, (d = .tup xs ∨ d = .lst xs) ∧ xs.length ≤ 10000 ∧ oksL n xs = true ∧ d.fz = .tup (xs.map D.fz)) ∨ ((∀ xs, d ≠ .tup xs) ∧ (∀ xs, d ≠ .lst xs) ∧ ∀ xs, d.fz ≠ .tup xs) := by
  rcases oks_cases h with rfl | ⟨b', rfl⟩ | ⟨i', rfl, _⟩ | ⟨l', rfl, _⟩ | ⟨xs, rfl, h1, h2⟩ | ⟨xs, rfl, h1, h2⟩
  case inr.inr.inr.inr.inl => exact .inl ⟨xs, .inl rfl, h1, h2, by unfold D.fz; rw [fzL_map]⟩
  case inr.inr.inr.inr.inr => exact .inl ⟨xs, .inr rfl, h1, h2, by unfold D.fz; rw [fzL_map]⟩
  all_goals exact .inr ⟨fun _ z => (by cases z), fun _ z => (by cases z), fun _ z => (by cases z)⟩
theorem name_fz {n : Nat} {d : D} (h : d.oks n = true) : isNameD d.fz = isNameD d := by
  rcases oks_cases h with rfl | ⟨b', rfl⟩ | ⟨i', rfl, _⟩ | ⟨l', rfl, _⟩ | ⟨xs, rfl, h1, h2⟩ | ⟨xs, rfl, h1, h2⟩ <;> rfl
end
end
end K31

set_option Elab.async false
set_option linter.all false
set_option maxRecDepth 100000
set_option maxHeartbeats 4000000
namespace K31
open PySem PySem.Spec PyProof.Rows L2 DL
section
variable {P : Program} {mg : Str → Option Value}
theorem ok1 {n : Nat} {a : D} (ha : a.oks n = true) : (D.tup [a]).oks (n + 1) = true := by
  unfold D.oks oksL
  simp [ha]
  rfl
theorem ok2 {n : Nat} {a b : D} (ha : a.oks n = true) (hb : b.oks n = true) : (D.tup [a, b]).oks (n + 1) = true := by
  unfold D.oks oksL oksL
  simp [ha, hb]
  rfl
theorem ok3 {n : Nat} {a b c : D} (ha : a.oks n = true) (hb : b.oks n = true) (hc : c.oks n = true) : (D.tup [a, b, c]).oks (n + 1) = true := by
  unfold D.oks oksL oksL oksL
  simp [ha, hb, hc]
  rfl
theorem listed {xs : List D} {k : Nat} {m : Nat} (h : xs.all (fun d => d.oks m) = true) (hk : k < xs.length) : ∃ d, atI xs ((k : Nat) : Int) = some d ∧ d.oks m = true :=
  ⟨xs[k], at_nat (List.getElem?_eq_getElem hk), List.all_eq_true.mp h _ (List.getElem_mem hk)⟩
end
end K31

set_option Elab.async false
set_option linter.all false
set_option maxRecDepth 100000
set_option maxHeartbeats 4000000
namespace K31
open PySem PySem.Spec PyProof.Rows L2 DL
section
variable {P : Program} {mg : Str → Option Value}
theorem cut_take {xs : List D} {k : Nat} : DL.cutD xs none (some ((k : Nat) : Int)) = xs.take k := by
  unfold DL.cutD
  rw [HT.sIx_none, HT.sIx_nat]
  simp
theorem cut_drop {xs : List D} {k : Nat} : DL.cutD xs (some ((k : Nat) : Int)) none = xs.drop k := by
  unfold DL.cutD
  rw [HT.sIx_none, HT.sIx_nat]
  by_cases h : k ≤ xs.length
  · rw [Nat.min_eq_left h, List.take_of_length_le (by rw [List.length_drop]; exact Nat.le_refl _)]
  · rw [Nat.min_eq_right (by omega), List.drop_eq_nil_of_le (show xs.length ≤ k by omega), List.drop_length, List.take_nil]
theorem rc_min2 {K : KX} {γ : Ga} {Q : QD} {i j : Int} (q : Q (.int (if j < i then j else i)) γ) : dRC K rMin2 [.int i, .int j] γ Q := fun H α vs w g r wv => by
  cases r with
  | cons r1 r2 =>
    cases r2 with
    | cons r2 r3 =>
      cases r1; cases r2; cases r3
      exact ⟨i, j, rfl, wv _ H α _ γ q g.refl g (.int _)⟩
mutual
theorem ls_fz : ∀ d : D, d.ls.fz = d.fz
  | .non => rfl
  | .bl _ => rfl
  | .int _ => rfl
  | .str _ => rfl
  | .tup ds => by
    unfold D.ls D.fz
    rw [lsL_fz ds]
  | .lst ds => by
    unfold D.ls D.fz
    rw [lsL_fz ds]
  | .ty _ => rfl
  | .ref _ => rfl
  | .loc _ => rfl
  | .ins _ _ _ => rfl
  | .dic _ _ => rfl
  | .dit _ _ => rfl
  | .exc _ _ _ _ _ => rfl
  | .cst _ => rfl
  | .exv _ _ _ => rfl
theorem lsL_fz : ∀ ds : List D, fzL (lsL ds) = fzL ds
  | [] => by unfold lsL; rfl
  | d :: ds => by
    unfold lsL fzL
    rw [ls_fz d, lsL_fz ds]
end
mutual
theorem oks_ls {n : Nat} : ∀ d : D, d.oks n = true → d.ls.oks n = true
  | .non, _ => rfl
  | .bl _, _ => rfl
  | .int _, q => q
  | .str _, q => q
  | .tup ds, q => by
    unfold D.ls
    unfold D.oks at q ⊢
    rw [Bool.and_eq_true] at q ⊢
    exact ⟨by rw [lsL_map, List.length_map]; exact q.1, oksL_ls ds q.2⟩
  | .lst ds, q => by
    unfold D.ls
    unfold D.oks at q ⊢
    rw [Bool.and_eq_true] at q ⊢
    exact ⟨by rw [lsL_map, List.length_map]; exact q.1, oksL_ls ds q.2⟩
  | .ty _, q => by cases q
  | .ref _, q => by cases q
  | .loc _, q => by cases q
  | .ins _ _ _, q => by cases q
  | .dic _ _, q => by cases q
  | .dit _ _, q => by cases q
  | .exc _ _ _ _ _, q => by cases q
  | .cst _, q => by cases q
  | .exv _ _ _, q => by cases q
theorem oksL_ls {n : Nat} : ∀ ds : List D, oksL n ds = true → oksL n (lsL ds) = true
  | [], _ => by unfold lsL oksL; rfl
  | d :: ds, q => by
    cases n with
    | zero => unfold oksL at q; cases q
    | succ n =>
      unfold lsL
      unfold oksL at q ⊢
      rw [Bool.and_eq_true] at q ⊢
      exact ⟨oks_ls d q.1, oksL_ls ds q.2⟩
end
theorem oksL_of {n : Nat} : ∀ {ds : List D}, (∀ d ∈ ds, d.oks n = true) → oksL (n + 1) ds = true
  | [], _ => by unfold oksL; rfl
  | d :: ds, h => by
    unfold oksL
    rw [h d List.mem_cons_self, oksL_of fun x hx => h x (List.mem_cons_of_mem _ hx)]; rfl
theorem drw_small {ns : List (List Nat)} (hns : ∀ l ∈ ns, isName l = true) {k : Nat} {R : List Row} {qs : Qs} (h : Drw ns k R qs) : ∀ r ∈ R, r.1 ∈ ns ∧ ∀ ev ∈ r.2, ev.d.oks 1 = true := by
  have hs : ∀ l, isName l = true → (D.str (S l)).oks 0 = true := fun l hl => by
    obtain ⟨_, h2, h3⟩ := name_ok hl
    unfold D.oks
    rw [h3, S_len, decide_eq_true (by omega)]; rfl
  have hi : ∀ x, smallI x = true → (D.int x).oks 0 = true := fun x hx => by
    unfold D.oks
    have : BIG.natAbs ≤ 2 ^ 200 := by decide
    exact decide_eq_true (Nat.lt_of_lt_of_le (of_decide_eq_true hx) this)
  have hv : ∀ v, isXY v → (D.str (S v)).oks 0 = true := fun v hv => by
    rcases hv with rfl | rfl <;> decide +kernel
  induction h with
  | nil =>
    intro r hr
    obtain ⟨x, hx, rfl⟩ := List.mem_map.mp hr
    exact ⟨hx, fun ev hev => by cases hev⟩
  | @step n R qs i r ev qs' h hr hev ih =>
    intro x hx
    rcases List.mem_or_eq_of_mem_set hx with hx | rfl
    · exact ih x hx
    · obtain ⟨h1, h2⟩ := ih r (List.mem_of_getElem? hr)
      refine ⟨h1, fun e he => ?_⟩
      rcases List.mem_append.mp he with he | he
      · exact h2 e he
      cases List.mem_singleton.mp he
      cases hev with
      | snd q x m1 m2 m3 => exact ok3 (n := 0) (by decide +kernel) (hs _ (hns _ m1)) (hi _ m3)
      | rcv tk p v x r m1 m2 m3 m4 m5 =>
        have e4 : ∀ a b c d : D, a.oks 0 = true → b.oks 0 = true → c.oks 0 = true → d.oks 0 = true → (D.tup [a, b, c, d]).oks 1 = true := fun a b c d h1 h2 h3 h4 => by
          unfold D.oks oksL oksL oksL oksL
          simp [h1, h2, h3, h4]
          rfl
        exact e4 _ _ _ _ (by cases tk <;> decide +kernel) (hs _ (hns _ m1)) (hv _ m3) (hi _ m5)
      | set ip v x m1 m2 => exact ok3 (n := 0) (by cases ip <;> decide +kernel) (hv _ m1) (hi _ m2)
      | chk => decide +kernel
theorem drw_oks {ns : List (List Nat)} (hns : ∀ l ∈ ns, isName l = true) {k : Nat} {R : List Row} {qs : Qs} (h : Drw ns k R qs) (hk : k ≤ 10000) : ∀ r ∈ R, (rowD r).oks 3 = true := fun r hr => by
  obtain ⟨h1, h2⟩ := drw_small hns h r hr
  refine ok2 ?_ ?_
  · obtain ⟨_, h2, h3⟩ := name_ok (hns _ h1)
    unfold D.oks
    rw [h3, S_len, decide_eq_true (by omega)]; rfl
  · unfold D.oks
    rw [Bool.and_eq_true, decide_eq_true_eq]
    refine ⟨by rw [List.length_map]; have := drw_len h r hr; omega, oksL_of fun d hd => ?_⟩
    obtain ⟨ev, hev, rfl⟩ := List.mem_map.mp hd
    exact h2 ev hev
end
end K31

set_option Elab.async false
set_option linter.all false
set_option maxRecDepth 100000
set_option maxHeartbeats 4000000
namespace K31
open PySem PySem.Spec PyProof.Rows L2 DL
section
/-! ### tables -/
def asAt {κ β : Type} [DecidableEq κ] (m : List (κ × β)) (k : κ) (d : β) : β := ((m.find? fun p => decide (p.1 = k)).map (·.2)).getD d
def asMod {κ β : Type} [DecidableEq κ] (m : List (κ × β)) (k : κ) (f : β → β) (d : β) : List (κ × β) :=
  if (m.any fun p => decide (p.1 = k)) = true then m.map (fun p => if p.1 = k then (p.1, f p.2) else p) else m ++ [(k, f d)]
theorem as_mod {κ β : Type} [DecidableEq κ] {m : List (κ × β)} {k k' : κ} {f : β → β} {d : β} : asAt (asMod m k f d) k' d = if k' = k then f (asAt m k d) else asAt m k' d := by
  unfold asAt asMod
  split
  · rename_i h
    rw [List.find?_map]
    have e : ((fun p : κ × β => decide (p.1 = k')) ∘ fun p => if p.1 = k then (p.1, f p.2) else p) = fun p => decide (p.1 = k') := by
      funext p
      show decide ((if p.1 = k then (p.1, f p.2) else p).1 = k') = _
      split <;> rfl
    rw [e]
    by_cases hk : k' = k
    · subst hk
      rw [if_pos rfl]
      cases hf : m.find? (fun p => decide (p.1 = k')) with
      | none =>
        rw [List.find?_eq_none] at hf
        obtain ⟨p, hp, hq⟩ := List.any_eq_true.mp h
        exact absurd hq (hf p hp)
      | some p =>
        have hp : p.1 = k' := of_decide_eq_true (List.find?_some (p := fun p : κ × β => decide (p.1 = k')) hf)
        simp [hp]
    · rw [if_neg hk]
      cases hf : m.find? (fun p => decide (p.1 = k')) with
      | none => rfl
      | some p =>
        have hp : p.1 = k' := of_decide_eq_true (List.find?_some (p := fun p : κ × β => decide (p.1 = k')) hf)
        have hn : p.1 ≠ k := fun z => hk (hp.symm.trans z)
        simp [hn]
  · rename_i h
    rw [List.find?_append]
    have hno : ∀ p ∈ m, p.1 ≠ k := fun p hp z => h (List.any_eq_true.mpr ⟨p, hp, decide_eq_true z⟩)
    by_cases hk : k' = k
    · subst hk
      have : m.find? (fun p => decide (p.1 = k')) = none := by
        rw [List.find?_eq_none]
        intro p hp
        simpa using hno p hp
      rw [this, if_pos rfl]
      simp
    · rw [if_neg hk]
      have : [(k, f d)].find? (fun p => decide (p.1 = k')) = none := by
        rw [List.find?_eq_none]
        intro p hp
        cases List.mem_singleton.mp hp
        simpa using fun z => hk z.symm
      rw [this]
      cases m.find? (fun p => decide (p.1 = k')) <;> rfl
theorem qAt_put {qs : Qs} {c c' : List Nat × List Nat} {l : List Int} : qAt (qPut qs c l) c' = if c' = c then l else qAt qs c' := as_mod (m := qs) (k := c) (k' := c') (f := fun _ => l) (d := [])
theorem cnt_up {t : Cnt} {p p' : List Nat} {n : Nat} : cntAt (cntUp t p n) p' = if p' = p then n else cntAt t p' := as_mod (m := t) (k := p) (k' := p') (f := fun _ => n) (d := 0)
theorem chan_add {cs : Chan} {c c' : List Nat × List Nat} {x : Nat × Int} : chanAt (addS cs c x) c' = if c' = c then chanAt cs c ++ [x] else chanAt cs c' := as_mod (m := cs) (k := c) (k' := c') (f := fun l => l ++ [x]) (d := [])
/-! ### the sends, by their values alone -/
def sentEv (nm : List Nat) : List Ev → Qs → Qs
  | [], qs => qs
  | .snd q x :: es, qs => sentEv nm es (qPut qs (nm, q) (qAt qs (nm, q) ++ [x]))
  | _ :: es, qs => sentEv nm es qs
def sentR : List Row → Qs → Qs
  | [], qs => qs
  | r :: rs, qs => sentR rs (sentEv r.1 r.2 qs)
theorem sent_ev {nm : List Nat} : ∀ {es : List Ev} {i : Nat} {qs : Qs} {cs : Chan}, (∀ c, qAt qs c = (chanAt cs c).map (·.2)) → ∀ c, qAt (sentEv nm es qs) c = (chanAt (sndEv nm es i cs) c).map (·.2)
  | [], _, _, _, h, c => h c
  | .snd q x :: es, i, qs, cs, h, c => by
    refine sent_ev (es := es) (i := i + 1) (qs := qPut qs (nm, q) (qAt qs (nm, q) ++ [x])) (cs := addS cs (nm, q) (i, x)) (fun c => ?_) c
    rw [qAt_put, chan_add]
    split
    · rw [h, List.map_append]; rfl
    · exact h c
  | .set _ _ _ :: es, i, qs, cs, h, c => sent_ev (es := es) (i := i + 1) h c
  | .rcv _ _ _ _ :: es, i, qs, cs, h, c => sent_ev (es := es) (i := i + 1) h c
  | .chk :: es, i, qs, cs, h, c => sent_ev (es := es) (i := i + 1) h c
theorem sent_r : ∀ {R : List Row} {qs : Qs} {cs : Chan}, (∀ c, qAt qs c = (chanAt cs c).map (·.2)) → ∀ c, qAt (sentR R qs) c = (chanAt (sndR R cs) c).map (·.2)
  | [], _, _, h, c => h c
  | r :: R, qs, cs, h, c => sent_r (R := R) (sent_ev (i := 1) h) c
theorem sent_of {R : List Row} {c : List Nat × List Nat} : qAt (sentR R []) c = (chanAt (sndsOf R) c).map (·.2) := sent_r (R := R) (qs := []) (cs := []) (fun _ => rfl) c
/-! ### the first receipt without its message -/
def errOf {A : Type} : Except EvN A → Option EvN
  | .ok _ => none
  | .error e => some e
def errEv {A : Type} : Except Nat A → Option Nat
  | .ok _ => none
  | .error e => some e
def isRcv (p : List Nat) : Ev → Bool
  | .rcv _ q _ _ => decide (q = p)
  | _ => false
/-- how many of the events receive from p -/
def rcvs (p : List Nat) (es : List Ev) : Nat := (es.filter (isRcv p)).length
theorem rcvs_add {p : List Nat} {es : List Ev} {ev : Ev} : rcvs p (es ++ [ev]) = rcvs p es + if isRcv p ev = true then 1 else 0 := by
  unfold rcvs
  rw [List.filter_append, List.length_append]
  congr 1
  rw [List.filter_cons]
  split <;> rfl
theorem lnkEv_rcv {cs : Chan} {nm : List Nat} {tk : Bool} {p v : List Nat} {x : Int} {es : List Ev} {i : Nat} {t : Cnt} :
    errEv (lnkEv cs nm (.rcv tk p v x :: es) i t) = if ((chanAt cs (p, nm)).map (·.2))[cntAt t p]? = some x then errEv (lnkEv cs nm es (i + 1) (cntUp t p (cntAt t p + 1))) else some i := by
  conv => lhs; unfold lnkEv
  rw [List.getElem?_map]
  cases h : (chanAt cs (p, nm))[cntAt t p]? with
  | none => simp [errEv]
  | some my =>
    obtain ⟨m, y⟩ := my
    simp only [Option.map_some, Option.some.injEq]
    by_cases e : y = x
    · rw [if_pos e, if_pos e]
      cases lnkEv cs nm es (i + 1) (cntUp t p (cntAt t p + 1)) <;> rfl
    · rw [if_neg e, if_neg e]; rfl
theorem lnkR_cons {cs : Chan} {r : Row} {R : List Row} : errOf (lnkR cs (r :: R)) = match errEv (lnkEv cs r.1 r.2 1 []) with
    | some i => some (r.1, i)
    | none => errOf (lnkR cs R) := by
  conv => lhs; unfold lnkR
  cases lnkEv cs r.1 r.2 1 [] with
  | error i => rfl
  | ok l =>
    show errOf (match lnkR cs R with | .ok l' => .ok (l ++ l') | .error e => .error e) = errOf (lnkR cs R)
    cases lnkR cs R <;> rfl
theorem drop_one {xs : List Int} {m : Nat} {x : Int} : (xs.drop m).take 1 = [x] ↔ xs[m]? = some x := by
  cases h : xs[m]? with
  | none =>
    rw [List.drop_eq_nil_of_le (by rw [List.getElem?_eq_none_iff] at h; exact h)]
    simp
  | some y =>
    rw [drop_at h]
    simp
end
end K31

set_option Elab.async false
set_option linter.all false
set_option maxRecDepth 100000
set_option maxHeartbeats 4000000
namespace K31
open PySem PySem.Spec PyProof.Rows L2 DL
local macro_rules | `(tactic| walk_at "GO") => `(tactic| repeat' (first | with_reducible refine xs_seq ?_ | with_reducible refine xs_set ?_ | with_reducible refine xs_asg ?_ | with_reducible refine xs_if ?_ | with_reducible refine xs_ret ?_ | with_reducible refine xs_next ?_ | with_reducible refine xs_expr ?_ | with_reducible refine xs_fld ?_ | with_reducible refine xs_par ?_ | with_reducible refine xs_retN ?_ | with_reducible refine xs_brk ?_ | with_reducible refine xp_nil ?_ | with_reducible refine xp_cons ?_ | with_reducible refine xe_disp ?_ | with_reducible refine xe_dispM ?_ | with_reducible refine xs_cont ?_ | with_reducible refine da_nil ?_ | with_reducible refine da_cons ?_ | with_reducible refine de_int ?_ | with_reducible refine de_str ?_ | with_reducible refine de_bl ?_ | with_reducible refine de_non ?_ | with_reducible refine de_ty ?_ | ((with_reducible refine xe_var ?_); refine ⟨_, rfl, ?_⟩) | with_reducible refine de_op ?_ | with_reducible refine de_un ?_ | with_reducible refine de_call ?_ | with_reducible refine de_cb ?_ | with_reducible refine de_sl ?_ | with_reducible refine do_none ?_ | with_reducible refine do_some ?_ | with_reducible refine de_if ?_ | with_reducible refine de_andV ?_ | with_reducible refine de_orV ?_ | with_reducible refine de_notV ?_ | with_reducible refine de_chain ?_ | with_reducible refine dt_test ?_ | with_reducible refine dt_B ?_ | with_reducible refine dt_and ?_ | with_reducible refine dt_or ?_ | with_reducible refine dt_not ?_ | (with_reducible refine xe_tup ?_) | (with_reducible refine xe_lst ?_) | (with_reducible refine xe_lstM ?_) | (with_reducible refine de_meth ?_) | with_reducible refine xs_dput ?_ | with_reducible refine xs_daug ?_ | with_reducible refine de_dget ?_ | with_reducible refine de_dgt1 ?_ | with_reducible refine de_dgt2 ?_ | with_reducible refine de_din ?_ | with_reducible refine de_dnotin ?_ | with_reducible refine de_dnewK ?_ | with_reducible refine de_dnewT ?_ | with_reducible refine de_revL ?_ | (with_reducible refine de_bm ?_) | (with_reducible refine de_bm0 ?_) | (with_reducible refine ⟨isTy_str, ?_⟩) | (with_reducible refine ⟨xty_lst ⟨_, rfl⟩, ?_⟩) | (with_reducible refine ⟨xty_lst ⟨_, vw_loc at_0⟩, ?_⟩) | (with_reducible refine rm_append at_0 ?_ ?_) | (with_reducible refine rm_pop at_0 ?_) | (with_reducible refine rc_len (.inl (vw_loc at_0)) ?_) | (with_reducible refine ⟨xty_lst ⟨_, vw_loc at_1⟩, ?_⟩) | (with_reducible refine rm_append at_1 ?_ ?_) | (with_reducible refine rm_pop at_1 ?_) | (with_reducible refine rc_len (.inl (vw_loc at_1)) ?_) | (with_reducible refine ⟨xty_lst ⟨_, vw_loc at_2⟩, ?_⟩) | (with_reducible refine rm_append at_2 ?_ ?_) | (with_reducible refine rm_pop at_2 ?_) | (with_reducible refine rc_len (.inl (vw_loc at_2)) ?_) | with_reducible refine radA_tup ?_ ?_ | with_reducible refine radA_G ?_ | with_reducible refine rslU_tup ?_ | with_reducible refine rslU_G ?_ | with_reducible refine radd_int ?_ | with_reducible refine radd_S ?_ ?_ | with_reducible refine rsub_int ?_ | with_reducible refine req_int ?_ | with_reducible refine rne_int ?_ | with_reducible refine req_S ?_ | with_reducible refine rne_S ?_ | with_reducible refine rlt_int ?_ | with_reducible refine rle_int ?_ | with_reducible refine rgt_int ?_ | with_reducible refine rge_int ?_ | with_reducible refine rneg_int ?_ | with_reducible refine rin_sgn ?_ | with_reducible refine rni_sgn ?_ | with_reducible refine rc_len_S ?_ ?_ | with_reducible refine rc_int_bl ?_ | with_reducible refine rc_str_int ?_ ?_ | with_reducible refine rc_str_str ?_ | with_reducible refine rc_max2 ?_ | with_reducible refine rc_abs ?_ | with_reducible refine req_bl ?_ | with_reducible refine rne_bl ?_ | with_reducible refine rltg_i ?_ | with_reducible refine rleg_i ?_ | with_reducible refine rgtg_i ?_ | with_reducible refine rgeg_i ?_ | with_reducible refine rltg_b ?_ | with_reducible refine rleg_b ?_ | with_reducible refine rgtg_b ?_ | with_reducible refine rgeg_b ?_ | with_reducible refine rist ?_ | with_reducible refine rntt ?_ | with_reducible refine dt_truth ?_ | ((with_reducible refine xc_isi ?_); refine ⟨_, true, rfl, rfl, ?_⟩) | ((with_reducible refine xc_isi ?_); refine ⟨_, false, rfl, rfl, ?_⟩) | with_reducible refine di_str ?_ | with_reducible refine di_list ?_ | with_reducible refine di_tup ?_ | with_reducible refine di_rng1 ?_ | with_reducible refine di_rng2 ?_ | with_reducible refine ift ?_ | with_reducible refine iff_ ?_ | with_reducible refine ifnt ?_ | with_reducible refine ifnf ?_ | with_reducible refine rin_strs sq_c ?_ | with_reducible refine rni_strs sq_c ?_ | with_reducible refine rin_strs sq_t ?_ | with_reducible refine rni_strs sq_t ?_ | with_reducible refine rin_strs sq_l ?_ | with_reducible refine rni_strs sq_l ?_ | with_reducible refine rin_strs (sq_v rfl) ?_ | with_reducible refine rni_strs (sq_v rfl) ?_ | ((with_reducible refine rin_seq sq_c ?_ ?_ ?_); rfl; rfl) | ((with_reducible refine rin_seq sq_t ?_ ?_ ?_); rfl; rfl) | ((with_reducible refine rin_seq sq_l ?_ ?_ ?_); rfl; rfl) | ((with_reducible refine rin_seq (sq_v rfl) ?_ ?_ ?_); rfl; rfl) | ((with_reducible refine rni_seq sq_c ?_ ?_ ?_); rfl; rfl) | ((with_reducible refine rni_seq sq_t ?_ ?_ ?_); rfl; rfl) | ((with_reducible refine rni_seq sq_l ?_ ?_ ?_); rfl; rfl) | ((with_reducible refine rni_seq (sq_v rfl) ?_ ?_ ?_); rfl; rfl) | (with_reducible refine xix_tup ?_) | ((with_reducible refine xc_len ?_); refine ⟨_, sq_c, ?_⟩) | ((with_reducible refine xc_len ?_); refine ⟨_, sq_t, ?_⟩) | ((with_reducible refine xc_len ?_); refine ⟨_, sq_l, ?_⟩) | ((with_reducible refine xc_len ?_); refine ⟨_, (sq_v rfl), ?_⟩) | (with_reducible refine rm_count ?_) | (with_reducible refine ⟨_, rfl, ?_⟩) | (with_reducible refine ⟨_, at_h0, ?_⟩) | (with_reducible refine ⟨_, at_h1, ?_⟩) | (with_reducible refine ⟨_, at_h2, ?_⟩) | (with_reducible refine ⟨_, at_h3, ?_⟩) | (with_reducible refine ⟨_, .inl rfl, ?_⟩) | (with_reducible refine ⟨_, .inr rfl, ?_⟩) | (with_reducible refine ⟨_, _, rfl, ?_⟩) | ((with_reducible refine xix_lst ?_); refine ⟨_, rfl, _, rfl, ?_⟩) | ((with_reducible refine xadd_lst ?_); refine ⟨_, rfl, _, rfl, ?_, ?_⟩) | with_reducible refine rmul_int ?_ ?_ | with_reducible refine rmod_int ?_ ?_ | with_reducible refine rfdiv_int ?_ ?_ | with_reducible refine rpow_int ?_ ?_ | with_reducible refine xg_setL ?_ | refine ⟨_, _, _, _, rfl, rfl, rfl, rfl, ?_⟩ | with_reducible refine xg_name ?_ | with_reducible refine xg_tup rfl ?_ | with_reducible refine xgs_name ?_ | with_reducible refine xgs_nil ?_ | (with_reducible refine ⟨Nat.le_of_ble_eq_true rfl, ?_⟩) | (with_reducible refine ifdT (by decide) ?_) | (with_reducible refine ifdF (by decide) ?_) | (with_reducible refine ifnT (by decide) ?_) | (with_reducible refine ifnF (by decide) ?_) | (with_reducible refine ifbT (by decide) ?_) | (with_reducible refine ifbF (by decide) ?_) | fail))
section
variable {P : Program} {mg : Str → Option Value}
theorem cut_seg {xs : List D} {k : Nat} : DL.cutD xs (some ((k : Nat) : Int)) (some ((k : Nat) + 1 : Int)) = (xs.drop k).take 1 := by
  unfold DL.cutD
  rw [HT.sIx_nat, show ((k : Nat) : Int) + 1 = ((k + 1 : Nat) : Int) by omega, HT.sIx_nat]
  by_cases h : k + 1 ≤ xs.length
  · rw [Nat.min_eq_left h, Nat.min_eq_left (by omega), show k + 1 - k = 1 by omega]
  · rw [Nat.min_eq_right (show xs.length ≤ k + 1 by omega), List.drop_eq_nil_of_le (show xs.length ≤ k by omega), Nat.min_eq_right (show xs.length ≤ k by omega), List.drop_length]
    simp
theorem rne_one {K : KX} {γ : Ga} {Q : QD} {x : D} {l : List Int} {z : Int} (hx : vw γ x = .lst (l.map D.int)) (hl : l.length ≤ 1) (q : Q (.bl (!decide (l = [z]))) γ) : dR2 K (rNeG K.f) x (.lst [.int z]) γ Q := by
  have hp : ∀ l : List Int, plL (l.map D.int) = true ∧ PyData.canLayAll0 (pyL (l.map D.int)) = true := by
    intro l
    induction l with
    | nil => exact ⟨rfl, rfl⟩
    | cons a l ih => exact ih
  refine rne_M (by rw [hx]; exact (hp l).1) rfl (by rw [hx]; exact (hp l).2) rfl (.inr (show (PyData.list [PyData.int z]).depth ≤ 64 from (by decide : 1 ≤ 64))) ?_
  rw [hx]
  match l, hl with
  | [], _ => exact q
  | [y], _ =>
    have : PyData.eqv (D.lst ([y].map D.int)).py (D.lst [D.int z]).py = decide ([y] = [z]) := by
      show PyData.eqv (PyData.list [PyData.int y]) (PyData.list [PyData.int z]) = _
      by_cases h : y = z
      · subst h
        simp [PyData.eqv, PyData.eqvAll]
      · simp [PyData.eqv, PyData.eqvAll, h]
    show Q (.bl (!PyData.eqv (D.lst ([y].map D.int)).py (D.lst [D.int z]).py)) γ
    rw [this]
    exact q
theorem okIn_snd {nm : List Nat} {ns : List (List Nat)} {q : List Nat} {x : Int} (h : Ev.okIn nm ns (.snd q x) = true) : q ∈ ns ∧ q ≠ nm ∧ smallI x = true := by
  unfold Ev.okIn at h
  rw [Bool.and_eq_true, Bool.and_eq_true, decide_eq_true_eq, decide_eq_true_eq] at h
  exact ⟨h.1.1, h.1.2, h.2⟩
theorem optM_err {A : Type} {x : Except EvN A} {n : List Nat} {i : Nat} (h : errOf x = some (n, i)) : optM x = .lst [.str (S wMsg), .str (S n), .int (i : Nat)] := by
  cases x with
  | ok _ => cases h
  | error e => cases h; rfl
theorem optM_ok {A : Type} {x : Except EvN A} (h : errOf x = none) : optM x = .non := by
  cases x with
  | ok _ => rfl
  | error e => cases h
theorem dl_L_first_message {K : Frag} (T : Tx K mg) : DL_L_first_message K (sp_L_first_message K) := by
  rintro ds γ q e E0 lo1 lo2 ⟨R, rfl, ⟨hR, hnd, hro⟩, hq⟩
  refine dS_env (ρ' := [some (.lst (R.map rowD)), none, none, none, none, none, none, none, none]) rfl ?_
  unfold t_L_first_message
  walk_at "GO"
  refine xs_for [2, 3] ?_
  walk_at "GO"
  refine ⟨fun i ρ' γ' => ∃ x2 x3 x4 qs, ρ' = [some (.lst (R.map rowD)), some (.loc γ.length), x2, x3, x4, none, none, none, none] ∧ γ' = γ ++ [moT (qPs qs)] ∧ QOk (i * 10000) qs ∧ sentR (R.drop i) qs = sentR R [], ⟨_, _, _, [], rfl, rfl, ⟨Nat.le_refl _, by simp⟩, rfl⟩, ?_, ?_⟩
  · rintro i y ρ' γ' hy ⟨x2, x3, x4, qs, rfl, rfl, hQ, he⟩
    rw [List.getElem?_map] at hy
    obtain ⟨r, hr, rfl⟩ := Option.map_eq_some_iff.mp hy
    have hi := (List.getElem?_eq_some_iff.mp hr).1
    obtain ⟨hrl, hre⟩ := hro r (List.mem_of_getElem? hr)
    rw [drop_at hr] at he
    refine dg_tup rfl (dgs_two ?_)
    refine xs_for [4] ?_
    walk_at "GO"
    refine ⟨fun j ρ' γ' => ∃ x4 qs', ρ' = [some (.lst (R.map rowD)), some (.loc γ.length), some (.str (S r.1)), some (.tup (r.2.map Ev.d)), x4, none, none, none, none] ∧ γ' = γ ++ [moT (qPs qs')] ∧ QOk (i * 10000 + j) qs' ∧ sentEv r.1 (r.2.drop j) qs' = sentEv r.1 r.2 qs, ⟨_, qs, rfl, rfl, hQ, rfl⟩, ?_, ?_⟩
    · rintro j y ρ' γ' hy ⟨x4, qs', rfl, rfl, hQ, hf⟩
      rw [List.getElem?_map] at hy
      obtain ⟨ev, hv, rfl⟩ := Option.map_eq_some_iff.mp hy
      have hjl := (List.getElem?_eq_some_iff.mp hv).1
      have hok := hre ev (List.mem_of_getElem? hv)
      rw [drop_at hv] at hf
      have up : QOk (i * 10000 + j + 1) qs' := ⟨by have := hQ.1; omega, fun p hp => ⟨by have := (hQ.2 p hp).1; omega, (hQ.2 p hp).2⟩⟩
      refine dg_name ?_
      cases ev with
      | snd p x =>
        obtain ⟨hp1, hp2, hp3⟩ := okIn_snd hok
        rw [show (Ev.snd p x).d = D.tup [.str (S wSend), .str (S p), .int x] from rfl]
        obtain ⟨q1, q2, q3⟩ := q_at hQ (r.1, p)
        walk_at "GO"
        refine ⟨isDD_T at_0, ?_⟩
        walk_at "GO"
        refine ⟨_, dvTl (key := kC (r.1, p)) at_0 rfl, ?_⟩
        rw [get_q]
        walk_at "GO"
        · rw [List.length_map]
          show _ + 1 ≤ _
          omega
        refine .inr ⟨_, _, kC (r.1, p), rfl, at_0, rfl, ?_, ?_⟩
        · unfold qPs
          rw [List.length_map]
          have := hQ.1
          omega
        rw [show (qAt qs' (r.1, p)).map D.int ++ [D.int x] = (qAt qs' (r.1, p) ++ [x]).map D.int by simp, put_q, set_0]
        refine ⟨_, _, rfl, rfl, q_put (N := i * 10000 + j) hQ ?_ ?_ fun _ => fun z => hp2 z.symm, hf⟩
        · rw [List.length_append, List.length_singleton]
          omega
        · intro y hy
          rcases List.mem_append.mp hy with hy | hy
          · exact q2 y hy
          · cases List.mem_singleton.mp hy
            exact hp3
      | set ip v x =>
        rw [show (Ev.set ip v x).d = D.tup [.str (S (if ip = true then wInp else wSet)), .str (S v), .int x] from rfl]
        cases ip
        all_goals
          walk_at "GO"
          exact ⟨_, qs', rfl, rfl, up, hf⟩
      | rcv tk p v x =>
        rw [show (Ev.rcv tk p v x).d = D.tup [.str (S (if tk = true then wTake else wRcv)), .str (S p), .str (S v), .int x] from rfl]
        cases tk
        all_goals
          walk_at "GO"
          exact ⟨_, qs', rfl, rfl, up, hf⟩
      | chk =>
        rw [show Ev.chk.d = D.tup [.str (S wChk)] from rfl]
        walk_at "GO"
        exact ⟨_, qs', rfl, rfl, up, hf⟩
    · rintro ρ' γ' ⟨x4, qs', rfl, rfl, hQ, hf⟩
      rw [List.length_map, List.drop_length] at hf
      rw [List.length_map] at hQ
      refine ⟨_, _, _, qs', rfl, rfl, ⟨by have := hQ.1; omega, fun p hp => ⟨by have := (hQ.2 p hp).1; omega, (hQ.2 p hp).2⟩⟩, ?_⟩
      rw [← he, show qs' = sentEv r.1 r.2 qs from hf]
      rfl
  · rintro ρ' γ' ⟨x2, x3, x4, qs, rfl, rfl, hQ, he⟩
    rw [List.length_map, List.drop_length] at he
    cases (show qs = sentR R [] from he)
    generalize hqs : sentR R [] = qs
    have hsent : ∀ c, qAt qs c = (chanAt (sndsOf R) c).map (·.2) := fun c => by rw [← hqs]; exact sent_of
    walk_at "GO"
    refine xs_for [2, 3] ?_
    walk_at "GO"
    refine ⟨fun i ρ' γ' => ∃ x2 x3 x4 x5 x6 x7 x8, ρ' = [some (.lst (R.map rowD)), some (.loc γ.length), x2, x3, x4, x5, x6, x7, x8] ∧ γ' = γ ++ [moT (qPs qs)] ∧ errOf (lnkR (sndsOf R) (R.drop i)) = errOf (msgsOf R), ⟨_, _, _, _, _, _, _, rfl, rfl, rfl⟩, ?_, ?_⟩
    · rintro i y ρ' γ' hy ⟨x2, x3, x4, x5, x6, x7, x8, rfl, rfl, he⟩
      rw [List.getElem?_map] at hy
      obtain ⟨r, hr, rfl⟩ := Option.map_eq_some_iff.mp hy
      obtain ⟨hrl, hre⟩ := hro r (List.mem_of_getElem? hr)
      rw [drop_at hr, lnkR_cons] at he
      refine dg_tup rfl (dgs_two ?_)
      refine xs_for [5] ?_
      walk_at "GO"
      rw [List.length_map]
      refine ⟨by omega, by omega, fun j ρ' γ' => ∃ x5 x6 x7 x8 t, ρ' = [some (.lst (R.map rowD)), some (.loc γ.length), some (.str (S r.1)), some (.tup (r.2.map Ev.d)), x4, x5, x6, x7, x8] ∧ γ' = γ ++ [moT (qPs qs)] ∧ (∀ p, cntAt t p = rcvs p (r.2.take j)) ∧ errEv (lnkEv (sndsOf R) r.1 (r.2.drop j) (j + 1) t) = errEv (lnkEv (sndsOf R) r.1 r.2 1 []), ⟨_, _, _, _, [], rfl, rfl, fun _ => rfl, rfl⟩, ?_, ?_⟩
      · rintro j y ρ' γ' hy ⟨x5, x6, x7, x8, t, rfl, rfl, ht, hf⟩
        obtain ⟨hj, rfl⟩ := rng_get hy
        rw [Int.toNat_natCast] at hj
        rw [Int.zero_add]
        obtain ⟨ev, hv⟩ : ∃ ev, r.2[j]? = some ev := ⟨_, List.getElem?_eq_getElem hj⟩
        have hvd : (r.2.map Ev.d)[j]? = some ev.d := by rw [List.getElem?_map, hv]; rfl
        have htk : r.2.take (j + 1) = r.2.take j ++ [ev] := by rw [List.take_add_one, hv]; rfl
        have keep : (∀ p, isRcv p ev = false) → ∀ p, cntAt t p = rcvs p (r.2.take (j + 1)) := fun h p => by
          rw [htk, rcvs_add, h p, ht p]; rfl
        rw [drop_at hv] at hf
        refine dg_name ?_
        walk_at "GO"
        refine ⟨_, at_nat hvd, ?_⟩
        cases ev with
        | snd p x =>
          rw [show (Ev.snd p x).d = D.tup [.str (S wSend), .str (S p), .int x] from rfl]
          walk_at "GO"
          exact ⟨_, _, _, _, t, rfl, rfl, keep (fun _ => rfl), hf⟩
        | set ip v x =>
          rw [show (Ev.set ip v x).d = D.tup [.str (S (if ip = true then wInp else wSet)), .str (S v), .int x] from rfl]
          cases ip
          all_goals
            walk_at "GO"
            exact ⟨_, _, _, _, t, rfl, rfl, keep (fun _ => rfl), hf⟩
        | chk =>
          rw [show Ev.chk.d = D.tup [.str (S wChk)] from rfl]
          walk_at "GO"
          exact ⟨_, _, _, _, t, rfl, rfl, keep (fun _ => rfl), hf⟩
        | rcv tk p v x =>
          have hde : (Ev.rcv tk p v x).d = D.tup [.str (S (if tk = true then wTake else wRcv)), .str (S p), .str (S v), .int x] := rfl
          rw [hde] at hvd ⊢
          rw [lnkEv_rcv, ht p, ← hsent] at hf
          cases tk
          all_goals
            walk_at "GO"
            refine ⟨_, at_nat hvd, ?_⟩
            walk_at "GO"
            refine xe_lcF (r.2.take j) Ev.d Ev.d (isRcv p) (by simp) ?_
            walk_at "GO"
            rw [cut_take]
            refine ⟨by rw [List.map_take], by rw [List.length_take]; omega, fun ev' hev' => ?_, ?_⟩
            · cases ev' with
              | snd p' x' =>
                rw [show (Ev.snd p' x').d = D.tup [.str (S wSend), .str (S p'), .int x'] from rfl]
                walk_at "GO"
                exact ⟨rfl, rfl⟩
              | set ip v' x' =>
                rw [show (Ev.set ip v' x').d = D.tup [.str (S (if ip = true then wInp else wSet)), .str (S v'), .int x'] from rfl]
                cases ip
                all_goals
                  walk_at "GO"
                  exact ⟨rfl, rfl⟩
              | chk =>
                rw [show Ev.chk.d = D.tup [.str (S wChk)] from rfl]
                walk_at "GO"
                exact ⟨rfl, rfl⟩
              | rcv tk' p' v' x' =>
                rw [show (Ev.rcv tk' p' v' x').d = D.tup [.str (S (if tk' = true then wTake else wRcv)), .str (S p'), .str (S v'), .int x'] from rfl]
                rw [show isRcv p (.rcv tk' p' v' x') = decide (p' = p) from rfl]
                cases tk'
                all_goals
                  walk_at "GO"
                  refine ifd (fun c => ⟨decide_eq_true c, ?_⟩) (fun c => ⟨decide_eq_false c, rfl⟩)
                  walk_at "GO"
                  exact ⟨rfl, rfl⟩
            walk_at "GO"
            refine ⟨isDD_T at_0, ?_⟩
            walk_at "GO"
            refine ⟨_, dvTl (key := kC (p, r.1)) at_0 rfl, ?_⟩
            rw [get_q]
            walk_at "GO"
            refine rsl_lst rfl ?_
            rw [List.length_map, show ((r.2.take j).filter (isRcv p)).length = rcvs p (r.2.take j) from rfl, cut_seg]
            walk_at "GO"
            refine ⟨_, at_nat hvd, ?_⟩
            walk_at "GO"
            refine rne_one (l := ((qAt qs (p, r.1)).drop (rcvs p (r.2.take j))).take 1) (by rw [List.map_take, List.map_drop]; rfl) (by rw [List.length_take]; omega) ?_
            walk_at "GO"
            refine ifnd (fun c => ?_) (fun c => ?_)
            · rw [if_neg (fun z => c (drop_one.mpr z))] at hf
              rw [← hf] at he
              rw [optM_err he.symm, show ((j + 1 : Nat) : Int) = (j : Nat) + 1 by omega] at hq
              walk_at "GO"
              exact dr_keep lo1 rfl hq
            · rw [if_pos (drop_one.mp c)] at hf
              walk_at "GO"
              refine ⟨_, _, _, _, _, rfl, rfl, fun p' => ?_, hf⟩
              rw [htk, rcvs_add, cnt_up, ← ht p', ← ht p, show isRcv p' (.rcv _ p v x) = decide (p = p') from rfl]
              by_cases e : p' = p
              · subst e
                rw [if_pos rfl, decide_eq_true rfl, if_pos rfl]
              · rw [if_neg e, decide_eq_false (fun z => e z.symm), if_neg Bool.false_ne_true]; rfl
      · rintro ρ' γ' ⟨x5, x6, x7, x8, t, rfl, rfl, ht, hf⟩
        rw [rng_len, Int.toNat_natCast, List.drop_length] at hf
        refine ⟨_, _, _, _, _, _, _, rfl, rfl, ?_⟩
        rw [← he, ← hf]
        rfl
    · rintro ρ' γ' ⟨x2, x3, x4, x5, x6, x7, x8, rfl, rfl, he⟩
      rw [List.length_map, List.drop_length] at he
      rw [optM_ok (he.symm.trans rfl)] at hq
      walk_at "GO"
      exact dr_keep lo1 rfl hq
end
end K31

set_option Elab.async false
set_option linter.all false
set_option maxRecDepth 100000
set_option maxHeartbeats 4000000
namespace K31
open PySem PySem.Spec PyProof.Rows L2 DL
section
/-! ### rows that pass the checks of rows and events -/
def Good (R : List Row) : Prop := R ≠ [] ∧ RowsOk R ∧ ∀ r ∈ R, isName r.1 = true
theorem Good.names {R : List Row} (h : Good R) : ∀ l ∈ namesOf R, isName l = true := fun l hl => by
  obtain ⟨r, hr, rfl⟩ := List.mem_map.mp hl
  exact h.2.2 r hr
theorem rowsX_map : ∀ {rs : List RowX}, (∀ r ∈ rs, isName r.1 = true) → rowsX (rs.map rowXD) = rs
  | [], _ => rfl
  | r :: rs, h => by
    have e : rowOk (rowXD r) = some r := by
      unfold rowXD rowOk
      simp only [S_l, h r List.mem_cons_self, if_true]
    show rowsX (rowXD r :: rs.map rowXD) = _
    unfold rowsX
    rw [e]
    show r :: rowsX (rs.map rowXD) = _
    rw [rowsX_map fun x hx => h x (List.mem_cons_of_mem _ hx)]
theorem rowErr_in0 : ∀ {rs : List RowX} {i : Nat} {kn : List (List Nat)}, (∀ r ∈ rs, isName r.1 = true) → (kn ++ rs.map (·.1)).Nodup → i + rs.length ≤ 40 → rowErr (rs.map rowXD) i kn = none
  | [], _, _, _, _, _ => rfl
  | r :: rs, i, kn, h, hn, hl => by
    have e : rowOk (rowXD r) = some r := by
      unfold rowXD rowOk
      simp only [S_l, h r List.mem_cons_self, if_true]
    rw [List.length_cons] at hl
    show rowErr (rowXD r :: rs.map rowXD) i kn = _
    unfold rowErr
    rw [e]
    simp only
    have hn2 : (kn ++ [r.1] ++ rs.map (·.1)).Nodup := by
      rw [List.append_assoc]
      exact hn
    rw [if_neg]
    · exact rowErr_in0 (fun x hx => h x (List.mem_cons_of_mem _ hx)) hn2 (by omega)
    · rintro (z | z)
      · omega
      · rw [List.nodup_append] at hn
        exact hn.2.2 _ z r.1 (by simp) rfl
theorem rowsErr_none {rs : List RowX} (h : ∀ r ∈ rs, isName r.1 = true) (hn : (rs.map (·.1)).Nodup) (hl : rs.length ≤ 40) (h0 : rs ≠ []) : rowsErr (rs.map rowXD) = none := by
  unfold rowsErr
  rw [if_neg (by simpa using h0)]
  exact rowErr_in0 h hn (by omega)
def rowX (r : Row) : RowX := (r.1, r.2.map Ev.d)
theorem rowX_D {R : List Row} : R.map rowD = (R.map rowX).map rowXD := by rw [List.map_map]; rfl
theorem rowX_names {R : List Row} : (R.map rowX).map (·.1) = namesOf R := by rw [List.map_map]; rfl
theorem fz_ev (ev : Ev) : ev.d.fz = ev.d := by
  cases ev <;> (unfold Ev.d D.fz; rw [fzL_map]; rfl)
theorem fz_evs (es : List Ev) : (es.map Ev.d).map D.fz = es.map Ev.d := by
  rw [List.map_map]
  exact List.map_congr_left fun ev _ => fz_ev ev
theorem fz_rowD (r : Row) : (rowD r).fz = rowD r := by
  unfold rowD D.fz
  rw [fzL_map]
  show D.tup [(D.str (S r.1)).fz, (D.tup (r.2.map Ev.d)).fz] = _
  rw [show (D.tup (r.2.map Ev.d)).fz = .tup ((r.2.map Ev.d).map D.fz) by unfold D.fz; rw [fzL_map], fz_evs]
  rfl
theorem fz_good {R : List Row} : fzL (R.map rowD) = R.map rowD := by
  rw [fzL_map, List.map_map]
  exact List.map_congr_left fun r _ => fz_rowD r
theorem ev_form {ev : Ev} {nm : List Nat} {ns : List (List Nat)} (h : ev.okIn nm ns = true) : formB ev.d nm ns = true := by
  have fw : ∀ {w : List Nat} {kinds : List (List Nat)} {xs : List D}, FORMS_T.lookup w = some kinds → formB (.tup (.str (S w) :: xs)) nm ns = (decide (xs.length = kinds.length) && (kinds.zip xs).all fun p => fitsD p.1 p.2 nm ns) := by
    intro w kinds xs h
    unfold formB
    simp only [S_l, h]
  have hsm : ∀ x : Int, isSmallD (.int x) = decide (x.natAbs < BIG.natAbs) := fun _ => rfl
  have hnd : ∀ v : List Nat, isNameD (.str (S v)) = isName v := fun v => by show isName (S v).cps.toList = _; rw [S_l]
  have hft : ∀ p : List Nat, fitsS nm ns (.str (S p)) = (decide (p ∈ ns) && decide (p ≠ nm)) := fun p => by show (decide ((S p).cps.toList ∈ ns) && decide ((S p).cps.toList ≠ nm)) = _; rw [S_l]
  cases ev with
  | set ip v x =>
    show formB (.tup (.str (S (if ip = true then wInp else wSet)) :: [.str (S v), .int x])) nm ns = true
    rw [fw (kinds := [wVar, wVal]) (by cases ip <;> rfl)]
    show (true && (fitsD wVar _ nm ns && (fitsD wVal _ nm ns && true))) = true
    rw [fits_var, fits_val, hnd, hsm]
    unfold Ev.okIn at h
    simpa using h
  | snd q x =>
    show formB (.tup (.str (S wSend) :: [.str (S q), .int x])) nm ns = true
    rw [fw (kinds := [wPrc, wVal]) rfl]
    show (true && (fitsD wPrc _ nm ns && (fitsD wVal _ nm ns && true))) = true
    rw [fits_prc, fits_val, hft, hsm]
    unfold Ev.okIn at h
    simpa using h
  | rcv tk p v x =>
    show formB (.tup (.str (S (if tk = true then wTake else wRcv)) :: [.str (S p), .str (S v), .int x])) nm ns = true
    rw [fw (kinds := [wPrc, wVar, wVal]) (by cases tk <;> rfl)]
    show (true && (fitsD wPrc _ nm ns && (fitsD wVar _ nm ns && (fitsD wVal _ nm ns && true)))) = true
    rw [fits_prc, fits_var, fits_val, hft, hnd, hsm]
    unfold Ev.okIn at h
    simpa [and_assoc] using h
  | chk =>
    show formB (.tup (.str (S wChk) :: [])) nm ns = true
    rw [fw (kinds := []) rfl]; rfl
theorem evOfD_d (ev : Ev) : evOfD ev.d = ev := by
  cases ev with
  | set ip v x =>
    unfold Ev.d evOfD
    simp only [S_l]
    cases ip
    · rw [if_neg (by decide)]; rfl
    · rw [if_neg (by decide)]; rfl
  | snd q x =>
    unfold Ev.d evOfD
    simp only [S_l]
    rw [if_pos trivial]
  | rcv tk p v x =>
    unfold Ev.d evOfD
    simp only [S_l]
    cases tk <;> rfl
  | chk => rfl
theorem firstNo_all {nm : List Nat} {ns : List (List Nat)} : ∀ {ds : List D} {i : Nat}, (∀ d ∈ ds, formB d nm ns = true) → firstNo nm ns ds i = none
  | [], _, _ => rfl
  | d :: ds, i, h => by
    unfold firstNo
    rw [if_pos (h d List.mem_cons_self)]
    exact firstNo_all fun x hx => h x (List.mem_cons_of_mem _ hx)
theorem evErr_all {ns : List (List Nat)} : ∀ {rs : List RowX}, (∀ r ∈ rs, ∀ d ∈ r.2, formB d r.1 ns = true) → evErr ns rs = none
  | [], _ => rfl
  | r :: rs, h => by
    unfold evErr
    rw [firstNo_all (h r List.mem_cons_self)]
    exact evErr_all fun x hx => h x (List.mem_cons_of_mem _ hx)
theorem rowsE_X {R : List Row} : rowsE (R.map rowX) = R := by
  unfold rowsE
  rw [List.map_map]
  conv => rhs; rw [← List.map_id R]
  refine List.map_congr_left fun r _ => ?_
  show (r.1, (r.2.map Ev.d).map evOfD) = r
  rw [List.map_map, show evOfD ∘ Ev.d = id from funext evOfD_d, List.map_id]
theorem judge_good {R : List Row} (h : Good R) : judge (fzL (R.map rowD)) = match msgsOf R with
    | .error (n, i) => .error ⟨wMsg, .str (S n), i⟩
    | .ok l => match ordErr (seqOf l R) R with
      | some (n, i) => .error ⟨wOrder, .str (S n), i⟩
      | none => .ok (R, l) := by
  obtain ⟨h0, ⟨hl, hn, hr⟩, hnm⟩ := h
  have hx : ∀ r ∈ R.map rowX, isName r.1 = true := fun r hr => by
    obtain ⟨r0, h1, rfl⟩ := List.mem_map.mp hr
    exact hnm r0 h1
  rw [fz_good, rowX_D]
  unfold judge
  rw [rowsErr_none hx (by rw [rowX_names]; exact hn) (by rw [List.length_map]; exact hl) (by simpa using h0)]
  simp only
  have hev : evErr (namesOf R) (R.map rowX) = none := evErr_all fun r hr' d hd => by
    obtain ⟨r0, h1, rfl⟩ := List.mem_map.mp hr'
    obtain ⟨ev, h2, rfl⟩ := List.mem_map.mp hd
    exact ev_form ((hr r0 h1).2 ev h2)
  rw [rowsX_map hx, rowX_names, hev, rowsE_X]
  all_goals rfl
/-! ### small data -/
theorem name_oks {l : List Nat} (h : isName l = true) {n : Nat} : (D.str (S l)).oks n = true := by
  obtain ⟨h1, h2, h3⟩ := name_ok h
  unfold D.oks
  rw [Bool.and_eq_true, decide_eq_true_eq]
  exact ⟨by rw [S_len]; omega, h3⟩
theorem oks_tup {n : Nat} {xs : List D} (hl : xs.length ≤ 10000) (h : ∀ d ∈ xs, d.oks n = true) : (D.tup xs).oks (n + 1) = true := by
  unfold D.oks
  rw [Bool.and_eq_true, decide_eq_true_eq]
  exact ⟨hl, oksL_of h⟩
theorem oks_lst {n : Nat} {xs : List D} (hl : xs.length ≤ 10000) (h : ∀ d ∈ xs, d.oks n = true) : (D.lst xs).oks (n + 1) = true := by
  unfold D.oks
  rw [Bool.and_eq_true, decide_eq_true_eq]
  exact ⟨hl, oksL_of h⟩
theorem int_oks {x : Int} {n : Nat} (h : x.natAbs < BIG.natAbs) : (D.int x).oks n = true := by
  unfold D.oks
  exact decide_eq_true (Nat.lt_trans h (by decide))
theorem ev_oks {ev : Ev} {nm : List Nat} {ns : List (List Nat)} (hns : ∀ l ∈ ns, isName l = true) (h : ev.okIn nm ns = true) : ev.d.oks 1 = true := by
  cases ev with
  | set ip v x =>
    unfold Ev.okIn at h
    simp only [Bool.and_eq_true, decide_eq_true_eq] at h
    exact ok3 (by cases ip <;> decide +kernel) (name_oks h.1) (int_oks h.2)
  | snd q x =>
    unfold Ev.okIn at h
    simp only [Bool.and_eq_true, decide_eq_true_eq] at h
    exact ok3 (by decide +kernel) (name_oks (hns q h.1.1)) (int_oks h.2)
  | rcv tk p v x =>
    unfold Ev.okIn at h
    simp only [Bool.and_eq_true, decide_eq_true_eq] at h
    refine oks_tup (Nat.le_of_ble_eq_true rfl) fun d hd => ?_
    simp only [List.mem_cons, List.not_mem_nil, or_false] at hd
    rcases hd with rfl | rfl | rfl | rfl
    · cases tk <;> decide +kernel
    · exact name_oks (hns p h.1.1.1)
    · exact name_oks h.1.2
    · exact int_oks h.2
  | chk => decide +kernel
theorem Good.row {R : List Row} (h : Good R) {r : Row} (hr : r ∈ R) : (rowD r).oks 3 = true := by
  obtain ⟨h1, h2⟩ := h.2.1.2.2 r hr
  refine ok2 (name_oks (h.2.2 r hr)) (oks_tup (by rw [List.length_map]; exact h1) fun d hd => ?_)
  obtain ⟨ev, hev, rfl⟩ := List.mem_map.mp hd
  exact ev_oks h.names (h2 ev hev)
theorem Good.oks {R : List Row} (h : Good R) : ∀ d ∈ R.map rowD, d.oks 3 = true := fun d hd => by
  obtain ⟨r, hr, rfl⟩ := List.mem_map.mp hd
  exact h.row hr
theorem Good.rows {R : List Row} (h : Good R) : okRows (R.map rowD) = true := by
  unfold okRows
  rw [Bool.and_eq_true, decide_eq_true_eq]
  exact ⟨by rw [List.length_map]; have := h.2.1.1; omega, List.all_eq_true.mpr fun d hd => oks_mono (by decide) d (h.oks d hd)⟩
theorem Good.rowsL {R : List Row} (h : Good R) : okRows (lsL (R.map rowD)) = true := by
  unfold okRows
  rw [Bool.and_eq_true, decide_eq_true_eq, lsL_map, List.length_map, List.all_map]
  exact ⟨by rw [List.length_map]; have := h.2.1.1; omega, List.all_eq_true.mpr fun d hd => oks_ls d (oks_mono (by decide) d (h.oks d hd))⟩
theorem Good.lst {R : List Row} (h : Good R) : (D.lst (R.map rowD)).oks 12 = true := oks_mono (show 4 ≤ 12 by decide) _ (oks_lst (by rw [List.length_map]; have := h.2.1.1; omega) h.oks)
/-! ### drawn rows -/
theorem xy_name {v : List Nat} (h : isXY v) : isName v = true := by rcases h with rfl | rfl <;> decide
theorem drw_okIn {ns : List (List Nat)} {k : Nat} {R : List Row} {qs : Qs} (h : Drw ns k R qs) : ∀ r ∈ R, r.1 ∈ ns ∧ ∀ ev ∈ r.2, ev.okIn r.1 ns = true := by
  induction h with
  | nil =>
    intro r hr
    obtain ⟨x, hx, rfl⟩ := List.mem_map.mp hr
    exact ⟨hx, by simp⟩
  | @step n R qs i r ev qs' hd hr hev ih =>
    have hrm := List.mem_of_getElem? hr
    intro r' hr'
    rcases List.mem_or_eq_of_mem_set hr' with hr' | rfl
    · exact ih r' hr'
    · refine ⟨(ih r hrm).1, fun e he => ?_⟩
      rcases List.mem_append.mp he with he | he
      · exact (ih r hrm).2 e he
      · cases List.mem_singleton.mp he
        cases hev with
        | snd q x h1 h2 h3 =>
          unfold Ev.okIn
          simp only [Bool.and_eq_true, decide_eq_true_eq]
          exact ⟨⟨h1, h2⟩, of_decide_eq_true h3⟩
        | rcv tk p v x r' h1 h2 h3 h4 h5 =>
          unfold Ev.okIn
          simp only [Bool.and_eq_true, decide_eq_true_eq]
          exact ⟨⟨⟨h1, h2⟩, xy_name h3⟩, of_decide_eq_true h5⟩
        | set ip v x h1 h2 =>
          unfold Ev.okIn
          simp only [Bool.and_eq_true, decide_eq_true_eq]
          exact ⟨xy_name h1, of_decide_eq_true h2⟩
        | chk => rfl
theorem drw_good {ns : List (List Nat)} {k : Nat} {R : List Row} {qs : Qs} (h : Drw ns k R qs) (h0 : ns ≠ []) (hl : ns.length ≤ 40) (hn : ns.Nodup) (hnm : ∀ l ∈ ns, isName l = true) (hk : k ≤ 10000) : Good R := by
  have hN := drw_names h
  have hlen : R.length = ns.length := by rw [← hN]; unfold namesOf; rw [List.length_map]
  refine ⟨fun z => h0 (by rw [← hN, z]; rfl), ⟨by omega, by rw [hN]; exact hn, fun r hr => ⟨by have := drw_len h r hr; omega, fun ev hev => ?_⟩⟩, fun r hr => hnm _ (drw_okIn h r hr).1⟩
  rw [hN]
  exact (drw_okIn h r hr).2 ev hev
end
end K31

set_option Elab.async false
set_option linter.all false
set_option maxRecDepth 100000
set_option maxHeartbeats 4000000
namespace K31
open PySem PySem.Spec PyProof.Rows L2 DL
local macro_rules | `(tactic| walk_at "GO") => `(tactic| repeat' (first | with_reducible refine xs_seq ?_ | with_reducible refine xs_set ?_ | with_reducible refine xs_asg ?_ | with_reducible refine xs_if ?_ | with_reducible refine xs_ret ?_ | with_reducible refine xs_next ?_ | with_reducible refine xs_expr ?_ | with_reducible refine xs_fld ?_ | with_reducible refine xs_par ?_ | with_reducible refine xs_retN ?_ | with_reducible refine xs_brk ?_ | with_reducible refine xp_nil ?_ | with_reducible refine xp_cons ?_ | with_reducible refine xe_disp ?_ | with_reducible refine xe_dispM ?_ | with_reducible refine xs_cont ?_ | with_reducible refine da_nil ?_ | with_reducible refine da_cons ?_ | with_reducible refine de_int ?_ | with_reducible refine de_str ?_ | with_reducible refine de_bl ?_ | with_reducible refine de_non ?_ | with_reducible refine de_ty ?_ | ((with_reducible refine xe_var ?_); refine ⟨_, rfl, ?_⟩) | with_reducible refine de_op ?_ | with_reducible refine de_un ?_ | with_reducible refine de_call ?_ | with_reducible refine de_cb ?_ | with_reducible refine de_sl ?_ | with_reducible refine do_none ?_ | with_reducible refine do_some ?_ | with_reducible refine de_if ?_ | with_reducible refine de_andV ?_ | with_reducible refine de_orV ?_ | with_reducible refine de_notV ?_ | with_reducible refine de_chain ?_ | with_reducible refine dt_test ?_ | with_reducible refine dt_B ?_ | with_reducible refine dt_and ?_ | with_reducible refine dt_or ?_ | with_reducible refine dt_not ?_ | (with_reducible refine xe_tup ?_) | (with_reducible refine xe_lst ?_) | (with_reducible refine xe_lstM ?_) | (with_reducible refine de_meth ?_) | with_reducible refine xs_dput ?_ | with_reducible refine xs_daug ?_ | with_reducible refine de_dget ?_ | with_reducible refine de_dgt1 ?_ | with_reducible refine de_dgt2 ?_ | with_reducible refine de_din ?_ | with_reducible refine de_dnotin ?_ | with_reducible refine de_dnewK ?_ | with_reducible refine de_dnewT ?_ | with_reducible refine de_revL ?_ | (with_reducible refine de_bm ?_) | (with_reducible refine de_bm0 ?_) | (with_reducible refine ⟨isTy_str, ?_⟩) | (with_reducible refine ⟨xty_lst ⟨_, rfl⟩, ?_⟩) | (with_reducible refine ⟨xty_lst ⟨_, vw_loc at_0⟩, ?_⟩) | (with_reducible refine rm_append at_0 ?_ ?_) | (with_reducible refine rm_pop at_0 ?_) | (with_reducible refine rc_len (.inl (vw_loc at_0)) ?_) | (with_reducible refine ⟨xty_lst ⟨_, vw_loc at_1⟩, ?_⟩) | (with_reducible refine rm_append at_1 ?_ ?_) | (with_reducible refine rm_pop at_1 ?_) | (with_reducible refine rc_len (.inl (vw_loc at_1)) ?_) | (with_reducible refine ⟨xty_lst ⟨_, vw_loc at_2⟩, ?_⟩) | (with_reducible refine rm_append at_2 ?_ ?_) | (with_reducible refine rm_pop at_2 ?_) | (with_reducible refine rc_len (.inl (vw_loc at_2)) ?_) | with_reducible refine radA_tup ?_ ?_ | with_reducible refine radA_G ?_ | with_reducible refine rslU_tup ?_ | with_reducible refine rslU_G ?_ | with_reducible refine radd_int ?_ | with_reducible refine radd_S ?_ ?_ | with_reducible refine rsub_int ?_ | with_reducible refine req_int ?_ | with_reducible refine rne_int ?_ | with_reducible refine req_S ?_ | with_reducible refine rne_S ?_ | with_reducible refine rlt_int ?_ | with_reducible refine rle_int ?_ | with_reducible refine rgt_int ?_ | with_reducible refine rge_int ?_ | with_reducible refine rneg_int ?_ | with_reducible refine rin_sgn ?_ | with_reducible refine rni_sgn ?_ | with_reducible refine rc_len_S ?_ ?_ | with_reducible refine rc_int_bl ?_ | with_reducible refine rc_str_int ?_ ?_ | with_reducible refine rc_str_str ?_ | with_reducible refine rc_max2 ?_ | with_reducible refine rc_abs ?_ | with_reducible refine req_bl ?_ | with_reducible refine rne_bl ?_ | with_reducible refine rltg_i ?_ | with_reducible refine rleg_i ?_ | with_reducible refine rgtg_i ?_ | with_reducible refine rgeg_i ?_ | with_reducible refine rltg_b ?_ | with_reducible refine rleg_b ?_ | with_reducible refine rgtg_b ?_ | with_reducible refine rgeg_b ?_ | with_reducible refine rist ?_ | with_reducible refine rntt ?_ | with_reducible refine dt_truth ?_ | ((with_reducible refine xc_isi ?_); refine ⟨_, true, rfl, rfl, ?_⟩) | ((with_reducible refine xc_isi ?_); refine ⟨_, false, rfl, rfl, ?_⟩) | with_reducible refine di_str ?_ | with_reducible refine di_list ?_ | with_reducible refine di_tup ?_ | with_reducible refine di_rng1 ?_ | with_reducible refine di_rng2 ?_ | with_reducible refine ift ?_ | with_reducible refine iff_ ?_ | with_reducible refine ifnt ?_ | with_reducible refine ifnf ?_ | with_reducible refine rin_strs sq_c ?_ | with_reducible refine rni_strs sq_c ?_ | with_reducible refine rin_strs sq_t ?_ | with_reducible refine rni_strs sq_t ?_ | with_reducible refine rin_strs sq_l ?_ | with_reducible refine rni_strs sq_l ?_ | with_reducible refine rin_strs (sq_v rfl) ?_ | with_reducible refine rni_strs (sq_v rfl) ?_ | ((with_reducible refine rin_seq sq_c ?_ ?_ ?_); rfl; rfl) | ((with_reducible refine rin_seq sq_t ?_ ?_ ?_); rfl; rfl) | ((with_reducible refine rin_seq sq_l ?_ ?_ ?_); rfl; rfl) | ((with_reducible refine rin_seq (sq_v rfl) ?_ ?_ ?_); rfl; rfl) | ((with_reducible refine rni_seq sq_c ?_ ?_ ?_); rfl; rfl) | ((with_reducible refine rni_seq sq_t ?_ ?_ ?_); rfl; rfl) | ((with_reducible refine rni_seq sq_l ?_ ?_ ?_); rfl; rfl) | ((with_reducible refine rni_seq (sq_v rfl) ?_ ?_ ?_); rfl; rfl) | (with_reducible refine xix_tup ?_) | ((with_reducible refine xc_len ?_); refine ⟨_, sq_c, ?_⟩) | ((with_reducible refine xc_len ?_); refine ⟨_, sq_t, ?_⟩) | ((with_reducible refine xc_len ?_); refine ⟨_, sq_l, ?_⟩) | ((with_reducible refine xc_len ?_); refine ⟨_, (sq_v rfl), ?_⟩) | (with_reducible refine rm_count ?_) | (with_reducible refine ⟨_, rfl, ?_⟩) | (with_reducible refine ⟨_, at_h0, ?_⟩) | (with_reducible refine ⟨_, at_h1, ?_⟩) | (with_reducible refine ⟨_, at_h2, ?_⟩) | (with_reducible refine ⟨_, at_h3, ?_⟩) | (with_reducible refine ⟨_, .inl rfl, ?_⟩) | (with_reducible refine ⟨_, .inr rfl, ?_⟩) | (with_reducible refine ⟨_, _, rfl, ?_⟩) | ((with_reducible refine xix_lst ?_); refine ⟨_, rfl, _, rfl, ?_⟩) | ((with_reducible refine xadd_lst ?_); refine ⟨_, rfl, _, rfl, ?_, ?_⟩) | with_reducible refine rmul_int ?_ ?_ | with_reducible refine rmod_int ?_ ?_ | with_reducible refine rfdiv_int ?_ ?_ | with_reducible refine rpow_int ?_ ?_ | with_reducible refine xg_setL ?_ | refine ⟨_, _, _, _, rfl, rfl, rfl, rfl, ?_⟩ | with_reducible refine xg_name ?_ | with_reducible refine xg_tup rfl ?_ | with_reducible refine xgs_name ?_ | with_reducible refine xgs_nil ?_ | (with_reducible refine ⟨Nat.le_of_ble_eq_true rfl, ?_⟩) | (with_reducible refine ifdT (by decide) ?_) | (with_reducible refine ifdF (by decide) ?_) | (with_reducible refine ifnT (by decide) ?_) | (with_reducible refine ifnF (by decide) ?_) | (with_reducible refine ifbT (by decide) ?_) | (with_reducible refine ifbF (by decide) ?_) | fail))
section
variable {P : Program} {mg : Str → Option Value}
theorem at_p {A B : MO} {rest : Ga} {xs : List D} : (A :: B :: (rest ++ [MO.lst xs]))[rest.length + 2]? = some (.lst xs) := by
  rw [List.getElem?_cons_succ, List.getElem?_cons_succ]
  simp
theorem set_p {A B x : MO} {rest : Ga} {xs : List D} : (A :: B :: (rest ++ [MO.lst xs])).set (rest.length + 2) x = A :: B :: (rest ++ [x]) := by
  rw [List.set_cons_succ, List.set_cons_succ]
  simp
theorem ix_nat {n k : Nat} (h : k < n) : ixN n (k : Int) = some k := by
  unfold ixN
  rw [if_pos (by omega), if_pos (by omega)]
  rfl
/-- an event but for the bound of its value -/
def Ev.okV (nm : List Nat) (ns : List (List Nat)) : Ev → Bool
  | .set _ v _ => isName v
  | .snd q _ => decide (q ∈ ns) && decide (q ≠ nm)
  | .rcv _ p v _ => decide (p ∈ ns) && decide (p ≠ nm) && isName v
  | .chk => true
def Ev.val : Ev → Int
  | .set _ _ x => x
  | .snd _ x => x
  | .rcv _ _ _ x => x
  | .chk => 0
theorem okV_in {nm : List Nat} {ns : List (List Nat)} {ev : Ev} : ev.okIn nm ns = true ↔ ev.okV nm ns = true ∧ ev.val.natAbs < BIG.natAbs := by
  cases ev with
  | chk => exact ⟨fun _ => ⟨rfl, by decide⟩, fun _ => rfl⟩
  | _ =>
    unfold Ev.okIn Ev.okV Ev.val
    simp only [Bool.and_eq_true, decide_eq_true_eq]
def chg (ev : Ev) (x : Int) : Ev := match ev with
  | .set ip v _ => .set ip v x
  | .snd q _ => .snd q x
  | .rcv tk p v _ => .rcv tk p v x
  | .chk => .chk
theorem chg_ok {nm : List Nat} {ns : List (List Nat)} {ev : Ev} {x : Int} (h : ev.okV nm ns = true) : (chg ev x).okV nm ns = true := by
  cases ev <;> exact h
def chp (ev : Ev) (o : List Nat) : Ev := match ev with
  | .snd _ x => .snd o x
  | .rcv tk _ v x => .rcv tk o v x
  | e => e
theorem chp_ok {nm : List Nat} {ns : List (List Nat)} {ev : Ev} {o : List Nat} (h : ev.okV nm ns = true) (h1 : o ∈ ns) (h2 : o ≠ nm) : (chp ev o).okV nm ns = true := by
  cases ev with
  | snd q x =>
    show (decide (o ∈ ns) && decide (o ≠ nm)) = true
    rw [decide_eq_true h1, decide_eq_true h2]; rfl
  | rcv tk p v x =>
    unfold Ev.okV at h
    rw [Bool.and_eq_true] at h
    show (decide (o ∈ ns) && decide (o ≠ nm) && isName v) = true
    rw [decide_eq_true h1, decide_eq_true h2, h.2]; rfl
  | _ => exact h
theorem smallN {z : Int} (h : ¬ (10 : Int) ^ Int.toNat 30 ≤ (z.natAbs : Int)) : z.natAbs < BIG.natAbs := by
  rw [show (10 : Int) ^ Int.toNat 30 = 1000000000000000000000000000000 by decide] at h
  unfold BIG
  omega
theorem dl_L_moved {K : Frag} (T : Tx K mg) : DL_L_moved K (sp_L_moved K) := by
  rintro ds γ q e E0 lo1 lo2 ⟨n, A, B, rest, es, nm, ns, rfl, hne, hel, hok, hnd, hnm, hn2, hnl, rfl, hs, hq⟩
  refine dS_env (ρ' := [some (.loc 1), some (.tup (es.map Ev.d)), some (.str (S nm)), some (.lst (strsD ns)), none, none, none, none, none, none, none]) rfl ?_
  unfold t_L_moved
  have hp0 : 0 < es.length := List.length_pos_iff.mpr hne
  have fin : ∀ (es' : List Ev) (A' B' : MO), es'.length ≤ es.length → (∀ ev ∈ es', ev.okIn nm ns = true) → Strm n A' B' → Dr (A :: B :: rest).length q (.tup (es'.map Ev.d)) (A' :: B' :: rest) := fun es' A' B' h1 h2 h3 => .inl (hq es' A' B' h1 h2 h3)
  walk_at "GO"
  rw [List.length_map]
  refine ⟨n + 3, (es.length : Int), A, B, rest, rfl, by omega, by omega, rfl, hs, fun k0 A1 B1 k1 k2 hs1 => ?_⟩
  obtain ⟨k, rfl⟩ : ∃ k : Nat, k0 = k := ⟨k0.toNat, by omega⟩
  obtain ⟨ev, hev⟩ : ∃ ev, es[k]? = some ev := ⟨_, List.getElem?_eq_getElem (by omega)⟩
  have hevd : (es.map Ev.d)[k]? = some ev.d := by rw [List.getElem?_map, hev]; rfl
  have hevo := hok ev (List.mem_of_getElem? hev)
  walk_at "GO"
  rw [List.length_map]
  refine ⟨n + 2, (es.length : Int), A1, B1, rest, rfl, by omega, by omega, rfl, hs1, fun m0 A2 B2 m1 m2 hs2 => ?_⟩
  obtain ⟨m, rfl⟩ : ∃ m : Nat, m0 = m := ⟨m0.toNat, by omega⟩
  obtain ⟨ev2, hev2⟩ : ∃ ev, es[m]? = some ev := ⟨_, List.getElem?_eq_getElem (by omega)⟩
  have hevd2 : (es.map Ev.d)[m]? = some ev2.d := by rw [List.getElem?_map, hev2]; rfl
  have hevo2 := hok ev2 (List.mem_of_getElem? hev2)
  walk_at "GO"
  refine ⟨_, at_nat hevd, ?_⟩
  walk_at "GO"
  refine ⟨n + 1, 6, A2, B2, rest, rfl, by decide, by decide, rfl, hs2, fun way A3 B3 w1 w2 hs3 => ?_⟩
  have hs3' : Strm n A3 B3 := hs3.mono (by omega)
  have mem1 : ∀ ev ∈ es.take k ++ es.drop (k + 1), ev.okIn nm ns = true := fun x hx => by
    rcases List.mem_append.mp hx with hx | hx
    · exact hok x (List.mem_of_mem_take hx)
    · exact hok x (List.mem_of_mem_drop hx)
  walk_at "GO"
  refine ifd (fun c => ?_) (fun c => ?_)
  · walk_at "GO"
    · rw [cut_take, show ((k : Nat) : Int) + 1 = ((k + 1 : Nat) : Int) by omega, cut_drop, List.length_take, List.length_drop, List.length_map]
      omega
    rw [cut_take, show ((k : Nat) : Int) + 1 = ((k + 1 : Nat) : Int) by omega, cut_drop, ← List.map_take, ← List.map_drop, ← List.map_append]
    exact fin _ _ _ (by rw [List.length_append, List.length_take, List.length_drop]; omega) mem1 hs3'
  walk_at "GO"
  refine ifd (fun c => ?_) (fun c => ?_)
  · walk_at "GO"
    refine rc_listM (.inr (.inl rfl)) ?_
    rw [show (A3 :: B3 :: rest) ++ [MO.lst (es.map Ev.d)] = A3 :: B3 :: (rest ++ [.lst (es.map Ev.d)]) from rfl, show (A3 :: B3 :: rest).length = rest.length + 2 from rfl]
    walk_at "GO"
    refine xix_lst ⟨_, vw_loc at_p, _, at_nat hevd2, ?_⟩
    walk_at "GO"
    refine xix_lst ⟨_, vw_loc at_p, _, at_nat hevd, ?_⟩
    walk_at "GO"
    refine ⟨_, dgs_cons (is := []) (js := []) (dg_setL ?_)⟩
    walk_at "GO"
    refine ⟨_, _, _, k, rfl, at_p, rfl, ix_nat (by rw [List.length_map]; omega), ?_⟩
    rw [set_p]
    refine dgs_cons (is := []) (js := []) (dg_setL ?_)
    walk_at "GO"
    refine ⟨_, _, _, m, rfl, at_p, rfl, ix_nat (by rw [List.length_set, List.length_map]; omega), ?_⟩
    rw [set_p]
    refine dgs_nil ?_
    walk_at "GO"
    refine rc_tuple (.inl (vw_loc at_p)) ?_
    rw [← List.map_set, ← List.map_set]
    refine dr_keep (γ := A3 :: B3 :: rest) (strm_lo hs hs3' lo1 (by simp)) (loL_map ev_lo _) (hq ((es.set k ev2).set m ev) A3 B3 (by rw [List.length_set, List.length_set]; exact Nat.le_refl _) (fun x hx => ?_) hs3')
    rcases List.mem_or_eq_of_mem_set hx with hx | rfl
    · rcases List.mem_or_eq_of_mem_set hx with hx | rfl
      · exact hok x hx
      · exact hevo2
    · exact hevo
  refine xs_next ?_
  refine xs_cut (fun ρ' γ' => ρ' = [some (.loc 1), some (.tup (es.map Ev.d)), some (.str (S nm)), some (.lst (strsD ns)), some (.int (k : Nat)), some (.int (m : Nat)), some ev.d, some (.int way), none, none, none] ∧ γ' = A3 :: B3 :: rest) ?_ ?_
  · walk_at "GO"
    refine ifd (fun c => ?_) (fun c => ?_)
    · walk_at "GO"
      rw [List.length_map]
      refine ifd (fun c => ?_) (fun c => ?_)
      · obtain ⟨ev3, hev3⟩ : ∃ ev, es[k + 1]? = some ev := ⟨_, List.getElem?_eq_getElem (by omega)⟩
        have hevd3 : (es.map Ev.d)[k + 1]? = some ev3.d := by rw [List.getElem?_map, hev3]; rfl
        have hevo3 := hok ev3 (List.mem_of_getElem? hev3)
        walk_at "GO"
        refine ⟨_, by rw [show ((k : Nat) : Int) + 1 = ((k + 1 : Nat) : Int) by omega]; exact at_nat hevd3, ?_⟩
        walk_at "GO"
        · rw [cut_take, List.length_take, List.length_map]
          show _ + 2 ≤ _
          omega
        · rw [cut_take, show ((k : Nat) : Int) + 2 = ((k + 2 : Nat) : Int) by omega, cut_drop, List.length_append, List.length_take, List.length_drop, List.length_map]
          show _ + 2 + _ ≤ _
          omega
        rw [cut_take, show ((k : Nat) : Int) + 2 = ((k + 2 : Nat) : Int) by omega, cut_drop, show List.take k (es.map Ev.d) ++ [ev3.d, ev.d] ++ List.drop (k + 2) (es.map Ev.d) = (es.take k ++ [ev3, ev] ++ es.drop (k + 2)).map Ev.d by simp [List.map_take, List.map_drop]]
        refine fin _ _ _ ?_ (fun x hx => ?_) hs3'
        · rw [List.length_append, List.length_append, List.length_take, List.length_drop]
          show _ + 2 + _ ≤ _
          omega
        · rcases List.mem_append.mp hx with hx | hx
          · rcases List.mem_append.mp hx with hx | hx
            · exact hok x (List.mem_of_mem_take hx)
            · rcases List.mem_cons.mp hx with rfl | hx
              · exact hevo3
              · cases List.mem_singleton.mp hx
                exact hevo
          · exact hok x (List.mem_of_mem_drop hx)
      · walk_at "GO"
        exact ⟨rfl, rfl⟩
    · walk_at "GO"
      exact ⟨rfl, rfl⟩
  rintro ρ' γ' ⟨rfl, rfl⟩
  have hevV := (okV_in.mp hevo).1
  refine xs_cut (fun ρ' γ' => ∃ ev' : Ev, ∃ A4 B4 x9 x10, ρ' = [some (.loc 1), some (.tup (es.map Ev.d)), some (.str (S nm)), some (.lst (strsD ns)), some (.int (k : Nat)), some (.int (m : Nat)), some ev'.d, some (.int way), none, x9, x10] ∧ γ' = A4 :: B4 :: rest ∧ ev'.okV nm ns = true ∧ Strm n A4 B4) ?_ ?_
  · have listed4 : ∀ (x d : Int), 0 ≤ d → d < 4 → ∃ y, atI [D.int (x + 1), .int 0, .int (-x), .int 17] d = some (.int y) := by
      intro x d d0 d1
      rcases (show d = 0 ∨ d = 1 ∨ d = 2 ∨ d = 3 by omega) with rfl | rfl | rfl | rfl
      · exact ⟨_, rfl⟩
      · exact ⟨_, rfl⟩
      · exact ⟨_, rfl⟩
      · exact ⟨_, rfl⟩
    have hfn := filter_ne hnd hnm
    cases ev with
    | set ip v x =>
      rw [show (Ev.set ip v x).d = D.tup [.str (S (if ip = true then wInp else wSet)), .str (S v), .int x] from rfl]
      cases ip
      all_goals
        walk_at "GO"
        refine ifd (fun c => ?_) (fun c => ?_)
      all_goals
        walk_at "GO"
      · exact ⟨.set false v x, A3, B3, _, _, rfl, rfl, hevV, hs3'⟩
      · exact ⟨.set false v x, A3, B3, _, _, rfl, rfl, hevV, hs3'⟩
      · exact ⟨.set true v x, A3, B3, _, _, rfl, rfl, hevV, hs3'⟩
      · exact ⟨.set true v x, A3, B3, _, _, rfl, rfl, hevV, hs3'⟩
    | chk =>
      rw [show Ev.chk.d = D.tup [.str (S wChk)] from rfl]
      walk_at "GO"
      refine ifd (fun c => ?_) (fun c => ?_)
      · walk_at "GO"
        exact ⟨.chk, A3, B3, _, _, rfl, rfl, hevV, hs3'⟩
      · walk_at "GO"
        exact ⟨.chk, A3, B3, _, _, rfl, rfl, hevV, hs3'⟩
    | snd q x =>
      rw [show (Ev.snd q x).d = D.tup [.str (S wSend), .str (S q), .int x] from rfl]
      walk_at "GO"
      refine ifd (fun c => ?_) (fun c => ?_)
      · walk_at "GO"
        refine ⟨n, 4, A3, B3, rest, rfl, by decide, by decide, rfl, hs3, fun d A4 B4 d0 d1 hs4 => ?_⟩
        obtain ⟨y, hy⟩ := listed4 x d d0 d1
        refine xix_lst ⟨_, rfl, _, hy, ?_⟩
        walk_at "GO"
        · exact Nat.le_of_ble_eq_true rfl
        exact ⟨chg (Ev.snd q x) y, A4, B4, _, _, rfl, rfl, chg_ok hevV, hs4⟩
      · walk_at "GO"
        refine xe_lcF ns (fun o => .str (S o)) (fun o => .str (S o)) (fun o => decide (o ≠ nm)) (by simp) ?_
        walk_at "GO"
        refine ⟨rfl, by omega, fun o ho => ?_, ?_⟩
        · walk_at "GO"
          refine iteb (fun c => ⟨by simpa using c, ?_⟩) (fun c => ⟨by simpa using c, rfl⟩)
          walk_at "GO"
          exact ⟨rfl, rfl⟩
        walk_at "GO"
        rw [List.length_map]
        refine ⟨n, ((ns.filter fun o => decide (o ≠ nm)).length : Int), A3, B3, rest, rfl, by omega, by omega, rfl, hs3, fun d A4 B4 d0 d1 hs4 => ?_⟩
        obtain ⟨j, rfl⟩ : ∃ j : Nat, d = j := ⟨d.toNat, by omega⟩
        obtain ⟨o, ho⟩ : ∃ o, (ns.filter fun o => decide (o ≠ nm))[j]? = some o := ⟨_, List.getElem?_eq_getElem (by omega)⟩
        have hom := List.mem_filter.mp (List.mem_of_getElem? ho)
        have hon : o ≠ nm := of_decide_eq_true hom.2
        refine xix_lst ⟨_, rfl, .str (S o), at_nat (by rw [List.getElem?_map, ho]; rfl), ?_⟩
        walk_at "GO"
        · exact Nat.le_of_ble_eq_true rfl
        exact ⟨chp (Ev.snd q x) o, A4, B4, _, _, rfl, rfl, chp_ok hevV hom.1 hon, hs4⟩
    | rcv tk p v x =>
      rw [show (Ev.rcv tk p v x).d = D.tup [.str (S (if tk = true then wTake else wRcv)), .str (S p), .str (S v), .int x] from rfl]
      cases tk
      · walk_at "GO"
        refine ifd (fun c => ?_) (fun c => ?_)
        · walk_at "GO"
          refine ⟨n, 4, A3, B3, rest, rfl, by decide, by decide, rfl, hs3, fun d A4 B4 d0 d1 hs4 => ?_⟩
          obtain ⟨y, hy⟩ := listed4 x d d0 d1
          refine xix_lst ⟨_, rfl, _, hy, ?_⟩
          walk_at "GO"
          · exact Nat.le_of_ble_eq_true rfl
          exact ⟨chg (Ev.rcv false p v x) y, A4, B4, _, _, rfl, rfl, chg_ok hevV, hs4⟩
        · walk_at "GO"
          refine xe_lcF ns (fun o => .str (S o)) (fun o => .str (S o)) (fun o => decide (o ≠ nm)) (by simp) ?_
          walk_at "GO"
          refine ⟨rfl, by omega, fun o ho => ?_, ?_⟩
          · walk_at "GO"
            refine iteb (fun c => ⟨by simpa using c, ?_⟩) (fun c => ⟨by simpa using c, rfl⟩)
            walk_at "GO"
            exact ⟨rfl, rfl⟩
          walk_at "GO"
          rw [List.length_map]
          refine ⟨n, ((ns.filter fun o => decide (o ≠ nm)).length : Int), A3, B3, rest, rfl, by omega, by omega, rfl, hs3, fun d A4 B4 d0 d1 hs4 => ?_⟩
          obtain ⟨j, rfl⟩ : ∃ j : Nat, d = j := ⟨d.toNat, by omega⟩
          obtain ⟨o, ho⟩ : ∃ o, (ns.filter fun o => decide (o ≠ nm))[j]? = some o := ⟨_, List.getElem?_eq_getElem (by omega)⟩
          have hom := List.mem_filter.mp (List.mem_of_getElem? ho)
          have hon : o ≠ nm := of_decide_eq_true hom.2
          refine xix_lst ⟨_, rfl, .str (S o), at_nat (by rw [List.getElem?_map, ho]; rfl), ?_⟩
          walk_at "GO"
          · exact Nat.le_of_ble_eq_true rfl
          exact ⟨chp (Ev.rcv false p v x) o, A4, B4, _, _, rfl, rfl, chp_ok hevV hom.1 hon, hs4⟩
      · walk_at "GO"
        refine ifd (fun c => ?_) (fun c => ?_)
        · walk_at "GO"
          refine ⟨n, 4, A3, B3, rest, rfl, by decide, by decide, rfl, hs3, fun d A4 B4 d0 d1 hs4 => ?_⟩
          obtain ⟨y, hy⟩ := listed4 x d d0 d1
          refine xix_lst ⟨_, rfl, _, hy, ?_⟩
          walk_at "GO"
          · exact Nat.le_of_ble_eq_true rfl
          exact ⟨chg (Ev.rcv true p v x) y, A4, B4, _, _, rfl, rfl, chg_ok hevV, hs4⟩
        · walk_at "GO"
          refine xe_lcF ns (fun o => .str (S o)) (fun o => .str (S o)) (fun o => decide (o ≠ nm)) (by simp) ?_
          walk_at "GO"
          refine ⟨rfl, by omega, fun o ho => ?_, ?_⟩
          · walk_at "GO"
            refine iteb (fun c => ⟨by simpa using c, ?_⟩) (fun c => ⟨by simpa using c, rfl⟩)
            walk_at "GO"
            exact ⟨rfl, rfl⟩
          walk_at "GO"
          rw [List.length_map]
          refine ⟨n, ((ns.filter fun o => decide (o ≠ nm)).length : Int), A3, B3, rest, rfl, by omega, by omega, rfl, hs3, fun d A4 B4 d0 d1 hs4 => ?_⟩
          obtain ⟨j, rfl⟩ : ∃ j : Nat, d = j := ⟨d.toNat, by omega⟩
          obtain ⟨o, ho⟩ : ∃ o, (ns.filter fun o => decide (o ≠ nm))[j]? = some o := ⟨_, List.getElem?_eq_getElem (by omega)⟩
          have hom := List.mem_filter.mp (List.mem_of_getElem? ho)
          have hon : o ≠ nm := of_decide_eq_true hom.2
          refine xix_lst ⟨_, rfl, .str (S o), at_nat (by rw [List.getElem?_map, ho]; rfl), ?_⟩
          walk_at "GO"
          · exact Nat.le_of_ble_eq_true rfl
          exact ⟨chp (Ev.rcv true p v x) o, A4, B4, _, _, rfl, rfl, chp_ok hevV hom.1 hon, hs4⟩
  rintro ρ' γ' ⟨ev', A4, B4, x9, x10, rfl, rfl, hv', hs4⟩
  refine xs_cut (fun ρ' γ' => ∃ ev2 : Ev, ρ' = [some (.loc 1), some (.tup (es.map Ev.d)), some (.str (S nm)), some (.lst (strsD ns)), some (.int (k : Nat)), some (.int (m : Nat)), some ev2.d, some (.int way), none, x9, x10] ∧ γ' = A4 :: B4 :: rest ∧ ev2.okIn nm ns = true) ?_ ?_
  · cases ev' with
    | chk =>
      rw [show Ev.chk.d = D.tup [.str (S wChk)] from rfl]
      walk_at "GO"
      · exact ⟨by decide, by decide, by decide⟩
      exact ⟨.chk, rfl, rfl, rfl⟩
    | set ip v x =>
      rw [show (Ev.set ip v x).d = D.tup [.str (S (if ip = true then wInp else wSet)), .str (S v), .int x] from rfl]
      walk_at "GO"
      · exact ⟨by decide, by decide, by decide⟩
      refine ifd (fun c => ?_) (fun c => ?_)
      · walk_at "GO"
        refine ⟨_, at_nat hevd, ?_⟩
        exact ⟨ev, rfl, rfl, hevo⟩
      · walk_at "GO"
        exact ⟨Ev.set ip v x, rfl, rfl, okV_in.mpr ⟨hv', smallN c⟩⟩
    | snd q x =>
      rw [show (Ev.snd q x).d = D.tup [.str (S wSend), .str (S q), .int x] from rfl]
      walk_at "GO"
      · exact ⟨by decide, by decide, by decide⟩
      refine ifd (fun c => ?_) (fun c => ?_)
      · walk_at "GO"
        refine ⟨_, at_nat hevd, ?_⟩
        exact ⟨ev, rfl, rfl, hevo⟩
      · walk_at "GO"
        exact ⟨Ev.snd q x, rfl, rfl, okV_in.mpr ⟨hv', smallN c⟩⟩
    | rcv tk p v x =>
      rw [show (Ev.rcv tk p v x).d = D.tup [.str (S (if tk = true then wTake else wRcv)), .str (S p), .str (S v), .int x] from rfl]
      walk_at "GO"
      · exact ⟨by decide, by decide, by decide⟩
      refine ifd (fun c => ?_) (fun c => ?_)
      · walk_at "GO"
        refine ⟨_, at_nat hevd, ?_⟩
        exact ⟨ev, rfl, rfl, hevo⟩
      · walk_at "GO"
        exact ⟨Ev.rcv tk p v x, rfl, rfl, okV_in.mpr ⟨hv', smallN c⟩⟩
  rintro ρ' γ' ⟨ev2, rfl, rfl, hv2⟩
  walk_at "GO"
  · rw [cut_take, List.length_take, List.length_map]
    show _ + 1 ≤ _
    omega
  · rw [cut_take, show ((k : Nat) : Int) + 1 = ((k + 1 : Nat) : Int) by omega, cut_drop, List.length_append, List.length_take, List.length_drop, List.length_map]
    show _ + 1 + _ ≤ _
    omega
  rw [cut_take, show ((k : Nat) : Int) + 1 = ((k + 1 : Nat) : Int) by omega, cut_drop, show List.take k (es.map Ev.d) ++ [ev2.d] ++ List.drop (k + 1) (es.map Ev.d) = (es.take k ++ [ev2] ++ es.drop (k + 1)).map Ev.d by simp [List.map_take, List.map_drop]]
  refine fin _ _ _ ?_ (fun x hx => ?_) hs4
  · rw [List.length_append, List.length_append, List.length_take, List.length_drop]
    show _ + 1 + _ ≤ _
    omega
  · rcases List.mem_append.mp hx with hx | hx
    · rcases List.mem_append.mp hx with hx | hx
      · exact hok x (List.mem_of_mem_take hx)
      · cases List.mem_singleton.mp hx
        exact hv2
    · exact hok x (List.mem_of_mem_drop hx)
end
end K31

set_option Elab.async false
set_option linter.all false
set_option maxRecDepth 100000
set_option maxHeartbeats 4000000
namespace K31
open PySem PySem.Spec PyProof.Rows L2 DL
local macro_rules | `(tactic| walk_at "GO") => `(tactic| repeat' (first | with_reducible refine xs_seq ?_ | with_reducible refine xs_set ?_ | with_reducible refine xs_asg ?_ | with_reducible refine xs_if ?_ | with_reducible refine xs_ret ?_ | with_reducible refine xs_next ?_ | with_reducible refine xs_expr ?_ | with_reducible refine xs_fld ?_ | with_reducible refine xs_par ?_ | with_reducible refine xs_retN ?_ | with_reducible refine xs_brk ?_ | with_reducible refine xp_nil ?_ | with_reducible refine xp_cons ?_ | with_reducible refine xe_disp ?_ | with_reducible refine xe_dispM ?_ | with_reducible refine xs_cont ?_ | with_reducible refine da_nil ?_ | with_reducible refine da_cons ?_ | with_reducible refine de_int ?_ | with_reducible refine de_str ?_ | with_reducible refine de_bl ?_ | with_reducible refine de_non ?_ | with_reducible refine de_ty ?_ | ((with_reducible refine xe_var ?_); refine ⟨_, rfl, ?_⟩) | with_reducible refine de_op ?_ | with_reducible refine de_un ?_ | with_reducible refine de_call ?_ | with_reducible refine de_cb ?_ | with_reducible refine de_sl ?_ | with_reducible refine do_none ?_ | with_reducible refine do_some ?_ | with_reducible refine de_if ?_ | with_reducible refine de_andV ?_ | with_reducible refine de_orV ?_ | with_reducible refine de_notV ?_ | with_reducible refine de_chain ?_ | with_reducible refine dt_test ?_ | with_reducible refine dt_B ?_ | with_reducible refine dt_and ?_ | with_reducible refine dt_or ?_ | with_reducible refine dt_not ?_ | (with_reducible refine xe_tup ?_) | (with_reducible refine xe_lst ?_) | (with_reducible refine xe_lstM ?_) | (with_reducible refine de_meth ?_) | with_reducible refine xs_dput ?_ | with_reducible refine xs_daug ?_ | with_reducible refine de_dget ?_ | with_reducible refine de_dgt1 ?_ | with_reducible refine de_dgt2 ?_ | with_reducible refine de_din ?_ | with_reducible refine de_dnotin ?_ | with_reducible refine de_dnewK ?_ | with_reducible refine de_dnewT ?_ | with_reducible refine de_revL ?_ | (with_reducible refine de_bm ?_) | (with_reducible refine de_bm0 ?_) | (with_reducible refine ⟨isTy_str, ?_⟩) | (with_reducible refine ⟨xty_lst ⟨_, rfl⟩, ?_⟩) | (with_reducible refine ⟨xty_lst ⟨_, vw_loc at_0⟩, ?_⟩) | (with_reducible refine rm_append at_0 ?_ ?_) | (with_reducible refine rm_pop at_0 ?_) | (with_reducible refine rc_len (.inl (vw_loc at_0)) ?_) | (with_reducible refine ⟨xty_lst ⟨_, vw_loc at_1⟩, ?_⟩) | (with_reducible refine rm_append at_1 ?_ ?_) | (with_reducible refine rm_pop at_1 ?_) | (with_reducible refine rc_len (.inl (vw_loc at_1)) ?_) | (with_reducible refine ⟨xty_lst ⟨_, vw_loc at_2⟩, ?_⟩) | (with_reducible refine rm_append at_2 ?_ ?_) | (with_reducible refine rm_pop at_2 ?_) | (with_reducible refine rc_len (.inl (vw_loc at_2)) ?_) | with_reducible refine radA_tup ?_ ?_ | with_reducible refine radA_G ?_ | with_reducible refine rslU_tup ?_ | with_reducible refine rslU_G ?_ | with_reducible refine radd_int ?_ | with_reducible refine radd_S ?_ ?_ | with_reducible refine rsub_int ?_ | with_reducible refine req_int ?_ | with_reducible refine rne_int ?_ | with_reducible refine req_S ?_ | with_reducible refine rne_S ?_ | with_reducible refine rlt_int ?_ | with_reducible refine rle_int ?_ | with_reducible refine rgt_int ?_ | with_reducible refine rge_int ?_ | with_reducible refine rneg_int ?_ | with_reducible refine rin_sgn ?_ | with_reducible refine rni_sgn ?_ | with_reducible refine rc_len_S ?_ ?_ | with_reducible refine rc_int_bl ?_ | with_reducible refine rc_str_int ?_ ?_ | with_reducible refine rc_str_str ?_ | with_reducible refine rc_max2 ?_ | with_reducible refine rc_abs ?_ | with_reducible refine req_bl ?_ | with_reducible refine rne_bl ?_ | with_reducible refine rltg_i ?_ | with_reducible refine rleg_i ?_ | with_reducible refine rgtg_i ?_ | with_reducible refine rgeg_i ?_ | with_reducible refine rltg_b ?_ | with_reducible refine rleg_b ?_ | with_reducible refine rgtg_b ?_ | with_reducible refine rgeg_b ?_ | with_reducible refine rist ?_ | with_reducible refine rntt ?_ | with_reducible refine dt_truth ?_ | ((with_reducible refine xc_isi ?_); refine ⟨_, true, rfl, rfl, ?_⟩) | ((with_reducible refine xc_isi ?_); refine ⟨_, false, rfl, rfl, ?_⟩) | with_reducible refine di_str ?_ | with_reducible refine di_list ?_ | with_reducible refine di_tup ?_ | with_reducible refine di_rng1 ?_ | with_reducible refine di_rng2 ?_ | with_reducible refine ift ?_ | with_reducible refine iff_ ?_ | with_reducible refine ifnt ?_ | with_reducible refine ifnf ?_ | with_reducible refine rin_strs sq_c ?_ | with_reducible refine rni_strs sq_c ?_ | with_reducible refine rin_strs sq_t ?_ | with_reducible refine rni_strs sq_t ?_ | with_reducible refine rin_strs sq_l ?_ | with_reducible refine rni_strs sq_l ?_ | with_reducible refine rin_strs (sq_v rfl) ?_ | with_reducible refine rni_strs (sq_v rfl) ?_ | ((with_reducible refine rin_seq sq_c ?_ ?_ ?_); rfl; rfl) | ((with_reducible refine rin_seq sq_t ?_ ?_ ?_); rfl; rfl) | ((with_reducible refine rin_seq sq_l ?_ ?_ ?_); rfl; rfl) | ((with_reducible refine rin_seq (sq_v rfl) ?_ ?_ ?_); rfl; rfl) | ((with_reducible refine rni_seq sq_c ?_ ?_ ?_); rfl; rfl) | ((with_reducible refine rni_seq sq_t ?_ ?_ ?_); rfl; rfl) | ((with_reducible refine rni_seq sq_l ?_ ?_ ?_); rfl; rfl) | ((with_reducible refine rni_seq (sq_v rfl) ?_ ?_ ?_); rfl; rfl) | (with_reducible refine xix_tup ?_) | ((with_reducible refine xc_len ?_); refine ⟨_, sq_c, ?_⟩) | ((with_reducible refine xc_len ?_); refine ⟨_, sq_t, ?_⟩) | ((with_reducible refine xc_len ?_); refine ⟨_, sq_l, ?_⟩) | ((with_reducible refine xc_len ?_); refine ⟨_, (sq_v rfl), ?_⟩) | (with_reducible refine rm_count ?_) | (with_reducible refine ⟨_, rfl, ?_⟩) | (with_reducible refine ⟨_, at_h0, ?_⟩) | (with_reducible refine ⟨_, at_h1, ?_⟩) | (with_reducible refine ⟨_, at_h2, ?_⟩) | (with_reducible refine ⟨_, at_h3, ?_⟩) | (with_reducible refine ⟨_, .inl rfl, ?_⟩) | (with_reducible refine ⟨_, .inr rfl, ?_⟩) | (with_reducible refine ⟨_, _, rfl, ?_⟩) | ((with_reducible refine xix_lst ?_); refine ⟨_, rfl, _, rfl, ?_⟩) | ((with_reducible refine xadd_lst ?_); refine ⟨_, rfl, _, rfl, ?_, ?_⟩) | with_reducible refine rmul_int ?_ ?_ | with_reducible refine rmod_int ?_ ?_ | with_reducible refine rfdiv_int ?_ ?_ | with_reducible refine rpow_int ?_ ?_ | with_reducible refine xg_setL ?_ | refine ⟨_, _, _, _, rfl, rfl, rfl, rfl, ?_⟩ | with_reducible refine xg_name ?_ | with_reducible refine xg_tup rfl ?_ | with_reducible refine xgs_name ?_ | with_reducible refine xgs_nil ?_ | (with_reducible refine ⟨Nat.le_of_ble_eq_true rfl, ?_⟩) | (with_reducible refine ifdT (by decide) ?_) | (with_reducible refine ifdF (by decide) ?_) | (with_reducible refine ifnT (by decide) ?_) | (with_reducible refine ifnF (by decide) ?_) | (with_reducible refine ifbT (by decide) ?_) | (with_reducible refine ifbF (by decide) ?_) | fail))
section
variable {P : Program} {mg : Str → Option Value}
theorem eqD_msg {n : List Nat} {i : Int} : eqD (.lst [.str (S wMsg), .str (S n), .int i]) (.lst [.str (S wMsg), .str (S n), .int i]) = true := by
  show (decide (S wMsg = S wMsg) && (decide (S n = S n) && (decide (i = i) && true))) = true
  simp
theorem lnkEv_le {cs : Chan} {nm : List Nat} : ∀ {es : List Ev} {i : Nat} {t : Cnt} {j : Nat}, lnkEv cs nm es i t = .error j → j ≤ i + es.length
  | [], _, _, _, h => by cases h
  | ev :: es, i, t, j, h => by
    rw [List.length_cons]
    have step : ∀ {t'}, lnkEv cs nm es (i + 1) t' = .error j → j ≤ i + (es.length + 1) := fun h => by
      have := lnkEv_le h
      omega
    cases ev with
    | rcv tk p v x =>
      unfold lnkEv at h
      split at h
      · split at h
        · split at h
          · cases h
          · rename_i h2
            cases h
            exact step h2
        · cases h
          omega
      · cases h
        omega
    | snd q x => exact step h
    | set ip v x => exact step h
    | chk => exact step h
theorem lnkR_in {cs : Chan} : ∀ {R : List Row} {n : List Nat} {i : Nat}, lnkR cs R = .error (n, i) → ∃ r ∈ R, r.1 = n ∧ i ≤ 1 + r.2.length
  | [], _, _, h => by cases h
  | r :: R, n, i, h => by
    unfold lnkR at h
    split at h
    · rename_i j hj
      cases h
      exact ⟨r, List.mem_cons_self, rfl, lnkEv_le hj⟩
    · split at h
      · cases h
      · rename_i h2
        cases h
        obtain ⟨x, hx, h1⟩ := lnkR_in h2
        exact ⟨x, List.mem_cons_of_mem _ hx, h1⟩
theorem msg_oks {n : List Nat} {i : Nat} (h : isName n = true) (hi : i ≤ 1000000) : (D.lst [.str (S wMsg), .str (S n), .int (i : Nat)]).oks 12 = true := by
  have h1 : (D.str (S wMsg)).oks 11 = true := by decide +kernel
  have h2 : (D.int (i : Nat)).oks 11 = true := by
    unfold D.oks
    exact decide_eq_true (Nat.lt_of_le_of_lt (show ((i : Nat) : Int).natAbs ≤ 1000000 by omega) (by decide))
  have h3 : (D.str (S n)).oks 11 = true := name_oks h
  unfold D.oks oksL oksL oksL
  simp [h1, h2, h3]
  exact rfl
theorem judge_msg {R : List Row} (h : Good R) : (∃ n i, msgsOf R = .error (n, i) ∧ isName n = true ∧ i ≤ 10001 ∧ recD (judge (fzL (R.map rowD))) = .lst [.str (S wMsg), .str (S n), .int (i : Nat)]) ∨ ((∃ l, msgsOf R = .ok l) ∧ (recD (judge (fzL (R.map rowD))) = .non ∨ ∃ n i, recD (judge (fzL (R.map rowD))) = .lst [.str (S wOrder), n, .int i])) := by
  rw [judge_good h]
  cases hm : msgsOf R with
  | error e =>
    obtain ⟨n, i⟩ := e
    obtain ⟨r, hr, e1, e2⟩ := lnkR_in hm
    exact .inl ⟨n, i, rfl, by rw [← e1]; exact h.2.2 r hr, by have := (h.2.1.2.2 r hr).1; omega, rfl⟩
  | ok l =>
    refine .inr ⟨⟨l, rfl⟩, ?_⟩
    simp only
    split
    · exact .inr ⟨_, _, rfl⟩
    · exact .inl rfl
theorem dl_law {K : Frag} (T : Tx K mg) (X : Te P K mg) : DL_law K := by
  intro a ns hl
  refine dS_env (ρ' := [some (.ref a), some (.loc 1), none, none, none, none, none, none, none, none, none]) rfl ?_
  unfold t_law
  refine xs_cut (fun ρ' γ' => ∃ nm A B, ρ' = [some (.ref a), some (.loc 1), some (.lst (strsD nm)), none, none, none, none, none, none, none, none] ∧ γ' = [A, B] ∧ 2 ≤ nm.length ∧ nm.length ≤ 40 ∧ nm.Nodup ∧ (∀ l ∈ nm, isName l = true) ∧ Strm 3000 A B) ?_ ?_
  · walk_at "GO"
    refine ⟨4002, 4, _, _, [], rfl, by decide, by decide, rfl, ⟨ns, 0, 0, 0, rfl, rfl, by decide, by decide, by decide, by decide, by decide⟩, fun d A B d0 d1 hs => ?_⟩
    obtain ⟨k, rfl⟩ : ∃ k : Nat, d = k := ⟨d.toNat, by omega⟩
    walk_at "GO"
    refine ⟨3000, A, B, [], 2 + k, by simp, by omega, rfl, hs.mono (by omega), fun nm A B h1 h2 h3 hs => ?_⟩
    walk_at "GO"
    exact ⟨nm, A, B, rfl, rfl, by omega, by omega, h3, fun l hl => (word_name (h2 l hl)).1, hs⟩
  rintro ρ' γ' ⟨nm, A, B, rfl, rfl, hn2, hnl, hnd, hnm, hs⟩
  have hn0 : nm ≠ [] := fun z => by rw [z] at hn2; simp at hn2
  refine xs_cut (fun ρ' γ' => ∃ R : List Row, ∃ A B, ρ' = [some (.ref a), some (.loc 1), some (.lst (strsD nm)), some (.lst (R.map rowD)), none, none, none, none, none, none, none] ∧ γ' = [A, B] ∧ Good R ∧ namesOf R = nm ∧ (∀ r ∈ R, r.2.length ≤ 41) ∧ Strm 2000 A B) ?_ ?_
  · walk_at "GO"
    refine ⟨2600, 39, A, B, [], rfl, by decide, by decide, rfl, hs.mono (by omega), fun d A B d0 d1 hs => ?_⟩
    obtain ⟨k, rfl⟩ : ∃ k : Nat, d = k := ⟨d.toNat, by omega⟩
    walk_at "GO"
    refine ⟨2000, A, B, [], nm, 2 + k, by simp, hnm, hnd, by omega, by omega, by omega, rfl, hs.mono (by omega), fun R qs A B hd hs => ?_⟩
    walk_at "GO"
    exact ⟨R, A, B, rfl, rfl, drw_good hd hn0 hnl hnd hnm (by omega), drw_names hd, fun r hr => by have := drw_len hd r hr; omega, hs⟩
  rintro ρ' γ' ⟨R, A, B, rfl, rfl, hG, hN, hrl, hs⟩
  refine xs_cut (fun ρ' γ' => ∃ R : List Row, ∃ x4 x5 x6 x7 A B, ρ' = [some (.ref a), some (.loc 1), some (.lst (strsD nm)), some (.lst (R.map rowD)), x4, x5, x6, x7, none, none, none] ∧ γ' = [A, B] ∧ Good R ∧ Strm 1000 A B) ?_ ?_
  · refine xs_for [4] ?_
    walk_at "GO"
    refine ⟨1999, 3, A, B, [], rfl, by decide, by decide, rfl, hs, fun d A B d0 d1 hs => ?_⟩
    obtain ⟨k, rfl⟩ : ∃ k : Nat, d = k := ⟨d.toNat, by omega⟩
    walk_at "GO"
    refine ⟨by omega, by omega, fun i ρ' γ' => ∃ R : List Row, ∃ x4 x5 x6 x7 A B, ρ' = [some (.ref a), some (.loc 1), some (.lst (strsD nm)), some (.lst (R.map rowD)), x4, x5, x6, x7, none, none, none] ∧ γ' = [A, B] ∧ Good R ∧ namesOf R = nm ∧ (∀ r ∈ R, r.2.length ≤ 41) ∧ Strm (1000 + 10 * (k - i)) A B, ⟨R, _, _, _, _, A, B, rfl, rfl, hG, hN, hrl, hs.mono (by omega)⟩, ?_, ?_⟩
    · rintro i y ρ' γ' hy ⟨R, x4, x5, x6, x7, A, B, rfl, rfl, hG, hN, hrl, hs⟩
      have hik := (rng_get hy).1
      rw [Int.toNat_natCast] at hik
      have hRl : R.length = nm.length := by rw [← hN]; unfold namesOf; rw [List.length_map]
      refine dg_name ?_
      walk_at "GO"
      rw [List.length_map]
      refine ⟨1000 + 10 * (k - (i + 1)) + 9, (R.length : Int), A, B, [], rfl, by omega, by omega, rfl, hs.mono (by omega), fun d A B d0 d1 hs => ?_⟩
      obtain ⟨j, rfl⟩ : ∃ j : Nat, d = j := ⟨d.toNat, by omega⟩
      obtain ⟨r, hr⟩ : ∃ r, R[j]? = some r := ⟨_, List.getElem?_eq_getElem (by omega)⟩
      have hrm := List.mem_of_getElem? hr
      have hrl1 := hrl r hrm
      have hre : ∀ ev ∈ r.2, ev.okIn r.1 nm = true := fun ev hev => by rw [← hN]; exact (hG.2.1.2.2 r hrm).2 ev hev
      have hrn : r.1 ∈ nm := by rw [← hN]; exact List.mem_map_of_mem hrm
      walk_at "GO"
      refine xix_lst ⟨_, rfl, rowD r, at_nat (by rw [List.getElem?_map, hr]; rfl), ?_⟩
      rw [show rowD r = .tup [.str (S r.1), .tup (r.2.map Ev.d)] from rfl]
      refine ⟨_, dg_tup rfl (dgs_two ?_)⟩
      walk_at "GO"
      rw [List.length_map]
      refine ifd ?pos (fun c => ?neg)
      case neg =>
        walk_at "GO"
        exact ⟨R, _, _, _, _, A, B, rfl, rfl, hG, hN, hrl, hs.mono (by omega)⟩
      intro c
      walk_at "GO"
      refine rsl_lst rfl ?_
      rw [cut_take]
      walk_at "GO"
      refine ⟨1000 + 10 * (k - (i + 1)), A, B, [], r.2, r.1, nm, rfl, fun z => by rw [z] at c; exact absurd c (by decide), by omega, hre, hnd, hrn, hn2, by omega, rfl, hs.mono (by omega), fun es A B h1 h2 hs => ?_⟩
      walk_at "GO"
      · rw [List.length_take, List.length_map]
        show _ + 1 ≤ _
        omega
      refine rsl_lst rfl ?_
      rw [show ((j : Nat) : Int) + 1 = ((j + 1 : Nat) : Int) by omega, cut_drop]
      walk_at "GO"
      · rw [List.length_append, List.length_take, List.length_drop, List.length_map]
        show _ + 1 + _ ≤ _
        omega
      have hset : R.set j (r.1, es) = R.take j ++ [(r.1, es)] ++ R.drop (j + 1) := by
        rw [List.set_eq_take_append_cons_drop, if_pos (by omega)]
        simp
      have hrw : List.take j (R.map rowD) ++ [D.tup [D.str (S r.1), D.tup (es.map Ev.d)]] ++ List.drop (j + 1) (R.map rowD) = (R.set j (r.1, es)).map rowD := by
        rw [hset]
        simp [rowD, List.map_take, List.map_drop]
      rw [hrw]
      have hN2 : namesOf (R.set j (r.1, es)) = nm := by
        rw [← hN]
        unfold namesOf
        rw [List.map_set]
        have h1 : (R.map (·.1))[j]? = some r.1 := by rw [List.getElem?_map, hr]; rfl
        obtain ⟨h2, h3⟩ := List.getElem?_eq_some_iff.mp h1
        rw [← h3, List.set_getElem_self]
      have hmem : ∀ x ∈ R.set j (r.1, es), x ∈ R ∨ x = (r.1, es) := fun x hx => List.mem_or_eq_of_mem_set hx
      refine ⟨R.set j (r.1, es), _, _, _, _, A, B, rfl, rfl, ⟨fun z => ?_, ⟨by rw [List.length_set]; omega, by rw [hN2]; exact hnd, fun x hx => ?_⟩, fun x hx => ?_⟩, hN2, fun x hx => ?_, hs⟩
      · have := congrArg List.length z
        rw [List.length_set, List.length_nil] at this
        omega
      · rw [hN2]
        rcases hmem x hx with hx | rfl
        · rw [← hN]
          exact hG.2.1.2.2 x hx
        · exact ⟨Nat.le_trans h1 (by omega), h2⟩
      · rcases hmem x hx with hx | rfl
        · exact hG.2.2 x hx
        · exact hG.2.2 r hrm
      · rcases hmem x hx with hx | rfl
        · exact hrl x hx
        · exact Nat.le_trans h1 hrl1
    · rintro ρ' γ' ⟨R, x4, x5, x6, x7, A, B, rfl, rfl, hG, hN, hrl, hs⟩
      exact ⟨R, _, _, _, _, A, B, rfl, rfl, hG, hs.mono (by omega)⟩
  rintro ρ' γ' ⟨R, x4, x5, x6, x7, A, B, rfl, rfl, hG, hs⟩
  have hj := judge_msg hG
  walk_at "GO"
  refine ⟨R, rfl, hG.2.1, ?_⟩
  walk_at "GO"
  refine xs_for [9] ?_
  walk_at "GO"
  refine ⟨.lst (R.map rowD), rfl, hG.lst, ?_⟩
  walk_at "GO"
  refine ⟨fun i ρ' γ' => ∃ x9 x10, ρ' = [some (.ref a), some (.loc 1), some (.lst (strsD nm)), some (.lst (R.map rowD)), x4, x5, x6, x7, some (optM (msgsOf R)), x9, x10] ∧ γ' = [A, B], ⟨_, _, rfl, rfl⟩, ?_, ?_⟩
  · rintro i y ρ' γ' hy ⟨x9, x10, rfl, rfl⟩
    obtain ⟨ys, hys, hyo, hyF⟩ : ∃ ys, (y = .lst ys ∨ y = .tup ys) ∧ okRows ys = true ∧ fzL ys = fzL (R.map rowD) := by
      rcases List.mem_cons.mp (List.mem_of_getElem? hy) with rfl | hy
      · exact ⟨_, .inl rfl, hG.rows, rfl⟩
      cases List.mem_singleton.mp hy
      refine ⟨lsL (R.map rowD), .inl ?_, hG.rowsL, lsL_fz _⟩
      unfold D.ls; rfl
    refine dg_name ?_
    walk_at "GO"
    refine ⟨y, ys, rfl, hys, hyo, ?_⟩
    rw [hyF]
    generalize recD (judge (fzL (R.map rowD))) = J at *
    walk_at "GO"
    refine rnotn ?_
    rcases hj with ⟨n, i', e1, hn, hi, rfl⟩ | ⟨⟨l, e1⟩, hJ⟩
    · rw [e1, show optM (.error (n, i') : Except EvN (List (EvN × EvN))) = .lst [.str (S wMsg), .str (S n), .int (i' : Nat)] from rfl]
      have hdo := msg_oks hn (show i' ≤ 1000000 by omega)
      refine ⟨_, rfl, iteb (fun _ => ?_) (fun c => by cases c)⟩
      walk_at "GO"
      refine ⟨_, _, rfl, hdo, hdo, ?_⟩
      rw [eqD_msg]
      walk_at "GO"
      refine risn ?_
      refine ⟨_, rfl, iteb (fun c => by cases c) (fun _ => ?_)⟩
      walk_at "GO"
      exact rfl
    · rw [e1, show optM (.ok l : Except EvN (List (EvN × EvN))) = D.non from rfl]
      refine ⟨_, rfl, iteb (fun c => by cases c) (fun _ => ?_)⟩
      walk_at "GO"
      refine risn ?_
      refine ⟨_, rfl, iteb (fun _ => ?_) (fun c => by cases c)⟩
      rcases hJ with e | ⟨n, i', e⟩
      · rw [e]
        walk_at "GO"
        refine rnotn ?_
        refine ⟨_, rfl, iteb (fun c => by cases c) (fun _ => ?_)⟩
        walk_at "GO"
        exact rfl
      · rw [e]
        walk_at "GO"
        refine rnotn ?_
        refine ⟨_, rfl, iteb (fun _ => ?_) (fun c => by cases c)⟩
        walk_at "GO"
        exact rfl
  · rintro ρ' γ' ⟨x9, x10, rfl, rfl⟩
    walk_at "GO"
    exact rfl
end
end K31

set_option Elab.async false
set_option linter.all false
set_option maxRecDepth 100000
set_option maxHeartbeats 4000000
namespace K31
open PySem PySem.Spec PyProof.Rows L2 DL
theorem pk_frozen {P : Program} {w : World} {K : Frag} {mg : Str → Option Value} {base : Heap} {k : Nat} (T : Tx K mg) (s_frozen : SpD) (C_frozen : Pk P w K mg base k ("frozen", none) ["thing"] s_frozen) {sp : SpD} (len : ∀ ds γ q e, sp ds γ q e → ds.length = 1) (h : DL_frozen K s_frozen sp)
    (F : ∃ fd, FunD K d_frozen.name d_frozen.qual d_frozen.params d_frozen.body d_frozen.scope (d_frozen.dvs K) (d_frozen.kws K) (He.fAd K d_frozen.at_) fd) : Pk P w K mg base (k + 1) ("frozen", none) ["thing"] sp := by
  obtain ⟨fd, F⟩ := F
  have nd := sc_frozen.nd
  refine ⟨fd, fn_dl F sc_frozen (t_frozen K s_frozen) len (fun cdv A outer s H E hr gd tk po => ?_) h, F.kp, F.bindsN fun _ _ _ _ _ _ us hl => match us, hl with | [_], _ => rfl⟩
  have hu := huD hr
  exact (pss_cons (ps_if (pt_val (pe_callB call_isiT (by rfl) T.b_isinstance (by decide +kernel) (pa_cons (pv 0) (pa_cons (pe_tup (pa_cons (pe_bltn (by rfl) T.b_tuple (by decide +kernel) rfl) (pa_cons (pe_bltn (by rfl) T.b_list (by decide +kernel) rfl) pa_nil))) pa_nil)))) (pss_one (ps_ret (pe_callTy call_tuple_of (by rfl) T.b_tuple (by decide +kernel) (pa_cons (pe_lc (own := [("part", 1)]) (g := (gName 1)) (tt := tYes) rfl nd (pi_any (pi_list (pv 0)) (pi_tup (pv 0))) (blkOk_by (own := [("part", 1)]) (N := N_frozen) (sc := defScope (top 5)) (by decide +kernel)) (fun _ _ _ _ _ => (pg_name (i := 1) nd rfl (Or.inl rfl))) (fun _ _ _ _ _ => pts_nil) (fun _ _ _ _ _ => (callP L2.takes0 C_frozen hr gd rfl T.g_frozen (pa_cons (pv 1) pa_nil)))) pa_nil)))) pss_nil) (pss_one (ps_ret (pv 0))))
theorem pk_is_integer {P : Program} {w : World} {K : Frag} {mg : Str → Option Value} {base : Heap} {k : Nat} (T : Tx K mg) {sp : SpD} (len : ∀ ds γ q e, sp ds γ q e → ds.length = 1) (h : DL_is_integer K sp)
    (F : ∃ fd, FunD K d_is_integer.name d_is_integer.qual d_is_integer.params d_is_integer.body d_is_integer.scope (d_is_integer.dvs K) (d_is_integer.kws K) (He.fAd K d_is_integer.at_) fd) : Pk P w K mg base (k + 1) ("is_integer", none) ["thing"] sp := by
  obtain ⟨fd, F⟩ := F
  have nd := sc_is_integer.nd
  refine ⟨fd, fn_dl F sc_is_integer (t_is_integer K) len (fun cdv A outer s H E hr gd tk po => ?_) h, F.kp, F.bindsN fun _ _ _ _ _ _ us hl => match us, hl with | [_], _ => rfl⟩
  have hu := huD hr
  exact (pss_one (ps_ret (pe_and (pe_callB call_isi (by rfl) T.b_isinstance (by decide +kernel) (pa_cons (pv 0) (pa_cons (pe_bltn (by rfl) T.b_int (by decide +kernel) rfl) pa_nil))) (pe_one (pe_not (pe_callB call_isi (by rfl) T.b_isinstance (by decide +kernel) (pa_cons (pv 0) (pa_cons (pe_bltn (by rfl) T.b_bool (by decide +kernel) rfl) pa_nil))))))))
theorem pk_is_small {P : Program} {w : World} {K : Frag} {mg : Str → Option Value} {base : Heap} {k : Nat} (T : Tx K mg) (C_is_integer : Pk P w K mg base k ("is_integer", none) ["thing"] (sp_is_integer K)) {sp : SpD} (len : ∀ ds γ q e, sp ds γ q e → ds.length = 1) (h : DL_is_small K sp)
    (F : ∃ fd, FunD K d_is_small.name d_is_small.qual d_is_small.params d_is_small.body d_is_small.scope (d_is_small.dvs K) (d_is_small.kws K) (He.fAd K d_is_small.at_) fd) : Pk P w K mg base (k + 1) ("is_small", none) ["thing"] sp := by
  obtain ⟨fd, F⟩ := F
  have nd := sc_is_small.nd
  refine ⟨fd, fn_dl F sc_is_small (t_is_small K) len (fun cdv A outer s H E hr gd tk po => ?_) h, F.kp, F.bindsN fun _ _ _ _ _ _ us hl => match us, hl with | [_], _ => rfl⟩
  have hu := huD hr
  exact (pss_one (ps_ret (pe_and (callP tk C_is_integer hr gd rfl T.g_is_integer (pa_cons (pv 0) pa_nil)) (pe_one (pe_cmpR op_lt (pe_callB call_abs (by rfl) T.b_abs (by decide +kernel) (pa_cons (pv 0) pa_nil)) (pe_op op_pow pe_int pe_int) (nomark _))))))
theorem pk_is_name {P : Program} {w : World} {K : Frag} {mg : Str → Option Value} {base : Heap} {k : Nat} (T : Tx K mg) {sp : SpD} (len : ∀ ds γ q e, sp ds γ q e → ds.length = 1) (h : DL_is_name K sp)
    (F : ∃ fd, FunD K d_is_name.name d_is_name.qual d_is_name.params d_is_name.body d_is_name.scope (d_is_name.dvs K) (d_is_name.kws K) (He.fAd K d_is_name.at_) fd) : Pk P w K mg base (k + 1) ("is_name", none) ["thing"] sp := by
  obtain ⟨fd, F⟩ := F
  obtain ⟨_, c_LETTERS⟩ := T.c_LETTERS
  obtain ⟨_, c_LONGEST_NAME⟩ := T.c_LONGEST_NAME
  have nd := sc_is_name.nd
  refine ⟨fd, fn_dl F sc_is_name (t_is_name K) len (fun cdv A outer s H E hr gd tk po => ?_) h, F.kp, F.bindsN fun _ _ _ _ _ _ us hl => match us, hl with | [_], _ => rfl⟩
  have hu := huD hr
  exact (pss_cons (ps_if (PW.pt (pw_or (pt_not (pt_val (pe_callB call_isi (by rfl) T.b_isinstance (by decide +kernel) (pa_cons (pv 0) (pa_cons (pe_bltn (by rfl) T.b_str (by decide +kernel) rfl) pa_nil))))) (pw_or (pt_not (pt_chain op_le op_le pe_int (pe_callB call_len (by rfl) T.b_len (by decide +kernel) (pa_cons (pv 0) pa_nil)) (pe_glob rfl c_LONGEST_NAME ⟨_, rfl⟩))) (pw_or1 (pt_cmpR (op_inG (hu65 hr)) (pv 0) (pe_glob rfl T.g_RESERVED rfl) (by rfl)))))) (pss_one (ps_ret pe_bl)) pss_nil) (pss_one (ps_ret (pe_callB (cr_all rfl) (by rfl) T.b_all (by decide +kernel) (pa_cons (pe_lc (own := [("letter", 1)]) (g := (gName 1)) (tt := tYes) rfl nd (pi_str (pv 0)) (blkOk_by (own := [("letter", 1)]) (N := N_is_name) (sc := defScope (top 8)) (by decide +kernel)) (fun _ _ _ _ _ => (pg_name (i := 1) nd rfl (Or.inl rfl))) (fun _ _ _ _ _ => pts_nil) (fun _ _ _ _ _ => (pe_cmpR (op_inG (by exact hu65 hr)) (pv 1) (pe_glob rfl c_LETTERS ⟨_, rfl⟩) (by rfl)))) pa_nil)))))
theorem pk_check_rows {P : Program} {w : World} {K : Frag} {mg : Str → Option Value} {base : Heap} {j k : Nat} (T : Tx K mg) (C_is_name : Pk P w K mg base k ("is_name", none) ["thing"] (sp_is_name K)) (E_BadRecord : PkE P w K mg base j "BadRecord" ["reason", "name", "number"] (sp_frozen K)) (hx : j + 1 ≤ k) {sp : SpD} (len : ∀ ds γ q e, sp ds γ q e → ds.length = 1) (h : DL_check_rows K sp)
    (F : ∃ fd, FunD K d_check_rows.name d_check_rows.qual d_check_rows.params d_check_rows.body d_check_rows.scope (d_check_rows.dvs K) (d_check_rows.kws K) (He.fAd K d_check_rows.at_) fd) : Pk P w K mg base (k + 1) ("check_rows", none) ["rows"] sp := by
  obtain ⟨fd, F⟩ := F
  obtain ⟨_, c_MOST_PROCESSES⟩ := T.c_MOST_PROCESSES
  have nd := sc_check_rows.nd
  refine ⟨fd, fn_dl F sc_check_rows (t_check_rows K) len (fun cdv A outer s H E hr gd tk po => ?_) h, F.kp, F.bindsN fun _ _ _ _ _ _ us hl => match us, hl with | [_], _ => rfl⟩
  have hu := huD hr
  exact (pss_cons (ps_if (pt_cmpR (op_eqG hr.units) (pe_callB call_len (by rfl) T.b_len (by decide +kernel) (pa_cons (pv 0) pa_nil)) pe_int (nomark _)) (pss_one (raiseP tk E_BadRecord hx hr gd rfl (by rfl) T.g_BadRecord (pa_cons pe_str (pa_cons pe_non (pa_cons pe_int pa_nil))))) pss_nil) (pss_cons (ps_set (i := 1) nd rfl (Or.inl rfl) (pe_lst pa_nil)) (pss_one (ps_for po rfl (pi_enumC (by rfl) T.b_enumerate (pa_cons (pv 0) pa_nil)) (pg_tup rfl (pgs_cons (pg_name (i := 2) nd rfl (Or.inl rfl)) (pgs_cons (pg_name (i := 3) nd rfl (Or.inl rfl)) pgs_nil))) (pss_cons (ps_if (PW.pt (pw_or (pt_cmpR (op_eqG hr.units) (pv 2) (pe_glob rfl c_MOST_PROCESSES ⟨_, rfl⟩) (nomark _)) (pw_or (pt_not (pt_val (pe_callB call_isi (by rfl) T.b_isinstance (by decide +kernel) (pa_cons (pv 3) (pa_cons (pe_bltn (by rfl) T.b_tuple (by decide +kernel) rfl) pa_nil))))) (pw_or1 (pt_cmpR (op_neG hr.units) (pe_callB call_len (by rfl) T.b_len (by decide +kernel) (pa_cons (pv 3) pa_nil)) pe_int (nomark _)))))) (pss_one (raiseP tk E_BadRecord hx hr gd rfl (by rfl) T.g_BadRecord (pa_cons pe_str (pa_cons pe_non (pa_cons (pv 2) pa_nil))))) pss_nil) (pss_cons (ps_if (PW.pt (pw_or (pt_not (pt_val (callP tk C_is_name hr gd rfl T.g_is_name (pa_cons (pe_ix ix_seq (pv 3) pe_int (fun _ _ => rfl)) pa_nil)))) (pw_or (pt_cmpR (op_inG (hu65 hr)) (pe_ix ix_seq (pv 3) pe_int (fun _ _ => rfl)) (pv 1) (by rfl)) (pw_or1 (pt_not (pt_val (pe_callB call_isi (by rfl) T.b_isinstance (by decide +kernel) (pa_cons (pe_ix ix_seq (pv 3) pe_int (fun _ _ => rfl)) (pa_cons (pe_bltn (by rfl) T.b_tuple (by decide +kernel) rfl) pa_nil))))))))) (pss_one (raiseP tk E_BadRecord hx hr gd rfl (by rfl) T.g_BadRecord (pa_cons pe_str (pa_cons pe_non (pa_cons (pv 2) pa_nil))))) pss_nil) (pss_one (ps_expr (pe_bm PySem.F.plainAttrs_list PySem.F.slot_list_append PySem.F.type_list_append mt_append (pv 1) (pa_cons (pe_ix ix_seq (pv 3) pe_int (fun _ _ => rfl)) pa_nil))))))))))
theorem pk_fits {P : Program} {w : World} {K : Frag} {mg : Str → Option Value} {base : Heap} {k : Nat} (T : Tx K mg) (C_is_name : Pk P w K mg base k ("is_name", none) ["thing"] (sp_is_name K)) (C_is_small : Pk P w K mg base k ("is_small", none) ["thing"] (sp_is_small K)) {sp : SpD} (len : ∀ ds γ q e, sp ds γ q e → ds.length = 4) (h : DL_fits K sp)
    (F : ∃ fd, FunD K d_fits.name d_fits.qual d_fits.params d_fits.body d_fits.scope (d_fits.dvs K) (d_fits.kws K) (He.fAd K d_fits.at_) fd) : Pk P w K mg base (k + 1) ("fits", none) ["kind", "part", "name", "names"] sp := by
  obtain ⟨fd, F⟩ := F
  have nd := sc_fits.nd
  refine ⟨fd, fn_dl F sc_fits (t_fits K) len (fun cdv A outer s H E hr gd tk po => ?_) h, F.kp, F.bindsN fun _ _ _ _ _ _ us hl => match us, hl with | [_, _, _, _], _ => rfl⟩
  have hu := huD hr
  exact (pss_cons (ps_if (pt_cmpR (op_eqG hr.units) (pv 0) pe_str (nomark _)) (pss_one (ps_ret (callP tk C_is_name hr gd rfl T.g_is_name (pa_cons (pv 1) pa_nil)))) pss_nil) (pss_cons (ps_if (pt_cmpR (op_eqG hr.units) (pv 0) pe_str (nomark _)) (pss_one (ps_ret (callP tk C_is_small hr gd rfl T.g_is_small (pa_cons (pv 1) pa_nil)))) pss_nil) (pss_one (ps_ret (pe_and (pe_callB call_isi (by rfl) T.b_isinstance (by decide +kernel) (pa_cons (pv 1) (pa_cons (pe_bltn (by rfl) T.b_str (by decide +kernel) rfl) pa_nil))) (pe_and (pe_cmpR (op_inG (hu65 hr)) (pv 1) (pv 3) (by rfl)) (pe_one (pe_cmpR (op_neG hr.units) (pv 1) (pv 2) (nomark _)))))))))
theorem pk_is_form {P : Program} {w : World} {K : Frag} {mg : Str → Option Value} {base : Heap} {k : Nat} (T : Tx K mg) (Y : Ty K w) (C_fits : Pk P w K mg base k ("fits", none) ["kind", "part", "name", "names"] (sp_fits K)) {sp : SpD} (len : ∀ ds γ q e, sp ds γ q e → ds.length = 3) (h : DL_is_form K sp)
    (F : ∃ fd, FunD K d_is_form.name d_is_form.qual d_is_form.params d_is_form.body d_is_form.scope (d_is_form.dvs K) (d_is_form.kws K) (He.fAd K d_is_form.at_) fd) : Pk P w K mg base (k + 1) ("is_form", none) ["event", "name", "names"] sp := by
  obtain ⟨fd, F⟩ := F
  obtain ⟨_, _, kd_FORMS⟩ := Y.kd_FORMS
  have nd := sc_is_form.nd
  refine ⟨fd, fn_dl F sc_is_form (t_is_form K) len (fun cdv A outer s H E hr gd tk po => ?_) h, F.kp, F.bindsN fun _ _ _ _ _ _ us hl => match us, hl with | [_, _, _], _ => rfl⟩
  have hu := huD hr
  exact (pss_cons (ps_if (PW.pt (pw_or (pt_not (pt_val (pe_callB call_isi (by rfl) T.b_isinstance (by decide +kernel) (pa_cons (pv 0) (pa_cons (pe_bltn (by rfl) T.b_tuple (by decide +kernel) rfl) pa_nil))))) (pw_or (pt_cmpR (op_eqG hr.units) (pe_callB call_len (by rfl) T.b_len (by decide +kernel) (pa_cons (pv 0) pa_nil)) pe_int (nomark _)) (pw_or (pt_not (pt_val (pe_callB call_isi (by rfl) T.b_isinstance (by decide +kernel) (pa_cons (pe_ix ix_seq (pv 0) pe_int (fun _ _ => rfl)) (pa_cons (pe_bltn (by rfl) T.b_str (by decide +kernel) rfl) pa_nil))))) (pw_or1 (pt_cmpR (op_kni kd_FORMS) (pe_ix ix_seq (pv 0) pe_int (fun _ _ => rfl)) (pe_glob rfl T.g_FORMS rfl) (by rfl))))))) (pss_one (ps_ret pe_bl)) pss_nil) (pss_cons (ps_set (i := 3) nd rfl (Or.inl rfl) (pe_ix (ix_kd kd_FORMS) (pe_glob rfl T.g_FORMS rfl) (pe_ix ix_seq (pv 0) pe_int (fun _ _ => rfl)) (fun _ _ => rfl))) (pss_cons (ps_if (pt_cmpR (op_neG hr.units) (pe_callB call_len (by rfl) T.b_len (by decide +kernel) (pa_cons (pv 0) pa_nil)) (pe_op op_addG pe_int (pe_callB call_len (by rfl) T.b_len (by decide +kernel) (pa_cons (pv 3) pa_nil))) (nomark _)) (pss_one (ps_ret pe_bl)) pss_nil) (pss_one (ps_ret (pe_callB (cr_all rfl) (by rfl) T.b_all (by decide +kernel) (pa_cons (pe_lc (own := [("kind", 4), ("part", 5)]) (g := (gTup K 2 (gCons (gName 4) (gCons (gName 5) gNil)))) (tt := tYes) rfl nd (RZ.pi_zipA (by rfl) T.b_zip (pa_cons (pv 3) (pa_cons (pe_slice sl_G (pv 0) (po_some pe_int) po_none) pa_nil))) (blkOk_by (own := [("kind", 4), ("part", 5)]) (N := N_is_form) (sc := defScope (top 20)) (by decide +kernel)) (fun _ _ _ _ _ => (pg_tup rfl (pgs_cons (pg_name (i := 4) nd rfl (Or.inl rfl)) (pgs_cons (pg_name (i := 5) nd rfl (Or.inl rfl)) pgs_nil)))) (fun _ _ _ _ _ => pts_nil) (fun _ _ _ _ _ => (callP L2.takes0 C_fits hr gd rfl T.g_fits (pa_cons (pv 4) (pa_cons (pv 5) (pa_cons (pv 1) (pa_cons (pv 2) pa_nil))))))) pa_nil)))))))
theorem pk_check_events {P : Program} {w : World} {K : Frag} {mg : Str → Option Value} {base : Heap} {j k : Nat} (T : Tx K mg) (C_is_form : Pk P w K mg base k ("is_form", none) ["event", "name", "names"] (sp_is_form K)) (E_BadRecord : PkE P w K mg base j "BadRecord" ["reason", "name", "number"] (sp_frozen K)) (hx : j + 1 ≤ k) {sp : SpD} (len : ∀ ds γ q e, sp ds γ q e → ds.length = 1) (h : DL_check_events K sp)
    (F : ∃ fd, FunD K d_check_events.name d_check_events.qual d_check_events.params d_check_events.body d_check_events.scope (d_check_events.dvs K) (d_check_events.kws K) (He.fAd K d_check_events.at_) fd) : Pk P w K mg base (k + 1) ("check_events", none) ["rows"] sp := by
  obtain ⟨fd, F⟩ := F
  have nd := sc_check_events.nd
  refine ⟨fd, fn_dl F sc_check_events (t_check_events K) len (fun cdv A outer s H E hr gd tk po => ?_) h, F.kp, F.bindsN fun _ _ _ _ _ _ us hl => match us, hl with | [_], _ => rfl⟩
  have hu := huD hr
  exact (pss_cons (ps_setLc (i := 1) (own := [("name", 2), ("events", 3)]) (g := (gTup K 2 (gCons (gName 2) (gCons (gName 3) gNil)))) (tt := tYes) rfl nd rfl rfl (sw_true rfl rfl rfl (by decide +kernel)) (pi_tup (pv 0)) (blkOk_by (own := [("name", 2), ("events", 3)]) (N := N_check_events) (sc := defScope (top 21)) (by decide +kernel)) (fun _ _ _ _ _ => (pg_tup rfl (pgs_cons (pg_name (i := 2) nd rfl (Or.inl rfl)) (pgs_cons (pg_name (i := 3) nd rfl (Or.inl rfl)) pgs_nil)))) (fun _ _ _ _ _ => pts_nil) (fun _ _ _ _ _ => (pv 2))) (pss_one (ps_for po rfl (pi_tup (pv 0)) (pg_tup rfl (pgs_cons (pg_name (i := 2) nd rfl (Or.inl rfl)) (pgs_cons (pg_name (i := 3) nd rfl (Or.inl rfl)) pgs_nil))) (pss_one (ps_for po rfl (pi_enumF (by rfl) T.b_enumerate (pa_cons (pv 3) (pa_cons pe_int pa_nil))) (pg_tup rfl (pgs_cons (pg_name (i := 4) nd rfl (Or.inl rfl)) (pgs_cons (pg_name (i := 5) nd rfl (Or.inl rfl)) pgs_nil))) (pss_one (ps_if (pt_not (pt_val (callP tk C_is_form hr gd rfl T.g_is_form (pa_cons (pv 5) (pa_cons (pv 2) (pa_cons (pv 1) pa_nil)))))) (pss_one (raiseP tk E_BadRecord hx hr gd rfl (by rfl) T.g_BadRecord (pa_cons pe_str (pa_cons (pv 2) (pa_cons (pv 4) pa_nil))))) pss_nil)))))))
theorem pk_sends_of {P : Program} {w : World} {K : Frag} {mg : Str → Option Value} {base : Heap} {k : Nat} (T : Tx K mg) {sp : SpD} (len : ∀ ds γ q e, sp ds γ q e → ds.length = 1) (h : DL_sends_of K sp)
    (F : ∃ fd, FunD K d_sends_of.name d_sends_of.qual d_sends_of.params d_sends_of.body d_sends_of.scope (d_sends_of.dvs K) (d_sends_of.kws K) (He.fAd K d_sends_of.at_) fd) : Pk P w K mg base (k + 1) ("sends_of", none) ["rows"] sp := by
  obtain ⟨fd, F⟩ := F
  have nd := sc_sends_of.nd
  refine ⟨fd, fn_dl F sc_sends_of (t_sends_of K) len (fun cdv A outer s H E hr gd tk po => ?_) h, F.kp, F.bindsN fun _ _ _ _ _ _ us hl => match us, hl with | [_], _ => rfl⟩
  have hu := huD hr
  exact (pss_cons (ps_set (i := 1) nd rfl (Or.inl rfl) pe_dnewT) (pss_cons (ps_for po rfl (pi_tup (pv 0)) (pg_tup rfl (pgs_cons (pg_name (i := 2) nd rfl (Or.inl rfl)) (pgs_cons (pg_name (i := 3) nd rfl (Or.inl rfl)) pgs_nil))) (pss_one (ps_for po rfl (pi_enumF (by rfl) T.b_enumerate (pa_cons (pv 3) (pa_cons pe_int pa_nil))) (pg_tup rfl (pgs_cons (pg_name (i := 4) nd rfl (Or.inl rfl)) (pgs_cons (pg_name (i := 5) nd rfl (Or.inl rfl)) pgs_nil))) (pss_one (ps_if (pt_cmpR (op_eqG hr.units) (pe_ix ix_seq (pv 5) pe_int (fun _ _ => rfl)) pe_str (nomark _)) (pss_one (ps_expr (pe_bm PySem.F.plainAttrs_list PySem.F.slot_list_append PySem.F.type_list_append mt_append (pe_dset hu (pv 1) (pe_tup (pa_cons (pv 2) (pa_cons (pe_ix ix_seq (pv 5) pe_int (fun _ _ => rfl)) pa_nil))) (pe_lst pa_nil) ⟨rfl, by rfl, rfl, rfl⟩) (pa_cons (pe_tup (pa_cons (pv 4) (pa_cons (pe_ix ix_seq (pv 5) pe_int (fun _ _ => rfl)) pa_nil))) pa_nil)))) pss_nil))))) (pss_one (ps_ret (pv 1)))))
theorem pk_linked {P : Program} {w : World} {K : Frag} {mg : Str → Option Value} {base : Heap} {j k : Nat} (T : Tx K mg) (C_sends_of : Pk P w K mg base k ("sends_of", none) ["rows"] (sp_sends_of K)) (E_BadRecord : PkE P w K mg base j "BadRecord" ["reason", "name", "number"] (sp_frozen K)) (hx : j + 1 ≤ k) {sp : SpD} (len : ∀ ds γ q e, sp ds γ q e → ds.length = 1) (h : DL_linked K sp)
    (F : ∃ fd, FunD K d_linked.name d_linked.qual d_linked.params d_linked.body d_linked.scope (d_linked.dvs K) (d_linked.kws K) (He.fAd K d_linked.at_) fd) : Pk P w K mg base (k + 1) ("linked", none) ["rows"] sp := by
  obtain ⟨fd, F⟩ := F
  have nd := sc_linked.nd
  refine ⟨fd, fn_dl F sc_linked (t_linked K) len (fun cdv A outer s H E hr gd tk po => ?_) h, F.kp, F.bindsN fun _ _ _ _ _ _ us hl => match us, hl with | [_], _ => rfl⟩
  have hu := huD hr
  exact (pss_cons (ps_set (i := 1) nd rfl (Or.inl rfl) (callP tk C_sends_of hr gd rfl T.g_sends_of (pa_cons (pv 0) pa_nil))) (pss_cons (ps_set (i := 2) nd rfl (Or.inl rfl) pe_dnewT) (pss_cons (ps_for po rfl (pi_tup (pv 0)) (pg_tup rfl (pgs_cons (pg_name (i := 3) nd rfl (Or.inl rfl)) (pgs_cons (pg_name (i := 4) nd rfl (Or.inl rfl)) pgs_nil))) (pss_cons (ps_set (i := 5) nd rfl (Or.inl rfl) pe_dnewK) (pss_one (ps_for po rfl (pi_enumF (by rfl) T.b_enumerate (pa_cons (pv 4) (pa_cons pe_int pa_nil))) (pg_tup rfl (pgs_cons (pg_name (i := 6) nd rfl (Or.inl rfl)) (pgs_cons (pg_name (i := 7) nd rfl (Or.inl rfl)) pgs_nil))) (pss_one (ps_if (pt_cmpR (op_inG (hu65 hr)) (pe_ix ix_seq (pv 7) pe_int (fun _ _ => rfl)) (pe_glob rfl T.g_RECEIVING rfl) (by rfl)) (pss_cons (ps_set (i := 8) nd rfl (Or.inl rfl) (pe_ix ix_seq (pv 7) pe_int (fun _ _ => rfl))) (pss_cons (ps_set (i := 9) nd rfl (Or.inl rfl) (pe_dget2 hu (pv 5) (pv 8) pe_int ⟨rfl, by rfl, rfl, rfl⟩)) (pss_cons (ps_dput hu (pv 5) (pv 8) (pe_op op_addG (pv 9) pe_int) rfl) (pss_cons (ps_set (i := 10) nd rfl (Or.inl rfl) (pe_dget2 hu (pv 1) (pe_tup (pa_cons (pv 8) (pa_cons (pv 3) pa_nil))) (pe_lst pa_nil) ⟨rfl, by rfl, rfl, rfl⟩)) (pss_cons (ps_if (PW.pt (pw_or (pt_cmpR op_ge (pv 9) (pe_callB call_len (by rfl) T.b_len (by decide +kernel) (pa_cons (pv 10) pa_nil)) (nomark _)) (pw_or1 (pt_cmpR (op_neG hr.units) (pe_ix ix_seq (pe_ix ix_seq (pv 10) (pv 9) (fun _ _ => rfl)) pe_int (fun _ _ => rfl)) (pe_ix ix_seq (pv 7) pe_int (fun _ _ => rfl)) (nomark _))))) (pss_one (raiseP tk E_BadRecord hx hr gd rfl (by rfl) T.g_BadRecord (pa_cons pe_str (pa_cons (pv 3) (pa_cons (pv 6) pa_nil))))) pss_nil) (pss_cons (ps_dput hu (pv 2) (pe_tup (pa_cons (pv 8) (pa_cons (pe_ix ix_seq (pe_ix ix_seq (pv 10) (pv 9) (fun _ _ => rfl)) pe_int (fun _ _ => rfl)) pa_nil))) (pe_tup (pa_cons (pv 3) (pa_cons (pv 6) pa_nil))) rfl) (pss_one (ps_dput hu (pv 2) (pe_tup (pa_cons (pv 3) (pa_cons (pv 6) pa_nil))) (pe_tup (pa_cons (pv 8) (pa_cons (pe_ix ix_seq (pe_ix ix_seq (pv 10) (pv 9) (fun _ _ => rfl)) pe_int (fun _ _ => rfl)) pa_nil))) rfl)))))))) pss_nil)))))) (pss_one (ps_ret (pv 2))))))
theorem pk_executable {P : Program} {w : World} {K : Frag} {mg : Str → Option Value} {base : Heap} {k : Nat} (T : Tx K mg) {sp : SpD} (len : ∀ ds γ q e, sp ds γ q e → ds.length = 2) (h : DL_executable K sp)
    (F : ∃ fd, FunD K d_executable.name d_executable.qual d_executable.params d_executable.body d_executable.scope (d_executable.dvs K) (d_executable.kws K) (He.fAd K d_executable.at_) fd) : Pk P w K mg base (k + 1) ("executable", none) ["rows", "links"] sp := by
  obtain ⟨fd, F⟩ := F
  have nd := sc_executable.nd
  refine ⟨fd, fn_dl F sc_executable (t_executable K) len (fun cdv A outer s H E hr gd tk po => ?_) h, F.kp, F.bindsN fun _ _ _ _ _ _ us hl => match us, hl with | [_, _], _ => rfl⟩
  have hu := huD hr
  exact (pss_cons (ps_set (i := 2) nd rfl (Or.inl rfl) (pe_lst pa_nil)) (pss_cons (ps_setDc (i := 3) (own := [("name", 4), ("events", 5)]) (g := (gTup K 2 (gCons (gName 4) (gCons (gName 5) gNil)))) (tt := tYes) rfl nd rfl rfl (sw_trueD rfl rfl rfl (by decide +kernel)) (pi_tup (pv 0)) (blkOk_by (own := [("name", 4), ("events", 5)]) (N := N_executable) (sc := defScope (top 24)) (by decide +kernel)) (fun _ _ _ _ _ => (pg_tup rfl (pgs_cons (pg_name (i := 4) nd rfl (Or.inl rfl)) (pgs_cons (pg_name (i := 5) nd rfl (Or.inl rfl)) pgs_nil)))) (fun _ _ _ _ _ => pts_nil) (fun _ _ _ _ _ => (pv 4)) (fun _ _ _ _ _ => pe_int)) (pss_cons (ps_set (i := 6) nd rfl (Or.inl rfl) pe_bl) (pss_cons (ps_while po (pt_val (pv 6)) (pss_cons (ps_set (i := 6) nd rfl (Or.inl rfl) pe_bl) (pss_one (ps_for po rfl (pi_tup (pv 0)) (pg_tup rfl (pgs_cons (pg_name (i := 4) nd rfl (Or.inl rfl)) (pgs_cons (pg_name (i := 5) nd rfl (Or.inl rfl)) pgs_nil))) (pss_one (ps_while po (pt_cmpR op_lt (pe_dget hu (pv 3) (pv 4) (fun _ _ => rfl)) (pe_callB call_len (by rfl) T.b_len (by decide +kernel) (pa_cons (pv 5) pa_nil)) (nomark _)) (pss_cons (ps_set (i := 7) nd rfl (Or.inl rfl) (pe_tup (pa_cons (pv 4) (pa_cons (pe_op op_addG (pe_dget hu (pv 3) (pv 4) (fun _ _ => rfl)) pe_int) pa_nil)))) (pss_cons (ps_if (PW.pt (pw_and (pt_cmpR (op_inG (hu65 hr)) (pe_ix ix_seq (pe_ix ix_seq (pv 5) (pe_dget hu (pv 3) (pv 4) (fun _ _ => rfl)) (fun _ _ => rfl)) pe_int (fun _ _ => rfl)) (pe_glob rfl T.g_RECEIVING rfl) (by rfl)) (pw_and1 (pt_cmpR op_gt (pe_ix ix_seq (pe_dget hu (pv 1) (pv 7) (fun _ _ => rfl)) pe_int (fun _ _ => rfl)) (pe_dget hu (pv 3) (pe_ix ix_seq (pe_dget hu (pv 1) (pv 7) (fun _ _ => rfl)) pe_int (fun _ _ => rfl)) (fun _ _ => rfl)) (nomark _))))) (pss_one ps_break) pss_nil) (pss_cons (ps_daug hu (pv 3) (pv 4) pe_int in_add (fun _ _ _ => rfl)) (pss_cons (ps_expr (pe_bm PySem.F.plainAttrs_list PySem.F.slot_list_append PySem.F.type_list_append mt_append (pv 2) (pa_cons (pv 7) pa_nil))) (pss_one (ps_set (i := 6) nd rfl (Or.inl rfl) pe_bl)))))))))))) (pss_one (ps_ret (pv 2)))))))
theorem pk_Record_init {P : Program} {w : World} {K : Frag} {mg : Str → Option Value} {base : Heap} {j k : Nat} (T : Tx K mg) (C_frozen : Pk P w K mg base k ("frozen", none) ["thing"] (sp_frozen K)) (C_check_rows : Pk P w K mg base k ("check_rows", none) ["rows"] (sp_check_rows K)) (C_check_events : Pk P w K mg base k ("check_events", none) ["rows"] (sp_check_events K)) (C_linked : Pk P w K mg base k ("linked", none) ["rows"] (sp_linked K)) (C_executable : Pk P w K mg base k ("executable", none) ["rows", "links"] (sp_executable K)) (E_BadRecord : PkE P w K mg base j "BadRecord" ["reason", "name", "number"] (sp_frozen K)) (hx : j + 1 ≤ k) {sp : SpD} (len : ∀ ds γ q e, sp ds γ q e → ds.length = 2) (h : DL_Record_init K sp)
    (F : ∃ fd, FunD K d_Record_init.name d_Record_init.qual d_Record_init.params d_Record_init.body d_Record_init.scope (d_Record_init.dvs K) (d_Record_init.kws K) (He.fAd K d_Record_init.at_) fd) : Pk P w K mg base (k + 1) ("Record", some "__init__") ["self", "rows"] sp := by
  obtain ⟨fd, F⟩ := F
  have nd := sc_Record_init.nd
  refine ⟨fd, fn_dl F sc_Record_init (t_Record_init K) len (fun cdv A outer s H E hr gd tk po => ?_) h, F.kp, F.bindsN fun _ _ _ _ _ _ us hl => match us, hl with | [_, _], _ => rfl⟩
  have hu := huD hr
  exact (pss_cons (ps_fld (pv 0) (pe_callTy call_tuple_of (by rfl) T.b_tuple (by decide +kernel) (pa_cons (pe_lc (own := [("row", 2)]) (g := (gName 2)) (tt := tYes) rfl nd (pi_any (pi_list (pv 1)) (pi_tup (pv 1))) (blkOk_by (own := [("row", 2)]) (N := N_Record_init) (sc := defScope (inClass (top 25) 0)) (by decide +kernel)) (fun _ _ _ _ _ => (pg_name (i := 2) nd rfl (Or.inl rfl))) (fun _ _ _ _ _ => pts_nil) (fun _ _ _ _ _ => (callP L2.takes0 C_frozen hr gd rfl T.g_frozen (pa_cons (pv 2) pa_nil)))) pa_nil)) rfl) (pss_cons (ps_expr (callP tk C_check_rows hr gd rfl T.g_check_rows (pa_cons (pe_fld (pv 0) rfl) pa_nil))) (pss_cons (ps_expr (callP tk C_check_events hr gd rfl T.g_check_events (pa_cons (pe_fld (pv 0) rfl) pa_nil))) (pss_cons (ps_fld (pv 0) (pe_dc (own := [("name", 3), ("events", 4)]) (g := (gTup K 2 (gCons (gName 3) (gCons (gName 4) gNil)))) (tt := tYes) rfl nd (pi_tup (pe_fld (pv 0) rfl)) (blkOk_by (own := [("name", 3), ("events", 4)]) (N := N_Record_init) (sc := defScope (inClass (top 25) 0)) (by decide +kernel)) (fun _ _ _ _ _ => (pg_tup rfl (pgs_cons (pg_name (i := 3) nd rfl (Or.inl rfl)) (pgs_cons (pg_name (i := 4) nd rfl (Or.inl rfl)) pgs_nil)))) (fun _ _ _ _ _ => pts_nil) (fun _ _ _ _ _ => (pv 3)) (fun _ _ _ _ _ => (pv 4))) rfl) (pss_cons (ps_fld (pv 0) (callP tk C_linked hr gd rfl T.g_linked (pa_cons (pe_fld (pv 0) rfl) pa_nil)) rfl) (pss_cons (ps_fld (pv 0) (callP tk C_executable hr gd rfl T.g_executable (pa_cons (pe_fld (pv 0) rfl) (pa_cons (pe_fld (pv 0) rfl) pa_nil))) rfl) (pss_one (ps_for po rfl (pi_tup (pe_fld (pv 0) rfl)) (pg_tup rfl (pgs_cons (pg_name (i := 3) nd rfl (Or.inr rfl)) (pgs_cons (pg_name (i := 4) nd rfl (Or.inl rfl)) pgs_nil))) (pss_cons (ps_set (i := 5) nd rfl (Or.inl rfl) (pe_callB call_len (by rfl) T.b_len (by decide +kernel) (pa_cons (pe_lc (own := [("event", 6)]) (g := (gName 6)) (tt := (tTest (tOp (rEqG K) (tOp (rIx K) (tVar 6) (tC (.int 0))) (tVar 3)))) rfl nd (pi_list (pe_fld (pv 0) rfl)) (blkOk_by (own := [("event", 6)]) (N := N_Record_init) (sc := defScope (inClass (top 25) 0)) (by decide +kernel)) (fun _ _ _ _ _ => (pg_name (i := 6) nd rfl (Or.inl rfl))) (fun _ _ _ _ _ => (pts_one (pt_cmpR (op_eqG (by exact hr.units)) (pe_ix ix_seq (pv 6) pe_int (fun _ _ => rfl)) (pv 3) (nomark _)))) (fun _ _ _ _ _ => (pv 6))) pa_nil))) (pss_one (ps_if (pt_cmpR op_lt (pv 5) (pe_callB call_len (by rfl) T.b_len (by decide +kernel) (pa_cons (pv 4) pa_nil)) (nomark _)) (pss_one (raiseP tk E_BadRecord hx hr gd rfl (by rfl) T.g_BadRecord (pa_cons pe_str (pa_cons (pv 3) (pa_cons (pe_op op_addG (pv 5) pe_int) pa_nil))))) pss_nil)))))))))))
theorem pk_L_draw {P : Program} {w : World} {K : Frag} {mg : Str → Option Value} {base : Heap} {k : Nat} (T : Tx K mg) {sp : SpD} (len : ∀ ds γ q e, sp ds γ q e → ds.length = 2) (h : DL_L_draw K sp)
    (F : ∃ fd, FunD K d_L_draw.name d_L_draw.qual d_L_draw.params d_L_draw.body d_L_draw.scope (d_L_draw.dvs K) (d_L_draw.kws K) (He.fAd K d_L_draw.at_) fd) : Pk P w K mg base (k + 1) ("_law_draw", none) ["_law_stream", "_law_many"] sp := by
  obtain ⟨fd, F⟩ := F
  have nd := sc_L_draw.nd
  refine ⟨fd, fn_dl F sc_L_draw (t_L_draw K) len (fun cdv A outer s H E hr gd tk po => ?_) h, F.kp, F.bindsN fun _ _ _ _ _ _ us hl => match us, hl with | [_, _], _ => rfl⟩
  have hu := huD hr
  exact (pss_cons (ps_asg (pe_op op_addG (pe_ix ix_seq (pv 0) pe_int (fun _ _ => rfl)) pe_int) (pg_sub (pv 0) pe_int set_list)) (pss_cons (ps_if (PW.pt (pw_and (pt_cmpR (op_eqG hr.units) (pe_ix ix_seq (pv 0) pe_int (fun _ _ => rfl)) pe_int (nomark _)) (pw_and1 (pt_cmpR (op_neG hr.units) (pe_ix ix_seq (pv 0) pe_int (fun _ _ => rfl)) (pe_lst pa_nil) (nomark _))))) (pss_cons (ps_asg (pe_bm PySem.F.plainAttrs_list PySem.F.slot_list_pop PySem.F.type_list_pop mt_popAt (pe_ix ix_seq (pv 0) pe_int (fun _ _ => rfl)) (pa_cons pe_int pa_nil)) (pg_sub (pv 0) pe_int set_list)) (pss_one (ps_if (pt_cmpR op_lt (pe_ix ix_seq (pv 0) pe_int (fun _ _ => rfl)) (pe_op op_pow pe_int pe_int) (nomark _)) (pss_cons (ps_asg (pe_op op_modN (pe_op op_addG (pe_op op_addG (pe_op op_mulG (pe_ix ix_seq (pv 0) pe_int (fun _ _ => rfl)) pe_int) (pe_ix ix_seq (pv 0) pe_int (fun _ _ => rfl))) pe_int) pe_int) (pg_sub (pv 0) pe_int set_list)) (pss_one (ps_asg pe_int (pg_sub (pv 0) pe_int set_list)))) pss_nil))) pss_nil) (pss_cons (ps_if (pt_cmpR op_gt (pe_ix ix_seq (pv 0) pe_int (fun _ _ => rfl)) pe_int (nomark _)) (pss_cons (ps_set (i := 2) nd rfl (Or.inl rfl) (pe_op op_modN (pe_ix ix_seq (pv 0) pe_int (fun _ _ => rfl)) (pv 1))) (pss_cons (ps_asg (pe_op op_fdivA (pe_ix ix_seq (pv 0) pe_int (fun _ _ => rfl)) (pv 1)) (pg_sub (pv 0) pe_int set_list)) (pss_one (ps_ret (pv 2))))) pss_nil) (pss_cons (ps_set (i := 3) nd rfl (Or.inl rfl) (pe_op op_modN (pe_op op_pow (pe_op op_addG (pe_op op_addG (pe_ix ix_seq (pv 0) pe_int (fun _ _ => rfl)) (pe_op op_mulG pe_int (pe_ix ix_seq (pv 0) pe_int (fun _ _ => rfl)))) pe_int) pe_int) pe_int)) (pss_one (ps_ret (pe_op op_modN (pe_op op_modN (pe_op op_pow (pe_op op_addG (pe_op op_addG (pe_op op_mulG (pv 3) pe_int) (pe_op op_mulG (pe_op op_mulG pe_int (pe_ix ix_seq (pv 0) pe_int (fun _ _ => rfl))) (pe_ix ix_seq (pv 0) pe_int (fun _ _ => rfl)))) pe_int) pe_int) pe_int) (pv 1))))))))
theorem pk_L_value {P : Program} {w : World} {K : Frag} {mg : Str → Option Value} {base : Heap} {k : Nat} (T : Tx K mg) (C_L_draw : Pk P w K mg base k ("_law_draw", none) ["_law_stream", "_law_many"] (sp_L_draw K)) {sp : SpD} (len : ∀ ds γ q e, sp ds γ q e → ds.length = 1) (h : DL_L_value K sp)
    (F : ∃ fd, FunD K d_L_value.name d_L_value.qual d_L_value.params d_L_value.body d_L_value.scope (d_L_value.dvs K) (d_L_value.kws K) (He.fAd K d_L_value.at_) fd) : Pk P w K mg base (k + 1) ("_law_value", none) ["_law_stream"] sp := by
  obtain ⟨fd, F⟩ := F
  have nd := sc_L_value.nd
  refine ⟨fd, fn_dl F sc_L_value (t_L_value K) len (fun cdv A outer s H E hr gd tk po => ?_) h, F.kp, F.bindsN fun _ _ _ _ _ _ us hl => match us, hl with | [_], _ => rfl⟩
  have hu := huD hr
  exact (pss_cons (ps_set (i := 1) nd rfl (Or.inl rfl) (callP tk C_L_draw hr gd rfl T.g_L_draw (pa_cons (pv 0) (pa_cons pe_int pa_nil)))) (pss_cons (ps_if (pt_cmpR op_lt (pv 1) pe_int (nomark _)) (pss_one (ps_ret (pe_op op_sub (callP tk C_L_draw hr gd rfl T.g_L_draw (pa_cons (pv 0) (pa_cons pe_int pa_nil))) pe_int))) pss_nil) (pss_one (ps_ret (pe_ix ix_seq (pe_lst (pa_cons (pe_op op_sub (pe_op op_pow pe_int pe_int) pe_int) (pa_cons (pe_op op_sub pe_int (pe_op op_pow pe_int pe_int)) (pa_cons pe_int (pa_cons pe_int pa_nil))))) (callP tk C_L_draw hr gd rfl T.g_L_draw (pa_cons (pv 0) (pa_cons pe_int pa_nil))) (fun _ _ => rfl))))))
theorem pk_L_event {P : Program} {w : World} {K : Frag} {mg : Str → Option Value} {base : Heap} {k : Nat} (T : Tx K mg) (C_L_draw : Pk P w K mg base k ("_law_draw", none) ["_law_stream", "_law_many"] (sp_L_draw K)) (C_L_value : Pk P w K mg base k ("_law_value", none) ["_law_stream"] (sp_L_value K)) {sp : SpD} (len : ∀ ds γ q e, sp ds γ q e → ds.length = 4) (h : DL_L_event K sp)
    (F : ∃ fd, FunD K d_L_event.name d_L_event.qual d_L_event.params d_L_event.body d_L_event.scope (d_L_event.dvs K) (d_L_event.kws K) (He.fAd K d_L_event.at_) fd) : Pk P w K mg base (k + 1) ("_law_event", none) ["_law_stream", "_law_names", "_law_at", "_law_queues"] sp := by
  obtain ⟨fd, F⟩ := F
  have nd := sc_L_event.nd
  refine ⟨fd, fn_dl F sc_L_event (t_L_event K) len (fun cdv A outer s H E hr gd tk po => ?_) h, F.kp, F.bindsN fun _ _ _ _ _ _ us hl => match us, hl with | [_, _, _, _], _ => rfl⟩
  have hu := huD hr
  exact (pss_cons (ps_set (i := 4) nd rfl (Or.inr rfl) (pe_ix ix_seq (pv 1) (pv 2) (fun _ _ => rfl))) (pss_cons (ps_set (i := 5) nd rfl (Or.inl rfl) (callP tk C_L_draw hr gd rfl T.g_L_draw (pa_cons (pv 0) (pa_cons pe_int pa_nil)))) (pss_cons (ps_set (i := 6) nd rfl (Or.inl rfl) (callP tk C_L_value hr gd rfl T.g_L_value (pa_cons (pv 0) pa_nil))) (pss_cons (ps_set (i := 7) nd rfl (Or.inl rfl) (pe_ix ix_seq (pe_lst (pa_cons pe_str (pa_cons pe_str pa_nil))) (callP tk C_L_draw hr gd rfl T.g_L_draw (pa_cons (pv 0) (pa_cons pe_int pa_nil))) (fun _ _ => rfl))) (pss_cons (ps_setLc (i := 8) (own := [("_law_other", 9)]) (g := (gName 9)) (tt := (tTest (tOp (rNeG K) (tDGet2 (tVar 3) (tTup (tCons (tVar 9) (tCons (tVar 4) tNil))) (tLst tNil)) (tLst tNil)))) rfl nd rfl rfl (sw_true rfl rfl rfl (by decide +kernel)) (pi_list (pv 1)) (blkOk_by (own := [("_law_other", 9)]) (N := N_L_event) (sc := defScope (top 29)) (by decide +kernel)) (fun _ _ _ _ _ => (pg_name (i := 9) nd rfl (Or.inl rfl))) (fun _ _ _ _ _ => (pts_one (pt_cmpR (op_neG (by exact hr.units)) (pe_dget2 (by exact hu) (pv 3) (pe_tup (pa_cons (pv 9) (pa_cons (pv 4) pa_nil))) (pe_lst pa_nil) ⟨rfl, by rfl, rfl, rfl⟩) (pe_lst pa_nil) (nomark _)))) (fun _ _ _ _ _ => (pv 9))) (pss_cons (ps_if (PW.pt (pw_and (pt_cmpR op_lt (pv 5) pe_int (nomark _)) (pw_and1 (pt_cmpR op_gt (pe_callB call_len (by rfl) T.b_len (by decide +kernel) (pa_cons (pv 1) pa_nil)) pe_int (nomark _))))) (pss_cons (ps_set (i := 9) nd rfl (Or.inl rfl) (pe_ix ix_seq (pe_lc (own := [("_law_one", 10)]) (g := (gName 10)) (tt := (tTest (tOp (rNeG K) (tVar 10) (tVar 4)))) rfl nd (pi_list (pv 1)) (blkOk_by (own := [("_law_one", 10)]) (N := N_L_event) (sc := defScope (top 29)) (by decide +kernel)) (fun _ _ _ _ _ => (pg_name (i := 10) nd rfl (Or.inl rfl))) (fun _ _ _ _ _ => (pts_one (pt_cmpR (op_neG (by exact hr.units)) (pv 10) (pv 4) (nomark _)))) (fun _ _ _ _ _ => (pv 10))) (callP tk C_L_draw hr gd rfl T.g_L_draw (pa_cons (pv 0) (pa_cons (pe_op op_sub (pe_callB call_len (by rfl) T.b_len (by decide +kernel) (pa_cons (pv 1) pa_nil)) pe_int) pa_nil))) (fun _ _ => rfl))) (pss_cons (ps_dput hu (pv 3) (pe_tup (pa_cons (pv 4) (pa_cons (pv 9) pa_nil))) (pe_op op_addG (pe_dget2 hu (pv 3) (pe_tup (pa_cons (pv 4) (pa_cons (pv 9) pa_nil))) (pe_lst pa_nil) ⟨rfl, by rfl, rfl, rfl⟩) (pe_lst (pa_cons (pv 6) pa_nil))) rfl) (pss_one (ps_ret (pe_tup (pa_cons pe_str (pa_cons (pv 9) (pa_cons (pv 6) pa_nil)))))))) pss_nil) (pss_cons (ps_if (PW.pt (pw_and (pt_cmpR op_lt (pv 5) pe_int (nomark _)) (pw_and1 (pt_cmpR (op_neG hr.units) (pv 8) (pe_lst pa_nil) (nomark _))))) (pss_cons (ps_set (i := 9) nd rfl (Or.inl rfl) (pe_ix ix_seq (pv 8) (callP tk C_L_draw hr gd rfl T.g_L_draw (pa_cons (pv 0) (pa_cons (pe_callB call_len (by rfl) T.b_len (by decide +kernel) (pa_cons (pv 8) pa_nil)) pa_nil))) (fun _ _ => rfl))) (pss_cons (ps_set (i := 6) nd rfl (Or.inl rfl) (pe_ix ix_seq (pe_dget hu (pv 3) (pe_tup (pa_cons (pv 9) (pa_cons (pv 4) pa_nil))) (fun _ _ => rfl)) pe_int (fun _ _ => rfl))) (pss_cons (ps_dput hu (pv 3) (pe_tup (pa_cons (pv 9) (pa_cons (pv 4) pa_nil))) (pe_slice sl_G (pe_dget hu (pv 3) (pe_tup (pa_cons (pv 9) (pa_cons (pv 4) pa_nil))) (fun _ _ => rfl)) (po_some pe_int) po_none) rfl) (pss_one (ps_ret (pe_tup (pa_cons (pe_ix ix_seq (pe_lst (pa_cons pe_str (pa_cons pe_str pa_nil))) (callP tk C_L_draw hr gd rfl T.g_L_draw (pa_cons (pv 0) (pa_cons pe_int pa_nil))) (fun _ _ => rfl)) (pa_cons (pv 9) (pa_cons (pv 7) (pa_cons (pv 6) pa_nil)))))))))) pss_nil) (pss_cons (ps_if (pt_cmpR (op_eqG hr.units) (pv 5) pe_int (nomark _)) (pss_one (ps_ret (pe_tup (pa_cons pe_str pa_nil)))) pss_nil) (pss_one (ps_ret (pe_tup (pa_cons (pe_ix ix_seq (pe_lst (pa_cons pe_str (pa_cons pe_str pa_nil))) (callP tk C_L_draw hr gd rfl T.g_L_draw (pa_cons (pv 0) (pa_cons pe_int pa_nil))) (fun _ _ => rfl)) (pa_cons (pv 7) (pa_cons (pv 6) pa_nil))))))))))))))
theorem pk_L_rows {P : Program} {w : World} {K : Frag} {mg : Str → Option Value} {base : Heap} {k : Nat} (T : Tx K mg) (C_L_draw : Pk P w K mg base k ("_law_draw", none) ["_law_stream", "_law_many"] (sp_L_draw K)) (C_L_event : Pk P w K mg base k ("_law_event", none) ["_law_stream", "_law_names", "_law_at", "_law_queues"] (sp_L_event K)) {sp : SpD} (len : ∀ ds γ q e, sp ds γ q e → ds.length = 3) (h : DL_L_rows K sp)
    (F : ∃ fd, FunD K d_L_rows.name d_L_rows.qual d_L_rows.params d_L_rows.body d_L_rows.scope (d_L_rows.dvs K) (d_L_rows.kws K) (He.fAd K d_L_rows.at_) fd) : Pk P w K mg base (k + 1) ("_law_rows", none) ["_law_stream", "_law_names", "_law_many"] sp := by
  obtain ⟨fd, F⟩ := F
  have nd := sc_L_rows.nd
  refine ⟨fd, fn_dl F sc_L_rows (t_L_rows K) len (fun cdv A outer s H E hr gd tk po => ?_) h, F.kp, F.bindsN fun _ _ _ _ _ _ us hl => match us, hl with | [_, _, _], _ => rfl⟩
  have hu := huD hr
  exact (pss_cons (ps_setLc (i := 3) (own := [("_law_name", 4)]) (g := (gName 4)) (tt := tYes) rfl nd rfl rfl (sw_true rfl rfl rfl (by decide +kernel)) (pi_list (pv 1)) (blkOk_by (own := [("_law_name", 4)]) (N := N_L_rows) (sc := defScope (top 30)) (by decide +kernel)) (fun _ _ _ _ _ => (pg_name (i := 4) nd rfl (Or.inl rfl))) (fun _ _ _ _ _ => pts_nil) (fun _ _ _ _ _ => (pe_tup (pa_cons (pv 4) (pa_cons (pe_lst pa_nil) pa_nil))))) (pss_cons (ps_set (i := 5) nd rfl (Or.inl rfl) pe_dnewT) (pss_cons (ps_for po rfl (pi_range1 (by rfl) T.b_range (pa_cons (pv 2) pa_nil)) (pg_name (i := 6) nd rfl (Or.inl rfl)) (pss_cons (ps_set (i := 7) nd rfl (Or.inl rfl) (callP tk C_L_draw hr gd rfl T.g_L_draw (pa_cons (pv 0) (pa_cons (pe_callB call_len (by rfl) T.b_len (by decide +kernel) (pa_cons (pv 1) pa_nil)) pa_nil)))) (pss_cons (ps_set (i := 8) nd rfl (Or.inl rfl) (callP tk C_L_event hr gd rfl T.g_L_event (pa_cons (pv 0) (pa_cons (pv 1) (pa_cons (pv 7) (pa_cons (pv 5) pa_nil)))))) (pss_one (ps_expr (pe_bm PySem.F.plainAttrs_list PySem.F.slot_list_append PySem.F.type_list_append mt_append (pe_ix ix_seq (pe_ix ix_seq (pv 3) (pv 7) (fun _ _ => rfl)) pe_int (fun _ _ => rfl)) (pa_cons (pv 8) pa_nil))))))) (pss_one (ps_ret (pe_lc (own := [("_law_name", 4), ("_law_events", 9)]) (g := (gTup K 2 (gCons (gName 4) (gCons (gName 9) gNil)))) (tt := tYes) rfl nd (pi_list (pv 3)) (blkOk_by (own := [("_law_name", 4), ("_law_events", 9)]) (N := N_L_rows) (sc := defScope (top 30)) (by decide +kernel)) (fun _ _ _ _ _ => (pg_tup rfl (pgs_cons (pg_name (i := 4) nd rfl (Or.inl rfl)) (pgs_cons (pg_name (i := 9) nd rfl (Or.inl rfl)) pgs_nil)))) (fun _ _ _ _ _ => pts_nil) (fun _ _ _ _ _ => (pe_tup (pa_cons (pv 4) (pa_cons (pe_callTy call_tuple_of (by rfl) T.b_tuple (by decide +kernel) (pa_cons (pv 9) pa_nil)) pa_nil))))))))))
theorem pk_L_word {P : Program} {w : World} {K : Frag} {mg : Str → Option Value} {base : Heap} {k : Nat} (T : Tx K mg) (C_L_draw : Pk P w K mg base k ("_law_draw", none) ["_law_stream", "_law_many"] (sp_L_draw K)) {sp : SpD} (len : ∀ ds γ q e, sp ds γ q e → ds.length = 1) (h : DL_L_word K sp)
    (F : ∃ fd, FunD K d_L_word.name d_L_word.qual d_L_word.params d_L_word.body d_L_word.scope (d_L_word.dvs K) (d_L_word.kws K) (He.fAd K d_L_word.at_) fd) : Pk P w K mg base (k + 1) ("_law_word", none) ["_law_stream"] sp := by
  obtain ⟨fd, F⟩ := F
  have nd := sc_L_word.nd
  refine ⟨fd, fn_dl F sc_L_word (t_L_word K) len (fun cdv A outer s H E hr gd tk po => ?_) h, F.kp, F.bindsN fun _ _ _ _ _ _ us hl => match us, hl with | [_], _ => rfl⟩
  have hu := huD hr
  exact (pss_cons (ps_set (i := 1) nd rfl (Or.inl rfl) pe_str) (pss_cons (ps_set (i := 2) nd rfl (Or.inl rfl) (pe_ix ix_seq (pv 1) (callP tk C_L_draw hr gd rfl T.g_L_draw (pa_cons (pv 0) (pa_cons pe_int pa_nil))) (fun _ _ => rfl))) (pss_cons (ps_for po rfl (pi_range1 (by rfl) T.b_range (pa_cons (pe_ix ix_seq (pe_lst (pa_cons pe_int (pa_cons pe_int (pa_cons pe_int (pa_cons pe_int (pa_cons pe_int pa_nil)))))) (callP tk C_L_draw hr gd rfl T.g_L_draw (pa_cons (pv 0) (pa_cons pe_int pa_nil))) (fun _ _ => rfl)) pa_nil)) (pg_name (i := 3) nd rfl (Or.inl rfl)) (pss_one (ps_set (i := 2) nd rfl (Or.inl rfl) (pe_op op_addG (pv 2) (pe_ix ix_seq (pv 1) (callP tk C_L_draw hr gd rfl T.g_L_draw (pa_cons (pv 0) (pa_cons pe_int pa_nil))) (fun _ _ => rfl)))))) (pss_cons (ps_set (i := 4) nd rfl (Or.inl rfl) (pe_tup (pa_cons pe_str (pa_cons pe_str (pa_cons pe_str (pa_cons pe_str (pa_cons pe_str (pa_cons pe_str (pa_cons pe_str (pa_cons pe_str (pa_cons pe_str (pa_cons pe_str (pa_cons pe_str (pa_cons pe_str (pa_cons pe_str pa_nil))))))))))))))) (pss_one (ps_ret (pe_ifExp (PW.pt (pw_or (pt_cmpR (op_inG (hu65 hr)) (pv 2) (pv 4) (by rfl)) (pw_or1 (pt_cmpR (op_eqG hr.units) (pv 2) pe_str (nomark _))))) (pe_op op_addG (pv 2) pe_str) (pv 2))))))))
theorem pk_L_words {P : Program} {w : World} {K : Frag} {mg : Str → Option Value} {base : Heap} {k : Nat} (T : Tx K mg) (C_L_word : Pk P w K mg base k ("_law_word", none) ["_law_stream"] (sp_L_word K)) {sp : SpD} (len : ∀ ds γ q e, sp ds γ q e → ds.length = 2) (h : DL_L_words K sp)
    (F : ∃ fd, FunD K d_L_words.name d_L_words.qual d_L_words.params d_L_words.body d_L_words.scope (d_L_words.dvs K) (d_L_words.kws K) (He.fAd K d_L_words.at_) fd) : Pk P w K mg base (k + 1) ("_law_words", none) ["_law_stream", "_law_many"] sp := by
  obtain ⟨fd, F⟩ := F
  have nd := sc_L_words.nd
  refine ⟨fd, fn_dl F sc_L_words (t_L_words K) len (fun cdv A outer s H E hr gd tk po => ?_) h, F.kp, F.bindsN fun _ _ _ _ _ _ us hl => match us, hl with | [_, _], _ => rfl⟩
  have hu := huD hr
  exact (pss_cons (ps_set (i := 2) nd rfl (Or.inr rfl) pe_str) (pss_cons (ps_setLc (i := 3) (own := [("_law_j", 4)]) (g := (gName 4)) (tt := tYes) rfl nd rfl rfl (sw_true rfl rfl rfl (by decide +kernel)) (pi_range1 (by rfl) T.b_range (pa_cons pe_int pa_nil)) (blkOk_by (own := [("_law_j", 4)]) (N := N_L_words) (sc := defScope (top 32)) (by decide +kernel)) (fun _ _ _ _ _ => (pg_name (i := 4) nd rfl (Or.inl rfl))) (fun _ _ _ _ _ => pts_nil) (fun _ _ _ _ _ => (pe_op op_addG (pe_op op_addG (pe_ix ix_seq (pv 2) (pe_op op_modN (pv 4) pe_int) (fun _ _ => rfl)) (pe_ix ix_seq (pv 2) (pe_op op_fdivA (pv 4) pe_int) (fun _ _ => rfl))) pe_str))) (pss_cons (ps_set (i := 5) nd rfl (Or.inr rfl) (pe_lst pa_nil)) (pss_cons (ps_for po rfl (pi_range1 (by rfl) T.b_range (pa_cons (pv 1) pa_nil)) (pg_name (i := 6) nd rfl (Or.inl rfl)) (pss_cons (ps_set (i := 7) nd rfl (Or.inl rfl) (callP tk C_L_word hr gd rfl T.g_L_word (pa_cons (pv 0) pa_nil))) (pss_one (ps_expr (pe_bm PySem.F.plainAttrs_list PySem.F.slot_list_append PySem.F.type_list_append mt_append (pv 5) (pa_cons (pe_ifExp (pt_cmpR (op_inG (hu65 hr)) (pv 7) (pv 5) (by rfl)) (pe_ix ix_seq (pe_lc (own := [("_law_one", 8)]) (g := (gName 8)) (tt := (tTest (tOp (rNiG K) (tVar 8) (tVar 5)))) rfl nd (pi_list (pv 3)) (blkOk_by (own := [("_law_one", 8)]) (N := N_L_words) (sc := defScope (top 32)) (by decide +kernel)) (fun _ _ _ _ _ => (pg_name (i := 8) nd rfl (Or.inl rfl))) (fun _ _ _ _ _ => (pts_one (pt_cmpR (op_niG (by exact hu65 hr)) (pv 8) (pv 5) (by rfl)))) (fun _ _ _ _ _ => (pv 8))) pe_int (fun _ _ => rfl)) (pv 7)) pa_nil)))))) (pss_one (ps_ret (pv 5)))))))
theorem pk_L_same {P : Program} {w : World} {K : Frag} {mg : Str → Option Value} {base : Heap} {k : Nat} (T : Tx K mg) (s_L_same : SpD) (C_L_same : Pk P w K mg base k ("_law_same", none) ["_law_found", "_law_due"] s_L_same) {sp : SpD} (len : ∀ ds γ q e, sp ds γ q e → ds.length = 2) (h : DL_L_same K s_L_same sp)
    (F : ∃ fd, FunD K d_L_same.name d_L_same.qual d_L_same.params d_L_same.body d_L_same.scope (d_L_same.dvs K) (d_L_same.kws K) (He.fAd K d_L_same.at_) fd) : Pk P w K mg base (k + 1) ("_law_same", none) ["_law_found", "_law_due"] sp := by
  obtain ⟨fd, F⟩ := F
  have nd := sc_L_same.nd
  refine ⟨fd, fn_dl F sc_L_same (t_L_same K s_L_same) len (fun cdv A outer s H E hr gd tk po => ?_) h, F.kp, F.bindsN fun _ _ _ _ _ _ us hl => match us, hl with | [_, _], _ => rfl⟩
  have hu := huD hr
  exact (pss_cons (ps_if (pt_val (pe_callB call_isiT (by rfl) T.b_isinstance (by decide +kernel) (pa_cons (pv 1) (pa_cons (pe_tup (pa_cons (pe_bltn (by rfl) T.b_list (by decide +kernel) rfl) (pa_cons (pe_bltn (by rfl) T.b_tuple (by decide +kernel) rfl) pa_nil))) pa_nil)))) (pss_cons (ps_if (PW.pt (pw_or (pt_cmpR (op_neG hr.units) (pe_callB call_isi (by rfl) T.b_isinstance (by decide +kernel) (pa_cons (pv 0) (pa_cons (pe_bltn (by rfl) T.b_list (by decide +kernel) rfl) pa_nil))) (pe_callB call_isi (by rfl) T.b_isinstance (by decide +kernel) (pa_cons (pv 1) (pa_cons (pe_bltn (by rfl) T.b_list (by decide +kernel) rfl) pa_nil))) (nomark _)) (pw_or1 (pt_cmpR (op_neG hr.units) (pe_callB call_isi (by rfl) T.b_isinstance (by decide +kernel) (pa_cons (pv 0) (pa_cons (pe_bltn (by rfl) T.b_tuple (by decide +kernel) rfl) pa_nil))) (pe_callB call_isi (by rfl) T.b_isinstance (by decide +kernel) (pa_cons (pv 1) (pa_cons (pe_bltn (by rfl) T.b_tuple (by decide +kernel) rfl) pa_nil))) (nomark _))))) (pss_one (ps_ret pe_bl)) pss_nil) (pss_one (ps_ret (pe_and (pe_cmpR (op_eqG hr.units) (pe_callB call_len (by rfl) T.b_len (by decide +kernel) (pa_cons (pv 0) pa_nil)) (pe_callB call_len (by rfl) T.b_len (by decide +kernel) (pa_cons (pv 1) pa_nil)) (nomark _)) (pe_one (pe_callB (cr_all rfl) (by rfl) T.b_all (by decide +kernel) (pa_cons (pe_lc (own := [("_law_a", 2), ("_law_b", 3)]) (g := (gTup K 2 (gCons (gName 2) (gCons (gName 3) gNil)))) (tt := tYes) rfl nd (RZ.pi_zipA (by rfl) T.b_zip (pa_cons (pv 0) (pa_cons (pv 1) pa_nil))) (blkOk_by (own := [("_law_a", 2), ("_law_b", 3)]) (N := N_L_same) (sc := defScope (top 33)) (by decide +kernel)) (fun _ _ _ _ _ => (pg_tup rfl (pgs_cons (pg_name (i := 2) nd rfl (Or.inl rfl)) (pgs_cons (pg_name (i := 3) nd rfl (Or.inl rfl)) pgs_nil)))) (fun _ _ _ _ _ => pts_nil) (fun _ _ _ _ _ => (callP L2.takes0 C_L_same hr gd rfl T.g_L_same (pa_cons (pv 2) (pa_cons (pv 3) pa_nil))))) pa_nil))))))) pss_nil) (pss_cons (ps_if (pt_val (pe_callB call_isi (by rfl) T.b_isinstance (by decide +kernel) (pa_cons (pv 1) (pa_cons (pe_bltn (by rfl) T.b_int (by decide +kernel) rfl) pa_nil)))) (pss_one (ps_ret (pe_and (pe_callB call_isi (by rfl) T.b_isinstance (by decide +kernel) (pa_cons (pv 0) (pa_cons (pe_bltn (by rfl) T.b_int (by decide +kernel) rfl) pa_nil))) (pe_and (pe_cmpR (op_eqG hr.units) (pe_callB call_isi (by rfl) T.b_isinstance (by decide +kernel) (pa_cons (pv 0) (pa_cons (pe_bltn (by rfl) T.b_bool (by decide +kernel) rfl) pa_nil))) (pe_callB call_isi (by rfl) T.b_isinstance (by decide +kernel) (pa_cons (pv 1) (pa_cons (pe_bltn (by rfl) T.b_bool (by decide +kernel) rfl) pa_nil))) (nomark _)) (pe_one (pe_cmpR (op_eqG hr.units) (pv 0) (pv 1) (nomark _))))))) pss_nil) (pss_one (ps_ret (pe_and (pe_not (pe_callB call_isi (by rfl) T.b_isinstance (by decide +kernel) (pa_cons (pv 0) (pa_cons (pe_bltn (by rfl) T.b_int (by decide +kernel) rfl) pa_nil)))) (pe_one (pe_cmpR (op_eqG hr.units) (pv 0) (pv 1) (nomark _))))))))
theorem pk_L_lists_of {P : Program} {w : World} {K : Frag} {mg : Str → Option Value} {base : Heap} {k : Nat} (T : Tx K mg) (s_L_lists_of : SpD) (C_L_lists_of : Pk P w K mg base k ("_law_lists_of", none) ["_law_thing"] s_L_lists_of) {sp : SpD} (len : ∀ ds γ q e, sp ds γ q e → ds.length = 1) (h : DL_L_lists_of K s_L_lists_of sp)
    (F : ∃ fd, FunD K d_L_lists_of.name d_L_lists_of.qual d_L_lists_of.params d_L_lists_of.body d_L_lists_of.scope (d_L_lists_of.dvs K) (d_L_lists_of.kws K) (He.fAd K d_L_lists_of.at_) fd) : Pk P w K mg base (k + 1) ("_law_lists_of", none) ["_law_thing"] sp := by
  obtain ⟨fd, F⟩ := F
  have nd := sc_L_lists_of.nd
  refine ⟨fd, fn_dl F sc_L_lists_of (t_L_lists_of K s_L_lists_of) len (fun cdv A outer s H E hr gd tk po => ?_) h, F.kp, F.bindsN fun _ _ _ _ _ _ us hl => match us, hl with | [_], _ => rfl⟩
  have hu := huD hr
  exact (pss_cons (ps_if (pt_val (pe_callB call_isiT (by rfl) T.b_isinstance (by decide +kernel) (pa_cons (pv 0) (pa_cons (pe_tup (pa_cons (pe_bltn (by rfl) T.b_list (by decide +kernel) rfl) (pa_cons (pe_bltn (by rfl) T.b_tuple (by decide +kernel) rfl) pa_nil))) pa_nil)))) (pss_one (ps_ret (pe_lc (own := [("_law_part", 1)]) (g := (gName 1)) (tt := tYes) rfl nd (pi_any (pi_list (pv 0)) (pi_tup (pv 0))) (blkOk_by (own := [("_law_part", 1)]) (N := N_L_lists_of) (sc := defScope (top 34)) (by decide +kernel)) (fun _ _ _ _ _ => (pg_name (i := 1) nd rfl (Or.inl rfl))) (fun _ _ _ _ _ => pts_nil) (fun _ _ _ _ _ => (callP L2.takes0 C_L_lists_of hr gd rfl T.g_L_lists_of (pa_cons (pv 1) pa_nil)))))) pss_nil) (pss_one (ps_ret (pv 0))))
theorem pk_L_bad_record {P : Program} {w : World} {K : Frag} {mg : Str → Option Value} {base : Heap} {j k : Nat} (T : Tx K mg) (C_Record_init : Pk P w K mg base j ("Record", some "__init__") ["self", "rows"] (sp_Record_init K)) (hj : j + 1 ≤ k) {sp : SpD} (len : ∀ ds γ q e, sp ds γ q e → ds.length = 1) (h : DL_L_bad_record K sp)
    (F : ∃ fd, FunD K d_L_bad_record.name d_L_bad_record.qual d_L_bad_record.params d_L_bad_record.body d_L_bad_record.scope (d_L_bad_record.dvs K) (d_L_bad_record.kws K) (He.fAd K d_L_bad_record.at_) fd) : Pk P w K mg base (k + 1) ("_law_bad_record", none) ["_law_rows_here"] sp := by
  obtain ⟨fd, F⟩ := F
  have nd := sc_L_bad_record.nd
  refine ⟨fd, fn_dl F sc_L_bad_record (t_L_bad_record K) len (fun cdv A outer s H E hr gd tk po => ?_) h, F.kp, F.bindsN fun _ _ _ _ _ _ us hl => match us, hl with | [_], _ => rfl⟩
  have hu := huD hr
  exact (pss_cons (ps_set (i := 1) nd rfl (Or.inl rfl) pe_non) (pss_cons (ps_tryAsD (i := 2) rfl rfl nd rfl rfl ⟨by rfl, by decide, .inl T.g_BadRecord⟩ tk (fun W' pn xe tk' po' => (pss_one (ps_expr (makeP tk' T.mk_Record C_Record_init hj hr gd rfl T.g_Record (pa_cons (pv 0) pa_nil))))) (fun a oe cls d pn hz hf => (pss_cons (ps_set (i := 1) nd rfl (Or.inl rfl) (pe_lst (pa_cons (pe_xfG hz hf (pv 2)) (pa_cons (pe_xfG hz hf (pv 2)) (pa_cons (pe_xfG hz hf (pv 2)) pa_nil))))) (pss_one (ps_if (PW.pt (pw_or (pt_not (pt_val (pe_callB (call_isG hz hf) (by rfl) T.b_isinstance (by decide +kernel) (pa_cons (pv 2) (pa_cons (pe_glob rfl T.g_RerunError rfl) pa_nil))))) (pw_or (pt_not (pt_val (pe_callB (call_isG hz hf) (by rfl) T.b_isinstance (by decide +kernel) (pa_cons (pv 2) (pa_cons (pe_bltn (by rfl) T.b_ValueError (by decide +kernel) rfl) pa_nil))))) (pw_or1 (pt_val (pe_callB (call_isG hz hf) (by rfl) T.b_isinstance (by decide +kernel) (pa_cons (pv 2) (pa_cons (pe_glob rfl T.g_BadEvent rfl) pa_nil)))))))) (pss_one (ps_set (i := 1) nd rfl (Or.inl rfl) (pe_lst (pa_cons pe_bl pa_nil)))) pss_nil))))) (pss_one (ps_ret (pv 1)))))
theorem pk_L_first_message {P : Program} {w : World} {K : Frag} {mg : Str → Option Value} {base : Heap} {k : Nat} (T : Tx K mg) {sp : SpD} (len : ∀ ds γ q e, sp ds γ q e → ds.length = 1) (h : DL_L_first_message K sp)
    (F : ∃ fd, FunD K d_L_first_message.name d_L_first_message.qual d_L_first_message.params d_L_first_message.body d_L_first_message.scope (d_L_first_message.dvs K) (d_L_first_message.kws K) (He.fAd K d_L_first_message.at_) fd) : Pk P w K mg base (k + 1) ("_law_first_message", none) ["_law_rows_here"] sp := by
  obtain ⟨fd, F⟩ := F
  have nd := sc_L_first_message.nd
  refine ⟨fd, fn_dl F sc_L_first_message (t_L_first_message K) len (fun cdv A outer s H E hr gd tk po => ?_) h, F.kp, F.bindsN fun _ _ _ _ _ _ us hl => match us, hl with | [_], _ => rfl⟩
  have hu := huD hr
  exact (pss_cons (ps_set (i := 1) nd rfl (Or.inl rfl) pe_dnewT) (pss_cons (ps_for po rfl (pi_list (pv 0)) (pg_tup rfl (pgs_cons (pg_name (i := 2) nd rfl (Or.inl rfl)) (pgs_cons (pg_name (i := 3) nd rfl (Or.inl rfl)) pgs_nil))) (pss_one (ps_for po rfl (pi_tup (pv 3)) (pg_name (i := 4) nd rfl (Or.inl rfl)) (pss_one (ps_if (pt_cmpR (op_eqG hr.units) (pe_ix ix_seq (pv 4) pe_int (fun _ _ => rfl)) pe_str (nomark _)) (pss_one (ps_dput hu (pv 1) (pe_tup (pa_cons (pv 2) (pa_cons (pe_ix ix_seq (pv 4) pe_int (fun _ _ => rfl)) pa_nil))) (pe_op op_addA (pe_dget2 hu (pv 1) (pe_tup (pa_cons (pv 2) (pa_cons (pe_ix ix_seq (pv 4) pe_int (fun _ _ => rfl)) pa_nil))) (pe_lst pa_nil) ⟨rfl, by rfl, rfl, rfl⟩) (pe_lst (pa_cons (pe_ix ix_seq (pv 4) pe_int (fun _ _ => rfl)) pa_nil))) rfl)) pss_nil))))) (pss_cons (ps_for po rfl (pi_list (pv 0)) (pg_tup rfl (pgs_cons (pg_name (i := 2) nd rfl (Or.inl rfl)) (pgs_cons (pg_name (i := 3) nd rfl (Or.inl rfl)) pgs_nil))) (pss_one (ps_for po rfl (pi_range1 (by rfl) T.b_range (pa_cons (pe_callB call_len (by rfl) T.b_len (by decide +kernel) (pa_cons (pv 3) pa_nil)) pa_nil)) (pg_name (i := 5) nd rfl (Or.inl rfl)) (pss_one (ps_if (pt_cmpR (op_inG (hu65 hr)) (pe_ix ix_seq (pe_ix ix_seq (pv 3) (pv 5) (fun _ _ => rfl)) pe_int (fun _ _ => rfl)) (pe_tup (pa_cons pe_str (pa_cons pe_str pa_nil))) (by rfl)) (pss_cons (ps_set (i := 6) nd rfl (Or.inr rfl) (pe_ix ix_seq (pe_ix ix_seq (pv 3) (pv 5) (fun _ _ => rfl)) pe_int (fun _ _ => rfl))) (pss_cons (ps_set (i := 7) nd rfl (Or.inl rfl) (pe_callB call_len (by rfl) T.b_len (by decide +kernel) (pa_cons (pe_lc (own := [("_law_one", 8)]) (g := (gName 8)) (tt := (tAnd (tTest (tOp (rInG K) (tOp (rIx K) (tVar 8) (tC (.int 0))) (tTup (tCons (tC (.str (S [114, 101, 99, 101, 105, 118, 101]))) (tCons (tC (.str (S [116, 97, 107, 101]))) tNil))))) (tTest (tOp (rEqG K) (tOp (rIx K) (tVar 8) (tC (.int 1))) (tVar 6))))) rfl nd (pi_tup (pe_slice sl_U (pv 3) po_none (po_some (pv 5)))) (blkOk_by (own := [("_law_one", 8)]) (N := N_L_first_message) (sc := defScope (top 36)) (by decide +kernel)) (fun _ _ _ _ _ => (pg_name (i := 8) nd rfl (Or.inl rfl))) (fun _ _ _ _ _ => (pts_one (PW.pt (pw_and (pt_cmpR (op_inG (by exact hu65 hr)) (pe_ix ix_seq (pv 8) pe_int (fun _ _ => rfl)) (pe_tup (pa_cons pe_str (pa_cons pe_str pa_nil))) (by rfl)) (pw_and1 (pt_cmpR (op_eqG (by exact hr.units)) (pe_ix ix_seq (pv 8) pe_int (fun _ _ => rfl)) (pv 6) (nomark _))))))) (fun _ _ _ _ _ => (pv 8))) pa_nil))) (pss_one (ps_if (pt_cmpR (op_neG hr.units) (pe_slice sl_U (pe_dget2 hu (pv 1) (pe_tup (pa_cons (pv 6) (pa_cons (pv 2) pa_nil))) (pe_lst pa_nil) ⟨rfl, by rfl, rfl, rfl⟩) (po_some (pv 7)) (po_some (pe_op op_addA (pv 7) pe_int))) (pe_lst (pa_cons (pe_ix ix_seq (pe_ix ix_seq (pv 3) (pv 5) (fun _ _ => rfl)) pe_int (fun _ _ => rfl)) pa_nil)) (nomark _)) (pss_one (ps_ret (pe_lst (pa_cons pe_str (pa_cons (pv 2) (pa_cons (pe_op op_addA (pv 5) pe_int) pa_nil)))))) pss_nil)))) pss_nil))))) (pss_one (ps_ret pe_non)))))
theorem pk_L_moved {P : Program} {w : World} {K : Frag} {mg : Str → Option Value} {base : Heap} {k : Nat} (T : Tx K mg) (C_L_draw : Pk P w K mg base k ("_law_draw", none) ["_law_stream", "_law_many"] (sp_L_draw K)) {sp : SpD} (len : ∀ ds γ q e, sp ds γ q e → ds.length = 4) (h : DL_L_moved K sp)
    (F : ∃ fd, FunD K d_L_moved.name d_L_moved.qual d_L_moved.params d_L_moved.body d_L_moved.scope (d_L_moved.dvs K) (d_L_moved.kws K) (He.fAd K d_L_moved.at_) fd) : Pk P w K mg base (k + 1) ("_law_moved", none) ["_law_stream", "_law_events", "_law_name", "_law_names"] sp := by
  obtain ⟨fd, F⟩ := F
  have nd := sc_L_moved.nd
  refine ⟨fd, fn_dl F sc_L_moved (t_L_moved K) len (fun cdv A outer s H E hr gd tk po => ?_) h, F.kp, F.bindsN fun _ _ _ _ _ _ us hl => match us, hl with | [_, _, _, _], _ => rfl⟩
  have hu := huD hr
  exact (pss_cons (ps_par (i := 4) (j := 5) (by rfl) nd rfl rfl (by decide) rfl rfl (pa_cons (callP tk C_L_draw hr gd rfl T.g_L_draw (pa_cons (pv 0) (pa_cons (pe_callB call_len (by rfl) T.b_len (by decide +kernel) (pa_cons (pv 1) pa_nil)) pa_nil))) (pa_cons (callP tk C_L_draw hr gd rfl T.g_L_draw (pa_cons (pv 0) (pa_cons (pe_callB call_len (by rfl) T.b_len (by decide +kernel) (pa_cons (pv 1) pa_nil)) pa_nil))) pa_nil)) (by rfl)) (pss_cons (ps_set (i := 6) nd rfl (Or.inl rfl) (pe_ix ix_seq (pv 1) (pv 4) (fun _ _ => rfl))) (pss_cons (ps_set (i := 7) nd rfl (Or.inl rfl) (callP tk C_L_draw hr gd rfl T.g_L_draw (pa_cons (pv 0) (pa_cons pe_int pa_nil)))) (pss_cons (ps_if (pt_cmpR (op_eqG hr.units) (pv 7) pe_int (nomark _)) (pss_one (ps_ret (pe_op op_addA (pe_slice sl_U (pv 1) po_none (po_some (pv 4))) (pe_slice sl_U (pv 1) (po_some (pe_op op_addA (pv 4) pe_int)) po_none)))) pss_nil) (pss_cons (ps_if (pt_cmpR (op_eqG hr.units) (pv 7) pe_int (nomark _)) (pss_cons (ps_set (i := 8) nd rfl (Or.inl rfl) (pe_callTy call_list_of (by rfl) T.b_list (by decide +kernel) (pa_cons (pv 1) pa_nil))) (pss_cons (ps_asg (pe_tup (pa_cons (pe_ix ix_seq (pv 8) (pv 5) (fun _ _ => rfl)) (pa_cons (pe_ix ix_seq (pv 8) (pv 4) (fun _ _ => rfl)) pa_nil))) (pg_tup rfl (pgs_cons (pg_sub (pv 8) (pv 4) set_list) (pgs_cons (pg_sub (pv 8) (pv 5) set_list) pgs_nil)))) (pss_one (ps_ret (pe_callTy call_tuple_of (by rfl) T.b_tuple (by decide +kernel) (pa_cons (pv 8) pa_nil)))))) pss_nil) (pss_cons (ps_if (PW.pt (pw_and (pt_cmpR (op_eqG hr.units) (pv 7) pe_int (nomark _)) (pw_and1 (pt_cmpR op_lt (pe_op op_addA (pv 4) pe_int) (pe_callB call_len (by rfl) T.b_len (by decide +kernel) (pa_cons (pv 1) pa_nil)) (nomark _))))) (pss_one (ps_ret (pe_op op_addA (pe_op op_addA (pe_slice sl_U (pv 1) po_none (po_some (pv 4))) (pe_tup (pa_cons (pe_ix ix_seq (pv 1) (pe_op op_addA (pv 4) pe_int) (fun _ _ => rfl)) (pa_cons (pv 6) pa_nil)))) (pe_slice sl_U (pv 1) (po_some (pe_op op_addA (pv 4) pe_int)) po_none)))) pss_nil) (pss_cons (ps_if (PW.pt (pw_and (pt_cmpR op_lt (pv 7) pe_int (nomark _)) (pw_and1 (pt_cmpR (op_inG (hu65 hr)) (pe_ix ix_seq (pv 6) pe_int (fun _ _ => rfl)) (pe_tup (pa_cons pe_str (pa_cons pe_str (pa_cons pe_str pa_nil)))) (by rfl))))) (pss_one (ps_set (i := 6) nd rfl (Or.inl rfl) (pe_op op_addA (pe_slice sl_U (pv 6) po_none (po_some (pe_un un_neg pe_int))) (pe_tup (pa_cons (pe_ix ix_seq (pe_lst (pa_cons (pe_op op_addA (pe_ix ix_seq (pv 6) (pe_un un_neg pe_int) (fun _ _ => rfl)) pe_int) (pa_cons pe_int (pa_cons (pe_un un_neg (pe_ix ix_seq (pv 6) (pe_un un_neg pe_int) (fun _ _ => rfl))) (pa_cons pe_int pa_nil))))) (callP tk C_L_draw hr gd rfl T.g_L_draw (pa_cons (pv 0) (pa_cons pe_int pa_nil))) (fun _ _ => rfl)) pa_nil))))) (pss_one (ps_if (pt_cmpR (op_inG (hu65 hr)) (pe_ix ix_seq (pv 6) pe_int (fun _ _ => rfl)) (pe_tup (pa_cons pe_str (pa_cons pe_str (pa_cons pe_str pa_nil)))) (by rfl)) (pss_cons (ps_setLc (i := 9) (own := [("_law_one", 10)]) (g := (gName 10)) (tt := (tTest (tOp (rNeG K) (tVar 10) (tVar 2)))) rfl nd rfl rfl (sw_true rfl rfl rfl (by decide +kernel)) (pi_list (pv 3)) (blkOk_by (own := [("_law_one", 10)]) (N := N_L_moved) (sc := defScope (top 37)) (by decide +kernel)) (fun _ _ _ _ _ => (pg_name (i := 10) nd rfl (Or.inl rfl))) (fun _ _ _ _ _ => (pts_one (pt_cmpR (op_neG (by exact hr.units)) (pv 10) (pv 2) (nomark _)))) (fun _ _ _ _ _ => (pv 10))) (pss_one (ps_set (i := 6) nd rfl (Or.inl rfl) (pe_op op_addA (pe_tup (pa_cons (pe_ix ix_seq (pv 6) pe_int (fun _ _ => rfl)) (pa_cons (pe_ix ix_seq (pv 9) (callP tk C_L_draw hr gd rfl T.g_L_draw (pa_cons (pv 0) (pa_cons (pe_callB call_len (by rfl) T.b_len (by decide +kernel) (pa_cons (pv 9) pa_nil)) pa_nil))) (fun _ _ => rfl)) pa_nil))) (pe_slice sl_U (pv 6) (po_some pe_int) po_none))))) pss_nil))) (pss_cons (ps_if (pt_cmpR op_ge (pe_callB call_abs (by rfl) T.b_abs (by decide +kernel) (pa_cons (pe_ifExp (pt_val (pe_callB call_isi (by rfl) T.b_isinstance (by decide +kernel) (pa_cons (pe_ix ix_seq (pv 6) (pe_un un_neg pe_int) (fun _ _ => rfl)) (pa_cons (pe_bltn (by rfl) T.b_int (by decide +kernel) rfl) pa_nil)))) (pe_ix ix_seq (pv 6) (pe_un un_neg pe_int) (fun _ _ => rfl)) pe_int) pa_nil)) (pe_op op_pow pe_int pe_int) (nomark _)) (pss_one (ps_set (i := 6) nd rfl (Or.inl rfl) (pe_ix ix_seq (pv 1) (pv 4) (fun _ _ => rfl)))) pss_nil) (pss_one (ps_ret (pe_op op_addA (pe_op op_addA (pe_slice sl_U (pv 1) po_none (po_some (pv 4))) (pe_tup (pa_cons (pv 6) pa_nil))) (pe_slice sl_U (pv 1) (po_some (pe_op op_addA (pv 4) pe_int)) po_none))))))))))))
theorem pk_law {P : Program} {w : World} {K : Frag} {mg : Str → Option Value} {base : Heap} {k : Nat} {fd : FuncData} (T : Tx K mg) (C_L_draw : Pk P w K mg base k ("_law_draw", none) ["_law_stream", "_law_many"] (sp_L_draw K)) (C_L_words : Pk P w K mg base k ("_law_words", none) ["_law_stream", "_law_many"] (sp_L_words K)) (C_L_rows : Pk P w K mg base k ("_law_rows", none) ["_law_stream", "_law_names", "_law_many"] (sp_L_rows K)) (C_L_moved : Pk P w K mg base k ("_law_moved", none) ["_law_stream", "_law_events", "_law_name", "_law_names"] (sp_L_moved K)) (C_L_first_message : Pk P w K mg base k ("_law_first_message", none) ["_law_rows_here"] (sp_L_first_message K)) (C_L_lists_of : Pk P w K mg base k ("_law_lists_of", none) ["_law_thing"] (sp_L_lists_of K)) (C_L_bad_record : Pk P w K mg base k ("_law_bad_record", none) ["_law_rows_here"] (sp_L_bad_record K)) (C_L_same : Pk P w K mg base k ("_law_same", none) ["_law_found", "_law_due"] (sp_L_same K)) (h : DL_law K)
    (F : FunD K d_law.name d_law.qual d_law.params d_law.body d_law.scope (d_law.dvs K) (d_law.kws K) (He.fAd K d_law.at_) fd) : FnG P w K mg base (L2.CX P w) (k + 1) (He.fAd K d_law.at_) fd ["_law_script"] (spLaw K) := by
  have nd := sc_law.nd
  refine fn_law F sc_law (t_law K) (fun cdv A outer s H E hr gd tk po => ?_) h
  have hu := huD hr
  exact (pss_cons (ps_set (i := 1) nd rfl (Or.inl rfl) (pe_lst (pa_cons (pe_callTy call_list_of (by rfl) T.b_list (by decide +kernel) (pa_cons (pv 0) pa_nil)) (pa_cons pe_int (pa_cons pe_int (pa_cons pe_int pa_nil)))))) (pss_cons (ps_set (i := 2) nd rfl (Or.inl rfl) (callP tk C_L_words hr gd rfl T.g_L_words (pa_cons (pv 1) (pa_cons (pe_op op_addA pe_int (callP tk C_L_draw hr gd rfl T.g_L_draw (pa_cons (pv 1) (pa_cons pe_int pa_nil)))) pa_nil)))) (pss_cons (ps_set (i := 3) nd rfl (Or.inl rfl) (callP tk C_L_rows hr gd rfl T.g_L_rows (pa_cons (pv 1) (pa_cons (pv 2) (pa_cons (pe_op op_addA pe_int (callP tk C_L_draw hr gd rfl T.g_L_draw (pa_cons (pv 1) (pa_cons pe_int pa_nil)))) pa_nil))))) (pss_cons (ps_for po rfl (pi_range1 (by rfl) T.b_range (pa_cons (callP tk C_L_draw hr gd rfl T.g_L_draw (pa_cons (pv 1) (pa_cons pe_int pa_nil))) pa_nil)) (pg_name (i := 4) nd rfl (Or.inl rfl)) (pss_cons (ps_set (i := 5) nd rfl (Or.inl rfl) (callP tk C_L_draw hr gd rfl T.g_L_draw (pa_cons (pv 1) (pa_cons (pe_callB call_len (by rfl) T.b_len (by decide +kernel) (pa_cons (pv 3) pa_nil)) pa_nil)))) (pss_cons (ps_asg (pe_ix ix_seq (pv 3) (pv 5) (fun _ _ => rfl)) (pg_tup rfl (pgs_cons (pg_name (i := 6) nd rfl (Or.inl rfl)) (pgs_cons (pg_name (i := 7) nd rfl (Or.inl rfl)) pgs_nil)))) (pss_one (ps_if (pt_cmpR op_gt (pe_callB call_len (by rfl) T.b_len (by decide +kernel) (pa_cons (pv 7) pa_nil)) pe_int (nomark _)) (pss_one (ps_set (i := 3) nd rfl (Or.inl rfl) (pe_op op_addA (pe_op op_addA (pe_slice sl_U (pv 3) po_none (po_some (pv 5))) (pe_lst (pa_cons (pe_tup (pa_cons (pv 6) (pa_cons (callP tk C_L_moved hr gd rfl T.g_L_moved (pa_cons (pv 1) (pa_cons (pv 7) (pa_cons (pv 6) (pa_cons (pv 2) pa_nil))))) pa_nil))) pa_nil))) (pe_slice sl_U (pv 3) (po_some (pe_op op_addA (pv 5) pe_int)) po_none)))) pss_nil))))) (pss_cons (ps_set (i := 8) nd rfl (Or.inl rfl) (callP tk C_L_first_message hr gd rfl T.g_L_first_message (pa_cons (pv 3) pa_nil))) (pss_cons (ps_for po rfl (pi_tup (pe_tup (pa_cons (pv 3) (pa_cons (callP tk C_L_lists_of hr gd rfl T.g_L_lists_of (pa_cons (pv 3) pa_nil)) pa_nil)))) (pg_name (i := 9) nd rfl (Or.inl rfl)) (pss_cons (ps_set (i := 10) nd rfl (Or.inl rfl) (callP tk C_L_bad_record hr gd rfl T.g_L_bad_record (pa_cons (pv 9) pa_nil))) (pss_cons (ps_if (PW.pt (pw_and (pt_cmpR op_notN (pv 8) pe_non (nomark _)) (pw_and1 (pt_not (pt_val (callP tk C_L_same hr gd rfl T.g_L_same (pa_cons (pv 10) (pa_cons (pv 8) pa_nil)))))))) (pss_one (ps_ret pe_bl)) pss_nil) (pss_one (ps_if (PW.pt (pw_and (pt_cmpR op_isN (pv 8) pe_non (nomark _)) (pw_and (pt_cmpR op_notN (pv 10) pe_non (nomark _)) (pw_and1 (pt_cmpR (op_neG hr.units) (pe_ix ix_seq (pv 10) pe_int (fun _ _ => rfl)) pe_str (nomark _)))))) (pss_one (ps_ret pe_bl)) pss_nil))))) (pss_one (ps_ret pe_bl))))))))
theorem pk_E_UnknownProcess {P : Program} {w : World} {K : Frag} {mg : Str → Option Value} {base : Heap} {k : Nat} (T : Tx K mg) (hX : ExcP P K mg "UnknownProcess" ["name"] d_E_UnknownProcess) (C_frozen : Pk P w K mg base k ("frozen", none) ["thing"] (sp_frozen K)) : PkE P w K mg base (k + 1) "UnknownProcess" ["name"] (sp_frozen K) := by
  obtain ⟨cc, c, SI, oc, od, osl, doc, pm, an, ct, lk⟩ := hX.sup
  refine ⟨_, ["self", "name"], fnG_exc (N := ["self", "name", "__class__"]) (ar := ((d_E_UnknownProcess.params.posonlyargs ++ d_E_UnknownProcess.params.args)[0]'(by decide))) hX.oex SI ⟨_, _, _, lk⟩ (show NdefX.NScope _ _ _ d_E_UnknownProcess.scope from NdefX.nscope_by (by decide +kernel)) rfl rfl rfl rfl rfl rfl hX.xok.no (fun A outer s H E hr gd tk => ⟨(pss_one (ps_ost (pv 0) (callP tk C_frozen hr gd (by rfl) T.g_frozen (pa_cons (pv 1) pa_nil)))), (pa_cons (pv 1) pa_nil)⟩), .all fun us hl => match us, hl with | [_, _], _ => rfl, hX.oex, hX.ini, hX.typ⟩
theorem pk_E_BadRecord {P : Program} {w : World} {K : Frag} {mg : Str → Option Value} {base : Heap} {k : Nat} (T : Tx K mg) (hX : ExcP P K mg "BadRecord" ["reason", "name", "number"] d_E_BadRecord) (C_frozen : Pk P w K mg base k ("frozen", none) ["thing"] (sp_frozen K)) : PkE P w K mg base (k + 1) "BadRecord" ["reason", "name", "number"] (sp_frozen K) := by
  obtain ⟨cc, c, SI, oc, od, osl, doc, pm, an, ct, lk⟩ := hX.sup
  refine ⟨_, ["self", "reason", "name", "number"], fnG_exc (N := ["self", "reason", "name", "number", "__class__"]) (ar := ((d_E_BadRecord.params.posonlyargs ++ d_E_BadRecord.params.args)[0]'(by decide))) hX.oex SI ⟨_, _, _, lk⟩ (show NdefX.NScope _ _ _ d_E_BadRecord.scope from NdefX.nscope_by (by decide +kernel)) rfl rfl rfl rfl rfl rfl hX.xok.no (fun A outer s H E hr gd tk => ⟨(pss_cons (ps_ost (pv 0) (callP tk C_frozen hr gd (by rfl) T.g_frozen (pa_cons (pv 1) pa_nil))) (pss_cons (ps_ost (pv 0) (callP tk C_frozen hr gd (by rfl) T.g_frozen (pa_cons (pv 2) pa_nil))) (pss_one (ps_ost (pv 0) (callP tk C_frozen hr gd (by rfl) T.g_frozen (pa_cons (pv 3) pa_nil)))))), (pa_cons (pv 1) (pa_cons (pv 2) (pa_cons (pv 3) pa_nil)))⟩), .all fun us hl => match us, hl with | [_, _, _, _], _ => rfl, hX.oex, hX.ini, hX.typ⟩
theorem pk_E_BadEvent {P : Program} {w : World} {K : Frag} {mg : Str → Option Value} {base : Heap} {k : Nat} (T : Tx K mg) (hX : ExcP P K mg "BadEvent" ["event"] d_E_BadEvent) (C_frozen : Pk P w K mg base k ("frozen", none) ["thing"] (sp_frozen K)) : PkE P w K mg base (k + 1) "BadEvent" ["event"] (sp_frozen K) := by
  obtain ⟨cc, c, SI, oc, od, osl, doc, pm, an, ct, lk⟩ := hX.sup
  refine ⟨_, ["self", "event"], fnG_exc (N := ["self", "event", "__class__"]) (ar := ((d_E_BadEvent.params.posonlyargs ++ d_E_BadEvent.params.args)[0]'(by decide))) hX.oex SI ⟨_, _, _, lk⟩ (show NdefX.NScope _ _ _ d_E_BadEvent.scope from NdefX.nscope_by (by decide +kernel)) rfl rfl rfl rfl rfl rfl hX.xok.no (fun A outer s H E hr gd tk => ⟨(pss_one (ps_ost (pv 0) (callP tk C_frozen hr gd (by rfl) T.g_frozen (pa_cons (pv 1) pa_nil)))), (pa_cons (pv 1) pa_nil)⟩), .all fun us hl => match us, hl with | [_, _], _ => rfl, hX.oex, hX.ini, hX.typ⟩
end K31

set_option Elab.async false
set_option linter.all false
set_option maxRecDepth 100000
set_option maxHeartbeats 4000000
namespace K31
open PySem PySem.Spec PyProof.Rows L2 DL
theorem facts {P : Program} {w : World} {K : Frag} {h : Heap} {mg : Str → Option Value} {f : Addr} (hP : PrgOk P file) (X : K.In h) (G : h.Ns mainGlobals mg) (hfa : mg ("law" : Str) = some (.ref f)) (c : SaysE fa fn ts sd ex w K) :
    ∃ fd : FuncData, (∀ (s : Shared) (v : Value), BindsTo s fd ⟨[v], []⟩ [("_law_script", v)]) ∧ ∀ base : Heap, FnG P w K mg base (L2.CX P w) 22 f fd ["_law_script"] (spLaw K) := by
  have T := tx X G c.t c.more
  have Y := ty c.t c.more
  have Z := te T hP c
  obtain ⟨fd, F⟩ := c.t.d.def_ 23 (d := d_law) rfl
  have e := hfa.symm.trans T.g_law
  cases e
  have b := FunD.bindsA (ps := ["_law_script"]) F fun _ _ _ _ _ _ us hl => match us, hl with | [_], _ => rfl
  refine ⟨fd, fun s v => b s [v] rfl, fun base => ?_⟩
  have R_frozen : ∀ n, Pk P w K mg base (2 + n) ("frozen", none) ["thing"] (spFz K n) := by
    intro n
    induction n with
    | zero => exact pk_frozen (k := 1) T (fun _ _ _ _ => False) ((pk_never (k := 0) (c.t.d.def_ 0 (d := d_frozen) rfl) sc_frozen fun fd F => F.bindsN fun _ _ _ _ _ _ us hl => match us, hl with | [_], _ => rfl).mono (by omega)) (by intro ds γ q e h; first | (obtain ⟨rfl, _⟩ := h; rfl) | (obtain ⟨_, rfl, _⟩ := h; rfl) | (obtain ⟨_, _, rfl, _⟩ := h; rfl) | (obtain ⟨_, _, _, rfl, _⟩ := h; rfl) | (obtain ⟨_, _, _, _, rfl, _⟩ := h; rfl) | (obtain ⟨_, _, _, _, _, rfl, _⟩ := h; rfl) | (obtain ⟨_, _, _, _, _, _, rfl, _⟩ := h; rfl) | (obtain ⟨_, _, _, _, _, _, _, rfl, _⟩ := h; rfl) | (obtain ⟨_, _, _, _, _, _, _, _, rfl, _⟩ := h; rfl) | (obtain ⟨_, _, _, _, _, _, _, _, _, rfl, _⟩ := h; rfl) | (obtain ⟨_, _, _, _, _, _, _, _, _, _, rfl, _⟩ := h; rfl) | (obtain ⟨_, _, _, _, _, _, _, _, _, _, _, rfl, _⟩ := h; rfl) | (obtain ⟨_, _, _, _, _, _, _, _, _, _, _, _, rfl, _⟩ := h; rfl)) (dl_frozen T _ 0 fun dp' h => by cases h) (c.t.d.def_ 0 (d := d_frozen) rfl)
    | succ n ih => exact pk_frozen (k := 2 + n) T (spFz K n) ((ih).mono (by omega)) (by intro ds γ q e h; first | (obtain ⟨rfl, _⟩ := h; rfl) | (obtain ⟨_, rfl, _⟩ := h; rfl) | (obtain ⟨_, _, rfl, _⟩ := h; rfl) | (obtain ⟨_, _, _, rfl, _⟩ := h; rfl) | (obtain ⟨_, _, _, _, rfl, _⟩ := h; rfl) | (obtain ⟨_, _, _, _, _, rfl, _⟩ := h; rfl) | (obtain ⟨_, _, _, _, _, _, rfl, _⟩ := h; rfl) | (obtain ⟨_, _, _, _, _, _, _, rfl, _⟩ := h; rfl) | (obtain ⟨_, _, _, _, _, _, _, _, rfl, _⟩ := h; rfl) | (obtain ⟨_, _, _, _, _, _, _, _, _, rfl, _⟩ := h; rfl) | (obtain ⟨_, _, _, _, _, _, _, _, _, _, rfl, _⟩ := h; rfl) | (obtain ⟨_, _, _, _, _, _, _, _, _, _, _, rfl, _⟩ := h; rfl) | (obtain ⟨_, _, _, _, _, _, _, _, _, _, _, _, rfl, _⟩ := h; rfl)) (dl_frozen T _ (n + 1) fun dp' h ds γ q e hh => by cases h; exact hh) (c.t.d.def_ 0 (d := d_frozen) rfl)
  have C_frozen : Pk P w K mg base (14) ("frozen", none) ["thing"] (sp_frozen K) := (R_frozen 12).mono (by decide)
  have E_BadRecord : PkE P w K mg base 15 "BadRecord" ["reason", "name", "number"] (sp_frozen K) := pk_E_BadRecord (k := 14) T Z.x_BadRecord (C_frozen.mono (by decide))
  have C_is_integer : Pk P w K mg base (1) ("is_integer", none) ["thing"] (sp_is_integer K) := pk_is_integer (k := 0) T (by intro ds γ q e h; first | (obtain ⟨rfl, _⟩ := h; rfl) | (obtain ⟨_, rfl, _⟩ := h; rfl) | (obtain ⟨_, _, rfl, _⟩ := h; rfl) | (obtain ⟨_, _, _, rfl, _⟩ := h; rfl) | (obtain ⟨_, _, _, _, rfl, _⟩ := h; rfl) | (obtain ⟨_, _, _, _, _, rfl, _⟩ := h; rfl) | (obtain ⟨_, _, _, _, _, _, rfl, _⟩ := h; rfl) | (obtain ⟨_, _, _, _, _, _, _, rfl, _⟩ := h; rfl) | (obtain ⟨_, _, _, _, _, _, _, _, rfl, _⟩ := h; rfl) | (obtain ⟨_, _, _, _, _, _, _, _, _, rfl, _⟩ := h; rfl) | (obtain ⟨_, _, _, _, _, _, _, _, _, _, rfl, _⟩ := h; rfl) | (obtain ⟨_, _, _, _, _, _, _, _, _, _, _, rfl, _⟩ := h; rfl) | (obtain ⟨_, _, _, _, _, _, _, _, _, _, _, _, rfl, _⟩ := h; rfl)) (dl_is_integer T) (c.t.d.def_ 1 (d := d_is_integer) rfl)
  have C_is_small : Pk P w K mg base (2) ("is_small", none) ["thing"] (sp_is_small K) := pk_is_small (k := 1) T ((C_is_integer).mono (by decide)) (by intro ds γ q e h; first | (obtain ⟨rfl, _⟩ := h; rfl) | (obtain ⟨_, rfl, _⟩ := h; rfl) | (obtain ⟨_, _, rfl, _⟩ := h; rfl) | (obtain ⟨_, _, _, rfl, _⟩ := h; rfl) | (obtain ⟨_, _, _, _, rfl, _⟩ := h; rfl) | (obtain ⟨_, _, _, _, _, rfl, _⟩ := h; rfl) | (obtain ⟨_, _, _, _, _, _, rfl, _⟩ := h; rfl) | (obtain ⟨_, _, _, _, _, _, _, rfl, _⟩ := h; rfl) | (obtain ⟨_, _, _, _, _, _, _, _, rfl, _⟩ := h; rfl) | (obtain ⟨_, _, _, _, _, _, _, _, _, rfl, _⟩ := h; rfl) | (obtain ⟨_, _, _, _, _, _, _, _, _, _, rfl, _⟩ := h; rfl) | (obtain ⟨_, _, _, _, _, _, _, _, _, _, _, rfl, _⟩ := h; rfl) | (obtain ⟨_, _, _, _, _, _, _, _, _, _, _, _, rfl, _⟩ := h; rfl)) (dl_is_small T) (c.t.d.def_ 2 (d := d_is_small) rfl)
  have C_is_name : Pk P w K mg base (1) ("is_name", none) ["thing"] (sp_is_name K) := pk_is_name (k := 0) T (by intro ds γ q e h; first | (obtain ⟨rfl, _⟩ := h; rfl) | (obtain ⟨_, rfl, _⟩ := h; rfl) | (obtain ⟨_, _, rfl, _⟩ := h; rfl) | (obtain ⟨_, _, _, rfl, _⟩ := h; rfl) | (obtain ⟨_, _, _, _, rfl, _⟩ := h; rfl) | (obtain ⟨_, _, _, _, _, rfl, _⟩ := h; rfl) | (obtain ⟨_, _, _, _, _, _, rfl, _⟩ := h; rfl) | (obtain ⟨_, _, _, _, _, _, _, rfl, _⟩ := h; rfl) | (obtain ⟨_, _, _, _, _, _, _, _, rfl, _⟩ := h; rfl) | (obtain ⟨_, _, _, _, _, _, _, _, _, rfl, _⟩ := h; rfl) | (obtain ⟨_, _, _, _, _, _, _, _, _, _, rfl, _⟩ := h; rfl) | (obtain ⟨_, _, _, _, _, _, _, _, _, _, _, rfl, _⟩ := h; rfl) | (obtain ⟨_, _, _, _, _, _, _, _, _, _, _, _, rfl, _⟩ := h; rfl)) (dl_is_name T) (c.t.d.def_ 3 (d := d_is_name) rfl)
  have C_check_rows : Pk P w K mg base (17) ("check_rows", none) ["rows"] (sp_check_rows K) := pk_check_rows (k := 16) (j := 15) T ((C_is_name).mono (by decide)) E_BadRecord (by decide) (by intro ds γ q e h; first | (obtain ⟨rfl, _⟩ := h; rfl) | (obtain ⟨_, rfl, _⟩ := h; rfl) | (obtain ⟨_, _, rfl, _⟩ := h; rfl) | (obtain ⟨_, _, _, rfl, _⟩ := h; rfl) | (obtain ⟨_, _, _, _, rfl, _⟩ := h; rfl) | (obtain ⟨_, _, _, _, _, rfl, _⟩ := h; rfl) | (obtain ⟨_, _, _, _, _, _, rfl, _⟩ := h; rfl) | (obtain ⟨_, _, _, _, _, _, _, rfl, _⟩ := h; rfl) | (obtain ⟨_, _, _, _, _, _, _, _, rfl, _⟩ := h; rfl) | (obtain ⟨_, _, _, _, _, _, _, _, _, rfl, _⟩ := h; rfl) | (obtain ⟨_, _, _, _, _, _, _, _, _, _, rfl, _⟩ := h; rfl) | (obtain ⟨_, _, _, _, _, _, _, _, _, _, _, rfl, _⟩ := h; rfl) | (obtain ⟨_, _, _, _, _, _, _, _, _, _, _, _, rfl, _⟩ := h; rfl)) (dl_check_rows T Z) (c.t.d.def_ 4 (d := d_check_rows) rfl)
  have C_fits : Pk P w K mg base (3) ("fits", none) ["kind", "part", "name", "names"] (sp_fits K) := pk_fits (k := 2) T ((C_is_name).mono (by decide)) ((C_is_small).mono (by decide)) (by intro ds γ q e h; first | (obtain ⟨rfl, _⟩ := h; rfl) | (obtain ⟨_, rfl, _⟩ := h; rfl) | (obtain ⟨_, _, rfl, _⟩ := h; rfl) | (obtain ⟨_, _, _, rfl, _⟩ := h; rfl) | (obtain ⟨_, _, _, _, rfl, _⟩ := h; rfl) | (obtain ⟨_, _, _, _, _, rfl, _⟩ := h; rfl) | (obtain ⟨_, _, _, _, _, _, rfl, _⟩ := h; rfl) | (obtain ⟨_, _, _, _, _, _, _, rfl, _⟩ := h; rfl) | (obtain ⟨_, _, _, _, _, _, _, _, rfl, _⟩ := h; rfl) | (obtain ⟨_, _, _, _, _, _, _, _, _, rfl, _⟩ := h; rfl) | (obtain ⟨_, _, _, _, _, _, _, _, _, _, rfl, _⟩ := h; rfl) | (obtain ⟨_, _, _, _, _, _, _, _, _, _, _, rfl, _⟩ := h; rfl) | (obtain ⟨_, _, _, _, _, _, _, _, _, _, _, _, rfl, _⟩ := h; rfl)) (dl_fits T) (c.t.d.def_ 5 (d := d_fits) rfl)
  have C_is_form : Pk P w K mg base (4) ("is_form", none) ["event", "name", "names"] (sp_is_form K) := pk_is_form (k := 3) T Y ((C_fits).mono (by decide)) (by intro ds γ q e h; first | (obtain ⟨rfl, _⟩ := h; rfl) | (obtain ⟨_, rfl, _⟩ := h; rfl) | (obtain ⟨_, _, rfl, _⟩ := h; rfl) | (obtain ⟨_, _, _, rfl, _⟩ := h; rfl) | (obtain ⟨_, _, _, _, rfl, _⟩ := h; rfl) | (obtain ⟨_, _, _, _, _, rfl, _⟩ := h; rfl) | (obtain ⟨_, _, _, _, _, _, rfl, _⟩ := h; rfl) | (obtain ⟨_, _, _, _, _, _, _, rfl, _⟩ := h; rfl) | (obtain ⟨_, _, _, _, _, _, _, _, rfl, _⟩ := h; rfl) | (obtain ⟨_, _, _, _, _, _, _, _, _, rfl, _⟩ := h; rfl) | (obtain ⟨_, _, _, _, _, _, _, _, _, _, rfl, _⟩ := h; rfl) | (obtain ⟨_, _, _, _, _, _, _, _, _, _, _, rfl, _⟩ := h; rfl) | (obtain ⟨_, _, _, _, _, _, _, _, _, _, _, _, rfl, _⟩ := h; rfl)) (dl_is_form T) (c.t.d.def_ 6 (d := d_is_form) rfl)
  have C_check_events : Pk P w K mg base (17) ("check_events", none) ["rows"] (sp_check_events K) := pk_check_events (k := 16) (j := 15) T ((C_is_form).mono (by decide)) E_BadRecord (by decide) (by intro ds γ q e h; first | (obtain ⟨rfl, _⟩ := h; rfl) | (obtain ⟨_, rfl, _⟩ := h; rfl) | (obtain ⟨_, _, rfl, _⟩ := h; rfl) | (obtain ⟨_, _, _, rfl, _⟩ := h; rfl) | (obtain ⟨_, _, _, _, rfl, _⟩ := h; rfl) | (obtain ⟨_, _, _, _, _, rfl, _⟩ := h; rfl) | (obtain ⟨_, _, _, _, _, _, rfl, _⟩ := h; rfl) | (obtain ⟨_, _, _, _, _, _, _, rfl, _⟩ := h; rfl) | (obtain ⟨_, _, _, _, _, _, _, _, rfl, _⟩ := h; rfl) | (obtain ⟨_, _, _, _, _, _, _, _, _, rfl, _⟩ := h; rfl) | (obtain ⟨_, _, _, _, _, _, _, _, _, _, rfl, _⟩ := h; rfl) | (obtain ⟨_, _, _, _, _, _, _, _, _, _, _, rfl, _⟩ := h; rfl) | (obtain ⟨_, _, _, _, _, _, _, _, _, _, _, _, rfl, _⟩ := h; rfl)) (dl_check_events T Z) (c.t.d.def_ 7 (d := d_check_events) rfl)
  have C_sends_of : Pk P w K mg base (1) ("sends_of", none) ["rows"] (sp_sends_of K) := pk_sends_of (k := 0) T (by intro ds γ q e h; first | (obtain ⟨rfl, _⟩ := h; rfl) | (obtain ⟨_, rfl, _⟩ := h; rfl) | (obtain ⟨_, _, rfl, _⟩ := h; rfl) | (obtain ⟨_, _, _, rfl, _⟩ := h; rfl) | (obtain ⟨_, _, _, _, rfl, _⟩ := h; rfl) | (obtain ⟨_, _, _, _, _, rfl, _⟩ := h; rfl) | (obtain ⟨_, _, _, _, _, _, rfl, _⟩ := h; rfl) | (obtain ⟨_, _, _, _, _, _, _, rfl, _⟩ := h; rfl) | (obtain ⟨_, _, _, _, _, _, _, _, rfl, _⟩ := h; rfl) | (obtain ⟨_, _, _, _, _, _, _, _, _, rfl, _⟩ := h; rfl) | (obtain ⟨_, _, _, _, _, _, _, _, _, _, rfl, _⟩ := h; rfl) | (obtain ⟨_, _, _, _, _, _, _, _, _, _, _, rfl, _⟩ := h; rfl) | (obtain ⟨_, _, _, _, _, _, _, _, _, _, _, _, rfl, _⟩ := h; rfl)) (dl_sends_of T) (c.t.d.def_ 8 (d := d_sends_of) rfl)
  have C_linked : Pk P w K mg base (17) ("linked", none) ["rows"] (sp_linked K) := pk_linked (k := 16) (j := 15) T ((C_sends_of).mono (by decide)) E_BadRecord (by decide) (by intro ds γ q e h; first | (obtain ⟨rfl, _⟩ := h; rfl) | (obtain ⟨_, rfl, _⟩ := h; rfl) | (obtain ⟨_, _, rfl, _⟩ := h; rfl) | (obtain ⟨_, _, _, rfl, _⟩ := h; rfl) | (obtain ⟨_, _, _, _, rfl, _⟩ := h; rfl) | (obtain ⟨_, _, _, _, _, rfl, _⟩ := h; rfl) | (obtain ⟨_, _, _, _, _, _, rfl, _⟩ := h; rfl) | (obtain ⟨_, _, _, _, _, _, _, rfl, _⟩ := h; rfl) | (obtain ⟨_, _, _, _, _, _, _, _, rfl, _⟩ := h; rfl) | (obtain ⟨_, _, _, _, _, _, _, _, _, rfl, _⟩ := h; rfl) | (obtain ⟨_, _, _, _, _, _, _, _, _, _, rfl, _⟩ := h; rfl) | (obtain ⟨_, _, _, _, _, _, _, _, _, _, _, rfl, _⟩ := h; rfl) | (obtain ⟨_, _, _, _, _, _, _, _, _, _, _, _, rfl, _⟩ := h; rfl)) (dl_linked T Z) (c.t.d.def_ 9 (d := d_linked) rfl)
  have C_executable : Pk P w K mg base (1) ("executable", none) ["rows", "links"] (sp_executable K) := pk_executable (k := 0) T (by intro ds γ q e h; first | (obtain ⟨rfl, _⟩ := h; rfl) | (obtain ⟨_, rfl, _⟩ := h; rfl) | (obtain ⟨_, _, rfl, _⟩ := h; rfl) | (obtain ⟨_, _, _, rfl, _⟩ := h; rfl) | (obtain ⟨_, _, _, _, rfl, _⟩ := h; rfl) | (obtain ⟨_, _, _, _, _, rfl, _⟩ := h; rfl) | (obtain ⟨_, _, _, _, _, _, rfl, _⟩ := h; rfl) | (obtain ⟨_, _, _, _, _, _, _, rfl, _⟩ := h; rfl) | (obtain ⟨_, _, _, _, _, _, _, _, rfl, _⟩ := h; rfl) | (obtain ⟨_, _, _, _, _, _, _, _, _, rfl, _⟩ := h; rfl) | (obtain ⟨_, _, _, _, _, _, _, _, _, _, rfl, _⟩ := h; rfl) | (obtain ⟨_, _, _, _, _, _, _, _, _, _, _, rfl, _⟩ := h; rfl) | (obtain ⟨_, _, _, _, _, _, _, _, _, _, _, _, rfl, _⟩ := h; rfl)) (dl_executable T) (c.t.d.def_ 10 (d := d_executable) rfl)
  have C_Record_init : Pk P w K mg base (18) ("Record", some "__init__") ["self", "rows"] (sp_Record_init K) := pk_Record_init (k := 17) (j := 15) T ((C_frozen).mono (by decide)) ((C_check_rows).mono (by decide)) ((C_check_events).mono (by decide)) ((C_linked).mono (by decide)) ((C_executable).mono (by decide)) E_BadRecord (by decide) (by intro ds γ q e h; first | (obtain ⟨rfl, _⟩ := h; rfl) | (obtain ⟨_, rfl, _⟩ := h; rfl) | (obtain ⟨_, _, rfl, _⟩ := h; rfl) | (obtain ⟨_, _, _, rfl, _⟩ := h; rfl) | (obtain ⟨_, _, _, _, rfl, _⟩ := h; rfl) | (obtain ⟨_, _, _, _, _, rfl, _⟩ := h; rfl) | (obtain ⟨_, _, _, _, _, _, rfl, _⟩ := h; rfl) | (obtain ⟨_, _, _, _, _, _, _, rfl, _⟩ := h; rfl) | (obtain ⟨_, _, _, _, _, _, _, _, rfl, _⟩ := h; rfl) | (obtain ⟨_, _, _, _, _, _, _, _, _, rfl, _⟩ := h; rfl) | (obtain ⟨_, _, _, _, _, _, _, _, _, _, rfl, _⟩ := h; rfl) | (obtain ⟨_, _, _, _, _, _, _, _, _, _, _, rfl, _⟩ := h; rfl) | (obtain ⟨_, _, _, _, _, _, _, _, _, _, _, _, rfl, _⟩ := h; rfl)) (dl_Record_init T Z) (c.t.d.def_ 11 (d := d_Record_init) rfl)
  have C_L_draw : Pk P w K mg base (1) ("_law_draw", none) ["_law_stream", "_law_many"] (sp_L_draw K) := pk_L_draw (k := 0) T (by intro ds γ q e h; first | (obtain ⟨rfl, _⟩ := h; rfl) | (obtain ⟨_, rfl, _⟩ := h; rfl) | (obtain ⟨_, _, rfl, _⟩ := h; rfl) | (obtain ⟨_, _, _, rfl, _⟩ := h; rfl) | (obtain ⟨_, _, _, _, rfl, _⟩ := h; rfl) | (obtain ⟨_, _, _, _, _, rfl, _⟩ := h; rfl) | (obtain ⟨_, _, _, _, _, _, rfl, _⟩ := h; rfl) | (obtain ⟨_, _, _, _, _, _, _, rfl, _⟩ := h; rfl) | (obtain ⟨_, _, _, _, _, _, _, _, rfl, _⟩ := h; rfl) | (obtain ⟨_, _, _, _, _, _, _, _, _, rfl, _⟩ := h; rfl) | (obtain ⟨_, _, _, _, _, _, _, _, _, _, rfl, _⟩ := h; rfl) | (obtain ⟨_, _, _, _, _, _, _, _, _, _, _, rfl, _⟩ := h; rfl) | (obtain ⟨_, _, _, _, _, _, _, _, _, _, _, _, rfl, _⟩ := h; rfl)) (dl_L_draw T) (c.t.d.def_ 12 (d := d_L_draw) rfl)
  have C_L_value : Pk P w K mg base (2) ("_law_value", none) ["_law_stream"] (sp_L_value K) := pk_L_value (k := 1) T ((C_L_draw).mono (by decide)) (by intro ds γ q e h; first | (obtain ⟨rfl, _⟩ := h; rfl) | (obtain ⟨_, rfl, _⟩ := h; rfl) | (obtain ⟨_, _, rfl, _⟩ := h; rfl) | (obtain ⟨_, _, _, rfl, _⟩ := h; rfl) | (obtain ⟨_, _, _, _, rfl, _⟩ := h; rfl) | (obtain ⟨_, _, _, _, _, rfl, _⟩ := h; rfl) | (obtain ⟨_, _, _, _, _, _, rfl, _⟩ := h; rfl) | (obtain ⟨_, _, _, _, _, _, _, rfl, _⟩ := h; rfl) | (obtain ⟨_, _, _, _, _, _, _, _, rfl, _⟩ := h; rfl) | (obtain ⟨_, _, _, _, _, _, _, _, _, rfl, _⟩ := h; rfl) | (obtain ⟨_, _, _, _, _, _, _, _, _, _, rfl, _⟩ := h; rfl) | (obtain ⟨_, _, _, _, _, _, _, _, _, _, _, rfl, _⟩ := h; rfl) | (obtain ⟨_, _, _, _, _, _, _, _, _, _, _, _, rfl, _⟩ := h; rfl)) (dl_L_value T) (c.t.d.def_ 13 (d := d_L_value) rfl)
  have C_L_event : Pk P w K mg base (3) ("_law_event", none) ["_law_stream", "_law_names", "_law_at", "_law_queues"] (sp_L_event K) := pk_L_event (k := 2) T ((C_L_draw).mono (by decide)) ((C_L_value).mono (by decide)) (by intro ds γ q e h; first | (obtain ⟨rfl, _⟩ := h; rfl) | (obtain ⟨_, rfl, _⟩ := h; rfl) | (obtain ⟨_, _, rfl, _⟩ := h; rfl) | (obtain ⟨_, _, _, rfl, _⟩ := h; rfl) | (obtain ⟨_, _, _, _, rfl, _⟩ := h; rfl) | (obtain ⟨_, _, _, _, _, rfl, _⟩ := h; rfl) | (obtain ⟨_, _, _, _, _, _, rfl, _⟩ := h; rfl) | (obtain ⟨_, _, _, _, _, _, _, rfl, _⟩ := h; rfl) | (obtain ⟨_, _, _, _, _, _, _, _, rfl, _⟩ := h; rfl) | (obtain ⟨_, _, _, _, _, _, _, _, _, rfl, _⟩ := h; rfl) | (obtain ⟨_, _, _, _, _, _, _, _, _, _, rfl, _⟩ := h; rfl) | (obtain ⟨_, _, _, _, _, _, _, _, _, _, _, rfl, _⟩ := h; rfl) | (obtain ⟨_, _, _, _, _, _, _, _, _, _, _, _, rfl, _⟩ := h; rfl)) (dl_L_event T) (c.t.d.def_ 14 (d := d_L_event) rfl)
  have C_L_rows : Pk P w K mg base (4) ("_law_rows", none) ["_law_stream", "_law_names", "_law_many"] (sp_L_rows K) := pk_L_rows (k := 3) T ((C_L_draw).mono (by decide)) ((C_L_event).mono (by decide)) (by intro ds γ q e h; first | (obtain ⟨rfl, _⟩ := h; rfl) | (obtain ⟨_, rfl, _⟩ := h; rfl) | (obtain ⟨_, _, rfl, _⟩ := h; rfl) | (obtain ⟨_, _, _, rfl, _⟩ := h; rfl) | (obtain ⟨_, _, _, _, rfl, _⟩ := h; rfl) | (obtain ⟨_, _, _, _, _, rfl, _⟩ := h; rfl) | (obtain ⟨_, _, _, _, _, _, rfl, _⟩ := h; rfl) | (obtain ⟨_, _, _, _, _, _, _, rfl, _⟩ := h; rfl) | (obtain ⟨_, _, _, _, _, _, _, _, rfl, _⟩ := h; rfl) | (obtain ⟨_, _, _, _, _, _, _, _, _, rfl, _⟩ := h; rfl) | (obtain ⟨_, _, _, _, _, _, _, _, _, _, rfl, _⟩ := h; rfl) | (obtain ⟨_, _, _, _, _, _, _, _, _, _, _, rfl, _⟩ := h; rfl) | (obtain ⟨_, _, _, _, _, _, _, _, _, _, _, _, rfl, _⟩ := h; rfl)) (dl_L_rows T) (c.t.d.def_ 15 (d := d_L_rows) rfl)
  have C_L_word : Pk P w K mg base (2) ("_law_word", none) ["_law_stream"] (sp_L_word K) := pk_L_word (k := 1) T ((C_L_draw).mono (by decide)) (by intro ds γ q e h; first | (obtain ⟨rfl, _⟩ := h; rfl) | (obtain ⟨_, rfl, _⟩ := h; rfl) | (obtain ⟨_, _, rfl, _⟩ := h; rfl) | (obtain ⟨_, _, _, rfl, _⟩ := h; rfl) | (obtain ⟨_, _, _, _, rfl, _⟩ := h; rfl) | (obtain ⟨_, _, _, _, _, rfl, _⟩ := h; rfl) | (obtain ⟨_, _, _, _, _, _, rfl, _⟩ := h; rfl) | (obtain ⟨_, _, _, _, _, _, _, rfl, _⟩ := h; rfl) | (obtain ⟨_, _, _, _, _, _, _, _, rfl, _⟩ := h; rfl) | (obtain ⟨_, _, _, _, _, _, _, _, _, rfl, _⟩ := h; rfl) | (obtain ⟨_, _, _, _, _, _, _, _, _, _, rfl, _⟩ := h; rfl) | (obtain ⟨_, _, _, _, _, _, _, _, _, _, _, rfl, _⟩ := h; rfl) | (obtain ⟨_, _, _, _, _, _, _, _, _, _, _, _, rfl, _⟩ := h; rfl)) (dl_L_word T) (c.t.d.def_ 16 (d := d_L_word) rfl)
  have C_L_words : Pk P w K mg base (3) ("_law_words", none) ["_law_stream", "_law_many"] (sp_L_words K) := pk_L_words (k := 2) T ((C_L_word).mono (by decide)) (by intro ds γ q e h; first | (obtain ⟨rfl, _⟩ := h; rfl) | (obtain ⟨_, rfl, _⟩ := h; rfl) | (obtain ⟨_, _, rfl, _⟩ := h; rfl) | (obtain ⟨_, _, _, rfl, _⟩ := h; rfl) | (obtain ⟨_, _, _, _, rfl, _⟩ := h; rfl) | (obtain ⟨_, _, _, _, _, rfl, _⟩ := h; rfl) | (obtain ⟨_, _, _, _, _, _, rfl, _⟩ := h; rfl) | (obtain ⟨_, _, _, _, _, _, _, rfl, _⟩ := h; rfl) | (obtain ⟨_, _, _, _, _, _, _, _, rfl, _⟩ := h; rfl) | (obtain ⟨_, _, _, _, _, _, _, _, _, rfl, _⟩ := h; rfl) | (obtain ⟨_, _, _, _, _, _, _, _, _, _, rfl, _⟩ := h; rfl) | (obtain ⟨_, _, _, _, _, _, _, _, _, _, _, rfl, _⟩ := h; rfl) | (obtain ⟨_, _, _, _, _, _, _, _, _, _, _, _, rfl, _⟩ := h; rfl)) (dl_L_words T) (c.t.d.def_ 17 (d := d_L_words) rfl)
  have R_L_same : ∀ n, Pk P w K mg base (2 + n) ("_law_same", none) ["_law_found", "_law_due"] (spSame K n) := by
    intro n
    induction n with
    | zero => exact pk_L_same (k := 1) T (fun _ _ _ _ => False) ((pk_never (k := 0) (c.t.d.def_ 18 (d := d_L_same) rfl) sc_L_same fun fd F => F.bindsN fun _ _ _ _ _ _ us hl => match us, hl with | [_, _], _ => rfl).mono (by omega)) (by intro ds γ q e h; first | (obtain ⟨rfl, _⟩ := h; rfl) | (obtain ⟨_, rfl, _⟩ := h; rfl) | (obtain ⟨_, _, rfl, _⟩ := h; rfl) | (obtain ⟨_, _, _, rfl, _⟩ := h; rfl) | (obtain ⟨_, _, _, _, rfl, _⟩ := h; rfl) | (obtain ⟨_, _, _, _, _, rfl, _⟩ := h; rfl) | (obtain ⟨_, _, _, _, _, _, rfl, _⟩ := h; rfl) | (obtain ⟨_, _, _, _, _, _, _, rfl, _⟩ := h; rfl) | (obtain ⟨_, _, _, _, _, _, _, _, rfl, _⟩ := h; rfl) | (obtain ⟨_, _, _, _, _, _, _, _, _, rfl, _⟩ := h; rfl) | (obtain ⟨_, _, _, _, _, _, _, _, _, _, rfl, _⟩ := h; rfl) | (obtain ⟨_, _, _, _, _, _, _, _, _, _, _, rfl, _⟩ := h; rfl) | (obtain ⟨_, _, _, _, _, _, _, _, _, _, _, _, rfl, _⟩ := h; rfl)) (dl_L_same T _ 0 fun dp' h => by cases h) (c.t.d.def_ 18 (d := d_L_same) rfl)
    | succ n ih => exact pk_L_same (k := 2 + n) T (spSame K n) ((ih).mono (by omega)) (by intro ds γ q e h; first | (obtain ⟨rfl, _⟩ := h; rfl) | (obtain ⟨_, rfl, _⟩ := h; rfl) | (obtain ⟨_, _, rfl, _⟩ := h; rfl) | (obtain ⟨_, _, _, rfl, _⟩ := h; rfl) | (obtain ⟨_, _, _, _, rfl, _⟩ := h; rfl) | (obtain ⟨_, _, _, _, _, rfl, _⟩ := h; rfl) | (obtain ⟨_, _, _, _, _, _, rfl, _⟩ := h; rfl) | (obtain ⟨_, _, _, _, _, _, _, rfl, _⟩ := h; rfl) | (obtain ⟨_, _, _, _, _, _, _, _, rfl, _⟩ := h; rfl) | (obtain ⟨_, _, _, _, _, _, _, _, _, rfl, _⟩ := h; rfl) | (obtain ⟨_, _, _, _, _, _, _, _, _, _, rfl, _⟩ := h; rfl) | (obtain ⟨_, _, _, _, _, _, _, _, _, _, _, rfl, _⟩ := h; rfl) | (obtain ⟨_, _, _, _, _, _, _, _, _, _, _, _, rfl, _⟩ := h; rfl)) (dl_L_same T _ (n + 1) fun dp' h ds γ q e hh => by cases h; exact hh) (c.t.d.def_ 18 (d := d_L_same) rfl)
  have C_L_same : Pk P w K mg base (14) ("_law_same", none) ["_law_found", "_law_due"] (sp_L_same K) := (R_L_same 12).mono (by decide)
  have R_L_lists_of : ∀ n, Pk P w K mg base (2 + n) ("_law_lists_of", none) ["_law_thing"] (spLs K n) := by
    intro n
    induction n with
    | zero => exact pk_L_lists_of (k := 1) T (fun _ _ _ _ => False) ((pk_never (k := 0) (c.t.d.def_ 19 (d := d_L_lists_of) rfl) sc_L_lists_of fun fd F => F.bindsN fun _ _ _ _ _ _ us hl => match us, hl with | [_], _ => rfl).mono (by omega)) (by intro ds γ q e h; first | (obtain ⟨rfl, _⟩ := h; rfl) | (obtain ⟨_, rfl, _⟩ := h; rfl) | (obtain ⟨_, _, rfl, _⟩ := h; rfl) | (obtain ⟨_, _, _, rfl, _⟩ := h; rfl) | (obtain ⟨_, _, _, _, rfl, _⟩ := h; rfl) | (obtain ⟨_, _, _, _, _, rfl, _⟩ := h; rfl) | (obtain ⟨_, _, _, _, _, _, rfl, _⟩ := h; rfl) | (obtain ⟨_, _, _, _, _, _, _, rfl, _⟩ := h; rfl) | (obtain ⟨_, _, _, _, _, _, _, _, rfl, _⟩ := h; rfl) | (obtain ⟨_, _, _, _, _, _, _, _, _, rfl, _⟩ := h; rfl) | (obtain ⟨_, _, _, _, _, _, _, _, _, _, rfl, _⟩ := h; rfl) | (obtain ⟨_, _, _, _, _, _, _, _, _, _, _, rfl, _⟩ := h; rfl) | (obtain ⟨_, _, _, _, _, _, _, _, _, _, _, _, rfl, _⟩ := h; rfl)) (dl_L_lists_of T _ 0 fun dp' h => by cases h) (c.t.d.def_ 19 (d := d_L_lists_of) rfl)
    | succ n ih => exact pk_L_lists_of (k := 2 + n) T (spLs K n) ((ih).mono (by omega)) (by intro ds γ q e h; first | (obtain ⟨rfl, _⟩ := h; rfl) | (obtain ⟨_, rfl, _⟩ := h; rfl) | (obtain ⟨_, _, rfl, _⟩ := h; rfl) | (obtain ⟨_, _, _, rfl, _⟩ := h; rfl) | (obtain ⟨_, _, _, _, rfl, _⟩ := h; rfl) | (obtain ⟨_, _, _, _, _, rfl, _⟩ := h; rfl) | (obtain ⟨_, _, _, _, _, _, rfl, _⟩ := h; rfl) | (obtain ⟨_, _, _, _, _, _, _, rfl, _⟩ := h; rfl) | (obtain ⟨_, _, _, _, _, _, _, _, rfl, _⟩ := h; rfl) | (obtain ⟨_, _, _, _, _, _, _, _, _, rfl, _⟩ := h; rfl) | (obtain ⟨_, _, _, _, _, _, _, _, _, _, rfl, _⟩ := h; rfl) | (obtain ⟨_, _, _, _, _, _, _, _, _, _, _, rfl, _⟩ := h; rfl) | (obtain ⟨_, _, _, _, _, _, _, _, _, _, _, _, rfl, _⟩ := h; rfl)) (dl_L_lists_of T _ (n + 1) fun dp' h ds γ q e hh => by cases h; exact hh) (c.t.d.def_ 19 (d := d_L_lists_of) rfl)
  have C_L_lists_of : Pk P w K mg base (14) ("_law_lists_of", none) ["_law_thing"] (sp_L_lists_of K) := (R_L_lists_of 12).mono (by decide)
  have C_L_first_message : Pk P w K mg base (1) ("_law_first_message", none) ["_law_rows_here"] (sp_L_first_message K) := pk_L_first_message (k := 0) T (by intro ds γ q e h; first | (obtain ⟨rfl, _⟩ := h; rfl) | (obtain ⟨_, rfl, _⟩ := h; rfl) | (obtain ⟨_, _, rfl, _⟩ := h; rfl) | (obtain ⟨_, _, _, rfl, _⟩ := h; rfl) | (obtain ⟨_, _, _, _, rfl, _⟩ := h; rfl) | (obtain ⟨_, _, _, _, _, rfl, _⟩ := h; rfl) | (obtain ⟨_, _, _, _, _, _, rfl, _⟩ := h; rfl) | (obtain ⟨_, _, _, _, _, _, _, rfl, _⟩ := h; rfl) | (obtain ⟨_, _, _, _, _, _, _, _, rfl, _⟩ := h; rfl) | (obtain ⟨_, _, _, _, _, _, _, _, _, rfl, _⟩ := h; rfl) | (obtain ⟨_, _, _, _, _, _, _, _, _, _, rfl, _⟩ := h; rfl) | (obtain ⟨_, _, _, _, _, _, _, _, _, _, _, rfl, _⟩ := h; rfl) | (obtain ⟨_, _, _, _, _, _, _, _, _, _, _, _, rfl, _⟩ := h; rfl)) (dl_L_first_message T) (c.t.d.def_ 21 (d := d_L_first_message) rfl)
  have C_L_moved : Pk P w K mg base (2) ("_law_moved", none) ["_law_stream", "_law_events", "_law_name", "_law_names"] (sp_L_moved K) := pk_L_moved (k := 1) T ((C_L_draw).mono (by decide)) (by intro ds γ q e h; first | (obtain ⟨rfl, _⟩ := h; rfl) | (obtain ⟨_, rfl, _⟩ := h; rfl) | (obtain ⟨_, _, rfl, _⟩ := h; rfl) | (obtain ⟨_, _, _, rfl, _⟩ := h; rfl) | (obtain ⟨_, _, _, _, rfl, _⟩ := h; rfl) | (obtain ⟨_, _, _, _, _, rfl, _⟩ := h; rfl) | (obtain ⟨_, _, _, _, _, _, rfl, _⟩ := h; rfl) | (obtain ⟨_, _, _, _, _, _, _, rfl, _⟩ := h; rfl) | (obtain ⟨_, _, _, _, _, _, _, _, rfl, _⟩ := h; rfl) | (obtain ⟨_, _, _, _, _, _, _, _, _, rfl, _⟩ := h; rfl) | (obtain ⟨_, _, _, _, _, _, _, _, _, _, rfl, _⟩ := h; rfl) | (obtain ⟨_, _, _, _, _, _, _, _, _, _, _, rfl, _⟩ := h; rfl) | (obtain ⟨_, _, _, _, _, _, _, _, _, _, _, _, rfl, _⟩ := h; rfl)) (dl_L_moved T) (c.t.d.def_ 22 (d := d_L_moved) rfl)
  have C_L_bad_record : Pk P w K mg base (20) ("_law_bad_record", none) ["_law_rows_here"] (sp_L_bad_record K) := pk_L_bad_record (k := 19) (j := 18) T C_Record_init (by decide) (by intro ds γ q e h; first | (obtain ⟨rfl, _⟩ := h; rfl) | (obtain ⟨_, rfl, _⟩ := h; rfl) | (obtain ⟨_, _, rfl, _⟩ := h; rfl) | (obtain ⟨_, _, _, rfl, _⟩ := h; rfl) | (obtain ⟨_, _, _, _, rfl, _⟩ := h; rfl) | (obtain ⟨_, _, _, _, _, rfl, _⟩ := h; rfl) | (obtain ⟨_, _, _, _, _, _, rfl, _⟩ := h; rfl) | (obtain ⟨_, _, _, _, _, _, _, rfl, _⟩ := h; rfl) | (obtain ⟨_, _, _, _, _, _, _, _, rfl, _⟩ := h; rfl) | (obtain ⟨_, _, _, _, _, _, _, _, _, rfl, _⟩ := h; rfl) | (obtain ⟨_, _, _, _, _, _, _, _, _, _, rfl, _⟩ := h; rfl) | (obtain ⟨_, _, _, _, _, _, _, _, _, _, _, rfl, _⟩ := h; rfl) | (obtain ⟨_, _, _, _, _, _, _, _, _, _, _, _, rfl, _⟩ := h; rfl)) (dl_L_bad_record T Z) (c.t.d.def_ 20 (d := d_L_bad_record) rfl)
  exact pk_law (k := 21) T (C_L_draw.mono (by decide)) (C_L_words.mono (by decide)) (C_L_rows.mono (by decide)) (C_L_moved.mono (by decide)) (C_L_first_message.mono (by decide)) (C_L_lists_of.mono (by decide)) (C_L_bad_record.mono (by decide)) (C_L_same.mono (by decide))  (dl_law T Z) F
end K31
theorem PySem.Challenge.cw_rerunrein_k31_messages_refused_holds : PySem.Challenge.rw_rerunrein_k31_messages_refused.Holds := by
  exact K31.fin fun hP X G hfa c => K31.facts hP X G hfa c

