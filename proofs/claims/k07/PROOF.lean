import PyProof.Rows.All
import Wide.All
import OpenK.AllK
import Wide.FinOn
import HandS.ForMost
import HandS.ForExc
import HandS.Defaults
import HandS.HeadHook4
import HandS.Conv
import HandS.Flow
import HandS.IsInst
import HandS.Deep
import HandS.HeadEnd
import HandS.RaiseMore
import HandS.Style
import HandS.NoneIn
import HandS.More
import HandS.Proxy
import HandS.HeadHook3
import HandS.Head0
import HandS.Head1
import HandS.Head2
import PySem.Challenge.RW_rerunrein_k07_canonical_texts
import HandS.HeadHook1
import HandS.HeadHook2
set_option Elab.async false
set_option linter.all false
set_option maxRecDepth 100000
set_option maxHeartbeats 2000000
/-! DL: data in place of the heap. -/
namespace DL
open PySem PySem.Spec PyProof.Rows L2

inductive D where
  | non | bl (b : Bool) | int (i : Int) | str (x : Str) | ty (n : String) | ref (a : Addr) | loc (k : Nat)
  | tup (xs : List D) | lst (xs : List D)
  | ins (C : Addr) (ns : List Str) (vs : List D)
  | dic (ks : List Key) (vs : List D)
  | dit (ks : List (List Key)) (vs : List D)

/-- what a mutable object holds -/
inductive MO where
  | lst (xs : List D)
  | ins (C : Addr) (ns : List Str) (vs : List D)
  | dic (ks : List Key) (vs : List D)
  | dit (ks : List (List Key)) (vs : List D)

abbrev Ga := List MO
abbrev Env := List (Option D)
abbrev Frag := PySem.W.Frag
/-- the mutable objects: h those that data may name, by number; x others -/
structure Al where
  h : List Addr
  x : List Addr
/-- no object twice -/
def Al.Nd (α : Al) : Prop := α.h.Nodup ∧ α.x.Nodup ∧ ∀ a ∈ α.h, a ∉ α.x
instance : Membership Addr Al := ⟨fun α a => a ∈ α.h ∨ a ∈ α.x⟩
def Al.push (α : Al) (p : Addr) : Al := ⟨α.h ++ [p], α.x⟩
theorem Al.mem_push {α : Al} {p a : Addr} : a ∈ α.push p ↔ a ∈ α ∨ a = p := by
  show (a ∈ α.h ++ [p] ∨ a ∈ α.x) ↔ ((a ∈ α.h ∨ a ∈ α.x) ∨ a = p)
  rw [List.mem_append, List.mem_singleton]
  constructor
  · rintro ((h | h) | h)
    · exact .inl (.inl h)
    · exact .inr h
    · exact .inl (.inr h)
  · rintro ((h | h) | h)
    · exact .inl (.inl h)
    · exact .inr h
    · exact .inl (.inr h)

def TupS (K : Frag) (H : Hp) (α : Al) (a : Addr) (vs : List V) : Prop :=
  (a ∉ α ∧ Rd H a (.tup vs)) ∨ ∃ (o : Obj) (its : Array Value) (n : Nat), K.lookup a = some o ∧ o.cls = .type "tuple" ∧ o.data = .seq its n ∧ its.size ≤ sizeLine ∧ Vals vs its.toList

mutual
inductive Rp (K : Frag) (H : Hp) (α : Al) : V → D → Prop
  | non : Rp K H α .non .non
  | bl (b : Bool) : Rp K H α (.bl b) (.bl b)
  | int (i : Int) : Rp K H α (.int i) (.int i)
  | str (x : Str) : Rp K H α (.str x) (.str x)
  | ty (n : String) : Rp K H α (.ty n) (.ty n)
  | ref (a : Addr) : Rp K H α (.ref a) (.ref a)
  | loc {k : Nat} {a : Addr} : α.h[k]? = some a → Rp K H α (.ref a) (.loc k)
  | tup {a : Addr} {vs : List V} {ds : List D} : TupS K H α a vs → RpL K H α vs ds → Rp K H α (.ref a) (.tup ds)
  | lst {a : Addr} {vs : List V} {ds : List D} : a ∉ α → H a = some (.lst vs) → RpL K H α vs ds → Rp K H α (.ref a) (.lst ds)
  | ins {a C dx : Addr} {fs : List (Str × V)} {ds : List D} : a ∉ α → H a = some (.ins C dx fs) → RpL K H α (fs.map (·.2)) ds → Rp K H α (.ref a) (.ins C (fs.map (·.1)) ds)
  | dic {a : Addr} {kvs : List (Key × V)} {ds : List D} : a ∉ α → H a = some (.dK kvs) → RpL K H α (kvs.map (·.2)) ds → Rp K H α (.ref a) (.dic (kvs.map (·.1)) ds)
  | dit {a : Addr} {kvs : List (List Key × V)} {ds : List D} : a ∉ α → H a = some (.dT kvs) → RpL K H α (kvs.map (·.2)) ds → Rp K H α (.ref a) (.dit (kvs.map (·.1)) ds)
inductive RpL (K : Frag) (H : Hp) (α : Al) : List V → List D → Prop
  | nil : RpL K H α [] []
  | cons {v : V} {vs : List V} {d : D} {ds : List D} : Rp K H α v d → RpL K H α vs ds → RpL K H α (v :: vs) (d :: ds)
end

theorem Al.out_of {α α' : Al} {a : Addr} (eh : α'.h = α.h) (ex : ∀ a ∈ α'.x, a ∈ α.x) (n : a ∉ α) : a ∉ α' := fun h => by
  rcases h with h | h
  · exact n (.inl (by rw [← eh]; exact h))
  · exact n (.inr (ex a h))
/-- the heap grows; what is not mutable stands -/
structure ExtW (α : Al) (H : Hp) (α' : Al) (H' : Hp) : Prop where
  al : ∃ β, α'.h = α.h ++ β ∧ ∀ b ∈ β, H b = none
  nd : α'.Nd
  xx : ∃ δ, α'.x = δ ++ α.x ∧ ∀ b ∈ δ, H b = none
  keep : ∀ a o, a ∉ α → H a = some o → H' a = some o

theorem ExtW.refl {α : Al} {H : Hp} (h : α.Nd) : ExtW α H α H := ⟨⟨[], by simp, by simp⟩, h, ⟨[], by simp, by simp⟩, fun _ _ _ h => h⟩
theorem ExtW.out {α α' : Al} {H H' : Hp} (e : ExtW α H α' H') {a : Addr} {o : HO} (h : a ∉ α) (ho : H a = some o) : a ∉ α' := by
  obtain ⟨β, e1, f⟩ := e.al
  intro hm
  rcases hm with z | z
  · rw [e1] at z
    rcases List.mem_append.mp z with z | z
    · exact h (.inl z)
    · rw [f a z] at ho; cases ho
  · obtain ⟨δ, e2, f2⟩ := e.xx
    rw [e2] at z
    rcases List.mem_append.mp z with z | z
    · rw [f2 a z] at ho; cases ho
    · exact h (.inr z)
theorem ExtW.trans {α α1 α2 : Al} {H H1 H2 : Hp} (a : ExtW α H α1 H1) (b : ExtW α1 H1 α2 H2) : ExtW α H α2 H2 := by
  obtain ⟨β, e1, f1⟩ := a.al
  obtain ⟨β', e2, f2⟩ := b.al
  obtain ⟨δ, e3, f3⟩ := a.xx
  obtain ⟨δ', e4, f4⟩ := b.xx
  have back : ∀ x, H1 x = none → (x ∈ α → False) → H x = none := fun x h1 hxa => by
    cases q : H x with
    | none => rfl
    | some o => rw [a.keep x o (fun z => hxa z) q] at h1; cases h1
  refine ⟨⟨β ++ β', by rw [e2, e1, List.append_assoc], fun x hx => ?_⟩, b.nd, ⟨δ' ++ δ, by rw [e4, e3, List.append_assoc], fun x hx => ?_⟩, fun x o hx ho => b.keep x o (a.out hx ho) (a.keep x o hx ho)⟩
  · rcases List.mem_append.mp hx with h | h
    · exact f1 x h
    · refine back x (f2 x h) fun hm => ?_
      rcases hm with hm | hm
      · have nd := b.nd.1
        rw [e2] at nd
        exact (List.nodup_append.mp nd).2.2 x (by rw [e1]; exact List.mem_append_left _ hm) x h rfl
      · refine b.nd.2.2 x (by rw [e2]; exact List.mem_append_right _ h) ?_
        rw [e4, e3]
        exact List.mem_append_right _ (List.mem_append_right _ hm)
  · rcases List.mem_append.mp hx with h | h
    · refine back x (f4 x h) fun hm => ?_
      rcases hm with hm | hm
      · refine b.nd.2.2 x (by rw [e2, e1]; exact List.mem_append_left _ (List.mem_append_left _ hm)) ?_
        rw [e4]
        exact List.mem_append_left _ h
      · have nd := b.nd.2.1
        rw [e4, e3] at nd
        exact (List.nodup_append.mp nd).2.2 x h x (List.mem_append_right _ hm) rfl
    · exact f3 x h
theorem ExtW.get {α α' : Al} {H H' : Hp} (e : ExtW α H α' H') {k : Nat} {a : Addr} (h : α.h[k]? = some a) : α'.h[k]? = some a := by
  obtain ⟨β, e1, _⟩ := e.al
  rw [e1, List.getElem?_append_left (List.getElem?_eq_some_iff.mp h).1]
  exact h
theorem TupS.mono {K : Frag} {α α' : Al} {H H' : Hp} (e : ExtW α H α' H') {a : Addr} {vs : List V} (h : TupS K H α a vs) : TupS K H' α' a vs := by
  rcases h with ⟨h1, h2⟩ | h
  · rcases h2 with h2 | ⟨o, h2⟩
    · exact .inl ⟨e.out h1 h2, .inl (e.keep _ _ h1 h2)⟩
    · exact .inl ⟨e.out h1 h2, .inr ⟨o, e.keep _ _ h1 h2⟩⟩
  · exact .inr h
theorem TupS.sq {K : Frag} {α : Al} {H : Hp} {a : Addr} {vs : List V} (h : TupS K H α a vs) : SqT K H a vs := by
  rcases h with ⟨_, h⟩ | h
  · exact .inl h
  · exact .inr h
mutual
theorem Rp.monoW {K : Frag} {α α' : Al} {H H' : Hp} (e : ExtW α H α' H') : ∀ (d : D) (v : V), Rp K H α v d → Rp K H' α' v d
  | .non, _, h => by cases h; exact .non
  | .bl b, _, h => by cases h; exact .bl b
  | .int i, _, h => by cases h; exact .int i
  | .str x, _, h => by cases h; exact .str x
  | .ty n, _, h => by cases h; exact .ty n
  | .ref a, _, h => by cases h; exact .ref a
  | .loc k, _, h => by cases h with | loc h => exact .loc (e.get h)
  | .tup ds, _, h => by cases h with | tup h1 h2 => exact .tup (h1.mono e) (RpL.monoW e ds _ h2)
  | .lst ds, _, h => by cases h with | lst h1 h2 h3 => exact .lst (e.out h1 h2) (e.keep _ _ h1 h2) (RpL.monoW e ds _ h3)
  | .ins C ns ds, _, h => by cases h with | ins h1 h2 h3 => exact .ins (e.out h1 h2) (e.keep _ _ h1 h2) (RpL.monoW e ds _ h3)
  | .dic ks ds, _, h => by cases h with | dic h1 h2 h3 => exact .dic (e.out h1 h2) (e.keep _ _ h1 h2) (RpL.monoW e ds _ h3)
  | .dit ks ds, _, h => by cases h with | dit h1 h2 h3 => exact .dit (e.out h1 h2) (e.keep _ _ h1 h2) (RpL.monoW e ds _ h3)
theorem RpL.monoW {K : Frag} {α α' : Al} {H H' : Hp} (e : ExtW α H α' H') : ∀ (ds : List D) (vs : List V), RpL K H α vs ds → RpL K H' α' vs ds
  | [], _, h => by cases h; exact .nil
  | d :: ds, _, h => by cases h with | cons h1 h2 => exact .cons (Rp.monoW e d _ h1) (RpL.monoW e ds _ h2)
end
mutual
/-- fewer that may change -/
theorem Rp.shw {K : Frag} {α α' : Al} {H : Hp} (eh : α'.h = α.h) (ex : ∀ a ∈ α'.x, a ∈ α.x) : ∀ (d : D) (v : V), Rp K H α v d → Rp K H α' v d
  | .non, _, h => by cases h; exact .non
  | .bl b, _, h => by cases h; exact .bl b
  | .int i, _, h => by cases h; exact .int i
  | .str x, _, h => by cases h; exact .str x
  | .ty n, _, h => by cases h; exact .ty n
  | .ref a, _, h => by cases h; exact .ref a
  | .loc k, _, h => by cases h with | loc h => exact .loc (by rw [eh]; exact h)
  | .tup ds, _, h => by
    cases h with
    | tup h1 h2 =>
      refine .tup ?_ (RpL.shw eh ex ds _ h2)
      rcases h1 with ⟨n, h1⟩ | h1
      · exact .inl ⟨Al.out_of eh ex n, h1⟩
      · exact .inr h1
  | .lst ds, _, h => by cases h with | lst h1 h2 h3 => exact .lst (Al.out_of eh ex h1) h2 (RpL.shw eh ex ds _ h3)
  | .ins C ns ds, _, h => by cases h with | ins h1 h2 h3 => exact .ins (Al.out_of eh ex h1) h2 (RpL.shw eh ex ds _ h3)
  | .dic ks ds, _, h => by cases h with | dic h1 h2 h3 => exact .dic (Al.out_of eh ex h1) h2 (RpL.shw eh ex ds _ h3)
  | .dit ks ds, _, h => by cases h with | dit h1 h2 h3 => exact .dit (Al.out_of eh ex h1) h2 (RpL.shw eh ex ds _ h3)
theorem RpL.shw {K : Frag} {α α' : Al} {H : Hp} (eh : α'.h = α.h) (ex : ∀ a ∈ α'.x, a ∈ α.x) : ∀ (ds : List D) (vs : List V), RpL K H α vs ds → RpL K H α' vs ds
  | [], _, h => by cases h; exact .nil
  | d :: ds, _, h => by cases h with | cons h1 h2 => exact .cons (Rp.shw eh ex d _ h1) (RpL.shw eh ex ds _ h2)
end
section
variable {K : Frag} {α α' : Al} {H H' : Hp}
theorem RpL.length : ∀ {vs : List V} {ds : List D}, RpL K H α vs ds → vs.length = ds.length
  | _, [], h => by cases h; rfl
  | _, _ :: _, h => by cases h with | cons _ h2 => simp [RpL.length h2]
theorem RpL.get : ∀ {vs : List V} {ds : List D} {i : Nat} {d : D}, RpL K H α vs ds → ds[i]? = some d → ∃ v, vs[i]? = some v ∧ Rp K H α v d
  | _, [], _, _, _, e => by simp at e
  | _, _ :: _, 0, _, h, e => by cases h with | cons h1 h2 => simp at e; subst e; exact ⟨_, rfl, h1⟩
  | _, _ :: _, i + 1, _, h, e => by
    cases h with
    | cons h1 h2 =>
      obtain ⟨v, q1, q2⟩ := RpL.get (i := i) h2 (by simpa using e)
      exact ⟨v, by simpa using q1, q2⟩
theorem RpL.getV : ∀ {vs : List V} {ds : List D} {i : Nat} {v : V}, RpL K H α vs ds → vs[i]? = some v → ∃ d, ds[i]? = some d ∧ Rp K H α v d
  | [], _, _, _, _, e => by simp at e
  | _ :: _, _, 0, _, h, e => by cases h with | cons h1 h2 => simp at e; subst e; exact ⟨_, rfl, h1⟩
  | _ :: _, _, i + 1, _, h, e => by
    cases h with
    | cons h1 h2 =>
      obtain ⟨v, q1, q2⟩ := RpL.getV (i := i) h2 (by simpa using e)
      exact ⟨v, by simpa using q1, q2⟩
theorem RpL.append : ∀ {vs ws : List V} {ds es : List D}, RpL K H α vs ds → RpL K H α ws es → RpL K H α (vs ++ ws) (ds ++ es)
  | _, _, [], _, h, h' => by cases h; exact h'
  | _, _, _ :: _, _, h, h' => by cases h with | cons h1 h2 => exact .cons h1 (RpL.append h2 h')
theorem RpL.take : ∀ {vs : List V} {ds : List D} (n : Nat), RpL K H α vs ds → RpL K H α (vs.take n) (ds.take n)
  | _, _, 0, _ => .nil
  | _, [], _ + 1, h => by cases h; exact .nil
  | _, _ :: _, n + 1, h => by cases h with | cons h1 h2 => exact .cons h1 (RpL.take n h2)
theorem RpL.drop : ∀ {vs : List V} {ds : List D} (n : Nat), RpL K H α vs ds → RpL K H α (vs.drop n) (ds.drop n)
  | _, _, 0, h => h
  | _, [], _ + 1, h => by cases h; exact .nil
  | _, _ :: _, n + 1, h => by cases h with | cons h1 h2 => exact RpL.drop n h2
theorem RpL.set {v : V} {d : D} (r : Rp K H α v d) : ∀ {vs : List V} {ds : List D} (i : Nat), RpL K H α vs ds → RpL K H α (vs.set i v) (ds.set i d)
  | _, [], _, h => by cases h; exact .nil
  | _, _ :: _, 0, h => by cases h with | cons h1 h2 => exact .cons r h2
  | _, _ :: _, i + 1, h => by cases h with | cons h1 h2 => exact .cons h1 (RpL.set r i h2)
theorem RpL.eraseIdx : ∀ {vs : List V} {ds : List D} (i : Nat), RpL K H α vs ds → RpL K H α (vs.eraseIdx i) (ds.eraseIdx i)
  | _, [], _, h => by cases h; exact .nil
  | _, _ :: _, 0, h => by cases h with | cons h1 h2 => exact h2
  | _, _ :: _, i + 1, h => by cases h with | cons h1 h2 => exact .cons h1 (RpL.eraseIdx i h2)
theorem RpL.dropLast {vs : List V} {ds : List D} (h : RpL K H α vs ds) : RpL K H α vs.dropLast ds.dropLast := by
  rw [List.dropLast_eq_take, List.dropLast_eq_take, h.length]
  exact h.take _
end
/-- .. and the objects without a number stand, too -/
structure Ext (α : Al) (H : Hp) (α' : Al) (H' : Hp) : Prop extends ExtW α H α' H' where
  keepx : ∀ a o, a ∈ α.x → H a = some o → H' a = some o
theorem Ext.refl {α : Al} {H : Hp} (h : α.Nd) : Ext α H α H := ⟨ExtW.refl h, fun _ _ _ h => h⟩
theorem Ext.trans {α α1 α2 : Al} {H H1 H2 : Hp} (a : Ext α H α1 H1) (b : Ext α1 H1 α2 H2) : Ext α H α2 H2 :=
  ⟨a.toExtW.trans b.toExtW, fun x o h ho => b.keepx x o (by obtain ⟨δ, e, _⟩ := a.xx; rw [e]; exact List.mem_append_right _ h) (a.keepx x o h ho)⟩
theorem Ext.out {α α' : Al} {H H' : Hp} (e : Ext α H α' H') {a : Addr} {o : HO} (h : a ∉ α) (ho : H a = some o) : a ∉ α' := e.toExtW.out h ho
theorem Ext.get {α α' : Al} {H H' : Hp} (e : Ext α H α' H') {k : Nat} {a : Addr} (h : α.h[k]? = some a) : α'.h[k]? = some a := e.toExtW.get h
theorem Rp.mono {K : Frag} {α α' : Al} {H H' : Hp} (e : Ext α H α' H') (d : D) (v : V) (h : Rp K H α v d) : Rp K H' α' v d := Rp.monoW e.toExtW d v h
theorem RpL.mono {K : Frag} {α α' : Al} {H H' : Hp} (e : Ext α H α' H') (d : List D) (v : List V) (h : RpL K H α v d) : RpL K H' α' v d := RpL.monoW e.toExtW d v h
theorem TupS.monoE {K : Frag} {α α' : Al} {H H' : Hp} (e : Ext α H α' H') {a : Addr} {vs : List V} (h : TupS K H α a vs) : TupS K H' α' a vs := h.mono e.toExtW
end DL

set_option Elab.async false
set_option linter.all false
set_option maxRecDepth 100000
set_option maxHeartbeats 2000000
namespace DL
open PySem PySem.Spec PyProof.Rows L2

def MOk (K : Frag) (H : Hp) (α : Al) (a : Addr) : MO → Prop
  | .lst ds => ∃ vs, H a = some (.lst vs) ∧ RpL K H α vs ds
  | .ins C ns ds => ∃ dx fs, H a = some (.ins C dx fs) ∧ fs.map (·.1) = ns ∧ RpL K H α (fs.map (·.2)) ds
  | .dic ks ds => ∃ kvs, H a = some (.dK kvs) ∧ kvs.map (·.1) = ks ∧ RpL K H α (kvs.map (·.2)) ds
  | .dit ks ds => ∃ kvs, H a = some (.dT kvs) ∧ kvs.map (·.1) = ks ∧ RpL K H α (kvs.map (·.2)) ds
structure GaOk (K : Frag) (H : Hp) (α : Al) (γ : Ga) : Prop where
  nd : α.Nd
  len : α.h.length = γ.length
  at_ : ∀ (k : Nat) (a : Addr) (m : MO), α.h[k]? = some a → γ[k]? = some m → MOk K H α a m
  xs : ∀ a ∈ α.x, ∃ o, H a = some o
section
variable {K : Frag} {α α' : Al} {H H' : Hp} {γ : Ga}
theorem MOk.there {a : Addr} : ∀ {m : MO}, MOk K H α a m → ∃ o, H a = some o
  | .lst _, h => by obtain ⟨_, h, _⟩ := h; exact ⟨_, h⟩
  | .ins _ _ _, h => by obtain ⟨_, _, h, _⟩ := h; exact ⟨_, h⟩
  | .dic _ _, h => by obtain ⟨_, h, _⟩ := h; exact ⟨_, h⟩
  | .dit _ _, h => by obtain ⟨_, h, _⟩ := h; exact ⟨_, h⟩
theorem MOk.monoW (e : ExtW α H α' H') {a : Addr} (k : ∀ o, H a = some o → H' a = some o) : ∀ {m : MO}, MOk K H α a m → MOk K H' α' a m
  | .lst _, h => by obtain ⟨_, h, r⟩ := h; exact ⟨_, k _ h, RpL.monoW e _ _ r⟩
  | .ins _ _ _, h => by obtain ⟨_, _, h, n, r⟩ := h; exact ⟨_, _, k _ h, n, RpL.monoW e _ _ r⟩
  | .dic _ _, h => by obtain ⟨_, h, n, r⟩ := h; exact ⟨_, k _ h, n, RpL.monoW e _ _ r⟩
  | .dit _ _, h => by obtain ⟨_, h, n, r⟩ := h; exact ⟨_, k _ h, n, RpL.monoW e _ _ r⟩
theorem MOk.mono (e : Ext α H α' H') {a : Addr} (k : ∀ o, H a = some o → H' a = some o) {m : MO} (h : MOk K H α a m) : MOk K H' α' a m := h.monoW e.toExtW k
theorem GaOk.thereH (g : GaOk K H α γ) {a : Addr} (h : a ∈ α.h) : ∃ o, H a = some o := by
  obtain ⟨k, hk, e⟩ := List.mem_iff_getElem.mp h
  have hk' : k < γ.length := by rw [← g.len]; exact hk
  exact (g.at_ k a γ[k] (by rw [List.getElem?_eq_getElem hk, e]) (List.getElem?_eq_getElem hk')).there
theorem GaOk.there (g : GaOk K H α γ) {a : Addr} (h : a ∈ α) : ∃ o, H a = some o := by
  rcases h with h | h
  · exact g.thereH h
  · exact g.xs a h
theorem GaOk.refl (g : GaOk K H α γ) : Ext α H α H := Ext.refl g.nd
theorem kx (g : GaOk K H α γ) {p : Addr} {o : HO} (hp : p ∉ α.x) : ∀ a u, a ∈ α.x → H a = some u → upd H p o a = some u := fun a u h e => by rw [upd_ne (fun z : a = p => hp (z ▸ h))]; exact e
theorem GaOk.new (g : GaOk K H α γ) {p : Addr} (hp : H p = none) : p ∉ α := fun h => by
  obtain ⟨o, e⟩ := g.there h
  rw [hp] at e; cases e
theorem ext_imm (g : GaOk K H α γ) {p : Addr} {o : HO} (hp : H p = none) : Ext α H α (upd H p o) :=
  ⟨⟨⟨[], by simp, by simp⟩, g.nd, ⟨[], by simp, by simp⟩, fun a u _ h => by rw [upd_ne (ne_of_none h hp)]; exact h⟩, kx g fun z => g.new hp (.inr z)⟩
theorem xs_upd (x : ∀ a ∈ α.x, ∃ o, H a = some o) {p : Addr} {o : HO} : ∀ a ∈ α.x, ∃ u, upd H p o a = some u := fun a h => by
  by_cases e : a = p
  · subst e; exact ⟨o, upd_same⟩
  · rw [upd_ne e]; exact x a h
theorem ga_imm (g : GaOk K H α γ) {p : Addr} {o : HO} (hp : H p = none) : GaOk K (upd H p o) α γ :=
  ⟨g.nd, g.len, fun k a m h1 h2 => (g.at_ k a m h1 h2).mono (ext_imm g hp) fun u h => by rw [upd_ne (ne_of_none h hp)]; exact h, xs_upd g.xs⟩
theorem ext_loc (g : GaOk K H α γ) {p : Addr} {o : HO} (hp : H p = none) : Ext α H (α.push p) (upd H p o) :=
  ⟨⟨⟨[p], rfl, fun b hb => by
    have e : b = p := by simpa using hb
    rw [e]; exact hp⟩, by
    refine ⟨?_, g.nd.2.1, fun a ha => ?_⟩
    · show (α.h ++ [p]).Nodup
      rw [List.nodup_append]
      refine ⟨g.nd.1, by simp, fun a ha b hb e => ?_⟩
      have eb : b = p := by simpa using hb
      exact g.new hp (.inl (by rw [← eb, ← e]; exact ha))
    · rcases List.mem_append.mp (show a ∈ α.h ++ [p] from ha) with h | h
      · exact g.nd.2.2 a h
      · have eb : a = p := by simpa using h
        rw [eb]
        exact fun z => g.new hp (.inr z), ⟨[], by simp [Al.push], by simp⟩, fun a u _ h => by rw [upd_ne (ne_of_none h hp)]; exact h⟩, kx g fun z => g.new hp (.inr z)⟩
theorem ga_loc (g : GaOk K H α γ) {p : Addr} {o : HO} {m : MO} (hp : H p = none) (hm : MOk K (upd H p o) (α.push p) p m) : GaOk K (upd H p o) (α.push p) (γ ++ [m]) := by
  have e := ext_loc g (o := o) hp
  refine ⟨e.nd, by show (α.h ++ [p]).length = _; simp [g.len], fun k a m' h1 h2 => ?_, xs_upd g.xs⟩
  have h1 : (α.h ++ [p])[k]? = some a := h1
  by_cases hk : k < α.h.length
  · rw [List.getElem?_append_left hk] at h1
    rw [List.getElem?_append_left (by rw [← g.len]; exact hk)] at h2
    exact (g.at_ k a m' h1 h2).mono e fun u h => by rw [upd_ne (ne_of_none h hp)]; exact h
  · have hk2 : k = α.h.length := by
      have := (List.getElem?_eq_some_iff.mp h1).1
      simp at this; omega
    subst hk2
    rw [List.getElem?_append_right (Nat.le_refl _)] at h1
    rw [List.getElem?_append_right (by rw [g.len]; exact Nat.le_refl _)] at h2
    simp at h1
    rw [g.len] at h2
    simp at h2
    subst h1 h2
    exact hm
theorem ext_setW (g : GaOk K H α γ) {a : Addr} {o : HO} (ha : a ∈ α) : ExtW α H α (upd H a o) :=
  ⟨⟨[], by simp, by simp⟩, g.nd, ⟨[], by simp, by simp⟩, fun b u hb h => by rw [upd_ne (fun e : b = a => hb (by rw [e]; exact ha))]; exact h⟩
theorem ext_set (g : GaOk K H α γ) {a : Addr} {o : HO} (ha : a ∈ α.h) : Ext α H α (upd H a o) := ⟨ext_setW g (.inl ha), kx g (g.nd.2.2 a ha)⟩
theorem ga_set (g : GaOk K H α γ) {a : Addr} {k : Nat} {o : HO} {m : MO} (ha : α.h[k]? = some a) (hm : MOk K (upd H a o) α a m) : GaOk K (upd H a o) α (γ.set k m) := by
  have e := ext_set g (o := o) (List.mem_of_getElem? ha)
  refine ⟨g.nd, by simp [g.len], fun j b m' h1 h2 => ?_, xs_upd g.xs⟩
  by_cases hj : j = k
  · subst hj
    rw [ha] at h1; cases h1
    have hl : j < γ.length := by rw [← g.len]; exact (List.getElem?_eq_some_iff.mp ha).1
    rw [List.getElem?_set_self hl] at h2
    cases h2
    exact hm
  · rw [List.getElem?_set_ne (Ne.symm hj)] at h2
    refine (g.at_ j b m' h1 h2).mono e fun u h => ?_
    rw [upd_ne]
    · exact h
    · intro z
      subst z
      obtain ⟨l1, e1⟩ := List.getElem?_eq_some_iff.mp h1
      obtain ⟨l2, e2⟩ := List.getElem?_eq_some_iff.mp ha
      exact hj ((List.getElem_inj g.nd.1).mp (e1.trans e2.symm))
theorem GaOk.adr (g : GaOk K H α γ) {k : Nat} {m : MO} (h : γ[k]? = some m) : ∃ a, α.h[k]? = some a ∧ MOk K H α a m := by
  have hk : k < α.h.length := by rw [g.len]; exact (List.getElem?_eq_some_iff.mp h).1
  exact ⟨α.h[k], List.getElem?_eq_getElem hk, g.at_ k _ m (List.getElem?_eq_getElem hk) h⟩
end

theorem MOk.shw {K : Frag} {α α' : Al} {H : Hp} (eh : α'.h = α.h) (ex : ∀ a ∈ α'.x, a ∈ α.x) {a : Addr} : ∀ {m : MO}, MOk K H α a m → MOk K H α' a m
  | .lst _, h => by obtain ⟨_, h, r⟩ := h; exact ⟨_, h, RpL.shw eh ex _ _ r⟩
  | .ins _ _ _, h => by obtain ⟨_, _, h, n, r⟩ := h; exact ⟨_, _, h, n, RpL.shw eh ex _ _ r⟩
  | .dic _ _, h => by obtain ⟨_, h, n, r⟩ := h; exact ⟨_, h, n, RpL.shw eh ex _ _ r⟩
  | .dit _ _, h => by obtain ⟨_, h, n, r⟩ := h; exact ⟨_, h, n, RpL.shw eh ex _ _ r⟩
/-! ### a new object that may change, but has no number -/
def Al.hid (α : Al) (p : Addr) : Al := ⟨α.h, p :: α.x⟩
def Al.un (α : Al) (p : Addr) : Al := ⟨α.h, α.x.filter fun a => decide (a ≠ p)⟩
section
variable {K : Frag} {α α' : Al} {H H' : Hp} {γ : Ga}
theorem ext_hid (g : GaOk K H α γ) {p : Addr} {o : HO} (hp : H p = none) : Ext α H (α.hid p) (upd H p o) :=
  ⟨⟨⟨[], by simp [Al.hid], by simp⟩, ⟨g.nd.1, List.nodup_cons.mpr ⟨fun z => g.new hp (.inr z), g.nd.2.1⟩, fun a ha hm => by
    rcases List.mem_cons.mp hm with z | z
    · subst z; exact g.new hp (.inl ha)
    · exact g.nd.2.2 a ha z⟩, ⟨[p], rfl, fun b hb => by
    have e : b = p := by simpa using hb
    rw [e]; exact hp⟩, fun a u _ h => by rw [upd_ne (ne_of_none h hp)]; exact h⟩, kx g fun z => g.new hp (.inr z)⟩
theorem ga_hid (g : GaOk K H α γ) {p : Addr} {o : HO} (hp : H p = none) : GaOk K (upd H p o) (α.hid p) γ :=
  ⟨(ext_hid g (o := o) hp).nd, g.len, fun k a m h1 h2 => (g.at_ k a m h1 h2).mono (ext_hid g hp) fun u h => by rw [upd_ne (ne_of_none h hp)]; exact h, fun a ha => by
    rcases List.mem_cons.mp ha with z | z
    · subst z; exact ⟨_, upd_same⟩
    · exact xs_upd g.xs a z⟩
theorem un_x {p : Addr} : ∀ a ∈ (α.un p).x, a ∈ α.x := fun a h => (List.mem_filter.mp h).1
theorem ext_un (g : GaOk K H α γ) (e : Ext α H α' H') {p : Addr} (hp : H p = none) : Ext α H (α'.un p) H' := by
  obtain ⟨δ, e1, f1⟩ := e.xx
  refine ⟨⟨e.al, ⟨e.nd.1, e.nd.2.1.sublist (List.filter_sublist ..), fun a ha hm => e.nd.2.2 a ha (un_x a hm)⟩, ⟨δ.filter fun a => decide (a ≠ p), ?_, fun b hb => f1 b (List.mem_filter.mp hb).1⟩, e.keep⟩, e.keepx⟩
  show α'.x.filter _ = _
  rw [e1, List.filter_append]
  congr 1
  apply List.filter_eq_self.mpr
  intro a ha
  apply decide_eq_true
  intro z
  subst z
  exact g.new hp (.inr ha)
theorem ga_un (g : GaOk K H α γ) {p : Addr} : GaOk K H (α.un p) γ :=
  ⟨⟨g.nd.1, g.nd.2.1.sublist (List.filter_sublist ..), fun a ha hm => g.nd.2.2 a ha (un_x a hm)⟩, g.len, fun k a m h1 h2 => MOk.shw (α := α) (α' := α.un p) rfl un_x (g.at_ k a m h1 h2), fun a ha => g.xs a (un_x a ha)⟩
theorem out_un {p : Addr} (h : p ∉ α.h) : p ∉ α.un p := fun z => by
  rcases z with z | z
  · exact h z
  · exact of_decide_eq_true (List.mem_filter.mp z).2 rfl
/-- the hidden object is written -/
theorem ext_hset {α1 : Al} {H1 : Hp} (g1 : GaOk K H1 α1 γ') (e : Ext α1 H1 α H) {a : Addr} {o : HO} (ha : H1 a = none) : Ext α1 H1 α (upd H a o) :=
  ⟨⟨e.al, e.nd, e.xx, fun b u hb h => by rw [upd_ne (ne_of_none h ha)]; exact e.keep b u hb h⟩, fun b u hb h => by rw [upd_ne (ne_of_none h ha)]; exact e.keepx b u hb h⟩
theorem ga_hset (g : GaOk K H α γ) {a : Addr} {o : HO} (ha : a ∈ α.x) : GaOk K (upd H a o) α γ :=
  ⟨g.nd, g.len, fun k b m h1 h2 => (g.at_ k b m h1 h2).monoW (ext_setW g (.inr ha)) fun u h => by
    rw [upd_ne]
    · exact h
    · intro z
      subst z
      exact g.nd.2.2 b (List.mem_of_getElem? h1) ha, xs_upd g.xs⟩
end

/-- the slots -/
def RpE (K : Frag) (H : Hp) (α : Al) (σ : L2.St) (ρ : Env) : Prop := σ.length = ρ.length ∧ ∀ (i : Nat) (d : D), ρ[i]? = some (some d) → ∃ v, σ[i]? = some (some v) ∧ Rp K H α v d
theorem RpE.mono {K : Frag} {α α' : Al} {H H' : Hp} {σ : L2.St} {ρ : Env} (e : Ext α H α' H') (r : RpE K H α σ ρ) : RpE K H' α' σ ρ :=
  ⟨r.1, fun i d h => let ⟨v, h1, h2⟩ := r.2 i d h; ⟨v, h1, Rp.mono e d v h2⟩⟩
theorem RpE.set {K : Frag} {α : Al} {H : Hp} {σ : L2.St} {ρ : Env} (r : RpE K H α σ ρ) (i : Nat) {v : V} {d : D} (h : Rp K H α v d) : RpE K H α (σ.set i (some v)) (ρ.set i (some d)) := by
  refine ⟨by simp [r.1], fun j e hj => ?_⟩
  by_cases hij : i = j
  · subst hij
    have hl : i < ρ.length := by
      have := (List.getElem?_eq_some_iff.mp hj).1
      simpa using this
    rw [List.getElem?_set_self hl] at hj
    cases hj
    exact ⟨v, by rw [List.getElem?_set_self (by rw [r.1]; exact hl)], h⟩
  · rw [List.getElem?_set_ne hij] at hj
    obtain ⟨w, h1, h2⟩ := r.2 j e hj
    exact ⟨w, by rw [List.getElem?_set_ne hij]; exact h1, h2⟩
/-- what is wanted of a value, of a test, of arguments -/
abbrev QD := D → Ga → Prop
def Wv (K : Frag) (α : Al) (H : Hp) (Q : QD) (q : VK) : Prop := ∀ v H' α' d γ', Q d γ' → Ext α H α' H' → GaOk K H' α' γ' → Rp K H' α' v d → q v H'
def dE (K : Frag) (t : TE) (ρ : Env) (γ : Ga) (Q : QD) : Prop :=
  ∀ σ H α q, RpE K H α σ ρ → GaOk K H α γ → Wv K α H Q q → t σ H q
def dT (K : Frag) (t : TT) (ρ : Env) (γ : Ga) (Q : Bool → Ga → Prop) : Prop :=
  ∀ σ H α (q : Bool → Hp → Prop), RpE K H α σ ρ → GaOk K H α γ → (∀ b H' α' γ', Q b γ' → Ext α H α' H' → GaOk K H' α' γ' → q b H') → t σ H q
def dA (K : Frag) (t : TA) (ρ : Env) (γ : Ga) (Q : List D → Ga → Prop) : Prop :=
  ∀ σ H α (q : List V → Hp → Prop), RpE K H α σ ρ → GaOk K H α γ → (∀ vs H' α' ds γ', Q ds γ' → Ext α H α' H' → GaOk K H' α' γ' → RpL K H' α' vs ds → q vs H') → t σ H q
def dO (K : Frag) (t : TO) (ρ : Env) (γ : Ga) (Q : Option Int → Ga → Prop) : Prop :=
  ∀ σ H α (q : Option Int → Hp → Prop), RpE K H α σ ρ → GaOk K H α γ → (∀ b H' α' γ', Q b γ' → Ext α H α' H' → GaOk K H' α' γ' → q b H') → t σ H q
theorem Wv.mono {K : Frag} {α α' : Al} {H H' : Hp} {Q : QD} {q : VK} (e : Ext α H α' H') (w : Wv K α H Q q) : Wv K α' H' Q q :=
  fun v H2 α2 d γ2 h e2 g r => w v H2 α2 d γ2 h (e.trans e2) g r

section
variable {K : Frag} {ρ : Env} {γ : Ga} {Q : QD}
theorem de_mono {t : TE} {Q Q' : QD} (h : dE K t ρ γ Q) (k : ∀ d γ', Q d γ' → Q' d γ') : dE K t ρ γ Q' :=
  fun σ H α q r g w => h σ H α q r g fun v H' α' d γ' hq => w v H' α' d γ' (k d γ' hq)
theorem dt_mono {t : TT} {Q Q' : Bool → Ga → Prop} (h : dT K t ρ γ Q) (k : ∀ d γ', Q d γ' → Q' d γ') : dT K t ρ γ Q' :=
  fun σ H α q r g w => h σ H α q r g fun b H' α' γ' hq => w b H' α' γ' (k b γ' hq)
theorem de_var {i : Nat} {d : D} (h : ρ[i]? = some (some d)) (q : Q d γ) : dE K (tVar i) ρ γ Q := fun σ H α _ r g w =>
  let ⟨v, h1, h2⟩ := r.2 i d h
  ⟨v, h1, w v H α d γ q g.refl g h2⟩
theorem de_int {i : Int} (q : Q (.int i) γ) : dE K (tC (.int i)) ρ γ Q := fun σ H α _ _ g w => w _ H α _ γ q g.refl g (.int i)
theorem de_bl {b : Bool} (q : Q (.bl b) γ) : dE K (tC (.bl b)) ρ γ Q := fun σ H α _ _ g w => w _ H α _ γ q g.refl g (.bl b)
theorem de_str {x : Str} (q : Q (.str x) γ) : dE K (tC (.str x)) ρ γ Q := fun σ H α _ _ g w => w _ H α _ γ q g.refl g (.str x)
theorem de_non (q : Q .non γ) : dE K (tC .non) ρ γ Q := fun σ H α _ _ g w => w _ H α _ γ q g.refl g .non
theorem de_ty {n : String} (q : Q (.ty n) γ) : dE K (tC (.ty n)) ρ γ Q := fun σ H α _ _ g w => w _ H α _ γ q g.refl g (.ty n)
/-- an address, as what it is known for -/
theorem de_ref {a : Addr} (q : Q (.ref a) γ) : dE K (tC (.ref a)) ρ γ Q := fun σ H α _ _ g w => w _ H α _ γ q g.refl g (.ref a)
/-- a tuple of the text's top -/
theorem de_top {a : Addr} {vs : List V} {ds : List D} (ht : ∃ (o : Obj) (its : Array Value) (n : Nat), K.lookup a = some o ∧ o.cls = .type "tuple" ∧ o.data = .seq its n ∧ its.size ≤ sizeLine ∧ Vals vs its.toList)
    (hr : ∀ H α, RpL K H α vs ds) (q : Q (.tup ds) γ) : dE K (tC (.ref a)) ρ γ Q := fun σ H α _ _ g w => w _ H α _ γ q g.refl g (.tup (.inr ht) (hr H α))
theorem da_nil {Q : List D → Ga → Prop} (q : Q [] γ) : dA K tNil ρ γ Q := fun σ H α _ _ g w => w [] H α [] γ q g.refl g .nil
theorem da_cons {te : TE} {t : TA} {Q : List D → Ga → Prop} (h : dE K te ρ γ fun d γ1 => dA K t ρ γ1 fun ds γ2 => Q (d :: ds) γ2) : dA K (tCons te t) ρ γ Q := fun σ H α _ r g w =>
  h σ H α _ r g fun v H1 α1 d γ1 h1 e1 g1 r1 => h1 σ H1 α1 _ (r.mono e1) g1 fun vs H2 α2 ds γ2 h2 e2 g2 r2 =>
    w (v :: vs) H2 α2 (d :: ds) γ2 h2 (e1.trans e2) g2 (.cons (Rp.mono e2 d v r1) r2)
theorem de_tup {t : TA} (h : dA K t ρ γ fun ds γ' => ds.length ≤ sizeLine ∧ Q (.tup ds) γ') : dE K (tTup t) ρ γ Q := fun σ H α _ r g w =>
  h σ H α _ r g fun vs H1 α1 ds γ1 h1 e1 g1 r1 => ⟨by rw [r1.length]; exact h1.1, fun p hp =>
    w _ _ α1 _ γ1 h1.2 (e1.trans (ext_imm g1 hp)) (ga_imm g1 hp) (.tup (.inl ⟨g1.new hp, .inl upd_same⟩) (RpL.mono (ext_imm g1 hp) _ _ r1))⟩
/-- a list that nobody will change -/
theorem de_lst {t : TA} (h : dA K t ρ γ fun ds γ' => ds.length ≤ sizeLine ∧ Q (.lst ds) γ') : dE K (tLst t) ρ γ Q := fun σ H α _ r g w =>
  h σ H α _ r g fun vs H1 α1 ds γ1 h1 e1 g1 r1 => ⟨by rw [r1.length]; exact h1.1, fun p hp =>
    w _ _ α1 _ γ1 h1.2 (e1.trans (ext_imm g1 hp)) (ga_imm g1 hp) (.lst (g1.new hp) upd_same (RpL.mono (ext_imm g1 hp) _ _ r1))⟩
/-- a list that will be changed -/
theorem de_lstM {t : TA} (h : dA K t ρ γ fun ds γ' => ds.length ≤ sizeLine ∧ Q (.loc γ'.length) (γ' ++ [.lst ds])) : dE K (tLst t) ρ γ Q := fun σ H α _ r g w =>
  h σ H α _ r g fun vs H1 α1 ds γ1 h1 e1 g1 r1 => ⟨by rw [r1.length]; exact h1.1, fun p hp =>
    w _ _ (α1.push p) _ _ h1.2 (e1.trans (ext_loc g1 hp)) (ga_loc g1 hp ⟨vs, upd_same, RpL.mono (ext_loc g1 hp) _ _ r1⟩) (.loc (by show (α1.h ++ [p])[γ1.length]? = _; rw [← g1.len]; simp))⟩
/-! ### operators, by values -/
def dR2 (K : Frag) (r : R2) (x y : D) (γ : Ga) (Q : QD) : Prop :=
  ∀ H α v w q, GaOk K H α γ → Rp K H α v x → Rp K H α w y → Wv K α H Q q → r v w H q
def dR1 (K : Frag) (r : V → Hp → VK → Prop) (x : D) (γ : Ga) (Q : QD) : Prop :=
  ∀ H α v q, GaOk K H α γ → Rp K H α v x → Wv K α H Q q → r v H q
def dRC (K : Frag) (r : List V → Hp → VK → Prop) (xs : List D) (γ : Ga) (Q : QD) : Prop :=
  ∀ H α vs q, GaOk K H α γ → RpL K H α vs xs → Wv K α H Q q → r vs H q
def dRM (K : Frag) (r : V → List V → Hp → VK → Prop) (x : D) (xs : List D) (γ : Ga) (Q : QD) : Prop :=
  ∀ H α v vs q, GaOk K H α γ → Rp K H α v x → RpL K H α vs xs → Wv K α H Q q → r v vs H q
theorem de_op {r : R2} {ta tb : TE} (h : dE K ta ρ γ fun x γ1 => dE K tb ρ γ1 fun y γ2 => dR2 K r x y γ2 Q) : dE K (tOp r ta tb) ρ γ Q := fun σ H α _ rr g w =>
  h σ H α _ rr g fun v H1 α1 x γ1 h1 e1 g1 r1 => h1 σ H1 α1 _ (rr.mono e1) g1 fun u H2 α2 y γ2 h2 e2 g2 r2 =>
    h2 H2 α2 v u _ g2 (Rp.mono e2 x v r1) r2 (w.mono (e1.trans e2))
theorem de_un {r : V → Hp → VK → Prop} {ta : TE} (h : dE K ta ρ γ fun x γ1 => dR1 K r x γ1 Q) : dE K (tUn r ta) ρ γ Q := fun σ H α _ rr g w =>
  h σ H α _ rr g fun v H1 α1 x γ1 h1 e1 g1 r1 => h1 H1 α1 v _ g1 r1 (w.mono e1)
theorem de_cb {r : List V → Hp → VK → Prop} {t : TA} (h : dA K t ρ γ fun xs γ1 => dRC K r xs γ1 Q) : dE K (tCB r t) ρ γ Q := fun σ H α _ rr g w =>
  h σ H α _ rr g fun vs H1 α1 xs γ1 h1 e1 g1 r1 => h1 H1 α1 vs _ g1 r1 (w.mono e1)
/-- the kinds of a receiver -/
def IsTy (K : Frag) (T : String) (x : D) (γ : Ga) : Prop := ∀ H α v, GaOk K H α γ → Rp K H α v x → tyV K T v H
theorem de_bm0 {T : String} {r : V → List V → Hp → VK → Prop} {to : TE} (h : dE K to ρ γ fun x γ1 => IsTy K T x γ1 ∧ dRM K r x [] γ1 Q) : dE K (tBM0 K T r to) ρ γ Q := fun σ H α _ rr g w =>
  h σ H α _ rr g fun v H1 α1 x γ1 h1 e1 g1 r1 => ⟨h1.1 H1 α1 v g1 r1, h1.2 H1 α1 v [] _ g1 r1 .nil (w.mono e1)⟩
theorem de_bm {T : String} {r : V → List V → Hp → VK → Prop} {to : TE} {t : TA} (h : dE K to ρ γ fun x γ1 => IsTy K T x γ1 ∧ dA K t ρ γ1 fun xs γ2 => dRM K r x xs γ2 Q) : dE K (tBM K T r to t) ρ γ Q := fun σ H α _ rr g w =>
  h σ H α _ rr g fun v H1 α1 x γ1 h1 e1 g1 r1 => ⟨h1.1 H1 α1 v g1 r1, h1.2 σ H1 α1 _ (rr.mono e1) g1 fun vs H2 α2 xs γ2 h2 e2 g2 r2 =>
    h2 H2 α2 v vs _ g2 (Rp.mono e2 x v r1) r2 (w.mono (e1.trans e2))⟩
theorem do_none {Q : Option Int → Ga → Prop} (q : Q none γ) : dO K tNoPart ρ γ Q := fun σ H α _ _ g w => w none H α γ q g.refl g
theorem do_some {te : TE} {Q : Option Int → Ga → Prop} (h : dE K te ρ γ fun d γ1 => ∃ i, d = .int i ∧ Q (some i) γ1) : dO K (tPart te) ρ γ Q := fun σ H α _ rr g w =>
  h σ H α _ rr g fun v H1 α1 d γ1 ⟨i, e, q⟩ e1 g1 r1 => by
    subst e
    cases r1
    exact ⟨i, rfl, w _ H1 α1 γ1 q e1 g1⟩
def dRS (K : Frag) (r : V → Option Int → Option Int → Hp → VK → Prop) (x : D) (lo hi : Option Int) (γ : Ga) (Q : QD) : Prop :=
  ∀ H α v q, GaOk K H α γ → Rp K H α v x → Wv K α H Q q → r v lo hi H q
theorem de_sl {r : V → Option Int → Option Int → Hp → VK → Prop} {te : TE} {tl th : TO} (h : dE K te ρ γ fun x γ1 => dO K tl ρ γ1 fun lo γ2 => dO K th ρ γ2 fun hi γ3 => dRS K r x lo hi γ3 Q) : dE K (tSl r te tl th) ρ γ Q := fun σ H α _ rr g w =>
  h σ H α _ rr g fun v H1 α1 x γ1 h1 e1 g1 r1 => h1 σ H1 α1 _ (rr.mono e1) g1 fun lo H2 α2 γ2 h2 e2 g2 => h2 σ H2 α2 _ (rr.mono (e1.trans e2)) g2 fun hi H3 α3 γ3 h3 e3 g3 =>
    h3 H3 α3 v _ g3 (Rp.mono (e2.trans e3) x v r1) (w.mono ((e1.trans e2).trans e3))
/-! ### tests -/
theorem dt_test {te : TE} {Q : Bool → Ga → Prop} (h : dE K te ρ γ fun d γ1 => ∃ b, d = .bl b ∧ Q b γ1) : dT K (tTest te) ρ γ Q := fun σ H α _ rr g w =>
  h σ H α _ rr g fun v H1 α1 d γ1 ⟨i, e, q⟩ e1 g1 r1 => by
    subst e
    cases r1
    exact ⟨i, rfl, w _ H1 α1 γ1 q e1 g1⟩
theorem dt_B {te : TE} {Q : Bool → Ga → Prop} (h : dE K te ρ γ fun d γ1 => ∃ b, d = .bl b ∧ Q b γ1) : dT K (tB te) ρ γ Q := dt_test h
theorem dt_and {t u : TT} {Q : Bool → Ga → Prop} (h : dT K t ρ γ fun b γ1 => if b = true then dT K u ρ γ1 Q else Q false γ1) : dT K (tAnd t u) ρ γ Q := fun σ H α _ rr g w =>
  h σ H α _ rr g fun b H1 α1 γ1 h1 e1 g1 => by
    cases b with
    | true => exact (iteT (h1 σ H1 α1 _ (rr.mono e1) g1 fun c H2 α2 γ2 h2 e2 g2 => w c H2 α2 γ2 h2 (e1.trans e2) g2))
    | false => exact (iteF (w _ H1 α1 γ1 h1 e1 g1))
theorem dt_or {t u : TT} {Q : Bool → Ga → Prop} (h : dT K t ρ γ fun b γ1 => if b = true then Q true γ1 else dT K u ρ γ1 Q) : dT K (tOr t u) ρ γ Q := fun σ H α _ rr g w =>
  h σ H α _ rr g fun b H1 α1 γ1 h1 e1 g1 => by
    cases b with
    | false => exact (iteF (h1 σ H1 α1 _ (rr.mono e1) g1 fun c H2 α2 γ2 h2 e2 g2 => w c H2 α2 γ2 h2 (e1.trans e2) g2))
    | true => exact (iteT (w _ H1 α1 γ1 h1 e1 g1))
theorem dt_not {t : TT} {Q : Bool → Ga → Prop} (h : dT K t ρ γ fun b γ1 => Q (!b) γ1) : dT K (tNot t) ρ γ Q := fun σ H α _ rr g w =>
  h σ H α _ rr g fun b H1 α1 γ1 h1 e1 g1 => w _ H1 α1 γ1 h1 e1 g1
theorem de_andV {ta tb : TE} (h : dE K ta ρ γ fun d γ1 => ∃ b, d = .bl b ∧ if b = true then dE K tb ρ γ1 Q else Q (.bl false) γ1) : dE K (tAndV ta tb) ρ γ Q := fun σ H α _ rr g w =>
  h σ H α _ rr g fun v H1 α1 d γ1 ⟨b, e, h1⟩ e1 g1 r1 => by
    subst e
    cases r1
    refine ⟨b, rfl, ?_⟩
    cases b with
    | true => exact iteT (h1 σ H1 α1 _ (rr.mono e1) g1 (w.mono e1))
    | false => exact iteF (w _ H1 α1 _ γ1 h1 e1 g1 (.bl false))
theorem de_orV {ta tb : TE} (h : dE K ta ρ γ fun d γ1 => ∃ b, d = .bl b ∧ if b = true then Q (.bl true) γ1 else dE K tb ρ γ1 Q) : dE K (tOrV ta tb) ρ γ Q := fun σ H α _ rr g w =>
  h σ H α _ rr g fun v H1 α1 d γ1 ⟨b, e, h1⟩ e1 g1 r1 => by
    subst e
    cases r1
    refine ⟨b, rfl, ?_⟩
    cases b with
    | false => exact iteF (h1 σ H1 α1 _ (rr.mono e1) g1 (w.mono e1))
    | true => exact iteT (w _ H1 α1 _ γ1 h1 e1 g1 (.bl true))
theorem de_notV {ta : TE} (h : dE K ta ρ γ fun d γ1 => ∃ b, d = .bl b ∧ Q (.bl (!b)) γ1) : dE K (tNotV ta) ρ γ Q := fun σ H α _ rr g w =>
  h σ H α _ rr g fun v H1 α1 d γ1 ⟨b, e, h1⟩ e1 g1 r1 => by
    subst e
    cases r1
    exact ⟨b, rfl, w _ H1 α1 _ γ1 h1 e1 g1 (.bl _)⟩
theorem de_if {t : TT} {ta tb : TE} (h : dT K t ρ γ fun b γ1 => if b = true then dE K ta ρ γ1 Q else dE K tb ρ γ1 Q) : dE K (tIf t ta tb) ρ γ Q := fun σ H α _ rr g w =>
  h σ H α _ rr g fun b H1 α1 γ1 h1 e1 g1 => by
    cases b with
    | true => exact iteT (h1 σ H1 α1 _ (rr.mono e1) g1 (w.mono e1))
    | false => exact iteF (h1 σ H1 α1 _ (rr.mono e1) g1 (w.mono e1))
theorem de_chain {r r' : R2} {ta tb tc : TE} (h : dE K ta ρ γ fun x γ1 => dE K tb ρ γ1 fun y γ2 => dR2 K r x y γ2 fun z γ3 => ∃ k, z = .bl k ∧ if k = true then dE K tc ρ γ3 fun u γ4 => dR2 K r' y u γ4 Q else Q (.bl false) γ3) :
    dE K (tChain r r' ta tb tc) ρ γ Q := fun σ H α _ rr g w =>
  h σ H α _ rr g fun v H1 α1 x γ1 h1 e1 g1 r1 => h1 σ H1 α1 _ (rr.mono e1) g1 fun u H2 α2 y γ2 h2 e2 g2 r2 =>
    h2 H2 α2 v u _ g2 (Rp.mono e2 x v r1) r2 fun z' H3 α3 z γ3 ⟨k, ez, h3⟩ e3 g3 r3 => by
      subst ez
      cases r3
      refine ⟨k, rfl, ?_⟩
      cases k with
      | true =>
        refine iteT (h3 σ H3 α3 _ (rr.mono ((e1.trans e2).trans e3)) g3 fun w' H4 α4 u' γ4 h4 e4 g4 r4 => ?_)
        exact h4 H4 α4 u w' _ g4 (Rp.mono (e3.trans e4) y u r2) r4 (w.mono (((e1.trans e2).trans e3).trans e4))
      | false => exact iteF (w _ H3 α3 _ γ3 h3 ((e1.trans e2).trans e3) g3 (.bl false))
end
end DL

set_option Elab.async false
set_option linter.all false
set_option maxRecDepth 100000
set_option maxHeartbeats 2000000
namespace DL
open PySem PySem.Spec PyProof.Rows L2

structure DEnds where
  nx : Env → Ga → Prop
  rt : QD
  bk : Env → Ga → Prop := fun _ _ => False
  ct : Env → Ga → Prop := fun _ _ => False
def Ws (K : Frag) (α0 : Al) (H0 : Hp) (N : Env → Ga → Prop) (n : L2.St → Hp → Prop) : Prop :=
  ∀ σ H α ρ γ, N ρ γ → Ext α0 H0 α H → GaOk K H α γ → RpE K H α σ ρ → n σ H
structure FinE (K : Frag) (α0 : Al) (H0 : Hp) (B : DEnds) (Dn : Ends) : Prop where
  nx : Ws K α0 H0 B.nx Dn.nx
  rt : Wv K α0 H0 B.rt Dn.rt
  bk : Ws K α0 H0 B.bk Dn.bk
  ct : Ws K α0 H0 B.ct Dn.ct
theorem Ws.mono {K : Frag} {α α' : Al} {H H' : Hp} {N : Env → Ga → Prop} {n : L2.St → Hp → Prop} (e : Ext α H α' H') (w : Ws K α H N n) : Ws K α' H' N n :=
  fun σ H2 α2 ρ γ h e2 => w σ H2 α2 ρ γ h (e.trans e2)
theorem FinE.mono {K : Frag} {α α' : Al} {H H' : Hp} {B : DEnds} {Dn : Ends} (e : Ext α H α' H') (f : FinE K α H B Dn) : FinE K α' H' B Dn :=
  ⟨f.nx.mono e, f.rt.mono e, f.bk.mono e, f.ct.mono e⟩
/-- a statement: n mutable objects stood at the beginning of the block -/
def dS (K : Frag) (n : Nat) (t : TS) (ρ : Env) (γ : Ga) (B : DEnds) : Prop :=
  ∀ σ H α α0 H0 Dn, α0.h.length = n → Ext α0 H0 α H → RpE K H α σ ρ → GaOk K H α γ → FinE K α0 H0 B Dn → t Dn σ H
def SlotsEq (is : List Nat) (σ σ' : L2.St) : Prop := σ'.length = σ.length ∧ ∀ j, j ∉ is → σ'[j]? = σ[j]?
def dG (K : Frag) (g : TG) (d : D) (ρ : Env) (γ : Ga) (is : List Nat) (N : Env → Ga → Prop) : Prop :=
  ∀ σ H α v (q : L2.St → Hp → Prop), RpE K H α σ ρ → GaOk K H α γ → Rp K H α v d →
    (∀ σ' H' α' ρ' γ', N ρ' γ' → SlotsEq is σ σ' → Ext α H α' H' → GaOk K H' α' γ' → RpE K H' α' σ' ρ' → q σ' H') → g v σ H q
def dGs (K : Frag) (g : TGs) (ds : List D) (ρ : Env) (γ : Ga) (is : List Nat) (N : Env → Ga → Prop) : Prop :=
  ∀ σ H α vs (q : L2.St → Hp → Prop), RpE K H α σ ρ → GaOk K H α γ → RpL K H α vs ds →
    (∀ σ' H' α' ρ' γ', N ρ' γ' → SlotsEq is σ σ' → Ext α H α' H' → GaOk K H' α' γ' → RpE K H' α' σ' ρ' → q σ' H') → g vs σ H q
/-- an iterator that yields ds -/
structure WkI (K : Frag) (J : It) (α0 : Al) (H0 : Hp) (ds : List D) : Prop where
  go : ∀ i H α γ, Ext α0 H0 α H → GaOk K H α γ → i < ds.length → J.go i H
  stop : ∀ i H α γ, Ext α0 H0 α H → GaOk K H α γ → ds.length ≤ i → J.stop i H
  yld : ∀ i H α γ x H', i < ds.length → Ext α0 H0 α H → GaOk K H α γ → J.yld i H x H' → ∃ d, ds[i]? = some d ∧ Ext α H α H' ∧ GaOk K H' α γ ∧ Rp K H' α x d
def dI (K : Frag) (wi : TI) (ρ : Env) (γ : Ga) (R : List D → Ga → Prop) : Prop :=
  ∀ σ H α (r : It → Hp → Prop), RpE K H α σ ρ → GaOk K H α γ → (∀ J H' α' γ' ds, R ds γ' → Ext α H α' H' → GaOk K H' α' γ' → WkI K J α' H' ds → r J H') → wi σ H r

section
variable {K : Frag} {n : Nat} {ρ : Env} {γ : Ga} {B : DEnds} {t u : TS}
theorem ds_next (h : B.nx ρ γ) : dS K n tNext ρ γ B := fun σ H α α0 H0 Dn _ e r g f => f.nx σ H α ρ γ h e g r
theorem ds_brk (h : B.bk ρ γ) : dS K n tBreak ρ γ B := fun σ H α α0 H0 Dn _ e r g f => f.bk σ H α ρ γ h e g r
theorem ds_cont (h : B.ct ρ γ) : dS K n tCont ρ γ B := fun σ H α α0 H0 Dn _ e r g f => f.ct σ H α ρ γ h e g r
theorem ds_seq (h : dS K n t ρ γ { B with nx := fun ρ' γ' => dS K n u ρ' γ' B }) : dS K n (tSeq t u) ρ γ B := fun σ H α α0 H0 Dn hn e r g f =>
  h σ H α α0 H0 { Dn with nx := u Dn } hn e r g ⟨fun σ' H' α' ρ' γ' h' e' g' r' => h' σ' H' α' α0 H0 Dn hn e' r' g' f, f.rt, f.bk, f.ct⟩
theorem ds_if {c : TT} (h : dT K c ρ γ fun b γ' => if b = true then dS K n t ρ γ' B else dS K n u ρ γ' B) : dS K n (tIfS c t u) ρ γ B := fun σ H α α0 H0 Dn hn e r g f =>
  h σ H α _ r g fun b H1 α1 γ1 h1 e1 g1 => by
    cases b with
    | true => exact iteT (h1 σ H1 α1 α0 H0 Dn hn (e.trans e1) (r.mono e1) g1 f)
    | false => exact iteF (h1 σ H1 α1 α0 H0 Dn hn (e.trans e1) (r.mono e1) g1 f)
theorem ds_asg {te : TE} {g : TG} {is : List Nat} (h : dE K te ρ γ fun d γ' => dG K g d ρ γ' is B.nx) : dS K n (tAsg te g) ρ γ B := fun σ H α α0 H0 Dn hn e r g f =>
  h σ H α _ r g fun v H1 α1 d γ1 h1 e1 g1 r1 => h1 σ H1 α1 v _ (r.mono e1) g1 r1 fun σ2 H2 α2 ρ2 γ2 h2 _ e2 g2 r2 => f.nx σ2 H2 α2 ρ2 γ2 h2 ((e.trans e1).trans e2) g2 r2
theorem dg_name {i : Nat} {d : D} {N : Env → Ga → Prop} (h : N (ρ.set i (some d)) γ) : dG K (gName i) d ρ γ [i] N := fun σ H α v q r g rv w =>
  w _ H α _ γ h ⟨by simp, fun j hj => by
    rw [List.getElem?_set_ne]
    intro e
    exact hj (by simp [e])⟩ g.refl g (r.set i rv)
theorem ds_set {te : TE} {i : Nat} (h : dE K te ρ γ fun d γ' => B.nx (ρ.set i (some d)) γ') : dS K n (tAsg te (gName i)) ρ γ B := ds_asg (de_mono h fun _ _ h' => dg_name h')
theorem ds_ret {te : TE} (h : dE K te ρ γ B.rt) : dS K n (tRet te) ρ γ B := fun σ H α α0 H0 Dn hn e r g f => h σ H α _ r g (f.rt.mono e)
theorem ds_retN (h : B.rt .non γ) : dS K n tRetN ρ γ B := fun σ H α α0 H0 Dn hn e r g f => f.rt _ H α _ γ h e g .non
theorem ds_expr {te : TE} (h : dE K te ρ γ fun _ γ' => B.nx ρ γ') : dS K n (tDrop te) ρ γ B := fun σ H α α0 H0 Dn hn e r g f =>
  h σ H α _ r g fun v H1 α1 d γ1 h1 e1 g1 r1 => f.nx σ H1 α1 ρ γ1 h1 (e.trans e1) g1 (r.mono e1)
theorem dgs_nil {N : Env → Ga → Prop} (h : N ρ γ) : dGs K gNil [] ρ γ [] N := fun σ H α vs q r g rv w => by
  cases rv
  exact ⟨rfl, w σ H α ρ γ h ⟨rfl, fun _ _ => rfl⟩ g.refl g r⟩
theorem dgs_cons {g : TG} {gs : TGs} {d : D} {ds : List D} {is js : List Nat} {N : Env → Ga → Prop} (h : dG K g d ρ γ is fun ρ1 γ1 => dGs K gs ds ρ1 γ1 js N) : dGs K (gCons g gs) (d :: ds) ρ γ (is ++ js) N := fun σ H α vs q r g rv w => by
  cases rv with
  | cons r1 r2 =>
    refine ⟨_, _, rfl, h σ H α _ _ r g r1 fun σ1 H1 α1 ρ1 γ1 h1 s1 e1 g1 q1 => ?_⟩
    refine h1 σ1 H1 α1 _ _ q1 g1 (RpL.mono e1 _ _ r2) fun σ2 H2 α2 ρ2 γ2 h2 s2 e2 g2 q2 => ?_
    refine w σ2 H2 α2 ρ2 γ2 h2 ⟨s2.1.trans s1.1, fun j hj => ?_⟩ (e1.trans e2) g2 q2
    rw [s2.2 j fun z => hj (List.mem_append_right _ z), s1.2 j fun z => hj (List.mem_append_left _ z)]
theorem dg_tup {m : Nat} {gs : TGs} {ds : List D} {is : List Nat} {N : Env → Ga → Prop} (hl : ds.length = m) (h : dGs K gs ds ρ γ is N) : dG K (gTup K m gs) (.tup ds) ρ γ is N := fun σ H α v q r g rv w => by
  cases rv with
  | tup h1 h2 => exact ⟨_, _, rfl, h1.sq, h2.length.trans hl, h σ H α _ q r g h2 w⟩
theorem ds_while {c : TT} {tb : TS} (P : Nat → Env → Ga → Prop) (h0 : ∃ m, P m ρ γ)
    (hs : ∀ m ρ γ, P m ρ γ → dT K c ρ γ fun b γ1 => if b = true then dS K n tb ρ γ1 { B with nx := fun ρ' γ' => ∃ m', m' < m ∧ P m' ρ' γ', ct := fun ρ' γ' => ∃ m', m' < m ∧ P m' ρ' γ', bk := B.nx } else B.nx ρ γ1) :
    dS K n (tWhile c tb) ρ γ B := fun σ H α α0 H0 Dn hn e r g f => by
  obtain ⟨m0, p0⟩ := h0
  refine ⟨fun m σ H => ∃ α ρ γ, P m ρ γ ∧ Ext α0 H0 α H ∧ GaOk K H α γ ∧ RpE K H α σ ρ, ⟨m0, α, ρ, γ, p0, e, g, r⟩, ?_⟩
  rintro m σ1 H1 ⟨α1, ρ1, γ1, p1, e1, g1, r1⟩
  refine hs m ρ1 γ1 p1 σ1 H1 α1 _ r1 g1 fun b H2 α2 γ2 h2 e2 g2 => ?_
  cases b with
  | true =>
    refine iteT ⟨fun σ' H' => ∃ m', m' < m ∧ ∃ α ρ γ, P m' ρ γ ∧ Ext α0 H0 α H' ∧ GaOk K H' α γ ∧ RpE K H' α σ' ρ, fun σ' H' hh => hh, ?_⟩
    refine h2 σ1 H2 α2 α0 H0 _ hn (e1.trans e2) (r1.mono e2) g2 ⟨?_, f.rt, f.nx, ?_⟩
    · rintro σ3 H3 α3 ρ3 γ3 ⟨m', hm, p3⟩ e3 g3 r3
      exact ⟨m', hm, α3, ρ3, γ3, p3, e3, g3, r3⟩
    · rintro σ3 H3 α3 ρ3 γ3 ⟨m', hm, p3⟩ e3 g3 r3
      exact ⟨m', hm, α3, ρ3, γ3, p3, e3, g3, r3⟩
  | false => exact iteF (f.nx σ1 H2 α2 ρ1 γ2 h2 (e1.trans e2) g2 (r1.mono e2))
theorem ds_for {wi : TI} {g : TG} {tb : TS} (is : List Nat) (h : dI K wi ρ γ fun ds γ1 => ∃ P : Nat → Env → Ga → Prop, P 0 ρ γ1 ∧
      (∀ i x ρ' γ', ds[i]? = some x → P i ρ' γ' → dG K g x ρ' γ' is fun ρ2 γ2 => dS K γ1.length tb ρ2 γ2 { B with nx := P (i + 1), ct := P (i + 1), bk := B.nx }) ∧
      ∀ ρ' γ', P ds.length ρ' γ' → B.nx ρ' γ') : dS K n (tFor wi g tb) ρ γ B := fun σ H α α0 H0 Dn hn e r g f => by
  refine h σ H α _ r g fun J H1 α1 γ1 ds h1 e1 g1 wk => ?_
  obtain ⟨P, p0, hs, hd⟩ := h1
  refine ⟨fun i m σ H => m = ds.length - i ∧ i ≤ ds.length ∧ ∃ α ρ γ, P i ρ γ ∧ Ext α1 H1 α H ∧ GaOk K H α γ ∧ RpE K H α σ ρ,
    ⟨ds.length, by simp, Nat.zero_le _, α1, ρ, γ1, p0, g1.refl, g1, r.mono e1⟩, ?_⟩
  rintro i m σ2 H2 ⟨rfl, hi, α2, ρ2, γ2, p2, e2, g2, r2⟩
  by_cases hlt : i < ds.length
  · refine .inr ⟨wk.go i H2 α2 γ2 e2 g2 hlt, fun σ' H' => ∃ α ρ γ, P (i + 1) ρ γ ∧ Ext α1 H1 α H' ∧ GaOk K H' α γ ∧ RpE K H' α σ' ρ, fun σ' H' hh => ⟨ds.length - (i + 1), by omega, rfl, hlt, hh⟩, fun x H' y => ?_⟩
    obtain ⟨d, hd1, e3, g3, r3⟩ := wk.yld i H2 α2 γ2 x H' hlt e2 g2 y
    refine hs i d ρ2 γ2 hd1 p2 σ2 H' α2 x _ (r2.mono e3) g3 r3 fun σ4 H4 α4 ρ4 γ4 h4 _ e4 g4 r4 => ?_
    have ea := (e2.trans e3).trans e4
    refine h4 σ4 H4 α4 α1 H1 _ g1.len ea r4 g4 ⟨?_, f.rt.mono (e.trans e1), f.nx.mono (e.trans e1), ?_⟩
    · intro σ5 H5 α5 ρ5 γ5 p5 e5 g5 r5
      exact ⟨α5, ρ5, γ5, p5, e5, g5, r5⟩
    · intro σ5 H5 α5 ρ5 γ5 p5 e5 g5 r5
      exact ⟨α5, ρ5, γ5, p5, e5, g5, r5⟩
  · have ei : i = ds.length := by omega
    subst ei
    exact .inl ⟨wk.stop _ H2 α2 γ2 e2 g2 (Nat.le_refl _), f.nx σ2 H2 α2 ρ2 γ2 (hd ρ2 γ2 p2) ((e.trans e1).trans e2) g2 r2⟩
/-! ### what is walked -/
theorem di_list {tl : TE} {R : List D → Ga → Prop} (h : dE K tl ρ γ fun d γ' => ∃ ds, d = .lst ds ∧ R ds γ') : dI K (iList K tl) ρ γ R := fun σ H α q r g w =>
  h σ H α _ r g fun v H1 α1 d γ1 ⟨ds, ed, h1⟩ e1 g1 r1 => by
    subst ed
    cases r1 with
    | @lst a vs _ na ha rl =>
      refine ⟨a, rfl, ⟨vs, SqL.of ha⟩, w _ H1 α1 γ1 ds h1 e1 g1 ⟨?_, ?_, ?_⟩⟩
      · intro i H2 α2 γ2 e2 g2 hi
        have hv : i < vs.length := by rw [rl.length]; exact hi
        exact ⟨vs, vs[i], SqL.of (e2.keep _ _ na ha), List.getElem?_eq_getElem hv⟩
      · intro i H2 α2 γ2 e2 g2 hi
        exact ⟨vs, SqL.of (e2.keep _ _ na ha), by rw [rl.length]; exact hi⟩
      · rintro i H2 α2 γ2 x H3 _ e2 g2 ⟨rfl, hy⟩
        obtain ⟨d, h1, h2⟩ := rl.getV (hy vs (SqL.of (e2.keep _ _ na ha)))
        exact ⟨d, h1, g2.refl, g2, Rp.mono e2 _ _ h2⟩
theorem di_tup {tl : TE} {R : List D → Ga → Prop} (h : dE K tl ρ γ fun d γ' => ∃ ds, d = .tup ds ∧ R ds γ') : dI K (iTup K tl) ρ γ R := fun σ H α q r g w =>
  h σ H α _ r g fun v H1 α1 d γ1 ⟨ds, ed, h1⟩ e1 g1 r1 => by
    subst ed
    cases r1 with
    | @tup a vs _ ht rl =>
      refine ⟨a, rfl, ⟨vs, ht.sq⟩, w _ H1 α1 γ1 ds h1 e1 g1 ⟨?_, ?_, ?_⟩⟩
      · intro i H2 α2 γ2 e2 g2 hi
        have hv : i < vs.length := by rw [rl.length]; exact hi
        exact ⟨vs, vs[i], (ht.monoE e2).sq, List.getElem?_eq_getElem hv⟩
      · intro i H2 α2 γ2 e2 g2 hi
        exact ⟨vs, (ht.monoE e2).sq, by rw [rl.length]; exact hi⟩
      · rintro i H2 α2 γ2 x H3 _ e2 g2 ⟨rfl, hy⟩
        obtain ⟨d, h1, h2⟩ := rl.getV (hy vs (ht.monoE e2).sq)
        exact ⟨d, h1, g2.refl, g2, Rp.mono e2 _ _ h2⟩
def rngD (lo : Int) (n : Nat) : List D := (List.range n).map fun i => D.int (lo + (i : Nat))
theorem wk_rng {α : Al} {H : Hp} {lo : Int} {m : Nat} : WkI K (Itr lo m) α H (rngD lo m) := by
  refine ⟨?_, ?_, ?_⟩
  · intro i H2 α2 γ2 e2 g2 hi
    have : i < m := by simpa [rngD] using hi
    exact this
  · intro i H2 α2 γ2 e2 g2 hi
    have : m ≤ i := by simpa [rngD] using hi
    exact this
  · rintro i H2 α2 γ2 x H3 hi e2 g2 ⟨rfl, rfl⟩
    have : i < m := by simpa [rngD] using hi
    exact ⟨.int (lo + i), by simp [rngD, this], g2.refl, g2, .int _⟩
theorem di_rng1 {ta : TA} {R : List D → Ga → Prop} (h : dA K ta ρ γ fun ds γ' => ∃ j : Int, ds = [.int j] ∧ -(2 ^ 62) ≤ j ∧ j < 2 ^ 62 ∧ R (rngD 0 j.toNat) γ') : dI K (iRng1 ta) ρ γ R := fun σ H α q r g w =>
  h σ H α _ r g fun vs H1 α1 ds γ1 ⟨j, ed, l1, l2, h1⟩ e1 g1 r1 => by
    subst ed
    cases r1 with
    | cons r1 r2 =>
      cases r1; cases r2
      exact ⟨j, rfl, l1, l2, w _ H1 α1 γ1 _ h1 e1 g1 wk_rng⟩
theorem di_rng2 {ta : TA} {R : List D → Ga → Prop} (h : dA K ta ρ γ fun ds γ' => ∃ i j : Int, ds = [.int i, .int j] ∧ (-(2 ^ 62) ≤ i ∧ i < 2 ^ 62 ∧ -(2 ^ 62) ≤ j ∧ j < 2 ^ 62) ∧ R (rngD i (j - i).toNat) γ') : dI K (iRng2 ta) ρ γ R := fun σ H α q r g w =>
  h σ H α _ r g fun vs H1 α1 ds γ1 ⟨i, j, ed, l, h1⟩ e1 g1 r1 => by
    subst ed
    cases r1 with
    | cons r1 r2 =>
      cases r2 with
      | cons r2 r3 =>
        cases r1; cases r2; cases r3
        exact ⟨i, j, rfl, l, w _ H1 α1 γ1 _ h1 e1 g1 wk_rng⟩
def chrsD (x : Str) : List D := x.cps.toList.map fun c => D.str ⟨#[c]⟩
theorem di_str {te : TE} {R : List D → Ga → Prop} (h : dE K te ρ γ fun d γ' => ∃ x, d = .str x ∧ R (chrsD x) γ') : dI K (iStr te) ρ γ R := fun σ H α q r g w =>
  h σ H α _ r g fun v H1 α1 d γ1 ⟨x, ed, h1⟩ e1 g1 r1 => by
    subst ed
    cases r1
    refine ⟨x, rfl, w _ H1 α1 γ1 _ h1 e1 g1 ⟨?_, ?_, ?_⟩⟩
    · intro i H2 α2 γ2 e2 g2 hi
      have : i < x.cps.size := by simpa [chrsD] using hi
      exact this
    · intro i H2 α2 γ2 e2 g2 hi
      have : x.cps.size ≤ i := by simpa [chrsD] using hi
      exact this
    · rintro i H2 α2 γ2 y H3 hi e2 g2 ⟨rfl, c, hc, rfl⟩
      refine ⟨.str ⟨#[c]⟩, ?_, g2.refl, g2, .str _⟩
      have hc' : x.cps.toList[i]? = some c := by simpa using hc
      simp [chrsD, hc']
/-! ### list comprehensions -/
def wipeE (ρ : Env) : List Nat → Env
  | [] => ρ
  | v :: vs => (wipeE ρ vs).set v none
theorem wipeE_length (ρ : Env) : ∀ vs : List Nat, (wipeE ρ vs).length = ρ.length
  | [] => rfl
  | v :: vs => by unfold wipeE; rw [List.length_set, wipeE_length ρ vs]
theorem rpe_wipe {H : Hp} {α : Al} {σ : L2.St} (r : RpE K H α σ ρ) : ∀ vs : List Nat, RpE K H α (wipe σ vs) (wipeE ρ vs)
  | [] => r
  | v :: vs => by
    have ih := rpe_wipe r vs
    refine ⟨by rw [wipe_length, wipeE_length]; exact r.1, fun i d h => ?_⟩
    unfold wipeE at h
    by_cases hv : v = i
    · subst hv
      by_cases hl : v < (wipeE ρ vs).length
      · rw [List.getElem?_set_self hl] at h; cases h
      · rw [List.getElem?_eq_none (by simpa using hl)] at h; cases h
    · rw [List.getElem?_set_ne hv] at h
      obtain ⟨u, h1, h2⟩ := ih.2 i d h
      exact ⟨u, by unfold wipe; rw [List.getElem?_set_ne hv]; exact h1, h2⟩
theorem wipe_at {σ : L2.St} {i : Nat} : ∀ {vs : List Nat}, (i ∉ vs → (wipe σ vs)[i]? = σ[i]?) ∧ (i ∈ vs → i < σ.length → (wipe σ vs)[i]? = some none)
  | [] => ⟨fun _ => rfl, fun h => by simp at h⟩
  | v :: vs => by
    have ih := @wipe_at σ i vs
    refine ⟨fun h => ?_, fun h hl => ?_⟩
    · simp only [List.mem_cons, not_or] at h
      unfold wipe
      rw [List.getElem?_set_ne (fun e => h.1 e.symm)]
      exact ih.1 h.2
    · unfold wipe
      by_cases hv : v = i
      · subst hv
        rw [List.getElem?_set_self (by rw [wipe_length]; exact hl)]
      · rw [List.getElem?_set_ne hv]
        rcases List.mem_cons.mp h with e | e
        · exact absurd e.symm hv
        · exact ih.2 e hl
theorem wipe_eq {σ σ' : L2.St} {is vs : List Nat} (h : SlotsEq is (wipe σ vs) σ') (hs : ∀ i ∈ is, i ∈ vs) : wipe σ' vs = wipe σ vs := by
  have hl : σ'.length = σ.length := by rw [h.1, wipe_length]
  apply List.ext_getElem?
  intro i
  by_cases hi : i ∈ vs
  · by_cases hlt : i < σ.length
    · rw [(wipe_at (σ := σ')).2 hi (by omega), (wipe_at (σ := σ)).2 hi hlt]
    · rw [List.getElem?_eq_none (by rw [wipe_length]; omega), List.getElem?_eq_none (by rw [wipe_length]; omega)]
  · rw [(wipe_at (σ := σ')).1 hi, h.2 i fun z => hi (hs i z)]
theorem size24 {m : Nat} (h : m < 1000000) : m < sizeLine := Nat.lt_of_lt_of_le h (by decide)
theorem de_lc {wi : TI} {g : TG} {tt : TT} {te : TE} {vs : List Nat} {Q : QD} (is : List Nat) (hsub : ∀ i ∈ is, i ∈ vs)
    (h : dI K wi ρ γ fun ds γ1 => ds.length ≤ 1000000 ∧ ∃ P : Nat → List D → Ga → Prop, P 0 [] γ1 ∧
      (∀ i x acc γ', ds[i]? = some x → P i acc γ' → dG K g x (wipeE ρ vs) γ' is fun ρ2 γ2 => dT K tt ρ2 γ2 fun b γ3 => if b = true then dE K te ρ2 γ3 fun y γ4 => P (i + 1) (acc ++ [y]) γ4 else P (i + 1) acc γ3) ∧
      ∀ acc γ', P ds.length acc γ' → Q (.lst acc) γ') : dE K (tLc wi g tt te vs) ρ γ Q := fun σ H α q r g0 w => by
  refine h σ H α _ r g0 fun J H1 α1 γ1 ds h1 e1 g1 wk => ?_
  obtain ⟨hlen, P, p0, hs, hd⟩ := h1
  intro Da hDa
  -- the new list is mutable while the loop runs, but has no number
  have ex := ext_hid g1 (o := .lst []) hDa
  have gx := ga_hid g1 (o := .lst []) hDa
  refine ⟨fun i m H => m = ds.length - i ∧ i ≤ ds.length ∧ ∃ acc us α γ, P i acc γ ∧ acc.length ≤ i ∧ H Da = some (.lst us) ∧ Da ∈ α.x ∧ RpL K H α us acc ∧ Ext α1 H1 α H ∧ GaOk K H α γ,
    ⟨ds.length, by simp, Nat.zero_le _, [], [], α1.hid Da, γ1, p0, Nat.le_refl _, upd_same, List.mem_cons_self, .nil, ex, gx⟩, ?_⟩
  rintro i m H2 ⟨rfl, hi, acc, us, α2, γ2, p2, hacc, hD2, nD2, ra2, e2, g2⟩
  by_cases hlt : i < ds.length
  · refine .inr ⟨wk.go i H2 α2 γ2 e2 g2 hlt, fun H => i + 1 ≤ ds.length ∧ ∃ acc us α γ, P (i + 1) acc γ ∧ acc.length ≤ i + 1 ∧ H Da = some (.lst us) ∧ Da ∈ α.x ∧ RpL K H α us acc ∧ Ext α1 H1 α H ∧ GaOk K H α γ, fun H' hh => ⟨ds.length - (i + 1), by omega, rfl, hh⟩, fun x H' y => ?_⟩
    obtain ⟨d, hd1, e3, g3, r3⟩ := wk.yld i H2 α2 γ2 x H' hlt e2 g2 y
    refine hs i d acc γ2 hd1 p2 (wipe σ vs) H' α2 x _ (rpe_wipe (r.mono ((e1.trans e2).trans e3)) vs) g3 r3 fun σ4 H4 α4 ρ4 γ4 h4 s4 e4 g4 r4 => ?_
    refine ⟨wipe_eq s4 hsub, ?_⟩
    refine h4 σ4 H4 α4 _ r4 g4 fun b H5 α5 γ5 h5 e5 g5 => ?_
    have e25 := (e3.trans e4).trans e5
    have inx : ∀ {α6 : Al} {H6 : Hp}, Ext α2 H2 α6 H6 → Da ∈ α6.x := fun e => by
      obtain ⟨δ, q, _⟩ := e.xx
      rw [q]
      exact List.mem_append_right _ nD2
    cases b with
    | true =>
      refine iteT (h5 σ4 H5 α5 _ (r4.mono e5) g5 fun y H6 α6 yd γ6 h6 e6 g6 r6 => ?_)
      have e26 := e25.trans e6
      have hD6 := e26.keepx _ _ nD2 hD2
      have nD6 := inx e26
      have ew := ext_setW g6 (o := .lst (us ++ [y])) (.inr nD6)
      refine ⟨us, hD6, ?_, hlt, acc ++ [yd], us ++ [y], α6, γ6, h6, by simp; omega, upd_same, nD6, ?_, ext_hset g1 (e2.trans e26) hDa, ga_hset g6 nD6⟩
      · rw [(RpL.length ra2)]
        exact size24 (by omega)
      · exact RpL.monoW ew _ _ ((RpL.mono e26 _ _ ra2).append (.cons r6 .nil))
    | false =>
      exact iteF ⟨hlt, acc, us, α5, γ5, h5, by omega, e25.keepx _ _ nD2 hD2, inx e25, RpL.mono e25 _ _ ra2, e2.trans e25, g5⟩
  · have ei : i = ds.length := by omega
    subst ei
    have nh : Da ∉ α2.h := fun z => g2.nd.2.2 Da z nD2
    exact .inl ⟨wk.stop _ H2 α2 γ2 e2 g2 (Nat.le_refl _), w _ H2 (α2.un Da) _ γ2 (hd acc γ2 p2) (e1.trans (ext_un g1 e2 hDa)) (ga_un g2) (.lst (out_un nh) hD2 (RpL.shw (α := α2) (α' := α2.un Da) rfl un_x _ _ ra2))⟩
end
end DL

set_option Elab.async false
set_option linter.all false
set_option maxRecDepth 100000
set_option maxHeartbeats 2000000
/-! what a def promises where no guard stands (repr of data asks that) -/
namespace DL
open PySem PySem.Spec PyProof.Rows L2

structure FnG (P : Program) (w : World) (K : Frag) (mg : Str → Option Value) (base : Heap) (CX : CXT) (k : Nat) (f : Addr) (fd : FuncData) (ps : List Str) (sp : Sp) : Prop where
  len : ∀ vs H Q E, sp vs H Q E → vs.length = ps.length
  run : ∀ (A : Around) (outer : List PySem.Env) (s : Shared) (H : Hp) (args : Args) (us : List Value) (vs : List V) (Q : VK) (E : XK), Room k A → A.guards = some [] → Env0 P w K mg base A outer s H → BindsTo s fd args (ps.zip us) → Vals vs us → sp vs H Q E →
    codeAny (model P w) A (.call (.ref f) args) (CR CX outer P w H s Q E) s
theorem FnG.mono {P : Program} {w : World} {K : Frag} {mg : Str → Option Value} {base : Heap} {CX : CXT} {j k : Nat} {f : Addr} {fd : FuncData} {ps : List Str} {sp : Sp} (F : FnG P w K mg base CX j f fd ps sp) (h : j ≤ k) : FnG P w K mg base CX k f fd ps sp :=
  ⟨F.len, fun A outer s H args us vs Q E room gd => F.run A outer s H args us vs Q E (room.mono h) gd⟩
theorem FnG.imp {P : Program} {w : World} {K : Frag} {mg : Str → Option Value} {base : Heap} {CX : CXT} {k : Nat} {f : Addr} {fd : FuncData} {ps : List Str} {sp sp' : Sp} (F : FnG P w K mg base CX k f fd ps sp) (h : ∀ vs H Q E, sp' vs H Q E → sp vs H Q E) : FnG P w K mg base CX k f fd ps sp' :=
  ⟨fun vs H Q E q => F.len vs H Q E (h vs H Q E q), fun A outer s H args us vs Q E room gd e0 bd rv q => F.run A outer s H args us vs Q E room gd e0 bd rv (h vs H Q E q)⟩
section
variable {X : Cx} {CX : CXT} {k : Nat} {f C : Addr} {fd : FuncData} {ps : List Str} {sp : Sp} {E : XK} {x m : Str} {p pos apos : Pos} {e o : Expr} {es : List Expr} {ta : TE} {t : TA}
/-- the callee runs; every parameter is given -/
theorem runG {pins : List (Addr × Obj)} {σ : L2.St} {H : Hp} {s : Shared} {Q : VK} {us : List Value} {vs : List V} (F : FnG X.prog X.w X.K X.mg X.base CX k f fd ps sp) (room : Room k X.A) (gd : X.A.guards = some []) (bd : Binds X.K fd ps []) (px : Passes CX X E)
    (I : Inv X pins σ H s) (rv : Vals vs us) (q : sp vs H Q E) : wpAny (model X.prog X.w) X.A (call (.ref f) us) (EP X pins σ Q) X.xe s := by
  have bl := bd s us I.kIn (by rw [List.append_nil, ← rv.length]; exact F.len _ _ _ _ q)
  rw [List.append_nil] at bl
  refine wpAny_call (codeAny_mono (F.run X.A X.stack s H ⟨us, []⟩ us vs Q E room gd I.env0 bl rv q) fun res s2 hres => ?_)
  match res, hres with
  | .error e, hres => exact px pins σ H s e s2 I hres
  | .ok (.ret u), hres => exact I.after hres
  | .ok .next, hres => exact hres.elim
  | .ok .brk, hres => exact hres.elim
  | .ok .cont, hres => exact hres.elim
theorem callG (F : FnG X.prog X.w X.K X.mg X.base CX k f fd ps sp) (room : Room k X.A) (gd : X.A.guards = some []) (bd : Binds X.K fd ps []) (px : Passes CX X E) (gl : Gl X x) (mgx : X.mg x = some (.ref f)) (kp : PySem.W.keepIn X.K (.ref f) = true)
    (ha : PA X (e :: es) t) (h1 : (x == ("__debug__" : Str)) = false := by decide) (h2 : starEach (e :: es) X.env = (false, eval e X.env) :: starEach es X.env := by rfl) (h3 : (backTo pos (starEach es X.env)).any (·.1) = false := by rfl) :
    PE X (.Call (.Name x p) (e :: es) [] pos) (tCall sp [] E t) := ⟨fun pins s σ H Q I h => by
  refine wpAny_Call_Name_kw (ld_glob I gl mgx (PySem.W.callWith_K (h₀ := X.base) I.ok.mod.kin kp (thn (ha.run pos pins s σ H _ I h) fun us s1 hh => ?_) h2 h3) h1)
  obtain ⟨vs, H1, I1, rv, q⟩ := hh
  rw [List.append_nil] at q
  exact ⟨I1.kIn, runG F room gd bd px I1 rv q⟩⟩
theorem callG0 (F : FnG X.prog X.w X.K X.mg X.base CX k f fd ps sp) (room : Room k X.A) (gd : X.A.guards = some []) (bd : Binds X.K fd ps []) (px : Passes CX X E) (gl : Gl X x) (mgx : X.mg x = some (.ref f)) (kp : PySem.W.keepIn X.K (.ref f) = true)
    (h1 : (x == ("__debug__" : Str)) = false := by decide) : PE X (.Call (.Name x p) [] [] pos) (tCall sp [] E tNil) :=
  ⟨fun pins s σ H Q I h => wpAny_Call_Name_kw (ld_glob I gl mgx (PySem.W.callWith_K0 I.kIn kp (runG (us := []) F room gd bd px I .nil h)) h1)⟩
theorem methG {pl : Sem Bool} (he : PE X o ta) (cl : Cls X.K C) (mt : Meth X.K C m f) (F : FnG X.prog X.w X.K X.mg X.base CX k f fd ps sp) (room : Room k X.A) (gd : X.A.guards = some []) (bd : Binds X.K fd ps []) (px : Passes CX X E) (ha : PA X (e :: es) t)
    (h2 : starEach (e :: es) X.env = (false, eval e X.env) :: starEach es X.env := by rfl) (h3 : (backTo pos (starEach es X.env)).any (·.1) = false := by rfl)
    (ht : eval (.Call (.Attribute o m apos) (e :: es) [] pos) X.env = (do let ov ← eval o X.env; standAt apos.atName; let (f, first) ← holding [ov] (getMethod ov m pl); callWith pos f first (backTo pos (starEach (e :: es) X.env)) (backToKw pos (keywordEach [] X.env))) := by rfl) :
    PE X (.Call (.Attribute o m apos) (e :: es) [] pos) (tMeth C m sp [] E ta t) := ⟨fun pins s σ H Q I h => by
  refine PySem.W.methodCall_KW (pl := pl) (thn (he.run pins s σ H _ I h) fun u s1 hh => ?_) ht
  obtain ⟨x1, H1, I1, rx, a, dx, fs, ex, ea, l, q⟩ := hh
  subst ex
  cases rx
  refine getmeth_ok I1 ea cl mt l (PySem.W.callWith_K (first := [.ref a]) (h₀ := X.base) I.ok.mod.kin mt.kp (thn (ha.run pos pins s1 σ H1 _ I1 q) fun us s2 hh2 => ?_) h2 h3)
  obtain ⟨vs, H2, I2, rv, q2⟩ := hh2
  rw [List.append_nil] at q2
  exact ⟨I2.kIn, runG (us := .ref a :: us) (vs := .ref a :: vs) F room gd bd px I2 (.cons rfl rv) q2⟩⟩
theorem methG0 {pl : Sem Bool} (he : PE X o ta) (cl : Cls X.K C) (mt : Meth X.K C m f) (F : FnG X.prog X.w X.K X.mg X.base CX k f fd ps sp) (room : Room k X.A) (gd : X.A.guards = some []) (bd : Binds X.K fd ps []) (px : Passes CX X E)
    (ht : eval (.Call (.Attribute o m apos) [] [] pos) X.env = (do let ov ← eval o X.env; standAt apos.atName; let (f, first) ← holding [ov] (getMethod ov m pl); callWith pos f first (backTo pos (starEach [] X.env)) (backToKw pos (keywordEach [] X.env))) := by rfl) :
    PE X (.Call (.Attribute o m apos) [] [] pos) (tMeth C m sp [] E ta tNil) := ⟨fun pins s σ H Q I h => by
  refine PySem.W.methodCall_KW (pl := pl) (thn (he.run pins s σ H _ I h) fun u s1 hh => ?_) ht
  obtain ⟨x1, H1, I1, rx, a, dx, fs, ex, ea, l, q⟩ := hh
  subst ex
  cases rx
  exact getmeth_ok I1 ea cl mt l (PySem.W.callWith_K0 (first := [.ref a]) I1.kIn mt.kp (runG (us := [.ref a]) (vs := [.ref a]) F room gd bd px I1 (.cons rfl .nil) q))⟩
theorem makeRunG {pins : List (Addr × Obj)} {σ : L2.St} {H : Hp} {s : Shared} {Q : VK} {us : List Value} {vs : List V} (M : Mk X.K C f) (F : FnG X.prog X.w X.K X.mg X.base CX k f fd ps sp) (room : Room (k + 1) X.A) (gd : X.A.guards = some []) (bd : Binds X.K fd ps []) (px : Passes CX X E)
    (I : Inv X pins σ H s) (rv : Vals vs us) (q : ∀ x dx, H x = none → H dx = none → dx ≠ x → sp (.ref x :: vs) (upd (upd H dx (.own x)) x (.ins C dx [])) (fun v H2 => v = .non ∧ Q (.ref x) H2) E) :
    wpAny (model X.prog X.w) X.A (call (.ref C) us) (EP X pins σ Q) X.xe s := by
  let n := s.heap.objs.size
  have q' := q (n + 1) n (I.hok.fresh (Nat.le_succ n)) (I.hok.fresh (Nat.le_refl n)) (Nat.ne_of_lt (Nat.lt_succ_self n))
  have J := Inv.made (C := C) I
  have rv' : Vals (V.ref (n + 1) :: vs) (Value.ref (n + 1) :: us) := .cons rfl rv
  have bl := bd _ (Value.ref (n + 1) :: us) J.kIn (by rw [List.append_nil, ← rv'.length]; exact F.len _ _ _ _ q')
  rw [List.append_nil] at bl
  refine wpAny_call (make_map (f := f) I.kIn M.makes M.init (beq_iff_eq.mp M.fn) (codeAny_mono (F.run _ X.stack _ _ ⟨Value.ref (n + 1) :: us, []⟩ _ _ _ E (room.make C us []) ?_ (J.env0.make C us []) bl rv' q') fun res s2 hres => ?_))
  · simp [Around.under, gd, Code.guards, Code.isGuard, pushGuards, guardIds]
  match res, hres with
  | .error e, hres => exact px pins σ _ _ e s2 J hres
  | .ok (.ret u), hres =>
    obtain ⟨v, H', J', rv2, ev, q3⟩ := J.after hres
    subst ev
    exact ⟨rv2, V.ref (n + 1), H', J', rfl, q3⟩
  | .ok .next, hres => exact hres.elim
  | .ok .brk, hres => exact hres.elim
  | .ok .cont, hres => exact hres.elim
theorem makeG (M : Mk X.K C f) (F : FnG X.prog X.w X.K X.mg X.base CX k f fd ps sp) (room : Room (k + 1) X.A) (gd : X.A.guards = some []) (bd : Binds X.K fd ps []) (px : Passes CX X E) (gl : Gl X x) (mgx : X.mg x = some (.ref C))
    (ha : PA X (e :: es) t) (h1 : (x == ("__debug__" : Str)) = false := by decide) (h2 : starEach (e :: es) X.env = (false, eval e X.env) :: starEach es X.env := by rfl) (h3 : (backTo pos (starEach es X.env)).any (·.1) = false := by rfl) :
    PE X (.Call (.Name x p) (e :: es) [] pos) (tMake C sp [] E t) := ⟨fun pins s σ H Q I h => by
  refine wpAny_Call_Name_kw (ld_glob I gl mgx (PySem.W.callWith_K (h₀ := X.base) I.ok.mod.kin M.kp (thn (ha.run pos pins s σ H _ I h) fun us s1 hh => ?_) h2 h3) h1)
  obtain ⟨vs, H1, I1, rv, q⟩ := hh
  rw [List.append_nil] at q
  exact ⟨I1.kIn, makeRunG M F room gd bd px I1 rv q⟩⟩
end
/-! ### a def's promise by its body -/
theorem fnG_of {CX : CXT} {P : Program} {w : World} {K : Frag} {mg : Str → Option Value} {base : Heap} {k : Nat} {f : Addr} {x qual : Str} {params : Arguments} {body : List Stmt} {scope : Scope} {dvs : List V} {kws : List (Str × V)} {fd : FuncData} {N ps : List Str} {sp : Sp}
    (F : FunD K x qual params body scope dvs kws f fd) (S : FnScope N ps scope) (len : ∀ vs H Q E, sp vs H Q E → vs.length = ps.length)
    (hb : ∀ (cdv : Value) (A : Around) (outer : List PySem.Env) (s : Shared) (H : Hp) (vs : List V) (Q : VK) (E : XK), Room k (cxOf CX P w K mg base N qual scope f cdv A outer s H E).A → (cxOf CX P w K mg base N qual scope f cdv A outer s H E).A.guards = some [] → sp vs H Q E →
      ∃ t, PSs (cxOf CX P w K mg base N qual scope f cdv A outer s H E) body t ∧ t { nx := fun _ H' => Q .non H', rt := Q } (start N vs) H) : FnG P w K mg base CX (k + 1) f fd ps sp := by
  obtain ⟨oc, od, dV, kV, doc, pm, an, cdv, ct, osl, rfl, lk, hcd, _, _⟩ := F.ex
  refine ⟨len, fun A outer s H args us vs Q E room gd e0 bd rv q => ?_⟩
  have KX : K.In s.heap := e0.mod.kin.keeps fun b o h => (e0.bs b o h).1
  have lim : s.heap.NoLimit := e0.mod.nolimit.keeps fun b o h => (e0.bs b o h).1
  refine codeAny_call_function room.depth (KX _ _ lk) rfl S.co S.gen rfl (PySem.W.codeRec_of KX hcd) (bd _ _ _ _ ?_)
  refine wpAny_newFunctionEnv_cells S.kind (fun y hy => ?_) fun env he s1 hin => ?_
  · rcases S.par y.1 (List.of_mem_zip (show (y.1, y.2) ∈ ps.zip us from hy)).1 with z | z
    · exact .inl z
    · exact .inr ⟨z, PySem.W.cellsFrom_some _ _ _ (.inl z)⟩
  subst he
  refine ⟨lim.keeps hin.toInCall.keep, codeAny_func ?_⟩
  obtain ⟨t, ht, hq⟩ := hb cdv A outer s H vs Q E (room.deeper _) gd q
  have J : Inv (cxOf CX P w K mg base N qual scope f cdv A outer s H E) [] (start N vs) H s1 := inv_start S room.hd e0 (len _ _ _ _ q) rv hin
  refine wpAny_mono (ht.run [] s1 (start N vs) H _ J hq) (fun fl s2 hs => ?_) fun _ _ hs => hs
  match fl, hs with
  | .ret u, ⟨v, _, H', I', r', q'⟩ => exact ⟨v, H', I'.os, I'.bare, I'.base, I'.hok, r', q'⟩
  | .next, ⟨_, H', I', q'⟩ => exact ⟨V.non, H', I'.os, I'.bare, I'.base, I'.hok, rfl, q'⟩
  | .brk, ⟨_, _, _, q'⟩ => exact False.elim q'
  | .cont, ⟨_, _, _, q'⟩ => exact False.elim q'
end DL

set_option Elab.async false
set_option linter.all false
set_option maxRecDepth 100000
set_option maxHeartbeats 2000000
namespace DL
open PySem PySem.Spec PyProof.Rows L2
section
variable {P : Program} {w : World} {K : Frag} {mg mb : Str → Option Value} {CX : CXT} {k : Nat} {fa a : Addr} {fd : FuncData} {x : Str} {sp : Sp} {s₁ : Shared} {vs : List Value} {ns : List Int}
/-- the law's call, from one abstract heap H that tracks nothing but the script -/
theorem lawG_at {H : Hp} (KX : K.In s₁.heap) (hns : s₁.heap.Ns mainGlobals mg) (hb : s₁.heap.Ns builtinsNs mb) (hbb : ∀ x : Str, x ≠ "__name__" → mb x = bootBuiltins x) (lim : s₁.heap.NoLimit) (g0 : s₁.gens = #[])
    (sc : s₁.heap.get? a = some { cls := .type "list", data := .seq vs.toArray }) (room : Room k callerA) (F : ∀ base : Heap, K.In base → base.Ns mainGlobals mg → FnG P w K mg base CX k fa fd [x] sp) (bd : ∀ (s : Shared) (u : Value), BindsTo s fd ⟨[u], []⟩ [(x, u)])
    (q : sp [.ref a] H (fun v _ => v = .bl true) fun _ _ _ => False) (hcx : ∀ e s', CX [] H s₁ (fun _ _ _ => False) e s' → False)
    (hO : Only H) (hok : HOk P w H s₁.heap) (at_a : ∀ b u, H b = some u → b = a) (notK : ∀ u, H a = some u → K.lookup a = none) :
    codeAny (model P w) callerA (.call (.ref fa) ⟨[.ref a], []⟩) (fun r s' => r = .ok (.ret (.bool true)) ∧ OldK s₁.heap s'.heap ∧ s'.os = s₁.os ∧ AllBare s'.gens) s₁ := by
  have free_of : ∀ b, (b = a → False) → H b = none := fun b n => by
    cases e : H b with
    | none => rfl
    | some u => exact (n (at_a b u e)).elim
  have keepNs : ∀ {b : Addr} {m : Str → Option Value}, s₁.heap.Ns b m → (hidT s₁.heap H).Ns b m := fun {b m} hn => by
    obtain ⟨o, es, ep, e, d, r⟩ := hn
    refine ⟨o, es, ep, hidT_get e (free_of b fun z => ?_), d, r⟩
    subst z
    rw [sc] at e
    cases e
    cases d
  have KB : K.In (hidT s₁.heap H) := fun b o e => by
    refine hidT_get (KX b o e) ?_
    cases z : H b with
    | none => rfl
    | some u =>
      have eb := at_a b u z
      subst eb
      rw [notK u z] at e
      cases e
  have md : Mod K mg (hidT s₁.heap H) := by
    obtain ⟨mc, l1, l2⟩ := lim
    exact ⟨KB, keepNs hns, ⟨mb, keepNs hb, hbb⟩, mc, keepNs l1, l2⟩
  have e0 : Env0 P w K mg (hidT s₁.heap H) callerA [] s₁ H := ⟨rfl, md, fun _ _ e => of_hidT e, Nat.le_of_eq (hidT_size _ _), trivial, fun b z => by simp [frs] at z, hok, AllBare.of_eq g0⟩
  refine codeAny_mono ((F _ KB (keepNs hns)).run callerA [] s₁ H ⟨[.ref a], []⟩ [.ref a] [.ref a] _ _ room rfl e0 (bd s₁ (.ref a)) (.cons rfl .nil) q) fun res s2 hres => ?_
  match res, hres with
  | .error e, hres => exact (hcx e s2 hres).elim
  | .ok .next, hres => exact hres.elim
  | .ok .brk, hres => exact hres.elim
  | .ok .cont, hres => exact hres.elim
  | .ok (.ret u), ⟨v, H', os, bare, un, hok', rv, qv⟩ =>
    cases qv
    cases rv
    refine ⟨rfl, OldK.of_keep fun b o e => ?_, os, bare⟩
    cases z : H b with
    | none => exact un.keep b o e z (by simp [frs]) (by simp)
    | some u =>
      rcases hO b with y | ⟨ob, xs, y⟩
      · rw [z] at y; cases y
      · have y2 := un.frzs b ob _ y
        obtain ⟨e1, _⟩ := hok b _ y
        obtain ⟨e2, _⟩ := hok' b _ y2
        rw [e] at e1
        cases e1
        exact e2
theorem lawG (KX : K.In s₁.heap) (hns : s₁.heap.Ns mainGlobals mg) (hb : s₁.heap.Ns builtinsNs mb) (hbb : ∀ x : Str, x ≠ "__name__" → mb x = bootBuiltins x) (lim : s₁.heap.NoLimit) (g0 : s₁.gens = #[])
    (sc : s₁.heap.get? a = some { cls := .type "list", data := .seq vs.toArray }) (hi : IntsAre vs ns) (hl : ns.length ≤ sizeLine) (room : Room k callerA) (F : ∀ base : Heap, K.In base → base.Ns mainGlobals mg → FnG P w K mg base CX k fa fd [x] sp) (bd : ∀ (s : Shared) (u : Value), BindsTo s fd ⟨[u], []⟩ [(x, u)])
    (q : ∀ H : Hp, Only H → SqL K H a (ns.map V.int) → sp [.ref a] H (fun v _ => v = .bl true) fun _ _ _ => False) (hcx : ∀ H e s', CX [] H s₁ (fun _ _ _ => False) e s' → False) :
    codeAny (model P w) callerA (.call (.ref fa) ⟨[.ref a], []⟩) (fun r s' => r = .ok (.ret (.bool true)) ∧ OldK s₁.heap s'.heap ∧ s'.os = s₁.os ∧ AllBare s'.gens) s₁ := by
  have rv := vals_ints hi
  cases hk : K.lookup a with
  | some o =>
    have e := KX a o hk
    rw [sc] at e
    cases e
    have hO : Only (fun _ => none) := fun _ => .inl rfl
    have hS : SqL K (fun _ => none) a (ns.map V.int) := .inr ⟨_, vs.toArray, _, hk, rfl, rfl, rfl, by rw [List.size_toArray, ← rv.length, List.length_map]; exact hl, by simpa using rv⟩
    exact lawG_at KX hns hb hbb lim g0 sc room F bd (q _ hO hS) (hcx _) hO (fun b u z => nomatch (show (none : Option HO) = some u from z)) (fun b u z => nomatch (show (none : Option HO) = some u from z)) fun u z => nomatch (show (none : Option HO) = some u from z)
  | none =>
    let o : Obj := { cls := .type "list", data := .seq vs.toArray }
    let H : Hp := fun b => if b = a then some (.frz o (.lst (ns.map V.int))) else none
    have Ha : H a = some (.frz o (.lst (ns.map V.int))) := if_pos rfl
    have Hb : ∀ b u, H b = some u → b = a := fun b u z => Classical.byContradiction fun n => by
      have z2 : (none : Option HO) = some u := (if_neg n).symm.trans z
      cases z2
    have hO : Only H := fun b => by
      by_cases n : b = a
      · exact .inr ⟨_, _, if_pos n⟩
      · exact .inl (if_neg n)
    refine lawG_at KX hns hb hbb lim g0 sc room F bd (q H hO (.inl (.inr ⟨o, Ha⟩))) (hcx H) hO (fun b u z => ?_) Hb fun _ _ => hk
    have eb := Hb b u z
    subst eb
    rw [Ha] at z
    cases z
    exact ⟨sc, by rw [List.length_map]; exact hl, vs, _, rv, sc⟩
end
theorem walkG {l : PySem.W.OpenLaw} {n k : Nat} {q : Program} {loose : List Str} {XP : (Str → Option Value) → Heap → Prop} {YP : World → Heap → Prop} {d : DefRec} {CX : World → CXT} {x : Str}
    (hn : l.most = some n) (hn2 : n ≤ sizeLine) (hdf : d.params.defaults = []) (room : Room k callerA)
    (F : ∀ (w : World) (mg : Str → Option Value) (fa : Addr) (h : Heap), YP w h → h.Ns mainGlobals mg → mg d.name = some (.ref fa) →
      ∃ (K : Frag) (fd : FuncData) (sp : Sp), K.In h ∧ (∀ (s : Shared) (u : Value), BindsTo s fd ⟨[u], []⟩ [(x, u)]) ∧
        (∀ (H : Hp) (a : Addr) (ns : List Int), ns.length ≤ n → Only H → SqL K H a (ns.map V.int) → sp [.ref a] H (fun v _ => v = .bl true) fun _ _ _ => False) ∧
        ∀ base : Heap, K.In base → base.Ns mainGlobals mg → FnG l.prog w K mg base (CX w) k fa fd [x] sp)
    (hCX : ∀ (w : World) (H : Hp) (s : Shared) (e : Value) (s' : Shared), CX w [] H s (fun _ _ _ => False) e s' → False) :
    PySem.W.WalkO q loose XP YP l.row.toRowW d [] (fun f vs => PySem.call f vs) := by
  refine Att.attach_call hn hdf fun w s₀ s₁ mg mb fa o pm cd doc a vs ns G Y ho hd hcd hmg hobj hints hlen hg => ?_
  obtain ⟨K, fd, sp, KX, hb, hsp, hF⟩ := F w mg fa _ Y G.T.g hmg
  exact lawG KX G.T.g G.T.b G.T.builtins G.T.nolimit hg hobj hints (Nat.le_trans hlen hn2) room hF hb (fun H hO hS => hsp H a ns hlen hO hS) fun H e s' => hCX w H s₁ e s'
end DL

set_option Elab.async false
set_option linter.all false
set_option maxRecDepth 100000
set_option maxHeartbeats 2000000
namespace DL
open PySem PySem.Spec PyProof.Rows L2

/-! ### promises over data -/
abbrev XD := Addr → List Str → List D → Ga → Prop
abbrev noX : XD := fun _ _ _ _ => False
abbrev SpD := List D → Ga → QD → XD → Prop
def Xv (K : Frag) (α : Al) (H : Hp) (e : XD) (E : XK) : Prop :=
  ∀ C dd fs ds γ' α' H', e C (fs.map (·.1)) ds γ' → Ext α H α' H' → GaOk K H' α' γ' → H' dd = some (.xd fs) → dd ∉ α' → RpL K H' α' (fs.map (·.2)) ds → E (.ref C) (some dd) H'
def toSp (K : Frag) (s : SpD) : Sp := fun vs H Q E => ∃ α ds γ q e, RpL K H α vs ds ∧ GaOk K H α γ ∧ s ds γ q e ∧ Wv K α H q Q ∧ Xv K α H e E
theorem xv_no {K : Frag} {α : Al} {H : Hp} {E : XK} : Xv K α H noX E := fun _ _ _ _ _ _ _ h => h.elim
section
variable {K : Frag} {n : Nat} {ρ : Env} {γ : Ga} {Q : QD} {s : SpD} {E : XK} {t : TA} {ta : TE} {C : Addr} {m : Str}
theorem de_call (h : dA K t ρ γ fun ds γ1 => s ds γ1 Q noX) : dE K (tCall (toSp K s) [] E t) ρ γ Q := fun σ H α q r g w =>
  h σ H α _ r g fun vs H1 α1 ds γ1 h1 e1 g1 r1 => by
    rw [List.append_nil]
    exact ⟨α1, ds, γ1, Q, noX, r1, g1, h1, w.mono e1, xv_no⟩
/-- r stands for an instance of the class at C with these fields -/
def InsAt (r : D) (γ : Ga) (C : Addr) (ns : List Str) (vs : List D) : Prop := (∃ k, r = .loc k ∧ γ[k]? = some (.ins C ns vs)) ∨ r = .ins C ns vs
theorem insAt_rp {H : Hp} {α : Al} {v : V} {r : D} {ns : List Str} {vs : List D} (i : InsAt r γ C ns vs) (g : GaOk K H α γ) (rv : Rp K H α v r) :
    ∃ a dx fs, v = .ref a ∧ H a = some (.ins C dx fs) ∧ fs.map (·.1) = ns ∧ RpL K H α (fs.map (·.2)) vs := by
  rcases i with ⟨k, rfl, hk⟩ | rfl
  · cases rv with
    | loc ha =>
      obtain ⟨dx, fs, h1, h2, h3⟩ := g.at_ k _ _ ha hk
      exact ⟨_, dx, fs, rfl, h1, h2, h3⟩
  · cases rv with
    | ins h1 h2 h3 => exact ⟨_, _, _, rfl, h2, rfl, h3⟩
theorem lookup_none {fs : List (Str × V)} {m : Str} (h : (fs.map (·.1)).contains m = false) : fs.lookup m = none := by
  induction fs with
  | nil => rfl
  | cons p r ih =>
    obtain ⟨a, b⟩ := p
    simp only [List.map_cons, List.contains_cons, Bool.or_eq_false_iff] at h
    rw [List.lookup_cons, h.1]
    exact ih h.2
theorem de_meth (h : dE K ta ρ γ fun r γ1 => (∃ ns vs, InsAt r γ1 C ns vs ∧ ns.contains m = false) ∧ dA K t ρ γ1 fun ds γ2 => s (r :: ds) γ2 Q noX) : dE K (tMeth C m (toSp K s) [] E ta t) ρ γ Q := fun σ H α q r g w =>
  h σ H α _ r g fun v H1 α1 d γ1 ⟨⟨ns, vs, i, hm⟩, h1⟩ e1 g1 r1 => by
    obtain ⟨a, dx, fs, rfl, ha, hn, hv⟩ := insAt_rp i g1 r1
    refine ⟨a, dx, fs, rfl, ha, lookup_none (by rw [hn]; exact hm), h1 σ H1 α1 _ (r.mono e1) g1 fun us H2 α2 ds γ2 h2 e2 g2 r2 => ?_⟩
    rw [List.append_nil]
    exact ⟨α2, d :: ds, γ2, Q, noX, .cons (Rp.mono e2 _ _ r1) r2, g2, h2, w.mono (e1.trans e2), xv_no⟩
/-- a new instance -/
theorem de_make (h : dA K t ρ γ fun ds γ1 => s (.loc γ1.length :: ds) (γ1 ++ [.ins C [] []]) (fun d γ2 => d = .non ∧ Q (.loc γ1.length) γ2) noX) : dE K (tMake C (toSp K s) [] E t) ρ γ Q := fun σ H α q r g w =>
  h σ H α _ r g fun us H1 α1 ds γ1 h1 e1 g1 r1 => fun x dx hx hdx hne => by
    rw [List.append_nil]
    have ea := ext_imm g1 (o := .own x) hdx
    have ga := ga_imm g1 (o := .own x) hdx
    have hx' : upd H1 dx (.own x) x = none := by rw [upd_ne (Ne.symm hne)]; exact hx
    have eb := ext_loc ga (o := .ins C dx []) hx'
    have gb := ga_loc ga (o := .ins C dx []) (m := .ins C [] []) hx' ⟨dx, [], upd_same, rfl, .nil⟩
    have hl : (α1.push x).h[γ1.length]? = some x := by show (α1.h ++ [x])[γ1.length]? = _; rw [← g1.len]; simp
    refine ⟨α1.push x, _, _, _, noX, .cons (.loc hl) (RpL.mono (ea.trans eb) _ _ r1), gb, h1, ?_, xv_no⟩
    rintro v H2 α2 d γ2 ⟨rfl, hq⟩ e2 g2 r2
    cases r2
    exact ⟨rfl, w (.ref x) H2 α2 _ γ2 hq (((e1.trans ea).trans eb).trans e2) g2 (.loc (e2.get hl))⟩
/-! ### fields -/
def fix (ns : List Str) (f : Str) : Option Nat := ns.findIdx? (· == f)
theorem lookup_fix : ∀ {fs : List (Str × V)} {f : Str} {j : Nat}, fix (fs.map (·.1)) f = some j → ∃ v, fs.lookup f = some v ∧ (fs.map (·.2))[j]? = some v := by
  intro fs
  induction fs with
  | nil => intro f j h; cases h
  | cons p r ih =>
    intro f j h
    obtain ⟨a, b⟩ := p
    unfold fix at h
    rw [List.map_cons, List.findIdx?_cons] at h
    by_cases hc : (a == f) = true
    · rw [if_pos hc] at h
      cases h
      refine ⟨b, ?_, rfl⟩
      rw [List.lookup_cons, show (f == a) = true by rw [beq_iff_eq] at hc ⊢; exact hc.symm]
    · rw [if_neg hc] at h
      cases q : (r.map (·.1)).findIdx? (· == f) with
      | none => rw [q] at h; cases h
      | some i =>
        rw [q] at h
        cases h
        obtain ⟨v, h1, h2⟩ := ih (f := f) (j := i) q
        refine ⟨v, ?_, h2⟩
        rw [List.lookup_cons, show (f == a) = false by
          cases z : (f == a) with
          | false => rfl
          | true => exact absurd (by rw [beq_iff_eq] at z ⊢; exact z.symm) hc]
        exact h1
theorem de_fld {f : Str} (cl : Cls K C) (na : NoAttr K C f) (h : dE K ta ρ γ fun r γ1 => ∃ ns vs j d, InsAt r γ1 C ns vs ∧ fix ns f = some j ∧ vs[j]? = some d ∧ Q d γ1) : dE K (tFld K ta f) ρ γ Q := fun σ H α q r g w =>
  h σ H α _ r g fun v H1 α1 d γ1 ⟨ns, vs, j, x, i, hj, hx, hq⟩ e1 g1 r1 => by
    obtain ⟨a, dx, fs, rfl, ha, hn, hv⟩ := insAt_rp i g1 r1
    subst hn
    obtain ⟨u, h1, h2⟩ := lookup_fix hj
    obtain ⟨u', h3, h4⟩ := hv.get hx
    rw [h2] at h3
    cases h3
    exact ⟨a, C, dx, fs, u, rfl, ha, cl, na, h1, w u H1 α1 x γ1 hq e1 g1 h4⟩
theorem putF_new : ∀ {fs : List (Str × V)} {f : Str} {v : V}, fix (fs.map (·.1)) f = none → putF f v fs = fs ++ [(f, v)] := by
  intro fs
  induction fs with
  | nil => intro f v h; rfl
  | cons p r ih =>
    intro f v h
    obtain ⟨a, b⟩ := p
    unfold fix at h
    rw [List.map_cons, List.findIdx?_cons] at h
    by_cases hc : (a == f) = true
    · rw [if_pos hc] at h; cases h
    · rw [if_neg hc] at h
      have hn : ¬ a = f := fun e => hc (by rw [beq_iff_eq]; exact e)
      show (if a = f then _ else (a, b) :: putF f v r) = _
      rw [if_neg hn, ih]
      · rfl
      · unfold fix
        cases q : (r.map (·.1)).findIdx? (· == f) with
        | none => rfl
        | some i => rw [q] at h; cases h
theorem putF_old : ∀ {fs : List (Str × V)} {f : Str} {v : V} {j : Nat}, fix (fs.map (·.1)) f = some j → (putF f v fs).map (·.1) = fs.map (·.1) ∧ (putF f v fs).map (·.2) = (fs.map (·.2)).set j v := by
  intro fs
  induction fs with
  | nil => intro f v j h; cases h
  | cons p r ih =>
    intro f v j h
    obtain ⟨a, b⟩ := p
    unfold fix at h
    rw [List.map_cons, List.findIdx?_cons] at h
    by_cases hc : (a == f) = true
    · rw [if_pos hc] at h
      cases h
      have hn : a = f := by rw [beq_iff_eq] at hc; exact hc
      show ((if a = f then (a, v) :: r else (a, b) :: putF f v r).map (·.1)) = _ ∧ ((if a = f then (a, v) :: r else (a, b) :: putF f v r).map (·.2)) = _
      rw [if_pos hn]
      exact ⟨rfl, rfl⟩
    · rw [if_neg hc] at h
      have hn : ¬ a = f := fun e => hc (by rw [beq_iff_eq]; exact e)
      cases q : (r.map (·.1)).findIdx? (· == f) with
      | none => rw [q] at h; cases h
      | some i =>
        rw [q] at h
        cases h
        obtain ⟨h1, h2⟩ := ih (f := f) (v := v) (j := i) q
        show ((if a = f then (a, v) :: r else (a, b) :: putF f v r).map (·.1)) = _ ∧ ((if a = f then (a, v) :: r else (a, b) :: putF f v r).map (·.2)) = _
        rw [if_neg hn]
        refine ⟨?_, ?_⟩
        · show a :: (putF f v r).map (·.1) = _
          rw [h1]
          rfl
        · show b :: (putF f v r).map (·.2) = _
          rw [h2]
          rfl
/-- r.f = d, r the k-th mutable object -/
def stored (ns : List Str) (vs : List D) (f : Str) (d : D) : List Str × List D := match fix ns f with
  | some j => (ns, vs.set j d)
  | none => (ns ++ [f], vs ++ [d])
theorem ds_fld {B : DEnds} {tv : TE} {f : Str} (h : dE K tv ρ γ fun d γ1 => dE K ta ρ γ1 fun r γ2 => ∃ k C ns vs, r = .loc k ∧ γ2[k]? = some (.ins C ns vs) ∧ Cls K C ∧ NoAttr K C f ∧ vs.length < 1000 ∧
      B.nx ρ (γ2.set k (.ins C (stored ns vs f d).1 (stored ns vs f d).2))) : dS K n (sFld K ta tv f) ρ γ B := fun σ H α α0 H0 Dn hn e r g fe =>
  h σ H α _ r g fun v H1 α1 d γ1 h1 e1 g1 r1 => h1 σ H1 α1 _ (r.mono e1) g1 fun u H2 α2 ro γ2 ⟨k, C, ns, vs, er, hk, cl, na, hl, hq⟩ e2 g2 r2 => by
    subst er
    cases r2 with
    | @loc _ a ha =>
      obtain ⟨dx, fs, h1, h2, h3⟩ := g2.at_ k _ _ ha hk
      subst h2
      have rd := Rp.mono e2 _ _ r1
      have ex := ext_set g2 (o := .ins C dx (putF f v fs)) (List.mem_of_getElem? ha)
      refine ⟨a, C, dx, fs, rfl, h1, cl, na, by rw [← List.length_map (f := (·.2)), h3.length]; exact hl, fe.nx σ _ α2 ρ _ hq (((e.trans e1).trans e2).trans ex) (ga_set g2 ha ?_) (((r.mono e1).mono e2).mono ex)⟩
      unfold stored
      cases q : fix (fs.map (·.1)) f with
      | none =>
        have q1 : (putF f v fs).map (·.1) = fs.map (·.1) ++ [f] := by rw [putF_new q]; simp
        have q2 : (putF f v fs).map (·.2) = fs.map (·.2) ++ [v] := by rw [putF_new q]; simp
        refine ⟨dx, _, upd_same, q1, ?_⟩
        · rw [q2]
          exact (RpL.mono ex _ _ h3).append (.cons (Rp.mono ex _ _ rd) .nil)
      | some j =>
        obtain ⟨q1, q2⟩ := putF_old (v := v) q
        refine ⟨dx, _, upd_same, q1, ?_⟩
        rw [q2]
        exact (RpL.mono ex _ _ h3).set (Rp.mono ex _ _ rd) j
/-! ### xs[i] = e -/
theorem dg_setL {N : Env → Ga → Prop} {to ti : TE} {d : D} (h : dE K to ρ γ fun o γ1 => dE K ti ρ γ1 fun i γ2 => ∃ k xs z j, o = .loc k ∧ γ2[k]? = some (.lst xs) ∧ i = .int z ∧ ixN xs.length z = some j ∧ N ρ (γ2.set k (.lst (xs.set j d)))) :
    dG K (gSub to ti rSetL) d ρ γ [] N := fun σ H α v q r g rv w =>
  h σ H α _ r g fun vo H1 α1 o γ1 h1 e1 g1 r1 => h1 σ H1 α1 _ (r.mono e1) g1 fun vi H2 α2 i γ2 ⟨k, xs, z, j, eo, hk, ei, hj, hN⟩ e2 g2 r2 => by
    subst eo ei
    cases r2
    cases Rp.mono e2 _ _ r1 with
    | @loc _ a ha =>
      obtain ⟨us, h1, h3⟩ := g2.at_ k _ _ ha hk
      have rd := Rp.mono (e1.trans e2) _ _ rv
      have ex := ext_set g2 (o := .lst (us.set j v)) (List.mem_of_getElem? ha)
      refine ⟨a, us, z, j, rfl, rfl, h1, by rw [h3.length]; exact hj, w σ _ α2 ρ _ hN ⟨rfl, fun _ _ => rfl⟩ ((e1.trans e2).trans ex) (ga_set g2 ha ⟨_, upd_same, (RpL.mono ex _ _ h3).set (Rp.mono ex _ _ rd) j⟩) ((r.mono (e1.trans e2)).mono ex)⟩
end
end DL

set_option Elab.async false
set_option linter.all false
set_option maxRecDepth 100000
set_option maxHeartbeats 2000000
namespace DL
open PySem PySem.Spec PyProof.Rows L2

/-! ### data as the library's -/
mutual
def D.py : D → PyData
  | .bl b => .bool b
  | .int i => .int i
  | .str x => .str x
  | .tup ds => .tuple (pyL ds)
  | .lst ds => .list (pyL ds)
  | _ => .none
def pyL : List D → List PyData
  | [] => []
  | d :: ds => d.py :: pyL ds
end
mutual
/-- none but None, bools, ints, texts, tuples, lists -/
def D.pl : D → Bool
  | .non => true
  | .bl _ => true
  | .int _ => true
  | .str _ => true
  | .tup ds => plL ds
  | .lst ds => plL ds
  | _ => false
def plL : List D → Bool
  | [] => true
  | d :: ds => d.pl && plL ds
end
section
variable {K : Frag} {H : Hp} {α : Al} {γ : Ga}
mutual
theorem Rp.dp : ∀ (d : D) (v : V), Rp K H α v d → d.pl = true → Dp K H v d.py
  | .non, _, h, _ => by cases h; exact .non
  | .bl b, _, h, _ => by cases h; exact .bl b
  | .int i, _, h, _ => by cases h; exact .int i
  | .str x, _, h, _ => by cases h; exact .str x
  | .tup ds, _, h, p => by
    cases h with
    | tup h1 h2 => exact .tup h1.sq (RpL.dp ds _ h2 (by simpa [D.pl] using p))
  | .lst ds, _, h, p => by
    cases h with
    | lst h1 h2 h3 => exact .lst (SqL.of h2) (RpL.dp ds _ h3 (by simpa [D.pl] using p))
  | .ty _, _, _, p => by simp [D.pl] at p
  | .ref _, _, _, p => by simp [D.pl] at p
  | .loc _, _, _, p => by simp [D.pl] at p
  | .ins _ _ _, _, _, p => by simp [D.pl] at p
  | .dic _ _, _, _, p => by simp [D.pl] at p
  | .dit _ _, _, _, p => by simp [D.pl] at p
theorem RpL.dp : ∀ (ds : List D) (vs : List V), RpL K H α vs ds → plL ds = true → DpAll K H vs (pyL ds)
  | [], _, h, _ => by cases h; exact .nil
  | d :: ds, _, h, p => by
    cases h with
    | cons h1 h2 =>
      have p' : d.pl = true ∧ plL ds = true := by simpa [plL] using p
      exact .cons (Rp.dp d _ h1 p'.1) (RpL.dp ds _ h2 p'.2)
end
/-- a mutable list is read as it stands -/
def vw (γ : Ga) : D → D
  | .loc k => match γ[k]? with
    | some (.lst xs) => .lst xs
    | _ => .loc k
  | d => d
theorem Rp.dpv (g : GaOk K H α γ) {d : D} {v : V} (r : Rp K H α v d) (p : (vw γ d).pl = true) : Dp K H v (vw γ d).py := by
  cases d with
  | loc k =>
    cases r with
    | @loc _ a ha =>
      cases q : γ[k]? with
      | none => simp [vw, q, D.pl] at p
      | some m =>
        cases m with
        | lst xs =>
          obtain ⟨us, h1, h2⟩ := g.at_ k _ _ ha q
          have p' : plL xs = true := by simpa [vw, q, D.pl] using p
          have e : vw γ (.loc k) = .lst xs := by simp [vw, q]
          rw [e]
          exact .lst (SqL.of h1) (RpL.dp xs _ h2 p')
        | _ => simp [vw, q, D.pl] at p
  | _ => exact Rp.dp _ _ r p
end
/-! ### comparisons -/
def rEqG (K : Frag) : R2 := fun x y H Q => rEq x y H Q ∨ rEqD K x y H Q
def rNeG (K : Frag) : R2 := fun x y H Q => rNe x y H Q ∨ rNeD K x y H Q
theorem op_eqG {X : Cx} (hu : X.A.units + 64 < cLine) : OpR X (compareOp .Eq) (rEqG X.K) := op_eq.or (op_eqD hu)
theorem op_neG {X : Cx} (hu : X.A.units + 64 < cLine) : OpR X (compareOp .NotEq) (rNeG X.K) := op_ne.or (op_neD hu)
section
variable {K : Frag} {γ : Ga} {Q : QD}
theorem req_int {i j : Int} (q : Q (.bl (decide (i = j))) γ) : dR2 K (rEqG K) (.int i) (.int j) γ Q := fun H α v w k g r1 r2 wv => by
  cases r1; cases r2
  refine .inl ⟨rfl, ?_⟩
  have e : decide (V.int i = V.int j) = decide (i = j) := by simp
  rw [e]
  exact wv _ H α _ γ q g.refl g (.bl _)
theorem req_str {i j : Str} (q : Q (.bl (decide (i = j))) γ) : dR2 K (rEqG K) (.str i) (.str j) γ Q := fun H α v w k g r1 r2 wv => by
  cases r1; cases r2
  refine .inl ⟨rfl, ?_⟩
  have e : decide (V.str i = V.str j) = decide (i = j) := by simp
  rw [e]
  exact wv _ H α _ γ q g.refl g (.bl _)
theorem req_bl {i j : Bool} (q : Q (.bl (decide (i = j))) γ) : dR2 K (rEqG K) (.bl i) (.bl j) γ Q := fun H α v w k g r1 r2 wv => by
  cases r1; cases r2
  refine .inl ⟨rfl, ?_⟩
  have e : decide (V.bl i = V.bl j) = decide (i = j) := by simp
  rw [e]
  exact wv _ H α _ γ q g.refl g (.bl _)
theorem req_D {x y : D} (p1 : (vw γ x).pl = true) (p2 : (vw γ y).pl = true) (s1 : SeqAt.shaped (vw γ x).py = true) (s2 : SeqAt.shaped (vw γ y).py = true) (q : Q (.bl (PyData.eqv (vw γ x).py (vw γ y).py)) γ) : dR2 K (rEqG K) x y γ Q := fun H α v w k g r1 r2 wv =>
  .inr ⟨_, _, r1.dpv g p1, r2.dpv g p2, s1, s2, wv _ H α _ γ q g.refl g (.bl _)⟩
theorem rne_int {i j : Int} (q : Q (.bl (!decide (i = j))) γ) : dR2 K (rNeG K) (.int i) (.int j) γ Q := fun H α v w k g r1 r2 wv => by
  cases r1; cases r2
  refine .inl ⟨rfl, ?_⟩
  have e : decide (V.int i = V.int j) = decide (i = j) := by simp
  rw [e]
  exact wv _ H α _ γ q g.refl g (.bl _)
theorem rne_str {i j : Str} (q : Q (.bl (!decide (i = j))) γ) : dR2 K (rNeG K) (.str i) (.str j) γ Q := fun H α v w k g r1 r2 wv => by
  cases r1; cases r2
  refine .inl ⟨rfl, ?_⟩
  have e : decide (V.str i = V.str j) = decide (i = j) := by simp
  rw [e]
  exact wv _ H α _ γ q g.refl g (.bl _)
theorem rne_bl {i j : Bool} (q : Q (.bl (!decide (i = j))) γ) : dR2 K (rNeG K) (.bl i) (.bl j) γ Q := fun H α v w k g r1 r2 wv => by
  cases r1; cases r2
  refine .inl ⟨rfl, ?_⟩
  have e : decide (V.bl i = V.bl j) = decide (i = j) := by simp
  rw [e]
  exact wv _ H α _ γ q g.refl g (.bl _)
theorem rne_D {x y : D} (p1 : (vw γ x).pl = true) (p2 : (vw γ y).pl = true) (s1 : SeqAt.shaped (vw γ x).py = true) (s2 : SeqAt.shaped (vw γ y).py = true) (q : Q (.bl (!PyData.eqv (vw γ x).py (vw γ y).py)) γ) : dR2 K (rNeG K) x y γ Q := fun H α v w k g r1 r2 wv =>
  .inr ⟨_, _, r1.dpv g p1, r2.dpv g p2, s1, s2, wv _ H α _ γ q g.refl g (.bl _)⟩
theorem ri0 {f : Int → Int → V} {i j : Int} {z : D} (hz : ∀ H α, Rp K H α (f i j) z) (q : Q z γ) : dR2 K (rI0 f) (.int i) (.int j) γ Q := fun H α v w k g r1 r2 wv => by
  cases r1; cases r2
  exact ⟨i, j, rfl, rfl, wv _ H α _ γ q g.refl g (hz H α)⟩
theorem ri {C : Int → Int → Prop} {f : Int → Int → V} {i j : Int} {z : D} (hz : ∀ H α, Rp K H α (f i j) z) (hc : C i j) (q : Q z γ) : dR2 K (rI C f) (.int i) (.int j) γ Q := fun H α v w k g r1 r2 wv => by
  cases r1; cases r2
  exact ⟨i, j, rfl, rfl, hc, wv _ H α _ γ q g.refl g (hz H α)⟩
end
/-! ### + -/
def rAddS : R2 := fun x y H Q => ∃ i j, x = .str i ∧ y = .str j ∧ i.length + j.length ≤ sizeLine ∧ Q (.str (i ++ j)) H
def rAddG (K : Frag) : R2 := fun x y H Q => rI0 (fun i j => .int (i + j)) x y H Q ∨ rAddS x y H Q ∨ rCat x y H Q ∨ rCatT K x y H Q
theorem op_addG {X : Cx} : OpR X (binaryOp .Add) (rAddG X.K) := op_add.or (op_add_str.or (op_cat.or op_catT))
theorem le24 {m : Nat} (h : m ≤ 1000000) : m ≤ sizeLine := Nat.le_trans h (by decide)
section
variable {K : Frag} {γ : Ga} {Q : QD}
theorem radd_int {i j : Int} (q : Q (.int (i + j)) γ) : dR2 K (rAddG K) (.int i) (.int j) γ Q := fun H α v w k g r1 r2 wv =>
  .inl (ri0 (fun _ _ => .int _) q H α v w k g r1 r2 wv)
theorem radd_str {i j : Str} (hl : i.length + j.length ≤ 1000000) (q : Q (.str (i ++ j)) γ) : dR2 K (rAddG K) (.str i) (.str j) γ Q := fun H α v w k g r1 r2 wv => by
  cases r1; cases r2
  exact .inr (.inl ⟨i, j, rfl, rfl, le24 hl, wv _ H α _ γ q g.refl g (.str _)⟩)
theorem lst_vw {H : Hp} {α : Al} {v : V} {x : D} {xs : List D} (g : GaOk K H α γ) (r : Rp K H α v x) (e : vw γ x = .lst xs) : ∃ a us, v = .ref a ∧ H a = some (.lst us) ∧ RpL K H α us xs := by
  cases r with
  | @loc k a ha =>
    cases q : γ[k]? with
    | none => simp [vw, q] at e
    | some m =>
      cases m with
      | lst ys =>
        simp [vw, q] at e
        subst e
        obtain ⟨us, h1, h2⟩ := g.at_ k _ _ ha q
        exact ⟨a, us, rfl, h1, h2⟩
      | _ => simp [vw, q] at e
  | lst h1 h2 h3 =>
    simp [vw] at e
    subst e
    exact ⟨_, _, rfl, h2, h3⟩
  | _ => simp [vw] at e
theorem radd_lst {x y : D} {xs ys : List D} (hx : vw γ x = .lst xs) (hy : vw γ y = .lst ys) (hl : xs.length + ys.length ≤ 1000000) (q : Q (.lst (xs ++ ys)) γ) : dR2 K (rAddG K) x y γ Q := fun H α v w k g r1 r2 wv => by
  obtain ⟨a, us, rfl, ha, ru⟩ := lst_vw g r1 hx
  obtain ⟨b, ws, rfl, hb, rw'⟩ := lst_vw g r2 hy
  refine .inr (.inr (.inl ⟨a, b, us, ws, rfl, rfl, ha, hb, by rw [ru.length, rw'.length]; exact le24 hl, fun p hp => ?_⟩))
  exact wv _ _ α _ γ q (ext_imm g hp) (ga_imm g hp) (.lst (g.new hp) upd_same (RpL.mono (ext_imm g hp) _ _ (ru.append rw')))
theorem radd_lstM {x y : D} {xs ys : List D} (hx : vw γ x = .lst xs) (hy : vw γ y = .lst ys) (hl : xs.length + ys.length ≤ 1000000) (q : Q (.loc γ.length) (γ ++ [.lst (xs ++ ys)])) : dR2 K (rAddG K) x y γ Q := fun H α v w k g r1 r2 wv => by
  obtain ⟨a, us, rfl, ha, ru⟩ := lst_vw g r1 hx
  obtain ⟨b, ws, rfl, hb, rw'⟩ := lst_vw g r2 hy
  refine .inr (.inr (.inl ⟨a, b, us, ws, rfl, rfl, ha, hb, by rw [ru.length, rw'.length]; exact le24 hl, fun p hp => ?_⟩))
  have ex := ext_loc g (o := .lst (us ++ ws)) hp
  exact wv _ _ (α.push p) _ _ q ex (ga_loc g hp ⟨_, upd_same, RpL.mono ex _ _ (ru.append rw')⟩) (.loc (by show (α.h ++ [p])[γ.length]? = _; rw [← g.len]; simp))
theorem radd_tup {xs ys : List D} (hl : xs.length + ys.length ≤ 1000000) (q : Q (.tup (xs ++ ys)) γ) (hx : xs ≠ []) : dR2 K (rAddG K) (.tup xs) (.tup ys) γ Q := fun H α v w k g r1 r2 wv => by
  cases r1 with
  | @tup a us _ h1 ru =>
    cases r2 with
    | @tup b ws _ h2 rw' =>
      have hne : us ≠ [] := fun e => hx (by subst e; have := ru.length; cases xs with | nil => rfl | cons _ _ => simp at this)
      refine .inr (.inr (.inr ⟨a, b, us, ws, rfl, rfl, h1.sq, h2.sq, hne, by rw [ru.length, rw'.length]; exact le24 hl, fun e => ?_, fun e p hp => ?_⟩))
      · subst e
        cases rw'
        rw [List.append_nil] at q
        exact wv _ H α _ γ q g.refl g (.tup h1 ru)
      · exact wv _ _ α _ γ q (ext_imm g hp) (ga_imm g hp) (.tup (.inl ⟨g.new hp, .inl upd_same⟩) (RpL.mono (ext_imm g hp) _ _ (ru.append rw')))
end
end DL

set_option Elab.async false
set_option linter.all false
set_option maxRecDepth 100000
set_option maxHeartbeats 2000000
namespace DL
open PySem PySem.Spec PyProof.Rows L2

/-- a text by its code points -/
def S (l : List Nat) : Str := ⟨l.toArray⟩
theorem S_l (l : List Nat) : (S l).cps.toList = l := by simp [S]
theorem S_of (x : Str) : S x.cps.toList = x := by
  cases x; simp [S]
theorem S_len (l : List Nat) : (S l).length = l.length := by
  show l.toArray.size = l.length
  simp
theorem S_inj {a b : List Nat} : S a = S b ↔ a = b := ⟨fun h => by rw [← S_l a, h, S_l], fun h => by rw [h]⟩
theorem S_app (a b : List Nat) : S a ++ S b = S (a ++ b) := by
  show (⟨a.toArray ++ b.toArray⟩ : Str) = ⟨(a ++ b).toArray⟩
  simp
/-! ### * -/
def reps (n : Nat) (l : List Nat) : List Nat := (List.replicate n l).flatten
theorem foldl_app (ls : List (Array Nat)) : ∀ acc : Array Nat, (ls.foldl (· ++ ·) acc).toList = acc.toList ++ (ls.map (·.toList)).flatten := by
  induction ls with
  | nil => intro acc; simp
  | cons a r ih => intro acc; rw [List.foldl_cons, ih]; simp
theorem mul_S (l : List Nat) (n : Nat) : Txt.mul (S l) (n : Int) = S (reps n l) := by
  unfold Txt.mul
  by_cases h0 : n = 0
  · subst h0
    rw [if_pos (by omega)]
    rfl
  · rw [if_neg (by omega)]
    by_cases h1 : n = 1
    · subst h1
      rw [if_pos (by simp)]
      simp [reps]
    · by_cases hl : l = []
      · subst hl
        rw [if_pos (by simp [S, Str.length])]
        have : reps n [] = [] := by simp [reps]
        rw [this]
      · have hc : ((n : Int) == 1 || (S l).length == 0) = false := by
          rw [Bool.or_eq_false_iff]
          refine ⟨?_, ?_⟩
          · rw [beq_eq_false_iff_ne]; omega
          · rw [beq_eq_false_iff_ne, S_len]
            intro z
            exact hl (List.eq_nil_of_length_eq_zero z)
        rw [if_neg (by rw [hc]; exact Bool.false_ne_true)]
        have e : ((List.replicate (n : Int).toNat (S l).cps).foldl (· ++ ·) #[]).toList = reps n l := by
          rw [foldl_app]
          simp [reps, S]
        rw [← S_of ⟨_⟩]
        show S (_ : Array Nat).toList = _
        rw [e]
def rMulS : R2 := fun x y H Q => ∃ l n, x = .str (S l) ∧ y = .int (n : Nat) ∧ l.length * n ≤ 1000000 ∧ n ≤ 1000000 ∧ Q (.str (S (reps n l))) H
theorem op_mulS {X : Cx} : OpR X (binaryOp .Mult) rMulS := by
  intro pins s σ H x y v u Q I rx ry h
  obtain ⟨l, n, rfl, rfl, hl, hn, q⟩ := h
  obtain ⟨t, rfl⟩ := rx
  obtain ⟨t', rfl⟩ := ry
  refine SB.mul ⟨?_, fun h1 h2 => ?_, fun h1 h2 => ?_⟩ fun t2 k => ?_
  · rw [Bool.or_eq_false_iff, decide_eq_false_iff_not, decide_eq_false_iff_not]
    omega
  · intro h3
    have hp : (0 : Int) < (n : Int) := by omega
    have h4 : ((S l).length : Int) * n ≤ 1000000 := by
      rw [S_len]
      have h : ((l.length * n : Nat) : Int) ≤ ((1000000 : Nat) : Int) := Int.ofNat_le.mpr hl
      rw [Int.natCast_mul] at h
      exact h
    have h5 : (2 ^ 63 - 1 : Int) / n < (S l).length := h3
    have h6 := (Int.ediv_lt_iff_lt_mul hp).mp h5
    omega
  · have h7 : (S l).length * (n : Int).toNat = l.length * n := by rw [S_len, Int.toNat_natCast]
    rw [h7]
    exact decide_eq_false (Nat.not_lt.mpr (le24 hl))
  · rw [mul_S]
    exact ⟨.str _, H, ⟨I.tok k |>.ok, I.os, I.bare, I.base, I.loc, I.cell, I.free, I.freeC, I.pin, I.hok, I.len⟩, ⟨_, rfl⟩, q⟩
def rMulG (K : Frag) : R2 := fun x y H Q => rI CMul (fun i j => .int (i * j)) x y H Q ∨ rRep x y H Q ∨ rMulS x y H Q
theorem op_mulG {X : Cx} : OpR X (binaryOp .Mult) (rMulG X.K) := op_mul.or (op_rep.or op_mulS)
section
variable {K : Frag} {γ : Ga} {Q : QD}
theorem rmul_int {i j : Int} (hc : CMul i j) (q : Q (.int (i * j)) γ) : dR2 K (rMulG K) (.int i) (.int j) γ Q := fun H α v w k g r1 r2 wv =>
  .inl (ri (fun _ _ => .int _) hc q H α v w k g r1 r2 wv)
theorem rmul_str {l : List Nat} {n : Nat} (h1 : l.length * n ≤ 1000000) (h2 : n ≤ 1000000) (q : Q (.str (S (reps n l))) γ) : dR2 K (rMulG K) (.str (S l)) (.int (n : Int)) γ Q := fun H α v w k g r1 r2 wv => by
  cases r1; cases r2
  exact .inr (.inr ⟨l, n, rfl, rfl, h1, h2, wv _ H α _ γ q g.refl g (.str _)⟩)
theorem RpL.reps {H : Hp} {α : Al} {us : List V} {xs : List D} (r : RpL K H α us xs) : ∀ n : Nat, RpL K H α (List.replicate n us).flatten (List.replicate n xs).flatten
  | 0 => .nil
  | n + 1 => by
    rw [List.replicate_succ, List.replicate_succ, List.flatten_cons, List.flatten_cons]
    exact r.append (RpL.reps r n)
theorem rmul_lst {x : D} {xs : List D} {n : Nat} (hx : vw γ x = .lst xs) (h1 : xs.length * n ≤ 1000000) (h2 : n ≤ 1000000) (q : Q (.lst (List.replicate n xs).flatten) γ) : dR2 K (rMulG K) x (.int (n : Int)) γ Q := fun H α v w k g r1 r2 wv => by
  obtain ⟨a, us, rfl, ha, ru⟩ := lst_vw g r1 hx
  cases r2
  refine .inr (.inl ⟨a, n, us, rfl, rfl, ha, by omega, by omega, by rw [ru.length]; exact le24 (by simpa using h1), fun p hp => ?_⟩)
  have e : (n : Int).toNat = n := Int.toNat_natCast n
  rw [e]
  exact wv _ _ α _ γ q (ext_imm g hp) (ga_imm g hp) (.lst (g.new hp) upd_same (RpL.mono (ext_imm g hp) _ _ (ru.reps n)))
/-! ### the other operators of ints -/
def rSubD : R2 := rI0 fun i j => .int (i - j)
def rFdiv : R2 := rI CDivN fun i j => .int (i.fdiv j)
def rMod : R2 := rI (fun _ j => j ≠ 0) fun i j => .int (i.fmod j)
def rPow : R2 := rI CPow fun i j => .int (i ^ j.toNat)
theorem rsub_int {i j : Int} (q : Q (.int (i - j)) γ) : dR2 K rSubD (.int i) (.int j) γ Q := ri0 (fun _ _ => .int _) q
theorem rfdiv_int {i j : Int} (hc : CDivN i j) (q : Q (.int (i.fdiv j)) γ) : dR2 K rFdiv (.int i) (.int j) γ Q := ri (fun _ _ => .int _) hc q
theorem rmod_int {i j : Int} (hc : j ≠ 0) (q : Q (.int (i.fmod j)) γ) : dR2 K rMod (.int i) (.int j) γ Q := ri (fun _ _ => .int _) hc q
theorem rpow_int {i j : Int} (hc : CPow i j) (q : Q (.int (i ^ j.toNat)) γ) : dR2 K rPow (.int i) (.int j) γ Q := ri (fun _ _ => .int _) hc q
def rLtI : R2 := rI0 fun i j => .bl (decide (i < j))
def rLeI : R2 := rI0 fun i j => .bl (decide (i ≤ j))
def rGtI : R2 := rI0 fun i j => .bl (decide (j < i))
def rGeI : R2 := rI0 fun i j => .bl (decide (j ≤ i))
theorem rlt_int {i j : Int} (q : Q (.bl (decide (i < j))) γ) : dR2 K rLtI (.int i) (.int j) γ Q := ri0 (fun _ _ => .bl _) q
theorem rle_int {i j : Int} (q : Q (.bl (decide (i ≤ j))) γ) : dR2 K rLeI (.int i) (.int j) γ Q := ri0 (fun _ _ => .bl _) q
theorem rgt_int {i j : Int} (q : Q (.bl (decide (j < i))) γ) : dR2 K rGtI (.int i) (.int j) γ Q := ri0 (fun _ _ => .bl _) q
theorem rge_int {i j : Int} (q : Q (.bl (decide (j ≤ i))) γ) : dR2 K rGeI (.int i) (.int j) γ Q := ri0 (fun _ _ => .bl _) q
def rNeg : V → Hp → VK → Prop := rU fun i => .int (-i)
theorem rneg_int {i : Int} (q : Q (.int (-i)) γ) : dR1 K rNeg (.int i) γ Q := fun H α v k g r1 wv => by
  cases r1
  exact ⟨i, rfl, wv _ H α _ γ q g.refl g (.int _)⟩
/-- is None, is not None -/
def rIsN' : R2 := fun x y H Q => y = .non ∧ Q (.bl (decide (x = .non))) H
def rNotN' : R2 := fun x y H Q => y = .non ∧ Q (.bl (!decide (x = .non))) H
def D.isNon : D → Bool
  | .non => true
  | _ => false
theorem isNon_rp {H : Hp} {α : Al} {v : V} {d : D} (r : Rp K H α v d) : decide (v = .non) = d.isNon := by
  cases r <;> rfl
theorem risn {d : D} (q : Q (.bl d.isNon) γ) : dR2 K rIsN' d .non γ Q := fun H α v w k g r1 r2 wv => by
  cases r2
  refine ⟨rfl, ?_⟩
  rw [isNon_rp r1]
  exact wv _ H α _ γ q g.refl g (.bl _)
theorem rnotn {d : D} (q : Q (.bl (!d.isNon)) γ) : dR2 K rNotN' d .non γ Q := fun H α v w k g r1 r2 wv => by
  cases r2
  refine ⟨rfl, ?_⟩
  rw [isNon_rp r1]
  exact wv _ H α _ γ q g.refl g (.bl _)
/-! ### subscripts -/
theorem rix_lst {x : D} {xs : List D} {z : Int} {d : D} (hx : vw γ x = .lst xs) (ha : atI xs z = some d) (q : Q d γ) : dR2 K (rIx K) x (.int z) γ Q := fun H α v w k g r1 r2 wv => by
  obtain ⟨a, us, rfl, h1, ru⟩ := lst_vw g r1 hx
  cases r2
  obtain ⟨j, hj, hd⟩ := Option.bind_eq_some_iff.mp ha
  obtain ⟨u, hu, rd⟩ := ru.get hd
  exact .inl ⟨a, us, z, u, rfl, rfl, SqL.of h1, by unfold atI; rw [ru.length, hj]; exact hu, wv _ H α _ γ q g.refl g rd⟩
theorem rix_tup {xs : List D} {z : Int} {d : D} (ha : atI xs z = some d) (q : Q d γ) : dR2 K (rIx K) (.tup xs) (.int z) γ Q := fun H α v w k g r1 r2 wv => by
  cases r1 with
  | tup h1 ru =>
    cases r2
    obtain ⟨j, hj, hd⟩ := Option.bind_eq_some_iff.mp ha
    obtain ⟨u, hu, rd⟩ := ru.get hd
    exact .inr (.inl ⟨_, _, z, u, rfl, rfl, h1.sq, by unfold atI; rw [ru.length, hj]; exact hu, wv _ H α _ γ q g.refl g rd⟩)
theorem rix_str {l : List Nat} {z : Int} {c : Nat} (hl : l.length ≤ 1000000) (ha : atI l z = some c) (q : Q (.str (S [c])) γ) : dR2 K (rIx K) (.str (S l)) (.int z) γ Q := fun H α v w k g r1 r2 wv => by
  cases r1; cases r2
  exact .inr (.inr ⟨S l, z, c, rfl, rfl, by rw [S_len]; exact le24 hl, by rw [S_l]; exact ha, wv _ H α _ γ q g.refl g (.str _)⟩)
/-! ### slices -/
def rSlG (K : Frag) : V → Option Int → Option Int → Hp → VK → Prop := fun x lo hi H Q => rSlL K x lo hi H Q ∨ rSlT K x lo hi H Q ∨ rSlS x lo hi H Q
theorem sl_G {X : Cx} : SlR X (rSlG X.K) := sl_list.or (sl_tup.or sl_str)
def cutD {A : Type} (xs : List A) (lo hi : Option Int) : List A := (xs.drop (HT.sIx xs.length 0 lo)).take (HT.sIx xs.length xs.length hi - HT.sIx xs.length 0 lo)
theorem rsl_lst {x : D} {xs : List D} {lo hi : Option Int} (hx : vw γ x = .lst xs) (q : Q (.lst (cutD xs lo hi)) γ) : dRS K (rSlG K) x lo hi γ Q := fun H α v k g r1 wv => by
  obtain ⟨a, us, rfl, h1, ru⟩ := lst_vw g r1 hx
  refine .inl ⟨a, us, rfl, SqL.of h1, fun p hp => ?_⟩
  refine wv _ _ α _ γ q (ext_imm g hp) (ga_imm g hp) (.lst (g.new hp) upd_same (RpL.mono (ext_imm g hp) _ _ ?_))
  unfold cutV cutD
  rw [ru.length]
  exact (ru.drop _).take _
theorem rsl_str {l : List Nat} {lo hi : Option Int} (hl : l.length ≤ 1000000) (q : Q (.str (S (cutD l lo hi))) γ) : dRS K (rSlG K) (.str (S l)) lo hi γ Q := fun H α v k g r1 wv => by
  cases r1
  refine .inr (.inr ⟨S l, rfl, by rw [S_len]; exact le24 hl, ?_⟩)
  have e : cutS (S l) lo hi = S (cutD l lo hi) := by
    unfold cutS cutD
    rw [S_l, S_len]
    rfl
  rw [e]
  exact wv _ H α _ γ q g.refl g (.str _)
end
end DL

set_option Elab.async false
set_option linter.all false
set_option maxRecDepth 100000
set_option maxHeartbeats 2000000
namespace DL
open PySem PySem.Spec PyProof.Rows L2

/-! ### in, not in -/
def D.flat : D → Bool
  | .non => true
  | .bl _ => true
  | .int _ => true
  | .str _ => true
  | _ => false
def eqf : D → D → Bool
  | .non, .non => true
  | .bl a, .bl b => a == b
  | .bl a, .int b => (if a then 1 else 0) == b
  | .int a, .bl b => a == (if b then 1 else 0)
  | .int a, .int b => a == b
  | .str a, .str b => a == b
  | _, _ => false
def inD (x : D) (xs : List D) : Bool := xs.any fun y => eqf y x
section
variable {K : Frag} {γ : Ga} {Q : QD}
theorem flat_rp {H : Hp} {α : Al} {v : V} {d : D} (r : Rp K H α v d) (f : d.flat = true) : flatV v = true := by
  cases r <;> first | rfl | simp [D.flat] at f
theorem eqf_rp {H : Hp} {α : Al} {v w : V} {d e : D} (r : Rp K H α v d) (r' : Rp K H α w e) (f : d.flat = true) (f' : e.flat = true) : eqV v w = eqf d e := by
  cases r <;> first | (simp [D.flat] at f; done) | (cases r' <;> first | rfl | (simp [D.flat] at f'; done))
theorem inD_rp {H : Hp} {α : Al} {v : V} {x : D} (r : Rp K H α v x) (f : x.flat = true) : ∀ {us : List V} {xs : List D}, RpL K H α us xs → xs.all D.flat = true → inV v us = inD x xs ∧ us.all flatV = true
  | _, [], h, _ => by cases h; exact ⟨rfl, rfl⟩
  | _, d :: ds, h, fa => by
    cases h with
    | cons h1 h2 =>
      rw [List.all_cons, Bool.and_eq_true] at fa
      obtain ⟨i1, i2⟩ := inD_rp r f h2 fa.2
      refine ⟨?_, by rw [List.all_cons, flat_rp h1 fa.1, i2]; rfl⟩
      have e1 := eqf_rp h1 r fa.1 f
      have e2 : (_ : Bool) = _ := i1
      unfold inV inD at e2 ⊢
      rw [List.any_cons, List.any_cons, e2, e1]
def rInS : R2 := fun x y H Q => ∃ (c : Nat) (z : Str), x = .str ⟨#[c]⟩ ∧ y = .str z ∧ Q (.bl (decide (c ∈ z.cps.toList))) H
def rNiS : R2 := fun x y H Q => ∃ (c : Nat) (z : Str), x = .str ⟨#[c]⟩ ∧ y = .str z ∧ Q (.bl (!decide (c ∈ z.cps.toList))) H
def rInG (K : Frag) : R2 := fun x y H Q => rIn K false x y H Q ∨ rInS x y H Q ∨ rInD K x y H Q
def rNiG (K : Frag) : R2 := fun x y H Q => rIn K true x y H Q ∨ rNiS x y H Q ∨ rNotInD K x y H Q
theorem sq_of {H : Hp} {α : Al} {v : V} {x : D} {xs : List D} (g : GaOk K H α γ) (r : Rp K H α v x) (e : vw γ x = .lst xs ∨ x = .tup xs) : ∃ a us, v = .ref a ∧ (SqL K H a us ∨ SqT K H a us) ∧ RpL K H α us xs := by
  rcases e with e | e
  · obtain ⟨a, us, h1, h2, h3⟩ := lst_vw g r e
    exact ⟨a, us, h1, .inl (SqL.of h2), h3⟩
  · subst e
    cases r with
    | tup h1 h2 => exact ⟨_, _, rfl, .inr h1.sq, h2⟩
theorem rin_seq {x y : D} {xs : List D} (hy : vw γ y = .lst xs ∨ y = .tup xs) (f : x.flat = true) (fa : xs.all D.flat = true) (q : Q (.bl (inD x xs)) γ) : dR2 K (rInG K) x y γ Q := fun H α v w k g r1 r2 wv => by
  obtain ⟨a, us, rfl, hs, ru⟩ := sq_of g r2 hy
  obtain ⟨i1, i2⟩ := inD_rp r1 f ru fa
  refine .inl ⟨a, us, rfl, hs, flat_rp r1 f, i2, ?_⟩
  rw [i1]
  exact wv _ H α _ γ q g.refl g (.bl _)
theorem rni_seq {x y : D} {xs : List D} (hy : vw γ y = .lst xs ∨ y = .tup xs) (f : x.flat = true) (fa : xs.all D.flat = true) (q : Q (.bl (!inD x xs)) γ) : dR2 K (rNiG K) x y γ Q := fun H α v w k g r1 r2 wv => by
  obtain ⟨a, us, rfl, hs, ru⟩ := sq_of g r2 hy
  obtain ⟨i1, i2⟩ := inD_rp r1 f ru fa
  refine .inl ⟨a, us, rfl, hs, flat_rp r1 f, i2, ?_⟩
  rw [i1]
  exact wv _ H α _ γ q g.refl g (.bl _)
theorem rin_sgn {c : Nat} {l : List Nat} (q : Q (.bl (decide (c ∈ l))) γ) : dR2 K (rInG K) (.str (S [c])) (.str (S l)) γ Q := fun H α v w k g r1 r2 wv => by
  cases r1; cases r2
  refine .inr (.inl ⟨c, S l, rfl, rfl, ?_⟩)
  have e : decide (c ∈ (S l).cps.toList) = decide (c ∈ l) := by rw [S_l]
  rw [e]
  exact wv _ H α _ γ q g.refl g (.bl _)
theorem rni_sgn {c : Nat} {l : List Nat} (q : Q (.bl (!decide (c ∈ l))) γ) : dR2 K (rNiG K) (.str (S [c])) (.str (S l)) γ Q := fun H α v w k g r1 r2 wv => by
  cases r1; cases r2
  refine .inr (.inl ⟨c, S l, rfl, rfl, ?_⟩)
  have e : decide (c ∈ (S l).cps.toList) = decide (c ∈ l) := by rw [S_l]
  rw [e]
  exact wv _ H α _ γ q g.refl g (.bl _)
/-! ### methods of lists and texts -/
theorem isTy_str {x : Str} : IsTy K "str" (.str x) γ := fun H α v g r => by cases r; rfl
theorem isTy_lst {x : D} {xs : List D} (h : vw γ x = .lst xs) : IsTy K "list" x γ := fun H α v g r => by
  obtain ⟨a, us, rfl, h1, _⟩ := lst_vw g r h
  exact .inl ⟨rfl, us, SqL.of h1⟩
theorem vw_loc {k : Nat} {xs : List D} (h : γ[k]? = some (.lst xs)) : vw γ (.loc k) = .lst xs := by simp [vw, h]
theorem rm_append {k : Nat} {xs : List D} {y : D} (hk : γ[k]? = some (.lst xs)) (hl : xs.length < 1000000) (q : Q .non (γ.set k (.lst (xs ++ [y])))) : dRM K rAppend (.loc k) [y] γ Q := fun H α v vs w g r1 r2 wv => by
  cases r1 with
  | @loc _ a ha =>
    obtain ⟨us, h1, h2⟩ := g.at_ k _ _ ha hk
    cases r2 with
    | @cons u _ _ _ ru rn =>
      cases rn
      have ex := ext_set g (o := .lst (us ++ [u])) (List.mem_of_getElem? ha)
      exact ⟨a, us, u, rfl, rfl, h1, by rw [h2.length]; exact size24 hl, wv _ _ α _ _ q ex (ga_set g ha ⟨_, upd_same, RpL.mono ex _ _ (h2.append (.cons ru .nil))⟩) .non⟩
theorem rm_popAt {k j : Nat} {xs : List D} {z : Int} {y : D} (hk : γ[k]? = some (.lst xs)) (h1 : -(2 ^ 63) ≤ z) (h2 : z < 2 ^ 63) (hj : seqIndex? z xs.length = some j) (hy : xs[j]? = some y) (q : Q y (γ.set k (.lst (xs.eraseIdx j)))) : dRM K rPopAt (.loc k) [.int z] γ Q := fun H α v vs w g r1 r2 wv => by
  cases r1 with
  | @loc _ a ha =>
    obtain ⟨us, h3, h4⟩ := g.at_ k _ _ ha hk
    cases r2 with
    | cons ru rn =>
      cases rn; cases ru
      obtain ⟨u, hu, rd⟩ := h4.get hy
      have ex := ext_set g (o := .lst (us.eraseIdx j)) (List.mem_of_getElem? ha)
      exact ⟨a, us, z, j, u, rfl, rfl, h3, h1, h2, by rw [h4.length]; exact hj, hu, wv _ _ α _ _ q ex (ga_set g ha ⟨_, upd_same, RpL.mono ex _ _ (h4.eraseIdx j)⟩) (Rp.mono ex _ _ rd)⟩
def rSplit : V → List V → Hp → VK → Prop := fun x xs H Q => ∃ a b, x = .str a ∧ xs = [.str b] ∧ (b.length == 0) = false ∧ a.length + 2 ≤ sizeLine ∧ rNewStrs (Txt.split a b) H Q
theorem strs_rp {H : Hp} {α : Al} : ∀ ys : List Str, RpL K H α (ys.map V.str) (ys.map D.str)
  | [] => .nil
  | y :: ys => .cons (.str y) (strs_rp ys)
theorem rm_split {a b : Str} {ys : List Str} (hb : (b.length == 0) = false) (hl : a.length ≤ 1000000) (hy : Txt.split a b = ys) (q : Q (.lst (ys.map D.str)) γ) : dRM K rSplit (.str a) [.str b] γ Q := fun H α v vs w g r1 r2 wv => by
  subst hy
  cases r1
  cases r2 with
  | cons ru rn =>
    cases rn; cases ru
    refine ⟨a, b, rfl, rfl, hb, Nat.le_trans (Nat.add_le_add_right hl 2) (by decide), fun p hp => ?_⟩
    exact wv _ _ α _ γ q (ext_imm g hp) (ga_imm g hp) (.lst (g.new hp) upd_same (strs_rp _))
def rJoin (K : Frag) : V → List V → Hp → VK → Prop := fun x xs H Q => ∃ a p, ∃ ys : List Str, x = .str a ∧ xs = [.ref p] ∧ (SqL K H p (ys.map V.str) ∨ SqT K H p (ys.map V.str)) ∧
    (ys.map (·.length)).sum + ys.length * a.length ≤ 16777216 ∧ Q (.str (Txt.join a ys)) H
theorem rp_strs {H : Hp} {α : Al} : ∀ {ys : List Str} {us : List V}, RpL K H α us (ys.map D.str) → us = ys.map V.str
  | [], _, h => by cases h; rfl
  | _ :: _, _, h => by
    cases h with
    | cons h1 h2 =>
      cases h1
      rw [rp_strs h2]
      rfl
theorem rm_join {a : Str} {x : D} {ys : List Str} (hx : vw γ x = .lst (ys.map D.str) ∨ x = .tup (ys.map D.str)) (hl : (ys.map (·.length)).sum + ys.length * a.length ≤ 1000000) (q : Q (.str (Txt.join a ys)) γ) : dRM K (rJoin K) (.str a) [x] γ Q := fun H α v vs w g r1 r2 wv => by
  cases r1
  cases r2 with
  | cons ru rn =>
    cases rn
    obtain ⟨p, us, rfl, hs, rl⟩ := sq_of g ru hx
    have e := rp_strs rl
    subst e
    exact ⟨a, p, ys, rfl, rfl, hs, Nat.le_trans hl (by decide), wv _ H α _ γ q g.refl g (.str _)⟩
def rCount : V → List V → Hp → VK → Prop := fun x xs H Q => ∃ a b, x = .str a ∧ xs = [.str b] ∧ Q (.int (Txt.count a b)) H
theorem rm_count {a b : Str} (q : Q (.int (Txt.count a b)) γ) : dRM K rCount (.str a) [.str b] γ Q := fun H α v vs w g r1 r2 wv => by
  cases r1
  cases r2 with
  | cons ru rn =>
    cases rn; cases ru
    exact ⟨a, b, rfl, rfl, wv _ H α _ γ q g.refl g (.int _)⟩
/-! ### built-in functions -/
def rLenG (K : Frag) : List V → Hp → VK → Prop := fun xs H Q => ∃ x n, xs = [x] ∧ LenV K x H n ∧ Q (.int n) H
theorem rc_len_str {x : Str} (hl : x.length ≤ 1000000) (q : Q (.int (x.length : Nat)) γ) : dRC K (rLenG K) [.str x] γ Q := fun H α vs w g r wv => by
  cases r with
  | cons ru rn =>
    cases rn; cases ru
    exact ⟨_, x.length, rfl, ⟨le24 hl, rfl⟩, wv _ H α _ γ q g.refl g (.int _)⟩
theorem rc_len {x : D} {xs : List D} (hx : vw γ x = .lst xs ∨ x = .tup xs) (q : Q (.int (xs.length : Nat)) γ) : dRC K (rLenG K) [x] γ Q := fun H α vs w g r wv => by
  cases r with
  | cons ru rn =>
    cases rn
    obtain ⟨p, us, rfl, hs, rl⟩ := sq_of g ru hx
    refine ⟨_, xs.length, rfl, ?_, wv _ H α _ γ q g.refl g (.int _)⟩
    rcases hs with hs | hs
    · exact .inl ⟨us, hs, rl.length.symm⟩
    · exact .inr ⟨us, hs, rl.length.symm⟩
theorem rp_bls {H : Hp} {α : Al} : ∀ {ys : List Bool} {us : List V}, RpL K H α us (ys.map D.bl) → us = ys.map V.bl
  | [], _, h => by cases h; rfl
  | _ :: _, _, h => by
    cases h with
    | cons h1 h2 =>
      cases h1
      rw [rp_bls h2]
      rfl
theorem rc_all {x : D} {bs : List Bool} (hx : vw γ x = .lst (bs.map D.bl)) (q : Q (.bl (bs.all id)) γ) : dRC K (rAll K) [x] γ Q := fun H α vs w g r wv => by
  cases r with
  | cons ru rn =>
    cases rn
    obtain ⟨p, us, rfl, hs, rl⟩ := lst_vw g ru hx
    have e := rp_bls rl
    subst e
    exact ⟨p, bs, rfl, SqL.of hs, wv _ H α _ γ q g.refl g (.bl _)⟩
theorem rc_any {x : D} {bs : List Bool} (hx : vw γ x = .lst (bs.map D.bl)) (q : Q (.bl (bs.any id)) γ) : dRC K (rAny K) [x] γ Q := fun H α vs w g r wv => by
  cases r with
  | cons ru rn =>
    cases rn
    obtain ⟨p, us, rfl, hs, rl⟩ := lst_vw g ru hx
    have e := rp_bls rl
    subst e
    exact ⟨p, bs, rfl, SqL.of hs, wv _ H α _ γ q g.refl g (.bl _)⟩
theorem rp_ints {H : Hp} {α : Al} : ∀ {ys : List Int} {us : List V}, RpL K H α us (ys.map D.int) → us = ys.map V.int
  | [], _, h => by cases h; rfl
  | _ :: _, _, h => by
    cases h with
    | cons h1 h2 =>
      cases h1
      rw [rp_ints h2]
      rfl
theorem rc_max {x : D} {ns : List Int} (hx : vw γ x = .lst (ns.map D.int)) (h0 : 0 < ns.length) (q : ∀ m, m ∈ ns → (∀ y, y ∈ ns → y ≤ m) → Q (.int m) γ) : dRC K (rMax K) [x] γ Q := fun H α vs w g r wv => by
  cases r with
  | cons ru rn =>
    cases rn
    obtain ⟨p, us, rfl, hs, rl⟩ := lst_vw g ru hx
    have e := rp_ints rl
    subst e
    exact ⟨p, ns, rfl, SqL.of hs, h0, fun m h1 h2 => wv _ H α _ γ (q m h1 h2) g.refl g (.int _)⟩
theorem rc_min {x : D} {ns : List Int} (hx : vw γ x = .lst (ns.map D.int)) (h0 : 0 < ns.length) (q : ∀ m, m ∈ ns → (∀ y, y ∈ ns → m ≤ y) → Q (.int m) γ) : dRC K (rMin K) [x] γ Q := fun H α vs w g r wv => by
  cases r with
  | cons ru rn =>
    cases rn
    obtain ⟨p, us, rfl, hs, rl⟩ := lst_vw g ru hx
    have e := rp_ints rl
    subst e
    exact ⟨p, ns, rfl, SqL.of hs, h0, fun m h1 h2 => wv _ H α _ γ (q m h1 h2) g.refl g (.int _)⟩
def rMax2 : List V → Hp → VK → Prop := fun xs H Q => ∃ i j, xs = [.int i, .int j] ∧ Q (.int (if j > i then j else i)) H
theorem rc_max2 {i j : Int} (q : Q (.int (if j > i then j else i)) γ) : dRC K rMax2 [.int i, .int j] γ Q := fun H α vs w g r wv => by
  cases r with
  | cons ru rn =>
    cases rn with
    | cons ru2 rn2 =>
      cases ru; cases ru2; cases rn2
      exact ⟨i, j, rfl, wv _ H α _ γ q g.refl g (.int _)⟩
/-- int(..): of a text, an int, a bool -/
def rIntG : List V → Hp → VK → Prop := fun xs H Q => (∃ a n, xs = [.str a] ∧ PySem.intText? a = some n ∧ a.length ≤ 640 ∧ Q (.int n) H) ∨ ((∃ i, xs = [.int i] ∧ Q (.int i) H) ∨ ∃ k, xs = [.bl k] ∧ Q (.int (if k then 1 else 0)) H)
theorem call_intG {X : Cx} : CallR X (.type "int") rIntG := call_int_str.or call_int1
theorem rc_int_str {a : Str} {n : Int} (h : PySem.intText? a = some n) (hl : a.length ≤ 640) (q : Q (.int n) γ) : dRC K rIntG [.str a] γ Q := fun H α vs w g r wv => by
  cases r with
  | cons ru rn => cases rn; cases ru; exact .inl ⟨a, n, rfl, h, hl, wv _ H α _ γ q g.refl g (.int _)⟩
theorem rc_int_bl {b : Bool} (q : Q (.int (if b then 1 else 0)) γ) : dRC K rIntG [.bl b] γ Q := fun H α vs w g r wv => by
  cases r with
  | cons ru rn => cases rn; cases ru; exact .inr (.inr ⟨b, rfl, wv _ H α _ γ q g.refl g (.int _)⟩)
theorem rc_int_int {i : Int} (q : Q (.int i) γ) : dRC K rIntG [.int i] γ Q := fun H α vs w g r wv => by
  cases r with
  | cons ru rn => cases rn; cases ru; exact .inr (.inl ⟨i, rfl, wv _ H α _ γ q g.refl g (.int _)⟩)
/-- str(..): of an int, a text -/
def rStrG : List V → Hp → VK → Prop := fun xs H Q => (∃ i : Int, xs = [.int i] ∧ i.natAbs.log2 < 1920 ∧ Q (.str (toString i)) H) ∨ (∃ a, xs = [.str a] ∧ Q (.str a) H)
theorem call_strG {X : Cx} : CallR X (.type "str") rStrG := call_str_int.or SkE.call_str_str
theorem rc_str_int {i : Int} (h : i.natAbs.log2 < 1920) (q : Q (.str (toString i)) γ) : dRC K rStrG [.int i] γ Q := fun H α vs w g r wv => by
  cases r with
  | cons ru rn => cases rn; cases ru; exact .inl ⟨i, rfl, h, wv _ H α _ γ q g.refl g (.str _)⟩
theorem rc_str_str {a : Str} (q : Q (.str a) γ) : dRC K rStrG [.str a] γ Q := fun H α vs w g r wv => by
  cases r with
  | cons ru rn => cases rn; cases ru; exact .inr ⟨a, rfl, wv _ H α _ γ q g.refl g (.str _)⟩
/-- list(..): a new list -/
def rListOf (K : Frag) : List V → Hp → VK → Prop := fun xs H Q => ∃ p ys, xs = [.ref p] ∧ (SqL K H p ys ∨ SqT K H p ys) ∧ ∀ l, H l = none → Q (.ref l) (upd H l (.lst ys))
theorem rc_list {x : D} {xs : List D} (hx : vw γ x = .lst xs ∨ x = .tup xs) (q : Q (.lst xs) γ) : dRC K (rListOf K) [x] γ Q := fun H α vs w g r wv => by
  cases r with
  | cons ru rn =>
    cases rn
    obtain ⟨p, us, rfl, hs, rl⟩ := sq_of g ru hx
    exact ⟨p, us, rfl, hs, fun l hl => wv _ _ α _ γ q (ext_imm g hl) (ga_imm g hl) (.lst (g.new hl) upd_same (RpL.mono (ext_imm g hl) _ _ rl))⟩
theorem rc_listM {x : D} {xs : List D} (hx : vw γ x = .lst xs ∨ x = .tup xs) (q : Q (.loc γ.length) (γ ++ [.lst xs])) : dRC K (rListOf K) [x] γ Q := fun H α vs w g r wv => by
  cases r with
  | cons ru rn =>
    cases rn
    obtain ⟨p, us, rfl, hs, rl⟩ := sq_of g ru hx
    exact ⟨p, us, rfl, hs, fun l hl => wv _ _ (α.push l) _ _ q (ext_loc g hl) (ga_loc g hl ⟨us, upd_same, RpL.mono (ext_loc g hl) _ _ rl⟩) (.loc (by show (α.h ++ [l])[γ.length]? = _; rw [← g.len]; simp))⟩
def rTupleOf (K : Frag) : List V → Hp → VK → Prop := fun xs H Q => ∃ p ys, xs = [.ref p] ∧ ((SqL K H p ys ∧ ∀ l, H l = none → Q (.ref l) (upd H l (.tup ys))) ∨ (SqT K H p ys ∧ Q (.ref p) H))
theorem rc_tuple {x : D} {xs : List D} (hx : vw γ x = .lst xs ∨ x = .tup xs) (q : Q (.tup xs) γ) : dRC K (rTupleOf K) [x] γ Q := fun H α vs w g r wv => by
  cases r with
  | cons ru rn =>
    cases rn
    rcases hx with hx | rfl
    · obtain ⟨p, us, rfl, hs, rl⟩ := lst_vw g ru hx
      exact ⟨p, us, rfl, .inl ⟨SqL.of hs, fun l hl => wv _ _ α _ γ q (ext_imm g hl) (ga_imm g hl) (.tup (.inl ⟨g.new hl, .inl upd_same⟩) (RpL.mono (ext_imm g hl) _ _ rl))⟩⟩
    · cases ru with
      | tup h1 h2 => exact ⟨_, _, rfl, .inr ⟨h1.sq, wv _ H α _ γ q g.refl g (.tup h1 h2)⟩⟩
/-! ### isinstance, one built-in class -/
def tyName (γ : Ga) : D → Option String
  | .non => some "NoneType"
  | .bl _ => some "bool"
  | .int _ => some "int"
  | .str _ => some "str"
  | .tup _ => some "tuple"
  | .lst _ => some "list"
  | .dic _ _ => some "dict"
  | .dit _ _ => some "dict"
  | .loc k => match γ[k]? with
    | some (.lst _) => some "list"
    | some (.dic _ _) => some "dict"
    | some (.dit _ _) => some "dict"
    | _ => none
  | _ => none
theorem tyX_rp {H : Hp} {α : Al} {v : V} {d : D} {T : String} (g : GaOk K H α γ) (r : Rp K H α v d) (h : tyName γ d = some T) : TyX K H v (.type T) := by
  cases r with
  | non => cases h; exact .base .non
  | bl b => cases h; exact .base (.bl b)
  | int i => cases h; exact .base (.int i)
  | str x => cases h; exact .base (.str x)
  | tup h1 h2 =>
    cases h
    rcases h1 with ⟨_, h1 | ⟨o, h1⟩⟩ | ⟨o, its, n, h1, hc, _⟩
    · exact .base (.tup h1)
    · exact .fTuple h1
    · exact .kTuple h1 hc
  | lst h1 h2 h3 => cases h; exact .base (.lst h2)
  | dic h1 h2 h3 => cases h; exact .base (.dK h2)
  | dit h1 h2 h3 => cases h; exact .base (.dT h2)
  | @loc k a ha =>
    unfold tyName at h
    cases q : γ[k]? with
    | none => simp [q] at h
    | some m =>
      have hm := g.at_ k a m ha q
      cases m with
      | lst xs => simp [q] at h; subst h; obtain ⟨_, h1, _⟩ := hm; exact .base (.lst h1)
      | dic ks xs => simp [q] at h; subst h; obtain ⟨_, h1, _⟩ := hm; exact .base (.dK h1)
      | dit ks xs => simp [q] at h; subst h; obtain ⟨_, h1, _⟩ := hm; exact .base (.dT h1)
      | ins _ _ _ => simp [q] at h
  | _ => cases h
theorem rc_isi {x : D} {T U : String} {b : Bool} (hx : tyName γ x = some T) (hk : kitB T U = some b) (q : Q (.bl b) γ) : dRC K (rIsi K) [x, .ty U] γ Q := fun H α vs w g r wv => by
  cases r with
  | cons ru rn =>
    cases rn with
    | cons r2 rn =>
      cases rn; cases r2
      exact ⟨_, _, _, _, b, rfl, .ty U, tyX_rp g ru hx, kit_ty hk, wv _ H α _ γ q g.refl g (.bl _)⟩
/-! ### repr of data -/
def rReprD (K : Frag) : List V → Hp → VK → Prop := fun xs H Q => ∃ a d, xs = [.ref a] ∧ Dp K H (.ref a) d ∧ d.showable = true ∧ d.hasDict = false ∧ d.depth ≤ 64 ∧ d.shown.length ≤ sizeLine ∧ Q (.str d.shown) H
theorem call_reprD {X : Cx} (gd : X.A.guards = some []) (hu : X.A.units + 65 < cLine) : CallR X (.builtin "repr") (rReprD X.K) := by
  intro pins s σ H xs us Q I r h
  obtain ⟨a, d, rfl, hd, h1, h2, h3, h4, q⟩ := h
  have e := r.ref1
  subst e
  obtain ⟨as, rd⟩ := Dp.reads I d (.ref a) (.ref a) hd rfl
  refine repr_of_reads' rd h1 (fun z => by rw [h2] at z; cases z) gd (by omega) (fun _ _ z => z) (fun h' u tk k => ?_) h4
  exact ⟨.str _, H, I.kept k, ⟨_, rfl⟩, q⟩
theorem rc_repr {x : D} (hr : ∀ H α v, Rp K H α v x → ∃ a, v = .ref a) (p : (vw γ x).pl = true) (h1 : (vw γ x).py.showable = true) (h2 : (vw γ x).py.hasDict = false) (h3 : (vw γ x).py.depth ≤ 64) (h4 : (vw γ x).py.shown.length ≤ 1000000) (q : Q (.str (vw γ x).py.shown) γ) : dRC K (rReprD K) [x] γ Q := fun H α vs w g r wv => by
  cases r with
  | cons ru rn =>
    cases rn
    obtain ⟨a, rfl⟩ := hr H α _ ru
    exact ⟨a, _, rfl, ru.dpv g p, h1, h2, h3, le24 h4, wv _ H α _ γ q g.refl g (.str _)⟩
end
end DL

set_option Elab.async false
set_option linter.all false
set_option maxRecDepth 100000
set_option maxHeartbeats 2000000
namespace DL
open PySem PySem.Spec PyProof.Rows L2

/-! ### what names no object from the m-th on -/
mutual
def D.lo (m : Nat) : D → Bool
  | .loc k => decide (k < m)
  | .tup ds => loL m ds
  | .lst ds => loL m ds
  | .ins _ _ ds => loL m ds
  | .dic _ ds => loL m ds
  | .dit _ ds => loL m ds
  | _ => true
def loL (m : Nat) : List D → Bool
  | [] => true
  | d :: ds => d.lo m && loL m ds
end
def MO.lo (m : Nat) : MO → Bool
  | .lst ds => loL m ds
  | .ins _ _ ds => loL m ds
  | .dic _ ds => loL m ds
  | .dit _ ds => loL m ds
def loG (m : Nat) : Ga → Bool
  | [] => true
  | o :: r => o.lo m && loG m r
theorem loG_get {m : Nat} : ∀ {γ : Ga} {k : Nat} {o : MO}, loG m γ = true → γ[k]? = some o → o.lo m = true
  | [], _, _, _, e => by simp at e
  | a :: r, 0, _, h, e => by
    have h' : a.lo m = true ∧ loG m r = true := by simpa [loG] using h
    simp at e; subst e; exact h'.1
  | a :: r, k + 1, _, h, e => by
    have h' : a.lo m = true ∧ loG m r = true := by simpa [loG] using h
    exact loG_get h'.2 (by simpa using e)
theorem loG_app {m : Nat} : ∀ {a b : Ga}, loG m (a ++ b) = (loG m a && loG m b)
  | [], b => by simp [loG]
  | x :: r, b => by
    show (x.lo m && loG m (r ++ b)) = ((x.lo m && loG m r) && loG m b)
    rw [loG_app, Bool.and_assoc]
section
variable {K : Frag} {H : Hp} {α : Al} {γ : Ga}
mutual
theorem Rp.lo : ∀ (d : D) (v : V), Rp K H α v d → d.lo α.h.length = true
  | .non, _, _ => rfl
  | .bl _, _, _ => rfl
  | .int _, _, _ => rfl
  | .str _, _, _ => rfl
  | .ty _, _, _ => rfl
  | .ref _, _, _ => rfl
  | .loc k, _, h => by cases h with | loc h => exact decide_eq_true (List.getElem?_eq_some_iff.mp h).1
  | .tup ds, _, h => by cases h with | tup h1 h2 => exact RpL.lo ds _ h2
  | .lst ds, _, h => by cases h with | lst h1 h2 h3 => exact RpL.lo ds _ h3
  | .ins C ns ds, _, h => by cases h with | ins h1 h2 h3 => exact RpL.lo ds _ h3
  | .dic ks ds, _, h => by cases h with | dic h1 h2 h3 => exact RpL.lo ds _ h3
  | .dit ks ds, _, h => by cases h with | dit h1 h2 h3 => exact RpL.lo ds _ h3
theorem RpL.lo : ∀ (ds : List D) (vs : List V), RpL K H α vs ds → loL α.h.length ds = true
  | [], _, _ => rfl
  | d :: ds, _, h => by
    cases h with
    | cons h1 h2 =>
      show (d.lo _ && loL _ ds) = true
      rw [Rp.lo d _ h1, RpL.lo ds _ h2]
      rfl
end
def Al.tk (α : Al) (m : Nat) : Al := ⟨α.h.take m, α.x⟩
theorem tk_out {m : Nat} {a : Addr} (h : a ∉ α) : a ∉ α.tk m := fun z => by
  rcases z with z | z
  · exact h (.inl (List.mem_of_mem_take z))
  · exact h (.inr z)
mutual
theorem Rp.tk (m : Nat) : ∀ (d : D) (v : V), Rp K H α v d → d.lo m = true → Rp K H (α.tk m) v d
  | .non, _, h, _ => by cases h; exact .non
  | .bl b, _, h, _ => by cases h; exact .bl b
  | .int i, _, h, _ => by cases h; exact .int i
  | .str x, _, h, _ => by cases h; exact .str x
  | .ty n, _, h, _ => by cases h; exact .ty n
  | .ref a, _, h, _ => by cases h; exact .ref a
  | .loc k, _, h, b => by
    cases h with
    | loc h =>
      have hk : k < m := of_decide_eq_true b
      exact .loc (by show (α.h.take m)[k]? = _; rw [List.getElem?_take_of_lt hk]; exact h)
  | .tup ds, _, h, b => by
    cases h with
    | tup h1 h2 =>
      refine .tup ?_ (RpL.tk m ds _ h2 b)
      rcases h1 with ⟨n, h1⟩ | h1
      · exact .inl ⟨tk_out n, h1⟩
      · exact .inr h1
  | .lst ds, _, h, b => by cases h with | lst h1 h2 h3 => exact .lst (tk_out h1) h2 (RpL.tk m ds _ h3 b)
  | .ins C ns ds, _, h, b => by cases h with | ins h1 h2 h3 => exact .ins (tk_out h1) h2 (RpL.tk m ds _ h3 b)
  | .dic ks ds, _, h, b => by cases h with | dic h1 h2 h3 => exact .dic (tk_out h1) h2 (RpL.tk m ds _ h3 b)
  | .dit ks ds, _, h, b => by cases h with | dit h1 h2 h3 => exact .dit (tk_out h1) h2 (RpL.tk m ds _ h3 b)
theorem RpL.tk (m : Nat) : ∀ (ds : List D) (vs : List V), RpL K H α vs ds → loL m ds = true → RpL K H (α.tk m) vs ds
  | [], _, h, _ => by cases h; exact .nil
  | d :: ds, _, h, b => by
    cases h with
    | cons h1 h2 =>
      have b' : d.lo m = true ∧ loL m ds = true := by simpa [loL] using b
      exact .cons (Rp.tk m d _ h1 b'.1) (RpL.tk m ds _ h2 b'.2)
end
theorem MOk.tk (m : Nat) {a : Addr} : ∀ {o : MO}, MOk K H α a o → o.lo m = true → MOk K H (α.tk m) a o
  | .lst _, h, b => by obtain ⟨_, h, r⟩ := h; exact ⟨_, h, RpL.tk m _ _ r b⟩
  | .ins _ _ _, h, b => by obtain ⟨_, _, h, n, r⟩ := h; exact ⟨_, _, h, n, RpL.tk m _ _ r b⟩
  | .dic _ _, h, b => by obtain ⟨_, h, n, r⟩ := h; exact ⟨_, h, n, RpL.tk m _ _ r b⟩
  | .dit _ _, h, b => by obtain ⟨_, h, n, r⟩ := h; exact ⟨_, h, n, RpL.tk m _ _ r b⟩
theorem MOk.lo {a : Addr} : ∀ {o : MO}, MOk K H α a o → o.lo α.h.length = true
  | .lst _, h => by obtain ⟨_, _, r⟩ := h; exact RpL.lo _ _ r
  | .ins _ _ _, h => by obtain ⟨_, _, _, _, r⟩ := h; exact RpL.lo _ _ r
  | .dic _ _, h => by obtain ⟨_, _, _, r⟩ := h; exact RpL.lo _ _ r
  | .dit _ _, h => by obtain ⟨_, _, _, r⟩ := h; exact RpL.lo _ _ r
theorem loG_all {m : Nat} : ∀ {γ : Ga}, (∀ (k : Nat) (o : MO), γ[k]? = some o → o.lo m = true) → loG m γ = true
  | [], _ => rfl
  | a :: r, h => by
    show (a.lo m && loG m r) = true
    rw [h 0 a rfl, loG_all fun k o e => h (k + 1) o (by simpa using e)]
    rfl
theorem GaOk.lo (g : GaOk K H α γ) : loG γ.length γ = true := loG_all fun k o e => by
  have hk : k < α.h.length := by rw [g.len]; exact (List.getElem?_eq_some_iff.mp e).1
  have h := (g.at_ k _ o (List.getElem?_eq_getElem hk) e).lo
  rw [g.len] at h
  exact h
theorem GaOk.tk {γ2 rest : Ga} (g : GaOk K H α (γ2 ++ rest)) (b : loG γ2.length γ2 = true) : GaOk K H (α.tk γ2.length) γ2 := by
  have hl : γ2.length ≤ α.h.length := by rw [g.len, List.length_append]; omega
  refine ⟨⟨g.nd.1.sublist (List.take_sublist _ _), g.nd.2.1, fun a ha => g.nd.2.2 a (List.mem_of_mem_take ha)⟩, ?_, fun k a o h1 h2 => ?_, g.xs⟩
  · show (α.h.take γ2.length).length = _
    rw [List.length_take]; omega
  · have hk : k < γ2.length := (List.getElem?_eq_some_iff.mp h2).1
    have h1' : (α.h.take γ2.length)[k]? = some a := h1
    rw [List.getElem?_take_of_lt hk] at h1'
    exact (g.at_ k a o h1' (by rw [List.getElem?_append_left hk]; exact h2)).tk _ (loG_get b h2)
theorem Ext.tk {α0 : Al} {H0 : Hp} (e : Ext α0 H0 α H) {m : Nat} (h : α0.h.length ≤ m) : Ext α0 H0 (α.tk m) H := by
  obtain ⟨β, e1, f1⟩ := e.al
  refine ⟨⟨⟨β.take (m - α0.h.length), ?_, fun b hb => f1 b (List.mem_of_mem_take hb)⟩, ⟨e.nd.1.sublist (List.take_sublist _ _), e.nd.2.1, fun a ha => e.nd.2.2 a (List.mem_of_mem_take ha)⟩, e.xx, e.keep⟩, e.keepx⟩
  show α.h.take m = _
  rw [e1, List.take_append, List.take_of_length_le h]
/-- d as it stands when the objects from the m-th on are no longer changed -/
inductive Fz (γ : Ga) (m : Nat) : D → D → Prop
  | keep {d : D} : d.lo m = true → Fz γ m d d
  | lst {k : Nat} {xs : List D} : m ≤ k → γ[k]? = some (.lst xs) → loL m xs = true → Fz γ m (.loc k) (.lst xs)
  | ins {k : Nat} {C : Addr} {ns : List Str} {xs : List D} : m ≤ k → γ[k]? = some (.ins C ns xs) → loL m xs = true → Fz γ m (.loc k) (.ins C ns xs)
  | dic {k : Nat} {ks : List Key} {xs : List D} : m ≤ k → γ[k]? = some (.dic ks xs) → loL m xs = true → Fz γ m (.loc k) (.dic ks xs)
  | dit {k : Nat} {ks : List (List Key)} {xs : List D} : m ≤ k → γ[k]? = some (.dit ks xs) → loL m xs = true → Fz γ m (.loc k) (.dit ks xs)
theorem tk_no (g : GaOk K H α γ) {m k : Nat} {a : Addr} (hm : m ≤ k) (ha : α.h[k]? = some a) : a ∉ α.tk m := fun z => by
  rcases z with z | z
  · obtain ⟨j, hj, e⟩ := List.mem_iff_getElem.mp (show a ∈ α.h.take m from z)
    have hj' : j < m ∧ j < α.h.length := by rw [List.length_take] at hj; omega
    obtain ⟨l2, e2⟩ := List.getElem?_eq_some_iff.mp ha
    rw [List.getElem_take] at e
    have := (List.getElem_inj g.nd.1).mp (e.trans e2.symm)
    omega
  · exact g.nd.2.2 a (List.mem_of_getElem? ha) z
theorem Rp.fz (g : GaOk K H α γ) {m : Nat} {d d' : D} {v : V} (r : Rp K H α v d) (f : Fz γ m d d') : Rp K H (α.tk m) v d' := by
  cases f with
  | keep b => exact Rp.tk m _ _ r b
  | lst hm hk b =>
    cases r with
    | loc ha =>
      obtain ⟨us, h1, h2⟩ := g.at_ _ _ _ ha hk
      exact .lst (tk_no g hm ha) h1 (RpL.tk m _ _ h2 b)
  | ins hm hk b =>
    cases r with
    | loc ha =>
      obtain ⟨dx, fs, h1, h2, h3⟩ := g.at_ _ _ _ ha hk
      subst h2
      exact .ins (tk_no g hm ha) h1 (RpL.tk m _ _ h3 b)
  | dic hm hk b =>
    cases r with
    | loc ha =>
      obtain ⟨fs, h1, h2, h3⟩ := g.at_ _ _ _ ha hk
      subst h2
      exact .dic (tk_no g hm ha) h1 (RpL.tk m _ _ h3 b)
  | dit hm hk b =>
    cases r with
    | loc ha =>
      obtain ⟨fs, h1, h2, h3⟩ := g.at_ _ _ _ ha hk
      subst h2
      exact .dit (tk_no g hm ha) h1 (RpL.tk m _ _ h3 b)
end
/-- q, or q when the objects behind are let go -/
def Dr (n : Nat) (q : QD) : QD := fun d γ => q d γ ∨ ∃ d' γ2 rest, γ = γ2 ++ rest ∧ n ≤ γ2.length ∧ loG γ2.length γ2 = true ∧ Fz γ γ2.length d d' ∧ q d' γ2
theorem wv_dr {K : Frag} {α0 : Al} {H0 : Hp} {n : Nat} {q : QD} {k : VK} (hn : α0.h.length = n) (w : Wv K α0 H0 q k) : Wv K α0 H0 (Dr n q) k := by
  rintro v H α d γ (h | ⟨d', γ2, rest, rfl, hl, b, f, h⟩) e g r
  · exact w v H α d γ h e g r
  · exact w v H (α.tk γ2.length) d' γ2 h (e.tk (by omega)) (g.tk b) (r.fz g f)
/-! ### a def by its body -/
theorem rpe_start {K : Frag} {H : Hp} {α : Al} {vs : List V} {ds : List D} (r : RpL K H α vs ds) (N : List Str) : RpE K H α (L2.start N vs) (ds.map some ++ List.replicate (N.length - ds.length) none) := by
  unfold L2.start
  rw [r.length]
  refine ⟨by simp [r.length], fun i d h => ?_⟩
  by_cases hi : i < ds.length
  · rw [List.getElem?_append_left (by simpa using hi), List.getElem?_map] at h
    cases q : ds[i]? with
    | none => rw [q] at h; cases h
    | some x =>
      rw [q] at h
      cases h
      obtain ⟨v, h1, h2⟩ := r.get q
      refine ⟨v, ?_, h2⟩
      rw [List.getElem?_append_left (by simp [r.length]; exact hi), List.getElem?_map, h1]
      rfl
  · rw [List.getElem?_append_right (by simpa using hi)] at h
    rw [List.getElem?_replicate] at h
    split at h <;> cases h
theorem fn_dl {P : Program} {w : World} {K : Frag} {mg : Str → Option Value} {base : Heap} {k : Nat} {f : Addr} {x qual : Str} {params : Arguments} {body : List Stmt} {scope : Scope} {dvs : List V} {kws : List (Str × V)} {fd : FuncData} {N ps : List Str} {s : SpD}
    (F : FunD K x qual params body scope dvs kws f fd) (sc : FnScope N ps scope) (t : TS) (len : ∀ ds γ q e, s ds γ q e → ds.length = ps.length)
    (der : ∀ (cdv : Value) (A : Around) (outer : List PySem.Env) (s : Shared) (H : Hp) (E : XK), Room k (cxOf CX0 P w K mg base N qual scope f cdv A outer s H E).A → (cxOf CX0 P w K mg base N qual scope f cdv A outer s H E).A.guards = some [] →
      PSs (cxOf CX0 P w K mg base N qual scope f cdv A outer s H E).nox body t)
    (h : ∀ ds γ q e, loG γ.length γ = true → loL γ.length ds = true → s ds γ q e → dS K γ.length t (ds.map some ++ List.replicate (N.length - ds.length) none) γ { nx := fun _ γ' => Dr γ.length q .non γ', rt := Dr γ.length q }) :
    FnG P w K mg base CX0 (k + 1) f fd ps (toSp K s) := by
  refine fnG_of F sc (fun vs H Q E hs => ?_) fun cdv A outer s0 H vs Q E room gd hs => ⟨t, (der cdv A outer s0 H E room gd).nox, ?_⟩
  · obtain ⟨α, ds, γ, q, e, r, g, hq, _⟩ := hs
    rw [r.length]
    exact len _ _ _ _ hq
  · obtain ⟨α, ds, γ, q, e, r, g, hq, wv, _⟩ := hs
    have b2 := RpL.lo _ _ r
    rw [g.len] at b2
    refine h ds γ q e g.lo b2 hq (L2.start N vs) H α α H _ g.len g.refl (rpe_start r N) g ⟨?_, wv_dr g.len wv, ?_, ?_⟩
    · intro σ1 H1 α1 ρ1 γ1 h1 e1 g1 r1
      exact wv_dr g.len wv .non H1 α1 .non γ1 h1 e1 g1 .non
    · intro σ1 H1 α1 ρ1 γ1 h1 e1 g1 r1
      exact h1.elim
    · intro σ1 H1 α1 ρ1 γ1 h1 e1 g1 r1
      exact h1.elim
end DL

set_option Elab.async false
set_option linter.all false
set_option maxRecDepth 100000
set_option maxHeartbeats 2000000
namespace DL
open PySem PySem.Spec PyProof.Rows L2

/-- a def of the text keeps a promise -/
def Pk (P : Program) (w : World) (K : Frag) (mg : Str → Option Value) (base : Heap) (k : Nat) (a : Str × Option Str) (ps : List Str) (s : SpD) : Prop :=
  ∃ fd, FnG P w K mg base CX0 k (He.fAd K a) fd ps (toSp K s) ∧ PySem.W.keepIn K (.ref (He.fAd K a)) = true ∧ Binds K fd ps []
theorem Pk.mono {P : Program} {w : World} {K : Frag} {mg : Str → Option Value} {base : Heap} {j k : Nat} {a : Str × Option Str} {ps : List Str} {s : SpD} (h : Pk P w K mg base j a ps s) (l : j ≤ k) : Pk P w K mg base k a ps s := by
  obtain ⟨fd, F, kp, b⟩ := h
  exact ⟨fd, F.mono l, kp, b⟩
theorem Pk.imp {P : Program} {w : World} {K : Frag} {mg : Str → Option Value} {base : Heap} {k : Nat} {a : Str × Option Str} {ps : List Str} {s s' : SpD} (h : Pk P w K mg base k a ps s) (l : ∀ ds γ q e, s' ds γ q e → s ds γ q e) : Pk P w K mg base k a ps s' := by
  obtain ⟨fd, F, kp, b⟩ := h
  exact ⟨fd, F.imp fun vs H Q E ⟨α, ds, γ, q, e, h1, h2, h3, h4⟩ => ⟨α, ds, γ, q, e, h1, h2, l _ _ _ _ h3, h4⟩, kp, b⟩
section
variable {X : Cx} {k : Nat} {C : Addr} {ps : List Str} {s : SpD} {x m : Str} {p pos apos : Pos} {e o : Expr} {es : List Expr} {ta : TE} {t : TA}
theorem callP (F : Pk X.prog X.w X.K X.mg X.base k (x, none) ps s) (room : Room k X.A) (gd : X.A.guards = some []) (gl : Gl X x) (mgx : X.mg x = some (.ref (He.ga X.K x)))
    (ha : PA X (e :: es) t) (h1 : (x == ("__debug__" : Str)) = false := by decide) (h2 : starEach (e :: es) X.env = (false, eval e X.env) :: starEach es X.env := by rfl) (h3 : (backTo pos (starEach es X.env)).any (·.1) = false := by rfl) :
    PE X (.Call (.Name x p) (e :: es) [] pos) (tCall (toSp X.K s) [] E0 t) := by
  obtain ⟨fd, F, kp, b⟩ := F
  exact callG F room gd b pass0 gl mgx kp ha h1 h2 h3
theorem callP0 (F : Pk X.prog X.w X.K X.mg X.base k (x, none) ps s) (room : Room k X.A) (gd : X.A.guards = some []) (gl : Gl X x) (mgx : X.mg x = some (.ref (He.ga X.K x)))
    (h1 : (x == ("__debug__" : Str)) = false := by decide) : PE X (.Call (.Name x p) [] [] pos) (tCall (toSp X.K s) [] E0 tNil) := by
  obtain ⟨fd, F, kp, b⟩ := F
  exact callG0 F room gd b pass0 gl mgx kp h1
theorem methP {c : Str} {pl : Sem Bool} (he : PE X o ta) (cl : Cls X.K (He.ga X.K c)) (mt : Meth X.K (He.ga X.K c) m (He.ma X.K (He.ga X.K c) m)) (F : Pk X.prog X.w X.K X.mg X.base k (c, some m) ps s) (room : Room k X.A) (gd : X.A.guards = some []) (ha : PA X (e :: es) t)
    (h2 : starEach (e :: es) X.env = (false, eval e X.env) :: starEach es X.env := by rfl) (h3 : (backTo pos (starEach es X.env)).any (·.1) = false := by rfl)
    (ht : eval (.Call (.Attribute o m apos) (e :: es) [] pos) X.env = (do let ov ← eval o X.env; standAt apos.atName; let (f, first) ← holding [ov] (getMethod ov m pl); callWith pos f first (backTo pos (starEach (e :: es) X.env)) (backToKw pos (keywordEach [] X.env))) := by rfl) :
    PE X (.Call (.Attribute o m apos) (e :: es) [] pos) (tMeth (He.ga X.K c) m (toSp X.K s) [] E0 ta t) := by
  obtain ⟨fd, F, kp, b⟩ := F
  exact methG he cl mt F room gd b pass0 ha h2 h3 ht
theorem methP0 {c : Str} {pl : Sem Bool} (he : PE X o ta) (cl : Cls X.K (He.ga X.K c)) (mt : Meth X.K (He.ga X.K c) m (He.ma X.K (He.ga X.K c) m)) (F : Pk X.prog X.w X.K X.mg X.base k (c, some m) ps s) (room : Room k X.A) (gd : X.A.guards = some [])
    (ht : eval (.Call (.Attribute o m apos) [] [] pos) X.env = (do let ov ← eval o X.env; standAt apos.atName; let (f, first) ← holding [ov] (getMethod ov m pl); callWith pos f first (backTo pos (starEach [] X.env)) (backToKw pos (keywordEach [] X.env))) := by rfl) :
    PE X (.Call (.Attribute o m apos) [] [] pos) (tMeth (He.ga X.K c) m (toSp X.K s) [] E0 ta tNil) := by
  obtain ⟨fd, F, kp, b⟩ := F
  exact methG0 he cl mt F room gd b pass0 ht
theorem makeP {j : Nat} (M : Mk X.K (He.ga X.K x) (He.ma X.K (He.ga X.K x) "__init__")) (F : Pk X.prog X.w X.K X.mg X.base j (x, some "__init__") ps s) (hj : j + 1 ≤ k) (room : Room k X.A) (gd : X.A.guards = some []) (gl : Gl X x) (mgx : X.mg x = some (.ref (He.ga X.K x)))
    (ha : PA X (e :: es) t) (h1 : (x == ("__debug__" : Str)) = false := by decide) (h2 : starEach (e :: es) X.env = (false, eval e X.env) :: starEach es X.env := by rfl) (h3 : (backTo pos (starEach es X.env)).any (·.1) = false := by rfl) :
    PE X (.Call (.Name x p) (e :: es) [] pos) (tMake (He.ga X.K x) (toSp X.K s) [] E0 t) := by
  obtain ⟨fd, F, kp, b⟩ := F
  exact makeG M F (room.mono hj) gd b pass0 gl mgx ha h1 h2 h3
end
/-- a, b = e, f: both sides written -/
theorem ds_par {K : Frag} {n : Nat} {ρ : Env} {γ : Ga} {B : DEnds} {i j : Nat} {ta : TA} (h : dA K ta ρ γ fun ds γ1 => ∃ x y, ds = [x, y] ∧ B.nx ((ρ.set i (some x)).set j (some y)) γ1) : dS K n (tPar i j ta) ρ γ B := fun σ H α α0 H0 Dn hn e r g fe =>
  h σ H α _ r g fun vs H1 α1 ds γ1 h1 e1 g1 r1 => by
    obtain ⟨x, y, rfl, hq⟩ := h1
    cases r1 with
    | cons r1 r2 =>
      cases r2 with
      | cons r2 r3 =>
        cases r3
        exact ⟨_, _, rfl, fe.nx _ H1 α1 _ γ1 hq (e.trans e1) g1 (((r.mono e1).set i r1).set j r2)⟩
theorem ds_aug {K : Frag} {n : Nat} {ρ : Env} {γ : Ga} {B : DEnds} {i : Nat} {te : TE} {r : R2} (d : D) (hd : ρ[i]? = some (some d)) (h : dE K te ρ γ fun y γ1 => dR2 K r d y γ1 fun z γ2 => B.nx (ρ.set i (some z)) γ2) : dS K n (tAug i te r) ρ γ B := fun σ H α α0 H0 Dn hn e rr g fe => by
  obtain ⟨v, h1, h2⟩ := rr.2 i d hd
  exact ⟨v, h1, h σ H α _ rr g fun u H1 α1 y γ1 h3 e1 g1 r1 => h3 H1 α1 v u _ g1 (Rp.mono e1 _ _ h2) r1 fun z' H2 α2 z γ2 h4 e2 g2 r2 => fe.nx _ H2 α2 _ γ2 h4 ((e.trans e1).trans e2) g2 (((rr.mono e1).mono e2).set i r2)⟩
end DL

set_option Elab.async false
set_option linter.all false
set_option maxRecDepth 100000
set_option maxHeartbeats 2000000
namespace DL
open PySem PySem.Spec PyProof.Rows L2

theorem hu65 {A : Around} {k : Nat} (hr : Room k A) : A.units + 65 < cLine := by have := hr.un; omega
theorem op_inG {X : Cx} (hu : X.A.units + 65 < cLine) : OpR X (compareOp .In) (rInG X.K) := op_in_seq.or (op_in_sign.or (op_inD hu))
theorem op_niG {X : Cx} (hu : X.A.units + 65 < cLine) : OpR X (compareOp .NotIn) (rNiG X.K) := op_notIn_seq.or (op_notIn_sign.or (op_notInD hu))
def rAbs : List V → Hp → VK → Prop := fun xs H Q => ∃ i, xs = [.int i] ∧ Q (.int (if i < 0 then -i else i)) H
def rMin2 : List V → Hp → VK → Prop := fun xs H Q => ∃ i j, xs = [.int i, .int j] ∧ Q (.int (if j < i then j else i)) H
def tTruth (K : Frag) (ta : TE) : TT := fun σ H Q => ta σ H fun x H' => ∃ k, TruV K x H' k ∧ Q k H'
theorem pt_truthK {X : Cx} {a : Expr} {ta : TE} (ha : PE X a ta) (he : ∀ whole, isTrue a X.env whole = (do let v ← whole; standAt a.pos; holding [v] (truthy v))) : PT X a (tTruth X.K ta) := pt_truth ha he
/-! ### dicts that stand still -/
def valD (ks : List Key) (vs : List D) (k : Key) : Option D := ((ks.zip vs).find? fun p => decide (p.1 = k)).map (·.2)
def keyD : D → Option Key
  | .int i => some (.inl i)
  | .str x => some (.inr x)
  | _ => none
section
variable {K : Frag} {ρ : Env} {γ : Ga} {Q : QD}
theorem keyD_rp {H : Hp} {α : Al} {v : V} {d : D} {k : Key} (r : Rp K H α v d) (h : keyD d = some k) : v = kV k := by
  cases r with
  | int i => cases h; rfl
  | str x => cases h; rfl
  | _ => cases h
theorem valD_rp {H : Hp} {α : Al} {k : Key} : ∀ {kvs : List (Key × V)} {vs : List D}, RpL K H α (kvs.map (·.2)) vs →
    (∀ d, valD (kvs.map (·.1)) vs k = some d → ∃ v, valV kvs k = some v ∧ Rp K H α v d) ∧ (valD (kvs.map (·.1)) vs k = none → valV kvs k = none)
  | [], _, h => by cases h; exact ⟨fun _ e => (by cases e), fun _ => rfl⟩
  | (a, b) :: r, _, h => by
    cases h with
    | @cons _ _ x xs h1 h2 =>
      obtain ⟨i1, i2⟩ := valD_rp (k := k) h2
      by_cases hk : a = k
      · have e1 : valD (((a, b) :: r).map (·.1)) (x :: xs) k = some x := by simp [valD, hk]
        have e2 : valV ((a, b) :: r) k = some b := by simp [valV, hk]
        rw [e1, e2]
        exact ⟨fun d e => by cases e; exact ⟨b, rfl, h1⟩, fun e => (by cases e)⟩
      · have e1 : valD (((a, b) :: r).map (·.1)) (x :: xs) k = valD (r.map (·.1)) xs k := by simp [valD, hk]
        have e2 : valV ((a, b) :: r) k = valV r k := by simp [valV, hk]
        rw [e1, e2]
        exact ⟨i1, i2⟩
/-- a dict, as it stands -/
def dvw (γ : Ga) : D → Option (List Key × List D)
  | .dic ks vs => some (ks, vs)
  | .loc k => match γ[k]? with
    | some (.dic ks vs) => some (ks, vs)
    | _ => none
  | _ => none
theorem dic_rp {H : Hp} {α : Al} {v : V} {d : D} {ks : List Key} {vs : List D} (g : GaOk K H α γ) (r : Rp K H α v d) (h : dvw γ d = some (ks, vs)) : ∃ a kvs, v = .ref a ∧ H a = some (.dK kvs) ∧ kvs.map (·.1) = ks ∧ RpL K H α (kvs.map (·.2)) vs := by
  cases r with
  | dic h1 h2 h3 =>
    cases h
    exact ⟨_, _, rfl, h2, rfl, h3⟩
  | @loc k a ha =>
    unfold dvw at h
    cases q : γ[k]? with
    | none => simp [q] at h
    | some m =>
      cases m with
      | dic ks' vs' =>
        simp [q] at h
        obtain ⟨rfl, rfl⟩ := h
        obtain ⟨kvs, h1, h2, h3⟩ := g.at_ _ _ _ ha q
        exact ⟨a, kvs, rfl, h1, h2, h3⟩
      | _ => simp [q] at h
  | _ => cases h
theorem de_dget2 {td ty tx : TE} (h : dE K td ρ γ fun d γ1 => (∃ ks vs, dvw γ1 d = some (ks, vs)) ∧ dE K ty ρ γ1 fun y γ2 => dE K tx ρ γ2 fun x γ3 => ∃ ks vs k, dvw γ3 d = some (ks, vs) ∧ keyD y = some k ∧ Q ((valD ks vs k).getD x) γ3) :
    dE K (tDGet2 td ty tx) ρ γ Q := fun σ H α q r g w =>
  h σ H α _ r g fun v H1 α1 d γ1 ⟨⟨ks, vs, hd⟩, h1⟩ e1 g1 r1 => by
    obtain ⟨a, kvs, rfl, ha, hk, hv⟩ := dic_rp g1 r1 hd
    refine ⟨a, rfl, .inl ⟨kvs, .inl ha⟩, h1 σ H1 α1 _ (r.mono e1) g1 fun vy H2 α2 y γ2 h2 e2 g2 r2 => h2 σ H2 α2 _ ((r.mono e1).mono e2) g2 fun vx H3 α3 x γ3 ⟨ks', vs', k, hd3, hy, hq⟩ e3 g3 r3 => ?_⟩
    obtain ⟨a', kvs', ea, ha', hk', hv'⟩ := dic_rp g3 (Rp.mono (e2.trans e3) _ _ r1) hd3
    cases ea
    subst hk'
    have ey := keyD_rp (Rp.mono e3 _ _ r2) hy
    refine ⟨valV kvs' k, .inl ⟨kvs', k, .inl ha', ey, rfl⟩, ?_⟩
    obtain ⟨i1, i2⟩ := valD_rp (k := k) hv'
    cases z : valD (kvs'.map (·.1)) vs' k with
    | none =>
      rw [i2 z]
      rw [z] at hq
      exact w vx H3 α3 x γ3 hq ((e1.trans e2).trans e3) g3 r3
    | some dd =>
      obtain ⟨u, hu, ru⟩ := i1 dd z
      rw [hu]
      rw [z] at hq
      exact w u H3 α3 dd γ3 hq ((e1.trans e2).trans e3) g3 ru
/-- {k: v, ..}: written pairs -/
def dPairs (K : Frag) : List (TE × TE) → Env → Ga → (List (D × D) → Ga → Prop) → Prop
  | [], _, γ, Q => Q [] γ
  | (tk, tv) :: r, ρ, γ, Q => dE K tk ρ γ fun k γ1 => dE K tv ρ γ1 fun v γ2 => dPairs K r ρ γ2 fun ps γ3 => Q ((k, v) :: ps) γ3
def PsRp (K : Frag) (H : Hp) (α : Al) (us : List (V × V)) (ps : List (D × D)) : Prop := RpL K H α (us.map (·.1)) (ps.map (·.1)) ∧ RpL K H α (us.map (·.2)) (ps.map (·.2))
theorem dPairs_run : ∀ {trs : List (TE × TE)} {ρ : Env} {γ : Ga} {Q : List (D × D) → Ga → Prop}, dPairs K trs ρ γ Q → ∀ σ H α (q : List (V × V) → Hp → Prop), RpE K H α σ ρ → GaOk K H α γ →
    (∀ us H' α' ps γ', Q ps γ' → Ext α H α' H' → GaOk K H' α' γ' → PsRp K H' α' us ps → q us H') → tPairs trs σ H q
  | [], ρ, γ, Q, h, σ, H, α, q, r, g, w => w [] H α [] γ h g.refl g ⟨.nil, .nil⟩
  | (tk, tv) :: rs, ρ, γ, Q, h, σ, H, α, q, r, g, w =>
    h σ H α _ r g fun k H1 α1 kd γ1 h1 e1 g1 r1 => h1 σ H1 α1 _ (r.mono e1) g1 fun v H2 α2 vd γ2 h2 e2 g2 r2 =>
      dPairs_run h2 σ H2 α2 _ ((r.mono e1).mono e2) g2 fun us H3 α3 ps γ3 h3 e3 g3 r3 =>
        w ((k, v) :: us) H3 α3 ((kd, vd) :: ps) γ3 h3 ((e1.trans e2).trans e3) g3 ⟨.cons (Rp.mono (e2.trans e3) _ _ r1) r3.1, .cons (Rp.mono e3 _ _ r2) r3.2⟩
theorem putK_new {kvs : List (Key × V)} {k : Key} {v : V} (h : k ∉ kvs.map (·.1)) : putK kvs k v = kvs ++ [(k, v)] := by
  unfold putK
  rw [if_neg]
  intro z
  obtain ⟨p, hp, e⟩ := List.any_eq_true.mp z
  exact h (List.mem_map.mpr ⟨p, hp, of_decide_eq_true e⟩)
theorem mergeK_nodup : ∀ {more kvs : List (Key × V)}, (kvs.map (·.1) ++ more.map (·.1)).Nodup → mergeK kvs more = kvs ++ more
  | [], kvs, _ => by simp [mergeK]
  | (k, v) :: r, kvs, h => by
    have hk : k ∉ kvs.map (·.1) := fun z => by
      rw [List.nodup_append] at h
      exact h.2.2 k z k (by simp) rfl
    show mergeK (putK kvs k v) r = _
    rw [putK_new hk, mergeK_nodup]
    · simp
    · simpa using h
theorem keysD_rp {H : Hp} {α : Al} : ∀ {us : List (V × V)} {ps : List (D × D)} {ks : List Key}, PsRp K H α us ps → ps.map (fun p => keyD p.1) = ks.map some → ∃ kvs : List (Key × V), us = kvs.map (fun kv => (kV kv.1, kv.2)) ∧ kvs.map (·.1) = ks ∧ kvs.map (·.2) = us.map (·.2)
  | [], [], ks, _, h => by
    cases ks with
    | nil => exact ⟨[], rfl, rfl, rfl⟩
    | cons _ _ => cases h
  | [], _ :: _, _, h, _ => by cases h.1
  | _ :: _, [], _, h, _ => by cases h.1
  | (a, b) :: us, (x, y) :: ps, ks, h, hk => by
    cases ks with
    | nil => cases hk
    | cons k ks =>
      simp only [List.map_cons, List.cons.injEq] at hk
      obtain ⟨h1, h2⟩ := h
      cases h1 with
      | cons r1 r2 =>
        cases h2 with
        | cons r3 r4 =>
          obtain ⟨kvs, e1, e2, e3⟩ := keysD_rp (us := us) (ps := ps) (ks := ks) ⟨r2, r4⟩ hk.2
          refine ⟨(k, b) :: kvs, ?_, by simp [e2], by simp [e3]⟩
          have ea : a = kV k := keyD_rp r1 hk.1
          rw [ea, e1]
          rfl
theorem de_disp {trs : List (TE × TE)} (h : dPairs K trs ρ γ fun ps γ1 => ∃ ks, ps.map (fun p => keyD p.1) = ks.map some ∧ ks.Nodup ∧ ks.length ≤ 15 ∧ Q (.dic ks (ps.map (·.2))) γ1) : dE K (tDisp trs) ρ γ Q := fun σ H α q r g w => by
  intro p hp
  have e0 := ext_hid g (o := .dK []) hp
  refine dPairs_run h σ _ _ _ (r.mono e0) (ga_hid g hp) fun us H1 α1 ps γ1 h1 e1 g1 r1 => ?_
  obtain ⟨ks, hk, nd, hl, hq⟩ := h1
  obtain ⟨kvs, k1, k2, k3⟩ := keysD_rp r1 hk
  have inx : p ∈ (α.hid p).x := List.mem_cons_self
  have hp1 := e1.keepx p _ inx upd_same
  have inx1 : p ∈ α1.x := by
    obtain ⟨δ, e, _⟩ := e1.xx
    rw [e]
    exact List.mem_append_right _ inx
  subst k2
  refine ⟨hp1, kvs, k1, by simpa using hl, ?_⟩
  have em : mergeK [] kvs = kvs := by rw [mergeK_nodup (by simpa using nd)]; rfl
  rw [em]
  have ew := ext_setW g1 (o := .dK kvs) (.inr inx1)
  have g2 := ga_hset g1 (o := .dK kvs) inx1
  have e2 : Ext α H α1 (upd H1 p (.dK kvs)) := ext_hset g (e0.trans e1) hp
  have nh : p ∉ α1.h := fun z => g1.nd.2.2 p z inx1
  refine w _ _ (α1.un p) _ γ1 hq (ext_un g e2 hp) (ga_un g2) (.dic (out_un nh) upd_same ?_)
  rw [k3]
  exact RpL.shw (α := α1) (α' := α1.un p) rfl un_x _ _ (RpL.monoW ew _ _ r1.2)
end
end DL

set_option Elab.async false
set_option linter.all false
set_option maxRecDepth 100000
set_option maxHeartbeats 2000000
namespace DL
open PySem PySem.Spec PyProof.Rows L2

/-! ### the statements' rules, component by component -/
section
variable {K : Frag} {n : Nat} {ρ : Env} {γ : Ga} {nx bk ct : Env → Ga → Prop} {rt : QD} {t u : TS}
theorem xs_next (h : nx ρ γ) : dS K n tNext ρ γ ⟨nx, rt, bk, ct⟩ := ds_next h
theorem xs_brk (h : bk ρ γ) : dS K n tBreak ρ γ ⟨nx, rt, bk, ct⟩ := ds_brk h
theorem xs_cont (h : ct ρ γ) : dS K n tCont ρ γ ⟨nx, rt, bk, ct⟩ := ds_cont h
theorem xs_seq (h : dS K n t ρ γ ⟨fun ρ' γ' => dS K n u ρ' γ' ⟨nx, rt, bk, ct⟩, rt, bk, ct⟩) : dS K n (tSeq t u) ρ γ ⟨nx, rt, bk, ct⟩ := ds_seq h
theorem xs_if {c : TT} (h : dT K c ρ γ fun b γ' => if b = true then dS K n t ρ γ' ⟨nx, rt, bk, ct⟩ else dS K n u ρ γ' ⟨nx, rt, bk, ct⟩) : dS K n (tIfS c t u) ρ γ ⟨nx, rt, bk, ct⟩ := ds_if h
theorem xs_asg {te : TE} {g : TG} (h : dE K te ρ γ fun d γ' => ∃ is, dG K g d ρ γ' is nx) : dS K n (tAsg te g) ρ γ ⟨nx, rt, bk, ct⟩ := fun σ H α α0 H0 Dn hn e r g fe =>
  h σ H α _ r g fun v H1 α1 d γ1 ⟨is, h1⟩ e1 g1 r1 => h1 σ H1 α1 v _ (r.mono e1) g1 r1 fun σ2 H2 α2 ρ2 γ2 h2 _ e2 g2 r2 => fe.nx σ2 H2 α2 ρ2 γ2 h2 ((e.trans e1).trans e2) g2 r2
theorem xs_set {te : TE} {i : Nat} (h : dE K te ρ γ fun d γ' => nx (ρ.set i (some d)) γ') : dS K n (tAsg te (gName i)) ρ γ ⟨nx, rt, bk, ct⟩ := ds_set h
theorem xs_ret {te : TE} (h : dE K te ρ γ rt) : dS K n (tRet te) ρ γ ⟨nx, rt, bk, ct⟩ := ds_ret h
theorem xs_retN (h : rt .non γ) : dS K n tRetN ρ γ ⟨nx, rt, bk, ct⟩ := ds_retN h
theorem xs_expr {te : TE} (h : dE K te ρ γ fun _ γ' => nx ρ γ') : dS K n (tDrop te) ρ γ ⟨nx, rt, bk, ct⟩ := ds_expr h
theorem xs_par {i j : Nat} {ta : TA} (h : dA K ta ρ γ fun ds γ1 => ∃ x y, ds = [x, y] ∧ nx ((ρ.set i (some x)).set j (some y)) γ1) : dS K n (tPar i j ta) ρ γ ⟨nx, rt, bk, ct⟩ := ds_par h
theorem xs_fld {ta tv : TE} {f : Str} (h : dE K tv ρ γ fun d γ1 => dE K ta ρ γ1 fun r γ2 => ∃ k C ns vs, r = .loc k ∧ γ2[k]? = some (.ins C ns vs) ∧ Cls K C ∧ NoAttr K C f ∧ vs.length < 1000 ∧
      nx ρ (γ2.set k (.ins C (stored ns vs f d).1 (stored ns vs f d).2))) : dS K n (sFld K ta tv f) ρ γ ⟨nx, rt, bk, ct⟩ := ds_fld h
theorem xs_while {c : TT} {tb : TS} (P : Nat → Env → Ga → Prop) (h0 : ∃ m, P m ρ γ)
    (hs : ∀ m ρ γ, P m ρ γ → dT K c ρ γ fun b γ1 => if b = true then dS K n tb ρ γ1 ⟨fun ρ' γ' => ∃ m', m' < m ∧ P m' ρ' γ', rt, nx, fun ρ' γ' => ∃ m', m' < m ∧ P m' ρ' γ'⟩ else nx ρ γ1) :
    dS K n (tWhile c tb) ρ γ ⟨nx, rt, bk, ct⟩ := ds_while P h0 hs
theorem xs_for {wi : TI} {g : TG} {tb : TS} (is : List Nat) (h : dI K wi ρ γ fun ds γ1 => ∃ P : Nat → Env → Ga → Prop, P 0 ρ γ1 ∧
      (∀ i x ρ' γ', ds[i]? = some x → P i ρ' γ' → dG K g x ρ' γ' is fun ρ2 γ2 => dS K γ1.length tb ρ2 γ2 ⟨P (i + 1), rt, nx, P (i + 1)⟩) ∧
      ∀ ρ' γ', P ds.length ρ' γ' → nx ρ' γ') : dS K n (tFor wi g tb) ρ γ ⟨nx, rt, bk, ct⟩ := ds_for is h
end
section
variable {K : Frag} {ρ : Env} {γ : Ga} {Q : QD}
theorem xe_var {i : Nat} (h : ∃ d, ρ[i]? = some (some d) ∧ Q d γ) : dE K (tVar i) ρ γ Q := de_var h.choose_spec.1 h.choose_spec.2
theorem xg_name {i : Nat} {d : D} {N : Env → Ga → Prop} (h : N (ρ.set i (some d)) γ) : ∃ is, dG K (gName i) d ρ γ is N := ⟨_, dg_name h⟩
theorem xg_tup {m : Nat} {gs : TGs} {ds : List D} {N : Env → Ga → Prop} (hl : ds.length = m) (h : ∃ is, dGs K gs ds ρ γ is N) : ∃ is, dG K (gTup K m gs) (.tup ds) ρ γ is N := ⟨_, dg_tup hl h.choose_spec⟩
theorem dg_lst {m : Nat} {gs : TGs} {x : D} {ds : List D} {is : List Nat} {N : Env → Ga → Prop} (hx : vw γ x = .lst ds) (hl : ds.length = m) (h : dGs K gs ds ρ γ is N) : dG K (gUnl K m gs) x ρ γ is N := fun σ H α v q r g rv w => by
  obtain ⟨a, us, rfl, h1, ru⟩ := lst_vw g rv hx
  exact ⟨_, _, rfl, SqL.of h1, ru.length.trans hl, h σ H α _ q r g ru w⟩
theorem xg_lst {m : Nat} {gs : TGs} {x : D} {N : Env → Ga → Prop} (h : ∃ ds, vw γ x = .lst ds ∧ ds.length = m ∧ ∃ is, dGs K gs ds ρ γ is N) : ∃ is, dG K (gUnl K m gs) x ρ γ is N := by
  obtain ⟨ds, h1, h2, is, h3⟩ := h
  exact ⟨is, dg_lst h1 h2 h3⟩
theorem xgs_nil {N : Env → Ga → Prop} (h : N ρ γ) : ∃ is, dGs K gNil [] ρ γ is N := ⟨_, dgs_nil h⟩
theorem dg_mono {g : TG} {d : D} {is : List Nat} {N N' : Env → Ga → Prop} (h : dG K g d ρ γ is N) (k : ∀ ρ' γ', N ρ' γ' → N' ρ' γ') : dG K g d ρ γ is N' := fun σ H α v q r g0 rv w =>
  h σ H α v q r g0 rv fun σ' H' α' ρ' γ' n s e g1 r1 => w σ' H' α' ρ' γ' (k _ _ n) s e g1 r1
/-- a name first, then the rest -/
theorem xgs_name {i : Nat} {gs : TGs} {d : D} {ds : List D} {N : Env → Ga → Prop} (h : ∃ is, dGs K gs ds (ρ.set i (some d)) γ is N) : ∃ is, dGs K (gCons (gName i) gs) (d :: ds) ρ γ is N := ⟨_, dgs_cons (dg_name h.choose_spec)⟩
theorem xg_setL {to ti : TE} {d : D} {N : Env → Ga → Prop} (h : dE K to ρ γ fun o γ1 => dE K ti ρ γ1 fun i γ2 => ∃ k xs z j, o = .loc k ∧ γ2[k]? = some (.lst xs) ∧ i = .int z ∧ ixN xs.length z = some j ∧ N ρ (γ2.set k (.lst (xs.set j d)))) :
    ∃ is, dG K (gSub to ti rSetL) d ρ γ is N := ⟨_, dg_setL h⟩
theorem iteb {b : Bool} {p q : Prop} (h1 : b = true → p) (h2 : b = false → q) : if b = true then p else q := by
  cases b with
  | true => exact h1 rfl
  | false => exact h2 rfl
/-! ### tuples of the text's top -/
theorem de_topB {x : Str} {vs : List He.Dv} {ds : List D} (h : He.tupB K x vs = true) (hr : ∀ H α, RpL K H α (vs.map (He.Dv.v K)) ds) (q : Q (.tup ds) γ) : dE K (tC (.ref (He.ga K x))) ρ γ Q := by
  refine de_top (vs := vs.map (He.Dv.v K)) ?_ hr q
  unfold He.tupB at h
  cases e : K.lookup (He.ga K x) with
  | none => rw [e] at h; cases h
  | some o =>
    obtain ⟨oc, od, dt, osl⟩ := o
    rw [e] at h
    cases oc with
    | type c =>
      cases dt with
      | seq its n =>
        obtain ⟨h1, h2⟩ := He.ba (show (decide (c = "tuple") && (decide (its.size ≤ sizeLine) && He.relAll (vs.map (He.Dv.v K)) its.toList)) = true from h)
        obtain ⟨h3, h4⟩ := He.ba h2
        exact ⟨_, its, n, rfl, congrArg Value.type (of_decide_eq_true h1), rfl, of_decide_eq_true h3, He.relAll_ok h4⟩
      | _ => cases h
    | _ => cases dt <;> cases h
/-- a list that will be changed -/
def tLstM (t : TA) : TE := tLst t
theorem xe_tup {t : TA} (h : dA K t ρ γ fun ds γ' => ds.length ≤ 1000000 ∧ Q (.tup ds) γ') : dE K (tTup t) ρ γ Q := de_tup fun σ H α q r g w => h σ H α q r g fun vs H' α' ds γ' h' => w vs H' α' ds γ' ⟨le24 h'.1, h'.2⟩
theorem xe_lst {t : TA} (h : dA K t ρ γ fun ds γ' => ds.length ≤ 1000000 ∧ Q (.lst ds) γ') : dE K (tLst t) ρ γ Q := de_lst fun σ H α q r g w => h σ H α q r g fun vs H' α' ds γ' h' => w vs H' α' ds γ' ⟨le24 h'.1, h'.2⟩
theorem xe_lstM {t : TA} (h : dA K t ρ γ fun ds γ' => ds.length ≤ 1000000 ∧ Q (.loc γ'.length) (γ' ++ [.lst ds])) : dE K (tLstM t) ρ γ Q := de_lstM (t := t) fun σ H α q r g w => h σ H α q r g fun vs H' α' ds γ' h' => w vs H' α' ds γ' ⟨le24 h'.1, h'.2⟩
/-! ### texts as lists of codes -/
def strsD (ls : List (List Nat)) : List D := ls.map fun l => .str (S l)
theorem radd_S {a b : List Nat} (hl : a.length + b.length ≤ 1000000) (q : Q (.str (S (a ++ b))) γ) : dR2 K (rAddG K) (.str (S a)) (.str (S b)) γ Q := radd_str (by rw [S_len, S_len]; exact hl) (by rw [S_app]; exact q)
theorem req_S {a b : List Nat} (q : Q (.bl (decide (a = b))) γ) : dR2 K (rEqG K) (.str (S a)) (.str (S b)) γ Q := req_str (by
  have e : decide (S a = S b) = decide (a = b) := by simp only [S_inj]
  rw [e]; exact q)
theorem rne_S {a b : List Nat} (q : Q (.bl (!decide (a = b))) γ) : dR2 K (rNeG K) (.str (S a)) (.str (S b)) γ Q := rne_str (by
  have e : decide (S a = S b) = decide (a = b) := by simp only [S_inj]
  rw [e]; exact q)
theorem rc_len_S {a : List Nat} (hl : a.length ≤ 1000000) (q : Q (.int (a.length : Nat)) γ) : dRC K (rLenG K) [.str (S a)] γ Q := rc_len_str (by rw [S_len]; exact hl) (by rw [S_len]; exact q)
theorem eqf_S {a b : List Nat} : eqf (.str (S a)) (.str (S b)) = decide (a = b) := by
  show (S a == S b) = _
  rw [Bool.eq_iff_iff, beq_iff_eq, S_inj, decide_eq_true_iff]
theorem inD_nil {x : D} : inD x [] = false := rfl
theorem inD_cons {x y : D} {ys : List D} : inD x (y :: ys) = (eqf y x || inD x ys) := rfl
theorem inD_strs {l : List Nat} : ∀ {ls : List (List Nat)}, inD (.str (S l)) (strsD ls) = decide (l ∈ ls)
  | [] => by simp [strsD, inD]
  | a :: ls => by
    have ih := @inD_strs l ls
    show (eqf (.str (S a)) (.str (S l)) || inD (.str (S l)) (strsD ls)) = _
    rw [ih, eqf_S, Bool.eq_iff_iff, Bool.or_eq_true, decide_eq_true_iff, decide_eq_true_iff, decide_eq_true_iff, List.mem_cons]
    exact ⟨fun h => h.elim (fun e => .inl e.symm) .inr, fun h => h.elim (fun e => .inl e.symm) .inr⟩
theorem strs_flat : ∀ {ls : List (List Nat)}, (strsD ls).all D.flat = true
  | [] => rfl
  | a :: ls => by
    show ((D.str (S a)).flat && (strsD ls).all D.flat) = true
    rw [strs_flat]; rfl
theorem rin_strs {y : D} {l : List Nat} {ls : List (List Nat)} (hy : vw γ y = .lst (strsD ls) ∨ y = .tup (strsD ls)) (q : Q (.bl (decide (l ∈ ls))) γ) : dR2 K (rInG K) (.str (S l)) y γ Q :=
  rin_seq hy rfl strs_flat (by rw [inD_strs]; exact q)
theorem rni_strs {y : D} {l : List Nat} {ls : List (List Nat)} (hy : vw γ y = .lst (strsD ls) ∨ y = .tup (strsD ls)) (q : Q (.bl (!decide (l ∈ ls))) γ) : dR2 K (rNiG K) (.str (S l)) y γ Q :=
  rni_seq hy rfl strs_flat (by rw [inD_strs]; exact q)
/-! ### existential forms -/
theorem xix_lst {x : D} {z : Int} (h : ∃ xs, vw γ x = .lst xs ∧ ∃ d, atI xs z = some d ∧ Q d γ) : dR2 K (rIx K) x (.int z) γ Q := by
  obtain ⟨xs, h1, d, h2, h3⟩ := h
  exact rix_lst h1 h2 h3
theorem xadd_lst {x y : D} (h : ∃ xs, vw γ x = .lst xs ∧ ∃ ys, vw γ y = .lst ys ∧ xs.length + ys.length ≤ 1000000 ∧ Q (.lst (xs ++ ys)) γ) : dR2 K (rAddG K) x y γ Q := by
  obtain ⟨xs, h1, ys, h2, h3, h4⟩ := h
  exact radd_lst h1 h2 h3 h4
theorem xix_tup {xs : List D} {z : Int} (h : ∃ d, atI xs z = some d ∧ Q d γ) : dR2 K (rIx K) (.tup xs) (.int z) γ Q := rix_tup h.choose_spec.1 h.choose_spec.2
theorem xix_str {l : List Nat} {z : Int} (hl : l.length ≤ 1000000) (h : ∃ c, atI l z = some c ∧ Q (.str (S [c])) γ) : dR2 K (rIx K) (.str (S l)) (.int z) γ Q := rix_str hl h.choose_spec.1 h.choose_spec.2
theorem xc_len {x : D} (h : ∃ xs, (vw γ x = .lst xs ∨ x = .tup xs) ∧ Q (.int (xs.length : Nat)) γ) : dRC K (rLenG K) [x] γ Q := rc_len h.choose_spec.1 h.choose_spec.2
theorem xm_append {x y : D} (h : ∃ k xs, x = .loc k ∧ γ[k]? = some (.lst xs) ∧ xs.length < 1000000 ∧ Q .non (γ.set k (.lst (xs ++ [y])))) : dRM K rAppend x [y] γ Q := by
  obtain ⟨k, xs, rfl, h1, h2, h3⟩ := h
  exact rm_append h1 h2 h3
theorem xt_app {T : String} {r : V → List V → Hp → VK → Prop} {to : TE} {t : TA} (h : dE K to ρ γ fun x γ1 => IsTy K T x γ1 ∧ dA K t ρ γ1 fun xs γ2 => dRM K r x xs γ2 Q) : dE K (tBM K T r to t) ρ γ Q := de_bm h
theorem xty_lst {x : D} (h : ∃ xs, vw γ x = .lst xs) : IsTy K "list" x γ := isTy_lst h.choose_spec
theorem at_nat {A : Type} {xs : List A} {j : Nat} {d : A} (h : xs[j]? = some d) : atI xs (j : Int) = some d := by
  have hl : j < xs.length := (List.getElem?_eq_some_iff.mp h).1
  unfold atI ixN
  rw [if_pos (Int.natCast_nonneg j), if_pos (by omega)]
  exact h
theorem at_int {A : Type} {xs : List A} {z : Int} {d : A} (h0 : 0 ≤ z) (h : xs[z.toNat]? = some d) : atI xs z = some d := by
  have := at_nat h
  rwa [Int.toNat_of_nonneg h0] at this
end
/-! ### comprehensions, tests that are known -/
section
variable {K : Frag} {ρ : Env} {γ : Ga} {Q : QD}
theorem ift {p q : Prop} (h : p) : if true = true then p else q := h
theorem iff_ {p q : Prop} (h : q) : if false = true then p else q := h
theorem ifnt {p q : Prop} (h : q) : if (!true) = true then p else q := h
theorem ifnf {p q : Prop} (h : p) : if (!false) = true then p else q := h
theorem ifd {c : Prop} [Decidable c] {p q : Prop} (h1 : c → p) (h2 : ¬ c → q) : if decide c = true then p else q := by
  by_cases hc : c
  · rw [if_pos (decide_eq_true hc)]; exact h1 hc
  · rw [if_neg (by simpa using hc)]; exact h2 hc
theorem ifnd {c : Prop} [Decidable c] {p q : Prop} (h1 : ¬ c → p) (h2 : c → q) : if (!decide c) = true then p else q := by
  by_cases hc : c
  · rw [if_neg (by simpa using hc)]; exact h2 hc
  · rw [if_pos (by simpa using hc)]; exact h1 hc
theorem xc_isi {x : D} {U : String} (h : ∃ T b, tyName γ x = some T ∧ kitB T U = some b ∧ Q (.bl b) γ) : dRC K (rIsi K) [x, .ty U] γ Q := by
  obtain ⟨T, b, h1, h2, h3⟩ := h
  exact rc_isi h1 h2 h3
theorem dt_yes {q : Bool → Ga → Prop} (h : q true γ) : dT K tYes ρ γ q := fun σ H α k r g w => w true H α γ h g.refl g
theorem xe_lcN {A : Type} {i : Nat} {wi : TI} {te : TE} {vs : List Nat} (xs : List A) (a b : A → D) (hv : i ∈ vs) (h : dI K wi ρ γ fun ds γ1 => ds = xs.map a ∧ xs.length ≤ 1000000 ∧
    (∀ x ∈ xs, dE K te ((wipeE ρ vs).set i (some (a x))) γ1 fun y γ3 => y = b x ∧ γ3 = γ1) ∧ Q (.lst (xs.map b)) γ1) : dE K (tLc wi (gName i) tYes te vs) ρ γ Q := by
  refine de_lc [i] (by intro j hj; simp at hj; subst hj; exact hv) fun σ H α r rr g w => h σ H α r rr g fun J H' α' γ1 ds hh e g' wk => w J H' α' γ1 ds ?_ e g' wk
  obtain ⟨rfl, hl, he, hq⟩ := hh
  refine ⟨by simpa using hl, fun j acc γ' => γ' = γ1 ∧ acc = (xs.take j).map b, ⟨rfl, rfl⟩, ?_, ?_⟩
  · rintro j x acc γ' hx ⟨rfl, rfl⟩
    refine dg_name (dt_yes ?_)
    rw [if_pos rfl]
    rw [List.getElem?_map] at hx
    cases ex : xs[j]? with
    | none => rw [ex] at hx; cases hx
    | some y =>
      rw [ex] at hx
      cases hx
      refine de_mono (he y (List.mem_of_getElem? ex)) ?_
      rintro d γ3 ⟨rfl, rfl⟩
      refine ⟨rfl, ?_⟩
      rw [List.take_add_one, ex]
      simp
  · rintro acc γ' ⟨rfl, rfl⟩
    rw [List.length_map, List.take_length]
    exact hq
theorem chrsD_S {l : List Nat} : chrsD (S l) = l.map fun c => .str (S [c]) := by
  unfold chrsD
  rw [S_l]
  rfl
theorem map_bl {A : Type} {xs : List A} {b : A → Bool} : xs.map (fun x => D.bl (b x)) = (xs.map b).map D.bl := by rw [List.map_map]; rfl
theorem set_get {γ : Ga} {k : Nat} {a b : MO} (h : γ[k]? = some a) : (γ.set k b)[k]? = some b := by
  have hl : k < γ.length := (List.getElem?_eq_some_iff.mp h).1
  rw [List.getElem?_set_self hl]
theorem set_set {γ : Ga} {k : Nat} {a b : MO} : (γ.set k a).set k b = γ.set k b := by rw [List.set_set]
theorem dS_env {n : Nat} {t : TS} {ρ ρ' : Env} {B : DEnds} (e : ρ = ρ') (h : dS K n t ρ' γ B) : dS K n t ρ γ B := by rw [e]; exact h
end
/-! ### a stream's first number -/
section
variable {K : Frag} {ρ : Env} {γ : Ga} {Q : QD}
theorem xs_cut {n : Nat} {t u : TS} {nx bk ct : Env → Ga → Prop} {rt : QD} (N : Env → Ga → Prop) (h1 : dS K n t ρ γ ⟨N, rt, bk, ct⟩) (h2 : ∀ ρ' γ', N ρ' γ' → dS K n u ρ' γ' ⟨nx, rt, bk, ct⟩) : dS K n (tSeq t u) ρ γ ⟨nx, rt, bk, ct⟩ :=
  xs_seq fun σ H α α0 H0 Dn hn e r g f => h1 σ H α α0 H0 Dn hn e r g ⟨fun σ' H' α' ρ' γ' h e' g' r' => f.nx σ' H' α' ρ' γ' (h2 _ _ h) e' g' r', f.rt, f.bk, f.ct⟩
theorem ints_pl : ∀ cs : List Int, plL (cs.map D.int) = true
  | [] => rfl
  | c :: cs => by
    show ((D.int c).pl && plL (cs.map D.int)) = true
    rw [ints_pl cs]; rfl
theorem ints_shaped : ∀ cs : List Int, PyData.canLayAll0 (pyL (cs.map D.int)) = true ∧ PyData.depthAll (pyL (cs.map D.int)) = 0
  | [] => ⟨by simp [pyL, PyData.canLayAll0], by simp [pyL, PyData.depthAll]⟩
  | c :: cs => by
    obtain ⟨h1, h2⟩ := ints_shaped cs
    refine ⟨?_, ?_⟩
    · simp [pyL, PyData.canLayAll0, D.py, PyData.canLay0, h1]
    · simp [pyL, PyData.depthAll, D.py, PyData.depth, h2]
theorem rne_nil {x : D} {cs : List Int} (hx : vw γ x = .lst (cs.map D.int)) (q : Q (.bl (decide (cs ≠ []))) γ) : dR2 K (rNeG K) x (.lst []) γ Q := by
  refine rne_D (by rw [hx]; exact ints_pl cs) rfl (by rw [hx]; obtain ⟨h1, h2⟩ := ints_shaped cs; simp [D.py, SeqAt.shaped, PyData.canLay0, PyData.depth, h1, h2]) rfl ?_
  rw [hx]
  cases cs with
  | nil => exact q
  | cons c cs => exact q
theorem rm_pop0 {k : Nat} {xs : List D} {y : D} (hk : γ[k]? = some (.lst (y :: xs))) (q : Q y (γ.set k (.lst xs))) : dRM K rPopAt (.loc k) [.int 0] γ Q :=
  rm_popAt hk (by decide) (by decide) (j := 0) (by simp [seqIndex?]) rfl q
end
/-! ### dicts that are written out -/
section
variable {K : Frag} {ρ : Env} {γ : Ga} {Q : QD}
theorem xp_nil {q : List (D × D) → Ga → Prop} (h : q [] γ) : dPairs K [] ρ γ q := h
theorem xp_cons {tk tv : TE} {r : List (TE × TE)} {q : List (D × D) → Ga → Prop} (h : dE K tk ρ γ fun k γ1 => dE K tv ρ γ1 fun v γ2 => dPairs K r ρ γ2 fun ps γ3 => q ((k, v) :: ps) γ3) : dPairs K ((tk, tv) :: r) ρ γ q := h
theorem keys_all : ∀ ps : List (D × D), ps.all (fun p => (keyD p.1).isSome) = true → ps.map (fun p => keyD p.1) = (ps.filterMap fun p => keyD p.1).map some
  | [], _ => rfl
  | p :: ps, h => by
    rw [List.all_cons, Bool.and_eq_true] at h
    obtain ⟨k, hk⟩ := Option.isSome_iff_exists.mp h.1
    rw [List.map_cons, List.filterMap_cons, hk, keys_all ps h.2]
    rfl
theorem dPairs_mono : ∀ {trs : List (TE × TE)} {γ : Ga} {q q' : List (D × D) → Ga → Prop}, dPairs K trs ρ γ q → (∀ ps γ', q ps γ' → q' ps γ') → dPairs K trs ρ γ q'
  | [], _, _, _, h, k => k _ _ h
  | (tk, tv) :: r, _, _, _, h, k => de_mono h fun _ _ h1 => de_mono h1 fun _ _ h2 => dPairs_mono h2 fun ps γ' h3 => k _ _ h3
theorem xe_disp {trs : List (TE × TE)} (h : dPairs K trs ρ γ fun ps γ1 => ps.all (fun p => (keyD p.1).isSome) = true ∧ (ps.filterMap fun p => keyD p.1).Nodup ∧ ps.length ≤ 15 ∧ Q (.dic (ps.filterMap fun p => keyD p.1) (ps.map (·.2))) γ1) : dE K (tDisp trs) ρ γ Q := by
  refine de_disp (dPairs_mono h ?_)
  rintro ps γ1 ⟨h1, h2, h3, h4⟩
  exact ⟨_, keys_all ps h1, h2, Nat.le_trans (List.length_filterMap_le _ _) h3, h4⟩
end
/-! ### a law's start -/
theorem only_ga {K : Frag} {H : Hp} : GaOk K H ⟨[], []⟩ [] := ⟨⟨List.nodup_nil, List.nodup_nil, fun _ h => by simp at h⟩, rfl, fun _ _ _ h => by simp at h, fun _ h => by simp at h⟩
theorem ints_rp {K : Frag} {H : Hp} {α : Al} : ∀ ns : List Int, RpL K H α (ns.map V.int) (ns.map D.int)
  | [] => .nil
  | n :: ns => .cons (.int n) (ints_rp ns)
end DL

set_option Elab.async false
set_option linter.all false
set_option maxRecDepth 100000
set_option maxHeartbeats 2000000
namespace DL
open PySem PySem.Spec PyProof.Rows L2

/-! ### a law's own def; a def that is never called -/
/-- what the law is called with, and what it answers -/
def spLaw (K : Frag) : Sp := fun vs H Q E => ∃ a, ∃ ns : List Int, vs = [.ref a] ∧ ns.length ≤ 63 ∧ SqL K H a (ns.map V.int) ∧ ∀ v H', v = .bl true → Q v H'
def tStream (K : Frag) : TS := tAsg (tLst (tCons (tCB (rListOf K) (tCons (tVar 0) tNil)) (tCons (tC (.int 0)) (tCons (tC (.int 0)) (tCons (tC (.int 0)) tNil))))) (gName 1)
def dLaw (K : Frag) (N : List Str) (u : TS) : Prop := ∀ a, ∀ ns : List Int, ns.length ≤ 63 →
  dS K 2 u (([some (D.ref a)] ++ List.replicate (N.length - 1) none).set 1 (some (.loc 1))) [.lst (ns.map D.int), .lst [.loc 0, .int 0, .int 0, .int 0]] ⟨fun _ _ => False, fun d _ => d = .bl true, fun _ _ => False, fun _ _ => False⟩
theorem fn_law {P : Program} {w : World} {K : Frag} {mg : Str → Option Value} {base : Heap} {k : Nat} {f : Addr} {x qual : Str} {params : Arguments} {body : List Stmt} {scope : Scope} {dvs : List V} {kws : List (Str × V)} {fd : FuncData} {N : List Str} {p : Str}
    (F : FunD K x qual params body scope dvs kws f fd) (sc : FnScope N [p] scope) (u : TS)
    (der : ∀ (cdv : Value) (A : Around) (outer : List PySem.Env) (s : Shared) (H : Hp) (E : XK), Room k (cxOf CX0 P w K mg base N qual scope f cdv A outer s H E).A → (cxOf CX0 P w K mg base N qual scope f cdv A outer s H E).A.guards = some [] →
      PSs (cxOf CX0 P w K mg base N qual scope f cdv A outer s H E).nox body (tSeq (tStream K) u))
    (h : dLaw K N u) : FnG P w K mg base CX0 (k + 1) f fd [p] (spLaw K) := by
  refine fnG_of F sc (fun vs H Q E hs => ?_) fun cdv A outer s0 H vs Q E room gd hs => ⟨_, (der cdv A outer s0 H E room gd).nox, ?_⟩
  · obtain ⟨a, ns, rfl, _⟩ := hs
    rfl
  · obtain ⟨a, ns, rfl, hl, hS, hQ⟩ := hs
    refine ⟨.ref a, by unfold L2.start; rfl, a, ns.map V.int, rfl, .inl hS, fun l hl1 => ⟨by show 4 ≤ sizeLine; decide, fun q hq => ?_⟩⟩
    have hne : q ≠ l := fun e => by subst e; rw [upd_same] at hq; cases hq
    let H2 : Hp := upd (upd H l (.lst (ns.map V.int))) q (.lst [.ref l, .int 0, .int 0, .int 0])
    have hHl : H2 l = some (.lst (ns.map V.int)) := by show upd _ q _ l = _; rw [upd_ne (Ne.symm hne), upd_same]
    have hHq : H2 q = some (.lst [.ref l, .int 0, .int 0, .int 0]) := upd_same
    have g : GaOk K H2 ⟨[l, q], []⟩ [.lst (ns.map D.int), .lst [.loc 0, .int 0, .int 0, .int 0]] := by
      refine ⟨⟨by simp [Ne.symm hne], List.nodup_nil, fun _ _ h => by simp at h⟩, rfl, ?_, fun _ h => by simp at h⟩
      intro k b m hk hm
      match k, hk, hm with
      | 0, hk, hm =>
        cases hk; cases hm
        exact ⟨_, hHl, ints_rp ns⟩
      | 1, hk, hm =>
        cases hk; cases hm
        exact ⟨_, hHq, .cons (.loc rfl) (.cons (.int 0) (.cons (.int 0) (.cons (.int 0) .nil)))⟩
      | k + 2, hk, hm => cases hk
    have r0 : RpE K H2 ⟨[l, q], []⟩ (L2.start N [.ref a]) ([D.ref a].map some ++ List.replicate (N.length - [D.ref a].length) none) := rpe_start (.cons (.ref a) .nil) N
    have r1 := r0.set 1 (v := .ref q) (d := .loc 1) (.loc rfl)
    refine h a ns hl _ H2 ⟨[l, q], []⟩ ⟨[l, q], []⟩ H2 _ rfl g.refl r1 g ⟨?_, ?_, ?_, ?_⟩
    · intro σ1 H1 α1 ρ1 γ1 h1
      exact h1.elim
    · rintro v H1 α1 d γ1 rfl e1 g1 r1
      cases r1
      exact hQ _ _ rfl
    · intro σ1 H1 α1 ρ1 γ1 h1
      exact h1.elim
    · intro σ1 H1 α1 ρ1 γ1 h1
      exact h1.elim
theorem pk_never {P : Program} {w : World} {K : Frag} {mg : Str → Option Value} {base : Heap} {k : Nat} {a : Str × Option Str} {x qual : Str} {params : Arguments} {body : List Stmt} {scope : Scope} {dvs : List V} {kws : List (Str × V)} {N ps : List Str}
    (F : ∃ fd, FunD K x qual params body scope dvs kws (He.fAd K a) fd) (sc : FnScope N ps scope) (hb : ∀ fd, FunD K x qual params body scope dvs kws (He.fAd K a) fd → Binds K fd ps []) : Pk P w K mg base (k + 1) a ps (fun _ _ _ _ => False) := by
  obtain ⟨fd, F⟩ := F
  exact ⟨fd, fnG_of F sc (fun vs H Q E ⟨_, _, _, _, _, _, _, h, _⟩ => h.elim) fun cdv A outer s0 H vs Q E room gd ⟨_, _, _, _, _, _, _, h, _⟩ => h.elim, F.kp, hb fd F⟩
end DL

set_option Elab.async false
set_option linter.all false
set_option maxRecDepth 100000
set_option maxHeartbeats 2000000
namespace DL
open PySem PySem.Spec PyProof.Rows L2

/-! ### dicts of the text's top, text keys -/
structure KVal (K : Frag) (x : Str) (kvs : List (Str × He.Dv)) : Prop where
  yes : ∀ p ∈ kvs, ∃ u, PySem.W.nsIn K (He.ga K x) p.1 = some (some u) ∧ RelV (p.2.v K) u
  no : ∀ z, z ∉ kvs.map (·.1) → PySem.W.nsIn K (He.ga K x) z = some none
theorem nsIn_none {K : Frag} {P : Params} {a : Addr} {ks : List Str} {z : Str} (h : He.dicW K a = some (He.keysIn P ks)) (hz : z ∉ ks) : PySem.W.nsIn K a z = some none := by
  unfold He.dicW at h
  unfold PySem.W.nsIn
  cases q : K.lookup a with
  | none => rw [q] at h; cases h
  | some o =>
    obtain ⟨oc, od, dt, osl⟩ := o
    rw [q] at h
    cases oc with
    | type c =>
      cases od with
      | none =>
        cases dt with
        | dict es n =>
          have h1 : (match decide (c = "dict") && (osl.isEmpty && !(a == sysModules)) with
            | true => some (es.toList.map He.keyOf)
            | false => none) = some (He.keysIn P ks) := h
          cases z1 : decide (c = "dict") && (osl.isEmpty && !(a == sysModules)) with
          | false => rw [z1] at h1; cases h1
          | true =>
            rw [z1] at h1
            have h2 : es.toList.map He.keyOf = He.keysIn P ks := Option.some.inj h1
            have hk : ∀ e ∈ es.toList, ∃ k ∈ ks, ∃ t, e.key = .str k t := by
              intro e he
              have h3 : He.keyOf e ∈ He.keysIn P ks := h2 ▸ List.mem_map_of_mem he
              unfold He.keysIn at h3
              obtain ⟨k, hk, e3⟩ := List.mem_map.mp h3
              unfold He.keyOf at e3
              split at e3
              · rename_i y t q2
                have := (Prod.mk.inj (Option.some.inj e3)).1
                exact ⟨k, hk, t, by rw [q2, this]⟩
              · cases e3
            show (match es.toList.find? (·.key.isStr z) with
              | some e => some (some e.val)
              | none => if es.toList.any (·.refKey) then none else some none) = some none
            have f1 : es.toList.find? (·.key.isStr z) = none := by
              rw [List.find?_eq_none]
              intro e he
              obtain ⟨k, hk1, t, e4⟩ := hk e he
              rw [e4]
              intro hh
              have : k = z := by
                first
                  | (simp [Value.isStr] at hh; exact hh)
                  | (simp [Value.isStr] at hh; exact hh.symm)
              exact hz (this ▸ hk1)
            have f2 : es.toList.any (·.refKey) = false := by
              rw [List.any_eq_false]
              intro e he
              obtain ⟨k, hk1, t, e4⟩ := hk e he
              simp [DictEntry.refKey, e4]
            rw [f1, f2]
            rfl
        | _ => cases h
      | some b => cases dt <;> cases h
    | _ => cases od <;> cases dt <;> cases h
theorem ktab_of {fa : List He.Fa} {fn : List He.DefD} {ts : List He.Tab} {w : World} {K : Frag} {x : Str} {kvs : List (Str × He.Dv)} (c : He.SaysT fa fn ts w K) (i : Nat) (h : ts[i]? = some ((fun K => He.ga K x), kvs.map (·.1)))
    (hv : He.valsB K (He.ga K x) kvs = true) : (∃ es n, KDict K w (He.ga K x) es n) ∧ KVal K x kvs := by
  have e : ts.map (fun t => He.dicW K (t.1 K)) = ts.map fun t => some (He.keysIn w.params t.2) := congrArg (fun z : He.AlT => z.2) c
  have e2 : (ts.map fun t => He.dicW K (t.1 K))[i]? = (ts.map fun t => some (He.keysIn w.params t.2))[i]? := by rw [e]
  rw [List.getElem?_map, List.getElem?_map, h] at e2
  have e3 : He.dicW K (He.ga K x) = some (He.keysIn w.params (kvs.map (·.1))) := Option.some.inj e2
  exact ⟨He.dicW_ok e3, fun p hp => He.valsB_ok hv hp, fun z hz => nsIn_none e3 hz⟩
/-- D[e] -/
def rKIx (K : Frag) (x : Str) : R2 := fun a b H Q => ∃ (z : Str) (u : Value) (v : V), a = .ref (He.ga K x) ∧ b = .str z ∧ PySem.W.nsIn K (He.ga K x) z = some (some u) ∧ RelV v u ∧ Q v H
theorem ix_kd {X : Cx} {x : Str} {es : Array DictEntry} {n : Nat} (D : KDict X.K X.w (He.ga X.K x) es n) : IxR X (rKIx X.K x) := by
  intro value slice pins s σ H x y v u Q I rx ry h hs
  obtain ⟨z, u0, v0, rfl, rfl, e, r, q⟩ := h
  cases rx
  obtain ⟨t, rfl⟩ := ry
  exact tail_any (kd_type D I) PySem.F.slot_dict_getitem.lookup (wpAny_getItem_of (PySem.strKind_is X.prog X.w z t) (PySem.W.mapOf_K (prog := X.prog) I.kIn D.at_ D.lit) (PySem.W.find_K D.at_ e) ⟨v0, H, I.tok _, r, q⟩) hs
/-- D.get(e, f) -/
def tKGet2 (K : Frag) (x : Str) (td ty tx : TE) : TE := fun σ H Q => td σ H fun a H1 => a = .ref (He.ga K x) ∧ ty σ H1 fun y H2 => tx σ H2 fun z H3 => ∃ s r, y = .str s ∧ PySem.W.nsIn K (He.ga K x) s = some r ∧ (∀ u, r = some u → ∃ v, RelV v u ∧ Q v H3) ∧ (r = none → Q z H3)
theorem pe_kget2 {X : Cx} {x : Str} {o e f : Expr} {td ty tx : TE} {apos cpos : Pos} (D : ∃ es n, KDict X.K X.w (He.ga X.K x) es n) (ho : PE X o td) (he : PE X e ty) (hf : PE X f tx) (m : M2 X o "get" apos e f cpos) : PE X (.Call (.Attribute o "get" apos) [e, f] [] cpos) (tKGet2 X.K x td ty tx) := by
  obtain ⟨es, n, D⟩ := D
  refine ⟨fun pins s σ H Q I h => ?_⟩
  refine wpAny_Call_method m.base m.few m.line PySem.F.plainAttrs_dict PySem.F.slot_dict_get PySem.F.type_dict_get (thn (ho.run pins s σ H _ I h) fun u s1 ⟨y, H1, I1, rx, ex, q1⟩ => ?_)
  subst ex
  obtain rfl : u = Value.ref (He.ga X.K x) := rx
  refine ⟨kd_type D I1, fun b hb => ?_, ?_⟩
  · cases hb
    exact ⟨_, I1.kIn _ _ D.at_, rfl⟩
  rw [m.trees]
  refine Calls.callWith_builtin rfl (Calls.evalArgs_plain (Calls.spliced_cons (thn (he.run pins s1 σ H1 _ I1 q1) fun iv s2 ⟨y, H2, I2, ry, q2⟩ =>
    Calls.spliced_cons (thn (hf.run pins s2 σ H2 _ I2 q2) fun fv s3 ⟨z, H3, I3, rz, st, r, ey, en, q3, q4⟩ => Calls.spliced_nil ?_))))
  subst ey
  obtain ⟨t, rfl⟩ := ry
  refine call_meetsIn PySem.F.slot_dict_get (kd_type D I3) PySem.F.entry_dict_get (PySem.F.args_dict_get_3 _ _ _) (meets_dict_get_default (strKind X.prog X.w) _ (PySem.strKind_is X.prog X.w st t) D.low fv) ⟨_, PySem.W.mapOf_K (prog := X.prog) I3.kIn D.at_ D.lit, ?_⟩
  rw [PySem.W.find_K D.at_ en]
  cases r with
  | none => exact ⟨z, H3, I3.tok _, rz, q4 rfl⟩
  | some u =>
    obtain ⟨v, rv, q5⟩ := q3 u rfl
    exact ⟨v, H3, I3.tok _, rv, q5⟩

/-! ### .. by data: a table of ints -/
abbrev kvI (tb : List (List Nat × Int)) : List (Str × He.Dv) := tb.map fun p => (S p.1, .int p.2)
section
variable {K : Frag} {ρ : Env} {γ : Ga} {Q : QD} {x : Str} {tb : List (List Nat × Int)}
theorem look_some : ∀ {tb : List (List Nat × Int)} {w : List Nat} {i : Int}, tb.lookup w = some i → (S w, (He.Dv.int i)) ∈ kvI tb
  | [], w, i, h => by cases h
  | (a, b) :: r, w, i, h => by
    rw [List.lookup_cons] at h
    by_cases e : (w == a) = true
    · rw [e] at h
      cases h
      rw [beq_iff_eq] at e
      subst e
      exact List.mem_cons_self
    · rw [Bool.not_eq_true] at e
      rw [e] at h
      exact List.mem_cons_of_mem _ (look_some h)
theorem look_none : ∀ {tb : List (List Nat × Int)} {w : List Nat}, tb.lookup w = none → S w ∉ (kvI tb).map (·.1)
  | [], w, h => by simp
  | (a, b) :: r, w, h => by
    rw [List.lookup_cons] at h
    by_cases e : (w == a) = true
    · rw [e] at h; cases h
    · rw [Bool.not_eq_true] at e
      rw [e] at h
      intro hm
      rcases List.mem_cons.mp hm with hm | hm
      · have : w = a := S_inj.mp hm
        rw [this] at e
        simp at e
      · exact look_none h hm
def dOr : Option Int → D → D
  | some i, _ => .int i
  | none, z => z
theorem rk_ix {w : List Nat} {i : Int} (T : KVal K x (kvI tb)) (h : tb.lookup w = some i) (q : Q (.int i) γ) : dR2 K (rKIx K x) (.ref (He.ga K x)) (.str (S w)) γ Q := fun H α a b k g r1 r2 wv => by
  cases r1; cases r2
  obtain ⟨u, h1, h2⟩ := T.yes _ (look_some h)
  exact ⟨S w, u, _, rfl, rfl, h1, h2, wv _ H α _ γ q g.refl g (.int i)⟩
theorem de_kget2 {td ty tx : TE} (T : KVal K x (kvI tb)) (h : dE K td ρ γ fun d γ1 => d = .ref (He.ga K x) ∧ dE K ty ρ γ1 fun y γ2 => dE K tx ρ γ2 fun z γ3 => ∃ w, y = .str (S w) ∧ Q (dOr (tb.lookup w) z) γ3) : dE K (tKGet2 K x td ty tx) ρ γ Q := fun σ H α q r g wv =>
  h σ H α _ r g fun v H1 α1 d γ1 ⟨ed, h1⟩ e1 g1 r1 => by
    subst ed
    cases r1
    refine ⟨rfl, h1 σ H1 α1 _ (r.mono e1) g1 fun y H2 α2 yd γ2 h2 e2 g2 r2 => h2 σ H2 α2 _ ((r.mono e1).mono e2) g2 fun z H3 α3 zd γ3 ⟨w, ey, hq⟩ e3 g3 r3 => ?_⟩
    subst ey
    cases r2
    cases hl : tb.lookup w with
    | none =>
      rw [hl] at hq
      exact ⟨_, none, rfl, T.no _ (look_none hl), (fun u hu => by cases hu), fun _ => wv _ H3 α3 _ γ3 hq ((e1.trans e2).trans e3) g3 r3⟩
    | some i =>
      rw [hl] at hq
      obtain ⟨u, h4, h5⟩ := T.yes _ (look_some hl)
      refine ⟨_, some u, rfl, h4, fun u' hu => ?_, fun hh => by cases hh⟩
      cases hu
      exact ⟨_, h5, wv _ H3 α3 _ γ3 hq ((e1.trans e2).trans e3) g3 (.int i)⟩
end
end DL

set_option Elab.async false
set_option linter.all false
set_option maxRecDepth 100000
set_option maxHeartbeats 2000000
namespace DL
open PySem PySem.Spec PyProof.Rows L2
/-! ### what the program's functions compute: names, numbers, tokens, the parser of expressions -/
def LET : List Nat := [97, 98, 99, 100, 101, 102, 103, 104, 105, 106, 107, 108, 109, 110, 111, 112, 113, 114, 115, 116, 117, 118, 119, 120, 121, 122]
def FIG : List Nat := [48, 49, 50, 51, 52, 53, 54, 55, 56, 57]
def RESV : List (List Nat) := [[97, 110, 100], [99, 104, 101, 99, 107, 112, 111, 105, 110, 116], [101, 108, 115, 101], [101, 110, 100], [105, 102], [105, 110, 112, 117, 116], [109, 111, 100], [110, 111, 116], [111, 114], [112, 114, 111, 99, 101, 115, 115], [114, 101, 99, 101, 105, 118, 101], [115, 101, 110, 100], [115, 101, 116], [116, 97, 107, 101], [119, 104, 105, 108, 101]]
def WRDS : List (List Nat) := [[97, 110, 100], [109, 111, 100], [110, 111, 116], [111, 114]]
def SGNS : List (List Nat) := [[60, 61], [62, 61], [33, 61], [47, 47], [43], [45], [42], [40], [41], [91], [93], [61], [60], [62]]
def isName (l : List Nat) : Bool := decide (1 ≤ l.length) && decide (l.length ≤ 8) && !decide (l ∈ RESV) && l.all fun c => decide (c ∈ LET)
def isNum (l : List Nat) : Bool := decide (0 < l.length) && decide (l.length ≤ 30) && (l.all fun c => decide (c ∈ FIG)) && (decide (l = [48]) || !decide (l.head? = some 48))
def runOf (signs r : List Nat) : List Nat := r.takeWhile fun c => decide (c ∈ signs)
inductive Kd where
  | sign | name | integer | odd | fin
  deriving DecidableEq
def Kd.c : Kd → List Nat
  | .sign => [115, 105, 103, 110]
  | .name => [110, 97, 109, 101]
  | .integer => [105, 110, 116, 101, 103, 101, 114]
  | .odd => [111, 100, 100]
  | .fin => [101, 110, 100]
structure Tkn where
  k : Kd
  v : List Nat
  p : Nat
def Tkn.d (t : Tkn) : D := .tup [.str (S t.k.c), .str (S t.v), .int t.p]
/-- the token at the beginning of r, which stands at s; and its length -/
def tokA (r : List Nat) (s : Nat) : Tkn × Nat := match r with
  | [] => (⟨.odd, [], s⟩, 1)
  | c :: _ =>
    if c ∈ LET then (⟨if runOf LET r ∈ WRDS then .sign else if isName (runOf LET r) then .name else .odd, runOf LET r, s⟩, (runOf LET r).length)
    else if c ∈ FIG then (⟨if isNum (runOf FIG r) then .integer else .odd, runOf FIG r, s⟩, (runOf FIG r).length)
    else match SGNS.find? fun g => decide (r.take g.length = g) with
      | some g => (⟨.sign, g, s⟩, g.length)
      | none => (⟨.odd, [c], s⟩, 1)
def tokL : Nat → List Nat → Nat → List Tkn
  | 0, _, _ => []
  | n + 1, r, s => match r.drop (runOf [32] r).length with
    | [] => [⟨.fin, [], s + (runOf [32] r).length⟩]
    | c :: r' =>
      if (tokA (c :: r') (s + (runOf [32] r).length)).1.k = .odd then [(tokA (c :: r') (s + (runOf [32] r).length)).1]
      else (tokA (c :: r') (s + (runOf [32] r).length)).1 :: tokL n ((c :: r').drop (tokA (c :: r') (s + (runOf [32] r).length)).2) (s + (runOf [32] r).length + (tokA (c :: r') (s + (runOf [32] r).length)).2)
def toks (l : List Nat) : List Tkn := tokL (l.length + 1) l 0
abbrev PR := Option (Except Nat (D × List Tkn))
def sees (t : Tkn) (gs : List (List Nat)) : Bool := decide (t.k = .sign) && decide (t.v ∈ gs)
def pLoop (f : List Tkn → PR) (ops : List (List Nat)) : Nat → D → List Tkn → PR
  | 0, _, _ => none
  | _ + 1, _, [] => none
  | m + 1, d, t :: r => if sees t ops then (match f r with
      | some (.ok (d2, r2)) => pLoop f ops m (.tup [.str (S t.v), d, d2]) r2
      | x => x) else some (.ok (d, t :: r))
def MUL : List (List Nat) := [[42], [47, 47], [109, 111, 100]]
def ADD : List (List Nat) := [[43], [45]]
def pT (f : List Tkn → PR) (ts : List Tkn) : PR := match f ts with
  | some (.ok (d, r)) => pLoop f MUL (r.length + 1) d r
  | x => x
def pE (f : List Tkn → PR) (ts : List Tkn) : PR := match pT f ts with
  | some (.ok (d, r)) => pLoop (pT f) ADD (r.length + 1) d r
  | x => x
def sNegate : List Nat := [110, 101, 103, 97, 116, 101]
def sNumber : List Nat := [110, 117, 109, 98, 101, 114]
def sVariable : List Nat := [118, 97, 114, 105, 97, 98, 108, 101]
def pLeaf (t : Tkn) (r : List Tkn) : PR :=
  if t.k = .integer then (match PySem.intText? (S t.v) with
    | some n => if t.v.length ≤ 640 then some (.ok (.tup [.str (S sNumber), .int n], r)) else none
    | none => none)
  else if t.k = .name then some (.ok (.tup [.str (S sVariable), .str (S t.v)], r))
  else some (.error t.p)
def pSign (gs : List (List Nat)) (d : D) : List Tkn → PR
  | [] => none
  | t :: r => if sees t gs then some (.ok (d, r)) else some (.error t.p)
def pFac : Nat → List Tkn → PR
  | 0, _ => none
  | _ + 1, [] => none
  | n + 1, t :: r =>
    if sees t [[45]] then (match pFac n r with
      | some (.ok (d, r2)) => some (.ok (.tup [.str (S sNegate), d], r2))
      | x => x)
    else if sees t [[40]] then (match pE (pFac n) r with
      | some (.ok (d, r2)) => pSign [[41]] d r2
      | x => x)
    else pLeaf t r
/-- what is left is an end of what was there -/
theorem pLoop_suf {f : List Tkn → PR} {ops : List (List Nat)} (hf : ∀ ts d r, f ts = some (.ok (d, r)) → r <:+ ts) : ∀ m d ts d' r, pLoop f ops m d ts = some (.ok (d', r)) → r <:+ ts
  | 0, _, _, _, _, h => by cases h
  | _ + 1, _, [], _, _, h => by cases h
  | m + 1, d, t :: r, d', r', h => by
    unfold pLoop at h
    split at h
    · split at h
      · rename_i d2 r2 e
        exact ((pLoop_suf hf m _ _ _ _ h).trans (hf _ _ _ e)).trans (List.suffix_cons _ _)
      · rename_i x _
        exact (hf _ _ _ h).trans (List.suffix_cons _ _)
    · cases h
      exact List.suffix_refl _
theorem pT_suf {f : List Tkn → PR} (hf : ∀ ts d r, f ts = some (.ok (d, r)) → r <:+ ts) : ∀ ts d r, pT f ts = some (.ok (d, r)) → r <:+ ts := fun ts d r h => by
  unfold pT at h
  split at h
  · rename_i d1 r1 e
    exact (pLoop_suf hf _ _ _ _ _ h).trans (hf _ _ _ e)
  · exact hf _ _ _ h
theorem pE_suf {f : List Tkn → PR} (hf : ∀ ts d r, f ts = some (.ok (d, r)) → r <:+ ts) : ∀ ts d r, pE f ts = some (.ok (d, r)) → r <:+ ts := fun ts d r h => by
  unfold pE at h
  split at h
  · rename_i d1 r1 e
    exact (pLoop_suf (pT_suf hf) _ _ _ _ _ h).trans (pT_suf hf _ _ _ e)
  · exact pT_suf hf _ _ _ h
theorem pSign_suf {gs : List (List Nat)} {d d' : D} : ∀ {ts r : List Tkn}, pSign gs d ts = some (.ok (d', r)) → r <:+ ts
  | [], _, h => by cases h
  | t :: ts, r, h => by
    by_cases c : sees t gs = true
    · rw [pSign, if_pos c] at h
      cases h
      exact List.suffix_cons _ _
    · rw [pSign, if_neg c] at h
      cases h
theorem pFac_suf : ∀ n ts d r, pFac n ts = some (.ok (d, r)) → r <:+ ts
  | 0, _, _, _, h => by cases h
  | _ + 1, [], _, _, h => by cases h
  | n + 1, t :: ts, d, r, h => by
    unfold pFac at h
    split at h
    · split at h
      · rename_i d2 r2 e
        cases h
        exact (pFac_suf n _ _ _ e).trans (List.suffix_cons _ _)
      · exact (pFac_suf n _ _ _ h).trans (List.suffix_cons _ _)
    · split at h
      · split at h
        · rename_i d2 r2 e
          have s := pE_suf (pFac_suf n) _ _ _ e
          exact ((pSign_suf h).trans s).trans (List.suffix_cons _ _)
        · exact (pE_suf (pFac_suf n) _ _ _ h).trans (List.suffix_cons _ _)
      · unfold pLeaf at h
        split at h
        · split at h
          · split at h
            · cases h; exact List.suffix_cons _ _
            · cases h
          · cases h
        · split at h
          · cases h; exact List.suffix_cons _ _
          · cases h
/-! ### conditions -/
def pL (f : List Tkn → PR) (ops : List (List Nat)) (ts : List Tkn) : PR := match f ts with
  | some (.ok (d, r)) => pLoop f ops (r.length + 1) d r
  | x => x
def sAnd : List Nat := [97, 110, 100]
def sOr : List Nat := [111, 114]
def sNot : List Nat := [110, 111, 116]
def CMPS : List (List Nat) := [[61], [33, 61], [60], [60, 61], [62], [62, 61]]
def pJ (f : List Tkn → PR) : List Tkn → PR := pL f [sAnd]
def pC (f : List Tkn → PR) : List Tkn → PR := pL (pJ f) [sOr]
def pCmp (fe : List Tkn → PR) (d : D) : List Tkn → PR
  | [] => none
  | t :: r => if sees t CMPS then (match fe r with
      | some (.ok (d2, r2)) => some (.ok (.tup [.str (S t.v), d, d2], r2))
      | x => x) else some (.error t.p)
def pNeg (fe : List Tkn → PR) : Nat → List Tkn → PR
  | 0, _ => none
  | _ + 1, [] => none
  | n + 1, t :: r =>
    if sees t [sNot] then (match pNeg fe n r with
      | some (.ok (d, r2)) => some (.ok (.tup [.str (S sNot), d], r2))
      | x => x)
    else if sees t [[91]] then (match pC (pNeg fe n) r with
      | some (.ok (d, r2)) => pSign [[93]] d r2
      | x => x)
    else match fe (t :: r) with
      | some (.ok (d, r2)) => pCmp fe d r2
      | x => x
theorem pL_suf {f : List Tkn → PR} {ops : List (List Nat)} (hf : ∀ ts d r, f ts = some (.ok (d, r)) → r <:+ ts) : ∀ ts d r, pL f ops ts = some (.ok (d, r)) → r <:+ ts := fun ts d r h => by
  unfold pL at h
  split at h
  · rename_i d1 r1 e
    exact (pLoop_suf hf _ _ _ _ _ h).trans (hf _ _ _ e)
  · exact hf _ _ _ h
theorem pCmp_s {fe : List Tkn → PR} {d : D} {t : Tkn} {r : List Tkn} : pCmp fe d (t :: r) = if sees t CMPS then (match fe r with
      | some (.ok (d2, r2)) => some (.ok (.tup [.str (S t.v), d, d2], r2))
      | x => x) else some (.error t.p) := rfl
theorem pCmp_suf {fe : List Tkn → PR} (hf : ∀ ts d r, fe ts = some (.ok (d, r)) → r <:+ ts) : ∀ d ts d' r, pCmp fe d ts = some (.ok (d', r)) → r <:+ ts
  | d, [], d', r, h => by cases h
  | d, t :: ts, d', r, h => by
    rw [pCmp_s] at h
    by_cases c1 : sees t CMPS = true
    · rw [if_pos c1] at h
      cases e : fe ts with
      | none => rw [e] at h; cases h
      | some o =>
        rw [e] at h
        cases o with
        | error p => cases h
        | ok o =>
          cases h
          exact (hf _ _ _ e).trans (List.suffix_cons _ _)
    · rw [if_neg c1] at h
      cases h
theorem pNeg_s {fe : List Tkn → PR} {n : Nat} {t : Tkn} {r : List Tkn} : pNeg fe (n + 1) (t :: r) =
    if sees t [sNot] then (match pNeg fe n r with
      | some (.ok (d, r2)) => some (.ok (.tup [.str (S sNot), d], r2))
      | x => x)
    else if sees t [[91]] then (match pC (pNeg fe n) r with
      | some (.ok (d, r2)) => pSign [[93]] d r2
      | x => x)
    else match fe (t :: r) with
      | some (.ok (d, r2)) => pCmp fe d r2
      | x => x := rfl
theorem pNeg_suf {fe : List Tkn → PR} (hf : ∀ ts d r, fe ts = some (.ok (d, r)) → r <:+ ts) : ∀ n ts d r, pNeg fe n ts = some (.ok (d, r)) → r <:+ ts
  | 0, _, _, _, h => by cases h
  | _ + 1, [], _, _, h => by cases h
  | n + 1, t :: ts, d, r, h => by
    rw [pNeg_s] at h
    by_cases c1 : sees t [sNot] = true
    · rw [if_pos c1] at h
      cases e : pNeg fe n ts with
      | none => rw [e] at h; cases h
      | some o =>
        rw [e] at h
        cases o with
        | error p => cases h
        | ok o =>
          cases h
          exact (pNeg_suf hf n _ _ _ e).trans (List.suffix_cons _ _)
    · rw [if_neg c1] at h
      by_cases c2 : sees t [[91]] = true
      · rw [if_pos c2] at h
        cases e : pC (pNeg fe n) ts with
        | none => rw [e] at h; cases h
        | some o =>
          rw [e] at h
          cases o with
          | error p => cases h
          | ok o => exact ((pSign_suf h).trans (pL_suf (pL_suf (pNeg_suf hf n)) _ _ _ e)).trans (List.suffix_cons _ _)
      · rw [if_neg c2] at h
        cases e : fe (t :: ts) with
        | none => rw [e] at h; cases h
        | some o =>
          rw [e] at h
          cases o with
          | error p => cases h
          | ok o => exact (pCmp_suf hf _ _ _ _ h).trans (hf _ _ _ e)
end DL

set_option Elab.async false
set_option linter.all false
set_option maxRecDepth 100000
set_option maxHeartbeats 4000000
namespace K07
open PySem PySem.Spec PyProof.Rows L2 DL
def top (i : Nat) : Stmt := PySem.Challenge.pw_rerunrein_k07_canonical_texts.main.body.getD i (.Pass ⟨0, 0, 0, 0⟩)
def d_is_name : He.DefD := ⟨("is_name", none), "is_name", "is_name", defArgs (top 6), defBody (top 6), defScope (top 6), [], []⟩
def d_is_number : He.DefD := ⟨("is_number", none), "is_number", "is_number", defArgs (top 14), defBody (top 14), defScope (top 14), [], []⟩
def d_end_of_run : He.DefD := ⟨("end_of_run", none), "end_of_run", "end_of_run", defArgs (top 15), defBody (top 15), defScope (top 15), [], []⟩
def d_token_at : He.DefD := ⟨("token_at", none), "token_at", "token_at", defArgs (top 16), defBody (top 16), defScope (top 16), [], []⟩
def d_tokens : He.DefD := ⟨("tokens", none), "tokens", "tokens", defArgs (top 17), defBody (top 17), defScope (top 17), [], []⟩
def d_Parser_init : He.DefD := ⟨("Parser", some "__init__"), "__init__", "Parser.__init__", defArgs (inClass (top 21) 0), defBody (inClass (top 21) 0), defScope (inClass (top 21) 0), [], []⟩
def d_Parser_sees : He.DefD := ⟨("Parser", some "sees"), "sees", "Parser.sees", defArgs (inClass (top 21) 1), defBody (inClass (top 21) 1), defScope (inClass (top 21) 1), [], []⟩
def d_Parser_take : He.DefD := ⟨("Parser", some "take"), "take", "Parser.take", defArgs (inClass (top 21) 2), defBody (inClass (top 21) 2), defScope (inClass (top 21) 2), [], []⟩
def d_Parser_refuse : He.DefD := ⟨("Parser", some "refuse"), "refuse", "Parser.refuse", defArgs (inClass (top 21) 3), defBody (inClass (top 21) 3), defScope (inClass (top 21) 3), [], []⟩
def d_Parser_take_sign : He.DefD := ⟨("Parser", some "take_sign"), "take_sign", "Parser.take_sign", defArgs (inClass (top 21) 4), defBody (inClass (top 21) 4), defScope (inClass (top 21) 4), [], []⟩
def d_Parser_finish : He.DefD := ⟨("Parser", some "finish"), "finish", "Parser.finish", defArgs (inClass (top 21) 5), defBody (inClass (top 21) 5), defScope (inClass (top 21) 5), [], []⟩
def d_Parser_condition : He.DefD := ⟨("Parser", some "condition"), "condition", "Parser.condition", defArgs (inClass (top 21) 6), defBody (inClass (top 21) 6), defScope (inClass (top 21) 6), [], []⟩
def d_Parser_conjunction : He.DefD := ⟨("Parser", some "conjunction"), "conjunction", "Parser.conjunction", defArgs (inClass (top 21) 7), defBody (inClass (top 21) 7), defScope (inClass (top 21) 7), [], []⟩
def d_Parser_negation : He.DefD := ⟨("Parser", some "negation"), "negation", "Parser.negation", defArgs (inClass (top 21) 8), defBody (inClass (top 21) 8), defScope (inClass (top 21) 8), [], []⟩
def d_Parser_expression : He.DefD := ⟨("Parser", some "expression"), "expression", "Parser.expression", defArgs (inClass (top 21) 9), defBody (inClass (top 21) 9), defScope (inClass (top 21) 9), [], []⟩
def d_Parser_term : He.DefD := ⟨("Parser", some "term"), "term", "Parser.term", defArgs (inClass (top 21) 10), defBody (inClass (top 21) 10), defScope (inClass (top 21) 10), [], []⟩
def d_Parser_factor : He.DefD := ⟨("Parser", some "factor"), "factor", "Parser.factor", defArgs (inClass (top 21) 11), defBody (inClass (top 21) 11), defScope (inClass (top 21) 11), [], []⟩
def d_parse_expression : He.DefD := ⟨("parse_expression", none), "parse_expression", "parse_expression", defArgs (top 22), defBody (top 22), defScope (top 22), [], []⟩
def d_parse_condition : He.DefD := ⟨("parse_condition", none), "parse_condition", "parse_condition", defArgs (top 23), defBody (top 23), defScope (top 23), [], []⟩
def d_is_of_conditions : He.DefD := ⟨("is_of_conditions", none), "is_of_conditions", "is_of_conditions", defArgs (top 24), defBody (top 24), defScope (top 24), [], []⟩
def d_bracketed : He.DefD := ⟨("bracketed", none), "bracketed", "bracketed", defArgs (top 25), defBody (top 25), defScope (top 25), [], []⟩
def d_written : He.DefD := ⟨("written", none), "written", "written", defArgs (top 26), defBody (top 26), defScope (top 26), [], []⟩
def d_L_draw : He.DefD := ⟨("_law_draw", none), "_law_draw", "_law_draw", defArgs (top 28), defBody (top 28), defScope (top 28), [], []⟩
def d_L_reserved : He.DefD := ⟨("_law_reserved", none), "_law_reserved", "_law_reserved", defArgs (top 29), defBody (top 29), defScope (top 29), [], []⟩
def d_L_name : He.DefD := ⟨("_law_name", none), "_law_name", "_law_name", defArgs (top 30), defBody (top 30), defScope (top 30), [], []⟩
def d_L_names : He.DefD := ⟨("_law_names", none), "_law_names", "_law_names", defArgs (top 31), defBody (top 31), defScope (top 31), [], []⟩
def d_L_number : He.DefD := ⟨("_law_number", none), "_law_number", "_law_number", defArgs (top 32), defBody (top 32), defScope (top 32), [], []⟩
def d_L_sum : He.DefD := ⟨("_law_sum", none), "_law_sum", "_law_sum", defArgs (top 33), defBody (top 33), defScope (top 33), [], []⟩
def d_L_truth : He.DefD := ⟨("_law_truth", none), "_law_truth", "_law_truth", defArgs (top 34), defBody (top 34), defScope (top 34), [], []⟩
def d_L_rank : He.DefD := ⟨("_law_rank", none), "_law_rank", "_law_rank", defArgs (top 35), defBody (top 35), defScope (top 35), [], []⟩
def d_L_tokens : He.DefD := ⟨("_law_tokens", none), "_law_tokens", "_law_tokens", defArgs (top 36), defBody (top 36), defScope (top 36), [], []⟩
def d_L_canonical : He.DefD := ⟨("_law_canonical", none), "_law_canonical", "_law_canonical", defArgs (top 37), defBody (top 37), defScope (top 37), [], []⟩
def d_L_grows : He.DefD := ⟨("_law_grows", none), "_law_grows", "_law_grows", defArgs (top 38), defBody (top 38), defScope (top 38), [], []⟩
def d_L_text : He.DefD := ⟨("_law_text", none), "_law_text", "_law_text", defArgs (top 39), defBody (top 39), defScope (top 39), [], []⟩
def d_L_is_within : He.DefD := ⟨("_law_is_within", none), "_law_is_within", "_law_is_within", defArgs (top 40), defBody (top 40), defScope (top 40), [], []⟩
def d_L_parsed : He.DefD := ⟨("_law_parsed", none), "_law_parsed", "_law_parsed", defArgs (top 41), defBody (top 41), defScope (top 41), [], []⟩
def d_L_listed : He.DefD := ⟨("_law_listed", none), "_law_listed", "_law_listed", defArgs (top 42), defBody (top 42), defScope (top 42), [], []⟩
def d_law : He.DefD := ⟨("law", none), "law", "law", defArgs (top 43), defBody (top 43), defScope (top 43), [], []⟩
def fn : List He.DefD := [d_is_name, d_is_number, d_end_of_run, d_token_at, d_tokens, d_Parser_init, d_Parser_sees, d_Parser_take, d_Parser_refuse, d_Parser_take_sign, d_Parser_finish, d_Parser_condition, d_Parser_conjunction, d_Parser_negation, d_Parser_expression, d_Parser_term, d_Parser_factor, d_parse_expression, d_parse_condition, d_is_of_conditions, d_bracketed, d_written, d_L_draw, d_L_reserved, d_L_name, d_L_names, d_L_number, d_L_sum, d_L_truth, d_L_rank, d_L_tokens, d_L_canonical, d_L_grows, d_L_text, d_L_is_within, d_L_parsed, d_L_listed, d_law]
def RANKS_T : List (List Nat × Int) := [([111, 114], 1), ([97, 110, 100], 2), ([110, 111, 116], 3), ([43], 1), ([45], 1), ([42], 2), ([47, 47], 2), ([109, 111, 100], 2), ([110, 101, 103, 97, 116, 101], 3)]
def ts : List He.Tab := [((fun K => He.ga K "RANKS"), (kvI RANKS_T).map (·.1))]
def fa : List He.Fa := [.str "LETTERS" "abcdefghijklmnopqrstuvwxyz",
  .glo "RESERVED",
  .int "LONGEST_NAME" 8,
  .int "MOST_DIGITS" 30,
  .glo "frozen",
  .glo "is_name",
  .glo "RerunError",
  .glo "BadText",
  .str "FIGURES" "0123456789",
  .glo "WORDS",
  .glo "SIGNS",
  .glo "is_number",
  .glo "end_of_run",
  .glo "token_at",
  .glo "tokens",
  .glo "COMPARISONS",
  .glo "RANKS",
  .glo "Parser",
  .cls "Parser",
  .mkr "Parser",
  .meth "Parser" "sees",
  .meth "Parser" "take",
  .meth "Parser" "refuse",
  .meth "Parser" "take_sign",
  .meth "Parser" "finish",
  .meth "Parser" "condition",
  .meth "Parser" "conjunction",
  .meth "Parser" "negation",
  .meth "Parser" "expression",
  .meth "Parser" "term",
  .meth "Parser" "factor",
  .noat "Parser" "place",
  .noat "Parser" "rest",
  .glo "parse_expression",
  .glo "parse_condition",
  .glo "is_of_conditions",
  .glo "bracketed",
  .glo "written",
  .glo "_law_draw",
  .glo "_law_reserved",
  .glo "_law_name",
  .glo "_law_names",
  .glo "_law_number",
  .glo "_law_sum",
  .glo "_law_truth",
  .glo "_law_rank",
  .glo "_law_tokens",
  .glo "_law_canonical",
  .glo "_law_grows",
  .glo "_law_text",
  .glo "_law_is_within",
  .glo "_law_parsed",
  .glo "_law_listed",
  .glo "law",
  .free "all",
  .free "int",
  .free "isinstance",
  .free "len",
  .free "list",
  .free "max",
  .free "range",
  .free "str",
  .free "tuple"]
def ex : Frag → Bool := fun K => (He.tupB K "RESERVED" [.str "and", .str "checkpoint", .str "else", .str "end", .str "if", .str "input", .str "mod", .str "not", .str "or", .str "process", .str "receive", .str "send", .str "set", .str "take", .str "while"] && (He.tupB K "WORDS" [.str "and", .str "mod", .str "not", .str "or"] && (He.tupB K "SIGNS" [.str "<=", .str ">=", .str "!=", .str "//", .str "+", .str "-", .str "*", .str "(", .str ")", .str "[", .str "]", .str "=", .str "<", .str ">"] && (He.tupB K "COMPARISONS" [.str "=", .str "!=", .str "<", .str "<=", .str ">", .str ">="] && (He.valsB K (He.ga K "RANKS") (kvI RANKS_T) && true)))))
def RESERVED_L : List (List Nat) := [[97, 110, 100], [99, 104, 101, 99, 107, 112, 111, 105, 110, 116], [101, 108, 115, 101], [101, 110, 100], [105, 102], [105, 110, 112, 117, 116], [109, 111, 100], [110, 111, 116], [111, 114], [112, 114, 111, 99, 101, 115, 115], [114, 101, 99, 101, 105, 118, 101], [115, 101, 110, 100], [115, 101, 116], [116, 97, 107, 101], [119, 104, 105, 108, 101]]
def WORDS_L : List (List Nat) := [[97, 110, 100], [109, 111, 100], [110, 111, 116], [111, 114]]
def SIGNS_L : List (List Nat) := [[60, 61], [62, 61], [33, 61], [47, 47], [43], [45], [42], [40], [41], [91], [93], [61], [60], [62]]
def COMPARISONS_L : List (List Nat) := [[61], [33, 61], [60], [60, 61], [62], [62, 61]]
structure Tx (K : Frag) (mg : Str → Option Value) : Prop where
  c_LETTERS : ∃ t, mg "LETTERS" = some (.str "abcdefghijklmnopqrstuvwxyz" t)
  g_RESERVED : mg "RESERVED" = some (.ref (He.ga K "RESERVED"))
  c_LONGEST_NAME : ∃ t, mg "LONGEST_NAME" = some (.int 8 t)
  c_MOST_DIGITS : ∃ t, mg "MOST_DIGITS" = some (.int 30 t)
  g_frozen : mg "frozen" = some (.ref (He.ga K "frozen"))
  g_is_name : mg "is_name" = some (.ref (He.ga K "is_name"))
  g_RerunError : mg "RerunError" = some (.ref (He.ga K "RerunError"))
  g_BadText : mg "BadText" = some (.ref (He.ga K "BadText"))
  c_FIGURES : ∃ t, mg "FIGURES" = some (.str "0123456789" t)
  g_WORDS : mg "WORDS" = some (.ref (He.ga K "WORDS"))
  g_SIGNS : mg "SIGNS" = some (.ref (He.ga K "SIGNS"))
  g_is_number : mg "is_number" = some (.ref (He.ga K "is_number"))
  g_end_of_run : mg "end_of_run" = some (.ref (He.ga K "end_of_run"))
  g_token_at : mg "token_at" = some (.ref (He.ga K "token_at"))
  g_tokens : mg "tokens" = some (.ref (He.ga K "tokens"))
  g_COMPARISONS : mg "COMPARISONS" = some (.ref (He.ga K "COMPARISONS"))
  g_RANKS : mg "RANKS" = some (.ref (He.ga K "RANKS"))
  g_Parser : mg "Parser" = some (.ref (He.ga K "Parser"))
  cl_Parser : Cls K (He.ga K "Parser")
  mk_Parser : Mk K (He.ga K "Parser") (He.ma K (He.ga K "Parser") "__init__")
  me_Parser_sees : Meth K (He.ga K "Parser") "sees" (He.ma K (He.ga K "Parser") "sees")
  me_Parser_take : Meth K (He.ga K "Parser") "take" (He.ma K (He.ga K "Parser") "take")
  me_Parser_refuse : Meth K (He.ga K "Parser") "refuse" (He.ma K (He.ga K "Parser") "refuse")
  me_Parser_take_sign : Meth K (He.ga K "Parser") "take_sign" (He.ma K (He.ga K "Parser") "take_sign")
  me_Parser_finish : Meth K (He.ga K "Parser") "finish" (He.ma K (He.ga K "Parser") "finish")
  me_Parser_condition : Meth K (He.ga K "Parser") "condition" (He.ma K (He.ga K "Parser") "condition")
  me_Parser_conjunction : Meth K (He.ga K "Parser") "conjunction" (He.ma K (He.ga K "Parser") "conjunction")
  me_Parser_negation : Meth K (He.ga K "Parser") "negation" (He.ma K (He.ga K "Parser") "negation")
  me_Parser_expression : Meth K (He.ga K "Parser") "expression" (He.ma K (He.ga K "Parser") "expression")
  me_Parser_term : Meth K (He.ga K "Parser") "term" (He.ma K (He.ga K "Parser") "term")
  me_Parser_factor : Meth K (He.ga K "Parser") "factor" (He.ma K (He.ga K "Parser") "factor")
  na_Parser_place : NoAttr K (He.ga K "Parser") "place"
  na_Parser_rest : NoAttr K (He.ga K "Parser") "rest"
  g_parse_expression : mg "parse_expression" = some (.ref (He.ga K "parse_expression"))
  g_parse_condition : mg "parse_condition" = some (.ref (He.ga K "parse_condition"))
  g_is_of_conditions : mg "is_of_conditions" = some (.ref (He.ga K "is_of_conditions"))
  g_bracketed : mg "bracketed" = some (.ref (He.ga K "bracketed"))
  g_written : mg "written" = some (.ref (He.ga K "written"))
  g_L_draw : mg "_law_draw" = some (.ref (He.ga K "_law_draw"))
  g_L_reserved : mg "_law_reserved" = some (.ref (He.ga K "_law_reserved"))
  g_L_name : mg "_law_name" = some (.ref (He.ga K "_law_name"))
  g_L_names : mg "_law_names" = some (.ref (He.ga K "_law_names"))
  g_L_number : mg "_law_number" = some (.ref (He.ga K "_law_number"))
  g_L_sum : mg "_law_sum" = some (.ref (He.ga K "_law_sum"))
  g_L_truth : mg "_law_truth" = some (.ref (He.ga K "_law_truth"))
  g_L_rank : mg "_law_rank" = some (.ref (He.ga K "_law_rank"))
  g_L_tokens : mg "_law_tokens" = some (.ref (He.ga K "_law_tokens"))
  g_L_canonical : mg "_law_canonical" = some (.ref (He.ga K "_law_canonical"))
  g_L_grows : mg "_law_grows" = some (.ref (He.ga K "_law_grows"))
  g_L_text : mg "_law_text" = some (.ref (He.ga K "_law_text"))
  g_L_is_within : mg "_law_is_within" = some (.ref (He.ga K "_law_is_within"))
  g_L_parsed : mg "_law_parsed" = some (.ref (He.ga K "_law_parsed"))
  g_L_listed : mg "_law_listed" = some (.ref (He.ga K "_law_listed"))
  g_law : mg "law" = some (.ref (He.ga K "law"))
  b_all : mg "all" = none
  b_int : mg "int" = none
  b_isinstance : mg "isinstance" = none
  b_len : mg "len" = none
  b_list : mg "list" = none
  b_max : mg "max" = none
  b_range : mg "range" = none
  b_str : mg "str" = none
  b_tuple : mg "tuple" = none
  u_RESERVED : He.tupB K "RESERVED" [.str "and", .str "checkpoint", .str "else", .str "end", .str "if", .str "input", .str "mod", .str "not", .str "or", .str "process", .str "receive", .str "send", .str "set", .str "take", .str "while"] = true
  u_WORDS : He.tupB K "WORDS" [.str "and", .str "mod", .str "not", .str "or"] = true
  u_SIGNS : He.tupB K "SIGNS" [.str "<=", .str ">=", .str "!=", .str "//", .str "+", .str "-", .str "*", .str "(", .str ")", .str "[", .str "]", .str "=", .str "<", .str ">"] = true
  u_COMPARISONS : He.tupB K "COMPARISONS" [.str "=", .str "!=", .str "<", .str "<=", .str ">", .str ">="] = true
  kv_RANKS : KVal K "RANKS" (kvI RANKS_T)
theorem tx {K : Frag} {h : Heap} {mg : Str → Option Value} (X : K.In h) (G : h.Ns mainGlobals mg) {w : World} (ct : He.SaysT fa fn ts w K) (m : ex K = true) : Tx K mg := by
  have c := ct.d
  obtain ⟨x0, m0⟩ := He.ba (show (_ && _) = true from m)
  obtain ⟨x1, m1⟩ := He.ba (show (_ && _) = true from m0)
  obtain ⟨x2, m2⟩ := He.ba (show (_ && _) = true from m1)
  obtain ⟨x3, m3⟩ := He.ba (show (_ && _) = true from m2)
  obtain ⟨x4, m4⟩ := He.ba (show (_ && _) = true from m3)
  exact ⟨He.str_ok X G (c.fact 0 (f := .str "LETTERS" "abcdefghijklmnopqrstuvwxyz") rfl),
    He.glo_ok X G (c.fact 1 (f := .glo "RESERVED") rfl),
    He.int_ok X G (c.fact 2 (f := .int "LONGEST_NAME" 8) rfl),
    He.int_ok X G (c.fact 3 (f := .int "MOST_DIGITS" 30) rfl),
    He.glo_ok X G (c.fact 4 (f := .glo "frozen") rfl),
    He.glo_ok X G (c.fact 5 (f := .glo "is_name") rfl),
    He.glo_ok X G (c.fact 6 (f := .glo "RerunError") rfl),
    He.glo_ok X G (c.fact 7 (f := .glo "BadText") rfl),
    He.str_ok X G (c.fact 8 (f := .str "FIGURES" "0123456789") rfl),
    He.glo_ok X G (c.fact 9 (f := .glo "WORDS") rfl),
    He.glo_ok X G (c.fact 10 (f := .glo "SIGNS") rfl),
    He.glo_ok X G (c.fact 11 (f := .glo "is_number") rfl),
    He.glo_ok X G (c.fact 12 (f := .glo "end_of_run") rfl),
    He.glo_ok X G (c.fact 13 (f := .glo "token_at") rfl),
    He.glo_ok X G (c.fact 14 (f := .glo "tokens") rfl),
    He.glo_ok X G (c.fact 15 (f := .glo "COMPARISONS") rfl),
    He.glo_ok X G (c.fact 16 (f := .glo "RANKS") rfl),
    He.glo_ok X G (c.fact 17 (f := .glo "Parser") rfl),
    He.cls_ok (c.fact 18 (f := .cls "Parser") rfl),
    He.mkr_ok (c.fact 19 (f := .mkr "Parser") rfl),
    He.meth_ok (c.fact 20 (f := .meth "Parser" "sees") rfl),
    He.meth_ok (c.fact 21 (f := .meth "Parser" "take") rfl),
    He.meth_ok (c.fact 22 (f := .meth "Parser" "refuse") rfl),
    He.meth_ok (c.fact 23 (f := .meth "Parser" "take_sign") rfl),
    He.meth_ok (c.fact 24 (f := .meth "Parser" "finish") rfl),
    He.meth_ok (c.fact 25 (f := .meth "Parser" "condition") rfl),
    He.meth_ok (c.fact 26 (f := .meth "Parser" "conjunction") rfl),
    He.meth_ok (c.fact 27 (f := .meth "Parser" "negation") rfl),
    He.meth_ok (c.fact 28 (f := .meth "Parser" "expression") rfl),
    He.meth_ok (c.fact 29 (f := .meth "Parser" "term") rfl),
    He.meth_ok (c.fact 30 (f := .meth "Parser" "factor") rfl),
    He.noat_ok (c.fact 31 (f := .noat "Parser" "place") rfl),
    He.noat_ok (c.fact 32 (f := .noat "Parser" "rest") rfl),
    He.glo_ok X G (c.fact 33 (f := .glo "parse_expression") rfl),
    He.glo_ok X G (c.fact 34 (f := .glo "parse_condition") rfl),
    He.glo_ok X G (c.fact 35 (f := .glo "is_of_conditions") rfl),
    He.glo_ok X G (c.fact 36 (f := .glo "bracketed") rfl),
    He.glo_ok X G (c.fact 37 (f := .glo "written") rfl),
    He.glo_ok X G (c.fact 38 (f := .glo "_law_draw") rfl),
    He.glo_ok X G (c.fact 39 (f := .glo "_law_reserved") rfl),
    He.glo_ok X G (c.fact 40 (f := .glo "_law_name") rfl),
    He.glo_ok X G (c.fact 41 (f := .glo "_law_names") rfl),
    He.glo_ok X G (c.fact 42 (f := .glo "_law_number") rfl),
    He.glo_ok X G (c.fact 43 (f := .glo "_law_sum") rfl),
    He.glo_ok X G (c.fact 44 (f := .glo "_law_truth") rfl),
    He.glo_ok X G (c.fact 45 (f := .glo "_law_rank") rfl),
    He.glo_ok X G (c.fact 46 (f := .glo "_law_tokens") rfl),
    He.glo_ok X G (c.fact 47 (f := .glo "_law_canonical") rfl),
    He.glo_ok X G (c.fact 48 (f := .glo "_law_grows") rfl),
    He.glo_ok X G (c.fact 49 (f := .glo "_law_text") rfl),
    He.glo_ok X G (c.fact 50 (f := .glo "_law_is_within") rfl),
    He.glo_ok X G (c.fact 51 (f := .glo "_law_parsed") rfl),
    He.glo_ok X G (c.fact 52 (f := .glo "_law_listed") rfl),
    He.glo_ok X G (c.fact 53 (f := .glo "law") rfl),
    He.free_ok X G (c.fact 54 (f := .free "all") rfl),
    He.free_ok X G (c.fact 55 (f := .free "int") rfl),
    He.free_ok X G (c.fact 56 (f := .free "isinstance") rfl),
    He.free_ok X G (c.fact 57 (f := .free "len") rfl),
    He.free_ok X G (c.fact 58 (f := .free "list") rfl),
    He.free_ok X G (c.fact 59 (f := .free "max") rfl),
    He.free_ok X G (c.fact 60 (f := .free "range") rfl),
    He.free_ok X G (c.fact 61 (f := .free "str") rfl),
    He.free_ok X G (c.fact 62 (f := .free "tuple") rfl),
    x0,
    x1,
    x2,
    x3,
    (ktab_of ct 0 rfl x4).2⟩
structure Ty (K : Frag) (w : World) : Prop where
  triv : True
  kd_RANKS : ∃ es n, KDict K w (He.ga K "RANKS") es n
theorem ty {K : Frag} {w : World} (ct : He.SaysT fa fn ts w K) (m : ex K = true) : Ty K w := by
  obtain ⟨x0, m0⟩ := He.ba (show (_ && _) = true from m)
  obtain ⟨x1, m1⟩ := He.ba (show (_ && _) = true from m0)
  obtain ⟨x2, m2⟩ := He.ba (show (_ && _) = true from m1)
  obtain ⟨x3, m3⟩ := He.ba (show (_ && _) = true from m2)
  obtain ⟨x4, m4⟩ := He.ba (show (_ && _) = true from m3)
  exact ⟨trivial, (ktab_of ct 0 rfl x4).1⟩
theorem q_RESERVED {K : Frag} {mg : Str → Option Value} (T : Tx K mg) {ρ : DL.Env} {γ : Ga} {Q : QD} (q : Q (.tup (strsD RESERVED_L)) γ) : dE K (tC (.ref (He.ga K "RESERVED"))) ρ γ Q := de_topB T.u_RESERVED (fun _ _ => (DL.RpL.cons (DL.Rp.str _) (DL.RpL.cons (DL.Rp.str _) (DL.RpL.cons (DL.Rp.str _) (DL.RpL.cons (DL.Rp.str _) (DL.RpL.cons (DL.Rp.str _) (DL.RpL.cons (DL.Rp.str _) (DL.RpL.cons (DL.Rp.str _) (DL.RpL.cons (DL.Rp.str _) (DL.RpL.cons (DL.Rp.str _) (DL.RpL.cons (DL.Rp.str _) (DL.RpL.cons (DL.Rp.str _) (DL.RpL.cons (DL.Rp.str _) (DL.RpL.cons (DL.Rp.str _) (DL.RpL.cons (DL.Rp.str _) (DL.RpL.cons (DL.Rp.str _) DL.RpL.nil)))))))))))))))) q
theorem q_WORDS {K : Frag} {mg : Str → Option Value} (T : Tx K mg) {ρ : DL.Env} {γ : Ga} {Q : QD} (q : Q (.tup (strsD WORDS_L)) γ) : dE K (tC (.ref (He.ga K "WORDS"))) ρ γ Q := de_topB T.u_WORDS (fun _ _ => (DL.RpL.cons (DL.Rp.str _) (DL.RpL.cons (DL.Rp.str _) (DL.RpL.cons (DL.Rp.str _) (DL.RpL.cons (DL.Rp.str _) DL.RpL.nil))))) q
theorem q_SIGNS {K : Frag} {mg : Str → Option Value} (T : Tx K mg) {ρ : DL.Env} {γ : Ga} {Q : QD} (q : Q (.tup (strsD SIGNS_L)) γ) : dE K (tC (.ref (He.ga K "SIGNS"))) ρ γ Q := de_topB T.u_SIGNS (fun _ _ => (DL.RpL.cons (DL.Rp.str _) (DL.RpL.cons (DL.Rp.str _) (DL.RpL.cons (DL.Rp.str _) (DL.RpL.cons (DL.Rp.str _) (DL.RpL.cons (DL.Rp.str _) (DL.RpL.cons (DL.Rp.str _) (DL.RpL.cons (DL.Rp.str _) (DL.RpL.cons (DL.Rp.str _) (DL.RpL.cons (DL.Rp.str _) (DL.RpL.cons (DL.Rp.str _) (DL.RpL.cons (DL.Rp.str _) (DL.RpL.cons (DL.Rp.str _) (DL.RpL.cons (DL.Rp.str _) (DL.RpL.cons (DL.Rp.str _) DL.RpL.nil))))))))))))))) q
theorem q_COMPARISONS {K : Frag} {mg : Str → Option Value} (T : Tx K mg) {ρ : DL.Env} {γ : Ga} {Q : QD} (q : Q (.tup (strsD COMPARISONS_L)) γ) : dE K (tC (.ref (He.ga K "COMPARISONS"))) ρ γ Q := de_topB T.u_COMPARISONS (fun _ _ => (DL.RpL.cons (DL.Rp.str _) (DL.RpL.cons (DL.Rp.str _) (DL.RpL.cons (DL.Rp.str _) (DL.RpL.cons (DL.Rp.str _) (DL.RpL.cons (DL.Rp.str _) (DL.RpL.cons (DL.Rp.str _) DL.RpL.nil))))))) q
end K07

set_option Elab.async false
set_option linter.all false
set_option maxRecDepth 100000
set_option maxHeartbeats 4000000
namespace K07
open PySem PySem.Spec PyProof.Rows L2 DL
/-! ### the law's trees, their tokens, their texts -/
inductive Ex where
  | num (n : Int)
  | var (l : List Nat)
  | neg (a : Ex)
  | bin (o : List Nat) (a b : Ex)
  | cmp (o : List Nat) (a b : Ex)
  | nt (a : Ex)
  | con (o : List Nat) (a b : Ex)
def Ex.d : Ex → D
  | .num n => .tup [.str (S sNumber), .int n]
  | .var l => .tup [.str (S sVariable), .str (S l)]
  | .neg a => .tup [.str (S sNegate), a.d]
  | .bin o a b => .tup [.str (S o), a.d, b.d]
  | .cmp o a b => .tup [.str (S o), a.d, b.d]
  | .nt a => .tup [.str (S sNot), a.d]
  | .con o a b => .tup [.str (S o), a.d, b.d]
def NUMS : List Int := [0, 1, 2, 3, 7, 10, 999, 100000000000000000000000000000, 999999999999999999999999999999]
def OPS : List (List Nat) := [[43], [45], [42], [47, 47], [109, 111, 100]]
def CONS : List (List Nat) := [sOr, sAnd]
/-- an expression -/
def Ex.okE : Ex → Bool
  | .num n => decide (n ∈ NUMS)
  | .var l => isName l
  | .neg a => a.okE
  | .bin o a b => decide (o ∈ OPS) && a.okE && b.okE
  | _ => false
/-- a condition -/
def Ex.okC : Ex → Bool
  | .cmp o a b => decide (o ∈ CMPS) && a.okE && b.okE
  | .nt a => a.okC
  | .con o a b => decide (o ∈ CONS) && a.okC && b.okC
  | _ => false
def Ex.ok (e : Ex) : Bool := e.okE || e.okC
def Ex.dep : Ex → Nat
  | .num _ => 0
  | .var _ => 0
  | .neg a => a.dep + 1
  | .bin _ a b => max a.dep b.dep + 1
  | .cmp _ a b => max a.dep b.dep + 1
  | .nt a => a.dep + 1
  | .con _ a b => max a.dep b.dep + 1
def Ex.size : Ex → Nat
  | .num _ => 1
  | .var _ => 1
  | .neg a => a.size + 1
  | .bin _ a b => a.size + b.size + 1
  | .cmp _ a b => a.size + b.size + 1
  | .nt a => a.size + 1
  | .con _ a b => a.size + b.size + 1
def rankOf (o : List Nat) : Nat := if o ∈ ADD then 1 else 2
def rankC (o : List Nat) : Nat := if o = sOr then 1 else 2
def Ex.rk : Ex → Nat
  | .bin o _ _ => rankOf o
  | .con o _ _ => rankC o
  | _ => 3
/-- the brackets around it -/
def Ex.bo : Ex → List Nat
  | .cmp _ _ _ => [91]
  | .nt _ => [91]
  | .con _ _ _ => [91]
  | _ => [40]
def Ex.bc : Ex → List Nat
  | .cmp _ _ _ => [93]
  | .nt _ => [93]
  | .con _ _ _ => [93]
  | _ => [41]
def digs (n : Int) : List Nat := (toString n : Str).cps.toList
def Wr (e : Ex) (least : Nat) (c x : List (List Nat)) : Prop := x = e.bo :: (c ++ [e.bc]) ∨ (x = c ∧ least ≤ e.rk)
def RdC : Ex → List (List Nat) → Prop
  | .num n, ws => ws = [digs n]
  | .var l, ws => ws = [l]
  | .neg a, ws => ∃ c x, RdC a c ∧ Wr a 3 c x ∧ ws = [45] :: x
  | .bin o a b, ws => ∃ c x c' x', RdC a c ∧ Wr a (rankOf o) c x ∧ RdC b c' ∧ Wr b (rankOf o + 1) c' x' ∧ ws = x ++ o :: x'
  | .cmp o a b, ws => ∃ c x c' x', RdC a c ∧ Wr a 1 c x ∧ RdC b c' ∧ Wr b 1 c' x' ∧ ws = x ++ o :: x'
  | .nt a, ws => ∃ c x, RdC a c ∧ Wr a 3 c x ∧ ws = sNot :: x
  | .con o a b, ws => ∃ c x c' x', RdC a c ∧ Wr a (rankC o) c x ∧ RdC b c' ∧ Wr b (rankC o + 1) c' x' ∧ ws = x ++ o :: x'
def Rd (e : Ex) (least : Nat) (ws : List (List Nat)) : Prop := ∃ c, RdC e c ∧ Wr e least c ws
def grows (a b : List Nat) : Bool :=
  ((a.getLast?.any (· ∈ LET) && b.head?.any (· ∈ LET)) || (a.getLast?.any (· ∈ FIG) && b.head?.any (· ∈ FIG))) ||
  ((decide (a ∈ [[60], [62], [33]]) && decide (b.head? = some 61)) || (decide (a = [47]) && decide (b.head? = some 47)))
def Spl : Option (List Nat) → List (List Nat) → List Nat → Prop
  | _, [], t => ∀ c ∈ t, c = 32
  | prev, w :: ws, t => ∃ n t', t = List.replicate n 32 ++ (w ++ t') ∧ (∀ p, prev = some p → grows p w = true → 0 < n) ∧ Spl (some w) ws t'
/-! ### the promises -/
def Strm (n : Nat) (A B : MO) : Prop := ∃ cs : List Int, ∃ c t m : Int, A = .lst (cs.map D.int) ∧ B = .lst [.loc 0, .int c, .int t, .int m] ∧ 0 ≤ c ∧ 0 ≤ t ∧ t + n ≤ 2 ^ 20 ∧ 0 ≤ m ∧ m < 2 ^ 31
def PO (K : Frag) (T ts : List Tkn) : MO := .ins (He.ga K "Parser") ["rest", "place"] [.lst (T.map Tkn.d), .int ((T.length - ts.length : Nat) : Int)]
def spRes (K : Frag) (r : PR) (k : Nat) (T : List Tkn) (γ : Ga) (q : QD) : Prop := ∃ d r', r = some (.ok (d, r')) ∧ q d (γ.set k (PO K T r'))
def spP (K : Frag) (f : List Tkn → PR) : SpD := fun ds γ q _ => ∃ k T ts, ds = [.loc k] ∧ γ[k]? = some (PO K T ts) ∧ ts <:+ T ∧ spRes K (f ts) k T γ q
def sp_is_name (K : Frag) : SpD := fun ds γ q _ => ∃ l, ds = [.str (S l)] ∧ l.length ≤ 100000 ∧ q (.bl (isName l)) γ
def sp_is_number (K : Frag) : SpD := fun ds γ q _ => ∃ l, ds = [.str (S l)] ∧ l.length ≤ 100000 ∧ q (.bl (isNum l)) γ
def sp_end_of_run (K : Frag) : SpD := fun ds γ q _ => ∃ l g, ∃ s : Nat, ds = [.str (S l), .int s, .str (S g)] ∧ l.length ≤ 100000 ∧ s ≤ l.length ∧ q (.int ((s + (runOf g (l.drop s)).length : Nat) : Int)) γ
def sp_token_at (K : Frag) : SpD := fun ds γ q _ => ∃ l, ∃ s : Nat, ds = [.str (S l), .int s] ∧ l.length ≤ 100000 ∧ s < l.length ∧
  q (.tup [(tokA (l.drop s) s).1.d, .int ((s + (tokA (l.drop s) s).2 : Nat) : Int)]) γ
def sp_tokens (K : Frag) : SpD := fun ds γ q _ => ∃ l, ds = [.str (S l)] ∧ l.length ≤ 100000 ∧ q (.lst ((toks l).map Tkn.d)) γ
def sp_Parser_init (K : Frag) : SpD := fun ds γ q _ => ∃ k l, ds = [.loc k, .str (S l)] ∧ l.length ≤ 100000 ∧ γ[k]? = some (.ins (He.ga K "Parser") [] []) ∧ q .non (γ.set k (PO K (toks l) (toks l)))
def sp_Parser_sees (K : Frag) : SpD := fun ds γ q _ => ∃ k T t ts gs, ds = [.loc k, .tup (strsD gs)] ∧ γ[k]? = some (PO K T (t :: ts)) ∧ (t :: ts) <:+ T ∧ q (.bl (sees t gs)) γ
def sp_Parser_take (K : Frag) : SpD := fun ds γ q _ => ∃ k T t ts, ds = [.loc k] ∧ γ[k]? = some (PO K T (t :: ts)) ∧ (t :: ts) <:+ T ∧ q t.d (γ.set k (PO K T ts))
def sp_Parser_take_sign (K : Frag) : SpD := fun ds γ q _ => ∃ k T t ts gs, ds = [.loc k, .tup (strsD gs)] ∧ γ[k]? = some (PO K T (t :: ts)) ∧ (t :: ts) <:+ T ∧ sees t gs = true ∧ q (.str (S t.v)) (γ.set k (PO K T ts))
def sp_Parser_finish (K : Frag) : SpD := fun ds γ q _ => ∃ k T t ts d, ds = [.loc k, d] ∧ γ[k]? = some (PO K T (t :: ts)) ∧ (t :: ts) <:+ T ∧ t.k = .fin ∧ q d γ
def sp_Parser_expression (K : Frag) : SpD := spP K (pE (pFac 41))
def sp_Parser_term (K : Frag) : SpD := spP K (pT (pFac 41))
def sp_Parser_factor (K : Frag) : SpD := spP K (pFac 41)
abbrev pE41 : List Tkn → PR := pE (pFac 41)
abbrev pE14 : List Tkn → PR := pE (pFac 14)
def sp_Parser_negation (K : Frag) : SpD := spP K (pNeg pE14 41)
def sp_Parser_conjunction (K : Frag) : SpD := spP K (pJ (pNeg pE14 41))
def sp_Parser_condition (K : Frag) : SpD := spP K (pC (pNeg pE14 41))
def sp_parse_expression (K : Frag) : SpD := fun ds γ q _ => ∃ l d t, ds = [.str (S l)] ∧ l.length ≤ 100000 ∧ (∀ m, d.lo m = true) ∧ pE41 (toks l) = some (.ok (d, [t])) ∧ t.k = .fin ∧ q d γ
def sp_parse_condition (K : Frag) : SpD := fun ds γ q _ => ∃ l d t, ds = [.str (S l)] ∧ l.length ≤ 100000 ∧ (∀ m, d.lo m = true) ∧ pC (pNeg pE14 41) (toks l) = some (.ok (d, [t])) ∧ t.k = .fin ∧ q d γ
/-! ### the canonical text -/
def wrap (e : Ex) (least : Nat) (t : List Nat) : List Nat := if e.rk < least then e.bo ++ t ++ e.bc else t
def canon : Ex → List Nat
  | .num n => digs n
  | .var l => l
  | .neg a => [45] ++ wrap a 3 (canon a)
  | .nt a => [110, 111, 116, 32] ++ wrap a 3 (canon a)
  | .cmp o a b => canon a ++ [32] ++ o ++ [32] ++ canon b
  | .bin o a b => wrap a (rankOf o) (canon a) ++ [32] ++ o ++ [32] ++ wrap b (rankOf o + 1) (canon b)
  | .con o a b => wrap a (rankC o) (canon a) ++ [32] ++ o ++ [32] ++ wrap b (rankC o + 1) (canon b)
def Ex.dl : Ex → D
  | .num n => .lst [.str (S sNumber), .int n]
  | .var l => .lst [.str (S sVariable), .str (S l)]
  | .neg a => .lst [.str (S sNegate), a.dl]
  | .bin o a b => .lst [.str (S o), a.dl, b.dl]
  | .cmp o a b => .lst [.str (S o), a.dl, b.dl]
  | .nt a => .lst [.str (S sNot), a.dl]
  | .con o a b => .lst [.str (S o), a.dl, b.dl]
def sp_is_of_conditions (K : Frag) : SpD := fun ds γ q _ => ∃ w, ds = [.str (S w)] ∧ q (.bl (decide (w ∈ [sNot, sAnd, sOr]))) γ
def spWr (K : Frag) (dp : Nat) : SpD := fun ds γ q _ => ∃ x, ∃ e : Ex, ds = [x] ∧ (x = e.d ∨ x = e.dl) ∧ e.ok = true ∧ e.dep ≤ dp ∧ e.size ≤ 400 ∧ q (.str (S (canon e))) γ
def spBr (K : Frag) (dp : Nat) : SpD := fun ds γ q _ => ∃ x, ∃ e : Ex, ∃ least : Nat, ds = [x, .int least] ∧ (x = e.d ∨ x = e.dl) ∧ e.ok = true ∧ e.dep ≤ dp ∧ e.size ≤ 400 ∧ least ≤ 3 ∧ q (.str (S (wrap e least (canon e)))) γ
def sp_written (K : Frag) : SpD := spWr K 45
def sp_bracketed (K : Frag) : SpD := spBr K 45
def spCan (K : Frag) (dp : Nat) : SpD := fun ds γ q _ => ∃ e : Ex, ∃ least : Nat, ds = [e.d, .int least] ∧ e.ok = true ∧ e.dep ≤ dp ∧ e.size ≤ 400 ∧ 1 ≤ least ∧ least ≤ 3 ∧ q (.str (S (wrap e least (canon e)))) γ
def sp_L_canonical (K : Frag) : SpD := spCan K 6
def spLst (K : Frag) (dp : Nat) : SpD := fun ds γ q _ => ∃ x, ds = [x] ∧ ((∃ e : Ex, x = e.d ∧ e.dep ≤ dp ∧ q e.dl γ) ∨ (x.flat = true ∧ q x γ))
def sp_L_listed (K : Frag) : SpD := spLst K 6
def sp_L_parsed (K : Frag) : SpD := fun ds γ q _ => ∃ c l d t, ds = [.str (S [c]), .str (S l)] ∧ l.length ≤ 100000 ∧ (∀ m, d.lo m = true) ∧ ((c = 69 ∧ pE41 (toks l) = some (.ok (d, [t]))) ∨ (c = 67 ∧ pC (pNeg pE14 41) (toks l) = some (.ok (d, [t])))) ∧ t.k = .fin ∧ q d γ
def sp_L_draw (K : Frag) : SpD := fun ds γ q _ => ∃ n : Nat, ∃ m : Int, ∃ A B rest, ds = [.loc 1, .int m] ∧ 0 < m ∧ m < 1000000 ∧ γ = A :: B :: rest ∧ Strm (n + 1) A B ∧ ∀ d A' B', 0 ≤ d → d < m → Strm n A' B' → q (.int d) (A' :: B' :: rest)
def sp_L_reserved (K : Frag) : SpD := fun ds γ q _ => ds = [] ∧ q (.lst (strsD RESV)) γ
def sp_L_name (K : Frag) : SpD := fun ds γ q _ => ∃ n A B rest, ds = [.loc 1] ∧ γ = A :: B :: rest ∧ Strm (n + 9) A B ∧ ∀ l A' B', isName l = true → Strm n A' B' → q (.str (S l)) (A' :: B' :: rest)
def sp_L_names (K : Frag) : SpD := fun ds γ q _ => ∃ n A B rest, ds = [.loc 1, .int 3] ∧ γ = A :: B :: rest ∧ Strm (n + 27) A B ∧ ∀ ns A' B', ns.length = 3 → (∀ l ∈ ns, isName l = true) → Strm n A' B' → q (.lst (strsD ns)) (A' :: B' :: rest)
def sp_L_number (K : Frag) : SpD := fun ds γ q _ => ∃ n A B rest, ds = [.loc 1] ∧ γ = A :: B :: rest ∧ Strm (n + 1) A B ∧ ∀ i A' B', i ∈ NUMS → Strm n A' B' → q (.int i) (A' :: B' :: rest)
def bS : Nat → Nat
  | 0 => 3
  | d + 1 => 3 + 2 * bS d
def spSum (K : Frag) (dp : Nat) : SpD := fun ds γ q _ => ∃ n A B rest ns, ∃ dq : Nat, ds = [.loc 1, .lst (strsD ns), .int dq] ∧ dq ≤ dp ∧ ns.length = 3 ∧ (∀ l ∈ ns, isName l = true) ∧ γ = A :: B :: rest ∧ Strm (n + bS dq) A B ∧ ∀ e : Ex, ∀ A' B', e.okE = true → e.dep ≤ dq → Strm n A' B' → q e.d (A' :: B' :: rest)
def sp_L_sum (K : Frag) : SpD := spSum K 4
def bT : Nat → Nat
  | 0 => 100
  | d + 1 => 100 + 2 * bT d
def spTruth (K : Frag) (dp : Nat) : SpD := fun ds γ q _ => ∃ n A B rest ns, ∃ dq : Nat, ds = [.loc 1, .lst (strsD ns), .int dq] ∧ dq ≤ dp ∧ ns.length = 3 ∧ (∀ l ∈ ns, isName l = true) ∧ γ = A :: B :: rest ∧ Strm (n + bT dq) A B ∧ ∀ e : Ex, ∀ A' B', e.okC = true → e.dep ≤ dq + 3 → Strm n A' B' → q e.d (A' :: B' :: rest)
def sp_L_truth (K : Frag) : SpD := spTruth K 3
def sp_L_rank (K : Frag) : SpD := fun ds γ q _ => ∃ e : Ex, e.ok = true ∧ ∃ o xs, e.d = .tup (o :: xs) ∧ ds = [o] ∧ q (.int e.rk) γ
def spToks (K : Frag) (dp : Nat) : SpD := fun ds γ q _ => ∃ n A B rest, ∃ e : Ex, ∃ least : Nat, ds = [.loc 1, e.d, .int least] ∧ e.ok = true ∧ e.dep ≤ dp ∧ e.dep ≤ 6 ∧ least ≤ 3 ∧ γ = A :: B :: rest ∧ Strm (n + e.size) A B ∧ ∀ ws A' B', Rd e least ws → Strm n A' B' → q (.lst (strsD ws)) (A' :: B' :: rest)
def sp_L_tokens (K : Frag) : SpD := spToks K 6
def sp_L_grows (K : Frag) : SpD := fun ds γ q _ => ∃ a b, ds = [.str (S a), .str (S b)] ∧ 0 < a.length ∧ 0 < b.length ∧ a.length ≤ 100 ∧ b.length ≤ 100 ∧ q (.bl (grows a b)) γ
def sp_L_text (K : Frag) : SpD := fun ds γ q _ => ∃ n A B rest ws, ds = [.loc 1, .lst (strsD ws)] ∧ ws.length ≤ 500 ∧ (∀ w ∈ ws, 0 < w.length ∧ w.length ≤ 100) ∧ γ = A :: B :: rest ∧ Strm (n + ws.length + 2) A B ∧
  ∀ t ps A' B', Spl none ws t → t.length ≤ 100000 → Strm n A' B' → q (.lst [.str (S t), .loc (rest.length + 1 + 1)]) (A' :: B' :: (rest ++ [.lst ps]))
def sp_L_is_within (K : Frag) : SpD := fun ds γ q _ => ∃ l, ds = [.str (S l)] ∧ l.length ≤ 100000 ∧ ∀ b, q (.bl b) γ
def N_is_name : List Str := ["thing", "letter"]
theorem sc_is_name : FnScope N_is_name ["thing"] (defScope (top 6)) := ⟨rfl, rfl, rfl, by decide +kernel, rfl, by decide +kernel, by decide +kernel⟩
def t_is_name (K : Frag) : TS := (tSeq (tIfS (tOr (tNot (tB (tCB (rIsi K) (tCons (tVar 0) (tCons (tC (.ty "str")) tNil))))) (tOr (tNot (tTest (tChain rLeI rLeI (tC (.int 1)) (tCB (rLenG K) (tCons (tVar 0) tNil)) (tC (.int 8))))) (tTest (tOp (rInG K) (tVar 0) (tC (.ref (He.ga K "RESERVED"))))))) (tRet (tC (.bl false))) tNext) (tRet (tCB (rAll K) (tCons (tLc (iStr (tVar 0)) (gName 1) tYes (tOp (rInG K) (tVar 1) (tC (.str (S [97, 98, 99, 100, 101, 102, 103, 104, 105, 106, 107, 108, 109, 110, 111, 112, 113, 114, 115, 116, 117, 118, 119, 120, 121, 122])))) [1]) tNil))))
abbrev DL_is_name (K : Frag) (sp : SpD) : Prop := ∀ ds γ q e, loG γ.length γ = true → loL γ.length ds = true → sp ds γ q e → dS K γ.length (t_is_name K) (ds.map some ++ List.replicate (2 - ds.length) none) γ { nx := fun _ γ' => Dr γ.length q .non γ', rt := Dr γ.length q }
def N_is_number : List Str := ["text", "sign"]
theorem sc_is_number : FnScope N_is_number ["text"] (defScope (top 14)) := ⟨rfl, rfl, rfl, by decide +kernel, rfl, by decide +kernel, by decide +kernel⟩
def t_is_number (K : Frag) : TS := (tSeq (tIfS (tOr (tNot (tTest (tChain rLtI rLeI (tC (.int 0)) (tCB (rLenG K) (tCons (tVar 0) tNil)) (tC (.int 30))))) (tNot (tB (tCB (rAll K) (tCons (tLc (iStr (tVar 0)) (gName 1) tYes (tOp (rInG K) (tVar 1) (tC (.str (S [48, 49, 50, 51, 52, 53, 54, 55, 56, 57])))) [1]) tNil))))) (tRet (tC (.bl false))) tNext) (tRet (tOrV (tOp (rEqG K) (tVar 0) (tC (.str (S [48])))) (tOp (rNeG K) (tOp (rIx K) (tVar 0) (tC (.int 0))) (tC (.str (S [48])))))))
abbrev DL_is_number (K : Frag) (sp : SpD) : Prop := ∀ ds γ q e, loG γ.length γ = true → loL γ.length ds = true → sp ds γ q e → dS K γ.length (t_is_number K) (ds.map some ++ List.replicate (2 - ds.length) none) γ { nx := fun _ γ' => Dr γ.length q .non γ', rt := Dr γ.length q }
def N_end_of_run : List Str := ["text", "start", "signs", "end"]
theorem sc_end_of_run : FnScope N_end_of_run ["text", "start", "signs"] (defScope (top 15)) := ⟨rfl, rfl, rfl, by decide +kernel, rfl, by decide +kernel, by decide +kernel⟩
def t_end_of_run (K : Frag) : TS := (tSeq (tAsg (tVar 1) (gName 3)) (tSeq (tWhile (tAnd (tTest (tOp rLtI (tVar 3) (tCB (rLenG K) (tCons (tVar 0) tNil)))) (tTest (tOp (rInG K) (tOp (rIx K) (tVar 0) (tVar 3)) (tVar 2)))) (tAsg (tOp (rAddG K) (tVar 3) (tC (.int 1))) (gName 3))) (tRet (tVar 3))))
abbrev DL_end_of_run (K : Frag) (sp : SpD) : Prop := ∀ ds γ q e, loG γ.length γ = true → loL γ.length ds = true → sp ds γ q e → dS K γ.length (t_end_of_run K) (ds.map some ++ List.replicate (4 - ds.length) none) γ { nx := fun _ γ' => Dr γ.length q .non γ', rt := Dr γ.length q }
def N_token_at : List Str := ["text", "start", "end", "word", "kind", "sign"]
theorem sc_token_at : FnScope N_token_at ["text", "start"] (defScope (top 16)) := ⟨rfl, rfl, rfl, by decide +kernel, rfl, by decide +kernel, by decide +kernel⟩
def t_token_at (K : Frag) : TS := (tSeq (tIfS (tTest (tOp (rInG K) (tOp (rIx K) (tVar 0) (tVar 1)) (tC (.str (S [97, 98, 99, 100, 101, 102, 103, 104, 105, 106, 107, 108, 109, 110, 111, 112, 113, 114, 115, 116, 117, 118, 119, 120, 121, 122]))))) (tSeq (tAsg (tCall (toSp K (sp_end_of_run K)) [] E0 (tCons (tVar 0) (tCons (tVar 1) (tCons (tC (.str (S [97, 98, 99, 100, 101, 102, 103, 104, 105, 106, 107, 108, 109, 110, 111, 112, 113, 114, 115, 116, 117, 118, 119, 120, 121, 122]))) tNil)))) (gName 2)) (tSeq (tAsg (tSl (rSlG K) (tVar 0) (tPart (tVar 1)) (tPart (tVar 2))) (gName 3)) (tSeq (tAsg (tIf (tTest (tOp (rInG K) (tVar 3) (tC (.ref (He.ga K "WORDS"))))) (tC (.str (S [115, 105, 103, 110]))) (tIf (tB (tCall (toSp K (sp_is_name K)) [] E0 (tCons (tVar 3) tNil))) (tC (.str (S [110, 97, 109, 101]))) (tC (.str (S [111, 100, 100]))))) (gName 4)) (tRet (tTup (tCons (tTup (tCons (tVar 4) (tCons (tVar 3) (tCons (tVar 1) tNil)))) (tCons (tVar 2) tNil))))))) tNext) (tSeq (tIfS (tTest (tOp (rInG K) (tOp (rIx K) (tVar 0) (tVar 1)) (tC (.str (S [48, 49, 50, 51, 52, 53, 54, 55, 56, 57]))))) (tSeq (tAsg (tCall (toSp K (sp_end_of_run K)) [] E0 (tCons (tVar 0) (tCons (tVar 1) (tCons (tC (.str (S [48, 49, 50, 51, 52, 53, 54, 55, 56, 57]))) tNil)))) (gName 2)) (tSeq (tAsg (tIf (tB (tCall (toSp K (sp_is_number K)) [] E0 (tCons (tSl (rSlG K) (tVar 0) (tPart (tVar 1)) (tPart (tVar 2))) tNil))) (tC (.str (S [105, 110, 116, 101, 103, 101, 114]))) (tC (.str (S [111, 100, 100])))) (gName 4)) (tRet (tTup (tCons (tTup (tCons (tVar 4) (tCons (tSl (rSlG K) (tVar 0) (tPart (tVar 1)) (tPart (tVar 2))) (tCons (tVar 1) tNil)))) (tCons (tVar 2) tNil)))))) tNext) (tSeq (tFor (iTup K (tC (.ref (He.ga K "SIGNS")))) (gName 5) (tIfS (tTest (tOp (rEqG K) (tSl (rSlG K) (tVar 0) (tPart (tVar 1)) (tPart (tOp (rAddG K) (tVar 1) (tCB (rLenG K) (tCons (tVar 5) tNil))))) (tVar 5))) (tRet (tTup (tCons (tTup (tCons (tC (.str (S [115, 105, 103, 110]))) (tCons (tVar 5) (tCons (tVar 1) tNil)))) (tCons (tOp (rAddG K) (tVar 1) (tCB (rLenG K) (tCons (tVar 5) tNil))) tNil)))) tNext)) (tRet (tTup (tCons (tTup (tCons (tC (.str (S [111, 100, 100]))) (tCons (tOp (rIx K) (tVar 0) (tVar 1)) (tCons (tVar 1) tNil)))) (tCons (tOp (rAddG K) (tVar 1) (tC (.int 1))) tNil)))))))
abbrev DL_token_at (K : Frag) (sp : SpD) : Prop := ∀ ds γ q e, loG γ.length γ = true → loL γ.length ds = true → sp ds γ q e → dS K γ.length (t_token_at K) (ds.map some ++ List.replicate (6 - ds.length) none) γ { nx := fun _ γ' => Dr γ.length q .non γ', rt := Dr γ.length q }
def N_tokens : List Str := ["text", "found", "start", "token", "end"]
theorem sc_tokens : FnScope N_tokens ["text"] (defScope (top 17)) := ⟨rfl, rfl, rfl, by decide +kernel, rfl, by decide +kernel, by decide +kernel⟩
def t_tokens (K : Frag) : TS := (tSeq (tAsg (tLstM tNil) (gName 1)) (tSeq (tAsg (tCall (toSp K (sp_end_of_run K)) [] E0 (tCons (tVar 0) (tCons (tC (.int 0)) (tCons (tC (.str (S [32]))) tNil)))) (gName 2)) (tSeq (tWhile (tTest (tOp rLtI (tVar 2) (tCB (rLenG K) (tCons (tVar 0) tNil)))) (tSeq (tAsg (tCall (toSp K (sp_token_at K)) [] E0 (tCons (tVar 0) (tCons (tVar 2) tNil))) (gTup K 2 (gCons (gName 3) (gCons (gName 4) gNil)))) (tSeq (tDrop (tBM K "list" rAppend (tVar 1) (tCons (tVar 3) tNil))) (tSeq (tIfS (tTest (tOp (rEqG K) (tOp (rIx K) (tVar 3) (tC (.int 0))) (tC (.str (S [111, 100, 100]))))) (tRet (tVar 1)) tNext) (tAsg (tCall (toSp K (sp_end_of_run K)) [] E0 (tCons (tVar 0) (tCons (tVar 4) (tCons (tC (.str (S [32]))) tNil)))) (gName 2)))))) (tRet (tOp (rAddG K) (tVar 1) (tLst (tCons (tTup (tCons (tC (.str (S [101, 110, 100]))) (tCons (tC (.str (S []))) (tCons (tCB (rLenG K) (tCons (tVar 0) tNil)) tNil)))) tNil)))))))
abbrev DL_tokens (K : Frag) (sp : SpD) : Prop := ∀ ds γ q e, loG γ.length γ = true → loL γ.length ds = true → sp ds γ q e → dS K γ.length (t_tokens K) (ds.map some ++ List.replicate (5 - ds.length) none) γ { nx := fun _ γ' => Dr γ.length q .non γ', rt := Dr γ.length q }
def N_Parser_init : List Str := ["self", "text"]
theorem sc_Parser_init : FnScope N_Parser_init ["self", "text"] (defScope (inClass (top 21) 0)) := ⟨rfl, rfl, rfl, by decide +kernel, rfl, by decide +kernel, by decide +kernel⟩
def t_Parser_init (K : Frag) : TS := (tSeq (sFld K (tVar 0) (tCall (toSp K (sp_tokens K)) [] E0 (tCons (tVar 1) tNil)) "rest") (sFld K (tVar 0) (tC (.int 0)) "place"))
abbrev DL_Parser_init (K : Frag) (sp : SpD) : Prop := ∀ ds γ q e, loG γ.length γ = true → loL γ.length ds = true → sp ds γ q e → dS K γ.length (t_Parser_init K) (ds.map some ++ List.replicate (2 - ds.length) none) γ { nx := fun _ γ' => Dr γ.length q .non γ', rt := Dr γ.length q }
def N_Parser_sees : List Str := ["self", "signs", "kind", "value", "position"]
theorem sc_Parser_sees : FnScope N_Parser_sees ["self", "signs"] (defScope (inClass (top 21) 1)) := ⟨rfl, rfl, rfl, by decide +kernel, rfl, by decide +kernel, by decide +kernel⟩
def t_Parser_sees (K : Frag) : TS := (tSeq (tAsg (tOp (rIx K) (tFld K (tVar 0) "rest") (tFld K (tVar 0) "place")) (gTup K 3 (gCons (gName 2) (gCons (gName 3) (gCons (gName 4) gNil))))) (tRet (tAndV (tOp (rEqG K) (tVar 2) (tC (.str (S [115, 105, 103, 110])))) (tOp (rInG K) (tVar 3) (tVar 1)))))
abbrev DL_Parser_sees (K : Frag) (sp : SpD) : Prop := ∀ ds γ q e, loG γ.length γ = true → loL γ.length ds = true → sp ds γ q e → dS K γ.length (t_Parser_sees K) (ds.map some ++ List.replicate (5 - ds.length) none) γ { nx := fun _ γ' => Dr γ.length q .non γ', rt := Dr γ.length q }
def N_Parser_take : List Str := ["self"]
theorem sc_Parser_take : FnScope N_Parser_take ["self"] (defScope (inClass (top 21) 2)) := ⟨rfl, rfl, rfl, by decide +kernel, rfl, by decide +kernel, by decide +kernel⟩
def t_Parser_take (K : Frag) : TS := (tSeq (sFld K (tVar 0) (tOp (rAddG K) (tFld K (tVar 0) "place") (tC (.int 1))) "place") (tRet (tOp (rIx K) (tFld K (tVar 0) "rest") (tOp rSubD (tFld K (tVar 0) "place") (tC (.int 1))))))
abbrev DL_Parser_take (K : Frag) (sp : SpD) : Prop := ∀ ds γ q e, loG γ.length γ = true → loL γ.length ds = true → sp ds γ q e → dS K γ.length (t_Parser_take K) (ds.map some ++ List.replicate (1 - ds.length) none) γ { nx := fun _ γ' => Dr γ.length q .non γ', rt := Dr γ.length q }
def N_Parser_refuse : List Str := ["self"]
theorem sc_Parser_refuse : FnScope N_Parser_refuse ["self"] (defScope (inClass (top 21) 3)) := ⟨rfl, rfl, rfl, by decide +kernel, rfl, by decide +kernel, by decide +kernel⟩
def N_Parser_take_sign : List Str := ["self", "signs"]
theorem sc_Parser_take_sign : FnScope N_Parser_take_sign ["self", "signs"] (defScope (inClass (top 21) 4)) := ⟨rfl, rfl, rfl, by decide +kernel, rfl, by decide +kernel, by decide +kernel⟩
def t_Parser_take_sign (K : Frag) (s_Parser_refuse : SpD) : TS := (tSeq (tIfS (tNot (tB (tMeth (He.ga K "Parser") "sees" (toSp K (sp_Parser_sees K)) [] E0 (tVar 0) (tCons (tVar 1) tNil)))) (tDrop (tMeth (He.ga K "Parser") "refuse" (toSp K s_Parser_refuse) [] E0 (tVar 0) tNil)) tNext) (tRet (tOp (rIx K) (tMeth (He.ga K "Parser") "take" (toSp K (sp_Parser_take K)) [] E0 (tVar 0) tNil) (tC (.int 1)))))
abbrev DL_Parser_take_sign (K : Frag) (s_Parser_refuse : SpD) (sp : SpD) : Prop := ∀ ds γ q e, loG γ.length γ = true → loL γ.length ds = true → sp ds γ q e → dS K γ.length (t_Parser_take_sign K s_Parser_refuse) (ds.map some ++ List.replicate (2 - ds.length) none) γ { nx := fun _ γ' => Dr γ.length q .non γ', rt := Dr γ.length q }
def N_Parser_finish : List Str := ["self", "node"]
theorem sc_Parser_finish : FnScope N_Parser_finish ["self", "node"] (defScope (inClass (top 21) 5)) := ⟨rfl, rfl, rfl, by decide +kernel, rfl, by decide +kernel, by decide +kernel⟩
def t_Parser_finish (K : Frag) (s_Parser_refuse : SpD) : TS := (tSeq (tIfS (tTest (tOp (rNeG K) (tOp (rIx K) (tOp (rIx K) (tFld K (tVar 0) "rest") (tFld K (tVar 0) "place")) (tC (.int 0))) (tC (.str (S [101, 110, 100]))))) (tDrop (tMeth (He.ga K "Parser") "refuse" (toSp K s_Parser_refuse) [] E0 (tVar 0) tNil)) tNext) (tRet (tVar 1)))
abbrev DL_Parser_finish (K : Frag) (s_Parser_refuse : SpD) (sp : SpD) : Prop := ∀ ds γ q e, loG γ.length γ = true → loL γ.length ds = true → sp ds γ q e → dS K γ.length (t_Parser_finish K s_Parser_refuse) (ds.map some ++ List.replicate (2 - ds.length) none) γ { nx := fun _ γ' => Dr γ.length q .non γ', rt := Dr γ.length q }
def N_Parser_condition : List Str := ["self", "node"]
theorem sc_Parser_condition : FnScope N_Parser_condition ["self"] (defScope (inClass (top 21) 6)) := ⟨rfl, rfl, rfl, by decide +kernel, rfl, by decide +kernel, by decide +kernel⟩
def t_Parser_condition (K : Frag) (s_Parser_conjunction : SpD) : TS := (tSeq (tAsg (tMeth (He.ga K "Parser") "conjunction" (toSp K s_Parser_conjunction) [] E0 (tVar 0) tNil) (gName 1)) (tSeq (tWhile (tB (tMeth (He.ga K "Parser") "sees" (toSp K (sp_Parser_sees K)) [] E0 (tVar 0) (tCons (tTup (tCons (tC (.str (S [111, 114]))) tNil)) tNil))) (tSeq (tDrop (tMeth (He.ga K "Parser") "take" (toSp K (sp_Parser_take K)) [] E0 (tVar 0) tNil)) (tAsg (tTup (tCons (tC (.str (S [111, 114]))) (tCons (tVar 1) (tCons (tMeth (He.ga K "Parser") "conjunction" (toSp K s_Parser_conjunction) [] E0 (tVar 0) tNil) tNil)))) (gName 1)))) (tRet (tVar 1))))
abbrev DL_Parser_condition (K : Frag) (s_Parser_conjunction : SpD) (sp : SpD) : Prop := ∀ ds γ q e, loG γ.length γ = true → loL γ.length ds = true → sp ds γ q e → dS K γ.length (t_Parser_condition K s_Parser_conjunction) (ds.map some ++ List.replicate (2 - ds.length) none) γ { nx := fun _ γ' => Dr γ.length q .non γ', rt := Dr γ.length q }
def N_Parser_conjunction : List Str := ["self", "node"]
theorem sc_Parser_conjunction : FnScope N_Parser_conjunction ["self"] (defScope (inClass (top 21) 7)) := ⟨rfl, rfl, rfl, by decide +kernel, rfl, by decide +kernel, by decide +kernel⟩
def t_Parser_conjunction (K : Frag) (s_Parser_negation : SpD) : TS := (tSeq (tAsg (tMeth (He.ga K "Parser") "negation" (toSp K s_Parser_negation) [] E0 (tVar 0) tNil) (gName 1)) (tSeq (tWhile (tB (tMeth (He.ga K "Parser") "sees" (toSp K (sp_Parser_sees K)) [] E0 (tVar 0) (tCons (tTup (tCons (tC (.str (S [97, 110, 100]))) tNil)) tNil))) (tSeq (tDrop (tMeth (He.ga K "Parser") "take" (toSp K (sp_Parser_take K)) [] E0 (tVar 0) tNil)) (tAsg (tTup (tCons (tC (.str (S [97, 110, 100]))) (tCons (tVar 1) (tCons (tMeth (He.ga K "Parser") "negation" (toSp K s_Parser_negation) [] E0 (tVar 0) tNil) tNil)))) (gName 1)))) (tRet (tVar 1))))
abbrev DL_Parser_conjunction (K : Frag) (s_Parser_negation : SpD) (sp : SpD) : Prop := ∀ ds γ q e, loG γ.length γ = true → loL γ.length ds = true → sp ds γ q e → dS K γ.length (t_Parser_conjunction K s_Parser_negation) (ds.map some ++ List.replicate (2 - ds.length) none) γ { nx := fun _ γ' => Dr γ.length q .non γ', rt := Dr γ.length q }
def N_Parser_negation : List Str := ["self", "node", "left", "sign"]
theorem sc_Parser_negation : FnScope N_Parser_negation ["self"] (defScope (inClass (top 21) 8)) := ⟨rfl, rfl, rfl, by decide +kernel, rfl, by decide +kernel, by decide +kernel⟩
def t_Parser_negation (K : Frag) (s_Parser_negation : SpD) (s_Parser_condition : SpD) (s_Parser_expression : SpD) : TS := (tSeq (tIfS (tB (tMeth (He.ga K "Parser") "sees" (toSp K (sp_Parser_sees K)) [] E0 (tVar 0) (tCons (tTup (tCons (tC (.str (S [110, 111, 116]))) tNil)) tNil))) (tSeq (tDrop (tMeth (He.ga K "Parser") "take" (toSp K (sp_Parser_take K)) [] E0 (tVar 0) tNil)) (tRet (tTup (tCons (tC (.str (S [110, 111, 116]))) (tCons (tMeth (He.ga K "Parser") "negation" (toSp K s_Parser_negation) [] E0 (tVar 0) tNil) tNil))))) tNext) (tSeq (tIfS (tB (tMeth (He.ga K "Parser") "sees" (toSp K (sp_Parser_sees K)) [] E0 (tVar 0) (tCons (tTup (tCons (tC (.str (S [91]))) tNil)) tNil))) (tSeq (tDrop (tMeth (He.ga K "Parser") "take" (toSp K (sp_Parser_take K)) [] E0 (tVar 0) tNil)) (tSeq (tAsg (tMeth (He.ga K "Parser") "condition" (toSp K s_Parser_condition) [] E0 (tVar 0) tNil) (gName 1)) (tSeq (tDrop (tMeth (He.ga K "Parser") "take_sign" (toSp K (sp_Parser_take_sign K)) [] E0 (tVar 0) (tCons (tTup (tCons (tC (.str (S [93]))) tNil)) tNil))) (tRet (tVar 1))))) tNext) (tSeq (tAsg (tMeth (He.ga K "Parser") "expression" (toSp K s_Parser_expression) [] E0 (tVar 0) tNil) (gName 2)) (tSeq (tAsg (tMeth (He.ga K "Parser") "take_sign" (toSp K (sp_Parser_take_sign K)) [] E0 (tVar 0) (tCons (tC (.ref (He.ga K "COMPARISONS"))) tNil)) (gName 3)) (tRet (tTup (tCons (tVar 3) (tCons (tVar 2) (tCons (tMeth (He.ga K "Parser") "expression" (toSp K s_Parser_expression) [] E0 (tVar 0) tNil) tNil)))))))))
abbrev DL_Parser_negation (K : Frag) (s_Parser_negation : SpD) (s_Parser_condition : SpD) (s_Parser_expression : SpD) (sp : SpD) : Prop := ∀ ds γ q e, loG γ.length γ = true → loL γ.length ds = true → sp ds γ q e → dS K γ.length (t_Parser_negation K s_Parser_negation s_Parser_condition s_Parser_expression) (ds.map some ++ List.replicate (4 - ds.length) none) γ { nx := fun _ γ' => Dr γ.length q .non γ', rt := Dr γ.length q }
def N_Parser_expression : List Str := ["self", "node", "sign"]
theorem sc_Parser_expression : FnScope N_Parser_expression ["self"] (defScope (inClass (top 21) 9)) := ⟨rfl, rfl, rfl, by decide +kernel, rfl, by decide +kernel, by decide +kernel⟩
def t_Parser_expression (K : Frag) (s_Parser_term : SpD) : TS := (tSeq (tAsg (tMeth (He.ga K "Parser") "term" (toSp K s_Parser_term) [] E0 (tVar 0) tNil) (gName 1)) (tSeq (tWhile (tB (tMeth (He.ga K "Parser") "sees" (toSp K (sp_Parser_sees K)) [] E0 (tVar 0) (tCons (tTup (tCons (tC (.str (S [43]))) (tCons (tC (.str (S [45]))) tNil))) tNil))) (tSeq (tAsg (tOp (rIx K) (tMeth (He.ga K "Parser") "take" (toSp K (sp_Parser_take K)) [] E0 (tVar 0) tNil) (tC (.int 1))) (gName 2)) (tAsg (tTup (tCons (tVar 2) (tCons (tVar 1) (tCons (tMeth (He.ga K "Parser") "term" (toSp K s_Parser_term) [] E0 (tVar 0) tNil) tNil)))) (gName 1)))) (tRet (tVar 1))))
abbrev DL_Parser_expression (K : Frag) (s_Parser_term : SpD) (sp : SpD) : Prop := ∀ ds γ q e, loG γ.length γ = true → loL γ.length ds = true → sp ds γ q e → dS K γ.length (t_Parser_expression K s_Parser_term) (ds.map some ++ List.replicate (3 - ds.length) none) γ { nx := fun _ γ' => Dr γ.length q .non γ', rt := Dr γ.length q }
def N_Parser_term : List Str := ["self", "node", "sign"]
theorem sc_Parser_term : FnScope N_Parser_term ["self"] (defScope (inClass (top 21) 10)) := ⟨rfl, rfl, rfl, by decide +kernel, rfl, by decide +kernel, by decide +kernel⟩
def t_Parser_term (K : Frag) (s_Parser_factor : SpD) : TS := (tSeq (tAsg (tMeth (He.ga K "Parser") "factor" (toSp K s_Parser_factor) [] E0 (tVar 0) tNil) (gName 1)) (tSeq (tWhile (tB (tMeth (He.ga K "Parser") "sees" (toSp K (sp_Parser_sees K)) [] E0 (tVar 0) (tCons (tTup (tCons (tC (.str (S [42]))) (tCons (tC (.str (S [47, 47]))) (tCons (tC (.str (S [109, 111, 100]))) tNil)))) tNil))) (tSeq (tAsg (tOp (rIx K) (tMeth (He.ga K "Parser") "take" (toSp K (sp_Parser_take K)) [] E0 (tVar 0) tNil) (tC (.int 1))) (gName 2)) (tAsg (tTup (tCons (tVar 2) (tCons (tVar 1) (tCons (tMeth (He.ga K "Parser") "factor" (toSp K s_Parser_factor) [] E0 (tVar 0) tNil) tNil)))) (gName 1)))) (tRet (tVar 1))))
abbrev DL_Parser_term (K : Frag) (s_Parser_factor : SpD) (sp : SpD) : Prop := ∀ ds γ q e, loG γ.length γ = true → loL γ.length ds = true → sp ds γ q e → dS K γ.length (t_Parser_term K s_Parser_factor) (ds.map some ++ List.replicate (3 - ds.length) none) γ { nx := fun _ γ' => Dr γ.length q .non γ', rt := Dr γ.length q }
def N_Parser_factor : List Str := ["self", "node", "kind", "value", "position"]
theorem sc_Parser_factor : FnScope N_Parser_factor ["self"] (defScope (inClass (top 21) 11)) := ⟨rfl, rfl, rfl, by decide +kernel, rfl, by decide +kernel, by decide +kernel⟩
def t_Parser_factor (K : Frag) (s_Parser_factor : SpD) (s_Parser_expression : SpD) (s_Parser_refuse : SpD) : TS := (tSeq (tIfS (tB (tMeth (He.ga K "Parser") "sees" (toSp K (sp_Parser_sees K)) [] E0 (tVar 0) (tCons (tTup (tCons (tC (.str (S [45]))) tNil)) tNil))) (tSeq (tDrop (tMeth (He.ga K "Parser") "take" (toSp K (sp_Parser_take K)) [] E0 (tVar 0) tNil)) (tRet (tTup (tCons (tC (.str (S [110, 101, 103, 97, 116, 101]))) (tCons (tMeth (He.ga K "Parser") "factor" (toSp K s_Parser_factor) [] E0 (tVar 0) tNil) tNil))))) tNext) (tSeq (tIfS (tB (tMeth (He.ga K "Parser") "sees" (toSp K (sp_Parser_sees K)) [] E0 (tVar 0) (tCons (tTup (tCons (tC (.str (S [40]))) tNil)) tNil))) (tSeq (tDrop (tMeth (He.ga K "Parser") "take" (toSp K (sp_Parser_take K)) [] E0 (tVar 0) tNil)) (tSeq (tAsg (tMeth (He.ga K "Parser") "expression" (toSp K s_Parser_expression) [] E0 (tVar 0) tNil) (gName 1)) (tSeq (tDrop (tMeth (He.ga K "Parser") "take_sign" (toSp K (sp_Parser_take_sign K)) [] E0 (tVar 0) (tCons (tTup (tCons (tC (.str (S [41]))) tNil)) tNil))) (tRet (tVar 1))))) tNext) (tSeq (tAsg (tOp (rIx K) (tFld K (tVar 0) "rest") (tFld K (tVar 0) "place")) (gTup K 3 (gCons (gName 2) (gCons (gName 3) (gCons (gName 4) gNil))))) (tSeq (tIfS (tTest (tOp (rNiG K) (tVar 2) (tTup (tCons (tC (.str (S [105, 110, 116, 101, 103, 101, 114]))) (tCons (tC (.str (S [110, 97, 109, 101]))) tNil))))) (tDrop (tMeth (He.ga K "Parser") "refuse" (toSp K s_Parser_refuse) [] E0 (tVar 0) tNil)) tNext) (tSeq (tDrop (tMeth (He.ga K "Parser") "take" (toSp K (sp_Parser_take K)) [] E0 (tVar 0) tNil)) (tRet (tIf (tTest (tOp (rEqG K) (tVar 2) (tC (.str (S [105, 110, 116, 101, 103, 101, 114]))))) (tTup (tCons (tC (.str (S [110, 117, 109, 98, 101, 114]))) (tCons (tCB rIntG (tCons (tVar 3) tNil)) tNil))) (tTup (tCons (tC (.str (S [118, 97, 114, 105, 97, 98, 108, 101]))) (tCons (tVar 3) tNil))))))))))
abbrev DL_Parser_factor (K : Frag) (s_Parser_factor : SpD) (s_Parser_expression : SpD) (s_Parser_refuse : SpD) (sp : SpD) : Prop := ∀ ds γ q e, loG γ.length γ = true → loL γ.length ds = true → sp ds γ q e → dS K γ.length (t_Parser_factor K s_Parser_factor s_Parser_expression s_Parser_refuse) (ds.map some ++ List.replicate (5 - ds.length) none) γ { nx := fun _ γ' => Dr γ.length q .non γ', rt := Dr γ.length q }
def N_parse_expression : List Str := ["text", "parser"]
theorem sc_parse_expression : FnScope N_parse_expression ["text"] (defScope (top 22)) := ⟨rfl, rfl, rfl, by decide +kernel, rfl, by decide +kernel, by decide +kernel⟩
def t_parse_expression (K : Frag) : TS := (tSeq (tAsg (tMake (He.ga K "Parser") (toSp K (sp_Parser_init K)) [] E0 (tCons (tVar 0) tNil)) (gName 1)) (tRet (tMeth (He.ga K "Parser") "finish" (toSp K (sp_Parser_finish K)) [] E0 (tVar 1) (tCons (tMeth (He.ga K "Parser") "expression" (toSp K (sp_Parser_expression K)) [] E0 (tVar 1) tNil) tNil))))
abbrev DL_parse_expression (K : Frag) (sp : SpD) : Prop := ∀ ds γ q e, loG γ.length γ = true → loL γ.length ds = true → sp ds γ q e → dS K γ.length (t_parse_expression K) (ds.map some ++ List.replicate (2 - ds.length) none) γ { nx := fun _ γ' => Dr γ.length q .non γ', rt := Dr γ.length q }
def N_parse_condition : List Str := ["text", "parser"]
theorem sc_parse_condition : FnScope N_parse_condition ["text"] (defScope (top 23)) := ⟨rfl, rfl, rfl, by decide +kernel, rfl, by decide +kernel, by decide +kernel⟩
def t_parse_condition (K : Frag) : TS := (tSeq (tAsg (tMake (He.ga K "Parser") (toSp K (sp_Parser_init K)) [] E0 (tCons (tVar 0) tNil)) (gName 1)) (tRet (tMeth (He.ga K "Parser") "finish" (toSp K (sp_Parser_finish K)) [] E0 (tVar 1) (tCons (tMeth (He.ga K "Parser") "condition" (toSp K (sp_Parser_condition K)) [] E0 (tVar 1) tNil) tNil))))
abbrev DL_parse_condition (K : Frag) (sp : SpD) : Prop := ∀ ds γ q e, loG γ.length γ = true → loL γ.length ds = true → sp ds γ q e → dS K γ.length (t_parse_condition K) (ds.map some ++ List.replicate (2 - ds.length) none) γ { nx := fun _ γ' => Dr γ.length q .non γ', rt := Dr γ.length q }
def N_is_of_conditions : List Str := ["word"]
theorem sc_is_of_conditions : FnScope N_is_of_conditions ["word"] (defScope (top 24)) := ⟨rfl, rfl, rfl, by decide +kernel, rfl, by decide +kernel, by decide +kernel⟩
def t_is_of_conditions (K : Frag) : TS := (tRet (tOp (rInG K) (tVar 0) (tTup (tCons (tC (.str (S [110, 111, 116]))) (tCons (tC (.str (S [97, 110, 100]))) (tCons (tC (.str (S [111, 114]))) tNil))))))
abbrev DL_is_of_conditions (K : Frag) (sp : SpD) : Prop := ∀ ds γ q e, loG γ.length γ = true → loL γ.length ds = true → sp ds γ q e → dS K γ.length (t_is_of_conditions K) (ds.map some ++ List.replicate (1 - ds.length) none) γ { nx := fun _ γ' => Dr γ.length q .non γ', rt := Dr γ.length q }
def N_bracketed : List Str := ["node", "least", "text"]
theorem sc_bracketed : FnScope N_bracketed ["node", "least"] (defScope (top 25)) := ⟨rfl, rfl, rfl, by decide +kernel, rfl, by decide +kernel, by decide +kernel⟩
def t_bracketed (K : Frag) (s_written : SpD) : TS := (tSeq (tAsg (tCall (toSp K s_written) [] E0 (tCons (tVar 0) tNil)) (gName 2)) (tSeq (tIfS (tTest (tOp rGeI (tKGet2 K "RANKS" (tC (.ref (He.ga K "RANKS"))) (tOp (rIx K) (tVar 0) (tC (.int 0))) (tC (.int 3))) (tVar 1))) (tRet (tVar 2)) tNext) (tRet (tIf (tB (tCall (toSp K (sp_is_of_conditions K)) [] E0 (tCons (tOp (rIx K) (tVar 0) (tC (.int 0))) tNil))) (tOp (rAddG K) (tOp (rAddG K) (tC (.str (S [91]))) (tVar 2)) (tC (.str (S [93])))) (tOp (rAddG K) (tOp (rAddG K) (tC (.str (S [40]))) (tVar 2)) (tC (.str (S [41]))))))))
abbrev DL_bracketed (K : Frag) (s_written : SpD) (sp : SpD) : Prop := ∀ ds γ q e, loG γ.length γ = true → loL γ.length ds = true → sp ds γ q e → dS K γ.length (t_bracketed K s_written) (ds.map some ++ List.replicate (3 - ds.length) none) γ { nx := fun _ γ' => Dr γ.length q .non γ', rt := Dr γ.length q }
def N_written : List Str := ["node", "word", "rank"]
theorem sc_written : FnScope N_written ["node"] (defScope (top 26)) := ⟨rfl, rfl, rfl, by decide +kernel, rfl, by decide +kernel, by decide +kernel⟩
def t_written (K : Frag) (s_bracketed : SpD) (s_written : SpD) : TS := (tSeq (tAsg (tOp (rIx K) (tVar 0) (tC (.int 0))) (gName 1)) (tSeq (tIfS (tTest (tOp (rInG K) (tVar 1) (tTup (tCons (tC (.str (S [110, 117, 109, 98, 101, 114]))) (tCons (tC (.str (S [118, 97, 114, 105, 97, 98, 108, 101]))) tNil))))) (tRet (tCB rStrG (tCons (tOp (rIx K) (tVar 0) (tC (.int 1))) tNil))) tNext) (tSeq (tIfS (tTest (tOp (rEqG K) (tVar 1) (tC (.str (S [110, 101, 103, 97, 116, 101]))))) (tRet (tOp (rAddG K) (tC (.str (S [45]))) (tCall (toSp K s_bracketed) [] E0 (tCons (tOp (rIx K) (tVar 0) (tC (.int 1))) (tCons (tC (.int 3)) tNil))))) tNext) (tSeq (tIfS (tTest (tOp (rEqG K) (tVar 1) (tC (.str (S [110, 111, 116]))))) (tRet (tOp (rAddG K) (tC (.str (S [110, 111, 116, 32]))) (tCall (toSp K s_bracketed) [] E0 (tCons (tOp (rIx K) (tVar 0) (tC (.int 1))) (tCons (tC (.int 3)) tNil))))) tNext) (tSeq (tIfS (tTest (tOp (rInG K) (tVar 1) (tC (.ref (He.ga K "COMPARISONS"))))) (tRet (tOp (rAddG K) (tOp (rAddG K) (tOp (rAddG K) (tOp (rAddG K) (tCall (toSp K s_written) [] E0 (tCons (tOp (rIx K) (tVar 0) (tC (.int 1))) tNil)) (tC (.str (S [32])))) (tVar 1)) (tC (.str (S [32])))) (tCall (toSp K s_written) [] E0 (tCons (tOp (rIx K) (tVar 0) (tC (.int 2))) tNil)))) tNext) (tSeq (tAsg (tOp (rKIx K "RANKS") (tC (.ref (He.ga K "RANKS"))) (tVar 1)) (gName 2)) (tRet (tOp (rAddG K) (tOp (rAddG K) (tOp (rAddG K) (tOp (rAddG K) (tCall (toSp K s_bracketed) [] E0 (tCons (tOp (rIx K) (tVar 0) (tC (.int 1))) (tCons (tVar 2) tNil))) (tC (.str (S [32])))) (tVar 1)) (tC (.str (S [32])))) (tCall (toSp K s_bracketed) [] E0 (tCons (tOp (rIx K) (tVar 0) (tC (.int 2))) (tCons (tOp (rAddG K) (tVar 2) (tC (.int 1))) tNil)))))))))))
abbrev DL_written (K : Frag) (s_bracketed : SpD) (s_written : SpD) (sp : SpD) : Prop := ∀ ds γ q e, loG γ.length γ = true → loL γ.length ds = true → sp ds γ q e → dS K γ.length (t_written K s_bracketed s_written) (ds.map some ++ List.replicate (3 - ds.length) none) γ { nx := fun _ γ' => Dr γ.length q .non γ', rt := Dr γ.length q }
def N_L_draw : List Str := ["_law_stream", "_law_many", "_law_digit", "_law_mixed"]
theorem sc_L_draw : FnScope N_L_draw ["_law_stream", "_law_many"] (defScope (top 28)) := ⟨rfl, rfl, rfl, by decide +kernel, rfl, by decide +kernel, by decide +kernel⟩
def t_L_draw (K : Frag) : TS := (tSeq (tAsg (tOp (rAddG K) (tOp (rIx K) (tVar 0) (tC (.int 2))) (tC (.int 1))) (gSub (tVar 0) (tC (.int 2)) rSetL)) (tSeq (tIfS (tAnd (tTest (tOp (rEqG K) (tOp (rIx K) (tVar 0) (tC (.int 1))) (tC (.int 0)))) (tTest (tOp (rNeG K) (tOp (rIx K) (tVar 0) (tC (.int 0))) (tLst tNil)))) (tSeq (tAsg (tBM K "list" rPopAt (tOp (rIx K) (tVar 0) (tC (.int 0))) (tCons (tC (.int 0)) tNil)) (gSub (tVar 0) (tC (.int 1)) rSetL)) (tIfS (tTest (tOp rLtI (tOp (rIx K) (tVar 0) (tC (.int 1))) (tOp rPow (tC (.int 10)) (tC (.int 18))))) (tSeq (tAsg (tOp rMod (tOp (rAddG K) (tOp (rAddG K) (tOp (rMulG K) (tOp (rIx K) (tVar 0) (tC (.int 3))) (tC (.int 31))) (tOp (rIx K) (tVar 0) (tC (.int 1)))) (tC (.int 7))) (tC (.int 2147483647))) (gSub (tVar 0) (tC (.int 3)) rSetL)) (tAsg (tC (.int 0)) (gSub (tVar 0) (tC (.int 1)) rSetL))) tNext)) tNext) (tSeq (tIfS (tTest (tOp rGtI (tOp (rIx K) (tVar 0) (tC (.int 1))) (tC (.int 0)))) (tSeq (tAsg (tOp rMod (tOp (rIx K) (tVar 0) (tC (.int 1))) (tVar 1)) (gName 2)) (tSeq (tAsg (tOp rFdiv (tOp (rIx K) (tVar 0) (tC (.int 1))) (tVar 1)) (gSub (tVar 0) (tC (.int 1)) rSetL)) (tRet (tVar 2)))) tNext) (tSeq (tAsg (tOp rMod (tOp rPow (tOp (rAddG K) (tOp (rAddG K) (tOp (rIx K) (tVar 0) (tC (.int 3))) (tOp (rMulG K) (tC (.int 104729)) (tOp (rIx K) (tVar 0) (tC (.int 2))))) (tC (.int 17))) (tC (.int 5))) (tC (.int 2147483629))) (gName 3)) (tRet (tOp rMod (tOp rMod (tOp rPow (tOp (rAddG K) (tOp (rAddG K) (tOp (rMulG K) (tVar 3) (tC (.int 48271))) (tOp (rMulG K) (tOp (rMulG K) (tC (.int 40503)) (tOp (rIx K) (tVar 0) (tC (.int 2)))) (tOp (rIx K) (tVar 0) (tC (.int 2))))) (tC (.int 13))) (tC (.int 3))) (tC (.int 1000000007))) (tVar 1)))))))
abbrev DL_L_draw (K : Frag) (sp : SpD) : Prop := ∀ ds γ q e, loG γ.length γ = true → loL γ.length ds = true → sp ds γ q e → dS K γ.length (t_L_draw K) (ds.map some ++ List.replicate (4 - ds.length) none) γ { nx := fun _ γ' => Dr γ.length q .non γ', rt := Dr γ.length q }
def N_L_reserved : List Str := []
theorem sc_L_reserved : FnScope N_L_reserved [] (defScope (top 29)) := ⟨rfl, rfl, rfl, by decide +kernel, rfl, by decide +kernel, by decide +kernel⟩
def t_L_reserved (K : Frag) : TS := (tRet (tBM K "str" rSplit (tC (.str (S [97, 110, 100, 32, 99, 104, 101, 99, 107, 112, 111, 105, 110, 116, 32, 101, 108, 115, 101, 32, 101, 110, 100, 32, 105, 102, 32, 105, 110, 112, 117, 116, 32, 109, 111, 100, 32, 110, 111, 116, 32, 111, 114, 32, 112, 114, 111, 99, 101, 115, 115, 32, 114, 101, 99, 101, 105, 118, 101, 32, 115, 101, 110, 100, 32, 115, 101, 116, 32, 116, 97, 107, 101, 32, 119, 104, 105, 108, 101]))) (tCons (tC (.str (S [32]))) tNil)))
abbrev DL_L_reserved (K : Frag) (sp : SpD) : Prop := ∀ ds γ q e, loG γ.length γ = true → loL γ.length ds = true → sp ds γ q e → dS K γ.length (t_L_reserved K) (ds.map some ++ List.replicate (0 - ds.length) none) γ { nx := fun _ γ' => Dr γ.length q .non γ', rt := Dr γ.length q }
def N_L_name : List Str := ["_law_stream", "_law_size", "_law_name_here", "_law_k"]
theorem sc_L_name : FnScope N_L_name ["_law_stream"] (defScope (top 30)) := ⟨rfl, rfl, rfl, by decide +kernel, rfl, by decide +kernel, by decide +kernel⟩
def t_L_name (K : Frag) : TS := (tSeq (tAsg (tOp (rIx K) (tLst (tCons (tC (.int 1)) (tCons (tC (.int 1)) (tCons (tC (.int 2)) (tCons (tC (.int 4)) (tCons (tC (.int 8)) tNil)))))) (tCall (toSp K (sp_L_draw K)) [] E0 (tCons (tVar 0) (tCons (tC (.int 5)) tNil)))) (gName 1)) (tSeq (tAsg (tBM K "str" (rJoin K) (tC (.str (S []))) (tCons (tLc (iRng1 (tCons (tVar 1) tNil)) (gName 3) tYes (tOp (rIx K) (tC (.str (S [97, 98, 99, 100, 101, 102, 103, 104, 105, 106, 107, 108, 109, 110, 111, 112, 113, 114, 115, 116, 117, 118, 119, 120, 121, 122]))) (tCall (toSp K (sp_L_draw K)) [] E0 (tCons (tVar 0) (tCons (tC (.int 26)) tNil)))) [3]) tNil)) (gName 2)) (tRet (tOp (rAddG K) (tVar 2) (tOp (rMulG K) (tC (.str (S [113]))) (tCB rIntG (tCons (tOp (rInG K) (tVar 2) (tCall (toSp K (sp_L_reserved K)) [] E0 tNil)) tNil)))))))
abbrev DL_L_name (K : Frag) (sp : SpD) : Prop := ∀ ds γ q e, loG γ.length γ = true → loL γ.length ds = true → sp ds γ q e → dS K γ.length (t_L_name K) (ds.map some ++ List.replicate (4 - ds.length) none) γ { nx := fun _ γ' => Dr γ.length q .non γ', rt := Dr γ.length q }
def N_L_names : List Str := ["_law_stream", "_law_many", "_law_found", "_law_k", "_law_name_here", "_law_spare"]
theorem sc_L_names : FnScope N_L_names ["_law_stream", "_law_many"] (defScope (top 31)) := ⟨rfl, rfl, rfl, by decide +kernel, rfl, by decide +kernel, by decide +kernel⟩
def t_L_names (K : Frag) : TS := (tSeq (tAsg (tLstM tNil) (gName 2)) (tSeq (tFor (iRng1 (tCons (tVar 1) tNil)) (gName 3) (tSeq (tAsg (tCall (toSp K (sp_L_name K)) [] E0 (tCons (tVar 0) tNil)) (gName 4)) (tSeq (tFor (iList K (tLst (tCons (tC (.str (S [112, 97]))) (tCons (tC (.str (S [112, 98]))) (tCons (tC (.str (S [112, 99]))) (tCons (tC (.str (S [112, 100]))) (tCons (tC (.str (S [112, 101]))) (tCons (tC (.str (S [112, 102]))) tNil)))))))) (gName 5) (tIfS (tTest (tOp (rInG K) (tVar 4) (tVar 2))) (tAsg (tVar 5) (gName 4)) tNext)) (tDrop (tBM K "list" rAppend (tVar 2) (tCons (tVar 4) tNil)))))) (tRet (tVar 2))))
abbrev DL_L_names (K : Frag) (sp : SpD) : Prop := ∀ ds γ q e, loG γ.length γ = true → loL γ.length ds = true → sp ds γ q e → dS K γ.length (t_L_names K) (ds.map some ++ List.replicate (6 - ds.length) none) γ { nx := fun _ γ' => Dr γ.length q .non γ', rt := Dr γ.length q }
def N_L_number : List Str := ["_law_stream"]
theorem sc_L_number : FnScope N_L_number ["_law_stream"] (defScope (top 32)) := ⟨rfl, rfl, rfl, by decide +kernel, rfl, by decide +kernel, by decide +kernel⟩
def t_L_number (K : Frag) : TS := (tRet (tOp (rIx K) (tLst (tCons (tC (.int 0)) (tCons (tC (.int 1)) (tCons (tC (.int 2)) (tCons (tC (.int 7)) (tCons (tC (.int 10)) (tCons (tC (.int 999)) (tCons (tOp rPow (tC (.int 10)) (tC (.int 29))) (tCons (tOp rSubD (tOp rPow (tC (.int 10)) (tC (.int 30))) (tC (.int 1))) tNil))))))))) (tCall (toSp K (sp_L_draw K)) [] E0 (tCons (tVar 0) (tCons (tC (.int 8)) tNil)))))
abbrev DL_L_number (K : Frag) (sp : SpD) : Prop := ∀ ds γ q e, loG γ.length γ = true → loL γ.length ds = true → sp ds γ q e → dS K γ.length (t_L_number K) (ds.map some ++ List.replicate (1 - ds.length) none) γ { nx := fun _ γ' => Dr γ.length q .non γ', rt := Dr γ.length q }
def N_L_sum : List Str := ["_law_stream", "_law_names_here", "_law_depth", "_law_way", "_law_word"]
theorem sc_L_sum : FnScope N_L_sum ["_law_stream", "_law_names_here", "_law_depth"] (defScope (top 33)) := ⟨rfl, rfl, rfl, by decide +kernel, rfl, by decide +kernel, by decide +kernel⟩
def t_L_sum (K : Frag) (s_L_sum : SpD) : TS := (tSeq (tAsg (tCall (toSp K (sp_L_draw K)) [] E0 (tCons (tVar 0) (tCons (tC (.int 9)) tNil))) (gName 3)) (tSeq (tIfS (tOr (tTest (tOp (rEqG K) (tVar 2) (tC (.int 0)))) (tTest (tOp (rEqG K) (tVar 3) (tC (.int 0))))) (tSeq (tIfS (tTest (tOp (rEqG K) (tCall (toSp K (sp_L_draw K)) [] E0 (tCons (tVar 0) (tCons (tC (.int 2)) tNil))) (tC (.int 0)))) (tRet (tTup (tCons (tC (.str (S [110, 117, 109, 98, 101, 114]))) (tCons (tCall (toSp K (sp_L_number K)) [] E0 (tCons (tVar 0) tNil)) tNil)))) tNext) (tRet (tTup (tCons (tC (.str (S [118, 97, 114, 105, 97, 98, 108, 101]))) (tCons (tOp (rIx K) (tVar 1) (tCall (toSp K (sp_L_draw K)) [] E0 (tCons (tVar 0) (tCons (tCB (rLenG K) (tCons (tVar 1) tNil)) tNil)))) tNil))))) tNext) (tSeq (tIfS (tTest (tOp rLtI (tVar 3) (tC (.int 3)))) (tRet (tTup (tCons (tC (.str (S [110, 101, 103, 97, 116, 101]))) (tCons (tCall (toSp K s_L_sum) [] E0 (tCons (tVar 0) (tCons (tVar 1) (tCons (tOp rSubD (tVar 2) (tC (.int 1))) tNil)))) tNil)))) tNext) (tSeq (tAsg (tOp (rIx K) (tLst (tCons (tC (.str (S [43]))) (tCons (tC (.str (S [45]))) (tCons (tC (.str (S [42]))) (tCons (tC (.str (S [47, 47]))) (tCons (tC (.str (S [109, 111, 100]))) tNil)))))) (tOp rMod (tVar 3) (tC (.int 5)))) (gName 4)) (tRet (tTup (tCons (tVar 4) (tCons (tCall (toSp K s_L_sum) [] E0 (tCons (tVar 0) (tCons (tVar 1) (tCons (tOp rSubD (tVar 2) (tC (.int 1))) tNil)))) (tCons (tCall (toSp K s_L_sum) [] E0 (tCons (tVar 0) (tCons (tVar 1) (tCons (tOp rSubD (tVar 2) (tC (.int 1))) tNil)))) tNil)))))))))
abbrev DL_L_sum (K : Frag) (s_L_sum : SpD) (sp : SpD) : Prop := ∀ ds γ q e, loG γ.length γ = true → loL γ.length ds = true → sp ds γ q e → dS K γ.length (t_L_sum K s_L_sum) (ds.map some ++ List.replicate (5 - ds.length) none) γ { nx := fun _ γ' => Dr γ.length q .non γ', rt := Dr γ.length q }
def N_L_truth : List Str := ["_law_stream", "_law_names_here", "_law_depth", "_law_way", "_law_sign", "_law_left", "_law_word"]
theorem sc_L_truth : FnScope N_L_truth ["_law_stream", "_law_names_here", "_law_depth"] (defScope (top 34)) := ⟨rfl, rfl, rfl, by decide +kernel, rfl, by decide +kernel, by decide +kernel⟩
def t_L_truth (K : Frag) (s_L_truth : SpD) : TS := (tSeq (tAsg (tCall (toSp K (sp_L_draw K)) [] E0 (tCons (tVar 0) (tCons (tC (.int 8)) tNil))) (gName 3)) (tSeq (tIfS (tOr (tTest (tOp (rEqG K) (tVar 2) (tC (.int 0)))) (tTest (tOp rLtI (tVar 3) (tC (.int 3))))) (tSeq (tAsg (tOp (rIx K) (tBM K "str" rSplit (tC (.str (S [61, 32, 33, 61, 32, 60, 32, 60, 61, 32, 62, 32, 62, 61]))) (tCons (tC (.str (S [32]))) tNil)) (tCall (toSp K (sp_L_draw K)) [] E0 (tCons (tVar 0) (tCons (tC (.int 6)) tNil)))) (gName 4)) (tSeq (tAsg (tCall (toSp K (sp_L_sum K)) [] E0 (tCons (tVar 0) (tCons (tVar 1) (tCons (tCall (toSp K (sp_L_draw K)) [] E0 (tCons (tVar 0) (tCons (tC (.int 3)) tNil))) tNil)))) (gName 5)) (tRet (tTup (tCons (tVar 4) (tCons (tVar 5) (tCons (tCall (toSp K (sp_L_sum K)) [] E0 (tCons (tVar 0) (tCons (tVar 1) (tCons (tCall (toSp K (sp_L_draw K)) [] E0 (tCons (tVar 0) (tCons (tC (.int 3)) tNil))) tNil)))) tNil))))))) tNext) (tSeq (tIfS (tTest (tOp (rEqG K) (tVar 3) (tC (.int 3)))) (tRet (tTup (tCons (tC (.str (S [110, 111, 116]))) (tCons (tCall (toSp K s_L_truth) [] E0 (tCons (tVar 0) (tCons (tVar 1) (tCons (tOp rSubD (tVar 2) (tC (.int 1))) tNil)))) tNil)))) tNext) (tSeq (tAsg (tOp (rIx K) (tLst (tCons (tC (.str (S [111, 114]))) (tCons (tC (.str (S [97, 110, 100]))) tNil))) (tOp rMod (tVar 3) (tC (.int 2)))) (gName 6)) (tRet (tTup (tCons (tVar 6) (tCons (tCall (toSp K s_L_truth) [] E0 (tCons (tVar 0) (tCons (tVar 1) (tCons (tOp rSubD (tVar 2) (tC (.int 1))) tNil)))) (tCons (tCall (toSp K s_L_truth) [] E0 (tCons (tVar 0) (tCons (tVar 1) (tCons (tOp rSubD (tVar 2) (tC (.int 1))) tNil)))) tNil)))))))))
abbrev DL_L_truth (K : Frag) (s_L_truth : SpD) (sp : SpD) : Prop := ∀ ds γ q e, loG γ.length γ = true → loL γ.length ds = true → sp ds γ q e → dS K γ.length (t_L_truth K s_L_truth) (ds.map some ++ List.replicate (7 - ds.length) none) γ { nx := fun _ γ' => Dr γ.length q .non γ', rt := Dr γ.length q }
def N_L_rank : List Str := ["_law_word"]
theorem sc_L_rank : FnScope N_L_rank ["_law_word"] (defScope (top 35)) := ⟨rfl, rfl, rfl, by decide +kernel, rfl, by decide +kernel, by decide +kernel⟩
def t_L_rank (K : Frag) : TS := (tRet (tDGet2 (tDisp [((tC (.str (S [111, 114]))), (tC (.int 1))), ((tC (.str (S [97, 110, 100]))), (tC (.int 2))), ((tC (.str (S [43]))), (tC (.int 1))), ((tC (.str (S [45]))), (tC (.int 1))), ((tC (.str (S [42]))), (tC (.int 2))), ((tC (.str (S [47, 47]))), (tC (.int 2))), ((tC (.str (S [109, 111, 100]))), (tC (.int 2)))]) (tVar 0) (tC (.int 3))))
abbrev DL_L_rank (K : Frag) (sp : SpD) : Prop := ∀ ds γ q e, loG γ.length γ = true → loL γ.length ds = true → sp ds γ q e → dS K γ.length (t_L_rank K) (ds.map some ++ List.replicate (1 - ds.length) none) γ { nx := fun _ γ' => Dr γ.length q .non γ', rt := Dr γ.length q }
def N_L_tokens : List Str := ["_law_stream", "_law_node", "_law_least", "_law_word", "_law_rank_here", "_law_some", "_law_bars"]
theorem sc_L_tokens : FnScope N_L_tokens ["_law_stream", "_law_node", "_law_least"] (defScope (top 36)) := ⟨rfl, rfl, rfl, by decide +kernel, rfl, by decide +kernel, by decide +kernel⟩
def t_L_tokens (K : Frag) (s_L_tokens : SpD) : TS := (tSeq (tAsg (tOp (rIx K) (tVar 1) (tC (.int 0))) (gName 3)) (tSeq (tAsg (tCall (toSp K (sp_L_rank K)) [] E0 (tCons (tVar 3) tNil)) (gName 4)) (tSeq (tIfS (tTest (tOp (rInG K) (tVar 3) (tTup (tCons (tC (.str (S [110, 117, 109, 98, 101, 114]))) (tCons (tC (.str (S [118, 97, 114, 105, 97, 98, 108, 101]))) tNil))))) (tAsg (tLst (tCons (tCB rStrG (tCons (tOp (rIx K) (tVar 1) (tC (.int 1))) tNil)) tNil)) (gName 5)) (tIfS (tTest (tOp (rInG K) (tVar 3) (tTup (tCons (tC (.str (S [110, 101, 103, 97, 116, 101]))) (tCons (tC (.str (S [110, 111, 116]))) tNil))))) (tAsg (tOp (rAddG K) (tLst (tCons (tOp (rIx K) (tLst (tCons (tC (.str (S [45]))) (tCons (tC (.str (S [110, 111, 116]))) tNil))) (tCB rIntG (tCons (tOp (rEqG K) (tVar 3) (tC (.str (S [110, 111, 116])))) tNil))) tNil)) (tCall (toSp K s_L_tokens) [] E0 (tCons (tVar 0) (tCons (tOp (rIx K) (tVar 1) (tC (.int 1))) (tCons (tC (.int 3)) tNil))))) (gName 5)) (tIfS (tTest (tOp (rInG K) (tVar 3) (tBM K "str" rSplit (tC (.str (S [61, 32, 33, 61, 32, 60, 32, 60, 61, 32, 62, 32, 62, 61]))) (tCons (tC (.str (S [32]))) tNil)))) (tAsg (tOp (rAddG K) (tOp (rAddG K) (tCall (toSp K s_L_tokens) [] E0 (tCons (tVar 0) (tCons (tOp (rIx K) (tVar 1) (tC (.int 1))) (tCons (tC (.int 1)) tNil)))) (tLst (tCons (tVar 3) tNil))) (tCall (toSp K s_L_tokens) [] E0 (tCons (tVar 0) (tCons (tOp (rIx K) (tVar 1) (tC (.int 2))) (tCons (tC (.int 1)) tNil))))) (gName 5)) (tAsg (tOp (rAddG K) (tOp (rAddG K) (tCall (toSp K s_L_tokens) [] E0 (tCons (tVar 0) (tCons (tOp (rIx K) (tVar 1) (tC (.int 1))) (tCons (tVar 4) tNil)))) (tLst (tCons (tVar 3) tNil))) (tCall (toSp K s_L_tokens) [] E0 (tCons (tVar 0) (tCons (tOp (rIx K) (tVar 1) (tC (.int 2))) (tCons (tOp (rAddG K) (tVar 4) (tC (.int 1))) tNil))))) (gName 5))))) (tSeq (tAsg (tOp (rIx K) (tLst (tCons (tC (.str (S [40, 41]))) (tCons (tC (.str (S [91, 93]))) tNil))) (tCB rIntG (tCons (tOp (rInG K) (tVar 3) (tBM K "str" rSplit (tC (.str (S [111, 114, 32, 97, 110, 100, 32, 110, 111, 116, 32, 61, 32, 33, 61, 32, 60, 32, 60, 61, 32, 62, 32, 62, 61]))) (tCons (tC (.str (S [32]))) tNil))) tNil))) (gName 6)) (tSeq (tIfS (tOr (tTest (tOp rLtI (tVar 4) (tVar 2))) (tTest (tOp (rEqG K) (tCall (toSp K (sp_L_draw K)) [] E0 (tCons (tVar 0) (tCons (tC (.int 6)) tNil))) (tC (.int 0))))) (tRet (tOp (rAddG K) (tOp (rAddG K) (tLst (tCons (tOp (rIx K) (tVar 6) (tC (.int 0))) tNil)) (tVar 5)) (tLst (tCons (tOp (rIx K) (tVar 6) (tC (.int 1))) tNil)))) tNext) (tRet (tVar 5)))))))
abbrev DL_L_tokens (K : Frag) (s_L_tokens : SpD) (sp : SpD) : Prop := ∀ ds γ q e, loG γ.length γ = true → loL γ.length ds = true → sp ds γ q e → dS K γ.length (t_L_tokens K s_L_tokens) (ds.map some ++ List.replicate (7 - ds.length) none) γ { nx := fun _ γ' => Dr γ.length q .non γ', rt := Dr γ.length q }
def N_L_canonical : List Str := ["_law_node", "_law_least", "_law_word", "_law_rank_here", "_law_text_here", "_law_bars"]
theorem sc_L_canonical : FnScope N_L_canonical ["_law_node", "_law_least"] (defScope (top 37)) := ⟨rfl, rfl, rfl, by decide +kernel, rfl, by decide +kernel, by decide +kernel⟩
def t_L_canonical (K : Frag) (s_L_canonical : SpD) : TS := (tSeq (tAsg (tOp (rIx K) (tVar 0) (tC (.int 0))) (gName 2)) (tSeq (tAsg (tCall (toSp K (sp_L_rank K)) [] E0 (tCons (tVar 2) tNil)) (gName 3)) (tSeq (tIfS (tTest (tOp (rInG K) (tVar 2) (tTup (tCons (tC (.str (S [110, 117, 109, 98, 101, 114]))) (tCons (tC (.str (S [118, 97, 114, 105, 97, 98, 108, 101]))) tNil))))) (tAsg (tCB rStrG (tCons (tOp (rIx K) (tVar 0) (tC (.int 1))) tNil)) (gName 4)) (tIfS (tTest (tOp (rInG K) (tVar 2) (tTup (tCons (tC (.str (S [110, 101, 103, 97, 116, 101]))) (tCons (tC (.str (S [110, 111, 116]))) tNil))))) (tAsg (tOp (rAddG K) (tOp (rIx K) (tLst (tCons (tC (.str (S [45]))) (tCons (tC (.str (S [110, 111, 116, 32]))) tNil))) (tCB rIntG (tCons (tOp (rEqG K) (tVar 2) (tC (.str (S [110, 111, 116])))) tNil))) (tCall (toSp K s_L_canonical) [] E0 (tCons (tOp (rIx K) (tVar 0) (tC (.int 1))) (tCons (tC (.int 3)) tNil)))) (gName 4)) (tIfS (tTest (tOp (rInG K) (tVar 2) (tBM K "str" rSplit (tC (.str (S [61, 32, 33, 61, 32, 60, 32, 60, 61, 32, 62, 32, 62, 61]))) (tCons (tC (.str (S [32]))) tNil)))) (tAsg (tBM K "str" (rJoin K) (tC (.str (S [32]))) (tCons (tLst (tCons (tCall (toSp K s_L_canonical) [] E0 (tCons (tOp (rIx K) (tVar 0) (tC (.int 1))) (tCons (tC (.int 1)) tNil))) (tCons (tVar 2) (tCons (tCall (toSp K s_L_canonical) [] E0 (tCons (tOp (rIx K) (tVar 0) (tC (.int 2))) (tCons (tC (.int 1)) tNil))) tNil)))) tNil)) (gName 4)) (tAsg (tBM K "str" (rJoin K) (tC (.str (S [32]))) (tCons (tLst (tCons (tCall (toSp K s_L_canonical) [] E0 (tCons (tOp (rIx K) (tVar 0) (tC (.int 1))) (tCons (tVar 3) tNil))) (tCons (tVar 2) (tCons (tCall (toSp K s_L_canonical) [] E0 (tCons (tOp (rIx K) (tVar 0) (tC (.int 2))) (tCons (tOp (rAddG K) (tVar 3) (tC (.int 1))) tNil))) tNil)))) tNil)) (gName 4))))) (tSeq (tAsg (tOp (rIx K) (tLst (tCons (tC (.str (S [40, 41]))) (tCons (tC (.str (S [91, 93]))) tNil))) (tCB rIntG (tCons (tOp (rInG K) (tVar 2) (tTup (tCons (tC (.str (S [111, 114]))) (tCons (tC (.str (S [97, 110, 100]))) tNil)))) tNil))) (gName 5)) (tRet (tIf (tTest (tOp rLtI (tVar 3) (tVar 1))) (tOp (rAddG K) (tOp (rAddG K) (tOp (rIx K) (tVar 5) (tC (.int 0))) (tVar 4)) (tOp (rIx K) (tVar 5) (tC (.int 1)))) (tVar 4)))))))
abbrev DL_L_canonical (K : Frag) (s_L_canonical : SpD) (sp : SpD) : Prop := ∀ ds γ q e, loG γ.length γ = true → loL γ.length ds = true → sp ds γ q e → dS K γ.length (t_L_canonical K s_L_canonical) (ds.map some ++ List.replicate (6 - ds.length) none) γ { nx := fun _ γ' => Dr γ.length q .non γ', rt := Dr γ.length q }
def N_L_grows : List Str := ["_law_one", "_law_other", "_law_letters", "_law_figures"]
theorem sc_L_grows : FnScope N_L_grows ["_law_one", "_law_other"] (defScope (top 38)) := ⟨rfl, rfl, rfl, by decide +kernel, rfl, by decide +kernel, by decide +kernel⟩
def t_L_grows (K : Frag) : TS := (tSeq (tAsg (tTup (tCons (tC (.str (S [97, 98, 99, 100, 101, 102, 103, 104, 105, 106, 107, 108, 109, 110, 111, 112, 113, 114, 115, 116, 117, 118, 119, 120, 121, 122]))) (tCons (tC (.str (S [48, 49, 50, 51, 52, 53, 54, 55, 56, 57]))) tNil))) (gTup K 2 (gCons (gName 2) (gCons (gName 3) gNil)))) (tSeq (tIfS (tOr (tAnd (tTest (tOp (rInG K) (tOp (rIx K) (tVar 0) (tUn rNeg (tC (.int 1)))) (tVar 2))) (tTest (tOp (rInG K) (tOp (rIx K) (tVar 1) (tC (.int 0))) (tVar 2)))) (tAnd (tTest (tOp (rInG K) (tOp (rIx K) (tVar 0) (tUn rNeg (tC (.int 1)))) (tVar 3))) (tTest (tOp (rInG K) (tOp (rIx K) (tVar 1) (tC (.int 0))) (tVar 3))))) (tRet (tC (.bl true))) tNext) (tRet (tOrV (tAndV (tOp (rInG K) (tVar 0) (tTup (tCons (tC (.str (S [60]))) (tCons (tC (.str (S [62]))) (tCons (tC (.str (S [33]))) tNil))))) (tOp (rEqG K) (tOp (rIx K) (tVar 1) (tC (.int 0))) (tC (.str (S [61]))))) (tAndV (tOp (rEqG K) (tVar 0) (tC (.str (S [47])))) (tOp (rEqG K) (tOp (rIx K) (tVar 1) (tC (.int 0))) (tC (.str (S [47])))))))))
abbrev DL_L_grows (K : Frag) (sp : SpD) : Prop := ∀ ds γ q e, loG γ.length γ = true → loL γ.length ds = true → sp ds γ q e → dS K γ.length (t_L_grows K) (ds.map some ++ List.replicate (4 - ds.length) none) γ { nx := fun _ γ' => Dr γ.length q .non γ', rt := Dr γ.length q }
def N_L_text : List Str := ["_law_stream", "_law_some", "_law_text_here", "_law_positions", "_law_k", "_law_spaces"]
theorem sc_L_text : FnScope N_L_text ["_law_stream", "_law_some"] (defScope (top 39)) := ⟨rfl, rfl, rfl, by decide +kernel, rfl, by decide +kernel, by decide +kernel⟩
def t_L_text (K : Frag) : TS := (tSeq (tAsg (tOp (rMulG K) (tC (.str (S [32]))) (tOp (rIx K) (tLst (tCons (tC (.int 0)) (tCons (tC (.int 0)) (tCons (tC (.int 0)) (tCons (tC (.int 2)) tNil))))) (tCall (toSp K (sp_L_draw K)) [] E0 (tCons (tVar 0) (tCons (tC (.int 4)) tNil))))) (gName 2)) (tSeq (tAsg (tLstM tNil) (gName 3)) (tSeq (tFor (iRng1 (tCons (tCB (rLenG K) (tCons (tVar 1) tNil)) tNil)) (gName 4) (tSeq (tAsg (tOp (rIx K) (tLst (tCons (tC (.int 0)) (tCons (tC (.int 0)) (tCons (tC (.int 1)) (tCons (tC (.int 1)) (tCons (tC (.int 3)) tNil)))))) (tCall (toSp K (sp_L_draw K)) [] E0 (tCons (tVar 0) (tCons (tC (.int 5)) tNil)))) (gName 5)) (tSeq (tIfS (tAnd (tTest (tOp rGtI (tVar 4) (tC (.int 0)))) (tB (tCall (toSp K (sp_L_grows K)) [] E0 (tCons (tOp (rIx K) (tVar 1) (tOp rSubD (tVar 4) (tC (.int 1)))) (tCons (tOp (rIx K) (tVar 1) (tVar 4)) tNil))))) (tAsg (tCB rMax2 (tCons (tC (.int 1)) (tCons (tVar 5) tNil))) (gName 5)) tNext) (tSeq (tAsg (tOp (rAddG K) (tVar 2) (tOp (rMulG K) (tC (.str (S [32]))) (tOp (rMulG K) (tVar 5) (tCB rIntG (tCons (tOp rGtI (tVar 4) (tC (.int 0))) tNil))))) (gName 2)) (tSeq (tDrop (tBM K "list" rAppend (tVar 3) (tCons (tCB (rLenG K) (tCons (tVar 2) tNil)) tNil))) (tAsg (tOp (rAddG K) (tVar 2) (tOp (rIx K) (tVar 1) (tVar 4))) (gName 2))))))) (tRet (tLst (tCons (tOp (rAddG K) (tVar 2) (tOp (rMulG K) (tC (.str (S [32]))) (tOp (rIx K) (tLst (tCons (tC (.int 0)) (tCons (tC (.int 0)) (tCons (tC (.int 0)) (tCons (tC (.int 2)) tNil))))) (tCall (toSp K (sp_L_draw K)) [] E0 (tCons (tVar 0) (tCons (tC (.int 4)) tNil)))))) (tCons (tVar 3) tNil)))))))
abbrev DL_L_text (K : Frag) (sp : SpD) : Prop := ∀ ds γ q e, loG γ.length γ = true → loL γ.length ds = true → sp ds γ q e → dS K γ.length (t_L_text K) (ds.map some ++ List.replicate (6 - ds.length) none) γ { nx := fun _ γ' => Dr γ.length q .non γ', rt := Dr γ.length q }
def N_L_is_within : List Str := ["_law_text_here", "_law_sign"]
theorem sc_L_is_within : FnScope N_L_is_within ["_law_text_here"] (defScope (top 40)) := ⟨rfl, rfl, rfl, by decide +kernel, rfl, by decide +kernel, by decide +kernel⟩
def t_L_is_within (K : Frag) : TS := (tRet (tAndV (tOp rLeI (tCB (rLenG K) (tCons (tVar 0) tNil)) (tC (.int 400))) (tOp rLeI (tCB (rMax K) (tCons (tLc (iTup K (tTup (tCons (tC (.str (S [40]))) (tCons (tC (.str (S [91]))) (tCons (tC (.str (S [45]))) (tCons (tC (.str (S [110, 111, 116]))) tNil)))))) (gName 1) tYes (tBM K "str" rCount (tVar 0) (tCons (tVar 1) tNil)) [1]) tNil)) (tC (.int 40)))))
abbrev DL_L_is_within (K : Frag) (sp : SpD) : Prop := ∀ ds γ q e, loG γ.length γ = true → loL γ.length ds = true → sp ds γ q e → dS K γ.length (t_L_is_within K) (ds.map some ++ List.replicate (2 - ds.length) none) γ { nx := fun _ γ' => Dr γ.length q .non γ', rt := Dr γ.length q }
def N_L_parsed : List Str := ["_law_start", "_law_text_here", "_law_found", "e"]
theorem sc_L_parsed : FnScope N_L_parsed ["_law_start", "_law_text_here"] (defScope (top 41)) := ⟨rfl, rfl, rfl, by decide +kernel, rfl, by decide +kernel, by decide +kernel⟩
def t_L_parsed (K : Frag) : TS := (tSeq (tAsg (tC .non) (gName 2)) (tSeq (tAsg (tIf (tTest (tOp (rEqG K) (tVar 0) (tC (.str (S [69]))))) (tCall (toSp K (sp_parse_expression K)) [] E0 (tCons (tVar 1) tNil)) (tCall (toSp K (sp_parse_condition K)) [] E0 (tCons (tVar 1) tNil))) (gName 2)) (tRet (tVar 2))))
abbrev DL_L_parsed (K : Frag) (sp : SpD) : Prop := ∀ ds γ q e, loG γ.length γ = true → loL γ.length ds = true → sp ds γ q e → dS K γ.length (t_L_parsed K) (ds.map some ++ List.replicate (4 - ds.length) none) γ { nx := fun _ γ' => Dr γ.length q .non γ', rt := Dr γ.length q }
def N_L_listed : List Str := ["_law_node", "_law_part"]
theorem sc_L_listed : FnScope N_L_listed ["_law_node"] (defScope (top 42)) := ⟨rfl, rfl, rfl, by decide +kernel, rfl, by decide +kernel, by decide +kernel⟩
def t_L_listed (K : Frag) (s_L_listed : SpD) : TS := (tRet (tIf (tB (tCB (rIsi K) (tCons (tVar 0) (tCons (tC (.ty "tuple")) tNil)))) (tLc (iTup K (tVar 0)) (gName 1) tYes (tCall (toSp K s_L_listed) [] E0 (tCons (tVar 1) tNil)) [1]) (tVar 0)))
abbrev DL_L_listed (K : Frag) (s_L_listed : SpD) (sp : SpD) : Prop := ∀ ds γ q e, loG γ.length γ = true → loL γ.length ds = true → sp ds γ q e → dS K γ.length (t_L_listed K s_L_listed) (ds.map some ++ List.replicate (2 - ds.length) none) γ { nx := fun _ γ' => Dr γ.length q .non γ', rt := Dr γ.length q }
def N_law : List Str := ["_law_script", "_law_stream", "_law_turn", "_law_names_here", "_law_start", "_law_depth", "_law_node", "_law_due", "_law_text_here", "_law_positions", "_law_handed", "_law_texts"]
theorem sc_law : FnScope N_law ["_law_script"] (defScope (top 43)) := ⟨rfl, rfl, rfl, by decide +kernel, rfl, by decide +kernel, by decide +kernel⟩
def t_law (K : Frag) : TS := (tSeq (tFor (iRng1 (tCons (tC (.int 6)) tNil)) (gName 2) (tSeq (tAsg (tCall (toSp K (sp_L_names K)) [] E0 (tCons (tVar 1) (tCons (tC (.int 3)) tNil))) (gName 3)) (tSeq (tAsg (tOp (rIx K) (tC (.str (S [69, 67]))) (tCall (toSp K (sp_L_draw K)) [] E0 (tCons (tVar 1) (tCons (tC (.int 2)) tNil)))) (gName 4)) (tSeq (tAsg (tOp (rAddG K) (tC (.int 1)) (tCall (toSp K (sp_L_draw K)) [] E0 (tCons (tVar 1) (tCons (tC (.int 3)) tNil)))) (gName 5)) (tSeq (tAsg (tIf (tTest (tOp (rEqG K) (tVar 4) (tC (.str (S [69]))))) (tCall (toSp K (sp_L_sum K)) [] E0 (tCons (tVar 1) (tCons (tVar 3) (tCons (tOp (rAddG K) (tVar 5) (tC (.int 1))) tNil)))) (tCall (toSp K (sp_L_truth K)) [] E0 (tCons (tVar 1) (tCons (tVar 3) (tCons (tVar 5) tNil))))) (gName 6)) (tSeq (tAsg (tCall (toSp K (sp_L_canonical K)) [] E0 (tCons (tVar 6) (tCons (tC (.int 1)) tNil))) (gName 7)) (tSeq (tAsg (tCall (toSp K (sp_L_text K)) [] E0 (tCons (tVar 1) (tCons (tCall (toSp K (sp_L_tokens K)) [] E0 (tCons (tVar 1) (tCons (tVar 6) (tCons (tC (.int 1)) tNil)))) tNil))) (gUnl K 2 (gCons (gName 8) (gCons (gName 9) gNil)))) (tIfS (tB (tCall (toSp K (sp_L_is_within K)) [] E0 (tCons (tVar 7) tNil))) (tSeq (tAsg (tOp (rIx K) (tLst (tCons (tVar 6) (tCons (tCall (toSp K (sp_L_listed K)) [] E0 (tCons (tVar 6) tNil)) tNil))) (tCall (toSp K (sp_L_draw K)) [] E0 (tCons (tVar 1) (tCons (tC (.int 2)) tNil)))) (gName 10)) (tSeq (tIfS (tOr (tTest (tOp (rNeG K) (tCall (toSp K (sp_written K)) [] E0 (tCons (tVar 10) tNil)) (tVar 7))) (tOr (tTest (tOp (rNeG K) (tCall (toSp K (sp_written K)) [] E0 (tCons (tVar 10) tNil)) (tVar 7))) (tTest (tOp (rNeG K) (tCall (toSp K (sp_L_parsed K)) [] E0 (tCons (tVar 4) (tCons (tVar 7) tNil))) (tVar 6))))) (tRet (tC (.bl false))) tNext) (tIfS (tAnd (tB (tCall (toSp K (sp_L_is_within K)) [] E0 (tCons (tVar 8) tNil))) (tTest (tOp (rNeG K) (tCall (toSp K (sp_written K)) [] E0 (tCons (tCall (toSp K (sp_L_parsed K)) [] E0 (tCons (tVar 4) (tCons (tVar 8) tNil))) tNil)) (tVar 7)))) (tRet (tC (.bl false))) tNext))) tNext)))))))) (tSeq (tFor (iTup K (tTup (tCons (tC (.str (S [110, 111, 116, 32, 91, 97, 32, 61, 32, 49, 32, 111, 114, 32, 98, 32, 61, 32, 50, 93, 32, 97, 110, 100, 32, 99, 32, 60, 32, 48]))) (tCons (tC (.str (S [97, 32, 61, 32, 49, 32, 111, 114, 32, 91, 98, 32, 61, 32, 50, 32, 111, 114, 32, 99, 32, 61, 32, 51, 93]))) (tCons (tC (.str (S [110, 111, 116, 32, 110, 111, 116, 32, 97, 32, 47, 47, 32, 50, 32, 109, 111, 100, 32, 51, 32, 33, 61, 32, 45, 98]))) tNil))))) (gName 8) (tIfS (tTest (tOp (rNeG K) (tCall (toSp K (sp_written K)) [] E0 (tCons (tCall (toSp K (sp_parse_condition K)) [] E0 (tCons (tVar 8) tNil)) tNil)) (tVar 8))) (tRet (tC (.bl false))) tNext)) (tSeq (tAsg (tLst (tCons (tOp (rAddG K) (tOp (rAddG K) (tOp (rMulG K) (tC (.str (S [40]))) (tC (.int 40))) (tC (.str (S [97])))) (tOp (rMulG K) (tC (.str (S [41]))) (tC (.int 40)))) (tCons (tOp (rAddG K) (tOp (rMulG K) (tC (.str (S [45]))) (tC (.int 40))) (tC (.str (S [49])))) (tCons (tC (.str (S [45, 40, 97, 32, 43, 32, 98, 41, 32, 42, 32, 45, 45, 99]))) (tCons (tC (.str (S [40, 40, 97, 41, 45, 40, 98, 45, 99, 41, 41]))) tNil))))) (gName 11)) (tSeq (tIfS (tTest (tOp (rNeG K) (tLc (iList K (tVar 11)) (gName 8) tYes (tCall (toSp K (sp_written K)) [] E0 (tCons (tCall (toSp K (sp_parse_expression K)) [] E0 (tCons (tVar 8) tNil)) tNil)) [8]) (tLst (tCons (tC (.str (S [97]))) (tCons (tOp (rAddG K) (tOp (rMulG K) (tC (.str (S [45]))) (tC (.int 40))) (tC (.str (S [49])))) (tCons (tC (.str (S [45, 40, 97, 32, 43, 32, 98, 41, 32, 42, 32, 45, 45, 99]))) (tCons (tC (.str (S [97, 32, 45, 32, 40, 98, 32, 45, 32, 99, 41]))) tNil))))))) (tRet (tC (.bl false))) tNext) (tSeq (tAsg (tLst (tCons (tOp (rAddG K) (tOp (rAddG K) (tOp (rMulG K) (tC (.str (S [91]))) (tC (.int 40))) (tC (.str (S [97, 32, 61, 32, 49])))) (tOp (rMulG K) (tC (.str (S [93]))) (tC (.int 40)))) (tCons (tOp (rAddG K) (tOp (rMulG K) (tC (.str (S [110, 111, 116, 32]))) (tC (.int 40))) (tC (.str (S [97, 32, 61, 32, 49])))) tNil))) (gName 11)) (tRet (tOp (rEqG K) (tLc (iList K (tVar 11)) (gName 8) tYes (tCall (toSp K (sp_written K)) [] E0 (tCons (tCall (toSp K (sp_parse_condition K)) [] E0 (tCons (tVar 8) tNil)) tNil)) [8]) (tLst (tCons (tC (.str (S [97, 32, 61, 32, 49]))) (tCons (tOp (rAddG K) (tOp (rMulG K) (tC (.str (S [110, 111, 116, 32]))) (tC (.int 40))) (tC (.str (S [97, 32, 61, 32, 49])))) tNil))))))))))
abbrev DL_law (K : Frag) : Prop := dLaw K N_law (t_law K)
end K07

set_option Elab.async false
set_option linter.all false
set_option maxRecDepth 100000
set_option maxHeartbeats 4000000
namespace K07
open PySem PySem.Spec PyProof.Rows L2 DL
local macro_rules | `(tactic| walk_at "GO") => `(tactic| repeat' (first | with_reducible refine xs_seq ?_ | with_reducible refine xs_set ?_ | with_reducible refine xs_asg ?_ | with_reducible refine xs_if ?_ | with_reducible refine xs_ret ?_ | with_reducible refine xs_next ?_ | with_reducible refine xs_expr ?_ | with_reducible refine xs_fld ?_ | with_reducible refine xs_par ?_ | with_reducible refine xs_retN ?_ | with_reducible refine xs_brk ?_ | with_reducible refine xp_nil ?_ | with_reducible refine xp_cons ?_ | with_reducible refine xe_disp ?_ | with_reducible refine de_dget2 ?_ | with_reducible refine xs_cont ?_ | with_reducible refine da_nil ?_ | with_reducible refine da_cons ?_ | with_reducible refine de_int ?_ | with_reducible refine de_str ?_ | with_reducible refine de_bl ?_ | with_reducible refine de_non ?_ | with_reducible refine de_ty ?_ | ((with_reducible refine xe_var ?_); refine ⟨_, rfl, ?_⟩) | with_reducible refine de_op ?_ | with_reducible refine de_un ?_ | with_reducible refine de_call ?_ | with_reducible refine de_cb ?_ | with_reducible refine de_sl ?_ | with_reducible refine do_none ?_ | with_reducible refine do_some ?_ | with_reducible refine de_if ?_ | with_reducible refine de_andV ?_ | with_reducible refine de_orV ?_ | with_reducible refine de_notV ?_ | with_reducible refine de_chain ?_ | with_reducible refine dt_test ?_ | with_reducible refine dt_B ?_ | with_reducible refine dt_and ?_ | with_reducible refine dt_or ?_ | with_reducible refine dt_not ?_ | (with_reducible refine xe_tup ?_) | (with_reducible refine xe_lst ?_) | (with_reducible refine xe_lstM ?_) | with_reducible refine q_RESERVED (by assumption) ?_ | with_reducible refine q_WORDS (by assumption) ?_ | with_reducible refine q_SIGNS (by assumption) ?_ | (with_reducible refine de_meth ?_) | (with_reducible refine de_bm ?_) | (with_reducible refine de_bm0 ?_) | (with_reducible refine ⟨isTy_str, ?_⟩) | (with_reducible refine ⟨xty_lst ⟨_, rfl⟩, ?_⟩) | with_reducible refine radd_int ?_ | with_reducible refine radd_S ?_ ?_ | with_reducible refine rsub_int ?_ | with_reducible refine req_int ?_ | with_reducible refine rne_int ?_ | with_reducible refine req_S ?_ | with_reducible refine rne_S ?_ | with_reducible refine rlt_int ?_ | with_reducible refine rle_int ?_ | with_reducible refine rgt_int ?_ | with_reducible refine rge_int ?_ | with_reducible refine rneg_int ?_ | with_reducible refine rin_sgn ?_ | with_reducible refine rni_sgn ?_ | with_reducible refine rc_len_S ?_ ?_ | with_reducible refine rc_int_bl ?_ | with_reducible refine rc_str_int ?_ ?_ | with_reducible refine rc_str_str ?_ | with_reducible refine rc_max2 ?_ | ((with_reducible refine xc_isi ?_); refine ⟨_, _, rfl, rfl, ?_⟩) | with_reducible refine di_str ?_ | with_reducible refine di_list ?_ | with_reducible refine di_tup ?_ | with_reducible refine di_rng1 ?_ | with_reducible refine di_rng2 ?_ | with_reducible refine ift ?_ | with_reducible refine iff_ ?_ | with_reducible refine ifnt ?_ | with_reducible refine ifnf ?_ | with_reducible refine rin_strs (.inr rfl) ?_ | with_reducible refine rni_strs (.inr rfl) ?_ | with_reducible refine rin_strs (.inl rfl) ?_ | with_reducible refine rni_strs (.inl rfl) ?_ | ((with_reducible refine rin_seq (.inr rfl) ?_ ?_ ?_); rfl; rfl) | ((with_reducible refine rin_seq (.inl rfl) ?_ ?_ ?_); rfl; rfl) | ((with_reducible refine rni_seq (.inr rfl) ?_ ?_ ?_); rfl; rfl) | ((with_reducible refine rni_seq (.inl rfl) ?_ ?_ ?_); rfl; rfl) | (with_reducible refine xix_tup ?_) | ((with_reducible refine xc_len ?_); refine ⟨_, .inl rfl, ?_⟩) | ((with_reducible refine xc_len ?_); refine ⟨_, .inr rfl, ?_⟩) | (with_reducible refine rm_count ?_) | (with_reducible refine ⟨_, rfl, ?_⟩) | (with_reducible refine ⟨_, _, rfl, ?_⟩) | ((with_reducible refine xix_lst ?_); refine ⟨_, rfl, _, rfl, ?_⟩) | ((with_reducible refine xadd_lst ?_); refine ⟨_, rfl, _, rfl, ?_, ?_⟩) | with_reducible refine rmul_int ?_ ?_ | with_reducible refine rmod_int ?_ ?_ | with_reducible refine rfdiv_int ?_ ?_ | with_reducible refine rpow_int ?_ ?_ | with_reducible refine xg_setL ?_ | refine ⟨_, _, _, _, rfl, rfl, rfl, rfl, ?_⟩ | with_reducible refine xg_name ?_ | with_reducible refine xg_tup rfl ?_ | with_reducible refine xgs_name ?_ | with_reducible refine xgs_nil ?_ | (with_reducible refine ⟨Nat.le_of_ble_eq_true rfl, ?_⟩) | fail))
theorem resv : RESERVED_L = RESV := rfl
theorem wrds : WORDS_L = WRDS := rfl
theorem sgns : SIGNS_L = SGNS := rfl
theorem dl_is_name {K : Frag} {mg : Str → Option Value} (T : Tx K mg) : DL_is_name K (sp_is_name K) := by
  rintro ds γ q e lo1 lo2 ⟨l, rfl, hl, hq⟩
  refine dS_env (ρ' := [some (.str (S l)), none]) rfl ?_
  unfold t_is_name
  walk_at "GO"
  · omega
  refine ifd (fun c1 => ?_) (fun c1 => ?_)
  · walk_at "GO"
    refine ifnd (fun c2 => ?_) (fun c2 => ?_)
    · walk_at "GO"
      have : isName l = false := by simp [isName]; omega
      exact .inl (this ▸ hq)
    · walk_at "GO"
      refine ifd (fun c3 => ?_) (fun c3 => ?_)
      · walk_at "GO"
        have : isName l = false := by rw [resv] at c3; simp [isName, c3]
        exact .inl (this ▸ hq)
      · walk_at "GO"
        refine xe_lcN l (fun c => .str (S [c])) (fun c => .bl (decide (c ∈ LET))) (by simp) ?_
        walk_at "GO"
        refine ⟨chrsD_S, by omega, fun c hc => ?_, ?_⟩
        · walk_at "GO"
          exact ⟨rfl, rfl⟩
        · rw [map_bl]
          walk_at "GO"
          refine rc_all rfl ?_
          have : ((l.map fun c => decide (c ∈ LET)).all id) = isName l := by
            rw [resv] at c3
            rw [List.all_map]
            have c1' : 1 ≤ l.length := by omega
            have c2' : l.length ≤ 8 := by omega
            simp [isName, c3, c1', c2']
          rw [this]
          exact .inl hq
  · walk_at "GO"
    have : isName l = false := by simp [isName]; omega
    exact .inl (this ▸ hq)
theorem dl_is_number {K : Frag} {mg : Str → Option Value} (T : Tx K mg) : DL_is_number K (sp_is_number K) := by
  rintro ds γ q e lo1 lo2 ⟨l, rfl, hl, hq⟩
  refine dS_env (ρ' := [some (.str (S l)), none]) rfl ?_
  unfold t_is_number
  walk_at "GO"
  · omega
  refine ifd (fun c1 => ?_) (fun c1 => ?_)
  · walk_at "GO"
    refine ifnd (fun c2 => ?_) (fun c2 => ?_)
    · walk_at "GO"
      have : isNum l = false := by simp [isNum]; omega
      exact .inl (this ▸ hq)
    · walk_at "GO"
      refine xe_lcN l (fun c => .str (S [c])) (fun c => .bl (decide (c ∈ FIG))) (by simp) ?_
      walk_at "GO"
      refine ⟨chrsD_S, by omega, fun c hc => ?_, ?_⟩
      · walk_at "GO"
        exact ⟨rfl, rfl⟩
      · rw [map_bl]
        walk_at "GO"
        refine rc_all rfl ?_
        walk_at "GO"
        have e0 : ((l.map fun c => decide (c ∈ FIG)).all id) = l.all fun c => decide (c ∈ FIG) := by rw [List.all_map]; rfl
        rw [e0]
        cases l with
        | nil => simp at c1
        | cons a r =>
        have c2' : r.length + 1 ≤ 30 := by simpa using Int.ofNat_le.mp c2
        have e1 : isNum (a :: r) = (((a :: r).all fun c => decide (c ∈ FIG)) && (decide (a :: r = [48]) || !decide (a = 48))) := by
          unfold isNum
          have h1 : decide (0 < (a :: r).length) = true := by simp
          have h2 : decide ((a :: r).length ≤ 30) = true := by simpa using c2'
          rw [h1, h2]
          simp
        rw [e1] at hq
        cases ea : (a :: r).all fun c => decide (c ∈ FIG) with
        | false =>
          rw [ea] at hq
          walk_at "GO"
          exact .inl hq
        | true =>
          rw [ea] at hq
          walk_at "GO"
          refine ifd (fun c3 => ?_) (fun c3 => ?_)
          · rw [show decide (a :: r = [48]) = true from decide_eq_true c3] at hq
            exact .inl hq
          · walk_at "GO"
            refine xix_str (by omega) ⟨a, at_nat (j := 0) rfl, ?_⟩
            walk_at "GO"
            rw [show decide (a :: r = [48]) = false from decide_eq_false c3] at hq
            rw [show decide ([a] = [48]) = decide (a = 48) by simp]
            exact .inl hq
  · walk_at "GO"
    have : isNum l = false := by
      have : l = [] := by cases l with | nil => rfl | cons a r => exact absurd (by simp) c1
      subst this; rfl
    exact .inl (this ▸ hq)
theorem run_step {g r : List Nat} {c : Nat} {t : List Nat} (h : r = c :: t) : (runOf g r).length = if c ∈ g then (runOf g t).length + 1 else 0 := by
  subst h
  unfold runOf
  rw [List.takeWhile_cons]
  by_cases hc : c ∈ g
  · rw [if_pos hc, if_pos (by simpa using hc)]; rfl
  · rw [if_neg hc, if_neg (by simpa using hc)]; rfl
theorem dl_end_of_run {K : Frag} {mg : Str → Option Value} (T : Tx K mg) : DL_end_of_run K (sp_end_of_run K) := by
  rintro ds γ q e lo1 lo2 ⟨l, g, s, rfl, hl, hs, hq⟩
  refine dS_env (ρ' := [some (.str (S l)), some (.int s), some (.str (S g)), none]) rfl ?_
  unfold t_end_of_run
  walk_at "GO"
  refine xs_while (fun m ρ γ' => ∃ j : Nat, s + j ≤ l.length ∧ m = l.length - (s + j) ∧ γ' = γ ∧ ρ = [some (.str (S l)), some (.int s), some (.str (S g)), some (.int ((s + j : Nat) : Int))] ∧ j + (runOf g (l.drop (s + j))).length = (runOf g (l.drop s)).length) ⟨_, 0, by simpa using hs, rfl, rfl, rfl, by simp⟩ ?_
  rintro m ρ γ' ⟨j, hj, rfl, rfl, rfl, hr⟩
  walk_at "GO"
  · omega
  refine ifd (fun c1 => ?_) (fun c1 => ?_)
  · have hlt : s + j < l.length := by omega
    have hx : l[s + j]? = some l[s + j] := List.getElem?_eq_getElem hlt
    have hd : l.drop (s + j) = l[s + j] :: l.drop (s + j + 1) := List.drop_eq_getElem_cons hlt
    rw [run_step hd] at hr
    walk_at "GO"
    refine xix_str (by omega) ⟨_, at_nat hx, ?_⟩
    walk_at "GO"
    refine ifd (fun c2 => ?_) (fun c2 => ?_)
    · rw [if_pos c2] at hr
      walk_at "GO"
      exact ⟨_, by omega, j + 1, by omega, rfl, rfl, rfl, by rw [← hr]; simp only [Nat.add_assoc]; omega⟩
    · rw [if_neg c2] at hr
      walk_at "GO"
      rw [← hr] at hq
      exact .inl hq
  · walk_at "GO"
    have hz : s + j = l.length := by omega
    rw [hz, List.drop_length] at hr
    rw [← hr] at hq
    exact .inl hq
end K07

set_option Elab.async false
set_option linter.all false
set_option maxRecDepth 100000
set_option maxHeartbeats 4000000
namespace K07
open PySem PySem.Spec PyProof.Rows L2 DL
local macro_rules | `(tactic| walk_at "GO") => `(tactic| repeat' (first | with_reducible refine xs_seq ?_ | with_reducible refine xs_set ?_ | with_reducible refine xs_asg ?_ | with_reducible refine xs_if ?_ | with_reducible refine xs_ret ?_ | with_reducible refine xs_next ?_ | with_reducible refine xs_expr ?_ | with_reducible refine xs_fld ?_ | with_reducible refine xs_par ?_ | with_reducible refine xs_retN ?_ | with_reducible refine xs_brk ?_ | with_reducible refine xp_nil ?_ | with_reducible refine xp_cons ?_ | with_reducible refine xe_disp ?_ | with_reducible refine de_dget2 ?_ | with_reducible refine xs_cont ?_ | with_reducible refine da_nil ?_ | with_reducible refine da_cons ?_ | with_reducible refine de_int ?_ | with_reducible refine de_str ?_ | with_reducible refine de_bl ?_ | with_reducible refine de_non ?_ | with_reducible refine de_ty ?_ | ((with_reducible refine xe_var ?_); refine ⟨_, rfl, ?_⟩) | with_reducible refine de_op ?_ | with_reducible refine de_un ?_ | with_reducible refine de_call ?_ | with_reducible refine de_cb ?_ | with_reducible refine de_sl ?_ | with_reducible refine do_none ?_ | with_reducible refine do_some ?_ | with_reducible refine de_if ?_ | with_reducible refine de_andV ?_ | with_reducible refine de_orV ?_ | with_reducible refine de_notV ?_ | with_reducible refine de_chain ?_ | with_reducible refine dt_test ?_ | with_reducible refine dt_B ?_ | with_reducible refine dt_and ?_ | with_reducible refine dt_or ?_ | with_reducible refine dt_not ?_ | (with_reducible refine xe_tup ?_) | (with_reducible refine xe_lst ?_) | (with_reducible refine xe_lstM ?_) | with_reducible refine q_RESERVED (by assumption) ?_ | with_reducible refine q_WORDS (by assumption) ?_ | with_reducible refine q_SIGNS (by assumption) ?_ | (with_reducible refine de_meth ?_) | (with_reducible refine de_bm ?_) | (with_reducible refine de_bm0 ?_) | (with_reducible refine ⟨isTy_str, ?_⟩) | (with_reducible refine ⟨xty_lst ⟨_, rfl⟩, ?_⟩) | with_reducible refine radd_int ?_ | with_reducible refine radd_S ?_ ?_ | with_reducible refine rsub_int ?_ | with_reducible refine req_int ?_ | with_reducible refine rne_int ?_ | with_reducible refine req_S ?_ | with_reducible refine rne_S ?_ | with_reducible refine rlt_int ?_ | with_reducible refine rle_int ?_ | with_reducible refine rgt_int ?_ | with_reducible refine rge_int ?_ | with_reducible refine rneg_int ?_ | with_reducible refine rin_sgn ?_ | with_reducible refine rni_sgn ?_ | with_reducible refine rc_len_S ?_ ?_ | with_reducible refine rc_int_bl ?_ | with_reducible refine rc_str_int ?_ ?_ | with_reducible refine rc_str_str ?_ | with_reducible refine rc_max2 ?_ | ((with_reducible refine xc_isi ?_); refine ⟨_, _, rfl, rfl, ?_⟩) | with_reducible refine di_str ?_ | with_reducible refine di_list ?_ | with_reducible refine di_tup ?_ | with_reducible refine di_rng1 ?_ | with_reducible refine di_rng2 ?_ | with_reducible refine ift ?_ | with_reducible refine iff_ ?_ | with_reducible refine ifnt ?_ | with_reducible refine ifnf ?_ | with_reducible refine rin_strs (.inr rfl) ?_ | with_reducible refine rni_strs (.inr rfl) ?_ | with_reducible refine rin_strs (.inl rfl) ?_ | with_reducible refine rni_strs (.inl rfl) ?_ | ((with_reducible refine rin_seq (.inr rfl) ?_ ?_ ?_); rfl; rfl) | ((with_reducible refine rin_seq (.inl rfl) ?_ ?_ ?_); rfl; rfl) | ((with_reducible refine rni_seq (.inr rfl) ?_ ?_ ?_); rfl; rfl) | ((with_reducible refine rni_seq (.inl rfl) ?_ ?_ ?_); rfl; rfl) | (with_reducible refine xix_tup ?_) | ((with_reducible refine xc_len ?_); refine ⟨_, .inl rfl, ?_⟩) | ((with_reducible refine xc_len ?_); refine ⟨_, .inr rfl, ?_⟩) | (with_reducible refine rm_count ?_) | (with_reducible refine ⟨_, rfl, ?_⟩) | (with_reducible refine ⟨_, _, rfl, ?_⟩) | ((with_reducible refine xix_lst ?_); refine ⟨_, rfl, _, rfl, ?_⟩) | ((with_reducible refine xadd_lst ?_); refine ⟨_, rfl, _, rfl, ?_, ?_⟩) | with_reducible refine rmul_int ?_ ?_ | with_reducible refine rmod_int ?_ ?_ | with_reducible refine rfdiv_int ?_ ?_ | with_reducible refine rpow_int ?_ ?_ | with_reducible refine xg_setL ?_ | refine ⟨_, _, _, _, rfl, rfl, rfl, rfl, ?_⟩ | with_reducible refine xg_name ?_ | with_reducible refine xg_tup rfl ?_ | with_reducible refine xgs_name ?_ | with_reducible refine xgs_nil ?_ | (with_reducible refine ⟨Nat.le_of_ble_eq_true rfl, ?_⟩) | fail))
theorem cutD_nat {A : Type} {l : List A} {s e : Nat} (hs : s ≤ l.length) : DL.cutD l (some (s : Int)) (some (e : Int)) = (l.drop s).take (e - s) := by
  unfold DL.cutD
  rw [HT.sIx_nat, HT.sIx_nat, Nat.min_eq_left hs]
  by_cases h : e ≤ l.length
  · rw [Nat.min_eq_left h]
  · rw [Nat.min_eq_right (by omega), List.take_of_length_le (by simp), List.take_of_length_le (by simp; omega)]
theorem take_run {g r : List Nat} : r.take (runOf g r).length = runOf g r := (List.prefix_iff_eq_take.mp (List.takeWhile_prefix _)).symm
theorem run_le {g r : List Nat} : (runOf g r).length ≤ r.length := (List.takeWhile_prefix _).length_le
theorem find_at {A : Type} {p : A → Bool} : ∀ {xs : List A} {i : Nat} {g : A}, (∀ j x, j < i → xs[j]? = some x → p x = false) → xs[i]? = some g → p g = true → xs.find? p = some g
  | [], i, g, _, h, _ => by simp at h
  | x :: xs, 0, g, _, h, hp => by
    simp at h; subst h
    rw [List.find?_cons, hp]
  | x :: xs, i + 1, g, hn, h, hp => by
    have h0 := hn 0 x (by omega) rfl
    rw [List.find?_cons, h0]
    exact find_at (i := i) (fun j y hj hy => hn (j + 1) y (by omega) (by simpa using hy)) (by simpa using h) hp
theorem tokA_let {r : List Nat} {c : Nat} {t : List Nat} {s : Nat} (h : r = c :: t) (hc : c ∈ LET) : tokA r s = (⟨if runOf LET r ∈ WRDS then .sign else if isName (runOf LET r) then .name else .odd, runOf LET r, s⟩, (runOf LET r).length) := by
  subst h
  unfold tokA
  simp only [if_pos hc]
theorem tokA_fig {r : List Nat} {c : Nat} {t : List Nat} {s : Nat} (h : r = c :: t) (hc : c ∉ LET) (hf : c ∈ FIG) : tokA r s = (⟨if isNum (runOf FIG r) then .integer else .odd, runOf FIG r, s⟩, (runOf FIG r).length) := by
  subst h
  unfold tokA
  simp only [if_neg hc, if_pos hf]
theorem tokA_sgn {r : List Nat} {c : Nat} {t : List Nat} {s : Nat} (h : r = c :: t) (hc : c ∉ LET) (hf : c ∉ FIG) : tokA r s = match SGNS.find? fun g => decide (r.take g.length = g) with
      | some g => (⟨.sign, g, s⟩, g.length)
      | none => (⟨.odd, [c], s⟩, 1) := by
  subst h
  unfold tokA
  simp only [if_neg hc, if_neg hf] <;> rfl
theorem dl_token_at {K : Frag} {mg : Str → Option Value} (T : Tx K mg) : DL_token_at K (sp_token_at K) := by
  rintro ds γ q e lo1 lo2 ⟨l, s, rfl, hl, hs, hq⟩
  refine dS_env (ρ' := [some (.str (S l)), some (.int s), none, none, none, none]) rfl ?_
  unfold t_token_at
  have hx : l[s]? = some l[s] := List.getElem?_eq_getElem hs
  have hd : l.drop s = l[s] :: l.drop (s + 1) := List.drop_eq_getElem_cons hs
  have hrl : (l.drop s).length = l.length - s := List.length_drop
  walk_at "GO"
  refine xix_str (by omega) ⟨_, at_nat hx, ?_⟩
  walk_at "GO"
  refine ifd (fun c1 => ?_) (fun c1 => ?_)
  · have htk := tokA_let (s := s) hd c1
    have hrle := @run_le LET (l.drop s)
    have htr := @take_run LET (l.drop s)
    rw [htk] at hq
    generalize hw : runOf LET (l.drop s) = w at *
    walk_at "GO"
    refine ⟨l, LET, s, rfl, hl, by omega, ?_⟩
    rw [hw]
    walk_at "GO"
    refine rsl_str (by omega) ?_
    rw [cutD_nat (by omega), Nat.add_sub_cancel_left, htr]
    walk_at "GO"
    refine ifd (fun c2 => ?_) (fun c2 => ?_)
    · rw [wrds] at c2
      rw [if_pos c2] at hq
      walk_at "GO"
      exact .inl hq
    · rw [wrds] at c2
      rw [if_neg c2] at hq
      walk_at "GO"
      refine ⟨_, rfl, by omega, ?_⟩
      walk_at "GO"
      cases hn : isName w with
      | true =>
        rw [hn] at hq
        walk_at "GO"
        exact .inl hq
      | false =>
        rw [hn] at hq
        walk_at "GO"
        exact .inl hq
  · walk_at "GO"
    refine xix_str (by omega) ⟨_, at_nat hx, ?_⟩
    walk_at "GO"
    refine ifd (fun c2 => ?_) (fun c2 => ?_)
    · have htk := tokA_fig (s := s) hd c1 c2
      have hrle := @run_le FIG (l.drop s)
      have htr := @take_run FIG (l.drop s)
      rw [htk] at hq
      generalize hw : runOf FIG (l.drop s) = w at *
      walk_at "GO"
      refine ⟨l, FIG, s, rfl, hl, by omega, ?_⟩
      rw [hw]
      walk_at "GO"
      refine rsl_str (by omega) ?_
      rw [cutD_nat (by omega), Nat.add_sub_cancel_left, htr]
      walk_at "GO"
      refine ⟨_, rfl, by omega, ?_⟩
      walk_at "GO"
      cases hn : isNum w with
      | true =>
        rw [hn] at hq
        walk_at "GO"
        refine rsl_str (by omega) ?_
        rw [cutD_nat (by omega), Nat.add_sub_cancel_left, htr]
        walk_at "GO"
        exact .inl hq
      | false =>
        rw [hn] at hq
        walk_at "GO"
        refine rsl_str (by omega) ?_
        rw [cutD_nat (by omega), Nat.add_sub_cancel_left, htr]
        walk_at "GO"
        exact .inl hq
    · have htk := tokA_sgn (s := s) hd c1 c2
      rw [htk] at hq
      walk_at "GO"
      refine xs_for [5] ?_
      walk_at "GO"
      rw [sgns]
      refine ⟨fun i ρ γ' => γ' = γ ∧ (∃ o, ρ = [some (.str (S l)), some (.int s), none, none, none, o]) ∧ ∀ j x, j < i → SGNS[j]? = some x → decide ((l.drop s).take x.length = x) = false, ⟨rfl, ⟨_, rfl⟩, fun j x hj => absurd hj (by omega)⟩, ?_, ?_⟩
      · rintro i x ρ γ' hi ⟨rfl, ⟨o, rfl⟩, hn⟩
        unfold strsD at hi
        rw [List.getElem?_map] at hi
        cases hg : SGNS[i]? with
        | none => rw [hg] at hi; cases hi
        | some g =>
        rw [hg] at hi
        cases hi
        have hgl : g.length ≤ 2 := by
          have h1 : g ∈ SGNS := List.mem_of_getElem? hg
          have h2 : ∀ x ∈ SGNS, x.length ≤ 2 := by decide
          exact h2 g h1
        refine dg_name ?_
        walk_at "GO"
        · omega
        refine rsl_str (by omega) ?_
        rw [show ((s : Int) + (g.length : Int)) = ((s + g.length : Nat) : Int) by simp, cutD_nat (by omega), Nat.add_sub_cancel_left]
        walk_at "GO"
        refine ifd (fun c3 => ?_) (fun c3 => ?_)
        · rw [find_at hn hg (by simpa using c3)] at hq
          walk_at "GO"
          · omega
          exact .inl hq
        · walk_at "GO"
          refine ⟨rfl, ⟨_, rfl⟩, fun j x hj hx => ?_⟩
          by_cases hji : j = i
          · subst hji
            rw [hg] at hx
            cases hx
            simpa using c3
          · exact hn j x (by omega) hx
      · rintro ρ γ' ⟨rfl, ⟨o, rfl⟩, hn⟩
        have hf : SGNS.find? (fun g => decide ((l.drop s).take g.length = g)) = none := by
          rw [List.find?_eq_none]
          intro x hx
          obtain ⟨j, hj⟩ := List.getElem?_of_mem hx
          have hjl : j < SGNS.length := (List.getElem?_eq_some_iff.mp hj).1
          have := hn j x (by simpa [strsD] using hjl) hj
          simpa using this
        rw [hf] at hq
        walk_at "GO"
        refine xix_str (by omega) ⟨_, at_nat hx, ?_⟩
        walk_at "GO"
        exact .inl hq
end K07

set_option Elab.async false
set_option linter.all false
set_option maxRecDepth 100000
set_option maxHeartbeats 4000000
namespace K07
open PySem PySem.Spec PyProof.Rows L2 DL
local macro_rules | `(tactic| walk_at "GO") => `(tactic| repeat' (first | with_reducible refine xs_seq ?_ | with_reducible refine xs_set ?_ | with_reducible refine xs_asg ?_ | with_reducible refine xs_if ?_ | with_reducible refine xs_ret ?_ | with_reducible refine xs_next ?_ | with_reducible refine xs_expr ?_ | with_reducible refine xs_fld ?_ | with_reducible refine xs_par ?_ | with_reducible refine xs_retN ?_ | with_reducible refine xs_brk ?_ | with_reducible refine xp_nil ?_ | with_reducible refine xp_cons ?_ | with_reducible refine xe_disp ?_ | with_reducible refine de_dget2 ?_ | with_reducible refine xs_cont ?_ | with_reducible refine da_nil ?_ | with_reducible refine da_cons ?_ | with_reducible refine de_int ?_ | with_reducible refine de_str ?_ | with_reducible refine de_bl ?_ | with_reducible refine de_non ?_ | with_reducible refine de_ty ?_ | ((with_reducible refine xe_var ?_); refine ⟨_, rfl, ?_⟩) | with_reducible refine de_op ?_ | with_reducible refine de_un ?_ | with_reducible refine de_call ?_ | with_reducible refine de_cb ?_ | with_reducible refine de_sl ?_ | with_reducible refine do_none ?_ | with_reducible refine do_some ?_ | with_reducible refine de_if ?_ | with_reducible refine de_andV ?_ | with_reducible refine de_orV ?_ | with_reducible refine de_notV ?_ | with_reducible refine de_chain ?_ | with_reducible refine dt_test ?_ | with_reducible refine dt_B ?_ | with_reducible refine dt_and ?_ | with_reducible refine dt_or ?_ | with_reducible refine dt_not ?_ | (with_reducible refine xe_tup ?_) | (with_reducible refine xe_lst ?_) | (with_reducible refine xe_lstM ?_) | with_reducible refine q_RESERVED (by assumption) ?_ | with_reducible refine q_WORDS (by assumption) ?_ | with_reducible refine q_SIGNS (by assumption) ?_ | (with_reducible refine de_meth ?_) | with_reducible refine de_fld (f := "rest") (Tx.cl_Parser (by assumption)) (Tx.na_Parser_rest (by assumption)) ?_ | with_reducible refine de_fld (f := "place") (Tx.cl_Parser (by assumption)) (Tx.na_Parser_place (by assumption)) ?_ | (with_reducible refine de_bm ?_) | (with_reducible refine de_bm0 ?_) | (with_reducible refine ⟨isTy_str, ?_⟩) | (with_reducible refine ⟨xty_lst ⟨_, rfl⟩, ?_⟩) | with_reducible refine radd_int ?_ | with_reducible refine radd_S ?_ ?_ | with_reducible refine rsub_int ?_ | with_reducible refine req_int ?_ | with_reducible refine rne_int ?_ | with_reducible refine req_S ?_ | with_reducible refine rne_S ?_ | with_reducible refine rlt_int ?_ | with_reducible refine rle_int ?_ | with_reducible refine rgt_int ?_ | with_reducible refine rge_int ?_ | with_reducible refine rneg_int ?_ | with_reducible refine rin_sgn ?_ | with_reducible refine rni_sgn ?_ | with_reducible refine rc_len_S ?_ ?_ | with_reducible refine rc_int_bl ?_ | with_reducible refine rc_str_int ?_ ?_ | with_reducible refine rc_str_str ?_ | with_reducible refine rc_max2 ?_ | ((with_reducible refine xc_isi ?_); refine ⟨_, _, rfl, rfl, ?_⟩) | with_reducible refine di_str ?_ | with_reducible refine di_list ?_ | with_reducible refine di_tup ?_ | with_reducible refine di_rng1 ?_ | with_reducible refine di_rng2 ?_ | with_reducible refine ift ?_ | with_reducible refine iff_ ?_ | with_reducible refine ifnt ?_ | with_reducible refine ifnf ?_ | with_reducible refine rin_strs (.inr rfl) ?_ | with_reducible refine rni_strs (.inr rfl) ?_ | with_reducible refine rin_strs (.inl rfl) ?_ | with_reducible refine rni_strs (.inl rfl) ?_ | ((with_reducible refine rin_seq (.inr rfl) ?_ ?_ ?_); rfl; rfl) | ((with_reducible refine rin_seq (.inl rfl) ?_ ?_ ?_); rfl; rfl) | ((with_reducible refine rni_seq (.inr rfl) ?_ ?_ ?_); rfl; rfl) | ((with_reducible refine rni_seq (.inl rfl) ?_ ?_ ?_); rfl; rfl) | (with_reducible refine xix_tup ?_) | ((with_reducible refine xc_len ?_); refine ⟨_, .inl rfl, ?_⟩) | ((with_reducible refine xc_len ?_); refine ⟨_, .inr rfl, ?_⟩) | (with_reducible refine rm_count ?_) | (with_reducible refine ⟨_, rfl, ?_⟩) | (with_reducible refine ⟨_, _, rfl, ?_⟩) | ((with_reducible refine xix_lst ?_); refine ⟨_, rfl, _, rfl, ?_⟩) | ((with_reducible refine xadd_lst ?_); refine ⟨_, rfl, _, rfl, ?_, ?_⟩) | with_reducible refine rmul_int ?_ ?_ | with_reducible refine rmod_int ?_ ?_ | with_reducible refine rfdiv_int ?_ ?_ | with_reducible refine rpow_int ?_ ?_ | with_reducible refine xg_setL ?_ | refine ⟨_, _, _, _, rfl, rfl, rfl, rfl, ?_⟩ | with_reducible refine xg_name ?_ | with_reducible refine xg_tup rfl ?_ | with_reducible refine xgs_name ?_ | with_reducible refine xgs_nil ?_ | (with_reducible refine ⟨Nat.le_of_ble_eq_true rfl, ?_⟩) | fail))
theorem get_app {γ : Ga} {a : MO} {r : Ga} : (γ ++ a :: r)[γ.length]? = some a := by simp
theorem set_app {γ : Ga} {a b : MO} {r : Ga} : (γ ++ a :: r).set γ.length b = γ ++ b :: r := by simp
theorem vw_app {γ : Ga} {xs : List D} {r : Ga} : vw (γ ++ .lst xs :: r) (.loc γ.length) = .lst xs := vw_loc get_app
theorem dr_keep {γ rest : Ga} {q : QD} {d : D} (lo1 : loG γ.length γ = true) (h : d.lo γ.length = true) (hq : q d γ) : Dr γ.length q d (γ ++ rest) := .inr ⟨d, γ, rest, rfl, Nat.le_refl _, lo1, .keep h, hq⟩
theorem dr_lst {γ rest : Ga} {q : QD} {xs : List D} (lo1 : loG γ.length γ = true) (h : loL γ.length xs = true) (hq : q (.lst xs) γ) : Dr γ.length q (.loc γ.length) (γ ++ .lst xs :: rest) :=
  .inr ⟨.lst xs, γ, .lst xs :: rest, rfl, Nat.le_refl _, lo1, .lst (Nat.le_refl _) get_app h, hq⟩
theorem loL_map {A : Type} {m : Nat} {f : A → D} (h : ∀ x, (f x).lo m = true) : ∀ xs : List A, loL m (xs.map f) = true
  | [] => rfl
  | x :: xs => by
    show ((f x).lo m && loL m (xs.map f)) = true
    rw [h x, loL_map h xs]; rfl
theorem tkn_lo {m : Nat} (t : Tkn) : t.d.lo m = true := rfl
theorem tokL_nil {n s k : Nat} {r : List Nat} (hk : (runOf [32] r).length = k) (h : r.drop k = []) : tokL (n + 1) r s = [⟨.fin, [], s + k⟩] := by
  subst hk
  unfold tokL
  rw [h]
theorem tokL_cons {n s c k : Nat} {r t : List Nat} (hk : (runOf [32] r).length = k) (h : r.drop k = c :: t) : tokL (n + 1) r s = if (tokA (c :: t) (s + k)).1.k = .odd then [(tokA (c :: t) (s + k)).1]
      else (tokA (c :: t) (s + k)).1 :: tokL n ((c :: t).drop (tokA (c :: t) (s + k)).2) (s + k + (tokA (c :: t) (s + k)).2) := by
  subst hk
  conv => lhs; unfold tokL
  rw [h]
theorem tokA_len {c : Nat} {t : List Nat} {s : Nat} : 1 ≤ (tokA (c :: t) s).2 ∧ (tokA (c :: t) s).2 ≤ (c :: t).length := by
  by_cases h1 : c ∈ LET
  · rw [tokA_let rfl h1]
    refine ⟨?_, run_le⟩
    rw [run_step rfl, if_pos h1]; omega
  · by_cases h2 : c ∈ FIG
    · rw [tokA_fig rfl h1 h2]
      refine ⟨?_, run_le⟩
      rw [run_step rfl, if_pos h2]; omega
    · rw [tokA_sgn rfl h1 h2]
      cases hf : SGNS.find? fun g => decide ((c :: t).take g.length = g) with
      | none => exact ⟨Nat.le_refl _, by simp⟩
      | some g =>
        have h3 : g ∈ SGNS := List.mem_of_find?_eq_some hf
        have h4 : ∀ x ∈ SGNS, 1 ≤ x.length := by decide
        have h5 := List.find?_some hf
        have h6 : (c :: t).take g.length = g := by simpa using h5
        refine ⟨h4 g h3, ?_⟩
        have h7 := congrArg List.length h6
        rw [List.length_take] at h7
        show g.length ≤ _
        omega
theorem dl_tokens {K : Frag} {mg : Str → Option Value} (T : Tx K mg) : DL_tokens K (sp_tokens K) := by
  rintro ds γ q e lo1 lo2 ⟨l, rfl, hl, hq⟩
  refine dS_env (ρ' := [some (.str (S l)), none, none, none, none]) rfl ?_
  unfold t_tokens
  walk_at "GO"
  refine ⟨l, [32], 0, rfl, hl, by omega, ?_⟩
  walk_at "GO"
  refine xs_while (fun m ρ γ' => ∃ s n acc x3 x4, s ≤ l.length ∧ l.length - s < n ∧ m = l.length - (s + (runOf [32] (l.drop s)).length) ∧ γ' = γ ++ [.lst (acc.map Tkn.d)] ∧
    ρ = [some (.str (S l)), some (.loc γ.length), some (.int ((s + (runOf [32] (l.drop s)).length : Nat) : Int)), x3, x4] ∧ acc ++ tokL n (l.drop s) s = toks l ∧ acc.length ≤ s)
    ⟨_, 0, l.length + 1, [], none, none, by omega, by omega, rfl, rfl, rfl, rfl, by simp⟩ ?_
  rintro m ρ γ' ⟨s, n, acc, x3, x4, hs, hn, rfl, rfl, rfl, ht, hac⟩
  obtain ⟨n, rfl⟩ : ∃ k, n = k + 1 := ⟨n - 1, by omega⟩
  have hrl : (runOf [32] (l.drop s)).length ≤ l.length - s := by have := @run_le [32] (l.drop s); simpa using this
  have hdd : (l.drop s).drop (runOf [32] (l.drop s)).length = l.drop (s + (runOf [32] (l.drop s)).length) := List.drop_drop
  generalize hk : (runOf [32] (l.drop s)).length = k at *
  walk_at "GO"
  · omega
  refine ifd (fun c1 => ?_) (fun c1 => ?_)
  · have hlt : s + k < l.length := by omega
    have hc : l.drop (s + k) = l[s + k] :: l.drop (s + k + 1) := List.drop_eq_getElem_cons hlt
    have hst := tokL_cons (n := n) (s := s) hk (hdd.trans hc)
    have hlen := @tokA_len (l[s + k]) (l.drop (s + k + 1)) (s + k)
    rw [← hc] at hst hlen
    rw [List.length_drop] at hlen
    rw [hst] at ht
    walk_at "GO"
    refine ⟨l, s + k, rfl, hl, hlt, ?_⟩
    walk_at "GO"
    refine ⟨xty_lst ⟨_, vw_app⟩, ?_⟩
    walk_at "GO"
    refine xm_append ⟨_, _, rfl, get_app, by rw [List.length_map]; omega, ?_⟩
    rw [set_app]
    have hmap : acc.map Tkn.d ++ [(tokA (l.drop (s + k)) (s + k)).1.d] = (acc ++ [(tokA (l.drop (s + k)) (s + k)).1]).map Tkn.d := by simp
    rw [hmap]
    generalize hta : tokA (l.drop (s + k)) (s + k) = ta at *
    obtain ⟨t, w⟩ := ta
    have ek : decide (t.k.c = [111, 100, 100]) = decide (t.k = .odd) := by cases t.k <;> decide
    walk_at "GO"
    refine xix_tup (xs := [.str (S t.k.c), .str (S t.v), .int t.p]) ⟨_, rfl, ?_⟩
    walk_at "GO"
    rw [ek]
    refine ifd (fun c2 => ?_) (fun c2 => ?_)
    · rw [if_pos c2] at ht
      walk_at "GO"
      rw [← ht] at hq
      exact dr_lst lo1 (loL_map tkn_lo _) hq
    · rw [if_neg c2] at ht
      walk_at "GO"
      refine ⟨l, [32], s + k + w, rfl, hl, by omega, ?_⟩
      refine ⟨_, ?_, s + k + w, n, acc ++ [t], _, _, by omega, by omega, rfl, rfl, rfl, ?_, by simp; omega⟩
      · omega
      · rw [← ht, List.append_assoc, List.drop_drop]
        rfl
  · have hz : s + k = l.length := by omega
    have hst := tokL_nil (n := n) (s := s) hk (hdd.trans (by rw [hz, List.drop_length]))
    rw [hst] at ht
    walk_at "GO"
    · omega
    refine radd_lst vw_app rfl (by rw [List.length_map]; simp; omega) ?_
    have hfin : acc.map Tkn.d ++ [D.tup [.str (S [101, 110, 100]), .str (S []), .int l.length]] = (toks l).map Tkn.d := by
      rw [← ht, List.map_append, hz]; rfl
    rw [hfin]
    exact dr_keep lo1 (loL_map tkn_lo _) hq
end K07

set_option Elab.async false
set_option linter.all false
set_option maxRecDepth 100000
set_option maxHeartbeats 4000000
namespace K07
open PySem PySem.Spec PyProof.Rows L2 DL
local macro_rules | `(tactic| walk_at "GO") => `(tactic| repeat' (first | with_reducible refine xs_seq ?_ | with_reducible refine xs_set ?_ | with_reducible refine xs_asg ?_ | with_reducible refine xs_if ?_ | with_reducible refine xs_ret ?_ | with_reducible refine xs_next ?_ | with_reducible refine xs_expr ?_ | with_reducible refine xs_fld ?_ | with_reducible refine xs_par ?_ | with_reducible refine xs_retN ?_ | with_reducible refine xs_brk ?_ | with_reducible refine xp_nil ?_ | with_reducible refine xp_cons ?_ | with_reducible refine xe_disp ?_ | with_reducible refine de_dget2 ?_ | with_reducible refine xs_cont ?_ | with_reducible refine da_nil ?_ | with_reducible refine da_cons ?_ | with_reducible refine de_int ?_ | with_reducible refine de_str ?_ | with_reducible refine de_bl ?_ | with_reducible refine de_non ?_ | with_reducible refine de_ty ?_ | ((with_reducible refine xe_var ?_); refine ⟨_, rfl, ?_⟩) | with_reducible refine de_op ?_ | with_reducible refine de_un ?_ | with_reducible refine de_call ?_ | with_reducible refine de_cb ?_ | with_reducible refine de_sl ?_ | with_reducible refine do_none ?_ | with_reducible refine do_some ?_ | with_reducible refine de_if ?_ | with_reducible refine de_andV ?_ | with_reducible refine de_orV ?_ | with_reducible refine de_notV ?_ | with_reducible refine de_chain ?_ | with_reducible refine dt_test ?_ | with_reducible refine dt_B ?_ | with_reducible refine dt_and ?_ | with_reducible refine dt_or ?_ | with_reducible refine dt_not ?_ | (with_reducible refine xe_tup ?_) | (with_reducible refine xe_lst ?_) | (with_reducible refine xe_lstM ?_) | (with_reducible refine de_meth ?_) | (with_reducible refine de_bm ?_) | (with_reducible refine de_bm0 ?_) | (with_reducible refine ⟨isTy_str, ?_⟩) | (with_reducible refine ⟨xty_lst ⟨_, rfl⟩, ?_⟩) | with_reducible refine radd_int ?_ | with_reducible refine radd_S ?_ ?_ | with_reducible refine rsub_int ?_ | with_reducible refine req_int ?_ | with_reducible refine rne_int ?_ | with_reducible refine req_S ?_ | with_reducible refine rne_S ?_ | with_reducible refine rlt_int ?_ | with_reducible refine rle_int ?_ | with_reducible refine rgt_int ?_ | with_reducible refine rge_int ?_ | with_reducible refine rneg_int ?_ | with_reducible refine rin_sgn ?_ | with_reducible refine rni_sgn ?_ | with_reducible refine rc_len_S ?_ ?_ | with_reducible refine rc_int_bl ?_ | with_reducible refine rc_str_int ?_ ?_ | with_reducible refine rc_str_str ?_ | with_reducible refine rc_max2 ?_ | ((with_reducible refine xc_isi ?_); refine ⟨_, _, rfl, rfl, ?_⟩) | with_reducible refine di_str ?_ | with_reducible refine di_list ?_ | with_reducible refine di_tup ?_ | with_reducible refine di_rng1 ?_ | with_reducible refine di_rng2 ?_ | with_reducible refine ift ?_ | with_reducible refine iff_ ?_ | with_reducible refine ifnt ?_ | with_reducible refine ifnf ?_ | with_reducible refine rin_strs (.inr rfl) ?_ | with_reducible refine rni_strs (.inr rfl) ?_ | with_reducible refine rin_strs (.inl rfl) ?_ | with_reducible refine rni_strs (.inl rfl) ?_ | ((with_reducible refine rin_seq (.inr rfl) ?_ ?_ ?_); rfl; rfl) | ((with_reducible refine rin_seq (.inl rfl) ?_ ?_ ?_); rfl; rfl) | ((with_reducible refine rni_seq (.inr rfl) ?_ ?_ ?_); rfl; rfl) | ((with_reducible refine rni_seq (.inl rfl) ?_ ?_ ?_); rfl; rfl) | (with_reducible refine xix_tup ?_) | ((with_reducible refine xc_len ?_); refine ⟨_, .inl rfl, ?_⟩) | ((with_reducible refine xc_len ?_); refine ⟨_, .inr rfl, ?_⟩) | (with_reducible refine rm_count ?_) | (with_reducible refine ⟨_, rfl, ?_⟩) | (with_reducible refine ⟨_, _, rfl, ?_⟩) | ((with_reducible refine xix_lst ?_); refine ⟨_, rfl, _, rfl, ?_⟩) | ((with_reducible refine xadd_lst ?_); refine ⟨_, rfl, _, rfl, ?_, ?_⟩) | with_reducible refine rmul_int ?_ ?_ | with_reducible refine rmod_int ?_ ?_ | with_reducible refine rfdiv_int ?_ ?_ | with_reducible refine rpow_int ?_ ?_ | with_reducible refine xg_setL ?_ | refine ⟨_, _, _, _, rfl, rfl, rfl, rfl, ?_⟩ | with_reducible refine xg_name ?_ | with_reducible refine xg_tup rfl ?_ | with_reducible refine xgs_name ?_ | with_reducible refine xgs_nil ?_ | (with_reducible refine ⟨Nat.le_of_ble_eq_true rfl, ?_⟩) | fail))
section
variable {K : Frag} {mg : Str → Option Value} {ρ : DL.Env} {γ : Ga} {Q : QD}
theorem po_rest (T : Tx K mg) {ta : TE} (h : dE K ta ρ γ fun r γ1 => ∃ k Ts ts, r = .loc k ∧ γ1[k]? = some (PO K Ts ts) ∧ Q (.lst (Ts.map Tkn.d)) γ1) : dE K (tFld K ta "rest") ρ γ Q := by
  refine de_fld T.cl_Parser T.na_Parser_rest (de_mono h ?_)
  rintro d γ1 ⟨k, Ts, ts, rfl, hk, hq⟩
  exact ⟨_, _, _, _, .inl ⟨_, rfl, hk⟩, rfl, rfl, hq⟩
theorem po_place (T : Tx K mg) {ta : TE} (h : dE K ta ρ γ fun r γ1 => ∃ k Ts ts, r = .loc k ∧ γ1[k]? = some (PO K Ts ts) ∧ Q (.int ((Ts.length - ts.length : Nat) : Int)) γ1) : dE K (tFld K ta "place") ρ γ Q := by
  refine de_fld T.cl_Parser T.na_Parser_place (de_mono h ?_)
  rintro d γ1 ⟨k, Ts, ts, rfl, hk, hq⟩
  exact ⟨_, _, _, _, .inl ⟨_, rfl, hk⟩, rfl, rfl, hq⟩
theorem po_set (T : Tx K mg) {ta tv : TE} {n : Nat} {nx bk ct : DL.Env → Ga → Prop} {rt : QD} (h : dE K tv ρ γ fun d γ1 => dE K ta ρ γ1 fun r γ2 => ∃ k Ts ts ts', r = .loc k ∧ γ2[k]? = some (PO K Ts ts) ∧ d = .int ((Ts.length - ts'.length : Nat) : Int) ∧ nx ρ (γ2.set k (PO K Ts ts'))) :
    dS K n (sFld K ta tv "place") ρ γ ⟨nx, rt, bk, ct⟩ := by
  refine xs_fld (de_mono h fun d γ1 h1 => de_mono h1 ?_)
  rintro r γ2 ⟨k, Ts, ts, ts', rfl, hk, rfl, hq⟩
  exact ⟨k, _, _, _, rfl, hk, T.cl_Parser, T.na_Parser_place, by show 2 < 1000; decide, hq⟩
theorem po_meth {C : Addr} {m : Str} {k : Nat} {Ts ts : List Tkn} (hk : γ[k]? = some (PO K Ts ts)) (hm : (["rest", "place"] : List Str).contains m = false) : ∃ ns vs, InsAt (.loc k) γ (He.ga K "Parser") ns vs ∧ ns.contains m = false := ⟨_, _, .inl ⟨_, rfl, hk⟩, hm⟩
theorem suf_get {t : Tkn} {ts Ts : List Tkn} (h : (t :: ts) <:+ Ts) : Ts[Ts.length - (t :: ts).length]? = some t := by
  obtain ⟨p, rfl⟩ := h
  simp
theorem suf_len {t : Tkn} {ts Ts : List Tkn} (h : (t :: ts) <:+ Ts) : ts.length + 1 ≤ Ts.length := by simpa using h.length_le
theorem kd_sign {k : Kd} : decide (k.c = [115, 105, 103, 110]) = decide (k = .sign) := by cases k <;> decide
theorem dl_init (T : Tx K mg) : DL_Parser_init K (sp_Parser_init K) := by
  rintro ds γ q e lo1 lo2 ⟨k, l, rfl, hl, hk, hq⟩
  refine dS_env (ρ' := [some (.loc k), some (.str (S l))]) rfl ?_
  unfold t_Parser_init
  walk_at "GO"
  refine ⟨l, rfl, hl, ?_⟩
  walk_at "GO"
  refine ⟨k, _, _, _, rfl, hk, T.cl_Parser, T.na_Parser_rest, by decide, ?_⟩
  walk_at "GO"
  refine ⟨k, _, _, _, rfl, set_get hk, T.cl_Parser, T.na_Parser_place, by show 1 < 1000; decide, ?_⟩
  rw [set_set]
  have e : PO K (toks l) (toks l) = .ins (He.ga K "Parser") (stored (stored [] [] "rest" (.lst ((toks l).map Tkn.d))).1 (stored [] [] "rest" (.lst ((toks l).map Tkn.d))).2 "place" (.int 0)).1 (stored (stored [] [] "rest" (.lst ((toks l).map Tkn.d))).1 (stored [] [] "rest" (.lst ((toks l).map Tkn.d))).2 "place" (.int 0)).2 := by
    unfold PO
    rw [Nat.sub_self]
    rfl
  rw [← e]
  exact .inl hq
theorem dl_sees (T : Tx K mg) : DL_Parser_sees K (sp_Parser_sees K) := by
  rintro ds γ q e lo1 lo2 ⟨k, Ts, t, ts, gs, rfl, hk, hs, hq⟩
  refine dS_env (ρ' := [some (.loc k), some (.tup (strsD gs)), none, none, none]) rfl ?_
  unfold t_Parser_sees
  walk_at "GO"
  refine po_rest T ?_
  walk_at "GO"
  refine ⟨k, Ts, t :: ts, rfl, hk, ?_⟩
  refine po_place T ?_
  walk_at "GO"
  refine ⟨k, Ts, t :: ts, rfl, hk, ?_⟩
  refine xix_lst ⟨_, rfl, t.d, at_nat (by rw [List.getElem?_map, suf_get hs]; rfl), ?_⟩
  refine xg_tup (ds := [.str (S t.k.c), .str (S t.v), .int t.p]) rfl ?_
  walk_at "GO"
  rw [kd_sign]
  refine ifd (fun c1 => ?_) (fun c1 => ?_)
  · walk_at "GO"
    have : sees t gs = decide (t.v ∈ gs) := by simp [sees, c1]
    rw [this] at hq
    exact .inl hq
  · have : sees t gs = false := by simp [sees, c1]
    rw [this] at hq
    exact .inl hq
theorem dl_take (T : Tx K mg) : DL_Parser_take K (sp_Parser_take K) := by
  rintro ds γ q e lo1 lo2 ⟨k, Ts, t, ts, rfl, hk, hs, hq⟩
  refine dS_env (ρ' := [some (.loc k)]) rfl ?_
  unfold t_Parser_take
  have hl := suf_len hs
  refine xs_seq (po_set T ?_)
  walk_at "GO"
  refine po_place T ?_
  walk_at "GO"
  refine ⟨k, Ts, t :: ts, rfl, hk, ?_⟩
  walk_at "GO"
  refine ⟨k, Ts, t :: ts, ts, rfl, hk, by congr 1; simp only [List.length_cons]; omega, ?_⟩
  walk_at "GO"
  refine po_rest T ?_
  walk_at "GO"
  refine ⟨k, Ts, ts, rfl, set_get hk, ?_⟩
  walk_at "GO"
  refine po_place T ?_
  walk_at "GO"
  refine ⟨k, Ts, ts, rfl, set_get hk, ?_⟩
  walk_at "GO"
  refine xix_lst ⟨_, rfl, t.d, ?_, .inl hq⟩
  rw [show ((Ts.length - ts.length : Nat) : Int) - 1 = ((Ts.length - (t :: ts).length : Nat) : Int) by simp only [List.length_cons]; omega]
  exact at_nat (by rw [List.getElem?_map, suf_get hs]; rfl)
theorem dl_take_sign (T : Tx K mg) : DL_Parser_take_sign K (fun _ _ _ _ => False) (sp_Parser_take_sign K) := by
  rintro ds γ q e lo1 lo2 ⟨k, Ts, t, ts, gs, rfl, hk, hs, h1, hq⟩
  refine dS_env (ρ' := [some (.loc k), some (.tup (strsD gs))]) rfl ?_
  unfold t_Parser_take_sign
  walk_at "GO"
  refine ⟨po_meth (C := He.ga K "Parser") hk rfl, ?_⟩
  walk_at "GO"
  refine ⟨k, Ts, t, ts, gs, rfl, hk, hs, ?_⟩
  rw [h1]
  walk_at "GO"
  refine ⟨po_meth (C := He.ga K "Parser") hk rfl, ?_⟩
  walk_at "GO"
  refine ⟨k, Ts, t, ts, rfl, hk, hs, ?_⟩
  walk_at "GO"
  refine xix_tup (xs := [.str (S t.k.c), .str (S t.v), .int t.p]) ⟨_, rfl, ?_⟩
  exact .inl hq
theorem dl_finish (T : Tx K mg) : DL_Parser_finish K (fun _ _ _ _ => False) (sp_Parser_finish K) := by
  rintro ds γ q e lo1 lo2 ⟨k, Ts, t, ts, d, rfl, hk, hs, h1, hq⟩
  refine dS_env (ρ' := [some (.loc k), some d]) rfl ?_
  unfold t_Parser_finish
  walk_at "GO"
  refine po_rest T ?_
  walk_at "GO"
  refine ⟨k, Ts, t :: ts, rfl, hk, ?_⟩
  refine po_place T ?_
  walk_at "GO"
  refine ⟨k, Ts, t :: ts, rfl, hk, ?_⟩
  refine xix_lst ⟨_, rfl, t.d, at_nat (by rw [List.getElem?_map, suf_get hs]; rfl), ?_⟩
  walk_at "GO"
  refine xix_tup (xs := [.str (S t.k.c), .str (S t.v), .int t.p]) ⟨_, rfl, ?_⟩
  rw [h1]
  walk_at "GO"
  refine ifnd (fun c => absurd rfl c) (fun _ => ?_)
  walk_at "GO"
  exact .inl hq
theorem dl_expression (T : Tx K mg) {f : List Tkn → PR} (hf : ∀ ts d r, f ts = some (.ok (d, r)) → r <:+ ts) : DL_Parser_expression K (spP K (pT f)) (spP K (pE f)) := by
  rintro ds γ q e lo1 lo2 ⟨k, Ts, ts, rfl, hk, hs, d, r', hr, hq⟩
  refine dS_env (ρ' := [some (.loc k), none, none]) rfl ?_
  unfold t_Parser_expression
  unfold pE at hr
  cases h1 : pT f ts with
  | none => rw [h1] at hr; cases hr
  | some o =>
  cases o with
  | error p => rw [h1] at hr; cases hr
  | ok o =>
  obtain ⟨d1, r1⟩ := o
  rw [h1] at hr
  replace hr : pLoop (pT f) ADD (r1.length + 1) d1 r1 = some (.ok (d, r')) := hr
  have s1 := (pT_suf hf _ _ _ h1).trans hs
  walk_at "GO"
  refine ⟨po_meth (C := He.ga K "Parser") hk rfl, ?_⟩
  walk_at "GO"
  refine ⟨k, Ts, ts, rfl, hk, hs, d1, r1, h1, ?_⟩
  walk_at "GO"
  refine xs_while (fun m ρ γ' => ∃ n dd ts' x, pLoop (pT f) ADD n dd ts' = some (.ok (d, r')) ∧ ts' <:+ Ts ∧ m = n ∧ ρ = [some (.loc k), some dd, x] ∧ γ' = γ.set k (PO K Ts ts')) ⟨_, _, _, _, _, hr, s1, rfl, rfl, rfl⟩ ?_
  rintro m ρ γ' ⟨n, dd, ts', x, hr', s', rfl, rfl, rfl⟩
  cases m with
  | zero => cases hr'
  | succ m =>
  cases ts' with
  | nil => cases hr'
  | cons t ts' =>
  unfold pLoop at hr'
  have hk' : (γ.set k (PO K Ts (t :: ts')))[k]? = some (PO K Ts (t :: ts')) := set_get hk
  walk_at "GO"
  refine ⟨po_meth (C := He.ga K "Parser") hk' rfl, ?_⟩
  walk_at "GO"
  refine ⟨k, Ts, t, ts', ADD, rfl, hk', s', ?_⟩
  walk_at "GO"
  cases hs2 : sees t ADD with
  | true =>
    rw [if_pos hs2] at hr'
    walk_at "GO"
    refine ⟨po_meth (C := He.ga K "Parser") hk' rfl, ?_⟩
    walk_at "GO"
    refine ⟨k, Ts, t, ts', rfl, hk', s', ?_⟩
    rw [set_set]
    walk_at "GO"
    refine xix_tup (xs := [.str (S t.k.c), .str (S t.v), .int t.p]) ⟨_, rfl, ?_⟩
    walk_at "GO"
    refine ⟨po_meth (C := He.ga K "Parser") (set_get hk) rfl, ?_⟩
    walk_at "GO"
    cases h2 : pT f ts' with
    | none => rw [h2] at hr'; cases hr'
    | some o =>
    cases o with
    | error p => rw [h2] at hr'; cases hr'
    | ok o =>
    obtain ⟨d2, r2⟩ := o
    rw [h2] at hr'
    have s3 : ts' <:+ Ts := (List.suffix_cons _ _).trans s'
    refine ⟨k, Ts, ts', rfl, set_get hk, s3, d2, r2, h2, ?_⟩
    rw [set_set]
    walk_at "GO"
    exact ⟨m, Nat.lt_succ_self m, m, _, r2, _, hr', (pT_suf hf _ _ _ h2).trans s3, rfl, rfl, rfl⟩
  | false =>
    rw [if_neg (by rw [hs2]; decide)] at hr'
    cases hr'
    walk_at "GO"
    exact .inl hq
theorem dl_term (T : Tx K mg) {f : List Tkn → PR} (hf : ∀ ts d r, f ts = some (.ok (d, r)) → r <:+ ts) : DL_Parser_term K (spP K f) (spP K (pT f)) := by
  rintro ds γ q e lo1 lo2 ⟨k, Ts, ts, rfl, hk, hs, d, r', hr, hq⟩
  refine dS_env (ρ' := [some (.loc k), none, none]) rfl ?_
  unfold t_Parser_term
  unfold pT at hr
  cases h1 : f ts with
  | none => rw [h1] at hr; cases hr
  | some o =>
  cases o with
  | error p => rw [h1] at hr; cases hr
  | ok o =>
  obtain ⟨d1, r1⟩ := o
  rw [h1] at hr
  replace hr : pLoop f MUL (r1.length + 1) d1 r1 = some (.ok (d, r')) := hr
  have s1 := (hf _ _ _ h1).trans hs
  walk_at "GO"
  refine ⟨po_meth (C := He.ga K "Parser") hk rfl, ?_⟩
  walk_at "GO"
  refine ⟨k, Ts, ts, rfl, hk, hs, d1, r1, h1, ?_⟩
  walk_at "GO"
  refine xs_while (fun m ρ γ' => ∃ n dd ts' x, pLoop f MUL n dd ts' = some (.ok (d, r')) ∧ ts' <:+ Ts ∧ m = n ∧ ρ = [some (.loc k), some dd, x] ∧ γ' = γ.set k (PO K Ts ts')) ⟨_, _, _, _, _, hr, s1, rfl, rfl, rfl⟩ ?_
  rintro m ρ γ' ⟨n, dd, ts', x, hr', s', rfl, rfl, rfl⟩
  cases m with
  | zero => cases hr'
  | succ m =>
  cases ts' with
  | nil => cases hr'
  | cons t ts' =>
  unfold pLoop at hr'
  have hk' : (γ.set k (PO K Ts (t :: ts')))[k]? = some (PO K Ts (t :: ts')) := set_get hk
  walk_at "GO"
  refine ⟨po_meth (C := He.ga K "Parser") hk' rfl, ?_⟩
  walk_at "GO"
  refine ⟨k, Ts, t, ts', MUL, rfl, hk', s', ?_⟩
  walk_at "GO"
  cases hs2 : sees t MUL with
  | true =>
    rw [if_pos hs2] at hr'
    walk_at "GO"
    refine ⟨po_meth (C := He.ga K "Parser") hk' rfl, ?_⟩
    walk_at "GO"
    refine ⟨k, Ts, t, ts', rfl, hk', s', ?_⟩
    rw [set_set]
    walk_at "GO"
    refine xix_tup (xs := [.str (S t.k.c), .str (S t.v), .int t.p]) ⟨_, rfl, ?_⟩
    walk_at "GO"
    refine ⟨po_meth (C := He.ga K "Parser") (set_get hk) rfl, ?_⟩
    walk_at "GO"
    cases h2 : f ts' with
    | none => rw [h2] at hr'; cases hr'
    | some o =>
    cases o with
    | error p => rw [h2] at hr'; cases hr'
    | ok o =>
    obtain ⟨d2, r2⟩ := o
    rw [h2] at hr'
    have s3 : ts' <:+ Ts := (List.suffix_cons _ _).trans s'
    refine ⟨k, Ts, ts', rfl, set_get hk, s3, d2, r2, h2, ?_⟩
    rw [set_set]
    walk_at "GO"
    exact ⟨m, Nat.lt_succ_self m, m, _, r2, _, hr', (hf _ _ _ h2).trans s3, rfl, rfl, rfl⟩
  | false =>
    rw [if_neg (by rw [hs2]; decide)] at hr'
    cases hr'
    walk_at "GO"
    exact .inl hq
end
end K07

set_option Elab.async false
set_option linter.all false
set_option maxRecDepth 100000
set_option maxHeartbeats 4000000
namespace K07
open PySem PySem.Spec PyProof.Rows L2 DL
local macro_rules | `(tactic| walk_at "GO") => `(tactic| repeat' (first | with_reducible refine xs_seq ?_ | with_reducible refine xs_set ?_ | with_reducible refine xs_asg ?_ | with_reducible refine xs_if ?_ | with_reducible refine xs_ret ?_ | with_reducible refine xs_next ?_ | with_reducible refine xs_expr ?_ | with_reducible refine xs_fld ?_ | with_reducible refine xs_par ?_ | with_reducible refine xs_retN ?_ | with_reducible refine xs_brk ?_ | with_reducible refine xp_nil ?_ | with_reducible refine xp_cons ?_ | with_reducible refine xe_disp ?_ | with_reducible refine de_dget2 ?_ | with_reducible refine xs_cont ?_ | with_reducible refine da_nil ?_ | with_reducible refine da_cons ?_ | with_reducible refine de_int ?_ | with_reducible refine de_str ?_ | with_reducible refine de_bl ?_ | with_reducible refine de_non ?_ | with_reducible refine de_ty ?_ | ((with_reducible refine xe_var ?_); refine ⟨_, rfl, ?_⟩) | with_reducible refine de_op ?_ | with_reducible refine de_un ?_ | with_reducible refine de_call ?_ | with_reducible refine de_cb ?_ | with_reducible refine de_sl ?_ | with_reducible refine do_none ?_ | with_reducible refine do_some ?_ | with_reducible refine de_if ?_ | with_reducible refine de_andV ?_ | with_reducible refine de_orV ?_ | with_reducible refine de_notV ?_ | with_reducible refine de_chain ?_ | with_reducible refine dt_test ?_ | with_reducible refine dt_B ?_ | with_reducible refine dt_and ?_ | with_reducible refine dt_or ?_ | with_reducible refine dt_not ?_ | (with_reducible refine xe_tup ?_) | (with_reducible refine xe_lst ?_) | (with_reducible refine xe_lstM ?_) | with_reducible refine q_COMPARISONS (by assumption) ?_ | (with_reducible refine de_meth ?_) | (with_reducible refine de_bm ?_) | (with_reducible refine de_bm0 ?_) | (with_reducible refine ⟨isTy_str, ?_⟩) | (with_reducible refine ⟨xty_lst ⟨_, rfl⟩, ?_⟩) | with_reducible refine radd_int ?_ | with_reducible refine radd_S ?_ ?_ | with_reducible refine rsub_int ?_ | with_reducible refine req_int ?_ | with_reducible refine rne_int ?_ | with_reducible refine req_S ?_ | with_reducible refine rne_S ?_ | with_reducible refine rlt_int ?_ | with_reducible refine rle_int ?_ | with_reducible refine rgt_int ?_ | with_reducible refine rge_int ?_ | with_reducible refine rneg_int ?_ | with_reducible refine rin_sgn ?_ | with_reducible refine rni_sgn ?_ | with_reducible refine rc_len_S ?_ ?_ | with_reducible refine rc_int_bl ?_ | with_reducible refine rc_str_int ?_ ?_ | with_reducible refine rc_str_str ?_ | with_reducible refine rc_max2 ?_ | ((with_reducible refine xc_isi ?_); refine ⟨_, true, rfl, rfl, ?_⟩) | ((with_reducible refine xc_isi ?_); refine ⟨_, false, rfl, rfl, ?_⟩) | with_reducible refine di_str ?_ | with_reducible refine di_list ?_ | with_reducible refine di_tup ?_ | with_reducible refine di_rng1 ?_ | with_reducible refine di_rng2 ?_ | with_reducible refine ift ?_ | with_reducible refine iff_ ?_ | with_reducible refine ifnt ?_ | with_reducible refine ifnf ?_ | with_reducible refine rin_strs (.inr rfl) ?_ | with_reducible refine rni_strs (.inr rfl) ?_ | with_reducible refine rin_strs (.inl rfl) ?_ | with_reducible refine rni_strs (.inl rfl) ?_ | ((with_reducible refine rin_seq (.inr rfl) ?_ ?_ ?_); rfl; rfl) | ((with_reducible refine rin_seq (.inl rfl) ?_ ?_ ?_); rfl; rfl) | ((with_reducible refine rni_seq (.inr rfl) ?_ ?_ ?_); rfl; rfl) | ((with_reducible refine rni_seq (.inl rfl) ?_ ?_ ?_); rfl; rfl) | (with_reducible refine xix_tup ?_) | ((with_reducible refine xc_len ?_); refine ⟨_, .inl rfl, ?_⟩) | ((with_reducible refine xc_len ?_); refine ⟨_, .inr rfl, ?_⟩) | (with_reducible refine rm_count ?_) | (with_reducible refine ⟨_, rfl, ?_⟩) | (with_reducible refine ⟨_, _, rfl, ?_⟩) | ((with_reducible refine xix_lst ?_); refine ⟨_, rfl, _, rfl, ?_⟩) | ((with_reducible refine xadd_lst ?_); refine ⟨_, rfl, _, rfl, ?_, ?_⟩) | with_reducible refine rmul_int ?_ ?_ | with_reducible refine rmod_int ?_ ?_ | with_reducible refine rfdiv_int ?_ ?_ | with_reducible refine rpow_int ?_ ?_ | with_reducible refine xg_setL ?_ | refine ⟨_, _, _, _, rfl, rfl, rfl, rfl, ?_⟩ | with_reducible refine xg_name ?_ | with_reducible refine xg_tup rfl ?_ | with_reducible refine xgs_name ?_ | with_reducible refine xgs_nil ?_ | (with_reducible refine ⟨Nat.le_of_ble_eq_true rfl, ?_⟩) | fail))
section
variable {K : Frag} {mg : Str → Option Value} {ρ : DL.Env} {γ : Ga} {Q : QD}
theorem kd_int {k : Kd} : decide (k.c = [105, 110, 116, 101, 103, 101, 114]) = decide (k = .integer) := by cases k <;> decide
theorem dl_factor (T : Tx K mg) (n : Nat) : DL_Parser_factor K (spP K (pFac n)) (spP K (pE (pFac n))) (fun _ _ _ _ => False) (spP K (pFac (n + 1))) := by
  rintro ds γ q e lo1 lo2 ⟨k, Ts, ts, rfl, hk, hs, d, r', hr, hq⟩
  refine dS_env (ρ' := [some (.loc k), none, none, none, none]) rfl ?_
  unfold t_Parser_factor
  cases ts with
  | nil => cases hr
  | cons t ts =>
  unfold pFac at hr
  walk_at "GO"
  refine ⟨po_meth (C := He.ga K "Parser") hk rfl, ?_⟩
  walk_at "GO"
  refine ⟨k, Ts, t, ts, [[45]], rfl, hk, hs, ?_⟩
  have s1 : ts <:+ Ts := (List.suffix_cons _ _).trans hs
  cases hs1 : sees t [[45]] with
  | true =>
    rw [if_pos hs1] at hr
    walk_at "GO"
    refine ⟨po_meth (C := He.ga K "Parser") hk rfl, ?_⟩
    walk_at "GO"
    refine ⟨k, Ts, t, ts, rfl, hk, hs, ?_⟩
    walk_at "GO"
    refine ⟨po_meth (C := He.ga K "Parser") (set_get hk) rfl, ?_⟩
    walk_at "GO"
    cases h2 : pFac n ts with
    | none => rw [h2] at hr; cases hr
    | some o =>
    cases o with
    | error p => rw [h2] at hr; cases hr
    | ok o =>
    obtain ⟨d2, r2⟩ := o
    rw [h2] at hr
    cases hr
    refine ⟨k, Ts, ts, rfl, set_get hk, s1, d2, _, h2, ?_⟩
    rw [set_set]
    walk_at "GO"
    exact .inl hq
  | false =>
  rw [if_neg (by rw [hs1]; decide)] at hr
  walk_at "GO"
  refine ⟨po_meth (C := He.ga K "Parser") hk rfl, ?_⟩
  walk_at "GO"
  refine ⟨k, Ts, t, ts, [[40]], rfl, hk, hs, ?_⟩
  cases hs2 : sees t [[40]] with
  | true =>
    rw [if_pos hs2] at hr
    walk_at "GO"
    refine ⟨po_meth (C := He.ga K "Parser") hk rfl, ?_⟩
    walk_at "GO"
    refine ⟨k, Ts, t, ts, rfl, hk, hs, ?_⟩
    walk_at "GO"
    refine ⟨po_meth (C := He.ga K "Parser") (set_get hk) rfl, ?_⟩
    walk_at "GO"
    cases h2 : pE (pFac n) ts with
    | none => rw [h2] at hr; cases hr
    | some o =>
    cases o with
    | error p => rw [h2] at hr; cases hr
    | ok o =>
    obtain ⟨d2, r2⟩ := o
    rw [h2] at hr
    have s2 := (pE_suf (pFac_suf n) _ _ _ h2).trans s1
    refine ⟨k, Ts, ts, rfl, set_get hk, s1, d2, r2, h2, ?_⟩
    rw [set_set]
    walk_at "GO"
    refine ⟨po_meth (C := He.ga K "Parser") (set_get hk) rfl, ?_⟩
    walk_at "GO"
    replace hr : pSign [[41]] d2 r2 = some (.ok (d, r')) := hr
    cases r2 with
    | nil => cases hr
    | cons t2 r3 =>
    replace hr : (if sees t2 [[41]] = true then some (.ok (d2, r3)) else some (.error t2.p) : PR) = some (.ok (d, r')) := hr
    by_cases hs3 : sees t2 [[41]] = true
    · rw [if_pos hs3] at hr
      cases hr
      refine ⟨k, Ts, t2, _, [[41]], rfl, set_get hk, s2, hs3, ?_⟩
      rw [set_set]
      walk_at "GO"
      exact .inl hq
    · rw [if_neg hs3] at hr
      cases hr
  | false =>
  rw [if_neg (by rw [hs2]; decide)] at hr
  walk_at "GO"
  refine po_rest T ?_
  walk_at "GO"
  refine ⟨k, Ts, t :: ts, rfl, hk, ?_⟩
  refine po_place T ?_
  walk_at "GO"
  refine ⟨k, Ts, t :: ts, rfl, hk, ?_⟩
  refine xix_lst ⟨_, rfl, t.d, at_nat (by rw [List.getElem?_map, suf_get hs]; rfl), ?_⟩
  refine xg_tup (ds := [.str (S t.k.c), .str (S t.v), .int t.p]) rfl ?_
  walk_at "GO"
  unfold pLeaf at hr
  by_cases h3 : t.k = .integer
  · rw [if_pos h3] at hr
    rw [h3]
    have e : inD (.str (S Kd.integer.c)) [.str (S [105, 110, 116, 101, 103, 101, 114]), .str (S [110, 97, 109, 101])] = true := by rw [inD_cons, eqf_S]; rfl
    rw [e]
    walk_at "GO"
    refine ⟨po_meth (C := He.ga K "Parser") hk rfl, ?_⟩
    walk_at "GO"
    refine ⟨k, Ts, t, ts, rfl, hk, hs, ?_⟩
    walk_at "GO"
    refine ifd (fun _ => ?_) (fun c => absurd rfl c)
    cases h4 : PySem.intText? (S t.v) with
    | none => rw [h4] at hr; cases hr
    | some z =>
    rw [h4] at hr
    by_cases h5 : t.v.length ≤ 640
    · replace hr : (if t.v.length ≤ 640 then some (.ok (.tup [.str (S sNumber), .int z], ts)) else none : PR) = some (.ok (d, r')) := hr
      rw [if_pos h5] at hr
      cases hr
      walk_at "GO"
      refine rc_int_str h4 (by rw [S_len]; exact h5) ?_
      walk_at "GO"
      exact .inl hq
    · replace hr : (if t.v.length ≤ 640 then some (.ok (.tup [.str (S sNumber), .int z], ts)) else none : PR) = some (.ok (d, r')) := hr
      rw [if_neg h5] at hr
      cases hr
  · rw [if_neg h3] at hr
    by_cases h4 : t.k = .name
    · rw [if_pos h4] at hr
      cases hr
      rw [h4]
      have e : inD (.str (S Kd.name.c)) [.str (S [105, 110, 116, 101, 103, 101, 114]), .str (S [110, 97, 109, 101])] = true := by
        rw [inD_cons, inD_cons, eqf_S, eqf_S]; rfl
      rw [e]
      walk_at "GO"
      refine ⟨po_meth (C := He.ga K "Parser") hk rfl, ?_⟩
      walk_at "GO"
      refine ⟨k, Ts, t, _, rfl, hk, hs, ?_⟩
      walk_at "GO"
      refine ifd (fun c => absurd c (by decide)) (fun _ => ?_)
      walk_at "GO"
      exact .inl hq
    · rw [if_neg h4] at hr
      cases hr
theorem dl_condition (T : Tx K mg) {f : List Tkn → PR} (hf : ∀ ts d r, f ts = some (.ok (d, r)) → r <:+ ts) : DL_Parser_condition K (spP K f) (spP K (pL f [sOr])) := by
  rintro ds γ q e lo1 lo2 ⟨k, Ts, ts, rfl, hk, hs, d, r', hr, hq⟩
  refine dS_env (ρ' := [some (.loc k), none]) rfl ?_
  unfold t_Parser_condition
  unfold pL at hr
  cases h1 : f ts with
  | none => rw [h1] at hr; cases hr
  | some o =>
  cases o with
  | error p => rw [h1] at hr; cases hr
  | ok o =>
  obtain ⟨d1, r1⟩ := o
  rw [h1] at hr
  replace hr : pLoop f [sOr] (r1.length + 1) d1 r1 = some (.ok (d, r')) := hr
  have s1 := (hf _ _ _ h1).trans hs
  walk_at "GO"
  refine ⟨po_meth (C := He.ga K "Parser") hk rfl, ?_⟩
  walk_at "GO"
  refine ⟨k, Ts, ts, rfl, hk, hs, d1, r1, h1, ?_⟩
  walk_at "GO"
  refine xs_while (fun m ρ γ' => ∃ n dd ts', pLoop f [sOr] n dd ts' = some (.ok (d, r')) ∧ ts' <:+ Ts ∧ m = n ∧ ρ = [some (.loc k), some dd] ∧ γ' = γ.set k (PO K Ts ts')) ⟨_, _, _, _, hr, s1, rfl, rfl, rfl⟩ ?_
  rintro m ρ γ' ⟨n, dd, ts', hr', s', rfl, rfl, rfl⟩
  cases m with
  | zero => cases hr'
  | succ m =>
  cases ts' with
  | nil => cases hr'
  | cons t ts' =>
  unfold pLoop at hr'
  have hk' : (γ.set k (PO K Ts (t :: ts')))[k]? = some (PO K Ts (t :: ts')) := set_get hk
  walk_at "GO"
  refine ⟨po_meth (C := He.ga K "Parser") hk' rfl, ?_⟩
  walk_at "GO"
  refine ⟨k, Ts, t, ts', [sOr], rfl, hk', s', ?_⟩
  walk_at "GO"
  cases hs2 : sees t [sOr] with
  | true =>
    rw [if_pos hs2] at hr'
    have htv : t.v = sOr := by
      unfold sees at hs2
      simp at hs2
      exact hs2.2
    rw [htv] at hr'
    walk_at "GO"
    refine ⟨po_meth (C := He.ga K "Parser") hk' rfl, ?_⟩
    walk_at "GO"
    refine ⟨k, Ts, t, ts', rfl, hk', s', ?_⟩
    rw [set_set]
    walk_at "GO"
    refine ⟨po_meth (C := He.ga K "Parser") (set_get hk) rfl, ?_⟩
    walk_at "GO"
    cases h2 : f ts' with
    | none => rw [h2] at hr'; cases hr'
    | some o =>
    cases o with
    | error p => rw [h2] at hr'; cases hr'
    | ok o =>
    obtain ⟨d2, r2⟩ := o
    rw [h2] at hr'
    have s3 : ts' <:+ Ts := (List.suffix_cons _ _).trans s'
    refine ⟨k, Ts, ts', rfl, set_get hk, s3, d2, r2, h2, ?_⟩
    rw [set_set]
    walk_at "GO"
    exact ⟨m, Nat.lt_succ_self m, m, _, r2, hr', (hf _ _ _ h2).trans s3, rfl, rfl, rfl⟩
  | false =>
    rw [if_neg (by rw [hs2]; decide)] at hr'
    cases hr'
    walk_at "GO"
    exact .inl hq
theorem dl_conjunction (T : Tx K mg) {f : List Tkn → PR} (hf : ∀ ts d r, f ts = some (.ok (d, r)) → r <:+ ts) : DL_Parser_conjunction K (spP K f) (spP K (pL f [sAnd])) := by
  rintro ds γ q e lo1 lo2 ⟨k, Ts, ts, rfl, hk, hs, d, r', hr, hq⟩
  refine dS_env (ρ' := [some (.loc k), none]) rfl ?_
  unfold t_Parser_conjunction
  unfold pL at hr
  cases h1 : f ts with
  | none => rw [h1] at hr; cases hr
  | some o =>
  cases o with
  | error p => rw [h1] at hr; cases hr
  | ok o =>
  obtain ⟨d1, r1⟩ := o
  rw [h1] at hr
  replace hr : pLoop f [sAnd] (r1.length + 1) d1 r1 = some (.ok (d, r')) := hr
  have s1 := (hf _ _ _ h1).trans hs
  walk_at "GO"
  refine ⟨po_meth (C := He.ga K "Parser") hk rfl, ?_⟩
  walk_at "GO"
  refine ⟨k, Ts, ts, rfl, hk, hs, d1, r1, h1, ?_⟩
  walk_at "GO"
  refine xs_while (fun m ρ γ' => ∃ n dd ts', pLoop f [sAnd] n dd ts' = some (.ok (d, r')) ∧ ts' <:+ Ts ∧ m = n ∧ ρ = [some (.loc k), some dd] ∧ γ' = γ.set k (PO K Ts ts')) ⟨_, _, _, _, hr, s1, rfl, rfl, rfl⟩ ?_
  rintro m ρ γ' ⟨n, dd, ts', hr', s', rfl, rfl, rfl⟩
  cases m with
  | zero => cases hr'
  | succ m =>
  cases ts' with
  | nil => cases hr'
  | cons t ts' =>
  unfold pLoop at hr'
  have hk' : (γ.set k (PO K Ts (t :: ts')))[k]? = some (PO K Ts (t :: ts')) := set_get hk
  walk_at "GO"
  refine ⟨po_meth (C := He.ga K "Parser") hk' rfl, ?_⟩
  walk_at "GO"
  refine ⟨k, Ts, t, ts', [sAnd], rfl, hk', s', ?_⟩
  walk_at "GO"
  cases hs2 : sees t [sAnd] with
  | true =>
    rw [if_pos hs2] at hr'
    have htv : t.v = sAnd := by
      unfold sees at hs2
      simp at hs2
      exact hs2.2
    rw [htv] at hr'
    walk_at "GO"
    refine ⟨po_meth (C := He.ga K "Parser") hk' rfl, ?_⟩
    walk_at "GO"
    refine ⟨k, Ts, t, ts', rfl, hk', s', ?_⟩
    rw [set_set]
    walk_at "GO"
    refine ⟨po_meth (C := He.ga K "Parser") (set_get hk) rfl, ?_⟩
    walk_at "GO"
    cases h2 : f ts' with
    | none => rw [h2] at hr'; cases hr'
    | some o =>
    cases o with
    | error p => rw [h2] at hr'; cases hr'
    | ok o =>
    obtain ⟨d2, r2⟩ := o
    rw [h2] at hr'
    have s3 : ts' <:+ Ts := (List.suffix_cons _ _).trans s'
    refine ⟨k, Ts, ts', rfl, set_get hk, s3, d2, r2, h2, ?_⟩
    rw [set_set]
    walk_at "GO"
    exact ⟨m, Nat.lt_succ_self m, m, _, r2, hr', (hf _ _ _ h2).trans s3, rfl, rfl, rfl⟩
  | false =>
    rw [if_neg (by rw [hs2]; decide)] at hr'
    cases hr'
    walk_at "GO"
    exact .inl hq
theorem cmps : COMPARISONS_L = CMPS := rfl
theorem dl_negation (T : Tx K mg) {fe : List Tkn → PR} (hf : ∀ ts d r, fe ts = some (.ok (d, r)) → r <:+ ts) (n : Nat) : DL_Parser_negation K (spP K (pNeg fe n)) (spP K (pC (pNeg fe n))) (spP K fe) (spP K (pNeg fe (n + 1))) := by
  rintro ds γ q e lo1 lo2 ⟨k, Ts, ts, rfl, hk, hs, d, r', hr, hq⟩
  refine dS_env (ρ' := [some (.loc k), none, none, none]) rfl ?_
  unfold t_Parser_negation
  cases ts with
  | nil => cases hr
  | cons t ts =>
  rw [pNeg_s] at hr
  walk_at "GO"
  refine ⟨po_meth (C := He.ga K "Parser") hk rfl, ?_⟩
  walk_at "GO"
  refine ⟨k, Ts, t, ts, [sNot], rfl, hk, hs, ?_⟩
  have s1 : ts <:+ Ts := (List.suffix_cons _ _).trans hs
  cases hs1 : sees t [sNot] with
  | true =>
    rw [if_pos hs1] at hr
    walk_at "GO"
    refine ⟨po_meth (C := He.ga K "Parser") hk rfl, ?_⟩
    walk_at "GO"
    refine ⟨k, Ts, t, ts, rfl, hk, hs, ?_⟩
    walk_at "GO"
    refine ⟨po_meth (C := He.ga K "Parser") (set_get hk) rfl, ?_⟩
    walk_at "GO"
    cases h2 : pNeg fe n ts with
    | none => rw [h2] at hr; cases hr
    | some o =>
    cases o with
    | error p => rw [h2] at hr; cases hr
    | ok o =>
    obtain ⟨d2, r2⟩ := o
    rw [h2] at hr
    cases hr
    refine ⟨k, Ts, ts, rfl, set_get hk, s1, d2, _, h2, ?_⟩
    rw [set_set]
    walk_at "GO"
    exact .inl hq
  | false =>
  rw [if_neg (by rw [hs1]; decide)] at hr
  walk_at "GO"
  refine ⟨po_meth (C := He.ga K "Parser") hk rfl, ?_⟩
  walk_at "GO"
  refine ⟨k, Ts, t, ts, [[91]], rfl, hk, hs, ?_⟩
  cases hs2 : sees t [[91]] with
  | true =>
    rw [if_pos hs2] at hr
    walk_at "GO"
    refine ⟨po_meth (C := He.ga K "Parser") hk rfl, ?_⟩
    walk_at "GO"
    refine ⟨k, Ts, t, ts, rfl, hk, hs, ?_⟩
    walk_at "GO"
    refine ⟨po_meth (C := He.ga K "Parser") (set_get hk) rfl, ?_⟩
    walk_at "GO"
    cases h2 : pC (pNeg fe n) ts with
    | none => rw [h2] at hr; cases hr
    | some o =>
    cases o with
    | error p => rw [h2] at hr; cases hr
    | ok o =>
    obtain ⟨d2, r2⟩ := o
    rw [h2] at hr
    have s2 := (pL_suf (pL_suf (pNeg_suf hf n)) _ _ _ h2).trans s1
    refine ⟨k, Ts, ts, rfl, set_get hk, s1, d2, r2, h2, ?_⟩
    rw [set_set]
    walk_at "GO"
    refine ⟨po_meth (C := He.ga K "Parser") (set_get hk) rfl, ?_⟩
    walk_at "GO"
    replace hr : pSign [[93]] d2 r2 = some (.ok (d, r')) := hr
    cases r2 with
    | nil => cases hr
    | cons t2 r3 =>
    replace hr : (if sees t2 [[93]] = true then some (.ok (d2, r3)) else some (.error t2.p) : PR) = some (.ok (d, r')) := hr
    by_cases hs3 : sees t2 [[93]] = true
    · rw [if_pos hs3] at hr
      cases hr
      refine ⟨k, Ts, t2, _, [[93]], rfl, set_get hk, s2, hs3, ?_⟩
      rw [set_set]
      walk_at "GO"
      exact .inl hq
    · rw [if_neg hs3] at hr
      cases hr
  | false =>
  rw [if_neg (by rw [hs2]; decide)] at hr
  walk_at "GO"
  refine ⟨po_meth (C := He.ga K "Parser") hk rfl, ?_⟩
  walk_at "GO"
  cases h2 : fe (t :: ts) with
  | none => rw [h2] at hr; cases hr
  | some o =>
  cases o with
  | error p => rw [h2] at hr; cases hr
  | ok o =>
  obtain ⟨d2, r2⟩ := o
  rw [h2] at hr
  replace hr : pCmp fe d2 r2 = some (.ok (d, r')) := hr
  have s2 := (hf _ _ _ h2).trans hs
  refine ⟨k, Ts, t :: ts, rfl, hk, hs, d2, r2, h2, ?_⟩
  walk_at "GO"
  refine ⟨po_meth (C := He.ga K "Parser") (set_get hk) rfl, ?_⟩
  walk_at "GO"
  cases r2 with
  | nil => cases hr
  | cons t2 r3 =>
  rw [pCmp_s] at hr
  by_cases hs3 : sees t2 CMPS = true
  · rw [if_pos hs3] at hr
    refine ⟨k, Ts, t2, r3, CMPS, rfl, set_get hk, s2, hs3, ?_⟩
    rw [set_set]
    walk_at "GO"
    refine ⟨po_meth (C := He.ga K "Parser") (set_get hk) rfl, ?_⟩
    walk_at "GO"
    have s3 : r3 <:+ Ts := (List.suffix_cons _ _).trans s2
    cases h4 : fe r3 with
    | none => rw [h4] at hr; cases hr
    | some o =>
    cases o with
    | error p => rw [h4] at hr; cases hr
    | ok o =>
    obtain ⟨d4, r4⟩ := o
    rw [h4] at hr
    cases hr
    refine ⟨k, Ts, r3, rfl, set_get hk, s3, d4, _, h4, ?_⟩
    rw [set_set]
    walk_at "GO"
    exact .inl hq
  · rw [if_neg hs3] at hr
    cases hr
theorem dl_parse (T : Tx K mg) : DL_parse_condition K (sp_parse_condition K) := by
  rintro ds γ q e lo1 lo2 ⟨l, d, t, rfl, hl, hd, hp, ht, hq⟩
  refine dS_env (ρ' := [some (.str (S l)), none]) rfl ?_
  unfold t_parse_condition
  walk_at "GO"
  refine de_make ?_
  walk_at "GO"
  refine ⟨γ.length, l, rfl, hl, get_app, rfl, ?_⟩
  rw [set_app]
  walk_at "GO"
  refine ⟨po_meth (C := He.ga K "Parser") get_app rfl, ?_⟩
  walk_at "GO"
  refine ⟨po_meth (C := He.ga K "Parser") get_app rfl, ?_⟩
  walk_at "GO"
  refine ⟨γ.length, toks l, toks l, rfl, get_app, List.suffix_refl _, d, [t], hp, ?_⟩
  rw [set_app]
  walk_at "GO"
  exact ⟨γ.length, toks l, t, [], d, rfl, get_app, pL_suf (pL_suf (pNeg_suf (pE_suf (pFac_suf 14)) 41)) _ _ _ hp, ht, dr_keep lo1 (hd _) hq⟩
theorem dl_parseE (T : Tx K mg) : DL_parse_expression K (sp_parse_expression K) := by
  rintro ds γ q e lo1 lo2 ⟨l, d, t, rfl, hl, hd, hp, ht, hq⟩
  refine dS_env (ρ' := [some (.str (S l)), none]) rfl ?_
  unfold t_parse_expression
  walk_at "GO"
  refine de_make ?_
  walk_at "GO"
  refine ⟨γ.length, l, rfl, hl, get_app, rfl, ?_⟩
  rw [set_app]
  walk_at "GO"
  refine ⟨po_meth (C := He.ga K "Parser") get_app rfl, ?_⟩
  walk_at "GO"
  refine ⟨po_meth (C := He.ga K "Parser") get_app rfl, ?_⟩
  walk_at "GO"
  refine ⟨γ.length, toks l, toks l, rfl, get_app, List.suffix_refl _, d, [t], hp, ?_⟩
  rw [set_app]
  walk_at "GO"
  exact ⟨γ.length, toks l, t, [], d, rfl, get_app, pE_suf (pFac_suf 41) _ _ _ hp, ht, dr_keep lo1 (hd _) hq⟩
end
end K07

set_option Elab.async false
set_option linter.all false
set_option maxRecDepth 100000
set_option maxHeartbeats 4000000
namespace K07
open PySem PySem.Spec PyProof.Rows L2 DL
local macro_rules | `(tactic| walk_at "GO") => `(tactic| repeat' (first | with_reducible refine xs_seq ?_ | with_reducible refine xs_set ?_ | with_reducible refine xs_asg ?_ | with_reducible refine xs_if ?_ | with_reducible refine xs_ret ?_ | with_reducible refine xs_next ?_ | with_reducible refine xs_expr ?_ | with_reducible refine xs_fld ?_ | with_reducible refine xs_par ?_ | with_reducible refine xs_retN ?_ | with_reducible refine xs_brk ?_ | with_reducible refine xp_nil ?_ | with_reducible refine xp_cons ?_ | with_reducible refine xe_disp ?_ | with_reducible refine de_dget2 ?_ | with_reducible refine xs_cont ?_ | with_reducible refine da_nil ?_ | with_reducible refine da_cons ?_ | with_reducible refine de_int ?_ | with_reducible refine de_str ?_ | with_reducible refine de_bl ?_ | with_reducible refine de_non ?_ | with_reducible refine de_ty ?_ | ((with_reducible refine xe_var ?_); refine ⟨_, rfl, ?_⟩) | with_reducible refine de_op ?_ | with_reducible refine de_un ?_ | with_reducible refine de_call ?_ | with_reducible refine de_cb ?_ | with_reducible refine de_sl ?_ | with_reducible refine do_none ?_ | with_reducible refine do_some ?_ | with_reducible refine de_if ?_ | with_reducible refine de_andV ?_ | with_reducible refine de_orV ?_ | with_reducible refine de_notV ?_ | with_reducible refine de_chain ?_ | with_reducible refine dt_test ?_ | with_reducible refine dt_B ?_ | with_reducible refine dt_and ?_ | with_reducible refine dt_or ?_ | with_reducible refine dt_not ?_ | (with_reducible refine xe_tup ?_) | (with_reducible refine xe_lst ?_) | (with_reducible refine xe_lstM ?_) | (with_reducible refine de_meth ?_) | (with_reducible refine de_bm ?_) | (with_reducible refine de_bm0 ?_) | (with_reducible refine ⟨isTy_str, ?_⟩) | (with_reducible refine ⟨xty_lst ⟨_, rfl⟩, ?_⟩) | with_reducible refine radd_int ?_ | with_reducible refine radd_S ?_ ?_ | with_reducible refine rsub_int ?_ | with_reducible refine req_int ?_ | with_reducible refine rne_int ?_ | with_reducible refine req_S ?_ | with_reducible refine rne_S ?_ | with_reducible refine rlt_int ?_ | with_reducible refine rle_int ?_ | with_reducible refine rgt_int ?_ | with_reducible refine rge_int ?_ | with_reducible refine rneg_int ?_ | with_reducible refine rin_sgn ?_ | with_reducible refine rni_sgn ?_ | with_reducible refine rc_len_S ?_ ?_ | with_reducible refine rc_int_bl ?_ | with_reducible refine rc_str_int ?_ ?_ | with_reducible refine rc_str_str ?_ | with_reducible refine rc_max2 ?_ | ((with_reducible refine xc_isi ?_); refine ⟨_, true, rfl, rfl, ?_⟩) | ((with_reducible refine xc_isi ?_); refine ⟨_, false, rfl, rfl, ?_⟩) | with_reducible refine di_str ?_ | with_reducible refine di_list ?_ | with_reducible refine di_tup ?_ | with_reducible refine di_rng1 ?_ | with_reducible refine di_rng2 ?_ | with_reducible refine ift ?_ | with_reducible refine iff_ ?_ | with_reducible refine ifnt ?_ | with_reducible refine ifnf ?_ | with_reducible refine rin_strs (.inr rfl) ?_ | with_reducible refine rni_strs (.inr rfl) ?_ | with_reducible refine rin_strs (.inl rfl) ?_ | with_reducible refine rni_strs (.inl rfl) ?_ | ((with_reducible refine rin_seq (.inr rfl) ?_ ?_ ?_); rfl; rfl) | ((with_reducible refine rin_seq (.inl rfl) ?_ ?_ ?_); rfl; rfl) | ((with_reducible refine rni_seq (.inr rfl) ?_ ?_ ?_); rfl; rfl) | ((with_reducible refine rni_seq (.inl rfl) ?_ ?_ ?_); rfl; rfl) | (with_reducible refine xix_tup ?_) | ((with_reducible refine xc_len ?_); refine ⟨_, .inl rfl, ?_⟩) | ((with_reducible refine xc_len ?_); refine ⟨_, .inr rfl, ?_⟩) | (with_reducible refine rm_count ?_) | (with_reducible refine ⟨_, rfl, ?_⟩) | (with_reducible refine ⟨_, _, rfl, ?_⟩) | ((with_reducible refine xix_lst ?_); refine ⟨_, rfl, _, rfl, ?_⟩) | ((with_reducible refine xadd_lst ?_); refine ⟨_, rfl, _, rfl, ?_, ?_⟩) | with_reducible refine rmul_int ?_ ?_ | with_reducible refine rmod_int ?_ ?_ | with_reducible refine rfdiv_int ?_ ?_ | with_reducible refine rpow_int ?_ ?_ | with_reducible refine xg_setL ?_ | refine ⟨_, _, _, _, rfl, rfl, rfl, rfl, ?_⟩ | with_reducible refine xg_name ?_ | with_reducible refine xg_tup rfl ?_ | with_reducible refine xgs_name ?_ | with_reducible refine xgs_nil ?_ | (with_reducible refine ⟨Nat.le_of_ble_eq_true rfl, ?_⟩) | fail))
theorem Strm.mono {n m : Nat} {A B : MO} (h : Strm n A B) (l : m ≤ n) : Strm m A B := by
  obtain ⟨cs, c, t, x, h1, h2, h3, h4, h5, h6⟩ := h
  exact ⟨cs, c, t, x, h1, h2, h3, h4, by omega, h6⟩
section
variable {K : Frag} {mg : Str → Option Value} {ρ : DL.Env} {γ : Ga} {Q : QD}
theorem fmod_range {a b : Int} (hb : 0 < b) : 0 ≤ a.fmod b ∧ a.fmod b < b := ⟨Int.fmod_nonneg_of_pos a hb, Int.fmod_lt_of_pos a hb⟩
/-- the walk behind the taking of a number -/
theorem dl_L_draw (T : Tx K mg) : DL_L_draw K (sp_L_draw K) := by
  rintro ds γ q e lo1 lo2 ⟨n, m, A, B, rest, rfl, hm, hm2, rfl, ⟨cs, c, t, x, rfl, rfl, hc, ht, htn, hx0, hx1⟩, hq⟩
  refine dS_env (ρ' := [some (.loc 1), some (.int m), none, none]) rfl ?_
  unfold t_L_draw
  have htn' : t + 1 + n ≤ 2 ^ 20 := by push_cast at htn; omega
  refine xs_cut (fun ρ' γ' => ρ' = [some (.loc 1), some (.int m), none, none] ∧ γ' = MO.lst (cs.map D.int) :: MO.lst [.loc 0, .int c, .int (t + 1), .int x] :: rest) ?_ ?_
  · walk_at "GO"
    exact ⟨rfl, rfl⟩
  rintro ρ' γ' ⟨rfl, rfl⟩
  refine xs_cut (fun ρ' γ' => ρ' = [some (.loc 1), some (.int m), none, none] ∧ ∃ (cs : List Int) (c x : Int), 0 ≤ c ∧ 0 ≤ x ∧ x < 2 ^ 31 ∧ γ' = MO.lst (cs.map D.int) :: MO.lst [.loc 0, .int c, .int (t + 1), .int x] :: rest) ?_ ?_
  · walk_at "GO"
    refine ifd (fun c1 => ?_) (fun c1 => ?_)
    · walk_at "GO"
      refine rne_nil rfl ?_
      cases cs with
      | nil =>
        walk_at "GO"
        refine ifd (fun c => absurd rfl c) (fun _ => ?_)
        walk_at "GO"
        exact ⟨rfl, [], c, x, hc, hx0, hx1, rfl⟩
      | cons d cs =>
        walk_at "GO"
        refine ifd (fun _ => ?_) (fun c => absurd (by simp) c)
        walk_at "GO"
        refine rm_pop0 rfl ?_
        walk_at "GO"
        · exact ⟨by decide, by decide, by decide⟩
        refine ifd (fun c2 => ?_) (fun c2 => ?_)
        · walk_at "GO"
          · exact .inr (by decide)
          · decide
          obtain ⟨h1, h2⟩ := @fmod_range (x * 31 + d + 7) 2147483647 (by decide)
          exact ⟨rfl, cs, 0, _, by decide, h1, by omega, rfl⟩
        · walk_at "GO"
          refine ⟨rfl, cs, d, x, ?_, hx0, hx1, rfl⟩
          have : (10 : Int) ^ 18 ≤ d := by simpa using c2
          omega
    · walk_at "GO"
      exact ⟨rfl, cs, c, x, hc, hx0, hx1, rfl⟩
  · rintro ρ' γ' ⟨rfl, cs, c, x, h1, h2, h3, rfl⟩
    walk_at "GO"
    refine ifd (fun c1 => ?_) (fun c1 => ?_)
    · walk_at "GO"
      · omega
      · exact ⟨by omega, by omega⟩
      obtain ⟨h4, h5⟩ := @fmod_range c m hm
      refine .inl (hq _ _ _ h4 h5 ⟨cs, c.fdiv m, t + 1, x, rfl, rfl, ?_, by omega, by omega, h2, h3⟩)
      exact Int.fdiv_nonneg h1 (by omega)
    · walk_at "GO"
      · exact .inl (by decide)
      · refine ⟨by decide, by decide, ?_⟩
        have : (0 : Int) ≤ x + 104729 * (t + 1) + 17 := by omega
        omega
      · decide
      · exact .inr (by decide)
      · exact .inl (by decide)
      · refine .inl ⟨by omega, by omega⟩
      · refine ⟨by decide, by decide, ?_⟩
        obtain ⟨h4, h5⟩ := @fmod_range ((x + 104729 * (t + 1) + 17) ^ (5 : Int).toNat) 2147483629 (by decide)
        generalize ((x + 104729 * (t + 1) + 17) ^ (5 : Int).toNat).fmod 2147483629 = y at *
        have h6 : 40503 * (t + 1) * (t + 1) ≤ 40503 * (2 ^ 20) * (2 ^ 20) := by
          have a1 : 40503 * (t + 1) ≤ 40503 * 2 ^ 20 := by omega
          exact Int.mul_le_mul a1 (by omega) (by omega) (by decide)
        have h7 : 0 ≤ 40503 * (t + 1) * (t + 1) := Int.mul_nonneg (by omega) (by omega)
        generalize 40503 * (t + 1) * (t + 1) = z at *
        omega
      · decide
      · omega
      refine .inl (hq _ _ _ ?_ ?_ ⟨cs, c, t + 1, x, rfl, rfl, h1, by omega, by omega, h2, h3⟩)
      · exact (fmod_range hm).1
      · exact (fmod_range hm).2
end
end K07

set_option Elab.async false
set_option linter.all false
set_option maxRecDepth 100000
set_option maxHeartbeats 4000000
namespace K07
open PySem PySem.Spec PyProof.Rows L2 DL
local macro_rules | `(tactic| walk_at "GO") => `(tactic| repeat' (first | with_reducible refine xs_seq ?_ | with_reducible refine xs_set ?_ | with_reducible refine xs_asg ?_ | with_reducible refine xs_if ?_ | with_reducible refine xs_ret ?_ | with_reducible refine xs_next ?_ | with_reducible refine xs_expr ?_ | with_reducible refine xs_fld ?_ | with_reducible refine xs_par ?_ | with_reducible refine xs_retN ?_ | with_reducible refine xs_brk ?_ | with_reducible refine xp_nil ?_ | with_reducible refine xp_cons ?_ | with_reducible refine xe_disp ?_ | with_reducible refine de_dget2 ?_ | with_reducible refine xs_cont ?_ | with_reducible refine da_nil ?_ | with_reducible refine da_cons ?_ | with_reducible refine de_int ?_ | with_reducible refine de_str ?_ | with_reducible refine de_bl ?_ | with_reducible refine de_non ?_ | with_reducible refine de_ty ?_ | ((with_reducible refine xe_var ?_); refine ⟨_, rfl, ?_⟩) | with_reducible refine de_op ?_ | with_reducible refine de_un ?_ | with_reducible refine de_call ?_ | with_reducible refine de_cb ?_ | with_reducible refine de_sl ?_ | with_reducible refine do_none ?_ | with_reducible refine do_some ?_ | with_reducible refine de_if ?_ | with_reducible refine de_andV ?_ | with_reducible refine de_orV ?_ | with_reducible refine de_notV ?_ | with_reducible refine de_chain ?_ | with_reducible refine dt_test ?_ | with_reducible refine dt_B ?_ | with_reducible refine dt_and ?_ | with_reducible refine dt_or ?_ | with_reducible refine dt_not ?_ | (with_reducible refine xe_tup ?_) | (with_reducible refine xe_lst ?_) | (with_reducible refine xe_lstM ?_) | (with_reducible refine de_meth ?_) | (with_reducible refine de_bm ?_) | (with_reducible refine de_bm0 ?_) | (with_reducible refine ⟨isTy_str, ?_⟩) | (with_reducible refine ⟨xty_lst ⟨_, rfl⟩, ?_⟩) | with_reducible refine radd_int ?_ | with_reducible refine radd_S ?_ ?_ | with_reducible refine rsub_int ?_ | with_reducible refine req_int ?_ | with_reducible refine rne_int ?_ | with_reducible refine req_S ?_ | with_reducible refine rne_S ?_ | with_reducible refine rlt_int ?_ | with_reducible refine rle_int ?_ | with_reducible refine rgt_int ?_ | with_reducible refine rge_int ?_ | with_reducible refine rneg_int ?_ | with_reducible refine rin_sgn ?_ | with_reducible refine rni_sgn ?_ | with_reducible refine rc_len_S ?_ ?_ | with_reducible refine rc_int_bl ?_ | with_reducible refine rc_str_int ?_ ?_ | with_reducible refine rc_str_str ?_ | with_reducible refine rc_max2 ?_ | ((with_reducible refine xc_isi ?_); refine ⟨_, true, rfl, rfl, ?_⟩) | ((with_reducible refine xc_isi ?_); refine ⟨_, false, rfl, rfl, ?_⟩) | with_reducible refine di_str ?_ | with_reducible refine di_list ?_ | with_reducible refine di_tup ?_ | with_reducible refine di_rng1 ?_ | with_reducible refine di_rng2 ?_ | with_reducible refine ift ?_ | with_reducible refine iff_ ?_ | with_reducible refine ifnt ?_ | with_reducible refine ifnf ?_ | with_reducible refine rin_strs (.inr rfl) ?_ | with_reducible refine rni_strs (.inr rfl) ?_ | with_reducible refine rin_strs (.inl rfl) ?_ | with_reducible refine rni_strs (.inl rfl) ?_ | ((with_reducible refine rin_seq (.inr rfl) ?_ ?_ ?_); rfl; rfl) | ((with_reducible refine rin_seq (.inl rfl) ?_ ?_ ?_); rfl; rfl) | ((with_reducible refine rni_seq (.inr rfl) ?_ ?_ ?_); rfl; rfl) | ((with_reducible refine rni_seq (.inl rfl) ?_ ?_ ?_); rfl; rfl) | (with_reducible refine xix_tup ?_) | ((with_reducible refine xc_len ?_); refine ⟨_, .inl rfl, ?_⟩) | ((with_reducible refine xc_len ?_); refine ⟨_, .inr rfl, ?_⟩) | (with_reducible refine rm_count ?_) | (with_reducible refine ⟨_, rfl, ?_⟩) | (with_reducible refine ⟨_, _, rfl, ?_⟩) | ((with_reducible refine xix_lst ?_); refine ⟨_, rfl, _, rfl, ?_⟩) | ((with_reducible refine xadd_lst ?_); refine ⟨_, rfl, _, rfl, ?_, ?_⟩) | with_reducible refine rmul_int ?_ ?_ | with_reducible refine rmod_int ?_ ?_ | with_reducible refine rfdiv_int ?_ ?_ | with_reducible refine rpow_int ?_ ?_ | with_reducible refine xg_setL ?_ | refine ⟨_, _, _, _, rfl, rfl, rfl, rfl, ?_⟩ | with_reducible refine xg_name ?_ | with_reducible refine xg_tup rfl ?_ | with_reducible refine xgs_name ?_ | with_reducible refine xgs_nil ?_ | (with_reducible refine ⟨Nat.le_of_ble_eq_true rfl, ?_⟩) | fail))
section
variable {K : Frag} {mg : Str → Option Value} {ρ : DL.Env} {γ : Ga} {Q : QD}
theorem join0 : ∀ l : List Nat, Txt.join (S []) (l.map fun c => S [c]) = S l := by
  intro l
  have h : ∀ l : List Nat, Str.join (S []) (l.map fun c => S [c]) = S l := by
    intro l
    induction l with
    | nil => rfl
    | cons c r ih =>
      cases r with
      | nil => rfl
      | cons d r =>
        show S [c] ++ S [] ++ Str.join (S []) ((d :: r).map fun c => S [c]) = _
        rw [ih, S_app, S_app]
        rfl
  exact (StrLaws.glued_eq_join _ _).trans (h l)
theorem strm_lo {n m L : Nat} {A B A' B' : MO} {rest : Ga} (h : Strm n A B) (h' : Strm m A' B') (l : loG L (A :: B :: rest) = true) (hL : 1 ≤ L) : loG L (A' :: B' :: rest) = true := by
  obtain ⟨cs, c, t, x, rfl, rfl, _⟩ := h'
  have l2 : A.lo L = true ∧ B.lo L = true ∧ loG L rest = true := by simpa [loG] using l
  have l3 : ∀ cs : List Int, loL L (cs.map D.int) = true := fun cs => loL_map (fun _ => rfl) cs
  have l4 : decide (0 < L) = true := decide_eq_true hL
  simp [loG, MO.lo, loL, D.lo, l3, l4, l2.2.2]
theorem dl_L_reserved (T : Tx K mg) : DL_L_reserved K (sp_L_reserved K) := by
  rintro ds γ q e lo1 lo2 ⟨rfl, hq⟩
  refine dS_env (ρ' := []) rfl ?_
  unfold t_L_reserved
  walk_at "GO"
  refine rm_split (ys := RESV.map S) (by decide) (by decide) (by decide +kernel) ?_
  exact .inl hq
theorem name_ok {l : List Nat} (h1 : 1 ≤ l.length) (h2 : l.length ≤ 8) (h3 : ∀ c ∈ l, c ∈ LET) (h4 : l ∉ RESV) : isName l = true := by
  simp [isName, h1, h2, h4]
  exact h3
theorem dl_L_name (T : Tx K mg) : DL_L_name K (sp_L_name K) := by
  rintro ds γ q e lo1 lo2 ⟨n, A, B, rest, rfl, rfl, hs, hq⟩
  refine dS_env (ρ' := [some (.loc 1), none, none, none]) rfl ?_
  unfold t_L_name
  walk_at "GO"
  refine ⟨n + 8, 5, A, B, rest, rfl, by decide, by decide, rfl, hs, fun d A1 B1 h0 h1 hs1 => ?_⟩
  have hz : ∃ z : Nat, atI [D.int 1, .int 1, .int 2, .int 4, .int 8] d = some (.int z) ∧ 1 ≤ z ∧ z ≤ 8 := by
    have : d = 0 ∨ d = 1 ∨ d = 2 ∨ d = 3 ∨ d = 4 := by omega
    rcases this with rfl | rfl | rfl | rfl | rfl
    · exact ⟨1, rfl, by decide, by decide⟩
    · exact ⟨1, rfl, by decide, by decide⟩
    · exact ⟨2, rfl, by decide, by decide⟩
    · exact ⟨4, rfl, by decide, by decide⟩
    · exact ⟨8, rfl, by decide, by decide⟩
  obtain ⟨z, hz, hz1, hz8⟩ := hz
  refine xix_lst ⟨_, rfl, _, hz, ?_⟩
  walk_at "GO"
  refine de_lc [3] (by simp) ?_
  walk_at "GO"
  refine ⟨by omega, by omega, ?_⟩
  have hrl : (rngD 0 (z : Int).toNat).length = z := by simp [rngD]
  refine ⟨by rw [hrl]; omega, fun i acc γ' => ∃ A B l, γ' = A :: B :: rest ∧ Strm (n + 8 - i) A B ∧ acc = l.map (fun c => D.str (S [c])) ∧ l.length = i ∧ ∀ c ∈ l, c ∈ LET, ⟨A1, B1, [], rfl, hs1, rfl, rfl, by simp⟩, ?_, ?_⟩
  · rintro i x acc γ' hi ⟨A2, B2, l, rfl, hs2, rfl, rfl, hl⟩
    have hil : l.length < z := by rw [← hrl]; exact (List.getElem?_eq_some_iff.mp hi).1
    refine dg_name (dt_yes ?_)
    rw [if_pos rfl]
    walk_at "GO"
    refine ⟨n + 7 - l.length, 26, A2, B2, rest, rfl, by decide, by decide, rfl, hs2.mono (by omega), fun d A3 B3 h0 h1 hs3 => ?_⟩
    obtain ⟨k, rfl⟩ : ∃ k : Nat, d = k := ⟨d.toNat, by omega⟩
    have hk : k < LET.length := by show k < 26; omega
    refine xix_str (by decide) ⟨LET[k], at_nat (List.getElem?_eq_getElem hk), ?_⟩
    refine ⟨A3, B3, l ++ [LET[k]], rfl, hs3.mono (by omega), by simp, by simp, ?_⟩
    intro c hc
    rcases List.mem_append.mp hc with hc | hc
    · exact hl c hc
    · rw [List.mem_singleton] at hc
      rw [hc]
      exact List.getElem_mem hk
  · rintro acc γ' ⟨A2, B2, l, rfl, hs2, rfl, hll, hl⟩
    rw [hrl] at hll
    walk_at "GO"
    have hm : l.map (fun c => D.str (S [c])) = (l.map fun c => S [c]).map D.str := by rw [List.map_map]; rfl
    rw [hm]
    refine rm_join (ys := l.map fun c => S [c]) (.inl rfl) ?_ ?_
    · have : ∀ l : List Nat, ((l.map fun c => S [c]).map (·.length)).sum = l.length := by
        intro l
        induction l with
        | nil => rfl
        | cons c r ih => simp only [List.map_cons, List.sum_cons, ih, S_len, List.length_cons]; simp; omega
      rw [this, S_len, List.length_map]
      simp; omega
    rw [join0]
    walk_at "GO"
    refine ⟨rfl, ?_⟩
    refine rin_strs (.inl rfl) ?_
    walk_at "GO"
    by_cases hr : l ∈ RESV
    · rw [show (if decide (l ∈ RESV) = true then (1 : Int) else 0) = ((1 : Nat) : Int) by simp [hr]]
      refine rmul_str (by decide) (by decide) ?_
      walk_at "GO"
      · simp [reps]; omega
      have h8 : ∀ l ∈ RESV, l.length ≤ 8 → isName (l ++ reps 1 [113]) = true := by decide
      exact .inl (hq _ _ _ (h8 l hr (by omega)) (hs2.mono (by omega)))
    · rw [show (if decide (l ∈ RESV) = true then (1 : Int) else 0) = ((0 : Nat) : Int) by simp [hr]]
      refine rmul_str (by decide) (by decide) ?_
      walk_at "GO"
      · simp [reps]; omega
      rw [show l ++ reps 0 [113] = l by simp [reps]]
      exact .inl (hq _ _ _ (name_ok (by omega) (by omega) hl hr) (hs2.mono (by omega)))
end
end K07

set_option Elab.async false
set_option linter.all false
set_option maxRecDepth 100000
set_option maxHeartbeats 4000000
namespace K07
open PySem PySem.Spec PyProof.Rows L2 DL
local macro_rules | `(tactic| walk_at "GO") => `(tactic| repeat' (first | with_reducible refine xs_seq ?_ | with_reducible refine xs_set ?_ | with_reducible refine xs_asg ?_ | with_reducible refine xs_if ?_ | with_reducible refine xs_ret ?_ | with_reducible refine xs_next ?_ | with_reducible refine xs_expr ?_ | with_reducible refine xs_fld ?_ | with_reducible refine xs_par ?_ | with_reducible refine xs_retN ?_ | with_reducible refine xs_brk ?_ | with_reducible refine xp_nil ?_ | with_reducible refine xp_cons ?_ | with_reducible refine xe_disp ?_ | with_reducible refine de_dget2 ?_ | with_reducible refine xs_cont ?_ | with_reducible refine da_nil ?_ | with_reducible refine da_cons ?_ | with_reducible refine de_int ?_ | with_reducible refine de_str ?_ | with_reducible refine de_bl ?_ | with_reducible refine de_non ?_ | with_reducible refine de_ty ?_ | ((with_reducible refine xe_var ?_); refine ⟨_, rfl, ?_⟩) | with_reducible refine de_op ?_ | with_reducible refine de_un ?_ | with_reducible refine de_call ?_ | with_reducible refine de_cb ?_ | with_reducible refine de_sl ?_ | with_reducible refine do_none ?_ | with_reducible refine do_some ?_ | with_reducible refine de_if ?_ | with_reducible refine de_andV ?_ | with_reducible refine de_orV ?_ | with_reducible refine de_notV ?_ | with_reducible refine de_chain ?_ | with_reducible refine dt_test ?_ | with_reducible refine dt_B ?_ | with_reducible refine dt_and ?_ | with_reducible refine dt_or ?_ | with_reducible refine dt_not ?_ | (with_reducible refine xe_tup ?_) | (with_reducible refine xe_lst ?_) | (with_reducible refine xe_lstM ?_) | (with_reducible refine de_meth ?_) | (with_reducible refine de_bm ?_) | (with_reducible refine de_bm0 ?_) | (with_reducible refine ⟨isTy_str, ?_⟩) | (with_reducible refine ⟨xty_lst ⟨_, rfl⟩, ?_⟩) | with_reducible refine radd_int ?_ | with_reducible refine radd_S ?_ ?_ | with_reducible refine rsub_int ?_ | with_reducible refine req_int ?_ | with_reducible refine rne_int ?_ | with_reducible refine req_S ?_ | with_reducible refine rne_S ?_ | with_reducible refine rlt_int ?_ | with_reducible refine rle_int ?_ | with_reducible refine rgt_int ?_ | with_reducible refine rge_int ?_ | with_reducible refine rneg_int ?_ | with_reducible refine rin_sgn ?_ | with_reducible refine rni_sgn ?_ | with_reducible refine rc_len_S ?_ ?_ | with_reducible refine rc_int_bl ?_ | with_reducible refine rc_str_int ?_ ?_ | with_reducible refine rc_str_str ?_ | with_reducible refine rc_max2 ?_ | ((with_reducible refine xc_isi ?_); refine ⟨_, true, rfl, rfl, ?_⟩) | ((with_reducible refine xc_isi ?_); refine ⟨_, false, rfl, rfl, ?_⟩) | with_reducible refine di_str ?_ | with_reducible refine di_list ?_ | with_reducible refine di_tup ?_ | with_reducible refine di_rng1 ?_ | with_reducible refine di_rng2 ?_ | with_reducible refine ift ?_ | with_reducible refine iff_ ?_ | with_reducible refine ifnt ?_ | with_reducible refine ifnf ?_ | with_reducible refine rin_strs (.inr rfl) ?_ | with_reducible refine rni_strs (.inr rfl) ?_ | with_reducible refine rin_strs (.inl rfl) ?_ | with_reducible refine rni_strs (.inl rfl) ?_ | ((with_reducible refine rin_seq (.inr rfl) ?_ ?_ ?_); rfl; rfl) | ((with_reducible refine rin_seq (.inl rfl) ?_ ?_ ?_); rfl; rfl) | ((with_reducible refine rni_seq (.inr rfl) ?_ ?_ ?_); rfl; rfl) | ((with_reducible refine rni_seq (.inl rfl) ?_ ?_ ?_); rfl; rfl) | (with_reducible refine xix_tup ?_) | ((with_reducible refine xc_len ?_); refine ⟨_, .inl rfl, ?_⟩) | ((with_reducible refine xc_len ?_); refine ⟨_, .inr rfl, ?_⟩) | (with_reducible refine rm_count ?_) | (with_reducible refine ⟨_, rfl, ?_⟩) | (with_reducible refine ⟨_, _, rfl, ?_⟩) | ((with_reducible refine xix_lst ?_); refine ⟨_, rfl, _, rfl, ?_⟩) | ((with_reducible refine xadd_lst ?_); refine ⟨_, rfl, _, rfl, ?_, ?_⟩) | with_reducible refine rmul_int ?_ ?_ | with_reducible refine rmod_int ?_ ?_ | with_reducible refine rfdiv_int ?_ ?_ | with_reducible refine rpow_int ?_ ?_ | with_reducible refine xg_setL ?_ | refine ⟨_, _, _, _, rfl, rfl, rfl, rfl, ?_⟩ | with_reducible refine xg_name ?_ | with_reducible refine xg_tup rfl ?_ | with_reducible refine xgs_name ?_ | with_reducible refine xgs_nil ?_ | (with_reducible refine ⟨Nat.le_of_ble_eq_true rfl, ?_⟩) | fail))
section
variable {K : Frag} {mg : Str → Option Value} {ρ : DL.Env} {γ : Ga} {Q : QD}
theorem get_end {A B a : MO} {rest : Ga} : (A :: B :: (rest ++ [a]))[rest.length + 1 + 1]? = some a := by simp
theorem set_end {A B a b : MO} {rest : Ga} : (A :: B :: (rest ++ [a])).set (rest.length + 1 + 1) b = A :: B :: (rest ++ [b]) := by simp
theorem dl_L_names (T : Tx K mg) : DL_L_names K (sp_L_names K) := by
  rintro ds γ q e lo1 lo2 ⟨n, A, B, rest, rfl, rfl, hs, hq⟩
  refine dS_env (ρ' := [some (.loc 1), some (.int 3), none, none, none, none]) rfl ?_
  unfold t_L_names
  refine xs_cut (fun ρ' γ' => ρ' = [some (.loc 1), some (.int 3), some (.loc (rest.length + 1 + 1)), none, none, none] ∧ γ' = A :: B :: (rest ++ [.lst []])) ?_ ?_
  · walk_at "GO"
    exact ⟨rfl, rfl⟩
  rintro ρ' γ' ⟨rfl, rfl⟩
  refine xs_cut (fun ρ' γ' => ∃ A' B' fs x3 x4 x5, ρ' = [some (.loc 1), some (.int 3), some (.loc (rest.length + 1 + 1)), x3, x4, x5] ∧ γ' = A' :: B' :: (rest ++ [.lst (strsD fs)]) ∧ Strm n A' B' ∧ fs.length = 3 ∧ ∀ l ∈ fs, isName l = true) ?_ ?_
  · refine xs_for [3] ?_
    walk_at "GO"
    refine ⟨by decide, by decide, ?_⟩
    refine ⟨fun i ρ' γ' => ∃ A' B' fs x3 x4 x5, ρ' = [some (.loc 1), some (.int 3), some (.loc (rest.length + 1 + 1)), x3, x4, x5] ∧ γ' = A' :: B' :: (rest ++ [.lst (strsD fs)]) ∧ Strm (n + 27 - 9 * i) A' B' ∧ fs.length = i ∧ ∀ l ∈ fs, isName l = true, ⟨A, B, [], none, none, none, rfl, rfl, hs, rfl, by simp⟩, ?_, ?_⟩
    · rintro i x ρ' γ' hi ⟨A', B', fs, x3, x4, x5, rfl, rfl, hs', rfl, hf⟩
      have hi3 : fs.length < 3 := (List.getElem?_eq_some_iff.mp hi).1
      refine dg_name ?_
      walk_at "GO"
      refine ⟨n + 18 - 9 * fs.length, A', B', rest ++ [.lst (strsD fs)], rfl, rfl, hs'.mono (by omega), fun l A1 B1 hl hs1 => ?_⟩
      walk_at "GO"
      refine xs_for [5] ?_
      walk_at "GO"
      refine ⟨fun _ ρ' γ' => ∃ l x3 x5, isName l = true ∧ ρ' = [some (.loc 1), some (.int 3), some (.loc (rest.length + 1 + 1)), x3, some (.str (S l)), x5] ∧ γ' = A1 :: B1 :: (rest ++ [.lst (strsD fs)]), ⟨l, _, _, hl, rfl, rfl⟩, ?_, ?_⟩
      · rintro j y ρ' γ' hj ⟨l, x3, x5, hl, rfl, rfl⟩
        have hy : ∃ sp, y = .str (S sp) ∧ isName sp = true := by
          match j, hj with
          | 0, hj => cases hj; exact ⟨_, rfl, by decide⟩
          | 1, hj => cases hj; exact ⟨_, rfl, by decide⟩
          | 2, hj => cases hj; exact ⟨_, rfl, by decide⟩
          | 3, hj => cases hj; exact ⟨_, rfl, by decide⟩
          | 4, hj => cases hj; exact ⟨_, rfl, by decide⟩
          | 5, hj => cases hj; exact ⟨_, rfl, by decide⟩
          | j + 6, hj => cases hj
        obtain ⟨sp, rfl, hsp⟩ := hy
        refine dg_name ?_
        walk_at "GO"
        refine rin_strs (.inl (vw_loc get_end)) ?_
        walk_at "GO"
        refine ifd (fun _ => ?_) (fun _ => ?_)
        · walk_at "GO"
          exact ⟨sp, _, _, hsp, rfl, rfl⟩
        · walk_at "GO"
          exact ⟨l, _, _, hl, rfl, rfl⟩
      · rintro ρ' γ' ⟨l, x3, x5, hl, rfl, rfl⟩
        walk_at "GO"
        refine ⟨xty_lst ⟨_, vw_loc get_end⟩, ?_⟩
        walk_at "GO"
        refine xm_append ⟨_, _, rfl, get_end, by simp [strsD]; omega, ?_⟩
        rw [set_end]
        refine ⟨A1, B1, fs ++ [l], _, _, _, rfl, by simp [strsD], hs1.mono (by omega), by simp, ?_⟩
        intro y hy
        rcases List.mem_append.mp hy with hy | hy
        · exact hf y hy
        · rw [List.mem_singleton] at hy
          exact hy ▸ hl
    · rintro ρ' γ' ⟨A', B', fs, x3, x4, x5, rfl, rfl, hs', hl, hf⟩
      exact ⟨A', B', fs, x3, x4, x5, rfl, rfl, hs'.mono (by rw [show (rngD 0 (3 : Int).toNat).length = 3 from rfl]; omega), hl, hf⟩
  · rintro ρ' γ' ⟨A', B', fs, x3, x4, x5, rfl, rfl, hs', hl, hf⟩
    walk_at "GO"
    have lo1' := strm_lo hs hs' lo1 (by simp)
    exact dr_lst (γ := A' :: B' :: rest) (rest := []) lo1' (loL_map (fun _ => rfl) _) (hq fs A' B' hl hf hs')
theorem dl_L_number (T : Tx K mg) : DL_L_number K (sp_L_number K) := by
  rintro ds γ q e lo1 lo2 ⟨n, A, B, rest, rfl, rfl, hs, hq⟩
  refine dS_env (ρ' := [some (.loc 1)]) rfl ?_
  unfold t_L_number
  walk_at "GO"
  · exact ⟨by decide, by decide, by decide⟩
  · exact ⟨by decide, by decide, by decide⟩
  refine ⟨n, 8, A, B, rest, rfl, by decide, by decide, rfl, hs, fun d A1 B1 h0 h1 hs1 => ?_⟩
  have : d = 0 ∨ d = 1 ∨ d = 2 ∨ d = 3 ∨ d = 4 ∨ d = 5 ∨ d = 6 ∨ d = 7 := by omega
  rcases this with rfl | rfl | rfl | rfl | rfl | rfl | rfl | rfl <;> exact rix_lst rfl rfl (.inl (hq _ _ _ (by decide) hs1))
theorem dl_L_rank (T : Tx K mg) : DL_L_rank K (sp_L_rank K) := by
  rintro ds γ q e lo1 lo2 ⟨e, he, o, xs, ho, rfl, hq⟩
  refine dS_env (ρ' := [some o]) rfl ?_
  unfold t_L_rank
  have hrow : ∃ w, o = .str (S w) ∧ (w, e.rk) ∈ [(sNumber, 3), (sVariable, 3), (sNegate, 3), ([43], 1), ([45], 1), ([42], 2), ([47, 47], 2), ([109, 111, 100], 2), (sNot, 3), ([61], 3), ([33, 61], 3), ([60], 3), ([60, 61], 3), ([62], 3), ([62, 61], 3), (sOr, 1), (sAnd, 2)] := by
    have bin3 : ∀ {p a b : Bool}, ((p && a && b) || false) = true → p = true := by
      intro p a b h
      cases p <;> simp at h ⊢
    cases e with
    | num z => cases ho; exact ⟨_, rfl, by show (sNumber, 3) ∈ _; decide⟩
    | var l => cases ho; exact ⟨_, rfl, by show (sVariable, 3) ∈ _; decide⟩
    | neg a => cases ho; exact ⟨_, rfl, by show (sNegate, 3) ∈ _; decide⟩
    | nt a => cases ho; exact ⟨_, rfl, by show (sNot, 3) ∈ _; decide⟩
    | bin w a b =>
      cases ho
      refine ⟨_, rfl, ?_⟩
      have hw : w ∈ OPS := of_decide_eq_true (bin3 he)
      have hall : ∀ w ∈ OPS, (w, rankOf w) ∈ [(sNumber, 3), (sVariable, 3), (sNegate, 3), ([43], 1), ([45], 1), ([42], 2), ([47, 47], 2), ([109, 111, 100], 2), (sNot, 3), ([61], 3), ([33, 61], 3), ([60], 3), ([60, 61], 3), ([62], 3), ([62, 61], 3), (sOr, 1), (sAnd, 2)] := by decide
      exact hall w hw
    | cmp w a b =>
      cases ho
      refine ⟨_, rfl, ?_⟩
      have hw : w ∈ CMPS := of_decide_eq_true (bin3 (by rw [Bool.or_false]; exact he))
      have hall : ∀ w ∈ CMPS, (w, 3) ∈ [(sNumber, 3), (sVariable, 3), (sNegate, 3), ([43], 1), ([45], 1), ([42], 2), ([47, 47], 2), ([109, 111, 100], 2), (sNot, 3), ([61], 3), ([33, 61], 3), ([60], 3), ([60, 61], 3), ([62], 3), ([62, 61], 3), (sOr, 1), (sAnd, 2)] := by decide
      exact hall w hw
    | con w a b =>
      cases ho
      refine ⟨_, rfl, ?_⟩
      have hw : w ∈ CONS := of_decide_eq_true (bin3 (by rw [Bool.or_false]; exact he))
      have hall : ∀ w ∈ CONS, (w, rankC w) ∈ [(sNumber, 3), (sVariable, 3), (sNegate, 3), ([43], 1), ([45], 1), ([42], 2), ([47, 47], 2), ([109, 111, 100], 2), (sNot, 3), ([61], 3), ([33, 61], 3), ([60], 3), ([60, 61], 3), ([62], 3), ([62, 61], 3), (sOr, 1), (sAnd, 2)] := by decide
      exact hall w hw
  obtain ⟨w, rfl, hw⟩ := hrow
  generalize e.rk = r at *
  walk_at "GO"
  refine ⟨rfl, by decide +kernel, by decide, ?_⟩
  refine ⟨⟨_, _, rfl⟩, ?_⟩
  walk_at "GO"
  refine ⟨_, _, _, rfl, rfl, ?_⟩
  simp only [List.mem_cons, List.not_mem_nil, or_false] at hw
  rcases hw with h | h | h | h | h | h | h | h | h | h | h | h | h | h | h | h | h <;> (cases h; exact .inl hq)
end
end K07

set_option Elab.async false
set_option linter.all false
set_option maxRecDepth 100000
set_option maxHeartbeats 4000000
namespace K07
open PySem PySem.Spec PyProof.Rows L2 DL
local macro_rules | `(tactic| walk_at "GO") => `(tactic| repeat' (first | with_reducible refine xs_seq ?_ | with_reducible refine xs_set ?_ | with_reducible refine xs_asg ?_ | with_reducible refine xs_if ?_ | with_reducible refine xs_ret ?_ | with_reducible refine xs_next ?_ | with_reducible refine xs_expr ?_ | with_reducible refine xs_fld ?_ | with_reducible refine xs_par ?_ | with_reducible refine xs_retN ?_ | with_reducible refine xs_brk ?_ | with_reducible refine xp_nil ?_ | with_reducible refine xp_cons ?_ | with_reducible refine xe_disp ?_ | with_reducible refine de_dget2 ?_ | with_reducible refine xs_cont ?_ | with_reducible refine da_nil ?_ | with_reducible refine da_cons ?_ | with_reducible refine de_int ?_ | with_reducible refine de_str ?_ | with_reducible refine de_bl ?_ | with_reducible refine de_non ?_ | with_reducible refine de_ty ?_ | ((with_reducible refine xe_var ?_); refine ⟨_, rfl, ?_⟩) | with_reducible refine de_op ?_ | with_reducible refine de_un ?_ | with_reducible refine de_call ?_ | with_reducible refine de_cb ?_ | with_reducible refine de_sl ?_ | with_reducible refine do_none ?_ | with_reducible refine do_some ?_ | with_reducible refine de_if ?_ | with_reducible refine de_andV ?_ | with_reducible refine de_orV ?_ | with_reducible refine de_notV ?_ | with_reducible refine de_chain ?_ | with_reducible refine dt_test ?_ | with_reducible refine dt_B ?_ | with_reducible refine dt_and ?_ | with_reducible refine dt_or ?_ | with_reducible refine dt_not ?_ | (with_reducible refine xe_tup ?_) | (with_reducible refine xe_lst ?_) | (with_reducible refine xe_lstM ?_) | (with_reducible refine de_meth ?_) | (with_reducible refine de_bm ?_) | (with_reducible refine de_bm0 ?_) | (with_reducible refine ⟨isTy_str, ?_⟩) | (with_reducible refine ⟨xty_lst ⟨_, rfl⟩, ?_⟩) | with_reducible refine radd_int ?_ | with_reducible refine radd_S ?_ ?_ | with_reducible refine rsub_int ?_ | with_reducible refine req_int ?_ | with_reducible refine rne_int ?_ | with_reducible refine req_S ?_ | with_reducible refine rne_S ?_ | with_reducible refine rlt_int ?_ | with_reducible refine rle_int ?_ | with_reducible refine rgt_int ?_ | with_reducible refine rge_int ?_ | with_reducible refine rneg_int ?_ | with_reducible refine rin_sgn ?_ | with_reducible refine rni_sgn ?_ | with_reducible refine rc_len_S ?_ ?_ | with_reducible refine rc_int_bl ?_ | with_reducible refine rc_str_int ?_ ?_ | with_reducible refine rc_str_str ?_ | with_reducible refine rc_max2 ?_ | ((with_reducible refine xc_isi ?_); refine ⟨_, true, rfl, rfl, ?_⟩) | ((with_reducible refine xc_isi ?_); refine ⟨_, false, rfl, rfl, ?_⟩) | with_reducible refine di_str ?_ | with_reducible refine di_list ?_ | with_reducible refine di_tup ?_ | with_reducible refine di_rng1 ?_ | with_reducible refine di_rng2 ?_ | with_reducible refine ift ?_ | with_reducible refine iff_ ?_ | with_reducible refine ifnt ?_ | with_reducible refine ifnf ?_ | with_reducible refine rin_strs (.inr rfl) ?_ | with_reducible refine rni_strs (.inr rfl) ?_ | with_reducible refine rin_strs (.inl rfl) ?_ | with_reducible refine rni_strs (.inl rfl) ?_ | ((with_reducible refine rin_seq (.inr rfl) ?_ ?_ ?_); rfl; rfl) | ((with_reducible refine rin_seq (.inl rfl) ?_ ?_ ?_); rfl; rfl) | ((with_reducible refine rni_seq (.inr rfl) ?_ ?_ ?_); rfl; rfl) | ((with_reducible refine rni_seq (.inl rfl) ?_ ?_ ?_); rfl; rfl) | (with_reducible refine xix_tup ?_) | ((with_reducible refine xc_len ?_); refine ⟨_, .inl rfl, ?_⟩) | ((with_reducible refine xc_len ?_); refine ⟨_, .inr rfl, ?_⟩) | (with_reducible refine rm_count ?_) | (with_reducible refine ⟨_, rfl, ?_⟩) | (with_reducible refine ⟨_, _, rfl, ?_⟩) | ((with_reducible refine xix_lst ?_); refine ⟨_, rfl, _, rfl, ?_⟩) | ((with_reducible refine xadd_lst ?_); refine ⟨_, rfl, _, rfl, ?_, ?_⟩) | with_reducible refine rmul_int ?_ ?_ | with_reducible refine rmod_int ?_ ?_ | with_reducible refine rfdiv_int ?_ ?_ | with_reducible refine rpow_int ?_ ?_ | with_reducible refine xg_setL ?_ | refine ⟨_, _, _, _, rfl, rfl, rfl, rfl, ?_⟩ | with_reducible refine xg_name ?_ | with_reducible refine xg_tup rfl ?_ | with_reducible refine xgs_name ?_ | with_reducible refine xgs_nil ?_ | (with_reducible refine ⟨Nat.le_of_ble_eq_true rfl, ?_⟩) | fail))
section
variable {K : Frag} {mg : Str → Option Value} {ρ : DL.Env} {γ : Ga} {Q : QD}
theorem dl_L_sum (T : Tx K mg) (s : SpD) (dp : Nat) (hrec : ∀ dp', dp = dp' + 1 → ∀ ds γ q e, spSum K dp' ds γ q e → s ds γ q e) : DL_L_sum K s (spSum K dp) := by
  rintro ds γ q e lo1 lo2 ⟨n, A, B, rest, ns, dq, rfl, hdq, hns, hok, rfl, hs, hq⟩
  refine dS_env (ρ' := [some (.loc 1), some (.lst (strsD ns)), some (.int dq), none, none]) rfl ?_
  unfold t_L_sum
  have h3 : 3 ≤ bS dq := by cases dq <;> simp [bS]
  walk_at "GO"
  refine ⟨n + bS dq - 1, 9, A, B, rest, rfl, by decide, by decide, rfl, hs.mono (by omega), fun way A1 B1 hw0 hw1 hs1 => ?_⟩
  -- a leaf
  refine xs_cut (fun ρ' γ' => ρ' = [some (.loc 1), some (.lst (strsD ns)), some (.int dq), some (.int way), none] ∧ γ' = A1 :: B1 :: rest ∧ ∃ d, dq = d + 1) ?_ ?_
  · have leaf : dS K (A :: B :: rest).length (tSeq (tIfS (tTest (tOp (rEqG K) (tCall (toSp K (sp_L_draw K)) [] E0 (tCons (tVar 0) (tCons (tC (.int 2)) tNil))) (tC (.int 0)))) (tRet (tTup (tCons (tC (.str (S [110, 117, 109, 98, 101, 114]))) (tCons (tCall (toSp K (sp_L_number K)) [] E0 (tCons (tVar 0) tNil)) tNil)))) tNext) (tRet (tTup (tCons (tC (.str (S [118, 97, 114, 105, 97, 98, 108, 101]))) (tCons (tOp (rIx K) (tVar 1) (tCall (toSp K (sp_L_draw K)) [] E0 (tCons (tVar 0) (tCons (tCB (rLenG K) (tCons (tVar 1) tNil)) tNil)))) tNil)))))
      [some (.loc 1), some (.lst (strsD ns)), some (.int dq), some (.int way), none] (A1 :: B1 :: rest) ⟨fun ρ' γ' => ρ' = [some (.loc 1), some (.lst (strsD ns)), some (.int dq), some (.int way), none] ∧ γ' = A1 :: B1 :: rest ∧ ∃ d, dq = d + 1, Dr (A :: B :: rest).length q, fun _ _ => False, fun _ _ => False⟩ := by
      walk_at "GO"
      refine ⟨n + bS dq - 2, 2, A1, B1, rest, rfl, by decide, by decide, rfl, hs1.mono (by omega), fun d A2 B2 hd0 hd1 hs2 => ?_⟩
      walk_at "GO"
      refine ifd (fun c1 => ?_) (fun c1 => ?_)
      · walk_at "GO"
        refine ⟨n + bS dq - 3, A2, B2, rest, rfl, rfl, hs2.mono (by omega), fun i A3 B3 hi hs3 => ?_⟩
        walk_at "GO"
        exact .inl (hq (.num i) _ _ (decide_eq_true hi) (Nat.zero_le _) (hs3.mono (by omega)))
      · walk_at "GO"
        have hlen : (strsD ns).length = 3 := by simp [strsD, hns]
        rw [hlen]
        refine ⟨n + bS dq - 3, 3, A2, B2, rest, rfl, by decide, by decide, rfl, hs2.mono (by omega), fun d A3 B3 hd0 hd1 hs3 => ?_⟩
        obtain ⟨k, rfl⟩ : ∃ k : Nat, d = k := ⟨d.toNat, by omega⟩
        have hk : k < ns.length := by omega
        refine xix_lst ⟨_, rfl, .str (S ns[k]), at_nat (by simp [strsD, hk]), ?_⟩
        walk_at "GO"
        exact .inl (hq (.var ns[k]) _ _ (hok _ (List.getElem_mem hk)) (Nat.zero_le _) (hs3.mono (by omega)))
    walk_at "GO"
    refine ifd (fun c1 => ?_) (fun c1 => ?_)
    · refine ift ?_
      exact leaf
    · walk_at "GO"
      refine ifd (fun c2 => ?_) (fun c2 => ?_)
      · exact leaf
      · walk_at "GO"
        refine ⟨rfl, rfl, dq - 1, ?_⟩
        have : (dq : Int) ≠ 0 := c1
        omega
  · rintro ρ' γ' ⟨rfl, rfl, d, rfl⟩
    obtain ⟨dp', rfl⟩ : ∃ k, dp = k + 1 := ⟨dp - 1, by omega⟩
    have hb : bS (d + 1) = 3 + 2 * bS d := rfl
    have hd : ((d + 1 : Nat) : Int) - 1 = (d : Nat) := by omega
    walk_at "GO"
    refine ifd (fun c1 => ?_) (fun c1 => ?_)
    · walk_at "GO"
      rw [hd]
      refine hrec dp' rfl _ _ _ _ ⟨n + 2 + bS d, A1, B1, rest, ns, d, rfl, by omega, hns, hok, rfl, hs1.mono (by omega), fun a A2 B2 ha hda hs2 => ?_⟩
      walk_at "GO"
      exact .inl (hq (.neg a) _ _ ha (Nat.succ_le_succ hda) (hs2.mono (by omega)))
    · walk_at "GO"
      · decide
      have hwd : ∃ o, atI [D.str (S [43]), .str (S [45]), .str (S [42]), .str (S [47, 47]), .str (S [109, 111, 100])] (way.fmod 5) = some (.str (S o)) ∧ o ∈ OPS := by
        have : way.fmod 5 = 0 ∨ way.fmod 5 = 1 ∨ way.fmod 5 = 2 ∨ way.fmod 5 = 3 ∨ way.fmod 5 = 4 := by
          have := @fmod_range way 5 (by decide); omega
        rcases this with h | h | h | h | h <;> rw [h]
        · exact ⟨_, rfl, by decide⟩
        · exact ⟨_, rfl, by decide⟩
        · exact ⟨_, rfl, by decide⟩
        · exact ⟨_, rfl, by decide⟩
        · exact ⟨_, rfl, by decide⟩
      obtain ⟨o, ho1, ho2⟩ := hwd
      refine xix_lst ⟨_, rfl, _, ho1, ?_⟩
      walk_at "GO"
      rw [hd]
      refine hrec dp' rfl _ _ _ _ ⟨n + 2 + bS d, A1, B1, rest, ns, d, rfl, by omega, hns, hok, rfl, hs1.mono (by omega), fun a A2 B2 ha hda hs2 => ?_⟩
      walk_at "GO"
      rw [hd]
      refine hrec dp' rfl _ _ _ _ ⟨n + 2, A2, B2, rest, ns, d, rfl, by omega, hns, hok, rfl, hs2.mono (by omega), fun b A3 B3 hb' hdb hs3 => ?_⟩
      walk_at "GO"
      refine .inl (hq (.bin o a b) _ _ ?_ ?_ (hs3.mono (by omega)))
      · show (decide (o ∈ OPS) && a.okE && b.okE) = true
        rw [decide_eq_true ho2, ha, hb']; rfl
      · show max a.dep b.dep + 1 ≤ d + 1
        omega
theorem dl_L_truth (T : Tx K mg) (s : SpD) (dp : Nat) (hdp3 : dp ≤ 3) (hrec : ∀ dp', dp = dp' + 1 → ∀ ds γ q e, spTruth K dp' ds γ q e → s ds γ q e) : DL_L_truth K s (spTruth K dp) := by
  rintro ds γ q e lo1 lo2 ⟨n, A, B, rest, ns, dq, rfl, hdq, hns, hok, rfl, hs, hq⟩
  refine dS_env (ρ' := [some (.loc 1), some (.lst (strsD ns)), some (.int dq), none, none, none, none]) rfl ?_
  unfold t_L_truth
  have h3 : 100 ≤ bT dq := by cases dq <;> simp [bT]
  have hbs : ∀ k, k < 3 → bS k ≤ 21 := by decide
  walk_at "GO"
  refine ⟨n + bT dq - 1, 8, A, B, rest, rfl, by decide, by decide, rfl, hs.mono (by omega), fun way A1 B1 hw0 hw1 hs1 => ?_⟩
  refine xs_cut (fun ρ' γ' => ρ' = [some (.loc 1), some (.lst (strsD ns)), some (.int dq), some (.int way), none, none, none] ∧ γ' = A1 :: B1 :: rest ∧ ∃ d, dq = d + 1) ?_ ?_
  · have leaf : dS K (A :: B :: rest).length (tSeq (tAsg (tOp (rIx K) (tBM K "str" rSplit (tC (.str (S [61, 32, 33, 61, 32, 60, 32, 60, 61, 32, 62, 32, 62, 61]))) (tCons (tC (.str (S [32]))) tNil)) (tCall (toSp K (sp_L_draw K)) [] E0 (tCons (tVar 0) (tCons (tC (.int 6)) tNil)))) (gName 4)) (tSeq (tAsg (tCall (toSp K (sp_L_sum K)) [] E0 (tCons (tVar 0) (tCons (tVar 1) (tCons (tCall (toSp K (sp_L_draw K)) [] E0 (tCons (tVar 0) (tCons (tC (.int 3)) tNil))) tNil)))) (gName 5)) (tRet (tTup (tCons (tVar 4) (tCons (tVar 5) (tCons (tCall (toSp K (sp_L_sum K)) [] E0 (tCons (tVar 0) (tCons (tVar 1) (tCons (tCall (toSp K (sp_L_draw K)) [] E0 (tCons (tVar 0) (tCons (tC (.int 3)) tNil))) tNil)))) tNil)))))))
      [some (.loc 1), some (.lst (strsD ns)), some (.int dq), some (.int way), none, none, none] (A1 :: B1 :: rest) ⟨fun ρ' γ' => ρ' = [some (.loc 1), some (.lst (strsD ns)), some (.int dq), some (.int way), none, none, none] ∧ γ' = A1 :: B1 :: rest ∧ ∃ d, dq = d + 1, Dr (A :: B :: rest).length q, fun _ _ => False, fun _ _ => False⟩ := by
      walk_at "GO"
      refine rm_split (ys := CMPS.map S) (by decide) (by decide) (by decide +kernel) ?_
      walk_at "GO"
      refine ⟨n + bT dq - 2, 6, A1, B1, rest, rfl, by decide, by decide, rfl, hs1.mono (by omega), fun d A2 B2 hd0 hd1 hs2 => ?_⟩
      have hwd : ∃ o, atI ((CMPS.map S).map D.str) d = some (.str (S o)) ∧ o ∈ CMPS := by
        have : d = 0 ∨ d = 1 ∨ d = 2 ∨ d = 3 ∨ d = 4 ∨ d = 5 := by omega
        rcases this with h | h | h | h | h | h <;> rw [h]
        · exact ⟨_, rfl, by decide⟩
        · exact ⟨_, rfl, by decide⟩
        · exact ⟨_, rfl, by decide⟩
        · exact ⟨_, rfl, by decide⟩
        · exact ⟨_, rfl, by decide⟩
        · exact ⟨_, rfl, by decide⟩
      obtain ⟨o, ho1, ho2⟩ := hwd
      refine xix_lst ⟨_, rfl, _, ho1, ?_⟩
      walk_at "GO"
      refine ⟨n + bT dq - 3, 3, A2, B2, rest, rfl, by decide, by decide, rfl, hs2.mono (by omega), fun k A3 B3 hk0 hk1 hs3 => ?_⟩
      walk_at "GO"
      obtain ⟨k, rfl⟩ : ∃ j : Nat, k = j := ⟨k.toNat, by omega⟩
      have hk : k < 3 := by omega
      refine ⟨n + bT dq - 24, A3, B3, rest, ns, k, rfl, by omega, hns, hok, rfl, hs3.mono (by have := hbs k hk; omega), fun a A4 B4 ha hda hs4 => ?_⟩
      walk_at "GO"
      refine ⟨n + bT dq - 25, 3, A4, B4, rest, rfl, by decide, by decide, rfl, hs4.mono (by omega), fun k2 A5 B5 hk20 hk21 hs5 => ?_⟩
      walk_at "GO"
      obtain ⟨k2, rfl⟩ : ∃ j : Nat, k2 = j := ⟨k2.toNat, by omega⟩
      have hk2 : k2 < 3 := by omega
      refine ⟨n + bT dq - 46, A5, B5, rest, ns, k2, rfl, by omega, hns, hok, rfl, hs5.mono (by have := hbs k2 hk2; omega), fun b A6 B6 hb hdb hs6 => ?_⟩
      walk_at "GO"
      refine .inl (hq (.cmp o a b) _ _ ?_ ?_ (hs6.mono (by omega)))
      · show (decide (o ∈ CMPS) && a.okE && b.okE) = true
        rw [decide_eq_true ho2, ha, hb]; rfl
      · show max a.dep b.dep + 1 ≤ dq + 3
        omega
    walk_at "GO"
    refine ifd (fun c1 => ?_) (fun c1 => ?_)
    · refine ift ?_
      exact leaf
    · walk_at "GO"
      refine ifd (fun c2 => ?_) (fun c2 => ?_)
      · exact leaf
      · walk_at "GO"
        refine ⟨rfl, rfl, dq - 1, ?_⟩
        have : (dq : Int) ≠ 0 := c1
        omega
  · rintro ρ' γ' ⟨rfl, rfl, d, rfl⟩
    obtain ⟨dp', rfl⟩ : ∃ k, dp = k + 1 := ⟨dp - 1, by omega⟩
    have hb : bT (d + 1) = 100 + 2 * bT d := rfl
    have hd : ((d + 1 : Nat) : Int) - 1 = (d : Nat) := by omega
    walk_at "GO"
    refine ifd (fun c1 => ?_) (fun c1 => ?_)
    · walk_at "GO"
      rw [hd]
      refine hrec dp' rfl _ _ _ _ ⟨n + 2 + bT d, A1, B1, rest, ns, d, rfl, by omega, hns, hok, rfl, hs1.mono (by omega), fun a A2 B2 ha hda hs2 => ?_⟩
      walk_at "GO"
      refine .inl (hq (.nt a) _ _ ha ?_ (hs2.mono (by omega)))
      show a.dep + 1 ≤ d + 1 + 3
      omega
    · walk_at "GO"
      · decide
      have hwd : ∃ o, atI [D.str (S [111, 114]), .str (S [97, 110, 100])] (way.fmod 2) = some (.str (S o)) ∧ o ∈ CONS := by
        have : way.fmod 2 = 0 ∨ way.fmod 2 = 1 := by
          have := @fmod_range way 2 (by decide); omega
        rcases this with h | h <;> rw [h]
        · exact ⟨_, rfl, by decide⟩
        · exact ⟨_, rfl, by decide⟩
      obtain ⟨o, ho1, ho2⟩ := hwd
      refine xix_lst ⟨_, rfl, _, ho1, ?_⟩
      walk_at "GO"
      rw [hd]
      refine hrec dp' rfl _ _ _ _ ⟨n + 2 + bT d, A1, B1, rest, ns, d, rfl, by omega, hns, hok, rfl, hs1.mono (by omega), fun a A2 B2 ha hda hs2 => ?_⟩
      walk_at "GO"
      rw [hd]
      refine hrec dp' rfl _ _ _ _ ⟨n + 2, A2, B2, rest, ns, d, rfl, by omega, hns, hok, rfl, hs2.mono (by omega), fun b A3 B3 hb' hdb hs3 => ?_⟩
      walk_at "GO"
      refine .inl (hq (.con o a b) _ _ ?_ ?_ (hs3.mono (by omega)))
      · show (decide (o ∈ CONS) && a.okC && b.okC) = true
        rw [decide_eq_true ho2, ha, hb']; rfl
      · show max a.dep b.dep + 1 ≤ d + 1 + 3
        omega
end
end K07

set_option Elab.async false
set_option linter.all false
set_option maxRecDepth 100000
set_option maxHeartbeats 4000000
namespace K07
open PySem PySem.Spec PyProof.Rows L2 DL
local macro_rules | `(tactic| walk_at "GO") => `(tactic| repeat' (first | with_reducible refine xs_seq ?_ | with_reducible refine xs_set ?_ | with_reducible refine xs_asg ?_ | with_reducible refine xs_if ?_ | with_reducible refine xs_ret ?_ | with_reducible refine xs_next ?_ | with_reducible refine xs_expr ?_ | with_reducible refine xs_fld ?_ | with_reducible refine xs_par ?_ | with_reducible refine xs_retN ?_ | with_reducible refine xs_brk ?_ | with_reducible refine xp_nil ?_ | with_reducible refine xp_cons ?_ | with_reducible refine xe_disp ?_ | with_reducible refine de_dget2 ?_ | with_reducible refine xs_cont ?_ | with_reducible refine da_nil ?_ | with_reducible refine da_cons ?_ | with_reducible refine de_int ?_ | with_reducible refine de_str ?_ | with_reducible refine de_bl ?_ | with_reducible refine de_non ?_ | with_reducible refine de_ty ?_ | ((with_reducible refine xe_var ?_); refine ⟨_, rfl, ?_⟩) | with_reducible refine de_op ?_ | with_reducible refine de_un ?_ | with_reducible refine de_call ?_ | with_reducible refine de_cb ?_ | with_reducible refine de_sl ?_ | with_reducible refine do_none ?_ | with_reducible refine do_some ?_ | with_reducible refine de_if ?_ | with_reducible refine de_andV ?_ | with_reducible refine de_orV ?_ | with_reducible refine de_notV ?_ | with_reducible refine de_chain ?_ | with_reducible refine dt_test ?_ | with_reducible refine dt_B ?_ | with_reducible refine dt_and ?_ | with_reducible refine dt_or ?_ | with_reducible refine dt_not ?_ | (with_reducible refine xe_tup ?_) | (with_reducible refine xe_lst ?_) | (with_reducible refine xe_lstM ?_) | (with_reducible refine de_meth ?_) | (with_reducible refine de_bm ?_) | (with_reducible refine de_bm0 ?_) | (with_reducible refine ⟨isTy_str, ?_⟩) | (with_reducible refine ⟨xty_lst ⟨_, rfl⟩, ?_⟩) | with_reducible refine radd_int ?_ | with_reducible refine radd_S ?_ ?_ | with_reducible refine rsub_int ?_ | with_reducible refine req_int ?_ | with_reducible refine rne_int ?_ | with_reducible refine req_S ?_ | with_reducible refine rne_S ?_ | with_reducible refine rlt_int ?_ | with_reducible refine rle_int ?_ | with_reducible refine rgt_int ?_ | with_reducible refine rge_int ?_ | with_reducible refine rneg_int ?_ | with_reducible refine rin_sgn ?_ | with_reducible refine rni_sgn ?_ | with_reducible refine rc_len_S ?_ ?_ | with_reducible refine rc_int_bl ?_ | with_reducible refine rc_str_int ?_ ?_ | with_reducible refine rc_str_str ?_ | with_reducible refine rc_max2 ?_ | ((with_reducible refine xc_isi ?_); refine ⟨_, true, rfl, rfl, ?_⟩) | ((with_reducible refine xc_isi ?_); refine ⟨_, false, rfl, rfl, ?_⟩) | with_reducible refine di_str ?_ | with_reducible refine di_list ?_ | with_reducible refine di_tup ?_ | with_reducible refine di_rng1 ?_ | with_reducible refine di_rng2 ?_ | with_reducible refine ift ?_ | with_reducible refine iff_ ?_ | with_reducible refine ifnt ?_ | with_reducible refine ifnf ?_ | with_reducible refine rin_strs (.inr rfl) ?_ | with_reducible refine rni_strs (.inr rfl) ?_ | with_reducible refine rin_strs (.inl rfl) ?_ | with_reducible refine rni_strs (.inl rfl) ?_ | ((with_reducible refine rin_seq (.inr rfl) ?_ ?_ ?_); rfl; rfl) | ((with_reducible refine rin_seq (.inl rfl) ?_ ?_ ?_); rfl; rfl) | ((with_reducible refine rni_seq (.inr rfl) ?_ ?_ ?_); rfl; rfl) | ((with_reducible refine rni_seq (.inl rfl) ?_ ?_ ?_); rfl; rfl) | (with_reducible refine xix_tup ?_) | ((with_reducible refine xc_len ?_); refine ⟨_, .inl rfl, ?_⟩) | ((with_reducible refine xc_len ?_); refine ⟨_, .inr rfl, ?_⟩) | (with_reducible refine rm_count ?_) | (with_reducible refine ⟨_, rfl, ?_⟩) | (with_reducible refine ⟨_, _, rfl, ?_⟩) | ((with_reducible refine xix_lst ?_); refine ⟨_, rfl, _, rfl, ?_⟩) | ((with_reducible refine xadd_lst ?_); refine ⟨_, rfl, _, rfl, ?_, ?_⟩) | with_reducible refine rmul_int ?_ ?_ | with_reducible refine rmod_int ?_ ?_ | with_reducible refine rfdiv_int ?_ ?_ | with_reducible refine rpow_int ?_ ?_ | with_reducible refine xg_setL ?_ | refine ⟨_, _, _, _, rfl, rfl, rfl, rfl, ?_⟩ | with_reducible refine xg_name ?_ | with_reducible refine xg_tup rfl ?_ | with_reducible refine xgs_name ?_ | with_reducible refine xgs_nil ?_ | (with_reducible refine ⟨Nat.le_of_ble_eq_true rfl, ?_⟩) | fail))
section
variable {K : Frag} {mg : Str → Option Value} {ρ : DL.Env} {γ : Ga} {Q : QD}
theorem wr_len {e : Ex} {least : Nat} {c x : List (List Nat)} (h : Wr e least c x) : x.length ≤ c.length + 2 := by
  rcases h with rfl | ⟨rfl, _⟩
  · simp
  · omega
theorem rdc_len : ∀ (e : Ex) (c : List (List Nat)), RdC e c → c.length + 2 ≤ 3 * e.size
  | .num z, c, h => by cases h; simp [Ex.size]
  | .var l, c, h => by cases h; simp [Ex.size]
  | .neg a, c, h => by
    obtain ⟨c, x, h1, h2, rfl⟩ := h
    have := rdc_len a c h1
    have := wr_len h2
    simp [Ex.size]; omega
  | .nt a, c, h => by
    obtain ⟨c, x, h1, h2, rfl⟩ := h
    have := rdc_len a c h1
    have := wr_len h2
    simp [Ex.size]; omega
  | .bin o a b, c, h => by
    obtain ⟨c, x, c', x', h1, h2, h3, h4, rfl⟩ := h
    have := rdc_len a c h1
    have := wr_len h2
    have := rdc_len b c' h3
    have := wr_len h4
    simp [Ex.size]; omega
  | .cmp o a b, c, h => by
    obtain ⟨c, x, c', x', h1, h2, h3, h4, rfl⟩ := h
    have := rdc_len a c h1
    have := wr_len h2
    have := rdc_len b c' h3
    have := wr_len h4
    simp [Ex.size]; omega
  | .con o a b, c, h => by
    obtain ⟨c, x, c', x', h1, h2, h3, h4, rfl⟩ := h
    have := rdc_len a c h1
    have := wr_len h2
    have := rdc_len b c' h3
    have := wr_len h4
    simp [Ex.size]; omega
theorem size_two {p q n : Nat} {x y : Nat} (h1 : x + 1 ≤ 2 ^ (p + 1)) (h2 : y + 1 ≤ 2 ^ (q + 1)) : x + y + 1 + 1 ≤ 2 ^ (max p q + 1 + 1) := by
  have h3 : 2 ^ (p + 1) ≤ 2 ^ (max p q + 1) := Nat.pow_le_pow_right (by decide) (by omega)
  have h4 : 2 ^ (q + 1) ≤ 2 ^ (max p q + 1) := Nat.pow_le_pow_right (by decide) (by omega)
  rw [Nat.pow_succ 2 (max p q + 1)]; omega
theorem size_le : ∀ e : Ex, e.size + 1 ≤ 2 ^ (e.dep + 1)
  | .num z => by simp [Ex.size, Ex.dep]
  | .var l => by simp [Ex.size, Ex.dep]
  | .neg a => by
    have := size_le a
    simp only [Ex.size, Ex.dep]
    rw [Nat.pow_succ]; omega
  | .nt a => by
    have := size_le a
    simp only [Ex.size, Ex.dep]
    rw [Nat.pow_succ]; omega
  | .bin o a b => size_two (n := 0) (size_le a) (size_le b)
  | .cmp o a b => size_two (n := 0) (size_le a) (size_le b)
  | .con o a b => size_two (n := 0) (size_le a) (size_le b)
theorem size_127 {e : Ex} (h : e.dep ≤ 6) : e.size ≤ 127 := by
  have h1 := size_le e
  have h2 : 2 ^ (e.dep + 1) ≤ 2 ^ 7 := Nat.pow_le_pow_right (by decide) (by omega)
  omega
theorem num_bits {z : Int} (h : z ∈ NUMS) : z.natAbs.log2 < 1920 := by
  have : ∀ z ∈ NUMS, z.natAbs.log2 < 1920 := by decide +kernel
  exact this z h
theorem okE_ok {e : Ex} (h : e.okE = true) : e.ok = true := by unfold Ex.ok; rw [h]; rfl
theorem okC_ok {e : Ex} (h : e.okC = true) : e.ok = true := by unfold Ex.ok; rw [h]; cases e.okE <;> rfl
theorem and3 {p a b : Bool} (h : (p && a && b) = true) : p = true ∧ a = true ∧ b = true := by
  cases p <;> cases a <;> cases b <;> simp at h ⊢
/-- what a node of the kind is made of -/
theorem ok_bin {o : List Nat} {a b : Ex} (h : (Ex.bin o a b).ok = true) : o ∈ OPS ∧ a.okE = true ∧ b.okE = true := by
  have h2 : (decide (o ∈ OPS) && a.okE && b.okE) = true := by
    have : ((decide (o ∈ OPS) && a.okE && b.okE) || false) = true := h
    rwa [Bool.or_false] at this
  obtain ⟨h3, h4, h5⟩ := and3 h2
  exact ⟨of_decide_eq_true h3, h4, h5⟩
theorem ok_cmp {o : List Nat} {a b : Ex} (h : (Ex.cmp o a b).ok = true) : o ∈ CMPS ∧ a.okE = true ∧ b.okE = true := by
  obtain ⟨h3, h4, h5⟩ := and3 (show (decide (o ∈ CMPS) && a.okE && b.okE) = true from h)
  exact ⟨of_decide_eq_true h3, h4, h5⟩
theorem ok_con {o : List Nat} {a b : Ex} (h : (Ex.con o a b).ok = true) : o ∈ CONS ∧ a.okC = true ∧ b.okC = true := by
  obtain ⟨h3, h4, h5⟩ := and3 (show (decide (o ∈ CONS) && a.okC && b.okC) = true from h)
  exact ⟨of_decide_eq_true h3, h4, h5⟩
theorem ok_num {z : Int} (h : (Ex.num z).ok = true) : z ∈ NUMS := by
  have : (decide (z ∈ NUMS) || false) = true := h
  rw [Bool.or_false] at this
  exact of_decide_eq_true this
theorem ok_var {l : List Nat} (h : (Ex.var l).ok = true) : isName l = true := by
  have : (isName l || false) = true := h
  rwa [Bool.or_false] at this
theorem ok_neg {a : Ex} (h : (Ex.neg a).ok = true) : a.okE = true := by
  have : (a.okE || false) = true := h
  rwa [Bool.or_false] at this
theorem ok_nt {a : Ex} (h : (Ex.nt a).ok = true) : a.okC = true := h
def WORDS17 : List (List Nat) := [sNumber, sVariable, sNegate, [43], [45], [42], [47, 47], [109, 111, 100], sNot, [61], [33, 61], [60], [60, 61], [62], [62, 61], sOr, sAnd]
def CW : List (List Nat) := [sOr, sAnd, sNot, [61], [33, 61], [60], [60, 61], [62], [62, 61]]
theorem word_of {e : Ex} (hok : e.ok = true) : ∃ o xs, e.d = .tup (.str (S o) :: xs) ∧ o ∈ WORDS17 ∧ ((decide (o ∈ CW) = true ∧ e.bo = [91] ∧ e.bc = [93]) ∨ (decide (o ∈ CW) = false ∧ e.bo = [40] ∧ e.bc = [41])) := by
  cases e with
  | num z => exact ⟨_, _, rfl, by decide, .inr ⟨by decide, rfl, rfl⟩⟩
  | var l => exact ⟨_, _, rfl, by decide, .inr ⟨by decide, rfl, rfl⟩⟩
  | neg a => exact ⟨_, _, rfl, by decide, .inr ⟨by decide, rfl, rfl⟩⟩
  | nt a => exact ⟨_, _, rfl, by decide, .inl ⟨by decide, rfl, rfl⟩⟩
  | bin o a b =>
    have hall : ∀ o ∈ OPS, o ∈ WORDS17 ∧ decide (o ∈ CW) = false := by decide
    exact ⟨_, _, rfl, (hall o (ok_bin hok).1).1, .inr ⟨(hall o (ok_bin hok).1).2, rfl, rfl⟩⟩
  | cmp o a b =>
    have hall : ∀ o ∈ CMPS, o ∈ WORDS17 ∧ decide (o ∈ CW) = true := by decide
    exact ⟨_, _, rfl, (hall o (ok_cmp hok).1).1, .inl ⟨(hall o (ok_cmp hok).1).2, rfl, rfl⟩⟩
  | con o a b =>
    have hall : ∀ o ∈ CONS, o ∈ WORDS17 ∧ decide (o ∈ CW) = true := by decide
    exact ⟨_, _, rfl, (hall o (ok_con hok).1).1, .inl ⟨(hall o (ok_con hok).1).2, rfl, rfl⟩⟩
theorem in2 {o a b : List Nat} : inD (.str (S o)) [D.str (S a), D.str (S b)] = decide (o ∈ [a, b]) := inD_strs (ls := [a, b])
theorem dl_L_tokens (T : Tx K mg) (s : SpD) (dp : Nat) (hrec : ∀ dp', dp = dp' + 1 → ∀ ds γ q e, spToks K dp' ds γ q e → s ds γ q e) : DL_L_tokens K s (spToks K dp) := by
  rintro ds γ q e' lo1 lo2 ⟨n, A, B, rest, e, least, rfl, hok, hdp, hd4, hle, rfl, hs, hq⟩
  refine dS_env (ρ' := [some (.loc 1), some e.d, some (.int least), none, none, none, none]) rfl ?_
  unfold t_L_tokens
  obtain ⟨o, xs, ho, hos, hbar⟩ := word_of hok
  refine xs_cut (fun ρ' γ' => ρ' = [some (.loc 1), some e.d, some (.int least), some (.str (S o)), none, none, none] ∧ γ' = A :: B :: rest) ?_ ?_
  · rw [ho]
    walk_at "GO"
    exact ⟨_, at_nat (j := 0) rfl, rfl, rfl⟩
  rintro ρ' γ' ⟨rfl, rfl⟩
  refine xs_cut (fun ρ' γ' => ρ' = [some (.loc 1), some e.d, some (.int least), some (.str (S o)), some (.int e.rk), none, none] ∧ γ' = A :: B :: rest) ?_ ?_
  · walk_at "GO"
    exact ⟨e, hok, _, _, ho, rfl, rfl, rfl⟩
  rintro ρ' γ' ⟨rfl, rfl⟩
  refine xs_cut (fun ρ' γ' => ∃ c A1 B1, RdC e c ∧ ρ' = [some (.loc 1), some e.d, some (.int least), some (.str (S o)), some (.int e.rk), some (.lst (strsD c)), none] ∧ γ' = A1 :: B1 :: rest ∧ Strm (n + 1) A1 B1) ?_ ?_
  · -- the two branches with one or two parts
    have one : ∀ (a : Ex) (w : List Nat) (tw : TE), a.ok = true → a.dep + 1 ≤ dp → a.dep + 1 ≤ 6 → e.size = a.size + 1 → e.d = .tup [.str (S o), a.d] → (∀ c x, RdC a c → Wr a 3 c x → RdC e (w :: x)) →
        (∀ γ (Q : QD), Q (.str (S w)) γ → dE K tw [some (.loc 1), some e.d, some (.int least), some (.str (S o)), some (.int e.rk), none, none] γ Q) →
        dE K (tOp (rAddG K) (tLst (tCons tw tNil)) (tCall (toSp K s) [] E0 (tCons (tVar 0) (tCons (tOp (rIx K) (tVar 1) (tC (.int 1))) (tCons (tC (.int 3)) tNil))))) [some (.loc 1), some e.d, some (.int least), some (.str (S o)), some (.int e.rk), none, none] (A :: B :: rest) fun d γ' => ∃ c A1 B1, RdC e c ∧ d = .lst (strsD c) ∧ γ' = A1 :: B1 :: rest ∧ Strm (n + 1) A1 B1 := by
      rintro a w tw ha hda hd6 hsz hed hrd htw
      have ix1 : ∀ γ (Q : QD), Q a.d γ → dR2 K (rIx K) e.d (.int 1) γ Q := by rw [hed]; exact fun γ Q h => xix_tup ⟨_, rfl, h⟩
      obtain ⟨dp', rfl⟩ : ∃ k, dp = k + 1 := ⟨dp - 1, by omega⟩
      walk_at "GO"
      refine htw _ _ ?_
      walk_at "GO"
      refine ix1 _ _ ?_
      walk_at "GO"
      refine hrec dp' rfl _ _ _ _ ⟨n + 1, A, B, rest, a, 3, rfl, ha, by omega, by omega, by decide, rfl, hs.mono (by omega), fun x A1 B1 hx hs1 => ?_⟩
      obtain ⟨c, hc, hwr⟩ := hx
      have l1 := rdc_len a c hc
      have l2 := wr_len hwr
      have l3 := size_127 (e := a) (by omega)
      refine radd_lst rfl rfl (by simp [strsD]; omega) ?_
      exact ⟨w :: x, A1, B1, hrd c x hc hwr, rfl, rfl, hs1⟩
    have two : ∀ (a b : Ex) (l1 l2 : Nat) (t1 t2 : TE), a.ok = true → b.ok = true → max a.dep b.dep + 1 ≤ dp → max a.dep b.dep + 1 ≤ 6 → e.size = a.size + b.size + 1 → e.d = .tup [.str (S o), a.d, b.d] → l1 ≤ 3 → l2 ≤ 3 → (∀ c x c' x', RdC a c → Wr a l1 c x → RdC b c' → Wr b l2 c' x' → RdC e (x ++ o :: x')) →
        (∀ γ (Q : QD), Q (.int l1) γ → dE K t1 [some (.loc 1), some e.d, some (.int least), some (.str (S o)), some (.int e.rk), none, none] γ Q) → (∀ γ (Q : QD), Q (.int l2) γ → dE K t2 [some (.loc 1), some e.d, some (.int least), some (.str (S o)), some (.int e.rk), none, none] γ Q) →
        dE K (tOp (rAddG K) (tOp (rAddG K) (tCall (toSp K s) [] E0 (tCons (tVar 0) (tCons (tOp (rIx K) (tVar 1) (tC (.int 1))) (tCons t1 tNil)))) (tLst (tCons (tVar 3) tNil))) (tCall (toSp K s) [] E0 (tCons (tVar 0) (tCons (tOp (rIx K) (tVar 1) (tC (.int 2))) (tCons t2 tNil))))) [some (.loc 1), some e.d, some (.int least), some (.str (S o)), some (.int e.rk), none, none] (A :: B :: rest) fun d γ' => ∃ c A1 B1, RdC e c ∧ d = .lst (strsD c) ∧ γ' = A1 :: B1 :: rest ∧ Strm (n + 1) A1 B1 := by
      rintro a b l1 l2 t1 t2 ha hb hda hd6 hsz hed hl1 hl2 hrd ht1 ht2
      have ix1 : ∀ γ (Q : QD), Q a.d γ → dR2 K (rIx K) e.d (.int 1) γ Q := by rw [hed]; exact fun γ Q h => xix_tup ⟨_, rfl, h⟩
      have ix2 : ∀ γ (Q : QD), Q b.d γ → dR2 K (rIx K) e.d (.int 2) γ Q := by rw [hed]; exact fun γ Q h => xix_tup ⟨_, rfl, h⟩
      obtain ⟨dp', rfl⟩ : ∃ k, dp = k + 1 := ⟨dp - 1, by omega⟩
      walk_at "GO"
      refine ix1 _ _ ?_
      walk_at "GO"
      refine ht1 _ _ ?_
      walk_at "GO"
      refine hrec dp' rfl _ _ _ _ ⟨n + 1 + b.size, A, B, rest, a, l1, rfl, ha, by omega, by omega, hl1, rfl, hs.mono (by omega), fun x A1 B1 hx hs1 => ?_⟩
      obtain ⟨c, hc, hwr⟩ := hx
      have k1 := rdc_len a c hc
      have k2 := wr_len hwr
      have k3 := size_127 (e := a) (by omega)
      walk_at "GO"
      · simp [strsD]; omega
      refine ix2 _ _ ?_
      walk_at "GO"
      refine ht2 _ _ ?_
      walk_at "GO"
      refine hrec dp' rfl _ _ _ _ ⟨n + 1, A1, B1, rest, b, l2, rfl, hb, by omega, by omega, hl2, rfl, hs1, fun x' A2 B2 hx' hs2 => ?_⟩
      obtain ⟨c', hc', hwr'⟩ := hx'
      have k1' := rdc_len b c' hc'
      have k2' := wr_len hwr'
      have k3' := size_127 (e := b) (by omega)
      refine radd_lst rfl rfl (by simp [strsD]; omega) ?_
      refine ⟨x ++ o :: x', A2, B2, hrd c x c' x' hc hwr hc' hwr', ?_, rfl, hs2⟩
      rw [show strsD (x ++ o :: x') = strsD x ++ [D.str (S o)] ++ strsD x' by simp [strsD]]
    -- the last step of each branch
    have set5 : ∀ {te : TE} {bk ct : DL.Env → Ga → Prop} {rt : QD}, dE K te [some (.loc 1), some e.d, some (.int least), some (.str (S o)), some (.int e.rk), none, none] (A :: B :: rest) (fun d γ' => ∃ c A1 B1, RdC e c ∧ d = .lst (strsD c) ∧ γ' = A1 :: B1 :: rest ∧ Strm (n + 1) A1 B1) →
        dS K (A :: B :: rest).length (tAsg te (gName 5)) [some (.loc 1), some e.d, some (.int least), some (.str (S o)), some (.int e.rk), none, none] (A :: B :: rest) ⟨fun ρ' γ' => ∃ c A1 B1, RdC e c ∧ ρ' = [some (.loc 1), some e.d, some (.int least), some (.str (S o)), some (.int e.rk), some (.lst (strsD c)), none] ∧ γ' = A1 :: B1 :: rest ∧ Strm (n + 1) A1 B1, rt, bk, ct⟩ := by
      intro te bk ct rt h
      refine xs_set (de_mono h ?_)
      rintro d γ' ⟨c, A1, B1, h1, rfl, rfl, h2⟩
      exact ⟨c, A1, B1, h1, rfl, rfl, h2⟩
    have no1 : ∀ w, w ∈ WORDS17 → w ≠ sNumber → w ≠ sVariable → decide (w ∈ [sNumber, sVariable]) = false := by decide
    cases e with
    | num z =>
      cases ho
      have hz := ok_num hok
      refine xs_if (dt_test (de_op (xe_var ⟨_, rfl, de_tup (da_cons (de_str (da_cons (de_str (da_nil ⟨by decide, rin_seq (.inr rfl) rfl rfl ⟨_, rfl, ?_⟩⟩))))) ⟩)))
      rw [in2, show decide (sNumber ∈ [[110, 117, 109, 98, 101, 114], [118, 97, 114, 105, 97, 98, 108, 101]]) = true by decide]
      refine ift (set5 ?_)
      walk_at "GO"
      refine xix_tup (xs := [.str (S sNumber), .int z]) ⟨_, rfl, ?_⟩
      walk_at "GO"
      · exact num_bits hz
      refine ⟨[digs z], A, B, rfl, ?_, rfl, hs⟩
      rw [show (strsD [digs z]) = [.str (toString z)] by show [D.str (S (digs z))] = _; unfold digs; rw [S_of]]
    | var l =>
      cases ho
      refine xs_if (dt_test (de_op (xe_var ⟨_, rfl, de_tup (da_cons (de_str (da_cons (de_str (da_nil ⟨by decide, rin_seq (.inr rfl) rfl rfl ⟨_, rfl, ?_⟩⟩))))) ⟩)))
      rw [in2, show decide (sVariable ∈ [[110, 117, 109, 98, 101, 114], [118, 97, 114, 105, 97, 98, 108, 101]]) = true by decide]
      refine ift (set5 ?_)
      walk_at "GO"
      refine xix_tup (xs := [.str (S sVariable), .str (S l)]) ⟨_, rfl, ?_⟩
      walk_at "GO"
      exact ⟨[l], A, B, rfl, rfl, rfl, hs⟩
    | neg a =>
      cases ho
      have ha := ok_neg hok
      simp only [Ex.dep] at hdp hd4
      refine xs_if (dt_test (de_op (xe_var ⟨_, rfl, de_tup (da_cons (de_str (da_cons (de_str (da_nil ⟨by decide, rin_seq (.inr rfl) rfl rfl ⟨_, rfl, ?_⟩⟩))))) ⟩)))
      rw [in2, show decide (sNegate ∈ [[110, 117, 109, 98, 101, 114], [118, 97, 114, 105, 97, 98, 108, 101]]) = false by decide]
      refine iff_ (xs_if (dt_test (de_op (xe_var ⟨_, rfl, de_tup (da_cons (de_str (da_cons (de_str (da_nil ⟨by decide, rin_seq (.inr rfl) rfl rfl ⟨_, rfl, ?_⟩⟩))))) ⟩))))
      rw [in2, show decide (sNegate ∈ [[110, 101, 103, 97, 116, 101], [110, 111, 116]]) = true by decide]
      refine ift (set5 (one a [45] _ (okE_ok ha) hdp hd4 rfl rfl (fun c x hc hw => ⟨c, x, hc, hw, rfl⟩) fun γ Q hQ => ?_))
      walk_at "GO"
      exact hQ
    | nt a =>
      cases ho
      have ha := ok_nt hok
      simp only [Ex.dep] at hdp hd4
      refine xs_if (dt_test (de_op (xe_var ⟨_, rfl, de_tup (da_cons (de_str (da_cons (de_str (da_nil ⟨by decide, rin_seq (.inr rfl) rfl rfl ⟨_, rfl, ?_⟩⟩))))) ⟩)))
      rw [in2, show decide (sNot ∈ [[110, 117, 109, 98, 101, 114], [118, 97, 114, 105, 97, 98, 108, 101]]) = false by decide]
      refine iff_ (xs_if (dt_test (de_op (xe_var ⟨_, rfl, de_tup (da_cons (de_str (da_cons (de_str (da_nil ⟨by decide, rin_seq (.inr rfl) rfl rfl ⟨_, rfl, ?_⟩⟩))))) ⟩))))
      rw [in2, show decide (sNot ∈ [[110, 101, 103, 97, 116, 101], [110, 111, 116]]) = true by decide]
      refine ift (set5 (one a sNot _ (okC_ok ha) hdp hd4 rfl rfl (fun c x hc hw => ⟨c, x, hc, hw, rfl⟩) fun γ Q hQ => ?_))
      walk_at "GO"
      exact hQ
    | bin o' a b =>
      cases ho
      obtain ⟨ho1, ha, hb⟩ := ok_bin hok
      simp only [Ex.dep] at hdp hd4
      have hrk3 : rankOf o + 1 ≤ 3 := by unfold rankOf; split <;> omega
      refine xs_if (dt_test (de_op (xe_var ⟨_, rfl, de_tup (da_cons (de_str (da_cons (de_str (da_nil ⟨by decide, rin_seq (.inr rfl) rfl rfl ⟨_, rfl, ?_⟩⟩))))) ⟩)))
      rw [in2, show decide (o ∈ [[110, 117, 109, 98, 101, 114], [118, 97, 114, 105, 97, 98, 108, 101]]) = false by
        have : ∀ o ∈ OPS, decide (o ∈ [[110, 117, 109, 98, 101, 114], [118, 97, 114, 105, 97, 98, 108, 101]]) = false := by decide
        exact this o ho1]
      refine iff_ (xs_if (dt_test (de_op (xe_var ⟨_, rfl, de_tup (da_cons (de_str (da_cons (de_str (da_nil ⟨by decide, rin_seq (.inr rfl) rfl rfl ⟨_, rfl, ?_⟩⟩))))) ⟩))))
      rw [in2, show decide (o ∈ [[110, 101, 103, 97, 116, 101], [110, 111, 116]]) = false by
        have : ∀ o ∈ OPS, decide (o ∈ [[110, 101, 103, 97, 116, 101], [110, 111, 116]]) = false := by decide
        exact this o ho1]
      refine iff_ ?_
      walk_at "GO"
      refine rm_split (ys := CMPS.map S) (by decide) (by decide) (by decide +kernel) ?_
      refine rin_strs (ls := CMPS) (.inl rfl) ?_
      rw [show decide (o ∈ CMPS) = false by
        have : ∀ o ∈ OPS, decide (o ∈ CMPS) = false := by decide
        exact this o ho1]
      refine ⟨_, rfl, iff_ (set5 (two a b (rankOf o) (rankOf o + 1) _ _ (okE_ok ha) (okE_ok hb) hdp hd4 rfl rfl (by omega) hrk3 (fun c x c' x' h1 h2 h3 h4 => ⟨c, x, c', x', h1, h2, h3, h4, rfl⟩) (fun γ Q hQ => ?_) fun γ Q hQ => ?_))⟩
      · walk_at "GO"
        exact hQ
      · walk_at "GO"
        exact hQ
    | con o' a b =>
      cases ho
      obtain ⟨ho1, ha, hb⟩ := ok_con hok
      simp only [Ex.dep] at hdp hd4
      have hrk3 : rankC o + 1 ≤ 3 := by unfold rankC; split <;> omega
      refine xs_if (dt_test (de_op (xe_var ⟨_, rfl, de_tup (da_cons (de_str (da_cons (de_str (da_nil ⟨by decide, rin_seq (.inr rfl) rfl rfl ⟨_, rfl, ?_⟩⟩))))) ⟩)))
      rw [in2, show decide (o ∈ [[110, 117, 109, 98, 101, 114], [118, 97, 114, 105, 97, 98, 108, 101]]) = false by
        have : ∀ o ∈ CONS, decide (o ∈ [[110, 117, 109, 98, 101, 114], [118, 97, 114, 105, 97, 98, 108, 101]]) = false := by decide
        exact this o ho1]
      refine iff_ (xs_if (dt_test (de_op (xe_var ⟨_, rfl, de_tup (da_cons (de_str (da_cons (de_str (da_nil ⟨by decide, rin_seq (.inr rfl) rfl rfl ⟨_, rfl, ?_⟩⟩))))) ⟩))))
      rw [in2, show decide (o ∈ [[110, 101, 103, 97, 116, 101], [110, 111, 116]]) = false by
        have : ∀ o ∈ CONS, decide (o ∈ [[110, 101, 103, 97, 116, 101], [110, 111, 116]]) = false := by decide
        exact this o ho1]
      refine iff_ ?_
      walk_at "GO"
      refine rm_split (ys := CMPS.map S) (by decide) (by decide) (by decide +kernel) ?_
      refine rin_strs (ls := CMPS) (.inl rfl) ?_
      rw [show decide (o ∈ CMPS) = false by
        have : ∀ o ∈ CONS, decide (o ∈ CMPS) = false := by decide
        exact this o ho1]
      refine ⟨_, rfl, iff_ (set5 (two a b (rankC o) (rankC o + 1) _ _ (okC_ok ha) (okC_ok hb) hdp hd4 rfl rfl (by omega) hrk3 (fun c x c' x' h1 h2 h3 h4 => ⟨c, x, c', x', h1, h2, h3, h4, rfl⟩) (fun γ Q hQ => ?_) fun γ Q hQ => ?_))⟩
      · walk_at "GO"
        exact hQ
      · walk_at "GO"
        exact hQ
    | cmp o' a b =>
      cases ho
      obtain ⟨ho1, ha, hb⟩ := ok_cmp hok
      simp only [Ex.dep] at hdp hd4
      refine xs_if (dt_test (de_op (xe_var ⟨_, rfl, de_tup (da_cons (de_str (da_cons (de_str (da_nil ⟨by decide, rin_seq (.inr rfl) rfl rfl ⟨_, rfl, ?_⟩⟩))))) ⟩)))
      rw [in2, show decide (o ∈ [[110, 117, 109, 98, 101, 114], [118, 97, 114, 105, 97, 98, 108, 101]]) = false by
        have : ∀ o ∈ CMPS, decide (o ∈ [[110, 117, 109, 98, 101, 114], [118, 97, 114, 105, 97, 98, 108, 101]]) = false := by decide
        exact this o ho1]
      refine iff_ (xs_if (dt_test (de_op (xe_var ⟨_, rfl, de_tup (da_cons (de_str (da_cons (de_str (da_nil ⟨by decide, rin_seq (.inr rfl) rfl rfl ⟨_, rfl, ?_⟩⟩))))) ⟩))))
      rw [in2, show decide (o ∈ [[110, 101, 103, 97, 116, 101], [110, 111, 116]]) = false by
        have : ∀ o ∈ CMPS, decide (o ∈ [[110, 101, 103, 97, 116, 101], [110, 111, 116]]) = false := by decide
        exact this o ho1]
      refine iff_ ?_
      walk_at "GO"
      refine rm_split (ys := CMPS.map S) (by decide) (by decide) (by decide +kernel) ?_
      refine rin_strs (ls := CMPS) (.inl rfl) ?_
      rw [show decide (o ∈ CMPS) = true from decide_eq_true ho1]
      refine ⟨_, rfl, ift (set5 (two a b 1 1 _ _ (okE_ok ha) (okE_ok hb) hdp hd4 rfl rfl (by decide) (by decide) (fun c x c' x' h1 h2 h3 h4 => ⟨c, x, c', x', h1, h2, h3, h4, rfl⟩) (fun γ Q hQ => ?_) fun γ Q hQ => ?_))⟩
      · walk_at "GO"
        exact hQ
      · walk_at "GO"
        exact hQ
  rintro ρ' γ' ⟨c, A1, B1, hc, rfl, rfl, hs1⟩
  have l1 := rdc_len e c hc
  have l3 := size_127 hd4
  have brak : ∀ (x y : Nat), e.bo = [x] → e.bc = [y] → ∀ A2 B2, Strm n A2 B2 → dS K (A :: B :: rest).length (tRet (tOp (rAddG K) (tOp (rAddG K) (tLst (tCons (tOp (rIx K) (tVar 6) (tC (.int 0))) tNil)) (tVar 5)) (tLst (tCons (tOp (rIx K) (tVar 6) (tC (.int 1))) tNil))))
      [some (.loc 1), some e.d, some (.int least), some (.str (S o)), some (.int e.rk), some (.lst (strsD c)), some (.str (S [x, y]))] (A2 :: B2 :: rest) ⟨fun ρ' γ' => dS K (A :: B :: rest).length (tRet (tVar 5)) ρ' γ' ⟨fun x γ' => Dr (A :: B :: rest).length q D.non γ', Dr (A :: B :: rest).length q, fun _ _ => False, fun _ _ => False⟩, Dr (A :: B :: rest).length q, fun _ _ => False, fun _ _ => False⟩ := by
    intro x y hx hy A2 B2 hs2
    walk_at "GO"
    refine xix_str (by simp) ⟨x, rfl, ?_⟩
    walk_at "GO"
    · simp [strsD]; omega
    refine xix_str (by simp) ⟨y, rfl, ?_⟩
    walk_at "GO"
    · simp [strsD]; omega
    rw [show [D.str (S [x])] ++ strsD c ++ [D.str (S [y])] = strsD ([x] :: (c ++ [[y]])) by simp [strsD]]
    exact .inl (hq _ _ _ ⟨c, hc, .inl (by rw [hx, hy])⟩ hs2)
  have bars : ∃ x y, e.bo = [x] ∧ e.bc = [y] ∧ atI [D.str (S [40, 41]), .str (S [91, 93])] (if decide (o ∈ CW) = true then 1 else 0) = some (.str (S [x, y])) := by
    rcases hbar with ⟨h1, h2, h3⟩ | ⟨h1, h2, h3⟩
    · exact ⟨91, 93, h2, h3, by rw [h1]; rfl⟩
    · exact ⟨40, 41, h2, h3, by rw [h1]; rfl⟩
  obtain ⟨x, y, hx, hy, hxy⟩ := bars
  walk_at "GO"
  refine rm_split (ys := CW.map S) (by decide) (by decide) (by decide +kernel) ?_
  refine rin_strs (ls := CW) (.inl rfl) ?_
  refine da_nil ?_
  refine rc_int_bl ?_
  refine xix_lst ⟨_, rfl, _, hxy, ?_⟩
  walk_at "GO"
  refine ifd (fun c1 => ?_) (fun c1 => ?_)
  · refine ift ?_
    exact brak x y hx hy A1 B1 (hs1.mono (by omega))
  · walk_at "GO"
    refine ⟨n, 6, A1, B1, rest, rfl, by decide, by decide, rfl, hs1, fun d A2 B2 hd0 hd1 hs2 => ?_⟩
    walk_at "GO"
    refine ifd (fun c2 => ?_) (fun c2 => ?_)
    · exact brak x y hx hy A2 B2 hs2
    · walk_at "GO"
      exact .inl (hq c _ _ ⟨c, hc, .inr ⟨rfl, by omega⟩⟩ hs2)
end
end K07

set_option Elab.async false
set_option linter.all false
set_option maxRecDepth 100000
set_option maxHeartbeats 4000000
namespace K07
open PySem PySem.Spec PyProof.Rows L2 DL
local macro_rules | `(tactic| walk_at "GO") => `(tactic| repeat' (first | with_reducible refine xs_seq ?_ | with_reducible refine xs_set ?_ | with_reducible refine xs_asg ?_ | with_reducible refine xs_if ?_ | with_reducible refine xs_ret ?_ | with_reducible refine xs_next ?_ | with_reducible refine xs_expr ?_ | with_reducible refine xs_fld ?_ | with_reducible refine xs_par ?_ | with_reducible refine xs_retN ?_ | with_reducible refine xs_brk ?_ | with_reducible refine xp_nil ?_ | with_reducible refine xp_cons ?_ | with_reducible refine xe_disp ?_ | with_reducible refine de_dget2 ?_ | with_reducible refine xs_cont ?_ | with_reducible refine da_nil ?_ | with_reducible refine da_cons ?_ | with_reducible refine de_int ?_ | with_reducible refine de_str ?_ | with_reducible refine de_bl ?_ | with_reducible refine de_non ?_ | with_reducible refine de_ty ?_ | ((with_reducible refine xe_var ?_); refine ⟨_, rfl, ?_⟩) | with_reducible refine de_op ?_ | with_reducible refine de_un ?_ | with_reducible refine de_call ?_ | with_reducible refine de_cb ?_ | with_reducible refine de_sl ?_ | with_reducible refine do_none ?_ | with_reducible refine do_some ?_ | with_reducible refine de_if ?_ | with_reducible refine de_andV ?_ | with_reducible refine de_orV ?_ | with_reducible refine de_notV ?_ | with_reducible refine de_chain ?_ | with_reducible refine dt_test ?_ | with_reducible refine dt_B ?_ | with_reducible refine dt_and ?_ | with_reducible refine dt_or ?_ | with_reducible refine dt_not ?_ | (with_reducible refine xe_tup ?_) | (with_reducible refine xe_lst ?_) | (with_reducible refine xe_lstM ?_) | (with_reducible refine de_meth ?_) | (with_reducible refine de_bm ?_) | (with_reducible refine de_bm0 ?_) | (with_reducible refine ⟨isTy_str, ?_⟩) | (with_reducible refine ⟨xty_lst ⟨_, rfl⟩, ?_⟩) | with_reducible refine radd_int ?_ | with_reducible refine radd_S ?_ ?_ | with_reducible refine rsub_int ?_ | with_reducible refine req_int ?_ | with_reducible refine rne_int ?_ | with_reducible refine req_S ?_ | with_reducible refine rne_S ?_ | with_reducible refine rlt_int ?_ | with_reducible refine rle_int ?_ | with_reducible refine rgt_int ?_ | with_reducible refine rge_int ?_ | with_reducible refine rneg_int ?_ | with_reducible refine rin_sgn ?_ | with_reducible refine rni_sgn ?_ | with_reducible refine rc_len_S ?_ ?_ | with_reducible refine rc_int_bl ?_ | with_reducible refine rc_str_int ?_ ?_ | with_reducible refine rc_str_str ?_ | with_reducible refine rc_max2 ?_ | ((with_reducible refine xc_isi ?_); refine ⟨_, true, rfl, rfl, ?_⟩) | ((with_reducible refine xc_isi ?_); refine ⟨_, false, rfl, rfl, ?_⟩) | with_reducible refine di_str ?_ | with_reducible refine di_list ?_ | with_reducible refine di_tup ?_ | with_reducible refine di_rng1 ?_ | with_reducible refine di_rng2 ?_ | with_reducible refine ift ?_ | with_reducible refine iff_ ?_ | with_reducible refine ifnt ?_ | with_reducible refine ifnf ?_ | with_reducible refine rin_strs (.inr rfl) ?_ | with_reducible refine rni_strs (.inr rfl) ?_ | with_reducible refine rin_strs (.inl rfl) ?_ | with_reducible refine rni_strs (.inl rfl) ?_ | ((with_reducible refine rin_seq (.inr rfl) ?_ ?_ ?_); rfl; rfl) | ((with_reducible refine rin_seq (.inl rfl) ?_ ?_ ?_); rfl; rfl) | ((with_reducible refine rni_seq (.inr rfl) ?_ ?_ ?_); rfl; rfl) | ((with_reducible refine rni_seq (.inl rfl) ?_ ?_ ?_); rfl; rfl) | (with_reducible refine xix_tup ?_) | ((with_reducible refine xc_len ?_); refine ⟨_, .inl rfl, ?_⟩) | ((with_reducible refine xc_len ?_); refine ⟨_, .inr rfl, ?_⟩) | (with_reducible refine rm_count ?_) | (with_reducible refine ⟨_, rfl, ?_⟩) | (with_reducible refine ⟨_, _, rfl, ?_⟩) | ((with_reducible refine xix_lst ?_); refine ⟨_, rfl, _, rfl, ?_⟩) | ((with_reducible refine xadd_lst ?_); refine ⟨_, rfl, _, rfl, ?_, ?_⟩) | with_reducible refine rmul_int ?_ ?_ | with_reducible refine rmod_int ?_ ?_ | with_reducible refine rfdiv_int ?_ ?_ | with_reducible refine rpow_int ?_ ?_ | with_reducible refine xg_setL ?_ | refine ⟨_, _, _, _, rfl, rfl, rfl, rfl, ?_⟩ | with_reducible refine xg_name ?_ | with_reducible refine xg_tup rfl ?_ | with_reducible refine xgs_name ?_ | with_reducible refine xgs_nil ?_ | (with_reducible refine ⟨Nat.le_of_ble_eq_true rfl, ?_⟩) | fail))
section
variable {K : Frag} {mg : Str → Option Value} {ρ : DL.Env} {γ : Ga} {Q : QD}
theorem atI_last {A : Type} {l : List A} {c : A} (h : l.getLast? = some c) : atI l (-1) = some c := by
  have hne : l ≠ [] := by intro z; subst z; cases h
  have hl : 0 < l.length := List.length_pos_iff.mpr hne
  unfold atI ixN
  rw [if_neg (by decide), if_pos (by omega)]
  show l[((-1 : Int) + (l.length : Int)).toNat]? = some c
  rw [show ((-1 : Int) + (l.length : Int)).toNat = l.length - 1 by omega, ← List.getLast?_eq_getElem?]
  exact h
theorem dl_L_grows (T : Tx K mg) : DL_L_grows K (sp_L_grows K) := by
  rintro ds γ q e lo1 lo2 ⟨a, b, rfl, ha, hb, ha1, hb1, hq⟩
  refine dS_env (ρ' := [some (.str (S a)), some (.str (S b)), none, none]) rfl ?_
  unfold t_L_grows
  obtain ⟨c, hc⟩ : ∃ c, a.getLast? = some c := by
    cases h : a.getLast? with
    | none => rw [List.getLast?_eq_none_iff] at h; subst h; simp at ha
    | some c => exact ⟨c, rfl⟩
  obtain ⟨d, hd⟩ : ∃ d, b.head? = some d := by
    cases b with
    | nil => simp at hb
    | cons d r => exact ⟨d, rfl⟩
  have hd0 : b[0]? = some d := by rw [← List.head?_eq_getElem?]; exact hd
  have hg : grows a b = (((decide (c ∈ LET) && decide (d ∈ LET)) || (decide (c ∈ FIG) && decide (d ∈ FIG))) || ((decide (a ∈ [[60], [62], [33]]) && decide (d = 61)) || (decide (a = [47]) && decide (d = 47)))) := by
    unfold grows
    rw [hc, hd]
    simp
  rw [hg] at hq
  have last : ∀ {γ : Ga} {Q : QD}, Q (.str (S [c])) γ → dR2 K (rIx K) (.str (S a)) (.int (-1)) γ Q := fun h => xix_str (by omega) ⟨c, atI_last hc, h⟩
  have first : ∀ {γ : Ga} {Q : QD}, Q (.str (S [d])) γ → dR2 K (rIx K) (.str (S b)) (.int 0) γ Q := fun h => xix_str (by omega) ⟨d, at_nat (j := 0) hd0, h⟩
  have fin : q (.bl ((decide (a ∈ [[60], [62], [33]]) && decide (d = 61)) || (decide (a = [47]) && decide (d = 47)))) γ → dS K γ.length (tRet (tOrV (tAndV (tOp (rInG K) (tVar 0) (tTup (tCons (tC (.str (S [60]))) (tCons (tC (.str (S [62]))) (tCons (tC (.str (S [33]))) tNil))))) (tOp (rEqG K) (tOp (rIx K) (tVar 1) (tC (.int 0))) (tC (.str (S [61]))))) (tAndV (tOp (rEqG K) (tVar 0) (tC (.str (S [47])))) (tOp (rEqG K) (tOp (rIx K) (tVar 1) (tC (.int 0))) (tC (.str (S [47])))))))
      [some (.str (S a)), some (.str (S b)), some (.str (S LET)), some (.str (S FIG))] γ ⟨fun _ γ' => Dr γ.length q .non γ', Dr γ.length q, fun _ _ => False, fun _ _ => False⟩ := by
    intro hq
    have hin : inD (.str (S a)) [D.str (S [60]), .str (S [62]), .str (S [33])] = decide (a ∈ [[60], [62], [33]]) := inD_strs (ls := [[60], [62], [33]])
    walk_at "GO"
    rw [hin]
    refine ifd (fun h1 => ?_) (fun h1 => ?_)
    · walk_at "GO"
      refine first ?_
      walk_at "GO"
      refine ifd (fun h2 => ?_) (fun h2 => ?_)
      · exact .inl (by simpa [h1, show d = 61 by simpa using h2] using hq)
      · walk_at "GO"
        refine ifd (fun h3 => ?_) (fun h3 => ?_)
        · walk_at "GO"
          refine first ?_
          walk_at "GO"
          exact .inl (by simpa [h1, show ¬ d = 61 by simpa using h2, h3] using hq)
        · exact .inl (by simpa [h1, show ¬ d = 61 by simpa using h2, h3] using hq)
    · walk_at "GO"
      refine ifd (fun h3 => ?_) (fun h3 => ?_)
      · walk_at "GO"
        refine first ?_
        walk_at "GO"
        rw [show decide (a ∈ [[60], [62], [33]]) = false from decide_eq_false h1, show decide (a = [47]) = true from decide_eq_true h3] at hq
        exact .inl (by simpa using hq)
      · rw [show decide (a ∈ [[60], [62], [33]]) = false from decide_eq_false h1, show decide (a = [47]) = false from decide_eq_false h3] at hq
        exact .inl (by simpa using hq)
  have hLF : decide (c ∈ LET) = decide (c ∈ LET) := rfl
  walk_at "GO"
  refine last ?_
  walk_at "GO"
  have figs : q (.bl ((decide (c ∈ FIG) && decide (d ∈ FIG)) || ((decide (a ∈ [[60], [62], [33]]) && decide (d = 61)) || (decide (a = [47]) && decide (d = 47))))) γ →
      dT K (tAnd (tTest (tOp (rInG K) (tOp (rIx K) (tVar 0) (tUn rNeg (tC (.int 1)))) (tVar 3))) (tTest (tOp (rInG K) (tOp (rIx K) (tVar 1) (tC (.int 0))) (tVar 3)))) [some (.str (S a)), some (.str (S b)), some (.str (S LET)), some (.str (S FIG))] γ fun x γ' => γ' = γ ∧ (x = true → q (.bl true) γ) ∧ (x = false → q (.bl ((decide (a ∈ [[60], [62], [33]]) && decide (d = 61)) || (decide (a = [47]) && decide (d = 47)))) γ) := by
    intro hq
    walk_at "GO"
    refine last ?_
    walk_at "GO"
    refine ifd (fun h1 => ?_) (fun h1 => ?_)
    · walk_at "GO"
      refine first ?_
      walk_at "GO"
      rw [show decide (c ∈ FIG) = true from decide_eq_true h1] at hq
      by_cases h2 : d ∈ FIG
      · rw [show decide (d ∈ FIG) = true from decide_eq_true h2] at hq
        exact ⟨rfl, fun _ => hq, fun h => absurd h2 (of_decide_eq_false h)⟩
      · rw [show decide (d ∈ FIG) = false from decide_eq_false h2] at hq
        exact ⟨rfl, fun h => absurd (of_decide_eq_true h) h2, fun _ => hq⟩
    · rw [show decide (c ∈ FIG) = false from decide_eq_false h1] at hq
      exact ⟨rfl, (fun h => by cases h), fun _ => hq⟩
  have last2 : q (.bl ((decide (c ∈ FIG) && decide (d ∈ FIG)) || ((decide (a ∈ [[60], [62], [33]]) && decide (d = 61)) || (decide (a = [47]) && decide (d = 47))))) γ → dT K (tAnd (tTest (tOp (rInG K) (tOp (rIx K) (tVar 0) (tUn rNeg (tC (.int 1)))) (tVar 3))) (tTest (tOp (rInG K) (tOp (rIx K) (tVar 1) (tC (.int 0))) (tVar 3)))) [some (.str (S a)), some (.str (S b)), some (.str (S LET)), some (.str (S FIG))] γ fun b' γ' => if b' = true then dS K γ.length (tRet (tC (.bl true))) [some (.str (S a)), some (.str (S b)), some (.str (S LET)), some (.str (S FIG))] γ' ⟨fun ρ' γ' => dS K γ.length (tRet (tOrV (tAndV (tOp (rInG K) (tVar 0) (tTup (tCons (tC (.str (S [60]))) (tCons (tC (.str (S [62]))) (tCons (tC (.str (S [33]))) tNil))))) (tOp (rEqG K) (tOp (rIx K) (tVar 1) (tC (.int 0))) (tC (.str (S [61]))))) (tAndV (tOp (rEqG K) (tVar 0) (tC (.str (S [47])))) (tOp (rEqG K) (tOp (rIx K) (tVar 1) (tC (.int 0))) (tC (.str (S [47]))))))) ρ' γ' ⟨fun _ γ' => Dr γ.length q .non γ', Dr γ.length q, fun _ _ => False, fun _ _ => False⟩, Dr γ.length q, fun _ _ => False, fun _ _ => False⟩
      else dS K γ.length tNext [some (.str (S a)), some (.str (S b)), some (.str (S LET)), some (.str (S FIG))] γ' ⟨fun ρ' γ' => dS K γ.length (tRet (tOrV (tAndV (tOp (rInG K) (tVar 0) (tTup (tCons (tC (.str (S [60]))) (tCons (tC (.str (S [62]))) (tCons (tC (.str (S [33]))) tNil))))) (tOp (rEqG K) (tOp (rIx K) (tVar 1) (tC (.int 0))) (tC (.str (S [61]))))) (tAndV (tOp (rEqG K) (tVar 0) (tC (.str (S [47])))) (tOp (rEqG K) (tOp (rIx K) (tVar 1) (tC (.int 0))) (tC (.str (S [47]))))))) ρ' γ' ⟨fun _ γ' => Dr γ.length q .non γ', Dr γ.length q, fun _ _ => False, fun _ _ => False⟩, Dr γ.length q, fun _ _ => False, fun _ _ => False⟩ := by
    intro hq
    refine dt_mono (figs hq) ?_
    rintro x γ' ⟨rfl, ht, hf⟩
    cases x with
    | true =>
      walk_at "GO"
      exact .inl (ht rfl)
    | false => exact iff_ (xs_next (fin (hf rfl)))
  refine ifd (fun h1 => ?_) (fun h1 => ?_)
  · replace h1 : c ∈ LET := h1
    rw [show decide (c ∈ LET) = true from decide_eq_true h1] at hq
    walk_at "GO"
    refine first ?_
    walk_at "GO"
    refine ifd (fun h2 => ?_) (fun h2 => ?_)
    · replace h2 : d ∈ LET := h2
      rw [show decide (d ∈ LET) = true from decide_eq_true h2] at hq
      walk_at "GO"
      exact .inl hq
    · replace h2 : d ∉ LET := h2
      rw [show decide (d ∈ LET) = false from decide_eq_false h2] at hq
      exact last2 (by simpa using hq)
  · replace h1 : c ∉ LET := h1
    rw [show decide (c ∈ LET) = false from decide_eq_false h1] at hq
    refine iff_ ?_
    exact last2 (by simpa using hq)
theorem xs_mid {n : Nat} {t : TS} {nx bk ct : DL.Env → Ga → Prop} {rt : QD} (N : DL.Env → Ga → Prop) (h1 : dS K n t ρ γ ⟨N, rt, bk, ct⟩) (h2 : ∀ ρ' γ', N ρ' γ' → nx ρ' γ') : dS K n t ρ γ ⟨nx, rt, bk, ct⟩ :=
  fun σ H α α0 H0 Dn hn e r g f => h1 σ H α α0 H0 Dn hn e r g ⟨fun σ' H' α' ρ' γ' h e' g' r' => f.nx σ' H' α' ρ' γ' (h2 _ _ h) e' g' r', f.rt, f.bk, f.ct⟩
theorem reps1 {n c : Nat} : reps n [c] = List.replicate n c := by
  unfold reps
  induction n with
  | zero => rfl
  | succ n ih => rw [List.replicate_succ, List.flatten_cons, ih]; rfl
def prevW (ws : List (List Nat)) (i : Nat) : Option (List Nat) := if i = 0 then none else ws[i - 1]?
theorem spl_front : ∀ {ws : List (List Nat)} {t : List Nat} (n : Nat), Spl none ws t → Spl none ws (List.replicate n 32 ++ t)
  | [], t, n, h => fun c hc => by
    rcases List.mem_append.mp hc with hc | hc
    · exact (List.mem_replicate.mp hc).2
    · exact h c hc
  | w :: ws, t, n, h => by
    obtain ⟨m, t', rfl, h1, h2⟩ := h
    exact ⟨n + m, t', by rw [← List.append_assoc, List.replicate_append_replicate], (fun p hp => by cases hp), h2⟩
theorem dl_L_text (T : Tx K mg) : DL_L_text K (sp_L_text K) := by
  rintro ds γ q e lo1 lo2 ⟨n, A, B, rest, ws, rfl, hwl, hws, rfl, hs, hq⟩
  refine dS_env (ρ' := [some (.loc 1), some (.lst (strsD ws)), none, none, none, none]) rfl ?_
  unfold t_L_text
  have hsp : ∀ d : Int, 0 ≤ d → d < 4 → ∃ z : Nat, atI [D.int 0, .int 0, .int 0, .int 2] d = some (.int z) ∧ z ≤ 2 := by
    intro d h0 h1
    have : d = 0 ∨ d = 1 ∨ d = 2 ∨ d = 3 := by omega
    rcases this with rfl | rfl | rfl | rfl
    · exact ⟨0, rfl, by decide⟩
    · exact ⟨0, rfl, by decide⟩
    · exact ⟨0, rfl, by decide⟩
    · exact ⟨2, rfl, by decide⟩
  have hsp5 : ∀ d : Int, 0 ≤ d → d < 5 → ∃ z : Nat, atI [D.int 0, .int 0, .int 1, .int 1, .int 3] d = some (.int z) ∧ z ≤ 3 := by
    intro d h0 h1
    have : d = 0 ∨ d = 1 ∨ d = 2 ∨ d = 3 ∨ d = 4 := by omega
    rcases this with rfl | rfl | rfl | rfl | rfl
    · exact ⟨0, rfl, by decide⟩
    · exact ⟨0, rfl, by decide⟩
    · exact ⟨1, rfl, by decide⟩
    · exact ⟨1, rfl, by decide⟩
    · exact ⟨3, rfl, by decide⟩
  walk_at "GO"
  refine ⟨n + ws.length + 1, 4, A, B, rest, rfl, by decide, by decide, rfl, hs, fun d A1 B1 h0 h1 hs1 => ?_⟩
  obtain ⟨z, hz, hz2⟩ := hsp d h0 h1
  refine xix_lst ⟨_, rfl, _, hz, ?_⟩
  refine rmul_str (by simp; omega) (by omega) ?_
  rw [reps1]
  walk_at "GO"
  refine xs_mid (fun ρ' γ' => ∃ acc A' B' ps x4 x5, ρ' = [some (.loc 1), some (.lst (strsD ws)), some (.str (S acc)), some (.loc (rest.length + 1 + 1)), x4, x5] ∧ γ' = A' :: B' :: (rest ++ [.lst ps]) ∧ Strm (n + 1) A' B' ∧ acc.length ≤ 2 + 104 * ws.length ∧ (∀ t', Spl (prevW ws ws.length) [] t' → Spl none ws (acc ++ t'))) ?_ ?_
  · refine xs_for [4] ?_
    walk_at "GO"
    have hlen : (strsD ws).length = ws.length := by simp [strsD]
    rw [hlen]
    refine ⟨by omega, by omega, ?_⟩
    have hrl : (rngD 0 ((ws.length : Nat) : Int).toNat).length = ws.length := by simp [rngD]
    refine ⟨fun i ρ' γ' => ∃ acc A' B' ps x4 x5, ρ' = [some (.loc 1), some (.lst (strsD ws)), some (.str (S acc)), some (.loc (rest.length + 1 + 1)), x4, x5] ∧ γ' = A' :: B' :: (rest ++ [.lst ps]) ∧ Strm (n + 1 + ws.length - i) A' B' ∧ acc.length ≤ 2 + 104 * i ∧ ps.length = i ∧ (∀ t', Spl (prevW ws i) (ws.drop i) t' → Spl none ws (acc ++ t')),
      ⟨_, A1, B1, [], none, none, rfl, rfl, hs1.mono (by omega), by simp; omega, rfl, fun t' h => spl_front z h⟩, ?_, ?_⟩
    · rintro i x ρ' γ' hi ⟨acc, A', B', ps, x4, x5, rfl, rfl, hs', hal, hpl, hinv⟩
      have hil : i < ws.length := by rw [← hrl]; exact (List.getElem?_eq_some_iff.mp hi).1
      have hx : x = .int i := by
        simp [rngD, hil] at hi
        exact hi.symm
      subst hx
      have hwi : ws[i]? = some ws[i] := List.getElem?_eq_getElem hil
      have hmem : ws[i] ∈ ws := List.getElem_mem hil
      obtain ⟨hw0, hw1⟩ := hws _ hmem
      have hdrop : ws.drop i = ws[i] :: ws.drop (i + 1) := List.drop_eq_getElem_cons hil
      have hpn : prevW ws (i + 1) = some ws[i] := by simp [prevW, hil]
      refine dg_name ?_
      walk_at "GO"
      refine ⟨n + ws.length - i, 5, A', B', rest ++ [.lst ps], rfl, by decide, by decide, rfl, hs'.mono (by omega), fun d A2 B2 h0 h1 hs2 => ?_⟩
      obtain ⟨y, hy, hy3⟩ := hsp5 d h0 h1
      refine xix_lst ⟨_, rfl, _, hy, ?_⟩
      -- the spaces ahead of the word
      refine xs_cut (fun ρ' γ' => ∃ m : Nat, ρ' = [some (.loc 1), some (.lst (strsD ws)), some (.str (S acc)), some (.loc (rest.length + 1 + 1)), some (.int i), some (.int m)] ∧ γ' = A2 :: B2 :: (rest ++ [.lst ps]) ∧ m ≤ 3 ∧ (∀ p, prevW ws i = some p → grows p ws[i] = true → 0 < m)) ?_ ?_
      · walk_at "GO"
        refine ifd (fun c1 => ?_) (fun c1 => ?_)
        · have hi0 : 0 < i := by omega
          have hp : ws[i - 1]? = some ws[i - 1] := List.getElem?_eq_getElem (by omega)
          have hpm : ws[i - 1] ∈ ws := List.getElem_mem (by omega)
          obtain ⟨hv0, hv1⟩ := hws _ hpm
          have hpw : prevW ws i = some ws[i - 1] := by unfold prevW; rw [if_neg (by omega)]; exact hp
          walk_at "GO"
          rw [show (i : Int) - 1 = ((i - 1 : Nat) : Int) by omega]
          refine xix_lst ⟨_, rfl, .str (S ws[i - 1]), at_nat (by simp [strsD, hp]), ?_⟩
          walk_at "GO"
          refine xix_lst ⟨_, rfl, .str (S ws[i]), at_nat (by simp [strsD, hwi]), ?_⟩
          walk_at "GO"
          refine ⟨_, _, rfl, hv0, hw0, hv1, hw1, ?_⟩
          walk_at "GO"
          cases hg : grows ws[i - 1] ws[i] with
          | true =>
            walk_at "GO"
            by_cases hy0 : (y : Int) > 1
            · rw [if_pos hy0]
              exact ⟨y, rfl, rfl, hy3, fun _ _ _ => by omega⟩
            · rw [if_neg hy0]
              exact ⟨1, rfl, rfl, by decide, fun _ _ _ => by decide⟩
          | false =>
            walk_at "GO"
            refine ⟨rfl, hy3, fun p hp' hg' => ?_⟩
            rw [hpw] at hp'
            cases hp'
            rw [hg] at hg'
            cases hg'
        · walk_at "GO"
          refine ⟨rfl, hy3, fun p hp' hg' => ?_⟩
          have : i = 0 := by omega
          subst this
          cases hp'
      · rintro ρ' γ' ⟨m, rfl, rfl, hm3, hmg⟩
        have hk : ∃ k : Nat, (m : Int) * (if decide ((0 : Int) < i) = true then 1 else 0) = (k : Int) ∧ k ≤ 3 ∧ (∀ p, prevW ws i = some p → grows p ws[i] = true → 0 < k) := by
          by_cases h : (0 : Int) < i
          · exact ⟨m, by rw [if_pos (decide_eq_true h)]; simp, hm3, hmg⟩
          · refine ⟨0, by rw [if_neg (by simpa using h)]; simp, by decide, fun p hp => ?_⟩
            have : i = 0 := by omega
            subst this
            cases hp
        obtain ⟨k, hk, hk3, hkg⟩ := hk
        walk_at "GO"
        · exact .inr (by split <;> decide)
        rw [hk]
        refine rmul_str (by simp; omega) (by omega) ?_
        rw [reps1]
        walk_at "GO"
        · simp; omega
        refine ⟨xty_lst ⟨_, vw_loc get_end⟩, ?_⟩
        walk_at "GO"
        · simp; omega
        refine xm_append ⟨_, _, rfl, get_end, by omega, ?_⟩
        rw [set_end]
        walk_at "GO"
        refine xix_lst ⟨_, rfl, .str (S ws[i]), at_nat (by simp [strsD, hwi]), ?_⟩
        walk_at "GO"
        · simp; omega
        refine ⟨acc ++ List.replicate k 32 ++ ws[i], A2, B2, _, _, _, rfl, rfl, hs2.mono (by omega), by simp; omega, by simp [hpl], fun t' ht => ?_⟩
        rw [List.append_assoc, List.append_assoc]
        refine hinv _ ?_
        rw [hdrop]
        rw [hpn] at ht
        exact ⟨k, t', rfl, hkg, ht⟩
    · rintro ρ' γ' ⟨acc, A', B', ps, x4, x5, rfl, rfl, hs', hal, hpl, hinv⟩
      rw [hrl] at hinv hal hs'
      rw [List.drop_length] at hinv
      exact ⟨acc, A', B', ps, x4, x5, rfl, rfl, hs'.mono (by omega), hal, hinv⟩
  · rintro ρ' γ' ⟨acc, A', B', ps, x4, x5, rfl, rfl, hs', hal, hinv⟩
    walk_at "GO"
    refine ⟨n, 4, A', B', rest ++ [.lst ps], rfl, by decide, by decide, rfl, hs', fun d A2 B2 h0 h1 hs2 => ?_⟩
    obtain ⟨z2, hz2, hz22⟩ := hsp d h0 h1
    refine xix_lst ⟨_, rfl, _, hz2, ?_⟩
    refine rmul_str (by simp; omega) (by omega) ?_
    rw [reps1]
    walk_at "GO"
    · simp; omega
    exact .inl (hq _ ps A2 B2 (hinv _ (fun c hc => (List.mem_replicate.mp hc).2)) (by simp; omega) hs2)
theorem dl_L_is_within (T : Tx K mg) : DL_L_is_within K (sp_L_is_within K) := by
  rintro ds γ q e lo1 lo2 ⟨l, rfl, hl, hq⟩
  refine dS_env (ρ' := [some (.str (S l)), none]) rfl ?_
  unfold t_L_is_within
  walk_at "GO"
  · omega
  refine ifd (fun c1 => ?_) (fun c1 => ?_)
  · walk_at "GO"
    refine xe_lcN [[40], [91], [45], [110, 111, 116]] (fun w => .str (S w)) (fun w => .int (Txt.count (S l) (S w))) (by simp) ?_
    walk_at "GO"
    refine ⟨rfl, by decide, fun w hw => ?_, ?_⟩
    · walk_at "GO"
      exact ⟨rfl, rfl⟩
    · walk_at "GO"
      refine rc_max (ns := [(Txt.count (S l) (S [40]) : Int), Txt.count (S l) (S [91]), Txt.count (S l) (S [45]), Txt.count (S l) (S [110, 111, 116])]) rfl (by simp) (fun m hm _ => ?_)
      walk_at "GO"
      exact .inl (hq _)
  · exact .inl (hq _)
end
end K07

set_option Elab.async false
set_option linter.all false
set_option maxRecDepth 100000
set_option maxHeartbeats 4000000
namespace K07
open PySem PySem.Spec PyProof.Rows L2 DL
/-! ### the parser gives the tree -/
def kW (w : List Nat) : Kd := if w.head?.any (· ∈ LET) then (if w ∈ WRDS then .sign else .name) else if w.head?.any (· ∈ FIG) then .integer else .sign
def Tks (ws : List (List Nat)) (ts : List Tkn) : Prop := ts.map (fun t => (t.k, t.v)) = ws.map (fun w => (kW w, w))
theorem tks_cons {w : List Nat} {ws : List (List Nat)} {ts : List Tkn} (h : Tks (w :: ws) ts) : ∃ t ts', ts = t :: ts' ∧ t.k = kW w ∧ t.v = w ∧ Tks ws ts' := by
  unfold Tks at h
  cases ts with
  | nil => simp at h
  | cons t ts' =>
    simp only [List.map_cons, List.cons.injEq, Prod.mk.injEq] at h
    exact ⟨t, ts', rfl, h.1.1, h.1.2, h.2⟩
theorem tks_app {xs ys : List (List Nat)} {ts : List Tkn} (h : Tks (xs ++ ys) ts) : ∃ a b, ts = a ++ b ∧ Tks xs a ∧ Tks ys b := by
  unfold Tks at h
  rw [List.map_append] at h
  obtain ⟨a, b, rfl, h1, h2⟩ := List.map_eq_append_iff.mp h
  exact ⟨a, b, rfl, h1, h2⟩
theorem tks_nil {ts : List Tkn} (h : Tks [] ts) : ts = [] := by
  unfold Tks at h
  simpa using h
theorem sees_of {t : Tkn} {w : List Nat} {gs : List (List Nat)} (h1 : t.k = kW w) (h2 : t.v = w) : sees t gs = (decide (kW w = .sign) && decide (w ∈ gs)) := by
  unfold sees
  rw [h1, h2]
theorem num_int {z : Int} (h : z ∈ NUMS) : PySem.intText? (S (digs z)) = some z ∧ (digs z).length ≤ 30 ∧ kW (digs z) = .integer ∧ isNum (digs z) = true ∧ (digs z).all (fun c => decide (c ∈ FIG)) = true ∧ 0 < (digs z).length := by
  have : ∀ z ∈ NUMS, PySem.intText? (S (digs z)) = some z ∧ (digs z).length ≤ 30 ∧ kW (digs z) = .integer ∧ isNum (digs z) = true ∧ (digs z).all (fun c => decide (c ∈ FIG)) = true ∧ 0 < (digs z).length := by decide +kernel
  exact this z h
theorem name_kw {l : List Nat} (h : isName l = true) : kW l = .name ∧ l.length ≤ 8 ∧ 1 ≤ l.length ∧ (∀ c ∈ l, c ∈ LET) ∧ l ∉ WRDS := by
  unfold isName at h
  simp only [Bool.and_eq_true, decide_eq_true_eq, Bool.not_eq_true', decide_eq_false_iff_not, List.all_eq_true] at h
  obtain ⟨⟨⟨h1, h2⟩, h3⟩, h4⟩ := h
  have hw : l ∉ WRDS := fun z => h3 (by
    have : ∀ w ∈ WRDS, w ∈ RESV := by decide
    exact this l z)
  refine ⟨?_, h2, h1, h4, hw⟩
  cases l with
  | nil => simp at h1
  | cons c r =>
    unfold kW
    rw [if_pos (by simp [h4 c List.mem_cons_self]), if_neg hw]
theorem loop_stop {f : List Tkn → PR} {ops : List (List Nat)} {m : Nat} {d : D} {r0 : Tkn} {rest : List Tkn} (h : sees r0 ops = false) (hm : 1 ≤ m) : pLoop f ops m d (r0 :: rest) = some (.ok (d, r0 :: rest)) := by
  obtain ⟨k, rfl⟩ : ∃ k, m = k + 1 := ⟨m - 1, by omega⟩
  unfold pLoop
  rw [if_neg (by rw [h]; decide)]
theorem loop_go {f : List Tkn → PR} {ops : List (List Nat)} {m : Nat} {d d2 : D} {t : Tkn} {r r2 : List Tkn} (h : sees t ops = true) (hf : f r = some (.ok (d2, r2))) : pLoop f ops (m + 1) d (t :: r) = pLoop f ops m (.tup [.str (S t.v), d, d2]) r2 := by
  conv => lhs; unfold pLoop
  rw [if_pos h, hf]
theorem pT_of {f : List Tkn → PR} {ts r : List Tkn} {d : D} (h : f ts = some (.ok (d, r))) : pT f ts = pLoop f MUL (r.length + 1) d r := by
  unfold pT
  rw [h]
theorem pE_of {f : List Tkn → PR} {ts r : List Tkn} {d : D} (h : pT f ts = some (.ok (d, r))) : pE f ts = pLoop (pT f) ADD (r.length + 1) d r := by
  unfold pE
  rw [h]
/-- what an expression's own tokens give -/
structure Core (e : Ex) (n : Nat) (ts : List Tkn) : Prop where
  c3 : e.rk = 3 → ∀ rest, pFac n (ts ++ rest) = some (.ok (e.d, rest))
  c2 : e.rk = 2 → ∀ rest, ∃ m, rest.length + 1 ≤ m ∧ pT (pFac n) (ts ++ rest) = pLoop (pFac n) MUL m e.d rest
  c1 : e.rk = 1 → ∀ r0 rest, sees r0 MUL = false → ∃ m, (r0 :: rest).length + 1 ≤ m ∧ pE (pFac n) (ts ++ r0 :: rest) = pLoop (pT (pFac n)) ADD m e.d (r0 :: rest)
theorem rk_cases (e : Ex) : e.rk = 1 ∨ e.rk = 2 ∨ e.rk = 3 := by
  cases e with
  | bin o a b =>
    show rankOf o = 1 ∨ rankOf o = 2 ∨ rankOf o = 3
    unfold rankOf
    split <;> omega
  | con o a b =>
    show rankC o = 1 ∨ rankC o = 2 ∨ rankC o = 3
    unfold rankC
    split <;> omega
  | _ => exact .inr (.inr rfl)
theorem bars_E {e : Ex} (h : e.okE = true) : e.bo = [40] ∧ e.bc = [41] := by
  cases e with
  | num z => exact ⟨rfl, rfl⟩
  | var l => exact ⟨rfl, rfl⟩
  | neg a => exact ⟨rfl, rfl⟩
  | bin o a b => exact ⟨rfl, rfl⟩
  | cmp o a b => cases h
  | nt a => cases h
  | con o a b => cases h
theorem bars_C {e : Ex} (h : e.okC = true) : e.bo = [91] ∧ e.bc = [93] := by
  cases e with
  | cmp o a b => exact ⟨rfl, rfl⟩
  | nt a => exact ⟨rfl, rfl⟩
  | con o a b => exact ⟨rfl, rfl⟩
  | num z => cases h
  | var l => cases h
  | neg a => cases h
  | bin o a b => cases h
theorem Core.t {e : Ex} {n : Nat} {ts : List Tkn} (C : Core e n ts) (h : 2 ≤ e.rk) (rest : List Tkn) : ∃ m, rest.length + 1 ≤ m ∧ pT (pFac n) (ts ++ rest) = pLoop (pFac n) MUL m e.d rest := by
  rcases rk_cases e with h1 | h1 | h1
  · omega
  · exact C.c2 h1 rest
  · exact ⟨_, Nat.le_refl _, pT_of (C.c3 h1 rest)⟩
theorem Core.e {e : Ex} {n : Nat} {ts : List Tkn} (C : Core e n ts) (r0 : Tkn) (rest : List Tkn) (hr : sees r0 MUL = false) : ∃ m, (r0 :: rest).length + 1 ≤ m ∧ pE (pFac n) (ts ++ r0 :: rest) = pLoop (pT (pFac n)) ADD m e.d (r0 :: rest) := by
  by_cases h : 2 ≤ e.rk
  · obtain ⟨m, hm, h1⟩ := C.t h (r0 :: rest)
    rw [loop_stop hr (by omega)] at h1
    exact ⟨_, Nat.le_refl _, pE_of h1⟩
  · exact C.c1 (by have := rk_cases e; omega) r0 rest hr
theorem Core.all {e : Ex} {n : Nat} {ts : List Tkn} (C : Core e n ts) (r0 : Tkn) (rest : List Tkn) (hr : sees r0 MUL = false) (ha : sees r0 ADD = false) : pE (pFac n) (ts ++ r0 :: rest) = some (.ok (e.d, r0 :: rest)) := by
  obtain ⟨m, hm, h⟩ := C.e r0 rest hr
  rw [h, loop_stop ha (by omega)]
theorem brk_facts : kW [40] = .sign ∧ kW [41] = .sign := by decide
theorem fac_paren {e : Ex} {n : Nat} {tc : List Tkn} {t1 t2 : Tkn} (C : Core e n tc) (h1 : t1.k = kW [40]) (h1' : t1.v = [40]) (h2 : t2.k = kW [41]) (h2' : t2.v = [41]) (rest : List Tkn) :
    pFac (n + 1) (t1 :: (tc ++ t2 :: rest)) = some (.ok (e.d, rest)) := by
  have s1 : sees t1 [[45]] = false := by rw [sees_of h1 h1']; decide
  have s2 : sees t1 [[40]] = true := by rw [sees_of h1 h1']; decide
  have s3 : sees t2 MUL = false := by rw [sees_of h2 h2']; decide
  have s4 : sees t2 ADD = false := by rw [sees_of h2 h2']; decide
  have s5 : sees t2 [[41]] = true := by rw [sees_of h2 h2']; decide
  conv => lhs; unfold pFac
  rw [if_neg (by rw [s1]; decide), if_pos s2, C.all t2 rest s3 s4]
  show (if sees t2 [[41]] = true then some (.ok (e.d, rest)) else some (.error t2.p) : PR) = _
  rw [if_pos s5]
/-- and with the parentheses around them, or not -/
theorem wr_fac {e : Ex} {n : Nat} {c x : List (List Nat)} {ts : List Tkn} (hE : e.okE = true) (hw : Wr e 3 c x) (ht : Tks x ts) (H : ∀ m tc, n ≤ m → Tks c tc → Core e m tc) (m : Nat) (hm : n + 1 ≤ m) (rest : List Tkn) : pFac m (ts ++ rest) = some (.ok (e.d, rest)) := by
  obtain ⟨hbo, hbc⟩ := bars_E hE
  unfold Wr at hw
  rw [hbo, hbc] at hw
  rcases hw with rfl | ⟨rfl, hr⟩
  · obtain ⟨t1, ts1, rfl, h1, h1', h⟩ := tks_cons ht
    obtain ⟨tc, tb, rfl, h2, h3⟩ := tks_app h
    obtain ⟨t2, tn, rfl, h4, h4', h5⟩ := tks_cons h3
    have := tks_nil h5
    subst this
    obtain ⟨k, rfl⟩ : ∃ k, m = k + 1 := ⟨m - 1, by omega⟩
    have := fac_paren (H k tc (by omega) h2) h1 h1' h4 h4' rest
    rw [List.cons_append, List.append_assoc]
    exact this
  · exact (H m ts (by omega) ht).c3 (by have := rk_cases e; omega) rest
theorem wr_t {e : Ex} {n : Nat} {c x : List (List Nat)} {ts : List Tkn} (hE : e.okE = true) (hw : Wr e 2 c x) (ht : Tks x ts) (H : ∀ m tc, n ≤ m → Tks c tc → Core e m tc) (m : Nat) (hm : n + 1 ≤ m) (rest : List Tkn) : ∃ k, rest.length + 1 ≤ k ∧ pT (pFac m) (ts ++ rest) = pLoop (pFac m) MUL k e.d rest := by
  by_cases h : x = e.bo :: (c ++ [e.bc])
  · exact ⟨_, Nat.le_refl _, pT_of (wr_fac hE (.inl h) ht H m hm rest)⟩
  · rcases hw with hw | ⟨rfl, hr⟩
    · exact absurd hw h
    · exact (H m ts (by omega) ht).t hr rest
theorem wr_e {e : Ex} {n : Nat} {c x : List (List Nat)} {ts : List Tkn} (hE : e.okE = true) (hw : Wr e 1 c x) (ht : Tks x ts) (H : ∀ m tc, n ≤ m → Tks c tc → Core e m tc) (m : Nat) (hm : n + 1 ≤ m) (r0 : Tkn) (rest : List Tkn) (hr0 : sees r0 MUL = false) : ∃ k, (r0 :: rest).length + 1 ≤ k ∧ pE (pFac m) (ts ++ r0 :: rest) = pLoop (pT (pFac m)) ADD k e.d (r0 :: rest) := by
  by_cases h : x = e.bo :: (c ++ [e.bc])
  · have h1 := pT_of (wr_fac hE (.inl h) ht H m hm (r0 :: rest))
    rw [loop_stop hr0 (by omega)] at h1
    exact ⟨_, Nat.le_refl _, pE_of h1⟩
  · rcases hw with hw | ⟨rfl, hr⟩
    · exact absurd hw h
    · exact (H m ts (by omega) ht).e r0 rest hr0
theorem core_of : ∀ (e : Ex), e.okE = true → ∀ c, RdC e c → ∀ n ts, 2 * e.dep + 1 ≤ n → Tks c ts → Core e n ts
  | .num z, hok, c, hc, n, ts, hn, ht => by
    cases hc
    have hz : z ∈ NUMS := of_decide_eq_true hok
    obtain ⟨h1, h2, h3, _⟩ := num_int hz
    obtain ⟨t, ts', rfl, hk, hv, h⟩ := tks_cons ht
    have := tks_nil h
    subst this
    obtain ⟨k, rfl⟩ : ∃ k, n = k + 1 := ⟨n - 1, by omega⟩
    refine ⟨fun _ rest => ?_, fun z => absurd (show (3 : Nat) = 2 from z) (by decide), fun z => absurd (show (3 : Nat) = 1 from z) (by decide)⟩
    have hs : ∀ gs, sees t gs = false := fun gs => by rw [sees_of hk hv, h3]; rfl
    show pFac (k + 1) (t :: rest) = _
    conv => lhs; unfold pFac
    rw [if_neg (by rw [hs]; decide), if_neg (by rw [hs]; decide)]
    unfold pLeaf
    rw [if_pos (by rw [hk, h3]), hv, h1]
    show (if (digs z).length ≤ 640 then _ else _ : PR) = _
    rw [if_pos (by omega)]
    rfl
  | .var l, hok, c, hc, n, ts, hn, ht => by
    cases hc
    obtain ⟨h3, _⟩ := name_kw (l := l) hok
    obtain ⟨t, ts', rfl, hk, hv, h⟩ := tks_cons ht
    have := tks_nil h
    subst this
    obtain ⟨k, rfl⟩ : ∃ k, n = k + 1 := ⟨n - 1, by omega⟩
    refine ⟨fun _ rest => ?_, fun z => absurd (show (3 : Nat) = 2 from z) (by decide), fun z => absurd (show (3 : Nat) = 1 from z) (by decide)⟩
    have hs : ∀ gs, sees t gs = false := fun gs => by rw [sees_of hk hv, h3]; rfl
    show pFac (k + 1) (t :: rest) = _
    conv => lhs; unfold pFac
    rw [if_neg (by rw [hs]; decide), if_neg (by rw [hs]; decide)]
    unfold pLeaf
    rw [if_neg (by rw [hk, h3]; decide), if_pos (by rw [hk, h3]), hv]
    rfl
  | .neg a, hok, c, hc, n, ts, hn, ht => by
    obtain ⟨ca, x, h1, h2, rfl⟩ := hc
    obtain ⟨t, ts', rfl, hk, hv, h⟩ := tks_cons ht
    obtain ⟨k, rfl⟩ : ∃ k, n = k + 1 := ⟨n - 1, by omega⟩
    simp only [Ex.dep] at hn
    refine ⟨fun _ rest => ?_, fun z => absurd (show (3 : Nat) = 2 from z) (by decide), fun z => absurd (show (3 : Nat) = 1 from z) (by decide)⟩
    have hs : sees t [[45]] = true := by rw [sees_of hk hv]; decide
    show pFac (k + 1) (t :: (ts' ++ rest)) = _
    conv => lhs; unfold pFac
    rw [if_pos hs, wr_fac (e := a) hok h2 h (fun m tc hm htc => core_of a hok ca h1 m tc hm htc) k (by omega) rest]
    rfl
  | .cmp o a b, hok, c, hc, n, ts, hn, ht => by cases hok
  | .nt a, hok, c, hc, n, ts, hn, ht => by cases hok
  | .con o a b, hok, c, hc, n, ts, hn, ht => by cases hok
  | .bin o a b, hok, c, hc, n, ts, hn, ht => by
    obtain ⟨ca, xa, cb, xb, ha1, ha2, hb1, hb2, rfl⟩ := hc
    obtain ⟨ho', hoa, hob⟩ := and3 (show (decide (o ∈ OPS) && a.okE && b.okE) = true from hok)
    have ho := of_decide_eq_true ho'
    simp only [Ex.dep] at hn
    obtain ⟨ta, tr, rfl, hta, htr⟩ := tks_app ht
    obtain ⟨t, tb, rfl, hk, hv, htb⟩ := tks_cons htr
    have HA := fun m tc (hm : 2 * a.dep + 1 ≤ m) (htc : Tks ca tc) => core_of a hoa ca ha1 m tc hm htc
    have HB := fun m tc (hm : 2 * b.dep + 1 ≤ m) (htc : Tks cb tc) => core_of b hob cb hb1 m tc hm htc
    have hkind : ∀ o ∈ OPS, kW o = .sign := by decide
    have hks := hkind o ho
    by_cases hadd : o ∈ ADD
    · have hrk : rankOf o = 1 := by unfold rankOf; rw [if_pos hadd]
      rw [hrk] at ha2 hb2
      have hnm : o ∉ MUL := by
        have : ∀ o ∈ ADD, o ∉ MUL := by decide
        exact this o hadd
      have s1 : sees t ADD = true := by rw [sees_of hk hv, hks]; simpa using hadd
      have s2 : sees t MUL = false := by rw [sees_of hk hv, hks]; simpa using hnm
      refine ⟨fun z => ?_, fun z => ?_, fun _ r0 rest hr0 => ?_⟩
      · rw [show (Ex.bin o a b).rk = rankOf o from rfl, hrk] at z; cases z
      · rw [show (Ex.bin o a b).rk = rankOf o from rfl, hrk] at z; cases z
      obtain ⟨m1, hm1, e1⟩ := wr_e hoa ha2 hta HA n (by omega) t (tb ++ r0 :: rest) s2
      obtain ⟨m2, hm2, e2⟩ := wr_t hob hb2 htb HB n (by omega) (r0 :: rest)
      rw [loop_stop hr0 (by omega)] at e2
      obtain ⟨m1', rfl⟩ : ∃ k, m1 = k + 1 := ⟨m1 - 1, by omega⟩
      rw [loop_go s1 e2] at e1
      refine ⟨m1', by simp at hm1 ⊢; omega, ?_⟩
      rw [List.append_assoc, List.cons_append, e1, hv]
      rfl
    · have hrk : rankOf o = 2 := by unfold rankOf; rw [if_neg hadd]
      rw [hrk] at ha2 hb2
      have hm : o ∈ MUL := by
        have : ∀ o ∈ OPS, o ∉ ADD → o ∈ MUL := by decide
        exact this o ho hadd
      have s1 : sees t MUL = true := by rw [sees_of hk hv, hks]; simpa using hm
      refine ⟨fun z => ?_, fun _ rest => ?_, fun z => ?_⟩
      · rw [show (Ex.bin o a b).rk = rankOf o from rfl, hrk] at z; cases z
      · obtain ⟨m1, hm1, e1⟩ := wr_t hoa ha2 hta HA n (by omega) (t :: (tb ++ rest))
        have e2 := wr_fac hob hb2 htb HB n (by omega) rest
        obtain ⟨m1', rfl⟩ : ∃ k, m1 = k + 1 := ⟨m1 - 1, by omega⟩
        rw [loop_go s1 e2] at e1
        refine ⟨m1', by simp at hm1 ⊢; omega, ?_⟩
        rw [List.append_assoc, List.cons_append, e1, hv]
        rfl
      · rw [show (Ex.bin o a b).rk = rankOf o from rfl, hrk] at z; cases z
theorem parse_E {e : Ex} {c ws : List (List Nat)} {ts rest : List Tkn} {r0 : Tkn} {N : Nat} (hN : 14 ≤ N) (hok : e.okE = true) (hd : e.dep ≤ 6) (hc : RdC e c) (hw : Wr e 1 c ws) (ht : Tks ws ts) (hm : sees r0 MUL = false) (ha : sees r0 ADD = false) : pE (pFac N) (ts ++ r0 :: rest) = some (.ok (e.d, r0 :: rest)) := by
  obtain ⟨k, hk, h⟩ := wr_e hok hw ht (fun m tc hm htc => core_of e hok c hc m tc hm htc) N (by omega) r0 rest hm
  rw [h, loop_stop ha (by omega)]
/-! ### conditions -/
theorem pL_of {f : List Tkn → PR} {ops : List (List Nat)} {ts r : List Tkn} {d : D} (h : f ts = some (.ok (d, r))) : pL f ops ts = pLoop f ops (r.length + 1) d r := by
  unfold pL
  rw [h]
/-- what may stand behind a condition's part -/
def Stop (t : Tkn) : Prop := sees t MUL = false ∧ sees t ADD = false
structure CoreC (e : Ex) (n : Nat) (ts : List Tkn) : Prop where
  c3 : e.rk = 3 → ∀ r0 rest, Stop r0 → pNeg pE14 n (ts ++ r0 :: rest) = some (.ok (e.d, r0 :: rest))
  c2 : e.rk = 2 → ∀ r0 rest, Stop r0 → ∃ m, (r0 :: rest).length + 1 ≤ m ∧ pJ (pNeg pE14 n) (ts ++ r0 :: rest) = pLoop (pNeg pE14 n) [sAnd] m e.d (r0 :: rest)
  c1 : e.rk = 1 → ∀ r0 rest, Stop r0 → sees r0 [sAnd] = false → ∃ m, (r0 :: rest).length + 1 ≤ m ∧ pC (pNeg pE14 n) (ts ++ r0 :: rest) = pLoop (pJ (pNeg pE14 n)) [sOr] m e.d (r0 :: rest)
theorem CoreC.t {e : Ex} {n : Nat} {ts : List Tkn} (C : CoreC e n ts) (h : 2 ≤ e.rk) (r0 : Tkn) (rest : List Tkn) (hs : Stop r0) : ∃ m, (r0 :: rest).length + 1 ≤ m ∧ pJ (pNeg pE14 n) (ts ++ r0 :: rest) = pLoop (pNeg pE14 n) [sAnd] m e.d (r0 :: rest) := by
  rcases rk_cases e with h1 | h1 | h1
  · omega
  · exact C.c2 h1 r0 rest hs
  · exact ⟨_, Nat.le_refl _, pL_of (C.c3 h1 r0 rest hs)⟩
theorem CoreC.e {e : Ex} {n : Nat} {ts : List Tkn} (C : CoreC e n ts) (r0 : Tkn) (rest : List Tkn) (hs : Stop r0) (hr : sees r0 [sAnd] = false) : ∃ m, (r0 :: rest).length + 1 ≤ m ∧ pC (pNeg pE14 n) (ts ++ r0 :: rest) = pLoop (pJ (pNeg pE14 n)) [sOr] m e.d (r0 :: rest) := by
  by_cases h : 2 ≤ e.rk
  · obtain ⟨m, hm, h1⟩ := C.t h r0 rest hs
    rw [loop_stop hr (by omega)] at h1
    exact ⟨_, Nat.le_refl _, pL_of h1⟩
  · exact C.c1 (by have := rk_cases e; omega) r0 rest hs hr
theorem CoreC.all {e : Ex} {n : Nat} {ts : List Tkn} (C : CoreC e n ts) (r0 : Tkn) (rest : List Tkn) (hs : Stop r0) (hr : sees r0 [sAnd] = false) (ha : sees r0 [sOr] = false) : pC (pNeg pE14 n) (ts ++ r0 :: rest) = some (.ok (e.d, r0 :: rest)) := by
  obtain ⟨m, hm, h⟩ := C.e r0 rest hs hr
  rw [h, loop_stop ha (by omega)]
theorem neg_paren {e : Ex} {n : Nat} {tc : List Tkn} {t1 t2 : Tkn} (C : CoreC e n tc) (h1 : t1.k = kW [91]) (h1' : t1.v = [91]) (h2 : t2.k = kW [93]) (h2' : t2.v = [93]) (rest : List Tkn) :
    pNeg pE14 (n + 1) (t1 :: (tc ++ t2 :: rest)) = some (.ok (e.d, rest)) := by
  have s1 : sees t1 [sNot] = false := by rw [sees_of h1 h1']; decide
  have s2 : sees t1 [[91]] = true := by rw [sees_of h1 h1']; decide
  have s3 : Stop t2 := ⟨by rw [sees_of h2 h2']; decide, by rw [sees_of h2 h2']; decide⟩
  have s4 : sees t2 [sAnd] = false := by rw [sees_of h2 h2']; decide
  have s6 : sees t2 [sOr] = false := by rw [sees_of h2 h2']; decide
  have s5 : sees t2 [[93]] = true := by rw [sees_of h2 h2']; decide
  rw [pNeg_s, if_neg (by rw [s1]; decide), if_pos s2, C.all t2 rest s3 s4 s6]
  show (if sees t2 [[93]] = true then some (.ok (e.d, rest)) else some (.error t2.p) : PR) = _
  rw [if_pos s5]
theorem wrC_neg {e : Ex} {n : Nat} {c x : List (List Nat)} {ts : List Tkn} (hC : e.okC = true) (hw : Wr e 3 c x) (ht : Tks x ts) (H : ∀ m tc, n ≤ m → Tks c tc → CoreC e m tc) (m : Nat) (hm : n + 1 ≤ m) (r0 : Tkn) (rest : List Tkn) (hs : Stop r0) : pNeg pE14 m (ts ++ r0 :: rest) = some (.ok (e.d, r0 :: rest)) := by
  obtain ⟨hbo, hbc⟩ := bars_C hC
  unfold Wr at hw
  rw [hbo, hbc] at hw
  rcases hw with rfl | ⟨rfl, hr⟩
  · obtain ⟨t1, ts1, rfl, h1, h1', h⟩ := tks_cons ht
    obtain ⟨tc, tb, rfl, h2, h3⟩ := tks_app h
    obtain ⟨t2, tn, rfl, h4, h4', h5⟩ := tks_cons h3
    have := tks_nil h5
    subst this
    obtain ⟨k, rfl⟩ : ∃ k, m = k + 1 := ⟨m - 1, by omega⟩
    have := neg_paren (H k tc (by omega) h2) h1 h1' h4 h4' (r0 :: rest)
    rw [List.cons_append, List.append_assoc]
    exact this
  · exact (H m ts (by omega) ht).c3 (by have := rk_cases e; omega) r0 rest hs
theorem wrC_t {e : Ex} {n : Nat} {c x : List (List Nat)} {ts : List Tkn} (hC : e.okC = true) (hw : Wr e 2 c x) (ht : Tks x ts) (H : ∀ m tc, n ≤ m → Tks c tc → CoreC e m tc) (m : Nat) (hm : n + 1 ≤ m) (r0 : Tkn) (rest : List Tkn) (hs : Stop r0) : ∃ k, (r0 :: rest).length + 1 ≤ k ∧ pJ (pNeg pE14 m) (ts ++ r0 :: rest) = pLoop (pNeg pE14 m) [sAnd] k e.d (r0 :: rest) := by
  by_cases h : x = e.bo :: (c ++ [e.bc])
  · exact ⟨_, Nat.le_refl _, pL_of (wrC_neg hC (.inl h) ht H m hm r0 rest hs)⟩
  · rcases hw with hw | ⟨rfl, hr⟩
    · exact absurd hw h
    · exact (H m ts (by omega) ht).t hr r0 rest hs
theorem wrC_e {e : Ex} {n : Nat} {c x : List (List Nat)} {ts : List Tkn} (hC : e.okC = true) (hw : Wr e 1 c x) (ht : Tks x ts) (H : ∀ m tc, n ≤ m → Tks c tc → CoreC e m tc) (m : Nat) (hm : n + 1 ≤ m) (r0 : Tkn) (rest : List Tkn) (hs : Stop r0) (hr0 : sees r0 [sAnd] = false) : ∃ k, (r0 :: rest).length + 1 ≤ k ∧ pC (pNeg pE14 m) (ts ++ r0 :: rest) = pLoop (pJ (pNeg pE14 m)) [sOr] k e.d (r0 :: rest) := by
  by_cases h : x = e.bo :: (c ++ [e.bc])
  · have h1 : pJ (pNeg pE14 m) (ts ++ r0 :: rest) = _ := pL_of (ops := [sAnd]) (wrC_neg hC (.inl h) ht H m hm r0 rest hs)
    rw [loop_stop hr0 (by omega)] at h1
    exact ⟨_, Nat.le_refl _, pL_of h1⟩
  · rcases hw with hw | ⟨rfl, hr⟩
    · exact absurd hw h
    · exact (H m ts (by omega) ht).e r0 rest hs hr0
/-- the first word of an expression -/
theorem head_E : ∀ (e : Ex) (c : List (List Nat)), e.okE = true → RdC e c → ∃ w r, c = w :: r ∧ w ≠ sNot ∧ w ≠ [91]
  | .num z, c, hok, h => by
    cases h
    have : ∀ z ∈ NUMS, digs z ≠ sNot ∧ digs z ≠ [91] := by decide +kernel
    exact ⟨_, _, rfl, this z (of_decide_eq_true hok)⟩
  | .var l, c, hok, h => by
    cases h
    refine ⟨_, _, rfl, fun e => ?_, fun e => ?_⟩
    · subst e; exact absurd hok (by decide)
    · subst e; exact absurd hok (by decide)
  | .neg a, c, hok, h => by
    obtain ⟨ca, x, h1, h2, rfl⟩ := h
    exact ⟨_, _, rfl, by decide, by decide⟩
  | .bin o a b, c, hok, h => by
    obtain ⟨ca, xa, cb, xb, ha1, ha2, hb1, hb2, rfl⟩ := h
    obtain ⟨ho', hoa, hob⟩ := and3 (show (decide (o ∈ OPS) && a.okE && b.okE) = true from hok)
    obtain ⟨w, r, e, h1, h2⟩ := head_E a ca hoa ha1
    obtain ⟨w', r', e', h1', h2'⟩ := wr_head hoa e h1 h2 ha2
    exact ⟨w', _, by rw [e']; rfl, h1', h2'⟩
  | .cmp o a b, c, hok, h => by cases hok
  | .nt a, c, hok, h => by cases hok
  | .con o a b, c, hok, h => by cases hok
where
  wr_head {e : Ex} {least : Nat} {c x r : List (List Nat)} {w : List Nat} (hE : e.okE = true) (hc : c = w :: r) (h1 : w ≠ sNot) (h2 : w ≠ [91]) (hw : Wr e least c x) : ∃ w' r', x = w' :: r' ∧ w' ≠ sNot ∧ w' ≠ [91] := by
    obtain ⟨hbo, hbc⟩ := bars_E hE
    unfold Wr at hw
    rw [hbo, hbc] at hw
    rcases hw with rfl | ⟨rfl, _⟩
    · exact ⟨_, _, rfl, by decide, by decide⟩
    · exact ⟨w, r, hc, h1, h2⟩
theorem coreC_of : ∀ (e : Ex), e.okC = true → ∀ c, RdC e c → ∀ n ts, 2 * e.dep + 1 ≤ n → e.dep ≤ 6 → Tks c ts → CoreC e n ts
  | .num z, hok, c, hc, n, ts, hn, h6, ht => by cases hok
  | .var l, hok, c, hc, n, ts, hn, h6, ht => by cases hok
  | .neg a, hok, c, hc, n, ts, hn, h6, ht => by cases hok
  | .bin o a b, hok, c, hc, n, ts, hn, h6, ht => by cases hok
  | .cmp o a b, hok, c, hc, n, ts, hn, h6, ht => by
    obtain ⟨ca, xa, cb, xb, ha1, ha2, hb1, hb2, rfl⟩ := hc
    obtain ⟨ho', hoa, hob⟩ := and3 (show (decide (o ∈ CMPS) && a.okE && b.okE) = true from hok)
    have ho := of_decide_eq_true ho'
    have ha4 : a.dep ≤ 6 := by simp only [Ex.dep] at h6; omega
    have hb4 : b.dep ≤ 6 := by simp only [Ex.dep] at h6; omega
    obtain ⟨ta, tr, rfl, hta, htr⟩ := tks_app ht
    obtain ⟨t, tb, rfl, hk, hv, htb⟩ := tks_cons htr
    have hkind : ∀ o ∈ CMPS, kW o = .sign ∧ o ∉ MUL ∧ o ∉ ADD := by decide
    obtain ⟨hks, hnm, hna⟩ := hkind o ho
    have s1 : sees t CMPS = true := by rw [sees_of hk hv, hks]; simpa using ho
    have s2 : sees t MUL = false := by rw [sees_of hk hv, hks]; simpa using hnm
    have s3 : sees t ADD = false := by rw [sees_of hk hv, hks]; simpa using hna
    obtain ⟨k, rfl⟩ : ∃ k, n = k + 1 := ⟨n - 1, by omega⟩
    obtain ⟨w0, r0', e0, hw0, hw1⟩ := head_E a ca hoa ha1
    obtain ⟨w, r, ex, hwn, hwb⟩ := head_E.wr_head hoa e0 hw0 hw1 ha2
    obtain ⟨t0, ta', eta, hk0, hv0, _⟩ := tks_cons (ex ▸ hta)
    have n1 : sees t0 [sNot] = false := by rw [sees_of hk0 hv0]; simp; intro _; exact hwn
    have n2 : sees t0 [[91]] = false := by rw [sees_of hk0 hv0]; simp; intro _; exact hwb
    refine ⟨fun _ q0 rest hq => ?_, fun z => absurd (show (3 : Nat) = 2 from z) (by decide), fun z => absurd (show (3 : Nat) = 1 from z) (by decide)⟩
    have e1 : pE14 _ = _ := parse_E (N := 14) (by decide) hoa ha4 ha1 ha2 hta (rest := tb ++ q0 :: rest) s2 s3
    have e2 : pE14 _ = _ := parse_E (N := 14) (by decide) hob hb4 hb1 hb2 htb (rest := rest) hq.1 hq.2
    rw [List.append_assoc, List.cons_append]
    rw [eta] at e1 ⊢
    show pNeg pE14 (k + 1) (t0 :: (ta' ++ t :: (tb ++ q0 :: rest))) = _
    rw [pNeg_s, if_neg (by rw [n1]; decide), if_neg (by rw [n2]; decide)]
    rw [show t0 :: (ta' ++ t :: (tb ++ q0 :: rest)) = (t0 :: ta') ++ t :: (tb ++ q0 :: rest) from rfl, e1]
    show pCmp pE14 a.d (t :: (tb ++ q0 :: rest)) = _
    rw [pCmp_s, if_pos s1, e2, hv]
    rfl
  | .nt a, hok, c, hc, n, ts, hn, h6, ht => by
    obtain ⟨ca, x, h1, h2, rfl⟩ := hc
    obtain ⟨t, ts', rfl, hk, hv, h⟩ := tks_cons ht
    obtain ⟨k, rfl⟩ : ∃ k, n = k + 1 := ⟨n - 1, by omega⟩
    simp only [Ex.dep] at hn h6
    refine ⟨fun _ q0 rest hq => ?_, fun z => absurd (show (3 : Nat) = 2 from z) (by decide), fun z => absurd (show (3 : Nat) = 1 from z) (by decide)⟩
    have hs : sees t [sNot] = true := by rw [sees_of hk hv]; decide
    show pNeg pE14 (k + 1) (t :: (ts' ++ q0 :: rest)) = _
    rw [pNeg_s, if_pos hs, wrC_neg (e := a) hok h2 h (fun m tc hm htc => coreC_of a hok ca h1 m tc hm (by omega) htc) k (by omega) q0 rest hq]
    rfl
  | .con o a b, hok, c, hc, n, ts, hn, h6, ht => by
    obtain ⟨ca, xa, cb, xb, ha1, ha2, hb1, hb2, rfl⟩ := hc
    obtain ⟨ho', hoa, hob⟩ := and3 (show (decide (o ∈ CONS) && a.okC && b.okC) = true from hok)
    have ho := of_decide_eq_true ho'
    simp only [Ex.dep] at hn h6
    obtain ⟨ta, tr, rfl, hta, htr⟩ := tks_app ht
    obtain ⟨t, tb, rfl, hk, hv, htb⟩ := tks_cons htr
    have HA := fun m tc (hm : 2 * a.dep + 1 ≤ m) (htc : Tks ca tc) => coreC_of a hoa ca ha1 m tc hm (by omega) htc
    have HB := fun m tc (hm : 2 * b.dep + 1 ≤ m) (htc : Tks cb tc) => coreC_of b hob cb hb1 m tc hm (by omega) htc
    have hkind : ∀ o ∈ CONS, kW o = .sign ∧ o ∉ MUL ∧ o ∉ ADD := by decide
    obtain ⟨hks, hnm, hna⟩ := hkind o ho
    have st : Stop t := ⟨by rw [sees_of hk hv, hks]; simpa using hnm, by rw [sees_of hk hv, hks]; simpa using hna⟩
    by_cases hor : o = sOr
    · have hrk : rankC o = 1 := by unfold rankC; rw [if_pos hor]
      rw [hrk] at ha2 hb2
      have s1 : sees t [sOr] = true := by rw [sees_of hk hv, hks]; simpa using hor
      have s2 : sees t [sAnd] = false := by rw [sees_of hk hv, hks, hor]; decide
      refine ⟨fun z => ?_, fun z => ?_, fun _ r0 rest hs hr0 => ?_⟩
      · rw [show (Ex.con o a b).rk = rankC o from rfl, hrk] at z; cases z
      · rw [show (Ex.con o a b).rk = rankC o from rfl, hrk] at z; cases z
      obtain ⟨m1, hm1, e1⟩ := wrC_e hoa ha2 hta HA n (by omega) t (tb ++ r0 :: rest) st s2
      obtain ⟨m2, hm2, e2⟩ := wrC_t hob hb2 htb HB n (by omega) r0 rest hs
      rw [loop_stop hr0 (by omega)] at e2
      obtain ⟨m1', rfl⟩ : ∃ k, m1 = k + 1 := ⟨m1 - 1, by omega⟩
      rw [loop_go s1 e2] at e1
      refine ⟨m1', by simp at hm1 ⊢; omega, ?_⟩
      rw [List.append_assoc, List.cons_append, e1, hv]
      rfl
    · have hrk : rankC o = 2 := by unfold rankC; rw [if_neg hor]
      rw [hrk] at ha2 hb2
      have hand : o = sAnd := by
        have : ∀ o ∈ CONS, o ≠ sOr → o = sAnd := by decide
        exact this o ho hor
      have s1 : sees t [sAnd] = true := by rw [sees_of hk hv, hks]; simpa using hand
      refine ⟨fun z => ?_, fun _ r0 rest hs => ?_, fun z => ?_⟩
      · rw [show (Ex.con o a b).rk = rankC o from rfl, hrk] at z; cases z
      · obtain ⟨m1, hm1, e1⟩ := wrC_t hoa ha2 hta HA n (by omega) t (tb ++ r0 :: rest) st
        have e2 := wrC_neg hob hb2 htb HB n (by omega) r0 rest hs
        obtain ⟨m1', rfl⟩ : ∃ k, m1 = k + 1 := ⟨m1 - 1, by omega⟩
        rw [loop_go s1 e2] at e1
        refine ⟨m1', by simp at hm1 ⊢; omega, ?_⟩
        rw [List.append_assoc, List.cons_append, e1, hv]
        rfl
      · rw [show (Ex.con o a b).rk = rankC o from rfl, hrk] at z; cases z
theorem parse_C {e : Ex} {ws : List (List Nat)} {ts : List Tkn} {r0 : Tkn} (hok : e.okC = true) (hd : e.dep ≤ 6) (hr : Rd e 1 ws) (ht : Tks ws ts) (h0 : r0.k = .fin) : pC (pNeg pE14 41) (ts ++ [r0]) = some (.ok (e.d, [r0])) := by
  obtain ⟨c, hc, hw⟩ := hr
  have s1 : ∀ gs, sees r0 gs = false := fun gs => by unfold sees; rw [h0]; rfl
  obtain ⟨k, hk, h⟩ := wrC_e hok hw ht (fun m tc hm htc => coreC_of e hok c hc m tc hm hd htc) 41 (by omega) r0 [] ⟨s1 _, s1 _⟩ (s1 _)
  rw [h, loop_stop (s1 _) (by omega)]
/-! ### the text gives the tokens -/
def SGW : List (List Nat) := [[43], [45], [42], [47, 47], [40], [41], [91], [93], [61], [33, 61], [60], [60, 61], [62], [62, 61]]
def okW (w : List Nat) : Prop := isName w = true ∨ w ∈ WRDS ∨ (isNum w = true) ∨ w ∈ SGW
theorem run_app {g w t : List Nat} (h1 : ∀ c ∈ w, c ∈ g) (h2 : ∀ c, t.head? = some c → c ∉ g) : runOf g (w ++ t) = w := by
  unfold runOf
  rw [List.takeWhile_append_of_pos (by simpa using h1)]
  cases t with
  | nil => simp
  | cons c r => rw [List.takeWhile_cons, if_neg (by simpa using h2 c rfl)]; simp
/-- t' cannot go on the word w -/
def Cut (w t : List Nat) : Prop := ∀ c, t.head? = some c → (c ∈ LET → ∃ x, w.getLast? = some x ∧ x ∉ LET) ∧ (c ∈ FIG → ∃ x, w.getLast? = some x ∧ x ∉ FIG) ∧ (c = 61 → w ≠ [60] ∧ w ≠ [62])
theorem num_facts {w : List Nat} (h : isNum w = true) : 0 < w.length ∧ w.length ≤ 30 ∧ (∀ c ∈ w, c ∈ FIG) := by
  unfold isNum at h
  simp only [Bool.and_eq_true, decide_eq_true_eq, List.all_eq_true] at h
  exact ⟨h.1.1.1, h.1.1.2, h.1.2⟩
theorem let_fig : ∀ c ∈ FIG, c ∉ LET := by decide
theorem last_mem {w : List Nat} (h : 0 < w.length) : ∃ x, w.getLast? = some x ∧ x ∈ w := by
  cases e : w.getLast? with
  | none => rw [List.getLast?_eq_none_iff] at e; subst e; simp at h
  | some x => exact ⟨x, rfl, List.mem_of_getLast? e⟩
theorem tokA_letw {w t : List Nat} {s : Nat} (h0 : 0 < w.length) (h1 : ∀ c ∈ w, c ∈ LET) (hc : Cut w t) : tokA (w ++ t) s = (⟨if w ∈ WRDS then .sign else if isName w then .name else .odd, w, s⟩, w.length) := by
  obtain ⟨x, hx, hxm⟩ := last_mem h0
  have hr : runOf LET (w ++ t) = w := run_app h1 fun c hh hl => by
    obtain ⟨y, hy, hn⟩ := (hc c hh).1 hl
    rw [hx] at hy
    cases hy
    exact hn (h1 x hxm)
  cases w with
  | nil => simp at h0
  | cons a r =>
    have := tokA_let (s := s) (r := (a :: r) ++ t) (c := a) (t := r ++ t) rfl (h1 a List.mem_cons_self)
    rw [hr] at this
    exact this
theorem tokA_word {w t : List Nat} {s : Nat} (hw : okW w) (hc : Cut w t) : tokA (w ++ t) s = (⟨kW w, w, s⟩, w.length) := by
  rcases hw with h | h | h | h
  · obtain ⟨h1, h2, h3, h4, h5⟩ := name_kw h
    rw [tokA_letw (by omega) h4 hc, if_neg h5, if_pos h, h1]
  · have hh : ∀ w ∈ WRDS, 0 < w.length ∧ (∀ c ∈ w, c ∈ LET) ∧ kW w = .sign := by decide
    obtain ⟨h1, h2, h3⟩ := hh w h
    rw [tokA_letw h1 h2 hc, if_pos h, h3]
  · obtain ⟨h1, h2, h3⟩ := num_facts h
    obtain ⟨x, hx, hxm⟩ := last_mem h1
    have hr : runOf FIG (w ++ t) = w := run_app h3 fun c hh hl => by
      obtain ⟨y, hy, hn⟩ := (hc c hh).2.1 hl
      rw [hx] at hy
      cases hy
      exact hn (h3 x hxm)
    cases w with
    | nil => simp at h1
    | cons a r =>
      have haf := h3 a List.mem_cons_self
      have := tokA_fig (s := s) (r := (a :: r) ++ t) (c := a) (t := r ++ t) rfl (let_fig a haf) haf
      rw [hr, if_pos h] at this
      rw [this]
      have hk : kW (a :: r) = .integer := by
        unfold kW
        rw [if_neg (by simpa using let_fig a haf), if_pos (by simpa using haf)]
      rw [hk]
  · simp only [SGW, List.mem_cons, List.not_mem_nil, or_false] at h
    rcases h with rfl | rfl | rfl | rfl | rfl | rfl | rfl | rfl | rfl | rfl | rfl | rfl | rfl | rfl
    · refine (tokA_sgn (c := 43) (t := t) rfl (by decide) (by decide)).trans ?_; simp [SGNS, List.find?]; decide
    · refine (tokA_sgn (c := 45) (t := t) rfl (by decide) (by decide)).trans ?_; simp [SGNS, List.find?]; decide
    · refine (tokA_sgn (c := 42) (t := t) rfl (by decide) (by decide)).trans ?_; simp [SGNS, List.find?]; decide
    · refine (tokA_sgn (c := 47) (t := 47 :: t) rfl (by decide) (by decide)).trans ?_; simp [SGNS, List.find?]; decide
    · refine (tokA_sgn (c := 40) (t := t) rfl (by decide) (by decide)).trans ?_; simp [SGNS, List.find?]; decide
    · refine (tokA_sgn (c := 41) (t := t) rfl (by decide) (by decide)).trans ?_; simp [SGNS, List.find?]; decide
    · refine (tokA_sgn (c := 91) (t := t) rfl (by decide) (by decide)).trans ?_; simp [SGNS, List.find?]; decide
    · refine (tokA_sgn (c := 93) (t := t) rfl (by decide) (by decide)).trans ?_; simp [SGNS, List.find?]; decide
    · refine (tokA_sgn (c := 61) (t := t) rfl (by decide) (by decide)).trans ?_; simp [SGNS, List.find?]; decide
    · refine (tokA_sgn (c := 33) (t := 61 :: t) rfl (by decide) (by decide)).trans ?_; simp [SGNS, List.find?]; decide
    · cases t with
      | nil => refine (tokA_sgn (c := 60) (t := []) rfl (by decide) (by decide)).trans ?_; simp [SGNS, List.find?]; decide
      | cons c r =>
        have hc61 : c ≠ 61 := fun e => absurd rfl ((hc c rfl).2.2 e).1
        refine (tokA_sgn (c := 60) (t := c :: r) rfl (by decide) (by decide)).trans ?_; simp [SGNS, List.find?, hc61]; decide
    · refine (tokA_sgn (c := 60) (t := 61 :: t) rfl (by decide) (by decide)).trans ?_; simp [SGNS, List.find?]; decide
    · cases t with
      | nil => refine (tokA_sgn (c := 62) (t := []) rfl (by decide) (by decide)).trans ?_; simp [SGNS, List.find?]; decide
      | cons c r =>
        have hc61 : c ≠ 61 := fun e => absurd rfl ((hc c rfl).2.2 e).2
        refine (tokA_sgn (c := 62) (t := c :: r) rfl (by decide) (by decide)).trans ?_; simp [SGNS, List.find?, hc61]; decide
    · refine (tokA_sgn (c := 62) (t := 61 :: t) rfl (by decide) (by decide)).trans ?_; simp [SGNS, List.find?]; decide
theorem okW_head {w : List Nat} (hw : okW w) : ∃ c r, w = c :: r ∧ c ≠ 32 := by
  have n32 : ∀ {c : Nat}, c ∈ LET → c ≠ 32 := fun h e => by subst e; exact absurd h (by decide)
  have f32 : ∀ {c : Nat}, c ∈ FIG → c ≠ 32 := fun h e => by subst e; exact absurd h (by decide)
  rcases hw with h | h | h | h
  · obtain ⟨h1, h2, h3, h4, h5⟩ := name_kw h
    cases w with
    | nil => simp at h3
    | cons c r => exact ⟨c, r, rfl, n32 (h4 c List.mem_cons_self)⟩
  · have hh : ∀ w ∈ WRDS, 0 < w.length ∧ (∀ c ∈ w, c ∈ LET) ∧ kW w = .sign := by decide
    obtain ⟨h1, h2, h3⟩ := hh w h
    cases w with
    | nil => simp at h1
    | cons c r => exact ⟨c, r, rfl, n32 (h2 c List.mem_cons_self)⟩
  · obtain ⟨h1, h2, h3⟩ := num_facts h
    cases w with
    | nil => simp at h1
    | cons c r => exact ⟨c, r, rfl, f32 (h3 c List.mem_cons_self)⟩
  · simp only [SGW, List.mem_cons, List.not_mem_nil, or_false] at h
    rcases h with rfl | rfl | rfl | rfl | rfl | rfl | rfl | rfl | rfl | rfl | rfl | rfl | rfl | rfl <;> exact ⟨_, _, rfl, by decide⟩
theorem run_spaces {n : Nat} {t : List Nat} (h : ∀ c, t.head? = some c → c ≠ 32) : (runOf [32] (List.replicate n 32 ++ t)).length = n := by
  rw [run_app (fun c hc => by simpa using (List.mem_replicate.mp hc).2) (fun c hc hm => h c hc (by simpa using hm)), List.length_replicate]
theorem spl_cut : ∀ {w : List Nat} {ws : List (List Nat)} {t : List Nat}, okW w → (∀ x ∈ ws, okW x) → Spl (some w) ws t → Cut w t
  | w, [], t, hw, _, h => fun c hc => by
    have : c = 32 := h c (List.mem_of_head? hc)
    subst this
    exact ⟨fun z => absurd z (by decide), fun z => absurd z (by decide), fun z => absurd z (by decide)⟩
  | w, w2 :: ws, t, hw, hws, h => fun c hc => by
    obtain ⟨n, t', rfl, hg, _⟩ := h
    cases n with
    | succ n =>
      cases hc
      exact ⟨fun z => absurd z (by decide), fun z => absurd z (by decide), fun z => absurd z (by decide)⟩
    | zero =>
      obtain ⟨c2, r, rfl, _⟩ := okW_head (hws w2 List.mem_cons_self)
      cases hc
      have hng : ¬ grows w (c :: r) = true := fun z => absurd (hg w rfl z) (by decide)
      obtain ⟨a, ra, rfl, _⟩ := okW_head hw
      obtain ⟨x, hx, _⟩ := last_mem (w := a :: ra) (by simp)
      refine ⟨fun hl => ⟨x, hx, fun hxl => hng ?_⟩, fun hl => ⟨x, hx, fun hxl => hng ?_⟩, fun h61 => ⟨fun he => hng ?_, fun he => hng ?_⟩⟩
      · unfold grows; rw [hx]; simp [hxl, hl]
      · unfold grows; rw [hx]; simp [hxl, hl]
      · unfold grows; rw [he, h61]; simp
      · unfold grows; rw [he, h61]; simp
theorem tok_text : ∀ (ws : List (List Nat)) (prev : Option (List Nat)) (t : List Nat), (∀ w ∈ ws, okW w) → Spl prev ws t → ∀ n s, t.length < n → ∃ ts r0, tokL n t s = ts ++ [r0] ∧ Tks ws ts ∧ r0.k = .fin
  | [], prev, t, _, h, n, s, hn => by
    obtain ⟨n, rfl⟩ : ∃ k, n = k + 1 := ⟨n - 1, by omega⟩
    have ht : t = List.replicate t.length 32 := List.eq_replicate_iff.mpr ⟨rfl, h⟩
    have hr : (runOf [32] t).length = t.length := by
      have := @run_spaces t.length [] (by simp)
      rw [List.append_nil, ← ht] at this
      exact this
    exact ⟨[], ⟨.fin, [], s + t.length⟩, tokL_nil hr (List.drop_length ..), rfl, rfl⟩
  | w :: ws, prev, t, hok, h, n, s, hn => by
    obtain ⟨m, t', rfl, hg, hsp⟩ := h
    obtain ⟨n, rfl⟩ : ∃ k, n = k + 1 := ⟨n - 1, by omega⟩
    have hw := hok w List.mem_cons_self
    obtain ⟨c, r, rfl, hc⟩ := okW_head hw
    have hr : (runOf [32] (List.replicate m 32 ++ ((c :: r) ++ t'))).length = m := run_spaces (fun x hx => by cases hx; exact hc)
    have hd : (List.replicate m 32 ++ ((c :: r) ++ t')).drop m = c :: (r ++ t') := by
      rw [List.drop_append, List.length_replicate, Nat.sub_self]
      simp
    have hcut := spl_cut hw (fun x hx => hok x (List.mem_cons_of_mem _ hx)) hsp
    have hta := tokA_word (s := s + m) hw hcut
    have hst := tokL_cons (n := n) (s := s) hr hd
    rw [show c :: (r ++ t') = (c :: r) ++ t' from rfl, hta] at hst
    have hno : kW (c :: r) ≠ .odd := by unfold kW; split <;> (try split) <;> decide
    obtain ⟨ts, r0, e, h1, h2⟩ := tok_text ws (some (c :: r)) t' (fun x hx => hok x (List.mem_cons_of_mem _ hx)) hsp n (s + m + (c :: r).length) (by simp at hn; omega)
    refine ⟨⟨kW (c :: r), c :: r, s + m⟩ :: ts, r0, ?_, ?_, h2⟩
    · rw [hst, if_neg hno, List.drop_left, e]
      rfl
    · show (_, _) :: ts.map _ = (_, _) :: ws.map _
      rw [show ts.map (fun t => (t.k, t.v)) = ws.map (fun w => (kW w, w)) from h1]
theorem wr_okW {e : Ex} {least : Nat} {c x : List (List Nat)} (h : ∀ w ∈ c, okW w) (hw : Wr e least c x) : ∀ w ∈ x, okW w := by
  have hb : okW e.bo ∧ okW e.bc := by
    cases e <;> first | exact ⟨.inr (.inr (.inr (show [40] ∈ SGW by decide))), .inr (.inr (.inr (show [41] ∈ SGW by decide)))⟩ | exact ⟨.inr (.inr (.inr (show [91] ∈ SGW by decide))), .inr (.inr (.inr (show [93] ∈ SGW by decide)))⟩
  intro w hm
  rcases hw with rfl | ⟨rfl, _⟩
  · rcases List.mem_cons.mp hm with rfl | hm
    · exact hb.1
    · rcases List.mem_append.mp hm with hm | hm
      · exact h w hm
      · rw [List.mem_singleton] at hm
        subst hm
        exact hb.2
  · exact h w hm
theorem op_okW {o : List Nat} (h : o ∈ OPS ∨ o ∈ CMPS ∨ o ∈ CONS) : okW o := by
  have h1 : ∀ o ∈ OPS, o ∈ WRDS ∨ o ∈ SGW := by decide
  have h2 : ∀ o ∈ CMPS, o ∈ WRDS ∨ o ∈ SGW := by decide
  have h3 : ∀ o ∈ CONS, o ∈ WRDS ∨ o ∈ SGW := by decide
  rcases h with h | h | h
  · exact .inr ((h1 o h).imp id .inr)
  · exact .inr ((h2 o h).imp id .inr)
  · exact .inr ((h3 o h).imp id .inr)
theorem three_okW {o : List Nat} {xa xb : List (List Nat)} (ho : okW o) (ha : ∀ w ∈ xa, okW w) (hb : ∀ w ∈ xb, okW w) : ∀ w ∈ xa ++ o :: xb, okW w := by
  intro w hw
  rcases List.mem_append.mp hw with hw | hw
  · exact ha w hw
  · rcases List.mem_cons.mp hw with rfl | hw
    · exact ho
    · exact hb w hw
theorem rdc_okW : ∀ (e : Ex) (c : List (List Nat)), e.ok = true → RdC e c → ∀ w ∈ c, okW w
  | .num z, c, hok, h, w, hw => by
    cases h
    rw [List.mem_singleton] at hw
    subst hw
    exact .inr (.inr (.inl (num_int (ok_num hok)).2.2.2.1))
  | .var l, c, hok, h, w, hw => by
    cases h
    rw [List.mem_singleton] at hw
    subst hw
    exact .inl (ok_var hok)
  | .neg a, c, hok, h, w, hw => by
    obtain ⟨ca, x, h1, h2, rfl⟩ := h
    rcases List.mem_cons.mp hw with rfl | hw
    · exact .inr (.inr (.inr (by decide)))
    · exact wr_okW (rdc_okW a ca (okE_ok (ok_neg hok)) h1) h2 w hw
  | .nt a, c, hok, h, w, hw => by
    obtain ⟨ca, x, h1, h2, rfl⟩ := h
    rcases List.mem_cons.mp hw with rfl | hw
    · exact .inr (.inl (by decide))
    · exact wr_okW (rdc_okW a ca (okC_ok (ok_nt hok)) h1) h2 w hw
  | .bin o a b, c, hok, h, w, hw => by
    obtain ⟨ca, xa, cb, xb, ha1, ha2, hb1, hb2, rfl⟩ := h
    obtain ⟨ho, hoa, hob⟩ := ok_bin hok
    exact three_okW (op_okW (.inl ho)) (wr_okW (rdc_okW a ca (okE_ok hoa) ha1) ha2) (wr_okW (rdc_okW b cb (okE_ok hob) hb1) hb2) w hw
  | .cmp o a b, c, hok, h, w, hw => by
    obtain ⟨ca, xa, cb, xb, ha1, ha2, hb1, hb2, rfl⟩ := h
    obtain ⟨ho, hoa, hob⟩ := ok_cmp hok
    exact three_okW (op_okW (.inr (.inl ho))) (wr_okW (rdc_okW a ca (okE_ok hoa) ha1) ha2) (wr_okW (rdc_okW b cb (okE_ok hob) hb1) hb2) w hw
  | .con o a b, c, hok, h, w, hw => by
    obtain ⟨ca, xa, cb, xb, ha1, ha2, hb1, hb2, rfl⟩ := h
    obtain ⟨ho, hoa, hob⟩ := ok_con hok
    exact three_okW (op_okW (.inr (.inr ho))) (wr_okW (rdc_okW a ca (okC_ok hoa) ha1) ha2) (wr_okW (rdc_okW b cb (okC_ok hob) hb1) hb2) w hw
theorem okW_len {w : List Nat} (h : okW w) : 0 < w.length ∧ w.length ≤ 100 := by
  rcases h with h | h | h | h
  · obtain ⟨h1, h2, h3, h4, h5⟩ := name_kw h; omega
  · have hh : ∀ w ∈ WRDS, 0 < w.length ∧ w.length ≤ 100 := by decide
    exact hh w h
  · obtain ⟨h1, h2, h3⟩ := num_facts h; omega
  · have hh : ∀ w ∈ SGW, 0 < w.length ∧ w.length ≤ 100 := by decide
    exact hh w h
theorem rd_okW {e : Ex} {n : Nat} {ws : List (List Nat)} (hok : e.ok = true) (h : Rd e n ws) : ∀ w ∈ ws, okW w := by
  obtain ⟨c, hc, hw⟩ := h
  exact wr_okW (rdc_okW e c hok hc) hw
theorem text_parsed {e : Ex} {ws : List (List Nat)} {t : List Nat} (hok : e.okC = true) (hd : e.dep ≤ 6) (hr : Rd e 1 ws) (hs : Spl none ws t) : ∃ r0, pC (pNeg pE14 41) (toks t) = some (.ok (e.d, [r0])) ∧ r0.k = .fin := by
  obtain ⟨ts, r0, h1, h2, h3⟩ := tok_text ws none t (rd_okW (okC_ok hok) hr) hs (t.length + 1) 0 (by omega)
  refine ⟨r0, ?_, h3⟩
  unfold toks
  rw [h1]
  exact parse_C hok hd hr h2 h3
end K07

set_option Elab.async false
set_option linter.all false
set_option maxRecDepth 100000
set_option maxHeartbeats 4000000
namespace K07
open PySem PySem.Spec PyProof.Rows L2 DL
/-! ### the trees as the library's data -/
theorem ex_pl : ∀ e : Ex, e.d.pl = true
  | .num z => rfl
  | .var l => rfl
  | .neg a => by simp [Ex.d, D.pl, plL, ex_pl a]
  | .nt a => by simp [Ex.d, D.pl, plL, ex_pl a]
  | .bin o a b => by simp [Ex.d, D.pl, plL, ex_pl a, ex_pl b]
  | .cmp o a b => by simp [Ex.d, D.pl, plL, ex_pl a, ex_pl b]
  | .con o a b => by simp [Ex.d, D.pl, plL, ex_pl a, ex_pl b]
def lowS (l : List Nat) : Prop := ∀ c ∈ l, c < 128
theorem strOk_S {l : List Nat} (h : lowS l) : PyData.strOk (S l) = true := by
  unfold PyData.strOk
  rw [← Array.all_toList, S_l, List.all_eq_true]
  intro c hc
  have := h c hc
  simp; omega
theorem name_low {l : List Nat} (h : isName l = true) : lowS l := fun c hc => by
  have h1 := (name_kw h).2.2.2.1 c hc
  have h2 : ∀ c ∈ LET, c < 128 := by decide
  exact h2 c h1
theorem op_low {o : List Nat} (h : o ∈ OPS ++ CMPS ++ CONS) : lowS o ∧ o.length ≤ 3 := by
  have : ∀ o ∈ OPS ++ CMPS ++ CONS, (∀ c ∈ o, c < 128) ∧ o.length ≤ 3 := by decide
  exact this o h
theorem num_show {z : Int} (h : z ∈ NUMS) : (toString z : Str).length ≤ 31 := by
  have : ∀ z ∈ NUMS, (toString z : Str).length ≤ 31 := by decide +kernel
  exact this z h
theorem repr_low {l : List Nat} (h : lowS l) : (reprText (S l)).length ≤ 10 * l.length + 2 := by
  have := StrLaws.reprText_len (S l) (fun c hc => by rw [S_l] at hc; have := h c hc; omega)
  rw [S_len] at this
  exact this
structure ExPy (e : Ex) : Prop where
  lay : e.d.py.canLay0 = true
  dep : e.d.py.depth ≤ e.dep + 1
  shw : e.d.py.showable = true
  len : e.d.py.shown.length ≤ 300 * e.size
theorem tup2 {a b : PyData} {n m : Nat} (ha : a.shown.length ≤ n) (hb : b.shown.length ≤ m) : (PyData.tuple [a, b]).shown.length ≤ n + m + 7 := by
  have := tupleText_len_le [a.shown, b.shown]
  simp only [List.map_cons, List.map_nil, List.sum_cons, List.sum_nil, List.length_cons, List.length_nil] at this
  simp only [PyData.shown, PyData.shownAll]
  omega
theorem tup3 {a b c : PyData} {n m k : Nat} (ha : a.shown.length ≤ n) (hb : b.shown.length ≤ m) (hc : c.shown.length ≤ k) : (PyData.tuple [a, b, c]).shown.length ≤ n + m + k + 9 := by
  have := tupleText_len_le [a.shown, b.shown, c.shown]
  simp only [List.map_cons, List.map_nil, List.sum_cons, List.sum_nil, List.length_cons, List.length_nil] at this
  simp only [PyData.shown, PyData.shownAll]
  omega
theorem py_one {w : List Nat} {e a : Ex} (h1 : lowS w) (h2 : w.length ≤ 6) (he : e.d = .tup [.str (S w), a.d]) (hd : e.dep = a.dep + 1) (hs : e.size = a.size + 1) (A : ExPy a) : ExPy e := by
  obtain ⟨p1, p2, p3, p4⟩ := A
  refine ⟨?_, ?_, ?_, ?_⟩ <;> rw [he]
  · simp [D.py, pyL, PyData.canLay0, PyData.canLayAll0, strOk_S h1, p1]
  · simp [D.py, pyL, PyData.depth, PyData.depthAll, hd]; omega
  · simp [D.py, pyL, PyData.showable, PyData.showableAll, p3]
  · have := tup2 (a := .str (S w)) (b := a.d.py) (n := 62) (m := 300 * a.size) (by have := repr_low h1; simp only [PyData.shown]; omega) p4
    show (PyData.tuple [.str (S w), a.d.py]).shown.length ≤ 300 * e.size
    omega
theorem py_two {w : List Nat} {e a b : Ex} (h1 : lowS w) (h2 : w.length ≤ 6) (he : e.d = .tup [.str (S w), a.d, b.d]) (hd : e.dep = max a.dep b.dep + 1) (hs : e.size = a.size + b.size + 1) (A : ExPy a) (B : ExPy b) : ExPy e := by
  obtain ⟨p1, p2, p3, p4⟩ := A
  obtain ⟨q1, q2, q3, q4⟩ := B
  refine ⟨?_, ?_, ?_, ?_⟩ <;> rw [he]
  · simp [D.py, pyL, PyData.canLay0, PyData.canLayAll0, strOk_S h1, p1, q1]
  · simp [D.py, pyL, PyData.depth, PyData.depthAll, hd]; omega
  · simp [D.py, pyL, PyData.showable, PyData.showableAll, p3, q3]
  · have := tup3 (a := .str (S w)) (b := a.d.py) (c := b.d.py) (n := 62) (m := 300 * a.size) (k := 300 * b.size) (by have := repr_low h1; simp only [PyData.shown]; omega) p4 q4
    show (PyData.tuple [.str (S w), a.d.py, b.d.py]).shown.length ≤ 300 * e.size
    omega
theorem ex_py : ∀ e : Ex, e.ok = true → ExPy e
  | .num z, hok => by
    have hz : z ∈ NUMS := ok_num hok
    have h1 : lowS sNumber := by unfold lowS; decide
    refine ⟨?_, ?_, ?_, ?_⟩
    · simp [Ex.d, D.py, pyL, PyData.canLay0, PyData.canLayAll0, strOk_S h1]
    · simp [Ex.d, D.py, pyL, PyData.depth, PyData.depthAll]
    · simp [Ex.d, D.py, pyL, PyData.showable, PyData.showableAll, num_bits hz]
    · have := tup2 (a := .str (S sNumber)) (b := .int z) (n := 62) (m := 31) (by have := repr_low h1; simpa [PyData.shown, sNumber] using this) (by simpa [PyData.shown] using num_show hz)
      show (PyData.tuple [.str (S sNumber), .int z]).shown.length ≤ 300 * 1
      omega
  | .var l, hok => by
    have h1 : lowS sVariable := by unfold lowS; decide
    have h2 := name_low (ok_var hok)
    have h3 := (name_kw (ok_var hok)).2.1
    refine ⟨?_, ?_, ?_, ?_⟩
    · simp [Ex.d, D.py, pyL, PyData.canLay0, PyData.canLayAll0, strOk_S h1, strOk_S h2]
    · simp [Ex.d, D.py, pyL, PyData.depth, PyData.depthAll]
    · simp [Ex.d, D.py, pyL, PyData.showable, PyData.showableAll]
    · have := tup2 (a := .str (S sVariable)) (b := .str (S l)) (n := 82) (m := 82) (by have := repr_low h1; simpa [PyData.shown, sVariable] using this) (by have := repr_low h2; simp only [PyData.shown]; omega)
      show (PyData.tuple [.str (S sVariable), .str (S l)]).shown.length ≤ 300 * 1
      omega
  | .neg a, hok => py_one (w := sNegate) (by unfold lowS; decide) (by decide) rfl rfl rfl (ex_py a (okE_ok (ok_neg hok)))
  | .nt a, hok => py_one (w := sNot) (by unfold lowS; decide) (by decide) rfl rfl rfl (ex_py a (okC_ok (ok_nt hok)))
  | .bin o a b, hok => by
    obtain ⟨ho, ha, hb⟩ := ok_bin hok
    obtain ⟨h1, h2⟩ := op_low (o := o) (by simp [ho])
    exact py_two h1 (by omega) rfl rfl rfl (ex_py a (okE_ok ha)) (ex_py b (okE_ok hb))
  | .cmp o a b, hok => by
    obtain ⟨ho, ha, hb⟩ := ok_cmp hok
    obtain ⟨h1, h2⟩ := op_low (o := o) (by simp [ho])
    exact py_two h1 (by omega) rfl rfl rfl (ex_py a (okE_ok ha)) (ex_py b (okE_ok hb))
  | .con o a b, hok => by
    obtain ⟨ho, ha, hb⟩ := ok_con hok
    obtain ⟨h1, h2⟩ := op_low (o := o) (by simp [ho])
    exact py_two h1 (by omega) rfl rfl rfl (ex_py a (okC_ok ha)) (ex_py b (okC_ok hb))
theorem ex_lo : ∀ (e : Ex) (m : Nat), e.d.lo m = true
  | .num z, m => rfl
  | .var l, m => rfl
  | .neg a, m => by simp [Ex.d, D.lo, loL, ex_lo a]
  | .nt a, m => by simp [Ex.d, D.lo, loL, ex_lo a]
  | .bin o a b, m => by simp [Ex.d, D.lo, loL, ex_lo a, ex_lo b]
  | .cmp o a b, m => by simp [Ex.d, D.lo, loL, ex_lo a, ex_lo b]
  | .con o a b, m => by simp [Ex.d, D.lo, loL, ex_lo a, ex_lo b]
theorem ex_vw (e : Ex) (γ : Ga) : vw γ e.d = e.d := by cases e <;> rfl
theorem ex_ref (e : Ex) {K : Frag} {H : Hp} {α : Al} {v : V} (r : Rp K H α v e.d) : ∃ a, v = .ref a := by
  cases e <;> (cases r; exact ⟨_, rfl⟩)
end K07

set_option Elab.async false
set_option linter.all false
set_option maxRecDepth 100000
set_option maxHeartbeats 4000000
namespace K07
open PySem PySem.Spec PyProof.Rows L2 DL
local macro_rules | `(tactic| walk_at "GO") => `(tactic| repeat' (first | with_reducible refine xs_seq ?_ | with_reducible refine xs_set ?_ | with_reducible refine xs_asg ?_ | with_reducible refine xs_if ?_ | with_reducible refine xs_ret ?_ | with_reducible refine xs_next ?_ | with_reducible refine xs_expr ?_ | with_reducible refine xs_fld ?_ | with_reducible refine xs_par ?_ | with_reducible refine xs_retN ?_ | with_reducible refine xs_brk ?_ | with_reducible refine xp_nil ?_ | with_reducible refine xp_cons ?_ | with_reducible refine xe_disp ?_ | with_reducible refine de_dget2 ?_ | with_reducible refine xs_cont ?_ | with_reducible refine da_nil ?_ | with_reducible refine da_cons ?_ | with_reducible refine de_int ?_ | with_reducible refine de_str ?_ | with_reducible refine de_bl ?_ | with_reducible refine de_non ?_ | with_reducible refine de_ty ?_ | ((with_reducible refine xe_var ?_); refine ⟨_, rfl, ?_⟩) | with_reducible refine de_op ?_ | with_reducible refine de_un ?_ | with_reducible refine de_call ?_ | with_reducible refine de_cb ?_ | with_reducible refine de_sl ?_ | with_reducible refine do_none ?_ | with_reducible refine do_some ?_ | with_reducible refine de_if ?_ | with_reducible refine de_andV ?_ | with_reducible refine de_orV ?_ | with_reducible refine de_notV ?_ | with_reducible refine de_chain ?_ | with_reducible refine dt_test ?_ | with_reducible refine dt_B ?_ | with_reducible refine dt_and ?_ | with_reducible refine dt_or ?_ | with_reducible refine dt_not ?_ | (with_reducible refine xe_tup ?_) | (with_reducible refine xe_lst ?_) | (with_reducible refine xe_lstM ?_) | with_reducible refine q_COMPARISONS (by assumption) ?_ | (with_reducible refine de_meth ?_) | (with_reducible refine de_bm ?_) | (with_reducible refine de_bm0 ?_) | (with_reducible refine ⟨isTy_str, ?_⟩) | (with_reducible refine ⟨xty_lst ⟨_, rfl⟩, ?_⟩) | with_reducible refine radd_int ?_ | with_reducible refine radd_S ?_ ?_ | with_reducible refine rsub_int ?_ | with_reducible refine req_int ?_ | with_reducible refine rne_int ?_ | with_reducible refine req_S ?_ | with_reducible refine rne_S ?_ | with_reducible refine rlt_int ?_ | with_reducible refine rle_int ?_ | with_reducible refine rgt_int ?_ | with_reducible refine rge_int ?_ | with_reducible refine rneg_int ?_ | with_reducible refine rin_sgn ?_ | with_reducible refine rni_sgn ?_ | with_reducible refine rc_len_S ?_ ?_ | with_reducible refine rc_int_bl ?_ | with_reducible refine rc_str_int ?_ ?_ | with_reducible refine rc_str_str ?_ | with_reducible refine rc_max2 ?_ | ((with_reducible refine xc_isi ?_); refine ⟨_, true, rfl, rfl, ?_⟩) | ((with_reducible refine xc_isi ?_); refine ⟨_, false, rfl, rfl, ?_⟩) | with_reducible refine di_str ?_ | with_reducible refine di_list ?_ | with_reducible refine di_tup ?_ | with_reducible refine di_rng1 ?_ | with_reducible refine di_rng2 ?_ | with_reducible refine ift ?_ | with_reducible refine iff_ ?_ | with_reducible refine ifnt ?_ | with_reducible refine ifnf ?_ | with_reducible refine rin_strs (.inr rfl) ?_ | with_reducible refine rni_strs (.inr rfl) ?_ | with_reducible refine rin_strs (.inl rfl) ?_ | with_reducible refine rni_strs (.inl rfl) ?_ | ((with_reducible refine rin_seq (.inr rfl) ?_ ?_ ?_); rfl; rfl) | ((with_reducible refine rin_seq (.inl rfl) ?_ ?_ ?_); rfl; rfl) | ((with_reducible refine rni_seq (.inr rfl) ?_ ?_ ?_); rfl; rfl) | ((with_reducible refine rni_seq (.inl rfl) ?_ ?_ ?_); rfl; rfl) | (with_reducible refine xix_tup ?_) | ((with_reducible refine xc_len ?_); refine ⟨_, .inl rfl, ?_⟩) | ((with_reducible refine xc_len ?_); refine ⟨_, .inr rfl, ?_⟩) | (with_reducible refine rm_count ?_) | (with_reducible refine ⟨_, rfl, ?_⟩) | (with_reducible refine ⟨_, _, rfl, ?_⟩) | ((with_reducible refine xix_lst ?_); refine ⟨_, rfl, _, rfl, ?_⟩) | ((with_reducible refine xadd_lst ?_); refine ⟨_, rfl, _, rfl, ?_, ?_⟩) | with_reducible refine rmul_int ?_ ?_ | with_reducible refine rmod_int ?_ ?_ | with_reducible refine rfdiv_int ?_ ?_ | with_reducible refine rpow_int ?_ ?_ | with_reducible refine xg_setL ?_ | refine ⟨_, _, _, _, rfl, rfl, rfl, rfl, ?_⟩ | with_reducible refine xg_name ?_ | with_reducible refine xg_tup rfl ?_ | with_reducible refine xgs_name ?_ | with_reducible refine xgs_nil ?_ | (with_reducible refine ⟨Nat.le_of_ble_eq_true rfl, ?_⟩) | fail))
section
variable {K : Frag} {mg : Str → Option Value} {ρ : DL.Env} {γ : Ga} {Q : QD}
/-- a node as a tuple or as a list -/
def ND (x : D) (o : List Nat) (as : List D) : Prop := x = .tup (.str (S o) :: as) ∨ x = .lst (.str (S o) :: as)
abbrev NE (x : D) (e : Ex) : Prop := x = e.d ∨ x = e.dl
theorem ix_nd {x : D} {o : List Nat} {as : List D} {z : Int} (h : ND x o as) (q : ∃ d, atI (.str (S o) :: as) z = some d ∧ Q d γ) : dR2 K (rIx K) x (.int z) γ Q := by
  obtain ⟨d, h1, h2⟩ := q
  rcases h with rfl | rfl
  · exact rix_tup h1 h2
  · exact rix_lst rfl h1 h2
theorem nd_num {x : D} {z : Int} (h : NE x (.num z)) : ND x sNumber [.int z] := h
theorem nd_var {x : D} {l : List Nat} (h : NE x (.var l)) : ND x sVariable [.str (S l)] := h
theorem nd_neg {x : D} {a : Ex} (h : NE x (.neg a)) : ∃ y, NE y a ∧ ND x sNegate [y] := by
  rcases h with rfl | rfl
  · exact ⟨_, .inl rfl, .inl rfl⟩
  · exact ⟨_, .inr rfl, .inr rfl⟩
theorem nd_nt {x : D} {a : Ex} (h : NE x (.nt a)) : ∃ y, NE y a ∧ ND x sNot [y] := by
  rcases h with rfl | rfl
  · exact ⟨_, .inl rfl, .inl rfl⟩
  · exact ⟨_, .inr rfl, .inr rfl⟩
theorem nd_bin {x : D} {o : List Nat} {a b : Ex} (h : NE x (.bin o a b)) : ∃ y z, NE y a ∧ NE z b ∧ ND x o [y, z] := by
  rcases h with rfl | rfl
  · exact ⟨_, _, .inl rfl, .inl rfl, .inl rfl⟩
  · exact ⟨_, _, .inr rfl, .inr rfl, .inr rfl⟩
theorem nd_cmp {x : D} {o : List Nat} {a b : Ex} (h : NE x (.cmp o a b)) : ∃ y z, NE y a ∧ NE z b ∧ ND x o [y, z] := by
  rcases h with rfl | rfl
  · exact ⟨_, _, .inl rfl, .inl rfl, .inl rfl⟩
  · exact ⟨_, _, .inr rfl, .inr rfl, .inr rfl⟩
theorem nd_con {x : D} {o : List Nat} {a b : Ex} (h : NE x (.con o a b)) : ∃ y z, NE y a ∧ NE z b ∧ ND x o [y, z] := by
  rcases h with rfl | rfl
  · exact ⟨_, _, .inl rfl, .inl rfl, .inl rfl⟩
  · exact ⟨_, _, .inr rfl, .inr rfl, .inr rfl⟩
theorem canon_len : ∀ e : Ex, e.ok = true → (canon e).length + 8 ≤ 40 * e.size
  | .num z, hok => by
    have := (num_int (ok_num hok)).2.1
    simp only [canon, Ex.size]; omega
  | .var l, hok => by
    have := (name_kw (ok_var hok)).2.1
    simp only [canon, Ex.size]; omega
  | .neg a, hok => by
    have := canon_len a (okE_ok (ok_neg hok))
    have := wrap_len a 3 (canon a)
    simp only [canon, Ex.size, List.length_append, List.length_cons, List.length_nil]; omega
  | .nt a, hok => by
    have := canon_len a (okC_ok (ok_nt hok))
    have := wrap_len a 3 (canon a)
    simp only [canon, Ex.size, List.length_append, List.length_cons, List.length_nil]; omega
  | .bin o a b, hok => by
    obtain ⟨ho, ha, hb⟩ := ok_bin hok
    have := (op_low (o := o) (by simp [ho])).2
    have := canon_len a (okE_ok ha)
    have := canon_len b (okE_ok hb)
    have := wrap_len a (rankOf o) (canon a)
    have := wrap_len b (rankOf o + 1) (canon b)
    simp only [canon, Ex.size, List.length_append, List.length_cons, List.length_nil]; omega
  | .cmp o a b, hok => by
    obtain ⟨ho, ha, hb⟩ := ok_cmp hok
    have := (op_low (o := o) (by simp [ho])).2
    have := canon_len a (okE_ok ha)
    have := canon_len b (okE_ok hb)
    simp only [canon, Ex.size, List.length_append, List.length_cons, List.length_nil]; omega
  | .con o a b, hok => by
    obtain ⟨ho, ha, hb⟩ := ok_con hok
    have := (op_low (o := o) (by simp [ho])).2
    have := canon_len a (okC_ok ha)
    have := canon_len b (okC_ok hb)
    have := wrap_len a (rankC o) (canon a)
    have := wrap_len b (rankC o + 1) (canon b)
    simp only [canon, Ex.size, List.length_append, List.length_cons, List.length_nil]; omega
where
  wrap_len (e : Ex) (n : Nat) (t : List Nat) : (wrap e n t).length ≤ t.length + 2 := by
    have hb : e.bo.length = 1 ∧ e.bc.length = 1 := by cases e <;> exact ⟨rfl, rfl⟩
    unfold wrap
    split
    · simp only [List.length_append]; omega
    · omega
theorem wrap_le (e : Ex) (n : Nat) (t : List Nat) : (wrap e n t).length ≤ t.length + 2 := canon_len.wrap_len e n t
theorem dl_is_of (T : Tx K mg) : DL_is_of_conditions K (sp_is_of_conditions K) := by
  rintro ds γ q e lo1 lo2 ⟨w, rfl, hq⟩
  refine dS_env (ρ' := [some (.str (S w))]) rfl ?_
  unfold t_is_of_conditions
  walk_at "GO"
  rw [show inD (.str (S w)) [D.str (S [110, 111, 116]), .str (S [97, 110, 100]), .str (S [111, 114])] = decide (w ∈ [sNot, sAnd, sOr]) from inD_strs (ls := [sNot, sAnd, sOr])]
  exact .inl hq
theorem ne_head {x : D} {e : Ex} (hok : e.ok = true) (h : NE x e) : ∃ o as, ND x o as ∧ o ∈ WORDS17 ∧ ((RANKS_T.lookup o).getD 3 = e.rk) ∧ (decide (o ∈ [sNot, sAnd, sOr]) = true → e.bo = [91] ∧ e.bc = [93]) ∧ (e.rk < 3 → decide (o ∈ [sNot, sAnd, sOr]) = false → e.bo = [40] ∧ e.bc = [41]) := by
  cases e with
  | num z => exact ⟨_, _, nd_num h, by decide, rfl, (fun z => absurd z (by decide)), fun _ _ => ⟨rfl, rfl⟩⟩
  | var l => exact ⟨_, _, nd_var h, by decide, rfl, (fun z => absurd z (by decide)), fun _ _ => ⟨rfl, rfl⟩⟩
  | neg a =>
    obtain ⟨y, _, hn⟩ := nd_neg h
    exact ⟨_, _, hn, by decide, rfl, (fun z => absurd z (by decide)), fun _ _ => ⟨rfl, rfl⟩⟩
  | nt a =>
    obtain ⟨y, _, hn⟩ := nd_nt h
    exact ⟨_, _, hn, by decide, rfl, (fun _ => ⟨rfl, rfl⟩), fun _ z => absurd z (by decide)⟩
  | bin o a b =>
    obtain ⟨y, z, _, _, hn⟩ := nd_bin h
    have hall : ∀ o ∈ OPS, o ∈ WORDS17 ∧ (RANKS_T.lookup o).getD 3 = rankOf o ∧ decide (o ∈ [sNot, sAnd, sOr]) = false := by decide
    obtain ⟨h1, h2, h3⟩ := hall o (ok_bin hok).1
    exact ⟨_, _, hn, h1, h2, (fun z => by rw [h3] at z; cases z), fun _ _ => ⟨rfl, rfl⟩⟩
  | cmp o a b =>
    obtain ⟨y, z, _, _, hn⟩ := nd_cmp h
    have hall : ∀ o ∈ CMPS, o ∈ WORDS17 ∧ (RANKS_T.lookup o).getD 3 = 3 ∧ decide (o ∈ [sNot, sAnd, sOr]) = false := by decide
    obtain ⟨h1, h2, h3⟩ := hall o (ok_cmp hok).1
    exact ⟨_, _, hn, h1, h2, (fun z => by rw [h3] at z; cases z), fun z => absurd z (show ¬ 3 < 3 by decide)⟩
  | con o a b =>
    obtain ⟨y, z, _, _, hn⟩ := nd_con h
    have hall : ∀ o ∈ CONS, o ∈ WORDS17 ∧ (RANKS_T.lookup o).getD 3 = rankC o ∧ decide (o ∈ [sNot, sAnd, sOr]) = true := by decide
    obtain ⟨h1, h2, h3⟩ := hall o (ok_con hok).1
    exact ⟨_, _, hn, h1, h2, (fun _ => ⟨rfl, rfl⟩), fun _ z => by rw [h3] at z; cases z⟩
theorem dl_bracketed (T : Tx K mg) (s : SpD) (dp : Nat) (hrec : ∀ ds γ q e, spWr K dp ds γ q e → s ds γ q e) : DL_bracketed K s (spBr K dp) := by
  rintro ds γ q e' lo1 lo2 ⟨x, e, least, rfl, hx, hok, hdp, hsz, hl3, hq⟩
  refine dS_env (ρ' := [some x, some (.int least), none]) rfl ?_
  unfold t_bracketed
  have hcl := canon_len e hok
  obtain ⟨o, as, hnd, hos, hrk, hb1, hb2⟩ := ne_head hok hx
  walk_at "GO"
  refine hrec _ _ _ _ ⟨x, e, rfl, hx, hok, hdp, hsz, ?_⟩
  refine xs_seq (xs_if (dt_test (de_op ?_)))
  refine de_kget2 (tb := RANKS_T) T.kv_RANKS ?_
  refine de_ref ⟨rfl, ?_⟩
  walk_at "GO"
  refine ix_nd hnd ⟨_, at_nat (j := 0) rfl, ?_⟩
  walk_at "GO"
  have hm : dOr (RANKS_T.lookup o) (.int 3) = D.int (e.rk : Int) := by
    cases hlk : RANKS_T.lookup o with
    | none => rw [hlk] at hrk; show D.int 3 = _; rw [← hrk]; rfl
    | some i => rw [hlk] at hrk; show D.int i = _; rw [← hrk]; rfl
  rw [hm]
  walk_at "GO"
  refine ifd (fun c1 => ?_) (fun c1 => ?_)
  · walk_at "GO"
    have : wrap e least (canon e) = canon e := by unfold wrap; rw [if_neg (by omega)]
    rw [this] at hq
    exact .inl hq
  · have hlt : e.rk < least := by omega
    have hwr : wrap e least (canon e) = e.bo ++ canon e ++ e.bc := by unfold wrap; rw [if_pos hlt]
    rw [hwr] at hq
    walk_at "GO"
    refine ix_nd hnd ⟨_, at_nat (j := 0) rfl, ?_⟩
    walk_at "GO"
    refine ⟨o, rfl, ?_⟩
    walk_at "GO"
    cases hd : decide (o ∈ [sNot, sAnd, sOr]) with
    | true =>
      obtain ⟨h1, h2⟩ := hb1 hd
      rw [h1, h2] at hq
      walk_at "GO"
      · simp; omega
      walk_at "GO"
      · simp; omega
      exact .inl hq
    | false =>
      obtain ⟨h1, h2⟩ := hb2 (by omega) hd
      rw [h1, h2] at hq
      walk_at "GO"
      · simp; omega
      walk_at "GO"
      · simp; omega
      exact .inl hq
end
end K07

set_option Elab.async false
set_option linter.all false
set_option maxRecDepth 100000
set_option maxHeartbeats 4000000
namespace K07
open PySem PySem.Spec PyProof.Rows L2 DL
local macro_rules | `(tactic| walk_at "GO") => `(tactic| repeat' (first | with_reducible refine xs_seq ?_ | with_reducible refine xs_set ?_ | with_reducible refine xs_asg ?_ | with_reducible refine xs_if ?_ | with_reducible refine xs_ret ?_ | with_reducible refine xs_next ?_ | with_reducible refine xs_expr ?_ | with_reducible refine xs_fld ?_ | with_reducible refine xs_par ?_ | with_reducible refine xs_retN ?_ | with_reducible refine xs_brk ?_ | with_reducible refine xp_nil ?_ | with_reducible refine xp_cons ?_ | with_reducible refine xe_disp ?_ | with_reducible refine de_dget2 ?_ | with_reducible refine xs_cont ?_ | with_reducible refine da_nil ?_ | with_reducible refine da_cons ?_ | with_reducible refine de_int ?_ | with_reducible refine de_str ?_ | with_reducible refine de_bl ?_ | with_reducible refine de_non ?_ | with_reducible refine de_ty ?_ | ((with_reducible refine xe_var ?_); refine ⟨_, rfl, ?_⟩) | with_reducible refine de_op ?_ | with_reducible refine de_un ?_ | with_reducible refine de_call ?_ | with_reducible refine de_cb ?_ | with_reducible refine de_sl ?_ | with_reducible refine do_none ?_ | with_reducible refine do_some ?_ | with_reducible refine de_if ?_ | with_reducible refine de_andV ?_ | with_reducible refine de_orV ?_ | with_reducible refine de_notV ?_ | with_reducible refine de_chain ?_ | with_reducible refine dt_test ?_ | with_reducible refine dt_B ?_ | with_reducible refine dt_and ?_ | with_reducible refine dt_or ?_ | with_reducible refine dt_not ?_ | (with_reducible refine xe_tup ?_) | (with_reducible refine xe_lst ?_) | (with_reducible refine xe_lstM ?_) | with_reducible refine q_COMPARISONS (by assumption) ?_ | (with_reducible refine de_meth ?_) | (with_reducible refine de_bm ?_) | (with_reducible refine de_bm0 ?_) | (with_reducible refine ⟨isTy_str, ?_⟩) | (with_reducible refine ⟨xty_lst ⟨_, rfl⟩, ?_⟩) | with_reducible refine radd_int ?_ | with_reducible refine radd_S ?_ ?_ | with_reducible refine rsub_int ?_ | with_reducible refine req_int ?_ | with_reducible refine rne_int ?_ | with_reducible refine req_S ?_ | with_reducible refine rne_S ?_ | with_reducible refine rlt_int ?_ | with_reducible refine rle_int ?_ | with_reducible refine rgt_int ?_ | with_reducible refine rge_int ?_ | with_reducible refine rneg_int ?_ | with_reducible refine rin_sgn ?_ | with_reducible refine rni_sgn ?_ | with_reducible refine rc_len_S ?_ ?_ | with_reducible refine rc_int_bl ?_ | with_reducible refine rc_str_int ?_ ?_ | with_reducible refine rc_str_str ?_ | with_reducible refine rc_max2 ?_ | ((with_reducible refine xc_isi ?_); refine ⟨_, true, rfl, rfl, ?_⟩) | ((with_reducible refine xc_isi ?_); refine ⟨_, false, rfl, rfl, ?_⟩) | with_reducible refine di_str ?_ | with_reducible refine di_list ?_ | with_reducible refine di_tup ?_ | with_reducible refine di_rng1 ?_ | with_reducible refine di_rng2 ?_ | with_reducible refine ift ?_ | with_reducible refine iff_ ?_ | with_reducible refine ifnt ?_ | with_reducible refine ifnf ?_ | with_reducible refine rin_strs (.inr rfl) ?_ | with_reducible refine rni_strs (.inr rfl) ?_ | with_reducible refine rin_strs (.inl rfl) ?_ | with_reducible refine rni_strs (.inl rfl) ?_ | ((with_reducible refine rin_seq (.inr rfl) ?_ ?_ ?_); rfl; rfl) | ((with_reducible refine rin_seq (.inl rfl) ?_ ?_ ?_); rfl; rfl) | ((with_reducible refine rni_seq (.inr rfl) ?_ ?_ ?_); rfl; rfl) | ((with_reducible refine rni_seq (.inl rfl) ?_ ?_ ?_); rfl; rfl) | (with_reducible refine xix_tup ?_) | ((with_reducible refine xc_len ?_); refine ⟨_, .inl rfl, ?_⟩) | ((with_reducible refine xc_len ?_); refine ⟨_, .inr rfl, ?_⟩) | (with_reducible refine rm_count ?_) | (with_reducible refine ⟨_, rfl, ?_⟩) | (with_reducible refine ⟨_, _, rfl, ?_⟩) | ((with_reducible refine xix_lst ?_); refine ⟨_, rfl, _, rfl, ?_⟩) | ((with_reducible refine xadd_lst ?_); refine ⟨_, rfl, _, rfl, ?_, ?_⟩) | with_reducible refine rmul_int ?_ ?_ | with_reducible refine rmod_int ?_ ?_ | with_reducible refine rfdiv_int ?_ ?_ | with_reducible refine rpow_int ?_ ?_ | with_reducible refine xg_setL ?_ | refine ⟨_, _, _, _, rfl, rfl, rfl, rfl, ?_⟩ | with_reducible refine xg_name ?_ | with_reducible refine xg_tup rfl ?_ | with_reducible refine xgs_name ?_ | with_reducible refine xgs_nil ?_ | (with_reducible refine ⟨Nat.le_of_ble_eq_true rfl, ?_⟩) | fail))
section
variable {K : Frag} {mg : Str → Option Value} {ρ : DL.Env} {γ : Ga} {Q : QD}
theorem in3 {w : List Nat} : inD (.str (S w)) [D.str (S [110, 117, 109, 98, 101, 114]), .str (S [118, 97, 114, 105, 97, 98, 108, 101])] = decide (w ∈ [sNumber, sVariable]) := inD_strs (ls := [sNumber, sVariable])
theorem dl_written (T : Tx K mg) (sb sw : SpD) (dp : Nat) (hb : ∀ dp', dp = dp' + 1 → ∀ ds γ q e, spBr K dp' ds γ q e → sb ds γ q e) (hw : ∀ dp', dp = dp' + 1 → ∀ ds γ q e, spWr K dp' ds γ q e → sw ds γ q e) : DL_written K sb sw (spWr K dp) := by
  rintro ds γ q e' lo1 lo2 ⟨x, e, rfl, hx, hok, hdp, hsz, hq⟩
  refine dS_env (ρ' := [some x, none, none]) rfl ?_
  unfold t_written
  have hcl := canon_len e hok
  cases e with
  | num z =>
    have hnd := nd_num hx
    walk_at "GO"
    refine ix_nd hnd ⟨_, at_nat (j := 0) rfl, ?_⟩
    walk_at "GO"
    rw [in3, show decide (sNumber ∈ [sNumber, sVariable]) = true by decide]
    walk_at "GO"
    refine ix_nd hnd ⟨_, at_nat (j := 1) rfl, ?_⟩
    walk_at "GO"
    · exact num_bits (ok_num hok)
    rw [show (toString z : Str) = S (digs z) by unfold digs; rw [S_of]]
    exact .inl hq
  | var l =>
    have hnd := nd_var hx
    walk_at "GO"
    refine ix_nd hnd ⟨_, at_nat (j := 0) rfl, ?_⟩
    walk_at "GO"
    rw [in3, show decide (sVariable ∈ [sNumber, sVariable]) = true by decide]
    walk_at "GO"
    refine ix_nd hnd ⟨_, at_nat (j := 1) rfl, ?_⟩
    walk_at "GO"
    exact .inl hq
  | neg a =>
    obtain ⟨y, hy, hnd⟩ := nd_neg hx
    simp only [Ex.dep, Ex.size] at hdp hsz
    obtain ⟨dp', rfl⟩ : ∃ k, dp = k + 1 := ⟨dp - 1, by omega⟩
    have ha := okE_ok (ok_neg hok)
    have la := canon_len a ha
    have lw := wrap_le a 3 (canon a)
    walk_at "GO"
    refine ix_nd hnd ⟨_, at_nat (j := 0) rfl, ?_⟩
    walk_at "GO"
    rw [in3, show decide (sNegate ∈ [sNumber, sVariable]) = false by decide]
    walk_at "GO"
    refine ifd (fun _ => ?_) (fun c => absurd rfl c)
    walk_at "GO"
    refine ix_nd hnd ⟨_, at_nat (j := 1) rfl, ?_⟩
    walk_at "GO"
    refine hb dp' rfl _ _ _ _ ⟨y, a, 3, rfl, hy, ha, by omega, by omega, by decide, ?_⟩
    walk_at "GO"
    · simp; omega
    exact .inl hq
  | nt a =>
    obtain ⟨y, hy, hnd⟩ := nd_nt hx
    simp only [Ex.dep, Ex.size] at hdp hsz
    obtain ⟨dp', rfl⟩ : ∃ k, dp = k + 1 := ⟨dp - 1, by omega⟩
    have ha := okC_ok (ok_nt hok)
    have la := canon_len a ha
    have lw := wrap_le a 3 (canon a)
    walk_at "GO"
    refine ix_nd hnd ⟨_, at_nat (j := 0) rfl, ?_⟩
    walk_at "GO"
    rw [in3, show decide (sNot ∈ [sNumber, sVariable]) = false by decide]
    walk_at "GO"
    refine ifd (fun c => absurd c (by decide)) (fun _ => ?_)
    walk_at "GO"
    refine ifd (fun _ => ?_) (fun c => absurd rfl c)
    walk_at "GO"
    refine ix_nd hnd ⟨_, at_nat (j := 1) rfl, ?_⟩
    walk_at "GO"
    refine hb dp' rfl _ _ _ _ ⟨y, a, 3, rfl, hy, ha, by omega, by omega, by decide, ?_⟩
    walk_at "GO"
    · simp; omega
    exact .inl hq
  | cmp o a b =>
    obtain ⟨y, z, hy, hz, hnd⟩ := nd_cmp hx
    simp only [Ex.dep, Ex.size] at hdp hsz
    obtain ⟨dp', rfl⟩ : ∃ k, dp = k + 1 := ⟨dp - 1, by omega⟩
    obtain ⟨ho, ha, hb'⟩ := ok_cmp hok
    have la := canon_len a (okE_ok ha)
    have lb := canon_len b (okE_ok hb')
    have lo' := (op_low (o := o) (by simp [ho])).2
    have hall : ∀ o ∈ CMPS, decide (o ∈ [sNumber, sVariable]) = false ∧ o ≠ sNegate ∧ o ≠ sNot := by decide
    obtain ⟨n1, n2, n3⟩ := hall o ho
    walk_at "GO"
    refine ix_nd hnd ⟨_, at_nat (j := 0) rfl, ?_⟩
    walk_at "GO"
    rw [in3, n1]
    walk_at "GO"
    refine ifd (fun c => absurd c n2) (fun _ => ?_)
    walk_at "GO"
    refine ifd (fun c => absurd c n3) (fun _ => ?_)
    walk_at "GO"
    rw [cmps]
    refine ifd (fun _ => ?_) (fun c => absurd ho c)
    walk_at "GO"
    refine ix_nd hnd ⟨_, at_nat (j := 1) rfl, ?_⟩
    walk_at "GO"
    refine hw dp' rfl _ _ _ _ ⟨y, a, rfl, hy, okE_ok ha, by omega, by omega, ?_⟩
    walk_at "GO"
    · simp; omega
    · simp; omega
    · simp; omega
    refine ix_nd hnd ⟨_, at_nat (j := 2) rfl, ?_⟩
    walk_at "GO"
    refine hw dp' rfl _ _ _ _ ⟨z, b, rfl, hz, okE_ok hb', by omega, by omega, ?_⟩
    walk_at "GO"
    · simp; omega
    exact .inl hq
  | bin o a b =>
    obtain ⟨y, z, hy, hz, hnd⟩ := nd_bin hx
    simp only [Ex.dep, Ex.size] at hdp hsz
    obtain ⟨dp', rfl⟩ : ∃ k, dp = k + 1 := ⟨dp - 1, by omega⟩
    obtain ⟨ho, ha, hb'⟩ := ok_bin hok
    have la := canon_len a (okE_ok ha)
    have lb := canon_len b (okE_ok hb')
    have lwa := wrap_le a (rankOf o) (canon a)
    have lwb := wrap_le b (rankOf o + 1) (canon b)
    have lo' := (op_low (o := o) (by simp [ho])).2
    have hall : ∀ o ∈ OPS, decide (o ∈ [sNumber, sVariable]) = false ∧ o ≠ sNegate ∧ o ≠ sNot ∧ o ∉ CMPS ∧ RANKS_T.lookup o = some (rankOf o : Int) ∧ rankOf o + 1 ≤ 3 := by decide
    obtain ⟨n1, n2, n3, n4, n5, n6⟩ := hall o ho
    walk_at "GO"
    refine ix_nd hnd ⟨_, at_nat (j := 0) rfl, ?_⟩
    walk_at "GO"
    rw [in3, n1]
    walk_at "GO"
    refine ifd (fun c => absurd c n2) (fun _ => ?_)
    walk_at "GO"
    refine ifd (fun c => absurd c n3) (fun _ => ?_)
    walk_at "GO"
    rw [cmps]
    refine ifd (fun c => absurd c n4) (fun _ => ?_)
    refine xs_next (xs_seq (xs_set (de_op (de_ref ?_))))
    walk_at "GO"
    refine rk_ix T.kv_RANKS n5 ?_
    walk_at "GO"
    refine ix_nd hnd ⟨_, at_nat (j := 1) rfl, ?_⟩
    walk_at "GO"
    refine hb dp' rfl _ _ _ _ ⟨y, a, rankOf o, rfl, hy, okE_ok ha, by omega, by omega, by omega, ?_⟩
    walk_at "GO"
    · simp; omega
    · simp; omega
    · simp; omega
    refine ix_nd hnd ⟨_, at_nat (j := 2) rfl, ?_⟩
    walk_at "GO"
    rw [show ((rankOf o : Nat) : Int) + 1 = ((rankOf o + 1 : Nat) : Int) by simp]
    refine hb dp' rfl _ _ _ _ ⟨z, b, rankOf o + 1, rfl, hz, okE_ok hb', by omega, by omega, n6, ?_⟩
    walk_at "GO"
    · simp; omega
    exact .inl hq
  | con o a b =>
    obtain ⟨y, z, hy, hz, hnd⟩ := nd_con hx
    simp only [Ex.dep, Ex.size] at hdp hsz
    obtain ⟨dp', rfl⟩ : ∃ k, dp = k + 1 := ⟨dp - 1, by omega⟩
    obtain ⟨ho, ha, hb'⟩ := ok_con hok
    have la := canon_len a (okC_ok ha)
    have lb := canon_len b (okC_ok hb')
    have lwa := wrap_le a (rankC o) (canon a)
    have lwb := wrap_le b (rankC o + 1) (canon b)
    have lo' := (op_low (o := o) (by simp [ho])).2
    have hall : ∀ o ∈ CONS, decide (o ∈ [sNumber, sVariable]) = false ∧ o ≠ sNegate ∧ o ≠ sNot ∧ o ∉ CMPS ∧ RANKS_T.lookup o = some (rankC o : Int) ∧ rankC o + 1 ≤ 3 := by decide
    obtain ⟨n1, n2, n3, n4, n5, n6⟩ := hall o ho
    walk_at "GO"
    refine ix_nd hnd ⟨_, at_nat (j := 0) rfl, ?_⟩
    walk_at "GO"
    rw [in3, n1]
    walk_at "GO"
    refine ifd (fun c => absurd c n2) (fun _ => ?_)
    walk_at "GO"
    refine ifd (fun c => absurd c n3) (fun _ => ?_)
    walk_at "GO"
    rw [cmps]
    refine ifd (fun c => absurd c n4) (fun _ => ?_)
    refine xs_next (xs_seq (xs_set (de_op (de_ref ?_))))
    walk_at "GO"
    refine rk_ix T.kv_RANKS n5 ?_
    walk_at "GO"
    refine ix_nd hnd ⟨_, at_nat (j := 1) rfl, ?_⟩
    walk_at "GO"
    refine hb dp' rfl _ _ _ _ ⟨y, a, rankC o, rfl, hy, okC_ok ha, by omega, by omega, by omega, ?_⟩
    walk_at "GO"
    · simp; omega
    · simp; omega
    · simp; omega
    refine ix_nd hnd ⟨_, at_nat (j := 2) rfl, ?_⟩
    walk_at "GO"
    rw [show ((rankC o : Nat) : Int) + 1 = ((rankC o + 1 : Nat) : Int) by simp]
    refine hb dp' rfl _ _ _ _ ⟨z, b, rankC o + 1, rfl, hz, okC_ok hb', by omega, by omega, n6, ?_⟩
    walk_at "GO"
    · simp; omega
    exact .inl hq
end
end K07

set_option Elab.async false
set_option linter.all false
set_option maxRecDepth 100000
set_option maxHeartbeats 4000000
namespace K07
open PySem PySem.Spec PyProof.Rows L2 DL
local macro_rules | `(tactic| walk_at "GO") => `(tactic| repeat' (first | with_reducible refine xs_seq ?_ | with_reducible refine xs_set ?_ | with_reducible refine xs_asg ?_ | with_reducible refine xs_if ?_ | with_reducible refine xs_ret ?_ | with_reducible refine xs_next ?_ | with_reducible refine xs_expr ?_ | with_reducible refine xs_fld ?_ | with_reducible refine xs_par ?_ | with_reducible refine xs_retN ?_ | with_reducible refine xs_brk ?_ | with_reducible refine xp_nil ?_ | with_reducible refine xp_cons ?_ | with_reducible refine xe_disp ?_ | with_reducible refine de_dget2 ?_ | with_reducible refine xs_cont ?_ | with_reducible refine da_nil ?_ | with_reducible refine da_cons ?_ | with_reducible refine de_int ?_ | with_reducible refine de_str ?_ | with_reducible refine de_bl ?_ | with_reducible refine de_non ?_ | with_reducible refine de_ty ?_ | ((with_reducible refine xe_var ?_); refine ⟨_, rfl, ?_⟩) | with_reducible refine de_op ?_ | with_reducible refine de_un ?_ | with_reducible refine de_call ?_ | with_reducible refine de_cb ?_ | with_reducible refine de_sl ?_ | with_reducible refine do_none ?_ | with_reducible refine do_some ?_ | with_reducible refine de_if ?_ | with_reducible refine de_andV ?_ | with_reducible refine de_orV ?_ | with_reducible refine de_notV ?_ | with_reducible refine de_chain ?_ | with_reducible refine dt_test ?_ | with_reducible refine dt_B ?_ | with_reducible refine dt_and ?_ | with_reducible refine dt_or ?_ | with_reducible refine dt_not ?_ | (with_reducible refine xe_tup ?_) | (with_reducible refine xe_lst ?_) | (with_reducible refine xe_lstM ?_) | (with_reducible refine de_meth ?_) | (with_reducible refine de_bm ?_) | (with_reducible refine de_bm0 ?_) | (with_reducible refine ⟨isTy_str, ?_⟩) | (with_reducible refine ⟨xty_lst ⟨_, rfl⟩, ?_⟩) | with_reducible refine radd_int ?_ | with_reducible refine radd_S ?_ ?_ | with_reducible refine rsub_int ?_ | with_reducible refine req_int ?_ | with_reducible refine rne_int ?_ | with_reducible refine req_S ?_ | with_reducible refine rne_S ?_ | with_reducible refine rlt_int ?_ | with_reducible refine rle_int ?_ | with_reducible refine rgt_int ?_ | with_reducible refine rge_int ?_ | with_reducible refine rneg_int ?_ | with_reducible refine rin_sgn ?_ | with_reducible refine rni_sgn ?_ | with_reducible refine rc_len_S ?_ ?_ | with_reducible refine rc_int_bl ?_ | with_reducible refine rc_str_int ?_ ?_ | with_reducible refine rc_str_str ?_ | with_reducible refine rc_max2 ?_ | ((with_reducible refine xc_isi ?_); refine ⟨_, true, rfl, rfl, ?_⟩) | ((with_reducible refine xc_isi ?_); refine ⟨_, false, rfl, rfl, ?_⟩) | with_reducible refine di_str ?_ | with_reducible refine di_list ?_ | with_reducible refine di_tup ?_ | with_reducible refine di_rng1 ?_ | with_reducible refine di_rng2 ?_ | with_reducible refine ift ?_ | with_reducible refine iff_ ?_ | with_reducible refine ifnt ?_ | with_reducible refine ifnf ?_ | with_reducible refine rin_strs (.inr rfl) ?_ | with_reducible refine rni_strs (.inr rfl) ?_ | with_reducible refine rin_strs (.inl rfl) ?_ | with_reducible refine rni_strs (.inl rfl) ?_ | ((with_reducible refine rin_seq (.inr rfl) ?_ ?_ ?_); rfl; rfl) | ((with_reducible refine rin_seq (.inl rfl) ?_ ?_ ?_); rfl; rfl) | ((with_reducible refine rni_seq (.inr rfl) ?_ ?_ ?_); rfl; rfl) | ((with_reducible refine rni_seq (.inl rfl) ?_ ?_ ?_); rfl; rfl) | (with_reducible refine xix_tup ?_) | ((with_reducible refine xc_len ?_); refine ⟨_, .inl rfl, ?_⟩) | ((with_reducible refine xc_len ?_); refine ⟨_, .inr rfl, ?_⟩) | (with_reducible refine rm_count ?_) | (with_reducible refine ⟨_, rfl, ?_⟩) | (with_reducible refine ⟨_, _, rfl, ?_⟩) | ((with_reducible refine xix_lst ?_); refine ⟨_, rfl, _, rfl, ?_⟩) | ((with_reducible refine xadd_lst ?_); refine ⟨_, rfl, _, rfl, ?_, ?_⟩) | with_reducible refine rmul_int ?_ ?_ | with_reducible refine rmod_int ?_ ?_ | with_reducible refine rfdiv_int ?_ ?_ | with_reducible refine rpow_int ?_ ?_ | with_reducible refine xg_setL ?_ | refine ⟨_, _, _, _, rfl, rfl, rfl, rfl, ?_⟩ | with_reducible refine xg_name ?_ | with_reducible refine xg_tup rfl ?_ | with_reducible refine xgs_name ?_ | with_reducible refine xgs_nil ?_ | (with_reducible refine ⟨Nat.le_of_ble_eq_true rfl, ?_⟩) | fail))
section
variable {K : Frag} {mg : Str → Option Value} {ρ : DL.Env} {γ : Ga} {Q : QD}
theorem join3 {a b c : List Nat} : Txt.join (S [32]) [S a, S b, S c] = S (a ++ [32] ++ b ++ [32] ++ c) := by
  refine (StrLaws.glued_eq_join _ _).trans ?_
  show S a ++ S [32] ++ (S b ++ S [32] ++ S c) = _
  rw [S_app, S_app, S_app, S_app]
  simp
theorem dl_L_canonical (T : Tx K mg) (s : SpD) (dp : Nat) (hrec : ∀ dp', dp = dp' + 1 → ∀ ds γ q e, spCan K dp' ds γ q e → s ds γ q e) : DL_L_canonical K s (spCan K dp) := by
  rintro ds γ q e' lo1 lo2 ⟨e, least, rfl, hok, hdp, hsz, hl1, hl3, hq⟩
  refine dS_env (ρ' := [some e.d, some (.int least), none, none, none, none]) rfl ?_
  unfold t_L_canonical
  have hcl := canon_len e hok
  obtain ⟨o, xs, ho, hos, hbar⟩ := word_of hok
  refine xs_cut (fun ρ' γ' => ρ' = [some e.d, some (.int least), some (.str (S o)), none, none, none] ∧ γ' = γ) ?_ ?_
  · rw [ho]
    walk_at "GO"
    exact ⟨_, at_nat (j := 0) rfl, rfl, rfl⟩
  rintro ρ' γ' ⟨rfl, rfl⟩
  refine xs_cut (fun ρ' γ'' => ρ' = [some e.d, some (.int least), some (.str (S o)), some (.int e.rk), none, none] ∧ γ'' = γ') ?_ ?_
  · walk_at "GO"
    exact ⟨e, hok, _, _, ho, rfl, rfl, rfl⟩
  rintro ρ' γ'' ⟨rfl, rfl⟩
  refine xs_cut (fun ρ' γ' => ρ' = [some e.d, some (.int least), some (.str (S o)), some (.int e.rk), some (.str (S (canon e))), none] ∧ γ' = γ'') ?_ ?_
  · have one : ∀ (a : Ex) (w : List Nat) (tw : TE), a.ok = true → a.dep + 1 ≤ dp → e.size = a.size + 1 → e.d = .tup [.str (S o), a.d] → canon e = w ++ wrap a 3 (canon a) → w.length ≤ 4 →
        (∀ γ (Q : QD), Q (.str (S w)) γ → dE K tw [some e.d, some (.int least), some (.str (S o)), some (.int e.rk), none, none] γ Q) →
        ∀ {bk ct : DL.Env → Ga → Prop} {rt : QD}, dS K γ''.length (tAsg (tOp (rAddG K) tw (tCall (toSp K s) [] E0 (tCons (tOp (rIx K) (tVar 0) (tC (.int 1))) (tCons (tC (.int 3)) tNil)))) (gName 4)) [some e.d, some (.int least), some (.str (S o)), some (.int e.rk), none, none] γ'' ⟨fun ρ' γ' => ρ' = [some e.d, some (.int least), some (.str (S o)), some (.int e.rk), some (.str (S (canon e))), none] ∧ γ' = γ'', rt, bk, ct⟩ := by
      rintro a w tw ha hda hs hed hcn hwl htw bk ct rt
      have ix1 : ∀ γ (Q : QD), Q a.d γ → dR2 K (rIx K) e.d (.int 1) γ Q := by rw [hed]; exact fun γ Q h => xix_tup ⟨_, rfl, h⟩
      obtain ⟨dp', rfl⟩ : ∃ k, dp = k + 1 := ⟨dp - 1, by omega⟩
      have la := canon_len a ha
      have lw := wrap_le a 3 (canon a)
      walk_at "GO"
      refine htw _ _ ?_
      walk_at "GO"
      refine ix1 _ _ ?_
      walk_at "GO"
      refine hrec dp' rfl _ _ _ _ ⟨a, 3, rfl, ha, by omega, by omega, by decide, by decide, ?_⟩
      walk_at "GO"
      · omega
      rw [hcn]
      exact ⟨rfl, rfl⟩
    have two : ∀ (a b : Ex) (l1 l2 : Nat) (t1 t2 : TE), a.ok = true → b.ok = true → max a.dep b.dep + 1 ≤ dp → e.size = a.size + b.size + 1 → e.d = .tup [.str (S o), a.d, b.d] → 1 ≤ l1 → l1 ≤ 3 → 1 ≤ l2 → l2 ≤ 3 → o.length ≤ 3 → canon e = wrap a l1 (canon a) ++ [32] ++ o ++ [32] ++ wrap b l2 (canon b) →
        (∀ γ (Q : QD), Q (.int l1) γ → dE K t1 [some e.d, some (.int least), some (.str (S o)), some (.int e.rk), none, none] γ Q) → (∀ γ (Q : QD), Q (.int l2) γ → dE K t2 [some e.d, some (.int least), some (.str (S o)), some (.int e.rk), none, none] γ Q) →
        ∀ {bk ct : DL.Env → Ga → Prop} {rt : QD}, dS K γ''.length (tAsg (tBM K "str" (rJoin K) (tC (.str (S [32]))) (tCons (tLst (tCons (tCall (toSp K s) [] E0 (tCons (tOp (rIx K) (tVar 0) (tC (.int 1))) (tCons t1 tNil))) (tCons (tVar 2) (tCons (tCall (toSp K s) [] E0 (tCons (tOp (rIx K) (tVar 0) (tC (.int 2))) (tCons t2 tNil))) tNil)))) tNil)) (gName 4)) [some e.d, some (.int least), some (.str (S o)), some (.int e.rk), none, none] γ'' ⟨fun ρ' γ' => ρ' = [some e.d, some (.int least), some (.str (S o)), some (.int e.rk), some (.str (S (canon e))), none] ∧ γ' = γ'', rt, bk, ct⟩ := by
      rintro a b l1 l2 t1 t2 ha hb hda hs hed h1 h2 h3 h4 hol hcn ht1 ht2 bk ct rt
      have ix1 : ∀ γ (Q : QD), Q a.d γ → dR2 K (rIx K) e.d (.int 1) γ Q := by rw [hed]; exact fun γ Q h => xix_tup ⟨_, rfl, h⟩
      have ix2 : ∀ γ (Q : QD), Q b.d γ → dR2 K (rIx K) e.d (.int 2) γ Q := by rw [hed]; exact fun γ Q h => xix_tup ⟨_, rfl, h⟩
      obtain ⟨dp', rfl⟩ : ∃ k, dp = k + 1 := ⟨dp - 1, by omega⟩
      have la := canon_len a ha
      have lb := canon_len b hb
      have lwa := wrap_le a l1 (canon a)
      have lwb := wrap_le b l2 (canon b)
      walk_at "GO"
      refine ix1 _ _ ?_
      walk_at "GO"
      refine ht1 _ _ ?_
      walk_at "GO"
      refine hrec dp' rfl _ _ _ _ ⟨a, l1, rfl, ha, by omega, by omega, h1, h2, ?_⟩
      walk_at "GO"
      refine ix2 _ _ ?_
      walk_at "GO"
      refine ht2 _ _ ?_
      walk_at "GO"
      refine hrec dp' rfl _ _ _ _ ⟨b, l2, rfl, hb, by omega, by omega, h3, h4, ?_⟩
      walk_at "GO"
      refine rm_join (ys := [S (wrap a l1 (canon a)), S o, S (wrap b l2 (canon b))]) (.inl rfl) (by simp [S_len]; omega) ?_
      rw [join3, hcn]
      exact ⟨rfl, rfl⟩
    have rkl : ∀ e : Ex, e.ok = true → 1 ≤ e.rk := by
      intro e _
      have := rk_cases e
      omega
    have wrap1 : ∀ a : Ex, a.ok = true → wrap a 1 (canon a) = canon a := by
      intro a ha
      unfold wrap
      rw [if_neg (by have := rkl a ha; omega)]
    cases e with
    | num z =>
      cases ho
      have hz := ok_num hok
      refine xs_if (dt_test (de_op (xe_var ⟨_, rfl, de_tup (da_cons (de_str (da_cons (de_str (da_nil ⟨by decide, rin_seq (.inr rfl) rfl rfl ⟨_, rfl, ?_⟩⟩))))) ⟩)))
      rw [in2, show decide (sNumber ∈ [[110, 117, 109, 98, 101, 114], [118, 97, 114, 105, 97, 98, 108, 101]]) = true by decide]
      walk_at "GO"
      refine xix_tup (xs := [.str (S sNumber), .int z]) ⟨_, rfl, ?_⟩
      walk_at "GO"
      · exact num_bits hz
      rw [show (toString z : Str) = S (digs z) by unfold digs; rw [S_of]]
      exact ⟨rfl, rfl⟩
    | var l =>
      cases ho
      refine xs_if (dt_test (de_op (xe_var ⟨_, rfl, de_tup (da_cons (de_str (da_cons (de_str (da_nil ⟨by decide, rin_seq (.inr rfl) rfl rfl ⟨_, rfl, ?_⟩⟩))))) ⟩)))
      rw [in2, show decide (sVariable ∈ [[110, 117, 109, 98, 101, 114], [118, 97, 114, 105, 97, 98, 108, 101]]) = true by decide]
      walk_at "GO"
      refine xix_tup (xs := [.str (S sVariable), .str (S l)]) ⟨_, rfl, ?_⟩
      walk_at "GO"
      exact ⟨rfl, rfl⟩
    | neg a =>
      cases ho
      have ha := ok_neg hok
      simp only [Ex.dep] at hdp
      refine xs_if (dt_test (de_op (xe_var ⟨_, rfl, de_tup (da_cons (de_str (da_cons (de_str (da_nil ⟨by decide, rin_seq (.inr rfl) rfl rfl ⟨_, rfl, ?_⟩⟩))))) ⟩)))
      rw [in2, show decide (sNegate ∈ [[110, 117, 109, 98, 101, 114], [118, 97, 114, 105, 97, 98, 108, 101]]) = false by decide]
      refine iff_ (xs_if (dt_test (de_op (xe_var ⟨_, rfl, de_tup (da_cons (de_str (da_cons (de_str (da_nil ⟨by decide, rin_seq (.inr rfl) rfl rfl ⟨_, rfl, ?_⟩⟩))))) ⟩))))
      rw [in2, show decide (sNegate ∈ [[110, 101, 103, 97, 116, 101], [110, 111, 116]]) = true by decide]
      refine ift (one a [45] _ (okE_ok ha) hdp rfl rfl rfl (by decide) fun γ Q hQ => ?_)
      walk_at "GO"
      exact hQ
    | nt a =>
      cases ho
      have ha := ok_nt hok
      simp only [Ex.dep] at hdp
      refine xs_if (dt_test (de_op (xe_var ⟨_, rfl, de_tup (da_cons (de_str (da_cons (de_str (da_nil ⟨by decide, rin_seq (.inr rfl) rfl rfl ⟨_, rfl, ?_⟩⟩))))) ⟩)))
      rw [in2, show decide (sNot ∈ [[110, 117, 109, 98, 101, 114], [118, 97, 114, 105, 97, 98, 108, 101]]) = false by decide]
      refine iff_ (xs_if (dt_test (de_op (xe_var ⟨_, rfl, de_tup (da_cons (de_str (da_cons (de_str (da_nil ⟨by decide, rin_seq (.inr rfl) rfl rfl ⟨_, rfl, ?_⟩⟩))))) ⟩))))
      rw [in2, show decide (sNot ∈ [[110, 101, 103, 97, 116, 101], [110, 111, 116]]) = true by decide]
      refine ift (one a [110, 111, 116, 32] _ (okC_ok ha) hdp rfl rfl rfl (by decide) fun γ Q hQ => ?_)
      walk_at "GO"
      exact hQ
    | bin o' a b =>
      cases ho
      obtain ⟨ho1, ha, hb⟩ := ok_bin hok
      simp only [Ex.dep] at hdp
      have hrk3 : 1 ≤ rankOf o ∧ rankOf o + 1 ≤ 3 := by unfold rankOf; split <;> omega
      refine xs_if (dt_test (de_op (xe_var ⟨_, rfl, de_tup (da_cons (de_str (da_cons (de_str (da_nil ⟨by decide, rin_seq (.inr rfl) rfl rfl ⟨_, rfl, ?_⟩⟩))))) ⟩)))
      rw [in2, show decide (o ∈ [[110, 117, 109, 98, 101, 114], [118, 97, 114, 105, 97, 98, 108, 101]]) = false by
        have : ∀ o ∈ OPS, decide (o ∈ [[110, 117, 109, 98, 101, 114], [118, 97, 114, 105, 97, 98, 108, 101]]) = false := by decide
        exact this o ho1]
      refine iff_ (xs_if (dt_test (de_op (xe_var ⟨_, rfl, de_tup (da_cons (de_str (da_cons (de_str (da_nil ⟨by decide, rin_seq (.inr rfl) rfl rfl ⟨_, rfl, ?_⟩⟩))))) ⟩))))
      rw [in2, show decide (o ∈ [[110, 101, 103, 97, 116, 101], [110, 111, 116]]) = false by
        have : ∀ o ∈ OPS, decide (o ∈ [[110, 101, 103, 97, 116, 101], [110, 111, 116]]) = false := by decide
        exact this o ho1]
      refine iff_ ?_
      walk_at "GO"
      refine rm_split (ys := CMPS.map S) (by decide) (by decide) (by decide +kernel) ?_
      refine rin_strs (ls := CMPS) (.inl rfl) ?_
      rw [show decide (o ∈ CMPS) = false by
        have : ∀ o ∈ OPS, decide (o ∈ CMPS) = false := by decide
        exact this o ho1]
      refine ⟨_, rfl, iff_ (two a b (rankOf o) (rankOf o + 1) _ _ (okE_ok ha) (okE_ok hb) hdp rfl rfl (by omega) (by omega) (by omega) (by omega) (op_low (o := o) (by simp [ho1])).2 rfl (fun γ Q hQ => ?_) fun γ Q hQ => ?_)⟩
      · walk_at "GO"
        exact hQ
      · walk_at "GO"
        exact hQ
    | con o' a b =>
      cases ho
      obtain ⟨ho1, ha, hb⟩ := ok_con hok
      simp only [Ex.dep] at hdp
      have hrk3 : 1 ≤ rankC o ∧ rankC o + 1 ≤ 3 := by unfold rankC; split <;> omega
      refine xs_if (dt_test (de_op (xe_var ⟨_, rfl, de_tup (da_cons (de_str (da_cons (de_str (da_nil ⟨by decide, rin_seq (.inr rfl) rfl rfl ⟨_, rfl, ?_⟩⟩))))) ⟩)))
      rw [in2, show decide (o ∈ [[110, 117, 109, 98, 101, 114], [118, 97, 114, 105, 97, 98, 108, 101]]) = false by
        have : ∀ o ∈ CONS, decide (o ∈ [[110, 117, 109, 98, 101, 114], [118, 97, 114, 105, 97, 98, 108, 101]]) = false := by decide
        exact this o ho1]
      refine iff_ (xs_if (dt_test (de_op (xe_var ⟨_, rfl, de_tup (da_cons (de_str (da_cons (de_str (da_nil ⟨by decide, rin_seq (.inr rfl) rfl rfl ⟨_, rfl, ?_⟩⟩))))) ⟩))))
      rw [in2, show decide (o ∈ [[110, 101, 103, 97, 116, 101], [110, 111, 116]]) = false by
        have : ∀ o ∈ CONS, decide (o ∈ [[110, 101, 103, 97, 116, 101], [110, 111, 116]]) = false := by decide
        exact this o ho1]
      refine iff_ ?_
      walk_at "GO"
      refine rm_split (ys := CMPS.map S) (by decide) (by decide) (by decide +kernel) ?_
      refine rin_strs (ls := CMPS) (.inl rfl) ?_
      rw [show decide (o ∈ CMPS) = false by
        have : ∀ o ∈ CONS, decide (o ∈ CMPS) = false := by decide
        exact this o ho1]
      refine ⟨_, rfl, iff_ (two a b (rankC o) (rankC o + 1) _ _ (okC_ok ha) (okC_ok hb) hdp rfl rfl (by omega) (by omega) (by omega) (by omega) (op_low (o := o) (by simp [ho1])).2 rfl (fun γ Q hQ => ?_) fun γ Q hQ => ?_)⟩
      · walk_at "GO"
        exact hQ
      · walk_at "GO"
        exact hQ
    | cmp o' a b =>
      cases ho
      obtain ⟨ho1, ha, hb⟩ := ok_cmp hok
      simp only [Ex.dep] at hdp
      refine xs_if (dt_test (de_op (xe_var ⟨_, rfl, de_tup (da_cons (de_str (da_cons (de_str (da_nil ⟨by decide, rin_seq (.inr rfl) rfl rfl ⟨_, rfl, ?_⟩⟩))))) ⟩)))
      rw [in2, show decide (o ∈ [[110, 117, 109, 98, 101, 114], [118, 97, 114, 105, 97, 98, 108, 101]]) = false by
        have : ∀ o ∈ CMPS, decide (o ∈ [[110, 117, 109, 98, 101, 114], [118, 97, 114, 105, 97, 98, 108, 101]]) = false := by decide
        exact this o ho1]
      refine iff_ (xs_if (dt_test (de_op (xe_var ⟨_, rfl, de_tup (da_cons (de_str (da_cons (de_str (da_nil ⟨by decide, rin_seq (.inr rfl) rfl rfl ⟨_, rfl, ?_⟩⟩))))) ⟩))))
      rw [in2, show decide (o ∈ [[110, 101, 103, 97, 116, 101], [110, 111, 116]]) = false by
        have : ∀ o ∈ CMPS, decide (o ∈ [[110, 101, 103, 97, 116, 101], [110, 111, 116]]) = false := by decide
        exact this o ho1]
      refine iff_ ?_
      walk_at "GO"
      refine rm_split (ys := CMPS.map S) (by decide) (by decide) (by decide +kernel) ?_
      refine rin_strs (ls := CMPS) (.inl rfl) ?_
      rw [show decide (o ∈ CMPS) = true from decide_eq_true ho1]
      refine ⟨_, rfl, ift (two a b 1 1 _ _ (okE_ok ha) (okE_ok hb) hdp rfl rfl (by decide) (by decide) (by decide) (by decide) (op_low (o := o) (by simp [ho1])).2 (by rw [wrap1 a (okE_ok ha), wrap1 b (okE_ok hb)]; rfl) (fun γ Q hQ => ?_) fun γ Q hQ => ?_)⟩
      · walk_at "GO"
        exact hQ
      · walk_at "GO"
        exact hQ
  rintro ρ' γ' ⟨rfl, rfl⟩
  have hbr : e.rk < least → ∃ x y, e.bo = [x] ∧ e.bc = [y] ∧ atI [D.str (S [40, 41]), .str (S [91, 93])] (if inD (.str (S o)) [D.str (S [111, 114]), .str (S [97, 110, 100])] = true then 1 else 0) = some (.str (S [x, y])) := by
    intro hlt
    rw [in2]
    cases e with
    | num z => exact absurd hlt (by show ¬ 3 < least; omega)
    | var l => exact absurd hlt (by show ¬ 3 < least; omega)
    | neg a => exact absurd hlt (by show ¬ 3 < least; omega)
    | nt a => exact absurd hlt (by show ¬ 3 < least; omega)
    | cmp o a b => exact absurd hlt (by show ¬ 3 < least; omega)
    | bin o' a b =>
      cases ho
      have hall : ∀ o ∈ OPS, decide (o ∈ [[111, 114], [97, 110, 100]]) = false := by decide
      rw [hall o (ok_bin hok).1]
      exact ⟨40, 41, rfl, rfl, rfl⟩
    | con o' a b =>
      cases ho
      have hall : ∀ o ∈ CONS, decide (o ∈ [[111, 114], [97, 110, 100]]) = true := by decide
      rw [hall o (ok_con hok).1]
      exact ⟨91, 93, rfl, rfl, rfl⟩
  have hany : ∃ x y, atI [D.str (S [40, 41]), .str (S [91, 93])] (if inD (.str (S o)) [D.str (S [111, 114]), .str (S [97, 110, 100])] = true then 1 else 0) = some (.str (S [x, y])) ∧ (e.rk < least → e.bo = [x] ∧ e.bc = [y]) := by
    by_cases hlt : e.rk < least
    · obtain ⟨x, y, h1, h2, h3⟩ := hbr hlt
      exact ⟨x, y, h3, fun _ => ⟨h1, h2⟩⟩
    · cases inD (.str (S o)) [D.str (S [111, 114]), .str (S [97, 110, 100])] with
      | true => exact ⟨91, 93, rfl, fun z => absurd z hlt⟩
      | false => exact ⟨40, 41, rfl, fun z => absurd z hlt⟩
  obtain ⟨x, y, hxy, hbo⟩ := hany
  walk_at "GO"
  refine xix_lst ⟨_, rfl, _, hxy, ?_⟩
  walk_at "GO"
  refine ifd (fun c1 => ?_) (fun c1 => ?_)
  · have hlt : e.rk < least := by omega
    obtain ⟨h1, h2⟩ := hbo hlt
    walk_at "GO"
    refine xix_str (by simp) ⟨x, rfl, ?_⟩
    walk_at "GO"
    · simp; omega
    refine xix_str (by simp) ⟨y, rfl, ?_⟩
    walk_at "GO"
    · simp; omega
    have hwr : wrap e least (canon e) = [x] ++ canon e ++ [y] := by unfold wrap; rw [if_pos hlt, h1, h2]
    rw [hwr] at hq
    exact .inl hq
  · walk_at "GO"
    have : wrap e least (canon e) = canon e := by unfold wrap; rw [if_neg (by omega)]
    rw [this] at hq
    exact .inl hq
end
end K07

set_option Elab.async false
set_option linter.all false
set_option maxRecDepth 100000
set_option maxHeartbeats 4000000
namespace K07
open PySem PySem.Spec PyProof.Rows L2 DL
local macro_rules | `(tactic| walk_at "GO") => `(tactic| repeat' (first | with_reducible refine xs_seq ?_ | with_reducible refine xs_set ?_ | with_reducible refine xs_asg ?_ | with_reducible refine xs_if ?_ | with_reducible refine xs_ret ?_ | with_reducible refine xs_next ?_ | with_reducible refine xs_expr ?_ | with_reducible refine xs_fld ?_ | with_reducible refine xs_par ?_ | with_reducible refine xs_retN ?_ | with_reducible refine xs_brk ?_ | with_reducible refine xp_nil ?_ | with_reducible refine xp_cons ?_ | with_reducible refine xe_disp ?_ | with_reducible refine de_dget2 ?_ | with_reducible refine xs_cont ?_ | with_reducible refine da_nil ?_ | with_reducible refine da_cons ?_ | with_reducible refine de_int ?_ | with_reducible refine de_str ?_ | with_reducible refine de_bl ?_ | with_reducible refine de_non ?_ | with_reducible refine de_ty ?_ | ((with_reducible refine xe_var ?_); refine ⟨_, rfl, ?_⟩) | with_reducible refine de_op ?_ | with_reducible refine de_un ?_ | with_reducible refine de_call ?_ | with_reducible refine de_cb ?_ | with_reducible refine de_sl ?_ | with_reducible refine do_none ?_ | with_reducible refine do_some ?_ | with_reducible refine de_if ?_ | with_reducible refine de_andV ?_ | with_reducible refine de_orV ?_ | with_reducible refine de_notV ?_ | with_reducible refine de_chain ?_ | with_reducible refine dt_test ?_ | with_reducible refine dt_B ?_ | with_reducible refine dt_and ?_ | with_reducible refine dt_or ?_ | with_reducible refine dt_not ?_ | (with_reducible refine xe_tup ?_) | (with_reducible refine xe_lst ?_) | (with_reducible refine xe_lstM ?_) | (with_reducible refine de_meth ?_) | (with_reducible refine de_bm ?_) | (with_reducible refine de_bm0 ?_) | (with_reducible refine ⟨isTy_str, ?_⟩) | (with_reducible refine ⟨xty_lst ⟨_, rfl⟩, ?_⟩) | with_reducible refine radd_int ?_ | with_reducible refine radd_S ?_ ?_ | with_reducible refine rsub_int ?_ | with_reducible refine req_int ?_ | with_reducible refine rne_int ?_ | with_reducible refine req_S ?_ | with_reducible refine rne_S ?_ | with_reducible refine rlt_int ?_ | with_reducible refine rle_int ?_ | with_reducible refine rgt_int ?_ | with_reducible refine rge_int ?_ | with_reducible refine rneg_int ?_ | with_reducible refine rin_sgn ?_ | with_reducible refine rni_sgn ?_ | with_reducible refine rc_len_S ?_ ?_ | with_reducible refine rc_int_bl ?_ | with_reducible refine rc_str_int ?_ ?_ | with_reducible refine rc_str_str ?_ | with_reducible refine rc_max2 ?_ | ((with_reducible refine xc_isi ?_); refine ⟨_, true, rfl, rfl, ?_⟩) | ((with_reducible refine xc_isi ?_); refine ⟨_, false, rfl, rfl, ?_⟩) | with_reducible refine di_str ?_ | with_reducible refine di_list ?_ | with_reducible refine di_tup ?_ | with_reducible refine di_rng1 ?_ | with_reducible refine di_rng2 ?_ | with_reducible refine ift ?_ | with_reducible refine iff_ ?_ | with_reducible refine ifnt ?_ | with_reducible refine ifnf ?_ | with_reducible refine rin_strs (.inr rfl) ?_ | with_reducible refine rni_strs (.inr rfl) ?_ | with_reducible refine rin_strs (.inl rfl) ?_ | with_reducible refine rni_strs (.inl rfl) ?_ | ((with_reducible refine rin_seq (.inr rfl) ?_ ?_ ?_); rfl; rfl) | ((with_reducible refine rin_seq (.inl rfl) ?_ ?_ ?_); rfl; rfl) | ((with_reducible refine rni_seq (.inr rfl) ?_ ?_ ?_); rfl; rfl) | ((with_reducible refine rni_seq (.inl rfl) ?_ ?_ ?_); rfl; rfl) | (with_reducible refine xix_tup ?_) | ((with_reducible refine xc_len ?_); refine ⟨_, .inl rfl, ?_⟩) | ((with_reducible refine xc_len ?_); refine ⟨_, .inr rfl, ?_⟩) | (with_reducible refine rm_count ?_) | (with_reducible refine ⟨_, rfl, ?_⟩) | (with_reducible refine ⟨_, _, rfl, ?_⟩) | ((with_reducible refine xix_lst ?_); refine ⟨_, rfl, _, rfl, ?_⟩) | ((with_reducible refine xadd_lst ?_); refine ⟨_, rfl, _, rfl, ?_, ?_⟩) | with_reducible refine rmul_int ?_ ?_ | with_reducible refine rmod_int ?_ ?_ | with_reducible refine rfdiv_int ?_ ?_ | with_reducible refine rpow_int ?_ ?_ | with_reducible refine xg_setL ?_ | refine ⟨_, _, _, _, rfl, rfl, rfl, rfl, ?_⟩ | with_reducible refine xg_name ?_ | with_reducible refine xg_tup rfl ?_ | with_reducible refine xgs_name ?_ | with_reducible refine xgs_nil ?_ | (with_reducible refine ⟨Nat.le_of_ble_eq_true rfl, ?_⟩) | fail))
section
variable {K : Frag} {mg : Str → Option Value} {ρ : DL.Env} {γ : Ga} {Q : QD}
theorem dl_L_listed (T : Tx K mg) (s : SpD) (dp : Nat) (hrec : ∀ ds γ q e, (dp = 0 → (∃ x, ds = [x] ∧ x.flat = true ∧ q x γ)) → (∀ dp', dp = dp' + 1 → spLst K dp' ds γ q e) → s ds γ q e) : DL_L_listed K s (spLst K dp) := by
  rintro ds γ q e' lo1 lo2 ⟨x, rfl, hx⟩
  refine dS_env (ρ' := [some x, none]) rfl ?_
  unfold t_L_listed
  rcases hx with ⟨e, rfl, hdp, hq⟩ | ⟨hf, hq⟩
  · have main : ∀ xs : List (D × D), e.d = .tup (xs.map (·.1)) → e.dl = .lst (xs.map (·.2)) → xs.length ≤ 3 → (∀ p ∈ xs, (p.1.flat = true ∧ p.2 = p.1) ∨ ∃ a : Ex, p.1 = a.d ∧ p.2 = a.dl ∧ a.dep + 1 ≤ dp) →
        dS K γ.length (tRet (tIf (tB (tCB (rIsi K) (tCons (tVar 0) (tCons (tC (.ty "tuple")) tNil)))) (tLc (iTup K (tVar 0)) (gName 1) tYes (tCall (toSp K s) [] E0 (tCons (tVar 1) tNil)) [1]) (tVar 0))) [some e.d, none] γ ⟨fun _ γ' => Dr γ.length q .non γ', Dr γ.length q, fun _ _ => False, fun _ _ => False⟩ := by
      intro xs h1 h2 h3 h4
      rw [h1]
      walk_at "GO"
      refine xe_lcN xs (·.1) (·.2) (by simp) ?_
      walk_at "GO"
      refine ⟨rfl, by omega, fun p hp => ?_, ?_⟩
      · walk_at "GO"
        refine hrec _ _ _ _ (fun h0 => ?_) (fun dp' hd => ?_)
        · rcases h4 p hp with ⟨f1, f2⟩ | ⟨a, f1, f2, f3⟩
          · exact ⟨_, rfl, f1, f2.symm, rfl⟩
          · omega
        · rcases h4 p hp with ⟨f1, f2⟩ | ⟨a, f1, f2, f3⟩
          · exact ⟨_, rfl, .inr ⟨f1, f2.symm, rfl⟩⟩
          · refine ⟨_, rfl, .inl ⟨a, f1, by omega, ?_, rfl⟩⟩
            exact f2.symm
      · rw [← h2]
        exact .inl hq
    cases e with
    | num z => exact main [(.str (S sNumber), .str (S sNumber)), (.int z, .int z)] rfl rfl (by simp) (by
        intro p hp
        simp at hp
        rcases hp with rfl | rfl <;> exact .inl ⟨rfl, rfl⟩)
    | var l => exact main [(.str (S sVariable), .str (S sVariable)), (.str (S l), .str (S l))] rfl rfl (by simp) (by
        intro p hp
        simp at hp
        rcases hp with rfl | rfl <;> exact .inl ⟨rfl, rfl⟩)
    | neg a => exact main [(.str (S sNegate), .str (S sNegate)), (a.d, a.dl)] rfl rfl (by simp) (by
        intro p hp
        simp only [Ex.dep] at hdp
        simp at hp
        rcases hp with rfl | rfl
        · exact .inl ⟨rfl, rfl⟩
        · exact .inr ⟨a, rfl, rfl, by omega⟩)
    | nt a => exact main [(.str (S sNot), .str (S sNot)), (a.d, a.dl)] rfl rfl (by simp) (by
        intro p hp
        simp only [Ex.dep] at hdp
        simp at hp
        rcases hp with rfl | rfl
        · exact .inl ⟨rfl, rfl⟩
        · exact .inr ⟨a, rfl, rfl, by omega⟩)
    | bin o a b => exact main [(.str (S o), .str (S o)), (a.d, a.dl), (b.d, b.dl)] rfl rfl (by simp) (by
        intro p hp
        simp only [Ex.dep] at hdp
        simp at hp
        rcases hp with rfl | rfl | rfl
        · exact .inl ⟨rfl, rfl⟩
        · exact .inr ⟨a, rfl, rfl, by omega⟩
        · exact .inr ⟨b, rfl, rfl, by omega⟩)
    | cmp o a b => exact main [(.str (S o), .str (S o)), (a.d, a.dl), (b.d, b.dl)] rfl rfl (by simp) (by
        intro p hp
        simp only [Ex.dep] at hdp
        simp at hp
        rcases hp with rfl | rfl | rfl
        · exact .inl ⟨rfl, rfl⟩
        · exact .inr ⟨a, rfl, rfl, by omega⟩
        · exact .inr ⟨b, rfl, rfl, by omega⟩)
    | con o a b => exact main [(.str (S o), .str (S o)), (a.d, a.dl), (b.d, b.dl)] rfl rfl (by simp) (by
        intro p hp
        simp only [Ex.dep] at hdp
        simp at hp
        rcases hp with rfl | rfl | rfl
        · exact .inl ⟨rfl, rfl⟩
        · exact .inr ⟨a, rfl, rfl, by omega⟩
        · exact .inr ⟨b, rfl, rfl, by omega⟩)
  · cases x with
    | str y =>
      walk_at "GO"
      exact .inl hq
    | int y =>
      walk_at "GO"
      exact .inl hq
    | bl y =>
      walk_at "GO"
      exact .inl hq
    | non =>
      walk_at "GO"
      exact .inl hq
    | _ => cases hf
theorem dl_L_parsed (T : Tx K mg) : DL_L_parsed K (sp_L_parsed K) := by
  rintro ds γ q e lo1 lo2 ⟨c, l, d, t, rfl, hl, hd, hp, ht, hq⟩
  refine dS_env (ρ' := [some (.str (S [c])), some (.str (S l)), none, none]) rfl ?_
  unfold t_L_parsed
  rcases hp with ⟨rfl, hp⟩ | ⟨rfl, hp⟩
  · walk_at "GO"
    refine ifd (fun _ => ?_) (fun c => absurd rfl c)
    walk_at "GO"
    refine ⟨l, d, t, rfl, hl, hd, hp, ht, ?_⟩
    walk_at "GO"
    exact .inl hq
  · walk_at "GO"
    refine ifd (fun c => absurd c (by decide)) (fun _ => ?_)
    walk_at "GO"
    refine ⟨l, d, t, rfl, hl, hd, hp, ht, ?_⟩
    walk_at "GO"
    exact .inl hq
/-! ### the canonical text is one of the texts -/
/-- t spells the words ws, whatever stands around -/
def Rn (ws : List (List Nat)) (t : List Nat) : Prop := ∃ w0 r, ws = w0 :: r ∧ ∀ prev ws' t', (∀ p, prev = some p → grows p w0 = false) → Spl ws.getLast? ws' t' → Spl prev (ws ++ ws') (t ++ t')
/-- .. and a space may stand ahead -/
theorem spl_sp {prev : Option (List Nat)} {w : List Nat} {ws : List (List Nat)} {t : List Nat} (h : Spl none (w :: ws) t) : Spl prev (w :: ws) ([32] ++ t) := by
  obtain ⟨n, t', rfl, _, h2⟩ := h
  exact ⟨n + 1, t', by rw [List.replicate_succ]; simp, fun _ _ _ => by omega, h2⟩
theorem rn_one {w : List Nat} : Rn [w] w := by
  refine ⟨w, [], rfl, fun prev ws' t' hp h => ⟨0, t', by simp, fun p hp' hg => ?_, h⟩⟩
  rw [hp p hp'] at hg
  cases hg
theorem last_app {a b : List (List Nat)} (h : b ≠ []) : (a ++ b).getLast? = b.getLast? := by
  rw [List.getLast?_append]
  cases hb : b.getLast? with
  | none => rw [List.getLast?_eq_none_iff] at hb; exact absurd hb h
  | some x => rfl
/-- one behind the other, a space between -/
theorem rn_sp {a b : List (List Nat)} {s t : List Nat} (ha : Rn a s) (hb : Rn b t) : Rn (a ++ b) (s ++ [32] ++ t) := by
  obtain ⟨a0, ra, rfl, h1⟩ := ha
  obtain ⟨b0, rb, rfl, h2⟩ := hb
  refine ⟨a0, ra ++ b0 :: rb, rfl, fun prev ws' t' hp h => ?_⟩
  rw [last_app (by simp)] at h
  have hb' := h2 none ws' t' (fun p hp => by cases hp) h
  have := h1 prev ((b0 :: rb) ++ ws') ([32] ++ (t ++ t')) hp (spl_sp hb')
  rw [List.append_assoc, show s ++ [32] ++ t ++ t' = s ++ ([32] ++ (t ++ t')) by simp]
  exact this
/-- .. nothing between -/
theorem rn_cat {a b : List (List Nat)} {s t : List Nat} (ha : Rn a s) (hb : Rn b t) (hg : ∀ x y, a.getLast? = some x → b.head? = some y → grows x y = false) : Rn (a ++ b) (s ++ t) := by
  obtain ⟨a0, ra, rfl, h1⟩ := ha
  obtain ⟨b0, rb, rfl, h2⟩ := hb
  refine ⟨a0, ra ++ b0 :: rb, rfl, fun prev ws' t' hp h => ?_⟩
  rw [last_app (by simp)] at h
  have hb' := h2 (a0 :: ra).getLast? ws' t' (fun p hp => hg p b0 hp rfl) h
  have := h1 prev ((b0 :: rb) ++ ws') (t ++ t') hp hb'
  rw [List.append_assoc, List.append_assoc]
  exact this
theorem grows_l {x y : List Nat} (h : x ∈ [[45], [40], [91]]) : grows x y = false := by
  simp only [List.mem_cons, List.not_mem_nil, or_false] at h
  rcases h with rfl | rfl | rfl <;> (unfold grows; simp [LET, FIG])
theorem grows_r {x y : List Nat} (h : y ∈ [[41], [93]]) : grows x y = false := by
  simp only [List.mem_cons, List.not_mem_nil, or_false] at h
  rcases h with rfl | rfl <;> (unfold grows; simp [LET, FIG])
theorem rn_wrap {e : Ex} {n : Nat} {c : List (List Nat)} (h : Rn c (canon e)) : ∃ x, Wr e n c x ∧ Rn x (wrap e n (canon e)) := by
  by_cases hlt : e.rk < n
  · refine ⟨e.bo :: (c ++ [e.bc]), .inl rfl, ?_⟩
    have hb : (e.bo = [40] ∨ e.bo = [91]) ∧ (e.bc = [41] ∨ e.bc = [93]) := by cases e <;> exact ⟨by first | exact .inl rfl | exact .inr rfl, by first | exact .inl rfl | exact .inr rfl⟩
    have hbo : e.bo ∈ [[45], [40], [91]] := by rcases hb.1 with h | h <;> rw [h] <;> decide
    have hbc : e.bc ∈ [[41], [93]] := by rcases hb.2 with h | h <;> rw [h] <;> decide
    unfold wrap
    rw [if_pos hlt]
    have h1 : Rn ([e.bo] ++ c) (e.bo ++ canon e) := rn_cat rn_one h fun x y hx _ => by cases hx; exact grows_l hbo
    have h2 := rn_cat h1 (rn_one (w := e.bc)) fun x y _ hy => by cases hy; exact grows_r hbc
    exact h2
  · refine ⟨c, .inr ⟨rfl, by omega⟩, ?_⟩
    unfold wrap
    rw [if_neg hlt]
    exact h
theorem canon_rn : ∀ e : Ex, e.ok = true → ∃ c, RdC e c ∧ Rn c (canon e)
  | .num z, hok => ⟨_, rfl, rn_one⟩
  | .var l, hok => ⟨_, rfl, rn_one⟩
  | .neg a, hok => by
    obtain ⟨c, h1, h2⟩ := canon_rn a (okE_ok (ok_neg hok))
    obtain ⟨x, h3, h4⟩ := rn_wrap (n := 3) h2
    exact ⟨[45] :: x, ⟨c, x, h1, h3, rfl⟩, rn_cat rn_one h4 fun x y hx _ => by cases hx; exact grows_l (by decide)⟩
  | .nt a, hok => by
    obtain ⟨c, h1, h2⟩ := canon_rn a (okC_ok (ok_nt hok))
    obtain ⟨x, h3, h4⟩ := rn_wrap (n := 3) h2
    exact ⟨sNot :: x, ⟨c, x, h1, h3, rfl⟩, rn_sp (a := [sNot]) rn_one h4⟩
  | .cmp o a b, hok => by
    obtain ⟨ho, ha, hb⟩ := ok_cmp hok
    obtain ⟨c, h1, h2⟩ := canon_rn a (okE_ok ha)
    obtain ⟨c', h1', h2'⟩ := canon_rn b (okE_ok hb)
    have k1 := rk_cases a
    have k2 := rk_cases b
    have := rn_sp (rn_sp h2 (rn_one (w := o))) h2'
    exact ⟨c ++ o :: c', ⟨c, c, c', c', h1, .inr ⟨rfl, by omega⟩, h1', .inr ⟨rfl, by omega⟩, rfl⟩, by rw [show c ++ o :: c' = c ++ [o] ++ c' by simp]; exact this⟩
  | .bin o a b, hok => by
    obtain ⟨ho, ha, hb⟩ := ok_bin hok
    obtain ⟨c, h1, h2⟩ := canon_rn a (okE_ok ha)
    obtain ⟨c', h1', h2'⟩ := canon_rn b (okE_ok hb)
    obtain ⟨x, h3, h4⟩ := rn_wrap (n := rankOf o) h2
    obtain ⟨x', h3', h4'⟩ := rn_wrap (n := rankOf o + 1) h2'
    have := rn_sp (rn_sp h4 (rn_one (w := o))) h4'
    exact ⟨x ++ o :: x', ⟨c, x, c', x', h1, h3, h1', h3', rfl⟩, by rw [show x ++ o :: x' = x ++ [o] ++ x' by simp]; exact this⟩
  | .con o a b, hok => by
    obtain ⟨ho, ha, hb⟩ := ok_con hok
    obtain ⟨c, h1, h2⟩ := canon_rn a (okC_ok ha)
    obtain ⟨c', h1', h2'⟩ := canon_rn b (okC_ok hb)
    obtain ⟨x, h3, h4⟩ := rn_wrap (n := rankC o) h2
    obtain ⟨x', h3', h4'⟩ := rn_wrap (n := rankC o + 1) h2'
    have := rn_sp (rn_sp h4 (rn_one (w := o))) h4'
    exact ⟨x ++ o :: x', ⟨c, x, c', x', h1, h3, h1', h3', rfl⟩, by rw [show x ++ o :: x' = x ++ [o] ++ x' by simp]; exact this⟩
theorem canon_text {e : Ex} (hok : e.ok = true) : ∃ ws, Rd e 1 ws ∧ Spl none ws (canon e) := by
  obtain ⟨c, h1, w0, r, rfl, h2⟩ := canon_rn e hok
  have := rk_cases e
  refine ⟨_, ⟨_, h1, .inr ⟨rfl, by omega⟩⟩, ?_⟩
  have h3 := h2 none [] [] (fun p hp => by cases hp) (by intro c hc; cases hc)
  rw [List.append_nil, List.append_nil] at h3
  exact h3
end
end K07

set_option Elab.async false
set_option linter.all false
set_option maxRecDepth 100000
set_option maxHeartbeats 4000000
namespace K07
open PySem PySem.Spec PyProof.Rows L2 DL
section
variable {K : Frag} {mg : Str → Option Value} {ρ : DL.Env} {γ : Ga} {Q : QD}
theorem ex_shaped {e : Ex} (hok : e.ok = true) (hd : e.dep ≤ 6) : SeqAt.shaped e.d.py = true := by
  obtain ⟨p1, p2, p3, p4⟩ := ex_py e hok
  unfold SeqAt.shaped
  rw [p1]
  simp; omega
theorem ex_repr {e : Ex} (hok : e.ok = true) (hd : e.dep ≤ 6) (q : Q (.str e.d.py.shown) γ) : dRC K (rReprD K) [e.d] γ Q := by
  obtain ⟨p1, p2, p3, p4⟩ := ex_py e hok
  have := size_127 hd
  refine rc_repr (fun H α v r => ex_ref e r) ?_ ?_ ?_ ?_ ?_ ?_ <;> rw [ex_vw]
  · exact ex_pl e
  · exact p3
  · exact PyData.hasDict_of_canLay _ p1
  · omega
  · omega
  · exact q
theorem ex_ne {e : Ex} (hok : e.ok = true) (hd : e.dep ≤ 6) (q : Q (.bl false) γ) : dR2 K (rNeG K) e.d e.d γ Q := by
  obtain ⟨p1, p2, p3, p4⟩ := ex_py e hok
  refine rne_D ?_ ?_ ?_ ?_ ?_ <;> rw [ex_vw]
  · exact ex_pl e
  · exact ex_pl e
  · exact ex_shaped hok hd
  · exact ex_shaped hok hd
  · rw [SeqAt.eqv_refl _ p1]
    exact q
theorem rne_same {xs : List D} (p : (D.tup xs).pl = true) (s : SeqAt.shaped (D.tup xs).py = true) (l : (D.tup xs).py.canLay0 = true) (q : Q (.bl false) γ) : dR2 K (rNeG K) (.tup xs) (.tup xs) γ Q := by
  refine rne_D p p s s ?_
  show Q (.bl (!PyData.eqv (D.tup xs).py (D.tup xs).py)) γ
  rw [SeqAt.eqv_refl _ l]
  exact q
theorem req_same {xs : List D} (p : (D.tup xs).pl = true) (s : SeqAt.shaped (D.tup xs).py = true) (l : (D.tup xs).py.canLay0 = true) (q : Q (.bl true) γ) : dR2 K (rEqG K) (.tup xs) (.tup xs) γ Q := by
  refine req_D p p s s ?_
  show Q (.bl (PyData.eqv (D.tup xs).py (D.tup xs).py)) γ
  rw [SeqAt.eqv_refl _ l]
  exact q
theorem rne_sameL {xs : List D} (p : (D.lst xs).pl = true) (s : SeqAt.shaped (D.lst xs).py = true) (l : (D.lst xs).py.canLay0 = true) (q : Q (.bl false) γ) : dR2 K (rNeG K) (.lst xs) (.lst xs) γ Q := by
  refine rne_D p p s s ?_
  show Q (.bl (!PyData.eqv (D.lst xs).py (D.lst xs).py)) γ
  rw [SeqAt.eqv_refl _ l]
  exact q
theorem req_sameL {xs : List D} (p : (D.lst xs).pl = true) (s : SeqAt.shaped (D.lst xs).py = true) (l : (D.lst xs).py.canLay0 = true) (q : Q (.bl true) γ) : dR2 K (rEqG K) (.lst xs) (.lst xs) γ Q := by
  refine req_D p p s s ?_
  show Q (.bl (PyData.eqv (D.lst xs).py (D.lst xs).py)) γ
  rw [SeqAt.eqv_refl _ l]
  exact q
theorem text_parsed_E {e : Ex} {ws : List (List Nat)} {t : List Nat} (hok : e.okE = true) (hd : e.dep ≤ 6) (hr : Rd e 1 ws) (hs : Spl none ws t) : ∃ r0, pE41 (toks t) = some (.ok (e.d, [r0])) ∧ r0.k = .fin := by
  obtain ⟨ts, r0, h1, h2, h3⟩ := tok_text ws none t (rd_okW (okE_ok hok) hr) hs (t.length + 1) 0 (by omega)
  refine ⟨r0, ?_, h3⟩
  unfold toks
  rw [h1]
  obtain ⟨c, hc, hw⟩ := hr
  have s1 : ∀ gs, sees r0 gs = false := fun gs => by unfold sees; rw [h3]; rfl
  exact parse_E (N := 41) (by decide) hok hd hc hw h2 (s1 _) (s1 _)
/-- a text of the tree e, read as its start says -/
theorem parsed_of {e : Ex} {c : Nat} {ws : List (List Nat)} {t : List Nat} (hs : (c = 69 ∧ e.okE = true) ∨ (c = 67 ∧ e.okC = true)) (hd : e.dep ≤ 6) (hr : Rd e 1 ws) (hsp : Spl none ws t) :
    ∃ r0, ((c = 69 ∧ pE41 (toks t) = some (.ok (e.d, [r0]))) ∨ (c = 67 ∧ pC (pNeg pE14 41) (toks t) = some (.ok (e.d, [r0])))) ∧ r0.k = .fin := by
  rcases hs with ⟨rfl, h⟩ | ⟨rfl, h⟩
  · obtain ⟨r0, h1, h2⟩ := text_parsed_E h hd hr hsp
    exact ⟨r0, .inl ⟨rfl, h1⟩, h2⟩
  · obtain ⟨r0, h1, h2⟩ := text_parsed h hd hr hsp
    exact ⟨r0, .inr ⟨rfl, h1⟩, h2⟩
def eq (c : Nat) (n : Int) : Ex := .cmp [61] (.var [c]) (.num n)
def X1 : Ex := .con sAnd (.nt (.con sOr (eq 97 1) (eq 98 2))) (.cmp [60] (.var [99]) (.num 0))
def X2 : Ex := .con sOr (eq 97 1) (.con sOr (eq 98 2) (eq 99 3))
def X3 : Ex := .nt (.nt (.cmp [33, 61] (.bin [109, 111, 100] (.bin [47, 47] (.var [97]) (.num 2)) (.num 3)) (.neg (.var [98]))))
def negs : Nat → Ex
  | 0 => .num 1
  | n + 1 => .neg (negs n)
def nots : Nat → Ex
  | 0 => eq 97 1
  | n + 1 => .nt (nots n)
def X6 : Ex := .bin [42] (.neg (.bin [43] (.var [97]) (.var [98]))) (.neg (.neg (.var [99])))
def X7 : Ex := .bin [45] (.var [97]) (.bin [45] (.var [98]) (.var [99]))
def tabC : List (List Nat × Ex × List Nat) := [(canon X1, X1, canon X1), (canon X2, X2, canon X2), (canon X3, X3, canon X3)]
def tabE : List (List Nat × Ex × List Nat) := [(reps 40 [40] ++ [97] ++ reps 40 [41], .var [97], [97]), (reps 40 [45] ++ [49], negs 40, reps 40 [45] ++ [49]), ([45, 40, 97, 32, 43, 32, 98, 41, 32, 42, 32, 45, 45, 99], X6, [45, 40, 97, 32, 43, 32, 98, 41, 32, 42, 32, 45, 45, 99]), ([40, 40, 97, 41, 45, 40, 98, 45, 99, 41, 41], X7, [97, 32, 45, 32, 40, 98, 32, 45, 32, 99, 41])]
def tabF : List (List Nat × Ex × List Nat) := [(reps 40 [91] ++ [97, 32, 61, 32, 49] ++ reps 40 [93], eq 97 1, [97, 32, 61, 32, 49]), (reps 40 [110, 111, 116, 32] ++ [97, 32, 61, 32, 49], nots 40, reps 40 [110, 111, 116, 32] ++ [97, 32, 61, 32, 49])]
/-- a fixed text: what it is read as, and its canonical text -/
def GoodE (p : List Nat × Ex × List Nat) : Prop := p.1.length ≤ 100000 ∧ (∃ r0 : Tkn, pE41 (toks p.1) = some (.ok (p.2.1.d, [r0])) ∧ r0.k = .fin) ∧ canon p.2.1 = p.2.2 ∧ p.2.1.ok = true ∧ p.2.1.dep ≤ 45 ∧ p.2.1.size ≤ 400
def GoodC (p : List Nat × Ex × List Nat) : Prop := p.1.length ≤ 100000 ∧ (∃ r0 : Tkn, pC (pNeg pE14 41) (toks p.1) = some (.ok (p.2.1.d, [r0])) ∧ r0.k = .fin) ∧ canon p.2.1 = p.2.2 ∧ p.2.1.ok = true ∧ p.2.1.dep ≤ 45 ∧ p.2.1.size ≤ 400
theorem good_tabC : ∀ p ∈ tabC, GoodC p := by
  intro p hp
  simp only [tabC, List.mem_cons, List.not_mem_nil, or_false] at hp
  rcases hp with rfl | rfl | rfl
  · exact ⟨by decide +kernel, ⟨⟨.fin, [], 30⟩, by kernel_rfl, rfl⟩, rfl, by decide +kernel, by decide +kernel, by decide +kernel⟩
  · exact ⟨by decide +kernel, ⟨⟨.fin, [], 25⟩, by kernel_rfl, rfl⟩, rfl, by decide +kernel, by decide +kernel, by decide +kernel⟩
  · exact ⟨by decide +kernel, ⟨⟨.fin, [], 26⟩, by kernel_rfl, rfl⟩, rfl, by decide +kernel, by decide +kernel, by decide +kernel⟩
theorem good_tabE : ∀ p ∈ tabE, GoodE p := by
  intro p hp
  simp only [tabE, List.mem_cons, List.not_mem_nil, or_false] at hp
  rcases hp with rfl | rfl | rfl | rfl
  · exact ⟨by decide +kernel, ⟨⟨.fin, [], 81⟩, by kernel_rfl, rfl⟩, by decide +kernel, by decide +kernel, by decide +kernel, by decide +kernel⟩
  · exact ⟨by decide +kernel, ⟨⟨.fin, [], 41⟩, by kernel_rfl, rfl⟩, by decide +kernel, by decide +kernel, by decide +kernel, by decide +kernel⟩
  · exact ⟨by decide +kernel, ⟨⟨.fin, [], 14⟩, by kernel_rfl, rfl⟩, by decide +kernel, by decide +kernel, by decide +kernel, by decide +kernel⟩
  · exact ⟨by decide +kernel, ⟨⟨.fin, [], 11⟩, by kernel_rfl, rfl⟩, by decide +kernel, by decide +kernel, by decide +kernel, by decide +kernel⟩
theorem good_tabF : ∀ p ∈ tabF, GoodC p := by
  intro p hp
  simp only [tabF, List.mem_cons, List.not_mem_nil, or_false] at hp
  rcases hp with rfl | rfl
  · exact ⟨by decide +kernel, ⟨⟨.fin, [], 85⟩, by kernel_rfl, rfl⟩, by decide +kernel, by decide +kernel, by decide +kernel, by decide +kernel⟩
  · exact ⟨by decide +kernel, ⟨⟨.fin, [], 165⟩, by kernel_rfl, rfl⟩, by decide +kernel, by decide +kernel, by decide +kernel, by decide +kernel⟩
end
end K07

set_option Elab.async false
set_option linter.all false
set_option maxRecDepth 100000
set_option maxHeartbeats 4000000
namespace K07
open PySem PySem.Spec PyProof.Rows L2 DL
local macro_rules | `(tactic| walk_at "GO") => `(tactic| repeat' (first | with_reducible refine xs_seq ?_ | with_reducible refine xs_set ?_ | with_reducible refine xs_asg ?_ | with_reducible refine xs_if ?_ | with_reducible refine xs_ret ?_ | with_reducible refine xs_next ?_ | with_reducible refine xs_expr ?_ | with_reducible refine xs_fld ?_ | with_reducible refine xs_par ?_ | with_reducible refine xs_retN ?_ | with_reducible refine xs_brk ?_ | with_reducible refine xp_nil ?_ | with_reducible refine xp_cons ?_ | with_reducible refine xe_disp ?_ | with_reducible refine de_dget2 ?_ | with_reducible refine xs_cont ?_ | with_reducible refine da_nil ?_ | with_reducible refine da_cons ?_ | with_reducible refine de_int ?_ | with_reducible refine de_str ?_ | with_reducible refine de_bl ?_ | with_reducible refine de_non ?_ | with_reducible refine de_ty ?_ | ((with_reducible refine xe_var ?_); refine ⟨_, rfl, ?_⟩) | with_reducible refine de_op ?_ | with_reducible refine de_un ?_ | with_reducible refine de_call ?_ | with_reducible refine de_cb ?_ | with_reducible refine de_sl ?_ | with_reducible refine do_none ?_ | with_reducible refine do_some ?_ | with_reducible refine de_if ?_ | with_reducible refine de_andV ?_ | with_reducible refine de_orV ?_ | with_reducible refine de_notV ?_ | with_reducible refine de_chain ?_ | with_reducible refine dt_test ?_ | with_reducible refine dt_B ?_ | with_reducible refine dt_and ?_ | with_reducible refine dt_or ?_ | with_reducible refine dt_not ?_ | (with_reducible refine xe_tup ?_) | (with_reducible refine xe_lst ?_) | (with_reducible refine xe_lstM ?_) | (with_reducible refine de_meth ?_) | (with_reducible refine de_bm ?_) | (with_reducible refine de_bm0 ?_) | (with_reducible refine ⟨isTy_str, ?_⟩) | (with_reducible refine ⟨xty_lst ⟨_, rfl⟩, ?_⟩) | with_reducible refine radd_int ?_ | with_reducible refine radd_S ?_ ?_ | with_reducible refine rsub_int ?_ | with_reducible refine req_int ?_ | with_reducible refine rne_int ?_ | with_reducible refine req_S ?_ | with_reducible refine rne_S ?_ | with_reducible refine rlt_int ?_ | with_reducible refine rle_int ?_ | with_reducible refine rgt_int ?_ | with_reducible refine rge_int ?_ | with_reducible refine rneg_int ?_ | with_reducible refine rin_sgn ?_ | with_reducible refine rni_sgn ?_ | with_reducible refine rc_len_S ?_ ?_ | with_reducible refine rc_int_bl ?_ | with_reducible refine rc_str_int ?_ ?_ | with_reducible refine rc_str_str ?_ | with_reducible refine rc_max2 ?_ | ((with_reducible refine xc_isi ?_); refine ⟨_, true, rfl, rfl, ?_⟩) | ((with_reducible refine xc_isi ?_); refine ⟨_, false, rfl, rfl, ?_⟩) | with_reducible refine di_str ?_ | with_reducible refine di_list ?_ | with_reducible refine di_tup ?_ | with_reducible refine di_rng1 ?_ | with_reducible refine di_rng2 ?_ | with_reducible refine ift ?_ | with_reducible refine iff_ ?_ | with_reducible refine ifnt ?_ | with_reducible refine ifnf ?_ | with_reducible refine rin_strs (.inr rfl) ?_ | with_reducible refine rni_strs (.inr rfl) ?_ | with_reducible refine rin_strs (.inl rfl) ?_ | with_reducible refine rni_strs (.inl rfl) ?_ | ((with_reducible refine rin_seq (.inr rfl) ?_ ?_ ?_); rfl; rfl) | ((with_reducible refine rin_seq (.inl rfl) ?_ ?_ ?_); rfl; rfl) | ((with_reducible refine rni_seq (.inr rfl) ?_ ?_ ?_); rfl; rfl) | ((with_reducible refine rni_seq (.inl rfl) ?_ ?_ ?_); rfl; rfl) | (with_reducible refine xix_tup ?_) | ((with_reducible refine xc_len ?_); refine ⟨_, .inl rfl, ?_⟩) | ((with_reducible refine xc_len ?_); refine ⟨_, .inr rfl, ?_⟩) | (with_reducible refine rm_count ?_) | (with_reducible refine ⟨_, rfl, ?_⟩) | (with_reducible refine ⟨_, _, rfl, ?_⟩) | ((with_reducible refine xix_lst ?_); refine ⟨_, rfl, _, rfl, ?_⟩) | ((with_reducible refine xadd_lst ?_); refine ⟨_, rfl, _, rfl, ?_, ?_⟩) | with_reducible refine rmul_int ?_ ?_ | with_reducible refine rmod_int ?_ ?_ | with_reducible refine rfdiv_int ?_ ?_ | with_reducible refine rpow_int ?_ ?_ | with_reducible refine xg_setL ?_ | refine ⟨_, _, _, _, rfl, rfl, rfl, rfl, ?_⟩ | with_reducible refine xg_name ?_ | with_reducible refine xg_tup rfl ?_ | with_reducible refine xgs_name ?_ | with_reducible refine xgs_nil ?_ | (with_reducible refine ⟨Nat.le_of_ble_eq_true rfl, ?_⟩) | fail))
section
variable {K : Frag} {mg : Str → Option Value} {ρ : DL.Env} {γ : Ga} {Q : QD}
theorem dl_law (T : Tx K mg) : DL_law K := by
  intro a ns hl
  refine dS_env (ρ' := [some (.ref a), some (.loc 1), none, none, none, none, none, none, none, none, none, none]) rfl ?_
  unfold t_law
  refine xs_cut (fun ρ' γ' => ∃ x2 x3 x4 x5 x6 x7 x8 x9 x10, ρ' = [some (.ref a), some (.loc 1), x2, x3, x4, x5, x6, x7, x8, x9, x10, none]) ?_ ?_
  · refine xs_for [2] ?_
    walk_at "GO"
    refine ⟨by decide, by decide, ?_⟩
    refine ⟨fun i ρ' γ' => i ≤ 6 ∧ (∃ x2 x3 x4 x5 x6 x7 x8 x9 x10, ρ' = [some (.ref a), some (.loc 1), x2, x3, x4, x5, x6, x7, x8, x9, x10, none]) ∧ ∃ A B rest, γ' = A :: B :: rest ∧ Strm (16000 - 2300 * i) A B,
      ⟨by omega, ⟨_, _, _, _, _, _, _, _, _, rfl⟩, _, _, [], rfl, ns, 0, 0, 0, rfl, rfl, by decide, by decide, by decide, by decide, by decide⟩, ?_, ?_⟩
    · rintro i x ρ' γ' hi ⟨hi6, ⟨x2, x3, x4, x5, x6, x7, x8, x9, x10, rfl⟩, A, B, rest, rfl, hs⟩
      have hi5 : i < 6 := (List.getElem?_eq_some_iff.mp hi).1
      refine dg_name ?_
      refine xs_cut (fun ρ' γ' => ∃ ws A' B', ρ' = [some (.ref a), some (.loc 1), some x, some (.lst (strsD ws)), x4, x5, x6, x7, x8, x9, x10, none] ∧ γ' = A' :: B' :: rest ∧ Strm (13700 - 2300 * i + 2273) A' B' ∧ ws.length = 3 ∧ ∀ l ∈ ws, isName l = true) ?_ ?_
      · walk_at "GO"
        refine ⟨13700 - 2300 * i + 2273, A, B, rest, rfl, rfl, hs.mono (by omega), fun ws A1 B1 h1 h2 hs1 => ⟨ws, A1, B1, rfl, rfl, hs1, h1, h2⟩⟩
      rintro ρ' γ' ⟨ws, A1, B1, rfl, rfl, hs1, h1, h2⟩
      refine xs_cut (fun ρ' γ' => ∃ c A' B', ρ' = [some (.ref a), some (.loc 1), some x, some (.lst (strsD ws)), some (.str (S [c])), x5, x6, x7, x8, x9, x10, none] ∧ γ' = A' :: B' :: rest ∧ Strm (13700 - 2300 * i + 2272) A' B' ∧ (c = 69 ∨ c = 67)) ?_ ?_
      · walk_at "GO"
        refine ⟨13700 - 2300 * i + 2272, 2, A1, B1, rest, rfl, by decide, by decide, rfl, hs1, fun d A2 B2 h3 h4 hs2 => ?_⟩
        have hd : d = 0 ∨ d = 1 := by omega
        rcases hd with rfl | rfl
        · exact xix_str (by decide) ⟨69, rfl, 69, A2, B2, rfl, rfl, hs2, .inl rfl⟩
        · exact xix_str (by decide) ⟨67, rfl, 67, A2, B2, rfl, rfl, hs2, .inr rfl⟩
      rintro ρ' γ' ⟨c, A2, B2, rfl, rfl, hs2, hc⟩
      refine xs_cut (fun ρ' γ' => ∃ k : Nat, ∃ A' B', ρ' = [some (.ref a), some (.loc 1), some x, some (.lst (strsD ws)), some (.str (S [c])), some (.int k), x6, x7, x8, x9, x10, none] ∧ γ' = A' :: B' :: rest ∧ Strm (13700 - 2300 * i + 2271) A' B' ∧ k ≤ 3) ?_ ?_
      · walk_at "GO"
        refine ⟨13700 - 2300 * i + 2271, 3, A2, B2, rest, rfl, by decide, by decide, rfl, hs2, fun d A3 B3 h3 h4 hs3 => ?_⟩
        walk_at "GO"
        refine ⟨(1 + d).toNat, A3, B3, ?_, rfl, hs3, by omega⟩
        rw [show (((1 + d).toNat : Nat) : Int) = 1 + d by omega]
        rfl
      rintro ρ' γ' ⟨k, A3, B3, rfl, rfl, hs3, hk3⟩
      refine xs_cut (fun ρ' γ' => ∃ e : Ex, ∃ A' B', ρ' = [some (.ref a), some (.loc 1), some x, some (.lst (strsD ws)), some (.str (S [c])), some (.int k), some e.d, x7, x8, x9, x10, none] ∧ γ' = A' :: B' :: rest ∧ Strm (13700 - 2300 * i + 700) A' B' ∧ ((c = 69 ∧ e.okE = true) ∨ (c = 67 ∧ e.okC = true)) ∧ e.dep ≤ 6) ?_ ?_
      · walk_at "GO"
        rcases hc with rfl | rfl
        · refine ifd (fun _ => ?_) (fun z => absurd rfl z)
          walk_at "GO"
          have hb : bS (k + 1) ≤ 93 := by
            have : ∀ k, k ≤ 3 → bS (k + 1) ≤ 93 := by decide
            exact this k hk3
          rw [show (k : Int) + 1 = ((k + 1 : Nat) : Int) by simp]
          exact ⟨13700 - 2300 * i + 700, A3, B3, rest, ws, k + 1, rfl, by omega, h1, h2, rfl, hs3.mono (by omega), fun e A4 B4 hok hd hs4 => ⟨e, A4, B4, rfl, rfl, hs4, .inl ⟨rfl, hok⟩, by omega⟩⟩
        · refine ifd (fun z => absurd z (by decide)) (fun _ => ?_)
          walk_at "GO"
          have hb : bT k ≤ 1500 := by
            have : ∀ k, k ≤ 3 → bT k ≤ 1500 := by decide
            exact this k hk3
          exact ⟨13700 - 2300 * i + 700, A3, B3, rest, ws, k, rfl, by omega, h1, h2, rfl, hs3.mono (by omega), fun e A4 B4 hok hd hs4 => ⟨e, A4, B4, rfl, rfl, hs4, .inr ⟨rfl, hok⟩, by omega⟩⟩
      rintro ρ' γ' ⟨e, A4, B4, rfl, rfl, hs4, hst, hd6⟩
      have hok : e.ok = true := by
        rcases hst with ⟨_, h⟩ | ⟨_, h⟩
        · exact okE_ok h
        · exact okC_ok h
      have hsz := size_127 hd6
      have hcl := canon_len e hok
      have hrk := rk_cases e
      have hw1 : wrap e 1 (canon e) = canon e := by unfold wrap; rw [if_neg (by omega)]
      walk_at "GO"
      refine ⟨e, 1, rfl, hok, hd6, by omega, by decide, by decide, ?_⟩
      rw [hw1]
      walk_at "GO"
      refine ⟨13700 - 2300 * i + 500, A4, B4, rest, e, 1, rfl, hok, hd6, hd6, by decide, rfl, hs4.mono (by omega), fun ts A5 B5 hr hs5 => ?_⟩
      obtain ⟨cc, hcc, hw⟩ := id hr
      have l1 := rdc_len e cc hcc
      have l2 := wr_len hw
      walk_at "GO"
      refine ⟨13700 - 2300 * i + 100, A5, B5, rest, ts, rfl, by omega, fun w hw => okW_len (rd_okW hok hr w hw), rfl, hs5.mono (by omega), fun t ps A6 B6 hsp htl hs6 => ?_⟩
      refine xg_lst ⟨_, rfl, rfl, ?_⟩
      walk_at "GO"
      refine ⟨canon e, rfl, by omega, fun b => ?_⟩
      obtain ⟨wsc, hrc, hspc⟩ := canon_text hok
      obtain ⟨r0, hp, hr0⟩ := parsed_of hst hd6 hrc hspc
      obtain ⟨r1, hp1, hr1⟩ := parsed_of hst hd6 hr hsp
      cases b with
      | false =>
        walk_at "GO"
        exact ⟨by omega, ⟨_, _, _, _, _, _, _, _, _, rfl⟩, _, _, _, rfl, hs6.mono (by omega)⟩
      | true =>
        walk_at "GO"
        refine ⟨e.d, rfl, .inl ⟨e, rfl, hd6, ?_⟩⟩
        walk_at "GO"
        refine ⟨13700 - 2300 * i + 99, 2, A6, B6, rest ++ [.lst ps], rfl, by decide, by decide, rfl, hs6, fun d A7 B7 hd0 hd1 hs7 => ?_⟩
        have hx : ∃ x, atI [e.d, e.dl] d = some x ∧ NE x e := by
          have hd : d = 0 ∨ d = 1 := by omega
          rcases hd with rfl | rfl
          · exact ⟨_, rfl, .inl rfl⟩
          · exact ⟨_, rfl, .inr rfl⟩
        obtain ⟨x', hx1, hx2⟩ := hx
        refine xix_lst ⟨_, rfl, _, hx1, ?_⟩
        walk_at "GO"
        refine ⟨x', e, rfl, hx2, hok, by omega, by omega, ?_⟩
        walk_at "GO"
        refine ifnd (fun z => absurd rfl z) (fun _ => ?_)
        walk_at "GO"
        refine ⟨x', e, rfl, hx2, hok, by omega, by omega, ?_⟩
        walk_at "GO"
        refine ifnd (fun z => absurd rfl z) (fun _ => ?_)
        walk_at "GO"
        refine ⟨c, canon e, e.d, r0, rfl, by omega, ex_lo e, hp, hr0, ?_⟩
        walk_at "GO"
        refine ex_ne hok hd6 ?_
        walk_at "GO"
        refine ⟨t, rfl, htl, fun b => ?_⟩
        walk_at "GO"
        cases b with
        | false =>
          walk_at "GO"
          exact ⟨by omega, ⟨_, _, _, _, _, _, _, _, _, rfl⟩, _, _, _, rfl, hs7.mono (by omega)⟩
        | true =>
          walk_at "GO"
          refine ⟨c, t, e.d, r1, rfl, htl, ex_lo e, hp1, hr1, ?_⟩
          walk_at "GO"
          refine ⟨e.d, e, rfl, .inl rfl, hok, by omega, by omega, ?_⟩
          walk_at "GO"
          refine ifnd (fun z => absurd rfl z) (fun _ => ?_)
          walk_at "GO"
          exact ⟨by omega, ⟨_, _, _, _, _, _, _, _, _, rfl⟩, _, _, _, rfl, hs7.mono (by omega)⟩
    · rintro ρ' γ' ⟨_, h, _⟩
      exact h
  rintro ρ' γ' ⟨x2, x3, x4, x5, x6, x7, x8, x9, x10, rfl⟩
  refine xs_cut (fun ρ' γ' => ∃ x8, ρ' = [some (.ref a), some (.loc 1), x2, x3, x4, x5, x6, x7, x8, x9, x10, none]) ?_ ?_
  · refine xs_for [8] ?_
    walk_at "GO"
    refine ⟨fun i ρ' γ' => ∃ x8, ρ' = [some (.ref a), some (.loc 1), x2, x3, x4, x5, x6, x7, x8, x9, x10, none], ⟨_, rfl⟩, ?_, fun ρ' γ' h => h⟩
    rintro i x ρ' γ' hi ⟨x8, rfl⟩
    have hx : ∃ p ∈ tabC, x = .str (S p.1) ∧ p.1 = p.2.2 := by
      match i, hi with
      | 0, hi => cases hi; exact ⟨(canon X1, X1, canon X1), by simp [tabC], rfl, rfl⟩
      | 1, hi => cases hi; exact ⟨(canon X2, X2, canon X2), by simp [tabC], rfl, rfl⟩
      | 2, hi => cases hi; exact ⟨(canon X3, X3, canon X3), by simp [tabC], rfl, rfl⟩
      | i + 3, hi => cases hi
    obtain ⟨p, hp, rfl, hpe⟩ := hx
    obtain ⟨g1, ⟨r0, g2, g3⟩, g4, g5, g6, g7⟩ := good_tabC p hp
    refine dg_name ?_
    walk_at "GO"
    refine ⟨p.1, p.2.1.d, r0, rfl, g1, ex_lo _, g2, g3, ?_⟩
    walk_at "GO"
    refine ⟨p.2.1.d, p.2.1, rfl, .inl rfl, g5, g6, g7, ?_⟩
    rw [g4, ← hpe]
    walk_at "GO"
    refine ifnd (fun z => absurd rfl z) (fun _ => ?_)
    walk_at "GO"
    exact ⟨_, rfl⟩
  rintro ρ' γ' ⟨x8, rfl⟩
  have m40 : ∀ {l : List Nat} {γ : Ga} {Q : QD}, l.length ≤ 10 → Q (.str (S (reps 40 l))) γ → dR2 K (rMulG K) (.str (S l)) (.int 40) γ Q := fun hl h => rmul_str (n := 40) (by omega) (by decide) h
  walk_at "GO"
  refine m40 (by decide) ?_
  walk_at "GO"
  · decide +kernel
  refine m40 (by decide) ?_
  walk_at "GO"
  · decide +kernel
  refine m40 (by decide) ?_
  walk_at "GO"
  · decide +kernel
  refine xe_lcN tabE (fun p => .str (S p.1)) (fun p => .str (S p.2.2)) (by simp) ?_
  walk_at "GO"
  refine ⟨rfl, by decide, fun p hp => ?_, ?_⟩
  · obtain ⟨g1, ⟨r0, g2, g3⟩, g4, g5, g6, g7⟩ := good_tabE p hp
    walk_at "GO"
    refine ⟨p.1, p.2.1.d, r0, rfl, g1, ex_lo _, g2, g3, ?_⟩
    walk_at "GO"
    refine ⟨p.2.1.d, p.2.1, rfl, .inl rfl, g5, g6, g7, ?_⟩
    rw [g4]
    exact ⟨rfl, rfl⟩
  walk_at "GO"
  refine m40 (by decide) ?_
  walk_at "GO"
  · decide +kernel
  refine rne_sameL (xs := tabE.map fun p => D.str (S p.2.2)) (by decide +kernel) (by decide +kernel) (by decide +kernel) ?_
  walk_at "GO"
  refine m40 (by decide) ?_
  walk_at "GO"
  · decide +kernel
  refine m40 (by decide) ?_
  walk_at "GO"
  · decide +kernel
  refine m40 (by decide) ?_
  walk_at "GO"
  · decide +kernel
  refine xe_lcN tabF (fun p => .str (S p.1)) (fun p => .str (S p.2.2)) (by simp) ?_
  walk_at "GO"
  refine ⟨rfl, by decide, fun p hp => ?_, ?_⟩
  · obtain ⟨g1, ⟨r0, g2, g3⟩, g4, g5, g6, g7⟩ := good_tabF p hp
    walk_at "GO"
    refine ⟨p.1, p.2.1.d, r0, rfl, g1, ex_lo _, g2, g3, ?_⟩
    walk_at "GO"
    refine ⟨p.2.1.d, p.2.1, rfl, .inl rfl, g5, g6, g7, ?_⟩
    rw [g4]
    exact ⟨rfl, rfl⟩
  walk_at "GO"
  refine m40 (by decide) ?_
  walk_at "GO"
  · decide +kernel
  refine req_sameL (xs := tabF.map fun p => D.str (S p.2.2)) (by decide +kernel) (by decide +kernel) (by decide +kernel) ?_
  rfl
end
end K07

set_option Elab.async false
set_option linter.all false
set_option maxRecDepth 100000
set_option maxHeartbeats 4000000
namespace K07
open PySem PySem.Spec PyProof.Rows L2 DL
local macro_rules | `(tactic| walk_at "GO") => `(tactic| repeat' (first | with_reducible refine xs_seq ?_ | with_reducible refine xs_set ?_ | with_reducible refine xs_asg ?_ | with_reducible refine xs_if ?_ | with_reducible refine xs_ret ?_ | with_reducible refine xs_next ?_ | with_reducible refine xs_expr ?_ | with_reducible refine xs_fld ?_ | with_reducible refine xs_par ?_ | with_reducible refine xs_retN ?_ | with_reducible refine xs_brk ?_ | with_reducible refine xp_nil ?_ | with_reducible refine xp_cons ?_ | with_reducible refine xe_disp ?_ | with_reducible refine de_dget2 ?_ | with_reducible refine xs_cont ?_ | with_reducible refine da_nil ?_ | with_reducible refine da_cons ?_ | with_reducible refine de_int ?_ | with_reducible refine de_str ?_ | with_reducible refine de_bl ?_ | with_reducible refine de_non ?_ | with_reducible refine de_ty ?_ | ((with_reducible refine xe_var ?_); refine ⟨_, rfl, ?_⟩) | with_reducible refine de_op ?_ | with_reducible refine de_un ?_ | with_reducible refine de_call ?_ | with_reducible refine de_cb ?_ | with_reducible refine de_sl ?_ | with_reducible refine do_none ?_ | with_reducible refine do_some ?_ | with_reducible refine de_if ?_ | with_reducible refine de_andV ?_ | with_reducible refine de_orV ?_ | with_reducible refine de_notV ?_ | with_reducible refine de_chain ?_ | with_reducible refine dt_test ?_ | with_reducible refine dt_B ?_ | with_reducible refine dt_and ?_ | with_reducible refine dt_or ?_ | with_reducible refine dt_not ?_ | (with_reducible refine xe_tup ?_) | (with_reducible refine xe_lst ?_) | (with_reducible refine xe_lstM ?_) | (with_reducible refine de_meth ?_) | (with_reducible refine de_bm ?_) | (with_reducible refine de_bm0 ?_) | (with_reducible refine ⟨isTy_str, ?_⟩) | (with_reducible refine ⟨xty_lst ⟨_, rfl⟩, ?_⟩) | with_reducible refine radd_int ?_ | with_reducible refine radd_S ?_ ?_ | with_reducible refine rsub_int ?_ | with_reducible refine req_int ?_ | with_reducible refine rne_int ?_ | with_reducible refine req_S ?_ | with_reducible refine rne_S ?_ | with_reducible refine rlt_int ?_ | with_reducible refine rle_int ?_ | with_reducible refine rgt_int ?_ | with_reducible refine rge_int ?_ | with_reducible refine rneg_int ?_ | with_reducible refine rin_sgn ?_ | with_reducible refine rni_sgn ?_ | with_reducible refine rc_len_S ?_ ?_ | with_reducible refine rc_int_bl ?_ | with_reducible refine rc_str_int ?_ ?_ | with_reducible refine rc_str_str ?_ | with_reducible refine rc_max2 ?_ | ((with_reducible refine xc_isi ?_); refine ⟨_, true, rfl, rfl, ?_⟩) | ((with_reducible refine xc_isi ?_); refine ⟨_, false, rfl, rfl, ?_⟩) | with_reducible refine di_str ?_ | with_reducible refine di_list ?_ | with_reducible refine di_tup ?_ | with_reducible refine di_rng1 ?_ | with_reducible refine di_rng2 ?_ | with_reducible refine ift ?_ | with_reducible refine iff_ ?_ | with_reducible refine ifnt ?_ | with_reducible refine ifnf ?_ | with_reducible refine rin_strs (.inr rfl) ?_ | with_reducible refine rni_strs (.inr rfl) ?_ | with_reducible refine rin_strs (.inl rfl) ?_ | with_reducible refine rni_strs (.inl rfl) ?_ | ((with_reducible refine rin_seq (.inr rfl) ?_ ?_ ?_); rfl; rfl) | ((with_reducible refine rin_seq (.inl rfl) ?_ ?_ ?_); rfl; rfl) | ((with_reducible refine rni_seq (.inr rfl) ?_ ?_ ?_); rfl; rfl) | ((with_reducible refine rni_seq (.inl rfl) ?_ ?_ ?_); rfl; rfl) | (with_reducible refine xix_tup ?_) | ((with_reducible refine xc_len ?_); refine ⟨_, .inl rfl, ?_⟩) | ((with_reducible refine xc_len ?_); refine ⟨_, .inr rfl, ?_⟩) | (with_reducible refine rm_count ?_) | (with_reducible refine ⟨_, rfl, ?_⟩) | (with_reducible refine ⟨_, _, rfl, ?_⟩) | ((with_reducible refine xix_lst ?_); refine ⟨_, rfl, _, rfl, ?_⟩) | ((with_reducible refine xadd_lst ?_); refine ⟨_, rfl, _, rfl, ?_, ?_⟩) | with_reducible refine rmul_int ?_ ?_ | with_reducible refine rmod_int ?_ ?_ | with_reducible refine rfdiv_int ?_ ?_ | with_reducible refine rpow_int ?_ ?_ | with_reducible refine xg_setL ?_ | refine ⟨_, _, _, _, rfl, rfl, rfl, rfl, ?_⟩ | with_reducible refine xg_name ?_ | with_reducible refine xg_tup rfl ?_ | with_reducible refine xgs_name ?_ | with_reducible refine xgs_nil ?_ | (with_reducible refine ⟨Nat.le_of_ble_eq_true rfl, ?_⟩) | fail))
section
variable {K : Frag} {mg : Str → Option Value}
def spFl (K : Frag) : SpD := fun ds γ q _ => ∃ x, ds = [x] ∧ x.flat = true ∧ q x γ
theorem dl_listed_flat (T : Tx K mg) (s : SpD) : DL_L_listed K s (spFl K) := by
  rintro ds γ q e' lo1 lo2 ⟨x, rfl, hf, hq⟩
  refine dS_env (ρ' := [some x, none]) rfl ?_
  unfold t_L_listed
  cases x with
  | str y =>
    walk_at "GO"
    exact .inl hq
  | int y =>
    walk_at "GO"
    exact .inl hq
  | bl y =>
    walk_at "GO"
    exact .inl hq
  | non =>
    walk_at "GO"
    exact .inl hq
  | _ => cases hf
end
end K07

set_option Elab.async false
set_option linter.all false
set_option maxRecDepth 100000
set_option maxHeartbeats 4000000
namespace K07
open PySem PySem.Spec PyProof.Rows L2 DL
theorem pk_is_name {P : Program} {w : World} {K : Frag} {mg : Str → Option Value} {base : Heap} {k : Nat} (T : Tx K mg) {sp : SpD} (len : ∀ ds γ q e, sp ds γ q e → ds.length = 1) (h : DL_is_name K sp)
    (F : ∃ fd, FunD K d_is_name.name d_is_name.qual d_is_name.params d_is_name.body d_is_name.scope (d_is_name.dvs K) (d_is_name.kws K) (He.fAd K d_is_name.at_) fd) : Pk P w K mg base (k + 1) ("is_name", none) ["thing"] sp := by
  obtain ⟨fd, F⟩ := F
  obtain ⟨_, c_LETTERS⟩ := T.c_LETTERS
  obtain ⟨_, c_LONGEST_NAME⟩ := T.c_LONGEST_NAME
  have nd := sc_is_name.nd
  refine ⟨fd, fn_dl F sc_is_name (t_is_name K) len (fun cdv A outer s H E hr gd => ?_) h, F.kp, F.bindsN fun _ _ _ _ _ _ us hl => match us, hl with | [_], _ => rfl⟩
  have hu := hu_of hr
  exact (pss_cons (ps_if (PW.pt (pw_or (pt_not (pt_val (pe_callB call_isi (by rfl) T.b_isinstance (by decide +kernel) (pa_cons (pv 0) (pa_cons (pe_bltn (by rfl) T.b_str (by decide +kernel) rfl) pa_nil))))) (pw_or (pt_not (pt_chain op_le op_le pe_int (pe_callB call_len (by rfl) T.b_len (by decide +kernel) (pa_cons (pv 0) pa_nil)) (pe_glob rfl c_LONGEST_NAME ⟨_, rfl⟩))) (pw_or1 (pt_cmpR (op_inG (hu65 hr)) (pv 0) (pe_glob rfl T.g_RESERVED rfl) (by rfl)))))) (pss_one (ps_ret pe_bl)) pss_nil) (pss_one (ps_ret (pe_callB (cr_all rfl) (by rfl) T.b_all (by decide +kernel) (pa_cons (pe_lc (own := [("letter", 1)]) (g := (gName 1)) (tt := tYes) rfl nd (pi_str (pv 0)) (blkOk_by (own := [("letter", 1)]) (N := N_is_name) (sc := defScope (top 6)) (by decide +kernel)) (fun _ _ _ _ _ => (pg_name (i := 1) nd rfl (Or.inl rfl))) (fun _ _ _ _ _ => pts_nil) (fun _ _ _ _ _ => (pe_cmpR (op_inG (hu65 hr)) (pv 1) (pe_glob rfl c_LETTERS ⟨_, rfl⟩) (by rfl)))) pa_nil)))))
theorem pk_is_number {P : Program} {w : World} {K : Frag} {mg : Str → Option Value} {base : Heap} {k : Nat} (T : Tx K mg) {sp : SpD} (len : ∀ ds γ q e, sp ds γ q e → ds.length = 1) (h : DL_is_number K sp)
    (F : ∃ fd, FunD K d_is_number.name d_is_number.qual d_is_number.params d_is_number.body d_is_number.scope (d_is_number.dvs K) (d_is_number.kws K) (He.fAd K d_is_number.at_) fd) : Pk P w K mg base (k + 1) ("is_number", none) ["text"] sp := by
  obtain ⟨fd, F⟩ := F
  obtain ⟨_, c_FIGURES⟩ := T.c_FIGURES
  obtain ⟨_, c_MOST_DIGITS⟩ := T.c_MOST_DIGITS
  have nd := sc_is_number.nd
  refine ⟨fd, fn_dl F sc_is_number (t_is_number K) len (fun cdv A outer s H E hr gd => ?_) h, F.kp, F.bindsN fun _ _ _ _ _ _ us hl => match us, hl with | [_], _ => rfl⟩
  have hu := hu_of hr
  exact (pss_cons (ps_if (PW.pt (pw_or (pt_not (pt_chain op_lt op_le pe_int (pe_callB call_len (by rfl) T.b_len (by decide +kernel) (pa_cons (pv 0) pa_nil)) (pe_glob rfl c_MOST_DIGITS ⟨_, rfl⟩))) (pw_or1 (pt_not (pt_val (pe_callB (cr_all rfl) (by rfl) T.b_all (by decide +kernel) (pa_cons (pe_lc (own := [("sign", 1)]) (g := (gName 1)) (tt := tYes) rfl nd (pi_str (pv 0)) (blkOk_by (own := [("sign", 1)]) (N := N_is_number) (sc := defScope (top 14)) (by decide +kernel)) (fun _ _ _ _ _ => (pg_name (i := 1) nd rfl (Or.inl rfl))) (fun _ _ _ _ _ => pts_nil) (fun _ _ _ _ _ => (pe_cmpR (op_inG (hu65 hr)) (pv 1) (pe_glob rfl c_FIGURES ⟨_, rfl⟩) (by rfl)))) pa_nil))))))) (pss_one (ps_ret pe_bl)) pss_nil) (pss_one (ps_ret (pe_or (pe_cmpR (op_eqG hr.units) (pv 0) pe_str (nomark _)) (pe_one (pe_cmpR (op_neG hr.units) (pe_ix ix_seq (pv 0) pe_int (fun _ _ => rfl)) pe_str (nomark _)))))))
theorem pk_end_of_run {P : Program} {w : World} {K : Frag} {mg : Str → Option Value} {base : Heap} {k : Nat} (T : Tx K mg) {sp : SpD} (len : ∀ ds γ q e, sp ds γ q e → ds.length = 3) (h : DL_end_of_run K sp)
    (F : ∃ fd, FunD K d_end_of_run.name d_end_of_run.qual d_end_of_run.params d_end_of_run.body d_end_of_run.scope (d_end_of_run.dvs K) (d_end_of_run.kws K) (He.fAd K d_end_of_run.at_) fd) : Pk P w K mg base (k + 1) ("end_of_run", none) ["text", "start", "signs"] sp := by
  obtain ⟨fd, F⟩ := F
  have nd := sc_end_of_run.nd
  refine ⟨fd, fn_dl F sc_end_of_run (t_end_of_run K) len (fun cdv A outer s H E hr gd => ?_) h, F.kp, F.bindsN fun _ _ _ _ _ _ us hl => match us, hl with | [_, _, _], _ => rfl⟩
  have hu := hu_of hr
  exact (pss_cons (ps_set (i := 3) nd rfl (Or.inl rfl) (pv 1)) (pss_cons (ps_while PassesOwn.never (PW.pt (pw_and (pt_cmpR op_lt (pv 3) (pe_callB call_len (by rfl) T.b_len (by decide +kernel) (pa_cons (pv 0) pa_nil)) (nomark _)) (pw_and1 (pt_cmpR (op_inG (hu65 hr)) (pe_ix ix_seq (pv 0) (pv 3) (fun _ _ => rfl)) (pv 2) (by rfl))))) (pss_one (ps_set (i := 3) nd rfl (Or.inl rfl) (pe_op op_addG (pv 3) pe_int)))) (pss_one (ps_ret (pv 3)))))
theorem pk_token_at {P : Program} {w : World} {K : Frag} {mg : Str → Option Value} {base : Heap} {k : Nat} (T : Tx K mg) (C_end_of_run : Pk P w K mg base k ("end_of_run", none) ["text", "start", "signs"] (sp_end_of_run K)) (C_is_name : Pk P w K mg base k ("is_name", none) ["thing"] (sp_is_name K)) (C_is_number : Pk P w K mg base k ("is_number", none) ["text"] (sp_is_number K)) {sp : SpD} (len : ∀ ds γ q e, sp ds γ q e → ds.length = 2) (h : DL_token_at K sp)
    (F : ∃ fd, FunD K d_token_at.name d_token_at.qual d_token_at.params d_token_at.body d_token_at.scope (d_token_at.dvs K) (d_token_at.kws K) (He.fAd K d_token_at.at_) fd) : Pk P w K mg base (k + 1) ("token_at", none) ["text", "start"] sp := by
  obtain ⟨fd, F⟩ := F
  obtain ⟨_, c_FIGURES⟩ := T.c_FIGURES
  obtain ⟨_, c_LETTERS⟩ := T.c_LETTERS
  have nd := sc_token_at.nd
  refine ⟨fd, fn_dl F sc_token_at (t_token_at K) len (fun cdv A outer s H E hr gd => ?_) h, F.kp, F.bindsN fun _ _ _ _ _ _ us hl => match us, hl with | [_, _], _ => rfl⟩
  have hu := hu_of hr
  exact (pss_cons (ps_if (pt_cmpR (op_inG (hu65 hr)) (pe_ix ix_seq (pv 0) (pv 1) (fun _ _ => rfl)) (pe_glob rfl c_LETTERS ⟨_, rfl⟩) (by rfl)) (pss_cons (ps_set (i := 2) nd rfl (Or.inl rfl) (callP C_end_of_run hr gd rfl T.g_end_of_run (pa_cons (pv 0) (pa_cons (pv 1) (pa_cons (pe_glob rfl c_LETTERS ⟨_, rfl⟩) pa_nil))))) (pss_cons (ps_set (i := 3) nd rfl (Or.inl rfl) (pe_slice sl_G (pv 0) (po_some (pv 1)) (po_some (pv 2)))) (pss_cons (ps_set (i := 4) nd rfl (Or.inl rfl) (pe_ifExp (pt_cmpR (op_inG (hu65 hr)) (pv 3) (pe_glob rfl T.g_WORDS rfl) (by rfl)) pe_str (pe_ifExp (pt_val (callP C_is_name hr gd rfl T.g_is_name (pa_cons (pv 3) pa_nil))) pe_str pe_str))) (pss_one (ps_ret (pe_tup (pa_cons (pe_tup (pa_cons (pv 4) (pa_cons (pv 3) (pa_cons (pv 1) pa_nil)))) (pa_cons (pv 2) pa_nil)))))))) pss_nil) (pss_cons (ps_if (pt_cmpR (op_inG (hu65 hr)) (pe_ix ix_seq (pv 0) (pv 1) (fun _ _ => rfl)) (pe_glob rfl c_FIGURES ⟨_, rfl⟩) (by rfl)) (pss_cons (ps_set (i := 2) nd rfl (Or.inl rfl) (callP C_end_of_run hr gd rfl T.g_end_of_run (pa_cons (pv 0) (pa_cons (pv 1) (pa_cons (pe_glob rfl c_FIGURES ⟨_, rfl⟩) pa_nil))))) (pss_cons (ps_set (i := 4) nd rfl (Or.inl rfl) (pe_ifExp (pt_val (callP C_is_number hr gd rfl T.g_is_number (pa_cons (pe_slice sl_G (pv 0) (po_some (pv 1)) (po_some (pv 2))) pa_nil))) pe_str pe_str)) (pss_one (ps_ret (pe_tup (pa_cons (pe_tup (pa_cons (pv 4) (pa_cons (pe_slice sl_G (pv 0) (po_some (pv 1)) (po_some (pv 2))) (pa_cons (pv 1) pa_nil)))) (pa_cons (pv 2) pa_nil))))))) pss_nil) (pss_cons (ps_for PassesOwn.never rfl (pi_tup (pe_glob rfl T.g_SIGNS rfl)) (pg_name (i := 5) nd rfl (Or.inl rfl)) (pss_one (ps_if (pt_cmpR (op_eqG hr.units) (pe_slice sl_G (pv 0) (po_some (pv 1)) (po_some (pe_op op_addG (pv 1) (pe_callB call_len (by rfl) T.b_len (by decide +kernel) (pa_cons (pv 5) pa_nil))))) (pv 5) (nomark _)) (pss_one (ps_ret (pe_tup (pa_cons (pe_tup (pa_cons pe_str (pa_cons (pv 5) (pa_cons (pv 1) pa_nil)))) (pa_cons (pe_op op_addG (pv 1) (pe_callB call_len (by rfl) T.b_len (by decide +kernel) (pa_cons (pv 5) pa_nil))) pa_nil))))) pss_nil))) (pss_one (ps_ret (pe_tup (pa_cons (pe_tup (pa_cons pe_str (pa_cons (pe_ix ix_seq (pv 0) (pv 1) (fun _ _ => rfl)) (pa_cons (pv 1) pa_nil)))) (pa_cons (pe_op op_addG (pv 1) pe_int) pa_nil))))))))
theorem pk_tokens {P : Program} {w : World} {K : Frag} {mg : Str → Option Value} {base : Heap} {k : Nat} (T : Tx K mg) (C_end_of_run : Pk P w K mg base k ("end_of_run", none) ["text", "start", "signs"] (sp_end_of_run K)) (C_token_at : Pk P w K mg base k ("token_at", none) ["text", "start"] (sp_token_at K)) {sp : SpD} (len : ∀ ds γ q e, sp ds γ q e → ds.length = 1) (h : DL_tokens K sp)
    (F : ∃ fd, FunD K d_tokens.name d_tokens.qual d_tokens.params d_tokens.body d_tokens.scope (d_tokens.dvs K) (d_tokens.kws K) (He.fAd K d_tokens.at_) fd) : Pk P w K mg base (k + 1) ("tokens", none) ["text"] sp := by
  obtain ⟨fd, F⟩ := F
  have nd := sc_tokens.nd
  refine ⟨fd, fn_dl F sc_tokens (t_tokens K) len (fun cdv A outer s H E hr gd => ?_) h, F.kp, F.bindsN fun _ _ _ _ _ _ us hl => match us, hl with | [_], _ => rfl⟩
  have hu := hu_of hr
  exact (pss_cons (ps_set (i := 1) nd rfl (Or.inl rfl) (pe_lst pa_nil)) (pss_cons (ps_set (i := 2) nd rfl (Or.inl rfl) (callP C_end_of_run hr gd rfl T.g_end_of_run (pa_cons (pv 0) (pa_cons pe_int (pa_cons pe_str pa_nil))))) (pss_cons (ps_while PassesOwn.never (pt_cmpR op_lt (pv 2) (pe_callB call_len (by rfl) T.b_len (by decide +kernel) (pa_cons (pv 0) pa_nil)) (nomark _)) (pss_cons (ps_asg (callP C_token_at hr gd rfl T.g_token_at (pa_cons (pv 0) (pa_cons (pv 2) pa_nil))) (pg_tup rfl (pgs_cons (pg_name (i := 3) nd rfl (Or.inl rfl)) (pgs_cons (pg_name (i := 4) nd rfl (Or.inl rfl)) pgs_nil)))) (pss_cons (ps_expr (pe_bm PySem.F.plainAttrs_list PySem.F.slot_list_append PySem.F.type_list_append mt_append (pv 1) (pa_cons (pv 3) pa_nil))) (pss_cons (ps_if (pt_cmpR (op_eqG hr.units) (pe_ix ix_seq (pv 3) pe_int (fun _ _ => rfl)) pe_str (nomark _)) (pss_one (ps_ret (pv 1))) pss_nil) (pss_one (ps_set (i := 2) nd rfl (Or.inl rfl) (callP C_end_of_run hr gd rfl T.g_end_of_run (pa_cons (pv 0) (pa_cons (pv 4) (pa_cons pe_str pa_nil)))))))))) (pss_one (ps_ret (pe_op op_addG (pv 1) (pe_lst (pa_cons (pe_tup (pa_cons pe_str (pa_cons pe_str (pa_cons (pe_callB call_len (by rfl) T.b_len (by decide +kernel) (pa_cons (pv 0) pa_nil)) pa_nil)))) pa_nil))))))))
theorem pk_Parser_init {P : Program} {w : World} {K : Frag} {mg : Str → Option Value} {base : Heap} {k : Nat} (T : Tx K mg) (C_tokens : Pk P w K mg base k ("tokens", none) ["text"] (sp_tokens K)) {sp : SpD} (len : ∀ ds γ q e, sp ds γ q e → ds.length = 2) (h : DL_Parser_init K sp)
    (F : ∃ fd, FunD K d_Parser_init.name d_Parser_init.qual d_Parser_init.params d_Parser_init.body d_Parser_init.scope (d_Parser_init.dvs K) (d_Parser_init.kws K) (He.fAd K d_Parser_init.at_) fd) : Pk P w K mg base (k + 1) ("Parser", some "__init__") ["self", "text"] sp := by
  obtain ⟨fd, F⟩ := F
  have nd := sc_Parser_init.nd
  refine ⟨fd, fn_dl F sc_Parser_init (t_Parser_init K) len (fun cdv A outer s H E hr gd => ?_) h, F.kp, F.bindsN fun _ _ _ _ _ _ us hl => match us, hl with | [_, _], _ => rfl⟩
  have hu := hu_of hr
  exact (pss_cons (ps_fld (pv 0) (callP C_tokens hr gd rfl T.g_tokens (pa_cons (pv 1) pa_nil)) rfl) (pss_one (ps_fld (pv 0) pe_int rfl)))
theorem pk_Parser_sees {P : Program} {w : World} {K : Frag} {mg : Str → Option Value} {base : Heap} {k : Nat} (T : Tx K mg) {sp : SpD} (len : ∀ ds γ q e, sp ds γ q e → ds.length = 2) (h : DL_Parser_sees K sp)
    (F : ∃ fd, FunD K d_Parser_sees.name d_Parser_sees.qual d_Parser_sees.params d_Parser_sees.body d_Parser_sees.scope (d_Parser_sees.dvs K) (d_Parser_sees.kws K) (He.fAd K d_Parser_sees.at_) fd) : Pk P w K mg base (k + 1) ("Parser", some "sees") ["self", "signs"] sp := by
  obtain ⟨fd, F⟩ := F
  have nd := sc_Parser_sees.nd
  refine ⟨fd, fn_dl F sc_Parser_sees (t_Parser_sees K) len (fun cdv A outer s H E hr gd => ?_) h, F.kp, F.bindsN fun _ _ _ _ _ _ us hl => match us, hl with | [_, _], _ => rfl⟩
  have hu := hu_of hr
  exact (pss_cons (ps_asg (pe_ix ix_seq (pe_fld (pv 0) rfl) (pe_fld (pv 0) rfl) (fun _ _ => rfl)) (pg_tup rfl (pgs_cons (pg_name (i := 2) nd rfl (Or.inl rfl)) (pgs_cons (pg_name (i := 3) nd rfl (Or.inl rfl)) (pgs_cons (pg_name (i := 4) nd rfl (Or.inl rfl)) pgs_nil))))) (pss_one (ps_ret (pe_and (pe_cmpR (op_eqG hr.units) (pv 2) pe_str (nomark _)) (pe_one (pe_cmpR (op_inG (hu65 hr)) (pv 3) (pv 1) (by rfl)))))))
theorem pk_Parser_take {P : Program} {w : World} {K : Frag} {mg : Str → Option Value} {base : Heap} {k : Nat} (T : Tx K mg) {sp : SpD} (len : ∀ ds γ q e, sp ds γ q e → ds.length = 1) (h : DL_Parser_take K sp)
    (F : ∃ fd, FunD K d_Parser_take.name d_Parser_take.qual d_Parser_take.params d_Parser_take.body d_Parser_take.scope (d_Parser_take.dvs K) (d_Parser_take.kws K) (He.fAd K d_Parser_take.at_) fd) : Pk P w K mg base (k + 1) ("Parser", some "take") ["self"] sp := by
  obtain ⟨fd, F⟩ := F
  have nd := sc_Parser_take.nd
  refine ⟨fd, fn_dl F sc_Parser_take (t_Parser_take K) len (fun cdv A outer s H E hr gd => ?_) h, F.kp, F.bindsN fun _ _ _ _ _ _ us hl => match us, hl with | [_], _ => rfl⟩
  have hu := hu_of hr
  exact (pss_cons (ps_fld (pv 0) (pe_op op_addG (pe_fld (pv 0) rfl) pe_int) rfl) (pss_one (ps_ret (pe_ix ix_seq (pe_fld (pv 0) rfl) (pe_op op_sub (pe_fld (pv 0) rfl) pe_int) (fun _ _ => rfl)))))
theorem pk_Parser_refuse {P : Program} {w : World} {K : Frag} {mg : Str → Option Value} {base : Heap} {k : Nat} (F : ∃ fd, FunD K d_Parser_refuse.name d_Parser_refuse.qual d_Parser_refuse.params d_Parser_refuse.body d_Parser_refuse.scope (d_Parser_refuse.dvs K) (d_Parser_refuse.kws K) (He.fAd K d_Parser_refuse.at_) fd) : Pk P w K mg base (k + 1) ("Parser", some "refuse") ["self"] (fun _ _ _ _ => False) := pk_never F sc_Parser_refuse fun fd F => F.bindsN fun _ _ _ _ _ _ us hl => match us, hl with | [_], _ => rfl
theorem pk_Parser_take_sign {P : Program} {w : World} {K : Frag} {mg : Str → Option Value} {base : Heap} {k : Nat} (T : Tx K mg) (s_Parser_refuse : SpD) (C_Parser_sees : Pk P w K mg base k ("Parser", some "sees") ["self", "signs"] (sp_Parser_sees K)) (C_Parser_refuse : Pk P w K mg base k ("Parser", some "refuse") ["self"] s_Parser_refuse) (C_Parser_take : Pk P w K mg base k ("Parser", some "take") ["self"] (sp_Parser_take K)) {sp : SpD} (len : ∀ ds γ q e, sp ds γ q e → ds.length = 2) (h : DL_Parser_take_sign K s_Parser_refuse sp)
    (F : ∃ fd, FunD K d_Parser_take_sign.name d_Parser_take_sign.qual d_Parser_take_sign.params d_Parser_take_sign.body d_Parser_take_sign.scope (d_Parser_take_sign.dvs K) (d_Parser_take_sign.kws K) (He.fAd K d_Parser_take_sign.at_) fd) : Pk P w K mg base (k + 1) ("Parser", some "take_sign") ["self", "signs"] sp := by
  obtain ⟨fd, F⟩ := F
  have nd := sc_Parser_take_sign.nd
  refine ⟨fd, fn_dl F sc_Parser_take_sign (t_Parser_take_sign K s_Parser_refuse) len (fun cdv A outer s H E hr gd => ?_) h, F.kp, F.bindsN fun _ _ _ _ _ _ us hl => match us, hl with | [_, _], _ => rfl⟩
  have hu := hu_of hr
  exact (pss_cons (ps_if (pt_not (pt_val (methP (c := "Parser") (pv 0) T.cl_Parser T.me_Parser_sees C_Parser_sees hr gd (pa_cons (pv 1) pa_nil)))) (pss_one (ps_expr (methP0 (c := "Parser") (pv 0) T.cl_Parser T.me_Parser_refuse C_Parser_refuse hr gd))) pss_nil) (pss_one (ps_ret (pe_ix ix_seq (methP0 (c := "Parser") (pv 0) T.cl_Parser T.me_Parser_take C_Parser_take hr gd) pe_int (fun _ _ => rfl)))))
theorem pk_Parser_finish {P : Program} {w : World} {K : Frag} {mg : Str → Option Value} {base : Heap} {k : Nat} (T : Tx K mg) (s_Parser_refuse : SpD) (C_Parser_refuse : Pk P w K mg base k ("Parser", some "refuse") ["self"] s_Parser_refuse) {sp : SpD} (len : ∀ ds γ q e, sp ds γ q e → ds.length = 2) (h : DL_Parser_finish K s_Parser_refuse sp)
    (F : ∃ fd, FunD K d_Parser_finish.name d_Parser_finish.qual d_Parser_finish.params d_Parser_finish.body d_Parser_finish.scope (d_Parser_finish.dvs K) (d_Parser_finish.kws K) (He.fAd K d_Parser_finish.at_) fd) : Pk P w K mg base (k + 1) ("Parser", some "finish") ["self", "node"] sp := by
  obtain ⟨fd, F⟩ := F
  have nd := sc_Parser_finish.nd
  refine ⟨fd, fn_dl F sc_Parser_finish (t_Parser_finish K s_Parser_refuse) len (fun cdv A outer s H E hr gd => ?_) h, F.kp, F.bindsN fun _ _ _ _ _ _ us hl => match us, hl with | [_, _], _ => rfl⟩
  have hu := hu_of hr
  exact (pss_cons (ps_if (pt_cmpR (op_neG hr.units) (pe_ix ix_seq (pe_ix ix_seq (pe_fld (pv 0) rfl) (pe_fld (pv 0) rfl) (fun _ _ => rfl)) pe_int (fun _ _ => rfl)) pe_str (nomark _)) (pss_one (ps_expr (methP0 (c := "Parser") (pv 0) T.cl_Parser T.me_Parser_refuse C_Parser_refuse hr gd))) pss_nil) (pss_one (ps_ret (pv 1))))
theorem pk_Parser_condition {P : Program} {w : World} {K : Frag} {mg : Str → Option Value} {base : Heap} {k : Nat} (T : Tx K mg) (s_Parser_conjunction : SpD) (C_Parser_conjunction : Pk P w K mg base k ("Parser", some "conjunction") ["self"] s_Parser_conjunction) (C_Parser_sees : Pk P w K mg base k ("Parser", some "sees") ["self", "signs"] (sp_Parser_sees K)) (C_Parser_take : Pk P w K mg base k ("Parser", some "take") ["self"] (sp_Parser_take K)) {sp : SpD} (len : ∀ ds γ q e, sp ds γ q e → ds.length = 1) (h : DL_Parser_condition K s_Parser_conjunction sp)
    (F : ∃ fd, FunD K d_Parser_condition.name d_Parser_condition.qual d_Parser_condition.params d_Parser_condition.body d_Parser_condition.scope (d_Parser_condition.dvs K) (d_Parser_condition.kws K) (He.fAd K d_Parser_condition.at_) fd) : Pk P w K mg base (k + 1) ("Parser", some "condition") ["self"] sp := by
  obtain ⟨fd, F⟩ := F
  have nd := sc_Parser_condition.nd
  refine ⟨fd, fn_dl F sc_Parser_condition (t_Parser_condition K s_Parser_conjunction) len (fun cdv A outer s H E hr gd => ?_) h, F.kp, F.bindsN fun _ _ _ _ _ _ us hl => match us, hl with | [_], _ => rfl⟩
  have hu := hu_of hr
  exact (pss_cons (ps_set (i := 1) nd rfl (Or.inl rfl) (methP0 (c := "Parser") (pv 0) T.cl_Parser T.me_Parser_conjunction C_Parser_conjunction hr gd)) (pss_cons (ps_while PassesOwn.never (pt_val (methP (c := "Parser") (pv 0) T.cl_Parser T.me_Parser_sees C_Parser_sees hr gd (pa_cons (pe_tup (pa_cons pe_str pa_nil)) pa_nil))) (pss_cons (ps_expr (methP0 (c := "Parser") (pv 0) T.cl_Parser T.me_Parser_take C_Parser_take hr gd)) (pss_one (ps_set (i := 1) nd rfl (Or.inl rfl) (pe_tup (pa_cons pe_str (pa_cons (pv 1) (pa_cons (methP0 (c := "Parser") (pv 0) T.cl_Parser T.me_Parser_conjunction C_Parser_conjunction hr gd) pa_nil)))))))) (pss_one (ps_ret (pv 1)))))
theorem pk_Parser_conjunction {P : Program} {w : World} {K : Frag} {mg : Str → Option Value} {base : Heap} {k : Nat} (T : Tx K mg) (s_Parser_negation : SpD) (C_Parser_negation : Pk P w K mg base k ("Parser", some "negation") ["self"] s_Parser_negation) (C_Parser_sees : Pk P w K mg base k ("Parser", some "sees") ["self", "signs"] (sp_Parser_sees K)) (C_Parser_take : Pk P w K mg base k ("Parser", some "take") ["self"] (sp_Parser_take K)) {sp : SpD} (len : ∀ ds γ q e, sp ds γ q e → ds.length = 1) (h : DL_Parser_conjunction K s_Parser_negation sp)
    (F : ∃ fd, FunD K d_Parser_conjunction.name d_Parser_conjunction.qual d_Parser_conjunction.params d_Parser_conjunction.body d_Parser_conjunction.scope (d_Parser_conjunction.dvs K) (d_Parser_conjunction.kws K) (He.fAd K d_Parser_conjunction.at_) fd) : Pk P w K mg base (k + 1) ("Parser", some "conjunction") ["self"] sp := by
  obtain ⟨fd, F⟩ := F
  have nd := sc_Parser_conjunction.nd
  refine ⟨fd, fn_dl F sc_Parser_conjunction (t_Parser_conjunction K s_Parser_negation) len (fun cdv A outer s H E hr gd => ?_) h, F.kp, F.bindsN fun _ _ _ _ _ _ us hl => match us, hl with | [_], _ => rfl⟩
  have hu := hu_of hr
  exact (pss_cons (ps_set (i := 1) nd rfl (Or.inl rfl) (methP0 (c := "Parser") (pv 0) T.cl_Parser T.me_Parser_negation C_Parser_negation hr gd)) (pss_cons (ps_while PassesOwn.never (pt_val (methP (c := "Parser") (pv 0) T.cl_Parser T.me_Parser_sees C_Parser_sees hr gd (pa_cons (pe_tup (pa_cons pe_str pa_nil)) pa_nil))) (pss_cons (ps_expr (methP0 (c := "Parser") (pv 0) T.cl_Parser T.me_Parser_take C_Parser_take hr gd)) (pss_one (ps_set (i := 1) nd rfl (Or.inl rfl) (pe_tup (pa_cons pe_str (pa_cons (pv 1) (pa_cons (methP0 (c := "Parser") (pv 0) T.cl_Parser T.me_Parser_negation C_Parser_negation hr gd) pa_nil)))))))) (pss_one (ps_ret (pv 1)))))
theorem pk_Parser_negation {P : Program} {w : World} {K : Frag} {mg : Str → Option Value} {base : Heap} {k : Nat} (T : Tx K mg) (s_Parser_negation : SpD) (s_Parser_condition : SpD) (s_Parser_expression : SpD) (C_Parser_sees : Pk P w K mg base k ("Parser", some "sees") ["self", "signs"] (sp_Parser_sees K)) (C_Parser_take : Pk P w K mg base k ("Parser", some "take") ["self"] (sp_Parser_take K)) (C_Parser_negation : Pk P w K mg base k ("Parser", some "negation") ["self"] s_Parser_negation) (C_Parser_condition : Pk P w K mg base k ("Parser", some "condition") ["self"] s_Parser_condition) (C_Parser_take_sign : Pk P w K mg base k ("Parser", some "take_sign") ["self", "signs"] (sp_Parser_take_sign K)) (C_Parser_expression : Pk P w K mg base k ("Parser", some "expression") ["self"] s_Parser_expression) {sp : SpD} (len : ∀ ds γ q e, sp ds γ q e → ds.length = 1) (h : DL_Parser_negation K s_Parser_negation s_Parser_condition s_Parser_expression sp)
    (F : ∃ fd, FunD K d_Parser_negation.name d_Parser_negation.qual d_Parser_negation.params d_Parser_negation.body d_Parser_negation.scope (d_Parser_negation.dvs K) (d_Parser_negation.kws K) (He.fAd K d_Parser_negation.at_) fd) : Pk P w K mg base (k + 1) ("Parser", some "negation") ["self"] sp := by
  obtain ⟨fd, F⟩ := F
  have nd := sc_Parser_negation.nd
  refine ⟨fd, fn_dl F sc_Parser_negation (t_Parser_negation K s_Parser_negation s_Parser_condition s_Parser_expression) len (fun cdv A outer s H E hr gd => ?_) h, F.kp, F.bindsN fun _ _ _ _ _ _ us hl => match us, hl with | [_], _ => rfl⟩
  have hu := hu_of hr
  exact (pss_cons (ps_if (pt_val (methP (c := "Parser") (pv 0) T.cl_Parser T.me_Parser_sees C_Parser_sees hr gd (pa_cons (pe_tup (pa_cons pe_str pa_nil)) pa_nil))) (pss_cons (ps_expr (methP0 (c := "Parser") (pv 0) T.cl_Parser T.me_Parser_take C_Parser_take hr gd)) (pss_one (ps_ret (pe_tup (pa_cons pe_str (pa_cons (methP0 (c := "Parser") (pv 0) T.cl_Parser T.me_Parser_negation C_Parser_negation hr gd) pa_nil)))))) pss_nil) (pss_cons (ps_if (pt_val (methP (c := "Parser") (pv 0) T.cl_Parser T.me_Parser_sees C_Parser_sees hr gd (pa_cons (pe_tup (pa_cons pe_str pa_nil)) pa_nil))) (pss_cons (ps_expr (methP0 (c := "Parser") (pv 0) T.cl_Parser T.me_Parser_take C_Parser_take hr gd)) (pss_cons (ps_set (i := 1) nd rfl (Or.inl rfl) (methP0 (c := "Parser") (pv 0) T.cl_Parser T.me_Parser_condition C_Parser_condition hr gd)) (pss_cons (ps_expr (methP (c := "Parser") (pv 0) T.cl_Parser T.me_Parser_take_sign C_Parser_take_sign hr gd (pa_cons (pe_tup (pa_cons pe_str pa_nil)) pa_nil))) (pss_one (ps_ret (pv 1)))))) pss_nil) (pss_cons (ps_set (i := 2) nd rfl (Or.inl rfl) (methP0 (c := "Parser") (pv 0) T.cl_Parser T.me_Parser_expression C_Parser_expression hr gd)) (pss_cons (ps_set (i := 3) nd rfl (Or.inl rfl) (methP (c := "Parser") (pv 0) T.cl_Parser T.me_Parser_take_sign C_Parser_take_sign hr gd (pa_cons (pe_glob rfl T.g_COMPARISONS rfl) pa_nil))) (pss_one (ps_ret (pe_tup (pa_cons (pv 3) (pa_cons (pv 2) (pa_cons (methP0 (c := "Parser") (pv 0) T.cl_Parser T.me_Parser_expression C_Parser_expression hr gd) pa_nil))))))))))
theorem pk_Parser_expression {P : Program} {w : World} {K : Frag} {mg : Str → Option Value} {base : Heap} {k : Nat} (T : Tx K mg) (s_Parser_term : SpD) (C_Parser_term : Pk P w K mg base k ("Parser", some "term") ["self"] s_Parser_term) (C_Parser_sees : Pk P w K mg base k ("Parser", some "sees") ["self", "signs"] (sp_Parser_sees K)) (C_Parser_take : Pk P w K mg base k ("Parser", some "take") ["self"] (sp_Parser_take K)) {sp : SpD} (len : ∀ ds γ q e, sp ds γ q e → ds.length = 1) (h : DL_Parser_expression K s_Parser_term sp)
    (F : ∃ fd, FunD K d_Parser_expression.name d_Parser_expression.qual d_Parser_expression.params d_Parser_expression.body d_Parser_expression.scope (d_Parser_expression.dvs K) (d_Parser_expression.kws K) (He.fAd K d_Parser_expression.at_) fd) : Pk P w K mg base (k + 1) ("Parser", some "expression") ["self"] sp := by
  obtain ⟨fd, F⟩ := F
  have nd := sc_Parser_expression.nd
  refine ⟨fd, fn_dl F sc_Parser_expression (t_Parser_expression K s_Parser_term) len (fun cdv A outer s H E hr gd => ?_) h, F.kp, F.bindsN fun _ _ _ _ _ _ us hl => match us, hl with | [_], _ => rfl⟩
  have hu := hu_of hr
  exact (pss_cons (ps_set (i := 1) nd rfl (Or.inl rfl) (methP0 (c := "Parser") (pv 0) T.cl_Parser T.me_Parser_term C_Parser_term hr gd)) (pss_cons (ps_while PassesOwn.never (pt_val (methP (c := "Parser") (pv 0) T.cl_Parser T.me_Parser_sees C_Parser_sees hr gd (pa_cons (pe_tup (pa_cons pe_str (pa_cons pe_str pa_nil))) pa_nil))) (pss_cons (ps_set (i := 2) nd rfl (Or.inl rfl) (pe_ix ix_seq (methP0 (c := "Parser") (pv 0) T.cl_Parser T.me_Parser_take C_Parser_take hr gd) pe_int (fun _ _ => rfl))) (pss_one (ps_set (i := 1) nd rfl (Or.inl rfl) (pe_tup (pa_cons (pv 2) (pa_cons (pv 1) (pa_cons (methP0 (c := "Parser") (pv 0) T.cl_Parser T.me_Parser_term C_Parser_term hr gd) pa_nil)))))))) (pss_one (ps_ret (pv 1)))))
theorem pk_Parser_term {P : Program} {w : World} {K : Frag} {mg : Str → Option Value} {base : Heap} {k : Nat} (T : Tx K mg) (s_Parser_factor : SpD) (C_Parser_factor : Pk P w K mg base k ("Parser", some "factor") ["self"] s_Parser_factor) (C_Parser_sees : Pk P w K mg base k ("Parser", some "sees") ["self", "signs"] (sp_Parser_sees K)) (C_Parser_take : Pk P w K mg base k ("Parser", some "take") ["self"] (sp_Parser_take K)) {sp : SpD} (len : ∀ ds γ q e, sp ds γ q e → ds.length = 1) (h : DL_Parser_term K s_Parser_factor sp)
    (F : ∃ fd, FunD K d_Parser_term.name d_Parser_term.qual d_Parser_term.params d_Parser_term.body d_Parser_term.scope (d_Parser_term.dvs K) (d_Parser_term.kws K) (He.fAd K d_Parser_term.at_) fd) : Pk P w K mg base (k + 1) ("Parser", some "term") ["self"] sp := by
  obtain ⟨fd, F⟩ := F
  have nd := sc_Parser_term.nd
  refine ⟨fd, fn_dl F sc_Parser_term (t_Parser_term K s_Parser_factor) len (fun cdv A outer s H E hr gd => ?_) h, F.kp, F.bindsN fun _ _ _ _ _ _ us hl => match us, hl with | [_], _ => rfl⟩
  have hu := hu_of hr
  exact (pss_cons (ps_set (i := 1) nd rfl (Or.inl rfl) (methP0 (c := "Parser") (pv 0) T.cl_Parser T.me_Parser_factor C_Parser_factor hr gd)) (pss_cons (ps_while PassesOwn.never (pt_val (methP (c := "Parser") (pv 0) T.cl_Parser T.me_Parser_sees C_Parser_sees hr gd (pa_cons (pe_tup (pa_cons pe_str (pa_cons pe_str (pa_cons pe_str pa_nil)))) pa_nil))) (pss_cons (ps_set (i := 2) nd rfl (Or.inl rfl) (pe_ix ix_seq (methP0 (c := "Parser") (pv 0) T.cl_Parser T.me_Parser_take C_Parser_take hr gd) pe_int (fun _ _ => rfl))) (pss_one (ps_set (i := 1) nd rfl (Or.inl rfl) (pe_tup (pa_cons (pv 2) (pa_cons (pv 1) (pa_cons (methP0 (c := "Parser") (pv 0) T.cl_Parser T.me_Parser_factor C_Parser_factor hr gd) pa_nil)))))))) (pss_one (ps_ret (pv 1)))))
theorem pk_Parser_factor {P : Program} {w : World} {K : Frag} {mg : Str → Option Value} {base : Heap} {k : Nat} (T : Tx K mg) (s_Parser_factor : SpD) (s_Parser_expression : SpD) (s_Parser_refuse : SpD) (C_Parser_sees : Pk P w K mg base k ("Parser", some "sees") ["self", "signs"] (sp_Parser_sees K)) (C_Parser_take : Pk P w K mg base k ("Parser", some "take") ["self"] (sp_Parser_take K)) (C_Parser_factor : Pk P w K mg base k ("Parser", some "factor") ["self"] s_Parser_factor) (C_Parser_expression : Pk P w K mg base k ("Parser", some "expression") ["self"] s_Parser_expression) (C_Parser_take_sign : Pk P w K mg base k ("Parser", some "take_sign") ["self", "signs"] (sp_Parser_take_sign K)) (C_Parser_refuse : Pk P w K mg base k ("Parser", some "refuse") ["self"] s_Parser_refuse) {sp : SpD} (len : ∀ ds γ q e, sp ds γ q e → ds.length = 1) (h : DL_Parser_factor K s_Parser_factor s_Parser_expression s_Parser_refuse sp)
    (F : ∃ fd, FunD K d_Parser_factor.name d_Parser_factor.qual d_Parser_factor.params d_Parser_factor.body d_Parser_factor.scope (d_Parser_factor.dvs K) (d_Parser_factor.kws K) (He.fAd K d_Parser_factor.at_) fd) : Pk P w K mg base (k + 1) ("Parser", some "factor") ["self"] sp := by
  obtain ⟨fd, F⟩ := F
  have nd := sc_Parser_factor.nd
  refine ⟨fd, fn_dl F sc_Parser_factor (t_Parser_factor K s_Parser_factor s_Parser_expression s_Parser_refuse) len (fun cdv A outer s H E hr gd => ?_) h, F.kp, F.bindsN fun _ _ _ _ _ _ us hl => match us, hl with | [_], _ => rfl⟩
  have hu := hu_of hr
  exact (pss_cons (ps_if (pt_val (methP (c := "Parser") (pv 0) T.cl_Parser T.me_Parser_sees C_Parser_sees hr gd (pa_cons (pe_tup (pa_cons pe_str pa_nil)) pa_nil))) (pss_cons (ps_expr (methP0 (c := "Parser") (pv 0) T.cl_Parser T.me_Parser_take C_Parser_take hr gd)) (pss_one (ps_ret (pe_tup (pa_cons pe_str (pa_cons (methP0 (c := "Parser") (pv 0) T.cl_Parser T.me_Parser_factor C_Parser_factor hr gd) pa_nil)))))) pss_nil) (pss_cons (ps_if (pt_val (methP (c := "Parser") (pv 0) T.cl_Parser T.me_Parser_sees C_Parser_sees hr gd (pa_cons (pe_tup (pa_cons pe_str pa_nil)) pa_nil))) (pss_cons (ps_expr (methP0 (c := "Parser") (pv 0) T.cl_Parser T.me_Parser_take C_Parser_take hr gd)) (pss_cons (ps_set (i := 1) nd rfl (Or.inl rfl) (methP0 (c := "Parser") (pv 0) T.cl_Parser T.me_Parser_expression C_Parser_expression hr gd)) (pss_cons (ps_expr (methP (c := "Parser") (pv 0) T.cl_Parser T.me_Parser_take_sign C_Parser_take_sign hr gd (pa_cons (pe_tup (pa_cons pe_str pa_nil)) pa_nil))) (pss_one (ps_ret (pv 1)))))) pss_nil) (pss_cons (ps_asg (pe_ix ix_seq (pe_fld (pv 0) rfl) (pe_fld (pv 0) rfl) (fun _ _ => rfl)) (pg_tup rfl (pgs_cons (pg_name (i := 2) nd rfl (Or.inl rfl)) (pgs_cons (pg_name (i := 3) nd rfl (Or.inl rfl)) (pgs_cons (pg_name (i := 4) nd rfl (Or.inl rfl)) pgs_nil))))) (pss_cons (ps_if (pt_cmpR (op_niG (hu65 hr)) (pv 2) (pe_tup (pa_cons pe_str (pa_cons pe_str pa_nil))) (by rfl)) (pss_one (ps_expr (methP0 (c := "Parser") (pv 0) T.cl_Parser T.me_Parser_refuse C_Parser_refuse hr gd))) pss_nil) (pss_cons (ps_expr (methP0 (c := "Parser") (pv 0) T.cl_Parser T.me_Parser_take C_Parser_take hr gd)) (pss_one (ps_ret (pe_ifExp (pt_cmpR (op_eqG hr.units) (pv 2) pe_str (nomark _)) (pe_tup (pa_cons pe_str (pa_cons (pe_callTy call_intG (by rfl) T.b_int (by decide +kernel) (pa_cons (pv 3) pa_nil)) pa_nil))) (pe_tup (pa_cons pe_str (pa_cons (pv 3) pa_nil)))))))))))
theorem pk_parse_expression {P : Program} {w : World} {K : Frag} {mg : Str → Option Value} {base : Heap} {j k : Nat} (T : Tx K mg) (C_Parser_init : Pk P w K mg base j ("Parser", some "__init__") ["self", "text"] (sp_Parser_init K)) (C_Parser_expression : Pk P w K mg base k ("Parser", some "expression") ["self"] (sp_Parser_expression K)) (C_Parser_finish : Pk P w K mg base k ("Parser", some "finish") ["self", "node"] (sp_Parser_finish K)) (hj : j + 1 ≤ k) {sp : SpD} (len : ∀ ds γ q e, sp ds γ q e → ds.length = 1) (h : DL_parse_expression K sp)
    (F : ∃ fd, FunD K d_parse_expression.name d_parse_expression.qual d_parse_expression.params d_parse_expression.body d_parse_expression.scope (d_parse_expression.dvs K) (d_parse_expression.kws K) (He.fAd K d_parse_expression.at_) fd) : Pk P w K mg base (k + 1) ("parse_expression", none) ["text"] sp := by
  obtain ⟨fd, F⟩ := F
  have nd := sc_parse_expression.nd
  refine ⟨fd, fn_dl F sc_parse_expression (t_parse_expression K) len (fun cdv A outer s H E hr gd => ?_) h, F.kp, F.bindsN fun _ _ _ _ _ _ us hl => match us, hl with | [_], _ => rfl⟩
  have hu := hu_of hr
  exact (pss_cons (ps_set (i := 1) nd rfl (Or.inl rfl) (makeP T.mk_Parser C_Parser_init hj hr gd rfl T.g_Parser (pa_cons (pv 0) pa_nil))) (pss_one (ps_ret (methP (c := "Parser") (pv 1) T.cl_Parser T.me_Parser_finish C_Parser_finish hr gd (pa_cons (methP0 (c := "Parser") (pv 1) T.cl_Parser T.me_Parser_expression C_Parser_expression hr gd) pa_nil)))))
theorem pk_parse_condition {P : Program} {w : World} {K : Frag} {mg : Str → Option Value} {base : Heap} {j k : Nat} (T : Tx K mg) (C_Parser_init : Pk P w K mg base j ("Parser", some "__init__") ["self", "text"] (sp_Parser_init K)) (C_Parser_condition : Pk P w K mg base k ("Parser", some "condition") ["self"] (sp_Parser_condition K)) (C_Parser_finish : Pk P w K mg base k ("Parser", some "finish") ["self", "node"] (sp_Parser_finish K)) (hj : j + 1 ≤ k) {sp : SpD} (len : ∀ ds γ q e, sp ds γ q e → ds.length = 1) (h : DL_parse_condition K sp)
    (F : ∃ fd, FunD K d_parse_condition.name d_parse_condition.qual d_parse_condition.params d_parse_condition.body d_parse_condition.scope (d_parse_condition.dvs K) (d_parse_condition.kws K) (He.fAd K d_parse_condition.at_) fd) : Pk P w K mg base (k + 1) ("parse_condition", none) ["text"] sp := by
  obtain ⟨fd, F⟩ := F
  have nd := sc_parse_condition.nd
  refine ⟨fd, fn_dl F sc_parse_condition (t_parse_condition K) len (fun cdv A outer s H E hr gd => ?_) h, F.kp, F.bindsN fun _ _ _ _ _ _ us hl => match us, hl with | [_], _ => rfl⟩
  have hu := hu_of hr
  exact (pss_cons (ps_set (i := 1) nd rfl (Or.inl rfl) (makeP T.mk_Parser C_Parser_init hj hr gd rfl T.g_Parser (pa_cons (pv 0) pa_nil))) (pss_one (ps_ret (methP (c := "Parser") (pv 1) T.cl_Parser T.me_Parser_finish C_Parser_finish hr gd (pa_cons (methP0 (c := "Parser") (pv 1) T.cl_Parser T.me_Parser_condition C_Parser_condition hr gd) pa_nil)))))
theorem pk_is_of_conditions {P : Program} {w : World} {K : Frag} {mg : Str → Option Value} {base : Heap} {k : Nat} (T : Tx K mg) {sp : SpD} (len : ∀ ds γ q e, sp ds γ q e → ds.length = 1) (h : DL_is_of_conditions K sp)
    (F : ∃ fd, FunD K d_is_of_conditions.name d_is_of_conditions.qual d_is_of_conditions.params d_is_of_conditions.body d_is_of_conditions.scope (d_is_of_conditions.dvs K) (d_is_of_conditions.kws K) (He.fAd K d_is_of_conditions.at_) fd) : Pk P w K mg base (k + 1) ("is_of_conditions", none) ["word"] sp := by
  obtain ⟨fd, F⟩ := F
  have nd := sc_is_of_conditions.nd
  refine ⟨fd, fn_dl F sc_is_of_conditions (t_is_of_conditions K) len (fun cdv A outer s H E hr gd => ?_) h, F.kp, F.bindsN fun _ _ _ _ _ _ us hl => match us, hl with | [_], _ => rfl⟩
  have hu := hu_of hr
  exact (pss_one (ps_ret (pe_cmpR (op_inG (hu65 hr)) (pv 0) (pe_tup (pa_cons pe_str (pa_cons pe_str (pa_cons pe_str pa_nil)))) (by rfl))))
theorem pk_bracketed {P : Program} {w : World} {K : Frag} {mg : Str → Option Value} {base : Heap} {k : Nat} (T : Tx K mg) (s_written : SpD) (Y : Ty K w) (C_written : Pk P w K mg base k ("written", none) ["node"] s_written) (C_is_of_conditions : Pk P w K mg base k ("is_of_conditions", none) ["word"] (sp_is_of_conditions K)) {sp : SpD} (len : ∀ ds γ q e, sp ds γ q e → ds.length = 2) (h : DL_bracketed K s_written sp)
    (F : ∃ fd, FunD K d_bracketed.name d_bracketed.qual d_bracketed.params d_bracketed.body d_bracketed.scope (d_bracketed.dvs K) (d_bracketed.kws K) (He.fAd K d_bracketed.at_) fd) : Pk P w K mg base (k + 1) ("bracketed", none) ["node", "least"] sp := by
  obtain ⟨fd, F⟩ := F
  obtain ⟨_, _, kd_RANKS⟩ := Y.kd_RANKS
  have nd := sc_bracketed.nd
  refine ⟨fd, fn_dl F sc_bracketed (t_bracketed K s_written) len (fun cdv A outer s H E hr gd => ?_) h, F.kp, F.bindsN fun _ _ _ _ _ _ us hl => match us, hl with | [_, _], _ => rfl⟩
  have hu := hu_of hr
  exact (pss_cons (ps_set (i := 2) nd rfl (Or.inl rfl) (callP C_written hr gd rfl T.g_written (pa_cons (pv 0) pa_nil))) (pss_cons (ps_if (pt_cmpR op_ge (pe_kget2 ⟨_, _, kd_RANKS⟩ (pe_glob rfl T.g_RANKS rfl) (pe_ix ix_seq (pv 0) pe_int (fun _ _ => rfl)) pe_int ⟨rfl, by rfl, rfl, rfl⟩) (pv 1) (nomark _)) (pss_one (ps_ret (pv 2))) pss_nil) (pss_one (ps_ret (pe_ifExp (pt_val (callP C_is_of_conditions hr gd rfl T.g_is_of_conditions (pa_cons (pe_ix ix_seq (pv 0) pe_int (fun _ _ => rfl)) pa_nil))) (pe_op op_addG (pe_op op_addG pe_str (pv 2)) pe_str) (pe_op op_addG (pe_op op_addG pe_str (pv 2)) pe_str))))))
theorem pk_written {P : Program} {w : World} {K : Frag} {mg : Str → Option Value} {base : Heap} {k : Nat} (T : Tx K mg) (s_bracketed : SpD) (s_written : SpD) (Y : Ty K w) (C_bracketed : Pk P w K mg base k ("bracketed", none) ["node", "least"] s_bracketed) (C_written : Pk P w K mg base k ("written", none) ["node"] s_written) {sp : SpD} (len : ∀ ds γ q e, sp ds γ q e → ds.length = 1) (h : DL_written K s_bracketed s_written sp)
    (F : ∃ fd, FunD K d_written.name d_written.qual d_written.params d_written.body d_written.scope (d_written.dvs K) (d_written.kws K) (He.fAd K d_written.at_) fd) : Pk P w K mg base (k + 1) ("written", none) ["node"] sp := by
  obtain ⟨fd, F⟩ := F
  obtain ⟨_, _, kd_RANKS⟩ := Y.kd_RANKS
  have nd := sc_written.nd
  refine ⟨fd, fn_dl F sc_written (t_written K s_bracketed s_written) len (fun cdv A outer s H E hr gd => ?_) h, F.kp, F.bindsN fun _ _ _ _ _ _ us hl => match us, hl with | [_], _ => rfl⟩
  have hu := hu_of hr
  exact (pss_cons (ps_set (i := 1) nd rfl (Or.inl rfl) (pe_ix ix_seq (pv 0) pe_int (fun _ _ => rfl))) (pss_cons (ps_if (pt_cmpR (op_inG (hu65 hr)) (pv 1) (pe_tup (pa_cons pe_str (pa_cons pe_str pa_nil))) (by rfl)) (pss_one (ps_ret (pe_callTy call_strG (by rfl) T.b_str (by decide +kernel) (pa_cons (pe_ix ix_seq (pv 0) pe_int (fun _ _ => rfl)) pa_nil)))) pss_nil) (pss_cons (ps_if (pt_cmpR (op_eqG hr.units) (pv 1) pe_str (nomark _)) (pss_one (ps_ret (pe_op op_addG pe_str (callP C_bracketed hr gd rfl T.g_bracketed (pa_cons (pe_ix ix_seq (pv 0) pe_int (fun _ _ => rfl)) (pa_cons pe_int pa_nil)))))) pss_nil) (pss_cons (ps_if (pt_cmpR (op_eqG hr.units) (pv 1) pe_str (nomark _)) (pss_one (ps_ret (pe_op op_addG pe_str (callP C_bracketed hr gd rfl T.g_bracketed (pa_cons (pe_ix ix_seq (pv 0) pe_int (fun _ _ => rfl)) (pa_cons pe_int pa_nil)))))) pss_nil) (pss_cons (ps_if (pt_cmpR (op_inG (hu65 hr)) (pv 1) (pe_glob rfl T.g_COMPARISONS rfl) (by rfl)) (pss_one (ps_ret (pe_op op_addG (pe_op op_addG (pe_op op_addG (pe_op op_addG (callP C_written hr gd rfl T.g_written (pa_cons (pe_ix ix_seq (pv 0) pe_int (fun _ _ => rfl)) pa_nil)) pe_str) (pv 1)) pe_str) (callP C_written hr gd rfl T.g_written (pa_cons (pe_ix ix_seq (pv 0) pe_int (fun _ _ => rfl)) pa_nil))))) pss_nil) (pss_cons (ps_set (i := 2) nd rfl (Or.inl rfl) (pe_ix (ix_kd kd_RANKS) (pe_glob rfl T.g_RANKS rfl) (pv 1) (fun _ _ => rfl))) (pss_one (ps_ret (pe_op op_addG (pe_op op_addG (pe_op op_addG (pe_op op_addG (callP C_bracketed hr gd rfl T.g_bracketed (pa_cons (pe_ix ix_seq (pv 0) pe_int (fun _ _ => rfl)) (pa_cons (pv 2) pa_nil))) pe_str) (pv 1)) pe_str) (callP C_bracketed hr gd rfl T.g_bracketed (pa_cons (pe_ix ix_seq (pv 0) pe_int (fun _ _ => rfl)) (pa_cons (pe_op op_addG (pv 2) pe_int) pa_nil))))))))))))
theorem pk_L_draw {P : Program} {w : World} {K : Frag} {mg : Str → Option Value} {base : Heap} {k : Nat} (T : Tx K mg) {sp : SpD} (len : ∀ ds γ q e, sp ds γ q e → ds.length = 2) (h : DL_L_draw K sp)
    (F : ∃ fd, FunD K d_L_draw.name d_L_draw.qual d_L_draw.params d_L_draw.body d_L_draw.scope (d_L_draw.dvs K) (d_L_draw.kws K) (He.fAd K d_L_draw.at_) fd) : Pk P w K mg base (k + 1) ("_law_draw", none) ["_law_stream", "_law_many"] sp := by
  obtain ⟨fd, F⟩ := F
  have nd := sc_L_draw.nd
  refine ⟨fd, fn_dl F sc_L_draw (t_L_draw K) len (fun cdv A outer s H E hr gd => ?_) h, F.kp, F.bindsN fun _ _ _ _ _ _ us hl => match us, hl with | [_, _], _ => rfl⟩
  have hu := hu_of hr
  exact (pss_cons (ps_asg (pe_op op_addG (pe_ix ix_seq (pv 0) pe_int (fun _ _ => rfl)) pe_int) (pg_sub (pv 0) pe_int set_list)) (pss_cons (ps_if (PW.pt (pw_and (pt_cmpR (op_eqG hr.units) (pe_ix ix_seq (pv 0) pe_int (fun _ _ => rfl)) pe_int (nomark _)) (pw_and1 (pt_cmpR (op_neG hr.units) (pe_ix ix_seq (pv 0) pe_int (fun _ _ => rfl)) (pe_lst pa_nil) (nomark _))))) (pss_cons (ps_asg (pe_bm PySem.F.plainAttrs_list PySem.F.slot_list_pop PySem.F.type_list_pop mt_popAt (pe_ix ix_seq (pv 0) pe_int (fun _ _ => rfl)) (pa_cons pe_int pa_nil)) (pg_sub (pv 0) pe_int set_list)) (pss_one (ps_if (pt_cmpR op_lt (pe_ix ix_seq (pv 0) pe_int (fun _ _ => rfl)) (pe_op op_pow pe_int pe_int) (nomark _)) (pss_cons (ps_asg (pe_op op_modN (pe_op op_addG (pe_op op_addG (pe_op op_mulG (pe_ix ix_seq (pv 0) pe_int (fun _ _ => rfl)) pe_int) (pe_ix ix_seq (pv 0) pe_int (fun _ _ => rfl))) pe_int) pe_int) (pg_sub (pv 0) pe_int set_list)) (pss_one (ps_asg pe_int (pg_sub (pv 0) pe_int set_list)))) pss_nil))) pss_nil) (pss_cons (ps_if (pt_cmpR op_gt (pe_ix ix_seq (pv 0) pe_int (fun _ _ => rfl)) pe_int (nomark _)) (pss_cons (ps_set (i := 2) nd rfl (Or.inl rfl) (pe_op op_modN (pe_ix ix_seq (pv 0) pe_int (fun _ _ => rfl)) (pv 1))) (pss_cons (ps_asg (pe_op op_fdivN (pe_ix ix_seq (pv 0) pe_int (fun _ _ => rfl)) (pv 1)) (pg_sub (pv 0) pe_int set_list)) (pss_one (ps_ret (pv 2))))) pss_nil) (pss_cons (ps_set (i := 3) nd rfl (Or.inl rfl) (pe_op op_modN (pe_op op_pow (pe_op op_addG (pe_op op_addG (pe_ix ix_seq (pv 0) pe_int (fun _ _ => rfl)) (pe_op op_mulG pe_int (pe_ix ix_seq (pv 0) pe_int (fun _ _ => rfl)))) pe_int) pe_int) pe_int)) (pss_one (ps_ret (pe_op op_modN (pe_op op_modN (pe_op op_pow (pe_op op_addG (pe_op op_addG (pe_op op_mulG (pv 3) pe_int) (pe_op op_mulG (pe_op op_mulG pe_int (pe_ix ix_seq (pv 0) pe_int (fun _ _ => rfl))) (pe_ix ix_seq (pv 0) pe_int (fun _ _ => rfl)))) pe_int) pe_int) pe_int) (pv 1))))))))
theorem pk_L_reserved {P : Program} {w : World} {K : Frag} {mg : Str → Option Value} {base : Heap} {k : Nat} (T : Tx K mg) {sp : SpD} (len : ∀ ds γ q e, sp ds γ q e → ds.length = 0) (h : DL_L_reserved K sp)
    (F : ∃ fd, FunD K d_L_reserved.name d_L_reserved.qual d_L_reserved.params d_L_reserved.body d_L_reserved.scope (d_L_reserved.dvs K) (d_L_reserved.kws K) (He.fAd K d_L_reserved.at_) fd) : Pk P w K mg base (k + 1) ("_law_reserved", none) [] sp := by
  obtain ⟨fd, F⟩ := F
  have nd := sc_L_reserved.nd
  refine ⟨fd, fn_dl F sc_L_reserved (t_L_reserved K) len (fun cdv A outer s H E hr gd => ?_) h, F.kp, F.bindsN fun _ _ _ _ _ _ us hl => match us, hl with | [], _ => rfl⟩
  have hu := hu_of hr
  exact (pss_one (ps_ret (pe_bm PySem.F.plainAttrs_str PySem.F.slot_str_split PySem.F.type_str_split mt_split pe_str (pa_cons pe_str pa_nil))))
theorem pk_L_name {P : Program} {w : World} {K : Frag} {mg : Str → Option Value} {base : Heap} {k : Nat} (T : Tx K mg) (C_L_draw : Pk P w K mg base k ("_law_draw", none) ["_law_stream", "_law_many"] (sp_L_draw K)) (C_L_reserved : Pk P w K mg base k ("_law_reserved", none) [] (sp_L_reserved K)) {sp : SpD} (len : ∀ ds γ q e, sp ds γ q e → ds.length = 1) (h : DL_L_name K sp)
    (F : ∃ fd, FunD K d_L_name.name d_L_name.qual d_L_name.params d_L_name.body d_L_name.scope (d_L_name.dvs K) (d_L_name.kws K) (He.fAd K d_L_name.at_) fd) : Pk P w K mg base (k + 1) ("_law_name", none) ["_law_stream"] sp := by
  obtain ⟨fd, F⟩ := F
  have nd := sc_L_name.nd
  refine ⟨fd, fn_dl F sc_L_name (t_L_name K) len (fun cdv A outer s H E hr gd => ?_) h, F.kp, F.bindsN fun _ _ _ _ _ _ us hl => match us, hl with | [_], _ => rfl⟩
  have hu := hu_of hr
  exact (pss_cons (ps_set (i := 1) nd rfl (Or.inl rfl) (pe_ix ix_seq (pe_lst (pa_cons pe_int (pa_cons pe_int (pa_cons pe_int (pa_cons pe_int (pa_cons pe_int pa_nil)))))) (callP C_L_draw hr gd rfl T.g_L_draw (pa_cons (pv 0) (pa_cons pe_int pa_nil))) (fun _ _ => rfl))) (pss_cons (ps_set (i := 2) nd rfl (Or.inl rfl) (pe_bm PySem.F.plainAttrs_str PySem.F.slot_str_join PySem.F.type_str_join mt_join pe_str (pa_cons (pe_lc (own := [("_law_k", 3)]) (g := (gName 3)) (tt := tYes) rfl nd (pi_range1 (by rfl) T.b_range (pa_cons (pv 1) pa_nil)) (blkOk_by (own := [("_law_k", 3)]) (N := N_L_name) (sc := defScope (top 30)) (by decide +kernel)) (fun _ _ _ _ _ => (pg_name (i := 3) nd rfl (Or.inl rfl))) (fun _ _ _ _ _ => pts_nil) (fun _ _ _ _ _ => (pe_ix ix_seq pe_str (callP C_L_draw hr gd rfl T.g_L_draw (pa_cons (pv 0) (pa_cons pe_int pa_nil))) (fun _ _ => rfl)))) pa_nil))) (pss_one (ps_ret (pe_op op_addG (pv 2) (pe_op op_mulG pe_str (pe_callTy call_intG (by rfl) T.b_int (by decide +kernel) (pa_cons (pe_cmpR (op_inG (hu65 hr)) (pv 2) (callP0 C_L_reserved hr gd rfl T.g_L_reserved) (by rfl)) pa_nil))))))))
theorem pk_L_names {P : Program} {w : World} {K : Frag} {mg : Str → Option Value} {base : Heap} {k : Nat} (T : Tx K mg) (C_L_name : Pk P w K mg base k ("_law_name", none) ["_law_stream"] (sp_L_name K)) {sp : SpD} (len : ∀ ds γ q e, sp ds γ q e → ds.length = 2) (h : DL_L_names K sp)
    (F : ∃ fd, FunD K d_L_names.name d_L_names.qual d_L_names.params d_L_names.body d_L_names.scope (d_L_names.dvs K) (d_L_names.kws K) (He.fAd K d_L_names.at_) fd) : Pk P w K mg base (k + 1) ("_law_names", none) ["_law_stream", "_law_many"] sp := by
  obtain ⟨fd, F⟩ := F
  have nd := sc_L_names.nd
  refine ⟨fd, fn_dl F sc_L_names (t_L_names K) len (fun cdv A outer s H E hr gd => ?_) h, F.kp, F.bindsN fun _ _ _ _ _ _ us hl => match us, hl with | [_, _], _ => rfl⟩
  have hu := hu_of hr
  exact (pss_cons (ps_set (i := 2) nd rfl (Or.inl rfl) (pe_lst pa_nil)) (pss_cons (ps_for PassesOwn.never rfl (pi_range1 (by rfl) T.b_range (pa_cons (pv 1) pa_nil)) (pg_name (i := 3) nd rfl (Or.inl rfl)) (pss_cons (ps_set (i := 4) nd rfl (Or.inl rfl) (callP C_L_name hr gd rfl T.g_L_name (pa_cons (pv 0) pa_nil))) (pss_cons (ps_for PassesOwn.never rfl (pi_list (pe_lst (pa_cons pe_str (pa_cons pe_str (pa_cons pe_str (pa_cons pe_str (pa_cons pe_str (pa_cons pe_str pa_nil)))))))) (pg_name (i := 5) nd rfl (Or.inl rfl)) (pss_one (ps_if (pt_cmpR (op_inG (hu65 hr)) (pv 4) (pv 2) (by rfl)) (pss_one (ps_set (i := 4) nd rfl (Or.inl rfl) (pv 5))) pss_nil))) (pss_one (ps_expr (pe_bm PySem.F.plainAttrs_list PySem.F.slot_list_append PySem.F.type_list_append mt_append (pv 2) (pa_cons (pv 4) pa_nil))))))) (pss_one (ps_ret (pv 2)))))
theorem pk_L_number {P : Program} {w : World} {K : Frag} {mg : Str → Option Value} {base : Heap} {k : Nat} (T : Tx K mg) (C_L_draw : Pk P w K mg base k ("_law_draw", none) ["_law_stream", "_law_many"] (sp_L_draw K)) {sp : SpD} (len : ∀ ds γ q e, sp ds γ q e → ds.length = 1) (h : DL_L_number K sp)
    (F : ∃ fd, FunD K d_L_number.name d_L_number.qual d_L_number.params d_L_number.body d_L_number.scope (d_L_number.dvs K) (d_L_number.kws K) (He.fAd K d_L_number.at_) fd) : Pk P w K mg base (k + 1) ("_law_number", none) ["_law_stream"] sp := by
  obtain ⟨fd, F⟩ := F
  have nd := sc_L_number.nd
  refine ⟨fd, fn_dl F sc_L_number (t_L_number K) len (fun cdv A outer s H E hr gd => ?_) h, F.kp, F.bindsN fun _ _ _ _ _ _ us hl => match us, hl with | [_], _ => rfl⟩
  have hu := hu_of hr
  exact (pss_one (ps_ret (pe_ix ix_seq (pe_lst (pa_cons pe_int (pa_cons pe_int (pa_cons pe_int (pa_cons pe_int (pa_cons pe_int (pa_cons pe_int (pa_cons (pe_op op_pow pe_int pe_int) (pa_cons (pe_op op_sub (pe_op op_pow pe_int pe_int) pe_int) pa_nil))))))))) (callP C_L_draw hr gd rfl T.g_L_draw (pa_cons (pv 0) (pa_cons pe_int pa_nil))) (fun _ _ => rfl))))
theorem pk_L_sum {P : Program} {w : World} {K : Frag} {mg : Str → Option Value} {base : Heap} {k : Nat} (T : Tx K mg) (s_L_sum : SpD) (C_L_draw : Pk P w K mg base k ("_law_draw", none) ["_law_stream", "_law_many"] (sp_L_draw K)) (C_L_number : Pk P w K mg base k ("_law_number", none) ["_law_stream"] (sp_L_number K)) (C_L_sum : Pk P w K mg base k ("_law_sum", none) ["_law_stream", "_law_names_here", "_law_depth"] s_L_sum) {sp : SpD} (len : ∀ ds γ q e, sp ds γ q e → ds.length = 3) (h : DL_L_sum K s_L_sum sp)
    (F : ∃ fd, FunD K d_L_sum.name d_L_sum.qual d_L_sum.params d_L_sum.body d_L_sum.scope (d_L_sum.dvs K) (d_L_sum.kws K) (He.fAd K d_L_sum.at_) fd) : Pk P w K mg base (k + 1) ("_law_sum", none) ["_law_stream", "_law_names_here", "_law_depth"] sp := by
  obtain ⟨fd, F⟩ := F
  have nd := sc_L_sum.nd
  refine ⟨fd, fn_dl F sc_L_sum (t_L_sum K s_L_sum) len (fun cdv A outer s H E hr gd => ?_) h, F.kp, F.bindsN fun _ _ _ _ _ _ us hl => match us, hl with | [_, _, _], _ => rfl⟩
  have hu := hu_of hr
  exact (pss_cons (ps_set (i := 3) nd rfl (Or.inl rfl) (callP C_L_draw hr gd rfl T.g_L_draw (pa_cons (pv 0) (pa_cons pe_int pa_nil)))) (pss_cons (ps_if (PW.pt (pw_or (pt_cmpR (op_eqG hr.units) (pv 2) pe_int (nomark _)) (pw_or1 (pt_cmpR (op_eqG hr.units) (pv 3) pe_int (nomark _))))) (pss_cons (ps_if (pt_cmpR (op_eqG hr.units) (callP C_L_draw hr gd rfl T.g_L_draw (pa_cons (pv 0) (pa_cons pe_int pa_nil))) pe_int (nomark _)) (pss_one (ps_ret (pe_tup (pa_cons pe_str (pa_cons (callP C_L_number hr gd rfl T.g_L_number (pa_cons (pv 0) pa_nil)) pa_nil))))) pss_nil) (pss_one (ps_ret (pe_tup (pa_cons pe_str (pa_cons (pe_ix ix_seq (pv 1) (callP C_L_draw hr gd rfl T.g_L_draw (pa_cons (pv 0) (pa_cons (pe_callB call_len (by rfl) T.b_len (by decide +kernel) (pa_cons (pv 1) pa_nil)) pa_nil))) (fun _ _ => rfl)) pa_nil)))))) pss_nil) (pss_cons (ps_if (pt_cmpR op_lt (pv 3) pe_int (nomark _)) (pss_one (ps_ret (pe_tup (pa_cons pe_str (pa_cons (callP C_L_sum hr gd rfl T.g_L_sum (pa_cons (pv 0) (pa_cons (pv 1) (pa_cons (pe_op op_sub (pv 2) pe_int) pa_nil)))) pa_nil))))) pss_nil) (pss_cons (ps_set (i := 4) nd rfl (Or.inl rfl) (pe_ix ix_seq (pe_lst (pa_cons pe_str (pa_cons pe_str (pa_cons pe_str (pa_cons pe_str (pa_cons pe_str pa_nil)))))) (pe_op op_modN (pv 3) pe_int) (fun _ _ => rfl))) (pss_one (ps_ret (pe_tup (pa_cons (pv 4) (pa_cons (callP C_L_sum hr gd rfl T.g_L_sum (pa_cons (pv 0) (pa_cons (pv 1) (pa_cons (pe_op op_sub (pv 2) pe_int) pa_nil)))) (pa_cons (callP C_L_sum hr gd rfl T.g_L_sum (pa_cons (pv 0) (pa_cons (pv 1) (pa_cons (pe_op op_sub (pv 2) pe_int) pa_nil)))) pa_nil))))))))))
theorem pk_L_truth {P : Program} {w : World} {K : Frag} {mg : Str → Option Value} {base : Heap} {k : Nat} (T : Tx K mg) (s_L_truth : SpD) (C_L_draw : Pk P w K mg base k ("_law_draw", none) ["_law_stream", "_law_many"] (sp_L_draw K)) (C_L_sum : Pk P w K mg base k ("_law_sum", none) ["_law_stream", "_law_names_here", "_law_depth"] (sp_L_sum K)) (C_L_truth : Pk P w K mg base k ("_law_truth", none) ["_law_stream", "_law_names_here", "_law_depth"] s_L_truth) {sp : SpD} (len : ∀ ds γ q e, sp ds γ q e → ds.length = 3) (h : DL_L_truth K s_L_truth sp)
    (F : ∃ fd, FunD K d_L_truth.name d_L_truth.qual d_L_truth.params d_L_truth.body d_L_truth.scope (d_L_truth.dvs K) (d_L_truth.kws K) (He.fAd K d_L_truth.at_) fd) : Pk P w K mg base (k + 1) ("_law_truth", none) ["_law_stream", "_law_names_here", "_law_depth"] sp := by
  obtain ⟨fd, F⟩ := F
  have nd := sc_L_truth.nd
  refine ⟨fd, fn_dl F sc_L_truth (t_L_truth K s_L_truth) len (fun cdv A outer s H E hr gd => ?_) h, F.kp, F.bindsN fun _ _ _ _ _ _ us hl => match us, hl with | [_, _, _], _ => rfl⟩
  have hu := hu_of hr
  exact (pss_cons (ps_set (i := 3) nd rfl (Or.inl rfl) (callP C_L_draw hr gd rfl T.g_L_draw (pa_cons (pv 0) (pa_cons pe_int pa_nil)))) (pss_cons (ps_if (PW.pt (pw_or (pt_cmpR (op_eqG hr.units) (pv 2) pe_int (nomark _)) (pw_or1 (pt_cmpR op_lt (pv 3) pe_int (nomark _))))) (pss_cons (ps_set (i := 4) nd rfl (Or.inl rfl) (pe_ix ix_seq (pe_bm PySem.F.plainAttrs_str PySem.F.slot_str_split PySem.F.type_str_split mt_split pe_str (pa_cons pe_str pa_nil)) (callP C_L_draw hr gd rfl T.g_L_draw (pa_cons (pv 0) (pa_cons pe_int pa_nil))) (fun _ _ => rfl))) (pss_cons (ps_set (i := 5) nd rfl (Or.inl rfl) (callP C_L_sum hr gd rfl T.g_L_sum (pa_cons (pv 0) (pa_cons (pv 1) (pa_cons (callP C_L_draw hr gd rfl T.g_L_draw (pa_cons (pv 0) (pa_cons pe_int pa_nil))) pa_nil))))) (pss_one (ps_ret (pe_tup (pa_cons (pv 4) (pa_cons (pv 5) (pa_cons (callP C_L_sum hr gd rfl T.g_L_sum (pa_cons (pv 0) (pa_cons (pv 1) (pa_cons (callP C_L_draw hr gd rfl T.g_L_draw (pa_cons (pv 0) (pa_cons pe_int pa_nil))) pa_nil)))) pa_nil)))))))) pss_nil) (pss_cons (ps_if (pt_cmpR (op_eqG hr.units) (pv 3) pe_int (nomark _)) (pss_one (ps_ret (pe_tup (pa_cons pe_str (pa_cons (callP C_L_truth hr gd rfl T.g_L_truth (pa_cons (pv 0) (pa_cons (pv 1) (pa_cons (pe_op op_sub (pv 2) pe_int) pa_nil)))) pa_nil))))) pss_nil) (pss_cons (ps_set (i := 6) nd rfl (Or.inl rfl) (pe_ix ix_seq (pe_lst (pa_cons pe_str (pa_cons pe_str pa_nil))) (pe_op op_modN (pv 3) pe_int) (fun _ _ => rfl))) (pss_one (ps_ret (pe_tup (pa_cons (pv 6) (pa_cons (callP C_L_truth hr gd rfl T.g_L_truth (pa_cons (pv 0) (pa_cons (pv 1) (pa_cons (pe_op op_sub (pv 2) pe_int) pa_nil)))) (pa_cons (callP C_L_truth hr gd rfl T.g_L_truth (pa_cons (pv 0) (pa_cons (pv 1) (pa_cons (pe_op op_sub (pv 2) pe_int) pa_nil)))) pa_nil))))))))))
theorem pk_L_rank {P : Program} {w : World} {K : Frag} {mg : Str → Option Value} {base : Heap} {k : Nat} (T : Tx K mg) {sp : SpD} (len : ∀ ds γ q e, sp ds γ q e → ds.length = 1) (h : DL_L_rank K sp)
    (F : ∃ fd, FunD K d_L_rank.name d_L_rank.qual d_L_rank.params d_L_rank.body d_L_rank.scope (d_L_rank.dvs K) (d_L_rank.kws K) (He.fAd K d_L_rank.at_) fd) : Pk P w K mg base (k + 1) ("_law_rank", none) ["_law_word"] sp := by
  obtain ⟨fd, F⟩ := F
  have nd := sc_L_rank.nd
  refine ⟨fd, fn_dl F sc_L_rank (t_L_rank K) len (fun cdv A outer s H E hr gd => ?_) h, F.kp, F.bindsN fun _ _ _ _ _ _ us hl => match us, hl with | [_], _ => rfl⟩
  have hu := hu_of hr
  exact (pss_one (ps_ret (pe_dget2 hu (pe_disp (pps_cons pe_str pe_int (pps_cons pe_str pe_int (pps_cons pe_str pe_int (pps_cons pe_str pe_int (pps_cons pe_str pe_int (pps_cons pe_str pe_int (pps_cons pe_str pe_int pps_nil))))))) (by rfl) (by rfl) (fun z => by cases z) (by decide)) (pv 0) pe_int ⟨rfl, by rfl, rfl, rfl⟩)))
theorem pk_L_tokens {P : Program} {w : World} {K : Frag} {mg : Str → Option Value} {base : Heap} {k : Nat} (T : Tx K mg) (s_L_tokens : SpD) (C_L_rank : Pk P w K mg base k ("_law_rank", none) ["_law_word"] (sp_L_rank K)) (C_L_tokens : Pk P w K mg base k ("_law_tokens", none) ["_law_stream", "_law_node", "_law_least"] s_L_tokens) (C_L_draw : Pk P w K mg base k ("_law_draw", none) ["_law_stream", "_law_many"] (sp_L_draw K)) {sp : SpD} (len : ∀ ds γ q e, sp ds γ q e → ds.length = 3) (h : DL_L_tokens K s_L_tokens sp)
    (F : ∃ fd, FunD K d_L_tokens.name d_L_tokens.qual d_L_tokens.params d_L_tokens.body d_L_tokens.scope (d_L_tokens.dvs K) (d_L_tokens.kws K) (He.fAd K d_L_tokens.at_) fd) : Pk P w K mg base (k + 1) ("_law_tokens", none) ["_law_stream", "_law_node", "_law_least"] sp := by
  obtain ⟨fd, F⟩ := F
  have nd := sc_L_tokens.nd
  refine ⟨fd, fn_dl F sc_L_tokens (t_L_tokens K s_L_tokens) len (fun cdv A outer s H E hr gd => ?_) h, F.kp, F.bindsN fun _ _ _ _ _ _ us hl => match us, hl with | [_, _, _], _ => rfl⟩
  have hu := hu_of hr
  exact (pss_cons (ps_set (i := 3) nd rfl (Or.inl rfl) (pe_ix ix_seq (pv 1) pe_int (fun _ _ => rfl))) (pss_cons (ps_set (i := 4) nd rfl (Or.inl rfl) (callP C_L_rank hr gd rfl T.g_L_rank (pa_cons (pv 3) pa_nil))) (pss_cons (ps_if (pt_cmpR (op_inG (hu65 hr)) (pv 3) (pe_tup (pa_cons pe_str (pa_cons pe_str pa_nil))) (by rfl)) (pss_one (ps_set (i := 5) nd rfl (Or.inl rfl) (pe_lst (pa_cons (pe_callTy call_strG (by rfl) T.b_str (by decide +kernel) (pa_cons (pe_ix ix_seq (pv 1) pe_int (fun _ _ => rfl)) pa_nil)) pa_nil)))) (pss_one (ps_if (pt_cmpR (op_inG (hu65 hr)) (pv 3) (pe_tup (pa_cons pe_str (pa_cons pe_str pa_nil))) (by rfl)) (pss_one (ps_set (i := 5) nd rfl (Or.inl rfl) (pe_op op_addG (pe_lst (pa_cons (pe_ix ix_seq (pe_lst (pa_cons pe_str (pa_cons pe_str pa_nil))) (pe_callTy call_intG (by rfl) T.b_int (by decide +kernel) (pa_cons (pe_cmpR (op_eqG hr.units) (pv 3) pe_str (nomark _)) pa_nil)) (fun _ _ => rfl)) pa_nil)) (callP C_L_tokens hr gd rfl T.g_L_tokens (pa_cons (pv 0) (pa_cons (pe_ix ix_seq (pv 1) pe_int (fun _ _ => rfl)) (pa_cons pe_int pa_nil))))))) (pss_one (ps_if (pt_cmpR (op_inG (hu65 hr)) (pv 3) (pe_bm PySem.F.plainAttrs_str PySem.F.slot_str_split PySem.F.type_str_split mt_split pe_str (pa_cons pe_str pa_nil)) (by rfl)) (pss_one (ps_set (i := 5) nd rfl (Or.inl rfl) (pe_op op_addG (pe_op op_addG (callP C_L_tokens hr gd rfl T.g_L_tokens (pa_cons (pv 0) (pa_cons (pe_ix ix_seq (pv 1) pe_int (fun _ _ => rfl)) (pa_cons pe_int pa_nil)))) (pe_lst (pa_cons (pv 3) pa_nil))) (callP C_L_tokens hr gd rfl T.g_L_tokens (pa_cons (pv 0) (pa_cons (pe_ix ix_seq (pv 1) pe_int (fun _ _ => rfl)) (pa_cons pe_int pa_nil))))))) (pss_one (ps_set (i := 5) nd rfl (Or.inl rfl) (pe_op op_addG (pe_op op_addG (callP C_L_tokens hr gd rfl T.g_L_tokens (pa_cons (pv 0) (pa_cons (pe_ix ix_seq (pv 1) pe_int (fun _ _ => rfl)) (pa_cons (pv 4) pa_nil)))) (pe_lst (pa_cons (pv 3) pa_nil))) (callP C_L_tokens hr gd rfl T.g_L_tokens (pa_cons (pv 0) (pa_cons (pe_ix ix_seq (pv 1) pe_int (fun _ _ => rfl)) (pa_cons (pe_op op_addG (pv 4) pe_int) pa_nil)))))))))))) (pss_cons (ps_set (i := 6) nd rfl (Or.inl rfl) (pe_ix ix_seq (pe_lst (pa_cons pe_str (pa_cons pe_str pa_nil))) (pe_callTy call_intG (by rfl) T.b_int (by decide +kernel) (pa_cons (pe_cmpR (op_inG (hu65 hr)) (pv 3) (pe_bm PySem.F.plainAttrs_str PySem.F.slot_str_split PySem.F.type_str_split mt_split pe_str (pa_cons pe_str pa_nil)) (by rfl)) pa_nil)) (fun _ _ => rfl))) (pss_cons (ps_if (PW.pt (pw_or (pt_cmpR op_lt (pv 4) (pv 2) (nomark _)) (pw_or1 (pt_cmpR (op_eqG hr.units) (callP C_L_draw hr gd rfl T.g_L_draw (pa_cons (pv 0) (pa_cons pe_int pa_nil))) pe_int (nomark _))))) (pss_one (ps_ret (pe_op op_addG (pe_op op_addG (pe_lst (pa_cons (pe_ix ix_seq (pv 6) pe_int (fun _ _ => rfl)) pa_nil)) (pv 5)) (pe_lst (pa_cons (pe_ix ix_seq (pv 6) pe_int (fun _ _ => rfl)) pa_nil))))) pss_nil) (pss_one (ps_ret (pv 5))))))))
theorem pk_L_canonical {P : Program} {w : World} {K : Frag} {mg : Str → Option Value} {base : Heap} {k : Nat} (T : Tx K mg) (s_L_canonical : SpD) (C_L_rank : Pk P w K mg base k ("_law_rank", none) ["_law_word"] (sp_L_rank K)) (C_L_canonical : Pk P w K mg base k ("_law_canonical", none) ["_law_node", "_law_least"] s_L_canonical) {sp : SpD} (len : ∀ ds γ q e, sp ds γ q e → ds.length = 2) (h : DL_L_canonical K s_L_canonical sp)
    (F : ∃ fd, FunD K d_L_canonical.name d_L_canonical.qual d_L_canonical.params d_L_canonical.body d_L_canonical.scope (d_L_canonical.dvs K) (d_L_canonical.kws K) (He.fAd K d_L_canonical.at_) fd) : Pk P w K mg base (k + 1) ("_law_canonical", none) ["_law_node", "_law_least"] sp := by
  obtain ⟨fd, F⟩ := F
  have nd := sc_L_canonical.nd
  refine ⟨fd, fn_dl F sc_L_canonical (t_L_canonical K s_L_canonical) len (fun cdv A outer s H E hr gd => ?_) h, F.kp, F.bindsN fun _ _ _ _ _ _ us hl => match us, hl with | [_, _], _ => rfl⟩
  have hu := hu_of hr
  exact (pss_cons (ps_set (i := 2) nd rfl (Or.inl rfl) (pe_ix ix_seq (pv 0) pe_int (fun _ _ => rfl))) (pss_cons (ps_set (i := 3) nd rfl (Or.inl rfl) (callP C_L_rank hr gd rfl T.g_L_rank (pa_cons (pv 2) pa_nil))) (pss_cons (ps_if (pt_cmpR (op_inG (hu65 hr)) (pv 2) (pe_tup (pa_cons pe_str (pa_cons pe_str pa_nil))) (by rfl)) (pss_one (ps_set (i := 4) nd rfl (Or.inl rfl) (pe_callTy call_strG (by rfl) T.b_str (by decide +kernel) (pa_cons (pe_ix ix_seq (pv 0) pe_int (fun _ _ => rfl)) pa_nil)))) (pss_one (ps_if (pt_cmpR (op_inG (hu65 hr)) (pv 2) (pe_tup (pa_cons pe_str (pa_cons pe_str pa_nil))) (by rfl)) (pss_one (ps_set (i := 4) nd rfl (Or.inl rfl) (pe_op op_addG (pe_ix ix_seq (pe_lst (pa_cons pe_str (pa_cons pe_str pa_nil))) (pe_callTy call_intG (by rfl) T.b_int (by decide +kernel) (pa_cons (pe_cmpR (op_eqG hr.units) (pv 2) pe_str (nomark _)) pa_nil)) (fun _ _ => rfl)) (callP C_L_canonical hr gd rfl T.g_L_canonical (pa_cons (pe_ix ix_seq (pv 0) pe_int (fun _ _ => rfl)) (pa_cons pe_int pa_nil)))))) (pss_one (ps_if (pt_cmpR (op_inG (hu65 hr)) (pv 2) (pe_bm PySem.F.plainAttrs_str PySem.F.slot_str_split PySem.F.type_str_split mt_split pe_str (pa_cons pe_str pa_nil)) (by rfl)) (pss_one (ps_set (i := 4) nd rfl (Or.inl rfl) (pe_bm PySem.F.plainAttrs_str PySem.F.slot_str_join PySem.F.type_str_join mt_join pe_str (pa_cons (pe_lst (pa_cons (callP C_L_canonical hr gd rfl T.g_L_canonical (pa_cons (pe_ix ix_seq (pv 0) pe_int (fun _ _ => rfl)) (pa_cons pe_int pa_nil))) (pa_cons (pv 2) (pa_cons (callP C_L_canonical hr gd rfl T.g_L_canonical (pa_cons (pe_ix ix_seq (pv 0) pe_int (fun _ _ => rfl)) (pa_cons pe_int pa_nil))) pa_nil)))) pa_nil)))) (pss_one (ps_set (i := 4) nd rfl (Or.inl rfl) (pe_bm PySem.F.plainAttrs_str PySem.F.slot_str_join PySem.F.type_str_join mt_join pe_str (pa_cons (pe_lst (pa_cons (callP C_L_canonical hr gd rfl T.g_L_canonical (pa_cons (pe_ix ix_seq (pv 0) pe_int (fun _ _ => rfl)) (pa_cons (pv 3) pa_nil))) (pa_cons (pv 2) (pa_cons (callP C_L_canonical hr gd rfl T.g_L_canonical (pa_cons (pe_ix ix_seq (pv 0) pe_int (fun _ _ => rfl)) (pa_cons (pe_op op_addG (pv 3) pe_int) pa_nil))) pa_nil)))) pa_nil))))))))) (pss_cons (ps_set (i := 5) nd rfl (Or.inl rfl) (pe_ix ix_seq (pe_lst (pa_cons pe_str (pa_cons pe_str pa_nil))) (pe_callTy call_intG (by rfl) T.b_int (by decide +kernel) (pa_cons (pe_cmpR (op_inG (hu65 hr)) (pv 2) (pe_tup (pa_cons pe_str (pa_cons pe_str pa_nil))) (by rfl)) pa_nil)) (fun _ _ => rfl))) (pss_one (ps_ret (pe_ifExp (pt_cmpR op_lt (pv 3) (pv 1) (nomark _)) (pe_op op_addG (pe_op op_addG (pe_ix ix_seq (pv 5) pe_int (fun _ _ => rfl)) (pv 4)) (pe_ix ix_seq (pv 5) pe_int (fun _ _ => rfl))) (pv 4))))))))
theorem pk_L_grows {P : Program} {w : World} {K : Frag} {mg : Str → Option Value} {base : Heap} {k : Nat} (T : Tx K mg) {sp : SpD} (len : ∀ ds γ q e, sp ds γ q e → ds.length = 2) (h : DL_L_grows K sp)
    (F : ∃ fd, FunD K d_L_grows.name d_L_grows.qual d_L_grows.params d_L_grows.body d_L_grows.scope (d_L_grows.dvs K) (d_L_grows.kws K) (He.fAd K d_L_grows.at_) fd) : Pk P w K mg base (k + 1) ("_law_grows", none) ["_law_one", "_law_other"] sp := by
  obtain ⟨fd, F⟩ := F
  have nd := sc_L_grows.nd
  refine ⟨fd, fn_dl F sc_L_grows (t_L_grows K) len (fun cdv A outer s H E hr gd => ?_) h, F.kp, F.bindsN fun _ _ _ _ _ _ us hl => match us, hl with | [_, _], _ => rfl⟩
  have hu := hu_of hr
  exact (pss_cons (ps_asg (pe_tup (pa_cons pe_str (pa_cons pe_str pa_nil))) (pg_tup rfl (pgs_cons (pg_name (i := 2) nd rfl (Or.inl rfl)) (pgs_cons (pg_name (i := 3) nd rfl (Or.inl rfl)) pgs_nil)))) (pss_cons (ps_if (PW.pt (pw_or (PW.pt (pw_and (pt_cmpR (op_inG (hu65 hr)) (pe_ix ix_seq (pv 0) (pe_un un_neg pe_int) (fun _ _ => rfl)) (pv 2) (by rfl)) (pw_and1 (pt_cmpR (op_inG (hu65 hr)) (pe_ix ix_seq (pv 1) pe_int (fun _ _ => rfl)) (pv 2) (by rfl))))) (pw_or1 (PW.pt (pw_and (pt_cmpR (op_inG (hu65 hr)) (pe_ix ix_seq (pv 0) (pe_un un_neg pe_int) (fun _ _ => rfl)) (pv 3) (by rfl)) (pw_and1 (pt_cmpR (op_inG (hu65 hr)) (pe_ix ix_seq (pv 1) pe_int (fun _ _ => rfl)) (pv 3) (by rfl)))))))) (pss_one (ps_ret pe_bl)) pss_nil) (pss_one (ps_ret (pe_or (pe_and (pe_cmpR (op_inG (hu65 hr)) (pv 0) (pe_tup (pa_cons pe_str (pa_cons pe_str (pa_cons pe_str pa_nil)))) (by rfl)) (pe_one (pe_cmpR (op_eqG hr.units) (pe_ix ix_seq (pv 1) pe_int (fun _ _ => rfl)) pe_str (nomark _)))) (pe_one (pe_and (pe_cmpR (op_eqG hr.units) (pv 0) pe_str (nomark _)) (pe_one (pe_cmpR (op_eqG hr.units) (pe_ix ix_seq (pv 1) pe_int (fun _ _ => rfl)) pe_str (nomark _))))))))))
theorem pk_L_text {P : Program} {w : World} {K : Frag} {mg : Str → Option Value} {base : Heap} {k : Nat} (T : Tx K mg) (C_L_draw : Pk P w K mg base k ("_law_draw", none) ["_law_stream", "_law_many"] (sp_L_draw K)) (C_L_grows : Pk P w K mg base k ("_law_grows", none) ["_law_one", "_law_other"] (sp_L_grows K)) {sp : SpD} (len : ∀ ds γ q e, sp ds γ q e → ds.length = 2) (h : DL_L_text K sp)
    (F : ∃ fd, FunD K d_L_text.name d_L_text.qual d_L_text.params d_L_text.body d_L_text.scope (d_L_text.dvs K) (d_L_text.kws K) (He.fAd K d_L_text.at_) fd) : Pk P w K mg base (k + 1) ("_law_text", none) ["_law_stream", "_law_some"] sp := by
  obtain ⟨fd, F⟩ := F
  have nd := sc_L_text.nd
  refine ⟨fd, fn_dl F sc_L_text (t_L_text K) len (fun cdv A outer s H E hr gd => ?_) h, F.kp, F.bindsN fun _ _ _ _ _ _ us hl => match us, hl with | [_, _], _ => rfl⟩
  have hu := hu_of hr
  exact (pss_cons (ps_set (i := 2) nd rfl (Or.inl rfl) (pe_op op_mulG pe_str (pe_ix ix_seq (pe_lst (pa_cons pe_int (pa_cons pe_int (pa_cons pe_int (pa_cons pe_int pa_nil))))) (callP C_L_draw hr gd rfl T.g_L_draw (pa_cons (pv 0) (pa_cons pe_int pa_nil))) (fun _ _ => rfl)))) (pss_cons (ps_set (i := 3) nd rfl (Or.inl rfl) (pe_lst pa_nil)) (pss_cons (ps_for PassesOwn.never rfl (pi_range1 (by rfl) T.b_range (pa_cons (pe_callB call_len (by rfl) T.b_len (by decide +kernel) (pa_cons (pv 1) pa_nil)) pa_nil)) (pg_name (i := 4) nd rfl (Or.inl rfl)) (pss_cons (ps_set (i := 5) nd rfl (Or.inl rfl) (pe_ix ix_seq (pe_lst (pa_cons pe_int (pa_cons pe_int (pa_cons pe_int (pa_cons pe_int (pa_cons pe_int pa_nil)))))) (callP C_L_draw hr gd rfl T.g_L_draw (pa_cons (pv 0) (pa_cons pe_int pa_nil))) (fun _ _ => rfl))) (pss_cons (ps_if (PW.pt (pw_and (pt_cmpR op_gt (pv 4) pe_int (nomark _)) (pw_and1 (pt_val (callP C_L_grows hr gd rfl T.g_L_grows (pa_cons (pe_ix ix_seq (pv 1) (pe_op op_sub (pv 4) pe_int) (fun _ _ => rfl)) (pa_cons (pe_ix ix_seq (pv 1) (pv 4) (fun _ _ => rfl)) pa_nil))))))) (pss_one (ps_set (i := 5) nd rfl (Or.inl rfl) (pe_callB (call_max2 rfl) (by rfl) T.b_max (by decide +kernel) (pa_cons pe_int (pa_cons (pv 5) pa_nil))))) pss_nil) (pss_cons (ps_set (i := 2) nd rfl (Or.inl rfl) (pe_op op_addG (pv 2) (pe_op op_mulG pe_str (pe_op op_mulG (pv 5) (pe_callTy call_intG (by rfl) T.b_int (by decide +kernel) (pa_cons (pe_cmpR op_gt (pv 4) pe_int (nomark _)) pa_nil)))))) (pss_cons (ps_expr (pe_bm PySem.F.plainAttrs_list PySem.F.slot_list_append PySem.F.type_list_append mt_append (pv 3) (pa_cons (pe_callB call_len (by rfl) T.b_len (by decide +kernel) (pa_cons (pv 2) pa_nil)) pa_nil))) (pss_one (ps_set (i := 2) nd rfl (Or.inl rfl) (pe_op op_addG (pv 2) (pe_ix ix_seq (pv 1) (pv 4) (fun _ _ => rfl)))))))))) (pss_one (ps_ret (pe_lst (pa_cons (pe_op op_addG (pv 2) (pe_op op_mulG pe_str (pe_ix ix_seq (pe_lst (pa_cons pe_int (pa_cons pe_int (pa_cons pe_int (pa_cons pe_int pa_nil))))) (callP C_L_draw hr gd rfl T.g_L_draw (pa_cons (pv 0) (pa_cons pe_int pa_nil))) (fun _ _ => rfl)))) (pa_cons (pv 3) pa_nil))))))))
theorem pk_L_is_within {P : Program} {w : World} {K : Frag} {mg : Str → Option Value} {base : Heap} {k : Nat} (T : Tx K mg) {sp : SpD} (len : ∀ ds γ q e, sp ds γ q e → ds.length = 1) (h : DL_L_is_within K sp)
    (F : ∃ fd, FunD K d_L_is_within.name d_L_is_within.qual d_L_is_within.params d_L_is_within.body d_L_is_within.scope (d_L_is_within.dvs K) (d_L_is_within.kws K) (He.fAd K d_L_is_within.at_) fd) : Pk P w K mg base (k + 1) ("_law_is_within", none) ["_law_text_here"] sp := by
  obtain ⟨fd, F⟩ := F
  have nd := sc_L_is_within.nd
  refine ⟨fd, fn_dl F sc_L_is_within (t_L_is_within K) len (fun cdv A outer s H E hr gd => ?_) h, F.kp, F.bindsN fun _ _ _ _ _ _ us hl => match us, hl with | [_], _ => rfl⟩
  have hu := hu_of hr
  exact (pss_one (ps_ret (pe_and (pe_cmpR op_le (pe_callB call_len (by rfl) T.b_len (by decide +kernel) (pa_cons (pv 0) pa_nil)) pe_int (nomark _)) (pe_one (pe_cmpR op_le (pe_callB (cr_max rfl) (by rfl) T.b_max (by decide +kernel) (pa_cons (pe_lc (own := [("_law_sign", 1)]) (g := (gName 1)) (tt := tYes) rfl nd (pi_tup (pe_tup (pa_cons pe_str (pa_cons pe_str (pa_cons pe_str (pa_cons pe_str pa_nil)))))) (blkOk_by (own := [("_law_sign", 1)]) (N := N_L_is_within) (sc := defScope (top 40)) (by decide +kernel)) (fun _ _ _ _ _ => (pg_name (i := 1) nd rfl (Or.inl rfl))) (fun _ _ _ _ _ => pts_nil) (fun _ _ _ _ _ => (pe_bm PySem.F.plainAttrs_str PySem.F.slot_str_count PySem.F.type_str_count mt_count (pv 0) (pa_cons (pv 1) pa_nil)))) pa_nil)) pe_int (nomark _))))))
theorem pk_L_parsed {P : Program} {w : World} {K : Frag} {mg : Str → Option Value} {base : Heap} {k : Nat} (T : Tx K mg) (C_parse_expression : Pk P w K mg base k ("parse_expression", none) ["text"] (sp_parse_expression K)) (C_parse_condition : Pk P w K mg base k ("parse_condition", none) ["text"] (sp_parse_condition K)) {sp : SpD} (len : ∀ ds γ q e, sp ds γ q e → ds.length = 2) (h : DL_L_parsed K sp)
    (F : ∃ fd, FunD K d_L_parsed.name d_L_parsed.qual d_L_parsed.params d_L_parsed.body d_L_parsed.scope (d_L_parsed.dvs K) (d_L_parsed.kws K) (He.fAd K d_L_parsed.at_) fd) : Pk P w K mg base (k + 1) ("_law_parsed", none) ["_law_start", "_law_text_here"] sp := by
  obtain ⟨fd, F⟩ := F
  have nd := sc_L_parsed.nd
  refine ⟨fd, fn_dl F sc_L_parsed (t_L_parsed K) len (fun cdv A outer s H E hr gd => ?_) h, F.kp, F.bindsN fun _ _ _ _ _ _ us hl => match us, hl with | [_, _], _ => rfl⟩
  have hu := hu_of hr
  exact (pss_cons (ps_set (i := 2) nd rfl (Or.inl rfl) pe_non) (pss_cons (ps_try_thru0 (pss_one (ps_set (i := 2) nd rfl (Or.inl rfl) (pe_ifExp (pt_cmpR (op_eqG hr.units) (pv 0) pe_str (nomark _)) (callP C_parse_expression hr gd rfl T.g_parse_expression (pa_cons (pv 1) pa_nil)) (callP C_parse_condition hr gd rfl T.g_parse_condition (pa_cons (pv 1) pa_nil)))))) (pss_one (ps_ret (pv 2)))))
theorem pk_L_listed {P : Program} {w : World} {K : Frag} {mg : Str → Option Value} {base : Heap} {k : Nat} (T : Tx K mg) (s_L_listed : SpD) (C_L_listed : Pk P w K mg base k ("_law_listed", none) ["_law_node"] s_L_listed) {sp : SpD} (len : ∀ ds γ q e, sp ds γ q e → ds.length = 1) (h : DL_L_listed K s_L_listed sp)
    (F : ∃ fd, FunD K d_L_listed.name d_L_listed.qual d_L_listed.params d_L_listed.body d_L_listed.scope (d_L_listed.dvs K) (d_L_listed.kws K) (He.fAd K d_L_listed.at_) fd) : Pk P w K mg base (k + 1) ("_law_listed", none) ["_law_node"] sp := by
  obtain ⟨fd, F⟩ := F
  have nd := sc_L_listed.nd
  refine ⟨fd, fn_dl F sc_L_listed (t_L_listed K s_L_listed) len (fun cdv A outer s H E hr gd => ?_) h, F.kp, F.bindsN fun _ _ _ _ _ _ us hl => match us, hl with | [_], _ => rfl⟩
  have hu := hu_of hr
  exact (pss_one (ps_ret (pe_ifExp (pt_val (pe_callB call_isi (by rfl) T.b_isinstance (by decide +kernel) (pa_cons (pv 0) (pa_cons (pe_bltn (by rfl) T.b_tuple (by decide +kernel) rfl) pa_nil)))) (pe_lc (own := [("_law_part", 1)]) (g := (gName 1)) (tt := tYes) rfl nd (pi_tup (pv 0)) (blkOk_by (own := [("_law_part", 1)]) (N := N_L_listed) (sc := defScope (top 42)) (by decide +kernel)) (fun _ _ _ _ _ => (pg_name (i := 1) nd rfl (Or.inl rfl))) (fun _ _ _ _ _ => pts_nil) (fun _ _ _ _ _ => (callP C_L_listed hr gd rfl T.g_L_listed (pa_cons (pv 1) pa_nil)))) (pv 0))))
theorem pk_law {P : Program} {w : World} {K : Frag} {mg : Str → Option Value} {base : Heap} {k : Nat} {fd : FuncData} (T : Tx K mg) (C_L_names : Pk P w K mg base k ("_law_names", none) ["_law_stream", "_law_many"] (sp_L_names K)) (C_L_draw : Pk P w K mg base k ("_law_draw", none) ["_law_stream", "_law_many"] (sp_L_draw K)) (C_L_sum : Pk P w K mg base k ("_law_sum", none) ["_law_stream", "_law_names_here", "_law_depth"] (sp_L_sum K)) (C_L_truth : Pk P w K mg base k ("_law_truth", none) ["_law_stream", "_law_names_here", "_law_depth"] (sp_L_truth K)) (C_L_canonical : Pk P w K mg base k ("_law_canonical", none) ["_law_node", "_law_least"] (sp_L_canonical K)) (C_L_tokens : Pk P w K mg base k ("_law_tokens", none) ["_law_stream", "_law_node", "_law_least"] (sp_L_tokens K)) (C_L_text : Pk P w K mg base k ("_law_text", none) ["_law_stream", "_law_some"] (sp_L_text K)) (C_L_is_within : Pk P w K mg base k ("_law_is_within", none) ["_law_text_here"] (sp_L_is_within K)) (C_L_listed : Pk P w K mg base k ("_law_listed", none) ["_law_node"] (sp_L_listed K)) (C_written : Pk P w K mg base k ("written", none) ["node"] (sp_written K)) (C_L_parsed : Pk P w K mg base k ("_law_parsed", none) ["_law_start", "_law_text_here"] (sp_L_parsed K)) (C_parse_condition : Pk P w K mg base k ("parse_condition", none) ["text"] (sp_parse_condition K)) (C_parse_expression : Pk P w K mg base k ("parse_expression", none) ["text"] (sp_parse_expression K)) (h : DL_law K)
    (F : FunD K d_law.name d_law.qual d_law.params d_law.body d_law.scope (d_law.dvs K) (d_law.kws K) (He.fAd K d_law.at_) fd) : FnG P w K mg base CX0 (k + 1) (He.fAd K d_law.at_) fd ["_law_script"] (spLaw K) := by
  have nd := sc_law.nd
  refine fn_law F sc_law (t_law K) (fun cdv A outer s H E hr gd => ?_) h
  have hu := hu_of hr
  exact (pss_cons (ps_set (i := 1) nd rfl (Or.inl rfl) (pe_lst (pa_cons (pe_callTy call_list_of (by rfl) T.b_list (by decide +kernel) (pa_cons (pv 0) pa_nil)) (pa_cons pe_int (pa_cons pe_int (pa_cons pe_int pa_nil)))))) (pss_cons (ps_for PassesOwn.never rfl (pi_range1 (by rfl) T.b_range (pa_cons pe_int pa_nil)) (pg_name (i := 2) nd rfl (Or.inl rfl)) (pss_cons (ps_set (i := 3) nd rfl (Or.inl rfl) (callP C_L_names hr gd rfl T.g_L_names (pa_cons (pv 1) (pa_cons pe_int pa_nil)))) (pss_cons (ps_set (i := 4) nd rfl (Or.inl rfl) (pe_ix ix_seq pe_str (callP C_L_draw hr gd rfl T.g_L_draw (pa_cons (pv 1) (pa_cons pe_int pa_nil))) (fun _ _ => rfl))) (pss_cons (ps_set (i := 5) nd rfl (Or.inl rfl) (pe_op op_addG pe_int (callP C_L_draw hr gd rfl T.g_L_draw (pa_cons (pv 1) (pa_cons pe_int pa_nil))))) (pss_cons (ps_set (i := 6) nd rfl (Or.inl rfl) (pe_ifExp (pt_cmpR (op_eqG hr.units) (pv 4) pe_str (nomark _)) (callP C_L_sum hr gd rfl T.g_L_sum (pa_cons (pv 1) (pa_cons (pv 3) (pa_cons (pe_op op_addG (pv 5) pe_int) pa_nil)))) (callP C_L_truth hr gd rfl T.g_L_truth (pa_cons (pv 1) (pa_cons (pv 3) (pa_cons (pv 5) pa_nil)))))) (pss_cons (ps_set (i := 7) nd rfl (Or.inl rfl) (callP C_L_canonical hr gd rfl T.g_L_canonical (pa_cons (pv 6) (pa_cons pe_int pa_nil)))) (pss_cons (ps_asg (callP C_L_text hr gd rfl T.g_L_text (pa_cons (pv 1) (pa_cons (callP C_L_tokens hr gd rfl T.g_L_tokens (pa_cons (pv 1) (pa_cons (pv 6) (pa_cons pe_int pa_nil)))) pa_nil))) (pg_unl rfl (pgs_cons (pg_name (i := 8) nd rfl (Or.inl rfl)) (pgs_cons (pg_name (i := 9) nd rfl (Or.inl rfl)) pgs_nil)))) (pss_one (ps_if (pt_val (callP C_L_is_within hr gd rfl T.g_L_is_within (pa_cons (pv 7) pa_nil))) (pss_cons (ps_set (i := 10) nd rfl (Or.inl rfl) (pe_ix ix_seq (pe_lst (pa_cons (pv 6) (pa_cons (callP C_L_listed hr gd rfl T.g_L_listed (pa_cons (pv 6) pa_nil)) pa_nil))) (callP C_L_draw hr gd rfl T.g_L_draw (pa_cons (pv 1) (pa_cons pe_int pa_nil))) (fun _ _ => rfl))) (pss_cons (ps_if (PW.pt (pw_or (pt_cmpR (op_neG hr.units) (callP C_written hr gd rfl T.g_written (pa_cons (pv 10) pa_nil)) (pv 7) (nomark _)) (pw_or (pt_cmpR (op_neG hr.units) (callP C_written hr gd rfl T.g_written (pa_cons (pv 10) pa_nil)) (pv 7) (nomark _)) (pw_or1 (pt_cmpR (op_neG hr.units) (callP C_L_parsed hr gd rfl T.g_L_parsed (pa_cons (pv 4) (pa_cons (pv 7) pa_nil))) (pv 6) (nomark _)))))) (pss_one (ps_ret pe_bl)) pss_nil) (pss_one (ps_if (PW.pt (pw_and (pt_val (callP C_L_is_within hr gd rfl T.g_L_is_within (pa_cons (pv 8) pa_nil))) (pw_and1 (pt_cmpR (op_neG hr.units) (callP C_written hr gd rfl T.g_written (pa_cons (callP C_L_parsed hr gd rfl T.g_L_parsed (pa_cons (pv 4) (pa_cons (pv 8) pa_nil))) pa_nil)) (pv 7) (nomark _))))) (pss_one (ps_ret pe_bl)) pss_nil)))) pss_nil))))))))) (pss_cons (ps_for PassesOwn.never rfl (pi_tup (pe_tup (pa_cons pe_str (pa_cons pe_str (pa_cons pe_str pa_nil))))) (pg_name (i := 8) nd rfl (Or.inl rfl)) (pss_one (ps_if (pt_cmpR (op_neG hr.units) (callP C_written hr gd rfl T.g_written (pa_cons (callP C_parse_condition hr gd rfl T.g_parse_condition (pa_cons (pv 8) pa_nil)) pa_nil)) (pv 8) (nomark _)) (pss_one (ps_ret pe_bl)) pss_nil))) (pss_cons (ps_set (i := 11) nd rfl (Or.inl rfl) (pe_lst (pa_cons (pe_op op_addG (pe_op op_addG (pe_op op_mulG pe_str pe_int) pe_str) (pe_op op_mulG pe_str pe_int)) (pa_cons (pe_op op_addG (pe_op op_mulG pe_str pe_int) pe_str) (pa_cons pe_str (pa_cons pe_str pa_nil)))))) (pss_cons (ps_if (pt_cmpR (op_neG hr.units) (pe_lc (own := [("_law_text_here", 8)]) (g := (gName 8)) (tt := tYes) rfl nd (pi_list (pv 11)) (blkOk_by (own := [("_law_text_here", 8)]) (N := N_law) (sc := defScope (top 43)) (by decide +kernel)) (fun _ _ _ _ _ => (pg_name (i := 8) nd rfl (Or.inl rfl))) (fun _ _ _ _ _ => pts_nil) (fun _ _ _ _ _ => (callP C_written hr gd rfl T.g_written (pa_cons (callP C_parse_expression hr gd rfl T.g_parse_expression (pa_cons (pv 8) pa_nil)) pa_nil)))) (pe_lst (pa_cons pe_str (pa_cons (pe_op op_addG (pe_op op_mulG pe_str pe_int) pe_str) (pa_cons pe_str (pa_cons pe_str pa_nil))))) (nomark _)) (pss_one (ps_ret pe_bl)) pss_nil) (pss_cons (ps_set (i := 11) nd rfl (Or.inl rfl) (pe_lst (pa_cons (pe_op op_addG (pe_op op_addG (pe_op op_mulG pe_str pe_int) pe_str) (pe_op op_mulG pe_str pe_int)) (pa_cons (pe_op op_addG (pe_op op_mulG pe_str pe_int) pe_str) pa_nil)))) (pss_one (ps_ret (pe_cmpR (op_eqG hr.units) (pe_lc (own := [("_law_text_here", 8)]) (g := (gName 8)) (tt := tYes) rfl nd (pi_list (pv 11)) (blkOk_by (own := [("_law_text_here", 8)]) (N := N_law) (sc := defScope (top 43)) (by decide +kernel)) (fun _ _ _ _ _ => (pg_name (i := 8) nd rfl (Or.inl rfl))) (fun _ _ _ _ _ => pts_nil) (fun _ _ _ _ _ => (callP C_written hr gd rfl T.g_written (pa_cons (callP C_parse_condition hr gd rfl T.g_parse_condition (pa_cons (pv 8) pa_nil)) pa_nil)))) (pe_lst (pa_cons pe_str (pa_cons (pe_op op_addG (pe_op op_mulG pe_str pe_int) pe_str) pa_nil))) (nomark _))))))))))
end K07

set_option Elab.async false
set_option linter.all false
set_option maxRecDepth 100000
set_option maxHeartbeats 4000000
namespace K07
open PySem PySem.Spec PyProof.Rows L2 DL
theorem facts {P : Program} {w : World} {K : Frag} {h : Heap} {mg : Str → Option Value} {f : Addr} (X : K.In h) (G : h.Ns mainGlobals mg) (hfa : mg ("law" : Str) = some (.ref f)) (ct : He.SaysT fa fn ts w K) (m : ex K = true) :
    ∃ fd : FuncData, (∀ (s : Shared) (v : Value), BindsTo s fd ⟨[v], []⟩ [("_law_script", v)]) ∧ ∀ base : Heap, FnG P w K mg base CX0 180 f fd ["_law_script"] (spLaw K) := by
  have c := ct.d
  have T := tx X G ct m
  have Y := ty ct m
  obtain ⟨fd, F⟩ := c.def_ 37 (d := d_law) rfl
  have e := hfa.symm.trans T.g_law
  cases e
  have b := FunD.bindsA (ps := ["_law_script"]) F fun _ _ _ _ _ _ us hl => match us, hl with | [_], _ => rfl
  refine ⟨fd, fun s v => b s [v] rfl, fun base => ?_⟩
  have C_is_name : Pk P w K mg base 1 ("is_name", none) ["thing"] (sp_is_name K) := pk_is_name (k := 0) T  (by intro ds γ q e h; first | (obtain ⟨rfl, _⟩ := h; rfl) | (obtain ⟨_, rfl, _⟩ := h; rfl) | (obtain ⟨_, _, rfl, _⟩ := h; rfl) | (obtain ⟨_, _, _, rfl, _⟩ := h; rfl) | (obtain ⟨_, _, _, _, rfl, _⟩ := h; rfl) | (obtain ⟨_, _, _, _, _, rfl, _⟩ := h; rfl) | (obtain ⟨_, _, _, _, _, _, rfl, _⟩ := h; rfl) | (obtain ⟨_, _, _, _, _, _, _, rfl, _⟩ := h; rfl)) (dl_is_name T) (c.def_ 0 (d := d_is_name) rfl)
  have C_is_number : Pk P w K mg base 1 ("is_number", none) ["text"] (sp_is_number K) := pk_is_number (k := 0) T  (by intro ds γ q e h; first | (obtain ⟨rfl, _⟩ := h; rfl) | (obtain ⟨_, rfl, _⟩ := h; rfl) | (obtain ⟨_, _, rfl, _⟩ := h; rfl) | (obtain ⟨_, _, _, rfl, _⟩ := h; rfl) | (obtain ⟨_, _, _, _, rfl, _⟩ := h; rfl) | (obtain ⟨_, _, _, _, _, rfl, _⟩ := h; rfl) | (obtain ⟨_, _, _, _, _, _, rfl, _⟩ := h; rfl) | (obtain ⟨_, _, _, _, _, _, _, rfl, _⟩ := h; rfl)) (dl_is_number T) (c.def_ 1 (d := d_is_number) rfl)
  have C_end_of_run : Pk P w K mg base 1 ("end_of_run", none) ["text", "start", "signs"] (sp_end_of_run K) := pk_end_of_run (k := 0) T  (by intro ds γ q e h; first | (obtain ⟨rfl, _⟩ := h; rfl) | (obtain ⟨_, rfl, _⟩ := h; rfl) | (obtain ⟨_, _, rfl, _⟩ := h; rfl) | (obtain ⟨_, _, _, rfl, _⟩ := h; rfl) | (obtain ⟨_, _, _, _, rfl, _⟩ := h; rfl) | (obtain ⟨_, _, _, _, _, rfl, _⟩ := h; rfl) | (obtain ⟨_, _, _, _, _, _, rfl, _⟩ := h; rfl) | (obtain ⟨_, _, _, _, _, _, _, rfl, _⟩ := h; rfl)) (dl_end_of_run T) (c.def_ 2 (d := d_end_of_run) rfl)
  have C_token_at : Pk P w K mg base 2 ("token_at", none) ["text", "start"] (sp_token_at K) := pk_token_at (k := 1) T (C_end_of_run.mono (by decide)) (C_is_name.mono (by decide)) (C_is_number.mono (by decide)) (by intro ds γ q e h; first | (obtain ⟨rfl, _⟩ := h; rfl) | (obtain ⟨_, rfl, _⟩ := h; rfl) | (obtain ⟨_, _, rfl, _⟩ := h; rfl) | (obtain ⟨_, _, _, rfl, _⟩ := h; rfl) | (obtain ⟨_, _, _, _, rfl, _⟩ := h; rfl) | (obtain ⟨_, _, _, _, _, rfl, _⟩ := h; rfl) | (obtain ⟨_, _, _, _, _, _, rfl, _⟩ := h; rfl) | (obtain ⟨_, _, _, _, _, _, _, rfl, _⟩ := h; rfl)) (dl_token_at T) (c.def_ 3 (d := d_token_at) rfl)
  have C_tokens : Pk P w K mg base 3 ("tokens", none) ["text"] (sp_tokens K) := pk_tokens (k := 2) T (C_end_of_run.mono (by decide)) (C_token_at.mono (by decide)) (by intro ds γ q e h; first | (obtain ⟨rfl, _⟩ := h; rfl) | (obtain ⟨_, rfl, _⟩ := h; rfl) | (obtain ⟨_, _, rfl, _⟩ := h; rfl) | (obtain ⟨_, _, _, rfl, _⟩ := h; rfl) | (obtain ⟨_, _, _, _, rfl, _⟩ := h; rfl) | (obtain ⟨_, _, _, _, _, rfl, _⟩ := h; rfl) | (obtain ⟨_, _, _, _, _, _, rfl, _⟩ := h; rfl) | (obtain ⟨_, _, _, _, _, _, _, rfl, _⟩ := h; rfl)) (dl_tokens T) (c.def_ 4 (d := d_tokens) rfl)
  have C_Parser_init : Pk P w K mg base 4 ("Parser", some "__init__") ["self", "text"] (sp_Parser_init K) := pk_Parser_init (k := 3) T (C_tokens.mono (by decide)) (by intro ds γ q e h; first | (obtain ⟨rfl, _⟩ := h; rfl) | (obtain ⟨_, rfl, _⟩ := h; rfl) | (obtain ⟨_, _, rfl, _⟩ := h; rfl) | (obtain ⟨_, _, _, rfl, _⟩ := h; rfl) | (obtain ⟨_, _, _, _, rfl, _⟩ := h; rfl) | (obtain ⟨_, _, _, _, _, rfl, _⟩ := h; rfl) | (obtain ⟨_, _, _, _, _, _, rfl, _⟩ := h; rfl) | (obtain ⟨_, _, _, _, _, _, _, rfl, _⟩ := h; rfl)) (dl_init T) (c.def_ 5 (d := d_Parser_init) rfl)
  have C_Parser_sees : Pk P w K mg base 1 ("Parser", some "sees") ["self", "signs"] (sp_Parser_sees K) := pk_Parser_sees (k := 0) T  (by intro ds γ q e h; first | (obtain ⟨rfl, _⟩ := h; rfl) | (obtain ⟨_, rfl, _⟩ := h; rfl) | (obtain ⟨_, _, rfl, _⟩ := h; rfl) | (obtain ⟨_, _, _, rfl, _⟩ := h; rfl) | (obtain ⟨_, _, _, _, rfl, _⟩ := h; rfl) | (obtain ⟨_, _, _, _, _, rfl, _⟩ := h; rfl) | (obtain ⟨_, _, _, _, _, _, rfl, _⟩ := h; rfl) | (obtain ⟨_, _, _, _, _, _, _, rfl, _⟩ := h; rfl)) (dl_sees T) (c.def_ 6 (d := d_Parser_sees) rfl)
  have C_Parser_take : Pk P w K mg base 1 ("Parser", some "take") ["self"] (sp_Parser_take K) := pk_Parser_take (k := 0) T  (by intro ds γ q e h; first | (obtain ⟨rfl, _⟩ := h; rfl) | (obtain ⟨_, rfl, _⟩ := h; rfl) | (obtain ⟨_, _, rfl, _⟩ := h; rfl) | (obtain ⟨_, _, _, rfl, _⟩ := h; rfl) | (obtain ⟨_, _, _, _, rfl, _⟩ := h; rfl) | (obtain ⟨_, _, _, _, _, rfl, _⟩ := h; rfl) | (obtain ⟨_, _, _, _, _, _, rfl, _⟩ := h; rfl) | (obtain ⟨_, _, _, _, _, _, _, rfl, _⟩ := h; rfl)) (dl_take T) (c.def_ 7 (d := d_Parser_take) rfl)
  have C_Parser_refuse : Pk P w K mg base 1 ("Parser", some "refuse") ["self"] (fun _ _ _ _ => False) := pk_Parser_refuse (k := 0) (c.def_ 8 (d := d_Parser_refuse) rfl)
  have C_Parser_take_sign : Pk P w K mg base 2 ("Parser", some "take_sign") ["self", "signs"] (sp_Parser_take_sign K) := pk_Parser_take_sign (k := 1) T _ (C_Parser_sees.mono (by decide)) (C_Parser_refuse.mono (by decide)) (C_Parser_take.mono (by decide)) (by intro ds γ q e h; first | (obtain ⟨rfl, _⟩ := h; rfl) | (obtain ⟨_, rfl, _⟩ := h; rfl) | (obtain ⟨_, _, rfl, _⟩ := h; rfl) | (obtain ⟨_, _, _, rfl, _⟩ := h; rfl) | (obtain ⟨_, _, _, _, rfl, _⟩ := h; rfl) | (obtain ⟨_, _, _, _, _, rfl, _⟩ := h; rfl) | (obtain ⟨_, _, _, _, _, _, rfl, _⟩ := h; rfl) | (obtain ⟨_, _, _, _, _, _, _, rfl, _⟩ := h; rfl)) (dl_take_sign T) (c.def_ 9 (d := d_Parser_take_sign) rfl)
  have C_Parser_finish : Pk P w K mg base 2 ("Parser", some "finish") ["self", "node"] (sp_Parser_finish K) := pk_Parser_finish (k := 1) T _ (C_Parser_refuse.mono (by decide)) (by intro ds γ q e h; first | (obtain ⟨rfl, _⟩ := h; rfl) | (obtain ⟨_, rfl, _⟩ := h; rfl) | (obtain ⟨_, _, rfl, _⟩ := h; rfl) | (obtain ⟨_, _, _, rfl, _⟩ := h; rfl) | (obtain ⟨_, _, _, _, rfl, _⟩ := h; rfl) | (obtain ⟨_, _, _, _, _, rfl, _⟩ := h; rfl) | (obtain ⟨_, _, _, _, _, _, rfl, _⟩ := h; rfl) | (obtain ⟨_, _, _, _, _, _, _, rfl, _⟩ := h; rfl)) (dl_finish T) (c.def_ 10 (d := d_Parser_finish) rfl)
  have term_of : ∀ n, Pk P w K mg base (5 + 3 * n) ("Parser", some "factor") ["self"] (spP K (pFac n)) → Pk P w K mg base (5 + 3 * n + 1) ("Parser", some "term") ["self"] (spP K (pT (pFac n))) := fun n H =>
    pk_Parser_term (k := 5 + 3 * n) T _ H (C_Parser_sees.mono (by omega)) (C_Parser_take.mono (by omega)) (by intro ds γ q e h; first | (obtain ⟨rfl, _⟩ := h; rfl) | (obtain ⟨_, rfl, _⟩ := h; rfl) | (obtain ⟨_, _, rfl, _⟩ := h; rfl) | (obtain ⟨_, _, _, rfl, _⟩ := h; rfl) | (obtain ⟨_, _, _, _, rfl, _⟩ := h; rfl) | (obtain ⟨_, _, _, _, _, rfl, _⟩ := h; rfl) | (obtain ⟨_, _, _, _, _, _, rfl, _⟩ := h; rfl) | (obtain ⟨_, _, _, _, _, _, _, rfl, _⟩ := h; rfl)) (dl_term T (pFac_suf n)) (c.def_ 15 (d := d_Parser_term) rfl)
  have exp_of : ∀ n, Pk P w K mg base (5 + 3 * n) ("Parser", some "factor") ["self"] (spP K (pFac n)) → Pk P w K mg base (5 + 3 * n + 2) ("Parser", some "expression") ["self"] (spP K (pE (pFac n))) := fun n H =>
    pk_Parser_expression (k := 5 + 3 * n + 1) T _ (term_of n H) (C_Parser_sees.mono (by omega)) (C_Parser_take.mono (by omega)) (by intro ds γ q e h; first | (obtain ⟨rfl, _⟩ := h; rfl) | (obtain ⟨_, rfl, _⟩ := h; rfl) | (obtain ⟨_, _, rfl, _⟩ := h; rfl) | (obtain ⟨_, _, _, rfl, _⟩ := h; rfl) | (obtain ⟨_, _, _, _, rfl, _⟩ := h; rfl) | (obtain ⟨_, _, _, _, _, rfl, _⟩ := h; rfl) | (obtain ⟨_, _, _, _, _, _, rfl, _⟩ := h; rfl) | (obtain ⟨_, _, _, _, _, _, _, rfl, _⟩ := h; rfl)) (dl_expression T (pFac_suf n)) (c.def_ 14 (d := d_Parser_expression) rfl)
  have C_fac : ∀ n, Pk P w K mg base (5 + 3 * n) ("Parser", some "factor") ["self"] (spP K (pFac n)) := by
    intro n
    induction n with
    | zero =>
      exact (pk_never (k := 4) (c.def_ 16 (d := d_Parser_factor) rfl) sc_Parser_factor fun fd F => F.bindsN fun _ _ _ _ _ _ us hl => match us, hl with | [_], _ => rfl).imp fun ds γ q e h => by
        obtain ⟨_, _, _, _, _, _, _, _, h, _⟩ := h
        cases h
    | succ n ih =>
      exact pk_Parser_factor (k := 5 + 3 * n + 2) T _ _ _ (C_Parser_sees.mono (by omega)) (C_Parser_take.mono (by omega)) (ih.mono (by omega)) (exp_of n ih) (C_Parser_take_sign.mono (by omega)) (C_Parser_refuse.mono (by omega)) (by intro ds γ q e h; first | (obtain ⟨rfl, _⟩ := h; rfl) | (obtain ⟨_, rfl, _⟩ := h; rfl) | (obtain ⟨_, _, rfl, _⟩ := h; rfl) | (obtain ⟨_, _, _, rfl, _⟩ := h; rfl) | (obtain ⟨_, _, _, _, rfl, _⟩ := h; rfl) | (obtain ⟨_, _, _, _, _, rfl, _⟩ := h; rfl) | (obtain ⟨_, _, _, _, _, _, rfl, _⟩ := h; rfl) | (obtain ⟨_, _, _, _, _, _, _, rfl, _⟩ := h; rfl)) (dl_factor T n) (c.def_ 16 (d := d_Parser_factor) rfl)
  have C_Parser_expression : Pk P w K mg base 130 ("Parser", some "expression") ["self"] (sp_Parser_expression K) := exp_of 41 (C_fac 41)
  have cj_of : ∀ n, Pk P w K mg base (50 + 3 * n) ("Parser", some "negation") ["self"] (spP K (pNeg pE14 n)) → Pk P w K mg base (50 + 3 * n + 1) ("Parser", some "conjunction") ["self"] (spP K (pJ (pNeg pE14 n))) := fun n H =>
    pk_Parser_conjunction (k := 50 + 3 * n) T _ H (C_Parser_sees.mono (by omega)) (C_Parser_take.mono (by omega)) (by intro ds γ q e h; first | (obtain ⟨rfl, _⟩ := h; rfl) | (obtain ⟨_, rfl, _⟩ := h; rfl) | (obtain ⟨_, _, rfl, _⟩ := h; rfl) | (obtain ⟨_, _, _, rfl, _⟩ := h; rfl) | (obtain ⟨_, _, _, _, rfl, _⟩ := h; rfl) | (obtain ⟨_, _, _, _, _, rfl, _⟩ := h; rfl) | (obtain ⟨_, _, _, _, _, _, rfl, _⟩ := h; rfl) | (obtain ⟨_, _, _, _, _, _, _, rfl, _⟩ := h; rfl)) (dl_conjunction T (pNeg_suf (pE_suf (pFac_suf 14)) n)) (c.def_ 12 (d := d_Parser_conjunction) rfl)
  have cd_of : ∀ n, Pk P w K mg base (50 + 3 * n) ("Parser", some "negation") ["self"] (spP K (pNeg pE14 n)) → Pk P w K mg base (50 + 3 * n + 2) ("Parser", some "condition") ["self"] (spP K (pC (pNeg pE14 n))) := fun n H =>
    pk_Parser_condition (k := 50 + 3 * n + 1) T _ (cj_of n H) (C_Parser_sees.mono (by omega)) (C_Parser_take.mono (by omega)) (by intro ds γ q e h; first | (obtain ⟨rfl, _⟩ := h; rfl) | (obtain ⟨_, rfl, _⟩ := h; rfl) | (obtain ⟨_, _, rfl, _⟩ := h; rfl) | (obtain ⟨_, _, _, rfl, _⟩ := h; rfl) | (obtain ⟨_, _, _, _, rfl, _⟩ := h; rfl) | (obtain ⟨_, _, _, _, _, rfl, _⟩ := h; rfl) | (obtain ⟨_, _, _, _, _, _, rfl, _⟩ := h; rfl) | (obtain ⟨_, _, _, _, _, _, _, rfl, _⟩ := h; rfl)) (dl_condition T (pL_suf (pNeg_suf (pE_suf (pFac_suf 14)) n))) (c.def_ 11 (d := d_Parser_condition) rfl)
  have C_neg : ∀ n, Pk P w K mg base (50 + 3 * n) ("Parser", some "negation") ["self"] (spP K (pNeg pE14 n)) := by
    intro n
    induction n with
    | zero =>
      exact ((pk_never (k := 4) (c.def_ 13 (d := d_Parser_negation) rfl) sc_Parser_negation fun fd F => F.bindsN fun _ _ _ _ _ _ us hl => match us, hl with | [_], _ => rfl).imp fun ds γ q e h => by
        obtain ⟨_, _, _, _, _, _, _, _, h, _⟩ := h
        cases h).mono (by decide)
    | succ n ih =>
      exact pk_Parser_negation (k := 50 + 3 * n + 2) T _ _ _ (C_Parser_sees.mono (by omega)) (C_Parser_take.mono (by omega)) (ih.mono (by omega)) (cd_of n ih) (C_Parser_take_sign.mono (by omega)) ((exp_of 14 (C_fac 14)).mono (by omega)) (by intro ds γ q e h; first | (obtain ⟨rfl, _⟩ := h; rfl) | (obtain ⟨_, rfl, _⟩ := h; rfl) | (obtain ⟨_, _, rfl, _⟩ := h; rfl) | (obtain ⟨_, _, _, rfl, _⟩ := h; rfl) | (obtain ⟨_, _, _, _, rfl, _⟩ := h; rfl) | (obtain ⟨_, _, _, _, _, rfl, _⟩ := h; rfl) | (obtain ⟨_, _, _, _, _, _, rfl, _⟩ := h; rfl) | (obtain ⟨_, _, _, _, _, _, _, rfl, _⟩ := h; rfl)) (dl_negation T (pE_suf (pFac_suf 14)) n) (c.def_ 13 (d := d_Parser_negation) rfl)
  have C_Parser_condition : Pk P w K mg base 175 ("Parser", some "condition") ["self"] (sp_Parser_condition K) := cd_of 41 (C_neg 41)
  have C_parse_condition : Pk P w K mg base 176 ("parse_condition", none) ["text"] (sp_parse_condition K) := pk_parse_condition (j := 4) (k := 175) T (C_Parser_init.mono (by decide)) (C_Parser_condition.mono (by decide)) (C_Parser_finish.mono (by decide)) (by decide) (by intro ds γ q e h; first | (obtain ⟨rfl, _⟩ := h; rfl) | (obtain ⟨_, rfl, _⟩ := h; rfl) | (obtain ⟨_, _, rfl, _⟩ := h; rfl) | (obtain ⟨_, _, _, rfl, _⟩ := h; rfl) | (obtain ⟨_, _, _, _, rfl, _⟩ := h; rfl) | (obtain ⟨_, _, _, _, _, rfl, _⟩ := h; rfl) | (obtain ⟨_, _, _, _, _, _, rfl, _⟩ := h; rfl) | (obtain ⟨_, _, _, _, _, _, _, rfl, _⟩ := h; rfl)) (dl_parse T) (c.def_ 18 (d := d_parse_condition) rfl)
  have C_parse_expression : Pk P w K mg base 131 ("parse_expression", none) ["text"] (sp_parse_expression K) := pk_parse_expression (j := 4) (k := 130) T (C_Parser_init.mono (by decide)) (C_Parser_expression.mono (by decide)) (C_Parser_finish.mono (by decide)) (by decide) (by intro ds γ q e h; first | (obtain ⟨rfl, _⟩ := h; rfl) | (obtain ⟨_, rfl, _⟩ := h; rfl) | (obtain ⟨_, _, rfl, _⟩ := h; rfl) | (obtain ⟨_, _, _, rfl, _⟩ := h; rfl) | (obtain ⟨_, _, _, _, rfl, _⟩ := h; rfl) | (obtain ⟨_, _, _, _, _, rfl, _⟩ := h; rfl) | (obtain ⟨_, _, _, _, _, _, rfl, _⟩ := h; rfl) | (obtain ⟨_, _, _, _, _, _, _, rfl, _⟩ := h; rfl)) (dl_parseE T) (c.def_ 17 (d := d_parse_expression) rfl)
  have C_is_of_conditions : Pk P w K mg base 1 ("is_of_conditions", none) ["word"] (sp_is_of_conditions K) := pk_is_of_conditions (k := 0) T  (by intro ds γ q e h; first | (obtain ⟨rfl, _⟩ := h; rfl) | (obtain ⟨_, rfl, _⟩ := h; rfl) | (obtain ⟨_, _, rfl, _⟩ := h; rfl) | (obtain ⟨_, _, _, rfl, _⟩ := h; rfl) | (obtain ⟨_, _, _, _, rfl, _⟩ := h; rfl) | (obtain ⟨_, _, _, _, _, rfl, _⟩ := h; rfl) | (obtain ⟨_, _, _, _, _, _, rfl, _⟩ := h; rfl) | (obtain ⟨_, _, _, _, _, _, _, rfl, _⟩ := h; rfl)) (dl_is_of T) (c.def_ 19 (d := d_is_of_conditions) rfl)
  have C_L_draw : Pk P w K mg base 1 ("_law_draw", none) ["_law_stream", "_law_many"] (sp_L_draw K) := pk_L_draw (k := 0) T  (by intro ds γ q e h; first | (obtain ⟨rfl, _⟩ := h; rfl) | (obtain ⟨_, rfl, _⟩ := h; rfl) | (obtain ⟨_, _, rfl, _⟩ := h; rfl) | (obtain ⟨_, _, _, rfl, _⟩ := h; rfl) | (obtain ⟨_, _, _, _, rfl, _⟩ := h; rfl) | (obtain ⟨_, _, _, _, _, rfl, _⟩ := h; rfl) | (obtain ⟨_, _, _, _, _, _, rfl, _⟩ := h; rfl) | (obtain ⟨_, _, _, _, _, _, _, rfl, _⟩ := h; rfl)) (dl_L_draw T) (c.def_ 22 (d := d_L_draw) rfl)
  have C_L_reserved : Pk P w K mg base 1 ("_law_reserved", none) [] (sp_L_reserved K) := pk_L_reserved (k := 0) T  (by intro ds γ q e h; first | (obtain ⟨rfl, _⟩ := h; rfl) | (obtain ⟨_, rfl, _⟩ := h; rfl) | (obtain ⟨_, _, rfl, _⟩ := h; rfl) | (obtain ⟨_, _, _, rfl, _⟩ := h; rfl) | (obtain ⟨_, _, _, _, rfl, _⟩ := h; rfl) | (obtain ⟨_, _, _, _, _, rfl, _⟩ := h; rfl) | (obtain ⟨_, _, _, _, _, _, rfl, _⟩ := h; rfl) | (obtain ⟨_, _, _, _, _, _, _, rfl, _⟩ := h; rfl)) (dl_L_reserved T) (c.def_ 23 (d := d_L_reserved) rfl)
  have C_L_name : Pk P w K mg base 2 ("_law_name", none) ["_law_stream"] (sp_L_name K) := pk_L_name (k := 1) T (C_L_draw.mono (by decide)) (C_L_reserved.mono (by decide)) (by intro ds γ q e h; first | (obtain ⟨rfl, _⟩ := h; rfl) | (obtain ⟨_, rfl, _⟩ := h; rfl) | (obtain ⟨_, _, rfl, _⟩ := h; rfl) | (obtain ⟨_, _, _, rfl, _⟩ := h; rfl) | (obtain ⟨_, _, _, _, rfl, _⟩ := h; rfl) | (obtain ⟨_, _, _, _, _, rfl, _⟩ := h; rfl) | (obtain ⟨_, _, _, _, _, _, rfl, _⟩ := h; rfl) | (obtain ⟨_, _, _, _, _, _, _, rfl, _⟩ := h; rfl)) (dl_L_name T) (c.def_ 24 (d := d_L_name) rfl)
  have C_L_names : Pk P w K mg base 3 ("_law_names", none) ["_law_stream", "_law_many"] (sp_L_names K) := pk_L_names (k := 2) T (C_L_name.mono (by decide)) (by intro ds γ q e h; first | (obtain ⟨rfl, _⟩ := h; rfl) | (obtain ⟨_, rfl, _⟩ := h; rfl) | (obtain ⟨_, _, rfl, _⟩ := h; rfl) | (obtain ⟨_, _, _, rfl, _⟩ := h; rfl) | (obtain ⟨_, _, _, _, rfl, _⟩ := h; rfl) | (obtain ⟨_, _, _, _, _, rfl, _⟩ := h; rfl) | (obtain ⟨_, _, _, _, _, _, rfl, _⟩ := h; rfl) | (obtain ⟨_, _, _, _, _, _, _, rfl, _⟩ := h; rfl)) (dl_L_names T) (c.def_ 25 (d := d_L_names) rfl)
  have C_L_number : Pk P w K mg base 2 ("_law_number", none) ["_law_stream"] (sp_L_number K) := pk_L_number (k := 1) T (C_L_draw.mono (by decide)) (by intro ds γ q e h; first | (obtain ⟨rfl, _⟩ := h; rfl) | (obtain ⟨_, rfl, _⟩ := h; rfl) | (obtain ⟨_, _, rfl, _⟩ := h; rfl) | (obtain ⟨_, _, _, rfl, _⟩ := h; rfl) | (obtain ⟨_, _, _, _, rfl, _⟩ := h; rfl) | (obtain ⟨_, _, _, _, _, rfl, _⟩ := h; rfl) | (obtain ⟨_, _, _, _, _, _, rfl, _⟩ := h; rfl) | (obtain ⟨_, _, _, _, _, _, _, rfl, _⟩ := h; rfl)) (dl_L_number T) (c.def_ 26 (d := d_L_number) rfl)
  have C_L_rank : Pk P w K mg base 1 ("_law_rank", none) ["_law_word"] (sp_L_rank K) := pk_L_rank (k := 0) T  (by intro ds γ q e h; first | (obtain ⟨rfl, _⟩ := h; rfl) | (obtain ⟨_, rfl, _⟩ := h; rfl) | (obtain ⟨_, _, rfl, _⟩ := h; rfl) | (obtain ⟨_, _, _, rfl, _⟩ := h; rfl) | (obtain ⟨_, _, _, _, rfl, _⟩ := h; rfl) | (obtain ⟨_, _, _, _, _, rfl, _⟩ := h; rfl) | (obtain ⟨_, _, _, _, _, _, rfl, _⟩ := h; rfl) | (obtain ⟨_, _, _, _, _, _, _, rfl, _⟩ := h; rfl)) (dl_L_rank T) (c.def_ 29 (d := d_L_rank) rfl)
  have C_L_grows : Pk P w K mg base 1 ("_law_grows", none) ["_law_one", "_law_other"] (sp_L_grows K) := pk_L_grows (k := 0) T  (by intro ds γ q e h; first | (obtain ⟨rfl, _⟩ := h; rfl) | (obtain ⟨_, rfl, _⟩ := h; rfl) | (obtain ⟨_, _, rfl, _⟩ := h; rfl) | (obtain ⟨_, _, _, rfl, _⟩ := h; rfl) | (obtain ⟨_, _, _, _, rfl, _⟩ := h; rfl) | (obtain ⟨_, _, _, _, _, rfl, _⟩ := h; rfl) | (obtain ⟨_, _, _, _, _, _, rfl, _⟩ := h; rfl) | (obtain ⟨_, _, _, _, _, _, _, rfl, _⟩ := h; rfl)) (dl_L_grows T) (c.def_ 32 (d := d_L_grows) rfl)
  have C_L_text : Pk P w K mg base 2 ("_law_text", none) ["_law_stream", "_law_some"] (sp_L_text K) := pk_L_text (k := 1) T (C_L_draw.mono (by decide)) (C_L_grows.mono (by decide)) (by intro ds γ q e h; first | (obtain ⟨rfl, _⟩ := h; rfl) | (obtain ⟨_, rfl, _⟩ := h; rfl) | (obtain ⟨_, _, rfl, _⟩ := h; rfl) | (obtain ⟨_, _, _, rfl, _⟩ := h; rfl) | (obtain ⟨_, _, _, _, rfl, _⟩ := h; rfl) | (obtain ⟨_, _, _, _, _, rfl, _⟩ := h; rfl) | (obtain ⟨_, _, _, _, _, _, rfl, _⟩ := h; rfl) | (obtain ⟨_, _, _, _, _, _, _, rfl, _⟩ := h; rfl)) (dl_L_text T) (c.def_ 33 (d := d_L_text) rfl)
  have C_L_is_within : Pk P w K mg base 1 ("_law_is_within", none) ["_law_text_here"] (sp_L_is_within K) := pk_L_is_within (k := 0) T  (by intro ds γ q e h; first | (obtain ⟨rfl, _⟩ := h; rfl) | (obtain ⟨_, rfl, _⟩ := h; rfl) | (obtain ⟨_, _, rfl, _⟩ := h; rfl) | (obtain ⟨_, _, _, rfl, _⟩ := h; rfl) | (obtain ⟨_, _, _, _, rfl, _⟩ := h; rfl) | (obtain ⟨_, _, _, _, _, rfl, _⟩ := h; rfl) | (obtain ⟨_, _, _, _, _, _, rfl, _⟩ := h; rfl) | (obtain ⟨_, _, _, _, _, _, _, rfl, _⟩ := h; rfl)) (dl_L_is_within T) (c.def_ 34 (d := d_L_is_within) rfl)
  have C_L_parsed : Pk P w K mg base 177 ("_law_parsed", none) ["_law_start", "_law_text_here"] (sp_L_parsed K) := pk_L_parsed (k := 176) T (C_parse_expression.mono (by decide)) (C_parse_condition.mono (by decide)) (by intro ds γ q e h; first | (obtain ⟨rfl, _⟩ := h; rfl) | (obtain ⟨_, rfl, _⟩ := h; rfl) | (obtain ⟨_, _, rfl, _⟩ := h; rfl) | (obtain ⟨_, _, _, rfl, _⟩ := h; rfl) | (obtain ⟨_, _, _, _, rfl, _⟩ := h; rfl) | (obtain ⟨_, _, _, _, _, rfl, _⟩ := h; rfl) | (obtain ⟨_, _, _, _, _, _, rfl, _⟩ := h; rfl) | (obtain ⟨_, _, _, _, _, _, _, rfl, _⟩ := h; rfl)) (dl_L_parsed T) (c.def_ 35 (d := d_L_parsed) rfl)
  have C_sum : ∀ n, Pk P w K mg base (3 + n) ("_law_sum", none) ["_law_stream", "_law_names_here", "_law_depth"] (spSum K n) := by
    intro n
    induction n with
    | zero =>
      exact pk_L_sum (k := 2) T (fun _ _ _ _ => False) (C_L_draw.mono (by decide)) (C_L_number.mono (by decide)) ((pk_never (k := 0) (c.def_ 27 (d := d_L_sum) rfl) sc_L_sum fun fd F => F.bindsN fun _ _ _ _ _ _ us hl => match us, hl with | [_, _, _], _ => rfl).mono (by decide)) (by intro ds γ q e h; first | (obtain ⟨rfl, _⟩ := h; rfl) | (obtain ⟨_, rfl, _⟩ := h; rfl) | (obtain ⟨_, _, rfl, _⟩ := h; rfl) | (obtain ⟨_, _, _, rfl, _⟩ := h; rfl) | (obtain ⟨_, _, _, _, rfl, _⟩ := h; rfl) | (obtain ⟨_, _, _, _, _, rfl, _⟩ := h; rfl) | (obtain ⟨_, _, _, _, _, _, rfl, _⟩ := h; rfl) | (obtain ⟨_, _, _, _, _, _, _, rfl, _⟩ := h; rfl)) (dl_L_sum T _ 0 fun dp' h => by cases h) (c.def_ 27 (d := d_L_sum) rfl)
    | succ n ih =>
      exact pk_L_sum (k := 3 + n) T (spSum K n) (C_L_draw.mono (by omega)) (C_L_number.mono (by omega)) ih (by intro ds γ q e h; first | (obtain ⟨rfl, _⟩ := h; rfl) | (obtain ⟨_, rfl, _⟩ := h; rfl) | (obtain ⟨_, _, rfl, _⟩ := h; rfl) | (obtain ⟨_, _, _, rfl, _⟩ := h; rfl) | (obtain ⟨_, _, _, _, rfl, _⟩ := h; rfl) | (obtain ⟨_, _, _, _, _, rfl, _⟩ := h; rfl) | (obtain ⟨_, _, _, _, _, _, rfl, _⟩ := h; rfl) | (obtain ⟨_, _, _, _, _, _, _, rfl, _⟩ := h; rfl)) (dl_L_sum T _ (n + 1) fun dp' h ds γ q e hh => by cases h; exact hh) (c.def_ 27 (d := d_L_sum) rfl)
  have C_L_sum : Pk P w K mg base 7 ("_law_sum", none) ["_law_stream", "_law_names_here", "_law_depth"] (sp_L_sum K) := C_sum 4
  have C_truth : ∀ n, n ≤ 3 → Pk P w K mg base (8 + n) ("_law_truth", none) ["_law_stream", "_law_names_here", "_law_depth"] (spTruth K n) := by
    intro n
    induction n with
    | zero =>
      intro _
      exact pk_L_truth (k := 7) T (fun _ _ _ _ => False) (C_L_draw.mono (by decide)) (C_L_sum.mono (by decide)) ((pk_never (k := 0) (c.def_ 28 (d := d_L_truth) rfl) sc_L_truth fun fd F => F.bindsN fun _ _ _ _ _ _ us hl => match us, hl with | [_, _, _], _ => rfl).mono (by decide)) (by intro ds γ q e h; first | (obtain ⟨rfl, _⟩ := h; rfl) | (obtain ⟨_, rfl, _⟩ := h; rfl) | (obtain ⟨_, _, rfl, _⟩ := h; rfl) | (obtain ⟨_, _, _, rfl, _⟩ := h; rfl) | (obtain ⟨_, _, _, _, rfl, _⟩ := h; rfl) | (obtain ⟨_, _, _, _, _, rfl, _⟩ := h; rfl) | (obtain ⟨_, _, _, _, _, _, rfl, _⟩ := h; rfl) | (obtain ⟨_, _, _, _, _, _, _, rfl, _⟩ := h; rfl)) (dl_L_truth T _ 0 (by decide) fun dp' h => by cases h) (c.def_ 28 (d := d_L_truth) rfl)
    | succ n ih =>
      intro hn
      exact pk_L_truth (k := 8 + n) T (spTruth K n) (C_L_draw.mono (by omega)) (C_L_sum.mono (by omega)) (ih (by omega)) (by intro ds γ q e h; first | (obtain ⟨rfl, _⟩ := h; rfl) | (obtain ⟨_, rfl, _⟩ := h; rfl) | (obtain ⟨_, _, rfl, _⟩ := h; rfl) | (obtain ⟨_, _, _, rfl, _⟩ := h; rfl) | (obtain ⟨_, _, _, _, rfl, _⟩ := h; rfl) | (obtain ⟨_, _, _, _, _, rfl, _⟩ := h; rfl) | (obtain ⟨_, _, _, _, _, _, rfl, _⟩ := h; rfl) | (obtain ⟨_, _, _, _, _, _, _, rfl, _⟩ := h; rfl)) (dl_L_truth T _ (n + 1) hn fun dp' h ds γ q e hh => by cases h; exact hh) (c.def_ 28 (d := d_L_truth) rfl)
  have C_L_truth : Pk P w K mg base 11 ("_law_truth", none) ["_law_stream", "_law_names_here", "_law_depth"] (sp_L_truth K) := C_truth 3 (by decide)
  have C_toks : ∀ n, Pk P w K mg base (3 + n) ("_law_tokens", none) ["_law_stream", "_law_node", "_law_least"] (spToks K n) := by
    intro n
    induction n with
    | zero =>
      exact pk_L_tokens (k := 2) T (fun _ _ _ _ => False) (C_L_rank.mono (by decide)) ((pk_never (k := 0) (c.def_ 30 (d := d_L_tokens) rfl) sc_L_tokens fun fd F => F.bindsN fun _ _ _ _ _ _ us hl => match us, hl with | [_, _, _], _ => rfl).mono (by decide)) (C_L_draw.mono (by decide)) (by intro ds γ q e h; first | (obtain ⟨rfl, _⟩ := h; rfl) | (obtain ⟨_, rfl, _⟩ := h; rfl) | (obtain ⟨_, _, rfl, _⟩ := h; rfl) | (obtain ⟨_, _, _, rfl, _⟩ := h; rfl) | (obtain ⟨_, _, _, _, rfl, _⟩ := h; rfl) | (obtain ⟨_, _, _, _, _, rfl, _⟩ := h; rfl) | (obtain ⟨_, _, _, _, _, _, rfl, _⟩ := h; rfl) | (obtain ⟨_, _, _, _, _, _, _, rfl, _⟩ := h; rfl)) (dl_L_tokens T _ 0 fun dp' h => by cases h) (c.def_ 30 (d := d_L_tokens) rfl)
    | succ n ih =>
      exact pk_L_tokens (k := 3 + n) T (spToks K n) (C_L_rank.mono (by omega)) ih (C_L_draw.mono (by omega)) (by intro ds γ q e h; first | (obtain ⟨rfl, _⟩ := h; rfl) | (obtain ⟨_, rfl, _⟩ := h; rfl) | (obtain ⟨_, _, rfl, _⟩ := h; rfl) | (obtain ⟨_, _, _, rfl, _⟩ := h; rfl) | (obtain ⟨_, _, _, _, rfl, _⟩ := h; rfl) | (obtain ⟨_, _, _, _, _, rfl, _⟩ := h; rfl) | (obtain ⟨_, _, _, _, _, _, rfl, _⟩ := h; rfl) | (obtain ⟨_, _, _, _, _, _, _, rfl, _⟩ := h; rfl)) (dl_L_tokens T _ (n + 1) fun dp' h ds γ q e hh => by cases h; exact hh) (c.def_ 30 (d := d_L_tokens) rfl)
  have C_wr : ∀ n, Pk P w K mg base (2 + 2 * n) ("written", none) ["node"] (spWr K n) := by
    intro n
    induction n with
    | zero =>
      exact pk_written (k := 1) T (fun _ _ _ _ => False) (fun _ _ _ _ => False) Y (pk_never (k := 0) (c.def_ 20 (d := d_bracketed) rfl) sc_bracketed fun fd F => F.bindsN fun _ _ _ _ _ _ us hl => match us, hl with | [_, _], _ => rfl) (pk_never (k := 0) (c.def_ 21 (d := d_written) rfl) sc_written fun fd F => F.bindsN fun _ _ _ _ _ _ us hl => match us, hl with | [_], _ => rfl) (by intro ds γ q e h; first | (obtain ⟨rfl, _⟩ := h; rfl) | (obtain ⟨_, rfl, _⟩ := h; rfl) | (obtain ⟨_, _, rfl, _⟩ := h; rfl) | (obtain ⟨_, _, _, rfl, _⟩ := h; rfl) | (obtain ⟨_, _, _, _, rfl, _⟩ := h; rfl) | (obtain ⟨_, _, _, _, _, rfl, _⟩ := h; rfl) | (obtain ⟨_, _, _, _, _, _, rfl, _⟩ := h; rfl) | (obtain ⟨_, _, _, _, _, _, _, rfl, _⟩ := h; rfl)) (dl_written T _ _ 0 (fun dp' h => by cases h) fun dp' h => by cases h) (c.def_ 21 (d := d_written) rfl)
    | succ n ih =>
      exact (pk_written (k := 3 + 2 * n) T (spBr K n) (spWr K n) Y ((pk_bracketed (k := 2 + 2 * n) T (spWr K n) Y ih (C_is_of_conditions.mono (by omega)) (by intro ds γ q e h; first | (obtain ⟨rfl, _⟩ := h; rfl) | (obtain ⟨_, rfl, _⟩ := h; rfl) | (obtain ⟨_, _, rfl, _⟩ := h; rfl) | (obtain ⟨_, _, _, rfl, _⟩ := h; rfl) | (obtain ⟨_, _, _, _, rfl, _⟩ := h; rfl) | (obtain ⟨_, _, _, _, _, rfl, _⟩ := h; rfl) | (obtain ⟨_, _, _, _, _, _, rfl, _⟩ := h; rfl) | (obtain ⟨_, _, _, _, _, _, _, rfl, _⟩ := h; rfl)) (dl_bracketed T _ n fun _ _ _ _ h => h) (c.def_ 20 (d := d_bracketed) rfl)).mono (by omega)) (ih.mono (by omega)) (by intro ds γ q e h; first | (obtain ⟨rfl, _⟩ := h; rfl) | (obtain ⟨_, rfl, _⟩ := h; rfl) | (obtain ⟨_, _, rfl, _⟩ := h; rfl) | (obtain ⟨_, _, _, rfl, _⟩ := h; rfl) | (obtain ⟨_, _, _, _, rfl, _⟩ := h; rfl) | (obtain ⟨_, _, _, _, _, rfl, _⟩ := h; rfl) | (obtain ⟨_, _, _, _, _, _, rfl, _⟩ := h; rfl) | (obtain ⟨_, _, _, _, _, _, _, rfl, _⟩ := h; rfl)) (dl_written T _ _ (n + 1) (fun dp' h ds γ q e hh => by cases h; exact hh) fun dp' h ds γ q e hh => by cases h; exact hh) (c.def_ 21 (d := d_written) rfl)).mono (by omega)
  have C_written : Pk P w K mg base 92 ("written", none) ["node"] (sp_written K) := C_wr 45
  have C_can : ∀ n, Pk P w K mg base (2 + n) ("_law_canonical", none) ["_law_node", "_law_least"] (spCan K n) := by
    intro n
    induction n with
    | zero =>
      exact pk_L_canonical (k := 1) T (fun _ _ _ _ => False) C_L_rank (pk_never (k := 0) (c.def_ 31 (d := d_L_canonical) rfl) sc_L_canonical fun fd F => F.bindsN fun _ _ _ _ _ _ us hl => match us, hl with | [_, _], _ => rfl) (by intro ds γ q e h; first | (obtain ⟨rfl, _⟩ := h; rfl) | (obtain ⟨_, rfl, _⟩ := h; rfl) | (obtain ⟨_, _, rfl, _⟩ := h; rfl) | (obtain ⟨_, _, _, rfl, _⟩ := h; rfl) | (obtain ⟨_, _, _, _, rfl, _⟩ := h; rfl) | (obtain ⟨_, _, _, _, _, rfl, _⟩ := h; rfl) | (obtain ⟨_, _, _, _, _, _, rfl, _⟩ := h; rfl) | (obtain ⟨_, _, _, _, _, _, _, rfl, _⟩ := h; rfl)) (dl_L_canonical T _ 0 fun dp' h => by cases h) (c.def_ 31 (d := d_L_canonical) rfl)
    | succ n ih =>
      exact pk_L_canonical (k := 2 + n) T (spCan K n) (C_L_rank.mono (by omega)) ih (by intro ds γ q e h; first | (obtain ⟨rfl, _⟩ := h; rfl) | (obtain ⟨_, rfl, _⟩ := h; rfl) | (obtain ⟨_, _, rfl, _⟩ := h; rfl) | (obtain ⟨_, _, _, rfl, _⟩ := h; rfl) | (obtain ⟨_, _, _, _, rfl, _⟩ := h; rfl) | (obtain ⟨_, _, _, _, _, rfl, _⟩ := h; rfl) | (obtain ⟨_, _, _, _, _, _, rfl, _⟩ := h; rfl) | (obtain ⟨_, _, _, _, _, _, _, rfl, _⟩ := h; rfl)) (dl_L_canonical T _ (n + 1) fun dp' h ds γ q e hh => by cases h; exact hh) (c.def_ 31 (d := d_L_canonical) rfl)
  have C_L_canonical : Pk P w K mg base 8 ("_law_canonical", none) ["_law_node", "_law_least"] (sp_L_canonical K) := C_can 6
  have C_fl : Pk P w K mg base 2 ("_law_listed", none) ["_law_node"] (spFl K) := pk_L_listed (k := 1) T (fun _ _ _ _ => False) (pk_never (k := 0) (c.def_ 36 (d := d_L_listed) rfl) sc_L_listed fun fd F => F.bindsN fun _ _ _ _ _ _ us hl => match us, hl with | [_], _ => rfl) (by intro ds γ q e h; first | (obtain ⟨rfl, _⟩ := h; rfl) | (obtain ⟨_, rfl, _⟩ := h; rfl) | (obtain ⟨_, _, rfl, _⟩ := h; rfl) | (obtain ⟨_, _, _, rfl, _⟩ := h; rfl) | (obtain ⟨_, _, _, _, rfl, _⟩ := h; rfl) | (obtain ⟨_, _, _, _, _, rfl, _⟩ := h; rfl) | (obtain ⟨_, _, _, _, _, _, rfl, _⟩ := h; rfl) | (obtain ⟨_, _, _, _, _, _, _, rfl, _⟩ := h; rfl)) (dl_listed_flat T _) (c.def_ 36 (d := d_L_listed) rfl)
  have C_li : ∀ n, Pk P w K mg base (3 + n) ("_law_listed", none) ["_law_node"] (spLst K n) := by
    intro n
    induction n with
    | zero =>
      exact pk_L_listed (k := 2) T (spFl K) C_fl (by intro ds γ q e h; first | (obtain ⟨rfl, _⟩ := h; rfl) | (obtain ⟨_, rfl, _⟩ := h; rfl) | (obtain ⟨_, _, rfl, _⟩ := h; rfl) | (obtain ⟨_, _, _, rfl, _⟩ := h; rfl) | (obtain ⟨_, _, _, _, rfl, _⟩ := h; rfl) | (obtain ⟨_, _, _, _, _, rfl, _⟩ := h; rfl) | (obtain ⟨_, _, _, _, _, _, rfl, _⟩ := h; rfl) | (obtain ⟨_, _, _, _, _, _, _, rfl, _⟩ := h; rfl)) (dl_L_listed T _ 0 fun ds γ q e h1 h2 => h1 rfl) (c.def_ 36 (d := d_L_listed) rfl)
    | succ n ih =>
      exact pk_L_listed (k := 3 + n) T (spLst K n) ih (by intro ds γ q e h; first | (obtain ⟨rfl, _⟩ := h; rfl) | (obtain ⟨_, rfl, _⟩ := h; rfl) | (obtain ⟨_, _, rfl, _⟩ := h; rfl) | (obtain ⟨_, _, _, rfl, _⟩ := h; rfl) | (obtain ⟨_, _, _, _, rfl, _⟩ := h; rfl) | (obtain ⟨_, _, _, _, _, rfl, _⟩ := h; rfl) | (obtain ⟨_, _, _, _, _, _, rfl, _⟩ := h; rfl) | (obtain ⟨_, _, _, _, _, _, _, rfl, _⟩ := h; rfl)) (dl_L_listed T _ (n + 1) fun ds γ q e h1 h2 => h2 n rfl) (c.def_ 36 (d := d_L_listed) rfl)
  have C_L_listed : Pk P w K mg base 9 ("_law_listed", none) ["_law_node"] (sp_L_listed K) := C_li 6
  have C_L_tokens : Pk P w K mg base 9 ("_law_tokens", none) ["_law_stream", "_law_node", "_law_least"] (sp_L_tokens K) := C_toks 6
  exact pk_law (k := 179) T (C_L_names.mono (by decide)) (C_L_draw.mono (by decide)) (C_L_sum.mono (by decide)) (C_L_truth.mono (by decide)) (C_L_canonical.mono (by decide)) (C_L_tokens.mono (by decide)) (C_L_text.mono (by decide)) (C_L_is_within.mono (by decide)) (C_L_listed.mono (by decide)) (C_written.mono (by decide)) (C_L_parsed.mono (by decide)) (C_parse_condition.mono (by decide)) (C_parse_expression.mono (by decide)) (dl_law T) F
def loose0 : List Str := ["LETTERS", "RESERVED", "LONGEST_NAME", "MOST_DIGITS", "frozen", "is_name", "RerunError", "BadText", "FIGURES", "WORDS", "SIGNS", "is_number", "end_of_run", "token_at", "tokens", "COMPARISONS", "RANKS", "Parser", "parse_expression", "parse_condition"]
def loose1 : List Str := ["is_of_conditions", "bracketed", "written", "_law_draw", "_law_reserved", "_law_name", "_law_names", "_law_number", "_law_sum", "_law_truth", "_law_rank", "_law_tokens", "_law_canonical", "_law_grows", "_law_text", "_law_is_within", "_law_parsed", "_law_listed"]
def loose : List Str := loose0 ++ loose1
abbrev R : PySem.W.OpenRow := PySem.W.OpenLaw.row PySem.Challenge.rw_rerunrein_k07_canonical_texts
abbrev hk : PySem.W.Hook := He.hookX 5 fa fn ts [] ex
def ob (s : PySem.W.SharedT) : He.AlX := He.obsX 5 fa fn ts [] ex (HandSHeadRun.getT s)
theorem ob_eq (s : PySem.W.SharedT) : ob s = hk.obs s.abs := He.obsX_eq (HandSHeadRun.getT_eq s)
theorem run (w : World) : HandSHeadRun.RunEq R (PySem.W.view R.prog [43]) hk ob 6000 loose w := by
  refine PySem.W.byRow2 "special-get-raises" (P := fun w => HandSHeadRun.RunEq R (PySem.W.view R.prog [43]) hk ob 6000 loose w) (fun w => ?_) (fun w => ?_) w
  · intro os
    kernel_rfl
  · intro os
    kernel_rfl
end K07
open PySem PySem.W PySem.Calls PyProof.Rows
theorem PySem.Challenge.cw_rerunrein_k07_canonical_texts_holds : PySem.Challenge.rw_rerunrein_k07_canonical_texts.Holds := by
  w_on; o_law
  refine HandSHeadRun.head_any (r := OpenLaw.row PySem.Challenge.rw_rerunrein_k07_canonical_texts) (q := view (OpenLaw.row PySem.Challenge.rw_rerunrein_k07_canonical_texts).prog [43]) (H := K07.hk) (ob := K07.ob) (M := 6000) (loose := K07.loose) (d := HandSHeadRun.topDef (OpenLaw.row PySem.Challenge.rw_rerunrein_k07_canonical_texts).prog 43) (kwd := []) K07.ob_eq
    (by kernel_rfl) (fun s => by kernel_rfl) K07.run (by kernel_rfl) (by kernel_rfl) (by kernel_rfl) (by rfl) (by first | assumption | decide +kernel) (by decide +kernel) ⟨rfl, rfl, rfl, rfl, rfl, by decide +kernel⟩ ?hw ?hc
  case hw => w_witness2
  case hc =>
    refine DL.walkG (l := PySem.Challenge.rw_rerunrein_k07_canonical_texts) (n := 63) (k := 180) (x := "_law_script") (CX := fun _ => L2.CX0) rfl (by decide) (by kernel_rfl) ⟨rfl, by decide, by decide⟩ ?F (fun _ _ _ _ _ z => z)
    intro w mg fa h Y G hmg0
    obtain ⟨K, KX, c⟩ := Y
    have hmg : mg ("law" : PySem.Str) = some (.ref fa) := by
      have e : (HandSHeadRun.topDef (OpenLaw.row PySem.Challenge.rw_rerunrein_k07_canonical_texts).prog 43).name = ("law" : PySem.Str) := by kernel_rfl
      rw [← e]
      exact hmg0
    obtain ⟨fd, hb, hF⟩ := K07.facts (P := (PySem.Challenge.rw_rerunrein_k07_canonical_texts).prog) (w := w) KX G hmg c.t c.more
    exact ⟨K, fd, DL.spLaw K, KX, hb, fun H a ns hl _ hS => ⟨a, ns, rfl, hl, hS, fun _ _ z => z⟩, fun base _ _ => hF base⟩

