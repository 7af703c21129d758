import PyProof.Rows.All
import Wide.All
import OpenK.AllK
import Wide.FinOn
import HandS.ForMost
import HandS.ForExc
import HandS.CallSlots
import HandS.Wide
import HandS.WideBits
import HandS.TupAny
import HandS.TupMul
import HandS.TupLe
import HandS.Style
import HandS.Deep
import HandS.IsInst
import HandS.SortInts
import HandS.FStr
import PyProof.Rows.StrMul
import HandS.Replace
import HandS.ReplaceLit
import HandS.ReplaceDef
import HandS.RaiseMore
import HandS.ExcInit
import HandS.ExcField
import HandS.ExcIs
import HandS.HeadEnd
import HandS.Head2
import HandS.HeadHook4
import HandS.HeadNt
import PySem.Challenge.RW_staletally_k54_lists_that_are_none
import PyProof.Rows.StrJoinRep
/-! FLa -/
set_option Elab.async false
set_option linter.all false
set_option maxRecDepth 100000
set_option maxHeartbeats 4000000
/-! FLa: values as data, what they are in a heap, the state of a running def, the monad. -/
namespace FL
open PySem PySem.Spec PyProof.Rows L2

abbrev D := PyData
/-- ghost: the registers' addresses, the addresses that change no more -/
structure Gh where
  as : List Addr
  Z : Addr → Prop

mutual
inductive Rep (g : Gh) (H : Hp) : D → V → Prop
  | non : Rep g H .none .non
  | bl (b : Bool) : Rep g H (.bool b) (.bl b)
  | int (i : Int) : Rep g H (.int i) (.int i)
  | str (x : Str) : Rep g H (.str x) (.str x)
  | lst {a : Addr} {vs : List V} {ds : List D} : g.Z a → H a = some (.lst vs) → Reps g H ds vs → Rep g H (.list ds) (.ref a)
  | tup {a : Addr} {vs : List V} {ds : List D} : g.Z a → H a = some (.tup vs) → Reps g H ds vs → Rep g H (.tuple ds) (.ref a)
inductive Reps (g : Gh) (H : Hp) : List D → List V → Prop
  | nil : Reps g H [] []
  | cons {d : D} {v : V} {ds : List D} {vs : List V} : Rep g H d v → Reps g H ds vs → Reps g H (d :: ds) (v :: vs)
end

def Zok (g : Gh) (H : Hp) : Prop := (∀ a, g.Z a → (∃ o, H a = some o) ∧ a ∉ g.as) ∧ ∀ a ∈ g.as, ∃ o, H a = some o

structure Grow (g : Gh) (H : Hp) (g' : Gh) (H' : Hp) : Prop where
  as : ∃ more, g'.as = g.as ++ more ∧ ∀ a ∈ more, H a = none
  z : ∀ a, g.Z a → g'.Z a
  fr : ∀ a, g'.Z a → g.Z a ∨ H a = none
  keep : ∀ a o, H a = some o → a ∉ g.as → H' a = some o
  live : ∀ a ∈ g.as, ∃ o, H' a = some o

section
variable {g g' g2 : Gh} {H H' H2 : Hp}
mutual
theorem Rep.map (hl : ∀ a vs, g.Z a → H a = some (.lst vs) → g'.Z a ∧ H' a = some (.lst vs)) (ht : ∀ a vs, g.Z a → H a = some (.tup vs) → g'.Z a ∧ H' a = some (.tup vs)) : ∀ (d : D) (v : V), Rep g H d v → Rep g' H' d v
  | .none, _, h => by cases h; exact .non
  | .bool b, _, h => by cases h; exact .bl b
  | .int i, _, h => by cases h; exact .int i
  | .str x, _, h => by cases h; exact .str x
  | .list ds, _, h => by
    cases h with
    | lst z e r => exact .lst (hl _ _ z e).1 (hl _ _ z e).2 (Reps.map hl ht ds _ r)
  | .tuple ds, _, h => by
    cases h with
    | tup z e r => exact .tup (ht _ _ z e).1 (ht _ _ z e).2 (Reps.map hl ht ds _ r)
  | .dict _, _, h => by cases h
theorem Reps.map (hl : ∀ a vs, g.Z a → H a = some (.lst vs) → g'.Z a ∧ H' a = some (.lst vs)) (ht : ∀ a vs, g.Z a → H a = some (.tup vs) → g'.Z a ∧ H' a = some (.tup vs)) : ∀ (ds : List D) (vs : List V), Reps g H ds vs → Reps g' H' ds vs
  | [], _, h => by cases h; exact .nil
  | d :: ds, _, h => by
    cases h with
    | cons r t => exact .cons (Rep.map hl ht d _ r) (Reps.map hl ht ds _ t)
end
theorem Rep.grow (z : Zok g H) (G : Grow g H g' H') {d : D} {v : V} (h : Rep g H d v) : Rep g' H' d v :=
  Rep.map (fun a vs y e => ⟨G.z a y, G.keep a _ e (z.1 a y).2⟩) (fun a vs y e => ⟨G.z a y, G.keep a _ e (z.1 a y).2⟩) d v h
theorem Reps.grow (z : Zok g H) (G : Grow g H g' H') {d : List D} {v : List V} (h : Reps g H d v) : Reps g' H' d v :=
  Reps.map (fun a vs y e => ⟨G.z a y, G.keep a _ e (z.1 a y).2⟩) (fun a vs y e => ⟨G.z a y, G.keep a _ e (z.1 a y).2⟩) d v h
theorem Reps.length : ∀ {ds : List D} {vs : List V}, Reps g H ds vs → ds.length = vs.length
  | [], _, h => by cases h; rfl
  | d :: ds, _, h => by
    cases h with
    | cons r t => rw [List.length_cons, List.length_cons, Reps.length t]
theorem Reps.get : ∀ {ds : List D} {vs : List V} {i : Nat} {d : D}, Reps g H ds vs → ds[i]? = some d → ∃ v, vs[i]? = some v ∧ Rep g H d v
  | [], _, i, _, h, e => by simp at e
  | d :: ds, _, 0, x, h, e => by
    cases h with
    | cons r t => simp at e; subst e; exact ⟨_, rfl, r⟩
  | d :: ds, _, i + 1, x, h, e => by
    cases h with
    | cons r t =>
      obtain ⟨v, h1, h2⟩ := Reps.get (i := i) t (by simpa using e)
      exact ⟨v, by simpa using h1, h2⟩
theorem Reps.get' : ∀ {ds : List D} {vs : List V} {i : Nat} {v : V}, Reps g H ds vs → vs[i]? = some v → ∃ d, ds[i]? = some d ∧ Rep g H d v := fun {ds vs i v} h e => by
  have hl := h.length
  have hi : i < ds.length := by rw [hl]; exact (List.getElem?_eq_some_iff.mp e).1
  obtain ⟨v', h1, h2⟩ := h.get (List.getElem?_eq_getElem hi)
  rw [e] at h1; cases h1
  exact ⟨_, List.getElem?_eq_getElem hi, h2⟩
theorem Reps.append : ∀ {ds es : List D} {vs ws : List V}, Reps g H ds vs → Reps g H es ws → Reps g H (ds ++ es) (vs ++ ws)
  | [], _, _, _, h, q => by cases h; exact q
  | d :: ds, es, _, ws, h, q => by
    cases h with
    | cons r t => exact .cons r (Reps.append t q)
theorem Reps.one {d : D} {v : V} (h : Rep g H d v) : Reps g H [d] [v] := .cons h .nil
theorem Reps.take : ∀ {ds : List D} {vs : List V} (n : Nat), Reps g H ds vs → Reps g H (ds.take n) (vs.take n)
  | [], _, n, h => by cases h; simpa using Reps.nil
  | d :: ds, _, 0, h => by simpa using Reps.nil
  | d :: ds, _, n + 1, h => by
    cases h with
    | cons r t => exact .cons r (Reps.take n t)
theorem Reps.drop : ∀ {ds : List D} {vs : List V} (n : Nat), Reps g H ds vs → Reps g H (ds.drop n) (vs.drop n)
  | [], _, n, h => by cases h; simpa using Reps.nil
  | d :: ds, _, 0, h => h
  | d :: ds, _, n + 1, h => by
    cases h with
    | cons r t => exact Reps.drop n t
theorem Reps.set : ∀ {ds : List D} {vs : List V} {d : D} {v : V} (n : Nat), Rep g H d v → Reps g H ds vs → Reps g H (ds.set n d) (vs.set n v)
  | [], _, _, _, n, r, h => by cases h; exact .nil
  | d :: ds, _, _, _, 0, q, h => by
    cases h with
    | cons r t => exact .cons q t
  | d :: ds, _, _, _, n + 1, q, h => by
    cases h with
    | cons r t => exact .cons r (Reps.set n q t)
theorem Reps.reverse {ds : List D} {vs : List V} (h : Reps g H ds vs) : Reps g H ds.reverse vs.reverse := by
  induction ds generalizing vs with
  | nil => cases h; exact .nil
  | cons d ds ih =>
    cases h with
    | cons r t => rw [List.reverse_cons, List.reverse_cons]; exact (ih t).append (.one r)
theorem Reps.eraseIdx : ∀ {ds : List D} {vs : List V} (n : Nat), Reps g H ds vs → Reps g H (ds.eraseIdx n) (vs.eraseIdx n)
  | [], _, n, h => by cases h; exact .nil
  | d :: ds, _, 0, h => by
    cases h with
    | cons r t => exact t
  | d :: ds, _, n + 1, h => by
    cases h with
    | cons r t => exact .cons r (Reps.eraseIdx n t)
theorem Reps.dropLast {ds : List D} {vs : List V} (h : Reps g H ds vs) : Reps g H ds.dropLast vs.dropLast := by
  rw [List.dropLast_eq_take, List.dropLast_eq_take, h.length]
  exact h.take _
theorem Reps.ints : ∀ (ns : List Int), Reps g H (ns.map PyData.int) (ns.map V.int)
  | [] => .nil
  | n :: ns => .cons (.int n) (Reps.ints ns)
theorem Reps.ints_inv : ∀ {ns : List Int} {vs : List V}, Reps g H (ns.map PyData.int) vs → vs = ns.map V.int
  | [], _, h => by cases h; rfl
  | n :: ns, _, h => by
    cases h with
    | cons r t => cases r; rw [Reps.ints_inv t]; rfl
theorem Reps.mem_inv {P : V → Prop} (hP : ∀ d v, Rep g H d v → P v) : ∀ {ds : List D} {vs : List V}, Reps g H ds vs → ∀ v ∈ vs, P v
  | [], _, h => by cases h; simp
  | d :: ds, _, h => by
    cases h with
    | cons r t =>
      intro v hv
      rcases List.mem_cons.mp hv with rfl | hv
      · exact hP _ _ r
      · exact Reps.mem_inv hP t v hv
theorem Grow.refl (z : Zok g H) : Grow g H g H := ⟨⟨[], by simp, by simp⟩, fun _ h => h, fun _ h => .inl h, fun _ _ h _ => h, z.2⟩
theorem Grow.back (a : Grow g H g' H') {x : Addr} (h : H' x = none) : H x = none := by
  cases q : H x with
  | none => rfl
  | some o =>
    by_cases hn : x ∈ g.as
    · obtain ⟨u, e⟩ := a.live x hn
      rw [h] at e; cases e
    · rw [a.keep x o q hn] at h; cases h
theorem Grow.nas (a : Grow g H g' H') {x : Addr} {o : HO} (e : H x = some o) (hn : x ∉ g.as) : x ∉ g'.as := fun hm => by
  obtain ⟨m1, e1, f1⟩ := a.as
  rw [e1] at hm
  rcases List.mem_append.mp hm with h | h
  · exact hn h
  · rw [f1 x h] at e; cases e
theorem Grow.trans (a : Grow g H g' H') (b : Grow g' H' g2 H2) : Grow g H g2 H2 := by
  obtain ⟨m1, e1, f1⟩ := a.as
  obtain ⟨m2, e2, f2⟩ := b.as
  refine ⟨⟨m1 ++ m2, by rw [e2, e1, List.append_assoc], fun x hx => ?_⟩, fun x h => b.z x (a.z x h), fun x h => ?_, fun x o e hn => b.keep x o (a.keep x o e hn) (a.nas e hn), fun x hx => b.live x ?_⟩
  · rcases List.mem_append.mp hx with h | h
    · exact f1 x h
    · exact a.back (f2 x h)
  · rcases b.fr x h with h | h
    · exact a.fr x h
    · exact .inr (a.back h)
  · rw [e1]; exact List.mem_append_left _ hx
theorem Zok.nas (z : Zok g H) {a : Addr} (h : g.Z a) : a ∉ g.as := (z.1 a h).2
theorem Zok.ex (z : Zok g H) {a : Addr} (h : g.Z a) : ∃ o, H a = some o := (z.1 a h).1
/-- a new object, frozen at once -/
abbrev Gh.add (g : Gh) (p : Addr) : Gh := ⟨g.as, fun a => g.Z a ∨ a = p⟩
theorem nas_new (z : Zok g H) {p : Addr} (hp : H p = none) : p ∉ g.as := fun h => by
  obtain ⟨o, e⟩ := z.2 p h
  rw [hp] at e; cases e
theorem Grow.new (z : Zok g H) {p : Addr} {o : HO} (hp : H p = none) : Grow g H g (upd H p o) :=
  ⟨⟨[], by simp, by simp⟩, fun _ h => h, fun _ h => .inl h, fun a u e _ => by rw [upd_ne (ne_of_none e hp)]; exact e, fun a ha => by
    obtain ⟨u, e⟩ := z.2 a ha
    exact ⟨u, by rw [upd_ne (ne_of_none e hp)]; exact e⟩⟩
theorem Grow.add (z : Zok g H) {p : Addr} (hp : H p = none) (hq : ∃ o, H' p = some o) (G : Grow g H g H') : Grow g H (g.add p) H' :=
  ⟨G.as, fun _ h => .inl h, fun a h => h.elim .inl (fun e => .inr (by rw [e]; exact hp)), G.keep, G.live⟩
theorem Zok.new (z : Zok g H) {p : Addr} {o : HO} (hp : H p = none) : Zok g (upd H p o) :=
  ⟨fun a h => ⟨by obtain ⟨u, e⟩ := z.ex h; exact ⟨u, by rw [upd_ne (ne_of_none e hp)]; exact e⟩, z.nas h⟩, fun a h => by
    obtain ⟨u, e⟩ := z.2 a h
    exact ⟨u, by rw [upd_ne (ne_of_none e hp)]; exact e⟩⟩
theorem Zok.add (z : Zok g H) {p : Addr} (hp : ∃ o, H p = some o) (hn : p ∉ g.as) : Zok (g.add p) H :=
  ⟨fun a h => h.elim (fun h => z.1 a h) (fun e => by rw [e]; exact ⟨hp, hn⟩), z.2⟩
end

/-! ### slots, registers -/
inductive Ar where
  | d (x : D) | r (n : Nat)
inductive Sl where
  | val (d : D) | own (ds : List D) | dk (kvs : List (Key × D)) | dt (kvs : List (List Key × D)) | reg (n : Nat) | exc (c : Nat) (d : D)
def Sl.isOwn : Sl → Bool
  | .own _ => true | .dk _ => true | .dt _ => true | _ => false
abbrev Rho := List (Option Sl)
inductive RV where
  | lst (l : List D) | pur (x y z : Int) | dt (kvs : List (List Key × D))
def Own (H0 : Hp) (g : Gh) (a : Addr) : Prop := ¬ g.Z a ∧ a ∉ g.as ∧ H0 a = none
def KRep {κ : Type} (g : Gh) (H : Hp) : List (κ × D) → List (κ × V) → Prop := Paired fun p q => p.1 = q.1 ∧ Rep g H p.2 q.2
def SlRep (H0 : Hp) (xn : Option (Addr × Addr × Nat)) (g : Gh) (H : Hp) : Sl → V → Prop
  | .val d, v => Rep g H d v
  | .own ds, v => ∃ a vs, v = .ref a ∧ H a = some (.lst vs) ∧ Reps g H ds vs ∧ Own H0 g a
  | .dk kvs, v => ∃ a kvs', v = .ref a ∧ H a = some (.dK kvs') ∧ KRep g H kvs kvs' ∧ Own H0 g a
  | .dt kvs, v => ∃ a kvs', v = .ref a ∧ H a = some (.dT kvs') ∧ KRep g H kvs kvs' ∧ Own H0 g a
  | .reg n, v => ∃ a, v = .ref a ∧ g.as[n]? = some a
  | .exc c d, v => ∃ a dd x, xn = some (a, dd, c) ∧ v = .ref a ∧ H dd = some (.xd [(("value" : Str), x)]) ∧ Rep g H d x ∧ dd ∉ g.as
def ArRep (g : Gh) (H : Hp) : Ar → V → Prop
  | .d x, v => Rep g H x v
  | .r n, v => ∃ a, v = .ref a ∧ g.as[n]? = some a
structure SRel (H0 : Hp) (xn : Option (Addr × Addr × Nat)) (g : Gh) (H : Hp) (rh : Rho) (σ : L2.St) : Prop where
  len : rh.length = σ.length
  rep : ∀ (i : Nat) s, rh[i]? = some (some s) → ∃ v, σ[i]? = some (some v) ∧ SlRep H0 xn g H s v
  sep : ∀ (i j : Nat) s t a, rh[i]? = some (some s) → rh[j]? = some (some t) → s.isOwn = true → t.isOwn = true → σ[i]? = some (some (.ref a)) → σ[j]? = some (some (.ref a)) → i = j
def RVRep (g : Gh) (H : Hp) : RV → Addr → Prop
  | .lst l, a => ∃ vs, H a = some (.lst vs) ∧ Reps g H l vs
  | .pur x y z, a => H a = some (.lst [.int x, .int y, .int z])
  | .dt kvs, a => ∃ kvs', H a = some (.dT kvs') ∧ KRep g H kvs kvs'
structure StOk (g : Gh) (H : Hp) (st : List RV) : Prop where
  len : st.length = g.as.length
  nd : g.as.Nodup
  z : Zok g H
  rep : ∀ (n : Nat) r a, st[n]? = some r → g.as[n]? = some a → RVRep g H r a
/-- what is fixed through a def's body -/
structure Ct where
  H0 : Hp
  g0 : Gh
  E : XK
  CA : Nat → Addr
  /-- data that stand still through a loop -/
  P : List (D × V)
  /-- what is known of the slots wherever an exception may leave -/
  B : L2.St → Prop
  /-- the exception that is held: its address, its dict's, its class -/
  xn : Option (Addr × Addr × Nat)
abbrev Ct.noE (C : Ct) : Ct := { C with E := fun _ _ _ => False, B := fun _ => True }
abbrev Ct.pin (C : Ct) (ps : List (D × V)) : Ct := { C with P := ps ++ C.P }
structure Sta (C : Ct) (g : Gh) (rh : Rho) (st : List RV) (σ : L2.St) (H : Hp) : Prop where
  rel : SRel C.H0 C.xn g H rh σ
  ok : StOk g H st
  gr : Grow C.g0 C.H0 g H
  pin : ∀ p ∈ C.P, Rep g H p.1 p.2
  b : C.B σ

section
variable {g g' g2 : Gh} {H H' H2 H0 : Hp} {xn : Option (Addr × Addr × Nat)} {C : Ct} {rh : Rho} {st : List RV} {σ : L2.St}
theorem KRep.grow {κ : Type} {kvs : List (κ × D)} {kvs' : List (κ × V)} (z : Zok g H) (G : Grow g H g' H') (h : KRep g H kvs kvs') : KRep g' H' kvs kvs' :=
  Paired.mapP h fun _ _ q => ⟨q.1, q.2.grow z G⟩
theorem Own.grow {a : Addr} {o : HO} (G : Grow g H g' H') (h : Own H0 g a) (e : H a = some o) : Own H0 g' a :=
  ⟨fun z => (G.fr a z).elim h.1 (fun n => by rw [e] at n; cases n), G.nas e h.2.1, h.2.2⟩
theorem asGet (G : Grow g H g' H') {n : Nat} {a : Addr} (h : g.as[n]? = some a) : g'.as[n]? = some a := by
  obtain ⟨m, e, _⟩ := G.as
  rw [e, List.getElem?_append_left (List.getElem?_eq_some_iff.mp h).1]
  exact h
theorem SlRep.grow {s : Sl} {v : V} (z : Zok g H) (G : Grow g H g' H') (h : SlRep H0 xn g H s v) : SlRep H0 xn g' H' s v := by
  cases s with
  | val d => exact Rep.grow z G h
  | own ds =>
    obtain ⟨a, vs, e, ha, r, o⟩ := h
    exact ⟨a, vs, e, G.keep a _ ha o.2.1, r.grow z G, o.grow G ha⟩
  | dk kvs =>
    obtain ⟨a, vs, e, ha, r, o⟩ := h
    exact ⟨a, vs, e, G.keep a _ ha o.2.1, r.grow z G, o.grow G ha⟩
  | dt kvs =>
    obtain ⟨a, vs, e, ha, r, o⟩ := h
    exact ⟨a, vs, e, G.keep a _ ha o.2.1, r.grow z G, o.grow G ha⟩
  | reg n =>
    obtain ⟨a, e, ha⟩ := h
    exact ⟨a, e, asGet G ha⟩
  | exc c d =>
    obtain ⟨a, dd, x, e1, e2, e3, r, n⟩ := h
    exact ⟨a, dd, x, e1, e2, G.keep dd _ e3 n, r.grow z G, G.nas e3 n⟩
theorem ArRep.grow {s : Ar} {v : V} (z : Zok g H) (G : Grow g H g' H') (h : ArRep g H s v) : ArRep g' H' s v := by
  cases s with
  | d x => exact Rep.grow z G h
  | r n =>
    obtain ⟨a, e, ha⟩ := h
    exact ⟨a, e, asGet G ha⟩
theorem SRel.grow (z : Zok g H) (G : Grow g H g' H') (h : SRel H0 xn g H rh σ) : SRel H0 xn g' H' rh σ :=
  ⟨h.len, fun i s e => by
    obtain ⟨v, h1, h2⟩ := h.rep i s e
    exact ⟨v, h1, h2.grow z G⟩, h.sep⟩
theorem Sta.grow (S : Sta C g rh st σ H) (G : Grow g H g' H') {st' : List RV} (k : StOk g' H' st') : Sta C g' rh st' σ H' :=
  ⟨S.rel.grow S.ok.z G, k, S.gr.trans G, fun p hp => (S.pin p hp).grow S.ok.z G, S.b⟩
/-- the registers' contents where nothing of theirs changes -/
theorem RVRep.grow {r : RV} {a : Addr} (z : Zok g H) (G : Grow g H g' H') (h : RVRep g H r a) (e : H' a = H a) : RVRep g' H' r a := by
  cases r with
  | lst l => obtain ⟨vs, h1, h2⟩ := h; exact ⟨vs, by rw [e]; exact h1, h2.grow z G⟩
  | pur x y w => exact (show H' a = _ by rw [e]; exact h)
  | dt kvs => obtain ⟨vs, h1, h2⟩ := h; exact ⟨vs, by rw [e]; exact h1, h2.grow z G⟩
/-- the same registers, unchanged -/
theorem StOk.keep (k : StOk g H st) (G : Grow g H g' H') (ea : g'.as = g.as) (z' : Zok g' H') (e : ∀ a ∈ g.as, H' a = H a) : StOk g' H' st :=
  ⟨by rw [ea]; exact k.len, by rw [ea]; exact k.nd, z', fun n r a h1 h2 => by
    rw [ea] at h2
    exact (k.rep n r a h1 h2).grow k.z G (e a (List.mem_of_getElem? h2))⟩
theorem StOk.new (k : StOk g H st) {p : Addr} {o : HO} (hp : H p = none) : StOk g (upd H p o) st :=
  k.keep (Grow.new k.z hp) rfl (k.z.new hp) fun a ha => upd_ne fun e => nas_new k.z hp (e ▸ ha)
theorem Rep.add {p : Addr} {d : D} {v : V} (h : Rep g H d v) : Rep (g.add p) H d v := Rep.map (g' := g.add p) (H' := H) (fun a vs y e => ⟨Or.inl y, e⟩) (fun a vs y e => ⟨Or.inl y, e⟩) d v h
theorem Reps.add {p : Addr} {d : List D} {v : List V} (h : Reps g H d v) : Reps (g.add p) H d v := Reps.map (g' := g.add p) (H' := H) (fun a vs y e => ⟨Or.inl y, e⟩) (fun a vs y e => ⟨Or.inl y, e⟩) d v h
theorem KRep.add {κ : Type} {p : Addr} {kvs : List (κ × D)} {kvs' : List (κ × V)} (h : KRep g H kvs kvs') : KRep (g.add p) H kvs kvs' := Paired.mapP h fun _ _ q => ⟨q.1, q.2.add⟩
theorem StOk.add (k : StOk g H st) {p : Addr} (hp : ∃ o, H p = some o) (hn : p ∉ g.as) : StOk (g.add p) H st :=
  ⟨k.len, k.nd, Zok.add k.z hp hn, fun n r a h1 h2 => by
    have q := k.rep n r a h1 h2
    cases r with
    | lst l => obtain ⟨vs, q1, q2⟩ := q; exact ⟨vs, q1, q2.add⟩
    | pur x y w => exact q
    | dt kvs => obtain ⟨vs, q1, q2⟩ := q; exact ⟨vs, q1, q2.add⟩⟩
/-- an object that nothing lasting looks at is written -/
theorem Rep.write {p : Addr} {o : HO} {d : D} {v : V} (hp : ¬ g.Z p) (h : Rep g H d v) : Rep g (upd H p o) d v :=
  Rep.map (g' := g) (H' := upd H p o) (fun a vs y e => ⟨y, by rw [upd_ne (show a ≠ p from fun q => hp (by rw [← q]; exact y))]; exact e⟩) (fun a vs y e => ⟨y, by rw [upd_ne (show a ≠ p from fun q => hp (by rw [← q]; exact y))]; exact e⟩) d v h
theorem Reps.write {p : Addr} {o : HO} {d : List D} {v : List V} (hp : ¬ g.Z p) (h : Reps g H d v) : Reps g (upd H p o) d v :=
  Reps.map (g' := g) (H' := upd H p o) (fun a vs y e => ⟨y, by rw [upd_ne (show a ≠ p from fun q => hp (by rw [← q]; exact y))]; exact e⟩) (fun a vs y e => ⟨y, by rw [upd_ne (show a ≠ p from fun q => hp (by rw [← q]; exact y))]; exact e⟩) d v h
theorem KRep.write {κ : Type} {p : Addr} {o : HO} {kvs : List (κ × D)} {kvs' : List (κ × V)} (hp : ¬ g.Z p) (h : KRep g H kvs kvs') : KRep g (upd H p o) kvs kvs' := Paired.mapP h fun _ _ q => ⟨q.1, q.2.write hp⟩
theorem SlRep.write {p : Addr} {o : HO} {s : Sl} {v : V} (hp : ¬ g.Z p) (hx : ∀ fs, H p ≠ some (.xd fs)) (hs : s.isOwn = true → v ≠ .ref p) (h : SlRep H0 xn g H s v) : SlRep H0 xn g (upd H p o) s v := by
  cases s with
  | val d => exact Rep.write hp h
  | own ds =>
    obtain ⟨a, vs, e, ha, r, ow⟩ := h
    exact ⟨a, vs, e, by rw [upd_ne fun q => hs rfl (by rw [e, q])]; exact ha, r.write hp, ow⟩
  | dk kvs =>
    obtain ⟨a, vs, e, ha, r, ow⟩ := h
    exact ⟨a, vs, e, by rw [upd_ne fun q => hs rfl (by rw [e, q])]; exact ha, r.write hp, ow⟩
  | dt kvs =>
    obtain ⟨a, vs, e, ha, r, ow⟩ := h
    exact ⟨a, vs, e, by rw [upd_ne fun q => hs rfl (by rw [e, q])]; exact ha, r.write hp, ow⟩
  | reg n => exact h
  | exc c d =>
    obtain ⟨a, dd, x, e1, e2, e3, r, n⟩ := h
    exact ⟨a, dd, x, e1, e2, by rw [upd_ne fun q => hx _ (by rw [← q]; exact e3)]; exact e3, r.write hp, n⟩
theorem get_set {α : Type} {l : List α} {i j : Nat} {x y : α} (h : (l.set i x)[j]? = some y) : (i = j ∧ y = x) ∨ (i ≠ j ∧ l[j]? = some y) := by
  by_cases e : i = j
  · subst e
    by_cases hl : i < l.length
    · rw [List.getElem?_set_self hl] at h; cases h; exact .inl ⟨rfl, rfl⟩
    · rw [List.getElem?_eq_none (by simpa using hl)] at h; cases h
  · rw [List.getElem?_set_ne e] at h; exact .inr ⟨e, h⟩
theorem set_get {α : Type} {l : List α} {i : Nat} {x : α} (h : i < l.length) : (l.set i x)[i]? = some x := List.getElem?_set_self h
/-- a slot gets data -/
theorem Sta.setv (S : Sta C g rh st σ H) {d : D} {v : V} (i : Nat) (r : Rep g H d v) (hb : C.B (σ.set i (some v))) : Sta C g (rh.set i (some (.val d))) st (σ.set i (some v)) H := by
  refine ⟨⟨by rw [List.length_set, List.length_set]; exact S.rel.len, fun j s e => ?_, fun j k s t a e1 e2 o1 o2 h1 h2 => ?_⟩, S.ok, S.gr, S.pin, hb⟩
  · rcases get_set e with ⟨rfl, q⟩ | ⟨n, q⟩
    · cases q
      have hl : i < σ.length := by
        rw [← S.rel.len]
        by_cases hl : i < rh.length
        · exact hl
        · rw [List.getElem?_eq_none (by simpa using hl)] at e; cases e
      exact ⟨v, set_get hl, r⟩
    · obtain ⟨w, h1, h2⟩ := S.rel.rep j s q
      exact ⟨w, by rw [List.getElem?_set_ne n]; exact h1, h2⟩
  · rcases get_set e1 with ⟨rfl, q⟩ | ⟨n, q⟩
    · cases q; cases o1
    · rcases get_set e2 with ⟨rfl, q2⟩ | ⟨n2, q2⟩
      · cases q2; cases o2
      · rw [List.getElem?_set_ne n] at h1
        rw [List.getElem?_set_ne n2] at h2
        exact S.rel.sep j k s t a q q2 o1 o2 h1 h2
/-- a slot gets an object of its own -/
theorem Sta.seto (S : Sta C g rh st σ H) {s : Sl} {a : Addr} (i : Nat) (r : SlRep C.H0 C.xn g H s (.ref a)) (hn : ∀ (j : Nat) t, j ≠ i → rh[j]? = some (some t) → t.isOwn = true → σ[j]? ≠ some (some (.ref a))) (hb : C.B (σ.set i (some (.ref a)))) : Sta C g (rh.set i (some s)) st (σ.set i (some (.ref a))) H := by
  refine ⟨⟨by rw [List.length_set, List.length_set]; exact S.rel.len, fun j s' e => ?_, fun j k s1 t b e1 e2 o1 o2 h1 h2 => ?_⟩, S.ok, S.gr, S.pin, hb⟩
  · rcases get_set e with ⟨rfl, q⟩ | ⟨n, q⟩
    · cases q
      have hl : i < σ.length := by
        rw [← S.rel.len]
        by_cases hl : i < rh.length
        · exact hl
        · rw [List.getElem?_eq_none (by simpa using hl)] at e; cases e
      exact ⟨_, set_get hl, r⟩
    · obtain ⟨w, h1, h2⟩ := S.rel.rep j s' q
      exact ⟨w, by rw [List.getElem?_set_ne n]; exact h1, h2⟩
  · rcases get_set e1 with ⟨rfl, q⟩ | ⟨n, q⟩
    · rcases get_set e2 with ⟨rfl, q2⟩ | ⟨n2, q2⟩
      · rfl
      · rw [List.getElem?_set_ne n2] at h2
        have hb : b = a := by
          rcases get_set h1 with ⟨_, z⟩ | ⟨z, _⟩
          · cases z; rfl
          · exact absurd rfl z
        subst hb
        exact absurd h2 (hn k t (Ne.symm n2) q2 o2)
    · rw [List.getElem?_set_ne n] at h1
      rcases get_set e2 with ⟨rfl, q2⟩ | ⟨n2, q2⟩
      · have hb : b = a := by
          rcases get_set h2 with ⟨_, z⟩ | ⟨z, _⟩
          · cases z; rfl
          · exact absurd rfl z
        subst hb
        exact absurd h1 (hn j s1 (Ne.symm n) q o1)
      · rw [List.getElem?_set_ne n2] at h2
        exact S.rel.sep j k s1 t b q q2 o1 o2 h1 h2
/-- no slot's own object is at a new address -/
theorem Sta.noOwn (S : Sta C g rh st σ H) {a : Addr} (ha : H a = none) : ∀ (j : Nat) t, rh[j]? = some (some t) → t.isOwn = true → σ[j]? ≠ some (some (.ref a)) := fun j t e o h => by
  obtain ⟨v, h1, h2⟩ := S.rel.rep j t e
  rw [h] at h1; cases h1
  cases t with
  | own ds => obtain ⟨b, vs, e1, e2, _⟩ := h2; cases e1; rw [ha] at e2; cases e2
  | dk ds => obtain ⟨b, vs, e1, e2, _⟩ := h2; cases e1; rw [ha] at e2; cases e2
  | dt ds => obtain ⟨b, vs, e1, e2, _⟩ := h2; cases e1; rw [ha] at e2; cases e2
  | _ => cases o
/-- slots forgotten -/
def wipeR (ws : List Nat) (r : Rho) : Rho := ws.foldl (fun r i => r.set i none) r
theorem Sta.unset (S : Sta C g rh st σ H) (i : Nat) : Sta C g (rh.set i none) st σ H := by
  refine ⟨⟨by rw [List.length_set]; exact S.rel.len, fun j s e => ?_, fun j k s t a e1 e2 => ?_⟩, S.ok, S.gr, S.pin, S.b⟩
  · rcases get_set e with ⟨_, q⟩ | ⟨_, q⟩
    · cases q
    · exact S.rel.rep j s q
  · rcases get_set e1 with ⟨_, q⟩ | ⟨_, q⟩
    · cases q
    · rcases get_set e2 with ⟨_, q2⟩ | ⟨_, q2⟩
      · cases q2
      · exact S.rel.sep j k s t a q q2
theorem Sta.wipe (S : Sta C g rh st σ H) : ∀ ws : List Nat, Sta C g (wipeR ws rh) st σ H := fun ws => by
  induction ws generalizing rh with
  | nil => exact S
  | cons i ws ih => exact ih (S.unset i)
/-- a slot's own list is written -/
theorem Sta.write (S : Sta C g rh st σ H) {i : Nat} {s s' : Sl} {p : Addr} {o : HO} (e : rh[i]? = some (some s)) (hs : s.isOwn = true) (hv : σ[i]? = some (some (.ref p))) (ow : Own C.H0 g p) (hp : ∃ u, H p = some u) (hx : ∀ fs, H p ≠ some (.xd fs)) (r : SlRep C.H0 C.xn g (upd H p o) s' (.ref p)) (hs' : s'.isOwn = true) :
    Sta C g (rh.set i (some s')) st σ (upd H p o) := by
  have np := ow.1
  refine ⟨⟨by rw [List.length_set]; exact S.rel.len, fun j t q => ?_, fun j k t u a q1 q2 o1 o2 h1 h2 => ?_⟩, ⟨S.ok.len, S.ok.nd, ⟨fun a z => ⟨?_, S.ok.z.nas z⟩, fun a z => ?_⟩, fun n q a h1 h2 => ?_⟩, ⟨S.gr.as, S.gr.z, S.gr.fr, fun a u h n => ?_, fun a h => ?_⟩, fun q hq => (S.pin q hq).write np, S.b⟩
  · rcases get_set q with ⟨rfl, w1⟩ | ⟨n, w1⟩
    · cases w1; exact ⟨_, hv, r⟩
    · obtain ⟨w, h1, h2⟩ := S.rel.rep j t w1
      refine ⟨w, h1, h2.write np hx fun ot ew => ?_⟩
      subst ew
      exact n (S.rel.sep i j s t p e w1 hs ot hv h1)
  · rcases get_set q1 with ⟨rfl, w1⟩ | ⟨n, w1⟩
    · rcases get_set q2 with ⟨rfl, w2⟩ | ⟨n2, w2⟩
      · rfl
      · exact S.rel.sep i k s u a e w2 hs o2 h1 h2
    · rcases get_set q2 with ⟨rfl, w2⟩ | ⟨n2, w2⟩
      · exact S.rel.sep j i t s a w1 e o1 hs h1 h2
      · exact S.rel.sep j k t u a w1 w2 o1 o2 h1 h2
  · obtain ⟨u, h⟩ := S.ok.z.ex z
    exact ⟨u, by rw [upd_ne fun q => np (by rw [← q]; exact z)]; exact h⟩
  · obtain ⟨u, h⟩ := S.ok.z.2 a z
    exact ⟨u, by rw [upd_ne fun q => ow.2.1 (by rw [← q]; exact z)]; exact h⟩
  · have z := S.ok.rep n q a h1 h2
    have na : a ≠ p := fun q => ow.2.1 (by rw [← q]; exact List.mem_of_getElem? h2)
    cases q with
    | lst l => obtain ⟨vs, q1, q2⟩ := z; exact ⟨vs, by rw [upd_ne na]; exact q1, q2.write np⟩
    | pur x y w => exact (show upd H p o a = _ by rw [upd_ne na]; exact z)
    | dt kvs => obtain ⟨vs, q1, q2⟩ := z; exact ⟨vs, by rw [upd_ne na]; exact q1, q2.write np⟩
  · rw [upd_ne fun q => by have z := ow.2.2; rw [← q, h] at z; cases z]
    exact S.gr.keep a u h n
  · obtain ⟨u, h2⟩ := S.gr.live a h
    obtain ⟨m, e1, _⟩ := S.gr.as
    exact ⟨u, by rw [upd_ne fun q => ow.2.1 (by rw [e1, ← q]; exact List.mem_append_left _ h)]; exact h2⟩
/-- a slot's own list becomes lasting data -/
theorem Sta.freeze (S : Sta C g rh st σ H) {i : Nat} {ds : List D} (e : rh[i]? = some (some (.own ds))) : ∃ g', Sta C g' (rh.set i (some (.val (.list ds)))) st σ H := by
  obtain ⟨v, hv, a, vs, rfl, ha, r, ow⟩ := S.rel.rep i _ e
  refine ⟨g.add a, ⟨by rw [List.length_set]; exact S.rel.len, fun j t q => ?_, fun j k t u b q1 q2 o1 o2 h1 h2 => ?_⟩, S.ok.add ⟨_, ha⟩ ow.2.1, ⟨S.gr.as, fun b z => .inl (S.gr.z b z), fun b z => z.elim (S.gr.fr b) fun q => .inr (by rw [q]; exact ow.2.2), S.gr.keep, S.gr.live⟩, fun p hp => (S.pin p hp).add, S.b⟩
  · rcases get_set q with ⟨rfl, w1⟩ | ⟨n, w1⟩
    · cases w1
      exact ⟨_, hv, .lst (.inr rfl) ha r.add⟩
    · obtain ⟨w, h1, h2⟩ := S.rel.rep j t w1
      refine ⟨w, h1, ?_⟩
      have own : ∀ b, w = .ref b → t.isOwn = true → Own C.H0 g b → Own C.H0 (g.add a) b := fun b ew ot o => ⟨fun z => z.elim o.1 fun q' => by
        subst q'
        subst ew
        exact n (S.rel.sep i j _ t b e w1 rfl ot hv h1), o.2.1, o.2.2⟩
      cases t with
      | val d => exact Rep.add h2
      | own ds => obtain ⟨b, vs, e1, e2, e3, e4⟩ := h2; exact ⟨b, vs, e1, e2, e3.add, own b e1 rfl e4⟩
      | dk ds => obtain ⟨b, vs, e1, e2, e3, e4⟩ := h2; exact ⟨b, vs, e1, e2, e3.add, own b e1 rfl e4⟩
      | dt ds => obtain ⟨b, vs, e1, e2, e3, e4⟩ := h2; exact ⟨b, vs, e1, e2, e3.add, own b e1 rfl e4⟩
      | reg n => exact h2
      | exc c d => obtain ⟨b, dd, x, e1, e2, e3, e4, e5⟩ := h2; exact ⟨b, dd, x, e1, e2, e3, e4.add, e5⟩
  · rcases get_set q1 with ⟨rfl, w1⟩ | ⟨n, w1⟩
    · cases w1; cases o1
    · rcases get_set q2 with ⟨rfl, w2⟩ | ⟨n2, w2⟩
      · cases w2; cases o2
      · exact S.rel.sep j k t u b w1 w2 o1 o2 h1 h2
/-- an object that no slot has is written -/
theorem Sta.writeX (S : Sta C g rh st σ H) {p : Addr} {o : HO} (ow : Own C.H0 g p) (hx : ∀ fs, H p ≠ some (.xd fs)) (hn : ∀ (j : Nat) t, rh[j]? = some (some t) → t.isOwn = true → σ[j]? ≠ some (some (.ref p))) : Sta C g rh st σ (upd H p o) := by
  have np := ow.1
  refine ⟨⟨S.rel.len, fun j t q => ?_, S.rel.sep⟩, ⟨S.ok.len, S.ok.nd, ⟨fun a z => ⟨?_, S.ok.z.nas z⟩, fun a z => ?_⟩, fun n q a h1 h2 => ?_⟩, ⟨S.gr.as, S.gr.z, S.gr.fr, fun a u h n => ?_, fun a h => ?_⟩, fun q hq => (S.pin q hq).write np, S.b⟩
  · obtain ⟨w, h1, h2⟩ := S.rel.rep j t q
    exact ⟨w, h1, h2.write np hx fun ot ew => hn j t q ot (by rw [h1, ew])⟩
  · obtain ⟨u, h⟩ := S.ok.z.ex z
    exact ⟨u, by rw [upd_ne fun q => np (by rw [← q]; exact z)]; exact h⟩
  · obtain ⟨u, h⟩ := S.ok.z.2 a z
    exact ⟨u, by rw [upd_ne fun q => ow.2.1 (by rw [← q]; exact z)]; exact h⟩
  · have z := S.ok.rep n q a h1 h2
    have na : a ≠ p := fun q => ow.2.1 (by rw [← q]; exact List.mem_of_getElem? h2)
    cases q with
    | lst l => obtain ⟨vs, q1, q2⟩ := z; exact ⟨vs, by rw [upd_ne na]; exact q1, q2.write np⟩
    | pur x y w => exact (show upd H p o a = _ by rw [upd_ne na]; exact z)
    | dt kvs => obtain ⟨vs, q1, q2⟩ := z; exact ⟨vs, by rw [upd_ne na]; exact q1, q2.write np⟩
  · rw [upd_ne fun q => by have z := ow.2.2; rw [← q, h] at z; cases z]
    exact S.gr.keep a u h n
  · obtain ⟨u, h2⟩ := S.gr.live a h
    obtain ⟨m, e1, _⟩ := S.gr.as
    exact ⟨u, by rw [upd_ne fun q => ow.2.1 (by rw [e1, ← q]; exact List.mem_append_left _ h)]; exact h2⟩
/-- slots of which nothing is known hold anything -/
theorem Sta.any (S : Sta C g rh st σ H) {σ' : L2.St} (hl : σ'.length = σ.length) (h : ∀ (j : Nat) s, rh[j]? = some (some s) → σ'[j]? = σ[j]?) (hb : C.B σ') : Sta C g rh st σ' H :=
  ⟨⟨S.rel.len.trans hl.symm, fun i s e => by
    obtain ⟨v, h1, h2⟩ := S.rel.rep i s e
    exact ⟨v, by rw [h i s e]; exact h1, h2⟩, fun i j s t a e1 e2 o1 o2 h1 h2 => S.rel.sep i j s t a e1 e2 o1 o2 (by rw [← h i s e1]; exact h1) (by rw [← h j t e2]; exact h2)⟩, S.ok, S.gr, S.pin, hb⟩
theorem wipeR_get {ws : List Nat} {r : Rho} {j : Nat} {s : Sl} (h : (wipeR ws r)[j]? = some (some s)) : j ∉ ws ∧ r[j]? = some (some s) := by
  induction ws generalizing r with
  | nil => exact ⟨by simp, h⟩
  | cons w ws ih =>
    obtain ⟨h1, h2⟩ := ih (r := r.set w none) h
    rcases get_set h2 with ⟨_, q⟩ | ⟨n, q⟩
    · cases q
    · exact ⟨by simp only [List.mem_cons, not_or]; exact ⟨fun e => n e.symm, h1⟩, q⟩
end
end FL

/-! FLb -/
set_option Elab.async false
set_option linter.all false
set_option maxRecDepth 100000
set_option maxHeartbeats 4000000
/-! FLb: outcomes, readings by functions, the rules for expressions. -/
namespace FL
open PySem PySem.Spec PyProof.Rows L2

inductive Out (α : Type) where
  | ok (a : α) (st : List RV) | err (c : Nat) (d : D) (st : List RV) | stuck
def Out.bind {α β : Type} (o : Out α) (k : α → List RV → Out β) : Out β :=
  match o with
  | .ok a st => k a st
  | .err c d st => .err c d st
  | .stuck => .stuck
@[simp] theorem Out.bind_ok {α β : Type} (a : α) (st : List RV) (k : α → List RV → Out β) : (Out.ok a st).bind k = k a st := rfl
@[simp] theorem Out.bind_err {α β : Type} (c : Nat) (d : D) (st : List RV) (k : α → List RV → Out β) : (Out.err c d st : Out α).bind k = .err c d st := rfl
@[simp] theorem Out.bind_stuck {α β : Type} (k : α → List RV → Out β) : (Out.stuck : Out α).bind k = .stuck := rfl
abbrev Ex (α : Type) := Rho → List RV → Out α
def ofO {α : Type} (o : Option α) (st : List RV) : Out α := match o with | some a => .ok a st | none => .stuck
@[simp] theorem ofO_some {α : Type} (a : α) (st : List RV) : ofO (some a) st = .ok a st := rfl
@[simp] theorem ofO_none {α : Type} (st : List RV) : ofO (none : Option α) st = .stuck := rfl

/-- an exception leaves: its class's number, its value -/
def XW (C : Ct) (c : Nat) (d : D) (st : List RV) : Prop := ∀ g' H' dx v, Grow C.g0 C.H0 g' H' → StOk g' H' st → H' dx = some (.xd [(("value" : Str), v)]) → C.H0 dx = none → Rep g' H' d v → C.E (.ref (C.CA c)) (some dx) H'
/-- what is wanted of an outcome -/
structure Wk {γ : Type} (C : Ct) (W : Gh → Hp → Out γ → Prop) : Prop where
  err : ∀ g H c d st, W g H (.err c d st) → XW C c d st
  no : ∀ g H, ¬ W g H .stuck
  mono : ∀ g H g' H' o, Grow g H g' H' → W g H o → W g' H' o
def tW {γ : Type} (C : Ct) (W : Gh → Hp → Out γ → Prop) (f : Ex γ) (σ : L2.St) (H : Hp) : Prop := ∃ g rh st, Sta C g rh st σ H ∧ W g H (f rh st)
def wpG {α β : Type} (C : Ct) (R : Gh → Hp → α → β → Prop) (Q : β → Hp → Prop) (g : Gh) (H : Hp) (o : Out α) : Prop :=
  match o with
  | .ok a st' => ∀ g' H' b, Grow g H g' H' → StOk g' H' st' → R g' H' a b → Q b H'
  | .err c d st' => XW C c d st'
  | .stuck => False
theorem wkG {α β : Type} {C : Ct} {R : Gh → Hp → α → β → Prop} {Q : β → Hp → Prop} : Wk C (wpG C R Q) :=
  ⟨fun _ _ _ _ _ h => h, fun _ _ h => h, fun g H g' H' o G h => by
    cases o with
    | ok a st => exact fun g2 H2 b G2 k r => h g2 H2 b (G.trans G2) k r
    | err c d st => exact h
    | stuck => exact h⟩
def tG {α β : Type} (C : Ct) (R : Gh → Hp → α → β → Prop) (f : Ex α) : L2.St → Hp → (β → Hp → Prop) → Prop := fun σ H Q => tW C (wpG C R Q) f σ H
def Mono {α β : Type} (R : Gh → Hp → α → β → Prop) : Prop := ∀ g H g' H' a b, Zok g H → Grow g H g' H' → R g H a b → R g' H' a b

section
variable {C : Ct} {σ : L2.St} {H : Hp} {α α' β β' γ : Type} {R : Gh → Hp → α → β → Prop} {R' : Gh → Hp → α' → β' → Prop} {W : Gh → Hp → Out γ → Prop}
theorem bind1 {m : Ex α} {k : α → Ex γ} (hW : Wk C W) (h : tW C W (fun rh st => (m rh st).bind fun a st => k a rh st) σ H) :
    tG C R m σ H (fun b H1 => ∃ a g rh st, Sta C g rh st σ H1 ∧ R g H1 a b ∧ W g H1 (k a rh st)) := by
  obtain ⟨g, rh, st, S, w⟩ := h
  have w : W g H ((m rh st).bind fun a st => k a rh st) := w
  refine ⟨g, rh, st, S, ?_⟩
  cases e : m rh st with
  | ok a st1 =>
    rw [e] at w
    exact fun g' H' b G k' r => ⟨a, g', rh, st1, S.grow G k', r, hW.mono _ _ _ _ _ G w⟩
  | err c d st1 =>
    rw [e] at w
    exact hW.err _ _ _ _ _ w
  | stuck =>
    rw [e] at w
    exact hW.no _ _ w
theorem bind2 {m : Ex α} {m' : Ex α'} {k : α → α' → Ex γ} (hR : Mono R) (hW : Wk C W) (h : tW C W (fun rh st => (m rh st).bind fun a st => (m' rh st).bind fun b st => k a b rh st) σ H) :
    tG C R m σ H (fun x H1 => tG C R' m' σ H1 (fun y H2 => ∃ a b g rh st, Sta C g rh st σ H2 ∧ R g H2 a x ∧ R' g H2 b y ∧ W g H2 (k a b rh st))) := by
  obtain ⟨g, rh, st, S, w⟩ := h
  have w : W g H ((m rh st).bind fun a st => (m' rh st).bind fun b st => k a b rh st) := w
  refine ⟨g, rh, st, S, ?_⟩
  cases e : m rh st with
  | ok a st1 =>
    rw [e] at w
    refine fun g1 H1 x G k1 r => ⟨g1, rh, st1, S.grow G k1, ?_⟩
    have w : W g H ((m' rh st1).bind fun b st => k a b rh st) := w
    cases e' : m' rh st1 with
    | ok b st2 =>
      rw [e'] at w
      exact fun g2 H2 y G2 k2 r2 => ⟨a, b, g2, rh, st2, (S.grow G k1).grow G2 k2, hR _ _ _ _ _ _ k1.z G2 r, r2, hW.mono _ _ _ _ _ (G.trans G2) w⟩
    | err c d st2 =>
      rw [e'] at w
      exact hW.err _ _ _ _ _ w
    | stuck =>
      rw [e'] at w
      exact hW.no _ _ w
  | err c d st1 =>
    rw [e] at w
    exact hW.err _ _ _ _ _ w
  | stuck =>
    rw [e] at w
    exact hW.no _ _ w
theorem tG.mono {m : Ex α} {Q Q' : β → Hp → Prop} (h : tG C R m σ H Q) (hq : ∀ b H1, Q b H1 → Q' b H1) : tG C R m σ H Q' := by
  obtain ⟨g, rh, st, S, w⟩ := h
  refine ⟨g, rh, st, S, ?_⟩
  cases e : m rh st with
  | ok a st1 => rw [e] at w; exact fun g1 H1 b G k r => hq _ _ (w g1 H1 b G k r)
  | err c d st1 => rw [e] at w; exact w
  | stuck => rw [e] at w; exact w
end

def Rep1 (g : Gh) (H : Hp) (d : D) (v : V) : Prop := Rep g H d v ∨ ∃ ds a vs, d = .list ds ∧ v = .ref a ∧ H a = some (.lst vs) ∧ Reps g H ds vs ∧ a ∉ g.as
abbrev Reps1 (g : Gh) (H : Hp) : List D → List V → Prop := Paired (Rep1 g H)
theorem mono_rep : Mono Rep := fun _ _ _ _ _ _ z G h => h.grow z G
theorem mono_rep1 : Mono Rep1 := fun _ _ _ _ _ _ z G h => by
  rcases h with h | ⟨ds, a, vs, e1, e2, ha, r, n⟩
  · exact .inl (h.grow z G)
  · exact .inr ⟨ds, a, vs, e1, e2, G.keep a _ ha n, r.grow z G, G.nas ha n⟩
theorem mono_reps1 : Mono Reps1 := fun _ _ _ _ _ _ z G h => Paired.mapP h fun _ _ q => mono_rep1 _ _ _ _ _ _ z G q
theorem mono_reps : Mono Reps := fun _ _ _ _ _ _ z G h => h.grow z G
theorem mono_ar : Mono ArRep := fun _ _ _ _ _ _ z G h => h.grow z G
theorem mono_ars : Mono (fun g H => Paired (ArRep g H)) := fun _ _ _ _ _ _ z G h => Paired.mapP h fun _ _ q => q.grow z G
/-- a list, seen through one level -/
theorem Rep1.list {g : Gh} {H : Hp} {ds : List D} {v : V} (z : Zok g H) (h : Rep1 g H (.list ds) v) : ∃ a vs, v = .ref a ∧ H a = some (.lst vs) ∧ Reps g H ds vs ∧ a ∉ g.as := by
  rcases h with h | ⟨ds', a, vs, e1, e2, ha, r, n⟩
  · cases h with
    | lst y e r => exact ⟨_, _, rfl, e, r, z.nas y⟩
  · cases e1
    exact ⟨a, vs, e2, ha, r, n⟩
theorem Rep1.rep {g : Gh} {H : Hp} {d : D} {v : V} (h : Rep1 g H d v) (n : ∀ ds, d ≠ .list ds) : Rep g H d v := by
  rcases h with h | ⟨ds, _, _, e, _⟩
  · exact h
  · exact absurd e (n ds)
theorem Rep1.int {g : Gh} {H : Hp} {i : Int} {v : V} (h : Rep1 g H (.int i) v) : v = .int i := by
  cases h.rep (fun _ e => nomatch e); rfl
theorem Rep1.bl {g : Gh} {H : Hp} {i : Bool} {v : V} (h : Rep1 g H (.bool i) v) : v = .bl i := by
  cases h.rep (fun _ e => nomatch e); rfl
theorem Rep1.str {g : Gh} {H : Hp} {i : Str} {v : V} (h : Rep1 g H (.str i) v) : v = .str i := by
  cases h.rep (fun _ e => nomatch e); rfl
theorem Rep1.non {g : Gh} {H : Hp} {v : V} (h : Rep1 g H .none v) : v = .non := by
  cases h.rep (fun _ e => nomatch e); rfl
theorem Rep1.tup {g : Gh} {H : Hp} {ds : List D} {v : V} (h : Rep1 g H (.tuple ds) v) : ∃ a vs, v = .ref a ∧ g.Z a ∧ H a = some (.tup vs) ∧ Reps g H ds vs := by
  cases h.rep (fun _ e => nomatch e) with
  | tup y e r => exact ⟨_, _, rfl, y, e, r⟩

abbrev tE (C : Ct) (f : Ex D) : TE := tG C Rep f
abbrev tP (C : Ct) (f : Ex D) : TE := tG C Rep1 f
abbrev tA (C : Ct) (f : Ex (List D)) : TA := tG C Reps f
abbrev tA1 (C : Ct) (f : Ex (List D)) : TA := tG C Reps1 f
abbrev tAr (C : Ct) (f : Ex (List Ar)) : TA := tG C (fun g H => Paired (ArRep g H)) f
abbrev tT (C : Ct) (f : Ex Bool) : TT := tG C (fun _ _ b c => b = c) f
/-- a new list -/
def tN (C : Ct) (f : Ex (List D)) : TE := fun σ H Q => tW C (fun g H o => match o with
  | .ok ds st' => ∀ g' H' a vs, Grow g H g' H' → StOk g' H' st' → H a = none → ¬ g'.Z a → a ∉ g'.as → H' a = some (.lst vs) → Reps g' H' ds vs → Q (.ref a) H'
  | .err c d st' => XW C c d st'
  | .stuck => False) f σ H
theorem mono_b : Mono (fun (_ : Gh) (_ : Hp) (b c : Bool) => b = c) := fun _ _ _ _ _ _ _ _ h => h

section
variable {X : Cx} {C : Ct} {e a b c : Expr} {pos : Pos}
theorem PEimp {t t' : TE} (p : PE X e t) (h : ∀ σ H Q, t' σ H Q → t σ H Q) : PE X e t' := ⟨fun pins s σ H Q I q => p.run pins s σ H Q I (h σ H Q q)⟩
theorem PTimp {t t' : TT} (p : PT X e t) (h : ∀ σ H Q, t' σ H Q → t σ H Q) : PT X e t' := ⟨fun pins s σ H Q I q => p.run pins s σ H Q I (h σ H Q q)⟩
theorem PWimp {t t' : TT} (p : PW X e t) (h : ∀ σ H Q, t' σ H Q → t σ H Q) : PW X e t' := ⟨fun wh pins s σ H Q I q => p.run wh pins s σ H Q I (h σ H Q q)⟩
theorem PAimp {es : List Expr} {t t' : TA} (p : PA X es t) (h : ∀ σ H Q, t' σ H Q → t σ H Q) : PA X es t' := ⟨fun pos pins s σ H Q I q => p.run pos pins s σ H Q I (h σ H Q q)⟩
theorem PSimp {st : Stmt} {t t' : TS} (p : PS X st t) (h : ∀ De σ H, t' De σ H → t De σ H) : PS X st t' := ⟨fun pins s σ H De I q => p.run pins s σ H De I (h De σ H q)⟩
theorem PSsimp {st : List Stmt} {t t' : TS} (p : PSs X st t) (h : ∀ De σ H, t' De σ H → t De σ H) : PSs X st t' := ⟨fun pins s σ H De I q => p.run pins s σ H De I (h De σ H q)⟩
/-- with what the invariant knows of the heap: lists within their line -/
def Lens (H : Hp) : Prop := ∀ a, (∀ vs, H a = some (.lst vs) → vs.length ≤ sizeLine) ∧ (∀ vs, H a = some (.tup vs) → vs.length ≤ sizeLine)
theorem inv_lens {pins : List (Addr × Obj)} {σ : L2.St} {H : Hp} {s : Shared} (I : Inv X pins σ H s) : Lens H := fun a => by
  refine ⟨fun vs h => ?_, fun vs h => ?_⟩
  · exact (show ObjOk X.prog X.w H s.heap a (.lst vs) from I.hok a _ h).1
  · exact (show ObjOk X.prog X.w H s.heap a (.tup vs) from I.hok a _ h).1
/-- strict to peeked -/
theorem fp_of {f : Ex D} (p : PE X e (tE C f)) : PE X e (tP C f) := PEimp p fun σ H Q ⟨g, rh, st, S, w⟩ => ⟨g, rh, st, S, by
  cases q : f rh st with
  | ok d st' => rw [q] at w; exact fun g' H' v G k r => w g' H' v G k (.inl r)
  | err c d st' => rw [q] at w; exact w
  | stuck => rw [q] at w; exact w⟩
def eL (f : Ex (List D)) : Ex D := fun rh st => (f rh st).bind fun ds st => .ok (.list ds) st
/-- a new list, frozen at once -/
theorem fe_new {f : Ex (List D)} (p : PE X e (tN C f)) : PE X e (tE C (eL f)) := PEimp p fun σ H Q ⟨g, rh, st, S, w⟩ => ⟨g, rh, st, S, by
  unfold eL at w
  cases q : f rh st with
  | ok ds st' =>
    rw [q] at w
    intro g' H' p vs G k hp nz na hv r
    have hq : ∃ o, H' p = some o := ⟨_, hv⟩
    have hn : C.H0 p = none := S.gr.back hp
    have kk := k.add hq na
    refine w (g'.add p) H' (.ref p) ⟨G.as, fun a h => .inl (G.z a h), fun a h => h.elim (G.fr a) fun e => .inr (by rw [e]; exact hp), G.keep, G.live⟩ kk (.lst (.inr rfl) hv r.add)
  | err c d st' => rw [q] at w; exact w
  | stuck => rw [q] at w; exact w⟩

/-- no star -/
def isStar (e : Expr) : Bool := match e with | .Starred _ _ => true | _ => false
theorem starC {e : Expr} {es : List Expr} {env : Env} (h : isStar e = false) : starEach (e :: es) env = (false, eval e env) :: starEach es env := by
  cases e with
  | Starred v p => cases h
  | _ => rfl
/-! ### names, constants -/
def eVar (i : Nat) : Ex D := fun rh st => match rh[i]? with
  | some (some (.val d)) => .ok d st
  | _ => .stuck
def ePeek (i : Nat) : Ex D := fun rh st => match rh[i]? with
  | some (some (.val d)) => .ok d st
  | some (some (.own ds)) => .ok (.list ds) st
  | _ => .stuck
def eC (d : D) : Ex D := fun _ st => .ok d st
theorem fe_var (i : Nat) {x : Str} (hN : X.N[i]? = some x := by rfl) (hv : Vis X.env.scope x := by first | exact Or.inl rfl | exact Or.inr (Or.inl rfl) | exact Or.inr (Or.inr rfl)) (hd : (x == ("__debug__" : Str)) = false := by decide)
    (hcd : (x == ("__classdict__" : Str)) = false := by decide) : PE X (.Name x pos) (tE C (eVar i)) := PEimp (pe_var hN hv hd hcd) fun σ H Q ⟨g, rh, st, S, w⟩ => by
  unfold eVar at w
  split at w
  · rename_i d hi
    obtain ⟨v, h1, h2⟩ := S.rel.rep i _ hi
    exact ⟨v, h1, w g H v (Grow.refl S.ok.z) S.ok h2⟩
  · exact w.elim
theorem fp_var (i : Nat) {x : Str} (hN : X.N[i]? = some x := by rfl) (hv : Vis X.env.scope x := by first | exact Or.inl rfl | exact Or.inr (Or.inl rfl) | exact Or.inr (Or.inr rfl)) (hd : (x == ("__debug__" : Str)) = false := by decide)
    (hcd : (x == ("__classdict__" : Str)) = false := by decide) : PE X (.Name x pos) (tP C (ePeek i)) := PEimp (pe_var hN hv hd hcd) fun σ H Q ⟨g, rh, st, S, w⟩ => by
  unfold ePeek at w
  split at w
  · rename_i d hi
    obtain ⟨v, h1, h2⟩ := S.rel.rep i _ hi
    exact ⟨v, h1, w g H v (Grow.refl S.ok.z) S.ok (.inl h2)⟩
  · rename_i ds hi
    obtain ⟨v, h1, a, vs, e, ha, r, o⟩ := S.rel.rep i _ hi
    exact ⟨v, h1, w g H v (Grow.refl S.ok.z) S.ok (.inr ⟨ds, a, vs, rfl, e, ha, r, o.2.1⟩)⟩
  · exact w.elim
theorem fe_c {d : D} {v : V} (h : PE X e (tC v)) (r : ∀ g H, Rep g H d v) : PE X e (tE C (eC d)) := PEimp h fun σ H Q ⟨g, rh, st, S, w⟩ => w g H v (Grow.refl S.ok.z) S.ok (r g H)
theorem fe_int {i : Int} {j : Nat} : PE X (.Constant (.int i) j pos) (tE C (eC (.int i))) := fe_c pe_int fun _ _ => .int i
theorem fe_bl {i : Bool} {j : Nat} : PE X (.Constant (.bool i) j pos) (tE C (eC (.bool i))) := fe_c pe_bl fun _ _ => .bl i
theorem fe_non {j : Nat} : PE X (.Constant .none j pos) (tE C (eC .none)) := fe_c pe_non fun _ _ => .non
theorem fe_str {x : Str} {j : Nat} : PE X (.Constant (.str x) j pos) (tE C (eC (.str x))) := fe_c pe_str fun _ _ => .str x
/-- a constant of the module -/
theorem fe_gstr {x : Str} {s : Str} (hg : Gl X x) (hm : ∃ t, X.mg x = some (.str s t)) (hd : (x == ("__debug__" : Str)) = false := by decide) : PE X (.Name x pos) (tE C (eC (.str s))) := by
  obtain ⟨t, hm⟩ := hm
  exact fe_c (pe_glob (v := .str s) hg hm ⟨t, rfl⟩ hd) fun _ _ => .str s
theorem fe_gint {x : Str} {s : Int} (hg : Gl X x) (hm : ∃ t, X.mg x = some (.int s t)) (hd : (x == ("__debug__" : Str)) = false := by decide) : PE X (.Name x pos) (tE C (eC (.int s))) := by
  obtain ⟨t, hm⟩ := hm
  exact fe_c (pe_glob (v := .int s) hg hm ⟨t, rfl⟩ hd) fun _ _ => .int s

/-! ### operators -/
def Sem2 (r : R2) (u : D → D → Option D) : Prop := ∀ g H st a b x y d (Q : VK), Lens H → StOk g H st → Rep1 g H a x → Rep1 g H b y → u a b = some d → (∀ g' H' v, Grow g H g' H' → StOk g' H' st → Rep g' H' d v → Q v H') → r x y H Q
def Sem2B (r : R2) (u : D → D → Option Bool) : Prop := ∀ g H st a b x y d (Q : VK), Lens H → StOk g H st → Rep1 g H a x → Rep1 g H b y → u a b = some d → Q (.bl d) H → r x y H Q
def Sem1 (r : V → Hp → VK → Prop) (u : D → Option D) : Prop := ∀ g H st a x d (Q : VK), Lens H → StOk g H st → Rep1 g H a x → u a = some d → (∀ g' H' v, Grow g H g' H' → StOk g' H' st → Rep g' H' d v → Q v H') → r x H Q
def SemN (r : List V → Hp → VK → Prop) (u : List D → Option D) : Prop := ∀ g H st as xs d (Q : VK), Lens H → StOk g H st → Reps1 g H as xs → u as = some d → (∀ g' H' v, Grow g H g' H' → StOk g' H' st → Rep g' H' d v → Q v H') → r xs H Q
/-- .. that makes a new list -/
def SemNL (r : List V → Hp → VK → Prop) (u : List D → Option (List D)) : Prop := ∀ g H st as xs ds (Q : VK), Lens H → StOk g H st → Reps1 g H as xs → u as = some ds → (∀ g' H' a vs, Grow g H g' H' → StOk g' H' st → H a = none → ¬ g'.Z a → a ∉ g'.as → H' a = some (.lst vs) → Reps g' H' ds vs → Q (.ref a) H') → r xs H Q
def eBin (u : D → D → Option D) (fa fb : Ex D) : Ex D := fun rh st => (fa rh st).bind fun a st => (fb rh st).bind fun b st => ofO (u a b) st
def eCmp (u : D → D → Option Bool) (fa fb : Ex D) : Ex D := fun rh st => (fa rh st).bind fun a st => (fb rh st).bind fun b st => ofO ((u a b).map PyData.bool) st
def tCmpB (u : D → D → Option Bool) (fa fb : Ex D) : Ex Bool := fun rh st => (fa rh st).bind fun a st => (fb rh st).bind fun b st => ofO (u a b) st
def eUn (u : D → Option D) (fa : Ex D) : Ex D := fun rh st => (fa rh st).bind fun a st => ofO (u a) st
def eCallB (u : List D → Option D) (fa : Ex (List D)) : Ex D := fun rh st => (fa rh st).bind fun a st => ofO (u a) st
theorem opLens {f : Value → Value → Sem Value} {r : R2} (h : OpR X f r) : OpR X f (fun x y H Q => Lens H → r x y H Q) := fun pins s σ H x y v u Q I rx ry q => h pins s σ H x y v u Q I rx ry (q (inv_lens I))
theorem unLens {f : Value → Sem Value} {r : V → Hp → VK → Prop} (h : UnR X f r) : UnR X f (fun x H Q => Lens H → r x H Q) := fun pins s σ H x v Q I rx q => h pins s σ H x v Q I rx (q (inv_lens I))
theorem ixLens {r : R2} (h : IxR X r) : IxR X (fun x y H Q => Lens H → r x y H Q) := fun value slice pins s σ H x y v u Q I rx ry q hs => h value slice pins s σ H x y v u Q I rx ry (q (inv_lens I)) hs
theorem callLens {f : Value} {r : List V → Hp → VK → Prop} (h : CallR X f r) : CallR X f (fun xs H Q => Lens H → r xs H Q) := fun pins s σ H xs us Q I rx q => h pins s σ H xs us Q I rx (q (inv_lens I))
theorem fe_bin {op : Operator} {r : R2} {u : D → D → Option D} {fa fb : Ex D} (ho : OpR X (binaryOp op) r) (hu : Sem2 r u) (ha : PE X a (tP C fa)) (hb : PE X b (tP C fb)) : PE X (.BinOp a op b pos) (tE C (eBin u fa fb)) :=
  PEimp (pe_op (opLens ho) ha hb) fun σ H Q h => (bind2 mono_rep1 wkG h).mono fun x H1 h1 => h1.mono fun y H2 ⟨a, b, g, rh, st, S, ra, rb, w⟩ l => by
    cases e : u a b with
    | none => rw [e] at w; exact w.elim
    | some d => rw [e] at w; exact hu g H2 st a b x y d Q l S.ok ra rb e w
theorem fe_cmp {op : CmpOp} {r : R2} {u : D → D → Option Bool} {fa fb : Ex D} (ho : OpR X (compareOp op) r) (hu : Sem2B r u) (ha : PE X a (tP C fa)) (hb : PE X b (tP C fb)) (hm : behindInMarks op b = false) : PE X (.Compare a [op] [b] pos) (tE C (eCmp u fa fb)) :=
  PEimp (pe_cmpR (opLens ho) ha hb hm) fun σ H Q h => (bind2 mono_rep1 wkG h).mono fun x H1 h1 => h1.mono fun y H2 ⟨a, b, g, rh, st, S, ra, rb, w⟩ l => by
    cases e : u a b with
    | none => rw [e] at w; exact w.elim
    | some d => rw [e] at w; exact hu g H2 st a b x y d Q l S.ok ra rb e (w g H2 _ (Grow.refl S.ok.z) S.ok (.bl d))
theorem ft_cmp {op : CmpOp} {r : R2} {u : D → D → Option Bool} {fa fb : Ex D} (ho : OpR X (compareOp op) r) (hu : Sem2B r u) (ha : PE X a (tP C fa)) (hb : PE X b (tP C fb)) (hm : behindInMarks op b = false) : PT X (.Compare a [op] [b] pos) (tT C (tCmpB u fa fb)) :=
  PTimp (pt_cmpR (opLens ho) ha hb hm) fun σ H Q h => (bind2 mono_rep1 wkG h).mono fun x H1 h1 => h1.mono fun y H2 ⟨a, b, g, rh, st, S, ra, rb, w⟩ l => by
    cases e : u a b with
    | none => rw [e] at w; exact w.elim
    | some d => rw [e] at w; exact hu g H2 st a b x y d _ l S.ok ra rb e ⟨d, rfl, w g H2 _ (Grow.refl S.ok.z) S.ok rfl⟩
theorem fe_un {op : UnaryOp} {r : V → Hp → VK → Prop} {u : D → Option D} {fa : Ex D} (ho : UnR X (unaryOp op) r) (hu : Sem1 r u) (ha : PE X a (tP C fa)) : PE X (.UnaryOp op a pos) (tE C (eUn u fa)) :=
  PEimp (pe_un (unLens ho) ha) fun σ H Q h => (bind1 wkG h).mono fun x H1 ⟨a, g, rh, st, S, ra, w⟩ l => by
    cases e : u a with
    | none => rw [e] at w; exact w.elim
    | some d => rw [e] at w; exact hu g H1 st a x d Q l S.ok ra e w
/-- a subscript by an index -/
theorem fe_ix {r : R2} {u : D → D → Option D} {fa fb : Ex D} (ho : IxR X r) (hu : Sem2 r u) (ha : PE X a (tP C fa)) (hb : PE X b (tP C fb)) (hs : PlainIx b) : PE X (.Subscript a b pos) (tE C (eBin u fa fb)) :=
  PEimp (pe_ix (ixLens ho) ha hb hs) fun σ H Q h => (bind2 mono_rep1 wkG h).mono fun x H1 h1 => h1.mono fun y H2 ⟨a, b, g, rh, st, S, ra, rb, w⟩ l => by
    cases e : u a b with
    | none => rw [e] at w; exact w.elim
    | some d => rw [e] at w; exact hu g H2 st a b x y d Q l S.ok ra rb e w

/-! ### tests -/
def tOf (f : Ex D) : Ex Bool := fun rh st => (f rh st).bind fun d st => match d with | .bool b => .ok b st | _ => .stuck
theorem ft_val {f : Ex D} (h : PE X e (tE C f)) (he : ∀ whole, isTrue e X.env whole = (do let v ← whole; standAt e.pos; holding [v] (truthy v)) := by intro _; rfl) : PT X e (tT C (tOf f)) :=
  PTimp (pt_val h he) fun σ H Q h => (bind1 wkG h).mono fun x H1 ⟨a, g, rh, st, S, ra, w⟩ => by
    cases ra with
    | bl b => exact ⟨b, rfl, w g H1 b (Grow.refl S.ok.z) S.ok rfl⟩
    | _ => exact w.elim
def tAndB (f k : Ex Bool) : Ex Bool := fun rh st => (f rh st).bind fun b st => if b = true then k rh st else .ok false st
def tOrB (f k : Ex Bool) : Ex Bool := fun rh st => (f rh st).bind fun b st => if b = true then .ok true st else k rh st
def tNotB (f : Ex Bool) : Ex Bool := fun rh st => (f rh st).bind fun b st => .ok (!b) st
variable {rest : List Expr}
theorem fw_and {f k : Ex Bool} (ha : PT X a (tT C f)) (hb : PW X (.BoolOp .And (b :: rest) pos) (tT C k)) : PW X (.BoolOp .And (a :: b :: rest) pos) (tT C (tAndB f k)) :=
  PWimp (pw_and ha hb) fun σ H Q h => (bind1 wkG h).mono fun x H1 ⟨a, g, rh, st, S, ra, w⟩ => by
    subst ra
    cases a with
    | true => exact iteT ⟨g, rh, st, S, w⟩
    | false => exact iteF (w g H1 _ (Grow.refl S.ok.z) S.ok rfl)
theorem fw_or {f k : Ex Bool} (ha : PT X a (tT C f)) (hb : PW X (.BoolOp .Or (b :: rest) pos) (tT C k)) : PW X (.BoolOp .Or (a :: b :: rest) pos) (tT C (tOrB f k)) :=
  PWimp (pw_or ha hb) fun σ H Q h => (bind1 wkG h).mono fun x H1 ⟨a, g, rh, st, S, ra, w⟩ => by
    subst ra
    cases a with
    | false => exact iteF ⟨g, rh, st, S, w⟩
    | true => exact iteT (w g H1 _ (Grow.refl S.ok.z) S.ok rfl)
theorem ft_not {f : Ex Bool} (ha : PT X a (tT C f)) : PT X (.UnaryOp .Not a pos) (tT C (tNotB f)) :=
  PTimp (pt_not ha) fun σ H Q h => (bind1 wkG h).mono fun x H1 ⟨a, g, rh, st, S, ra, w⟩ => by
    subst ra
    exact w g H1 _ (Grow.refl S.ok.z) S.ok rfl
/-- as values -/
def eAndV (f : Ex D) (k : Ex D) : Ex D := fun rh st => (tOf f rh st).bind fun b st => if b = true then k rh st else .ok (.bool false) st
def eOrV (f : Ex D) (k : Ex D) : Ex D := fun rh st => (tOf f rh st).bind fun b st => if b = true then .ok (.bool true) st else k rh st
def eNotV (f : Ex D) : Ex D := fun rh st => (tOf f rh st).bind fun b st => .ok (.bool (!b)) st
theorem tOf_bind {γ : Type} {W : Gh → Hp → Out γ → Prop} {f : Ex D} {k : Bool → Ex γ} {σ : L2.St} {H : Hp} (h : tW C W (fun rh st => (tOf f rh st).bind fun b st => k b rh st) σ H) :
    tW C W (fun rh st => (f rh st).bind fun d st => (fun d rh st => match d with | .bool b => k b rh st | _ => .stuck) d rh st) σ H := by
  obtain ⟨g, rh, st, S, w⟩ := h
  refine ⟨g, rh, st, S, ?_⟩
  have w : W g H ((tOf f rh st).bind fun b st => k b rh st) := w
  show W g H ((f rh st).bind fun d st => _)
  unfold tOf at w
  cases e : f rh st with
  | ok d st' =>
    rw [e] at w
    cases d <;> exact w
  | err c d st' => rw [e] at w; exact w
  | stuck => rw [e] at w; exact w
theorem fe_and {f k : Ex D} (ha : PE X a (tE C f)) (hb : PE X (.BoolOp .And (b :: rest) pos) (tE C k)) : PE X (.BoolOp .And (a :: b :: rest) pos) (tE C (eAndV f k)) :=
  PEimp (pe_and ha hb) fun σ H Q h => (bind1 wkG (tOf_bind h)).mono fun x H1 ⟨a, g, rh, st, S, ra, w⟩ => by
    cases ra with
    | bl b =>
      refine ⟨b, rfl, ?_⟩
      cases b with
      | true => exact iteT ⟨g, rh, st, S, w⟩
      | false => exact iteF (w g H1 _ (Grow.refl S.ok.z) S.ok (.bl false))
    | _ => exact w.elim
theorem fe_or {f k : Ex D} (ha : PE X a (tE C f)) (hb : PE X (.BoolOp .Or (b :: rest) pos) (tE C k)) : PE X (.BoolOp .Or (a :: b :: rest) pos) (tE C (eOrV f k)) :=
  PEimp (pe_or ha hb) fun σ H Q h => (bind1 wkG (tOf_bind h)).mono fun x H1 ⟨a, g, rh, st, S, ra, w⟩ => by
    cases ra with
    | bl b =>
      refine ⟨b, rfl, ?_⟩
      cases b with
      | false => exact iteF ⟨g, rh, st, S, w⟩
      | true => exact iteT (w g H1 _ (Grow.refl S.ok.z) S.ok (.bl true))
    | _ => exact w.elim
theorem fe_not {f : Ex D} (ha : PE X a (tE C f)) : PE X (.UnaryOp .Not a pos) (tE C (eNotV f)) :=
  PEimp (pe_not ha) fun σ H Q h => (bind1 wkG (tOf_bind h)).mono fun x H1 ⟨a, g, rh, st, S, ra, w⟩ => by
    cases ra with
    | bl b => exact ⟨b, rfl, w g H1 _ (Grow.refl S.ok.z) S.ok (.bl _)⟩
    | _ => exact w.elim
def eIf (t : Ex Bool) (f k : Ex D) : Ex D := fun rh st => (t rh st).bind fun b st => if b = true then f rh st else k rh st
theorem fe_if {t : Ex Bool} {f k : Ex D} (hc : PT X c (tT C t)) (ha : PE X a (tE C f)) (hb : PE X b (tE C k)) : PE X (.IfExp c a b pos) (tE C (eIf t f k)) :=
  PEimp (pe_ifExp hc ha hb) fun σ H Q h => (bind1 wkG h).mono fun x H1 ⟨a, g, rh, st, S, ra, w⟩ => by
    subst ra
    cases a with
    | true => exact iteT ⟨g, rh, st, S, w⟩
    | false => exact iteF ⟨g, rh, st, S, w⟩
/-- a op b op' c -/
def eChain (u u' : D → D → Option Bool) (fa fb fc : Ex D) : Ex Bool := fun rh st => (fa rh st).bind fun a st => (fb rh st).bind fun b st => (ofO (u a b) st).bind fun k st => if k = true then (fc rh st).bind fun c st => ofO (u' b c) st else .ok false st
def eB (f : Ex Bool) : Ex D := fun rh st => (f rh st).bind fun b st => .ok (.bool b) st
theorem chain_core {op op' : CmpOp} {r r' : R2} {u u' : D → D → Option Bool} {fa fb fc : Ex D} (hu : Sem2B r u) (hu' : Sem2B r' u') {σ : L2.St} {H : Hp} {Q : Bool → Hp → Prop} {Q' : VK}
    (hq : ∀ b H, Q b H → Q' (.bl b) H) (h : tG C (fun _ _ b c => b = c) (eChain u u' fa fb fc) σ H Q) :
    tChain (fun x y H Q => Lens H → r x y H Q) (fun x y H Q => Lens H → r' x y H Q) (tP C fa) (tP C fb) (tP C fc) σ H Q' :=
  (bind2 mono_rep1 wkG h).mono fun x H1 h1 => h1.mono fun y H2 ⟨a, b, g, rh, st, S, ra, rb, w⟩ l => by
    cases e : u a b with
    | none => rw [e] at w; exact w.elim
    | some d =>
      rw [e] at w
      refine hu g H2 st a b x y d _ l S.ok ra rb e ⟨d, rfl, ?_⟩
      cases d with
      | false => exact iteF (hq _ _ (w g H2 _ (Grow.refl S.ok.z) S.ok rfl))
      | true =>
        refine iteT ?_
        have w2 : wpG C (fun _ _ (b : Bool) c => b = c) Q g H2 ((fc rh st).bind fun c st => ofO (u' b c) st) := w
        refine (show tG C Rep1 fc σ H2 _ from ⟨g, rh, st, S, ?_⟩)
        cases e3 : fc rh st with
        | ok c st3 =>
          rw [e3] at w2
          intro g3 H3 z G3 k3 r3 l3
          have w2 : wpG C (fun _ _ (b : Bool) c => b = c) Q g H2 (ofO (u' b c) st3) := w2
          cases e4 : u' b c with
          | none => rw [e4] at w2; exact w2.elim
          | some d2 =>
            rw [e4] at w2
            exact hu' g3 H3 st3 b c y z d2 _ l3 k3 (mono_rep1 _ _ _ _ _ _ S.ok.z G3 rb) r3 e4 (hq _ _ (w2 g3 H3 _ G3 k3 rfl))
        | err c d st3 => rw [e3] at w2; exact w2
        | stuck => rw [e3] at w2; exact w2
theorem ft_chain {op op' : CmpOp} {r r' : R2} {u u' : D → D → Option Bool} {fa fb fc : Ex D} (ho : OpR X (compareOp op) r) (ho' : OpR X (compareOp op') r') (hu : Sem2B r u) (hu' : Sem2B r' u') (ha : PE X a (tP C fa)) (hb : PE X b (tP C fb)) (hc : PE X c (tP C fc))
    (hm : lastMarks [op, op'] [b, c] = false := by with_unfolding_all rfl) : PT X (.Compare a [op, op'] [b, c] pos) (tT C (eChain u u' fa fb fc)) :=
  PTimp (pt_chain (opLens ho) (opLens ho') ha hb hc hm) fun σ H Q h => chain_core (op := op) (op' := op') hu hu' (fun b H q => ⟨b, rfl, q⟩) h
theorem fe_chain {op op' : CmpOp} {r r' : R2} {u u' : D → D → Option Bool} {fa fb fc : Ex D} (ho : OpR X (compareOp op) r) (ho' : OpR X (compareOp op') r') (hu : Sem2B r u) (hu' : Sem2B r' u') (ha : PE X a (tP C fa)) (hb : PE X b (tP C fb)) (hc : PE X c (tP C fc))
    (hm : lastMarks [op, op'] [b, c] = false := by with_unfolding_all rfl) : PE X (.Compare a [op, op'] [b, c] pos) (tE C (eB (eChain u u' fa fb fc))) :=
  PEimp (pe_chain (opLens ho) (opLens ho') ha hb hc hm) fun σ H Q h => chain_core (op := op) (op' := op') hu hu' (fun b H q => q) (by
    obtain ⟨g, rh, st, S, w⟩ := h
    refine ⟨g, rh, st, S, ?_⟩
    have w : wpG C Rep Q g H ((eChain u u' fa fb fc rh st).bind fun b st => .ok (.bool b) st) := w
    cases e : eChain u u' fa fb fc rh st with
    | ok b st' => rw [e] at w; intro g' H' c G k r; subst r; exact w g' H' _ G k (.bl b)
    | err c d st' => rw [e] at w; exact w
    | stuck => rw [e] at w; exact w)

/-! ### argument lists -/
def aNil : Ex (List D) := fun _ st => .ok [] st
def aCons (f : Ex D) (k : Ex (List D)) : Ex (List D) := fun rh st => (f rh st).bind fun d st => (k rh st).bind fun ds st => .ok (d :: ds) st
theorem fa_nil : PA X [] (tA C aNil) := PAimp pa_nil fun σ H Q ⟨g, rh, st, S, w⟩ => w g H [] (Grow.refl S.ok.z) S.ok .nil
theorem fa_cons {es : List Expr} {f : Ex D} {k : Ex (List D)} (ha : PE X e (tE C f)) (hr : PA X es (tA C k)) (hs : starEach (e :: es) X.env = (false, eval e X.env) :: starEach es X.env := by exact starC rfl) : PA X (e :: es) (tA C (aCons f k)) :=
  PAimp (pa_cons ha hr hs) fun σ H Q h => (bind2 mono_rep wkG h).mono fun x H1 h1 => h1.mono fun y H2 ⟨a, b, g, rh, st, S, ra, rb, w⟩ => w g H2 _ (Grow.refl S.ok.z) S.ok (.cons ra rb)
theorem fp_nil : PA X [] (tA1 C aNil) := PAimp pa_nil fun σ H Q ⟨g, rh, st, S, w⟩ => w g H [] (Grow.refl S.ok.z) S.ok .nil
theorem fp_cons {es : List Expr} {f : Ex D} {k : Ex (List D)} (ha : PE X e (tP C f)) (hr : PA X es (tA1 C k)) (hs : starEach (e :: es) X.env = (false, eval e X.env) :: starEach es X.env := by exact starC rfl) : PA X (e :: es) (tA1 C (aCons f k)) :=
  PAimp (pa_cons ha hr hs) fun σ H Q h => (bind2 mono_rep1 wkG h).mono fun x H1 h1 => h1.mono fun y H2 ⟨a, b, g, rh, st, S, ra, rb, w⟩ => w g H2 _ (Grow.refl S.ok.z) S.ok (.cons ra rb)
/-! ### displays -/
def eTup (f : Ex (List D)) : Ex D := fun rh st => (f rh st).bind fun ds st => if ds.length ≤ 16777216 then .ok (.tuple ds) st else .stuck
def eLst (f : Ex (List D)) : Ex (List D) := fun rh st => (f rh st).bind fun ds st => if ds.length ≤ 16777216 then .ok ds st else .stuck
theorem fe_tup {es : List Expr} {k : Nat} {f : Ex (List D)} (h : PA X es (tA C f)) : PE X (.Tuple es k pos) (tE C (eTup f)) :=
  PEimp (pe_tup h) fun σ H Q h => (bind1 wkG h).mono fun xs H1 ⟨ds, g, rh, st, S, ra, w⟩ => by
    by_cases hl : ds.length ≤ 16777216
    · simp only [if_pos hl] at w
      refine ⟨by rw [← ra.length, sizeLine_eq]; exact hl, fun p hp => ?_⟩
      have na := nas_new S.ok.z hp
      exact w (g.add p) _ _ (Grow.add S.ok.z hp ⟨_, upd_same⟩ (Grow.new S.ok.z hp)) (S.ok.new hp |>.add ⟨_, upd_same⟩ na) (.tup (.inr rfl) upd_same (ra.grow S.ok.z (Grow.new S.ok.z hp) |>.add))
    · simp only [if_neg hl] at w; exact w.elim
theorem fn_lst {es : List Expr} {f : Ex (List D)} (h : PA X es (tA C f)) : PE X (.List es pos) (tN C (eLst f)) :=
  PEimp (pe_lst h) fun σ H Q h => by
    refine (bind1 (W := fun g H o => match o with
      | .ok ds st' => ∀ g' H' a vs, Grow g H g' H' → StOk g' H' st' → H a = none → ¬ g'.Z a → a ∉ g'.as → H' a = some (.lst vs) → Reps g' H' ds vs → Q (.ref a) H'
      | .err c d st' => XW C c d st'
      | .stuck => False) ⟨fun _ _ _ _ _ h => h, fun _ _ h => h, fun g H g' H' o G h => ?_⟩ h).mono fun xs H1 ⟨ds, g, rh, st, S, ra, w⟩ => ?_
    · cases o with
      | ok a st => exact fun g2 H2 p vs G2 k hp => h g2 H2 p vs (G.trans G2) k (G.back hp)
      | err c d st => exact h
      | stuck => exact h
    · by_cases hl : ds.length ≤ 16777216
      · simp only [if_pos hl] at w
        refine ⟨by rw [← ra.length, sizeLine_eq]; exact hl, fun p hp => ?_⟩
        have na := nas_new S.ok.z hp
        exact w g _ p xs (Grow.new S.ok.z hp) (S.ok.new hp) hp (fun z => by obtain ⟨o, e⟩ := S.ok.z.ex z; rw [hp] at e; cases e) na upd_same (ra.grow S.ok.z (Grow.new S.ok.z hp))
      · simp only [if_neg hl] at w
end
end FL

/-! FLc -/
set_option Elab.async false
set_option linter.all false
set_option maxRecDepth 100000
set_option maxHeartbeats 4000000
/-! FLc: statements, loops, defs and their calls. -/
namespace FL
open PySem PySem.Spec PyProof.Rows L2

inductive Fl where
  | nx (r : Rho) | rt (d : D) | ro (ds : List D) | bk (r : Rho) | ct (r : Rho)
def wpS (C : Ct) (De : Ends) (o : Out Fl) : Prop :=
  match o with
  | .ok (.nx r) st => ∀ g H σ, Sta C g r st σ H → De.nx σ H
  | .ok (.rt d) st => ∀ g H v, Grow C.g0 C.H0 g H → StOk g H st → Rep g H d v → De.rt v H
  | .ok (.ro ds) st => ∀ g H a vs, Grow C.g0 C.H0 g H → StOk g H st → H a = some (.lst vs) → Reps g H ds vs → Own C.H0 g a → De.rt (.ref a) H
  | .ok (.bk r) st => ∀ g H σ, Sta C g r st σ H → De.bk σ H
  | .ok (.ct r) st => ∀ g H σ, Sta C g r st σ H → De.ct σ H
  | .err c d st => XW C c d st
  | .stuck => False
theorem wkS {C : Ct} {De : Ends} : Wk C (fun _ _ o => wpS C De o) := ⟨fun _ _ _ _ _ h => h, fun _ _ h => h, fun _ _ _ _ _ _ h => h⟩
def tS (C : Ct) (s : Ex Fl) : TS := fun De σ H => tW C (fun _ _ o => wpS C De o) s σ H
/-- the context's side of a body -/
def May (o : Option (List Nat)) (i : Nat) : Prop := match o with | none => True | some l => i ∈ l
structure XOkB (X : Cx) (CA : Nat → Addr) (o : Option (List Nat)) (C : Ct) : Prop where
  ca : C.CA = CA
  nd : X.N.Nodup
  hu : X.A.units + 65 < cLine
  nb : ∀ i x σ, May o i → C.B σ → C.B (σ.set i x)
  all : o = none → ∀ σ, C.B σ
structure XOkW (X : Cx) (CA : Nat → Addr) (o : Option (List Nat)) (C : Ct) : Prop extends XOkB X CA o C where
  calm : X.calm = true
  po : PassesOwn (model X.prog X.w) X.A X.env X.xe
  tk : Takes X (fun cls d σ H => C.E cls d H ∧ C.B σ)
  xn : C.xn = none
theorem XOkW.b {X : Cx} {CA : Nat → Addr} {o : Option (List Nat)} {C : Ct} (h : XOkW X CA o C) : XOkB X CA o C := h.toXOkB
abbrev XOk (X : Cx) (CA : Nat → Addr) (C : Ct) : Prop := XOkW X CA none C
theorem XOkW.pin {X : Cx} {CA : Nat → Addr} {C : Ct} {o : Option (List Nat)} (h : XOkW X CA o C) (ps : List (D × V)) : XOkW X CA o (C.pin ps) := ⟨⟨h.ca, h.nd, h.hu, h.nb, h.all⟩, h.calm, h.po, h.tk, h.xn⟩

section
variable {X : Cx} {CA : Nat → Addr} {C : Ct} {o : Option (List Nat)} {e a b c : Expr} {pos : Pos}
/-! ### blocks -/
def sNil : Ex Fl := fun rh st => .ok (.nx rh) st
def thenF (k : Ex Fl) (f : Fl) (st : List RV) : Out Fl := match f with | .nx r => k r st | f => .ok f st
def sSeq (s k : Ex Fl) : Ex Fl := fun rh st => (s rh st).bind (thenF k)
theorem fs_nil : PSs X [] (tS C sNil) := PSsimp pss_nil fun De σ H ⟨g, rh, st, S, w⟩ => w g H σ S
theorem seq_core {s k : Ex Fl} {De : Ends} {σ : L2.St} {H : Hp} (h : tS C (sSeq s k) De σ H) : tS C s { De with nx := tS C k De } σ H := by
  obtain ⟨g, rh, st, S, w⟩ := h
  refine ⟨g, rh, st, S, ?_⟩
  have w : wpS C De ((s rh st).bind (thenF k)) := w
  cases q : s rh st with
  | ok f st' =>
    rw [q] at w
    cases f with
    | nx r => exact fun g' H' σ' S' => ⟨g', r, st', S', w⟩
    | rt d => exact w
    | ro d => exact w
    | bk r => exact w
    | ct r => exact w
  | err c d st' => rw [q] at w; exact w
  | stuck => rw [q] at w; exact w
theorem fs_cons {st : Stmt} {rest : List Stmt} {s k : Ex Fl} (h1 : PS X st (tS C s)) (h2 : PSs X rest (tS C k)) : PSs X (st :: rest) (tS C (sSeq s k)) := PSsimp (pss_cons h1 h2) fun De σ H h => seq_core h
theorem fs_one {st : Stmt} {s : Ex Fl} (h : PS X st (tS C s)) : PSs X [st] (tS C s) := pss_one h
/-- a silent step ahead of a block -/
def sFrz (i : Nat) : Ex Fl := fun rh st => match rh[i]? with
  | some (some (.own ds)) => .ok (.nx (rh.set i (some (.val (.list ds))))) st
  | _ => .stuck
def sWipe (ws : List Nat) : Ex Fl := fun rh st => .ok (.nx (wipeR ws rh)) st
theorem fs_frz (i : Nat) {sts : List Stmt} {k : Ex Fl} (h : PSs X sts (tS C k)) : PSs X sts (tS C (sSeq (sFrz i) k)) := PSsimp h fun De σ H h => by
  obtain ⟨g, rh, st, S, w⟩ := h
  have w : wpS C De ((sFrz i rh st).bind (thenF k)) := w
  unfold sFrz at w
  split at w
  · rename_i ds q
    obtain ⟨g', S'⟩ := S.freeze q
    exact ⟨g', _, st, S', w⟩
  · exact w.elim
theorem fs_wipe (ws : List Nat) {sts : List Stmt} {k : Ex Fl} (h : PSs X sts (tS C k)) : PSs X sts (tS C (sSeq (sWipe ws) k)) := PSsimp h fun De σ H ⟨g, rh, st, S, w⟩ => ⟨g, _, st, S.wipe ws, w⟩
theorem fs_pass : PS X (.Pass pos) (tS C sNil) := PSimp ps_pass fun De σ H ⟨g, rh, st, S, w⟩ => w g H σ S
def sBrk : Ex Fl := fun rh st => .ok (.bk rh) st
def sCnt : Ex Fl := fun rh st => .ok (.ct rh) st
theorem fs_break : PS X (.Break pos) (tS C sBrk) := PSimp ps_break fun De σ H ⟨g, rh, st, S, w⟩ => w g H σ S
theorem fs_continue : PS X (.Continue pos) (tS C sCnt) := PSimp ps_continue fun De σ H ⟨g, rh, st, S, w⟩ => w g H σ S

/-! ### small statements -/
def sSet (i : Nat) (f : Ex D) : Ex Fl := fun rh st => (f rh st).bind fun d st => .ok (.nx (rh.set i (some (.val d)))) st
def sOwn (i : Nat) (f : Ex (List D)) : Ex Fl := fun rh st => (f rh st).bind fun ds st => .ok (.nx (rh.set i (some (.own ds)))) st
def sRet (f : Ex D) : Ex Fl := fun rh st => (f rh st).bind fun d st => .ok (.rt d) st
def sRetN : Ex Fl := fun _ st => .ok (.rt .none) st
def sDrop (f : Ex D) : Ex Fl := fun rh st => (f rh st).bind fun _ st => .ok (.nx rh) st
def sIf (t : Ex Bool) (s k : Ex Fl) : Ex Fl := fun rh st => (t rh st).bind fun b st => if b = true then s rh st else k rh st
theorem fs_set (i : Nat) {x : Str} {f : Ex D} {pos' : Pos} (hX : XOkB X CA o C) (he : PE X e (tE C f)) (hi : X.N[i]? = some x := by rfl) (hx : Loc X.env.scope x := by first | exact Or.inl rfl | exact Or.inr rfl) (hs : swapsWith e (some (.Name x pos')) pos.line X.env = pure false := by rfl)
    (hf : X.fn x = true ∨ X.env.scope.names.lookup x = some .local := by first | exact .inl rfl | exact .inr rfl | assumption) (hw : May o i := by first | exact trivial | (show (_ : Nat) ∈ (_ : List Nat); decide)) : PS X (.Assign [.Name x pos'] e pos) (tS C (sSet i f)) :=
  PSimp (ps_set hX.nd hi hx he hs hf) fun De σ H h => (bind1 wkS h).mono fun v H1 ⟨d, g, rh, st, S, r, w⟩ => w g H1 _ (S.setv i r (hX.nb _ _ _ hw S.b))
theorem fs_own (i : Nat) {x : Str} {f : Ex (List D)} {pos' : Pos} (hX : XOkB X CA o C) (he : PE X e (tN C f)) (hi : X.N[i]? = some x := by rfl) (hx : Loc X.env.scope x := by first | exact Or.inl rfl | exact Or.inr rfl) (hs : swapsWith e (some (.Name x pos')) pos.line X.env = pure false := by rfl)
    (hf : X.fn x = true ∨ X.env.scope.names.lookup x = some .local := by first | exact .inl rfl | exact .inr rfl | assumption) (hw : May o i := by first | exact trivial | (show (_ : Nat) ∈ (_ : List Nat); decide)) : PS X (.Assign [.Name x pos'] e pos) (tS C (sOwn i f)) :=
  PSimp (ps_set hX.nd hi hx he hs hf) fun De σ H h => by
    obtain ⟨g, rh, st, S, w⟩ := h
    refine ⟨g, rh, st, S, ?_⟩
    have w : wpS C De ((f rh st).bind fun ds st => .ok (.nx (rh.set i (some (.own ds)))) st) := w
    cases q : f rh st with
    | ok ds st' =>
      rw [q] at w
      intro g' H' p vs G k hp nz na hv r
      have S' := S.grow G k
      refine w g' H' _ (S'.seto i ⟨p, vs, rfl, hv, r, nz, na, S.gr.back hp⟩ (fun j t _ e o h => ?_) (hX.nb _ _ _ hw S.b))
      exact S.noOwn hp j t e o h
    | err c d st' => rw [q] at w; exact w
    | stuck => rw [q] at w; exact w
theorem fs_ret {f : Ex D} (he : PE X e (tE C f)) : PS X (.Return (some e) pos) (tS C (sRet f)) :=
  PSimp (ps_ret he) fun De σ H h => (bind1 wkS h).mono fun v H1 ⟨d, g, rh, st, S, r, w⟩ => w g H1 v S.gr S.ok r
/-- return x, x a list of one's own; return of a new list -/
def sRetO (i : Nat) : Ex Fl := fun rh st => match rh[i]? with
  | some (some (.own ds)) => .ok (.ro ds) st
  | some (some (.val d)) => .ok (.rt d) st
  | _ => .stuck
def sRetW (f : Ex (List D)) : Ex Fl := fun rh st => (f rh st).bind fun ds st => .ok (.ro ds) st
theorem fs_retO (i : Nat) {x : Str} (hN : X.N[i]? = some x := by rfl) (hv : Vis X.env.scope x := by first | exact Or.inl rfl | exact Or.inr (Or.inl rfl) | exact Or.inr (Or.inr rfl)) (hd : (x == ("__debug__" : Str)) = false := by decide)
    (hcd : (x == ("__classdict__" : Str)) = false := by decide) {p : Pos} : PS X (.Return (some (.Name x p)) pos) (tS C (sRetO i)) :=
  PSimp (ps_ret (pe_var hN hv hd hcd)) fun De σ H ⟨g, rh, st, S, w⟩ => by
    have w : wpS C De (sRetO i rh st) := w
    unfold sRetO at w
    split at w
    · rename_i ds hi
      obtain ⟨v, h1, a, vs, rfl, ha, r, o⟩ := S.rel.rep i _ hi
      exact ⟨_, h1, w g H a vs S.gr S.ok ha r o⟩
    · rename_i d hi
      obtain ⟨v, h1, h2⟩ := S.rel.rep i _ hi
      exact ⟨v, h1, w g H v S.gr S.ok h2⟩
    · exact w.elim
theorem fs_retW {f : Ex (List D)} (he : PE X e (tN C f)) : PS X (.Return (some e) pos) (tS C (sRetW f)) :=
  PSimp (ps_ret he) fun De σ H h => by
    obtain ⟨g, rh, st, S, w⟩ := h
    refine ⟨g, rh, st, S, ?_⟩
    have w : wpS C De ((f rh st).bind fun ds st => .ok (.ro ds) st) := w
    cases q : f rh st with
    | ok ds st' =>
      rw [q] at w
      intro g' H' p vs G k hp nz na hv r
      exact w g' H' p vs (S.gr.trans G) k hv r ⟨nz, na, S.gr.back hp⟩
    | err c d st' => rw [q] at w; exact w
    | stuck => rw [q] at w; exact w
theorem fs_retN : PS X (.Return none pos) (tS C sRetN) := PSimp ps_retN fun De σ H ⟨g, rh, st, S, w⟩ => w g H .non S.gr S.ok .non
theorem fs_expr {f : Ex D} (he : PE X e (tE C f)) (hs : swapsWith e none pos.line X.env = pure false := by rfl) : PS X (.Expr e pos) (tS C (sDrop f)) :=
  PSimp (ps_expr he hs) fun De σ H h => (bind1 wkS h).mono fun v H1 ⟨d, g, rh, st, S, r, w⟩ => w g H1 σ S
theorem fs_if {t : Ex Bool} {sa sb : List Stmt} {s k : Ex Fl} (hc : PT X c (tT C t)) (ha : PSs X sa (tS C s)) (hb : PSs X sb (tS C k)) : PS X (.If c sa sb pos) (tS C (sIf t s k)) :=
  PSimp (ps_if hc ha hb) fun De σ H h => (bind1 wkS h).mono fun b H1 ⟨d, g, rh, st, S, r, w⟩ => by
    subst r
    cases d with
    | true => exact iteT ⟨g, rh, st, S, w⟩
    | false => exact iteF ⟨g, rh, st, S, w⟩
/-- x op= e -/
def sAug (i : Nat) (u : D → D → Option D) (f : Ex D) : Ex Fl := fun rh st => match rh[i]? with
  | some (some (.val x)) => (f rh st).bind fun y st => match u x y with | some d => .ok (.nx (rh.set i (some (.val d)))) st | none => .stuck
  | _ => .stuck
theorem fs_aug (i : Nat) {x : Str} {op : Operator} {r : R2} {u : D → D → Option D} {f : Ex D} {pos' : Pos} (hX : XOkB X CA o C) (ho : OpR X (inplaceOp op) r) (hu : Sem2 r u) (he : PE X e (tE C f)) (hi : X.N[i]? = some x := by rfl) (hx : Loc X.env.scope x := by first | exact Or.inl rfl | exact Or.inr rfl)
    (hf : X.fn x = true ∨ X.env.scope.names.lookup x = some .local := by first | exact .inl rfl | exact .inr rfl | assumption) (hw : May o i := by first | exact trivial | (show (_ : Nat) ∈ (_ : List Nat); decide)) : PS X (.AugAssign (.Name x pos') op e pos) (tS C (sAug i u f)) :=
  PSimp (ps_aug (ti := fun x y H Q => Lens H → r x y H Q) hX.nd hi hx he (fun pins s σ H x y v u Q I rx ry q => opLens ho pins s σ H x y v u Q I rx ry q) hf) fun De σ H h => by
    obtain ⟨g, rh, st, S, w⟩ := h
    have w : wpS C De (sAug i u f rh st) := w
    unfold sAug at w
    split at w
    · rename_i d hd
      obtain ⟨v, h1, h2⟩ := S.rel.rep i _ hd
      refine ⟨v, h1, g, rh, st, S, ?_⟩
      cases q : f rh st with
      | ok y st' =>
        rw [q] at w
        intro g' H' yv G k ry l
        have w : wpS C De (match u d y with | some d => .ok (.nx (rh.set i (some (.val d)))) st' | none => .stuck) := w
        cases q2 : u d y with
        | none => rw [q2] at w; exact w.elim
        | some z =>
          rw [q2] at w
          refine hu g' H' st' d y v yv z _ l k (.inl (Rep.grow S.ok.z G h2)) (.inl ry) q2 fun g2 H2 zv G2 k2 rz => w g2 H2 _ (((S.grow G k).grow G2 k2).setv i rz (hX.nb _ _ _ hw S.b))
      | err c d st' => rw [q] at w; exact w
      | stuck => rw [q] at w; exact w
    · exact w.elim

/-! ### targets -/
inductive Tg where
  | nm (i : Nat) | tu (ts : List Tg)
mutual
def Tg.bind : Tg → D → Rho → Option Rho
  | .nm i, d, r => some (r.set i (some (.val d)))
  | .tu ts, .tuple ds, r => Tg.bindAll ts ds r
  | .tu _, _, _ => none
def Tg.bindAll : List Tg → List D → Rho → Option Rho
  | [], [], r => some r
  | t :: ts, d :: ds, r => match Tg.bind t d r with | some r' => Tg.bindAll ts ds r' | none => none
  | _, _, _ => none
end
theorem Tg.bindAll_len : ∀ (bs : List Tg) (ds : List D) (r r' : Rho), Tg.bindAll bs ds r = some r' → bs.length = ds.length
  | [], [], _, _, _ => rfl
  | [], _ :: _, _, _, q => by unfold Tg.bindAll at q; cases q
  | _ :: _, [], _, _, q => by unfold Tg.bindAll at q; cases q
  | b :: bs, d :: ds, r, r', q => by
    unfold Tg.bindAll at q
    split at q
    · rw [List.length_cons, List.length_cons, Tg.bindAll_len bs ds _ _ q]
    · cases q
mutual
def Tg.slots : Tg → List Nat
  | .nm i => [i]
  | .tu ts => Tg.slotsAll ts
def Tg.slotsAll : List Tg → List Nat
  | [] => []
  | t :: ts => Tg.slots t ++ Tg.slotsAll ts
end
/-- the same but at these slots -/
def But (ws : List Nat) (σ σ' : L2.St) : Prop := σ'.length = σ.length ∧ ∀ j : Nat, j ∉ ws → σ'[j]? = σ[j]?
theorem But.refl {ws : List Nat} {σ : L2.St} : But ws σ σ := ⟨rfl, fun _ _ => rfl⟩
theorem But.trans {ws vs : List Nat} {σ σ1 σ2 : L2.St} (a : But ws σ σ1) (b : But vs σ1 σ2) : But (ws ++ vs) σ σ2 := ⟨b.1.trans a.1, fun j h => (b.2 j fun q => h (List.mem_append_right _ q)).trans (a.2 j fun q => h (List.mem_append_left _ q))⟩
def Gok (t : TG) (b : D → Rho → Option Rho) (ws : List Nat) : Prop := ∀ C g rh st σ H d v rh' (Q : L2.St → Hp → Prop), (∀ σ, C.B σ) → Sta C g rh st σ H → Rep g H d v → b d rh = some rh' → (∀ σ', Sta C g rh' st σ' H → But ws σ σ' → Q σ' H) → t v σ H Q
def Gsok (t : TGs) (b : List D → Rho → Option Rho) (ws : List Nat) : Prop := ∀ C g rh st σ H d v rh' (Q : L2.St → Hp → Prop), (∀ σ, C.B σ) → Sta C g rh st σ H → Reps g H d v → b d rh = some rh' → (∀ σ', Sta C g rh' st σ' H → But ws σ σ' → Q σ' H) → t v σ H Q
mutual
def gT (K : PySem.W.Frag) : Tg → TG
  | .nm i => gName i
  | .tu ts => gTup K ts.length (gTs K ts)
def gTs (K : PySem.W.Frag) : List Tg → TGs
  | [] => gNil
  | t :: ts => gCons (gT K t) (gTs K ts)
end
mutual
theorem gok (K : PySem.W.Frag) : ∀ b : Tg, Gok (gT K b) (Tg.bind b) b.slots
  | .nm i => fun C g rh st σ H d v rh' Q hB S r e q => by
    unfold Tg.bind at e
    cases e
    exact q _ (S.setv i r (hB _)) ⟨by rw [List.length_set], fun j hj => List.getElem?_set_ne fun z => hj (by rw [z]; exact List.mem_cons_self)⟩
  | .tu ts => fun C g rh st σ H d v rh' Q hB S r e q => by
    cases d with
    | tuple ds =>
      unfold Tg.bind at e
      cases r with
      | tup z ha rs => exact ⟨_, _, rfl, SqT.of ha, by rw [← rs.length, ← Tg.bindAll_len _ _ _ _ e], gsok K ts C g rh st σ H _ _ rh' Q hB S rs e q⟩
    | _ => unfold Tg.bind at e; cases e
theorem gsok (K : PySem.W.Frag) : ∀ bs : List Tg, Gsok (gTs K bs) (Tg.bindAll bs) (Tg.slotsAll bs)
  | [] => fun C g rh st σ H d v rh' Q hB S r e q => by
    cases d with
    | nil => cases r; unfold Tg.bindAll at e; cases e; exact ⟨rfl, q σ S But.refl⟩
    | cons x xs => unfold Tg.bindAll at e; cases e
  | t :: ts => fun C g rh st σ H d v rh' Q hB S r e q => by
    cases d with
    | nil => unfold Tg.bindAll at e; cases e
    | cons x xs =>
      cases r with
      | cons r rs =>
        unfold Tg.bindAll at e
        split at e
        · rename_i r1 e1
          exact ⟨_, _, rfl, gok K t C g rh st σ H x _ r1 _ hB S r e1 fun σ' S' b1 => gsok K ts C g r1 st σ' H xs _ rh' Q hB S' rs e fun σ2 S2 b2 => q σ2 S2 (b1.trans b2)⟩
        · cases e
end
/-- a target, with what it binds -/
abbrev FG (X : Cx) (e : Expr) (b : Tg) : Prop := PG X e (gT X.K b)
abbrev FGs (X : Cx) (es : List Expr) (b : List Tg) : Prop := PGs X es (gTs X.K b)
theorem fg_n (i : Nat) {x : Str} (hX : X.N.Nodup) (hi : X.N[i]? = some x := by rfl) (hx : Loc X.env.scope x := by first | exact Or.inl rfl | exact Or.inr rfl) (hf : X.fn x = true ∨ X.env.scope.names.lookup x = some .local := by first | exact .inl rfl | exact .inr rfl | assumption) : FG X (.Name x pos) (.nm i) := pg_name hX hi hx hf
theorem fgs_nil : FGs X [] [] := pgs_nil
theorem fgs_cons {es : List Expr} {b : Tg} {bs : List Tg} (h1 : FG X e b) (h2 : FGs X es bs) (hs : (assignEach (e :: es) X.env).map (·.2) = assign e X.env :: (assignEach es X.env).map (·.2) := by rfl) : FGs X (e :: es) (b :: bs) := pgs_cons h1 h2 hs
theorem fg_t {es : List Expr} {k : Nat} {bs : List Tg} (hc : X.calm = true) (h : FGs X es bs) (hn : (assignEach es X.env).length = bs.length := by rfl) (hst : (assignEach es X.env).findIdx? (·.1) = none := by rfl) : FG X (.Tuple es k pos) (.tu bs) := pg_tup hc h hn hst
/-- target = e, any target -/
def kAsg (b : Tg) (d : D) : Ex Fl := fun rh st => match Tg.bind b d rh with | some r => .ok (.nx r) st | none => .stuck
def sAsg (b : Tg) (f : Ex D) : Ex Fl := fun rh st => (f rh st).bind fun d st => kAsg b d rh st
theorem fs_asg {tg : Expr} {b : Tg} {f : Ex D} (hX : XOk X CA C) (he : PE X e (tE C f)) (hg : FG X tg b) (hs : swapsWithSole [tg] e pos.line X.env = pure false := by rfl) (hw : swappedStores [tg] e X.env = pure none := by rfl)
    (h1 : (assignEach [tg] X.env).map (·.2) = [assign tg X.env] := by rfl) : PS X (.Assign [tg] e pos) (tS C (sAsg b f)) := by
  refine PSimp (ps_asg he hg hs hw h1) fun De σ H h => (bind1 (k := kAsg b) wkS h).mono fun v H1 ⟨d, g, rh, st, S, r, w⟩ => ?_
  unfold kAsg at w
  cases q : Tg.bind b d rh with
  | none => rw [q] at w; exact w.elim
  | some r1 => rw [q] at w; exact gok X.K b C g rh st σ H1 d v r1 _ (hX.all rfl) S r q fun σ' S' _ => w g H1 σ' S'

/-! ### for -/
def forK (ws : List Nat) (k : Ex Fl) (f : Fl) (st : List RV) : Out Fl := match f with
  | .nx r => k (wipeR ws r) st
  | .ct r => k (wipeR ws r) st
  | .bk r => .ok (.nx (wipeR ws r)) st
  | .rt d => .ok (.rt d) st
  | .ro d => .ok (.ro d) st
def forL (b : Tg) (ws : List Nat) (body : Ex Fl) : List D → Ex Fl
  | [], rh, st => .ok (.nx rh) st
  | d :: ds, rh, st => match Tg.bind b d rh with
    | none => .stuck
    | some r1 => (body r1 st).bind (forK ws (forL b ws body ds))
def sFor (f : Ex (List D)) (b : Tg) (ws : List Nat) (body : Ex Fl) : Ex Fl := fun rh st => (f rh st).bind fun ds st => forL b ws body ds (wipeR ws rh) st
/-- what a walk yields: data that last, or are made at each turn; p: the pin that it leans on -/
abbrev PinsOk (g : Gh) (H : Hp) (ps : List (D × V)) : Prop := ∀ q ∈ ps, Rep g H q.1 q.2
structure Yields (J : It) (ds : List D) (ps : List (D × V)) : Prop where
  go : ∀ i g H st, StOk g H st → PinsOk g H ps → i < ds.length → J.go i H ∧ ∀ x H', J.yld i H x H' → ∃ g' d, ds[i]? = some d ∧ Grow g H g' H' ∧ StOk g' H' st ∧ Rep g' H' d x
  stop : ∀ g H st, StOk g H st → PinsOk g H ps → J.stop ds.length H
/-- a walked expression -/
def wI (C : Ct) (R : It → Hp → Prop) (g : Gh) (H : Hp) (o : Out (List D)) : Prop := match o with
  | .ok ds st => ∀ g' H' J ps, Grow g H g' H' → StOk g' H' st → PinsOk g' H' ps → Yields J ds ps → R J H'
  | .err c d st => XW C c d st
  | .stuck => False
theorem wkI {R : It → Hp → Prop} : Wk C (wI C R) := ⟨fun _ _ _ _ _ h => h, fun _ _ h => h, fun g H g' H' o G h => by
  cases o with
  | ok ds st => exact fun g2 H2 J ps G2 k r y => h g2 H2 J ps (G.trans G2) k r y
  | err c d st => exact h
  | stuck => exact h⟩
def tI (C : Ct) (f : Ex (List D)) : TI := fun σ H R => tW C (wI C R) f σ H
theorem PIimp {tg : Expr} {t t' : TI} (p : PI X tg e t) (h : ∀ σ H R, t' σ H R → t σ H R) : PI X tg e t' := ⟨fun pins s σ H R I q => p.run pins s σ H R I (h σ H R q)⟩
theorem Sta.unpin {g : Gh} {rh : Rho} {st : List RV} {σ : L2.St} {H : Hp} {ps : List (D × V)} (S : Sta (C.pin ps) g rh st σ H) : Sta C g rh st σ H := ⟨S.rel, S.ok, S.gr, fun q hq => S.pin q (List.mem_append_right _ hq), S.b⟩
theorem Sta.topin {g : Gh} {rh : Rho} {st : List RV} {σ : L2.St} {H : Hp} {ps : List (D × V)} (S : Sta C g rh st σ H) (r : PinsOk g H ps) : Sta (C.pin ps) g rh st σ H := ⟨S.rel, S.ok, S.gr, fun q hq => by
  rcases List.mem_append.mp hq with h | h
  · exact r q h
  · exact S.pin q h, S.b⟩
theorem fs_for {tg : Expr} {body : List Stmt} {f : Ex (List D)} {b : Tg} {ws : List Nat} {s : Ex Fl} (hX : XOk X CA C) (hi : PI X tg e (tI C f)) (hg : FG X tg b) (hb : ∀ C, XOk X CA C → PSs X body (tS C s))
    (hs : ∀ x, foldedSetIterable e X.env x = pure x := by intro _; rfl) : PS X (.For tg e body [] pos) (tS C (sFor f b ws s)) := by
  refine PSimp (ps_for (tb := fun De σ H => ∃ ps, tS (C.pin ps) s De σ H) hX.po hX.calm hi hg ⟨fun pins s0 σ H De I ⟨ps, h⟩ => (hb (C.pin ps) (hX.pin ps)).run pins s0 σ H De I h⟩ hs) fun De σ H h => ?_
  obtain ⟨g0, rh0, st0, S0, w0⟩ := h
  have w0 : wpS C De ((f rh0 st0).bind fun ds st => forL b ws s ds (wipeR ws rh0) st) := w0
  refine ⟨g0, rh0, st0, S0, ?_⟩
  cases q : f rh0 st0 with
  | err c d st' => rw [q] at w0; exact w0
  | stuck => rw [q] at w0; exact w0
  | ok ds st1 =>
    rw [q] at w0
    intro g1 H1 J ps G k r y
    refine ⟨fun i m σ H => i + m = ds.length ∧ ∃ g rh st, Sta (C.pin ps) g rh st σ H ∧ wpS C De (forL b ws s (ds.drop i) rh st), ⟨ds.length, by omega, g1, _, st1, ((S0.grow G k).wipe ws).topin r, w0⟩, fun i m σ2 H2 hW => ?_⟩
    obtain ⟨hm, g2, r2, st2, S2, w2⟩ := hW
    have hp : PinsOk g2 H2 ps := fun q hq => S2.pin q (List.mem_append_left _ hq)
    by_cases hi : i < ds.length
    · obtain ⟨jg, jy⟩ := y.go i g2 H2 st2 S2.ok hp hi
      refine .inr ⟨jg, fun σ H => ∃ g rh st, Sta (C.pin ps) g rh st σ H ∧ wpS C De (forL b ws s (ds.drop (i + 1)) rh st), fun σ' H' h => ⟨m - 1, by omega, by omega, h⟩, fun x H3 hy => ?_⟩
      obtain ⟨g3, d, ed, G3, k3, rd⟩ := jy x H3 hy
      have S3 := S2.grow G3 k3
      have ed' : ds.drop i = d :: ds.drop (i + 1) := by
        obtain ⟨hl, e⟩ := List.getElem?_eq_some_iff.mp ed
        rw [List.drop_eq_getElem_cons hl, e]
      rw [ed'] at w2
      have w2 : wpS C De (match Tg.bind b d r2 with | none => .stuck | some r1 => (s r1 st2).bind (forK ws (forL b ws s (ds.drop (i + 1))))) := w2
      cases eb : Tg.bind b d r2 with
      | none => rw [eb] at w2; exact w2.elim
      | some r1 =>
        rw [eb] at w2
        refine gok X.K b (C.pin ps) g3 r2 st2 σ2 H3 d x r1 _ (hX.all rfl) S3 rd eb fun σ' S' _ => ⟨ps, g3, r1, st2, S', ?_⟩
        have w2 : wpS C De ((s r1 st2).bind (forK ws (forL b ws s (ds.drop (i + 1))))) := w2
        cases es : s r1 st2 with
        | err c d st' => rw [es] at w2; exact w2
        | stuck => rw [es] at w2; exact w2
        | ok fl st' =>
          rw [es] at w2
          cases fl with
          | nx r => exact fun g H σ S => ⟨g, _, st', S.wipe ws, w2⟩
          | ct r => exact fun g H σ S => ⟨g, _, st', S.wipe ws, w2⟩
          | bk r => exact fun g H σ S => w2 g H σ (S.unpin.wipe ws)
          | rt d => exact w2
          | ro d => exact w2
    · have e : i = ds.length := by omega
      subst e
      rw [List.drop_length] at w2
      exact .inl ⟨y.stop g2 H2 st2 S2.ok hp, w2 g2 H2 σ2 S2.unpin⟩
/-- a list that lasts is walked -/
def kIL (d : D) : Ex (List D) := fun _ st => match d with | .list ds => .ok ds st | _ => .stuck
def kIT (d : D) : Ex (List D) := fun _ st => match d with | .tuple ds => .ok ds st | _ => .stuck
def iL (f : Ex D) : Ex (List D) := fun rh st => (f rh st).bind fun d st => kIL d rh st
def iT (f : Ex D) : Ex (List D) := fun rh st => (f rh st).bind fun d st => kIT d rh st
theorem yields_list {K : PySem.W.Frag} {a : Addr} {ds : List D} : Yields (Itl K a) ds [(.list ds, .ref a)] := by
  refine ⟨fun i g H st k r hi => ?_, fun g H st k r => ?_⟩
  · cases r _ List.mem_cons_self with
    | lst z e rs =>
      have hv := hi; rw [rs.length] at hv
      refine ⟨⟨_, _, SqL.of e, List.getElem?_eq_getElem hv⟩, fun x H' y => ?_⟩
      obtain ⟨rfl, y⟩ := y
      obtain ⟨d, e1, e2⟩ := rs.get' (y _ (SqL.of e))
      exact ⟨g, d, e1, Grow.refl k.z, k, e2⟩
  · cases r _ List.mem_cons_self with
    | lst z e rs => exact ⟨_, SqL.of e, by rw [← rs.length]; exact Nat.le_refl _⟩
theorem yields_tup {K : PySem.W.Frag} {a : Addr} {ds : List D} : Yields (Itt K a) ds [(.tuple ds, .ref a)] := by
  refine ⟨fun i g H st k r hi => ?_, fun g H st k r => ?_⟩
  · cases r _ List.mem_cons_self with
    | tup z e rs =>
      have hv := hi; rw [rs.length] at hv
      refine ⟨⟨_, _, SqT.of e, List.getElem?_eq_getElem hv⟩, fun x H' y => ?_⟩
      obtain ⟨rfl, y⟩ := y
      obtain ⟨d, e1, e2⟩ := rs.get' (y _ (SqT.of e))
      exact ⟨g, d, e1, Grow.refl k.z, k, e2⟩
  · cases r _ List.mem_cons_self with
    | tup z e rs => exact ⟨_, SqT.of e, by rw [← rs.length]; exact Nat.le_refl _⟩
theorem fi_list {tg : Expr} {f : Ex D} (h : PE X e (tE C f)) : PI X tg e (tI C (iL f)) :=
  PIimp (pi_list h) fun σ H R h => (bind1 (k := kIL) wkI h).mono fun x H1 ⟨d, g, rh, st, S, r, w⟩ => by
    cases r with
    | lst z e rs => exact ⟨_, rfl, ⟨_, SqL.of e⟩, w g H1 _ _ (Grow.refl S.ok.z) S.ok (fun q hq => by cases List.mem_singleton.mp hq; exact .lst z e rs) yields_list⟩
    | _ => exact w.elim
theorem fi_tup {tg : Expr} {f : Ex D} (h : PE X e (tE C f)) : PI X tg e (tI C (iT f)) :=
  PIimp (pi_tup h) fun σ H R h => (bind1 (k := kIT) wkI h).mono fun x H1 ⟨d, g, rh, st, S, r, w⟩ => by
    cases r with
    | tup z e rs => exact ⟨_, rfl, ⟨_, SqT.of e⟩, w g H1 _ _ (Grow.refl S.ok.z) S.ok (fun q hq => by cases List.mem_singleton.mp hq; exact .tup z e rs) yields_tup⟩
    | _ => exact w.elim
/-- lo, lo + 1, .. -/
def rangeD (lo : Int) (n : Nat) : List D := (List.range n).map fun i => PyData.int (lo + (i : Nat))
theorem yields_range {lo : Int} {n : Nat} : Yields (Itr lo n) (rangeD lo n) [] := by
  refine ⟨fun i g H st k r hi => ?_, fun g H st k r => ?_⟩
  · have hi : i < n := by simpa [rangeD] using hi
    refine ⟨hi, fun x H' y => ?_⟩
    obtain ⟨rfl, rfl⟩ := y
    exact ⟨g, .int (lo + i), by simp [rangeD, hi], Grow.refl k.z, k, .int _⟩
  · show n ≤ (rangeD lo n).length
    simp [rangeD]
def kR1 (ds : List D) : Ex (List D) := fun _ st => match ds with
  | [.int j] => if -(2 ^ 62) ≤ j ∧ j < 2 ^ 62 then .ok (rangeD 0 j.toNat) st else .stuck
  | _ => .stuck
def iR1 (f : Ex (List D)) : Ex (List D) := fun rh st => (f rh st).bind fun ds st => kR1 ds rh st
def kR2 (ds : List D) : Ex (List D) := fun _ st => match ds with
  | [.int i, .int j] => if -(2 ^ 62) ≤ i ∧ i < 2 ^ 62 ∧ -(2 ^ 62) ≤ j ∧ j < 2 ^ 62 then .ok (rangeD i (j - i).toNat) st else .stuck
  | _ => .stuck
def iR2 (f : Ex (List D)) : Ex (List D) := fun rh st => (f rh st).bind fun ds st => kR2 ds rh st
theorem reps1_cons {g : Gh} {H : Hp} {d : D} {ds : List D} {xs : List V} (h : Reps1 g H (d :: ds) xs) : ∃ x r, xs = x :: r ∧ Rep1 g H d x ∧ Reps1 g H ds r := by
  cases h with
  | cons a b => exact ⟨_, _, rfl, a, b⟩
theorem reps1_nil {g : Gh} {H : Hp} {xs : List V} (h : Reps1 g H [] xs) : xs = [] := by cases h; rfl
theorem fi_range1 {tg a : Expr} {p : Pos} {f : Ex (List D)} (hg : Gl X "range") (hm : X.mg "range" = none) (ha : PA X [a] (tA1 C f)) (hs : starEach [a] X.env = [(false, eval a X.env)] := by rfl) : PI X tg (.Call (.Name "range" p) [a] [] pos) (tI C (iR1 f)) :=
  PIimp (pi_range1 hg hm ha hs) fun σ H R h => (bind1 (k := kR1) wkI h).mono fun xs H1 ⟨ds, g, rh, st, S, r, w⟩ => by
    unfold kR1 at w
    split at w
    · rename_i j
      obtain ⟨x, r1, rfl, q1, q2⟩ := reps1_cons r
      cases reps1_nil q2
      cases q1.int
      split at w
      · rename_i hb
        exact ⟨j, rfl, hb.1, hb.2, w g H1 _ _ (Grow.refl S.ok.z) S.ok (fun q hq => absurd hq (by simp)) yields_range⟩
      · exact w.elim
    · exact w.elim
theorem fi_range2 {tg a b : Expr} {p : Pos} {f : Ex (List D)} (hg : Gl X "range") (hm : X.mg "range" = none) (ha : PA X [a, b] (tA1 C f)) (hs : starEach [a, b] X.env = [(false, eval a X.env), (false, eval b X.env)] := by rfl) (hs2 : starEach [b] X.env = [(false, eval b X.env)] := by rfl) : PI X tg (.Call (.Name "range" p) [a, b] [] pos) (tI C (iR2 f)) :=
  PIimp (pi_range2 hg hm ha hs hs2) fun σ H R h => (bind1 (k := kR2) wkI h).mono fun xs H1 ⟨ds, g, rh, st, S, r, w⟩ => by
    unfold kR2 at w
    split at w
    · rename_i i j
      obtain ⟨x, r1, rfl, q1, q2⟩ := reps1_cons r
      obtain ⟨y, r2, rfl, q3, q4⟩ := reps1_cons q2
      cases reps1_nil q4
      cases q1.int
      cases q3.int
      split at w
      · rename_i hb
        exact ⟨i, j, rfl, hb, w g H1 _ _ (Grow.refl S.ok.z) S.ok (fun q hq => absurd hq (by simp)) yields_range⟩
      · exact w.elim
    · exact w.elim

/-! ### while -/
def whK (ws : List Nat) (k : Ex Fl) (f : Fl) (st : List RV) : Out Fl := forK ws k f st
def whL (t : Ex Bool) (ws : List Nat) (body : Ex Fl) : Nat → Ex Fl
  | 0, _, _ => .stuck
  | n + 1, rh, st => (t rh st).bind fun b st => if b = true then (body rh st).bind (forK ws (whL t ws body n)) else .ok (.nx rh) st
def sWhile (n : Nat) (t : Ex Bool) (ws : List Nat) (body : Ex Fl) : Ex Fl := fun rh st => whL t ws body n (wipeR ws rh) st
theorem fs_while {body : List Stmt} {t : Ex Bool} {ws : List Nat} {n : Nat} {s : Ex Fl} (hX : XOk X CA C) (hc : PT X c (tT C t)) (hb : PSs X body (tS C s)) : PS X (.While c body [] pos) (tS C (sWhile n t ws s)) :=
  PSimp (ps_while hX.po hc hb) fun De σ H h => by
    obtain ⟨g0, rh0, st0, S0, w0⟩ := h
    refine ⟨fun m σ H => ∃ g rh st, Sta C g rh st σ H ∧ wpS C De (whL t ws s m rh st), ⟨n, g0, _, st0, S0.wipe ws, w0⟩, fun m σ H hW => ?_⟩
    obtain ⟨g, rh, st, S, w⟩ := hW
    cases m with
    | zero => exact w.elim
    | succ m =>
      refine (bind1 (k := fun b rh st => if b = true then (s rh st).bind (forK ws (whL t ws s m)) else .ok (.nx rh) st) wkS ⟨g, rh, st, S, w⟩).mono fun b H1 ⟨b', g1, rh1, st1, S1, r1, w1⟩ => ?_
      subst r1
      cases b' with
      | false => exact iteF (w1 g1 H1 σ S1)
      | true =>
        refine iteT ⟨fun σ' H' => ∃ g rh st, Sta C g rh st σ' H' ∧ wpS C De (whL t ws s m rh st), fun σ' H' h => ⟨m, Nat.lt_succ_self m, h⟩, g1, rh1, st1, S1, ?_⟩
        have w1 : wpS C De ((s rh1 st1).bind (forK ws (whL t ws s m))) := w1
        cases es : s rh1 st1 with
        | err c d st' => rw [es] at w1; exact w1
        | stuck => rw [es] at w1; exact w1
        | ok fl st' =>
          rw [es] at w1
          cases fl with
          | nx r => exact fun g H σ S => ⟨g, _, st', S.wipe ws, w1⟩
          | ct r => exact fun g H σ S => ⟨g, _, st', S.wipe ws, w1⟩
          | bk r => exact fun g H σ S => w1 g H σ (S.wipe ws)
          | rt d => exact w1
          | ro d => exact w1
end
end FL

/-! FLd -/
set_option Elab.async false
set_option linter.all false
set_option maxRecDepth 100000
set_option maxHeartbeats 4000000
/-! FLd: defs, their promises, their calls. -/
namespace FL
open PySem PySem.Spec PyProof.Rows L2

abbrev Fn := List Ar → List RV → Out D
abbrev ArReps (g : Gh) (H : Hp) : List Ar → List V → Prop := Paired (ArRep g H)
/-- what is wanted of a def's outcome -/
def wpR (C : Ct) (o : Out D) (Q : VK) : Prop :=
  match o with
  | .ok d st' => ∀ g' H' v, Grow C.g0 C.H0 g' H' → StOk g' H' st' → Rep g' H' d v → Q v H'
  | .err c d st' => XW C c d st'
  | .stuck => False
/-- a def's promise: n arguments; it does what F says -/
def spF (CA : Nat → Addr) (n : Nat) (F : Fn) : Sp := fun vs H Q E => ∃ g ars st, ars.length = n ∧ ArReps g H ars vs ∧ StOk g H st ∧ wpR ⟨H, g, E, CA, [], fun _ => True, none⟩ (F ars st) Q
def arSl : Ar → Option Sl
  | .d x => some (.val x)
  | .r n => some (.reg n)
def rho0 (n : Nat) (ars : List Ar) : Rho := ars.map arSl ++ List.replicate (n - ars.length) none
/-- a body as a function of its arguments; n slots -/
def runF (n : Nat) (s : Ex Fl) : Fn := fun ars st => (s (rho0 n ars) st).bind fun f st => match f with
  | .rt d => .ok d st
  | .ro ds => .ok (.list ds) st
  | .nx _ => .ok .none st
  | _ => .stuck
/-- .. of a def that hands its lists over -/
def runO (n : Nat) (s : Ex Fl) : Fn := fun ars st => (s (rho0 n ars) st).bind fun f st => match f with
  | .rt (.list _) => .stuck
  | .rt d => .ok d st
  | .ro ds => .ok (.list ds) st
  | .nx _ => .ok .none st
  | _ => .stuck
/-- what is wanted of a def's outcome, lists handed over -/
def wpO (C : Ct) (o : Out D) (Q : VK) : Prop :=
  match o with
  | .ok (.list ds) st' => ∀ g' H' a vs, Grow C.g0 C.H0 g' H' → StOk g' H' st' → H' a = some (.lst vs) → Reps g' H' ds vs → Own C.H0 g' a → Q (.ref a) H'
  | .ok d st' => ∀ g' H' v, Grow C.g0 C.H0 g' H' → StOk g' H' st' → Rep g' H' d v → Q v H'
  | .err c d st' => XW C c d st'
  | .stuck => False
abbrev ct0 (H : Hp) (g : Gh) (E : XK) (CA : Nat → Addr) : Ct := ⟨H, g, E, CA, [], fun _ => True, none⟩
def spO (CA : Nat → Addr) (n : Nat) (F : Fn) : Sp := fun vs H Q E => ∃ g ars st, ars.length = n ∧ ArReps g H ars vs ∧ StOk g H st ∧ wpO (ct0 H g E CA) (F ars st) Q

section
variable {P : Program} {w : World} {K : PySem.W.Frag} {mg : Str → Option Value} {base : Heap}
theorem start_get {N : List Str} {vs : List V} {i : Nat} {v : V} (h : vs[i]? = some v) : (L2.start N vs)[i]? = some (some v) := by
  unfold L2.start
  have hi : i < vs.length := (List.getElem?_eq_some_iff.mp h).1
  rw [List.getElem?_append_left (by simpa using hi), List.getElem?_map, h]
  rfl
theorem paired_get {α β : Type} {R : α → β → Prop} {as : List α} {bs : List β} (h : Paired R as bs) : ∀ {i : Nat} {a : α}, as[i]? = some a → ∃ b, bs[i]? = some b ∧ R a b := by
  induction h with
  | nil => intro i a e; simp at e
  | cons r t ih =>
    intro i a e
    cases i with
    | zero => simp at e; subst e; exact ⟨_, rfl, r⟩
    | succ i =>
      obtain ⟨b, h1, h2⟩ := ih (i := i) (by simpa using e)
      exact ⟨b, by simpa using h1, h2⟩
theorem sta_start {CA : Nat → Addr} {E : XK} {N : List Str} {vs : List V} {g : Gh} {H : Hp} {ars : List Ar} {st : List RV} (hn : ars.length ≤ N.length) (h : ArReps g H ars vs) (k : StOk g H st) : Sta ⟨H, g, E, CA, [], fun _ => True, none⟩ g (rho0 N.length ars) st (L2.start N vs) H := by
  have hl := Paired.length h
  have at_ : ∀ (i : Nat) s, (rho0 N.length ars)[i]? = some (some s) → ∃ a v, ars[i]? = some a ∧ arSl a = some s ∧ vs[i]? = some v ∧ ArRep g H a v := fun i s e => by
    unfold rho0 at e
    by_cases hi : i < ars.length
    · rw [List.getElem?_append_left (by simpa using hi), List.getElem?_map] at e
      have ha := List.getElem?_eq_getElem hi
      rw [ha] at e
      obtain ⟨v, h1, h2⟩ := paired_get h ha
      exact ⟨_, v, ha, by simpa using e, h1, h2⟩
    · rw [List.getElem?_append_right (by simpa using hi), List.getElem?_replicate] at e
      split at e <;> cases e
  refine ⟨⟨?_, fun i s e => ?_, fun i j s t a e1 e2 o1 _ _ _ => ?_⟩, k, Grow.refl k.z, fun p hp => absurd hp (by simp), trivial⟩
  · unfold rho0 L2.start
    rw [List.length_append, List.length_append, List.length_map, List.length_map, List.length_replicate, List.length_replicate]
    omega
  · obtain ⟨a, v, h1, h2, h3, h4⟩ := at_ i s e
    refine ⟨v, start_get h3, ?_⟩
    cases a with
    | d x => cases h2; exact h4
    | r n => cases h2; exact h4
  · obtain ⟨a, v, h1, h2, _⟩ := at_ i s e1
    cases a with
    | d x => cases h2; cases o1
    | r n => cases h2; cases o1
theorem xok_cx {N : List Str} {qual : Str} {sc : Scope} {f : Addr} {cdv : Value} {A : Around} {outer : List Env} {s : Shared} {H H' : Hp} {g : Gh} {E : XK} {CA : Nat → Addr} {k : Nat} (hr : Room k (A.deeper (envOfC qual sc s.heap.objs.size f cdv))) (nd : N.Nodup) :
    XOk (cxOf (L2.CX P w) P w K mg base N qual sc f cdv A outer s H E) CA (ct0 H' g E CA) := by
  have tk : Takes (cxOf (L2.CX P w) P w K mg base N qual sc f cdv A outer s H E) (fun cls d _ H => E cls d H) := takes_of rfl rfl rfl rfl
  exact ⟨⟨rfl, nd, by have := hr.un; show A.units + 3 + 65 < cLine; have h : (A.deeper (envOfC qual sc s.heap.objs.size f cdv)).units = A.units + 3 := rfl; omega, fun _ _ _ _ _ => trivial, fun _ _ => trivial⟩, rfl, passes_of rfl, tk.imp fun _ _ _ _ h => h.1, rfl⟩
/-- THE RULE for a def: its body's reading by a function -/
theorem mkFn {x qual : Str} {st : Stmt} {f : Addr} {fd : FuncData} {N ps : List Str} {k : Nat} {CA : Nat → Addr} {s : Ex Fl} (F : Fun K x qual st f fd) (S : FnScope N ps (defScope st))
    (hb : ∀ (cdv : Value) (A : Around) (outer : List Env) (s0 : Shared) (H : Hp) (E : XK) (C : Ct), Room k (A.deeper (envOfC qual (defScope st) s0.heap.objs.size f cdv)) →
      XOk (cxOf (L2.CX P w) P w K mg base N qual (defScope st) f cdv A outer s0 H E) CA C → PSs (cxOf (L2.CX P w) P w K mg base N qual (defScope st) f cdv A outer s0 H E) (defBody st) (tS C s)) :
    FnOk P w K mg base (L2.CX P w) (k + 1) f fd ps (spF CA ps.length (runF N.length s)) := by
  have hpl : ps.length ≤ N.length := by have := congrArg List.length S.pre; rw [List.length_take] at this; omega
  refine F.okX S (fun vs H Q E ⟨g, ars, st, h1, h2, _⟩ => by rw [← Paired.length h2, h1]) fun cdv A outer s0 H vs Q E hr ⟨g, ars, st, h1, h2, h3, h4⟩ => ?_
  refine ⟨_, hb cdv A outer s0 H E (ct0 H g E CA) hr (xok_cx hr S.nd), g, _, st, sta_start (by omega) h2 h3, ?_⟩
  unfold runF at h4
  cases q : s (rho0 N.length ars) st with
  | ok fl st' =>
    rw [q] at h4
    cases fl with
    | nx r => exact fun g' H' σ' S' => h4 g' H' .non S'.gr S'.ok .non
    | rt d => exact h4
    | ro ds =>
      intro g' H' a vs G k ha r ow
      exact h4 (g'.add a) H' (.ref a) ⟨G.as, fun b h => .inl (G.z b h), fun b h => h.elim (G.fr b) fun e => .inr (by rw [e]; exact ow.2.2), G.keep, G.live⟩ (k.add ⟨_, ha⟩ ow.2.1) (.lst (.inr rfl) ha r.add)
    | bk r => exact h4.elim
    | ct r => exact h4.elim
  | err c d st' => rw [q] at h4; exact h4
  | stuck => rw [q] at h4; exact h4
/-- .. that hands its lists over -/
theorem mkFnO {x qual : Str} {st : Stmt} {f : Addr} {fd : FuncData} {N ps : List Str} {k : Nat} {CA : Nat → Addr} {s : Ex Fl} (F : Fun K x qual st f fd) (S : FnScope N ps (defScope st))
    (hb : ∀ (cdv : Value) (A : Around) (outer : List Env) (s0 : Shared) (H : Hp) (E : XK) (C : Ct), Room k (A.deeper (envOfC qual (defScope st) s0.heap.objs.size f cdv)) →
      XOk (cxOf (L2.CX P w) P w K mg base N qual (defScope st) f cdv A outer s0 H E) CA C → PSs (cxOf (L2.CX P w) P w K mg base N qual (defScope st) f cdv A outer s0 H E) (defBody st) (tS C s)) :
    FnOk P w K mg base (L2.CX P w) (k + 1) f fd ps (spO CA ps.length (runO N.length s)) := by
  have hpl : ps.length ≤ N.length := by have := congrArg List.length S.pre; rw [List.length_take] at this; omega
  refine F.okX S (fun vs H Q E ⟨g, ars, st, h1, h2, _⟩ => by rw [← Paired.length h2, h1]) fun cdv A outer s0 H vs Q E hr ⟨g, ars, st, h1, h2, h3, h4⟩ => ?_
  refine ⟨_, hb cdv A outer s0 H E (ct0 H g E CA) hr (xok_cx hr S.nd), g, _, st, sta_start (by omega) h2 h3, ?_⟩
  unfold runO at h4
  cases q : s (rho0 N.length ars) st with
  | ok fl st' =>
    rw [q] at h4
    cases fl with
    | nx r => exact fun g' H' σ' S' => h4 g' H' .non S'.gr S'.ok .non
    | rt d =>
      cases d with
      | list ds => exact h4.elim
      | _ => exact h4
    | ro ds => exact h4
    | bk r => exact h4.elim
    | ct r => exact h4.elim
  | err c d st' => rw [q] at h4; exact h4
  | stuck => rw [q] at h4; exact h4
end

/-- a def that may be called by the name x; dv: the defaults that fill up -/
structure Has (P : Program) (w : World) (K : PySem.W.Frag) (mg : Str → Option Value) (base : Heap) (k : Nat) (x : Str) (ps : List Str) (dv : List D) (sp : Sp) : Prop where
  ex : ∃ (f : Addr) (fd : FuncData) (ds : List Value) (dvs : List V), mg x = some (.ref f) ∧ PySem.W.keepIn K (.ref f) = true ∧ FnOk P w K mg base (L2.CX P w) k f fd ps sp ∧ Binds K fd ps ds ∧ Vals dvs ds ∧ ∀ g H, Reps g H dv dvs
theorem Has.mono {P : Program} {w : World} {K : PySem.W.Frag} {mg : Str → Option Value} {base : Heap} {j k : Nat} {x : Str} {ps : List Str} {dv : List D} {sp : Sp} (h : Has P w K mg base j x ps dv sp) (hk : j ≤ k) : Has P w K mg base k x ps dv sp := by
  obtain ⟨f, fd, ds, dvs, h1, h2, h3, h4⟩ := h.ex
  exact ⟨f, fd, ds, dvs, h1, h2, h3.mono hk, h4⟩
abbrev HasX (X : Cx) := Has X.prog X.w X.K X.mg X.base

/-! ### outcomes of calls -/
/-- a value: a list is one's own -/
def wX (C : Ct) (Q : VK) (g : Gh) (H : Hp) (o : Out D) : Prop := match o with
  | .ok (.list ds) st' => ∀ g' H' a vs, Grow g H g' H' → StOk g' H' st' → H a = none → ¬ g'.Z a → a ∉ g'.as → H' a = some (.lst vs) → Reps g' H' ds vs → Q (.ref a) H'
  | .ok d st' => ∀ g' H' v, Grow g H g' H' → StOk g' H' st' → Rep g' H' d v → Q v H'
  | .err c d st' => XW C c d st'
  | .stuck => False
theorem wkX {C : Ct} {Q : VK} : Wk C (wX C Q) := ⟨fun _ _ _ _ _ h => h, fun _ _ h => h, fun g H g' H' o G h => by
  cases o with
  | ok a st =>
    cases a with
    | list ds => exact fun g2 H2 p vs G2 k hp => h g2 H2 p vs (G.trans G2) k (G.back hp)
    | _ => exact fun g2 H2 b G2 k r => h g2 H2 b (G.trans G2) k r
  | err c d st => exact h
  | stuck => exact h⟩
def tX (C : Ct) (f : Ex D) : TE := fun σ H Q => tW C (wX C Q) f σ H
section
variable {X : Cx} {CA : Nat → Addr} {C : Ct} {e : Expr} {es : List Expr} {pos p : Pos} {x : Str} {k n : Nat} {o : Option (List Nat)} {ps : List Str} {F : Fn} {dv : List D}
/-- frozen at once -/
theorem fe_ofX {f : Ex D} (h : PE X e (tX C f)) : PE X e (tE C f) := PEimp h fun σ H Q ⟨g, rh, st, S, w⟩ => ⟨g, rh, st, S, by
  cases q : f rh st with
  | ok d st' =>
    rw [q] at w
    cases d with
    | list ds =>
      intro g' H' p vs G k hp nz na hv r
      exact w (g'.add p) H' (.ref p) ⟨G.as, fun a h => .inl (G.z a h), fun a h => h.elim (G.fr a) fun e => .inr (by rw [e]; exact hp), G.keep, G.live⟩ (k.add ⟨_, hv⟩ na) (.lst (.inr rfl) hv r.add)
    | _ => exact w
  | err c d st' => rw [q] at w; exact w
  | stuck => rw [q] at w; exact w⟩
def slX (d : D) : Sl := match d with | .list ds => .own ds | d => .val d
def sSetX (i : Nat) (f : Ex D) : Ex Fl := fun rh st => (f rh st).bind fun d st => .ok (.nx (rh.set i (some (slX d)))) st
theorem fs_setX (i : Nat) {f : Ex D} {pos' : Pos} (hX : XOkB X CA o C) (he : PE X e (tX C f)) (hi : X.N[i]? = some x := by rfl) (hx : Loc X.env.scope x := by first | exact Or.inl rfl | exact Or.inr rfl) (hs : swapsWith e (some (.Name x pos')) pos.line X.env = pure false := by rfl)
    (hf : X.fn x = true ∨ X.env.scope.names.lookup x = some .local := by first | exact .inl rfl | exact .inr rfl | assumption) (hw : May o i := by first | exact trivial | (show (_ : Nat) ∈ (_ : List Nat); decide)) : PS X (.Assign [.Name x pos'] e pos) (tS C (sSetX i f)) :=
  PSimp (ps_set hX.nd hi hx he hs hf) fun De σ H h => by
    obtain ⟨g, rh, st, S, w⟩ := h
    refine ⟨g, rh, st, S, ?_⟩
    have w : wpS C De ((f rh st).bind fun d st => .ok (.nx (rh.set i (some (slX d)))) st) := w
    cases q : f rh st with
    | ok d st' =>
      rw [q] at w
      cases d with
      | list ds =>
        intro g' H' p vs G k hp nz na hv r
        have S' := S.grow G k
        exact w g' H' _ (S'.seto i ⟨p, vs, rfl, hv, r, nz, na, S.gr.back hp⟩ (fun j t _ e o h => S.noOwn hp j t e o h) (hX.nb _ _ _ hw S.b))
      | _ => exact fun g' H' v G k r => w g' H' _ ((S.grow G k).setv i r (hX.nb _ _ _ hw S.b))
    | err c d st' => rw [q] at w; exact w
    | stuck => rw [q] at w; exact w
/-- return f(..), a list handed on -/
def flX (d : D) : Fl := match d with | .list ds => .ro ds | d => .rt d
def sRetX (f : Ex D) : Ex Fl := fun rh st => (f rh st).bind fun d st => .ok (flX d) st
theorem fs_retX {f : Ex D} (he : PE X e (tX C f)) : PS X (.Return (some e) pos) (tS C (sRetX f)) :=
  PSimp (ps_ret he) fun De σ H h => by
    obtain ⟨g, rh, st, S, w⟩ := h
    refine ⟨g, rh, st, S, ?_⟩
    have w : wpS C De ((f rh st).bind fun d st => .ok (flX d) st) := w
    cases q : f rh st with
    | ok d st' =>
      rw [q] at w
      cases d with
      | list ds =>
        intro g' H' p vs G k hp nz na hv r
        exact w g' H' p vs (S.gr.trans G) k hv r ⟨nz, na, S.gr.back hp⟩
      | _ => exact fun g' H' v G k r => w g' H' v (S.gr.trans G) k r
    | err c d st' => rw [q] at w; exact w
    | stuck => rw [q] at w; exact w
/-- a new list is such a value -/
theorem fx_new {f : Ex (List D)} (h : PE X e (tN C f)) : PE X e (tX C (eL f)) := PEimp h fun σ H Q ⟨g, rh, st, S, w⟩ => ⟨g, rh, st, S, by
  unfold eL at w
  cases q : f rh st with
  | ok ds st' => rw [q] at w; exact w
  | err c d st' => rw [q] at w; exact w
  | stuck => rw [q] at w; exact w⟩
/-- so is one that is no list -/
def eNl (f : Ex D) : Ex D := fun rh st => (f rh st).bind fun d st => match d with | .list _ => .stuck | d => .ok d st
theorem fx_val {f : Ex D} (h : PE X e (tE C f)) : PE X e (tX C (eNl f)) := PEimp h fun σ H Q ⟨g, rh, st, S, w⟩ => ⟨g, rh, st, S, by
  unfold eNl at w
  cases q : f rh st with
  | ok d st' =>
    rw [q] at w
    cases d with
    | list ds => exact w.elim
    | _ => exact w
  | err c d st' => rw [q] at w; exact w
  | stuck => rw [q] at w; exact w⟩

/-! ### calls with data that last, without registers -/
def runP (F : Fn) (ds : List D) (st : List RV) : Out D := match F (ds.map Ar.d) [] with
  | .ok d _ => .ok d st
  | .err c d _ => .err c d st
  | .stuck => .stuck
def eCall (F : Fn) (dv : List D) (fa : Ex (List D)) : Ex D := fun rh st => (fa rh st).bind fun ds st => runP F (ds ++ dv) st
theorem ars_of {g g' : Gh} {H : Hp} (hz : ∀ a, g.Z a → g'.Z a) : ∀ {ds : List D} {vs : List V}, Reps g H ds vs → ArReps g' H (ds.map Ar.d) vs
  | [], _, h => by cases h; exact .nil
  | d :: ds, _, h => by
    cases h with
    | cons r t => exact .cons (show Rep g' H d _ from Rep.map (fun a vs y e => ⟨hz a y, e⟩) (fun a vs y e => ⟨hz a y, e⟩) d _ r) (ars_of hz t)
/-- the callee's end in the caller's terms -/
theorem call_end {g g' : Gh} {H H' : Hp} {st st' : List RV} (k : StOk g H st) (G : Grow ⟨[], g.Z⟩ H g' H') (k' : StOk g' H' st') : Grow g H ⟨g.as, g'.Z⟩ H' ∧ StOk ⟨g.as, g'.Z⟩ H' st := by
  have G' : Grow g H ⟨g.as, g'.Z⟩ H' := ⟨⟨[], by simp, by simp⟩, G.z, G.fr, fun a o e _ => G.keep a o e (by simp), fun a ha => by
    obtain ⟨o, e⟩ := k.z.2 a ha
    exact ⟨o, G.keep a o e (by simp)⟩⟩
  refine ⟨G', k.keep G' rfl ⟨fun a z => ⟨k'.z.ex z, fun ha => ?_⟩, G'.live⟩ fun a ha => ?_⟩
  · rcases G.fr a z with h | h
    · exact k.z.nas h ha
    · obtain ⟨o, e⟩ := k.z.2 a ha
      rw [h] at e; cases e
  · obtain ⟨o, e⟩ := k.z.2 a ha
    rw [e]; exact G.keep a o e (by simp)
theorem rep_z {g : Gh} {as : List Addr} {H : Hp} {d : D} {v : V} (h : Rep g H d v) : Rep ⟨as, g.Z⟩ H d v := Rep.map (g := g) (g' := ⟨as, g.Z⟩) (fun a vs y e => ⟨y, e⟩) (fun a vs y e => ⟨y, e⟩) d v h
theorem reps_z {g : Gh} {as : List Addr} {H : Hp} {d : List D} {v : List V} (h : Reps g H d v) : Reps ⟨as, g.Z⟩ H d v := Reps.map (g := g) (g' := ⟨as, g.Z⟩) (fun a vs y e => ⟨y, e⟩) (fun a vs y e => ⟨y, e⟩) d v h
theorem st0 {g : Gh} {H : Hp} {st : List RV} (k : StOk g H st) : StOk ⟨[], g.Z⟩ H [] := ⟨rfl, List.nodup_nil, ⟨fun a z => ⟨k.z.ex z, by simp⟩, by simp⟩, by simp⟩
/-- what is wanted of an exception that leaves here -/
abbrev Ct.EB (C : Ct) (σ : L2.St) : XK := fun cls d H => C.E cls d H ∧ C.B σ
theorem err_sp {g : Gh} {H : Hp} {st : List RV} {rh : Rho} {σ : L2.St} {c : Nat} {d : D} {st' : List RV} (S : Sta C g rh st σ H) (w : XW C c d st) : XW (ct0 H ⟨[], g.Z⟩ (C.EB σ) C.CA) c d st' := fun g' H' dx v G k' hx hn' r' => by
  obtain ⟨G', kk⟩ := call_end S.ok G k'
  exact ⟨w _ H' dx v (S.gr.trans G') kk hx (S.gr.back hn') (rep_z r'), S.b⟩
theorem call_sp {g : Gh} {H : Hp} {st : List RV} {rh : Rho} {σ : L2.St} {ds : List D} {vs : List V} {Q : VK} (S : Sta C g rh st σ H) (hn : ds.length = n) (r : Reps g H ds vs) (w : wpG C Rep Q g H (runP F ds st)) : spF C.CA n F vs H Q (C.EB σ) := by
  refine ⟨⟨[], g.Z⟩, ds.map Ar.d, [], by rw [List.length_map]; exact hn, ars_of (g := g) (g' := ⟨[], g.Z⟩) (fun _ h => h) r, st0 S.ok, ?_⟩
  unfold runP at w
  cases q : F (ds.map Ar.d) [] with
  | ok d st' =>
    rw [q] at w
    intro g' H' v G k' r'
    obtain ⟨G', kk⟩ := call_end S.ok G k'
    exact w _ H' v G' kk (rep_z r')
  | err c d st' => rw [q] at w; exact err_sp S w
  | stuck => rw [q] at w; exact w.elim
theorem call_spO {g : Gh} {H : Hp} {st : List RV} {rh : Rho} {σ : L2.St} {ds : List D} {vs : List V} {Q : VK} (S : Sta C g rh st σ H) (hn : ds.length = n) (r : Reps g H ds vs) (w : wX C Q g H (runP F ds st)) : spO C.CA n F vs H Q (C.EB σ) := by
  refine ⟨⟨[], g.Z⟩, ds.map Ar.d, [], by rw [List.length_map]; exact hn, ars_of (g := g) (g' := ⟨[], g.Z⟩) (fun _ h => h) r, st0 S.ok, ?_⟩
  unfold runP at w
  cases q : F (ds.map Ar.d) [] with
  | ok d st' =>
    rw [q] at w
    cases d with
    | list ls =>
      intro g' H' a vs G k' ha r' ow
      obtain ⟨G', kk⟩ := call_end S.ok G k'
      refine w _ H' a vs G' kk ow.2.2 ow.1 (fun h => ?_) ha (reps_z r')
      obtain ⟨o, e⟩ := S.ok.z.2 a h
      rw [show H a = none from ow.2.2] at e; cases e
    | _ =>
      intro g' H' v G k' r'
      obtain ⟨G', kk⟩ := call_end S.ok G k'
      exact w _ H' v G' kk (rep_z r')
  | err c d st' => rw [q] at w; exact err_sp S w
  | stuck => rw [q] at w; exact w.elim
def ALen {α : Type} (fa : Ex (List α)) (m : Nat) : Prop := ∀ rh st d st', fa rh st = .ok d st' → d.length = m
theorem alen_nil : ALen aNil 0 := fun _ _ _ _ h => by cases h; rfl
theorem alen_cons {f : Ex D} {k : Ex (List D)} {m : Nat} (h : ALen k m) : ALen (aCons f k) (m + 1) := fun rh st d st' e => by
  unfold aCons at e
  cases q : f rh st with
  | ok x s1 =>
    rw [q] at e
    have e : ((k rh s1).bind fun ds st => .ok (x :: ds) st) = Out.ok d st' := e
    cases q2 : k rh s1 with
    | ok y s2 => rw [q2] at e; cases e; rw [List.length_cons, h _ _ _ _ q2]
    | err c d s2 => rw [q2] at e; cases e
    | stuck => rw [q2] at e; cases e
  | err c d s1 => rw [q] at e; cases e
  | stuck => rw [q] at e; cases e
theorem pass_of (hX : XOkW X CA o C) : ∀ σ, PassesAt (L2.CX X.prog X.w) X σ (C.EB σ) := passAt hX.tk
/-- f(e, ..): data that last -/
theorem fe_call {fa : Ex (List D)} {m : Nat} (Hf : HasX X k x ps dv (spF CA ps.length F)) (hX : XOkW X CA o C) (hr : Room k X.A) (ha : PA X (e :: es) (tA C fa))
    (hl : ALen fa m) (hmn : m + dv.length = ps.length := by rfl) (hg : Gl X x := by rfl)
    (hdb : (x == ("__debug__" : Str)) = false := by decide) (he : starEach (e :: es) X.env = (false, eval e X.env) :: starEach es X.env := by exact starC rfl) (hpl : (backTo pos (starEach es X.env)).any (·.1) = false := by rfl) :
    PE X (.Call (.Name x p) (e :: es) [] pos) (tE C (eCall F dv fa)) := by
  obtain ⟨f, fd, ds, dvs, hm, hk, Fk, hb, hd, hdv⟩ := Hf.ex
  exact PEimp (pe_callSD (E := C.EB) Fk hr hg hm hk hb hd (pass_of hX) ha hdb he hpl) fun σ H Q h => by
    obtain ⟨g, rh, st, S, w⟩ := h
    refine ⟨g, rh, st, S, ?_⟩
    have w : wpG C Rep Q g H ((fa rh st).bind fun ds st => runP F (ds ++ dv) st) := w
    cases q : fa rh st with
    | ok ds st1 =>
      rw [q] at w
      intro g1 H1 vs G k r
      have S1 := S.grow G k
      have hll := hl rh st ds st1 q
      rw [← hX.ca]
      exact call_sp S1 (by rw [List.length_append, hll]; exact hmn) (r.append (hdv g1 H1)) (wkG.mono _ _ _ _ _ G w)
    | err c d st' => rw [q] at w; exact w
    | stuck => rw [q] at w; exact w.elim
theorem fx_call {fa : Ex (List D)} {m : Nat} (Hf : HasX X k x ps dv (spO CA ps.length F)) (hX : XOkW X CA o C) (hr : Room k X.A) (ha : PA X (e :: es) (tA C fa))
    (hl : ALen fa m) (hmn : m + dv.length = ps.length := by rfl) (hg : Gl X x := by rfl)
    (hdb : (x == ("__debug__" : Str)) = false := by decide) (he : starEach (e :: es) X.env = (false, eval e X.env) :: starEach es X.env := by exact starC rfl) (hpl : (backTo pos (starEach es X.env)).any (·.1) = false := by rfl) :
    PE X (.Call (.Name x p) (e :: es) [] pos) (tX C (eCall F dv fa)) := by
  obtain ⟨f, fd, ds, dvs, hm, hk, Fk, hb, hd, hdv⟩ := Hf.ex
  exact PEimp (pe_callSD (E := C.EB) Fk hr hg hm hk hb hd (pass_of hX) ha hdb he hpl) fun σ H Q h => by
    obtain ⟨g, rh, st, S, w⟩ := h
    refine ⟨g, rh, st, S, ?_⟩
    have w : wX C Q g H ((fa rh st).bind fun ds st => runP F (ds ++ dv) st) := w
    cases q : fa rh st with
    | ok ds st1 =>
      rw [q] at w
      intro g1 H1 vs G k r
      have S1 := S.grow G k
      have hll := hl rh st ds st1 q
      rw [← hX.ca]
      exact call_spO S1 (by rw [List.length_append, hll]; exact hmn) (r.append (hdv g1 H1)) (wkX.mono _ _ _ _ _ G w)
    | err c d st' => rw [q] at w; exact w
    | stuck => rw [q] at w; exact w.elim

/-! ### calls with registers -/
def rNil : Ex (List Ar) := fun _ st => .ok [] st
def rCons (f : Ex D) (k : Ex (List Ar)) : Ex (List Ar) := fun rh st => (f rh st).bind fun d st => (k rh st).bind fun ds st => .ok (.d d :: ds) st
def eReg (i : Nat) : Ex Ar := fun rh st => match rh[i]? with
  | some (some (.reg n)) => .ok (.r n) st
  | _ => .stuck
def rConsR (i : Nat) (k : Ex (List Ar)) : Ex (List Ar) := fun rh st => (eReg i rh st).bind fun d st => (k rh st).bind fun ds st => .ok (d :: ds) st
theorem fe_reg (i : Nat) (hN : X.N[i]? = some x := by rfl) (hv : Vis X.env.scope x := by first | exact Or.inl rfl | exact Or.inr (Or.inl rfl) | exact Or.inr (Or.inr rfl)) (hd : (x == ("__debug__" : Str)) = false := by decide)
    (hcd : (x == ("__classdict__" : Str)) = false := by decide) : PE X (.Name x pos) (tG C ArRep (eReg i)) := PEimp (pe_var hN hv hd hcd) fun σ H Q ⟨g, rh, st, S, w⟩ => by
  unfold eReg at w
  split at w
  · rename_i n hi
    obtain ⟨v, h1, h2⟩ := S.rel.rep i _ hi
    exact ⟨v, h1, w g H v (Grow.refl S.ok.z) S.ok h2⟩
  · exact w.elim
theorem fr_nil : PA X [] (tAr C rNil) := PAimp pa_nil fun σ H Q ⟨g, rh, st, S, w⟩ => w g H [] (Grow.refl S.ok.z) S.ok .nil
theorem fr_cons {f : Ex D} {k : Ex (List Ar)} (ha : PE X e (tE C f)) (hr : PA X es (tAr C k)) (hs : starEach (e :: es) X.env = (false, eval e X.env) :: starEach es X.env := by exact starC rfl) : PA X (e :: es) (tAr C (rCons f k)) :=
  PAimp (pa_cons ha hr hs) fun σ H Q h => (bind2 mono_rep wkG h).mono fun x H1 h1 => h1.mono fun y H2 ⟨a, b, g, rh, st, S, ra, rb, w⟩ => w g H2 _ (Grow.refl S.ok.z) S.ok (.cons ra rb)
theorem fr_consR (i : Nat) {k : Ex (List Ar)} {p : Pos} (hr : PA X es (tAr C k)) (hN : X.N[i]? = some x := by rfl) (hv : Vis X.env.scope x := by first | exact Or.inl rfl | exact Or.inr (Or.inl rfl) | exact Or.inr (Or.inr rfl)) (hd : (x == ("__debug__" : Str)) = false := by decide)
    (hcd : (x == ("__classdict__" : Str)) = false := by decide) (hs : starEach (.Name x p :: es) X.env = (false, eval (.Name x p) X.env) :: starEach es X.env := by exact starC rfl) : PA X (.Name x p :: es) (tAr C (rConsR i k)) :=
  PAimp (pa_cons (fe_reg (C := C) i hN hv hd hcd) hr hs) fun σ H Q h => (bind2 mono_ar wkG h).mono fun x H1 h1 => h1.mono fun y H2 ⟨a, b, g, rh, st, S, ra, rb, w⟩ => w g H2 _ (Grow.refl S.ok.z) S.ok (.cons ra rb)
theorem rlen_nil : ALen rNil 0 := fun _ _ _ _ h => by cases h; rfl
theorem rlen_cons {f : Ex D} {k : Ex (List Ar)} {m : Nat} (h : ALen k m) : ALen (rCons f k) (m + 1) := fun rh st d st' e => by
  unfold rCons at e
  cases q : f rh st with
  | ok x s1 =>
    rw [q] at e
    have e : ((k rh s1).bind fun ds st => .ok (Ar.d x :: ds) st) = Out.ok d st' := e
    cases q2 : k rh s1 with
    | ok y s2 => rw [q2] at e; cases e; rw [List.length_cons, h _ _ _ _ q2]
    | err c d s2 => rw [q2] at e; cases e
    | stuck => rw [q2] at e; cases e
  | err c d s1 => rw [q] at e; cases e
  | stuck => rw [q] at e; cases e
theorem rlen_consR {i : Nat} {k : Ex (List Ar)} {m : Nat} (h : ALen k m) : ALen (rConsR i k) (m + 1) := fun rh st d st' e => by
  unfold rConsR at e
  cases q : eReg i rh st with
  | ok x s1 =>
    rw [q] at e
    have e : ((k rh s1).bind fun ds st => .ok (x :: ds) st) = Out.ok d st' := e
    cases q2 : k rh s1 with
    | ok y s2 => rw [q2] at e; cases e; rw [List.length_cons, h _ _ _ _ q2]
    | err c d s2 => rw [q2] at e; cases e
    | stuck => rw [q2] at e; cases e
  | err c d s1 => rw [q] at e; cases e
  | stuck => rw [q] at e; cases e
def eCallR (F : Fn) (dv : List D) (fa : Ex (List Ar)) : Ex D := fun rh st => (fa rh st).bind fun as st => F (as ++ dv.map Ar.d) st
theorem ar_app {g : Gh} {H : Hp} : ∀ {as : List Ar} {vs : List V} {bs : List Ar} {ws : List V}, ArReps g H as vs → ArReps g H bs ws → ArReps g H (as ++ bs) (vs ++ ws)
  | [], _, _, _, h, q => by cases h; exact q
  | a :: as, _, _, _, h, q => by
    cases h with
    | cons r t => exact .cons r (ar_app t q)
theorem fe_callR {fa : Ex (List Ar)} {m : Nat} (Hf : HasX X k x ps dv (spF CA ps.length F)) (hX : XOkW X CA o C) (hr : Room k X.A) (ha : PA X (e :: es) (tAr C fa))
    (hl : ALen fa m) (hmn : m + dv.length = ps.length := by rfl) (hg : Gl X x := by rfl)
    (hdb : (x == ("__debug__" : Str)) = false := by decide) (he : starEach (e :: es) X.env = (false, eval e X.env) :: starEach es X.env := by exact starC rfl) (hpl : (backTo pos (starEach es X.env)).any (·.1) = false := by rfl) :
    PE X (.Call (.Name x p) (e :: es) [] pos) (tE C (eCallR F dv fa)) := by
  obtain ⟨f, fd, ds, dvs, hm, hk, Fk, hb, hd, hdv⟩ := Hf.ex
  exact PEimp (pe_callSD (E := C.EB) Fk hr hg hm hk hb hd (pass_of hX) ha hdb he hpl) fun σ H Q h => by
    obtain ⟨g, rh, st, S, w⟩ := h
    refine ⟨g, rh, st, S, ?_⟩
    have w : wpG C Rep Q g H ((fa rh st).bind fun as st => F (as ++ dv.map Ar.d) st) := w
    cases q : fa rh st with
    | ok as st1 =>
      rw [q] at w
      intro g1 H1 vs G k r
      have S1 := S.grow G k
      have hll := hl rh st as st1 q
      rw [← hX.ca]
      have w : wpG C Rep Q g H (F (as ++ dv.map Ar.d) st1) := w
      refine ⟨g1, as ++ dv.map Ar.d, st1, by rw [List.length_append, hll, List.length_map]; exact hmn, ar_app r (ars_of (fun _ h => h) (hdv g1 H1)), k, ?_⟩
      cases q2 : F (as ++ dv.map Ar.d) st1 with
      | ok d st2 => rw [q2] at w; exact fun g2 H2 v G2 k2 r2 => w g2 H2 v (G.trans G2) k2 r2
      | err c d st2 => rw [q2] at w; exact fun g2 H2 dx v G2 k2 hx hn r2 => ⟨w g2 H2 dx v (S1.gr.trans G2) k2 hx (S1.gr.back hn) r2, S1.b⟩
      | stuck => rw [q2] at w; exact w.elim
    | err c d st' => rw [q] at w; exact w
    | stuck => rw [q] at w; exact w.elim
theorem fx_callR {fa : Ex (List Ar)} {m : Nat} (Hf : HasX X k x ps dv (spO CA ps.length F)) (hX : XOkW X CA o C) (hr : Room k X.A) (ha : PA X (e :: es) (tAr C fa))
    (hl : ALen fa m) (hmn : m + dv.length = ps.length := by rfl) (hg : Gl X x := by rfl)
    (hdb : (x == ("__debug__" : Str)) = false := by decide) (he : starEach (e :: es) X.env = (false, eval e X.env) :: starEach es X.env := by exact starC rfl) (hpl : (backTo pos (starEach es X.env)).any (·.1) = false := by rfl) :
    PE X (.Call (.Name x p) (e :: es) [] pos) (tX C (eCallR F dv fa)) := by
  obtain ⟨f, fd, ds, dvs, hm, hk, Fk, hb, hd, hdv⟩ := Hf.ex
  exact PEimp (pe_callSD (E := C.EB) Fk hr hg hm hk hb hd (pass_of hX) ha hdb he hpl) fun σ H Q h => by
    obtain ⟨g, rh, st, S, w⟩ := h
    refine ⟨g, rh, st, S, ?_⟩
    have w : wX C Q g H ((fa rh st).bind fun as st => F (as ++ dv.map Ar.d) st) := w
    cases q : fa rh st with
    | ok as st1 =>
      rw [q] at w
      intro g1 H1 vs G k r
      have S1 := S.grow G k
      have hll := hl rh st as st1 q
      rw [← hX.ca]
      have w : wX C Q g H (F (as ++ dv.map Ar.d) st1) := w
      refine ⟨g1, as ++ dv.map Ar.d, st1, by rw [List.length_append, hll, List.length_map]; exact hmn, ar_app r (ars_of (fun _ h => h) (hdv g1 H1)), k, ?_⟩
      cases q2 : F (as ++ dv.map Ar.d) st1 with
      | ok d st2 =>
        rw [q2] at w
        cases d with
        | list ls => exact fun g2 H2 a vs G2 k2 ha r2 ow => w g2 H2 a vs (G.trans G2) k2 (G.back ow.2.2) ow.1 ow.2.1 ha r2
        | _ => exact fun g2 H2 v G2 k2 r2 => w g2 H2 v (G.trans G2) k2 r2
      | err c d st2 => rw [q2] at w; exact fun g2 H2 dx v G2 k2 hx hn r2 => ⟨w g2 H2 dx v (S1.gr.trans G2) k2 hx (S1.gr.back hn) r2, S1.b⟩
      | stuck => rw [q2] at w; exact w.elim
    | err c d st' => rw [q] at w; exact w
    | stuck => rw [q] at w; exact w.elim
end
end FL

/-! FLe -/
set_option Elab.async false
set_option linter.all false
set_option maxRecDepth 100000
set_option maxHeartbeats 4000000
/-! FLe: operators, comparisons, built-ins, by data. -/
namespace FL
open PySem PySem.Spec PyProof.Rows L2

def lim : Nat := 16777216
theorem lim_eq : lim = sizeLine := sizeLine_eq.symm
/-! ### data -/
mutual
theorem dp_of {K : PySem.W.Frag} {g : Gh} {H : Hp} : ∀ (d : D) (v : V), Rep g H d v → Dp K H v d
  | .none, _, h => by cases h; exact .non
  | .bool b, _, h => by cases h; exact .bl b
  | .int b, _, h => by cases h; exact .int b
  | .str b, _, h => by cases h; exact .str b
  | .list ds, _, h => by
    cases h with
    | lst z e r => exact .lst (SqL.of e) (dps_of ds _ r)
  | .tuple ds, _, h => by
    cases h with
    | tup z e r => exact .tup (SqT.of e) (dps_of ds _ r)
  | .dict _, _, h => by cases h
theorem dps_of {K : PySem.W.Frag} {g : Gh} {H : Hp} : ∀ (ds : List D) (vs : List V), Reps g H ds vs → DpAll K H vs ds
  | [], _, h => by cases h; exact .nil
  | d :: ds, _, h => by
    cases h with
    | cons r t => exact .cons (dp_of d _ r) (dps_of ds _ t)
end
theorem dp_of1 {K : PySem.W.Frag} {g : Gh} {H : Hp} {d : D} {v : V} (h : Rep1 g H d v) : Dp K H v d := by
  rcases h with h | ⟨ds, a, vs, rfl, rfl, e, r, n⟩
  · exact dp_of d v h
  · exact .lst (SqL.of e) (dps_of ds _ r)
/-- a new object as the answer -/
theorem new_lst {g : Gh} {H : Hp} {st : List RV} {Q : VK} {p : Addr} {ds : List D} {vs : List V} (k : StOk g H st) (hp : H p = none) (r : Reps g H ds vs) (q : ∀ g' H' v, Grow g H g' H' → StOk g' H' st → Rep g' H' (.list ds) v → Q v H') : Q (.ref p) (upd H p (.lst vs)) := by
  have na := nas_new k.z hp
  exact q (g.add p) _ _ (Grow.add k.z hp ⟨_, upd_same⟩ (Grow.new k.z hp)) ((k.new hp).add ⟨_, upd_same⟩ na) (.lst (.inr rfl) upd_same (r.grow k.z (Grow.new k.z hp)).add)
theorem new_tup {g : Gh} {H : Hp} {st : List RV} {Q : VK} {p : Addr} {ds : List D} {vs : List V} (k : StOk g H st) (hp : H p = none) (r : Reps g H ds vs) (q : ∀ g' H' v, Grow g H g' H' → StOk g' H' st → Rep g' H' (.tuple ds) v → Q v H') : Q (.ref p) (upd H p (.tup vs)) := by
  have na := nas_new k.z hp
  exact q (g.add p) _ _ (Grow.add k.z hp ⟨_, upd_same⟩ (Grow.new k.z hp)) ((k.new hp).add ⟨_, upd_same⟩ na) (.tup (.inr rfl) upd_same (r.grow k.z (Grow.new k.z hp)).add)

/-! ### + - * // % -/
def uAdd : D → D → Option D
  | .int i, .int j => some (.int (i + j))
  | .str a, .str b => if a.length + b.length ≤ lim then some (.str (a ++ b)) else none
  | .list a, .list b => if a.length + b.length ≤ lim then some (.list (a ++ b)) else none
  | .tuple a, .tuple b => if a.length + b.length ≤ lim then some (.tuple (a ++ b)) else none
  | _, _ => none
def rAddAll (K : PySem.W.Frag) : R2 := fun x y H Q => (rI0 fun i j => .int (i + j)) x y H Q ∨ (∃ i j, x = .str i ∧ y = .str j ∧ i.length + j.length ≤ sizeLine ∧ Q (.str (i ++ j)) H) ∨ rCat x y H Q ∨ rCatA K x y H Q
theorem op_addAll {X : Cx} : OpR X (binaryOp .Add) (rAddAll X.K) := op_add.or (op_add_str.or (op_cat.or op_catA))
theorem sem_add {K : PySem.W.Frag} : Sem2 (rAddAll K) uAdd := fun g H st a b x y d Q l k ra rb e q => by
  unfold uAdd at e
  split at e
  · cases e; cases ra.int; cases rb.int
    exact .inl ⟨_, _, rfl, rfl, q g H _ (Grow.refl k.z) k (.int _)⟩
  · split at e
    · rename_i hl
      cases e; cases ra.str; cases rb.str
      exact .inr (.inl ⟨_, _, rfl, rfl, by rw [← lim_eq]; exact hl, q g H _ (Grow.refl k.z) k (.str _)⟩)
    · cases e
  · split at e
    · rename_i hl
      cases e
      obtain ⟨p, vs, rfl, hp, r1, n1⟩ := ra.list k.z
      obtain ⟨p', vs', rfl, hp', r2, n2⟩ := rb.list k.z
      exact .inr (.inr (.inl ⟨p, p', vs, vs', rfl, rfl, hp, hp', by rw [← lim_eq, ← r1.length, ← r2.length]; exact hl, fun q' hq => new_lst k hq (r1.append r2) q⟩))
    · cases e
  · split at e
    · rename_i hl
      cases e
      obtain ⟨p, vs, rfl, z1, hp, r1⟩ := ra.tup
      obtain ⟨p', vs', rfl, z2, hp', r2⟩ := rb.tup
      refine .inr (.inr (.inr ⟨p, p', vs, vs', rfl, rfl, SqT.of hp, SqT.of hp', by rw [← lim_eq, ← r1.length, ← r2.length]; exact hl, fun h0 => ?_, fun _ h0 => ?_, fun _ _ q' hq => new_tup k hq (r1.append r2) q⟩))
      · subst h0
        cases r1 with
        | nil => exact q g H _ (Grow.refl k.z) k (.tup z2 hp' r2)
      · subst h0
        cases r2 with
        | nil => rw [List.append_nil] at q; exact q g H _ (Grow.refl k.z) k (.tup z1 hp r1)
    · cases e
  · cases e
/-- an operator of ints -/
theorem sem_int {C : Int → Int → Prop} {f : Int → Int → Int} {u : D → D → Option D} (hu : ∀ a b d, u a b = some d → ∃ i j, a = .int i ∧ b = .int j ∧ C i j ∧ d = .int (f i j)) : Sem2 (rI C fun i j => .int (f i j)) u := fun g H st a b x y d Q l k ra rb e q => by
  obtain ⟨i, j, rfl, rfl, hc, rfl⟩ := hu _ _ _ e
  cases ra.int; cases rb.int
  exact ⟨i, j, rfl, rfl, hc, q g H _ (Grow.refl k.z) k (.int _)⟩
theorem sem_int0 {f : Int → Int → Int} {u : D → D → Option D} (hu : ∀ a b d, u a b = some d → ∃ i j, a = .int i ∧ b = .int j ∧ d = .int (f i j)) : Sem2 (rI0 fun i j => .int (f i j)) u := fun g H st a b x y d Q l k ra rb e q => by
  obtain ⟨i, j, rfl, rfl, rfl⟩ := hu _ _ _ e
  cases ra.int; cases rb.int
  exact ⟨i, j, rfl, rfl, q g H _ (Grow.refl k.z) k (.int _)⟩
def uSub : D → D → Option D
  | .int i, .int j => some (.int (i - j))
  | _, _ => none
theorem sem_sub : Sem2 (rI0 fun i j => .int (i - j)) uSub := sem_int0 fun a b d e => by
  unfold uSub at e
  split at e
  · cases e; exact ⟨_, _, rfl, rfl, rfl⟩
  · cases e
/-- the product of ints: one of them small, or together less than a million bits -/
def mulOk (i j : Int) : Bool := decide ((i.natAbs < 18446744073709551616 ∨ j.natAbs < 18446744073709551616) ∨ i.natAbs.log2 + j.natAbs.log2 < 1000000)
theorem mulOk_of {i j : Int} (h : mulOk i j = true) : CMulW i j ∨ CMul i j := by
  unfold mulOk at h
  rcases of_decide_eq_true h with (h | h) | h
  · exact .inr (.inl ⟨by omega, by omega⟩)
  · exact .inr (.inr ⟨by omega, by omega⟩)
  · exact .inl h
def rMulX : R2 := fun x y H Q => rI CMulW (fun i j => .int (i * j)) x y H Q ∨ rI CMul (fun i j => .int (i * j)) x y H Q
def uMulI : D → D → Option D
  | .int i, .int j => if mulOk i j then some (.int (i * j)) else none
  | _, _ => none
theorem sem_mulI : Sem2 rMulX uMulI := fun g H st a b x y d Q l k ra rb e q => by
  unfold uMulI at e
  split at e
  · split at e
    · rename_i h
      cases e; cases ra.int; cases rb.int
      rcases mulOk_of h with h | h
      · exact .inl ⟨_, _, rfl, rfl, h, q g H _ (Grow.refl k.z) k (.int _)⟩
      · exact .inr ⟨_, _, rfl, rfl, h, q g H _ (Grow.refl k.z) k (.int _)⟩
    · cases e
  · cases e
def uFdiv : D → D → Option D
  | .int i, .int j => if 0 < j ∧ j.natAbs.log2 < 9000 then some (.int (i / j)) else none
  | _, _ => none
theorem sem_fdiv : Sem2 (rI CDivW fun i j => .int (i / j)) uFdiv := sem_int fun a b d e => by
  unfold uFdiv at e
  split at e
  · split at e
    · rename_i h; cases e; exact ⟨_, _, rfl, rfl, h, rfl⟩
    · cases e
  · cases e
def uMod : D → D → Option D
  | .int i, .int j => if 0 < j then some (.int (i % j)) else none
  | _, _ => none
theorem sem_mod : Sem2 (rI (fun _ j => 0 < j) fun i j => .int (i % j)) uMod := sem_int fun a b d e => by
  unfold uMod at e
  split at e
  · split at e
    · rename_i h; cases e; exact ⟨_, _, rfl, rfl, h, rfl⟩
    · cases e
  · cases e
/-- a list or a text times an int, a product of ints -/
def uMul : D → D → Option D
  | .int i, .int j => if mulOk i j then some (.int (i * j)) else none
  | .list a, .int k => if -(2 ^ 63) ≤ k ∧ k < 2 ^ 63 ∧ a.length * k.toNat ≤ lim then some (.list (List.replicate k.toNat a).flatten) else none
  | .str a, .int k => if -(2 ^ 63) ≤ k ∧ k ≤ 16777216 ∧ a.length * k.toNat ≤ lim then some (.str (Txt.mul a k)) else none
  | _, _ => none
theorem Reps.rep {g : Gh} {H : Hp} {ds : List D} {vs : List V} (h : Reps g H ds vs) : ∀ k : Nat, Reps g H (List.replicate k ds).flatten (List.replicate k vs).flatten
  | 0 => .nil
  | k + 1 => by
    rw [List.replicate_succ, List.replicate_succ, List.flatten_cons, List.flatten_cons]
    exact h.append (Reps.rep h k)
def rMulX' : R2 := fun x y H Q => ∃ i k, x = .str i ∧ y = .int k ∧ MulOk i k ∧ Q (.str (Txt.mul i k)) H
theorem op_mul_str {X : Cx} : OpR X (binaryOp .Mult) rMulX' := by
  intro pins s σ H x y v u Q I rx ry h
  obtain ⟨i, k, rfl, rfl, hz, q⟩ := h
  obtain ⟨t, rfl⟩ := rx
  obtain ⟨t', rfl⟩ := ry
  exact SB.mul hz fun t' tk => ⟨.str (Txt.mul i k), H, I.tok _, ⟨_, rfl⟩, q⟩
def rMulAll : R2 := fun x y H Q => rMulX x y H Q ∨ rRep x y H Q ∨ rMulX' x y H Q
theorem op_mulX {X : Cx} : OpR X (binaryOp .Mult) rMulX := op_mulW.or op_mul
theorem op_mulAll {X : Cx} : OpR X (binaryOp .Mult) rMulAll := op_mulX.or (op_rep.or op_mul_str)
theorem sem_mul : Sem2 rMulAll uMul := fun g H st a b x y d Q l k ra rb e q => by
  unfold uMul at e
  split at e
  · split at e
    · rename_i h
      cases e; cases ra.int; cases rb.int
      rcases mulOk_of h with h | h
      · exact .inl (.inl ⟨_, _, rfl, rfl, h, q g H _ (Grow.refl k.z) k (.int _)⟩)
      · exact .inl (.inr ⟨_, _, rfl, rfl, h, q g H _ (Grow.refl k.z) k (.int _)⟩)
    · cases e
  · split at e
    · rename_i h
      cases e; cases rb.int
      obtain ⟨p, vs, rfl, hp, r1, n1⟩ := ra.list k.z
      exact .inr (.inl ⟨p, _, vs, rfl, rfl, hp, h.1, h.2.1, by rw [← lim_eq, ← r1.length]; exact h.2.2, fun q' hq => new_lst k hq (r1.rep _) q⟩)
    · cases e
  · split at e
    · rename_i i n h
      cases e; cases ra.str; cases rb.int
      refine .inr (.inr ⟨_, _, rfl, rfl, ?_, q g H _ (Grow.refl k.z) k (.str _)⟩)
      by_cases hn : n < 1
      · refine ⟨?_, fun h1 => absurd hn h1, fun h1 => absurd hn h1⟩
        rw [decide_eq_false (by omega : ¬ n < -(2 ^ 63 : Int)), decide_eq_false (by omega : ¬ n ≥ (2 ^ 63 : Int))]; rfl
      · exact PyProof.Rows.mulOk_of i.length n.toNat (Nat.le_refl _) (by omega) h.1 (by omega) h.2.2
    · cases e
  · cases e
/-- powers -/
def powOk (i j : Int) : Bool := decide (0 ≤ j ∧ j ≤ 64 ∧ i.natAbs.log2 < 1000000)
def uPow : D → D → Option D
  | .int i, .int j => if powOk i j then some (.int (i ^ j.toNat)) else none
  | _, _ => none
def CPowW (i j : Int) : Prop := 0 ≤ j ∧ j ≤ 64 ∧ i.natAbs.log2 < 1000000
theorem op_powW {X : Cx} : OpR X (binaryOp .Pow) (rI CPowW fun i j => .int (i ^ j.toNat)) := opI fun i j _ _ _ _ _ hc q => PyProof.Rows.pow_int hc.1 (by
  have b : Builtin.Int.intBits i ≤ i.natAbs.log2 + 1 := by
    unfold Builtin.Int.intBits
    split <;> omega
  have h2 := hc.2.1
  have h3 := hc.2.2
  have h1 := hc.1
  have h4 : (Builtin.Int.intBits i : Int) ≤ 1000000 := by omega
  calc (Builtin.Int.intBits i : Int) * j ≤ 1000000 * 64 := Int.mul_le_mul h4 h2 h1 (by decide)
    _ ≤ 2 ^ 27 := by decide) q
theorem sem_pow : Sem2 (rI CPowW fun i j => .int (i ^ j.toNat)) uPow := sem_int fun a b d e => by
  unfold uPow at e
  split at e
  · split at e
    · rename_i h
      cases e
      unfold powOk at h
      have h' := of_decide_eq_true h
      exact ⟨_, _, rfl, rfl, h', rfl⟩
    · cases e
  · cases e

/-! ### comparisons -/
def uCmpI (p : Int → Int → Bool) : D → D → Option Bool
  | .int i, .int j => some (p i j)
  | _, _ => none
theorem sem_cmpI {p : Int → Int → Bool} : Sem2B (rI0 fun i j => .bl (p i j)) (uCmpI p) := fun g H st a b x y d Q l k ra rb e q => by
  unfold uCmpI at e
  split at e
  · cases e; cases ra.int; cases rb.int; exact ⟨_, _, rfl, rfl, q⟩
  · cases e
def uLt : D → D → Option Bool := uCmpI fun i j => decide (i < j)
def uLe : D → D → Option Bool := uCmpI fun i j => decide (i ≤ j)
def uGt : D → D → Option Bool := uCmpI fun i j => decide (j < i)
def uGe : D → D → Option Bool := uCmpI fun i j => decide (j ≤ i)
theorem sem_lt : Sem2B (rI0 fun i j => .bl (decide (i < j))) uLt := sem_cmpI
theorem sem_le : Sem2B (rI0 fun i j => .bl (decide (i ≤ j))) uLe := sem_cmpI
theorem sem_gt : Sem2B (rI0 fun i j => .bl (decide (j < i))) uGt := sem_cmpI
theorem sem_ge : Sem2B (rI0 fun i j => .bl (decide (j ≤ i))) uGe := sem_cmpI
def shp (d : D) : Bool := SeqAt.shaped d
def uEq (a b : D) : Option Bool := if shp a && shp b then some (PyData.eqv a b) else none
def uNe (a b : D) : Option Bool := if shp a && shp b then some (!PyData.eqv a b) else none
theorem sem_eq {K : PySem.W.Frag} : Sem2B (rEqD K) uEq := fun g H st a b x y d Q l k ra rb e q => by
  unfold uEq at e
  split at e
  · rename_i h
    cases e
    rw [Bool.and_eq_true] at h
    exact ⟨a, b, dp_of1 ra, dp_of1 rb, h.1, h.2, q⟩
  · cases e
theorem sem_ne {K : PySem.W.Frag} : Sem2B (rNeD K) uNe := fun g H st a b x y d Q l k ra rb e q => by
  unfold uNe at e
  split at e
  · rename_i h
    cases e
    rw [Bool.and_eq_true] at h
    exact ⟨a, b, dp_of1 ra, dp_of1 rb, h.1, h.2, q⟩
  · cases e
theorem op_eqF {X : Cx} {CA : Nat → Addr} {C : Ct} {o : Option (List Nat)} (hX : XOkB X CA o C) : OpR X (compareOp .Eq) (rEqD X.K) := op_eqD (by have := hX.hu; omega)
theorem op_neF {X : Cx} {CA : Nat → Addr} {C : Ct} {o : Option (List Nat)} (hX : XOkB X CA o C) : OpR X (compareOp .NotEq) (rNeD X.K) := op_neD (by have := hX.hu; omega)
/-- is None -/
def isNon : D → Bool
  | .none => true
  | _ => false
def uIsN (a b : D) : Option Bool := match b with | .none => some (isNon a) | _ => none
def uNotN (a b : D) : Option Bool := match b with | .none => some (!isNon a) | _ => none
theorem isNon_of {g : Gh} {H : Hp} {a : D} {x : V} (h : Rep1 g H a x) : decide (x = .non) = isNon a := by
  cases a with
  | none => cases h.non; simp [isNon]
  | bool b => cases h.bl; simp [isNon]
  | int b => cases h.int; simp [isNon]
  | str b => cases h.str; simp [isNon]
  | list ds =>
    rcases h with h | ⟨_, a, vs, _, rfl, _⟩
    · cases h; simp [isNon]
    · simp [isNon]
  | tuple ds => obtain ⟨p, vs, rfl, _⟩ := h.tup; simp [isNon]
  | dict ds =>
    rcases h with h | ⟨_, a, vs, e, _⟩
    · cases h
    · cases e
theorem sem_isN : Sem2B (fun x y H Q => y = .non ∧ Q (.bl (decide (x = .non))) H) uIsN := fun g H st a b x y d Q l k ra rb e q => by
  cases b with
  | none =>
    cases rb.non
    have e : some (isNon a) = some d := e
    cases e
    exact ⟨rfl, by rw [isNon_of ra]; exact q⟩
  | _ => cases e
theorem sem_notN : Sem2B (fun x y H Q => y = .non ∧ Q (.bl (!decide (x = .non))) H) uNotN := fun g H st a b x y d Q l k ra rb e q => by
  cases b with
  | none =>
    cases rb.non
    have e : some (!isNon a) = some d := e
    cases e
    exact ⟨rfl, by rw [isNon_of ra]; exact q⟩
  | _ => cases e
/-- in: of a list, a tuple of flat things, a text -/
def flatD : D → Bool
  | .none => true | .bool _ => true | .int _ => true | .str _ => true | _ => false
def uIn (a b : D) : Option Bool := match b with
  | .list ds => if shp a && shp (.list ds) then some (ds.any fun z => PyData.eqv z a) else none
  | .tuple ds => if flatD a && ds.all flatD then some (ds.any fun z => PyData.eqv z a) else none
  | .str z => match a with | .str ⟨cs⟩ => if cs.size = 1 then some (decide ((cs.getD 0 0) ∈ z.cps.toList)) else none | _ => none
  | _ => none
def uNotIn (a b : D) : Option Bool := (uIn a b).map (!·)
theorem flat_of {g : Gh} {H : Hp} {a : D} {x : V} (h : Rep1 g H a x) (f : flatD a = true) : flatV x = true := by
  cases a with
  | none => cases h.non; rfl
  | bool b => cases h.bl; rfl
  | int b => cases h.int; rfl
  | str b => cases h.str; rfl
  | _ => cases f
theorem eqV_of {g : Gh} {H : Hp} {a b : D} {x y : V} (h : Rep1 g H a x) (f : flatD a = true) (h' : Rep1 g H b y) (f' : flatD b = true) : eqV x y = PyData.eqv a b := by
  cases a with
  | none => cases h.non; cases b with
    | none => cases h'.non; rfl
    | bool b => cases h'.bl; rfl
    | int b => cases h'.int; rfl
    | str b => cases h'.str; rfl
    | _ => cases f'
  | bool c => cases h.bl; cases b with
    | none => cases h'.non; rfl
    | bool b => cases h'.bl; simp [eqV, PyData.eqv]
    | int b => cases h'.int; simp [eqV, PyData.eqv]
    | str b => cases h'.str; rfl
    | _ => cases f'
  | int c => cases h.int; cases b with
    | none => cases h'.non; rfl
    | bool b => cases h'.bl; simp [eqV, PyData.eqv]
    | int b => cases h'.int; simp [eqV, PyData.eqv]
    | str b => cases h'.str; rfl
    | _ => cases f'
  | str c => cases h.str; cases b with
    | none => cases h'.non; rfl
    | bool b => cases h'.bl; rfl
    | int b => cases h'.int; rfl
    | str b => cases h'.str; simp [eqV, PyData.eqv]
    | _ => cases f'
  | _ => cases f
theorem inV_of {g : Gh} {H : Hp} {a : D} {x : V} (h : Rep1 g H a x) (f : flatD a = true) : ∀ {ds : List D} {vs : List V}, Reps g H ds vs → ds.all flatD = true → inV x vs = ds.any fun z => PyData.eqv z a
  | [], _, r, _ => by cases r; rfl
  | d :: ds, _, r, fs => by
    cases r with
    | cons r t =>
      rw [List.all_cons, Bool.and_eq_true] at fs
      unfold inV
      rw [List.any_cons, List.any_cons, eqV_of (.inl r) fs.1 h f]
      exact congrArg _ (inV_of h f t fs.2)
theorem flats_of {g : Gh} {H : Hp} : ∀ {ds : List D} {vs : List V}, Reps g H ds vs → ds.all flatD = true → vs.all flatV = true
  | [], _, r, _ => by cases r; rfl
  | d :: ds, _, r, fs => by
    cases r with
    | cons r t =>
      rw [List.all_cons, Bool.and_eq_true] at fs
      rw [List.all_cons, flat_of (.inl r) fs.1, flats_of t fs.2]; rfl
def rInAll (K : PySem.W.Frag) : R2 := fun x y H Q => rInD K x y H Q ∨ rIn K false x y H Q ∨ ∃ (c : Nat) (z : Str), x = .str ⟨#[c]⟩ ∧ y = .str z ∧ Q (.bl (decide (c ∈ z.cps.toList))) H
def rNotInAll (K : PySem.W.Frag) : R2 := fun x y H Q => rNotInD K x y H Q ∨ rIn K true x y H Q ∨ ∃ (c : Nat) (z : Str), x = .str ⟨#[c]⟩ ∧ y = .str z ∧ Q (.bl (!decide (c ∈ z.cps.toList))) H
theorem op_inF {X : Cx} {CA : Nat → Addr} {C : Ct} {o : Option (List Nat)} (hX : XOkB X CA o C) : OpR X (compareOp .In) (rInAll X.K) := (op_inD hX.hu).or (op_in_seq.or op_in_sign)
theorem op_notInF {X : Cx} {CA : Nat → Addr} {C : Ct} {o : Option (List Nat)} (hX : XOkB X CA o C) : OpR X (compareOp .NotIn) (rNotInAll X.K) := (op_notInD hX.hu).or (op_notIn_seq.or op_notIn_sign)
theorem one_sign {cs : Array Nat} (h : cs.size = 1) : cs = #[cs.getD 0 0] := by
  obtain ⟨l⟩ := cs
  match l, h with
  | [c], _ => rfl
theorem sem_in_core {K : PySem.W.Frag} {g : Gh} {H : Hp} {st : List RV} {a b : D} {x y : V} {d : Bool} {Q : Bool → Prop} (k : StOk g H st) (ra : Rep1 g H a x) (rb : Rep1 g H b y) (e : uIn a b = some d) (q : Q d) :
    (∃ d ds, Dp K H x d ∧ Dp K H y (.list ds) ∧ SeqAt.shaped d = true ∧ SeqAt.shaped (.list ds) = true ∧ Q (ds.any fun z => PyData.eqv z d)) ∨
    (∃ p xs, y = .ref p ∧ (SqL K H p xs ∨ SqT K H p xs) ∧ flatV x = true ∧ xs.all flatV = true ∧ Q (inV x xs)) ∨ ∃ (c : Nat) (z : Str), x = .str ⟨#[c]⟩ ∧ y = .str z ∧ Q (decide (c ∈ z.cps.toList)) := by
  cases b with
  | list ds =>
    have e : (if shp a && shp (.list ds) then some (ds.any fun z => PyData.eqv z a) else none) = some d := e
    split at e
    · rename_i h
      cases e
      rw [Bool.and_eq_true] at h
      exact .inl ⟨a, ds, dp_of1 ra, dp_of1 rb, h.1, h.2, q⟩
    · cases e
  | tuple ds =>
    have e : (if flatD a && ds.all flatD then some (ds.any fun z => PyData.eqv z a) else none) = some d := e
    split at e
    · rename_i h
      cases e
      rw [Bool.and_eq_true] at h
      obtain ⟨p, vs, rfl, z, hp, r⟩ := rb.tup
      exact .inr (.inl ⟨p, vs, rfl, .inr (SqT.of hp), flat_of ra h.1, flats_of r h.2, by rw [inV_of ra h.1 r h.2]; exact q⟩)
    · cases e
  | str z =>
    cases rb.str
    cases a with
    | str s =>
      obtain ⟨cs⟩ := s
      cases ra.str
      have e : (if cs.size = 1 then some (decide ((cs.getD 0 0) ∈ z.cps.toList)) else none) = some d := e
      split at e
      · rename_i h
        cases e
        exact .inr (.inr ⟨cs.getD 0 0, z, by rw [← one_sign h], rfl, q⟩)
      · cases e
    | _ => cases e
  | _ => cases e
theorem sem_in {K : PySem.W.Frag} : Sem2B (rInAll K) uIn := fun g H st a b x y d Q l k ra rb e q => sem_in_core (K := K) (Q := fun b => Q (.bl b) H) k ra rb e q
theorem sem_notIn {K : PySem.W.Frag} : Sem2B (rNotInAll K) uNotIn := fun g H st a b x y d Q l k ra rb e q => by
  unfold uNotIn at e
  cases e1 : uIn a b with
  | none => rw [e1] at e; cases e
  | some c =>
    rw [e1] at e
    cases e
    exact sem_in_core (K := K) (Q := fun b => Q (.bl (!b)) H) k ra rb e1 q

/-! ### subscripts -/
def uIx (a b : D) : Option D := match a, b with
  | .list ds, .int i => atI ds i
  | .tuple ds, .int i => atI ds i
  | .str z, .int i => if z.length ≤ lim then (atI z.cps.toList i).map fun c => .str ⟨#[c]⟩ else none
  | _, _ => none
theorem reps_at {g : Gh} {H : Hp} {ds : List D} {vs : List V} {i : Int} {d : D} (r : Reps g H ds vs) (h : atI ds i = some d) : ∃ v, atI vs i = some v ∧ Rep g H d v := by
  unfold atI at h ⊢
  rw [← r.length]
  cases e : ixN ds.length i with
  | none => rw [e] at h; cases h
  | some j =>
    rw [e] at h
    exact r.get h
theorem sem_ix {K : PySem.W.Frag} : Sem2 (rIx K) uIx := fun g H st a b x y d Q l k ra rb e q => by
  unfold uIx at e
  split at e
  · cases rb.int
    obtain ⟨p, vs, rfl, hp, r, n⟩ := ra.list k.z
    obtain ⟨v, h1, h2⟩ := reps_at r e
    exact .inl ⟨p, vs, _, v, rfl, rfl, SqL.of hp, h1, q g H v (Grow.refl k.z) k h2⟩
  · cases rb.int
    obtain ⟨p, vs, rfl, z, hp, r⟩ := ra.tup
    obtain ⟨v, h1, h2⟩ := reps_at r e
    exact .inr (.inl ⟨p, vs, _, v, rfl, rfl, SqT.of hp, h1, q g H v (Grow.refl k.z) k h2⟩)
  · split at e
    · rename_i z i hz
      cases ra.str; cases rb.int
      cases e1 : atI z.cps.toList i with
      | none => rw [e1] at e; cases e
      | some c =>
        rw [e1] at e
        cases e
        exact .inr (.inr ⟨z, i, c, rfl, rfl, by rw [← lim_eq]; exact hz, e1, q g H _ (Grow.refl k.z) k (.str _)⟩)
    · cases e
  · cases e

/-! ### built-ins, called -/
section
variable {X : Cx} {C : Ct} {e : Expr} {es : List Expr} {pos p : Pos} {x : Str} {id T : String} {r : List V → Hp → VK → Prop}
theorem fe_callB {u : List D → Option D} {fa : Ex (List D)} (hc : CallR X (.builtin id) r) (hu : SemN r u) (hg : Gl X x) (hm : X.mg x = none) (hv : bootBuiltins x = some (.builtin id)) (ha : PA X (e :: es) (tA1 C fa)) (hn : x ≠ "__name__" := by decide) (hdb : (x == ("__debug__" : Str)) = false := by decide)
    (he : starEach (e :: es) X.env = (false, eval e X.env) :: starEach es X.env := by exact starC rfl) (hpl : (backTo pos (starEach es X.env)).any (·.1) = false := by rfl) : PE X (.Call (.Name x p) (e :: es) [] pos) (tE C (eCallB u fa)) :=
  PEimp (pe_callB (callLens hc) hg hm hv ha hn hdb he hpl) fun σ H Q h => (bind1 wkG h).mono fun xs H1 ⟨ds, g, rh, st, S, ra, w⟩ l => by
    cases e : u ds with
    | none => rw [e] at w; exact w.elim
    | some d => rw [e] at w; exact hu g H1 st ds xs d Q l S.ok ra e w
theorem fe_callTy {u : List D → Option D} {fa : Ex (List D)} (hc : CallR X (.type T) r) (hu : SemN r u) (hg : Gl X x) (hm : X.mg x = none) (hv : bootBuiltins x = some (.type T)) (ha : PA X (e :: es) (tA1 C fa)) (hn : x ≠ "__name__" := by decide) (hdb : (x == ("__debug__" : Str)) = false := by decide)
    (he : starEach (e :: es) X.env = (false, eval e X.env) :: starEach es X.env := by exact starC rfl) (hpl : (backTo pos (starEach es X.env)).any (·.1) = false := by rfl) : PE X (.Call (.Name x p) (e :: es) [] pos) (tE C (eCallB u fa)) :=
  PEimp (pe_callTy (callLens hc) hg hm hv ha hn hdb he hpl) fun σ H Q h => (bind1 wkG h).mono fun xs H1 ⟨ds, g, rh, st, S, ra, w⟩ l => by
    cases e : u ds with
    | none => rw [e] at w; exact w.elim
    | some d => rw [e] at w; exact hu g H1 st ds xs d Q l S.ok ra e w
end
def uLen (ds : List D) : Option D := match ds with
  | [.list l] => some (.int l.length)
  | [.tuple l] => some (.int l.length)
  | [.str z] => if z.length ≤ lim then some (.int z.length) else none
  | _ => none
def rLenF (K : PySem.W.Frag) : List V → Hp → VK → Prop := fun xs H Q => ∃ x n, xs = [x] ∧ LenV K x H n ∧ Q (.int n) H
theorem sem_len {K : PySem.W.Frag} : SemN (rLenF K) uLen := fun g H st as xs d Q l k r e q => by
  unfold uLen at e
  split at e
  · cases e
    obtain ⟨x, r1, rfl, q1, q2⟩ := reps1_cons r
    cases reps1_nil q2
    obtain ⟨p, vs, rfl, hp, r1, n⟩ := q1.list k.z
    exact ⟨_, vs.length, rfl, .inl ⟨vs, SqL.of hp, rfl⟩, by rw [← r1.length]; exact q g H _ (Grow.refl k.z) k (.int _)⟩
  · cases e
    obtain ⟨x, r1, rfl, q1, q2⟩ := reps1_cons r
    cases reps1_nil q2
    obtain ⟨p, vs, rfl, z, hp, r1⟩ := q1.tup
    exact ⟨_, vs.length, rfl, .inr ⟨vs, SqT.of hp, rfl⟩, by rw [← r1.length]; exact q g H _ (Grow.refl k.z) k (.int _)⟩
  · split at e
    · rename_i z hz
      cases e
      obtain ⟨x, r1, rfl, q1, q2⟩ := reps1_cons r
      cases reps1_nil q2
      cases q1.str
      exact ⟨_, z.length, rfl, ⟨by rw [← lim_eq]; exact hz, rfl⟩, q g H _ (Grow.refl k.z) k (.int _)⟩
    · cases e
  · cases e
def uMax2 (ds : List D) : Option D := match ds with
  | [.int i, .int j] => some (.int (if j > i then j else i))
  | _ => none
def uMin2 (ds : List D) : Option D := match ds with
  | [.int i, .int j] => some (.int (if j < i then j else i))
  | _ => none
theorem sem_max2 : SemN (fun xs H Q => ∃ i j, xs = [.int i, .int j] ∧ Q (.int (if j > i then j else i)) H) uMax2 := fun g H st as xs d Q l k r e q => by
  unfold uMax2 at e
  split at e
  · cases e
    obtain ⟨x, r1, rfl, q1, q2⟩ := reps1_cons r
    obtain ⟨y, r2, rfl, q3, q4⟩ := reps1_cons q2
    cases reps1_nil q4
    cases q1.int; cases q3.int
    exact ⟨_, _, rfl, q g H _ (Grow.refl k.z) k (.int _)⟩
  · cases e
theorem sem_min2 : SemN (fun xs H Q => ∃ i j, xs = [.int i, .int j] ∧ Q (.int (if j < i then j else i)) H) uMin2 := fun g H st as xs d Q l k r e q => by
  unfold uMin2 at e
  split at e
  · cases e
    obtain ⟨x, r1, rfl, q1, q2⟩ := reps1_cons r
    obtain ⟨y, r2, rfl, q3, q4⟩ := reps1_cons q2
    cases reps1_nil q4
    cases q1.int; cases q3.int
    exact ⟨_, _, rfl, q g H _ (Grow.refl k.z) k (.int _)⟩
  · cases e
/-- the ints of a list -/
def intsOf : List D → Option (List Int)
  | [] => some []
  | .int i :: ds => (intsOf ds).map (i :: ·)
  | _ :: _ => none
theorem intsOf_eq : ∀ {ds : List D} {ns : List Int}, intsOf ds = some ns → ds = ns.map PyData.int
  | [], ns, h => by cases h; rfl
  | d :: ds, ns, h => by
    cases d with
    | int i =>
      unfold intsOf at h
      cases e : intsOf ds with
      | none => rw [e] at h; cases h
      | some ms => rw [e] at h; cases h; rw [intsOf_eq e]; rfl
    | _ => cases h
@[simp] theorem intsOf_map (ns : List Int) : intsOf (ns.map PyData.int) = some ns := by
  induction ns with
  | nil => rfl
  | cons n ns ih => rw [List.map_cons]; unfold intsOf; rw [ih]; rfl
def maxL : List Int → Int
  | [] => 0
  | [a] => a
  | a :: r => let m := maxL r; if m > a then m else a
def minL : List Int → Int
  | [] => 0
  | [a] => a
  | a :: r => let m := minL r; if m < a then m else a
theorem maxL_spec : ∀ {l : List Int} {m : Int}, m ∈ l → (∀ y ∈ l, y ≤ m) → m = maxL l
  | [a], m, h, _ => by simp at h; rw [h]; rfl
  | a :: b :: r, m, h, hle => by
    show m = if maxL (b :: r) > a then maxL (b :: r) else a
    have ha := hle a (by simp)
    by_cases hm : m ∈ b :: r
    · have ih := maxL_spec (l := b :: r) (m := m) hm fun y hy => hle y (List.mem_cons_of_mem _ hy)
      rw [← ih]
      split <;> omega
    · have hma : m = a := by
        rcases List.mem_cons.mp h with e | e
        · exact e
        · exact absurd e hm
      have hmax : ∀ l : List Int, l ≠ [] → maxL l ∈ l := fun l => by
        induction l with
        | nil => intro h; exact absurd rfl h
        | cons x xs ih =>
          intro _
          cases xs with
          | nil => simp [maxL]
          | cons y ys =>
            show (if maxL (y :: ys) > x then maxL (y :: ys) else x) ∈ x :: y :: ys
            split
            · exact List.mem_cons_of_mem _ (ih (by simp))
            · exact List.mem_cons_self
      have := hle _ (List.mem_cons_of_mem _ (hmax (b :: r) (by simp)))
      rw [if_neg (by omega)]; exact hma
theorem minL_spec : ∀ {l : List Int} {m : Int}, m ∈ l → (∀ y ∈ l, m ≤ y) → m = minL l
  | [a], m, h, _ => by simp at h; rw [h]; rfl
  | a :: b :: r, m, h, hle => by
    show m = if minL (b :: r) < a then minL (b :: r) else a
    have ha := hle a (by simp)
    by_cases hm : m ∈ b :: r
    · have ih := minL_spec (l := b :: r) (m := m) hm fun y hy => hle y (List.mem_cons_of_mem _ hy)
      rw [← ih]
      split <;> omega
    · have hma : m = a := by
        rcases List.mem_cons.mp h with e | e
        · exact e
        · exact absurd e hm
      have hmin : ∀ l : List Int, l ≠ [] → minL l ∈ l := fun l => by
        induction l with
        | nil => intro h; exact absurd rfl h
        | cons x xs ih =>
          intro _
          cases xs with
          | nil => simp [minL]
          | cons y ys =>
            show (if minL (y :: ys) < x then minL (y :: ys) else x) ∈ x :: y :: ys
            split
            · exact List.mem_cons_of_mem _ (ih (by simp))
            · exact List.mem_cons_self
      have := hle _ (List.mem_cons_of_mem _ (hmin (b :: r) (by simp)))
      rw [if_neg (by omega)]; exact hma
/-- a built-in of one list of ints -/
def uInts (f : List Int → Option Int) (ds : List D) : Option D := match ds with
  | [.list l] => ((intsOf l).bind f).map PyData.int
  | _ => none
def uSum : List D → Option D := uInts fun ns => some ns.sum
def uMax1 : List D → Option D := uInts fun ns => if ns.isEmpty then none else some (maxL ns)
def uMin1 : List D → Option D := uInts fun ns => if ns.isEmpty then none else some (minL ns)
theorem ints_arg {f : List Int → Option Int} {g : Gh} {H : Hp} {st : List RV} {as : List D} {xs : List V} {d : D} (k : StOk g H st) (r : Reps1 g H as xs) (e : uInts f as = some d) : ∃ p ns m, xs = [.ref p] ∧ H p = some (.lst (ns.map V.int)) ∧ f ns = some m ∧ d = .int m := by
  unfold uInts at e
  split at e
  · rename_i l
    cases e1 : intsOf l with
    | none => rw [e1] at e; cases e
    | some ns =>
      rw [e1] at e
      have e : (f ns).map PyData.int = some d := e
      cases e2 : f ns with
      | none => rw [e2] at e; cases e
      | some m =>
        rw [e2] at e
        cases e
        obtain ⟨x, r1, rfl, q1, q2⟩ := reps1_cons r
        cases reps1_nil q2
        obtain ⟨p, vs, rfl, hp, r1, n⟩ := q1.list k.z
        rw [intsOf_eq e1] at r1
        rw [r1.ints_inv] at hp
        exact ⟨p, ns, m, rfl, hp, e2, rfl⟩
  · cases e
theorem sem_sum {K : PySem.W.Frag} : SemN (rSum K) uSum := fun g H st as xs d Q l k r e q => by
  obtain ⟨p, ns, m, rfl, hp, e1, rfl⟩ := ints_arg k r e
  cases e1
  exact ⟨p, ns, rfl, SqL.of hp, q g H _ (Grow.refl k.z) k (.int _)⟩
theorem sem_max1 {K : PySem.W.Frag} : SemN (rMax K) uMax1 := fun g H st as xs d Q l k r e q => by
  obtain ⟨p, ns, m, rfl, hp, e1, rfl⟩ := ints_arg k r e
  split at e1
  · cases e1
  · rename_i h
    cases e1
    refine ⟨p, ns, rfl, SqL.of hp, ?_, fun m h1 h2 => ?_⟩
    · cases ns with
      | nil => simp at h
      | cons => simp
    · rw [maxL_spec h1 h2]; exact q g H _ (Grow.refl k.z) k (.int _)
theorem sem_min1 {K : PySem.W.Frag} : SemN (rMin K) uMin1 := fun g H st as xs d Q l k r e q => by
  obtain ⟨p, ns, m, rfl, hp, e1, rfl⟩ := ints_arg k r e
  split at e1
  · cases e1
  · rename_i h
    cases e1
    refine ⟨p, ns, rfl, SqL.of hp, ?_, fun m h1 h2 => ?_⟩
    · cases ns with
      | nil => simp at h
      | cons => simp
    · rw [minL_spec h1 h2]; exact q g H _ (Grow.refl k.z) k (.int _)
def uAbs (ds : List D) : Option D := match ds with
  | [.int i] => some (.int (if i < 0 then -i else i))
  | _ => none
theorem sem_abs : SemN (fun xs H Q => ∃ i, xs = [.int i] ∧ Q (.int (if i < 0 then -i else i)) H) uAbs := fun g H st as xs d Q l k r e q => by
  unfold uAbs at e
  split at e
  · cases e
    obtain ⟨x, r1, rfl, q1, q2⟩ := reps1_cons r
    cases reps1_nil q2
    cases q1.int
    exact ⟨_, rfl, q g H _ (Grow.refl k.z) k (.int _)⟩
  · cases e
def uInt (ds : List D) : Option D := match ds with
  | [.int i] => some (.int i)
  | [.bool b] => some (.int (if b then 1 else 0))
  | _ => none
theorem sem_int1 : SemN (fun xs H Q => (∃ i, xs = [.int i] ∧ Q (.int i) H) ∨ ∃ k, xs = [.bl k] ∧ Q (.int (if k then 1 else 0)) H) uInt := fun g H st as xs d Q l k r e q => by
  unfold uInt at e
  split at e
  · cases e
    obtain ⟨x, r1, rfl, q1, q2⟩ := reps1_cons r
    cases reps1_nil q2
    cases q1.int
    exact .inl ⟨_, rfl, q g H _ (Grow.refl k.z) k (.int _)⟩
  · cases e
    obtain ⟨x, r1, rfl, q1, q2⟩ := reps1_cons r
    cases reps1_nil q2
    cases q1.bl
    exact .inr ⟨_, rfl, q g H _ (Grow.refl k.z) k (.int _)⟩
  · cases e
def uNeg (d : D) : Option D := match d with
  | .int i => some (.int (-i))
  | _ => none
theorem sem_neg : Sem1 (rU fun i => .int (-i)) uNeg := fun g H st a x d Q l k r e q => by
  unfold uNeg at e
  split at e
  · cases e
    cases r.int
    exact ⟨_, rfl, q g H _ (Grow.refl k.z) k (.int _)⟩
  · cases e
end FL

/-! FLf -/
set_option Elab.async false
set_option linter.all false
set_option maxRecDepth 100000
set_option maxHeartbeats 4000000
/-! FLf: slices, lists of one's own, enumerate, zip, comprehensions. -/
namespace FL
open PySem PySem.Spec PyProof.Rows L2

section
variable {X : Cx} {C : Ct} {e a b c : Expr} {pos : Pos}
/-! ### slices -/
abbrev tO (C : Ct) (f : Ex (Option Int)) : TO := tG C (fun _ _ b c => b = c) f
def pNone : Ex (Option Int) := fun _ st => .ok none st
def kSome (d : D) : Ex (Option Int) := fun _ st => match d with | .int i => .ok (some i) st | _ => .stuck
def pSome (f : Ex D) : Ex (Option Int) := fun rh st => (f rh st).bind fun d st => kSome d rh st
theorem POimp {o : Option Expr} {t t' : TO} (p : PO X o t) (h : ∀ σ H Q, t' σ H Q → t σ H Q) : PO X o t' := ⟨fun pins s σ H Q I q => p.run pins s σ H Q I (h σ H Q q)⟩
theorem fo_none : PO X none (tO C pNone) := POimp po_none fun σ H Q ⟨g, rh, st, S, w⟩ => w g H none (Grow.refl S.ok.z) S.ok rfl
theorem fo_some {f : Ex D} (h : PE X e (tE C f)) : PO X (some e) (tO C (pSome f)) := POimp (po_some h) fun σ H Q h => (bind1 (k := kSome) wkG h).mono fun x H1 ⟨d, g, rh, st, S, r, w⟩ => by
  cases r with
  | int i => exact ⟨i, rfl, w g H1 _ (Grow.refl S.ok.z) S.ok rfl⟩
  | _ => exact w.elim
def cutD (xs : List D) (lo hi : Option Int) : List D := (xs.drop (HT.sIx xs.length 0 lo)).take (HT.sIx xs.length xs.length hi - HT.sIx xs.length 0 lo)
theorem Reps.cut {g : Gh} {H : Hp} {ds : List D} {vs : List V} (r : Reps g H ds vs) (lo hi : Option Int) : Reps g H (cutD ds lo hi) (cutV vs lo hi) := by
  unfold cutD cutV
  rw [r.length]
  exact (r.drop _).take _
def uSl (d : D) (lo hi : Option Int) : Option D := match d with
  | .list ds => some (.list (cutD ds lo hi))
  | .tuple ds => some (.tuple (cutD ds lo hi))
  | .str z => if z.length ≤ lim then some (.str (cutS z lo hi)) else none
  | _ => none
def eSl (f : Ex D) (lo hi : Ex (Option Int)) : Ex D := fun rh st => (f rh st).bind fun d st => (lo rh st).bind fun l st => (hi rh st).bind fun u st => ofO (uSl d l u) st
theorem bind3 {γ α β α' β' α2 β2 : Type} {R : Gh → Hp → α → β → Prop} {R' : Gh → Hp → α' → β' → Prop} {R2 : Gh → Hp → α2 → β2 → Prop} {W : Gh → Hp → Out γ → Prop} {m : Ex α} {m' : Ex α'} {m2 : Ex α2} {k : α → α' → α2 → Ex γ} {σ : L2.St} {H : Hp} (hR : Mono R) (hR' : Mono R') (hW : Wk C W)
    (h : tW C W (fun rh st => (m rh st).bind fun a st => (m' rh st).bind fun b st => (m2 rh st).bind fun c st => k a b c rh st) σ H) :
    tG C R m σ H (fun x H1 => tG C R' m' σ H1 (fun y H2 => tG C R2 m2 σ H2 fun z H3 => ∃ a b c g rh st, Sta C g rh st σ H3 ∧ R g H3 a x ∧ R' g H3 b y ∧ R2 g H3 c z ∧ W g H3 (k a b c rh st))) := by
  refine (bind2 (k := fun a b rh st => (m2 rh st).bind fun c st => k a b c rh st) hR hW h).mono fun x H1 h1 => h1.mono fun y H2 ⟨a, b, g, rh, st, S, ra, rb, w⟩ => ?_
  refine ⟨g, rh, st, S, ?_⟩
  cases q : m2 rh st with
  | ok c st' =>
    rw [q] at w
    exact fun g' H' z G k' r => ⟨a, b, c, g', rh, st', S.grow G k', hR _ _ _ _ _ _ S.ok.z G ra, hR' _ _ _ _ _ _ S.ok.z G rb, r, hW.mono _ _ _ _ _ G w⟩
  | err c d st' => rw [q] at w; exact hW.err _ _ _ _ _ w
  | stuck => rw [q] at w; exact hW.no _ _ w
theorem mono_o : Mono (fun (_ : Gh) (_ : Hp) (b c : Option Int) => b = c) := fun _ _ _ _ _ _ _ _ h => h
def rSlAll (K : PySem.W.Frag) : V → Option Int → Option Int → Hp → VK → Prop := fun x lo hi H Q => rSlL K x lo hi H Q ∨ rSlA K x lo hi H Q ∨ rSlS x lo hi H Q
theorem sl_all : SlR X (rSlAll X.K) := sl_list.or (sl_tupA.or sl_str)
theorem sem_sl {K : PySem.W.Frag} {g : Gh} {H : Hp} {st : List RV} {a : D} {x : V} {d : D} {lo hi : Option Int} {Q : VK} (k : StOk g H st) (ra : Rep1 g H a x) (e : uSl a lo hi = some d) (q : ∀ g' H' v, Grow g H g' H' → StOk g' H' st → Rep g' H' d v → Q v H') : rSlAll K x lo hi H Q := by
  unfold uSl at e
  split at e
  · cases e
    obtain ⟨p, vs, rfl, hp, r, n⟩ := ra.list k.z
    exact .inl ⟨p, vs, rfl, SqL.of hp, fun p' hp' => new_lst k hp' (r.cut lo hi) q⟩
  · cases e
    obtain ⟨p, vs, rfl, z, hp, r⟩ := ra.tup
    refine .inr (.inl ⟨p, vs, rfl, SqT.of hp, fun hw => ?_, fun _ p' hp' => new_tup k hp' (r.cut lo hi) q⟩)
    rename_i ds
    have hc : cutD ds lo hi = ds := by
      unfold cutD
      rw [r.length, hw.1, hw.2]
      simp [← r.length]
    rw [hc] at q
    exact q g H _ (Grow.refl k.z) k (.tup z hp r)
  · split at e
    · rename_i z hz
      cases e
      cases ra.str
      exact .inr (.inr ⟨z, rfl, by rw [← lim_eq]; exact hz, q g H _ (Grow.refl k.z) k (.str _)⟩)
    · cases e
  · cases e
theorem fe_slice {lo hi : Option Expr} {f : Ex D} {fl fh : Ex (Option Int)} {p2 : Pos} (he : PE X e (tP C f)) (hl : PO X lo (tO C fl)) (hu : PO X hi (tO C fh)) : PE X (.Subscript e (.Slice lo hi none p2) pos) (tE C (eSl f fl fh)) :=
  PEimp (pe_slice sl_all he hl hu) fun σ H Q h => (bind3 (k := fun d l u rh st => ofO (uSl d l u) st) mono_rep1 mono_o wkG h).mono fun x H1 h1 => h1.mono fun y H2 h2 => h2.mono fun z H3 ⟨a, b, c, g, rh, st, S, ra, rb, rc, w⟩ => by
    subst rb rc
    cases e : uSl a b c with
    | none => rw [e] at w; exact w.elim
    | some d => rw [e] at w; exact sem_sl S.ok ra e w
/-- .. of a list, for a list of one's own -/
def nSl (f : Ex D) (lo hi : Ex (Option Int)) : Ex (List D) := fun rh st => (f rh st).bind fun d st => (lo rh st).bind fun l st => (hi rh st).bind fun u st => match d with | .list ds => .ok (cutD ds l u) st | _ => .stuck
/-- what is wanted of a new list -/
def wN (C : Ct) (Q : VK) (g : Gh) (H : Hp) (o : Out (List D)) : Prop := match o with
  | .ok ds st' => ∀ g' H' a vs, Grow g H g' H' → StOk g' H' st' → H a = none → ¬ g'.Z a → a ∉ g'.as → H' a = some (.lst vs) → Reps g' H' ds vs → Q (.ref a) H'
  | .err c d st' => XW C c d st'
  | .stuck => False
theorem wkN {Q : VK} : Wk C (wN C Q) := ⟨fun _ _ _ _ _ h => h, fun _ _ h => h, fun g H g' H' o G h => by
  cases o with
  | ok a st => exact fun g2 H2 p vs G2 k hp => h g2 H2 p vs (G.trans G2) k (G.back hp)
  | err c d st => exact h
  | stuck => exact h⟩
theorem tN_of {f : Ex (List D)} {σ : L2.St} {H : Hp} {Q : VK} (h : tN C f σ H Q) : tW C (wN C Q) f σ H := by
  obtain ⟨g, rh, st, S, w⟩ := h
  refine ⟨g, rh, st, S, ?_⟩
  cases q : f rh st with
  | ok ds st' => rw [q] at w; exact w
  | err c d st' => rw [q] at w; exact w
  | stuck => rw [q] at w; exact w
theorem new_own {g : Gh} {H : Hp} {st : List RV} {Q : VK} {p : Addr} {ds : List D} {vs : List V} (k : StOk g H st) (hp : H p = none) (r : Reps g H ds vs) (w : wN C Q g H (.ok ds st)) : Q (.ref p) (upd H p (.lst vs)) :=
  w g _ p vs (Grow.new k.z hp) (k.new hp) hp (fun z => by obtain ⟨o, e⟩ := k.z.ex z; rw [hp] at e; cases e) (nas_new k.z hp) upd_same (r.grow k.z (Grow.new k.z hp))
def kSl (d : D) (l u : Option Int) : Ex (List D) := fun _ st => match d with | .list ds => .ok (cutD ds l u) st | _ => .stuck
theorem fn_slice {lo hi : Option Expr} {f : Ex D} {fl fh : Ex (Option Int)} {p2 : Pos} (he : PE X e (tP C f)) (hl : PO X lo (tO C fl)) (hu : PO X hi (tO C fh)) : PE X (.Subscript e (.Slice lo hi none p2) pos) (tN C (nSl f fl fh)) :=
  PEimp (pe_slice sl_list he hl hu) fun σ H Q h => (bind3 (k := kSl) mono_rep1 mono_o wkN (tN_of h)).mono fun x H1 h1 => h1.mono fun y H2 h2 => h2.mono fun z H3 ⟨a, b, c, g, rh, st, S, ra, rb, rc, w⟩ => by
    subst rb rc
    cases a with
    | list ds =>
      obtain ⟨p, vs, rfl, hp, r, n⟩ := ra.list S.ok.z
      exact ⟨p, vs, rfl, SqL.of hp, fun p' hp' => new_own S.ok hp' (r.cut b c) w⟩
    | _ => exact w.elim
/-- xs[::-1] -/
def uRev (d : D) : Option D := match d with | .list ds => some (.list ds.reverse) | _ => none
theorem fe_rev {k : Nat} {p1 p2 p3 : Pos} {f : Ex D} (he : PE X e (tP C f)) : PE X (.Subscript e (.Slice none none (some (.UnaryOp .USub (.Constant (.int 1) k p1) p2)) p3) pos) (tE C (eUn uRev f)) :=
  PEimp (pe_revL he) fun σ H Q h => (bind1 (k := fun a rh st => ofO (uRev a) st) wkG h).mono fun x H1 ⟨a, g, rh, st, S, ra, w⟩ => by
    cases a with
    | list ds =>
      obtain ⟨p, vs, rfl, hp, r, n⟩ := ra.list S.ok.z
      exact ⟨p, vs, rfl, SqL.of hp, fun p' hp' => new_lst S.ok hp' r.reverse w⟩
    | _ => exact w.elim

/-! ### a list of one's own, changed -/
/-- what a changing method does: the list, the arguments; the new list -/
def kMeth (i : Nat) (l : List D) (u : List D → List D → Option (List D)) (ds : List D) : Ex Fl := fun rh st => match u l ds with
  | some l' => .ok (.nx (rh.set i (some (.own l')))) st
  | none => .stuck
def sMeth (i : Nat) (u : List D → List D → Option (List D)) (fa : Ex (List D)) : Ex Fl := fun rh st => match rh[i]? with
  | some (some (.own l)) => (fa rh st).bind fun ds st => kMeth i l u ds rh st
  | _ => .stuck
/-- .. by values -/
def SemM (r : V → List V → Hp → VK → Prop) (u : List D → List D → Option (List D)) : Prop := ∀ g H st p vs l ds xs l' (Q : VK), Lens H → StOk g H st → H p = some (.lst vs) → ¬ g.Z p → Reps g H l vs → Reps1 g H ds xs → u l ds = some l' →
  (∀ vs' v, Reps g H l' vs' → Q v (upd H p (.lst vs'))) → r (.ref p) xs H Q
theorem mtLens {id : String} {r : V → List V → Hp → VK → Prop} (h : MtR X id r) : MtR X id (fun x xs H Q => Lens H → r x xs H Q) := fun pins s σ H x xs v us Q I rx rs q => h pins s σ H x xs v us Q I rx rs (q (inv_lens I))
theorem meth_core {i : Nat} {r : V → List V → Hp → VK → Prop} {u : List D → List D → Option (List D)} {fa : Ex (List D)} {R : Gh → Hp → List D → List V → Prop} (hR : ∀ g H ds xs, R g H ds xs → Reps1 g H ds xs) (hu : SemM r u) {De : Ends} {σ : L2.St} {H : Hp} (h : tS C (sMeth i u fa) De σ H) :
    ∃ v, σ[i]? = some (some v) ∧ tyV X.K "list" v H ∧ tG C R fa σ H fun xs H2 => Lens H2 → r v xs H2 fun _ H3 => De.nx σ H3 := by
  obtain ⟨g, rh, st, S, w⟩ := h
  have w : wpS C De (sMeth i u fa rh st) := w
  unfold sMeth at w
  split at w
  · rename_i l hl
    obtain ⟨v, hv, p, vs, rfl, hp, r1, ow⟩ := S.rel.rep i _ hl
    refine ⟨_, hv, .inl ⟨rfl, vs, SqL.of hp⟩, g, rh, st, S, ?_⟩
    cases q : fa rh st with
    | err c d st' => rw [q] at w; exact w
    | stuck => rw [q] at w; exact w.elim
    | ok ds st' =>
      rw [q] at w
      intro g' H' xs G k rs l'
      have S' := S.grow G k
      have w : wpS C De (kMeth i l u ds rh st') := w
      unfold kMeth at w
      have hp' : H' p = some (.lst vs) := G.keep p _ hp ow.2.1
      have ow' := ow.grow G hp
      cases e : u l ds with
      | none => rw [e] at w; exact w.elim
      | some l2 =>
        rw [e] at w
        refine hu g' H' st' p vs l ds xs l2 _ l' k hp' ow'.1 (r1.grow S.ok.z G) (hR _ _ _ _ rs) e fun vs' v rv => ?_
        exact w g' _ σ (S'.write hl rfl hv ow' ⟨_, hp'⟩ (fun _ e => by rw [hp'] at e; cases e) ⟨p, vs', rfl, upd_same, rv.write ow'.1, ow'⟩ rfl)
  · exact w.elim
theorem fs_meth (i : Nat) {x : Str} {es : List Expr} {id : String} {name : Str} {r : V → List V → Hp → VK → Prop} {u : List D → List D → Option (List D)} {fa : Ex (List D)} {apos cpos npos : Pos} (slot : Slot "list" name id) (hty : typeOf (.builtin id) = pure (.type "method_descriptor")) (hm : MtR X id r) (hu : SemM r u)
    (ha : PA X (e :: es) (tA1 C fa)) (hN : X.N[i]? = some x := by rfl) (hv : Vis X.env.scope x := by first | exact Or.inl rfl | exact Or.inr (Or.inl rfl) | exact Or.inr (Or.inr rfl)) (hd : (x == ("__debug__" : Str)) = false := by decide) (hcd : (x == ("__classdict__" : Str)) = false := by decide)
    (hbase : attributeBase (.Name x npos) name X.env (eval (.Name x npos) X.env) = eval (.Name x npos) X.env := by rfl)
    (hfew : ((backTo cpos (starEach (e :: es) X.env)).all (fun x => !x.1) && (backToKw cpos (keywordEach [] X.env)).all (fun x => x.1.isSome)
      && decide ((e :: es).length + ([] : List Keyword).length + (if ([] : List Keyword).isEmpty then 0 else 1) < 30)) = true := by rfl)
    (hline : (apos.endLine == cpos.line) = true := by rfl) (hs : starEach (e :: es) X.env = (false, eval e X.env) :: starEach es X.env := by exact starC rfl) (hplain : (backTo cpos (starEach es X.env)).any (·.1) = false := by rfl)
    (hsw : swapsWith (.Call (.Attribute (.Name x npos) name apos) (e :: es) [] cpos) none pos.line X.env = pure false := by rfl) :
    PS X (.Expr (.Call (.Attribute (.Name x npos) name apos) (e :: es) [] cpos) pos) (tS C (sMeth i u fa)) :=
  PSimp (ps_expr (pe_bm PySem.F.plainAttrs_list slot hty (mtLens hm) (pe_var hN hv hd hcd) ha hbase hfew hline hs hplain) hsw) fun De σ H h => meth_core (fun _ _ _ _ h => h) hu h
theorem fs_meth' (i : Nat) {x : Str} {es : List Expr} {id : String} {name : Str} {r : V → List V → Hp → VK → Prop} {u : List D → List D → Option (List D)} {fa : Ex (List D)} {apos cpos npos : Pos} (slot : Slot "list" name id) (hty : typeOf (.builtin id) = pure (.type "method_descriptor")) (hm : MtR X id r)
    (hu : ∀ g H st p vs l ds xs l' (Q : VK), Lens H → StOk g H st → H p = some (.lst vs) → ¬ g.Z p → Reps g H l vs → Reps g H ds xs → u l ds = some l' → (∀ vs' v, Reps g H l' vs' → Q v (upd H p (.lst vs'))) → r (.ref p) xs H Q)
    (ha : PA X (e :: es) (tA C fa)) (hN : X.N[i]? = some x := by rfl) (hv : Vis X.env.scope x := by first | exact Or.inl rfl | exact Or.inr (Or.inl rfl) | exact Or.inr (Or.inr rfl)) (hd : (x == ("__debug__" : Str)) = false := by decide) (hcd : (x == ("__classdict__" : Str)) = false := by decide)
    (hbase : attributeBase (.Name x npos) name X.env (eval (.Name x npos) X.env) = eval (.Name x npos) X.env := by rfl)
    (hfew : ((backTo cpos (starEach (e :: es) X.env)).all (fun x => !x.1) && (backToKw cpos (keywordEach [] X.env)).all (fun x => x.1.isSome)
      && decide ((e :: es).length + ([] : List Keyword).length + (if ([] : List Keyword).isEmpty then 0 else 1) < 30)) = true := by rfl)
    (hline : (apos.endLine == cpos.line) = true := by rfl) (hs : starEach (e :: es) X.env = (false, eval e X.env) :: starEach es X.env := by exact starC rfl) (hplain : (backTo cpos (starEach es X.env)).any (·.1) = false := by rfl)
    (hsw : swapsWith (.Call (.Attribute (.Name x npos) name apos) (e :: es) [] cpos) none pos.line X.env = pure false := by rfl) :
    PS X (.Expr (.Call (.Attribute (.Name x npos) name apos) (e :: es) [] cpos) pos) (tS C (sMeth i u fa)) :=
  PSimp (ps_expr (pe_bm PySem.F.plainAttrs_list slot hty (mtLens hm) (pe_var hN hv hd hcd) ha hbase hfew hline hs hplain) hsw) fun De σ H h => by
    obtain ⟨g, rh, st, S, w⟩ := h
    have w : wpS C De (sMeth i u fa rh st) := w
    unfold sMeth at w
    split at w
    · rename_i l hl
      obtain ⟨v, hv, p, vs, rfl, hp, r1, ow⟩ := S.rel.rep i _ hl
      refine ⟨_, hv, .inl ⟨rfl, vs, SqL.of hp⟩, g, rh, st, S, ?_⟩
      cases q : fa rh st with
      | err c d st' => rw [q] at w; exact w
      | stuck => rw [q] at w; exact w.elim
      | ok ds st' =>
        rw [q] at w
        intro g' H' xs G k rs l'
        have S' := S.grow G k
        have w : wpS C De (kMeth i l u ds rh st') := w
        unfold kMeth at w
        have hp' : H' p = some (.lst vs) := G.keep p _ hp ow.2.1
        have ow' := ow.grow G hp
        cases e : u l ds with
        | none => rw [e] at w; exact w.elim
        | some l2 =>
          rw [e] at w
          refine hu g' H' st' p vs l ds xs l2 _ l' k hp' ow'.1 (r1.grow S.ok.z G) rs e fun vs' v rv => ?_
          exact w g' _ σ (S'.write hl rfl hv ow' ⟨_, hp'⟩ (fun _ e => by rw [hp'] at e; cases e) ⟨p, vs', rfl, upd_same, rv.write ow'.1, ow'⟩ rfl)
    · exact w.elim
def mAppend (l ds : List D) : Option (List D) := match ds with | [d] => if l.length < lim then some (l ++ [d]) else none | _ => none
def mExtend (l ds : List D) : Option (List D) := match ds with | [.list d] => if l.length + d.length ≤ lim then some (l ++ d) else none | _ => none
/-- xs.append(e) -/
theorem fs_append (i : Nat) {x : Str} {fa : Ex (List D)} {apos cpos npos : Pos} (ha : PA X [e] (tA C fa)) (hN : X.N[i]? = some x := by rfl) (hv : Vis X.env.scope x := by first | exact Or.inl rfl | exact Or.inr (Or.inl rfl) | exact Or.inr (Or.inr rfl)) (hd : (x == ("__debug__" : Str)) = false := by decide) (hcd : (x == ("__classdict__" : Str)) = false := by decide)
    (hbase : attributeBase (.Name x npos) "append" X.env (eval (.Name x npos) X.env) = eval (.Name x npos) X.env := by rfl)
    (hfew : ((backTo cpos (starEach [e] X.env)).all (fun x => !x.1) && (backToKw cpos (keywordEach [] X.env)).all (fun x => x.1.isSome) && decide ([e].length + ([] : List Keyword).length + (if ([] : List Keyword).isEmpty then 0 else 1) < 30)) = true := by rfl)
    (hline : (apos.endLine == cpos.line) = true := by rfl) (hs : starEach [e] X.env = (false, eval e X.env) :: starEach [] X.env := by rfl) (hplain : (backTo cpos (starEach [] X.env)).any (·.1) = false := by rfl)
    (hsw : swapsWith (.Call (.Attribute (.Name x npos) "append" apos) [e] [] cpos) none pos.line X.env = pure false := by rfl) :
    PS X (.Expr (.Call (.Attribute (.Name x npos) "append" apos) [e] [] cpos) pos) (tS C (sMeth i mAppend fa)) :=
  fs_meth' i PySem.F.slot_list_append PySem.F.type_list_append mt_append (fun g H st p vs l ds xs l' Q ln k hp nz r rs e q => by
    unfold mAppend at e
    split at e
    · split at e
      · rename_i d hl
        cases e
        cases rs with
        | cons r1 r2 =>
          cases r2
          exact ⟨p, vs, _, rfl, rfl, hp, by rw [← r.length, ← lim_eq]; exact hl, q _ _ (r.append (.one r1))⟩
      · cases e
    · cases e) ha hN hv hd hcd hbase hfew hline hs hplain hsw
/-- xs.extend(a list) -/
theorem sem_extend : SemM rExtend mExtend := fun g H st p vs l ds xs l' Q ln k hp nz r rs e q => by
  unfold mExtend at e
  split at e
  · split at e
    · rename_i d hl
      cases e
      obtain ⟨x, r1, rfl, q1, q2⟩ := reps1_cons rs
      cases reps1_nil q2
      obtain ⟨p2, vs2, rfl, hp2, r2, n⟩ := q1.list k.z
      exact ⟨p, p2, vs, vs2, rfl, rfl, hp, hp2, by rw [← r.length, ← r2.length, ← lim_eq]; exact hl, q _ _ (r.append r2)⟩
    · cases e
  · cases e
/-- xs[j] = v -/
def kSetIx (i : Nat) (l : List D) (d j : D) : Ex Fl := fun rh st => match j with
  | .int k => (match ixN l.length k with | some m => .ok (.nx (rh.set i (some (.own (l.set m d))))) st | none => .stuck)
  | _ => .stuck
def sSetIx (i : Nat) (f fj : Ex D) : Ex Fl := fun rh st => (f rh st).bind fun d st => match rh[i]? with
  | some (some (.own l)) => (fj rh st).bind fun j st => kSetIx i l d j rh st
  | _ => .stuck
theorem fs_setix (i : Nat) {x : Str} {j : Expr} {f fj : Ex D} {npos spos : Pos} (he : PE X e (tE C f)) (hj : PE X j (tE C fj)) (hN : X.N[i]? = some x := by rfl) (hv : Vis X.env.scope x := by first | exact Or.inl rfl | exact Or.inr (Or.inl rfl) | exact Or.inr (Or.inr rfl)) (hd : (x == ("__debug__" : Str)) = false := by decide) (hcd : (x == ("__classdict__" : Str)) = false := by decide)
    (hsa : ∀ v, assign (.Subscript (.Name x npos) j spos) X.env v = (do
      let ov ← holding [v] (eval (.Name x npos) X.env)
      let iv ← holding [v, ov] (eval j X.env)
      standAt spos
      holding [v, ov, iv] (setItem ov iv v)
      release [v, ov, iv] []) := by intro _; rfl)
    (hs : swapsWithSole [.Subscript (.Name x npos) j spos] e pos.line X.env = pure false := by rfl) (hw : swappedStores [.Subscript (.Name x npos) j spos] e X.env = pure none := by rfl)
    (h1 : (assignEach [.Subscript (.Name x npos) j spos] X.env).map (·.2) = [assign (.Subscript (.Name x npos) j spos) X.env] := by rfl) : PS X (.Assign [.Subscript (.Name x npos) j spos] e pos) (tS C (sSetIx i f fj)) :=
  PSimp (ps_asg he (pg_sub (pe_var hN hv hd hcd) hj set_list hsa) hs hw h1) fun De σ H h => by
    refine (bind1 (k := fun d rh st => match rh[i]? with | some (some (.own l)) => (fj rh st).bind fun j st => kSetIx i l d j rh st | _ => .stuck) wkS h).mono fun v H1 ⟨d, g, rh, st, S, rd, w⟩ => ?_
    split at w
    · rename_i l hl
      obtain ⟨v', hv', p, vs, rfl, hp, r1, ow⟩ := S.rel.rep i _ hl
      refine ⟨_, hv', g, rh, st, S, ?_⟩
      cases q : fj rh st with
      | err c d st' => rw [q] at w; exact w
      | stuck => rw [q] at w; exact w.elim
      | ok jd st' =>
        rw [q] at w
        intro g' H' jv G k rj
        have w : wpS C De (kSetIx i l d jd rh st') := w
        unfold kSetIx at w
        cases rj with
        | int z =>
          have w : wpS C De (match ixN l.length z with | some m => .ok (.nx (rh.set i (some (.own (l.set m d))))) st' | none => .stuck) := w
          have S' := S.grow G k
          have hp' : H' p = some (.lst vs) := G.keep p _ hp ow.2.1
          have ow' := ow.grow G hp
          have r1' := r1.grow S.ok.z G
          cases em : ixN l.length z with
          | none => rw [em] at w; exact w.elim
          | some m =>
            rw [em] at w
            refine ⟨p, vs, z, m, rfl, rfl, hp', by rw [← r1.length]; exact em, ?_⟩
            exact w g' _ σ (S'.write hl rfl hv' ow' ⟨_, hp'⟩ (fun _ e => by rw [hp'] at e; cases e) ⟨p, vs.set m v, rfl, upd_same, (r1'.set m (rd.grow S.ok.z G)).write ow'.1, ow'⟩ rfl)
        | _ => exact w.elim
    · exact w.elim

/-! ### enumerate, zip -/
def enumFrom (i : Nat) : List D → List D
  | [] => []
  | d :: ds => .tuple [.int (i : Int), d] :: enumFrom (i + 1) ds
theorem enumFrom_length : ∀ (ds : List D) (i : Nat), (enumFrom i ds).length = ds.length
  | [], _ => rfl
  | _ :: ds, i => by show (enumFrom (i + 1) ds).length + 1 = ds.length + 1; rw [enumFrom_length ds]
theorem enumFrom_get : ∀ {ds : List D} {i j : Nat} {d : D}, ds[j]? = some d → (enumFrom i ds)[j]? = some (.tuple [.int ((i + j : Nat) : Int), d])
  | [], _, _, _, h => by simp at h
  | x :: ds, i, 0, d, h => by simp at h; subst h; rfl
  | x :: ds, i, j + 1, d, h => by
    have := enumFrom_get (ds := ds) (i := i + 1) (j := j) (d := d) (by simpa using h)
    show (enumFrom (i + 1) ds)[j]? = _
    rw [this]
    have : i + 1 + j = i + (j + 1) := by omega
    rw [this]
def kEn (d : D) : Ex (List D) := fun _ st => match d with | .list ds => .ok (enumFrom 0 ds) st | _ => .stuck
def kEnA (ds : List D) : Ex (List D) := fun _ st => match ds with | [.list ds] => .ok (enumFrom 0 ds) st | _ => .stuck
def iEn (f : Ex (List D)) : Ex (List D) := fun rh st => (f rh st).bind fun d st => kEnA d rh st
theorem yields_enum {K : PySem.W.Frag} {a : Addr} {ds : List D} : Yields (Ite K a) (enumFrom 0 ds) [(.list ds, .ref a)] := by
  refine ⟨fun i g H st k r hi => ?_, fun g H st k r => ?_⟩
  · rw [enumFrom_length] at hi
    cases r _ List.mem_cons_self with
    | lst z e rs =>
      have hv := hi; rw [rs.length] at hv
      refine ⟨⟨_, _, SqL.of e, List.getElem?_eq_getElem hv⟩, fun x H' y => ?_⟩
      obtain ⟨T, x', rfl, hT, rfl, y⟩ := y
      obtain ⟨d, e1, e2⟩ := rs.get' (y _ (SqL.of e))
      refine ⟨g.add T, .tuple [.int (i : Int), d], by rw [enumFrom_get e1]; simp, Grow.add k.z hT ⟨_, upd_same⟩ (Grow.new k.z hT), (k.new hT).add ⟨_, upd_same⟩ (nas_new k.z hT), ?_⟩
      have G := Grow.new (o := .tup [.int (i : Int), x']) k.z hT
      exact .tup (.inr rfl) upd_same (.cons (.int _) (.cons (e2.grow k.z G).add .nil))
  · rw [enumFrom_length]
    cases r _ List.mem_cons_self with
    | lst z e rs => exact ⟨_, SqL.of e, by rw [← rs.length]; exact Nat.le_refl _⟩
theorem fi_enum {p tpos : Pos} {elts : List Expr} {kk : Nat} {fa : Ex (List D)} (hg : Gl X "enumerate") (hm : X.mg "enumerate" = none) (ha : PA X [e] (tA C fa)) (hs : starEach [e] X.env = [(false, eval e X.env)] := by rfl) : PI X (.Tuple elts kk tpos) (.Call (.Name "enumerate" p) [e] [] pos) (tI C (iEn fa)) :=
  PIimp (pi_enum hg hm ha hs) fun σ H R h => (bind1 (k := kEnA) wkI h).mono fun xs H1 ⟨ds, g, rh, st, S, r, w⟩ => by
    unfold kEnA at w
    split at w
    · rename_i l
      cases r with
      | cons r1 r2 =>
        cases r2
        cases r1 with
        | lst z e rs => exact ⟨_, _, rfl, SqL.of e, w g H1 _ _ (Grow.refl S.ok.z) S.ok (fun q hq => by cases List.mem_singleton.mp hq; exact .lst z e rs) yields_enum⟩
    · exact w.elim
def zipD : List D → List D → List D
  | a :: as, b :: bs => .tuple [a, b] :: zipD as bs
  | _, _ => []
theorem zipD_length : ∀ (as bs : List D), (zipD as bs).length = min as.length bs.length
  | [], bs => by simp [zipD]
  | _ :: _, [] => by simp [zipD]
  | a :: as, b :: bs => by
    show (zipD as bs).length + 1 = min (as.length + 1) (bs.length + 1)
    rw [zipD_length as bs]; omega
theorem zipD_get : ∀ {as bs : List D} {j : Nat} {a b : D}, as[j]? = some a → bs[j]? = some b → (zipD as bs)[j]? = some (.tuple [a, b])
  | [], _, _, _, _, h, _ => by simp at h
  | _ :: _, [], _, _, _, _, h => by simp at h
  | x :: as, y :: bs, 0, a, b, h, h' => by simp at h h'; subst h; subst h'; rfl
  | x :: as, y :: bs, j + 1, a, b, h, h' => zipD_get (as := as) (bs := bs) (j := j) (by simpa using h) (by simpa using h')
def kZip (ds : List D) : Ex (List D) := fun _ st => match ds with | [.list a, .list b] => .ok (zipD a b) st | _ => .stuck
def iZp (f : Ex (List D)) : Ex (List D) := fun rh st => (f rh st).bind fun d st => kZip d rh st
theorem yields_zip {K : PySem.W.Frag} {a b : Addr} {as bs : List D} : Yields (Itz K a b) (zipD as bs) [(.list as, .ref a), (.list bs, .ref b)] := by
  refine ⟨fun i g H st k r hi => ?_, fun g H st k r => ?_⟩
  · rw [zipD_length] at hi
    cases r _ List.mem_cons_self with
    | lst z e rs =>
      cases r _ (List.mem_cons_of_mem _ List.mem_cons_self) with
      | lst z2 e2 rs2 =>
        have hv : i < as.length := by omega
        have hv2 : i < bs.length := by omega
        rw [rs.length] at hv
        rw [rs2.length] at hv2
        refine ⟨⟨_, _, _, _, SqL.of e, SqL.of e2, List.getElem?_eq_getElem hv, List.getElem?_eq_getElem hv2⟩, fun x H' y => ?_⟩
        obtain ⟨T, x1, x2, rfl, hT, rfl, y1, y2⟩ := y
        obtain ⟨d1, f1, f2⟩ := rs.get' (y1 _ (SqL.of e))
        obtain ⟨d2, f3, f4⟩ := rs2.get' (y2 _ (SqL.of e2))
        refine ⟨g.add T, .tuple [d1, d2], zipD_get f1 f3, Grow.add k.z hT ⟨_, upd_same⟩ (Grow.new k.z hT), (k.new hT).add ⟨_, upd_same⟩ (nas_new k.z hT), ?_⟩
        have G := Grow.new (o := .tup [x1, x2]) k.z hT
        exact .tup (.inr rfl) upd_same (.cons (f2.grow k.z G).add (.cons (f4.grow k.z G).add .nil))
  · rw [zipD_length]
    cases r _ List.mem_cons_self with
    | lst z e rs =>
      cases r _ (List.mem_cons_of_mem _ List.mem_cons_self) with
      | lst z2 e2 rs2 => exact ⟨_, _, SqL.of e, SqL.of e2, by rw [← rs.length, ← rs2.length]; omega⟩
theorem fi_zip {e2 : Expr} {p tpos : Pos} {elts : List Expr} {kk : Nat} {fa : Ex (List D)} (hg : Gl X "zip") (hm : X.mg "zip" = none) (ha : PA X [e, e2] (tA C fa)) (hs : starEach [e, e2] X.env = (false, eval e X.env) :: starEach [e2] X.env := by rfl) (hpl : (backTo pos (starEach [e2] X.env)).any (·.1) = false := by rfl) :
    PI X (.Tuple elts kk tpos) (.Call (.Name "zip" p) [e, e2] [] pos) (tI C (iZp fa)) :=
  PIimp (pi_zip hg hm ha hs hpl) fun σ H R h => (bind1 (k := kZip) wkI h).mono fun xs H1 ⟨ds, g, rh, st, S, r, w⟩ => by
    unfold kZip at w
    split at w
    · rename_i l l2
      cases r with
      | cons r1 r2 =>
        cases r2 with
        | cons r3 r4 =>
          cases r4
          cases r1 with
          | lst z e rs =>
            cases r3 with
            | lst z2 e2 rs2 =>
              refine ⟨_, _, _, _, rfl, SqL.of e, SqL.of e2, w g H1 _ _ (Grow.refl S.ok.z) S.ok (fun q hq => ?_) yields_zip⟩
              rcases List.mem_cons.mp hq with h | h
              · cases h; exact .lst z e rs
              · cases List.mem_singleton.mp h; exact .lst z2 e2 rs2
    · exact w.elim
end
end FL

/-! FLg -/
set_option Elab.async false
set_option linter.all false
set_option maxRecDepth 100000
set_option maxHeartbeats 4000000
/-! FLg: list comprehensions. -/
namespace FL
open PySem PySem.Spec PyProof.Rows L2

def noE {α : Type} (o : Out α) : Out α := match o with | .err _ _ _ => .stuck | o => o
def lcF (f : Ex D) (r1 : Rho) (k : List RV → Out (List D)) (b : Bool) (st : List RV) : Out (List D) := if b = true then (noE (f r1 st)).bind fun x st => (k st).bind fun xs st => .ok (x :: xs) st else k st
/-- the items made, from the slots rh -/
def lcL (b : Tg) (t : Ex Bool) (f : Ex D) (rh : Rho) : List D → List RV → Out (List D)
  | [], st => .ok [] st
  | d :: ds, st => match Tg.bind b d rh with
    | none => .stuck
    | some r1 => (noE (t r1 st)).bind (lcF f r1 (lcL b t f rh ds))
def nLc (fi : Ex (List D)) (b : Tg) (t : Ex Bool) (f : Ex D) (ws : List Nat) : Ex (List D) := fun rh st => (fi rh st).bind fun ds st => if ds.length ≤ lim then lcL b t f (wipeR ws rh) ds st else .stuck
def tYesB : Ex Bool := fun _ st => .ok true st

section
variable {X : Cx} {CA : Nat → Addr} {C : Ct} {o : Option (List Nat)} {e a b c : Expr} {pos : Pos}
theorem XOkW.blk {s : Shared} {H : Hp} {scope : Scope} {cenv : Env} {fp : List Addr} (h : XOkW X CA o C) : XOk (X.blk s H scope cenv fp) CA C.noE :=
  ⟨⟨h.ca, h.nd, h.hu, fun _ _ _ _ _ => trivial, fun _ _ => trivial⟩, h.calm, PassesOwn.never, (takes0 (X := X.blk s H scope cenv fp)).imp fun _ _ _ _ h => h.1, h.xn⟩
theorem wipe_idem {σ σ' : L2.St} {ws vs : List Nat} (h : But vs (wipe σ ws) σ') (hv : ∀ i ∈ vs, i ∈ ws) : wipe σ' ws = wipe σ ws := by
  have get : ∀ (σ : L2.St) (j : Nat), j ∈ ws → (wipe σ ws)[j]? = if j < σ.length then some none else none := fun σ j hj => by
    clear h hv
    induction ws with
    | nil => simp at hj
    | cons w ws ih =>
      show ((wipe σ ws).set w none)[j]? = _
      by_cases e : w = j
      · subst e
        by_cases hl : w < σ.length
        · rw [if_pos hl, List.getElem?_set_self (by rw [wipe_length]; exact hl)]
        · rw [if_neg hl, List.getElem?_eq_none (by rw [List.length_set, wipe_length]; omega)]
      · rw [List.getElem?_set_ne e]
        rcases List.mem_cons.mp hj with q | q
        · exact absurd q.symm e
        · exact ih q
  apply List.ext_getElem?
  intro j
  have hl : σ'.length = σ.length := h.1.trans (wipe_length _ _)
  by_cases hj : j ∈ ws
  · rw [get σ' j hj, get σ j hj, hl]
  · rw [wipe_out hj, h.2 j fun q => hj (hv j q)]
theorem Sta.wiped {g : Gh} {rh : Rho} {st : List RV} {σ : L2.St} {H : Hp} (S : Sta C g rh st σ H) (ws : List Nat) (hb : C.B (L2.wipe σ ws)) : Sta C g (wipeR ws rh) st (L2.wipe σ ws) H :=
  (S.wipe ws).any (wipe_length _ _) (fun j s e => wipe_out (wipeR_get e).1) hb
/-- a clause's tests -/
abbrev tTs (C : Ct) (t : Ex Bool) : TT := tT C t
theorem PTsimp {ifs : List Expr} {t t' : TT} (p : PTs X ifs t) (h : ∀ σ H Q, t' σ H Q → t σ H Q) : PTs X ifs t' := ⟨fun pins s σ H Q I q => p.run pins s σ H Q I (h σ H Q q)⟩
theorem fts_nil : PTs X [] (tT C tYesB) := PTsimp pts_nil fun σ H Q ⟨g, rh, st, S, w⟩ => w g H _ (Grow.refl S.ok.z) S.ok rfl
theorem fts_one {t : Ex Bool} (h : PT X c (tT C t)) : PTs X [c] (tT C t) := pts_one h
/-- the core: from the function to HandS's reading -/
theorem lc_read {fi : Ex (List D)} {bt : Tg} {t : Ex Bool} {f : Ex D} {ws : List Nat} (hb : ∀ i ∈ bt.slots, i ∈ ws) {σ : L2.St} {H : Hp} {Q : VK} (h : tW C (wN C Q) (nLc fi bt t f ws) σ H) :
    tLc (tI C fi) (gT X.K bt) (fun σ H Q => ∃ ps, tT (C.noE.pin ps) t σ H Q) (fun σ H Q => ∃ ps, tE (C.noE.pin ps) f σ H Q) ws σ H Q := by
  obtain ⟨g0, rh0, st0, S0, w0⟩ := h
  refine ⟨g0, rh0, st0, S0, ?_⟩
  have w0 : wN C Q g0 H ((fi rh0 st0).bind fun ds st => if ds.length ≤ lim then lcL bt t f (wipeR ws rh0) ds st else .stuck) := w0
  cases q : fi rh0 st0 with
  | err c d st' => rw [q] at w0; exact w0
  | stuck => rw [q] at w0; exact w0.elim
  | ok ds st1 =>
    rw [q] at w0
    intro g1 H1 J ps G1 k1 hps y Dn hD
    have w0 : wN C Q g0 H (if ds.length ≤ lim then lcL bt t f (wipeR ws rh0) ds st1 else .stuck) := w0
    by_cases hl : ds.length ≤ lim
    · rw [if_pos hl] at w0
      have w1 := wkN.mono _ _ g1 H1 _ G1 w0
      clear w0
      have S1 : Sta (C.noE.pin ps) g1 (wipeR ws rh0) st1 (wipe σ ws) H1 := by
        have a0 := S0.grow G1 k1
        have a : Sta C.noE g1 rh0 st1 σ H1 := ⟨a0.rel, a0.ok, a0.gr, a0.pin, trivial⟩
        exact (a.wiped ws trivial).topin hps
      have nown := S1.noOwn hD
      have hD0 : C.H0 Dn = none := S1.gr.back hD
      generalize wipeR ws rh0 = rw at S1 w1 nown
      refine ⟨fun i m H' => i + m = ds.length ∧ ∃ g st accd vs, Sta (C.noE.pin ps) g rw st (wipe σ ws) H' ∧ Grow g1 H1 g H' ∧ H' Dn = some (.lst vs) ∧ Reps g H' accd vs ∧ accd.length ≤ i ∧ Own C.H0 g Dn ∧
        wN C Q g1 H1 ((lcL bt t f rw (ds.drop i) st).bind fun xs st => .ok (accd ++ xs) st), ⟨ds.length, by omega, g1, st1, [], [], ?_⟩, fun i m H' hW => ?_⟩
      · have ow : Own C.H0 g1 Dn := ⟨(fun z => by obtain ⟨o, e⟩ := k1.z.ex z; rw [hD] at e; cases e), nas_new k1.z hD, hD0⟩
        refine ⟨S1.writeX ow (fun _ e => by rw [hD] at e; cases e) nown, Grow.new k1.z hD, upd_same, .nil, Nat.zero_le _, ow, ?_⟩
        rw [List.drop_zero]
        cases e : lcL bt t f rw ds st1 with
        | ok xs st' => rw [e] at w1; exact w1
        | err c d st' => rw [e] at w1; exact w1
        | stuck => rw [e] at w1; exact w1
      · obtain ⟨hm, g2, st2, accd, vs, S2, G2, hv, ra, hacc, ow, w2⟩ := hW
        have hp : PinsOk g2 H' ps := fun q hq => S2.pin q (List.mem_append_left _ hq)
        by_cases hi : i < ds.length
        · obtain ⟨jg, jy⟩ := y.go i g2 H' st2 S2.ok hp hi
          refine .inr ⟨jg, fun H' => ∃ g st accd vs, Sta (C.noE.pin ps) g rw st (wipe σ ws) H' ∧ Grow g1 H1 g H' ∧ H' Dn = some (.lst vs) ∧ Reps g H' accd vs ∧ accd.length ≤ i + 1 ∧ Own C.H0 g Dn ∧
            wN C Q g1 H1 ((lcL bt t f rw (ds.drop (i + 1)) st).bind fun xs st => .ok (accd ++ xs) st), fun H'' h => ⟨m - 1, by omega, by omega, h⟩, fun x H3 hy => ?_⟩
          obtain ⟨g3, d, ed, G3, k3, rd⟩ := jy x H3 hy
          have S3 := S2.grow G3 k3
          have ed' : ds.drop i = d :: ds.drop (i + 1) := by
            obtain ⟨hl, e⟩ := List.getElem?_eq_some_iff.mp ed
            rw [List.drop_eq_getElem_cons hl, e]
          rw [ed'] at w2
          have w2 : wN C Q g1 H1 (((match Tg.bind bt d rw with | none => .stuck | some r1 => (noE (t r1 st2)).bind (lcF f r1 (lcL bt t f rw (ds.drop (i + 1))))) : Out (List D)).bind fun xs st => .ok (accd ++ xs) st) := w2
          cases eb : Tg.bind bt d rw with
          | none => rw [eb] at w2; exact w2.elim
          | some r1 =>
            rw [eb] at w2
            have w2 : wN C Q g1 H1 (((noE (t r1 st2)).bind (lcF f r1 (lcL bt t f rw (ds.drop (i + 1))))).bind fun xs st => .ok (accd ++ xs) st) := w2
            refine gok X.K bt (C.noE.pin ps) g3 rw st2 (wipe σ ws) H3 d x r1 _ (fun _ => trivial) S3 rd eb fun σ' S' hbut => ⟨wipe_idem hbut hb, ps, g3, r1, st2, S', ?_⟩
            cases et : t r1 st2 with
            | err c d st' => rw [et] at w2; exact w2.elim
            | stuck => rw [et] at w2; exact w2.elim
            | ok kb st4 =>
              rw [et] at w2
              intro g4 H4 kb' G4 k4 hkb
              subst hkb
              have w2 : wN C Q g1 H1 ((lcF f r1 (lcL bt t f rw (ds.drop (i + 1))) kb st4).bind fun xs st => .ok (accd ++ xs) st) := w2
              have S4 := S3.grow G4 k4
              have GG4 := (G2.trans G3).trans G4
              have hD3 : H3 Dn = some (.lst vs) := G3.keep Dn _ hv ow.2.1
              have ow3 := ow.grow G3 hv
              have hD4 : H4 Dn = some (.lst vs) := G4.keep Dn _ hD3 ow3.2.1
              have ow4 := ow3.grow G4 hD3
              have ra4 := (ra.grow S2.ok.z G3).grow S3.ok.z G4
              unfold lcF at w2
              cases kb with
              | false =>
                rw [if_neg Bool.false_ne_true] at w2 ⊢
                exact ⟨g4, st4, accd, vs, S4, GG4, hD4, ra4, by omega, ow4, w2⟩
              | true =>
                rw [if_pos rfl] at w2 ⊢
                refine ⟨ps, g4, r1, st4, S'.grow G4 k4, ?_⟩
                cases ef : f r1 st4 with
                | err c d st' => rw [ef] at w2; exact w2.elim
                | stuck => rw [ef] at w2; exact w2.elim
                | ok yd st5 =>
                  rw [ef] at w2
                  intro g5 H5 yv G5 k5 ry
                  have w2 : wN C Q g1 H1 (((lcL bt t f rw (ds.drop (i + 1)) st5).bind fun xs st => .ok (yd :: xs) st).bind fun xs st => .ok (accd ++ xs) st) := w2
                  have S5 := S4.grow G5 k5
                  have hD5 : H5 Dn = some (.lst vs) := G5.keep Dn _ hD4 ow4.2.1
                  have ow5 := ow4.grow G5 hD4
                  have ra5 := ra4.grow S4.ok.z G5
                  refine ⟨vs, hD5, by rw [← ra.length, ← lim_eq]; omega, g5, st5, accd ++ [yd], vs ++ [yv], S5.writeX ow5 (fun _ e => by rw [hD5] at e; cases e) nown, ?_, upd_same, (ra5.append (.one ry)).write ow5.1, by rw [List.length_append]; simp; omega, ow5, ?_⟩
                  · have GG5 := GG4.trans G5
                    exact ⟨GG5.as, GG5.z, GG5.fr, fun a o e n => by rw [upd_ne (ne_of_none e hD)]; exact GG5.keep a o e n, fun a ha => by
                      obtain ⟨o, e⟩ := GG5.live a ha
                      exact ⟨o, by rw [upd_ne fun q => ow5.2.1 (by rw [← q]; obtain ⟨m1, e1, _⟩ := GG5.as; rw [e1]; exact List.mem_append_left _ ha)]; exact e⟩⟩
                  · cases el : lcL bt t f rw (ds.drop (i + 1)) st5 with
                    | err c d st' => rw [el] at w2; exact w2
                    | stuck => rw [el] at w2; exact w2
                    | ok xs st6 =>
                      rw [el] at w2
                      have w2 : wN C Q g1 H1 (.ok (accd ++ (yd :: xs)) st6) := w2
                      show wN C Q g1 H1 (.ok ((accd ++ [yd]) ++ xs) st6)
                      rw [List.append_assoc]
                      exact w2
        · have e : i = ds.length := by omega
          subst e
          rw [List.drop_length] at w2
          have w2 : wN C Q g1 H1 (.ok (accd ++ []) st2) := w2
          rw [List.append_nil] at w2
          exact .inl ⟨y.stop g2 H' st2 S2.ok hp, w2 g2 H' Dn vs G2 S2.ok hD ow.1 ow.2.1 hv ra⟩
    · rw [if_neg hl] at w0; exact w0.elim
variable {elt tg iter : Expr} {ifs : List Expr} {scope : Scope} {own : List (Str × Nat)} {fi : Ex (List D)} {bt : Tg} {t : Ex Bool} {f : Ex D} {spos : Pos}
/-- [elt for tg in iter if ..] -/
theorem fn_lc (own : List (Str × Nat)) (hX : XOkW X CA o C) (hi : PI X tg iter (tI C fi)) (ok : BlkOk X.N X.env.scope scope own)
    (hg : ∀ (s : Shared) (H : Hp) (Cc : Addr) (cl : List (Str × Addr)) (fp : List Addr), FG (X.blk s H scope (compEnvC scope cl Cc X.env) fp) tg bt)
    (ht : ∀ (s : Shared) (H : Hp) (Cc : Addr) (cl : List (Str × Addr)) (fp : List Addr) (C' : Ct), XOk (X.blk s H scope (compEnvC scope cl Cc X.env) fp) CA C' → PTs (X.blk s H scope (compEnvC scope cl Cc X.env) fp) ifs (tT C' t))
    (he : ∀ (s : Shared) (H : Hp) (Cc : Addr) (cl : List (Str × Addr)) (fp : List Addr) (C' : Ct), XOk (X.blk s H scope (compEnvC scope cl Cc X.env) fp) CA C' → PE (X.blk s H scope (compEnvC scope cl Cc X.env) fp) elt (tE C' f))
    (hb : ∀ i ∈ bt.slots, i ∈ own.map (·.2) := by decide) (hs : ∀ x, foldedSetIterable iter X.env x = pure x := by intro _; rfl) :
    PE X (.ListComp elt [⟨tg, iter, ifs, 0⟩] scope pos) (tN C (nLc fi bt t f (own.map (·.2)))) :=
  PEimp (pe_lc hX.calm hX.nd hi ok hg
    (fun s H Cc cl fp => ⟨fun pins s0 σ H Q I ⟨ps, h⟩ => (ht s _ Cc cl fp (C.noE.pin ps) (hX.blk.pin ps)).run pins s0 σ H Q I h⟩)
    (fun s H Cc cl fp => ⟨fun pins s0 σ H Q I ⟨ps, h⟩ => (he s _ Cc cl fp (C.noE.pin ps) (hX.blk.pin ps)).run pins s0 σ H Q I h⟩) hs) fun σ H Q h => lc_read hb (tN_of h)
/-- y = [..], a list of one's own -/
theorem fs_setLc (i : Nat) {y : Str} {py : Pos} (own : List (Str × Nat)) (hX : XOk X CA C) (hi : PI X tg iter (tI C fi)) (ok : BlkOk X.N X.env.scope scope own)
    (hg : ∀ (s : Shared) (H : Hp) (Cc : Addr) (cl : List (Str × Addr)) (fp : List Addr), FG (X.blk s H scope (compEnvC scope cl Cc X.env) fp) tg bt)
    (ht : ∀ (s : Shared) (H : Hp) (Cc : Addr) (cl : List (Str × Addr)) (fp : List Addr) (C' : Ct), XOk (X.blk s H scope (compEnvC scope cl Cc X.env) fp) CA C' → PTs (X.blk s H scope (compEnvC scope cl Cc X.env) fp) ifs (tT C' t))
    (he : ∀ (s : Shared) (H : Hp) (Cc : Addr) (cl : List (Str × Addr)) (fp : List Addr) (C' : Ct), XOk (X.blk s H scope (compEnvC scope cl Cc X.env) fp) CA C' → PE (X.blk s H scope (compEnvC scope cl Cc X.env) fp) elt (tE C' f))
    (hy : X.N[i]? = some y := by rfl) (hyl : X.env.scope.names.lookup y = some .local := by rfl)
    (hsw : swapsWith (.ListComp elt [⟨tg, iter, ifs, 0⟩] scope pos) (some (.Name y py)) spos.line X.env = pure true := by exact sw_true rfl rfl rfl (by decide +kernel))
    (hb : ∀ i ∈ bt.slots, i ∈ own.map (·.2) := by decide) (hs : ∀ x, foldedSetIterable iter X.env x = pure x := by intro _; rfl) :
    PS X (.Assign [.Name y py] (.ListComp elt [⟨tg, iter, ifs, 0⟩] scope pos) spos) (tS C (sOwn i (nLc fi bt t f (own.map (·.2))))) :=
  PSimp (ps_setLc (g := gT X.K bt) (tt := fun σ H Q => ∃ ps, tT (C.noE.pin ps) t σ H Q) (te := fun σ H Q => ∃ ps, tE (C.noE.pin ps) f σ H Q) hX.calm hX.nd hy hyl hsw hi ok hg
    (fun s H Cc cl fp => ⟨fun pins s0 σ H Q I ⟨ps, h⟩ => (ht s _ Cc cl fp (C.noE.pin ps) (hX.blk.pin ps)).run pins s0 σ H Q I h⟩)
    (fun s H Cc cl fp => ⟨fun pins s0 σ H Q I ⟨ps, h⟩ => (he s _ Cc cl fp (C.noE.pin ps) (hX.blk.pin ps)).run pins s0 σ H Q I h⟩) hs) fun De σ H h => by
    refine lc_read hb ?_
    obtain ⟨g, rh, st, S, w⟩ := h
    refine ⟨g, rh, st, S, ?_⟩
    have w : wpS C De ((nLc fi bt t f (own.map (·.2)) rh st).bind fun ds st => .ok (.nx (rh.set i (some (.own ds)))) st) := w
    cases q : nLc fi bt t f (own.map (·.2)) rh st with
    | ok ds st' =>
      rw [q] at w
      intro g' H' p vs G k hp nz na hv r
      have S' := S.grow G k
      exact w g' H' _ (S'.seto i ⟨p, vs, rfl, hv, r, nz, na, S.gr.back hp⟩ (fun j t _ e o h => S.noOwn hp j t e o h) (hX.all rfl _))
    | err c d st' => rw [q] at w; exact w
    | stuck => rw [q] at w; exact w
end
end FL

/-! FLh -/
set_option Elab.async false
set_option linter.all false
set_option maxRecDepth 100000
set_option maxHeartbeats 4000000
/-! FLh: calls with lists of one's own, new lists by operators, parallel assignment, small things. -/
namespace FL
open PySem PySem.Spec PyProof.Rows L2

def scal : D → Bool
  | .none => true | .bool _ => true | .int _ => true | .str _ => true | _ => false
theorem rep_scal {g g' : Gh} {H H' : Hp} {d : D} {v : V} (h : Rep g H d v) (s : scal d = true) : Rep g' H' d v := by
  cases h with
  | non => exact .non
  | bl b => exact .bl b
  | int i => exact .int i
  | str x => exact .str x
  | lst => cases s
  | tup => cases s
theorem reps_scal {g g' : Gh} {H H' : Hp} : ∀ {ds : List D} {vs : List V}, Reps g H ds vs → ds.all scal = true → Reps g' H' ds vs
  | [], _, h, _ => by cases h; exact .nil
  | d :: ds, _, h, s => by
    rw [List.all_cons, Bool.and_eq_true] at s
    cases h with
    | cons r t => exact .cons (rep_scal r s.1) (reps_scal t s.2)

section
variable {X : Cx} {CA : Nat → Addr} {C : Ct} {e a b c : Expr} {es : List Expr} {pos p : Pos} {x : Str} {k n : Nat} {o : Option (List Nat)} {ps : List Str} {F : Fn} {dv : List D}
/-! ### calls: the lists of one's own among the arguments are lent -/
def lent (d : D) : Bool := scal d
def lentO (d : D) : Bool := match d with | .list ds => ds.all scal | d => scal d
def runW (ok : D → Bool) (F : Fn) (ds : List D) (st : List RV) : Out D := match F (ds.map Ar.d) [] with
  | .ok d _ => if ok d then .ok d st else .stuck
  | .err c d _ => if scal d then .err c d st else .stuck
  | .stuck => .stuck
def eCallW (F : Fn) (dv : List D) (fa : Ex (List D)) : Ex D := fun rh st => (fa rh st).bind fun ds st => runW lent F (ds ++ dv) st
def eCallWX (F : Fn) (dv : List D) (fa : Ex (List D)) : Ex D := fun rh st => (fa rh st).bind fun ds st => runW lentO F (ds ++ dv) st
/-- the addresses that are lent -/
def lend (g : Gh) (H : Hp) (vs : List V) : Gh := ⟨[], fun a => g.Z a ∨ (V.ref a ∈ vs ∧ (∃ xs, H a = some (.lst xs)) ∧ a ∉ g.as)⟩
theorem ars_lend {g : Gh} {H : Hp} {all : List V} : ∀ {ds : List D} {vs : List V}, Reps1 g H ds vs → (∀ v ∈ vs, v ∈ all) → ArReps (lend g H all) H (ds.map Ar.d) vs
  | [], _, h, _ => by cases h; exact .nil
  | d :: ds, _, h, hs => by
    cases h with
    | cons r t =>
      have up : ∀ (d : D) (v : V), Rep g H d v → Rep (lend g H all) H d v := fun d v h => Rep.map (g := g) (g' := lend g H all) (fun a vs y e => ⟨Or.inl y, e⟩) (fun a vs y e => ⟨Or.inl y, e⟩) d v h
      have ups : ∀ (d : List D) (v : List V), Reps g H d v → Reps (lend g H all) H d v := fun d v h => Reps.map (g := g) (g' := lend g H all) (fun a vs y e => ⟨Or.inl y, e⟩) (fun a vs y e => ⟨Or.inl y, e⟩) d v h
      refine .cons ?_ (ars_lend t fun v hv => hs v (List.mem_cons_of_mem _ hv))
      rcases r with r | ⟨es, a, vs', rfl, rfl, ha, r, na⟩
      · exact up _ _ r
      · exact .lst (.inr ⟨hs _ List.mem_cons_self, ⟨_, ha⟩, na⟩) ha (ups _ _ r)
theorem st_lend {g : Gh} {H : Hp} {st : List RV} {vs : List V} (k : StOk g H st) : StOk (lend g H vs) H [] :=
  ⟨rfl, List.nodup_nil, ⟨fun a z => ⟨z.elim k.z.ex fun h => ⟨_, h.2.1.choose_spec⟩, by simp [lend]⟩, by simp [lend]⟩, by simp [lend]⟩
/-- behind the call: only what is new is added to what lasts -/
def unlend (g : Gh) (H : Hp) (g' : Gh) : Gh := ⟨g.as, fun a => g.Z a ∨ (g'.Z a ∧ H a = none)⟩
theorem end_lend {g g' : Gh} {H H' : Hp} {st st' : List RV} {vs : List V} (k : StOk g H st) (G : Grow (lend g H vs) H g' H') (k' : StOk g' H' st') : Grow g H (unlend g H g') H' ∧ StOk (unlend g H g') H' st := by
  have G' : Grow g H (unlend g H g') H' := ⟨⟨[], by simp [unlend], by simp⟩, fun a z => .inl z, fun a z => z.elim .inl fun z => .inr z.2, fun a o e _ => G.keep a o e (by simp [lend]), fun a ha => by
    obtain ⟨o, e⟩ := k.z.2 a ha
    exact ⟨o, G.keep a o e (by simp [lend])⟩⟩
  refine ⟨G', k.keep G' rfl ⟨fun a z => ?_, G'.live⟩ fun a ha => ?_⟩
  · rcases z with z | z
    · obtain ⟨o, e⟩ := k.z.ex z
      exact ⟨⟨o, G.keep a o e (by simp [lend])⟩, k.z.nas z⟩
    · exact ⟨k'.z.ex z.1, nas_new k.z z.2⟩
  · obtain ⟨o, e⟩ := k.z.2 a ha
    rw [e]; exact G.keep a o e (by simp [lend])
theorem err_lend {g : Gh} {H : Hp} {st : List RV} {rh : Rho} {σ : L2.St} {c : Nat} {d : D} {st' : List RV} {vs : List V} (S : Sta C g rh st σ H) (hs : scal d = true) (w : XW C c d st) : XW (ct0 H (lend g H vs) (C.EB σ) C.CA) c d st' := fun g' H' dx v G k' hx hn' r' => by
  obtain ⟨G', kk⟩ := end_lend S.ok G k'
  exact ⟨w _ H' dx v (S.gr.trans G') kk hx (S.gr.back hn') (rep_scal r' hs), S.b⟩
theorem lend_sp {g : Gh} {H : Hp} {st : List RV} {rh : Rho} {σ : L2.St} {ds dv : List D} {vs dvs : List V} {Q : VK} (S : Sta C g rh st σ H) (hn : (ds ++ dv).length = n) (r : Reps1 g H ds vs) (hdv : ∀ g H, Reps g H dv dvs) (w : wpG C Rep Q g H (runW lent F (ds ++ dv) st)) : spF C.CA n F (vs ++ dvs) H Q (C.EB σ) := by
  refine ⟨lend g H vs, (ds ++ dv).map Ar.d, [], by rw [List.length_map]; exact hn, by rw [List.map_append]; exact ar_app (ars_lend r fun _ h => h) (ars_of (fun _ h => h) (hdv _ H)), st_lend S.ok, ?_⟩
  unfold runW at w
  cases q : F ((ds ++ dv).map Ar.d) [] with
  | ok d st' =>
    rw [q] at w
    have w : wpG C Rep Q g H (if lent d then .ok d st else .stuck) := w
    split at w
    · rename_i hs
      intro g' H' v G k' r'
      obtain ⟨G', kk⟩ := end_lend S.ok G k'
      exact w _ H' v G' kk (rep_scal r' hs)
    · exact w.elim
  | err c d st' =>
    rw [q] at w
    have w : wpG C Rep Q g H (if scal d then .err c d st else .stuck) := w
    split at w
    · rename_i hs
      exact err_lend S hs w
    · exact w.elim
  | stuck => rw [q] at w; exact w.elim
theorem lend_spO {g : Gh} {H : Hp} {st : List RV} {rh : Rho} {σ : L2.St} {ds dv : List D} {vs dvs : List V} {Q : VK} (S : Sta C g rh st σ H) (hn : (ds ++ dv).length = n) (r : Reps1 g H ds vs) (hdv : ∀ g H, Reps g H dv dvs) (w : wX C Q g H (runW lentO F (ds ++ dv) st)) : spO C.CA n F (vs ++ dvs) H Q (C.EB σ) := by
  refine ⟨lend g H vs, (ds ++ dv).map Ar.d, [], by rw [List.length_map]; exact hn, by rw [List.map_append]; exact ar_app (ars_lend r fun _ h => h) (ars_of (fun _ h => h) (hdv _ H)), st_lend S.ok, ?_⟩
  unfold runW at w
  cases q : F ((ds ++ dv).map Ar.d) [] with
  | ok d st' =>
    rw [q] at w
    have w : wX C Q g H (if lentO d then .ok d st else .stuck) := w
    split at w
    · rename_i hs
      cases d with
      | list ls =>
        intro g' H' a vs' G k' ha r' ow
        obtain ⟨G', kk⟩ := end_lend S.ok G k'
        refine w _ H' a vs' G' kk ow.2.2 (fun z => ?_) (fun h => ?_) ha (reps_scal r' hs)
        · rcases z with z | z
          · obtain ⟨o, e⟩ := S.ok.z.ex z
            rw [show H a = none from ow.2.2] at e; cases e
          · exact ow.1 z.1
        · obtain ⟨o, e⟩ := S.ok.z.2 a h
          rw [show H a = none from ow.2.2] at e; cases e
      | tuple ls => cases hs
      | dict ls => cases hs
      | _ =>
        intro g' H' v G k' r'
        obtain ⟨G', kk⟩ := end_lend S.ok G k'
        exact w _ H' v G' kk (rep_scal r' rfl)
    · exact w.elim
  | err c d st' =>
    rw [q] at w
    have w : wX C Q g H (if scal d then .err c d st else .stuck) := w
    split at w
    · rename_i hs
      exact err_lend S hs w
    · exact w.elim
  | stuck => rw [q] at w; exact w.elim
theorem fe_callW {fa : Ex (List D)} {m : Nat} (Hf : HasX X k x ps dv (spF CA ps.length F)) (hX : XOkW X CA o C) (hr : Room k X.A) (ha : PA X (e :: es) (tA1 C fa))
    (hl : ALen fa m) (hmn : m + dv.length = ps.length := by rfl) (hg : Gl X x := by rfl)
    (hdb : (x == ("__debug__" : Str)) = false := by decide) (he : starEach (e :: es) X.env = (false, eval e X.env) :: starEach es X.env := by exact starC rfl) (hpl : (backTo pos (starEach es X.env)).any (·.1) = false := by rfl) :
    PE X (.Call (.Name x p) (e :: es) [] pos) (tE C (eCallW F dv fa)) := by
  obtain ⟨f, fd, ds, dvs, hm, hk, Fk, hb, hd, hdv⟩ := Hf.ex
  exact PEimp (pe_callSD (E := C.EB) Fk hr hg hm hk hb hd (pass_of hX) ha hdb he hpl) fun σ H Q h => by
    obtain ⟨g, rh, st, S, w⟩ := h
    refine ⟨g, rh, st, S, ?_⟩
    have w : wpG C Rep Q g H ((fa rh st).bind fun ds st => runW lent F (ds ++ dv) st) := w
    cases q : fa rh st with
    | ok ds st1 =>
      rw [q] at w
      intro g1 H1 vs G k r
      have S1 := S.grow G k
      have hll := hl rh st ds st1 q
      rw [← hX.ca]
      exact lend_sp S1 (by rw [List.length_append, hll]; exact hmn) r hdv (wkG.mono _ _ _ _ _ G w)
    | err c d st' => rw [q] at w; exact w
    | stuck => rw [q] at w; exact w.elim
theorem fx_callW {fa : Ex (List D)} {m : Nat} (Hf : HasX X k x ps dv (spO CA ps.length F)) (hX : XOkW X CA o C) (hr : Room k X.A) (ha : PA X (e :: es) (tA1 C fa))
    (hl : ALen fa m) (hmn : m + dv.length = ps.length := by rfl) (hg : Gl X x := by rfl)
    (hdb : (x == ("__debug__" : Str)) = false := by decide) (he : starEach (e :: es) X.env = (false, eval e X.env) :: starEach es X.env := by exact starC rfl) (hpl : (backTo pos (starEach es X.env)).any (·.1) = false := by rfl) :
    PE X (.Call (.Name x p) (e :: es) [] pos) (tX C (eCallWX F dv fa)) := by
  obtain ⟨f, fd, ds, dvs, hm, hk, Fk, hb, hd, hdv⟩ := Hf.ex
  exact PEimp (pe_callSD (E := C.EB) Fk hr hg hm hk hb hd (pass_of hX) ha hdb he hpl) fun σ H Q h => by
    obtain ⟨g, rh, st, S, w⟩ := h
    refine ⟨g, rh, st, S, ?_⟩
    have w : wX C Q g H ((fa rh st).bind fun ds st => runW lentO F (ds ++ dv) st) := w
    cases q : fa rh st with
    | ok ds st1 =>
      rw [q] at w
      intro g1 H1 vs G k r
      have S1 := S.grow G k
      have hll := hl rh st ds st1 q
      rw [← hX.ca]
      exact lend_spO S1 (by rw [List.length_append, hll]; exact hmn) r hdv (wkX.mono _ _ _ _ _ G w)
    | err c d st' => rw [q] at w; exact w
    | stuck => rw [q] at w; exact w.elim

/-! ### new lists by operators and built-ins -/
def Sem2N (r : R2) (u : D → D → Option (List D)) : Prop := ∀ g H st a b x y ds (Q : VK), Lens H → StOk g H st → Rep1 g H a x → Rep1 g H b y → u a b = some ds → wN (ct0 H g (fun _ _ _ => False) fun _ => 0) Q g H (.ok ds st) → r x y H Q
def nBin (u : D → D → Option (List D)) (fa fb : Ex D) : Ex (List D) := fun rh st => (fa rh st).bind fun a st => (fb rh st).bind fun b st => ofO (u a b) st
theorem fn_bin {op : Operator} {r : R2} {u : D → D → Option (List D)} {fa fb : Ex D} (ho : OpR X (binaryOp op) r) (hu : Sem2N r u) (ha : PE X a (tP C fa)) (hb : PE X b (tP C fb)) : PE X (.BinOp a op b pos) (tN C (nBin u fa fb)) :=
  PEimp (pe_op (opLens ho) ha hb) fun σ H Q h => (bind2 (k := fun a b rh st => ofO (u a b) st) mono_rep1 wkN (tN_of h)).mono fun x H1 h1 => h1.mono fun y H2 ⟨a, b, g, rh, st, S, ra, rb, w⟩ l => by
    cases e : u a b with
    | none => rw [e] at w; exact w.elim
    | some ds => rw [e] at w; exact hu g H2 st a b x y ds Q l S.ok ra rb e w
def uAddN : D → D → Option (List D)
  | .list a, .list b => if a.length + b.length ≤ lim then some (a ++ b) else none
  | _, _ => none
theorem sem_addN : Sem2N rCat uAddN := fun g H st a b x y ds Q l k ra rb e w => by
  unfold uAddN at e
  split at e
  · split at e
    · rename_i h
      cases e
      obtain ⟨p, vs, rfl, hp, r1, n1⟩ := ra.list k.z
      obtain ⟨p', vs', rfl, hp', r2, n2⟩ := rb.list k.z
      exact ⟨p, p', vs, vs', rfl, rfl, hp, hp', by rw [← lim_eq, ← r1.length, ← r2.length]; exact h, fun q' hq => new_own k hq (r1.append r2) w⟩
    · cases e
  · cases e
def uMulN : D → D → Option (List D)
  | .list a, .int k => if -(2 ^ 63) ≤ k ∧ k < 2 ^ 63 ∧ a.length * k.toNat ≤ lim then some (List.replicate k.toNat a).flatten else none
  | _, _ => none
theorem sem_mulN : Sem2N rRep uMulN := fun g H st a b x y ds Q l k ra rb e w => by
  unfold uMulN at e
  split at e
  · split at e
    · rename_i h
      cases e; cases rb.int
      obtain ⟨p, vs, rfl, hp, r1, n1⟩ := ra.list k.z
      exact ⟨p, _, vs, rfl, rfl, hp, h.1, h.2.1, by rw [← lim_eq, ← r1.length]; exact h.2.2, fun q' hq => new_own k hq (r1.rep _) w⟩
    · cases e
  · cases e
def SemNN (r : List V → Hp → VK → Prop) (u : List D → Option (List D)) : Prop := ∀ g H st as xs ds (Q : VK), Lens H → StOk g H st → Reps1 g H as xs → u as = some ds → wN (ct0 H g (fun _ _ _ => False) fun _ => 0) Q g H (.ok ds st) → r xs H Q
def nB (u : List D → Option (List D)) (fa : Ex (List D)) : Ex (List D) := fun rh st => (fa rh st).bind fun ds st => ofO (u ds) st
theorem fn_callTy {T : String} {r : List V → Hp → VK → Prop} {u : List D → Option (List D)} {fa : Ex (List D)} (hc : CallR X (.type T) r) (hu : SemNN r u) (hg : Gl X x) (hm : X.mg x = none) (hv : bootBuiltins x = some (.type T)) (ha : PA X (e :: es) (tA1 C fa)) (hn : x ≠ "__name__" := by decide) (hdb : (x == ("__debug__" : Str)) = false := by decide)
    (he : starEach (e :: es) X.env = (false, eval e X.env) :: starEach es X.env := by exact starC rfl) (hpl : (backTo pos (starEach es X.env)).any (·.1) = false := by rfl) : PE X (.Call (.Name x p) (e :: es) [] pos) (tN C (nB u fa)) :=
  PEimp (pe_callTy (callLens hc) hg hm hv ha hn hdb he hpl) fun σ H Q h => (bind1 (k := fun ds rh st => ofO (u ds) st) wkN (tN_of h)).mono fun xs H1 ⟨ds, g, rh, st, S, ra, w⟩ l => by
    cases e : u ds with
    | none => rw [e] at w; exact w.elim
    | some d => rw [e] at w; exact hu g H1 st ds xs d Q l S.ok ra e w
def uListN (ds : List D) : Option (List D) := match ds with
  | [.list l] => some l
  | [.tuple l] => some l
  | _ => none
abbrev rListOf (K : PySem.W.Frag) : List V → Hp → VK → Prop := fun xs H Q => ∃ p ys, xs = [.ref p] ∧ (SqL K H p ys ∨ SqT K H p ys) ∧ ∀ l, H l = none → Q (.ref l) (upd H l (.lst ys))
theorem sem_listN {K : PySem.W.Frag} : SemNN (rListOf K) uListN := fun g H st as xs ds Q l k r e w => by
  unfold uListN at e
  split at e
  · cases e
    obtain ⟨x, r1, rfl, q1, q2⟩ := reps1_cons r
    cases reps1_nil q2
    obtain ⟨p, vs, rfl, hp, r1, n⟩ := q1.list k.z
    exact ⟨p, vs, rfl, .inl (SqL.of hp), fun q' hq => new_own k hq r1 w⟩
  · cases e
    obtain ⟨x, r1, rfl, q1, q2⟩ := reps1_cons r
    cases reps1_nil q2
    obtain ⟨p, vs, rfl, z, hp, r1⟩ := q1.tup
    exact ⟨p, vs, rfl, .inr (SqT.of hp), fun q' hq => new_own k hq r1 w⟩
  · cases e
def uList (ds : List D) : Option D := (uListN ds).map PyData.list
theorem sem_list {K : PySem.W.Frag} : SemN (rListOf K) uList := fun g H st as xs d Q l k r e q => by
  unfold uList at e
  cases h : uListN as with
  | none => rw [h] at e; cases e
  | some ds =>
    rw [h] at e; cases e
    unfold uListN at h
    split at h
    · cases h
      obtain ⟨x, r1, rfl, q1, q2⟩ := reps1_cons r
      cases reps1_nil q2
      obtain ⟨p, vs, rfl, hp, r1, n⟩ := q1.list k.z
      exact ⟨p, vs, rfl, .inl (SqL.of hp), fun q' hq => new_lst k hq r1 q⟩
    · cases h
      obtain ⟨x, r1, rfl, q1, q2⟩ := reps1_cons r
      cases reps1_nil q2
      obtain ⟨p, vs, rfl, z, hp, r1⟩ := q1.tup
      exact ⟨p, vs, rfl, .inr (SqT.of hp), fun q' hq => new_lst k hq r1 q⟩
    · cases h
def uTuple (ds : List D) : Option D := match ds with
  | [.list l] => some (.tuple l)
  | [.tuple l] => some (.tuple l)
  | _ => none
theorem sem_tuple {K : PySem.W.Frag} : SemN (fun xs H Q => ∃ p ys, xs = [.ref p] ∧ ((SqL K H p ys ∧ ∀ l, H l = none → Q (.ref l) (upd H l (.tup ys))) ∨ (SqT K H p ys ∧ Q (.ref p) H))) uTuple := fun g H st as xs d Q l k r e q => by
  unfold uTuple at e
  split at e
  · cases e
    obtain ⟨x, r1, rfl, q1, q2⟩ := reps1_cons r
    cases reps1_nil q2
    obtain ⟨p, vs, rfl, hp, r1, n⟩ := q1.list k.z
    exact ⟨p, vs, rfl, .inl ⟨SqL.of hp, fun q' hq => new_tup k hq r1 q⟩⟩
  · cases e
    obtain ⟨x, r1, rfl, q1, q2⟩ := reps1_cons r
    cases reps1_nil q2
    obtain ⟨p, vs, rfl, z, hp, r1⟩ := q1.tup
    exact ⟨p, vs, rfl, .inr ⟨SqT.of hp, q g H _ (Grow.refl k.z) k (.tup z hp r1)⟩⟩
  · cases e
/-- all([..]) of truths -/
def blsOf : List D → Option (List Bool)
  | [] => some []
  | .bool i :: ds => (blsOf ds).map (i :: ·)
  | _ :: _ => none
theorem blsOf_eq : ∀ {ds : List D} {ns : List Bool}, blsOf ds = some ns → ds = ns.map PyData.bool
  | [], ns, h => by cases h; rfl
  | d :: ds, ns, h => by
    cases d with
    | bool i =>
      unfold blsOf at h
      cases e : blsOf ds with
      | none => rw [e] at h; cases h
      | some ms => rw [e] at h; cases h; rw [blsOf_eq e]; rfl
    | _ => cases h
@[simp] theorem blsOf_map (ns : List Bool) : blsOf (ns.map PyData.bool) = some ns := by
  induction ns with
  | nil => rfl
  | cons n ns ih => rw [List.map_cons]; unfold blsOf; rw [ih]; rfl
theorem Reps.bls_inv {g : Gh} {H : Hp} : ∀ {ns : List Bool} {vs : List V}, Reps g H (ns.map PyData.bool) vs → vs = ns.map V.bl
  | [], _, h => by cases h; rfl
  | n :: ns, _, h => by
    cases h with
    | cons r t => cases r; rw [Reps.bls_inv t]; rfl
def uAll (ds : List D) : Option D := match ds with
  | [.list l] => (blsOf l).map fun bs => .bool (bs.all id)
  | _ => none
theorem sem_all {K : PySem.W.Frag} : SemN (rAll K) uAll := fun g H st as xs d Q l k r e q => by
  unfold uAll at e
  split at e
  · rename_i ls
    cases e1 : blsOf ls with
    | none => rw [e1] at e; cases e
    | some bs =>
      rw [e1] at e; cases e
      obtain ⟨x, r1, rfl, q1, q2⟩ := reps1_cons r
      cases reps1_nil q2
      obtain ⟨p, vs, rfl, hp, r1, n⟩ := q1.list k.z
      rw [blsOf_eq e1] at r1
      rw [r1.bls_inv] at hp
      exact ⟨p, bs, rfl, SqL.of hp, q g H _ (Grow.refl k.z) k (.bl _)⟩
  · cases e

/-! ### parallel assignment -/
inductive Pt where
  | v (d : D) | n (ds : List D)
def Pt.sl : Pt → Sl
  | .v d => .val d
  | .n ds => .own ds
/-- Hs: the heap ahead of all parts -/
def PtRep (Hs : Hp) (g : Gh) (H : Hp) : Pt → V → Prop
  | .v d, x => Rep g H d x
  | .n ds, x => ∃ a vs, x = .ref a ∧ H a = some (.lst vs) ∧ Reps g H ds vs ∧ ¬ g.Z a ∧ a ∉ g.as ∧ Hs a = none
/-- the new objects lie apart -/
def PtsRep (Hs : Hp) (g : Gh) (H : Hp) (ps : List Pt) (vs : List V) : Prop := Paired (PtRep Hs g H) ps vs ∧ ∀ (i j : Nat) p q a, ps[i]? = some p → ps[j]? = some q → p.sl.isOwn = true → q.sl.isOwn = true → vs[i]? = some (.ref a) → vs[j]? = some (.ref a) → i = j
theorem PtRep.grow {Hs H H' : Hp} {g g' : Gh} {p : Pt} {v : V} (z : Zok g H) (G : Grow g H g' H') (h : PtRep Hs g H p v) : PtRep Hs g' H' p v := by
  cases p with
  | v d => exact Rep.grow z G h
  | n ds =>
    obtain ⟨a, vs, rfl, ha, r, n1, n2, n3⟩ := h
    exact ⟨a, vs, rfl, G.keep a _ ha n2, r.grow z G, (fun y => (G.fr a y).elim n1 fun e => by rw [ha] at e; cases e), G.nas ha n2, n3⟩
theorem PtRep.back {Hs H1 H : Hp} {g : Gh} {p : Pt} {v : V} (hb : ∀ a, H1 a = none → Hs a = none) (h : PtRep H1 g H p v) : PtRep Hs g H p v := by
  cases p with
  | v d => exact h
  | n ds =>
    obtain ⟨a, vs, rfl, ha, r, n1, n2, n3⟩ := h
    exact ⟨a, vs, rfl, ha, r, n1, n2, hb a n3⟩
theorem mono_pts {Hs : Hp} : Mono (PtsRep Hs) := fun _ _ _ _ _ _ z G h => ⟨Paired.mapP h.1 fun _ _ q => q.grow z G, h.2⟩
def tQ (C : Ct) (f : Ex (List Pt)) : TA := fun σ H Q => tG C (PtsRep H) f σ H Q
def qNil : Ex (List Pt) := fun _ st => .ok [] st
def qCons (f : Ex D) (k : Ex (List Pt)) : Ex (List Pt) := fun rh st => (f rh st).bind fun d st => (k rh st).bind fun ps st => .ok (.v d :: ps) st
def qConsN (f : Ex (List D)) (k : Ex (List Pt)) : Ex (List Pt) := fun rh st => (f rh st).bind fun d st => (k rh st).bind fun ps st => .ok (.n d :: ps) st
theorem fq_nil : PA X [] (tQ C qNil) := PAimp pa_nil fun σ H Q ⟨g, rh, st, S, w⟩ => w g H [] (Grow.refl S.ok.z) S.ok ⟨.nil, fun i j p q a h => by simp at h⟩
/-- the tail behind a first part -/
theorem pts_cons {Hs H1 H2 : Hp} {g1 g2 : Gh} {p : Pt} {v : V} {ps : List Pt} {vs : List V} (z : Zok g1 H1) (hp : PtRep Hs g1 H1 p v) (G : Grow g1 H1 g2 H2) (hb : ∀ a, H1 a = none → Hs a = none) (h : PtsRep H1 g2 H2 ps vs) : PtsRep Hs g2 H2 (p :: ps) (v :: vs) := by
  have key : ∀ (j : Nat) q a, ps[j]? = some q → q.sl.isOwn = true → vs[j]? = some (.ref a) → p.sl.isOwn = true → v ≠ .ref a := fun j q a h1 h2 h3 h4 e => by
    cases p with
    | v d => cases h4
    | n ds =>
      obtain ⟨b, ws, rfl, hb', _⟩ := hp
      cases e
      obtain ⟨v', h5, h6⟩ := paired_get h.1 h1
      rw [h3] at h5; cases h5
      cases q with
      | v d => cases h2
      | n es =>
        obtain ⟨c, us, e, _, _, _, _, n3⟩ := h6
        cases e
        rw [hb'] at n3; cases n3
  refine ⟨.cons (hp.grow z G) (Paired.mapP h.1 fun _ _ q => q.back hb), fun i j p' q' a h1 h2 h3 h4 h5 h6 => ?_⟩
  cases i with
  | zero =>
    cases j with
    | zero => rfl
    | succ j =>
      simp at h1 h2 h5 h6
      subst h1
      exact absurd h5 (key j q' a h2 h4 h6 h3)
  | succ i =>
    cases j with
    | zero =>
      simp at h1 h2 h5 h6
      subst h2
      exact absurd h6 (key i p' a h1 h3 h5 h4)
    | succ j =>
      simp at h1 h2 h5 h6
      exact congrArg _ (h.2 i j p' q' a h1 h2 h3 h4 h5 h6)
theorem fq_cons {f : Ex D} {k : Ex (List Pt)} (ha : PE X e (tE C f)) (hr : PA X es (tQ C k)) (hs : starEach (e :: es) X.env = (false, eval e X.env) :: starEach es X.env := by exact starC rfl) : PA X (e :: es) (tQ C (qCons f k)) :=
  PAimp (pa_cons ha hr hs) fun σ H Q h => by
    obtain ⟨g, rh, st, S, w⟩ := h
    refine ⟨g, rh, st, S, ?_⟩
    have w : wpG C (PtsRep H) Q g H ((f rh st).bind fun d st => (k rh st).bind fun ps st => .ok (.v d :: ps) st) := w
    cases q : f rh st with
    | err c d st' => rw [q] at w; exact w
    | stuck => rw [q] at w; exact w
    | ok d st1 =>
      rw [q] at w
      intro g1 H1 v G1 k1 r
      refine ⟨g1, rh, st1, S.grow G1 k1, ?_⟩
      have w : wpG C (PtsRep H) Q g H ((k rh st1).bind fun ps st => .ok (.v d :: ps) st) := w
      cases q2 : k rh st1 with
      | err c d st' => rw [q2] at w; exact w
      | stuck => rw [q2] at w; exact w
      | ok ps st2 =>
        rw [q2] at w
        intro g2 H2 vs G2 k2 rs
        exact w g2 H2 _ (G1.trans G2) k2 (pts_cons (p := .v d) k1.z r G2 (fun a e => G1.back e) rs)
theorem fq_consN {f : Ex (List D)} {k : Ex (List Pt)} (ha : PE X e (tN C f)) (hr : PA X es (tQ C k)) (hs : starEach (e :: es) X.env = (false, eval e X.env) :: starEach es X.env := by exact starC rfl) : PA X (e :: es) (tQ C (qConsN f k)) :=
  PAimp (pa_cons ha hr hs) fun σ H Q h => by
    obtain ⟨g, rh, st, S, w⟩ := h
    refine ⟨g, rh, st, S, ?_⟩
    have w : wpG C (PtsRep H) Q g H ((f rh st).bind fun d st => (k rh st).bind fun ps st => .ok (.n d :: ps) st) := w
    cases q : f rh st with
    | err c d st' => rw [q] at w; exact w
    | stuck => rw [q] at w; exact w
    | ok d st1 =>
      rw [q] at w
      intro g1 H1 a us G1 k1 ha' nz na hv r
      refine ⟨g1, rh, st1, S.grow G1 k1, ?_⟩
      have w : wpG C (PtsRep H) Q g H ((k rh st1).bind fun ps st => .ok (.n d :: ps) st) := w
      cases q2 : k rh st1 with
      | err c d st' => rw [q2] at w; exact w
      | stuck => rw [q2] at w; exact w
      | ok ps st2 =>
        rw [q2] at w
        intro g2 H2 vs G2 k2 rs
        exact w g2 H2 _ (G1.trans G2) k2 (pts_cons (p := .n d) k1.z ⟨a, us, rfl, hv, r, nz, na, ha'⟩ G2 (fun a e => G1.back e) rs)
/-- a part goes into a slot -/
theorem Sta.setp {g : Gh} {rh : Rho} {st : List RV} {σ : L2.St} {H Hs : Hp} {p : Pt} {v : V} (S : Sta C g rh st σ H) (i : Nat) (hp : PtRep Hs g H p v) (hs : ∀ a, Hs a = none → C.H0 a = none)
    (hn : ∀ a, p.sl.isOwn = true → v = .ref a → ∀ (j : Nat) t, j ≠ i → rh[j]? = some (some t) → t.isOwn = true → σ[j]? ≠ some (some (.ref a))) (hb : C.B (σ.set i (some v))) : Sta C g (rh.set i (some p.sl)) st (σ.set i (some v)) H := by
  cases p with
  | v d => exact S.setv i hp hb
  | n ds =>
    obtain ⟨a, vs, rfl, ha, r, n1, n2, n3⟩ := hp
    exact S.seto i ⟨a, vs, rfl, ha, r, n1, n2, hs a n3⟩ (hn a rfl rfl) hb
def kPar2 (i j : Nat) (ps : List Pt) : Ex Fl := fun rh st => match ps with
  | [p, q] => .ok (.nx ((rh.set i (some p.sl)).set j (some q.sl))) st
  | _ => .stuck
def sPar2 (i j : Nat) (f : Ex (List Pt)) : Ex Fl := fun rh st => (f rh st).bind fun ps st => kPar2 i j ps rh st
theorem fs_par2 (i j : Nat) {x y : Str} {px py pt pt2 : Pos} {kt k2 : Nat} {f : Ex (List Pt)} (hX : XOk X CA C) (ha : PA X [a, b] (tQ C f)) (hi : X.N[i]? = some x := by rfl) (hj : X.N[j]? = some y := by rfl) (hij : i ≠ j := by decide)
    (hx : X.env.scope.names.lookup x = some .local := by rfl) (hy : X.env.scope.names.lookup y = some .local := by rfl) (hw : swappedStores [.Tuple [.Name x px, .Name y py] kt pt] (.Tuple [a, b] k2 pt2) X.env = pure (some [x, y]) := by rfl) :
    PS X (.Assign [.Tuple [.Name x px, .Name y py] kt pt] (.Tuple [a, b] k2 pt2) pos) (tS C (sPar2 i j f)) :=
  PSimp (ps_par hX.calm hX.nd hi hj hij hx hy ha hw) fun De σ H h => by
    obtain ⟨g, rh, st, S, w⟩ := h
    refine ⟨g, rh, st, S, ?_⟩
    have w : wpS C De ((f rh st).bind fun ps st => kPar2 i j ps rh st) := w
    cases q : f rh st with
    | err c d st' => rw [q] at w; exact w
    | stuck => rw [q] at w; exact w
    | ok ps st1 =>
      rw [q] at w
      intro g1 H1 vs G1 k1 rs
      have w : wpS C De (kPar2 i j ps rh st1) := w
      unfold kPar2 at w
      split at w
      · rename_i p q' _
        obtain ⟨rs, ap⟩ := rs
        cases rs with
        | cons r1 rs =>
          cases rs with
          | cons r2 rs =>
            cases rs
            rename_i v1 v2
            refine ⟨v1, v2, rfl, ?_⟩
            have S1 := S.grow G1 k1
            have old : ∀ (p : Pt) v, PtRep H g1 H1 p v → ∀ a, p.sl.isOwn = true → v = .ref a → ∀ (j : Nat) t, rh[j]? = some (some t) → t.isOwn = true → σ[j]? ≠ some (some (.ref a)) := fun p v hp a ho ev j t e1 e2 => by
              cases p with
              | v d => cases ho
              | n ds =>
                obtain ⟨b, vs, e, _, _, _, _, n3⟩ := hp
                rw [ev] at e; cases e
                exact S.noOwn n3 j t e1 e2
            have S2 := S1.setp i r1 (fun a e => S.gr.back e) (fun a ho ev j t _ => old _ _ r1 a ho ev j t) (hX.all rfl _)
            have S3 := S2.setp j r2 (fun a e => S.gr.back e) (fun a ho ev j' t hj' e1 e2 e3 => by
              rcases get_set e1 with ⟨rfl, w1⟩ | ⟨n, w1⟩
              · cases w1
                rcases get_set e3 with ⟨_, w2⟩ | ⟨n2, _⟩
                · cases w2
                  have := ap 0 1 p q' a rfl rfl e2 ho rfl (by simpa using ev)
                  cases this
                · exact n2 rfl
              · rw [List.getElem?_set_ne n] at e3
                exact old _ _ r2 a ho ev j' t w1 e2 e3) (hX.all rfl _)
            exact w g1 H1 _ S3
      · exact w.elim
def kPar3 (i j l : Nat) (ps : List Pt) : Ex Fl := fun rh st => match ps with
  | [p, q, r] => .ok (.nx (((rh.set i (some p.sl)).set j (some q.sl)).set l (some r.sl))) st
  | _ => .stuck
def sPar3 (i j l : Nat) (f : Ex (List Pt)) : Ex Fl := fun rh st => (f rh st).bind fun ps st => kPar3 i j l ps rh st
theorem fs_par3 (i j l : Nat) {x y z : Str} {px py pz pt pt2 : Pos} {kt k2 : Nat} {f : Ex (List Pt)} (hX : XOk X CA C) (ha : PA X [a, b, c] (tQ C f)) (hi : X.N[i]? = some x := by rfl) (hj : X.N[j]? = some y := by rfl) (hl : X.N[l]? = some z := by rfl) (hij : i ≠ j := by decide) (hil : i ≠ l := by decide) (hjl : j ≠ l := by decide)
    (hx : X.env.scope.names.lookup x = some .local := by rfl) (hy : X.env.scope.names.lookup y = some .local := by rfl) (hz : X.env.scope.names.lookup z = some .local := by rfl) (hw : swappedStores [.Tuple [.Name x px, .Name y py, .Name z pz] kt pt] (.Tuple [a, b, c] k2 pt2) X.env = pure (some [x, y, z]) := by rfl) :
    PS X (.Assign [.Tuple [.Name x px, .Name y py, .Name z pz] kt pt] (.Tuple [a, b, c] k2 pt2) pos) (tS C (sPar3 i j l f)) :=
  PSimp (ps_par3 hX.calm hX.nd hi hj hl hij hil hjl hx hy hz ha hw) fun De σ H h => by
    obtain ⟨g, rh, st, S, w⟩ := h
    refine ⟨g, rh, st, S, ?_⟩
    have w : wpS C De ((f rh st).bind fun ps st => kPar3 i j l ps rh st) := w
    cases q : f rh st with
    | err c d st' => rw [q] at w; exact w
    | stuck => rw [q] at w; exact w
    | ok ps st1 =>
      rw [q] at w
      intro g1 H1 vs G1 k1 rs
      have w : wpS C De (kPar3 i j l ps rh st1) := w
      unfold kPar3 at w
      split at w
      · rename_i p q' r' _
        obtain ⟨rs, ap⟩ := rs
        cases rs with
        | cons r1 rs =>
          cases rs with
          | cons r2 rs =>
            cases rs with
            | cons r3 rs =>
            cases rs
            rename_i v1 v2 v3
            refine ⟨v1, v2, v3, rfl, ?_⟩
            have S1 := S.grow G1 k1
            have old : ∀ (p : Pt) v, PtRep H g1 H1 p v → ∀ a, p.sl.isOwn = true → v = .ref a → ∀ (j : Nat) t, rh[j]? = some (some t) → t.isOwn = true → σ[j]? ≠ some (some (.ref a)) := fun p v hp a ho ev j t e1 e2 => by
              cases p with
              | v d => cases ho
              | n ds =>
                obtain ⟨b, vs, e, _, _, _, _, n3⟩ := hp
                rw [ev] at e; cases e
                exact S.noOwn n3 j t e1 e2
            have S2 := S1.setp i r1 (fun a e => S.gr.back e) (fun a ho ev j t _ => old _ _ r1 a ho ev j t) (hX.all rfl _)
            have S3 := S2.setp j r2 (fun a e => S.gr.back e) (fun a ho ev j' t hj' e1 e2 e3 => by
              rcases get_set e1 with ⟨rfl, w1⟩ | ⟨n, w1⟩
              · cases w1
                rcases get_set e3 with ⟨_, w2⟩ | ⟨n2, _⟩
                · cases w2
                  have := ap 0 1 p q' a rfl rfl e2 ho rfl (by simpa using ev)
                  cases this
                · exact n2 rfl
              · rw [List.getElem?_set_ne n] at e3
                exact old _ _ r2 a ho ev j' t w1 e2 e3) (hX.all rfl _)
            have S4 := S3.setp l r3 (fun a e => S.gr.back e) (fun a ho ev j' t hj' e1 e2 e3 => by
              rcases get_set e1 with ⟨rfl, w1⟩ | ⟨n, w1⟩
              · cases w1
                rcases get_set e3 with ⟨_, w2⟩ | ⟨n2, _⟩
                · cases w2
                  have := ap 1 2 q' r' a rfl rfl e2 ho rfl (by simpa using ev)
                  cases this
                · exact n2 rfl
              · rw [List.getElem?_set_ne n] at e3
                rcases get_set w1 with ⟨rfl, w3⟩ | ⟨n3, w3⟩
                · cases w3
                  rcases get_set e3 with ⟨_, w2⟩ | ⟨n2, _⟩
                  · cases w2
                    have := ap 0 2 p r' a rfl rfl e2 ho rfl (by simpa using ev)
                    cases this
                  · exact n2 rfl
                · rw [List.getElem?_set_ne n3] at e3
                  exact old _ _ r3 a ho ev j' t w3 e2 e3) (hX.all rfl _)
            exact w g1 H1 _ S4
      · exact w.elim

/-! ### the signs of a text -/
def kIS (d : D) : Ex (List D) := fun _ st => match d with | .str z => .ok (z.cps.toList.map fun c => PyData.str ⟨#[c]⟩) st | _ => .stuck
def iS (f : Ex D) : Ex (List D) := fun rh st => (f rh st).bind fun d st => kIS d rh st
theorem yields_str {z : Str} : Yields (Its z) (z.cps.toList.map fun c => PyData.str ⟨#[c]⟩) [] := by
  refine ⟨fun i g H st k r hi => ?_, fun g H st k r => ?_⟩
  · rw [List.length_map, Array.length_toList] at hi
    refine ⟨hi, fun x H' y => ?_⟩
    obtain ⟨rfl, c, hc, rfl⟩ := y
    refine ⟨g, _, ?_, Grow.refl k.z, k, .str _⟩
    rw [List.getElem?_map, Array.getElem?_toList, hc]; rfl
  · show z.cps.size ≤ _
    simp
theorem fi_str {tg : Expr} {f : Ex D} (h : PE X e (tE C f)) : PI X tg e (tI C (iS f)) :=
  PIimp (pi_str h) fun σ H R h => (bind1 (k := kIS) wkI h).mono fun v H1 ⟨d, g, rh, st, S, r, w⟩ => by
    unfold kIS at w
    split at w
    · cases r
      exact ⟨_, rfl, w g H1 _ _ (Grow.refl S.ok.z) S.ok (fun q hq => absurd hq (by simp)) yields_str⟩
    · exact w.elim
end
end FL

/-! FLs -/
set_option Elab.async false
set_option linter.all false
set_option maxRecDepth 100000
set_option maxHeartbeats 4000000
/-! FLs: texts. -/
namespace FL
open PySem PySem.Spec PyProof.Rows L2

section
variable {X : Cx} {CA : Nat → Addr} {C : Ct} {e e2 a b c : Expr} {es : List Expr} {pos p : Pos} {x : Str} {o : Option (List Nat)}
/-! ### methods of a text -/
def SemS (r : V → List V → Hp → VK → Prop) (u : D → D → Option D) : Prop := ∀ g H st a b x y d (Q : VK), Lens H → StOk g H st → Rep1 g H a x → Rep1 g H b y → u a b = some d → (∀ g' H' v, Grow g H g' H' → StOk g' H' st → Rep g' H' d v → Q v H') → r x [y] H Q
def SemSN (r : V → List V → Hp → VK → Prop) (u : D → D → Option (List D)) : Prop := ∀ g H st a b x y ds (Q : VK), Lens H → StOk g H st → Rep1 g H a x → Rep1 g H b y → u a b = some ds → wN (ct0 H g (fun _ _ _ => False) fun _ => 0) Q g H (.ok ds st) → r x [y] H Q
/-- the receiver is a text -/
def eStr (f : Ex D) : Ex D := fun rh st => (f rh st).bind fun d st => match d with | .str z => .ok (.str z) st | _ => .stuck
def eM1 (u : D → D → Option D) (f k : Ex D) : Ex D := fun rh st => (eStr f rh st).bind fun a st => (k rh st).bind fun b st => ofO (u a b) st
theorem str_bind {γ : Type} {W : Gh → Hp → Out γ → Prop} {f : Ex D} {k : D → Ex γ} {σ : L2.St} {H : Hp} (hW : Wk C W) (h : tW C W (fun rh st => (eStr f rh st).bind fun a st => k a rh st) σ H) :
    tG C Rep1 f σ H (fun x H1 => (∃ a, x = .str a) ∧ ∃ a g rh st, Sta C g rh st σ H1 ∧ Rep1 g H1 a x ∧ W g H1 (k a rh st)) := by
  obtain ⟨g, rh, st, S, w⟩ := h
  refine ⟨g, rh, st, S, ?_⟩
  have w : W g H (((f rh st).bind fun d st => match d with | .str z => .ok (.str z) st | _ => .stuck).bind fun a st => k a rh st) := w
  cases q : f rh st with
  | err c d st' => rw [q] at w; exact hW.err _ _ _ _ _ w
  | stuck => rw [q] at w; exact hW.no _ _ w
  | ok d st1 =>
    rw [q] at w
    intro g1 H1 v G1 k1 r
    cases d with
    | str z =>
      obtain rfl := r.str
      exact ⟨⟨z, rfl⟩, .str z, g1, rh, st1, S.grow G1 k1, r, hW.mono _ _ _ _ _ G1 w⟩
    | _ => exact (hW.no _ _ w).elim
theorem fe_m1 {f k : Ex D} {name : Str} {id : String} {r : V → List V → Hp → VK → Prop} {u : D → D → Option D} {apos : Pos} (slot : Slot "str" name id) (ty : typeOf (.builtin id) = pure (.type "method_descriptor")) (rule : MtR X id r) (hu : SemS r u) (ho : PE X e (tP C f)) (he : PE X e2 (tP C k))
    (hst : starEach [e2] X.env = [(false, eval e2 X.env)] := by rfl) (hbase : attributeBase e name X.env (eval e X.env) = eval e X.env := by rfl) (hline : (apos.endLine == pos.line) = true := by rfl) : PE X (.Call (.Attribute e name apos) [e2] [] pos) (tE C (eM1 u f k)) :=
  PEimp (pe_m1 (r := fun x xs H Q => Lens H → r x xs H Q) slot ty (mtLens rule) ho he hst hbase hline) fun σ H Q h =>
    (str_bind (k := fun a rh st => (k rh st).bind fun b st => ofO (u a b) st) wkG h).mono fun x H1 ⟨hx, a, g, rh, st, S, ra, w⟩ => ⟨hx, by
      refine ⟨g, rh, st, S, ?_⟩
      have w : wpG C Rep Q g H1 ((k rh st).bind fun b st => ofO (u a b) st) := w
      cases q : k rh st with
      | err c d st' => rw [q] at w; exact w
      | stuck => rw [q] at w; exact w
      | ok b st1 =>
        rw [q] at w
        intro g1 H2 y G1 k1 rb l
        have w : wpG C Rep Q g H1 (ofO (u a b) st1) := w
        cases e : u a b with
        | none => rw [e] at w; exact w.elim
        | some d => rw [e] at w; exact hu g1 H2 st1 a b x y d Q l k1 (mono_rep1 _ _ _ _ _ _ S.ok.z G1 ra) rb e (wkG.mono _ _ _ _ _ G1 w)⟩
/-- .. that makes a new list -/
def nM1 (u : D → D → Option (List D)) (f k : Ex D) : Ex (List D) := fun rh st => (eStr f rh st).bind fun a st => (k rh st).bind fun b st => ofO (u a b) st
theorem fn_m1 {f k : Ex D} {name : Str} {id : String} {r : V → List V → Hp → VK → Prop} {u : D → D → Option (List D)} {apos : Pos} (slot : Slot "str" name id) (ty : typeOf (.builtin id) = pure (.type "method_descriptor")) (rule : MtR X id r) (hu : SemSN r u) (ho : PE X e (tP C f)) (he : PE X e2 (tP C k))
    (hst : starEach [e2] X.env = [(false, eval e2 X.env)] := by rfl) (hbase : attributeBase e name X.env (eval e X.env) = eval e X.env := by rfl) (hline : (apos.endLine == pos.line) = true := by rfl) : PE X (.Call (.Attribute e name apos) [e2] [] pos) (tN C (nM1 u f k)) :=
  PEimp (pe_m1 (r := fun x xs H Q => Lens H → r x xs H Q) slot ty (mtLens rule) ho he hst hbase hline) fun σ H Q h =>
    (str_bind (k := fun a rh st => (k rh st).bind fun b st => ofO (u a b) st) wkN (tN_of h)).mono fun x H1 ⟨hx, a, g, rh, st, S, ra, w⟩ => ⟨hx, by
      refine ⟨g, rh, st, S, ?_⟩
      have w : wN C Q g H1 ((k rh st).bind fun b st => ofO (u a b) st) := w
      cases q : k rh st with
      | err c d st' => rw [q] at w; exact w
      | stuck => rw [q] at w; exact w
      | ok b st1 =>
        rw [q] at w
        intro g1 H2 y G1 k1 rb l
        have w : wN C Q g H1 (ofO (u a b) st1) := w
        cases e : u a b with
        | none => rw [e] at w; exact w.elim
        | some d => rw [e] at w; exact hu g1 H2 st1 a b x y d Q l k1 (mono_rep1 _ _ _ _ _ _ S.ok.z G1 ra) rb e (wkN.mono _ _ _ _ _ G1 w)⟩
/-- split -/
def strsD (ys : List Str) : List D := ys.map PyData.str
theorem reps_strs {g : Gh} {H : Hp} : ∀ (ys : List Str), Reps g H (strsD ys) (ys.map V.str)
  | [] => .nil
  | y :: ys => .cons (.str y) (reps_strs ys)
def uSplit : D → D → Option (List D)
  | .str a, .str b => if b.length ≠ 0 ∧ a.length + 2 ≤ lim then some (strsD (Txt.split a b)) else none
  | _, _ => none
abbrev rSplit : V → List V → Hp → VK → Prop := fun x xs H Q => ∃ a b, x = .str a ∧ xs = [.str b] ∧ (b.length == 0) = false ∧ a.length + 2 ≤ sizeLine ∧ rNewStrs (Txt.split a b) H Q
theorem sem_splitN : SemSN rSplit uSplit := fun g H st a b x y ds Q l k ra rb e w => by
  unfold uSplit at e
  split at e
  · split at e
    · rename_i h
      cases e; cases ra.str; cases rb.str
      exact ⟨_, _, rfl, rfl, beq_eq_false_iff_ne.mpr h.1, by rw [← lim_eq]; exact h.2, fun p hp => new_own k hp (reps_strs _) w⟩
    · cases e
  · cases e
/-- join -/
def strsOf : List D → Option (List Str)
  | [] => some []
  | .str i :: ds => (strsOf ds).map (i :: ·)
  | _ :: _ => none
theorem strsOf_eq : ∀ {ds : List D} {ns : List Str}, strsOf ds = some ns → ds = strsD ns
  | [], ns, h => by cases h; rfl
  | d :: ds, ns, h => by
    cases d with
    | str i =>
      unfold strsOf at h
      cases e : strsOf ds with
      | none => rw [e] at h; cases h
      | some ms => rw [e] at h; cases h; rw [strsOf_eq e]; rfl
    | _ => cases h
@[simp] theorem strsOf_map (ns : List Str) : strsOf (ns.map PyData.str) = some ns := by
  induction ns with
  | nil => rfl
  | cons n ns ih => rw [List.map_cons]; unfold strsOf; rw [ih]; rfl
theorem Reps.strs_inv {g : Gh} {H : Hp} : ∀ {ns : List Str} {vs : List V}, Reps g H (strsD ns) vs → vs = ns.map V.str
  | [], _, h => by cases h; rfl
  | n :: ns, _, h => by
    cases h with
    | cons r t => cases r; rw [Reps.strs_inv t]; rfl
def uJoin : D → D → Option D
  | .str a, .list l => (strsOf l).bind fun ys => if (ys.map (·.length)).sum + ys.length * a.length ≤ lim then some (.str (Txt.join a ys)) else none
  | _, _ => none
abbrev rJoin (K : PySem.W.Frag) : V → List V → Hp → VK → Prop := fun x xs H Q => ∃ a p, ∃ ys : List Str, x = .str a ∧ xs = [.ref p] ∧ (SqL K H p (ys.map V.str) ∨ SqT K H p (ys.map V.str)) ∧ (ys.map (·.length)).sum + ys.length * a.length ≤ 16777216 ∧ Q (.str (Txt.join a ys)) H
theorem sem_join {K : PySem.W.Frag} : SemS (rJoin K) uJoin := fun g H st a b x y d Q l k ra rb e q => by
  unfold uJoin at e
  split at e
  · rename_i z ls
    cases e1 : strsOf ls with
    | none => rw [e1] at e; cases e
    | some ys =>
      rw [e1] at e
      have e : (if (ys.map (·.length)).sum + ys.length * z.length ≤ lim then some (PyData.str (Txt.join z ys)) else none) = some d := e
      split at e
      · rename_i h
        cases e
        cases ra.str
        obtain ⟨p, vs, rfl, hp, r1, n⟩ := rb.list k.z
        rw [strsOf_eq e1] at r1
        rw [r1.strs_inv] at hp
        exact ⟨_, p, ys, rfl, rfl, .inl (SqL.of hp), h, q g H _ (Grow.refl k.z) k (.str _)⟩
      · cases e
  · cases e
/-- the signs the other way round -/
def revS (z : Str) : Str := ⟨((Builtin.Str.strSliceIndices none none (-1) z.length).filterMap (z.cps[·]?)).toArray⟩
theorem revIx_len (n : Nat) : (Builtin.Str.strSliceIndices none none (-1) n).length ≤ n := by
  unfold Builtin.Str.strSliceIndices sliceRange
  simp only [show ¬ ((-1 : Int) > 0) by decide, if_false, List.length_map, List.length_range]
  split
  · have h : ((n : Int) - 1 - -1 - -1 - 1) / - -1 = (n : Int) := by rw [show (- -1 : Int) = 1 from rfl, Int.ediv_one]; omega
    omega
  · simp
theorem revS_len (z : Str) : (revS z).length ≤ z.length := by
  show (List.filterMap _ (Builtin.Str.strSliceIndices none none (-1) z.length)).toArray.size ≤ z.length
  rw [List.size_toArray]
  exact Nat.le_trans (List.length_filterMap_le _ _) (revIx_len z.length)
def uRevS (d : D) : Option D := match d with | .str z => if z.length ≤ lim then some (.str (revS z)) else none | _ => none
theorem fe_revS {k : Nat} {p1 p2 p3 : Pos} {f : Ex D} (he : PE X e (tP C f)) : PE X (.Subscript e (.Slice none none (some (.UnaryOp .USub (.Constant (.int 1) k p1) p2)) p3) pos) (tE C (eUn uRevS f)) := by
  have core : PE X (.Subscript e (.Slice none none (some (.UnaryOp .USub (.Constant (.int 1) k p1) p2)) p3) pos) (fun σ H Q => tP C f σ H fun x H1 => ∃ z, x = .str z ∧ z.length ≤ sizeLine ∧ Q (.str (revS z)) H1) := by
    refine ⟨fun pins s σ H Q I h => ?_⟩
    refine Subscript_ (thn (he.run pins s σ H _ I h) fun v s1 ⟨x, H1, I1, r1, q1⟩ => ?_)
    obtain ⟨z, ex, hz, q⟩ := q1
    subst ex
    obtain ⟨t, rfl⟩ := r1
    have hst : PO X (some (.UnaryOp .USub (.Constant (.int 1) k p1) p2)) (tPart (tUn (rU fun i => .int (-i)) (tC (.int 1)))) := po_some (pe_un un_neg pe_int)
    refine wpAny_Slice (thn (po_none.run pins s1 σ H1 (fun o H2 => o = none ∧ H2 = H1) I1 ⟨rfl, rfl⟩) fun vl s2 ⟨l, H2, I2, pl, el, e2⟩ => ?_)
    subst el e2
    refine thn (po_none.run pins s2 σ H2 (fun o H3 => o = none ∧ H3 = H2) I2 ⟨rfl, rfl⟩) fun vu s3 ⟨u, H3, I3, pu, eu, e3⟩ => ?_
    subst eu e3
    refine thn (hst.run pins s3 σ H3 (fun o H4 => o = some (-1) ∧ H4 = H3) I3 ⟨1, rfl, -1, rfl, rfl, rfl⟩) fun vs s4 ⟨o, H4, I4, ps, eo, e4⟩ => ?_
    subst eo e4
    have I5 : Inv X pins σ H4 { s4 with heap := s4.heap.push { cls := .type "slice", data := .fields #[vl, vu, vs] } } := I4.kept (t' := s4.toks) fun b ob q => Heap.get?_push_of_some _ q
    cases pl
    cases pu
    cases ps with
    | int i ti =>
      show wpAny (model X.prog X.w) X.A (subscriptTail e (.Slice none none (some (.UnaryOp .USub (.Constant (.int 1) k p1) p2)) p3) (.str z t) (.ref s4.heap.objs.size)) (EP X pins σ Q) X.xe { s4 with heap := s4.heap.push { cls := .type "slice", data := .fields #[.none, .none, .int (-1) ti] } }
      refine tail_any (ops := [.str z t, .ref s4.heap.objs.size]) (typeIs_str _ _ _) (F.slot_str_getitem.lookup) ?_ (by with_unfolding_all rfl)
      refine wpAny_getItem_str_slice (l := none) (u := none) (st := some (-1, ti)) ⟨_, Heap.get?_push_size _ rfl, rfl, rfl⟩ rfl ?_
      have hl : (revS z).length ≤ sizeLine := Nat.le_trans (revS_len z) hz
      unfold revS at q hl
      show Made.post (if ((-1 : Int) == 1 && (Builtin.Str.strSliceIndices none none (-1) z.length).length == z.length) = true then Made.val (.str z t)
        else Made.str ⟨((Builtin.Str.strSliceIndices none none (-1) z.length).filterMap (z.cps[·]?)).toArray⟩) (EP X pins σ Q) _
      rw [if_neg (by simp)]
      exact ⟨hl, .str _, H4, I5.tok _, ⟨_, rfl⟩, q⟩
  exact PEimp core fun σ H Q h => (bind1 (k := fun a rh st => ofO (uRevS a) st) wkG h).mono fun x H1 ⟨a, g, rh, st, S, ra, w⟩ => by
    cases a with
    | str z =>
      cases ra.str
      have w : wpG C Rep Q g H1 (ofO (if z.length ≤ lim then some (.str (revS z)) else none) st) := w
      split at w
      · rename_i h
        exact ⟨z, rfl, by rw [← lim_eq]; exact h, w g H1 _ (Grow.refl S.ok.z) S.ok (.str _)⟩
      · exact w.elim
    | _ => exact w.elim
/-! ### numbers as texts, texts as numbers -/
def strI (i : Int) : Str := Str.ofString (toString i)
def uStr (ds : List D) : Option D := match ds with
  | [.int i] => if i.natAbs.log2 < 1920 then some (.str (toString i)) else none
  | [.str a] => some (.str a)
  | _ => none
def rStrAll : List V → Hp → VK → Prop := fun xs H Q => (∃ i, xs = [.int i] ∧ i.natAbs.log2 < 1920 ∧ Q (.str (toString i)) H) ∨ (∃ a, xs = [.str a] ∧ Q (.str a) H)
theorem call_strAll : CallR X (.type "str") rStrAll := call_str_int.or SkE.call_str_str
theorem sem_str : SemN rStrAll uStr := fun g H st as xs d Q l k r e q => by
  unfold uStr at e
  split at e
  · split at e
    · rename_i h
      cases e
      obtain ⟨x, r1, rfl, q1, q2⟩ := reps1_cons r
      cases reps1_nil q2
      cases q1.int
      exact .inl ⟨_, rfl, h, q g H _ (Grow.refl k.z) k (.str _)⟩
    · cases e
  · cases e
    obtain ⟨x, r1, rfl, q1, q2⟩ := reps1_cons r
    cases reps1_nil q2
    cases q1.str
    exact .inr ⟨_, rfl, q g H _ (Grow.refl k.z) k (.str _)⟩
  · cases e
def uIntA (ds : List D) : Option D := match ds with
  | [.int i] => some (.int i)
  | [.bool b] => some (.int (if b then 1 else 0))
  | [.str a] => if a.length ≤ 640 then (PySem.intText? a).map PyData.int else none
  | _ => none
def rIntAll : List V → Hp → VK → Prop := fun xs H Q => ((∃ i, xs = [.int i] ∧ Q (.int i) H) ∨ ∃ k, xs = [.bl k] ∧ Q (.int (if k then 1 else 0)) H) ∨ (∃ a n, xs = [.str a] ∧ PySem.intText? a = some n ∧ a.length ≤ 640 ∧ Q (.int n) H)
theorem call_intAll : CallR X (.type "int") rIntAll := call_int1.or call_int_str
theorem sem_intA : SemN rIntAll uIntA := fun g H st as xs d Q l k r e q => by
  unfold uIntA at e
  split at e
  · cases e
    obtain ⟨x, r1, rfl, q1, q2⟩ := reps1_cons r
    cases reps1_nil q2
    cases q1.int
    exact .inl (.inl ⟨_, rfl, q g H _ (Grow.refl k.z) k (.int _)⟩)
  · cases e
    obtain ⟨x, r1, rfl, q1, q2⟩ := reps1_cons r
    cases reps1_nil q2
    cases q1.bl
    exact .inl (.inr ⟨_, rfl, q g H _ (Grow.refl k.z) k (.int _)⟩)
  · rename_i a
    split at e
    · rename_i h
      cases e1 : PySem.intText? a with
      | none => rw [e1] at e; cases e
      | some n =>
        rw [e1] at e; cases e
        obtain ⟨x, r1, rfl, q1, q2⟩ := reps1_cons r
        cases reps1_nil q2
        cases q1.str
        exact .inr ⟨_, _, rfl, e1, h, q g H _ (Grow.refl k.z) k (.int _)⟩
    · cases e
  · cases e
end
end FL

/-! FLx -/
set_option Elab.async false
set_option linter.all false
set_option maxRecDepth 100000
set_option maxHeartbeats 4000000
/-! FLx: own errors: raised, caught, asked. -/
namespace FL
open PySem PySem.Spec PyProof.Rows L2

/-! ### the class of an error that has a dict -/
section
variable {prog : Program} {w : World} {A : Around} {E : Value → Shared → Prop} {s : Shared} {K : PySem.W.Frag} {x D : Addr} {ox : Obj} {od : Option Obj}
theorem found_cls (T : ExcC K D) : PySem.W.findObj K D od "__class__" = some (.bind (.builtin "getset_descriptor.__get__") (.builtin "object.__class__")) := by
  obtain ⟨cd, hc, _⟩ := PySem.W.any_some T.hd
  unfold PySem.W.findObj; rw [hc, T.ha]; simp [T.hn, T.ht]
open PySem.W in
theorem exc_cls {Q : Option Value → Shared → Prop} (T : ExcC K D) (X : K.In s.heap) (I : PySem.W.InstAt s.heap x ox D od) (h : Q (some (.ref D)) { s with toks := s.toks + 1 }) : wpAny (model prog w) A (getAttr? (.ref x) "__class__") Q E s := by
  obtain ⟨hp, g, d, t, os⟩ := s
  have a0 := I.type (M := model prog w); have a1 := looks_findIn (M := model prog w) X T.hg; have a2 := looks_findIn (M := model prog w) X T.hk
  have a3 := looks_find (M := model prog w) X I (found_cls (od := od) T)
  have b : Looks (model prog w) hp (isInstance (.ref x) (.type "BaseException")) true := a0.andThen (looks_subIn X T.hs)
  have c2 : (Value.builtin "BaseException.__getattribute__" == Value.builtin "object.__getattribute__") = false := by decide +kernel
  have c1 : (onTheHeap (Value.ref D) && Value.builtin "BaseException.__getattribute__" == Value.builtin "object.__getattribute__") = false := by rw [c2]; rfl
  unfold getAttr? getAttrBy? getAttrBy; refine wpAny_bind (wpAny_mkText (wpAny_bind (wpAny_attempt (wpAny_holding (wpAny_bind (a0.at (wpAny_bind (a1.at ?_))))))))
  show wpAny _ _ (if (onTheHeap (Value.ref D) && Value.builtin "BaseException.__getattribute__" == Value.builtin "object.__getattribute__") = true then _ else _) _ _ _; rw [c1, if_neg Bool.false_ne_true]
  unfold getAttrByItsOwn hookBefore; refine wpAny_bind ?_; rw [if_pos (show onTheHeap (Value.ref D) = true from rfl)]; refine a2.at ?_
  refine wpAny_bind (wpAny_attempt (wpAny_holding ?_)); unfold callGetattribute; rw [show (false && onTheHeap (Value.builtin "BaseException.__getattribute__")) = false from rfl, if_neg Bool.false_ne_true]
  unfold boundAndCalled; rw [PySem.F.excAttr_ValueError.ga.bind (.ref x)]; refine wpAny_bind (wpAny_pure ?_)
  show wpAny _ _ (call (.builtin "BaseException.__getattribute__") [.ref x, .str "__class__" t]) _ _ _; refine wpAny_call (codeAny_call_builtin PySem.F.excAttr_ValueError.ga.plain PySem.F.entry_bexc_ga ?_)
  refine @check_slot (model prog w) _ _ ⟨hp, g, d, t + 1, os⟩ "BaseException.__getattribute__" "BaseException" "__getattribute__" (.ref x) [.str "__class__" t] [] _ (by decide +kernel) (by decide +kernel) b (PySem.F.args_bexc_ga (.ref x) (.str "__class__" t)) ?_
  unfold Builtin.«object.__getattribute__»; refine wpAny_bind (wpAny_of_eq (a := ((Value.ref x : Value), [Value.str "__class__" t])) (by first | rfl | (simp only [slotArgs]; rfl)) ?_)
  refine wpAny_bind (wpAny_pure (wpAny_bind (a0.at (wpAny_bind (a3.at ?_))))); show wpAny _ _ (holding [Value.builtin "object.__class__"] (call (.builtin "getset_descriptor.__get__") [.builtin "object.__class__", .ref x, .ref D]) >>= ret) _ _ _
  refine wpAny_bind (wpAny_holding (wpAny_call (class_get (s := ⟨hp, g, d, t + 1, os⟩) (ox := ox) (od := od) X I T.hm ?_))); refine wpAny_pure ?_
  show wpAny _ _ (handedOut (.ref D)) _ _ _; rw [handedOut_of (v := .ref D) rfl]
  first | exact wpAny_pure (wpAny_pure h) | exact wpAny_pure h | exact wpAny_pure (wpAny_bind (wpAny_pure (wpAny_pure h)))
open PySem.W in
theorem kit_exc (T : ExcC K D) : KitX K (.ref x) (.ref D) (fun h => InstAt h x ox D od) where
  ty := fun _ _ _ I => I.type
  it := fun _ _ X _ => by
    obtain ⟨cdD, hcD, _⟩ := any_some T.hd
    unfold clsIn at hcD; split at hcD
    · rename_i c' d' cd' sl' ho
      intro A' Q' E' s' k q; unfold isType loadHead; exact wpAny_bind (wpAny_loadPart (k _ _ (X _ _ ho)) (wpAny_pure q))
    · cases hcD
  ne := fun h tp dd its n sl X htp => by
    obtain ⟨cdD, hcD, _⟩ := any_some T.hd
    refine Bool.eq_false_iff.mpr fun q => ?_
    have e : D = tp := Value.ref.inj (beq_iff_eq.mp q); subst e
    unfold clsIn at hcD; split at hcD
    · rename_i c' d' cd' sl' ho; have z := (X _ _ ho).symm.trans htp; cases z
    · cases hcD
  ca := fun X I k => exc_cls T X I k
end

section
variable {X : Cx} {CA : Nat → Addr} {C : Ct} {o : Option (List Nat)} {e : Expr} {pos p : Pos}
/-- what the suite knows of the exception that it holds -/
structure Held (X : Cx) (CA : Nat → Addr) (C : Ct) (a : Addr) (oe : Obj) (dd : Addr) (c : Nat) : Prop where
  z : Zc (.ref (CA c)) (some dd) oe
  f : ∃ vs, oe.data = .fields vs
  x : C.xn = some (a, dd, c)
/-- isinstance(e, c) -/
def rIsX (K : PySem.W.Frag) (D a dd : Addr) : List V → Hp → VK → Prop := fun xs H Q => (∃ fs, H dd = some (.xd fs)) ∧
  ((∃ (c : V) (cv : Value) (b : Bool), xs = [.ref a, c] ∧ (∀ u, RelV c u → u = cv) ∧ PySem.W.kitOne K (.ref D) cv = some b ∧ Q (.bl b) H) ∨
   (∃ (tp : Addr) (cs : List V) (us : List Value) (b : Bool), xs = [.ref a, .ref tp] ∧ H tp = some (.tup cs) ∧ (∀ ws, Vals cs ws → ws = us) ∧ PySem.W.kitAny K (.ref D) us = some b ∧ Q (.bl b) H))
theorem call_isX {a dd : Addr} {c : Nat} {oe : Obj} {pn : List (Addr × Obj)} (T : ExcC X.K (CA c)) (hh : Held X CA C a oe dd c) : CallR (X.suite a ((a, oe) :: pn)) (.builtin "isinstance") (rIsX X.K (CA c) a dd) := by
  intro pins s σ H xs us Q I r h
  obtain ⟨⟨fs, hdd⟩, h⟩ := h
  obtain ⟨hget, _⟩ := I.pin (a, oe) (List.mem_append.mpr (.inl List.mem_cons_self))
  obtain ⟨vs, hv⟩ := hh.f
  have hx : ObjOk X.prog X.w H s.heap dd (.xd fs) := I.hok dd _ hdd
  obtain ⟨mA, hns, hr⟩ := hx
  obtain ⟨od, ho, hl⟩ := lookIn_ns hns
  have J : PySem.W.InstAt s.heap a oe (CA c) (some od) := ⟨hget, hh.z.1, by unfold PySem.W.notCls; rw [hv] <;> rfl, by rw [hh.z.2]; exact ho⟩
  rcases h with ⟨c', cv, b, rfl, hcv, e, q⟩ | ⟨tp, cs, us', b, rfl, htp, hcs, e, q⟩
  · cases r with
    | cons rx rr =>
      cases rr with
      | cons rt rr =>
        cases rr
        cases rx
        have ec := hcv _ rt
        subst ec
        exact PySem.W.kia_one (kit_exc T) I.kIn J e (fun z => nomatch z) fun tk => ⟨.bl b, H, I.kept (t' := tk) fun _ _ z => z, rfl, q⟩
  · cases r with
    | cons rx rr =>
      cases rr with
      | cons rt rr =>
        cases rr
        cases rx
        cases rt
        have ht : ObjOk X.prog X.w H s.heap tp (.tup cs) := I.hok tp _ htp
        obtain ⟨_, ws, hw, ob, hg, hc, n, hd⟩ := ht
        have ew := hcs ws hw
        subst ew
        obtain ⟨oc, odd, oda, osl⟩ := ob
        dsimp only at hc hd
        subst hc hd
        exact PySem.W.kia_tup (kit_exc T) I.kIn J hg e (fun z => nomatch z) fun tk => ⟨.bl b, H, I.kept (t' := tk) fun _ _ z => z, rfl, q⟩
end

/-! ### an own class: its __init__(self, value), raise -/
def spInit (K : PySem.W.Frag) : Sp := fun vs H Q _ => ∃ a C v, vs = [.ref a, v] ∧ OexC K C ∧ PySem.W.findIn K (.ref C) "value" = some none ∧ H a = some (exo a C none) ∧
  ∀ dx, H dx = none → dx ≠ a → Q .non (upd (upd H dx (exd dx [("value", v)])) a (exo a C (some dx)))
theorem ok_init {P : Program} {w : World} {K : PySem.W.Frag} {mg : Str → Option Value} {base : Heap} {x qual : Str} {st : Stmt} {f : Addr} {fd : FuncData} {k : Nat} {p1 p2 p3 p4 : Pos} (F : Fun K x qual st f fd) (S : FnScope ["self", "value"] ["self", "value"] (defScope st))
    (hb : defBody st = [.Assign [.Attribute (.Name "self" p1) "value" p2] (.Name "value" p3) p4]) (v0 : Vis (defScope st) "self") (v1 : Vis (defScope st) "value") : FnOk P w K mg base (L2.CX P w) (k + 1) f fd ["self", "value"] (spInit K) := by
  refine F.okX S (fun vs H Q E ⟨a, C, v, e, _⟩ => by rw [e]; rfl) fun cdv A outer s0 H vs Q E hr ⟨a, C, v, e, h1, h2, h3, h4⟩ => ?_
  subst e
  rw [hb]
  refine ⟨_, pss_one (ps_ost (pv 0 (hv := v0)) (pv 1 (hv := v1))), ?_⟩
  exact ⟨v, rfl, .ref a, rfl, a, C, rfl, h1, h2, .inl ⟨h3, fun dx hd hn => h4 dx hd hn⟩⟩
/-- a class of errors by the name x, at C -/
structure HasE (P : Program) (w : World) (K : PySem.W.Frag) (mg : Str → Option Value) (base : Heap) (k : Nat) (x : Str) (C : Addr) : Prop where
  g : mg x = some (.ref C)
  T : OexC K C
  no : PySem.W.findIn K (.ref C) "value" = some none
  ini : ∃ fI fd, PySem.W.findIn K (.ref C) "__init__" = some (some (.ref fI)) ∧ PySem.W.typeIn K (.ref fI) = some (.type "function") ∧ FnOk P w K mg base (L2.CX P w) k fI fd ["self", "value"] (spInit K) ∧ Binds K fd ["self", "value"] []
theorem HasE.mono {P : Program} {w : World} {K : PySem.W.Frag} {mg : Str → Option Value} {base : Heap} {j k : Nat} {x : Str} {C : Addr} (h : HasE P w K mg base j x C) (hk : j ≤ k) : HasE P w K mg base k x C := by
  obtain ⟨fI, fd, h1, h2, h3, h4⟩ := h.ini
  exact ⟨h.g, h.T, h.no, fI, fd, h1, h2, h3.mono hk, h4⟩
section
variable {X : Cx} {CA : Nat → Addr} {C : Ct} {o : Option (List Nat)} {e : Expr} {pos p : Pos} {x : Str} {k : Nat}
def sRaise (c : Nat) (f : Ex D) : Ex Fl := fun rh st => (f rh st).bind fun d st => .err c d st
theorem fs_raise (c : Nat) {f : Ex D} {pos2 : Pos} (HE : HasE X.prog X.w X.K X.mg X.base k x (CA c)) (hX : XOkW X CA o C) (hr : Room (k + 1) X.A) (ha : PE X e (tE C f)) (hg : Gl X x := by rfl)
    (hdb : (x == ("__debug__" : Str)) = false := by decide) (he : starEach (e :: []) X.env = (false, eval e X.env) :: starEach [] X.env := by rfl) (hpl : (backTo pos (starEach [] X.env)).any (·.1) = false := by rfl) :
    PS X (.Raise (some (.Call (.Name x p) [e] [] pos)) none pos2) (tS C (sRaise c f)) := by
  obtain ⟨fI, fd, iC, tI, F1, hb⟩ := HE.ini
  refine PSimp (ps_raise hX.calm hX.tk (pmk_oex HE.T iC tI F1 hr hb .nil (passes_call hX.tk fun _ _ _ _ h => h.elim) hg HE.g (pa_cons ha pa_nil he) hdb he hpl)) fun De σ H h => ?_
  refine (bind1 (k := fun d _ st => .err c d st) wkS h).mono fun v H1 ⟨d, g, rh, st, S, r, w⟩ => ?_
  refine ⟨by show 1 ≤ 1000; decide, fun a ha' => ⟨a, CA c, v, rfl, HE.T, HE.no, upd_same, fun dx hdx hn => ⟨rfl, dx, [("value", v)], upd_same, ?_, ?_, ?_⟩⟩⟩
  · rw [upd_ne hn, upd_same]
  · rw [upd_ne hn] at hdx; exact hdx
  · have hdx' : H1 dx = none := by rw [upd_ne hn] at hdx; exact hdx
    have e3 : upd (L2.del (upd (upd (upd H1 a (exo a (CA c) none)) dx (exd dx [("value", v)])) a (exo a (CA c) (some dx))) a) dx (.xd [("value", v)]) = upd H1 dx (.xd [("value", v)]) := by
      funext b
      by_cases hb1 : b = dx
      · subst hb1; rw [upd_same, upd_same]
      · rw [upd_ne hb1, upd_ne hb1]
        by_cases hb2 : b = a
        · subst hb2; rw [del_same, ha']
        · rw [del_ne hb2, upd_ne hb2, upd_ne hb1, upd_ne hb2]
    rw [e3]
    have w : XW C c d st := w
    have w := w g (upd H1 dx (.xd [("value", v)])) dx v (S.gr.trans (Grow.new S.ok.z hdx')) (S.ok.new hdx') upd_same (S.gr.back hdx') (r.grow S.ok.z (Grow.new S.ok.z hdx'))
    rw [hX.ca] at w
    exact ⟨w, S.b⟩

/-! ### try .. except -/
def noX (i : Nat) (r : Rho) : Bool := (List.range r.length).all fun j => j == i || (match r[j]? with | some (some (.exc _ _)) => false | _ => true)
def noOwnR (r : Rho) : Bool := r.all fun s => match s with | some s => !s.isOwn | none => true
def unX (i : Nat) (f : Fl) (st : List RV) : Out Fl := match f with
  | .nx r => if noX i r then .ok (.nx (r.set i none)) st else .stuck
  | .ct r => if noX i r then .ok (.ct (r.set i none)) st else .stuck
  | .bk r => if noX i r then .ok (.bk (r.set i none)) st else .stuck
  | f => .ok f st
def sTry (caught : Nat → Bool) (ws : List Nat) (body : Ex Fl) (i : Nat) (hand : Ex Fl) : Ex Fl := fun rh st => if noOwnR rh then (match body rh st with
  | .ok f st' => .ok f st'
  | .err c d st' => if caught c then (noE (hand ((wipeR ws rh).set i (some (.exc c d))) st')).bind (unX i) else .stuck
  | .stuck => .stuck) else .stuck
theorem slot_noX {i j : Nat} {r : Rho} {s : Sl} (h : noX i r = true) (hj : j ≠ i) (e : r[j]? = some (some s)) : ∀ c d, s ≠ .exc c d := fun c d q => by
  subst q
  unfold noX at h
  rw [List.all_eq_true] at h
  have := h j (List.mem_range.mpr (List.getElem?_eq_some_iff.mp e).1)
  rw [e] at this
  simp [hj] at this
theorem slot_xn {H0 : Hp} {xn xn' : Option (Addr × Addr × Nat)} {g : Gh} {H : Hp} {s : Sl} {v : V} (h : SlRep H0 xn g H s v) (hs : ∀ c d, s ≠ .exc c d) : SlRep H0 xn' g H s v := by
  cases s with
  | exc c d => exact absurd rfl (hs c d)
  | _ => exact h
/-- the context that starts here -/
theorem Sta.rebase {g g' : Gh} {rh r : Rho} {st st' : List RV} {σ σ' : L2.St} {H H' : Hp} {E' : XK} {B' : L2.St → Prop} (S : Sta C g rh st σ H) (S' : Sta { C with H0 := H, g0 := g, E := E', B := B' } g' r st' σ' H') (hB : C.B σ') : Sta C g' r st' σ' H' := by
  refine ⟨⟨S'.rel.len, fun i s e => ?_, S'.rel.sep⟩, S'.ok, S.gr.trans S'.gr, S'.pin, hB⟩
  obtain ⟨v, h1, h2⟩ := S'.rel.rep i s e
  have ow : ∀ a, Own H g' a → Own C.H0 g' a := fun a o => ⟨o.1, o.2.1, S.gr.back o.2.2⟩
  refine ⟨v, h1, ?_⟩
  cases s with
  | own ds => obtain ⟨a, vs, e1, e2, e3, e4⟩ := h2; exact ⟨a, vs, e1, e2, e3, ow a e4⟩
  | dk ds => obtain ⟨a, vs, e1, e2, e3, e4⟩ := h2; exact ⟨a, vs, e1, e2, e3, ow a e4⟩
  | dt ds => obtain ⟨a, vs, e1, e2, e3, e4⟩ := h2; exact ⟨a, vs, e1, e2, e3, ow a e4⟩
  | _ => exact h2
theorem noOwn_at {r : Rho} {i : Nat} {s : Sl} (h : noOwnR r = true) (e : r[i]? = some (some s)) : s.isOwn = false := by
  unfold noOwnR at h
  rw [List.all_eq_true] at h
  have := h _ (List.mem_of_getElem? e)
  simpa using this
variable {n : Str} {c0 : Value} {i : Nat} {body suite : List Stmt} {b0 : Stmt} {np pos' : Pos} {bf hf' : Ex Fl}
theorem fs_try (caught : Nat → Bool) (ws : List Nat) (i : Nat) (hX : XOk X CA C) (hst : X.stack = X.env :: X.outer) (hfr : X.env.frame = some X.env.locals) (hln : X.env.kindOf n = some .local) (hc : Names X x c0)
    (hcau : ∀ c, caught c = true → PySem.W.exmOne X.K (.ref (CA c)) c0 = some true)
    (hb : ∀ (pn : List (Addr × Obj)) (xe : Value → Shared → Prop) (C : Ct), XOkW (X.tr pn xe) CA (some ws) C → PSs (X.tr pn xe) body (tS C bf))
    (hs : ∀ (a : Addr) (oe : Obj) (pn : List (Addr × Obj)) (dd : Addr) (c : Nat) (C : Ct), caught c = true → Held X CA C a oe dd c → XOkB (X.suite a ((a, oe) :: pn)) CA none C → PSs (X.suite a ((a, oe) :: pn)) (b0 :: suite) (tS C hf'))
    (hi : X.N[i]? = some n := by rfl) :
    PS X (.Try body [.ExceptHandler (some (.Name x np)) (some n) (b0 :: suite) pos'] [] [] pos) (tS C (sTry caught ws bf i hf')) := by
  refine PSimp (ps_try_as (Wout := fun cls d σ H => C.E cls d H ∧ C.B σ)
    (tb := fun W De σ H => ∃ C' : Ct, C'.CA = CA ∧ C'.xn = none ∧ (∀ cls d σ H, C'.E cls d H ∧ C'.B σ → W cls d σ H) ∧ (∀ i x σ, i ∈ ws → C'.B σ → C'.B (σ.set i x)) ∧ tS C' bf De σ H)
    (ts := fun a cls d De σ H => ∃ (c : Nat) (dd : Addr) (C' : Ct), caught c = true ∧ cls = .ref (CA c) ∧ d = some dd ∧ C'.CA = CA ∧ C'.xn = some (a, dd, c) ∧ (∀ σ, C'.B σ) ∧ tS C' hf' De σ H)
    hst hfr hX.nd hi hln hc hX.tk (fun W pn xe tk po => ⟨fun pins s σ H De I ⟨C', e1, ex, e2, e3, e4⟩ => (hb pn xe C' ⟨⟨e1, hX.nd, hX.hu, fun i x σ h => e3 i x σ h, fun h => nomatch h⟩, hX.calm, po, tk.imp fun cls d σ H h => e2 cls d σ H h, ex⟩).run pins s σ H De I e4⟩)
    (fun a oe cls d pn hz hf => ⟨fun pins s σ H De I ⟨c, dd, C', e0, e1, e2, e3, e4, e5, e6⟩ => by
      subst e1 e2
      exact (hs a oe pn dd c C' e0 ⟨hz, hf, e4⟩ ⟨e3, hX.nd, by
        have q := hX.hu
        exact q, fun _ _ _ _ _ => e5 _, fun _ => e5⟩).run pins s σ H De I e6⟩)) fun De σ H h => ?_
  obtain ⟨g, rh, st, S, w⟩ := h
  have w : wpS C De (sTry caught ws bf i hf' rh st) := w
  unfold sTry at w
  by_cases hno : noOwnR rh = true
  · rw [if_pos hno] at w
    have no : ∀ (j : Nat) s, rh[j]? = some (some s) → s.isOwn = false := fun j s e => noOwn_at hno e
    let WH : WX := wAs X.K c0 i (fun a cls d De σ H => ∃ (c : Nat) (dd : Addr) (C' : Ct), caught c = true ∧ cls = .ref (CA c) ∧ d = some dd ∧ C'.CA = CA ∧ C'.xn = some (a, dd, c) ∧ (∀ σ, C'.B σ) ∧ tS C' hf' De σ H) (fun cls d σ H => C.E cls d H ∧ C.B σ) De
    refine ⟨{ C with H0 := H, g0 := g, E := fun cls d H' => ∀ σ', But ws σ σ' → WH cls d σ' H', B := fun σ' => But ws σ σ' }, hX.ca, hX.xn, fun cls d σ' H' q => q.1 σ' q.2, fun j y σ' hj hb' => ⟨by rw [List.length_set]; exact hb'.1, fun j' hj' => by rw [List.getElem?_set_ne fun q => hj' (by rw [← q]; exact hj)]; exact hb'.2 j' hj'⟩, g, rh, st, ⟨⟨S.rel.len, fun j s e => ?_, S.rel.sep⟩, S.ok, Grow.refl S.ok.z, S.pin, But.refl⟩, ?_⟩
    · obtain ⟨v, h1, h2⟩ := S.rel.rep j s e
      refine ⟨v, h1, ?_⟩
      have q := no j s e
      cases s with
      | own ds => cases q
      | dk ds => cases q
      | dt ds => cases q
      | _ => exact h2
    · cases q : bf rh st with
      | stuck => rw [q] at w; exact w.elim
      | ok f st1 =>
        rw [q] at w
        cases f with
        | nx r => exact fun g' H' σ' S' => w g' H' σ' (S.rebase S' (hX.all rfl _))
        | bk r => exact fun g' H' σ' S' => w g' H' σ' (S.rebase S' (hX.all rfl _))
        | ct r => exact fun g' H' σ' S' => w g' H' σ' (S.rebase S' (hX.all rfl _))
        | rt d => exact fun g' H' v G k r => w g' H' v (S.gr.trans G) k r
        | ro ds => exact fun g' H' a vs G k ha r ow => w g' H' a vs (S.gr.trans G) k ha r ⟨ow.1, ow.2.1, S.gr.back ow.2.2⟩
      | err c d st1 =>
        rw [q] at w
        intro g' H' dx v G k hx hn r σ' hbut
        have w : wpS C De (if caught c then (noE (hf' ((wipeR ws rh).set i (some (.exc c d))) st1)).bind (unX i) else .stuck) := w
        by_cases hcc : caught c = true
        · rw [if_pos hcc] at w
          refine ⟨true, by rw [← hcau c hcc]; show PySem.W.exmOne X.K (.ref (C.CA c)) c0 = _; rw [hX.ca], fun _ a ha => ?_, fun h => nomatch h⟩
          have S1 : Sta C g' (wipeR ws rh) st1 σ' H' := ((S.grow G k).wipe ws).any hbut.1 (fun j s e => hbut.2 j (wipeR_get e).1) (hX.all rfl _)
          refine ⟨c, dx, { C with xn := some (a, dx, c), E := fun _ _ _ => False, B := fun _ => True }, hcc, by show Value.ref (C.CA c) = _; rw [hX.ca], rfl, hX.ca, rfl, fun _ => trivial, g', (wipeR ws rh).set i (some (.exc c d)), st1, ⟨⟨by rw [List.length_set, List.length_set]; exact S1.rel.len, fun j s e => ?_, fun j l s t b e1 e2 o1 o2 h1 h2 => ?_⟩, S1.ok, S1.gr, S1.pin, trivial⟩, ?_⟩
          · rcases get_set e with ⟨rfl, q1⟩ | ⟨n1, q1⟩
            · cases q1
              refine ⟨.ref a, set_get ?_, a, dx, v, rfl, rfl, hx, r, fun hm => ?_⟩
              · rw [← S1.rel.len]
                by_cases hl : i < (wipeR ws rh).length
                · exact hl
                · rw [List.getElem?_eq_none (by simpa using hl)] at e; cases e
              · rcases List.getElem?_of_mem hm with ⟨nn, hnn⟩
                have hlt : nn < st1.length := by rw [k.len]; exact (List.getElem?_eq_some_iff.mp hnn).1
                have rr := k.rep nn _ dx (List.getElem?_eq_getElem hlt) hnn
                cases hv : st1[nn] with
                | lst l => rw [hv] at rr; obtain ⟨vs, r1, _⟩ := rr; rw [hx] at r1; cases r1
                | pur y1 y2 y3 => rw [hv] at rr; have r1 : H' dx = _ := rr; rw [hx] at r1; cases r1
                | dt l => rw [hv] at rr; obtain ⟨vs, r1, _⟩ := rr; rw [hx] at r1; cases r1
            · obtain ⟨u, h1, h2⟩ := S1.rel.rep j s q1
              refine ⟨u, by rw [List.getElem?_set_ne n1]; exact h1, slot_xn h2 fun c' d' q2 => ?_⟩
              subst q2
              obtain ⟨_, _, _, e5, _⟩ := h2
              rw [hX.xn] at e5; cases e5
          · rcases get_set e1 with ⟨_, q1⟩ | ⟨n1, q1⟩
            · cases q1; cases o1
            · rcases get_set e2 with ⟨_, q2⟩ | ⟨n2, q2⟩
              · cases q2; cases o2
              · rw [List.getElem?_set_ne n1] at h1
                rw [List.getElem?_set_ne n2] at h2
                exact S1.rel.sep j l s t b q1 q2 o1 o2 h1 h2
          · have out : ∀ {g3 : Gh} {r3 : Rho} {st3 : List RV} {σ3 : L2.St} {H3 : Hp}, noX i r3 = true → Sta { C with xn := some (a, dx, c), E := fun _ _ _ => False, B := fun _ => True } g3 r3 st3 σ3 H3 → Sta C g3 (r3.set i none) st3 (σ3.set i none) H3 := fun {g3 r3 st3 σ3 H3} hnx S3 => by
              refine ⟨⟨by rw [List.length_set, List.length_set]; exact S3.rel.len, fun j s e => ?_, fun j l s t b e1 e2 o1 o2 h1 h2 => ?_⟩, S3.ok, S3.gr, S3.pin, hX.all rfl _⟩
              · rcases get_set e with ⟨_, q1⟩ | ⟨n1, q1⟩
                · cases q1
                · obtain ⟨u, h1, h2⟩ := S3.rel.rep j s q1
                  exact ⟨u, by rw [List.getElem?_set_ne n1]; exact h1, slot_xn h2 (slot_noX hnx (Ne.symm n1) q1)⟩
              · rcases get_set e1 with ⟨_, q1⟩ | ⟨n1, q1⟩
                · cases q1
                · rcases get_set e2 with ⟨_, q2⟩ | ⟨n2, q2⟩
                  · cases q2
                  · rw [List.getElem?_set_ne n1] at h1
                    rw [List.getElem?_set_ne n2] at h2
                    exact S3.rel.sep j l s t b q1 q2 o1 o2 h1 h2
            cases q3 : hf' ((wipeR ws rh).set i (some (.exc c d))) st1 with
            | stuck => rw [q3] at w; exact w.elim
            | err c' d' st3 => rw [q3] at w; exact w.elim
            | ok f st3 =>
              rw [q3] at w
              have w : wpS C De (unX i f st3) := w
              unfold unX at w
              cases f with
              | nx r3 =>
                by_cases hnx : noX i r3 = true
                · simp only [if_pos hnx] at w; exact fun g3 H3 σ3 S3 => w g3 H3 _ (out hnx S3)
                · simp only [if_neg hnx] at w; exact w.elim
              | ct r3 =>
                by_cases hnx : noX i r3 = true
                · simp only [if_pos hnx] at w; exact fun g3 H3 σ3 S3 => w g3 H3 _ (out hnx S3)
                · simp only [if_neg hnx] at w; exact w.elim
              | bk r3 =>
                by_cases hnx : noX i r3 = true
                · simp only [if_pos hnx] at w; exact fun g3 H3 σ3 S3 => w g3 H3 _ (out hnx S3)
                · simp only [if_neg hnx] at w; exact w.elim
              | rt d => exact w
              | ro d => exact w
        · rw [if_neg hcc] at w; exact w.elim
  · rw [if_neg hno] at w; exact w.elim
end

/-! ### the held exception, asked -/
section
variable {X : Cx} {CA : Nat → Addr} {C : Ct} {o : Option (List Nat)} {pos p q1 q2 : Pos} {n x : Str} {a dd : Addr} {c : Nat} {oe : Obj} {pn : List (Addr × Obj)}
def eXv (i : Nat) : Ex D := fun rh st => match rh[i]? with
  | some (some (.exc _ d)) => .ok d st
  | _ => .stuck
theorem fe_xval (i : Nat) (hh : Held X CA C a oe dd c) (T : PySem.W.findIn X.K (.ref (CA c)) "value" = some none) (T2 : XfC X.K (CA c)) (hN : X.N[i]? = some n := by rfl) (hv : Vis X.env.scope n := by first | exact Or.inl rfl | exact Or.inr (Or.inl rfl) | exact Or.inr (Or.inr rfl)) (hd : (n == ("__debug__" : Str)) = false := by decide)
    (hcd : (n == ("__classdict__" : Str)) = false := by decide) (hb : attributeBase (.Name n p) "value" X.env (eval (.Name n p) X.env) = eval (.Name n p) X.env := by rfl) : PE (X.suite a ((a, oe) :: pn)) (.Attribute (.Name n p) "value" pos) (tE C (eXv i)) :=
  PEimp (pe_xf T2 T hh.z hh.f (pe_var (X := X.suite a ((a, oe) :: pn)) hN hv hd hcd) hb) fun σ H Q ⟨g, rh, st, S, w⟩ => by
    unfold eXv at w
    split at w
    · rename_i c' d hi
      obtain ⟨v, h1, a', dd', y, e1, e2, e3, r, n⟩ := S.rel.rep i _ hi
      have e1 := hh.x.symm.trans e1
      cases e1
      subst e2
      exact ⟨_, h1, rfl, rfl, dd, _, y, rfl, e3, rfl, w g H y (Grow.refl S.ok.z) S.ok r⟩
    · exact w.elim
def eIsX (i : Nat) (tab : Nat → Bool) : Ex D := fun rh st => match rh[i]? with
  | some (some (.exc c _)) => .ok (.bool (tab c)) st
  | _ => .stuck
theorem fe_isX (i : Nat) (tab : Nat → Bool) {C2 : Addr} (hh : Held X CA C a oe dd c) (T : ExcC X.K (CA c)) (hm : X.mg x = some (.ref C2)) (hk : PySem.W.kitOne X.K (.ref (CA c)) (.ref C2) = some (tab c)) (hmi : X.mg "isinstance" = none) (hgi : Gl X "isinstance" := by rfl) (hg : Gl X x := by rfl)
    (hN : X.N[i]? = some n := by rfl) (hv : Vis X.env.scope n := by first | exact Or.inl rfl | exact Or.inr (Or.inl rfl) | exact Or.inr (Or.inr rfl)) (hd : (n == ("__debug__" : Str)) = false := by decide) (hcd : (n == ("__classdict__" : Str)) = false := by decide) (hdx : (x == ("__debug__" : Str)) = false := by decide)
    (he : starEach (.Name n p :: [.Name x q1]) (X.suite a ((a, oe) :: pn)).env = (false, eval (.Name n p) (X.suite a ((a, oe) :: pn)).env) :: starEach [.Name x q1] (X.suite a ((a, oe) :: pn)).env := by rfl) (he2 : starEach (.Name x q1 :: []) (X.suite a ((a, oe) :: pn)).env = (false, eval (.Name x q1) (X.suite a ((a, oe) :: pn)).env) :: starEach [] (X.suite a ((a, oe) :: pn)).env := by rfl)
    (hpl : (backTo pos (starEach [.Name x q1] (X.suite a ((a, oe) :: pn)).env)).any (·.1) = false := by rfl) : PE (X.suite a ((a, oe) :: pn)) (.Call (.Name "isinstance" q2) [.Name n p, .Name x q1] [] pos) (tE C (eIsX i tab)) :=
  PEimp (pe_callB (call_isX T hh) hgi hmi boot_isinstance (pa_cons (pe_var (X := X.suite a ((a, oe) :: pn)) hN hv hd hcd) (pa_cons (pe_glob (v := .ref C2) hg hm rfl hdx) pa_nil he2) he) (by decide) (by decide) he hpl) fun σ H Q ⟨g, rh, st, S, w⟩ => by
    unfold eIsX at w
    split at w
    · rename_i c' d hi
      obtain ⟨v, h1, a', dd', y, e1, e2, e3, r, n⟩ := S.rel.rep i _ hi
      have e1 := hh.x.symm.trans e1
      cases e1
      subst e2
      exact ⟨_, h1, ⟨_, e3⟩, .inl ⟨.ref C2, .ref C2, tab c, rfl, fun u r => r, hk, w g H _ (Grow.refl S.ok.z) S.ok (.bl _)⟩⟩
    · exact w.elim
theorem fe_isX2 (i : Nat) (tab : Nat → Bool) {C2 C3 : Addr} {x3 : Str} {q3 qt : Pos} {kt : Nat} (hh : Held X CA C a oe dd c) (T : ExcC X.K (CA c)) (hm : X.mg x = some (.ref C2)) (hm3 : X.mg x3 = some (.ref C3)) (hk : PySem.W.kitAny X.K (.ref (CA c)) [.ref C2, .ref C3] = some (tab c)) (hmi : X.mg "isinstance" = none) (hgi : Gl X "isinstance" := by rfl) (hg : Gl X x := by rfl) (hg3 : Gl X x3 := by rfl)
    (hN : X.N[i]? = some n := by rfl) (hv : Vis X.env.scope n := by first | exact Or.inl rfl | exact Or.inr (Or.inl rfl) | exact Or.inr (Or.inr rfl)) (hd : (n == ("__debug__" : Str)) = false := by decide) (hcd : (n == ("__classdict__" : Str)) = false := by decide) (hdx : (x == ("__debug__" : Str)) = false := by decide) (hdx3 : (x3 == ("__debug__" : Str)) = false := by decide)
    (he : starEach (.Name n p :: [.Tuple [.Name x q1, .Name x3 q3] kt qt]) (X.suite a ((a, oe) :: pn)).env = (false, eval (.Name n p) (X.suite a ((a, oe) :: pn)).env) :: starEach [.Tuple [.Name x q1, .Name x3 q3] kt qt] (X.suite a ((a, oe) :: pn)).env := by rfl)
    (he2 : starEach (.Tuple [.Name x q1, .Name x3 q3] kt qt :: []) (X.suite a ((a, oe) :: pn)).env = (false, eval (.Tuple [.Name x q1, .Name x3 q3] kt qt) (X.suite a ((a, oe) :: pn)).env) :: starEach [] (X.suite a ((a, oe) :: pn)).env := by rfl)
    (he3 : starEach (.Name x q1 :: [.Name x3 q3]) (X.suite a ((a, oe) :: pn)).env = (false, eval (.Name x q1) (X.suite a ((a, oe) :: pn)).env) :: starEach [.Name x3 q3] (X.suite a ((a, oe) :: pn)).env := by rfl)
    (he4 : starEach (.Name x3 q3 :: []) (X.suite a ((a, oe) :: pn)).env = (false, eval (.Name x3 q3) (X.suite a ((a, oe) :: pn)).env) :: starEach [] (X.suite a ((a, oe) :: pn)).env := by rfl)
    (hpl : (backTo pos (starEach [.Tuple [.Name x q1, .Name x3 q3] kt qt] (X.suite a ((a, oe) :: pn)).env)).any (·.1) = false := by rfl) : PE (X.suite a ((a, oe) :: pn)) (.Call (.Name "isinstance" q2) [.Name n p, .Tuple [.Name x q1, .Name x3 q3] kt qt] [] pos) (tE C (eIsX i tab)) :=
  PEimp (pe_callB (call_isX T hh) hgi hmi boot_isinstance (pa_cons (pe_var (X := X.suite a ((a, oe) :: pn)) hN hv hd hcd) (pa_cons (pe_tup (pa_cons (pe_glob (v := .ref C2) hg hm rfl hdx) (pa_cons (pe_glob (v := .ref C3) hg3 hm3 rfl hdx3) pa_nil he4) he3)) pa_nil he2) he) (by decide) (by decide) he hpl) fun σ H Q ⟨g, rh, st, S, w⟩ => by
    unfold eIsX at w
    split at w
    · rename_i c' d hi
      obtain ⟨v, h1, a', dd', y, e1, e2, e3, r, n⟩ := S.rel.rep i _ hi
      have e1 := hh.x.symm.trans e1
      cases e1
      subst e2
      refine ⟨_, h1, by show 2 ≤ sizeLine; rw [sizeLine_eq]; decide, fun tp htp => ⟨⟨_, by rw [upd_ne (ne_of_none e3 htp)]; exact e3⟩, .inr ⟨tp, [.ref C2, .ref C3], [.ref C2, .ref C3], tab c, rfl, upd_same, fun ws hw => ?_, hk, w g _ _ (Grow.new S.ok.z htp) (S.ok.new htp) (.bl _)⟩⟩⟩
      cases hw with
      | cons r1 hw =>
        cases hw with
        | cons r2 hw =>
          cases hw
          rw [show _ = _ from r1, show _ = _ from r2]
    · exact w.elim
end
end FL

/-! FLr -/
set_option Elab.async false
set_option linter.all false
set_option maxRecDepth 100000
set_option maxHeartbeats 4000000
/-! FLr: registers: a list of three ints that the defs share and change. -/
namespace FL
open PySem PySem.Spec PyProof.Rows L2

def RV.at3 : RV → Int → Option Int
  | .pur x y z, j => if j = 0 then some x else if j = 1 then some y else if j = 2 then some z else none
  | _, _ => none
def RV.set3 : RV → Int → Int → Option RV
  | .pur x y z, j, v => if j = 0 then some (.pur v y z) else if j = 1 then some (.pur x v z) else if j = 2 then some (.pur x y v) else none
  | _, _, _ => none
section
variable {X : Cx} {CA : Nat → Addr} {C : Ct} {e : Expr} {pos p : Pos} {x : Str} {o : Option (List Nat)}
def ePur (i : Nat) (j : Int) : Ex D := fun rh st => match rh[i]? with
  | some (some (.reg n)) => (match (st[n]?).bind fun r => r.at3 j with | some v => .ok (.int v) st | none => .stuck)
  | _ => .stuck
theorem fe_pur (i : Nat) (j : Int) {k : Nat} {q : Pos} (hN : X.N[i]? = some x := by rfl) (hv : Vis X.env.scope x := by first | exact Or.inl rfl | exact Or.inr (Or.inl rfl) | exact Or.inr (Or.inr rfl)) (hd : (x == ("__debug__" : Str)) = false := by decide) (hcd : (x == ("__classdict__" : Str)) = false := by decide) :
    PE X (.Subscript (.Name x p) (.Constant (.int j) k q) pos) (tE C (ePur i j)) :=
  PEimp (pe_ix (ix_seq (X := X)) (pe_var hN hv hd hcd) pe_int (fun _ _ => rfl)) fun σ H Q ⟨g, rh, st, S, w⟩ => by
    have w : wpG C Rep Q g H (ePur i j rh st) := w
    unfold ePur at w
    split at w
    · rename_i n hi
      obtain ⟨v, hv, a, rfl, ha⟩ := S.rel.rep i _ hi
      cases e1 : st[n]? with
      | none => rw [e1] at w; exact w.elim
      | some r =>
        rw [e1] at w
        have rr := S.ok.rep n r a e1 ha
        cases r with
        | pur y0 y1 y2 =>
          have rr : H a = some (.lst [.int y0, .int y1, .int y2]) := rr
          have w : wpG C Rep Q g H (match (if j = 0 then some y0 else if j = 1 then some y1 else if j = 2 then some y2 else none) with | some v => .ok (.int v) st | none => .stuck) := w
          have key : ∀ y : Int, atI [V.int y0, V.int y1, V.int y2] j = some (.int y) → Q (.int y) H → ∃ v, σ[i]? = some (some v) ∧ rIx X.K v (.int j) H Q := fun y h1 h2 => ⟨_, hv, .inl ⟨a, _, j, .int y, rfl, rfl, SqL.of rr, h1, h2⟩⟩
          by_cases h0 : j = 0
          · subst h0; exact key y0 rfl (w g H _ (Grow.refl S.ok.z) S.ok (.int _))
          · rw [if_neg h0] at w
            by_cases h1 : j = 1
            · subst h1; exact key y1 rfl (w g H _ (Grow.refl S.ok.z) S.ok (.int _))
            · rw [if_neg h1] at w
              by_cases h2 : j = 2
              · subst h2; exact key y2 rfl (w g H _ (Grow.refl S.ok.z) S.ok (.int _))
              · rw [if_neg h2] at w; exact w.elim
        | _ => exact w.elim
    · exact w.elim
theorem nodup_get : ∀ {l : List Addr} {i j : Nat} {a : Addr}, l.Nodup → l[i]? = some a → l[j]? = some a → i = j
  | [], _, _, _, _, h, _ => by simp at h
  | x :: l, i, j, a, nd, h1, h2 => by
    rw [List.nodup_cons] at nd
    cases i with
    | zero =>
      cases j with
      | zero => rfl
      | succ j =>
        simp at h1 h2
        subst h1
        exact absurd (List.mem_of_getElem? h2) nd.1
    | succ i =>
      cases j with
      | zero =>
        simp at h1 h2
        subst h2
        exact absurd (List.mem_of_getElem? h1) nd.1
      | succ j =>
        simp at h1 h2
        exact congrArg _ (nodup_get nd.2 h1 h2)
/-- a register gets another content -/
theorem StOk.setr {g : Gh} {H : Hp} {st : List RV} {n : Nat} {a : Addr} {y0 y1 y2 : Int} (k : StOk g H st) (ha : g.as[n]? = some a) : StOk g (upd H a (.lst [.int y0, .int y1, .int y2])) (st.set n (.pur y0 y1 y2)) := by
  have hm := List.mem_of_getElem? ha
  have nz : ¬ g.Z a := fun z => k.z.nas z hm
  refine ⟨by rw [List.length_set]; exact k.len, k.nd, ⟨fun b z => ⟨?_, k.z.nas z⟩, fun b hb => ?_⟩, fun m r b h1 h2 => ?_⟩
  · obtain ⟨u, e⟩ := k.z.ex z
    exact ⟨u, by rw [upd_ne fun q => nz (by rw [← q]; exact z)]; exact e⟩
  · by_cases q : b = a
    · subst q; exact ⟨_, upd_same⟩
    · obtain ⟨u, e⟩ := k.z.2 b hb
      exact ⟨u, by rw [upd_ne q]; exact e⟩
  · rcases get_set h1 with ⟨rfl, q⟩ | ⟨q, h1⟩
    · subst q
      rw [ha] at h2; cases h2
      exact upd_same
    · have nb : b ≠ a := fun e => by
        subst e
        exact q (nodup_get k.nd ha h2)
      have rr := k.rep m r b h1 h2
      cases r with
      | lst l => obtain ⟨vs, q1, q2⟩ := rr; exact ⟨vs, by rw [upd_ne nb]; exact q1, q2.write nz⟩
      | pur x y w => exact (show upd H a _ b = _ by rw [upd_ne nb]; exact rr)
      | dt kvs => obtain ⟨vs, q1, q2⟩ := rr; exact ⟨vs, by rw [upd_ne nb]; exact q1, q2.write nz⟩
theorem Grow.setr {g : Gh} {H : Hp} {st : List RV} {n : Nat} {a : Addr} {u : HO} (k : StOk g H st) (ha : g.as[n]? = some a) : Grow g H g (upd H a u) :=
  ⟨⟨[], by simp, by simp⟩, fun _ h => h, fun _ h => .inl h, fun b o e hn => by rw [upd_ne fun q => hn (by rw [q]; exact List.mem_of_getElem? ha)]; exact e, fun b hb => by
    by_cases q : b = a
    · subst q; exact ⟨_, upd_same⟩
    · obtain ⟨o, e⟩ := k.z.2 b hb
      exact ⟨o, by rw [upd_ne q]; exact e⟩⟩
def kPur (i : Nat) (j : Int) (d : D) : Ex Fl := fun rh st => match rh[i]? with
  | some (some (.reg n)) => (match d with | .int v => (match (st[n]?).bind fun r => r.set3 j v with | some r' => .ok (.nx rh) (st.set n r') | none => .stuck) | _ => .stuck)
  | _ => .stuck
def sPur (i : Nat) (j : Int) (f : Ex D) : Ex Fl := fun rh st => (f rh st).bind fun d st => kPur i j d rh st
theorem fs_pur (i : Nat) (j : Int) {k : Nat} {q npos spos : Pos} {f : Ex D} (he : PE X e (tE C f)) (hN : X.N[i]? = some x := by rfl) (hv : Vis X.env.scope x := by first | exact Or.inl rfl | exact Or.inr (Or.inl rfl) | exact Or.inr (Or.inr rfl)) (hd : (x == ("__debug__" : Str)) = false := by decide) (hcd : (x == ("__classdict__" : Str)) = false := by decide)
    (hsa : ∀ v, assign (.Subscript (.Name x npos) (.Constant (.int j) k q) spos) X.env v = (do
      let ov ← holding [v] (eval (.Name x npos) X.env)
      let iv ← holding [v, ov] (eval (.Constant (.int j) k q) X.env)
      standAt spos
      holding [v, ov, iv] (setItem ov iv v)
      release [v, ov, iv] []) := by intro _; rfl)
    (hs : swapsWithSole [.Subscript (.Name x npos) (.Constant (.int j) k q) spos] e pos.line X.env = pure false := by rfl) (hw : swappedStores [.Subscript (.Name x npos) (.Constant (.int j) k q) spos] e X.env = pure none := by rfl)
    (h1 : (assignEach [.Subscript (.Name x npos) (.Constant (.int j) k q) spos] X.env).map (·.2) = [assign (.Subscript (.Name x npos) (.Constant (.int j) k q) spos) X.env] := by rfl) : PS X (.Assign [.Subscript (.Name x npos) (.Constant (.int j) k q) spos] e pos) (tS C (sPur i j f)) :=
  PSimp (ps_asg he (pg_sub (pe_var hN hv hd hcd) pe_int set_list hsa) hs hw h1) fun De σ H h => by
    refine (bind1 (k := kPur i j) wkS h).mono fun v H1 ⟨d, g, rh, st, S, rd, w⟩ => ?_
    unfold kPur at w
    split at w
    · rename_i n hi
      obtain ⟨v', hv', a, rfl, ha⟩ := S.rel.rep i _ hi
      cases rd with
      | int y =>
        cases e1 : st[n]? with
        | none => rw [e1] at w; exact w.elim
        | some r =>
          rw [e1] at w
          have rr := S.ok.rep n r a e1 ha
          cases r with
          | pur y0 y1 y2 =>
            have rr : H1 a = some (.lst [.int y0, .int y1, .int y2]) := rr
            have w : wpS C De (match (if j = 0 then some (RV.pur y y1 y2) else if j = 1 then some (.pur y0 y y2) else if j = 2 then some (.pur y0 y1 y) else none) with | some r' => .ok (.nx rh) (st.set n r') | none => .stuck) := w
            have key : ∀ (m : Nat) (z0 z1 z2 : Int), ixN 3 j = some m → [V.int y0, V.int y1, V.int y2].set m (.int y) = [.int z0, .int z1, .int z2] → wpS C De (.ok (.nx rh) (st.set n (.pur z0 z1 z2))) → _ := fun m z0 z1 z2 hm hs w =>
              (show ∃ v, σ[i]? = some (some v) ∧ ∃ (a : Addr) (xs : List V) (i' : Int) (m : Nat), v = .ref a ∧ V.int j = .int i' ∧ H1 a = some (.lst xs) ∧ ixN xs.length i' = some m ∧ De.nx σ (upd H1 a (.lst (xs.set m (.int y)))) from
                ⟨_, hv', a, _, j, m, rfl, rfl, rr, hm, by
                  rw [hs]
                  exact w g _ σ (S.grow (Grow.setr S.ok ha) (S.ok.setr ha))⟩)
            by_cases h0 : j = 0
            · subst h0; exact key 0 _ _ _ rfl rfl w
            · rw [if_neg h0] at w
              by_cases h1 : j = 1
              · subst h1; exact key 1 _ _ _ rfl rfl w
              · rw [if_neg h1] at w
                by_cases h2 : j = 2
                · subst h2; exact key 2 _ _ _ rfl rfl w
                · rw [if_neg h2] at w; exact w.elim
          | _ => exact w.elim
      | _ => exact w.elim
    · exact w.elim
end
end FL

/-! FLk -/
set_option Elab.async false
set_option linter.all false
set_option maxRecDepth 100000
set_option maxHeartbeats 4000000
/-! FLk: calls by name. -/
namespace FL
open PySem PySem.Spec PyProof.Rows L2

def perm {α : Type} (pm : List Nat) (l : List α) : List α := pm.filterMap (l[·]?)
theorem paired_perm {α β : Type} {R : α → β → Prop} {as : List α} {bs : List β} (h : Paired R as bs) : ∀ pm : List Nat, Paired R (perm pm as) (perm pm bs)
  | [] => .nil
  | i :: pm => by
    unfold perm
    rw [List.filterMap_cons, List.filterMap_cons]
    cases e : as[i]? with
    | none =>
      have : bs[i]? = none := by
        rw [List.getElem?_eq_none_iff] at e ⊢
        rw [← Paired.length h]; exact e
      rw [this]
      exact paired_perm h pm
    | some a =>
      obtain ⟨b, e2, r⟩ := paired_get h e
      rw [e2]
      exact .cons r (paired_perm h pm)
theorem reps_perm {g : Gh} {H : Hp} {ds : List D} {vs : List V} (h : Reps g H ds vs) (pm : List Nat) : Reps g H (perm pm ds) (perm pm vs) := by
  induction pm with
  | nil => exact .nil
  | cons i pm ih =>
    unfold perm at ih ⊢
    rw [List.filterMap_cons, List.filterMap_cons]
    cases e : ds[i]? with
    | none =>
      have : vs[i]? = none := by
        rw [List.getElem?_eq_none_iff] at e ⊢
        rw [← h.length]; exact e
      rw [this]
      exact ih
    | some a =>
      obtain ⟨b, e2, r⟩ := h.get e
      rw [e2]
      exact .cons r ih
/-- a def that may be called with n values and the names ks; pm: the parameters' places among them -/
structure HasK (P : Program) (w : World) (K : PySem.W.Frag) (mg : Str → Option Value) (base : Heap) (k : Nat) (x : Str) (ps : List Str) (n : Nat) (ks : List Str) (pm : List Nat) (sp : Sp) : Prop where
  ex : ∃ (f : Addr) (fd : FuncData), mg x = some (.ref f) ∧ PySem.W.keepIn K (.ref f) = true ∧ FnOk P w K mg base (L2.CX P w) k f fd ps sp ∧
    ∀ (s : Shared) (us ws : List Value), us.length = n → ws.length = ks.length → BindsTo s fd ⟨us, ks.zip ws⟩ (ps.zip (perm pm (us ++ ws)))
theorem HasK.mono {P : Program} {w : World} {K : PySem.W.Frag} {mg : Str → Option Value} {base : Heap} {j k : Nat} {x : Str} {ps : List Str} {n : Nat} {ks : List Str} {pm : List Nat} {sp : Sp} (h : HasK P w K mg base j x ps n ks pm sp) (hk : j ≤ k) : HasK P w K mg base k x ps n ks pm sp := by
  obtain ⟨f, fd, h1, h2, h3, h4⟩ := h.ex
  exact ⟨f, fd, h1, h2, h3.mono hk, h4⟩
section
variable {X : Cx} {CA : Nat → Addr} {C : Ct} {e : Expr} {es : List Expr} {pos p kpos : Pos} {x nm : Str} {k n : Nat} {o : Option (List Nat)} {ps ks : List Str} {pm : List Nat} {F : Fn} {kws : List Keyword}
theorem PKimp {t t' : TA} (p : PK X kws t) (h : ∀ σ H Q, t' σ H Q → t σ H Q) : PK X kws t' := ⟨fun pos pins s σ H Q I q => p.run pos pins s σ H Q I (h σ H Q q)⟩
theorem fk_nil : PK X [] (tA C aNil) := PKimp pk_nil fun σ H Q ⟨g, rh, st, S, w⟩ => w g H [] (Grow.refl S.ok.z) S.ok .nil
theorem fk_cons {f : Ex D} {kk : Ex (List D)} (ha : PE X e (tE C f)) (hr : PK X kws (tA C kk)) : PK X (⟨some nm, e, kpos⟩ :: kws) (tA C (aCons f kk)) :=
  PKimp (pk_cons ha hr) fun σ H Q h => (bind2 mono_rep wkG h).mono fun x H1 h1 => h1.mono fun y H2 ⟨a, b, g, rh, st, S, ra, rb, w⟩ => w g H2 _ (Grow.refl S.ok.z) S.ok (.cons ra rb)
def eCallK (F : Fn) (pm : List Nat) (fa fk : Ex (List D)) : Ex D := fun rh st => (fa rh st).bind fun ds st => (fk rh st).bind fun es st => runP F (perm pm (ds ++ es)) st
/-- the core: what is asked behind the arguments -/
theorem callK_core {fa fk : Ex (List D)} {m mk : Nat} (hX : XOkW X CA o C) (hl : ALen fa m) (hlk : ALen fk mk) (hpm : (pm.all fun i => decide (i < m + mk)) = true) (hps : pm.length = ps.length) {σ : L2.St} {H : Hp} {Q : VK} (h : tE C (eCallK F pm fa fk) σ H Q) :
    tA C fa σ H fun vs H1 => tA C fk σ H1 fun zs H2 => vs.length = m ∧ zs.length = mk ∧ spF CA ps.length F (perm pm (vs ++ zs)) H2 Q (C.EB σ) := by
  obtain ⟨g, rh, st, S, w⟩ := h
  refine ⟨g, rh, st, S, ?_⟩
  have w : wpG C Rep Q g H ((fa rh st).bind fun ds st => (fk rh st).bind fun es st => runP F (perm pm (ds ++ es)) st) := w
  cases q : fa rh st with
  | err c d st' => rw [q] at w; exact w
  | stuck => rw [q] at w; exact w.elim
  | ok ds st1 =>
    rw [q] at w
    intro g1 H1 vs G1 k1 r1
    refine ⟨g1, rh, st1, S.grow G1 k1, ?_⟩
    have w : wpG C Rep Q g H ((fk rh st1).bind fun es st => runP F (perm pm (ds ++ es)) st) := w
    cases q2 : fk rh st1 with
    | err c d st' => rw [q2] at w; exact w
    | stuck => rw [q2] at w; exact w.elim
    | ok es st2 =>
      rw [q2] at w
      intro g2 H2 zs G2 k2 r2
      have r1' := r1.grow k1.z G2
      have l1 := hl rh st ds st1 q
      have l2 := hlk rh st1 es st2 q2
      refine ⟨by rw [← r1'.length, l1], by rw [← r2.length, l2], ?_⟩
      rw [← hX.ca]
      refine call_sp ((S.grow G1 k1).grow G2 k2) ?_ (reps_perm (r1'.append r2) pm) (wkG.mono _ _ _ _ _ (G1.trans G2) w)
      rw [← hps]
      have : ∀ (l : List D) (pm : List Nat), (∀ i ∈ pm, i < l.length) → (perm pm l).length = pm.length := fun l pm => by
        induction pm with
        | nil => intro _; rfl
        | cons i pm ih =>
          intro hi
          unfold perm at ih ⊢
          rw [List.filterMap_cons, List.getElem?_eq_getElem (hi i List.mem_cons_self)]
          exact congrArg (· + 1) (ih fun j hj => hi j (List.mem_cons_of_mem _ hj))
      refine this _ _ fun i hi => ?_
      rw [List.length_append, l1, l2]
      exact of_decide_eq_true (List.all_eq_true.mp hpm i hi)
theorem run_K {pins : List (Addr × Obj)} {σ : L2.St} {H : Hp} {s : Shared} {Q : VK} {us ws : List Value} {vs zs : List V} {sp : Sp} {f : Addr} {fd : FuncData} {E : XK} (Fk : FnOk X.prog X.w X.K X.mg X.base (L2.CX X.prog X.w) k f fd ps sp) (hr : Room k X.A)
    (hb : BindsTo s fd ⟨us, ks.zip ws⟩ (ps.zip (perm pm (us ++ ws)))) (hx : PassesAt (L2.CX X.prog X.w) X σ E) (I : Inv X pins σ H s) (r : Vals vs us) (rz : Vals zs ws) (h : sp (perm pm (vs ++ zs)) H Q E) : wpAny (model X.prog X.w) X.A (call (.ref f) us (ks.zip ws)) (EP X pins σ Q) X.xe s := by
  have r2 : Vals (perm pm (vs ++ zs)) (perm pm (us ++ ws)) := paired_perm (r.append rz) pm
  refine wpAny_call (codeAny_mono (Fk.run X.A X.stack s H ⟨us, ks.zip ws⟩ (perm pm (us ++ ws)) (perm pm (vs ++ zs)) Q E hr I.env0 hb r2 h) fun r s' hq => ?_)
  cases r with
  | error e => exact hx pins H s e s' I hq
  | ok fl =>
    cases fl with
    | ret u => exact I.after hq
    | next => exact False.elim hq
    | brk => exact False.elim hq
    | cont => exact False.elim hq
/-- f(k = v, ..) -/
theorem fe_callK0 {fk : Ex (List D)} {mk : Nat} (Hf : HasK X.prog X.w X.K X.mg X.base k x ps 0 ks pm (spF CA ps.length F)) (hX : XOkW X CA o C) (hr : Room k X.A) (hkw : PK X kws (tA C fk))
    (hlk : ALen fk mk) (hmk : mk = ks.length := by rfl) (hpm : (pm.all fun i => decide (i < 0 + mk)) = true := by decide) (hps : pm.length = ps.length := by rfl) (hg : Gl X x := by rfl)
    (hall : (backToKw pos (keywordEach kws X.env)).all (·.1.isSome) = true := by rfl) (hks : (backToKw pos (keywordEach kws X.env)).filterMap (·.1) = ks := by rfl) (hdb : (x == ("__debug__" : Str)) = false := by decide)
    (hpl : ((backTo pos (starEach [] X.env)).any (·.1) || (backToKw pos (keywordEach kws X.env)).any (·.1.isNone)) = false := by rfl) :
    PE X (.Call (.Name x p) [] kws pos) (tE C (eCallK F pm aNil fk)) := by
  obtain ⟨f, fd, hm, hk, Fk, hb⟩ := Hf.ex
  refine ⟨fun pins s σ H Q I h => ?_⟩
  have h := callK_core (ps := ps) hX alen_nil hlk hpm hps h
  refine wpAny_Call_Name_kw (ld_glob I hg hm ?_ hdb)
  refine PySem.W.callWith_KW0 (h₀ := X.base) I.ok.mod.kin hk hall ?_ hpl
  obtain ⟨g0, rh0, st0, S0, w0⟩ := h
  have h1 := w0 g0 H [] (Grow.refl S0.ok.z) S0.ok .nil
  refine thn (hkw.run pos pins s σ H _ I h1) fun ws s2 ⟨zs, H2, I2, rz, l1, l2, q2⟩ => ⟨I2.kIn, ?_⟩
  rw [hks]
  exact run_K (us := []) (vs := []) Fk hr (hb s2 [] ws rfl (by rw [← Paired.length rz, l2, hmk])) (pass_of hX σ) I2 .nil rz q2
/-- f(e, .., k = v, ..) -/
theorem fe_callK {fa fk : Ex (List D)} {m mk : Nat} (Hf : HasK X.prog X.w X.K X.mg X.base k x ps n ks pm (spF CA ps.length F)) (hX : XOkW X CA o C) (hr : Room k X.A) (ha : PA X (e :: es) (tA C fa)) (hkw : PK X kws (tA C fk))
    (hl : ALen fa m) (hlk : ALen fk mk) (hmn : m = n := by rfl) (hmk : mk = ks.length := by rfl) (hpm : (pm.all fun i => decide (i < m + mk)) = true := by decide) (hps : pm.length = ps.length := by rfl) (hg : Gl X x := by rfl)
    (hall : (backToKw pos (keywordEach kws X.env)).all (·.1.isSome) = true := by rfl) (hks : (backToKw pos (keywordEach kws X.env)).filterMap (·.1) = ks := by rfl) (hdb : (x == ("__debug__" : Str)) = false := by decide)
    (he : starEach (e :: es) X.env = (false, eval e X.env) :: starEach es X.env := by exact starC rfl) (hpl : ((backTo pos (starEach (e :: es) X.env)).any (·.1) || (backToKw pos (keywordEach kws X.env)).any (·.1.isNone)) = false := by rfl) :
    PE X (.Call (.Name x p) (e :: es) kws pos) (tE C (eCallK F pm fa fk)) := by
  obtain ⟨f, fd, hm, hk, Fk, hb⟩ := Hf.ex
  refine ⟨fun pins s σ H Q I h => ?_⟩
  have h := callK_core (ps := ps) hX hl hlk hpm hps h
  refine wpAny_Call_Name_kw (ld_glob I hg hm ?_ hdb)
  refine PySem.W.callWith_KW (h₀ := X.base) I.ok.mod.kin hk hall (thn (ha.run pos pins s σ H _ I h) fun us s1 ⟨vs, H1, I1, r, q⟩ => ?_) hpl he
  refine thn (hkw.run pos pins s1 σ H1 _ I1 q) fun ws s2 ⟨zs, H2, I2, rz, l1, l2, q2⟩ => ⟨I2.kIn, ?_⟩
  rw [hks]
  exact run_K Fk hr (hb s2 us ws (by rw [← Paired.length r, l1, hmn]) (by rw [← Paired.length rz, l2, hmk])) (pass_of hX σ) I2 r rz q2
end
end FL

/-! FLt -/
set_option Elab.async false
set_option linter.all false
set_option maxRecDepth 100000
set_option maxHeartbeats 4000000
/-! FLt: defs in which a token is out from the beginning: e.replace of written texts. -/
namespace FL
open PySem PySem.Spec PyProof.Rows L2 CwR

section
variable {X : Cx} {CA : Nat → Addr} {C : Ct} {e a b : Expr} {es : List Expr} {pos p : Pos} {x : Str} {o : Option (List Nat)}
theorem PETimp {t t' : TE} (p : PET X e t) (h : ∀ σ H Q, t' σ H Q → t σ H Q) : PET X e t' := fun pins s σ H Q h0 I q => p pins s σ H Q h0 I (h σ H Q q)
theorem PATimp {t t' : TA} (p : PAT X es t) (h : ∀ σ H Q, t' σ H Q → t σ H Q) : PAT X es t' := fun pos pins s σ H Q h0 I q => p pos pins s σ H Q h0 I (h σ H Q q)
theorem PSTimp {st : Stmt} {t t' : TS} (p : PST X st t) (h : ∀ De σ H, t' De σ H → t De σ H) : PST X st t' := fun pins s σ H De h0 I q => p pins s σ H De h0 I (h De σ H q)
theorem PSsTimp {st : List Stmt} {t t' : TS} (p : PSsT X st t) (h : ∀ De σ H, t' De σ H → t De σ H) : PSsT X st t' := fun pins s σ H De h0 I q => p pins s σ H De h0 I (h De σ H q)
structure GE (X : Cx) (e : Expr) (t : TE) : Prop where
  h : PET X e t
structure GA (X : Cx) (es : List Expr) (t : TA) : Prop where
  h : PAT X es t
structure GS (X : Cx) (st : Stmt) (t : TS) : Prop where
  h : PST X st t
structure GSs (X : Cx) (st : List Stmt) (t : TS) : Prop where
  h : PSsT X st t
def uRepl (y z : Str) (d : D) : Option D := match d with | .str x => if x.length + (x.length + 1) * z.length ≤ lim then some (.str (Txt.replace x y z)) else none | _ => none
theorem gt_repl {y z : Str} {j k : Nat} {c0 c1 apos : Pos} {f : Ex D} (ho : PE X e (tP C f)) (hyz : (y == z) = false := by decide)
    (hst : starEach [.Constant (.str y) j c0, .Constant (.str z) k c1] X.env = [(false, eval (.Constant (.str y) j c0) X.env), (false, eval (.Constant (.str z) k c1) X.env)] := by rfl)
    (hbase : attributeBase e "replace" X.env (eval e X.env) = eval e X.env := by rfl) (hline : (apos.endLine == pos.line) = true := by rfl) :
    GE X (.Call (.Attribute e "replace" apos) [.Constant (.str y) j c0, .Constant (.str z) k c1] [] pos) (tE C (eUn (uRepl y z) f)) :=
  ⟨PETimp (pet_replC ho hyz hst hbase hline) fun σ H Q h => (bind1 (k := fun a rh st => ofO (uRepl y z a) st) wkG h).mono fun x H1 ⟨a, g, rh, st, S, ra, w⟩ => by
    cases a with
    | str s =>
      cases ra.str
      have w : wpG C Rep Q g H1 (ofO (if s.length + (s.length + 1) * z.length ≤ lim then some (.str (Txt.replace s y z)) else none) st) := w
      split at w
      · rename_i h
        exact ⟨s, rfl, h, w g H1 _ (Grow.refl S.ok.z) S.ok (.str _)⟩
      · exact w.elim
    | _ => exact w.elim⟩
theorem gt_of {f : Ex D} (h : PE X e (tE C f)) : GE X e (tE C f) := ⟨PET.of h⟩
theorem gt_p {f : Ex D} (h : GE X e (tE C f)) : GE X e (tP C f) := ⟨PETimp h.h fun σ H Q ⟨g, rh, st, S, w⟩ => ⟨g, rh, st, S, by
  cases q : f rh st with
  | ok d st' => rw [q] at w; exact fun g' H' v G k r => w g' H' v G k (.inl r)
  | err c d st' => rw [q] at w; exact w
  | stuck => rw [q] at w; exact w⟩⟩
theorem gt_bin {op : Operator} {r : R2} {u : D → D → Option D} {fa fb : Ex D} (ho : OpR X (binaryOp op) r) (hu : Sem2 r u) (ha : GE X a (tP C fa)) (hb : GE X b (tP C fb)) : GE X (.BinOp a op b pos) (tE C (eBin u fa fb)) :=
  ⟨PETimp (pet_op (opLens ho) ha.h hb.h) fun σ H Q h => (bind2 mono_rep1 wkG h).mono fun x H1 h1 => h1.mono fun y H2 ⟨a, b, g, rh, st, S, ra, rb, w⟩ l => by
    cases e : u a b with
    | none => rw [e] at w; exact w.elim
    | some d => rw [e] at w; exact hu g H2 st a b x y d Q l S.ok ra rb e w⟩
theorem ga_nil : GA X [] (tA C aNil) := ⟨PATimp pat_nil fun σ H Q ⟨g, rh, st, S, w⟩ => w g H [] (Grow.refl S.ok.z) S.ok .nil⟩
theorem ga_cons {f : Ex D} {k : Ex (List D)} (ha : GE X e (tE C f)) (hr : GA X es (tA C k)) (hs : starEach (e :: es) X.env = (false, eval e X.env) :: starEach es X.env := by exact starC rfl) : GA X (e :: es) (tA C (aCons f k)) :=
  ⟨PATimp (pat_cons ha.h hr.h hs) fun σ H Q h => (bind2 mono_rep wkG h).mono fun x H1 h1 => h1.mono fun y H2 ⟨a, b, g, rh, st, S, ra, rb, w⟩ => w g H2 _ (Grow.refl S.ok.z) S.ok (.cons ra rb)⟩
def kEL (ds : List D) : Ex D := fun _ st => if ds.length ≤ 16777216 then .ok (.list ds) st else .stuck
theorem eL_eq (f : Ex (List D)) : eL (eLst f) = fun rh st => (f rh st).bind fun ds st => kEL ds rh st := by
  funext rh st
  unfold eL eLst kEL
  cases q : f rh st with
  | ok ds st' =>
    by_cases hl : ds.length ≤ 16777216
    · simp only [Out.bind_ok, if_pos hl]
    · simp only [Out.bind_ok, if_neg hl, Out.bind_stuck]
  | err c d st' => rfl
  | stuck => rfl
theorem gt_lst {f : Ex (List D)} (h : GA X es (tA C f)) : GE X (.List es pos) (tE C (eL (eLst f))) :=
  ⟨PETimp (pet_lst h.h) fun σ H Q h => by
    rw [eL_eq] at h
    refine (bind1 (k := kEL) wkG h).mono fun xs H1 ⟨ds, g, rh, st, S, ra, w⟩ => ?_
    unfold kEL at w
    by_cases hl : ds.length ≤ 16777216
    · rw [if_pos hl] at w
      exact ⟨by rw [← ra.length, sizeLine_eq]; exact hl, fun p hp => new_lst S.ok hp ra w⟩
    · rw [if_neg hl] at w; exact w.elim⟩
theorem gs_set (i : Nat) {f : Ex D} {pos' : Pos} (hX : XOkB X CA o C) (he : GE X e (tE C f)) (hi : X.N[i]? = some x := by rfl) (hx : Loc X.env.scope x := by first | exact Or.inl rfl | exact Or.inr rfl) (hs : swapsWith e (some (.Name x pos')) pos.line X.env = pure false := by rfl)
    (hf : X.fn x = true ∨ X.env.scope.names.lookup x = some .local := by first | exact .inl rfl | exact .inr rfl | assumption) (hw : May o i := by first | exact trivial | (show (_ : Nat) ∈ (_ : List Nat); decide)) : GS X (.Assign [.Name x pos'] e pos) (tS C (sSet i f)) := by
  have base : PST X (.Assign [.Name x pos'] e pos) (tAsg (tE C f) (gName i)) := fun pins s σ H De h0 I h => by
    refine wpAny_Assign_Name (thn (he.h pins s σ H _ h0 I h) fun v s1 q => ?_) hs
    obtain ⟨y, H1, I1, r1, q1⟩ := q
    exact store_ok I1 hX.nd hi hx r1 (fun s2 I2 => ⟨_, H1, I2, q1⟩) hf
  exact ⟨PSTimp base fun De σ H h => (bind1 wkS h).mono fun v H1 ⟨d, g, rh, st, S, r, w⟩ => w g H1 _ (S.setv i r (hX.nb _ _ _ hw S.b))⟩
theorem gs_of {st : Stmt} {s : Ex Fl} (h : PS X st (tS C s)) : GS X st (tS C s) := ⟨PST.of h⟩
theorem gss_of {sts : List Stmt} {s : Ex Fl} (h : PSs X sts (tS C s)) : GSs X sts (tS C s) := ⟨PSsT.of h⟩
theorem gs_cons {st : Stmt} {rest : List Stmt} {s k : Ex Fl} (h1 : GS X st (tS C s)) (h2 : GSs X rest (tS C k)) : GSs X (st :: rest) (tS C (sSeq s k)) := ⟨PSsTimp (psst_cons h1.h h2.h) fun De σ H h => seq_core h⟩
end
section
variable {P : Program} {w : World} {K : PySem.W.Frag} {mg : Str → Option Value} {base : Heap}
theorem mkFnT {x qual : Str} {st : Stmt} {f : Addr} {fd : FuncData} {N ps : List Str} {k : Nat} {CA : Nat → Addr} {s : Ex Fl} (F : Fun K x qual st f fd) (S : FnScope N ps (defScope st)) (hnc : ∀ y ∈ (defScope st).names, y.2 ≠ .cell) (hps : 1 ≤ ps.length)
    (hb : ∀ (cdv : Value) (A : Around) (outer : List Env) (s0 : Shared) (H : Hp) (E : XK) (C : Ct), Room k (A.deeper (envOfC qual (defScope st) s0.heap.objs.size f cdv)) →
      XOk (cxOf (L2.CX P w) P w K mg base N qual (defScope st) f cdv A outer s0 H E) CA C → GSs (cxOf (L2.CX P w) P w K mg base N qual (defScope st) f cdv A outer s0 H E) (defBody st) (tS C s)) :
    FnOk P w K mg base (L2.CX P w) (k + 1) f fd ps (spF CA ps.length (runF N.length s)) := by
  have hpl : ps.length ≤ N.length := by have := congrArg List.length S.pre; rw [List.length_take] at this; omega
  obtain ⟨oc, od, kV, doc, pm, an, cdv, ct, osl, rfl, lk, hcd⟩ := F.ex
  refine fn_ofT lk hcd S hnc hps (fun vs H Q E ⟨g, ars, st, h1, h2, _⟩ => by rw [← Paired.length h2, h1]) fun A outer s0 H vs Q E hr ⟨g, ars, st, h1, h2, h3, h4⟩ => ?_
  refine ⟨_, (hb cdv A outer s0 H E (ct0 H g E CA) hr (xok_cx hr S.nd)).h, g, _, st, sta_start (by omega) h2 h3, ?_⟩
  unfold runF at h4
  cases q : s (rho0 N.length ars) st with
  | ok fl st' =>
    rw [q] at h4
    cases fl with
    | nx r => exact fun g' H' σ' S' => h4 g' H' .non S'.gr S'.ok .non
    | rt d => exact h4
    | ro ds =>
      intro g' H' a vs G k ha r ow
      exact h4 (g'.add a) H' (.ref a) ⟨G.as, fun b h => .inl (G.z b h), fun b h => h.elim (G.fr b) fun e => .inr (by rw [e]; exact ow.2.2), G.keep, G.live⟩ (k.add ⟨_, ha⟩ ow.2.1) (.lst (.inr rfl) ha r.add)
    | bk r => exact h4.elim
    | ct r => exact h4.elim
  | err c d st' => rw [q] at h4; exact h4
  | stuck => rw [q] at h4; exact h4
end
end FL

/-! FLl -/
set_option Elab.async false
set_option linter.all false
set_option maxRecDepth 100000
set_option maxHeartbeats 4000000
/-! FLl: a law's outer defs, by hand: the script, the purse, the end. -/
namespace FL
open PySem PySem.Spec PyProof.Rows L2

/-- a purse within its bounds -/
def Pur (B : Nat) (x y z : Int) : Prop := 0 ≤ x ∧ 0 ≤ y ∧ y < 10 ^ 31 ∧ 0 ≤ z ∧ z ≤ B
theorem Pur.mono {B B' : Nat} {x y z : Int} (h : Pur B x y z) (hb : B ≤ B') : Pur B' x y z := ⟨h.1, h.2.1, h.2.2.1, h.2.2.2.1, by have := h.2.2.2.2; omega⟩
/-- what a law's own check does at every purse: it answers True -/
def Right (c lim : Nat) (F : Fn) (more : List Ar) : Prop := ∀ B x y z, B ≤ lim → Pur B x y z → ∃ x' y' z', F (.r 0 :: more) [.pur x y z] = .ok (.bool true) [.pur x' y' z'] ∧ Pur (B + c) x' y' z'
theorem right_sp {CA : Nat → Addr} {n c lim B : Nat} {F : Fn} {more : List Ar} {vs : List V} {p : Addr} {H : Hp} {Q : VK} {E : XK} {x y z : Int} (R : Right c lim F more) (hB : B ≤ lim) (hn : more.length + 1 = n) (hv : ∀ g, ArReps g H more vs) (hp : H p = some (.lst [.int x, .int y, .int z])) (hx : Pur B x y z)
    (q : ∀ H' x' y' z', (∀ b o, b ≠ p → H b = some o → H' b = some o) → H' p = some (.lst [.int x', .int y', .int z']) → Pur (B + c) x' y' z' → Q (.bl true) H') : spF CA n F (.ref p :: vs) H Q E := by
  obtain ⟨x', y', z', e, hx'⟩ := R B x y z hB hx
  refine ⟨⟨[p], fun _ => False⟩, .r 0 :: more, [.pur x y z], by rw [List.length_cons]; exact hn, .cons ⟨p, rfl, rfl⟩ (hv _), ⟨rfl, by simp, ⟨fun a h => h.elim, fun a ha => ?_⟩, fun m r a h1 h2 => ?_⟩, ?_⟩
  · have : a = p := by simpa using ha
    rw [this]; exact ⟨_, hp⟩
  · cases m with
    | zero => simp at h1 h2; subst h1 h2; exact hp
    | succ m => simp at h2
  · rw [e]
    intro g' H' v G k r
    cases r
    obtain ⟨m, ea, _⟩ := G.as
    have hl := k.len
    have em : m = [] := by
      rw [ea] at hl
      simp at hl
      exact hl
    subst em
    refine q H' x' y' z' (fun b o hb e => G.keep b o e (by simpa using hb)) ?_ hx'
    exact k.rep 0 _ p rfl (by rw [ea]; rfl)

/-! ### the purse -/
section
variable {X : Cx} {CA : Nat → Addr}
def spPurse (K : PySem.W.Frag) : Sp := fun vs H Q _ => ∃ (a : Addr) (ns : List Int) (i : Nat), vs = [.ref a, .int (i : Int)] ∧ SqL K H a (ns.map V.int) ∧ ns.length ≤ 1000 ∧ ∀ p x y, H p = none → Pur 0 x y 0 → Q (.ref p) (upd H p (.lst [.int x, .int y, .int 0]))
theorem tPurse_go {A B C M : Int} {i : Nat} {H : Hp} {Q : VK} (hM : 0 < M) (hM2 : M ≤ 10 ^ 31) (q : ∀ p x y, H p = none → Pur 0 x y 0 → Q (.ref p) (upd H p (.lst [.int x, .int y, .int 0]))) (cell w : Int) :
    ∀ p, H p = none → Q (.ref p) (upd H p (.lst [.int (if (if cell < 0 then -cell else cell) - w > 0 then (if cell < 0 then -cell else cell) - w else 0), .int ((cell * A + (i : Int) * B + C) % M), .int 0])) := fun p hp =>
  q p _ _ hp ⟨by split <;> omega, Int.emod_nonneg _ (by omega), Int.lt_of_lt_of_le (Int.emod_lt_of_pos _ hM) hM2, by decide, by decide⟩
end
/-! ### the end -/
theorem walk_ofF {l : PySem.W.OpenLaw} {n k : Nat} {q : Program} {loose : List Str} {XP : (Str → Option Value) → Heap → Prop} {YP : World → Heap → Prop} {d : DefRec} {CX : World → CXT} {x : Str} (hn : l.most = some n) (hn2 : n ≤ sizeLine) (hdf : d.params.defaults = []) (hr : Room k callerA)
    (F : ∀ (w : World) (mg : Str → Option Value) (fa : Addr) (h : Heap), YP w h → h.Ns mainGlobals mg → mg d.name = some (.ref fa) → ∃ (K : PySem.W.Frag) (fd : FuncData) (sp : Sp), K.In h ∧ (∀ (s : Shared) (u : Value), BindsTo s fd ⟨[u], []⟩ [(x, u)]) ∧
      (∀ (H : Hp) (a : Addr) (ns : List Int), ns.length ≤ n → Only H → SqL K H a (ns.map V.int) → sp [.ref a] H (fun v _ => v = .bl true) fun _ _ _ => False) ∧ ∀ base : Heap, K.In base → base.Ns mainGlobals mg → FnOk l.prog w K mg base (CX w) k fa fd [x] sp)
    (hCX : ∀ (w : World) (H : Hp) (s : Shared) (e : Value) (s' : Shared), CX w [] H s (fun _ _ _ => False) e s' → False) : PySem.W.WalkO q loose XP YP l.row.toRowW d [] (fun f vs => PySem.call f vs) := by
  refine Att.attach_call hn hdf fun w s₀ s₁ mg mb fa o pm cd doc a vs ns G Y ho hd hcd hmg hobj hints hlen hg => ?_; obtain ⟨K, fd, sp, KX, hb, hsp, hF⟩ := F w mg fa _ Y G.T.g hmg
  exact law_call KX G.T.g G.T.b G.T.builtins G.T.nolimit hg hobj hints (Nat.le_trans hlen hn2) hr hF hb (fun H hO hS => hsp H a ns hlen hO hS) fun H e s' z => hCX w H s₁ e s' z
end FL

/-! FLo -/
set_option Elab.async false
set_option linter.all false
set_option maxRecDepth 100000
set_option maxHeartbeats 4000000
/-! FLo: reasoning about the functions: an outcome is good and has a property. -/
namespace FL
open PySem PySem.Spec PyProof.Rows L2

/-- it ends well, and so -/
def Okk {α : Type} (o : Out α) (P : α → List RV → Prop) : Prop := match o with | .ok a st => P a st | _ => False
section
variable {α β : Type} {a : α} {st : List RV} {P Q : α → List RV → Prop}
theorem okk_ok : Okk (.ok a st) P = P a st := rfl
theorem okk_stuck : Okk (.stuck : Out α) P = False := rfl
theorem okk_err {c : Nat} {d : D} : Okk (.err c d st : Out α) P = False := rfl
theorem okk_bind {o : Out α} {k : α → List RV → Out β} {P : β → List RV → Prop} : Okk (o.bind k) P = Okk o (fun a st => Okk (k a st) P) := by
  cases o <;> rfl
theorem okk_noE {o : Out α} : Okk (noE o) P = Okk o P := by cases o <;> rfl
theorem Okk.imp {o : Out α} (h : Okk o P) (q : ∀ a st, P a st → Q a st) : Okk o Q := by
  cases o with
  | ok a st => exact q _ _ h
  | err c d st => exact h
  | stuck => exact h
theorem Okk.ex {o : Out α} (h : Okk o P) : ∃ a st, o = .ok a st ∧ P a st := by
  cases o with
  | ok a st => exact ⟨a, st, rfl, h⟩
  | err c d st => exact h.elim
  | stuck => exact h.elim
theorem Okk.of {o : Out α} (e : o = .ok a st) (h : P a st) : Okk o P := by rw [e]; exact h
theorem okk_ite {p : Prop} [Decidable p] {x y : Out α} : Okk (if p then x else y) P = if p then Okk x P else Okk y P := by
  split <;> rfl
theorem okk_ofO {o : Option α} : Okk (ofO o st) P = match o with | some a => P a st | none => False := by
  cases o <;> rfl
theorem okk_thenF {s k : Ex Fl} {rh : Rho} {st : List RV} {P : Fl → List RV → Prop} : Okk (sSeq s k rh st) P = Okk (s rh st) (fun f st => match f with | .nx r => Okk (k r st) P | f => P f st) := by
  unfold sSeq
  rw [okk_bind]
  congr
  funext f st
  cases f <;> rfl
/-- for -/
theorem okk_for {b : Tg} {ws : List Nat} {body : Ex Fl} {P : Fl → List RV → Prop} (I : Nat → Rho → List RV → Prop) : ∀ (ds : List D) (i0 : Nat) (rh : Rho) (st : List RV), I i0 rh st →
    (∀ j d rh st, ds[j]? = some d → I (i0 + j) rh st → ∃ r1, Tg.bind b d rh = some r1 ∧ Okk (body r1 st) (fun f st' => match f with
      | .nx r => I (i0 + j + 1) (wipeR ws r) st'
      | .ct r => I (i0 + j + 1) (wipeR ws r) st'
      | .bk r => P (.nx (wipeR ws r)) st'
      | .rt d => P (.rt d) st'
      | .ro d => P (.ro d) st')) →
    (∀ rh st, I (i0 + ds.length) rh st → P (.nx rh) st) → Okk (forL b ws body ds rh st) P
  | [], i0, rh, st, h, _, he => by
    unfold forL
    exact he rh st h
  | d :: ds, i0, rh, st, h, hs, he => by
    obtain ⟨r1, e1, h1⟩ := hs 0 d rh st rfl h
    unfold forL
    rw [e1]
    show Okk ((body r1 st).bind (forK ws (forL b ws body ds))) P
    rw [okk_bind]
    refine h1.imp fun f st' hf => ?_
    have next : ∀ r, I (i0 + 0 + 1) (wipeR ws r) st' → Okk (forL b ws body ds (wipeR ws r) st') P := fun r hr => okk_for I ds (i0 + 1) _ _ hr (fun j d rh st e hi => by
      have := hs (j + 1) d rh st (by simpa using e) (by rw [show i0 + (j + 1) = i0 + 1 + j by omega]; exact hi)
      rw [show i0 + (j + 1) = i0 + 1 + j by omega] at this
      exact this) fun rh st hi => he rh st (by rw [List.length_cons, show i0 + (ds.length + 1) = i0 + 1 + ds.length by omega]; exact hi)
    cases f with
    | nx r => exact next r hf
    | ct r => exact next r hf
    | bk r => exact hf
    | rt d => exact hf
    | ro d => exact hf
theorem okk_sFor {f : Ex (List D)} {b : Tg} {ws : List Nat} {body : Ex Fl} {rh : Rho} {st : List RV} {P : Fl → List RV → Prop} : Okk (sFor f b ws body rh st) P = Okk (f rh st) (fun ds st => Okk (forL b ws body ds (wipeR ws rh) st) P) := by
  unfold sFor
  rw [okk_bind]
end
/-! ### the coin -/
def sCoin0 (lowest : Int) (a1 e1 m1a m1b a2 e2 m2a m2b dv : Int) : Ex Fl := (sSeq (sIf (tCmpB uGt (ePur 0 0) (eC (.int lowest))) (sSeq (sSet 3 (eBin uMod (eCallB uIntA (aCons (ePur 0 0) aNil)) (eVar 1)))
 (sSeq (sPur 0 0 (eBin uFdiv (ePur 0 0) (eVar 1)))
 (sRet (eVar 3)))) sNil)
 (sSeq (sPur 0 2 (eBin uAdd (ePur 0 2) (eC (.int 1))))
 (sSeq (sSet 2 (eBin uMod (eBin uPow (eCallB uIntA (aCons (eBin uAdd (ePur 0 1) (eBin uMul (eC (.int a1)) (ePur 0 2))) aNil)) (eC (.int e1))) (eBin uAdd (eBin uPow (eC (.int 10)) (eC (.int m1a))) (eC (.int m1b)))))
 (sSeq (sSet 2 (eBin uMod (eBin uPow (eCallB uIntA (aCons (eBin uAdd (eVar 2) (eBin uMul (eC (.int a2)) (ePur 0 2))) aNil)) (eC (.int e2))) (eBin uAdd (eBin uPow (eC (.int 10)) (eC (.int m2a))) (eC (.int m2b)))))
 (sRet (eBin uMod (eCallB uIntA (aCons (eBin uFdiv (eVar 2) (eC (.int dv))) aNil)) (eVar 1)))))))
theorem log2_small {i : Int} {k : Nat} (h0 : 0 ≤ i) (h : i < 2 ^ k) (hk : 0 < k) (hk2 : k ≤ 1000000) : i.natAbs.log2 < 1000000 := by
  have h1 : i.natAbs < 2 ^ k := by
    have e : (i.natAbs : Int) = i := Int.natAbs_of_nonneg h0
    rw [← e] at h
    exact_mod_cast h
  exact Nat.lt_of_lt_of_le (PySem.Flt.log2_lt_of hk h1) hk2
/-- the constants are small -/
def CoinC (lowest a1 e1 m1a m1b a2 e2 m2a m2b dv : Int) : Prop := 0 ≤ lowest ∧ 0 ≤ a1 ∧ a1 < 2 ^ 40 ∧ 0 ≤ e1 ∧ e1 ≤ 4 ∧ 0 ≤ m1a ∧ m1a ≤ 40 ∧ 0 < m1b ∧ 10 ^ m1a.toNat + m1b < 2 ^ 200 ∧ 0 ≤ a2 ∧ a2 < 2 ^ 40 ∧ 0 ≤ e2 ∧ e2 ≤ 4 ∧ 0 ≤ m2a ∧ m2a ≤ 40 ∧ 0 < m2b ∧ 0 < dv ∧ dv < 2 ^ 40
theorem pow10_pos (n : Nat) : (0 : Int) < 10 ^ n := Int.pow_pos (by decide)
theorem coin_ok {lowest a1 e1 m1a m1b a2 e2 m2a m2b dv : Int} (hc : CoinC lowest a1 e1 m1a m1b a2 e2 m2a m2b dv) {B : Nat} {x y z n : Int} (hB : B < 2 ^ 100) (h : Pur B x y z) (hn : 0 < n) (hn2 : n < 2 ^ 64) :
    ∃ r x' y' z', runF 4 (sCoin0 lowest a1 e1 m1a m1b a2 e2 m2a m2b dv) [.r 0, .d (.int n)] [.pur x y z] = .ok (.int r) [.pur x' y' z'] ∧ 0 ≤ r ∧ r < n ∧ Pur (B + 1) x' y' z' := by
  obtain ⟨c1, c2, c3, c4, c5, c6, c7, c8, c9, c10, c11, c12, c13, c14, c15, c16, c17, c18⟩ := hc
  obtain ⟨p1, p2, p3, p4, p5⟩ := h
  have hdvn : n.natAbs.log2 < 9000 := by
    have h1 : n.natAbs < 2 ^ 64 := by omega
    exact Nat.lt_of_lt_of_le (PySem.Flt.log2_lt_of (by decide) h1) (by decide)
  have hdv2 : dv.natAbs.log2 < 9000 := by
    have h1 : dv.natAbs < 2 ^ 40 := by omega
    exact Nat.lt_of_lt_of_le (PySem.Flt.log2_lt_of (by decide) h1) (by decide)
  by_cases hx : lowest < x
  · refine ⟨x % n, x / n, y, z, ?_, Int.emod_nonneg _ (by omega), Int.emod_lt_of_pos _ hn, Int.ediv_nonneg p1 (by omega), p2, p3, p4, by omega⟩
    simp [runF, sCoin0, sSeq, sIf, sSet, sPur, sRet, tCmpB, eBin, ePur, eCallB, aCons, aNil, eC, eVar, kPur, rho0, arSl, thenF, uGt, uCmpI, uMod, uFdiv, uIntA, RV.at3, RV.set3, ofO, hx, hn, hdvn]
  · have hz : 0 ≤ z + 1 := by omega
    have hzB : z + 1 < 2 ^ 101 := by
      have : (B : Int) < 2 ^ 100 := by exact_mod_cast hB
      omega
    have m1 : (0 : Int) < 10 ^ m1a.toNat + m1b := by have := pow10_pos m1a.toNat; omega
    have m2 : (0 : Int) < 10 ^ m2a.toNat + m2b := by have := pow10_pos m2a.toNat; omega
    have b1 : a1 * (z + 1) < 2 ^ 141 := by
      calc a1 * (z + 1) ≤ 2 ^ 40 * (z + 1) := Int.mul_le_mul_of_nonneg_right (by omega) hz
        _ < 2 ^ 40 * 2 ^ 101 := Int.mul_lt_mul_of_pos_left hzB (by decide)
        _ = 2 ^ 141 := by decide
    have b2 : a2 * (z + 1) < 2 ^ 141 := by
      calc a2 * (z + 1) ≤ 2 ^ 40 * (z + 1) := Int.mul_le_mul_of_nonneg_right (by omega) hz
        _ < 2 ^ 40 * 2 ^ 101 := Int.mul_lt_mul_of_pos_left hzB (by decide)
        _ = 2 ^ 141 := by decide
    have n1 : 0 ≤ a1 * (z + 1) := Int.mul_nonneg c2 hz
    have n2 : 0 ≤ a2 * (z + 1) := Int.mul_nonneg c10 hz
    have w10 : powOk 10 m1a = true := by unfold powOk; exact decide_eq_true ⟨c6, by omega, by decide⟩
    have w20 : powOk 10 m2a = true := by unfold powOk; exact decide_eq_true ⟨c14, by omega, by decide⟩
    have k1 : mulOk a1 (z + 1) = true := by unfold mulOk; exact decide_eq_true (.inl (.inl (by omega)))
    have k2 : mulOk a2 (z + 1) = true := by unfold mulOk; exact decide_eq_true (.inl (.inl (by omega)))
    have s1 : powOk (y + a1 * (z + 1)) e1 = true := by unfold powOk; exact decide_eq_true ⟨c4, by omega, log2_small (k := 200) (by omega) (by omega) (by decide) (by decide)⟩
    generalize hv : (y + a1 * (z + 1)) ^ e1.toNat % (10 ^ m1a.toNat + m1b) = v
    have v0 : 0 ≤ v := by rw [← hv]; exact Int.emod_nonneg _ (by omega)
    have v1 : v < 2 ^ 200 := by rw [← hv]; exact Int.lt_trans (Int.emod_lt_of_pos _ m1) c9
    have s2 : powOk (v + a2 * (z + 1)) e2 = true := by unfold powOk; exact decide_eq_true ⟨c12, by omega, log2_small (k := 300) (by omega) (by omega) (by decide) (by decide)⟩
    refine ⟨(v + a2 * (z + 1)) ^ e2.toNat % (10 ^ m2a.toNat + m2b) / dv % n, x, y, z + 1, ?_, Int.emod_nonneg _ (by omega), Int.emod_lt_of_pos _ hn, p1, p2, p3, hz, by omega⟩
    simp [runF, sCoin0, sSeq, sIf, sSet, sPur, sRet, sNil, tCmpB, eBin, ePur, eCallB, aCons, aNil, eC, eVar, kPur, rho0, arSl, thenF, uGt, uCmpI, uMod, uFdiv, uIntA, uAdd, uMul, uPow, RV.at3, RV.set3, ofO, hx, hn, hdvn, hdv2, w10, w20, k1, k2, s1, s2, m1, m2, hv, c17]
end FL

/-! FLn -/
set_option Elab.async false
set_option linter.all false
set_option maxRecDepth 100000
set_option maxHeartbeats 4000000
/-! FLn: what the top has written, by names. -/
namespace FL
open PySem PySem.Spec PyProof.Rows L2 He

section
variable {K : PySem.W.Frag} {h : Heap} {mg : Str → Option Value} {P : Program} {w : World} {base : Heap}
def oexB (K : PySem.W.Frag) (C : Addr) : Bool := match K.lookup C with
  | some ⟨.type "type", _, .cls cd, sl⟩ => (match cd.mro, sl.toList with
    | .ref C' :: bm, [_, _, _, _, some (.builtin n), _] => decide (C' = C) && (decide (n = "ValueError.__new__") && (!cd.hasDel && (cd.hasDict && PySem.HandSPX.refsVE bm)))
    | _, _ => false)
  | _ => false
theorem oexB_ok {C : Addr} (q : oexB K C = true) : ∃ nm q N bs bm sn sub ab col dd k0 k1 k2 k3 k5, K.lookup C = some (excClassObj nm q C N bs bm true sn sub ab col dd k0 k1 k2 k3 k5 "ValueError.__new__") ∧ PySem.HandSPX.refsVE bm = true := by
  unfold oexB at q; split at q
  · rename_i dd cd sl ho; split at q
    · rename_i C' bm k0 k1 k2 k3 n k5 hm hs
      simp only [Bool.and_eq_true, decide_eq_true_eq, Bool.not_eq_true'] at q
      obtain ⟨rfl, rfl, hdel, hdi, hr⟩ := q
      obtain ⟨nm, bs, mro, ns, qn, hd, sn, sub, ab, col, del⟩ := cd
      dsimp only at hm hdel hdi; subst hm hdel hdi
      obtain ⟨l⟩ := sl
      simp only at hs; subst hs
      exact ⟨nm, qn, ns, bs, bm, sn, sub, ab, col, dd, k0, k1, k2, k3, k5, ho, hr⟩
    · cases q
  · cases q
/-- all that is asked of an own class of errors -/
def clsB (K : PySem.W.Frag) (b x : Str) : Bool := oexB K (ga K x) && (eqO (PySem.W.findIn K (.ref (ga K x)) "__setattr__") (some (some (.builtin "object.__setattr__"))) && (decide (PySem.W.subIn K (.ref (ga K x)) (.type "BaseException") = some true) && (decide (PySem.W.typeIn K (.ref (ga K x)) = some (.type "type")) && (PySem.W.keepIn K (.ref (ga K x)) &&
  (eqO (PySem.W.findIn K (.ref (ga K x)) "value") (some none) && (eqO (PySem.W.findIn K (.ref (ga K x)) "__init__") (some (some (.ref (fAd K (b, some "__init__"))))) && decide (PySem.W.typeIn K (.ref (fAd K (b, some "__init__"))) = some (.type "function"))))))))
theorem clsB_ok {b x : Str} {k : Nat} {fd : FuncData} (hg : mg x = some (.ref (ga K x))) (q : clsB K b x = true) (F : FnOk P w K mg base (L2.CX P w) k (fAd K (b, some "__init__")) fd ["self", "value"] (spInit K)) (hb : Binds K fd ["self", "value"] []) : HasE P w K mg base k x (ga K x) := by
  obtain ⟨q1, q⟩ := ba q; obtain ⟨q2, q⟩ := ba q; obtain ⟨q3, q⟩ := ba q; obtain ⟨q4, q⟩ := ba q; obtain ⟨q5, q⟩ := ba q; obtain ⟨q6, q⟩ := ba q; obtain ⟨q7, q8⟩ := ba q
  exact ⟨hg, ⟨oexB_ok q1, eqO_ok q2, of_decide_eq_true q3, of_decide_eq_true q4, q5⟩, eqO_ok q6, _, fd, eqO_ok q7, of_decide_eq_true q8, F, hb⟩
theorem clsB_val {b x : Str} (q : clsB K b x = true) : PySem.W.findIn K (.ref (ga K x)) "value" = some none := by
  obtain ⟨q1, q⟩ := ba q; obtain ⟨q2, q⟩ := ba q; obtain ⟨q3, q⟩ := ba q; obtain ⟨q4, q⟩ := ba q; obtain ⟨q5, q⟩ := ba q; obtain ⟨q6, q⟩ := ba q
  exact eqO_ok q6
/-- .. that is asked by isinstance -/
def xcB (K : PySem.W.Frag) (D : Addr) : Bool := eqO (PySem.W.findIn K (.ref D) "__getattribute__") (some (some (.builtin "BaseException.__getattribute__"))) && (eqO (PySem.W.findIn K (.ref D) "__getattr__") (some none) && (decide (PySem.W.subIn K (.ref D) (.type "BaseException") = some true) && (PySem.W.hasDictIn K D &&
  (eqO (PySem.W.findIn K (.ref D) "__class__") (some (some (.builtin "object.__class__"))) && (eqO (PySem.W.specialIn K (.builtin "object.__class__") "__get__") (some (some (.builtin "getset_descriptor.__get__"))) && (decide (PySem.W.takesIn K (.builtin "object.__class__") = some true) && decide (PySem.W.mroIn K D (.type "object") = some true)))))))
theorem xcB_ok {D : Addr} (q : xcB K D = true) : ExcC K D := by
  obtain ⟨q1, q⟩ := ba q; obtain ⟨q2, q⟩ := ba q; obtain ⟨q3, q⟩ := ba q; obtain ⟨q4, q⟩ := ba q; obtain ⟨q5, q⟩ := ba q; obtain ⟨q6, q⟩ := ba q; obtain ⟨q7, q8⟩ := ba q
  exact ⟨eqO_ok q1, eqO_ok q2, of_decide_eq_true q3, q4, eqO_ok q5, eqO_ok q6, of_decide_eq_true q7, of_decide_eq_true q8⟩
/-- a def's promise, by its name -/
theorem has_of {x : Str} {ps : List Str} {k : Nat} {sp : Sp} {fd : FuncData} (hg : mg x = some (.ref (fAd K (x, none)))) (hk : PySem.W.keepIn K (.ref (fAd K (x, none))) = true) (F : FnOk P w K mg base (L2.CX P w) k (fAd K (x, none)) fd ps sp) (hb : Binds K fd ps []) : Has P w K mg base k x ps [] sp :=
  ⟨_, fd, [], [], hg, hk, F, hb, .nil, fun _ _ => .nil⟩
theorem hasK_of {x : Str} {ps ks : List Str} {k n : Nat} {pm : List Nat} {sp : Sp} {fd : FuncData} (hg : mg x = some (.ref (fAd K (x, none)))) (hk : PySem.W.keepIn K (.ref (fAd K (x, none))) = true) (F : FnOk P w K mg base (L2.CX P w) k (fAd K (x, none)) fd ps sp)
    (hb : ∀ (s : Shared) (us ws : List Value), us.length = n → ws.length = ks.length → BindsTo s fd ⟨us, ks.zip ws⟩ (ps.zip (perm pm (us ++ ws)))) : HasK P w K mg base k x ps n ks pm sp := ⟨_, fd, hg, hk, F, hb⟩
theorem bindsK {x qual : Str} {st : Stmt} {f : Addr} {fd : FuncData} {ps ks : List Str} {n : Nat} {pm : List Nat} (F : Fun K x qual st f fd)
    (h : ∀ (kV doc pmv : Value) (an : Option Addr) (cdv ct : Value) (us ws : List Value), us.length = n → ws.length = ks.length → bindArgs (PySem.W.fnOf x qual (defArgs st) (defBody st) (defScope st) .none kV doc pmv an cdv ct) ⟨us, ks.zip ws⟩ = pure (ps.zip (perm pm (us ++ ws)))) :
    ∀ (s : Shared) (us ws : List Value), us.length = n → ws.length = ks.length → BindsTo s fd ⟨us, ks.zip ws⟩ (ps.zip (perm pm (us ++ ws))) := by
  obtain ⟨oc, od, kV, doc, pmv, an, cdv, ct, osl, rfl, lk, hcd⟩ := F.ex
  exact fun s us ws h1 h2 => .of_eq (h kV doc pmv an cdv ct us ws h1 h2)
/-- lists handed over, frozen at once -/
theorem spF_of_spO {k : Nat} {f : Addr} {fd : FuncData} {ps : List Str} {CA : Nat → Addr} {n : Nat} {F : Fn} (h : FnOk P w K mg base (L2.CX P w) k f fd ps (spO CA n F)) : FnOk P w K mg base (L2.CX P w) k f fd ps (spF CA n F) :=
  h.imp fun vs H Q E ⟨g, ars, st, h1, h2, h3, h4⟩ => ⟨g, ars, st, h1, h2, h3, by
    cases q : F ars st with
    | err c d st' => rw [q] at h4; exact h4
    | stuck => rw [q] at h4; exact h4
    | ok d st' =>
      rw [q] at h4
      cases d with
      | list ds =>
        intro g' H' a vs G k ha r ow
        exact h4 (g'.add a) H' (.ref a) ⟨G.as, fun b h => .inl (G.z b h), fun b h => h.elim (G.fr b) fun e => .inr (by rw [e]; exact ow.2.2), G.keep, G.live⟩ (k.add ⟨_, ha⟩ ow.2.1) (.lst (.inr rfl) ha r.add)
      | _ => exact h4⟩
/-- a def as it stands behind the top -/
def dOf (st : Stmt) (x : Str) : DefD := ⟨(x, none), x, x, defArgs st, defBody st, defScope st, [], []⟩
/-- .. with a last default None -/
def dOfN (st : Stmt) (x : Str) : DefD := ⟨(x, none), x, x, defArgs st, defBody st, defScope st, [.non], []⟩
/-- a class's own method -/
def mOf (st : Stmt) (C m qual : Str) : DefD := ⟨(C, some m), m, qual, defArgs st, defBody st, defScope st, [], []⟩
end
end FL

/-! FLp -/
set_option Elab.async false
set_option linter.all false
set_option maxRecDepth 100000
set_option maxHeartbeats 4000000
/-! FLp: each construct's outcome, step by step. -/
namespace FL
open PySem PySem.Spec PyProof.Rows L2

section
variable {rh : Rho} {st : List RV} {P : Fl → List RV → Prop} {Q : D → List RV → Prop} {T : Bool → List RV → Prop} {A : List D → List RV → Prop} {s k : Ex Fl} {f fa fb fc : Ex D} {t t' : Ex Bool} {i j : Nat} {x : Int} {d : D} {ka kf : Ex (List D)}
/-- the rest of a block -/
def nxP (k : Ex Fl) (P : Fl → List RV → Prop) (f : Fl) (st : List RV) : Prop := match f with | .nx r => Okk (k r st) P | f => P f st
theorem nxP_nx {r : Rho} : nxP k P (.nx r) st = Okk (k r st) P := rfl
theorem nxP_rt : nxP k P (.rt d) st = P (.rt d) st := rfl
theorem nxP_ro {ds : List D} : nxP k P (.ro ds) st = P (.ro ds) st := rfl
theorem nxP_bk {r : Rho} : nxP k P (.bk r) st = P (.bk r) st := rfl
theorem nxP_ct {r : Rho} : nxP k P (.ct r) st = P (.ct r) st := rfl
theorem o_seq : Okk (sSeq s k rh st) P = Okk (s rh st) (nxP k P) := by
  rw [okk_thenF]; rfl
theorem o_nil : Okk (sNil rh st) P = P (.nx rh) st := rfl
theorem o_brk : Okk (sBrk rh st) P = P (.bk rh) st := rfl
theorem o_cnt : Okk (sCnt rh st) P = P (.ct rh) st := rfl
theorem o_set : Okk (sSet i f rh st) P = Okk (f rh st) (fun d st => P (.nx (rh.set i (some (.val d)))) st) := by unfold sSet; rw [okk_bind]; rfl
theorem o_own : Okk (sOwn i kf rh st) P = Okk (kf rh st) (fun d st => P (.nx (rh.set i (some (.own d)))) st) := by unfold sOwn; rw [okk_bind]; rfl
theorem o_setX : Okk (sSetX i f rh st) P = Okk (f rh st) (fun d st => P (.nx (rh.set i (some (slX d)))) st) := by unfold sSetX; rw [okk_bind]; rfl
theorem o_ret : Okk (sRet f rh st) P = Okk (f rh st) (fun d st => P (.rt d) st) := by unfold sRet; rw [okk_bind]; rfl
theorem o_retN : Okk (sRetN rh st) P = P (.rt .none) st := rfl
theorem o_retW : Okk (sRetW kf rh st) P = Okk (kf rh st) (fun d st => P (.ro d) st) := by unfold sRetW; rw [okk_bind]; rfl
theorem o_retX : Okk (sRetX f rh st) P = Okk (f rh st) (fun d st => P (flX d) st) := by unfold sRetX; rw [okk_bind]; rfl
def atO (o : Option (Option Sl)) (p : Sl → Prop) : Prop := match o with | some (some s) => p s | _ => False
theorem atO_some {s : Sl} {p : Sl → Prop} : atO (some (some s)) p = p s := rfl
def ownP (p : List D → Prop) (s : Sl) : Prop := match s with | .own l => p l | _ => False
def valP (p : D → Prop) (s : Sl) : Prop := match s with | .val l => p l | _ => False
def bothP (p : D → Prop) (s : Sl) : Prop := match s with | .val l => p l | .own l => p (.list l) | _ => False
def regP (p : Nat → Prop) (s : Sl) : Prop := match s with | .reg n => p n | _ => False
theorem ownP_own {l : List D} {p : List D → Prop} : ownP p (.own l) = p l := rfl
theorem valP_val {l : D} {p : D → Prop} : valP p (.val l) = p l := rfl
theorem bothP_val {l : D} {p : D → Prop} : bothP p (.val l) = p l := rfl
theorem bothP_own {l : List D} {p : D → Prop} : bothP p (.own l) = p (.list l) := rfl
theorem regP_reg {n : Nat} {p : Nat → Prop} : regP p (.reg n) = p n := rfl
theorem o_retO : Okk (sRetO i rh st) P = atO rh[i]? (fun s => match s with | .own l => P (.ro l) st | .val d => P (.rt d) st | _ => False) := by
  unfold sRetO atO
  split
  · rename_i h; rw [h]; rfl
  · rename_i h; rw [h]; rfl
  · rename_i h1 h2
    cases e : rh[i]? with
    | none => rfl
    | some o =>
      cases o with
      | none => rfl
      | some s =>
        cases s with
        | own l => exact absurd e (h1 l)
        | val d => exact absurd e (h2 d)
        | _ => rfl
theorem o_frz : Okk (sFrz i rh st) P = atO rh[i]? (ownP fun l => P (.nx (rh.set i (some (.val (.list l))))) st) := by
  unfold sFrz atO ownP
  split
  · rename_i h; rw [h]; rfl
  · rename_i h1
    cases e : rh[i]? with
    | none => rfl
    | some o =>
      cases o with
      | none => rfl
      | some s =>
        cases s with
        | own l => exact absurd e (h1 l)
        | _ => rfl
theorem o_drop : Okk (sDrop f rh st) P = Okk (f rh st) (fun _ st => P (.nx rh) st) := by unfold sDrop; rw [okk_bind]; rfl
theorem o_if : Okk (sIf t s k rh st) P = Okk (t rh st) (fun b st => if b = true then Okk (s rh st) P else Okk (k rh st) P) := by
  unfold sIf; rw [okk_bind]; congr; funext b st; rw [okk_ite]
theorem o_for {b : Tg} {ws : List Nat} : Okk (sFor kf b ws s rh st) P = Okk (kf rh st) (fun ds st => Okk (forL b ws s ds (wipeR ws rh) st) P) := okk_sFor
theorem o_var : Okk (eVar i rh st) Q = atO rh[i]? (valP fun d => Q d st) := by
  unfold eVar atO valP
  split
  · rename_i h; rw [h]; rfl
  · rename_i h1
    cases e : rh[i]? with
    | none => rfl
    | some o =>
      cases o with
      | none => rfl
      | some s =>
        cases s with
        | val l => exact absurd e (h1 l)
        | _ => rfl
theorem o_peek : Okk (ePeek i rh st) Q = atO rh[i]? (bothP fun d => Q d st) := by
  unfold ePeek atO bothP
  split
  · rename_i h; rw [h]; rfl
  · rename_i h; rw [h]; rfl
  · rename_i h1 h2
    cases e : rh[i]? with
    | none => rfl
    | some o =>
      cases o with
      | none => rfl
      | some s =>
        cases s with
        | val l => exact absurd e (h1 l)
        | own l => exact absurd e (h2 l)
        | _ => rfl
theorem o_c : Okk (eC d rh st) Q = Q d st := rfl
def opP {α : Type} (o : Option α) (p : α → Prop) : Prop := match o with | some a => p a | none => False
theorem opP_some {α : Type} {a : α} {p : α → Prop} : opP (some a) p = p a := rfl
theorem opP_ite {α : Type} {c : Prop} [Decidable c] {a b : Option α} {p : α → Prop} : opP (if c then a else b) p = if c then opP a p else opP b p := by split <;> rfl
theorem okk_of {α : Type} {o : Option α} {p : α → List RV → Prop} : Okk (ofO o st) p = opP o fun a => p a st := by cases o <;> rfl
theorem o_bin {u : D → D → Option D} : Okk (eBin u fa fb rh st) Q = Okk (fa rh st) (fun a st => Okk (fb rh st) (fun b st => opP (u a b) fun d => Q d st)) := by
  unfold eBin; rw [okk_bind]; congr; funext a st; rw [okk_bind]; congr; funext b st; rw [okk_of]
theorem o_nbin {u : D → D → Option (List D)} : Okk (nBin u fa fb rh st) A = Okk (fa rh st) (fun a st => Okk (fb rh st) (fun b st => opP (u a b) fun d => A d st)) := by
  unfold nBin; rw [okk_bind]; congr; funext a st; rw [okk_bind]; congr; funext b st; rw [okk_of]
theorem o_cmpE {u : D → D → Option Bool} : Okk (eCmp u fa fb rh st) Q = Okk (fa rh st) (fun a st => Okk (fb rh st) (fun b st => opP (u a b) fun d => Q (.bool d) st)) := by
  unfold eCmp; rw [okk_bind]; congr; funext a st; rw [okk_bind]; congr; funext b st; rw [okk_of]; cases u a b <;> rfl
theorem o_cmp {u : D → D → Option Bool} : Okk (tCmpB u fa fb rh st) T = Okk (fa rh st) (fun a st => Okk (fb rh st) (fun b st => opP (u a b) fun d => T d st)) := by
  unfold tCmpB; rw [okk_bind]; congr; funext a st; rw [okk_bind]; congr; funext b st; rw [okk_of]
theorem o_un {u : D → Option D} : Okk (eUn u fa rh st) Q = Okk (fa rh st) (fun a st => opP (u a) fun d => Q d st) := by
  unfold eUn; rw [okk_bind]; congr; funext a st; rw [okk_of]
theorem o_callB {u : List D → Option D} : Okk (eCallB u ka rh st) Q = Okk (ka rh st) (fun a st => opP (u a) fun d => Q d st) := by
  unfold eCallB; rw [okk_bind]; congr; funext a st; rw [okk_of]
theorem o_nB {u : List D → Option (List D)} : Okk (nB u ka rh st) A = Okk (ka rh st) (fun a st => opP (u a) fun d => A d st) := by
  unfold nB; rw [okk_bind]; congr; funext a st; rw [okk_of]
def boolP (p : Bool → Prop) (d : D) : Prop := match d with | .bool b => p b | _ => False
theorem boolP_b {b : Bool} {p : Bool → Prop} : boolP p (.bool b) = p b := rfl
theorem o_tOf : Okk (tOf f rh st) T = Okk (f rh st) (fun d st => boolP (fun b => T b st) d) := by
  unfold tOf; rw [okk_bind]; congr; funext d st; cases d <;> rfl
theorem o_and : Okk (tAndB t t' rh st) T = Okk (t rh st) (fun b st => if b = true then Okk (t' rh st) T else T false st) := by
  unfold tAndB; rw [okk_bind]; congr; funext b st; rw [okk_ite]; rfl
theorem o_or : Okk (tOrB t t' rh st) T = Okk (t rh st) (fun b st => if b = true then T true st else Okk (t' rh st) T) := by
  unfold tOrB; rw [okk_bind]; congr; funext b st; rw [okk_ite]; rfl
theorem o_not : Okk (tNotB t rh st) T = Okk (t rh st) (fun b st => T (!b) st) := by unfold tNotB; rw [okk_bind]; rfl
theorem o_andV : Okk (eAndV fa fb rh st) Q = Okk (fa rh st) (fun d st => boolP (fun b => if b = true then Okk (fb rh st) Q else Q (.bool false) st) d) := by
  unfold eAndV; rw [okk_bind, o_tOf]; congr; funext d st; cases d with
  | bool b => show Okk (if b = true then _ else _) Q = _; rw [okk_ite]; rfl
  | _ => rfl
theorem o_orV : Okk (eOrV fa fb rh st) Q = Okk (fa rh st) (fun d st => boolP (fun b => if b = true then Q (.bool true) st else Okk (fb rh st) Q) d) := by
  unfold eOrV; rw [okk_bind, o_tOf]; congr; funext d st; cases d with
  | bool b => show Okk (if b = true then _ else _) Q = _; rw [okk_ite]; rfl
  | _ => rfl
theorem o_notV : Okk (eNotV fa rh st) Q = Okk (fa rh st) (fun d st => boolP (fun b => Q (.bool !b) st) d) := by
  unfold eNotV; rw [okk_bind, o_tOf]; rfl
theorem o_ifE : Okk (eIf t fa fb rh st) Q = Okk (t rh st) (fun b st => if b = true then Okk (fa rh st) Q else Okk (fb rh st) Q) := by
  unfold eIf; rw [okk_bind]; congr; funext b st; rw [okk_ite]
theorem o_chain {u u' : D → D → Option Bool} : Okk (eChain u u' fa fb fc rh st) T = Okk (fa rh st) (fun a st => Okk (fb rh st) (fun b st => opP (u a b) fun q => if q = true then Okk (fc rh st) (fun c st => opP (u' b c) fun q => T q st) else T false st)) := by
  unfold eChain; rw [okk_bind]; congr; funext a st; rw [okk_bind]; congr; funext b st; rw [okk_bind, okk_of]; congr; funext q; rw [okk_ite, okk_bind]
  congr; funext c st; rw [okk_of]
theorem o_eB : Okk (eB t rh st) Q = Okk (t rh st) (fun b st => Q (.bool b) st) := by unfold eB; rw [okk_bind]; rfl
theorem o_aNil : Okk (aNil rh st) A = A [] st := rfl
theorem o_aCons : Okk (aCons f ka rh st) A = Okk (f rh st) (fun d st => Okk (ka rh st) (fun ds st => A (d :: ds) st)) := by
  unfold aCons; rw [okk_bind]; congr; funext a st; rw [okk_bind]; rfl
theorem o_tup : Okk (eTup ka rh st) Q = Okk (ka rh st) (fun ds st => if ds.length ≤ 16777216 then Q (.tuple ds) st else False) := by
  unfold eTup; rw [okk_bind]; congr; funext a st; rw [okk_ite]; rfl
theorem o_lst : Okk (eLst ka rh st) A = Okk (ka rh st) (fun ds st => if ds.length ≤ 16777216 then A ds st else False) := by
  unfold eLst; rw [okk_bind]; congr; funext a st; rw [okk_ite]; rfl
theorem o_eL : Okk (eL kf rh st) Q = Okk (kf rh st) (fun ds st => Q (.list ds) st) := by unfold eL; rw [okk_bind]; rfl
def intP (p : Int → Prop) (d : D) : Prop := match d with | .int b => p b | _ => False
theorem intP_i {b : Int} {p : Int → Prop} : intP p (.int b) = p b := rfl
theorem o_pNone {O : Option Int → List RV → Prop} : Okk (pNone rh st) O = O none st := rfl
theorem o_pSome {O : Option Int → List RV → Prop} : Okk (pSome f rh st) O = Okk (f rh st) (fun d st => intP (fun i => O (some i) st) d) := by
  unfold pSome; rw [okk_bind]; congr; funext d st; cases d <;> rfl
theorem o_sl {lo hi : Ex (Option Int)} : Okk (eSl f lo hi rh st) Q = Okk (f rh st) (fun d st => Okk (lo rh st) (fun l st => Okk (hi rh st) (fun u st => opP (uSl d l u) fun d => Q d st))) := by
  unfold eSl; rw [okk_bind]; congr; funext a st; rw [okk_bind]; congr; funext b st; rw [okk_bind]; congr; funext c st; rw [okk_of]
def listP (p : List D → Prop) (d : D) : Prop := match d with | .list b => p b | _ => False
theorem listP_l {b : List D} {p : List D → Prop} : listP p (.list b) = p b := rfl
theorem o_nsl {lo hi : Ex (Option Int)} : Okk (nSl f lo hi rh st) A = Okk (f rh st) (fun d st => Okk (lo rh st) (fun l st => Okk (hi rh st) (fun u st => listP (fun ds => A (cutD ds l u) st) d))) := by
  unfold nSl; rw [okk_bind]; congr; funext a st; rw [okk_bind]; congr; funext b st; rw [okk_bind]; congr; funext c st; cases a <;> rfl
theorem o_iL : Okk (iL f rh st) A = Okk (f rh st) (fun d st => listP (fun ds => A ds st) d) := by
  unfold iL; rw [okk_bind]; congr; funext d st; cases d <;> rfl
def tupP (p : List D → Prop) (d : D) : Prop := match d with | .tuple b => p b | _ => False
theorem tupP_l {b : List D} {p : List D → Prop} : tupP p (.tuple b) = p b := rfl
theorem o_iT : Okk (iT f rh st) A = Okk (f rh st) (fun d st => tupP (fun ds => A ds st) d) := by
  unfold iT; rw [okk_bind]; congr; funext d st; cases d <;> rfl
theorem o_iR1 : Okk (iR1 ka rh st) A = Okk (ka rh st) (fun ds st => Okk (kR1 ds rh st) A) := by unfold iR1; rw [okk_bind]
theorem o_kR1 {j : Int} : Okk (kR1 [.int j] rh st) A = if -(2 ^ 62) ≤ j ∧ j < 2 ^ 62 then A (rangeD 0 j.toNat) st else False := by
  unfold kR1; simp only [okk_ite]; rfl
theorem o_iR2 : Okk (iR2 ka rh st) A = Okk (ka rh st) (fun ds st => Okk (kR2 ds rh st) A) := by unfold iR2; rw [okk_bind]
theorem o_kR2 {i j : Int} : Okk (kR2 [.int i, .int j] rh st) A = if -(2 ^ 62) ≤ i ∧ i < 2 ^ 62 ∧ -(2 ^ 62) ≤ j ∧ j < 2 ^ 62 then A (rangeD i (j - i).toNat) st else False := by
  unfold kR2; simp only [okk_ite]; rfl
theorem o_iEn : Okk (iEn ka rh st) A = Okk (ka rh st) (fun ds st => Okk (kEnA ds rh st) A) := by unfold iEn; rw [okk_bind]
theorem o_kEn {ds : List D} : Okk (kEnA [.list ds] rh st) A = A (enumFrom 0 ds) st := rfl
theorem o_iZp : Okk (iZp ka rh st) A = Okk (ka rh st) (fun ds st => Okk (kZip ds rh st) A) := by unfold iZp; rw [okk_bind]
theorem o_kZip {a b : List D} : Okk (kZip [.list a, .list b] rh st) A = A (zipD a b) st := rfl
def strP (p : Str → Prop) (d : D) : Prop := match d with | .str b => p b | _ => False
theorem strP_s {b : Str} {p : Str → Prop} : strP p (.str b) = p b := rfl
theorem o_iS : Okk (iS f rh st) A = Okk (f rh st) (fun d st => strP (fun z => A (z.cps.toList.map fun c => PyData.str ⟨#[c]⟩) st) d) := by
  unfold iS; rw [okk_bind]; congr; funext d st; cases d <;> rfl
theorem o_m1 {u : D → D → Option D} : Okk (eM1 u fa fb rh st) Q = Okk (fa rh st) (fun d st => strP (fun z => Okk (fb rh st) (fun b st => opP (u (.str z) b) fun d => Q d st)) d) := by
  unfold eM1 eStr; rw [okk_bind, okk_bind]; congr; funext d st; cases d with
  | str z => show Okk ((fb rh st).bind _) Q = _; rw [okk_bind]; show _ = Okk _ _; congr; funext b st; rw [okk_of]
  | _ => rfl
theorem o_nm1 {u : D → D → Option (List D)} : Okk (nM1 u fa fb rh st) A = Okk (fa rh st) (fun d st => strP (fun z => Okk (fb rh st) (fun b st => opP (u (.str z) b) fun d => A d st)) d) := by
  unfold nM1 eStr; rw [okk_bind, okk_bind]; congr; funext d st; cases d with
  | str z => show Okk ((fb rh st).bind _) A = _; rw [okk_bind]; show _ = Okk _ _; congr; funext b st; rw [okk_of]
  | _ => rfl
theorem o_meth {u : List D → List D → Option (List D)} : Okk (sMeth i u ka rh st) P = atO rh[i]? (ownP fun l => Okk (ka rh st) (fun ds st => opP (u l ds) fun l' => P (.nx (rh.set i (some (.own l')))) st)) := by
  unfold sMeth
  cases e : rh[i]? with
  | none => rfl
  | some o =>
    cases o with
    | none => rfl
    | some s =>
      cases s with
      | own l =>
        show Okk ((ka rh st).bind _) P = Okk _ _
        rw [okk_bind]; congr; funext ds st; unfold kMeth; cases u l ds <;> rfl
      | _ => rfl
theorem o_setix : Okk (sSetIx i fa fb rh st) P = Okk (fa rh st) (fun d st => atO rh[i]? (ownP fun l => Okk (fb rh st) (fun j st => intP (fun j => opP (ixN l.length j) fun m => P (.nx (rh.set i (some (.own (l.set m d))))) st) j))) := by
  unfold sSetIx; rw [okk_bind]; congr; funext d st
  cases e : rh[i]? with
  | none => rfl
  | some o =>
    cases o with
    | none => rfl
    | some s =>
      cases s with
      | own l =>
        show Okk ((fb rh st).bind _) P = Okk _ _
        rw [okk_bind]; congr; funext j st; unfold kSetIx; cases j with
        | int z => show Okk (match ixN l.length z with | some m => _ | none => _) P = opP (ixN l.length z) _; cases ixN l.length z <;> rfl
        | _ => rfl
      | _ => rfl
theorem o_aug {u : D → D → Option D} : Okk (sAug i u f rh st) P = atO rh[i]? (valP fun x => Okk (f rh st) (fun y st => opP (u x y) fun d => P (.nx (rh.set i (some (.val d)))) st)) := by
  unfold sAug
  cases e : rh[i]? with
  | none => rfl
  | some o =>
    cases o with
    | none => rfl
    | some s =>
      cases s with
      | val x =>
        show Okk ((f rh st).bind _) P = Okk _ _
        rw [okk_bind]; congr; funext y st; cases u x y <;> rfl
      | _ => rfl
theorem o_asg {b : Tg} : Okk (sAsg b f rh st) P = Okk (f rh st) (fun d st => opP (Tg.bind b d rh) fun r => P (.nx r) st) := by
  unfold sAsg; rw [okk_bind]; congr; funext d st; unfold kAsg; cases Tg.bind b d rh <;> rfl
/-! ### parts -/
theorem o_qNil {p : List Pt → List RV → Prop} : Okk (qNil rh st) p = p [] st := rfl
theorem o_qCons {kq : Ex (List Pt)} {p : List Pt → List RV → Prop} : Okk (qCons f kq rh st) p = Okk (f rh st) (fun d st => Okk (kq rh st) (fun ps st => p (.v d :: ps) st)) := by
  unfold qCons; rw [okk_bind]; congr; funext d st; rw [okk_bind]; rfl
theorem o_qConsN {kq : Ex (List Pt)} {p : List Pt → List RV → Prop} : Okk (qConsN kf kq rh st) p = Okk (kf rh st) (fun d st => Okk (kq rh st) (fun ps st => p (.n d :: ps) st)) := by
  unfold qConsN; rw [okk_bind]; congr; funext d st; rw [okk_bind]; rfl
theorem o_par2 {kq : Ex (List Pt)} : Okk (sPar2 i j kq rh st) P = Okk (kq rh st) (fun ps st => Okk (kPar2 i j ps rh st) P) := by unfold sPar2; rw [okk_bind]
theorem o_kpar2 {p q : Pt} : Okk (kPar2 i j [p, q] rh st) P = P (.nx ((rh.set i (some p.sl)).set j (some q.sl))) st := rfl
theorem o_par3 {l : Nat} {kq : Ex (List Pt)} : Okk (sPar3 i j l kq rh st) P = Okk (kq rh st) (fun ps st => Okk (kPar3 i j l ps rh st) P) := by unfold sPar3; rw [okk_bind]
theorem o_kpar3 {l : Nat} {p q r : Pt} : Okk (kPar3 i j l [p, q, r] rh st) P = P (.nx (((rh.set i (some p.sl)).set j (some q.sl)).set l (some r.sl))) st := rfl
/-! ### calls -/
theorem o_rNil {p : List Ar → List RV → Prop} : Okk (rNil rh st) p = p [] st := rfl
theorem o_rCons {kq : Ex (List Ar)} {p : List Ar → List RV → Prop} : Okk (rCons f kq rh st) p = Okk (f rh st) (fun d st => Okk (kq rh st) (fun ps st => p (.d d :: ps) st)) := by
  unfold rCons; rw [okk_bind]; congr; funext d st; rw [okk_bind]; rfl
theorem o_rConsR {kq : Ex (List Ar)} {p : List Ar → List RV → Prop} : Okk (rConsR i kq rh st) p = atO rh[i]? (regP fun n => Okk (kq rh st) (fun ps st => p (.r n :: ps) st)) := by
  unfold rConsR eReg
  cases e : rh[i]? with
  | none => rfl
  | some o =>
    cases o with
    | none => rfl
    | some s =>
      cases s with
      | reg n =>
        show Okk ((kq rh st).bind _) p = Okk _ _
        rw [okk_bind]; rfl
      | _ => rfl
theorem o_callR {F : Fn} {dv : List D} {kq : Ex (List Ar)} : Okk (eCallR F dv kq rh st) Q = Okk (kq rh st) (fun as st => Okk (F (as ++ dv.map Ar.d) st) Q) := by unfold eCallR; rw [okk_bind]
theorem okk_runP {F : Fn} {ds : List D} : Okk (runP F ds st) Q = Okk (F (ds.map Ar.d) []) (fun d _ => Q d st) := by
  unfold runP; cases F (ds.map Ar.d) [] <;> rfl
theorem o_call {F : Fn} {dv : List D} : Okk (eCall F dv ka rh st) Q = Okk (ka rh st) (fun ds st => Okk (F ((ds ++ dv).map Ar.d) []) (fun d _ => Q d st)) := by
  unfold eCall; rw [okk_bind]; congr; funext ds st; rw [okk_runP]
theorem o_callK {F : Fn} {pm : List Nat} : Okk (eCallK F pm ka kf rh st) Q = Okk (ka rh st) (fun ds st => Okk (kf rh st) (fun es st => Okk (F ((perm pm (ds ++ es)).map Ar.d) []) (fun d _ => Q d st))) := by
  unfold eCallK; rw [okk_bind]; congr; funext ds st; rw [okk_bind]; congr; funext es st; rw [okk_runP]
theorem okk_runW {ok : D → Bool} {F : Fn} {ds : List D} : Okk (runW ok F ds st) Q = Okk (F (ds.map Ar.d) []) (fun d _ => if ok d = true then Q d st else False) := by
  unfold runW
  cases F (ds.map Ar.d) [] with
  | ok d st' => show Okk (if ok d = true then _ else _) Q = _; rw [okk_ite]; rfl
  | err c d st' => show Okk (if scal d = true then _ else _) Q = _; split <;> rfl
  | stuck => rfl
theorem o_callW {F : Fn} {dv : List D} : Okk (eCallW F dv ka rh st) Q = Okk (ka rh st) (fun ds st => Okk (F ((ds ++ dv).map Ar.d) []) (fun d _ => if lent d = true then Q d st else False)) := by
  unfold eCallW; rw [okk_bind]; congr; funext ds st; rw [okk_runW]
theorem o_runF {n : Nat} {ars : List Ar} : Okk (runF n s ars st) Q = Okk (s (rho0 n ars) st) (fun f st => match f with | .rt d => Q d st | .ro ds => Q (.list ds) st | .nx _ => Q .none st | _ => False) := by
  unfold runF; rw [okk_bind]; congr; funext f st; cases f <;> rfl
theorem o_runO {n : Nat} {ars : List Ar} : Okk (runO n s ars st) Q = Okk (s (rho0 n ars) st) (fun f st => match f with | .rt (.list _) => False | .rt d => Q d st | .ro ds => Q (.list ds) st | .nx _ => Q .none st | _ => False) := by
  unfold runO; rw [okk_bind]; congr; funext f st; cases f with
  | rt d => cases d <;> rfl
  | _ => rfl
/-! ### comprehensions: pure elements -/
theorem o_nLc {b : Tg} {ws : List Nat} : Okk (nLc kf b t f ws rh st) A = Okk (kf rh st) (fun ds st => if ds.length ≤ lim then Okk (lcL b t f (wipeR ws rh) ds st) A else False) := by
  unfold nLc; rw [okk_bind]; congr; funext ds st; rw [okk_ite]; rfl
/-- each item gives some value -/
theorem okk_lc {b : Tg} (g : D → List D) : ∀ (ds : List D), (∀ d ∈ ds, ∃ r1, Tg.bind b d rh = some r1 ∧ ((g d = [] ∧ t r1 st = .ok false st) ∨ ∃ x, g d = [x] ∧ t r1 st = .ok true st ∧ f r1 st = .ok x st)) → A (ds.flatMap g) st → Okk (lcL b t f rh ds st) A
  | [], _, h => h
  | d :: ds, hd, h => by
    have key : ∀ ds : List D, (∀ d ∈ ds, ∃ r1, Tg.bind b d rh = some r1 ∧ ((g d = [] ∧ t r1 st = .ok false st) ∨ ∃ x, g d = [x] ∧ t r1 st = .ok true st ∧ f r1 st = .ok x st)) → lcL b t f rh ds st = .ok (ds.flatMap g) st := fun ds => by
      induction ds with
      | nil => intro _; rfl
      | cons d ds ih =>
        intro hd
        obtain ⟨r1, e1, e2⟩ := hd d List.mem_cons_self
        have ih := ih fun d h => hd d (List.mem_cons_of_mem _ h)
        unfold lcL
        rw [e1]
        rcases e2 with ⟨e2, e3⟩ | ⟨x, e2, e3, e4⟩
        · show (noE (t r1 st)).bind (lcF f r1 (lcL b t f rh ds)) = _
          rw [e3, List.flatMap_cons, e2]
          show lcF f r1 (lcL b t f rh ds) false st = _
          unfold lcF
          rw [if_neg Bool.false_ne_true, ih]; rfl
        · show (noE (t r1 st)).bind (lcF f r1 (lcL b t f rh ds)) = _
          rw [e3, List.flatMap_cons, e2]
          show lcF f r1 (lcL b t f rh ds) true st = _
          unfold lcF
          rw [if_pos rfl, e4]
          show (lcL b t f rh ds st).bind _ = _
          rw [ih]; rfl
    rw [key (d :: ds) hd]
    exact h
end
end FL

/-! FLq -/
set_option Elab.async false
set_option linter.all false
set_option maxRecDepth 100000
set_option maxHeartbeats 4000000
/-! FLq: data: equal, laid, of one kind. -/
namespace FL
open PySem PySem.Spec PyProof.Rows L2

mutual
/-- no truth, no dict inside -/
def nb : D → Bool
  | .none => true | .bool _ => false | .int _ => true | .str _ => true | .list ds => nbs ds | .tuple ds => nbs ds | .dict _ => false
def nbs : List D → Bool
  | [] => true
  | d :: ds => nb d && nbs ds
end
mutual
theorem eqv_self : ∀ d : D, (match d with | .dict _ => false | _ => true) = true → d.canLay0 = true → PyData.eqv d d = true
  | .none, _, _ => rfl
  | .bool b, _, _ => by simp [PyData.eqv]
  | .int i, _, _ => by simp [PyData.eqv]
  | .str x, _, _ => by simp [PyData.eqv]
  | .list ds, _, h => by
    unfold PyData.eqv
    exact eqvAll_self ds (by unfold PyData.canLay0 at h; exact h)
  | .tuple ds, _, h => by
    unfold PyData.eqv
    exact eqvAll_self ds (by unfold PyData.canLay0 at h; exact h)
  | .dict _, h, _ => by cases h
theorem eqvAll_self : ∀ ds : List D, PyData.canLayAll0 ds = true → PyData.eqvAll ds ds = true
  | [], _ => by simp [PyData.eqvAll]
  | d :: ds, h => by
    unfold PyData.canLayAll0 at h
    rw [Bool.and_eq_true] at h
    unfold PyData.eqvAll
    rw [Bool.and_eq_true]
    refine ⟨eqv_self d ?_ h.1, eqvAll_self ds h.2⟩
    cases d with
    | dict _ => have := h.1; unfold PyData.canLay0 at this; cases this
    | _ => rfl
end
mutual
theorem eqv_eq : ∀ a b : D, nb a = true → nb b = true → PyData.eqv a b = true → a = b
  | .none, b, _, hb, h => by cases b <;> first | rfl | (simp [PyData.eqv] at h)
  | .bool _, b, ha, _, _ => by simp [nb] at ha
  | .int i, b, _, hb, h => by
    cases b with
    | int j => simp [PyData.eqv] at h; rw [h]
    | bool _ => simp [nb] at hb
    | _ => simp [PyData.eqv] at h
  | .str i, b, _, hb, h => by
    cases b with
    | str j => simp [PyData.eqv] at h; rw [h]
    | _ => simp [PyData.eqv] at h
  | .list as, b, ha, hb, h => by
    cases b with
    | list bs =>
      unfold PyData.eqv at h
      unfold nb at ha hb
      rw [eqvAll_eq as bs ha hb h]
    | _ => simp [PyData.eqv] at h
  | .tuple as, b, ha, hb, h => by
    cases b with
    | tuple bs =>
      unfold PyData.eqv at h
      unfold nb at ha hb
      rw [eqvAll_eq as bs ha hb h]
    | _ => simp [PyData.eqv] at h
  | .dict _, b, ha, _, _ => by simp [nb] at ha
theorem eqvAll_eq : ∀ as bs : List D, nbs as = true → nbs bs = true → PyData.eqvAll as bs = true → as = bs
  | [], [], _, _, _ => rfl
  | [], _ :: _, _, _, h => by simp [PyData.eqvAll] at h
  | _ :: _, [], _, _, h => by simp [PyData.eqvAll] at h
  | a :: as, b :: bs, ha, hb, h => by
    unfold nbs at ha hb
    unfold PyData.eqvAll at h
    rw [Bool.and_eq_true] at ha hb h
    rw [eqv_eq a b ha.1 hb.1 h.1, eqvAll_eq as bs ha.2 hb.2 h.2]
end
theorem uEq_of {a b : D} (ha : shp a = true) (hb : shp b = true) : uEq a b = some (PyData.eqv a b) := by unfold uEq; rw [ha, hb]; rfl
theorem uNe_of {a b : D} (ha : shp a = true) (hb : shp b = true) : uNe a b = some (!PyData.eqv a b) := by unfold uNe; rw [ha, hb]; rfl
theorem shp_int {i : Int} : shp (.int i) = true := by simp [shp, SeqAt.shaped, PyData.canLay0, PyData.depth]
theorem shp_none : shp .none = true := by simp [shp, SeqAt.shaped, PyData.canLay0, PyData.depth]
theorem shp_bool {b : Bool} : shp (.bool b) = true := by simp [shp, SeqAt.shaped, PyData.canLay0, PyData.depth]
theorem shp_str {x : Str} : shp (.str x) = (PyData.str x).canLay0 := by simp [shp, SeqAt.shaped, PyData.depth]
/-- laid within depth n -/
def lay (n : Nat) (d : D) : Prop := d.canLay0 = true ∧ d.depth ≤ n
def lays (n : Nat) (ds : List D) : Prop := ∀ d ∈ ds, lay n d
theorem lay_int {n : Nat} {i : Int} : lay n (.int i) := ⟨by simp [PyData.canLay0], by simp [PyData.depth]⟩
theorem lay_none {n : Nat} : lay n .none := ⟨by simp [PyData.canLay0], by simp [PyData.depth]⟩
theorem lay_bool {n : Nat} {b : Bool} : lay n (.bool b) := ⟨by simp [PyData.canLay0], by simp [PyData.depth]⟩
theorem all_lay {n : Nat} : ∀ {ds : List D}, lays n ds → PyData.canLayAll0 ds = true ∧ PyData.depthAll ds ≤ n
  | [], _ => ⟨by simp [PyData.canLayAll0], by simp [PyData.depthAll]⟩
  | d :: ds, h => by
    obtain ⟨h1, h2⟩ := all_lay (ds := ds) fun x hx => h x (List.mem_cons_of_mem _ hx)
    obtain ⟨h3, h4⟩ := h d List.mem_cons_self
    refine ⟨by unfold PyData.canLayAll0; rw [h3, h1]; rfl, by unfold PyData.depthAll; omega⟩
theorem lay_list {n : Nat} {ds : List D} (h : lays n ds) : lay (n + 1) (.list ds) := by
  obtain ⟨h1, h2⟩ := all_lay h
  exact ⟨by unfold PyData.canLay0; exact h1, by unfold PyData.depth; omega⟩
theorem lay_tup {n : Nat} {ds : List D} (h : lays n ds) : lay (n + 1) (.tuple ds) := by
  obtain ⟨h1, h2⟩ := all_lay h
  exact ⟨by unfold PyData.canLay0; exact h1, by unfold PyData.depth; omega⟩
theorem lay.shp {n : Nat} {d : D} (h : lay n d) (hn : n ≤ 64) : shp d = true := by
  unfold FL.shp SeqAt.shaped
  rw [h.1, decide_eq_true (Nat.le_trans h.2 hn)]; rfl
theorem lays_ints {n : Nat} (ns : List Int) : lays n (ns.map PyData.int) := fun d hd => by
  obtain ⟨i, _, rfl⟩ := List.mem_map.mp hd
  exact lay_int
theorem uEq_int {i j : Int} : uEq (.int i) (.int j) = some (decide (i = j)) := by
  rw [uEq_of shp_int shp_int]; simp [PyData.eqv]; rfl
theorem uNe_int {i j : Int} : uNe (.int i) (.int j) = some (!decide (i = j)) := by
  rw [uNe_of shp_int shp_int]; simp [PyData.eqv]; rfl
theorem eqv_list_nil {ds : List D} : PyData.eqv (.list ds) (.list []) = ds.isEmpty := by
  cases ds <;> simp [PyData.eqv, PyData.eqvAll]
theorem uNe_nil {n : Nat} {ds : List D} (h : lays n ds) (hn : n + 1 ≤ 64) : uNe (.list ds) (.list []) = some (!ds.isEmpty) := by
  rw [uNe_of ((lay_list h).shp hn) ((lay_list (n := 0) (ds := []) (fun _ h => by cases h)).shp (by decide)), eqv_list_nil]
theorem uEq_nil {n : Nat} {ds : List D} (h : lays n ds) (hn : n + 1 ≤ 64) : uEq (.list ds) (.list []) = some ds.isEmpty := by
  rw [uEq_of ((lay_list h).shp hn) ((lay_list (n := 0) (ds := []) (fun _ h => by cases h)).shp (by decide)), eqv_list_nil]
theorem nbs_ints : ∀ ns : List Int, nbs (ns.map PyData.int) = true
  | [] => by simp [nbs]
  | n :: ns => by rw [List.map_cons]; unfold nbs; rw [nbs_ints ns]; simp [nb]

/-! ### the operators at data of one kind -/
theorem uAdd_int {i j : Int} : uAdd (.int i) (.int j) = some (.int (i + j)) := rfl
theorem uAdd_str {a b : Str} (h : a.length + b.length ≤ lim) : uAdd (.str a) (.str b) = some (.str (a ++ b)) := if_pos h
theorem uAdd_list {a b : List D} (h : a.length + b.length ≤ lim) : uAdd (.list a) (.list b) = some (.list (a ++ b)) := if_pos h
theorem uSub_int {i j : Int} : uSub (.int i) (.int j) = some (.int (i - j)) := rfl
theorem uLt_int {i j : Int} : uLt (.int i) (.int j) = some (decide (i < j)) := rfl
theorem uLe_int {i j : Int} : uLe (.int i) (.int j) = some (decide (i ≤ j)) := rfl
theorem uGt_int {i j : Int} : uGt (.int i) (.int j) = some (decide (j < i)) := rfl
theorem uGe_int {i j : Int} : uGe (.int i) (.int j) = some (decide (j ≤ i)) := rfl
theorem uMax2_int {i j : Int} : uMax2 [.int i, .int j] = some (.int (if j > i then j else i)) := rfl
theorem uMin2_int {i j : Int} : uMin2 [.int i, .int j] = some (.int (if j < i then j else i)) := rfl
theorem uNeg_int {i : Int} : uNeg (.int i) = some (.int (-i)) := rfl
theorem uLen_list {l : List D} : uLen [.list l] = some (.int l.length) := rfl
theorem uLen_tup {l : List D} : uLen [.tuple l] = some (.int l.length) := rfl
theorem uLen_str {z : Str} (h : z.length ≤ lim) : uLen [.str z] = some (.int z.length) := if_pos h
theorem mAppend_one {l : List D} {d : D} (h : l.length < lim) : mAppend l [d] = some (l ++ [d]) := if_pos h
theorem uIx_list {l : List D} {i : Int} : uIx (.list l) (.int i) = atI l i := rfl
theorem uIx_tup {l : List D} {i : Int} : uIx (.tuple l) (.int i) = atI l i := rfl
theorem uMod_int {i j : Int} (h : 0 < j) : uMod (.int i) (.int j) = some (.int (i % j)) := if_pos h
theorem uIsN_n {a : D} : uIsN a .none = some (isNon a) := rfl
theorem uNotN_n {a : D} : uNotN a .none = some (!isNon a) := rfl
/-- a cut behind a statement -/
theorem o_cut {s k : Ex Fl} {rh : Rho} {st : List RV} {P : Fl → List RV → Prop} (R : Rho → List RV → Prop) (h1 : Okk (s rh st) (fun f st => match f with | .nx r => R r st | f => P f st)) (h2 : ∀ r st, R r st → Okk (k r st) P) : Okk (sSeq s k rh st) P := by
  rw [o_seq]
  exact h1.imp fun f st h => by
    cases f with
    | nx r => exact h2 r st h
    | _ => exact h
theorem atI_last {l : List D} {d : D} : atI (l ++ [d]) (-1) = some d := L2.atI_last _ _
theorem uNe_ints {ns : List Int} : uNe (.list (ns.map PyData.int)) (.list []) = some (!ns.isEmpty) := by
  rw [uNe_nil (n := 0) (lays_ints ns) (by decide), List.isEmpty_map]
theorem uEq_ints {ns : List Int} : uEq (.list (ns.map PyData.int)) (.list []) = some ns.isEmpty := by
  rw [uEq_nil (n := 0) (lays_ints ns) (by decide), List.isEmpty_map]
end FL

/-! FLw -/
set_option Elab.async false
set_option linter.all false
set_option maxRecDepth 100000
set_option maxHeartbeats 4000000
/-! FLw: texts: signs, lengths, split and join. -/
namespace FL
open PySem PySem.Spec PyProof.Rows L2 TL

/-- a text's signs are code points -/
def OkT (s : Str) : Prop := ∀ c ∈ tl s, c < 0x110000
theorem okT_lay {s : Str} (h : OkT s) {n : Nat} : lay n (.str s) := ⟨by
  show PyData.canLay0 (.str s) = true
  unfold PyData.canLay0 PyData.strOk
  rw [← Array.all_toList, List.all_eq_true]
  exact fun c hc => decide_eq_true (h c hc), by unfold PyData.depth; exact Nat.zero_le _⟩
theorem okT_shp {s : Str} (h : OkT s) : shp (.str s) = true := (okT_lay h (n := 0)).shp (by decide)
theorem eqv_str {a b : Str} : PyData.eqv (.str a) (.str b) = decide (a = b) := by simp [PyData.eqv]; rfl
theorem uEq_str {a b : Str} (ha : OkT a) (hb : OkT b) : uEq (.str a) (.str b) = some (decide (a = b)) := by rw [uEq_of (okT_shp ha) (okT_shp hb), eqv_str]
theorem uNe_str {a b : Str} (ha : OkT a) (hb : OkT b) : uNe (.str a) (.str b) = some (!decide (a = b)) := by rw [uNe_of (okT_shp ha) (okT_shp hb), eqv_str]
theorem okT_append {a b : Str} (ha : OkT a) (hb : OkT b) : OkT (a ++ b) := fun c hc => by
  rw [tl_append] at hc
  rcases List.mem_append.mp hc with h | h
  · exact ha c h
  · exact hb c h
theorem join_split {x y : Str} : Txt.join y (Txt.split x y) = x := by
  unfold Txt.split Txt.join
  split
  · rfl
  · split
    · rfl
    · exact StrLaws.glued_between_self x y _
theorem split_ne {x y : Str} : Txt.split x y ≠ [] := by
  unfold Txt.split
  split
  · simp
  · split
    · simp
    · intro h
      have := PySem.length_partsBetween x (Builtin.Str.occurrences x y 0 x.length (x.length + 1)) y.length
      rw [h] at this
      simp at this
theorem mem_joinL {s : List Nat} : ∀ {ps : List (List Nat)} {c : Nat}, c ∈ joinL s ps → c ∈ s ∨ ∃ p ∈ ps, c ∈ p
  | [], c, h => by simp [joinL] at h
  | [p], c, h => .inr ⟨p, by simp, h⟩
  | p :: q :: r, c, h => by
    have h : c ∈ p ++ (s ++ joinL s (q :: r)) := h
    rcases List.mem_append.mp h with h | h
    · exact .inr ⟨p, by simp, h⟩
    · rcases List.mem_append.mp h with h | h
      · exact .inl h
      · rcases mem_joinL h with h | ⟨p', hp, h⟩
        · exact .inl h
        · exact .inr ⟨p', List.mem_cons_of_mem _ hp, h⟩
theorem joinL_mem {s : List Nat} : ∀ {ps : List (List Nat)} {p : List Nat} {c : Nat}, p ∈ ps → c ∈ p → c ∈ joinL s ps
  | [], p, c, h, _ => by cases h
  | [q], p, c, h, hc => by
    have : p = q := by simpa using h
    subst this; exact hc
  | q :: q2 :: r, p, c, h, hc => by
    show c ∈ q ++ (s ++ joinL s (q2 :: r))
    rcases List.mem_cons.mp h with rfl | h
    · exact List.mem_append_left _ hc
    · exact List.mem_append_right _ (List.mem_append_right _ (joinL_mem h hc))
theorem tl_joinT {y : Str} {ps : List Str} : tl (Txt.join y ps) = joinL (tl y) (ps.map tl) := by rw [join_eq, tl_join]
theorem okT_join {y : Str} {ps : List Str} (hy : OkT y) (hp : ∀ p ∈ ps, OkT p) : OkT (Txt.join y ps) := fun c hc => by
  rw [tl_joinT] at hc
  rcases mem_joinL hc with h | ⟨p, h1, h2⟩
  · exact hy c h
  · obtain ⟨q, hq, rfl⟩ := List.mem_map.mp h1
    exact hp q hq c h2
theorem mem_split {x y p : Str} {c : Nat} (hp : p ∈ Txt.split x y) (hc : c ∈ tl p) : c ∈ tl x := by
  rw [← join_split (x := x) (y := y), tl_joinT]
  exact joinL_mem (List.mem_map_of_mem hp) hc
theorem okT_split {x y p : Str} (hx : OkT x) (hp : p ∈ Txt.split x y) : OkT p := fun c hc => hx c (mem_split hp hc)
theorem size_join (y : Str) (ps : List Str) : (Txt.join y ps).length = (ps.map (·.length)).sum + (ps.length - 1) * y.length := PySem.size_glued y ps
theorem le_sum {p : Str} : ∀ {ps : List Str}, p ∈ ps → p.length ≤ (ps.map (·.length)).sum
  | q :: ps, h => by
    rw [List.map_cons, List.sum_cons]
    rcases List.mem_cons.mp h with rfl | h
    · omega
    · have := le_sum h; omega
theorem len_split {x y p : Str} (hp : p ∈ Txt.split x y) : p.length ≤ x.length := by
  have h1 := size_join y (Txt.split x y)
  rw [join_split] at h1
  have h2 := le_sum hp
  omega
theorem cnt_split {x y : Str} (hy : 1 ≤ y.length) : (Txt.split x y).length ≤ x.length + 1 := by
  have h1 := size_join y (Txt.split x y)
  rw [join_split] at h1
  have h2 : ((Txt.split x y).length - 1) * 1 ≤ ((Txt.split x y).length - 1) * y.length := Nat.mul_le_mul_left _ hy
  omega

/-! ### outcomes that are errors -/
theorem ers_bind {α β : Type} {o : Out α} {k : α → List RV → Out β} {c : Nat} {d : D} {st : List RV} (h : Okk o (fun a st' => k a st' = .err c d st)) : o.bind k = .err c d st := by
  cases o with
  | ok a st' => exact h
  | err => exact h.elim
  | stuck => exact h.elim
theorem ers_bind1 {α β : Type} {o : Out α} {k : α → List RV → Out β} {c : Nat} {d : D} {st : List RV} (h : o = .err c d st) : o.bind k = .err c d st := by rw [h]; rfl
theorem ers_seq {s k : Ex Fl} {rh : Rho} {st st2 : List RV} {c : Nat} {d : D} (h : Okk (s rh st) (fun f st1 => match f with | .nx r => k r st1 = .err c d st2 | _ => False)) : sSeq s k rh st = .err c d st2 :=
  ers_bind (h.imp fun f st1 h => by
    cases f with
    | nx r => exact h
    | _ => exact h.elim)
theorem ers_seq1 {s k : Ex Fl} {rh : Rho} {st st2 : List RV} {c : Nat} {d : D} (h : s rh st = .err c d st2) : sSeq s k rh st = .err c d st2 := ers_bind1 h
theorem ers_for {b : Tg} {ws : List Nat} {body : Ex Fl} {c : Nat} {d : D} {st2 : List RV} (I : Nat → Rho → List RV → Prop) : ∀ (i : Nat) (ds : List D) (i0 : Nat) (rh : Rho) (st : List RV), I i0 rh st → i < ds.length →
    (∀ j x rh st, j < i → ds[j]? = some x → I (i0 + j) rh st → ∃ r1, Tg.bind b x rh = some r1 ∧ Okk (body r1 st) (fun f st' => match f with | .nx r => I (i0 + j + 1) (wipeR ws r) st' | .ct r => I (i0 + j + 1) (wipeR ws r) st' | _ => False)) →
    (∀ x rh st, ds[i]? = some x → I (i0 + i) rh st → ∃ r1, Tg.bind b x rh = some r1 ∧ body r1 st = .err c d st2) → forL b ws body ds rh st = .err c d st2
  | i, [], _, _, _, _, h, _, _ => by simp at h
  | 0, x :: ds, i0, rh, st, hI, _, _, he => by
    obtain ⟨r1, e1, e2⟩ := he x rh st rfl hI
    unfold forL
    rw [e1]
    exact ers_bind1 e2
  | i + 1, x :: ds, i0, rh, st, hI, hi, hs, he => by
    obtain ⟨r1, e1, h1⟩ := hs 0 x rh st (by omega) rfl hI
    unfold forL
    rw [e1]
    refine ers_bind (h1.imp fun f st' hf => ?_)
    have next : ∀ r, I (i0 + 0 + 1) (wipeR ws r) st' → forL b ws body ds (wipeR ws r) st' = .err c d st2 := fun r hr => ers_for I i ds (i0 + 1) _ _ hr (by simpa using hi) (fun j y rh st hj e hi => by
      have := hs (j + 1) y rh st (by omega) (by simpa using e) (by rw [show i0 + (j + 1) = i0 + 1 + j by omega]; exact hi)
      rw [show i0 + (j + 1) = i0 + 1 + j by omega] at this
      exact this) fun y rh st e hi => he y rh st (by simpa using e) (by rw [show i0 + (i + 1) = i0 + 1 + i by omega]; exact hi)
    cases f with
    | nx r => exact next r hf
    | ct r => exact next r hf
    | _ => exact hf.elim
theorem o_try_ok {caught : Nat → Bool} {ws : List Nat} {body hand : Ex Fl} {i : Nat} {rh : Rho} {st : List RV} {P : Fl → List RV → Prop} (hn : noOwnR rh = true) (h : Okk (body rh st) P) : Okk (sTry caught ws body i hand rh st) P := by
  unfold sTry
  rw [if_pos hn]
  cases q : body rh st with
  | ok f st' => rw [q] at h; exact h
  | err => rw [q] at h; exact h.elim
  | stuck => rw [q] at h; exact h.elim
theorem o_try_err {caught : Nat → Bool} {ws : List Nat} {body hand : Ex Fl} {i : Nat} {rh : Rho} {st st2 : List RV} {c : Nat} {d : D} {P : Fl → List RV → Prop} (hn : noOwnR rh = true) (h : body rh st = .err c d st2) (hc : caught c = true)
    (hh : Okk (hand ((wipeR ws rh).set i (some (.exc c d))) st2) (fun f st => Okk (unX i f st) P)) : Okk (sTry caught ws body i hand rh st) P := by
  unfold sTry
  rw [if_pos hn, h]
  show Okk (if caught c = true then _ else _) P
  rw [if_pos hc, okk_bind, okk_noE]
  exact hh
theorem o_xv {i : Nat} {rh : Rho} {st : List RV} {Q : D → List RV → Prop} {c : Nat} {d : D} (h : rh[i]? = some (some (.exc c d))) : Okk (eXv i rh st) Q = Q d st := by unfold eXv; rw [h]; rfl
theorem o_isX {i : Nat} {rh : Rho} {st : List RV} {Q : D → List RV → Prop} {c : Nat} {d : D} {tab : Nat → Bool} (h : rh[i]? = some (some (.exc c d))) : Okk (eIsX i tab rh st) Q = Q (.bool (tab c)) st := by unfold eIsX; rw [h]; rfl
theorem runP_err {F : Fn} {ds : List D} {st st' : List RV} {c : Nat} {d : D} (h : F (ds.map Ar.d) [] = .err c d st') : runP F ds st = .err c d st := by unfold runP; rw [h]
end FL

/-! G54 -/
set_option Elab.async false
set_option linter.all false
set_option maxRecDepth 100000
set_option maxHeartbeats 4000000
namespace Lw
open PySem PySem.Spec PyProof.Rows L2 FL
def topS (i : Nat) : Stmt := PySem.Challenge.pw_staletally_k54_lists_that_are_none.main.body.getD i (.Pass ⟨0, 0, 0, 0⟩)
def caught (c : Nat) : Bool := c == 3
def is_InvalidNumber_NotPossible (c : Nat) : Bool := false
def is_Unreadable (c : Nat) : Bool := c == 3
structure Bk (P : Program) (w : World) (K : PySem.W.Frag) (mg : Str → Option Value) (base : Heap) (CA : Nat → Addr) : Prop where
  n_abs : mg "abs" = none
  n_all : mg "all" = none
  n_int : mg "int" = none
  n_isinstance : mg "isinstance" = none
  n_len : mg "len" = none
  n_max : mg "max" = none
  n_min : mg "min" = none
  n_range : mg "range" = none
  n_str : mg "str" = none
  c_DIGITS : ∃ t, mg "DIGITS" = some (.str "0123456789" t)
  c_MOST_DIGITS : ∃ t, mg "MOST_DIGITS" = some (.int 9 t)
  e_Unreadable : HasE P w K mg base 1 "Unreadable" (CA 3)
  g_InvalidNumber : mg "InvalidNumber" = some (.ref (CA 1))
  g_NotPossible : mg "NotPossible" = some (.ref (CA 2))
  g_TallyError : mg "TallyError" = some (.ref (CA 0))
  g_Unreadable : mg "Unreadable" = some (.ref (CA 3))
  cau : ∀ {c}, caught c = true → PySem.W.exmOne K (.ref (CA c)) (.ref (CA 0)) = some true
  noval : ∀ {c}, caught c = true → PySem.W.findIn K (.ref (CA c)) "value" = some none
  xf : ∀ {c}, caught c = true → XfC K (CA c)
  xc : ∀ {c}, caught c = true → ExcC K (CA c)
  k_InvalidNumber_NotPossible : ∀ {c}, caught c = true → PySem.W.kitAny K (.ref (CA c)) [.ref (CA 1), .ref (CA 2)] = some (is_InvalidNumber_NotPossible c)
  k_Unreadable : ∀ {c}, caught c = true → PySem.W.kitOne K (.ref (CA c)) (.ref (CA 3)) = some (is_Unreadable c)
theorem sc_number_in : FnScope ["text", "sign"] ["text"] (defScope (topS 8)) := ⟨rfl, rfl, rfl, by decide +kernel, rfl, by decide +kernel, by decide +kernel⟩
def s_number_in : Ex Fl := (sSeq (sIf (tOrB (tNotB (eChain uLe uLe (eC (.int 1)) (eCallB uLen (aCons (eVar 0) aNil)) (eC (.int 9)))) (tNotB (tOf (eCallB uAll (aCons (eL (nLc (iS (eVar 0)) (.nm 1) tYesB (eCmp uIn (eVar 1) (eC (.str "0123456789"))) (List.map (·.2) ([("sign", 1)] : List (Str × Nat))))) aNil))))) (sRet (eC .none)) sNil)
 (sRet (eIf (tOrB (tCmpB uNe (eBin uIx (eVar 0) (eC (.int 0))) (eC (.str "0"))) (tCmpB uEq (eVar 0) (eC (.str "0")))) (eCallB uIntA (aCons (eVar 0) aNil)) (eC .none))))
def F_number_in : Fn := runF 2 s_number_in
theorem ok_number_in {P : Program} {w : World} {K : PySem.W.Frag} {mg : Str → Option Value} {base : Heap} {CA : Nat → Addr} {f : Addr} {fd : FuncData} (F : Fun K "number_in" "number_in" (topS 8) f fd) (B : Bk P w K mg base CA) :
    FnOk P w K mg base (L2.CX P w) 1 f fd ["text"] (spF CA 1 F_number_in) := mkFn F sc_number_in (fun cdv A outer s0 H E C hr hX =>
  (fs_cons (fs_if (PW.pt (fw_or (ft_not (ft_chain op_le op_le sem_le sem_le (fp_of fe_int) (fp_of (fe_callB call_len sem_len (by rfl) B.n_len PySem.boot_len (fp_cons (fp_of (fe_var 0)) fp_nil))) (fp_of (fe_gint (by rfl) B.c_MOST_DIGITS)))) (pw_or1 (ft_not (ft_val (fe_callB (cr_all hX.calm) sem_all (by rfl) B.n_all (by decide +kernel) (fp_cons (fp_of (fe_new (fn_lc [("sign", 1)] hX (fi_str (fe_var 0)) (blkOk_by (by kernel_rfl)) (fun s H Cc cl fp => (fg_n 1 hX.blk.nd)) (fun s H Cc cl fp _ hX => fts_nil) (fun s H Cc cl fp _ hX => (fe_cmp (op_inF hX.b) sem_in (fp_of (fe_var 1)) (fp_of (fe_gstr (by rfl) B.c_DIGITS)) (by first | rfl | with_unfolding_all rfl)))))) fp_nil))))))) (fs_one (fs_ret fe_non)) fs_nil)
 (fs_one (fs_ret (fe_if (PW.pt (fw_or (ft_cmp (op_neF hX.b) sem_ne (fp_of (fe_ix ix_seq sem_ix (fp_of (fe_var 0)) (fp_of fe_int) (fun _ _ => rfl))) (fp_of fe_str) (nomark _)) (pw_or1 (ft_cmp (op_eqF hX.b) sem_eq (fp_of (fe_var 0)) (fp_of fe_str) (nomark _))))) (fe_callTy call_intAll sem_intA (by rfl) B.n_int (by decide +kernel) (fp_cons (fp_of (fe_var 0)) fp_nil)) fe_non)))))

theorem sc_read_writes : FnScope ["text", "found", "piece", "number"] ["text"] (defScope (topS 9)) := ⟨rfl, rfl, rfl, by decide +kernel, rfl, by decide +kernel, by decide +kernel⟩
def s_read_writes : Ex Fl := (sSeq (sIf (tCmpB uEq (eVar 0) (eC (.str "."))) (sRet (eL (eLst aNil))) sNil)
 (sSeq (sOwn 1 (eLst aNil))
 (sSeq (sFor (iL (eL (nM1 uSplit (eVar 0) (eC (.str " "))))) (.nm 2) [2, 3]
  (sSeq (sSet 3 (eIf (tCmpB uNe (eVar 2) (eC (.str "-"))) (eCall (F_number_in) [] (aCons (eVar 2) aNil)) (eC .none)))
 (sSeq (sIf (tAndB (tCmpB uNe (eVar 2) (eC (.str "-"))) (tOrB (tCmpB uIsN (eVar 3) (eC .none)) (tCmpB uLt (eVar 3) (eC (.int 1))))) (sRaise 3 (eVar 0)) sNil)
 (sMeth 1 mAppend (aCons (eVar 3) aNil)))))
 (sSeq (sFrz 1) (sRet (eVar 1))))))
def F_read_writes : Fn := runF 4 s_read_writes
theorem ok_read_writes {P : Program} {w : World} {K : PySem.W.Frag} {mg : Str → Option Value} {base : Heap} {CA : Nat → Addr} {f : Addr} {fd : FuncData} (F : Fun K "read_writes" "read_writes" (topS 9) f fd) (B : Bk P w K mg base CA)
    (h_number_in : Has P w K mg base 1 "number_in" ["text"] [] (spF CA 1 F_number_in)) :
    FnOk P w K mg base (L2.CX P w) 3 f fd ["text"] (spF CA 1 F_read_writes) := mkFn F sc_read_writes (fun cdv A outer s0 H E C hr hX =>
  (fs_cons (fs_if (ft_cmp (op_eqF hX.b) sem_eq (fp_of (fe_var 0)) (fp_of fe_str) (nomark _)) (fs_one (fs_ret (fe_new (fn_lst fa_nil)))) fs_nil)
 (fs_cons (fs_own 1 hX.b (fn_lst fa_nil))
 (fs_cons (fs_for hX (fi_list (fe_new (fn_m1 PySem.F.slot_str_split PySem.F.type_str_split mt_split sem_splitN (fp_of (fe_var 0)) (fp_of fe_str)))) (fg_n 2 hX.nd) (fun C hX =>
  (fs_cons (fs_set 3 hX.b (fe_if (ft_cmp (op_neF hX.b) sem_ne (fp_of (fe_var 2)) (fp_of fe_str) (nomark _)) (fe_call h_number_in hX (hr.mono (by decide)) (fa_cons (fe_var 2) fa_nil) (alen_cons alen_nil)) fe_non))
 (fs_cons (fs_if (PW.pt (fw_and (ft_cmp (op_neF hX.b) sem_ne (fp_of (fe_var 2)) (fp_of fe_str) (nomark _)) (pw_and1 (PW.pt (fw_or (ft_cmp op_isN sem_isN (fp_of (fe_var 3)) (fp_of fe_non) (nomark _)) (pw_or1 (ft_cmp op_lt sem_lt (fp_of (fe_var 3)) (fp_of fe_int) (nomark _)))))))) (fs_one (fs_raise 3 B.e_Unreadable hX (hr.mono (by decide)) (fe_var 0))) fs_nil)
 (fs_one (fs_append 1 (fa_cons (fe_var 3) fa_nil)))))))
 (fs_frz 1 (fs_one (fs_ret (fe_var 1))))))))

theorem sc_show_writes : FnScope ["writes", "number"] ["writes"] (defScope (topS 11)) := ⟨rfl, rfl, rfl, by decide +kernel, rfl, by decide +kernel, by decide +kernel⟩
def s_show_writes : Ex Fl := (sRet (eIf (tCmpB uGt (eCallB uLen (aCons (eVar 0) aNil)) (eC (.int 0))) (eM1 uJoin (eC (.str " ")) (eL (nLc (iL (eVar 0)) (.nm 1) tYesB (eIf (tCmpB uIsN (eVar 1) (eC .none)) (eC (.str "-")) (eCallB uStr (aCons (eVar 1) aNil))) (List.map (·.2) ([("number", 1)] : List (Str × Nat)))))) (eC (.str "."))))
def F_show_writes : Fn := runF 2 s_show_writes
theorem ok_show_writes {P : Program} {w : World} {K : PySem.W.Frag} {mg : Str → Option Value} {base : Heap} {CA : Nat → Addr} {f : Addr} {fd : FuncData} (F : Fun K "show_writes" "show_writes" (topS 11) f fd) (B : Bk P w K mg base CA) :
    FnOk P w K mg base (L2.CX P w) 1 f fd ["writes"] (spF CA 1 F_show_writes) := mkFn F sc_show_writes (fun cdv A outer s0 H E C hr hX =>
  (fs_one (fs_ret (fe_if (ft_cmp op_gt sem_gt (fp_of (fe_callB call_len sem_len (by rfl) B.n_len PySem.boot_len (fp_cons (fp_of (fe_var 0)) fp_nil))) (fp_of fe_int) (nomark _)) (fe_m1 PySem.F.slot_str_join PySem.F.type_str_join mt_join sem_join (fp_of fe_str) (fp_of (fe_new (fn_lc [("number", 1)] hX (fi_list (fe_var 0)) (blkOk_by (by kernel_rfl)) (fun s H Cc cl fp => (fg_n 1 hX.blk.nd)) (fun s H Cc cl fp _ hX => fts_nil) (fun s H Cc cl fp _ hX => (fe_if (ft_cmp op_isN sem_isN (fp_of (fe_var 1)) (fp_of fe_non) (nomark _)) fe_str (fe_callTy call_strAll sem_str (by rfl) B.n_str (by decide +kernel) (fp_cons (fp_of (fe_var 1)) fp_nil)))))))) fe_str))))

theorem sc__law_purse : FnScope ["_law_script", "_law_place", "_law_cell"] ["_law_script", "_law_place"] (defScope (topS 13)) := ⟨rfl, rfl, rfl, by decide +kernel, rfl, by decide +kernel, by decide +kernel⟩
def s__law_purse : Ex Fl := (sSeq (sSet 2 (eIf (tCmpB uLt (eVar 1) (eCallB uLen (aCons (eVar 0) aNil))) (eBin uIx (eVar 0) (eVar 1)) (eC (.int 0))))
 (sRet (eL (eLst (aCons (eCallB uMax2 (aCons (eC (.int 0)) (aCons (eBin uSub (eCallB uAbs (aCons (eVar 2) aNil)) (eBin uPow (eC (.int 10)) (eC (.int 18)))) aNil))) (aCons (eBin uMod (eCallB uIntA (aCons (eBin uAdd (eBin uAdd (eBin uMul (eVar 2) (eC (.int 30011))) (eBin uMul (eVar 1) (eC (.int 7368787)))) (eC (.int 104729))) aNil)) (eBin uAdd (eBin uPow (eC (.int 10)) (eC (.int 24))) (eC (.int 7)))) (aCons (eC (.int 0)) aNil)))))))
def F__law_purse : Fn := runF 3 s__law_purse
theorem ok__law_purse {P : Program} {w : World} {K : PySem.W.Frag} {mg : Str → Option Value} {base : Heap} {CA : Nat → Addr} {f : Addr} {fd : FuncData} (F : Fun K "_law_purse" "_law_purse" (topS 13) f fd) (B : Bk P w K mg base CA) :
    FnOk P w K mg base (L2.CX P w) 1 f fd ["_law_script", "_law_place"] (spF CA 2 F__law_purse) := mkFn F sc__law_purse (fun cdv A outer s0 H E C hr hX =>
  (fs_cons (fs_set 2 hX.b (fe_if (ft_cmp op_lt sem_lt (fp_of (fe_var 1)) (fp_of (fe_callB call_len sem_len (by rfl) B.n_len PySem.boot_len (fp_cons (fp_of (fe_var 0)) fp_nil))) (nomark _)) (fe_ix ix_seq sem_ix (fp_of (fe_var 0)) (fp_of (fe_var 1)) (fun _ _ => rfl)) fe_int))
 (fs_one (fs_ret (fe_new (fn_lst (fa_cons (fe_callB (call_max2 hX.calm) sem_max2 (by rfl) B.n_max (by decide +kernel) (fp_cons (fp_of fe_int) (fp_cons (fp_of (fe_bin op_sub sem_sub (fp_of (fe_callB call_abs sem_abs (by rfl) B.n_abs (by decide +kernel) (fp_cons (fp_of (fe_var 2)) fp_nil))) (fp_of (fe_bin op_powW sem_pow (fp_of fe_int) (fp_of fe_int))))) fp_nil))) (fa_cons (fe_bin op_mod sem_mod (fp_of (fe_callTy call_intAll sem_intA (by rfl) B.n_int (by decide +kernel) (fp_cons (fp_of (fe_bin op_addAll sem_add (fp_of (fe_bin op_addAll sem_add (fp_of (fe_bin op_mulAll sem_mul (fp_of (fe_var 2)) (fp_of fe_int))) (fp_of (fe_bin op_mulAll sem_mul (fp_of (fe_var 1)) (fp_of fe_int))))) (fp_of fe_int))) fp_nil))) (fp_of (fe_bin op_addAll sem_add (fp_of (fe_bin op_powW sem_pow (fp_of fe_int) (fp_of fe_int))) (fp_of fe_int)))) (fa_cons fe_int fa_nil)))))))))

theorem sc__law_coin : FnScope ["_law_purse_here", "_law_many", "_law_stirred", "_law_drawn"] ["_law_purse_here", "_law_many"] (defScope (topS 14)) := ⟨rfl, rfl, rfl, by decide +kernel, rfl, by decide +kernel, by decide +kernel⟩
def s__law_coin : Ex Fl := (sSeq (sIf (tCmpB uGt (ePur 0 0) (eC (.int 0))) (sSeq (sSet 3 (eBin uMod (eCallB uIntA (aCons (ePur 0 0) aNil)) (eVar 1)))
 (sSeq (sPur 0 0 (eBin uFdiv (ePur 0 0) (eVar 1)))
 (sRet (eVar 3)))) sNil)
 (sSeq (sPur 0 2 (eBin uAdd (ePur 0 2) (eC (.int 1))))
 (sSeq (sSet 2 (eBin uMod (eBin uPow (eCallB uIntA (aCons (eBin uAdd (ePur 0 1) (eBin uMul (eC (.int 2038074743)) (ePur 0 2))) aNil)) (eC (.int 3))) (eBin uAdd (eBin uPow (eC (.int 10)) (eC (.int 25))) (eC (.int 13)))))
 (sSeq (sSet 2 (eBin uMod (eBin uPow (eCallB uIntA (aCons (eBin uAdd (eVar 2) (eBin uMul (eC (.int 982451653)) (ePur 0 2))) aNil)) (eC (.int 2))) (eBin uAdd (eBin uPow (eC (.int 10)) (eC (.int 24))) (eC (.int 7)))))
 (sRet (eBin uMod (eCallB uIntA (aCons (eBin uFdiv (eVar 2) (eC (.int 1024))) aNil)) (eVar 1)))))))
def F__law_coin : Fn := runF 4 s__law_coin
theorem ok__law_coin {P : Program} {w : World} {K : PySem.W.Frag} {mg : Str → Option Value} {base : Heap} {CA : Nat → Addr} {f : Addr} {fd : FuncData} (F : Fun K "_law_coin" "_law_coin" (topS 14) f fd) (B : Bk P w K mg base CA) :
    FnOk P w K mg base (L2.CX P w) 1 f fd ["_law_purse_here", "_law_many"] (spF CA 2 F__law_coin) := mkFn F sc__law_coin (fun cdv A outer s0 H E C hr hX =>
  (fs_cons (fs_if (ft_cmp op_gt sem_gt (fp_of (fe_pur 0 0)) (fp_of fe_int) (nomark _)) (fs_cons (fs_set 3 hX.b (fe_bin op_mod sem_mod (fp_of (fe_callTy call_intAll sem_intA (by rfl) B.n_int (by decide +kernel) (fp_cons (fp_of (fe_pur 0 0)) fp_nil))) (fp_of (fe_var 1))))
 (fs_cons (fs_pur 0 0 (fe_bin op_fdivW sem_fdiv (fp_of (fe_pur 0 0)) (fp_of (fe_var 1))))
 (fs_one (fs_ret (fe_var 3))))) fs_nil)
 (fs_cons (fs_pur 0 2 (fe_bin op_addAll sem_add (fp_of (fe_pur 0 2)) (fp_of fe_int)))
 (fs_cons (fs_set 2 hX.b (fe_bin op_mod sem_mod (fp_of (fe_bin op_powW sem_pow (fp_of (fe_callTy call_intAll sem_intA (by rfl) B.n_int (by decide +kernel) (fp_cons (fp_of (fe_bin op_addAll sem_add (fp_of (fe_pur 0 1)) (fp_of (fe_bin op_mulAll sem_mul (fp_of fe_int) (fp_of (fe_pur 0 2)))))) fp_nil))) (fp_of fe_int))) (fp_of (fe_bin op_addAll sem_add (fp_of (fe_bin op_powW sem_pow (fp_of fe_int) (fp_of fe_int))) (fp_of fe_int)))))
 (fs_cons (fs_set 2 hX.b (fe_bin op_mod sem_mod (fp_of (fe_bin op_powW sem_pow (fp_of (fe_callTy call_intAll sem_intA (by rfl) B.n_int (by decide +kernel) (fp_cons (fp_of (fe_bin op_addAll sem_add (fp_of (fe_var 2)) (fp_of (fe_bin op_mulAll sem_mul (fp_of fe_int) (fp_of (fe_pur 0 2)))))) fp_nil))) (fp_of fe_int))) (fp_of (fe_bin op_addAll sem_add (fp_of (fe_bin op_powW sem_pow (fp_of fe_int) (fp_of fe_int))) (fp_of fe_int)))))
 (fs_one (fs_ret (fe_bin op_mod sem_mod (fp_of (fe_callTy call_intAll sem_intA (by rfl) B.n_int (by decide +kernel) (fp_cons (fp_of (fe_bin op_fdivW sem_fdiv (fp_of (fe_var 2)) (fp_of fe_int))) fp_nil))) (fp_of (fe_var 1))))))))))

theorem sc__law_drawn_writes : FnScope ["_law_purse_here", "_law_most", "_law_turn", "_law_found", "_law_great", "_law_mode", "_law_number"] ["_law_purse_here", "_law_most"] (defScope (topS 15)) := ⟨rfl, rfl, rfl, by decide +kernel, rfl, by decide +kernel, by decide +kernel⟩
def s__law_drawn_writes : Ex Fl := (sSeq (sPar3 3 4 5 (qConsN (eLst aNil) (qCons (eC (.int 0)) (qCons (eCallR (F__law_coin) [] (rConsR 0 (rCons (eC (.int 4)) rNil))) qNil))))
 (sSeq (sFor (iR1 (aCons (eCallR (F__law_coin) [] (rConsR 0 (rCons (eBin uAdd (eVar 1) (eC (.int 1))) rNil))) aNil)) (.nm 2) [2, 6]
  (sSeq (sSet 6 (eBin uAdd (eC (.int 1)) (eCallR (F__law_coin) [] (rConsR 0 (rCons (eBin uAdd (eVar 4) (eC (.int 1))) rNil)))))
 (sSeq (sIf (tAndB (tCmpB uEq (eVar 5) (eC (.int 1))) (tCmpB uGt (eCallR (F__law_coin) [] (rConsR 0 (rCons (eC (.int 4)) rNil))) (eC (.int 0)))) (sSet 6 (eBin uAdd (eVar 4) (eC (.int 1)))) sNil)
 (sSeq (sIf (tAndB (tCmpB uEq (eVar 5) (eC (.int 2))) (tAndB (tCmpB uNe (ePeek 3) (eL (eLst aNil))) (tCmpB uGt (eCallR (F__law_coin) [] (rConsR 0 (rCons (eC (.int 3)) rNil))) (eC (.int 0))))) (sSet 6 (eBin uAdd (eBin uIx (ePeek 3) (eUn uNeg (eC (.int 1)))) (eC (.int 1)))) sNil)
 (sSeq (sIf (tAndB (tCmpB uEq (eVar 5) (eC (.int 3))) (tCmpB uEq (eCallR (F__law_coin) [] (rConsR 0 (rCons (eC (.int 2)) rNil))) (eC (.int 0)))) (sSet 6 (eC (.int 1))) sNil)
 (sSeq (sMeth 3 mAppend (aCons (eVar 6) aNil))
 (sSet 4 (eCallB uMax2 (aCons (eVar 4) (aCons (eVar 6) aNil))))))))))
 (sRetO 3)))
def F__law_drawn_writes : Fn := runO 7 s__law_drawn_writes
theorem ok__law_drawn_writes {P : Program} {w : World} {K : PySem.W.Frag} {mg : Str → Option Value} {base : Heap} {CA : Nat → Addr} {f : Addr} {fd : FuncData} (F : Fun K "_law_drawn_writes" "_law_drawn_writes" (topS 15) f fd) (B : Bk P w K mg base CA)
    (h__law_coin : Has P w K mg base 1 "_law_coin" ["_law_purse_here", "_law_many"] [] (spF CA 2 F__law_coin)) :
    FnOk P w K mg base (L2.CX P w) 2 f fd ["_law_purse_here", "_law_most"] (spO CA 2 F__law_drawn_writes) := mkFnO F sc__law_drawn_writes (fun cdv A outer s0 H E C hr hX =>
  (fs_cons (fs_par3 3 4 5 hX (fq_consN (fn_lst fa_nil) (fq_cons fe_int (fq_cons (fe_callR h__law_coin hX (hr.mono (by decide)) (fr_consR 0 (fr_cons fe_int fr_nil)) (rlen_consR (rlen_cons rlen_nil))) fq_nil))))
 (fs_cons (fs_for hX (fi_range1 (by rfl) B.n_range (fp_cons (fp_of (fe_callR h__law_coin hX (hr.mono (by decide)) (fr_consR 0 (fr_cons (fe_bin op_addAll sem_add (fp_of (fe_var 1)) (fp_of fe_int)) fr_nil)) (rlen_consR (rlen_cons rlen_nil)))) fp_nil)) (fg_n 2 hX.nd) (fun C hX =>
  (fs_cons (fs_set 6 hX.b (fe_bin op_addAll sem_add (fp_of fe_int) (fp_of (fe_callR h__law_coin hX (hr.mono (by decide)) (fr_consR 0 (fr_cons (fe_bin op_addAll sem_add (fp_of (fe_var 4)) (fp_of fe_int)) fr_nil)) (rlen_consR (rlen_cons rlen_nil))))))
 (fs_cons (fs_if (PW.pt (fw_and (ft_cmp (op_eqF hX.b) sem_eq (fp_of (fe_var 5)) (fp_of fe_int) (nomark _)) (pw_and1 (ft_cmp op_gt sem_gt (fp_of (fe_callR h__law_coin hX (hr.mono (by decide)) (fr_consR 0 (fr_cons fe_int fr_nil)) (rlen_consR (rlen_cons rlen_nil)))) (fp_of fe_int) (nomark _))))) (fs_one (fs_set 6 hX.b (fe_bin op_addAll sem_add (fp_of (fe_var 4)) (fp_of fe_int)))) fs_nil)
 (fs_cons (fs_if (PW.pt (fw_and (ft_cmp (op_eqF hX.b) sem_eq (fp_of (fe_var 5)) (fp_of fe_int) (nomark _)) (fw_and (ft_cmp (op_neF hX.b) sem_ne (fp_var 3) (fp_of (fe_new (fn_lst fa_nil))) (nomark _)) (pw_and1 (ft_cmp op_gt sem_gt (fp_of (fe_callR h__law_coin hX (hr.mono (by decide)) (fr_consR 0 (fr_cons fe_int fr_nil)) (rlen_consR (rlen_cons rlen_nil)))) (fp_of fe_int) (nomark _)))))) (fs_one (fs_set 6 hX.b (fe_bin op_addAll sem_add (fp_of (fe_ix ix_seq sem_ix (fp_var 3) (fp_of (fe_un un_neg sem_neg (fp_of fe_int))) (fun _ _ => rfl))) (fp_of fe_int)))) fs_nil)
 (fs_cons (fs_if (PW.pt (fw_and (ft_cmp (op_eqF hX.b) sem_eq (fp_of (fe_var 5)) (fp_of fe_int) (nomark _)) (pw_and1 (ft_cmp (op_eqF hX.b) sem_eq (fp_of (fe_callR h__law_coin hX (hr.mono (by decide)) (fr_consR 0 (fr_cons fe_int fr_nil)) (rlen_consR (rlen_cons rlen_nil)))) (fp_of fe_int) (nomark _))))) (fs_one (fs_set 6 hX.b fe_int)) fs_nil)
 (fs_cons (fs_append 3 (fa_cons (fe_var 6) fa_nil))
 (fs_one (fs_set 4 hX.b (fe_callB (call_max2 hX.calm) sem_max2 (by rfl) B.n_max (by decide +kernel) (fp_cons (fp_of (fe_var 4)) (fp_cons (fp_of (fe_var 6)) fp_nil))))))))))))
 (fs_one (fs_retO 3)))))

theorem sc__law_number_of : FnScope ["_law_piece", "_law_strange", "_law_sign"] ["_law_piece"] (defScope (topS 16)) := ⟨rfl, rfl, rfl, by decide +kernel, rfl, by decide +kernel, by decide +kernel⟩
def s__law_number_of : Ex Fl := (sSeq (sOwn 1 (nLc (iS (eVar 0)) (.nm 2) (tCmpB uNotIn (eVar 2) (eC (.str "0123456789"))) (eVar 2) (List.map (·.2) ([("_law_sign", 2)] : List (Str × Nat)))))
 (sSeq (sFrz 1) (sSeq (sIf (tOrB (tNotB (eChain uLt uLt (eC (.int 0)) (eCallB uLen (aCons (eVar 0) aNil)) (eC (.int 10)))) (tCmpB uNe (eVar 1) (eL (eLst aNil)))) (sRet (eUn uNeg (eC (.int 1)))) sNil)
 (sRet (eIf (tCmpB uEq (eCallB uStr (aCons (eCallB uIntA (aCons (eVar 0) aNil)) aNil)) (eVar 0)) (eCallB uIntA (aCons (eVar 0) aNil)) (eUn uNeg (eC (.int 1))))))))
def F__law_number_of : Fn := runF 3 s__law_number_of
theorem ok__law_number_of {P : Program} {w : World} {K : PySem.W.Frag} {mg : Str → Option Value} {base : Heap} {CA : Nat → Addr} {f : Addr} {fd : FuncData} (F : Fun K "_law_number_of" "_law_number_of" (topS 16) f fd) (B : Bk P w K mg base CA) :
    FnOk P w K mg base (L2.CX P w) 1 f fd ["_law_piece"] (spF CA 1 F__law_number_of) := mkFn F sc__law_number_of (fun cdv A outer s0 H E C hr hX =>
  (fs_cons (fs_setLc 1 [("_law_sign", 2)] hX (fi_str (fe_var 0)) (blkOk_by (by kernel_rfl)) (fun s H Cc cl fp => (fg_n 2 hX.blk.nd)) (fun s H Cc cl fp _ hX => (fts_one (ft_cmp (op_notInF hX.b) sem_notIn (fp_of (fe_var 2)) (fp_of fe_str) (by first | rfl | with_unfolding_all rfl)))) (fun s H Cc cl fp _ hX => (fe_var 2)))
 (fs_frz 1 (fs_cons (fs_if (PW.pt (fw_or (ft_not (ft_chain op_lt op_lt sem_lt sem_lt (fp_of fe_int) (fp_of (fe_callB call_len sem_len (by rfl) B.n_len PySem.boot_len (fp_cons (fp_of (fe_var 0)) fp_nil))) (fp_of fe_int))) (pw_or1 (ft_cmp (op_neF hX.b) sem_ne (fp_of (fe_var 1)) (fp_of (fe_new (fn_lst fa_nil))) (nomark _))))) (fs_one (fs_ret (fe_un un_neg sem_neg (fp_of fe_int)))) fs_nil)
 (fs_one (fs_ret (fe_if (ft_cmp (op_eqF hX.b) sem_eq (fp_of (fe_callTy call_strAll sem_str (by rfl) B.n_str (by decide +kernel) (fp_cons (fp_of (fe_callTy call_intAll sem_intA (by rfl) B.n_int (by decide +kernel) (fp_cons (fp_of (fe_var 0)) fp_nil))) fp_nil))) (fp_of (fe_var 0)) (nomark _)) (fe_callTy call_intAll sem_intA (by rfl) B.n_int (by decide +kernel) (fp_cons (fp_of (fe_var 0)) fp_nil)) (fe_un un_neg sem_neg (fp_of fe_int)))))))))

theorem sc__law_writes_of : FnScope ["_law_wording", "_law_found", "_law_piece"] ["_law_wording"] (defScope (topS 17)) := ⟨rfl, rfl, rfl, by decide +kernel, rfl, by decide +kernel, by decide +kernel⟩
def s__law_writes_of : Ex Fl := (sSeq (sIf (tCmpB uEq (eVar 0) (eC (.str "."))) (sRet (eL (eLst (aCons (eL (eLst aNil)) aNil)))) sNil)
 (sSeq (sOwn 1 (eLst aNil))
 (sSeq (sFor (iL (eL (nM1 uSplit (eVar 0) (eC (.str " "))))) (.nm 2) [2]
  (sIf (tCmpB uEq (eVar 2) (eC (.str "-"))) (sMeth 1 mAppend (aCons (eC .none) aNil)) (sIf (tCmpB uGt (eCall (F__law_number_of) [] (aCons (eVar 2) aNil)) (eC (.int 0))) (sMeth 1 mAppend (aCons (eCallB uIntA (aCons (eVar 2) aNil)) aNil)) (sRet (eL (eLst aNil))))))
 (sSeq (sFrz 1) (sRet (eL (eLst (aCons (eVar 1) aNil))))))))
def F__law_writes_of : Fn := runF 3 s__law_writes_of
theorem ok__law_writes_of {P : Program} {w : World} {K : PySem.W.Frag} {mg : Str → Option Value} {base : Heap} {CA : Nat → Addr} {f : Addr} {fd : FuncData} (F : Fun K "_law_writes_of" "_law_writes_of" (topS 17) f fd) (B : Bk P w K mg base CA)
    (h__law_number_of : Has P w K mg base 1 "_law_number_of" ["_law_piece"] [] (spF CA 1 F__law_number_of)) :
    FnOk P w K mg base (L2.CX P w) 2 f fd ["_law_wording"] (spF CA 1 F__law_writes_of) := mkFn F sc__law_writes_of (fun cdv A outer s0 H E C hr hX =>
  (fs_cons (fs_if (ft_cmp (op_eqF hX.b) sem_eq (fp_of (fe_var 0)) (fp_of fe_str) (nomark _)) (fs_one (fs_ret (fe_new (fn_lst (fa_cons (fe_new (fn_lst fa_nil)) fa_nil))))) fs_nil)
 (fs_cons (fs_own 1 hX.b (fn_lst fa_nil))
 (fs_cons (fs_for hX (fi_list (fe_new (fn_m1 PySem.F.slot_str_split PySem.F.type_str_split mt_split sem_splitN (fp_of (fe_var 0)) (fp_of fe_str)))) (fg_n 2 hX.nd) (fun C hX =>
  (fs_one (fs_if (ft_cmp (op_eqF hX.b) sem_eq (fp_of (fe_var 2)) (fp_of fe_str) (nomark _)) (fs_one (fs_append 1 (fa_cons fe_non fa_nil))) (fs_one (fs_if (ft_cmp op_gt sem_gt (fp_of (fe_call h__law_number_of hX (hr.mono (by decide)) (fa_cons (fe_var 2) fa_nil) (alen_cons alen_nil))) (fp_of fe_int) (nomark _)) (fs_one (fs_append 1 (fa_cons (fe_callTy call_intAll sem_intA (by rfl) B.n_int (by decide +kernel) (fp_cons (fp_of (fe_var 2)) fp_nil)) fa_nil))) (fs_one (fs_ret (fe_new (fn_lst fa_nil))))))))))
 (fs_frz 1 (fs_one (fs_ret (fe_new (fn_lst (fa_cons (fe_var 1) fa_nil))))))))))

theorem sc__law_caught_writes : FnScope ["_law_wording", "_law_way", "_law_found", "e", "_law_again", "_law_odd"] ["_law_wording", "_law_way"] (defScope (topS 18)) := ⟨rfl, rfl, rfl, by decide +kernel, rfl, by decide +kernel, by decide +kernel⟩
def s__law_caught_writes : Ex Fl := (sSeq (sSet 2 (eL (eLst aNil)))
 (sSeq (sTry caught [2, 4]
 (sSeq (sSet 4 (eIf (tCmpB uEq (eVar 1) (eC (.int 0))) (eCall (F_read_writes) [] (aCons (eVar 0) aNil)) (eCallK (F_read_writes) [0] aNil (aCons (eVar 0) aNil))))
 (sSet 2 (eIf (tCmpB uEq (eCall (F_show_writes) [] (aCons (eVar 4) aNil)) (eVar 0)) (eL (eLst (aCons (eVar 4) aNil))) (eL (eLst (aCons (eC (.str "other")) aNil)))))) 3
 (sSeq (sSet 5 (eOrV (eIsX 3 is_InvalidNumber_NotPossible) (eNotV (eIsX 3 is_Unreadable))))
 (sSet 2 (eIf (tOrB (tOf (eVar 5)) (tCmpB uNe (eXv 3) (eVar 0))) (eL (eLst (aCons (eC (.str "odd")) aNil))) (eL (eLst aNil))))))
 (sRet (eVar 2))))
def F__law_caught_writes : Fn := runF 6 s__law_caught_writes
theorem ok__law_caught_writes {P : Program} {w : World} {K : PySem.W.Frag} {mg : Str → Option Value} {base : Heap} {CA : Nat → Addr} {f : Addr} {fd : FuncData} (F : Fun K "_law_caught_writes" "_law_caught_writes" (topS 18) f fd) (B : Bk P w K mg base CA)
    (h_read_writes : Has P w K mg base 3 "read_writes" ["text"] [] (spF CA 1 F_read_writes))
    (h_read_writes_k0 : HasK P w K mg base 3 "read_writes" ["text"] 0 ["text"] [0] (spF CA 1 F_read_writes))
    (h_show_writes : Has P w K mg base 1 "show_writes" ["writes"] [] (spF CA 1 F_show_writes)) :
    FnOk P w K mg base (L2.CX P w) 4 f fd ["_law_wording", "_law_way"] (spF CA 2 F__law_caught_writes) := mkFn F sc__law_caught_writes (fun cdv A outer s0 H E C hr hX =>
  (fs_cons (fs_set 2 hX.b (fe_new (fn_lst fa_nil)))
 (fs_cons (fs_try caught [2, 4] 3 hX rfl rfl rfl ⟨rfl, by decide, .inl B.g_TallyError⟩ (fun c h => B.cau h) (fun pn xe C hX =>
 (fs_cons (fs_set 4 hX.b (fe_if (ft_cmp (op_eqF hX.b) sem_eq (fp_of (fe_var 1)) (fp_of fe_int) (nomark _)) (fe_call h_read_writes hX (hr.mono (by decide)) (fa_cons (fe_var 0) fa_nil) (alen_cons alen_nil)) (fe_callK0 h_read_writes_k0 hX (hr.mono (by decide)) (fk_cons (fe_var 0) fk_nil) (alen_cons alen_nil))))
 (fs_one (fs_set 2 hX.b (fe_if (ft_cmp (op_eqF hX.b) sem_eq (fp_of (fe_call h_show_writes hX (hr.mono (by decide)) (fa_cons (fe_var 4) fa_nil) (alen_cons alen_nil))) (fp_of (fe_var 0)) (nomark _)) (fe_new (fn_lst (fa_cons (fe_var 4) fa_nil))) (fe_new (fn_lst (fa_cons fe_str fa_nil)))))))) (fun a oe pn dd c C hc hh hS =>
 (fs_cons (fs_set 5 hS (fe_or (fe_isX2 3 is_InvalidNumber_NotPossible hh (B.xc hc) B.g_InvalidNumber B.g_NotPossible (B.k_InvalidNumber_NotPossible hc) B.n_isinstance) (pe_one (fe_not (fe_isX 3 is_Unreadable hh (B.xc hc) B.g_Unreadable (B.k_Unreadable hc) B.n_isinstance)))))
 (fs_one (fs_set 2 hS (fe_if (PW.pt (fw_or (ft_val (fe_var 5)) (pw_or1 (ft_cmp (op_neF hS) sem_ne (fp_of (fe_xval 3 hh (B.noval hc) (B.xf hc))) (fp_of (fe_var 0)) (nomark _))))) (fe_new (fn_lst (fa_cons fe_str fa_nil))) (fe_new (fn_lst fa_nil))))))))
 (fs_one (fs_ret (fe_var 2))))))

theorem sc__law_odd_writes : FnScope ["_law_purse_here", "_law_wording", "_law_menu", "_law_many", "_law_spot"] ["_law_purse_here", "_law_wording"] (defScope (topS 19)) := ⟨rfl, rfl, rfl, by decide +kernel, rfl, by decide +kernel, by decide +kernel⟩
def s__law_odd_writes : Ex Fl := (sSeq (sSet 2 (eL (eLst (aCons (eC (.str "")) (aCons (eC (.str " ")) (aCons (eC (.str ".")) (aCons (eC (.str "..")) (aCons (eC (.str ". ")) (aCons (eC (.str " .")) (aCons (eC (.str ". 1")) (aCons (eC (.str "-")) (aCons (eC (.str "--")) (aCons (eC (.str "- -")) (aCons (eC (.str "-1")) (aCons (eC (.str "0")) (aCons (eC (.str "1")) (aCons (eC (.str "01")) aNil)))))))))))))))))
 (sSeq (sSet 2 (eBin uAdd (eVar 2) (eL (eLst (aCons (eC (.str "1 0")) (aCons (eC (.str "1 2")) (aCons (eC (.str "1  2")) (aCons (eC (.str "1 2 ")) (aCons (eC (.str " 1 2")) (aCons (eC (.str "1,2")) (aCons (eC (.str "1.2")) (aCons (eC (.str "1 -")) (aCons (eC (.str "- 1")) (aCons (eC (.str "1 - 2")) (aCons (eC (.str "1-2")) aNil)))))))))))))))
 (sSeq (sSet 2 (eBin uAdd (eVar 2) (eL (eLst (aCons (eC (.str "1 a")) (aCons (eC (.str "a")) (aCons (eC (.str "1 2 1 3")) (aCons (eC (.str "1 999999999")) (aCons (eC (.str "1 1000000000")) (aCons (eC (.str "1000000000")) aNil))))))))))
 (sSeq (sSet 2 (eBin uAdd (eVar 2) (eL (eLst (aCons (eC (.str "999999999 999999999")) (aCons (eC (.str "1 +2")) (aCons (eC (.str "1 2_0")) (aCons (eC (.str "9")) (aCons (eC (.str "1 3 9")) (aCons (eC (.str "1 --")) (aCons (eC (.str "1 - - 2")) (aCons (eC (.str "None")) aNil))))))))))))
 (sSeq (sSet 2 (eBin uAdd (eVar 2) (eL (eLst (aCons (eUn (uRepl "	" "") (eC (.str "1	2"))) aNil)))))
 (sSeq (sSet 3 (eBin uAdd (eC (.int 1)) (eCallR (F__law_coin) [] (rConsR 0 (rCons (eC (.int 400)) rNil)))))
 (sSeq (sSet 2 (eBin uAdd (eVar 2) (eL (eLst (aCons (eM1 uJoin (eC (.str " ")) (eBin uMul (eL (eLst (aCons (eC (.str "1")) aNil))) (eVar 3))) (aCons (eBin uAdd (eM1 uJoin (eC (.str " ")) (eBin uMul (eL (eLst (aCons (eC (.str "1")) aNil))) (eVar 3))) (eC (.str " "))) (aCons (eM1 uJoin (eC (.str " ")) (eBin uMul (eL (eLst (aCons (eC (.str "-")) aNil))) (eVar 3))) aNil)))))))
 (sSeq (sSet 2 (eBin uAdd (eVar 2) (eL (eLst (aCons (eBin uMul (eC (.str "1")) (eVar 3)) (aCons (eM1 uJoin (eC (.str " ")) (eL (nLc (iR2 (aCons (eC (.int 1)) (aCons (eBin uAdd (eVar 3) (eC (.int 1))) aNil))) (.nm 4) tYesB (eCallB uStr (aCons (eVar 4) aNil)) (List.map (·.2) ([("_law_spot", 4)] : List (Str × Nat)))))) aNil))))))
 (sSeq (sSet 2 (eBin uAdd (eVar 2) (eL (eLst (aCons (eBin uAdd (eVar 1) (eC (.str " 0"))) (aCons (eBin uAdd (eVar 1) (eC (.str " -"))) (aCons (eBin uAdd (eVar 1) (eC (.str " "))) (aCons (eUn (uRepl " " "") (eVar 1)) aNil))))))))
 (sSeq (sSet 2 (eBin uAdd (eVar 2) (eL (eLst (aCons (eUn (uRepl " " "  ") (eVar 1)) (aCons (eUn (uRepl "-" "") (eVar 1)) (aCons (eUn uRevS (eVar 1)) aNil)))))))
 (sRet (eBin uIx (eVar 2) (eCallR (F__law_coin) [] (rConsR 0 (rCons (eCallB uLen (aCons (eVar 2) aNil)) rNil)))))))))))))))
def F__law_odd_writes : Fn := runF 5 s__law_odd_writes
theorem ok__law_odd_writes {P : Program} {w : World} {K : PySem.W.Frag} {mg : Str → Option Value} {base : Heap} {CA : Nat → Addr} {f : Addr} {fd : FuncData} (F : Fun K "_law_odd_writes" "_law_odd_writes" (topS 19) f fd) (B : Bk P w K mg base CA)
    (h__law_coin : Has P w K mg base 1 "_law_coin" ["_law_purse_here", "_law_many"] [] (spF CA 2 F__law_coin)) :
    FnOk P w K mg base (L2.CX P w) 2 f fd ["_law_purse_here", "_law_wording"] (spF CA 2 F__law_odd_writes) := mkFnT F sc__law_odd_writes (by decide +kernel) (by decide) (fun cdv A outer s0 H E C hr hX =>
  (gs_cons (gs_of (fs_set 2 hX.b (fe_new (fn_lst (fa_cons fe_str (fa_cons fe_str (fa_cons fe_str (fa_cons fe_str (fa_cons fe_str (fa_cons fe_str (fa_cons fe_str (fa_cons fe_str (fa_cons fe_str (fa_cons fe_str (fa_cons fe_str (fa_cons fe_str (fa_cons fe_str (fa_cons fe_str fa_nil))))))))))))))))))
 (gs_cons (gs_of (fs_set 2 hX.b (fe_bin op_addAll sem_add (fp_of (fe_var 2)) (fp_of (fe_new (fn_lst (fa_cons fe_str (fa_cons fe_str (fa_cons fe_str (fa_cons fe_str (fa_cons fe_str (fa_cons fe_str (fa_cons fe_str (fa_cons fe_str (fa_cons fe_str (fa_cons fe_str (fa_cons fe_str fa_nil)))))))))))))))))
 (gs_cons (gs_of (fs_set 2 hX.b (fe_bin op_addAll sem_add (fp_of (fe_var 2)) (fp_of (fe_new (fn_lst (fa_cons fe_str (fa_cons fe_str (fa_cons fe_str (fa_cons fe_str (fa_cons fe_str (fa_cons fe_str fa_nil))))))))))))
 (gs_cons (gs_of (fs_set 2 hX.b (fe_bin op_addAll sem_add (fp_of (fe_var 2)) (fp_of (fe_new (fn_lst (fa_cons fe_str (fa_cons fe_str (fa_cons fe_str (fa_cons fe_str (fa_cons fe_str (fa_cons fe_str (fa_cons fe_str (fa_cons fe_str fa_nil))))))))))))))
 (gs_cons (gs_set 2 hX.b (gt_bin op_addAll sem_add (gt_p (gt_of (fe_var 2))) (gt_p (gt_lst (ga_cons (gt_repl (fp_of fe_str)) ga_nil)))))
 (gs_cons (gs_of (fs_set 3 hX.b (fe_bin op_addAll sem_add (fp_of fe_int) (fp_of (fe_callR h__law_coin hX (hr.mono (by decide)) (fr_consR 0 (fr_cons fe_int fr_nil)) (rlen_consR (rlen_cons rlen_nil)))))))
 (gs_cons (gs_of (fs_set 2 hX.b (fe_bin op_addAll sem_add (fp_of (fe_var 2)) (fp_of (fe_new (fn_lst (fa_cons (fe_m1 PySem.F.slot_str_join PySem.F.type_str_join mt_join sem_join (fp_of fe_str) (fp_of (fe_bin op_mulAll sem_mul (fp_of (fe_new (fn_lst (fa_cons fe_str fa_nil)))) (fp_of (fe_var 3))))) (fa_cons (fe_bin op_addAll sem_add (fp_of (fe_m1 PySem.F.slot_str_join PySem.F.type_str_join mt_join sem_join (fp_of fe_str) (fp_of (fe_bin op_mulAll sem_mul (fp_of (fe_new (fn_lst (fa_cons fe_str fa_nil)))) (fp_of (fe_var 3)))))) (fp_of fe_str)) (fa_cons (fe_m1 PySem.F.slot_str_join PySem.F.type_str_join mt_join sem_join (fp_of fe_str) (fp_of (fe_bin op_mulAll sem_mul (fp_of (fe_new (fn_lst (fa_cons fe_str fa_nil)))) (fp_of (fe_var 3))))) fa_nil)))))))))
 (gs_cons (gs_of (fs_set 2 hX.b (fe_bin op_addAll sem_add (fp_of (fe_var 2)) (fp_of (fe_new (fn_lst (fa_cons (fe_bin op_mulAll sem_mul (fp_of fe_str) (fp_of (fe_var 3))) (fa_cons (fe_m1 PySem.F.slot_str_join PySem.F.type_str_join mt_join sem_join (fp_of fe_str) (fp_of (fe_new (fn_lc [("_law_spot", 4)] hX (fi_range2 (by rfl) B.n_range (fp_cons (fp_of fe_int) (fp_cons (fp_of (fe_bin op_addAll sem_add (fp_of (fe_var 3)) (fp_of fe_int))) fp_nil))) (blkOk_by (by kernel_rfl)) (fun s H Cc cl fp => (fg_n 4 hX.blk.nd)) (fun s H Cc cl fp _ hX => fts_nil) (fun s H Cc cl fp _ hX => (fe_callTy call_strAll sem_str (by rfl) B.n_str (by decide +kernel) (fp_cons (fp_of (fe_var 4)) fp_nil))))))) fa_nil))))))))
 (gs_cons (gs_set 2 hX.b (gt_bin op_addAll sem_add (gt_p (gt_of (fe_var 2))) (gt_p (gt_lst (ga_cons (gt_of (fe_bin op_addAll sem_add (fp_of (fe_var 1)) (fp_of fe_str))) (ga_cons (gt_of (fe_bin op_addAll sem_add (fp_of (fe_var 1)) (fp_of fe_str))) (ga_cons (gt_of (fe_bin op_addAll sem_add (fp_of (fe_var 1)) (fp_of fe_str))) (ga_cons (gt_repl (fp_of (fe_var 1))) ga_nil))))))))
 (gs_cons (gs_set 2 hX.b (gt_bin op_addAll sem_add (gt_p (gt_of (fe_var 2))) (gt_p (gt_lst (ga_cons (gt_repl (fp_of (fe_var 1))) (ga_cons (gt_repl (fp_of (fe_var 1))) (ga_cons (gt_of (fe_revS (fp_of (fe_var 1)))) ga_nil)))))))
 (gss_of (fs_one (fs_ret (fe_ix ix_seq sem_ix (fp_of (fe_var 2)) (fp_of (fe_callR h__law_coin hX (hr.mono (by decide)) (fr_consR 0 (fr_cons (fe_callB call_len sem_len (by rfl) B.n_len PySem.boot_len (fp_cons (fp_of (fe_var 2)) fp_nil)) fr_nil)) (rlen_consR (rlen_cons rlen_nil)))) (fun _ _ => rfl))))))))))))))))

theorem sc__law_marred_writes : FnScope ["_law_purse_here", "_law_wording", "_law_wide", "_law_signs", "_law_sign", "_law_spot", "_law_way", "_law_between", "_law_pieces", "_law_piece", "_law_left", "_law_right_here"] ["_law_purse_here", "_law_wording"] (defScope (topS 20)) := ⟨rfl, rfl, rfl, by decide +kernel, rfl, by decide +kernel, by decide +kernel⟩
def s__law_marred_writes : Ex Fl := (sSeq (sPar2 5 6 (qCons (eCallR (F__law_coin) [] (rConsR 0 (rCons (eBin uAdd (eCallB uLen (aCons (eVar 1) aNil)) (eC (.int 1))) rNil))) (qCons (eCallR (F__law_coin) [] (rConsR 0 (rCons (eC (.int 8)) rNil))) qNil)))
 (sSeq (sSet 2 (eC (.str "ABCDEFGHIJKLMNOPQRSTUVWXYZ0123456789abcdefghijklmnopqrstuvwxyz !#$&'()*+,-./:;<=>?\x40[]^_`{|}~\"\\")))
 (sSeq (sSet 3 (eBin uIx (eL (eLst (aCons (eC (.str "1 -203")) (aCons (eVar 2) aNil)))) (eCallR (F__law_coin) [] (rConsR 0 (rCons (eC (.int 2)) rNil)))))
 (sSeq (sSet 4 (eBin uIx (eVar 3) (eCallR (F__law_coin) [] (rConsR 0 (rCons (eCallB uLen (aCons (eVar 3) aNil)) rNil)))))
 (sSeq (sIf (tCmpB uEq (eVar 6) (eC (.int 0))) (sRet (eBin uAdd (eBin uAdd (eSl (eVar 1) pNone (pSome (eVar 5))) (eVar 4)) (eSl (eVar 1) (pSome (eVar 5)) pNone))) sNil)
 (sSeq (sIf (tCmpB uEq (eVar 6) (eC (.int 1))) (sRet (eBin uAdd (eSl (eVar 1) pNone (pSome (eVar 5))) (eSl (eVar 1) (pSome (eBin uAdd (eVar 5) (eC (.int 1)))) pNone))) sNil)
 (sSeq (sIf (tCmpB uEq (eVar 6) (eC (.int 2))) (sRet (eBin uAdd (eBin uAdd (eSl (eVar 1) pNone (pSome (eVar 5))) (eVar 4)) (eSl (eVar 1) (pSome (eBin uAdd (eVar 5) (eC (.int 1)))) pNone))) sNil)
 (sSeq (sIf (tCmpB uEq (eVar 6) (eC (.int 3))) (sRet (eCallR (F__law_odd_writes) [] (rConsR 0 (rCons (eVar 1) rNil)))) sNil)
 (sSeq (sIf (tCmpB uIn (eVar 6) (eTup (aCons (eC (.int 4)) (aCons (eC (.int 5)) aNil)))) (sSeq (sSet 7 (eBin uIx (eL (eLst (aCons (eC (.str " ")) (aCons (eC (.str "-")) aNil)))) (eBin uSub (eVar 6) (eC (.int 4)))))
 (sSeq (sOwn 8 (nM1 uSplit (eVar 1) (eVar 7)))
 (sSeq (sPar2 10 11 (qCons (eCallR (F__law_coin) [] (rConsR 0 (rCons (eCallB uLen (aCons (ePeek 8) aNil)) rNil))) (qCons (eCallR (F__law_coin) [] (rConsR 0 (rCons (eCallB uLen (aCons (ePeek 8) aNil)) rNil))) qNil)))
 (sSeq (sSet 9 (eBin uIx (ePeek 8) (eVar 10)))
 (sSeq (sSetIx 8 (eBin uIx (ePeek 8) (eVar 11)) (eVar 10))
 (sSeq (sSetIx 8 (eVar 9) (eVar 11))
 (sRet (eM1 uJoin (eVar 7) (ePeek 8))))))))) sNil)
 (sRet (eVar 1)))))))))))
def F__law_marred_writes : Fn := runF 12 s__law_marred_writes
theorem ok__law_marred_writes {P : Program} {w : World} {K : PySem.W.Frag} {mg : Str → Option Value} {base : Heap} {CA : Nat → Addr} {f : Addr} {fd : FuncData} (F : Fun K "_law_marred_writes" "_law_marred_writes" (topS 20) f fd) (B : Bk P w K mg base CA)
    (h__law_coin : Has P w K mg base 1 "_law_coin" ["_law_purse_here", "_law_many"] [] (spF CA 2 F__law_coin))
    (h__law_odd_writes : Has P w K mg base 2 "_law_odd_writes" ["_law_purse_here", "_law_wording"] [] (spF CA 2 F__law_odd_writes)) :
    FnOk P w K mg base (L2.CX P w) 3 f fd ["_law_purse_here", "_law_wording"] (spF CA 2 F__law_marred_writes) := mkFn F sc__law_marred_writes (fun cdv A outer s0 H E C hr hX =>
  (fs_cons (fs_par2 5 6 hX (fq_cons (fe_callR h__law_coin hX (hr.mono (by decide)) (fr_consR 0 (fr_cons (fe_bin op_addAll sem_add (fp_of (fe_callB call_len sem_len (by rfl) B.n_len PySem.boot_len (fp_cons (fp_of (fe_var 1)) fp_nil))) (fp_of fe_int)) fr_nil)) (rlen_consR (rlen_cons rlen_nil))) (fq_cons (fe_callR h__law_coin hX (hr.mono (by decide)) (fr_consR 0 (fr_cons fe_int fr_nil)) (rlen_consR (rlen_cons rlen_nil))) fq_nil)))
 (fs_cons (fs_set 2 hX.b fe_str)
 (fs_cons (fs_set 3 hX.b (fe_ix ix_seq sem_ix (fp_of (fe_new (fn_lst (fa_cons fe_str (fa_cons (fe_var 2) fa_nil))))) (fp_of (fe_callR h__law_coin hX (hr.mono (by decide)) (fr_consR 0 (fr_cons fe_int fr_nil)) (rlen_consR (rlen_cons rlen_nil)))) (fun _ _ => rfl)))
 (fs_cons (fs_set 4 hX.b (fe_ix ix_seq sem_ix (fp_of (fe_var 3)) (fp_of (fe_callR h__law_coin hX (hr.mono (by decide)) (fr_consR 0 (fr_cons (fe_callB call_len sem_len (by rfl) B.n_len PySem.boot_len (fp_cons (fp_of (fe_var 3)) fp_nil)) fr_nil)) (rlen_consR (rlen_cons rlen_nil)))) (fun _ _ => rfl)))
 (fs_cons (fs_if (ft_cmp (op_eqF hX.b) sem_eq (fp_of (fe_var 6)) (fp_of fe_int) (nomark _)) (fs_one (fs_ret (fe_bin op_addAll sem_add (fp_of (fe_bin op_addAll sem_add (fp_of (fe_slice (fp_of (fe_var 1)) fo_none (fo_some (fe_var 5)))) (fp_of (fe_var 4)))) (fp_of (fe_slice (fp_of (fe_var 1)) (fo_some (fe_var 5)) fo_none))))) fs_nil)
 (fs_cons (fs_if (ft_cmp (op_eqF hX.b) sem_eq (fp_of (fe_var 6)) (fp_of fe_int) (nomark _)) (fs_one (fs_ret (fe_bin op_addAll sem_add (fp_of (fe_slice (fp_of (fe_var 1)) fo_none (fo_some (fe_var 5)))) (fp_of (fe_slice (fp_of (fe_var 1)) (fo_some (fe_bin op_addAll sem_add (fp_of (fe_var 5)) (fp_of fe_int))) fo_none))))) fs_nil)
 (fs_cons (fs_if (ft_cmp (op_eqF hX.b) sem_eq (fp_of (fe_var 6)) (fp_of fe_int) (nomark _)) (fs_one (fs_ret (fe_bin op_addAll sem_add (fp_of (fe_bin op_addAll sem_add (fp_of (fe_slice (fp_of (fe_var 1)) fo_none (fo_some (fe_var 5)))) (fp_of (fe_var 4)))) (fp_of (fe_slice (fp_of (fe_var 1)) (fo_some (fe_bin op_addAll sem_add (fp_of (fe_var 5)) (fp_of fe_int))) fo_none))))) fs_nil)
 (fs_cons (fs_if (ft_cmp (op_eqF hX.b) sem_eq (fp_of (fe_var 6)) (fp_of fe_int) (nomark _)) (fs_one (fs_ret (fe_callR h__law_odd_writes hX (hr.mono (by decide)) (fr_consR 0 (fr_cons (fe_var 1) fr_nil)) (rlen_consR (rlen_cons rlen_nil))))) fs_nil)
 (fs_cons (fs_if (ft_cmp (op_inF hX.b) sem_in (fp_of (fe_var 6)) (fp_of (fe_tup (fa_cons fe_int (fa_cons fe_int fa_nil)))) (by first | rfl | with_unfolding_all rfl)) (fs_cons (fs_set 7 hX.b (fe_ix ix_seq sem_ix (fp_of (fe_new (fn_lst (fa_cons fe_str (fa_cons fe_str fa_nil))))) (fp_of (fe_bin op_sub sem_sub (fp_of (fe_var 6)) (fp_of fe_int))) (fun _ _ => rfl)))
 (fs_cons (fs_own 8 hX.b (fn_m1 PySem.F.slot_str_split PySem.F.type_str_split mt_split sem_splitN (fp_of (fe_var 1)) (fp_of (fe_var 7))))
 (fs_cons (fs_par2 10 11 hX (fq_cons (fe_callR h__law_coin hX (hr.mono (by decide)) (fr_consR 0 (fr_cons (fe_callB call_len sem_len (by rfl) B.n_len PySem.boot_len (fp_cons (fp_var 8) fp_nil)) fr_nil)) (rlen_consR (rlen_cons rlen_nil))) (fq_cons (fe_callR h__law_coin hX (hr.mono (by decide)) (fr_consR 0 (fr_cons (fe_callB call_len sem_len (by rfl) B.n_len PySem.boot_len (fp_cons (fp_var 8) fp_nil)) fr_nil)) (rlen_consR (rlen_cons rlen_nil))) fq_nil)))
 (fs_cons (fs_set 9 hX.b (fe_ix ix_seq sem_ix (fp_var 8) (fp_of (fe_var 10)) (fun _ _ => rfl)))
 (fs_cons (fs_setix 8 (fe_ix ix_seq sem_ix (fp_var 8) (fp_of (fe_var 11)) (fun _ _ => rfl)) (fe_var 10))
 (fs_cons (fs_setix 8 (fe_var 9) (fe_var 11))
 (fs_one (fs_ret (fe_m1 PySem.F.slot_str_join PySem.F.type_str_join mt_join sem_join (fp_of (fe_var 7)) (fp_var 8)))))))))) fs_nil)
 (fs_one (fs_ret (fe_var 1)))))))))))))

theorem sc__law_right : FnScope ["_law_purse_here", "_law_writes_here", "_law_turn", "_law_wording", "_law_bent", "_law_number"] ["_law_purse_here"] (defScope (topS 21)) := ⟨rfl, rfl, rfl, by decide +kernel, rfl, by decide +kernel, by decide +kernel⟩
def s__law_right : Ex Fl := (sSeq (sSetX 1 (eCallR (F__law_drawn_writes) [] (rConsR 0 (rCons (eBin uIx (eL (eLst (aCons (eC (.int 8)) (aCons (eC (.int 60)) aNil)))) (eCallR (F__law_coin) [] (rConsR 0 (rCons (eC (.int 2)) rNil)))) rNil))))
 (sSeq (sFor (iR1 (aCons (eCallR (F__law_coin) [] (rConsR 0 (rCons (eC (.int 3)) rNil))) aNil)) (.nm 2) [2]
  (sIf (tCmpB uNe (ePeek 1) (eL (eLst aNil))) (sSetIx 1 (eC .none) (eCallR (F__law_coin) [] (rConsR 0 (rCons (eCallB uLen (aCons (ePeek 1) aNil)) rNil)))) sNil))
 (sSeq (sFrz 1) (sSeq (sSet 3 (eM1 uJoin (eC (.str " ")) (eL (nLc (iL (eVar 1)) (.nm 5) tYesB (eIf (tCmpB uIsN (eVar 5) (eC .none)) (eC (.str "-")) (eCallB uStr (aCons (eVar 5) aNil))) (List.map (·.2) ([("_law_number", 5)] : List (Str × Nat)))))))
 (sSeq (sSet 3 (eIf (tCmpB uEq (eVar 1) (eL (eLst aNil))) (eC (.str ".")) (eVar 3)))
 (sSeq (sFor (iR1 (aCons (eC (.int 8)) aNil)) (.nm 2) [2, 4]
  (sSeq (sSet 4 (eCallR (F__law_marred_writes) [] (rConsR 0 (rCons (eVar 3) rNil))))
 (sIf (tAndB (tCmpB uLe (eCallB uLen (aCons (eVar 4) aNil)) (eC (.int 3000))) (tCmpB uNe (eCall (F__law_caught_writes) [] (aCons (eVar 4) (aCons (eCallR (F__law_coin) [] (rConsR 0 (rCons (eC (.int 2)) rNil))) aNil))) (eCall (F__law_writes_of) [] (aCons (eVar 4) aNil)))) (sRet (eC (.bool false))) sNil)))
 (sRet (eC (.bool true)))))))))
def F__law_right : Fn := runF 6 s__law_right
theorem ok__law_right {P : Program} {w : World} {K : PySem.W.Frag} {mg : Str → Option Value} {base : Heap} {CA : Nat → Addr} {f : Addr} {fd : FuncData} (F : Fun K "_law_right" "_law_right" (topS 21) f fd) (B : Bk P w K mg base CA)
    (h__law_caught_writes : Has P w K mg base 4 "_law_caught_writes" ["_law_wording", "_law_way"] [] (spF CA 2 F__law_caught_writes))
    (h__law_coin : Has P w K mg base 1 "_law_coin" ["_law_purse_here", "_law_many"] [] (spF CA 2 F__law_coin))
    (h__law_drawn_writes : Has P w K mg base 2 "_law_drawn_writes" ["_law_purse_here", "_law_most"] [] (spO CA 2 F__law_drawn_writes))
    (h__law_marred_writes : Has P w K mg base 3 "_law_marred_writes" ["_law_purse_here", "_law_wording"] [] (spF CA 2 F__law_marred_writes))
    (h__law_writes_of : Has P w K mg base 2 "_law_writes_of" ["_law_wording"] [] (spF CA 1 F__law_writes_of)) :
    FnOk P w K mg base (L2.CX P w) 5 f fd ["_law_purse_here"] (spF CA 1 F__law_right) := mkFn F sc__law_right (fun cdv A outer s0 H E C hr hX =>
  (fs_cons (fs_setX 1 hX.b (fx_callR h__law_drawn_writes hX (hr.mono (by decide)) (fr_consR 0 (fr_cons (fe_ix ix_seq sem_ix (fp_of (fe_new (fn_lst (fa_cons fe_int (fa_cons fe_int fa_nil))))) (fp_of (fe_callR h__law_coin hX (hr.mono (by decide)) (fr_consR 0 (fr_cons fe_int fr_nil)) (rlen_consR (rlen_cons rlen_nil)))) (fun _ _ => rfl)) fr_nil)) (rlen_consR (rlen_cons rlen_nil))))
 (fs_cons (fs_for hX (fi_range1 (by rfl) B.n_range (fp_cons (fp_of (fe_callR h__law_coin hX (hr.mono (by decide)) (fr_consR 0 (fr_cons fe_int fr_nil)) (rlen_consR (rlen_cons rlen_nil)))) fp_nil)) (fg_n 2 hX.nd) (fun C hX =>
  (fs_one (fs_if (ft_cmp (op_neF hX.b) sem_ne (fp_var 1) (fp_of (fe_new (fn_lst fa_nil))) (nomark _)) (fs_one (fs_setix 1 fe_non (fe_callR h__law_coin hX (hr.mono (by decide)) (fr_consR 0 (fr_cons (fe_callB call_len sem_len (by rfl) B.n_len PySem.boot_len (fp_cons (fp_var 1) fp_nil)) fr_nil)) (rlen_consR (rlen_cons rlen_nil))))) fs_nil))))
 (fs_frz 1 (fs_cons (fs_set 3 hX.b (fe_m1 PySem.F.slot_str_join PySem.F.type_str_join mt_join sem_join (fp_of fe_str) (fp_of (fe_new (fn_lc [("_law_number", 5)] hX (fi_list (fe_var 1)) (blkOk_by (by kernel_rfl)) (fun s H Cc cl fp => (fg_n 5 hX.blk.nd)) (fun s H Cc cl fp _ hX => fts_nil) (fun s H Cc cl fp _ hX => (fe_if (ft_cmp op_isN sem_isN (fp_of (fe_var 5)) (fp_of fe_non) (nomark _)) fe_str (fe_callTy call_strAll sem_str (by rfl) B.n_str (by decide +kernel) (fp_cons (fp_of (fe_var 5)) fp_nil)))))))))
 (fs_cons (fs_set 3 hX.b (fe_if (ft_cmp (op_eqF hX.b) sem_eq (fp_of (fe_var 1)) (fp_of (fe_new (fn_lst fa_nil))) (nomark _)) fe_str (fe_var 3)))
 (fs_cons (fs_for hX (fi_range1 (by rfl) B.n_range (fp_cons (fp_of fe_int) fp_nil)) (fg_n 2 hX.nd) (fun C hX =>
  (fs_cons (fs_set 4 hX.b (fe_callR h__law_marred_writes hX (hr.mono (by decide)) (fr_consR 0 (fr_cons (fe_var 3) fr_nil)) (rlen_consR (rlen_cons rlen_nil))))
 (fs_one (fs_if (PW.pt (fw_and (ft_cmp op_le sem_le (fp_of (fe_callB call_len sem_len (by rfl) B.n_len PySem.boot_len (fp_cons (fp_of (fe_var 4)) fp_nil))) (fp_of fe_int) (nomark _)) (pw_and1 (ft_cmp (op_neF hX.b) sem_ne (fp_of (fe_call h__law_caught_writes hX (hr.mono (by decide)) (fa_cons (fe_var 4) (fa_cons (fe_callR h__law_coin hX (hr.mono (by decide)) (fr_consR 0 (fr_cons fe_int fr_nil)) (rlen_consR (rlen_cons rlen_nil))) fa_nil)) (alen_cons (alen_cons alen_nil)))) (fp_of (fe_call h__law_writes_of hX (hr.mono (by decide)) (fa_cons (fe_var 4) fa_nil) (alen_cons alen_nil))) (nomark _))))) (fs_one (fs_ret fe_bl)) fs_nil)))))
 (fs_one (fs_ret fe_bl)))))))))

theorem sc_law : FnScope ["_law_script", "_law_spot", "_law_purse_here", "_law_turn"] ["_law_script"] (defScope (topS 22)) := ⟨rfl, rfl, rfl, by decide +kernel, rfl, by decide +kernel, by decide +kernel⟩
def s_law : Ex Fl := (sSeq (sFor (iR1 (aCons (eCallB uMax2 (aCons (eC (.int 1)) (aCons (eCallB uMin2 (aCons (eC (.int 6)) (aCons (eCallB uLen (aCons (eVar 0) aNil)) aNil))) aNil))) aNil)) (.nm 1) [1, 2, 3]
  (sSeq (sSet 2 (eCall (F__law_purse) [] (aCons (eVar 0) (aCons (eVar 1) aNil))))
 (sFor (iR1 (aCons (eC (.int 2)) aNil)) (.nm 3) [3]
  (sIf (tNotB (tOf (eCallR (F__law_right) [] (rCons (eVar 2) rNil)))) (sRet (eC (.bool false))) sNil))))
 (sRet (eC (.bool true))))
def F_law : Fn := runF 4 s_law
theorem ok_law {P : Program} {w : World} {K : PySem.W.Frag} {mg : Str → Option Value} {base : Heap} {CA : Nat → Addr} {f : Addr} {fd : FuncData} (F : Fun K "law" "law" (topS 22) f fd) (B : Bk P w K mg base CA)
    (h__law_purse : Has P w K mg base 1 "_law_purse" ["_law_script", "_law_place"] [] (spF CA 2 F__law_purse))
    (h__law_right : Has P w K mg base 5 "_law_right" ["_law_purse_here"] [] (spF CA 1 F__law_right)) :
    FnOk P w K mg base (L2.CX P w) 6 f fd ["_law_script"] (spF CA 1 F_law) := mkFn F sc_law (fun cdv A outer s0 H E C hr hX =>
  (fs_cons (fs_for hX (fi_range1 (by rfl) B.n_range (fp_cons (fp_of (fe_callB (call_max2 hX.calm) sem_max2 (by rfl) B.n_max (by decide +kernel) (fp_cons (fp_of fe_int) (fp_cons (fp_of (fe_callB (call_min2 hX.calm) sem_min2 (by rfl) B.n_min (by decide +kernel) (fp_cons (fp_of fe_int) (fp_cons (fp_of (fe_callB call_len sem_len (by rfl) B.n_len PySem.boot_len (fp_cons (fp_of (fe_var 0)) fp_nil))) fp_nil)))) fp_nil)))) fp_nil)) (fg_n 1 hX.nd) (fun C hX =>
  (fs_cons (fs_set 2 hX.b (fe_call h__law_purse hX (hr.mono (by decide)) (fa_cons (fe_var 0) (fa_cons (fe_var 1) fa_nil)) (alen_cons (alen_cons alen_nil))))
 (fs_one (fs_for hX (fi_range1 (by rfl) B.n_range (fp_cons (fp_of fe_int) fp_nil)) (fg_n 3 hX.nd) (fun C hX =>
  (fs_one (fs_if (ft_not (ft_val (fe_callR h__law_right hX (hr.mono (by decide)) (fr_cons (fe_var 2) fr_nil) (rlen_cons rlen_nil)))) (fs_one (fs_ret fe_bl)) fs_nil))))))))
 (fs_one (fs_ret fe_bl))))
end Lw

/-! L54 -/
set_option Elab.async false
set_option linter.all false
set_option maxRecDepth 100000
set_option maxHeartbeats 4000000
namespace Lw
open PySem PySem.Spec PyProof.Rows L2 FL
section
variable {P : Program} {w : World} {K : PySem.W.Frag} {mg : Str → Option Value} {base : Heap} {CA : Nat → Addr} {f fP fR : Addr} {fd fdP : FuncData}
theorem ok_purse (F : Fun K "_law_purse" "_law_purse" (topS 13) f fd) (B : Bk P w K mg base CA) : FnOk P w K mg base (L2.CX P w) 1 f fd ["_law_script", "_law_place"] (spPurse K) := by
  refine F.okX sc__law_purse (fun vs H Q E ⟨a, ns, i, e, _⟩ => by rw [e]; rfl) fun cdv A outer s0 H vs Q E hr ⟨a, ns, i, e, hS, hl, q⟩ => ?_
  subst e
  refine ⟨_, pss_cons (ps_set (i := 2) sc__law_purse.nd rfl (.inl rfl) (pe_ifExp (pt_cmpR op_lt (pv 1) (pe_callB call_len_seq (by rfl) B.n_len PySem.boot_len (pa_cons (pv 0) pa_nil)) (nomark _)) (pe_ix ix_list (pv 0) (pv 1) (fun _ _ => rfl)) pe_int))
    (pss_one (ps_ret (pe_lst (pa_cons (pe_callB (call_max2 rfl) (by rfl) B.n_max (by decide +kernel) (pa_cons pe_int (pa_cons (pe_op op_sub (pe_callB call_abs (by rfl) B.n_abs (by decide +kernel) (pa_cons (pv 2) pa_nil)) (pe_op op_powW pe_int pe_int)) pa_nil)))
      (pa_cons (pe_op op_mod (pe_callTy call_int1 (by rfl) B.n_int (by decide +kernel) (pa_cons (pe_op op_add (pe_op op_add (pe_op op_mul (pv 2) pe_int) (pe_op op_mul (pv 1) pe_int)) pe_int) pa_nil)) (pe_op op_add (pe_op op_powW pe_int pe_int) pe_int)) (pa_cons pe_int pa_nil)))))), ?_⟩
  have small : ∀ z : Int, CMul z 30011 := fun z => .inr ⟨by decide, by decide⟩
  have small2 : ∀ z : Int, CMul z 7368787 := fun z => .inr ⟨by decide, by decide⟩
  have fin : ∀ cell : Int, _ := fun cell => tPurse_go (A := 30011) (B := 7368787) (C := 104729) (M := 10 ^ 24 + 7) (i := i) (by decide) (by decide) q cell (10 ^ 18)
  refine ⟨.int i, rfl, .ref a, rfl, a, _, rfl, .inl hS, _, _, rfl, rfl, _, rfl, ?_⟩
  have pw : ∀ j : Int, 0 ≤ j → j ≤ 64 → CPowW 10 j := fun j h1 h2 => ⟨h1, h2, by decide⟩
  refine ite2 (fun e => ?_) (fun e => ?_)
  · have hi : i < ns.length := by
      have e := of_decide_eq_true e
      rw [List.length_map] at e
      exact_mod_cast e
    have g : (ns.map V.int)[i]? = some (.int ns[i]) := by rw [List.getElem?_map, List.getElem?_eq_getElem hi]; rfl
    refine ⟨.ref a, rfl, .int i, rfl, a, _, _, _, rfl, rfl, hS, atI_nat g, ?_⟩
    exact ⟨.int ns[i], rfl, ns[i], rfl, 10, 18, rfl, rfl, pw 18 (by decide) (by decide), _, _, rfl, rfl, _, _, rfl, .int ns[i], rfl, _, _, rfl, rfl, small _, .int i, rfl, _, _, rfl, rfl, small2 _, _, _, rfl, rfl, _, _, rfl, rfl, .inl ⟨_, rfl, 10, 24, rfl, rfl, pw 24 (by decide) (by decide), _, _, rfl, rfl, _, _, rfl, rfl, (by show (0 : Int) < 10 ^ 24 + 7; decide), by show 3 ≤ sizeLine; rw [sizeLine_eq]; decide, fin ns[i]⟩⟩
  · exact ⟨.int 0, rfl, 0, rfl, 10, 18, rfl, rfl, pw 18 (by decide) (by decide), _, _, rfl, rfl, _, _, rfl, .int 0, rfl, _, _, rfl, rfl, small _, .int i, rfl, _, _, rfl, rfl, small2 _, _, _, rfl, rfl, _, _, rfl, rfl, .inl ⟨_, rfl, 10, 24, rfl, rfl, pw 24 (by decide) (by decide), _, _, rfl, rfl, _, _, rfl, rfl, (by show (0 : Int) < 10 ^ 24 + 7; decide), by show 3 ≤ sizeLine; rw [sizeLine_eq]; decide, fin 0⟩⟩
def spLaw (K : PySem.W.Frag) : Sp := fun vs H Q _ => ∃ (a : Addr) (ns : List Int), vs = [.ref a] ∧ SqL K H a (ns.map V.int) ∧ ns.length ≤ 1000 ∧ ∀ H', Q (.bl true) H'
theorem ok_law2 {FR : Fn} {c k : Nat} (hk : 1 ≤ k) (F : Fun K "law" "law" (topS 22) f fd) (B : Bk P w K mg base CA) (FP : FnOk P w K mg base (L2.CX P w) k fP fdP ["_law_script", "_law_place"] (spPurse K)) (gP : mg "_law_purse" = some (.ref fP)) (kP : PySem.W.keepIn K (.ref fP) = true) (bP : Binds K fdP ["_law_script", "_law_place"] [])
    {fdR : FuncData} (FRo : FnOk P w K mg base (L2.CX P w) k fR fdR ["_law_purse_here"] (spF CA 1 FR)) (gR : mg "_law_right" = some (.ref fR)) (kR : PySem.W.keepIn K (.ref fR) = true) (bR : Binds K fdR ["_law_purse_here"] []) (R : Right c (c * 2) FR []) :
    FnOk P w K mg base (L2.CX P w) (k + 1) f fd ["_law_script"] (spLaw K) := by
  refine F.okX sc_law (fun vs H Q E ⟨a, ns, e, _⟩ => by rw [e]; rfl) fun cdv A outer s0 H vs Q E hr ⟨a, ns, e, hS, hl, q⟩ => ?_
  subst e
  have hX : XOk (cxOf (L2.CX P w) P w K mg base ["_law_script", "_law_spot", "_law_purse_here", "_law_turn"] "law" (defScope (topS 22)) f cdv A outer s0 H E) CA (ct0 H ⟨[], fun _ => False⟩ E CA) := xok_cx hr sc_law.nd
  have pass : Passes (L2.CX P w) (cxOf (L2.CX P w) P w K mg base ["_law_script", "_law_spot", "_law_purse_here", "_law_turn"] "law" (defScope (topS 22)) f cdv A outer s0 H E) E := passes_call hX.tk fun _ _ _ _ h => ⟨h, trivial⟩
  refine ⟨_, pss_cons (ps_for hX.po rfl (pi_range1 (by rfl) B.n_range (pa_cons (pe_callB (call_max2 rfl) (by rfl) B.n_max (by decide +kernel) (pa_cons pe_int (pa_cons (pe_callB (call_min2 rfl) (by rfl) B.n_min (by decide +kernel) (pa_cons pe_int (pa_cons (pe_callB call_len_seq (by rfl) B.n_len PySem.boot_len (pa_cons (pv 0) pa_nil)) pa_nil))) pa_nil))) pa_nil)) (pg_name (i := 1) sc_law.nd rfl (.inl rfl))
      (pss_cons (ps_set (i := 2) sc_law.nd rfl (.inl rfl) (pe_call FP hr (by rfl) gP kP bP .nil pass (pa_cons (pv 0) (pa_cons (pv 1) pa_nil))))
        (pss_one (ps_for hX.po rfl (pi_range1 (by rfl) B.n_range (pa_cons pe_int pa_nil)) (pg_name (i := 3) sc_law.nd rfl (.inl rfl))
          (pss_one (ps_if (pt_not (pt_val (pe_call FRo hr (by rfl) gR kR bR .nil pass (pa_cons (pv 2) pa_nil)))) (pss_one (ps_ret pe_bl)) pss_nil))))))
    (pss_one (ps_ret pe_bl)), ?_⟩
  refine ⟨.ref a, rfl, a, _, rfl, .inl hS, _, _, rfl, _, _, rfl, _, rfl, ?_, ?_, ?_⟩
  · split <;> split <;> omega
  · split <;> split <;> omega
  generalize (if (if ((ns.map V.int).length : Int) < 6 then ((ns.map V.int).length : Int) else 6) > 1 then (if ((ns.map V.int).length : Int) < 6 then ((ns.map V.int).length : Int) else 6) else 1).toNat = n
  refine ⟨fun i m σ H' => i + m = n ∧ Same H H' ∧ ∃ y1 y2 y3, σ = [some (.ref a), y1, y2, y3], ⟨n, by omega, fun _ _ h => h, none, none, none, rfl⟩, fun i m σ H1 hW => ?_⟩
  obtain ⟨hm, sm, y1, y2, y3, rfl⟩ := hW
  by_cases hi : i < n
  · refine .inr ⟨hi, fun σ' H' => Same H H' ∧ ∃ y1 y2 y3, σ' = [some (.ref a), y1, y2, y3], fun σ' H' h => ⟨m - 1, by omega, by omega, h⟩, fun x H2 hy => ?_⟩
    obtain ⟨rfl, rfl⟩ := hy
    refine ⟨.ref a, rfl, .int ((0 : Int) + i), rfl, a, ns, i, by rw [Int.zero_add]; rfl, sm.seq hS, hl, fun p x y hp hx => ?_⟩
    have hp0 : H p = none := by
      cases e : H p with
      | none => rfl
      | some o => rw [sm p o e] at hp; cases hp
    refine ⟨2, rfl, by decide, by decide, fun j m2 σ H' => j + m2 = 2 ∧ Same H H' ∧ (∃ y3, σ = [some (.ref a), some (.int ((0 : Int) + i)), some (.ref p), y3]) ∧ ∃ x y z, H' p = some (.lst [.int x, .int y, .int z]) ∧ Pur (c * j) x y z, ⟨2, rfl, fun b o e => ?_, ⟨_, rfl⟩, x, y, 0, upd_same, hx.mono (Nat.zero_le _)⟩, fun j m2 σ2 H3 hW2 => ?_⟩
    · rw [upd_ne fun z => by rw [z, hp0] at e; cases e]; exact sm b o e
    · obtain ⟨hm2, sm2, ⟨y3', rfl⟩, x', y', z', hp', hx'⟩ := hW2
      by_cases hj : j < 2
      · refine .inr ⟨hj, fun σ' H' => Same H H' ∧ (∃ y3, σ' = [some (.ref a), some (.int ((0 : Int) + i)), some (.ref p), y3]) ∧ ∃ x y z, H' p = some (.lst [.int x, .int y, .int z]) ∧ Pur (c * (j + 1)) x y z, fun σ' H' h => ⟨m2 - 1, by omega, by omega, h⟩, fun x4 H4 hy4 => ?_⟩
        obtain ⟨rfl, rfl⟩ := hy4
        refine ⟨.ref p, rfl, right_sp R (Nat.mul_le_mul_left c (by omega)) rfl (fun g => .nil) hp' hx' fun H5 x5 y5 z5 keep hp5 hx5 => ⟨true, rfl, iteF ⟨fun b o e => keep b o (fun z => by rw [z, hp0] at e; cases e) (sm2 b o e), ⟨_, rfl⟩, x5, y5, z5, hp5, by rw [Nat.mul_succ]; exact hx5⟩⟩⟩
      · exact .inl ⟨by show 2 ≤ j; omega, sm2, _, _, _, rfl⟩
  · exact .inl ⟨by show n ≤ i; omega, q _⟩
end
end Lw

/-! H54 -/
set_option Elab.async false
set_option linter.all false
set_option maxRecDepth 100000
set_option maxHeartbeats 4000000
namespace Lw
open PySem PySem.Spec PyProof.Rows L2 FL He
def stInit : Stmt := match topS 1 with
  | .ClassDef _ _ _ (s :: _) _ _ _ _ _ _ _ => s
  | s => s
def fnL : List DefD := [mOf stInit "TallyError" "__init__" "TallyError.__init__", dOf (topS 8) "number_in", dOf (topS 9) "read_writes", dOf (topS 11) "show_writes", dOf (topS 13) "_law_purse", dOf (topS 14) "_law_coin", dOf (topS 15) "_law_drawn_writes", dOf (topS 16) "_law_number_of", dOf (topS 17) "_law_writes_of", dOf (topS 18) "_law_caught_writes", dOf (topS 19) "_law_odd_writes", dOf (topS 20) "_law_marred_writes", dOf (topS 21) "_law_right", dOf (topS 22) "law"]
def glL : List Str := ["TallyError", "InvalidNumber", "NotPossible", "Unreadable", "number_in", "read_writes", "show_writes", "_law_purse", "_law_coin", "_law_drawn_writes", "_law_number_of", "_law_writes_of", "_law_caught_writes", "_law_odd_writes", "_law_marred_writes", "_law_right", "law"]
def frL : List Str := ["abs", "all", "int", "isinstance", "len", "max", "min", "range", "str"]
def faL : List Fa := [.str "DIGITS" "0123456789", .int "MOST_DIGITS" 9] ++ (glL.map Fa.glo ++ frL.map Fa.free)
def exL (K : PySem.W.Frag) : Bool := clsB K "TallyError" "Unreadable" && (xfB K (ga K "Unreadable") && (xcB K (ga K "Unreadable") && (decide (PySem.W.exmOne K (.ref (ga K "Unreadable")) (.ref (ga K "TallyError")) = some true) &&
  (decide (PySem.W.kitAny K (.ref (ga K "Unreadable")) [.ref (ga K "InvalidNumber"), .ref (ga K "NotPossible")] = some false) && decide (PySem.W.kitOne K (.ref (ga K "Unreadable")) (.ref (ga K "Unreadable")) = some true)))))
abbrev R : PySem.W.OpenRow := PySem.W.OpenLaw.row PySem.Challenge.rw_staletally_k54_lists_that_are_none
abbrev hk : PySem.W.Hook := He.hookX 4 faL fnL [] [] exL
def ob (s : PySem.W.SharedT) : He.AlX := He.obsX 4 faL fnL [] [] exL (HandSHeadRun.getT s)
theorem ob_eq (s : PySem.W.SharedT) : ob s = hk.obs s.abs := He.obsX_eq (HandSHeadRun.getT_eq s)
def loose : List Str := ["TallyError", "InvalidNumber", "NotPossible", "Unreadable", "DIGITS", "MOST_DIGITS", "number_in", "read_writes", "show_writes", "_law_purse", "_law_coin", "_law_drawn_writes", "_law_number_of", "_law_writes_of", "_law_caught_writes", "_law_odd_writes", "_law_marred_writes", "_law_right"]
theorem run (w : World) : HandSHeadRun.RunEq R (PySem.W.view R.prog [22]) hk ob 3000 loose w := by
  intro os
  kernel_rfl
end Lw

/-! E54 -/
set_option Elab.async false
set_option linter.all false
set_option maxRecDepth 100000
set_option maxHeartbeats 4000000
namespace Lw
open PySem PySem.Spec PyProof.Rows L2 FL He
def CAof (K : PySem.W.Frag) (c : Nat) : Addr := match c with
  | 0 => ga K "TallyError" | 1 => ga K "InvalidNumber" | 2 => ga K "NotPossible" | _ => ga K "Unreadable"
theorem sc_init : FnScope ["self", "value"] ["self", "value"] (defScope stInit) := ⟨rfl, rfl, rfl, by decide +kernel, rfl, by decide +kernel, by decide +kernel⟩
theorem facts {P : Program} {w : World} {K : PySem.W.Frag} {h : Heap} {mg : Str → Option Value} {f : Addr} {c : Nat} (R : Right c (c * 2) F__law_right []) (X : K.In h) (G : h.Ns mainGlobals mg) (hfa : mg ("law" : Str) = some (.ref f)) (S : He.SaysX faL fnL [] [] exL w h K) :
    ∃ fd : FuncData, (∀ (s : Shared) (v : Value), BindsTo s fd ⟨[v], []⟩ [("_law_script", v)]) ∧ ∀ base : Heap, K.In base → base.Ns mainGlobals mg → FnOk P w K mg base (L2.CX P w) 8 f fd ["_law_script"] (spLaw K) := by
  have D := S.t.d
  have gl : ∀ (i : Nat) (x : Str), faL[i]? = some (.glo x) → mg x = some (.ref (fAd K (x, none))) := fun i x e => He.glo_ok X G (D.fact i e)
  have fr : ∀ (i : Nat) (x : Str), faL[i]? = some (.free x) → mg x = none := fun i x e => He.free_ok X G (D.fact i e)
  obtain ⟨m1, q⟩ := ba S.more; obtain ⟨m2, q⟩ := ba q; obtain ⟨m3, q⟩ := ba q; obtain ⟨m4, q⟩ := ba q; obtain ⟨m5, m6⟩ := ba q
  obtain ⟨fdI, FI0⟩ := D.def_ 0 rfl
  have FI := He5.fun_of (st := stInit) FI0
  obtain ⟨fd1, F1⟩ := D.def_ 1 rfl; have F1 := He5.fun_of (st := topS 8) F1
  obtain ⟨fd2, F2⟩ := D.def_ 2 rfl; have F2 := He5.fun_of (st := topS 9) F2
  obtain ⟨fd3, F3⟩ := D.def_ 3 rfl; have F3 := He5.fun_of (st := topS 11) F3
  obtain ⟨fd4, F4⟩ := D.def_ 4 rfl; have F4 := He5.fun_of (st := topS 13) F4
  obtain ⟨fd5, F5⟩ := D.def_ 5 rfl; have F5 := He5.fun_of (st := topS 14) F5
  obtain ⟨fd6, F6⟩ := D.def_ 6 rfl; have F6 := He5.fun_of (st := topS 15) F6
  obtain ⟨fd7, F7⟩ := D.def_ 7 rfl; have F7 := He5.fun_of (st := topS 16) F7
  obtain ⟨fd8, F8⟩ := D.def_ 8 rfl; have F8 := He5.fun_of (st := topS 17) F8
  obtain ⟨fd9, F9⟩ := D.def_ 9 rfl; have F9 := He5.fun_of (st := topS 18) F9
  obtain ⟨fd10, F10⟩ := D.def_ 10 rfl; have F10 := He5.fun_of (st := topS 19) F10
  obtain ⟨fd11, F11⟩ := D.def_ 11 rfl; have F11 := He5.fun_of (st := topS 20) F11
  obtain ⟨fd12, F12⟩ := D.def_ 12 rfl; have F12 := He5.fun_of (st := topS 21) F12
  obtain ⟨fd13, F13⟩ := D.def_ 13 rfl; have F13 := He5.fun_of (st := topS 22) F13
  have bI : Binds K fdI ["self", "value"] [] := FI.binds fun _ _ _ _ _ _ us hl => match us, hl with | [_, _], _ => rfl
  have b1 : Binds K fd1 ["text"] [] := F1.binds fun _ _ _ _ _ _ us hl => match us, hl with | [_], _ => rfl
  have b2 : Binds K fd2 ["text"] [] := F2.binds fun _ _ _ _ _ _ us hl => match us, hl with | [_], _ => rfl
  have b3 : Binds K fd3 ["writes"] [] := F3.binds fun _ _ _ _ _ _ us hl => match us, hl with | [_], _ => rfl
  have b4 : Binds K fd4 ["_law_script", "_law_place"] [] := F4.binds fun _ _ _ _ _ _ us hl => match us, hl with | [_, _], _ => rfl
  have b5 : Binds K fd5 ["_law_purse_here", "_law_many"] [] := F5.binds fun _ _ _ _ _ _ us hl => match us, hl with | [_, _], _ => rfl
  have b6 : Binds K fd6 ["_law_purse_here", "_law_most"] [] := F6.binds fun _ _ _ _ _ _ us hl => match us, hl with | [_, _], _ => rfl
  have b7 : Binds K fd7 ["_law_piece"] [] := F7.binds fun _ _ _ _ _ _ us hl => match us, hl with | [_], _ => rfl
  have b8 : Binds K fd8 ["_law_wording"] [] := F8.binds fun _ _ _ _ _ _ us hl => match us, hl with | [_], _ => rfl
  have b9 : Binds K fd9 ["_law_wording", "_law_way"] [] := F9.binds fun _ _ _ _ _ _ us hl => match us, hl with | [_, _], _ => rfl
  have b10 : Binds K fd10 ["_law_purse_here", "_law_wording"] [] := F10.binds fun _ _ _ _ _ _ us hl => match us, hl with | [_, _], _ => rfl
  have b11 : Binds K fd11 ["_law_purse_here", "_law_wording"] [] := F11.binds fun _ _ _ _ _ _ us hl => match us, hl with | [_, _], _ => rfl
  have b12 : Binds K fd12 ["_law_purse_here"] [] := F12.binds fun _ _ _ _ _ _ us hl => match us, hl with | [_], _ => rfl
  have b13 : Binds K fd13 ["_law_script"] [] := F13.binds fun _ _ _ _ _ _ us hl => match us, hl with | [_], _ => rfl
  have k2 := bindsK (ps := ["text"]) (ks := ["text"]) (n := 0) (pm := [0]) F2 fun _ _ _ _ _ _ us ws h1 h2 => match us, ws, h1, h2 with | [], [_], _, _ => rfl
  have e := hfa.symm.trans (gl 18 "law" rfl)
  cases e
  refine ⟨fd13, fun s v => by
    obtain ⟨oc, od, kV, doc, pmv, an, cdv, ct, osl, rfl, lk, hcd⟩ := F13.ex
    exact .of_eq rfl, fun base KB GB => ?_⟩
  have HI : FnOk P w K mg base (L2.CX P w) 1 _ fdI ["self", "value"] (spInit K) := ok_init FI sc_init rfl (.inl rfl) (.inl rfl)
  have cu : ∀ {c : Nat}, caught c = true → c = 3 := fun {c} h => by unfold caught at h; simpa using h
  have B : Bk P w K mg base (CAof K) :=
    { n_abs := fr 19 "abs" rfl, n_all := fr 20 "all" rfl, n_int := fr 21 "int" rfl, n_isinstance := fr 22 "isinstance" rfl, n_len := fr 23 "len" rfl, n_max := fr 24 "max" rfl, n_min := fr 25 "min" rfl, n_range := fr 26 "range" rfl, n_str := fr 27 "str" rfl
      c_DIGITS := He.str_ok X G (D.fact 0 rfl), c_MOST_DIGITS := He.int_ok X G (D.fact 1 rfl)
      e_Unreadable := clsB_ok (gl 5 "Unreadable" rfl) m1 HI bI
      g_InvalidNumber := gl 3 "InvalidNumber" rfl, g_NotPossible := gl 4 "NotPossible" rfl, g_TallyError := gl 2 "TallyError" rfl, g_Unreadable := gl 5 "Unreadable" rfl
      cau := fun h => by cases cu h; exact of_decide_eq_true m4
      noval := fun h => by cases cu h; exact clsB_val m1
      xf := fun h => by cases cu h; exact xfB_ok m2
      xc := fun h => by cases cu h; exact xcB_ok m3
      k_InvalidNumber_NotPossible := fun h => by cases cu h; exact of_decide_eq_true m5
      k_Unreadable := fun h => by cases cu h; exact of_decide_eq_true m6 }
  have O1 := ok_number_in (P := P) (w := w) (base := base) F1 B
  have H1 := has_of (gl 6 "number_in" rfl) F1.kp O1 b1
  have O2 := ok_read_writes (P := P) (w := w) (base := base) F2 B H1
  have H2 := has_of (gl 7 "read_writes" rfl) F2.kp O2 b2
  have H2k := hasK_of (gl 7 "read_writes" rfl) F2.kp O2 k2
  have O3 := ok_show_writes (P := P) (w := w) (base := base) F3 B
  have H3 := has_of (gl 8 "show_writes" rfl) F3.kp O3 b3
  have O4 := ok_purse (P := P) (w := w) (base := base) F4 B
  have O5 := ok__law_coin (P := P) (w := w) (base := base) F5 B
  have H5 := has_of (gl 10 "_law_coin" rfl) F5.kp O5 b5
  have O6 := ok__law_drawn_writes (P := P) (w := w) (base := base) F6 B H5
  have H6 := has_of (gl 11 "_law_drawn_writes" rfl) F6.kp O6 b6
  have O7 := ok__law_number_of (P := P) (w := w) (base := base) F7 B
  have H7 := has_of (gl 12 "_law_number_of" rfl) F7.kp O7 b7
  have O8 := ok__law_writes_of (P := P) (w := w) (base := base) F8 B H7
  have H8 := has_of (gl 13 "_law_writes_of" rfl) F8.kp O8 b8
  have O9 := ok__law_caught_writes (P := P) (w := w) (base := base) F9 B H2 H2k H3
  have H9 := has_of (gl 14 "_law_caught_writes" rfl) F9.kp O9 b9
  have O10 := ok__law_odd_writes (P := P) (w := w) (base := base) F10 B H5
  have H10 := has_of (gl 15 "_law_odd_writes" rfl) F10.kp O10 b10
  have O11 := ok__law_marred_writes (P := P) (w := w) (base := base) F11 B H5 H10
  have H11 := has_of (gl 16 "_law_marred_writes" rfl) F11.kp O11 b11
  have O12 := ok__law_right (P := P) (w := w) (base := base) F12 B H9 H5 H6 H11 H8
  exact ok_law2 (k := 7) (by decide) F13 B (O4.mono (by decide)) (gl 9 "_law_purse" rfl) F4.kp b4 (O12.mono (by decide)) (gl 17 "_law_right" rfl) F12.kp b12 R
end Lw

/-! M54 -/
set_option Elab.async false
set_option linter.all false
set_option maxRecDepth 100000
set_option maxHeartbeats 4000000
section
namespace Lw
open PySem PySem.Spec PyProof.Rows L2 FL
theorem coin_eq : F__law_coin = runF 4 (sCoin0 0 2038074743 3 25 13 982451653 2 24 7 1024) := rfl
theorem coinK {B : Nat} {x y z n : Int} {P : D → List RV → Prop} (hB : B < 2 ^ 100) (h : Pur B x y z) (hn : 0 < n) (hn2 : n < 2 ^ 64) (q : ∀ r x' y' z', 0 ≤ r → r < n → Pur (B + 1) x' y' z' → P (.int r) [.pur x' y' z']) : Okk (F__law_coin [.r 0, .d (.int n)] [.pur x y z]) P := by
  obtain ⟨r, x', y', z', e, h1, h2, h3⟩ := coin_ok (lowest := 0) (a1 := 2038074743) (e1 := 3) (m1a := 25) (m1b := 13) (a2 := 982451653) (e2 := 2) (m2a := 24) (m2b := 7) (dv := 1024) ⟨by decide, by decide, by decide, by decide, by decide, by decide, by decide, by decide, by decide, by decide, by decide, by decide, by decide, by decide, by decide, by decide, by decide, by decide⟩ hB h hn hn2
  rw [coin_eq]
  exact Okk.of e (q r x' y' z' h1 h2 h3)
local macro_rules | `(tactic| boot_fact) => `(tactic| simp only [nxP_nx, nxP_rt, nxP_ro, nxP_bk, nxP_ct, o_nil, o_brk, o_cnt, o_set, o_own, o_setX, o_ret, o_retN, o_retW, o_retX, o_retO, o_frz, o_drop, o_if, o_for, o_var, o_peek, o_c, opP_some, opP_ite, o_bin, o_nbin, o_cmpE, o_cmp, o_un, o_callB, o_nB, boolP_b, o_tOf, o_and, o_or, o_not, o_andV, o_orV, o_notV, o_ifE, o_chain, o_eB, o_aNil, o_aCons, o_tup, o_lst, o_eL, intP_i, o_pNone, o_pSome, o_sl, listP_l, o_nsl, o_iL, tupP_l, o_iT, o_iR1, o_kR1, o_iR2, o_kR2, o_iEn, o_kEn, o_iZp, o_kZip, strP_s, o_iS, o_m1, o_nm1, o_meth, o_setix, o_aug, o_asg, o_qNil, o_qCons, o_qConsN, o_par2, o_kpar2, o_par3, o_kpar3, o_rNil, o_rCons, o_rConsR, o_callR, o_call, o_callK, o_callW, o_nLc, ownP_own, valP_val, bothP_val, bothP_own, regP_reg, atO_some, Pt.sl, rho0, arSl, wipeR, List.foldl_cons, List.foldl_nil, List.map_cons, List.map_nil, List.length_cons, List.length_nil, List.replicate, List.cons_append, List.nil_append, List.append_nil, List.getElem?_cons_zero, List.getElem?_cons_succ, List.set_cons_zero, List.set_cons_succ, uAdd_int, uSub_int, uLt_int, uLe_int, uGt_int, uGe_int, uMax2_int, uMin2_int, uNeg_int, uLen_list, uLen_tup, uIx_list, uIx_tup, uIsN_n, uNotN_n, uEq_int, uNe_int, uNe_ints, uEq_ints, Nat.zero_le, decide_eq_true_eq, Bool.false_eq_true, if_false, if_true, ite_self])
theorem drawn {B : Nat} {x y z m : Int} {P : D → List RV → Prop} (hB : B < 2 ^ 90) (h : Pur B x y z) (hm : 0 ≤ m) (hm2 : m ≤ 1000)
    (q : ∀ (ns : List Int) x' y' z', (ns.length : Int) ≤ m → (∀ n ∈ ns, 0 < n ∧ n ≤ 1001) → Pur (B + 5000) x' y' z' → P (.list (ns.map .int)) [.pur x' y' z']) : Okk (F__law_drawn_writes [.r 0, .d (.int m)] [.pur x y z]) P := by
  unfold F__law_drawn_writes
  rw [o_runO]
  unfold s__law_drawn_writes
  rw [o_seq]
  boot_fact
  refine coinK (by omega) h (by decide) (by decide) fun mode x1 y1 z1 hm0 hm1 h1 => ?_
  rw [o_seq]
  boot_fact
  refine coinK (by omega) h1 (by omega) (by omega) fun t x2 y2 z2 ht0 ht1 h2 => ?_
  boot_fact
  rw [if_pos ⟨by omega, by omega⟩]
  refine okk_for (fun i rh st => ∃ (ns : List Int) (g x y z : Int), rh = [some (.reg 0), some (.val (.int m)), none, some (.own (ns.map .int)), some (.val (.int g)), some (.val (.int mode)), none] ∧ st = [.pur x y z] ∧ Pur (B + 2 + 4 * i) x y z ∧ ns.length = i ∧ (∀ n ∈ ns, 0 < n ∧ n ≤ i) ∧ 0 ≤ g ∧ g ≤ i) _ 0 _ _ ⟨[], 0, x2, y2, z2, rfl, rfl, h2, rfl, by simp, by omega, by omega⟩ (fun j d rh st hd hI => ?_) (fun rh st hI => ?_)
  · obtain ⟨ns, g, x, y, z, rfl, rfl, hp, hl, hn, hg0, hg1⟩ := hI
    refine ⟨_, rfl, ?_⟩
    have hj : (j : Int) < 1000 := by
      have := (List.getElem?_eq_some_iff.mp hd).1
      simp [rangeD] at this
      omega
    have cut : ∀ (b : Nat) (s k : Ex Fl) (n x y z : Int) (Q : Fl → List RV → Prop), Pur (B + 2 + 4 * j + b) x y z → 0 < n → n ≤ j + 1 →
        (∀ n x y z : Int, Pur (B + 2 + 4 * j + b) x y z → 0 < n → n ≤ j + 1 → Okk (s [some (.reg 0), some (.val (.int m)), some (.val d), some (.own (ns.map .int)), some (.val (.int g)), some (.val (.int mode)), some (.val (.int n))] [.pur x y z]) (fun f st => ∃ n' x' y' z', f = .nx [some (.reg 0), some (.val (.int m)), some (.val d), some (.own (ns.map .int)), some (.val (.int g)), some (.val (.int mode)), some (.val (.int n'))] ∧ st = [.pur x' y' z'] ∧ Pur (B + 2 + 4 * j + (b + 1)) x' y' z' ∧ 0 < n' ∧ n' ≤ j + 1)) →
        (∀ n x y z : Int, Pur (B + 2 + 4 * j + (b + 1)) x y z → 0 < n → n ≤ j + 1 → Okk (k [some (.reg 0), some (.val (.int m)), some (.val d), some (.own (ns.map .int)), some (.val (.int g)), some (.val (.int mode)), some (.val (.int n))] [.pur x y z]) Q) →
        Okk (sSeq s k [some (.reg 0), some (.val (.int m)), some (.val d), some (.own (ns.map .int)), some (.val (.int g)), some (.val (.int mode)), some (.val (.int n))] [.pur x y z]) Q := fun b s k n x y z Q h1 h2 h3 h4 h5 => by
      rw [o_seq]
      refine (h4 n x y z h1 h2 h3).imp fun f st hf => ?_
      obtain ⟨n', x', y', z', rfl, rfl, k1, k2, k3⟩ := hf
      exact h5 n' x' y' z' k1 k2 k3
    rw [o_seq]
    boot_fact
    refine coinK (by omega) hp (by omega) (by omega) fun r x y z hr0 hr1 hp => ?_
    boot_fact
    refine cut 1 _ _ _ _ _ _ _ (hp.mono (by omega)) (by omega) (by omega) (fun n x y z hp hn0 hn1 => ?_) fun n x y z hp hn0 hn1 => ?_
    · boot_fact
      split
      · refine coinK (by omega) hp (by decide) (by decide) fun r x y z hr0 hr1 hp => ?_
        boot_fact
        split
        · exact ⟨_, _, _, _, rfl, rfl, hp, by omega, by omega⟩
        · exact ⟨_, _, _, _, rfl, rfl, hp, by omega, by omega⟩
      · exact ⟨_, _, _, _, rfl, rfl, hp.mono (by omega), by omega, by omega⟩
    refine cut 2 _ _ _ _ _ _ _ hp hn0 hn1 (fun n x y z hp hn0 hn1 => ?_) fun n x y z hp hn0 hn1 => ?_
    · boot_fact
      split
      · split
        · rename_i hne
          refine coinK (by omega) hp (by decide) (by decide) fun r x y z hr0 hr1 hp => ?_
          boot_fact
          split
          · rcases List.eq_nil_or_concat ns with rfl | ⟨i0, l, rfl⟩
            · simp at hne
            · rw [List.concat_eq_append, List.map_append, List.map_cons, List.map_nil, L2.atI_last]
              boot_fact
              have := hn l (by simp)
              exact ⟨_, _, _, _, rfl, rfl, hp, by omega, by omega⟩
          · exact ⟨_, _, _, _, rfl, rfl, hp, by omega, by omega⟩
        · exact ⟨_, _, _, _, rfl, rfl, hp.mono (by omega), by omega, by omega⟩
      · exact ⟨_, _, _, _, rfl, rfl, hp.mono (by omega), by omega, by omega⟩
    refine cut 3 _ _ _ _ _ _ _ hp hn0 hn1 (fun n x y z hp hn0 hn1 => ?_) fun n x y z hp hn0 hn1 => ?_
    · boot_fact
      split
      · refine coinK (by omega) hp (by decide) (by decide) fun r x y z hr0 hr1 hp => ?_
        boot_fact
        split
        · exact ⟨_, _, _, _, rfl, rfl, hp, by omega, by omega⟩
        · exact ⟨_, _, _, _, rfl, rfl, hp, by omega, by omega⟩
      · exact ⟨_, _, _, _, rfl, rfl, hp.mono (by omega), by omega, by omega⟩
    rw [o_seq]
    boot_fact
    rw [mAppend_one (by rw [List.length_map, lim]; omega)]
    boot_fact
    refine ⟨ns ++ [n], _, x, y, z, by rw [List.map_append]; rfl, rfl, hp.mono (by omega), by simp [hl], fun n' hn' => ?_, ?_, ?_⟩
    · rcases List.mem_append.mp hn' with h | h
      · have := hn n' h; omega
      · have : n' = n := by simpa using h
        omega
    · split <;> omega
    · split <;> omega
  · obtain ⟨ns, g, x, y, z, rfl, rfl, hp, hl, hn, hg0, hg1⟩ := hI
    boot_fact
    have ht : (rangeD 0 t.toNat).length = t.toNat := by simp [rangeD]
    rw [ht] at hl hn hp
    refine q ns x y z (by omega) (fun n h => by have := hn n h; omega) (hp.mono (by omega))
end Lw
end

/-! N54 -/
set_option Elab.async false
set_option linter.all false
set_option maxRecDepth 100000
set_option maxHeartbeats 4000000
section
namespace Lw
open PySem PySem.Spec PyProof.Rows L2 TL FL
local macro_rules | `(tactic| boot_fact) => `(tactic| simp only [nxP_nx, nxP_rt, nxP_ro, nxP_bk, nxP_ct, o_nil, o_brk, o_cnt, o_set, o_own, o_setX, o_ret, o_retN, o_retW, o_retX, o_retO, o_frz, o_drop, o_if, o_for, o_var, o_peek, o_c, opP_some, opP_ite, o_bin, o_nbin, o_cmpE, o_cmp, o_un, o_callB, o_nB, boolP_b, o_tOf, o_and, o_or, o_not, o_andV, o_orV, o_notV, o_ifE, o_chain, o_eB, o_aNil, o_aCons, o_tup, o_lst, o_eL, intP_i, o_pNone, o_pSome, o_sl, listP_l, o_nsl, o_iL, tupP_l, o_iT, o_iR1, o_kR1, o_iR2, o_kR2, o_iEn, o_kEn, o_iZp, o_kZip, strP_s, o_iS, o_m1, o_nm1, o_meth, o_setix, o_aug, o_asg, o_qNil, o_qCons, o_qConsN, o_par2, o_kpar2, o_par3, o_kpar3, o_rNil, o_rCons, o_rConsR, o_callR, o_call, o_callK, o_callW, o_nLc, ownP_own, valP_val, bothP_val, bothP_own, regP_reg, atO_some, Pt.sl, rho0, arSl, wipeR, List.foldl_cons, List.foldl_nil, List.map_cons, List.map_nil, List.length_cons, List.length_nil, List.replicate, List.cons_append, List.nil_append, List.append_nil, List.getElem?_cons_zero, List.getElem?_cons_succ, List.set_cons_zero, List.set_cons_succ, uAdd_int, uSub_int, uLt_int, uLe_int, uGt_int, uGe_int, uMax2_int, uMin2_int, uNeg_int, uLen_list, uLen_tup, uIx_list, uIx_tup, uIsN_n, uNotN_n, uEq_int, uNe_int, uNe_ints, uEq_ints, Nat.zero_le, decide_eq_true_eq, Bool.false_eq_true, if_false, if_true, ite_self])
/-! ### numbers in texts -/
def isD (c : Nat) : Bool := decide (48 ≤ c ∧ c ≤ 57)
theorem mem_digits {c : Nat} : decide (c ∈ ("0123456789" : Str).cps.toList) = isD c := by
  have e : ("0123456789" : Str).cps.toList = [48, 49, 50, 51, 52, 53, 54, 55, 56, 57] := by decide +kernel
  rw [e]
  unfold isD
  rw [Bool.eq_iff_iff]
  simp only [decide_eq_true_eq, List.mem_cons, List.not_mem_nil, or_false]
  omega
theorem uIn_sign {c : Nat} : uIn (.str ⟨#[c]⟩) (.str "0123456789") = some (isD c) := by
  rw [← mem_digits]; rfl
/-- a number that is told rightly -/
def num? (t : Str) : Option Int := if ((tl t).all isD && decide (1 ≤ t.length ∧ t.length ≤ 9)) = true then (if tl t = numL (NumText.digitsVal (tl t)) then some (NumText.digitsVal (tl t)) else none) else none
def numD (o : Option Int) : D := match o with | some n => .int n | none => .none
/-- digits without a leading 0 are a number's own -/
theorem numL_of {l : List Nat} (h : l.all isD = true) (hne : l ≠ []) (h0 : l.head? ≠ some 48 ∨ l = [48]) : numL (NumText.digitsVal l) = l := by
  have key : ∀ (l : List Nat), l.all isD = true → l ≠ [] → (l.head? ≠ some 48 ∨ l = [48]) → numL (l.foldl (fun acc c => acc * 10 + (c - 48)) 0) = l ∧ (l = [48] ∨ 0 < l.foldl (fun acc c => acc * 10 + (c - 48)) 0) := fun l => by
    induction hn : l.length generalizing l with
    | zero =>
      intro _ h
      exact absurd (List.eq_nil_of_length_eq_zero hn) h
    | succ n ih0 =>
      intro h hne h0
      rcases List.eq_nil_or_concat l with rfl | ⟨l', c, rfl⟩
      · exact absurd rfl hne
      rw [List.concat_eq_append] at hn h hne h0 ⊢
      have ih := ih0 l' (by simpa using hn)
      clear ih0
      generalize l' = l at *
      rw [List.all_append, Bool.and_eq_true] at h
      have hc : 48 ≤ c ∧ c ≤ 57 := by
        have := h.2
        simp [isD] at this
        exact this
      rw [List.foldl_append, List.foldl_cons, List.foldl_nil]
      by_cases hl : l = []
      · subst hl
        have e : ([] : List Nat).foldl (fun acc c => acc * 10 + (c - 48)) 0 = 0 := rfl
        rw [e, numL_lt (by omega)]
        refine ⟨by simp; omega, ?_⟩
        rcases h0 with h0 | h0
        · right
          have : c ≠ 48 := fun e => h0 (by rw [e]; rfl)
          omega
        · exact .inl h0
      · have h0' : l.head? ≠ some 48 ∨ l = [48] := by
          rcases h0 with h0 | h0
          · left
            cases l with
            | nil => exact absurd rfl hl
            | cons a r => simpa using h0
          · cases l with
            | nil => exact absurd rfl hl
            | cons a r => simp at h0
        obtain ⟨i1, i2⟩ := ih h.1 hl h0'
        have pos : 0 < l.foldl (fun acc c => acc * 10 + (c - 48)) 0 := by
          rcases i2 with i2 | i2
          · subst i2
            rcases h0 with h0 | h0
            · exact absurd rfl h0
            · simp at h0
          · exact i2
        rw [numL_step (by omega)]
        refine ⟨?_, .inr (by omega)⟩
        rw [show (l.foldl (fun acc c => acc * 10 + (c - 48)) 0 * 10 + (c - 48)) / 10 = l.foldl (fun acc c => acc * 10 + (c - 48)) 0 by omega, i1, show (l.foldl (fun acc c => acc * 10 + (c - 48)) 0 * 10 + (c - 48)) % 10 = c - 48 by omega, show 48 + (c - 48) = c by omega]
  exact (key l h hne h0).1
theorem numL_head {n : Nat} (h : numL n ≠ [48]) : (numL n).head? ≠ some 48 := by
  induction n using Nat.strongRecOn with
  | _ n ih =>
    by_cases hn : n < 10
    · rw [numL_lt hn] at h ⊢
      simp at h ⊢
      exact h
    · rw [numL_step (by omega)] at h ⊢
      have ne : numL (n / 10) ≠ [48] := fun e => by
        have := congrArg NumText.digitsVal e
        rw [numL_val] at this
        have z : NumText.digitsVal [48] = 0 := rfl
        rw [z] at this
        omega
      have i := ih (n / 10) (by omega) ne
      cases e : numL (n / 10) with
      | nil => exact absurd e (numL_ne _)
      | cons a r => rw [e] at i; simpa using i
theorem int_of_digits {t : Str} (h : (tl t).all isD = true) (h1 : 1 ≤ t.length) (h2 : t.length ≤ 9) : intText? t = some ((NumText.digitsVal (tl t) : Nat) : Int) :=
  intText_digits (fun c hc => by
    have := List.all_eq_true.mp h c hc
    simpa [isD] using this) (fun e => by
    have : t.length = (tl t).length := len_tl t
    rw [show tl t = [] from e] at this
    simp at this; omega) (by omega)

theorem signs_len (t : Str) : (t.cps.toList.map fun c => PyData.str ⟨#[c]⟩).length = t.length := by rw [List.length_map]; exact (len_tl t).symm
theorem numberIn {t : Str} (ht : OkT t) (hl : t.length ≤ lim) {st : List RV} {P : D → List RV → Prop} (h : P (numD (num? t)) st) : Okk (F_number_in [.d (.str t)] st) P := by
  unfold F_number_in
  rw [o_runF]
  unfold s_number_in
  rw [o_seq]
  boot_fact
  simp only [uLen_str hl]
  boot_fact
  have comp : ∀ {A : List D → List RV → Prop}, A ((tl t).map fun c => .bool (isD c)) st → Okk (lcL (.nm 1) tYesB (eCmp uIn (eVar 1) (eC (.str "0123456789"))) [some (.val (.str t)), none] (t.cps.toList.map fun c => PyData.str ⟨#[c]⟩) st) A := fun {A} hA => by
    refine okk_lc (g := fun d => match d with | .str ⟨cs⟩ => [.bool (isD (cs.getD 0 0))] | _ => []) _ (fun d hd => ?_) ?_
    · obtain ⟨c, hc, rfl⟩ := List.mem_map.mp hd
      refine ⟨_, rfl, .inr ⟨.bool (isD c), rfl, rfl, ?_⟩⟩
      show ofO ((uIn (.str ⟨#[c]⟩) (.str "0123456789")).map PyData.bool) st = _
      rw [uIn_sign]; rfl
    · rw [List.flatMap_map]
      show A ((tl t).flatMap fun c => [.bool (isD c)]) st
      rw [← List.map_eq_flatMap]
      exact hA
  have no : ¬ ((tl t).all isD && decide (1 ≤ t.length ∧ t.length ≤ 9)) = true → num? t = none := fun h => if_neg h
  by_cases h1 : 1 ≤ t.length
  · rw [if_pos (by omega)]
    by_cases h2 : t.length ≤ 9
    · rw [if_neg (by simp; omega), if_pos (by rw [signs_len]; exact hl)]
      refine comp ?_
      have eA : uAll [.list ((tl t).map fun c => .bool (isD c))] = some (.bool ((tl t).all isD)) := by
        have e : ((tl t).map fun c => PyData.bool (isD c)) = ((tl t).map isD).map PyData.bool := by rw [List.map_map]; rfl
        show (blsOf ((tl t).map fun c => PyData.bool (isD c))).map _ = _
        rw [e, blsOf_map, Option.map_some, List.all_map]; rfl
      rw [eA]
      boot_fact
      by_cases hd : (tl t).all isD = true
      · rw [if_neg (by rw [hd]; simp)]
        have eI : uIntA [.str t] = some (.int (NumText.digitsVal (tl t))) := by
          show (if t.length ≤ 640 then (intText? t).map PyData.int else none) = _
          rw [if_pos (by omega), int_of_digits hd h1 h2]; rfl
        rw [eI]
        have hn : num? t = if tl t = numL (NumText.digitsVal (tl t)) then some (NumText.digitsVal (tl t) : Int) else none := by
          unfold num?
          rw [if_pos (by rw [hd, decide_eq_true ⟨h1, h2⟩]; rfl)]
        obtain ⟨c, r, etl⟩ : ∃ c r, tl t = c :: r := by
          cases e : tl t with
          | nil => rw [len_tl, e] at h1; simp at h1
          | cons c r => exact ⟨c, r, rfl⟩
        have hc : isD c = true := List.all_eq_true.mp hd c (by rw [etl]; exact List.mem_cons_self)
        have hc2 : 48 ≤ c ∧ c ≤ 57 := by simpa [isD] using hc
        have okc : OkT ⟨#[c]⟩ := fun x hx => by
          have : x = c := by simpa [tl] using hx
          omega
        have ok0 : OkT "0" := by
          have e : tl ("0" : Str) = [48] := by decide +kernel
          intro x hx
          rw [e] at hx
          have : x = 48 := by simpa using hx
          omega
        have eX : uIx (.str t) (.int 0) = some (.str ⟨#[c]⟩) := by
          show (if t.length ≤ lim then (atI t.cps.toList 0).map fun c => PyData.str ⟨#[c]⟩ else none) = _
          rw [if_pos hl, show t.cps.toList = c :: r from etl, show (0 : Int) = ((0 : Nat) : Int) from rfl, atI_nat (j := 0) (v := c) rfl]; rfl
        have e0 : ∀ c : Nat, ((⟨#[c]⟩ : Str) = "0") ↔ c = 48 := fun c => by
          have e : ("0" : Str) = ⟨#[48]⟩ := by decide +kernel
          rw [e]
          constructor
          · intro h; injection h with h; simpa using h
          · intro h; rw [h]
        rw [eX]
        boot_fact
        rw [uNe_str okc ok0]
        boot_fact
        rw [hn] at h
        by_cases h48 : c = 48
        · rw [if_neg (by rw [decide_eq_true ((e0 c).mpr h48)]; simp), uEq_str ht ok0]
          boot_fact
          by_cases hz : t = "0"
          · rw [if_pos hz]
            rw [if_pos (by rw [numL_of hd (by rw [etl]; simp) (.inr (by rw [hz]; decide +kernel))])] at h
            exact h
          · rw [if_neg hz]
            rw [if_neg fun e => by
              have q := numL_head (n := NumText.digitsVal (tl t)) (fun z => hz (by
                rw [← e] at z
                have e3 : ("0" : Str) = ⟨#[48]⟩ := by decide +kernel
                rw [e3, ← mk_tl t, z])) 
              rw [← e, etl, h48] at q
              exact q rfl] at h
            exact h
        · rw [if_pos (by rw [decide_eq_false fun z => h48 ((e0 c).mp z)]; rfl)]
          rw [if_pos (by rw [numL_of hd (by rw [etl]; simp) (.inl (by rw [etl]; simpa using h48))])] at h
          exact h
      · rw [if_pos (by simp at hd ⊢; exact hd)]
        rw [no (by simp at hd ⊢; intro z; obtain ⟨x, h1, h2⟩ := hd; exact absurd (z x h1) (by simp [h2]))] at h
        exact h
    · rw [if_pos (by simp; omega)]
      rw [no (by simp; omega)] at h
      exact h
  · rw [if_neg (by omega), if_pos (by decide)]
    rw [no (by simp; omega)] at h
    exact h

def numI (o : Option Int) : Int := match o with | some n => n | none => -1
theorem okT_num (n : Nat) : OkT (Str.ofString (toString ((n : Nat) : Int))) := fun c hc => by
  rw [tl_num] at hc
  have := numL_digits n c hc
  omega
theorem digitsVal_lt {t : Str} (h : (tl t).all isD = true) (h1 : 1 ≤ t.length) (h2 : t.length ≤ 9) : NumText.digitsVal (tl t) < 10 ^ 9 := by
  have key : ∀ (l : List Nat) (a : Nat), l.all isD = true → l.foldl (fun acc c => acc * 10 + (c - 48)) a < (a + 1) * 10 ^ l.length := fun l => by
    induction l with
    | nil => intro a _; simp
    | cons c r ih =>
      intro a h
      rw [List.all_cons, Bool.and_eq_true] at h
      have hc : 48 ≤ c ∧ c ≤ 57 := by simpa [isD] using h.1
      rw [List.foldl_cons]
      refine Nat.lt_of_lt_of_le (ih _ h.2) ?_
      rw [List.length_cons, Nat.pow_succ, Nat.mul_comm (10 ^ r.length) 10, ← Nat.mul_assoc]
      exact Nat.mul_le_mul_right _ (by omega)
  have h3 := key (tl t) 0 h
  have h4 : (tl t).length ≤ 9 := by rw [← len_tl]; exact h2
  have h5 : 10 ^ (tl t).length ≤ 10 ^ 9 := Nat.pow_le_pow_right (by decide) h4
  have h6 : NumText.digitsVal (tl t) = (tl t).foldl (fun acc c => acc * 10 + (c - 48)) 0 := rfl
  omega
theorem numberOf {t : Str} (ht : OkT t) (hl : t.length ≤ lim) {st : List RV} {P : D → List RV → Prop} (h : P (.int (numI (num? t))) st) : Okk (F__law_number_of [.d (.str t)] st) P := by
  unfold F__law_number_of
  rw [o_runF]
  unfold s__law_number_of
  rw [o_seq]
  boot_fact
  rw [if_pos (by rw [signs_len]; exact hl)]
  have comp : ∀ {A : List D → List RV → Prop}, A (((tl t).filter fun c => !isD c).map fun c => .str ⟨#[c]⟩) st → Okk (lcL (.nm 2) (tCmpB uNotIn (eVar 2) (eC (.str "0123456789"))) (eVar 2) [some (.val (.str t)), none, none] (t.cps.toList.map fun c => PyData.str ⟨#[c]⟩) st) A := fun {A} hA => by
    refine okk_lc (g := fun d => match d with | .str ⟨cs⟩ => if isD (cs.getD 0 0) then [] else [.str ⟨#[cs.getD 0 0]⟩] | _ => []) _ (fun d hd => ?_) ?_
    · obtain ⟨c, hc, rfl⟩ := List.mem_map.mp hd
      have e2 : tCmpB uNotIn (eVar 2) (eC (.str "0123456789")) [some (.val (.str t)), none, some (.val (.str ⟨#[c]⟩))] st = .ok (!isD c) st := by
        show ofO ((uIn (.str ⟨#[c]⟩) (.str "0123456789")).map (!·)) st = _
        rw [uIn_sign]; rfl
      refine ⟨_, rfl, ?_⟩
      cases e : isD c with
      | true => exact .inl ⟨by show (if isD c = true then _ else _) = _; rw [e]; rfl, by rw [e] at e2; exact e2⟩
      | false => exact .inr ⟨.str ⟨#[c]⟩, by show (if isD c = true then _ else _) = _; rw [e]; rfl, by rw [e] at e2; exact e2, rfl⟩
    · rw [List.flatMap_map]
      have e3 : ∀ l : List Nat, (l.flatMap fun c => if isD c = true then ([] : List D) else [.str ⟨#[c]⟩]) = (l.filter fun c => !isD c).map fun c => .str ⟨#[c]⟩ := fun l => by
        induction l with
        | nil => rfl
        | cons c r ih =>
          rw [List.flatMap_cons, ih, List.filter_cons]
          cases isD c <;> rfl
      show A ((tl t).flatMap fun c => if isD c = true then ([] : List D) else [.str ⟨#[c]⟩]) st
      rw [e3]
      exact hA
  refine comp ?_
  rw [o_seq]
  boot_fact
  rw [o_seq]
  boot_fact
  have no : ¬ ((tl t).all isD && decide (1 ≤ t.length ∧ t.length ≤ 9)) = true → num? t = none := fun h => if_neg h
  have eN : uNe (.list (((tl t).filter fun c => !isD c).map fun c => .str ⟨#[c]⟩)) (.list []) = some (!(tl t).all isD) := by
    rw [uNe_nil (n := 0) (fun d hd => by
      obtain ⟨c, hc, rfl⟩ := List.mem_map.mp hd
      refine okT_lay fun x hx => ?_
      have e : x = c := by simpa [tl] using hx
      rw [e]
      exact ht c (List.mem_filter.mp hc).1) (by decide), List.isEmpty_map]
    congr 2
    induction tl t with
    | nil => rfl
    | cons c r ih =>
      rw [List.filter_cons, List.all_cons]
      cases isD c with
      | true => simpa using ih
      | false => rfl
  rw [eN]
  simp only [uLen_str hl]
  boot_fact
  by_cases h1 : 1 ≤ t.length
  · rw [if_pos (by omega)]
    by_cases h2 : t.length ≤ 9
    · rw [if_neg (by simp; omega)]
      cases hd : (tl t).all isD with
      | false =>
        rw [no (by rw [hd]; simp)] at h
        exact h
      | true =>
        have eI : uIntA [.str t] = some (.int (NumText.digitsVal (tl t))) := by
          show (if t.length ≤ 640 then (intText? t).map PyData.int else none) = _
          rw [if_pos (by omega), int_of_digits hd h1 h2]; rfl
        have hv := digitsVal_lt hd h1 h2
        have eS : uStr [.int (NumText.digitsVal (tl t))] = some (.str (Str.ofString (toString ((NumText.digitsVal (tl t) : Nat) : Int)))) := by
          show (if _ then _ else none) = _
          rw [if_pos (by
            rw [Int.natAbs_natCast]
            exact Nat.lt_of_lt_of_le (PySem.Flt.log2_lt_of (by decide) (show NumText.digitsVal (tl t) < 2 ^ 40 from Nat.lt_trans hv (by decide))) (by decide))]
        rw [if_neg (by simp)]
        rw [eI]
        boot_fact
        rw [eS]
        boot_fact
        rw [uEq_str (okT_num _) ht]
        boot_fact
        have hn : num? t = if tl t = numL (NumText.digitsVal (tl t)) then some (NumText.digitsVal (tl t) : Int) else none := by
          unfold num?
          rw [if_pos (by rw [hd, decide_eq_true ⟨h1, h2⟩]; rfl)]
        rw [hn] at h
        by_cases he : tl t = numL (NumText.digitsVal (tl t))
        · rw [if_pos he] at h
          rw [if_pos (ext_tl (by rw [tl_num]; exact he.symm))]
          exact h
        · rw [if_neg he] at h
          rw [if_neg fun e => he (by rw [← tl_num, e])]
          exact h
    · rw [if_pos (by simp; omega)]
      rw [no (by simp; omega)] at h
      exact h
  · rw [if_neg (by omega), if_pos (by decide)]
    rw [no (by simp; omega)] at h
    exact h
end Lw
end

/-! O54 -/
set_option Elab.async false
set_option linter.all false
set_option maxRecDepth 100000
set_option maxHeartbeats 4000000
section
namespace Lw
open PySem PySem.Spec PyProof.Rows L2 TL FL
local macro_rules | `(tactic| boot_fact) => `(tactic| simp only [nxP_nx, nxP_rt, nxP_ro, nxP_bk, nxP_ct, o_nil, o_brk, o_cnt, o_set, o_own, o_setX, o_ret, o_retN, o_retW, o_retX, o_retO, o_frz, o_drop, o_if, o_for, o_var, o_peek, o_c, opP_some, opP_ite, o_bin, o_nbin, o_cmpE, o_cmp, o_un, o_callB, o_nB, boolP_b, o_tOf, o_and, o_or, o_not, o_andV, o_orV, o_notV, o_ifE, o_chain, o_eB, o_aNil, o_aCons, o_tup, o_lst, o_eL, intP_i, o_pNone, o_pSome, o_sl, listP_l, o_nsl, o_iL, tupP_l, o_iT, o_iR1, o_kR1, o_iR2, o_kR2, o_iEn, o_kEn, o_iZp, o_kZip, strP_s, o_iS, o_m1, o_nm1, o_meth, o_setix, o_aug, o_asg, o_qNil, o_qCons, o_qConsN, o_par2, o_kpar2, o_par3, o_kpar3, o_rNil, o_rCons, o_rConsR, o_callR, o_call, o_callK, o_callW, o_nLc, ownP_own, valP_val, bothP_val, bothP_own, regP_reg, atO_some, Pt.sl, rho0, arSl, wipeR, List.foldl_cons, List.foldl_nil, List.map_cons, List.map_nil, List.length_cons, List.length_nil, List.replicate, List.cons_append, List.nil_append, List.append_nil, List.getElem?_cons_zero, List.getElem?_cons_succ, List.set_cons_zero, List.set_cons_succ, uAdd_int, uSub_int, uLt_int, uLe_int, uGt_int, uGe_int, uMax2_int, uMin2_int, uNeg_int, uLen_list, uLen_tup, uIx_list, uIx_tup, uIsN_n, uNotN_n, uEq_int, uNe_int, uNe_ints, uEq_ints, Nat.zero_le, decide_eq_true_eq, Bool.false_eq_true, if_false, if_true, ite_self])
/-! ### lists in texts -/
def dash : Str := "-"
def dot : Str := "."
def blank : Str := " "
theorem okT_lit {s : Str} (h : (tl s).all (fun c => decide (c < 0x110000)) = true) : OkT s := fun c hc => of_decide_eq_true (List.all_eq_true.mp h c hc)
theorem okT_dash : OkT dash := okT_lit (by decide +kernel)
theorem okT_dot : OkT dot := okT_lit (by decide +kernel)
theorem okT_blank : OkT blank := okT_lit (by decide +kernel)
def rd (p : Str) : Option (Option Int) := if p = dash then some none else match num? p with
  | some n => if 1 ≤ n then some (some n) else none
  | none => none
abbrev pcs (t : Str) : List Str := Txt.split t blank
def vals (ps : List Str) : List D := (ps.filterMap rd).map numD
def good (t : Str) : Bool := (pcs t).all fun p => (rd p).isSome
theorem vals_take {ps : List Str} {j : Nat} {p : Str} {o : Option Int} (h : ps[j]? = some p) (e : rd p = some o) : vals (ps.take (j + 1)) = vals (ps.take j) ++ [numD o] := by
  unfold vals
  rw [List.take_add_one, h, List.filterMap_append, List.map_append]
  simp [e]
theorem vals_len (ps : List Str) : (vals ps).length ≤ ps.length := by
  unfold vals
  rw [List.length_map]
  exact List.length_filterMap_le _ _
theorem split_blank {t : Str} (hl : t.length ≤ 100000) : uSplit (.str t) (.str blank) = some (strsD (pcs t)) := by
  show (if blank.length ≠ 0 ∧ t.length + 2 ≤ lim then _ else none) = _
  rw [if_pos ⟨by decide +kernel, by rw [lim]; omega⟩]
theorem pcs_len {t : Str} : (pcs t).length ≤ t.length + 1 := cnt_split (by decide +kernel)
/-- what a piece gives in the program's loop -/
theorem piece_ok {p t : Str} {st : List RV} {P : Fl → List RV → Prop} {l : List D} {o : Option Int} {x y : Option Sl} (hp : OkT p) (hpl : p.length ≤ lim) (hl : l.length < lim) (e : rd p = some o)
    (h : P (.nx [some (.val (.str t)), some (.own (l ++ [numD o])), some (.val (.str p)), some (.val (numD o))]) st) :
    Okk (sSeq (sSet 3 (eIf (tCmpB uNe (eVar 2) (eC (.str "-"))) (eCall (F_number_in) [] (aCons (eVar 2) aNil)) (eC .none)))
 (sSeq (sIf (tAndB (tCmpB uNe (eVar 2) (eC (.str "-"))) (tOrB (tCmpB uIsN (eVar 3) (eC .none)) (tCmpB uLt (eVar 3) (eC (.int 1))))) (sRaise 3 (eVar 0)) sNil)
 (sMeth 1 mAppend (aCons (eVar 3) aNil))) [some (.val (.str t)), some (.own l), some (.val (.str p)), y] st) P := by
  have e1 : uNe (.str p) (.str "-") = some (!decide (p = dash)) := uNe_str hp okT_dash
  unfold rd at e
  rw [o_seq]
  boot_fact
  rw [e1]
  boot_fact
  by_cases hd : p = dash
  · rw [if_neg (by rw [decide_eq_true hd]; simp)]
    rw [if_pos hd] at e
    cases e
    rw [o_seq]
    boot_fact
    rw [e1]
    boot_fact
    rw [if_neg (by rw [decide_eq_true hd]; simp), mAppend_one hl]
    exact h
  · rw [if_pos (by rw [decide_eq_false hd]; rfl)]
    rw [if_neg hd] at e
    refine numberIn hp hpl ?_
    cases en : num? p with
    | none => rw [en] at e; cases e
    | some n =>
      rw [en] at e
      by_cases h1 : 1 ≤ n
      · have e : (if 1 ≤ n then some (some n) else none) = some o := e
        rw [if_pos h1] at e
        cases e
        rw [o_seq]
        boot_fact
        rw [e1]
        boot_fact
        rw [if_pos (by rw [decide_eq_false hd]; rfl)]
        show if (FL.isNon (.int n)) = true then _ else _
        rw [if_neg (by simp [FL.isNon])]
        show opP (uLt (.int n) (.int 1)) _
        rw [uLt_int]
        boot_fact
        rw [if_neg (by omega), mAppend_one hl]
        exact h
      · have e : (if 1 ≤ n then some (some n) else none) = some o := e
        rw [if_neg h1] at e
        cases e

theorem piece_bad {p t : Str} {st : List RV} {l : List D} {y : Option Sl} (hp : OkT p) (hpl : p.length ≤ lim) (e : rd p = none) :
    (sSeq (sSet 3 (eIf (tCmpB uNe (eVar 2) (eC (.str "-"))) (eCall (F_number_in) [] (aCons (eVar 2) aNil)) (eC .none)))
 (sSeq (sIf (tAndB (tCmpB uNe (eVar 2) (eC (.str "-"))) (tOrB (tCmpB uIsN (eVar 3) (eC .none)) (tCmpB uLt (eVar 3) (eC (.int 1))))) (sRaise 3 (eVar 0)) sNil)
 (sMeth 1 mAppend (aCons (eVar 3) aNil)))) [some (.val (.str t)), some (.own l), some (.val (.str p)), y] st = .err 3 (.str t) st := by
  have e1 : uNe (.str p) (.str "-") = some (!decide (p = dash)) := uNe_str hp okT_dash
  unfold rd at e
  have hd : p ≠ dash := fun h => by rw [if_pos h] at e; cases e
  rw [if_neg hd] at e
  have tail : ∀ d : D, d = numD (num? p) → (sSeq (sIf (tAndB (tCmpB uNe (eVar 2) (eC (.str "-"))) (tOrB (tCmpB uIsN (eVar 3) (eC .none)) (tCmpB uLt (eVar 3) (eC (.int 1))))) (sRaise 3 (eVar 0)) sNil)
 (sMeth 1 mAppend (aCons (eVar 3) aNil))) [some (.val (.str t)), some (.own l), some (.val (.str p)), some (.val d)] st = .err 3 (.str t) st := fun d hdd => by
    refine ers_seq1 (ers_bind ?_)
    boot_fact
    rw [e1]
    boot_fact
    rw [if_pos (by rw [decide_eq_false hd]; rfl)]
    subst hdd
    cases en : num? p with
    | none =>
      show if (FL.isNon .none) = true then _ else _
      rw [if_pos (by rfl)]
      rfl
    | some n =>
      rw [en] at e
      have e : (if 1 ≤ n then some (some n) else none) = none := e
      show if (FL.isNon (.int n)) = true then _ else _
      rw [if_neg (by simp [FL.isNon])]
      show opP (uLt (.int n) (.int 1)) _
      rw [uLt_int]
      show (if (decide (n < 1)) = true then _ else _) = _
      rw [if_pos (by
        apply decide_eq_true
        by_cases h1 : 1 ≤ n
        · rw [if_pos h1] at e; cases e
        · omega)]
      rfl
  refine ers_seq ?_
  boot_fact
  rw [e1]
  boot_fact
  rw [if_pos (by rw [decide_eq_false hd]; rfl)]
  refine numberIn hp hpl ?_
  exact tail _ rfl
theorem readDot {st : List RV} {P : D → List RV → Prop} (h : P (.list []) st) : Okk (F_read_writes [.d (.str dot)] st) P := by
  unfold F_read_writes
  rw [o_runF]
  unfold s_read_writes
  have e : uEq (.str dot) (.str ".") = some (decide (dot = dot)) := uEq_str okT_dot okT_dot
  rw [o_seq]
  boot_fact
  rw [e]
  boot_fact
  exact h
theorem pcs_get {t : Str} (ht : OkT t) (hl : t.length ≤ 100000) {j : Nat} {x : D} (h : (strsD (pcs t))[j]? = some x) : ∃ p, (pcs t)[j]? = some p ∧ x = .str p ∧ OkT p ∧ p.length ≤ lim := by
  unfold strsD at h
  rw [List.getElem?_map] at h
  cases e : (pcs t)[j]? with
  | none => rw [e] at h; cases h
  | some p =>
    rw [e] at h
    cases h
    have hm := List.mem_of_getElem? e
    have := len_split hm
    exact ⟨p, rfl, rfl, okT_split ht hm, by rw [lim]; omega⟩
theorem readGood {t : Str} (ht : OkT t) (hl : t.length ≤ 100000) (hd : t ≠ dot) (hg : good t = true) {st : List RV} {P : D → List RV → Prop} (h : P (.list (vals (pcs t))) st) : Okk (F_read_writes [.d (.str t)] st) P := by
  unfold F_read_writes
  rw [o_runF]
  unfold s_read_writes
  have e : uEq (.str t) (.str ".") = some (decide (t = dot)) := uEq_str ht okT_dot
  rw [o_seq]
  boot_fact
  rw [e]
  boot_fact
  rw [if_neg hd, o_seq]
  boot_fact
  rw [o_seq]
  boot_fact
  rw [show uSplit (.str t) (.str " ") = _ from split_blank hl]
  boot_fact
  have hlen := pcs_len (t := t)
  refine okk_for (fun i rh st' => st' = st ∧ rh = [some (.val (.str t)), some (.own (vals ((pcs t).take i))), none, none]) _ 0 _ _ ⟨rfl, rfl⟩ (fun j d rh st' hdj hI => ?_) (fun rh st' hI => ?_)
  · obtain ⟨rfl, rfl⟩ := hI
    obtain ⟨p, hp, rfl, hok, hpl⟩ := pcs_get ht hl hdj
    have hr : (rd p).isSome = true := List.all_eq_true.mp hg p (List.mem_of_getElem? hp)
    obtain ⟨o, ho⟩ := Option.isSome_iff_exists.mp hr
    refine ⟨_, rfl, ?_⟩
    refine piece_ok (x := none) hok hpl ?_ ho ?_
    · have h1 := vals_len ((pcs t).take (0 + j))
      have h2 : ((pcs t).take (0 + j)).length ≤ (pcs t).length := by rw [List.length_take]; exact Nat.min_le_right _ _
      rw [lim]; omega
    · refine ⟨rfl, ?_⟩
      rw [Nat.zero_add, vals_take hp ho]
      rfl
  · obtain ⟨rfl, rfl⟩ := hI
    boot_fact
    rw [Nat.zero_add, show (strsD (pcs t)).length = (pcs t).length from List.length_map _, List.take_length]
    rw [o_seq]
    boot_fact
    exact h
theorem readBad {t : Str} (ht : OkT t) (hl : t.length ≤ 100000) (hd : t ≠ dot) (hg : good t = false) : F_read_writes [.d (.str t)] [] = .err 3 (.str t) [] := by
  unfold F_read_writes runF
  refine ers_bind1 ?_
  unfold s_read_writes
  have e : uEq (.str t) (.str ".") = some (decide (t = dot)) := uEq_str ht okT_dot
  refine ers_seq ?_
  boot_fact
  rw [e]
  boot_fact
  rw [if_neg hd]
  refine ers_seq ?_
  boot_fact
  refine ers_seq1 ?_
  unfold sFor
  refine ers_bind ?_
  boot_fact
  rw [show uSplit (.str t) (.str " ") = _ from split_blank hl]
  boot_fact
  have hlen := pcs_len (t := t)
  -- the first bad piece
  obtain ⟨i, p, hp, hr, hb⟩ : ∃ i p, (pcs t)[i]? = some p ∧ rd p = none ∧ ∀ j q, j < i → (pcs t)[j]? = some q → (rd q).isSome = true := by
    unfold good at hg
    have : ∀ l : List Str, (l.all fun p => (rd p).isSome) = false → ∃ i p, l[i]? = some p ∧ rd p = none ∧ ∀ j q, j < i → l[j]? = some q → (rd q).isSome = true := fun l => by
      induction l with
      | nil => intro h; cases h
      | cons a r ih =>
        intro h
        rw [List.all_cons] at h
        cases ea : rd a with
        | none => exact ⟨0, a, rfl, ea, fun j q hj => absurd hj (Nat.not_lt_zero _)⟩
        | some o =>
          rw [ea] at h
          obtain ⟨i, p, h1, h2, h3⟩ := ih (by simpa using h)
          refine ⟨i + 1, p, by simpa using h1, h2, fun j q hj hq => ?_⟩
          cases j with
          | zero =>
            have e : a = q := Option.some.inj hq
            subst e; rw [ea]; rfl
          | succ j => exact h3 j q (by omega) hq
    exact this _ hg
  refine ers_for (fun i rh st' => st' = [] ∧ rh = [some (.val (.str t)), some (.own (vals ((pcs t).take i))), none, none]) i _ 0 _ _ ⟨rfl, rfl⟩ ?_ (fun j d rh st' hj hdj hI => ?_) (fun x rh st' hx hI => ?_)
  · rw [show (strsD (pcs t)).length = (pcs t).length from List.length_map _]
    exact (List.getElem?_eq_some_iff.mp hp).1
  · obtain ⟨rfl, rfl⟩ := hI
    obtain ⟨q, hq, rfl, hok, hpl⟩ := pcs_get ht hl hdj
    obtain ⟨o, ho⟩ := Option.isSome_iff_exists.mp (hb j q hj hq)
    refine ⟨_, rfl, ?_⟩
    refine piece_ok (x := none) hok hpl ?_ ho ?_
    · have h1 := vals_len ((pcs t).take (0 + j))
      have h2 : ((pcs t).take (0 + j)).length ≤ (pcs t).length := by rw [List.length_take]; exact Nat.min_le_right _ _
      rw [lim]; omega
    · refine ⟨rfl, ?_⟩
      rw [Nat.zero_add, vals_take hq ho]
      rfl
  · obtain ⟨rfl, rfl⟩ := hI
    obtain ⟨q, hq, rfl, hok, hpl⟩ := pcs_get ht hl hx
    rw [hp] at hq
    cases hq
    exact ⟨_, rfl, piece_bad hok hpl hr⟩

theorem num_facts {p : Str} {n : Int} (h : num? p = some n) : uIntA [.str p] = some (.int n) ∧ 0 ≤ n ∧ n < 10 ^ 9 ∧ p = Str.ofString (toString n) := by
  unfold num? at h
  split at h
  · rename_i hc
    rw [Bool.and_eq_true] at hc
    obtain ⟨hd, hl⟩ := hc
    have hl := of_decide_eq_true hl
    split at h
    · rename_i he
      cases h
      have hv := digitsVal_lt hd hl.1 hl.2
      refine ⟨?_, by omega, by exact_mod_cast hv, ext_tl (by rw [tl_num]; exact he)⟩
      show (if p.length ≤ 640 then (intText? p).map PyData.int else none) = _
      rw [if_pos (by omega), int_of_digits hd hl.1 hl.2]; rfl
    · cases h
  · cases h
theorem okk_imp_eq {α : Type} {o : Out α} {P Q : α → List RV → Prop} (h : Okk o P) (e : ∀ a st, P a st = Q a st) : Okk o Q := h.imp fun a st h => by rw [← e]; exact h
def owed (t : Str) : D := if t = dot then .list [.list []] else if good t = true then .list [.list (vals (pcs t))] else .list []
theorem writesOf {t : Str} (ht : OkT t) (hl : t.length ≤ 100000) {st : List RV} {P : D → List RV → Prop} (h : P (owed t) st) : Okk (F__law_writes_of [.d (.str t)] st) P := by
  unfold F__law_writes_of
  rw [o_runF]
  unfold s__law_writes_of
  have e : uEq (.str t) (.str ".") = some (decide (t = dot)) := uEq_str ht okT_dot
  rw [o_seq]
  boot_fact
  rw [e]
  boot_fact
  unfold owed at h
  by_cases hd : t = dot
  · rw [if_pos hd] at h ⊢
    rw [if_pos (by decide)]
    exact h
  rw [if_neg hd] at h ⊢
  rw [o_seq]
  boot_fact
  rw [o_seq]
  boot_fact
  rw [show uSplit (.str t) (.str " ") = _ from split_blank hl]
  boot_fact
  have hlen := pcs_len (t := t)
  refine okk_for (fun i rh st' => st' = st ∧ rh = [some (.val (.str t)), some (.own (vals ((pcs t).take i))), none] ∧ ∀ j q, j < i → (pcs t)[j]? = some q → (rd q).isSome = true) _ 0 _ _ ⟨rfl, rfl, fun j q hj => absurd hj (Nat.not_lt_zero _)⟩ (fun j d rh st' hdj hI => ?_) (fun rh st' hI => ?_)
  · obtain ⟨rfl, rfl, hb⟩ := hI
    obtain ⟨p, hp, rfl, hok, hpl⟩ := pcs_get ht hl hdj
    have e1 : uEq (.str p) (.str "-") = some (decide (p = dash)) := uEq_str hok okT_dash
    have hla : (vals ((pcs t).take (0 + j))).length < lim := by
      have h1 := vals_len ((pcs t).take (0 + j))
      have h2 : ((pcs t).take (0 + j)).length ≤ (pcs t).length := by rw [List.length_take]; exact Nat.min_le_right _ _
      rw [lim]; omega
    have go : ∀ o, rd p = some o → ∀ d, d = numD o → (st' = st' ∧ [some (Sl.val (.str t)), some (.own (vals ((pcs t).take (0 + j)) ++ [d])), none] = [some (.val (.str t)), some (.own (vals ((pcs t).take (0 + j + 1)))), none] ∧ ∀ i q, i < 0 + j + 1 → (pcs t)[i]? = some q → (rd q).isSome = true) := fun o ho d hdo => by
      subst hdo
      refine ⟨rfl, ?_, fun i q hi hq => ?_⟩
      · rw [Nat.zero_add, vals_take hp ho]
      · by_cases hij : i < 0 + j
        · exact hb i q hij hq
        · have : i = j := by omega
          subst this
          rw [hp] at hq
          cases hq
          rw [ho]; rfl
    refine ⟨_, rfl, ?_⟩
    boot_fact
    rw [e1]
    boot_fact
    by_cases hda : p = dash
    · rw [if_pos hda, mAppend_one hla]
      exact ⟨trivial, (go none (by unfold rd; rw [if_pos hda]) .none rfl).2⟩
    · rw [if_neg hda]
      refine numberOf hok hpl ?_
      boot_fact
      cases en : num? p with
      | none =>
        show if (0 : Int) < -1 then _ else _
        rw [if_neg (by decide)]
        have hr : rd p = none := by unfold rd; rw [if_neg hda, en]
        rw [if_neg (fun hg => by
          have := List.all_eq_true.mp hg p (List.mem_of_getElem? hp)
          rw [hr] at this; cases this)] at h
        exact h
      | some n =>
        obtain ⟨eI, n0, n1, n2⟩ := num_facts en
        show if (0 : Int) < n then _ else _
        by_cases hn : 0 < n
        · rw [if_pos hn, eI]
          boot_fact
          rw [mAppend_one hla]
          exact ⟨trivial, (go (some n) (by unfold rd; rw [if_neg hda, en]; exact if_pos (by omega)) (.int n) rfl).2⟩
        · rw [if_neg hn]
          have hr : rd p = none := by unfold rd; rw [if_neg hda, en]; exact if_neg (by omega)
          rw [if_neg (fun hg => by
            have := List.all_eq_true.mp hg p (List.mem_of_getElem? hp)
            rw [hr] at this; cases this)] at h
          exact h
  · obtain ⟨rfl, rfl, hb⟩ := hI
    boot_fact
    rw [o_seq]
    boot_fact
    rw [if_pos (by decide)]
    have hg : good t = true := by
      unfold good
      rw [List.all_eq_true]
      intro p hp
      obtain ⟨j, hj, e⟩ := List.mem_iff_getElem.mp hp
      refine hb j p ?_ (by rw [List.getElem?_eq_getElem hj, e])
      rw [Nat.zero_add, show (strsD (pcs t)).length = (pcs t).length from List.length_map _]
      exact hj
    rw [if_pos hg] at h
    rw [Nat.zero_add, show (strsD (pcs t)).length = (pcs t).length from List.length_map _, List.take_length]
    exact h

theorem show_piece {p : Str} {o : Option Int} (h : rd p = some o) : (match o with | none => p = dash | some n => 0 ≤ n ∧ n < 10 ^ 9 ∧ p = Str.ofString (toString n)) := by
  unfold rd at h
  by_cases hd : p = dash
  · rw [if_pos hd] at h; cases h; exact hd
  · rw [if_neg hd] at h
    cases en : num? p with
    | none => rw [en] at h; cases h
    | some n =>
      rw [en] at h
      have h : (if 1 ≤ n then some (some n) else none) = some o := h
      split at h
      · cases h
        obtain ⟨_, n0, n1, n2⟩ := num_facts en
        exact ⟨n0, n1, n2⟩
      · cases h
theorem showGood {t : Str} (hl : t.length ≤ 100000) (hg : good t = true) {st : List RV} {P : D → List RV → Prop} (h : P (.str t) st) : Okk (F_show_writes [.d (.list (vals (pcs t)))] st) P := by
  unfold F_show_writes
  rw [o_runF]
  unfold s_show_writes
  boot_fact
  have hlen := pcs_len (t := t)
  have hall : ∀ p ∈ pcs t, ∃ o, rd p = some o := fun p hp => Option.isSome_iff_exists.mp (List.all_eq_true.mp hg p hp)
  have hv : vals (pcs t) = (pcs t).map fun p => numD ((rd p).getD none) := by
    unfold vals
    have : ∀ l : List Str, (∀ p ∈ l, ∃ o, rd p = some o) → (l.filterMap rd).map numD = l.map fun p => numD ((rd p).getD none) := fun l => by
      induction l with
      | nil => intro _; rfl
      | cons a r ih =>
        intro h
        obtain ⟨o, ho⟩ := h a List.mem_cons_self
        rw [List.filterMap_cons, ho, List.map_cons, List.map_cons, ih fun p hp => h p (List.mem_cons_of_mem _ hp), ho]; rfl
    exact this _ hall
  have hne : (0 : Int) < ((vals (pcs t)).length : Int) := by
    have h1 : (vals (pcs t)).length = (pcs t).length := by rw [hv, List.length_map]
    have h2 : (pcs t).length ≠ 0 := fun e => split_ne (List.eq_nil_of_length_eq_zero e)
    omega
  rw [if_pos hne, if_pos (by rw [hv, List.length_map, lim]; omega)]
  refine okk_lc (A := fun ds st => opP (uJoin (.str " ") (.list ds)) fun d => P d st) (g := fun d => match d with | .int n => [.str (Str.ofString (toString n))] | _ => [.str dash]) _ (fun d hd => ?_) ?_
  · rw [hv] at hd
    obtain ⟨p, hp, rfl⟩ := List.mem_map.mp hd
    obtain ⟨o, ho⟩ := hall p hp
    have hs := show_piece ho
    rw [ho]
    refine ⟨_, rfl, .inr ?_⟩
    cases o with
    | none => exact ⟨.str dash, rfl, rfl, rfl⟩
    | some n =>
      obtain ⟨n0, n1, n2⟩ := hs
      refine ⟨.str (Str.ofString (toString n)), rfl, rfl, ?_⟩
      have eS : uStr [.int n] = some (.str (Str.ofString (toString n))) := by
        show (if _ then _ else none) = _
        rw [if_pos (by
          have h3 : n.natAbs < 2 ^ 40 := by omega
          exact Nat.lt_of_lt_of_le (PySem.Flt.log2_lt_of (by decide) h3) (by decide))]
      show ofO (uStr [.int n]) st = _
      rw [eS]; rfl
  · have e2 : (vals (pcs t)).flatMap (fun d => match d with | .int n => [PyData.str (Str.ofString (toString n))] | _ => [.str dash]) = (pcs t).map PyData.str := by
      rw [hv, List.flatMap_map]
      have : ∀ l : List Str, (∀ p ∈ l, ∃ o, rd p = some o) → (l.flatMap fun p => match numD ((rd p).getD none) with | .int n => [PyData.str (Str.ofString (toString n))] | _ => [.str dash]) = l.map PyData.str := fun l => by
        induction l with
        | nil => intro _; rfl
        | cons a r ih =>
          intro h
          obtain ⟨o, ho⟩ := h a List.mem_cons_self
          have hs := show_piece ho
          rw [List.flatMap_cons, ih fun p hp => h p (List.mem_cons_of_mem _ hp), ho, List.map_cons]
          cases o with
          | none => rw [show a = dash from hs]; rfl
          | some n => conv => { rhs; rw [show a = _ from hs.2.2] }; rfl
      exact this _ hall
    rw [e2]
    have e3 : uJoin (.str " ") (.list ((pcs t).map PyData.str)) = some (.str t) := by
      show (strsOf ((pcs t).map PyData.str)).bind _ = _
      rw [strsOf_map]
      show (if _ then some (PyData.str (Txt.join blank (pcs t))) else none) = _
      have hs := size_join blank (pcs t)
      rw [join_split] at hs
      have hb : blank.length = 1 := by decide +kernel
      rw [if_pos (by
        rw [lim]
        show _ + _ * blank.length ≤ _
        rw [hb] at hs ⊢
        omega), join_split]
    rw [e3]
    exact h
theorem showDot {st : List RV} {P : D → List RV → Prop} (h : P (.str dot) st) : Okk (F_show_writes [.d (.list [])] st) P := by
  unfold F_show_writes
  rw [o_runF]
  unfold s_show_writes
  boot_fact
  exact h
theorem caughtAll {t : Str} {way : Int} (ht : OkT t) (hl : t.length ≤ 100000) {st : List RV} {P : D → List RV → Prop} (h : P (owed t) st) : Okk (F__law_caught_writes [.d (.str t), .d (.int way)] st) P := by
  unfold F__law_caught_writes
  rw [o_runF]
  unfold s__law_caught_writes
  rw [o_seq]
  boot_fact
  rw [o_seq]
  unfold owed at h
  have fin : ∀ (d : D) (x y z : Option (Sl)), P d st → Okk (sRet (eVar 2) [some (.val (.str t)), some (.val (.int way)), some (.val d), x, y, z] st) (fun f st => match f with | .rt d => P d st | .ro ds => P (.list ds) st | .nx _ => P .none st | _ => False) := fun d x y z h => by
    boot_fact
    exact h
  have okRead : ∀ {st : List RV} {Q : D → List RV → Prop}, (t = dot ∨ good t = true) → Q (.list (if t = dot then [] else vals (pcs t))) st → Okk (F_read_writes [.d (.str t)] st) Q := fun {st Q} hg hq => by
    by_cases hd : t = dot
    · rw [if_pos hd] at hq
      rw [hd]
      exact readDot hq
    · rw [if_neg hd] at hq
      exact readGood ht hl hd (hg.resolve_left hd) hq
  have okShow : ∀ {st : List RV} {Q : D → List RV → Prop}, (t = dot ∨ good t = true) → Q (.str t) st → Okk (F_show_writes [.d (.list (if t = dot then [] else vals (pcs t)))] st) Q := fun {st Q} hg hq => by
    by_cases hd : t = dot
    · rw [if_pos hd]
      rw [hd] at hq
      exact showDot hq
    · rw [if_neg hd]
      exact showGood hl (hg.resolve_left hd) hq
  by_cases hg : t = dot ∨ good t = true
  · refine o_try_ok rfl ?_
    rw [o_seq]
    boot_fact
    have go : Okk (F_read_writes [.d (.str t)] []) (fun d x => Okk (F_show_writes [.d d] []) fun d_1 x => opP (uEq d_1 (.str t)) fun d_2 => if d_2 = true then if 0 + 1 ≤ 16777216 then P (.list [d]) st else False else if 0 + 1 ≤ 16777216 then P (.list [.str "other"]) st else False) := by
      refine okRead hg ?_
      refine okShow hg ?_
      rw [uEq_str ht ht]
      boot_fact
      rw [if_pos (by decide)]
      by_cases hd : t = dot
      · rw [if_pos hd] at h ⊢
        exact h
      · rw [if_neg hd] at h ⊢
        rw [if_pos (hg.resolve_left hd)] at h
        exact h
    split
    · exact go
    · exact go
  · have hd : t ≠ dot := fun e => hg (.inl e)
    have hb : good t = false := by
      cases e : good t with
      | true => exact absurd (.inr e) hg
      | false => rfl
    rw [if_neg hd, if_neg (by rw [hb]; simp)] at h
    have eb := readBad ht hl hd hb
    refine o_try_err (c := 3) (d := .str t) (st2 := st) rfl ?_ rfl ?_
    · refine ers_seq1 (ers_bind1 ?_)
      unfold eIf
      refine ers_bind ?_
      boot_fact
      split
      · exact runP_err eb
      · exact runP_err eb
    · rw [o_seq]
      boot_fact
      rw [o_isX rfl, o_isX rfl]
      boot_fact
      rw [if_neg (by decide), if_neg (by decide), o_xv rfl, uNe_str ht ht]
      boot_fact
      rw [if_neg (by simp)]
      exact h
end Lw
end

/-! P54 -/
set_option Elab.async false
set_option linter.all false
set_option maxRecDepth 100000
set_option maxHeartbeats 4000000
section
namespace Lw
open PySem PySem.Spec PyProof.Rows L2 TL FL
local macro_rules | `(tactic| boot_fact) => `(tactic| simp only [nxP_nx, nxP_rt, nxP_ro, nxP_bk, nxP_ct, o_nil, o_brk, o_cnt, o_set, o_own, o_setX, o_ret, o_retN, o_retW, o_retX, o_retO, o_frz, o_drop, o_if, o_for, o_var, o_peek, o_c, opP_some, opP_ite, o_bin, o_nbin, o_cmpE, o_cmp, o_un, o_callB, o_nB, boolP_b, o_tOf, o_and, o_or, o_not, o_andV, o_orV, o_notV, o_ifE, o_chain, o_eB, o_aNil, o_aCons, o_tup, o_lst, o_eL, intP_i, o_pNone, o_pSome, o_sl, listP_l, o_nsl, o_iL, tupP_l, o_iT, o_iR1, o_kR1, o_iR2, o_kR2, o_iEn, o_kEn, o_iZp, o_kZip, strP_s, o_iS, o_m1, o_nm1, o_meth, o_setix, o_aug, o_asg, o_qNil, o_qCons, o_qConsN, o_par2, o_kpar2, o_par3, o_kpar3, o_rNil, o_rCons, o_rConsR, o_callR, o_call, o_callK, o_callW, o_nLc, ownP_own, valP_val, bothP_val, bothP_own, regP_reg, atO_some, Pt.sl, rho0, arSl, wipeR, List.foldl_cons, List.foldl_nil, List.map_cons, List.map_nil, List.length_cons, List.length_nil, List.replicate, List.cons_append, List.nil_append, List.append_nil, List.getElem?_cons_zero, List.getElem?_cons_succ, List.set_cons_zero, List.set_cons_succ, uAdd_int, uSub_int, uLt_int, uLe_int, uGt_int, uGe_int, uMax2_int, uMin2_int, uNeg_int, uLen_list, uLen_tup, uIx_list, uIx_tup, uIsN_n, uNotN_n, uEq_int, uNe_int, uNe_ints, uEq_ints, Nat.zero_le, decide_eq_true_eq, Bool.false_eq_true, if_false, if_true, ite_self])
/-! ### drawn texts -/
def Tx (n : Nat) (d : D) : Prop := ∃ s, d = .str s ∧ OkT s ∧ s.length ≤ n
def Menu (n : Nat) (l : List D) : Prop := ∀ d ∈ l, Tx n d
theorem menu_app {n : Nat} {a b : List D} (ha : Menu n a) (hb : Menu n b) : Menu n (a ++ b) := fun d hd => by
  rcases List.mem_append.mp hd with h | h
  · exact ha d h
  · exact hb d h
theorem menu_lits {n : Nat} (ss : List Str) (h : (ss.all fun s => (tl s).all (fun c => decide (c < 0x110000)) && decide (s.length ≤ n)) = true) : Menu n (ss.map PyData.str) := fun d hd => by
  obtain ⟨s, hs, rfl⟩ := List.mem_map.mp hd
  have := List.all_eq_true.mp h s hs
  rw [Bool.and_eq_true] at this
  exact ⟨s, rfl, okT_lit this.1, of_decide_eq_true this.2⟩
theorem menu_cons {n : Nat} {s : Str} {l : List D} (h1 : OkT s) (h2 : s.length ≤ n) (h : Menu n l) : Menu n (.str s :: l) := fun d hd => by
  rcases List.mem_cons.mp hd with rfl | hd
  · exact ⟨s, rfl, h1, h2⟩
  · exact h d hd
theorem menu_nil {n : Nat} : Menu n [] := fun d hd => by cases hd
theorem okT_revS {s : Str} (h : OkT s) : OkT (revS s) := fun c hc => by
  have hc : c ∈ (List.filterMap (s.cps[·]?) (Builtin.Str.strSliceIndices none none (-1) s.length)).toArray.toList := hc
  rw [List.toList_toArray] at hc
  obtain ⟨i, _, hi⟩ := List.mem_filterMap.mp hc
  exact h c (by rw [tl]; exact Array.mem_toList_iff.mpr (Array.mem_of_getElem? hi))
theorem okT_repl {x y z : Str} (hx : OkT x) (hz : OkT z) : OkT (Txt.replace x y z) := by
  unfold Txt.replace
  split
  · exact hx
  · have e : Builtin.Str.glued z (Builtin.Str.partsBetween x (Builtin.Str.occurrences x y 0 x.length (x.length + 1)) y.length) = Txt.join z (Builtin.Str.partsBetween x (Builtin.Str.occurrences x y 0 x.length (x.length + 1)) y.length) := rfl
    rw [e]
    refine okT_join hz fun p hp c hc => hx c ?_
    rw [← StrLaws.glued_between_self x y (x.length + 1)]
    show c ∈ tl (Txt.join y _)
    rw [tl_joinT]
    exact joinL_mem (List.mem_map_of_mem hp) hc
theorem len_repl {x y z : Str} : (Txt.replace x y z).length ≤ x.length + (x.length + 1) * z.length := TK.replace_len x y z
theorem okT_cut {s : Str} (h : OkT s) (lo hi : Option Int) : OkT (cutS s lo hi) := fun c hc => by
  have hc : c ∈ (((tl s).drop (HT.sIx s.length 0 lo)).take (HT.sIx s.length s.length hi - HT.sIx s.length 0 lo)) := hc
  exact h c (List.mem_of_mem_drop (List.mem_of_mem_take hc))
theorem joinStrsG {b : Str} {ss : List Str} {n : Nat} (hb0 : OkT b) (hb : b.length = 1) (h : ∀ s ∈ ss, OkT s ∧ s.length ≤ n) (hn : ss.length * (n + 1) ≤ 10000000) : uJoin (.str b) (.list (strsD ss)) = some (.str (Txt.join b ss)) ∧ OkT (Txt.join b ss) ∧ (Txt.join b ss).length ≤ ss.length * (n + 1) := by
  have hs : ∀ l : List Str, (∀ s ∈ l, OkT s ∧ s.length ≤ n) → (l.map (·.length)).sum ≤ l.length * n := fun l => by
    induction l with
    | nil => intro _; simp
    | cons a r ih =>
      intro h
      rw [List.map_cons, List.sum_cons, List.length_cons, Nat.succ_mul]
      have h1 := (h a List.mem_cons_self).2
      have h2 := ih fun s hs => h s (List.mem_cons_of_mem _ hs)
      omega
  have h1 := hs ss h
  have h2 : ss.length * (n + 1) = ss.length * n + ss.length := Nat.mul_succ _ _
  refine ⟨?_, okT_join hb0 fun p hp => (h p hp).1, ?_⟩
  · show (strsOf (ss.map PyData.str)).bind _ = _
    rw [strsOf_map]
    show (if _ then some (PyData.str (Txt.join b ss)) else none) = _
    rw [if_pos (by
      rw [lim]
      show _ + _ * b.length ≤ _
      rw [hb]; omega)]
  · rw [size_join, hb]; omega
theorem joinStrs {ss : List Str} {n : Nat} (h : ∀ s ∈ ss, OkT s ∧ s.length ≤ n) (hn : ss.length * (n + 1) ≤ 100000) : uJoin (.str " ") (.list (strsD ss)) = some (.str (Txt.join blank ss)) ∧ OkT (Txt.join blank ss) ∧ (Txt.join blank ss).length ≤ ss.length * (n + 1) :=
  joinStrsG okT_blank (by decide +kernel) h (by omega)
end Lw
end

/-! Q54 -/
set_option Elab.async false
set_option linter.all false
set_option maxRecDepth 100000
set_option maxHeartbeats 4000000
section
namespace Lw
open PySem PySem.Spec PyProof.Rows L2 TL FL
local macro_rules | `(tactic| boot_fact) => `(tactic| simp only [nxP_nx, nxP_rt, nxP_ro, nxP_bk, nxP_ct, o_nil, o_brk, o_cnt, o_set, o_own, o_setX, o_ret, o_retN, o_retW, o_retX, o_retO, o_frz, o_drop, o_if, o_for, o_var, o_peek, o_c, opP_some, opP_ite, o_bin, o_nbin, o_cmpE, o_cmp, o_un, o_callB, o_nB, boolP_b, o_tOf, o_and, o_or, o_not, o_andV, o_orV, o_notV, o_ifE, o_chain, o_eB, o_aNil, o_aCons, o_tup, o_lst, o_eL, intP_i, o_pNone, o_pSome, o_sl, listP_l, o_nsl, o_iL, tupP_l, o_iT, o_iR1, o_kR1, o_iR2, o_kR2, o_iEn, o_kEn, o_iZp, o_kZip, strP_s, o_iS, o_m1, o_nm1, o_meth, o_setix, o_aug, o_asg, o_qNil, o_qCons, o_qConsN, o_par2, o_kpar2, o_par3, o_kpar3, o_rNil, o_rCons, o_rConsR, o_callR, o_call, o_callK, o_callW, o_nLc, ownP_own, valP_val, bothP_val, bothP_own, regP_reg, atO_some, Pt.sl, rho0, arSl, wipeR, List.foldl_cons, List.foldl_nil, List.map_cons, List.map_nil, List.length_cons, List.length_nil, List.replicate, List.cons_append, List.nil_append, List.append_nil, List.getElem?_cons_zero, List.getElem?_cons_succ, List.set_cons_zero, List.set_cons_succ, uAdd_int, uSub_int, uLt_int, uLe_int, uGt_int, uGe_int, uMax2_int, uMin2_int, uNeg_int, uLen_list, uLen_tup, uIx_list, uIx_tup, uIsN_n, uNotN_n, uEq_int, uNe_int, uNe_ints, uEq_ints, Nat.zero_le, decide_eq_true_eq, Bool.false_eq_true, if_false, if_true, ite_self])
/-! ### odd writes -/
abbrev LT : Nat := 10000000
def txOk (n : Nat) (s : Str) : Bool := (tl s).all (fun c => decide (c < 0x110000)) && decide (s.length ≤ n)
theorem tx_lit {s : Str} {n : Nat} (h : txOk n s = true) : Tx n (.str s) := by
  rw [txOk, Bool.and_eq_true] at h
  exact ⟨s, rfl, okT_lit h.1, of_decide_eq_true h.2⟩
theorem ml_nil {n : Nat} {rh : Rho} {st : List RV} : Okk (aNil rh st) (fun l st2 => st2 = st ∧ l.length = 0 ∧ Menu n l) := by
  rw [o_aNil]
  exact ⟨rfl, rfl, menu_nil⟩
theorem ml_cons {n k : Nat} {f : Ex D} {r : Ex (List D)} {rh : Rho} {st : List RV} (hf : Okk (f rh st) (fun d st2 => st2 = st ∧ Tx n d)) (hr : Okk (r rh st) (fun l st2 => st2 = st ∧ l.length = k ∧ Menu n l)) : Okk (aCons f r rh st) (fun l st2 => st2 = st ∧ l.length = k + 1 ∧ Menu n l) := by
  rw [o_aCons]
  refine hf.imp fun d st2 h => ?_
  obtain ⟨rfl, h⟩ := h
  refine hr.imp fun l st3 h2 => ?_
  obtain ⟨rfl, h2, h3⟩ := h2
  refine ⟨rfl, by simp; omega, fun d' hd => ?_⟩
  rcases List.mem_cons.mp hd with rfl | hd
  · exact h
  · exact h3 d' hd
theorem ml_c {n : Nat} {s : Str} {rh : Rho} {st : List RV} (h : txOk n s = true) : Okk (eC (.str s) rh st) (fun d st2 => st2 = st ∧ Tx n d) := by
  rw [o_c]; exact ⟨rfl, tx_lit h⟩
theorem menu_step {n a b : Nat} {X : Ex (List D)} {rh : Rho} {st : List RV} {l : List D} {P : Fl → List RV → Prop} (h2 : rh[2]? = some (some (.val (.list l)))) (hl : l.length = a) (hab : a + b ≤ 1000) (hM : Menu n l) (hX : Okk (X rh st) (fun l2 st2 => st2 = st ∧ l2.length = b ∧ Menu n l2)) (k : ∀ l', l'.length = a + b → Menu n l' → P (.nx (rh.set 2 (some (.val (.list l'))))) st) : Okk (sSet 2 (eBin uAdd (eVar 2) (eL (eLst X))) rh st) P := by
  rw [o_set, o_bin, o_var, h2]
  show Okk _ _
  rw [o_eL, o_lst]
  refine hX.imp fun l2 st2 h => ?_
  obtain ⟨rfl, h3, h4⟩ := h
  show (if _ then _ else _)
  rw [if_pos (by omega), uAdd_list (by rw [lim]; omega)]
  exact k _ (by rw [List.length_append]; omega) (menu_app hM h4)
theorem menu_init {n b : Nat} {X : Ex (List D)} {rh : Rho} {st : List RV} {P : Fl → List RV → Prop} (hb : b ≤ 1000) (hX : Okk (X rh st) (fun l2 st2 => st2 = st ∧ l2.length = b ∧ Menu n l2)) (k : ∀ l', l'.length = b → Menu n l' → P (.nx (rh.set 2 (some (.val (.list l'))))) st) : Okk (sSet 2 (eL (eLst X)) rh st) P := by
  rw [o_set, o_eL, o_lst]
  refine hX.imp fun l2 st2 h => ?_
  obtain ⟨rfl, h3, h4⟩ := h
  show (if _ then _ else _)
  rw [if_pos (by omega)]
  exact k _ h3 h4
theorem oddWrites {B : Nat} {x y z : Int} {w : Str} {P : D → List RV → Prop} (hB : B < 2 ^ 90) (h : Pur B x y z) (hw : OkT w) (hl : w.length ≤ 1000)
    (q : ∀ (t : Str) x' y' z', OkT t → t.length ≤ LT → Pur (B + 2) x' y' z' → P (.str t) [.pur x' y' z']) : Okk (F__law_odd_writes [.r 0, .d (.str w)] [.pur x y z]) P := by
  unfold F__law_odd_writes
  rw [o_runF]
  unfold s__law_odd_writes
  rw [o_seq]
  refine menu_init (n := LT) (b := 14) (by decide) (by repeat (first | exact ml_nil | refine ml_cons (ml_c (by decide +kernel)) ?_)) fun l h1 h2 => ?_
  boot_fact
  rw [o_seq]
  refine menu_step (b := 11) rfl h1 (by decide) h2 (by repeat (first | exact ml_nil | refine ml_cons (ml_c (by decide +kernel)) ?_)) fun l h1 h2 => ?_
  boot_fact
  rw [o_seq]
  refine menu_step (b := 6) rfl h1 (by decide) h2 (by repeat (first | exact ml_nil | refine ml_cons (ml_c (by decide +kernel)) ?_)) fun l h1 h2 => ?_
  boot_fact
  rw [o_seq]
  refine menu_step (b := 8) rfl h1 (by decide) h2 (by repeat (first | exact ml_nil | refine ml_cons (ml_c (by decide +kernel)) ?_)) fun l h1 h2 => ?_
  boot_fact
  have hrep : ∀ (s y z : Str) (n : Nat), OkT s → OkT z → s.length + (s.length + 1) * z.length ≤ n → n ≤ LT → ∃ d, uRepl y z (.str s) = some d ∧ Tx LT d := fun s y z n hs hz hn hn2 => by
    refine ⟨_, if_pos (by rw [lim]; unfold LT at hn2; omega), _, rfl, okT_repl hs hz, ?_⟩
    exact Nat.le_trans len_repl (Nat.le_trans hn hn2)
  rw [o_seq]
  refine menu_step (b := 1) rfl h1 (by decide) h2 (ml_cons ?_ ml_nil) fun l h1 h2 => ?_
  · rw [o_un, o_c]
    obtain ⟨d, e, hd⟩ := hrep "1\t2" "\t" "" 10 (okT_lit (by decide +kernel)) (okT_lit (by decide +kernel)) (by decide +kernel) (by decide)
    rw [e]
    exact ⟨by trivial, hd⟩
  boot_fact
  rw [o_seq]
  boot_fact
  refine coinK (by omega) h (by decide) (by decide) fun r x1 y1 z1 hr0 hr1 hp => ?_
  boot_fact
  have rep : ∀ (s : Str) (m : Nat), uMul (.list [.str s]) (.int (1 + r)) = some (.list (strsD (List.replicate (1 + r).toNat s))) := fun s m => by
    show (if _ then _ else none) = _
    rw [if_pos ⟨by omega, by omega, by rw [lim]; simp; omega⟩]
    congr 2
    rw [strsD, List.map_replicate]
    have : ∀ k : Nat, (List.replicate k [PyData.str s]).flatten = List.replicate k (PyData.str s) := fun k => by
      induction k with
      | zero => rfl
      | succ k ih => rw [List.replicate_succ, List.flatten_cons, ih]; rfl
    exact this _
  have jn : ∀ s : Str, OkT s → s.length ≤ 1 → ∃ t, uJoin (.str " ") (.list (strsD (List.replicate (1 + r).toNat s))) = some (.str t) ∧ OkT t ∧ t.length ≤ 1000 := fun s hs hs1 => by
    obtain ⟨h1, h2, h3⟩ := joinStrs (ss := List.replicate (1 + r).toNat s) (n := 1) (fun s' h => by rw [(List.mem_replicate.mp h).2]; exact ⟨hs, hs1⟩) (by rw [List.length_replicate]; omega)
    exact ⟨_, h1, h2, by rw [List.length_replicate] at h3; omega⟩
  rw [o_seq]
  refine menu_step (b := 3) rfl h1 (by decide) h2 (ml_cons ?_ (ml_cons ?_ (ml_cons ?_ ml_nil))) fun l h1 h2 => ?_
  · boot_fact
    rw [rep "1" 0]
    obtain ⟨t, e1, e2, e3⟩ := jn "1" (okT_lit (by decide +kernel)) (by decide +kernel)
    boot_fact
    rw [e1]
    exact ⟨by trivial, t, rfl, e2, by unfold LT; omega⟩
  · boot_fact
    rw [rep "1" 0]
    obtain ⟨t, e1, e2, e3⟩ := jn "1" (okT_lit (by decide +kernel)) (by decide +kernel)
    boot_fact
    rw [e1]
    show opP (uAdd (.str t) (.str " ")) _
    have hb : (" " : Str).length = 1 := by decide +kernel
    rw [uAdd_str (by rw [lim]; omega)]
    exact ⟨by trivial, _, rfl, okT_append e2 okT_blank, by rw [Str.length_append]; unfold LT; omega⟩
  · boot_fact
    rw [rep "-" 0]
    obtain ⟨t, e1, e2, e3⟩ := jn "-" (okT_lit (by decide +kernel)) (by decide +kernel)
    boot_fact
    rw [e1]
    exact ⟨by trivial, t, rfl, e2, by unfold LT; omega⟩
  boot_fact
  rw [o_seq]
  refine menu_step (b := 2) rfl h1 (by decide) h2 (ml_cons ?_ (ml_cons ?_ ml_nil)) fun l h1 h2 => ?_
  · boot_fact
    have e1 : ("1" : Str) = ⟨#[49]⟩ := by decide +kernel
    have e : uMul (.str "1") (.int (1 + r)) = some (.str (Txt.mul "1" (1 + r))) := if_pos ⟨by omega, by omega, by
      have : ("1" : Str).length = 1 := by decide +kernel
      rw [lim, this]; omega⟩
    rw [e]
    refine ⟨by trivial, _, rfl, fun c hc => ?_, ?_⟩
    · rw [e1] at hc
      have hc : c ∈ (Txt.mul ⟨#[49]⟩ (1 + r)).cps.toList := hc
      rw [mul_one_list] at hc
      rw [(List.mem_replicate.mp hc).2]; decide
    · exact Nat.le_trans (len_mul_one (N := 1000) e1 (by omega)) (by decide)
  · boot_fact
    have hS : ∀ j : Nat, j < 500 → uStr [.int (j : Int)] = some (.str (Str.ofString (toString (j : Int)))) := fun j hj => by
      show (if _ then _ else none) = _
      rw [if_pos (by
        have h3 : ((j : Nat) : Int).natAbs < 2 ^ 40 := by omega
        exact Nat.lt_of_lt_of_le (PySem.Flt.log2_lt_of (by decide) h3) (by decide))]
    rw [if_pos ⟨by omega, by omega⟩, if_pos (by simp [rangeD, lim]; omega)]
    refine okk_lc (A := fun ds st => opP (uJoin (.str " ") (.list ds)) fun d => _) (g := fun d => match d with | .int n => [.str (Str.ofString (toString n))] | _ => []) _ (fun d hd => ?_) ?_
    · obtain ⟨i, hi, rfl⟩ := List.mem_map.mp hd
      have hi := List.mem_range.mp hi
      refine ⟨_, rfl, .inr ⟨.str (Str.ofString (toString ((1 : Int) + (i : Nat)))), rfl, rfl, ?_⟩⟩
      have e := hS (1 + i) (by omega)
      rw [show ((1 + i : Nat) : Int) = 1 + (i : Nat) by omega] at e
      show ofO (uStr [.int (1 + (i : Nat))]) _ = _
      rw [e]; rfl
    · have e : (rangeD 1 (1 + r + 1 - 1).toNat).flatMap (fun d => match d with | .int n => [PyData.str (Str.ofString (toString n))] | _ => []) = strsD ((List.range (1 + r + 1 - 1).toNat).map fun i => Str.ofString (toString (((1 + i : Nat)) : Int))) := by
        rw [rangeD, List.flatMap_map, strsD, List.map_map]
        have : ∀ l : List Nat, (l.flatMap fun i => [PyData.str (Str.ofString (toString ((1 : Int) + (i : Nat))))]) = l.map fun i => PyData.str (Str.ofString (toString (((1 + i : Nat)) : Int))) := fun l => by
          induction l with
          | nil => rfl
          | cons a r ih => rw [List.flatMap_cons, ih, List.map_cons, show ((1 + a : Nat) : Int) = 1 + (a : Nat) by omega]; rfl
        exact this _
      rw [e]
      obtain ⟨h1, h2, h3⟩ := joinStrs (ss := (List.range (1 + r + 1 - 1).toNat).map fun i => Str.ofString (toString (((1 + i : Nat)) : Int))) (n := 3) (fun s' h => by
        obtain ⟨i, hi, rfl⟩ := List.mem_map.mp h
        have hi := List.mem_range.mp hi
        refine ⟨okT_num _, ?_⟩
        have e : (Str.ofString (toString ((1 + i : Nat) : Int))).length = (tl (Str.ofString (toString ((1 + i : Nat) : Int)))).length := len_tl _
        rw [e, tl_num]
        exact numL_len (by decide) (by omega)) (by rw [List.length_map, List.length_range]; omega)
      rw [h1]
      exact ⟨by trivial, _, rfl, h2, by rw [List.length_map, List.length_range] at h3; unfold LT; omega⟩
  boot_fact
  rw [o_seq]
  refine menu_step (b := 4) rfl h1 (by decide) h2 (ml_cons ?_ (ml_cons ?_ (ml_cons ?_ (ml_cons ?_ ml_nil)))) fun l h1 h2 => ?_
  · boot_fact
    have hb : (" 0" : Str).length = 2 := by decide +kernel
    rw [uAdd_str (by rw [lim]; omega)]
    exact ⟨by trivial, _, rfl, okT_append hw (okT_lit (by decide +kernel)), by rw [Str.length_append]; unfold LT; omega⟩
  · boot_fact
    have hb : (" -" : Str).length = 2 := by decide +kernel
    rw [uAdd_str (by rw [lim]; omega)]
    exact ⟨by trivial, _, rfl, okT_append hw (okT_lit (by decide +kernel)), by rw [Str.length_append]; unfold LT; omega⟩
  · boot_fact
    have hb : (" " : Str).length = 1 := by decide +kernel
    rw [uAdd_str (by rw [lim]; omega)]
    exact ⟨by trivial, _, rfl, okT_append hw okT_blank, by rw [Str.length_append]; unfold LT; omega⟩
  · boot_fact
    obtain ⟨d, e, hd⟩ := hrep w " " "" 1000 hw (okT_lit (by decide +kernel)) (by rw [show ("" : Str).length = 0 by decide +kernel]; omega) (by decide)
    rw [e]
    exact ⟨by trivial, hd⟩
  boot_fact
  rw [o_seq]
  refine menu_step (b := 3) rfl h1 (by decide) h2 (ml_cons ?_ (ml_cons ?_ (ml_cons ?_ ml_nil))) fun l h1 h2 => ?_
  · boot_fact
    obtain ⟨d, e, hd⟩ := hrep w " " "  " 3002 hw (okT_lit (by decide +kernel)) (by rw [show ("  " : Str).length = 2 by decide +kernel]; omega) (by decide)
    rw [e]
    exact ⟨by trivial, hd⟩
  · boot_fact
    obtain ⟨d, e, hd⟩ := hrep w "-" "" 1000 hw (okT_lit (by decide +kernel)) (by rw [show ("" : Str).length = 0 by decide +kernel]; omega) (by decide)
    rw [e]
    exact ⟨by trivial, hd⟩
  · boot_fact
    have e : uRevS (.str w) = some (.str (revS w)) := if_pos (by rw [lim]; omega)
    rw [e]
    exact ⟨by trivial, _, rfl, okT_revS hw, Nat.le_trans (revS_len w) (by unfold LT; omega)⟩
  boot_fact
  refine coinK (by omega) hp (by omega) (by omega) fun r2 x2 y2 z2 hr20 hr21 hp2 => ?_
  boot_fact
  obtain ⟨j, rfl⟩ := Int.eq_ofNat_of_zero_le hr20
  have hj : j < l.length := by omega
  rw [atI_nat (List.getElem?_eq_getElem hj)]
  obtain ⟨t, e1, e2, e3⟩ := h2 l[j] (List.getElem_mem hj)
  rw [e1]
  exact q t x2 y2 z2 e2 e3 hp2
end Lw
end

/-! R54 -/
set_option Elab.async false
set_option linter.all false
set_option maxRecDepth 100000
set_option maxHeartbeats 4000000
section
namespace Lw
open PySem PySem.Spec PyProof.Rows L2 TL FL
local macro_rules | `(tactic| boot_fact) => `(tactic| simp only [nxP_nx, nxP_rt, nxP_ro, nxP_bk, nxP_ct, o_nil, o_brk, o_cnt, o_set, o_own, o_setX, o_ret, o_retN, o_retW, o_retX, o_retO, o_frz, o_drop, o_if, o_for, o_var, o_peek, o_c, opP_some, opP_ite, o_bin, o_nbin, o_cmpE, o_cmp, o_un, o_callB, o_nB, boolP_b, o_tOf, o_and, o_or, o_not, o_andV, o_orV, o_notV, o_ifE, o_chain, o_eB, o_aNil, o_aCons, o_tup, o_lst, o_eL, intP_i, o_pNone, o_pSome, o_sl, listP_l, o_nsl, o_iL, tupP_l, o_iT, o_iR1, o_kR1, o_iR2, o_kR2, o_iEn, o_kEn, o_iZp, o_kZip, strP_s, o_iS, o_m1, o_nm1, o_meth, o_setix, o_aug, o_asg, o_qNil, o_qCons, o_qConsN, o_par2, o_kpar2, o_par3, o_kpar3, o_rNil, o_rCons, o_rConsR, o_callR, o_call, o_callK, o_callW, o_nLc, ownP_own, valP_val, bothP_val, bothP_own, regP_reg, atO_some, Pt.sl, rho0, arSl, wipeR, List.foldl_cons, List.foldl_nil, List.map_cons, List.map_nil, List.length_cons, List.length_nil, List.replicate, List.cons_append, List.nil_append, List.append_nil, List.getElem?_cons_zero, List.getElem?_cons_succ, List.set_cons_zero, List.set_cons_succ, uAdd_int, uSub_int, uLt_int, uLe_int, uGt_int, uGe_int, uMax2_int, uMin2_int, uNeg_int, uLen_list, uLen_tup, uIx_list, uIx_tup, uIsN_n, uNotN_n, uEq_int, uNe_int, uNe_ints, uEq_ints, Nat.zero_le, decide_eq_true_eq, Bool.false_eq_true, if_false, if_true, ite_self])
/-! ### marred writes -/
theorem ixN_nat' {n j : Nat} (hj : j < n) : ixN n (j : Int) = some j := by
  unfold ixN
  rw [if_pos (by omega), if_pos (by omega), Int.toNat_natCast]
theorem two_menu {a b : Str} {r : Int} {n : Nat} (h0 : 0 ≤ r) (h1 : r < 2) (ha : txOk n a = true) (hb : txOk n b = true) : ∃ s, atI [PyData.str a, PyData.str b] r = some (.str s) ∧ (s = a ∨ s = b) ∧ OkT s ∧ s.length ≤ n := by
  have key : ∀ s, txOk n s = true → OkT s ∧ s.length ≤ n := fun s h => by
    rw [txOk, Bool.and_eq_true] at h
    exact ⟨okT_lit h.1, of_decide_eq_true h.2⟩
  rcases (by omega : r = 0 ∨ r = 1) with rfl | rfl
  · exact ⟨a, rfl, .inl rfl, key a ha⟩
  · exact ⟨b, rfl, .inr rfl, key b hb⟩
theorem sign_at {s : Str} {r : Int} (hs : OkT s) (hl : s.length ≤ lim) (h0 : 0 ≤ r) (h1 : r < s.length) : ∃ c, uIx (.str s) (.int r) = some (.str c) ∧ OkT c ∧ c.length = 1 := by
  obtain ⟨j, rfl⟩ := Int.eq_ofNat_of_zero_le h0
  have hj : j < s.cps.toList.length := by
    have : s.length = s.cps.toList.length := by simp [Str.length]
    omega
  refine ⟨⟨#[s.cps.toList[j]]⟩, ?_, fun c hc => ?_, rfl⟩
  · show (if _ then _ else none) = _
    rw [if_pos hl, atI_nat (List.getElem?_eq_getElem hj)]; rfl
  · have hc : c ∈ [s.cps.toList[j]] := hc
    rw [List.mem_singleton.mp hc]
    exact hs _ (List.getElem_mem hj)
theorem marred {B : Nat} {x y z : Int} {w : Str} {P : D → List RV → Prop} (hB : B < 2 ^ 80) (h : Pur B x y z) (hw : OkT w) (hl : w.length ≤ 1000)
    (q : ∀ (t : Str) x' y' z', OkT t → t.length ≤ LT → Pur (B + 10) x' y' z' → P (.str t) [.pur x' y' z']) : Okk (F__law_marred_writes [.r 0, .d (.str w)] [.pur x y z]) P := by
  unfold F__law_marred_writes
  rw [o_runF]
  unfold s__law_marred_writes
  have hlw : uLen [.str w] = some (.int w.length) := uLen_str (by rw [lim]; omega)
  have hsl : ∀ lo hi, uSl (.str w) lo hi = some (.str (cutS w lo hi)) := fun lo hi => if_pos (by rw [lim]; omega)
  have hcl : ∀ lo hi, (cutS w lo hi).length ≤ w.length := fun lo hi => cutS_length w lo hi
  rw [o_seq]
  try boot_fact
  rw [hlw]
  try boot_fact
  refine coinK (by omega) h (by omega) (by omega) fun spot x1 y1 z1 hs0 hs1 h1 => ?_
  try boot_fact
  refine coinK (by omega) h1 (by decide) (by decide) fun way x2 y2 z2 hw0 hw1 h2 => ?_
  try boot_fact
  rw [o_seq]
  try boot_fact
  rw [o_seq]
  try boot_fact
  refine coinK (by omega) h2 (by decide) (by decide) fun r3 x3 y3 z3 hr30 hr31 h3 => ?_
  try boot_fact
  obtain ⟨s, e, hse, hs, hsl1⟩ := two_menu (n := 1000) (a := "1 -203") (b := "ABCDEFGHIJKLMNOPQRSTUVWXYZ0123456789abcdefghijklmnopqrstuvwxyz !#$&'()*+,-./:;<=>?\x40[]^_`{|}~\"\\") hr30 hr31 (by decide +kernel) (by decide +kernel)
  have hs0 : 0 < s.length := by
    rcases hse with rfl | rfl
    · decide +kernel
    · decide +kernel
  clear hse
  rw [e]
  try boot_fact
  rw [o_seq]
  try boot_fact
  rw [uLen_str (by rw [lim]; omega)]
  try boot_fact
  refine coinK (by omega) h3 (by omega) (by omega) fun r4 x4 y4 z4 hr40 hr41 h4 => ?_
  try boot_fact
  obtain ⟨c, e, hc, hc1⟩ := sign_at hs (by rw [lim]; omega) hr40 hr41
  rw [e]
  try boot_fact
  have two : ∀ a b : Str, OkT a → OkT b → a.length ≤ 2000 → b.length ≤ 2000 → uAdd (.str a) (.str b) = some (.str (a ++ b)) ∧ OkT (a ++ b) ∧ (a ++ b).length ≤ a.length + b.length := fun a b ha hb h1 h2 => ⟨uAdd_str (by rw [lim]; omega), okT_append ha hb, by rw [Str.length_append]; omega⟩
  have hcw : ∀ lo hi, OkT (cutS w lo hi) := okT_cut hw
  rw [o_seq]
  try boot_fact
  split
  · simp only [hsl, opP_some]
    obtain ⟨a1, a2, a3⟩ := two (cutS w none (some spot)) c (hcw _ _) hc (by have := hcl none (some spot); omega) (by omega)
    rw [a1]
    simp only [hsl, opP_some]
    try boot_fact
    obtain ⟨b1, b2, b3⟩ := two (cutS w none (some spot) ++ c) (cutS w (some spot) none) a2 (hcw _ _) (by have := hcl none (some spot); omega) (by have := hcl (some spot) none; omega)
    rw [b1]
    try boot_fact
    exact q _ _ _ _ b2 (by have := hcl none (some spot); have := hcl (some spot) none; unfold LT; omega) (h4.mono (by omega))
  try boot_fact
  rw [o_seq]
  try boot_fact
  split
  · simp only [hsl, opP_some]
    obtain ⟨b1, b2, b3⟩ := two (cutS w none (some spot)) (cutS w (some (spot + 1)) none) (hcw _ _) (hcw _ _) (by have := hcl none (some spot); omega) (by have := hcl (some (spot + 1)) none; omega)
    rw [b1]
    try boot_fact
    exact q _ _ _ _ b2 (by have := hcl none (some spot); have := hcl (some (spot + 1)) none; unfold LT; omega) (h4.mono (by omega))
  try boot_fact
  rw [o_seq]
  try boot_fact
  split
  · simp only [hsl, opP_some]
    obtain ⟨a1, a2, a3⟩ := two (cutS w none (some spot)) c (hcw _ _) hc (by have := hcl none (some spot); omega) (by omega)
    rw [a1]
    simp only [hsl, opP_some]
    try boot_fact
    obtain ⟨b1, b2, b3⟩ := two (cutS w none (some spot) ++ c) (cutS w (some (spot + 1)) none) a2 (hcw _ _) (by have := hcl none (some spot); omega) (by have := hcl (some (spot + 1)) none; omega)
    rw [b1]
    try boot_fact
    exact q _ _ _ _ b2 (by have := hcl none (some spot); have := hcl (some (spot + 1)) none; unfold LT; omega) (h4.mono (by omega))
  try boot_fact
  rw [o_seq]
  try boot_fact
  split
  · exact oddWrites (by omega) h4 hw hl fun t x' y' z' e1 e2 e3 => q t x' y' z' e1 e2 (e3.mono (by omega))
  try boot_fact
  rw [o_seq]
  try boot_fact
  have hin : uIn (.int way) (.tuple [.int 4, .int 5]) = some (decide (way = 4 ∨ way = 5)) := by
    show some (List.any _ _) = _
    congr 1
    have e : ∀ k : Int, PyData.eqv (.int k) (.int way) = decide (way = k) := fun k => by
      rw [show PyData.eqv (.int k) (.int way) = (k == way) by simp [PyData.eqv], Bool.eq_iff_iff, beq_iff_eq, decide_eq_true_eq]
      exact eq_comm
    rw [List.any_cons, List.any_cons, List.any_nil, e, e]
    simp
  rw [if_pos (by decide), hin]
  try boot_fact
  split
  · rename_i h45
    rw [o_seq]
    try boot_fact
    obtain ⟨b, e, hbe, hb, hb1⟩ := two_menu (n := 1) (a := " ") (b := "-") (r := way - 4) (by omega) (by omega) (by decide +kernel) (by decide +kernel)
    have hb1 : b.length = 1 := by
      rcases hbe with rfl | rfl
      · decide +kernel
      · decide +kernel
    rw [e]
    try boot_fact
    rw [o_seq]
    try boot_fact
    have es : uSplit (.str w) (.str b) = some (strsD (Txt.split w b)) := if_pos ⟨by omega, by rw [lim]; omega⟩
    rw [es]
    try boot_fact
    have hne : 0 < (Txt.split w b).length := by
      have h2 : (Txt.split w b).length ≠ 0 := fun e => split_ne (List.eq_nil_of_length_eq_zero e)
      omega
    have hcn : (Txt.split w b).length ≤ w.length + 1 := cnt_split (by omega)
    have hall : ∀ p ∈ Txt.split w b, OkT p ∧ p.length ≤ 1000 := fun p hp => ⟨okT_split hw hp, by have := len_split hp; omega⟩
    generalize Txt.split w b = ps at hne hcn hall ⊢
    have hlen : (strsD ps).length = ps.length := List.length_map _
    rw [o_seq]
    try boot_fact
    rw [hlen]
    try boot_fact
    refine coinK (by omega) h4 (by omega) (by omega) fun i x5 y5 z5 hi0 hi1 h5 => ?_
    try boot_fact
    refine coinK (by omega) h5 (by omega) (by omega) fun j x6 y6 z6 hj0 hj1 h6 => ?_
    try boot_fact
    obtain ⟨i, rfl⟩ := Int.eq_ofNat_of_zero_le hi0
    obtain ⟨j, rfl⟩ := Int.eq_ofNat_of_zero_le hj0
    have hi : i < ps.length := by omega
    have hj : j < ps.length := by omega
    have gI : ∀ k, (h : k < ps.length) → uIx (.list (strsD ps)) (.int (k : Int)) = some (.str ps[k]) := fun k h => by
      show atI _ _ = _
      exact atI_nat (by rw [strsD, List.getElem?_map, List.getElem?_eq_getElem h]; rfl)
    rw [o_seq]
    try boot_fact
    rw [atI_nat (show (strsD ps)[i]? = some (.str ps[i]) by rw [strsD, List.getElem?_map, List.getElem?_eq_getElem hi]; rfl)]
    try boot_fact
    rw [o_seq]
    try boot_fact
    rw [atI_nat (show (strsD ps)[j]? = some (.str ps[j]) by rw [strsD, List.getElem?_map, List.getElem?_eq_getElem hj]; rfl)]
    try boot_fact
    rw [hlen, ixN_nat' hi]
    try boot_fact
    rw [show (strsD ps).set i (.str ps[j]) = strsD (ps.set i ps[j]) by simp only [strsD, List.map_set]]
    rw [o_seq]
    try boot_fact
    rw [show (strsD (ps.set i ps[j])).length = ps.length by rw [strsD, List.length_map, List.length_set], ixN_nat' hj]
    try boot_fact
    rw [show (strsD (ps.set i ps[j])).set j (.str ps[i]) = strsD ((ps.set i ps[j]).set j ps[i]) by simp only [strsD, List.map_set]]
    try boot_fact
    have hall2 : ∀ p ∈ (ps.set i ps[j]).set j ps[i], OkT p ∧ p.length ≤ 1000 := fun p hp => by
      rcases List.mem_or_eq_of_mem_set hp with hp | rfl
      · rcases List.mem_or_eq_of_mem_set hp with hp | rfl
        · exact hall p hp
        · exact hall _ (List.getElem_mem hj)
      · exact hall _ (List.getElem_mem hi)
    obtain ⟨e1, e2, e3⟩ := joinStrsG (b := b) hb hb1 hall2 (by rw [List.length_set, List.length_set]; omega)
    rw [e1]
    try boot_fact
    rw [List.length_set, List.length_set] at e3
    exact q _ _ _ _ e2 (by unfold LT; omega) (h6.mono (by omega))
  try boot_fact
  exact q _ _ _ _ hw (by unfold LT; omega) (h4.mono (by omega))
end Lw
end

/-! S54 -/
set_option Elab.async false
set_option linter.all false
set_option maxRecDepth 100000
set_option maxHeartbeats 4000000
section
namespace Lw
open PySem PySem.Spec PyProof.Rows L2 TL FL
local macro_rules | `(tactic| boot_fact) => `(tactic| simp only [nxP_nx, nxP_rt, nxP_ro, nxP_bk, nxP_ct, o_nil, o_brk, o_cnt, o_set, o_own, o_setX, o_ret, o_retN, o_retW, o_retX, o_retO, o_frz, o_drop, o_if, o_for, o_var, o_peek, o_c, opP_some, opP_ite, o_bin, o_nbin, o_cmpE, o_cmp, o_un, o_callB, o_nB, boolP_b, o_tOf, o_and, o_or, o_not, o_andV, o_orV, o_notV, o_ifE, o_chain, o_eB, o_aNil, o_aCons, o_tup, o_lst, o_eL, intP_i, o_pNone, o_pSome, o_sl, listP_l, o_nsl, o_iL, tupP_l, o_iT, o_iR1, o_kR1, o_iR2, o_kR2, o_iEn, o_kEn, o_iZp, o_kZip, strP_s, o_iS, o_m1, o_nm1, o_meth, o_setix, o_aug, o_asg, o_qNil, o_qCons, o_qConsN, o_par2, o_kpar2, o_par3, o_kpar3, o_rNil, o_rCons, o_rConsR, o_callR, o_call, o_callK, o_callW, o_nLc, ownP_own, valP_val, bothP_val, bothP_own, regP_reg, atO_some, Pt.sl, rho0, arSl, wipeR, List.foldl_cons, List.foldl_nil, List.map_cons, List.map_nil, List.length_cons, List.length_nil, List.replicate, List.cons_append, List.nil_append, List.append_nil, List.getElem?_cons_zero, List.getElem?_cons_succ, List.set_cons_zero, List.set_cons_succ, uAdd_int, uSub_int, uLt_int, uLe_int, uGt_int, uGe_int, uMax2_int, uMin2_int, uNeg_int, uLen_list, uLen_tup, uIx_list, uIx_tup, uIsN_n, uNotN_n, uEq_int, uNe_int, uNe_ints, uEq_ints, Nat.zero_le, decide_eq_true_eq, Bool.false_eq_true, if_false, if_true, ite_self])
/-! ### the law's own check -/
/-- numbers up to 1001, or none -/
def Small (l : List D) : Prop := ∀ d ∈ l, d = .none ∨ ∃ n : Nat, d = .int (n : Int) ∧ n ≤ 1001
theorem small_lays {l : List D} (h : Small l) : lays 0 l := fun d hd => by
  rcases h d hd with rfl | ⟨n, rfl, _⟩
  · exact lay_none
  · exact lay_int
theorem owed_ne (t : Str) : uNe (owed t) (owed t) = some false := by
  have hl : lay 2 (owed t) := by
    have hv : lays 0 (vals (pcs t)) := fun d hd => by
      obtain ⟨o, _, rfl⟩ := List.mem_map.mp hd
      cases o with
      | none => exact lay_none
      | some n => exact lay_int
    have one : ∀ l : List D, lays 0 l → lay 2 (.list [.list l]) := fun l h => lay_list fun d hd => by
      rw [List.mem_singleton.mp hd]; exact lay_list h
    unfold owed
    split
    · exact one [] (fun d hd => by cases hd)
    · split
      · exact one _ hv
      · exact lay_list (n := 1) (fun d hd => by cases hd)
  have hd : (match owed t with | .dict _ => false | _ => true) = true := by
    unfold owed
    by_cases h1 : t = dot
    · rw [if_pos h1]
    · rw [if_neg h1]
      by_cases h2 : good t = true
      · rw [if_pos h2]
      · rw [if_neg h2]
  rw [uNe_of (hl.shp (by decide)) (hl.shp (by decide)), eqv_self _ hd hl.1]; rfl
theorem small_int {ns : List Int} (h : ∀ n ∈ ns, 0 < n ∧ n ≤ 1001) : Small (ns.map .int) := fun d hd => by
  obtain ⟨n, hn, rfl⟩ := List.mem_map.mp hd
  have := h n hn
  obtain ⟨k, rfl⟩ := Int.eq_ofNat_of_zero_le (by omega : 0 ≤ n)
  exact .inr ⟨k, rfl, by omega⟩
def word (d : D) : Str := match d with | .int n => Str.ofString (toString n) | _ => dash
theorem word_ok {d : D} (h : d = .none ∨ ∃ n : Nat, d = .int (n : Int) ∧ n ≤ 1001) : OkT (word d) ∧ (word d).length ≤ 4 := by
  rcases h with rfl | ⟨n, rfl, h⟩
  · exact ⟨okT_dash, by decide +kernel⟩
  · refine ⟨okT_num n, ?_⟩
    have e : (Str.ofString (toString ((n : Nat) : Int))).length = (tl (Str.ofString (toString ((n : Nat) : Int)))).length := len_tl _
    show (Str.ofString (toString ((n : Nat) : Int))).length ≤ 4
    rw [e, tl_num]
    exact numL_len (by decide) (by omega)
theorem rightK {B : Nat} {x y z : Int} (hB : B < 2 ^ 70) (h : Pur B x y z) : Okk (F__law_right [.r 0] [.pur x y z]) (fun d st => d = .bool true ∧ ∃ x' y' z', st = [.pur x' y' z'] ∧ Pur (B + 5500) x' y' z') := by
  unfold F__law_right
  rw [o_runF]
  unfold s__law_right
  rw [o_seq]
  try boot_fact
  refine coinK (by omega) h (by decide) (by decide) fun r x1 y1 z1 hr0 hr1 h1 => ?_
  try boot_fact
  obtain ⟨m, e, hm0, hm1⟩ : ∃ m, atI [PyData.int 8, PyData.int 60] r = some (.int m) ∧ 0 ≤ m ∧ m ≤ 60 := by
    rcases (by omega : r = 0 ∨ r = 1) with rfl | rfl
    · exact ⟨8, rfl, by decide, by decide⟩
    · exact ⟨60, rfl, by decide, by decide⟩
  rw [e]
  try boot_fact
  refine drawn (by omega) h1 hm0 (by omega) fun ns x2 y2 z2 hl hn h2 => ?_
  try boot_fact
  have hS := small_int hn
  have hL : (ns.map PyData.int).length ≤ 60 := by rw [List.length_map]; omega
  generalize ns.map PyData.int = l at hS hL ⊢
  clear hl hn ns
  rw [o_seq]
  try boot_fact
  refine coinK (by omega) h2 (by decide) (by decide) fun k x3 y3 z3 hk0 hk1 h3 => ?_
  try boot_fact
  rw [if_pos ⟨by omega, by omega⟩]
  refine okk_for (fun i rh st => ∃ (l : List D) (x y z : Int), rh = [some (.reg 0), some (.own l), none, none, none, none] ∧ st = [.pur x y z] ∧ Pur (B + 5010 + i) x y z ∧ Small l ∧ l.length ≤ 60) _ 0 _ _ ⟨l, x3, y3, z3, rfl, rfl, h3.mono (by omega), hS, hL⟩ (fun j d rh st hd hI => ?_) (fun rh st hI => ?_)
  · obtain ⟨l, x, y, z, rfl, rfl, hp, hS, hL⟩ := hI
    refine ⟨_, rfl, ?_⟩
    have hj : j < 3 := by
      have := (List.getElem?_eq_some_iff.mp hd).1
      simp [rangeD] at this
      omega
    try boot_fact
    rw [uNe_nil (small_lays hS) (by decide)]
    try boot_fact
    split
    · rename_i hne
      have hne : 0 < l.length := by
        cases l with
        | nil => simp at hne
        | cons _ _ => simp
      refine coinK (by omega) hp (by omega) (by omega) fun r x4 y4 z4 hr0 hr1 h4 => ?_
      try boot_fact
      obtain ⟨i, rfl⟩ := Int.eq_ofNat_of_zero_le hr0
      rw [ixN_nat' (by omega)]
      try boot_fact
      refine ⟨_, _, _, _, rfl, rfl, h4.mono (by omega), fun d hd => ?_, by rw [List.length_set]; exact hL⟩
      rcases List.mem_or_eq_of_mem_set hd with hd | rfl
      · exact hS d hd
      · exact .inl rfl
    · exact ⟨_, _, _, _, rfl, rfl, hp.mono (by omega), hS, hL⟩
  · obtain ⟨l, x4, y4, z4, rfl, rfl, h4, hS, hL⟩ := hI
    have hk : (rangeD 0 k.toNat).length ≤ 3 := by simp [rangeD]; omega
    have h4 : Pur (B + 5013) x4 y4 z4 := h4.mono (by omega)
    try boot_fact
    rw [o_seq]
    try boot_fact
    rw [o_seq]
    try boot_fact
    rw [if_pos (by rw [lim]; omega)]
    refine okk_lc (g := fun d => [PyData.str (word d)]) _ (fun d hd => ?_) ?_
    · refine ⟨_, rfl, .inr ⟨_, rfl, rfl, ?_⟩⟩
      rcases hS d hd with rfl | ⟨n, rfl, hn⟩
      · rfl
      · have eS : uStr [.int (n : Int)] = some (.str (Str.ofString (toString (n : Int)))) := by
          show (if _ then _ else none) = _
          rw [if_pos (by
            have h3 : ((n : Nat) : Int).natAbs < 2 ^ 40 := by omega
            exact Nat.lt_of_lt_of_le (PySem.Flt.log2_lt_of (by decide) h3) (by decide))]
        show ofO (uStr [.int (n : Int)]) _ = _
        rw [eS]; rfl
    have e2 : (l.flatMap fun d => [PyData.str (word d)]) = strsD (l.map word) := by
      rw [strsD, List.map_map]
      have : ∀ l : List D, (l.flatMap fun d => [PyData.str (word d)]) = l.map (PyData.str ∘ word) := fun l => by
        induction l with
        | nil => rfl
        | cons a r ih => rw [List.flatMap_cons, ih]; rfl
      exact this l
    rw [e2]
    obtain ⟨j1, j2, j3⟩ := joinStrs (ss := l.map word) (n := 4) (fun s hs => by
      obtain ⟨d, hd, rfl⟩ := List.mem_map.mp hs
      exact word_ok (hS d hd)) (by rw [List.length_map]; omega)
    rw [List.length_map] at j3
    rw [j1]
    try boot_fact
    rw [o_seq]
    try boot_fact
    rw [uEq_nil (small_lays hS) (by decide)]
    try boot_fact
    have hw1 : OkT (".": Str) ∧ (".": Str).length ≤ 300 := ⟨okT_dot, by decide +kernel⟩
    have hw2 : OkT (Txt.join blank (l.map word)) ∧ (Txt.join blank (l.map word)).length ≤ 300 := ⟨j2, by omega⟩
    clear j1 j2 j3 e2
    split
    rotate_left
    generalize Txt.join blank (l.map word) = w at hw2 ⊢
    clear hw1
    have hw := hw2
    rotate_left
    generalize (".": Str) = w at hw1 ⊢
    clear hw2
    have hw := hw1
    all_goals
      try boot_fact
      rw [o_seq]
      try boot_fact
      rw [if_pos ⟨by decide, by decide⟩]
      refine okk_for (fun i rh st => ∃ (x y z : Int), rh = [some (.reg 0), some (.val (.list l)), none, some (.val (.str w)), none, none] ∧ st = [.pur x y z] ∧ Pur (B + 5013 + 11 * i) x y z) _ 0 _ _ ⟨x4, y4, z4, rfl, rfl, h4⟩ (fun j d rh st hd hI => ?_) (fun rh st hI => ?_)
      · obtain ⟨x, y, z, rfl, rfl, hp⟩ := hI
        refine ⟨_, rfl, ?_⟩
        have hj : j < 8 := by
          have := (List.getElem?_eq_some_iff.mp hd).1
          simp [rangeD] at this
          omega
        rw [o_seq]
        try boot_fact
        refine marred (by omega) hp hw.1 (by omega) fun t x5 y5 z5 ht htl h5 => ?_
        try boot_fact
        rw [uLen_str (by rw [lim]; unfold LT at htl; omega)]
        try boot_fact
        split
        · rename_i hle
          refine coinK (by omega) h5 (by decide) (by decide) fun r x6 y6 z6 hr0 hr1 h6 => ?_
          try boot_fact
          refine caughtAll ht (by omega) ?_
          refine writesOf ht (by omega) ?_
          rw [owed_ne]
          try boot_fact
          exact ⟨_, _, _, by trivial, rfl, h6.mono (by omega)⟩
        · exact ⟨_, _, _, by trivial, rfl, h5.mono (by omega)⟩
      · obtain ⟨x, y, z, rfl, rfl, hp⟩ := hI
        have hk : (rangeD 0 (8 : Int).toNat).length = 8 := by simp [rangeD]
        try boot_fact
        exact ⟨by trivial, _, _, _, rfl, hp.mono (by omega)⟩
theorem right_all : Right 5500 (5500 * 2) F__law_right [] := fun B x y z hB h => by
  obtain ⟨d, st, e, rfl, x', y', z', rfl, h'⟩ := (rightK (Nat.lt_of_le_of_lt hB (by decide)) h).ex
  exact ⟨x', y', z', e, h'⟩
end Lw
end

/-! Z54 -/
set_option Elab.async false
set_option linter.all false
set_option maxRecDepth 100000
set_option maxHeartbeats 4000000
namespace Lw
open FL
end Lw
open PySem PySem.W PySem.Calls PyProof.Rows
set_option maxHeartbeats 0 in
theorem PySem.Challenge.cw_staletally_k54_lists_that_are_none_holds : PySem.Challenge.rw_staletally_k54_lists_that_are_none.Holds := by
  w_on; o_law
  refine HandSHeadRun.head_any (r := OpenLaw.row PySem.Challenge.rw_staletally_k54_lists_that_are_none) (q := view (OpenLaw.row PySem.Challenge.rw_staletally_k54_lists_that_are_none).prog [22]) (H := Lw.hk) (ob := Lw.ob) (M := 3000) (loose := Lw.loose) (d := HandSHeadRun.topDef (OpenLaw.row PySem.Challenge.rw_staletally_k54_lists_that_are_none).prog 22) (kwd := []) Lw.ob_eq
    (by kernel_rfl) (fun s => by kernel_rfl) Lw.run (by kernel_rfl) (by kernel_rfl) (by kernel_rfl) (by rfl) (by first | assumption | decide +kernel) (by decide +kernel) ⟨rfl, rfl, rfl, rfl, rfl, by decide +kernel⟩ ?hw ?hc
  case hw => w_witness2
  case hc =>
    refine FL.walk_ofF (l := PySem.Challenge.rw_staletally_k54_lists_that_are_none) (n := 63) (k := 8) (x := "_law_script") (CX := fun w => L2.CX (PySem.Challenge.rw_staletally_k54_lists_that_are_none).prog w) rfl (by decide) (by kernel_rfl) ⟨rfl, by decide, by decide⟩ ?F (fun _ _ _ _ _ ⟨_, _, _, _, _, _, _, _, _, _, _, _, z⟩ => z)
    intro w mg fa h Y G hmg0
    obtain ⟨K, KX, c⟩ := Y
    have hmg : mg ("law" : PySem.Str) = some (.ref fa) := by
      have e : (HandSHeadRun.topDef (OpenLaw.row PySem.Challenge.rw_staletally_k54_lists_that_are_none).prog 22).name = ("law" : PySem.Str) := by kernel_rfl
      rw [← e]
      exact hmg0
    obtain ⟨fd, hb, hF⟩ := Lw.facts (P := (PySem.Challenge.rw_staletally_k54_lists_that_are_none).prog) (w := w) Lw.right_all KX G hmg c
    exact ⟨K, fd, Lw.spLaw K, KX, hb, fun H a ns hl _ hS => ⟨a, ns, rfl, hS, Nat.le_trans hl (by decide), fun _ => rfl⟩, hF⟩

