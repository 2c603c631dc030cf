import PyProof.Rows.All
import Wide.All
import OpenK.AllK
import Wide.FinOn
import HandS.ForMost
import HandS.ForExc
import HandS.CallSlots
import HandS.Defaults
import HandS.Wide
import HandS.WideBits
import HandS.IsInst
import HandS.RaiseMore
import HandS.HeadHook2
import HandS.TryMany
import HandS.Conv
import PySem.Challenge.RW_bitstages_k49_counts_by_listing
set_option Elab.async false
set_option linter.all false
set_option maxRecDepth 100000
set_option maxHeartbeats 1000000
set_option autoImplicit false
/-! Fx1: data D, their likeness to values over the abstract heap, outcomes, the judgements FE, FT, FA, FS. -/
namespace Fx
open PySem PySem.Spec PyProof.Rows L2
abbrev St := L2.St

/-- data: what does not change is told as it is; ref n: the n-th of the things that change -/
inductive D where
  | non | bl (b : Bool) | int (i : Int) | str (x : Str)
  | lst (ds : List D) | tup (ds : List D)
  | dic (ks : List Key) (ds : List D)
  | ins (C : Addr) (ns : List Str) (ds : List D)
  | ref (n : Nat)
  | adr (a : Addr)
  | ty (n : String)
  | klst (ds : List D)

abbrev Mem := List D
abbrev Env := List (Option D)

/-- the addresses of the things that change, by number; some addresses that nothing told may lean on -/
structure Io where
  l : List Addr
  b : List Addr
instance : Membership Addr Io := ⟨fun ι a => a ∈ ι.l ∨ a ∈ ι.b⟩
theorem Io.mem {ι : Io} {a : Addr} : a ∈ ι ↔ a ∈ ι.l ∨ a ∈ ι.b := Iff.rfl
def Io.add (ι : Io) (p : Addr) : Io := ⟨ι.l ++ [p], ι.b⟩
def Io.ban (ι : Io) (p : Addr) : Io := ⟨ι.l, p :: ι.b⟩
/-- a list of the written part -/
def KL (K : PySem.W.Frag) (a : Addr) (xs : List V) : Prop := ∃ (o : Obj) (its : Array Value) (n : Nat), K.lookup a = some o ∧ o.cls = .type "list" ∧ o.dict = none ∧ o.data = .seq its n ∧ its.size ≤ sizeLine ∧ Vals xs its.toList

mutual
inductive Rep (K : PySem.W.Frag) (H : Hp) (ι : Io) : V → D → Prop
  | non : Rep K H ι .non .non
  | bl (b : Bool) : Rep K H ι (.bl b) (.bl b)
  | int (i : Int) : Rep K H ι (.int i) (.int i)
  | str (x : Str) : Rep K H ι (.str x) (.str x)
  | ty (n : String) : Rep K H ι (.ty n) (.ty n)
  | adr (a : Addr) : Rep K H ι (.ref a) (.adr a)
  | lst {a : Addr} {xs : List V} {ds : List D} : a ∉ ι → Rd H a (.lst xs) → RepAll K H ι xs ds → Rep K H ι (.ref a) (.lst ds)
  | klst {a : Addr} {xs : List V} {ds : List D} : KL K a xs → RepAll K H ι xs ds → Rep K H ι (.ref a) (.klst ds)
  | tup {a : Addr} {xs : List V} {ds : List D} : a ∉ ι → H a = some (.tup xs) → RepAll K H ι xs ds → Rep K H ι (.ref a) (.tup ds)
  | dic {a : Addr} {ks : List Key} {xs : List V} {ds : List D} : a ∉ ι → H a = some (.dK (ks.zip xs)) → ks.length = xs.length → RepAll K H ι xs ds → Rep K H ι (.ref a) (.dic ks ds)
  | ins {a C dx : Addr} {ns : List Str} {xs : List V} {ds : List D} : a ∉ ι → H a = some (.ins C dx (ns.zip xs)) → ns.length = xs.length → RepAll K H ι xs ds → Rep K H ι (.ref a) (.ins C ns ds)
  | ref {n : Nat} {a : Addr} : ι.l[n]? = some a → Rep K H ι (.ref a) (.ref n)
inductive RepAll (K : PySem.W.Frag) (H : Hp) (ι : Io) : List V → List D → Prop
  | nil : RepAll K H ι [] []
  | cons {v : V} {d : D} {vs : List V} {ds : List D} : Rep K H ι v d → RepAll K H ι vs ds → RepAll K H ι (v :: vs) (d :: ds)
end

/-- what stood stands, but for the things that change; there may be more of these -/
structure Lat (ι : Io) (H : Hp) (ι' : Io) (H' : Hp) : Prop where
  pre : ι.l <+: ι'.l
  new : ∀ a ∈ ι', a ∉ ι → H a = none
  keep : ∀ a o, a ∉ ι → H a = some o → H' a = some o
structure Ext (ι : Io) (H : Hp) (ι' : Io) (H' : Hp) : Prop extends Lat ι H ι' H' where
  same : ι'.b = ι.b
  kb : ∀ a ∈ ι.b, ∀ o, H a = some o → H' a = some o
/-- .. but for p, which is written meanwhile -/
structure Exb (p : Addr) (ι : Io) (H : Hp) (ι' : Io) (H' : Hp) : Prop extends Lat ι H ι' H' where
  same : ι'.b = ι.b
  kb : ∀ a ∈ ι.b, a ≠ p → ∀ o, H a = some o → H' a = some o

section
variable {K : PySem.W.Frag} {ι ι' ι1 ι2 : Io} {H H' H1 H2 : Hp}
theorem Ext.refl : Ext ι H ι H := ⟨⟨List.prefix_refl _, fun _ h n => absurd h n, fun _ _ _ h => h⟩, rfl, fun _ _ _ h => h⟩
theorem Lat.trans (a : Lat ι H ι1 H1) (b : Lat ι1 H1 ι2 H2) : Lat ι H ι2 H2 := by
  refine ⟨a.pre.trans b.pre, fun x hx n => ?_, fun x o n e => ?_⟩
  · by_cases h1 : x ∈ ι1
    · exact a.new x h1 n
    · have z := b.new x hx h1
      cases e : H x with
      | none => rfl
      | some o => rw [a.keep x o n e] at z; cases z
  · have n1 : x ∉ ι1 := fun h1 => by
      have z := a.new x h1 n
      rw [e] at z; cases z
    exact b.keep x o n1 (a.keep x o n e)
theorem Ext.trans (a : Ext ι H ι1 H1) (b : Ext ι1 H1 ι2 H2) : Ext ι H ι2 H2 := ⟨a.toLat.trans b.toLat, b.same.trans a.same, fun x hx o h => b.kb x (by rw [a.same]; exact hx) o (a.kb x hx o h)⟩
theorem Exb.trans {p : Addr} (a : Exb p ι H ι1 H1) (b : Exb p ι1 H1 ι2 H2) : Exb p ι H ι2 H2 := ⟨a.toLat.trans b.toLat, b.same.trans a.same, fun x hx n o h => b.kb x (by rw [a.same]; exact hx) n o (a.kb x hx n o h)⟩
theorem Ext.toExb {p : Addr} (e : Ext ι H ι1 H1) : Exb p ι H ι1 H1 := ⟨e.toLat, e.same, fun x hx _ o h => e.kb x hx o h⟩
theorem Exb.refl {p : Addr} : Exb p ι H ι H := Ext.refl.toExb
theorem Lat.notin (e : Lat ι H ι' H') {a : Addr} {o : HO} (h : H a = some o) (n : a ∉ ι) : a ∉ ι' := fun hm => by
  have z := e.new a hm n
  rw [h] at z; cases z
theorem Ext.notin (e : Ext ι H ι' H') {a : Addr} {o : HO} (h : H a = some o) (n : a ∉ ι) : a ∉ ι' := e.toLat.notin h n
theorem Lat.at (e : Lat ι H ι' H') {n : Nat} {a : Addr} (h : ι.l[n]? = some a) : ι'.l[n]? = some a := by
  obtain ⟨t, q⟩ := e.pre
  obtain ⟨hl, _⟩ := List.getElem?_eq_some_iff.mp h
  rw [← q, List.getElem?_append_left hl]
  exact h
theorem Ext.at (e : Ext ι H ι' H') {n : Nat} {a : Addr} (h : ι.l[n]? = some a) : ι'.l[n]? = some a := e.toLat.at h
/-- more stands, the things that change as they were -/
theorem Ext.same' (h : Same H H') : Ext ι H ι H' := ⟨⟨List.prefix_refl _, fun _ h n => absurd h n, fun a u _ e => h a u e⟩, rfl, fun a _ u e => h a u e⟩
/-- a new thing that does not change -/
theorem same_push {p : Addr} {o : HO} (h : H p = none) : Same H (upd H p o) := fun a u e => by rw [upd_ne (ne_of_none e h)]; exact e
theorem Ext.push {p : Addr} {o : HO} (h : H p = none) : Ext ι H ι (upd H p o) := Ext.same' (same_push h)
/-- a new thing that changes -/
theorem Ext.more {p : Addr} {o : HO} (h : H p = none) : Ext ι H (ι.add p) (upd H p o) := by
  refine ⟨⟨List.prefix_append _ _, fun a ha n => ?_, fun a u _ e => by rw [upd_ne (ne_of_none e h)]; exact e⟩, rfl, fun a _ u e => by rw [upd_ne (ne_of_none e h)]; exact e⟩
  rcases ha with z | z
  · rcases List.mem_append.mp z with z | z
    · exact absurd (.inl z) n
    · rw [List.mem_singleton.mp z]; exact h
  · exact absurd (.inr z) n
/-- one of the things changes -/
theorem Ext.write {p : Addr} {o : HO} (h : p ∈ ι.l) (nb : p ∉ ι.b) : Ext ι H ι (upd H p o) := ⟨⟨List.prefix_refl _, fun _ h n => absurd h n, fun a u n e => by
  rw [upd_ne (fun z => n (by rw [z]; exact .inl h))]; exact e⟩, rfl, fun a ha u e => by rw [upd_ne (fun z => nb (by rw [← z]; exact ha))]; exact e⟩
theorem Exb.write {p : Addr} {o : HO} (h : p ∈ ι.b) : Exb p ι H ι (upd H p o) := ⟨⟨List.prefix_refl _, fun _ h n => absurd h n, fun a u n e => by
  rw [upd_ne (fun z => n (by rw [z]; exact .inr h))]; exact e⟩, rfl, fun a ha n u e => by rw [upd_ne n]; exact e⟩
theorem Lat.ban {p : Addr} {o : HO} (h : H p = none) : Lat ι H (ι.ban p) (upd H p o) := by
  refine ⟨List.prefix_refl _, fun a ha n => ?_, fun a u _ e => by rw [upd_ne (ne_of_none e h)]; exact e⟩
  rcases ha with z | z
  · exact absurd (.inl z) n
  · rcases List.mem_cons.mp z with z | z
    · rw [z]; exact h
    · exact absurd (.inr z) n
theorem Lat.rd (e : Lat ι H ι' H') {a : Addr} {o : HO} (h : Rd H a o) (n : a ∉ ι) : Rd H' a o ∧ a ∉ ι' := by
  rcases h with h | ⟨u, h⟩
  · exact ⟨.inl (e.keep _ _ n h), e.notin h n⟩
  · exact ⟨.inr ⟨u, e.keep _ _ n h⟩, e.notin h n⟩

mutual
theorem Rep.later {v : V} {d : D} (e : Lat ι H ι' H') (h : Rep K H ι v d) : Rep K H' ι' v d := by
  cases h with
  | non => exact .non
  | bl b => exact .bl b
  | int i => exact .int i
  | str x => exact .str x
  | ty n => exact .ty n
  | adr a => exact .adr a
  | lst n q r => exact .lst (e.rd q n).2 (e.rd q n).1 (RepAll.later e r)
  | klst q r => exact .klst q (RepAll.later e r)
  | tup n q r => exact .tup (e.notin q n) (e.keep _ _ n q) (RepAll.later e r)
  | dic n q l r => exact .dic (e.notin q n) (e.keep _ _ n q) l (RepAll.later e r)
  | ins n q l r => exact .ins (e.notin q n) (e.keep _ _ n q) l (RepAll.later e r)
  | ref h => exact .ref (e.at h)
theorem RepAll.later {vs : List V} {ds : List D} (e : Lat ι H ι' H') (h : RepAll K H ι vs ds) : RepAll K H' ι' vs ds := by
  cases h with
  | nil => exact .nil
  | cons r t => exact .cons (Rep.later e r) (RepAll.later e t)
end
theorem Rep.ext {v : V} {d : D} (h : Rep K H ι v d) (e : Ext ι H ι' H') : Rep K H' ι' v d := Rep.later e.toLat h
theorem RepAll.ext {vs : List V} {ds : List D} (h : RepAll K H ι vs ds) (e : Ext ι H ι' H') : RepAll K H' ι' vs ds := RepAll.later e.toLat h
theorem RepAll.length {vs : List V} {ds : List D} : RepAll K H ι vs ds → vs.length = ds.length
  | .nil => rfl
  | .cons _ t => congrArg (· + 1) (RepAll.length t)
theorem RepAll.get {vs : List V} {ds : List D} {i : Nat} {d : D} (r : RepAll K H ι vs ds) (h : ds[i]? = some d) : ∃ v, vs[i]? = some v ∧ Rep K H ι v d := by
  induction i generalizing vs ds with
  | zero => cases r with
    | nil => simp at h
    | cons r t => simp at h; subst h; exact ⟨_, rfl, r⟩
  | succ i ih => cases r with
    | nil => simp at h
    | cons r t => simpa using ih t (by simpa using h)
theorem RepAll.get' {vs : List V} {ds : List D} {i : Nat} {v : V} (r : RepAll K H ι vs ds) (h : vs[i]? = some v) : ∃ d, ds[i]? = some d ∧ Rep K H ι v d := by
  induction i generalizing vs ds with
  | zero => cases r with
    | nil => simp at h
    | cons r t => simp at h; subst h; exact ⟨_, rfl, r⟩
  | succ i ih => cases r with
    | nil => simp at h
    | cons r t => simpa using ih t (by simpa using h)
theorem RepAll.append {vs us : List V} {ds es : List D} (a : RepAll K H ι vs ds) (b : RepAll K H ι us es) : RepAll K H ι (vs ++ us) (ds ++ es) := by
  match vs, ds, a with
  | _, _, .nil => exact b
  | _, _, .cons r t => exact .cons r (RepAll.append t b)
theorem RepAll.take {vs : List V} {ds : List D} (n : Nat) (a : RepAll K H ι vs ds) : RepAll K H ι (vs.take n) (ds.take n) := by
  induction n generalizing vs ds with
  | zero => simp; exact .nil
  | succ n ih => cases a with
    | nil => simp; exact .nil
    | cons r t => simp only [List.take_succ_cons]; exact .cons r (ih t)
theorem RepAll.drop {vs : List V} {ds : List D} (n : Nat) (a : RepAll K H ι vs ds) : RepAll K H ι (vs.drop n) (ds.drop n) := by
  induction n generalizing vs ds with
  | zero => simpa using a
  | succ n ih => cases a with
    | nil => simp; exact .nil
    | cons r t => simpa using ih t
theorem RepAll.set {vs : List V} {ds : List D} {v : V} {d : D} (n : Nat) (a : RepAll K H ι vs ds) (b : Rep K H ι v d) : RepAll K H ι (vs.set n v) (ds.set n d) := by
  induction n generalizing vs ds with
  | zero => cases a with
    | nil => simp; exact .nil
    | cons r t => simp only [List.set_cons_zero]; exact .cons b t
  | succ n ih => cases a with
    | nil => simp; exact .nil
    | cons r t => simp only [List.set_cons_succ]; exact .cons r (ih t)
theorem RepAll.reverse {vs : List V} {ds : List D} (a : RepAll K H ι vs ds) : RepAll K H ι vs.reverse ds.reverse := by
  match vs, ds, a with
  | _, _, .nil => simp; exact .nil
  | _, _, .cons r t => simp only [List.reverse_cons]; exact RepAll.append (RepAll.reverse t) (.cons r .nil)
theorem RepAll.ints : ∀ {vs : List V} {ns : List Int}, RepAll K H ι vs (ns.map D.int) → vs = ns.map V.int
  | _, [], .nil => rfl
  | _, n :: ns, .cons r t => by
    cases r
    rw [RepAll.ints t]
    rfl
theorem RepAll.ofInts : ∀ (ns : List Int), RepAll K H ι (ns.map V.int) (ns.map D.int)
  | [] => .nil
  | n :: ns => .cons (.int n) (RepAll.ofInts ns)
end

/-- how a thing that changes stands -/
inductive ObRep (K : PySem.W.Frag) (H : Hp) (ι : Io) (a : Addr) : D → Prop
  | lst {xs : List V} {ds : List D} : H a = some (.lst xs) → RepAll K H ι xs ds → ObRep K H ι a (.lst ds)
  | dic {ks : List Key} {xs : List V} {ds : List D} : H a = some (.dK (ks.zip xs)) → ks.length = xs.length → RepAll K H ι xs ds → ObRep K H ι a (.dic ks ds)
  | ins {C dx : Addr} {ns : List Str} {xs : List V} {ds : List D} : H a = some (.ins C dx (ns.zip xs)) → ns.length = xs.length → RepAll K H ι xs ds → ObRep K H ι a (.ins C ns ds)

structure Sim (K : PySem.W.Frag) (ι : Io) (H : Hp) (M : Mem) : Prop where
  len : ι.l.length = M.length
  nd : ι.l.Nodup
  sep : ∀ a ∈ ι.b, a ∉ ι.l
  ban : ∀ a ∈ ι.b, ∃ o, H a = some o
  obj : ∀ (n : Nat) (a : Addr) (o : D), ι.l[n]? = some a → M[n]? = some o → ObRep K H ι a o

section
variable {K : PySem.W.Frag} {ι ι' ι1 ι2 : Io} {H H' H1 H2 : Hp} {M M' : Mem}
theorem ObRep.there {a : Addr} {o : D} (h : ObRep K H ι a o) : ∃ u, H a = some u := by
  cases h with
  | lst h _ => exact ⟨_, h⟩
  | dic h _ _ => exact ⟨_, h⟩
  | ins h _ _ => exact ⟨_, h⟩
theorem Sim.there (s : Sim K ι H M) {a : Addr} (h : a ∈ ι) : ∃ u, H a = some u := by
  rcases h with h | h
  · obtain ⟨n, hn, e⟩ := List.mem_iff_getElem.mp h
    have h1 : ι.l[n]? = some a := by rw [List.getElem?_eq_getElem hn, e]
    have hm : n < M.length := by rw [← s.len]; exact hn
    exact (s.obj n a _ h1 (List.getElem?_eq_getElem hm)).there
  · exact s.ban a h
theorem Sim.fresh (s : Sim K ι H M) {p : Addr} (h : H p = none) : p ∉ ι := fun hm => by
  obtain ⟨u, e⟩ := s.there hm
  rw [h] at e; cases e
theorem ObRep.ext' {a : Addr} {o : D} (e : Lat ι H ι' H') (h : ObRep K H ι a o) (k : H' a = H a) : ObRep K H' ι' a o := by
  cases h with
  | lst h r => exact .lst (k.trans h) (RepAll.later e r)
  | dic h l r => exact .dic (k.trans h) l (RepAll.later e r)
  | ins h l r => exact .ins (k.trans h) l (RepAll.later e r)
/-- a new thing that does not change comes beside -/
theorem Sim.push (s : Sim K ι H M) {p : Addr} {o : HO} (h : H p = none) : Sim K ι (upd H p o) M := ⟨s.len, s.nd, s.sep, fun a ha => by
  obtain ⟨u, e⟩ := s.ban a ha
  exact ⟨u, by rw [upd_ne (ne_of_none e h)]; exact e⟩, fun n a u e1 e2 => by
  have b := s.obj n a u e1 e2
  obtain ⟨w, hw⟩ := b.there
  exact b.ext' (Ext.push h).toLat (upd_ne (ne_of_none hw h))⟩
theorem Sim.same (s : Sim K ι H M) (h : Same H H') : Sim K ι H' M := ⟨s.len, s.nd, s.sep, fun a ha => by
  obtain ⟨u, e⟩ := s.ban a ha
  exact ⟨u, h a u e⟩, fun n a u e1 e2 => by
  have b := s.obj n a u e1 e2
  obtain ⟨w, hw⟩ := b.there
  exact b.ext' (Ext.same' h).toLat ((h a w hw).trans hw.symm)⟩
theorem Sim.out {p : Addr} (s : Sim K (ι.ban p) H M) (n : p ∉ ι.b) : p ∉ ι := fun z => by
  rcases z with z | z
  · exact s.sep p List.mem_cons_self z
  · exact n z
/-- a new thing that changes -/
theorem Sim.more (s : Sim K ι H M) {p : Addr} {o : HO} {d : D} (h : H p = none) (b : ObRep K (upd H p o) (ι.add p) p d) : Sim K (ι.add p) (upd H p o) (M ++ [d]) := by
  have np := s.fresh h
  refine ⟨by simp [Io.add, s.len], ?_, fun a ha => ?_, fun a ha => ?_, fun n a u e1 e2 => ?_⟩
  · show (ι.l ++ [p]).Nodup
    rw [List.nodup_append]
    refine ⟨s.nd, by simp, fun a ha b hb => ?_⟩
    rw [List.mem_singleton.mp hb]
    rintro rfl
    exact np (.inl ha)
  · intro hm
    rcases List.mem_append.mp hm with z | z
    · exact s.sep a ha z
    · rw [List.mem_singleton.mp z] at ha
      exact np (.inr ha)
  · obtain ⟨u, e⟩ := s.ban a ha
    exact ⟨u, by rw [upd_ne (ne_of_none e h)]; exact e⟩
  · have e1 : (ι.l ++ [p])[n]? = some a := e1
    by_cases hn : n < ι.l.length
    · rw [List.getElem?_append_left hn] at e1
      rw [List.getElem?_append_left (by rw [← s.len]; exact hn)] at e2
      have b := s.obj n a u e1 e2
      obtain ⟨w, hw⟩ := b.there
      exact b.ext' (Ext.more h).toLat (upd_ne (ne_of_none hw h))
    · rw [List.getElem?_append_right (by omega)] at e1
      rw [List.getElem?_append_right (by rw [← s.len]; omega)] at e2
      have z : n - ι.l.length = 0 := by
        have := (List.getElem?_eq_some_iff.mp e1).1
        simp at this; omega
      rw [z] at e1
      rw [← s.len, z] at e2
      simp at e1 e2
      subst e1; subst e2
      exact b
/-- one of the things changes -/
theorem Sim.write (s : Sim K ι H M) {n : Nat} {p : Addr} {o : HO} {d : D} (h : ι.l[n]? = some p) (b : ObRep K (upd H p o) ι p d) : Sim K ι (upd H p o) (M.set n d) := by
  have hp : p ∈ ι.l := List.mem_of_getElem? h
  refine ⟨by simp [s.len], s.nd, s.sep, fun a ha => ?_, fun m a u e1 e2 => ?_⟩
  · obtain ⟨u, e⟩ := s.ban a ha
    exact ⟨u, by rw [upd_ne (fun z => s.sep a ha (by rw [z]; exact hp))]; exact e⟩
  by_cases hm : n = m
  · subst hm
    rw [h] at e1
    obtain rfl := Option.some.inj e1
    have hl : n < M.length := by rw [← s.len]; exact (List.getElem?_eq_some_iff.mp h).1
    rw [List.getElem?_set_self hl] at e2
    obtain rfl := Option.some.inj e2
    exact b
  · rw [List.getElem?_set_ne hm] at e2
    have ne : a ≠ p := fun z => hm (by
      subst z
      obtain ⟨h1, q1⟩ := List.getElem?_eq_some_iff.mp h
      obtain ⟨h2, q2⟩ := List.getElem?_eq_some_iff.mp e1
      exact (List.getElem_inj s.nd).mp (q1.trans q2.symm))
    exact (s.obj m a u e1 e2).ext' (Ext.write hp (fun z => s.sep p z hp)).toLat (upd_ne ne)

/-! ### a new thing is made under way: nothing leans on it -/
mutual
theorem Rep.banned {v : V} {d : D} {p : Addr} {o : HO} (h : H p = none) (r : Rep K H ι v d) : Rep K (upd H p o) (ι.ban p) v d := by
  have nm : ∀ {a : Addr} {u : HO}, H a = some u → a ∉ ι → a ∉ ι.ban p := fun {a u} e n z => by
    rcases z with z | z
    · exact n (.inl z)
    · rcases List.mem_cons.mp z with z | z
      · exact ne_of_none e h z
      · exact n (.inr z)
  have kp : ∀ {a : Addr} {u : HO}, H a = some u → upd H p o a = some u := fun e => (upd_ne (ne_of_none e h)).trans e
  cases r with
  | non => exact .non
  | bl b => exact .bl b
  | int i => exact .int i
  | str x => exact .str x
  | ty n => exact .ty n
  | adr a => exact .adr a
  | lst n q r =>
    rcases q with q | ⟨u, q⟩
    · exact .lst (nm q n) (.inl (kp q)) (RepAll.banned h r)
    · exact .lst (nm q n) (.inr ⟨u, kp q⟩) (RepAll.banned h r)
  | klst q r => exact .klst q (RepAll.banned h r)
  | tup n q r => exact .tup (nm q n) (kp q) (RepAll.banned h r)
  | dic n q l r => exact .dic (nm q n) (kp q) l (RepAll.banned h r)
  | ins n q l r => exact .ins (nm q n) (kp q) l (RepAll.banned h r)
  | ref e => exact .ref e
theorem RepAll.banned {vs : List V} {ds : List D} {p : Addr} {o : HO} (h : H p = none) (r : RepAll K H ι vs ds) : RepAll K (upd H p o) (ι.ban p) vs ds := by
  cases r with
  | nil => exact .nil
  | cons r t => exact .cons (Rep.banned h r) (RepAll.banned h t)
end
mutual
theorem Rep.unban {v : V} {d : D} {p : Addr} (r : Rep K H (ι.ban p) v d) : Rep K H ι v d := by
  have nm : ∀ {a : Addr}, a ∉ ι.ban p → a ∉ ι := fun {a} n z => n (by
    rcases z with z | z
    · exact .inl z
    · exact .inr (List.mem_cons_of_mem _ z))
  cases r with
  | non => exact .non
  | bl b => exact .bl b
  | int i => exact .int i
  | str x => exact .str x
  | ty n => exact .ty n
  | adr a => exact .adr a
  | lst n q r => exact .lst (nm n) q (RepAll.unban r)
  | klst q r => exact .klst q (RepAll.unban r)
  | tup n q r => exact .tup (nm n) q (RepAll.unban r)
  | dic n q l r => exact .dic (nm n) q l (RepAll.unban r)
  | ins n q l r => exact .ins (nm n) q l (RepAll.unban r)
  | ref e => exact .ref e
theorem RepAll.unban {vs : List V} {ds : List D} {p : Addr} (r : RepAll K H (ι.ban p) vs ds) : RepAll K H ι vs ds := by
  cases r with
  | nil => exact .nil
  | cons r t => exact .cons (Rep.unban r) (RepAll.unban t)
end
theorem ObRep.banned {a p : Addr} {d : D} {o : HO} (h : H p = none) (r : ObRep K H ι a d) : ObRep K (upd H p o) (ι.ban p) a d := by
  have kp : ∀ {a : Addr} {u : HO}, H a = some u → upd H p o a = some u := fun e => (upd_ne (ne_of_none e h)).trans e
  cases r with
  | lst q r => exact .lst (kp q) (r.banned h)
  | dic q l r => exact .dic (kp q) l (r.banned h)
  | ins q l r => exact .ins (kp q) l (r.banned h)
theorem ObRep.unban {a p : Addr} {d : D} (r : ObRep K H (ι.ban p) a d) : ObRep K H ι a d := by
  cases r with
  | lst q r => exact .lst q r.unban
  | dic q l r => exact .dic q l r.unban
  | ins q l r => exact .ins q l r.unban
theorem Sim.banned {p : Addr} {o : HO} (s : Sim K ι H M) (h : H p = none) : Sim K (ι.ban p) (upd H p o) M :=
  ⟨s.len, s.nd, fun a ha => by
    rcases List.mem_cons.mp ha with z | z
    · rw [z]; exact fun hm => s.fresh h (.inl hm)
    · exact s.sep a z, fun a ha => by
    rcases List.mem_cons.mp ha with z | z
    · rw [z]; exact ⟨o, upd_same⟩
    · obtain ⟨u, e⟩ := s.ban a z
      exact ⟨u, (upd_ne (ne_of_none e h)).trans e⟩, fun n a u e1 e2 => (s.obj n a u e1 e2).banned h⟩
theorem Sim.unban {p : Addr} (s : Sim K (ι.ban p) H M) : Sim K ι H M :=
  ⟨s.len, s.nd, fun a ha => s.sep a (List.mem_cons_of_mem _ ha), fun a ha => s.ban a (List.mem_cons_of_mem _ ha), fun n a u e1 e2 => (s.obj n a u e1 e2).unban⟩
/-- the banned thing is written -/
theorem Sim.wban {p : Addr} {o : HO} (s : Sim K ι H M) (h : p ∈ ι.b) : Sim K ι (upd H p o) M :=
  ⟨s.len, s.nd, s.sep, fun a ha => by
    by_cases e : a = p
    · rw [e]; exact ⟨o, upd_same⟩
    · obtain ⟨u, q⟩ := s.ban a ha
      exact ⟨u, (upd_ne e).trans q⟩, fun n a u e1 e2 => (s.obj n a u e1 e2).ext' (Exb.write h).toLat (upd_ne fun z => s.sep p h (by rw [← z]; exact List.mem_of_getElem? e1))⟩
/-- the way under the ban as a way without it -/
theorem Ext.unban {p : Addr} {o : HO} (s : Sim K ι H M) (h : H p = none) (s' : Sim K (ι'.ban p) H' M') (e : Exb p (ι.ban p) (upd H p o) (ι'.ban p) H') : Ext ι H ι' H' := by
  refine ⟨⟨e.pre, fun a ha n => ?_, fun a u n q => ?_⟩, (List.cons.inj e.same).2, fun a ha u q => e.kb a (List.mem_cons_of_mem _ ha) (ne_of_none q h) u ((upd_ne (ne_of_none q h)).trans q)⟩
  · by_cases ea : a = p
    · rw [ea]; exact h
    · have n' : a ∉ ι.ban p := fun z => by
        rcases z with z | z
        · exact n (.inl z)
        · rcases List.mem_cons.mp z with z | z
          · exact ea z
          · exact n (.inr z)
      have z := e.new a (by
        rcases ha with z | z
        · exact .inl z
        · exact .inr (List.mem_cons_of_mem _ z)) n'
      rw [upd_ne ea] at z
      exact z
  · have ea : a ≠ p := ne_of_none q h
    refine e.keep a u (fun z => ?_) ((upd_ne ea).trans q)
    rcases z with z | z
    · exact n (.inl z)
    · rcases List.mem_cons.mp z with z | z
      · exact ea z
      · exact n (.inr z)
end

/-- slots -/
inductive SlotR (K : PySem.W.Frag) (H : Hp) (ι : Io) : Option V → Option D → Prop
  | some {v : V} {d : D} : Rep K H ι v d → SlotR K H ι (.some v) (.some d)
  | none {v : Option V} : SlotR K H ι v .none
structure Rp (K : PySem.W.Frag) (ι : Io) (H : Hp) (M : Mem) (σ : St) (ρ : Env) : Prop where
  sim : Sim K ι H M
  slots : Paired (SlotR K H ι) σ ρ
section
variable {K : PySem.W.Frag} {ι ι' : Io} {H H' : Hp} {M M' : Mem} {σ : St} {ρ : Env}
theorem SlotR.ext {v : Option V} {d : Option D} (e : Ext ι H ι' H') (h : SlotR K H ι v d) : SlotR K H' ι' v d := by
  cases h with
  | some r => exact .some (r.ext e)
  | none => exact .none
theorem Rp.ext (r : Rp K ι H M σ ρ) (e : Ext ι H ι' H') (s : Sim K ι' H' M') : Rp K ι' H' M' σ ρ := ⟨s, Paired.mapP r.slots fun _ _ z => z.ext e⟩
theorem slots_get {i : Nat} {d : D} (r : Paired (SlotR K H ι) σ ρ) (h : ρ[i]? = some (some d)) : ∃ v, σ[i]? = some (some v) ∧ Rep K H ι v d := by
  induction i generalizing σ ρ with
  | zero => cases r with
    | nil => simp at h
    | cons r t =>
      simp at h; subst h
      cases r with
      | some r => exact ⟨_, rfl, r⟩
  | succ i ih => cases r with
    | nil => simp at h
    | cons r t => simpa using ih t (by simpa using h)
theorem slots_set {v : Option V} {d : Option D} (i : Nat) (r : Paired (SlotR K H ι) σ ρ) (h : SlotR K H ι v d) : Paired (SlotR K H ι) (σ.set i v) (ρ.set i d) := by
  induction i generalizing σ ρ with
  | zero => cases r with
    | nil => simp; exact .nil
    | cons r t => simp only [List.set_cons_zero]; exact .cons h t
  | succ i ih => cases r with
    | nil => simp; exact .nil
    | cons r t => simp only [List.set_cons_succ]; exact .cons r (ih t)
theorem Rp.set {v : V} {d : D} (r : Rp K ι H M σ ρ) (i : Nat) (h : Rep K H ι v d) : Rp K ι H M (σ.set i (some v)) (ρ.set i (some d)) := ⟨r.sim, slots_set i r.slots (.some h)⟩
end

/-! ### outcomes -/
inductive R (α : Type) where
  | ok (a : α) (M : Mem) | exc (x : D) (M : Mem) | err
def R.bind {α β : Type} (r : R α) (k : α → Mem → R β) : R β := match r with
  | .ok a M => k a M
  | .exc x M => .exc x M
  | .err => .err
def R.ofO {α : Type} (o : Option α) (M : Mem) : R α := match o with
  | some a => .ok a M
  | none => .err
inductive O where
  | nx (ρ : Env) (M : Mem) | rt (d : D) (M : Mem) | bk (ρ : Env) (M : Mem) | ct (ρ : Env) (M : Mem) | exc (x : D) (ρ : Env) (M : Mem) | err
def R.toO {α : Type} (r : R α) (ρ : Env) (k : α → Mem → O) : O := match r with
  | .ok a M => k a M
  | .exc x M => .exc x ρ M
  | .err => .err

/-- an exception: its class, the fields of its own dict -/
inductive RepX (K : PySem.W.Frag) (H : Hp) (ι : Io) : Value → Option Addr → D → Prop
  | bare {C : Addr} {o : Option Addr} : RepX K H ι (.ref C) o (.ins C [] [])
  | full {C dd : Addr} {ns : List Str} {xs : List V} {ds : List D} : dd ∉ ι → H dd = some (.xd (ns.zip xs)) → ns.length = xs.length → RepAll K H ι xs ds → RepX K H ι (.ref C) (some dd) (.ins C ns ds)
theorem RepX.ext {K : PySem.W.Frag} {ι ι' : Io} {H H' : Hp} {c : Value} {o : Option Addr} {x : D} (e : Ext ι H ι' H') (h : RepX K H ι c o x) : RepX K H' ι' c o x := by
  cases h with
  | bare => exact .bare
  | full n q l r => exact .full (e.notin q n) (e.keep _ _ n q) l (r.ext e)

section
variable {K : PySem.W.Frag} {α β γ δ : Type} {rel : Hp → Io → β → α → Prop} {rel' : Hp → Io → δ → γ → Prop} {W : WX} {ι ι1 : Io} {H H1 : Hp} {σ : St} {Q Q' : β → Hp → Prop} {Q2 : δ → Hp → Prop}
def Post (K : PySem.W.Frag) (rel : Hp → Io → β → α → Prop) (W : WX) (ι : Io) (H : Hp) (σ : St) (Q : β → Hp → Prop) : R α → Prop
  | .ok a M' => ∀ ι' H' b, Ext ι H ι' H' → Sim K ι' H' M' → rel H' ι' b a → Q b H'
  | .exc x M' => ∀ ι' H' c o, Ext ι H ι' H' → Sim K ι' H' M' → RepX K H' ι' c o x → W c o σ H'
  | .err => False
theorem Post.later {r : R α} (e : Ext ι H ι1 H1) (h : Post K rel W ι H σ Q r) : Post K rel W ι1 H1 σ Q r := by
  cases r with
  | ok a M' => exact fun ι' H' b e' s q => h ι' H' b (e.trans e') s q
  | exc x M' => exact fun ι' H' c o e' s q => h ι' H' c o (e.trans e') s q
  | err => exact h
theorem Post.imp {r : R α} (h : Post K rel W ι H σ Q r) (i : ∀ b H, Q b H → Q' b H) : Post K rel W ι H σ Q' r := by
  cases r with
  | ok a M' => exact fun ι' H' b e' s q => i b H' (h ι' H' b e' s q)
  | exc x M' => exact h
  | err => exact h
theorem Post.bind {r : R α} {k : α → Mem → R γ} (h : Post K rel' W ι H σ Q2 (r.bind k)) :
    Post K rel W ι H σ (fun b H1 => ∃ ι1 a M1, Ext ι H ι1 H1 ∧ Sim K ι1 H1 M1 ∧ rel H1 ι1 b a ∧ Post K rel' W ι1 H1 σ Q2 (k a M1)) r := by
  cases r with
  | ok a M' => exact fun ι' H' b e s q => ⟨ι', a, M', e, s, q, Post.later e h⟩
  | exc x M' => exact h
  | err => exact h
/-- the answer is there -/
theorem Post.done {a : α} {b : β} {M : Mem} (h : Post K rel W ι H σ Q (.ok a M)) (s : Sim K ι H M) (r : rel H ι b a) : Q b H := h ι H b .refl s r
theorem Post.at {a : α} {b : β} {M : Mem} (h : Post K rel W ι H σ Q (.ok a M)) (e : Ext ι H ι1 H1) (s : Sim K ι1 H1 M) (r : rel H1 ι1 b a) : Q b H1 := h ι1 H1 b e s r
def tG (K : PySem.W.Frag) (rel : Hp → Io → β → α → Prop) (W : WX) (f : Env → Mem → R α) (σ : St) (H : Hp) (Q : β → Hp → Prop) : Prop :=
  ∃ ι ρ M, Rp K ι H M σ ρ ∧ Post K rel W ι H σ Q (f ρ M)
end
def rB (_ : Hp) (_ : Io) (b : Bool) (a : Bool) : Prop := b = a

def PostS (K : PySem.W.Frag) (W : WX) (ι : Io) (H : Hp) (D : Ends) : O → Prop
  | .nx ρ' M' => ∀ ι' H' σ', Ext ι H ι' H' → Rp K ι' H' M' σ' ρ' → D.nx σ' H'
  | .rt d M' => ∀ ι' H' v, Ext ι H ι' H' → Sim K ι' H' M' → Rep K H' ι' v d → D.rt v H'
  | .bk ρ' M' => ∀ ι' H' σ', Ext ι H ι' H' → Rp K ι' H' M' σ' ρ' → D.bk σ' H'
  | .ct ρ' M' => ∀ ι' H' σ', Ext ι H ι' H' → Rp K ι' H' M' σ' ρ' → D.ct σ' H'
  | .exc x ρ' M' => ∀ ι' H' σ' c o, Ext ι H ι' H' → Rp K ι' H' M' σ' ρ' → RepX K H' ι' c o x → W c o σ' H'
  | .err => False
section
variable {K : PySem.W.Frag} {α β : Type} {rel : Hp → Io → β → α → Prop} {W : WX} {ι ι1 : Io} {H H1 : Hp} {σ : St} {ρ : Env} {D D' : Ends}
theorem PostS.later {r : O} (e : Ext ι H ι1 H1) (h : PostS K W ι H D r) : PostS K W ι1 H1 D r := by
  cases r with
  | nx ρ' M' => exact fun ι' H' σ' e' q => h ι' H' σ' (e.trans e') q
  | rt d M' => exact fun ι' H' v e' s q => h ι' H' v (e.trans e') s q
  | bk ρ' M' => exact fun ι' H' σ' e' q => h ι' H' σ' (e.trans e') q
  | ct ρ' M' => exact fun ι' H' σ' e' q => h ι' H' σ' (e.trans e') q
  | exc x ρ' M' => exact fun ι' H' σ' c o e' q z => h ι' H' σ' c o (e.trans e') q z
  | err => exact h
theorem Post.toO {M : Mem} {r : R α} {k : α → Mem → O} (hR : Rp K ι H M σ ρ) (h : PostS K W ι H D (r.toO ρ k)) :
    Post K rel W ι H σ (fun b H1 => ∃ ι1 a M1, Ext ι H ι1 H1 ∧ Rp K ι1 H1 M1 σ ρ ∧ rel H1 ι1 b a ∧ PostS K W ι1 H1 D (k a M1)) r := by
  cases r with
  | ok a M' => exact fun ι' H' b e s q => ⟨ι', a, M', e, hR.ext e s, q, PostS.later e h⟩
  | exc x M' => exact fun ι' H' c o e s q => h ι' H' σ c o e (hR.ext e s) q
  | err => exact h
end
def tS (K : PySem.W.Frag) (W : WX) (f : Env → Mem → O) : TS := fun D σ H => ∃ ι ρ M, Rp K ι H M σ ρ ∧ PostS K W ι H D (f ρ M)

/-! ### the judgements -/
theorem PE.imp {X : Cx} {e : Expr} {t t' : TE} (i : ∀ σ H Q, t' σ H Q → t σ H Q) (h : PE X e t) : PE X e t' := ⟨fun pins s σ H Q I q => h.run pins s σ H Q I (i σ H Q q)⟩
theorem PT.imp {X : Cx} {e : Expr} {t t' : TT} (i : ∀ σ H Q, t' σ H Q → t σ H Q) (h : PT X e t) : PT X e t' := ⟨fun pins s σ H Q I q => h.run pins s σ H Q I (i σ H Q q)⟩
theorem PW.imp {X : Cx} {e : Expr} {t t' : TT} (i : ∀ σ H Q, t' σ H Q → t σ H Q) (h : PW X e t) : PW X e t' := ⟨fun wh pins s σ H Q I q => h.run wh pins s σ H Q I (i σ H Q q)⟩
theorem PA.imp {X : Cx} {es : List Expr} {t t' : TA} (i : ∀ σ H Q, t' σ H Q → t σ H Q) (h : PA X es t) : PA X es t' := ⟨fun pos pins s σ H Q I q => h.run pos pins s σ H Q I (i σ H Q q)⟩
theorem PS.imp {X : Cx} {st : Stmt} {t t' : TS} (i : ∀ D σ H, t' D σ H → t D σ H) (h : PS X st t) : PS X st t' := ⟨fun pins s σ H D I q => h.run pins s σ H D I (i D σ H q)⟩
theorem PSs.imp {X : Cx} {st : List Stmt} {t t' : TS} (i : ∀ D σ H, t' D σ H → t D σ H) (h : PSs X st t) : PSs X st t' := ⟨fun pins s σ H D I q => h.run pins s σ H D I (i D σ H q)⟩

abbrev FE (X : Cx) (W : WX) (e : Expr) (f : Env → Mem → R D) : Prop := PE X e (tG X.K (Rep X.K) W f)
abbrev FT (X : Cx) (W : WX) (e : Expr) (f : Env → Mem → R Bool) : Prop := PT X e (tG X.K rB W f)
abbrev FW (X : Cx) (W : WX) (e : Expr) (f : Env → Mem → R Bool) : Prop := PW X e (tG X.K rB W f)
abbrev FA (X : Cx) (W : WX) (es : List Expr) (f : Env → Mem → R (List D)) : Prop := PA X es (tG X.K (RepAll X.K) W f)
abbrev FS (X : Cx) (W : WX) (st : Stmt) (f : Env → Mem → O) : Prop := PS X st (tS X.K W f)
abbrev FSs (X : Cx) (W : WX) (st : List Stmt) (f : Env → Mem → O) : Prop := PSs X st (tS X.K W f)

/-! ### names, constants -/
def fv (i : Nat) : Env → Mem → R D := fun ρ M => match ρ[i]? with
  | some (some d) => .ok d M
  | _ => .err
def fc (d : D) : Env → Mem → R D := fun _ M => .ok d M
section
variable {X : Cx} {W : WX}
theorem fe_imp {e : Expr} {t : TE} {f : Env → Mem → R D} (h : PE X e t) (i : ∀ σ H Q ι ρ M, Rp X.K ι H M σ ρ → Post X.K (Rep X.K) W ι H σ Q (f ρ M) → t σ H Q) : FE X W e f :=
  PE.imp (fun σ H Q ⟨ι, ρ, M, hR, hP⟩ => i σ H Q ι ρ M hR hP) h
theorem fe_var {i : Nat} {e : Expr} (h : PE X e (tVar i)) : FE X W e (fv i) := fe_imp h fun σ H Q ι ρ M hR hP => by
  unfold fv at hP
  split at hP
  · rename_i d hd
    obtain ⟨v, e, r⟩ := slots_get hR.slots hd
    exact ⟨v, e, hP.done hR.sim r⟩
  · exact hP.elim
theorem fe_c {e : Expr} {v : V} {d : D} (h : PE X e (tC v)) (r : ∀ H ι, Rep X.K H ι v d) : FE X W e (fc d) := fe_imp h fun σ H Q ι ρ M hR hP => hP.done hR.sim (r H ι)
theorem fv_ (i : Nat) {x : Str} {pos : Pos} (hN : X.N[i]? = some x := by rfl) (hv : Vis X.env.scope x := by first | exact Or.inl rfl | exact Or.inr (Or.inl rfl) | exact Or.inr (Or.inr rfl)) (hd : (x == ("__debug__" : Str)) = false := by decide)
    (hcd : (x == ("__classdict__" : Str)) = false := by decide) : FE X W (.Name x pos) (fv i) := fe_var (pe_var hN hv hd hcd)
theorem fe_int {i : Int} {j pos} : FE X W (.Constant (.int i) j pos) (fc (.int i)) := fe_c pe_int fun _ _ => .int i
theorem fe_bl {b : Bool} {j pos} : FE X W (.Constant (.bool b) j pos) (fc (.bl b)) := fe_c pe_bl fun _ _ => .bl b
theorem fe_non {j pos} : FE X W (.Constant .none j pos) (fc .non) := fe_c pe_non fun _ _ => .non
theorem fe_str {x : Str} {j pos} : FE X W (.Constant (.str x) j pos) (fc (.str x)) := fe_c pe_str fun _ _ => .str x

/-! ### operators by values -/
/-- what op does with data: nothing changes -/
def rO (K : PySem.W.Frag) (h : D → D → Mem → Option D) : R2 := fun x y H Q => ∃ ι M a b d, Sim K ι H M ∧ Rep K H ι x a ∧ Rep K H ι y b ∧ h a b M = some d ∧ ∀ ι' H' v, Ext ι H ι' H' → Sim K ι' H' M → Rep K H' ι' v d → Q v H'
def rU1 (K : PySem.W.Frag) (h : D → Mem → Option D) : V → Hp → VK → Prop := fun x H Q => ∃ ι M a d, Sim K ι H M ∧ Rep K H ι x a ∧ h a M = some d ∧ ∀ ι' H' v, Ext ι H ι' H' → Sim K ι' H' M → Rep K H' ι' v d → Q v H'
def fbin (h : D → D → Mem → Option D) (f g : Env → Mem → R D) : Env → Mem → R D := fun ρ M => (f ρ M).bind fun a M1 => (g ρ M1).bind fun b M2 => R.ofO (h a b M2) M2
def fun1 (h : D → Mem → Option D) (f : Env → Mem → R D) : Env → Mem → R D := fun ρ M => (f ρ M).bind fun a M1 => R.ofO (h a M1) M1
theorem op_imp {f g : Env → Mem → R D} {h : D → D → Mem → Option D} {σ : St} {H : Hp} {Q : VK} (q : tG X.K (Rep X.K) W (fbin h f g) σ H Q) : tOp (rO X.K h) (tG X.K (Rep X.K) W f) (tG X.K (Rep X.K) W g) σ H Q := by
  obtain ⟨ι, ρ, M, hR, hP⟩ := q
  refine ⟨ι, ρ, M, hR, hP.bind.imp ?_⟩
  rintro x H1 ⟨ι1, a, M1, e1, s1, r1, p1⟩
  refine ⟨ι1, ρ, M1, hR.ext e1 s1, p1.bind.imp ?_⟩
  rintro y H2 ⟨ι2, b, M2, e2, s2, r2, p2⟩
  cases e : h a b M2 with
  | none => rw [e] at p2; exact p2.elim
  | some d =>
    rw [e] at p2
    exact ⟨ι2, M2, a, b, d, s2, r1.ext e2, r2, e, fun ι' H' v e' s' r' => p2.at e' s' r'⟩
theorem fe_bin {a b : Expr} {op : Operator} {pos : Pos} {h : D → D → Mem → Option D} {f g : Env → Mem → R D} (ho : OpR X (binaryOp op) (rO X.K h)) (ha : FE X W a f) (hb : FE X W b g) : FE X W (.BinOp a op b pos) (fbin h f g) :=
  PE.imp (fun _ _ _ q => op_imp q) (pe_op ho ha hb)
theorem fe_un {a : Expr} {op : UnaryOp} {pos : Pos} {h : D → Mem → Option D} {f : Env → Mem → R D} (ho : UnR X (unaryOp op) (rU1 X.K h)) (ha : FE X W a f) : FE X W (.UnaryOp op a pos) (fun1 h f) :=
  fe_imp (pe_un ho ha) fun σ H Q ι ρ M hR hP => by
    refine ⟨ι, ρ, M, hR, hP.bind.imp ?_⟩
    rintro x H1 ⟨ι1, a, M1, e1, s1, r1, p1⟩
    cases e : h a M1 with
    | none => rw [e] at p1; exact p1.elim
    | some d =>
      rw [e] at p1
      exact ⟨ι1, M1, a, d, s1, r1, e, fun ι' H' v e' s' r' => p1.at e' s' r'⟩
theorem fe_cmp {a b : Expr} {op : CmpOp} {pos : Pos} {h : D → D → Mem → Option D} {f g : Env → Mem → R D} (ho : OpR X (compareOp op) (rO X.K h)) (ha : FE X W a f) (hb : FE X W b g) (hm : behindInMarks op b = false) : FE X W (.Compare a [op] [b] pos) (fbin h f g) :=
  PE.imp (fun _ _ _ q => op_imp q) (pe_cmpR ho ha hb hm)
def asB : D → Option Bool
  | .bl b => some b
  | _ => none
def fB (f : Env → Mem → R D) : Env → Mem → R Bool := fun ρ M => (f ρ M).bind fun a M1 => R.ofO (asB a) M1
theorem ft_cmp {a b : Expr} {op : CmpOp} {pos : Pos} {h : D → D → Mem → Option D} {f g : Env → Mem → R D} (ho : OpR X (compareOp op) (rO X.K h)) (ha : FE X W a f) (hb : FE X W b g) (hm : behindInMarks op b = false) : FT X W (.Compare a [op] [b] pos) (fB (fbin h f g)) := by
  refine PT.imp (fun σ H Q q => ?_) (pt_cmpR ho ha hb hm)
  obtain ⟨ι, ρ, M, hR, hP⟩ := q
  show tOp _ _ _ σ H _
  refine op_imp ⟨ι, ρ, M, hR, hP.bind.imp ?_⟩
  rintro x H1 ⟨ι1, d, M1, e1, s1, r1, p1⟩
  cases r1 with
  | bl b => exact ⟨b, rfl, p1.done s1 rfl⟩
  | _ => exact p1.elim
end
end Fx

set_option Elab.async false
set_option linter.all false
set_option maxRecDepth 100000
set_option maxHeartbeats 1000000
set_option autoImplicit false
/-! Fx2: statements, targets, loops, comprehensions, calls, what a def promises. -/
namespace Fx
open PySem PySem.Spec PyProof.Rows L2

/-! ### blocks and small statements -/
def sNil : Env → Mem → O := fun ρ M => .nx ρ M
def O.seq (r : O) (k : Env → Mem → O) : O := match r with
  | .nx ρ M => k ρ M
  | .rt d M => .rt d M
  | .bk ρ M => .bk ρ M
  | .ct ρ M => .ct ρ M
  | .exc x ρ M => .exc x ρ M
  | .err => .err
def sSeq (f g : Env → Mem → O) : Env → Mem → O := fun ρ M => (f ρ M).seq g
def sIf (c : Env → Mem → R Bool) (f g : Env → Mem → O) : Env → Mem → O := fun ρ M => (c ρ M).toO ρ fun b M1 => if b = true then f ρ M1 else g ρ M1
def sExpr (f : Env → Mem → R D) : Env → Mem → O := fun ρ M => (f ρ M).toO ρ fun _ M1 => .nx ρ M1
def sRet (f : Env → Mem → R D) : Env → Mem → O := fun ρ M => (f ρ M).toO ρ fun d M1 => .rt d M1
def sRetN : Env → Mem → O := fun _ M => .rt .non M
def sSet (i : Nat) (f : Env → Mem → R D) : Env → Mem → O := fun ρ M => (f ρ M).toO ρ fun d M1 => .nx (ρ.set i (some d)) M1
def sErr : Env → Mem → O := fun _ _ => .err
def sBk : Env → Mem → O := fun ρ M => .bk ρ M
def sCt : Env → Mem → O := fun ρ M => .ct ρ M
section
variable {X : Cx} {W : WX} {st : Stmt} {rest : List Stmt} {f g : Env → Mem → O} {pos : Pos}
theorem fs_imp {st : Stmt} {t : TS} {f : Env → Mem → O} (h : PS X st t) (i : ∀ D σ H ι ρ M, Rp X.K ι H M σ ρ → PostS X.K W ι H D (f ρ M) → t D σ H) : FS X W st f :=
  PS.imp (fun D σ H ⟨ι, ρ, M, hR, hP⟩ => i D σ H ι ρ M hR hP) h
theorem PostS.seq {K : PySem.W.Frag} {ι : Io} {H : Hp} {D : Ends} {r : O} (h : PostS K W ι H D (r.seq g)) : PostS K W ι H { D with nx := tS K W g D } r := by
  cases r with
  | nx ρ' M' => exact fun ι' H' σ' e q => ⟨ι', ρ', M', q, PostS.later e h⟩
  | rt d M' => exact h
  | bk ρ' M' => exact h
  | ct ρ' M' => exact h
  | exc x ρ' M' => exact h
  | err => exact h
theorem fss_nil : FSs X W [] sNil := PSs.imp (fun D σ H ⟨ι, ρ, M, hR, hP⟩ => hP ι H σ .refl hR) pss_nil
theorem fss_cons (h1 : FS X W st f) (h2 : FSs X W rest g) : FSs X W (st :: rest) (sSeq f g) :=
  PSs.imp (fun D σ H ⟨ι, ρ, M, hR, hP⟩ => ⟨ι, ρ, M, hR, PostS.seq hP⟩) (pss_cons h1 h2)
theorem fss_one (h1 : FS X W st f) : FSs X W [st] f := pss_one h1
theorem fs_if {c : Expr} {a b : List Stmt} {fc : Env → Mem → R Bool} (hc : FT X W c fc) (ha : FSs X W a f) (hb : FSs X W b g) : FS X W (.If c a b pos) (sIf fc f g) :=
  fs_imp (ps_if hc ha hb) fun D σ H ι ρ M hR hP => by
    refine ⟨ι, ρ, M, hR, (Post.toO hR hP).imp ?_⟩
    rintro b H1 ⟨ι1, a, M1, e1, R1, rfl, p1⟩
    cases b with
    | true => exact ⟨ι1, ρ, M1, R1, p1⟩
    | false => exact ⟨ι1, ρ, M1, R1, p1⟩
theorem fs_expr {e : Expr} {fe : Env → Mem → R D} (he : FE X W e fe) (hs : swapsWith e none pos.line X.env = pure false := by rfl) : FS X W (.Expr e pos) (sExpr fe) :=
  fs_imp (ps_expr he hs) fun D σ H ι ρ M hR hP => by
    refine ⟨ι, ρ, M, hR, (Post.toO hR hP).imp ?_⟩
    rintro b H1 ⟨ι1, a, M1, e1, R1, r1, p1⟩
    exact p1 ι1 H1 σ .refl R1
theorem fs_doc {x j pos pos'} : FS X W (.Expr (.Constant (.str x) j pos) pos') sNil := fs_imp ps_doc fun D σ H ι ρ M hR hP => hP ι H σ .refl hR
theorem fs_pass : FS X W (.Pass pos) sNil := fs_imp ps_pass fun D σ H ι ρ M hR hP => hP ι H σ .refl hR
theorem fs_break : FS X W (.Break pos) sBk := fs_imp ps_break fun D σ H ι ρ M hR hP => hP ι H σ .refl hR
theorem fs_continue : FS X W (.Continue pos) sCt := fs_imp ps_continue fun D σ H ι ρ M hR hP => hP ι H σ .refl hR
theorem fs_ret {e : Expr} {fe : Env → Mem → R D} (he : FE X W e fe) : FS X W (.Return (some e) pos) (sRet fe) :=
  fs_imp (ps_ret he) fun D σ H ι ρ M hR hP => by
    refine ⟨ι, ρ, M, hR, (Post.toO hR hP).imp ?_⟩
    rintro b H1 ⟨ι1, a, M1, e1, R1, r1, p1⟩
    exact p1 ι1 H1 b .refl R1.sim r1
theorem fs_retN : FS X W (.Return none pos) sRetN := fs_imp ps_retN fun D σ H ι ρ M hR hP => hP ι H .non .refl hR.sim .non
/-- a statement that the proof never comes to -/
theorem fs_err : FS X W st sErr := fs_imp ps_never fun D σ H ι ρ M hR hP => hP.elim
theorem fs_set {i : Nat} {x : Str} {e : Expr} {fe : Env → Mem → R D} {pos' : Pos} (hN : X.N.Nodup) (hi : X.N[i]? = some x) (hx : Loc X.env.scope x) (he : FE X W e fe) (hs : swapsWith e (some (.Name x pos')) pos.line X.env = pure false := by rfl)
    (hf : X.fn x = true ∨ X.env.scope.names.lookup x = some .local := by first | exact .inl rfl | exact .inr rfl | assumption) : FS X W (.Assign [.Name x pos'] e pos) (sSet i fe) :=
  fs_imp (ps_set hN hi hx he hs hf) fun D σ H ι ρ M hR hP => by
    refine ⟨ι, ρ, M, hR, (Post.toO hR hP).imp ?_⟩
    rintro b H1 ⟨ι1, a, M1, e1, R1, r1, p1⟩
    exact p1 ι1 H1 _ .refl (R1.set i r1)
end

/-! ### targets -/
def O.only (r : O) (k : Env → Mem → O) : O := match r with
  | .nx ρ M => k ρ M
  | .exc x ρ M => .exc x ρ M
  | _ => .err
def tGt (K : PySem.W.Frag) (W : WX) (g : D → Env → Mem → O) : TG := fun v σ H Q => ∃ ι ρ M d, Rp K ι H M σ ρ ∧ Rep K H ι v d ∧ PostS K W ι H { nx := Q, rt := fun _ _ => False } (g d ρ M)
abbrev FG (X : Cx) (W : WX) (tg : Expr) (g : D → Env → Mem → O) : Prop := PG X tg (tGt X.K W g)
/-- a target that stores slots alone, those of vs -/
def tGw (K : PySem.W.Frag) (vs : List Nat) (g : D → Env → Option Env) : TG := fun v σ H Q => ∃ ι ρ M d ρ', Rp K ι H M σ ρ ∧ Rep K H ι v d ∧ g d ρ = some ρ' ∧ ∀ σ', Rp K ι H M σ' ρ' → wipe σ' vs = wipe σ vs → Q σ' H
abbrev FGw (X : Cx) (vs : List Nat) (tg : Expr) (g : D → Env → Option Env) : Prop := PG X tg (tGw X.K vs g)
theorem PG.imp {X : Cx} {tg : Expr} {t t' : TG} (i : ∀ v σ H Q, t' v σ H Q → t v σ H Q) (h : PG X tg t) : PG X tg t' := ⟨fun pins s σ H v u Q I r q => h.run pins s σ H v u Q I r (i v σ H Q q)⟩
def gw (g : D → Env → Option Env) : D → Env → Mem → O := fun d ρ M => match g d ρ with
  | some ρ' => .nx ρ' M
  | none => .err
def gN (i : Nat) : D → Env → Option Env := fun d ρ => some (ρ.set i (some d))
def gT2 (i j : Nat) : D → Env → Option Env := fun d ρ => match d with
  | .tup [a, b] => some ((ρ.set i (some a)).set j (some b))
  | _ => none
def gT3 (i j k : Nat) : D → Env → Option Env := fun d ρ => match d with
  | .tup [a, b, c] => some (((ρ.set i (some a)).set j (some b)).set k (some c))
  | _ => none
theorem wipe_set {σ : St} {v : Option V} {i : Nat} : ∀ {vs : List Nat}, i ∈ vs → wipe (σ.set i v) vs = wipe σ vs
  | w :: vs, h => by
    show (wipe (σ.set i v) vs).set w none = (wipe σ vs).set w none
    by_cases hi : i ∈ vs
    · rw [wipe_set hi]
    · have e : i = w := by
        rcases List.mem_cons.mp h with z | z
        · exact z
        · exact absurd z hi
      subst e
      have go : ∀ (l : List Nat), i ∉ l → wipe (σ.set i v) l = (wipe σ l).set i v := by
        intro l
        induction l with
        | nil => intro _; rfl
        | cons w l ih =>
          intro hw
          simp only [List.mem_cons, not_or] at hw
          show (wipe (σ.set i v) l).set w none = ((wipe σ l).set w none).set i v
          rw [ih hw.2, List.set_comm _ _ hw.1]
      rw [go vs hi, List.set_set]
section
variable {X : Cx} {W : WX} {pos : Pos}
theorem fg_w {tg : Expr} {vs : List Nat} {g : D → Env → Option Env} (h : FGw X vs tg g) : FG X W tg (gw g) := PG.imp (fun v σ H Q ⟨ι, ρ, M, d, hR, hr, hP⟩ => by
  unfold gw at hP
  split at hP
  · rename_i ρ' e
    exact ⟨ι, ρ, M, d, ρ', hR, hr, e, fun σ' R' _ => hP ι H σ' .refl R'⟩
  · exact hP.elim) h
theorem fgw_name {i : Nat} {x : Str} {vs : List Nat} (hN : X.N.Nodup) (hi : X.N[i]? = some x) (hx : Loc X.env.scope x) (hv : i ∈ vs) (hf : X.fn x = true ∨ X.env.scope.names.lookup x = some .local := by first | exact .inl rfl | exact .inr rfl | assumption) : FGw X vs (.Name x pos) (gN i) :=
  PG.imp (fun v σ H Q ⟨ι, ρ, M, d, ρ', hR, hr, e, k⟩ => by
    cases e
    exact k _ (hR.set i hr) (wipe_set hv)) (pg_name hN hi hx hf)
theorem fg_name {i : Nat} {x : Str} (hN : X.N.Nodup) (hi : X.N[i]? = some x) (hx : Loc X.env.scope x) (hf : X.fn x = true ∨ X.env.scope.names.lookup x = some .local := by first | exact .inl rfl | exact .inr rfl | assumption) : FG X W (.Name x pos) (gw (gN i)) :=
  fg_w (vs := [i]) (fgw_name hN hi hx (by simp) hf)
theorem fgw_t2 {i j : Nat} {e1 e2 : Expr} {k : Nat} {vs : List Nat} (hc : X.calm = true) (h1 : PG X e1 (gName i)) (h2 : PG X e2 (gName j)) (hi : i ∈ vs) (hj : j ∈ vs)
    (hs1 : (assignEach [e1, e2] X.env).map (·.2) = assign e1 X.env :: (assignEach [e2] X.env).map (·.2) := by rfl) (hs2 : (assignEach [e2] X.env).map (·.2) = assign e2 X.env :: (assignEach [] X.env).map (·.2) := by rfl)
    (hn : (assignEach [e1, e2] X.env).length = 2 := by rfl) (hst : (assignEach [e1, e2] X.env).findIdx? (·.1) = none := by rfl) : FGw X vs (.Tuple [e1, e2] k pos) (gT2 i j) :=
  PG.imp (fun v σ H Q ⟨ι, ρ, M, d, ρ', hR, hr, e, kk⟩ => by
    unfold gT2 at e
    split at e
    · rename_i a b
      cases e
      cases hr with
      | tup n q r =>
        cases r with
        | cons ra r =>
          cases r with
          | cons rb r =>
            cases r
            refine ⟨_, _, rfl, SqT.of q, rfl, _, _, rfl, _, _, rfl, rfl, ?_⟩
            exact kk _ ((hR.set i ra).set j rb) (by rw [wipe_set hj, wipe_set hi])
    · cases e) (pg_tup hc (pgs_cons h1 (pgs_cons h2 pgs_nil hs2) hs1) hn hst)
theorem fgw_t3 {i j l : Nat} {e1 e2 e3 : Expr} {k : Nat} {vs : List Nat} (hc : X.calm = true) (h1 : PG X e1 (gName i)) (h2 : PG X e2 (gName j)) (h3 : PG X e3 (gName l)) (hi : i ∈ vs) (hj : j ∈ vs) (hl : l ∈ vs)
    (hs1 : (assignEach [e1, e2, e3] X.env).map (·.2) = assign e1 X.env :: (assignEach [e2, e3] X.env).map (·.2) := by rfl) (hs2 : (assignEach [e2, e3] X.env).map (·.2) = assign e2 X.env :: (assignEach [e3] X.env).map (·.2) := by rfl)
    (hs3 : (assignEach [e3] X.env).map (·.2) = assign e3 X.env :: (assignEach [] X.env).map (·.2) := by rfl)
    (hn : (assignEach [e1, e2, e3] X.env).length = 3 := by rfl) (hst : (assignEach [e1, e2, e3] X.env).findIdx? (·.1) = none := by rfl) : FGw X vs (.Tuple [e1, e2, e3] k pos) (gT3 i j l) :=
  PG.imp (fun v σ H Q ⟨ι, ρ, M, d, ρ', hR, hr, e, kk⟩ => by
    unfold gT3 at e
    split at e
    · rename_i a b c
      cases e
      cases hr with
      | tup n q r =>
        cases r with
        | cons ra r =>
          cases r with
          | cons rb r =>
            cases r with
            | cons rc r =>
              cases r
              refine ⟨_, _, rfl, SqT.of q, rfl, _, _, rfl, _, _, rfl, _, _, rfl, rfl, ?_⟩
              exact kk _ (((hR.set i ra).set j rb).set l rc) (by rw [wipe_set hl, wipe_set hj, wipe_set hi])
    · cases e) (pg_tup hc (pgs_cons h1 (pgs_cons h2 (pgs_cons h3 pgs_nil hs3) hs2) hs1) hn hst)
def sAsg (f : Env → Mem → R D) (g : D → Env → Mem → O) : Env → Mem → O := fun ρ M => (f ρ M).toO ρ fun d M1 => (g d ρ M1).only sNil
theorem PostS.only {K : PySem.W.Frag} {ι : Io} {H : Hp} {D : Ends} {r : O} {k : Env → Mem → O} (h : PostS K W ι H D (r.only k)) : PostS K W ι H { nx := tS K W k D, rt := fun _ _ => False } r := by
  cases r with
  | nx ρ' M' => exact fun ι' H' σ' e q => ⟨ι', ρ', M', q, PostS.later e h⟩
  | rt d M' => exact h.elim
  | bk ρ' M' => exact h.elim
  | ct ρ' M' => exact h.elim
  | exc x ρ' M' => exact h
  | err => exact h
theorem PostS.imp {K : PySem.W.Frag} {ι : Io} {H : Hp} {D D' : Ends} {r : O} (h : PostS K W ι H D r) (h1 : ∀ σ H, D.nx σ H → D'.nx σ H) (h2 : ∀ v H, D.rt v H → D'.rt v H) (h3 : ∀ σ H, D.bk σ H → D'.bk σ H) (h4 : ∀ σ H, D.ct σ H → D'.ct σ H) : PostS K W ι H D' r := by
  cases r with
  | nx ρ' M' => exact fun ι' H' σ' e q => h1 _ _ (h ι' H' σ' e q)
  | rt d M' => exact fun ι' H' v e q r => h2 _ _ (h ι' H' v e q r)
  | bk ρ' M' => exact fun ι' H' σ' e q => h3 _ _ (h ι' H' σ' e q)
  | ct ρ' M' => exact fun ι' H' σ' e q => h4 _ _ (h ι' H' σ' e q)
  | exc x ρ' M' => exact h
  | err => exact h
theorem fs_asg {tg e : Expr} {fe : Env → Mem → R D} {g : D → Env → Mem → O} (he : FE X W e fe) (hg : FG X W tg g) (hs : swapsWithSole [tg] e pos.line X.env = pure false := by rfl) (hw : swappedStores [tg] e X.env = pure none := by rfl)
    (h1 : (assignEach [tg] X.env).map (·.2) = [assign tg X.env] := by rfl) : FS X W (.Assign [tg] e pos) (sAsg fe g) :=
  fs_imp (ps_asg he hg hs hw h1) fun D σ H ι ρ M hR hP => by
    refine ⟨ι, ρ, M, hR, (Post.toO hR hP).imp ?_⟩
    rintro b H1 ⟨ι1, a, M1, e1, R1, r1, p1⟩
    refine ⟨ι1, ρ, M1, a, R1, r1, (PostS.only p1).imp ?_ (fun _ _ z => z) (fun _ _ z => z) fun _ _ z => z⟩
    rintro σ' H' ⟨ι2, ρ2, M2, R2, p2⟩
    exact p2 ι2 H' σ' .refl R2
/-- a, b = x, y, both local -/
def sPar (i j : Nat) (fa : Env → Mem → R (List D)) : Env → Mem → O := fun ρ M => (fa ρ M).toO ρ fun ds M1 => match ds with
  | [a, b] => .nx ((ρ.set i (some a)).set j (some b)) M1
  | _ => .err
theorem fs_par {i j : Nat} {x y : Str} {a b : Expr} {fa : Env → Mem → R (List D)} {px py pt pos : Pos} {kt k2 pt2} (hc : X.calm = true) (hN : X.N.Nodup) (hi : X.N[i]? = some x) (hj : X.N[j]? = some y) (hij : i ≠ j)
    (hx : X.env.scope.names.lookup x = some .local) (hy : X.env.scope.names.lookup y = some .local) (ha : FA X W [a, b] fa)
    (hw : swappedStores [.Tuple [.Name x px, .Name y py] kt pt] (.Tuple [a, b] k2 pt2) X.env = pure (some [x, y]) := by rfl)
    (hs : swapsWithSole [.Tuple [.Name x px, .Name y py] kt pt] (.Tuple [a, b] k2 pt2) pos.line X.env = pure false := by rfl) :
    FS X W (.Assign [.Tuple [.Name x px, .Name y py] kt pt] (.Tuple [a, b] k2 pt2) pos) (sPar i j fa) :=
  fs_imp (ps_par hc hN hi hj hij hx hy ha hw) fun D σ H ι ρ M hR hP => by
    refine ⟨ι, ρ, M, hR, (Post.toO hR hP).imp ?_⟩
    rintro vs H1 ⟨ι1, ds, M1, e1, R1, r1, p1⟩
    split at p1
    · cases r1 with
      | cons ra r =>
        cases r with
        | cons rb r =>
          cases r
          exact ⟨_, _, rfl, p1 ι1 H1 _ .refl ((R1.set i ra).set j rb)⟩
    · exact p1.elim
def sAug (i : Nat) (h : D → D → Mem → Option D) (f : Env → Mem → R D) : Env → Mem → O := fun ρ M => match ρ[i]? with
  | some (some a) => (f ρ M).toO ρ fun b M1 => match h a b M1 with
    | some d => .nx (ρ.set i (some d)) M1
    | none => .err
  | _ => .err
end
end Fx

set_option Elab.async false
set_option linter.all false
set_option maxRecDepth 100000
set_option maxHeartbeats 1000000
set_option autoImplicit false
/-! Fx3: augmented assignments, loops, comprehensions. -/
namespace Fx
open PySem PySem.Spec PyProof.Rows L2
section
variable {X : Cx} {W : WX} {pos : Pos}
theorem fs_aug {i : Nat} {x : Str} {e : Expr} {f : Env → Mem → R D} {op : Operator} {h : D → D → Mem → Option D} {pos' : Pos} (hN : X.N.Nodup) (hi : X.N[i]? = some x) (hx : Loc X.env.scope x) (he : FE X W e f) (ho : OpR X (inplaceOp op) (rO X.K h))
    (hf : X.fn x = true ∨ X.env.scope.names.lookup x = some .local := by first | exact .inl rfl | exact .inr rfl | assumption) : FS X W (.AugAssign (.Name x pos') op e pos) (sAug i h f) :=
  fs_imp (ps_aug hN hi hx he ho hf) fun D σ H ι ρ M hR hP => by
    unfold sAug at hP
    split at hP
    · rename_i a ea
      obtain ⟨v, ev, rv⟩ := slots_get hR.slots ea
      refine ⟨v, ev, ι, ρ, M, hR, (Post.toO hR hP).imp ?_⟩
      rintro y H1 ⟨ι1, b, M1, e1, R1, r1, p1⟩
      cases e : h a b M1 with
      | none => rw [e] at p1; exact p1.elim
      | some d =>
        rw [e] at p1
        exact ⟨ι1, M1, a, b, d, R1.sim, rv.ext e1, r1, e, fun ι' H' v' e' s' r' => p1 ι' H' _ e' ((R1.ext e' s').set i r')⟩
    · exact hP.elim
end

/-! ### a new list: one that does not change, or one of the things that change -/
def newL (mt : Bool) (ys : List D) (M : Mem) : R D := if mt = true then .ok (.ref M.length) (M ++ [.lst ys]) else .ok (.lst ys) M
section
variable {K : PySem.W.Frag} {W : WX} {ι ι' ι1 ι2 : Io} {H H' H1 H2 : Hp} {M M' : Mem} {σ : St} {Q : VK}
theorem add_at (ι : Io) (p : Addr) (h : ι.l.length = M.length) : (ι.add p).l[M.length]? = some p := by
  show (ι.l ++ [p])[M.length]? = some p
  rw [← h, List.getElem?_append_right (Nat.le_refl _), Nat.sub_self]
  rfl
theorem newL_post {mt : Bool} {ys : List D} {vs : List V} {p : Addr} (h : Post K (Rep K) W ι H σ Q (newL mt ys M)) (s : Sim K ι H M) (r : RepAll K H ι vs ys) (hp : H p = none) : Q (.ref p) (upd H p (.lst vs)) := by
  cases mt with
  | false => exact h ι _ _ (Ext.push hp) (s.push hp) (.lst (s.fresh hp) (.inl upd_same) (r.ext (Ext.push hp)))
  | true => exact h (ι.add p) _ _ (Ext.more hp) (s.more hp (.lst upd_same (r.ext (Ext.more hp)))) (.ref (add_at ι p s.len))
/-! ### a banned thing becomes one of the things that change -/
mutual
theorem Rep.unadd {v : V} {d : D} {p : Addr} (r : Rep K H (ι.ban p) v d) : Rep K H (ι.add p) v d := by
  have nm : ∀ {a : Addr}, a ∉ ι.ban p → a ∉ ι.add p := fun {a} n z => n (by
    rcases z with z | z
    · rcases List.mem_append.mp z with z | z
      · exact .inl z
      · exact .inr (by rw [List.mem_singleton.mp z]; exact List.mem_cons_self)
    · exact .inr (List.mem_cons_of_mem _ z))
  cases r with
  | non => exact .non
  | bl b => exact .bl b
  | int i => exact .int i
  | str x => exact .str x
  | ty n => exact .ty n
  | adr a => exact .adr a
  | lst n q r => exact .lst (nm n) q (RepAll.unadd r)
  | klst q r => exact .klst q (RepAll.unadd r)
  | tup n q r => exact .tup (nm n) q (RepAll.unadd r)
  | dic n q l r => exact .dic (nm n) q l (RepAll.unadd r)
  | ins n q l r => exact .ins (nm n) q l (RepAll.unadd r)
  | @ref n a e => exact .ref (by
    have e' : ι.l[n]? = some a := e
    show (ι.l ++ [p])[n]? = some a
    rw [List.getElem?_append_left (List.getElem?_eq_some_iff.mp e').1]
    exact e')
theorem RepAll.unadd {vs : List V} {ds : List D} {p : Addr} (r : RepAll K H (ι.ban p) vs ds) : RepAll K H (ι.add p) vs ds := by
  cases r with
  | nil => exact .nil
  | cons r t => exact .cons (Rep.unadd r) (RepAll.unadd t)
end
theorem ObRep.unadd {a p : Addr} {d : D} (r : ObRep K H (ι.ban p) a d) : ObRep K H (ι.add p) a d := by
  cases r with
  | lst q r => exact .lst q r.unadd
  | dic q l r => exact .dic q l r.unadd
  | ins q l r => exact .ins q l r.unadd
theorem Sim.unadd {p : Addr} {d : D} (s : Sim K (ι.ban p) H M) (np : p ∉ ι.b) (b : ObRep K H (ι.add p) p d) : Sim K (ι.add p) H (M ++ [d]) := by
  have sl : ι.l.length = M.length := s.len
  have nl : p ∉ ι.l := s.sep p List.mem_cons_self
  refine ⟨by simp [Io.add, sl], ?_, fun a ha hm => ?_, fun a ha => s.ban a (List.mem_cons_of_mem _ ha), fun n a u e1 e2 => ?_⟩
  · show (ι.l ++ [p]).Nodup
    rw [List.nodup_append]
    refine ⟨s.nd, by simp, fun a ha b hb => ?_⟩
    rw [List.mem_singleton.mp hb]
    rintro rfl
    exact nl ha
  · rcases List.mem_append.mp hm with z | z
    · exact s.sep a (List.mem_cons_of_mem _ ha) z
    · rw [List.mem_singleton.mp z] at ha
      exact np ha
  · have e1 : (ι.l ++ [p])[n]? = some a := e1
    by_cases hn : n < ι.l.length
    · rw [List.getElem?_append_left hn] at e1
      rw [List.getElem?_append_left (by rw [← sl]; exact hn)] at e2
      exact (s.obj n a u e1 e2).unadd
    · rw [List.getElem?_append_right (by omega)] at e1
      rw [List.getElem?_append_right (by rw [← sl]; omega)] at e2
      have z : n - ι.l.length = 0 := by
        have := (List.getElem?_eq_some_iff.mp e1).1
        simp at this; omega
      rw [z] at e1
      rw [← sl, z] at e2
      simp at e1 e2
      subst e1; subst e2
      exact b
theorem Ext.unadd {p : Addr} (h : H p = none) (e : Ext ι H ι' H') : Ext ι H (ι'.add p) H' := by
  refine ⟨⟨e.pre.trans (List.prefix_append _ _), fun a ha n => ?_, e.keep⟩, e.same, e.kb⟩
  rcases ha with z | z
  · rcases List.mem_append.mp z with z | z
    · exact e.new a (.inl z) n
    · rw [List.mem_singleton.mp z]; exact h
  · exact e.new a (.inr z) n
theorem newL_ban {mt : Bool} {ys : List D} {vs : List V} {L : Addr} (h : Post K (Rep K) W ι H σ Q (newL mt ys M)) (e : Ext ι H ι2 H2) (hL : H L = none) (s : Sim K (ι2.ban L) H2 M) (nb : L ∉ ι2.b) (eL : H2 L = some (.lst vs)) (r : RepAll K H2 (ι2.ban L) vs ys) : Q (.ref L) H2 := by
  cases mt with
  | false => exact h ι2 _ _ e s.unban (.lst (s.out nb) (.inl eL) r.unban)
  | true => exact h (ι2.add L) _ _ (e.unadd hL) (s.unadd nb (.lst eL r.unadd)) (.ref (add_at ι2 L s.len))
end

/-! ### what is walked -/
/-- ds: what is walked as it stands now; gen: get i, asked at each turn: an item, the end (some none), or nothing is known -/
inductive Src where
  | items (ds : List D)
  | gen (fuel : Nat) (get : Nat → Mem → Option (Option D))
/-- at a state: turn i yields d, or stops -/
def GoesAt (K : PySem.W.Frag) (o : Option (Option D)) (i : Nat) (J : It) (ι : Io) (H : Hp) : Prop :=
  (o = some none → J.stop i H) ∧ ∀ d, o = some (some d) → J.go i H ∧ ∀ x H', J.yld i H x H' → Same H H' ∧ Rep K H' ι x d
def Goes (K : PySem.W.Frag) (H : Hp) (ι : Io) (J : It) : Src → Prop
  | .items ds => ∀ ι2 H2 M2, Lat ι H ι2 H2 → Sim K ι2 H2 M2 → ∀ (i : Nat), GoesAt K (some ds[i]?) i J ι2 H2
  | .gen _ get => ∀ ι2 H2 M2, Lat ι H ι2 H2 → Sim K ι2 H2 M2 → ∀ (i : Nat), GoesAt K (get i M2) i J ι2 H2
def tI (K : PySem.W.Frag) (W : WX) (f : Env → Mem → R Src) : TI := fun σ H Q => tG K (Goes K) W f σ H (fun J H' => Q J H')
abbrev FI (X : Cx) (W : WX) (tg iter : Expr) (f : Env → Mem → R Src) : Prop := PI X tg iter (tI X.K W f)
theorem PI.imp {X : Cx} {tg iter : Expr} {t t' : TI} (i : ∀ σ H Q, t' σ H Q → t σ H Q) (h : PI X tg iter t) : PI X tg iter t' := ⟨fun pins s σ H R I q => h.run pins s σ H R I (i σ H R q)⟩
theorem fi_imp {X : Cx} {W : WX} {tg iter : Expr} {t : TI} {f : Env → Mem → R Src} (h : PI X tg iter t) (i : ∀ σ H Q ι ρ M, Rp X.K ι H M σ ρ → Post X.K (Goes X.K) W ι H σ Q (f ρ M) → t σ H Q) : FI X W tg iter f :=
  PI.imp (fun σ H Q ⟨ι, ρ, M, hR, hP⟩ => i σ H Q ι ρ M hR hP) h

/-! ### for -/
def forI (body : D → Env → Mem → O) : List D → Env → Mem → O
  | [], ρ, M => .nx ρ M
  | d :: ds, ρ, M => match body d ρ M with
    | .nx ρ' M' => forI body ds ρ' M'
    | .ct ρ' M' => forI body ds ρ' M'
    | .bk ρ' M' => .nx ρ' M'
    | .rt v M' => .rt v M'
    | .exc x ρ' M' => .exc x ρ' M'
    | .err => .err
/-- over what may change: the items as they stand at each turn -/
def forC (get : Nat → Mem → Option (Option D)) (body : D → Env → Mem → O) : Nat → Nat → Env → Mem → O
  | 0, _, _, _ => .err
  | fuel + 1, i, ρ, M => match get i M with
    | none => .err
    | some none => .nx ρ M
    | some (some d) => match body d ρ M with
        | .nx ρ' M' => forC get body fuel (i + 1) ρ' M'
        | .ct ρ' M' => forC get body fuel (i + 1) ρ' M'
        | .bk ρ' M' => .nx ρ' M'
        | .rt v M' => .rt v M'
        | .exc x ρ' M' => .exc x ρ' M'
        | .err => .err
def sFor (fi : Env → Mem → R Src) (body : D → Env → Mem → O) : Env → Mem → O := fun ρ M => (fi ρ M).toO ρ fun s M1 => match s with
  | .items ds => forI body ds ρ M1
  | .gen fuel get => forC get body fuel 0 ρ M1
def bodyF (g : D → Env → Mem → O) (fb : Env → Mem → O) : D → Env → Mem → O := fun d ρ M => (g d ρ M).only fb
/-- a turn's end, in the loop -/
def afterT (K : PySem.W.Frag) (W : WX) (D : Ends) (N : St → Hp → Prop) : Ends := { nx := N, ct := N, bk := D.nx, rt := D.rt }
def O.turn (r : O) (k : Env → Mem → O) : O := match r with
    | .nx ρ' M' => k ρ' M'
    | .ct ρ' M' => k ρ' M'
    | .bk ρ' M' => .nx ρ' M'
    | .rt v M' => .rt v M'
    | .exc x ρ' M' => .exc x ρ' M'
    | .err => .err
section
variable {K : PySem.W.Frag} {W : WX} {ι : Io} {H : Hp} {De : Ends} {g : D → Env → Mem → O} {fb : Env → Mem → O} {N : St → Hp → Prop} {k : Env → Mem → O}
theorem PostS.turn {r : O} (h : PostS K W ι H De (r.turn k)) (hN : ∀ ι' H' σ' ρ' M', Ext ι H ι' H' → Rp K ι' H' M' σ' ρ' → PostS K W ι' H' De (k ρ' M') → N σ' H') : PostS K W ι H { De with nx := N, ct := N, bk := De.nx } r := by
  cases r with
  | nx ρ' M' => exact fun ι' H' σ' e q => hN ι' H' σ' ρ' M' e q (PostS.later e h)
  | ct ρ' M' => exact fun ι' H' σ' e q => hN ι' H' σ' ρ' M' e q (PostS.later e h)
  | bk ρ' M' => exact h
  | rt d M' => exact h
  | exc x ρ' M' => exact h
  | err => exact h
theorem PostS.bodyF {d : D} {ρ : Env} {M : Mem} (h : PostS K W ι H De ((Fx.bodyF g fb d ρ M).turn k)) (hN : ∀ ι' H' σ' ρ' M', Ext ι H ι' H' → Rp K ι' H' M' σ' ρ' → PostS K W ι' H' De (k ρ' M') → N σ' H') :
    PostS K W ι H { nx := fun σ2 H2 => tS K W fb { De with nx := N, ct := N, bk := De.nx } σ2 H2, rt := fun _ _ => False } (g d ρ M) := by
  unfold Fx.bodyF O.only at h
  cases e : g d ρ M with
  | nx ρ' M' =>
    rw [e] at h
    intro ι' H' σ' e' q
    exact ⟨ι', ρ', M', q, PostS.turn (PostS.later e' h) fun ι2 H2 σ2 ρ2 M2 e2 q2 p2 => hN ι2 H2 σ2 ρ2 M2 (e'.trans e2) q2 p2⟩
  | exc x ρ' M' => rw [e] at h; exact h
  | rt d M' => rw [e] at h; exact h.elim
  | bk ρ' M' => rw [e] at h; exact h.elim
  | ct ρ' M' => rw [e] at h; exact h.elim
  | err => rw [e] at h; exact h.elim
end
section
variable {X : Cx} {W : WX} {pos : Pos}
theorem fs_for {tg iter : Expr} {body : List Stmt} {fi : Env → Mem → R Src} {g : D → Env → Mem → O} {fb : Env → Mem → O} (hp : PassesOwn (model X.prog X.w) X.A X.env X.xe) (hc : X.calm = true) (hi : FI X W tg iter fi) (hg : FG X W tg g) (hb : FSs X W body fb)
    (hs : ∀ x, foldedSetIterable iter X.env x = pure x := by intro _; rfl) : FS X W (.For tg iter body [] pos) (sFor fi (bodyF g fb)) :=
  fs_imp (ps_for hp hc hi hg hb hs) fun D σ H ι ρ M hR hP => by
    refine ⟨ι, ρ, M, hR, Post.imp (Post.toO (rel := Goes X.K) hR hP) ?_⟩
    rintro J H1 ⟨ι1, s, M1, e1, R1, go, p1⟩
    cases s with
    | items ds =>
      refine ⟨fun i m σ H => m = ds.length - i ∧ i ≤ ds.length ∧ ∃ ι2 ρ M, Ext ι1 H1 ι2 H ∧ Rp X.K ι2 H M σ ρ ∧ PostS X.K W ι2 H D (forI (bodyF g fb) (ds.drop i) ρ M), ⟨_, rfl, Nat.zero_le _, ι1, ρ, M1, .refl, R1, p1⟩, ?_⟩
      rintro i m σ H ⟨rfl, hi, ι2, ρ2, M2, e2, R2, p2⟩
      have G := go ι2 H M2 e2.toLat R2.sim i
      by_cases hlt : i < ds.length
      · obtain ⟨g1, g2⟩ := G.2 ds[i] (by rw [List.getElem?_eq_getElem hlt])
        refine .inr ⟨g1, fun σ' H' => ∃ ι3 ρ3 M3, Ext ι1 H1 ι3 H' ∧ Rp X.K ι3 H' M3 σ' ρ3 ∧ PostS X.K W ι3 H' D (forI (bodyF g fb) (ds.drop (i + 1)) ρ3 M3), fun σ' H' h => ⟨ds.length - (i + 1), by omega, rfl, hlt, h⟩, fun x H' y => ?_⟩
        obtain ⟨h3, r3⟩ := g2 x H' y
        have e3 : Ext ι2 H ι2 H' := Ext.same' h3
        rw [List.drop_eq_getElem_cons hlt] at p2
        have R3 := R2.ext e3 (R2.sim.same h3)
        refine ⟨ι2, ρ2, M2, ds[i], R3, r3, ?_⟩
        exact PostS.bodyF (k := forI (bodyF g fb) (ds.drop (i + 1))) (PostS.later e3 p2) fun ι' H'' σ' ρ' M' e' q' p' => ⟨ι', ρ', M', (e2.trans e3).trans e', q', p'⟩
      · have e : i = ds.length := by omega
        subst e
        rw [List.drop_length] at p2
        exact .inl ⟨G.1 (by rw [List.getElem?_eq_none (Nat.le_refl _)]), p2 ι2 H σ .refl R2⟩
    | gen fuel get =>
      refine ⟨fun i m σ H => ∃ ι2 ρ M, Ext ι1 H1 ι2 H ∧ Rp X.K ι2 H M σ ρ ∧ PostS X.K W ι2 H D (forC get (bodyF g fb) m i ρ M), ⟨_, ι1, ρ, M1, .refl, R1, p1⟩, ?_⟩
      rintro i m σ H ⟨ι2, ρ2, M2, e2, R2, p2⟩
      cases m with
      | zero => exact p2.elim
      | succ m =>
        unfold forC at p2
        have G := go ι2 H M2 e2.toLat R2.sim i
        split at p2
        · exact p2.elim
        · rename_i en
          exact .inl ⟨G.1 en, p2 ι2 H σ .refl R2⟩
        · rename_i d ed
          obtain ⟨g1, g2⟩ := G.2 d ed
          refine .inr ⟨g1, fun σ' H' => ∃ ι3 ρ3 M3, Ext ι1 H1 ι3 H' ∧ Rp X.K ι3 H' M3 σ' ρ3 ∧ PostS X.K W ι3 H' D (forC get (bodyF g fb) m (i + 1) ρ3 M3), fun σ' H' h => ⟨m, Nat.lt_succ_self _, h⟩, fun x H' y => ?_⟩
          obtain ⟨h3, r3⟩ := g2 x H' y
          have e3 : Ext ι2 H ι2 H' := Ext.same' h3
          have R3 := R2.ext e3 (R2.sim.same h3)
          refine ⟨ι2, ρ2, M2, d, R3, r3, ?_⟩
          exact PostS.bodyF (k := forC get (bodyF g fb) m (i + 1)) (PostS.later e3 p2) fun ι' H'' σ' ρ' M' e' q' p' => ⟨ι', ρ', M', (e2.trans e3).trans e', q', p'⟩
/-! ### while -/
end
def whileF (c : Env → Mem → R Bool) (fb : Env → Mem → O) : Nat → Env → Mem → O
  | 0, _, _ => .err
  | fuel + 1, ρ, M => (c ρ M).toO ρ fun b M1 => if b = true then (fb ρ M1).turn (whileF c fb fuel) else .nx ρ M1
section
variable {X : Cx} {W : WX} {pos : Pos}
theorem fs_while {c : Expr} {body : List Stmt} {fc : Env → Mem → R Bool} {fb : Env → Mem → O} (fuel : Nat) (hp : PassesOwn (model X.prog X.w) X.A X.env X.xe) (hc : FT X W c fc) (hb : FSs X W body fb) : FS X W (.While c body [] pos) (whileF fc fb fuel) :=
  fs_imp (ps_while hp hc hb) fun D σ H ι ρ M hR hP => by
    refine ⟨fun m σ H => ∃ ι ρ M, Rp X.K ι H M σ ρ ∧ PostS X.K W ι H D (whileF fc fb m ρ M), ⟨fuel, ι, ρ, M, hR, hP⟩, ?_⟩
    rintro m σ H ⟨ι, ρ, M, R, p⟩
    cases m with
    | zero => exact p.elim
    | succ m =>
      unfold whileF at p
      refine ⟨ι, ρ, M, R, (Post.toO R p).imp ?_⟩
      rintro b H1 ⟨ι1, a, M1, e1, R1, rfl, p1⟩
      cases b with
      | false => exact p1 ι1 H1 σ .refl R1
      | true =>
        refine ⟨fun σ' H' => ∃ ι ρ M, Rp X.K ι H' M σ' ρ ∧ PostS X.K W ι H' D (whileF fc fb m ρ M), fun σ' H' h => ⟨m, Nat.lt_succ_self _, h⟩, ?_⟩
        exact ⟨ι1, ρ, M1, R1, PostS.turn (k := whileF fc fb m) p1 fun ι' H' σ' ρ' M' e' q' p' => ⟨ι', ρ', M', q', p'⟩⟩
end

/-! ### comprehensions -/
def wipeD (ρ : Env) : List Nat → Env
  | [] => ρ
  | v :: vs => (wipeD ρ vs).set v none
theorem Rp.wipe {K : PySem.W.Frag} {ι : Io} {H : Hp} {M : Mem} {σ : St} {ρ : Env} (r : Rp K ι H M σ ρ) : ∀ vs : List Nat, Rp K ι H M (wipe σ vs) (wipeD ρ vs)
  | [] => r
  | v :: vs => ⟨r.sim, slots_set v (r.wipe vs).slots .none⟩
theorem SlotR.lat {K : PySem.W.Frag} {ι ι' : Io} {H H' : Hp} {v : Option V} {d : Option D} (h : SlotR K H ι v d) (e : Lat ι H ι' H') : SlotR K H' ι' v d := by
  cases h with
  | some r => exact .some (Rep.later e r)
  | none => exact .none
theorem SlotR.banned {K : PySem.W.Frag} {ι : Io} {H : Hp} {p : Addr} {o : HO} {v : Option V} {d : Option D} (h : H p = Option.none) (r : SlotR K H ι v d) : SlotR K (upd H p o) (ι.ban p) v d := by
  cases r with
  | some r => exact .some (r.banned h)
  | none => exact .none
theorem Rp.lat {K : PySem.W.Frag} {ι ι' : Io} {H H' : Hp} {M M' : Mem} {σ : St} {ρ : Env} (r : Rp K ι H M σ ρ) (e : Lat ι H ι' H') (s : Sim K ι' H' M') : Rp K ι' H' M' σ ρ := ⟨s, Paired.mapP r.slots fun _ _ z => z.lat e⟩
theorem Rp.banned {K : PySem.W.Frag} {ι : Io} {H : Hp} {M : Mem} {σ : St} {ρ : Env} {p : Addr} {o : HO} (r : Rp K ι H M σ ρ) (h : H p = none) : Rp K (ι.ban p) (upd H p o) M σ ρ := ⟨r.sim.banned h, Paired.mapP r.slots fun _ _ z => z.banned h⟩
/-- one item: nothing, or what the element gives -/
def compT (g : D → Env → Option Env) (t : Env → Mem → R Bool) (f : Env → Mem → R D) (ρ : Env) : D → Mem → R (Option D) := fun d M => match g d ρ with
  | none => .err
  | some ρ' => (t ρ' M).bind fun b M1 => if b = true then (f ρ' M1).bind fun y M2 => .ok (some y) M2 else .ok none M1
theorem compT_eq (g : D → Env → Option Env) (t : Env → Mem → R Bool) (f : Env → Mem → R D) (ρ : Env) (d : D) (M : Mem) : compT g t f ρ d M = match g d ρ with
  | none => .err
  | some ρ' => (t ρ' M).bind fun b M1 => if b = true then (f ρ' M1).bind fun y M2 => .ok (some y) M2 else .ok none M1 := rfl
theorem wipe_sub {σ : St} {vs : List Nat} : ∀ {ws : List Nat}, (∀ w ∈ ws, w ∈ vs) → wipe (wipe σ ws) vs = wipe σ vs
  | [], _ => rfl
  | w :: ws, h => by
    show wipe ((wipe σ ws).set w none) vs = _
    rw [wipe_set (h w List.mem_cons_self), wipe_sub fun x hx => h x (List.mem_cons_of_mem _ hx)]
def consO (o : Option D) (ys : List D) : List D := match o with
  | some y => y :: ys
  | none => ys
def compI (step : D → Mem → R (Option D)) : List D → Mem → Option (List D × Mem)
  | [], M => some ([], M)
  | d :: ds, M => match step d M with
    | .ok o M1 => match compI step ds M1 with
      | some (ys, M2) => some (consO o ys, M2)
      | none => none
    | _ => none
/-- the items as they stand at each turn -/
def compG (get : Nat → Mem → Option (Option D)) (step : D → Mem → R (Option D)) : Nat → Nat → Mem → Option (List D × Mem)
  | 0, _, _ => none
  | fuel + 1, i, M => match get i M with
    | none => none
    | some none => some ([], M)
    | some (some d) => match step d M with
      | .ok o M1 => match compG get step fuel (i + 1) M1 with
        | some (ys, M2) => some (consO o ys, M2)
        | none => none
      | _ => none
theorem compI_G (step : D → Mem → R (Option D)) (es : List D) : ∀ (ds : List D) (i : Nat) (M : Mem), es.drop i = ds → compI step ds M = compG (fun i _ => some es[i]?) step (ds.length + 1) i M
  | [], i, M, h => by
    have e : es[i]? = none := by
      rw [List.getElem?_eq_none_iff]
      exact List.drop_eq_nil_iff.mp h
    simp only [compI, compG, e]
  | d :: ds, i, M, h => by
    have hi : i < es.length := by
      by_cases z : i < es.length
      · exact z
      · rw [List.drop_eq_nil_of_le (by omega)] at h; cases h
    rw [List.drop_eq_getElem_cons hi] at h
    injection h with h1 h2
    have e : es[i]? = some d := by rw [List.getElem?_eq_getElem hi, h1]
    have ih := fun M => compI_G step es ds (i + 1) M h2
    show _ = compG _ step (ds.length + 1 + 1) i M
    unfold compG compI
    simp only [e]
    cases step d M with
    | ok o M1 => simp only [ih M1]
    | exc x M1 => rfl
    | err => rfl
def endC (mt : Bool) (r : Option (List D × Mem)) : R D := match r with
  | some (ys, M2) => newL mt ys M2
  | none => .err
def fComp (mt : Bool) (vs : List Nat) (fi : Env → Mem → R Src) (g : D → Env → Option Env) (t : Env → Mem → R Bool) (f : Env → Mem → R D) : Env → Mem → R D := fun ρ M => (fi ρ M).bind fun s M1 => match s with
  | .items ds => if ds.length < sizeLine then endC mt (compI (compT g t f (wipeD ρ vs)) ds M1) else .err
  | .gen fuel get => if fuel ≤ sizeLine then endC mt (compG get (compT g t f (wipeD ρ vs)) fuel 0 M1) else .err
abbrev W0 : WX := fun _ _ _ _ => False
def fYes : Env → Mem → R Bool := fun _ M => .ok true M
abbrev FTs (X : Cx) (W : WX) (ifs : List Expr) (f : Env → Mem → R Bool) : Prop := PTs X ifs (tG X.K rB W f)
theorem fts_nil {X : Cx} {W : WX} : FTs X W [] fYes := ⟨fun pins s σ H Q I ⟨ι, ρ, M, hR, hP⟩ => pts_nil.run pins s σ H Q I (hP.done hR.sim rfl)⟩
theorem fts_one {X : Cx} {W : WX} {c : Expr} {f : Env → Mem → R Bool} (h : FT X W c f) : FTs X W [c] f := pts_one h
section
variable {X : Cx} {W : WX} {pos : Pos}
/-- the list is laid first and grows; meanwhile nothing leans on it -/
theorem comp_imp (mt : Bool) {own : List (Str × Nat)} {fi : Env → Mem → R Src} {g : D → Env → Option Env} {t : Env → Mem → R Bool} {f : Env → Mem → R D} {σ : St} {H : Hp} {Q : VK} {ι : Io} {ρ : Env} {M : Mem} (hR : Rp X.K ι H M σ ρ) (hP : Post X.K (Rep X.K) W ι H σ Q (fComp mt (own.map (·.2)) fi g t f ρ M)) :
    tLc (tI X.K W fi) (tGw X.K (own.map (·.2)) g) (tG X.K rB W0 t) (tG X.K (Rep X.K) W0 f) (own.map (·.2)) σ H Q := by
    refine ⟨ι, ρ, M, hR, Post.imp (Post.bind (rel := Goes X.K) hP) ?_⟩
    rintro J H1 ⟨ι1, s, M1, e1, s1, go, p1⟩
    intro L hL
    have R1 := hR.ext e1 s1
    obtain ⟨get, fuel, hz, hgo, p1⟩ : ∃ (get : Nat → Mem → Option (Option D)) (fuel : Nat), fuel ≤ sizeLine ∧ (∀ ι2 H2 M2, Lat ι1 H1 ι2 H2 → Sim X.K ι2 H2 M2 → ∀ (i : Nat), GoesAt X.K (get i M2) i J ι2 H2) ∧
        Post X.K (Rep X.K) W ι1 H1 σ Q (endC mt (compG get (compT g t f (wipeD ρ (own.map (·.2)))) fuel 0 M1)) := by
      cases s with
      | items ds =>
        dsimp only at p1
        by_cases hz : ds.length < sizeLine
        · rw [if_pos hz, compI_G _ ds ds 0 M1 rfl] at p1
          exact ⟨_, _, hz, go, p1⟩
        · rw [if_neg hz] at p1; exact p1.elim
      | gen fuel get =>
        dsimp only at p1
        by_cases hz : fuel ≤ sizeLine
        · rw [if_pos hz] at p1
          exact ⟨_, _, hz, go, p1⟩
        · rw [if_neg hz] at p1; exact p1.elim
    cases hc0 : compG get (compT g t f (wipeD ρ (own.map (·.2)))) fuel 0 M1 with
    | none => rw [hc0] at p1; exact p1.elim
    | some r =>
      obtain ⟨ys0, Me⟩ := r
      rw [hc0] at p1
      -- turn i: acc is made, the rest is still to come
      generalize hwp : wipeD ρ (own.map (·.2)) = ρw at hc0
      have Rw : Rp X.K (ι1.ban L) (upd H1 L (.lst [])) M1 (wipe σ (own.map (·.2))) ρw := by rw [← hwp]; exact (R1.banned hL).wipe _
      have nb : L ∉ ι1.b := fun z => s1.fresh hL (.inr z)
      refine ⟨fun i m H' => i + m ≤ sizeLine ∧ ∃ (ι2 : Io) (M2 : Mem) (acc : List D) (vacc : List V) (ys : List D), Exb L (ι1.ban L) (upd H1 L (.lst [])) (ι2.ban L) H' ∧ Sim X.K (ι2.ban L) H' M2 ∧ H' L = some (.lst vacc) ∧ vacc.length ≤ i ∧ RepAll X.K H' (ι2.ban L) vacc acc ∧
          compG get (compT g t f ρw) m i M2 = some (ys, Me) ∧ acc ++ ys = ys0, ⟨fuel, by omega, ι1, M1, [], [], ys0, .refl, s1.banned hL, upd_same, Nat.zero_le _, .nil, hc0, rfl⟩, ?_⟩
      rintro i m H2 ⟨hm, ι2, M2, acc, vacc, ys, e2, s2, eL, hlen, ra, p2, hy⟩
      have E2 : Ext ι1 H1 ι2 H2 := Ext.unban s1 hL s2 e2
      have nb2 : L ∉ ι2.b := by rw [E2.same]; exact nb
      have mL : L ∈ ι2.ban L := .inr List.mem_cons_self
      cases m with
      | zero => cases p2
      | succ m =>
        obtain ⟨g1, g2⟩ := hgo (ι2.ban L) H2 M2 ((Lat.ban hL).trans e2.toLat) s2 i
        unfold compG at p2
        cases eg0 : get i M2 with
        | none => rw [eg0] at p2; cases p2
        | some od =>
          rw [eg0] at p2
          cases od with
          | none =>
            simp only [Option.some.injEq, Prod.mk.injEq] at p2
            obtain ⟨rfl, rfl⟩ := p2
            rw [List.append_nil] at hy
            subst hy
            exact .inl ⟨g1 eg0, newL_ban p1 E2 hL s2 nb2 eL ra⟩
          | some d =>
            obtain ⟨g3, g4⟩ := g2 d eg0
            refine .inr ⟨g3, fun H' => i + 1 + m ≤ sizeLine ∧ ∃ (ι2 : Io) (M2 : Mem) (acc : List D) (vacc : List V) (ys : List D), Exb L (ι1.ban L) (upd H1 L (.lst [])) (ι2.ban L) H' ∧ Sim X.K (ι2.ban L) H' M2 ∧ H' L = some (.lst vacc) ∧ vacc.length ≤ i + 1 ∧ RepAll X.K H' (ι2.ban L) vacc acc ∧
              compG get (compT g t f ρw) m (i + 1) M2 = some (ys, Me) ∧ acc ++ ys = ys0, fun H' h => ⟨m, Nat.lt_succ_self _, h⟩, fun x H3 y => ?_⟩
            obtain ⟨h3, r3⟩ := g4 x H3 y
            have e3 : Ext (ι2.ban L) H2 (ι2.ban L) H3 := Ext.same' h3
            have s3 := s2.same h3
            have R3 : Rp X.K (ι2.ban L) H3 M2 (wipe σ (own.map (·.2))) ρw := Rw.lat (e2.trans e3.toExb).toLat s3
            have eL3 : H3 L = some (.lst vacc) := h3 _ _ eL
            dsimp only at p2
            rw [compT_eq g t f ρw d M2] at p2
            cases eg : g d ρw with
            | none => rw [eg] at p2; cases p2
            | some ρ' =>
              rw [eg] at p2
              dsimp only at p2
              refine ⟨ι2.ban L, _, M2, d, ρ', R3, r3, eg, fun σ' R' hw => ⟨by rw [hw]; exact wipe_sub fun _ h => h, ι2.ban L, ρ', M2, R', ?_⟩⟩
              cases et : t ρ' M2 with
              | exc x M' => rw [et] at p2; cases p2
              | err => rw [et] at p2; cases p2
              | ok b M4 =>
                rw [et] at p2
                dsimp only [R.bind] at p2
                intro ι4 H4 b' e4 s4 rb
                cases rb
                obtain ⟨ι4', rfl⟩ : ∃ ι', ι4 = Io.ban ι' L := ⟨⟨ι4.l, ι2.b⟩, by
                  have z := e4.same
                  cases ι4
                  simp only [Io.ban] at z ⊢
                  rw [z]⟩
                have R4 := R'.ext e4 s4
                cases b with
                | false =>
                  rw [if_neg Bool.false_ne_true]
                  rw [if_neg Bool.false_ne_true] at p2
                  dsimp only at p2
                  cases er : compG get (compT g t f ρw) m (i + 1) M4 with
                  | none => rw [er] at p2; cases p2
                  | some r =>
                    rw [er] at p2
                    obtain ⟨ys', M6⟩ := r
                    simp only [Option.some.injEq, Prod.mk.injEq] at p2
                    obtain ⟨rfl, rfl⟩ := p2
                    exact ⟨by omega, ι4', M4, acc, vacc, ys', (e2.trans e3.toExb).trans e4.toExb, s4, e4.kb L List.mem_cons_self _ eL3, Nat.le_succ_of_le hlen, (ra.ext e3).ext e4, er, hy⟩
                | true =>
                  rw [if_pos rfl]
                  rw [if_pos rfl] at p2
                  refine ⟨Io.ban ι4' L, ρ', M4, R4, ?_⟩
                  cases ef : f ρ' M4 with
                  | exc x M' => rw [ef] at p2; cases p2
                  | err => rw [ef] at p2; cases p2
                  | ok yd M5 =>
                    rw [ef] at p2
                    dsimp only at p2
                    intro ι5 H5 yv e5 s5 r5
                    obtain ⟨ι5', rfl⟩ : ∃ ι', ι5 = Io.ban ι' L := ⟨⟨ι5.l, ι4'.b⟩, by
                      have z := e5.same
                      cases ι5
                      simp only [Io.ban] at z ⊢
                      rw [z]⟩
                    have eL5 := e5.kb L List.mem_cons_self _ (e4.kb L List.mem_cons_self _ eL3)
                    have m5 : L ∈ (Io.ban ι5' L).b := List.mem_cons_self
                    cases er : compG get (compT g t f ρw) m (i + 1) M5 with
                    | none => rw [er] at p2; cases p2
                    | some r =>
                      rw [er] at p2
                      obtain ⟨ys', M6⟩ := r
                      simp only [Option.some.injEq, Prod.mk.injEq] at p2
                      obtain ⟨rfl, rfl⟩ := p2
                      have ew : Exb L (Io.ban ι5' L) H5 (Io.ban ι5' L) (upd H5 L (.lst (vacc ++ [yv]))) := Exb.write m5
                      refine ⟨vacc, eL5, by omega, by omega, ι5', M5, acc ++ [yd], vacc ++ [yv], ys', (((e2.trans e3.toExb).trans e4.toExb).trans e5.toExb).trans ew, s5.wban m5, upd_same, by rw [List.length_append, List.length_singleton]; omega,
                        RepAll.append (RepAll.later ew.toLat (((ra.ext e3).ext e4).ext e5)) (.cons (Rep.later ew.toLat r5) .nil), er, ?_⟩
                      rw [List.append_assoc]
                      exact hy
theorem fe_comp (mt : Bool) {elt tg iter : Expr} {ifs : List Expr} {scope : Scope} {own : List (Str × Nat)} {fi : Env → Mem → R Src} {g : D → Env → Option Env} {t : Env → Mem → R Bool} {f : Env → Mem → R D} (hc : X.calm = true) (hN : X.N.Nodup) (hi : FI X W tg iter fi) (ok : BlkOk X.N X.env.scope scope own)
    (hg : ∀ (s : Shared) (H : Hp) (C : Addr) (cl : List (Str × Addr)) (fp : List Addr), FGw (X.blk s H scope (compEnvC scope cl C X.env) fp) (own.map (·.2)) tg g) (ht : ∀ (s : Shared) (H : Hp) (C : Addr) (cl : List (Str × Addr)) (fp : List Addr), FTs (X.blk s H scope (compEnvC scope cl C X.env) fp) W0 ifs t)
    (he : ∀ (s : Shared) (H : Hp) (C : Addr) (cl : List (Str × Addr)) (fp : List Addr), FE (X.blk s H scope (compEnvC scope cl C X.env) fp) W0 elt f) (hs : ∀ x, foldedSetIterable iter X.env x = pure x := by intro _; rfl) :
    FE X W (.ListComp elt [⟨tg, iter, ifs, 0⟩] scope pos) (fComp mt (own.map (·.2)) fi g t f) :=
  fe_imp (pe_lc (g := tGw X.K (own.map (·.2)) g) (tt := tG X.K rB W0 t) (te := tG X.K (Rep X.K) W0 f) hc hN hi ok hg ht he hs) fun σ H Q ι ρ M hR hP => comp_imp mt hR hP
/-- name = [..], the name a local -/
theorem fs_setLc (mt : Bool) {i : Nat} {y : Str} {py : Pos} {spos : Pos} {elt tg iter : Expr} {ifs : List Expr} {scope : Scope} {own : List (Str × Nat)} {fi : Env → Mem → R Src} {g : D → Env → Option Env} {t : Env → Mem → R Bool} {f : Env → Mem → R D} (hc : X.calm = true) (hN : X.N.Nodup) (hy : X.N[i]? = some y) (hyl : X.env.scope.names.lookup y = some .local)
    (hsw : swapsWith (.ListComp elt [⟨tg, iter, ifs, 0⟩] scope pos) (some (.Name y py)) spos.line X.env = pure true) (hi : FI X W tg iter fi) (ok : BlkOk X.N X.env.scope scope own)
    (hg : ∀ (s : Shared) (H : Hp) (C : Addr) (cl : List (Str × Addr)) (fp : List Addr), FGw (X.blk s H scope (compEnvC scope cl C X.env) fp) (own.map (·.2)) tg g) (ht : ∀ (s : Shared) (H : Hp) (C : Addr) (cl : List (Str × Addr)) (fp : List Addr), FTs (X.blk s H scope (compEnvC scope cl C X.env) fp) W0 ifs t)
    (he : ∀ (s : Shared) (H : Hp) (C : Addr) (cl : List (Str × Addr)) (fp : List Addr), FE (X.blk s H scope (compEnvC scope cl C X.env) fp) W0 elt f) (hs : ∀ x, foldedSetIterable iter X.env x = pure x := by intro _; rfl) :
    FS X W (.Assign [.Name y py] (.ListComp elt [⟨tg, iter, ifs, 0⟩] scope pos) spos) (sSet i (fComp mt (own.map (·.2)) fi g t f)) :=
  fs_imp (ps_setLc (g := tGw X.K (own.map (·.2)) g) (tt := tG X.K rB W0 t) (te := tG X.K (Rep X.K) W0 f) hc hN hy hyl hsw hi ok hg ht he hs) fun D σ H ι ρ M hR hP => by
    refine comp_imp mt hR ((Post.toO hR hP).imp ?_)
    rintro b H1 ⟨ι1, a, M1, e1, R1, r1, p1⟩
    exact p1 ι1 H1 _ .refl (R1.set i r1)
end
end Fx

set_option Elab.async false
set_option linter.all false
set_option maxRecDepth 100000
set_option maxHeartbeats 1000000
set_option autoImplicit false
/-! Fx4: displays, what a def promises, calls. -/
namespace Fx
open PySem PySem.Spec PyProof.Rows L2

/-! ### displays -/
def faN : Env → Mem → R (List D) := fun _ M => .ok [] M
def faC (f : Env → Mem → R D) (g : Env → Mem → R (List D)) : Env → Mem → R (List D) := fun ρ M => (f ρ M).bind fun a M1 => (g ρ M1).bind fun as M2 => .ok (a :: as) M2
def fTup (g : Env → Mem → R (List D)) : Env → Mem → R D := fun ρ M => (g ρ M).bind fun as M1 => if as.length ≤ sizeLine then .ok (.tup as) M1 else .err
def fLst (mt : Bool) (g : Env → Mem → R (List D)) : Env → Mem → R D := fun ρ M => (g ρ M).bind fun as M1 => if as.length ≤ sizeLine then newL mt as M1 else .err
section
variable {X : Cx} {W : WX} {pos : Pos}
theorem fa_nil : FA X W [] faN := PA.imp (fun σ H Q ⟨ι, ρ, M, hR, hP⟩ => hP.done hR.sim .nil) pa_nil
theorem fa_cons {e : Expr} {es : List Expr} {f : Env → Mem → R D} {g : Env → Mem → R (List D)} (ha : FE X W e f) (hr : FA X W es g) (hs : starEach (e :: es) X.env = (false, eval e X.env) :: starEach es X.env := by rfl) : FA X W (e :: es) (faC f g) :=
  PA.imp (fun σ H Q ⟨ι, ρ, M, hR, hP⟩ => by
    refine ⟨ι, ρ, M, hR, Post.imp (Post.bind (rel := Rep X.K) hP) ?_⟩
    rintro x H1 ⟨ι1, a, M1, e1, s1, r1, p1⟩
    refine ⟨ι1, ρ, M1, hR.ext e1 s1, Post.imp (Post.bind (rel := RepAll X.K) p1) ?_⟩
    rintro xs H2 ⟨ι2, as, M2, e2, s2, r2, p2⟩
    exact p2.done s2 (.cons (r1.ext e2) r2)) (pa_cons ha hr hs)
theorem fe_tup {es : List Expr} {x1} {g : Env → Mem → R (List D)} (h : FA X W es g) : FE X W (.Tuple es x1 pos) (fTup g) :=
  fe_imp (pe_tup h) fun σ H Q ι ρ M hR hP => by
    refine ⟨ι, ρ, M, hR, Post.imp (Post.bind (rel := RepAll X.K) hP) ?_⟩
    rintro xs H1 ⟨ι1, as, M1, e1, s1, r1, p1⟩
    split at p1
    · rename_i hz
      refine ⟨by rw [r1.length]; exact hz, fun p hp => ?_⟩
      exact p1.at (Ext.push hp) (s1.push hp) (.tup (s1.fresh hp) upd_same (r1.ext (Ext.push hp)))
    · exact p1.elim
theorem fe_lst (mt : Bool) {es : List Expr} {g : Env → Mem → R (List D)} (h : FA X W es g) : FE X W (.List es pos) (fLst mt g) :=
  fe_imp (pe_lst h) fun σ H Q ι ρ M hR hP => by
    refine ⟨ι, ρ, M, hR, Post.imp (Post.bind (rel := RepAll X.K) hP) ?_⟩
    rintro xs H1 ⟨ι1, as, M1, e1, s1, r1, p1⟩
    split at p1
    · rename_i hz
      exact ⟨by rw [r1.length]; exact hz, fun p hp => newL_post p1 s1 r1 hp⟩
    · exact p1.elim
end

/-! ### leaving a def: what it made does not change any more -/
def fz (n : Nat) (M : Mem) : Nat → D → Option D
  | 0, _ => none
  | k + 1, d => match d with
    | .ref j => if j < n then some (.ref j) else match M[j]? with
      | some o => fz n M k o
      | none => none
    | .lst ds => (ds.mapM (fz n M k)).map .lst
    | .tup ds => (ds.mapM (fz n M k)).map .tup
    | .dic ks ds => (ds.mapM (fz n M k)).map (.dic ks)
    | .ins C ns ds => (ds.mapM (fz n M k)).map (.ins C ns)
    | .non => some .non
    | .bl b => some (.bl b)
    | .int i => some (.int i)
    | .str x => some (.str x)
    | .adr a => some (.adr a)
    | .ty x => some (.ty x)
    | .klst ds => (ds.mapM (fz n M k)).map .klst
theorem fz_lst {n k : Nat} {M : Mem} {ds : List D} : fz n M (k + 1) (.lst ds) = (ds.mapM (fz n M k)).map .lst := rfl
theorem fz_tup {n k : Nat} {M : Mem} {ds : List D} : fz n M (k + 1) (.tup ds) = (ds.mapM (fz n M k)).map .tup := rfl
theorem fz_dic {n k : Nat} {M : Mem} {ks : List Key} {ds : List D} : fz n M (k + 1) (.dic ks ds) = (ds.mapM (fz n M k)).map (.dic ks) := rfl
theorem fz_ins {n k : Nat} {M : Mem} {C : Addr} {ns : List Str} {ds : List D} : fz n M (k + 1) (.ins C ns ds) = (ds.mapM (fz n M k)).map (.ins C ns) := rfl
theorem fz_klst {n k : Nat} {M : Mem} {ds : List D} : fz n M (k + 1) (.klst ds) = (ds.mapM (fz n M k)).map .klst := rfl
theorem fz_ref {n k : Nat} {M : Mem} {j : Nat} : fz n M (k + 1) (.ref j) = if j < n then some (.ref j) else match M[j]? with
      | some o => fz n M k o
      | none => none := rfl
section
variable {K : PySem.W.Frag} {ι ι' : Io} {H H' : Hp} {M M' : Mem}
theorem RepAll.mapM {ι2 : Io} {f : D → Option D} (h : ∀ v d d', Rep K H ι v d → f d = some d' → Rep K H ι2 v d') : ∀ {vs : List V} {ds ds' : List D}, RepAll K H ι vs ds → ds.mapM f = some ds' → RepAll K H ι2 vs ds'
  | _, _, ds', .nil, e => by
    simp at e; subst e; exact .nil
  | _, d :: ds, ds', .cons r t, e => by
    rw [List.mapM_cons] at e
    cases e1 : f d with
    | none => rw [e1] at e; simp at e
    | some d1 =>
      rw [e1] at e
      cases e2 : ds.mapM f with
      | none => rw [e2] at e; simp at e
      | some ds2 =>
        rw [e2] at e
        simp at e
        subst e
        exact .cons (h _ _ _ r e1) (RepAll.mapM h t e2)
theorem fz_rep (s : Sim K ι' H' M') (e : Ext ι H ι' H') (n : Nat) (hn : n = ι.l.length) : ∀ (k : Nat) (v : V) (d d' : D), Rep K H' ι' v d → fz n M' k d = some d' → Rep K H' ι v d' := by
  have sub : ∀ {a : Addr}, a ∉ ι' → a ∉ ι := fun {a} h z => h (by
    rcases z with z | z
    · exact .inl (e.pre.subset z)
    · exact .inr (by rw [e.same]; exact z))
  intro k
  induction k using Nat.strongRecOn with
  | ind k0 ih0 =>
  intro v d d' r h
  cases k0 with
  | zero => cases h
  | succ k =>
    have ih := ih0 k (Nat.lt_succ_self _)
    cases r with
    | non => cases h; exact .non
    | bl b => cases h; exact .bl b
    | int i => cases h; exact .int i
    | str x => cases h; exact .str x
    | ty x => cases h; exact .ty x
    | adr a => cases h; exact .adr a
    | lst nm q r =>
      rw [fz_lst, Option.map_eq_some_iff] at h
      obtain ⟨ds', h1, rfl⟩ := h
      exact .lst (sub nm) q (RepAll.mapM ih r h1)
    | klst q r =>
      rw [fz_klst, Option.map_eq_some_iff] at h
      obtain ⟨ds', h1, rfl⟩ := h
      exact .klst q (RepAll.mapM ih r h1)
    | tup nm q r =>
      rw [fz_tup, Option.map_eq_some_iff] at h
      obtain ⟨ds', h1, rfl⟩ := h
      exact .tup (sub nm) q (RepAll.mapM ih r h1)
    | dic nm q l r =>
      rw [fz_dic, Option.map_eq_some_iff] at h
      obtain ⟨ds', h1, rfl⟩ := h
      exact .dic (sub nm) q l (RepAll.mapM ih r h1)
    | ins nm q l r =>
      rw [fz_ins, Option.map_eq_some_iff] at h
      obtain ⟨ds', h1, rfl⟩ := h
      exact .ins (sub nm) q l (RepAll.mapM ih r h1)
    | @ref j a ea =>
      rw [fz_ref] at h
      split at h
      · rename_i hj
        cases h
        obtain ⟨t, et⟩ := e.pre
        refine .ref ?_
        rw [← et, List.getElem?_append_left (by omega)] at ea
        exact ea
      · rename_i hj
        split at h
        · rename_i o eo
          have nm : a ∉ ι := fun z => by
            rcases z with z | z
            · obtain ⟨i, hi, ei⟩ := List.mem_iff_getElem.mp z
              obtain ⟨t, et⟩ := e.pre
              have ei' : ι'.l[i]? = some a := by
                rw [← et, List.getElem?_append_left hi, List.getElem?_eq_getElem hi, ei]
              obtain ⟨h1, q1⟩ := List.getElem?_eq_some_iff.mp ei'
              obtain ⟨h2, q2⟩ := List.getElem?_eq_some_iff.mp ea
              have := (List.getElem_inj s.nd).mp (q1.trans q2.symm)
              omega
            · exact s.sep a (by rw [e.same]; exact z) (List.mem_of_getElem? ea)
          cases s.obj j a o ea eo with
          | lst q r =>
            cases k with
            | zero => cases h
            | succ k =>
              rw [fz_lst, Option.map_eq_some_iff] at h
              obtain ⟨ds', h1, rfl⟩ := h
              exact .lst nm (.inl q) (RepAll.mapM (ih0 k (by omega)) r h1)
          | dic q l r =>
            cases k with
            | zero => cases h
            | succ k =>
              rw [fz_dic, Option.map_eq_some_iff] at h
              obtain ⟨ds', h1, rfl⟩ := h
              exact .dic nm q l (RepAll.mapM (ih0 k (by omega)) r h1)
          | ins q l r =>
            cases k with
            | zero => cases h
            | succ k =>
              rw [fz_ins, Option.map_eq_some_iff] at h
              obtain ⟨ds', h1, rfl⟩ := h
              exact .ins nm q l (RepAll.mapM (ih0 k (by omega)) r h1)
        · cases h

/-- what the things of ch have become is told without what was made since -/
def fzM (n : Nat) (M' : Mem) : List Nat → Mem → Option Mem
  | [], M => some M
  | j :: ch, M => match M'[j]? with
    | some o => match fz n M' 64 o with
      | some o' => fzM n M' ch (M.set j o')
      | none => none
    | none => none
theorem fzM_len {n : Nat} : ∀ {ch : List Nat} {M M2 : Mem}, fzM n M' ch M = some M2 → M2.length = M.length
  | [], M, M2, h => by cases h; rfl
  | j :: ch, M, M2, h => by
    unfold fzM at h
    split at h
    · split at h
      · rw [fzM_len h, List.length_set]
      · cases h
    · cases h
theorem fzM_at {n : Nat} : ∀ {ch : List Nat} {M M2 : Mem}, fzM n M' ch M = some M2 → ∀ (j : Nat) (o : D), M2[j]? = some o → (j ∉ ch ∧ M[j]? = some o) ∨ ∃ o', M'[j]? = some o' ∧ fz n M' 64 o' = some o
  | [], M, M2, h, j, o, e => by cases h; exact .inl ⟨by simp, e⟩
  | i :: ch, M, M2, h, j, o, e => by
    unfold fzM at h
    split at h
    · rename_i o1 e1
      split at h
      · rename_i o2 e2
        rcases fzM_at h j o e with ⟨n1, q⟩ | q
        · by_cases hij : i = j
          · subst hij
            right
            by_cases hl : i < M.length
            · rw [List.getElem?_set_self hl] at q
              cases q
              exact ⟨o1, e1, e2⟩
            · rw [List.getElem?_eq_none (by simpa using hl)] at q; cases q
          · rw [List.getElem?_set_ne hij] at q
            exact .inl ⟨by simp only [List.mem_cons, not_or]; exact ⟨fun z => hij z.symm, n1⟩, q⟩
        · exact .inr q
      · cases h
    · cases h
theorem fz_ob (s : Sim K ι' H' M') (e : Ext ι H ι' H') (n : Nat) (hn : n = ι.l.length) {a : Addr} {o o' : D} (r : ObRep K H' ι' a o) (h : fz n M' 64 o = some o') : ObRep K H' ι a o' := by
  have f := fz_rep (H := H) s e n hn 63
  cases r with
  | lst q r =>
    rw [show (64 : Nat) = 63 + 1 from rfl, fz_lst, Option.map_eq_some_iff] at h
    obtain ⟨ds', h1, rfl⟩ := h
    exact .lst q (RepAll.mapM f r h1)
  | dic q l r =>
    rw [show (64 : Nat) = 63 + 1 from rfl, fz_dic, Option.map_eq_some_iff] at h
    obtain ⟨ds', h1, rfl⟩ := h
    exact .dic q l (RepAll.mapM f r h1)
  | ins q l r =>
    rw [show (64 : Nat) = 63 + 1 from rfl, fz_ins, Option.map_eq_some_iff] at h
    obtain ⟨ds', h1, rfl⟩ := h
    exact .ins q l (RepAll.mapM f r h1)
mutual
theorem Rep.back (sub : ∀ {a : Addr}, a ∉ ι' → a ∉ ι) (ea : ∀ {n : Nat} {a b : Addr}, ι.l[n]? = some a → ι'.l[n]? = some b → ι.l[n]? = some b) {v v0 : V} {d : D} (r0 : Rep K H ι v0 d) (r : Rep K H' ι' v d) : Rep K H' ι v d := by
  cases r with
  | non => exact .non
  | bl b => exact .bl b
  | int i => exact .int i
  | str x => exact .str x
  | ty n => exact .ty n
  | adr a => exact .adr a
  | lst n q r =>
    cases r0 with
    | lst _ _ r0 => exact .lst (sub n) q (RepAll.back sub ea r0 r)
  | klst q r =>
    cases r0 with
    | klst _ r0 => exact .klst q (RepAll.back sub ea r0 r)
  | tup n q r =>
    cases r0 with
    | tup _ _ r0 => exact .tup (sub n) q (RepAll.back sub ea r0 r)
  | dic n q l r =>
    cases r0 with
    | dic _ _ _ r0 => exact .dic (sub n) q l (RepAll.back sub ea r0 r)
  | ins n q l r =>
    cases r0 with
    | ins _ _ _ r0 => exact .ins (sub n) q l (RepAll.back sub ea r0 r)
  | ref e =>
    cases r0 with
    | ref e0 => exact .ref (ea e0 e)
theorem RepAll.back (sub : ∀ {a : Addr}, a ∉ ι' → a ∉ ι) (ea : ∀ {n : Nat} {a b : Addr}, ι.l[n]? = some a → ι'.l[n]? = some b → ι.l[n]? = some b) {vs vs0 : List V} {ds : List D} (r0 : RepAll K H ι vs0 ds) (r : RepAll K H' ι' vs ds) : RepAll K H' ι vs ds := by
  cases r with
  | nil => exact .nil
  | cons r t =>
    cases r0 with
    | cons r0 t0 => exact .cons (Rep.back sub ea r0 r) (RepAll.back sub ea t0 t)
end
theorem fz_sim {M2 : Mem} {ch : List Nat} (s0 : Sim K ι H M) (s : Sim K ι' H' M') (e : Ext ι H ι' H') (hM : fzM M.length M' ch M = some M2) (hrest : ∀ j, j < M.length → j ∉ ch → M'[j]? = M[j]?) : Sim K ι H' M2 ∧ Ext ι H ι H' := by
  have old : ∀ {a : Addr}, a ∈ ι → a ∈ ι' := fun {a} z => by
    rcases z with z | z
    · exact .inl (e.pre.subset z)
    · exact .inr (by rw [e.same]; exact z)
  refine ⟨⟨by rw [s0.len, fzM_len hM], s0.nd, s0.sep, fun a ha => s.there (old (.inr ha)), fun j a o e1 e2 => ?_⟩, ⟨⟨List.prefix_refl _, fun _ h n => absurd h n, e.keep⟩, rfl, e.kb⟩⟩
  have e1' := e.at e1
  have hj : j < M.length := by rw [← s0.len]; exact (List.getElem?_eq_some_iff.mp e1).1
  rcases fzM_at hM j o e2 with ⟨nj, q⟩ | ⟨o', q1, q2⟩
  · -- unchanged: it leans on what was there
    have z := s.obj j a o e1' (by rw [hrest j hj nj]; exact q)
    have b := s0.obj j a o e1 q
    have sub : ∀ {a : Addr}, a ∉ ι' → a ∉ ι := fun h z => h (old z)
    have ea : ∀ {n : Nat} {a b : Addr}, ι.l[n]? = some a → ι'.l[n]? = some b → ι.l[n]? = some b := fun {n a b} h h' => by
      rw [e.at h] at h'
      rw [h, h']
    cases z with
    | lst q1 r =>
      cases b with
      | lst _ r0 => exact .lst q1 (RepAll.back sub ea r0 r)
    | dic q1 l r =>
      cases b with
      | dic _ _ r0 => exact .dic q1 l (RepAll.back sub ea r0 r)
    | ins q1 l r =>
      cases b with
      | ins _ _ r0 => exact .ins q1 l (RepAll.back sub ea r0 r)
  · exact fz_ob s e M.length s0.len.symm (s.obj j a o' e1' q1) q2
end

open Classical in
/-- what leaves a def: the value, and the things of ch, told without what was made in the def; all else is as it was -/
noncomputable def fzR (ch : List Nat) (M0 : Mem) : R D → R D
  | .ok d M' => match fz M0.length M' 64 d, fzM M0.length M' ch M0 with
    | some d', some M2 => if (∀ j, j < M0.length → j ∉ ch → M'[j]? = M0[j]?) then .ok d' M2 else .err
    | _, _ => .err
  | .exc (.ins C ns ds) M' => match ds.mapM (fz M0.length M' 64), fzM M0.length M' ch M0 with
    | some ds', some M2 => if (∀ j, j < M0.length → j ∉ ch → M'[j]? = M0[j]?) then .exc (.ins C ns ds') M2 else .err
    | _, _ => .err
  | _ => .err
section
variable {K : PySem.W.Frag} {W : WX} {ι : Io} {H : Hp} {M : Mem} {σ : St} {Q : VK}
theorem fzR_ok {ch : List Nat} {d : D} {M' : Mem} (h : Post K (Rep K) W ι H σ Q (fzR ch M (.ok d M'))) : ∃ d' M2, fz M.length M' 64 d = some d' ∧ fzM M.length M' ch M = some M2 ∧ (∀ j, j < M.length → j ∉ ch → M'[j]? = M[j]?) ∧ Post K (Rep K) W ι H σ Q (.ok d' M2) := by
  simp only [fzR] at h
  cases h1 : fz M.length M' 64 d with
  | none => rw [h1] at h; exact h.elim
  | some d' =>
    cases h2 : fzM M.length M' ch M with
    | none => rw [h1, h2] at h; exact h.elim
    | some M2 =>
      rw [h1, h2] at h
      dsimp only at h
      by_cases hr : ∀ j, j < M.length → j ∉ ch → M'[j]? = M[j]?
      · rw [if_pos hr] at h
        exact ⟨d', M2, rfl, rfl, hr, h⟩
      · rw [if_neg hr] at h
        exact h.elim
theorem fzR_exc {ch : List Nat} {C : Addr} {ns : List Str} {ds : List D} {M' : Mem} (h : Post K (Rep K) W ι H σ Q (fzR ch M (.exc (.ins C ns ds) M'))) : ∃ ds' M2, ds.mapM (fz M.length M' 64) = some ds' ∧ fzM M.length M' ch M = some M2 ∧ (∀ j, j < M.length → j ∉ ch → M'[j]? = M[j]?) ∧ Post K (Rep K) W ι H σ Q (.exc (.ins C ns ds') M2) := by
  simp only [fzR] at h
  cases h1 : ds.mapM (fz M.length M' 64) with
  | none => rw [h1] at h; exact h.elim
  | some d' =>
    cases h2 : fzM M.length M' ch M with
    | none => rw [h1, h2] at h; exact h.elim
    | some M2 =>
      rw [h1, h2] at h
      dsimp only at h
      by_cases hr : ∀ j, j < M.length → j ∉ ch → M'[j]? = M[j]?
      · rw [if_pos hr] at h
        exact ⟨d', M2, rfl, rfl, hr, h⟩
      · rw [if_neg hr] at h
        exact h.elim
theorem fzR_post {ch : List Nat} {r : R D} (s0 : Sim K ι H M) (h : Post K (Rep K) W ι H σ Q (fzR ch M r)) : Post K (Rep K) W ι H σ Q r := by
  cases r with
  | err => exact h
  | ok d M' =>
    intro ι' H' v e s r
    obtain ⟨d', M2, h1, h2, hr, h⟩ := fzR_ok h
    obtain ⟨s2, e2⟩ := fz_sim s0 s e h2 hr
    exact h ι H' v e2 s2 (fz_rep s e _ s0.len.symm 64 v d d' r h1)
  | exc x M' =>
    intro ι' H' c o e s r
    cases r with
    | bare =>
      obtain ⟨ds', M2, h1, h2, hr, h⟩ := fzR_exc h
      simp at h1
      subst h1
      obtain ⟨s2, e2⟩ := fz_sim s0 s e h2 hr
      exact h ι H' _ o e2 s2 .bare
    | full n q l r =>
      obtain ⟨ds', M2, h1, h2, hr, h⟩ := fzR_exc h
      obtain ⟨s2, e2⟩ := fz_sim s0 s e h2 hr
      refine h ι H' _ _ e2 s2 (.full (fun z => n ?_) q l (RepAll.mapM (fz_rep s e _ s0.len.symm 64) r h1))
      rcases z with z | z
      · exact .inl (e.pre.subset z)
      · exact .inr (by rw [e.same]; exact z)
end

/-! ### what a def promises -/
def refsOf : List D → List Nat
  | [] => []
  | .ref j :: ds => j :: refsOf ds
  | _ :: ds => refsOf ds
def O.toR (r : O) : R D := match r with
  | .nx _ M => .ok .non M
  | .rt d M => .ok d M
  | .exc x _ M => .exc x M
  | _ => .err
def startD (n : Nat) (ds : List D) : Env := ds.map some ++ List.replicate (n - ds.length) none
/-- a def as a function: keep: what it made may change later -/
noncomputable def fnF (n np : Nat) (keep : Bool) (body : Env → Mem → O) : List D → Mem → R D := fun ds M =>
  if ds.length = np then (if keep = true then (body (startD n ds) M).toR else fzR (refsOf ds) M (body (startD n ds) M).toR) else .err
abbrev WXE (E : XK) : WX := fun c o _ H => E c o H
def spF (K : PySem.W.Frag) (g : List D → Mem → R D) : Sp := fun vs H Q E => ∃ ι ds M, Sim K ι H M ∧ RepAll K H ι vs ds ∧ Post K (Rep K) (WXE E) ι H [] Q (g ds M)
theorem pad_slots {K : PySem.W.Frag} {ι : Io} {H : Hp} (k : Nat) : ∀ {vs : List V} {ds : List D}, RepAll K H ι vs ds → Paired (SlotR K H ι) (vs.map some ++ List.replicate k none) (ds.map some ++ List.replicate k none)
  | _, _, .nil => by
    induction k with
    | zero => exact .nil
    | succ k ih => exact .cons .none ih
  | _, _, .cons r t => .cons (.some r) (pad_slots k t)
theorem start_slots {K : PySem.W.Frag} {ι : Io} {H : Hp} (N : List Str) {vs : List V} {ds : List D} (r : RepAll K H ι vs ds) : Paired (SlotR K H ι) (L2.start N vs) (startD N.length ds) := by
  unfold L2.start startD
  rw [r.length]
  exact pad_slots _ r
theorem wxe_takes {CXd : Unit} : True := trivial
section
variable {P : Program} {w : World} {K : PySem.W.Frag} {mg : Str → Option Value} {base : Heap} {x qual : Str} {params : Arguments} {body : List Stmt} {scope : Scope} {dvs : List V} {kws : List (Str × V)} {f : Addr} {fd : FuncData} {N ps : List Str} {k : Nat}
/-- the context of a def's body -/
abbrev bodyCx (P : Program) (w : World) (K : PySem.W.Frag) (mg : Str → Option Value) (base : Heap) (N : List Str) (qual : Str) (scope : Scope) (f : Addr) (cdv : Value) (A : Around) (outer : List PySem.Env) (s : Shared) (H : Hp) (E : XK) : Cx := cxOf (L2.CX P w) P w K mg base N qual scope f cdv A outer s H E
end
end Fx

set_option Elab.async false
set_option linter.all false
set_option maxRecDepth 100000
set_option maxHeartbeats 1000000
set_option autoImplicit false
/-! Fx5: a def holds its promise; calls of defs and of built-ins; fields; subscripts. -/
namespace Fx
open PySem PySem.Spec PyProof.Rows L2
/-! ### a def's promise where no text of an object is being made around it -/
structure FnG (P : Program) (w : World) (K : PySem.W.Frag) (mg : Str → Option Value) (base : Heap) (k : Nat) (f : Addr) (fd : FuncData) (ps : List Str) (sp : Sp) : Prop where
  len : ∀ vs H Q E, sp vs H Q E → vs.length = ps.length
  run : ∀ (A : Around) (outer : List PySem.Env) (s : Shared) (H : Hp) (args : Args) (us : List Value) (vs : List V) (Q : VK) (E : XK), A.guards = some [] → Room k A → Env0 P w K mg base A outer s H → BindsTo s fd args (ps.zip us) → Vals vs us → sp vs H Q E →
    codeAny (model P w) A (.call (.ref f) args) (CR (L2.CX P w) outer P w H s Q E) s
section
variable {P : Program} {w : World} {K : PySem.W.Frag} {mg : Str → Option Value} {base : Heap} {x qual : Str} {params : Arguments} {body : List Stmt} {scope : Scope} {dvs : List V} {kws : List (Str × V)} {f : Addr} {fd : FuncData} {N ps : List Str} {k : Nat}
theorem FnG.mono {sp : Sp} {j : Nat} (F : FnG P w K mg base j f fd ps sp) (h : j ≤ k) : FnG P w K mg base k f fd ps sp := ⟨F.len, fun A outer s H args us vs Q E hg hr => F.run A outer s H args us vs Q E hg (hr.mono h)⟩
/-- how the end of a body's run is the end of the call -/
theorem body_end {cdv : Value} {A : Around} {outer : List PySem.Env} {s s2 : Shared} {H : Hp} {E : XK} {Q : VK} {fl : Flow} (h : SP (bodyCx P w K mg base N qual scope f cdv A outer s H E) [] { nx := fun _ H' => Q .non H', rt := Q } fl s2) :
    CR (L2.CX P w) outer P w H s Q E (match fl with | .ret u => .ok (.ret u) | _ => .ok (.ret .none)) s2 := by
  have close : ∀ {σ2 : St} {H2 : Hp} {v : V} {u : Value}, Inv (bodyCx P w K mg base N qual scope f cdv A outer s H E) [] σ2 H2 s2 → RelV v u → Q v H2 → CE outer P w H s Q u s2 := fun J rv q => ⟨_, _, J.os, J.bare, J.base, J.hok, rv, q⟩
  cases fl with
  | ret u => obtain ⟨_, _, _, J, rv, q⟩ := h; exact close J rv q
  | next => obtain ⟨_, _, J, q⟩ := h; exact close (v := V.non) J rfl q
  | brk => obtain ⟨_, _, _, z⟩ := h; exact z.elim
  | cont => obtain ⟨_, _, _, z⟩ := h; exact z.elim
theorem fn_run {sp : Sp} (F : FunD K x qual params body scope dvs kws f fd) (S : FnScope N ps scope) (len : ∀ vs H Q E, sp vs H Q E → vs.length = ps.length)
    (hb : ∀ (cdv : Value) (A : Around) (outer : List PySem.Env) (s : Shared) (H : Hp) (vs : List V) (Q : VK) (E : XK), A.guards = some [] → Room k (A.deeper (envOfC qual scope s.heap.objs.size f cdv)) → sp vs H Q E →
      ∃ t, PSs (bodyCx P w K mg base N qual scope f cdv A outer s H E) body t ∧ t { nx := fun _ H' => Q .non H', rt := Q } (L2.start N vs) H) : FnG P w K mg base (k + 1) f fd ps sp := by
  obtain ⟨oc, od, dV, kV, doc, pm, an, cdv, ct, osl, efd, lk, hcd, _, _⟩ := F.ex
  subst efd
  refine ⟨len, fun A outer s H args us vs Q E hg hr e0 hbi r hsp => ?_⟩
  have keep : ∀ c o, base.get? c = some o → s.heap.get? c = some o := fun c o e => (e0.bs c o e).1
  have KX := e0.mod.kin.keeps keep
  have cells : ∀ y ∈ ps.zip us, scope.names.lookup y.1 = some .local ∨ (scope.names.lookup y.1 = some .cell ∧ ((cellsFrom (s.heap.objs.size + 1) scope.names []).lookup y.1).isSome = true) := by
    intro y hy
    have hm : y.1 ∈ ps := (List.of_mem_zip (a := y.1) (b := y.2) hy).1
    cases S.par y.1 hm with
    | inl q => exact .inl q
    | inr q => exact .inr ⟨q, PySem.W.cellsFrom_some _ _ _ (.inl q)⟩
  obtain ⟨t, ht, hq⟩ := hb cdv A outer s H vs Q E hg (hr.deeper _) hsp
  refine codeAny_call_function hr.depth (KX _ _ lk) rfl S.co S.gen rfl (PySem.W.codeRec_of KX hcd) (hbi _ _ _ _ (wpAny_newFunctionEnv_cells S.kind cells fun env he s1 y => ?_))
  subst he
  refine ⟨(e0.mod.nolimit.keeps keep).keeps y.toInCall.keep, codeAny_func (wpAny_mono (ht.run [] s1 (L2.start N vs) H _ (inv_start S hr.hd e0 (len _ _ _ _ hsp) r y) hq) (fun fl s2 hs => ?_) fun e s2 hs => hs)⟩
  have z := body_end hs
  cases fl <;> exact z
theorem Post.bodyS {ι : Io} {H : Hp} {E : XK} {Q : VK} {r : O} (h : Post K (Rep K) (WXE E) ι H [] Q r.toR) : PostS K (WXE E) ι H { nx := fun _ H' => Q .non H', rt := Q } r := by
  cases r with
  | nx ρ M => exact fun ι' H' σ' e q => h ι' H' .non e q.sim .non
  | rt d M => exact fun ι' H' v e s r => h ι' H' v e s r
  | exc y ρ M => exact fun ι' H' σ' c o e q r => h ι' H' c o e q.sim r
  | bk ρ M => exact h.elim
  | ct ρ M => exact h.elim
  | err => exact h.elim
theorem fn_ok (F : FunD K x qual params body scope dvs kws f fd) (S : FnScope N ps scope) (keep : Bool) (fb : Env → Mem → O)
    (hb : ∀ (cdv : Value) (A : Around) (outer : List PySem.Env) (s : Shared) (H : Hp) (E : XK), A.guards = some [] → Room k (A.deeper (envOfC qual scope s.heap.objs.size f cdv)) → FSs (bodyCx P w K mg base N qual scope f cdv A outer s H E) (WXE E) body fb) :
    FnG P w K mg base (k + 1) f fd ps (spF K (fnF N.length ps.length keep fb)) := by
  refine fn_run F S (fun vs H Q E h => ?_) (fun cdv A outer s H vs Q E hg hr h => ⟨_, hb cdv A outer s H E hg hr, ?_⟩)
  · obtain ⟨ι, ds, M, s, r, p⟩ := h
    rw [r.length]
    by_cases z : ds.length = ps.length
    · exact z
    · unfold fnF at p
      rw [if_neg z] at p
      exact p.elim
  · obtain ⟨ι, ds, M, s, r, p⟩ := h
    by_cases z : ds.length = ps.length
    · unfold fnF at p
      rw [if_pos z] at p
      refine ⟨ι, startD N.length ds, M, ⟨s, start_slots N r⟩, Post.bodyS ?_⟩
      cases keep with
      | true => exact p
      | false => exact fzR_post s p
    · unfold fnF at p
      rw [if_neg z] at p
      exact p.elim
theorem fn_takes {cdv : Value} {A : Around} {outer : List PySem.Env} {s : Shared} {H : Hp} {E : XK} : Takes (bodyCx P w K mg base N qual scope f cdv A outer s H E) (WXE E) := takes_of rfl rfl rfl rfl
theorem fn_passes {cdv : Value} {A : Around} {outer : List PySem.Env} {s : Shared} {H : Hp} {E : XK} : PassesOwn (model (bodyCx P w K mg base N qual scope f cdv A outer s H E).prog (bodyCx P w K mg base N qual scope f cdv A outer s H E).w) (bodyCx P w K mg base N qual scope f cdv A outer s H E).A (bodyCx P w K mg base N qual scope f cdv A outer s H E).env (bodyCx P w K mg base N qual scope f cdv A outer s H E).xe := passes_of rfl
end

/-! ### calls of defs -/
def fCall (g : List D → Mem → R D) (dds : List D) (fa : Env → Mem → R (List D)) : Env → Mem → R D := fun ρ M => (fa ρ M).bind fun ds M1 => g (ds ++ dds) M1
theorem Post.wx {K : PySem.W.Frag} {α β : Type} {rel : Hp → Io → β → α → Prop} {W : WX} {ι : Io} {H : Hp} {σ : St} {Q : β → Hp → Prop} {r : R α} (h : Post K rel W ι H σ Q r) : Post K rel (WXE (WE W σ)) ι H [] Q r := by
  cases r with
  | ok a M => exact h
  | exc x M => exact h
  | err => exact h
/-- default values, whatever the heap -/
def Dfl (K : PySem.W.Frag) (dvs : List V) (dds : List D) : Prop := ∀ H ι, RepAll K H ι dvs dds
theorem dfl_nil {K : PySem.W.Frag} : Dfl K [] [] := fun _ _ => .nil
section
variable {X : Cx} {W : WX} {pos p : Pos} {k : Nat} {f : Addr} {fd : FuncData} {ps : List Str} {x : Str} {dvs : List V} {us : List Value} {dds : List D} {g : List D → Mem → R D} {e : Expr} {es : List Expr} {fa : Env → Mem → R (List D)}
theorem run_fnG {sp : Sp} {E : St → XK} {pins : List (Addr × Obj)} {σ : St} {H : Hp} {s : Shared} {Q : VK} {ws : List Value} {vs : List V} (G : FnG X.prog X.w X.K X.mg X.base k f fd ps sp) (hgd : X.A.guards = some []) (hr : Room k X.A) (hb : Binds X.K fd ps us) (hd : Vals dvs us)
    (hx : PassesAt (L2.CX X.prog X.w) X σ (E σ)) (I : Inv X pins σ H s) (r : Vals vs ws) (h : sp (vs ++ dvs) H Q (E σ)) : wpAny (model X.prog X.w) X.A (call (.ref f) ws) (EP X pins σ Q) X.xe s := by
  have rr := r.append hd
  have hl : (ws ++ us).length = ps.length := rr.length.symm.trans (G.len _ _ _ _ h)
  refine wpAny_call (codeAny_mono (G.run X.A X.stack s H ⟨ws, []⟩ _ _ Q (E σ) hgd hr I.env0 (hb s ws I.kIn hl) rr h) fun res s2 hq => ?_)
  match res, hq with
  | .error e, hq => exact hx pins H s e s2 I hq
  | .ok (.ret u), hq => exact I.after hq
  | .ok .next, hq => exact hq.elim
  | .ok .brk, hq => exact hq.elim
  | .ok .cont, hq => exact hq.elim
theorem fe_call (tk : Takes X W) (G : FnG X.prog X.w X.K X.mg X.base k f fd ps (spF X.K g)) (hgd : X.A.guards = some []) (hr : Room k X.A) (hg : Gl X x) (hm : X.mg x = some (.ref f)) (hk : PySem.W.keepIn X.K (.ref f) = true) (hb : Binds X.K fd ps us) (hd : Vals dvs us) (hdd : Dfl X.K dvs dds)
    (ha : FA X W (e :: es) fa) (hdb : (x == ("__debug__" : Str)) = false := by decide) (he : starEach (e :: es) X.env = (false, eval e X.env) :: starEach es X.env := by rfl) (hpl : (backTo pos (starEach es X.env)).any (·.1) = false := by rfl) :
    FE X W (.Call (.Name x p) (e :: es) [] pos) (fCall g dds fa) := by
  refine ⟨fun pins s σ H Q I h => ?_⟩
  obtain ⟨ι, ρ, M, hR, hP⟩ := h
  refine wpAny_Call_Name_kw (ld_glob I hg hm ?_ hdb)
  refine PySem.W.callWith_K (h₀ := X.base) I.ok.mod.kin hk (thn (ha.run pos pins s σ H _ I ⟨ι, ρ, M, hR, Post.bind (rel := RepAll X.K) hP⟩) fun ws s1 hh => ?_) he hpl
  obtain ⟨vs, H1, I1, r, ι1, ds, M1, e1, s1', r1, p1⟩ := hh
  exact ⟨I1.kIn, run_fnG (E := WE W) G hgd hr hb hd (passAt tk σ) I1 r ⟨ι1, ds ++ dds, M1, s1', r1.append (hdd H1 ι1), p1.wx⟩⟩
/-- f() -/
theorem fe_call0 (tk : Takes X W) (G : FnG X.prog X.w X.K X.mg X.base k f fd ps (spF X.K g)) (hgd : X.A.guards = some []) (hr : Room k X.A) (hg : Gl X x) (hm : X.mg x = some (.ref f)) (hk : PySem.W.keepIn X.K (.ref f) = true) (hb : Binds X.K fd ps us) (hd : Vals dvs us) (hdd : Dfl X.K dvs dds)
    (hdb : (x == ("__debug__" : Str)) = false := by decide) : FE X W (.Call (.Name x p) [] [] pos) (fCall g dds faN) := by
  refine ⟨fun pins s σ H Q I h => ?_⟩
  obtain ⟨ι, ρ, M, hR, hP⟩ := h
  refine wpAny_Call_Name_kw (ld_glob I hg hm ?_ hdb)
  exact PySem.W.callWith_K0 I.kIn hk (run_fnG (ws := []) (vs := []) (E := WE W) G hgd hr hb hd (passAt tk σ) I .nil ⟨ι, dds, M, hR.sim, hdd H ι, Post.wx (σ := σ) hP⟩)

/-! ### calls of built-ins -/
def rC (K : PySem.W.Frag) (h : List D → Mem → R D) : List V → Hp → VK → Prop := fun vs H Q => ∃ ι ds M, Sim K ι H M ∧ RepAll K H ι vs ds ∧ Post K (Rep K) W0 ι H [] Q (h ds M)
def R.sure {α : Type} (r : R α) : R α := match r with
  | .ok a M => .ok a M
  | _ => .err
theorem Post.sure {K : PySem.W.Frag} {α β : Type} {rel : Hp → Io → β → α → Prop} {W : WX} {ι : Io} {H : Hp} {σ : St} {Q : β → Hp → Prop} {r : R α} (h : Post K rel W ι H σ Q r.sure) : Post K rel W0 ι H [] Q r := by
  cases r with
  | ok a M => exact h
  | exc x M => exact h.elim
  | err => exact h
def fBlt (h : List D → Mem → R D) (fa : Env → Mem → R (List D)) : Env → Mem → R D := fun ρ M => (fa ρ M).bind fun ds M1 => (h ds M1).sure
theorem fe_blt {id : String} {h : List D → Mem → R D} (hc : CallR X (.builtin id) (rC X.K h)) (hg : Gl X x) (hm : X.mg x = none) (hv : bootBuiltins x = some (.builtin id)) (ha : FA X W (e :: es) fa) (hn : x ≠ "__name__" := by decide) (hdb : (x == ("__debug__" : Str)) = false := by decide)
    (he : starEach (e :: es) X.env = (false, eval e X.env) :: starEach es X.env := by rfl) (hpl : (backTo pos (starEach es X.env)).any (·.1) = false := by rfl) : FE X W (.Call (.Name x p) (e :: es) [] pos) (fBlt h fa) :=
  fe_imp (pe_callB hc hg hm hv ha hn hdb he hpl) fun σ H Q ι ρ M hR hP => by
    refine ⟨ι, ρ, M, hR, Post.imp (Post.bind (rel := RepAll X.K) hP) ?_⟩
    rintro vs H1 ⟨ι1, ds, M1, e1, s1, r1, p1⟩
    exact ⟨ι1, ds, M1, s1, r1, p1.sure⟩
theorem fe_bty {T : String} {h : List D → Mem → R D} (hc : CallR X (.type T) (rC X.K h)) (hg : Gl X x) (hm : X.mg x = none) (hv : bootBuiltins x = some (.type T)) (ha : FA X W (e :: es) fa) (hn : x ≠ "__name__" := by decide) (hdb : (x == ("__debug__" : Str)) = false := by decide)
    (he : starEach (e :: es) X.env = (false, eval e X.env) :: starEach es X.env := by rfl) (hpl : (backTo pos (starEach es X.env)).any (·.1) = false := by rfl) : FE X W (.Call (.Name x p) (e :: es) [] pos) (fBlt h fa) :=
  fe_imp (pe_callTy hc hg hm hv ha hn hdb he hpl) fun σ H Q ι ρ M hR hP => by
    refine ⟨ι, ρ, M, hR, Post.imp (Post.bind (rel := RepAll X.K) hP) ?_⟩
    rintro vs H1 ⟨ι1, ds, M1, e1, s1, r1, p1⟩
    exact ⟨ι1, ds, M1, s1, r1, p1.sure⟩
end
section
variable {X : Cx}
/-- a global constant of the module -/
theorem fe_glob {W : WX} {x : Str} {v : V} {d : D} {u : Value} {pos : Pos} (hg : Gl X x) (hm : X.mg x = some u) (r : RelV v u) (rd : ∀ H ι, Rep X.K H ι v d) (hdb : (x == ("__debug__" : Str)) = false := by decide) : FE X W (.Name x pos) (fc d) := fe_c (pe_glob hg hm r hdb) rd
/-- a built-in type as a value -/
theorem fe_bltn {W : WX} {x : Str} {v : V} {d : D} {u : Value} {pos : Pos} (hg : Gl X x) (hm : X.mg x = none) (hv : bootBuiltins x = some u) (r : RelV v u) (rd : ∀ H ι, Rep X.K H ι v d) (hn : x ≠ "__name__" := by decide) (hdb : (x == ("__debug__" : Str)) = false := by decide) : FE X W (.Name x pos) (fc d) := fe_c (pe_bltn hg hm hv r hn hdb) rd
end
/-! ### reading -/
def lookM (M : Mem) (d : D) : D := match d with
  | .ref n => match M[n]? with
    | some o => o
    | none => .non
  | d => d
/-- the items of a list -/
def asL (M : Mem) (d : D) : Option (List D) := match d with
  | .lst ds => some ds
  | .klst ds => some ds
  | .ref n => match M[n]? with
    | some (.lst ds) => some ds
    | _ => none
  | _ => none
def asT (d : D) : Option (List D) := match d with
  | .tup ds => some ds
  | _ => none
/-- .. of one that was made -/
def asLm (M : Mem) (d : D) : Option (List D) := match d with
  | .lst ds => some ds
  | .ref n => match M[n]? with
    | some (.lst ds) => some ds
    | _ => none
  | _ => none
section
variable {K : PySem.W.Frag} {ι : Io} {H : Hp} {M : Mem}
theorem listm_of {v : V} {d : D} {ds : List D} (s : Sim K ι H M) (r : Rep K H ι v d) (h : asLm M d = some ds) : ∃ a xs, v = .ref a ∧ Rd H a (.lst xs) ∧ RepAll K H ι xs ds := by
  unfold asLm at h
  split at h
  · cases h
    cases r with
    | lst n q r => exact ⟨_, _, rfl, q, r⟩
  · split at h
    · rename_i n ds' e
      cases h
      cases r with
      | ref e1 =>
        cases s.obj _ _ _ e1 e with
        | lst q r => exact ⟨_, _, rfl, .inl q, r⟩
    · cases h
  · cases h
theorem list_of {v : V} {d : D} {ds : List D} (s : Sim K ι H M) (r : Rep K H ι v d) (h : asL M d = some ds) : ∃ a xs, v = .ref a ∧ SqL K H a xs ∧ RepAll K H ι xs ds := by
  unfold asL at h
  split at h
  · cases h
    cases r with
    | lst n q r => exact ⟨_, _, rfl, .inl q, r⟩
  · cases h
    cases r with
    | klst q r => exact ⟨_, _, rfl, .inr q, r⟩
  · split at h
    · rename_i n ds' e
      cases h
      cases r with
      | ref e1 =>
        cases s.obj _ _ _ e1 e with
        | lst q r => exact ⟨_, _, rfl, SqL.of q, r⟩
    · cases h
  · cases h
theorem tup_of {v : V} {d : D} {ds : List D} (r : Rep K H ι v d) (h : asT d = some ds) : ∃ a xs, v = .ref a ∧ H a = some (.tup xs) ∧ RepAll K H ι xs ds := by
  unfold asT at h
  split at h
  · cases h
    cases r with
    | tup n q r => exact ⟨_, _, rfl, q, r⟩
  · cases h
end
def hIx (a b : D) (M : Mem) : Option D := match b with
  | .int i => match asT a with
    | some ds => atI ds i
    | none => match asL M a with
      | some ds => atI ds i
      | none => match a with
        | .str z => if z.length ≤ sizeLine then (atI z.cps.toList i).map fun c => .str ⟨#[c]⟩ else none
        | _ => none
  | _ => none
theorem RepAll.atI {K : PySem.W.Frag} {ι : Io} {H : Hp} {xs : List V} {ds : List D} {i : Int} {d : D} (r : RepAll K H ι xs ds) (h : L2.atI ds i = some d) : ∃ v, L2.atI xs i = some v ∧ Rep K H ι v d := by
  unfold L2.atI at h ⊢
  rw [r.length]
  cases e : ixN ds.length i with
  | none => rw [e] at h; cases h
  | some j =>
    rw [e] at h
    exact r.get h
section
variable {X : Cx} {W : WX} {pos : Pos}
theorem ix_ok : IxR X (rO X.K hIx) := by
  intro value slice pins s σ H x y v u Q I rx ry h hs
  obtain ⟨ι, M, a, b, d, sm, ra, rb, e, k⟩ := h
  unfold hIx at e
  split at e
  · rename_i i
    cases rb with
    | int i =>
      split at e
      · rename_i ds ht
        obtain ⟨p, xs, rfl, q, r⟩ := tup_of ra ht
        obtain ⟨v', hv, rv⟩ := r.atI e
        exact ix_tup value slice pins s σ H _ _ v u Q I rx ry ⟨p, xs, i, v', rfl, rfl, SqT.of q, hv, k ι H v' .refl sm rv⟩ hs
      · split at e
        · rename_i ds hl
          obtain ⟨p, xs, rfl, q, r⟩ := list_of sm ra hl
          obtain ⟨v', hv, rv⟩ := r.atI e
          exact ix_list value slice pins s σ H _ _ v u Q I rx ry ⟨p, xs, i, v', rfl, rfl, q, hv, k ι H v' .refl sm rv⟩ hs
        · split at e
          · split at e
            · rename_i z hz
              cases ra
              rw [Option.map_eq_some_iff] at e
              obtain ⟨c, hc, rfl⟩ := e
              exact ix_str value slice pins s σ H _ _ v u Q I rx ry ⟨_, i, c, rfl, rfl, hz, hc, k ι H _ .refl sm (.str _)⟩ hs
            · cases e
          · cases e
  · cases e
theorem fe_ix {a b : Expr} {f g : Env → Mem → R D} (ha : FE X W a f) (hb : FE X W b g) (hs : PlainIx b := by intro _ _; rfl) : FE X W (.Subscript a b pos) (fbin hIx f g) :=
  PE.imp (fun _ _ _ q => op_imp q) (pe_ix ix_ok ha hb hs)
/-- a[i] = v -/
def gIx (f g : Env → Mem → R D) : D → Env → Mem → O := fun d ρ M => (f ρ M).toO ρ fun a M1 => (g ρ M1).toO ρ fun b M2 => match a, b with
  | .ref n, .int i => match M2[n]? with
    | some (.lst ds) => match ixN ds.length i with
      | some j => .nx ρ (M2.set n (.lst (ds.set j d)))
      | none => .err
    | _ => .err
  | _, _ => .err
theorem fg_ix {o i : Expr} {f g : Env → Mem → R D} (ho : FE X W o f) (hi : FE X W i g)
    (ha : ∀ v, assign (.Subscript o i pos) X.env v = (do
      let ov ← holding [v] (eval o X.env)
      let iv ← holding [v, ov] (eval i X.env)
      standAt pos
      holding [v, ov, iv] (setItem ov iv v)
      release [v, ov, iv] []) := by intro _; rfl) : FG X W (.Subscript o i pos) (gIx f g) :=
  PG.imp (fun v σ H Q ⟨ι, ρ, M, d, hR, hr, hP⟩ => by
    refine ⟨ι, ρ, M, hR, Post.imp (Post.toO (rel := Rep X.K) hR hP) ?_⟩
    rintro x H1 ⟨ι1, a, M1, e1, R1, r1, p1⟩
    refine ⟨ι1, ρ, M1, R1, Post.imp (Post.toO (rel := Rep X.K) R1 p1) ?_⟩
    rintro y H2 ⟨ι2, b, M2, e2, R2, r2, p2⟩
    split at p2
    · rename_i n j
      split at p2
      · rename_i ds eM
        split at p2
        · rename_i jj ej
          cases r2 with
          | int j =>
            have r1' := r1.ext e2
            cases r1' with
            | ref ea =>
              cases R2.sim.obj _ _ _ ea eM with
              | lst q r =>
                have hd := (hr.ext e1).ext e2
                have nb : _ ∉ ι2.b := fun z => R2.sim.sep _ z (List.mem_of_getElem? ea)
                refine ⟨_, _, _, _, rfl, rfl, q, by rw [r.length]; exact ej, ?_⟩
                have ew := fun (o : HO) => Ext.write (H := H2) (o := o) (List.mem_of_getElem? ea) nb
                exact p2 ι2 _ σ (ew _) (R2.ext (ew _) (R2.sim.write ea (.lst upd_same (RepAll.set _ (r.ext (ew _)) (hd.ext (ew _))))))
        · exact p2.elim
      · exact p2.elim
    · exact p2.elim) (pg_sub ho hi set_list ha)
end
end Fx

set_option Elab.async false
set_option linter.all false
set_option maxRecDepth 100000
set_option maxHeartbeats 1000000
set_option autoImplicit false
/-! Fx6: operators on data. -/
namespace Fx
open PySem PySem.Spec PyProof.Rows L2
instance {i j : Int} : Decidable (CShl i j) := inferInstanceAs (Decidable (_ ∧ _))
instance {i j : Int} : Decidable (CMulX i j) := inferInstanceAs (Decidable (_ ≤ _))
instance {i j : Int} : Decidable (CDivW i j) := inferInstanceAs (Decidable (_ ∧ _))
def CPowX (i j : Int) : Prop := 0 ≤ j ∧ (Builtin.Int.intBits i : Int) * j ≤ 134217728
instance {i j : Int} : Decidable (CPowX i j) := inferInstanceAs (Decidable (_ ∧ _))
/-- lists of any standing, joined: a new list -/
def rCatS (K : PySem.W.Frag) : R2 := fun x y H Q => ∃ l b xs zs, x = .ref l ∧ y = .ref b ∧ SqL K H l xs ∧ SqL K H b zs ∧ xs.length + zs.length ≤ sizeLine ∧ ∀ p, H p = none → Q (.ref p) (upd H p (.lst (xs ++ zs)))
section
variable {X : Cx}
theorem op_catS : OpR X (binaryOp .Add) (rCatS X.K) := by
  intro pins s σ H x y v u Q I rx ry h
  obtain ⟨l, b, xs, zs, rfl, rfl, hH, hB, hz, q⟩ := h
  cases rx
  cases ry
  obtain ⟨its, r, pl, z1⟩ := I.list hH
  obtain ⟨its2, r2, pl2, z2⟩ := I.list hB
  obtain ⟨⟨cls, dd, data, sl⟩, n, ho, hc, hd, hda⟩ := pl
  obtain ⟨⟨cls2, dd2, data2, sl2⟩, n2, ho2, hc2, hd2, hda2⟩ := pl2
  simp only at hc hda hc2 hda2
  subst hc hda hc2 hda2
  have e : its.toArray ++ its2.toArray = (its ++ its2).toArray := by simp
  have l1 := r.length
  have l2 := r2.length
  refine concat_meets ⟨_, ho, rfl⟩ ⟨_, ho2, rfl⟩ noFill_list_add seq_list_add PySem.F.slot_list_add PySem.F.entry_list_add (PySem.F.args_list_add_2 _ _) (list_addW l b its.toArray its2.toArray n n2 dd dd2 sl sl2 (by simp; omega)) ⟨ho, ho2, ?_⟩
  rw [e]
  exact ⟨.ref _, _, I.lnew (t' := s.toks) (r.append r2) (by rw [List.length_append]; omega), rfl, q _ I.fresh⟩
/-- a list that was made, times an int -/
def rRepR : R2 := fun x y H Q => ∃ l k xs, x = .ref l ∧ y = .int k ∧ Rd H l (.lst xs) ∧ -(2 ^ 63) ≤ k ∧ k < 2 ^ 63 ∧ xs.length * k.toNat ≤ sizeLine ∧
  ∀ p, H p = none → Q (.ref p) (upd H p (.lst (List.replicate k.toNat xs).flatten))
theorem op_repR : OpR X (binaryOp .Mult) rRepR := by
  intro pins s σ H x y v u Q I rx ry h
  obtain ⟨l, k, xs, rfl, rfl, hH, h1, h2, hz, q⟩ := h
  cases rx
  obtain ⟨t, rfl⟩ := ry
  obtain ⟨z, its, n, r, e⟩ := hH.ok I.hok
  have hl := r.length
  have hlen : its.toArray.size * k.toNat ≤ sizeLine := by rw [List.size_toArray, ← hl]; exact hz
  have hcap : ¬ its.toArray.size * k.toNat > (2 ^ 63 - 1) / 8 := by
    have : (sizeLine : Nat) ≤ (2 ^ 63 - 1) / 8 := by decide
    omega
  have hfit : ¬ (!Builtin.List.listFitsIndex k) = true := by
    rw [fitsIndex_both h1 h2]
    exact Bool.false_ne_true
  have hlong : ¬ Builtin.List.listTooLong (its.toArray.size * k.toNat) = true := by
    rw [notLongL hlen]
    exact Bool.false_ne_true
  have hnew : List.foldl (fun x1 x2 => x1 ++ x2) #[] (List.replicate (if its.toArray.isEmpty = true then 0 else k.toNat) its.toArray) = (List.replicate k.toNat its).flatten.toArray := by
    have f0 : ∀ m : Nat, List.foldl (fun x1 x2 => x1 ++ x2) #[] (List.replicate m its.toArray) = (List.replicate m its).flatten.toArray := fun m => by
      have := foldl_rep its m []
      rw [List.nil_append] at this
      exact this
    rw [f0]
    cases its with
    | nil => simp
    | cons a r' => rw [if_neg (by simp)]
  refine wpAny_binaryOp_repeat_ref (T := "list") (U := "int") (by decide) ⟨_, e, rfl⟩ (fun s' => typeIs_int s' k t) noFill_list_mul F.fills_int_mul F.slot_int_rmul repeat_list F.slot_int_index.lookup
    (call_meets F.slot_int_rmul (typeIs_int s k t) F.entry_int_rmul (F.args_int_rmul_2 _ _) (int___rmul___int_list k t l its.toArray n)
      ⟨e, rfl, ⟨_, e, rfl⟩, call_meets F.slot_list_mul ⟨_, e, rfl⟩ F.entry_list_mul (F.args_list_mul_2 _ _) (AutoListH.list___mul___list_int_3 l its.toArray n k t hfit hcap hlong) ⟨e, ?_⟩⟩)
  rw [hnew]
  exact ⟨.ref _, _, I.lnew (t' := s.toks) (r.rep k.toNat) (by rw [PyProof.Rows.lm_len_rep_flat, Nat.mul_comm]; exact hz), rfl, q _ I.fresh⟩
theorem op_powX : OpR X (binaryOp .Pow) (rI CPowX fun i j => .int (i ^ j.toNat)) := opI fun _ _ _ _ _ _ _ hc q => pow_int hc.1 hc.2 q
end
def hAdd (a b : D) (M : Mem) : Option D := match a, b with
  | .int i, .int j => some (.int (i + j))
  | .str x, .str y => if x.length + y.length ≤ sizeLine then some (.str (x ++ y)) else none
  | a, b => match asL M a, asL M b with
    | some xs, some ys => if xs.length + ys.length ≤ sizeLine then some (.lst (xs ++ ys)) else none
    | _, _ => none
def hII (C : Int → Int → Prop) [∀ i j, Decidable (C i j)] (g : Int → Int → Int) (a b : D) (_ : Mem) : Option D := match a, b with
  | .int i, .int j => if C i j then some (.int (g i j)) else none
  | _, _ => none
def hII0 (g : Int → Int → Int) (a b : D) (_ : Mem) : Option D := match a, b with
  | .int i, .int j => some (.int (g i j))
  | _, _ => none
def hIB0 (g : Int → Int → Bool) (a b : D) (_ : Mem) : Option D := match a, b with
  | .int i, .int j => some (.bl (g i j))
  | _, _ => none
def hI1 (g : Int → Int) (a : D) (_ : Mem) : Option D := match a with
  | .int i => some (.int (g i))
  | _ => none
def hSub := hII0 (· - ·)
def hMul (a b : D) (M : Mem) : Option D := match a, b with
  | .int i, .int j => if CMulX i j then some (.int (i * j)) else none
  | a, .int k => match asLm M a with
    | some xs => if -(2 ^ 63) ≤ k ∧ k < 2 ^ 63 ∧ xs.length * k.toNat ≤ sizeLine then some (.lst (List.replicate k.toNat xs).flatten) else none
    | none => none
  | _, _ => none
def hDiv := hII CDivW (· / ·)
def hMod := hII (fun _ j => 0 < j) (· % ·)
def hPow := hII CPowX fun i j => i ^ j.toNat
def hShl := hII CShl fun i j => i * 2 ^ j.toNat
def hShr := hII (fun _ j => 0 ≤ j) fun i j => i / 2 ^ j.toNat
def hAnd := hII0 Builtin.bitAnd
def hOr := hII0 Builtin.bitOr
def hXor := hII0 Builtin.bitXor
def hLt := hIB0 fun i j => decide (i < j)
def hLe := hIB0 fun i j => decide (i ≤ j)
def hGt := hIB0 fun i j => decide (j < i)
def hGe := hIB0 fun i j => decide (j ≤ i)
def hNeg := hI1 fun i => -i
def hInv := hI1 Builtin.bitNot
section
variable {X : Cx} {f : Value → Value → Sem Value}
theorem opII {C : Int → Int → Prop} [∀ i j, Decidable (C i j)] {g : Int → Int → Int} (h : OpR X f (rI C fun i j => .int (g i j))) : OpR X f (rO X.K (hII C g)) := by
  intro pins s σ H x y v u Q I rx ry ⟨ι, M, a, b, d, sm, ra, rb, e, k⟩
  unfold hII at e
  split at e
  · split at e
    · rename_i hc
      cases e
      cases ra
      cases rb
      exact h pins s σ H _ _ v u Q I rx ry ⟨_, _, rfl, rfl, hc, k ι H _ .refl sm (.int _)⟩
    · cases e
  · cases e
theorem opII0 {g : Int → Int → Int} (h : OpR X f (rI0 fun i j => .int (g i j))) : OpR X f (rO X.K (hII0 g)) := by
  intro pins s σ H x y v u Q I rx ry ⟨ι, M, a, b, d, sm, ra, rb, e, k⟩
  unfold hII0 at e
  split at e
  · cases e
    cases ra
    cases rb
    exact h pins s σ H _ _ v u Q I rx ry ⟨_, _, rfl, rfl, k ι H _ .refl sm (.int _)⟩
  · cases e
theorem opIB0 {g : Int → Int → Bool} (h : OpR X f (rI0 fun i j => .bl (g i j))) : OpR X f (rO X.K (hIB0 g)) := by
  intro pins s σ H x y v u Q I rx ry ⟨ι, M, a, b, d, sm, ra, rb, e, k⟩
  unfold hIB0 at e
  split at e
  · cases e
    cases ra
    cases rb
    exact h pins s σ H _ _ v u Q I rx ry ⟨_, _, rfl, rfl, k ι H _ .refl sm (.bl _)⟩
  · cases e
theorem unI1 {f : Value → Sem Value} {g : Int → Int} (h : UnR X f (rU fun i => .int (g i))) : UnR X f (rU1 X.K (hI1 g)) := by
  intro pins s σ H x v Q I rx ⟨ι, M, a, d, sm, ra, e, k⟩
  unfold hI1 at e
  split at e
  · cases e
    cases ra
    exact h pins s σ H _ v Q I rx ⟨_, rfl, k ι H _ .refl sm (.int _)⟩
  · cases e
theorem o_sub : OpR X (binaryOp .Sub) (rO X.K hSub) := opII0 op_sub
theorem o_div : OpR X (binaryOp .FloorDiv) (rO X.K hDiv) := opII op_fdivW
theorem o_mod : OpR X (binaryOp .Mod) (rO X.K hMod) := opII op_mod
theorem o_pow : OpR X (binaryOp .Pow) (rO X.K hPow) := opII op_powX
theorem o_shl : OpR X (binaryOp .LShift) (rO X.K hShl) := opII op_shlW
theorem o_shr : OpR X (binaryOp .RShift) (rO X.K hShr) := opII op_shr
theorem o_and : OpR X (binaryOp .BitAnd) (rO X.K hAnd) := opII0 op_and
theorem o_or : OpR X (binaryOp .BitOr) (rO X.K hOr) := opII0 op_or
theorem o_xor : OpR X (binaryOp .BitXor) (rO X.K hXor) := opII0 op_xor
theorem i_sub : OpR X (inplaceOp .Sub) (rO X.K hSub) := opII0 iop_sub
theorem i_shl : OpR X (inplaceOp .LShift) (rO X.K hShl) := opII iop_shlW
theorem i_shr : OpR X (inplaceOp .RShift) (rO X.K hShr) := opII iop_shr
theorem i_and : OpR X (inplaceOp .BitAnd) (rO X.K hAnd) := opII0 iop_and
theorem i_or : OpR X (inplaceOp .BitOr) (rO X.K hOr) := opII0 iop_or
theorem i_xor : OpR X (inplaceOp .BitXor) (rO X.K hXor) := opII0 iop_xor
theorem o_lt : OpR X (compareOp .Lt) (rO X.K hLt) := opIB0 op_lt
theorem o_le : OpR X (compareOp .LtE) (rO X.K hLe) := opIB0 op_le
theorem o_gt : OpR X (compareOp .Gt) (rO X.K hGt) := opIB0 op_gt
theorem o_ge : OpR X (compareOp .GtE) (rO X.K hGe) := opIB0 op_ge
theorem u_neg : UnR X (unaryOp .USub) (rU1 X.K hNeg) := unI1 un_neg
theorem u_inv : UnR X (unaryOp .Invert) (rU1 X.K hInv) := unI1 un_inv
theorem iop_mulX : OpR X (inplaceOp .Mult) (rI CMulX fun i j => .int (i * j)) := opI fun _ _ _ _ _ _ _ hc q => imul_int q hc.ok
def hMulI := hII CMulX (· * ·)
theorem i_mul : OpR X (inplaceOp .Mult) (rO X.K hMulI) := opII iop_mulX
def hAddI := hII0 (· + ·)
theorem i_add : OpR X (inplaceOp .Add) (rO X.K hAddI) := opII0 iop_add
theorem o_add : OpR X (binaryOp .Add) (rO X.K hAdd) := by
  intro pins s σ H x y v u Q I rx ry ⟨ι, M, a, b, d, sm, ra, rb, e, k⟩
  unfold hAdd at e
  split at e
  · cases e
    cases ra
    cases rb
    exact op_add pins s σ H _ _ v u Q I rx ry ⟨_, _, rfl, rfl, k ι H _ .refl sm (.int _)⟩
  · split at e
    · rename_i hz
      cases e
      cases ra
      cases rb
      exact op_add_str pins s σ H _ _ v u Q I rx ry ⟨_, _, rfl, rfl, hz, k ι H _ .refl sm (.str _)⟩
    · cases e
  · split at e
    · rename_i xs ys h1 h2
      split at e
      · rename_i hz
        cases e
        obtain ⟨p, vs, rfl, q1, r1⟩ := list_of sm ra h1
        obtain ⟨p2, us, rfl, q2, r2⟩ := list_of sm rb h2
        exact op_catS pins s σ H _ _ v u Q I rx ry ⟨p, p2, vs, us, rfl, rfl, q1, q2, by rw [r1.length, r2.length]; exact hz, fun l hl => k ι _ _ (Ext.push hl) (sm.push hl) (.lst (sm.fresh hl) (.inl upd_same) ((r1.append r2).ext (Ext.push hl)))⟩
      · cases e
    · cases e
theorem RepAll.rep {K : PySem.W.Frag} {ι : Io} {H : Hp} {vs : List V} {ds : List D} (r : RepAll K H ι vs ds) : ∀ n : Nat, RepAll K H ι (List.replicate n vs).flatten (List.replicate n ds).flatten
  | 0 => .nil
  | n + 1 => by
    rw [List.replicate_succ, List.replicate_succ, List.flatten_cons, List.flatten_cons]
    exact RepAll.append r (RepAll.rep r n)
theorem o_mul : OpR X (binaryOp .Mult) (rO X.K hMul) := by
  intro pins s σ H x y v u Q I rx ry ⟨ι, M, a, b, d, sm, ra, rb, e, k⟩
  unfold hMul at e
  split at e
  · split at e
    · rename_i hc
      cases e
      cases ra
      cases rb
      exact op_mulX pins s σ H _ _ v u Q I rx ry ⟨_, _, rfl, rfl, hc, k ι H _ .refl sm (.int _)⟩
    · cases e
  · split at e
    · rename_i xs h1
      split at e
      · rename_i hz
        cases e
        cases rb
        obtain ⟨p, vs, rfl, q1, r1⟩ := listm_of sm ra h1
        exact op_repR pins s σ H _ _ v u Q I rx ry ⟨p, _, vs, rfl, rfl, q1, hz.1, hz.2.1, by rw [r1.length]; exact hz.2.2, fun l hl => k ι _ _ (Ext.push hl) (sm.push hl) (.lst (sm.fresh hl) (.inl upd_same) ((r1.rep _).ext (Ext.push hl)))⟩
      · cases e
    · cases e
  · cases e
end

/-! ### data that are compared or shown -/
def toPy (M : Mem) : Nat → D → Option PyData
  | 0, _ => none
  | k + 1, d => match d with
    | .non => some .none
    | .bl b => some (.bool b)
    | .int i => some (.int i)
    | .str x => if PyData.strOk x = true then some (.str x) else none
    | .lst ds => (ds.mapM (toPy M k)).map .list
    | .klst ds => (ds.mapM (toPy M k)).map .list
    | .tup ds => (ds.mapM (toPy M k)).map .tuple
    | .ref n => match M[n]? with
      | some (.lst ds) => (ds.mapM (toPy M k)).map .list
      | _ => none
    | _ => none
theorem mapM_all {α β : Type} {f : α → Option β} {P : β → Prop} : ∀ {l : List α} {r : List β}, l.mapM f = some r → (∀ a b, a ∈ l → f a = some b → P b) → ∀ b ∈ r, P b
  | [], r, h, _, b, hb => by simp at h; subst h; cases hb
  | a :: l, r, h, hf, b, hb => by
    rw [List.mapM_cons] at h
    cases e1 : f a with
    | none => rw [e1] at h; simp at h
    | some y =>
      rw [e1] at h
      cases e2 : l.mapM f with
      | none => rw [e2] at h; simp at h
      | some r2 =>
        rw [e2] at h
        simp at h
        subst h
        rcases List.mem_cons.mp hb with z | z
        · rw [z]; exact hf a y List.mem_cons_self e1
        · exact mapM_all e2 (fun a b ha hb => hf a b (List.mem_cons_of_mem _ ha) hb) b z
theorem canLayAll_of : ∀ {l : List PyData}, (∀ d ∈ l, d.canLay0 = true) → PyData.canLayAll0 l = true
  | [], _ => rfl
  | d :: l, h => by
    show (d.canLay0 && PyData.canLayAll0 l) = true
    rw [h d List.mem_cons_self, canLayAll_of fun x hx => h x (List.mem_cons_of_mem _ hx)]
    rfl
theorem depthAll_of {n : Nat} : ∀ {l : List PyData}, (∀ d ∈ l, d.depth ≤ n) → PyData.depthAll l ≤ n
  | [], _ => Nat.zero_le _
  | d :: l, h => by
    show max d.depth (PyData.depthAll l) ≤ n
    exact Nat.max_le.mpr ⟨h d List.mem_cons_self, depthAll_of fun x hx => h x (List.mem_cons_of_mem _ hx)⟩
theorem hasDictAll_of : ∀ {l : List PyData}, (∀ d ∈ l, d.hasDict = false) → PyData.hasDictAll l = false
  | [], _ => rfl
  | d :: l, h => by
    show (d.hasDict || PyData.hasDictAll l) = false
    rw [h d List.mem_cons_self, hasDictAll_of fun x hx => h x (List.mem_cons_of_mem _ hx)]
    rfl
theorem toPy_ok {M : Mem} : ∀ (k : Nat) (d : D) (p : PyData), toPy M k d = some p → p.canLay0 = true ∧ p.depth ≤ k ∧ p.hasDict = false := by
  intro k
  induction k with
  | zero => intro d p h; cases h
  | succ k ih =>
    intro d p h
    have lists : ∀ {ds : List D} {mk : List PyData → PyData}, (mk = .list ∨ mk = .tuple) → (ds.mapM (toPy M k)).map mk = some p → p.canLay0 = true ∧ p.depth ≤ k + 1 ∧ p.hasDict = false := by
      intro ds mk hm h
      rw [Option.map_eq_some_iff] at h
      obtain ⟨ps, h1, rfl⟩ := h
      have a1 := canLayAll_of (mapM_all h1 fun d p _ e => (ih d p e).1)
      have a2 := depthAll_of (mapM_all h1 fun d p _ e => (ih d p e).2.1)
      have a3 := hasDictAll_of (mapM_all h1 fun d p _ e => (ih d p e).2.2)
      rcases hm with rfl | rfl
      · exact ⟨a1, Nat.succ_le_succ a2, a3⟩
      · exact ⟨a1, Nat.succ_le_succ a2, a3⟩
    cases d with
    | non => cases h; exact ⟨rfl, Nat.zero_le _, rfl⟩
    | bl b => cases h; exact ⟨rfl, Nat.zero_le _, rfl⟩
    | int i => cases h; exact ⟨rfl, Nat.zero_le _, rfl⟩
    | str x =>
      simp only [toPy] at h
      split at h
      · rename_i hx
        cases h
        exact ⟨hx, Nat.zero_le _, rfl⟩
      · cases h
    | lst ds => exact lists (.inl rfl) h
    | klst ds => exact lists (.inl rfl) h
    | tup ds => exact lists (.inr rfl) h
    | ref n =>
      simp only [toPy] at h
      split at h
      · exact lists (.inl rfl) h
      · cases h
    | dic ks ds => cases h
    | ins C ns ds => cases h
    | adr a => cases h
    | ty n => cases h
theorem mapM_dp {K : PySem.W.Frag} {H : Hp} {ι : Io} {f : D → Option PyData} (h : ∀ v d p, Rep K H ι v d → f d = some p → Dp K H v p) : ∀ {vs : List V} {ds : List D} {ps : List PyData}, RepAll K H ι vs ds → ds.mapM f = some ps → DpAll K H vs ps
  | _, _, ps, .nil, e => by simp at e; subst e; exact .nil
  | _, d :: ds, ps, .cons r t, e => by
    rw [List.mapM_cons] at e
    cases e1 : f d with
    | none => rw [e1] at e; simp at e
    | some y =>
      rw [e1] at e
      cases e2 : ds.mapM f with
      | none => rw [e2] at e; simp at e
      | some r2 =>
        rw [e2] at e
        simp at e
        subst e
        exact .cons (h _ _ _ r e1) (mapM_dp h t e2)
theorem toPy_dp {K : PySem.W.Frag} {H : Hp} {ι : Io} {M : Mem} (s : Sim K ι H M) : ∀ (k : Nat) (v : V) (d : D) (p : PyData), Rep K H ι v d → toPy M k d = some p → Dp K H v p := by
  intro k
  induction k with
  | zero => intro v d p r h; cases h
  | succ k ih =>
    intro v d p r h
    cases r with
    | non => cases h; exact .non
    | bl b => cases h; exact .bl b
    | int i => cases h; exact .int i
    | str x =>
      simp only [toPy] at h
      split at h
      · cases h; exact .str x
      · cases h
    | lst n q r =>
      have h' : (List.mapM (toPy M k) _).map PyData.list = some p := h
      rw [Option.map_eq_some_iff] at h'
      obtain ⟨ps, h1, rfl⟩ := h'
      exact .lst (.inl q) (mapM_dp ih r h1)
    | klst q r =>
      have h' : (List.mapM (toPy M k) _).map PyData.list = some p := h
      rw [Option.map_eq_some_iff] at h'
      obtain ⟨ps, h1, rfl⟩ := h'
      exact .lst (.inr q) (mapM_dp ih r h1)
    | tup n q r =>
      have h' : (List.mapM (toPy M k) _).map PyData.tuple = some p := h
      rw [Option.map_eq_some_iff] at h'
      obtain ⟨ps, h1, rfl⟩ := h'
      exact .tup (SqT.of q) (mapM_dp ih r h1)
    | ref ea =>
      simp only [toPy] at h
      split at h
      · rename_i ds eM
        rw [Option.map_eq_some_iff] at h
        obtain ⟨ps, h1, rfl⟩ := h
        cases s.obj _ _ _ ea eM with
        | lst q r => exact .lst (SqL.of q) (mapM_dp ih r h1)
      · cases h
    | dic n q l r => cases h
    | ins n q l r => cases h
    | adr a => cases h
    | ty n => cases h
theorem toPy_shaped {M : Mem} {d : D} {p : PyData} (h : toPy M 40 d = some p) : SeqAt.shaped p = true := by
  obtain ⟨h1, h2, _⟩ := toPy_ok 40 d p h
  unfold SeqAt.shaped
  rw [h1, decide_eq_true (show p.depth ≤ 64 by omega)]
  rfl
def hEq (a b : D) (M : Mem) : Option D := match toPy M 40 a, toPy M 40 b with
  | some p, some q => some (.bl (PyData.eqv p q))
  | _, _ => none
def hNe (a b : D) (M : Mem) : Option D := match toPy M 40 a, toPy M 40 b with
  | some p, some q => some (.bl (!PyData.eqv p q))
  | _, _ => none
section
variable {X : Cx}
theorem o_eq (hu : X.A.units + 64 < cLine) : OpR X (compareOp .Eq) (rO X.K hEq) := by
  intro pins s σ H x y v u Q I rx ry ⟨ι, M, a, b, d, sm, ra, rb, e, k⟩
  unfold hEq at e
  split at e
  · rename_i p q h1 h2
    cases e
    exact op_eqD hu pins s σ H _ _ v u Q I rx ry ⟨p, q, toPy_dp sm 40 _ _ _ ra h1, toPy_dp sm 40 _ _ _ rb h2, toPy_shaped h1, toPy_shaped h2, k ι H _ .refl sm (.bl _)⟩
  · cases e
theorem o_ne (hu : X.A.units + 64 < cLine) : OpR X (compareOp .NotEq) (rO X.K hNe) := by
  intro pins s σ H x y v u Q I rx ry ⟨ι, M, a, b, d, sm, ra, rb, e, k⟩
  unfold hNe at e
  split at e
  · rename_i p q h1 h2
    cases e
    exact op_neD hu pins s σ H _ _ v u Q I rx ry ⟨p, q, toPy_dp sm 40 _ _ _ ra h1, toPy_dp sm 40 _ _ _ rb h2, toPy_shaped h1, toPy_shaped h2, k ι H _ .refl sm (.bl _)⟩
  · cases e
def isNon : D → Bool
  | .non => true
  | _ => false
def hIsN (a b : D) (_ : Mem) : Option D := match b with
  | .non => some (.bl (isNon a))
  | _ => none
def hNotN (a b : D) (_ : Mem) : Option D := match b with
  | .non => some (.bl (!isNon a))
  | _ => none
theorem rep_non {K : PySem.W.Frag} {H : Hp} {ι : Io} {v : V} {a : D} (r : Rep K H ι v a) : decide (v = .non) = isNon a := by
  cases r <;> first | rfl | exact decide_eq_false (fun z => by cases z)
theorem o_is : OpR X (compareOp .Is) (rO X.K hIsN) := by
  intro pins s σ H x y v u Q I rx ry ⟨ι, M, a, b, d, sm, ra, rb, e, k⟩
  unfold hIsN at e
  split at e
  · cases e
    cases rb
    exact op_isN pins s σ H _ _ v u Q I rx ry ⟨rfl, by rw [rep_non ra]; exact k ι H _ .refl sm (.bl _)⟩
  · cases e
theorem o_isnot : OpR X (compareOp .IsNot) (rO X.K hNotN) := by
  intro pins s σ H x y v u Q I rx ry ⟨ι, M, a, b, d, sm, ra, rb, e, k⟩
  unfold hNotN at e
  split at e
  · cases e
    cases rb
    refine op_notN pins s σ H _ _ v u Q I rx ry ⟨rfl, ?_⟩
    rw [rep_non ra]
    exact k ι H _ .refl sm (.bl _)
  · cases e
end
end Fx

set_option Elab.async false
set_option linter.all false
set_option maxRecDepth 100000
set_option maxHeartbeats 1000000
set_option autoImplicit false
/-! Fx7: tests, and, or, not, conditional expressions; built-in functions; methods of lists; slices; what is walked. -/
namespace Fx
open PySem PySem.Spec PyProof.Rows L2
/-! ### truth -/
def truD (M : Mem) (d : D) : Option Bool := match d with
  | .non => some false
  | .bl b => some b
  | .int i => some (i != 0)
  | .str x => if x.length ≤ sizeLine then some ((x.length : Int) != 0) else none
  | .tup ds => some (!ds.isEmpty)
  | d => match asL M d with
    | some ds => some (!ds.isEmpty)
    | none => none
def fTru (f : Env → Mem → R D) : Env → Mem → R Bool := fun ρ M => (f ρ M).bind fun a M1 => R.ofO (truD M1 a) M1
def fNotB (f : Env → Mem → R Bool) : Env → Mem → R Bool := fun ρ M => (f ρ M).bind fun a M1 => .ok (!a) M1
def fAndB (f g : Env → Mem → R Bool) : Env → Mem → R Bool := fun ρ M => (f ρ M).bind fun a M1 => if a = true then g ρ M1 else .ok false M1
def fOrB (f g : Env → Mem → R Bool) : Env → Mem → R Bool := fun ρ M => (f ρ M).bind fun a M1 => if a = true then .ok true M1 else g ρ M1
def fAndV (f g : Env → Mem → R D) : Env → Mem → R D := fun ρ M => (f ρ M).bind fun a M1 => match a with
  | .bl c => if c = true then g ρ M1 else .ok (.bl false) M1
  | _ => .err
def fOrV (f g : Env → Mem → R D) : Env → Mem → R D := fun ρ M => (f ρ M).bind fun a M1 => match a with
  | .bl c => if c = true then .ok (.bl true) M1 else g ρ M1
  | _ => .err
def fNotV (f : Env → Mem → R D) : Env → Mem → R D := fun ρ M => (f ρ M).bind fun a M1 => match a with
  | .bl c => .ok (.bl (!c)) M1
  | _ => .err
def fIfE (c : Env → Mem → R Bool) (f g : Env → Mem → R D) : Env → Mem → R D := fun ρ M => (c ρ M).bind fun b M1 => if b = true then f ρ M1 else g ρ M1
theorem emp_rep {K : PySem.W.Frag} {H : Hp} {ι : Io} {xs : List V} {ds : List D} (r : RepAll K H ι xs ds) : (!ds.isEmpty) = !xs.isEmpty := by cases r <;> rfl
section
variable {X : Cx} {W : WX} {pos : Pos} {a b c : Expr} {rest : List Expr} {f g : Env → Mem → R D} {ft gt : Env → Mem → R Bool}
theorem ft_imp {e : Expr} {t : TT} {f : Env → Mem → R Bool} (h : PT X e t) (i : ∀ σ H Q ι ρ M, Rp X.K ι H M σ ρ → Post X.K rB W ι H σ Q (f ρ M) → t σ H Q) : FT X W e f :=
  PT.imp (fun σ H Q ⟨ι, ρ, M, hR, hP⟩ => i σ H Q ι ρ M hR hP) h
theorem ft_tru (ha : FE X W a f) (he : ∀ whole, isTrue a X.env whole = (do let v ← whole; standAt a.pos; holding [v] (truthy v)) := by intro _; rfl) : FT X W a (fTru f) :=
  ft_imp (pt_truth ha he) fun σ H Q ι ρ M hR hP => by
    refine ⟨ι, ρ, M, hR, Post.imp (Post.bind (rel := Rep X.K) hP) ?_⟩
    rintro x H1 ⟨ι1, d, M1, e1, s1, r1, p1⟩
    unfold truD at p1
    split at p1
    · cases r1; exact ⟨_, rfl, p1.done s1 rfl⟩
    · cases r1; exact ⟨_, rfl, p1.done s1 rfl⟩
    · cases r1; exact ⟨_, rfl, p1.done s1 rfl⟩
    · split at p1
      · rename_i hz
        cases r1; exact ⟨_, ⟨hz, rfl⟩, p1.done s1 rfl⟩
      · exact p1.elim
    · cases r1 with
      | tup n q r => exact ⟨_, .inr (.inl ⟨_, SqT.of q, rfl⟩), by rw [← emp_rep r]; exact p1.done s1 rfl⟩
    · split at p1
      · rename_i ds h
        obtain ⟨p, xs, rfl, q, r⟩ := list_of s1 r1 h
        exact ⟨_, .inl ⟨_, q, rfl⟩, by rw [← emp_rep r]; exact p1.done s1 rfl⟩
      · exact p1.elim
theorem ft_not (ha : FT X W a ft) : FT X W (.UnaryOp .Not a pos) (fNotB ft) :=
  ft_imp (pt_not ha) fun σ H Q ι ρ M hR hP => by
    refine ⟨ι, ρ, M, hR, Post.imp (Post.bind (rel := rB) hP) ?_⟩
    rintro x H1 ⟨ι1, d, M1, e1, s1, rfl, p1⟩
    exact p1.done s1 rfl
theorem fw_and1 (ha : FT X W a ft) : FW X W (.BoolOp .And [a] pos) ft := pw_and1 ha
theorem fw_or1 (ha : FT X W a ft) : FW X W (.BoolOp .Or [a] pos) ft := pw_or1 ha
theorem fw_and (ha : FT X W a ft) (hb : FW X W (.BoolOp .And (b :: rest) pos) gt) : FW X W (.BoolOp .And (a :: b :: rest) pos) (fAndB ft gt) :=
  PW.imp (fun σ H Q ⟨ι, ρ, M, hR, hP⟩ => by
    refine ⟨ι, ρ, M, hR, Post.imp (Post.bind (rel := rB) hP) ?_⟩
    rintro x H1 ⟨ι1, d, M1, e1, s1, rfl, p1⟩
    cases x with
    | true => rw [if_pos rfl] at p1 ⊢; exact ⟨ι1, ρ, M1, hR.ext e1 s1, p1⟩
    | false => rw [if_neg Bool.false_ne_true] at p1 ⊢; exact p1.done s1 rfl) (pw_and ha hb)
theorem fw_or (ha : FT X W a ft) (hb : FW X W (.BoolOp .Or (b :: rest) pos) gt) : FW X W (.BoolOp .Or (a :: b :: rest) pos) (fOrB ft gt) :=
  PW.imp (fun σ H Q ⟨ι, ρ, M, hR, hP⟩ => by
    refine ⟨ι, ρ, M, hR, Post.imp (Post.bind (rel := rB) hP) ?_⟩
    rintro x H1 ⟨ι1, d, M1, e1, s1, rfl, p1⟩
    cases x with
    | true => rw [if_pos rfl] at p1 ⊢; exact p1.done s1 rfl
    | false => rw [if_neg Bool.false_ne_true] at p1 ⊢; exact ⟨ι1, ρ, M1, hR.ext e1 s1, p1⟩) (pw_or ha hb)
theorem ft_w (h : FW X W a ft) : FT X W a ft := PW.pt h
theorem fe_one {op} (h : FE X W a f) : FE X W (.BoolOp op [a] pos) f := pe_one h
theorem fe_and (ha : FE X W a f) (hb : FE X W (.BoolOp .And (b :: rest) pos) g) : FE X W (.BoolOp .And (a :: b :: rest) pos) (fAndV f g) :=
  fe_imp (pe_and ha hb) fun σ H Q ι ρ M hR hP => by
    refine ⟨ι, ρ, M, hR, Post.imp (Post.bind (rel := Rep X.K) hP) ?_⟩
    rintro x H1 ⟨ι1, d, M1, e1, s1, r1, p1⟩
    split at p1
    · rename_i c
      cases r1
      refine ⟨c, rfl, ?_⟩
      cases c with
      | true => rw [if_pos rfl] at p1 ⊢; exact ⟨ι1, ρ, M1, hR.ext e1 s1, p1⟩
      | false => rw [if_neg Bool.false_ne_true] at p1 ⊢; exact p1.done s1 (.bl _)
    · exact p1.elim
theorem fe_or (ha : FE X W a f) (hb : FE X W (.BoolOp .Or (b :: rest) pos) g) : FE X W (.BoolOp .Or (a :: b :: rest) pos) (fOrV f g) :=
  fe_imp (pe_or ha hb) fun σ H Q ι ρ M hR hP => by
    refine ⟨ι, ρ, M, hR, Post.imp (Post.bind (rel := Rep X.K) hP) ?_⟩
    rintro x H1 ⟨ι1, d, M1, e1, s1, r1, p1⟩
    split at p1
    · rename_i c
      cases r1
      refine ⟨c, rfl, ?_⟩
      cases c with
      | true => rw [if_pos rfl] at p1 ⊢; exact p1.done s1 (.bl _)
      | false => rw [if_neg Bool.false_ne_true] at p1 ⊢; exact ⟨ι1, ρ, M1, hR.ext e1 s1, p1⟩
    · exact p1.elim
theorem fe_not (ha : FE X W a f) : FE X W (.UnaryOp .Not a pos) (fNotV f) :=
  fe_imp (pe_not ha) fun σ H Q ι ρ M hR hP => by
    refine ⟨ι, ρ, M, hR, Post.imp (Post.bind (rel := Rep X.K) hP) ?_⟩
    rintro x H1 ⟨ι1, d, M1, e1, s1, r1, p1⟩
    split at p1
    · rename_i c
      cases r1
      exact ⟨c, rfl, p1.done s1 (.bl _)⟩
    · exact p1.elim
theorem fe_ifE (hc : FT X W c ft) (ha : FE X W a f) (hb : FE X W b g) : FE X W (.IfExp c a b pos) (fIfE ft f g) :=
  fe_imp (pe_ifExp hc ha hb) fun σ H Q ι ρ M hR hP => by
    refine ⟨ι, ρ, M, hR, Post.imp (Post.bind (rel := rB) hP) ?_⟩
    rintro x H1 ⟨ι1, d, M1, e1, s1, rfl, p1⟩
    cases x with
    | true => rw [if_pos rfl] at p1 ⊢; exact ⟨ι1, ρ, M1, hR.ext e1 s1, p1⟩
    | false => rw [if_neg Bool.false_ne_true] at p1 ⊢; exact ⟨ι1, ρ, M1, hR.ext e1 s1, p1⟩
/-- a op b op' c -/
def fChain (h h' : D → D → Mem → Option D) (f g k : Env → Mem → R D) : Env → Mem → R D := fun ρ M => (f ρ M).bind fun a M1 => (g ρ M1).bind fun b M2 => match h a b M2 with
  | some (.bl c) => if c = true then (k ρ M2).bind fun z M3 => R.ofO (h' b z M3) M3 else .ok (.bl false) M2
  | _ => .err
theorem chain_imp {op op' : CmpOp} {h h' : D → D → Mem → Option D} {k : Env → Mem → R D} {σ : St} {H : Hp} {Q : VK} (q : tG X.K (Rep X.K) W (fChain h h' f g k) σ H Q) :
    tChain (rO X.K h) (rO X.K h') (tG X.K (Rep X.K) W f) (tG X.K (Rep X.K) W g) (tG X.K (Rep X.K) W k) σ H Q := by
  obtain ⟨ι, ρ, M, hR, hP⟩ := q
  refine ⟨ι, ρ, M, hR, Post.imp (Post.bind (rel := Rep X.K) hP) ?_⟩
  rintro x H1 ⟨ι1, d, M1, e1, s1, r1, p1⟩
  refine ⟨ι1, ρ, M1, hR.ext e1 s1, Post.imp (Post.bind (rel := Rep X.K) p1) ?_⟩
  rintro y H2 ⟨ι2, b, M2, e2, s2, r2, p2⟩
  split at p2
  · rename_i c ec
    refine ⟨ι2, M2, d, b, .bl c, s2, r1.ext e2, r2, ec, fun ι3 H3 v e3 s3 r3 => ?_⟩
    cases r3
    refine ⟨c, rfl, ?_⟩
    have p3 := Post.later e3 p2
    cases c with
    | false => rw [if_neg Bool.false_ne_true] at p3 ⊢; exact p3.done s3 (.bl _)
    | true =>
      rw [if_pos rfl] at p3 ⊢
      refine ⟨ι3, ρ, M2, ((hR.ext e1 s1).ext e2 s2).ext e3 s3, Post.imp (Post.bind (rel := Rep X.K) p3) ?_⟩
      rintro z H4 ⟨ι4, dz, M4, e4, s4, r4, p4⟩
      cases eh : h' b dz M4 with
      | none => rw [eh] at p4; exact p4.elim
      | some dd =>
        rw [eh] at p4
        exact ⟨ι4, M4, b, dz, dd, s4, (r2.ext e3).ext e4, r4, eh, fun ι' H' v e' s' r' => p4.at e' s' r'⟩
  · exact p2.elim
theorem fe_chain {op op' : CmpOp} {h h' : D → D → Mem → Option D} {k : Env → Mem → R D} (ho : OpR X (compareOp op) (rO X.K h)) (ho' : OpR X (compareOp op') (rO X.K h')) (ha : FE X W a f) (hb : FE X W b g) (hc : FE X W c k)
    (hm : lastMarks [op, op'] [b, c] = false := by with_unfolding_all rfl) : FE X W (.Compare a [op, op'] [b, c] pos) (fChain h h' f g k) :=
  PE.imp (fun _ _ _ q => chain_imp (op := op) (op' := op') q) (pe_chain ho ho' ha hb hc hm)
theorem ft_chain {op op' : CmpOp} {h h' : D → D → Mem → Option D} {k : Env → Mem → R D} (ho : OpR X (compareOp op) (rO X.K h)) (ho' : OpR X (compareOp op') (rO X.K h')) (ha : FE X W a f) (hb : FE X W b g) (hc : FE X W c k)
    (hm : lastMarks [op, op'] [b, c] = false := by with_unfolding_all rfl) : FT X W (.Compare a [op, op'] [b, c] pos) (fB (fChain h h' f g k)) := by
  refine PT.imp (fun σ H Q q => ?_) (pt_chain ho ho' ha hb hc hm)
  obtain ⟨ι, ρ, M, hR, hP⟩ := q
  show tChain _ _ _ _ _ σ H _
  refine chain_imp (op := op) (op' := op') ⟨ι, ρ, M, hR, Post.imp (Post.bind (rel := Rep X.K) hP) ?_⟩
  rintro x H1 ⟨ι1, d, M1, e1, s1, r1, p1⟩
  cases r1 with
  | bl b => exact ⟨b, rfl, p1.done s1 rfl⟩
  | _ => exact p1.elim
end

/-! ### built-in functions -/
def hAbs : List D → Mem → R D := fun ds M => match ds with
  | [.int i] => .ok (.int (if i < 0 then -i else i)) M
  | _ => .err
def hMax2 : List D → Mem → R D := fun ds M => match ds with
  | [.int i, .int j] => .ok (.int (if j > i then j else i)) M
  | _ => .err
def hMin2 : List D → Mem → R D := fun ds M => match ds with
  | [.int i, .int j] => .ok (.int (if j < i then j else i)) M
  | _ => .err
def hInt : List D → Mem → R D := fun ds M => match ds with
  | [.int i] => .ok (.int i) M
  | [.bl b] => .ok (.int (if b then 1 else 0)) M
  | _ => .err
def hLen : List D → Mem → R D := fun ds M => match ds with
  | [.str x] => if x.length ≤ sizeLine then .ok (.int x.length) M else .err
  | [.tup xs] => .ok (.int xs.length) M
  | [d] => match asL M d with
    | some xs => .ok (.int xs.length) M
    | none => .err
  | _ => .err
def asInts : List D → Option (List Int)
  | [] => some []
  | .int i :: ds => match asInts ds with
    | some is => some (i :: is)
    | none => none
  | _ => none
def asBls : List D → Option (List Bool)
  | [] => some []
  | .bl i :: ds => match asBls ds with
    | some is => some (i :: is)
    | none => none
  | _ => none
def hSum : List D → Mem → R D := fun ds M => match ds with
  | [d] => match asL M d with
    | some xs => match asInts xs with
      | some ns => .ok (.int ns.sum) M
      | none => .err
    | none => .err
  | _ => .err
def hAll : List D → Mem → R D := fun ds M => match ds with
  | [d] => match asL M d with
    | some xs => match asBls xs with
      | some ns => .ok (.bl (ns.all id)) M
      | none => .err
    | none => .err
  | _ => .err
def hRepr : List D → Mem → R D := fun ds M => match ds with
  | [d] => match toPy M 40 d with
    | some p => if PyData.showable p = true ∧ p.shown.length ≤ sizeLine then .ok (.str p.shown) M else .err
    | none => .err
  | _ => .err
def hList : List D → Mem → R D := fun ds M => match ds with
  | [.tup xs] => .ok (.lst xs) M
  | [d] => match asL M d with
    | some xs => .ok (.lst xs) M
    | none => .err
  | _ => .err
def hListM : List D → Mem → R D := fun ds M => match ds with
  | [.tup xs] => newL true xs M
  | [d] => match asL M d with
    | some xs => newL true xs M
    | none => .err
  | _ => .err
theorem asInts_eq : ∀ {ds : List D} {ns : List Int}, asInts ds = some ns → ds = ns.map D.int
  | [], ns, h => by cases h; rfl
  | d :: ds, ns, h => by
    cases d <;> try (cases h; done)
    simp only [asInts] at h
    split at h
    · rename_i is e
      cases h
      rw [asInts_eq e]
      rfl
    · cases h
theorem asBls_eq : ∀ {ds : List D} {ns : List Bool}, asBls ds = some ns → ds = ns.map D.bl
  | [], ns, h => by cases h; rfl
  | d :: ds, ns, h => by
    cases d <;> try (cases h; done)
    simp only [asBls] at h
    split at h
    · rename_i is e
      cases h
      rw [asBls_eq e]
      rfl
    · cases h
theorem RepAll.bls {K : PySem.W.Frag} {ι : Io} {H : Hp} : ∀ {vs : List V} {ns : List Bool}, RepAll K H ι vs (ns.map D.bl) → vs = ns.map V.bl
  | _, [], .nil => rfl
  | _, n :: ns, .cons r t => by
    cases r
    rw [RepAll.bls t]
    rfl
theorem rep1 {K : PySem.W.Frag} {ι : Io} {H : Hp} {vs : List V} {d : D} (r : RepAll K H ι vs [d]) : ∃ v, vs = [v] ∧ Rep K H ι v d := by
  cases r with
  | cons r t => cases t; exact ⟨_, rfl, r⟩
theorem rep2 {K : PySem.W.Frag} {ι : Io} {H : Hp} {vs : List V} {d e : D} (r : RepAll K H ι vs [d, e]) : ∃ v u, vs = [v, u] ∧ Rep K H ι v d ∧ Rep K H ι u e := by
  cases r with
  | cons r t =>
    obtain ⟨u, rfl, q⟩ := rep1 t
    exact ⟨_, _, rfl, r, q⟩
section
variable {X : Cx}
theorem c_abs : CallR X (.builtin "abs") (rC X.K hAbs) := by
  intro pins s σ H xs us Q I r ⟨ι, ds, M, sm, ra, p⟩
  unfold hAbs at p
  split at p
  · obtain ⟨v, rfl, rv⟩ := rep1 ra
    cases rv
    exact call_abs pins s σ H _ us Q I r ⟨_, rfl, p.done sm (.int _)⟩
  · exact p.elim
theorem c_max2 (hc : X.calm = true) : CallR X (.builtin "max") (rC X.K hMax2) := by
  intro pins s σ H xs us Q I r ⟨ι, ds, M, sm, ra, p⟩
  unfold hMax2 at p
  split at p
  · obtain ⟨v, u, rfl, rv, ru⟩ := rep2 ra
    cases rv
    cases ru
    exact call_max2 hc pins s σ H _ us Q I r ⟨_, _, rfl, p.done sm (.int _)⟩
  · exact p.elim
theorem c_min2 (hc : X.calm = true) : CallR X (.builtin "min") (rC X.K hMin2) := by
  intro pins s σ H xs us Q I r ⟨ι, ds, M, sm, ra, p⟩
  unfold hMin2 at p
  split at p
  · obtain ⟨v, u, rfl, rv, ru⟩ := rep2 ra
    cases rv
    cases ru
    exact call_min2 hc pins s σ H _ us Q I r ⟨_, _, rfl, p.done sm (.int _)⟩
  · exact p.elim
theorem c_int : CallR X (.type "int") (rC X.K hInt) := by
  intro pins s σ H xs us Q I r ⟨ι, ds, M, sm, ra, p⟩
  unfold hInt at p
  split at p
  · obtain ⟨v, rfl, rv⟩ := rep1 ra
    cases rv
    exact call_int1 pins s σ H _ us Q I r (.inl ⟨_, rfl, p.done sm (.int _)⟩)
  · obtain ⟨v, rfl, rv⟩ := rep1 ra
    cases rv
    exact call_int1 pins s σ H _ us Q I r (.inr ⟨_, rfl, p.done sm (.int _)⟩)
  · exact p.elim
theorem c_len : CallR X (.builtin "len") (rC X.K hLen) := by
  intro pins s σ H xs us Q I r ⟨ι, ds, M, sm, ra, p⟩
  unfold hLen at p
  split at p
  · obtain ⟨v, rfl, rv⟩ := rep1 ra
    cases rv
    split at p
    · rename_i hz
      exact call_len pins s σ H _ us Q I r ⟨_, _, rfl, ⟨hz, rfl⟩, p.done sm (.int _)⟩
    · exact p.elim
  · obtain ⟨v, rfl, rv⟩ := rep1 ra
    cases rv with
    | tup n q rr => exact call_len pins s σ H _ us Q I r ⟨_, _, rfl, .inr ⟨_, SqT.of q, rfl⟩, by rw [rr.length]; exact p.done sm (.int _)⟩
  · obtain ⟨v, rfl, rv⟩ := rep1 ra
    split at p
    · rename_i zs h
      obtain ⟨a, ys, rfl, q, rr⟩ := list_of sm rv h
      exact call_len pins s σ H _ us Q I r ⟨_, _, rfl, .inl ⟨_, q, rfl⟩, by rw [rr.length]; exact p.done sm (.int _)⟩
    · exact p.elim
  · exact p.elim
theorem c_sum (hc : X.calm = true) : CallR X (.builtin "sum") (rC X.K hSum) := by
  intro pins s σ H xs us Q I r ⟨ι, ds, M, sm, ra, p⟩
  unfold hSum at p
  split at p
  · obtain ⟨v, rfl, rv⟩ := rep1 ra
    split at p
    · rename_i zs h
      split at p
      · rename_i ns hn
        obtain ⟨a, ys, rfl, q, rr⟩ := list_of sm rv h
        rw [asInts_eq hn] at rr
        rw [rr.ints] at q
        exact cr_sum hc pins s σ H _ us Q I r ⟨a, ns, rfl, q, p.done sm (.int _)⟩
      · exact p.elim
    · exact p.elim
  · exact p.elim
theorem c_all (hc : X.calm = true) : CallR X (.builtin "all") (rC X.K hAll) := by
  intro pins s σ H xs us Q I r ⟨ι, ds, M, sm, ra, p⟩
  unfold hAll at p
  split at p
  · obtain ⟨v, rfl, rv⟩ := rep1 ra
    split at p
    · rename_i zs h
      split at p
      · rename_i ns hn
        obtain ⟨a, ys, rfl, q, rr⟩ := list_of sm rv h
        rw [asBls_eq hn] at rr
        rw [rr.bls] at q
        exact cr_all hc pins s σ H _ us Q I r ⟨a, ns, rfl, q, p.done sm (.bl _)⟩
      · exact p.elim
    · exact p.elim
  · exact p.elim
theorem c_list : CallR X (.type "list") (rC X.K hList) := by
  intro pins s σ H xs us Q I r ⟨ι, ds, M, sm, ra, p⟩
  unfold hList at p
  split at p
  · obtain ⟨v, rfl, rv⟩ := rep1 ra
    cases rv with
    | tup n q rr => exact call_list_of pins s σ H _ us Q I r ⟨_, _, rfl, .inr (SqT.of q), fun l hl => newL_post (mt := false) p sm rr hl⟩
  · obtain ⟨v, rfl, rv⟩ := rep1 ra
    split at p
    · rename_i zs h
      obtain ⟨a, ys, rfl, q, rr⟩ := list_of sm rv h
      exact call_list_of pins s σ H _ us Q I r ⟨_, _, rfl, .inl q, fun l hl => newL_post (mt := false) p sm rr hl⟩
    · exact p.elim
  · exact p.elim
theorem c_listM : CallR X (.type "list") (rC X.K hListM) := by
  intro pins s σ H xs us Q I r ⟨ι, ds, M, sm, ra, p⟩
  unfold hListM at p
  split at p
  · obtain ⟨v, rfl, rv⟩ := rep1 ra
    cases rv with
    | tup n q rr => exact call_list_of pins s σ H _ us Q I r ⟨_, _, rfl, .inr (SqT.of q), fun l hl => newL_post (mt := true) p sm rr hl⟩
  · obtain ⟨v, rfl, rv⟩ := rep1 ra
    split at p
    · rename_i zs h
      obtain ⟨a, ys, rfl, q, rr⟩ := list_of sm rv h
      exact call_list_of pins s σ H _ us Q I r ⟨_, _, rfl, .inl q, fun l hl => newL_post (mt := true) p sm rr hl⟩
    · exact p.elim
  · exact p.elim
end
end Fx

set_option Elab.async false
set_option linter.all false
set_option maxRecDepth 100000
set_option maxHeartbeats 1000000
set_option autoImplicit false
/-! Fx8: repr; methods of lists; slices; what is walked; the law's end. -/
namespace Fx
open PySem PySem.Spec PyProof.Rows L2
/-! ### repr -/
theorem shown_ref {X : Cx} (hgd : X.A.guards = some []) (hu : X.A.units + 64 < cLine) {pins : List (Addr × Obj)} {s : Shared} {σ : St} {H : Hp} {Q : VK} (I : Inv X pins σ H s) {a : Addr} {p : PyData} (dp : Dp X.K H (.ref a) p) (h1 : p.canLay0 = true ∧ p.depth ≤ 40 ∧ p.hasDict = false)
    (hs : PyData.showable p = true) (hz : p.shown.length ≤ sizeLine) (q : Q (.str p.shown) H) : wpAny (model X.prog X.w) X.A (call (.builtin "repr") [.ref a]) (EP X pins σ Q) X.xe s := by
  obtain ⟨as, r⟩ := Dp.reads I p (.ref a) (.ref a) dp rfl
  exact repr_of_reads' r hs (fun z => by rw [h1.2.2] at z; cases z) hgd (by have := h1.2.1; omega) (fun _ _ e => e) (fun h' u tk k => ⟨.str p.shown, H, I.kept k, ⟨u, rfl⟩, q⟩) hz
theorem c_repr {X : Cx} (hgd : X.A.guards = some []) (hu : X.A.units + 64 < cLine) : CallR X (.builtin "repr") (rC X.K hRepr) := by
  intro pins s σ H xs us Q I r ⟨ι, ds, M, sm, ra, p⟩
  unfold hRepr at p
  split at p
  · rename_i d
    obtain ⟨v, rfl, rv⟩ := rep1 ra
    split at p
    · rename_i py hpy
      split at p
      · rename_i hs
        have ok := toPy_ok 40 d py hpy
        have dp := toPy_dp sm 40 v d py rv hpy
        have q : Q (.str py.shown) H := p.done sm (.str _)
        obtain ⟨u, rfl, ru⟩ := vals1 r
        cases dp with
        | non => cases ru; exact PySem.P.repr_of_none ⟨.str _, H, I.tok _, ⟨_, rfl⟩, q⟩
        | bl b => cases ru; exact PySem.P.repr_of_bool ⟨.str _, H, I.tok _, ⟨_, rfl⟩, q⟩
        | int i =>
          obtain ⟨t, rfl⟩ := ru
          exact PySem.P.repr_of_int (of_decide_eq_true hs.1) ⟨.str _, H, I.tok _, ⟨_, rfl⟩, q⟩
        | str x =>
          obtain ⟨t, rfl⟩ := ru
          exact PySem.P.repr_of_str ⟨.str _, H, I.tok _, ⟨_, rfl⟩, q⟩ hs.2
        | lst h1 h2 => cases ru; exact shown_ref hgd hu I (.lst h1 h2) ok hs.1 hs.2 q
        | tup h1 h2 => cases ru; exact shown_ref hgd hu I (.tup h1 h2) ok hs.1 hs.2 q
      · exact p.elim
    · exact p.elim
  · exact p.elim

/-! ### methods of built-in types -/
def rM (K : PySem.W.Frag) (h : D → List D → Mem → R D) : V → List V → Hp → VK → Prop := fun x xs H Q => ∃ ι a ds M, Sim K ι H M ∧ Rep K H ι x a ∧ RepAll K H ι xs ds ∧ Post K (Rep K) W0 ι H [] Q (h a ds M)
def fMth (ty : D → Mem → Bool) (h : D → List D → Mem → R D) (f : Env → Mem → R D) (g : Env → Mem → R (List D)) : Env → Mem → R D := fun ρ M => (f ρ M).bind fun a M1 => if ty a M1 = true then (g ρ M1).bind fun ds M2 => (h a ds M2).sure else .err
def TyD (K : PySem.W.Frag) (T : String) (ty : D → Mem → Bool) : Prop := ∀ ι H M v a, Sim K ι H M → Rep K H ι v a → ty a M = true → tyV K T v H
def isL (a : D) (M : Mem) : Bool := (asL M a).isSome
def isS (a : D) (_ : Mem) : Bool := match a with
  | .str _ => true
  | _ => false
theorem ty_list {K : PySem.W.Frag} : TyD K "list" isL := fun ι H M v a s r h => by
  unfold isL at h
  rw [Option.isSome_iff_exists] at h
  obtain ⟨ds, h⟩ := h
  obtain ⟨p, xs, rfl, q, _⟩ := list_of s r h
  exact .inl ⟨rfl, xs, q⟩
theorem ty_str {K : PySem.W.Frag} : TyD K "str" isS := fun ι H M v a s r h => by
  unfold isS at h
  split at h
  · cases r; rfl
  · cases h
section
variable {X : Cx} {W : WX} {o e : Expr} {es : List Expr} {name : Str} {apos cpos : Pos} {T id : String} {ty : D → Mem → Bool} {h : D → List D → Mem → R D} {f : Env → Mem → R D} {g : Env → Mem → R (List D)}
theorem fe_m (pa : PlainAttrs T) (slot : Slot T name id) (hty : typeOf (.builtin id) = pure (.type "method_descriptor")) (hm : MtR X id (rM X.K h)) (hT : TyD X.K T ty) (ho : FE X W o f) (ha : FA X W (e :: es) g)
    (hbase : attributeBase o name X.env (eval o X.env) = eval o X.env := by rfl)
    (hfew : ((backTo cpos (starEach (e :: es) X.env)).all (fun x => !x.1) && (backToKw cpos (keywordEach [] X.env)).all (fun x => x.1.isSome)
      && decide ((e :: es).length + ([] : List Keyword).length + (if ([] : List Keyword).isEmpty then 0 else 1) < 30)) = true := by rfl)
    (hline : (apos.endLine == cpos.line) = true := by rfl) (hs : starEach (e :: es) X.env = (false, eval e X.env) :: starEach es X.env := by rfl) (hplain : (backTo cpos (starEach es X.env)).any (·.1) = false := by rfl) :
    FE X W (.Call (.Attribute o name apos) (e :: es) [] cpos) (fMth ty h f g) :=
  fe_imp (pe_bm pa slot hty hm ho ha hbase hfew hline hs hplain) fun σ H Q ι ρ M hR hP => by
    refine ⟨ι, ρ, M, hR, Post.imp (Post.bind (rel := Rep X.K) hP) ?_⟩
    rintro x H1 ⟨ι1, a, M1, e1, s1, r1, p1⟩
    by_cases z : ty a M1 = true
    · rw [if_pos z] at p1
      refine ⟨hT ι1 H1 M1 x a s1 r1 z, ι1, ρ, M1, hR.ext e1 s1, Post.imp (Post.bind (rel := RepAll X.K) p1) ?_⟩
      rintro xs H2 ⟨ι2, ds, M2, e2, s2, r2, p2⟩
      exact ⟨ι2, a, ds, M2, s2, r1.ext e2, r2, p2.sure⟩
    · rw [if_neg z] at p1
      exact p1.elim
theorem fe_m0 (pa : PlainAttrs T) (slot : Slot T name id) (hty : typeOf (.builtin id) = pure (.type "method_descriptor")) (hm : MtR X id (rM X.K h)) (hT : TyD X.K T ty) (ho : FE X W o f)
    (hbase : attributeBase o name X.env (eval o X.env) = eval o X.env := by rfl) (hline : (apos.endLine == cpos.line) = true := by rfl) : FE X W (.Call (.Attribute o name apos) [] [] cpos) (fMth ty h f faN) :=
  fe_imp (pe_bm0 pa slot hty hm ho hbase hline) fun σ H Q ι ρ M hR hP => by
    refine ⟨ι, ρ, M, hR, Post.imp (Post.bind (rel := Rep X.K) hP) ?_⟩
    rintro x H1 ⟨ι1, a, M1, e1, s1, r1, p1⟩
    by_cases z : ty a M1 = true
    · rw [if_pos z] at p1
      exact ⟨hT ι1 H1 M1 x a s1 r1 z, ι1, a, [], M1, s1, r1, .nil, Post.sure p1⟩
    · rw [if_neg z] at p1
      exact p1.elim
/-- one of the things, a list, is written -/
theorem lst_write {K : PySem.W.Frag} {ι : Io} {H : Hp} {M : Mem} {n : Nat} {a : Addr} {ds : List D} {ys : List V} (s : Sim K ι H M) (e : ι.l[n]? = some a) (r : RepAll K H ι ys ds) : Ext ι H ι (upd H a (.lst ys)) ∧ Sim K ι (upd H a (.lst ys)) (M.set n (.lst ds)) := by
  have ew : Ext ι H ι (upd H a (.lst ys)) := Ext.write (List.mem_of_getElem? e) fun z => s.sep _ z (List.mem_of_getElem? e)
  exact ⟨ew, s.write e (.lst upd_same (r.ext ew))⟩
def hAppend : D → List D → Mem → R D := fun a bs M => match a, bs with
  | .ref n, [b] => match M[n]? with
    | some (.lst ds) => if ds.length < sizeLine then .ok .non (M.set n (.lst (ds ++ [b]))) else .err
    | _ => .err
  | _, _ => .err
theorem m_append : MtR X "list.append" (rM X.K hAppend) := by
  intro pins s σ H x xs v us Q I rx rxs ⟨ι, a, bs, M, sm, ra, rb, p⟩
  unfold hAppend at p
  split at p
  · rename_i n b
    split at p
    · rename_i ds eM
      split at p
      · rename_i hz
        obtain ⟨y, rfl, ry⟩ := rep1 rb
        cases ra with
        | ref ea =>
          cases sm.obj _ _ _ ea eM with
          | lst q r =>
            obtain ⟨ew, sw⟩ := lst_write sm ea (r.append (.cons ry .nil))
            exact mt_append pins s σ H _ _ v us Q I rx rxs ⟨_, _, y, rfl, rfl, q, by rw [r.length]; exact hz, p ι _ .non ew sw .non⟩
      · exact p.elim
    · exact p.elim
  · exact p.elim
def hPop : D → List D → Mem → R D := fun a bs M => match a, bs with
  | .ref n, [] => match M[n]? with
    | some (.lst ds) => match ds[ds.length - 1]? with
      | some y => .ok y (M.set n (.lst ds.dropLast))
      | none => .err
    | _ => .err
  | .ref n, [.int i] => match M[n]? with
    | some (.lst ds) => if -(2 ^ 63) ≤ i ∧ i < 2 ^ 63 then match seqIndex? i ds.length with
      | some k => match ds[k]? with
        | some y => .ok y (M.set n (.lst (ds.eraseIdx k)))
        | none => .err
      | none => .err else .err
    | _ => .err
  | _, _ => .err
theorem RepAll.dropLast {K : PySem.W.Frag} {ι : Io} {H : Hp} {vs : List V} {ds : List D} (r : RepAll K H ι vs ds) : RepAll K H ι vs.dropLast ds.dropLast := by
  rw [List.dropLast_eq_take, List.dropLast_eq_take, r.length]
  exact r.take _
theorem RepAll.eraseIdx {K : PySem.W.Frag} {ι : Io} {H : Hp} {vs : List V} {ds : List D} (r : RepAll K H ι vs ds) (k : Nat) : RepAll K H ι (vs.eraseIdx k) (ds.eraseIdx k) := by
  rw [List.eraseIdx_eq_take_drop_succ, List.eraseIdx_eq_take_drop_succ]
  exact (r.take _).append (r.drop _)
theorem m_pop : MtR X "list.pop" (rM X.K hPop) := by
  intro pins s σ H x xs v us Q I rx rxs ⟨ι, a, bs, M, sm, ra, rb, p⟩
  unfold hPop at p
  split at p
  · rename_i n
    split at p
    · rename_i ds eM
      split at p
      · rename_i y ey
        cases rb
        cases ra with
        | ref ea =>
          cases sm.obj _ _ _ ea eM with
          | lst q r =>
            obtain ⟨yv, hy, ry⟩ := r.get ey
            obtain ⟨ew, sw⟩ := lst_write sm ea r.dropLast
            exact mt_pop pins s σ H _ _ v us Q I rx rxs ⟨_, _, yv, rfl, rfl, q, by rw [r.length]; exact hy, p ι _ yv ew sw (ry.ext ew)⟩
      · exact p.elim
    · exact p.elim
  · rename_i n i
    split at p
    · rename_i ds eM
      split at p
      · rename_i hi
        split at p
        · rename_i k hk
          split at p
          · rename_i y ey
            obtain ⟨iv, rfl, ri⟩ := rep1 rb
            cases ri
            cases ra with
            | ref ea =>
              cases sm.obj _ _ _ ea eM with
              | lst q r =>
                obtain ⟨yv, hy, ry⟩ := r.get ey
                obtain ⟨ew, sw⟩ := lst_write sm ea (r.eraseIdx k)
                exact mt_popAt pins s σ H _ _ v us Q I rx rxs ⟨_, _, i, k, yv, rfl, rfl, q, hi.1, hi.2, by rw [r.length]; exact hk, hy, p ι _ yv ew sw (ry.ext ew)⟩
          · exact p.elim
        · exact p.elim
      · exact p.elim
    · exact p.elim
  · exact p.elim
end

/-! ### slices -/
def rOI (_ : Hp) (_ : Io) (b : Option Int) (a : Option Int) : Prop := b = a
abbrev FP (X : Cx) (W : WX) (e : Option Expr) (f : Env → Mem → R (Option Int)) : Prop := PO X e (tG X.K rOI W f)
def fpN : Env → Mem → R (Option Int) := fun _ M => .ok none M
def fpS (f : Env → Mem → R D) : Env → Mem → R (Option Int) := fun ρ M => (f ρ M).bind fun a M1 => match a with
  | .int i => .ok (some i) M1
  | _ => .err
theorem PO.imp {X : Cx} {e : Option Expr} {t t' : TO} (i : ∀ σ H Q, t' σ H Q → t σ H Q) (h : PO X e t) : PO X e t' := ⟨fun pins s σ H Q I q => h.run pins s σ H Q I (i σ H Q q)⟩
/-- the items of xs[lo:hi] -/
def cutD {α : Type} (xs : List α) (lo hi : Option Int) : List α := (xs.drop (HT.sIx xs.length 0 lo)).take (HT.sIx xs.length xs.length hi - HT.sIx xs.length 0 lo)
/-- the items of xs[lo:hi:st] -/
def pickD {α : Type} (xs : List α) (lo hi st : Option Int) : List α := (sliceRange (sliceBounds lo hi st xs.length).1 (sliceBounds lo hi st xs.length).2.1 (sliceBounds lo hi st xs.length).2.2).filterMap (xs[·]?)
def fSl (mt : Bool) (f : Env → Mem → R D) (lo hi : Env → Mem → R (Option Int)) : Env → Mem → R D := fun ρ M => (f ρ M).bind fun a M1 => (lo ρ M1).bind fun l M2 => (hi ρ M2).bind fun u M3 => match asL M3 a with
  | some ds => newL mt (cutD ds l u) M3
  | none => .err
def fSlS (mt : Bool) (f : Env → Mem → R D) (lo hi st : Env → Mem → R (Option Int)) : Env → Mem → R D := fun ρ M => (f ρ M).bind fun a M1 => (lo ρ M1).bind fun l M2 => (hi ρ M2).bind fun u M3 => (st ρ M3).bind fun t M4 => match asL M4 a with
  | some ds => if t ≠ some 0 then newL mt (pickD ds l u t) M4 else .err
  | none => .err
theorem RepAll.cut {K : PySem.W.Frag} {ι : Io} {H : Hp} {vs : List V} {ds : List D} (r : RepAll K H ι vs ds) (lo hi : Option Int) : RepAll K H ι (cutV vs lo hi) (cutD ds lo hi) := by
  unfold cutV cutD
  rw [r.length]
  exact (r.drop _).take _
theorem RepAll.pick {K : PySem.W.Frag} {ι : Io} {H : Hp} {vs : List V} {ds : List D} (r : RepAll K H ι vs ds) : ∀ l : List Nat, RepAll K H ι (l.filterMap (vs[·]?)) (l.filterMap (ds[·]?))
  | [] => .nil
  | n :: l => by
    rw [List.filterMap_cons, List.filterMap_cons]
    cases e : ds[n]? with
    | none =>
      have e2 : vs[n]? = none := by rw [List.getElem?_eq_none_iff] at e ⊢; rw [r.length]; exact e
      rw [e2]
      exact RepAll.pick r l
    | some d =>
      obtain ⟨v, hv, rv⟩ := r.get e
      rw [hv]
      exact .cons rv (RepAll.pick r l)
theorem vals_pick {vs : List V} {us : List Value} (r : Vals vs us) : ∀ l : List Nat, Vals (l.filterMap (vs[·]?)) (l.filterMap (us.toArray[·]?))
  | [] => .nil
  | n :: l => by
    rw [List.filterMap_cons, List.filterMap_cons]
    cases e : vs[n]? with
    | none =>
      have e2 : us.toArray[n]? = none := by simpa using r.none_of e
      rw [e2]
      exact vals_pick r l
    | some d =>
      obtain ⟨v, hv, rv⟩ := r.get e
      have e2 : us.toArray[n]? = some v := by simpa using hv
      rw [e2]
      exact .cons rv (vals_pick r l)
section
variable {X : Cx} {W : WX} {pos p2 : Pos} {e : Expr} {lo hi st : Option Expr} {f : Env → Mem → R D} {fl fh fs : Env → Mem → R (Option Int)}
theorem fp_none : FP X W none fpN := PO.imp (fun σ H Q ⟨ι, ρ, M, hR, hP⟩ => hP.done hR.sim rfl) po_none
theorem fp_some {a : Expr} {f : Env → Mem → R D} (h : FE X W a f) : FP X W (some a) (fpS f) := PO.imp (fun σ H Q ⟨ι, ρ, M, hR, hP⟩ => by
  refine ⟨ι, ρ, M, hR, Post.imp (Post.bind (rel := Rep X.K) hP) ?_⟩
  rintro x H1 ⟨ι1, a, M1, e1, s1, r1, p1⟩
  split at p1
  · cases r1; exact ⟨_, rfl, p1.done s1 rfl⟩
  · exact p1.elim) (po_some h)
theorem fe_sl (mt : Bool) (he : FE X W e f) (hl : FP X W lo fl) (hh : FP X W hi fh) : FE X W (.Subscript e (.Slice lo hi none p2) pos) (fSl mt f fl fh) :=
  fe_imp (pe_slice sl_list he hl hh) fun σ H Q ι ρ M hR hP => by
    refine ⟨ι, ρ, M, hR, Post.imp (Post.bind (rel := Rep X.K) hP) ?_⟩
    rintro x H1 ⟨ι1, a, M1, e1, s1, r1, p1⟩
    refine ⟨ι1, ρ, M1, hR.ext e1 s1, Post.imp (Post.bind (rel := rOI) p1) ?_⟩
    rintro l H2 ⟨ι2, _, M2, e2, s2, rfl, p2⟩
    refine ⟨ι2, ρ, M2, (hR.ext e1 s1).ext e2 s2, Post.imp (Post.bind (rel := rOI) p2) ?_⟩
    rintro u H3 ⟨ι3, _, M3, e3, s3, rfl, p3⟩
    split at p3
    · rename_i ds h
      obtain ⟨ad, xs, rfl, q, r⟩ := list_of s3 ((r1.ext e2).ext e3) h
      exact ⟨ad, xs, rfl, q, fun p hp => newL_post p3 s3 (r.cut _ _) hp⟩
    · exact p3.elim
theorem fe_slS (mt : Bool) {sx : Expr} (he : FE X W e f) (hl : FP X W lo fl) (hh : FP X W hi fh) (hst : FP X W (some sx) fs) : FE X W (.Subscript e (.Slice lo hi (some sx) p2) pos) (fSlS mt f fl fh fs) := by
  refine ⟨fun pins s σ H Q I ⟨ι, ρ, M, hR, hP⟩ => ?_⟩
  refine Subscript_ (thn (he.run pins s σ H _ I ⟨ι, ρ, M, hR, Post.bind (rel := Rep X.K) hP⟩) fun v s1 ⟨x, H1, I1, rx, ι1, a, M1, e1, s1', r1, p1⟩ => ?_)
  have R1 := hR.ext e1 s1'
  refine wpAny_Slice (thn (hl.run pins s1 σ H1 _ I1 ⟨ι1, ρ, M1, R1, Post.bind (rel := rOI) p1⟩) fun vl s2 ⟨l, H2, I2, pl, ι2, _, M2, e2, s2', el, p2⟩ => ?_)
  cases el
  have R2 := R1.ext e2 s2'
  refine thn (hh.run pins s2 σ H2 _ I2 ⟨ι2, ρ, M2, R2, Post.bind (rel := rOI) p2⟩) fun vu s3 ⟨u, H3, I3, pu, ι3, _, M3, e3, s3', eu, p3⟩ => ?_
  cases eu
  have R3 := R2.ext e3 s3'
  refine thn (hst.run pins s3 σ H3 _ I3 ⟨ι3, ρ, M3, R3, Post.bind (rel := rOI) p3⟩) fun vs s4 ⟨t, H4, I4, ps, ι4, _, M4, e4, s4', et, p4⟩ => ?_
  cases et
  have r4 := ((r1.ext e2).ext e3).ext e4
  cases h : asL M4 a with
  | none => rw [h] at p4; exact p4.elim
  | some ds =>
    rw [h] at p4
    dsimp only at p4
    by_cases ht : t ≠ some 0
    · rw [if_pos ht] at p4
      obtain ⟨ad, xs, rfl, q, r⟩ := list_of s4' r4 h
      cases rx
      have I5 : Inv X pins σ H4 { s4 with heap := s4.heap.push { cls := .type "slice", data := .fields #[vl, vu, vs] } } := I4.kept (t' := s4.toks) fun b ob z => Heap.get?_push_of_some _ z
      obtain ⟨its, rv, pl', hz⟩ := I5.list q
      have hlen := rv.length
      show wpAny _ _ (subscriptTail _ _ (.ref ad) (.ref s4.heap.objs.size)) _ _ _
      refine tail_any (ops := [.ref ad, .ref s4.heap.objs.size]) pl'.isList.typeIs PySem.slot_list_getitem.lookup ?_ (by with_unfolding_all rfl)
      refine wpAny_getItem_list_slice pl'.isList (Heap.IsSliceOf.new _ vl vu vs) pl pu ps ht ?_ (by rw [List.size_toArray]; omega)
      have hsz := slicePick_size_le its.toArray l u t
      have vp := vals_pick rv (sliceRange (sliceBounds l u t xs.length).1 (sliceBounds l u t xs.length).2.1 (sliceBounds l u t xs.length).2.2)
      have e1 : slicePick its.toArray l u t = ((sliceRange (sliceBounds l u t xs.length).1 (sliceBounds l u t xs.length).2.1 (sliceBounds l u t xs.length).2.2).filterMap (its.toArray[·]?)).toArray := by
        unfold slicePick
        rw [List.size_toArray, hlen]
      rw [e1]
      rw [e1, List.size_toArray] at hsz
      have e2 : pickD ds l u t = (sliceRange (sliceBounds l u t xs.length).1 (sliceBounds l u t xs.length).2.1 (sliceBounds l u t xs.length).2.2).filterMap (ds[·]?) := by
        unfold pickD
        rw [r.length]
      refine ⟨.ref _, _, I5.lnew vp ?_, rfl, newL_post p4 s4' (by rw [e2]; exact r.pick _) I5.fresh⟩
      rw [vp.length]
      rw [List.size_toArray] at hsz
      omega
    · rw [if_neg ht] at p4; exact p4.elim
end
end Fx

set_option Elab.async false
set_option linter.all false
set_option maxRecDepth 100000
set_option maxHeartbeats 1000000
set_option autoImplicit false
/-! Fx9: what is walked; the law's end. -/
namespace Fx
open PySem PySem.Spec PyProof.Rows L2
/-! ### lists, tuples -/
/-- the i-th item of a list, as it stands: nothing known, the end, the item -/
def getOf (d : D) (i : Nat) (M : Mem) : Option (Option D) := match d with
  | .lst ds => some ds[i]?
  | .klst ds => some ds[i]?
  | .ref n => match M[n]? with
    | some (.lst ds) => some ds[i]?
    | _ => none
  | _ => none
def srcL (d : D) (M : Mem) : Option Src := match d with
  | .lst ds => some (.items ds)
  | .klst ds => some (.items ds)
  | .ref n => match M[n]? with
    | some (.lst ds) => some (.gen (ds.length + 1) (getOf (.ref n)))
    | _ => none
  | _ => none
def fiL (f : Env → Mem → R D) : Env → Mem → R Src := fun ρ M => (f ρ M).bind fun d M1 => R.ofO (srcL d M1) M1
def fiT (f : Env → Mem → R D) : Env → Mem → R Src := fun ρ M => (f ρ M).bind fun d M1 => match d with
  | .tup ds => .ok (.items ds) M1
  | _ => .err
section
variable {K : PySem.W.Frag} {ι ι2 : Io} {H H2 : Hp} {M M2 : Mem}
theorem itl_at {a : Addr} {xs : List V} {ds : List D} {i : Nat} (q : SqL K H a xs) (r : RepAll K H ι xs ds) : GoesAt K (some ds[i]?) i (Itl K a) ι H := by
  refine ⟨fun z => ⟨xs, q, ?_⟩, fun d z => ?_⟩
  · have z' : ds[i]? = none := Option.some.inj z
    rw [List.getElem?_eq_none_iff] at z'
    rw [r.length]; exact z'
  · obtain ⟨v, hv, rv⟩ := r.get (Option.some.inj z)
    refine ⟨⟨xs, v, q, hv⟩, fun x H' y => ?_⟩
    obtain ⟨rfl, y2⟩ := y
    have e : x = v := Option.some.inj ((y2 xs q).symm.trans hv)
    subst e
    exact ⟨Same.refl _, rv⟩
theorem itt_at {a : Addr} {xs : List V} {ds : List D} {i : Nat} (q : SqT K H a xs) (r : RepAll K H ι xs ds) : GoesAt K (some ds[i]?) i (Itt K a) ι H := by
  refine ⟨fun z => ⟨xs, q, ?_⟩, fun d z => ?_⟩
  · have z' : ds[i]? = none := Option.some.inj z
    rw [List.getElem?_eq_none_iff] at z'
    rw [r.length]; exact z'
  · obtain ⟨v, hv, rv⟩ := r.get (Option.some.inj z)
    refine ⟨⟨xs, v, q, hv⟩, fun x H' y => ?_⟩
    obtain ⟨rfl, y2⟩ := y
    have e : x = v := Option.some.inj ((y2 xs q).symm.trans hv)
    subst e
    exact ⟨Same.refl _, rv⟩
/-- a value told as a list, later on: its list as it stands then -/
theorem get_later {a : Addr} {d : D} {i : Nat} {o : Option D} (r : Rep K H ι (.ref a) d) (e : Lat ι H ι2 H2) (s : Sim K ι2 H2 M2) (h : getOf d i M2 = some o) : ∃ xs ds, SqL K H2 a xs ∧ RepAll K H2 ι2 xs ds ∧ ds[i]? = o := by
  have r2 := Rep.later e r
  unfold getOf at h
  split at h
  · cases h
    cases r2 with
    | lst n q r => exact ⟨_, _, .inl q, r, rfl⟩
  · cases h
    cases r2 with
    | klst q r => exact ⟨_, _, .inr q, r, rfl⟩
  · split at h
    · rename_i eM
      cases h
      cases r2 with
      | ref ea =>
        cases s.obj _ _ _ ea eM with
        | lst q r => exact ⟨_, _, SqL.of q, r, rfl⟩
    · cases h
  · cases h
theorem itl_later {a : Addr} {d : D} {i : Nat} (r : Rep K H ι (.ref a) d) (e : Lat ι H ι2 H2) (s : Sim K ι2 H2 M2) : GoesAt K (getOf d i M2) i (Itl K a) ι2 H2 := by
  cases h : getOf d i M2 with
  | none =>
    unfold GoesAt
    exact ⟨fun z => (nomatch z), fun d z => (nomatch z)⟩
  | some o =>
    obtain ⟨xs, ds, q, r2, rfl⟩ := get_later r e s h
    exact itl_at q r2
theorem srcL_goes {v : V} {d : D} {sc : Src} (s : Sim K ι H M) (r : Rep K H ι v d) (h : srcL d M = some sc) : ∃ a xs, v = .ref a ∧ SqL K H a xs ∧ Goes K H ι (Itl K a) sc := by
  unfold srcL at h
  split at h
  · cases h
    cases r with
    | @lst a xs ds n q rr => exact ⟨a, _, rfl, .inl q, fun ι2 H2 M2 e s2 i => itl_later (i := i) (.lst n q rr) e s2⟩
  · cases h
    cases r with
    | @klst a xs ds q rr => exact ⟨a, _, rfl, .inr q, fun ι2 H2 M2 e s2 i => itl_later (i := i) (.klst q rr) e s2⟩
  · split at h
    · rename_i n ds eM
      cases h
      cases r with
      | @ref n a ea =>
        cases s.obj _ _ _ ea eM with
        | lst q rr => exact ⟨a, _, rfl, SqL.of q, fun ι2 H2 M2 e s2 i => itl_later (i := i) (.ref ea) e s2⟩
    · cases h
  · cases h
end
section
variable {X : Cx} {W : WX} {tg l : Expr} {f : Env → Mem → R D}
theorem fi_list (hl : FE X W l f) : FI X W tg l (fiL f) :=
  fi_imp (pi_list hl) fun σ H Q ι ρ M hR hP => by
    refine ⟨ι, ρ, M, hR, Post.imp (Post.bind (rel := Rep X.K) hP) ?_⟩
    rintro x H1 ⟨ι1, d, M1, e1, s1, r1, p1⟩
    cases h : srcL d M1 with
    | none => rw [h] at p1; exact p1.elim
    | some sc =>
      rw [h] at p1
      obtain ⟨a, xs, rfl, q, g⟩ := srcL_goes s1 r1 h
      exact ⟨a, rfl, ⟨xs, q⟩, p1.done s1 g⟩
theorem fi_tup (hl : FE X W l f) : FI X W tg l (fiT f) :=
  fi_imp (pi_tup hl) fun σ H Q ι ρ M hR hP => by
    refine ⟨ι, ρ, M, hR, Post.imp (Post.bind (rel := Rep X.K) hP) ?_⟩
    rintro x H1 ⟨ι1, d, M1, e1, s1, r1, p1⟩
    split at p1
    · cases r1 with
      | @tup a xs ds n q rr =>
        refine ⟨a, rfl, ⟨_, SqT.of q⟩, p1.done s1 fun ι2 H2 M2 e s2 i => ?_⟩
        exact itt_at (SqT.of (e.keep a _ n q)) (RepAll.later e rr)
    · exact p1.elim
end
/-! ### ranges -/
def rangeD (lo c : Int) (n : Nat) : List D := (List.range n).map fun (k : Nat) => .int (lo + (k : Int) * c)
theorem rangeD_at {lo c : Int} {n i : Nat} : (rangeD lo c n)[i]? = if i < n then some (.int (lo + (i : Int) * c)) else none := by
  unfold rangeD
  rw [List.getElem?_map]
  by_cases h : i < n
  · rw [List.getElem?_range h, if_pos h]; rfl
  · rw [List.getElem?_eq_none (by simpa using h), if_neg h]; rfl
instance {i j c : Int} {n : Nat} : Decidable (RgC i j c n) := inferInstanceAs (Decidable (_ ∧ _ ∧ _ ∧ _))
def hRange1 (ds : List D) : Option Src := match ds with
  | [.int j] => if -(2 ^ 62) ≤ j ∧ j < 2 ^ 62 then some (.items (rangeD 0 1 j.toNat)) else none
  | _ => none
def hRange2 (ds : List D) : Option Src := match ds with
  | [.int i, .int j] => if -(2 ^ 62) ≤ i ∧ i < 2 ^ 62 ∧ -(2 ^ 62) ≤ j ∧ j < 2 ^ 62 then some (.items (rangeD i 1 (j - i).toNat)) else none
  | _ => none
def hRange3 (ds : List D) : Option Src := match ds with
  | [.int i, .int j, .int c] => if RgC i j c (Builtin.Range.rangeSize i j c).toNat then some (.items (rangeD i c (Builtin.Range.rangeSize i j c).toNat)) else none
  | _ => none
def fiA (h : List D → Mem → Option Src) (fa : Env → Mem → R (List D)) : Env → Mem → R Src := fun ρ M => (fa ρ M).bind fun ds M1 => R.ofO (h ds M1) M1
theorem itr_goes {K : PySem.W.Frag} {ι : Io} {H : Hp} {lo : Int} {n : Nat} : Goes K H ι (Itr lo n) (.items (rangeD lo 1 n)) := by
  intro ι2 H2 M2 e s i
  rw [rangeD_at]
  refine ⟨fun z => ?_, fun d z => ?_⟩
  · by_cases h : i < n
    · rw [if_pos h] at z; cases z
    · exact Nat.le_of_not_lt h
  · by_cases h : i < n
    · rw [if_pos h] at z
      cases z
      refine ⟨h, fun x H' y => ?_⟩
      obtain ⟨rfl, rfl⟩ := y
      rw [Int.mul_one]
      exact ⟨Same.refl _, .int _⟩
    · rw [if_neg h] at z; cases z
theorem itc_goes {K : PySem.W.Frag} {ι : Io} {H : Hp} {lo c : Int} {n : Nat} : Goes K H ι (Itc lo c n) (.items (rangeD lo c n)) := by
  intro ι2 H2 M2 e s i
  rw [rangeD_at]
  refine ⟨fun z => ?_, fun d z => ?_⟩
  · by_cases h : i < n
    · rw [if_pos h] at z; cases z
    · exact Nat.le_of_not_lt h
  · by_cases h : i < n
    · rw [if_pos h] at z
      cases z
      refine ⟨h, fun x H' y => ?_⟩
      obtain ⟨rfl, rfl⟩ := y
      exact ⟨Same.refl _, .int _⟩
    · rw [if_neg h] at z; cases z
theorem rep3 {K : PySem.W.Frag} {ι : Io} {H : Hp} {vs : List V} {d e g : D} (r : RepAll K H ι vs [d, e, g]) : ∃ v u t, vs = [v, u, t] ∧ Rep K H ι v d ∧ Rep K H ι u e ∧ Rep K H ι t g := by
  cases r with
  | cons r t =>
    obtain ⟨u, t, rfl, q, q2⟩ := rep2 t
    exact ⟨_, _, _, rfl, r, q, q2⟩
section
variable {X : Cx} {W : WX} {tg a b c : Expr} {p pos : Pos} {fa : Env → Mem → R (List D)}
theorem fi_range1 (hg : Gl X "range") (hm : X.mg "range" = none) (ha : FA X W [a] fa) (hs : starEach [a] X.env = [(false, eval a X.env)] := by rfl) : FI X W tg (.Call (.Name "range" p) [a] [] pos) (fiA (fun ds _ => hRange1 ds) fa) :=
  fi_imp (pi_range1 hg hm ha hs) fun σ H Q ι ρ M hR hP => by
    refine ⟨ι, ρ, M, hR, Post.imp (Post.bind (rel := RepAll X.K) hP) ?_⟩
    rintro vs H1 ⟨ι1, ds, M1, e1, s1, r1, p1⟩
    unfold hRange1 at p1; dsimp only at p1
    split at p1
    · split at p1
      · rename_i hz
        obtain ⟨v, rfl, rv⟩ := rep1 r1
        cases rv
        exact ⟨_, rfl, hz.1, hz.2, p1.done s1 itr_goes⟩
      · exact p1.elim
    · exact p1.elim
theorem fi_range2 (hg : Gl X "range") (hm : X.mg "range" = none) (ha : FA X W [a, b] fa) (hs : starEach [a, b] X.env = [(false, eval a X.env), (false, eval b X.env)] := by rfl) (hs2 : starEach [b] X.env = [(false, eval b X.env)] := by rfl) : FI X W tg (.Call (.Name "range" p) [a, b] [] pos) (fiA (fun ds _ => hRange2 ds) fa) :=
  fi_imp (pi_range2 hg hm ha hs hs2) fun σ H Q ι ρ M hR hP => by
    refine ⟨ι, ρ, M, hR, Post.imp (Post.bind (rel := RepAll X.K) hP) ?_⟩
    rintro vs H1 ⟨ι1, ds, M1, e1, s1, r1, p1⟩
    unfold hRange2 at p1; dsimp only at p1
    split at p1
    · split at p1
      · rename_i hz
        obtain ⟨v, u, rfl, rv, ru⟩ := rep2 r1
        cases rv
        cases ru
        exact ⟨_, _, rfl, hz, p1.done s1 itr_goes⟩
      · exact p1.elim
    · exact p1.elim
theorem fi_range3 (hg : Gl X "range") (hm : X.mg "range" = none) (ha : FA X W [a, b, c] fa) (hs : starEach [a, b, c] X.env = (false, eval a X.env) :: starEach [b, c] X.env := by rfl) (hpl : (backTo pos (starEach [b, c] X.env)).any (·.1) = false := by rfl) : FI X W tg (.Call (.Name "range" p) [a, b, c] [] pos) (fiA (fun ds _ => hRange3 ds) fa) :=
  fi_imp (pi_range3 hg hm ha hs hpl) fun σ H Q ι ρ M hR hP => by
    refine ⟨ι, ρ, M, hR, Post.imp (Post.bind (rel := RepAll X.K) hP) ?_⟩
    rintro vs H1 ⟨ι1, ds, M1, e1, s1, r1, p1⟩
    unfold hRange3 at p1; dsimp only at p1
    split at p1
    · split at p1
      · rename_i hz
        obtain ⟨v, u, t, rfl, rv, ru, rt⟩ := rep3 r1
        cases rv
        cases ru
        cases rt
        exact ⟨_, _, _, _, rfl, hz, p1.done s1 itc_goes⟩
      · exact p1.elim
    · exact p1.elim
end
/-! ### enumerate, zip -/
def enumD : Nat → List D → List D
  | _, [] => []
  | i, d :: ds => .tup [.int i, d] :: enumD (i + 1) ds
theorem enumD_at : ∀ (ds : List D) (n i : Nat), (enumD n ds)[i]? = (ds[i]?).map fun d => .tup [.int ((n + i : Nat) : Int), d]
  | [], _, _ => by simp [enumD]
  | d :: ds, n, 0 => by simp [enumD]
  | d :: ds, n, i + 1 => by
    simp only [enumD, List.getElem?_cons_succ]
    rw [enumD_at ds (n + 1) i, show n + 1 + i = n + (i + 1) by omega]
def getE (d : D) (i : Nat) (M : Mem) : Option (Option D) := match getOf d i M with
  | some (some x) => some (some (.tup [.int (i : Nat), x]))
  | some none => some none
  | none => none
def hEnum (ds : List D) (M : Mem) : Option Src := match ds with
  | [.lst xs] => some (.items (enumD 0 xs))
  | [.klst xs] => some (.items (enumD 0 xs))
  | [.ref n] => match M[n]? with
    | some (.lst xs) => some (.gen (xs.length + 1) (getE (.ref n)))
    | _ => none
  | _ => none
def getZ (a b : D) (i : Nat) (M : Mem) : Option (Option D) := match getOf a i M, getOf b i M with
  | some (some x), some (some y) => some (some (.tup [x, y]))
  | some none, some _ => some none
  | some _, some none => some none
  | _, _ => none
def hZip (ds : List D) (M : Mem) : Option Src := match ds with
  | [.lst xs, .lst ys] => some (.items (List.zipWith (fun x y => .tup [x, y]) xs ys))
  | [a, b] => match asL M a, asL M b with
    | some xs, some ys => some (.gen (min xs.length ys.length + 1) (getZ a b))
    | _, _ => none
  | _ => none
section
variable {K : PySem.W.Frag} {ι ι2 : Io} {H H2 : Hp} {M M2 : Mem}
theorem ite_later {a : Addr} {d : D} {i : Nat} (r : Rep K H ι (.ref a) d) (e : Lat ι H ι2 H2) (s : Sim K ι2 H2 M2) : GoesAt K (getE d i M2) i (Ite K a) ι2 H2 := by
  unfold getE
  cases h : getOf d i M2 with
  | none => exact ⟨fun z => (nomatch z), fun d z => (nomatch z)⟩
  | some o =>
    obtain ⟨xs, ds, q, r2, ho⟩ := get_later r e s h
    cases o with
    | none =>
      refine ⟨fun _ => ⟨xs, q, ?_⟩, fun d z => (nomatch z)⟩
      rw [List.getElem?_eq_none_iff] at ho
      rw [r2.length]; exact ho
    | some x =>
      obtain ⟨v, hv, rv⟩ := r2.get ho
      refine ⟨fun z => (nomatch z), fun d z => ?_⟩
      cases z
      refine ⟨⟨xs, v, q, hv⟩, fun y H' hy => ?_⟩
      obtain ⟨T, x2, rfl, hT, rfl, h2⟩ := hy
      have ex : x2 = v := Option.some.inj ((h2 xs q).symm.trans hv)
      subst ex
      have sp := same_push (H := H2) (p := T) (o := HO.tup [.int (i : Nat), x2]) hT
      exact ⟨sp, .tup (s.fresh hT) upd_same (.cons (.int _) (.cons (rv.ext (Ext.same' sp)) .nil))⟩
theorem itz_later {a b : Addr} {d g : D} {i : Nat} (r : Rep K H ι (.ref a) d) (r' : Rep K H ι (.ref b) g) (e : Lat ι H ι2 H2) (s : Sim K ι2 H2 M2) : GoesAt K (getZ d g i M2) i (Itz K a b) ι2 H2 := by
  unfold getZ
  cases h : getOf d i M2 with
  | none =>
    cases getOf g i M2 with
    | none => exact ⟨fun z => (nomatch z), fun d z => (nomatch z)⟩
    | some o => cases o <;> exact ⟨fun z => (nomatch z), fun d z => (nomatch z)⟩
  | some o =>
    obtain ⟨xs, ds, q, r2, ho⟩ := get_later r e s h
    cases h' : getOf g i M2 with
    | none => cases o <;> exact ⟨fun z => (nomatch z), fun d z => (nomatch z)⟩
    | some o' =>
      obtain ⟨ys, gs, q', r2', ho'⟩ := get_later r' e s h'
      cases o with
      | none =>
        refine ⟨fun _ => ⟨xs, ys, q, q', .inl ?_⟩, fun d z => (nomatch z)⟩
        rw [List.getElem?_eq_none_iff] at ho
        rw [r2.length]; exact ho
      | some x =>
        cases o' with
        | none =>
          refine ⟨fun _ => ⟨xs, ys, q, q', .inr ?_⟩, fun d z => (nomatch z)⟩
          rw [List.getElem?_eq_none_iff] at ho'
          rw [r2'.length]; exact ho'
        | some y =>
          obtain ⟨v, hv, rv⟩ := r2.get ho
          obtain ⟨u, hu, ru⟩ := r2'.get ho'
          refine ⟨fun z => (nomatch z), fun d z => ?_⟩
          cases z
          refine ⟨⟨xs, ys, v, u, q, q', hv, hu⟩, fun t H' hy => ?_⟩
          obtain ⟨T, x2, y2, rfl, hT, rfl, h1, h2⟩ := hy
          have ex : x2 = v := Option.some.inj ((h1 xs q).symm.trans hv)
          have ey : y2 = u := Option.some.inj ((h2 ys q').symm.trans hu)
          subst ex ey
          have sp := same_push (H := H2) (p := T) (o := HO.tup [x2, y2]) hT
          exact ⟨sp, .tup (s.fresh hT) upd_same (.cons (rv.ext (Ext.same' sp)) (.cons (ru.ext (Ext.same' sp)) .nil))⟩
theorem enum_goes {vs : List V} {ds : List D} {sc : Src} (s : Sim K ι H M) (r : RepAll K H ι vs ds) (h : hEnum ds M = some sc) : ∃ a xs, vs = [.ref a] ∧ SqL K H a xs ∧ Goes K H ι (Ite K a) sc := by
  have items : ∀ {a : Addr} {d : D} {xs : List D}, Rep K H ι (.ref a) d → (∀ i M, getOf d i M = some xs[i]?) → Goes K H ι (Ite K a) (.items (enumD 0 xs)) := by
    intro a d xs r hd ι2 H2 M2 e s2 i
    have z := ite_later (i := i) r e s2
    unfold getE at z
    rw [hd] at z
    rw [enumD_at, Nat.zero_add]
    cases hx : xs[i]? with
    | none => rw [hx] at z; exact z
    | some x => rw [hx] at z; exact z
  unfold hEnum at h
  split at h
  · cases h
    obtain ⟨v, rfl, rv⟩ := rep1 r
    cases rv with
    | @lst a xs ds n q rr => exact ⟨a, _, rfl, .inl q, items (.lst n q rr) fun _ _ => rfl⟩
  · cases h
    obtain ⟨v, rfl, rv⟩ := rep1 r
    cases rv with
    | @klst a xs ds q rr => exact ⟨a, _, rfl, .inr q, items (.klst q rr) fun _ _ => rfl⟩
  · split at h
    · rename_i n xs eM
      cases h
      obtain ⟨v, rfl, rv⟩ := rep1 r
      cases rv with
      | @ref n a ea =>
        cases s.obj _ _ _ ea eM with
        | lst q rr => exact ⟨a, _, rfl, SqL.of q, fun ι2 H2 M2 e s2 i => ite_later (i := i) (.ref ea) e s2⟩
    · cases h
  · cases h
theorem zip_at (xs ys : List D) (i : Nat) : (List.zipWith (fun x y => D.tup [x, y]) xs ys)[i]? = match xs[i]?, ys[i]? with
    | some x, some y => some (.tup [x, y])
    | _, _ => none := by
  rw [List.getElem?_zipWith]
  cases xs[i]? <;> cases ys[i]? <;> rfl
theorem zip_goes {vs : List V} {ds : List D} {sc : Src} (s : Sim K ι H M) (r : RepAll K H ι vs ds) (h : hZip ds M = some sc) : ∃ a b xs ys, vs = [.ref a, .ref b] ∧ SqL K H a xs ∧ SqL K H b ys ∧ Goes K H ι (Itz K a b) sc := by
  unfold hZip at h
  split at h
  · rename_i xs ys
    cases h
    obtain ⟨v, u, rfl, rv, ru⟩ := rep2 r
    cases rv with
    | @lst a vs1 ds1 n q rr =>
      cases ru with
      | @lst b vs2 ds2 n' q' rr' =>
        refine ⟨a, b, _, _, rfl, .inl q, .inl q', fun ι2 H2 M2 e s2 i => ?_⟩
        have z := itz_later (i := i) (.lst n q rr) (.lst n' q' rr') e s2
        rw [zip_at]
        unfold getZ at z
        cases hx : xs[i]? with
        | none =>
          cases hy : ys[i]? with
          | none => simp only [getOf, hx, hy] at z; exact z
          | some y => simp only [getOf, hx, hy] at z; exact z
        | some x =>
          cases hy : ys[i]? with
          | none => simp only [getOf, hx, hy] at z; exact z
          | some y => simp only [getOf, hx, hy] at z; exact z
  · split at h
    · rename_i xs ys h1 h2
      cases h
      obtain ⟨v, u, rfl, rv, ru⟩ := rep2 r
      obtain ⟨a, vs1, rfl, q, _⟩ := list_of s rv h1
      obtain ⟨b, vs2, rfl, q', _⟩ := list_of s ru h2
      exact ⟨a, b, _, _, rfl, q, q', fun ι2 H2 M2 e s2 i => itz_later (i := i) rv ru e s2⟩
    · cases h
  · cases h
end
section
variable {X : Cx} {W : WX} {e e2 : Expr} {p pos tpos : Pos} {elts : List Expr} {kk : Nat} {fa : Env → Mem → R (List D)}
theorem fi_enum (hg : Gl X "enumerate") (hm : X.mg "enumerate" = none) (ha : FA X W [e] fa) (hs : starEach [e] X.env = [(false, eval e X.env)] := by rfl) : FI X W (.Tuple elts kk tpos) (.Call (.Name "enumerate" p) [e] [] pos) (fiA hEnum fa) :=
  fi_imp (pi_enum hg hm ha hs) fun σ H Q ι ρ M hR hP => by
    refine ⟨ι, ρ, M, hR, Post.imp (Post.bind (rel := RepAll X.K) hP) ?_⟩
    rintro vs H1 ⟨ι1, ds, M1, e1, s1, r1, p1⟩
    cases h : hEnum ds M1 with
    | none => rw [h] at p1; exact p1.elim
    | some sc =>
      rw [h] at p1
      obtain ⟨a, xs, rfl, q, g⟩ := enum_goes s1 r1 h
      exact ⟨a, xs, rfl, q, p1.done s1 g⟩
theorem fi_zip (hg : Gl X "zip") (hm : X.mg "zip" = none) (ha : FA X W [e, e2] fa) (hs : starEach [e, e2] X.env = (false, eval e X.env) :: starEach [e2] X.env := by rfl) (hpl : (backTo pos (starEach [e2] X.env)).any (·.1) = false := by rfl) :
    FI X W (.Tuple elts kk tpos) (.Call (.Name "zip" p) [e, e2] [] pos) (fiA hZip fa) :=
  fi_imp (pi_zip hg hm ha hs hpl) fun σ H Q ι ρ M hR hP => by
    refine ⟨ι, ρ, M, hR, Post.imp (Post.bind (rel := RepAll X.K) hP) ?_⟩
    rintro vs H1 ⟨ι1, ds, M1, e1, s1, r1, p1⟩
    cases h : hZip ds M1 with
    | none => rw [h] at p1; exact p1.elim
    | some sc =>
      rw [h] at p1
      obtain ⟨a, b, xs, ys, rfl, q, q', g⟩ := zip_goes s1 r1 h
      exact ⟨a, b, xs, ys, rfl, q, q', p1.done s1 g⟩
end
end Fx

set_option Elab.async false
set_option linter.all false
set_option maxRecDepth 100000
set_option maxHeartbeats 2000000
set_option autoImplicit false
/-! FxA: the law's own end: the promise of the law's def at the heap behind the top. -/
namespace Fx
open PySem PySem.Spec PyProof.Rows L2
/-- the script alone is told, or nothing -/
def Sole (K : PySem.W.Frag) (a : Addr) (u : HO) (H : Hp) : Prop := ∀ b o, H b = some o → b = a ∧ o = u ∧ K.lookup a = none
section
variable {P : Program} {w : World} {K : PySem.W.Frag} {mg mb : Str → Option Value} {s : Shared} {vs : List Value} {ns : List Int} {a : Addr} {H : Hp}
theorem Sole.none_of (h : Sole K a (.frz { cls := .type "list", data := .seq vs.toArray } (.lst (ns.map V.int))) H) {b : Addr} (n : b ≠ a) : H b = none := by
  cases q : H b with
  | none => rfl
  | some o => exact absurd (h b o q).1 n
theorem Sole.env (h : Sole K a (.frz { cls := .type "list", data := .seq vs.toArray } (.lst (ns.map V.int))) H) (KX : K.In s.heap) (g1 : s.heap.Ns mainGlobals mg) (g2 : s.heap.Ns builtinsNs mb) (g3 : ∀ x : Str, x ≠ "__name__" → mb x = bootBuiltins x)
    (lim : s.heap.NoLimit) (hg : s.gens = #[]) (ha : s.heap.get? a = some { cls := .type "list", data := .seq vs.toArray }) (hi : IntsAre vs ns) (hl : ns.length ≤ sizeLine) :
    ∃ base : Heap, K.In base ∧ base.Ns mainGlobals mg ∧ Env0 P w K mg base callerA [] s H := by
  have at_ : ∀ {c : Addr} {o : Obj}, s.heap.get? c = some o → H c = none → (hidT s.heap H).get? c = some o := hidT_get
  have free : ∀ {c : Addr} {m : Str → Option Value}, s.heap.Ns c m → H c = none := by
    intro c m hns
    by_cases e : c = a
    · obtain ⟨o, es, ep, h1, h2, _⟩ := hns
      rw [e, ha] at h1
      cases h1
      cases h2
    · exact h.none_of e
  have nsb : ∀ {c : Addr} {m : Str → Option Value}, s.heap.Ns c m → (hidT s.heap H).Ns c m := fun hns => by
    have f := free hns
    obtain ⟨o, es, ep, h1, rest⟩ := hns
    exact ⟨o, es, ep, at_ h1 f, rest⟩
  have kb : K.In (hidT s.heap H) := fun c o e => at_ (KX c o e) (by
    cases q : H c with
    | none => rfl
    | some u =>
      obtain ⟨rfl, _, n⟩ := h c u q
      rw [n] at e; cases e)
  obtain ⟨mc, l1, l2⟩ := lim
  refine ⟨hidT s.heap H, kb, nsb g1, ⟨rfl, ⟨kb, nsb g1, ⟨mb, nsb g2, g3⟩, ⟨mc, nsb l1, l2⟩⟩, fun c o e => of_hidT e, Nat.le_of_eq (hidT_size _ _), trivial, fun c hc => absurd (show c ∈ ([] : List Addr) from hc) (by simp), fun c o q => ?_, .of_eq hg⟩⟩
  obtain ⟨rfl, rfl, _⟩ := h c o q
  exact ⟨ha, by rw [List.length_map]; exact hl, vs, _, L2.vals_ints hi, ha⟩
/-- a law whose def promises True -/
theorem law_ends {k : Nat} {fa : Addr} {fd : FuncData} {x : Str} {sp : Sp} (KX : K.In s.heap) (g1 : s.heap.Ns mainGlobals mg) (g2 : s.heap.Ns builtinsNs mb) (g3 : ∀ x : Str, x ≠ "__name__" → mb x = bootBuiltins x) (lim : s.heap.NoLimit) (hg : s.gens = #[])
    (ha : s.heap.get? a = some { cls := .type "list", data := .seq vs.toArray }) (hi : IntsAre vs ns) (hl : ns.length ≤ sizeLine) (hr : Room k callerA)
    (F : ∀ base : Heap, K.In base → base.Ns mainGlobals mg → FnG P w K mg base k fa fd [x] sp) (hb : ∀ (s : Shared) (u : Value), BindsTo s fd ⟨[u], []⟩ [(x, u)])
    (hsp : ∀ H : Hp, SqL K H a (ns.map V.int) → sp [.ref a] H (fun v _ => v = .bl true) fun _ _ _ => False) :
    codeAny (model P w) callerA (.call (.ref fa) ⟨[.ref a], []⟩) (fun r s2 => r = .ok (.ret (.bool true)) ∧ OldK s.heap s2.heap ∧ s2.os = s.os ∧ AllBare s2.gens) s := by
  obtain ⟨H, hS, hq⟩ : ∃ H : Hp, Sole K a (.frz { cls := .type "list", data := .seq vs.toArray } (.lst (ns.map V.int))) H ∧ SqL K H a (ns.map V.int) := by
    cases hk : K.lookup a with
    | some o =>
      have e := (KX a o hk).symm.trans ha
      cases e
      exact ⟨fun _ => none, fun b o q => (nomatch q), .inr ⟨_, vs.toArray, _, hk, rfl, rfl, rfl, by rw [List.size_toArray, hi.length]; exact hl, by simpa using L2.vals_ints hi⟩⟩
    | none =>
      refine ⟨upd (fun _ => none) a (.frz { cls := .type "list", data := .seq vs.toArray } (.lst (ns.map V.int))), fun b o q => ?_, .inl (.inr ⟨_, upd_same⟩)⟩
      by_cases e : b = a
      · rw [e, upd_same] at q
        cases q
        exact ⟨e, rfl, hk⟩
      · rw [upd_ne e] at q; cases q
  obtain ⟨base, b1, b2, e0⟩ := hS.env (P := P) (w := w) KX g1 g2 g3 lim hg ha hi hl
  refine codeAny_mono ((F base b1 b2).run callerA [] s H ⟨[.ref a], []⟩ [.ref a] [.ref a] _ _ rfl hr e0 (hb s _) (.cons rfl .nil) (hsp H hq)) fun r s2 h => ?_
  match r, h with
  | .error e, h =>
    obtain ⟨_, _, _, _, _, _, _, _, _, _, _, _, z⟩ := h
    exact z.elim
  | .ok (.ret u), h =>
    obtain ⟨v, H2, os, bare, un, ok2, rv, qv⟩ := h
    cases (show v = .bl true from qv)
    cases (show u = Value.bool true from rv)
    refine ⟨rfl, OldK.of_keep fun b o e => ?_, os, bare⟩
    by_cases eb : b = a
    · subst eb
      cases q : H b with
      | none => exact un.keep b o e q (fun z => absurd (show b ∈ ([] : List Addr) from z) (by simp)) (by simp)
      | some u =>
        obtain ⟨_, rfl, _⟩ := hS b u q
        have z := ok2 b _ (un.frzs b _ _ q)
        rw [ha] at e
        cases e
        exact z.1
    · exact un.keep b o e (hS.none_of eb) (fun z => absurd (show b ∈ ([] : List Addr) from z) (by simp)) (by simp)
  | .ok .next, h => exact h.elim
  | .ok .brk, h => exact h.elim
  | .ok .cont, h => exact h.elim
end
theorem law_walk {l : PySem.W.OpenLaw} {n k : Nat} {q : Program} {loose : List Str} {XP : (Str → Option Value) → Heap → Prop} {YP : World → Heap → Prop} {d : DefRec} {K : Params → PySem.W.Frag} {g : Params → List D → Mem → R D} {x : Str}
    (hn : l.most = some n) (hn2 : n ≤ sizeLine) (hdf : d.params.defaults = []) (hr : Room k callerA) (hY : ∀ (w : World) (h : Heap), YP w h → (K w.params).In h)
    (F : ∀ (w : World) (mg : Str → Option Value) (fa : Addr) (h : Heap), (K w.params).In h → h.Ns mainGlobals mg → mg d.name = some (.ref fa) →
      ∃ fd : FuncData, (∀ (s : Shared) (u : Value), BindsTo s fd ⟨[u], []⟩ [(x, u)]) ∧ ∀ base : Heap, (K w.params).In base → base.Ns mainGlobals mg → FnG l.prog w (K w.params) mg base k fa fd [x] (spF (K w.params) (g w.params)))
    (hg : ∀ (p : Params) (ns : List Int) (sc : D), ns.length ≤ n → (sc = .lst (ns.map D.int) ∨ sc = .klst (ns.map D.int)) → ∃ M, g p [sc] [] = .ok (.bl true) M) : PySem.W.WalkO q loose XP YP l.row.toRowW d [] (fun f vs => PySem.call f vs) := by
  refine Att.attach_call hn hdf fun w s₀ s₁ mg mb fa o pm cd doc a vs ns G Y ho hd hcd hmg hobj hints hlen hgens => ?_
  have KX := hY w _ Y
  obtain ⟨fd, hb, hF⟩ := F w mg fa _ KX G.T.g hmg
  refine law_ends KX G.T.g G.T.b G.T.builtins G.T.nolimit hgens hobj hints (Nat.le_trans hlen hn2) hr hF hb fun H hS => ?_
  have s0 : Sim (K w.params) ⟨[], []⟩ H [] := ⟨rfl, List.nodup_nil, fun a ha => absurd ha List.not_mem_nil, fun a ha => absurd ha List.not_mem_nil, fun n a o e _ => (by simp at e)⟩
  have ri : RepAll (K w.params) H ⟨[], []⟩ (ns.map V.int) (ns.map D.int) := RepAll.ofInts ns
  have no : a ∉ (⟨[], []⟩ : Io) := fun z => by rcases z with z | z <;> cases z
  rcases hS with hS | hS
  · obtain ⟨M, e⟩ := hg w.params ns _ hlen (.inl rfl)
    refine ⟨⟨[], []⟩, [.lst (ns.map D.int)], [], s0, .cons (.lst no hS ri) .nil, ?_⟩
    rw [e]
    intro ι' H' v _ _ r
    cases r
    rfl
  · obtain ⟨M, e⟩ := hg w.params ns _ hlen (.inr rfl)
    refine ⟨⟨[], []⟩, [.klst (ns.map D.int)], [], s0, .cons (.klst hS ri) .nil, ?_⟩
    rw [e]
    intro ι' H' v _ _ r
    cases r
    rfl
end Fx

set_option Elab.async false
set_option linter.all false
set_option maxRecDepth 100000
set_option maxHeartbeats 2000000
set_option autoImplicit false
/-! FxB: a call closed off: the callee starts with nothing that changes; what it gives is told as it is. -/
namespace Fx
open PySem PySem.Spec PyProof.Rows L2
section
variable {K : PySem.W.Frag} {ι ι' ι1 ι2 : Io} {H H' : Hp} {M M' : Mem}
theorem fz_swap (n : Nat) (sub : ∀ {a : Addr}, a ∉ ι → a ∉ ι1) : ∀ (k : Nat) (v : V) (d d' : D), Rep K H ι v d → fz 0 [] k d = some d' → Rep K H ι1 v d' := by
  intro k
  induction k with
  | zero => intro v d d' r h; cases h
  | succ k ih =>
    intro v d d' r h
    cases r with
    | non => cases h; exact .non
    | bl b => cases h; exact .bl b
    | int i => cases h; exact .int i
    | str x => cases h; exact .str x
    | ty x => cases h; exact .ty x
    | adr a => cases h; exact .adr a
    | lst nm q r =>
      rw [fz_lst, Option.map_eq_some_iff] at h
      obtain ⟨ds', h1, rfl⟩ := h
      exact .lst (sub nm) q (RepAll.mapM ih r h1)
    | klst q r =>
      rw [fz_klst, Option.map_eq_some_iff] at h
      obtain ⟨ds', h1, rfl⟩ := h
      exact .klst q (RepAll.mapM ih r h1)
    | tup nm q r =>
      rw [fz_tup, Option.map_eq_some_iff] at h
      obtain ⟨ds', h1, rfl⟩ := h
      exact .tup (sub nm) q (RepAll.mapM ih r h1)
    | dic nm q l r =>
      rw [fz_dic, Option.map_eq_some_iff] at h
      obtain ⟨ds', h1, rfl⟩ := h
      exact .dic (sub nm) q l (RepAll.mapM ih r h1)
    | ins nm q l r =>
      rw [fz_ins, Option.map_eq_some_iff] at h
      obtain ⟨ds', h1, rfl⟩ := h
      exact .ins (sub nm) q l (RepAll.mapM ih r h1)
    | ref e =>
      rw [fz_ref] at h
      simp at h
theorem none_in (s : Sim K ι H M) {a : Addr} (h : a ∉ ι) : a ∉ (⟨[], ι.b⟩ : Io) := fun z => by
  rcases z with z | z
  · cases z
  · exact h (.inr z)
theorem ref_in (s : Sim K ι H M) {a : Addr} (h : a ∈ ι.l) : a ∉ (⟨[], ι.b⟩ : Io) := fun z => by
  rcases z with z | z
  · cases z
  · exact s.sep a z h
theorem fz_all (s : Sim K ι H M) : ∀ (k : Nat) (v : V) (d d' : D), Rep K H ι v d → fz 0 M k d = some d' → Rep K H ⟨[], ι.b⟩ v d' := by
  intro k
  induction k using Nat.strongRecOn with
  | ind k0 ih0 =>
  intro v d d' r h
  cases k0 with
  | zero => cases h
  | succ k =>
    have ih := ih0 k (Nat.lt_succ_self _)
    cases r with
    | non => cases h; exact .non
    | bl b => cases h; exact .bl b
    | int i => cases h; exact .int i
    | str x => cases h; exact .str x
    | ty x => cases h; exact .ty x
    | adr a => cases h; exact .adr a
    | lst nm q r =>
      rw [fz_lst, Option.map_eq_some_iff] at h
      obtain ⟨ds', h1, rfl⟩ := h
      exact .lst (none_in s nm) q (RepAll.mapM ih r h1)
    | klst q r =>
      rw [fz_klst, Option.map_eq_some_iff] at h
      obtain ⟨ds', h1, rfl⟩ := h
      exact .klst q (RepAll.mapM ih r h1)
    | tup nm q r =>
      rw [fz_tup, Option.map_eq_some_iff] at h
      obtain ⟨ds', h1, rfl⟩ := h
      exact .tup (none_in s nm) q (RepAll.mapM ih r h1)
    | dic nm q l r =>
      rw [fz_dic, Option.map_eq_some_iff] at h
      obtain ⟨ds', h1, rfl⟩ := h
      exact .dic (none_in s nm) q l (RepAll.mapM ih r h1)
    | ins nm q l r =>
      rw [fz_ins, Option.map_eq_some_iff] at h
      obtain ⟨ds', h1, rfl⟩ := h
      exact .ins (none_in s nm) q l (RepAll.mapM ih r h1)
    | @ref j a ea =>
      rw [fz_ref, if_neg (Nat.not_lt_zero j)] at h
      split at h
      · rename_i o eo
        cases s.obj j a o ea eo with
        | lst q r =>
          cases k with
          | zero => cases h
          | succ k =>
            rw [fz_lst, Option.map_eq_some_iff] at h
            obtain ⟨ds', h1, rfl⟩ := h
            exact .lst (ref_in s (List.mem_of_getElem? ea)) (.inl q) (RepAll.mapM (ih0 k (by omega)) r h1)
        | dic q l r =>
          cases k with
          | zero => cases h
          | succ k =>
            rw [fz_dic, Option.map_eq_some_iff] at h
            obtain ⟨ds', h1, rfl⟩ := h
            exact .dic (ref_in s (List.mem_of_getElem? ea)) q l (RepAll.mapM (ih0 k (by omega)) r h1)
        | ins q l r =>
          cases k with
          | zero => cases h
          | succ k =>
            rw [fz_ins, Option.map_eq_some_iff] at h
            obtain ⟨ds', h1, rfl⟩ := h
            exact .ins (ref_in s (List.mem_of_getElem? ea)) q l (RepAll.mapM (ih0 k (by omega)) r h1)
      · cases h
mutual
theorem Rep.swap0 {v : V} {d : D} (sub : ∀ {a : Addr}, a ∉ ι → a ∉ ι1) (hl : ι.l = []) (h : Rep K H ι v d) : Rep K H ι1 v d := by
  cases h with
  | non => exact .non
  | bl b => exact .bl b
  | int i => exact .int i
  | str x => exact .str x
  | ty n => exact .ty n
  | adr a => exact .adr a
  | lst n q r => exact .lst (sub n) q (RepAll.swap0 sub hl r)
  | klst q r => exact .klst q (RepAll.swap0 sub hl r)
  | tup n q r => exact .tup (sub n) q (RepAll.swap0 sub hl r)
  | dic n q l r => exact .dic (sub n) q l (RepAll.swap0 sub hl r)
  | ins n q l r => exact .ins (sub n) q l (RepAll.swap0 sub hl r)
  | ref h => rw [hl] at h; simp at h
theorem RepAll.swap0 {vs : List V} {ds : List D} (sub : ∀ {a : Addr}, a ∉ ι → a ∉ ι1) (hl : ι.l = []) (h : RepAll K H ι vs ds) : RepAll K H ι1 vs ds := by
  cases h with
  | nil => exact .nil
  | cons r t => exact .cons (Rep.swap0 sub hl r) (RepAll.swap0 sub hl t)
end
/-- told without any address -/
def flatD : D → Option D
  | .non => some .non
  | .bl b => some (.bl b)
  | .int i => some (.int i)
  | .str x => some (.str x)
  | .adr a => some (.adr a)
  | .ty n => some (.ty n)
  | _ => none
theorem flat_rep {v : V} {d d' : D} (r : Rep K H ι v d) (h : flatD d = some d') : Rep K H' ι' v d' := by
  cases r with
  | non => cases h; exact .non
  | bl b => cases h; exact .bl b
  | int i => cases h; exact .int i
  | str x => cases h; exact .str x
  | ty x => cases h; exact .ty x
  | adr a => cases h; exact .adr a
  | lst _ _ _ => cases h
  | klst _ _ => cases h
  | tup _ _ _ => cases h
  | dic _ _ _ _ => cases h
  | ins _ _ _ _ => cases h
  | ref _ => cases h
/-- what a closed call ends with, told at the caller's -/
def cloR (f : Mem → D → Option D) (M : Mem) : R D → R D
  | .ok d M' => match f M' d with
    | some d' => .ok d' M
    | none => .err
  | .exc (.ins C ns ds) M' => match ds.mapM (f M') with
    | some ds' => .exc (.ins C ns ds') M
    | none => .err
  | _ => .err
def clo (g : List D → Mem → R D) : List D → Mem → R D := fun ds M => match ds.mapM (fz 0 [] 64) with
  | some ds' => cloR (fun M' d => fz 0 M' 64 d) M (g ds' [])
  | none => match ds.mapM (fz 0 M 64) with
    | some ds' => cloR (fun _ d => flatD d) M (g ds' [])
    | none => .err
theorem sim_nil {b : List Addr} (hb : ∀ a ∈ b, ∃ o, H a = some o) : Sim K ⟨[], b⟩ H [] := ⟨rfl, List.nodup_nil, fun _ _ => List.not_mem_nil, hb, fun n a o e _ => by simp at e⟩
theorem ext_out {B : List Addr} (s : Sim K ι H M) (hB : ∀ a, a ∈ B → a ∈ ι) (e : Ext ⟨[], B⟩ H ι' H') : Ext ι H ι H' ∧ Sim K ι H' M := by
  have keep : ∀ a o, H a = some o → H' a = some o := fun a o q => by
    by_cases hb : a ∈ B
    · exact e.kb a hb o q
    · exact e.keep a o (fun z => by rcases z with z | z; · cases z
                                    · exact hb z) q
  have e0 : Ext ι H ι H' := ⟨⟨List.prefix_refl _, fun _ h n => absurd h n, fun a o _ q => keep a o q⟩, rfl, fun a _ o q => keep a o q⟩
  refine ⟨e0, s.len, s.nd, s.sep, fun a ha => ?_, fun n a o e1 e2 => ?_⟩
  · obtain ⟨o, q⟩ := s.ban a ha
    exact ⟨o, keep a o q⟩
  · cases s.obj n a o e1 e2 with
    | lst q r => exact .lst (keep _ _ q) (r.ext e0)
    | dic q l r => exact .dic (keep _ _ q) l (r.ext e0)
    | ins q l r => exact .ins (keep _ _ q) l (r.ext e0)
theorem cloR_post {W : WX} {σ : St} {Q : VK} {B : List Addr} {f : Mem → D → Option D} {r : R D} (s : Sim K ι H M) (hB : ∀ a, a ∈ B → a ∈ ι)
    (hf : ∀ ι' H' M', Ext ⟨[], B⟩ H ι' H' → Sim K ι' H' M' → ∀ v d d', Rep K H' ι' v d → f M' d = some d' → Rep K H' ι v d')
    (hn : ∀ a ∈ ι, a ∉ B → ∃ o, H a = some o ∧ ∀ fs, o ≠ .xd fs)
    (h : Post K (Rep K) W ι H σ Q (cloR f M r)) : Post K (Rep K) W ⟨[], B⟩ H σ Q r := by
  cases r with
  | err => exact h
  | ok d M' =>
    intro ι' H' v e s' r
    unfold cloR at h
    dsimp only at h
    split at h
    · rename_i d' ed
      obtain ⟨e2, s2⟩ := ext_out s hB e
      exact h ι H' v e2 s2 (hf ι' H' M' e s' v d d' r ed)
    · exact h.elim
  | exc x M' =>
    intro ι' H' c o e s' r
    obtain ⟨e2, s2⟩ := ext_out s hB e
    cases r with
    | bare => exact h ι H' _ o e2 s2 .bare
    | @full C dd ns xs ds n q l r =>
      unfold cloR at h
      dsimp only at h
      split at h
      · rename_i ds' ed
        refine h ι H' _ _ e2 s2 (.full (fun z => ?_) q l (RepAll.mapM (hf ι' H' M' e s') r ed))
        by_cases hb : dd ∈ B
        · exact n (.inr (by rw [e.same]; exact hb))
        · obtain ⟨o, eo, no⟩ := hn dd z hb
          have eo' : H' dd = some o := by
            by_cases hb2 : dd ∈ (⟨[], B⟩ : Io)
            · rcases hb2 with z2 | z2
              · cases z2
              · exact absurd z2 hb
            · exact e.keep dd o hb2 eo
          rw [eo'] at q
          exact no _ (Option.some.inj q)
      · exact h.elim
theorem clo_post {W : WX} {σ : St} {Q : VK} {g : List D → Mem → R D} {vs : List V} {ds : List D} (s : Sim K ι H M) (r : RepAll K H ι vs ds) (h : Post K (Rep K) W ι H σ Q (clo g ds M)) :
    ∃ ι0 ds0, Sim K ι0 H [] ∧ RepAll K H ι0 vs ds0 ∧ Post K (Rep K) W ι0 H σ Q (g ds0 []) := by
  have there : ∀ a ∈ ι, ∃ o, H a = some o := fun a ha => s.there ha
  unfold clo at h
  split at h
  · rename_i ds' ed
    have nin : ∀ {a : Addr}, a ∉ ι ↔ a ∉ (⟨[], ι.l ++ ι.b⟩ : Io) := by
      intro a
      simp [Io.mem]
    refine ⟨⟨[], ι.l ++ ι.b⟩, ds', sim_nil fun a ha => there a (by rw [List.mem_append] at ha; exact ha), RepAll.mapM (fun v d d' r e => fz_swap 0 (fun {a} => nin.1) 64 v d d' r e) r ed, ?_⟩
    refine cloR_post s (fun a ha => by rw [List.mem_append] at ha; exact ha) (fun ι' H' M' e s' v d d' r ed => ?_) (fun a ha hb => ?_) h
    · exact Rep.swap0 (fun {a} => nin.2) rfl (fz_rep s' e 0 rfl 64 v d d' r ed)
    · exact absurd (List.mem_append.mpr ha) hb
  · split at h
    · rename_i ds' ed
      refine ⟨⟨[], ι.b⟩, ds', sim_nil s.ban, RepAll.mapM (fz_all s 64) r ed, ?_⟩
      refine cloR_post s (fun a ha => .inr ha) (fun ι' H' M' e s' v d d' r ed => flat_rep r ed) (fun a ha hb => ?_) h
      rcases ha with z | z
      · obtain ⟨n, hn, en⟩ := List.mem_iff_getElem.mp z
        have en' : ι.l[n]? = some a := by rw [List.getElem?_eq_getElem hn, en]
        have hm : n < M.length := by rw [← s.len]; exact hn
        obtain ⟨dn, hd⟩ : ∃ d, M[n] = d := ⟨_, rfl⟩
        have ob := s.obj n a dn en' (by rw [List.getElem?_eq_getElem hm, hd])
        cases ob with
        | lst q r => exact ⟨_, q, fun fs z => by cases z⟩
        | dic q l r => exact ⟨_, q, fun fs z => by cases z⟩
        | ins q l r => exact ⟨_, q, fun fs z => by cases z⟩
      · exact absurd z hb
    · exact h.elim
end
section
variable {P : Program} {w : World} {K : PySem.W.Frag} {mg : Str → Option Value} {base : Heap} {f : Addr} {fd : FuncData} {ps : List Str} {k : Nat} {g : List D → Mem → R D}
theorem fn_clo (G : FnG P w K mg base k f fd ps (spF K g)) : FnG P w K mg base k f fd ps (spF K (clo g)) := by
  have down : ∀ vs H Q E, spF K (clo g) vs H Q E → spF K g vs H Q E := fun vs H Q E ⟨ι, ds, M, s, r, h⟩ => by
    obtain ⟨ι0, ds0, s0, r0, h0⟩ := clo_post s r h
    exact ⟨ι0, ds0, [], s0, r0, h0⟩
  exact ⟨fun vs H Q E h => G.len vs H Q E (down vs H Q E h), fun A outer s H args us vs Q E a b c d e h => G.run A outer s H args us vs Q E a b c d e (down vs H Q E h)⟩
end
end Fx

set_option Elab.async false
set_option linter.all false
set_option maxRecDepth 100000
set_option maxHeartbeats 2000000
set_option autoImplicit false
/-! FxC: isinstance; what the top has written. -/
namespace Fx
open PySem PySem.Spec PyProof.Rows L2
section
variable {X : Cx}
theorem takes_w0 : Takes X W0 := fun _ _ ⟨_, _, _, _, _, _, _, _, _, _, _, _, _, _, _, _, w⟩ => w.elim
/-- the type of a thing -/
def tyO : D → Option String
  | .non => some "NoneType"
  | .bl _ => some "bool"
  | .int _ => some "int"
  | .str _ => some "str"
  | .lst _ => some "list"
  | .klst _ => some "list"
  | .tup _ => some "tuple"
  | .dic _ _ => some "dict"
  | _ => none
def tyD (M : Mem) : D → Option String
  | .ref n => match M[n]? with
    | some (.lst _) => some "list"
    | some (.dic _ _) => some "dict"
    | _ => none
  | d => tyO d
def tyNames : List String := ["int", "bool", "list", "str", "tuple", "dict"]
def subT (n t : String) : Bool := n == t || (n == "bool" && t == "int")
theorem kit_tab : ∀ n ∈ "NoneType" :: tyNames, ∀ t ∈ tyNames, kitB n t = some (subT n t) := by decide +kernel
def hIsi : List D → Mem → R D
  | [x, .ty t], M => match tyD M x with
    | some n => if tyNames.contains t = true then .ok (.bl (subT n t)) M else .err
    | none => .err
  | _, _ => .err
theorem ty_of {K : PySem.W.Frag} {ι : Io} {H : Hp} {M : Mem} {v : V} {d : D} {n : String} (s : Sim K ι H M) (r : Rep K H ι v d) (h : tyD M d = some n) : TyX K H v (.type n) ∧ n ∈ "NoneType" :: tyNames := by
  cases r with
  | non => cases h; exact ⟨.base .non, by decide⟩
  | bl b => cases h; exact ⟨.base (.bl b), by decide⟩
  | int i => cases h; exact ⟨.base (.int i), by decide⟩
  | str x => cases h; exact ⟨.base (.str x), by decide⟩
  | ty x => cases h
  | adr a => cases h
  | lst nm q r =>
    cases h
    rcases q with q | ⟨o, q⟩
    · exact ⟨.base (.lst q), by decide⟩
    · exact ⟨.base (.frz q), by decide⟩
  | klst q r =>
    cases h
    obtain ⟨o, its, n, k, c, _⟩ := q
    exact ⟨.kList k c, by decide⟩
  | tup nm q r => cases h; exact ⟨.base (.tup q), by decide⟩
  | dic nm q l r => cases h; exact ⟨.base (.dK q), by decide⟩
  | ins nm q l r => cases h
  | @ref j a e =>
    have h : (match M[j]? with
      | some (.lst _) => some "list"
      | some (.dic _ _) => some "dict"
      | _ => none) = some n := h
    split at h
    · rename_i ds eo
      cases h
      cases s.obj j a _ e eo with
      | lst q r => exact ⟨.base (.lst q), by decide⟩
    · rename_i ks ds eo
      cases h
      cases s.obj j a _ e eo with
      | dic q l r => exact ⟨.base (.dK q), by decide⟩
    · cases h
theorem c_isi : CallR X (.builtin "isinstance") (rC X.K hIsi) := by
  intro pins s σ H xs us Q I r ⟨ι, ds, M, sm, ra, p⟩
  unfold hIsi at p
  split at p
  · rename_i x t
    obtain ⟨v, u, rfl, rv, ru⟩ := rep2 ra
    cases ru
    split at p
    · rename_i n hn
      split at p
      · rename_i ht
        obtain ⟨tx, nm⟩ := ty_of sm rv hn
        exact call_isi pins s σ H _ us Q I r ⟨v, .ty t, .type n, .type t, subT n t, rfl, .ty t, tx, kit_ty (kit_tab n nm t (by simpa using ht)), p.done sm (.bl _)⟩
      · exact p.elim
    · exact p.elim
  · exact p.elim
end
section
variable {K : PySem.W.Frag} {x qual : Str} {f : Addr} {oc : Value} {od an : Option Addr} {osl : Array (Option Value)} {dV kV doc pm cdv ct : Value} {st : Stmt} {ps : List Str}
/-- a def as it stands behind the top: without defaults, with -/
theorem fd_mk (l : K.lookup f = some ⟨oc, od, .func (PySem.W.fnOf x qual (defArgs st) (defBody st) (defScope st) .none kV doc pm an cdv ct), osl⟩) (c : PySem.W.codeIn K cdv qual = true) (k : PySem.W.keepIn K (.ref f) = true) :
    FunD K x qual (defArgs st) (defBody st) (defScope st) [] [] f (PySem.W.fnOf x qual (defArgs st) (defBody st) (defScope st) .none kV doc pm an cdv ct) :=
  ⟨⟨oc, od, .none, kV, doc, pm, an, cdv, ct, osl, rfl, l, c, .inl ⟨rfl, rfl⟩, .inl rfl⟩, k⟩
theorem fd_mkD {T : Addr} {oT : Value} {dT : Option Addr} {nT : Nat} {sT : Array (Option Value)} (dvs : List V) (its : List Value) (l : K.lookup f = some ⟨oc, od, .func (PySem.W.fnOf x qual (defArgs st) (defBody st) (defScope st) (.ref T) kV doc pm an cdv ct), osl⟩) (c : PySem.W.codeIn K cdv qual = true) (k : PySem.W.keepIn K (.ref f) = true)
    (d : K.lookup T = some ⟨oT, dT, .seq its.toArray nT, sT⟩) (hv : Vals dvs its) (hn : dvs ≠ []) :
    FunD K x qual (defArgs st) (defBody st) (defScope st) dvs [] f (PySem.W.fnOf x qual (defArgs st) (defBody st) (defScope st) (.ref T) kV doc pm an cdv ct) :=
  ⟨⟨oc, od, .ref T, kV, doc, pm, an, cdv, ct, osl, rfl, l, c, .inr ⟨hn, T, _, its, nT, rfl, d, rfl, hv⟩, .inl rfl⟩, k⟩
end
/-- a def that may be called: with so many arguments that dvs is put behind them -/
structure Cal (P : Program) (w : World) (K : PySem.W.Frag) (mg : Str → Option Value) (base : Heap) (k : Nat) (x : Str) (ps : List Str) (dvs : List V) (g : List D → Mem → R D) : Prop where
  ex : ∃ (f : Addr) (fd : FuncData) (us : List Value), FnG P w K mg base k f fd ps (spF K g) ∧ mg x = some (.ref f) ∧ PySem.W.keepIn K (.ref f) = true ∧ Binds K fd ps us ∧ Vals dvs us
theorem Cal.mono {P : Program} {w : World} {K : PySem.W.Frag} {mg : Str → Option Value} {base : Heap} {j k : Nat} {x : Str} {ps : List Str} {dvs : List V} {g : List D → Mem → R D} (c : Cal P w K mg base j x ps dvs g) (h : j ≤ k) : Cal P w K mg base k x ps dvs g := by
  obtain ⟨f, fd, us, G, r⟩ := c.ex
  exact ⟨f, fd, us, G.mono h, r⟩
section
variable {X : Cx} {W : WX} {pos p : Pos} {k : Nat} {ps : List Str} {x : Str} {dvs : List V} {dds : List D} {g : List D → Mem → R D} {e : Expr} {es : List Expr} {fa : Env → Mem → R (List D)}
theorem fe_cal (tk : Takes X W) (C : Cal X.prog X.w X.K X.mg X.base k x ps dvs g) (hgd : X.A.guards = some []) (hr : Room k X.A) (hg : Gl X x) (hdd : Dfl X.K dvs dds)
    (ha : FA X W (e :: es) fa) (hdb : (x == ("__debug__" : Str)) = false := by decide) (he : starEach (e :: es) X.env = (false, eval e X.env) :: starEach es X.env := by rfl) (hpl : (backTo pos (starEach es X.env)).any (·.1) = false := by rfl) :
    FE X W (.Call (.Name x p) (e :: es) [] pos) (fCall g dds fa) := by
  obtain ⟨f, fd, us, G, hm, hk, hb, hd⟩ := C.ex
  exact fe_call tk G hgd hr hg hm hk hb hd hdd ha hdb he hpl
theorem fe_cal0 (tk : Takes X W) (C : Cal X.prog X.w X.K X.mg X.base k x ps dvs g) (hgd : X.A.guards = some []) (hr : Room k X.A) (hg : Gl X x) (hdd : Dfl X.K dvs dds)
    (hdb : (x == ("__debug__" : Str)) = false := by decide) : FE X W (.Call (.Name x p) [] [] pos) (fCall g dds faN) := by
  obtain ⟨f, fd, us, G, hm, hk, hb, hd⟩ := C.ex
  exact fe_call0 tk G hgd hr hg hm hk hb hd hdd hdb
end
theorem hu_rm {k : Nat} {A : Around} (r : Room k A) : A.units + 64 < cLine := by
  have := r.un
  omega
end Fx

set_option Elab.async false
set_option linter.all false
set_option maxRecDepth 100000
set_option maxHeartbeats 2000000
set_option autoImplicit false
/-! FxD: calls of defs with keywords. -/
namespace Fx
open PySem PySem.Spec PyProof.Rows L2
abbrev FKw (X : Cx) (W : WX) (kws : List Keyword) (f : Env → Mem → R (List D)) : Prop := PK X kws (tG X.K (RepAll X.K) W f)
theorem PK.imp {X : Cx} {kws : List Keyword} {t t' : TA} (i : ∀ σ H Q, t' σ H Q → t σ H Q) (h : PK X kws t) : PK X kws t' := ⟨fun pos pins s σ H Q I q => h.run pos pins s σ H Q I (i σ H Q q)⟩
/-- a def that may be called with keywords: gD puts the positional values and those of the keywords in the order of the parameters -/
structure CalK (P : Program) (w : World) (K : PySem.W.Frag) (mg : Str → Option Value) (base : Heap) (k : Nat) (x : Str) (ps ks : List Str) (gD : List D → List D → List D) (g : List D → Mem → R D) : Prop where
  ex : ∃ (f : Addr) (fd : FuncData) (gU : List Value → List Value → List Value) (gV : List V → List V → List V), FnG P w K mg base k f fd ps (spF K g) ∧ mg x = some (.ref f) ∧ PySem.W.keepIn K (.ref f) = true ∧ KBinds K fd ps ks gU gV ∧
    ∀ (H : Hp) (ι : Io) (vs zs : List V) (ds es : List D), RepAll K H ι vs ds → RepAll K H ι zs es → RepAll K H ι (gV vs zs) (gD ds es)
theorem CalK.mono {P : Program} {w : World} {K : PySem.W.Frag} {mg : Str → Option Value} {base : Heap} {j k : Nat} {x : Str} {ps ks : List Str} {gD : List D → List D → List D} {g : List D → Mem → R D} (c : CalK P w K mg base j x ps ks gD g) (h : j ≤ k) : CalK P w K mg base k x ps ks gD g := by
  obtain ⟨f, fd, gU, gV, G, r⟩ := c.ex
  exact ⟨f, fd, gU, gV, G.mono h, r⟩
section
variable {X : Cx} {W : WX} {pos p kpos : Pos} {k : Nat} {f : Addr} {fd : FuncData} {ps ks : List Str} {x : Str} {g : List D → Mem → R D} {gD : List D → List D → List D} {e : Expr} {es : List Expr} {kws : List Keyword} {nm : Option Str} {fe : Env → Mem → R D} {fa fk : Env → Mem → R (List D)}
theorem fk_nil : FKw X W [] faN := PK.imp (fun σ H Q ⟨ι, ρ, M, hR, hP⟩ => hP.done hR.sim .nil) pk_nil
theorem fk_cons (ha : FE X W e fe) (hr : FKw X W kws fk) : FKw X W (⟨nm, e, kpos⟩ :: kws) (faC fe fk) :=
  PK.imp (fun σ H Q ⟨ι, ρ, M, hR, hP⟩ => by
    refine ⟨ι, ρ, M, hR, Post.imp (Post.bind (rel := Rep X.K) hP) ?_⟩
    rintro v H1 ⟨ι1, a, M1, e1, s1, r1, p1⟩
    refine ⟨ι1, ρ, M1, hR.ext e1 s1, Post.imp (Post.bind (rel := RepAll X.K) p1) ?_⟩
    rintro vs H2 ⟨ι2, as, M2, e2, s2, r2, p2⟩
    exact p2.done s2 (.cons (r1.ext e2) r2)) (pk_cons ha hr)
theorem run_fnGK {sp : Sp} {E : St → XK} {pins : List (Addr × Obj)} {σ : St} {H : Hp} {s : Shared} {Q : VK} {gU : List Value → List Value → List Value} {gV : List V → List V → List V} {us ws : List Value} {vs zs : List V} (G : FnG X.prog X.w X.K X.mg X.base k f fd ps sp) (hgd : X.A.guards = some []) (hr : Room k X.A) (hb : KBinds X.K fd ps ks gU gV)
    (hx : PassesAt (L2.CX X.prog X.w) X σ (E σ)) (I : Inv X pins σ H s) (r : Vals vs us) (rz : Vals zs ws) (h : sp (gV vs zs) H Q (E σ)) : wpAny (model X.prog X.w) X.A (call (.ref f) us (ks.zip ws)) (EP X pins σ Q) X.xe s := by
  have r2 := hb.rel r rz
  have hl : (gU us ws).length = ps.length := r2.length.symm.trans (G.len _ _ _ _ h)
  refine wpAny_call (codeAny_mono (G.run X.A X.stack s H ⟨us, ks.zip ws⟩ _ _ Q (E σ) hgd hr I.env0 (hb.to s us ws I.kIn hl) r2 h) fun res s2 hq => ?_)
  match res, hq with
  | .error e, hq => exact hx pins H s e s2 I hq
  | .ok (.ret u), hq => exact I.after hq
  | .ok .next, hq => exact hq.elim
  | .ok .brk, hq => exact hq.elim
  | .ok .cont, hq => exact hq.elim
def fCallK (g : List D → Mem → R D) (gD : List D → List D → List D) (fa fk : Env → Mem → R (List D)) : Env → Mem → R D := fun ρ M => (fa ρ M).bind fun ds M1 => (fk ρ M1).bind fun es M2 => g (gD ds es) M2
theorem fe_calK (tk : Takes X W) (C : CalK X.prog X.w X.K X.mg X.base k x ps ks gD g) (hgd : X.A.guards = some []) (hr : Room k X.A) (hg : Gl X x) (ha : FA X W (e :: es) fa) (hkw : FKw X W kws fk)
    (hall : (backToKw pos (keywordEach kws X.env)).all (·.1.isSome) = true := by rfl) (hks : (backToKw pos (keywordEach kws X.env)).filterMap (·.1) = ks := by rfl)
    (hdb : (x == ("__debug__" : Str)) = false := by decide) (he : starEach (e :: es) X.env = (false, eval e X.env) :: starEach es X.env := by rfl)
    (hpl : ((backTo pos (starEach (e :: es) X.env)).any (·.1) || (backToKw pos (keywordEach kws X.env)).any (·.1.isNone)) = false := by rfl) :
    FE X W (.Call (.Name x p) (e :: es) kws pos) (fCallK g gD fa fk) := by
  obtain ⟨f, fd, gU, gV, G, hm, hk, hb, hrel⟩ := C.ex
  refine ⟨fun pins s σ H Q I ⟨ι, ρ, M, hR, hP⟩ => ?_⟩
  refine wpAny_Call_Name_kw (ld_glob I hg hm ?_ hdb)
  refine PySem.W.callWith_KW (h₀ := X.base) I.ok.mod.kin hk hall (thn (ha.run pos pins s σ H _ I ⟨ι, ρ, M, hR, Post.bind (rel := RepAll X.K) hP⟩) fun us s1 ⟨vs, H1, I1, r, ι1, ds, M1, e1, s1', r1, p1⟩ => ?_) hpl he
  refine thn (hkw.run pos pins s1 σ H1 _ I1 ⟨ι1, ρ, M1, hR.ext e1 s1', Post.bind (rel := RepAll X.K) p1⟩) fun ws s2 ⟨zs, H2, I2, rz, ι2, es', M2, e2, s2', r2, p2⟩ => ⟨I2.kIn, ?_⟩
  rw [hks]
  exact run_fnGK (E := WE W) G hgd hr hb (passAt tk σ) I2 r rz ⟨ι2, gD ds es', M2, s2', hrel _ _ _ _ _ _ (r1.ext e2) r2, p2.wx⟩
theorem fe_calK0 (tk : Takes X W) (C : CalK X.prog X.w X.K X.mg X.base k x ps ks gD g) (hgd : X.A.guards = some []) (hr : Room k X.A) (hg : Gl X x) (hkw : FKw X W kws fk)
    (hall : (backToKw pos (keywordEach kws X.env)).all (·.1.isSome) = true := by rfl) (hks : (backToKw pos (keywordEach kws X.env)).filterMap (·.1) = ks := by rfl)
    (hdb : (x == ("__debug__" : Str)) = false := by decide) (hpl : ((backTo pos (starEach [] X.env)).any (·.1) || (backToKw pos (keywordEach kws X.env)).any (·.1.isNone)) = false := by rfl) :
    FE X W (.Call (.Name x p) [] kws pos) (fCallK g gD faN fk) := by
  obtain ⟨f, fd, gU, gV, G, hm, hk, hb, hrel⟩ := C.ex
  refine ⟨fun pins s σ H Q I ⟨ι, ρ, M, hR, hP⟩ => ?_⟩
  refine wpAny_Call_Name_kw (ld_glob I hg hm ?_ hdb)
  refine PySem.W.callWith_KW0 (h₀ := X.base) I.ok.mod.kin hk hall ?_ hpl
  have hP : Post X.K (Rep X.K) W ι H σ Q ((fk ρ M).bind fun es M2 => g (gD [] es) M2) := hP
  refine thn (hkw.run pos pins s σ H _ I ⟨ι, ρ, M, hR, Post.bind (rel := RepAll X.K) hP⟩) fun ws s2 ⟨zs, H2, I2, rz, ι2, es', M2, e2, s2', r2, p2⟩ => ⟨I2.kIn, ?_⟩
  rw [hks]
  exact run_fnGK (us := []) (vs := []) (E := WE W) G hgd hr hb (passAt tk σ) I2 .nil rz ⟨ι2, gD [] es', M2, s2', hrel _ _ _ _ _ _ .nil r2, p2.wx⟩
end
/-! ### where the values of a call with keywords go -/
def kp {α : Type} (n m : Nat) (perm : List (Bool × Nat)) (us zs : List α) : List α := if us.length = n ∧ zs.length = m then perm.filterMap (fun q => if q.1 = true then zs[q.2]? else us[q.2]?) else []
theorem kp_len {α : Type} {n m : Nat} {perm : List (Bool × Nat)} {us zs : List α} (h : 0 < (kp n m perm us zs).length) : us.length = n ∧ zs.length = m := by
  unfold kp at h
  split at h
  · assumption
  · simp at h
theorem Vals.at {vs : List V} {us : List Value} (r : Vals vs us) : ∀ (i : Nat), (vs[i]? = none ∧ us[i]? = none) ∨ ∃ v u, vs[i]? = some v ∧ us[i]? = some u ∧ RelV v u := by
  induction r with
  | nil => intro i; exact .inl ⟨by simp, by simp⟩
  | cons a t ih =>
    intro i
    cases i with
    | zero => exact .inr ⟨_, _, rfl, rfl, a⟩
    | succ i => simpa using ih i
theorem kp_vals {n m : Nat} {perm : List (Bool × Nat)} {vs zs : List V} {us ws : List Value} (r : Vals vs us) (rz : Vals zs ws) : Vals (kp n m perm vs zs) (kp n m perm us ws) := by
  unfold kp
  rw [r.length, rz.length]
  split
  · induction perm with
    | nil => exact .nil
    | cons q perm ih =>
      rw [List.filterMap_cons, List.filterMap_cons]
      rcases hq : q.1 with _ | _
      · simp only [Bool.false_eq_true, if_false]
        rcases Vals.at r q.2 with ⟨a, b⟩ | ⟨v, u, a, b, c⟩
        · rw [a, b]; exact ih
        · rw [a, b]; exact .cons c ih
      · simp only [if_true]
        rcases Vals.at rz q.2 with ⟨a, b⟩ | ⟨v, u, a, b, c⟩
        · rw [a, b]; exact ih
        · rw [a, b]; exact .cons c ih
  · exact .nil
theorem RepAll.at' {K : PySem.W.Frag} {H : Hp} {ι : Io} {vs : List V} {ds : List D} (r : RepAll K H ι vs ds) (i : Nat) : (vs[i]? = none ∧ ds[i]? = none) ∨ ∃ v d, vs[i]? = some v ∧ ds[i]? = some d ∧ Rep K H ι v d := by
  cases h : ds[i]? with
  | none =>
    refine .inl ⟨?_, rfl⟩
    rw [List.getElem?_eq_none_iff] at h ⊢
    rw [r.length]
    exact h
  | some d =>
    obtain ⟨v, hv, rv⟩ := r.get h
    exact .inr ⟨v, d, hv, rfl, rv⟩
theorem kp_rep {K : PySem.W.Frag} {n m : Nat} {perm : List (Bool × Nat)} (H : Hp) (ι : Io) (vs zs : List V) (ds es : List D) (r : RepAll K H ι vs ds) (rz : RepAll K H ι zs es) : RepAll K H ι (kp n m perm vs zs) (kp n m perm ds es) := by
  unfold kp
  rw [r.length, rz.length]
  split
  · induction perm with
    | nil => exact .nil
    | cons q perm ih =>
      rw [List.filterMap_cons, List.filterMap_cons]
      rcases hq : q.1 with _ | _
      · simp only [Bool.false_eq_true, if_false]
        rcases RepAll.at' r q.2 with ⟨a, b⟩ | ⟨v, u, a, b, c⟩
        · rw [a, b]; exact ih
        · rw [a, b]; exact .cons c ih
      · simp only [if_true]
        rcases RepAll.at' rz q.2 with ⟨a, b⟩ | ⟨v, u, a, b, c⟩
        · rw [a, b]; exact ih
        · rw [a, b]; exact .cons c ih
  · exact .nil
theorem kb_mk {K : PySem.W.Frag} {x qual : Str} {params : Arguments} {body : List Stmt} {scope : Scope} {kws : List (Str × V)} {f : Addr} {fd : FuncData} {ps ks : List Str} {n m : Nat} {perm : List (Bool × Nat)} (F : FunD K x qual params body scope [] kws f fd) (hp : 0 < ps.length)
    (h : ∀ (kV doc pm : Value) (an : Option Addr) (cdv ct : Value) (us ws : List Value), us.length = n → ws.length = m → bindArgs (PySem.W.fnOf x qual params body scope .none kV doc pm an cdv ct) ⟨us, ks.zip ws⟩ = pure (ps.zip (kp n m perm us ws))) :
    KBinds K fd ps ks (kp n m perm) (kp n m perm) := by
  obtain ⟨oc, od, dV, kV, doc, pm, an, cdv, ct, osl, rfl, lk, hcd, hD, hK⟩ := F.ex
  rcases hD with ⟨_, rfl⟩ | ⟨e, _⟩
  · refine ⟨fun s us ws _ hl => ?_, fun r rz => kp_vals r rz⟩
    obtain ⟨a, b⟩ := kp_len (by rw [hl]; exact hp)
    exact .of_eq (h kV doc pm an cdv ct us ws a b)
  · exact absurd rfl e
/-! ### list(range(..)) -/
def rgD (a b : Int) : List D := (List.range (b - a).toNat).map fun i => D.int (a + (i : Nat))
theorem rg_rep {K : PySem.W.Frag} {H : Hp} {ι : Io} (a b : Int) : RepAll K H ι (rgV a b) (rgD a b) := by
  unfold rgV rgD
  generalize (b - a).toNat = n
  have : ∀ (l : List Nat), RepAll K H ι (l.map fun (i : Nat) => V.int (a + (i : Nat))) (l.map fun (i : Nat) => D.int (a + (i : Nat))) := by
    intro l
    induction l with
    | nil => exact .nil
    | cons x l ih => exact .cons (.int _) ih
  exact this _
instance {a b : Int} : Decidable (RgOk a b) := inferInstanceAs (Decidable (_ ∧ _ ∧ _ ∧ _ ∧ _))
def fLRg1 (mt : Bool) (f : Env → Mem → R D) : Env → Mem → R D := fun ρ M => (f ρ M).bind fun a M1 => match a with
  | .int n => if RgOk 0 n then newL mt (rgD 0 n) M1 else .err
  | _ => .err
def fLRg2 (mt : Bool) (f g : Env → Mem → R D) : Env → Mem → R D := fun ρ M => (f ρ M).bind fun a M1 => (g ρ M1).bind fun b M2 => match a, b with
  | .int i, .int j => if RgOk i j then newL mt (rgD i j) M2 else .err
  | _, _ => .err
section
variable {X : Cx} {W : WX} {pos p pos' p' : Pos} {a b : Expr} {f g : Env → Mem → R D}
theorem fe_lrg1 (mt : Bool) (hc : X.calm = true) (hl : Gl X "list") (ml : X.mg "list" = none) (hg : Gl X "range") (hm : X.mg "range" = none) (ha : FE X W a f)
    (na : starEach [a] X.env = (false, eval a X.env) :: starEach [] X.env := by rfl) (ne : starEach [Expr.Call (.Name "range" p') [a] [] pos'] X.env = (false, eval (Expr.Call (.Name "range" p') [a] [] pos') X.env) :: starEach [] X.env := by rfl) :
    FE X W (.Call (.Name "list" p) [.Call (.Name "range" p') [a] [] pos'] [] pos) (fLRg1 mt f) :=
  fe_imp (pe_listRg hc hl ml (prg_1 hg hm ha na) ne) fun σ H Q ι ρ M hR hP => by
    show tRg1 _ _ _ _
    refine ⟨ι, ρ, M, hR, Post.imp (Post.bind (rel := Rep X.K) hP) ?_⟩
    rintro x H1 ⟨ι1, d, M1, e1, s1, r1, p1⟩
    split at p1
    · rename_i n
      cases r1
      split at p1
      · rename_i ho
        exact ⟨n, rfl, ho, fun q hq => newL_post p1 s1 (rg_rep 0 n) hq⟩
      · exact p1.elim
    · exact p1.elim
theorem fe_lrg2 (mt : Bool) (hc : X.calm = true) (hl : Gl X "list") (ml : X.mg "list" = none) (hg : Gl X "range") (hm : X.mg "range" = none) (ha : FE X W a f) (hb : FE X W b g)
    (na : starEach [a, b] X.env = (false, eval a X.env) :: starEach [b] X.env := by rfl) (nb : starEach [b] X.env = (false, eval b X.env) :: starEach [] X.env := by rfl) (ne : starEach [Expr.Call (.Name "range" p') [a, b] [] pos'] X.env = (false, eval (Expr.Call (.Name "range" p') [a, b] [] pos') X.env) :: starEach [] X.env := by rfl) (hp : (backTo pos' (starEach [b] X.env)).any (·.1) = false := by rfl) :
    FE X W (.Call (.Name "list" p) [.Call (.Name "range" p') [a, b] [] pos'] [] pos) (fLRg2 mt f g) :=
  fe_imp (pe_listRg hc hl ml (prg_2 hg hm ha hb na nb hp) ne) fun σ H Q ι ρ M hR hP => by
    show tRg2 _ _ _ _ _
    refine ⟨ι, ρ, M, hR, Post.imp (Post.bind (rel := Rep X.K) hP) ?_⟩
    rintro x H1 ⟨ι1, d, M1, e1, s1, r1, p1⟩
    refine ⟨ι1, ρ, M1, hR.ext e1 s1, Post.imp (Post.bind (rel := Rep X.K) p1) ?_⟩
    rintro y H2 ⟨ι2, d2, M2, e2, s2, r2, p2⟩
    split at p2
    · rename_i i j
      cases r1
      cases r2
      split at p2
      · rename_i ho
        exact ⟨i, j, rfl, rfl, ho, fun q hq => newL_post p2 s2 (rg_rep i j) hq⟩
      · exact p2.elim
    · exact p2.elim
end
end Fx

set_option Elab.async false
set_option linter.all false
set_option maxRecDepth 100000
set_option maxHeartbeats 2000000
set_option autoImplicit false
/-! FxP: the plain side: how the functions of the layer answer, as equations; loops by what holds at each turn. -/
namespace Fx
open PySem PySem.Spec PyProof.Rows L2
/-- an equation that the kernel need not see through again -/
theorem eqq {α : Sort _} {a b : α} (h : a = b) : a = b := h
section
variable {α β : Type} {ρ : Env} {M : Mem} {a b : D} {x : D} {d : D}
@[simp] theorem ev_bind_ok (a : α) (M : Mem) (k : α → Mem → R β) : R.bind (.ok a M) k = k a M := eqq rfl
@[simp] theorem ev_bind_exc (x : D) (M : Mem) (k : α → Mem → R β) : R.bind (.exc x M) k = .exc x M := eqq rfl
@[simp] theorem ev_ofO_some (a : α) (M : Mem) : R.ofO (some a) M = .ok a M := eqq rfl
@[simp] theorem ev_toO_ok (a : α) (M : Mem) (ρ : Env) (k : α → Mem → O) : R.toO (.ok a M) ρ k = k a M := eqq rfl
@[simp] theorem ev_toO_exc (x : D) (M : Mem) (ρ : Env) (k : α → Mem → O) : R.toO (.exc x M) ρ k = .exc x ρ M := eqq rfl
@[simp] theorem ev_sure_ok (a : α) (M : Mem) : R.sure (.ok a M) = .ok a M := eqq rfl
@[simp] theorem ev_seq_nx (ρ : Env) (M : Mem) (k : Env → Mem → O) : O.seq (.nx ρ M) k = k ρ M := eqq rfl
@[simp] theorem ev_seq_rt (d : D) (M : Mem) (k : Env → Mem → O) : O.seq (.rt d M) k = .rt d M := eqq rfl
@[simp] theorem ev_only_nx (ρ : Env) (M : Mem) (k : Env → Mem → O) : O.only (.nx ρ M) k = k ρ M := eqq rfl
@[simp] theorem ev_turn_nx (ρ : Env) (M : Mem) (k : Env → Mem → O) : O.turn (.nx ρ M) k = k ρ M := eqq rfl
@[simp] theorem ev_turn_rt (d : D) (M : Mem) (k : Env → Mem → O) : O.turn (.rt d M) k = .rt d M := eqq rfl
@[simp] theorem ev_turn_bk (ρ : Env) (M : Mem) (k : Env → Mem → O) : O.turn (.bk ρ M) k = .nx ρ M := eqq rfl
@[simp] theorem ev_turn_ct (ρ : Env) (M : Mem) (k : Env → Mem → O) : O.turn (.ct ρ M) k = k ρ M := eqq rfl
@[simp] theorem ev_toR_nx (ρ : Env) (M : Mem) : O.toR (.nx ρ M) = .ok .non M := eqq rfl
@[simp] theorem ev_toR_rt (d : D) (M : Mem) : O.toR (.rt d M) = .ok d M := eqq rfl
@[simp] theorem ev_toR_exc (x : D) (ρ : Env) (M : Mem) : O.toR (.exc x ρ M) = .exc x M := eqq rfl
theorem ev_fv {i : Nat} (h : ρ[i]? = some (some d)) : fv i ρ M = .ok d M := by unfold fv; rw [h]
@[simp] theorem ev_fv0 (l : Env) : fv 0 (some d :: l) M = .ok d M := eqq rfl
@[simp] theorem ev_fvs (o : Option D) (l : Env) (i : Nat) : fv (i + 1) (o :: l) M = fv i l M := eqq rfl
@[simp] theorem ev_fc (d : D) : fc d ρ M = .ok d M := eqq rfl
@[simp] theorem ev_fbin (h : D → D → Mem → Option D) (f g : Env → Mem → R D) : fbin h f g ρ M = (f ρ M).bind fun a M1 => (g ρ M1).bind fun b M2 => R.ofO (h a b M2) M2 := eqq rfl
@[simp] theorem ev_fun1 (h : D → Mem → Option D) (f : Env → Mem → R D) : fun1 h f ρ M = (f ρ M).bind fun a M1 => R.ofO (h a M1) M1 := eqq rfl
@[simp] theorem ev_fB (f : Env → Mem → R D) : fB f ρ M = (f ρ M).bind fun a M1 => R.ofO (asB a) M1 := eqq rfl
@[simp] theorem ev_asB (b : Bool) : asB (.bl b) = some b := eqq rfl
@[simp] theorem ev_fNotB (f : Env → Mem → R Bool) : fNotB f ρ M = (f ρ M).bind fun a M1 => .ok (!a) M1 := eqq rfl
@[simp] theorem ev_fAndB (f g : Env → Mem → R Bool) : fAndB f g ρ M = (f ρ M).bind fun a M1 => if a = true then g ρ M1 else .ok false M1 := eqq rfl
@[simp] theorem ev_fOrB (f g : Env → Mem → R Bool) : fOrB f g ρ M = (f ρ M).bind fun a M1 => if a = true then .ok true M1 else g ρ M1 := eqq rfl
@[simp] theorem ev_fTru (f : Env → Mem → R D) : fTru f ρ M = (f ρ M).bind fun a M1 => R.ofO (truD M1 a) M1 := eqq rfl
@[simp] theorem ev_tru_bl (b : Bool) : truD M (.bl b) = some b := eqq rfl
@[simp] theorem ev_tru_int (i : Int) : truD M (.int i) = some (i != 0) := eqq rfl
@[simp] theorem ev_tru_non : truD M .non = some false := eqq rfl
@[simp] theorem ev_fAndV (f g : Env → Mem → R D) : fAndV f g ρ M = (f ρ M).bind fun a M1 => match a with
  | .bl c => if c = true then g ρ M1 else .ok (.bl false) M1
  | _ => .err := eqq rfl
@[simp] theorem ev_fOrV (f g : Env → Mem → R D) : fOrV f g ρ M = (f ρ M).bind fun a M1 => match a with
  | .bl c => if c = true then .ok (.bl true) M1 else g ρ M1
  | _ => .err := eqq rfl
@[simp] theorem ev_fNotV (f : Env → Mem → R D) : fNotV f ρ M = (f ρ M).bind fun a M1 => match a with
  | .bl c => .ok (.bl (!c)) M1
  | _ => .err := eqq rfl
@[simp] theorem ev_fIfE (c : Env → Mem → R Bool) (f g : Env → Mem → R D) : fIfE c f g ρ M = (c ρ M).bind fun b M1 => if b = true then f ρ M1 else g ρ M1 := eqq rfl
@[simp] theorem ev_isN (a : D) : hIsN a .non M = some (.bl (isNon a)) := eqq rfl
@[simp] theorem ev_notN (a : D) : hNotN a .non M = some (.bl (!isNon a)) := eqq rfl
@[simp] theorem ev_isNon_int (i : Int) : isNon (.int i) = false := eqq rfl
@[simp] theorem ev_isNon_non : isNon .non = true := eqq rfl
@[simp] theorem ev_isi_int (i : Int) : hIsi [.int i, .ty "int"] M = .ok (.bl true) M := eqq rfl
@[simp] theorem ev_isi_bool (i : Int) : hIsi [.int i, .ty "bool"] M = .ok (.bl false) M := eqq rfl
@[simp] theorem ev_int_int (i : Int) : hInt [.int i] M = .ok (.int i) M := eqq rfl
@[simp] theorem ev_int_bl (b : Bool) : hInt [.bl b] M = .ok (.int (if b then 1 else 0)) M := eqq rfl
@[simp] theorem ev_abs (i : Int) : hAbs [.int i] M = .ok (.int (if i < 0 then -i else i)) M := eqq rfl
@[simp] theorem ev_max2 (i j : Int) : hMax2 [.int i, .int j] M = .ok (.int (if j > i then j else i)) M := eqq rfl
@[simp] theorem ev_min2 (i j : Int) : hMin2 [.int i, .int j] M = .ok (.int (if j < i then j else i)) M := eqq rfl
theorem ev_eqI (i j : Int) : hEq (.int i) (.int j) M = some (.bl (i == j)) := eqq rfl
theorem ev_neI (i j : Int) : hNe (.int i) (.int j) M = some (.bl (!(i == j))) := eqq rfl
@[simp] theorem ev_sSeq (f g : Env → Mem → O) : sSeq f g ρ M = (f ρ M).seq g := eqq rfl
@[simp] theorem ev_sNil : sNil ρ M = .nx ρ M := eqq rfl
@[simp] theorem ev_sSet (i : Nat) (f : Env → Mem → R D) : sSet i f ρ M = (f ρ M).toO ρ fun d M1 => .nx (ρ.set i (some d)) M1 := eqq rfl
@[simp] theorem ev_sRet (f : Env → Mem → R D) : sRet f ρ M = (f ρ M).toO ρ fun d M1 => .rt d M1 := eqq rfl
@[simp] theorem ev_sExpr (f : Env → Mem → R D) : sExpr f ρ M = (f ρ M).toO ρ fun _ M1 => .nx ρ M1 := eqq rfl
@[simp] theorem ev_sIf (c : Env → Mem → R Bool) (f g : Env → Mem → O) : sIf c f g ρ M = (c ρ M).toO ρ fun b M1 => if b = true then f ρ M1 else g ρ M1 := eqq rfl
@[simp] theorem ev_faN : faN ρ M = .ok [] M := eqq rfl
@[simp] theorem ev_faC (f : Env → Mem → R D) (g : Env → Mem → R (List D)) : faC f g ρ M = (f ρ M).bind fun a M1 => (g ρ M1).bind fun as M2 => .ok (a :: as) M2 := eqq rfl
@[simp] theorem ev_fTup (g : Env → Mem → R (List D)) : fTup g ρ M = (g ρ M).bind fun ds M1 => if ds.length ≤ sizeLine then .ok (.tup ds) M1 else .err := eqq rfl
@[simp] theorem ev_fLst (mt : Bool) (g : Env → Mem → R (List D)) : fLst mt g ρ M = (g ρ M).bind fun ds M1 => if ds.length ≤ sizeLine then newL mt ds M1 else .err := eqq rfl
@[simp] theorem ev_newT (ds : List D) : newL true ds M = .ok (.ref M.length) (M ++ [.lst ds]) := eqq rfl
@[simp] theorem ev_newF (ds : List D) : newL false ds M = .ok (.lst ds) M := eqq rfl
@[simp] theorem ev_fCall (g : List D → Mem → R D) (dds : List D) (fa : Env → Mem → R (List D)) : fCall g dds fa ρ M = (fa ρ M).bind fun ds M1 => g (ds ++ dds) M1 := eqq rfl
@[simp] theorem ev_fBlt (h : List D → Mem → R D) (fa : Env → Mem → R (List D)) : fBlt h fa ρ M = (fa ρ M).bind fun ds M1 => (h ds M1).sure := eqq rfl
@[simp] theorem ev_gw_some (g : D → Env → Option Env) (ρ' : Env) (h : g d ρ = some ρ') : gw g d ρ M = .nx ρ' M := by unfold gw; rw [h]
@[simp] theorem ev_gN (i : Nat) : gN i d ρ = some (ρ.set i (some d)) := eqq rfl
@[simp] theorem ev_gT2 (i j : Nat) : gT2 i j (.tup [a, b]) ρ = some ((ρ.set i (some a)).set j (some b)) := eqq rfl
@[simp] theorem ev_bodyF (g : D → Env → Mem → O) (fb : Env → Mem → O) : bodyF g fb d ρ M = (g d ρ M).only fb := eqq rfl
@[simp] theorem ev_sFor (fi : Env → Mem → R Src) (body : D → Env → Mem → O) : sFor fi body ρ M = (fi ρ M).toO ρ fun s M1 => match s with
  | .items ds => forI body ds ρ M1
  | .gen fuel get => forC get body fuel 0 ρ M1 := eqq rfl
@[simp] theorem ev_fiA (h : List D → Mem → Option Src) (fa : Env → Mem → R (List D)) : fiA h fa ρ M = (fa ρ M).bind fun ds M1 => R.ofO (h ds M1) M1 := eqq rfl
@[simp] theorem ev_fiL (f : Env → Mem → R D) : fiL f ρ M = (f ρ M).bind fun d M1 => R.ofO (srcL d M1) M1 := eqq rfl
theorem ev_sAug (i : Nat) (h : D → D → Mem → Option D) (f : Env → Mem → R D) {a : D} (e : ρ[i]? = some (some a)) : sAug i h f ρ M = (f ρ M).toO ρ fun b M1 => match h a b M1 with
    | some d => .nx (ρ.set i (some d)) M1
    | none => .err := by
  unfold sAug
  rw [e]
  try rfl
@[simp] theorem ev_sPar (i j : Nat) (fa : Env → Mem → R (List D)) : sPar i j fa ρ M = (fa ρ M).toO ρ fun ds M1 => match ds with
  | [a, b] => .nx ((ρ.set i (some a)).set j (some b)) M1
  | _ => .err := eqq rfl
@[simp] theorem ev_sAsg (f : Env → Mem → R D) (g : D → Env → Mem → O) : sAsg f g ρ M = (f ρ M).toO ρ fun d M1 => (g d ρ M1).only sNil := eqq rfl
/-! operators on numbers -/
@[simp] theorem ev_add (i j : Int) : hAdd (.int i) (.int j) M = some (.int (i + j)) := eqq rfl
@[simp] theorem ev_addI (i j : Int) : hAddI (.int i) (.int j) M = some (.int (i + j)) := eqq rfl
@[simp] theorem ev_sub (i j : Int) : hSub (.int i) (.int j) M = some (.int (i - j)) := eqq rfl
@[simp] theorem ev_neg (i : Int) : hNeg (.int i) M = some (.int (-i)) := eqq rfl
theorem ev_mul {i j : Int} (h : CMulX i j) : hMul (.int i) (.int j) M = some (.int (i * j)) := if_pos h
theorem ev_mulI {i j : Int} (h : CMulX i j) : hMulI (.int i) (.int j) M = some (.int (i * j)) := if_pos h
theorem ev_shl {i j : Int} (h : CShl i j) : hShl (.int i) (.int j) M = some (.int (i * 2 ^ j.toNat)) := if_pos h
theorem ev_shr {i j : Int} (h : 0 ≤ j) : hShr (.int i) (.int j) M = some (.int (i / 2 ^ j.toNat)) := if_pos h
theorem ev_mod {i j : Int} (h : 0 < j) : hMod (.int i) (.int j) M = some (.int (i % j)) := if_pos h
theorem ev_div {i j : Int} (h : CDivW i j) : hDiv (.int i) (.int j) M = some (.int (i / j)) := if_pos h
theorem ev_pow {i j : Int} (h : CPowX i j) : hPow (.int i) (.int j) M = some (.int (i ^ j.toNat)) := if_pos h
@[simp] theorem ev_and (i j : Int) : hAnd (.int i) (.int j) M = some (.int (Builtin.bitAnd i j)) := eqq rfl
@[simp] theorem ev_or (i j : Int) : hOr (.int i) (.int j) M = some (.int (Builtin.bitOr i j)) := eqq rfl
@[simp] theorem ev_xor (i j : Int) : hXor (.int i) (.int j) M = some (.int (Builtin.bitXor i j)) := eqq rfl
@[simp] theorem ev_lt (i j : Int) : hLt (.int i) (.int j) M = some (.bl (decide (i < j))) := eqq rfl
@[simp] theorem ev_le (i j : Int) : hLe (.int i) (.int j) M = some (.bl (decide (i ≤ j))) := eqq rfl
@[simp] theorem ev_gt (i j : Int) : hGt (.int i) (.int j) M = some (.bl (decide (j < i))) := eqq rfl
@[simp] theorem ev_ge (i j : Int) : hGe (.int i) (.int j) M = some (.bl (decide (j ≤ i))) := eqq rfl
/-! sizes -/
theorem bits_lt {i : Int} {n : Nat} (h : i.natAbs < 2 ^ n) : Builtin.Int.intBits i ≤ n := by
  unfold Builtin.Int.intBits
  split
  · exact Nat.zero_le _
  · rename_i z
    have hz : i.natAbs ≠ 0 := by
      intro e
      apply z
      simp [Int.natAbs_eq_zero.mp e]
    have := (Nat.log2_lt hz).mpr h
    omega
theorem mulX_of {i j : Int} (n m : Nat) (hi : i.natAbs < 2 ^ n) (hj : j.natAbs < 2 ^ m) (h : n + m ≤ 134217728) : CMulX i j := by
  have a := bits_lt hi
  have b := bits_lt hj
  show (Builtin.Int.intBits i : Int) + (Builtin.Int.intBits j : Int) ≤ 134217728
  omega
theorem shl_of {i j : Int} (n m : Nat) (hi : i.natAbs < 2 ^ n) (h0 : 0 ≤ j) (hj : j ≤ m) (h : n + m ≤ 134217728) : CShl i j := by
  have a := bits_lt hi
  refine ⟨h0, ?_⟩
  show (Builtin.Int.intBits i : Int) + j ≤ 134217728
  omega
/-! ranges -/
theorem ev_range1 {j : Int} (h : 0 ≤ j) (h2 : j < 2 ^ 62) : hRange1 [.int j] = some (.items (rangeD 0 1 j.toNat)) := by
  unfold hRange1
  exact if_pos ⟨by omega, h2⟩
theorem rangeD_len (lo c : Int) (n : Nat) : (rangeD lo c n).length = n := by simp [rangeD]
/-! loops -/
theorem forI_inv {body : D → Env → Mem → O} (I : Nat → Env → Mem → Prop) (ds : List D) :
    ∀ (k : Nat) (es : List D) (ρ : Env) (M : Mem), ds.drop k = es → I k ρ M → (∀ i d ρ M, k ≤ i → ds[i]? = some d → I i ρ M → ∃ ρ' M', body d ρ M = .nx ρ' M' ∧ I (i + 1) ρ' M') → k ≤ ds.length → ∃ ρ' M', forI body es ρ M = .nx ρ' M' ∧ I ds.length ρ' M'
  | k, [], ρ, M, hd, hI, st, hk => by
    have : ds.length = k := by
      have := congrArg List.length hd
      simp at this
      omega
    exact ⟨ρ, M, rfl, this ▸ hI⟩
  | k, d :: es, ρ, M, hd, hI, st, hk => by
    have hlt : k < ds.length := by
      have := congrArg List.length hd
      simp at this
      omega
    have e0 : ds[k]? = some d := by
      have := congrArg (fun l => l[0]?) hd
      simpa using this
    have e1 : ds.drop (k + 1) = es := by
      rw [← List.drop_drop, hd]
      rfl
    obtain ⟨ρ1, M1, h1, I1⟩ := st k d ρ M (Nat.le_refl _) e0 hI
    obtain ⟨ρ2, M2, h2, I2⟩ := forI_inv I ds (k + 1) es ρ1 M1 e1 I1 (fun i d ρ M hi => st i d ρ M (by omega)) hlt
    refine ⟨ρ2, M2, ?_, I2⟩
    unfold forI
    rw [h1]
    exact h2
/-- a loop whose turns all go on: what holds at each turn -/
theorem for_inv {body : D → Env → Mem → O} {ds : List D} {ρ : Env} {M : Mem} (I : Nat → Env → Mem → Prop) (h0 : I 0 ρ M) (st : ∀ i d ρ M, ds[i]? = some d → I i ρ M → ∃ ρ' M', body d ρ M = .nx ρ' M' ∧ I (i + 1) ρ' M') :
    ∃ ρ' M', forI body ds ρ M = .nx ρ' M' ∧ I ds.length ρ' M' := forI_inv I ds 0 ds ρ M rfl h0 (fun i d ρ M _ => st i d ρ M) (Nat.zero_le _)
theorem forR {body : D → Env → Mem → O} {lo : Int} {n : Nat} {ρ : Env} {M : Mem} (I : Nat → Env → Mem → Prop) (h0 : I 0 ρ M) (st : ∀ i ρ M, i < n → I i ρ M → ∃ ρ' M', body (.int (lo + i)) ρ M = .nx ρ' M' ∧ I (i + 1) ρ' M') :
    ∃ ρ' M', forI body (rangeD lo 1 n) ρ M = .nx ρ' M' ∧ I n ρ' M' := by
  have q := for_inv (ds := rangeD lo 1 n) I h0 (fun i d ρ M e h => by
    rw [rangeD_at] at e
    split at e
    · rename_i hi
      cases e
      have := st i ρ M hi h
      simpa using this
    · cases e)
  rwa [rangeD_len] at q
/-- while, one turn -/
theorem ev_while (c : Env → Mem → R Bool) (fb : Env → Mem → O) (k : Nat) : whileF c fb (k + 1) ρ M = (c ρ M).toO ρ fun b M1 => if b = true then (fb ρ M1).turn (whileF c fb k) else .nx ρ M1 := eqq rfl
/-- a comprehension over a range whose turns change nothing -/
theorem compI_range {step : D → Mem → R (Option D)} {lo : Int} (F : Nat → D) : ∀ (n : Nat) (k : Nat) (M : Mem), (∀ i, k ≤ i → i < k + n → step (.int (lo + i)) M = .ok (some (F i)) M) → compI step ((List.range' k n).map fun (i : Nat) => D.int (lo + i)) M = some ((List.range' k n).map F, M)
  | 0, k, M, h => eqq rfl
  | n + 1, k, M, h => by
    rw [List.range'_succ, List.map_cons, List.map_cons]
    unfold compI
    rw [h k (Nat.le_refl _) (by omega)]
    dsimp only
    rw [compI_range F n (k + 1) M (fun i h1 h2 => h i (by omega) (by omega))]
    rfl
theorem compRange {step : D → Mem → R (Option D)} {lo : Int} {n : Nat} {M : Mem} (F : Nat → D) (h : ∀ i, i < n → step (.int (lo + i)) M = .ok (some (F i)) M) : compI step (rangeD lo 1 n) M = some ((List.range n).map F, M) := by
  have q := compI_range (step := step) (lo := lo) F n 0 M (fun i _ h2 => h i (by omega))
  rw [List.range_eq_range']
  unfold rangeD
  simpa [List.range_eq_range'] using q
theorem compMap {step : D → Mem → R (Option D)} {M : Mem} (F : D → D) : ∀ (ds : List D), (∀ d ∈ ds, step d M = .ok (some (F d)) M) → compI step ds M = some (ds.map F, M)
  | [], h => eqq rfl
  | d :: ds, h => by
    unfold compI
    rw [h d List.mem_cons_self]
    dsimp only
    rw [compMap F ds (fun x hx => h x (List.mem_cons_of_mem _ hx))]
    rfl
theorem ev_range2 {i j : Int} (h1 : -(2 ^ 62) ≤ i) (h : j < 2 ^ 62) (h2 : i < 2 ^ 62) (h3 : -(2 ^ 62) ≤ j) : hRange2 [.int i, .int j] = some (.items (rangeD i 1 (j - i).toNat)) := by
  unfold hRange2
  exact if_pos ⟨h1, h2, h3, h⟩
/-! items -/
theorem atIn {α : Type} {xs : List α} {i : Nat} {x : α} (h : xs[i]? = some x) : atI xs (i : Int) = some x := by
  have hl := (List.getElem?_eq_some_iff.mp h).1
  unfold atI ixN
  rw [if_pos (by omega), if_pos (by omega)]
  simpa using h
theorem atIl {α : Type} {xs : List α} {x : α} : atI (xs ++ [x]) (-1) = some x := by
  unfold atI ixN
  have e : ((-1 : Int) + ((xs ++ [x]).length : Nat)).toNat = xs.length := by
    rw [List.length_append, List.length_singleton]
    omega
  rw [if_neg (by decide), if_pos (by rw [List.length_append, List.length_singleton]; omega), e]
  show (xs ++ [x])[xs.length]? = some x
  simp
@[simp] theorem ev_ix_lst (xs : List D) (i : Int) : hIx (.lst xs) (.int i) M = atI xs i := by
  unfold hIx asT asL
  dsimp only
@[simp] theorem ev_ix_klst (xs : List D) (i : Int) : hIx (.klst xs) (.int i) M = atI xs i := by
  unfold hIx asT asL
  dsimp only
@[simp] theorem ev_ix_tup (xs : List D) (i : Int) : hIx (.tup xs) (.int i) M = atI xs i := by
  unfold hIx asT asL
  dsimp only
theorem ev_ix_ref {n : Nat} {xs : List D} (h : M[n]? = some (.lst xs)) (i : Int) : hIx (.ref n) (.int i) M = atI xs i := by
  unfold hIx asT asL
  dsimp only
  rw [h]
theorem ev_append {n : Nat} {xs : List D} (h : M[n]? = some (.lst xs)) (hz : xs.length < sizeLine) (b : D) : hAppend (.ref n) [b] M = .ok .non (M.set n (.lst (xs ++ [b]))) := by
  unfold hAppend
  dsimp only
  rw [h]
  dsimp only
  rw [if_pos hz]
theorem ev_fMthL {f : Env → Mem → R D} {g : Env → Mem → R (List D)} {h : D → List D → Mem → R D} {a : D} {M1 : Mem} (e : f ρ M = .ok a M1) (i : isL a M1 = true) : fMth isL h f g ρ M = (g ρ M1).bind fun ds M2 => (h a ds M2).sure := by
  unfold fMth
  rw [e]
  dsimp only [R.bind]
  rw [if_pos i]
theorem isL_ref {n : Nat} {xs : List D} (h : M[n]? = some (.lst xs)) : isL (.ref n) M = true := by
  unfold isL asL
  dsimp only
  rw [h]
  rfl
/-! closed calls -/
theorem clo_ok {g : List D → Mem → R D} {ds ds' : List D} {d d' : D} {M M' : Mem} (h : ds.mapM (fz 0 [] 64) = some ds') (e : g ds' [] = .ok d M') (f : fz 0 M' 64 d = some d') : clo g ds M = .ok d' M := by
  unfold clo
  rw [h]
  dsimp only
  rw [e]
  unfold cloR
  dsimp only
  rw [f]
@[simp] theorem fz_int (n k : Nat) (M : Mem) (i : Int) : fz n M (k + 1) (.int i) = some (.int i) := eqq rfl
@[simp] theorem fz_bl (n k : Nat) (M : Mem) (i : Bool) : fz n M (k + 1) (.bl i) = some (.bl i) := eqq rfl
@[simp] theorem fz_non (n k : Nat) (M : Mem) : fz n M (k + 1) .non = some .non := eqq rfl
theorem mapM_ints (n k : Nat) (M : Mem) : ∀ (is : List Int), (is.map D.int).mapM (fz n M (k + 1)) = some (is.map D.int)
  | [] => rfl
  | i :: is => by
    rw [List.map_cons, List.mapM_cons, fz_int, mapM_ints n k M is]
    rfl
theorem fnF_t (n np : Nat) (body : Env → Mem → O) (ds : List D) (M : Mem) (h : ds.length = np) : fnF n np true body ds M = (body (startD n ds) M).toR := by
  unfold fnF
  rw [if_pos h, if_pos rfl]
/-! lists of numbers -/
theorem fz_ref_ints {n j k : Nat} {M : Mem} {is : List Int} (hj : ¬ j < n) (h : M[j]? = some (.lst (is.map D.int))) : fz n M (k + 3) (.ref j) = some (.lst (is.map D.int)) := by
  rw [fz_ref, if_neg hj, h]
  dsimp only
  rw [fz_lst, mapM_ints]
  rfl
theorem fz_ints {n k : Nat} {M : Mem} {is : List Int} : fz n M (k + 2) (.lst (is.map D.int)) = some (.lst (is.map D.int)) := by
  rw [fz_lst, mapM_ints]
  rfl
theorem asInts_map : ∀ (is : List Int), asInts (is.map D.int) = some is
  | [] => eqq rfl
  | i :: is => by
    rw [List.map_cons]
    unfold asInts
    rw [asInts_map is]
@[simp] theorem ev_sum_ints (is : List Int) : hSum [.lst (is.map D.int)] M = .ok (.int is.sum) M := by
  unfold hSum asL
  dsimp only
  rw [asInts_map]
theorem ev_sum_ref {n : Nat} {is : List Int} (h : M[n]? = some (.lst (is.map D.int))) : hSum [.ref n] M = .ok (.int is.sum) M := by
  unfold hSum asL
  dsimp only
  rw [h]
  dsimp only
  rw [asInts_map]
theorem divW_of {i j : Int} (n : Nat) (h0 : 0 < j) (hj : j.natAbs < 2 ^ n) (h : n ≤ 9000) : CDivW i j := by
  refine ⟨h0, ?_⟩
  have := (Nat.log2_lt (show j.natAbs ≠ 0 by omega)).mpr hj
  omega
def pickI (xs : List Int) (lo hi st : Option Int) : List Int := pickD xs lo hi st
theorem pick_map {α β : Type} (f : α → β) (xs : List α) (lo hi st : Option Int) : pickD (xs.map f) lo hi st = (pickD xs lo hi st).map f := by
  unfold pickD
  rw [List.length_map]
  generalize sliceRange _ _ _ = l
  induction l with
  | nil => rfl
  | cons a l ih =>
    rw [List.filterMap_cons, List.filterMap_cons, List.getElem?_map]
    cases xs[a]? with
    | none => exact ih
    | some x =>
      dsimp only [Option.map]
      rw [ih]
      rfl
@[simp] theorem ev_fComp (mt : Bool) (vs : List Nat) (fi : Env → Mem → R Src) (g : D → Env → Option Env) (t : Env → Mem → R Bool) (f : Env → Mem → R D) : fComp mt vs fi g t f ρ M = (fi ρ M).bind fun s M1 => match s with
  | .items ds => if ds.length < sizeLine then endC mt (compI (compT g t f (wipeD ρ vs)) ds M1) else .err
  | .gen fuel get => if fuel ≤ sizeLine then endC mt (compG get (compT g t f (wipeD ρ vs)) fuel 0 M1) else .err := eqq rfl
@[simp] theorem ev_endC (mt : Bool) (ys : List D) (M2 : Mem) : endC mt (some (ys, M2)) = newL mt ys M2 := eqq rfl
@[simp] theorem ev_compT (g : D → Env → Option Env) (t : Env → Mem → R Bool) (f : Env → Mem → R D) (d : D) : compT g t f ρ d M = match g d ρ with
  | none => .err
  | some ρ' => (t ρ' M).bind fun b M1 => if b = true then (f ρ' M1).bind fun y M2 => .ok (some y) M2 else .ok none M1 := eqq rfl
@[simp] theorem ev_fYes : fYes ρ M = .ok true M := eqq rfl
@[simp] theorem ev_fpN : fpN ρ M = .ok none M := eqq rfl
@[simp] theorem ev_fpS_int (f : Env → Mem → R D) (i : Int) (M1 : Mem) (h : f ρ M = .ok (.int i) M1) : fpS f ρ M = .ok (some i) M1 := by
  unfold fpS
  rw [h]
  rfl
@[simp] theorem ev_fSlS (mt : Bool) (f : Env → Mem → R D) (lo hi st : Env → Mem → R (Option Int)) : fSlS mt f lo hi st ρ M = (f ρ M).bind fun a M1 => (lo ρ M1).bind fun l M2 => (hi ρ M2).bind fun u M3 => (st ρ M3).bind fun t M4 => match asL M4 a with
  | some ds => if t ≠ some 0 then newL mt (pickD ds l u t) M4 else .err
  | none => .err := eqq rfl
@[simp] theorem ev_fSl (mt : Bool) (f : Env → Mem → R D) (lo hi : Env → Mem → R (Option Int)) : fSl mt f lo hi ρ M = (f ρ M).bind fun a M1 => (lo ρ M1).bind fun l M2 => (hi ρ M2).bind fun u M3 => match asL M3 a with
  | some ds => newL mt (cutD ds l u) M3
  | none => .err := eqq rfl
@[simp] theorem ev_asL_lst (ds : List D) : asL M (.lst ds) = some ds := eqq rfl
@[simp] theorem ev_asL_klst (ds : List D) : asL M (.klst ds) = some ds := eqq rfl
theorem ev_asL_ref {n : Nat} {ds : List D} (h : M[n]? = some (.lst ds)) : asL M (.ref n) = some ds := by
  unfold asL
  dsimp only
  rw [h]
theorem sizeLine_ge : 1000000 ≤ sizeLine := by decide
theorem ev_addL {xs ys : List D} (h : xs.length + ys.length ≤ sizeLine) : hAdd (.lst xs) (.lst ys) M = some (.lst (xs ++ ys)) := by
  unfold hAdd
  dsimp only [ev_asL_lst]
  exact if_pos h
/-- a loop over what is asked for at each turn, nothing changed in the memory -/
theorem forC_inv {get : Nat → Mem → Option (Option D)} {body : D → Env → Mem → O} {M : Mem} (n : Nat) (I : Nat → Env → Prop) (hg : ∀ i, i < n → ∃ d, get i M = some (some d) ∧ ∀ ρ, I i ρ → ∃ ρ', body d ρ M = .nx ρ' M ∧ I (i + 1) ρ') (hn : get n M = some none) :
    ∀ (m i fuel : Nat) (ρ : Env), i + m = n → m < fuel → I i ρ → ∃ ρ', forC get body fuel i ρ M = .nx ρ' M ∧ I n ρ'
  | 0, i, fuel + 1, ρ, h, hf, hI => by
    have e : i = n := by omega
    subst e
    unfold forC
    rw [hn]
    exact ⟨ρ, rfl, hI⟩
  | m + 1, i, fuel + 1, ρ, h, hf, hI => by
    obtain ⟨d, e, st⟩ := hg i (by omega)
    obtain ⟨ρ1, h1, I1⟩ := st ρ hI
    obtain ⟨ρ2, h2, I2⟩ := forC_inv n I hg hn m (i + 1) fuel ρ1 (by omega) (by omega) I1
    refine ⟨ρ2, ?_, I2⟩
    unfold forC
    rw [e]
    dsimp only
    rw [h1]
    exact h2
/-- d is a list of xs -/
def IsL (M : Mem) (d : D) (xs : List D) : Prop := d = .lst xs ∨ d = .klst xs ∨ ∃ n, d = .ref n ∧ M[n]? = some (.lst xs)
theorem IsL.asL {d : D} {xs : List D} (h : IsL M d xs) : asL M d = some xs := by
  rcases h with rfl | rfl | ⟨n, rfl, e⟩
  · rfl
  · rfl
  · exact ev_asL_ref e
theorem enumD_get (xs : List D) (i : Nat) : (enumD 0 xs)[i]? = (xs[i]?).map fun d => .tup [.int (i : Nat), d] := by
  rw [enumD_at]
  simp
theorem for_enum {f : Env → Mem → R D} {body : D → Env → Mem → O} {ρ : Env} {M : Mem} {d : D} {xs : List D} (e : f ρ M = .ok d M) (hL : IsL M d xs) (I : Nat → Env → Prop) (h0 : I 0 ρ)
    (st : ∀ i x ρ, xs[i]? = some x → I i ρ → ∃ ρ', body (.tup [.int (i : Nat), x]) ρ M = .nx ρ' M ∧ I (i + 1) ρ') : ∃ ρ', sFor (fiA hEnum (faC f faN)) body ρ M = .nx ρ' M ∧ I xs.length ρ' := by
  have items : ∃ ρ', forI body (enumD 0 xs) ρ M = .nx ρ' M ∧ I xs.length ρ' := by
    obtain ⟨ρ', M', e1, hM, hI⟩ := for_inv (body := body) (ds := enumD 0 xs) (ρ := ρ) (M := M) (fun i ρ M' => M' = M ∧ I i ρ) ⟨rfl, h0⟩ (fun i d ρ M' hd ⟨hM, hI⟩ => by
      subst hM
      rw [enumD_get] at hd
      cases hx : xs[i]? with
      | none => rw [hx] at hd; cases hd
      | some x =>
        rw [hx] at hd
        cases hd
        obtain ⟨ρ1, e1, I1⟩ := st i x ρ hx hI
        exact ⟨ρ1, _, e1, rfl, I1⟩)
    subst hM
    have hl : (enumD 0 xs).length = xs.length := by
      have : ∀ (ys : List D) (n : Nat), (enumD n ys).length = ys.length := by
        intro ys
        induction ys with
        | nil => intro n; rfl
        | cons y ys ih => intro n; unfold enumD; rw [List.length_cons, ih, List.length_cons]
      exact this xs 0
    rw [hl] at hI
    exact ⟨ρ', e1, hI⟩
  rw [ev_sFor, ev_fiA, ev_faC, e]
  rcases hL with rfl | rfl | ⟨n, rfl, en⟩
  · exact items
  · exact items
  · have hh : hEnum [.ref n] M = some (.gen (xs.length + 1) (getE (.ref n))) := by
      unfold hEnum
      dsimp only
      rw [en]
    simp only [ev_bind_ok, ev_faN, hh, ev_ofO_some, ev_toO_ok]
    have gt : ∀ i, getE (.ref n) i M = match xs[i]? with
      | some x => some (some (.tup [.int (i : Nat), x]))
      | none => some none := fun i => by
      unfold getE getOf
      dsimp only
      rw [en]
      dsimp only
      cases xs[i]? <;> rfl
    refine forC_inv xs.length I (fun i hi => ?_) ?_ xs.length 0 _ ρ (by omega) (by omega) h0
    · have hx : xs[i]? = some xs[i] := List.getElem?_eq_getElem hi
      refine ⟨.tup [.int (i : Nat), xs[i]], by rw [gt, hx], fun ρ hI => st i _ ρ hx hI⟩
    · rw [gt, List.getElem?_eq_none (Nat.le_refl _)]
theorem compG_map {get : Nat → Mem → Option (Option D)} {step : D → Mem → R (Option D)} {M : Mem} {ds : List D} (F : D → D) (hg : ∀ i, get i M = some ds[i]?) (h : ∀ d ∈ ds, step d M = .ok (some (F d)) M) :
    ∀ (es : List D) (i : Nat), ds.drop i = es → compG get step (es.length + 1) i M = some (es.map F, M)
  | [], i, e => by
    have : ds[i]? = none := by
      rw [List.getElem?_eq_none_iff]
      have := congrArg List.length e
      simp at this
      omega
    unfold compG
    rw [hg, this]
    rfl
  | d :: es, i, e => by
    have e0 : ds[i]? = some d := by
      have := congrArg (fun l => l[0]?) e
      simpa using this
    have e1 : ds.drop (i + 1) = es := by
      rw [← List.drop_drop, e]
      rfl
    unfold compG
    rw [hg, e0]
    dsimp only
    rw [h d (List.mem_of_getElem? e0)]
    dsimp only
    rw [List.length_cons, compG_map F hg h es (i + 1) e1]
    rfl
/-- [f for x in d] where nothing changes -/
theorem compList {mt : Bool} {vs : List Nat} {fe : Env → Mem → R D} {g : D → Env → Option Env} {t : Env → Mem → R Bool} {f : Env → Mem → R D} {ρ : Env} {M : Mem} {d : D} {xs : List D} (F : D → D) (e : fe ρ M = .ok d M) (hL : IsL M d xs) (hz : xs.length < sizeLine)
    (h : ∀ x ∈ xs, compT g t f (wipeD ρ vs) x M = .ok (some (F x)) M) : fComp mt vs (fiL fe) g t f ρ M = newL mt (xs.map F) M := by
  rw [ev_fComp, ev_fiL, e, ev_bind_ok]
  rcases hL with rfl | rfl | ⟨n, rfl, en⟩
  · show R.bind (.ok (Src.items xs) M) _ = _
    rw [ev_bind_ok]
    dsimp only
    rw [if_pos hz, compMap F xs h]
    rfl
  · show R.bind (.ok (Src.items xs) M) _ = _
    rw [ev_bind_ok]
    dsimp only
    rw [if_pos hz, compMap F xs h]
    rfl
  · have hh : srcL (.ref n) M = some (.gen (xs.length + 1) (getOf (.ref n))) := by
      unfold srcL
      dsimp only
      rw [en]
    rw [hh, ev_ofO_some, ev_bind_ok]
    dsimp only
    rw [if_pos (by omega), compG_map (ds := xs) F (fun i => by
      unfold getOf
      dsimp only
      rw [en]) h xs 0 rfl]
    rfl
/-! texts -/
theorem strOk_of (s : String) : PyData.strOk (Str.ofString s) = true := by
  unfold PyData.strOk
  rw [Str.ofString_eq_toList]
  rw [List.all_toArray, List.all_eq_true]
  intro c hc
  obtain ⟨ch, _, rfl⟩ := List.mem_map.mp hc
  have h := ch.valid
  rw [decide_eq_true_eq]
  show ch.val.toNat < 0x110000
  rcases h with h | ⟨_, h⟩
  · exact Nat.lt_trans h (by decide)
  · exact h
theorem ev_repr_int {i : Int} (h : i.natAbs.log2 < 1920) : hRepr [.int i] M = .ok (.str (PyData.shown (.int i))) M := by
  unfold hRepr
  dsimp only
  show (match some (PyData.int i) with
    | some p => if PyData.showable p = true ∧ p.shown.length ≤ sizeLine then R.ok (D.str p.shown) M else R.err
    | none => R.err) = _
  dsimp only
  rw [if_pos]
  refine ⟨?_, ?_⟩
  · unfold PyData.showable
    exact decide_eq_true h
  · rw [PyData.shown_int]
    exact int_text_fits h
theorem ev_ne_str {x y : Str} (h1 : PyData.strOk x = true) (h2 : PyData.strOk y = true) : hNe (.str x) (.str y) M = some (.bl (!(PyData.eqv (.str x) (.str y)))) := by
  unfold hNe toPy
  dsimp only
  rw [if_pos h1, if_pos h2]
theorem ev_ne_repr (i : Int) : hNe (.str (PyData.shown (.int i))) (.str (PyData.shown (.int i))) M = some (.bl false) := by
  have h : PyData.strOk (PyData.shown (.int i)) = true := by
    rw [PyData.shown_int]
    exact strOk_of _
  rw [ev_ne_str h h]
  simp [PyData.eqv]
theorem toPy_ints (M : Mem) (k : Nat) : ∀ (ns : List Int), (ns.map D.int).mapM (toPy M (k + 1)) = some (ns.map PyData.int)
  | [] => eqq rfl
  | n :: ns => by
    rw [List.map_cons, List.mapM_cons, toPy_ints M k ns]
    rfl
theorem ev_ne_nil {sc : D} {ns : List Int} (h : sc = .lst (ns.map D.int) ∨ sc = .klst (ns.map D.int)) : hNe sc (.lst []) M = some (.bl (!ns.isEmpty)) := by
  have e : toPy M 40 sc = some (.list (ns.map PyData.int)) := by
    rcases h with rfl | rfl
    · unfold toPy
      dsimp only
      rw [toPy_ints]
      rfl
    · unfold toPy
      dsimp only
      rw [toPy_ints]
      rfl
  unfold hNe
  rw [e]
  show some (D.bl (!PyData.eqv (.list (ns.map PyData.int)) (.list []))) = _
  cases ns <;> simp [PyData.eqv, PyData.eqvAll]
theorem ev_len_sc {sc : D} {ns : List Int} (h : sc = .lst (ns.map D.int) ∨ sc = .klst (ns.map D.int)) : hLen [sc] M = .ok (.int ns.length) M := by
  rcases h with rfl | rfl
  · unfold hLen asL
    dsimp only
    rw [List.length_map]
  · unfold hLen asL
    dsimp only
    rw [List.length_map]
theorem ev_len_lst (xs : List D) : hLen [.lst xs] M = .ok (.int xs.length) M := eqq rfl
theorem ev_add_sc {sc : D} {ns : List Int} (h : sc = .lst (ns.map D.int) ∨ sc = .klst (ns.map D.int)) (ms : List Int) (hz : ns.length + ms.length ≤ sizeLine) : hAdd sc (.lst (ms.map D.int)) M = some (.lst ((ns ++ ms).map D.int)) := by
  have hz' : (ns.map D.int).length + (ms.map D.int).length ≤ sizeLine := by simpa using hz
  rcases h with rfl | rfl
  · rw [ev_addL hz', List.map_append]
  · unfold hAdd
    dsimp only [ev_asL_lst, ev_asL_klst]
    rw [List.map_append]
    exact if_pos hz'
theorem powX_of {i j : Int} (n : Nat) (hi : i.natAbs < 2 ^ n) (h0 : 0 ≤ j) (h : (n : Int) * j ≤ 134217728) : CPowX i j := by
  have a := bits_lt hi
  refine ⟨h0, Int.le_trans (Int.mul_le_mul_of_nonneg_right (by omega) h0) h⟩
theorem ev_gIx_ref {f g : Env → Mem → R D} {n : Nat} {i : Int} {xs : List D} {v : D} {j : Nat} (hf : f ρ M = .ok (.ref n) M) (hg : g ρ M = .ok (.int i) M) (hn : M[n]? = some (.lst xs)) (hj : L2.ixN xs.length i = some j) :
    gIx f g v ρ M = .nx ρ (M.set n (.lst (xs.set j v))) := by
  unfold gIx
  rw [hf, ev_toO_ok, hg, ev_toO_ok]
  dsimp only
  rw [hn]
  dsimp only
  rw [hj]
theorem cut_map {α β : Type} (f : α → β) (xs : List α) (lo hi : Option Int) : cutD (xs.map f) lo hi = (cutD xs lo hi).map f := by
  unfold cutD
  rw [List.length_map, List.map_take, List.map_drop]
theorem cut_len {α : Type} (xs : List α) (lo hi : Option Int) : (cutD xs lo hi).length ≤ xs.length := by
  unfold cutD
  rw [List.length_take, List.length_drop]
  omega
theorem ev_mul_rep {xs : List D} (k : Int) (h1 : -(2 ^ 63) ≤ k) (h2 : k < 2 ^ 63) (h : xs.length * k.toNat ≤ sizeLine) : hMul (.lst xs) (.int k) M = some (.lst (List.replicate k.toNat xs).flatten) := by
  unfold hMul asLm
  exact if_pos ⟨h1, h2, h⟩
/-! more loops -/
/-- a loop over what is asked for at each turn; what is asked for stays -/
theorem forC_invM {get : Nat → Mem → Option (Option D)} {body : D → Env → Mem → O} (n : Nat) (I : Nat → Env → Mem → Prop) (hg : ∀ i ρ M, i < n → I i ρ M → ∃ d, get i M = some (some d) ∧ ∃ ρ' M', body d ρ M = .nx ρ' M' ∧ I (i + 1) ρ' M') (hn : ∀ ρ M, I n ρ M → get n M = some none) :
    ∀ (m i fuel : Nat) (ρ : Env) (M : Mem), i + m = n → m < fuel → I i ρ M → ∃ ρ' M', forC get body fuel i ρ M = .nx ρ' M' ∧ I n ρ' M'
  | 0, i, fuel + 1, ρ, M, h, hf, hI => by
    have e : i = n := by omega
    subst e
    unfold forC
    rw [hn ρ M hI]
    exact ⟨ρ, M, rfl, hI⟩
  | m + 1, i, fuel + 1, ρ, M, h, hf, hI => by
    obtain ⟨d, e, ρ1, M1, h1, I1⟩ := hg i ρ M (by omega) hI
    obtain ⟨ρ2, M2, h2, I2⟩ := forC_invM n I hg hn m (i + 1) fuel ρ1 M1 (by omega) (by omega) I1
    refine ⟨ρ2, M2, ?_, I2⟩
    unfold forC
    rw [e]
    dsimp only
    rw [h1]
    exact h2
/-- for x in d: the list stays through the loop -/
theorem for_lst {f : Env → Mem → R D} {body : D → Env → Mem → O} {ρ : Env} {M : Mem} {d : D} {xs : List D} (e : f ρ M = .ok d M) (hL : IsL M d xs) (I : Nat → Env → Mem → Prop) (h0 : I 0 ρ M) (hk : ∀ i ρ M, I i ρ M → IsL M d xs)
    (st : ∀ i x ρ M, xs[i]? = some x → I i ρ M → ∃ ρ' M', body x ρ M = .nx ρ' M' ∧ I (i + 1) ρ' M') : ∃ ρ' M', sFor (fiL f) body ρ M = .nx ρ' M' ∧ I xs.length ρ' M' := by
  rw [ev_sFor, ev_fiL, e]
  rcases hL with rfl | rfl | ⟨n, rfl, en⟩
  · exact for_inv I h0 st
  · exact for_inv I h0 st
  · have hh : srcL (.ref n) M = some (.gen (xs.length + 1) (getOf (.ref n))) := by
      unfold srcL
      dsimp only
      rw [en]
    simp only [ev_bind_ok, hh, ev_ofO_some, ev_toO_ok]
    have gt : ∀ i ρ M', I i ρ M' → ∀ j, getOf (.ref n) j M' = some xs[j]? := fun i ρ M' hI j => by
      rcases hk i ρ M' hI with h | h | ⟨n', h, e'⟩
      · cases h
      · cases h
      · cases h
        unfold getOf
        dsimp only
        rw [e']
    refine forC_invM xs.length I (fun i ρ M' hi hI => ?_) (fun ρ M' hI => ?_) xs.length 0 _ ρ M (by omega) (by omega) h0
    · have hx : xs[i]? = some xs[i] := List.getElem?_eq_getElem hi
      exact ⟨xs[i], by rw [gt i ρ M' hI, hx], st i _ ρ M' hx hI⟩
    · rw [gt _ ρ M' hI, List.getElem?_eq_none (Nat.le_refl _)]
/-- a comprehension with a test -/
theorem compFilter {step : D → Mem → R (Option D)} {M : Mem} (F : D → Option D) : ∀ (ds : List D), (∀ d ∈ ds, step d M = .ok (F d) M) → compI step ds M = some (ds.filterMap F, M)
  | [], h => eqq rfl
  | d :: ds, h => by
    unfold compI
    rw [h d List.mem_cons_self]
    dsimp only
    rw [compFilter F ds (fun x hx => h x (List.mem_cons_of_mem _ hx)), List.filterMap_cons]
    cases F d <;> rfl
theorem compGF {get : Nat → Mem → Option (Option D)} {step : D → Mem → R (Option D)} {M : Mem} {ds : List D} (F : D → Option D) (hg : ∀ i, get i M = some ds[i]?) (h : ∀ d ∈ ds, step d M = .ok (F d) M) :
    ∀ (es : List D) (i : Nat), ds.drop i = es → compG get step (es.length + 1) i M = some (es.filterMap F, M)
  | [], i, e => by
    have : ds[i]? = none := by
      rw [List.getElem?_eq_none_iff]
      have := congrArg List.length e
      simp at this
      omega
    unfold compG
    rw [hg, this]
    rfl
  | d :: es, i, e => by
    have e0 : ds[i]? = some d := by
      have := congrArg (fun l => l[0]?) e
      simpa using this
    have e1 : ds.drop (i + 1) = es := by
      rw [← List.drop_drop, e]
      rfl
    unfold compG
    rw [hg, e0]
    dsimp only
    rw [h d (List.mem_of_getElem? e0)]
    dsimp only
    rw [List.length_cons, compGF F hg h es (i + 1) e1, List.filterMap_cons]
    cases F d <;> rfl
/-- [f for x in d if t] where nothing changes -/
theorem compListF {mt : Bool} {vs : List Nat} {fe : Env → Mem → R D} {g : D → Env → Option Env} {t : Env → Mem → R Bool} {f : Env → Mem → R D} {ρ : Env} {M : Mem} {d : D} {xs : List D} (F : D → Option D) (e : fe ρ M = .ok d M) (hL : IsL M d xs) (hz : xs.length < sizeLine)
    (h : ∀ x ∈ xs, compT g t f (wipeD ρ vs) x M = .ok (F x) M) : fComp mt vs (fiL fe) g t f ρ M = newL mt (xs.filterMap F) M := by
  rw [ev_fComp, ev_fiL, e, ev_bind_ok]
  rcases hL with rfl | rfl | ⟨n, rfl, en⟩
  · show R.bind (.ok (Src.items xs) M) _ = _
    rw [ev_bind_ok]
    dsimp only
    rw [if_pos hz, compFilter F xs h]
    rfl
  · show R.bind (.ok (Src.items xs) M) _ = _
    rw [ev_bind_ok]
    dsimp only
    rw [if_pos hz, compFilter F xs h]
    rfl
  · have hh : srcL (.ref n) M = some (.gen (xs.length + 1) (getOf (.ref n))) := by
      unfold srcL
      dsimp only
      rw [en]
    rw [hh, ev_ofO_some, ev_bind_ok]
    dsimp only
    rw [if_pos (by omega), compGF (ds := xs) F (fun i => by
      unfold getOf
      dsimp only
      rw [en]) h xs 0 rfl]
    rfl
end
end Fx

set_option Elab.async false
set_option linter.all false
set_option maxRecDepth 100000
set_option maxHeartbeats 4000000
/-! the walk of the law over the layer; printed by gen.py -/
namespace Pf
open PySem PySem.Spec PyProof.Rows L2 Fx
def top (i : Nat) : Stmt := PySem.Challenge.pw_bitstages_k49_counts_by_listing.main.body.getD i (.Pass ⟨0, 0, 0, 0⟩)
theorem bt_range : bootBuiltins "range" = some (.type "range") := by decide +kernel
theorem bt_isinstance : bootBuiltins "isinstance" = some (.builtin "isinstance") := by decide +kernel
theorem bt_bool : bootBuiltins "bool" = some (.type "bool") := by decide +kernel
theorem bt_int : bootBuiltins "int" = some (.type "int") := by decide +kernel
theorem bt_sum : bootBuiltins "sum" = some (.builtin "sum") := by decide +kernel
theorem bt_len : bootBuiltins "len" = some (.builtin "len") := by decide +kernel
theorem bt_min : bootBuiltins "min" = some (.builtin "min") := by decide +kernel
theorem bt_enumerate : bootBuiltins "enumerate" = some (.type "enumerate") := by decide +kernel
theorem bt_list : bootBuiltins "list" = some (.type "list") := by decide +kernel
theorem bt_repr : bootBuiltins "repr" = some (.builtin "repr") := by decide +kernel
theorem bt_max : bootBuiltins "max" = some (.builtin "max") := by decide +kernel
theorem bt_abs : bootBuiltins "abs" = some (.builtin "abs") := by decide +kernel
/-! common_divisor -/
abbrev s_common_divisor : Stmt := top 15
noncomputable def b_common_divisor : Fx.Env → Mem → O := sSeq (whileF (fB (fbin hGt (fv 1) (fc (.int 0)))) (sPar 0 1 (faC (fv 1) (faC (fbin hMod (fv 0) (fv 1)) (faN)))) 6000) (sRet (fv 0))
noncomputable def g_common_divisor : List D → Mem → R D := clo (fnF 2 2 true b_common_divisor)
theorem sc_common_divisor : FnScope ["one", "other"] ["one", "other"] (defScope s_common_divisor) := ⟨rfl, rfl, rfl, by decide +kernel, rfl, by decide +kernel, by decide +kernel⟩
/-! mappings_of -/
abbrev s_mappings_of : Stmt := top 12
noncomputable def b_mappings_of : Fx.Env → Mem → O := sSeq (sSet 1 (fbin hShl (fc (.int 1)) (fv 0))) (sSeq (sFor (fiA (fun ds _ => hRange1 ds) (faC (fv 0) (faN))) (bodyF (gw (gN 2)) (sAug 1 hMulI (fbin hSub (fbin hShl (fc (.int 1)) (fv 0)) (fbin hShl (fc (.int 1)) (fv 2)))))) (sRet (fv 1)))
noncomputable def g_mappings_of : List D → Mem → R D := clo (fnF 3 1 true b_mappings_of)
theorem sc_mappings_of : FnScope ["bits", "found", "bit"] ["bits"] (defScope s_mappings_of) := ⟨rfl, rfl, rfl, by decide +kernel, rfl, by decide +kernel, by decide +kernel⟩
/-! need_few -/
abbrev s_need_few : Stmt := top 8
noncomputable def b_need_few : Fx.Env → Mem → O := sIf (fB (fbin hGt (fv 0) (fv 1))) (sErr) (sNil)
noncomputable def g_need_few : List D → Mem → R D := clo (fnF 2 2 true b_need_few)
theorem sc_need_few : FnScope ["bits", "limit"] ["bits", "limit"] (defScope s_need_few) := ⟨rfl, rfl, rfl, by decide +kernel, rfl, by decide +kernel, by decide +kernel⟩
/-! is_integer -/
abbrev s_is_integer : Stmt := top 6
noncomputable def b_is_integer : Fx.Env → Mem → O := sSeq (sIf (fOrB (fNotB (fTru (fBlt hIsi (faC (fv 0) (faC (fc (.ty "int")) (faN)))))) (fTru (fBlt hIsi (faC (fv 0) (faC (fc (.ty "bool")) (faN)))))) (sRet (fc (.bl false))) (sNil)) (sRet (fAndV (fOrV (fbin hIsN (fv 1) (fc .non)) (fbin hGe (fv 0) (fv 1))) (fOrV (fbin hIsN (fv 2) (fc .non)) (fbin hLe (fv 0) (fv 2)))))
noncomputable def g_is_integer : List D → Mem → R D := clo (fnF 3 3 true b_is_integer)
theorem sc_is_integer : FnScope ["value", "low", "high"] ["value", "low", "high"] (defScope s_is_integer) := ⟨rfl, rfl, rfl, by decide +kernel, rfl, by decide +kernel, by decide +kernel⟩
/-! need_bits -/
abbrev s_need_bits : Stmt := top 7
noncomputable def b_need_bits : Fx.Env → Mem → O := sIf (fNotB (fTru (fCall g_is_integer [] (faC (fv 0) (faC (fc (.int 1)) (faC (fc (.int 60)) (faN))))))) (sErr) (sNil)
noncomputable def g_need_bits : List D → Mem → R D := clo (fnF 1 1 true b_need_bits)
theorem sc_need_bits : FnScope ["bits"] ["bits"] (defScope s_need_bits) := ⟨rfl, rfl, rfl, by decide +kernel, rfl, by decide +kernel, by decide +kernel⟩
/-! need_counted -/
abbrev s_need_counted : Stmt := top 11
noncomputable def b_need_counted : Fx.Env → Mem → O := sSeq (sExpr (fCall g_need_bits [] (faC (fv 0) (faN)))) (sExpr (fCall g_need_few [] (faC (fv 0) (faC (fc (.int 50)) (faN)))))
noncomputable def g_need_counted : List D → Mem → R D := clo (fnF 1 1 true b_need_counted)
theorem sc_need_counted : FnScope ["bits"] ["bits"] (defScope s_need_counted) := ⟨rfl, rfl, rfl, by decide +kernel, rfl, by decide +kernel, by decide +kernel⟩
/-! share_of -/
abbrev s_share_of : Stmt := top 18
noncomputable def b_share_of : Fx.Env → Mem → O := sSeq (sExpr (fCall g_need_counted [] (faC (fv 0) (faN)))) (sSeq (sPar 1 2 (faC (fbin hShl (fc (.int 1)) (fbin hMul (fv 0) (fv 0))) (faC (fCall g_mappings_of [] (faC (fv 0) (faN))) (faN)))) (sSeq (sSet 3 (fCall g_common_divisor [] (faC (fv 2) (faC (fv 1) (faN))))) (sRet (fTup (faC (fbin hDiv (fv 1) (fv 3)) (faC (fbin hDiv (fv 2) (fv 3)) (faN)))))))
noncomputable def g_share_of : List D → Mem → R D := clo (fnF 4 1 true b_share_of)
theorem sc_share_of : FnScope ["bits", "going", "whole", "common"] ["bits"] (defScope s_share_of) := ⟨rfl, rfl, rfl, by decide +kernel, rfl, by decide +kernel, by decide +kernel⟩
/-! choices_of -/
abbrev s_choices_of : Stmt := top 13
noncomputable def b_choices_of : Fx.Env → Mem → O := sSeq (sSet 1 (fLst true (faC (fc (.int 1)) (faN)))) (sSeq (sFor (fiA (fun ds _ => hRange1 ds) (faC (fv 0) (faN))) (bodyF (gw (gN 2)) (sExpr (fMth isL hAppend (fv 1) (faC (fbin hDiv (fbin hMul (fbin hIx (fv 1) (fun1 hNeg (fc (.int 1)))) (fbin hSub (fv 0) (fv 2))) (fbin hAdd (fv 2) (fc (.int 1)))) (faN)))))) (sRet (fv 1)))
noncomputable def g_choices_of : List D → Mem → R D := clo (fnF 3 1 true b_choices_of)
theorem sc_choices_of : FnScope ["many", "found", "chosen"] ["many"] (defScope s_choices_of) := ⟨rfl, rfl, rfl, by decide +kernel, rfl, by decide +kernel, by decide +kernel⟩
/-! ringless_of -/
abbrev s_ringless_of : Stmt := top 14
noncomputable def b_ringless_of : Fx.Env → Mem → O := sSeq (sSet 1 (fLst true (faC (fc (.int 1)) (faN)))) (sSeq (sFor (fiA (fun ds _ => hRange2 ds) (faC (fc (.int 1)) (faC (fbin hAdd (fv 0) (fc (.int 1))) (faN)))) (bodyF (gw (gN 2)) (sSeq (sSet 3 (fCall g_choices_of [] (faC (fv 2) (faN)))) (sSeq (sSet 4 (fComp false [5] (fiA (fun ds _ => hRange2 ds) (faC (fc (.int 1)) (faC (fbin hAdd (fv 2) (fc (.int 1))) (faN)))) (gN 5) (fYes) (fbin hShl (fbin hMul (fbin hIx (fv 3) (fv 5)) (fbin hIx (fv 1) (fbin hSub (fv 2) (fv 5)))) (fbin hMul (fv 5) (fbin hSub (fv 2) (fv 5)))))) (sExpr (fMth isL hAppend (fv 1) (faC (fbin hSub (fBlt hSum (faC (fSlS false (fv 4) (fpN) (fpN) (fpS (fc (.int 2)))) (faN))) (fBlt hSum (faC (fSlS false (fv 4) (fpS (fc (.int 1))) (fpN) (fpS (fc (.int 2)))) (faN)))) (faN)))))))) (sRet (fbin hIx (fv 1) (fun1 hNeg (fc (.int 1))))))
noncomputable def g_ringless_of : List D → Mem → R D := clo (fnF 6 1 true b_ringless_of)
theorem sc_ringless_of : FnScope ["bits", "found", "many", "choices", "parts", "few"] ["bits"] (defScope s_ringless_of) := ⟨rfl, rfl, rfl, by decide +kernel, rfl, by decide +kernel, by decide +kernel⟩
/-! always_count -/
abbrev s_always_count : Stmt := top 17
noncomputable def b_always_count : Fx.Env → Mem → O := sSeq (sExpr (fCall g_need_counted [] (faC (fv 0) (faN)))) (sRet (fbin hShl (fCall g_ringless_of [] (faC (fv 0) (faN))) (fv 0)))
noncomputable def g_always_count : List D → Mem → R D := clo (fnF 1 1 true b_always_count)
theorem sc_always_count : FnScope ["bits"] ["bits"] (defScope s_always_count) := ⟨rfl, rfl, rfl, by decide +kernel, rfl, by decide +kernel, by decide +kernel⟩
/-! _law_draw -/
abbrev s__law_draw : Stmt := top 21
noncomputable def b__law_draw : Fx.Env → Mem → O := sSeq (sIf (fB (fbin hGt (fbin hIx (fv 0) (fc (.int 0))) (fc (.int 0)))) (sSeq (sSet 2 (fbin hMod (fBlt hInt (faC (fbin hIx (fv 0) (fc (.int 0))) (faN))) (fv 1))) (sSeq (sAsg (fbin hDiv (fbin hIx (fv 0) (fc (.int 0))) (fv 1)) (gIx (fv 0) (fc (.int 0)))) (sRet (fv 2)))) (sNil)) (sSeq (sAsg (fbin hAdd (fbin hIx (fv 0) (fc (.int 2))) (fc (.int 1))) (gIx (fv 0) (fc (.int 2)))) (sSeq (sSet 3 (fbin hMod (fBlt hInt (faC (fbin hPow (fbin hAdd (fbin hIx (fv 0) (fc (.int 1))) (fbin hMul (fc (.int 700001)) (fbin hIx (fv 0) (fc (.int 2))))) (fc (.int 3))) (faN))) (fbin hAdd (fbin hPow (fc (.int 10)) (fc (.int 39))) (fc (.int 3))))) (sSeq (sSet 3 (fbin hMod (fBlt hInt (faC (fbin hPow (fbin hAdd (fbin hMul (fv 3) (fbin hIx (fv 0) (fc (.int 2)))) (fc (.int 90031))) (fc (.int 3))) (faN))) (fbin hAdd (fbin hPow (fc (.int 10)) (fc (.int 41))) (fc (.int 81))))) (sRet (fbin hMod (fBlt hInt (faC (fbin hDiv (fv 3) (fc (.int 131101))) (faN))) (fv 1))))))
noncomputable def g__law_draw : List D → Mem → R D := fnF 4 2 true b__law_draw
theorem sc__law_draw : FnScope ["source", "count", "digit", "mixed"] ["source", "count"] (defScope s__law_draw) := ⟨rfl, rfl, rfl, by decide +kernel, rfl, by decide +kernel, by decide +kernel⟩
/-! _law_least -/
abbrev s__law_least : Stmt := top 28
noncomputable def b__law_least : Fx.Env → Mem → O := sSeq (sPar 2 3 (faC (fv 0) (faC (fv 1) (faN)))) (sSeq (whileF (fB (fbin hGt (fv 3) (fc (.int 0)))) (sPar 2 3 (faC (fv 3) (faC (fbin hMod (fBlt hInt (faC (fv 2) (faN))) (fv 3)) (faN)))) 100) (sRet (fTup (faC (fbin hDiv (fv 0) (fv 2)) (faC (fbin hDiv (fv 1) (fv 2)) (faN))))))
noncomputable def g__law_least : List D → Mem → R D := clo (fnF 4 2 true b__law_least)
theorem sc__law_least : FnScope ["one", "two", "first", "second"] ["one", "two"] (defScope s__law_least) := ⟨rfl, rfl, rfl, by decide +kernel, rfl, by decide +kernel, by decide +kernel⟩
/-! mapping_count -/
abbrev s_mapping_count : Stmt := top 16
noncomputable def b_mapping_count : Fx.Env → Mem → O := sSeq (sExpr (fCall g_need_counted [] (faC (fv 0) (faN)))) (sRet (fCall g_mappings_of [] (faC (fv 0) (faN))))
noncomputable def g_mapping_count : List D → Mem → R D := clo (fnF 1 1 true b_mapping_count)
theorem sc_mapping_count : FnScope ["bits"] ["bits"] (defScope s_mapping_count) := ⟨rfl, rfl, rfl, by decide +kernel, rfl, by decide +kernel, by decide +kernel⟩
/-! _law_count -/
abbrev s__law_count : Stmt := top 22
noncomputable def b__law_count : Fx.Env → Mem → O := sSeq (sSet 1 (fLst true (faN))) (sSeq (sFor (fiL (fv 0)) (bodyF (gw (gN 2)) (sSeq (sFor (fiL (fv 1)) (bodyF (gw (gN 3)) (sSet 2 (fBlt hMin2 (faC (fv 2) (faC (fbin hXor (fv 2) (fv 3)) (faN))))))) (sIf (fB (fbin hGt (fv 2) (fc (.int 0)))) (sExpr (fMth isL hAppend (fv 1) (faC (fv 2) (faN)))) (sNil))))) (sRet (fBlt hLen (faC (fv 1) (faN)))))
noncomputable def g__law_count : List D → Mem → R D := clo (fnF 4 1 true b__law_count)
theorem sc__law_count : FnScope ["masks_here", "kept", "sieve", "other"] ["masks_here"] (defScope s__law_count) := ⟨rfl, rfl, rfl, by decide +kernel, rfl, by decide +kernel, by decide +kernel⟩
/-! _law_is_whole -/
abbrev s__law_is_whole : Stmt := top 26
noncomputable def b__law_is_whole : Fx.Env → Mem → O := sSeq (sSet 2 (fComp false [3, 4] (fiA hEnum (faC (fv 0) (faN))) (gT2 3 4) (fB (fbin hEq (fbin hAnd (fbin hShr (fv 1) (fv 3)) (fc (.int 1))) (fc (.int 1)))) (fbin hAnd (fv 4) (fv 1)))) (sRet (fbin hEq (fCall g__law_count [] (faC (fv 2) (faN))) (fBlt hLen (faC (fv 2) (faN)))))
noncomputable def g__law_is_whole : List D → Mem → R D := clo (fnF 5 2 true b__law_is_whole)
theorem sc__law_is_whole : FnScope ["rows", "some", "parts", "k", "row"] ["rows", "some"] (defScope s__law_is_whole) := ⟨rfl, rfl, rfl, by decide +kernel, rfl, by decide +kernel, by decide +kernel⟩
/-! _law_goes -/
abbrev s__law_goes : Stmt := top 27
noncomputable def b__law_goes : Fx.Env → Mem → O := sSeq (sSet 2 (fc (.int 0))) (sSeq (sFor (fiL (fv 1)) (bodyF (gw (gN 3)) (sSeq (sSet 2 (fbin hOr (fv 2) (fbin hShl (fc (.int 1)) (fv 3)))) (sIf (fNotB (fTru (fCall g__law_is_whole [] (faC (fv 0) (faC (fv 2) (faN)))))) (sRet (fc (.bl false))) (sNil))))) (sRet (fc (.bl true))))
noncomputable def g__law_goes : List D → Mem → R D := clo (fnF 4 2 true b__law_goes)
theorem sc__law_goes : FnScope ["rows", "seq", "some", "k"] ["rows", "seq"] (defScope s__law_goes) := ⟨rfl, rfl, rfl, by decide +kernel, rfl, by decide +kernel, by decide +kernel⟩
/-! _law_mixed -/
abbrev s__law_mixed : Stmt := top 23
noncomputable def b__law_mixed : Fx.Env → Mem → O := sSeq (sPar 2 3 (faC (fBlt hListM (faC (fv 1) (faN))) (faC (fLst true (faN)) (faN)))) (sSeq (whileF (fB (fbin hNe (fv 2) (fLst false (faN)))) (sExpr (fMth isL hAppend (fv 3) (faC (fMth isL hPop (fv 2) (faC (fCall g__law_draw [] (faC (fv 0) (faC (fBlt hLen (faC (fv 2) (faN))) (faN)))) (faN))) (faN)))) 100) (sRet (fv 3)))
noncomputable def g__law_mixed : List D → Mem → R D := fnF 4 2 true b__law_mixed
theorem sc__law_mixed : FnScope ["source", "some", "left", "found"] ["source", "some"] (defScope s__law_mixed) := ⟨rfl, rfl, rfl, by decide +kernel, rfl, by decide +kernel, by decide +kernel⟩
/-! _law_sequence -/
abbrev s__law_sequence : Stmt := top 24
noncomputable def b__law_sequence : Fx.Env → Mem → O := sSeq (sSet 2 (fLRg1 false (fv 1))) (sSeq (sSet 3 (fCall g__law_draw [] (faC (fv 0) (faC (fc (.int 4)) (faN))))) (sSeq (sIf (fB (fbin hEq (fv 3) (fc (.int 0)))) (sRet (fv 2)) (sNil)) (sRet (fIfE (fB (fbin hEq (fv 3) (fc (.int 1)))) (fSlS false (fv 2) (fpN) (fpN) (fpS (fun1 hNeg (fc (.int 1))))) (fCall g__law_mixed [] (faC (fv 0) (faC (fv 2) (faN))))))))
noncomputable def g__law_sequence : List D → Mem → R D := fnF 4 2 true b__law_sequence
theorem sc__law_sequence : FnScope ["source", "size", "some", "way"] ["source", "size"] (defScope s__law_sequence) := ⟨rfl, rfl, rfl, by decide +kernel, rfl, by decide +kernel, by decide +kernel⟩
/-! _law_lists -/
abbrev s__law_lists : Stmt := top 25
noncomputable def b__law_lists : Fx.Env → Mem → O := sSeq (sSet 1 (fLst false (faC (fLst false (faN)) (faN)))) (sSeq (sFor (fiA (fun ds _ => hRange1 ds) (faC (fv 0) (faN))) (bodyF (gw (gN 2)) (sSeq (sSet 3 (fLst true (faN))) (sSeq (sFor (fiL (fv 1)) (bodyF (gw (gN 4)) (sFor (fiA (fun ds _ => hRange1 ds) (faC (fbin hShl (fc (.int 1)) (fv 0)) (faN))) (bodyF (gw (gN 5)) (sExpr (fMth isL hAppend (fv 3) (faC (fbin hAdd (fv 4) (fLst false (faC (fv 5) (faN)))) (faN)))))))) (sSet 1 (fv 3)))))) (sRet (fv 1)))
noncomputable def g__law_lists : List D → Mem → R D := clo (fnF 6 1 true b__law_lists)
theorem sc__law_lists : FnScope ["size", "found", "turn", "longer", "rows", "sieve"] ["size"] (defScope s__law_lists) := ⟨rfl, rfl, rfl, by decide +kernel, rfl, by decide +kernel, by decide +kernel⟩
/-! _law_right -/
abbrev s__law_right : Stmt := top 29
noncomputable def b__law_right : Fx.Env → Mem → O := sSeq (sSet 2 (fComp false [6] (fiL (fCall g__law_lists [] (faC (fv 1) (faN)))) (gN 6) (fTru (fCall g__law_is_whole [] (faC (fv 6) (faC (fbin hSub (fbin hShl (fc (.int 1)) (fv 1)) (fc (.int 1))) (faN))))) (fv 6))) (sSeq (sAsg (fTup (faC (fbin hShl (fBlt hLen (faC (fv 2) (faN))) (fv 1)) (faC (fc (.int 0)) (faC (fCall g__law_sequence [] (faC (fv 0) (faC (fv 1) (faN)))) (faN))))) (gw (gT3 3 4 5))) (sSeq (sFor (fiL (fv 2)) (bodyF (gw (gN 6)) (sSet 4 (fbin hAdd (fv 4) (fBlt hInt (faC (fbin hEq (fComp false [10] (fiA (fun ds _ => hRange1 ds) (faC (fbin hShl (fc (.int 1)) (fv 1)) (faN))) (gN 10) (fNotB (fTru (fCall g__law_is_whole [] (faC (fv 6) (faC (fv 10) (faN)))))) (fc (.int 1))) (fLst false (faN))) (faN))))))) (sSeq (sSet 7 (fbin hShl (fBlt hLen (faC (fComp false [6] (fiL (fv 2)) (gN 6) (fTru (fCall g__law_goes [] (faC (fv 6) (faC (fv 5) (faN))))) (fc (.int 1))) (faN))) (fv 1))) (sSeq (sSet 8 (fLst false (faC (fCall g_mapping_count [] (faC (fv 1) (faN))) (faC (fCallK g_mapping_count (kp 0 1 [(true, 0)]) (faN) (faC (fv 1) (faN))) (faC (fCall g_always_count [] (faC (fv 1) (faN))) (faC (fCallK g_always_count (kp 0 1 [(true, 0)]) (faN) (faC (fv 1) (faN))) (faN))))))) (sSeq (sIf (fB (fbin hNe (fBlt hRepr (faC (fv 8) (faN))) (fBlt hRepr (faC (fbin hAdd (fbin hMul (fLst false (faC (fv 3) (faN))) (fc (.int 2))) (fbin hMul (fLst false (faC (fbin hShl (fv 4) (fv 1)) (faN))) (fc (.int 2)))) (faN))))) (sRet (fc (.bl false))) (sNil)) (sSeq (sSet 9 (fCall g__law_least [] (faC (fv 7) (faC (fv 3) (faN))))) (sRet (fbin hEq (fBlt hRepr (faC (fLst false (faC (fCall g_share_of [] (faC (fv 1) (faN))) (faC (fCallK g_share_of (kp 0 1 [(true, 0)]) (faN) (faC (fv 1) (faN))) (faN)))) (faN))) (fBlt hRepr (faC (fLst false (faC (fv 9) (faC (fv 9) (faN)))) (faN)))))))))))
noncomputable def g__law_right : List D → Mem → R D := fnF 11 2 true b__law_right
theorem sc__law_right : FnScope ["source", "size", "wholes", "every", "always", "seq", "rows", "going", "told", "due", "some"] ["source", "size"] (defScope s__law_right) := ⟨rfl, rfl, rfl, by decide +kernel, rfl, by decide +kernel, by decide +kernel⟩
/-! _law_source -/
abbrev s__law_source : Stmt := top 20
noncomputable def b__law_source : Fx.Env → Mem → O := sSeq (sSet 2 (fBlt hAbs (faC (fv 0) (faN)))) (sRet (fLst true (faC (fBlt hMax2 (faC (fc (.int 0)) (faC (fbin hSub (fv 2) (fbin hPow (fc (.int 10)) (fc (.int 18)))) (faN)))) (faC (fbin hAdd (fbin hAdd (fbin hMul (fbin hMod (fBlt hInt (faC (fv 2) (faN))) (fbin hAdd (fbin hPow (fc (.int 10)) (fc (.int 43))) (fc (.int 57)))) (fc (.int 89))) (fbin hMul (fc (.int 2)) (fv 1))) (fBlt hInt (faC (fbin hLt (fv 0) (fc (.int 0))) (faN)))) (faC (fc (.int 0)) (faN))))))
noncomputable def g__law_source : List D → Mem → R D := fnF 3 2 true b__law_source
theorem sc__law_source : FnScope ["cell", "k", "great"] ["cell", "k"] (defScope s__law_source) := ⟨rfl, rfl, rfl, by decide +kernel, rfl, by decide +kernel, by decide +kernel⟩
/-! law -/
abbrev s_law : Stmt := top 30
noncomputable def b_law : Fx.Env → Mem → O := sSeq (sFor (fiA hEnum (faC (fSl false (fbin hAdd (fv 0) (fLst false (faC (fc (.int 0)) (faN)))) (fpN) (fpS (fBlt hMax2 (faC (fc (.int 1)) (faC (fBlt hMin2 (faC (fBlt hLen (faC (fv 0) (faN))) (faC (fc (.int 3)) (faN)))) (faN)))))) (faN))) (bodyF (gw (gT2 1 2)) (sSeq (sSet 3 (fCall g__law_source [] (faC (fv 2) (faC (fv 1) (faN))))) (sFor (fiL (fIfE (fAndB (fB (fbin hEq (fv 1) (fc (.int 0)))) (fB (fbin hNe (fv 0) (fLst false (faN))))) (fLst false (faC (fc (.int 1)) (faC (fc (.int 2)) (faC (fc (.int 3)) (faN))))) (fLst false (faC (fbin hAdd (fc (.int 1)) (fCall g__law_draw [] (faC (fv 3) (faC (fc (.int 2)) (faN))))) (faN))))) (bodyF (gw (gN 4)) (sIf (fNotB (fTru (fCall g__law_right [] (faC (fv 3) (faC (fv 4) (faN)))))) (sRet (fc (.bl false))) (sNil))))))) (sRet (fAndV (fbin hEq (fComp false [4] (fiT (fTup (faC (fc (.int 4)) (faC (fc (.int 5)) (faN))))) (gN 4) (fYes) (fCall g_always_count [] (faC (fv 4) (faN)))) (fLst false (faC (fc (.int 8688)) (faC (fc (.int 936992)) (faN))))) (fbin hEq (fCall g_share_of [] (faC (fc (.int 3)) (faN))) (fTup (faC (fc (.int 8)) (faC (fc (.int 21)) (faN)))))))
noncomputable def g_law : List D → Mem → R D := clo (fnF 5 1 true b_law)
theorem sc_law : FnScope ["script", "k", "cell", "source", "size"] ["script"] (defScope s_law) := ⟨rfl, rfl, rfl, by decide +kernel, rfl, by decide +kernel, by decide +kernel⟩
section
variable {P : Program} {w : World} {K : PySem.W.Frag} {mg : Str → Option Value} {base : Heap} {f : Addr} {fd : FuncData}
theorem ok_common_divisor (F : FunD K "common_divisor" "common_divisor" (defArgs s_common_divisor) (defBody s_common_divisor) (defScope s_common_divisor) [] [] f fd) : FnG P w K mg base 1 f fd ["one", "other"] (spF K g_common_divisor) := by
  refine fn_clo (fn_ok F sc_common_divisor true b_common_divisor fun cdv A outer s H E hgd hr => ?_)
  have nd : (["one", "other"] : List Str).Nodup := sc_common_divisor.nd
  have hu := hu_rm hr
  refine fss_cons ?_ ?_
  · refine fs_while 6000 fn_passes (ft_cmp o_gt (fv_ 1) (fe_int) rfl) ?_
    refine fss_one ?_
    exact fs_par (i := 0) (j := 1) rfl nd rfl rfl (by decide) rfl rfl (fa_cons (fv_ 1) (fa_cons (fe_bin o_mod (fv_ 0) (fv_ 1)) (fa_nil))) rfl rfl
  refine fss_one ?_
  exact fs_ret (fv_ 0)
theorem ok_mappings_of (F : FunD K "mappings_of" "mappings_of" (defArgs s_mappings_of) (defBody s_mappings_of) (defScope s_mappings_of) [] [] f fd) (z_range : mg "range" = none) : FnG P w K mg base 1 f fd ["bits"] (spF K g_mappings_of) := by
  refine fn_clo (fn_ok F sc_mappings_of true b_mappings_of fun cdv A outer s H E hgd hr => ?_)
  have nd : (["bits", "found", "bit"] : List Str).Nodup := sc_mappings_of.nd
  have hu := hu_rm hr
  refine fss_cons ?_ ?_
  · exact fs_set (i := 1) nd rfl (by first | exact .inl rfl | exact .inr rfl) (fe_bin o_shl (fe_int) (fv_ 0))
  refine fss_cons ?_ ?_
  · refine fs_for fn_passes rfl (fi_range1 (by rfl) z_range (fa_cons (fv_ 0) (fa_nil))) (fg_w (vs := [2]) (fgw_name (i := 2) nd rfl (by first | exact .inl rfl | exact .inr rfl) (by decide))) ?_
    refine fss_one ?_
    exact fs_aug (i := 1) nd rfl (by first | exact .inl rfl | exact .inr rfl) (fe_bin o_sub (fe_bin o_shl (fe_int) (fv_ 0)) (fe_bin o_shl (fe_int) (fv_ 2))) i_mul
  refine fss_one ?_
  exact fs_ret (fv_ 1)
theorem ok_need_few (F : FunD K "need_few" "need_few" (defArgs s_need_few) (defBody s_need_few) (defScope s_need_few) [] [] f fd) : FnG P w K mg base 1 f fd ["bits", "limit"] (spF K g_need_few) := by
  refine fn_clo (fn_ok F sc_need_few true b_need_few fun cdv A outer s H E hgd hr => ?_)
  have nd : (["bits", "limit"] : List Str).Nodup := sc_need_few.nd
  have hu := hu_rm hr
  refine fss_one ?_
  refine fs_if (ft_cmp o_gt (fv_ 0) (fv_ 1) rfl) ?_ ?_
  · refine fss_one ?_
    exact fs_err
  · exact fss_nil
theorem ok_is_integer (F : FunD K "is_integer" "is_integer" (defArgs s_is_integer) (defBody s_is_integer) (defScope s_is_integer) [.non, .non] [] f fd) (z_isinstance : mg "isinstance" = none) (z_bool : mg "bool" = none) (z_int : mg "int" = none) : FnG P w K mg base 1 f fd ["value", "low", "high"] (spF K g_is_integer) := by
  refine fn_clo (fn_ok F sc_is_integer true b_is_integer fun cdv A outer s H E hgd hr => ?_)
  have nd : (["value", "low", "high"] : List Str).Nodup := sc_is_integer.nd
  have hu := hu_rm hr
  refine fss_cons ?_ ?_
  · refine fs_if (ft_w (fw_or (ft_not (ft_tru (fe_blt (c_isi) (by rfl) z_isinstance bt_isinstance (fa_cons (fv_ 0) (fa_cons (fe_bltn (v := .ty "int") (by rfl) z_int bt_int rfl (fun _ _ => .ty _)) (fa_nil)))))) (fw_or1 (ft_tru (fe_blt (c_isi) (by rfl) z_isinstance bt_isinstance (fa_cons (fv_ 0) (fa_cons (fe_bltn (v := .ty "bool") (by rfl) z_bool bt_bool rfl (fun _ _ => .ty _)) (fa_nil)))))))) ?_ ?_
    · refine fss_one ?_
      exact fs_ret (fe_bl)
    · exact fss_nil
  refine fss_one ?_
  exact fs_ret (fe_and (fe_or (fe_cmp o_is (fv_ 1) (fe_non) rfl) (fe_one (fe_cmp o_ge (fv_ 0) (fv_ 1) rfl))) (fe_one (fe_or (fe_cmp o_is (fv_ 2) (fe_non) rfl) (fe_one (fe_cmp o_le (fv_ 0) (fv_ 2) rfl)))))
theorem ok_need_bits (F : FunD K "need_bits" "need_bits" (defArgs s_need_bits) (defBody s_need_bits) (defScope s_need_bits) [] [] f fd) (c_is_integer_3 : Cal P w K mg base 1 "is_integer" ["value", "low", "high"] [] g_is_integer) (m_MOST_BITS : ∃ t, mg "MOST_BITS" = some (.int 60 t)) : FnG P w K mg base 2 f fd ["bits"] (spF K g_need_bits) := by
  refine fn_clo (fn_ok F sc_need_bits true b_need_bits fun cdv A outer s H E hgd hr => ?_)
  have nd : (["bits"] : List Str).Nodup := sc_need_bits.nd
  have hu := hu_rm hr
  refine fss_one ?_
  refine fs_if (ft_not (ft_tru (fe_cal fn_takes c_is_integer_3 hgd hr (by rfl) dfl_nil (fa_cons (fv_ 0) (fa_cons (fe_int) (fa_cons (fe_glob (v := .int 60) (by rfl) m_MOST_BITS.choose_spec ⟨_, rfl⟩ (fun _ _ => .int _)) (fa_nil))))))) ?_ ?_
  · refine fss_one ?_
    exact fs_err
  · exact fss_nil
theorem ok_need_counted (F : FunD K "need_counted" "need_counted" (defArgs s_need_counted) (defBody s_need_counted) (defScope s_need_counted) [] [] f fd) (c_need_bits_1 : Cal P w K mg base 2 "need_bits" ["bits"] [] g_need_bits) (c_need_few_2 : Cal P w K mg base 2 "need_few" ["bits", "limit"] [] g_need_few) (m_MOST_COUNTED : ∃ t, mg "MOST_COUNTED" = some (.int 50 t)) : FnG P w K mg base 3 f fd ["bits"] (spF K g_need_counted) := by
  refine fn_clo (fn_ok F sc_need_counted true b_need_counted fun cdv A outer s H E hgd hr => ?_)
  have nd : (["bits"] : List Str).Nodup := sc_need_counted.nd
  have hu := hu_rm hr
  refine fss_cons ?_ ?_
  · exact fs_expr (fe_cal fn_takes c_need_bits_1 hgd hr (by rfl) dfl_nil (fa_cons (fv_ 0) (fa_nil)))
  refine fss_one ?_
  exact fs_expr (fe_cal fn_takes c_need_few_2 hgd hr (by rfl) dfl_nil (fa_cons (fv_ 0) (fa_cons (fe_glob (v := .int 50) (by rfl) m_MOST_COUNTED.choose_spec ⟨_, rfl⟩ (fun _ _ => .int _)) (fa_nil))))
theorem ok_share_of (F : FunD K "share_of" "share_of" (defArgs s_share_of) (defBody s_share_of) (defScope s_share_of) [] [] f fd) (c_common_divisor_2 : Cal P w K mg base 3 "common_divisor" ["one", "other"] [] g_common_divisor) (c_mappings_of_1 : Cal P w K mg base 3 "mappings_of" ["bits"] [] g_mappings_of) (c_need_counted_1 : Cal P w K mg base 3 "need_counted" ["bits"] [] g_need_counted) : FnG P w K mg base 4 f fd ["bits"] (spF K g_share_of) := by
  refine fn_clo (fn_ok F sc_share_of true b_share_of fun cdv A outer s H E hgd hr => ?_)
  have nd : (["bits", "going", "whole", "common"] : List Str).Nodup := sc_share_of.nd
  have hu := hu_rm hr
  refine fss_cons ?_ ?_
  · exact fs_expr (fe_cal fn_takes c_need_counted_1 hgd hr (by rfl) dfl_nil (fa_cons (fv_ 0) (fa_nil)))
  refine fss_cons ?_ ?_
  · exact fs_par (i := 1) (j := 2) rfl nd rfl rfl (by decide) rfl rfl (fa_cons (fe_bin o_shl (fe_int) (fe_bin o_mul (fv_ 0) (fv_ 0))) (fa_cons (fe_cal fn_takes c_mappings_of_1 hgd hr (by rfl) dfl_nil (fa_cons (fv_ 0) (fa_nil))) (fa_nil))) rfl rfl
  refine fss_cons ?_ ?_
  · exact fs_set (i := 3) nd rfl (by first | exact .inl rfl | exact .inr rfl) (fe_cal fn_takes c_common_divisor_2 hgd hr (by rfl) dfl_nil (fa_cons (fv_ 2) (fa_cons (fv_ 1) (fa_nil))))
  refine fss_one ?_
  exact fs_ret (fe_tup (fa_cons (fe_bin o_div (fv_ 1) (fv_ 3)) (fa_cons (fe_bin o_div (fv_ 2) (fv_ 3)) (fa_nil))))
theorem ok_choices_of (F : FunD K "choices_of" "choices_of" (defArgs s_choices_of) (defBody s_choices_of) (defScope s_choices_of) [] [] f fd) (z_range : mg "range" = none) : FnG P w K mg base 1 f fd ["many"] (spF K g_choices_of) := by
  refine fn_clo (fn_ok F sc_choices_of true b_choices_of fun cdv A outer s H E hgd hr => ?_)
  have nd : (["many", "found", "chosen"] : List Str).Nodup := sc_choices_of.nd
  have hu := hu_rm hr
  refine fss_cons ?_ ?_
  · exact fs_set (i := 1) nd rfl (by first | exact .inl rfl | exact .inr rfl) (fe_lst true (fa_cons (fe_int) (fa_nil)))
  refine fss_cons ?_ ?_
  · refine fs_for fn_passes rfl (fi_range1 (by rfl) z_range (fa_cons (fv_ 0) (fa_nil))) (fg_w (vs := [2]) (fgw_name (i := 2) nd rfl (by first | exact .inl rfl | exact .inr rfl) (by decide))) ?_
    refine fss_one ?_
    exact fs_expr (fe_m PySem.F.plainAttrs_list PySem.F.slot_list_append PySem.F.type_list_append m_append ty_list (fv_ 1) (fa_cons (fe_bin o_div (fe_bin o_mul (fe_ix (fv_ 1) (fe_un u_neg (fe_int))) (fe_bin o_sub (fv_ 0) (fv_ 2))) (fe_bin o_add (fv_ 2) (fe_int))) (fa_nil)))
  refine fss_one ?_
  exact fs_ret (fv_ 1)
theorem ok_ringless_of (F : FunD K "ringless_of" "ringless_of" (defArgs s_ringless_of) (defBody s_ringless_of) (defScope s_ringless_of) [] [] f fd) (c_choices_of_1 : Cal P w K mg base 1 "choices_of" ["many"] [] g_choices_of) (z_range : mg "range" = none) (z_sum : mg "sum" = none) : FnG P w K mg base 2 f fd ["bits"] (spF K g_ringless_of) := by
  refine fn_clo (fn_ok F sc_ringless_of true b_ringless_of fun cdv A outer s H E hgd hr => ?_)
  have nd : (["bits", "found", "many", "choices", "parts", "few"] : List Str).Nodup := sc_ringless_of.nd
  have hu := hu_rm hr
  refine fss_cons ?_ ?_
  · exact fs_set (i := 1) nd rfl (by first | exact .inl rfl | exact .inr rfl) (fe_lst true (fa_cons (fe_int) (fa_nil)))
  refine fss_cons ?_ ?_
  · refine fs_for fn_passes rfl (fi_range2 (by rfl) z_range (fa_cons (fe_int) (fa_cons (fe_bin o_add (fv_ 0) (fe_int)) (fa_nil)))) (fg_w (vs := [2]) (fgw_name (i := 2) nd rfl (by first | exact .inl rfl | exact .inr rfl) (by decide))) ?_
    refine fss_cons ?_ ?_
    · exact fs_set (i := 3) nd rfl (by first | exact .inl rfl | exact .inr rfl) (fe_cal fn_takes c_choices_of_1 hgd hr (by rfl) dfl_nil (fa_cons (fv_ 2) (fa_nil)))
    refine fss_cons ?_ ?_
    · first
      | exact fs_setLc (i := 4) (own := [("few", 5)]) false rfl nd rfl rfl (sw_true rfl rfl rfl (by decide +kernel)) (fi_range2 (by rfl) z_range (fa_cons (fe_int) (fa_cons (fe_bin o_add (fv_ 2) (fe_int)) (fa_nil)))) (blkOk_by (N := ["bits", "found", "many", "choices", "parts", "few"]) (sc := defScope s_ringless_of) (by decide +kernel)) (fun _ _ _ _ _ => fgw_name (i := 5) nd rfl (by first | exact .inl rfl | exact .inr rfl) (by decide)) (fun _ _ _ _ _ => fts_nil) (fun _ _ _ _ _ => fe_bin o_shl (fe_bin o_mul (fe_ix (fv_ 3) (fv_ 5)) (fe_ix (fv_ 1) (fe_bin o_sub (fv_ 2) (fv_ 5)))) (fe_bin o_mul (fv_ 5) (fe_bin o_sub (fv_ 2) (fv_ 5))))
      | exact fs_set (i := 4) nd rfl (by first | exact .inl rfl | exact .inr rfl) (fe_comp (own := [("few", 5)]) false rfl nd (fi_range2 (by rfl) z_range (fa_cons (fe_int) (fa_cons (fe_bin o_add (fv_ 2) (fe_int)) (fa_nil)))) (blkOk_by (N := ["bits", "found", "many", "choices", "parts", "few"]) (sc := defScope s_ringless_of) (by decide +kernel)) (fun _ _ _ _ _ => fgw_name (i := 5) nd rfl (by first | exact .inl rfl | exact .inr rfl) (by decide)) (fun _ _ _ _ _ => fts_nil) (fun _ _ _ _ _ => fe_bin o_shl (fe_bin o_mul (fe_ix (fv_ 3) (fv_ 5)) (fe_ix (fv_ 1) (fe_bin o_sub (fv_ 2) (fv_ 5)))) (fe_bin o_mul (fv_ 5) (fe_bin o_sub (fv_ 2) (fv_ 5)))))
    refine fss_one ?_
    exact fs_expr (fe_m PySem.F.plainAttrs_list PySem.F.slot_list_append PySem.F.type_list_append m_append ty_list (fv_ 1) (fa_cons (fe_bin o_sub (fe_blt (c_sum rfl) (by rfl) z_sum bt_sum (fa_cons (fe_slS false (fv_ 4) (fp_none) (fp_none) (fp_some (fe_int))) (fa_nil))) (fe_blt (c_sum rfl) (by rfl) z_sum bt_sum (fa_cons (fe_slS false (fv_ 4) (fp_some (fe_int)) (fp_none) (fp_some (fe_int))) (fa_nil)))) (fa_nil)))
  refine fss_one ?_
  exact fs_ret (fe_ix (fv_ 1) (fe_un u_neg (fe_int)))
theorem ok_always_count (F : FunD K "always_count" "always_count" (defArgs s_always_count) (defBody s_always_count) (defScope s_always_count) [] [] f fd) (c_need_counted_1 : Cal P w K mg base 3 "need_counted" ["bits"] [] g_need_counted) (c_ringless_of_1 : Cal P w K mg base 3 "ringless_of" ["bits"] [] g_ringless_of) : FnG P w K mg base 4 f fd ["bits"] (spF K g_always_count) := by
  refine fn_clo (fn_ok F sc_always_count true b_always_count fun cdv A outer s H E hgd hr => ?_)
  have nd : (["bits"] : List Str).Nodup := sc_always_count.nd
  have hu := hu_rm hr
  refine fss_cons ?_ ?_
  · exact fs_expr (fe_cal fn_takes c_need_counted_1 hgd hr (by rfl) dfl_nil (fa_cons (fv_ 0) (fa_nil)))
  refine fss_one ?_
  exact fs_ret (fe_bin o_shl (fe_cal fn_takes c_ringless_of_1 hgd hr (by rfl) dfl_nil (fa_cons (fv_ 0) (fa_nil))) (fv_ 0))
theorem ok__law_draw (F : FunD K "_law_draw" "_law_draw" (defArgs s__law_draw) (defBody s__law_draw) (defScope s__law_draw) [] [] f fd) (z_int : mg "int" = none) : FnG P w K mg base 1 f fd ["source", "count"] (spF K g__law_draw) := by
  refine (fn_ok F sc__law_draw true b__law_draw fun cdv A outer s H E hgd hr => ?_)
  have nd : (["source", "count", "digit", "mixed"] : List Str).Nodup := sc__law_draw.nd
  have hu := hu_rm hr
  refine fss_cons ?_ ?_
  · refine fs_if (ft_cmp o_gt (fe_ix (fv_ 0) (fe_int)) (fe_int) rfl) ?_ ?_
    · refine fss_cons ?_ ?_
      · exact fs_set (i := 2) nd rfl (by first | exact .inl rfl | exact .inr rfl) (fe_bin o_mod (fe_bty (c_int) (by rfl) z_int bt_int (fa_cons (fe_ix (fv_ 0) (fe_int)) (fa_nil))) (fv_ 1))
      refine fss_cons ?_ ?_
      · exact fs_asg (fe_bin o_div (fe_ix (fv_ 0) (fe_int)) (fv_ 1)) (fg_ix (fv_ 0) (fe_int))
      refine fss_one ?_
      exact fs_ret (fv_ 2)
    · exact fss_nil
  refine fss_cons ?_ ?_
  · exact fs_asg (fe_bin o_add (fe_ix (fv_ 0) (fe_int)) (fe_int)) (fg_ix (fv_ 0) (fe_int))
  refine fss_cons ?_ ?_
  · exact fs_set (i := 3) nd rfl (by first | exact .inl rfl | exact .inr rfl) (fe_bin o_mod (fe_bty (c_int) (by rfl) z_int bt_int (fa_cons (fe_bin o_pow (fe_bin o_add (fe_ix (fv_ 0) (fe_int)) (fe_bin o_mul (fe_int) (fe_ix (fv_ 0) (fe_int)))) (fe_int)) (fa_nil))) (fe_bin o_add (fe_bin o_pow (fe_int) (fe_int)) (fe_int)))
  refine fss_cons ?_ ?_
  · exact fs_set (i := 3) nd rfl (by first | exact .inl rfl | exact .inr rfl) (fe_bin o_mod (fe_bty (c_int) (by rfl) z_int bt_int (fa_cons (fe_bin o_pow (fe_bin o_add (fe_bin o_mul (fv_ 3) (fe_ix (fv_ 0) (fe_int))) (fe_int)) (fe_int)) (fa_nil))) (fe_bin o_add (fe_bin o_pow (fe_int) (fe_int)) (fe_int)))
  refine fss_one ?_
  exact fs_ret (fe_bin o_mod (fe_bty (c_int) (by rfl) z_int bt_int (fa_cons (fe_bin o_div (fv_ 3) (fe_int)) (fa_nil))) (fv_ 1))
theorem ok__law_least (F : FunD K "_law_least" "_law_least" (defArgs s__law_least) (defBody s__law_least) (defScope s__law_least) [] [] f fd) (z_int : mg "int" = none) : FnG P w K mg base 1 f fd ["one", "two"] (spF K g__law_least) := by
  refine fn_clo (fn_ok F sc__law_least true b__law_least fun cdv A outer s H E hgd hr => ?_)
  have nd : (["one", "two", "first", "second"] : List Str).Nodup := sc__law_least.nd
  have hu := hu_rm hr
  refine fss_cons ?_ ?_
  · exact fs_par (i := 2) (j := 3) rfl nd rfl rfl (by decide) rfl rfl (fa_cons (fv_ 0) (fa_cons (fv_ 1) (fa_nil))) rfl rfl
  refine fss_cons ?_ ?_
  · refine fs_while 100 fn_passes (ft_cmp o_gt (fv_ 3) (fe_int) rfl) ?_
    refine fss_one ?_
    exact fs_par (i := 2) (j := 3) rfl nd rfl rfl (by decide) rfl rfl (fa_cons (fv_ 3) (fa_cons (fe_bin o_mod (fe_bty (c_int) (by rfl) z_int bt_int (fa_cons (fv_ 2) (fa_nil))) (fv_ 3)) (fa_nil))) rfl rfl
  refine fss_one ?_
  exact fs_ret (fe_tup (fa_cons (fe_bin o_div (fv_ 0) (fv_ 2)) (fa_cons (fe_bin o_div (fv_ 1) (fv_ 2)) (fa_nil))))
theorem ok_mapping_count (F : FunD K "mapping_count" "mapping_count" (defArgs s_mapping_count) (defBody s_mapping_count) (defScope s_mapping_count) [] [] f fd) (c_mappings_of_1 : Cal P w K mg base 3 "mappings_of" ["bits"] [] g_mappings_of) (c_need_counted_1 : Cal P w K mg base 3 "need_counted" ["bits"] [] g_need_counted) : FnG P w K mg base 4 f fd ["bits"] (spF K g_mapping_count) := by
  refine fn_clo (fn_ok F sc_mapping_count true b_mapping_count fun cdv A outer s H E hgd hr => ?_)
  have nd : (["bits"] : List Str).Nodup := sc_mapping_count.nd
  have hu := hu_rm hr
  refine fss_cons ?_ ?_
  · exact fs_expr (fe_cal fn_takes c_need_counted_1 hgd hr (by rfl) dfl_nil (fa_cons (fv_ 0) (fa_nil)))
  refine fss_one ?_
  exact fs_ret (fe_cal fn_takes c_mappings_of_1 hgd hr (by rfl) dfl_nil (fa_cons (fv_ 0) (fa_nil)))
theorem ok__law_count (F : FunD K "_law_count" "_law_count" (defArgs s__law_count) (defBody s__law_count) (defScope s__law_count) [] [] f fd) (z_len : mg "len" = none) (z_min : mg "min" = none) : FnG P w K mg base 1 f fd ["masks_here"] (spF K g__law_count) := by
  refine fn_clo (fn_ok F sc__law_count true b__law_count fun cdv A outer s H E hgd hr => ?_)
  have nd : (["masks_here", "kept", "sieve", "other"] : List Str).Nodup := sc__law_count.nd
  have hu := hu_rm hr
  refine fss_cons ?_ ?_
  · exact fs_set (i := 1) nd rfl (by first | exact .inl rfl | exact .inr rfl) (fe_lst true (fa_nil))
  refine fss_cons ?_ ?_
  · refine fs_for fn_passes rfl (fi_list (fv_ 0)) (fg_w (vs := [2]) (fgw_name (i := 2) nd rfl (by first | exact .inl rfl | exact .inr rfl) (by decide))) ?_
    refine fss_cons ?_ ?_
    · refine fs_for fn_passes rfl (fi_list (fv_ 1)) (fg_w (vs := [3]) (fgw_name (i := 3) nd rfl (by first | exact .inl rfl | exact .inr rfl) (by decide))) ?_
      refine fss_one ?_
      exact fs_set (i := 2) nd rfl (by first | exact .inl rfl | exact .inr rfl) (fe_blt (c_min2 rfl) (by rfl) z_min bt_min (fa_cons (fv_ 2) (fa_cons (fe_bin o_xor (fv_ 2) (fv_ 3)) (fa_nil))))
    refine fss_one ?_
    refine fs_if (ft_cmp o_gt (fv_ 2) (fe_int) rfl) ?_ ?_
    · refine fss_one ?_
      exact fs_expr (fe_m PySem.F.plainAttrs_list PySem.F.slot_list_append PySem.F.type_list_append m_append ty_list (fv_ 1) (fa_cons (fv_ 2) (fa_nil)))
    · exact fss_nil
  refine fss_one ?_
  exact fs_ret (fe_blt (c_len) (by rfl) z_len bt_len (fa_cons (fv_ 1) (fa_nil)))
theorem ok__law_is_whole (F : FunD K "_law_is_whole" "_law_is_whole" (defArgs s__law_is_whole) (defBody s__law_is_whole) (defScope s__law_is_whole) [] [] f fd) (c__law_count_1 : Cal P w K mg base 1 "_law_count" ["masks_here"] [] g__law_count) (z_len : mg "len" = none) (z_enumerate : mg "enumerate" = none) : FnG P w K mg base 2 f fd ["rows", "some"] (spF K g__law_is_whole) := by
  refine fn_clo (fn_ok F sc__law_is_whole true b__law_is_whole fun cdv A outer s H E hgd hr => ?_)
  have nd : (["rows", "some", "parts", "k", "row"] : List Str).Nodup := sc__law_is_whole.nd
  have hu := hu_rm hr
  refine fss_cons ?_ ?_
  · first
    | exact fs_setLc (i := 2) (own := [("k", 3), ("row", 4)]) false rfl nd rfl rfl (sw_true rfl rfl rfl (by decide +kernel)) (fi_enum (by rfl) z_enumerate (fa_cons (fv_ 0) (fa_nil))) (blkOk_by (N := ["rows", "some", "parts", "k", "row"]) (sc := defScope s__law_is_whole) (by decide +kernel)) (fun _ _ _ _ _ => fgw_t2 rfl (pg_name (i := 3) nd rfl (by first | exact .inl rfl | exact .inr rfl)) (pg_name (i := 4) nd rfl (by first | exact .inl rfl | exact .inr rfl)) (by decide) (by decide)) (fun _ _ _ _ _ => fts_one (ft_cmp (o_eq hu) (fe_bin o_and (fe_bin o_shr (fv_ 1) (fv_ 3)) (fe_int)) (fe_int) rfl)) (fun _ _ _ _ _ => fe_bin o_and (fv_ 4) (fv_ 1))
    | exact fs_set (i := 2) nd rfl (by first | exact .inl rfl | exact .inr rfl) (fe_comp (own := [("k", 3), ("row", 4)]) false rfl nd (fi_enum (by rfl) z_enumerate (fa_cons (fv_ 0) (fa_nil))) (blkOk_by (N := ["rows", "some", "parts", "k", "row"]) (sc := defScope s__law_is_whole) (by decide +kernel)) (fun _ _ _ _ _ => fgw_t2 rfl (pg_name (i := 3) nd rfl (by first | exact .inl rfl | exact .inr rfl)) (pg_name (i := 4) nd rfl (by first | exact .inl rfl | exact .inr rfl)) (by decide) (by decide)) (fun _ _ _ _ _ => fts_one (ft_cmp (o_eq hu) (fe_bin o_and (fe_bin o_shr (fv_ 1) (fv_ 3)) (fe_int)) (fe_int) rfl)) (fun _ _ _ _ _ => fe_bin o_and (fv_ 4) (fv_ 1)))
  refine fss_one ?_
  exact fs_ret (fe_cmp (o_eq hu) (fe_cal fn_takes c__law_count_1 hgd hr (by rfl) dfl_nil (fa_cons (fv_ 2) (fa_nil))) (fe_blt (c_len) (by rfl) z_len bt_len (fa_cons (fv_ 2) (fa_nil))) rfl)
theorem ok__law_goes (F : FunD K "_law_goes" "_law_goes" (defArgs s__law_goes) (defBody s__law_goes) (defScope s__law_goes) [] [] f fd) (c__law_is_whole_2 : Cal P w K mg base 2 "_law_is_whole" ["rows", "some"] [] g__law_is_whole) : FnG P w K mg base 3 f fd ["rows", "seq"] (spF K g__law_goes) := by
  refine fn_clo (fn_ok F sc__law_goes true b__law_goes fun cdv A outer s H E hgd hr => ?_)
  have nd : (["rows", "seq", "some", "k"] : List Str).Nodup := sc__law_goes.nd
  have hu := hu_rm hr
  refine fss_cons ?_ ?_
  · exact fs_set (i := 2) nd rfl (by first | exact .inl rfl | exact .inr rfl) (fe_int)
  refine fss_cons ?_ ?_
  · refine fs_for fn_passes rfl (fi_list (fv_ 1)) (fg_w (vs := [3]) (fgw_name (i := 3) nd rfl (by first | exact .inl rfl | exact .inr rfl) (by decide))) ?_
    refine fss_cons ?_ ?_
    · exact fs_set (i := 2) nd rfl (by first | exact .inl rfl | exact .inr rfl) (fe_bin o_or (fv_ 2) (fe_bin o_shl (fe_int) (fv_ 3)))
    refine fss_one ?_
    refine fs_if (ft_not (ft_tru (fe_cal fn_takes c__law_is_whole_2 hgd hr (by rfl) dfl_nil (fa_cons (fv_ 0) (fa_cons (fv_ 2) (fa_nil)))))) ?_ ?_
    · refine fss_one ?_
      exact fs_ret (fe_bl)
    · exact fss_nil
  refine fss_one ?_
  exact fs_ret (fe_bl)
theorem ok__law_mixed (F : FunD K "_law_mixed" "_law_mixed" (defArgs s__law_mixed) (defBody s__law_mixed) (defScope s__law_mixed) [] [] f fd) (c__law_draw_2 : Cal P w K mg base 1 "_law_draw" ["source", "count"] [] g__law_draw) (z_len : mg "len" = none) (z_list : mg "list" = none) : FnG P w K mg base 2 f fd ["source", "some"] (spF K g__law_mixed) := by
  refine (fn_ok F sc__law_mixed true b__law_mixed fun cdv A outer s H E hgd hr => ?_)
  have nd : (["source", "some", "left", "found"] : List Str).Nodup := sc__law_mixed.nd
  have hu := hu_rm hr
  refine fss_cons ?_ ?_
  · exact fs_par (i := 2) (j := 3) rfl nd rfl rfl (by decide) rfl rfl (fa_cons (fe_bty (c_listM) (by rfl) z_list bt_list (fa_cons (fv_ 1) (fa_nil))) (fa_cons (fe_lst true (fa_nil)) (fa_nil))) rfl rfl
  refine fss_cons ?_ ?_
  · refine fs_while 100 fn_passes (ft_cmp (o_ne hu) (fv_ 2) (fe_lst false (fa_nil)) rfl) ?_
    refine fss_one ?_
    exact fs_expr (fe_m PySem.F.plainAttrs_list PySem.F.slot_list_append PySem.F.type_list_append m_append ty_list (fv_ 3) (fa_cons (fe_m PySem.F.plainAttrs_list PySem.F.slot_list_pop PySem.F.type_list_pop m_pop ty_list (fv_ 2) (fa_cons (fe_cal fn_takes c__law_draw_2 hgd hr (by rfl) dfl_nil (fa_cons (fv_ 0) (fa_cons (fe_blt (c_len) (by rfl) z_len bt_len (fa_cons (fv_ 2) (fa_nil))) (fa_nil)))) (fa_nil))) (fa_nil)))
  refine fss_one ?_
  exact fs_ret (fv_ 3)
theorem ok__law_sequence (F : FunD K "_law_sequence" "_law_sequence" (defArgs s__law_sequence) (defBody s__law_sequence) (defScope s__law_sequence) [] [] f fd) (c__law_draw_2 : Cal P w K mg base 2 "_law_draw" ["source", "count"] [] g__law_draw) (c__law_mixed_2 : Cal P w K mg base 2 "_law_mixed" ["source", "some"] [] g__law_mixed) (z_list : mg "list" = none) (z_range : mg "range" = none) : FnG P w K mg base 3 f fd ["source", "size"] (spF K g__law_sequence) := by
  refine (fn_ok F sc__law_sequence true b__law_sequence fun cdv A outer s H E hgd hr => ?_)
  have nd : (["source", "size", "some", "way"] : List Str).Nodup := sc__law_sequence.nd
  have hu := hu_rm hr
  refine fss_cons ?_ ?_
  · exact fs_set (i := 2) nd rfl (by first | exact .inl rfl | exact .inr rfl) (fe_lrg1 false rfl (by rfl) z_list (by rfl) z_range (fv_ 1))
  refine fss_cons ?_ ?_
  · exact fs_set (i := 3) nd rfl (by first | exact .inl rfl | exact .inr rfl) (fe_cal fn_takes c__law_draw_2 hgd hr (by rfl) dfl_nil (fa_cons (fv_ 0) (fa_cons (fe_int) (fa_nil))))
  refine fss_cons ?_ ?_
  · refine fs_if (ft_cmp (o_eq hu) (fv_ 3) (fe_int) rfl) ?_ ?_
    · refine fss_one ?_
      exact fs_ret (fv_ 2)
    · exact fss_nil
  refine fss_one ?_
  exact fs_ret (fe_ifE (ft_cmp (o_eq hu) (fv_ 3) (fe_int) rfl) (fe_slS false (fv_ 2) (fp_none) (fp_none) (fp_some (fe_un u_neg (fe_int)))) (fe_cal fn_takes c__law_mixed_2 hgd hr (by rfl) dfl_nil (fa_cons (fv_ 0) (fa_cons (fv_ 2) (fa_nil)))))
theorem ok__law_lists (F : FunD K "_law_lists" "_law_lists" (defArgs s__law_lists) (defBody s__law_lists) (defScope s__law_lists) [] [] f fd) (z_range : mg "range" = none) : FnG P w K mg base 1 f fd ["size"] (spF K g__law_lists) := by
  refine fn_clo (fn_ok F sc__law_lists true b__law_lists fun cdv A outer s H E hgd hr => ?_)
  have nd : (["size", "found", "turn", "longer", "rows", "sieve"] : List Str).Nodup := sc__law_lists.nd
  have hu := hu_rm hr
  refine fss_cons ?_ ?_
  · exact fs_set (i := 1) nd rfl (by first | exact .inl rfl | exact .inr rfl) (fe_lst false (fa_cons (fe_lst false (fa_nil)) (fa_nil)))
  refine fss_cons ?_ ?_
  · refine fs_for fn_passes rfl (fi_range1 (by rfl) z_range (fa_cons (fv_ 0) (fa_nil))) (fg_w (vs := [2]) (fgw_name (i := 2) nd rfl (by first | exact .inl rfl | exact .inr rfl) (by decide))) ?_
    refine fss_cons ?_ ?_
    · exact fs_set (i := 3) nd rfl (by first | exact .inl rfl | exact .inr rfl) (fe_lst true (fa_nil))
    refine fss_cons ?_ ?_
    · refine fs_for fn_passes rfl (fi_list (fv_ 1)) (fg_w (vs := [4]) (fgw_name (i := 4) nd rfl (by first | exact .inl rfl | exact .inr rfl) (by decide))) ?_
      refine fss_one ?_
      refine fs_for fn_passes rfl (fi_range1 (by rfl) z_range (fa_cons (fe_bin o_shl (fe_int) (fv_ 0)) (fa_nil))) (fg_w (vs := [5]) (fgw_name (i := 5) nd rfl (by first | exact .inl rfl | exact .inr rfl) (by decide))) ?_
      refine fss_one ?_
      exact fs_expr (fe_m PySem.F.plainAttrs_list PySem.F.slot_list_append PySem.F.type_list_append m_append ty_list (fv_ 3) (fa_cons (fe_bin o_add (fv_ 4) (fe_lst false (fa_cons (fv_ 5) (fa_nil)))) (fa_nil)))
    refine fss_one ?_
    exact fs_set (i := 1) nd rfl (by first | exact .inl rfl | exact .inr rfl) (fv_ 3)
  refine fss_one ?_
  exact fs_ret (fv_ 1)
theorem ok__law_right (F : FunD K "_law_right" "_law_right" (defArgs s__law_right) (defBody s__law_right) (defScope s__law_right) [] [] f fd) (c__law_goes_2 : Cal P w K mg base 4 "_law_goes" ["rows", "seq"] [] g__law_goes) (c__law_is_whole_2 : Cal P w K mg base 4 "_law_is_whole" ["rows", "some"] [] g__law_is_whole) (c__law_least_2 : Cal P w K mg base 4 "_law_least" ["one", "two"] [] g__law_least) (c__law_lists_1 : Cal P w K mg base 4 "_law_lists" ["size"] [] g__law_lists) (c__law_sequence_2 : Cal P w K mg base 4 "_law_sequence" ["source", "size"] [] g__law_sequence) (c_always_count_1 : Cal P w K mg base 4 "always_count" ["bits"] [] g_always_count) (c_mapping_count_1 : Cal P w K mg base 4 "mapping_count" ["bits"] [] g_mapping_count) (c_share_of_1 : Cal P w K mg base 4 "share_of" ["bits"] [] g_share_of) (c_k_always_count_0_bits : CalK P w K mg base 4 "always_count" ["bits"] ["bits"] (kp 0 1 [(true, 0)]) g_always_count) (c_k_mapping_count_0_bits : CalK P w K mg base 4 "mapping_count" ["bits"] ["bits"] (kp 0 1 [(true, 0)]) g_mapping_count) (c_k_share_of_0_bits : CalK P w K mg base 4 "share_of" ["bits"] ["bits"] (kp 0 1 [(true, 0)]) g_share_of) (z_repr : mg "repr" = none) (z_len : mg "len" = none) (z_int : mg "int" = none) (z_range : mg "range" = none) : FnG P w K mg base 5 f fd ["source", "size"] (spF K g__law_right) := by
  refine (fn_ok F sc__law_right true b__law_right fun cdv A outer s H E hgd hr => ?_)
  have nd : (["source", "size", "wholes", "every", "always", "seq", "rows", "going", "told", "due", "some"] : List Str).Nodup := sc__law_right.nd
  have hu := hu_rm hr
  refine fss_cons ?_ ?_
  · first
    | exact fs_setLc (i := 2) (own := [("rows", 6)]) false rfl nd rfl rfl (sw_true rfl rfl rfl (by decide +kernel)) (fi_list (fe_cal fn_takes c__law_lists_1 hgd hr (by rfl) dfl_nil (fa_cons (fv_ 1) (fa_nil)))) (blkOk_by (N := ["source", "size", "wholes", "every", "always", "seq", "rows", "going", "told", "due", "some"]) (sc := defScope s__law_right) (by decide +kernel)) (fun _ _ _ _ _ => fgw_name (i := 6) nd rfl (by first | exact .inl rfl | exact .inr rfl) (by decide)) (fun _ _ _ _ _ => fts_one (ft_tru (fe_cal takes_w0 c__law_is_whole_2 hgd hr (by rfl) dfl_nil (fa_cons (fv_ 6) (fa_cons (fe_bin o_sub (fe_bin o_shl (fe_int) (fv_ 1)) (fe_int)) (fa_nil)))))) (fun _ _ _ _ _ => fv_ 6)
    | exact fs_set (i := 2) nd rfl (by first | exact .inl rfl | exact .inr rfl) (fe_comp (own := [("rows", 6)]) false rfl nd (fi_list (fe_cal fn_takes c__law_lists_1 hgd hr (by rfl) dfl_nil (fa_cons (fv_ 1) (fa_nil)))) (blkOk_by (N := ["source", "size", "wholes", "every", "always", "seq", "rows", "going", "told", "due", "some"]) (sc := defScope s__law_right) (by decide +kernel)) (fun _ _ _ _ _ => fgw_name (i := 6) nd rfl (by first | exact .inl rfl | exact .inr rfl) (by decide)) (fun _ _ _ _ _ => fts_one (ft_tru (fe_cal takes_w0 c__law_is_whole_2 hgd hr (by rfl) dfl_nil (fa_cons (fv_ 6) (fa_cons (fe_bin o_sub (fe_bin o_shl (fe_int) (fv_ 1)) (fe_int)) (fa_nil)))))) (fun _ _ _ _ _ => fv_ 6))
  refine fss_cons ?_ ?_
  · exact fs_asg (fe_tup (fa_cons (fe_bin o_shl (fe_blt (c_len) (by rfl) z_len bt_len (fa_cons (fv_ 2) (fa_nil))) (fv_ 1)) (fa_cons (fe_int) (fa_cons (fe_cal fn_takes c__law_sequence_2 hgd hr (by rfl) dfl_nil (fa_cons (fv_ 0) (fa_cons (fv_ 1) (fa_nil)))) (fa_nil))))) (fg_w (vs := [3, 4, 5]) (fgw_t3 rfl (pg_name (i := 3) nd rfl (by first | exact .inl rfl | exact .inr rfl)) (pg_name (i := 4) nd rfl (by first | exact .inl rfl | exact .inr rfl)) (pg_name (i := 5) nd rfl (by first | exact .inl rfl | exact .inr rfl)) (by decide) (by decide) (by decide)))
  refine fss_cons ?_ ?_
  · refine fs_for fn_passes rfl (fi_list (fv_ 2)) (fg_w (vs := [6]) (fgw_name (i := 6) nd rfl (by first | exact .inl rfl | exact .inr rfl) (by decide))) ?_
    refine fss_one ?_
    exact fs_set (i := 4) nd rfl (by first | exact .inl rfl | exact .inr rfl) (fe_bin o_add (fv_ 4) (fe_bty (c_int) (by rfl) z_int bt_int (fa_cons (fe_cmp (o_eq hu) (fe_comp (own := [("some", 10)]) false rfl nd (fi_range1 (by rfl) z_range (fa_cons (fe_bin o_shl (fe_int) (fv_ 1)) (fa_nil))) (blkOk_by (N := ["source", "size", "wholes", "every", "always", "seq", "rows", "going", "told", "due", "some"]) (sc := defScope s__law_right) (by decide +kernel)) (fun _ _ _ _ _ => fgw_name (i := 10) nd rfl (by first | exact .inl rfl | exact .inr rfl) (by decide)) (fun _ _ _ _ _ => fts_one (ft_not (ft_tru (fe_cal takes_w0 c__law_is_whole_2 hgd hr (by rfl) dfl_nil (fa_cons (fv_ 6) (fa_cons (fv_ 10) (fa_nil))))))) (fun _ _ _ _ _ => fe_int)) (fe_lst false (fa_nil)) rfl) (fa_nil))))
  refine fss_cons ?_ ?_
  · exact fs_set (i := 7) nd rfl (by first | exact .inl rfl | exact .inr rfl) (fe_bin o_shl (fe_blt (c_len) (by rfl) z_len bt_len (fa_cons (fe_comp (own := [("rows", 6)]) false rfl nd (fi_list (fv_ 2)) (blkOk_by (N := ["source", "size", "wholes", "every", "always", "seq", "rows", "going", "told", "due", "some"]) (sc := defScope s__law_right) (by decide +kernel)) (fun _ _ _ _ _ => fgw_name (i := 6) nd rfl (by first | exact .inl rfl | exact .inr rfl) (by decide)) (fun _ _ _ _ _ => fts_one (ft_tru (fe_cal takes_w0 c__law_goes_2 hgd hr (by rfl) dfl_nil (fa_cons (fv_ 6) (fa_cons (fv_ 5) (fa_nil)))))) (fun _ _ _ _ _ => fe_int)) (fa_nil))) (fv_ 1))
  refine fss_cons ?_ ?_
  · exact fs_set (i := 8) nd rfl (by first | exact .inl rfl | exact .inr rfl) (fe_lst false (fa_cons (fe_cal fn_takes c_mapping_count_1 hgd hr (by rfl) dfl_nil (fa_cons (fv_ 1) (fa_nil))) (fa_cons (fe_calK0 fn_takes c_k_mapping_count_0_bits hgd hr (by rfl) (fk_cons (fv_ 1) (fk_nil))) (fa_cons (fe_cal fn_takes c_always_count_1 hgd hr (by rfl) dfl_nil (fa_cons (fv_ 1) (fa_nil))) (fa_cons (fe_calK0 fn_takes c_k_always_count_0_bits hgd hr (by rfl) (fk_cons (fv_ 1) (fk_nil))) (fa_nil))))))
  refine fss_cons ?_ ?_
  · refine fs_if (ft_cmp (o_ne hu) (fe_blt (c_repr hgd hu) (by rfl) z_repr bt_repr (fa_cons (fv_ 8) (fa_nil))) (fe_blt (c_repr hgd hu) (by rfl) z_repr bt_repr (fa_cons (fe_bin o_add (fe_bin o_mul (fe_lst false (fa_cons (fv_ 3) (fa_nil))) (fe_int)) (fe_bin o_mul (fe_lst false (fa_cons (fe_bin o_shl (fv_ 4) (fv_ 1)) (fa_nil))) (fe_int))) (fa_nil))) rfl) ?_ ?_
    · refine fss_one ?_
      exact fs_ret (fe_bl)
    · exact fss_nil
  refine fss_cons ?_ ?_
  · exact fs_set (i := 9) nd rfl (by first | exact .inl rfl | exact .inr rfl) (fe_cal fn_takes c__law_least_2 hgd hr (by rfl) dfl_nil (fa_cons (fv_ 7) (fa_cons (fv_ 3) (fa_nil))))
  refine fss_one ?_
  exact fs_ret (fe_cmp (o_eq hu) (fe_blt (c_repr hgd hu) (by rfl) z_repr bt_repr (fa_cons (fe_lst false (fa_cons (fe_cal fn_takes c_share_of_1 hgd hr (by rfl) dfl_nil (fa_cons (fv_ 1) (fa_nil))) (fa_cons (fe_calK0 fn_takes c_k_share_of_0_bits hgd hr (by rfl) (fk_cons (fv_ 1) (fk_nil))) (fa_nil)))) (fa_nil))) (fe_blt (c_repr hgd hu) (by rfl) z_repr bt_repr (fa_cons (fe_lst false (fa_cons (fv_ 9) (fa_cons (fv_ 9) (fa_nil)))) (fa_nil))) rfl)
theorem ok__law_source (F : FunD K "_law_source" "_law_source" (defArgs s__law_source) (defBody s__law_source) (defScope s__law_source) [] [] f fd) (z_int : mg "int" = none) (z_max : mg "max" = none) (z_abs : mg "abs" = none) : FnG P w K mg base 1 f fd ["cell", "k"] (spF K g__law_source) := by
  refine (fn_ok F sc__law_source true b__law_source fun cdv A outer s H E hgd hr => ?_)
  have nd : (["cell", "k", "great"] : List Str).Nodup := sc__law_source.nd
  have hu := hu_rm hr
  refine fss_cons ?_ ?_
  · exact fs_set (i := 2) nd rfl (by first | exact .inl rfl | exact .inr rfl) (fe_blt (c_abs) (by rfl) z_abs bt_abs (fa_cons (fv_ 0) (fa_nil)))
  refine fss_one ?_
  exact fs_ret (fe_lst true (fa_cons (fe_blt (c_max2 rfl) (by rfl) z_max bt_max (fa_cons (fe_int) (fa_cons (fe_bin o_sub (fv_ 2) (fe_bin o_pow (fe_int) (fe_int))) (fa_nil)))) (fa_cons (fe_bin o_add (fe_bin o_add (fe_bin o_mul (fe_bin o_mod (fe_bty (c_int) (by rfl) z_int bt_int (fa_cons (fv_ 2) (fa_nil))) (fe_bin o_add (fe_bin o_pow (fe_int) (fe_int)) (fe_int))) (fe_int)) (fe_bin o_mul (fe_int) (fv_ 1))) (fe_bty (c_int) (by rfl) z_int bt_int (fa_cons (fe_cmp o_lt (fv_ 0) (fe_int) rfl) (fa_nil)))) (fa_cons (fe_int) (fa_nil)))))
theorem ok_law (F : FunD K "law" "law" (defArgs s_law) (defBody s_law) (defScope s_law) [] [] f fd) (c__law_draw_2 : Cal P w K mg base 5 "_law_draw" ["source", "count"] [] g__law_draw) (c__law_right_2 : Cal P w K mg base 5 "_law_right" ["source", "size"] [] g__law_right) (c__law_source_2 : Cal P w K mg base 5 "_law_source" ["cell", "k"] [] g__law_source) (c_always_count_1 : Cal P w K mg base 5 "always_count" ["bits"] [] g_always_count) (c_share_of_1 : Cal P w K mg base 5 "share_of" ["bits"] [] g_share_of) (z_enumerate : mg "enumerate" = none) (z_max : mg "max" = none) (z_min : mg "min" = none) (z_len : mg "len" = none) : FnG P w K mg base 6 f fd ["script"] (spF K g_law) := by
  refine fn_clo (fn_ok F sc_law true b_law fun cdv A outer s H E hgd hr => ?_)
  have nd : (["script", "k", "cell", "source", "size"] : List Str).Nodup := sc_law.nd
  have hu := hu_rm hr
  refine fss_cons ?_ ?_
  · refine fs_for fn_passes rfl (fi_enum (by rfl) z_enumerate (fa_cons (fe_sl false (fe_bin o_add (fv_ 0) (fe_lst false (fa_cons (fe_int) (fa_nil)))) (fp_none) (fp_some (fe_blt (c_max2 rfl) (by rfl) z_max bt_max (fa_cons (fe_int) (fa_cons (fe_blt (c_min2 rfl) (by rfl) z_min bt_min (fa_cons (fe_blt (c_len) (by rfl) z_len bt_len (fa_cons (fv_ 0) (fa_nil))) (fa_cons (fe_int) (fa_nil)))) (fa_nil)))))) (fa_nil))) (fg_w (vs := [1, 2]) (fgw_t2 rfl (pg_name (i := 1) nd rfl (by first | exact .inl rfl | exact .inr rfl)) (pg_name (i := 2) nd rfl (by first | exact .inl rfl | exact .inr rfl)) (by decide) (by decide))) ?_
    refine fss_cons ?_ ?_
    · exact fs_set (i := 3) nd rfl (by first | exact .inl rfl | exact .inr rfl) (fe_cal fn_takes c__law_source_2 hgd hr (by rfl) dfl_nil (fa_cons (fv_ 2) (fa_cons (fv_ 1) (fa_nil))))
    refine fss_one ?_
    refine fs_for fn_passes rfl (fi_list (fe_ifE (ft_w (fw_and (ft_cmp (o_eq hu) (fv_ 1) (fe_int) rfl) (fw_and1 (ft_cmp (o_ne hu) (fv_ 0) (fe_lst false (fa_nil)) rfl)))) (fe_lst false (fa_cons (fe_int) (fa_cons (fe_int) (fa_cons (fe_int) (fa_nil))))) (fe_lst false (fa_cons (fe_bin o_add (fe_int) (fe_cal fn_takes c__law_draw_2 hgd hr (by rfl) dfl_nil (fa_cons (fv_ 3) (fa_cons (fe_int) (fa_nil))))) (fa_nil))))) (fg_w (vs := [4]) (fgw_name (i := 4) nd rfl (by first | exact .inl rfl | exact .inr rfl) (by decide))) ?_
    refine fss_one ?_
    refine fs_if (ft_not (ft_tru (fe_cal fn_takes c__law_right_2 hgd hr (by rfl) dfl_nil (fa_cons (fv_ 3) (fa_cons (fv_ 4) (fa_nil)))))) ?_ ?_
    · refine fss_one ?_
      exact fs_ret (fe_bl)
    · exact fss_nil
  refine fss_one ?_
  exact fs_ret (fe_and (fe_cmp (o_eq hu) (fe_comp (own := [("size", 4)]) false rfl nd (fi_tup (fe_tup (fa_cons (fe_int) (fa_cons (fe_int) (fa_nil))))) (blkOk_by (N := ["script", "k", "cell", "source", "size"]) (sc := defScope s_law) (by decide +kernel)) (fun _ _ _ _ _ => fgw_name (i := 4) nd rfl (by first | exact .inl rfl | exact .inr rfl) (by decide)) (fun _ _ _ _ _ => fts_nil) (fun _ _ _ _ _ => fe_cal takes_w0 c_always_count_1 hgd hr (by rfl) dfl_nil (fa_cons (fv_ 4) (fa_nil)))) (fe_lst false (fa_cons (fe_int) (fa_cons (fe_int) (fa_nil)))) rfl) (fe_one (fe_cmp (o_eq hu) (fe_cal fn_takes c_share_of_1 hgd hr (by rfl) dfl_nil (fa_cons (fe_int) (fa_nil))) (fe_tup (fa_cons (fe_int) (fa_cons (fe_int) (fa_nil)))) rfl)))
end
section
variable {l : PySem.W.OpenLaw} {w : World} {K : PySem.W.Frag} {h : Heap} {mg : Str → Option Value} {fa : Addr}
set_option maxHeartbeats 0 in
theorem all_mk (X : K.In h) (G : h.Ns mainGlobals mg) (hfa : mg "law" = some (.ref fa)) {f0 : Addr} {od0 an0 : Option Addr} {sl0 : Array (Option Value)} {oc0 kV0 dc0 pm0 cd0 ct0 : Value} {f1 : Addr} {od1 an1 : Option Addr} {sl1 : Array (Option Value)} {oc1 kV1 dc1 pm1 cd1 ct1 : Value} {f2 : Addr} {od2 an2 : Option Addr} {sl2 : Array (Option Value)} {oc2 kV2 dc2 pm2 cd2 ct2 : Value} {f3 : Addr} {od3 an3 : Option Addr} {sl3 : Array (Option Value)} {oc3 kV3 dc3 pm3 cd3 ct3 : Value} {T3 : Addr} {oT3 : Value} {dT3 : Option Addr} {nT3 : Nat} {sT3 : Array (Option Value)} {f4 : Addr} {od4 an4 : Option Addr} {sl4 : Array (Option Value)} {oc4 kV4 dc4 pm4 cd4 ct4 : Value} {f5 : Addr} {od5 an5 : Option Addr} {sl5 : Array (Option Value)} {oc5 kV5 dc5 pm5 cd5 ct5 : Value} {f6 : Addr} {od6 an6 : Option Addr} {sl6 : Array (Option Value)} {oc6 kV6 dc6 pm6 cd6 ct6 : Value} {f7 : Addr} {od7 an7 : Option Addr} {sl7 : Array (Option Value)} {oc7 kV7 dc7 pm7 cd7 ct7 : Value} {f8 : Addr} {od8 an8 : Option Addr} {sl8 : Array (Option Value)} {oc8 kV8 dc8 pm8 cd8 ct8 : Value} {f9 : Addr} {od9 an9 : Option Addr} {sl9 : Array (Option Value)} {oc9 kV9 dc9 pm9 cd9 ct9 : Value} {f10 : Addr} {od10 an10 : Option Addr} {sl10 : Array (Option Value)} {oc10 kV10 dc10 pm10 cd10 ct10 : Value} {f11 : Addr} {od11 an11 : Option Addr} {sl11 : Array (Option Value)} {oc11 kV11 dc11 pm11 cd11 ct11 : Value} {f12 : Addr} {od12 an12 : Option Addr} {sl12 : Array (Option Value)} {oc12 kV12 dc12 pm12 cd12 ct12 : Value} {f13 : Addr} {od13 an13 : Option Addr} {sl13 : Array (Option Value)} {oc13 kV13 dc13 pm13 cd13 ct13 : Value} {f14 : Addr} {od14 an14 : Option Addr} {sl14 : Array (Option Value)} {oc14 kV14 dc14 pm14 cd14 ct14 : Value} {f15 : Addr} {od15 an15 : Option Addr} {sl15 : Array (Option Value)} {oc15 kV15 dc15 pm15 cd15 ct15 : Value} {f16 : Addr} {od16 an16 : Option Addr} {sl16 : Array (Option Value)} {oc16 kV16 dc16 pm16 cd16 ct16 : Value} {f17 : Addr} {od17 an17 : Option Addr} {sl17 : Array (Option Value)} {oc17 kV17 dc17 pm17 cd17 ct17 : Value} {f18 : Addr} {od18 an18 : Option Addr} {sl18 : Array (Option Value)} {oc18 kV18 dc18 pm18 cd18 ct18 : Value} {f19 : Addr} {od19 an19 : Option Addr} {sl19 : Array (Option Value)} {oc19 kV19 dc19 pm19 cd19 ct19 : Value} {f20 : Addr} {od20 an20 : Option Addr} {sl20 : Array (Option Value)} {oc20 kV20 dc20 pm20 cd20 ct20 : Value} {f21 : Addr} {od21 an21 : Option Addr} {sl21 : Array (Option Value)} {oc21 kV21 dc21 pm21 cd21 ct21 : Value} {t_MOST_BITS : Nat} {t_MOST_COUNTED : Nat}
    (a0 : PySem.W.nsIn K mainGlobals "common_divisor" = some (some (.ref f0))) (l0 : K.lookup f0 = some ⟨oc0, od0, .func (PySem.W.fnOf "common_divisor" "common_divisor" (defArgs s_common_divisor) (defBody s_common_divisor) (defScope s_common_divisor) .none kV0 dc0 pm0 an0 cd0 ct0), sl0⟩) (c0 : PySem.W.codeIn K cd0 "common_divisor" = true) (k0 : PySem.W.keepIn K (.ref f0) = true)
    (a1 : PySem.W.nsIn K mainGlobals "mappings_of" = some (some (.ref f1))) (l1 : K.lookup f1 = some ⟨oc1, od1, .func (PySem.W.fnOf "mappings_of" "mappings_of" (defArgs s_mappings_of) (defBody s_mappings_of) (defScope s_mappings_of) .none kV1 dc1 pm1 an1 cd1 ct1), sl1⟩) (c1 : PySem.W.codeIn K cd1 "mappings_of" = true) (k1 : PySem.W.keepIn K (.ref f1) = true)
    (a2 : PySem.W.nsIn K mainGlobals "need_few" = some (some (.ref f2))) (l2 : K.lookup f2 = some ⟨oc2, od2, .func (PySem.W.fnOf "need_few" "need_few" (defArgs s_need_few) (defBody s_need_few) (defScope s_need_few) .none kV2 dc2 pm2 an2 cd2 ct2), sl2⟩) (c2 : PySem.W.codeIn K cd2 "need_few" = true) (k2 : PySem.W.keepIn K (.ref f2) = true)
    (a3 : PySem.W.nsIn K mainGlobals "is_integer" = some (some (.ref f3))) (l3 : K.lookup f3 = some ⟨oc3, od3, .func (PySem.W.fnOf "is_integer" "is_integer" (defArgs s_is_integer) (defBody s_is_integer) (defScope s_is_integer) (.ref T3) kV3 dc3 pm3 an3 cd3 ct3), sl3⟩) (c3 : PySem.W.codeIn K cd3 "is_integer" = true) (k3 : PySem.W.keepIn K (.ref f3) = true)
    (d3 : K.lookup T3 = some ⟨oT3, dT3, .seq #[Value.none, Value.none] nT3, sT3⟩)
    (a4 : PySem.W.nsIn K mainGlobals "need_bits" = some (some (.ref f4))) (l4 : K.lookup f4 = some ⟨oc4, od4, .func (PySem.W.fnOf "need_bits" "need_bits" (defArgs s_need_bits) (defBody s_need_bits) (defScope s_need_bits) .none kV4 dc4 pm4 an4 cd4 ct4), sl4⟩) (c4 : PySem.W.codeIn K cd4 "need_bits" = true) (k4 : PySem.W.keepIn K (.ref f4) = true)
    (a5 : PySem.W.nsIn K mainGlobals "need_counted" = some (some (.ref f5))) (l5 : K.lookup f5 = some ⟨oc5, od5, .func (PySem.W.fnOf "need_counted" "need_counted" (defArgs s_need_counted) (defBody s_need_counted) (defScope s_need_counted) .none kV5 dc5 pm5 an5 cd5 ct5), sl5⟩) (c5 : PySem.W.codeIn K cd5 "need_counted" = true) (k5 : PySem.W.keepIn K (.ref f5) = true)
    (a6 : PySem.W.nsIn K mainGlobals "share_of" = some (some (.ref f6))) (l6 : K.lookup f6 = some ⟨oc6, od6, .func (PySem.W.fnOf "share_of" "share_of" (defArgs s_share_of) (defBody s_share_of) (defScope s_share_of) .none kV6 dc6 pm6 an6 cd6 ct6), sl6⟩) (c6 : PySem.W.codeIn K cd6 "share_of" = true) (k6 : PySem.W.keepIn K (.ref f6) = true)
    (a7 : PySem.W.nsIn K mainGlobals "choices_of" = some (some (.ref f7))) (l7 : K.lookup f7 = some ⟨oc7, od7, .func (PySem.W.fnOf "choices_of" "choices_of" (defArgs s_choices_of) (defBody s_choices_of) (defScope s_choices_of) .none kV7 dc7 pm7 an7 cd7 ct7), sl7⟩) (c7 : PySem.W.codeIn K cd7 "choices_of" = true) (k7 : PySem.W.keepIn K (.ref f7) = true)
    (a8 : PySem.W.nsIn K mainGlobals "ringless_of" = some (some (.ref f8))) (l8 : K.lookup f8 = some ⟨oc8, od8, .func (PySem.W.fnOf "ringless_of" "ringless_of" (defArgs s_ringless_of) (defBody s_ringless_of) (defScope s_ringless_of) .none kV8 dc8 pm8 an8 cd8 ct8), sl8⟩) (c8 : PySem.W.codeIn K cd8 "ringless_of" = true) (k8 : PySem.W.keepIn K (.ref f8) = true)
    (a9 : PySem.W.nsIn K mainGlobals "always_count" = some (some (.ref f9))) (l9 : K.lookup f9 = some ⟨oc9, od9, .func (PySem.W.fnOf "always_count" "always_count" (defArgs s_always_count) (defBody s_always_count) (defScope s_always_count) .none kV9 dc9 pm9 an9 cd9 ct9), sl9⟩) (c9 : PySem.W.codeIn K cd9 "always_count" = true) (k9 : PySem.W.keepIn K (.ref f9) = true)
    (a10 : PySem.W.nsIn K mainGlobals "_law_draw" = some (some (.ref f10))) (l10 : K.lookup f10 = some ⟨oc10, od10, .func (PySem.W.fnOf "_law_draw" "_law_draw" (defArgs s__law_draw) (defBody s__law_draw) (defScope s__law_draw) .none kV10 dc10 pm10 an10 cd10 ct10), sl10⟩) (c10 : PySem.W.codeIn K cd10 "_law_draw" = true) (k10 : PySem.W.keepIn K (.ref f10) = true)
    (a11 : PySem.W.nsIn K mainGlobals "_law_least" = some (some (.ref f11))) (l11 : K.lookup f11 = some ⟨oc11, od11, .func (PySem.W.fnOf "_law_least" "_law_least" (defArgs s__law_least) (defBody s__law_least) (defScope s__law_least) .none kV11 dc11 pm11 an11 cd11 ct11), sl11⟩) (c11 : PySem.W.codeIn K cd11 "_law_least" = true) (k11 : PySem.W.keepIn K (.ref f11) = true)
    (a12 : PySem.W.nsIn K mainGlobals "mapping_count" = some (some (.ref f12))) (l12 : K.lookup f12 = some ⟨oc12, od12, .func (PySem.W.fnOf "mapping_count" "mapping_count" (defArgs s_mapping_count) (defBody s_mapping_count) (defScope s_mapping_count) .none kV12 dc12 pm12 an12 cd12 ct12), sl12⟩) (c12 : PySem.W.codeIn K cd12 "mapping_count" = true) (k12 : PySem.W.keepIn K (.ref f12) = true)
    (a13 : PySem.W.nsIn K mainGlobals "_law_count" = some (some (.ref f13))) (l13 : K.lookup f13 = some ⟨oc13, od13, .func (PySem.W.fnOf "_law_count" "_law_count" (defArgs s__law_count) (defBody s__law_count) (defScope s__law_count) .none kV13 dc13 pm13 an13 cd13 ct13), sl13⟩) (c13 : PySem.W.codeIn K cd13 "_law_count" = true) (k13 : PySem.W.keepIn K (.ref f13) = true)
    (a14 : PySem.W.nsIn K mainGlobals "_law_is_whole" = some (some (.ref f14))) (l14 : K.lookup f14 = some ⟨oc14, od14, .func (PySem.W.fnOf "_law_is_whole" "_law_is_whole" (defArgs s__law_is_whole) (defBody s__law_is_whole) (defScope s__law_is_whole) .none kV14 dc14 pm14 an14 cd14 ct14), sl14⟩) (c14 : PySem.W.codeIn K cd14 "_law_is_whole" = true) (k14 : PySem.W.keepIn K (.ref f14) = true)
    (a15 : PySem.W.nsIn K mainGlobals "_law_goes" = some (some (.ref f15))) (l15 : K.lookup f15 = some ⟨oc15, od15, .func (PySem.W.fnOf "_law_goes" "_law_goes" (defArgs s__law_goes) (defBody s__law_goes) (defScope s__law_goes) .none kV15 dc15 pm15 an15 cd15 ct15), sl15⟩) (c15 : PySem.W.codeIn K cd15 "_law_goes" = true) (k15 : PySem.W.keepIn K (.ref f15) = true)
    (a16 : PySem.W.nsIn K mainGlobals "_law_mixed" = some (some (.ref f16))) (l16 : K.lookup f16 = some ⟨oc16, od16, .func (PySem.W.fnOf "_law_mixed" "_law_mixed" (defArgs s__law_mixed) (defBody s__law_mixed) (defScope s__law_mixed) .none kV16 dc16 pm16 an16 cd16 ct16), sl16⟩) (c16 : PySem.W.codeIn K cd16 "_law_mixed" = true) (k16 : PySem.W.keepIn K (.ref f16) = true)
    (a17 : PySem.W.nsIn K mainGlobals "_law_sequence" = some (some (.ref f17))) (l17 : K.lookup f17 = some ⟨oc17, od17, .func (PySem.W.fnOf "_law_sequence" "_law_sequence" (defArgs s__law_sequence) (defBody s__law_sequence) (defScope s__law_sequence) .none kV17 dc17 pm17 an17 cd17 ct17), sl17⟩) (c17 : PySem.W.codeIn K cd17 "_law_sequence" = true) (k17 : PySem.W.keepIn K (.ref f17) = true)
    (a18 : PySem.W.nsIn K mainGlobals "_law_lists" = some (some (.ref f18))) (l18 : K.lookup f18 = some ⟨oc18, od18, .func (PySem.W.fnOf "_law_lists" "_law_lists" (defArgs s__law_lists) (defBody s__law_lists) (defScope s__law_lists) .none kV18 dc18 pm18 an18 cd18 ct18), sl18⟩) (c18 : PySem.W.codeIn K cd18 "_law_lists" = true) (k18 : PySem.W.keepIn K (.ref f18) = true)
    (a19 : PySem.W.nsIn K mainGlobals "_law_right" = some (some (.ref f19))) (l19 : K.lookup f19 = some ⟨oc19, od19, .func (PySem.W.fnOf "_law_right" "_law_right" (defArgs s__law_right) (defBody s__law_right) (defScope s__law_right) .none kV19 dc19 pm19 an19 cd19 ct19), sl19⟩) (c19 : PySem.W.codeIn K cd19 "_law_right" = true) (k19 : PySem.W.keepIn K (.ref f19) = true)
    (a20 : PySem.W.nsIn K mainGlobals "_law_source" = some (some (.ref f20))) (l20 : K.lookup f20 = some ⟨oc20, od20, .func (PySem.W.fnOf "_law_source" "_law_source" (defArgs s__law_source) (defBody s__law_source) (defScope s__law_source) .none kV20 dc20 pm20 an20 cd20 ct20), sl20⟩) (c20 : PySem.W.codeIn K cd20 "_law_source" = true) (k20 : PySem.W.keepIn K (.ref f20) = true)
    (a21 : PySem.W.nsIn K mainGlobals "law" = some (some (.ref f21))) (l21 : K.lookup f21 = some ⟨oc21, od21, .func (PySem.W.fnOf "law" "law" (defArgs s_law) (defBody s_law) (defScope s_law) .none kV21 dc21 pm21 an21 cd21 ct21), sl21⟩) (c21 : PySem.W.codeIn K cd21 "law" = true) (k21 : PySem.W.keepIn K (.ref f21) = true)
    (z_range : PySem.W.nsIn K mainGlobals "range" = some none)
    (z_isinstance : PySem.W.nsIn K mainGlobals "isinstance" = some none)
    (z_bool : PySem.W.nsIn K mainGlobals "bool" = some none)
    (z_int : PySem.W.nsIn K mainGlobals "int" = some none)
    (z_sum : PySem.W.nsIn K mainGlobals "sum" = some none)
    (z_len : PySem.W.nsIn K mainGlobals "len" = some none)
    (z_min : PySem.W.nsIn K mainGlobals "min" = some none)
    (z_enumerate : PySem.W.nsIn K mainGlobals "enumerate" = some none)
    (z_list : PySem.W.nsIn K mainGlobals "list" = some none)
    (z_repr : PySem.W.nsIn K mainGlobals "repr" = some none)
    (z_max : PySem.W.nsIn K mainGlobals "max" = some none)
    (z_abs : PySem.W.nsIn K mainGlobals "abs" = some none)
    (m_MOST_BITS : PySem.W.nsIn K mainGlobals "MOST_BITS" = some (some (.int 60 t_MOST_BITS)))
    (m_MOST_COUNTED : PySem.W.nsIn K mainGlobals "MOST_COUNTED" = some (some (.int 50 t_MOST_COUNTED))) :
    ∃ fd : FuncData, (∀ (s : Shared) (v : Value), BindsTo s fd ⟨[v], []⟩ [("script", v)]) ∧ ∀ base : Heap, K.In base → base.Ns mainGlobals mg → FnG l.prog w K mg base 6 fa fd ["script"] (spF K g_law) := by
  have e := hfa.symm.trans (PySem.W.mg_of X G a21)
  cases e
  have F0 := fd_mk (st := s_common_divisor) l0 c0 k0
  have F1 := fd_mk (st := s_mappings_of) l1 c1 k1
  have F2 := fd_mk (st := s_need_few) l2 c2 k2
  have F3 := fd_mkD (st := s_is_integer) [.non, .non] [Value.none, Value.none] l3 c3 k3 d3 (.cons rfl (.cons rfl .nil)) (by simp)
  have F4 := fd_mk (st := s_need_bits) l4 c4 k4
  have F5 := fd_mk (st := s_need_counted) l5 c5 k5
  have F6 := fd_mk (st := s_share_of) l6 c6 k6
  have F7 := fd_mk (st := s_choices_of) l7 c7 k7
  have F8 := fd_mk (st := s_ringless_of) l8 c8 k8
  have F9 := fd_mk (st := s_always_count) l9 c9 k9
  have F10 := fd_mk (st := s__law_draw) l10 c10 k10
  have F11 := fd_mk (st := s__law_least) l11 c11 k11
  have F12 := fd_mk (st := s_mapping_count) l12 c12 k12
  have F13 := fd_mk (st := s__law_count) l13 c13 k13
  have F14 := fd_mk (st := s__law_is_whole) l14 c14 k14
  have F15 := fd_mk (st := s__law_goes) l15 c15 k15
  have F16 := fd_mk (st := s__law_mixed) l16 c16 k16
  have F17 := fd_mk (st := s__law_sequence) l17 c17 k17
  have F18 := fd_mk (st := s__law_lists) l18 c18 k18
  have F19 := fd_mk (st := s__law_right) l19 c19 k19
  have F20 := fd_mk (st := s__law_source) l20 c20 k20
  have F21 := fd_mk (st := s_law) l21 c21 k21
  refine ⟨_, fun s v => F21.bindsA (ps := ["script"]) (fun _ _ _ _ _ _ us hl => match us, hl with | [_], _ => rfl) s [v] rfl, fun base _ _ => ?_⟩
  have G_common_divisor : FnG l.prog w K mg base 1 f0 _ ["one", "other"] (spF K g_common_divisor) := ok_common_divisor F0
  have C_common_divisor_2 : Cal l.prog w K mg base 1 "common_divisor" ["one", "other"] [] g_common_divisor := ⟨_, _, [], G_common_divisor, PySem.W.mg_of X G a0, k0, F0.bindsN fun _ _ _ _ _ _ us hl => match us, hl with | [_, _], _ => rfl, .nil⟩
  have G_mappings_of : FnG l.prog w K mg base 1 f1 _ ["bits"] (spF K g_mappings_of) := ok_mappings_of F1 (PySem.W.mg_none_of X G z_range)
  have C_mappings_of_1 : Cal l.prog w K mg base 1 "mappings_of" ["bits"] [] g_mappings_of := ⟨_, _, [], G_mappings_of, PySem.W.mg_of X G a1, k1, F1.bindsN fun _ _ _ _ _ _ us hl => match us, hl with | [_], _ => rfl, .nil⟩
  have G_need_few : FnG l.prog w K mg base 1 f2 _ ["bits", "limit"] (spF K g_need_few) := ok_need_few F2
  have C_need_few_2 : Cal l.prog w K mg base 1 "need_few" ["bits", "limit"] [] g_need_few := ⟨_, _, [], G_need_few, PySem.W.mg_of X G a2, k2, F2.bindsN fun _ _ _ _ _ _ us hl => match us, hl with | [_, _], _ => rfl, .nil⟩
  have G_is_integer : FnG l.prog w K mg base 1 f3 _ ["value", "low", "high"] (spF K g_is_integer) := ok_is_integer F3 (PySem.W.mg_none_of X G z_isinstance) (PySem.W.mg_none_of X G z_bool) (PySem.W.mg_none_of X G z_int)
  have C_is_integer_3 : Cal l.prog w K mg base 1 "is_integer" ["value", "low", "high"] [] g_is_integer := by
    obtain ⟨us, vu, bu⟩ := F3.binds1 (ps := ["value", "low", "high"]) 3 2 (by simp) rfl fun _ _ _ _ _ _ _ us its hl hi => match us, hl, its, hi with | [_, _, _], _, [_, _], _ => ⟨_, rfl, rfl⟩
    exact ⟨_, _, us, G_is_integer, PySem.W.mg_of X G a3, k3, bu, vu⟩
  have G_need_bits : FnG l.prog w K mg base 2 f4 _ ["bits"] (spF K g_need_bits) := ok_need_bits F4 (C_is_integer_3.mono (by decide)) ⟨_, PySem.W.mg_of X G m_MOST_BITS⟩
  have C_need_bits_1 : Cal l.prog w K mg base 2 "need_bits" ["bits"] [] g_need_bits := ⟨_, _, [], G_need_bits, PySem.W.mg_of X G a4, k4, F4.bindsN fun _ _ _ _ _ _ us hl => match us, hl with | [_], _ => rfl, .nil⟩
  have G_need_counted : FnG l.prog w K mg base 3 f5 _ ["bits"] (spF K g_need_counted) := ok_need_counted F5 (C_need_bits_1.mono (by decide)) (C_need_few_2.mono (by decide)) ⟨_, PySem.W.mg_of X G m_MOST_COUNTED⟩
  have C_need_counted_1 : Cal l.prog w K mg base 3 "need_counted" ["bits"] [] g_need_counted := ⟨_, _, [], G_need_counted, PySem.W.mg_of X G a5, k5, F5.bindsN fun _ _ _ _ _ _ us hl => match us, hl with | [_], _ => rfl, .nil⟩
  have G_share_of : FnG l.prog w K mg base 4 f6 _ ["bits"] (spF K g_share_of) := ok_share_of F6 (C_common_divisor_2.mono (by decide)) (C_mappings_of_1.mono (by decide)) (C_need_counted_1.mono (by decide))
  have C_k_share_of_0_bits : CalK l.prog w K mg base 4 "share_of" ["bits"] ["bits"] (kp 0 1 [(true, 0)]) g_share_of := ⟨_, _, _, _, G_share_of, PySem.W.mg_of X G a6, k6, kb_mk (n := 0) (m := 1) F6 (by decide) fun _ _ _ _ _ _ us ws h1 h2 => match us, ws, h1, h2 with | [], [_], _, _ => rfl, kp_rep⟩
  have C_share_of_1 : Cal l.prog w K mg base 4 "share_of" ["bits"] [] g_share_of := ⟨_, _, [], G_share_of, PySem.W.mg_of X G a6, k6, F6.bindsN fun _ _ _ _ _ _ us hl => match us, hl with | [_], _ => rfl, .nil⟩
  have G_choices_of : FnG l.prog w K mg base 1 f7 _ ["many"] (spF K g_choices_of) := ok_choices_of F7 (PySem.W.mg_none_of X G z_range)
  have C_choices_of_1 : Cal l.prog w K mg base 1 "choices_of" ["many"] [] g_choices_of := ⟨_, _, [], G_choices_of, PySem.W.mg_of X G a7, k7, F7.bindsN fun _ _ _ _ _ _ us hl => match us, hl with | [_], _ => rfl, .nil⟩
  have G_ringless_of : FnG l.prog w K mg base 2 f8 _ ["bits"] (spF K g_ringless_of) := ok_ringless_of F8 (C_choices_of_1.mono (by decide)) (PySem.W.mg_none_of X G z_range) (PySem.W.mg_none_of X G z_sum)
  have C_ringless_of_1 : Cal l.prog w K mg base 2 "ringless_of" ["bits"] [] g_ringless_of := ⟨_, _, [], G_ringless_of, PySem.W.mg_of X G a8, k8, F8.bindsN fun _ _ _ _ _ _ us hl => match us, hl with | [_], _ => rfl, .nil⟩
  have G_always_count : FnG l.prog w K mg base 4 f9 _ ["bits"] (spF K g_always_count) := ok_always_count F9 (C_need_counted_1.mono (by decide)) (C_ringless_of_1.mono (by decide))
  have C_k_always_count_0_bits : CalK l.prog w K mg base 4 "always_count" ["bits"] ["bits"] (kp 0 1 [(true, 0)]) g_always_count := ⟨_, _, _, _, G_always_count, PySem.W.mg_of X G a9, k9, kb_mk (n := 0) (m := 1) F9 (by decide) fun _ _ _ _ _ _ us ws h1 h2 => match us, ws, h1, h2 with | [], [_], _, _ => rfl, kp_rep⟩
  have C_always_count_1 : Cal l.prog w K mg base 4 "always_count" ["bits"] [] g_always_count := ⟨_, _, [], G_always_count, PySem.W.mg_of X G a9, k9, F9.bindsN fun _ _ _ _ _ _ us hl => match us, hl with | [_], _ => rfl, .nil⟩
  have G__law_draw : FnG l.prog w K mg base 1 f10 _ ["source", "count"] (spF K g__law_draw) := ok__law_draw F10 (PySem.W.mg_none_of X G z_int)
  have C__law_draw_2 : Cal l.prog w K mg base 1 "_law_draw" ["source", "count"] [] g__law_draw := ⟨_, _, [], G__law_draw, PySem.W.mg_of X G a10, k10, F10.bindsN fun _ _ _ _ _ _ us hl => match us, hl with | [_, _], _ => rfl, .nil⟩
  have G__law_least : FnG l.prog w K mg base 1 f11 _ ["one", "two"] (spF K g__law_least) := ok__law_least F11 (PySem.W.mg_none_of X G z_int)
  have C__law_least_2 : Cal l.prog w K mg base 1 "_law_least" ["one", "two"] [] g__law_least := ⟨_, _, [], G__law_least, PySem.W.mg_of X G a11, k11, F11.bindsN fun _ _ _ _ _ _ us hl => match us, hl with | [_, _], _ => rfl, .nil⟩
  have G_mapping_count : FnG l.prog w K mg base 4 f12 _ ["bits"] (spF K g_mapping_count) := ok_mapping_count F12 (C_mappings_of_1.mono (by decide)) (C_need_counted_1.mono (by decide))
  have C_k_mapping_count_0_bits : CalK l.prog w K mg base 4 "mapping_count" ["bits"] ["bits"] (kp 0 1 [(true, 0)]) g_mapping_count := ⟨_, _, _, _, G_mapping_count, PySem.W.mg_of X G a12, k12, kb_mk (n := 0) (m := 1) F12 (by decide) fun _ _ _ _ _ _ us ws h1 h2 => match us, ws, h1, h2 with | [], [_], _, _ => rfl, kp_rep⟩
  have C_mapping_count_1 : Cal l.prog w K mg base 4 "mapping_count" ["bits"] [] g_mapping_count := ⟨_, _, [], G_mapping_count, PySem.W.mg_of X G a12, k12, F12.bindsN fun _ _ _ _ _ _ us hl => match us, hl with | [_], _ => rfl, .nil⟩
  have G__law_count : FnG l.prog w K mg base 1 f13 _ ["masks_here"] (spF K g__law_count) := ok__law_count F13 (PySem.W.mg_none_of X G z_len) (PySem.W.mg_none_of X G z_min)
  have C__law_count_1 : Cal l.prog w K mg base 1 "_law_count" ["masks_here"] [] g__law_count := ⟨_, _, [], G__law_count, PySem.W.mg_of X G a13, k13, F13.bindsN fun _ _ _ _ _ _ us hl => match us, hl with | [_], _ => rfl, .nil⟩
  have G__law_is_whole : FnG l.prog w K mg base 2 f14 _ ["rows", "some"] (spF K g__law_is_whole) := ok__law_is_whole F14 (C__law_count_1.mono (by decide)) (PySem.W.mg_none_of X G z_len) (PySem.W.mg_none_of X G z_enumerate)
  have C__law_is_whole_2 : Cal l.prog w K mg base 2 "_law_is_whole" ["rows", "some"] [] g__law_is_whole := ⟨_, _, [], G__law_is_whole, PySem.W.mg_of X G a14, k14, F14.bindsN fun _ _ _ _ _ _ us hl => match us, hl with | [_, _], _ => rfl, .nil⟩
  have G__law_goes : FnG l.prog w K mg base 3 f15 _ ["rows", "seq"] (spF K g__law_goes) := ok__law_goes F15 (C__law_is_whole_2.mono (by decide))
  have C__law_goes_2 : Cal l.prog w K mg base 3 "_law_goes" ["rows", "seq"] [] g__law_goes := ⟨_, _, [], G__law_goes, PySem.W.mg_of X G a15, k15, F15.bindsN fun _ _ _ _ _ _ us hl => match us, hl with | [_, _], _ => rfl, .nil⟩
  have G__law_mixed : FnG l.prog w K mg base 2 f16 _ ["source", "some"] (spF K g__law_mixed) := ok__law_mixed F16 (C__law_draw_2.mono (by decide)) (PySem.W.mg_none_of X G z_len) (PySem.W.mg_none_of X G z_list)
  have C__law_mixed_2 : Cal l.prog w K mg base 2 "_law_mixed" ["source", "some"] [] g__law_mixed := ⟨_, _, [], G__law_mixed, PySem.W.mg_of X G a16, k16, F16.bindsN fun _ _ _ _ _ _ us hl => match us, hl with | [_, _], _ => rfl, .nil⟩
  have G__law_sequence : FnG l.prog w K mg base 3 f17 _ ["source", "size"] (spF K g__law_sequence) := ok__law_sequence F17 (C__law_draw_2.mono (by decide)) (C__law_mixed_2.mono (by decide)) (PySem.W.mg_none_of X G z_list) (PySem.W.mg_none_of X G z_range)
  have C__law_sequence_2 : Cal l.prog w K mg base 3 "_law_sequence" ["source", "size"] [] g__law_sequence := ⟨_, _, [], G__law_sequence, PySem.W.mg_of X G a17, k17, F17.bindsN fun _ _ _ _ _ _ us hl => match us, hl with | [_, _], _ => rfl, .nil⟩
  have G__law_lists : FnG l.prog w K mg base 1 f18 _ ["size"] (spF K g__law_lists) := ok__law_lists F18 (PySem.W.mg_none_of X G z_range)
  have C__law_lists_1 : Cal l.prog w K mg base 1 "_law_lists" ["size"] [] g__law_lists := ⟨_, _, [], G__law_lists, PySem.W.mg_of X G a18, k18, F18.bindsN fun _ _ _ _ _ _ us hl => match us, hl with | [_], _ => rfl, .nil⟩
  have G__law_right : FnG l.prog w K mg base 5 f19 _ ["source", "size"] (spF K g__law_right) := ok__law_right F19 (C__law_goes_2.mono (by decide)) (C__law_is_whole_2.mono (by decide)) (C__law_least_2.mono (by decide)) (C__law_lists_1.mono (by decide)) (C__law_sequence_2.mono (by decide)) (C_always_count_1.mono (by decide)) (C_mapping_count_1.mono (by decide)) (C_share_of_1.mono (by decide)) (C_k_always_count_0_bits.mono (by decide)) (C_k_mapping_count_0_bits.mono (by decide)) (C_k_share_of_0_bits.mono (by decide)) (PySem.W.mg_none_of X G z_repr) (PySem.W.mg_none_of X G z_len) (PySem.W.mg_none_of X G z_int) (PySem.W.mg_none_of X G z_range)
  have C__law_right_2 : Cal l.prog w K mg base 5 "_law_right" ["source", "size"] [] g__law_right := ⟨_, _, [], G__law_right, PySem.W.mg_of X G a19, k19, F19.bindsN fun _ _ _ _ _ _ us hl => match us, hl with | [_, _], _ => rfl, .nil⟩
  have G__law_source : FnG l.prog w K mg base 1 f20 _ ["cell", "k"] (spF K g__law_source) := ok__law_source F20 (PySem.W.mg_none_of X G z_int) (PySem.W.mg_none_of X G z_max) (PySem.W.mg_none_of X G z_abs)
  have C__law_source_2 : Cal l.prog w K mg base 1 "_law_source" ["cell", "k"] [] g__law_source := ⟨_, _, [], G__law_source, PySem.W.mg_of X G a20, k20, F20.bindsN fun _ _ _ _ _ _ us hl => match us, hl with | [_, _], _ => rfl, .nil⟩
  exact ok_law F21 (C__law_draw_2.mono (by decide)) (C__law_right_2.mono (by decide)) (C__law_source_2.mono (by decide)) (C_always_count_1.mono (by decide)) (C_share_of_1.mono (by decide)) (PySem.W.mg_none_of X G z_enumerate) (PySem.W.mg_none_of X G z_max) (PySem.W.mg_none_of X G z_min) (PySem.W.mg_none_of X G z_len)
end
theorem walk {l : PySem.W.OpenLaw} {q : Program} {loose : List Str} {XP : (Str → Option Value) → Heap → Prop} {YP : World → Heap → Prop} {d : PySem.DefRec} {K : Params → PySem.W.Frag} (hn : l.most = some 63) (hdf : d.params.defaults = [])
    (hY : ∀ (w : World) (h : Heap), YP w h → (K w.params).In h)
    (F : ∀ (w : World) (mg : Str → Option Value) (fa : Addr) (h : Heap), (K w.params).In h → h.Ns mainGlobals mg → mg d.name = some (.ref fa) →
      ∃ fd : FuncData, (∀ (s : Shared) (u : Value), BindsTo s fd ⟨[u], []⟩ [("script", u)]) ∧ ∀ base : Heap, (K w.params).In base → base.Ns mainGlobals mg → FnG l.prog w (K w.params) mg base 6 fa fd ["script"] (spF (K w.params) g_law))
    (hg : ∀ (ns : List Int) (sc : D), ns.length ≤ 63 → (sc = .lst (ns.map D.int) ∨ sc = .klst (ns.map D.int)) → ∃ M, g_law [sc] [] = .ok (.bl true) M) :
    PySem.W.WalkO q loose XP YP l.row.toRowW d [] (fun f vs => PySem.call f vs) :=
  law_walk (n := 63) (k := 6) (x := "script") (g := fun _ => g_law) hn (by decide) hdf ⟨rfl, by decide, by decide⟩ hY F fun _ ns sc hl hs => hg ns sc hl hs
end Pf

set_option Elab.async false
set_option linter.all false
set_option maxRecDepth 100000
set_option maxHeartbeats 2000000
namespace Pf
open PySem PySem.Spec PyProof.Rows L2 Fx
def mapN (n : Nat) : Nat → Nat
  | 0 => 2 ^ n
  | b + 1 => mapN n b * (2 ^ n - 2 ^ b)
theorem mapN_le (n : Nat) : ∀ b, mapN n b ≤ 2 ^ (n * (b + 1))
  | 0 => by simp [mapN]
  | b + 1 => by
    have h := mapN_le n b
    rw [mapN, Nat.mul_add, Nat.pow_add, Nat.mul_one]
    exact Nat.mul_le_mul h (Nat.sub_le _ _)
theorem pow_cast (n : Nat) : (2 : Int) ^ n = ((2 ^ n : Nat) : Int) := by simp
theorem mapN_ok {n b : Nat} (hn : n ≤ 50) (hb : b < n) : CMulX (mapN n b : Int) ((2 : Int) ^ n - 2 ^ b) := by
  have h1 := mapN_le n b
  have h2 : 2 ^ b ≤ 2 ^ n := Nat.pow_le_pow_right (by decide) (by omega)
  have h4 : n * (b + 1) ≤ 50 * 50 := Nat.mul_le_mul hn (by omega)
  have h5 : 2 ^ (n * (b + 1)) < 2 ^ (n * (b + 1) + 1) := Nat.pow_lt_pow_right (by decide) (by omega)
  have h6 : 2 ^ n < 2 ^ (n + 1) := Nat.pow_lt_pow_right (by decide) (by omega)
  refine mulX_of (n * (b + 1) + 1) (n + 1) ?_ ?_ (by omega)
  · rw [Int.natAbs_natCast]; exact Nat.lt_of_le_of_lt h1 h5
  · rw [pow_cast, pow_cast]
    generalize 2 ^ b = x at *
    generalize 2 ^ n = y at *
    omega
theorem r_mappings (n : Nat) (h : n ≤ 50) (M : Mem) : g_mappings_of [.int n] M = .ok (.int (mapN n n : Nat)) M := by
  refine clo_ok (ds' := [.int n]) (d := .int (mapN n n : Nat)) (M' := []) rfl ?_ rfl
  rw [fnF_t _ 1 _ [_] _ rfl]
  have hs : CShl 1 (n : Int) := shl_of 1 50 (by decide) (by omega) (by omega) (by decide)
  obtain ⟨ρ', M', e, h1⟩ := forR (body := bodyF (gw (gN 2)) (sAug 1 hMulI (fbin hSub (fbin hShl (fc (.int 1)) (fv 0)) (fbin hShl (fc (.int 1)) (fv 2))))) (lo := 0) (n := n) (ρ := [some (.int n), some (.int (mapN n 0 : Nat)), none]) (M := [])
    (fun i ρ M => ∃ o, ρ = [some (.int n), some (.int (mapN n i : Nat)), o] ∧ M = []) ⟨_, rfl, rfl⟩ (by
      rintro i ρ M hi ⟨o, rfl, rfl⟩
      have hs2 : CShl 1 (i : Int) := shl_of 1 50 (by decide) (by omega) (by omega) (by decide)
      have hm := mapN_ok h hi
      have h2 : 2 ^ i ≤ 2 ^ n := Nat.pow_le_pow_right (by decide) (by omega)
      refine ⟨_, _, ?_, some (.int i), rfl, rfl⟩
      rw [ev_bodyF, ev_gw_some _ _ rfl, ev_only_nx, ev_sAug (a := .int (mapN n i : Nat)) _ _ _ rfl]
      simp [ev_shl hs, ev_shl hs2, ev_mulI hm, mapN]
      rw [pow_cast, pow_cast, Int.ofNat_sub h2])
  obtain ⟨o, rfl, rfl⟩ := h1
  have e0 : (2 : Int) ^ n = (mapN n 0 : Nat) := pow_cast n
  simp [b_mappings_of, startD, ev_shl hs, ev_range1 (show (0 : Int) ≤ n by omega) (show (n : Int) < 2 ^ 62 by omega), e0, e]
theorem r_is_integer (v lo hi : Int) (M : Mem) : g_is_integer [.int v, .int lo, .int hi] M = .ok (.bl (decide (lo ≤ v) && decide (v ≤ hi))) M := by
  refine clo_ok (ds' := [.int v, .int lo, .int hi]) (d := .bl (decide (lo ≤ v) && decide (v ≤ hi))) (M' := []) rfl ?_ rfl
  rw [fnF_t _ 3 _ [_, _, _] _ rfl]
  by_cases h : lo ≤ v <;> by_cases h2 : v ≤ hi <;> simp [b_is_integer, startD, h, h2]
theorem r_need_bits (n : Nat) (h1 : 1 ≤ n) (h : n ≤ 60) (M : Mem) : g_need_bits [.int n] M = .ok .non M := by
  refine clo_ok (ds' := [.int n]) (d := .non) (M' := []) rfl ?_ rfl
  rw [fnF_t _ 1 _ [_] _ rfl]
  have a1 : (1 : Int) ≤ n := by omega
  have a2 : (n : Int) ≤ 60 := by omega
  simp [b_need_bits, startD, r_is_integer, a1, a2]
theorem r_need_few (n l : Int) (h : n ≤ l) (M : Mem) : g_need_few [.int n, .int l] M = .ok .non M := by
  refine clo_ok (ds' := [.int n, .int l]) (d := .non) (M' := []) rfl ?_ rfl
  rw [fnF_t _ 2 _ [_, _] _ rfl]
  simp [b_need_few, startD, show ¬ l < n by omega]
theorem r_need_counted (n : Nat) (h1 : 1 ≤ n) (h : n ≤ 50) (M : Mem) : g_need_counted [.int n] M = .ok .non M := by
  refine clo_ok (ds' := [.int n]) (d := .non) (M' := []) rfl ?_ rfl
  rw [fnF_t _ 1 _ [_] _ rfl]
  simp [b_need_counted, startD, r_need_bits n h1 (by omega), r_need_few n 50 (by omega)]
theorem r_mapping_count (n : Nat) (h1 : 1 ≤ n) (h : n ≤ 50) (M : Mem) : g_mapping_count [.int n] M = .ok (.int (mapN n n : Nat)) M := by
  refine clo_ok (ds' := [.int n]) (d := .int (mapN n n : Nat)) (M' := []) rfl ?_ rfl
  rw [fnF_t _ 1 _ [_] _ rfl]
  simp [b_mapping_count, startD, r_need_counted n h1 h, r_mappings n h]
/-! the greatest common divisor -/
theorem gcd_step {a b : Nat} (hb : 0 < b) : Nat.gcd b (a % b) = Nat.gcd a b := by
  rw [Nat.gcd_comm a b, Nat.gcd_rec b a, Nat.gcd_comm]
theorem mod_half {r b : Nat} (h0 : 0 < r) (h : r ≤ b) : 2 * (b % r) < b := by
  have h1 : b % r < r := Nat.mod_lt _ h0
  have h2 := Nat.div_add_mod b r
  have h3 : 1 ≤ b / r := Nat.div_pos h h0
  have h4 : r * 1 ≤ r * (b / r) := Nat.mul_le_mul_left _ h3
  omega
theorem while_gcd {c : Fx.Env → Mem → R Bool} {fb : Fx.Env → Mem → O} {M : Mem} (E : Nat → Nat → Fx.Env) (hc : ∀ a b, c (E a b) M = .ok (decide (0 < b)) M) (hb : ∀ a b, 0 < b → fb (E a b) M = .nx (E b (a % b)) M) :
    ∀ (k a b fuel : Nat), b < 2 ^ k → 2 * k + 1 ≤ fuel → whileF c fb fuel (E a b) M = .nx (E (Nat.gcd a b) 0) M
  | k, a, b, fuel, hk, hf => by
    obtain ⟨f, rfl⟩ : ∃ f, fuel = f + 1 := ⟨fuel - 1, by omega⟩
    rw [ev_while, hc]
    by_cases h0 : b = 0
    · subst h0
      simp
    · have hp : 0 < b := by omega
      have hk1 : 1 ≤ k := by
        rcases k with _ | k
        · simp at hk; omega
        · omega
      obtain ⟨f2, rfl⟩ : ∃ f2, f = f2 + 1 := ⟨f - 1, by omega⟩
      simp only [ev_toO_ok, decide_eq_true hp, if_true, hb a b hp, ev_turn_nx]
      rw [ev_while, hc]
      by_cases h1 : a % b = 0
      · rw [h1, ← gcd_step hp, h1]
        simp
      · have hp2 : 0 < a % b := by omega
        simp only [ev_toO_ok, decide_eq_true hp2, if_true, hb _ _ hp2, ev_turn_nx]
        have hlt : a % b ≤ b := Nat.le_of_lt (Nat.mod_lt _ hp)
        have h2 : b % (a % b) < 2 ^ (k - 1) := by
          have h3 := mod_half hp2 hlt
          have h4 : 2 ^ k = 2 * 2 ^ (k - 1) := by
            rw [← Nat.pow_succ']
            congr 1
            omega
          omega
        rw [while_gcd E hc hb (k - 1) _ _ f2 h2 (by omega), gcd_step hp2, gcd_step hp]
  termination_by k => k
theorem r_gcd (a b : Nat) (h : b < 2 ^ 2700) (M : Mem) : g_common_divisor [.int a, .int b] M = .ok (.int (Nat.gcd a b : Nat)) M := by
  refine clo_ok (ds' := [.int a, .int b]) (d := .int (Nat.gcd a b : Nat)) (M' := []) rfl ?_ rfl
  rw [fnF_t _ 2 _ [_, _] _ rfl]
  have q := while_gcd (c := fB (fbin hGt (fv 1) (fc (.int 0)))) (fb := sPar 0 1 (faC (fv 1) (faC (fbin hMod (fv 0) (fv 1)) (faN)))) (M := []) (fun a b => [some (.int a), some (.int b)]) (fun a b => by simp) (fun a b hb => by
    simp [ev_mod (show (0 : Int) < b by omega)]) 2700 a b 6000 h (by decide)
  simp [b_common_divisor, startD, q]
end Pf

set_option Elab.async false
set_option linter.all false
set_option maxRecDepth 100000
set_option maxHeartbeats 2000000
namespace Pf
open PySem PySem.Spec PyProof.Rows L2 Fx
def cN (m : Nat) : Nat → Nat
  | 0 => 1
  | i + 1 => cN m i * (m - i) / (i + 1)
theorem cN_le {m : Nat} (hm : m ≤ 50) : ∀ i, cN m i ≤ 2 ^ (6 * i)
  | 0 => by simp [cN]
  | i + 1 => by
    have h := cN_le hm i
    rw [cN, Nat.mul_add, Nat.pow_add]
    refine Nat.le_trans (Nat.div_le_self _ _) (Nat.mul_le_mul h ?_)
    have : (2 : Nat) ^ (6 * 1) = 64 := by decide
    omega
def cL (m i : Nat) : List Int := (List.range i).map fun t => (cN m t : Int)
theorem cL_succ (m i : Nat) : cL m (i + 1) = cL m i ++ [(cN m i : Int)] := by
  unfold cL
  rw [List.range_succ, List.map_append]
  rfl
theorem r_choices (m : Nat) (hm : m ≤ 50) (M : Mem) : g_choices_of [.int m] M = .ok (.lst ((cL m (m + 1)).map D.int)) M := by
  refine clo_ok (ds' := [.int m]) (d := .ref 0) (M' := [.lst ((cL m (m + 1)).map D.int)]) rfl ?_ (fz_ref_ints (Nat.not_lt_zero 0) rfl)
  rw [fnF_t _ 1 _ [_] _ rfl]
  obtain ⟨ρ', M', e, h1⟩ := forR (body := bodyF (gw (gN 2)) (sExpr (fMth isL hAppend (fv 1) (faC (fbin hDiv (fbin hMul (fbin hIx (fv 1) (fun1 hNeg (fc (.int 1)))) (fbin hSub (fv 0) (fv 2))) (fbin hAdd (fv 2) (fc (.int 1)))) (faN))))) (lo := 0) (n := m) (ρ := [some (.int m), some (.ref 0), none]) (M := [.lst [.int 1]])
    (fun i ρ M => ∃ o, ρ = [some (.int m), some (.ref 0), o] ∧ M = [.lst ((cL m (i + 1)).map D.int)]) ⟨_, rfl, rfl⟩ (by
      rintro i ρ M hi ⟨o, rfl, rfl⟩
      refine ⟨_, _, ?_, some (.int i), rfl, rfl⟩
      have hm1 : CMulX (cN m i : Int) ((m : Int) - i) := mulX_of (6 * i + 1) 6 (by
        rw [Int.natAbs_natCast]
        exact Nat.lt_of_le_of_lt (cN_le hm i) (Nat.pow_lt_pow_right (by decide) (by omega))) (by omega) (by omega)
      have hd1 : CDivW ((cN m i : Int) * ((m : Int) - i)) ((i : Int) + 1) := divW_of 6 (by omega) (by omega) (by decide)
      have hlast : atI ((cL m (i + 1)).map D.int) (-1) = some (.int (cN m i)) := by
        rw [cL_succ, List.map_append]
        exact atIl
      have hz : ((cL m (i + 1)).map D.int).length < sizeLine := by
        have := sizeLine_ge
        simp [cL]
        omega
      have hsub : ((m : Int) - i) = ((m - i : Nat) : Int) := by omega
      rw [ev_bodyF, ev_gw_some _ _ rfl, ev_only_nx, ev_sExpr, ev_fMthL (a := .ref 0) (M1 := [.lst ((cL m (i + 1)).map D.int)]) (eqq rfl) (isL_ref rfl)]
      simp [ev_ix_ref (M := [.lst ((cL m (i + 1)).map D.int)]) (n := 0) rfl, hlast, ev_mul hm1, ev_div hd1, ev_append (M := [.lst ((cL m (i + 1)).map D.int)]) (n := 0) rfl hz]
      rw [cL_succ m (i + 1), List.map_append, cN, hsub]
      simp)
  obtain ⟨o, rfl, rfl⟩ := h1
  have h1 : 1 ≤ sizeLine := by decide
  simp [b_choices_of, startD, h1, ev_range1 (show (0 : Int) ≤ m by omega) (show (m : Int) < 2 ^ 62 by omega), e]
end Pf

set_option Elab.async false
set_option linter.all false
set_option maxRecDepth 100000
set_option maxHeartbeats 4000000
namespace Pf
open PySem PySem.Spec PyProof.Rows L2 Fx
/-- the parts of the sum -/
def partsI (found : List Int) (many : Nat) : List Int := (List.range many).map fun t => (cN many (t + 1) : Int) * found.getD (many - (t + 1)) 0 * 2 ^ ((t + 1) * (many - (t + 1)))
def nextI (found : List Int) (many : Nat) : Int := (pickD (partsI found many) none none (some 2)).sum - (pickD (partsI found many) (some 1) none (some 2)).sum
def rL : Nat → List Int
  | 0 => [1]
  | m + 1 => rL m ++ [nextI (rL m) (m + 1)]
theorem rL_len : ∀ m, (rL m).length = m + 1
  | 0 => rfl
  | m + 1 => by rw [rL, List.length_append, rL_len m]; rfl
theorem rL_pre (m : Nat) : ∀ k, rL m <+: rL (m + k)
  | 0 => List.prefix_refl _
  | k + 1 => (rL_pre m k).trans (List.prefix_append _ _)
def chkR : Bool := (rL 50).all fun x => Nat.blt (x.natAbs) (2 ^ 2600)
theorem chkR_ok : chkR = true := by decide +kernel
theorem rL_small {m : Nat} (hm : m ≤ 50) {x : Int} (hx : x ∈ rL m) : x.natAbs < 2 ^ 2600 := by
  have h1 : x ∈ rL (m + (50 - m)) := (rL_pre m (50 - m)).subset hx
  rw [show m + (50 - m) = 50 by omega] at h1
  have h2 := List.all_eq_true.mp chkR_ok x h1
  rwa [Nat.blt_eq] at h2
theorem getD_mem {l : List Int} {i : Nat} (h : i < l.length) : l.getD i 0 ∈ l := by
  rw [List.getD_eq_getElem?_getD, List.getElem?_eq_getElem h]
  exact List.getElem_mem h
theorem r_ringless (n : Nat) (hn : n ≤ 50) (M : Mem) : g_ringless_of [.int n] M = .ok (.int ((rL n).getD n 0)) M := by
  refine clo_ok (ds' := [.int n]) (d := .int ((rL n).getD n 0)) (M' := [.lst ((rL n).map D.int)]) rfl ?_ rfl
  rw [fnF_t _ 1 _ [_] _ rfl]
  obtain ⟨ρ', M', e, h1⟩ := forR (body := bodyF (gw (gN 2)) (sSeq (sSet 3 (fCall g_choices_of [] (faC (fv 2) (faN)))) (sSeq (sSet 4 (fComp false [5] (fiA (fun ds _ => hRange2 ds) (faC (fc (.int 1)) (faC (fbin hAdd (fv 2) (fc (.int 1))) (faN)))) (gN 5) (fYes) (fbin hShl (fbin hMul (fbin hIx (fv 3) (fv 5)) (fbin hIx (fv 1) (fbin hSub (fv 2) (fv 5)))) (fbin hMul (fv 5) (fbin hSub (fv 2) (fv 5)))))) (sExpr (fMth isL hAppend (fv 1) (faC (fbin hSub (fBlt hSum (faC (fSlS false (fv 4) (fpN) (fpN) (fpS (fc (.int 2)))) (faN))) (fBlt hSum (faC (fSlS false (fv 4) (fpS (fc (.int 1))) (fpN) (fpS (fc (.int 2)))) (faN)))) (faN))))))) (lo := 1) (n := n) (ρ := [some (.int n), some (.ref 0), none, none, none, none]) (M := [.lst [.int 1]])
    (fun i ρ M => ∃ o2 o3 o4 o5, ρ = [some (.int n), some (.ref 0), o2, o3, o4, o5] ∧ M = [.lst ((rL i).map D.int)]) ⟨_, _, _, _, rfl, rfl⟩ (by
      rintro i ρ M hi ⟨o2, o3, o4, o5, rfl, rfl⟩
      refine ⟨_, _, ?_, some (.int (1 + i)), some (.lst ((cL (i + 1) (i + 2)).map D.int)), some (.lst ((partsI (rL i) (i + 1)).map D.int)), o5, rfl, rfl⟩
      have e1 : ((1 : Int) + i) = ((i + 1 : Nat) : Int) := by omega
      have hz : ((rL i).map D.int).length < sizeLine := by
        have := sizeLine_ge
        rw [List.length_map, rL_len]
        omega
      have hco : compI (compT (gN 5) fYes (fbin hShl (fbin hMul (fbin hIx (fv 3) (fv 5)) (fbin hIx (fv 1) (fbin hSub (fv 2) (fv 5)))) (fbin hMul (fv 5) (fbin hSub (fv 2) (fv 5))))
          [some (.int n), some (.ref 0), some (.int (i + 1 : Nat)), some (.lst ((cL (i + 1) (i + 2)).map D.int)), o4, none]) (rangeD 1 1 (i + 1)) [.lst ((rL i).map D.int)] = some ((partsI (rL i) (i + 1)).map D.int, [.lst ((rL i).map D.int)]) := by
        rw [compRange (fun t => .int ((cN (i + 1) (t + 1) : Int) * (rL i).getD (i + 1 - (t + 1)) 0 * 2 ^ ((t + 1) * (i + 1 - (t + 1))))) ?_]
        · unfold partsI
          rw [List.map_map]
          rfl
        · intro t ht
          have e2 : ((1 : Int) + t) = ((t + 1 : Nat) : Int) := by omega
          have g1 : atI ((cL (i + 1) (i + 2)).map D.int) ((t + 1 : Nat) : Int) = some (.int (cN (i + 1) (t + 1))) := atIn (by
            unfold cL
            rw [List.getElem?_map, List.getElem?_map, List.getElem?_range (by omega)]
            rfl)
          have g2 : atI ((rL i).map D.int) ((i + 1 - (t + 1) : Nat) : Int) = some (.int ((rL i).getD (i + 1 - (t + 1)) 0)) := atIn (by
            rw [List.getElem?_map, List.getD_eq_getElem?_getD, List.getElem?_eq_getElem (by rw [rL_len]; omega)]
            rfl)
          have e3 : (((i + 1 : Nat) : Int) - ((t + 1 : Nat) : Int)) = ((i + 1 - (t + 1) : Nat) : Int) := by omega
          have b1 := cN_le (show i + 1 ≤ 50 by omega) (t + 1)
          have b2 := rL_small (show i ≤ 50 by omega) (getD_mem (show i + 1 - (t + 1) < (rL i).length by rw [rL_len]; omega))
          have c1 : CMulX (cN (i + 1) (t + 1) : Int) ((rL i).getD (i + 1 - (t + 1)) 0) := mulX_of (6 * (t + 1) + 1) 2600 (by
            rw [Int.natAbs_natCast]
            exact Nat.lt_of_le_of_lt b1 (Nat.pow_lt_pow_right (by decide) (by omega))) b2 (by omega)
          have c2 : CMulX ((t + 1 : Nat) : Int) ((i + 1 - (t + 1) : Nat) : Int) := mulX_of 6 6 (by omega) (by omega) (by omega)
          have c3 : CShl ((cN (i + 1) (t + 1) : Int) * (rL i).getD (i + 1 - (t + 1)) 0) (((t + 1 : Nat) : Int) * ((i + 1 - (t + 1) : Nat) : Int)) := by
            have k1 : (t + 1) * (i + 1 - (t + 1)) ≤ 50 * 50 := Nat.mul_le_mul (by omega) (by omega)
            refine shl_of (6 * (t + 1) + 1 + 2600) 2500 ?_ (by omega) ?_ (by omega)
            · rw [Int.natAbs_mul, Int.natAbs_natCast, Nat.pow_add]
              exact Nat.mul_lt_mul'' (Nat.lt_of_le_of_lt b1 (Nat.pow_lt_pow_right (by decide) (by omega))) b2
            · rw [← Int.natCast_mul]
              omega
          rw [ev_compT, ev_gN, e2]
          simp only [List.set_cons_succ, List.set_cons_zero, ev_fYes, ev_bind_ok, if_true, ev_fbin, ev_fvs, ev_fv0, ev_ix_lst, g1, ev_ofO_some, ev_sub, e3, ev_ix_ref (M := [.lst ((rL i).map D.int)]) (n := 0) rfl, g2, ev_mul c1, ev_mul c2, ev_shl c3]
          rw [← Int.natCast_mul, Int.toNat_natCast]
      have hr : hRange2 [.int 1, .int (((i + 1 : Nat) : Int) + 1)] = some (.items (rangeD 1 1 (i + 1))) := by
        rw [ev_range2 (by decide) (by omega) (by decide) (by omega)]
        congr 3
        omega
      have hl : (rangeD 1 1 (i + 1)).length < sizeLine := by
        have := sizeLine_ge
        rw [rangeD_len]
        omega
      have p1 : pickD ((partsI (rL i) (i + 1)).map D.int) none none (some 2) = (pickD (partsI (rL i) (i + 1)) none none (some 2)).map D.int := pick_map _ _ _ _ _
      have p2 : pickD ((partsI (rL i) (i + 1)).map D.int) (some 1) none (some 2) = (pickD (partsI (rL i) (i + 1)) (some 1) none (some 2)).map D.int := pick_map _ _ _ _ _
      have hch := fun M => r_choices (i + 1) (by omega) M
      rw [e1, ev_bodyF, ev_gw_some _ _ rfl, ev_only_nx]
      have hap := ev_append (M := [.lst ((rL i).map D.int)]) (n := 0) rfl hz (.int (nextI (rL i) (i + 1)))
      have t2 : ((some (2 : Int) : Option Int) ≠ some 0) = True := by simp
      simp only [ev_sSeq, ev_sSet, ev_fCall, ev_faC, ev_faN, ev_fvs, ev_fv0, ev_bind_ok, List.set_cons_succ, List.set_cons_zero, List.append_nil, hch, ev_toO_ok, ev_seq_nx, ev_fComp, ev_fiA, ev_fbin, ev_fc, ev_ofO_some, ev_add, hr, if_pos hl, wipeD, hco, ev_endC, ev_newF, ev_sExpr,
        ev_fMthL (f := fv 1) (ρ := [some (.int n), some (.ref 0), some (.int (i + 1 : Nat)), some (.lst ((cL (i + 1) (i + 1 + 1)).map D.int)), some (.lst ((partsI (rL i) (i + 1)).map D.int)), o5]) (M := [.lst ((rL i).map D.int)]) (a := .ref 0) (M1 := [.lst ((rL i).map D.int)]) (eqq rfl) (isL_ref rfl),
        ev_fBlt, ev_fSlS, ev_fpN, ev_fpS_int (fc (.int 2)) 2 _ (ev_fc _), ev_fpS_int (fc (.int 1)) 1 _ (ev_fc _), ev_asL_lst, t2, if_true, p1, p2, ev_sum_ints, ev_sure_ok, ev_sub]
      rw [show (pickD (partsI (rL i) (i + 1)) none none (some 2)).sum - (pickD (partsI (rL i) (i + 1)) (some 1) none (some 2)).sum = nextI (rL i) (i + 1) from rfl, hap]
      simp only [ev_sure_ok, ev_toO_ok, List.set_cons_zero]
      rw [rL, List.map_append]
      rfl)
  obtain ⟨o2, o3, o4, o5, rfl, rfl⟩ := h1
  have h1 : 1 ≤ sizeLine := by decide
  have hr : hRange2 [.int 1, .int ((n : Int) + 1)] = some (.items (rangeD 1 1 n)) := by
    rw [ev_range2 (by decide) (by omega) (by decide) (by omega)]
    congr 3
    omega
  have hlast : atI ((rL n).map D.int) (-1) = some (.int ((rL n).getD n 0)) := by
    cases n with
    | zero => rfl
    | succ m =>
      rw [rL, List.map_append]
      have : (rL m ++ [nextI (rL m) (m + 1)]).getD (m + 1) 0 = nextI (rL m) (m + 1) := by
        rw [List.getD_eq_getElem?_getD, List.getElem?_append_right (by rw [rL_len]; exact Nat.le_refl _), rL_len]
        simp
      rw [this]
      exact atIl
  simp [b_ringless_of, startD, h1, hr, e, ev_ix_ref (M := [.lst ((rL n).map D.int)]) (n := 0) rfl, hlast]
theorem r_always (n : Nat) (h1 : 1 ≤ n) (hn : n ≤ 50) (M : Mem) : g_always_count [.int n] M = .ok (.int ((rL n).getD n 0 * 2 ^ n)) M := by
  refine clo_ok (ds' := [.int n]) (d := .int ((rL n).getD n 0 * 2 ^ n)) (M' := []) rfl ?_ rfl
  rw [fnF_t _ 1 _ [_] _ rfl]
  have c : CShl ((rL n).getD n 0) n := shl_of 2600 50 (rL_small hn (getD_mem (by rw [rL_len]; omega))) (by omega) (by omega) (by decide)
  simp [-List.getD_eq_getElem?_getD, b_always_count, startD, r_need_counted n h1 hn, r_ringless n hn, ev_shl c]
def gN_ (n : Nat) : Nat := Nat.gcd (mapN n n) (2 ^ (n * n))
theorem gN_pos (n : Nat) : 0 < gN_ n := Nat.gcd_pos_of_pos_right _ (Nat.pow_pos (by decide))
theorem gN_le (n : Nat) : gN_ n ≤ 2 ^ (n * n) := Nat.gcd_le_right _ (Nat.pow_pos (by decide))
theorem r_share (n : Nat) (h1 : 1 ≤ n) (hn : n ≤ 50) (M : Mem) : g_share_of [.int n] M = .ok (.tup [.int (2 ^ (n * n) / gN_ n : Nat), .int (mapN n n / gN_ n : Nat)]) M := by
  refine clo_ok (ds' := [.int n]) (d := .tup [.int (2 ^ (n * n) / gN_ n : Nat), .int (mapN n n / gN_ n : Nat)]) (M' := []) rfl ?_ rfl
  rw [fnF_t _ 1 _ [_] _ rfl]
  have k1 : n * n ≤ 50 * 50 := Nat.mul_le_mul hn hn
  have c1 : CMulX (n : Int) n := mulX_of 6 6 (by omega) (by omega) (by decide)
  have c2 : CShl 1 ((n : Int) * n) := shl_of 1 2500 (by decide) (by omega) (by rw [← Int.natCast_mul]; omega) (by decide)
  have e1 : (1 : Int) * 2 ^ ((n : Int) * n).toNat = ((2 ^ (n * n) : Nat) : Int) := by
    rw [← Int.natCast_mul, Int.toNat_natCast, Int.one_mul, pow_cast]
  have hg := r_gcd (mapN n n) (2 ^ (n * n)) (Nat.pow_lt_pow_right (by decide) (by omega))
  have hp := gN_pos n
  have hle := gN_le n
  have hlt : gN_ n < 2 ^ (n * n + 1) := Nat.lt_of_le_of_lt hle (Nat.pow_lt_pow_right (by decide) (by omega))
  have d1 : ∀ x, CDivW x (gN_ n : Int) := fun x => divW_of (n * n + 1) (by omega) (by rw [Int.natAbs_natCast]; exact hlt) (by omega)
  have h2 : 2 ≤ sizeLine := by decide
  have hg2 : Nat.gcd (mapN n n) (2 ^ (n * n)) = gN_ n := rfl
  simp only [b_share_of, startD, List.map_cons, List.map_nil, List.length_cons, List.length_nil, List.replicate, List.cons_append, List.nil_append, ev_sSeq, ev_sPar, r_need_counted n h1 hn, ev_sExpr, ev_fCall, ev_faC, ev_faN, ev_fv0, ev_fvs, ev_fc, ev_fbin, ev_bind_ok, ev_mul c1, ev_ofO_some, ev_shl c2, e1, List.append_nil, r_mappings n hn, ev_toO_ok, ev_seq_nx,
    List.set_cons_zero, List.set_cons_succ, ev_sSet, hg, hg2, ev_sRet, ev_fTup, ev_div (d1 _), if_pos h2]
  simp only [ev_toR_rt]
  rw [Int.natCast_ediv, Int.natCast_ediv]
/-! the numbers -/
def chkN (n : Nat) : Bool :=
  (Nat.ble n 1 || Nat.beq (mapN n n) (mapN (n - 1) (n - 1) * (2 ^ n - 1) * 2 ^ n)) && Nat.ble (2 ^ (n * n)) (mapN n n) && decide ((rL 50).getD n 0 * 2 ^ n ≤ 2 ^ (n * n))
end Pf

set_option Elab.async false
set_option linter.all false
set_option maxRecDepth 100000
set_option maxHeartbeats 4000000
namespace Pf
open PySem PySem.Spec PyProof.Rows L2 Fx
def redI (kept : List Int) (s : Int) : Int := kept.foldl (fun s o => if Builtin.bitXor s o < s then Builtin.bitXor s o else s) s
def stepK (kept : List Int) (m : Int) : List Int := if 0 < redI kept m then kept ++ [redI kept m] else kept
def countI (ms : List Int) : Nat := (ms.foldl stepK []).length
def partsW : List Int → Int → Nat → List Int
  | [], _, _ => []
  | r :: rs, sm, k => (if (Builtin.bitAnd (sm / 2 ^ k) 1 == 1) = true then [Builtin.bitAnd r sm] else []) ++ partsW rs sm (k + 1)
def wholeI (rows : List Int) (sm : Int) : Bool := (countI (partsW rows sm 0) : Int) == ((partsW rows sm 0).length : Int)
def goesI (rows : List Int) : Int → List Int → Bool
  | _, [] => true
  | sm, k :: ks => if wholeI rows (Builtin.bitOr sm (1 * 2 ^ k.toNat)) = true then goesI rows (Builtin.bitOr sm (1 * 2 ^ k.toNat)) ks else false
def listsI (size : Nat) : Nat → List (List Int)
  | 0 => [[]]
  | t + 1 => (listsI size t).flatMap fun rows => (List.range (2 ^ size)).map fun (s : Nat) => rows ++ [(s : Int)]
def wholes (n : Nat) : List (List Int) := (listsI n n).filter fun rows => wholeI rows (2 ^ n - 1)
def mixAll : Nat → List Int → List (List Int)
  | 0, _ => [[]]
  | k + 1, l => (List.range l.length).flatMap fun i => (mixAll k (l.eraseIdx i)).map fun q => l.getD i 0 :: q
def idI (n : Nat) : List Int := (List.range n).map fun (i : Nat) => (i : Int)
def alwaysI (n : Nat) : Nat := ((wholes n).filter fun rows => (List.range (2 ^ n)).all fun (s : Nat) => wholeI rows s).length
theorem tt1 : ([1, 2, 3].all fun n => (mixAll n (idI n)).all fun p => (((wholes n).filter fun rows => goesI rows 0 p).length * 2 ^ n == 2 ^ (n * n))) = true := by decide +kernel
theorem tt2 : ([1, 2, 3].map fun n => (wholes n).length * 2 ^ n) = [2, 24, 1344] := by decide +kernel
theorem tt3 : ([1, 2, 3].map alwaysI) = [1, 3, 25] := by decide +kernel
theorem r_count (ms : List Int) (M : Mem) (hz : ms.length < 1000) : g__law_count [.lst (ms.map D.int)] M = .ok (.int (countI ms : Nat)) M := by
  have sz := sizeLine_ge
  have kl : ∀ (l : List Int) (a : List Int), (l.foldl stepK a).length ≤ a.length + l.length := by
    intro l
    induction l with
    | nil => intro a; simp
    | cons m l ih =>
      intro a
      have h1 := ih (stepK a m)
      have h2 : (stepK a m).length ≤ a.length + 1 := by
        unfold stepK
        split
        · rw [List.length_append]; exact Nat.le_refl _
        · omega
      rw [List.foldl_cons, List.length_cons]
      omega
  refine clo_ok (ds' := [.lst (ms.map D.int)]) (d := .int (countI ms : Nat)) (M' := [.lst ((ms.foldl stepK []).map D.int)]) (by rw [List.mapM_cons, fz_ints]; rfl) ?_ rfl
  rw [fnF_t _ 1 _ [_] _ rfl]
  have inner : ∀ (kept : List Int) (m : Int) (a0 o3 : Option D), ∃ p3, sFor (fiL (fv 1)) (bodyF (gw (gN 3)) (sSet 2 (fBlt hMin2 (faC (fv 2) (faC (fbin hXor (fv 2) (fv 3)) (faN)))))) [a0, some (.ref 0), some (.int m), o3] [.lst (kept.map D.int)] = .nx [a0, some (.ref 0), some (.int (redI kept m)), p3] [.lst (kept.map D.int)] := by
    intro kept m a0 o3
    obtain ⟨ρ', M', e, p3, hρ, hM⟩ := for_lst (f := fv 1) (body := bodyF (gw (gN 3)) (sSet 2 (fBlt hMin2 (faC (fv 2) (faC (fbin hXor (fv 2) (fv 3)) (faN)))))) (ρ := [a0, some (.ref 0), some (.int m), o3]) (M := [.lst (kept.map D.int)]) (d := .ref 0) (xs := kept.map D.int) (eqq rfl) (.inr (.inr ⟨0, rfl, rfl⟩))
      (fun i ρ M => ∃ p3, ρ = [a0, some (.ref 0), some (.int (redI (kept.take i) m)), p3] ∧ M = [.lst (kept.map D.int)]) ⟨_, rfl, rfl⟩ (fun i ρ M ⟨_, _, h⟩ => .inr (.inr ⟨0, rfl, by rw [h]; rfl⟩)) (by
        rintro i x ρ M hx ⟨p3, rfl, rfl⟩
        rw [List.getElem?_map] at hx
        cases hq : kept[i]? with
        | none => rw [hq] at hx; cases hx
        | some z =>
          rw [hq] at hx
          cases hx
          refine ⟨_, _, ?_, some (.int z), rfl, rfl⟩
          have ht : kept.take (i + 1) = kept.take i ++ [z] := by
            rw [List.take_succ, hq]
            rfl
          rw [ev_bodyF, ev_gw_some _ _ (ev_gN 3), ev_only_nx, ht]
          simp only [List.set_cons_succ, List.set_cons_zero, ev_sSet, ev_fBlt, ev_faC, ev_faN, ev_fv0, ev_fvs, ev_fbin, ev_bind_ok, ev_xor, ev_ofO_some, ev_min2, ev_sure_ok, ev_toO_ok]
          unfold redI
          rw [List.foldl_append]
          rfl)
    refine ⟨p3, ?_⟩
    rw [e, hρ, hM, List.length_map, List.take_length]
  obtain ⟨ρ', M', e, p2, p3, hρ, hM⟩ := for_lst (f := fv 0) (body := bodyF (gw (gN 2)) (sSeq (sFor (fiL (fv 1)) (bodyF (gw (gN 3)) (sSet 2 (fBlt hMin2 (faC (fv 2) (faC (fbin hXor (fv 2) (fv 3)) (faN))))))) (sIf (fB (fbin hGt (fv 2) (fc (.int 0)))) (sExpr (fMth isL hAppend (fv 1) (faC (fv 2) (faN)))) (sNil)))) (ρ := [some (.lst (ms.map D.int)), some (.ref 0), none, none]) (M := [.lst []]) (d := .lst (ms.map D.int)) (xs := ms.map D.int) (eqq rfl) (.inl rfl)
    (fun i ρ M => ∃ p2 p3, ρ = [some (.lst (ms.map D.int)), some (.ref 0), p2, p3] ∧ M = [.lst (((ms.take i).foldl stepK []).map D.int)]) ⟨_, _, rfl, rfl⟩ (fun i ρ M _ => .inl rfl) (by
      rintro i x ρ M hx ⟨p2, p3, rfl, rfl⟩
      rw [List.getElem?_map] at hx
      cases hq : ms[i]? with
      | none => rw [hq] at hx; cases hx
      | some z =>
        rw [hq] at hx
        cases hx
        have hi := (List.getElem?_eq_some_iff.mp hq).1
        have ht : ms.take (i + 1) = ms.take i ++ [z] := by
          rw [List.take_succ, hq]
          rfl
        have hkl := kl (ms.take i) []
        rw [ht, List.foldl_append, List.foldl_cons, List.foldl_nil]
        generalize (ms.take i).foldl stepK [] = kept at hkl ⊢
        rw [List.length_take] at hkl
        simp only [List.length_nil] at hkl
        obtain ⟨q3, ei⟩ := inner kept z (some (.lst (ms.map D.int))) p3
        have hzk : (kept.map D.int).length < sizeLine := by
          rw [List.length_map]
          omega
        refine ⟨[some (.lst (ms.map D.int)), some (.ref 0), some (.int (redI kept z)), q3], _, ?_, _, _, rfl, rfl⟩
        rw [ev_bodyF, ev_gw_some _ _ (ev_gN 2), ev_only_nx, ev_sSeq]
        simp only [List.set_cons_succ, List.set_cons_zero, ei, ev_seq_nx, ev_sIf, ev_fB, ev_fbin, ev_fv0, ev_fvs, ev_fc, ev_bind_ok, ev_gt, ev_ofO_some, ev_asB, ev_toO_ok]
        unfold stepK
        by_cases hp : 0 < redI kept z
        · rw [decide_eq_true hp, if_pos rfl, if_pos hp, ev_sExpr, ev_fMthL (a := .ref 0) (M1 := [.lst (kept.map D.int)]) (eqq rfl) (isL_ref rfl)]
          simp only [ev_faC, ev_faN, ev_fv0, ev_fvs, ev_bind_ok, ev_append (M := [.lst (kept.map D.int)]) (n := 0) rfl hzk, ev_sure_ok, ev_toO_ok, List.set_cons_zero, List.map_append, List.map_cons, List.map_nil]
        · rw [decide_eq_false hp, if_neg hp]
          simp only [Bool.false_eq_true, if_false, ev_sNil])
  rw [List.length_map, List.take_length] at hM
  have z0 : (0 : Nat) ≤ sizeLine := Nat.zero_le _
  have hl : hLen [.ref 0] [.lst ((ms.foldl stepK []).map D.int)] = .ok (.int (countI ms : Nat)) [.lst ((ms.foldl stepK []).map D.int)] := by
    unfold hLen
    dsimp only
    rw [ev_asL_ref (n := 0) (ds := (ms.foldl stepK []).map D.int) rfl]
    dsimp only
    rw [List.length_map]
    rfl
  rw [hρ, hM] at e
  unfold b__law_count
  simp only [startD, List.map_cons, List.map_nil, List.length_cons, List.length_nil, List.replicate, List.cons_append, List.nil_append, ev_sSeq, ev_sSet, ev_fLst, ev_faN, ev_bind_ok, if_pos z0, ev_newT, ev_toO_ok, List.set_cons_succ, List.set_cons_zero, ev_seq_nx, e, ev_sRet, ev_fBlt, ev_faC, ev_fv0, ev_fvs, hl, ev_sure_ok, ev_toR_rt]
end Pf

set_option Elab.async false
set_option linter.all false
set_option maxRecDepth 100000
set_option maxHeartbeats 4000000
namespace Pf
open PySem PySem.Spec PyProof.Rows L2 Fx
theorem partsW_len : ∀ (rows : List Int) (sm : Int) (k : Nat), (partsW rows sm k).length ≤ rows.length
  | [], _, _ => Nat.le_refl _
  | r :: rs, sm, k => by
    have h := partsW_len rs sm (k + 1)
    unfold partsW
    rw [List.length_append, List.length_cons]
    split <;> simp <;> omega
def partF (sm : Int) : D → Option D
  | .tup [.int k, .int r] => if (Builtin.bitAnd (sm / 2 ^ k.toNat) 1 == 1) = true then some (.int (Builtin.bitAnd r sm)) else none
  | _ => none
theorem parts_filter (sm : Int) : ∀ (rows : List Int) (k : Nat), (enumD k (rows.map D.int)).filterMap (partF sm) = (partsW rows sm k).map D.int
  | [], k => rfl
  | r :: rs, k => by
    rw [List.map_cons]
    unfold enumD partsW
    rw [List.filterMap_cons, List.map_append, ← parts_filter sm rs (k + 1)]
    unfold partF
    dsimp only
    rw [Int.toNat_natCast]
    split
    · rename_i h
      split at h
      · cases h
      · rename_i h2
        rw [if_neg h2]
        rfl
    · rename_i v h
      split at h
      · rename_i h2
        cases h
        rw [if_pos h2]
        rfl
      · cases h
theorem r_whole (rows : List Int) (sm : Int) (hr : rows.length < 1000) (M : Mem) : g__law_is_whole [.lst (rows.map D.int), .int sm] M = .ok (.bl (wholeI rows sm)) M := by
  have sz := sizeLine_ge
  refine clo_ok (ds' := [.lst (rows.map D.int), .int sm]) (d := .bl (wholeI rows sm)) (M' := []) (by rw [List.mapM_cons, List.mapM_cons, fz_ints]; rfl) ?_ rfl
  rw [fnF_t _ 2 _ [_, _] _ rfl]
  have hpl := partsW_len rows sm 0
  have hc := fun M => r_count (partsW rows sm 0) M (by omega)
  have henum : ∀ M, hEnum [.lst (rows.map D.int)] M = some (.items (enumD 0 (rows.map D.int))) := fun M => rfl
  have hel : (enumD 0 (rows.map D.int)).length < sizeLine := by
    have : ∀ (ys : List D) (n : Nat), (enumD n ys).length = ys.length := by
      intro ys
      induction ys with
      | nil => intro n; rfl
      | cons y ys ih => intro n; unfold enumD; rw [List.length_cons, ih, List.length_cons]
    rw [this, List.length_map]
    omega
  have hco : compI (compT (gT2 3 4) (fB (fbin hEq (fbin hAnd (fbin hShr (fv 1) (fv 3)) (fc (.int 1))) (fc (.int 1)))) (fbin hAnd (fv 4) (fv 1)) [some (.lst (rows.map D.int)), some (.int sm), none, none, none]) (enumD 0 (rows.map D.int)) [] = some ((partsW rows sm 0).map D.int, []) := by
    rw [compFilter (partF sm) _ (fun d hd => ?_), parts_filter]
    obtain ⟨i, hi⟩ := List.mem_iff_getElem?.mp hd
    rw [enumD_get, List.getElem?_map] at hi
    cases hq : rows[i]? with
    | none => rw [hq] at hi; cases hi
    | some r =>
      rw [hq] at hi
      cases hi
      rw [ev_compT, ev_gT2]
      simp only [List.set_cons_succ, List.set_cons_zero, ev_fB, ev_fbin, ev_fv0, ev_fvs, ev_fc, ev_bind_ok, ev_shr (show (0 : Int) ≤ (i : Nat) by omega), ev_ofO_some, ev_and, ev_eqI, ev_asB]
      unfold partF
      dsimp only
      split <;> rfl
  unfold b__law_is_whole
  simp only [startD, List.map_cons, List.map_nil, List.length_cons, List.length_nil, List.replicate, List.cons_append, List.nil_append, ev_sSeq, ev_sSet, ev_fComp, ev_fiA, ev_faC, ev_faN, ev_fv0, ev_bind_ok, henum, ev_ofO_some, if_pos hel, wipeD, List.set_cons_succ, List.set_cons_zero, hco, ev_endC, ev_newF, ev_toO_ok, ev_seq_nx, ev_sRet, ev_fbin, ev_fCall, ev_fvs, List.append_nil, hc, ev_fBlt, ev_len_lst, List.length_map, ev_sure_ok, ev_eqI, ev_toR_rt]
  rfl
theorem goes_loop (rows : List Int) (hr : rows.length < 1000) (a1 : Option D) : ∀ (p : List Int) (sm : Int) (o3 : Option D), (∀ k ∈ p, 0 ≤ k ∧ k ≤ 1000) → ∃ ρ', forI (bodyF (gw (gN 3)) (sSeq (sSet 2 (fbin hOr (fv 2) (fbin hShl (fc (.int 1)) (fv 3)))) (sIf (fNotB (fTru (fCall g__law_is_whole [] (faC (fv 0) (faC (fv 2) (faN)))))) (sRet (fc (.bl false))) (sNil)))) (p.map D.int) [some (.lst (rows.map D.int)), a1, some (.int sm), o3] [] = (if goesI rows sm p = true then .nx ρ' [] else .rt (.bl false) [])
  | [], sm, o3, _ => ⟨_, rfl⟩
  | k :: p, sm, o3, h => by
    obtain ⟨k0, k1⟩ := h k List.mem_cons_self
    have hs : CShl 1 k := shl_of 1 1000 (by decide) k0 (by omega) (by decide)
    have hw := fun M => r_whole rows (Builtin.bitOr sm (1 * 2 ^ k.toNat)) hr M
    have hb : bodyF (gw (gN 3)) (sSeq (sSet 2 (fbin hOr (fv 2) (fbin hShl (fc (.int 1)) (fv 3)))) (sIf (fNotB (fTru (fCall g__law_is_whole [] (faC (fv 0) (faC (fv 2) (faN)))))) (sRet (fc (.bl false))) (sNil))) (.int k) [some (.lst (rows.map D.int)), a1, some (.int sm), o3] [] =
        if wholeI rows (Builtin.bitOr sm (1 * 2 ^ k.toNat)) = true then .nx [some (.lst (rows.map D.int)), a1, some (.int (Builtin.bitOr sm (1 * 2 ^ k.toNat))), some (.int k)] [] else .rt (.bl false) [] := by
      rw [ev_bodyF, ev_gw_some _ _ (ev_gN 3), ev_only_nx]
      simp only [List.set_cons_succ, List.set_cons_zero, ev_sSeq, ev_sSet, ev_fbin, ev_fv0, ev_fvs, ev_fc, ev_bind_ok, ev_shl hs, ev_ofO_some, ev_or, ev_toO_ok, ev_seq_nx, ev_sIf, ev_fNotB, ev_fTru, ev_fCall, ev_faC, ev_faN, List.append_nil, hw, ev_tru_bl]
      cases wholeI rows (Builtin.bitOr sm (1 * 2 ^ k.toNat)) <;> simp
    rw [List.map_cons]
    unfold forI
    rw [hb]
    unfold goesI
    by_cases hw2 : wholeI rows (Builtin.bitOr sm (1 * 2 ^ k.toNat)) = true
    · rw [if_pos hw2, if_pos hw2]
      exact goes_loop rows hr a1 p _ _ (fun x hx => h x (List.mem_cons_of_mem _ hx))
    · rw [if_neg hw2, if_neg hw2]
      exact ⟨[], by simp⟩
end Pf

set_option Elab.async false
set_option linter.all false
set_option maxRecDepth 100000
set_option maxHeartbeats 4000000
namespace Pf
open PySem PySem.Spec PyProof.Rows L2 Fx
theorem clo_ref {g : List D → Mem → R D} {ds ds' : List D} {d d' : D} {M M' : Mem} (h0 : ds.mapM (fz 0 [] 64) = none) (h : ds.mapM (fz 0 M 64) = some ds') (e : g ds' [] = .ok d M') (f : flatD d = some d') : clo g ds M = .ok d' M := by
  unfold clo
  rw [h0]
  dsimp only
  rw [h]
  dsimp only
  rw [e]
  unfold cloR
  dsimp only
  rw [f]
theorem r_goes {rows p : List Int} {d : D} {M : Mem} (hr : rows.length < 1000) (hp : ∀ k ∈ p, 0 ≤ k ∧ k ≤ 1000) (hL : d = .lst (p.map D.int) ∨ ∃ n, d = .ref n ∧ M[n]? = some (.lst (p.map D.int))) : g__law_goes [.lst (rows.map D.int), d] M = .ok (.bl (goesI rows 0 p)) M := by
  have core : fnF 4 2 true b__law_goes [.lst (rows.map D.int), .lst (p.map D.int)] [] = .ok (.bl (goesI rows 0 p)) [] := by
    rw [fnF_t _ 2 _ [_, _] _ rfl]
    obtain ⟨ρ', e⟩ := goes_loop rows hr (some (.lst (p.map D.int))) p 0 none hp
    unfold b__law_goes
    simp only [startD, List.map_cons, List.map_nil, List.length_cons, List.length_nil, List.replicate, List.cons_append, List.nil_append, ev_sSeq, ev_sSet, ev_fc, ev_toO_ok, List.set_cons_succ, List.set_cons_zero, ev_seq_nx, ev_sFor, ev_fiL, ev_fvs, ev_fv0, ev_bind_ok]
    rw [show srcL (.lst (p.map D.int)) [] = some (.items (p.map D.int)) from rfl, ev_ofO_some, ev_toO_ok]
    dsimp only
    rw [e]
    cases goesI rows 0 p <;> simp
  rcases hL with rfl | ⟨n, rfl, hn⟩
  · exact clo_ok (by rw [List.mapM_cons, List.mapM_cons, fz_ints, fz_ints]; rfl) core rfl
  · refine clo_ref ?_ (ds' := [.lst (rows.map D.int), .lst (p.map D.int)]) ?_ core rfl
    · rw [List.mapM_cons, List.mapM_cons, fz_ints]
      rfl
    · rw [List.mapM_cons, List.mapM_cons, fz_ints, fz_ref_ints (Nat.not_lt_zero n) hn]
      rfl
def rowD (l : List Int) : D := .lst (l.map D.int)
noncomputable def L3 : Fx.Env → Mem → O := sFor (fiA (fun ds _ => hRange1 ds) (faC (fbin hShl (fc (.int 1)) (fv 0)) (faN))) (bodyF (gw (gN 5)) (sExpr (fMth isL hAppend (fv 3) (faC (fbin hAdd (fv 4) (fLst false (faC (fv 5) (faN)))) (faN)))))
theorem last_set (B : Mem) (x y : D) : (B ++ [x]).set B.length y = B ++ [y] := by
  rw [List.set_append_right _ _ (Nat.le_refl _)]
  simp
theorem last_get (B : Mem) (x : D) : (B ++ [x])[B.length]? = some x := by simp
theorem inner3 {n : Nat} (hn : n ≤ 3) (B : Mem) (acc : List D) (r : List Int) (a1 a2 o5 : Option D) (hacc : acc.length ≤ 100000) (hr : r.length ≤ 1000) : ∃ q5, L3 [some (.int n), a1, a2, some (.ref B.length), some (rowD r), o5] (B ++ [.lst acc]) =
    .nx [some (.int n), a1, a2, some (.ref B.length), some (rowD r), q5] (B ++ [.lst (acc ++ (List.range (2 ^ n)).map fun (s : Nat) => rowD (r ++ [(s : Int)]))]) := by
  have sz := sizeLine_ge
  have h8 : 2 ^ n ≤ 8 := Nat.pow_le_pow_right (by decide) hn
  have hs : CShl 1 (n : Int) := shl_of 1 50 (by decide) (by omega) (by omega) (by decide)
  have e1 : (1 : Int) * 2 ^ (n : Int).toNat = ((2 ^ n : Nat) : Int) := by rw [Int.toNat_natCast, Int.one_mul, pow_cast]
  obtain ⟨ρ', M', e, q5, hρ, hM⟩ := forR (body := bodyF (gw (gN 5)) (sExpr (fMth isL hAppend (fv 3) (faC (fbin hAdd (fv 4) (fLst false (faC (fv 5) (faN)))) (faN))))) (lo := 0) (n := 2 ^ n) (ρ := [some (.int n), a1, a2, some (.ref B.length), some (rowD r), o5]) (M := B ++ [.lst acc])
    (fun i ρ M => ∃ q5, ρ = [some (.int n), a1, a2, some (.ref B.length), some (rowD r), q5] ∧ M = B ++ [.lst (acc ++ (List.range i).map fun (s : Nat) => rowD (r ++ [(s : Int)]))]) ⟨_, rfl, by simp⟩ (by
      rintro i ρ M hi ⟨q5, rfl, rfl⟩
      have hz : (acc ++ (List.range i).map fun (s : Nat) => rowD (r ++ [(s : Int)])).length < sizeLine := by
        rw [List.length_append, List.length_map, List.length_range]
        omega
      have one : 1 ≤ sizeLine := by decide
      have hl : (r.map D.int).length + [D.int ((0 : Int) + i)].length ≤ sizeLine := by
        rw [List.length_map, List.length_singleton]
        omega
      refine ⟨_, _, ?_, some (.int (0 + i)), rfl, rfl⟩
      rw [ev_bodyF, ev_gw_some _ _ (ev_gN 5), ev_only_nx, ev_sExpr]
      simp only [List.set_cons_succ, List.set_cons_zero]
      rw [ev_fMthL (a := .ref B.length) (eqq rfl) (isL_ref (last_get B _))]
      simp only [ev_faC, ev_faN, ev_fbin, ev_fv0, ev_fvs, ev_fLst, ev_bind_ok, List.length_cons, List.length_nil, if_pos one, ev_newF, rowD, ev_addL hl, ev_ofO_some]
      have hap := ev_append (last_get B (.lst (acc ++ (List.range i).map fun (s : Nat) => rowD (r ++ [(s : Int)])))) hz
      unfold rowD at hap
      rw [hap]
      rw [ev_sure_ok, ev_toO_ok, last_set, List.range_succ, List.map_append, List.append_assoc]
      simp)
  refine ⟨q5, ?_⟩
  rw [hρ, hM] at e
  unfold L3
  generalize hN : 2 ^ n = N at h8 e1 e ⊢
  have g0 : (0 : Int) ≤ (N : Int) := by omega
  have g1 : (N : Int) < 2 ^ 62 := by omega
  simp only [ev_sFor, ev_fiA, ev_faC, ev_faN, ev_fbin, ev_fc, ev_fv0, ev_bind_ok, ev_shl hs, ev_ofO_some, e1]
  rw [ev_range1 g0 g1, ev_ofO_some, ev_toO_ok]
  dsimp only
  rw [Int.toNat_natCast]
  exact e
theorem lists_len (n : Nat) : ∀ t, (listsI n t).length = (2 ^ n) ^ t
  | 0 => rfl
  | t + 1 => by
    unfold listsI
    rw [List.length_flatMap]
    have : ∀ (l : List (List Int)), (l.map fun rows => ((List.range (2 ^ n)).map fun (s : Nat) => rows ++ [(s : Int)]).length).sum = l.length * 2 ^ n := by
      intro l
      induction l with
      | nil => simp
      | cons a l ih =>
        rw [List.map_cons, List.sum_cons, ih, List.length_map, List.length_range, List.length_cons, Nat.succ_mul, Nat.add_comm]
    rw [this, lists_len n t, Nat.pow_succ]
theorem lists_row (n : Nat) : ∀ t, ∀ r ∈ listsI n t, r.length = t
  | 0, r, h => by
    unfold listsI at h
    rw [List.mem_singleton.mp h]
    rfl
  | t + 1, r, h => by
    unfold listsI at h
    obtain ⟨q, hq, hr⟩ := List.mem_flatMap.mp h
    obtain ⟨s, _, rfl⟩ := List.mem_map.mp hr
    rw [List.length_append, lists_row n t q hq]
    rfl
noncomputable def L2b : Fx.Env → Mem → O := sFor (fiL (fv 1)) (bodyF (gw (gN 4)) L3)
def extF (n : Nat) (r : List Int) : List D := (List.range (2 ^ n)).map fun (s : Nat) => rowD (r ++ [(s : Int)])
theorem ext_len (n : Nat) : ∀ (l : List (List Int)), (l.flatMap (extF n)).length = l.length * 2 ^ n
  | [] => by simp
  | a :: l => by
    rw [List.flatMap_cons, List.length_append, ext_len n l, List.length_cons, Nat.succ_mul, extF, List.length_map, List.length_range, Nat.add_comm]
theorem mid2 {n : Nat} (hn : n ≤ 3) (B : Mem) (L : List (List Int)) (d : D) (a2 o4 o5 : Option D) (hL : ∀ y, IsL (B ++ [y]) d (L.map rowD)) (hlen : L.length ≤ 1000) (hrow : ∀ r ∈ L, r.length ≤ 1000) :
    ∃ q4 q5, L2b [some (.int n), some d, a2, some (.ref B.length), o4, o5] (B ++ [.lst []]) = .nx [some (.int n), some d, a2, some (.ref B.length), q4, q5] (B ++ [.lst (L.flatMap (extF n))]) := by
  have h8 : 2 ^ n ≤ 8 := Nat.pow_le_pow_right (by decide) hn
  obtain ⟨ρ', M', e, q4, q5, hρ, hM⟩ := for_lst (f := fv 1) (body := bodyF (gw (gN 4)) L3) (ρ := [some (.int n), some d, a2, some (.ref B.length), o4, o5]) (M := B ++ [.lst []]) (d := d) (xs := L.map rowD) (eqq rfl) (hL _)
    (fun i ρ M => ∃ q4 q5, ρ = [some (.int n), some d, a2, some (.ref B.length), q4, q5] ∧ M = B ++ [.lst ((L.take i).flatMap (extF n))]) ⟨_, _, rfl, rfl⟩ (fun i ρ M ⟨_, _, _, h⟩ => by rw [h]; exact hL _) (by
      rintro i x ρ M hx ⟨q4, q5, rfl, rfl⟩
      rw [List.getElem?_map] at hx
      cases hq : L[i]? with
      | none => rw [hq] at hx; cases hx
      | some r =>
        rw [hq] at hx
        cases hx
        have hi := (List.getElem?_eq_some_iff.mp hq).1
        have ht : L.take (i + 1) = L.take i ++ [r] := by
          rw [List.take_succ, hq]
          rfl
        have hacc : ((L.take i).flatMap (extF n)).length ≤ 100000 := by
          rw [ext_len, List.length_take]
          have : min i L.length * 2 ^ n ≤ 1000 * 8 := Nat.mul_le_mul (by omega) h8
          omega
        obtain ⟨p5, e3⟩ := inner3 hn B ((L.take i).flatMap (extF n)) r (some d) a2 q5 hacc (hrow r (List.mem_of_getElem? hq))
        refine ⟨_, _, ?_, some (rowD r), p5, rfl, rfl⟩
        rw [ev_bodyF, ev_gw_some _ _ (ev_gN 4), ev_only_nx]
        simp only [List.set_cons_succ, List.set_cons_zero]
        rw [e3, ht, List.flatMap_append, List.flatMap_cons, List.flatMap_nil, List.append_nil]
        rfl)
  refine ⟨q4, q5, ?_⟩
  rw [List.length_map, List.take_length] at hM
  rw [hρ, hM] at e
  exact e
def memL (n t : Nat) : Mem := (List.range t).map fun j => D.lst ((listsI n (j + 1)).map rowD)
theorem memL_len (n t : Nat) : (memL n t).length = t := by simp [memL]
theorem memL_succ (n t : Nat) : memL n (t + 1) = memL n t ++ [.lst ((listsI n (t + 1)).map rowD)] := by
  unfold memL
  rw [List.range_succ, List.map_append]
  rfl
def fndD (t : Nat) : D := match t with
  | 0 => .lst [rowD []]
  | t + 1 => .ref t
theorem fnd_is (n t : Nat) (X : Mem) : IsL (memL n t ++ X) (fndD t) ((listsI n t).map rowD) := by
  cases t with
  | zero => exact .inl rfl
  | succ t =>
    refine .inr (.inr ⟨t, rfl, ?_⟩)
    rw [List.getElem?_append_left (by rw [memL_len]; omega)]
    unfold memL
    rw [List.getElem?_map, List.getElem?_range (by omega)]
    rfl
theorem ext_map (n : Nat) : ∀ (l : List (List Int)), l.flatMap (extF n) = (l.flatMap fun rows => (List.range (2 ^ n)).map fun (s : Nat) => rows ++ [(s : Int)]).map rowD
  | [] => rfl
  | a :: l => by
    rw [List.flatMap_cons, List.flatMap_cons, List.map_append, ext_map n l, extF, List.map_map]
    rfl
theorem fz_rows (k : Nat) (M : Mem) : ∀ (l : List (List Int)), (l.map rowD).mapM (fz 0 M (k + 2)) = some (l.map rowD)
  | [] => rfl
  | a :: l => by
    rw [List.map_cons, List.mapM_cons, fz_rows k M l, rowD, fz_ints]
    rfl
theorem r_lists (n : Nat) (h1 : 1 ≤ n) (hn : n ≤ 3) (M : Mem) : g__law_lists [.int n] M = .ok (.lst ((listsI n n).map rowD)) M := by
  have h8 : 2 ^ n ≤ 8 := Nat.pow_le_pow_right (by decide) hn
  refine clo_ok (ds' := [.int n]) (d := fndD n) (M' := memL n n) rfl ?_ ?_
  · rw [fnF_t _ 1 _ [_] _ rfl]
    obtain ⟨ρ', M', e, q2, q3, q4, q5, hρ, hM⟩ := forR (body := bodyF (gw (gN 2)) (sSeq (sSet 3 (fLst true (faN))) (sSeq L2b (sSet 1 (fv 3))))) (lo := 0) (n := n) (ρ := [some (.int n), some (fndD 0), none, none, none, none]) (M := memL n 0)
      (fun t ρ M => ∃ q2 q3 q4 q5, ρ = [some (.int n), some (fndD t), q2, q3, q4, q5] ∧ M = memL n t) ⟨_, _, _, _, rfl, rfl⟩ (by
        rintro t ρ M ht ⟨q2, q3, q4, q5, rfl, rfl⟩
        have hlen : (listsI n t).length ≤ 1000 := by
          rw [lists_len]
          have a1 : (2 ^ n) ^ t ≤ 8 ^ t := Nat.pow_le_pow_left h8 t
          have a2 : 8 ^ t ≤ 8 ^ 3 := Nat.pow_le_pow_right (by decide) (by omega)
          have a3 : 8 ^ 3 = 512 := by decide
          omega
        obtain ⟨p4, p5, e2⟩ := mid2 hn (memL n t) (listsI n t) (fndD t) (some (.int (0 + t))) q4 q5 (fun y => fnd_is n t [y]) hlen (fun r hr => by rw [lists_row n t r hr]; omega)
        have z0 : (0 : Nat) ≤ sizeLine := Nat.zero_le _
        refine ⟨_, _, ?_, some (.int (0 + t)), some (.ref t), p4, p5, rfl, rfl⟩
        rw [memL_len] at e2
        rw [ev_bodyF, ev_gw_some _ _ (ev_gN 2), ev_only_nx]
        simp only [List.set_cons_succ, List.set_cons_zero, ev_sSeq, ev_sSet, ev_fLst, ev_faN, ev_bind_ok, List.length_nil, if_pos z0, ev_newT, memL_len, ev_toO_ok, ev_seq_nx, e2, ev_fv0, ev_fvs]
        rw [memL_succ, ext_map]
        rfl)
    have z0 : (0 : Nat) ≤ sizeLine := Nat.zero_le _
    have one : 1 ≤ sizeLine := by decide
    rw [hρ, hM] at e
    have hb : b__law_lists = sSeq (sSet 1 (fLst false (faC (fLst false (faN)) (faN)))) (sSeq (sFor (fiA (fun ds _ => hRange1 ds) (faC (fv 0) (faN))) (bodyF (gw (gN 2)) (sSeq (sSet 3 (fLst true (faN))) (sSeq L2b (sSet 1 (fv 3)))))) (sRet (fv 1))) := rfl
    have hf0 : fndD 0 = .lst [.lst []] := rfl
    have hm0 : memL n 0 = [] := rfl
    rw [hf0, hm0] at e
    rw [hb]
    simp only [startD, List.map_cons, List.map_nil, List.length_cons, List.length_nil, List.replicate, List.cons_append, List.nil_append, ev_sSeq, ev_sSet, ev_fLst, ev_faC, ev_faN, ev_bind_ok, if_pos z0, if_pos one, ev_newF, ev_toO_ok, List.set_cons_succ, List.set_cons_zero, ev_seq_nx, ev_sFor, ev_fiA, ev_fv0, ev_fvs, ev_range1 (show (0 : Int) ≤ n by omega) (show (n : Int) < 2 ^ 62 by omega), ev_ofO_some, Int.toNat_natCast, e, ev_sRet, ev_toR_rt]
  · obtain ⟨t, rfl⟩ : ∃ t, n = t + 1 := ⟨n - 1, by omega⟩
    show fz 0 (memL (t + 1) (t + 1)) 64 (.ref t) = _
    rw [fz_ref, if_neg (Nat.not_lt_zero t)]
    have hg : (memL (t + 1) (t + 1))[t]? = some (.lst ((listsI (t + 1) (t + 1)).map rowD)) := by
      unfold memL
      rw [List.getElem?_map, List.getElem?_range (by omega)]
      rfl
    rw [hg]
    dsimp only
    rw [fz_lst, fz_rows]
    rfl
end Pf

set_option Elab.async false
set_option linter.all false
set_option maxRecDepth 100000
set_option maxHeartbeats 4000000
namespace Pf
open PySem PySem.Spec PyProof.Rows L2 Fx
/-! the script's numbers, drawn -/
theorem r_source (c : Int) (k : Nat) (hk : k ≤ 100) (M : Mem) : ∃ a b : Int, 0 ≤ b ∧ b < 2 ^ 200 ∧ g__law_source [.int c, .int k] M = .ok (.ref M.length) (M ++ [.lst [.int a, .int b, .int 0]]) := by
  have p1 : CPowX 10 18 := powX_of 4 (by decide) (by decide) (by decide)
  have p2 : CPowX 10 43 := powX_of 4 (by decide) (by decide) (by decide)
  have m0 : (0 : Int) < 10 ^ 43 + 57 := by decide
  have f : (if c < 0 then -c else c) = ((c.natAbs : Nat) : Int) := by split <;> omega
  have h1 := Int.emod_nonneg ((c.natAbs : Nat) : Int) (show (10 ^ 43 + 57 : Int) ≠ 0 by decide)
  have h2 := Int.emod_lt_of_pos ((c.natAbs : Nat) : Int) m0
  generalize hr : ((c.natAbs : Nat) : Int) % (10 ^ 43 + 57) = r at h1 h2
  have e43 : (10 ^ 43 + 57 : Int) = 10000000000000000000000000000000000000000057 := by decide
  rw [e43] at h2
  have c1 : CMulX r 89 := mulX_of 150 7 (by
    have : (2 : Nat) ^ 150 = 1427247692705959881058285969449495136382746624 := by decide
    omega) (by decide) (by decide)
  have c2 : CMulX 2 (k : Int) := mulX_of 2 7 (by decide) (by omega) (by decide)
  have h3 : 3 ≤ sizeLine := by decide
  refine ⟨if ((c.natAbs : Nat) : Int) - 10 ^ (18 : Int).toNat > 0 then ((c.natAbs : Nat) : Int) - 10 ^ (18 : Int).toNat else 0, r * 89 + 2 * k + (if decide (c < 0) = true then 1 else 0), ?_, ?_, ?_⟩
  · split <;> omega
  · have : (2 : Int) ^ 200 = 1606938044258990275541962092341162602522202993782792835301376 := by decide
    split <;> omega
  unfold g__law_source
  rw [fnF_t _ 2 _ [_, _] _ rfl]
  unfold b__law_source
  simp only [startD, List.map_cons, List.map_nil, List.length_cons, List.length_nil, List.replicate, List.cons_append, List.nil_append]
  simp only [ev_sSeq, ev_sSet, ev_fBlt, ev_faC, ev_faN, ev_fv0, ev_fvs, ev_bind_ok, ev_abs, f, ev_sure_ok, ev_toO_ok, List.set_cons_succ, List.set_cons_zero, ev_seq_nx, ev_sRet, ev_fLst, ev_fc, ev_fbin, ev_pow p1, ev_ofO_some, ev_sub, ev_max2, ev_int_int, ev_pow p2, ev_add, show (43 : Int).toNat = 43 from rfl, ev_mod m0, hr, ev_mul c1, ev_mul c2, ev_lt, ev_int_bl, List.length_cons, List.length_nil, if_pos h3, ev_newT, ev_toR_rt]
/-- a source of drawn numbers stands at n -/
def Src3 (n : Nat) (q : Nat) (M : Mem) : Prop := ∃ a b c : Int, M[n]? = some (.lst [.int a, .int b, .int c]) ∧ 0 ≤ b ∧ b < 2 ^ 200 ∧ 0 ≤ c ∧ c ≤ q
theorem r_draw {n q : Nat} {M : Mem} {count : Int} (h : Src3 n q M) (hq : q ≤ 1000000) (h0 : 0 < count) (h1 : count.natAbs < 2 ^ 9000) :
    ∃ (r : Int) (d : D), g__law_draw [.ref n, .int count] M = .ok (.int r) (M.set n d) ∧ Src3 n (q + 1) (M.set n d) ∧ 0 ≤ r ∧ r < count := by
  obtain ⟨a, b, c, hM, b0, b1, c0, c1⟩ := h
  have hl : n < M.length := (List.getElem?_eq_some_iff.mp hM).1
  have cd : ∀ x, CDivW x count := fun x => divW_of 9000 h0 h1 (by decide)
  have ix0 := fun (M' : Mem) (a b c : Int) (e : M'[n]? = some (.lst [.int a, .int b, .int c])) => (ev_ix_ref e 0).trans (show atI [D.int a, .int b, .int c] 0 = some (.int a) from rfl)
  have ix1 := fun (M' : Mem) (a b c : Int) (e : M'[n]? = some (.lst [.int a, .int b, .int c])) => (ev_ix_ref e 1).trans (show atI [D.int a, .int b, .int c] 1 = some (.int b) from rfl)
  have ix2 := fun (M' : Mem) (a b c : Int) (e : M'[n]? = some (.lst [.int a, .int b, .int c])) => (ev_ix_ref e 2).trans (show atI [D.int a, .int b, .int c] 2 = some (.int c) from rfl)
  unfold g__law_draw
  rw [fnF_t _ 2 _ [_, _] _ rfl]
  unfold b__law_draw
  simp only [startD, List.map_cons, List.map_nil, List.length_cons, List.length_nil, List.replicate, List.cons_append, List.nil_append]
  by_cases ha : 0 < a
  · have e1 : decide ((0 : Int) < a) = true := decide_eq_true ha
    refine ⟨a % count, .lst [.int (a / count), .int b, .int c], ?_, ⟨a / count, b, c, by rw [List.getElem?_set_self hl], b0, b1, c0, by omega⟩, Int.emod_nonneg _ (by omega), Int.emod_lt_of_pos _ h0⟩
    simp only [ev_sSeq, ev_sIf, ev_fB, ev_fbin, ev_fv0, ev_fvs, ev_fc, ev_bind_ok, ix0 _ _ _ _ hM, ev_ofO_some, ev_gt, ev_asB, e1, ev_toO_ok, if_true, ev_sSet, ev_fBlt, ev_faC, ev_faN, ev_int_int, ev_sure_ok, ev_mod h0, List.set_cons_succ, List.set_cons_zero, ev_seq_nx, ev_sAsg, ev_div (cd _)]
    rw [ev_gIx_ref (n := n) (i := 0) (j := 0) (eqq rfl) (eqq rfl) hM rfl]
    simp only [ev_only_nx, ev_sNil, ev_seq_nx, ev_sRet, ev_fv0, ev_fvs, ev_toO_ok, ev_seq_rt, ev_toR_rt, List.set_cons_zero]
  · have e1 : decide ((0 : Int) < a) = false := decide_eq_false ha
    have hM2 : (M.set n (.lst [.int a, .int b, .int (c + 1)]))[n]? = some (.lst [.int a, .int b, .int (c + 1)]) := by rw [List.getElem?_set_self hl]
    have m1 : (0 : Int) < 10 ^ 39 + 3 := by decide
    have m2 : (0 : Int) < 10 ^ 41 + 81 := by decide
    have p39 : CPowX 10 39 := powX_of 4 (by decide) (by decide) (by decide)
    have p41 : CPowX 10 41 := powX_of 4 (by decide) (by decide) (by decide)
    have k1 : CMulX 700001 (c + 1) := mulX_of 20 21 (by decide) (by
      have : (2 : Nat) ^ 21 = 2097152 := by decide
      omega) (by decide)
    have q200 : (2 : Int) ^ 200 = 1606938044258990275541962092341162602522202993782792835301376 := by decide
    have q201 : (2 : Nat) ^ 201 = 3213876088517980551083924184682325205044405987565585670602752 := by decide
    have w1 : CPowX (b + 700001 * (c + 1)) 3 := powX_of 201 (by omega) (by decide) (by decide)
    have x1 := Int.emod_nonneg ((b + 700001 * (c + 1)) ^ (3 : Int).toNat) (show (10 ^ 39 + 3 : Int) ≠ 0 by decide)
    have x2 := Int.emod_lt_of_pos ((b + 700001 * (c + 1)) ^ (3 : Int).toNat) m1
    generalize hx : (b + 700001 * (c + 1)) ^ (3 : Int).toNat % (10 ^ 39 + 3) = x at x1 x2
    have e39 : (10 ^ 39 + 3 : Int) = 1000000000000000000000000000000000000003 := by decide
    rw [e39] at x2
    have q150 : (2 : Nat) ^ 150 = 1427247692705959881058285969449495136382746624 := by decide
    have k2 : CMulX x (c + 1) := mulX_of 150 21 (by omega) (by
      have : (2 : Nat) ^ 21 = 2097152 := by decide
      omega) (by decide)
    have xm : 0 ≤ x * (c + 1) := Int.mul_nonneg x1 (by omega)
    have xl : (x * (c + 1) + 90031).natAbs < 2 ^ 200 := by
      have y1 : x * (c + 1) ≤ 1000000000000000000000000000000000000003 * 1000001 := Int.mul_le_mul (by omega) (by omega) (by omega) (by decide)
      have : (2 : Nat) ^ 200 = 1606938044258990275541962092341162602522202993782792835301376 := by decide
      omega
    have w2 : CPowX (x * (c + 1) + 90031) 3 := powX_of 200 xl (by decide) (by decide)
    generalize hz : (x * (c + 1) + 90031) ^ (3 : Int).toNat % (10 ^ 41 + 81) = z
    have dz : CDivW z 131101 := divW_of 18 (by decide) (by decide) (by decide)
    refine ⟨z / 131101 % count, .lst [.int a, .int b, .int (c + 1)], ?_, ⟨a, b, c + 1, hM2, b0, b1, by omega, by omega⟩, Int.emod_nonneg _ (by omega), Int.emod_lt_of_pos _ h0⟩
    simp only [ev_sSeq, ev_sIf, ev_fB, ev_fbin, ev_fv0, ev_fvs, ev_fc, ev_bind_ok, ix0 _ _ _ _ hM, ix2 _ _ _ _ hM, ev_ofO_some, ev_gt, ev_asB, e1, ev_toO_ok, Bool.false_eq_true, if_false, ev_sNil, ev_seq_nx, ev_sAsg, ev_add]
    rw [ev_gIx_ref (n := n) (i := 2) (j := 2) (eqq rfl) (eqq rfl) hM rfl]
    simp only [ev_sSeq, ev_only_nx, ev_sNil, ev_seq_nx, List.set_cons_zero, List.set_cons_succ, ev_sSet, ev_fBlt, ev_faC, ev_faN, ev_fbin, ev_fv0, ev_fvs, ev_fc, ev_bind_ok, ix1 _ _ _ _ hM2, ix2 _ _ _ _ hM2, ev_ofO_some, ev_mul k1, ev_add, ev_pow w1, ev_int_int, ev_sure_ok, ev_pow p39, show (39 : Int).toNat = 39 from rfl, ev_mod m1, hx, ev_toO_ok, ev_mul k2, ev_pow w2, ev_pow p41, show (41 : Int).toNat = 41 from rfl, ev_mod m2, hz, ev_sRet, ev_div dz, ev_mod h0, ev_toR_rt]
end Pf

set_option Elab.async false
set_option linter.all false
set_option maxRecDepth 100000
set_option maxHeartbeats 4000000
namespace Pf
open PySem PySem.Spec PyProof.Rows L2 Fx
theorem r_least (a b : Nat) (h : b < 2 ^ 40) (h0 : 0 < b) (M : Mem) : g__law_least [.int a, .int b] M = .ok (.tup [.int (a / Nat.gcd a b : Nat), .int (b / Nat.gcd a b : Nat)]) M := by
  refine clo_ok (ds' := [.int a, .int b]) (d := .tup [.int (a / Nat.gcd a b : Nat), .int (b / Nat.gcd a b : Nat)]) (M' := []) rfl ?_ rfl
  rw [fnF_t _ 2 _ [_, _] _ rfl]
  have q := while_gcd (c := fB (fbin hGt (fv 3) (fc (.int 0)))) (fb := sPar 2 3 (faC (fv 3) (faC (fbin hMod (fBlt hInt (faC (fv 2) (faN))) (fv 3)) (faN)))) (M := []) (fun x y => [some (.int a), some (.int b), some (.int x), some (.int y)]) (fun a b => by simp) (fun a b hb => by
    simp [ev_mod (show (0 : Int) < b by omega)]) 40 a b 100 h (by decide)
  have gp : 0 < Nat.gcd a b := Nat.gcd_pos_of_pos_right _ h0
  have gl : Nat.gcd a b ≤ b := Nat.gcd_le_right _ h0
  have cd : ∀ x, CDivW x (Nat.gcd a b : Nat) := fun x => divW_of 40 (by omega) (by rw [Int.natAbs_natCast]; omega) (by decide)
  have two : 2 ≤ sizeLine := by decide
  unfold b__law_least
  simp only [startD, List.map_cons, List.map_nil, List.length_cons, List.length_nil, List.replicate, List.cons_append, List.nil_append, ev_sSeq, ev_sPar, ev_faC, ev_faN, ev_fv0, ev_fvs, ev_bind_ok, ev_toO_ok, List.set_cons_succ, List.set_cons_zero, ev_seq_nx, q, ev_sRet, ev_fTup, ev_fbin, ev_div (cd _), ev_ofO_some, List.length_cons, List.length_nil, if_pos two, ev_toR_rt]
  rw [Int.natCast_ediv, Int.natCast_ediv]
theorem Src3.set {n q m : Nat} {M : Mem} {d : D} (h : Src3 n q M) (hm : m ≠ n) : Src3 n q (M.set m d) := by
  obtain ⟨a, b, c, e, r⟩ := h
  exact ⟨a, b, c, by rw [List.getElem?_set_ne hm]; exact e, r⟩
theorem Src3.more {n q p : Nat} {M : Mem} (h : Src3 n q M) (hm : q ≤ p) : Src3 n p M := by
  obtain ⟨a, b, c, e, b0, b1, c0, c1⟩ := h
  exact ⟨a, b, c, e, b0, b1, c0, by omega⟩
theorem Src3.app {n q : Nat} {M X : Mem} (h : Src3 n q M) : Src3 n q (M ++ X) := by
  obtain ⟨a, b, c, e, r⟩ := h
  have hl : n < M.length := (List.getElem?_eq_some_iff.mp e).1
  exact ⟨a, b, c, by rw [List.getElem?_append_left hl]; exact e, r⟩
theorem ev_pop {n : Nat} {M : Mem} {xs : List D} {i : Nat} {x : D} (h : M[n]? = some (.lst xs)) (hi : xs[i]? = some x) (hz : i < 1000000) : hPop (.ref n) [.int i] M = .ok x (M.set n (.lst (xs.eraseIdx i))) := by
  have hl := (List.getElem?_eq_some_iff.mp hi).1
  have hs : seqIndex? (i : Int) xs.length = some i := (ixN_seq (by
    unfold L2.ixN
    rw [if_pos (by omega), if_pos (by omega)]
    rfl)).1
  unfold hPop
  dsimp only
  rw [h]
  dsimp only
  rw [if_pos (by omega), hs]
  dsimp only
  rw [hi]
theorem ev_ne_ref {n : Nat} {M : Mem} {ns : List Int} (h : M[n]? = some (.lst (ns.map D.int))) : hNe (.ref n) (.lst []) M = some (.bl (!ns.isEmpty)) := by
  have e : toPy M 40 (.ref n) = some (.list (ns.map PyData.int)) := by
    unfold toPy
    dsimp only
    rw [h]
    dsimp only
    rw [toPy_ints]
    rfl
  unfold hNe
  rw [e]
  show some (D.bl (!PyData.eqv (.list (ns.map PyData.int)) (.list []))) = _
  cases ns <;> simp [PyData.eqv, PyData.eqvAll]
noncomputable def Bmix : Fx.Env → Mem → O := sExpr (fMth isL hAppend (fv 3) (faC (fMth isL hPop (fv 2) (faC (fCall g__law_draw [] (faC (fv 0) (faC (fBlt hLen (faC (fv 2) (faN))) (faN)))) (faN))) (faN)))
noncomputable def Cmix : Fx.Env → Mem → R Bool := fB (fbin hNe (fv 2) (fLst false (faN)))
theorem mix_loop {n L F : Nat} (h1 : n ≠ L) (h2 : n ≠ F) (h3 : L ≠ F) (a1 : Option D) : ∀ (k : Nat) (left found : List Int) (M : Mem) (q fuel : Nat), left.length = k → k < fuel → k + found.length ≤ 1000 → q + k ≤ 1000 → Src3 n q M → M[L]? = some (.lst (left.map D.int)) → M[F]? = some (.lst (found.map D.int)) →
    ∃ M' p, whileF Cmix Bmix fuel [some (.ref n), a1, some (.ref L), some (.ref F)] M = .nx [some (.ref n), a1, some (.ref L), some (.ref F)] M' ∧ M'[F]? = some (.lst ((found ++ p).map D.int)) ∧ p ∈ mixAll k left ∧ Src3 n (q + k) M'
  | 0, left, found, M, q, fuel + 1, hk, hf, hb, hq, hS, hL, hF => by
    have : left = [] := List.length_eq_zero_iff.mp hk
    subst this
    have z0 : (0 : Nat) ≤ sizeLine := Nat.zero_le _
    have hc := ev_ne_ref hL
    refine ⟨M, [], ?_, by rw [List.append_nil]; exact hF, by unfold mixAll; simp, hS⟩
    rw [ev_while]
    unfold Cmix
    simp only [ev_fB, ev_fbin, ev_fvs, ev_fv0, ev_fLst, ev_faN, ev_bind_ok, List.length_nil, if_pos z0, ev_newF, hc, ev_ofO_some, List.isEmpty_nil, Bool.not_true, ev_asB, ev_toO_ok, Bool.false_eq_true, if_false]
  | k + 1, left, found, M, q, fuel + 1, hk, hf, hb, hq, hS, hL, hF => by
    have z0 : (0 : Nat) ≤ sizeLine := Nat.zero_le _
    have sz := sizeLine_ge
    have hc := ev_ne_ref hL
    have hne : left.isEmpty = false := by
      cases left with
      | nil => cases hk
      | cons => rfl
    have hlen : hLen [.ref L] M = .ok (.int (k + 1 : Nat)) M := by
      unfold hLen
      dsimp only
      rw [ev_asL_ref hL]
      dsimp only
      rw [List.length_map, hk]
    obtain ⟨r, d, ed, hS1, r0, r1⟩ := r_draw hS (by omega) (count := ((k + 1 : Nat) : Int)) (by omega) (by
      have : (2 : Nat) ^ 10 ≤ 2 ^ 9000 := Nat.pow_le_pow_right (by decide) (by decide)
      have h64 : (2 : Nat) ^ 10 = 1024 := by decide
      omega)
    obtain ⟨i, rfl⟩ : ∃ i : Nat, r = i := ⟨r.toNat, by omega⟩
    have hi : i < left.length := by omega
    have hL1 : (M.set n d)[L]? = some (.lst (left.map D.int)) := by rw [List.getElem?_set_ne h1]; exact hL
    have hx : (left.map D.int)[i]? = some (.int left[i]) := by rw [List.getElem?_map, List.getElem?_eq_getElem hi]; rfl
    have hpop := ev_pop hL1 hx (by omega)
    have hF2 : ((M.set n d).set L (.lst ((left.map D.int).eraseIdx i)))[F]? = some (.lst (found.map D.int)) := by
      rw [List.getElem?_set_ne h3, List.getElem?_set_ne h2]
      exact hF
    have hap := ev_append hF2 (by rw [List.length_map]; omega) (.int left[i])
    have hlL : L < (M.set n d).length := (List.getElem?_eq_some_iff.mp hL1).1
    have hlF : F < ((M.set n d).set L (.lst ((left.map D.int).eraseIdx i))).length := (List.getElem?_eq_some_iff.mp hF2).1
    have hem : (left.map D.int).eraseIdx i = (left.eraseIdx i).map D.int := by rw [List.eraseIdx_eq_take_drop_succ, List.eraseIdx_eq_take_drop_succ, List.map_append, List.map_take, List.map_drop]
    obtain ⟨M', p, e, hF', hp, hS'⟩ := mix_loop h1 h2 h3 a1 k (left.eraseIdx i) (found ++ [left[i]]) (((M.set n d).set L (.lst ((left.map D.int).eraseIdx i))).set F (.lst (found.map D.int ++ [.int left[i]]))) (q + 1) fuel
      (by rw [List.length_eraseIdx_of_lt hi, hk]; rfl) (by omega) (by rw [List.length_append, List.length_singleton]; omega) (by omega) ((hS1.set (Ne.symm h1)).set (Ne.symm h2))
      (by rw [List.getElem?_set_ne (Ne.symm h3), List.getElem?_set_self hlL, hem]) (by rw [List.getElem?_set_self hlF, List.map_append]; rfl)
    refine ⟨M', left[i] :: p, ?_, ?_, ?_, ?_⟩
    · rw [ev_while]
      unfold Cmix
      have hbody : Bmix [some (.ref n), a1, some (.ref L), some (.ref F)] M = .nx [some (.ref n), a1, some (.ref L), some (.ref F)] (((M.set n d).set L (.lst ((left.map D.int).eraseIdx i))).set F (.lst (found.map D.int ++ [.int left[i]]))) := by
        unfold Bmix
        rw [ev_sExpr, ev_fMthL (a := .ref F) (M1 := M) (eqq rfl) (isL_ref hF), ev_faC, ev_fMthL (a := .ref L) (M1 := M) (eqq rfl) (isL_ref hL)]
        simp only [ev_faC, ev_faN, ev_fCall, ev_fv0, ev_fvs, ev_fBlt, ev_bind_ok, hlen, ev_sure_ok, List.append_nil, ed, hpop, hap, ev_toO_ok]
      simp only [ev_fB, ev_fbin, ev_fvs, ev_fv0, ev_fLst, ev_faN, ev_bind_ok, List.length_nil, if_pos z0, ev_newF, hc, ev_ofO_some, hne, Bool.not_false, ev_asB, ev_toO_ok, if_true, hbody, ev_turn_nx]
      exact e
    · rw [hF', List.append_assoc]
      rfl
    · unfold mixAll
      refine List.mem_flatMap.mpr ⟨i, List.mem_range.mpr hi, List.mem_map.mpr ⟨p, hp, ?_⟩⟩
      rw [List.getD_eq_getElem?_getD, List.getElem?_eq_getElem hi]
      rfl
    · exact hS'.more (by omega)
theorem r_mixed {n q : Nat} {M : Mem} (hS : Src3 n q M) (hq : q ≤ 500) (l : List Int) (hl : l.length ≤ 50) : ∃ M' p j, g__law_mixed [.ref n, .lst (l.map D.int)] M = .ok (.ref j) M' ∧ M'[j]? = some (.lst (p.map D.int)) ∧ p ∈ mixAll l.length l ∧ Src3 n (q + l.length) M' := by
  have hn : n < M.length := by
    obtain ⟨a, b, c, e, _⟩ := hS
    exact (List.getElem?_eq_some_iff.mp e).1
  have z0 : (0 : Nat) ≤ sizeLine := Nat.zero_le _
  obtain ⟨M', p, e, hF, hp, hS'⟩ := mix_loop (n := n) (L := M.length) (F := M.length + 1) (by omega) (by omega) (by omega) (some (.lst (l.map D.int))) l.length l [] (M ++ [.lst (l.map D.int)] ++ [.lst []]) q 100 rfl (by omega) (by simp; omega) (by omega) hS.app.app
    (by rw [List.getElem?_append_left (by simp), List.getElem?_append_right (Nat.le_refl _)]; simp) (by rw [List.getElem?_append_right (by simp)]; simp)
  refine ⟨M', p, M.length + 1, ?_, by rw [hF]; rfl, hp, hS'⟩
  have hb : b__law_mixed = sSeq (sPar 2 3 (faC (fBlt hListM (faC (fv 1) (faN))) (faC (fLst true (faN)) (faN)))) (sSeq (whileF Cmix Bmix 100) (sRet (fv 3))) := rfl
  unfold g__law_mixed
  rw [fnF_t _ 2 _ [_, _] _ rfl, hb]
  have hlm : hListM [.lst (l.map D.int)] M = .ok (.ref M.length) (M ++ [.lst (l.map D.int)]) := rfl
  have hln : (M ++ [D.lst (l.map D.int)]).length = M.length + 1 := by simp
  simp only [startD, List.map_cons, List.map_nil, List.length_cons, List.length_nil, List.replicate, List.cons_append, List.nil_append, ev_sSeq, ev_sPar, ev_faC, ev_faN, ev_fBlt, ev_fv0, ev_fvs, ev_bind_ok, hlm, ev_sure_ok, ev_fLst, if_pos z0, ev_newT, hln, ev_toO_ok, List.set_cons_succ, List.set_cons_zero, ev_seq_nx, e, ev_sRet, ev_toR_rt]
def SeqOk (M : Mem) (d : D) (p : List Int) : Prop := d = .lst (p.map D.int) ∨ ∃ n, d = .ref n ∧ M[n]? = some (.lst (p.map D.int))
def seqs (n : Nat) : List (List Int) := idI n :: (idI n).reverse :: mixAll n (idI n)
theorem rg_id (n : Nat) : rgD 0 n = (idI n).map D.int := by
  unfold rgD idI
  rw [List.map_map]
  simp
theorem r_sequence {s q : Nat} {M : Mem} (hS : Src3 s q M) (hq : q ≤ 400) (n : Nat) (hn : 1 ≤ n ∧ n ≤ 3) : ∃ M' p d, g__law_sequence [.ref s, .int n] M = .ok d M' ∧ SeqOk M' d p ∧ p ∈ seqs n ∧ Src3 s (q + 10) M' := by
  have hrg : RgOk 0 (n : Int) := ⟨by decide, by decide, by omega, by omega, by omega⟩
  obtain ⟨r, d, ed, hS1, r0, r1⟩ := r_draw hS (by omega) (count := 4) (by decide) (by
    have : (2 : Nat) ^ 10 ≤ 2 ^ 9000 := Nat.pow_le_pow_right (by decide) (by decide)
    have h64 : (2 : Nat) ^ 10 = 1024 := by decide
    have h4 : (4 : Int).natAbs = 4 := rfl
    omega)
  have il : (idI n).length = n := by simp [idI]
  unfold g__law_sequence
  rw [fnF_t _ 2 _ [_, _] _ rfl]
  unfold b__law_sequence
  have hset : ∀ ρ' : Fx.Env, fLRg1 false (fv 1) [some (.ref s), some (.int n), none, none] M = .ok (.lst ((idI n).map D.int)) M := fun _ => by
    unfold fLRg1
    rw [ev_fvs, ev_fv0, ev_bind_ok]
    dsimp only
    rw [if_pos hrg, ev_newF, rg_id]
  have hset := hset []
  by_cases h0 : r = 0
  · subst h0
    refine ⟨M.set s d, idI n, .lst ((idI n).map D.int), ?_, .inl rfl, by unfold seqs; simp, hS1.more (by omega)⟩
    simp only [startD, List.map_cons, List.map_nil, List.length_cons, List.length_nil, List.replicate, List.cons_append, List.nil_append, ev_sSeq, ev_sSet, hset, ev_toO_ok, List.set_cons_succ, List.set_cons_zero, ev_seq_nx, ev_fCall, ev_faC, ev_faN, ev_fv0, ev_fvs, ev_fc, ev_bind_ok, List.append_nil, ed, ev_sIf, ev_fB, ev_fbin, ev_eqI, ev_ofO_some, beq_self_eq_true, ev_asB, if_true, ev_sRet, ev_seq_rt, ev_toR_rt]
  · have b0 : (r == 0) = false := by simpa using h0
    by_cases h1 : r = 1
    · subst h1
      have hp : fpS (fun1 hNeg (fc (.int 1))) [some (.ref s), some (.int n), some (.lst ((idI n).map D.int)), some (.int 1)] (M.set s d) = .ok (some (-1)) (M.set s d) := ev_fpS_int _ _ _ (eqq rfl)
      have t2 : ((some (-1 : Int) : Option Int) ≠ some 0) = True := by simp
      have hrev : pickD (idI n) none none (some (-1)) = (idI n).reverse := by
        obtain ⟨a, b⟩ := hn
        have : ∀ m, m < 4 → pickD (idI m) none none (some (-1)) = (idI m).reverse := by decide +kernel
        exact this n (by omega)
      refine ⟨M.set s d, (idI n).reverse, .lst ((idI n).reverse.map D.int), ?_, .inl rfl, by unfold seqs; simp, hS1.more (by omega)⟩
      simp only [startD, List.map_cons, List.map_nil, List.length_cons, List.length_nil, List.replicate, List.cons_append, List.nil_append, ev_sSeq, ev_sSet, hset, ev_toO_ok, List.set_cons_succ, List.set_cons_zero, ev_seq_nx, ev_fCall, ev_faC, ev_faN, ev_fv0, ev_fvs, ev_fc, ev_bind_ok, List.append_nil, ed, ev_sIf, ev_fB, ev_fbin, ev_eqI, ev_ofO_some, b0, ev_asB, Bool.false_eq_true, if_false, ev_sNil, ev_sRet, ev_fIfE, beq_self_eq_true, if_true, ev_fSlS, ev_fpN, hp, ev_asL_lst, t2, ev_newF, pick_map, hrev, ev_toR_rt]
    · have b1 : (r == 1) = false := by simpa using h1
      obtain ⟨M', p, j, em, hj, hp, hS'⟩ := r_mixed hS1 (by omega) (idI n) (by omega)
      rw [il] at hp hS'
      refine ⟨M', p, .ref j, ?_, .inr ⟨j, rfl, hj⟩, by unfold seqs; simp [hp], hS'.more (by omega)⟩
      simp only [startD, List.map_cons, List.map_nil, List.length_cons, List.length_nil, List.replicate, List.cons_append, List.nil_append, ev_sSeq, ev_sSet, hset, ev_toO_ok, List.set_cons_succ, List.set_cons_zero, ev_seq_nx, ev_fCall, ev_faC, ev_faN, ev_fv0, ev_fvs, ev_fc, ev_bind_ok, List.append_nil, ed, ev_sIf, ev_fB, ev_fbin, ev_eqI, ev_ofO_some, b0, b1, ev_asB, Bool.false_eq_true, if_false, ev_sNil, ev_sRet, ev_fIfE, em, ev_toR_rt]
theorem seqs_ok : ([1, 2, 3].all fun n => (seqs n).all fun p => (((wholes n).filter fun rows => goesI rows 0 p).length * 2 ^ n == 2 ^ (n * n)) && p.all fun k => decide (0 ≤ k) && decide (k ≤ 1000)) = true := by decide +kernel
end Pf

set_option Elab.async false
set_option linter.all false
set_option maxRecDepth 100000
set_option maxHeartbeats 4000000
namespace Pf
open PySem PySem.Spec PyProof.Rows L2 Fx
/-- rows that hold a test -/
def rowT (t : List Int → Bool) (f : D) : D → Option D
  | .lst ds => match asInts ds with
    | some r => if t r = true then some f else none
    | none => none
  | _ => none
def rowS (t : List Int → Bool) : D → Option D
  | .lst ds => match asInts ds with
    | some r => if t r = true then some (.lst ds) else none
    | none => none
  | _ => none
theorem rowS_map (t : List Int → Bool) : ∀ (L : List (List Int)), (L.map rowD).filterMap (rowS t) = (L.filter t).map rowD
  | [] => rfl
  | r :: L => by
    have e : rowS t (rowD r) = if t r = true then some (rowD r) else none := by
      unfold rowS rowD
      dsimp only
      rw [asInts_map]
    rw [List.map_cons, List.filterMap_cons, e]
    by_cases h : t r = true
    · rw [if_pos h, List.filter_cons_of_pos h, List.map_cons, ← rowS_map t L]
    · rw [if_neg h, List.filter_cons_of_neg h, ← rowS_map t L]
theorem rowT_map (t : List Int → Bool) : ∀ (L : List (List Int)), (L.map rowD).filterMap (rowT t (.int 1)) = ((L.filter t).map fun _ => (1 : Int)).map D.int
  | [] => rfl
  | r :: L => by
    have e : rowT t (.int 1) (rowD r) = if t r = true then some (.int 1) else none := by
      unfold rowT rowD
      dsimp only
      rw [asInts_map]
    rw [List.map_cons, List.filterMap_cons, e]
    by_cases h : t r = true
    · rw [if_pos h, List.filter_cons_of_pos h, List.map_cons, List.map_cons, ← rowT_map t L]
    · rw [if_neg h, List.filter_cons_of_neg h, ← rowT_map t L]
def badF (rows : List Int) : D → Option D
  | .int s => if (!wholeI rows s) = true then some (.int 1) else none
  | _ => none
def badsI (rows : List Int) (n : Nat) : List Int := ((List.range (2 ^ n)).filter fun (s : Nat) => !wholeI rows s).map fun _ => 1
theorem bads_map (rows : List Int) (m : Nat) : ∀ (l : List Nat), (l.map fun (k : Nat) => D.int (0 + (k : Int) * 1)).filterMap (badF rows) = ((l.filter fun (s : Nat) => !wholeI rows s).map fun _ => (1 : Int)).map D.int
  | [] => rfl
  | k :: l => by
    have e : badF rows (.int (0 + (k : Int) * 1)) = if (!wholeI rows k) = true then some (.int 1) else none := by
      unfold badF
      rw [Int.zero_add, Int.mul_one]
    rw [List.map_cons, List.filterMap_cons, e]
    by_cases h : (!wholeI rows k) = true
    · rw [if_pos h, List.filter_cons_of_pos (p := fun (s : Nat) => !wholeI rows s) h, List.map_cons, List.map_cons, ← bads_map rows m l]
    · rw [if_neg h, List.filter_cons_of_neg (p := fun (s : Nat) => !wholeI rows s) h, ← bads_map rows m l]
theorem bads_empty (rows : List Int) (n : Nat) : (badsI rows n).isEmpty = (List.range (2 ^ n)).all fun (s : Nat) => wholeI rows s := by
  unfold badsI
  rw [List.isEmpty_map]
  generalize List.range (2 ^ n) = l
  induction l with
  | nil => rfl
  | cons k l ih =>
    rw [List.all_cons, ← ih]
    cases h : wholeI rows k with
    | true => rw [List.filter_cons_of_neg (by simp [h])]; rfl
    | false => rw [List.filter_cons_of_pos (by simp [h])]; rfl
theorem ev_eq_nil (ns : List Int) (M : Mem) : hEq (.lst (ns.map D.int)) (.lst []) M = some (.bl ns.isEmpty) := by
  have e : toPy M 40 (.lst (ns.map D.int)) = some (.list (ns.map PyData.int)) := by
    unfold toPy
    dsimp only
    rw [toPy_ints]
    rfl
  unfold hEq
  rw [e]
  show some (D.bl (PyData.eqv (.list (ns.map PyData.int)) (.list []))) = _
  cases ns <;> simp [PyData.eqv, PyData.eqvAll]
theorem ev_repr_str {d : D} {p : PyData} {M : Mem} (h : toPy M 40 d = some p) (h1 : PyData.showable p = true) (h2 : p.shown.length ≤ sizeLine) : hRepr [d] M = .ok (.str p.shown) M := by
  unfold hRepr
  dsimp only
  rw [h]
  dsimp only
  rw [if_pos ⟨h1, h2⟩]
theorem ev_ne_same {x : Str} (h : PyData.strOk x = true) (M : Mem) : hNe (.str x) (.str x) M = some (.bl false) := by
  rw [ev_ne_str h h]
  simp [PyData.eqv]
theorem ev_eq_same {x : Str} (h : PyData.strOk x = true) (M : Mem) : hEq (.str x) (.str x) M = some (.bl true) := by
  unfold hEq toPy
  dsimp only
  rw [if_pos h]
  simp [PyData.eqv]
def aN (n : Nat) : Int := (rL n).getD n 0 * 2 ^ n
def xN (n : Nat) : Int := ((2 ^ (n * n) / gN_ n : Nat) : Int)
def yN (n : Nat) : Int := ((mapN n n / gN_ n : Nat) : Int)
def pTold (n : Nat) : PyData := .list [.int (mapN n n : Nat), .int (mapN n n : Nat), .int (aN n), .int (aN n)]
def pDue (n : Nat) : PyData := .list [.tuple [.int (xN n), .int (yN n)], .tuple [.int (xN n), .int (yN n)]]
def okP (p : PyData) : Bool := PyData.showable p && Nat.ble p.shown.length sizeLine && PyData.strOk p.shown
theorem okP_all : ([1, 2, 3].all fun n => okP (pTold n) && okP (pDue n)) = true := by decide +kernel
theorem okP_of {p : PyData} (h : okP p = true) : PyData.showable p = true ∧ p.shown.length ≤ sizeLine ∧ PyData.strOk p.shown = true := by
  unfold okP at h
  simp only [Bool.and_eq_true, Nat.ble_eq] at h
  exact ⟨h.1.1, h.1.2, h.2⟩
theorem nums49 : ([1, 2, 3].all fun n => Nat.beq ((wholes n).length * 2 ^ n) (mapN n n) && decide (((alwaysI n : Nat) : Int) * 2 ^ n = aN n)) = true := by decide +kernel
end Pf

set_option Elab.async false
set_option linter.all false
set_option maxRecDepth 100000
set_option maxHeartbeats 4000000
namespace Pf
open PySem PySem.Spec PyProof.Rows L2 Fx
theorem all3 {f : Nat → Bool} (h : ([1, 2, 3].all f) = true) {n : Nat} (h1 : 1 ≤ n) (h3 : n ≤ 3) : f n = true := by
  refine List.all_eq_true.mp h n ?_
  have : n = 1 ∨ n = 2 ∨ n = 3 := by omega
  simp [this]
theorem wholes_mem {n : Nat} {r : List Int} (h : r ∈ wholes n) : r ∈ listsI n n := (List.mem_filter.mp h).1
noncomputable def Calw : Fx.Env → Mem → O := sSet 4 (fbin hAdd (fv 4) (fBlt hInt (faC (fbin hEq (fComp false [10] (fiA (fun ds _ => hRange1 ds) (faC (fbin hShl (fc (.int 1)) (fv 1)) (faN))) (gN 10) (fNotB (fTru (fCall g__law_is_whole [] (faC (fv 6) (faC (fv 10) (faN)))))) (fc (.int 1))) (fLst false (faN))) (faN))))
theorem calw {n : Nat} (hn : n ≤ 3) {r : List Int} (hr : r.length < 1000) (c : Int) (a0 a2 a3 a5 a7 a8 a9 a10 : Option D) (M : Mem) :
    Calw [a0, some (.int n), a2, a3, some (.int c), a5, some (rowD r), a7, a8, a9, a10] M = .nx [a0, some (.int n), a2, a3, some (.int (c + if ((List.range (2 ^ n)).all fun (s : Nat) => wholeI r s) = true then 1 else 0)), a5, some (rowD r), a7, a8, a9, a10] M := by
  have sz := sizeLine_ge
  have h8 : 2 ^ n ≤ 8 := Nat.pow_le_pow_right (by decide) hn
  have hs : CShl 1 (n : Int) := shl_of 1 50 (by decide) (by omega) (by omega) (by decide)
  have e1 : (1 : Int) * 2 ^ (n : Int).toNat = ((2 ^ n : Nat) : Int) := by rw [Int.toNat_natCast, Int.one_mul, pow_cast]
  have hb := bads_empty r n
  have hm := bads_map r 0 (List.range (2 ^ n))
  unfold badsI at hb
  generalize hN : 2 ^ n = N at h8 e1 hb hm ⊢
  have hl : (rangeD 0 1 N).length < sizeLine := by rw [rangeD_len]; omega
  have z0 : (0 : Nat) ≤ sizeLine := Nat.zero_le _
  have hco : compI (compT (gN 10) (fNotB (fTru (fCall g__law_is_whole [] (faC (fv 6) (faC (fv 10) (faN)))))) (fc (.int 1)) [a0, some (.int n), a2, a3, some (.int c), a5, some (rowD r), a7, a8, a9, none]) (rangeD 0 1 N) M = some ((((List.range N).filter fun (s : Nat) => !wholeI r s).map fun _ => (1 : Int)).map D.int, M) := by
    rw [compFilter (badF r) _ (fun d hd => ?_)]
    · unfold rangeD
      rw [hm]
    · unfold rangeD at hd
      obtain ⟨k, _, rfl⟩ := List.mem_map.mp hd
      have hw := fun M => r_whole r (0 + (k : Int) * 1) hr M
      rw [ev_compT, ev_gN]
      simp only [List.set_cons_succ, List.set_cons_zero, ev_fNotB, ev_fTru, ev_fCall, ev_faC, ev_faN, ev_fv0, ev_fvs, ev_bind_ok, List.append_nil, rowD, hw, ev_tru_bl, ev_ofO_some, ev_fc]
      unfold badF
      dsimp only
      split <;> rfl
  unfold Calw
  have g0 : (0 : Int) ≤ (N : Int) := by omega
  have g1 : (N : Int) < 2 ^ 62 := by omega
  simp only [ev_sSet, ev_fbin, ev_fv0, ev_fvs, ev_bind_ok, ev_fBlt, ev_faC, ev_faN, ev_fComp, ev_fiA, ev_fc, ev_shl hs, ev_ofO_some, e1]
  rw [ev_range1 g0 g1, ev_ofO_some, ev_bind_ok]
  dsimp only
  rw [Int.toNat_natCast, if_pos hl]
  simp only [wipeD, List.set_cons_succ, List.set_cons_zero, hco, ev_endC, ev_newF, ev_bind_ok, ev_fLst, ev_faN, List.length_nil, if_pos z0, ev_eq_nil, hb, ev_ofO_some, ev_int_bl, ev_sure_ok, ev_add, ev_toO_ok]
theorem fold_always (n : Nat) : ∀ (L : List (List Int)) (c : Int), L.foldl (fun c r => c + if ((List.range (2 ^ n)).all fun (s : Nat) => wholeI r s) = true then 1 else 0) c = c + ((L.filter fun rows => (List.range (2 ^ n)).all fun (s : Nat) => wholeI rows s).length : Nat)
  | [], c => by simp
  | r :: L, c => by
    rw [List.foldl_cons, fold_always n L]
    by_cases h : ((List.range (2 ^ n)).all fun (s : Nat) => wholeI r s) = true
    · rw [if_pos h, List.filter_cons_of_pos (p := fun rows => (List.range (2 ^ n)).all fun (s : Nat) => wholeI rows s) h, List.length_cons]
      omega
    · rw [if_neg h, List.filter_cons_of_neg (p := fun rows => (List.range (2 ^ n)).all fun (s : Nat) => wholeI rows s) h]
      omega
theorem always_loop {n : Nat} (hn : n ≤ 3) (L : List (List Int)) (hrow : ∀ r ∈ L, r.length < 1000) (a0 a3 a5 a6 a7 a8 a9 a10 : Option D) (M : Mem) : ∃ q6, sFor (fiL (fv 2)) (bodyF (gw (gN 6)) Calw) [a0, some (.int n), some (.lst (L.map rowD)), a3, some (.int 0), a5, a6, a7, a8, a9, a10] M =
    .nx [a0, some (.int n), some (.lst (L.map rowD)), a3, some (.int ((L.filter fun rows => (List.range (2 ^ n)).all fun (s : Nat) => wholeI rows s).length : Nat)), a5, q6, a7, a8, a9, a10] M := by
  obtain ⟨ρ', M', e, q6, hρ, hM⟩ := for_lst (f := fv 2) (body := bodyF (gw (gN 6)) Calw) (ρ := [a0, some (.int n), some (.lst (L.map rowD)), a3, some (.int 0), a5, a6, a7, a8, a9, a10]) (M := M) (d := .lst (L.map rowD)) (xs := L.map rowD) (eqq rfl) (.inl rfl)
    (fun i ρ M' => ∃ q6, ρ = [a0, some (.int n), some (.lst (L.map rowD)), a3, some (.int ((L.take i).foldl (fun c r => c + if ((List.range (2 ^ n)).all fun (s : Nat) => wholeI r s) = true then 1 else 0) 0)), a5, q6, a7, a8, a9, a10] ∧ M' = M) ⟨_, rfl, rfl⟩ (fun _ _ _ _ => .inl rfl) (by
      rintro i x ρ M' hx ⟨q6, rfl, rfl⟩
      rw [List.getElem?_map] at hx
      cases hq : L[i]? with
      | none => rw [hq] at hx; cases hx
      | some r =>
        rw [hq] at hx
        cases hx
        have ht : L.take (i + 1) = L.take i ++ [r] := by
          rw [List.take_succ, hq]
          rfl
        refine ⟨_, _, ?_, some (rowD r), rfl, rfl⟩
        rw [ev_bodyF, ev_gw_some _ _ (ev_gN 6), ev_only_nx, ht, List.foldl_append, List.foldl_cons, List.foldl_nil]
        simp only [List.set_cons_succ, List.set_cons_zero]
        exact calw hn (hrow r (List.mem_of_getElem? hq)) _ _ _ _ _ _ _ _ _ _)
  rw [List.length_map, List.take_length, fold_always, Int.zero_add] at hρ
  rw [hρ, hM] at e
  exact ⟨q6, e⟩
theorem ev_fCallK (g : List D → Mem → R D) (gD : List D → List D → List D) (fa fk : Fx.Env → Mem → R (List D)) (ρ : Fx.Env) (M : Mem) : fCallK g gD fa fk ρ M = (fa ρ M).bind fun ds M1 => (fk ρ M1).bind fun es M2 => g (gD ds es) M2 := eqq rfl
theorem kp01 (x : D) : kp 0 1 [(true, 0)] [] [x] = [x] := eqq rfl
theorem rep2_ (x : D) : (List.replicate (2 : Int).toNat [x]).flatten = [x, x] := eqq rfl
theorem ev_gT3 (i j k : Nat) (a b c : D) (ρ : Fx.Env) : gT3 i j k (.tup [a, b, c]) ρ = some (((ρ.set i (some a)).set j (some b)).set k (some c)) := eqq rfl
theorem len_map (L : List (List Int)) : (L.map rowD).length = L.length := List.length_map _
theorem r_right {s q : Nat} {M : Mem} (hS : Src3 s q M) (hq : q ≤ 300) {n : Nat} (h1 : 1 ≤ n) (h3 : n ≤ 3) : ∃ M', g__law_right [.ref s, .int n] M = .ok (.bl true) M' ∧ Src3 s (q + 10) M' := by
  have sz := sizeLine_ge
  have h8 : 2 ^ n ≤ 8 := Nat.pow_le_pow_right (by decide) h3
  obtain ⟨M', p, d, eseq, hseq, hp, hS'⟩ := r_sequence hS (by omega) n ⟨h1, h3⟩
  refine ⟨M', ?_, hS'⟩
  -- the numbers
  have hnum := all3 nums49 h1 h3
  simp only [Bool.and_eq_true, Nat.beq_eq, decide_eq_true_eq] at hnum
  obtain ⟨nev, nal⟩ := hnum
  have hsq := List.all_eq_true.mp (all3 seqs_ok h1 h3) p hp
  simp only [Bool.and_eq_true, beq_iff_eq, List.all_eq_true, decide_eq_true_eq] at hsq
  obtain ⟨ngo, hpk⟩ := hsq
  have hok := all3 okP_all h1 h3
  rw [Bool.and_eq_true] at hok
  obtain ⟨t1, t2, t3⟩ := okP_of hok.1
  obtain ⟨u1, u2, u3⟩ := okP_of hok.2
  -- the lists
  have hrow : ∀ r ∈ listsI n n, r.length < 1000 := fun r hr => by rw [lists_row n n r hr]; omega
  have hwrow : ∀ r ∈ wholes n, r.length < 1000 := fun r hr => hrow r (wholes_mem hr)
  have hll : (listsI n n).length ≤ 1000 := by
    rw [lists_len]
    have a1 : (2 ^ n) ^ n ≤ 8 ^ n := Nat.pow_le_pow_left h8 n
    have a2 : 8 ^ n ≤ 8 ^ 3 := Nat.pow_le_pow_right (by decide) (by omega)
    have a3 : 8 ^ 3 = 512 := by decide
    omega
  have hwl : (wholes n).length ≤ 1000 := Nat.le_trans (List.length_filter_le _ _) hll
  have hsh : ∀ x : Nat, x ≤ 1000 → CShl (x : Int) (n : Int) := fun x hx => shl_of 10 50 (by omega) (by omega) (by omega) (by decide)
  have hs1 : CShl 1 (n : Int) := shl_of 1 50 (by decide) (by omega) (by omega) (by decide)
  have zero : (0 : Nat) ≤ sizeLine := Nat.zero_le _
  have one : 1 ≤ sizeLine := by decide
  have two : 2 ≤ sizeLine := by decide
  have three : 3 ≤ sizeLine := by decide
  have four : 4 ≤ sizeLine := by decide
  -- 1. the whole ones
  have c1 : ∀ M, fComp false [6] (fiL (fCall g__law_lists [] (faC (fv 1) (faN)))) (gN 6) (fTru (fCall g__law_is_whole [] (faC (fv 6) (faC (fbin hSub (fbin hShl (fc (.int 1)) (fv 1)) (fc (.int 1))) (faN))))) (fv 6) [some (.ref s), some (.int n), none, none, none, none, none, none, none, none, none] M = .ok (.lst ((wholes n).map rowD)) M := fun M => by
    rw [compListF (d := .lst ((listsI n n).map rowD)) (xs := (listsI n n).map rowD) (rowS fun rows => wholeI rows (2 ^ n - 1)) (by
      simp only [ev_fCall, ev_faC, ev_faN, ev_fv0, ev_fvs, ev_bind_ok, List.append_nil, r_lists n h1 h3]) (.inl rfl) (by rw [List.length_map]; omega) ?_, rowS_map]
    · rfl
    · intro x hx
      obtain ⟨r, hr, rfl⟩ := List.mem_map.mp hx
      have e1 : (1 : Int) * 2 ^ (n : Int).toNat - 1 = 2 ^ n - 1 := by rw [Int.toNat_natCast, Int.one_mul]
      have hw := fun M => r_whole r (2 ^ n - 1) (hrow r hr) M
      rw [ev_compT, ev_gN]
      simp only [wipeD, List.set_cons_succ, List.set_cons_zero, ev_fTru, ev_fCall, ev_faC, ev_faN, ev_fv0, ev_fvs, ev_fbin, ev_fc, ev_bind_ok, ev_shl hs1, ev_ofO_some, ev_sub, e1, List.append_nil, rowD, hw, ev_tru_bl]
      unfold rowS
      dsimp only
      rw [asInts_map]
      dsimp only
      split <;> rfl
  -- 2. the sums
  obtain ⟨q6, c3⟩ := always_loop h3 (wholes n) hwrow (some (.ref s)) (some (.int (mapN n n : Nat))) (some d) none none none none none M'
  -- 3. those that go
  have c4 : fComp false [6] (fiL (fv 2)) (gN 6) (fTru (fCall g__law_goes [] (faC (fv 6) (faC (fv 5) (faN))))) (fc (.int 1)) [some (.ref s), some (.int n), some (.lst ((wholes n).map rowD)), some (.int (mapN n n : Nat)), some (.int (alwaysI n : Nat)), some d, q6, none, none, none, none] M' =
      .ok (.lst ((((wholes n).filter fun rows => goesI rows 0 p).map fun _ => (1 : Int)).map D.int)) M' := by
    rw [compListF (d := .lst ((wholes n).map rowD)) (xs := (wholes n).map rowD) (rowT (fun rows => goesI rows 0 p) (.int 1)) (eqq rfl) (.inl rfl) (by rw [List.length_map]; omega) ?_, rowT_map]
    · rfl
    · intro x hx
      obtain ⟨r, hr, rfl⟩ := List.mem_map.mp hx
      have hg := r_goes (M := M') (d := d) (p := p) (hwrow r hr) hpk hseq
      rw [ev_compT, ev_gN]
      simp only [wipeD, List.set_cons_succ, List.set_cons_zero, ev_fTru, ev_fCall, ev_faC, ev_faN, ev_fv0, ev_fvs, ev_bind_ok, List.append_nil, rowD, hg, ev_tru_bl, ev_ofO_some, ev_fc]
      unfold rowT
      dsimp only
      rw [asInts_map]
      dsimp only
      split <;> rfl
  have hgl : ((wholes n).filter fun rows => goesI rows 0 p).length ≤ 1000 := Nat.le_trans (List.length_filter_le _ _) hwl
  have hal : alwaysI n ≤ 1000 := Nat.le_trans (List.length_filter_le _ _) hwl
  have hmp := fun M => r_mapping_count n h1 (by omega) M
  have hac := fun M => r_always n h1 (show n ≤ 50 by omega) M
  have hsc := fun M => r_share n h1 (show n ≤ 50 by omega) M
  have ev1 : ((wholes n).length : Int) * 2 ^ (n : Int).toNat = ((mapN n n : Nat) : Int) := by rw [Int.toNat_natCast, pow_cast, ← Int.natCast_mul, nev]
  have ev2 : ((alwaysI n : Nat) : Int) * 2 ^ (n : Int).toNat = (rL n).getD n 0 * 2 ^ n := by rw [Int.toNat_natCast, nal]; rfl
  have ev3 : ((((wholes n).filter fun rows => goesI rows 0 p).length : Nat) : Int) * 2 ^ (n : Int).toNat = ((2 ^ (n * n) : Nat) : Int) := by rw [Int.toNat_natCast, pow_cast, ← Int.natCast_mul, ngo]
  have hmlt : mapN n n < 2 ^ 40 := by
    have a1 := mapN_le n n
    have a2 : n * (n + 1) ≤ 3 * 4 := Nat.mul_le_mul h3 (by omega)
    exact Nat.lt_of_le_of_lt a1 (Nat.pow_lt_pow_right (by decide) (by omega))
  have hm0 : 0 < mapN n n := by
    have := all3 (f := fun n => Nat.blt 0 (mapN n n)) (by decide +kernel) h1 h3
    rwa [Nat.blt_eq] at this
  have hle := fun M => r_least (2 ^ (n * n)) (mapN n n) hmlt hm0 M
  rw [Nat.gcd_comm, show Nat.gcd (mapN n n) (2 ^ (n * n)) = gN_ n from rfl] at hle
  have hb : b__law_right = sSeq (sSet 2 (fComp false [6] (fiL (fCall g__law_lists [] (faC (fv 1) (faN)))) (gN 6) (fTru (fCall g__law_is_whole [] (faC (fv 6) (faC (fbin hSub (fbin hShl (fc (.int 1)) (fv 1)) (fc (.int 1))) (faN))))) (fv 6))) (sSeq (sAsg (fTup (faC (fbin hShl (fBlt hLen (faC (fv 2) (faN))) (fv 1)) (faC (fc (.int 0)) (faC (fCall g__law_sequence [] (faC (fv 0) (faC (fv 1) (faN)))) (faN))))) (gw (gT3 3 4 5))) (sSeq (sFor (fiL (fv 2)) (bodyF (gw (gN 6)) Calw)) (sSeq (sSet 7 (fbin hShl (fBlt hLen (faC (fComp false [6] (fiL (fv 2)) (gN 6) (fTru (fCall g__law_goes [] (faC (fv 6) (faC (fv 5) (faN))))) (fc (.int 1))) (faN))) (fv 1))) (sSeq (sSet 8 (fLst false (faC (fCall g_mapping_count [] (faC (fv 1) (faN))) (faC (fCallK g_mapping_count (kp 0 1 [(true, 0)]) (faN) (faC (fv 1) (faN))) (faC (fCall g_always_count [] (faC (fv 1) (faN))) (faC (fCallK g_always_count (kp 0 1 [(true, 0)]) (faN) (faC (fv 1) (faN))) (faN))))))) (sSeq (sIf (fB (fbin hNe (fBlt hRepr (faC (fv 8) (faN))) (fBlt hRepr (faC (fbin hAdd (fbin hMul (fLst false (faC (fv 3) (faN))) (fc (.int 2))) (fbin hMul (fLst false (faC (fbin hShl (fv 4) (fv 1)) (faN))) (fc (.int 2)))) (faN))))) (sRet (fc (.bl false))) (sNil)) (sSeq (sSet 9 (fCall g__law_least [] (faC (fv 7) (faC (fv 3) (faN))))) (sRet (fbin hEq (fBlt hRepr (faC (fLst false (faC (fCall g_share_of [] (faC (fv 1) (faN))) (faC (fCallK g_share_of (kp 0 1 [(true, 0)]) (faN) (faC (fv 1) (faN))) (faN)))) (faN))) (fBlt hRepr (faC (fLst false (faC (fv 9) (faC (fv 9) (faN)))) (faN))))))))))) := rfl
  have py1 : ∀ M, toPy M 40 (.lst [.int (mapN n n : Nat), .int (mapN n n : Nat), .int ((rL n).getD n 0 * 2 ^ n), .int ((rL n).getD n 0 * 2 ^ n)]) = some (pTold n) := fun M => rfl
  have py2 : ∀ M, toPy M 40 (.lst [.tup [.int (2 ^ (n * n) / gN_ n : Nat), .int (mapN n n / gN_ n : Nat)], .tup [.int (2 ^ (n * n) / gN_ n : Nat), .int (mapN n n / gN_ n : Nat)]]) = some (pDue n) := fun M => rfl
  have rp1 := fun M => ev_repr_str (py1 M) t1 t2
  have rp2 := fun M => ev_repr_str (py2 M) u1 u2
  have gL : (1 : Nat) + 1 ≤ sizeLine := by decide
  have dup : ∀ x y : D, ([x, x] : List D).length + ([y, y] : List D).length ≤ sizeLine := fun x y => four
  have wl : ((wholes n).map rowD).length = (wholes n).length := List.length_map _
  have gl2 : (((((wholes n).filter fun rows => goesI rows 0 p).map fun _ => (1 : Int)).map D.int)).length = ((wholes n).filter fun rows => goesI rows 0 p).length := by rw [List.length_map, List.length_map]
  unfold g__law_right
  rw [fnF_t _ 2 _ [_, _] _ rfl, hb]
  simp only [startD, List.map_cons, List.map_nil, List.length_cons, List.length_nil, List.replicate, List.cons_append, List.nil_append]
  rw [ev_sSeq, ev_sSet, c1, ev_toO_ok]
  simp only [List.set_cons_succ, List.set_cons_zero, ev_seq_nx]
  rw [ev_sSeq, ev_sAsg]
  simp only [ev_fTup, ev_faC, ev_faN, ev_fbin, ev_fBlt, ev_fv0, ev_fvs, ev_fc, ev_fCall, ev_bind_ok, ev_len_lst, wl, ev_sure_ok, ev_shl (hsh _ hwl), ev1, ev_ofO_some, List.append_nil, eseq, List.length_cons, List.length_nil, if_pos three, ev_toO_ok]
  rw [ev_gw_some _ _ (ev_gT3 3 4 5 _ _ _ _), ev_only_nx, ev_sNil]
  simp only [List.set_cons_succ, List.set_cons_zero, ev_seq_nx]
  rw [ev_sSeq, c3, ev_seq_nx, show ((wholes n).filter fun rows => (List.range (2 ^ n)).all fun (s : Nat) => wholeI rows s).length = alwaysI n from rfl]
  rw [ev_sSeq, ev_sSet]
  simp only [ev_fbin, ev_fBlt, ev_faC, ev_faN, c4, ev_bind_ok, ev_len_lst, gl2, ev_sure_ok, ev_fv0, ev_fvs, ev_shl (hsh _ hgl), ev3, ev_ofO_some, ev_toO_ok, List.set_cons_succ, List.set_cons_zero, ev_seq_nx]
  have gq : ∀ x : D, ([x, x, x, x] : List D).length ≤ sizeLine := fun x => four
  rw [ev_sSeq, ev_sSet]
  simp only [ev_fLst, ev_faC, ev_faN, ev_fCall, ev_fCallK, kp01, ev_fv0, ev_fvs, ev_bind_ok, List.append_nil, hmp, hac, List.length_cons, List.length_nil, if_pos four, ev_newF, ev_toO_ok, List.set_cons_succ, List.set_cons_zero, ev_seq_nx]
  rw [ev_sSeq, ev_sIf]
  simp only [ev_fB, ev_fbin, ev_fBlt, ev_faC, ev_faN, ev_fv0, ev_fvs, ev_fc, ev_bind_ok, rp1, ev_sure_ok, ev_fLst, List.length_cons, List.length_nil, if_pos one, ev_newF, ev_mul_rep (xs := [_]) 2 (by decide) (by decide) (show ([_] : List D).length * (2 : Int).toNat ≤ sizeLine from two), rep2_, ev_shl (hsh _ hal), ev2, ev_ofO_some, ev_addL (dup _ _), List.cons_append, List.nil_append, ev_ne_same t3, ev_asB, ev_toO_ok, Bool.false_eq_true, if_false, ev_sNil, ev_seq_nx]
  rw [ev_sSeq, ev_sSet]
  simp only [ev_fCall, ev_faC, ev_faN, ev_fv0, ev_fvs, ev_bind_ok, List.append_nil, hle, ev_toO_ok, List.set_cons_succ, List.set_cons_zero, ev_seq_nx, ev_sRet, ev_fbin, ev_fBlt, ev_fLst, ev_fCallK, kp01, hsc, List.length_cons, List.length_nil, if_pos two, ev_newF, rp2, ev_sure_ok, ev_eq_same u3, ev_ofO_some, ev_toR_rt]
end Pf

set_option Elab.async false
set_option linter.all false
set_option maxRecDepth 100000
set_option maxHeartbeats 4000000
namespace Pf
open PySem PySem.Spec PyProof.Rows L2 Fx
noncomputable def Bin : Fx.Env → Mem → O := sIf (fNotB (fTru (fCall g__law_right [] (faC (fv 3) (faC (fv 4) (faN)))))) (sRet (fc (.bl false))) (sNil)
noncomputable def Bout : Fx.Env → Mem → O := sSeq (sSet 3 (fCall g__law_source [] (faC (fv 2) (faC (fv 1) (faN))))) (sFor (fiL (fIfE (fAndB (fB (fbin hEq (fv 1) (fc (.int 0)))) (fB (fbin hNe (fv 0) (fLst false (faN))))) (fLst false (faC (fc (.int 1)) (faC (fc (.int 2)) (faC (fc (.int 3)) (faN))))) (fLst false (faC (fbin hAdd (fc (.int 1)) (fCall g__law_draw [] (faC (fv 3) (faC (fc (.int 2)) (faN))))) (faN))))) (bodyF (gw (gN 4)) Bin))
theorem turn_in {s q n : Nat} {M : Mem} (hS : Src3 s q M) (hq : q ≤ 300) (h1 : 1 ≤ n) (h3 : n ≤ 3) {a0 a1 a2 a4 : Option D} : ∃ M', bodyF (gw (gN 4)) Bin (.int n) [a0, a1, a2, some (.ref s), a4] M = .nx [a0, a1, a2, some (.ref s), some (.int n)] M' ∧ Src3 s (q + 10) M' := by
  obtain ⟨M', e, hS'⟩ := r_right hS hq h1 h3
  refine ⟨M', ?_, hS'⟩
  rw [ev_bodyF, ev_gw_some _ _ (ev_gN 4), ev_only_nx, Bin]
  simp only [List.set_cons_succ, List.set_cons_zero, ev_sIf, ev_fNotB, ev_fTru, ev_fCall, ev_faC, ev_faN, ev_fv0, ev_fvs, ev_bind_ok, List.append_nil, e, ev_tru_bl, ev_ofO_some, Bool.not_true, ev_toO_ok, Bool.false_eq_true, if_false, ev_sNil]
theorem turn_out {sc : D} {ns : List Int} (hsc : sc = .lst (ns.map D.int) ∨ sc = .klst (ns.map D.int)) {k : Nat} {c : Int} (hk : k ≤ 100) {o1 o2 o3 o4 : Option D} {M : Mem} :
    ∃ p1 p2 p3 p4 M', bodyF (gw (gT2 1 2)) Bout (.tup [.int (k : Nat), .int c]) [some sc, o1, o2, o3, o4] M = .nx [some sc, p1, p2, p3, p4] M' := by
  obtain ⟨a, b, b0, b1, es⟩ := r_source c k hk M
  have hS : Src3 M.length 0 (M ++ [.lst [.int a, .int b, .int 0]]) := ⟨a, b, 0, by simp, b0, b1, by omega, by omega⟩
  have one : 1 ≤ sizeLine := by decide
  have three : 3 ≤ sizeLine := by decide
  have z0 : (0 : Nat) ≤ sizeLine := Nat.zero_le _
  have hne := fun M => ev_ne_nil (M := M) hsc
  obtain ⟨L, M2, hL, hS2, hmem, hlen⟩ : ∃ (L : List Nat) (M2 : Mem), (fIfE (fAndB (fB (fbin hEq (fv 1) (fc (.int 0)))) (fB (fbin hNe (fv 0) (fLst false (faN))))) (fLst false (faC (fc (.int 1)) (faC (fc (.int 2)) (faC (fc (.int 3)) (faN))))) (fLst false (faC (fbin hAdd (fc (.int 1)) (fCall g__law_draw [] (faC (fv 3) (faC (fc (.int 2)) (faN))))) (faN))))
      [some sc, some (.int k), some (.int c), some (.ref M.length), o4] (M ++ [.lst [.int a, .int b, .int 0]]) = .ok (.lst (L.map fun (n : Nat) => D.int n)) M2 ∧ Src3 M.length 1 M2 ∧ (∀ n ∈ L, 1 ≤ n ∧ n ≤ 3) ∧ L.length ≤ 3 := by
    by_cases hb : k = 0 ∧ ns.isEmpty = false
    · obtain ⟨rfl, hb⟩ := hb
      refine ⟨[1, 2, 3], _, ?_, hS.more (by omega), by intro n hn; simp at hn; omega, by decide⟩
      simp only [ev_fIfE, ev_fAndB, ev_fB, ev_fbin, ev_fv0, ev_fvs, ev_fc, ev_bind_ok, ev_eqI, Int.natCast_zero, beq_self_eq_true, ev_ofO_some, ev_asB, if_true, ev_fLst, ev_faN, List.length_nil, if_pos z0, ev_newF, hne, hb, Bool.not_false, ev_faC, List.length_cons, if_pos three]
      rfl
    · obtain ⟨r, d, ed, hS2, r0, r1⟩ := r_draw hS (by decide) (count := 2) (by decide) (by
        have : (2 : Nat) ^ 6 ≤ 2 ^ 9000 := Nat.pow_le_pow_right (by decide) (by decide)
        have h64 : (2 : Nat) ^ 6 = 64 := by decide
        have h2 : (2 : Int).natAbs = 2 := rfl
        omega)
      obtain ⟨r', rfl⟩ : ∃ r' : Nat, r = r' := ⟨r.toNat, by omega⟩
      refine ⟨[1 + r'], _, ?_, hS2, by intro n hn; simp at hn; omega, by simp⟩
      have hcond : (fAndB (fB (fbin hEq (fv 1) (fc (.int 0)))) (fB (fbin hNe (fv 0) (fLst false (faN))))) [some sc, some (.int k), some (.int c), some (.ref M.length), o4] (M ++ [.lst [.int a, .int b, .int 0]]) = .ok false (M ++ [.lst [.int a, .int b, .int 0]]) := by
        simp only [ev_fAndB, ev_fB, ev_fbin, ev_fv0, ev_fvs, ev_fc, ev_bind_ok, ev_eqI, ev_ofO_some, ev_asB, ev_fLst, ev_faN, List.length_nil, if_pos z0, ev_newF, hne]
        by_cases hk0 : k = 0
        · subst hk0
          have h2 : ns.isEmpty = true := by
            cases h3 : ns.isEmpty with
            | true => rfl
            | false => exact absurd ⟨rfl, h3⟩ hb
          simp [h2]
        · have : ((k : Int) == 0) = false := by
            rw [beq_eq_false_iff_ne]
            omega
          simp [this]
      rw [ev_fIfE, hcond]
      simp only [ev_bind_ok, Bool.false_eq_true, if_false, ev_fLst, ev_faC, ev_faN, ev_fbin, ev_fc, ev_fCall, ev_fv0, ev_fvs, List.append_nil, ed, ev_add, ev_ofO_some, List.length_cons, List.length_nil, if_pos one, ev_newF]
      rfl
  obtain ⟨ρ', M', hf, q4, hρ, hS'⟩ := for_inv (body := bodyF (gw (gN 4)) Bin) (ds := L.map fun (n : Nat) => D.int n) (ρ := [some sc, some (.int k), some (.int c), some (.ref M.length), o4]) (M := M2)
    (fun i ρ' M' => ∃ p4, ρ' = [some sc, some (.int k), some (.int c), some (.ref M.length), p4] ∧ Src3 M.length (1 + 10 * i) M') ⟨_, rfl, hS2⟩ (by
      rintro i d ρ' M' hd ⟨p4, rfl, hS'⟩
      rw [List.getElem?_map] at hd
      cases hq : L[i]? with
      | none => rw [hq] at hd; cases hd
      | some n =>
        rw [hq] at hd
        cases hd
        have hi := (List.getElem?_eq_some_iff.mp hq).1
        obtain ⟨n1, n2⟩ := hmem n (List.mem_of_getElem? hq)
        obtain ⟨M'', e, hS''⟩ := turn_in hS' (by omega) n1 n2 (a0 := some sc) (a1 := some (.int k)) (a2 := some (.int c)) (a4 := p4)
        exact ⟨_, _, e, _, rfl, hS''.more (by omega)⟩)
  rw [hρ] at hf
  refine ⟨some (.int k), some (.int c), some (.ref M.length), q4, M', ?_⟩
  rw [ev_bodyF, ev_gw_some _ _ (ev_gT2 1 2), ev_only_nx, Bout]
  simp only [List.set_cons_succ, List.set_cons_zero, ev_sSeq, ev_sSet, ev_fCall, ev_faC, ev_faN, ev_fv0, ev_fvs, ev_bind_ok, List.append_nil, es, ev_toO_ok, ev_seq_nx]
  rw [ev_sFor, ev_fiL, hL]
  rw [ev_bind_ok]
  show (R.ofO (some (Src.items (L.map fun (n : Nat) => D.int n))) M2).toO _ _ = _
  rw [ev_ofO_some, ev_toO_ok]
  dsimp only
  rw [hf]
theorem ev_fiT (f : Fx.Env → Mem → R D) (ρ : Fx.Env) (M : Mem) : fiT f ρ M = (f ρ M).bind fun d M1 => match d with
  | .tup ds => .ok (.items ds) M1
  | _ => .err := eqq rfl
theorem b_law_eq : b_law = sSeq (sFor (fiA hEnum (faC (fSl false (fbin hAdd (fv 0) (fLst false (faC (fc (.int 0)) (faN)))) (fpN) (fpS (fBlt hMax2 (faC (fc (.int 1)) (faC (fBlt hMin2 (faC (fBlt hLen (faC (fv 0) (faN))) (faC (fc (.int 3)) (faN)))) (faN)))))) (faN))) (bodyF (gw (gT2 1 2)) Bout)) (sRet (fAndV (fbin hEq (fComp false [4] (fiT (fTup (faC (fc (.int 4)) (faC (fc (.int 5)) (faN))))) (gN 4) (fYes) (fCall g_always_count [] (faC (fv 4) (faN)))) (fLst false (faC (fc (.int 8688)) (faC (fc (.int 936992)) (faN))))) (fbin hEq (fCall g_share_of [] (faC (fc (.int 3)) (faN))) (fTup (faC (fc (.int 8)) (faC (fc (.int 21)) (faN))))))) := rfl
theorem law_true (ns : List Int) (sc : D) (h : ns.length ≤ 63) (hs : sc = .lst (ns.map D.int) ∨ sc = .klst (ns.map D.int)) : ∃ M, g_law [sc] [] = .ok (.bl true) M := by
  obtain ⟨sc', hfz, hs'⟩ : ∃ sc', [sc].mapM (fz 0 [] 64) = some [sc'] ∧ (sc' = .lst (ns.map D.int) ∨ sc' = .klst (ns.map D.int)) := by
    rcases hs with rfl | rfl
    · refine ⟨.lst (ns.map D.int), ?_, .inl rfl⟩
      rw [List.mapM_cons, fz_ints]
      rfl
    · refine ⟨.klst (ns.map D.int), ?_, .inr rfl⟩
      rw [List.mapM_cons, fz_klst, mapM_ints]
      rfl
  suffices hq : ∃ M', fnF 5 1 true b_law [sc'] [] = .ok (.bl true) M' by
    obtain ⟨M', e⟩ := hq
    exact ⟨[], clo_ok hfz e rfl⟩
  rw [fnF_t _ 1 _ [_] _ rfl]
  have sz := sizeLine_ge
  have one : 1 ≤ sizeLine := by decide
  have two : 2 ≤ sizeLine := by decide
  have hadd := fun M => ev_add_sc (M := M) hs' [0] (by simp; omega)
  have hlen := fun M => ev_len_sc (M := M) hs'
  generalize hm : (if (if (3 : Int) < (ns.length : Int) then 3 else (ns.length : Int)) > 1 then (if (3 : Int) < (ns.length : Int) then 3 else (ns.length : Int)) else 1) = m
  have hsl : fSl false (fbin hAdd (fv 0) (fLst false (faC (fc (.int 0)) (faN)))) (fpN) (fpS (fBlt hMax2 (faC (fc (.int 1)) (faC (fBlt hMin2 (faC (fBlt hLen (faC (fv 0) (faN))) (faC (fc (.int 3)) (faN)))) (faN))))) [some sc', none, none, none, none] [] = .ok (.lst ((cutD (ns ++ [0]) none (some m)).map D.int)) [] := by
    have hp : fpS (fBlt hMax2 (faC (fc (.int 1)) (faC (fBlt hMin2 (faC (fBlt hLen (faC (fv 0) (faN))) (faC (fc (.int 3)) (faN)))) (faN)))) [some sc', none, none, none, none] [] = .ok (some m) [] := by
      refine ev_fpS_int _ _ _ ?_
      simp only [ev_fBlt, ev_faC, ev_faN, ev_fc, ev_bind_ok, ev_fv0, hlen, ev_sure_ok, ev_min2, ev_max2, hm]
    have hadd2 := hadd []
    simp only [List.map_cons, List.map_nil] at hadd2
    rw [ev_fSl]
    simp only [ev_fbin, ev_fv0, ev_fLst, ev_faC, ev_faN, ev_fc, ev_bind_ok, List.length_cons, List.length_nil, if_pos one, ev_newF, hadd2, ev_ofO_some, ev_fpN, hp, ev_asL_lst, cut_map]
  have hcl : (cutD (ns ++ [0]) none (some m)).length ≤ 64 := by
    have := cut_len (ns ++ [0]) none (some m)
    rw [List.length_append, List.length_singleton] at this
    omega
  generalize hcells : cutD (ns ++ [0]) none (some m) = cells at *
  obtain ⟨ρ', M', hf, q1, q2, q3, q4, hρ⟩ := for_inv (body := bodyF (gw (gT2 1 2)) Bout) (ds := enumD 0 (cells.map D.int)) (ρ := [some sc', none, none, none, none]) (M := [])
    (fun _ ρ M => ∃ p1 p2 p3 p4, ρ = [some sc', p1, p2, p3, p4]) ⟨_, _, _, _, rfl⟩ (by
      rintro i d ρ M hd ⟨p1, p2, p3, p4, rfl⟩
      rw [enumD_get, List.getElem?_map] at hd
      cases hq : cells[i]? with
      | none => rw [hq] at hd; cases hd
      | some c =>
        rw [hq] at hd
        cases hd
        have hi := (List.getElem?_eq_some_iff.mp hq).1
        obtain ⟨p1', p2', p3', p4', M', e⟩ := turn_out hs' (k := i) (c := c) (by omega) (o1 := p1) (o2 := p2) (o3 := p3) (o4 := p4) (M := M)
        exact ⟨_, _, e, _, _, _, _, rfl⟩)
  refine ⟨M', ?_⟩
  rw [hρ] at hf
  have henum : hEnum [.lst (cells.map D.int)] [] = some (.items (enumD 0 (cells.map D.int))) := rfl
  have a4 := fun M => r_always 4 (by decide) (by decide) M
  have a5 := fun M => r_always 5 (by decide) (by decide) M
  have shc := fun M => r_share 3 (by decide) (by decide) M
  have n4 : ((rL 4).getD 4 0 * 2 ^ 4 : Int) = 8688 := by decide +kernel
  have n5 : ((rL 5).getD 5 0 * 2 ^ 5 : Int) = 936992 := by decide +kernel
  have n3 : 2 ^ (3 * 3) / gN_ 3 = 8 := by decide +kernel
  have n3' : mapN 3 3 / gN_ 3 = 21 := by decide +kernel
  rw [n4] at a4
  rw [n5] at a5
  rw [n3, n3'] at shc
  have a4 : ∀ M, g_always_count [.int 4] M = .ok (.int 8688) M := a4
  have a5 : ∀ M, g_always_count [.int 5] M = .ok (.int 936992) M := a5
  have shc : ∀ M, g_share_of [.int 3] M = .ok (.tup [.int (8 : Nat), .int (21 : Nat)]) M := shc
  have hco : compI (compT (gN 4) fYes (fCall g_always_count [] (faC (fv 4) (faN))) [some sc', q1, q2, q3, none]) [.int 4, .int 5] M' = some ([.int 8688, .int 936992], M') := by
    unfold compI
    rw [ev_compT, ev_gN]
    simp only [List.set_cons_succ, List.set_cons_zero, ev_fYes, ev_bind_ok, if_true, ev_fCall, ev_faC, ev_faN, ev_fv0, ev_fvs, List.append_nil, a4]
    unfold compI
    rw [ev_compT, ev_gN]
    simp only [List.set_cons_succ, List.set_cons_zero, ev_fYes, ev_bind_ok, if_true, ev_fCall, ev_faC, ev_faN, ev_fv0, ev_fvs, List.append_nil, a5]
    rfl
  have fin1 : hEq (.lst [.int 8688, .int 936992]) (.lst [.int 8688, .int 936992]) M' = some (.bl true) := by
    unfold hEq
    rfl
  have fin2 : hEq (.tup [.int (8 : Nat), .int (21 : Nat)]) (.tup [.int 8, .int 21]) M' = some (.bl true) := by
    unfold hEq
    rfl
  have l2 : 0 + 1 + 1 < sizeLine := by omega
  rw [b_law_eq]
  simp only [startD, List.map_cons, List.map_nil, List.length_cons, List.length_nil, List.replicate, List.cons_append, List.nil_append]
  rw [ev_sSeq, ev_sFor, ev_fiA, ev_faC, hsl]
  simp only [ev_bind_ok, ev_faN, henum, ev_ofO_some, ev_toO_ok, hf, ev_seq_nx]
  rw [ev_sRet, ev_fAndV, ev_fbin, ev_fComp, ev_fiT]
  simp only [ev_fTup, ev_faC, ev_faN, ev_fc, ev_bind_ok, List.length_cons, List.length_nil, if_pos two]
  rw [if_pos l2]
  simp only [wipeD, List.set_cons_succ, List.set_cons_zero, hco, ev_endC, ev_newF, ev_bind_ok, ev_fLst, ev_faC, ev_faN, ev_fc, List.length_cons, List.length_nil, if_pos two, fin1, ev_ofO_some, if_true, ev_fbin, ev_fCall, List.append_nil, shc, ev_fTup, fin2, ev_toO_ok, ev_toR_rt]
end Pf

open PySem PySem.W PyProof.Rows in
set_option maxRecDepth 100000 in
set_option maxHeartbeats 0 in
theorem PySem.Challenge.cw_bitstages_k49_counts_by_listing_holds : PySem.Challenge.rw_bitstages_k49_counts_by_listing.Holds := by
  w_on; o_law; k_head; (case hw => w_witness2)
  k_fill
  refine Pf.walk (l := PySem.Challenge.rw_bitstages_k49_counts_by_listing) rfl rfl (fun w h Y => PySem.W.kIn_of Y) ?F Pf.law_true
  case F =>
    intro w mg fa h KX G hmg
    refine' Pf.all_mk KX G hmg ?a0 ?l0 ?c0 ?k0 ?a1 ?l1 ?c1 ?k1 ?a2 ?l2 ?c2 ?k2 ?a3 ?l3 ?c3 ?k3 ?d3 ?a4 ?l4 ?c4 ?k4 ?a5 ?l5 ?c5 ?k5 ?a6 ?l6 ?c6 ?k6 ?a7 ?l7 ?c7 ?k7 ?a8 ?l8 ?c8 ?k8 ?a9 ?l9 ?c9 ?k9 ?a10 ?l10 ?c10 ?k10 ?a11 ?l11 ?c11 ?k11 ?a12 ?l12 ?c12 ?k12 ?a13 ?l13 ?c13 ?k13 ?a14 ?l14 ?c14 ?k14 ?a15 ?l15 ?c15 ?k15 ?a16 ?l16 ?c16 ?k16 ?a17 ?l17 ?c17 ?k17 ?a18 ?l18 ?c18 ?k18 ?a19 ?l19 ?c19 ?k19 ?a20 ?l20 ?c20 ?k20 ?a21 ?l21 ?c21 ?k21 ?z_range ?z_isinstance ?z_bool ?z_int ?z_sum ?z_len ?z_min ?z_enumerate ?z_list ?z_repr ?z_max ?z_abs ?m_MOST_BITS ?m_MOST_COUNTED
    (case a0 => k_is)
    (case l0 => k_is)
    (case c0 => k_is)
    (case k0 => k_is)
    (case a1 => k_is)
    (case l1 => k_is)
    (case c1 => k_is)
    (case k1 => k_is)
    (case a2 => k_is)
    (case l2 => k_is)
    (case c2 => k_is)
    (case k2 => k_is)
    (case a3 => k_is)
    (case l3 => k_is)
    (case c3 => k_is)
    (case k3 => k_is)
    (case d3 => k_is)
    (case a4 => k_is)
    (case l4 => k_is)
    (case c4 => k_is)
    (case k4 => k_is)
    (case a5 => k_is)
    (case l5 => k_is)
    (case c5 => k_is)
    (case k5 => k_is)
    (case a6 => k_is)
    (case l6 => k_is)
    (case c6 => k_is)
    (case k6 => k_is)
    (case a7 => k_is)
    (case l7 => k_is)
    (case c7 => k_is)
    (case k7 => k_is)
    (case a8 => k_is)
    (case l8 => k_is)
    (case c8 => k_is)
    (case k8 => k_is)
    (case a9 => k_is)
    (case l9 => k_is)
    (case c9 => k_is)
    (case k9 => k_is)
    (case a10 => k_is)
    (case l10 => k_is)
    (case c10 => k_is)
    (case k10 => k_is)
    (case a11 => k_is)
    (case l11 => k_is)
    (case c11 => k_is)
    (case k11 => k_is)
    (case a12 => k_is)
    (case l12 => k_is)
    (case c12 => k_is)
    (case k12 => k_is)
    (case a13 => k_is)
    (case l13 => k_is)
    (case c13 => k_is)
    (case k13 => k_is)
    (case a14 => k_is)
    (case l14 => k_is)
    (case c14 => k_is)
    (case k14 => k_is)
    (case a15 => k_is)
    (case l15 => k_is)
    (case c15 => k_is)
    (case k15 => k_is)
    (case a16 => k_is)
    (case l16 => k_is)
    (case c16 => k_is)
    (case k16 => k_is)
    (case a17 => k_is)
    (case l17 => k_is)
    (case c17 => k_is)
    (case k17 => k_is)
    (case a18 => k_is)
    (case l18 => k_is)
    (case c18 => k_is)
    (case k18 => k_is)
    (case a19 => k_is)
    (case l19 => k_is)
    (case c19 => k_is)
    (case k19 => k_is)
    (case a20 => k_is)
    (case l20 => k_is)
    (case c20 => k_is)
    (case k20 => k_is)
    (case a21 => k_is)
    (case l21 => k_is)
    (case c21 => k_is)
    (case k21 => k_is)
    (case z_range => k_is)
    (case z_isinstance => k_is)
    (case z_bool => k_is)
    (case z_int => k_is)
    (case z_sum => k_is)
    (case z_len => k_is)
    (case z_min => k_is)
    (case z_enumerate => k_is)
    (case z_list => k_is)
    (case z_repr => k_is)
    (case z_max => k_is)
    (case z_abs => k_is)
    (case m_MOST_BITS => k_is)
    (case m_MOST_COUNTED => k_is)
#print axioms PySem.Challenge.cw_bitstages_k49_counts_by_listing_holds

