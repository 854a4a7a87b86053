import PyProof.Rows.All
import HandS.ForMost
import HandS.ForExc
import HandS.IsInst
import HandS.Lambda
import HandS.ExcInit
import HandS.Walk
import HandS.Style
import HandS.TupMul
import HandS.Wide
import HandS.Zip
import KE.GoesMore
import KE.GoesEnum
import HandS.WideMore
import HandS.Deep
import HandS.Defaults
import HandS.ExcField
import HandS.ExcIs
import KE.KExcIs
import HandS.HeadWalk
import HandS.HeadHook4
import HandS.Head0
import HandS.Head1
import HandS.Head2
import PySem.Challenge.RW_threerims_k70_dimensions
set_option Elab.async false
set_option linter.all false
set_option maxRecDepth 100000
set_option maxHeartbeats 4000000
set_option autoImplicit false
section
namespace Mn
open PySem PySem.Spec PyProof.Rows L2

abbrev Frg := PySem.W.Frag
abbrev Sg := L2.St

inductive D where
  | non | bl (b : Bool) | int (i : Int) | str (x : Str)
  | tup (ds : List D) | lst (ds : List D) | kls (ds : List D) | ref (n : Nat)
  | exc (c : Nat) (fs : List D) | opq
  deriving Inhabited

inductive Ob where
  | lst (ds : List D) | dk (kvs : List (Key × D)) | dt (kvs : List (List Key × D)) | ins (c : Nat) (fs : List (Str × D))
  deriving Inhabited

abbrev Mem := List Ob
abbrev Sl := List (Option D)

structure G where
  K : Frg
  cls : Nat → Option Addr
  flds : Nat → List Str
  T : List (Addr × Str)
  th : Option (Addr × Addr × Str)
  /-- tracked things that are being made or walked: no value stands there -/
  B : List Addr := []
abbrev G.b (g : G) (B : List Addr) : G := { g with B := B }

def ExV (a C : Addr) (dd : Option Addr) : HO := .ext fun h => ∃ (oe : Obj) (vs : Array Value), h.get? a = some oe ∧ oe.cls = .ref C ∧ oe.dict = dd ∧ oe.data = .fields vs

def KTup (K : Frg) (a : Addr) (xs : List V) : Prop :=
  ∃ (o : Obj) (its : Array Value) (n : Nat), K.lookup a = some o ∧ o.cls = .type "tuple" ∧ o.data = .seq its n ∧ its.size ≤ sizeLine ∧ Vals xs its.toList

def KLst (K : Frg) (a : Addr) (xs : List V) : Prop :=
  ∃ (o : Obj) (its : Array Value) (n : Nat), K.lookup a = some o ∧ o.cls = .type "list" ∧ o.dict = none ∧ o.data = .seq its n ∧ its.size ≤ sizeLine ∧ Vals xs its.toList
def Fix (g : G) (H : Hp) (ι : List Addr) (a : Addr) (o : HO) : Prop := a ∉ ι ∧ a ∉ g.B ∧ H a = some o

def NT (o : HO) : Prop := ∀ ps, o ≠ .tbl ps
mutual
inductive Rp (g : G) (H : Hp) (ι : List Addr) : D → V → Prop
  | non : Rp g H ι .non .non
  | bl (b : Bool) : Rp g H ι (.bl b) (.bl b)
  | int (i : Int) : Rp g H ι (.int i) (.int i)
  | str (x : Str) : Rp g H ι (.str x) (.str x)
  | tup {a : Addr} {ds : List D} {vs : List V} : Fix g H ι a (.tup vs) → RpL g H ι ds vs → Rp g H ι (.tup ds) (.ref a)
  | lst {a : Addr} {ds : List D} {vs : List V} : Fix g H ι a (.lst vs) → RpL g H ι ds vs → Rp g H ι (.lst ds) (.ref a)
  | frz {a : Addr} {o : Obj} {ds : List D} {vs : List V} : Fix g H ι a (.frz o (.lst vs)) → RpL g H ι ds vs → Rp g H ι (.lst ds) (.ref a)
  | kfz {a : Addr} {o : Obj} {ds : List D} {vs : List V} : Fix g H ι a (.frz o (.lst vs)) → RpL g H ι ds vs → Rp g H ι (.kls ds) (.ref a)
  | klp {a : Addr} {ds : List D} {vs : List V} : Fix g H ι a (.lst vs) → RpL g H ι ds vs → Rp g H ι (.kls ds) (.ref a)
  | kkk {a : Addr} {ds : List D} {vs : List V} : KLst g.K a vs → RpL g H ι ds vs → Rp g H ι (.kls ds) (.ref a)
  | ref {n : Nat} {a : Addr} : ι[n]? = some a → Rp g H ι (.ref n) (.ref a)
  | exc {a C d : Addr} {c : Nat} {fs : List D} {vs : List V} {fv : List (Str × V)} : g.cls c = some C → Fix g H ι a (ExV a C (some d)) → Fix g H ι d (.xd fv) → (∀ f, fv.lookup f = ((g.flds c).zip vs).lookup f) → vs.length = (g.flds c).length → RpL g H ι fs vs → Rp g H ι (.exc c fs) (.ref a)
  | exc0 {a C : Addr} {c : Nat} : g.cls c = some C → Fix g H ι a (ExV a C none) → g.flds c = [] → Rp g H ι (.exc c []) (.ref a)
  | opq {f c : Addr} {q : Str} : g.th = some (f, c, q) → Fix g H ι c (LamX.CodeO c q) → Rp g H ι .opq (.ref f)
inductive RpL (g : G) (H : Hp) (ι : List Addr) : List D → List V → Prop
  | nil : RpL g H ι [] []
  | cons {d : D} {ds : List D} {v : V} {vs : List V} : Rp g H ι d v → RpL g H ι ds vs → RpL g H ι (d :: ds) (v :: vs)
end

def RpK {κ : Type} (g : G) (H : Hp) (ι : List Addr) (ks : List (κ × D)) (vs : List (κ × V)) : Prop :=
  ks.map (·.1) = vs.map (·.1) ∧ RpL g H ι (ks.map (·.2)) (vs.map (·.2))

def ObR (g : G) (H : Hp) (ι : List Addr) (a : Addr) : Ob → Prop
  | .lst ds => ∃ vs, H a = some (.lst vs) ∧ RpL g H ι ds vs
  | .dk kvs => ∃ vs, H a = some (.dK vs) ∧ RpK g H ι kvs vs
  | .dt kvs => ∃ vs, H a = some (.dT vs) ∧ RpK g H ι kvs vs
  | .ins c fs => ∃ (C dx : Addr) (vs : List (Str × V)), g.cls c = some C ∧ H a = some (.ins C dx vs) ∧ RpK g H ι fs vs

structure MR (g : G) (H : Hp) (ι : List Addr) (μ : Mem) : Prop where
  len : ι.length = μ.length
  nd : ι.Nodup
  at_ : ∀ (n : Nat) (o : Ob) (a : Addr), μ[n]? = some o → ι[n]? = some a → ObR g H ι a o
  tabs : LamX.Tabs g.T H
  busy : ∀ b ∈ g.B, (∃ o, H b = some o ∧ NT o) ∧ b ∉ ι

structure SR (g : G) (H : Hp) (ι : List Addr) (sl : Sl) (σ : Sg) : Prop where
  len : sl.length = σ.length
  at_ : ∀ (i : Nat) (d : D), sl[i]? = some (some d) → ∃ v, σ[i]? = some (some v) ∧ Rp g H ι d v

structure Nx (E : List Addr) (H : Hp) (ι : List Addr) (H' : Hp) (ι' : List Addr) : Prop where
  ext : ∀ a o, a ∉ ι → a ∉ E → (∀ ps, o ≠ .tbl ps) → H a = some o → H' a = some o
  dom : ∀ a o, H a = some o → NT o → ∃ o', H' a = some o' ∧ NT o'
  more : ∃ l, ι' = ι ++ l ∧ ∀ a ∈ l, ∀ o, H a = some o → ¬ NT o

theorem Nx.refl {E : List Addr} {H : Hp} {ι : List Addr} : Nx E H ι H ι := ⟨fun _ _ _ _ _ h => h, fun _ o h n => ⟨o, h, n⟩, [], by simp, fun _ h => nomatch h⟩
theorem Nx.trans {E : List Addr} {H H1 H2 : Hp} {ι ι1 ι2 : List Addr} (a : Nx E H ι H1 ι1) (b : Nx E H1 ι1 H2 ι2) : Nx E H ι H2 ι2 := by
  obtain ⟨l, e, hl⟩ := a.more
  obtain ⟨l2, e2, hl2⟩ := b.more
  refine ⟨fun c o hc he nt h => b.ext c o ?_ he nt (a.ext c o hc he nt h), fun c o h n => let ⟨o2, h2, n2⟩ := a.dom c o h n; b.dom c o2 h2 n2, l ++ l2, by rw [e2, e, List.append_assoc], fun c hc => ?_⟩
  · rw [e]
    intro hm
    rcases List.mem_append.mp hm with h1 | h1
    · exact hc h1
    · exact hl c h1 o h nt
  · rcases List.mem_append.mp hc with h1 | h1
    · exact hl c h1
    · intro o q n
      obtain ⟨o2, h2, n2⟩ := a.dom c o q n
      exact hl2 c h1 o2 h2 n2
theorem Nx.wide {E E' : List Addr} {H H' : Hp} {ι ι' : List Addr} (x : Nx E H ι H' ι') (h : ∀ a ∈ E, a ∈ E') : Nx E' H ι H' ι' :=
  ⟨fun a o h1 h2 nt e => x.ext a o h1 (fun z => h2 (h a z)) nt e, x.dom, x.more⟩
theorem Nx.w {E : List Addr} {H H' : Hp} {ι ι' : List Addr} (x : Nx [] H ι H' ι') : Nx E H ι H' ι' := x.wide fun _ z => nomatch z
theorem Nx.notin {E : List Addr} {H H' : Hp} {ι ι' : List Addr} (x : Nx E H ι H' ι') {a : Addr} {o : HO} (h : a ∉ ι) (he : H a = some o) (n : NT o) : a ∉ ι' := by
  obtain ⟨l, e, hl⟩ := x.more
  rw [e]
  intro hm
  rcases List.mem_append.mp hm with h1 | h1
  · exact h h1
  · exact hl a h1 o he n
theorem Nx.fix {g : G} {H H' : Hp} {ι ι' : List Addr} (x : Nx g.B H ι H' ι') {a : Addr} {o : HO} (h : Fix g H ι a o) (nt : ∀ ps, o ≠ .tbl ps) : Fix g H' ι' a o :=
  ⟨x.notin h.1 h.2.2 nt, h.2.1, x.ext a o h.1 h.2.1 nt h.2.2⟩
theorem Nx.get {E : List Addr} {H H' : Hp} {ι ι' : List Addr} (x : Nx E H ι H' ι') {n : Nat} {a : Addr} (h : ι[n]? = some a) : ι'[n]? = some a := by
  obtain ⟨l, e, _⟩ := x.more
  rw [e, List.getElem?_append_left (List.getElem?_eq_some_iff.mp h).1]
  exact h

theorem ExV_ne {a C : Addr} {dd : Option Addr} (ps : Array Value) : ExV a C dd ≠ .tbl ps := fun z => by
  unfold ExV at z; cases z

mutual
theorem Rp.mono {g : G} {H H' : Hp} {ι ι' : List Addr} (x : Nx g.B H ι H' ι') : ∀ {d : D} {v : V}, Rp g H ι d v → Rp g H' ι' d v
  | _, _, .non => .non
  | _, _, .bl b => .bl b
  | _, _, .int i => .int i
  | _, _, .str s => .str s
  | _, _, .tup f r => .tup (x.fix f fun _ z => nomatch z) (r.mono x)
  | _, _, .lst f r => .lst (x.fix f fun _ z => nomatch z) (r.mono x)
  | _, _, .frz f r => .frz (x.fix f fun _ z => nomatch z) (r.mono x)
  | _, _, .kfz f r => .kfz (x.fix f fun _ z => nomatch z) (r.mono x)
  | _, _, .klp f r => .klp (x.fix f fun _ z => nomatch z) (r.mono x)
  | _, _, .kkk k r => .kkk k (r.mono x)
  | _, _, .ref h => .ref (x.get h)
  | _, _, .exc c f1 f2 hf hl r => .exc c (x.fix f1 ExV_ne) (x.fix f2 fun _ z => nomatch z) hf hl (r.mono x)
  | _, _, .exc0 c f1 e => .exc0 c (x.fix f1 ExV_ne) e
  | _, _, .opq h f => .opq h (x.fix f LamX.codeO_ne)
theorem RpL.mono {g : G} {H H' : Hp} {ι ι' : List Addr} (x : Nx g.B H ι H' ι') : ∀ {ds : List D} {vs : List V}, RpL g H ι ds vs → RpL g H' ι' ds vs
  | _, _, .nil => .nil
  | _, _, .cons r t => .cons (r.mono x) (t.mono x)
end

section
variable {g : G} {H H' : Hp} {ι ι' : List Addr}
theorem RpL.length : ∀ {ds : List D} {vs : List V}, RpL g H ι ds vs → ds.length = vs.length
  | _, _, .nil => rfl
  | _, _, .cons _ t => congrArg (· + 1) t.length
theorem RpL.get : ∀ {ds : List D} {vs : List V} {i : Nat} {d : D}, RpL g H ι ds vs → ds[i]? = some d → ∃ v, vs[i]? = some v ∧ Rp g H ι d v
  | _, _, _, _, .nil, e => by simp at e
  | _, _, 0, _, .cons r _, e => by simp at e; subst e; exact ⟨_, rfl, r⟩
  | _, _, i + 1, d, .cons _ t, e => by
    obtain ⟨v, h1, h2⟩ := RpL.get (i := i) (d := d) t (by simpa using e)
    exact ⟨v, by simpa using h1, h2⟩
theorem RpL.getV : ∀ {ds : List D} {vs : List V} {i : Nat} {v : V}, RpL g H ι ds vs → vs[i]? = some v → ∃ d, ds[i]? = some d ∧ Rp g H ι d v
  | _, _, _, _, .nil, e => by simp at e
  | _, _, 0, _, .cons r _, e => by simp at e; subst e; exact ⟨_, rfl, r⟩
  | _, _, i + 1, v, .cons _ t, e => by
    obtain ⟨d, h1, h2⟩ := RpL.getV (i := i) (v := v) t (by simpa using e)
    exact ⟨d, by simpa using h1, h2⟩
theorem RpL.append : ∀ {ds es : List D} {vs ws : List V}, RpL g H ι ds vs → RpL g H ι es ws → RpL g H ι (ds ++ es) (vs ++ ws)
  | _, _, _, _, .nil, s => s
  | _, _, _, _, .cons r t, s => .cons r (t.append s)
theorem RpL.take : ∀ {ds : List D} {vs : List V} (n : Nat), RpL g H ι ds vs → RpL g H ι (ds.take n) (vs.take n)
  | _, _, 0, _ => .nil
  | _, _, _ + 1, .nil => .nil
  | _, _, n + 1, .cons r t => .cons r (t.take n)
theorem RpL.drop : ∀ {ds : List D} {vs : List V} (n : Nat), RpL g H ι ds vs → RpL g H ι (ds.drop n) (vs.drop n)
  | _, _, 0, r => r
  | _, _, _ + 1, .nil => .nil
  | _, _, n + 1, .cons _ t => t.drop n
theorem RpL.set : ∀ {ds : List D} {vs : List V} {d : D} {v : V} (i : Nat), Rp g H ι d v → RpL g H ι ds vs → RpL g H ι (ds.set i d) (vs.set i v)
  | _, _, _, _, _, _, .nil => .nil
  | _, _, _, _, 0, r, .cons _ t => .cons r t
  | _, _, _, _, i + 1, r, .cons q t => .cons q (t.set i r)
theorem RpL.reverse {ds : List D} {vs : List V} (r : RpL g H ι ds vs) : RpL g H ι ds.reverse vs.reverse := by
  induction ds generalizing vs with
  | nil => cases r; exact .nil
  | cons d ds ih =>
    cases r with
    | cons r t =>
      rw [List.reverse_cons, List.reverse_cons]
      exact (ih t).append (.cons r .nil)
theorem RpL.eraseIdx : ∀ {ds : List D} {vs : List V} (n : Nat), RpL g H ι ds vs → RpL g H ι (ds.eraseIdx n) (vs.eraseIdx n)
  | _, _, _, .nil => .nil
  | _, _, 0, .cons _ t => t
  | _, _, n + 1, .cons r t => .cons r (t.eraseIdx n)
theorem RpL.dropLast : ∀ {ds : List D} {vs : List V}, RpL g H ι ds vs → RpL g H ι ds.dropLast vs.dropLast
  | _, _, .nil => .nil
  | _, _, .cons _ .nil => .nil
  | _, _, .cons r (.cons r2 t) => .cons r (RpL.dropLast (.cons r2 t))
theorem SR.mono {sl : Sl} {σ : Sg} (s : SR g H ι sl σ) (x : Nx g.B H ι H' ι') : SR g H' ι' sl σ :=
  ⟨s.len, fun i d e => let ⟨v, h, r⟩ := s.at_ i d e; ⟨v, h, r.mono x⟩⟩
theorem SR.set {sl : Sl} {σ : Sg} (s : SR g H ι sl σ) {d : D} {v : V} (i : Nat) (r : Rp g H ι d v) : SR g H ι (sl.set i (some d)) (σ.set i (some v)) := by
  refine ⟨by simp [s.len], fun j e h => ?_⟩
  by_cases hj : i = j
  · subst hj
    have hl : i < sl.length := by
      have := (List.getElem?_eq_some_iff.mp h).1
      simpa using this
    rw [List.getElem?_set_self hl] at h
    cases h
    exact ⟨v, by rw [List.getElem?_set_self (by rw [← s.len]; exact hl)], r⟩
  · rw [List.getElem?_set_ne hj] at h ⊢
    exact s.at_ j e h
theorem SR.clear {sl : Sl} {σ : Sg} (s : SR g H ι sl σ) (i : Nat) : SR g H ι (sl.set i none) (σ.set i none) := by
  refine ⟨by simp [s.len], fun j e h => ?_⟩
  by_cases hj : i = j
  · subst hj
    rw [List.getElem?_set_self (by have := (List.getElem?_eq_some_iff.mp h).1; simpa using this)] at h
    cases h
  · rw [List.getElem?_set_ne hj] at h ⊢
    exact s.at_ j e h
theorem RpK.mono {κ : Type} {ks : List (κ × D)} {vs : List (κ × V)} (x : Nx g.B H ι H' ι') (r : RpK g H ι ks vs) : RpK g H' ι' ks vs := ⟨r.1, r.2.mono x⟩

theorem ObR.there {a : Addr} {o : Ob} (r : ObR g H ι a o) : ∃ u, H a = some u ∧ Mut (some u) := by
  cases o with
  | lst ds => obtain ⟨vs, h, _⟩ := r; exact ⟨_, h, trivial⟩
  | dk ds => obtain ⟨vs, h, _⟩ := r; exact ⟨_, h, trivial⟩
  | dt ds => obtain ⟨vs, h, _⟩ := r; exact ⟨_, h, trivial⟩
  | ins c ds => obtain ⟨C, dx, vs, _, h, _⟩ := r; exact ⟨_, h, trivial⟩
theorem MR.get {μ : Mem} (m : MR g H ι μ) {n : Nat} {o : Ob} (h : μ[n]? = some o) : ∃ a, ι[n]? = some a ∧ ObR g H ι a o := by
  have hl : n < ι.length := by rw [m.len]; exact (List.getElem?_eq_some_iff.mp h).1
  exact ⟨ι[n], List.getElem?_eq_getElem hl, m.at_ n o _ h (List.getElem?_eq_getElem hl)⟩
theorem MR.mem {μ : Mem} (m : MR g H ι μ) {a : Addr} (h : a ∈ ι) : ∃ u, H a = some u ∧ Mut (some u) := by
  obtain ⟨n, hn, e⟩ := List.getElem_of_mem h
  have hl : n < μ.length := by rw [← m.len]; exact hn
  exact (m.at_ n μ[n] a (List.getElem?_eq_getElem hl) (by rw [List.getElem?_eq_getElem hn, e])).there
theorem MR.fresh {μ : Mem} (m : MR g H ι μ) {a : Addr} (h : H a = none) : a ∉ ι := fun z => by
  obtain ⟨u, e, _⟩ := m.mem z
  rw [h] at e; cases e

theorem MR.freshB {μ : Mem} (m : MR g H ι μ) {a : Addr} (h : H a = none) : a ∉ g.B := fun z => by
  obtain ⟨o, e, _⟩ := (m.busy a z).1
  rw [h] at e; cases e
theorem Nx.laid {a : Addr} {o : HO} (hn : H a = none) : Nx [] H ι (upd H a o) ι := by
  refine ⟨fun b u _ _ _ h => by rw [upd_ne (ne_of_none h hn)]; exact h, fun b u h n => ⟨u, by rw [upd_ne (ne_of_none h hn)]; exact h, n⟩, [], by simp, fun _ h => nomatch h⟩
theorem tabs_laid {T : List (Addr × Str)} {a : Addr} {o : HO} (t : LamX.Tabs T H) (hn : H a = none) : LamX.Tabs T (upd H a o) :=
  t.ext fun b u h => by rw [upd_ne (ne_of_none h hn)]; exact h
def Plain : HO → Prop
  | .lst _ => True
  | .dK _ => True
  | .dT _ => True
  | .ins _ _ _ => True
  | _ => False
theorem Plain.nt {o : HO} (p : Plain o) : NT o := fun ps e => by rw [e] at p; exact p
theorem ObR.plain {a : Addr} {o : Ob} (r : ObR g H ι a o) : ∃ u, H a = some u ∧ Plain u := by
  cases o with
  | lst ds => obtain ⟨vs, h, _⟩ := r; exact ⟨_, h, trivial⟩
  | dk ds => obtain ⟨vs, h, _⟩ := r; exact ⟨_, h, trivial⟩
  | dt ds => obtain ⟨vs, h, _⟩ := r; exact ⟨_, h, trivial⟩
  | ins c ds => obtain ⟨C, dx, vs, _, h, _⟩ := r; exact ⟨_, h, trivial⟩
theorem tabs_write {T : List (Addr × Str)} {a : Addr} {o u : HO} (t : LamX.Tabs T H) (hu : H a = some u) (pl : Plain u) : LamX.Tabs T (upd H a o) := fun p hp => by
  obtain ⟨ps, h1, h2, h3⟩ := t p hp
  have n1 : p.1 ≠ a := fun q => by
    rw [q, hu] at h1
    cases h1
    exact pl
  refine ⟨ps, by rw [upd_ne n1]; exact h1, h2, fun pos cv hc => ?_⟩
  obtain ⟨c, e1, e2⟩ := h3 pos cv hc
  refine ⟨c, e1, ?_⟩
  have n2 : c ≠ a := fun q => by
    rw [q, hu] at e2
    have e3 := Option.some.inj e2
    unfold LamX.CodeO at e3
    rw [e3] at pl
    exact pl
  rw [upd_ne n2]
  exact e2
theorem nodup_snoc {ι : List Addr} {a : Addr} (h : ι.Nodup) (n : a ∉ ι) : (ι ++ [a]).Nodup := by
  rw [List.nodup_append]
  exact ⟨h, by simp, fun x hx y hy e => n (by
    have : y = a := by simpa using hy
    rw [← this, ← e]; exact hx)⟩
theorem nodup_at {ι : List Addr} (h : ι.Nodup) {i j : Nat} {a : Addr} (h1 : ι[i]? = some a) (h2 : ι[j]? = some a) : i = j := by
  obtain ⟨l1, e1⟩ := List.getElem?_eq_some_iff.mp h1
  obtain ⟨l2, e2⟩ := List.getElem?_eq_some_iff.mp h2
  exact (List.getElem_inj h).mp (e1.trans e2.symm)
theorem ObR.mono {a : Addr} {o : Ob} (r : ObR g H ι a o) (x : Nx g.B H ι H' ι') (e : H' a = H a) : ObR g H' ι' a o := by
  cases o with
  | lst ds => obtain ⟨vs, h, q⟩ := r; exact ⟨vs, e.trans h, q.mono x⟩
  | dk ds => obtain ⟨vs, h, q⟩ := r; exact ⟨vs, e.trans h, q.mono x⟩
  | dt ds => obtain ⟨vs, h, q⟩ := r; exact ⟨vs, e.trans h, q.mono x⟩
  | ins c ds => obtain ⟨C, dx, vs, hc, h, q⟩ := r; exact ⟨C, dx, vs, hc, e.trans h, q.mono x⟩
theorem MR.laid {μ : Mem} (m : MR g H ι μ) {a : Addr} {o : HO} (hn : H a = none) : MR g (upd H a o) ι μ := by
  refine ⟨m.len, m.nd, fun n u b h1 h2 => ?_, tabs_laid m.tabs hn, fun b hb => ⟨let ⟨o2, e2, n2⟩ := (m.busy b hb).1; (Nx.laid (ι := ι) hn).dom b o2 e2 n2, (m.busy b hb).2⟩⟩
  have r := m.at_ n u b h1 h2
  refine r.mono (Nx.laid hn).w ?_
  obtain ⟨z, e, _⟩ := r.there
  rw [upd_ne (ne_of_none e hn)]
theorem MR.new {μ : Mem} (m : MR g H ι μ) {a : Addr} {u : HO} {o : Ob} (hn : H a = none) (r : ObR g (upd H a u) (ι ++ [a]) a o) : MR g (upd H a u) (ι ++ [a]) (μ ++ [o]) ∧ Nx [] H ι (upd H a u) (ι ++ [a]) := by
  have hx : Nx [] H ι (upd H a u) (ι ++ [a]) := ⟨(Nx.laid (ι := ι) hn).ext, (Nx.laid (ι := ι) hn).dom, [a], rfl, fun b hb o e => by
    have : b = a := by simpa using hb
    rw [this, hn] at e; cases e⟩
  refine ⟨⟨by simp [m.len], nodup_snoc m.nd (m.fresh hn), fun n z b h1 h2 => ?_, tabs_laid m.tabs hn, fun b hb => let ⟨o2, e2, n2⟩ := (m.busy b hb).1; ⟨hx.dom b o2 e2 n2, hx.notin (m.busy b hb).2 e2 n2⟩⟩, hx⟩
  by_cases hl : n < μ.length
  · rw [List.getElem?_append_left hl] at h1
    rw [List.getElem?_append_left (by rw [m.len]; exact hl)] at h2
    have q := m.at_ n z b h1 h2
    refine q.mono hx.w ?_
    obtain ⟨y, e, _⟩ := q.there
    rw [upd_ne (ne_of_none e hn)]
  · have hz := (List.getElem?_eq_some_iff.mp h1).1
    have e : n = μ.length := by simp at hz; omega
    subst e
    have e1 : o = z := by simpa using h1
    have e2 : a = b := by
      rw [← m.len] at h2
      simpa using h2
    subst e1; subst e2
    exact r
theorem MR.write {μ : Mem} (m : MR g H ι μ) {n : Nat} {a : Addr} {u : HO} {o : Ob} (h0 : ι[n]? = some a) (hp : ∃ w, H a = some w ∧ Plain w) (pu : Plain u) (r : Nx [] H ι (upd H a u) ι → ObR g (upd H a u) ι a o) : MR g (upd H a u) ι (μ.set n o) ∧ Nx [] H ι (upd H a u) ι := by
  obtain ⟨w, hw, pl⟩ := hp
  have ha : a ∈ ι := List.mem_of_getElem? h0
  have hx : Nx [] H ι (upd H a u) ι := ⟨fun b z hb _ _ e => by rw [upd_ne (fun q => hb (by rw [q]; exact ha))]; exact e, fun b o hb n => by
    by_cases e : b = a
    · exact ⟨u, by rw [e, upd_same], pu.nt⟩
    · exact ⟨o, by rw [upd_ne e]; exact hb, n⟩, [], by simp, fun _ h => nomatch h⟩
  refine ⟨⟨by simp [m.len], m.nd, fun k z b h1 h2 => ?_, tabs_write m.tabs hw pl, fun b hb => let ⟨o2, e2, n2⟩ := (m.busy b hb).1; ⟨hx.dom b o2 e2 n2, (m.busy b hb).2⟩⟩, hx⟩
  by_cases hk : n = k
  · subst hk
    have hl : n < μ.length := by
      have := (List.getElem?_eq_some_iff.mp h1).1
      simpa using this
    rw [List.getElem?_set_self hl] at h1
    cases h1
    rw [h0] at h2
    cases h2
    exact r hx
  · rw [List.getElem?_set_ne hk] at h1
    refine (m.at_ k z b h1 h2).mono hx.w ?_
    rw [upd_ne]
    rintro rfl
    exact hk (nodup_at m.nd h0 h2)
end
end Mn
end
section
namespace Mn
open PySem PySem.Spec PyProof.Rows L2

inductive Bop | add | sub | mul | fdiv | mod | pow
  deriving DecidableEq
inductive Cop | lt | le | gt | ge | eq | ne | isN | notN | isIn | notIn
  deriving DecidableEq
inductive Ty | int | bool | str | tuple | list | dict | own (c : Nat)
  deriving DecidableEq
inductive Blt | len | abs | min2 | max2 | sum | all | any | int | str | tuple | list | sorted | minL | maxL
  deriving DecidableEq
inductive Tg | nm (i : Nat) | tup (is : List Nat)
  deriving DecidableEq

mutual
inductive E where
  | var (i : Nat)
  | non | bl (b : Bool) | int (i : Int) | str (x : Str)
  | glb (k : Nat)
  | bin (op : Bop) (a b : E)
  | neg (a : E)
  | cmp (op : Cop) (a b : E)
  | chain (op op2 : Cop) (a b c : E)
  | and (a b : E) | or (a b : E) | one (a : E) | not (a : E)
  | ifx (c a b : E)
  | tup (es : Es)
  | call (k : Nat) (es : Es)
  | blt (b : Blt) (es : Es)
  | isi (a : E) (t : Ty)
  | isiO (a : E) (c : Nat)
  | idx (a b : E)
  | slc (a : E) (lo hi : Eo)
  | rev (a : E)
  | val (l : Ls)
  | mk (l : Ls)
  | dict (ks : Ks)
  | dnew (t : Bool)
  | thunk
  | told (k : Nat) (a : E)
  | fld (a : E) (c : Nat) (f : Str)
inductive Es where
  | nil | cons (e : E) (es : Es)
inductive Eo where
  | no | some (e : E)
inductive Ks where
  | nil | cons (k : Key) (e : E) (ks : Ks)
inductive Ls where
  | disp (es : Es)
  | comp (elt : E) (tg : Tg) (it : It') (c : Eo)
  | comp2 (elt : E) (tg : Tg) (it : It') (c : Eo) (tg1 : Tg) (it1 : It') (c1 : Eo)
  | cat (a b : E)
inductive It' where
  | seq (a : E)
  | range (a b : Eo)
  | enum (a : E)
  | zip (a b : E) (strict : Bool)
end

mutual
inductive S where
  | expr (e : E)
  | set (i : Nat) (e : E)
  | par (i j : Nat) (a b : E)
  | par3 (i j l : Nat) (a b c : E)
  | aug (op : Bop) (i : Nat) (e : E)
  | setIx (a b e : E)
  | app (a e : E)
  | unp (is : List Nat) (e : E)
  | ret (e : E) | retN
  | pass | brk | cont
  | ite (c : E) (a b : Ss)
  | for_ (tg : Tg) (it : It') (b : Ss)
  | whl (c : E) (b : Ss)
  | raise (c : Nat) (es : Es) (dd : List D)
  | tryAs (b : Ss) (c : Nat) (i j : Nat)
inductive Ss where
  | nil | cons (s : S) (ss : Ss)
end

inductive R (α : Type) where
  | ok (a : α) (μ : Mem)
  | ex (x : D) (μ : Mem)

inductive O where
  | nx (sl : Sl) (μ : Mem) | rt (d : D) (μ : Mem) | ex (x : D) (sl : Sl) (μ : Mem) | bk (sl : Sl) (μ : Mem) | ct (sl : Sl) (μ : Mem)

def R.bind {α β : Type} (r : Option (R α)) (k : α → Mem → Option (R β)) : Option (R β) :=
  match r with
  | some (.ok a μ) => k a μ
  | some (.ex x μ) => some (.ex x μ)
  | none => none
@[simp] theorem bind_ok {α β : Type} (a : α) (μ : Mem) (k : α → Mem → Option (R β)) : R.bind (some (.ok a μ)) k = k a μ := rfl
@[simp] theorem bind_ex {α β : Type} (x : D) (μ : Mem) (k : α → Mem → Option (R β)) : R.bind (some (.ex x μ) : Option (R α)) k = some (.ex x μ) := rfl
@[simp] theorem bind_none {α β : Type} (k : α → Mem → Option (R β)) : R.bind (none : Option (R α)) k = none := rfl

def pureR {α : Type} (o : Option α) (μ : Mem) : Option (R α) := match o with
  | some a => some (.ok a μ)
  | none => none
@[simp] theorem pureR_some {α : Type} (a : α) (μ : Mem) : pureR (some a) μ = some (.ok a μ) := rfl
@[simp] theorem pureR_none {α : Type} (μ : Mem) : pureR (none : Option α) μ = none := rfl

structure Gam where
  fn : Nat → List D → Mem → Option (R D)
  cst : Nat → Option D
  thunk : Mem → Option (R D) := fun _ => none
  told : Nat → (Mem → Option (R D)) → Mem → Option (D × Mem) := fun _ _ _ => none
  flds : Nat → List Str
  /-- the first class is the second or below it -/
  sub : Nat → Nat → Bool := fun _ _ => false

def seqL (μ : Mem) : D → Option (List D)
  | .lst ds => some ds
  | .kls ds => some ds
  | .ref n => match μ[n]? with
    | some (.lst ds) => some ds
    | _ => none
  | _ => none
def seqC (μ : Mem) : D → Option (List D)
  | .lst ds => some ds
  | .ref n => match μ[n]? with
    | some (.lst ds) => some ds
    | _ => none
  | _ => none
def seqA (μ : Mem) : D → Option (List D)
  | .tup ds => some ds
  | d => seqL μ d
mutual
def py : D → Option PyData
  | .non => some .none
  | .bl b => some (.bool b)
  | .int i => some (.int i)
  | .str x => some (.str x)
  | .tup ds => (pyAll ds).map .tuple
  | .lst ds => (pyAll ds).map .list
  | .kls _ => none
  | .ref _ => none
  | .exc _ _ => none
  | .opq => none
def pyAll : List D → Option (List PyData)
  | [] => some []
  | d :: ds => (py d).bind fun p => (pyAll ds).map fun ps => p :: ps
end
def pyR (μ : Mem) (d : D) : Option PyData := match seqL μ d with
  | some ds => (pyAll ds).map .list
  | none => py d
def eqD (μ : Mem) (x y : D) : Option Bool :=
  (pyR μ x).bind fun p => (pyR μ y).bind fun q => if SeqAt.shaped p && SeqAt.shaped q then some (PyData.eqv p q) else none
def flat : D → Option V
  | .non => some .non
  | .bl b => some (.bl b)
  | .int i => some (.int i)
  | .str x => some (.str x)
  | _ => none
def mulOk (i j : Int) : Bool := decide (-(2 ^ 64) < i ∧ i < 2 ^ 64) || decide (-(2 ^ 64) < j ∧ j < 2 ^ 64) || decide (i.natAbs.log2 + j.natAbs.log2 < 1000000)
def divOk (j : Int) : Bool := decide (0 < j) && decide (j.natAbs.log2 < 9000)
def binD (op : Bop) (x y : D) : Option D := match op, x, y with
  | .add, .int i, .int j => some (.int (i + j))
  | .sub, .int i, .int j => some (.int (i - j))
  | .mul, .int i, .int j => if mulOk i j then some (.int (i * j)) else none
  | .fdiv, .int i, .int j => if divOk j then some (.int (i / j)) else none
  | .mod, .int i, .int j => if 0 < j then some (.int (i % j)) else none
  | .pow, .int i, .int j => if 0 ≤ j ∧ j ≤ 1000000 ∧ i.natAbs < 2 ^ 64 then some (.int (i ^ j.toNat)) else none
  | .add, .str a, .str b => if a.length + b.length ≤ sizeLine then some (.str (a ++ b)) else none
  | .add, .tup a, .tup b => if a.length + b.length ≤ sizeLine then some (.tup (a ++ b)) else none
  | .mul, .tup a, .int k => if 0 ≤ k ∧ k ≤ 1000 ∧ a.length ≤ 1000 then some (.tup (List.replicate k.toNat a).flatten) else none
  | _, _, _ => none
def isNon : D → Bool
  | .non => true
  | _ => false
def augD (op : Bop) (x y : D) : Option D := match x, y with
  | .int i, .int j => if op = .pow then none else binD op (.int i) (.int j)
  | _, _ => none
def keyD : D → Option Key
  | .int i => some (.inl i)
  | .str x => some (.inr x)
  | _ => none
def keysD : D → Option (List Key)
  | .tup ds => ds.mapM keyD
  | _ => none
section
variable {κ : Type} [DecidableEq κ]
def getKd (kvs : List (κ × D)) (k : κ) : Option D := (kvs.find? fun kv => decide (kv.1 = k)).map (·.2)
def putKd (kvs : List (κ × D)) (k : κ) (v : D) : List (κ × D) :=
  if (kvs.any fun kv => decide (kv.1 = k)) = true then kvs.map (fun kv => if kv.1 = k then (kv.1, v) else kv) else kvs ++ [(k, v)]
def mergeKd (kvs : List (κ × D)) : List (κ × D) := kvs.foldl (fun acc kv => putKd acc kv.1 kv.2) []
end
def inD (μ : Mem) (x y : D) : Option Bool := match y with
  | .str z => match x with
    | .str w => some (!(Builtin.Str.occurrences z w 0 z.length 1).isEmpty)
    | _ => none
  | .tup ys => (flat x).bind fun v => (ys.mapM flat).map fun vs => inV v vs
  | .ref n => match μ[n]? with
    | some (.dk kvs) => (keyD x).map fun k => (getKd kvs k).isSome
    | some (.dt kvs) => (keysD x).map fun k => (getKd kvs k).isSome
    | some (.lst ys) => inL μ x ys
    | _ => none
  | .lst ys => inL μ x ys
  | _ => none
where
  /-- in a list of data -/
  inL (μ : Mem) (x : D) (ys : List D) : Option Bool := (pyR μ x).bind fun p => (pyAll ys).bind fun qs => if SeqAt.shaped p && SeqAt.shaped (.list qs) then some (qs.any fun z => PyData.eqv z p) else none
def cmpD (μ : Mem) (op : Cop) (x y : D) : Option Bool := match op with
  | .eq => eqD μ x y
  | .ne => (eqD μ x y).map (!·)
  | .isN => match y with | .non => some (isNon x) | _ => none
  | .notN => match y with | .non => some (!isNon x) | _ => none
  | .lt => match x, y with
    | .int i, .int j => some (decide (i < j))
    | .str i, .str j => some (decide (i.cps.toList < j.cps.toList))
    | _, _ => none
  | .le => match x, y with | .int i, .int j => some (decide (i ≤ j)) | _, _ => none
  | .gt => match x, y with | .int i, .int j => some (decide (j < i)) | _, _ => none
  | .ge => match x, y with | .int i, .int j => some (decide (j ≤ i)) | _, _ => none
  | .isIn => inD μ x y
  | .notIn => (inD μ x y).map (!·)
def tyN (μ : Mem) : D → Option String
  | .non => some "NoneType"
  | .bl _ => some "bool"
  | .int _ => some "int"
  | .str _ => some "str"
  | .tup _ => some "tuple"
  | .lst _ => some "list"
  | .ref n => match μ[n]? with
    | some (.lst _) => some "list"
    | some (.dk _) => some "dict"
    | some (.dt _) => some "dict"
    | _ => none
  | _ => none
def Ty.nm : Ty → String
  | .int => "int" | .bool => "bool" | .str => "str" | .tuple => "tuple" | .list => "list" | .dict => "dict" | .own _ => ""
def isiD (μ : Mem) (d : D) (t : Ty) : Option Bool := match t with
  | .own c => match d with
    | .exc e _ => some (decide (e = c))
    | _ => none
  | t => (tyN μ d).map fun n => n == t.nm || (n == "bool" && t.nm == "int")
def isoD (sub : Nat → Nat → Bool) : D → Nat → Option D
  | .exc e _, c => some (.bl (sub e c))
  | _, _ => none
def intsD (ds : List D) : Option (List Int) := ds.mapM fun | .int i => some i | _ => none
def boolsD (ds : List D) : Option (List Bool) := ds.mapM fun | .bl b => some b | _ => none
def sortI (l : List Int) : List Int := l.mergeSort (fun a b => decide (a ≤ b))
def bltD (μ : Mem) (b : Blt) (xs : List D) : Option D := match b, xs with
  | .len, [.str x] => if x.length ≤ sizeLine then some (.int x.length) else none
  | .len, [d] => match d with
    | .ref n => match μ[n]? with
      | some (.lst ds) => some (.int ds.length)
      | some (.dk ds) => some (.int ds.length)
      | _ => none
    | d => (seqA μ d).map fun ds => .int ds.length
  | .abs, [.int i] => some (.int (if i < 0 then -i else i))
  | .min2, [.int i, .int j] => some (.int (if j < i then j else i))
  | .max2, [.int i, .int j] => some (.int (if j > i then j else i))
  | .sum, [d] => (seqL μ d).bind fun ds => (intsD ds).map fun ns => .int ns.sum
  | .all, [d] => (seqL μ d).bind fun ds => (boolsD ds).map fun bs => .bl (bs.all id)
  | .any, [d] => (seqL μ d).bind fun ds => (boolsD ds).map fun bs => .bl (bs.any id)
  | .int, [.int i] => some (.int i)
  | .int, [.bl k] => some (.int (if k then 1 else 0))
  | .tuple, [d] => (seqA μ d).map .tup
  | .list, [d] => (seqA μ d).map .lst
  | .sorted, [d] => (seqL μ d).bind fun ds => (intsD ds).bind fun ns => if ns.length < 64 then some (.lst ((sortI ns).map .int)) else none
  | _, _ => none
def cutD {α : Type} (xs : List α) (lo hi : Option Int) : List α := (xs.drop (HT.sIx xs.length 0 lo)).take (HT.sIx xs.length xs.length hi - HT.sIx xs.length 0 lo)
def slcD (μ : Mem) (d : D) (lo hi : Option Int) : Option D := match d with
  | .tup ds => some (.tup (cutD ds lo hi))
  | .str _ => none
  | d => (seqL μ d).map fun ds => .lst (cutD ds lo hi)
def revD (μ : Mem) (d : D) : Option D := match d with
  | .tup ds => some (.tup ds.reverse)
  | d => (seqL μ d).map fun ds => .lst ds.reverse
def idxD (μ : Mem) (d : D) (i : D) : Option D := match d with
  | .str x => match i with
    | .int i => if x.length ≤ sizeLine then (atI x.cps.toList i).map fun c => .str ⟨#[c]⟩ else none
    | _ => none
  | .tup ds => match i with
    | .int i => atI ds i
    | _ => none
  | .lst ds => match i with
    | .int i => atI ds i
    | _ => none
  | .ref n => match μ[n]? with
    | some (.lst ds) => match i with
      | .int i => atI ds i
      | _ => none
    | some (.dk kvs) => (keyD i).bind fun k => getKd kvs k
    | some (.dt kvs) => (keysD i).bind fun k => getKd kvs k
    | _ => none
  | _ => none
def setIxD (μ : Mem) (d : D) (i : D) (v : D) : Option Mem := match d, i with
  | .ref n, .int i => match μ[n]? with
    | some (.lst ds) => (ixN ds.length i).map fun j => μ.set n (.lst (ds.set j v))
    | some (.dk kvs) => if kvs.length < 1000 then some (μ.set n (.dk (putKd kvs (.inl i) v))) else none
    | _ => none
  | .ref n, i => match μ[n]? with
    | some (.dk kvs) => (keyD i).bind fun k => if kvs.length < 1000 then some (μ.set n (.dk (putKd kvs k v))) else none
    | some (.dt kvs) => (keysD i).bind fun k => if kvs.length < 100000 then some (μ.set n (.dt (putKd kvs k v))) else none
    | _ => none
  | _, _ => none
def appD (μ : Mem) (d : D) (v : D) : Option Mem := match d with
  | .ref n => match μ[n]? with
    | some (.lst ds) => if ds.length < sizeLine then some (μ.set n (.lst (ds ++ [v]))) else none
    | _ => none
  | _ => none
def lstAt (μ : Mem) : D → Bool
  | .ref n => match μ[n]? with
    | some (.lst _) => true
    | _ => false
  | _ => false
def asB {α : Type} (d : D) (k : Bool → Option α) : Option α := match d with
  | .bl b => k b
  | _ => none
def asI {α : Type} (d : D) (k : Int → Option α) : Option α := match d with
  | .int i => k i
  | _ => none
@[simp] theorem asB_bl {α : Type} (b : Bool) (k : Bool → Option α) : asB (.bl b) k = k b := rfl
@[simp] theorem asI_int {α : Type} (i : Int) (k : Int → Option α) : asI (.int i) k = k i := rfl
def asgTg (tg : Tg) (d : D) (sl : Sl) : Option Sl := match tg with
  | .nm i => some (sl.set i (some d))
  | .tup is => match d with
    | .tup ds => if ds.length = is.length then some ((is.zip ds).foldl (fun s p => s.set p.1 (some p.2)) sl) else none
    | _ => none
def Tg.slots : Tg → List Nat
  | .nm i => [i]
  | .tup is => is
def rangeD (lo hi : Int) : Option (List D) := if -(2 ^ 62) ≤ lo ∧ lo < 2 ^ 62 ∧ -(2 ^ 62) ≤ hi ∧ hi < 2 ^ 62 then some ((List.range (hi - lo).toNat).map fun (i : Nat) => .int (lo + (i : Int))) else none
def enumD (ds : List D) : List D := (List.range ds.length).zipWith (fun i d => .tup [.int (i : Nat), d]) ds
def zipD (xs ys : List D) : List D := xs.zipWith (fun a b => .tup [a, b]) ys
def fldD (ns : List Str) (c : Nat) (f : Str) : D → Option D
  | .exc e fs => if e = c then (ns.zip fs).lookup f else none
  | _ => none
def itD : D → Option (List D)
  | .tup ds => some ds
  | .kls ds => some ds
  | .lst ds => some ds
  | _ => none
def zipD2 : D → D → Option (List D)
  | .tup xs, .tup ys => some (zipD xs ys)
  | .lst xs, .lst ys => some (zipD xs ys)
  | _, _ => none
def goL (step : D → List D → Mem → Option (List D × Mem)) : List D → List D → Mem → Option (List D × Mem)
  | [], acc, μ => some (acc, μ)
  | x :: xs, acc, μ => match step x acc μ with
    | some (acc1, μ1) => goL step xs acc1 μ1
    | none => none
def elS (test : Mem → Option (R Bool)) (elt : Mem → Option (R D)) (acc : List D) (μ : Mem) : Option (List D × Mem) := match test μ with
  | some (.ok true μ1) => match elt μ1 with
    | some (.ok d μ2) => if acc.length < sizeLine then some (acc ++ [d], μ2) else none
    | _ => none
  | some (.ok false μ1) => some (acc, μ1)
  | _ => none
def okL (r : Option (List D × Mem)) : Option (R (List D)) := match r with
  | some (ds, μ) => some (.ok ds μ)
  | none => none
@[simp] theorem okL_some (p : List D × Mem) : okL (some p) = some (.ok p.1 p.2) := rfl
def okT (r : Option (R Bool)) (yes no : Mem → Option (List D × Mem)) : Option (List D × Mem) := match r with
  | some (.ok true μ) => yes μ
  | some (.ok false μ) => no μ
  | _ => none
def okI (r : Option (R (List D))) (k : List D → Mem → Option (List D × Mem)) : Option (List D × Mem) := match r with
  | some (.ok ys μ) => k ys μ
  | _ => none
def wipeS (sl : Sl) : List Nat → Sl
  | [] => sl
  | v :: vs => (wipeS sl vs).set v none

mutual
def evE (γ : Gam) : E → Sl → Mem → Option (R D)
  | .var i, sl, μ => match sl[i]? with
    | some (some d) => some (.ok d μ)
    | _ => none
  | .non, _, μ => some (.ok .non μ)
  | .bl b, _, μ => some (.ok (.bl b) μ)
  | .int i, _, μ => some (.ok (.int i) μ)
  | .str x, _, μ => some (.ok (.str x) μ)
  | .glb k, _, μ => pureR (γ.cst k) μ
  | .bin op a b, sl, μ => R.bind (evE γ a sl μ) fun x μ1 => R.bind (evE γ b sl μ1) fun y μ2 => pureR (binD op x y) μ2
  | .neg a, sl, μ => R.bind (evE γ a sl μ) fun x μ1 => asI x fun i => some (.ok (.int (-i)) μ1)
  | .cmp op a b, sl, μ => R.bind (evE γ a sl μ) fun x μ1 => R.bind (evE γ b sl μ1) fun y μ2 => pureR ((cmpD μ2 op x y).map .bl) μ2
  | .chain op op2 a b c, sl, μ => R.bind (evE γ a sl μ) fun x μ1 => R.bind (evE γ b sl μ1) fun y μ2 => R.bind (pureR (cmpD μ2 op x y) μ2) fun k μ2 =>
      if k then R.bind (evE γ c sl μ2) fun z μ3 => pureR ((cmpD μ3 op2 y z).map .bl) μ3 else some (.ok (.bl false) μ2)
  | .and a b, sl, μ => R.bind (evE γ a sl μ) fun x μ1 => asB x fun k => if k then evE γ b sl μ1 else some (.ok (.bl false) μ1)
  | .or a b, sl, μ => R.bind (evE γ a sl μ) fun x μ1 => asB x fun k => if k then some (.ok (.bl true) μ1) else evE γ b sl μ1
  | .one a, sl, μ => evE γ a sl μ
  | .not a, sl, μ => R.bind (evE γ a sl μ) fun x μ1 => asB x fun k => some (.ok (.bl (!k)) μ1)
  | .ifx c a b, sl, μ => R.bind (evE γ c sl μ) fun x μ1 => asB x fun k => if k then evE γ a sl μ1 else evE γ b sl μ1
  | .tup es, sl, μ => R.bind (evEs γ es sl μ) fun xs μ1 => if xs.length ≤ sizeLine then some (.ok (.tup xs) μ1) else none
  | .call k es, sl, μ => R.bind (evEs γ es sl μ) fun xs μ1 => γ.fn k xs μ1
  | .blt b es, sl, μ => R.bind (evEs γ es sl μ) fun xs μ1 => pureR (bltD μ1 b xs) μ1
  | .isi a t, sl, μ => R.bind (evE γ a sl μ) fun x μ1 => pureR ((isiD μ1 x t).map .bl) μ1
  | .isiO a c, sl, μ => R.bind (evE γ a sl μ) fun x μ1 => pureR (isoD γ.sub x c) μ1
  | .idx a b, sl, μ => R.bind (evE γ a sl μ) fun x μ1 => R.bind (evE γ b sl μ1) fun y μ2 => pureR (idxD μ2 x y) μ2
  | .slc a lo hi, sl, μ => R.bind (evE γ a sl μ) fun x μ1 => R.bind (evEo γ lo sl μ1) fun l μ2 => R.bind (evEo γ hi sl μ2) fun h μ3 => pureR (slcD μ3 x l h) μ3
  | .rev a, sl, μ => R.bind (evE γ a sl μ) fun x μ1 => pureR (revD μ1 x) μ1
  | .val l, sl, μ => R.bind (evL γ l sl μ) fun ds μ1 => some (.ok (.lst ds) μ1)
  | .mk l, sl, μ => R.bind (evL γ l sl μ) fun ds μ1 => some (.ok (.ref μ1.length) (μ1 ++ [.lst ds]))
  | .dict ks, sl, μ => R.bind (evKs γ ks sl μ) fun kvs μ1 => if kvs.length ≤ 15 then some (.ok (.ref μ1.length) (μ1 ++ [.dk (mergeKd kvs)])) else none
  | .dnew t, _, μ => some (.ok (.ref μ.length) (μ ++ [if t then .dt [] else .dk []]))
  | .thunk, _, μ => γ.thunk μ
  | .told k a, sl, μ => (γ.told k (evE γ a sl) μ).map fun p => R.ok p.1 p.2
  | .fld a c f, sl, μ => R.bind (evE γ a sl μ) fun x μ1 => pureR (fldD (γ.flds c) c f x) μ1
def evEs (γ : Gam) : Es → Sl → Mem → Option (R (List D))
  | .nil, _, μ => some (.ok [] μ)
  | .cons e es, sl, μ => R.bind (evE γ e sl μ) fun x μ1 => R.bind (evEs γ es sl μ1) fun xs μ2 => some (.ok (x :: xs) μ2)
def evEo (γ : Gam) : Eo → Sl → Mem → Option (R (Option Int))
  | .no, _, μ => some (.ok none μ)
  | .some e, sl, μ => R.bind (evE γ e sl μ) fun x μ1 => asI x fun i => some (.ok (some i) μ1)
def evKs (γ : Gam) : Ks → Sl → Mem → Option (R (List (Key × D)))
  | .nil, _, μ => some (.ok [] μ)
  | .cons k e ks, sl, μ => R.bind (evE γ e sl μ) fun x μ1 => R.bind (evKs γ ks sl μ1) fun xs μ2 => some (.ok ((k, x) :: xs) μ2)
def evL (γ : Gam) : Ls → Sl → Mem → Option (R (List D))
  | .disp es, sl, μ => R.bind (evEs γ es sl μ) fun xs μ1 => if xs.length ≤ sizeLine then some (.ok xs μ1) else none
  | .comp elt tg it c, sl, μ => R.bind (evI γ it sl μ) fun xs μ1 => okL (goL (fun x acc μ2 => (asgTg tg x (wipeS sl tg.slots)).bind fun sl2 => elS (evT γ c sl2) (evE γ elt sl2) acc μ2) xs [] μ1)
  | .comp2 elt tg it c tg1 it1 c1, sl, μ => R.bind (evI γ it sl μ) fun xs μ1 => okL (goL (fun x acc μ2 => (asgTg tg x (wipeS sl (tg.slots ++ tg1.slots))).bind fun sl2 =>
      okT (evT γ c sl2 μ2) (fun μ3 => okI (evI γ it1 sl2 μ3) fun ys μ4 => goL (fun y acc μ5 => (asgTg tg1 y (wipeS sl2 tg1.slots)).bind fun sl3 => elS (evT γ c1 sl3) (evE γ elt sl3) acc μ5) ys acc μ4) (fun μ3 => some (acc, μ3))) xs [] μ1)
  | .cat a b, sl, μ => R.bind (evE γ a sl μ) fun x μ1 => R.bind (evE γ b sl μ1) fun y μ2 => pureR ((seqC μ2 x).bind fun xs => (seqC μ2 y).bind fun ys => if xs.length + ys.length ≤ sizeLine then some (xs ++ ys) else none) μ2
def evT (γ : Gam) : Eo → Sl → Mem → Option (R Bool)
  | .no, _, μ => some (.ok true μ)
  | .some e, sl, μ => R.bind (evE γ e sl μ) fun x μ1 => asB x fun k => some (.ok k μ1)
def evI (γ : Gam) : It' → Sl → Mem → Option (R (List D))
  | .seq a, sl, μ => R.bind (evE γ a sl μ) fun x μ1 => pureR (itD x) μ1
  | .range a b, sl, μ => R.bind (evEo γ a sl μ) fun l μ1 => R.bind (evEo γ b sl μ1) fun h μ2 => pureR (h.bind fun h => rangeD (l.getD 0) h) μ2
  | .enum a, sl, μ => R.bind (evE γ a sl μ) fun x μ1 => pureR ((itD x).map enumD) μ1
  | .zip a b _, sl, μ => R.bind (evE γ a sl μ) fun x μ1 => R.bind (evE γ b sl μ1) fun y μ2 => pureR (zipD2 x y) μ2
end

def onE (r : Option (R D)) (sl : Sl) (k : D → Mem → Option O) : Option O := match r with
  | some (.ok d μ) => k d μ
  | some (.ex x μ) => some (.ex x sl μ)
  | none => none
@[simp] theorem onE_ok (d : D) (μ : Mem) (sl : Sl) (k : D → Mem → Option O) : onE (some (.ok d μ)) sl k = k d μ := rfl
@[simp] theorem onE_ex (x : D) (μ : Mem) (sl : Sl) (k : D → Mem → Option O) : onE (some (.ex x μ)) sl k = some (.ex x sl μ) := rfl
@[simp] theorem onE_none (sl : Sl) (k : D → Mem → Option O) : onE none sl k = none := rfl
def onL (r : Option (R (List D))) (sl : Sl) (k : List D → Mem → Option O) : Option O := match r with
  | some (.ok d μ) => k d μ
  | some (.ex x μ) => some (.ex x sl μ)
  | none => none
@[simp] theorem onL_ok (d : List D) (μ : Mem) (sl : Sl) (k : List D → Mem → Option O) : onL (some (.ok d μ)) sl k = k d μ := rfl
@[simp] theorem onL_ex (x : D) (μ : Mem) (sl : Sl) (k : List D → Mem → Option O) : onL (some (.ex x μ)) sl k = some (.ex x sl μ) := rfl
@[simp] theorem onL_none (sl : Sl) (k : List D → Mem → Option O) : onL none sl k = none := rfl
def keepX (sub : Nat → Nat → Bool) (c i j : Nat) : Option O → Option O
  | some (.ex (.exc e fs) sl1 μ1) => if sub e c then if i < sl1.length then some (.nx (((sl1.set i (some (.exc e fs))).set j (some (.exc e fs))).set i none) μ1) else none else some (.ex (.exc e fs) sl1 μ1)
  | some (.ex _ _ _) => none
  | o => o
def forGo (f : D → Sl → Mem → Option O) : List D → Sl → Mem → Option O
  | [], sl, μ => some (.nx sl μ)
  | x :: xs, sl, μ => match f x sl μ with
    | some (.nx sl1 μ1) => forGo f xs sl1 μ1
    | some (.ct sl1 μ1) => forGo f xs sl1 μ1
    | some (.bk sl1 μ1) => some (.nx sl1 μ1)
    | some (.rt d μ1) => some (.rt d μ1)
    | some (.ex e sl1 μ1) => some (.ex e sl1 μ1)
    | none => none
def whGo (c : Sl → Mem → Option (R D)) (f : Sl → Mem → Option O) : Nat → Sl → Mem → Option O
  | 0, _, _ => none
  | n + 1, sl, μ => onE (c sl μ) sl fun d μ1 => asB d fun k => if k then (match f sl μ1 with
      | some (.nx sl1 μ2) => whGo c f n sl1 μ2
      | some (.ct sl1 μ2) => whGo c f n sl1 μ2
      | some (.bk sl1 μ2) => some (.nx sl1 μ2)
      | some (.rt d μ2) => some (.rt d μ2)
      | some (.ex e sl1 μ2) => some (.ex e sl1 μ2)
      | none => none) else some (.nx sl μ1)
mutual
def evS (γ : Gam) (F : Nat) : S → Sl → Mem → Option O
  | .expr e, sl, μ => onE (evE γ e sl μ) sl fun _ μ1 => some (.nx sl μ1)
  | .set i e, sl, μ => onE (evE γ e sl μ) sl fun d μ1 => some (.nx (sl.set i (some d)) μ1)
  | .par i j a b, sl, μ => onE (evE γ a sl μ) sl fun x μ1 => onE (evE γ b sl μ1) sl fun y μ2 => some (.nx ((sl.set i (some x)).set j (some y)) μ2)
  | .aug op i e, sl, μ => match sl[i]? with
    | some (some x) => onE (evE γ e sl μ) sl fun y μ1 => match augD op x y with
      | some z => some (.nx (sl.set i (some z)) μ1)
      | none => none
    | _ => none
  | .setIx a b e, sl, μ => onE (evE γ e sl μ) sl fun v μ1 => onE (evE γ a sl μ1) sl fun x μ2 => onE (evE γ b sl μ2) sl fun y μ3 => (setIxD μ3 x y v).bind fun μ4 => some (.nx sl μ4)
  | .app a e, sl, μ => onE (evE γ a sl μ) sl fun x μ1 => if lstAt μ1 x then onE (evE γ e sl μ1) sl fun v μ2 => (appD μ2 x v).bind fun μ3 => some (.nx sl μ3) else none
  | .par3 i j l a b c, sl, μ => onE (evE γ a sl μ) sl fun x μ1 => onE (evE γ b sl μ1) sl fun y μ2 => onE (evE γ c sl μ2) sl fun z μ3 => some (.nx (((sl.set i (some x)).set j (some y)).set l (some z)) μ3)
  | .unp is e, sl, μ => onE (evE γ e sl μ) sl fun d μ1 => (asgTg (.tup is) d sl).bind fun sl1 => some (.nx sl1 μ1)
  | .ret e, sl, μ => onE (evE γ e sl μ) sl fun d μ1 => some (.rt d μ1)
  | .retN, _, μ => some (.rt .non μ)
  | .pass, sl, μ => some (.nx sl μ)
  | .brk, sl, μ => some (.bk sl μ)
  | .cont, sl, μ => some (.ct sl μ)
  | .ite c a b, sl, μ => onE (evE γ c sl μ) sl fun d μ1 => asB d fun k => if k then evSs γ F a sl μ1 else evSs γ F b sl μ1
  | .for_ tg it b, sl, μ => onL (evI γ it sl μ) sl fun xs μ1 => forGo (fun x sl1 μ2 => (asgTg tg x sl1).bind fun sl2 => evSs γ F b sl2 μ2) xs sl μ1
  | .whl c b, sl, μ => whGo (evE γ c) (evSs γ F b) F sl μ
  | .raise c es dd, sl, μ => onL (evEs γ es sl μ) sl fun xs μ1 => if (xs ++ dd).length = (γ.flds c).length then some (.ex (.exc c (xs ++ dd)) sl μ1) else none
  | .tryAs b c i j, sl, μ => keepX γ.sub c i j (evSs γ F b sl μ)
def evSs (γ : Gam) (F : Nat) : Ss → Sl → Mem → Option O
  | .nil, sl, μ => some (.nx sl μ)
  | .cons s ss, sl, μ => match evS γ F s sl μ with
    | some (.nx sl1 μ1) => evSs γ F ss sl1 μ1
    | o => o
end
end Mn
end
section
namespace Mn
open PySem PySem.Spec PyProof.Rows L2
open AutoSeq1 (wpAny_loadPart')

theorem tup_add_nil (l b : Addr) (items items2 : Array Value) (n n2 : Nat) (dd dd2 : Option Addr) (sl sl2 : Array (Option Value)) (h0 : items.isEmpty = true) :
    Meets (Builtin.«tuple.__add__» ⟨[.ref l, .ref b], []⟩) (fun _ R s => s.heap.get? l = some { cls := .type "tuple", dict := dd, data := .seq items n, slots := sl } ∧
      s.heap.get? b = some { cls := .type "tuple", dict := dd2, data := .seq items2 n2, slots := sl2 } ∧ R (.ok (.ret (Value.ref b))) s) :=
  .of_wp fun prog w A R s h => by
    obtain ⟨hp, g, d, tk, os⟩ := s
    obtain ⟨hl, hb, h⟩ := h
    have q1 := AutoSeq1.idx_int
    have q2 := AutoSeq1.sub_tuple_tuple
    wp_walk using wpAny_loadPart' hl, wpAny_loadPart' hb
    exact ⟨_, rfl, h⟩
def rCat0 (K : Frg) : R2 := fun x y H Q => ∃ (a b : Addr) (ys : List V), x = .ref a ∧ y = .ref b ∧ SqT K H a [] ∧ SqT K H b ys ∧ Q (.ref b) H
theorem op_cat0 {X : Cx} : OpR X (binaryOp .Add) (rCat0 X.K) := by
  intro pins s σ H x y v u Q I rx ry h
  obtain ⟨a, b, ys, rfl, rfl, ha, hb, q⟩ := h
  cases rx
  cases ry
  obtain ⟨its, r1, ⟨⟨c1, d1, t1, l1⟩, ho, hc, n, hd⟩, _⟩ := I.tuple ha
  obtain ⟨its2, r2, ⟨⟨c2, d2, t2, l2⟩, ho2, hc2, n2, hd2⟩, _⟩ := I.tuple hb
  cases r1
  simp only at hc hd hc2 hd2
  subst hc hd hc2 hd2
  exact concat_meets ⟨_, ho, rfl⟩ ⟨_, ho2, rfl⟩ noFill_tuple_add seq_tuple_add PySem.F.slot_tuple_add PySem.F.entry_tuple_add (PySem.F.args_tuple_add_2 _ _)
    (tup_add_nil a b _ _ n n2 _ _ _ _ rfl) ⟨ho, ho2, ⟨.ref b, H, I, rfl, q⟩⟩

theorem getItem_tuple_whole {prog : Program} {w : World} {A : Around} {E : Value → Shared → Prop} {s : Shared} {t sl : Addr} {items : Array Value} {vl vu : Value} {lo hi : Option Int} {Q : Value → Shared → Prop}
    (ht : IsTup s.heap t items) (hs : s.heap.IsSliceOf sl vl vu .none) (pl : IsPart vl lo) (pu : IsPart vu hi)
    (h0 : HT.sIx items.size 0 lo = 0) (h1 : HT.sIx items.size items.size hi = items.size) (h : Q (.ref t) s) : wpAny (model prog w) A (getItem (.ref t) (.ref sl)) Q E s := by
  obtain ⟨os, hos, hcs, hds⟩ := id hs
  have hTs : s.TypeIs (.ref sl) "slice" := ⟨os, hos, hcs⟩
  unfold getItem
  try with_reducible refine wpAny_holding ?_
  first | refine wpAny_bind (wpAny_pure ?_) | skip
  refine wpAny_bind (wpAny_sequenceKey ht.typeIs (by decide) ?_)
  refine wpAny_bind (wpAny_callSpecial?_slot (name := Str.ofString "__getitem__") ht.typeIs PyProof.Rows.slot_tuple_getitem
    (wpAny_call_entry PyProof.Rows.slot_tuple_getitem ht.typeIs entry_tuple_getitem ?_ (args_tuple_getitem _ _)))
  show wpAny _ _ (Builtin.Tuple.tupleItemsOf (.ref t) >>= _) _ _ s
  refine wpAny_bind (tupleItemsOf_ ht ?_)
  refine wpAny_bind (wpAny_typeOf hTs ?_)
  rw [if_pos (by decide)]
  refine wpAny_bind (HT.sliceApplied_gen hs pl pu ?_)
  have hyes : ((((HT.sIx items.size 0 lo : Nat) : Int) == 0 && (1 : Int) == 1 && (HT.sIx items.size items.size hi - HT.sIx items.size 0 lo) == items.size) = true) := by
    rw [h0, h1]; simp
  show wpAny _ _ (if (((HT.sIx items.size 0 lo : Nat) : Int) == 0 && (1 : Int) == 1 && (HT.sIx items.size items.size hi - HT.sIx items.size 0 lo) == items.size) = true then _ else _) _ _ s
  rw [if_pos hyes]
  obtain ⟨⟨c, dd, dt, ss⟩, ho, hc, n, hd⟩ := id ht
  simp only at hc hd
  subst hc hd
  have ex : ∀ {A : Around} {E : Value → Shared → Prop} {Q : Bool → Shared → Prop}, Q true s → wpAny (model prog w) A (Builtin.Tuple.tupleIsExact (.ref t)) Q E s := fun q => by
    obtain ⟨hp, g, d, tk, os⟩ := s
    unfold Builtin.Tuple.tupleIsExact
    wp_walk using wpAny_loadPart' ho
    exact q
  first
    | (refine wpAny_bind (ex ?_); wp_walk; exact ⟨_, rfl, wpAny_pure h⟩)
    | (refine wpAny_bind (ex ?_); wp_walk; exact ⟨_, rfl, h⟩)
def rSlT2 (K : Frg) : V → Option Int → Option Int → Hp → VK → Prop := fun x lo hi H Q => ∃ a xs, x = .ref a ∧ SqT K H a xs ∧
  ((cutV xs lo hi = xs ∧ HT.sIx xs.length 0 lo = 0 ∧ HT.sIx xs.length xs.length hi = xs.length ∧ Q (.ref a) H) ∨
   (¬ (HT.sIx xs.length 0 lo = 0 ∧ HT.sIx xs.length xs.length hi = xs.length) ∧ ∀ p, H p = none → Q (.ref p) (upd H p (.tup (cutV xs lo hi)))))
theorem sl_tup2 {X : Cx} : SlR X (rSlT2 X.K) := by
  intro pins s σ H x v vl vu lo hi sl Q I rx hs pl pu h
  obtain ⟨a, xs, rfl, hx, hq⟩ := h
  rcases hq with ⟨_, h0, h1, q⟩ | ⟨hn, q⟩
  · cases rx
    obtain ⟨its, r, ht, hz⟩ := I.tuple hx
    have hlen : its.toArray.size = xs.length := by rw [List.size_toArray]; exact r.length.symm
    refine ⟨"tuple", _, PyProof.Rows.slot_tuple_getitem.lookup, ht.typeIs, ?_⟩
    exact getItem_tuple_whole ht hs pl pu (by rw [hlen]; exact h0) (by rw [hlen]; exact h1) ⟨.ref a, H, I, rfl, q⟩
  · exact sl_tup pins s σ H _ v vl vu lo hi sl Q I rx hs pl pu ⟨a, xs, rfl, hx, hn, q⟩

theorem fmap_congr {α β : Type} {f h : α → Option β} : ∀ {l : List α}, (∀ x ∈ l, f x = h x) → l.filterMap f = l.filterMap h
  | [], _ => rfl
  | x :: l, e => by
    rw [List.filterMap_cons, List.filterMap_cons, e x List.mem_cons_self, fmap_congr fun y hy => e y (List.mem_cons_of_mem _ hy)]
theorem adj_back (n : Nat) : Builtin.Slice.sliceAdjust none none (-1) (n : Int) = ((n : Int) - 1, -1) := by
  simp [Builtin.Slice.sliceAdjust]
theorem places_back (n : Nat) : Builtin.Slice.slicePlaces ((n : Int) - 1) (-1) (-1) = n := by
  unfold Builtin.Slice.slicePlaces
  simp only [show ¬ ((-1 : Int) > 0) by decide, if_false]
  split
  · rw [show (-(-1 : Int)) = 1 by decide, Int.ediv_one]; omega
  · omega
theorem pick_back (xs : Array Value) : ((List.range xs.size).filterMap fun (m : Nat) => xs[((xs.size : Int) - 1 + (m : Int) * (-1)).toNat]?).toArray = xs.toList.reverse.toArray := by
  have e : (List.range xs.size).filterMap (fun (m : Nat) => xs[((xs.size : Int) - 1 + (m : Int) * (-1)).toNat]?) = ((List.range xs.size).map fun k => xs.size - 1 - k).filterMap (xs[·]?) := by
    rw [List.filterMap_map]
    refine fmap_congr fun m hm => ?_
    have hm := List.mem_range.mp hm
    have : ((xs.size : Int) - 1 + (m : Int) * (-1)).toNat = xs.size - 1 - m := by omega
    show xs[((xs.size : Int) - 1 + (m : Int) * (-1)).toNat]? = xs[xs.size - 1 - m]?
    rw [this]
  rw [e, PySem.W.krv_range, List.filterMap_reverse, PySem.W.krv_all]
theorem applied_back {prog : Program} {w : World} {A : Around} {E : Value → Shared → Prop} {s : Shared} {z : Addr} {u1 u2 u3 : Value} {n : Nat} {Q : Int × Int × Nat → Shared → Prop} (hz : s.heap.IsSliceOf z u1 u2 u3) (p1 : IsPart u1 none) (p2 : IsPart u2 none) (p3 : IsPart u3 (some (-1)))
    (h : Q ((n : Int) - 1, -1, n) s) : wpAny (model prog w) A (Builtin.Slice.sliceApplied (.ref z) (pure (n : Int))) Q E s := by
  obtain ⟨o, ho, hc, hd⟩ := id hz
  unfold Builtin.Slice.sliceApplied Builtin.Slice.sliceFields
  refine wpAny_bind (wpAny_bind (wpAny_field ho hd (x := u1) rfl (wpAny_bind (wpAny_field ho hd (x := u2) rfl (wpAny_bind (wpAny_field ho hd (x := u3) rfl (wpAny_pure ?_)))))))
  refine wpAny_bind (HT.slicePart_ p3 ?_)
  show wpAny _ _ (if ((-1 : Int) == 0) = true then _ else _) _ _ s
  rw [if_neg (by decide)]
  refine wpAny_bind (HT.slicePart_ p1 (wpAny_bind (HT.slicePart_ p2 (wpAny_bind (wpAny_pure ?_)))))
  show wpAny _ _ (match Builtin.Slice.sliceAdjust none none (-1) (n : Int) with | (a, b) => pure (a, (-1 : Int), Builtin.Slice.slicePlaces a b (-1))) _ _ s
  rw [adj_back]
  show wpAny _ _ (pure ((n : Int) - 1, (-1 : Int), Builtin.Slice.slicePlaces ((n : Int) - 1) (-1) (-1))) _ _ s
  rw [places_back]
  exact wpAny_pure h
theorem get_tuple_back {prog : Program} {w : World} {A : Around} {E : Value → Shared → Prop} {s : Shared} {t z : Addr} {xs : Array Value} {u1 u2 u3 : Value} {Q : Value → Shared → Prop}
    (ht : IsTup s.heap t xs) (hz : s.heap.IsSliceOf z u1 u2 u3) (p1 : IsPart u1 none) (p2 : IsPart u2 none) (p3 : IsPart u3 (some (-1)))
    (h : Q (.ref s.heap.objs.size) { s with heap := s.heap.push { cls := .type "tuple", data := .seq xs.toList.reverse.toArray } }) (hs : xs.size ≤ sizeLine) : wpAny (model prog w) A (getItem (.ref t) (.ref z)) Q E s := by
  have hfit : sizeOk (.seq xs.toList.reverse.toArray) := by
    show xs.toList.reverse.toArray.size ≤ sizeLine
    rw [List.size_toArray, List.length_reverse, Array.length_toList]; exact hs
  obtain ⟨o, ho, hc, hd⟩ := id hz
  have hT : s.TypeIs (.ref z) "slice" := ⟨o, ho, hc⟩
  unfold getItem
  try with_reducible refine wpAny_holding ?_
  first | refine wpAny_bind (wpAny_pure ?_) | skip
  refine wpAny_bind (wpAny_sequenceKey ht.typeIs (by decide) ?_)
  refine wpAny_bind (wpAny_callSpecial?_slot (name := Str.ofString "__getitem__") ht.typeIs PyProof.Rows.slot_tuple_getitem
    (wpAny_call_entry PyProof.Rows.slot_tuple_getitem ht.typeIs entry_tuple_getitem ?_ (args_tuple_getitem _ _)))
  show wpAny _ _ (Builtin.Tuple.tupleItemsOf (.ref t) >>= _) _ _ s
  refine wpAny_bind (tupleItemsOf_ ht (wpAny_bind (wpAny_typeOf hT ?_)))
  rw [if_pos (by decide)]
  refine wpAny_bind (applied_back hz p1 p2 p3 ?_)
  have hno : ¬ ((((xs.size : Int) - 1) == 0 && (-1 : Int) == 1 && xs.size == xs.size) = true) := by simp
  show wpAny _ _ (if (((xs.size : Int) - 1) == 0 && (-1 : Int) == 1 && xs.size == xs.size) = true then _ else _) _ _ s
  rw [if_neg hno, pick_back]
  first
    | exact wpAny_bind (m := Builtin.Tuple.tupleExact _) (wpAny_newObj_type (wpAny_pure ⟨_, rfl, wpAny_pure h⟩) hfit)
    | exact wpAny_bind (m := Builtin.Tuple.tupleExact _) (wpAny_newObj_type (wpAny_bind (wpAny_pure (wpAny_pure ⟨_, rfl, wpAny_pure h⟩))) hfit)
    | exact wpAny_bind (wpAny_bind (m := Builtin.Tuple.tupleExact _) (wpAny_newObj_type (wpAny_pure (wpAny_pure ⟨_, rfl, wpAny_pure h⟩)) hfit))
    | exact wpAny_bind (wpAny_bind (m := Builtin.Tuple.tupleExact _) (wpAny_newObj_type (wpAny_pure ⟨_, rfl, wpAny_pure h⟩) hfit))
def tRevT (K : Frg) (te : TE) : TE := fun σ H Q => te σ H fun x H1 => ∃ a xs, x = .ref a ∧ ((SqL K H1 a xs ∧ ∀ p, H1 p = none → Q (.ref p) (upd H1 p (.lst xs.reverse))) ∨ (SqT K H1 a xs ∧ ∀ p, H1 p = none → Q (.ref p) (upd H1 p (.tup xs.reverse))))
theorem pe_revS {X : Cx} {e : Expr} {te : TE} {k : Nat} {p1 p2 p3 pos : Pos} (he : PE X e te) : PE X (.Subscript e (.Slice none none (some (.UnaryOp .USub (.Constant (.int 1) k p1) p2)) p3) pos) (tRevT X.K te) := by
  refine ⟨fun pins s σ H Q I h => ?_⟩
  refine Subscript_ (thn (he.run pins s σ H _ I h) fun v s1 ⟨x, H1, I1, r1, q1⟩ => ?_)
  obtain ⟨a, xs, ex, hx⟩ := q1
  subst ex
  cases r1
  have hst : PO X (some (.UnaryOp .USub (.Constant (.int 1) k p1) p2)) (tPart (tUn (rU fun i => .int (-i)) (tC (.int 1)))) := po_some (pe_un un_neg pe_int)
  refine wpAny_Slice (thn (po_none.run pins s1 σ H1 (fun o Hb => o = none ∧ Hb = H1) I1 ⟨rfl, rfl⟩) fun vl s2 ⟨l, H2, I2, pl, el, e2⟩ => ?_)
  subst el e2
  refine thn (po_none.run pins s2 σ H2 (fun o Hb => o = none ∧ Hb = H2) I2 ⟨rfl, rfl⟩) fun vu s3 ⟨u, H3, I3, pu, eu, e3⟩ => ?_
  subst eu e3
  refine thn (hst.run pins s3 σ H3 (fun o Hb => o = some (-1) ∧ Hb = H3) I3 ⟨1, rfl, -1, rfl, rfl, rfl⟩) fun vs s4 ⟨o, H4, I4, ps, eo, e4⟩ => ?_
  subst eo e4
  have I5 : Inv X pins σ H4 { s4 with heap := s4.heap.push { cls := .type "slice", data := .fields #[vl, vu, vs] } } := I4.kept (t' := s4.toks) fun b ob q => Heap.get?_push_of_some _ q
  show wpAny (model X.prog X.w) X.A (subscriptTail e (.Slice none none (some (.UnaryOp .USub (.Constant (.int 1) k p1) p2)) p3) (.ref a) (.ref s4.heap.objs.size)) (EP X pins σ Q) X.xe { s4 with heap := s4.heap.push { cls := .type "slice", data := .fields #[vl, vu, vs] } }
  rcases hx with ⟨hx, q⟩ | ⟨hx, q⟩
  · obtain ⟨its, r, ht, hz⟩ := I5.list hx
    have hlen := r.length
    refine tail_any (ops := [.ref a, .ref s4.heap.objs.size]) ht.isList.typeIs (PySem.slot_list_getitem.lookup) ?_ (by with_unfolding_all rfl)
    refine wpAny_getItem_list_slice ht.isList (Heap.IsSliceOf.new _ vl vu vs) pl pu ps (by decide) ?_ (by rw [List.size_toArray]; omega)
    rw [PySem.W.krv_pick]
    refine ⟨.ref _, _, I5.laid (t' := s4.toks) (o := .lst xs.reverse) (fun b ob q => Heap.get?_push_of_some _ q) (Nat.le_refl _) ?_, rfl, q _ (I5.hok.fresh (Nat.le_refl _))⟩
    exact ⟨by rw [List.length_reverse]; exact hz, _, 0, r.reverse, Heap.get?_push_size _ rfl⟩
  · obtain ⟨its, r, ht, hz⟩ := I5.tuple hx
    have hlen := r.length
    refine tail_any (ops := [.ref a, .ref s4.heap.objs.size]) ht.typeIs (PyProof.Rows.slot_tuple_getitem.lookup) ?_ (by with_unfolding_all rfl)
    refine get_tuple_back ht (Heap.IsSliceOf.new _ vl vu vs) pl pu ps ?_ (by rw [List.size_toArray]; omega)
    refine ⟨.ref _, _, I5.laid (t' := s4.toks) (o := .tup xs.reverse) (fun b ob q => Heap.get?_push_of_some _ q) (Nat.le_refl _) ?_, rfl, q _ (I5.hok.fresh (Nat.le_refl _))⟩
    exact ⟨by rw [List.length_reverse]; exact hz, _, r.reverse, IsTup.new _ _⟩

theorem tup_mul_same (l : Addr) (items : Array Value) (n : Nat) (dd : Option Addr) (sl : Array (Option Value)) (x : Int) (u : Tok) (c0 : (decide (x < -(2 ^ 63)) || decide (x ≥ 2 ^ 63)) = false) (c1 : (items.isEmpty || x == 1) = true) :
    Meets (Builtin.«tuple.__mul__» ⟨[.ref l, .int x u], []⟩) (fun _ R s => s.heap.get? l = some { cls := .type "tuple", dict := dd, data := .seq items n, slots := sl } ∧ R (.ok (.ret (Value.ref l))) s) :=
  .of_wp fun prog w A R s h => by
    obtain ⟨hp, g, d, tk, os⟩ := s
    obtain ⟨hl, h⟩ := h
    have q1 := AutoSeq1.idx_int
    wp_walk using wpAny_loadPart' hl
    repeat (first
      | (refine wpAny_ite_false (decide_eq_false (by rw [c0]; exact Bool.false_ne_true)) ?_; wp_walk using wpAny_loadPart' hl)
      | (refine wpAny_ite_true (decide_eq_true c1) ?_; wp_walk using wpAny_loadPart' hl)
      | (rw [if_pos c1]; wp_walk using wpAny_loadPart' hl))
    exact ⟨_, rfl, h⟩
theorem tup_mul_zero (l : Addr) (items : Array Value) (n : Nat) (dd : Option Addr) (sl : Array (Option Value)) (x : Int) (u : Tok) (c0 : (decide (x < -(2 ^ 63)) || decide (x ≥ 2 ^ 63)) = false) (c1 : (items.isEmpty || x == 1) = false) (c2 : (decide (x ≤ 0) || items.isEmpty) = true) :
    Meets (Builtin.«tuple.__mul__» ⟨[.ref l, .int x u], []⟩) (fun _ R s => s.heap.get? l = some { cls := .type "tuple", dict := dd, data := .seq items n, slots := sl } ∧
      R (.ok (.ret (Value.ref s.heap.objs.size))) { s with heap := s.heap.push { cls := Value.type "tuple", data := Data.seq #[] } }) :=
  .of_wp fun prog w A R s h => by
    obtain ⟨hp, g, d, tk, os⟩ := s
    obtain ⟨hl, h⟩ := h
    have q1 := AutoSeq1.idx_int
    wp_walk using wpAny_loadPart' hl
    repeat (first
      | (refine wpAny_ite_false (decide_eq_false (by rw [c0]; exact Bool.false_ne_true)) ?_; wp_walk using wpAny_loadPart' hl)
      | (refine wpAny_ite_false (decide_eq_false (by rw [c1]; exact Bool.false_ne_true)) ?_; wp_walk using wpAny_loadPart' hl)
      | (refine wpAny_ite_true (decide_eq_true c2) ?_; wp_walk using wpAny_loadPart' hl)
      | (rw [if_pos c2]; wp_walk using wpAny_loadPart' hl))
    exact ⟨_, rfl, h⟩

def rRep2 (K : Frg) : R2 := fun x y H Q => ∃ l k xs, x = .ref l ∧ y = .int k ∧ SqT K H l xs ∧ 0 ≤ k ∧ k ≤ 1000 ∧ xs.length ≤ 1000 ∧
  ((xs = [] ∨ k = 1) → Q (.ref l) H) ∧ (xs ≠ [] → k ≠ 1 → ∀ p, H p = none → Q (.ref p) (upd H p (.tup (List.replicate k.toNat xs).flatten)))
theorem op_rep2 {X : Cx} : OpR X (binaryOp .Mult) (rRep2 X.K) := by
  intro pins s σ H x y v u Q I rx ry h
  obtain ⟨l, k, xs, rfl, rfl, hT, h0, h9, hl, qa, qb⟩ := h
  by_cases hx : xs ≠ [] ∧ 2 ≤ k
  · exact op_repT pins s σ H _ _ v u Q I rx ry ⟨l, k, xs, rfl, rfl, hT, hx.1, hx.2, h9, hl, qb hx.1 (by omega)⟩
  · cases rx
    obtain ⟨t, rfl⟩ := ry
    obtain ⟨its, r, ⟨⟨cl, dd, da, sl⟩, ho, hc, n, hd⟩, _⟩ := I.tuple hT
    simp only at hc hd
    subst hc hd
    have hle : its.length = xs.length := r.length.symm
    have c0 : (decide (k < -(2 ^ 63)) || decide (k ≥ 2 ^ 63)) = false := by
      rw [decide_eq_false (by omega), decide_eq_false (by omega)] <;> rfl
    have go : ∀ {S : PySem.Spec}, Meets (Builtin.«tuple.__mul__» ⟨[.ref l, .int k t], []⟩) S → S X.A (wants (EP X pins σ Q) X.xe) s → wpAny (model X.prog X.w) X.A (binaryOp .Mult (.ref l) (.int k t)) (EP X pins σ Q) X.xe s := fun m q =>
      wpAny_binaryOp_repeat_ref (T := "tuple") (U := "int") (by decide) ⟨_, ho, rfl⟩ (fun s' => typeIs_int s' k t) noFill_tuple_mul F.fills_int_mul F.slot_int_rmul repeat_tuple F.slot_int_index.lookup
        (call_meets F.slot_int_rmul (typeIs_int s k t) F.entry_int_rmul (F.args_int_rmul_2 _ _) (int_rmul_tuple k t l its.toArray n dd sl)
          ⟨ho, rfl, ⟨_, ho, rfl⟩, call_meets F.slot_tuple_mul ⟨_, ho, rfl⟩ F.entry_tuple_mul (F.args_tuple_mul_2 _ _) m q⟩)
    by_cases hs : xs = [] ∨ k = 1
    · refine go (tup_mul_same l its.toArray n dd sl k t c0 ?_) ⟨ho, ⟨.ref l, H, I, rfl, qa hs⟩⟩
      rcases hs with e | e
      · subst e
        cases r
        rfl
      · subst e
        simp
    · have hn : xs ≠ [] := fun e => hs (.inl e)
      have h1 : k ≠ 1 := fun e => hs (.inr e)
      have hk : k = 0 := by
        have : ¬ 2 ≤ k := fun e => hx ⟨hn, e⟩
        omega
      subst hk
      have hi : its.toArray.isEmpty = false := by
        cases its with
        | nil => exact absurd (List.eq_nil_of_length_eq_zero (by simpa using hle.symm)) hn
        | cons _ _ => rfl
      refine go (tup_mul_zero l its.toArray n dd sl 0 t c0 (by rw [hi] <;> rfl) (by rfl)) ⟨ho, ?_⟩
      refine ⟨.ref s.heap.objs.size, _, I.laid (t' := s.toks) (o := .tup []) (fun b ob q => Heap.get?_push_of_some _ q) (Nat.le_refl _) ?_, rfl, qb hn h1 _ (I.hok.fresh (Nat.le_refl _))⟩
      exact ⟨Nat.zero_le _, [], .nil, ⟨_, Heap.get?_push_size _ rfl, rfl, _, rfl⟩⟩

theorem enum_new_tup (l : Addr) (items : Array Value) (n : Nat) (dct : Option Addr) (sl : Array (Option Value)) :
    Meets (Builtin.«enumerate.__new__» ⟨[.type "enumerate", .ref l], []⟩) (fun _ R s => s.heap.get? l = some { cls := .type "tuple", dict := dct, data := .seq items n, slots := sl } ∧
      R (.ok (.ret (.ref (s.heap.push { cls := .type "tuple_iterator", data := .fields #[.ref l, .int 0 0] }).objs.size)))
        { s with heap := (s.heap.push { cls := .type "tuple_iterator", data := .fields #[.ref l, .int 0 0] }).push { cls := .type "enumerate", data := .fields #[.none, .bool false, .ref s.heap.objs.size, rawInt 0, .none, .none] } }) :=
  .of_wp fun prog w A R s h => by
    obtain ⟨hp, g, d, tk, os⟩ := s
    obtain ⟨hl, h⟩ := h
    have hsub := sub_enumerate
    have hL : Heap.IsTuple (Shared.heap ⟨hp, g, d, tk, os⟩) l items := ⟨_, hl, rfl, n, rfl⟩
    wp_walk using wpAny_loadPart' hl
    refine wpAny_stack_any fun st => wpAny_pure ?_
    split
    · rename_i c _ _ _ _ _
      cases (c == Value.type "enumerate")
      · wp_walk using wpAny_loadPart' hl, wpAny_pyIter_tuple hL
        exact ⟨_, rfl, h⟩
      · wp_walk using wpAny_loadPart' hl, wpAny_pyIter_tuple hL
        exact ⟨_, rfl, h⟩
    · wp_walk using wpAny_loadPart' hl, wpAny_pyIter_tuple hL
      exact ⟨_, rfl, h⟩
theorem call_enum_tup {prog : Program} {w : World} {A : Around} {E : Value → Shared → Prop} {s : Shared} {l : Addr} {items : Array Value} {Q : Value → Shared → Prop} (hL : s.heap.IsTuple l items)
    (h : ∀ h', IsEnum h' (s.heap.objs.size + 1) s.heap.objs.size 0 .none → h'.IsTupleIter s.heap.objs.size l 0 → (∀ b o, s.heap.get? b = some o → h'.get? b = some o) → Q (.ref (s.heap.objs.size + 1)) { s with heap := h' }) :
    wpAny (model prog w) A (call (.type "enumerate") [.ref l]) Q E s := by
  obtain ⟨⟨c, dct, dt, sl⟩, hl, hc, n, hd⟩ := hL
  replace hc : c = .type "tuple" := hc
  replace hd : dt = .seq items n := hd
  subst hc hd
  refine callType_new F.called_enumerate (by decide) (F.typeCall_enumerate_1 _) (F.newCall_enumerate_1 _) (fun obj => F.args_object_init_2 obj _) F.entry_enumerate_new
    (enum_new_tup l items n dct sl) ⟨hl, ?_⟩
  have hz : (s.heap.push { cls := .type "tuple_iterator", data := .fields #[.ref l, .int 0 0] }).objs.size = s.heap.objs.size + 1 := Heap.size_push ..
  show _ ∧ _
  rw [hz]
  have he : IsEnum ((s.heap.push { cls := .type "tuple_iterator", data := .fields #[.ref l, .int 0 0] }).push
      { cls := .type "enumerate", data := .fields #[.none, .bool false, .ref s.heap.objs.size, rawInt 0, .none, .none] }) (s.heap.objs.size + 1) s.heap.objs.size 0 .none := by
    have := Heap.get?_push_size (s.heap.push { cls := .type "tuple_iterator", data := .fields #[.ref l, .int 0 0] })
      (o := { cls := .type "enumerate", data := .fields #[.none, .bool false, .ref s.heap.objs.size, rawInt 0, .none, .none] }) rfl
    rw [hz] at this; exact this
  exact ⟨⟨_, he, rfl⟩, h _ he ⟨_, Heap.get?_push_of_some _ (Heap.get?_push_size _ rfl), rfl, rfl⟩ fun b o x => Heap.get?_push_of_some _ (Heap.get?_push_of_some _ x)⟩
def IteT (K : Frg) (a : Addr) : It :=
  ⟨fun i H => ∃ (xs : List V) (x : V), SqT K H a xs ∧ xs[i]? = some x, fun i H v H' => ∃ T x, v = .ref T ∧ H T = none ∧ H' = upd H T (.tup [.int (i : Nat), x]) ∧ ∀ xs, SqT K H a xs → xs[i]? = some x, fun i H => ∃ xs : List V, SqT K H a xs ∧ xs.length = i⟩
theorem turn_enumT {P : Program} {w : World} {K : Frg} {elts : List Expr} {kk : Nat} {tpos : Pos} (a e it : Addr) :
    Turn P w K (.Tuple elts kk tpos) (IteT K a) [e, it] e (fun i h => (∃ old, IsEnum h e it ((i : Nat) : Int) old) ∧ h.IsTupleIter it a i ∧ e ≠ it) where
  mem := by simp
  obj := fun i h st b hb => by
    obtain ⟨⟨old, he⟩, ⟨o, ho, hc, hd⟩, _⟩ := st
    have hb' : b = e ∨ b = it := by simpa using hb
    rcases hb' with z | z
    · rw [z]; exact ⟨_, he, fun v q => nomatch q⟩
    · rw [z]; exact ⟨o, ho, fun v q => by rw [hd] at q; cases q⟩
  keep := fun i h h' st k => let ⟨⟨old, he⟩, hi, hne⟩ := st; ⟨⟨old, k e (by simp) _ he⟩, hi.at fun o q => k it (by simp) o q, hne⟩
  item := by
    intro X hP hw hK hc i pins s σ H E I hf st hg
    subst hP hw hK
    obtain ⟨⟨old, he⟩, hit, hne⟩ := st
    obtain ⟨xs, x, hq, hx⟩ := hg
    obtain ⟨its, rv, p, hz⟩ := I.tuple hq
    obtain ⟨u, hu, ru⟩ := rv.get hx
    have hel : e < s.heap.objs.size := Heap.lt_size he
    have hil : it < s.heap.objs.size := by obtain ⟨_, q, _⟩ := hit; exact Heap.lt_size q
    have ht : s.heap.IsTuple a its.toArray := p
    have hai : a ≠ it := fun z => by
      obtain ⟨o1, e1, c1, _⟩ := ht
      obtain ⟨o2, e2, c2, _⟩ := hit
      rw [z, e2] at e1; cases e1; rw [c2] at c1; exact absurd (Value.type.inj c1) (by decide)
    have hea : e ≠ a := fun z => by
      obtain ⟨o1, e1, c1, _⟩ := ht
      have e2 : s.heap.get? e = some _ := he
      rw [z, e1] at e2; cases e2; exact absurd (Value.type.inj c1) (by decide)
    have D := Draws.tuple (prog := X.prog) (w := X.w) (A := X.A.in1) (I.ok.hd hc) it a hai its.toArray
    have hlt : i < its.toArray.size := by
      rw [List.size_toArray]; exact (List.getElem?_eq_some_iff.mp hu).1
    refine wpAny_pyNext_enum_itemC D he ⟨hit, ht⟩ hlt hne (by simp [hne, hea]) fun y h' tk hP ho hs' hT hsz hk => ?_
    have ey : y = u := by
      have : (its.toArray)[i]? = some u := by simpa using hu
      rw [this] at hP; exact (Option.some.inj hP).symm
    subst ey
    refine ⟨_, rfl, wpAny_letOwnedTupleGo_enum (s := { s with heap := h', toks := tk + 1 }) ho fun h'' he' sb => ?_⟩
    have hT2 : h''.get? s.heap.objs.size = some { cls := .type "tuple", data := .seq #[.int i tk, y] } := (sb.2 _ (Nat.ne_of_gt hel)).trans hT
    have new : ObjOk X.prog X.w (upd H s.heap.objs.size (.tup [.int (i : Nat), x])) h'' s.heap.objs.size (.tup [.int (i : Nat), x]) :=
      ⟨by show 2 ≤ sizeLine; decide, [.int i tk, y], .cons ⟨_, rfl⟩ (.cons ru .nil), ⟨_, hT2, rfl, _, rfl⟩⟩
    have I1 : Inv X pins σ (upd H s.heap.objs.size (.tup [.int (i : Nat), x])) { s with heap := h'', toks := tk + 1 } :=
      I.turnedNew (ch := [e, it]) (fun b ob hb q => (sb.2 b (fun z => hb (by simp [z]))).trans (hk b ob (fun z => hb (by simp [z])) (fun z => hb (by simp [z])) q)) hf (Nat.le_refl _) new
    refine ⟨.ref s.heap.objs.size, _, I1, rfl, ⟨_, x, rfl, I.hok.fresh (Nat.le_refl _), rfl, fun ys hy => by rw [I.tuple_inj hy hq]; exact hx⟩, ⟨⟨y, ?_⟩, hs'.1.at fun o q => (sb.2 it (Ne.symm hne)).trans q, hne⟩, fun b hb => ?_⟩
    · have e1 : ((i + 1 : Nat) : Int) = (i : Int) + 1 := by omega
      rw [e1]; exact he'
    · have hb' : b < s.heap.objs.size := by
        have z : b = e ∨ b = it := by simpa using hb
        rcases z with z | z
        · rw [z]; exact hel
        · rw [z]; exact hil
      rw [upd_ne (Nat.ne_of_lt hb')]
      exact (hf b hb).1
  done := by
    intro X hP hw hK hc i pins s σ H E I hf st hg
    subst hP hw hK
    obtain ⟨⟨old, he⟩, hit, hne⟩ := st
    obtain ⟨xs, hq, hx⟩ := hg
    obtain ⟨its, rv, p, hz⟩ := I.tuple hq
    obtain ⟨f0, f1, f2, f3, f4, f5⟩ := hf it (by simp)
    have ht : s.heap.IsTuple a its.toArray := p
    have hai : a ≠ it := fun z => by
      obtain ⟨o1, e1, c1, _⟩ := ht
      obtain ⟨o2, e2, c2, _⟩ := hit
      rw [z, e2] at e1; cases e1; rw [c2] at c1; exact absurd (Value.type.inj c1) (by decide)
    have D := Draws.tuple (prog := X.prog) (w := X.w) (A := X.A.in1) (I.ok.hd hc) it a hai its.toArray
    have hl := rv.length
    have hi : i = its.toArray.size := by rw [List.size_toArray]; omega
    subst hi
    exact wpAny_pyNext_enum_endD D he ⟨hit, ht⟩ fun h' eb => ⟨rfl, I.turned (t' := s.toks) (fun b o hb q => eb b o hb q) f0 f1 f3 f4 f5⟩
  self := fun A i s Q E st h => let ⟨⟨_, he⟩, _⟩ := st; wpAny_pyIter_enum he h
def iEnum2 (K : Frg) (ta : TA) : TI := fun σ H R => ta σ H fun vs H1 => ∃ a xs, vs = [.ref a] ∧ ((SqL K H1 a xs ∧ R (Ite K a) H1) ∨ (SqT K H1 a xs ∧ R (IteT K a) H1))
theorem pi_enum2 {X : Cx} {e : Expr} {ta : TA} {p pos tpos : Pos} {elts : List Expr} {kk : Nat} (hg : Gl X "enumerate") (hm : X.mg "enumerate" = none) (ha : PA X [e] ta) (hs : starEach [e] X.env = [(false, eval e X.env)]) :
    PI X (.Tuple elts kk tpos) (.Call (.Name "enumerate" p) [e] [] pos) (iEnum2 X.K ta) := by
  refine ⟨fun pins s σ H R I h => ?_⟩
  refine Call_ (ld_blt I hg hm boot_enumerate (PyProof.Rows.callWith_type1 (thn (ha.run pos pins s σ H _ I h) fun us s1 ⟨vs, H1, I1, r1, q1⟩ => ?_) hs rfl))
  obtain ⟨a, xs, ex, hq⟩ := q1
  subst ex
  cases r1 with
  | cons r rr =>
    cases rr
    cases r
    have big : ∀ {b : Addr}, b ∈ [s1.heap.objs.size + 1, s1.heap.objs.size] → s1.heap.objs.size ≤ b := fun {b} hb => by
      have z : b = s1.heap.objs.size + 1 ∨ b = s1.heap.objs.size := by simpa using hb
      rcases z with z | z
      · rw [z]; exact Nat.le_succ _
      · rw [z]; exact Nat.le_refl _
    rcases hq with ⟨hq, q⟩ | ⟨hq, q⟩
    · obtain ⟨its, rv, p', hz⟩ := I1.list hq
      refine call_enumerate_list p'.isList fun h' he hit hsz hk => wpAny_pyIter_enum he ?_
      exact ⟨s1.heap.objs.size + 1, [s1.heap.objs.size + 1, s1.heap.objs.size], _, _, H1, rfl, I1.kept (t' := s1.toks) hk, turn_enum a (s1.heap.objs.size + 1) s1.heap.objs.size, ⟨⟨.none, he⟩, hit, Nat.succ_ne_self _⟩, fun b hb => I1.fpOk (big hb) (I1.hok.fresh (big hb)), q⟩
    · obtain ⟨its, rv, p', hz⟩ := I1.tuple hq
      refine call_enum_tup (show s1.heap.IsTuple a its.toArray from p') fun h' he hit hk => wpAny_pyIter_enum he ?_
      exact ⟨s1.heap.objs.size + 1, [s1.heap.objs.size + 1, s1.heap.objs.size], _, _, H1, rfl, I1.kept (t' := s1.toks) hk, turn_enumT a (s1.heap.objs.size + 1) s1.heap.objs.size, ⟨⟨.none, he⟩, hit, Nat.succ_ne_self _⟩, fun b hb => I1.fpOk (big hb) (I1.hok.fresh (big hb)), q⟩
theorem walk_enumT {K : Frg} {a : Addr} {xs : List V} : Walk (IteT K a) xs.length (fun H => SqT K H a xs) (YPair (fun i => some (.int (i : Nat))) (fun i => xs[i]?)) := by
  refine ⟨fun i _ hi q => ⟨xs, xs[i], q, by simp [hi]⟩, fun _ q => ⟨xs, q, rfl⟩, fun i H v H' _ q y => ?_⟩
  obtain ⟨T, x, h1, h2, h3, h4⟩ := y
  exact ⟨T, .int (i : Nat), x, h1, h2, h3, rfl, h4 xs q⟩
end Mn
end
section
namespace Mn
open PySem PySem.Spec PyProof.Rows L2

def XRp (g : G) (H : Hp) (ι : List Addr) (x : D) (cls : Value) (dd : Option Addr) : Prop :=
  ∃ (c : Nat) (fs : List D) (C : Addr), x = .exc c fs ∧ g.cls c = some C ∧ cls = .ref C ∧
    ((∃ (d : Addr) (fv : List (Str × V)) (vs : List V), dd = some d ∧ Fix g H ι d (.xd fv) ∧ (∀ f, fv.lookup f = ((g.flds c).zip vs).lookup f) ∧ vs.length = (g.flds c).length ∧ RpL g H ι fs vs) ∨ (dd = none ∧ fs = [] ∧ g.flds c = []))

abbrev Rl (α β : Type) := G → Hp → List Addr → α → β → Prop
def Post (g : G) (W : WX) (B : List Addr) (σ : Sg) (H : Hp) (ι : List Addr) {α β : Type} (rel : Rl α β) (Q : β → Hp → Prop) : R α → Prop
  | .ok a μ' => ∀ b H' ι', Nx [] H ι H' ι' → MR (g.b B) H' ι' μ' → rel (g.b B) H' ι' a b → Q b H'
  | .ex x μ' => ∀ cls dd H' ι', Nx [] H ι H' ι' → MR (g.b B) H' ι' μ' → XRp (g.b B) H' ι' x cls dd → W cls dd σ H'

def rdH (g : G) (W : WX) (vs : List V) {α β : Type} (rel : Rl α β) (f : List D → Sl → Mem → Option (R α)) : Sg → Hp → (β → Hp → Prop) → Prop := fun σ H Q =>
  ∃ B ι μ sl ds r, MR (g.b B) H ι μ ∧ SR (g.b B) H ι sl σ ∧ RpL (g.b B) H ι ds vs ∧ f ds sl μ = some r ∧ Post g W B σ H ι rel Q r
abbrev rd (g : G) (W : WX) (f : Sl → Mem → Option (R D)) : TE := rdH g W [] (fun g H ι => Rp g H ι) (fun _ => f)
abbrev rdA (g : G) (W : WX) (f : Sl → Mem → Option (R (List D))) : TA := rdH g W [] (fun g H ι => RpL g H ι) (fun _ => f)
abbrev rdT (g : G) (W : WX) (f : Sl → Mem → Option (R Bool)) : TT := rdH g W [] (fun _ _ _ a b => a = b) (fun _ => f)
abbrev rdO (g : G) (W : WX) (f : Sl → Mem → Option (R (Option Int))) : TO := rdH g W [] (fun _ _ _ a b => a = b) (fun _ => f)

section
variable {g : G} {W : WX} {σ : Sg} {H : Hp} {vs : List V} {α β γ' δ : Type} {rel : Rl α β}
theorem Post.from {B : List Addr} {H' : Hp} {ι ι' : List Addr} {Q : β → Hp → Prop} {r : R α} (p : Post g W B σ H ι rel Q r) (x : Nx [] H ι H' ι') : Post g W B σ H' ι' rel Q r := by
  cases r with
  | ok a μ' => exact fun b H2 ι2 y m r => p b H2 ι2 (x.trans y) m r
  | ex e μ' => exact fun c d H2 ι2 y m r => p c d H2 ι2 (x.trans y) m r
theorem rdH_bind {Q : β → Hp → Prop} {fa : Sl → Mem → Option (R D)} {k : List D → Sl → Mem → Option (R α)}
    (h : rdH g W vs rel (fun ds sl μ => R.bind (fa sl μ) fun x μ1 => k (x :: ds) sl μ1) σ H Q) : rd g W fa σ H fun v H1 => rdH g W (v :: vs) rel k σ H1 Q := by
  obtain ⟨B, ι, μ, sl, ds, r, mr, sr, hd, e, p⟩ := h
  dsimp only at e
  cases q : fa sl μ with
  | none => rw [q] at e; cases e
  | some ra =>
    rw [q] at e
    refine ⟨B, ι, μ, sl, [], ra, mr, sr, .nil, q, ?_⟩
    cases ra with
    | ok x μ1 =>
      exact fun v H1 ι1 x1 m1 r1 => ⟨B, ι1, μ1, sl, x :: ds, r, m1, sr.mono x1.w, .cons r1 (hd.mono x1.w), e, p.from x1⟩
    | ex x μ1 =>
      cases e
      exact p
theorem rdH_bindG {γ δ : Type} {rel1 : Rl γ δ} {Q : β → Hp → Prop} {fa : Sl → Mem → Option (R γ)} {k : γ → List D → Sl → Mem → Option (R α)}
    (h : rdH g W vs rel (fun ds sl μ => R.bind (fa sl μ) fun x μ1 => k x ds sl μ1) σ H Q) :
    rdH g W [] rel1 (fun _ => fa) σ H fun y H1 => ∃ B ι1 μ1 sl ds x r, MR (g.b B) H1 ι1 μ1 ∧ SR (g.b B) H1 ι1 sl σ ∧ RpL (g.b B) H1 ι1 ds vs ∧ rel1 (g.b B) H1 ι1 x y ∧ k x ds sl μ1 = some r ∧ Post g W B σ H1 ι1 rel Q r := by
  obtain ⟨B, ι, μ, sl, ds, r, mr, sr, hd, e, p⟩ := h
  dsimp only at e
  cases q : fa sl μ with
  | none => rw [q] at e; cases e
  | some ra =>
    rw [q] at e
    refine ⟨B, ι, μ, sl, [], ra, mr, sr, .nil, q, ?_⟩
    cases ra with
    | ok x μ1 =>
      exact fun v H1 ι1 x1 m1 r1 => ⟨B, ι1, μ1, sl, ds, x, r, m1, sr.mono x1.w, hd.mono x1.w, r1, e, p.from x1⟩
    | ex x μ1 =>
      cases e
      exact p
abbrev Fin (g : G) (B : List Addr) (H : Hp) (ι : List Addr) (μ : Mem) (d : D) (Q : VK) : Prop :=
  ∀ v H' ι', Nx [] H ι H' ι' → MR (g.b B) H' ι' μ → Rp (g.b B) H' ι' d v → Q v H'
theorem Fin.now {B : List Addr} {ι : List Addr} {μ : Mem} {d : D} {Q : VK} {v : V} (f : Fin g B H ι μ d Q) (m : MR (g.b B) H ι μ) (r : Rp (g.b B) H ι d v) : Q v H := f v H ι .refl m r
theorem Fin.tup {B : List Addr} {ι : List Addr} {μ : Mem} {ds : List D} {Q : VK} {ws : List V} (f : Fin g B H ι μ (.tup ds) Q) (m : MR (g.b B) H ι μ) (r : RpL (g.b B) H ι ds ws) : ∀ p, H p = none → Q (.ref p) (upd H p (.tup ws)) := fun p hp =>
  f _ _ _ (Nx.laid hp) (m.laid hp) (.tup ⟨m.fresh hp, m.freshB hp, upd_same⟩ (r.mono (Nx.laid hp).w))
theorem Fin.lst {B : List Addr} {ι : List Addr} {μ : Mem} {ds : List D} {Q : VK} {ws : List V} (f : Fin g B H ι μ (.lst ds) Q) (m : MR (g.b B) H ι μ) (r : RpL (g.b B) H ι ds ws) : ∀ p, H p = none → Q (.ref p) (upd H p (.lst ws)) := fun p hp =>
  f _ _ _ (Nx.laid hp) (m.laid hp) (.lst ⟨m.fresh hp, m.freshB hp, upd_same⟩ (r.mono (Nx.laid hp).w))
end

section
variable {g : G} {H : Hp} {ι : List Addr} {μ : Mem}
theorem seqL_at {d : D} {v : V} {ds : List D} (m : MR g H ι μ) (r : Rp g H ι d v) (e : seqL μ d = some ds) : ∃ a vs, v = .ref a ∧ SqL g.K H a vs ∧ RpL g H ι ds vs := by
  cases d with
  | lst xs =>
    cases e
    cases r with
    | lst f q => exact ⟨_, _, rfl, .inl (.inl f.2.2), q⟩
    | frz f q => exact ⟨_, _, rfl, .inl (.inr ⟨_, f.2.2⟩), q⟩
  | kls xs =>
    cases e
    cases r with
    | kfz f q => exact ⟨_, _, rfl, .inl (.inr ⟨_, f.2.2⟩), q⟩
    | klp f q => exact ⟨_, _, rfl, .inl (.inl f.2.2), q⟩
    | kkk k q => exact ⟨_, _, rfl, .inr k, q⟩
  | ref n =>
    cases r with
    | ref h =>
      simp only [seqL] at e
      split at e
      · rename_i xs hn
        cases e
        obtain ⟨ws, hw, q⟩ := m.at_ _ _ _ hn h
        exact ⟨_, ws, rfl, .inl (.inl hw), q⟩
      · cases e
  | _ => simp [seqL] at e
theorem tup_at {v : V} {ds : List D} (r : Rp g H ι (.tup ds) v) : ∃ a vs, v = .ref a ∧ SqT g.K H a vs ∧ RpL g H ι ds vs := by
  cases r with
  | tup f q => exact ⟨_, _, rfl, .inl (.inl f.2.2), q⟩
theorem seqA_at {d : D} {v : V} {ds : List D} (m : MR g H ι μ) (r : Rp g H ι d v) (e : seqA μ d = some ds) : ∃ a vs, v = .ref a ∧ (SqL g.K H a vs ∨ SqT g.K H a vs) ∧ RpL g H ι ds vs := by
  cases d with
  | tup xs =>
    cases e
    obtain ⟨a, vs, h1, h2, h3⟩ := tup_at r
    exact ⟨a, vs, h1, .inr h2, h3⟩
  | _ =>
    obtain ⟨a, vs, h1, h2, h3⟩ := seqL_at m r e
    exact ⟨a, vs, h1, .inl h2, h3⟩
mutual
theorem py_at : ∀ {d : D} {v : V} {p : PyData}, Rp g H ι d v → py d = some p → Dp g.K H v p
  | .non, _, _, .non, e => by cases e; exact .non
  | .bl b, _, _, .bl _, e => by cases e; exact .bl b
  | .int i, _, _, .int _, e => by cases e; exact .int i
  | .str x, _, _, .str _, e => by cases e; exact .str x
  | .tup ds, _, _, .tup f q, e => by
    simp only [py, Option.map_eq_some_iff] at e
    obtain ⟨ps, e1, rfl⟩ := e
    exact .tup (.inl (.inl f.2.2)) (pyAll_at q e1)
  | .lst ds, _, _, .lst f q, e => by
    simp only [py, Option.map_eq_some_iff] at e
    obtain ⟨ps, e1, rfl⟩ := e
    exact .lst (.inl (.inl f.2.2)) (pyAll_at q e1)
  | .lst ds, _, _, .frz f q, e => by
    simp only [py, Option.map_eq_some_iff] at e
    obtain ⟨ps, e1, rfl⟩ := e
    exact .lst (.inl (.inr ⟨_, f.2.2⟩)) (pyAll_at q e1)
  | .kls _, _, _, _, e => by simp [py] at e
  | .ref _, _, _, _, e => by simp [py] at e
  | .exc _ _, _, _, _, e => by simp [py] at e
  | .opq, _, _, _, e => by simp [py] at e
theorem pyAll_at : ∀ {ds : List D} {vs : List V} {ps : List PyData}, RpL g H ι ds vs → pyAll ds = some ps → DpAll g.K H vs ps
  | [], _, _, .nil, e => by cases e; exact .nil
  | d :: ds, _, _, .cons r t, e => by
    simp only [pyAll, Option.bind_eq_some_iff, Option.map_eq_some_iff] at e
    obtain ⟨p, e1, ps, e2, rfl⟩ := e
    exact .cons (py_at r e1) (pyAll_at t e2)
end
theorem pyR_at {d : D} {v : V} {p : PyData} (m : MR g H ι μ) (r : Rp g H ι d v) (e : pyR μ d = some p) : Dp g.K H v p := by
  unfold pyR at e
  split at e
  · rename_i ds hs
    obtain ⟨a, vs, rfl, h2, h3⟩ := seqL_at m r hs
    simp only [Option.map_eq_some_iff] at e
    obtain ⟨ps, e1, rfl⟩ := e
    exact .lst h2 (pyAll_at h3 e1)
  · exact py_at r e
theorem flat_at {d : D} {v u : V} (r : Rp g H ι d v) (e : flat d = some u) : v = u ∧ flatV v = true := by
  cases d with
  | non => cases e; cases r; exact ⟨rfl, rfl⟩
  | bl b => cases e; cases r; exact ⟨rfl, rfl⟩
  | int b => cases e; cases r; exact ⟨rfl, rfl⟩
  | str b => cases e; cases r; exact ⟨rfl, rfl⟩
  | _ => cases e
theorem flatAll_at : ∀ {ds : List D} {vs us : List V}, RpL g H ι ds vs → ds.mapM flat = some us → vs = us ∧ vs.all flatV = true
  | [], _, _, .nil, e => by
    have : ([] : List V) = _ := Option.some.inj (by simpa using e)
    exact ⟨this, rfl⟩
  | d :: ds, _, _, .cons r t, e => by
    rw [List.mapM_cons] at e
    cases h : flat d with
    | none => rw [h] at e; cases e
    | some u =>
      rw [h] at e
      cases h2 : ds.mapM flat with
      | none => rw [h2] at e; cases e
      | some us =>
        rw [h2] at e
        obtain ⟨e1, f1⟩ := flat_at r h
        obtain ⟨e2, f2⟩ := flatAll_at t h2
        have e3 := Option.some.inj e
        rw [← e3, e1, e2]
        exact ⟨rfl, by rw [List.all_cons, ← e1, ← e2, f1, f2]; rfl⟩
theorem ints_at : ∀ {ds : List D} {vs : List V} {ns : List Int}, RpL g H ι ds vs → intsD ds = some ns → vs = ns.map V.int
  | [], _, _, .nil, e => by
    have : ([] : List Int) = _ := Option.some.inj (by simpa [intsD] using e)
    rw [← this]; rfl
  | d :: ds, _, _, .cons r t, e => by
    unfold intsD at e
    rw [List.mapM_cons] at e
    cases d with
    | int i =>
      cases r
      cases h2 : intsD ds with
      | none =>
        unfold intsD at h2
        rw [h2] at e; cases e
      | some us =>
        have q := ints_at t h2
        unfold intsD at h2
        rw [h2] at e
        have e3 := Option.some.inj e
        rw [← e3, q]; rfl
    | _ => cases e
theorem bools_at : ∀ {ds : List D} {vs : List V} {ns : List Bool}, RpL g H ι ds vs → boolsD ds = some ns → vs = ns.map V.bl
  | [], _, _, .nil, e => by
    have : ([] : List Bool) = _ := Option.some.inj (by simpa [boolsD] using e)
    rw [← this]; rfl
  | d :: ds, _, _, .cons r t, e => by
    unfold boolsD at e
    rw [List.mapM_cons] at e
    cases d with
    | bl i =>
      cases r
      cases h2 : boolsD ds with
      | none =>
        unfold boolsD at h2
        rw [h2] at e; cases e
      | some us =>
        have q := bools_at t h2
        unfold boolsD at h2
        rw [h2] at e
        have e3 := Option.some.inj e
        rw [← e3, q]; rfl
    | _ => cases e
end
end Mn
end
section
namespace Mn
open PySem PySem.Spec PyProof.Rows L2

def Bop.op : Bop → Operator
  | .add => .Add | .sub => .Sub | .mul => .Mult | .fdiv => .FloorDiv | .mod => .Mod | .pow => .Pow
def rStr2 : R2 := fun x y H Q => ∃ i j, x = .str i ∧ y = .str j ∧ i.length + j.length ≤ sizeLine ∧ Q (.str (i ++ j)) H
def CMul2 (i j : Int) : Prop := CMul i j ∨ CMulW i j
def rBin (K : Frg) : Bop → R2
  | .add => fun x y H Q => (((rI0 fun i j => .int (i + j)) x y H Q ∨ rStr2 x y H Q) ∨ rCatT K x y H Q) ∨ rCat0 K x y H Q
  | .sub => rI0 fun i j => .int (i - j)
  | .mul => fun x y H Q => rI CMul2 (fun i j => .int (i * j)) x y H Q ∨ rRep2 K x y H Q
  | .fdiv => rI CDivW fun i j => .int (i / j)
  | .mod => rI (fun _ j => 0 < j) fun i j => .int (i % j)
  | .pow => rI CPow fun i j => .int (i ^ j.toNat)
theorem CMul2.ok {i j : Int} (h : CMul2 i j) : IntMulOk i j := h.elim CMul.ok CMulW.ok
theorem bin_ok {X : Cx} : ∀ op : Bop, OpR X (binaryOp op.op) (rBin X.K op)
  | .add => ((op_add.or op_add_str).or op_catT).or op_cat0
  | .sub => op_sub
  | .mul => (opI fun _ _ _ _ _ _ _ hc q => mul_int q (CMul2.ok hc)).or op_rep2
  | .fdiv => op_fdivW
  | .mod => op_mod
  | .pow => op_pow
def rAug : Bop → R2
  | .add => rI0 fun i j => .int (i + j)
  | .sub => rI0 fun i j => .int (i - j)
  | .mul => rI CMul2 fun i j => .int (i * j)
  | .fdiv => rI CDivW fun i j => .int (i / j)
  | .mod => rI (fun _ j => 0 < j) fun i j => .int (i % j)
  | .pow => fun _ _ _ _ => False
theorem aug_ok {X : Cx} : ∀ op : Bop, OpR X (inplaceOp op.op) (rAug op)
  | .add => iop_add
  | .sub => iop_sub
  | .mul => opI fun _ _ _ _ _ _ _ hc q => imul_int q (CMul2.ok hc)
  | .fdiv => iop_fdivW
  | .mod => iop_mod
  | .pow => fun _ _ _ _ _ _ _ _ _ _ _ _ h => h.elim

section
variable {g : G} {B : List Addr} {H : Hp} {ι : List Addr} {μ : Mem} {x y d : D} {v u : V} {Q : VK}
theorem mulOk_ok {i j : Int} (h : mulOk i j = true) : CMul2 i j := by
  unfold mulOk at h
  simp only [Bool.or_eq_true, decide_eq_true_eq] at h
  rcases h with (h | h) | h
  · exact .inl (.inl h)
  · exact .inl (.inr h)
  · exact .inr h
theorem divOk_ok {i j : Int} (h : divOk j = true) : CDivW i j := by
  unfold divOk at h
  simp only [Bool.and_eq_true, decide_eq_true_eq] at h
  exact h
theorem len_nil {ds : List D} {vs : List V} (r : RpL g H ι ds vs) : vs = [] ↔ ds = [] := by
  cases r with
  | nil => simp
  | cons _ _ => simp
theorem RpL.rep {ds : List D} {vs : List V} (r : RpL g H ι ds vs) : ∀ k : Nat, RpL g H ι (List.replicate k ds).flatten (List.replicate k vs).flatten
  | 0 => .nil
  | k + 1 => by
    rw [List.replicate_succ, List.replicate_succ, List.flatten_cons, List.flatten_cons]
    exact r.append (r.rep k)
theorem bin_fin {op : Bop} (e : binD op x y = some d) (m : MR (g.b B) H ι μ) (rx : Rp (g.b B) H ι x v) (ry : Rp (g.b B) H ι y u) (f : Fin g B H ι μ d Q) : rBin g.K op v u H Q := by
  unfold binD at e
  split at e
  · cases e; cases rx; cases ry; exact .inl (.inl (.inl ⟨_, _, rfl, rfl, f.now m (.int _)⟩))
  · cases e; cases rx; cases ry; exact ⟨_, _, rfl, rfl, f.now m (.int _)⟩
  · split at e
    · rename_i h
      cases e; cases rx; cases ry; exact .inl ⟨_, _, rfl, rfl, mulOk_ok h, f.now m (.int _)⟩
    · cases e
  · split at e
    · rename_i h
      cases e; cases rx; cases ry; exact ⟨_, _, rfl, rfl, divOk_ok h, f.now m (.int _)⟩
    · cases e
  · split at e
    · rename_i h
      cases e; cases rx; cases ry; exact ⟨_, _, rfl, rfl, h, f.now m (.int _)⟩
    · cases e
  · split at e
    · rename_i h
      cases e; cases rx; cases ry; exact ⟨_, _, rfl, rfl, h, f.now m (.int _)⟩
    · cases e
  · split at e
    · rename_i h
      cases e; cases rx; cases ry; exact .inl (.inl (.inr ⟨_, _, rfl, rfl, h, f.now m (.str _)⟩))
    · cases e
  · split at e
    · rename_i a b h
      cases e
      obtain ⟨p, vs, rfl, h1, r1⟩ := tup_at rx
      obtain ⟨q, ws, rfl, h2, r2⟩ := tup_at ry
      by_cases hv : vs = []
      · subst hv
        have ha := (len_nil r1).mp rfl
        subst ha
        exact .inr ⟨p, q, ws, rfl, rfl, h1, h2, f.now m ry⟩
      · refine .inl (.inr ⟨p, q, vs, ws, rfl, rfl, h1, h2, hv, by rw [← r1.length, ← r2.length]; exact h, fun z => ?_, fun _ => f.tup m (r1.append r2)⟩)
        have hb := (len_nil r2).mp z
        subst hb
        have f' := f
        rw [List.append_nil] at f'
        exact f'.now m rx
    · cases e
  · split at e
    · rename_i a k h
      cases e; cases ry
      obtain ⟨p, vs, rfl, h1, r1⟩ := tup_at rx
      refine .inr ⟨p, k, vs, rfl, rfl, h1, h.1, h.2.1, by rw [← r1.length]; exact h.2.2, fun z => ?_, fun _ _ => f.tup m (r1.rep _)⟩
      have e2 : (List.replicate k.toNat a).flatten = a := by
        rcases z with z | z
        · have ha := (len_nil r1).mp z
          subst ha
          simp
        · subst z
          simp
      have f' := f
      rw [e2] at f'
      exact f'.now m rx
    · cases e
  · cases e
theorem aug_fin {op : Bop} (e : augD op x y = some d) (m : MR (g.b B) H ι μ) (rx : Rp (g.b B) H ι x v) (ry : Rp (g.b B) H ι y u) (f : Fin g B H ι μ d Q) : rAug op v u H Q := by
  unfold augD at e
  split at e
  · cases rx; cases ry
    cases op with
    | pow => cases e
    | add => cases e; exact ⟨_, _, rfl, rfl, f.now m (.int _)⟩
    | sub => cases e; exact ⟨_, _, rfl, rfl, f.now m (.int _)⟩
    | mul =>
      rw [if_neg (by decide)] at e
      simp only [binD] at e
      split at e
      · rename_i h
        cases e; exact ⟨_, _, rfl, rfl, mulOk_ok h, f.now m (.int _)⟩
      · cases e
    | fdiv =>
      rw [if_neg (by decide)] at e
      simp only [binD] at e
      split at e
      · rename_i h
        cases e; exact ⟨_, _, rfl, rfl, divOk_ok h, f.now m (.int _)⟩
      · cases e
    | mod =>
      rw [if_neg (by decide)] at e
      simp only [binD] at e
      split at e
      · rename_i h
        cases e; exact ⟨_, _, rfl, rfl, h, f.now m (.int _)⟩
      · cases e
  · cases e
end

def Cop.op : Cop → CmpOp
  | .lt => .Lt | .le => .LtE | .gt => .Gt | .ge => .GtE | .eq => .Eq | .ne => .NotEq | .isN => .Is | .notN => .IsNot | .isIn => .In | .notIn => .NotIn
def rIn2 (K : Frg) : R2 := fun x y H Q => (((∃ i j, x = .str i ∧ y = .str j ∧ Q (.bl (!(Builtin.Str.occurrences j i 0 j.length 1).isEmpty)) H) ∨ rIn K false x y H Q) ∨ (∃ a o, y = .ref a ∧ DGet H a x o ∧ Q (.bl o.isSome) H)) ∨ rInD K x y H Q
def rNotIn2 (K : Frg) : R2 := fun x y H Q => (((∃ i j, x = .str i ∧ y = .str j ∧ Q (.bl (!(!(Builtin.Str.occurrences j i 0 j.length 1).isEmpty))) H) ∨ rIn K true x y H Q) ∨ (∃ a o, y = .ref a ∧ DGet H a x o ∧ Q (.bl (!o.isSome)) H)) ∨ rNotInD K x y H Q
theorem op_inDict {X : Cx} (hu : X.A.units + 1 < cLine) : OpR X (compareOp .In) (fun x y H Q => ∃ a o, y = .ref a ∧ DGet H a x o ∧ Q (.bl o.isSome) H) := by
  intro pins s σ H x y v u Q I rx ry h
  obtain ⟨a, o, rfl, dg, q⟩ := h
  obtain rfl : u = Value.ref a := ry
  exact d_in hu I dg rx fun s3 I3 => ⟨.bl o.isSome, H, I3, rfl, q⟩
theorem op_notInDict {X : Cx} (hu : X.A.units + 1 < cLine) : OpR X (compareOp .NotIn) (fun x y H Q => ∃ a o, y = .ref a ∧ DGet H a x o ∧ Q (.bl (!o.isSome)) H) := by
  intro pins s σ H x y v u Q I rx ry h
  obtain ⟨a, o, rfl, dg, q⟩ := h
  obtain rfl : u = Value.ref a := ry
  exact d_notIn hu I dg rx fun s3 I3 => ⟨.bl (!o.isSome), H, I3, rfl, q⟩
def rCmp (K : Frg) : Cop → R2
  | .lt => fun x y H Q => (rI0 fun i j => .bl (decide (i < j))) x y H Q ∨ ∃ i j, x = .str i ∧ y = .str j ∧ Q (.bl (decide (i.cps.toList < j.cps.toList))) H
  | .le => rI0 fun i j => .bl (decide (i ≤ j))
  | .gt => rI0 fun i j => .bl (decide (j < i))
  | .ge => rI0 fun i j => .bl (decide (j ≤ i))
  | .eq => rEqD K
  | .ne => rNeD K
  | .isN => fun x y H Q => y = .non ∧ Q (.bl (decide (x = .non))) H
  | .notN => fun x y H Q => y = .non ∧ Q (.bl (!decide (x = .non))) H
  | .isIn => rIn2 K
  | .notIn => rNotIn2 K
theorem cmp_ok {X : Cx} (hu : X.A.units + 65 < cLine) : ∀ op : Cop, OpR X (compareOp op.op) (rCmp X.K op)
  | .lt => op_lt.or op_lt_str
  | .le => op_le
  | .gt => op_gt
  | .ge => op_ge
  | .eq => op_eqD (by omega)
  | .ne => op_neD (by omega)
  | .isN => op_isN
  | .notN => op_notN
  | .isIn => ((op_in_str.or op_in_seq).or (op_inDict (by omega))).or (op_inD hu)
  | .notIn => ((op_notin_str.or op_notIn_seq).or (op_notInDict (by omega))).or (op_notInD hu)
section
variable {g : G} {B : List Addr} {H : Hp} {ι : List Addr} {μ : Mem} {x y : D} {k : Bool} {v u : V} {Q : VK}
theorem eqD_at {p : Bool} (e : eqD μ x y = some p) (m : MR g H ι μ) (rx : Rp g H ι x v) (ry : Rp g H ι y u) : ∃ a b, Dp g.K H v a ∧ Dp g.K H u b ∧ SeqAt.shaped a = true ∧ SeqAt.shaped b = true ∧ p = PyData.eqv a b := by
  unfold eqD at e
  simp only [Option.bind_eq_some_iff] at e
  obtain ⟨a, ha, b, hb, e⟩ := e
  split at e
  · rename_i h
    rw [Bool.and_eq_true] at h
    cases e
    exact ⟨a, b, pyR_at m rx ha, pyR_at m ry hb, h.1, h.2, rfl⟩
  · cases e
theorem keyD_at {key : Key} (rx : Rp g H ι x v) (e : keyD x = some key) : v = kV key := by
  cases x with
  | int i => cases e; cases rx; rfl
  | str i => cases e; cases rx; rfl
  | _ => cases e
theorem keyAll_at : ∀ {ds : List D} {vs : List V} {ks : List Key}, RpL g H ι ds vs → ds.mapM keyD = some ks → vs = ks.map kV
  | [], _, _, .nil, e => by
    have : ([] : List Key) = _ := Option.some.inj (by simpa using e)
    rw [← this]; rfl
  | d :: ds, _, _, .cons r t, e => by
    rw [List.mapM_cons] at e
    cases h : keyD d with
    | none => rw [h] at e; cases e
    | some u =>
      rw [h] at e
      cases h2 : ds.mapM keyD with
      | none => rw [h2] at e; cases e
      | some us =>
        rw [h2] at e
        have e3 := Option.some.inj e
        rw [← e3, keyD_at r h, keyAll_at t h2]
        rfl
theorem keysD_at {key : List Key} (rx : Rp g H ι x v) (e : keysD x = some key) : ∃ b, v = .ref b ∧ H b = some (.tup (key.map kV)) := by
  cases x with
  | tup ds =>
    cases rx with
    | tup f q => exact ⟨_, rfl, by rw [← keyAll_at q e]; exact f.2.2⟩
  | _ => cases e
section
variable {κ : Type} [DecidableEq κ]
theorem getK_at {kvs : List (κ × D)} {ws : List (κ × V)} (r : RpK g H ι kvs ws) (key : κ) : (getKd kvs key = none ∧ valV ws key = none) ∨ ∃ d w, getKd kvs key = some d ∧ valV ws key = some w ∧ Rp g H ι d w := by
  induction kvs generalizing ws with
  | nil =>
    obtain ⟨h1, h2⟩ := r
    cases ws with
    | nil => exact .inl ⟨rfl, rfl⟩
    | cons a b => cases h1
  | cons p kvs ih =>
    obtain ⟨h1, h2⟩ := r
    cases ws with
    | nil => cases h1
    | cons q ws =>
      rw [List.map_cons, List.map_cons] at h1 h2
      have ek : p.1 = q.1 := (List.cons.inj h1).1
      cases h2 with
      | cons r1 r2 =>
        by_cases hk : p.1 = key
        · exact .inr ⟨p.2, q.2, by simp [getKd, List.find?_cons, hk], valV_pos (ek.symm.trans hk), r1⟩
        · have e1 : getKd (p :: kvs) key = getKd kvs key := by simp [getKd, List.find?_cons, hk]
          rw [e1, valV_neg (fun z => hk (ek.trans z))]
          exact ih ⟨(List.cons.inj h1).2, r2⟩
end
theorem DGet_of {n : Nat} {o : Ob} {key : Option D} (m : MR g H ι μ) (hn : μ[n]? = some o) (ry : Rp g H ι (.ref n) u) (rx : Rp g H ι x v)
    (hk : (∃ kvs k, o = .dk kvs ∧ keyD x = some k ∧ key = getKd kvs k) ∨ (∃ kvs k, o = .dt kvs ∧ keysD x = some k ∧ key = getKd kvs k)) :
    ∃ a w, u = .ref a ∧ DGet H a v w ∧ ((key = none ∧ w = none) ∨ ∃ d z, key = some d ∧ w = some z ∧ Rp g H ι d z) := by
  cases ry with
  | ref h =>
    have ob := m.at_ _ _ _ hn h
    rcases hk with ⟨kvs, k, rfl, h1, rfl⟩ | ⟨kvs, k, rfl, h1, rfl⟩
    · obtain ⟨ws, hw, q⟩ := ob
      have e := keyD_at rx h1
      subst e
      exact ⟨_, valV ws k, rfl, .k hw, getK_at q k⟩
    · obtain ⟨ws, hw, q⟩ := ob
      obtain ⟨b, rfl, hb⟩ := keysD_at rx h1
      exact ⟨_, valV ws k, rfl, .t hw hb, getK_at q k⟩
theorem inD_at {k : Bool} (e : inD μ x y = some k) (m : MR g H ι μ) (rx : Rp g H ι x v) (ry : Rp g H ι y u) :
    (∃ i j, v = .str i ∧ u = .str j ∧ k = !(Builtin.Str.occurrences j i 0 j.length 1).isEmpty) ∨ (∃ p vs, u = .ref p ∧ SqT g.K H p vs ∧ flatV v = true ∧ vs.all flatV = true ∧ k = inV v vs) ∨
    (∃ a o, u = .ref a ∧ DGet H a v o ∧ k = o.isSome) ∨ (∃ d ds, Dp g.K H v d ∧ Dp g.K H u (.list ds) ∧ SeqAt.shaped d = true ∧ SeqAt.shaped (.list ds) = true ∧ k = ds.any fun z => PyData.eqv z d) := by
  have lists : ∀ {ys : List D} {a : Addr} {vs : List V}, inD.inL μ x ys = some k → u = .ref a → SqL g.K H a vs → RpL g H ι ys vs → ∃ d ds, Dp g.K H v d ∧ Dp g.K H u (.list ds) ∧ SeqAt.shaped d = true ∧ SeqAt.shaped (.list ds) = true ∧ k = ds.any fun z => PyData.eqv z d := by
    intro ys a vs e1 eu hs r
    simp only [inD.inL, Option.bind_eq_some_iff] at e1
    obtain ⟨p, h1, qs, h2, h3⟩ := e1
    split at h3
    · rename_i hh
      rw [Bool.and_eq_true] at hh
      cases h3
      subst eu
      exact ⟨p, qs, pyR_at m rx h1, .lst hs (pyAll_at r h2), hh.1, hh.2, rfl⟩
    · cases h3
  cases y with
  | str z =>
    cases ry
    cases x with
    | str w => cases rx; cases e; exact .inl ⟨_, _, rfl, rfl, rfl⟩
    | _ => cases e
  | tup ys =>
    simp only [inD, Option.bind_eq_some_iff, Option.map_eq_some_iff] at e
    obtain ⟨w, h2, ws, h3, rfl⟩ := e
    obtain ⟨a, vs, rfl, hs, r⟩ := tup_at ry
    obtain ⟨rfl, fl⟩ := flat_at rx h2
    obtain ⟨rfl, fl2⟩ := flatAll_at r h3
    exact .inr (.inl ⟨a, _, rfl, hs, fl, fl2, rfl⟩)
  | lst ys =>
    obtain ⟨a, vs, rfl, hs, r⟩ := seqL_at m ry rfl
    exact .inr (.inr (.inr (lists e rfl hs r)))
  | ref n =>
    simp only [inD] at e
    split at e
    · rename_i kvs hn
      simp only [Option.map_eq_some_iff] at e
      obtain ⟨key, h1, rfl⟩ := e
      obtain ⟨a, w, h2, h3, h4⟩ := DGet_of m hn ry rx (.inl ⟨kvs, key, rfl, h1, rfl⟩)
      refine .inr (.inr (.inl ⟨a, w, h2, h3, ?_⟩))
      rcases h4 with ⟨e1, rfl⟩ | ⟨d, z, e1, rfl, _⟩ <;> rw [e1] <;> rfl
    · rename_i kvs hn
      simp only [Option.map_eq_some_iff] at e
      obtain ⟨key, h1, rfl⟩ := e
      obtain ⟨a, w, h2, h3, h4⟩ := DGet_of m hn ry rx (.inr ⟨kvs, key, rfl, h1, rfl⟩)
      refine .inr (.inr (.inl ⟨a, w, h2, h3, ?_⟩))
      rcases h4 with ⟨e1, rfl⟩ | ⟨d, z, e1, rfl, _⟩ <;> rw [e1] <;> rfl
    · rename_i ys hn
      obtain ⟨a, vs, rfl, hs, r⟩ := seqL_at (ds := ys) m ry (by simp [seqL, hn])
      exact .inr (.inr (.inr (lists e rfl hs r)))
    · cases e
  | _ => cases e
theorem non_iff (rx : Rp g H ι x v) : decide (v = .non) = isNon x := by
  cases rx <;> rfl
theorem cmp_fin {op : Cop} (e : cmpD μ op x y = some k) (m : MR (g.b B) H ι μ) (rx : Rp (g.b B) H ι x v) (ry : Rp (g.b B) H ι y u) (f : Q (.bl k) H) : rCmp g.K op v u H Q := by
  cases op with
  | lt =>
    simp only [cmpD] at e
    split at e
    · cases e; cases rx; cases ry; exact .inl ⟨_, _, rfl, rfl, f⟩
    · cases e; cases rx; cases ry; exact .inr ⟨_, _, rfl, rfl, f⟩
    · cases e
  | le =>
    simp only [cmpD] at e
    split at e
    · cases e; cases rx; cases ry; exact ⟨_, _, rfl, rfl, f⟩
    · cases e
  | gt =>
    simp only [cmpD] at e
    split at e
    · cases e; cases rx; cases ry; exact ⟨_, _, rfl, rfl, f⟩
    · cases e
  | ge =>
    simp only [cmpD] at e
    split at e
    · cases e; cases rx; cases ry; exact ⟨_, _, rfl, rfl, f⟩
    · cases e
  | eq =>
    obtain ⟨a, b, h1, h2, h3, h4, rfl⟩ := eqD_at e m rx ry
    exact ⟨a, b, h1, h2, h3, h4, f⟩
  | ne =>
    simp only [cmpD, Option.map_eq_some_iff] at e
    obtain ⟨p, e, rfl⟩ := e
    obtain ⟨a, b, h1, h2, h3, h4, rfl⟩ := eqD_at e m rx ry
    exact ⟨a, b, h1, h2, h3, h4, f⟩
  | isN =>
    simp only [cmpD] at e
    split at e
    · cases ry
      have e2 := Option.some.inj e
      refine ⟨rfl, ?_⟩
      rw [non_iff rx, e2]; exact f
    · cases e
  | notN =>
    simp only [cmpD] at e
    split at e
    · cases ry
      have e2 := Option.some.inj e
      refine ⟨rfl, ?_⟩
      rw [non_iff rx, e2]; exact f
    · cases e
  | isIn =>
    rcases inD_at e m rx ry with h | h | h | h
    · obtain ⟨i, j, rfl, rfl, rfl⟩ := h; exact .inl (.inl (.inl ⟨i, j, rfl, rfl, f⟩))
    · obtain ⟨p, vs, rfl, h1, h2, h3, rfl⟩ := h; exact .inl (.inl (.inr ⟨p, vs, rfl, .inr h1, h2, h3, f⟩))
    · obtain ⟨a, o, rfl, h1, rfl⟩ := h; exact .inl (.inr ⟨a, o, rfl, h1, f⟩)
    · obtain ⟨d, ds, h1, h2, h3, h4, rfl⟩ := h; exact .inr ⟨d, ds, h1, h2, h3, h4, f⟩
  | notIn =>
    simp only [cmpD, Option.map_eq_some_iff] at e
    obtain ⟨k, e, rfl⟩ := e
    rcases inD_at e m rx ry with h | h | h | h
    · obtain ⟨i, j, rfl, rfl, rfl⟩ := h; exact .inl (.inl (.inl ⟨i, j, rfl, rfl, f⟩))
    · obtain ⟨p, vs, rfl, h1, h2, h3, rfl⟩ := h; exact .inl (.inl (.inr ⟨p, vs, rfl, .inr h1, h2, h3, f⟩))
    · obtain ⟨a, o, rfl, h1, rfl⟩ := h; exact .inl (.inr ⟨a, o, rfl, h1, f⟩)
    · obtain ⟨d, ds, h1, h2, h3, h4, rfl⟩ := h; exact .inr ⟨d, ds, h1, h2, h3, h4, f⟩
end
end Mn
end
section
namespace Mn
open PySem PySem.Spec PyProof.Rows L2

section
variable {g : G} {B : List Addr} {H : Hp} {ι : List Addr} {μ : Mem} {x y d : D} {v u : V} {Q : VK}

theorem tyN_at {n : String} (m : MR g H ι μ) (rx : Rp g H ι x v) (e : tyN μ x = some n) : TyX g.K H v (.type n) := by
  cases x with
  | non => cases e; cases rx; exact .base .non
  | bl b => cases e; cases rx; exact .base (.bl b)
  | int b => cases e; cases rx; exact .base (.int b)
  | str b => cases e; cases rx; exact .base (.str b)
  | tup ds =>
    cases e
    cases rx with
    | tup f q => exact .base (.tup f.2.2)
  | lst ds =>
    cases e
    cases rx with
    | lst f q => exact .base (.lst f.2.2)
    | frz f q => exact .base (.frz f.2.2)
  | ref k =>
    cases rx with
    | ref h =>
      simp only [tyN] at e
      split at e
      · rename_i ds hn
        cases e
        obtain ⟨ws, hw, _⟩ := m.at_ _ _ _ hn h
        exact .base (.lst hw)
      · rename_i ds hn
        cases e
        obtain ⟨ws, hw, _⟩ := m.at_ _ _ _ hn h
        exact .base (.dK hw)
      · rename_i ds hn
        cases e
        obtain ⟨ws, hw, _⟩ := m.at_ _ _ _ hn h
        exact .base (.dT hw)
      · cases e
  | _ => cases e
theorem kit7 {K : Frg} {n : String} {t : Ty} (hn : n ∈ ["NoneType", "bool", "int", "str", "tuple", "list", "dict"]) (ht : ∀ c, t ≠ .own c) : PySem.W.kitOne K (.type n) (.type t.nm) = some (n == t.nm || (n == "bool" && t.nm == "int")) := by
  refine kit_ty ?_
  simp only [List.mem_cons, List.not_mem_nil, or_false] at hn
  cases t with
  | own c => exact absurd rfl (ht c)
  | _ => rcases hn with h | h | h | h | h | h | h <;> subst h <;> decide +kernel
theorem tyN_mem {n : String} (e : tyN μ x = some n) : n ∈ ["NoneType", "bool", "int", "str", "tuple", "list", "dict"] := by
  unfold tyN at e
  split at e
  all_goals first
    | (cases e; simp; done)
    | (split at e <;> first | (cases e; simp; done) | cases e)
    | cases e
theorem isi_fin {t : Ty} {k : Bool} (ht : ∀ c, t ≠ .own c) (e : isiD μ x t = some k) (m : MR (g.b B) H ι μ) (rx : Rp (g.b B) H ι x v) (f : Q (.bl k) H) : rIsi g.K [v, .ty t.nm] H Q := by
  have e' : (tyN μ x).map (fun n => n == t.nm || (n == "bool" && t.nm == "int")) = some k := by
    cases t with
    | own c => exact absurd rfl (ht c)
    | _ => exact e
  simp only [Option.map_eq_some_iff] at e'
  obtain ⟨n, h1, rfl⟩ := e'
  exact ⟨v, .ty t.nm, .type n, .type t.nm, _, rfl, .ty _, (tyN_at (g := g.b B) m rx h1), kit7 (tyN_mem h1) ht, f⟩

def rIx4 (K : Frg) : R2 := fun x y H Q => rIx K x y H Q ∨ ∃ a v, x = .ref a ∧ DGet H a y (some v) ∧ Q v H
theorem ix4_ok {X : Cx} (hu : X.A.units + 1 < cLine) : IxR X (rIx4 X.K) := ix_seq.or (by
  intro value slice pins s σ H x y v u Q I rx ry h hs
  obtain ⟨a, w, rfl, dg, q⟩ := h
  obtain rfl : v = Value.ref a := rx
  exact tail_any (dict_typeIs I dg) PySem.F.slot_dict_getitem.lookup (d_getItem hu I dg ry fun w' s3 I3 rw' => ⟨w, H, I3, rw', q⟩) hs)
theorem atI_at {ds : List D} {vs : List V} {i : Int} {d : D} (r : RpL g H ι ds vs) (e : atI ds i = some d) : ∃ w, atI vs i = some w ∧ Rp g H ι d w := by
  unfold atI at e ⊢
  rw [← r.length]
  cases h : ixN ds.length i with
  | none => rw [h] at e; cases e
  | some j =>
    rw [h] at e
    exact r.get e
theorem idx_fin (e : idxD μ x y = some d) (m : MR (g.b B) H ι μ) (rx : Rp (g.b B) H ι x v) (ry : Rp (g.b B) H ι y u) (f : Fin g B H ι μ d Q) : rIx4 g.K v u H Q := by
  cases x with
  | str z =>
    simp only [idxD] at e
    split at e
    · split at e
      · rename_i hl
        simp only [Option.map_eq_some_iff] at e
        obtain ⟨c, h1, rfl⟩ := e
        cases rx; cases ry
        exact .inl (.inr (.inr ⟨_, _, c, rfl, rfl, hl, h1, f.now m (.str _)⟩))
      · cases e
    · cases e
  | tup ds =>
    simp only [idxD] at e
    split at e
    · cases ry
      obtain ⟨a, vs, rfl, h1, r⟩ := tup_at rx
      obtain ⟨w, h2, rw'⟩ := atI_at r e
      exact .inl (.inr (.inl ⟨a, vs, _, w, rfl, rfl, h1, h2, f.now m rw'⟩))
    · cases e
  | lst ds =>
    simp only [idxD] at e
    split at e
    · cases ry
      obtain ⟨a, vs, rfl, h1, r⟩ := seqL_at m rx rfl
      obtain ⟨w, h2, rw'⟩ := atI_at r e
      exact .inl (.inl ⟨a, vs, _, w, rfl, rfl, h1, h2, f.now m rw'⟩)
    · cases e
  | ref n =>
    simp only [idxD] at e
    split at e
    · rename_i ds hn
      split at e
      · cases ry
        obtain ⟨a, vs, rfl, h1, r⟩ := seqL_at (ds := ds) m rx (by simp [seqL, hn])
        obtain ⟨w, h2, rw'⟩ := atI_at r e
        exact .inl (.inl ⟨a, vs, _, w, rfl, rfl, h1, h2, f.now m rw'⟩)
      · cases e
    · rename_i kvs hn
      simp only [Option.bind_eq_some_iff] at e
      obtain ⟨k, h1, h2⟩ := e
      obtain ⟨a, w, rfl, h3, h4⟩ := DGet_of m hn rx ry (.inl ⟨kvs, k, rfl, h1, rfl⟩)
      rw [h2] at h4
      rcases h4 with ⟨h4, _⟩ | ⟨d', z, h4, rfl, rz⟩
      · cases h4
      · cases h4
        exact .inr ⟨a, z, rfl, h3, f.now m rz⟩
    · rename_i kvs hn
      simp only [Option.bind_eq_some_iff] at e
      obtain ⟨k, h1, h2⟩ := e
      obtain ⟨a, w, rfl, h3, h4⟩ := DGet_of m hn rx ry (.inr ⟨kvs, k, rfl, h1, rfl⟩)
      rw [h2] at h4
      rcases h4 with ⟨h4, _⟩ | ⟨d', z, h4, rfl, rz⟩
      · cases h4
      · cases h4
        exact .inr ⟨a, z, rfl, h3, f.now m rz⟩
    · cases e
  | _ => cases e

theorem RpL.cut {ds : List D} {vs : List V} (r : RpL g H ι ds vs) (lo hi : Option Int) : RpL g H ι (cutD ds lo hi) (cutV vs lo hi) := by
  unfold cutD cutV
  rw [← r.length]
  exact (r.drop _).take _
def rSl2 (K : Frg) : V → Option Int → Option Int → Hp → VK → Prop := fun x lo hi H Q => rSlT2 K x lo hi H Q ∨ rSlL K x lo hi H Q
theorem sl2_ok {X : Cx} : SlR X (rSl2 X.K) := sl_tup2.or sl_list
theorem slc_fin {lo hi : Option Int} (e : slcD μ x lo hi = some d) (m : MR (g.b B) H ι μ) (rx : Rp (g.b B) H ι x v) (f : Fin g B H ι μ d Q) : rSl2 g.K v lo hi H Q := by
  have lists : ∀ {ds : List D} {a : Addr} {vs : List V}, some (D.lst (cutD ds lo hi)) = some d → v = .ref a → SqL g.K H a vs → RpL (g.b B) H ι ds vs → rSl2 g.K v lo hi H Q := by
    intro ds a vs e1 e2 e3 r
    cases e1
    exact .inr ⟨a, vs, e2, e3, f.lst m (r.cut lo hi)⟩
  cases x with
  | tup ds =>
    cases e
    have rx0 := rx
    obtain ⟨a, vs, rfl, h1, r⟩ := tup_at rx
    by_cases hw : HT.sIx vs.length 0 lo = 0 ∧ HT.sIx vs.length vs.length hi = vs.length
    · have e1 : cutV vs lo hi = vs := by
        unfold cutV
        rw [hw.1, hw.2]
        simp
      have e2 : cutD ds lo hi = ds := by
        unfold cutD
        rw [r.length, hw.1, hw.2, List.drop_zero, Nat.sub_zero, ← r.length, List.take_length]
      rw [e2] at f
      exact .inl ⟨a, vs, rfl, h1, .inl ⟨e1, hw.1, hw.2, f.now m rx0⟩⟩
    · exact .inl ⟨a, vs, rfl, h1, .inr ⟨hw, f.tup m (r.cut lo hi)⟩⟩
  | lst ds =>
    simp only [slcD, seqL, Option.map_some] at e
    obtain ⟨a, vs, rfl, h1, r⟩ := seqL_at m rx rfl
    exact lists e rfl h1 r
  | kls ds =>
    simp only [slcD, seqL, Option.map_some] at e
    obtain ⟨a, vs, rfl, h1, r⟩ := seqL_at m rx rfl
    exact lists e rfl h1 r
  | ref n =>
    simp only [slcD, Option.map_eq_some_iff] at e
    obtain ⟨ds, h0, e⟩ := e
    obtain ⟨a, vs, rfl, h1, r⟩ := seqL_at m rx h0
    exact lists (congrArg some e) rfl h1 r
  | _ => simp [slcD, seqL] at e
theorem rev_fin (e : revD μ x = some d) (m : MR (g.b B) H ι μ) (rx : Rp (g.b B) H ι x v) (f : Fin g B H ι μ d Q) :
    ∃ a xs, v = .ref a ∧ ((SqL g.K H a xs ∧ ∀ p, H p = none → Q (.ref p) (upd H p (.lst xs.reverse))) ∨ (SqT g.K H a xs ∧ ∀ p, H p = none → Q (.ref p) (upd H p (.tup xs.reverse)))) := by
  cases x with
  | tup ds =>
    cases e
    obtain ⟨a, vs, rfl, h1, r⟩ := tup_at rx
    exact ⟨a, vs, rfl, .inr ⟨h1, f.tup m r.reverse⟩⟩
  | lst ds =>
    cases e
    obtain ⟨a, vs, rfl, h1, r⟩ := seqL_at m rx rfl
    exact ⟨a, vs, rfl, .inl ⟨h1, f.lst m r.reverse⟩⟩
  | kls ds =>
    cases e
    obtain ⟨a, vs, rfl, h1, r⟩ := seqL_at m rx rfl
    exact ⟨a, vs, rfl, .inl ⟨h1, f.lst m r.reverse⟩⟩
  | ref n =>
    simp only [revD, Option.map_eq_some_iff] at e
    obtain ⟨ds, h0, e⟩ := e
    cases e
    obtain ⟨a, vs, rfl, h1, r⟩ := seqL_at m rx h0
    exact ⟨a, vs, rfl, .inl ⟨h1, f.lst m r.reverse⟩⟩
  | _ => simp [revD, seqL] at e

theorem RpK.put {κ : Type} [DecidableEq κ] {kvs : List (κ × D)} {ws : List (κ × V)} (r : RpK g H ι kvs ws) (k : κ) {d : D} {w : V} (rd : Rp g H ι d w) : RpK g H ι (putKd kvs k d) (putK ws k w) := by
  have any_ : ∀ {kvs : List (κ × D)} {ws : List (κ × V)}, kvs.map (·.1) = ws.map (·.1) → (kvs.any fun kv => decide (kv.1 = k)) = ws.any fun kv => decide (kv.1 = k) := by
    intro kvs
    induction kvs with
    | nil => intro ws h; cases ws with | nil => rfl | cons a b => cases h
    | cons p kvs ih =>
      intro ws h
      cases ws with
      | nil => cases h
      | cons q ws =>
        rw [List.map_cons, List.map_cons] at h
        have h1 := (List.cons.inj h).1
        rw [List.any_cons, List.any_cons, h1, ih (List.cons.inj h).2]
  have map_ : ∀ {kvs : List (κ × D)} {ws : List (κ × V)}, kvs.map (·.1) = ws.map (·.1) → RpL g H ι (kvs.map (·.2)) (ws.map (·.2)) → RpK g H ι (kvs.map fun kv => if kv.1 = k then (kv.1, d) else kv) (ws.map fun kv => if kv.1 = k then (kv.1, w) else kv) := by
    intro kvs
    induction kvs with
    | nil => intro ws h r; cases ws with | nil => exact ⟨rfl, .nil⟩ | cons a b => cases h
    | cons p kvs ih =>
      intro ws h r
      cases ws with
      | nil => cases h
      | cons q ws =>
        rw [List.map_cons, List.map_cons] at h r
        obtain ⟨h1, h2⟩ := List.cons.inj h
        have h1 : p.1 = q.1 := h1
        cases r with
        | cons r1 r2 =>
          obtain ⟨i1, i2⟩ := ih h2 r2
          by_cases hk : p.1 = k
          · have hq : q.1 = k := h1.symm.trans hk
            refine ⟨?_, ?_⟩
            · rw [List.map_cons, List.map_cons, List.map_cons, List.map_cons, i1, if_pos hk, if_pos hq, h1]
            · rw [List.map_cons, List.map_cons, List.map_cons, List.map_cons, if_pos hk, if_pos hq]
              exact .cons rd i2
          · have hq : ¬ q.1 = k := fun z => hk (h1.trans z)
            refine ⟨?_, ?_⟩
            · rw [List.map_cons, List.map_cons, List.map_cons, List.map_cons, i1, if_neg hk, if_neg hq, h1]
            · rw [List.map_cons, List.map_cons, List.map_cons, List.map_cons, if_neg hk, if_neg hq]
              exact .cons r1 i2
  unfold putKd putK
  rw [any_ r.1]
  split
  · exact map_ r.1 r.2
  · refine ⟨?_, ?_⟩
    · rw [List.map_append, List.map_append, r.1]; rfl
    · rw [List.map_append, List.map_append]
      exact r.2.append (.cons rd .nil)
theorem RpK.length {κ : Type} {kvs : List (κ × D)} {ws : List (κ × V)} (r : RpK g H ι kvs ws) : kvs.length = ws.length := by
  have := congrArg List.length r.1
  simpa using this
def rSet2 : V → V → V → Hp → (Hp → Prop) → Prop := fun o i v H Q => rSetL o i v H Q ∨ ∃ a H', o = .ref a ∧ DPut H a i v H' ∧ Q H'
theorem set2_ok {X : Cx} (hu : X.A.units + 1 < cLine) : PSet X rSet2 := by
  intro pins s σ H o i v ov iv u Q I ro ri rv h
  rcases h with h | ⟨a, H', rfl, dp, q⟩
  · exact set_list pins s σ H o i v ov iv u Q I ro ri rv h
  · obtain rfl : ov = Value.ref a := ro
    exact d_setItem hu I dp ri rv fun s4 I4 => ⟨H', I4, q⟩
theorem ixN_lt {n : Nat} {i : Int} {j : Nat} (h : ixN n i = some j) : j < n := (ixN_seq h).2.1
theorem set_fin {μ' : Mem} {z : D} {w : V} {Q : Hp → Prop} (e : setIxD μ x y z = some μ') (m : MR (g.b B) H ι μ) (rx : Rp (g.b B) H ι x v) (ry : Rp (g.b B) H ι y u) (rz : Rp (g.b B) H ι z w)
    (f : ∀ H', Nx [] H ι H' ι → MR (g.b B) H' ι μ' → Q H') : rSet2 v u w H Q := by
  have dks : ∀ {n : Nat} {kvs : List (Key × D)} {k : Key}, x = .ref n → μ[n]? = some (.dk kvs) → keyD y = some k → kvs.length < 1000 → μ.set n (.dk (putKd kvs k z)) = μ' → rSet2 v u w H Q := by
    intro n kvs k ex hn hk hl he
    subst ex he
    cases rx with
    | ref h =>
      obtain ⟨ws, hw, q⟩ := m.at_ _ _ _ hn h
      have ey := keyD_at ry hk
      subst ey
      refine .inr ⟨_, _, rfl, .k (k := k) hw (by rw [← q.length]; exact Nat.lt_trans hl (by decide)), ?_⟩
      obtain ⟨m', x'⟩ := m.write (u := .dK (putK ws k w)) (o := .dk (putKd kvs k z)) h ⟨_, hw, trivial⟩ trivial fun nx => ⟨_, upd_same, (q.put k rz).mono nx.w⟩
      exact f _ x' m'
  have dts : ∀ {n : Nat} {kvs : List (List Key × D)} {k : List Key}, x = .ref n → μ[n]? = some (.dt kvs) → keysD y = some k → kvs.length < 100000 → μ.set n (.dt (putKd kvs k z)) = μ' → rSet2 v u w H Q := by
    intro n kvs k ex hn hk hl he
    subst ex he
    cases rx with
    | ref h =>
      obtain ⟨ws, hw, q⟩ := m.at_ _ _ _ hn h
      obtain ⟨b, rfl, hb⟩ := keysD_at ry hk
      refine .inr ⟨_, _, rfl, .t (k := k) hw hb (by rw [← q.length]; exact Nat.lt_trans hl (by decide)), ?_⟩
      obtain ⟨m', x'⟩ := m.write (u := .dT (putK ws k w)) (o := .dt (putKd kvs k z)) h ⟨_, hw, trivial⟩ trivial fun nx => ⟨_, upd_same, (q.put k rz).mono nx.w⟩
      exact f _ x' m'
  unfold setIxD at e
  split at e
  · split at e
    · rename_i n i ds hn
      simp only [Option.map_eq_some_iff] at e
      obtain ⟨j, hj, rfl⟩ := e
      cases ry
      cases rx with
      | ref h =>
        obtain ⟨ws, hw, q⟩ := m.at_ _ _ _ hn h
        refine .inl ⟨_, ws, _, j, rfl, rfl, hw, by rw [← q.length]; exact hj, ?_⟩
        obtain ⟨m', x'⟩ := m.write (u := .lst (ws.set j w)) (o := .lst (ds.set j z)) h ⟨_, hw, trivial⟩ trivial fun nx => ⟨_, upd_same, (q.set j rz).mono nx.w⟩
        exact f _ x' m'
    · rename_i n i kvs hn
      split at e
      · rename_i hl
        exact dks rfl hn rfl hl (Option.some.inj e)
      · cases e
    · cases e
  · split at e
    · rename_i n kvs hn
      simp only [Option.bind_eq_some_iff] at e
      obtain ⟨k, hk, e⟩ := e
      split at e
      · rename_i hl
        exact dks rfl hn hk hl (Option.some.inj e)
      · cases e
    · rename_i n kvs hn
      simp only [Option.bind_eq_some_iff] at e
      obtain ⟨k, hk, e⟩ := e
      split at e
      · rename_i hl
        exact dts rfl hn hk hl (Option.some.inj e)
      · cases e
    · cases e
  · cases e
theorem app_fin {μ' : Mem} {z : D} {w : V} {Q : VK} (e : appD μ x z = some μ') (m : MR (g.b B) H ι μ) (rx : Rp (g.b B) H ι x v) (rz : Rp (g.b B) H ι z w)
    (f : ∀ H', Nx [] H ι H' ι → MR (g.b B) H' ι μ' → Q .non H') : tyV g.K "list" v H ∧ rAppend v [w] H Q := by
  unfold appD at e
  split at e
  · split at e
    · rename_i n ds hn
      split at e
      · rename_i hl
        cases e
        cases rx with
        | ref h =>
          obtain ⟨ws, hw, q⟩ := m.at_ _ _ _ hn h
          refine ⟨.inl ⟨rfl, _, .inl (.inl hw)⟩, _, ws, w, rfl, rfl, hw, by rw [← q.length]; exact hl, ?_⟩
          obtain ⟨m', x'⟩ := m.write (u := .lst (ws ++ [w])) (o := .lst (ds ++ [z])) h ⟨_, hw, trivial⟩ trivial fun nx => ⟨_, upd_same, (q.append (.cons rz .nil)).mono nx.w⟩
          exact f _ x' m'
      · cases e
    · cases e
  · cases e
end
end Mn
end
section
namespace Mn
open PySem PySem.Spec PyProof.Rows L2

def Blt.nm : Blt → Str
  | .len => "len" | .abs => "abs" | .min2 => "min" | .max2 => "max" | .sum => "sum" | .all => "all" | .any => "any" | .int => "int" | .str => "str" | .tuple => "tuple" | .list => "list" | .sorted => "sorted" | .minL => "min" | .maxL => "max"
def Blt.fv : Blt → Value
  | .len => .builtin "len" | .abs => .builtin "abs" | .min2 => .builtin "min" | .max2 => .builtin "max" | .sum => .builtin "sum" | .all => .builtin "all" | .any => .builtin "any" | .int => .type "int" | .str => .type "str" | .tuple => .type "tuple" | .list => .type "list" | .sorted => .builtin "sorted" | .minL => .builtin "min" | .maxL => .builtin "max"
def rBlt (K : Frg) : Blt → List V → Hp → VK → Prop
  | .len => fun xs H Q => ((∃ z, xs = [.str z] ∧ z.length ≤ sizeLine ∧ Q (.int z.length) H) ∨ (∃ p ys, xs = [.ref p] ∧ (SqL K H p ys ∨ SqT K H p ys) ∧ Q (.int ys.length) H)) ∨ ∃ a kvs, xs = [V.ref a] ∧ H a = some (.dK kvs) ∧ Q (.int kvs.length) H
  | .abs => fun xs H Q => ∃ i, xs = [.int i] ∧ Q (.int (if i < 0 then -i else i)) H
  | .min2 => fun xs H Q => ∃ i j, xs = [.int i, .int j] ∧ Q (.int (if j < i then j else i)) H
  | .max2 => fun xs H Q => ∃ i j, xs = [.int i, .int j] ∧ Q (.int (if j > i then j else i)) H
  | .sum => rSum K
  | .all => rAll K
  | .any => rAny K
  | .int => fun xs H Q => (∃ i, xs = [.int i] ∧ Q (.int i) H) ∨ ∃ k, xs = [.bl k] ∧ Q (.int (if k then 1 else 0)) H
  | .str => fun xs H Q => ∃ i, xs = [.int i] ∧ i.natAbs.log2 < 1920 ∧ Q (.str (toString i)) H
  | .tuple => fun xs H Q => ∃ p ys, xs = [.ref p] ∧ ((SqL K H p ys ∧ ∀ l, H l = none → Q (.ref l) (upd H l (.tup ys))) ∨ (SqT K H p ys ∧ Q (.ref p) H))
  | .list => fun xs H Q => ∃ p ys, xs = [.ref p] ∧ (SqL K H p ys ∨ SqT K H p ys) ∧ ∀ l, H l = none → Q (.ref l) (upd H l (.lst ys))
  | .sorted => rSorted K
  | .minL => rMin K
  | .maxL => rMax K
theorem blt_ok {X : Cx} (hc : X.calm = true) : ∀ b : Blt, CallR X b.fv (rBlt X.K b)
  | .len => (call_len_str.or call_len_seq).or call_lenD
  | .abs => call_abs
  | .min2 => call_min2 hc
  | .max2 => call_max2 hc
  | .sum => cr_sum hc
  | .all => cr_all hc
  | .any => cr_any hc
  | .int => call_int1
  | .str => call_str_int
  | .tuple => call_tuple_of
  | .list => call_list_of
  | .sorted => cr_sorted
  | .minL => cr_min hc
  | .maxL => cr_max hc
section
variable {g : G} {B : List Addr} {H : Hp} {ι : List Addr} {μ : Mem} {d : D} {Q : VK}
theorem RpL.one {x : D} {vs : List V} (r : RpL g H ι [x] vs) : ∃ v, vs = [v] ∧ Rp g H ι x v := by
  cases r with
  | cons r t => cases t; exact ⟨_, rfl, r⟩
theorem RpL.two {x y : D} {vs : List V} (r : RpL g H ι [x, y] vs) : ∃ v u, vs = [v, u] ∧ Rp g H ι x v ∧ Rp g H ι y u := by
  cases r with
  | cons r t => obtain ⟨u, rfl, r2⟩ := t.one; exact ⟨_, _, rfl, r, r2⟩
theorem ints_rp : ∀ ns : List Int, RpL g H ι (ns.map D.int) (ns.map V.int)
  | [] => .nil
  | n :: ns => .cons (.int n) (ints_rp ns)
theorem sortI_is {ns ns' : List Int} (h1 : ns'.Perm ns) (h2 : ns'.Pairwise (· ≤ ·)) : ns' = sortI ns := by
  refine PySem.W.ksm_same (h1.trans (List.mergeSort_perm ns _).symm) h2 ?_
  have := List.pairwise_mergeSort (le := fun (a b : Int) => decide (a ≤ b)) (fun a b c h1 h2 => by simp at *; omega) (fun a b => by simp; omega) ns
  exact this.imp fun h => by simpa using h
theorem blt_fin {b : Blt} {xs : List D} {vs : List V} (e : bltD μ b xs = some d) (m : MR (g.b B) H ι μ) (rr : RpL (g.b B) H ι xs vs) (f : Fin g B H ι μ d Q) : rBlt g.K b vs H Q := by
  unfold bltD at e
  split at e
  · -- len of a text
    split at e
    · rename_i h
      cases e
      obtain ⟨v, rfl, r⟩ := rr.one
      cases r
      exact .inl (.inl ⟨_, rfl, h, f.now m (.int _)⟩)
    · cases e
  · -- len
    obtain ⟨v, rfl, r⟩ := rr.one
    split at e
    · rename_i n
      cases r with
      | ref h =>
        split at e
        · rename_i ds hn
          cases e
          obtain ⟨ws, hw, q⟩ := m.at_ _ _ _ hn h
          exact .inl (.inr ⟨_, ws, rfl, .inl (.inl (.inl hw)), by rw [← q.length]; exact f.now m (.int _)⟩)
        · rename_i ds hn
          cases e
          obtain ⟨ws, hw, q⟩ := m.at_ _ _ _ hn h
          exact .inr ⟨_, ws, rfl, hw, by rw [← q.length]; exact f.now m (.int _)⟩
        · cases e
    · simp only [Option.map_eq_some_iff] at e
      obtain ⟨ds, h1, rfl⟩ := e
      obtain ⟨a, ws, rfl, h2, q⟩ := seqA_at m r h1
      exact .inl (.inr ⟨a, ws, rfl, h2, by rw [← q.length]; exact f.now m (.int _)⟩)
  · cases e
    obtain ⟨v, rfl, r⟩ := rr.one
    cases r
    exact ⟨_, rfl, f.now m (.int _)⟩
  · cases e
    obtain ⟨v, u, rfl, r, r2⟩ := rr.two
    cases r; cases r2
    exact ⟨_, _, rfl, f.now m (.int _)⟩
  · cases e
    obtain ⟨v, u, rfl, r, r2⟩ := rr.two
    cases r; cases r2
    exact ⟨_, _, rfl, f.now m (.int _)⟩
  · simp only [Option.bind_eq_some_iff, Option.map_eq_some_iff] at e
    obtain ⟨ds, h1, ns, h2, rfl⟩ := e
    obtain ⟨v, rfl, r⟩ := rr.one
    obtain ⟨a, ws, rfl, h3, q⟩ := seqL_at m r h1
    exact ⟨a, ns, rfl, by rw [← ints_at q h2]; exact h3, f.now m (.int _)⟩
  · simp only [Option.bind_eq_some_iff, Option.map_eq_some_iff] at e
    obtain ⟨ds, h1, ns, h2, rfl⟩ := e
    obtain ⟨v, rfl, r⟩ := rr.one
    obtain ⟨a, ws, rfl, h3, q⟩ := seqL_at m r h1
    exact ⟨a, ns, rfl, by rw [← bools_at q h2]; exact h3, f.now m (.bl _)⟩
  · simp only [Option.bind_eq_some_iff, Option.map_eq_some_iff] at e
    obtain ⟨ds, h1, ns, h2, rfl⟩ := e
    obtain ⟨v, rfl, r⟩ := rr.one
    obtain ⟨a, ws, rfl, h3, q⟩ := seqL_at m r h1
    exact ⟨a, ns, rfl, by rw [← bools_at q h2]; exact h3, f.now m (.bl _)⟩
  · cases e
    obtain ⟨v, rfl, r⟩ := rr.one
    cases r
    exact .inl ⟨_, rfl, f.now m (.int _)⟩
  · cases e
    obtain ⟨v, rfl, r⟩ := rr.one
    cases r
    exact .inr ⟨_, rfl, f.now m (.int _)⟩
  · simp only [Option.map_eq_some_iff] at e
    obtain ⟨ds, h1, rfl⟩ := e
    obtain ⟨v, rfl, r⟩ := rr.one
    rename_i x
    cases x with
    | tup xs =>
      cases h1
      have r0 := r
      obtain ⟨a, ws, rfl, h2, q⟩ := tup_at r
      exact ⟨a, ws, rfl, .inr ⟨h2, f.now m r0⟩⟩
    | lst xs =>
      obtain ⟨a, ws, rfl, h2, q⟩ := seqL_at m r h1
      exact ⟨a, ws, rfl, .inl ⟨h2, f.tup m q⟩⟩
    | kls xs =>
      obtain ⟨a, ws, rfl, h2, q⟩ := seqL_at m r h1
      exact ⟨a, ws, rfl, .inl ⟨h2, f.tup m q⟩⟩
    | ref n =>
      obtain ⟨a, ws, rfl, h2, q⟩ := seqL_at m r h1
      exact ⟨a, ws, rfl, .inl ⟨h2, f.tup m q⟩⟩
    | _ => simp [seqA, seqL] at h1
  · simp only [Option.map_eq_some_iff] at e
    obtain ⟨ds, h1, rfl⟩ := e
    obtain ⟨v, rfl, r⟩ := rr.one
    obtain ⟨a, ws, rfl, h2, q⟩ := seqA_at m r h1
    exact ⟨a, ws, rfl, h2, f.lst m q⟩
  · simp only [Option.bind_eq_some_iff] at e
    obtain ⟨ds, h1, ns, h2, h3⟩ := e
    split at h3
    · rename_i h64
      cases h3
      obtain ⟨v, rfl, r⟩ := rr.one
      obtain ⟨a, ws, rfl, h4, q⟩ := seqL_at m r h1
      refine ⟨a, ns, rfl, by rw [← ints_at q h2]; exact h4, h64, fun ns' p hp hs hn => ?_⟩
      rw [sortI_is hp hs]
      exact f.lst m (ints_rp _) p hn
    · cases h3
  · cases e
end
end Mn
end
section
namespace Mn
open PySem PySem.Spec PyProof.Rows L2

def PostS (g : G) (W : WX) (B : List Addr) (H : Hp) (ι : List Addr) (D' : Ends) : O → Prop
  | .nx sl' μ' => ∀ σ' H' ι', Nx [] H ι H' ι' → MR (g.b B) H' ι' μ' → SR (g.b B) H' ι' sl' σ' → D'.nx σ' H'
  | .rt d μ' => ∀ v H' ι', Nx [] H ι H' ι' → MR (g.b B) H' ι' μ' → Rp (g.b B) H' ι' d v → D'.rt v H'
  | .ex x sl' μ' => ∀ cls dd σ' H' ι', Nx [] H ι H' ι' → MR (g.b B) H' ι' μ' → SR (g.b B) H' ι' sl' σ' → XRp (g.b B) H' ι' x cls dd → W cls dd σ' H'
  | .bk sl' μ' => ∀ σ' H' ι', Nx [] H ι H' ι' → MR (g.b B) H' ι' μ' → SR (g.b B) H' ι' sl' σ' → D'.bk σ' H'
  | .ct sl' μ' => ∀ σ' H' ι', Nx [] H ι H' ι' → MR (g.b B) H' ι' μ' → SR (g.b B) H' ι' sl' σ' → D'.ct σ' H'
def rdS (g : G) (W : WX) (f : Sl → Mem → Option O) : TS := fun D' σ H =>
  ∃ B ι μ sl o, MR (g.b B) H ι μ ∧ SR (g.b B) H ι sl σ ∧ f sl μ = some o ∧ PostS g W B H ι D' o
theorem PostS.from {g : G} {W : WX} {B : List Addr} {H H' : Hp} {ι ι' : List Addr} {D' : Ends} {o : O} (p : PostS g W B H ι D' o) (x : Nx [] H ι H' ι') : PostS g W B H' ι' D' o := by
  cases o with
  | nx sl μ => exact fun σ2 H2 ι2 y m r => p σ2 H2 ι2 (x.trans y) m r
  | rt d μ => exact fun σ2 H2 ι2 y m r => p σ2 H2 ι2 (x.trans y) m r
  | ex e sl μ => exact fun c d σ2 H2 ι2 y m r q => p c d σ2 H2 ι2 (x.trans y) m r q
  | bk sl μ => exact fun σ2 H2 ι2 y m r => p σ2 H2 ι2 (x.trans y) m r
  | ct sl μ => exact fun σ2 H2 ι2 y m r => p σ2 H2 ι2 (x.trans y) m r

def OkB (g : G) (H₀ : Hp) (B : List Addr) : Prop := ∀ b ∈ B, b ∈ g.B ∨ H₀ b = none
theorem OkB.self {g : G} {H₀ : Hp} : OkB g H₀ g.B := fun _ h => .inl h
theorem Nx.fixB {g : G} {B' : List Addr} {H H' : Hp} {ι ι' : List Addr} (x : Nx B' H ι H' ι') (ok : OkB g H B') {a : Addr} {o : HO} (h : Fix g H ι a o) (nt : ∀ ps, o ≠ .tbl ps) : Fix (g.b B') H' ι' a o := by
  have nb : a ∉ B' := fun z => (ok a z).elim h.2.1 fun q => by rw [h.2.2] at q; cases q
  exact ⟨x.notin h.1 h.2.2 nt, nb, x.ext a o h.1 nb nt h.2.2⟩
mutual
theorem Rp.monoB {g : G} {B' : List Addr} {H H' : Hp} {ι ι' : List Addr} (x : Nx B' H ι H' ι') (ok : OkB g H B') : ∀ {d : D} {v : V}, Rp g H ι d v → Rp (g.b B') H' ι' d v
  | _, _, .non => .non
  | _, _, .bl b => .bl b
  | _, _, .int i => .int i
  | _, _, .str s => .str s
  | _, _, .tup f r => .tup (x.fixB ok f fun _ z => nomatch z) (r.monoB x ok)
  | _, _, .lst f r => .lst (x.fixB ok f fun _ z => nomatch z) (r.monoB x ok)
  | _, _, .frz f r => .frz (x.fixB ok f fun _ z => nomatch z) (r.monoB x ok)
  | _, _, .kfz f r => .kfz (x.fixB ok f fun _ z => nomatch z) (r.monoB x ok)
  | _, _, .klp f r => .klp (x.fixB ok f fun _ z => nomatch z) (r.monoB x ok)
  | _, _, .kkk k r => .kkk k (r.monoB x ok)
  | _, _, .ref h => .ref (x.get h)
  | _, _, .exc c f1 f2 hf hl r => .exc c (x.fixB ok f1 ExV_ne) (x.fixB ok f2 fun _ z => nomatch z) hf hl (r.monoB x ok)
  | _, _, .exc0 c f1 e => .exc0 c (x.fixB ok f1 ExV_ne) e
  | _, _, .opq h f => .opq h (x.fixB ok f LamX.codeO_ne)
theorem RpL.monoB {g : G} {B' : List Addr} {H H' : Hp} {ι ι' : List Addr} (x : Nx B' H ι H' ι') (ok : OkB g H B') : ∀ {ds : List D} {vs : List V}, RpL g H ι ds vs → RpL (g.b B') H' ι' ds vs
  | _, _, .nil => .nil
  | _, _, .cons r t => .cons (r.monoB x ok) (t.monoB x ok)
end
structure WalkD (g : G) (H₀ : Hp) (ι₀ : List Addr) (J : It) (xs : List D) : Prop where
  go : ∀ B' i H ι, OkB g H₀ B' → i < xs.length → Nx B' H₀ ι₀ H ι → J.go i H
  stop : ∀ B' H ι, OkB g H₀ B' → Nx B' H₀ ι₀ H ι → J.stop xs.length H
  yld : ∀ B' i H ι μ v H', OkB g H₀ B' → i < xs.length → Nx B' H₀ ι₀ H ι → MR (g.b B') H ι μ → J.yld i H v H' → Nx [] H ι H' ι ∧ MR (g.b B') H' ι μ ∧ ∃ d, xs[i]? = some d ∧ Rp (g.b B') H' ι d v
def PostI (g : G) (W : WX) (B : List Addr) (σ : Sg) (H : Hp) (ι : List Addr) (R' : It → Hp → Prop) : R (List D) → Prop
  | .ok xs μ' => ∀ J H' ι', Nx [] H ι H' ι' → MR (g.b B) H' ι' μ' → WalkD (g.b B) H' ι' J xs → R' J H'
  | .ex x μ' => ∀ cls dd H' ι', Nx [] H ι H' ι' → MR (g.b B) H' ι' μ' → XRp (g.b B) H' ι' x cls dd → W cls dd σ H'
theorem PostI.from {g : G} {W : WX} {B : List Addr} {σ : Sg} {H H' : Hp} {ι ι' : List Addr} {R' : It → Hp → Prop} {r : R (List D)} (p : PostI g W B σ H ι R' r) (x : Nx [] H ι H' ι') : PostI g W B σ H' ι' R' r := by
  cases r with
  | ok a μ' => exact fun b H2 ι2 y m r => p b H2 ι2 (x.trans y) m r
  | ex e μ' => exact fun c d H2 ι2 y m r => p c d H2 ι2 (x.trans y) m r
def rdI (g : G) (W : WX) (f : Sl → Mem → Option (R (List D))) : TI := fun σ H R' =>
  ∃ B ι μ sl r, MR (g.b B) H ι μ ∧ SR (g.b B) H ι sl σ ∧ f sl μ = some r ∧ PostI g W B σ H ι R' r

section
variable {g : G} {W : WX} {σ : Sg} {H : Hp}
theorem onS {fa : Sl → Mem → Option (R D)} {k : D → Sl → Mem → Option O} {D' : Ends} (h : rdS g W (fun sl μ => onE (fa sl μ) sl fun x μ1 => k x sl μ1) D' σ H) :
    rd g W fa σ H fun v H1 => ∃ B ι μ sl x o, MR (g.b B) H1 ι μ ∧ SR (g.b B) H1 ι sl σ ∧ Rp (g.b B) H1 ι x v ∧ k x sl μ = some o ∧ PostS g W B H1 ι D' o := by
  obtain ⟨B, ι, μ, sl, o, mr, sr, e, p⟩ := h
  dsimp only at e
  cases q : fa sl μ with
  | none => rw [q] at e; cases e
  | some ra =>
    rw [q] at e
    refine ⟨B, ι, μ, sl, [], ra, mr, sr, .nil, q, ?_⟩
    cases ra with
    | ok x μ1 => exact fun v H1 ι1 x1 m1 r1 => ⟨B, ι1, μ1, sl, x, o, m1, sr.mono x1.w, r1, e, p.from x1⟩
    | ex x μ1 =>
      cases e
      exact fun cls dd H1 ι1 x1 m1 r1 => p cls dd σ H1 ι1 x1 m1 (sr.mono x1.w) r1
theorem onI {fa : Sl → Mem → Option (R D)} {k : D → Sl → Mem → Option (R (List D))} {R' : It → Hp → Prop} (h : rdI g W (fun sl μ => R.bind (fa sl μ) fun x μ1 => k x sl μ1) σ H R') :
    rd g W fa σ H fun v H1 => ∃ B ι μ sl x r, MR (g.b B) H1 ι μ ∧ SR (g.b B) H1 ι sl σ ∧ Rp (g.b B) H1 ι x v ∧ k x sl μ = some r ∧ PostI g W B σ H1 ι R' r := by
  obtain ⟨B, ι, μ, sl, r, mr, sr, e, p⟩ := h
  dsimp only at e
  cases q : fa sl μ with
  | none => rw [q] at e; cases e
  | some ra =>
    rw [q] at e
    refine ⟨B, ι, μ, sl, [], ra, mr, sr, .nil, q, ?_⟩
    cases ra with
    | ok x μ1 => exact fun v H1 ι1 x1 m1 r1 => ⟨B, ι1, μ1, sl, x, r, m1, sr.mono x1.w, r1, e, p.from x1⟩
    | ex x μ1 =>
      cases e
      exact p
end

section
variable {g : G} {H₀ : Hp} {ι₀ : List Addr}
theorem walkD_of {J : It} {n : Nat} {Gp : Hp → Prop} {vs : List V} {xs : List D} (w : Walk J n Gp (YAt vs)) (hn : vs.length = n) (r : RpL g H₀ ι₀ xs vs) (hG : ∀ B' H ι, OkB g H₀ B' → Nx B' H₀ ι₀ H ι → Gp H) : WalkD g H₀ ι₀ J xs := by
  have hl : xs.length = n := r.length.trans hn
  refine ⟨fun B' i H ι ok hi x => w.goes i H (by omega) (hG B' H ι ok x), fun B' H ι ok x => by rw [hl]; exact w.stops H (hG B' H ι ok x), fun B' i H ι μ v H' ok hi x m y => ?_⟩
  obtain ⟨rfl, e⟩ := w.yields i H v H' (by omega) (hG B' H ι ok x) y
  obtain ⟨d, h1, h2⟩ := r.getV e
  exact ⟨.refl, m, d, h1, h2.monoB x ok⟩
theorem walkD_pair {J : It} {n : Nat} {Gp : Hp → Prop} {as bs : List D} {fa fb : Nat → Option V} {va vb : List V} (w : Walk J n Gp (YPair fa fb)) (ha : as.length = n) (hb : bs.length = n) (ra : RpL g H₀ ι₀ as va) (rb : RpL g H₀ ι₀ bs vb)
    (ea : ∀ i, i < n → fa i = va[i]?) (eb : ∀ i, i < n → fb i = vb[i]?) (hG : ∀ B' H ι, OkB g H₀ B' → Nx B' H₀ ι₀ H ι → Gp H) :
    WalkD g H₀ ι₀ J (as.zipWith (fun a b => D.tup [a, b]) bs) := by
  have hl : (as.zipWith (fun a b => D.tup [a, b]) bs).length = n := by rw [List.length_zipWith]; omega
  refine ⟨fun B' i H ι ok hi x => w.goes i H (by omega) (hG B' H ι ok x), fun B' H ι ok x => by rw [hl]; exact w.stops H (hG B' H ι ok x), fun B' i H ι μ v H' ok hi x m y => ?_⟩
  obtain ⟨T, a, b, rfl, hT, rfl, e1, e2⟩ := w.yields i H v H' (by omega) (hG B' H ι ok x) y
  rw [ea i (by omega)] at e1
  rw [eb i (by omega)] at e2
  obtain ⟨d1, h1, r1⟩ := ra.getV e1
  obtain ⟨d2, h2, r2⟩ := rb.getV e2
  have nx : Nx [] H ι (upd H T (.tup [a, b])) ι := Nx.laid hT
  refine ⟨nx, m.laid hT, .tup [d1, d2], ?_, .tup ⟨m.fresh hT, m.freshB hT, upd_same⟩ (.cons ((r1.monoB x ok).mono nx.w) (.cons ((r2.monoB x ok).mono nx.w) .nil))⟩
  rw [List.getElem?_zipWith, h1, h2]
theorem fixed_lst {xs : List D} {v : V} (r : Rp g H₀ ι₀ (.lst xs) v) : ∃ a vs, v = .ref a ∧ RpL g H₀ ι₀ xs vs ∧ ∀ B' H ι, OkB g H₀ B' → Nx B' H₀ ι₀ H ι → SqL g.K H a vs := by
  cases r with
  | lst f q => exact ⟨_, _, rfl, q, fun B' H ι ok x => .inl (.inl (x.fixB ok f fun _ z => nomatch z).2.2)⟩
  | frz f q => exact ⟨_, _, rfl, q, fun B' H ι ok x => .inl (.inr ⟨_, (x.fixB ok f fun _ z => nomatch z).2.2⟩)⟩
theorem fixed_kls {xs : List D} {v : V} (r : Rp g H₀ ι₀ (.kls xs) v) : ∃ a vs, v = .ref a ∧ RpL g H₀ ι₀ xs vs ∧ ∀ B' H ι, OkB g H₀ B' → Nx B' H₀ ι₀ H ι → SqL g.K H a vs := by
  cases r with
  | kfz f q => exact ⟨_, _, rfl, q, fun B' H ι ok x => .inl (.inr ⟨_, (x.fixB ok f fun _ z => nomatch z).2.2⟩)⟩
  | klp f q => exact ⟨_, _, rfl, q, fun B' H ι ok x => .inl (.inl (x.fixB ok f fun _ z => nomatch z).2.2)⟩
  | kkk k q => exact ⟨_, _, rfl, q, fun B' H ι ok x => .inr k⟩
theorem fixed_tup {xs : List D} {v : V} (r : Rp g H₀ ι₀ (.tup xs) v) : ∃ a vs, v = .ref a ∧ RpL g H₀ ι₀ xs vs ∧ ∀ B' H ι, OkB g H₀ B' → Nx B' H₀ ι₀ H ι → SqT g.K H a vs := by
  cases r with
  | tup f q => exact ⟨_, _, rfl, q, fun B' H ι ok x => .inl (.inl (x.fixB ok f fun _ z => nomatch z).2.2)⟩
theorem walkD_range {lo : Int} {n : Nat} : WalkD g H₀ ι₀ (Itr lo n) ((List.range n).map fun (i : Nat) => D.int (lo + (i : Int))) := by
  have hl : ((List.range n).map fun (i : Nat) => D.int (lo + (i : Int))).length = n := by simp
  refine ⟨fun B' i H ι _ hi _ => by rw [hl] at hi; exact hi, fun B' H ι _ _ => by rw [hl]; exact Nat.le_refl _, fun B' i H ι μ v H' _ hi x m y => ?_⟩
  obtain ⟨rfl, rfl⟩ := y
  rw [hl] at hi
  exact ⟨.refl, m, .int (lo + (i : Int)), by rw [List.getElem?_map, List.getElem?_range hi]; rfl, .int _⟩
end

def gsOf : List Nat → TGs
  | [] => gNil
  | i :: is => gCons (gName i) (gsOf is)
def tgR (K : Frg) : Tg → TG
  | .nm i => gName i
  | .tup is => gTup K is.length (gsOf is)
section
variable {g : G} {H : Hp} {ι : List Addr}
theorem gs_fin {k : Sg → Hp → Prop} : ∀ {is : List Nat} {ds : List D} {vs : List V} {sl : Sl} {σ : Sg}, ds.length = is.length → RpL g H ι ds vs → SR g H ι sl σ → (∀ σ2, SR g H ι ((is.zip ds).foldl (fun s p => s.set p.1 (some p.2)) sl) σ2 → k σ2 H) → gsOf is vs σ H k
  | [], [], _, sl, σ, _, .nil, sr, h => ⟨rfl, h σ sr⟩
  | i :: is, d :: ds, _, sl, σ, hl, .cons r t, sr, h => ⟨_, _, rfl, gs_fin (by simpa using hl) t (sr.set i r) h⟩
theorem tg_fin {tg : Tg} {d : D} {v : V} {sl sl2 : Sl} {σ : Sg} {k : Sg → Hp → Prop} (e : asgTg tg d sl = some sl2) (sr : SR g H ι sl σ) (r : Rp g H ι d v) (h : ∀ σ2, SR g H ι sl2 σ2 → k σ2 H) : tgR g.K tg v σ H k := by
  cases tg with
  | nm i =>
    cases e
    exact h _ (sr.set i r)
  | tup is =>
    simp only [asgTg] at e
    split at e
    · split at e
      · rename_i ds hl
        cases e
        obtain ⟨a, vs, rfl, h1, q⟩ := tup_at r
        exact ⟨a, vs, rfl, h1, by rw [← q.length, hl], gs_fin hl q sr h⟩
      · cases e
    · cases e
end

section
variable {g : G} {W : WX} {σ : Sg} {H : Hp}
theorem drop_get {α : Type} {l : List α} {i : Nat} {x : α} (h : l[i]? = some x) : l.drop i = x :: l.drop (i + 1) := by
  obtain ⟨hl, e⟩ := List.getElem?_eq_some_iff.mp h
  rw [← e]
  exact List.drop_eq_getElem_cons hl
theorem for_rd {fi : Sl → Mem → Option (R (List D))} {tg : Tg} {fb : Sl → Mem → Option O} {D' : Ends}
    (h : rdS g W (fun sl μ => onL (fi sl μ) sl fun xs μ1 => forGo (fun x sl1 μ2 => (asgTg tg x sl1).bind fun sl2 => fb sl2 μ2) xs sl μ1) D' σ H) : tFor (rdI g W fi) (tgR g.K tg) (rdS g W fb) D' σ H := by
  obtain ⟨B, ι, μ, sl, o, mr, sr, e, p⟩ := h
  dsimp only at e
  cases q : fi sl μ with
  | none => rw [q] at e; cases e
  | some ra =>
    rw [q] at e
    refine ⟨B, ι, μ, sl, ra, mr, sr, q, ?_⟩
    cases ra with
    | ex x μ1 =>
      cases e
      exact fun cls dd H1 ι1 x1 m1 r1 => p cls dd σ H1 ι1 x1 m1 (sr.mono x1.w) r1
    | ok xs μ1 =>
      intro J H1 ι1 x1 m1 w
      rw [onL_ok] at e
      refine ⟨fun i m σ' H' => m = xs.length - i ∧ i ≤ xs.length ∧ ∃ ι' μ' sl', Nx [] H1 ι1 H' ι' ∧ MR (g.b B) H' ι' μ' ∧ SR (g.b B) H' ι' sl' σ' ∧ forGo (fun x sl1 μ2 => (asgTg tg x sl1).bind fun sl2 => fb sl2 μ2) (xs.drop i) sl' μ' = some o, ⟨xs.length, by simp, Nat.zero_le _, ι1, μ1, sl, .refl, m1, sr.mono x1.w, e⟩, ?_⟩
      rintro i m σ' H' ⟨rfl, hi, ι', μ', sl', nx, mr', sr', e'⟩
      by_cases hlt : i < xs.length
      · refine .inr ⟨w.go B i H' ι' OkB.self hlt nx.w, fun σ2 H2 => i + 1 ≤ xs.length ∧ ∃ ι' μ' sl', Nx [] H1 ι1 H2 ι' ∧ MR (g.b B) H2 ι' μ' ∧ SR (g.b B) H2 ι' sl' σ2 ∧ forGo (fun x sl1 μ2 => (asgTg tg x sl1).bind fun sl2 => fb sl2 μ2) (xs.drop (i + 1)) sl' μ' = some o, fun σ2 H2 ⟨h1, h2⟩ => ⟨xs.length - (i + 1), by omega, rfl, h1, h2⟩, fun v H2 y => ?_⟩
        obtain ⟨nx2, mr2, d, hd, rd'⟩ := w.yld B i H' ι' μ' v H2 OkB.self hlt nx.w mr' y
        rw [drop_get hd] at e'
        simp only [forGo] at e'
        cases ha : asgTg tg d sl' with
        | none => rw [ha] at e'; cases e'
        | some sl2 =>
          rw [ha] at e'
          simp only [Option.bind_some] at e'
          refine tg_fin (g := g.b B) ha (sr'.mono nx2.w) rd' fun σ2 sr2 => ?_
          cases hb : fb sl2 μ' with
          | none => rw [hb] at e'; cases e'
          | some ob =>
            rw [hb] at e'
            refine ⟨B, ι', μ', sl2, ob, mr2, sr2, hb, ?_⟩
            have n12 : Nx [] H ι H2 ι' := (x1.trans nx).trans nx2
            cases ob with
            | nx sl3 μ3 => exact fun σ3 H3 ι3 x3 m3 s3 => ⟨hlt, ι3, μ3, sl3, (nx.trans nx2).trans x3, m3, s3, e'⟩
            | ct sl3 μ3 => exact fun σ3 H3 ι3 x3 m3 s3 => ⟨hlt, ι3, μ3, sl3, (nx.trans nx2).trans x3, m3, s3, e'⟩
            | bk sl3 μ3 =>
              cases e'
              exact fun σ3 H3 ι3 x3 m3 s3 => p σ3 H3 ι3 (n12.trans x3) m3 s3
            | rt d3 μ3 =>
              cases e'
              exact fun v3 H3 ι3 x3 m3 s3 => p v3 H3 ι3 (n12.trans x3) m3 s3
            | ex x3 sl3 μ3 =>
              cases e'
              exact fun c3 d3 σ3 H3 ι3 x3 m3 s3 r3 => p c3 d3 σ3 H3 ι3 (n12.trans x3) m3 s3 r3
      · have hi' : i = xs.length := by omega
        subst hi'
        rw [List.drop_length] at e'
        cases e'
        exact .inl ⟨w.stop B H' ι' OkB.self nx.w, p σ' H' ι' (x1.trans nx) mr' sr'⟩

theorem wh_rd {fc : Sl → Mem → Option (R D)} {fb : Sl → Mem → Option O} {F : Nat} {D' : Ends} (h : rdS g W (fun sl μ => whGo fc fb F sl μ) D' σ H) :
    tWhile (rdT g W fun sl μ => R.bind (fc sl μ) fun d μ1 => asB d fun k => some (.ok k μ1)) (rdS g W fb) D' σ H := by
  obtain ⟨B, ι, μ, sl, o, mr, sr, e, p⟩ := h
  refine ⟨fun m σ' H' => ∃ ι' μ' sl', Nx [] H ι H' ι' ∧ MR (g.b B) H' ι' μ' ∧ SR (g.b B) H' ι' sl' σ' ∧ whGo fc fb m sl' μ' = some o, ⟨F, ι, μ, sl, .refl, mr, sr, e⟩, ?_⟩
  rintro m σ' H' ⟨ι', μ', sl', nx, mr', sr', e'⟩
  cases m with
  | zero => cases e'
  | succ m =>
    simp only [whGo] at e'
    cases hc : fc sl' μ' with
    | none => rw [hc] at e'; cases e'
    | some rc =>
      rw [hc] at e'
      cases rc with
      | ex x μ1 =>
        cases e'
        refine ⟨B, ι', μ', sl', [], .ex x μ1, mr', sr', .nil, by simp [hc], ?_⟩
        exact fun cls dd H1 ι1 x1 m1 r1 => p cls dd σ' H1 ι1 (nx.trans x1) m1 (sr'.mono x1.w) r1
      | ok d μ1 =>
        simp only [onE_ok] at e'
        cases d with
        | bl k =>
          rw [asB_bl] at e'
          refine ⟨B, ι', μ', sl', [], .ok k μ1, mr', sr', .nil, by simp [hc], ?_⟩
          intro b H1 ι1 x1 m1 hb
          have hb : k = b := hb
          subst hb
          cases k with
          | false =>
            cases e'
            exact p σ' H1 ι1 (nx.trans x1) m1 (sr'.mono x1.w)
          | true =>

            rw [if_pos rfl] at e' ⊢
            refine ⟨fun σ2 H2 => ∃ ι' μ' sl', Nx [] H ι H2 ι' ∧ MR (g.b B) H2 ι' μ' ∧ SR (g.b B) H2 ι' sl' σ2 ∧ whGo fc fb m sl' μ' = some o, fun σ2 H2 h2 => ⟨m, Nat.lt_succ_self _, h2⟩, ?_⟩
            cases hb : fb sl' μ1 with
            | none => rw [hb] at e'; cases e'
            | some ob =>
              rw [hb] at e'
              refine ⟨B, ι1, μ1, sl', ob, m1, sr'.mono x1.w, hb, ?_⟩
              have n12 : Nx [] H ι H1 ι1 := nx.trans x1
              cases ob with
              | nx sl3 μ3 => exact fun σ3 H3 ι3 x3 m3 s3 => ⟨ι3, μ3, sl3, n12.trans x3, m3, s3, e'⟩
              | ct sl3 μ3 => exact fun σ3 H3 ι3 x3 m3 s3 => ⟨ι3, μ3, sl3, n12.trans x3, m3, s3, e'⟩
              | bk sl3 μ3 =>
                cases e'
                exact fun σ3 H3 ι3 x3 m3 s3 => p σ3 H3 ι3 (n12.trans x3) m3 s3
              | rt d3 μ3 =>
                cases e'
                exact fun v3 H3 ι3 x3 m3 s3 => p v3 H3 ι3 (n12.trans x3) m3 s3
              | ex x3 sl3 μ3 =>
                cases e'
                exact fun c3 d3 σ3 H3 ι3 x3 m3 s3 r3 => p c3 d3 σ3 H3 ι3 (n12.trans x3) m3 s3 r3
        | _ => cases e'
end
end Mn
end
section
namespace Mn
open PySem PySem.Spec PyProof.Rows L2

section
variable {g : G} {B : List Addr} {H : Hp} {ι : List Addr} {μ : Mem} {a : Addr} {o : HO}
theorem fix_in {b : Addr} {u : HO} (f : Fix (g.b B) H ι b u) (hn : H a = none) : Fix (g.b (a :: B)) (upd H a o) ι b u := by
  have ne : b ≠ a := ne_of_none f.2.2 hn
  exact ⟨f.1, by simp only [List.mem_cons, not_or]; exact ⟨ne, f.2.1⟩, by rw [upd_ne ne]; exact f.2.2⟩
theorem fix_out {b : Addr} {u : HO} (f : Fix (g.b (a :: B)) H ι b u) : Fix (g.b B) (del H a) ι b u := by
  have ne : b ≠ a ∧ b ∉ B := by simpa using f.2.1
  exact ⟨f.1, ne.2, by rw [del_ne ne.1]; exact f.2.2⟩
mutual
theorem Rp.busyIn (hn : H a = none) : ∀ {d : D} {v : V}, Rp (g.b B) H ι d v → Rp (g.b (a :: B)) (upd H a o) ι d v
  | _, _, .non => .non
  | _, _, .bl b => .bl b
  | _, _, .int i => .int i
  | _, _, .str s => .str s
  | _, _, .tup f r => .tup (fix_in f hn) (r.busyIn hn)
  | _, _, .lst f r => .lst (fix_in f hn) (r.busyIn hn)
  | _, _, .frz f r => .frz (fix_in f hn) (r.busyIn hn)
  | _, _, .kfz f r => .kfz (fix_in f hn) (r.busyIn hn)
  | _, _, .klp f r => .klp (fix_in f hn) (r.busyIn hn)
  | _, _, .kkk k r => .kkk k (r.busyIn hn)
  | _, _, .ref h => .ref h
  | _, _, .exc c f1 f2 hf hl r => .exc c (fix_in f1 hn) (fix_in f2 hn) hf hl (r.busyIn hn)
  | _, _, .exc0 c f1 e => .exc0 c (fix_in f1 hn) e
  | _, _, .opq h f => .opq h (fix_in f hn)
theorem RpL.busyIn (hn : H a = none) : ∀ {ds : List D} {vs : List V}, RpL (g.b B) H ι ds vs → RpL (g.b (a :: B)) (upd H a o) ι ds vs
  | _, _, .nil => .nil
  | _, _, .cons r t => .cons (r.busyIn hn) (t.busyIn hn)
end
mutual
theorem Rp.busyOut : ∀ {d : D} {v : V}, Rp (g.b (a :: B)) H ι d v → Rp (g.b B) (del H a) ι d v
  | _, _, .non => .non
  | _, _, .bl b => .bl b
  | _, _, .int i => .int i
  | _, _, .str s => .str s
  | _, _, .tup f r => .tup (fix_out f) (r.busyOut)
  | _, _, .lst f r => .lst (fix_out f) (r.busyOut)
  | _, _, .frz f r => .frz (fix_out f) (r.busyOut)
  | _, _, .kfz f r => .kfz (fix_out f) (r.busyOut)
  | _, _, .klp f r => .klp (fix_out f) (r.busyOut)
  | _, _, .kkk k r => .kkk k (r.busyOut)
  | _, _, .ref h => .ref h
  | _, _, .exc c f1 f2 hf hl r => .exc c (fix_out f1) (fix_out f2) hf hl (r.busyOut)
  | _, _, .exc0 c f1 e => .exc0 c (fix_out f1) e
  | _, _, .opq h f => .opq h (fix_out f)
theorem RpL.busyOut : ∀ {ds : List D} {vs : List V}, RpL (g.b (a :: B)) H ι ds vs → RpL (g.b B) (del H a) ι ds vs
  | _, _, .nil => .nil
  | _, _, .cons r t => .cons (r.busyOut) (t.busyOut)
end
theorem ObR.busyIn {b : Addr} {z : Ob} (hn : H a = none) (r : ObR (g.b B) H ι b z) : ObR (g.b (a :: B)) (upd H a o) ι b z := by
  obtain ⟨u, hu, _⟩ := r.there
  have e : upd H a o b = H b := upd_ne (ne_of_none hu hn)
  cases z with
  | lst ds => obtain ⟨vs, h, q⟩ := r; exact ⟨vs, e.trans h, q.busyIn hn⟩
  | dk ds => obtain ⟨vs, h, q⟩ := r; exact ⟨vs, e.trans h, q.1, q.2.busyIn hn⟩
  | dt ds => obtain ⟨vs, h, q⟩ := r; exact ⟨vs, e.trans h, q.1, q.2.busyIn hn⟩
  | ins c ds => obtain ⟨C, dx, vs, hc, h, q⟩ := r; exact ⟨C, dx, vs, hc, e.trans h, q.1, q.2.busyIn hn⟩
theorem ObR.busyOut {b : Addr} {z : Ob} (hb : b ≠ a) (r : ObR (g.b (a :: B)) H ι b z) : ObR (g.b B) (del H a) ι b z := by
  have e : del H a b = H b := del_ne hb
  cases z with
  | lst ds => obtain ⟨vs, h, q⟩ := r; exact ⟨vs, e.trans h, q.busyOut⟩
  | dk ds => obtain ⟨vs, h, q⟩ := r; exact ⟨vs, e.trans h, q.1, q.2.busyOut⟩
  | dt ds => obtain ⟨vs, h, q⟩ := r; exact ⟨vs, e.trans h, q.1, q.2.busyOut⟩
  | ins c ds => obtain ⟨C, dx, vs, hc, h, q⟩ := r; exact ⟨C, dx, vs, hc, e.trans h, q.1, q.2.busyOut⟩
theorem MR.busyIn (m : MR (g.b B) H ι μ) (hn : H a = none) (po : Plain o := by trivial) : MR (g.b (a :: B)) (upd H a o) ι μ := by
  refine ⟨m.len, m.nd, fun n z b h1 h2 => (m.at_ n z b h1 h2).busyIn hn, tabs_laid m.tabs hn, fun b hb => ?_⟩
  rcases List.mem_cons.mp hb with e | hb
  · rw [e]; exact ⟨⟨o, upd_same, po.nt⟩, m.fresh hn⟩
  · have q := m.busy b hb
    obtain ⟨⟨o2, e2, n2⟩, q2⟩ := q
    exact ⟨⟨o2, by rw [upd_ne (ne_of_none e2 hn)]; exact e2, n2⟩, q2⟩
theorem MR.busyOut (m : MR (g.b (a :: B)) H ι μ) (hu : H a = some o) (pl : Plain o) (hB : a ∉ B) : MR (g.b B) (del H a) ι μ := by
  have ha := m.busy a List.mem_cons_self
  refine ⟨m.len, m.nd, fun n z b h1 h2 => (m.at_ n z b h1 h2).busyOut fun e => ha.2 (by rw [← e]; exact List.mem_of_getElem? h2), fun p hp => ?_, fun b hb => ?_⟩
  · obtain ⟨ps, h1, h2, h3⟩ := m.tabs p hp
    have n1 : p.1 ≠ a := fun q => by rw [q, hu] at h1; cases h1; exact pl
    refine ⟨ps, by rw [del_ne n1]; exact h1, h2, fun pos cv hc => ?_⟩
    obtain ⟨c, e1, e2⟩ := h3 pos cv hc
    have n2 : c ≠ a := fun q => by
      rw [q, hu] at e2
      have e3 := Option.some.inj e2
      unfold LamX.CodeO at e3
      rw [e3] at pl
      exact pl
    exact ⟨c, e1, by rw [del_ne n2]; exact e2⟩
  · have ne : b ≠ a := fun e => hB (by rw [← e]; exact hb)
    rw [del_ne ne]
    exact m.busy b (List.mem_cons_of_mem _ hb)
theorem Nx.busy {u : HO} (hu : H a = some u) (ha : a ∉ ι) (po : Plain o := by trivial) : Nx [a] H ι (upd H a o) ι := by
  refine ⟨fun b z _ he _ h => by rw [upd_ne (by simpa using he)]; exact h, fun b z h n => ?_, [], by simp, fun _ h => nomatch h⟩
  by_cases e : b = a
  · rw [e]; exact ⟨o, upd_same, po.nt⟩
  · exact ⟨z, by rw [upd_ne e]; exact h, n⟩
theorem MR.busyPut {u : HO} (m : MR (g.b (a :: B)) H ι μ) (hu : H a = some u) (pl : Plain u) (po : Plain o := by trivial) : MR (g.b (a :: B)) (upd H a o) ι μ := by
  have ha := m.busy a List.mem_cons_self
  have nx : Nx (a :: B) H ι (upd H a o) ι := (Nx.busy hu ha.2 po).wide fun b hb => by
    have : b = a := by simpa using hb
    rw [this]; exact List.mem_cons_self
  refine ⟨m.len, m.nd, fun n z b h1 h2 => (m.at_ n z b h1 h2).mono nx ?_, tabs_write m.tabs hu pl, fun b hb => let ⟨o2, e2, n2⟩ := (m.busy b hb).1; ⟨nx.dom b o2 e2 n2, (m.busy b hb).2⟩⟩
  rw [upd_ne]
  intro e
  exact ha.2 (by rw [← e]; exact List.mem_of_getElem? h2)
end
theorem upd_del {H : Hp} {a : Addr} {o : HO} (h : H a = some o) : upd (del H a) a o = H := by
  funext b
  by_cases e : b = a
  · rw [e, upd_same, h]
  · rw [upd_ne e, del_ne e]

section
variable {g : G} {H : Hp} {ι : List Addr}
theorem SR.wipe {sl : Sl} {σ : Sg} (s : SR g H ι sl σ) : ∀ vs : List Nat, SR g H ι (wipeS sl vs) (L2.wipe σ vs)
  | [] => s
  | v :: vs => (SR.wipe s vs).clear v
theorem wipe_at {σ : Sg} {j : Nat} : ∀ {vs : List Nat}, j ∈ vs → (L2.wipe σ vs)[j]? = if j < σ.length then some none else none
  | [], h => nomatch h
  | v :: vs, h => by
    unfold L2.wipe
    by_cases e : v = j
    · subst e
      by_cases hl : v < σ.length
      · rw [List.getElem?_set_self (by rw [wipe_length]; exact hl), if_pos hl]
      · rw [if_neg hl, List.getElem?_eq_none]
        rw [List.length_set, wipe_length]; omega
    · rw [List.getElem?_set_ne e]
      refine wipe_at ?_
      rcases List.mem_cons.mp h with q | q
      · exact absurd q.symm e
      · exact q
theorem wipe_eq {σ σ2 : Sg} {vs : List Nat} (hl : σ2.length = σ.length) (h : ∀ j, j ∉ vs → σ2[j]? = σ[j]?) : L2.wipe σ2 vs = L2.wipe σ vs := by
  refine List.ext_getElem? fun j => ?_
  by_cases hj : j ∈ vs
  · rw [wipe_at hj, wipe_at hj, hl]
  · rw [L2.wipe_out hj, L2.wipe_out hj, h j hj]
theorem gs_fin2 {k : Sg → Hp → Prop} : ∀ {is : List Nat} {ds : List D} {vs : List V} {sl : Sl} {σ : Sg}, ds.length = is.length → RpL g H ι ds vs → SR g H ι sl σ →
    (∀ σ2 : Sg, SR g H ι ((is.zip ds).foldl (fun s p => s.set p.1 (some p.2)) sl) σ2 → σ2.length = σ.length → (∀ j, j ∉ is → σ2[j]? = σ[j]?) → k σ2 H) → gsOf is vs σ H k
  | [], [], _, sl, σ, _, .nil, sr, h => ⟨rfl, h σ sr rfl fun _ _ => rfl⟩
  | i :: is, d :: ds, _, sl, σ, hl, .cons r t, sr, h => ⟨_, _, rfl, gs_fin2 (by simpa using hl) t (sr.set i r) fun σ2 s2 l2 h2 => h σ2 s2 (by rw [l2, List.length_set]) fun j hj => by
    rw [h2 j (fun z => hj (List.mem_cons_of_mem _ z)), List.getElem?_set_ne (fun z => hj (by rw [z]; exact List.mem_cons_self))]⟩
theorem tg_fin2 {tg : Tg} {d : D} {v : V} {sl sl2 : Sl} {σ : Sg} {k : Sg → Hp → Prop} (e : asgTg tg d sl = some sl2) (sr : SR g H ι sl σ) (r : Rp g H ι d v)
    (h : ∀ σ2 : Sg, SR g H ι sl2 σ2 → σ2.length = σ.length → (∀ j, j ∉ tg.slots → σ2[j]? = σ[j]?) → k σ2 H) : tgR g.K tg v σ H k := by
  cases tg with
  | nm i =>
    cases e
    exact h _ (sr.set i r) (by simp) fun j hj => List.getElem?_set_ne (fun z => hj (by simp [Tg.slots, z]))
  | tup is =>
    simp only [asgTg] at e
    split at e
    · split at e
      · rename_i ds hl
        cases e
        obtain ⟨a, vs, rfl, h1, q⟩ := tup_at r
        exact ⟨a, vs, rfl, h1, by rw [← q.length, hl], gs_fin2 hl q sr h⟩
      · cases e
    · cases e
end

def rdL (g : G) (W : WX) (f : Sl → Mem → Option (R (List D))) : TE := fun σ H Q =>
  ∃ B ι μ sl r, MR (g.b B) H ι μ ∧ SR (g.b B) H ι sl σ ∧ f sl μ = some r ∧ (match r with
    | .ok ds μ' => ∀ vs H1 ι1, Nx [] H ι H1 ι1 → MR (g.b B) H1 ι1 μ' → RpL (g.b B) H1 ι1 ds vs → ∀ p, H1 p = none → Q (.ref p) (upd H1 p (.lst vs))
    | .ex x μ' => ∀ cls dd H' ι', Nx [] H ι H' ι' → MR (g.b B) H' ι' μ' → XRp (g.b B) H' ι' x cls dd → W cls dd σ H')
abbrev W0 : WX := fun _ _ _ _ => False

section
variable {g : G} {W : WX} {B : List Addr} {H : Hp} {ι : List Addr} {μ : Mem} {σ : Sg} {sl : Sl}
theorem el_rd {test : Sl → Mem → Option (R Bool)} {elt : Sl → Mem → Option (R D)} {acc acc1 : List D} {μ1 : Mem} {accV : List V} {D' : Addr} {K0 : Hp → Prop}
    (m : MR (g.b (D' :: B)) H ι μ) (s : SR (g.b (D' :: B)) H ι sl σ) (hD : H D' = some (.lst accV)) (ra : RpL (g.b (D' :: B)) H ι acc accV)
    (e : elS (test sl) (elt sl) acc μ = some (acc1, μ1))
    (h : ∀ H' ι' accV', Nx [D'] H ι H' ι' → MR (g.b (D' :: B)) H' ι' μ1 → RpL (g.b (D' :: B)) H' ι' acc1 accV' → H' D' = some (.lst accV') → K0 H') :
    rdT g W0 test σ H fun b H3 => if b = true then rd g W0 elt σ H3 fun y H4 => ∃ acc, H4 D' = some (.lst acc) ∧ acc.length < sizeLine ∧ K0 (upd H4 D' (.lst (acc ++ [y]))) else K0 H3 := by
  unfold elS at e
  have keepD : ∀ {H1 H2 : Hp} {ι1 ι2 : List Addr} {o : HO}, Nx [] H1 ι1 H2 ι2 → H1 D' = some o → (∀ ps, o ≠ .tbl ps) → D' ∉ ι1 → H2 D' = some o := fun x h1 nt h2 => x.ext D' _ h2 (by simp) nt h1
  have nD := (m.busy D' List.mem_cons_self).2
  cases q : test sl μ with
  | none => rw [q] at e; cases e
  | some rt =>
    rw [q] at e
    cases rt with
    | ex x μ2 => cases e
    | ok b μ2 =>
      refine ⟨D' :: B, ι, μ, sl, [], .ok b μ2, m, s, .nil, q, fun b' H3 ι3 x3 m3 eb => ?_⟩
      have eb : b = b' := eb
      subst eb
      have hD3 := keepD x3 hD (fun _ z => nomatch z) nD
      cases b with
      | false =>
        cases e
        show K0 H3
        exact h H3 ι3 accV x3.w m3 (ra.mono x3.w) hD3
      | true =>
        dsimp only at e
        show rd g W0 elt σ H3 _
        cases q2 : elt sl μ2 with
        | none => rw [q2] at e; cases e
        | some re =>
          rw [q2] at e
          cases re with
          | ex x μ3 => cases e
          | ok d μ3 =>
            dsimp only at e
            split at e
            · rename_i hl
              cases e
              refine ⟨D' :: B, ι3, μ2, sl, [], .ok d μ1, m3, s.mono x3.w, .nil, q2, fun y H4 ι4 x4 m4 ry => ?_⟩
              have nD3 := (m3.busy D' List.mem_cons_self).2
              have hD4 := keepD x4 hD3 (fun _ z => nomatch z) nD3
              have nD4 := (m4.busy D' List.mem_cons_self).2
              have ra4 := (ra.mono x3.w).mono x4.w
              refine ⟨accV, hD4, by rw [← ra.length]; exact hl, ?_⟩
              have nb : Nx [D'] H4 ι4 (upd H4 D' (.lst (accV ++ [y]))) ι4 := Nx.busy hD4 nD4
              have nb' : Nx (D' :: B) H4 ι4 (upd H4 D' (.lst (accV ++ [y]))) ι4 := nb.wide fun b hb => by
                have : b = D' := by simpa using hb
                rw [this]; exact List.mem_cons_self
              exact h _ ι4 (accV ++ [y]) ((x3.trans x4).w.trans nb) (m4.busyPut hD4 trivial) ((ra4.append (.cons ry .nil)).mono nb') upd_same
            · cases e
theorem Nx.toB {D' : Addr} {H' : Hp} {ι' : List Addr} (x : Nx [D'] H ι H' ι') : Nx (D' :: B) H ι H' ι' := x.wide fun b hb => by
  have : b = D' := by simpa using hb
  rw [this]; exact List.mem_cons_self
theorem lc_rd {fi : Sl → Mem → Option (R (List D))} {tg : Tg} {test : Sl → Mem → Option (R Bool)} {elt : Sl → Mem → Option (R D)} {Q : VK}
    (h : rdL g W (fun sl μ => R.bind (fi sl μ) fun xs μ1 => okL (goL (fun x acc μ2 => (asgTg tg x (wipeS sl tg.slots)).bind fun sl2 => elS (test sl2) (elt sl2) acc μ2) xs [] μ1)) σ H Q) : tLc (rdI g W fi) (tgR g.K tg) (rdT g W0 test) (rd g W0 elt) tg.slots σ H Q := by
  obtain ⟨B, ι, μ, sl, r, mr, sr, e, p⟩ := h
  dsimp only at e
  cases q : fi sl μ with
  | none => rw [q] at e; cases e
  | some ra =>
    rw [q] at e
    refine ⟨B, ι, μ, sl, ra, mr, sr, q, ?_⟩
    cases ra with
    | ex x μ1 =>
      cases e
      exact p
    | ok xs μ1 =>
      rw [bind_ok] at e
      intro J H1 ι1 x1 m1 w D' hD'
      cases hg : goL (fun x acc μ2 => (asgTg tg x (wipeS sl tg.slots)).bind fun sl2 => elS (test sl2) (elt sl2) acc μ2) xs [] μ1 with
      | none => rw [hg] at e; cases e
      | some pr =>
        obtain ⟨ds, μ2⟩ := pr
        rw [hg] at e
        cases e
        have hB : D' ∉ B := m1.freshB hD'
        have sr1 : SR (g.b (D' :: B)) (upd H1 D' (.lst [])) ι1 sl σ := ⟨sr.len, fun i d hd => let ⟨v, h1, h2⟩ := (sr.mono x1.w).at_ i d hd; ⟨v, h1, h2.busyIn hD'⟩⟩
        refine ⟨fun i m H' => m = xs.length - i ∧ i ≤ xs.length ∧ ∃ ι' μ' acc accV, Nx [D'] (upd H1 D' (.lst [])) ι1 H' ι' ∧ MR (g.b (D' :: B)) H' ι' μ' ∧ RpL (g.b (D' :: B)) H' ι' acc accV ∧ H' D' = some (.lst accV) ∧
          goL (fun x acc μ2 => (asgTg tg x (wipeS sl tg.slots)).bind fun sl2 => elS (test sl2) (elt sl2) acc μ2) (xs.drop i) acc μ' = some (ds, μ2),
          ⟨xs.length, by simp, Nat.zero_le _, ι1, μ1, [], [], .refl, m1.busyIn hD', .nil, upd_same, hg⟩, ?_⟩
        have wk : ∀ {H' : Hp} {ι' : List Addr}, Nx [D'] (upd H1 D' (.lst [])) ι1 H' ι' → Nx B H1 ι1 (del H' D') ι' := fun {H' ι'} nx => by
          refine ⟨fun b u hb he nt hu => ?_, fun b o hb nt => ?_, ?_⟩
          · have ne : b ≠ D' := ne_of_none hu hD'
            rw [del_ne ne]
            exact nx.ext b u hb (by simpa using ne) nt (by rw [upd_ne ne]; exact hu)
          · have ne : b ≠ D' := ne_of_none hb hD'
            rw [del_ne ne]
            exact nx.dom b o (by rw [upd_ne ne]; exact hb) nt
          · obtain ⟨l, e1, e2⟩ := nx.more
            refine ⟨l, e1, fun b hb o ho => ?_⟩
            have ne : b ≠ D' := ne_of_none ho hD'
            exact e2 b hb o (by rw [upd_ne ne]; exact ho)
        have strict : ∀ {H' : Hp} {ι' : List Addr}, Nx [D'] (upd H1 D' (.lst [])) ι1 H' ι' → Nx [] H1 ι1 (del H' D') ι' := fun {H' ι'} nx => by
          refine ⟨fun b u hb he nt hu => ?_, (wk nx).dom, (wk nx).more⟩
          have ne : b ≠ D' := ne_of_none hu hD'
          rw [del_ne ne]
          exact nx.ext b u hb (by simpa using ne) nt (by rw [upd_ne ne]; exact hu)
        rintro i m H' ⟨rfl, hi, ι', μ', acc, accV, nx, mr', ra', hDl, e'⟩
        have ok : OkB (g.b B) H1 (D' :: B) := fun b hb => (List.mem_cons.mp hb).elim (fun z => .inr (by rw [z]; exact hD')) .inl
        have nw : Nx (D' :: B) H1 ι1 H' ι' := by
          refine ⟨fun b u hb he nt hu => ?_, fun b o hb nt => ?_, (wk nx).more⟩
          · have ne : b ≠ D' := ne_of_none hu hD'
            exact nx.ext b u hb (by simpa using ne) nt (by rw [upd_ne ne]; exact hu)
          · have ne : b ≠ D' := ne_of_none hb hD'
            exact nx.dom b o (by rw [upd_ne ne]; exact hb) nt
        by_cases hlt : i < xs.length
        · refine .inr ⟨w.go _ i H' ι' ok hlt nw, fun H2 => i + 1 ≤ xs.length ∧ ∃ ι' μ' acc accV, Nx [D'] (upd H1 D' (.lst [])) ι1 H2 ι' ∧ MR (g.b (D' :: B)) H2 ι' μ' ∧ RpL (g.b (D' :: B)) H2 ι' acc accV ∧ H2 D' = some (.lst accV) ∧
            goL (fun x acc μ2 => (asgTg tg x (wipeS sl tg.slots)).bind fun sl2 => elS (test sl2) (elt sl2) acc μ2) (xs.drop (i + 1)) acc μ' = some (ds, μ2), fun H2 ⟨h1, h2⟩ => ⟨xs.length - (i + 1), by omega, rfl, h1, h2⟩, fun v H2 y => ?_⟩
          obtain ⟨nx2, mr2, d, hd, rd'⟩ := w.yld _ i H' ι' μ' v H2 ok hlt nw mr' y
          rw [drop_get hd] at e'
          simp only [goL] at e'
          cases ha : asgTg tg d (wipeS sl tg.slots) with
          | none => rw [ha] at e'; cases e'
          | some sl2 =>
            rw [ha] at e'
            simp only [Option.bind_some] at e'
            have srw : SR (g.b (D' :: B)) H2 ι' (wipeS sl tg.slots) (L2.wipe σ tg.slots) := ((sr1.mono nx.toB).mono nx2.w).wipe _
            refine tg_fin2 (g := g.b (D' :: B)) ha srw rd' fun σ2 sr2 hl2 ho2 => ⟨wipe_eq (by rw [hl2, wipe_length]) fun j hj => by rw [ho2 j hj, L2.wipe_out hj], ?_⟩
            cases hb : elS (test sl2) (elt sl2) acc μ' with
            | none => rw [hb] at e'; cases e'
            | some pr =>
              obtain ⟨acc1, μ3⟩ := pr
              rw [hb] at e'
              have hD2 : H2 D' = some (.lst accV) := nx2.ext D' _ (mr'.busy D' List.mem_cons_self).2 (by simp) (fun _ z => nomatch z) hDl
              refine el_rd mr2 sr2 hD2 (ra'.mono nx2.w) hb fun H3 ι3 accV3 x3 m3 r3 h3 => ?_
              exact ⟨hlt, ι3, μ3, acc1, accV3, (nx.trans nx2.w).trans x3, m3, r3, h3, e'⟩
        · have hi' : i = xs.length := by omega
          subst hi'
          rw [List.drop_length] at e'
          cases e'
          refine .inl ⟨w.stop _ H' ι' ok nw, ?_⟩
          have := p accV (del H' D') ι' (x1.trans (strict nx)) (mr'.busyOut hDl trivial hB) ra'.busyOut D' del_same
          rwa [upd_del hDl] at this
end
end Mn
end
section
namespace Mn
open PySem PySem.Spec PyProof.Rows L2

section
variable {X : Cx}
theorem pe_to {e : Expr} {t t' : TE} (p : PE X e t) (h : ∀ σ H Q, t' σ H Q → t σ H Q) : PE X e t' := ⟨fun pins s σ H Q I q => p.run pins s σ H Q I (h σ H Q q)⟩
theorem pt_to {e : Expr} {t t' : TT} (p : PT X e t) (h : ∀ σ H Q, t' σ H Q → t σ H Q) : PT X e t' := ⟨fun pins s σ H Q I q => p.run pins s σ H Q I (h σ H Q q)⟩
theorem pw_to {e : Expr} {t t' : TT} (p : PW X e t) (h : ∀ σ H Q, t' σ H Q → t σ H Q) : PW X e t' := ⟨fun whole pins s σ H Q I q => p.run whole pins s σ H Q I (h σ H Q q)⟩
theorem pts_to {e : List Expr} {t t' : TT} (p : PTs X e t) (h : ∀ σ H Q, t' σ H Q → t σ H Q) : PTs X e t' := ⟨fun pins s σ H Q I q => p.run pins s σ H Q I (h σ H Q q)⟩
theorem pa_to {e : List Expr} {t t' : TA} (p : PA X e t) (h : ∀ σ H Q, t' σ H Q → t σ H Q) : PA X e t' := ⟨fun pos pins s σ H Q I q => p.run pos pins s σ H Q I (h σ H Q q)⟩
theorem po_to {e : Option Expr} {t t' : TO} (p : PO X e t) (h : ∀ σ H Q, t' σ H Q → t σ H Q) : PO X e t' := ⟨fun pins s σ H Q I q => p.run pins s σ H Q I (h σ H Q q)⟩
theorem pi_to {tg e : Expr} {t t' : TI} (p : PI X tg e t) (h : ∀ σ H R, t' σ H R → t σ H R) : PI X tg e t' := ⟨fun pins s σ H R I q => p.run pins s σ H R I (h σ H R q)⟩
theorem ps_to {e : Stmt} {t t' : TS} (p : PS X e t) (h : ∀ D σ H, t' D σ H → t D σ H) : PS X e t' := ⟨fun pins s σ H D I q => p.run pins s σ H D I (h D σ H q)⟩
theorem pss_to {e : List Stmt} {t t' : TS} (p : PSs X e t) (h : ∀ D σ H, t' D σ H → t D σ H) : PSs X e t' := ⟨fun pins s σ H D I q => p.run pins s σ H D I (h D σ H q)⟩
end

section
variable {g : G} {W : WX} {σ : Sg} {H : Hp} {α β : Type} {rel : Rl α β} {Q Q' : β → Hp → Prop}
abbrev rdG (g : G) (W : WX) {α β : Type} (rel : Rl α β) (f : Sl → Mem → Option (R α)) : Sg → Hp → (β → Hp → Prop) → Prop := rdH g W [] rel (fun _ => f)
theorem rd_imp {f : Sl → Mem → Option (R α)} (h : rdG g W rel f σ H Q) (i : ∀ b H', Q b H' → Q' b H') : rdG g W rel f σ H Q' := by
  obtain ⟨B, ι, μ, sl, ds, r, mr, sr, hd, e, p⟩ := h
  refine ⟨B, ι, μ, sl, ds, r, mr, sr, hd, e, ?_⟩
  cases r with
  | ok a μ' => exact fun b H' ι' x m q => i _ _ (p b H' ι' x m q)
  | ex x μ' => exact p
theorem rd_eq {f f' : Sl → Mem → Option (R α)} (h : rdG g W rel f σ H Q) (i : ∀ sl μ r, f sl μ = some r → f' sl μ = some r) : rdG g W rel f' σ H Q := by
  obtain ⟨B, ι, μ, sl, ds, r, mr, sr, hd, e, p⟩ := h
  exact ⟨B, ι, μ, sl, ds, r, mr, sr, hd, i _ _ _ e, p⟩
theorem rd1 {γ δ : Type} {rel1 : Rl γ δ} {fa : Sl → Mem → Option (R γ)} {k : γ → Sl → Mem → Option (R α)} (h : rdG g W rel (fun sl μ => R.bind (fa sl μ) fun x μ1 => k x sl μ1) σ H Q) :
    rdG g W rel1 fa σ H fun v H1 => ∃ B ι μ sl x r, MR (g.b B) H1 ι μ ∧ SR (g.b B) H1 ι sl σ ∧ rel1 (g.b B) H1 ι x v ∧ k x sl μ = some r ∧ Post g W B σ H1 ι rel Q r := by
  obtain ⟨B, ι, μ, sl, ds, r, mr, sr, hd, e, p⟩ := h
  dsimp only at e
  cases q : fa sl μ with
  | none => rw [q] at e; cases e
  | some ra =>
    rw [q] at e
    refine ⟨B, ι, μ, sl, [], ra, mr, sr, .nil, q, ?_⟩
    cases ra with
    | ok x μ1 => exact fun v H1 ι1 x1 m1 r1 => ⟨B, ι1, μ1, sl, x, r, m1, sr.mono x1.w, r1, e, p.from x1⟩
    | ex x μ1 => cases e; exact p
theorem rd2 {fa fb : Sl → Mem → Option (R D)} {k : D → D → Mem → Option (R α)} (h : rdG g W rel (fun sl μ => R.bind (fa sl μ) fun x μ1 => R.bind (fb sl μ1) fun y μ2 => k x y μ2) σ H Q) :
    rd g W fa σ H fun v H1 => rd g W fb σ H1 fun u H2 => ∃ B ι μ x y r, MR (g.b B) H2 ι μ ∧ Rp (g.b B) H2 ι x v ∧ Rp (g.b B) H2 ι y u ∧ k x y μ = some r ∧ Post g W B σ H2 ι rel Q r := by
  obtain ⟨B, ι, μ, sl, ds, r, mr, sr, hd, e, p⟩ := h
  dsimp only at e
  cases q : fa sl μ with
  | none => rw [q] at e; cases e
  | some ra =>
    rw [q] at e
    refine ⟨B, ι, μ, sl, [], ra, mr, sr, .nil, q, ?_⟩
    cases ra with
    | ok x μ1 =>
      rw [bind_ok] at e
      refine fun v H1 ι1 x1 m1 r1 => ?_
      cases q2 : fb sl μ1 with
      | none => rw [q2] at e; cases e
      | some rb =>
        rw [q2] at e
        refine ⟨B, ι1, μ1, sl, [], rb, m1, sr.mono x1.w, .nil, q2, ?_⟩
        cases rb with
        | ok y μ2 => exact fun u H2 ι2 x2 m2 r2 => ⟨B, ι2, μ2, x, y, r, m2, r1.mono x2.w, r2, e, p.from (x1.trans x2)⟩
        | ex y μ2 =>
          cases e
          exact fun c d H2 ι2 x2 m2 r2 => p c d H2 ι2 (x1.trans x2) m2 r2
    | ex x μ1 => cases e; exact p
theorem rd3 {fa fb fc : Sl → Mem → Option (R D)} {k : D → D → D → Mem → Option (R α)} (h : rdG g W rel (fun sl μ => R.bind (fa sl μ) fun x μ1 => R.bind (fb sl μ1) fun y μ2 => R.bind (fc sl μ2) fun z μ3 => k x y z μ3) σ H Q) :
    rd g W fa σ H fun v H1 => rd g W fb σ H1 fun u H2 => rd g W fc σ H2 fun w H3 => ∃ B ι μ x y z r, MR (g.b B) H3 ι μ ∧ Rp (g.b B) H3 ι x v ∧ Rp (g.b B) H3 ι y u ∧ Rp (g.b B) H3 ι z w ∧ k x y z μ = some r ∧ Post g W B σ H3 ι rel Q r := by
  refine rd_imp (rd1 (rel1 := fun g H ι => Rp g H ι) (k := fun x sl μ1 => R.bind (fb sl μ1) fun y μ2 => R.bind (fc sl μ2) fun z μ3 => k x y z μ3) h) fun v H1 hv => ?_
  obtain ⟨B, ι, μ, sl, x, r, m, s, rx, e, p⟩ := hv
  cases q : fb sl μ with
  | none => rw [q] at e; cases e
  | some rb =>
    rw [q] at e
    refine ⟨B, ι, μ, sl, [], rb, m, s, .nil, q, ?_⟩
    cases rb with
    | ok y μ2 =>
      rw [bind_ok] at e
      refine fun u H2 ι2 x2 m2 r2 => ?_
      cases q2 : fc sl μ2 with
      | none => rw [q2] at e; cases e
      | some rc =>
        rw [q2] at e
        refine ⟨B, ι2, μ2, sl, [], rc, m2, s.mono x2.w, .nil, q2, ?_⟩
        cases rc with
        | ok z μ3 => exact fun w H3 ι3 x3 m3 r3 => ⟨B, ι3, μ3, x, y, z, r, m3, (rx.mono x2.w).mono x3.w, r2.mono x3.w, r3, e, p.from (x2.trans x3)⟩
        | ex z μ3 =>
          cases e
          exact fun c d H3 ι3 x3 m3 r3 => p c d H3 ι3 (x2.trans x3) m3 r3
    | ex y μ2 => cases e; exact p
theorem rd_if {ft : Sl → Mem → Option (R Bool)} {fa fb : Sl → Mem → Option (R α)} (h : rdG g W rel (fun sl μ => R.bind (ft sl μ) fun k μ1 => if k then fa sl μ1 else fb sl μ1) σ H Q) :
    rdT g W ft σ H fun k H1 => if k = true then rdG g W rel fa σ H1 Q else rdG g W rel fb σ H1 Q := by
  refine rd_imp (rd1 (rel1 := fun _ _ _ a b => a = b) (k := fun k sl μ1 => if k then fa sl μ1 else fb sl μ1) h) fun k H1 hv => ?_
  obtain ⟨B, ι, μ, sl, x, r, m, s, rx, e, p⟩ := hv
  have rx : x = k := rx
  subst rx
  cases x with
  | true => exact ⟨B, ι, μ, sl, [], r, m, s, .nil, e, p⟩
  | false => exact ⟨B, ι, μ, sl, [], r, m, s, .nil, e, p⟩
theorem rd_now {b : β} {a : α} (h : rdG g W rel (fun _ μ => some (.ok a μ)) σ H Q) (r : ∀ B ι, rel (g.b B) H ι a b) : Q b H := by
  obtain ⟨B, ι, μ, sl, ds, ra, mr, sr, hd, e, p⟩ := h
  cases e
  exact p b H ι .refl mr (r B ι)
end

def evB (γ : Gam) (e : E) (sl : Sl) (μ : Mem) : Option (R Bool) := R.bind (evE γ e sl μ) fun d μ1 => asB d fun k => some (.ok k μ1)

structure CtxE (g : G) (W : WX) (X : Cx) : Prop where
  K : X.K = g.K
  nd : X.N.Nodup
  calm : X.calm = true
  units : X.A.units + 65 < cLine
  tk : Takes X W
theorem CtxE.blk {g : G} {W : WX} {X : Cx} (c : CtxE g W X) {s : Shared} {H : Hp} {scope : Scope} {cenv : Env} {fp : List Addr} : CtxE g W0 (X.blk s H scope cenv fp) := ⟨c.K, c.nd, c.calm, c.units, LamX.takes0⟩

section
variable {γ : Gam} {g : G} {W : WX} {X : Cx}
abbrev Me (γ : Gam) (g : G) (W : WX) (X : Cx) (e : Expr) (t : E) : Prop := PE X e (rd g W (evE γ t))
abbrev Mt (γ : Gam) (g : G) (W : WX) (X : Cx) (e : Expr) (t : E) : Prop := PT X e (rdT g W (evB γ t))
abbrev Mw (γ : Gam) (g : G) (W : WX) (X : Cx) (e : Expr) (t : E) : Prop := PW X e (rdT g W (evB γ t))
abbrev Ma (γ : Gam) (g : G) (W : WX) (X : Cx) (e : List Expr) (t : Es) : Prop := PA X e (rdA g W (evEs γ t))
abbrev Mo (γ : Gam) (g : G) (W : WX) (X : Cx) (e : Option Expr) (t : Eo) : Prop := PO X e (rdO g W (evEo γ t))
abbrev Mts (γ : Gam) (g : G) (W : WX) (X : Cx) (e : List Expr) (t : Eo) : Prop := PTs X e (rdT g W (evT γ t))
abbrev Ml (γ : Gam) (g : G) (W : WX) (X : Cx) (e : Expr) (t : Ls) : Prop := PE X e (rdL g W (evL γ t))
abbrev Mi (γ : Gam) (g : G) (W : WX) (X : Cx) (tg e : Expr) (t : It') : Prop := PI X tg e (rdI g W (evI γ t))

theorem m_var {i : Nat} {x : Str} {pos : Pos} (hN : X.N[i]? = some x := by rfl) (hv : Vis X.env.scope x := by first | exact Or.inl rfl | exact Or.inr (Or.inl rfl) | exact Or.inr (Or.inr rfl)) (hd : (x == ("__debug__" : Str)) = false := by decide) (hcd : (x == ("__classdict__" : Str)) = false := by decide) : Me γ g W X (.Name x pos) (.var i) :=
  pe_to (pe_var hN hv hd hcd) fun σ H Q h => by
    obtain ⟨B, ι, μ, sl, ds, r, mr, sr, hd, e, p⟩ := h
    simp only [evE] at e
    split at e
    · rename_i d hi
      cases e
      obtain ⟨v, h1, h2⟩ := sr.at_ i d hi
      exact ⟨v, h1, p v H ι .refl mr h2⟩
    · cases e
theorem m_int {i : Int} {j : Nat} {pos : Pos} : Me γ g W X (.Constant (.int i) j pos) (.int i) := pe_to pe_int fun σ H Q h => rd_now (a := D.int i) h fun _ _ => Rp.int i
theorem m_bl {i : Bool} {j : Nat} {pos : Pos} : Me γ g W X (.Constant (.bool i) j pos) (.bl i) := pe_to pe_bl fun σ H Q h => rd_now (a := D.bl i) h fun _ _ => Rp.bl i
theorem m_str {i : Str} {j : Nat} {pos : Pos} : Me γ g W X (.Constant (.str i) j pos) (.str i) := pe_to pe_str fun σ H Q h => rd_now (a := D.str i) h fun _ _ => Rp.str i
theorem m_non {j : Nat} {pos : Pos} : Me γ g W X (.Constant .none j pos) .non := pe_to pe_non fun σ H Q h => rd_now (a := D.non) h fun _ _ => Rp.non
theorem m_glb {k : Nat} {d : D} {v : V} {u : Value} {x : Str} {pos : Pos} (hk : γ.cst k = some d) (hg : Gl X x) (hm : X.mg x = some u) (r : RelV v u) (rp : ∀ g H ι, Rp g H ι d v) (hd : (x == ("__debug__" : Str)) = false := by decide) : Me γ g W X (.Name x pos) (.glb k) :=
  pe_to (pe_glob hg hm r hd) fun σ H Q h => rd_now (a := d) (rd_eq h (f' := fun _ μ => some (.ok d μ)) fun sl μ r e => by simpa [evE, hk] using e) fun _ _ => rp _ _ _

theorem m_bin {a b : Expr} {ea eb : E} {pos : Pos} {op : Bop} (c : CtxE g W X) (ha : Me γ g W X a ea) (hb : Me γ g W X b eb) : Me γ g W X (.BinOp a op.op b pos) (.bin op ea eb) :=
  pe_to (pe_op (c.K ▸ bin_ok op : OpR X (binaryOp op.op) (rBin g.K op)) ha hb) fun σ H Q h => by
    refine rd_imp (rd2 h) fun v H1 h1 => rd_imp h1 fun u H2 h2 => ?_
    obtain ⟨B, ι, μ, x, y, r, m, rx, ry, e, p⟩ := h2
    cases q : binD op x y with
    | none => rw [q] at e; cases e
    | some d => rw [q] at e; cases e; exact bin_fin q m rx ry p
theorem m_neg {a : Expr} {ea : E} {pos : Pos} (ha : Me γ g W X a ea) : Me γ g W X (.UnaryOp .USub a pos) (.neg ea) :=
  pe_to (pe_un un_neg ha) fun σ H Q h => by
    refine rd_imp (rd1 (rel1 := fun g H ι => Rp g H ι) (k := fun x _ μ1 => asI x fun i => some (.ok (D.int (-i)) μ1)) h) fun v H1 h1 => ?_
    obtain ⟨B, ι, μ, sl, x, r, m, s, rx, e, p⟩ := h1
    cases x with
    | int i =>
      cases rx
      cases e
      exact ⟨i, rfl, p _ _ _ .refl m (.int _)⟩
    | _ => cases e
theorem cmp_go {ta tb : Sl → Mem → Option (R D)} {op : Cop} {σ : Sg} {H : Hp} {Q : VK} (h : rd g W (fun sl μ => R.bind (ta sl μ) fun x μ1 => R.bind (tb sl μ1) fun y μ2 => pureR ((cmpD μ2 op x y).map .bl) μ2) σ H Q) : tOp (rCmp g.K op) (rd g W ta) (rd g W tb) σ H Q := by
  refine rd_imp (rd2 h) fun v H1 h1 => rd_imp h1 fun u H2 h2 => ?_
  obtain ⟨B, ι, μ, x, y, r, m, rx, ry, e, p⟩ := h2
  cases q : cmpD μ op x y with
  | none => rw [q] at e; cases e
  | some d => rw [q] at e; cases e; exact cmp_fin q m rx ry (p _ _ _ .refl m (.bl d))
theorem m_cmp {a b : Expr} {ea eb : E} {pos : Pos} {op : Cop} (c : CtxE g W X) (ha : Me γ g W X a ea) (hb : Me γ g W X b eb) (hm : behindInMarks op.op b = false := by rfl) : Me γ g W X (.Compare a [op.op] [b] pos) (.cmp op ea eb) :=
  pe_to (pe_cmpR (c.K ▸ cmp_ok c.units op : OpR X (compareOp op.op) (rCmp g.K op)) ha hb hm) fun σ H Q h => cmp_go h
theorem rd_test {t : E} {σ : Sg} {H : Hp} {Q : Bool → Hp → Prop} (h : rdT g W (evB γ t) σ H Q) : rd g W (evE γ t) σ H fun x H1 => ∃ k, x = .bl k ∧ Q k H1 := by
  refine rd_imp (rd1 (rel1 := fun g H ι => Rp g H ι) (k := fun d _ μ1 => asB d fun k => some (.ok k μ1)) h) fun v H1 h1 => ?_
  obtain ⟨B, ι, μ, sl, x, r, m, s, rx, e, p⟩ := h1
  cases x with
  | bl b =>
    cases rx
    cases e
    exact ⟨b, rfl, p _ _ _ .refl m rfl⟩
  | _ => cases e
theorem mt_cmp {a b : Expr} {ea eb : E} {pos : Pos} {op : Cop} (c : CtxE g W X) (ha : Me γ g W X a ea) (hb : Me γ g W X b eb) (hm : behindInMarks op.op b = false := by rfl) : Mt γ g W X (.Compare a [op.op] [b] pos) (.cmp op ea eb) :=
  pt_to (pt_cmpR (c.K ▸ cmp_ok c.units op : OpR X (compareOp op.op) (rCmp g.K op)) ha hb hm) fun σ H Q h => cmp_go (rd_test h)
theorem mt_val {a : Expr} {ea : E} (ha : Me γ g W X a ea)
    (hw : ∀ whole : Sem Value, PySem.isTrue a X.env whole = (do let v ← whole; standAt a.pos; holding [v] (truthy v)) := by intro _; rfl) : Mt γ g W X a ea :=
  pt_to (pt_val ha hw) fun σ H Q h => rd_test h

theorem evB_and {a b : E} {sl : Sl} {μ : Mem} {r : R Bool} (h : evB γ (.and a b) sl μ = some r) : R.bind (evB γ a sl μ) (fun k μ1 => if k then evB γ b sl μ1 else some (.ok false μ1)) = some r := by
  simp only [evB, evE] at h ⊢
  cases q : evE γ a sl μ with
  | none => rw [q] at h; cases h
  | some ra =>
    rw [q] at h
    cases ra with
    | ex x μ1 => exact h
    | ok d μ1 =>
      simp only [bind_ok] at h ⊢
      cases d with
      | bl k => cases k <;> exact h
      | _ => cases h
theorem evB_or {a b : E} {sl : Sl} {μ : Mem} {r : R Bool} (h : evB γ (.or a b) sl μ = some r) : R.bind (evB γ a sl μ) (fun k μ1 => if k then some (.ok true μ1) else evB γ b sl μ1) = some r := by
  simp only [evB, evE] at h ⊢
  cases q : evE γ a sl μ with
  | none => rw [q] at h; cases h
  | some ra =>
    rw [q] at h
    cases ra with
    | ex x μ1 => exact h
    | ok d μ1 =>
      simp only [bind_ok] at h ⊢
      cases d with
      | bl k => cases k <;> exact h
      | _ => cases h
theorem evB_not {a : E} {sl : Sl} {μ : Mem} {r : R Bool} (h : evB γ (.not a) sl μ = some r) : R.bind (evB γ a sl μ) (fun k μ1 => some (.ok (!k) μ1)) = some r := by
  simp only [evB, evE] at h ⊢
  cases q : evE γ a sl μ with
  | none => rw [q] at h; cases h
  | some ra =>
    rw [q] at h
    cases ra with
    | ex x μ1 => exact h
    | ok d μ1 =>
      simp only [bind_ok] at h ⊢
      cases d with
      | bl k => exact h
      | _ => cases h
theorem evE_ifx {c a b : E} {sl : Sl} {μ : Mem} {r : R D} (h : evE γ (.ifx c a b) sl μ = some r) : R.bind (evB γ c sl μ) (fun k μ1 => if k then evE γ a sl μ1 else evE γ b sl μ1) = some r := by
  simp only [evB, evE] at h ⊢
  cases q : evE γ c sl μ with
  | none => rw [q] at h; cases h
  | some ra =>
    rw [q] at h
    cases ra with
    | ex x μ1 => exact h
    | ok d μ1 =>
      simp only [bind_ok] at h ⊢
      cases d with
      | bl k => cases k <;> exact h
      | _ => cases h
theorem mw_and {a b : Expr} {ea eb : E} {pos : Pos} {rest : List Expr} (ha : Mt γ g W X a ea) (hb : Mw γ g W X (.BoolOp .And (b :: rest) pos) eb) : Mw γ g W X (.BoolOp .And (a :: b :: rest) pos) (.and ea eb) :=
  pw_to (pw_and ha hb) fun σ H Q h => by
    refine rd_imp (rd_if (ft := evB γ ea) (fa := evB γ eb) (fb := fun _ μ1 => some (.ok false μ1)) (rd_eq h fun sl μ r e => evB_and e)) fun k H1 h1 => ?_
    cases k with
    | true => exact h1
    | false => exact rd_now (a := false) h1 fun _ _ => rfl
theorem mw_or {a b : Expr} {ea eb : E} {pos : Pos} {rest : List Expr} (ha : Mt γ g W X a ea) (hb : Mw γ g W X (.BoolOp .Or (b :: rest) pos) eb) : Mw γ g W X (.BoolOp .Or (a :: b :: rest) pos) (.or ea eb) :=
  pw_to (pw_or ha hb) fun σ H Q h => by
    refine rd_imp (rd_if (ft := evB γ ea) (fa := fun _ μ1 => some (.ok true μ1)) (fb := evB γ eb) (rd_eq h fun sl μ r e => evB_or e)) fun k H1 h1 => ?_
    cases k with
    | false => exact h1
    | true => exact rd_now (a := true) h1 fun _ _ => rfl
theorem mw_and1 {a : Expr} {ea : E} {pos : Pos} (ha : Mt γ g W X a ea) : Mw γ g W X (.BoolOp .And [a] pos) (.one ea) := pw_to (pw_and1 ha) fun σ H Q h => rd_eq h fun sl μ r e => by simpa only [evB, evE] using e
theorem mw_or1 {a : Expr} {ea : E} {pos : Pos} (ha : Mt γ g W X a ea) : Mw γ g W X (.BoolOp .Or [a] pos) (.one ea) := pw_to (pw_or1 ha) fun σ H Q h => rd_eq h fun sl μ r e => by simpa only [evB, evE] using e
theorem mt_bool {a : Expr} {ea : E} (h : Mw γ g W X a ea) : Mt γ g W X a ea := PW.pt h
theorem mt_not {a : Expr} {ea : E} {pos : Pos} (ha : Mt γ g W X a ea) : Mt γ g W X (.UnaryOp .Not a pos) (.not ea) :=
  pt_to (pt_not ha) fun σ H Q h => by
    refine rd_imp (rd1 (rel1 := fun _ _ _ a b => a = b) (fa := evB γ ea) (k := fun k _ μ1 => some (.ok (!k) μ1)) (rd_eq h fun sl μ r e => evB_not e)) fun k H1 h1 => ?_
    obtain ⟨B, ι, μ, sl, x, r, m, s, rx, e, p⟩ := h1
    have rx : x = k := rx
    subst rx
    cases e
    exact p _ _ _ .refl m rfl
theorem rd_bool {fa : Sl → Mem → Option (R D)} {k : Bool → Sl → Mem → Option (R D)} {σ : Sg} {H : Hp} {Q : VK} (h : rd g W (fun sl μ => R.bind (fa sl μ) fun x μ1 => asB x fun b => k b sl μ1) σ H Q) :
    rd g W fa σ H fun v H1 => ∃ b, v = .bl b ∧ rd g W (k b) σ H1 Q := by
  refine rd_imp (rd1 (rel1 := fun g H ι => Rp g H ι) (k := fun x sl μ1 => asB x fun b => k b sl μ1) h) fun v H1 h1 => ?_
  obtain ⟨B, ι, μ, sl, x, r, m, s, rx, e, p⟩ := h1
  cases x with
  | bl b =>
    cases rx
    exact ⟨b, rfl, B, ι, μ, sl, [], r, m, s, .nil, e, p⟩
  | _ => cases e
theorem m_and {a b : Expr} {ea eb : E} {pos : Pos} {rest : List Expr} (ha : Me γ g W X a ea) (hb : Me γ g W X (.BoolOp .And (b :: rest) pos) eb) : Me γ g W X (.BoolOp .And (a :: b :: rest) pos) (.and ea eb) :=
  pe_to (pe_and ha hb) fun σ H Q h => by
    refine rd_imp (rd_bool (fa := evE γ ea) (k := fun k sl μ1 => if k then evE γ eb sl μ1 else some (.ok (.bl false) μ1)) (rd_eq h fun sl μ r e => by simpa only [evE] using e)) fun v H1 h1 => ?_
    obtain ⟨k, rfl, h1⟩ := h1
    refine ⟨k, rfl, ?_⟩
    cases k with
    | true => exact h1
    | false => exact rd_now (a := D.bl false) h1 fun _ _ => Rp.bl _
theorem m_or {a b : Expr} {ea eb : E} {pos : Pos} {rest : List Expr} (ha : Me γ g W X a ea) (hb : Me γ g W X (.BoolOp .Or (b :: rest) pos) eb) : Me γ g W X (.BoolOp .Or (a :: b :: rest) pos) (.or ea eb) :=
  pe_to (pe_or ha hb) fun σ H Q h => by
    refine rd_imp (rd_bool (fa := evE γ ea) (k := fun k sl μ1 => if k then some (.ok (.bl true) μ1) else evE γ eb sl μ1) (rd_eq h fun sl μ r e => by simpa only [evE] using e)) fun v H1 h1 => ?_
    obtain ⟨k, rfl, h1⟩ := h1
    refine ⟨k, rfl, ?_⟩
    cases k with
    | false => exact h1
    | true => exact rd_now (a := D.bl true) h1 fun _ _ => Rp.bl _
theorem m_one {a : Expr} {ea : E} {pos : Pos} {op : BoolOp} (ha : Me γ g W X a ea) : Me γ g W X (.BoolOp op [a] pos) (.one ea) := pe_to (pe_one ha) fun σ H Q h => rd_eq h fun sl μ r e => by simpa only [evE] using e
theorem m_not {a : Expr} {ea : E} {pos : Pos} (ha : Me γ g W X a ea) : Me γ g W X (.UnaryOp .Not a pos) (.not ea) :=
  pe_to (pe_not ha) fun σ H Q h => by
    refine rd_imp (rd_bool (fa := evE γ ea) (k := fun k sl μ1 => some (.ok (.bl (!k)) μ1)) (rd_eq h fun sl μ r e => by simpa only [evE] using e)) fun v H1 h1 => ?_
    obtain ⟨k, rfl, h1⟩ := h1
    exact ⟨k, rfl, rd_now (a := D.bl (!k)) h1 fun _ _ => Rp.bl _⟩
theorem m_ifx {c a b : Expr} {ec ea eb : E} {pos : Pos} (hc : Mt γ g W X c ec) (ha : Me γ g W X a ea) (hb : Me γ g W X b eb) : Me γ g W X (.IfExp c a b pos) (.ifx ec ea eb) :=
  pe_to (pe_ifExp hc ha hb) fun σ H Q h => rd_if (ft := evB γ ec) (fa := evE γ ea) (fb := evE γ eb) (rd_eq h fun sl μ r e => evE_ifx e)
theorem chain_go {op op2 : Cop} {ea eb ec : E} {σ : Sg} {H : Hp} {Q : VK} (h : rd g W (evE γ (.chain op op2 ea eb ec)) σ H Q) : tChain (rCmp g.K op) (rCmp g.K op2) (rd g W (evE γ ea)) (rd g W (evE γ eb)) (rd g W (evE γ ec)) σ H Q := by
  refine rd_imp (rd1 (rel1 := fun g H ι => Rp g H ι) (fa := evE γ ea) (k := fun x sl μ1 => R.bind (evE γ eb sl μ1) fun y μ2 => R.bind (pureR (cmpD μ2 op x y) μ2) fun k μ2 =>
      if k then R.bind (evE γ ec sl μ2) fun z μ3 => pureR ((cmpD μ3 op2 y z).map .bl) μ3 else some (.ok (.bl false) μ2)) (rd_eq h fun sl μ r e => by simpa only [evE] using e)) fun v H1 h1 => ?_
  obtain ⟨B, ι, μ, sl, x, r, m, s, rx, e, p⟩ := h1
  cases q : evE γ eb sl μ with
  | none => rw [q] at e; cases e
  | some rb =>
    rw [q] at e
    refine ⟨B, ι, μ, sl, [], rb, m, s, .nil, q, ?_⟩
    cases rb with
    | ex y μ2 => cases e; exact p
    | ok y μ2 =>
      rw [bind_ok] at e
      refine fun u H2 ι2 x2 m2 r2 => ?_
      cases q2 : cmpD μ2 op x y with
      | none => rw [q2] at e; cases e
      | some k =>
        rw [q2, pureR_some, bind_ok] at e
        refine cmp_fin q2 m2 (rx.mono x2.w) r2 ⟨k, rfl, ?_⟩
        cases k with
        | false =>
          cases e
          exact p _ _ _ x2 m2 (.bl false)
        | true =>
          rw [if_pos rfl] at e ⊢
          cases q3 : evE γ ec sl μ2 with
          | none => rw [q3] at e; cases e
          | some rc =>
            rw [q3] at e
            refine ⟨B, ι2, μ2, sl, [], rc, m2, s.mono x2.w, .nil, q3, ?_⟩
            cases rc with
            | ex z μ3 =>
              cases e
              exact fun c d H3 ι3 x3 m3 r3 => p c d H3 ι3 (x2.trans x3) m3 r3
            | ok z μ3 =>
              rw [bind_ok] at e
              refine fun w H3 ι3 x3 m3 r3 => ?_
              cases q4 : cmpD μ3 op2 y z with
              | none => rw [q4] at e; cases e
              | some k2 =>
                rw [q4] at e
                cases e
                exact cmp_fin q4 m3 (r2.mono x3.w) r3 (p _ _ _ (x2.trans x3) m3 (.bl k2))
theorem m_chain {a b d : Expr} {ea eb ed : E} {pos : Pos} {op op2 : Cop} (c : CtxE g W X) (ha : Me γ g W X a ea) (hb : Me γ g W X b eb) (hd : Me γ g W X d ed) (hm : lastMarks [op.op, op2.op] [b, d] = false := by with_unfolding_all rfl) : Me γ g W X (.Compare a [op.op, op2.op] [b, d] pos) (.chain op op2 ea eb ed) :=
  pe_to (pe_chain (c.K ▸ cmp_ok c.units op : OpR X (compareOp op.op) (rCmp g.K op)) (c.K ▸ cmp_ok c.units op2 : OpR X (compareOp op2.op) (rCmp g.K op2)) ha hb hd hm) fun σ H Q h => chain_go h
theorem mt_chain {a b d : Expr} {ea eb ed : E} {pos : Pos} {op op2 : Cop} (c : CtxE g W X) (ha : Me γ g W X a ea) (hb : Me γ g W X b eb) (hd : Me γ g W X d ed) (hm : lastMarks [op.op, op2.op] [b, d] = false := by with_unfolding_all rfl) : Mt γ g W X (.Compare a [op.op, op2.op] [b, d] pos) (.chain op op2 ea eb ed) :=
  pt_to (pt_chain (c.K ▸ cmp_ok c.units op : OpR X (compareOp op.op) (rCmp g.K op)) (c.K ▸ cmp_ok c.units op2 : OpR X (compareOp op2.op) (rCmp g.K op2)) ha hb hd hm) fun σ H Q h => chain_go (rd_test h)

theorem ma_nil : Ma γ g W X [] .nil := pa_to pa_nil fun σ H Q h => rd_now (a := ([] : List D)) h fun _ _ => RpL.nil
theorem ma_cons {e : Expr} {es : List Expr} {t : E} {ts : Es} (he : Me γ g W X e t) (hs : Ma γ g W X es ts) (hst : starEach (e :: es) X.env = (false, eval e X.env) :: starEach es X.env := by rfl) : Ma γ g W X (e :: es) (.cons t ts) :=
  pa_to (pa_cons he hs hst) fun σ H Q h => by
    refine rd_imp (rd1 (rel1 := fun g H ι => Rp g H ι) (fa := evE γ t) (k := fun x sl μ1 => R.bind (evEs γ ts sl μ1) fun xs μ2 => some (.ok (x :: xs) μ2)) (rd_eq h fun sl μ r e => by simpa only [evEs] using e)) fun v H1 h1 => ?_
    obtain ⟨B, ι, μ, sl, x, r, m, s, rx, e, p⟩ := h1
    cases q : evEs γ ts sl μ with
    | none => rw [q] at e; cases e
    | some rb =>
      rw [q] at e
      refine ⟨B, ι, μ, sl, [], rb, m, s, .nil, q, ?_⟩
      cases rb with
      | ex y μ2 => cases e; exact p
      | ok y μ2 =>
        cases e
        exact fun u H2 ι2 x2 m2 r2 => p _ _ _ x2 m2 (.cons (rx.mono x2.w) r2)
theorem mo_no : Mo γ g W X none .no := po_to po_none fun σ H Q h => rd_now (a := (none : Option Int)) h fun _ _ => rfl
theorem mo_some {e : Expr} {t : E} (he : Me γ g W X e t) : Mo γ g W X (some e) (.some t) := po_to (po_some he) fun σ H Q h => by
  refine rd_imp (rd1 (rel1 := fun g H ι => Rp g H ι) (fa := evE γ t) (k := fun x _ μ1 => asI x fun i => some (.ok (some i) μ1)) (rd_eq h fun sl μ r e => by simpa only [evEo] using e)) fun v H1 h1 => ?_
  obtain ⟨B, ι, μ, sl, x, r, m, s, rx, e, p⟩ := h1
  cases x with
  | int i =>
    cases rx
    cases e
    exact ⟨i, rfl, p _ _ _ .refl m rfl⟩
  | _ => cases e
theorem mts_nil : Mts γ g W X [] .no := pts_to pts_nil fun σ H Q h => rd_now (a := true) h fun _ _ => rfl
theorem mts_one {e : Expr} {t : E} (he : Mt γ g W X e t) : Mts γ g W X [e] (.some t) := pts_to (pts_one he) fun σ H Q h => rd_eq h fun sl μ r e => by simpa only [evT, evB] using e

theorem m_tup {es : List Expr} {ts : Es} {pos : Pos} {k : Nat} (h : Ma γ g W X es ts) : Me γ g W X (.Tuple es k pos) (.tup ts) :=
  pe_to (pe_tup h) fun σ H Q h => by
    refine rd_imp (rd1 (rel1 := fun g H ι => RpL g H ι) (fa := evEs γ ts) (k := fun xs _ μ1 => if xs.length ≤ sizeLine then some (.ok (D.tup xs) μ1) else none) (rd_eq h fun sl μ r e => by simpa only [evE] using e)) fun v H1 h1 => ?_
    obtain ⟨B, ι, μ, sl, x, r, m, s, rx, e, p⟩ := h1
    split at e
    · rename_i hl
      cases e
      exact ⟨by rw [← rx.length]; exact hl, fun q hq => Fin.tup p m rx q hq⟩
    · cases e
theorem m_idx {a b : Expr} {ea eb : E} {pos : Pos} (c : CtxE g W X) (ha : Me γ g W X a ea) (hb : Me γ g W X b eb) (hp : PlainIx b := by intro _ _; rfl) : Me γ g W X (.Subscript a b pos) (.idx ea eb) :=
  pe_to (pe_ix (c.K ▸ ix4_ok (Nat.lt_of_le_of_lt (Nat.add_le_add_left (by decide : 1 ≤ 65) _) c.units) : IxR X (rIx4 g.K)) ha hb hp) fun σ H Q h => by
    refine rd_imp (rd2 h) fun v H1 h1 => rd_imp h1 fun u H2 h2 => ?_
    obtain ⟨B, ι, μ, x, y, r, m, rx, ry, e, p⟩ := h2
    cases q : idxD μ x y with
    | none => rw [q] at e; cases e
    | some d => rw [q] at e; cases e; exact idx_fin q m rx ry p
theorem m_rev {a : Expr} {ea : E} {k : Nat} {p1 p2 p3 pos : Pos} (c : CtxE g W X) (ha : Me γ g W X a ea) : Me γ g W X (.Subscript a (.Slice none none (some (.UnaryOp .USub (.Constant (.int 1) k p1) p2)) p3) pos) (.rev ea) :=
  pe_to (c.K ▸ pe_revS ha : PE X _ (tRevT g.K (rd g W (evE γ ea)))) fun σ H Q h => by
    refine rd_imp (rd1 (rel1 := fun g H ι => Rp g H ι) (fa := evE γ ea) (k := fun x _ μ1 => pureR (revD μ1 x) μ1) (rd_eq h fun sl μ r e => by simpa only [evE] using e)) fun v H1 h1 => ?_
    obtain ⟨B, ι, μ, sl, x, r, m, s, rx, e, p⟩ := h1
    cases q : revD μ x with
    | none => rw [q] at e; cases e
    | some d => rw [q] at e; cases e; exact rev_fin q m rx p
theorem m_slc {a : Expr} {lo hi : Option Expr} {ea : E} {el eh : Eo} {p2 pos : Pos} (c : CtxE g W X) (ha : Me γ g W X a ea) (hl : Mo γ g W X lo el) (hh : Mo γ g W X hi eh) : Me γ g W X (.Subscript a (.Slice lo hi none p2) pos) (.slc ea el eh) :=
  pe_to (pe_slice (c.K ▸ sl2_ok : SlR X (rSl2 g.K)) ha hl hh) fun σ H Q h => by
    refine rd_imp (rd1 (rel1 := fun g H ι => Rp g H ι) (fa := evE γ ea) (k := fun x sl μ1 => R.bind (evEo γ el sl μ1) fun l μ2 => R.bind (evEo γ eh sl μ2) fun h μ3 => pureR (slcD μ3 x l h) μ3) (rd_eq h fun sl μ r e => by simpa only [evE] using e)) fun v H1 h1 => ?_
    obtain ⟨B, ι, μ, sl, x, r, m, s, rx, e, p⟩ := h1
    cases q : evEo γ el sl μ with
    | none => rw [q] at e; cases e
    | some rb =>
      rw [q] at e
      refine ⟨B, ι, μ, sl, [], rb, m, s, .nil, q, ?_⟩
      cases rb with
      | ex y μ2 => cases e; exact p
      | ok lv μ2 =>
        rw [bind_ok] at e
        intro l2 H2 ι2 x2 m2 (e2 : lv = l2)
        subst e2
        cases q3 : evEo γ eh sl μ2 with
        | none => rw [q3] at e; cases e
        | some rc =>
          rw [q3] at e
          refine ⟨B, ι2, μ2, sl, [], rc, m2, s.mono x2.w, .nil, q3, ?_⟩
          cases rc with
          | ex y μ3 =>
            cases e
            exact fun c d H3 ι3 x3 m3 r3 => p c d H3 ι3 (x2.trans x3) m3 r3
          | ok hv μ3 =>
            rw [bind_ok] at e
            intro h2 H3 ι3 x3 m3 (e3 : hv = h2)
            subst e3
            cases q4 : slcD μ3 x lv hv with
            | none => rw [q4] at e; cases e
            | some d =>
              rw [q4] at e
              cases e
              exact slc_fin q4 m3 ((rx.mono x2.w).mono x3.w) fun v' H' ι' x' m' r' => p v' H' ι' ((x2.trans x3).trans x') m' r'
end
end Mn
end
section
namespace Mn
open PySem PySem.Spec PyProof.Rows L2

def spM (g : G) (φ : List D → Mem → Option (R D)) : Sp := fun vs H Q E =>
  ∃ B ι μ ds r, MR (g.b B) H ι μ ∧ RpL (g.b B) H ι ds vs ∧ φ ds μ = some r ∧ (match r with
    | .ok d μ' => ∀ v H' ι', Nx [] H ι H' ι' → MR (g.b B) H' ι' μ' → Rp (g.b B) H' ι' d v → Q v H'
    | .ex x μ' => ∀ cls dd H' ι', Nx [] H ι H' ι' → MR (g.b B) H' ι' μ' → XRp (g.b B) H' ι' x cls dd → E cls dd H')
section
variable {γ : Gam} {g : G} {W : WX} {X : Cx}
theorem spM_go {φ : List D → Mem → Option (R D)} {ts : Es} {vd : List V} {dd : List D} {σ : Sg} {H : Hp} {Q : VK} (hd : ∀ g H ι, RpL g H ι dd vd) (h : rd g W (fun sl μ => R.bind (evEs γ ts sl μ) fun xs μ1 => φ (xs ++ dd) μ1) σ H Q) :
    rdA g W (evEs γ ts) σ H fun vs H1 => spM g φ (vs ++ vd) H1 Q (WE W σ) := by
  refine rd_imp (rd1 (rel1 := fun g H ι => RpL g H ι) (fa := evEs γ ts) (k := fun xs _ μ1 => φ (xs ++ dd) μ1) h) fun vs H1 h1 => ?_
  obtain ⟨B, ι, μ, sl, x, r, m, s, rx, e, p⟩ := h1
  refine ⟨B, ι, μ, x ++ dd, r, m, rx.append (hd _ _ _), e, ?_⟩
  cases r with
  | ok d μ' => exact p
  | ex d μ' => exact p
theorem m_call {j k : Nat} {f : Addr} {fd : FuncData} {ps : List Str} {φ : List D → Mem → Option (R D)} {x : Str} {p pos : Pos} {e : Expr} {es : List Expr} {ts : Es} (c : CtxE g W X) (hφ : γ.fn j = φ)
    (F : FnOk X.prog X.w X.K X.mg X.base (L2.CX X.prog X.w) k f fd ps (spM g φ)) (hr : Room k X.A) (hg : Gl X x) (hm : X.mg x = some (.ref f)) (hk : PySem.W.keepIn X.K (.ref f) = true) (hb : L2.Binds X.K fd ps [])
    (ha : Ma γ g W X (e :: es) ts) (hdb : (x == ("__debug__" : Str)) = false := by decide) (he : starEach (e :: es) X.env = (false, eval e X.env) :: starEach es X.env := by rfl) (hpl : (backTo pos (starEach es X.env)).any (·.1) = false := by rfl) :
    Me γ g W X (.Call (.Name x p) (e :: es) [] pos) (.call j ts) :=
  pe_to (pe_callS F hr hg hm hk hb (E := WE W) (fun σ => passAt c.tk σ) ha hdb he hpl) fun σ H Q h => by
    have q := spM_go (γ := γ) (φ := φ) (ts := ts) (vd := []) (dd := []) (fun _ _ _ => RpL.nil) (W := W) (g := g) (σ := σ) (H := H) (Q := Q) (rd_eq h fun sl μ r e => by simpa only [evE, hφ, List.append_nil] using e)
    exact rd_imp q fun vs H1 h1 => by rwa [List.append_nil] at h1

theorem blt_go {b : Blt} {ts : Es} {σ : Sg} {H : Hp} {Q : VK} (h : rd g W (evE γ (.blt b ts)) σ H Q) : tCB (rBlt g.K b) (rdA g W (evEs γ ts)) σ H Q := by
  refine rd_imp (rd1 (rel1 := fun g H ι => RpL g H ι) (fa := evEs γ ts) (k := fun xs _ μ1 => pureR (bltD μ1 b xs) μ1) (rd_eq h fun sl μ r e => by simpa only [evE] using e)) fun vs H1 h1 => ?_
  obtain ⟨B, ι, μ, sl, x, r, m, s, rx, e, p⟩ := h1
  cases q : bltD μ b x with
  | none => rw [q] at e; cases e
  | some d => rw [q] at e; cases e; exact blt_fin q m rx p
theorem m_bltB {b : Blt} {x : Str} {p pos : Pos} {e : Expr} {es : List Expr} {ts : Es} {id : String} (c : CtxE g W X) (hf : b.fv = .builtin id) (hg : Gl X x) (hm : X.mg x = none) (hv : bootBuiltins x = some (.builtin id)) (ha : Ma γ g W X (e :: es) ts) (hn : x ≠ "__name__" := by decide) (hdb : (x == ("__debug__" : Str)) = false := by decide)
    (he : starEach (e :: es) X.env = (false, eval e X.env) :: starEach es X.env := by rfl) (hpl : (backTo pos (starEach es X.env)).any (·.1) = false := by rfl) : Me γ g W X (.Call (.Name x p) (e :: es) [] pos) (.blt b ts) :=
  pe_to (pe_callB (hf ▸ c.K ▸ blt_ok c.calm b : CallR X (.builtin id) (rBlt g.K b)) hg hm hv ha hn hdb he hpl) fun σ H Q h => blt_go h
theorem m_bltT {b : Blt} {x : Str} {p pos : Pos} {e : Expr} {es : List Expr} {ts : Es} {id : String} (c : CtxE g W X) (hf : b.fv = .type id) (hg : Gl X x) (hm : X.mg x = none) (hv : bootBuiltins x = some (.type id)) (ha : Ma γ g W X (e :: es) ts) (hn : x ≠ "__name__" := by decide) (hdb : (x == ("__debug__" : Str)) = false := by decide)
    (he : starEach (e :: es) X.env = (false, eval e X.env) :: starEach es X.env := by rfl) (hpl : (backTo pos (starEach es X.env)).any (·.1) = false := by rfl) : Me γ g W X (.Call (.Name x p) (e :: es) [] pos) (.blt b ts) :=
  pe_to (pe_callTy (hf ▸ c.K ▸ blt_ok c.calm b : CallR X (.type id) (rBlt g.K b)) hg hm hv ha hn hdb he hpl) fun σ H Q h => blt_go h
theorem m_isi {t : Ty} {x y : Str} {p p2 pos : Pos} {e : Expr} {ea : E} (c : CtxE g W X) (ht : ∀ k, t ≠ .own k) (hx : x = "isinstance") (hg : Gl X x) (hm : X.mg x = none) (hg2 : Gl X y) (hm2 : X.mg y = none) (hv2 : bootBuiltins y = some (.type t.nm)) (ha : Me γ g W X e ea) (hn2 : y ≠ "__name__" := by decide) (hdb2 : (y == ("__debug__" : Str)) = false := by decide)
    (he : starEach [e, .Name y p2] X.env = (false, eval e X.env) :: starEach [.Name y p2] X.env := by rfl) : Me γ g W X (.Call (.Name x p) [e, .Name y p2] [] pos) (.isi ea t) := by
  subst hx
  have h2 : PE X (.Name y p2) (tC (.ty t.nm)) := pe_bltn hg2 hm2 hv2 rfl hn2 hdb2
  refine pe_to (pe_callB (id := "isinstance") (c.K ▸ call_isi : CallR X (.builtin "isinstance") (rIsi g.K)) hg hm rfl (pa_cons ha (pa_cons h2 pa_nil) he) (by decide) (by decide) he) fun σ H Q h => ?_
  refine rd_imp (rd1 (rel1 := fun g H ι => Rp g H ι) (fa := evE γ ea) (k := fun x _ μ1 => pureR ((isiD μ1 x t).map .bl) μ1) (rd_eq h fun sl μ r e => by simpa only [evE] using e)) fun v H1 h1 => ?_
  obtain ⟨B, ι, μ, sl, x, r, m, s, rx, e, p⟩ := h1
  cases q : isiD μ x t with
  | none => rw [q] at e; cases e
  | some d => rw [q] at e; cases e; exact isi_fin ht q m rx (p _ _ _ .refl m (.bl d))

theorem rdL_of {f : Sl → Mem → Option (R (List D))} {σ : Sg} {H : Hp} {Q : VK} (h : rdG g W (fun g H ι => RpL g H ι) f σ H fun vs H1 => ∀ p, H1 p = none → Q (.ref p) (upd H1 p (.lst vs))) : rdL g W f σ H Q := by
  obtain ⟨B, ι, μ, sl, ds, r, mr, sr, hd, e, p⟩ := h
  refine ⟨B, ι, μ, sl, r, mr, sr, e, ?_⟩
  cases r with
  | ok d μ' => exact p
  | ex d μ' => exact p
theorem of_rdL {f : Sl → Mem → Option (R (List D))} {σ : Sg} {H : Hp} {Q : VK} (h : rdL g W f σ H Q) : rdG g W (fun g H ι => RpL g H ι) f σ H fun vs H1 => ∀ p, H1 p = none → Q (.ref p) (upd H1 p (.lst vs)) := by
  obtain ⟨B, ι, μ, sl, r, mr, sr, e, p⟩ := h
  refine ⟨B, ι, μ, sl, [], r, mr, sr, .nil, e, ?_⟩
  cases r with
  | ok d μ' => exact p
  | ex d μ' => exact p
theorem m_val {e : Expr} {l : Ls} (h : Ml γ g W X e l) : Me γ g W X e (.val l) := pe_to h fun σ H Q h => rdL_of (by
  refine rd_imp (rd1 (rel1 := fun g H ι => RpL g H ι) (fa := evL γ l) (k := fun ds _ μ1 => some (.ok (D.lst ds) μ1)) (rd_eq h fun sl μ r e => by simpa only [evE] using e)) fun vs H1 h1 => ?_
  obtain ⟨B, ι, μ, sl, x, r, m, s, rx, e, p⟩ := h1
  cases e
  exact fun q hq => Fin.lst p m rx q hq)
theorem m_mk {e : Expr} {l : Ls} (h : Ml γ g W X e l) : Me γ g W X e (.mk l) := pe_to h fun σ H Q h => rdL_of (by
  refine rd_imp (rd1 (rel1 := fun g H ι => RpL g H ι) (fa := evL γ l) (k := fun ds _ μ1 => some (.ok (D.ref μ1.length) (μ1 ++ [.lst ds]))) (rd_eq h fun sl μ r e => by simpa only [evE] using e)) fun vs H1 h1 => ?_
  obtain ⟨B, ι, μ, sl, x, r, m, s, rx, e, p⟩ := h1
  cases e
  intro q hq
  have hx : Nx [] H1 ι (upd H1 q (.lst vs)) (ι ++ [q]) := ⟨(Nx.laid (ι := ι) hq).ext, (Nx.laid (ι := ι) hq).dom, [q], rfl, fun b hb o e => by
    have : b = q := by simpa using hb
    rw [this, hq] at e; cases e⟩
  obtain ⟨m2, x2⟩ := m.new (u := .lst vs) (o := .lst x) hq ⟨vs, upd_same, rx.mono hx.w⟩
  exact p _ _ _ x2 m2 (.ref (by rw [← m.len]; simp)))
theorem ml_disp {es : List Expr} {ts : Es} {pos : Pos} (h : Ma γ g W X es ts) : Ml γ g W X (.List es pos) (.disp ts) := pe_to (pe_lst h) fun σ H Q h => by
  refine rd_imp (rd1 (rel1 := fun g H ι => RpL g H ι) (fa := evEs γ ts) (k := fun xs _ μ1 => if xs.length ≤ sizeLine then some (.ok xs μ1) else none) (rd_eq (of_rdL h) fun sl μ r e => by simpa only [evL] using e)) fun v H1 h1 => ?_
  obtain ⟨B, ι, μ, sl, x, r, m, s, rx, e, p⟩ := h1
  split at e
  · rename_i hl
    cases e
    exact ⟨by rw [← rx.length]; exact hl, p _ _ _ .refl m rx⟩
  · cases e
def rCat2 : R2 := fun x y H Q => ∃ l b xs zs, x = .ref l ∧ y = .ref b ∧ Rd H l (.lst xs) ∧ Rd H b (.lst zs) ∧ xs.length + zs.length ≤ sizeLine ∧ ∀ p, H p = none → Q (.ref p) (upd H p (.lst (xs ++ zs)))
theorem op_cat2 : OpR X (binaryOp .Add) rCat2 := by
  intro pins s σ H x y v u Q I rx ry h
  obtain ⟨l, b, xs, zs, rfl, rfl, hH, hB, hz, q⟩ := h
  cases rx
  cases ry
  obtain ⟨z1, k1, n1, r1, e1⟩ := hH.ok I.hok
  obtain ⟨z2, k2, n2, r2, e2⟩ := hB.ok I.hok
  have l1 := r1.length
  have l2 := r2.length
  refine PySem.P.add_list e1 e2 ?_ (by rw [List.size_toArray, List.size_toArray]; omega)
  rw [show k1.toArray ++ k2.toArray = (k1 ++ k2).toArray by simp]
  exact ⟨.ref _, _, I.lnew (t' := s.toks) (r1.append r2) (by rw [List.length_append]; omega), rfl, q _ I.fresh⟩
theorem seqL_rd {H : Hp} {ι : List Addr} {μ : Mem} {d : D} {v : V} {ds : List D} (m : MR g H ι μ) (r : Rp g H ι d v) (e : seqC μ d = some ds) : ∃ a vs, v = .ref a ∧ Rd H a (.lst vs) ∧ RpL g H ι ds vs := by
  cases d with
  | lst xs =>
    cases e
    cases r with
    | lst f q => exact ⟨_, _, rfl, .inl f.2.2, q⟩
    | frz f q => exact ⟨_, _, rfl, .inr ⟨_, f.2.2⟩, q⟩
  | ref n =>
    cases r with
    | ref h =>
      simp only [seqC] at e
      split at e
      · rename_i xs hn
        cases e
        obtain ⟨ws, hw, q⟩ := m.at_ _ _ _ hn h
        exact ⟨_, ws, rfl, .inl hw, q⟩
      · cases e
  | _ => simp [seqC] at e
theorem ml_cat {a b : Expr} {ea eb : E} {pos : Pos} (ha : Me γ g W X a ea) (hb : Me γ g W X b eb) : Ml γ g W X (.BinOp a .Add b pos) (.cat ea eb) := pe_to (pe_op op_cat2 ha hb) fun σ H Q h => by
  refine rd_imp (rd2 (rel := fun g H ι => RpL g H ι) (fa := evE γ ea) (fb := evE γ eb) (k := fun x y μ2 => pureR ((seqC μ2 x).bind fun xs => (seqC μ2 y).bind fun ys => if xs.length + ys.length ≤ sizeLine then some (xs ++ ys) else none) μ2)
    (rd_eq (of_rdL h) fun sl μ r e => by simpa only [evL] using e)) fun v H1 h1 => rd_imp h1 fun u H2 h2 => ?_
  obtain ⟨B, ι, μ, x, y, r, m, rx, ry, e, p⟩ := h2
  cases q1 : seqC μ x with
  | none => rw [q1] at e; cases e
  | some xs =>
    cases q2 : seqC μ y with
    | none => rw [q1, q2] at e; cases e
    | some ys =>
      rw [q1, q2] at e
      simp only [Option.bind_some] at e
      split at e
      · rename_i hl
        cases e
        obtain ⟨l, vs, rfl, h1, r1⟩ := seqL_rd m rx q1
        obtain ⟨b, ws, rfl, h2, r2⟩ := seqL_rd m ry q2
        exact ⟨l, b, vs, ws, rfl, rfl, h1, h2, by rw [← r1.length, ← r2.length]; exact hl, p _ _ _ .refl m (r1.append r2)⟩
      · cases e

def iSeq (K : Frg) (tl : TE) : TI := fun σ H R => tl σ H fun x H1 => ∃ a, x = .ref a ∧ (((∃ xs, SqL K H1 a xs) ∧ R (Itl K a) H1) ∨ ((∃ xs, SqT K H1 a xs) ∧ R (Itt K a) H1))
theorem pi_seq {tg l : Expr} {tl : TE} (hl : PE X l tl) : PI X tg l (iSeq X.K tl) := by
  refine ⟨fun pins s σ H R I h => thn (hl.run pins s σ H _ I h) fun v s1 hv => ?_⟩
  obtain ⟨x, H1, I1, r1, a, ex, q1⟩ := hv
  subst ex
  cases r1
  have fr : ∀ b, b ∈ [s1.heap.objs.size] → FpOk X pins H1 b := fun b hb => by
    have eb : b = s1.heap.objs.size := by simpa using hb
    rw [eb]
    exact I1.fpOk (Nat.le_refl _) (I1.hok.fresh (Nat.le_refl _))
  rcases q1 with ⟨⟨xs, hq⟩, q⟩ | ⟨⟨xs, hq⟩, q⟩
  · obtain ⟨its, _, p, _⟩ := I1.list hq
    exact wpAny_pyIter_list p.isList ⟨s1.heap.objs.size, [s1.heap.objs.size], _, Itl X.K a, H1, rfl, I1.kept (t' := s1.toks) fun b o e => Heap.get?_push_of_some _ e, turn_list a _, ⟨_, Heap.get?_push_size _ rfl, rfl, rfl⟩, fr, q⟩
  · obtain ⟨its, _, p, _⟩ := I1.tuple hq
    exact wpAny_pyIter_tuple (show s1.heap.IsTuple a its.toArray from p) ⟨s1.heap.objs.size, [s1.heap.objs.size], _, Itt X.K a, H1, rfl, I1.kept (t' := s1.toks) fun b o e => Heap.get?_push_of_some _ e, turn_tuple a _, ⟨_, Heap.get?_push_size _ rfl, rfl, rfl⟩, fr, q⟩
theorem mi_seq {tg e : Expr} {t : E} (c : CtxE g W X) (h : Me γ g W X e t) : Mi γ g W X tg e (.seq t) := pi_to (c.K ▸ pi_seq h : PI X tg e (iSeq g.K (rd g W (evE γ t)))) fun σ H R' h => by
  refine rd_imp (onI (fa := evE γ t) (k := fun x _ μ1 => pureR (itD x) μ1) (by
    obtain ⟨B, ι, μ, sl, r, mr, sr, e, p⟩ := h
    exact ⟨B, ι, μ, sl, r, mr, sr, by simpa only [evI] using e, p⟩)) fun v H1 h1 => ?_
  obtain ⟨B, ι, μ, sl, x, r, m, s, rx, e, p⟩ := h1
  cases x with
  | tup ds =>
    cases e
    obtain ⟨a, vs, rfl, q, f⟩ := fixed_tup rx
    exact ⟨a, rfl, .inr ⟨⟨vs, f _ _ _ OkB.self .refl⟩, p _ _ _ .refl m (walkD_of walk_tup rfl q f)⟩⟩
  | lst ds =>
    cases e
    obtain ⟨a, vs, rfl, q, f⟩ := fixed_lst rx
    exact ⟨a, rfl, .inl ⟨⟨vs, f _ _ _ OkB.self .refl⟩, p _ _ _ .refl m (walkD_of walk_list rfl q f)⟩⟩
  | kls ds =>
    cases e
    obtain ⟨a, vs, rfl, q, f⟩ := fixed_kls rx
    exact ⟨a, rfl, .inl ⟨⟨vs, f _ _ _ OkB.self .refl⟩, p _ _ _ .refl m (walkD_of walk_list rfl q f)⟩⟩
  | _ => cases e
end
end Mn
end
section
namespace Mn
open PySem PySem.Spec PyProof.Rows L2
section
variable {γ : Gam} {g : G} {W : WX} {X : Cx}
theorem rdI_eq {f f' : Sl → Mem → Option (R (List D))} {σ : Sg} {H : Hp} {R' : It → Hp → Prop} (h : rdI g W f σ H R') (i : ∀ sl μ r, f sl μ = some r → f' sl μ = some r) : rdI g W f' σ H R' := by
  obtain ⟨B, ι, μ, sl, r, mr, sr, e, p⟩ := h
  exact ⟨B, ι, μ, sl, r, mr, sr, i _ _ _ e, p⟩
theorem onI1 {γ' δ : Type} {rel1 : Rl γ' δ} {fa : Sl → Mem → Option (R γ')} {k : γ' → Sl → Mem → Option (R (List D))} {σ : Sg} {H : Hp} {R' : It → Hp → Prop} (h : rdI g W (fun sl μ => R.bind (fa sl μ) fun x μ1 => k x sl μ1) σ H R') :
    rdG g W rel1 fa σ H fun v H1 => ∃ B ι μ sl x r, MR (g.b B) H1 ι μ ∧ SR (g.b B) H1 ι sl σ ∧ rel1 (g.b B) H1 ι x v ∧ k x sl μ = some r ∧ PostI g W B σ H1 ι R' r := by
  obtain ⟨B, ι, μ, sl, r, mr, sr, e, p⟩ := h
  dsimp only at e
  cases q : fa sl μ with
  | none => rw [q] at e; cases e
  | some ra =>
    rw [q] at e
    refine ⟨B, ι, μ, sl, [], ra, mr, sr, .nil, q, ?_⟩
    cases ra with
    | ok x μ1 => exact fun v H1 ι1 x1 m1 r1 => ⟨B, ι1, μ1, sl, x, r, m1, sr.mono x1.w, r1, e, p.from x1⟩
    | ex x μ1 => cases e; exact p
theorem range_fin {lo hi : Int} {ds : List D} {H : Hp} {ι : List Addr} (e : rangeD lo hi = some ds) : (-(2 ^ 62) ≤ lo ∧ lo < 2 ^ 62 ∧ -(2 ^ 62) ≤ hi ∧ hi < 2 ^ 62) ∧ WalkD g H ι (Itr lo (hi - lo).toNat) ds := by
  unfold rangeD at e
  split at e
  · rename_i h
    cases e
    exact ⟨h, walkD_range⟩
  · cases e
theorem mi_range1 {tg a : Expr} {ea : E} {p pos : Pos} (hg : Gl X "range") (hm : X.mg "range" = none) (ha : Me γ g W X a ea) (hs : starEach [a] X.env = [(false, eval a X.env)] := by rfl) : Mi γ g W X tg (.Call (.Name "range" p) [a] [] pos) (.range .no (.some ea)) :=
  pi_to (pi_range1 hg hm (pa_cons ha pa_nil hs) hs) fun σ H R' h => by
    refine rd_imp (onI1 (rel1 := fun g H ι => Rp g H ι) (fa := evE γ ea) (k := fun x _ μ2 => asI x fun i => pureR (rangeD 0 i) μ2) (rdI_eq h fun sl μ r e => ?_)) fun v H1 h1 => ?_
    · simp only [evI, evEo, bind_ok] at e
      cases q : evE γ ea sl μ with
      | none => rw [q] at e; cases e
      | some ra =>
        rw [q] at e
        cases ra with
        | ex x μ1 => exact e
        | ok x μ1 =>
          simp only [bind_ok] at e ⊢
          cases x with
          | int i => exact e
          | _ => cases e
    · obtain ⟨B, ι, μ, sl, x, r, m, s, rx, e, p⟩ := h1
      cases x with
      | int j =>
        cases rx
        rw [asI_int] at e
        cases q : rangeD 0 j with
        | none => rw [q] at e; cases e
        | some ds =>
          rw [q] at e
          cases e
          obtain ⟨⟨_, _, h3, h4⟩, w⟩ := range_fin (g := g.b B) (H := H1) (ι := ι) q
          rw [show j - 0 = j by omega] at w
          exact ⟨j, rfl, h3, h4, p _ _ _ .refl m w⟩
      | _ => cases e
theorem mi_range2 {tg a b : Expr} {ea eb : E} {p pos : Pos} (hg : Gl X "range") (hm : X.mg "range" = none) (ha : Me γ g W X a ea) (hb : Me γ g W X b eb) (hs : starEach [a, b] X.env = [(false, eval a X.env), (false, eval b X.env)] := by rfl) (hs2 : starEach [b] X.env = [(false, eval b X.env)] := by rfl) :
    Mi γ g W X tg (.Call (.Name "range" p) [a, b] [] pos) (.range (.some ea) (.some eb)) :=
  pi_to (pi_range2 hg hm (pa_cons ha (pa_cons hb pa_nil hs2) (by rw [hs, hs2])) hs hs2) fun σ H R' h => by
    refine rd_imp (onI1 (rel1 := fun g H ι => Rp g H ι) (fa := evE γ ea) (k := fun x sl μ1 => asI x fun i => R.bind (evE γ eb sl μ1) fun y μ2 => asI y fun j => pureR (rangeD i j) μ2) (rdI_eq h fun sl μ r e => ?_)) fun v H1 h1 => ?_
    · simp only [evI, evEo] at e
      cases q : evE γ ea sl μ with
      | none => rw [q] at e; cases e
      | some ra =>
        rw [q] at e
        cases ra with
        | ex x μ1 => exact e
        | ok x μ1 =>
          simp only [bind_ok] at e ⊢
          cases x with
          | int i =>
            simp only [asI_int, bind_ok] at e ⊢
            cases q2 : evE γ eb sl μ1 with
            | none => rw [q2] at e; cases e
            | some rb =>
              rw [q2] at e
              cases rb with
              | ex y μ2 => exact e
              | ok y μ2 =>
                simp only [bind_ok] at e ⊢
                cases y with
                | int j => exact e
                | _ => cases e
          | _ => cases e
    · obtain ⟨B, ι, μ, sl, x, r, m, s, rx, e, p⟩ := h1
      cases x with
      | int i =>
        cases rx
        rw [asI_int] at e
        cases q : evE γ eb sl μ with
        | none => rw [q] at e; cases e
        | some rb =>
          rw [q] at e
          refine ⟨B, ι, μ, sl, [], rb, m, s, .nil, q, ?_⟩
          cases rb with
          | ex y μ2 => cases e; exact p
          | ok y μ2 =>
            rw [bind_ok] at e
            intro u H2 ι2 x2 m2 r2
            cases y with
            | int j =>
              cases r2
              rw [asI_int] at e
              cases q2 : rangeD i j with
              | none => rw [q2] at e; cases e
              | some ds =>
                rw [q2] at e
                cases e
                obtain ⟨hb, w⟩ := range_fin (g := g.b B) (H := H2) (ι := ι2) q2
                exact ⟨i, j, rfl, hb, p _ _ _ x2 m2 w⟩
            | _ => cases e
      | _ => cases e
theorem ints_up {g : G} {H : Hp} {ι : List Addr} : ∀ n : Nat, RpL g H ι ((List.range n).map fun (i : Nat) => D.int (i : Int)) ((List.range n).map fun (i : Nat) => V.int (i : Int)) := fun n => by
  generalize List.range n = l
  induction l with
  | nil => exact .nil
  | cons a l ih => exact .cons (.int _) ih
theorem enumD_is (ds : List D) : enumD ds = (((List.range ds.length).map fun (i : Nat) => D.int (i : Int)).zipWith (fun a b => D.tup [a, b]) ds) := by
  unfold enumD
  rw [List.zipWith_map_left]
theorem mi_enum {elts : List Expr} {kk : Nat} {tpos p pos : Pos} {e : Expr} {ea : E} (c : CtxE g W X) (hg : Gl X "enumerate") (hm : X.mg "enumerate" = none) (ha : Me γ g W X e ea) (hs : starEach [e] X.env = [(false, eval e X.env)] := by rfl) :
    Mi γ g W X (.Tuple elts kk tpos) (.Call (.Name "enumerate" p) [e] [] pos) (.enum ea) :=
  pi_to (c.K ▸ pi_enum2 hg hm (pa_cons ha pa_nil hs) hs : PI X _ _ (iEnum2 g.K (tCons (rd g W (evE γ ea)) tNil))) fun σ H R' h => by
    refine rd_imp (onI1 (rel1 := fun g H ι => Rp g H ι) (fa := evE γ ea) (k := fun x _ μ2 => pureR ((itD x).map enumD) μ2) (rdI_eq h fun sl μ r e => by simpa only [evI] using e)) fun v H1 h1 => ?_
    obtain ⟨B, ι, μ, sl, x, r, m, s, rx, e, p⟩ := h1
    have fa : ∀ {n i : Nat}, i < n → (some (V.int (i : Nat)) : Option V) = ((List.range n).map fun (i : Nat) => V.int (i : Int))[i]? := fun {n i} hi => by
      rw [List.getElem?_map, List.getElem?_range hi]; rfl
    cases x with
    | tup ds =>
      cases e
      obtain ⟨a, vs, rfl, q, f⟩ := fixed_tup rx
      refine ⟨a, vs, rfl, .inr ⟨f _ _ _ OkB.self .refl, p _ _ _ .refl m ?_⟩⟩
      rw [enumD_is, q.length]
      exact walkD_pair walk_enumT (by simp) q.length (ints_up _) q (fun i hi => fa hi) (fun i hi => rfl) f
    | lst ds =>
      cases e
      obtain ⟨a, vs, rfl, q, f⟩ := fixed_lst rx
      refine ⟨a, vs, rfl, .inl ⟨f _ _ _ OkB.self .refl, p _ _ _ .refl m ?_⟩⟩
      rw [enumD_is, q.length]
      exact walkD_pair walk_enum (by simp) q.length (ints_up _) q (fun i hi => fa hi) (fun i hi => rfl) f
    | kls ds =>
      cases e
      obtain ⟨a, vs, rfl, q, f⟩ := fixed_kls rx
      refine ⟨a, vs, rfl, .inl ⟨f _ _ _ OkB.self .refl, p _ _ _ .refl m ?_⟩⟩
      rw [enumD_is, q.length]
      exact walkD_pair walk_enum (by simp) q.length (ints_up _) q (fun i hi => fa hi) (fun i hi => rfl) f
    | _ => cases e

abbrev Mg (g : G) (X : Cx) (e : Expr) (t : Tg) : Prop := PG X e (tgR g.K t)
theorem mg_nm {i : Nat} {x : Str} {pos : Pos} (c : CtxE g W X) (hi : X.N[i]? = some x) (hx : L2.Loc X.env.scope x) (hf : X.fn x = true ∨ X.env.scope.names.lookup x = some .local := by first | exact .inl rfl | exact .inr rfl | assumption) : Mg g X (.Name x pos) (.nm i) := pg_name c.nd hi hx hf
theorem mgs_nil {X : Cx} : PGs X [] (gsOf []) := pgs_nil
theorem mgs_cons {e : Expr} {es : List Expr} {i : Nat} {is : List Nat} (h : PG X e (gName i)) (hs : PGs X es (gsOf is))
    (hm : (assignEach (e :: es) X.env).map (·.2) = assign e X.env :: (assignEach es X.env).map (·.2) := by rfl) : PGs X (e :: es) (gsOf (i :: is)) := pgs_cons h hs hm
theorem mg_tup {es : List Expr} {k : Nat} {is : List Nat} {pos : Pos} (c : CtxE g W X) (h : PGs X es (gsOf is)) (hl : (assignEach es X.env).length = is.length := by rfl) (hn : (assignEach es X.env).findIdx? (·.1) = none := by rfl) : Mg g X (.Tuple es k pos) (.tup is) :=
  (c.K ▸ pg_tup c.calm h hl hn : PG X (.Tuple es k pos) (gTup g.K is.length (gsOf is)))

theorem lc_go {elt : E} {tg : Tg} {it : It'} {cd : Eo} {σ : Sg} {H : Hp} {Q : VK} (h : rdL g W (evL γ (.comp elt tg it cd)) σ H Q) : tLc (rdI g W (evI γ it)) (tgR g.K tg) (rdT g W0 (evT γ cd)) (rd g W0 (evE γ elt)) tg.slots σ H Q := by
  refine lc_rd (fi := evI γ it) (test := fun sl => evT γ cd sl) (elt := fun sl => evE γ elt sl) ?_
  obtain ⟨B, ι, μ, sl, r, mr, sr, e, p⟩ := h
  refine ⟨B, ι, μ, sl, r, mr, sr, ?_, p⟩
  simpa only [evL] using e
theorem ml_comp {elt tg iter : Expr} {ifs : List Expr} {scope : Scope} {own : List (Str × Nat)} {pos : Pos} {t : E} {tgt : Tg} {it : It'} {cd : Eo} (c : CtxE g W X) (ow : own.map (·.2) = tgt.slots) (ok : BlkOk X.N X.env.scope scope own) (hi : Mi γ g W X tg iter it)
    (hg : ∀ (s : Shared) (H : Hp) (C : Addr) (cl : List (Str × Addr)) (fp : List Addr), CtxE g W0 (X.blk s H scope (compEnvC scope cl C X.env) fp) → Mg g (X.blk s H scope (compEnvC scope cl C X.env) fp) tg tgt)
    (ht : ∀ (s : Shared) (H : Hp) (C : Addr) (cl : List (Str × Addr)) (fp : List Addr), CtxE g W0 (X.blk s H scope (compEnvC scope cl C X.env) fp) → Mts γ g W0 (X.blk s H scope (compEnvC scope cl C X.env) fp) ifs cd)
    (he : ∀ (s : Shared) (H : Hp) (C : Addr) (cl : List (Str × Addr)) (fp : List Addr), CtxE g W0 (X.blk s H scope (compEnvC scope cl C X.env) fp) → Me γ g W0 (X.blk s H scope (compEnvC scope cl C X.env) fp) elt t)
    (hs : ∀ x, foldedSetIterable iter X.env x = pure x := by intro _; rfl) : Ml γ g W X (.ListComp elt [⟨tg, iter, ifs, 0⟩] scope pos) (.comp t tgt it cd) :=
  pe_to (pe_lc c.calm c.nd hi ok (fun s H C cl fp => hg s H C cl fp c.blk) (fun s H C cl fp => ht s H C cl fp c.blk) (fun s H C cl fp => he s H C cl fp c.blk) hs) fun σ H Q h => by
    rw [ow]
    exact lc_go h

structure CtxS (g : G) (W : WX) (X : Cx) : Prop where
  e : CtxE g W X
  own : PassesOwn (model X.prog X.w) X.A X.env X.xe
abbrev Ms (γ : Gam) (F : Nat) (g : G) (W : WX) (X : Cx) (e : Stmt) (t : S) : Prop := PS X e (rdS g W (evS γ F t))
abbrev Mss (γ : Gam) (F : Nat) (g : G) (W : WX) (X : Cx) (e : List Stmt) (t : Ss) : Prop := PSs X e (rdS g W (evSs γ F t))
variable {F : Nat}
theorem rdS_eq {f f' : Sl → Mem → Option O} {D' : Ends} {σ : Sg} {H : Hp} (h : rdS g W f D' σ H) (i : ∀ sl μ r, f sl μ = some r → f' sl μ = some r) : rdS g W f' D' σ H := by
  obtain ⟨B, ι, μ, sl, r, mr, sr, e, p⟩ := h
  exact ⟨B, ι, μ, sl, r, mr, sr, i _ _ _ e, p⟩
theorem mss_nil : Mss γ F g W X [] .nil := pss_to pss_nil fun D' σ H h => by
  obtain ⟨B, ι, μ, sl, o, mr, sr, e, p⟩ := h
  simp only [evSs] at e
  cases e
  exact p σ H ι .refl mr sr
theorem mss_cons {s : Stmt} {ss : List Stmt} {t : S} {ts : Ss} (hs : Ms γ F g W X s t) (hr : Mss γ F g W X ss ts) : Mss γ F g W X (s :: ss) (.cons t ts) := pss_to (pss_cons hs hr) fun D' σ H h => by
  obtain ⟨B, ι, μ, sl, o, mr, sr, e, p⟩ := h
  simp only [evSs] at e
  cases q : evS γ F t sl μ with
  | none => rw [q] at e; cases e
  | some o1 =>
    rw [q] at e
    refine ⟨B, ι, μ, sl, o1, mr, sr, q, ?_⟩
    cases o1 with
    | nx sl1 μ1 => exact fun σ1 H1 ι1 x1 m1 s1 => ⟨B, ι1, μ1, sl1, o, m1, s1, e, p.from x1⟩
    | rt d μ1 => cases e; exact p
    | ex d sl1 μ1 => cases e; exact p
    | bk sl1 μ1 => cases e; exact p
    | ct sl1 μ1 => cases e; exact p
theorem m_pass {pos : Pos} : Ms γ F g W X (.Pass pos) .pass := ps_to ps_pass fun D' σ H h => by
  obtain ⟨B, ι, μ, sl, o, mr, sr, e, p⟩ := h
  simp only [evS] at e
  cases e
  exact p σ H ι .refl mr sr
theorem m_brk {pos : Pos} : Ms γ F g W X (.Break pos) .brk := ps_to ps_break fun D' σ H h => by
  obtain ⟨B, ι, μ, sl, o, mr, sr, e, p⟩ := h
  simp only [evS] at e
  cases e
  exact p σ H ι .refl mr sr
theorem m_cont {pos : Pos} : Ms γ F g W X (.Continue pos) .cont := ps_to ps_continue fun D' σ H h => by
  obtain ⟨B, ι, μ, sl, o, mr, sr, e, p⟩ := h
  simp only [evS] at e
  cases e
  exact p σ H ι .refl mr sr
theorem m_retN {pos : Pos} : Ms γ F g W X (.Return none pos) .retN := ps_to ps_retN fun D' σ H h => by
  obtain ⟨B, ι, μ, sl, o, mr, sr, e, p⟩ := h
  simp only [evS] at e
  cases e
  exact p _ H ι .refl mr .non
theorem m_ret {e : Expr} {t : E} {pos : Pos} (he : Me γ g W X e t) : Ms γ F g W X (.Return (some e) pos) (.ret t) := ps_to (ps_ret he) fun D' σ H h => by
  refine rd_imp (onS (fa := evE γ t) (k := fun d _ μ1 => some (.rt d μ1)) (rdS_eq h fun sl μ r e => by simpa only [evS] using e)) fun v H1 h1 => ?_
  obtain ⟨B, ι, μ, sl, x, o, m, s, rx, e, p⟩ := h1
  cases e
  exact p v H1 ι .refl m rx
theorem m_expr {e : Expr} {t : E} {pos : Pos} (he : Me γ g W X e t) (hs : swapsWith e none pos.line X.env = pure false := by rfl) : Ms γ F g W X (.Expr e pos) (.expr t) := ps_to (ps_expr he hs) fun D' σ H h => by
  refine rd_imp (onS (fa := evE γ t) (k := fun d sl μ1 => some (.nx sl μ1)) (rdS_eq h fun sl μ r e => by simpa only [evS] using e)) fun v H1 h1 => ?_
  obtain ⟨B, ι, μ, sl, x, o, m, s, rx, e, p⟩ := h1
  cases e
  exact p σ H1 ι .refl m s
theorem set_go {t : E} {i : Nat} {D' : Ends} {σ : Sg} {H : Hp} (h : rdS g W (evS γ F (.set i t)) D' σ H) : tAsg (rd g W (evE γ t)) (gName i) D' σ H := by
  refine rd_imp (onS (fa := evE γ t) (k := fun d sl μ1 => some (.nx (sl.set i (some d)) μ1)) (rdS_eq h fun sl μ r e => by simpa only [evS] using e)) fun v H1 h1 => ?_
  obtain ⟨B, ι, μ, sl, x, o, m, s, rx, e, p⟩ := h1
  cases e
  exact p _ H1 ι .refl m (s.set i rx)
theorem m_set {i : Nat} {x : Str} {e : Expr} {t : E} {pos pos' : Pos} (c : CtxE g W X) (hi : X.N[i]? = some x) (hx : L2.Loc X.env.scope x) (he : Me γ g W X e t) (hs : swapsWith e (some (.Name x pos')) pos.line X.env = pure false := by rfl)
    (hf : X.fn x = true ∨ X.env.scope.names.lookup x = some .local := by first | exact .inl rfl | exact .inr rfl | assumption) : Ms γ F g W X (.Assign [.Name x pos'] e pos) (.set i t) := ps_to (ps_set c.nd hi hx he hs hf) fun D' σ H h => set_go h
theorem m_par {i j : Nat} {x y : Str} {a b : Expr} {ea eb : E} {px py pt pt2 pos : Pos} {kt k2 : Nat} (c : CtxE g W X) (hi : X.N[i]? = some x) (hj : X.N[j]? = some y) (ne : i ≠ j) (hx : X.env.scope.names.lookup x = some .local) (hy : X.env.scope.names.lookup y = some .local)
    (ha : Me γ g W X a ea) (hb : Me γ g W X b eb) (hsw : swappedStores [.Tuple [.Name x px, .Name y py] kt pt] (.Tuple [a, b] k2 pt2) X.env = pure (some [x, y]))
    (h1 : starEach [a, b] X.env = (false, eval a X.env) :: starEach [b] X.env := by rfl) (h2 : starEach [b] X.env = (false, eval b X.env) :: starEach [] X.env := by rfl)
    (hs : swapsWithSole [.Tuple [.Name x px, .Name y py] kt pt] (.Tuple [a, b] k2 pt2) pos.line X.env = pure false := by rfl) : Ms γ F g W X (.Assign [.Tuple [.Name x px, .Name y py] kt pt] (.Tuple [a, b] k2 pt2) pos) (.par i j ea eb) :=
  ps_to (ps_par c.calm c.nd hi hj ne hx hy (pa_cons ha (pa_cons hb pa_nil h2) h1) hsw hs) fun D' σ H h => by
    refine rd_imp (onS (fa := evE γ ea) (k := fun x sl μ1 => onE (evE γ eb sl μ1) sl fun y μ2 => some (.nx ((sl.set i (some x)).set j (some y)) μ2)) (rdS_eq h fun sl μ r e => by simpa only [evS] using e)) fun v H1 h1 => ?_
    obtain ⟨B, ι, μ, sl, x, o, m, s, rx, e, p⟩ := h1
    cases q : evE γ eb sl μ with
    | none => rw [q] at e; cases e
    | some rb =>
      rw [q] at e
      refine ⟨B, ι, μ, sl, [], rb, m, s, .nil, q, ?_⟩
      cases rb with
      | ex y μ2 =>
        cases e
        exact fun cls dd H2 ι2 x2 m2 r2 => p cls dd σ H2 ι2 x2 m2 (s.mono x2.w) r2
      | ok y μ2 =>
        cases e
        exact fun u H2 ι2 x2 m2 r2 => ⟨v, u, rfl, p _ H2 ι2 x2 m2 (((s.mono x2.w).set i (rx.mono x2.w)).set j r2)⟩
theorem m_aug {i : Nat} {x : Str} {e : Expr} {t : E} {op : Bop} {pos pos' : Pos} (c : CtxE g W X) (hi : X.N[i]? = some x) (hx : L2.Loc X.env.scope x) (he : Me γ g W X e t)
    (hf : X.fn x = true ∨ X.env.scope.names.lookup x = some .local := by first | exact .inl rfl | exact .inr rfl | assumption) : Ms γ F g W X (.AugAssign (.Name x pos') op.op e pos) (.aug op i t) := ps_to (ps_aug c.nd hi hx he (aug_ok op) hf) fun D' σ H h => by
  obtain ⟨B, ι, μ, sl, o, mr, sr, e, p⟩ := h
  simp only [evS] at e
  split at e
  · rename_i d hd
    obtain ⟨v, h1, h2⟩ := sr.at_ i d hd
    refine ⟨v, h1, ?_⟩
    cases q : evE γ t sl μ with
    | none => rw [q] at e; cases e
    | some rb =>
      rw [q] at e
      refine ⟨B, ι, μ, sl, [], rb, mr, sr, .nil, q, ?_⟩
      cases rb with
      | ex y μ2 =>
        cases e
        exact fun cls dd H2 ι2 x2 m2 r2 => p cls dd σ H2 ι2 x2 m2 (sr.mono x2.w) r2
      | ok y μ2 =>
        intro u H2 ι2 x2 m2 r2
        rw [onE_ok] at e
        cases q2 : augD op d y with
        | none => rw [q2] at e; cases e
        | some z =>
          rw [q2] at e
          cases e
          exact aug_fin (B := B) q2 m2 (h2.mono x2.w) r2 fun w H3 ι3 x3 m3 r3 => p _ H3 ι3 (x2.trans x3) m3 (((sr.mono x2.w).mono x3.w).set i r3)
  · cases e
theorem m_setIx {a b e : Expr} {ea eb t : E} {pos spos : Pos} (c : CtxE g W X) (he : Me γ g W X e t) (ha : Me γ g W X a ea) (hb : Me γ g W X b eb)
    (hp : ∀ v : Value, assign (.Subscript a b spos) X.env v = (do
      let ov ← holding [v] (eval a X.env)
      let iv ← holding [v, ov] (eval b X.env)
      standAt spos
      holding [v, ov, iv] (setItem ov iv v)
      release [v, ov, iv] []) := by intro _; rfl)
    (h1 : swapsWithSole [.Subscript a b spos] e pos.line X.env = pure false := by rfl) (h2 : swappedStores [.Subscript a b spos] e X.env = pure none := by rfl) (h3 : (assignEach [.Subscript a b spos] X.env).map (·.2) = [assign (.Subscript a b spos) X.env] := by rfl) :
    Ms γ F g W X (.Assign [.Subscript a b spos] e pos) (.setIx ea eb t) :=
  ps_to (ps_asg he (pg_sub ha hb (set2_ok (Nat.lt_of_le_of_lt (Nat.add_le_add_left (by decide : 1 ≤ 65) _) c.units)) hp) h1 h2 h3) fun D' σ H h => by
    refine rd_imp (onS (fa := evE γ t) (k := fun v sl μ1 => onE (evE γ ea sl μ1) sl fun x μ2 => onE (evE γ eb sl μ2) sl fun y μ3 => (setIxD μ3 x y v).bind fun μ4 => some (.nx sl μ4)) (rdS_eq h fun sl μ r e => by simpa only [evS] using e)) fun w H1 h1 => ?_
    obtain ⟨B, ι, μ, sl, z, o, m, s, rz, e, p⟩ := h1
    cases q : evE γ ea sl μ with
    | none => rw [q] at e; cases e
    | some ra =>
      rw [q] at e
      refine ⟨B, ι, μ, sl, [], ra, m, s, .nil, q, ?_⟩
      cases ra with
      | ex y μ2 =>
        cases e
        exact fun cls dd H2 ι2 x2 m2 r2 => p cls dd σ H2 ι2 x2 m2 (s.mono x2.w) r2
      | ok x μ2 =>
        intro v H2 ι2 x2 m2 r2
        rw [onE_ok] at e
        cases q2 : evE γ eb sl μ2 with
        | none => rw [q2] at e; cases e
        | some rb =>
          rw [q2] at e
          refine ⟨B, ι2, μ2, sl, [], rb, m2, s.mono x2.w, .nil, q2, ?_⟩
          cases rb with
          | ex y μ3 =>
            cases e
            exact fun cls dd H3 ι3 x3 m3 r3 => p cls dd σ H3 ι3 (x2.trans x3) m3 ((s.mono x2.w).mono x3.w) r3
          | ok y μ3 =>
            intro u H3 ι3 x3 m3 r3
            rw [onE_ok] at e
            cases q3 : setIxD μ3 x y z with
            | none => rw [q3] at e; cases e
            | some μ4 =>
              rw [q3] at e
              cases e
              exact set_fin q3 m3 (r2.mono x3.w) r3 ((rz.mono x2.w).mono x3.w) fun H4 x4 m4 => p σ H4 ι3 ((x2.trans x3).trans x4) m4 (((s.mono x2.w).mono x3.w).mono x4.w)
theorem m_unp {es : List Expr} {e : Expr} {t : E} {is : List Nat} {k : Nat} {pos tpos : Pos} (he : Me γ g W X e t) (hg : Mg g X (.Tuple es k tpos) (.tup is))
    (h1 : swapsWithSole [.Tuple es k tpos] e pos.line X.env = pure false := by rfl) (h2 : swappedStores [.Tuple es k tpos] e X.env = pure none := by rfl) (h3 : (assignEach [.Tuple es k tpos] X.env).map (·.2) = [assign (.Tuple es k tpos) X.env] := by rfl) :
    Ms γ F g W X (.Assign [.Tuple es k tpos] e pos) (.unp is t) := ps_to (ps_asg he hg h1 h2 h3) fun D' σ H h => by
  refine rd_imp (onS (fa := evE γ t) (k := fun d sl μ1 => (asgTg (.tup is) d sl).bind fun sl1 => some (.nx sl1 μ1)) (rdS_eq h fun sl μ r e => by simpa only [evS] using e)) fun v H1 h1 => ?_
  obtain ⟨B, ι, μ, sl, x, o, m, s, rx, e, p⟩ := h1
  cases q : asgTg (.tup is) x sl with
  | none => rw [q] at e; cases e
  | some sl2 =>
    rw [q] at e
    cases e
    exact tg_fin (g := g.b B) q s rx fun σ2 s2 => p σ2 H1 ι .refl m s2
theorem rdS_if {c : E} {fa fb : Sl → Mem → Option O} {D' : Ends} {σ : Sg} {H : Hp} (h : rdS g W (fun sl μ => onE (evE γ c sl μ) sl fun d μ1 => asB d fun k => if k then fa sl μ1 else fb sl μ1) D' σ H) :
    rdT g W (evB γ c) σ H fun k H1 => if k = true then rdS g W fa D' σ H1 else rdS g W fb D' σ H1 := by
  obtain ⟨B, ι, μ, sl, o, mr, sr, e, p⟩ := h
  dsimp only at e
  cases q : evE γ c sl μ with
  | none => rw [q] at e; cases e
  | some ra =>
    rw [q] at e
    cases ra with
    | ex x μ1 =>
      cases e
      exact ⟨B, ι, μ, sl, [], .ex x μ1, mr, sr, .nil, by simp only [evB, q, bind_ex], fun cls dd H1 ι1 x1 m1 r1 => p cls dd σ H1 ι1 x1 m1 (sr.mono x1.w) r1⟩
    | ok d μ1 =>
      rw [onE_ok] at e
      cases d with
      | bl k =>
        rw [asB_bl] at e
        refine ⟨B, ι, μ, sl, [], .ok k μ1, mr, sr, .nil, by simp only [evB, q, bind_ok, asB_bl], fun k' H1 ι1 x1 m1 (ek : k = k') => ?_⟩
        subst ek
        cases k with
        | true => exact ⟨B, ι1, μ1, sl, o, m1, sr.mono x1.w, e, p.from x1⟩
        | false => exact ⟨B, ι1, μ1, sl, o, m1, sr.mono x1.w, e, p.from x1⟩
      | _ => cases e
theorem m_ite {c : Expr} {a b : List Stmt} {ec : E} {ta tb : Ss} {pos : Pos} (hc : Mt γ g W X c ec) (ha : Mss γ F g W X a ta) (hb : Mss γ F g W X b tb) : Ms γ F g W X (.If c a b pos) (.ite ec ta tb) :=
  ps_to (ps_if hc ha hb) fun D' σ H h => rdS_if (rdS_eq h fun sl μ r e => by simpa only [evS] using e)
theorem m_for {tg iter : Expr} {body : List Stmt} {tgt : Tg} {it : It'} {tb : Ss} {pos : Pos} (c : CtxS g W X) (hi : Mi γ g W X tg iter it) (hg : Mg g X tg tgt) (hb : Mss γ F g W X body tb) (hs : ∀ x, foldedSetIterable iter X.env x = pure x := by intro _; rfl) :
    Ms γ F g W X (.For tg iter body [] pos) (.for_ tgt it tb) := ps_to (ps_for c.own c.e.calm hi hg hb hs) fun D' σ H h => for_rd (fi := evI γ it) (fb := evSs γ F tb) (rdS_eq h fun sl μ r e => by simpa only [evS] using e)
theorem m_whl {cd : Expr} {body : List Stmt} {ec : E} {tb : Ss} {pos : Pos} (c : CtxS g W X) (hc : Mt γ g W X cd ec) (hb : Mss γ F g W X body tb) : Ms γ F g W X (.While cd body [] pos) (.whl ec tb) :=
  ps_to (ps_while c.own hc hb) fun D' σ H h => wh_rd (fc := evE γ ec) (fb := evSs γ F tb) (rdS_eq h fun sl μ r e => by simpa only [evS] using e)
end
end Mn
end
section
namespace Mn
open PySem PySem.Spec PyProof.Rows L2
section
variable {γ : Gam} {g : G} {W : WX} {X : Cx} {F : Nat}
theorem val_go {l : Ls} {σ : Sg} {H : Hp} {Q : VK} (h : rd g W (evE γ (.val l)) σ H Q) : rdL g W (evL γ l) σ H Q := rdL_of (by
  refine rd_imp (rd1 (rel1 := fun g H ι => RpL g H ι) (fa := evL γ l) (k := fun ds _ μ1 => some (.ok (D.lst ds) μ1)) (rd_eq h fun sl μ r e => by simpa only [evE] using e)) fun vs H1 h1 => ?_
  obtain ⟨B, ι, μ, sl, x, r, m, s, rx, e, p⟩ := h1
  cases e
  exact fun q hq => Fin.lst p m rx q hq)
theorem mk_go {l : Ls} {σ : Sg} {H : Hp} {Q : VK} (h : rd g W (evE γ (.mk l)) σ H Q) : rdL g W (evL γ l) σ H Q := rdL_of (by
  refine rd_imp (rd1 (rel1 := fun g H ι => RpL g H ι) (fa := evL γ l) (k := fun ds _ μ1 => some (.ok (.ref μ1.length) (μ1 ++ [.lst ds]))) (rd_eq h fun sl μ r e => by simpa only [evE] using e)) fun vs H1 h1 => ?_
  obtain ⟨B, ι, μ, sl, x, r, m, s, rx, e, p⟩ := h1
  cases e
  intro q hq
  have hx : Nx [] H1 ι (upd H1 q (.lst vs)) (ι ++ [q]) := ⟨(Nx.laid (ι := ι) hq).ext, (Nx.laid (ι := ι) hq).dom, [q], rfl, fun b hb o e => by
    have : b = q := by simpa using hb
    rw [this, hq] at e; cases e⟩
  obtain ⟨m2, x2⟩ := m.new (u := .lst vs) (o := .lst x) hq ⟨vs, upd_same, rx.mono hx.w⟩
  exact p _ _ _ x2 m2 (.ref (by rw [← m.len]; simp)))
section
variable {i : Nat} {y : Str} {py : Pos} {elt tg iter : Expr} {ifs : List Expr} {scope : Scope} {own : List (Str × Nat)} {pos spos : Pos} {t : E} {tgt : Tg} {it : It'} {cd : Eo}
theorem setLc_go (c : CtxE g W X) (hy : X.N[i]? = some y) (hyl : X.env.scope.names.lookup y = some .local) (hsw : swapsWith (.ListComp elt [⟨tg, iter, ifs, 0⟩] scope pos) (some (.Name y py)) spos.line X.env = pure true)
    (ow : own.map (·.2) = tgt.slots) (ok : BlkOk X.N X.env.scope scope own) (hi : Mi γ g W X tg iter it)
    (hg : ∀ (s : Shared) (H : Hp) (C : Addr) (cl : List (Str × Addr)) (fp : List Addr), CtxE g W0 (X.blk s H scope (compEnvC scope cl C X.env) fp) → Mg g (X.blk s H scope (compEnvC scope cl C X.env) fp) tg tgt)
    (ht : ∀ (s : Shared) (H : Hp) (C : Addr) (cl : List (Str × Addr)) (fp : List Addr), CtxE g W0 (X.blk s H scope (compEnvC scope cl C X.env) fp) → Mts γ g W0 (X.blk s H scope (compEnvC scope cl C X.env) fp) ifs cd)
    (he : ∀ (s : Shared) (H : Hp) (C : Addr) (cl : List (Str × Addr)) (fp : List Addr), CtxE g W0 (X.blk s H scope (compEnvC scope cl C X.env) fp) → Me γ g W0 (X.blk s H scope (compEnvC scope cl C X.env) fp) elt t)
    (hs : ∀ x, foldedSetIterable iter X.env x = pure x) : PS X (.Assign [.Name y py] (.ListComp elt [⟨tg, iter, ifs, 0⟩] scope pos) spos) (tAsg (rdL g W (evL γ (.comp t tgt it cd))) (gName i)) :=
  ps_to (ps_setLc c.calm c.nd hy hyl hsw hi ok (fun s H C cl fp => hg s H C cl fp c.blk) (fun s H C cl fp => ht s H C cl fp c.blk) (fun s H C cl fp => he s H C cl fp c.blk) hs) fun D' σ H h => by
    unfold tAsg
    rw [ow]
    exact lc_go h
theorem m_setLcV (c : CtxE g W X) (hy : X.N[i]? = some y) (hyl : X.env.scope.names.lookup y = some .local) (hsw : swapsWith (.ListComp elt [⟨tg, iter, ifs, 0⟩] scope pos) (some (.Name y py)) spos.line X.env = pure true)
    (ow : own.map (·.2) = tgt.slots) (ok : BlkOk X.N X.env.scope scope own) (hi : Mi γ g W X tg iter it)
    (hg : ∀ (s : Shared) (H : Hp) (C : Addr) (cl : List (Str × Addr)) (fp : List Addr), CtxE g W0 (X.blk s H scope (compEnvC scope cl C X.env) fp) → Mg g (X.blk s H scope (compEnvC scope cl C X.env) fp) tg tgt)
    (ht : ∀ (s : Shared) (H : Hp) (C : Addr) (cl : List (Str × Addr)) (fp : List Addr), CtxE g W0 (X.blk s H scope (compEnvC scope cl C X.env) fp) → Mts γ g W0 (X.blk s H scope (compEnvC scope cl C X.env) fp) ifs cd)
    (he : ∀ (s : Shared) (H : Hp) (C : Addr) (cl : List (Str × Addr)) (fp : List Addr), CtxE g W0 (X.blk s H scope (compEnvC scope cl C X.env) fp) → Me γ g W0 (X.blk s H scope (compEnvC scope cl C X.env) fp) elt t)
    (hs : ∀ x, foldedSetIterable iter X.env x = pure x := by intro _; rfl) : Ms γ F g W X (.Assign [.Name y py] (.ListComp elt [⟨tg, iter, ifs, 0⟩] scope pos) spos) (.set i (.val (.comp t tgt it cd))) :=
  ps_to (setLc_go c hy hyl hsw ow ok hi hg ht he hs) fun D' σ H h => val_go (set_go h)
theorem m_setLcM (c : CtxE g W X) (hy : X.N[i]? = some y) (hyl : X.env.scope.names.lookup y = some .local) (hsw : swapsWith (.ListComp elt [⟨tg, iter, ifs, 0⟩] scope pos) (some (.Name y py)) spos.line X.env = pure true)
    (ow : own.map (·.2) = tgt.slots) (ok : BlkOk X.N X.env.scope scope own) (hi : Mi γ g W X tg iter it)
    (hg : ∀ (s : Shared) (H : Hp) (C : Addr) (cl : List (Str × Addr)) (fp : List Addr), CtxE g W0 (X.blk s H scope (compEnvC scope cl C X.env) fp) → Mg g (X.blk s H scope (compEnvC scope cl C X.env) fp) tg tgt)
    (ht : ∀ (s : Shared) (H : Hp) (C : Addr) (cl : List (Str × Addr)) (fp : List Addr), CtxE g W0 (X.blk s H scope (compEnvC scope cl C X.env) fp) → Mts γ g W0 (X.blk s H scope (compEnvC scope cl C X.env) fp) ifs cd)
    (he : ∀ (s : Shared) (H : Hp) (C : Addr) (cl : List (Str × Addr)) (fp : List Addr), CtxE g W0 (X.blk s H scope (compEnvC scope cl C X.env) fp) → Me γ g W0 (X.blk s H scope (compEnvC scope cl C X.env) fp) elt t)
    (hs : ∀ x, foldedSetIterable iter X.env x = pure x := by intro _; rfl) : Ms γ F g W X (.Assign [.Name y py] (.ListComp elt [⟨tg, iter, ifs, 0⟩] scope pos) spos) (.set i (.mk (.comp t tgt it cd))) :=
  ps_to (setLc_go c hy hyl hsw ow ok hi hg ht he hs) fun D' σ H h => mk_go (set_go h)
end
theorem m_par3 {i j l : Nat} {x y z : Str} {a b d : Expr} {ea eb ed : E} {px py pz pt pt2 pos : Pos} {kt k2 : Nat} (c : CtxE g W X) (hi : X.N[i]? = some x) (hj : X.N[j]? = some y) (hl : X.N[l]? = some z) (hij : i ≠ j) (hil : i ≠ l) (hjl : j ≠ l)
    (hx : X.env.scope.names.lookup x = some .local) (hy : X.env.scope.names.lookup y = some .local) (hz : X.env.scope.names.lookup z = some .local)
    (ha : Me γ g W X a ea) (hb : Me γ g W X b eb) (hd : Me γ g W X d ed) (hsw : swappedStores [.Tuple [.Name x px, .Name y py, .Name z pz] kt pt] (.Tuple [a, b, d] k2 pt2) X.env = pure (some [x, y, z]))
    (h0 : starEach [a, b, d] X.env = (false, eval a X.env) :: starEach [b, d] X.env := by rfl) (h1 : starEach [b, d] X.env = (false, eval b X.env) :: starEach [d] X.env := by rfl) (h2 : starEach [d] X.env = (false, eval d X.env) :: starEach [] X.env := by rfl)
    (hs : swapsWithSole [.Tuple [.Name x px, .Name y py, .Name z pz] kt pt] (.Tuple [a, b, d] k2 pt2) pos.line X.env = pure false := by rfl) : Ms γ F g W X (.Assign [.Tuple [.Name x px, .Name y py, .Name z pz] kt pt] (.Tuple [a, b, d] k2 pt2) pos) (.par3 i j l ea eb ed) :=
  ps_to (ps_par3 c.calm c.nd hi hj hl hij hil hjl hx hy hz (pa_cons ha (pa_cons hb (pa_cons hd pa_nil h2) h1) h0) hsw hs) fun D' σ H h => by
    refine rd_imp (onS (fa := evE γ ea) (k := fun x sl μ1 => onE (evE γ eb sl μ1) sl fun y μ2 => onE (evE γ ed sl μ2) sl fun z μ3 => some (.nx (((sl.set i (some x)).set j (some y)).set l (some z)) μ3)) (rdS_eq h fun sl μ r e => by simpa only [evS] using e)) fun v H1 h1 => ?_
    obtain ⟨B, ι, μ, sl, x, o, m, s, rx, e, p⟩ := h1
    cases q : evE γ eb sl μ with
    | none => rw [q] at e; cases e
    | some rb =>
      rw [q] at e
      refine ⟨B, ι, μ, sl, [], rb, m, s, .nil, q, ?_⟩
      cases rb with
      | ex y μ2 =>
        cases e
        exact fun cls dd H2 ι2 x2 m2 r2 => p cls dd σ H2 ι2 x2 m2 (s.mono x2.w) r2
      | ok y μ2 =>
        intro u H2 ι2 x2 m2 r2
        rw [onE_ok] at e
        cases q3 : evE γ ed sl μ2 with
        | none => rw [q3] at e; cases e
        | some rc =>
          rw [q3] at e
          refine ⟨B, ι2, μ2, sl, [], rc, m2, s.mono x2.w, .nil, q3, ?_⟩
          cases rc with
          | ex y μ3 =>
            cases e
            exact fun cls dd H3 ι3 x3 m3 r3 => p cls dd σ H3 ι3 (x2.trans x3) m3 ((s.mono x2.w).mono x3.w) r3
          | ok z μ3 =>
            cases e
            exact fun w H3 ι3 x3 m3 r3 => ⟨v, u, w, rfl, p _ H3 ι3 (x2.trans x3) m3 (((((s.mono x2.w).mono x3.w).set i ((rx.mono x2.w).mono x3.w)).set j (r2.mono x3.w)).set l r3)⟩
theorem m_app {o e : Expr} {ea et : E} {apos cpos pos : Pos} (c : CtxE g W X) (ho : Me γ g W X o ea) (he : Me γ g W X e et)
    (h1 : attributeBase o "append" X.env (eval o X.env) = eval o X.env := by rfl)
    (h2 : (((backTo cpos (starEach [e] X.env)).all (fun x => !x.1)) && ((backToKw cpos (keywordEach [] X.env)).all fun x => x.1.isSome) && decide (([e].length + ([] : List Keyword).length + if ([] : List Keyword).isEmpty = true then 0 else 1) < 30)) = true := by rfl)
    (h3 : (apos.endLine == cpos.line) = true := by rfl) (h4 : starEach [e] X.env = (false, eval e X.env) :: starEach [] X.env := by rfl) (h5 : ((backTo cpos (starEach [] X.env)).any (·.1)) = false := by rfl)
    (hs : swapsWith (.Call (.Attribute o "append" apos) [e] [] cpos) none pos.line X.env = pure false := by rfl) : Ms γ F g W X (.Expr (.Call (.Attribute o "append" apos) [e] [] cpos) pos) (.app ea et) :=
  ps_to (ps_expr (c.K ▸ pe_bm PySem.F.plainAttrs_list PySem.F.slot_list_append PySem.F.type_list_append mt_append ho (pa_cons he pa_nil h4) h1 h2 h3 h4 h5 : PE X _ (tBM g.K "list" rAppend (rd g W (evE γ ea)) (tCons (rd g W (evE γ et)) tNil))) hs) fun D' σ H h => by
    refine rd_imp (onS (fa := evE γ ea) (k := fun x sl μ1 => if lstAt μ1 x then onE (evE γ et sl μ1) sl fun v μ2 => (appD μ2 x v).bind fun μ3 => some (.nx sl μ3) else none) (rdS_eq h fun sl μ r e => by simpa only [evS] using e)) fun v H1 h1 => ?_
    obtain ⟨B, ι, μ, sl, x, o, m, s, rx, e, p⟩ := h1
    split at e
    · rename_i hl
      have ty : tyV g.K "list" v H1 := by
        unfold lstAt at hl
        split at hl
        · rename_i n
          split at hl
          · rename_i ds hn
            cases rx with
            | ref hi =>
              obtain ⟨vs, hv, _⟩ := m.at_ _ _ _ hn hi
              exact .inl ⟨rfl, vs, .inl (.inl hv)⟩
          · cases hl
        · cases hl
      refine ⟨ty, ?_⟩
      cases q : evE γ et sl μ with
      | none => rw [q] at e; cases e
      | some rb =>
        rw [q] at e
        refine ⟨B, ι, μ, sl, [], rb, m, s, .nil, q, ?_⟩
        cases rb with
        | ex y μ2 =>
          cases e
          exact fun cls dd H2 ι2 x2 m2 r2 => p cls dd σ H2 ι2 x2 m2 (s.mono x2.w) r2
        | ok y μ2 =>
          intro u H2 ι2 x2 m2 r2
          rw [onE_ok] at e
          cases q3 : appD μ2 x y with
          | none => rw [q3] at e; cases e
          | some μ3 =>
            rw [q3] at e
            cases e
            exact (app_fin (Q := fun _ H' => D'.nx σ H') q3 m2 (rx.mono x2.w) r2 fun H3 x3 m3 => p σ H3 ι2 (x2.trans x3) m3 ((s.mono x2.w).mono x3.w)).2
    · cases e

theorem m_dnewK {pos : Pos} : Me γ g W X (.Dict [] [] pos) (.dnew false) := pe_to pe_dnewK fun σ H Q h => by
  obtain ⟨B, ι, μ, sl, ds, r, m, sr, hd, e, p⟩ := h
  simp only [evE] at e
  cases e
  intro q hq
  obtain ⟨m2, x2⟩ := m.new (u := .dK []) (o := .dk []) hq ⟨[], upd_same, rfl, .nil⟩
  exact p _ _ _ x2 m2 (.ref (by rw [← m.len]; simp))
theorem m_dnewT {pos : Pos} : Me γ g W X (.Dict [] [] pos) (.dnew true) := pe_to pe_dnewT fun σ H Q h => by
  obtain ⟨B, ι, μ, sl, ds, r, m, sr, hd, e, p⟩ := h
  simp only [evE] at e
  cases e
  intro q hq
  obtain ⟨m2, x2⟩ := m.new (u := .dT []) (o := .dt []) hq ⟨[], upd_same, rfl, .nil⟩
  exact p _ _ _ x2 m2 (.ref (by rw [← m.len]; simp))
def trsOf (γ : Gam) (g : G) (W : WX) : Ks → List (TE × TE)
  | .nil => []
  | .cons k e ks => (tC (kV k), rd g W (evE γ e)) :: trsOf γ g W ks
theorem mks_nil {pos : Pos} : PPs X pos [] [] (trsOf γ g W .nil) := pps_nil
theorem mks_consS {pos p : Pos} {x : Str} {j : Nat} {v : Expr} {ks : List (Option Expr)} {vs : List Expr} {e : E} {kt : Ks} (hv : Me γ g W X v e) (h : PPs X pos ks vs (trsOf γ g W kt)) : PPs X pos (some (.Constant (.str x) j p) :: ks) (v :: vs) (trsOf γ g W (.cons (.inr x) e kt)) := pps_cons pe_str hv h
theorem mks_consI {pos p : Pos} {x : Int} {j : Nat} {v : Expr} {ks : List (Option Expr)} {vs : List Expr} {e : E} {kt : Ks} (hv : Me γ g W X v e) (h : PPs X pos ks vs (trsOf γ g W kt)) : PPs X pos (some (.Constant (.int x) j p) :: ks) (v :: vs) (trsOf γ g W (.cons (.inl x) e kt)) := pps_cons pe_int hv h
abbrev relK : Rl (List (Key × D)) (List (V × V)) := fun g H ι a b => ∃ kvs : List (Key × V), b = kvs.map (fun kv => (kV kv.1, kv.2)) ∧ RpK g H ι a kvs
theorem ks_go : ∀ {ks : Ks} {σ : Sg} {H : Hp} {Q : List (V × V) → Hp → Prop}, rdG g W relK (evKs γ ks) σ H Q → tPairs (trsOf γ g W ks) σ H Q
  | .nil, σ, H, Q, h => by
    obtain ⟨B, ι, μ, sl, ds, r, m, sr, hd, e, p⟩ := h
    simp only [evKs] at e
    cases e
    exact p [] H ι .refl m ⟨[], rfl, rfl, .nil⟩
  | .cons k e ks, σ, H, Q, h => by
    refine rd_imp (rd1 (rel1 := fun g H ι => Rp g H ι) (fa := evE γ e) (k := fun x sl μ1 => R.bind (evKs γ ks sl μ1) fun xs μ2 => some (.ok ((k, x) :: xs) μ2)) (rd_eq h fun sl μ r e => by simpa only [evKs] using e)) fun v H1 h1 => ?_
    obtain ⟨B, ι, μ, sl, x, r, m, s, rx, e, p⟩ := h1
    refine ks_go ?_
    cases q : evKs γ ks sl μ with
    | none => rw [q] at e; cases e
    | some rb =>
      rw [q] at e
      refine ⟨B, ι, μ, sl, [], rb, m, s, .nil, q, ?_⟩
      cases rb with
      | ex y μ2 => cases e; exact p
      | ok y μ2 =>
        cases e
        intro u H2 ι2 x2 m2 r2
        obtain ⟨kvs, rfl, hk⟩ := r2
        exact p _ _ _ x2 m2 ⟨(k, v) :: kvs, rfl, by
          show k :: y.map (·.1) = k :: kvs.map (·.1)
          rw [hk.1], .cons (rx.mono x2.w) hk.2⟩
mutual
theorem Rp.less {a : Addr} {B : List Addr} {H : Hp} {ι : List Addr} : ∀ {d : D} {v : V}, Rp (g.b (a :: B)) H ι d v → Rp (g.b B) H ι d v
  | _, _, .non => .non
  | _, _, .bl b => .bl b
  | _, _, .int i => .int i
  | _, _, .str s => .str s
  | _, _, .tup f r => .tup ⟨f.1, fun z => f.2.1 (List.mem_cons_of_mem _ z), f.2.2⟩ r.less
  | _, _, .lst f r => .lst ⟨f.1, fun z => f.2.1 (List.mem_cons_of_mem _ z), f.2.2⟩ r.less
  | _, _, .frz f r => .frz ⟨f.1, fun z => f.2.1 (List.mem_cons_of_mem _ z), f.2.2⟩ r.less
  | _, _, .kfz f r => .kfz ⟨f.1, fun z => f.2.1 (List.mem_cons_of_mem _ z), f.2.2⟩ r.less
  | _, _, .klp f r => .klp ⟨f.1, fun z => f.2.1 (List.mem_cons_of_mem _ z), f.2.2⟩ r.less
  | _, _, .kkk k r => .kkk k r.less
  | _, _, .ref h => .ref h
  | _, _, .exc c f1 f2 hf hl r => .exc c ⟨f1.1, fun z => f1.2.1 (List.mem_cons_of_mem _ z), f1.2.2⟩ ⟨f2.1, fun z => f2.2.1 (List.mem_cons_of_mem _ z), f2.2.2⟩ hf hl r.less
  | _, _, .exc0 c f1 e => .exc0 c ⟨f1.1, fun z => f1.2.1 (List.mem_cons_of_mem _ z), f1.2.2⟩ e
  | _, _, .opq h f => .opq h ⟨f.1, fun z => f.2.1 (List.mem_cons_of_mem _ z), f.2.2⟩
theorem RpL.less {a : Addr} {B : List Addr} {H : Hp} {ι : List Addr} : ∀ {ds : List D} {vs : List V}, RpL (g.b (a :: B)) H ι ds vs → RpL (g.b B) H ι ds vs
  | _, _, .nil => .nil
  | _, _, .cons r t => .cons r.less t.less
end
theorem ObR.less {a b : Addr} {B : List Addr} {H : Hp} {ι : List Addr} {o : Ob} (r : ObR (g.b (a :: B)) H ι b o) : ObR (g.b B) H ι b o := by
  cases o with
  | lst ds => obtain ⟨vs, h, q⟩ := r; exact ⟨vs, h, q.less⟩
  | dk ds => obtain ⟨vs, h, q⟩ := r; exact ⟨vs, h, q.1, q.2.less⟩
  | dt ds => obtain ⟨vs, h, q⟩ := r; exact ⟨vs, h, q.1, q.2.less⟩
  | ins c ds => obtain ⟨C, dx, vs, hc, h, q⟩ := r; exact ⟨C, dx, vs, hc, h, q.1, q.2.less⟩
theorem MR.less {a : Addr} {B : List Addr} {H : Hp} {ι : List Addr} {μ : Mem} (m : MR (g.b (a :: B)) H ι μ) : MR (g.b B) H ι μ :=
  ⟨m.len, m.nd, fun n o b h1 h2 => (m.at_ n o b h1 h2).less, m.tabs, fun b hb => m.busy b (List.mem_cons_of_mem _ hb)⟩
theorem XRp.less {a : Addr} {B : List Addr} {H : Hp} {ι : List Addr} {x : D} {cls : Value} {dd : Option Addr} (r : XRp (g.b (a :: B)) H ι x cls dd) : XRp (g.b B) H ι x cls dd := by
  obtain ⟨c, fs, C, h1, h2, h3, h⟩ := r
  refine ⟨c, fs, C, h1, h2, h3, ?_⟩
  rcases h with ⟨d, fv, vs, q1, q2, q3, q4, q5⟩ | h
  · exact .inl ⟨d, fv, vs, q1, ⟨q2.1, fun z => q2.2.1 (List.mem_cons_of_mem _ z), q2.2.2⟩, q3, q4, q5.less⟩
  · exact .inr h
theorem upd_delO {H : Hp} {a : Addr} {o : HO} : upd (del H a) a o = upd H a o := by
  funext b
  by_cases e : b = a
  · rw [e, upd_same, upd_same]
  · rw [upd_ne e, upd_ne e, del_ne e]
theorem RpK.merge {B : List Addr} {H : Hp} {ι : List Addr} : ∀ {ks : List (Key × D)} {vs : List (Key × V)} {ka : List (Key × D)} {va : List (Key × V)}, RpK (g.b B) H ι ks vs → RpK (g.b B) H ι ka va → RpK (g.b B) H ι (ks.foldl (fun acc kv => putKd acc kv.1 kv.2) ka) (vs.foldl (fun acc kv => putK acc kv.1 kv.2) va)
  | [], [], _, _, _, a => a
  | (k, d) :: ks, (k2, v) :: vs, _, _, r, a => by
    have e : k = k2 := (List.cons.inj r.1).1
    subst e
    have r2 := r.2
    cases r2 with
    | cons r1 t =>
      have rt : RpK (g.b B) H ι ks vs := ⟨(List.cons.inj r.1).2, t⟩
      simp only [List.foldl_cons]
      exact RpK.merge rt (a.put k r1)
  | [], _ :: _, _, _, r, _ => by cases r.1
  | _ :: _, [], _, _, r, _ => by cases r.1
theorem MR.adopt {a : Addr} {B : List Addr} {H : Hp} {ι : List Addr} {μ : Mem} {w u : HO} {o : Ob} (m : MR (g.b (a :: B)) H ι μ) (hw : H a = some w) (pl : Plain w) (hB : a ∉ B)
    (r : Nx [] (del H a) ι (upd H a u) (ι ++ [a]) → ObR (g.b B) (upd H a u) (ι ++ [a]) a o) : MR (g.b B) (upd H a u) (ι ++ [a]) (μ ++ [o]) := by
  have m1 := m.busyOut hw pl hB
  have hx : Nx [] (del H a) ι (upd (del H a) a u) (ι ++ [a]) := ⟨(Nx.laid (ι := ι) del_same).ext, (Nx.laid (ι := ι) del_same).dom, [a], rfl, fun b hb o e => by
    have : b = a := by simpa using hb
    rw [this, del_same] at e; cases e⟩
  have := (m1.new (u := u) (o := o) del_same (by rw [upd_delO] at hx ⊢; exact r hx)).1
  rwa [upd_delO] at this
theorem m_dict {keys : List (Option Expr)} {values : List Expr} {ks : Ks} {pos : Pos} (h : PPs X pos keys values (trsOf γ g W ks)) (h1 : keys.all (·.isSome) = true) (h2 : keys.length = values.length) (h3 : keys ≠ []) (h4 : keys.length ≤ 15) : Me γ g W X (.Dict keys values pos) (.dict ks) :=
  pe_to (pe_disp h h1 h2 h3 h4) fun σ H Q h => by
    obtain ⟨B, ι, μ, sl, ds, r, m, sr, hd, e, p⟩ := h
    simp only [evE] at e
    intro a ha
    have hB : a ∉ B := m.freshB ha
    have sr1 : SR (g.b (a :: B)) (upd H a (.dK [])) ι sl σ := ⟨sr.len, fun i d hd => let ⟨v, h1, h2⟩ := sr.at_ i d hd; ⟨v, h1, h2.busyIn ha⟩⟩
    refine ks_go ?_
    have back : ∀ {H' : Hp} {ι' : List Addr}, Nx [] (upd H a (.dK [])) ι H' ι' → Nx [] H ι H' ι' := fun x => (Nx.laid ha).trans x
    cases q : evKs γ ks sl μ with
    | none => rw [q] at e; cases e
    | some rb =>
      rw [q] at e
      refine ⟨a :: B, ι, μ, sl, [], rb, m.busyIn ha, sr1, .nil, q, ?_⟩
      cases rb with
      | ex y μ2 =>
        cases e
        exact fun cls dd H' ι' x' m' r' => p cls dd H' ι' (back x') m'.less r'.less
      | ok y μ2 =>
        rw [bind_ok] at e
        split at e
        · rename_i hl
          cases e
          intro u H2 ι2 x2 m2 r2
          obtain ⟨kvs, rfl, hk⟩ := r2
          have ni : a ∉ ι := m.fresh ha
          have hp : H2 a = some (.dK []) := x2.ext a _ ni (fun z => nomatch z) (fun _ z => nomatch z) upd_same
          have ll : y.length = kvs.length := by
            have := congrArg List.length hk.1
            simpa using this
          refine ⟨hp, kvs, rfl, by rw [← ll]; exact hl, ?_⟩
          have m3 : MR (g.b B) (upd H2 a (.dK (mergeK [] kvs))) (ι2 ++ [a]) (μ2 ++ [.dk (mergeKd y)]) := m2.adopt hp trivial hB fun nx =>
            ⟨mergeK [] kvs, upd_same, RpK.merge (⟨hk.1, hk.2.busyOut.mono nx.w⟩) ⟨rfl, .nil⟩⟩
          have na : a ∉ ι2 := (m2.busy a List.mem_cons_self).2
          refine p _ _ _ ⟨fun b u hb _ nt hu => ?_, fun b o hb nt => ?_, ?_⟩ m3 (.ref (by rw [← m2.len]; simp))
          · have ne : b ≠ a := ne_of_none hu ha
            rw [upd_ne ne]
            exact (back x2).ext b u hb (fun z => nomatch z) nt hu
          · by_cases e : b = a
            · rw [e]; exact ⟨_, upd_same, fun _ z => nomatch z⟩
            · rw [upd_ne e]; exact (back x2).dom b o hb nt
          · obtain ⟨l, e1, e2⟩ := (back x2).more
            exact ⟨l ++ [a], by rw [e1, List.append_assoc], fun b hb o ho => by
              rcases List.mem_append.mp hb with z | z
              · exact e2 b z o ho
              · have : b = a := by simpa using z
                rw [this, ha] at ho; cases ho⟩
        · cases e
end
end Mn
end
section
namespace Mn
open PySem PySem.Spec PyProof.Rows L2

mutual
def lowD (k : Nat) : D → Bool
  | .ref n => decide (n < k)
  | .tup ds => lowL k ds
  | .lst ds => lowL k ds
  | .kls ds => lowL k ds
  | .exc _ ds => lowL k ds
  | .non => true
  | .bl _ => true
  | .int _ => true
  | .str _ => true
  | .opq => true
def lowL (k : Nat) : List D → Bool
  | [] => true
  | d :: ds => lowD k d && lowL k ds
end
def lowOb (k : Nat) : Ob → Bool
  | .lst ds => lowL k ds
  | .dk kvs => lowL k (kvs.map (·.2))
  | .dt kvs => lowL k (kvs.map (·.2))
  | .ins _ fs => lowL k (fs.map (·.2))
def frzD (μ : Mem) (k : Nat) : Nat → D → Option D
  | 0, d => if lowD k d then some d else none
  | f + 1, d => if lowD k d then some d else match d with
    | .ref n => match μ[n]? with
      | some (.lst ds) => (ds.mapM (frzD μ k f)).map .lst
      | _ => none
    | .tup ds => (ds.mapM (frzD μ k f)).map .tup
    | .lst ds => (ds.mapM (frzD μ k f)).map .lst
    | _ => none
def cutM (k : Nat) (μ : Mem) : Option Mem := if (μ.take k).all (lowOb k) then some (μ.take k) else none
def fnD (γ : Gam) (F : List D → Mem → Nat) (np n : Nat) (b : Ss) (ds : List D) (μ : Mem) : Option (R D) :=
  if ds.length = np then (match evSs γ (F ds μ) b (ds.map some ++ List.replicate (n - ds.length) none) μ with
    | some (.nx _ μ') => (cutM μ.length μ').map (R.ok .non)
    | some (.rt d μ') => (cutM μ.length μ').bind fun μ2 => (frzD μ' μ.length 4 d).map fun d2 => .ok d2 μ2
    | some (.ex d _ μ') => (cutM μ.length μ').bind fun μ2 => if lowD μ.length d then some (.ex d μ2) else none
    | _ => none) else none

section
variable {g : G} {H : Hp} {ι l : List Addr} {μ μ' : Mem}
theorem Fix.cut {a : Addr} {o : HO} (f : Fix g H (ι ++ l) a o) : Fix g H ι a o := ⟨fun h => f.1 (List.mem_append_left _ h), f.2.1, f.2.2⟩
mutual
theorem Rp.down : ∀ {d : D} {v : V}, Rp g H (ι ++ l) d v → lowD ι.length d = true → Rp g H ι d v
  | _, _, .non, _ => .non
  | _, _, .bl b, _ => .bl b
  | _, _, .int i, _ => .int i
  | _, _, .str x, _ => .str x
  | _, _, .tup f r, e => .tup f.cut (r.down (by simpa [lowD] using e))
  | _, _, .lst f r, e => .lst f.cut (r.down (by simpa [lowD] using e))
  | _, _, .frz f r, e => .frz f.cut (r.down (by simpa [lowD] using e))
  | _, _, .kfz f r, e => .kfz f.cut (r.down (by simpa [lowD] using e))
  | _, _, .klp f r, e => .klp f.cut (r.down (by simpa [lowD] using e))
  | _, _, .kkk k r, e => .kkk k (r.down (by simpa [lowD] using e))
  | _, _, .ref (n := n) h, e => .ref (by
      have hn : n < ι.length := by simpa [lowD] using e
      rwa [List.getElem?_append_left hn] at h)
  | _, _, .exc c f1 f2 hf hl r, e => .exc c f1.cut f2.cut hf hl (r.down (by simpa [lowD] using e))
  | _, _, .exc0 c f1 e0, _ => .exc0 c f1.cut e0
  | _, _, .opq h f, _ => .opq h f.cut
theorem RpL.down : ∀ {ds : List D} {vs : List V}, RpL g H (ι ++ l) ds vs → lowL ι.length ds = true → RpL g H ι ds vs
  | _, _, .nil, _ => .nil
  | _, _, .cons r t, e => by
    simp only [lowL, Bool.and_eq_true] at e
    exact .cons (r.down e.1) (t.down e.2)
end
mutual
theorem Rp.low : ∀ {d : D} {v : V}, Rp g H ι d v → lowD ι.length d = true
  | _, _, .non => rfl
  | _, _, .bl b => rfl
  | _, _, .int i => rfl
  | _, _, .str x => rfl
  | _, _, .tup f r => by simpa [lowD] using r.low
  | _, _, .lst f r => by simpa [lowD] using r.low
  | _, _, .frz f r => by simpa [lowD] using r.low
  | _, _, .kfz f r => by simpa [lowD] using r.low
  | _, _, .klp f r => by simpa [lowD] using r.low
  | _, _, .kkk k r => by simpa [lowD] using r.low
  | _, _, .ref h => by simpa [lowD] using (List.getElem?_eq_some_iff.mp h).1
  | _, _, .exc c f1 f2 hf hl r => by simpa [lowD] using r.low
  | _, _, .exc0 c f1 e0 => rfl
  | _, _, .opq h f => rfl
theorem RpL.low : ∀ {ds : List D} {vs : List V}, RpL g H ι ds vs → lowL ι.length ds = true
  | _, _, .nil => rfl
  | _, _, .cons r t => by simp only [lowL, r.low, t.low, Bool.and_self]
end
theorem ObR.low {a : Addr} {o : Ob} (r : ObR g H ι a o) : lowOb ι.length o = true := by
  cases o with
  | lst ds => obtain ⟨vs, _, q⟩ := r; exact q.low
  | dk ds => obtain ⟨vs, _, q⟩ := r; exact q.2.low
  | dt ds => obtain ⟨vs, _, q⟩ := r; exact q.2.low
  | ins c ds => obtain ⟨C, dx, vs, _, _, q⟩ := r; exact q.2.low
theorem ObR.cut {a : Addr} {o : Ob} (r : ObR g H (ι ++ l) a o) (e : lowOb ι.length o = true) : ObR g H ι a o := by
  cases o with
  | lst ds => obtain ⟨vs, h, q⟩ := r; exact ⟨vs, h, q.down e⟩
  | dk ds => obtain ⟨vs, h, q⟩ := r; exact ⟨vs, h, q.1, q.2.down e⟩
  | dt ds => obtain ⟨vs, h, q⟩ := r; exact ⟨vs, h, q.1, q.2.down e⟩
  | ins c ds => obtain ⟨C, dx, vs, hc, h, q⟩ := r; exact ⟨C, dx, vs, hc, h, q.1, q.2.down e⟩
theorem MR.cut (m : MR g H (ι ++ l) μ') {μ2 : Mem} (e : cutM ι.length μ' = some μ2) : MR g H ι μ2 := by
  unfold cutM at e
  split at e
  · rename_i hl
    cases e
    have len := m.len
    rw [List.length_append] at len
    refine ⟨by rw [List.length_take]; omega, (List.nodup_append.mp m.nd).1, fun n o a h1 h2 => ?_, m.tabs, fun b hb => ⟨(m.busy b hb).1, fun z => (m.busy b hb).2 (List.mem_append_left _ z)⟩⟩
    have hn : n < ι.length := (List.getElem?_eq_some_iff.mp h2).1
    have hm : o ∈ μ'.take ι.length := List.mem_of_getElem? h1
    rw [List.getElem?_take_of_lt hn] at h1
    exact (m.at_ n o a h1 (by rw [List.getElem?_append_left hn]; exact h2)).cut (List.all_eq_true.mp hl o hm)
  · cases e
theorem mapM_cons_some {α β : Type} {f : α → Option β} {a : α} {as : List α} {bs : List β} (e : (a :: as).mapM f = some bs) : ∃ b cs, f a = some b ∧ as.mapM f = some cs ∧ bs = b :: cs := by
  rw [List.mapM_cons] at e
  cases h : f a with
  | none => rw [h] at e; cases e
  | some b =>
    cases h2 : as.mapM f with
    | none => rw [h, h2] at e; cases e
    | some cs =>
      rw [h, h2] at e
      exact ⟨b, cs, rfl, rfl, (Option.some.inj e).symm⟩
theorem Rp.freeze (m : MR g H (ι ++ l) μ') : ∀ (f : Nat) {d d2 : D} {v : V}, Rp g H (ι ++ l) d v → frzD μ' ι.length f d = some d2 → Rp g H ι d2 v
  | 0, d, d2, v, r, e => by
    unfold frzD at e
    split at e
    · rename_i h
      cases e
      exact r.down h
    · cases e
  | f + 1, d, d2, v, r, e => by
    have all : ∀ {ds es : List D} {vs : List V}, RpL g H (ι ++ l) ds vs → ds.mapM (frzD μ' ι.length f) = some es → RpL g H ι es vs := by
      intro ds
      induction ds with
      | nil =>
        intro es vs r e
        cases r
        rw [List.mapM_nil] at e
        cases e
        exact .nil
      | cons d ds ih =>
        intro es vs r e
        obtain ⟨b, cs, h1, h2, rfl⟩ := mapM_cons_some e
        cases r with
        | cons r t => exact .cons (r.freeze m f h1) (ih t h2)
    unfold frzD at e
    split at e
    · rename_i h
      cases e
      exact r.down h
    · rename_i hl
      cases d with
      | ref n =>
        cases r with
        | ref h =>
          rename_i a
          dsimp only at e
          split at e
          · rename_i ds hn
            rw [Option.map_eq_some_iff] at e
            obtain ⟨es, e1, rfl⟩ := e
            obtain ⟨vs, hv, q⟩ := m.at_ n _ a hn h
            have hge : ι.length ≤ n := by simpa [lowD] using hl
            refine .lst ⟨fun z => ?_, fun z => (m.busy a z).2 (List.mem_of_getElem? h), hv⟩ (all q e1)
            obtain ⟨j, hj, ej⟩ := List.getElem_of_mem z
            have h3 : (ι ++ l)[j]? = some a := by rw [List.getElem?_append_left hj, List.getElem?_eq_getElem hj, ej]
            have := nodup_at m.nd h3 h
            omega
          · cases e
      | tup ds =>
        dsimp only at e
        rw [Option.map_eq_some_iff] at e
        obtain ⟨es, e1, rfl⟩ := e
        cases r with
        | tup f q => exact .tup f.cut (all q e1)
      | lst ds =>
        dsimp only at e
        rw [Option.map_eq_some_iff] at e
        obtain ⟨es, e1, rfl⟩ := e
        cases r with
        | lst f q => exact .lst f.cut (all q e1)
        | frz f q => exact .frz f.cut (all q e1)
      | _ => cases e
theorem XRp.down {x : D} {cls : Value} {dd : Option Addr} (r : XRp g H (ι ++ l) x cls dd) (e : lowD ι.length x = true) : XRp g H ι x cls dd := by
  obtain ⟨c, fs, C, rfl, hc, hcl, h⟩ := r
  refine ⟨c, fs, C, rfl, hc, hcl, ?_⟩
  rcases h with ⟨d, fv, vs, h1, h2, h3, h4, h5⟩ | h
  · exact .inl ⟨d, fv, vs, h1, h2.cut, h3, h4, h5.down (by simpa [lowD] using e)⟩
  · exact .inr h
theorem Nx.cut {H' : Hp} (x : Nx [] H ι H' (ι ++ l)) : Nx [] H ι H' ι := ⟨x.ext, x.dom, [], by simp, fun _ h => nomatch h⟩
end

structure WfM (ds : List D) (μ : Mem) : Prop where
  args : lowL μ.length ds = true
  mem : μ.all (lowOb μ.length) = true
theorem start_rp {g : G} {H : Hp} {ι : List Addr} {N : List Str} {ds : List D} {vs : List V} (r : RpL g H ι ds vs) (hl : ds.length ≤ N.length) : SR g H ι (ds.map some ++ List.replicate (N.length - ds.length) none) (L2.start N vs) := by
  unfold L2.start
  have e := r.length
  refine ⟨by simp; omega, fun i d h => ?_⟩
  by_cases hi : i < ds.length
  · rw [List.getElem?_append_left (by simpa using hi), List.getElem?_map] at h
    rw [List.getElem?_append_left (by simp; omega), List.getElem?_map]
    cases q : ds[i]? with
    | none => rw [q] at h; cases h
    | some d2 =>
      rw [q] at h
      cases h
      obtain ⟨v, h1, h2⟩ := r.get q
      exact ⟨v, by rw [h1]; rfl, h2⟩
  · rw [List.getElem?_append_right (by simpa using hi), List.getElem?_replicate] at h
    split at h <;> cases h
theorem fn_mn {γ : Gam} {g : G} {F : List D → Mem → Nat} {P : Program} {w : World} {K : PySem.W.Frag} {mg : Str → Option Value} {base : Heap} {k : Nat} {x qual : Str} {params : Arguments} {body : List Stmt} {scope : Scope} {dvs : List V} {kws : List (Str × V)} {f : Addr} {fd : FuncData}
    {N ps : List Str} {b : Ss} {φ : List D → Mem → Option (R D)} (hK : K = g.K) (FD : FunD K x qual params body scope dvs kws f fd) (S : FnScope N ps scope) (hle : ps.length ≤ N.length)
    (hφ : ∀ ds μ r, WfM ds μ → φ ds μ = some r → fnD γ F ps.length N.length b ds μ = some r) (hlen : ∀ ds μ r, φ ds μ = some r → ds.length = ps.length)
    (hbody : ∀ (Fu : Nat) (W : WX) (cdv : Value) (A : Around) (outer : List Env) (s : Shared) (H : Hp) (E : XK), CtxS g W (cxOf (L2.CX P w) P w K mg base N qual scope f cdv A outer s H E) → Room k (A.deeper (envOfC qual scope s.heap.objs.size f cdv)) →
      Mss γ Fu g W (cxOf (L2.CX P w) P w K mg base N qual scope f cdv A outer s H E) body b) :
    FnOk P w K mg base (L2.CX P w) (k + 1) f fd ps (spM g φ) := by
  refine FD.ok S (fun vs H Q E h => ?_) (fun cdv A outer s H vs Q E hr h => ?_)
  · obtain ⟨B, ι, μ, ds, r, m, rr, e, _⟩ := h
    rw [← rr.length]
    exact hlen _ _ _ e
  · obtain ⟨B, ι, μ, ds, r, m, rr, e, p⟩ := h
    have wf : WfM ds μ := ⟨by rw [← m.len]; exact rr.low, by
      rw [List.all_eq_true]
      intro o ho
      obtain ⟨n, hn, en⟩ := List.getElem_of_mem ho
      obtain ⟨a, h1, h2⟩ := m.get (n := n) (o := o) (by rw [List.getElem?_eq_getElem hn, en])
      rw [← m.len]
      exact h2.low⟩
    have e2 := hφ _ _ _ wf e
    have W : WX := fun cls d _ H => E cls d H
    have tk : Takes (cxOf (L2.CX P w) P w K mg base N qual scope f cdv A outer s H E) (fun cls d _ H => E cls d H) := takes_of rfl rfl rfl rfl
    have cs : CtxS g (fun cls d _ H => E cls d H) (cxOf (L2.CX P w) P w K mg base N qual scope f cdv A outer s H E) := ⟨⟨hK, S.nd, rfl, by
      have := hr.un
      show (A.deeper _).units + 65 < cLine
      omega, tk⟩, passes_of rfl⟩
    refine ⟨_, hbody (F ds μ) _ cdv A outer s H E cs hr, ?_⟩
    unfold fnD at e2
    have hl : ds.length = ps.length := hlen _ _ _ e
    rw [if_pos hl] at e2
    cases q : evSs γ (F ds μ) b (ds.map some ++ List.replicate (N.length - ds.length) none) μ with
    | none => rw [q] at e2; cases e2
    | some o =>
      rw [q] at e2
      refine ⟨B, ι, μ, _, o, m, start_rp rr (by omega), q, ?_⟩
      have ml := m.len
      cases o with
      | nx sl' μ' =>
        dsimp only at e2
        rw [Option.map_eq_some_iff] at e2
        obtain ⟨μ2, e3, rfl⟩ := e2
        intro σ' H' ι' x' m' s'
        obtain ⟨l, rfl, _⟩ := id x'.more
        rw [← ml] at e3
        exact p _ _ ι x'.cut (m'.cut e3) .non
      | rt d μ' =>
        dsimp only at e2
        rw [Option.bind_eq_some_iff] at e2
        obtain ⟨μ2, e3, e4⟩ := e2
        rw [Option.map_eq_some_iff] at e4
        obtain ⟨d2, e5, rfl⟩ := e4
        intro v H' ι' x' m' r'
        obtain ⟨l, rfl, _⟩ := id x'.more
        rw [← ml] at e3 e5
        exact p _ _ ι x'.cut (m'.cut e3) (r'.freeze m' 4 e5)
      | ex d sl' μ' =>
        dsimp only at e2
        rw [Option.bind_eq_some_iff] at e2
        obtain ⟨μ2, e3, e4⟩ := e2
        split at e4
        · rename_i hl2
          cases e4
          intro cls dd σ' H' ι' x' m' s' r'
          obtain ⟨l, rfl, _⟩ := id x'.more
          rw [← ml] at e3 hl2
          exact p _ _ _ ι x'.cut (m'.cut e3) (XRp.down r' hl2)
        · cases e4
      | bk sl' μ' => cases e2
      | ct sl' μ' => cases e2
theorem fn_mnC {γ : Gam} {g : G} {F : List D → Mem → Nat} {P : Program} {w : World} {K : PySem.W.Frag} {mg : Str → Option Value} {base : Heap} {k : Nat} {x qual : Str} {params : Arguments} {body : List Stmt} {scope : Scope} {dvs : List V} {kws : List (Str × V)} {f : Addr} {fd : FuncData}
    {N ps : List Str} {b : Ss} {φ : List D → Mem → Option (R D)} (hK : K = g.K) (FD : FunD K x qual params body scope dvs kws f fd) (S : FnScope N ps scope) (hle : ps.length ≤ N.length)
    (hφ : ∀ ds μ r, WfM ds μ → φ ds μ = some r → fnD γ F ps.length N.length b ds μ = some r) (hlen : ∀ ds μ r, φ ds μ = some r → ds.length = ps.length)
    (hbody : ∀ (Fu : Nat) (W : WX) (cdv : Value) (A : Around) (outer : List Env) (s : Shared) (H : Hp) (E : XK), fd.code = cdv → CtxS g W (cxOf (L2.CX P w) P w K mg base N qual scope f cdv A outer s H E) → Room k (A.deeper (envOfC qual scope s.heap.objs.size f cdv)) →
      Mss γ Fu g W (cxOf (L2.CX P w) P w K mg base N qual scope f cdv A outer s H E) body b) :
    FnOk P w K mg base (L2.CX P w) (k + 1) f fd ps (spM g φ) := by
  obtain ⟨oc, od, dV, kV, doc, pm, an, cdv, ct, osl, rfl, lk, hcd, _, _⟩ := FD.ex
  refine fn_of lk hcd S (fun vs H Q E h => ?_) (fun A outer s H vs Q E hr h => ?_)
  · obtain ⟨B, ι, μ, ds, r, m, rr, e, _⟩ := h
    rw [← rr.length]
    exact hlen _ _ _ e
  · obtain ⟨B, ι, μ, ds, r, m, rr, e, p⟩ := h
    have wf : WfM ds μ := ⟨by rw [← m.len]; exact rr.low, by
      rw [List.all_eq_true]
      intro o ho
      obtain ⟨n, hn, en⟩ := List.getElem_of_mem ho
      obtain ⟨a, h1, h2⟩ := m.get (n := n) (o := o) (by rw [List.getElem?_eq_getElem hn, en])
      rw [← m.len]
      exact h2.low⟩
    have e2 := hφ _ _ _ wf e
    have W : WX := fun cls d _ H => E cls d H
    have tk : Takes (cxOf (L2.CX P w) P w K mg base N qual scope f cdv A outer s H E) (fun cls d _ H => E cls d H) := takes_of rfl rfl rfl rfl
    have cs : CtxS g (fun cls d _ H => E cls d H) (cxOf (L2.CX P w) P w K mg base N qual scope f cdv A outer s H E) := ⟨⟨hK, S.nd, rfl, by
      have := hr.un
      show (A.deeper _).units + 65 < cLine
      omega, tk⟩, passes_of rfl⟩
    refine ⟨_, hbody (F ds μ) _ cdv A outer s H E rfl cs hr, ?_⟩
    unfold fnD at e2
    have hl : ds.length = ps.length := hlen _ _ _ e
    rw [if_pos hl] at e2
    cases q : evSs γ (F ds μ) b (ds.map some ++ List.replicate (N.length - ds.length) none) μ with
    | none => rw [q] at e2; cases e2
    | some o =>
      rw [q] at e2
      refine ⟨B, ι, μ, _, o, m, start_rp rr (by omega), q, ?_⟩
      have ml := m.len
      cases o with
      | nx sl' μ' =>
        dsimp only at e2
        rw [Option.map_eq_some_iff] at e2
        obtain ⟨μ2, e3, rfl⟩ := e2
        intro σ' H' ι' x' m' s'
        obtain ⟨l, rfl, _⟩ := id x'.more
        rw [← ml] at e3
        exact p _ _ ι x'.cut (m'.cut e3) .non
      | rt d μ' =>
        dsimp only at e2
        rw [Option.bind_eq_some_iff] at e2
        obtain ⟨μ2, e3, e4⟩ := e2
        rw [Option.map_eq_some_iff] at e4
        obtain ⟨d2, e5, rfl⟩ := e4
        intro v H' ι' x' m' r'
        obtain ⟨l, rfl, _⟩ := id x'.more
        rw [← ml] at e3 e5
        exact p _ _ ι x'.cut (m'.cut e3) (r'.freeze m' 4 e5)
      | ex d sl' μ' =>
        dsimp only at e2
        rw [Option.bind_eq_some_iff] at e2
        obtain ⟨μ2, e3, e4⟩ := e2
        split at e4
        · rename_i hl2
          cases e4
          intro cls dd σ' H' ι' x' m' s' r'
          obtain ⟨l, rfl, _⟩ := id x'.more
          rw [← ml] at e3 hl2
          exact p _ _ _ ι x'.cut (m'.cut e3) (XRp.down r' hl2)
        · cases e4
      | bk sl' μ' => cases e2
      | ct sl' μ' => cases e2
def fnK (γ : Gam) (F : List D → Mem → Nat) (np n : Nat) (b : Ss) (ds : List D) (μ : Mem) : Option (R D) :=
  if ds.length = np then (match evSs γ (F ds μ) b (ds.map some ++ List.replicate (n - ds.length) none) μ with
    | some (.nx _ μ') => some (.ok .non μ')
    | some (.rt d μ') => some (.ok d μ')
    | some (.ex d _ μ') => some (.ex d μ')
    | _ => none) else none
theorem fn_mnK {γ : Gam} {g : G} {F : List D → Mem → Nat} {P : Program} {w : World} {K : PySem.W.Frag} {mg : Str → Option Value} {base : Heap} {k : Nat} {x qual : Str} {params : Arguments} {body : List Stmt} {scope : Scope} {dvs : List V} {kws : List (Str × V)} {f : Addr} {fd : FuncData}
    {N ps : List Str} {b : Ss} {φ : List D → Mem → Option (R D)} (hK : K = g.K) (FD : FunD K x qual params body scope dvs kws f fd) (S : FnScope N ps scope) (hle : ps.length ≤ N.length)
    (hφ : ∀ ds μ r, WfM ds μ → φ ds μ = some r → fnK γ F ps.length N.length b ds μ = some r) (hlen : ∀ ds μ r, φ ds μ = some r → ds.length = ps.length)
    (hbody : ∀ (Fu : Nat) (W : WX) (cdv : Value) (A : Around) (outer : List Env) (s : Shared) (H : Hp) (E : XK), CtxS g W (cxOf (L2.CX P w) P w K mg base N qual scope f cdv A outer s H E) → Room k (A.deeper (envOfC qual scope s.heap.objs.size f cdv)) →
      Mss γ Fu g W (cxOf (L2.CX P w) P w K mg base N qual scope f cdv A outer s H E) body b) :
    FnOk P w K mg base (L2.CX P w) (k + 1) f fd ps (spM g φ) := by
  refine FD.ok S (fun vs H Q E h => ?_) (fun cdv A outer s H vs Q E hr h => ?_)
  · obtain ⟨B, ι, μ, ds, r, m, rr, e, _⟩ := h
    rw [← rr.length]
    exact hlen _ _ _ e
  · obtain ⟨B, ι, μ, ds, r, m, rr, e, p⟩ := h
    have wf : WfM ds μ := ⟨by rw [← m.len]; exact rr.low, by
      rw [List.all_eq_true]
      intro o ho
      obtain ⟨n, hn, en⟩ := List.getElem_of_mem ho
      obtain ⟨a, h1, h2⟩ := m.get (n := n) (o := o) (by rw [List.getElem?_eq_getElem hn, en])
      rw [← m.len]
      exact h2.low⟩
    have e2 := hφ _ _ _ wf e
    have W : WX := fun cls d _ H => E cls d H
    have tk : Takes (cxOf (L2.CX P w) P w K mg base N qual scope f cdv A outer s H E) (fun cls d _ H => E cls d H) := takes_of rfl rfl rfl rfl
    have cs : CtxS g (fun cls d _ H => E cls d H) (cxOf (L2.CX P w) P w K mg base N qual scope f cdv A outer s H E) := ⟨⟨hK, S.nd, rfl, by
      have := hr.un
      show (A.deeper _).units + 65 < cLine
      omega, tk⟩, passes_of rfl⟩
    refine ⟨_, hbody (F ds μ) _ cdv A outer s H E cs hr, ?_⟩
    unfold fnK at e2
    have hl : ds.length = ps.length := hlen _ _ _ e
    rw [if_pos hl] at e2
    cases q : evSs γ (F ds μ) b (ds.map some ++ List.replicate (N.length - ds.length) none) μ with
    | none => rw [q] at e2; cases e2
    | some o =>
      rw [q] at e2
      refine ⟨B, ι, μ, _, o, m, start_rp rr (by omega), q, ?_⟩
      have ml := m.len
      cases o with
      | nx sl' μ' =>
        cases e2
        exact fun σ' H' ι' x' m' s' => p _ _ ι' x' m' .non
      | rt d μ' =>
        cases e2
        exact fun v H' ι' x' m' r' => p _ _ ι' x' m' r'
      | ex d sl' μ' =>
        cases e2
        exact fun cls dd σ' H' ι' x' m' s' r' => p _ _ _ ι' x' m' r'
      | bk sl' μ' => cases e2
      | ct sl' μ' => cases e2
theorem len_fnD {γ : Gam} {F : List D → Mem → Nat} {np n : Nat} {b : Ss} (ds : List D) (μ : Mem) (r : R D) (h : fnD γ F np n b ds μ = some r) : ds.length = np := by
  unfold fnD at h
  split at h
  · assumption
  · cases h
theorem len_fnK {γ : Gam} {F : List D → Mem → Nat} {np n : Nat} {b : Ss} (ds : List D) (μ : Mem) (r : R D) (h : fnK γ F np n b ds μ = some r) : ds.length = np := by
  unfold fnK at h
  split at h
  · assumption
  · cases h
end Mn
end
section
namespace Mn
open PySem PySem.Spec PyProof.Rows L2

def KeepO (a : Addr) (cls : Value) (dd : Option Addr) : HO := .ext fun h => ∃ (oe : Obj) (vs : Array Value), h.get? a = some oe ∧ oe.cls = cls ∧ oe.dict = dd ∧ oe.data = .fields vs
theorem KeepO_is {a C : Addr} {dd : Option Addr} : KeepO a (.ref C) dd = ExV a C dd := rfl
theorem KeepO_ok {P : Program} {w : World} {H : Hp} {h : Heap} {a : Addr} {cls : Value} {dd : Option Addr} {oe : Obj} {vs : Array Value} (e : h.get? a = some oe) (z : Zc cls dd oe) (d : oe.data = .fields vs) : ObjOk P w H h a (KeepO a cls dd) :=
  ⟨⟨oe, vs, e, z.1, z.2, d⟩, ⟨oe, e⟩, fun _ _ hh k => by
    obtain ⟨o1, v1, q1, q2⟩ := hh
    exact ⟨o1, v1, k _ q1, q2⟩⟩
section
variable {X : Cx} {pins : List (Addr × Obj)} {σ : L2.St} {H : Hp} {s : Shared}
theorem Inv.keepX {a : Addr} {oe : Obj} {vs : Array Value} {cls : Value} {dd : Option Addr} (I : Inv X pins σ H s) (ea : s.heap.get? a = some oe) (hz : Zc cls dd oe) (hd : oe.data = .fields vs) (na : H a = none) (nL : a ≠ X.env.locals)
    (n0 : X.s_0.heap.get? a = none) (np : ∀ p ∈ X.pn ++ pins, p.1 ≠ a) (pn : List (Addr × Obj)) (hpn : ∀ p ∈ pn, p ∈ X.pn ++ pins) : Inv (X.suite a pn) [] σ (upd H a (KeepO a cls dd)) s := by
  have neS : ∀ {b : Addr} {o : Obj}, X.s_0.heap.get? b = some o → b ≠ a := fun q e => by rw [e, n0] at q; cases q
  refine ⟨I.ok.suite _ _, I.os, I.bare, ⟨I.base.keep, I.base.slot, fun b o q n x => ?_, I.base.there, fun b xs q => ?_, fun b o u q => ?_, fun b ps q => ?_⟩, I.loc, I.cell, ?_, fun x c e => ?_, fun p hp => ?_, fun b o q => ?_, I.len⟩
  · rw [upd_ne (neS q)]; exact I.base.free b o q n x
  · have z := I.base.tups b xs q
    rw [upd_ne (ne_of_none z na)]; exact z
  · have z := I.base.frzs b o u q
    rw [upd_ne (ne_of_none z na)]; exact z
  · obtain ⟨more, z⟩ := I.base.tbls b ps q
    exact ⟨more, by rw [upd_ne (ne_of_none z na)]; exact z⟩
  · show upd H a (KeepO a cls dd) X.env.locals = none
    rw [upd_ne (Ne.symm nL)]; exact I.free
  · have ne : c ≠ a := fun z => by
      obtain ⟨w, o, eo, ed⟩ := I.cell x c e
      rw [z, ea] at eo
      cases eo
      rw [hd] at ed
      cases ed
    show upd H a (KeepO a cls dd) c = none
    rw [upd_ne ne]; exact I.freeC x c e
  · have hp2 := hpn p (by simpa using hp)
    obtain ⟨q1, q2, q3⟩ := I.pin p hp2
    exact ⟨q1, by rw [upd_ne (np p hp2)]; exact q2, q3⟩
  · by_cases e : b = a
    · subst e
      rw [upd_same] at q
      cases q
      exact KeepO_ok ea hz hd
    · rw [upd_ne e] at q
      exact (I.hok b o q).stay (fun _ _ _ z => z) (fun c z => by rw [upd_ne (ne_of_none z na)]; exact z) fun c xs z => by rw [upd_ne (ne_of_none z na)]; exact z
theorem Inv.outX {a : Addr} {pn' : List (Addr × Obj)} (I : Inv (X.suite a (X.pn ++ pins)) pn' σ H s) (ok : X.Ok) : Inv X pins σ H s :=
  ⟨ok, I.os, I.bare, I.base, I.loc, I.cell, I.free, I.freeC, fun p hp => I.pin p (List.mem_append_left _ hp), I.hok, I.len⟩
def wKeep (n : Nat) (K : Frg) (c : Value) (i : Nat) (ts : TS) (Wout : WX) (D : Ends) : WX := fun cls d σ H => σ.length = n →
  ∃ b, PySem.W.exmOne K cls c = some b ∧
    (b = true → ∀ a, H a = none → ts { nx := fun σ' H' => D.nx (σ'.set i none) H', rt := D.rt, bk := fun σ' H' => D.bk (σ'.set i none) H', ct := fun σ' H' => D.ct (σ'.set i none) H' } (σ.set i (some (.ref a))) (upd H a (KeepO a cls d))) ∧
    (b = false → Wout cls d σ H)
variable {x n : Str} {c : Value} {i : Nat} {body suite : List Stmt} {b₀ : Stmt} {np pos pos' : Pos} {tb : WX → TS} {ts : TS} {Wout : WX}
theorem ps_try_keep (hst : X.stack = X.env :: X.outer) (hef : X.env.frame = some X.env.locals) (hex : X.ex = []) (hnd : X.N.Nodup) (hi : X.N[i]? = some n) (hlo : X.env.kindOf n = some .local) (hnm : Names X x c) (tk : Takes X Wout)
    (hb : ∀ (W : WX) (pn : List (Addr × Obj)) (xe : Value → Shared → Prop), Takes (X.tr pn xe) W → PassesOwn (model X.prog X.w) X.A X.env xe → PSs (X.tr pn xe) body (tb W))
    (hsu : ∀ (a : Addr) (pn : List (Addr × Obj)), PSs (X.suite a pn) (b₀ :: suite) ts) :
    PS X (.Try body [.ExceptHandler (some (.Name x np)) (some n) (b₀ :: suite) pos'] [] [] pos) (fun D σ H => tb (wKeep X.N.length X.K c i ts Wout D) D σ H) := by
  refine ⟨fun pins s σ H D I h => ?_⟩
  have okX := I.ok
  have frX : X.A.frames = some (X.env :: X.outer) := by rw [okX.frames, hst]
  refine wpAny_Try_except ?_
  refine wpAny_mono ((hb (wKeep X.N.length X.K c i ts Wout D) (X.pn ++ pins)
    (fun e t1 => wpAny (model X.prog X.w) X.A (noteFrame e X.env) (fun _ t2 => wpAny (model X.prog X.w) X.A (setFlight e none)
      (fun _ t3 => wpAny (model X.prog X.w) X.A (handleBy e X.env [.ExceptHandler (some (.Name x np)) (some n) (b₀ :: suite) pos']) (SP X pins D) X.xe t3) X.xe t2) X.xe t1)
    (fun u s' hx => ?_) PassesOwn.looking).run [] s σ H D (I.toTry _) h) (fun f s1 hsp => ?_) (fun e s1 he => he)
  · obtain ⟨a, B, sI, pins2, σ2, H2, cls, d, rfl, J2, hnB, up, sky, na, os, ag, hwk⟩ := hx
    obtain ⟨b, hb1, hyes, hno⟩ := hwk J2.len
    have J := J2.ofTry okX
    have skyX : Sky B (X.env :: X.outer) a (Zc cls d) X.env.locals s'.heap := by rw [← hst]; exact sky
    show wpAny (model X.prog X.w) X.A (noteFrame (.ref a) X.env) _ _ _
    refine Sky.land Zc.steady frX hef skyX fun h3 fl3 up3 => ?_
    have J3 : Inv X pins σ2 H2 { s' with heap := h3 } := J.landed hnB fl3.1 (up.trans up3) os ag
    obtain ⟨oe3, vs3, he3, hz3, hd3⟩ := fl3.there
    have noFr : ∀ {hh : Heap} {o : Obj} {vs : Array Value}, hh.FunFrames B (X.env :: X.outer) → hh.get? a = some o → o.data = .fields vs → a ∉ frs (X.env :: X.outer) := fun {hh o vs} ff e dd hm => by
      obtain ⟨_, o2, e2, hnf⟩ := ff.mem hm
      rw [e] at e2
      cases e2
      exact hnf _ dd
    have nfr := noFr fl3.2.2.1 he3 hd3
    have nL : a ≠ X.env.locals := fun z => nfr (List.mem_filterMap.mpr ⟨X.env, List.mem_cons_self, by rw [hef, z]⟩)
    have nF : a ∉ X.fs := fun hm => by
      obtain ⟨e, he, q⟩ := List.mem_filterMap.mp hm
      exact nfr (List.mem_filterMap.mpr ⟨e, List.mem_cons_of_mem _ he, q⟩)
    have nB : B.get? a = none := fl3.2.1
    have nI : sI.heap.get? a = none := by
      cases q : sI.heap.get? a with
      | none => rfl
      | some o =>
        have z := hnB a o q (by rw [hst]; exact nfr)
        rw [nB] at z
        cases z
    have n0 : X.s_0.heap.get? a = none := by
      cases q : X.s_0.heap.get? a with
      | none => rfl
      | some o =>
        obtain ⟨o2, z⟩ := J.base.there a o q (by rw [hex]; exact fun z => nomatch z)
        rw [nI] at z
        cases z
    have npX : ∀ p ∈ X.pn ++ pins, p.1 ≠ a := fun p hp e => by
      have z := (J.pin p hp).1
      rw [e, nI] at z
      cases z
    have S3 := J3.suite he3 hd3 na nL nF
    refine wpAny_handleBy_cons (codeAny_handlers_test ?_) (by intro q; cases q)
    have LT : PySem.W.Looks (model X.prog X.w) h3 (typeOf (.ref a)) cls := fun A Q E s k q => wpAny_typeOf_ref (k _ _ he3) (by rw [hz3.1]; exact q)
    have LM := PySem.W.exm_one (M := model X.prog X.w) (J3.kIn) LT hb1
    have look : ∀ {Q : Value → Shared → Prop} {E : Value → Shared → Prop}, Q c { s' with heap := h3 } → wpAny (model X.prog X.w) (X.A.mark (some (.ref a))) (eval (.Name x np) X.env) Q E { s' with heap := h3 } := fun {Q E} q => by
      obtain ⟨hg, hdbg, hm | ⟨hm, hv, hnn⟩⟩ := hnm
      · exact ld_glob (X := X.suite a ((a, oe3) :: (X.pn ++ pins))) S3 hg hm q hdbg
      · exact ld_blt (X := X.suite a ((a, oe3) :: (X.pn ++ pins))) S3 hg hm hv q hnn hdbg
    refine look (LM.here ?_)
    cases b with
    | true =>
      refine codeAny_handlers_suite_as ?_
      refine HandSPX.lands_againZ fl3 fun h4 fl4 up4 => ?_
      have J4 : Inv X pins σ2 H2 { s' with heap := h4 } := J.landed hnB fl4.1 ((up.trans up3).trans up4) os ag
      obtain ⟨oe4, vs4, he4, hz4, hd4⟩ := fl4.there
      have S4 : Inv (X.suite a (X.pn ++ pins)) [] σ2 (upd H2 a (KeepO a cls d)) { s' with heap := h4 } := Inv.keepX J4 he4 hz4 hd4 na nL n0 npX _ fun p hp => hp
      refine store_ok (X := X.suite a (X.pn ++ pins)) (v := .ref a) S4 hnd hi (.inl hlo) rfl (fun s5 S5 => ?_) (.inr hlo)
      refine wpAny_mono ((hsu a (X.pn ++ pins)).run [] s5 _ _ _ S5 (hyes rfl a na)) (fun f s6 hsp => ?_) (fun _ _ z => False.elim z)
      have fin6 : ∀ {σ6 : L2.St} {H6 : Hp} {Q : Shared → Prop}, Inv (X.suite a (X.pn ++ pins)) [] σ6 H6 s6 → (∀ s7, Inv X pins (σ6.set i none) H6 s7 → Q s7) →
          wpAny (model X.prog X.w) X.A (do bindName X.env n .none; unbindBehindTheSuite X.env n pos') (fun _ s7 => Q s7) X.xe s6 := fun {σ6 H6 Q} S6 hq => gone_ok (Inv.outX S6 okX) hnd hi hlo hq
      cases f with
      | next =>
        obtain ⟨σ6, H6, S6, q6⟩ := hsp
        exact fin6 S6 fun s7 J7 => ⟨_, _, J7, q6⟩
      | brk =>
        obtain ⟨σ6, H6, S6, q6⟩ := hsp
        exact fin6 S6 fun s7 J7 => ⟨_, _, J7, q6⟩
      | cont =>
        obtain ⟨σ6, H6, S6, q6⟩ := hsp
        exact fin6 S6 fun s7 J7 => ⟨_, _, J7, q6⟩
      | ret u =>
        obtain ⟨v6, σ6, H6, S6, r6, q6⟩ := hsp
        exact fin6 S6 fun s7 J7 => ⟨_, _, _, J7, r6, q6⟩
    | false =>
      show wpAny _ X.A (handleBy (.ref a) X.env []) _ _ _
      refine wpAny_handleBy_nil ?_
      obtain ⟨k1, k2, k3, oe, vs, T, oT, ts', he, hz, hd, h1, hr⟩ := id fl3
      unfold PySem.passOn
      refine wpAny_bind (wpAny_field he hd h1 ?_)
      rw [if_neg (show ¬ ((Value.ref T == Value.none) = true) from by simp)]
      have go : wpAny (model X.prog X.w) X.A (setFlight (.ref a) X.env.frame) (fun _ t4 => wpAny (model X.prog X.w) X.A (throw (.ref a) : Sem Flow) (SP X pins D) X.xe t4) X.xe { s' with heap := h3 } := by
        rw [hef]
        refine HandSPX.setFlight_upZ fl3 fun h4 hh4 up4 => wpAny_throw (tk _ _ ?_)
        exact ⟨a, B, sI, pins, σ2, H2, cls, d, rfl, J, hnB, (up.trans up3).trans up4, .inr (.inr (by rw [hst]; exact hh4)), na, os, ag, hno rfl⟩
      first
        | exact wpAny_bind (wpAny_pure (wpAny_bind go))
        | exact wpAny_bind go
  · cases f with
    | next =>
      obtain ⟨σ1, H1, J1, q1⟩ := hsp
      exact wpAny_execs_nil ⟨σ1, H1, J1.ofTry okX, q1⟩
    | brk =>
      obtain ⟨σ1, H1, J1, q1⟩ := hsp
      exact ⟨σ1, H1, J1.ofTry okX, q1⟩
    | cont =>
      obtain ⟨σ1, H1, J1, q1⟩ := hsp
      exact ⟨σ1, H1, J1.ofTry okX, q1⟩
    | ret u =>
      obtain ⟨v1, σ1, H1, J1, r1, q1⟩ := hsp
      exact ⟨v1, σ1, H1, J1.ofTry okX, r1, q1⟩
end

section
variable {γ : Gam} {g : G} {W : WX} {X : Cx} {F : Nat}
theorem m_try_as {x n y : Str} {cv : Value} {k i j : Nat} {body : List Stmt} {np p1 p2 p3 pos pos' : Pos} {tb : Ss} (c : CtxS g W X) (hst : X.stack = X.env :: X.outer) (hef : X.env.frame = some X.env.locals) (hex : X.ex = []) (hi : X.N[i]? = some n) (hj : X.N[j]? = some y)
    (hlo : X.env.kindOf n = some .local) (hlo2 : X.env.scope.names.lookup n = some .local) (hlo3 : X.env.scope.names.lookup y = some .local) (hnm : Names X x cv)
    (hsub : ∀ e C, g.cls e = some C → PySem.W.exmOne g.K (.ref C) cv = some (γ.sub e k)) (hd : (n == ("__debug__" : Str)) = false) (hcd : (n == ("__classdict__" : Str)) = false)
    (hsw : swapsWith (.Name n p2) (some (.Name y p1)) p3.line X.env = pure false)
    (hb : ∀ (W' : WX) (pn : List (Addr × Obj)) (xe : Value → Shared → Prop), CtxS g W' (X.tr pn xe) → Mss γ F g W' (X.tr pn xe) body tb) :
    Ms γ F g W X (.Try body [.ExceptHandler (some (.Name x np)) (some n) [.Assign [.Name y p1] (.Name n p2) p3] pos'] [] [] pos) (.tryAs tb k i j) :=
  ps_to (c.e.K ▸ ps_try_keep (tb := fun W' => rdS g W' (evSs γ F tb)) (ts := tAsg (tVar i) (gName j)) hst hef hex c.e.nd hi hlo hnm c.e.tk (fun W' pn xe tk own => hb W' pn xe ⟨⟨c.e.K, c.e.nd, c.e.calm, c.e.units, tk⟩, own⟩)
    (fun a pn => pss_one (ps_set (X := X.suite a pn) c.e.nd hj (.inl hlo3) (pe_var (X := X.suite a pn) hi (.inl hlo2) hd hcd) hsw (.inr hlo3))) : PS X _ (fun D σ H => rdS g (wKeep X.N.length g.K cv i (tAsg (tVar i) (gName j)) W D) (evSs γ F tb) D σ H)) fun D' σ H h => by
    obtain ⟨B, ι, μ, sl, o, mr, sr, e, p⟩ := h
    simp only [evS] at e
    cases q : evSs γ F tb sl μ with
    | none => rw [q] at e; cases e
    | some o1 =>
      rw [q] at e
      refine ⟨B, ι, μ, sl, o1, mr, sr, q, ?_⟩
      cases o1 with
      | nx sl1 μ1 => cases e; exact p
      | rt d μ1 => cases e; exact p
      | bk sl1 μ1 => cases e; exact p
      | ct sl1 μ1 => cases e; exact p
      | ex d sl1 μ1 =>
        intro cls dd σ1 H1 ι1 x1 m1 s1 r1
        cases d with
        | exc ec fs =>
          obtain ⟨c2, fs2, C, ee, hC, hcl, hr⟩ := id r1
          cases ee
          subst hcl
          refine fun _ => ⟨γ.sub ec k, hsub _ _ hC, fun hs a na => ?_, fun hs => ?_⟩
          · simp only [keepX, hs, if_true] at e
            split at e
            · rename_i hl
              cases e
              have nx : Nx [] H1 ι1 (upd H1 a (KeepO a (.ref C) dd)) ι1 := Nx.laid na
              have fx : Fix (g.b B) (upd H1 a (KeepO a (.ref C) dd)) ι1 a (ExV a C dd) := ⟨m1.fresh na, m1.freshB na, upd_same⟩
              have rx : Rp (g.b B) (upd H1 a (KeepO a (.ref C) dd)) ι1 (.exc ec fs) (.ref a) := by
                rcases hr with ⟨d, fv, vs, rfl, h2, h3, h4, h5⟩ | ⟨rfl, rfl, h3⟩
                · exact .exc hC fx (nx.w.fix h2 fun _ z => nomatch z) h3 h4 (h5.mono nx.w)
                · exact .exc0 hC fx h3
              refine ⟨.ref a, List.getElem?_set_self (by rw [← s1.len]; exact hl), ?_⟩
              exact p _ _ ι1 (x1.trans nx) (m1.laid na) (((((s1.mono nx.w).set i rx).set j rx)).clear i)
            · cases e
          · simp only [keepX, hs, Bool.false_eq_true, if_false] at e
            cases e
            exact p _ _ _ _ _ x1 m1 s1 r1
        | _ => cases e
theorem zip_look {G0 : G} {H : Hp} {ι : List Addr} {f : Str} {d : D} : ∀ {ns : List Str} {fs : List D} {vs : List V}, RpL G0 H ι fs vs → (ns.zip fs).lookup f = some d → ∃ v, (ns.zip vs).lookup f = some v ∧ Rp G0 H ι d v
  | [], _, _, _, e => by simp at e
  | _ :: _, [], _, _, e => by simp at e
  | n :: ns, x :: fs, _, .cons (v := v) r t, e => by
    simp only [List.zip_cons_cons, List.lookup_cons] at e ⊢
    split at e
    · rename_i hf
      cases e
      exact ⟨v, rfl, r⟩
    · rename_i hf
      exact zip_look t e
theorem m_fld {o : Expr} {ea : E} {k : Nat} {f : Str} {pos : Pos} (c : CtxE g W X) (hfl : γ.flds k = g.flds k) (hX : ∀ C, g.cls k = some C → XfC g.K C ∧ PySem.W.findIn g.K (.ref C) f = some none) (ho : Me γ g W X o ea)
    (hb : attributeBase o f X.env (eval o X.env) = eval o X.env := by rfl) : Me γ g W X (.Attribute o f pos) (.fld ea k f) := ⟨fun pins s σ H Q I h => by
  refine attr_of hb (thn (ho.run pins s σ H _ I (rd1 (rel1 := fun g H ι => Rp g H ι) (fa := evE γ ea) (k := fun x _ μ1 => pureR (fldD (γ.flds k) k f x) μ1) (rd_eq h fun sl μ r e => by simpa only [evE] using e))) fun u s1 hh => ?_)
  obtain ⟨v, H1, I1, ru, B, ι, μ, sl, x, r, m, sr, rx, e, p⟩ := hh
  cases x with
  | exc ec fs =>
    by_cases hk : ec = k
    · subst hk
      simp only [fldD, if_pos] at e
      cases ql : ((γ.flds ec).zip fs).lookup f with
      | none => rw [ql] at e; cases e
      | some d =>
        rw [ql] at e
        cases e
        cases rx with
        | exc0 hC fx en =>
          rw [hfl, show g.flds ec = [] from en] at ql
          cases ql
        | exc hC fx fd hf hl rl =>
          rename_i a C dd vs fv
          obtain ⟨T, hno⟩ := hX C hC
          rw [hfl] at ql
          obtain ⟨w, hw, rw'⟩ := zip_look rl ql
          obtain rfl : u = Value.ref a := ru
          obtain ⟨⟨oe, ws, q1, q2, q3, q4⟩, _, _⟩ := I1.hok a _ fx.2.2
          have hx : ObjOk X.prog X.w H1 s1.heap dd (.xd fv) := I1.hok dd _ fd.2.2
          obtain ⟨mA, hns, hr⟩ := hx
          obtain ⟨od, hod, hlk⟩ := lookIn_ns hns
          obtain ⟨u2, hu, ru2⟩ := RelO.some_of (v := w) (o := mA f) (by rw [← hw, ← hf f]; exact hr f)
          have J : PySem.W.InstAt s1.heap a oe C (some od) := ⟨q1, q2, by unfold PySem.W.notCls; rw [q4] <;> rfl, by rw [q3]; exact hod⟩
          rw [← c.K] at T hno
          exact HandSPX.exc_get I1.kIn J T.ga T.gg T.exC (PySem.W.findObj_own T.hdC hno rfl (by rw [hlk, hu])) (handed_of ru2) ⟨w, H1, I1.tok _, ru2, p w H1 ι .refl m rw'⟩
    · simp only [fldD, if_neg hk] at e
      cases e
  | _ => cases e⟩
structure ExcK (K : Frg) (C : Addr) : Prop where
  cl : (PySem.W.clsIn K C).isSome = true
  ga : PySem.W.findIn K (.ref C) "__getattribute__" = some (some (.builtin "BaseException.__getattribute__"))
  gg : PySem.W.findIn K (.ref C) "__getattr__" = some none
  sb : PySem.W.subIn K (.ref C) (.type "BaseException") = some true
  ca : PySem.W.findIn K (.ref C) "__class__" = some (some (.builtin "object.__class__"))
  cg : PySem.W.specialIn K (.builtin "object.__class__") "__get__" = some (some (.builtin "getset_descriptor.__get__"))
  ct : PySem.W.takesIn K (.builtin "object.__class__") = some true
  ob : PySem.W.mroIn K C (.type "object") = some true
def rIsO (X : Cx) (C2 : Addr) : List V → Hp → VK → Prop := fun xs H Q => ∃ (a C : Addr) (dd : Option Addr) (b : Bool), xs = [.ref a, .ref C2] ∧ H a = some (ExV a C dd) ∧ (∀ d, dd = some d → ∃ fv, H d = some (.xd fv)) ∧ ExcK X.K C ∧ PySem.W.kitOne X.K (.ref C) (.ref C2) = some b ∧ Q (.bl b) H
theorem call_isO {C2 : Addr} : CallR X (.builtin "isinstance") (rIsO X C2) := by
  intro pins s σ H xs us Q I r h
  obtain ⟨a, C, dd, b, rfl, ha, hdd, T, hk, q⟩ := h
  cases r with
  | cons rx rr =>
    cases rr with
    | cons rt rr =>
      cases rr
      cases rx
      cases rt
      obtain ⟨⟨oe, ws, q1, q2, q3, q4⟩, _, _⟩ := I.hok a _ ha
      have fin : ∀ tk, EP X pins σ Q (.bool b) { s with toks := tk } := fun tk => ⟨.bl b, H, I.kept (t' := tk) fun _ _ z => z, rfl, q⟩
      cases dd with
      | none =>
        have J : PySem.W.InstAt s.heap a oe C none := ⟨q1, q2, by unfold PySem.W.notCls; rw [q4] <;> rfl, by rw [q3]; trivial⟩
        exact PySem.W.kia_one (PySem.W.kitx_exc T.cl T.ga T.gg T.sb T.ca T.cg T.ct T.ob) I.kIn J hk (fun z => nomatch z) fin
      | some d =>
        obtain ⟨fv, hfv⟩ := hdd d rfl
        have hx : ObjOk X.prog X.w H s.heap d (.xd fv) := I.hok d _ hfv
        obtain ⟨mA, ⟨od, es, ep, ho, _⟩, _⟩ := hx
        have J : PySem.W.InstAt s.heap a oe C (some od) := ⟨q1, q2, by unfold PySem.W.notCls; rw [q4] <;> rfl, by rw [q3]; exact ho⟩
        exact PySem.W.kia_one (PySem.W.kitx_exc T.cl T.ga T.gg T.sb T.ca T.cg T.ct T.ob) I.kIn J hk (fun z => nomatch z) fin
theorem m_isiO {k : Nat} {C2 : Addr} {x y : Str} {p p2 pos : Pos} {e : Expr} {ea : E} (c : CtxE g W X) (hx : x = "isinstance") (hg : Gl X x) (hm : X.mg x = none) (hg2 : Gl X y) (hm2 : X.mg y = some (.ref C2)) (hT : ∀ e C, g.cls e = some C → ExcK g.K C ∧ PySem.W.kitOne g.K (.ref C) (.ref C2) = some (γ.sub e k))
    (ha : Me γ g W X e ea) (hdb2 : (y == ("__debug__" : Str)) = false := by decide) (he : starEach [e, .Name y p2] X.env = (false, eval e X.env) :: starEach [.Name y p2] X.env := by rfl) : Me γ g W X (.Call (.Name x p) [e, .Name y p2] [] pos) (.isiO ea k) := by
  subst hx
  have h2 : PE X (.Name y p2) (tC (.ref C2)) := pe_glob hg2 hm2 rfl hdb2
  refine pe_to (pe_callB (id := "isinstance") (call_isO (C2 := C2)) hg hm rfl (pa_cons ha (pa_cons h2 pa_nil) he) (by decide) (by decide) he) fun σ H Q h => ?_
  refine rd_imp (rd1 (rel1 := fun g H ι => Rp g H ι) (fa := evE γ ea) (k := fun x _ μ1 => pureR (isoD γ.sub x k) μ1) (rd_eq h fun sl μ r e => by simpa only [evE] using e)) fun v H1 h1 => ?_
  obtain ⟨B, ι, μ, sl, x, r, m, s, rx, e, p⟩ := h1
  cases x with
  | exc ec fs =>
    cases e
    have fin := p _ _ _ .refl m (.bl (γ.sub ec k))
    cases rx with
    | exc0 hC fx en =>
      rename_i a C
      obtain ⟨T, hk⟩ := hT _ _ hC
      exact ⟨a, C, none, γ.sub ec k, rfl, fx.2.2, fun _ z => (nomatch z), c.K ▸ T, c.K ▸ hk, fin⟩
    | exc hC fx fd hf hl rl =>
      rename_i a C dd vs fv
      obtain ⟨T, hk⟩ := hT _ _ hC
      exact ⟨a, C, some dd, γ.sub ec k, rfl, fx.2.2, fun d z => by cases z; exact ⟨fv, fd.2.2⟩, c.K ▸ T, c.K ▸ hk, fin⟩
  | _ => cases e
theorem pe_oinit {x0 : Str} {C0 : Addr} {pl : Sem Bool} {e : Expr} {es : List Expr} {ta : TA} {p1 p2 pos : Pos} (hg : Gl X x0) (hm : X.mg x0 = some (.ref C0)) (sp : PySem.W.specialIn X.K (.ref C0) "__getattribute__" = some (some (.builtin "type.__getattribute__"))) (hr : PySem.W.readsIn X.K C0 (.type "type") = true)
    (fi : PySem.W.findCls X.K (.ref C0) (.type "type") "__init__" = some (.val (.builtin "ValueError.__init__"))) (ha : PA X (e :: es) ta) (hdb : (x0 == ("__debug__" : Str)) = false := by decide)
    (hc : eval (.Call (.Attribute (.Name x0 p1) "__init__" p2) (e :: es) [] pos) X.env = (do
      let ov ← eval (.Name x0 p1) X.env
      standAt p2.atName
      let (f, first) ← holding [ov] (getMethod ov "__init__" pl)
      callWith pos f first (backTo pos (starEach (e :: es) X.env)) (backToKw pos (keywordEach [] X.env))) := by rfl)
    (he : starEach (e :: es) X.env = (false, eval e X.env) :: starEach es X.env := by rfl) (hpl : (backTo pos (starEach es X.env)).any (·.1) = false := by rfl) :
    PE X (.Call (.Attribute (.Name x0 p1) "__init__" p2) (e :: es) [] pos) (tVeI X.K ta) := by
  refine ⟨fun pins s σ H Q I h => ?_⟩
  refine PySem.W.methodCall_KW (ld_glob I hg hm ?_ hdb) hc
  refine PySem.W.method_cls I.kIn sp (PySem.W.cls_value I.kIn hr fi (by decide +kernel) ?_)
  show wpAny _ _ (callWith pos (Value.builtin "ValueError.__init__") [] (backTo pos (starEach (e :: es) X.env)) []) _ _ _
  refine PyProof.Rows.callWith_method1 (thn (ha.run pos pins _ σ H _ (I.tok _) h) fun us s1 hh => ?_) he hpl
  obtain ⟨vs, H1, I1, r1, a, C, ws, rfl, hl, T, ea, q⟩ := hh
  cases r1 with
  | @cons _ u0 _ ur ra rr =>
    obtain rfl : u0 = Value.ref a := ra
    exact oinit_ok T I1 ea (by rw [← Paired.length rr, sizeLine_eq]; omega) fun s2 J => ⟨.non, H1, J, rfl, q⟩
def spI1 (C : Addr) (f : Str) : Sp := fun vs H Q _ => ∃ (a : Addr) (y : V), vs = [.ref a, y] ∧ H a = some (exo a C none) ∧ ∀ dx, H dx = none → dx ≠ a → Q .non (upd (upd H dx (exd dx [(f, y)])) a (exo a C (some dx)))
theorem upd_back {H : Hp} {a dx : Addr} {o u w z : HO} (na : H a = none) (ne : dx ≠ a) : upd (del (upd (upd (upd H a o) dx u) a w) a) dx z = upd H dx z := by
  funext b
  by_cases e1 : b = dx
  · rw [e1, upd_same, upd_same]
  · rw [upd_ne e1, upd_ne e1]
    by_cases e2 : b = a
    · rw [e2, del_same, na]
    · rw [del_ne e2, upd_ne e2, upd_ne e1, upd_ne e2]
theorem m_raise1 {x f : Str} {C fI : Addr} {k j : Nat} {fd : FuncData} {ps : List Str} {ds : List Value} {dvs : List V} {dd : List D} {e : Expr} {es : List Expr} {ts : Es} {p p2 pos : Pos} (c : CtxE g W X) (hcl : g.cls j = some C) (hfl : γ.flds j = [f]) (hfl2 : g.flds j = [f])
    (T : OexC X.K C) (iC : PySem.W.findIn X.K (.ref C) "__init__" = some (some (.ref fI))) (tI : PySem.W.typeIn X.K (.ref fI) = some (.type "function"))
    (F1 : FnOk X.prog X.w X.K X.mg X.base (L2.CX X.prog X.w) k fI fd ps (spI1 C f)) (hr : Room (k + 1) X.A) (hb : L2.Binds X.K fd ps ds) (hd : Vals dvs ds) (hdd : ∀ g H ι, RpL g H ι dd dvs) (hg : Gl X x) (hm : X.mg x = some (.ref C)) (ha : Ma γ g W X (e :: es) ts)
    (hdb : (x == ("__debug__" : Str)) = false := by decide) (he : starEach (e :: es) X.env = (false, eval e X.env) :: starEach es X.env := by rfl) (hpl : (backTo pos (starEach es X.env)).any (·.1) = false := by rfl) :
    Ms γ F g W X (.Raise (some (.Call (.Name x p) (e :: es) [] pos)) none p2) (.raise j ts dd) :=
  ps_to (ps_raise c.calm c.tk (pmk_oex T iC tI F1 hr hb hd (passes_call c.tk fun _ _ _ _ z => z.elim) hg hm ha hdb he hpl)) fun D' σ H h => by
    obtain ⟨B, ι, μ, sl, o, mr, sr, ee, p⟩ := h
    simp only [evS] at ee
    cases q : evEs γ ts sl μ with
    | none => rw [q] at ee; cases ee
    | some r =>
      rw [q] at ee
      refine ⟨B, ι, μ, sl, [], r, mr, sr, .nil, q, ?_⟩
      cases r with
      | ex d μ1 =>
        cases ee
        exact fun cls dd2 H1 ι1 x1 m1 r1 => p cls dd2 σ H1 ι1 x1 m1 (sr.mono x1.w) r1
      | ok xs μ1 =>
        rw [onL_ok] at ee
        split at ee
        · rename_i hl
          cases ee
          intro vs H1 ι1 x1 m1 r1
          have rr : RpL (g.b B) H1 ι1 (xs ++ dd) (vs ++ dvs) := r1.append (hdd _ _ _)
          rw [hfl] at hl
          have lv : (vs ++ dvs).length = 1 := by rw [← rr.length, hl]; rfl
          obtain ⟨y, hy⟩ := List.length_eq_one_iff.mp lv
          refine ⟨by rw [List.length_append] at lv; omega, fun a na => ⟨a, y, by rw [hy], upd_same, fun dx ndx nea => ⟨rfl, dx, [(f, y)], ?_, ?_, ?_, ?_⟩⟩⟩
          · exact upd_same
          · rw [upd_ne nea]; exact upd_same
          · rwa [upd_ne nea] at ndx
          · rw [upd_ne nea] at ndx
            rw [upd_back na nea]
            have nx : Nx [] H1 ι1 (upd H1 dx (.xd [(f, y)])) ι1 := Nx.laid ndx
            refine p _ _ σ _ ι1 (x1.trans nx) (m1.laid ndx) ((sr.mono x1.w).mono nx.w) ⟨j, xs ++ dd, C, rfl, hcl, rfl, .inl ⟨dx, [(f, y)], [y], rfl, ⟨m1.fresh ndx, m1.freshB ndx, upd_same⟩, fun f2 => ?_, ?_, ?_⟩⟩
            · show _ = ((g.flds j).zip [y]).lookup f2
              rw [hfl2]; rfl
            · show _ = (g.flds j).length
              rw [hfl2]; rfl
            · rw [hy] at rr
              exact rr.mono nx.w
        · cases ee
end
end Mn
end
section
namespace Mn
open PySem PySem.Spec PyProof.Rows L2
section
variable {X : Cx}
def tMk0 (C : Addr) (sp : Sp) (dvs : List V) : L2.St → Hp → XK → Prop := fun σ H Q => dvs.length ≤ 1000 ∧ ∀ a, H a = none → sp (.ref a :: dvs) (upd H a (exo a C none))
  (fun v H2 => v = .non ∧ ∃ (d : Addr) (fs : List (Str × V)), H2 a = some (exo a C (some d)) ∧ H2 d = some (exd d fs) ∧ H d = none ∧ Q (.ref C) (some d) (upd (del H2 a) d (.xd fs))) (fun _ _ _ => False)
theorem pmk_0 {CX : CXT} {x : Str} {C fI : Addr} {k : Nat} {fd : FuncData} {ps : List Str} {sp : Sp} {ds : List Value} {dvs : List V} {p pos : Pos} (T : OexC X.K C) (iC : PySem.W.findIn X.K (.ref C) "__init__" = some (some (.ref fI))) (tI : PySem.W.typeIn X.K (.ref fI) = some (.type "function"))
    (F1 : FnOk X.prog X.w X.K X.mg X.base CX k fI fd ps sp) (room : Room (k + 1) X.A) (bi : Binds X.K fd ps ds) (rd0 : Vals dvs ds) (hx : Passes CX X (fun _ _ _ => False)) (hg : Gl X x) (hm : X.mg x = some (.ref C))
    (hdb : (x == ("__debug__" : Str)) = false := by decide) : PMk X (.Call (.Name x p) [] [] pos) (tMk0 C sp dvs) := by
  intro pins s σ H Q I h
  obtain ⟨nm, q, N, bs, bm, sn, sub, ab, col, dd, k0, k1, k2, k3, k5, hC, hbm⟩ := T.cls
  refine wpAny_Call_Name_kw (ld_glob I hg hm ?_ hdb)
  refine PySem.W.callWith_K0 I.kIn T.kC ?_
  show wpAny _ _ (call (.ref C) []) _ _ _
  obtain ⟨h0, g, dr, tk, os⟩ := s
  obtain ⟨hz, q1⟩ := h
  have le1 : h0.objs.size ≤ h0.objs.size + 1 := Nat.le_succ _
  have hq := q1 (h0.objs.size + 1) (I.hok.fresh le1)
  have keep : ∀ b o, h0.get? b = some o → ((h0.push (PySem.W.kdv_tup [])).push (PySem.HandSPX.excO C h0.objs.size)).get? b = some o := fun b o e => Heap.get?_push_of_some _ (Heap.get?_push_of_some _ e)
  have at1 : ((h0.push (PySem.W.kdv_tup [])).push (PySem.HandSPX.excO C h0.objs.size)).get? (h0.objs.size + 1) = some (PySem.HandSPX.excO C h0.objs.size) := by heap_get
  have I2 : Inv X pins σ (upd H (h0.objs.size + 1) (exo (h0.objs.size + 1) C none)) ⟨(h0.push (PySem.W.kdv_tup [])).push (PySem.HandSPX.excO C h0.objs.size), g, dr, tk, os⟩ := I.laid (t' := tk) keep le1 (exo_ok at1)
  have r2 : Vals (V.ref (h0.objs.size + 1) :: dvs) (Value.ref (h0.objs.size + 1) :: ds) := .cons rfl rd0
  have hl : (Value.ref (h0.objs.size + 1) :: ds).length = ps.length := by rw [← r2.length]; exact F1.len _ _ _ _ hq
  refine wpAny_call (PySem.HandSPX.call_own F.excBase_ValueError (fun Y => PySem.HandSPX.refsVE_contains Y bm hbm) (I.kIn _ _ hC) (PySem.W.looks_findIn I.kIn iC) (fun self => PySem.W.bind_fn I.kIn self tI) (by simp) (codeAny_mono (F1.run _ X.stack _ _ ⟨[Value.ref (h0.objs.size + 1)], []⟩ (Value.ref (h0.objs.size + 1) :: ds) _ _ (fun _ _ _ => False) (room.make C [] []) (I2.env0.make C [] []) (bi _ [Value.ref (h0.objs.size + 1)] I2.kIn hl) r2 hq) fun r s2 hr => ?_))
  cases r with
  | error er => exact hx pins σ _ _ er s2 I2 hr
  | ok fl =>
    cases fl with
    | ret u =>
      obtain ⟨v, H2, os2, bare2, un2, hok2, rv, rfl, d, fs, ea, ed, hd1, q2⟩ := hr
      obtain ⟨h2, g2, d2, t2, os3⟩ := s2
      exact ⟨rv, mk_end (raises_own T.exC T.tyC) I le1 keep un2 hok2 os2 bare2 ea ed hd1 q2⟩
    | next => exact False.elim hr
    | brk => exact False.elim hr
    | cont => exact False.elim hr
variable {γ : Gam} {g : G} {W : WX} {F : Nat}
theorem m_raise0 {x f : Str} {C fI : Addr} {k j : Nat} {fd : FuncData} {ps : List Str} {ds : List Value} {dv : V} {d0 : D} {p p2 pos : Pos} (c : CtxE g W X) (hcl : g.cls j = some C) (hfl : γ.flds j = [f]) (hfl2 : g.flds j = [f])
    (T : OexC X.K C) (iC : PySem.W.findIn X.K (.ref C) "__init__" = some (some (.ref fI))) (tI : PySem.W.typeIn X.K (.ref fI) = some (.type "function"))
    (F1 : FnOk X.prog X.w X.K X.mg X.base (L2.CX X.prog X.w) k fI fd ps (spI1 C f)) (hr : Room (k + 1) X.A) (hb : L2.Binds X.K fd ps ds) (hd : Vals [dv] ds) (hdd : ∀ g H ι, Rp g H ι d0 dv) (hg : Gl X x) (hm : X.mg x = some (.ref C))
    (hdb : (x == ("__debug__" : Str)) = false := by decide) :
    Ms γ F g W X (.Raise (some (.Call (.Name x p) [] [] pos)) none p2) (.raise j .nil [d0]) :=
  ps_to (ps_raise c.calm c.tk (pmk_0 T iC tI F1 hr hb hd (passes_call c.tk fun _ _ _ _ z => z.elim) hg hm hdb)) fun D' σ H h => by
    obtain ⟨B, ι, μ, sl, o, mr, sr, ee, p⟩ := h
    simp only [evS, evEs, onL_ok, List.nil_append] at ee
    rw [if_pos (by rw [hfl]; rfl)] at ee
    cases ee
    refine ⟨by simp, fun a na => ⟨a, dv, rfl, upd_same, fun dx ndx nea => ⟨rfl, dx, [(f, dv)], upd_same, ?_, ?_, ?_⟩⟩⟩
    · rw [upd_ne nea]; exact upd_same
    · rwa [upd_ne nea] at ndx
    · rw [upd_ne nea] at ndx
      rw [upd_back na nea]
      have nx : Nx [] H ι (upd H dx (.xd [(f, dv)])) ι := Nx.laid ndx
      refine p _ _ σ _ ι nx (mr.laid ndx) (sr.mono nx.w) ⟨j, [d0], C, rfl, hcl, rfl, .inl ⟨dx, [(f, dv)], [dv], rfl, ⟨mr.fresh ndx, mr.freshB ndx, upd_same⟩, fun f2 => ?_, ?_, .cons (hdd _ _ _) .nil⟩⟩
      · show _ = ((g.flds j).zip [dv]).lookup f2
        rw [hfl2]; rfl
      · show _ = (g.flds j).length
        rw [hfl2]; rfl
theorem init1_body {x0 f f2 : Str} {C0 : Addr} {z : Str} {j : Nat} {p1 p2 p3 p4 p5 p6 p7 p8 p9 p10 : Pos} {vs : List V} {H : Hp} {Q : VK} {E : XK} {C : Addr} {pl : Sem Bool} (hN : X.N = [("self" : Str), f2]) (v0 : Vis X.env.scope "self") (v1 : Vis X.env.scope f2)
    (hg : Gl X x0) (hm : X.mg x0 = some (.ref C0)) (sp : PySem.W.specialIn X.K (.ref C0) "__getattribute__" = some (some (.builtin "type.__getattribute__"))) (hr : PySem.W.readsIn X.K C0 (.type "type") = true)
    (fi : PySem.W.findCls X.K (.ref C0) (.type "type") "__init__" = some (.val (.builtin "ValueError.__init__"))) (T : OexC X.K C) (hno : PySem.W.findIn X.K (.ref C) f = some none) (hdb : (x0 == ("__debug__" : Str)) = false) (hd2 : (f2 == ("__debug__" : Str)) = false) (hcd2 : (f2 == ("__classdict__" : Str)) = false)
    (h : spI1 C f vs H Q E)
    (hc : eval (.Call (.Attribute (.Name x0 p1) "__init__" p2) [.Name "self" p3, .Constant (.str z) j p4] [] p5) X.env = (do
      let ov ← eval (.Name x0 p1) X.env
      standAt p2.atName
      let (f, first) ← holding [ov] (getMethod ov "__init__" pl)
      callWith p5 f first (backTo p5 (starEach [.Name "self" p3, .Constant (.str z) j p4] X.env)) (backToKw p5 (keywordEach [] X.env))) := by rfl)
    (hs1 : swapsWith (.Call (.Attribute (.Name x0 p1) "__init__" p2) [.Name "self" p3, .Constant (.str z) j p4] [] p5) none p6.line X.env = pure false := by rfl)
    (hs2 : swapsWith (.Name f2 p9) (some (.Attribute (.Name "self" p7) f p8)) p10.line X.env = pure false := by rfl) :
    ∃ t, PSs X [.Expr (.Call (.Attribute (.Name x0 p1) "__init__" p2) [.Name "self" p3, .Constant (.str z) j p4] [] p5) p6, .Assign [.Attribute (.Name "self" p7) f p8] (.Name f2 p9) p10] t ∧ t { nx := fun _ H' => Q .non H', rt := Q } (L2.start [("self" : Str), f2] vs) H := by
  obtain ⟨a, y, rfl, ha, hq⟩ := h
  refine ⟨_, pss_cons (ps_expr (pe_oinit hg hm sp hr fi (pa_cons (pe_var (i := 0) (by rw [hN]; rfl) v0) (pa_cons pe_str pa_nil)) hdb hc) hs1) (pss_one (ps_ost (pe_var (i := 0) (by rw [hN]; rfl) v0) (pe_var (i := 1) (by rw [hN]; rfl) v1 hd2 hcd2) hs2)), ?_⟩
  exact ⟨.ref a, rfl, a, C, [.str z], rfl, by simp, T, ha, y, rfl, .ref a, rfl, a, C, rfl, T, hno, .inl ⟨ha, hq⟩⟩
end

def ThOk (g : G) (B : List Addr) (H : Hp) (ι : List Addr) (th : Mem → Option (R D)) (tl : XK → Hp → VK → Prop) : Prop :=
  ∀ (E : XK) (H' : Hp) (ι' : List Addr) (μ : Mem) (r : R D) (Q : VK), Nx [] H ι H' ι' → MR (g.b B) H' ι' μ → th μ = some r →
    (match r with
      | .ok d μ' => ∀ v H2 ι2, Nx [] H' ι' H2 ι2 → MR (g.b B) H2 ι2 μ' → Rp (g.b B) H2 ι2 d v → Q v H2
      | .ex x μ' => ∀ cls dd H2 ι2, Nx [] H' ι' H2 ι2 → MR (g.b B) H2 ι2 μ' → XRp (g.b B) H2 ι2 x cls dd → E cls dd H2) → tl E H' Q
def TTm (g : G) (ψ : (Mem → Option (R D)) → Mem → Option (D × Mem)) : (XK → Hp → VK → Prop) → Hp → VK → Prop := fun tl H Q =>
  ∃ B ι μ th d μ', MR (g.b B) H ι μ ∧ ThOk g B H ι th tl ∧ ψ th μ = some (d, μ') ∧ ∀ v H' ι', Nx [] H ι H' ι' → MR (g.b B) H' ι' μ' → Rp (g.b B) H' ι' d v → Q v H'
section
variable {X : Cx} {γ : Gam} {g : G} {W : WX}
theorem m_told {j : Nat} {ψ : (Mem → Option (R D)) → Mem → Option (D × Mem)} {x a : Str} {gf c P : Addr} {k : Nat} {pg : Arguments} {bg : List Stmt} {sg : Scope} {dV kV doc pm cdv ct oc : Value} {an od : Option Addr} {osl : Array (Option Value)} {Ng : List Str}
    {params : Arguments} {body : Expr} {scope : Scope} {t : E} {p lpos pos : Pos} (cx : CtxE g W X) (hψ : γ.told j = ψ) (hg : Gl X x) (hm : X.mg x = some (.ref gf)) (hk : PySem.W.keepIn X.K (.ref gf) = true)
    (lk : X.K.lookup gf = some ⟨oc, od, .func (PySem.W.fnOf x x pg bg sg dV kV doc pm an cdv ct), osl⟩) (hcg : PySem.W.codeIn X.K cdv x = true) (hb : L2.Binds X.K (PySem.W.fnOf x x pg bg sg dV kV doc pm an cdv ct) [a] []) (Sg : FnScope Ng [a] sg) (hNg : Ng[0]? = some a) (hva : Vis sg a)
    (hG : LamX.GivesTo X Ng x sg gf cdv bg a (X.env.qual ++ "<lambda>") (TTm g ψ))
    (TB : LamX.TabB X.base X.mg c P) (hcode : X.env.code = .ref c) (hmT : (P, X.env.qual ++ "<lambda>") ∈ g.T) (hu : ∀ p ∈ g.T, p.1 = P → p.2 = X.env.qual ++ "<lambda>") (hr : Room (k + 2) X.A) (L : LamX.LamS X.env.scope scope) (hdef : defaultsOf params X.env = ([], []))
    (hbind : ∀ (q : Str) (cl : List (Str × Addr)) (pm cv ctv : Value), bindArgs (PySem.W.kla_fn "<lambda>" q params body scope cl pm cv ctv) ⟨[], []⟩ = pure [])
    (hbody : ∀ (W' : WX) (A : Around) (outer : List Env) (s : Shared) (H : Hp) (E : XK) (f c' : Addr), CtxE g W' (LamX.lamCx X A outer s H E scope f c') → Room k (A.deeper (LamX.lamEnv X scope s.heap.objs.size f c')) → Me γ g W' (LamX.lamCx X A outer s H E scope f c') body t)
    (hdb : (x == ("__debug__" : Str)) = false := by decide) (hd : (a == ("__debug__" : Str)) = false := by decide) (hcd : (a == ("__classdict__" : Str)) = false := by decide) :
    Me γ g W X (.Call (.Name x p) [.Lambda params body scope lpos] [] pos) (.told j t) :=
  pe_to (LamX.pe_lamcall (t := fun E => rd g (fun cls d _ H => E cls d H) (evE γ t)) hg hm hk lk hcg hb Sg hNg hva hG TB hcode hmT hu hr L hdef hbind (fun A outer s H E f c' hr2 =>
    hbody (fun cls d _ H => E cls d H) A outer s H E f c' ⟨cx.K, cx.nd, rfl, by
      have := hr2.un
      show (A.deeper _).units + 65 < cLine
      omega, takes_of rfl rfl rfl rfl⟩ hr2) hdb hd hcd) fun σ H Q h => by
    obtain ⟨B, ι, μ, sl, ds, r, m, sr, hd0, e, p⟩ := h
    simp only [evE, hψ] at e
    rw [Option.map_eq_some_iff] at e
    obtain ⟨⟨d, μ2⟩, e, rfl⟩ := e
    refine ⟨m.tabs, fun H1 ex T1 => ?_⟩
    have nx : Nx [] H ι H1 ι := ⟨fun b o _ _ nt hb => ex b o hb nt, fun b o hb nt => ⟨o, ex b o hb nt, nt⟩, [], by simp, fun _ z => nomatch z⟩
    have m1 : MR (g.b B) H1 ι μ := by
      refine ⟨m.len, m.nd, fun n o b h1 h2 => ?_, T1, fun b hb => ?_⟩
      · have r := m.at_ n o b h1 h2
        obtain ⟨u, hu, pu⟩ := r.plain
        exact r.mono nx.w (by rw [hu]; exact ex b u hu pu.nt)
      · obtain ⟨⟨o, e1, n1⟩, q⟩ := m.busy b hb
        exact ⟨⟨o, ex b o e1 n1, n1⟩, q⟩
    refine ⟨B, ι, μ, evE γ t sl, d, μ2, m1, fun E H2 ι2 μ3 r3 Q3 x2 m2 e3 p3 => ?_, e, fun v H2 ι2 x2 m2 r2 => p v H2 ι2 (nx.trans x2) m2 r2⟩
    refine ⟨B, ι2, μ3, sl, [], r3, m2, (sr.mono nx.w).mono x2.w, .nil, e3, ?_⟩
    cases r3 with
    | ok d3 μ4 => exact p3
    | ex d3 μ4 => exact p3
end
end Mn
end
section
namespace Mn
open PySem PySem.Spec PyProof.Rows L2
def toldM (γ : Gam) (F : Nat) (b : Ss) (k : Nat) (th : Mem → Option (R D)) (μ : Mem) : Option (D × Mem) := match th μ with
  | some (.ok d μ1) => match evSs γ F b [none, some .non, some (.lst [d]), none] μ1 with
    | some (.rt d2 μ2) => some (d2, μ2)
    | _ => none
  | some (.ex (.exc e fs) μ1) => if γ.sub e k then (match evSs γ F b [none, some (.exc e fs), none, none] μ1 with
    | some (.rt d2 μ2) => some (d2, μ2)
    | _ => none) else none
  | _ => none
section
variable {X : Cx} {γ : Gam} {g : G} {F : Nat}
theorem gives_A {a x xc y1 y2 n q : Str} {sg : Scope} {gf : Addr} {cdg cv : Value} {k : Nat} {b : Ss} {rest : List Stmt} {r1 r2 r3 r4 r5 r6 p1 p2 p3 p4 p5 p6 p7 p8 np pos pos' pos1 : Pos} {kt k2 j0 : Nat} (cx : CtxE g W0 X)
    (S : FnScope [a, y1, y2, n] [a] sg) (v1 : sg.names.lookup y1 = some .local) (v2 : sg.names.lookup y2 = some .local) (v3 : sg.names.lookup n = some .local)
    (hge : sg.names.lookup xc = some .globalImplicit) (hme : X.mg xc = some cv) (hde : (xc == ("__debug__" : Str)) = false) (hd : (n == ("__debug__" : Str)) = false) (hcd : (n == ("__classdict__" : Str)) = false)
    (hsub : ∀ e C, g.cls e = some C → PySem.W.exmOne g.K (.ref C) cv = some (γ.sub e k))
    (hsw : ∀ env : Env, env.scope = sg → env.scope.kind = .function → swappedStores [.Tuple [.Name y1 r1, .Name y2 r2] kt r3] (.Tuple [.Constant .none j0 r4, .List [] r5] k2 r6) env = pure (some [y1, y2]))
    (hrest : ∀ (cd : Value) (s : Shared) (H : Hp), CtxS g W0 (cxOf C8.CX0 X.prog X.w X.K X.mg X.base [a, y1, y2, n] x sg gf cd X.A X.stack s H C8.E0).nox → Mss γ F g W0 (cxOf C8.CX0 X.prog X.w X.K X.mg X.base [a, y1, y2, n] x sg gf cd X.A X.stack s H C8.E0).nox rest b) (hu : X.A.units + 100 < cLine) :
    LamX.GivesTo X [a, y1, y2, n] x sg gf cdg (.Assign [.Tuple [.Name y1 r1, .Name y2 r2] kt r3] (.Tuple [.Constant .none j0 r4, .List [] r5] k2 r6) pos1 ::
      .Try [.Assign [.Name y2 p1] (.List [.Call (.Name a p2) [] [] p3] p4) p5] [.ExceptHandler (some (.Name xc np)) (some n) [.Assign [.Name y1 p6] (.Name n p7) p8] pos'] [] [] pos :: rest) a q (TTm g (toldM γ F b k)) := by
  intro f c' s H Q tl act hc h
  obtain ⟨B, ι, μ, th, d, μ', m, tho, e, p⟩ := h
  have cs : CtxS g W0 (cxOf C8.CX0 X.prog X.w X.K X.mg X.base [a, y1, y2, n] x sg gf cdg X.A X.stack s H C8.E0).nox := ⟨⟨cx.K, S.nd, rfl, by
    show X.A.units + 3 + 65 < cLine
    omega, LamX.takes0⟩, PassesOwn.never⟩
  have hs2 := hsw (cxOf C8.CX0 X.prog X.w X.K X.mg X.base [a, y1, y2, n] x sg gf cdg X.A X.stack s H C8.E0).nox.env rfl S.kind
  have tryR := ps_try_keep (X := (cxOf C8.CX0 X.prog X.w X.K X.mg X.base [a, y1, y2, n] x sg gf cdg X.A X.stack s H C8.E0).nox) (c := cv) (i := 3) (n := n) (x := xc) (np := np) (pos := pos) (pos' := pos') (Wout := W0)
    (body := [.Assign [.Name y2 p1] (.List [.Call (.Name a p2) [] [] p3] p4) p5]) (b₀ := .Assign [.Name y1 p6] (.Name n p7) p8) (suite := [])
    (tb := fun W' D' σ' H' => ∃ Ech : XK, (∀ cls d σ2 H2, Ech cls d H2 → W' cls d σ2 H2) ∧ tAsg (tLst (tCons (fun σZ HZ Q => σZ[0]? = some (some (.ref f)) ∧ HZ c' = some (LamX.CodeO c' q) ∧ tl Ech HZ Q) tNil)) (gName 2) D' σ' H')
    (ts := tAsg (tVar 3) (gName 1)) rfl rfl rfl S.nd rfl v3 ⟨hge, hde, .inl hme⟩ LamX.takes0 (fun W' pn xe tk own => ?_) (fun a2 pn => ?_)
  · refine ⟨_, pss_cons (ps_par (i := 1) (j := 2) rfl S.nd rfl rfl (by decide) v1 v2 (pa_cons pe_non (pa_cons (pe_lst pa_nil) pa_nil)) hs2) (pss_cons tryR (hrest cdg s H cs)), ?_⟩
    refine ⟨by simp, fun p0 hp0 => ⟨.non, .ref p0, rfl, ?_⟩⟩
    have x0 : Nx [] H ι (upd H p0 (.lst [])) ι := Nx.laid hp0
    have m0 : MR (g.b B) (upd H p0 (.lst [])) ι μ := m.laid hp0
    have fin : ∀ {H2 : Hp} {ι2 : List Addr} {sl : Sl} {σ2 : Sg} {μ1 μ2 : Mem} {d2 : D}, Nx [] H ι H2 ι2 → MR (g.b B) H2 ι2 μ1 → SR (g.b B) H2 ι2 sl σ2 → evSs γ F b sl μ1 = some (.rt d2 μ2) → d2 = d → μ2 = μ' → rdS g W0 (evSs γ F b) { nx := fun _ H' => Q .non H', rt := Q } σ2 H2 := by
      intro H2 ι2 sl σ2 μ1 μ2 d2 x2 m2 s2 e2 h1 h2
      subst h1 h2
      exact ⟨B, ι2, μ1, sl, _, m2, s2, e2, fun v H3 ι3 x3 m3 r3 => p v H3 ι3 (x2.trans x3) m3 r3⟩
    cases hth : th μ with
    | none => unfold toldM at e; rw [hth] at e; cases e
    | some r =>
      unfold toldM at e
      rw [hth] at e
      have hc2 : upd H p0 (.lst []) c' = some (LamX.CodeO c' q) := by rw [upd_ne (ne_of_none hc hp0)]; exact hc
      refine ⟨fun cls dd H2 => ∀ σ2, wKeep 4 X.K cv 3 (tAsg (tVar 3) (gName 1)) W0 { nx := rdS g W0 (evSs γ F b) { nx := fun _ H' => Q .non H', rt := Q }, rt := Q } cls dd σ2 H2, fun cls dd σ2 H2 hh => hh σ2, rfl, hc2, ?_⟩
      refine tho _ _ ι μ r _ x0 m0 hth ?_
      cases r with
      | ok d0 μ1 =>
        dsimp only at e
        cases he : evSs γ F b [none, some .non, some (.lst [d0]), none] μ1 with
        | none => rw [he] at e; cases e
        | some o =>
          rw [he] at e
          cases o with
          | rt d2 μ2 =>
            have e3 := Option.some.inj e
            intro v H2 ι2 x2 m2 r2
            refine ⟨by rw [sizeLine_eq]; simp, fun p3 hp3 => ?_⟩
            have nx3 : Nx [] H2 ι2 (upd H2 p3 (.lst [v])) ι2 := Nx.laid hp3
            refine fin ((x0.trans x2).trans nx3) (m2.laid hp3) (sl := [none, some .non, some (.lst [d0]), none]) ⟨rfl, fun i dd hi => ?_⟩ he (congrArg Prod.fst e3) (congrArg Prod.snd e3)
            match i, hi with
            | 0, hi => cases hi
            | 1, hi => cases hi; exact ⟨.non, rfl, .non⟩
            | 2, hi =>
              cases hi
              exact ⟨.ref p3, rfl, .lst ⟨m2.fresh hp3, m2.freshB hp3, upd_same⟩ (.cons (r2.mono nx3.w) .nil)⟩
            | 3, hi => cases hi
            | i + 4, hi => simp at hi
          | _ => cases e
      | ex d0 μ1 =>
        cases d0 with
        | exc ec fs =>
          dsimp only at e
          intro cls dd H2 ι2 x2 m2 r2 σ2 hl2
          obtain ⟨c3, fs3, C, ee, hC, hcl, hr⟩ := id r2
          cases ee
          subst hcl
          rw [cx.K]
          refine ⟨γ.sub ec k, hsub _ _ hC, fun hs a2 na => ?_, fun hs => ?_⟩
          · rw [if_pos hs] at e
            cases he : evSs γ F b [none, some (.exc ec fs), none, none] μ1 with
            | none => rw [he] at e; cases e
            | some o =>
              rw [he] at e
              cases o with
              | rt d2 μ2 =>
                have e3 := Option.some.inj e
                have nx : Nx [] H2 ι2 (upd H2 a2 (KeepO a2 (.ref C) dd)) ι2 := Nx.laid na
                have fx : Fix (g.b B) (upd H2 a2 (KeepO a2 (.ref C) dd)) ι2 a2 (ExV a2 C dd) := ⟨m2.fresh na, m2.freshB na, upd_same⟩
                have rx : Rp (g.b B) (upd H2 a2 (KeepO a2 (.ref C) dd)) ι2 (.exc ec fs) (.ref a2) := by
                  rcases hr with ⟨d, fv, vs, rfl, h2, h3, h4, h5⟩ | ⟨rfl, rfl, h3⟩
                  · exact .exc hC fx (nx.w.fix h2 fun _ z => nomatch z) h3 h4 (h5.mono nx.w)
                  · exact .exc0 hC fx h3
                refine ⟨.ref a2, List.getElem?_set_self (by omega), ?_⟩
                refine fin ((x0.trans x2).trans nx) (m2.laid na) (sl := [none, some (.exc ec fs), none, none]) ⟨by simp [hl2], fun i dd2 hi => ?_⟩ he (congrArg Prod.fst e3) (congrArg Prod.snd e3)
                match i, hi with
                | 0, hi => cases hi
                | 1, hi =>
                  cases hi
                  refine ⟨.ref a2, ?_, rx⟩
                  rw [List.getElem?_set_ne (by decide), List.getElem?_set_self (by simp [hl2])]
                | 2, hi => cases hi
                | 3, hi => cases hi
                | i + 4, hi => simp at hi
              | _ => cases e
          · rw [if_neg (by rw [hs]; decide)] at e
            cases e
        | _ => cases e
  · refine ⟨fun pins s' σ' H' D' I h' => ?_⟩
    obtain ⟨Ech, hW, h1⟩ := h'
    have hp := act W' pn xe Ech p2 p3 tk hW
    exact (pss_one (ps_set (i := 2) S.nd rfl (.inl v2) (pe_lst (pa_cons hp pa_nil)))).run pins s' σ' H' D' I h1
  · exact pss_one (ps_set (i := 1) S.nd rfl (.inl v1) (pe_var (i := 3) rfl (.inl v3) hd hcd))
end
end Mn
end
section
namespace Mn
open PySem PySem.Spec PyProof.Rows L2
def oexB (K : Frg) (C : Addr) : Bool := match K.lookup C with
  | some ⟨.type "type", _, .cls cd, sl⟩ => (match cd.mro, sl.toList with
    | .ref C2 :: bm, [_, _, _, _, some (.builtin n), _] => decide (C2 = C) && (decide (n = "ValueError.__new__") && (!cd.hasDel && (cd.hasDict && PySem.HandSPX.refsVE bm)))
    | _, _ => false)
  | _ => false
theorem oexB_ok {K : Frg} {C : Addr} (h : oexB K C = true) : ∃ nm q N bs bm sn sub ab col dd k0 k1 k2 k3 k5, K.lookup C = some (excClassObj nm q C N bs bm true sn sub ab col dd k0 k1 k2 k3 k5 "ValueError.__new__") ∧ PySem.HandSPX.refsVE bm = true := by
  unfold oexB at h
  split at h
  · rename_i dd cd sl hl
    split at h
    · rename_i C2 bm k0 k1 k2 k3 n k5 hm hs
      simp only [Bool.and_eq_true, decide_eq_true_eq, Bool.not_eq_true'] at h
      obtain ⟨rfl, rfl, hdel, hdc, hr⟩ := h
      obtain ⟨nm, bs, mro, ns, qn, hd, sn, sub, ab, col, del⟩ := cd
      dsimp only at hm hdel hdc
      subst hm hdel hdc
      have e : sl = #[k0, k1, k2, k3, some (.builtin "ValueError.__new__"), k5] := by
        obtain ⟨l⟩ := sl
        simp only at hs
        rw [hs]
      subst e
      exact ⟨nm, qn, ns, bs, bm, sn, sub, ab, col, dd, k0, k1, k2, k3, k5, hl, hr⟩
    · cases h
  · cases h
def clsB (K : Frg) (C B : Addr) (fI : Addr) (fs : List Str) : Bool :=
  oexB K C && (decide (PySem.W.findIn K (.ref C) "__setattr__" = some (some (.builtin "object.__setattr__"))) && (decide (PySem.W.subIn K (.ref C) (.type "BaseException") = some true) && (decide (PySem.W.typeIn K (.ref C) = some (.type "type")) && (PySem.W.keepIn K (.ref C) &&
  (decide (PySem.W.findIn K (.ref C) "__init__" = some (some (.ref fI))) && (decide (PySem.W.typeIn K (.ref fI) = some (.type "function")) && (xfB K C && ((fs.all fun f => decide (PySem.W.findIn K (.ref C) f = some none)) &&
  ((PySem.W.clsIn K C).isSome && (decide (PySem.W.findIn K (.ref C) "__class__" = some (some (.builtin "object.__class__"))) && (decide (PySem.W.specialIn K (.builtin "object.__class__") "__get__" = some (some (.builtin "getset_descriptor.__get__"))) &&
  (decide (PySem.W.takesIn K (.builtin "object.__class__") = some true) && (decide (PySem.W.mroIn K C (.type "object") = some true) &&
  (decide (PySem.W.specialIn K (.ref B) "__getattribute__" = some (some (.builtin "type.__getattribute__"))) && (PySem.W.readsIn K B (.type "type") && (match PySem.W.findCls K (.ref B) (.type "type") "__init__" with
    | some (.val (.builtin n)) => decide (n = "ValueError.__init__")
    | _ => false))))))))))))))))
structure ClsF (K : Frg) (C B fI : Addr) (fs : List Str) : Prop where
  ox : OexC K C
  ini : PySem.W.findIn K (.ref C) "__init__" = some (some (.ref fI))
  ity : PySem.W.typeIn K (.ref fI) = some (.type "function")
  xf : XfC K C
  no : ∀ f ∈ fs, PySem.W.findIn K (.ref C) f = some none
  ek : ExcK K C
  sp : PySem.W.specialIn K (.ref B) "__getattribute__" = some (some (.builtin "type.__getattribute__"))
  rd : PySem.W.readsIn K B (.type "type") = true
  fi : PySem.W.findCls K (.ref B) (.type "type") "__init__" = some (.val (.builtin "ValueError.__init__"))
theorem clsB_ok {K : Frg} {C B fI : Addr} {fs : List Str} (h : clsB K C B fI fs = true) : ClsF K C B fI fs := by
  unfold clsB at h
  simp only [Bool.and_eq_true, decide_eq_true_eq, List.all_eq_true] at h
  obtain ⟨h1, h2, h3, h4, h5, h6, h7, h8, h9, h10, h11, h12, h13, h14, h15, h16, h17⟩ := h
  have x := xfB_ok h8
  refine ⟨⟨oexB_ok h1, h2, h3, h4, h5⟩, h6, h7, x, h9, ⟨h10, x.ga, x.gg, h3, h11, h12, h13, h14⟩, h15, h16, ?_⟩
  split at h17
  · rename_i n q
    rw [q, of_decide_eq_true h17]
  · cases h17
theorem law_true {g : G} {K : Frg} {φ : List D → Mem → Option (R D)} {cs : List (Addr × Addr)} {n : Nat} {q : Str} (hK : g.K = K) (hB : g.B = []) (hT : ∀ p ∈ g.T, ∃ c ∈ cs, c.2 = p.1)
    (hφ : ∀ ns : List Int, ns.length ≤ n → ∃ μ, φ [.kls (ns.map .int)] [] = some (.ok (.bl true) μ)) :
    ∀ (H : Hp) (a : Addr) (ns : List Int), ns.length ≤ n → (∀ z ∈ ns, Builtin.Int.intBits z ≤ 1048576) → (∀ p ∈ cs, H p.2 = some (.tbl #[])) → SqL K H a (ns.map V.int) → spM g φ [.ref a] H (fun v _ => v = .bl true) fun _ _ _ => False := by
  intro H a ns hn hbt hH hS
  obtain ⟨μ, e⟩ := hφ ns hn
  have rints : ∀ G0 : G, RpL G0 H [] (ns.map D.int) (ns.map V.int) := fun G0 => by
    clear hn hS e hbt
    induction ns with
    | nil => exact .nil
    | cons x xs ih => exact .cons (.int x) ih
  have m : MR (g.b []) H [] [] := ⟨rfl, List.nodup_nil, fun n o a h => by simp at h, fun p hp => by
    obtain ⟨c, hc, ec⟩ := hT p hp
    rw [← ec]
    exact LamX.TabS.nil (hH c hc), fun b hb => nomatch hb⟩
  have fin : ∀ {v : V}, Rp (g.b []) H [] (.kls (ns.map D.int)) v → spM g φ [v] H (fun v _ => v = .bl true) fun _ _ _ => False := fun r =>
    ⟨[], [], [], _, _, m, .cons r .nil, e, fun v H2 ι2 _ _ r2 => by cases r2; rfl⟩
  rcases hS with (h | ⟨o, h⟩) | h
  · exact fin (.klp ⟨by simp, by simp, h⟩ (rints _))
  · exact fin (.kfz ⟨by simp, by simp, h⟩ (rints _))
  · exact fin (.kkk (hK ▸ h) (rints _))
section
open He
def asM (g : Addr → Option Obj) (n : Nat) : List Addr := asD g n ++ [cStatics]
abbrev KM (g : Addr → Option Obj) (n : Nat) : Frg := frT g (asM g n)
def obsM (n : Nat) (fa : List Fa) (fn : List DefD) (tf : List Defn) (ex : Frg → Bool) (g : Addr → Option Obj) : AlX := (obsT fa fn [] (KM g n), ex (KM g n) && tabsB g tf (KM g n))
theorem saysM {n : Nat} {fa : List Fa} {fn : List DefD} {tf : List Defn} {ex : Frg → Bool} {w : World} {h : Heap} (e : obsM n fa fn tf ex h.get? = valX fn [] w) : SaysX fa fn [] tf ex w h (KM h.get? n) := by
  have ea : obsT fa fn [] (KM h.get? n) = valT fn [] w := congrArg (fun z : AlX => z.1) e
  have eb : (ex (KM h.get? n) && tabsB h.get? tf (KM h.get? n)) = true := congrArg (fun z : AlX => z.2) e
  obtain ⟨eb1, eb2⟩ := ba eb
  have each : ∀ p ∈ tf, PySem.W.codeHdIn (KM h.get? n) (cT (KM h.get? n) p).1 (cT (KM h.get? n) p).2 = true ∧ ∃ o, h.get? (cT (KM h.get? n) p).2 = some o ∧ emptyTab o = true := fun p hp => by
    obtain ⟨q1, q2⟩ := ba (List.all_eq_true.mp eb2 p hp)
    refine ⟨q1, ?_⟩
    split at q2
    · rename_i o eo
      exact ⟨o, eo, q2⟩
    · cases q2
  refine ⟨ea, eb1, fun p hp => (each p hp).1, fun p hp => ?_, fun p hp => ?_⟩
  · obtain ⟨_, o, q, z⟩ := each p hp
    exact frT_none q z
  · obtain ⟨_, o, q, z⟩ := each p hp
    rw [q, emptyTab_eq z]
def hookM (n : Nat) (fa : List Fa) (fn : List DefD) (tf : List Defn) (ex : Frg → Bool) : PySem.W.Hook where
  α := AlX
  obs := fun s => obsM n fa fn tf ex s.heap.get?
  val := fun w => valX fn [] w
  says := fun w h => ∃ K : Frg, K.In h ∧ SaysX fa fn [] tf ex w h K
  of := fun _ _ e => ⟨_, frT_in, saysM e⟩
  keeps := fun _ _ _ ⟨K, hK, c⟩ k => ⟨K, PySem.W.Frag.In.keeps hK k, ⟨c.t, c.more, c.hd, c.out, fun p hp => k _ _ (c.empty p hp)⟩⟩
theorem obsM_eq {n : Nat} {fa : List Fa} {fn : List DefD} {tf : List Defn} {ex : Frg → Bool} {g : Addr → Option Obj} {s : Shared} (h : ∀ a, g a = s.heap.get? a) : obsM n fa fn tf ex g = (hookM n fa fn tf ex).obs s := by
  have e : g = s.heap.get? := funext h
  rw [e] <;> rfl
end
end Mn
end
section
namespace Mn
open PySem PySem.Spec PyProof.Rows L2
abbrev Wf (μ : Mem) : Prop := μ.all (lowOb μ.length) = true
theorem cutM_self {μ : Mem} (h : Wf μ) : cutM μ.length μ = some μ := by
  unfold cutM
  rw [List.take_length, if_pos h]
theorem cutM_app {μ ν : Mem} (h : Wf μ) : cutM μ.length (μ ++ ν) = some μ := by
  unfold cutM
  rw [List.take_left, if_pos h]
theorem frz_low {μ : Mem} {k f : Nat} {d : D} (h : lowD k d = true) : frzD μ k f d = some d := by
  cases f <;> (unfold frzD; rw [if_pos h])
theorem frz_int {μ : Mem} {k f : Nat} {i : Int} : frzD μ k f (.int i) = some (.int i) := frz_low rfl
theorem fnD_rt {γ : Gam} {F : List D → Mem → Nat} {np n : Nat} {b : Ss} {ds : List D} {μ ν : Mem} {d : D} (hl : ds.length = np) (w : Wf μ) (hd : lowD μ.length d = true) (e : evSs γ (F ds μ) b (ds.map some ++ List.replicate (n - ds.length) none) μ = some (.rt d (μ ++ ν))) :
    fnD γ F np n b ds μ = some (.ok d μ) := by
  unfold fnD
  rw [if_pos hl, e]
  simp only [cutM_app w, Option.bind_some, frz_low hd, Option.map_some]
theorem fnD_rt0 {γ : Gam} {F : List D → Mem → Nat} {np n : Nat} {b : Ss} {ds : List D} {μ : Mem} {d : D} (hl : ds.length = np) (w : Wf μ) (hd : lowD μ.length d = true) (e : evSs γ (F ds μ) b (ds.map some ++ List.replicate (n - ds.length) none) μ = some (.rt d μ)) :
    fnD γ F np n b ds μ = some (.ok d μ) := fnD_rt (ν := []) hl w hd (by rw [List.append_nil]; exact e)
theorem fnD_nx0 {γ : Gam} {F : List D → Mem → Nat} {np n : Nat} {b : Ss} {ds : List D} {μ : Mem} {sl : Sl} (hl : ds.length = np) (w : Wf μ) (e : evSs γ (F ds μ) b (ds.map some ++ List.replicate (n - ds.length) none) μ = some (.nx sl μ)) :
    fnD γ F np n b ds μ = some (.ok .non μ) := by
  unfold fnD
  rw [if_pos hl, e]
  simp only [cutM_self w, Option.map_some]
theorem fnD_ex0 {γ : Gam} {F : List D → Mem → Nat} {np n : Nat} {b : Ss} {ds : List D} {μ : Mem} {sl : Sl} {d : D} (hl : ds.length = np) (w : Wf μ) (hd : lowD μ.length d = true) (e : evSs γ (F ds μ) b (ds.map some ++ List.replicate (n - ds.length) none) μ = some (.ex d sl μ)) :
    fnD γ F np n b ds μ = some (.ex d μ) := by
  unfold fnD
  rw [if_pos hl, e]
  simp only [cutM_self w, Option.bind_some, if_pos hd]
theorem forGo_inv {f : D → Sl → Mem → Option O} (I : Nat → Sl → Mem → Prop) : ∀ (xs : List D) (k : Nat) (sl : Sl) (μ : Mem), I k sl μ →
    (∀ (i : Nat) (x : D) (sl : Sl) (μ : Mem), xs[i]? = some x → I (k + i) sl μ → ∃ sl2 μ2, f x sl μ = some (.nx sl2 μ2) ∧ I (k + i + 1) sl2 μ2) → ∃ sl2 μ2, forGo f xs sl μ = some (.nx sl2 μ2) ∧ I (k + xs.length) sl2 μ2
  | [], k, sl, μ, h0, _ => ⟨sl, μ, rfl, h0⟩
  | x :: xs, k, sl, μ, h0, h => by
    obtain ⟨sl1, μ1, e1, h1⟩ := h 0 x sl μ rfl h0
    obtain ⟨sl2, μ2, e2, h2⟩ := forGo_inv I xs (k + 1) sl1 μ1 h1 fun i y s m hy hi => by
      have := h (i + 1) y s m (by simpa using hy) (by rwa [show k + (i + 1) = k + 1 + i by omega])
      rwa [show k + (i + 1) + 1 = k + 1 + i + 1 by omega] at this
    refine ⟨sl2, μ2, ?_, by rwa [show k + (x :: xs).length = k + 1 + xs.length by simp; omega]⟩
    simp only [forGo, e1]
    exact e2
theorem goL_inv {f : D → List D → Mem → Option (List D × Mem)} (I : Nat → List D → Mem → Prop) : ∀ (xs : List D) (k : Nat) (acc : List D) (μ : Mem), I k acc μ →
    (∀ (i : Nat) (x : D) (acc : List D) (μ : Mem), xs[i]? = some x → I (k + i) acc μ → ∃ acc2 μ2, f x acc μ = some (acc2, μ2) ∧ I (k + i + 1) acc2 μ2) → ∃ acc2 μ2, goL f xs acc μ = some (acc2, μ2) ∧ I (k + xs.length) acc2 μ2
  | [], k, acc, μ, h0, _ => ⟨acc, μ, rfl, h0⟩
  | x :: xs, k, acc, μ, h0, h => by
    obtain ⟨a1, μ1, e1, h1⟩ := h 0 x acc μ rfl h0
    obtain ⟨a2, μ2, e2, h2⟩ := goL_inv I xs (k + 1) a1 μ1 h1 fun i y s m hy hi => by
      have := h (i + 1) y s m (by simpa using hy) (by rwa [show k + (i + 1) = k + 1 + i by omega])
      rwa [show k + (i + 1) + 1 = k + 1 + i + 1 by omega] at this
    refine ⟨a2, μ2, ?_, by rwa [show k + (x :: xs).length = k + 1 + xs.length by simp; omega]⟩
    simp only [goL, e1]
    exact e2
theorem goL_map {f : D → List D → Mem → Option (List D × Mem)} {h : D → D} {μ : Mem} : ∀ (xs acc : List D), acc.length + xs.length ≤ sizeLine → (∀ x ∈ xs, ∀ acc, acc.length < sizeLine → f x acc μ = some (acc ++ [h x], μ)) → goL f xs acc μ = some (acc ++ xs.map h, μ)
  | [], acc, _, _ => by simp [goL]
  | x :: xs, acc, hl, hf => by
    simp only [goL, hf x List.mem_cons_self acc (by simp at hl; omega)]
    rw [goL_map xs (acc ++ [h x]) (by simp at hl ⊢; omega) fun y hy => hf y (List.mem_cons_of_mem _ hy)]
    simp
theorem mulOkL {i j : Int} (h : -(2 ^ 64) < i ∧ i < 2 ^ 64) : mulOk i j = true := by
  unfold mulOk
  rw [decide_eq_true h]
  rfl
theorem mulOkR {i j : Int} (h : -(2 ^ 64) < j ∧ j < 2 ^ 64) : mulOk i j = true := by
  unfold mulOk
  rw [decide_eq_true h, Bool.or_true]
  rfl
theorem divOk_of {j : Int} (h : 0 < j) (h2 : j < 2 ^ 64) : divOk j = true := by
  unfold divOk
  simp only [Bool.and_eq_true, decide_eq_true_eq]
  refine ⟨h, ?_⟩
  have : j.natAbs < 2 ^ 64 := by omega
  have h3 : j.natAbs.log2 < 64 := by
    rw [Nat.log2_lt (by omega)]
    exact this
  omega
theorem fnD_rtf {γ : Gam} {F : List D → Mem → Nat} {np n : Nat} {b : Ss} {ds : List D} {μ μ1 μ2 : Mem} {d d2 : D} (hl : ds.length = np) (e : evSs γ (F ds μ) b (ds.map some ++ List.replicate (n - ds.length) none) μ = some (.rt d μ1)) (hc : cutM μ.length μ1 = some μ2) (hf : frzD μ1 μ.length 4 d = some d2) :
    fnD γ F np n b ds μ = some (.ok d2 μ2) := by
  unfold fnD
  rw [if_pos hl, e]
  simp only [hc, Option.bind_some, hf, Option.map_some]
theorem frz_all {μ : Mem} {k f : Nat} : ∀ {ds : List D}, lowL k ds = true → ds.mapM (frzD μ k f) = some ds
  | [], _ => rfl
  | d :: ds, h => by
    simp only [lowL, Bool.and_eq_true] at h
    rw [List.mapM_cons, frz_low h.1, frz_all h.2]
    rfl
theorem frz_own {μ : Mem} {k n f : Nat} {ds : List D} (h : μ[n]? = some (.lst ds)) (hk : k ≤ n) (hl : lowL k ds = true) : frzD μ k (f + 1) (.ref n) = some (.lst ds) := by
  unfold frzD
  rw [if_neg (by simp [lowD]; omega)]
  simp only [h, frz_all hl, Option.map_some]
theorem pyAll_ints : ∀ cs : List Int, pyAll (cs.map D.int) = some (cs.map PyData.int)
  | [] => rfl
  | c :: cs => by
    rw [List.map_cons, pyAll, pyAll_ints cs]
    rfl
theorem eqvAll_ints : ∀ cs ds : List Int, PyData.eqvAll (cs.map PyData.int) (ds.map PyData.int) = decide (cs = ds)
  | [], [] => rfl
  | [], _ :: _ => rfl
  | _ :: _, [] => rfl
  | c :: cs, d :: ds => by
    rw [List.map_cons, List.map_cons, PyData.eqvAll, eqvAll_ints cs ds]
    by_cases h : c = d
    · subst h
      by_cases h2 : cs = ds
      · simp [h2, PyData.eqv]
      · simp [h2, PyData.eqv]
    · simp [h, PyData.eqv]
theorem lay_ints : ∀ cs : List Int, PyData.canLayAll0 (cs.map PyData.int) = true ∧ PyData.depthAll (cs.map PyData.int) = 0
  | [] => ⟨rfl, rfl⟩
  | c :: cs => by
    obtain ⟨h1, h2⟩ := lay_ints cs
    refine ⟨?_, ?_⟩
    · rw [List.map_cons, PyData.canLayAll0, h1]; rfl
    · rw [List.map_cons, PyData.depthAll, h2]; rfl
theorem shaped_ints (cs : List Int) : SeqAt.shaped (.list (cs.map PyData.int)) = true := by
  obtain ⟨h1, h2⟩ := lay_ints cs
  unfold SeqAt.shaped
  rw [PyData.canLay0, PyData.depth, h1, h2]
  rfl
theorem eqD_ints {μ : Mem} {x y : D} {cs ds : List Int} (h1 : seqL μ x = some (cs.map .int)) (h2 : seqL μ y = some (ds.map .int)) : eqD μ x y = some (decide (cs = ds)) := by
  unfold eqD pyR
  rw [h1, h2]
  simp only [pyAll_ints, Option.map_some, Option.bind_some, shaped_ints, Bool.and_self, if_true]
  rw [PyData.eqv, eqvAll_ints]
theorem fnK_rt {γ : Gam} {F : List D → Mem → Nat} {np n : Nat} {b : Ss} {ds : List D} {μ μ1 : Mem} {d : D} (hl : ds.length = np) (e : evSs γ (F ds μ) b (ds.map some ++ List.replicate (n - ds.length) none) μ = some (.rt d μ1)) :
    fnK γ F np n b ds μ = some (.ok d μ1) := by
  unfold fnK
  rw [if_pos hl, e]
theorem evI_range1 {γ : Gam} {e : E} {sl : Sl} {μ μ1 : Mem} {i : Int} {ds : List D} (h : evE γ e sl μ = some (.ok (.int i) μ1)) (hr : rangeD 0 i = some ds) : evI γ (.range .no (.some e)) sl μ = some (.ok ds μ1) := by
  simp only [evI, evEo, bind_ok, h, asI_int, Option.bind_some, Option.getD_none, hr, pureR_some]
theorem evI_range2 {γ : Gam} {e e2 : E} {sl : Sl} {μ μ1 μ2 : Mem} {i j : Int} {ds : List D} (h : evE γ e sl μ = some (.ok (.int i) μ1)) (h2 : evE γ e2 sl μ1 = some (.ok (.int j) μ2)) (hr : rangeD i j = some ds) : evI γ (.range (.some e) (.some e2)) sl μ = some (.ok ds μ2) := by
  simp only [evI, evEo, bind_ok, h, h2, asI_int, Option.bind_some, Option.getD_some, hr, pureR_some]
theorem rangeD_is {i j : Int} {n : Nat} (h : (j - i).toNat = n) (h1 : -(2 ^ 62) ≤ i) (h2 : i < 2 ^ 62) (h3 : -(2 ^ 62) ≤ j) (h4 : j < 2 ^ 62) : rangeD i j = some ((List.range n).map fun (k : Nat) => .int (i + (k : Int))) := by
  subst h
  unfold rangeD
  rw [if_pos ⟨h1, h2, h3, h4⟩]
theorem fnD_rtC {γ : Gam} {c np n : Nat} {b : Ss} {ds : List D} {μ : Mem} {d : D} {sl : Sl} (hl : ds.length = np) (hs : ds.map some ++ List.replicate (n - ds.length) none = sl) (w : Wf μ) (hd : lowD μ.length d = true) (e : evSs γ c b sl μ = some (.rt d μ)) :
    fnD γ (fun _ _ => c) np n b ds μ = some (.ok d μ) := by
  subst hs
  exact fnD_rt0 hl w hd e
end Mn
end
section
namespace Mn
open PySem PySem.Spec PyProof.Rows L2
theorem forGo_exc {f : D → Sl → Mem → Option O} (I : Nat → Sl → Mem → Prop) : ∀ (xs : List D) (j : Nat) (sl : Sl) (μ : Mem) (k : Nat) (e : D), I j sl μ → k < xs.length →
    (∀ (i : Nat) (x : D) (sl : Sl) (μ : Mem), i < k → xs[i]? = some x → I (j + i) sl μ → ∃ sl2 μ2, f x sl μ = some (.nx sl2 μ2) ∧ I (j + i + 1) sl2 μ2) →
    (∀ (x : D) (sl : Sl) (μ : Mem), xs[k]? = some x → I (j + k) sl μ → ∃ sl2, f x sl μ = some (.ex e sl2 μ)) → ∃ sl2 μ2, forGo f xs sl μ = some (.ex e sl2 μ2) ∧ ∃ sl3, I (j + k) sl3 μ2
  | [], _, _, _, k, _, _, hk, _, _ => by simp at hk
  | x :: xs, j, sl, μ, 0, e, h0, _, _, hx => by
    obtain ⟨sl2, h2⟩ := hx x sl μ rfl h0
    refine ⟨sl2, μ, ?_, sl, h0⟩
    simp only [forGo, h2]
  | x :: xs, j, sl, μ, k + 1, e, h0, hk, hg, hx => by
    obtain ⟨sl1, μ1, e1, h1⟩ := hg 0 x sl μ (by omega) rfl h0
    obtain ⟨sl2, μ2, e2, sl3, h3⟩ := forGo_exc I xs (j + 1) sl1 μ1 k e h1 (by simpa using hk)
      (fun i y s m hi hy hI => by
        have := hg (i + 1) y s m (by omega) (by simpa using hy) (by rwa [show j + (i + 1) = j + 1 + i by omega])
        rwa [show j + (i + 1) + 1 = j + 1 + i + 1 by omega] at this)
      (fun y s m hy hI => hx y s m (by simpa using hy) (by rwa [show j + (k + 1) = j + 1 + k by omega]))
    refine ⟨sl2, μ2, ?_, sl3, by rwa [show j + (k + 1) = j + 1 + k by omega]⟩
    simp only [forGo, e1]
    exact e2
end Mn
end
section
namespace Mn
open PySem PySem.Spec PyProof.Rows L2
@[irreducible] def WR {α : Type} (r : Option (R α)) (Q : α → Mem → Prop) (X : D → Mem → Prop) : Prop := match r with
  | some (.ok a μ) => Q a μ
  | some (.ex x μ) => X x μ
  | none => False
@[irreducible] def WO (o : Option O) (Q : O → Prop) : Prop := match o with
  | some o => Q o
  | none => False
@[irreducible] def OW {α : Type} (o : Option α) (Q : α → Prop) : Prop := match o with
  | some a => Q a
  | none => False
@[irreducible] def binX (op : Bop) (x y : D) : Option D := binD op x y
@[irreducible] def cmpX (μ : Mem) (op : Cop) (x y : D) : Option Bool := cmpD μ op x y
@[irreducible] def bltX (μ : Mem) (b : Blt) (xs : List D) : Option D := bltD μ b xs
@[irreducible] def augX (op : Bop) (x y : D) : Option D := augD op x y
@[irreducible] def idxX (μ : Mem) (x y : D) : Option D := idxD μ x y
@[irreducible] def slcX (μ : Mem) (d : D) (lo hi : Option Int) : Option D := slcD μ d lo hi
@[irreducible] def revX (μ : Mem) (d : D) : Option D := revD μ d
@[irreducible] def setX (μ : Mem) (d i v : D) : Option Mem := setIxD μ d i v
@[irreducible] def appX (μ : Mem) (d v : D) : Option Mem := appD μ d v
@[irreducible] def itX (d : D) : Option (List D) := itD d
@[irreducible] def isiX (μ : Mem) (d : D) (t : Ty) : Option Bool := isiD μ d t
@[irreducible] def isoX (sub : Nat → Nat → Bool) (d : D) (c : Nat) : Option D := isoD sub d c
@[irreducible] def asgX (tg : Tg) (d : D) (sl : Sl) : Option Sl := asgTg tg d sl
@[irreducible] def seqX (μ : Mem) (d : D) : Option (List D) := seqC μ d
@[irreducible] def zipX (d e : D) : Option (List D) := zipD2 d e
@[irreducible] def fldX (ns : List Str) (c : Nat) (f : Str) (d : D) : Option D := fldD ns c f d
@[irreducible] def AsB (d : D) (Q : Bool → Prop) : Prop := match d with
  | .bl b => Q b
  | _ => False
@[irreducible] def AsI (d : D) (Q : Int → Prop) : Prop := match d with
  | .int b => Q b
  | _ => False
abbrev NoX : D → Mem → Prop := fun _ _ => False
theorem ow_some {α : Type} {a : α} {Q : α → Prop} (h : Q a) : OW (some a) Q := by with_unfolding_all exact h
theorem wo_some {a : O} {Q : O → Prop} (h : Q a) : WO (some a) Q := by with_unfolding_all exact h
theorem asI_e {b : Int} {Q : Int → Prop} (h : AsI (.int b) Q) : Q b := by with_unfolding_all exact h
theorem pw_i {α : Type} {o : Option α} {a : α} {Q : α → Prop} (e : o = some a) (h : Q a) : OW o Q := by with_unfolding_all rw [e]; exact h
theorem bin_i {op : Bop} {x y a : D} {Q : D → Prop} (e : binD op x y = some a) (h : Q a) : OW (binX op x y) Q := by with_unfolding_all exact pw_i e h
theorem cmp_i {μ : Mem} {op : Cop} {x y : D} {a : Bool} {Q : Bool → Prop} (e : cmpD μ op x y = some a) (h : Q a) : OW (cmpX μ op x y) Q := by with_unfolding_all exact pw_i e h
theorem blt_i {μ : Mem} {b : Blt} {xs : List D} {a : D} {Q : D → Prop} (e : bltD μ b xs = some a) (h : Q a) : OW (bltX μ b xs) Q := by with_unfolding_all exact pw_i e h
theorem aug_i {op : Bop} {x y a : D} {Q : D → Prop} (e : augD op x y = some a) (h : Q a) : OW (augX op x y) Q := by with_unfolding_all exact pw_i e h
theorem idx_i {μ : Mem} {x y a : D} {Q : D → Prop} (e : idxD μ x y = some a) (h : Q a) : OW (idxX μ x y) Q := by with_unfolding_all exact pw_i e h
theorem slc_i {μ : Mem} {x a : D} {l r : Option Int} {Q : D → Prop} (e : slcD μ x l r = some a) (h : Q a) : OW (slcX μ x l r) Q := by with_unfolding_all exact pw_i e h
theorem rev_i {μ : Mem} {x a : D} {Q : D → Prop} (e : revD μ x = some a) (h : Q a) : OW (revX μ x) Q := by with_unfolding_all exact pw_i e h
theorem set_i {μ ν : Mem} {x y z : D} {Q : Mem → Prop} (e : setIxD μ x y z = some ν) (h : Q ν) : OW (setX μ x y z) Q := by with_unfolding_all exact pw_i e h
theorem app_i {μ ν : Mem} {x y : D} {Q : Mem → Prop} (e : appD μ x y = some ν) (h : Q ν) : OW (appX μ x y) Q := by with_unfolding_all exact pw_i e h
theorem it_i {x : D} {a : List D} {Q : List D → Prop} (e : itD x = some a) (h : Q a) : OW (itX x) Q := by with_unfolding_all exact pw_i e h
theorem isi_i {μ : Mem} {x : D} {t : Ty} {a : Bool} {Q : Bool → Prop} (e : isiD μ x t = some a) (h : Q a) : OW (isiX μ x t) Q := by with_unfolding_all exact pw_i e h
theorem iso_i {sub : Nat → Nat → Bool} {x a : D} {c : Nat} {Q : D → Prop} (e : isoD sub x c = some a) (h : Q a) : OW (isoX sub x c) Q := by with_unfolding_all exact pw_i e h
theorem asg_i {tg : Tg} {x : D} {sl a : Sl} {Q : Sl → Prop} (e : asgTg tg x sl = some a) (h : Q a) : OW (asgX tg x sl) Q := by with_unfolding_all exact pw_i e h
theorem seq_i {μ : Mem} {x : D} {a : List D} {Q : List D → Prop} (e : seqC μ x = some a) (h : Q a) : OW (seqX μ x) Q := by with_unfolding_all exact pw_i e h
theorem zip_i {x y : D} {a : List D} {Q : List D → Prop} (e : zipD2 x y = some a) (h : Q a) : OW (zipX x y) Q := by with_unfolding_all exact pw_i e h
theorem fld_i {ns : List Str} {c : Nat} {f : Str} {x a : D} {Q : D → Prop} (e : fldD ns c f x = some a) (h : Q a) : OW (fldX ns c f x) Q := by with_unfolding_all exact pw_i e h
theorem it_t {xs : List D} {Q : List D → Prop} (h : Q xs) : OW (itX (.tup xs)) Q := it_i rfl h
theorem it_l {xs : List D} {Q : List D → Prop} (h : Q xs) : OW (itX (.lst xs)) Q := it_i rfl h
theorem it_k {xs : List D} {Q : List D → Prop} (h : Q xs) : OW (itX (.kls xs)) Q := it_i rfl h
theorem seq_l {μ : Mem} {xs : List D} {Q : List D → Prop} (h : Q xs) : OW (seqX μ (.lst xs)) Q := seq_i rfl h
theorem rev_t {μ : Mem} {xs : List D} {Q : D → Prop} (h : Q (.tup xs.reverse)) : OW (revX μ (.tup xs)) Q := rev_i rfl h
theorem rev_l {μ : Mem} {xs : List D} {Q : D → Prop} (h : Q (.lst xs.reverse)) : OW (revX μ (.lst xs)) Q := rev_i rfl h
theorem asB_i {b : Bool} {Q : Bool → Prop} (h : Q b) : AsB (.bl b) Q := by with_unfolding_all exact h
theorem asI_i {b : Int} {Q : Int → Prop} (h : Q b) : AsI (.int b) Q := by with_unfolding_all exact h
theorem pw_e {α : Type} {o : Option α} {Q : α → Prop} (h : OW o Q) : ∃ a, o = some a ∧ Q a := by with_unfolding_all
  cases o with
  | none => exact h.elim
  | some a => exact ⟨a, rfl, h⟩
theorem pw_map {α β : Type} {o : Option α} {f : α → β} {Q : β → Prop} (h : OW o fun a => Q (f a)) : OW (o.map f) Q := by with_unfolding_all
  cases o with
  | none => exact h.elim
  | some a => exact h
theorem pw_bind {α β : Type} {o : Option α} {f : α → Option β} {Q : β → Prop} (h : OW o fun a => OW (f a) Q) : OW (o.bind f) Q := by with_unfolding_all
  cases o with
  | none => exact h.elim
  | some a => exact h
theorem pw_if {α : Type} {p : Prop} [Decidable p] {a : α} {Q : α → Prop} (hp : p) (h : Q a) : OW (if p then some a else none) Q := by with_unfolding_all rw [if_pos hp]; exact h
theorem wo_i {o : Option O} {a : O} {Q : O → Prop} (e : o = some a) (h : Q a) : WO o Q := by with_unfolding_all rw [e]; exact h
theorem wo_e {o : Option O} {Q : O → Prop} (h : WO o Q) : ∃ a, o = some a ∧ Q a := by with_unfolding_all
  cases o with
  | none => exact h.elim
  | some a => exact ⟨a, rfl, h⟩
theorem WO.mono {o : Option O} {Q Q' : O → Prop} (h : WO o Q) (i : ∀ o, Q o → Q' o) : WO o Q' := by with_unfolding_all
  cases o with
  | none => exact h.elim
  | some a => exact i _ h
theorem wr_ok {α : Type} {r : Option (R α)} {a : α} {μ : Mem} {Q : α → Mem → Prop} {X : D → Mem → Prop} (e : r = some (.ok a μ)) (h : Q a μ) : WR r Q X := by with_unfolding_all rw [e]; exact h
theorem wr_ex {α : Type} {r : Option (R α)} {a : D} {μ : Mem} {Q : α → Mem → Prop} {X : D → Mem → Prop} (e : r = some (.ex a μ)) (h : X a μ) : WR r Q X := by with_unfolding_all rw [e]; exact h
theorem WR.mono {α : Type} {r : Option (R α)} {Q Q' : α → Mem → Prop} {X X' : D → Mem → Prop} (h : WR r Q X) (i : ∀ a μ, Q a μ → Q' a μ) (j : ∀ a μ, X a μ → X' a μ) : WR r Q' X' := by with_unfolding_all
  match r, h with
  | some (.ok a μ), h => exact i _ _ h
  | some (.ex a μ), h => exact j _ _ h
  | none, h => exact False.elim h
theorem wr_e {α : Type} {r : Option (R α)} {Q : α → Mem → Prop} (h : WR r Q NoX) : ∃ a μ, r = some (.ok a μ) ∧ Q a μ := by with_unfolding_all
  match r, h with
  | some (.ok a μ), h => exact ⟨a, μ, rfl, h⟩
  | some (.ex a μ), h => exact False.elim h
  | none, h => exact False.elim h
theorem wr_bind {α β : Type} {r : Option (R α)} {k : α → Mem → Option (R β)} {Q : β → Mem → Prop} {X : D → Mem → Prop} (h : WR r (fun a μ => WR (k a μ) Q X) X) : WR (R.bind r k) Q X := by with_unfolding_all
  match r, h with
  | some (.ok a μ), h => exact h
  | some (.ex a μ), h => exact h
  | none, h => exact False.elim h
theorem wr_pure {α : Type} {o : Option α} {μ : Mem} {Q : α → Mem → Prop} {X : D → Mem → Prop} (h : OW o fun a => Q a μ) : WR (pureR o μ) Q X := by with_unfolding_all
  cases o with
  | none => exact h.elim
  | some a => exact h
theorem wr_asB {α : Type} {d : D} {k : Bool → Option (R α)} {Q : α → Mem → Prop} {X : D → Mem → Prop} (h : AsB d fun b => WR (k b) Q X) : WR (asB d k) Q X := by with_unfolding_all
  cases d <;> first | exact h | exact False.elim h
theorem wr_asI {α : Type} {d : D} {k : Int → Option (R α)} {Q : α → Mem → Prop} {X : D → Mem → Prop} (h : AsI d fun b => WR (k b) Q X) : WR (asI d k) Q X := by with_unfolding_all
  cases d <;> first | exact h | exact False.elim h
theorem wr_if {α : Type} {b : Bool} {x y : Option (R α)} {Q : α → Mem → Prop} {X : D → Mem → Prop} (h1 : b = true → WR x Q X) (h2 : b = false → WR y Q X) : WR (if b then x else y) Q X := by with_unfolding_all
  cases b
  · exact h2 rfl
  · exact h1 rfl
@[irreducible] def xE (γ : Gam) (e : E) (sl : Sl) (μ : Mem) := evE γ e sl μ
@[irreducible] def xC (γ : Gam) (k : Nat) (xs : List D) (μ : Mem) := γ.fn k xs μ
@[irreducible] def xEs (γ : Gam) (e : Es) (sl : Sl) (μ : Mem) := evEs γ e sl μ
@[irreducible] def xEo (γ : Gam) (e : Eo) (sl : Sl) (μ : Mem) := evEo γ e sl μ
@[irreducible] def xKs (γ : Gam) (e : Ks) (sl : Sl) (μ : Mem) := evKs γ e sl μ
@[irreducible] def xL (γ : Gam) (e : Ls) (sl : Sl) (μ : Mem) := evL γ e sl μ
@[irreducible] def xT (γ : Gam) (e : Eo) (sl : Sl) (μ : Mem) := evT γ e sl μ
@[irreducible] def xI (γ : Gam) (e : It') (sl : Sl) (μ : Mem) := evI γ e sl μ
@[irreducible] def xS (γ : Gam) (F : Nat) (s : S) (sl : Sl) (μ : Mem) := evS γ F s sl μ
@[irreducible] def xSs (γ : Gam) (F : Nat) (s : Ss) (sl : Sl) (μ : Mem) := evSs γ F s sl μ
section
variable {γ : Gam} {sl : Sl} {μ : Mem} {X : D → Mem → Prop}
section
variable {Q : D → Mem → Prop}
theorem we_var {i : Nat} {d : D} (h : sl[i]? = some (some d)) (q : Q d μ) : WR (xE γ (.var i) sl μ) Q X := by with_unfolding_all
  simp only [xE, xEs, xEo, xKs, xL, xT, xI, xS, xSs] at *
  rw [evE, h]; exact q
theorem we_non (q : Q .non μ) : WR (xE γ .non sl μ) Q X := by with_unfolding_all simp only [xE, xEs, xEo, xKs, xL, xT, xI, xS, xSs] at *; rw [evE]; exact q
theorem we_bl {b : Bool} (q : Q (.bl b) μ) : WR (xE γ (.bl b) sl μ) Q X := by with_unfolding_all simp only [xE, xEs, xEo, xKs, xL, xT, xI, xS, xSs] at *; rw [evE]; exact q
theorem we_int {b : Int} (q : Q (.int b) μ) : WR (xE γ (.int b) sl μ) Q X := by with_unfolding_all simp only [xE, xEs, xEo, xKs, xL, xT, xI, xS, xSs] at *; rw [evE]; exact q
theorem we_str {b : Str} (q : Q (.str b) μ) : WR (xE γ (.str b) sl μ) Q X := by with_unfolding_all simp only [xE, xEs, xEo, xKs, xL, xT, xI, xS, xSs] at *; rw [evE]; exact q
theorem we_glb {k : Nat} {d : D} (h : γ.cst k = some d) (q : Q d μ) : WR (xE γ (.glb k) sl μ) Q X := by with_unfolding_all simp only [xE, xEs, xEo, xKs, xL, xT, xI, xS, xSs] at *; rw [evE, h]; exact q
theorem we_bin {op : Bop} {a b : E} (h : WR (xE γ a sl μ) (fun x μ1 => WR (xE γ b sl μ1) (fun y μ2 => OW (binX op x y) fun z => Q z μ2) X) X) : WR (xE γ (.bin op a b) sl μ) Q X := by with_unfolding_all
  simp only [xE, xEs, xEo, xKs, xL, xT, xI, xS, xSs] at *
  rw [evE]
  exact wr_bind (h.mono (fun x μ1 h => wr_bind (h.mono (fun y μ2 h => wr_pure h) fun _ _ h => h)) fun _ _ h => h)
theorem we_neg {a : E} (h : WR (xE γ a sl μ) (fun x μ1 => AsI x fun i => Q (.int (-i)) μ1) X) : WR (xE γ (.neg a) sl μ) Q X := by with_unfolding_all
  simp only [xE, xEs, xEo, xKs, xL, xT, xI, xS, xSs] at *
  rw [evE]
  exact wr_bind (h.mono (fun x μ1 h => wr_asI h) fun _ _ h => h)
theorem we_cmp {op : Cop} {a b : E} (h : WR (xE γ a sl μ) (fun x μ1 => WR (xE γ b sl μ1) (fun y μ2 => OW (cmpX μ2 op x y) fun z => Q (.bl z) μ2) X) X) : WR (xE γ (.cmp op a b) sl μ) Q X := by with_unfolding_all
  simp only [xE, xEs, xEo, xKs, xL, xT, xI, xS, xSs] at *
  rw [evE]
  exact wr_bind (h.mono (fun x μ1 h => wr_bind (h.mono (fun y μ2 h => wr_pure (pw_map h)) fun _ _ h => h)) fun _ _ h => h)
theorem we_chain {op op2 : Cop} {a b c : E} (h : WR (xE γ a sl μ) (fun x μ1 => WR (xE γ b sl μ1) (fun y μ2 => OW (cmpX μ2 op x y) fun z => (z = true → WR (xE γ c sl μ2) (fun w μ3 => OW (cmpX μ3 op2 y w) fun z2 => Q (.bl z2) μ3) X) ∧ (z = false → Q (.bl false) μ2)) X) X) : WR (xE γ (.chain op op2 a b c) sl μ) Q X := by with_unfolding_all
  simp only [xE, xEs, xEo, xKs, xL, xT, xI, xS, xSs] at *
  rw [evE]
  refine wr_bind (h.mono (fun x μ1 h => wr_bind (h.mono (fun y μ2 h => wr_bind (wr_pure ?_)) fun _ _ h => h)) fun _ _ h => h)
  obtain ⟨z, e, h1, h2⟩ := pw_e h
  exact pw_i e (wr_if (fun e1 => wr_bind ((h1 e1).mono (fun w μ3 h => wr_pure (pw_map h)) fun _ _ h => h)) h2)
theorem we_and {a b : E} (h : WR (xE γ a sl μ) (fun x μ1 => AsB x fun k => (k = true → WR (xE γ b sl μ1) Q X) ∧ (k = false → Q (.bl false) μ1)) X) : WR (xE γ (.and a b) sl μ) Q X := by with_unfolding_all
  simp only [xE, xEs, xEo, xKs, xL, xT, xI, xS, xSs] at *
  rw [evE]
  refine wr_bind (h.mono (fun x μ1 h => ?_) fun _ _ h => h)
  cases x <;> try exact False.elim h
  exact wr_if h.1 h.2
theorem we_or {a b : E} (h : WR (xE γ a sl μ) (fun x μ1 => AsB x fun k => (k = true → Q (.bl true) μ1) ∧ (k = false → WR (xE γ b sl μ1) Q X)) X) : WR (xE γ (.or a b) sl μ) Q X := by with_unfolding_all
  simp only [xE, xEs, xEo, xKs, xL, xT, xI, xS, xSs] at *
  rw [evE]
  refine wr_bind (h.mono (fun x μ1 h => ?_) fun _ _ h => h)
  cases x <;> try exact False.elim h
  exact wr_if h.1 h.2
theorem we_one {a : E} (h : WR (xE γ a sl μ) Q X) : WR (xE γ (.one a) sl μ) Q X := by with_unfolding_all simp only [xE, xEs, xEo, xKs, xL, xT, xI, xS, xSs] at *; rw [evE]; exact h
theorem we_not {a : E} (h : WR (xE γ a sl μ) (fun x μ1 => AsB x fun k => Q (.bl (!k)) μ1) X) : WR (xE γ (.not a) sl μ) Q X := by with_unfolding_all
  simp only [xE, xEs, xEo, xKs, xL, xT, xI, xS, xSs] at *
  rw [evE]
  exact wr_bind (h.mono (fun x μ1 h => wr_asB h) fun _ _ h => h)
theorem we_ifx {c a b : E} (h : WR (xE γ c sl μ) (fun x μ1 => AsB x fun k => (k = true → WR (xE γ a sl μ1) Q X) ∧ (k = false → WR (xE γ b sl μ1) Q X)) X) : WR (xE γ (.ifx c a b) sl μ) Q X := by with_unfolding_all
  simp only [xE, xEs, xEo, xKs, xL, xT, xI, xS, xSs] at *
  rw [evE]
  refine wr_bind (h.mono (fun x μ1 h => ?_) fun _ _ h => h)
  cases x <;> try exact False.elim h
  exact wr_if h.1 h.2
theorem we_tup {es : Es} (h : WR (xEs γ es sl μ) (fun xs μ1 => xs.length ≤ sizeLine ∧ Q (.tup xs) μ1) X) : WR (xE γ (.tup es) sl μ) Q X := by with_unfolding_all
  simp only [xE, xEs, xEo, xKs, xL, xT, xI, xS, xSs] at *
  rw [evE]
  refine wr_bind (h.mono (fun x μ1 h => ?_) fun _ _ h => h)
  rw [if_pos h.1]
  exact h.2
theorem we_call {k : Nat} {es : Es} (h : WR (xEs γ es sl μ) (fun xs μ1 => WR (xC γ k xs μ1) Q X) X) : WR (xE γ (.call k es) sl μ) Q X := by with_unfolding_all
  simp only [xC, xE, xEs, xEo, xKs, xL, xT, xI, xS, xSs] at *
  rw [evE]
  exact wr_bind h
theorem call_e {k : Nat} {xs : List D} {f : List D → Mem → Option (R D)} (h : WR (f xs μ) Q X) (e : γ.fn k = f) : WR (xC γ k xs μ) Q X := by subst e; with_unfolding_all exact h
theorem call_i {k : Nat} {xs : List D} (h : WR (γ.fn k xs μ) Q X) : WR (xC γ k xs μ) Q X := by with_unfolding_all exact h
theorem we_blt {b : Blt} {es : Es} (h : WR (xEs γ es sl μ) (fun xs μ1 => OW (bltX μ1 b xs) fun z => Q z μ1) X) : WR (xE γ (.blt b es) sl μ) Q X := by with_unfolding_all
  simp only [xE, xEs, xEo, xKs, xL, xT, xI, xS, xSs] at *
  rw [evE]
  exact wr_bind (h.mono (fun _ _ h => wr_pure h) fun _ _ h => h)
theorem we_isi {a : E} {t : Ty} (h : WR (xE γ a sl μ) (fun x μ1 => OW (isiX μ1 x t) fun z => Q (.bl z) μ1) X) : WR (xE γ (.isi a t) sl μ) Q X := by with_unfolding_all
  simp only [xE, xEs, xEo, xKs, xL, xT, xI, xS, xSs] at *
  rw [evE]
  exact wr_bind (h.mono (fun _ _ h => wr_pure (pw_map h)) fun _ _ h => h)
theorem we_isiO {a : E} {t : Nat} (h : WR (xE γ a sl μ) (fun x μ1 => OW (isoX γ.sub x t) fun z => Q z μ1) X) : WR (xE γ (.isiO a t) sl μ) Q X := by with_unfolding_all
  simp only [xE, xEs, xEo, xKs, xL, xT, xI, xS, xSs] at *
  rw [evE]
  exact wr_bind (h.mono (fun _ _ h => wr_pure h) fun _ _ h => h)
theorem we_idx {a b : E} (h : WR (xE γ a sl μ) (fun x μ1 => WR (xE γ b sl μ1) (fun y μ2 => OW (idxX μ2 x y) fun z => Q z μ2) X) X) : WR (xE γ (.idx a b) sl μ) Q X := by with_unfolding_all
  simp only [xE, xEs, xEo, xKs, xL, xT, xI, xS, xSs] at *
  rw [evE]
  exact wr_bind (h.mono (fun x μ1 h => wr_bind (h.mono (fun y μ2 h => wr_pure h) fun _ _ h => h)) fun _ _ h => h)
theorem we_slc {a : E} {lo hi : Eo} (h : WR (xE γ a sl μ) (fun x μ1 => WR (xEo γ lo sl μ1) (fun l μ2 => WR (xEo γ hi sl μ2) (fun r μ3 => OW (slcX μ3 x l r) fun z => Q z μ3) X) X) X) : WR (xE γ (.slc a lo hi) sl μ) Q X := by with_unfolding_all
  simp only [xE, xEs, xEo, xKs, xL, xT, xI, xS, xSs] at *
  rw [evE]
  exact wr_bind (h.mono (fun x μ1 h => wr_bind (h.mono (fun y μ2 h => wr_bind (h.mono (fun _ _ h => wr_pure h) fun _ _ h => h)) fun _ _ h => h)) fun _ _ h => h)
theorem we_rev {a : E} (h : WR (xE γ a sl μ) (fun x μ1 => OW (revX μ1 x) fun z => Q z μ1) X) : WR (xE γ (.rev a) sl μ) Q X := by with_unfolding_all
  simp only [xE, xEs, xEo, xKs, xL, xT, xI, xS, xSs] at *
  rw [evE]
  exact wr_bind (h.mono (fun _ _ h => wr_pure h) fun _ _ h => h)
theorem we_val {l : Ls} (h : WR (xL γ l sl μ) (fun ds μ1 => Q (.lst ds) μ1) X) : WR (xE γ (.val l) sl μ) Q X := by with_unfolding_all
  simp only [xE, xEs, xEo, xKs, xL, xT, xI, xS, xSs] at *
  rw [evE]
  exact wr_bind h
theorem we_mk {l : Ls} (h : WR (xL γ l sl μ) (fun ds μ1 => Q (.ref μ1.length) (μ1 ++ [.lst ds])) X) : WR (xE γ (.mk l) sl μ) Q X := by with_unfolding_all
  simp only [xE, xEs, xEo, xKs, xL, xT, xI, xS, xSs] at *
  rw [evE]
  exact wr_bind h
theorem we_dict {ks : Ks} (h : WR (xKs γ ks sl μ) (fun kvs μ1 => kvs.length ≤ 15 ∧ Q (.ref μ1.length) (μ1 ++ [.dk (mergeKd kvs)])) X) : WR (xE γ (.dict ks) sl μ) Q X := by with_unfolding_all
  simp only [xE, xEs, xEo, xKs, xL, xT, xI, xS, xSs] at *
  rw [evE]
  refine wr_bind (h.mono (fun x μ1 h => ?_) fun _ _ h => h)
  rw [if_pos h.1]
  exact h.2
theorem we_dnew {t : Bool} (h : Q (.ref μ.length) (μ ++ [if t then .dt [] else .dk []])) : WR (xE γ (.dnew t) sl μ) Q X := by with_unfolding_all simp only [xE, xEs, xEo, xKs, xL, xT, xI, xS, xSs] at *; rw [evE]; exact h
theorem we_told {k : Nat} {a : E} (h : OW (γ.told k (evE γ a sl) μ) fun p => Q p.1 p.2) : WR (xE γ (.told k a) sl μ) Q X := by with_unfolding_all
  simp only [xE, xEs, xEo, xKs, xL, xT, xI, xS, xSs] at *
  rw [evE]
  obtain ⟨p, e, h⟩ := pw_e h
  rw [e]
  exact h
theorem we_fld {a : E} {c : Nat} {f : Str} (h : WR (xE γ a sl μ) (fun x μ1 => OW (fldX (γ.flds c) c f x) fun z => Q z μ1) X) : WR (xE γ (.fld a c f) sl μ) Q X := by with_unfolding_all
  simp only [xE, xEs, xEo, xKs, xL, xT, xI, xS, xSs] at *
  rw [evE]
  exact wr_bind (h.mono (fun _ _ h => wr_pure h) fun _ _ h => h)
end
theorem wes_nil {Q : List D → Mem → Prop} (h : Q [] μ) : WR (xEs γ .nil sl μ) Q X := by with_unfolding_all simp only [xE, xEs, xEo, xKs, xL, xT, xI, xS, xSs] at *; rw [evEs]; exact h
theorem wes_cons {Q : List D → Mem → Prop} {e : E} {es : Es} (h : WR (xE γ e sl μ) (fun x μ1 => WR (xEs γ es sl μ1) (fun xs μ2 => Q (x :: xs) μ2) X) X) : WR (xEs γ (.cons e es) sl μ) Q X := by with_unfolding_all
  simp only [xE, xEs, xEo, xKs, xL, xT, xI, xS, xSs] at *
  rw [evEs]
  exact wr_bind (h.mono (fun _ _ h => wr_bind h) fun _ _ h => h)
theorem weo_no {Q : Option Int → Mem → Prop} (h : Q none μ) : WR (xEo γ .no sl μ) Q X := by with_unfolding_all simp only [xE, xEs, xEo, xKs, xL, xT, xI, xS, xSs] at *; rw [evEo]; exact h
theorem weo_some {Q : Option Int → Mem → Prop} {e : E} (h : WR (xE γ e sl μ) (fun x μ1 => AsI x fun i => Q (some i) μ1) X) : WR (xEo γ (.some e) sl μ) Q X := by with_unfolding_all
  simp only [xE, xEs, xEo, xKs, xL, xT, xI, xS, xSs] at *
  rw [evEo]
  exact wr_bind (h.mono (fun _ _ h => wr_asI h) fun _ _ h => h)
theorem wk_nil {Q : List (Key × D) → Mem → Prop} (h : Q [] μ) : WR (xKs γ .nil sl μ) Q X := by with_unfolding_all simp only [xE, xEs, xEo, xKs, xL, xT, xI, xS, xSs] at *; rw [evKs]; exact h
theorem wk_cons {Q : List (Key × D) → Mem → Prop} {k : Key} {e : E} {ks : Ks} (h : WR (xE γ e sl μ) (fun x μ1 => WR (xKs γ ks sl μ1) (fun xs μ2 => Q ((k, x) :: xs) μ2) X) X) : WR (xKs γ (.cons k e ks) sl μ) Q X := by with_unfolding_all
  simp only [xE, xEs, xEo, xKs, xL, xT, xI, xS, xSs] at *
  rw [evKs]
  exact wr_bind (h.mono (fun _ _ h => wr_bind h) fun _ _ h => h)
theorem wt_no {Q : Bool → Mem → Prop} (h : Q true μ) : WR (xT γ .no sl μ) Q X := by with_unfolding_all simp only [xE, xEs, xEo, xKs, xL, xT, xI, xS, xSs] at *; rw [evT]; exact h
theorem wt_some {Q : Bool → Mem → Prop} {e : E} (h : WR (xE γ e sl μ) (fun x μ1 => AsB x fun i => Q i μ1) X) : WR (xT γ (.some e) sl μ) Q X := by with_unfolding_all
  simp only [xE, xEs, xEo, xKs, xL, xT, xI, xS, xSs] at *
  rw [evT]
  exact wr_bind (h.mono (fun _ _ h => wr_asB h) fun _ _ h => h)
section
variable {Q : List D → Mem → Prop}
theorem wi_seq {a : E} (h : WR (xE γ a sl μ) (fun x μ1 => OW (itX x) fun z => Q z μ1) X) : WR (xI γ (.seq a) sl μ) Q X := by with_unfolding_all
  simp only [xE, xEs, xEo, xKs, xL, xT, xI, xS, xSs] at *
  rw [evI]
  exact wr_bind (h.mono (fun _ _ h => wr_pure h) fun _ _ h => h)
theorem wi_enum {a : E} (h : WR (xE γ a sl μ) (fun x μ1 => OW (itX x) fun z => Q (enumD z) μ1) X) : WR (xI γ (.enum a) sl μ) Q X := by with_unfolding_all
  simp only [xE, xEs, xEo, xKs, xL, xT, xI, xS, xSs] at *
  rw [evI]
  exact wr_bind (h.mono (fun _ _ h => wr_pure (pw_map h)) fun _ _ h => h)
theorem wi_zip {a b : E} {s : Bool} (h : WR (xE γ a sl μ) (fun x μ1 => WR (xE γ b sl μ1) (fun y μ2 => OW (zipX x y) fun z => Q z μ2) X) X) : WR (xI γ (.zip a b s) sl μ) Q X := by with_unfolding_all
  simp only [xE, xEs, xEo, xKs, xL, xT, xI, xS, xSs] at *
  rw [evI]
  exact wr_bind (h.mono (fun _ _ h => wr_bind (h.mono (fun _ _ h => wr_pure h) fun _ _ h => h)) fun _ _ h => h)
def rngL (lo : Int) (n : Nat) : List D := (List.range n).map fun (k : Nat) => .int (lo + (k : Int))
theorem wi_range1 {b : E} (h : WR (xE γ b sl μ) (fun x μ1 => AsI x fun i => (-(2 ^ 62) ≤ i ∧ i < 2 ^ 62) ∧ Q (rngL 0 i.toNat) μ1) X) : WR (xI γ (.range .no (.some b)) sl μ) Q X := by with_unfolding_all
  simp only [xE, xEs, xEo, xKs, xL, xT, xI, xS, xSs] at *
  rw [evI, evEo, bind_ok, evEo]
  refine wr_bind (wr_bind (h.mono (fun x μ1 h => ?_) fun _ _ h => h))
  cases x <;> try exact False.elim h
  rename_i i
  obtain ⟨⟨h1, h2⟩, q⟩ := asI_e h
  refine wr_pure (pw_bind (pw_i rfl ?_))
  exact pw_i (rangeD_is (i := 0) (n := i.toNat) (by simp) (by decide) (by decide) h1 h2) q
theorem wi_range2 {a b : E} (h : WR (xE γ a sl μ) (fun x μ1 => AsI x fun i => WR (xE γ b sl μ1) (fun y μ2 => AsI y fun j => (-(2 ^ 62) ≤ i ∧ i < 2 ^ 62 ∧ -(2 ^ 62) ≤ j ∧ j < 2 ^ 62) ∧ Q (rngL i (j - i).toNat) μ2) X) X) : WR (xI γ (.range (.some a) (.some b)) sl μ) Q X := by with_unfolding_all
  simp only [xE, xEs, xEo, xKs, xL, xT, xI, xS, xSs] at *
  rw [evI, evEo]
  refine wr_bind (wr_bind (h.mono (fun x μ1 h => ?_) fun _ _ h => h))
  cases x <;> try exact False.elim h
  rename_i i
  dsimp only [asI_int]
  show WR (R.bind (evEo γ (.some b) sl μ1) _) _ _
  rw [evEo]
  refine wr_bind (wr_bind (WR.mono (Q := fun y μ2 => AsI y fun j => (-(2 ^ 62) ≤ i ∧ i < 2 ^ 62 ∧ -(2 ^ 62) ≤ j ∧ j < 2 ^ 62) ∧ Q (rngL i (j - i).toNat) μ2) (X := X) h (fun y μ2 h => ?_) fun _ _ h => h))
  cases y <;> try exact False.elim h
  rename_i j
  obtain ⟨⟨h1, h2, h3, h4⟩, q⟩ := asI_e h
  refine wr_pure (pw_bind (pw_i rfl ?_))
  exact pw_i (rangeD_is (n := (j - i).toNat) rfl h1 h2 h3 h4) q
@[irreducible] def WG (f : D → List D → Mem → Option (List D × Mem)) (xs acc : List D) (μ : Mem) (Q : List D → Mem → Prop) : Prop := OW (goL f xs acc μ) fun p => Q p.1 p.2
theorem wg_nil {f : D → List D → Mem → Option (List D × Mem)} {acc : List D} (h : Q acc μ) : WG f [] acc μ Q := by with_unfolding_all exact h
theorem wg_cons {f : D → List D → Mem → Option (List D × Mem)} {x : D} {xs acc : List D} (h : OW (f x acc μ) fun p => WG f xs p.1 p.2 Q) : WG f (x :: xs) acc μ Q := by with_unfolding_all
  unfold WG
  rw [goL]
  obtain ⟨p, e, h⟩ := pw_e h
  rw [e]
  exact h
theorem wg_inv {f : D → List D → Mem → Option (List D × Mem)} {xs acc : List D} (I : Nat → List D → Mem → Prop) (h0 : I 0 acc μ) (hs : ∀ (i : Nat) (x : D) (acc : List D) (μ : Mem), xs[i]? = some x → I i acc μ → OW (f x acc μ) fun p => I (i + 1) p.1 p.2) (h : ∀ acc μ, I xs.length acc μ → Q acc μ) : WG f xs acc μ Q := by with_unfolding_all
  obtain ⟨a2, μ2, e, h2⟩ := goL_inv (f := f) I xs 0 acc μ h0 fun i x a m hx hi => by
    rw [Nat.zero_add] at hi ⊢
    obtain ⟨p, e, q⟩ := pw_e (hs i x a m hx hi)
    exact ⟨p.1, p.2, e, q⟩
  rw [Nat.zero_add] at h2
  exact pw_i e (h _ _ h2)
theorem wg_map {f : D → List D → Mem → Option (List D × Mem)} {xs : List D} (g : D → D) (hl : xs.length ≤ sizeLine) (hs : ∀ x ∈ xs, ∀ acc, acc.length < sizeLine → OW (f x acc μ) fun p => p = (acc ++ [g x], μ)) (h : Q (xs.map g) μ) : WG f xs [] μ Q := by with_unfolding_all
  refine pw_i (goL_map (h := g) xs [] (by simpa using hl) fun x hx acc ha => ?_) (by simpa using h)
  obtain ⟨p, e, rfl⟩ := pw_e (hs x hx acc ha)
  exact e
theorem wg_pick {f : D → List D → Mem → Option (List D × Mem)} {xs : List D} (g : D → Option D) (hl : xs.length ≤ sizeLine) (hs : ∀ x ∈ xs, ∀ acc, acc.length < sizeLine → OW (f x acc μ) fun p => p = (acc ++ (g x).toList, μ)) (h : Q (xs.filterMap g) μ) : WG f xs [] μ Q := by with_unfolding_all
  have key : ∀ (xs acc : List D), acc.length + xs.length ≤ sizeLine → (∀ x ∈ xs, ∀ acc, acc.length < sizeLine → OW (f x acc μ) fun p => p = (acc ++ (g x).toList, μ)) → goL f xs acc μ = some (acc ++ xs.filterMap g, μ) := by
    intro xs
    induction xs with
    | nil => intro acc _ _; simp [goL]
    | cons x xs ih =>
      intro acc hl hs
      obtain ⟨p, e, rfl⟩ := pw_e (hs x List.mem_cons_self acc (by simp at hl; omega))
      have hg : (g x).toList.length ≤ 1 := by cases g x <;> simp
      rw [goL, e]
      dsimp only
      rw [ih (acc ++ (g x).toList) (by simp at hl ⊢; omega) fun y hy => hs y (List.mem_cons_of_mem _ hy)]
      rw [List.filterMap_cons, List.append_assoc]
      cases g x <;> rfl
  exact pw_i (key xs [] (by simpa using hl) hs) (by simpa using h)
theorem wel {acc : List D} {tg : Tg} {x : D} {sl0 sl2 : Sl} {c : Eo} {elt : E} {Q : List D × Mem → Prop} (ht : asgTg tg x sl0 = some sl2) (h : WR (xT γ c sl2 μ) (fun b μ1 => (b = true → WR (xE γ elt sl2 μ1) (fun d μ2 => acc.length < sizeLine ∧ Q (acc ++ [d], μ2)) NoX) ∧ (b = false → Q (acc, μ1))) NoX) :
    OW ((asgTg tg x sl0).bind fun sl2 => elS (evT γ c sl2) (evE γ elt sl2) acc μ) Q := by
  simp only [xE, xEs, xEo, xKs, xL, xT, xI, xS, xSs] at *
  rw [ht, Option.bind_some]
  obtain ⟨b, μ1, e, h1, h2⟩ := wr_e h
  unfold elS
  rw [e]
  cases b with
  | false => exact ow_some (h2 rfl)
  | true =>
    obtain ⟨d, μ2, e2, h3, h4⟩ := wr_e (h1 rfl)
    dsimp only
    rw [e2]
    dsimp only
    rw [if_pos h3]
    exact ow_some h4
theorem wl_disp {es : Es} (h : WR (xEs γ es sl μ) (fun xs μ1 => xs.length ≤ sizeLine ∧ Q xs μ1) X) : WR (xL γ (.disp es) sl μ) Q X := by with_unfolding_all
  simp only [xE, xEs, xEo, xKs, xL, xT, xI, xS, xSs] at *
  rw [evL]
  refine wr_bind (h.mono (fun x μ1 h => ?_) fun _ _ h => h)
  rw [if_pos h.1]
  exact h.2
theorem wl_comp {elt : E} {tg : Tg} {it : It'} {c : Eo} (h : WR (xI γ it sl μ) (fun xs μ1 => WG (fun x acc μ2 => (asgTg tg x (wipeS sl tg.slots)).bind fun sl2 => elS (evT γ c sl2) (evE γ elt sl2) acc μ2) xs [] μ1 Q) X) : WR (xL γ (.comp elt tg it c) sl μ) Q X := by with_unfolding_all
  simp only [xE, xEs, xEo, xKs, xL, xT, xI, xS, xSs] at *
  rw [evL]
  refine wr_bind (h.mono (fun x μ1 h => ?_) fun _ _ h => h)
  obtain ⟨p, e, h⟩ := pw_e h
  rw [e]
  exact h
theorem wl_cat {a b : E} (h : WR (xE γ a sl μ) (fun x μ1 => WR (xE γ b sl μ1) (fun y μ2 => OW (seqX μ2 x) fun xs => OW (seqX μ2 y) fun ys => xs.length + ys.length ≤ sizeLine ∧ Q (xs ++ ys) μ2) X) X) : WR (xL γ (.cat a b) sl μ) Q X := by with_unfolding_all
  simp only [xE, xEs, xEo, xKs, xL, xT, xI, xS, xSs] at *
  rw [evL]
  refine wr_bind (h.mono (fun x μ1 h => wr_bind (h.mono (fun y μ2 h => wr_pure (pw_bind ?_)) fun _ _ h => h)) fun _ _ h => h)
  obtain ⟨xs, e, h⟩ := pw_e h
  refine pw_i e (pw_bind ?_)
  obtain ⟨ys, e2, h, q⟩ := pw_e h
  exact pw_i e2 (pw_if h q)
end
@[irreducible] def sq (γ : Gam) (F : Nat) (ss : Ss) (Q : O → Prop) : O → Prop
  | .nx sl μ => WO (xSs γ F ss sl μ) Q
  | o => Q o
variable {F : Nat} {Q : O → Prop}
theorem ws_nil (h : Q (.nx sl μ)) : WO (xSs γ F .nil sl μ) Q := by with_unfolding_all simp only [xE, xEs, xEo, xKs, xL, xT, xI, xS, xSs] at *; rw [evSs]; exact h
theorem ws_cons {s : S} {ss : Ss} (h : WO (xS γ F s sl μ) (sq γ F ss Q)) : WO (xSs γ F (.cons s ss) sl μ) Q := by with_unfolding_all
  simp only [xE, xEs, xEo, xKs, xL, xT, xI, xS, xSs] at *
  rw [evSs]
  obtain ⟨o, e, h⟩ := wo_e h
  rw [e]
  cases o <;> exact h
theorem sq_nx {ss : Ss} (h : WO (xSs γ F ss sl μ) Q) : sq γ F ss Q (.nx sl μ) := by with_unfolding_all simp only [xE, xEs, xEo, xKs, xL, xT, xI, xS, xSs] at *; exact h
theorem sq_rt {ss : Ss} {d : D} (h : Q (.rt d μ)) : sq γ F ss Q (.rt d μ) := by with_unfolding_all exact h
theorem sq_ex {ss : Ss} {d : D} (h : Q (.ex d sl μ)) : sq γ F ss Q (.ex d sl μ) := by with_unfolding_all exact h
theorem sq_bk {ss : Ss} (h : Q (.bk sl μ)) : sq γ F ss Q (.bk sl μ) := by with_unfolding_all exact h
theorem sq_ct {ss : Ss} (h : Q (.ct sl μ)) : sq γ F ss Q (.ct sl μ) := by with_unfolding_all exact h
theorem wo_on {r : Option (R D)} {k : D → Mem → Option O} (h : WR r (fun d μ1 => WO (k d μ1) Q) (fun x μ1 => Q (.ex x sl μ1))) : WO (onE r sl k) Q := by with_unfolding_all
  match r, h with
  | some (.ok a μ), h => exact h
  | some (.ex a μ), h => exact h
  | none, h => exact False.elim h
theorem wo_onL {r : Option (R (List D))} {k : List D → Mem → Option O} (h : WR r (fun d μ1 => WO (k d μ1) Q) (fun x μ1 => Q (.ex x sl μ1))) : WO (onL r sl k) Q := by with_unfolding_all
  match r, h with
  | some (.ok a μ), h => exact h
  | some (.ex a μ), h => exact h
  | none, h => exact False.elim h
theorem ws_expr {e : E} (h : WR (xE γ e sl μ) (fun _ μ1 => Q (.nx sl μ1)) (fun x μ1 => Q (.ex x sl μ1))) : WO (xS γ F (.expr e) sl μ) Q := by with_unfolding_all simp only [xE, xEs, xEo, xKs, xL, xT, xI, xS, xSs] at *; rw [evS]; exact wo_on h
theorem ws_set {i : Nat} {e : E} (h : WR (xE γ e sl μ) (fun d μ1 => Q (.nx (sl.set i (some d)) μ1)) (fun x μ1 => Q (.ex x sl μ1))) : WO (xS γ F (.set i e) sl μ) Q := by with_unfolding_all simp only [xE, xEs, xEo, xKs, xL, xT, xI, xS, xSs] at *; rw [evS]; exact wo_on h
theorem ws_par {i j : Nat} {a b : E} (h : WR (xE γ a sl μ) (fun x μ1 => WR (xE γ b sl μ1) (fun y μ2 => Q (.nx ((sl.set i (some x)).set j (some y)) μ2)) (fun x μ1 => Q (.ex x sl μ1))) (fun x μ1 => Q (.ex x sl μ1))) : WO (xS γ F (.par i j a b) sl μ) Q := by with_unfolding_all
  simp only [xE, xEs, xEo, xKs, xL, xT, xI, xS, xSs] at *
  rw [evS]; exact wo_on (h.mono (fun _ _ h => wo_on h) fun _ _ h => h)
theorem ws_par3 {i j l : Nat} {a b c : E} (h : WR (xE γ a sl μ) (fun x μ1 => WR (xE γ b sl μ1) (fun y μ2 => WR (xE γ c sl μ2) (fun z μ3 => Q (.nx (((sl.set i (some x)).set j (some y)).set l (some z)) μ3)) (fun x μ1 => Q (.ex x sl μ1))) (fun x μ1 => Q (.ex x sl μ1))) (fun x μ1 => Q (.ex x sl μ1))) : WO (xS γ F (.par3 i j l a b c) sl μ) Q := by with_unfolding_all
  simp only [xE, xEs, xEo, xKs, xL, xT, xI, xS, xSs] at *
  rw [evS]; exact wo_on (h.mono (fun _ _ h => wo_on (h.mono (fun _ _ h => wo_on h) fun _ _ h => h)) fun _ _ h => h)
theorem ws_aug {op : Bop} {i : Nat} {e : E} {x : D} (hx : sl[i]? = some (some x)) (h : WR (xE γ e sl μ) (fun y μ1 => OW (augX op x y) fun z => Q (.nx (sl.set i (some z)) μ1)) (fun x μ1 => Q (.ex x sl μ1))) : WO (xS γ F (.aug op i e) sl μ) Q := by with_unfolding_all
  simp only [xE, xEs, xEo, xKs, xL, xT, xI, xS, xSs] at *
  rw [evS, hx]
  refine wo_on (h.mono (fun y μ1 h => ?_) fun _ _ h => h)
  obtain ⟨z, e, h⟩ := pw_e h
  unfold augX at e
  rw [e]
  exact h
theorem ws_setIx {a b e : E} (h : WR (xE γ e sl μ) (fun v μ1 => WR (xE γ a sl μ1) (fun x μ2 => WR (xE γ b sl μ2) (fun y μ3 => OW (setX μ3 x y v) fun μ4 => Q (.nx sl μ4)) (fun x μ1 => Q (.ex x sl μ1))) (fun x μ1 => Q (.ex x sl μ1))) (fun x μ1 => Q (.ex x sl μ1))) : WO (xS γ F (.setIx a b e) sl μ) Q := by with_unfolding_all
  simp only [xE, xEs, xEo, xKs, xL, xT, xI, xS, xSs] at *
  rw [evS]
  refine wo_on (h.mono (fun _ _ h => wo_on (h.mono (fun _ _ h => wo_on (h.mono (fun y μ1 h => ?_) fun _ _ h => h)) fun _ _ h => h)) fun _ _ h => h)
  obtain ⟨z, e, h⟩ := pw_e h
  unfold setX at e
  rw [e]
  exact h
theorem ws_app {a e : E} (h : WR (xE γ a sl μ) (fun x μ1 => lstAt μ1 x = true ∧ WR (xE γ e sl μ1) (fun v μ2 => OW (appX μ2 x v) fun μ3 => Q (.nx sl μ3)) (fun x μ1 => Q (.ex x sl μ1))) (fun x μ1 => Q (.ex x sl μ1))) : WO (xS γ F (.app a e) sl μ) Q := by with_unfolding_all
  simp only [xE, xEs, xEo, xKs, xL, xT, xI, xS, xSs] at *
  rw [evS]
  refine wo_on (h.mono (fun _ _ h => ?_) fun _ _ h => h)
  rw [if_pos h.1]
  refine wo_on (h.2.mono (fun y μ1 h => ?_) fun _ _ h => h)
  obtain ⟨z, e, h⟩ := pw_e h
  unfold appX at e
  rw [e]
  exact h
theorem ws_unp {is : List Nat} {e : E} (h : WR (xE γ e sl μ) (fun d μ1 => OW (asgX (.tup is) d sl) fun sl1 => Q (.nx sl1 μ1)) (fun x μ1 => Q (.ex x sl μ1))) : WO (xS γ F (.unp is e) sl μ) Q := by with_unfolding_all
  simp only [xE, xEs, xEo, xKs, xL, xT, xI, xS, xSs] at *
  rw [evS]
  refine wo_on (h.mono (fun _ _ h => ?_) fun _ _ h => h)
  obtain ⟨z, e, h⟩ := pw_e h
  unfold asgX at e
  rw [e]
  exact h
theorem ws_ret {e : E} (h : WR (xE γ e sl μ) (fun d μ1 => Q (.rt d μ1)) (fun x μ1 => Q (.ex x sl μ1))) : WO (xS γ F (.ret e) sl μ) Q := by with_unfolding_all simp only [xE, xEs, xEo, xKs, xL, xT, xI, xS, xSs] at *; rw [evS]; exact wo_on h
theorem ws_retN (h : Q (.rt .non μ)) : WO (xS γ F .retN sl μ) Q := by with_unfolding_all simp only [xE, xEs, xEo, xKs, xL, xT, xI, xS, xSs] at *; rw [evS]; exact h
theorem ws_pass (h : Q (.nx sl μ)) : WO (xS γ F .pass sl μ) Q := by with_unfolding_all simp only [xE, xEs, xEo, xKs, xL, xT, xI, xS, xSs] at *; rw [evS]; exact h
theorem ws_brk (h : Q (.bk sl μ)) : WO (xS γ F .brk sl μ) Q := by with_unfolding_all simp only [xE, xEs, xEo, xKs, xL, xT, xI, xS, xSs] at *; rw [evS]; exact h
theorem ws_cont (h : Q (.ct sl μ)) : WO (xS γ F .cont sl μ) Q := by with_unfolding_all simp only [xE, xEs, xEo, xKs, xL, xT, xI, xS, xSs] at *; rw [evS]; exact h
theorem ws_ite {c : E} {a b : Ss} (h : WR (xE γ c sl μ) (fun d μ1 => AsB d fun k => (k = true → WO (xSs γ F a sl μ1) Q) ∧ (k = false → WO (xSs γ F b sl μ1) Q)) (fun x μ1 => Q (.ex x sl μ1))) : WO (xS γ F (.ite c a b) sl μ) Q := by with_unfolding_all
  simp only [xE, xEs, xEo, xKs, xL, xT, xI, xS, xSs] at *
  rw [evS]
  refine wo_on (h.mono (fun d μ1 h => ?_) fun _ _ h => h)
  cases d <;> try exact False.elim h
  rename_i k
  cases k
  · exact h.2 rfl
  · exact h.1 rfl
theorem ws_raise {c : Nat} {es : Es} {dd : List D} (h : WR (xEs γ es sl μ) (fun xs μ1 => (xs ++ dd).length = (γ.flds c).length ∧ Q (.ex (.exc c (xs ++ dd)) sl μ1)) (fun x μ1 => Q (.ex x sl μ1))) : WO (xS γ F (.raise c es dd) sl μ) Q := by with_unfolding_all
  simp only [xE, xEs, xEo, xKs, xL, xT, xI, xS, xSs] at *
  rw [evS]
  refine wo_onL (h.mono (fun xs μ1 h => ?_) fun _ _ h => h)
  rw [if_pos h.1]
  exact h.2
theorem ws_tryAs {b : Ss} {c i j : Nat} (h : WO (xSs γ F b sl μ) (fun o => match o with
    | .ex (.exc e fs) sl1 μ1 => if γ.sub e c then i < sl1.length ∧ Q (.nx (((sl1.set i (some (.exc e fs))).set j (some (.exc e fs))).set i none) μ1) else Q (.ex (.exc e fs) sl1 μ1)
    | .ex _ _ _ => False
    | o => Q o)) : WO (evS γ F (.tryAs b c i j) sl μ) Q := by
  simp only [xE, xEs, xEo, xKs, xL, xT, xI, xS, xSs] at *
  rw [evS]
  obtain ⟨o, e, h⟩ := wo_e h
  rw [e]
  cases o with
  | ex x sl1 μ1 =>
    cases x <;> try exact False.elim h
    dsimp only [keepX] at h ⊢
    split at h
    · rw [if_pos (by assumption), if_pos h.1]
      exact wo_some h.2
    · rw [if_neg (by assumption)]
      exact wo_some h
  | _ => exact wo_some h
@[irreducible] def stepQ (I : Sl → Mem → Prop) (Q : O → Prop) : O → Prop
  | .nx sl μ => I sl μ
  | .ct sl μ => I sl μ
  | .bk sl μ => Q (.nx sl μ)
  | .rt d μ => Q (.rt d μ)
  | .ex e sl μ => Q (.ex e sl μ)
theorem st_nx {I : Sl → Mem → Prop} (h : I sl μ) : stepQ I Q (.nx sl μ) := by with_unfolding_all exact h
theorem st_ct {I : Sl → Mem → Prop} (h : I sl μ) : stepQ I Q (.ct sl μ) := by with_unfolding_all exact h
theorem st_bk {I : Sl → Mem → Prop} (h : Q (.nx sl μ)) : stepQ I Q (.bk sl μ) := by with_unfolding_all exact h
theorem st_rt {I : Sl → Mem → Prop} {d : D} (h : Q (.rt d μ)) : stepQ I Q (.rt d μ) := by with_unfolding_all exact h
theorem st_ex {I : Sl → Mem → Prop} {d : D} (h : Q (.ex d sl μ)) : stepQ I Q (.ex d sl μ) := by with_unfolding_all exact h
@[irreducible] def WF (f : D → Sl → Mem → Option O) (xs : List D) (sl : Sl) (μ : Mem) (Q : O → Prop) : Prop := WO (forGo f xs sl μ) Q
theorem wf_nil {f : D → Sl → Mem → Option O} (h : Q (.nx sl μ)) : WF f [] sl μ Q := by with_unfolding_all exact h
theorem wf_cons {f : D → Sl → Mem → Option O} {x : D} {xs : List D} (h : WO (f x sl μ) (stepQ (fun sl1 μ1 => WF f xs sl1 μ1 Q) Q)) : WF f (x :: xs) sl μ Q := by with_unfolding_all
  obtain ⟨o, e, h⟩ := wo_e h
  unfold WF
  rw [forGo, e]
  cases o <;> exact h
theorem wf_inv {f : D → Sl → Mem → Option O} (I : Nat → Sl → Mem → Prop) : ∀ {xs : List D} {sl : Sl} {μ : Mem}, I 0 sl μ → (∀ (i : Nat) (x : D) (sl : Sl) (μ : Mem), xs[i]? = some x → I i sl μ → WO (f x sl μ) (stepQ (I (i + 1)) Q)) → (∀ sl μ, I xs.length sl μ → Q (.nx sl μ)) → WF f xs sl μ Q := by with_unfolding_all
  intro xs
  induction xs generalizing I with
  | nil => intro sl μ h0 _ h; exact h sl μ h0
  | cons x xs ih =>
    intro sl μ h0 hs h
    refine wf_cons ((hs 0 x sl μ rfl h0).mono fun o ho => ?_)
    have go : ∀ sl1 μ1, I (0 + 1) sl1 μ1 → WF f xs sl1 μ1 Q := fun sl1 μ1 h1 => ih (fun i => I (i + 1)) h1 (fun i y s m hy hi => hs (i + 1) y s m (by simpa using hy) hi) fun s m hm => h s m hm
    cases o with
    | nx a b => exact go _ _ ho
    | ct a b => exact go _ _ ho
    | bk a b => exact ho
    | rt a b => exact ho
    | ex a b c => exact ho
theorem ws_for {tg : Tg} {it : It'} {b : Ss} (h : WR (xI γ it sl μ) (fun xs μ1 => WF (fun x sl1 μ2 => (asgTg tg x sl1).bind fun sl2 => evSs γ F b sl2 μ2) xs sl μ1 Q) (fun x μ1 => Q (.ex x sl μ1))) : WO (xS γ F (.for_ tg it b) sl μ) Q := by with_unfolding_all simp only [xE, xEs, xEo, xKs, xL, xT, xI, xS, xSs] at *; rw [evS]; exact wo_onL h
theorem wo_tg {tg : Tg} {x : D} {b : Ss} {sl2 : Sl} (ht : asgTg tg x sl = some sl2) (h : WO (xSs γ F b sl2 μ) Q) : WO ((asgTg tg x sl).bind fun sl2 => evSs γ F b sl2 μ) Q := by with_unfolding_all
  simp only [xE, xEs, xEo, xKs, xL, xT, xI, xS, xSs] at *
  rw [ht]
  exact h
theorem ws_whl {c : E} {b : Ss} (I : Nat → Sl → Mem → Prop) (n : Nat) (hn : n < F) (h0 : I n sl μ) (hs : ∀ (k : Nat) (sl : Sl) (μ : Mem), I k sl μ → WR (xE γ c sl μ) (fun d μ1 => AsB d fun t => (t = true → ∃ j, k = j + 1 ∧ WO (xSs γ F b sl μ1) (stepQ (I j) Q)) ∧ (t = false → Q (.nx sl μ1))) (fun x μ1 => Q (.ex x sl μ1))) : WO (xS γ F (.whl c b) sl μ) Q := by with_unfolding_all
  simp only [xE, xEs, xEo, xKs, xL, xT, xI, xS, xSs] at *
  rw [evS]
  have key : ∀ (m n : Nat) (sl : Sl) (μ : Mem), n < m → I n sl μ → WO (whGo (evE γ c) (evSs γ F b) m sl μ) Q := by
    intro m
    induction m with
    | zero => intro n sl μ h _; omega
    | succ m ih =>
      intro n sl μ hn h
      rw [whGo]
      refine wo_on ((hs n sl μ h).mono (fun d μ1 h => ?_) fun _ _ h => h)
      cases d <;> try exact False.elim h
      rename_i t
      cases t with
      | false => exact h.2 rfl
      | true =>
        obtain ⟨j, ek, h9⟩ := (show (true = true → _) ∧ _ from h).1 rfl
        clear h
        subst ek
        obtain ⟨o, e, h⟩ := wo_e h9
        simp only [asB_bl, if_true, e]
        cases o with
        | nx a b => exact ih j a b (by omega) h
        | ct a b => exact ih j a b (by omega) h
        | bk a b => exact h
        | rt a b => exact h
        | ex a b c => exact h
  exact key F n sl μ hn h0
@[irreducible] def finD (μ : Mem) (Q : D → Mem → Prop) (X : D → Mem → Prop) : O → Prop
  | .nx _ μ' => OW (cutM μ.length μ') fun μ2 => Q .non μ2
  | .rt d μ' => OW (cutM μ.length μ') fun μ2 => OW (frzD μ' μ.length 4 d) fun d2 => Q d2 μ2
  | .ex d _ μ' => OW (cutM μ.length μ') fun μ2 => lowD μ.length d = true ∧ X d μ2
  | _ => False
@[irreducible] def finK (Q : D → Mem → Prop) (X : D → Mem → Prop) : O → Prop
  | .nx _ μ' => Q .non μ'
  | .rt d μ' => Q d μ'
  | .ex d _ μ' => X d μ'
  | _ => False
theorem wd {c np n : Nat} {b : Ss} {ds : List D} {Q : D → Mem → Prop} (hl : ds.length = np) (hs : ds.map some ++ List.replicate (n - ds.length) none = sl) (h : WO (xSs γ c b sl μ) (finD μ Q X)) : WR (fnD γ (fun _ _ => c) np n b ds μ) Q X := by with_unfolding_all
  simp only [xE, xEs, xEo, xKs, xL, xT, xI, xS, xSs] at *
  subst hs
  unfold fnD
  rw [if_pos hl]
  obtain ⟨o, e, h⟩ := wo_e h
  rw [e]
  cases o with
  | nx a b =>
    obtain ⟨m, e, h⟩ := pw_e h
    dsimp only
    rw [e]
    exact h
  | rt a b =>
    obtain ⟨m, e, h⟩ := pw_e h
    obtain ⟨d, e2, h⟩ := pw_e h
    dsimp only
    rw [e, Option.bind_some, e2]
    exact h
  | ex a b c =>
    obtain ⟨m, e, h1, h⟩ := pw_e h
    dsimp only
    rw [e, Option.bind_some, if_pos h1]
    exact h
  | bk => exact h.elim
  | ct => exact h.elim
theorem wdK {c np n : Nat} {b : Ss} {ds : List D} {Q : D → Mem → Prop} (hl : ds.length = np) (hs : ds.map some ++ List.replicate (n - ds.length) none = sl) (h : WO (xSs γ c b sl μ) (finK Q X)) : WR (fnK γ (fun _ _ => c) np n b ds μ) Q X := by with_unfolding_all
  simp only [xE, xEs, xEo, xKs, xL, xT, xI, xS, xSs] at *
  subst hs
  unfold fnK
  rw [if_pos hl]
  obtain ⟨o, e, h⟩ := wo_e h
  rw [e]
  cases o <;> first | exact h | exact h.elim
theorem fi_rt {μ' : Mem} {d : D} {Q : D → Mem → Prop} (w : Wf μ') (hl : μ'.length = μ.length) (hd : lowD μ.length d = true) (h : Q d μ') : finD μ Q X (.rt d μ') := by with_unfolding_all
  refine pw_i ?_ (pw_i (frz_low hd) h)
  rw [← hl]
  exact cutM_self w
theorem fi_nx {μ' : Mem} {Q : D → Mem → Prop} (w : Wf μ') (hl : μ'.length = μ.length) (h : Q .non μ') : finD μ Q X (.nx sl μ') := by with_unfolding_all
  refine pw_i ?_ h
  rw [← hl]
  exact cutM_self w
theorem fi_ex {μ' : Mem} {d : D} {Q : D → Mem → Prop} (w : Wf μ') (hl : μ'.length = μ.length) (hd : lowD μ.length d = true) (h : X d μ') : finD μ Q X (.ex d sl μ') := by with_unfolding_all
  refine pw_i ?_ ⟨hd, h⟩
  rw [← hl]
  exact cutM_self w
end
section
variable {sl : Sl} {μ : Mem} {d : D} {Q X : D → Mem → Prop}
theorem fk_rt (h : Q d μ) : finK Q X (.rt d μ) := by with_unfolding_all exact h
theorem fk_nx (h : Q .non μ) : finK Q X (.nx sl μ) := by with_unfolding_all exact h
theorem fk_ex (h : X d μ) : finK Q X (.ex d sl μ) := by with_unfolding_all exact h
end
theorem eq_int {μ : Mem} {i j : Int} : cmpD μ .eq (.int i) (.int j) = some (decide (i = j)) := by with_unfolding_all
  show eqD μ _ _ = _
  unfold eqD pyR
  simp [seqL, py, SeqAt.shaped, PyData.canLay0, PyData.depth, PyData.eqv]
  by_cases h : i = j <;> simp [h]
theorem ne_int {μ : Mem} {i j : Int} : cmpD μ .ne (.int i) (.int j) = some (!decide (i = j)) := by with_unfolding_all
  have := @eq_int μ i j
  show Option.map (fun x => !x) (eqD μ (.int i) (.int j)) = _
  rw [show eqD μ (.int i) (.int j) = some (decide (i = j)) from this]
  rfl
end Mn
namespace Mn
open PySem PySem.Spec PyProof.Rows L2
section
theorem fi_rt0 {μ' : Mem} {d : D} {Q X : D → Mem → Prop} (hd : lowD 0 d = true) (h : Q d []) : finD [] Q X (.rt d μ') := by
  unfold finD
  have e : cutM ([] : Mem).length μ' = some [] := by simp [cutM]
  exact pw_i e (pw_i (frz_low hd) h)
theorem ct_t {P R : Prop} (h : P) : (true = true → P) ∧ (true = false → R) := ⟨fun _ => h, fun h => (nomatch h)⟩
theorem ct_f {P R : Prop} (h : R) : (false = true → P) ∧ (false = false → R) := ⟨fun h => (nomatch h), fun _ => h⟩
theorem ct_d {p P R : Prop} [Decidable p] (hp : p) (h : P) : (decide p = true → P) ∧ (decide p = false → R) := ⟨fun _ => h, fun e => absurd hp (of_decide_eq_false e)⟩
theorem ct_n {p P R : Prop} [Decidable p] (hp : ¬ p) (h : R) : (decide p = true → P) ∧ (decide p = false → R) := ⟨fun e => absurd (of_decide_eq_true e) hp, fun _ => h⟩
theorem ct_s {p P R : Prop} [Decidable p] (h1 : p → P) (h2 : ¬ p → R) : (decide p = true → P) ∧ (decide p = false → R) := ⟨fun e => h1 (of_decide_eq_true e), fun e => h2 (of_decide_eq_false e)⟩
theorem ct_ns {p P R : Prop} [Decidable p] (h1 : ¬ p → P) (h2 : p → R) : ((!decide p) = true → P) ∧ ((!decide p) = false → R) := by with_unfolding_all
  by_cases hp : p
  · rw [decide_eq_true hp]; exact ⟨fun e => (nomatch e), fun _ => h2 hp⟩
  · rw [decide_eq_false hp]; exact ⟨fun _ => h1 hp, fun e => (nomatch e)⟩
theorem ct_m {p : Prop} [Decidable p] {a b : Option O} {Q : O → Prop} (I : O → Prop) (h1 : p → WO a I) (h2 : ¬ p → WO b I) (h3 : ∀ o, I o → Q o) : (decide p = true → WO a Q) ∧ (decide p = false → WO b Q) := ⟨fun e => (h1 (of_decide_eq_true e)).mono h3, fun e => (h2 (of_decide_eq_false e)).mono h3⟩
theorem ct_e {p : Prop} [Decidable p] {a b : Option (R D)} {Q X : D → Mem → Prop} (I : D → Mem → Prop) (h1 : p → WR a I X) (h2 : ¬ p → WR b I X) (h3 : ∀ d μ, I d μ → Q d μ) : (decide p = true → WR a Q X) ∧ (decide p = false → WR b Q X) := ⟨fun e => (h1 (of_decide_eq_true e)).mono h3 fun _ _ h => h, fun e => (h2 (of_decide_eq_false e)).mono h3 fun _ _ h => h⟩
theorem ct_nd {p P R : Prop} [Decidable p] (hp : p) (h : R) : ((!decide p) = true → P) ∧ ((!decide p) = false → R) := by
  rw [decide_eq_true hp]; exact ⟨fun e => (nomatch e), fun _ => h⟩
theorem ct_b {b : Bool} {P R : Prop} (h1 : b = true → P) (h2 : b = false → R) : (b = true → P) ∧ (b = false → R) := ⟨h1, h2⟩
variable {μ : Mem} {i j : Int}
theorem pw_add {Q : D → Prop} (h : Q (.int (i + j))) : OW (binX .add (.int i) (.int j)) Q := by with_unfolding_all exact h
theorem pw_sub {Q : D → Prop} (h : Q (.int (i - j))) : OW (binX .sub (.int i) (.int j)) Q := by with_unfolding_all exact h
theorem pw_mul {Q : D → Prop} (hj : -(2 ^ 64) < j ∧ j < 2 ^ 64) (h : Q (.int (i * j))) : OW (binX .mul (.int i) (.int j)) Q := by with_unfolding_all exact pw_if (mulOkR hj) h
theorem pw_mulL {Q : D → Prop} (hj : -(2 ^ 64) < i ∧ i < 2 ^ 64) (h : Q (.int (i * j))) : OW (binX .mul (.int i) (.int j)) Q := by with_unfolding_all exact pw_if (mulOkL hj) h
theorem pw_mod {Q : D → Prop} (hj : 0 < j) (h : Q (.int (i % j))) : OW (binX .mod (.int i) (.int j)) Q := by with_unfolding_all exact pw_if hj h
theorem pw_div {Q : D → Prop} (hj : 0 < j) (h2 : j < 2 ^ 64) (h : Q (.int (i / j))) : OW (binX .fdiv (.int i) (.int j)) Q := by with_unfolding_all exact pw_if (divOk_of hj h2) h
theorem pw_lt {Q : Bool → Prop} (h : Q (decide (i < j))) : OW (cmpX μ .lt (.int i) (.int j)) Q := by with_unfolding_all exact h
theorem pw_le {Q : Bool → Prop} (h : Q (decide (i ≤ j))) : OW (cmpX μ .le (.int i) (.int j)) Q := by with_unfolding_all exact h
theorem pw_gt {Q : Bool → Prop} (h : Q (decide (j < i))) : OW (cmpX μ .gt (.int i) (.int j)) Q := by with_unfolding_all exact h
theorem pw_ge {Q : Bool → Prop} (h : Q (decide (j ≤ i))) : OW (cmpX μ .ge (.int i) (.int j)) Q := by with_unfolding_all exact h
theorem pw_augA {Q : D → Prop} (h : Q (.int (i + j))) : OW (augX .add (.int i) (.int j)) Q := by with_unfolding_all exact h
theorem pw_augS {Q : D → Prop} (h : Q (.int (i - j))) : OW (augX .sub (.int i) (.int j)) Q := by with_unfolding_all exact h
theorem pw_augM {Q : D → Prop} (hj : -(2 ^ 64) < j ∧ j < 2 ^ 64) (h : Q (.int (i * j))) : OW (augX .mul (.int i) (.int j)) Q := by with_unfolding_all exact pw_if (mulOkR hj) h
theorem pw_len_l {Q : D → Prop} {ds : List D} (h : Q (.int ds.length)) : OW (bltX μ .len [.lst ds]) Q := by with_unfolding_all exact h
theorem pw_len_t {Q : D → Prop} {ds : List D} (h : Q (.int ds.length)) : OW (bltX μ .len [.tup ds]) Q := by with_unfolding_all exact h
theorem pw_unp2 {Q : Sl → Prop} {a b : Nat} {x y : D} {sl : Sl} (h : Q ((sl.set a (some x)).set b (some y))) : OW (asgX (.tup [a, b]) (.tup [x, y]) sl) Q := by with_unfolding_all exact h
theorem pw_unp3 {Q : Sl → Prop} {a b c : Nat} {x y z : D} {sl : Sl} (h : Q (((sl.set a (some x)).set b (some y)).set c (some z))) : OW (asgX (.tup [a, b, c]) (.tup [x, y, z]) sl) Q := by with_unfolding_all exact h
theorem pw_eqi {Q : Bool → Prop} (h : Q (decide (i = j))) : OW (cmpX μ .eq (.int i) (.int j)) Q := cmp_i eq_int h
theorem pw_ner {Q : Bool → Prop} (h : Q false) : OW (cmpX μ .ne (.int i) (.int i)) Q := cmp_i (ne_int.trans (by simp)) h
theorem pw_eqr {Q : Bool → Prop} (h : Q true) : OW (cmpX μ .eq (.int i) (.int i)) Q := cmp_i (eq_int.trans (by simp)) h
theorem pw_nei {Q : Bool → Prop} (h : Q (!decide (i = j))) : OW (cmpX μ .ne (.int i) (.int j)) Q := cmp_i ne_int h
theorem pow18 {Q : D → Prop} (h : Q (.int 1000000000000000000)) : OW (binX .pow (.int 10) (.int 18)) Q := bin_i rfl h
theorem sz {n : Nat} (h : n ≤ 16777216) : n ≤ sizeLine := by with_unfolding_all rw [sizeLine_eq]; exact h
theorem szl {n : Nat} (h : n < 16777216) : n < sizeLine := by with_unfolding_all rw [sizeLine_eq]; exact h
end
end Mn
end
section
namespace Mn
open PySem PySem.Spec PyProof.Rows L2
mutual
theorem eqv_refl : ∀ p : PyData, p.canLay0 = true → PyData.eqv p p = true
  | .none, _ => by simp [PyData.eqv]
  | .bool b, _ => by simp [PyData.eqv]
  | .int i, _ => by simp [PyData.eqv]
  | .str x, _ => by simp [PyData.eqv]
  | .list xs, h => by
    rw [PyData.eqv]
    exact eqvAll_refl xs (by simpa [PyData.canLay0] using h)
  | .tuple xs, h => by
    rw [PyData.eqv]
    exact eqvAll_refl xs (by simpa [PyData.canLay0] using h)
  | .dict _, h => by simp [PyData.canLay0] at h
theorem eqvAll_refl : ∀ ps : List PyData, PyData.canLayAll0 ps = true → PyData.eqvAll ps ps = true
  | [], _ => by simp [PyData.eqvAll]
  | p :: ps, h => by
    have h' : p.canLay0 = true ∧ PyData.canLayAll0 ps = true := by simpa [PyData.canLayAll0] using h
    rw [PyData.eqvAll, eqv_refl p h'.1, eqvAll_refl ps h'.2]
    rfl
end
mutual
theorem lowD_mono {j k : Nat} (hj : j ≤ k) : ∀ {d : D}, lowD j d = true → lowD k d = true
  | .ref n, h => by
    rw [lowD] at h ⊢
    have := of_decide_eq_true h
    exact decide_eq_true (by omega)
  | .tup ds, h => by rw [lowD] at h ⊢; exact lowL_mono hj h
  | .lst ds, h => by rw [lowD] at h ⊢; exact lowL_mono hj h
  | .kls ds, h => by rw [lowD] at h ⊢; exact lowL_mono hj h
  | .exc _ ds, h => by rw [lowD] at h ⊢; exact lowL_mono hj h
  | .non, _ => rfl
  | .bl _, _ => rfl
  | .int _, _ => rfl
  | .str _, _ => rfl
  | .opq, _ => rfl
theorem lowL_mono {j k : Nat} (hj : j ≤ k) : ∀ {ds : List D}, lowL j ds = true → lowL k ds = true
  | [], _ => rfl
  | d :: ds, h => by
    simp only [lowL, Bool.and_eq_true] at h ⊢
    exact ⟨lowD_mono hj h.1, lowL_mono hj h.2⟩
end
theorem lowL_app {k : Nat} : ∀ {xs ys : List D}, lowL k (xs ++ ys) = (lowL k xs && lowL k ys)
  | [], ys => by simp [lowL]
  | x :: xs, ys => by simp [lowL, lowL_app (xs := xs), Bool.and_assoc]
theorem lowOb_mono {j k : Nat} (hj : j ≤ k) {o : Ob} (h : lowOb j o = true) : lowOb k o = true := by
  cases o <;> exact lowL_mono hj h
theorem all_low_mono {j k : Nat} (hj : j ≤ k) {μ : Mem} (h : μ.all (lowOb j) = true) : μ.all (lowOb k) = true := by
  rw [List.all_eq_true] at h ⊢
  exact fun o ho => lowOb_mono hj (h o ho)
theorem eqD_self {μ : Mem} {d : D} {p : PyData} (h : pyR μ d = some p) (hs : SeqAt.shaped p = true) : eqD μ d d = some true := by
  unfold eqD
  rw [h]
  simp only [Option.bind_some, hs, Bool.and_self, if_true]
  rw [eqv_refl p (SeqAt.canLay_of_shaped hs)]
theorem eq_self {μ : Mem} {d : D} {p : PyData} (h : pyR μ d = some p) (hs : SeqAt.shaped p = true) : cmpD μ .eq d d = some true := eqD_self h hs
theorem ne_self {μ : Mem} {d : D} {p : PyData} (h : pyR μ d = some p) (hs : SeqAt.shaped p = true) : cmpD μ .ne d d = some false := by
  show Option.map (fun x => !x) (eqD μ d d) = _
  rw [eqD_self h hs]
  rfl
theorem ev_x {γ : Gam} {e : E} {sl : Sl} {μ ν : Mem} {a : D} (h : WR (xE γ e sl μ) (fun _ _ => False) (fun x m => x = a ∧ m = ν)) : evE γ e sl μ = some (.ex a ν) := by
  unfold xE at h
  cases q : evE γ e sl μ with
  | none => rw [q] at h; unfold WR at h; exact h.elim
  | some r =>
    rw [q] at h
    unfold WR at h
    cases r with
    | ok d m => exact h.elim
    | ex x m => obtain ⟨rfl, rfl⟩ := h; rfl
theorem ev_o {γ : Gam} {e : E} {sl : Sl} {μ ν : Mem} {a : D} (h : WR (xE γ e sl μ) (fun x m => x = a ∧ m = ν) NoX) : evE γ e sl μ = some (.ok a ν) := by
  unfold xE at h
  cases q : evE γ e sl μ with
  | none => rw [q] at h; unfold WR at h; exact h.elim
  | some r =>
    rw [q] at h
    unfold WR at h
    cases r with
    | ex d m => exact h.elim
    | ok x m => obtain ⟨rfl, rfl⟩ := h; rfl
theorem cut_to {α : Type} {xs : List α} {k : Nat} (h : k ≤ xs.length) : cutD xs none (some (k : Int)) = xs.take k := by
  unfold cutD
  rw [HT.sIx_none, HT.sIx_nat, Nat.min_eq_left h]
  simp
theorem cut_from {α : Type} {xs : List α} {k : Nat} (h : k ≤ xs.length) : cutD xs (some (k : Int)) none = xs.drop k := by
  unfold cutD
  rw [HT.sIx_none, HT.sIx_nat, Nat.min_eq_left h]
  rw [List.take_of_length_le]
  simp
theorem slc_to {μ : Mem} {xs : List D} {k : Nat} {Q : D → Prop} (h : k ≤ xs.length) (q : Q (.tup (xs.take k))) : OW (slcX μ (.tup xs) none (some (k : Int))) Q := slc_i (by rw [slcD, cut_to h]) q
theorem slc_from {μ : Mem} {xs : List D} {k : Nat} {Q : D → Prop} (h : k ≤ xs.length) (q : Q (.tup (xs.drop k))) : OW (slcX μ (.tup xs) (some (k : Int)) none) Q := slc_i (by rw [slcD, cut_from h]) q
theorem bin_cat {xs ys : List D} {Q : D → Prop} (h : xs.length + ys.length ≤ 16777216) (q : Q (.tup (xs ++ ys))) : OW (binX .add (.tup xs) (.tup ys)) Q := bin_i (if_pos (sz h)) q
theorem bin_rep {xs : List D} {k : Int} {Q : D → Prop} (h : 0 ≤ k ∧ k ≤ 1000 ∧ xs.length ≤ 1000) (q : Q (.tup (List.replicate k.toNat xs).flatten)) : OW (binX .mul (.tup xs) (.int k)) Q := bin_i (if_pos h) q
theorem blt_list {μ : Mem} {xs : List D} {Q : D → Prop} (q : Q (.lst xs)) : OW (bltX μ .list [.tup xs]) Q := blt_i rfl q
theorem blt_tuple {μ : Mem} {xs : List D} {Q : D → Prop} (q : Q (.tup xs)) : OW (bltX μ .tuple [.lst xs]) Q := blt_i rfl q
theorem app_at {μ : Mem} {n : Nat} {xs : List D} {v : D} {Q : Mem → Prop} (h : μ[n]? = some (.lst xs)) (hl : xs.length < 16777216) (q : Q (μ.set n (.lst (xs ++ [v])))) : OW (appX μ (.ref n) v) Q := app_i (by simp only [appD, h]; exact if_pos (szl hl)) q
theorem lst_at {μ : Mem} {n : Nat} {xs : List D} (h : μ[n]? = some (.lst xs)) : lstAt μ (.ref n) = true := by simp only [lstAt, h]
theorem seq_at {μ : Mem} {n : Nat} {xs : List D} {Q : List D → Prop} (h : μ[n]? = some (.lst xs)) (q : Q xs) : OW (seqX μ (.ref n)) Q := seq_i (by simp only [seqC, h]) q
end Mn
end
section
namespace K70
open PySem PySem.Spec PyProof.Rows L2 Mn
abbrev PR : Program := PySem.Challenge.pw_threerims_k70_dimensions
def top (i : Nat) : Stmt := PR.main.body.getD i (.Pass ⟨0, 0, 0, 0⟩)
abbrev s_is_integer : Stmt := top 5
abbrev s_check_partition : Stmt := top 6
abbrev s_check_nonnegative : Stmt := top 8
abbrev s_dimension_of : Stmt := top 10
abbrev s_dimension : Stmt := top 11
abbrev s__law_mixed : Stmt := top 13
abbrev s__law_folded : Stmt := top 14
abbrev s__law_draw : Stmt := top 15
abbrev s__law_begun : Stmt := top 16
abbrev s__law_falling : Stmt := top 17
abbrev s__law_told : Stmt := top 18
abbrev s__law_fillings : Stmt := top 19
abbrev s__law_formula : Stmt := top 20
abbrev s__law_refused : Stmt := top 21
abbrev s_law : Stmt := top 22
def t_is_integer : Ss := (.cons (.ret (.and (.isi (.var 0) .int) (.one (.not (.isi (.var 0) .bool))))) .nil)
def t_check_partition : Ss := (.cons (.ite (.or (.not (.isi (.var 0) .tuple)) (.one (.not (.chain .le .le (.int 1) (.blt .len (.cons (.var 0) .nil)) (.glb 0))))) (.cons (.raise 1 .nil [.non]) .nil) .nil) (.cons (.for_ (.tup [1, 2]) (.enum (.var 0)) (.cons (.ite (.or (.not (.call 0 (.cons (.var 2) .nil))) (.one (.and (.cmp .gt (.var 1) (.int 0)) (.one (.cmp .gt (.var 2) (.idx (.var 0) (.bin .sub (.var 1) (.int 1)))))))) (.cons (.raise 1 (.cons (.var 1) .nil) []) .nil) .nil) .nil)) .nil))
def t_check_nonnegative : Ss := (.cons (.expr (.call 1 (.cons (.var 0) .nil))) (.cons (.for_ (.tup [1, 2]) (.enum (.var 0)) (.cons (.ite (.cmp .lt (.var 2) (.int 0)) (.cons (.raise 1 (.cons (.var 1) .nil) []) .nil) .nil) .nil)) .nil))
def t_dimension_of : Ss := (.cons (.unp [2, 3] (.tup (.cons (.int 1) (.cons (.int 1) .nil)))) (.cons (.for_ (.nm 1) (.range .no (.some (.blt .len (.cons (.var 0) .nil)))) (.cons (.for_ (.nm 4) (.range .no (.some (.var 1))) (.cons (.aug .mul 2 (.bin .sub (.bin .add (.bin .sub (.idx (.var 0) (.var 4)) (.idx (.var 0) (.var 1))) (.var 1)) (.var 4))) (.cons (.aug .mul 3 (.bin .sub (.var 1) (.var 4))) .nil))) .nil)) (.cons (.ret (.bin .fdiv (.var 2) (.var 3))) .nil)))
def t_dimension : Ss := (.cons (.expr (.call 2 (.cons (.var 0) .nil))) (.cons (.ret (.call 3 (.cons (.var 0) .nil))) .nil))
def t__law_mixed : Ss := (.cons (.set 2 (.bin .add (.bin .add (.bin .mod (.bin .mul (.bin .mul (.var 0) (.bin .add (.int 1) (.bin .mul (.int 2) (.var 1)))) (.int 48271)) (.int 2147483647)) (.bin .mul (.bin .mul (.int 7919) (.var 1)) (.var 1))) (.bin .mul (.int 104729) (.var 1)))) (.cons (.ret (.bin .fdiv (.bin .mod (.bin .mul (.var 2) (.int 69621)) (.int 2147483629)) (.int 7))) .nil))
def t__law_folded : Ss := (.cons (.set 1 (.mk (.comp (.bin .add (.int 17) (.var 2)) (.nm 2) (.range .no (.some (.int 64))) .no))) (.cons (.for_ (.tup [2, 3]) (.enum (.var 0)) (.cons (.setIx (.var 1) (.bin .mod (.var 2) (.int 64)) (.bin .mod (.bin .add (.bin .mul (.idx (.var 1) (.bin .mod (.var 2) (.int 64))) (.int 48271)) (.var 3)) (.int 2147483647))) .nil)) (.cons (.for_ (.nm 2) (.range (.some (.int 1)) (.some (.int 64))) (.cons (.setIx (.var 1) (.var 2) (.bin .mod (.bin .add (.idx (.var 1) (.var 2)) (.bin .mul (.idx (.var 1) (.bin .sub (.var 2) (.int 1))) (.int 16807))) (.int 2147483647))) .nil)) (.cons (.ret (.var 1)) .nil))))
def t__law_draw : Ss := (.cons (.set 2 (.idx (.var 0) (.str "spot"))) (.cons (.setIx (.var 0) (.str "spot") (.bin .add (.var 2) (.int 1))) (.cons (.ite (.cmp .ne (.idx (.var 0) (.str "great")) (.val (.disp .nil))) (.cons (.set 3 (.bin .mod (.var 2) (.blt .len (.cons (.idx (.var 0) (.str "great")) .nil)))) (.cons (.set 4 (.idx (.idx (.var 0) (.str "great")) (.var 3))) (.cons (.ite (.cmp .gt (.var 4) (.int 0)) (.cons (.setIx (.idx (.var 0) (.str "great")) (.var 3) (.bin .fdiv (.var 4) (.var 1))) (.cons (.ret (.bin .mod (.var 4) (.var 1))) .nil)) .nil) .nil))) .nil) (.cons (.ret (.bin .mod (.call 5 (.cons (.call 5 (.cons (.bin .add (.idx (.idx (.var 0) (.str "cells")) (.bin .mod (.var 2) (.int 64))) (.bin .mul (.int 31) (.bin .fdiv (.var 2) (.int 64)))) (.cons (.var 2) .nil))) (.cons (.bin .add (.var 2) (.int 7)) .nil))) (.var 1))) .nil))))
def t__law_begun : Ss := (.cons (.set 1 (.dict (.cons (.inr "cells") (.call 6 (.cons (.var 0) .nil)) (.cons (.inr "great") (.val (.disp .nil)) (.cons (.inr "spot") (.int 0) .nil))))) (.cons (.setIx (.var 1) (.str "great") (.mk (.comp (.ifx (.cmp .ge (.var 2) (.bin .pow (.int 10) (.int 18))) (.var 2) (.int 0)) (.nm 2) (.seq (.var 0)) .no))) (.cons (.ret (.var 1)) .nil)))
def t__law_falling : Ss := (.cons (.set 3 (.blt .sorted (.cons (.val (.comp (.idx (.val (.disp (.cons (.int 0) (.cons (.call 7 (.cons (.var 0) (.cons (.bin .add (.var 2) (.int 1)) .nil))) (.cons (.call 7 (.cons (.var 0) (.cons (.bin .add (.var 2) (.int 1)) .nil))) (.cons (.var 2) .nil)))))) (.call 7 (.cons (.var 0) (.cons (.int 4) .nil)))) (.nm 4) (.range .no (.some (.var 1))) .no)) .nil))) (.cons (.ret (.blt .tuple (.cons (.rev (.var 3)) .nil))) .nil))
def t__law_fillings : Ss := (.cons (.par3 2 3 4 (.blt .len (.cons (.var 0) .nil)) (.val (.disp (.cons (.tup .nil) .nil))) (.int 0)) (.cons (.for_ (.nm 1) (.range .no (.some (.var 2))) (.cons (.for_ (.nm 5) (.range .no (.some (.idx (.var 0) (.var 1)))) (.cons (.set 6 (.val (.disp .nil))) (.cons (.for_ (.nm 7) (.seq (.var 3)) (.cons (.set 8 (.ifx (.cmp .gt (.var 5) (.int 0)) (.idx (.var 7) (.neg (.int 1))) (.int 1))) (.cons (.ite (.cmp .gt (.var 1) (.int 0)) (.cons (.set 8 (.blt .max2 (.cons (.var 8) (.cons (.bin .add (.idx (.var 7) (.bin .add (.bin .sub (.var 4) (.idx (.var 0) (.bin .sub (.var 1) (.int 1)))) (.var 5))) (.int 1)) .nil)))) .nil) .nil) (.cons (.set 6 (.val (.cat (.var 6) (.val (.comp (.bin .add (.var 7) (.tup (.cons (.var 9) .nil))) (.nm 9) (.range (.some (.var 8)) (.some (.bin .add (.var 2) (.int 1)))) .no))))) .nil)))) (.cons (.set 3 (.var 6)) .nil)))) (.cons (.set 4 (.bin .add (.var 4) (.idx (.var 0) (.var 1)))) .nil))) (.cons (.ret (.var 3)) .nil)))
def t__law_formula : Ss := (.cons (.unp [2, 3] (.tup (.cons (.int 1) (.cons (.int 1) .nil)))) (.cons (.for_ (.nm 1) (.range .no (.some (.blt .len (.cons (.var 0) .nil)))) (.cons (.for_ (.nm 4) (.range .no (.some (.var 1))) (.cons (.set 2 (.bin .mul (.var 2) (.bin .sub (.bin .add (.bin .sub (.idx (.var 0) (.var 4)) (.idx (.var 0) (.var 1))) (.var 1)) (.var 4)))) (.cons (.set 3 (.bin .mul (.var 3) (.bin .sub (.var 1) (.var 4)))) .nil))) .nil)) (.cons (.ret (.ifx (.cmp .eq (.bin .mod (.var 2) (.var 3)) (.int 0)) (.bin .fdiv (.var 2) (.var 3)) .non)) .nil)))
def t__law_refused : Ss := (.cons (.set 2 (.mk (.comp (.tup (.cons (.var 4) (.cons (.tup (.cons (.str "InvalidPartition") (.cons .non .nil))) .nil))) (.nm 4) (.seq (.val (.disp (.cons .non (.cons (.int 5) (.cons (.str "ab") (.cons (.tup .nil) (.cons (.val (.disp .nil)) (.cons (.blt .list (.cons (.var 1) .nil)) (.cons (.dnew false) (.cons (.bin .mul (.var 1) (.int 7)) .nil))))))))))) .no))) (.cons (.set 3 (.call 7 (.cons (.var 0) (.cons (.blt .len (.cons (.var 1) .nil)) .nil)))) (.cons (.for_ (.nm 4) (.seq (.val (.disp (.cons (.bl true) (.cons .non (.cons (.str "1") (.cons (.tup (.cons (.int 1) .nil)) (.cons (.val (.disp (.cons (.int 0) .nil))) .nil)))))))) (.cons (.app (.var 2) (.tup (.cons (.bin .add (.bin .add (.slc (.var 1) .no (.some (.var 3))) (.tup (.cons (.var 4) .nil))) (.slc (.var 1) (.some (.bin .add (.var 3) (.int 1))) .no)) (.cons (.tup (.cons (.str "InvalidPartition") (.cons (.var 3) .nil))) .nil)))) .nil)) (.cons (.ite (.cmp .gt (.var 3) (.int 0)) (.cons (.app (.var 2) (.tup (.cons (.bin .add (.bin .add (.slc (.var 1) .no (.some (.var 3))) (.tup (.cons (.bin .add (.idx (.var 1) (.bin .sub (.var 3) (.int 1))) (.int 1)) .nil))) (.slc (.var 1) (.some (.bin .add (.var 3) (.int 1))) .no)) (.cons (.tup (.cons (.str "InvalidPartition") (.cons (.var 3) .nil))) .nil)))) .nil) .nil) (.cons (.set 5 (.bin .add (.slc (.var 1) .no (.some (.var 3))) (.bin .mul (.tup (.cons (.neg (.int 1)) .nil)) (.bin .sub (.blt .len (.cons (.var 1) .nil)) (.var 3))))) (.cons (.set 2 (.mk (.cat (.var 2) (.val (.disp (.cons (.tup (.cons (.tup (.cons (.neg (.int 1)) (.cons (.int 0) .nil))) (.cons (.tup (.cons (.str "InvalidPartition") (.cons (.int 1) .nil))) .nil))) (.cons (.tup (.cons (.tup (.cons (.int 3) (.cons (.neg (.int 1)) (.cons (.bl true) .nil)))) (.cons (.tup (.cons (.str "InvalidPartition") (.cons (.int 2) .nil))) .nil))) .nil))))))) (.cons (.app (.var 2) (.tup (.cons (.bin .add (.slc (.var 1) .no (.some (.var 3))) (.tup (.cons (.neg (.int 1)) (.cons .non .nil)))) (.cons (.tup (.cons (.str "InvalidPartition") (.cons (.ifx (.cmp .lt (.var 3) (.int 5)) (.bin .add (.var 3) (.int 1)) .non) .nil))) .nil)))) (.cons (.ret (.val (.cat (.var 2) (.val (.disp (.cons (.tup (.cons (.var 5) (.cons (.tup (.cons (.str "InvalidPartition") (.cons (.var 3) .nil))) .nil))) (.cons (.tup (.cons (.bin .add (.tup (.cons (.neg (.int 1)) .nil)) (.bin .mul (.tup (.cons (.neg (.int 2)) .nil)) (.bin .sub (.blt .len (.cons (.var 1) .nil)) (.int 1)))) (.cons (.tup (.cons (.str "InvalidPartition") (.cons (.int 0) .nil))) .nil))) .nil))))))) .nil))))))))
def t_law : Ss := (.cons (.set 1 (.call 8 (.cons (.var 0) .nil))) (.cons (.for_ (.nm 2) (.range .no (.some (.int 3))) (.cons (.set 3 (.call 9 (.cons (.var 1) (.cons (.bin .add (.int 1) (.call 7 (.cons (.var 1) (.cons (.int 4) .nil)))) (.cons (.int 2) .nil))))) (.cons (.ite (.cmp .ne (.call 4 (.cons (.var 3) .nil)) (.blt .len (.cons (.call 11 (.cons (.var 3) .nil)) .nil))) (.cons (.ret (.bl false)) .nil) .nil) (.cons (.set 4 (.call 9 (.cons (.var 1) (.cons (.bin .add (.int 1) (.call 7 (.cons (.var 1) (.cons (.int 6) .nil)))) (.cons (.idx (.val (.disp (.cons (.int 3) (.cons (.int 9) (.cons (.int 30) .nil))))) (.call 7 (.cons (.var 1) (.cons (.int 3) .nil)))) .nil))))) (.cons (.unp [5, 6] (.tup (.cons (.call 12 (.cons (.var 4) .nil)) (.cons (.call 7 (.cons (.var 1) (.cons (.int 50) .nil))) .nil)))) (.cons (.ite (.or (.cmp .ne (.call 4 (.cons (.var 4) .nil)) (.var 5)) (.one (.cmp .ne (.call 4 (.cons (.blt .tuple (.cons (.val (.comp (.bin .add (.var 9) (.var 6)) (.nm 9) (.seq (.var 4)) .no)) .nil)) .nil)) (.var 5)))) (.cons (.ret (.bl false)) .nil) .nil) (.cons (.ite (.cmp .ne (.call 4 (.cons (.blt .tuple (.cons (.val (.comp (.bin .sub (.idx (.var 4) (.int 0)) (.var 9)) (.nm 9) (.seq (.rev (.var 4))) .no)) .nil)) .nil)) (.var 5)) (.cons (.ret (.bl false)) .nil) .nil) (.cons (.for_ (.tup [7, 8]) (.seq (.call 13 (.cons (.var 1) (.cons (.var 4) .nil)))) (.cons (.ite (.cmp .ne (.told 10 (.call 4 (.cons (.var 7) .nil))) (.var 8)) (.cons (.ret (.bl false)) .nil) .nil) .nil)) .nil)))))))) (.cons (.ret (.and (.cmp .eq (.call 4 (.cons (.tup (.cons (.int 2) (.cons (.int 1) (.cons (.int 0) .nil)))) .nil)) (.int 8)) (.and (.cmp .eq (.call 4 (.cons (.tup (.cons (.int 7) .nil)) .nil)) (.int 1)) (.one (.cmp .eq (.call 4 (.cons (.tup (.cons (.int 0) (.cons (.int 0) (.cons (.int 0) (.cons (.int 0) (.cons (.int 0) (.cons (.int 0) .nil))))))) .nil)) (.int 1)))))) .nil)))
def t_rest : Ss := (.cons (.ite (.cmp .isN (.var 1) .non) (.cons (.ret (.var 2)) .nil) .nil) (.cons (.ret (.ifx (.isiO (.var 1) 1) (.tup (.cons (.str "InvalidPartition") (.cons (.fld (.var 1) 1 "position") .nil))) (.tup (.cons (.str "other") .nil)))) .nil))
end K70
namespace K70
open PySem PySem.Spec PyProof.Rows L2 Mn
def γ0 : Gam where
  fn := fun _ _ _ => none
  cst := fun k => match k with | 0 => some (.int 6) | _ => none
  flds := fun k => match k with | 1 => ["position"] | _ => []
  sub := fun a b => decide (a = b) || (decide (a = 1) && decide (b = 0))
abbrev γ_is_integer : Gam := γ0
def m_is_integer : List D → Mem → Option (R D) := fnD γ_is_integer (fun _ _ => 0) 1 1 t_is_integer
abbrev γ_check_partition : Gam := { γ0 with fn := fun k => match k with | 0 => m_is_integer | _ => fun _ _ => none }
def m_check_partition : List D → Mem → Option (R D) := fnD γ_check_partition (fun _ _ => 0) 1 3 t_check_partition
abbrev γ_check_nonnegative : Gam := { γ0 with fn := fun k => match k with | 1 => m_check_partition | _ => fun _ _ => none }
def m_check_nonnegative : List D → Mem → Option (R D) := fnD γ_check_nonnegative (fun _ _ => 0) 1 3 t_check_nonnegative
abbrev γ_dimension_of : Gam := γ0
def m_dimension_of : List D → Mem → Option (R D) := fnD γ_dimension_of (fun _ _ => 0) 1 5 t_dimension_of
abbrev γ_dimension : Gam := { γ0 with fn := fun k => match k with | 2 => m_check_nonnegative | 3 => m_dimension_of | _ => fun _ _ => none }
def m_dimension : List D → Mem → Option (R D) := fnD γ_dimension (fun _ _ => 0) 1 1 t_dimension
abbrev γ__law_mixed : Gam := γ0
def m__law_mixed : List D → Mem → Option (R D) := fnD γ__law_mixed (fun _ _ => 0) 2 3 t__law_mixed
abbrev γ__law_folded : Gam := γ0
def m__law_folded : List D → Mem → Option (R D) := fnD γ__law_folded (fun _ _ => 0) 1 4 t__law_folded
abbrev γ__law_draw : Gam := { γ0 with fn := fun k => match k with | 5 => m__law_mixed | _ => fun _ _ => none }
def m__law_draw : List D → Mem → Option (R D) := fnD γ__law_draw (fun _ _ => 0) 2 5 t__law_draw
abbrev γ__law_begun : Gam := { γ0 with fn := fun k => match k with | 6 => m__law_folded | _ => fun _ _ => none }
def m__law_begun : List D → Mem → Option (R D) := fnK γ__law_begun (fun _ _ => 0) 1 3 t__law_begun
abbrev γ__law_falling : Gam := { γ0 with fn := fun k => match k with | 7 => m__law_draw | _ => fun _ _ => none }
def m__law_falling : List D → Mem → Option (R D) := fnD γ__law_falling (fun _ _ => 0) 3 5 t__law_falling
abbrev γ__law_fillings : Gam := γ0
def m__law_fillings : List D → Mem → Option (R D) := fnD γ__law_fillings (fun _ _ => 0) 1 10 t__law_fillings
abbrev γ__law_formula : Gam := γ0
def m__law_formula : List D → Mem → Option (R D) := fnD γ__law_formula (fun _ _ => 0) 1 5 t__law_formula
abbrev γ__law_refused : Gam := { γ0 with fn := fun k => match k with | 7 => m__law_draw | _ => fun _ _ => none }
def m__law_refused : List D → Mem → Option (R D) := fnK γ__law_refused (fun _ _ => 0) 2 6 t__law_refused
end K70
end
section
namespace K70
open PySem PySem.Spec PyProof.Rows L2 Mn He
def clsBody (s : Stmt) : List Stmt := match s with
  | .ClassDef (body := b) .. => b
  | _ => []
abbrev s_init : Stmt := (clsBody (top 2)).getD 0 (.Pass ⟨0, 0, 0, 0⟩)
variable {P : Program} {w : World} {K : PySem.W.Frag} {mg : Str → Option Value} {base : Heap} {fI : Addr} {fdI : FuncData}
theorem scI : FnScope ["self", "position"] ["self", "position"] (defScope s_init) := ⟨rfl, rfl, rfl, by decide +kernel, rfl, by decide +kernel, by decide +kernel⟩
theorem ok_init {C B : Addr} (FI : FunD K "__init__" "InvalidPartition.__init__" (defArgs s_init) (defBody s_init) (defScope s_init) [V.non] [] fI fdI) (cf : ClsF K C B fI ["position"]) (gB : mg "ThreerimsError" = some (.ref B)) :
    FnOk P w K mg base (L2.CX P w) 1 fI fdI ["self", "position"] (spI1 C "position") := by
  refine FI.ok scI (fun vs H Q E h => ?_) fun cdv A outer s H vs Q E hr h => ?_
  · obtain ⟨a, y, rfl, _⟩ := h
    rfl
  · exact init1_body (X := cxOf (L2.CX P w) P w K mg base ["self", "position"] "InvalidPartition.__init__" (defScope s_init) fI cdv A outer s H E) (f2 := "position") (x0 := "ThreerimsError") (f := "position") rfl (.inl rfl) (.inl rfl) rfl gB cf.sp cf.rd cf.fi cf.ox (cf.no _ (by simp)) (by decide) (by decide) (by decide) h
theorem bI1 (FI : FunD K "__init__" "InvalidPartition.__init__" (defArgs s_init) (defBody s_init) (defScope s_init) [V.non] [] fI fdI) : L2.Binds K fdI ["self", "position"] [] := by
  obtain ⟨ds, h1, h2⟩ := FI.binds1 (ps := ["self", "position"]) 2 1 (by simp) rfl fun T kV doc pm an cdv ct us its hu hi => match us, hu, its, hi with
    | [_, _], _, [_], _ => ⟨_, rfl, rfl⟩
  cases h1
  exact h2
theorem bI0 (FI : FunD K "__init__" "InvalidPartition.__init__" (defArgs s_init) (defBody s_init) (defScope s_init) [V.non] [] fI fdI) : ∃ ds, Vals [V.non] ds ∧ L2.Binds K fdI ["self", "position"] ds :=
  FI.binds1 (ps := ["self", "position"]) 1 0 (by simp) rfl fun T kV doc pm an cdv ct us its hu hi => match us, hu, its, hi with
    | [_], _, [_], _ => ⟨_, rfl, rfl⟩
end K70
end
section
namespace K70
open PySem PySem.Spec PyProof.Rows L2 Mn He
def gg (K : PySem.W.Frag) : G where
  K := K
  cls := fun k => match k with | 1 => some (ga K "InvalidPartition") | _ => none
  flds := fun k => match k with | 1 => ["position"] | _ => []
  T := [(tabOf K (codeOf K ("law", none)), "law.<locals>.<lambda>")]
  th := none
end K70
namespace K70
open PySem PySem.Spec PyProof.Rows L2 Mn He
abbrev FnP (K : PySem.W.Frag) (x : Str) (st : Stmt) (fd : FuncData) : Prop := FunD K x x (defArgs st) (defBody st) (defScope st) [] [] (fAd K (x, none)) fd
structure En (K : PySem.W.Frag) (mg : Str → Option Value) where
  fd_is_integer : FuncData
  F_is_integer : FnP K "is_integer" s_is_integer fd_is_integer
  g_is_integer : mg "is_integer" = some (.ref (fAd K ("is_integer", none)))
  fd_check_partition : FuncData
  F_check_partition : FnP K "check_partition" s_check_partition fd_check_partition
  g_check_partition : mg "check_partition" = some (.ref (fAd K ("check_partition", none)))
  fd_check_nonnegative : FuncData
  F_check_nonnegative : FnP K "check_nonnegative" s_check_nonnegative fd_check_nonnegative
  g_check_nonnegative : mg "check_nonnegative" = some (.ref (fAd K ("check_nonnegative", none)))
  fd_dimension_of : FuncData
  F_dimension_of : FnP K "dimension_of" s_dimension_of fd_dimension_of
  g_dimension_of : mg "dimension_of" = some (.ref (fAd K ("dimension_of", none)))
  fd_dimension : FuncData
  F_dimension : FnP K "dimension" s_dimension fd_dimension
  g_dimension : mg "dimension" = some (.ref (fAd K ("dimension", none)))
  fd__law_mixed : FuncData
  F__law_mixed : FnP K "_law_mixed" s__law_mixed fd__law_mixed
  g__law_mixed : mg "_law_mixed" = some (.ref (fAd K ("_law_mixed", none)))
  fd__law_folded : FuncData
  F__law_folded : FnP K "_law_folded" s__law_folded fd__law_folded
  g__law_folded : mg "_law_folded" = some (.ref (fAd K ("_law_folded", none)))
  fd__law_draw : FuncData
  F__law_draw : FnP K "_law_draw" s__law_draw fd__law_draw
  g__law_draw : mg "_law_draw" = some (.ref (fAd K ("_law_draw", none)))
  fd__law_begun : FuncData
  F__law_begun : FnP K "_law_begun" s__law_begun fd__law_begun
  g__law_begun : mg "_law_begun" = some (.ref (fAd K ("_law_begun", none)))
  fd__law_falling : FuncData
  F__law_falling : FnP K "_law_falling" s__law_falling fd__law_falling
  g__law_falling : mg "_law_falling" = some (.ref (fAd K ("_law_falling", none)))
  fd__law_told : FuncData
  F__law_told : FnP K "_law_told" s__law_told fd__law_told
  g__law_told : mg "_law_told" = some (.ref (fAd K ("_law_told", none)))
  fd__law_fillings : FuncData
  F__law_fillings : FnP K "_law_fillings" s__law_fillings fd__law_fillings
  g__law_fillings : mg "_law_fillings" = some (.ref (fAd K ("_law_fillings", none)))
  fd__law_formula : FuncData
  F__law_formula : FnP K "_law_formula" s__law_formula fd__law_formula
  g__law_formula : mg "_law_formula" = some (.ref (fAd K ("_law_formula", none)))
  fd__law_refused : FuncData
  F__law_refused : FnP K "_law_refused" s__law_refused fd__law_refused
  g__law_refused : mg "_law_refused" = some (.ref (fAd K ("_law_refused", none)))
  fd_law : FuncData
  F_law : FnP K "law" s_law fd_law
  g_law : mg "law" = some (.ref (fAd K ("law", none)))
  h_bool : mg "bool" = none
  h_enumerate : mg "enumerate" = none
  h_int : mg "int" = none
  h_isinstance : mg "isinstance" = none
  h_len : mg "len" = none
  h_list : mg "list" = none
  h_max : mg "max" = none
  h_range : mg "range" = none
  h_sorted : mg "sorted" = none
  h_tuple : mg "tuple" = none
  h_MAX_SIZE : ∃ t, mg "MAX_SIZE" = some (.int 6 t)
  fdI : FuncData
  FI : FunD K "__init__" "InvalidPartition.__init__" (defArgs s_init) (defBody s_init) (defScope s_init) [V.non] [] (fAd K ("InvalidPartition", some "__init__")) fdI
  cf : ClsF K (ga K "InvalidPartition") (ga K "ThreerimsError") (fAd K ("InvalidPartition", some "__init__")) ["position"]
  gI : mg "InvalidPartition" = some (.ref (ga K "InvalidPartition"))
  gB : mg "ThreerimsError" = some (.ref (ga K "ThreerimsError"))
  exm : PySem.W.exmOne K (.ref (ga K "InvalidPartition")) (.ref (ga K "ThreerimsError")) = some true
  kit : PySem.W.kitOne K (.ref (ga K "InvalidPartition")) (.ref (ga K "InvalidPartition")) = some true
section
variable {P : Program} {w : World} {K : PySem.W.Frag} {mg : Str → Option Value} {base : Heap}
theorem b_is_integer (e : En K mg) : L2.Binds K e.fd_is_integer ["value"] [] := e.F_is_integer.bindsN fun _ _ _ _ _ _ us hl => match us, hl with | [_], _ => rfl
theorem b_check_partition (e : En K mg) : L2.Binds K e.fd_check_partition ["value"] [] := e.F_check_partition.bindsN fun _ _ _ _ _ _ us hl => match us, hl with | [_], _ => rfl
theorem b_check_nonnegative (e : En K mg) : L2.Binds K e.fd_check_nonnegative ["value"] [] := e.F_check_nonnegative.bindsN fun _ _ _ _ _ _ us hl => match us, hl with | [_], _ => rfl
theorem b_dimension_of (e : En K mg) : L2.Binds K e.fd_dimension_of ["partition"] [] := e.F_dimension_of.bindsN fun _ _ _ _ _ _ us hl => match us, hl with | [_], _ => rfl
theorem b_dimension (e : En K mg) : L2.Binds K e.fd_dimension ["partition"] [] := e.F_dimension.bindsN fun _ _ _ _ _ _ us hl => match us, hl with | [_], _ => rfl
theorem b__law_mixed (e : En K mg) : L2.Binds K e.fd__law_mixed ["cell", "n"] [] := e.F__law_mixed.bindsN fun _ _ _ _ _ _ us hl => match us, hl with | [_, _], _ => rfl
theorem b__law_folded (e : En K mg) : L2.Binds K e.fd__law_folded ["script"] [] := e.F__law_folded.bindsN fun _ _ _ _ _ _ us hl => match us, hl with | [_], _ => rfl
theorem b__law_draw (e : En K mg) : L2.Binds K e.fd__law_draw ["m", "top"] [] := e.F__law_draw.bindsN fun _ _ _ _ _ _ us hl => match us, hl with | [_, _], _ => rfl
theorem b__law_begun (e : En K mg) : L2.Binds K e.fd__law_begun ["script"] [] := e.F__law_begun.bindsN fun _ _ _ _ _ _ us hl => match us, hl with | [_], _ => rfl
theorem b__law_falling (e : En K mg) : L2.Binds K e.fd__law_falling ["m", "many", "top"] [] := e.F__law_falling.bindsN fun _ _ _ _ _ _ us hl => match us, hl with | [_, _, _], _ => rfl
theorem b__law_told (e : En K mg) : L2.Binds K e.fd__law_told ["deed"] [] := e.F__law_told.bindsN fun _ _ _ _ _ _ us hl => match us, hl with | [_], _ => rfl
theorem b__law_fillings (e : En K mg) : L2.Binds K e.fd__law_fillings ["part"] [] := e.F__law_fillings.bindsN fun _ _ _ _ _ _ us hl => match us, hl with | [_], _ => rfl
theorem b__law_formula (e : En K mg) : L2.Binds K e.fd__law_formula ["part"] [] := e.F__law_formula.bindsN fun _ _ _ _ _ _ us hl => match us, hl with | [_], _ => rfl
theorem b__law_refused (e : En K mg) : L2.Binds K e.fd__law_refused ["m", "part"] [] := e.F__law_refused.bindsN fun _ _ _ _ _ _ us hl => match us, hl with | [_, _], _ => rfl
theorem b_law (e : En K mg) : L2.Binds K e.fd_law ["script"] [] := e.F_law.bindsN fun _ _ _ _ _ _ us hl => match us, hl with | [_], _ => rfl
theorem ok_is_integer (e : En K mg) : FnOk P w K mg base (L2.CX P w) 1 (fAd K ("is_integer", none)) e.fd_is_integer ["value"] (spM (gg K) m_is_integer) := by
  refine fn_mn (γ := γ_is_integer) (F := fun _ _ => 0) (N := ["value"]) (b := t_is_integer) rfl e.F_is_integer ⟨rfl, rfl, rfl, by decide +kernel, rfl, by decide +kernel, by decide +kernel⟩ (by decide) (fun _ _ _ _ h => h) (len_fnD) fun Fu W cdv A outer s H E cS hr => ?_
  have c0 := cS.e
  exact (mss_cons (m_ret (m_and (m_isi (t := .int) c0 (fun _ h => nomatch h) rfl rfl e.h_isinstance rfl e.h_int rfl m_var) (m_one (m_not (m_isi (t := .bool) c0 (fun _ h => nomatch h) rfl rfl e.h_isinstance rfl e.h_bool rfl m_var))))) mss_nil)
theorem ok_check_partition (e : En K mg) : FnOk P w K mg base (L2.CX P w) 3 (fAd K ("check_partition", none)) e.fd_check_partition ["value"] (spM (gg K) m_check_partition) := by
  refine fn_mn (γ := γ_check_partition) (F := fun _ _ => 0) (N := ["value", "index", "item"]) (b := t_check_partition) rfl e.F_check_partition ⟨rfl, rfl, rfl, by decide +kernel, rfl, by decide +kernel, by decide +kernel⟩ (by decide) (fun _ _ _ _ h => h) (len_fnD) fun Fu W cdv A outer s H E cS hr => ?_
  have c0 := cS.e
  exact (mss_cons (m_ite (mt_bool (mw_or (mt_not (mt_val (m_isi (t := .tuple) c0 (fun _ h => nomatch h) rfl rfl e.h_isinstance rfl e.h_tuple rfl m_var))) (mw_or1 (mt_not (mt_chain (op := .le) (op2 := .le) c0 m_int (m_bltB (b := .len) c0 rfl rfl e.h_len rfl (ma_cons m_var ma_nil)) (m_glb (d := .int 6) (v := .int 6) rfl rfl e.h_MAX_SIZE.choose_spec ⟨_, rfl⟩ fun _ _ _ => .int _)))))) (mss_cons (m_raise0 (f := "position") c0 rfl rfl rfl e.cf.ox e.cf.ini e.cf.ity (ok_init e.FI e.cf e.gB) (hr.mono (by decide)) (bI0 e.FI).choose_spec.2 (bI0 e.FI).choose_spec.1 (fun _ _ _ => .non) rfl e.gI) mss_nil) mss_nil) (mss_cons (m_for cS (mi_enum c0 rfl e.h_enumerate m_var) (mg_tup c0 (mgs_cons (mg_nm c0 rfl (.inl rfl)) (mgs_cons (mg_nm c0 rfl (.inl rfl)) mgs_nil))) (mss_cons (m_ite (mt_bool (mw_or (mt_not (mt_val (m_call c0 rfl (ok_is_integer e) (hr.mono (by decide)) rfl e.g_is_integer e.F_is_integer.kp (b_is_integer e) (ma_cons m_var ma_nil)))) (mw_or1 (mt_bool (mw_and (mt_cmp (op := .gt) c0 m_var m_int) (mw_and1 (mt_cmp (op := .gt) c0 m_var (m_idx c0 m_var (m_bin (op := .sub) c0 m_var m_int))))))))) (mss_cons (m_raise1 (f := "position") (dd := []) (dvs := []) c0 rfl rfl rfl e.cf.ox e.cf.ini e.cf.ity (ok_init e.FI e.cf e.gB) (hr.mono (by decide)) (bI1 e.FI) .nil (fun _ _ _ => .nil) rfl e.gI (ma_cons m_var ma_nil)) mss_nil) mss_nil) mss_nil)) mss_nil))
theorem ok_check_nonnegative (e : En K mg) : FnOk P w K mg base (L2.CX P w) 4 (fAd K ("check_nonnegative", none)) e.fd_check_nonnegative ["value"] (spM (gg K) m_check_nonnegative) := by
  refine fn_mn (γ := γ_check_nonnegative) (F := fun _ _ => 0) (N := ["value", "index", "entry"]) (b := t_check_nonnegative) rfl e.F_check_nonnegative ⟨rfl, rfl, rfl, by decide +kernel, rfl, by decide +kernel, by decide +kernel⟩ (by decide) (fun _ _ _ _ h => h) (len_fnD) fun Fu W cdv A outer s H E cS hr => ?_
  have c0 := cS.e
  exact (mss_cons (m_expr (m_call c0 rfl (ok_check_partition e) (hr.mono (by decide)) rfl e.g_check_partition e.F_check_partition.kp (b_check_partition e) (ma_cons m_var ma_nil))) (mss_cons (m_for cS (mi_enum c0 rfl e.h_enumerate m_var) (mg_tup c0 (mgs_cons (mg_nm c0 rfl (.inl rfl)) (mgs_cons (mg_nm c0 rfl (.inl rfl)) mgs_nil))) (mss_cons (m_ite (mt_cmp (op := .lt) c0 m_var m_int) (mss_cons (m_raise1 (f := "position") (dd := []) (dvs := []) c0 rfl rfl rfl e.cf.ox e.cf.ini e.cf.ity (ok_init e.FI e.cf e.gB) (hr.mono (by decide)) (bI1 e.FI) .nil (fun _ _ _ => .nil) rfl e.gI (ma_cons m_var ma_nil)) mss_nil) mss_nil) mss_nil)) mss_nil))
theorem ok_dimension_of (e : En K mg) : FnOk P w K mg base (L2.CX P w) 1 (fAd K ("dimension_of", none)) e.fd_dimension_of ["partition"] (spM (gg K) m_dimension_of) := by
  refine fn_mn (γ := γ_dimension_of) (F := fun _ _ => 0) (N := ["partition", "j", "above", "below", "i"]) (b := t_dimension_of) rfl e.F_dimension_of ⟨rfl, rfl, rfl, by decide +kernel, rfl, by decide +kernel, by decide +kernel⟩ (by decide) (fun _ _ _ _ h => h) (len_fnD) fun Fu W cdv A outer s H E cS hr => ?_
  have c0 := cS.e
  exact (mss_cons (m_unp (m_tup (ma_cons m_int (ma_cons m_int ma_nil))) (mg_tup c0 (mgs_cons (mg_nm c0 rfl (.inl rfl)) (mgs_cons (mg_nm c0 rfl (.inl rfl)) mgs_nil)))) (mss_cons (m_for cS (mi_range1 rfl e.h_range (m_bltB (b := .len) c0 rfl rfl e.h_len rfl (ma_cons m_var ma_nil))) (mg_nm c0 rfl (.inl rfl)) (mss_cons (m_for cS (mi_range1 rfl e.h_range m_var) (mg_nm c0 rfl (.inl rfl)) (mss_cons (m_aug (op := .mul) c0 rfl (.inl rfl) (m_bin (op := .sub) c0 (m_bin (op := .add) c0 (m_bin (op := .sub) c0 (m_idx c0 m_var m_var) (m_idx c0 m_var m_var)) m_var) m_var)) (mss_cons (m_aug (op := .mul) c0 rfl (.inl rfl) (m_bin (op := .sub) c0 m_var m_var)) mss_nil))) mss_nil)) (mss_cons (m_ret (m_bin (op := .fdiv) c0 m_var m_var)) mss_nil)))
theorem ok_dimension (e : En K mg) : FnOk P w K mg base (L2.CX P w) 5 (fAd K ("dimension", none)) e.fd_dimension ["partition"] (spM (gg K) m_dimension) := by
  refine fn_mn (γ := γ_dimension) (F := fun _ _ => 0) (N := ["partition"]) (b := t_dimension) rfl e.F_dimension ⟨rfl, rfl, rfl, by decide +kernel, rfl, by decide +kernel, by decide +kernel⟩ (by decide) (fun _ _ _ _ h => h) (len_fnD) fun Fu W cdv A outer s H E cS hr => ?_
  have c0 := cS.e
  exact (mss_cons (m_expr (m_call c0 rfl (ok_check_nonnegative e) (hr.mono (by decide)) rfl e.g_check_nonnegative e.F_check_nonnegative.kp (b_check_nonnegative e) (ma_cons m_var ma_nil))) (mss_cons (m_ret (m_call c0 rfl (ok_dimension_of e) (hr.mono (by decide)) rfl e.g_dimension_of e.F_dimension_of.kp (b_dimension_of e) (ma_cons m_var ma_nil))) mss_nil))
theorem ok__law_mixed (e : En K mg) : FnOk P w K mg base (L2.CX P w) 1 (fAd K ("_law_mixed", none)) e.fd__law_mixed ["cell", "n"] (spM (gg K) m__law_mixed) := by
  refine fn_mn (γ := γ__law_mixed) (F := fun _ _ => 0) (N := ["cell", "n", "turned"]) (b := t__law_mixed) rfl e.F__law_mixed ⟨rfl, rfl, rfl, by decide +kernel, rfl, by decide +kernel, by decide +kernel⟩ (by decide) (fun _ _ _ _ h => h) (len_fnD) fun Fu W cdv A outer s H E cS hr => ?_
  have c0 := cS.e
  exact (mss_cons (m_set c0 rfl (.inl rfl) (m_bin (op := .add) c0 (m_bin (op := .add) c0 (m_bin (op := .mod) c0 (m_bin (op := .mul) c0 (m_bin (op := .mul) c0 m_var (m_bin (op := .add) c0 m_int (m_bin (op := .mul) c0 m_int m_var))) m_int) m_int) (m_bin (op := .mul) c0 (m_bin (op := .mul) c0 m_int m_var) m_var)) (m_bin (op := .mul) c0 m_int m_var))) (mss_cons (m_ret (m_bin (op := .fdiv) c0 (m_bin (op := .mod) c0 (m_bin (op := .mul) c0 m_var m_int) m_int) m_int)) mss_nil))
theorem ok__law_folded (e : En K mg) : FnOk P w K mg base (L2.CX P w) 1 (fAd K ("_law_folded", none)) e.fd__law_folded ["script"] (spM (gg K) m__law_folded) := by
  refine fn_mn (γ := γ__law_folded) (F := fun _ _ => 0) (N := ["script", "found", "n", "cell"]) (b := t__law_folded) rfl e.F__law_folded ⟨rfl, rfl, rfl, by decide +kernel, rfl, by decide +kernel, by decide +kernel⟩ (by decide) (fun _ _ _ _ h => h) (len_fnD) fun Fu W cdv A outer s H E cS hr => ?_
  have c0 := cS.e
  exact (mss_cons (m_setLcM (own := [("n", 2)]) c0 rfl rfl (sw_true rfl rfl rfl rfl) rfl (blkOk_by (by kernel_rfl)) (mi_range1 rfl e.h_range m_int) (fun _ _ _ _ _ c1 => (mg_nm c1 rfl (.inl rfl))) (fun _ _ _ _ _ c1 => mts_nil) (fun _ _ _ _ _ c1 => (m_bin (op := .add) c1 m_int m_var))) (mss_cons (m_for cS (mi_enum c0 rfl e.h_enumerate m_var) (mg_tup c0 (mgs_cons (mg_nm c0 rfl (.inl rfl)) (mgs_cons (mg_nm c0 rfl (.inl rfl)) mgs_nil))) (mss_cons (m_setIx c0 (m_bin (op := .mod) c0 (m_bin (op := .add) c0 (m_bin (op := .mul) c0 (m_idx c0 m_var (m_bin (op := .mod) c0 m_var m_int)) m_int) m_var) m_int) m_var (m_bin (op := .mod) c0 m_var m_int)) mss_nil)) (mss_cons (m_for cS (mi_range2 rfl e.h_range m_int m_int) (mg_nm c0 rfl (.inl rfl)) (mss_cons (m_setIx c0 (m_bin (op := .mod) c0 (m_bin (op := .add) c0 (m_idx c0 m_var m_var) (m_bin (op := .mul) c0 (m_idx c0 m_var (m_bin (op := .sub) c0 m_var m_int)) m_int)) m_int) m_var m_var) mss_nil)) (mss_cons (m_ret m_var) mss_nil))))
theorem ok__law_draw (e : En K mg) : FnOk P w K mg base (L2.CX P w) 2 (fAd K ("_law_draw", none)) e.fd__law_draw ["m", "top"] (spM (gg K) m__law_draw) := by
  refine fn_mn (γ := γ__law_draw) (F := fun _ _ => 0) (N := ["m", "top", "n", "at", "cell"]) (b := t__law_draw) rfl e.F__law_draw ⟨rfl, rfl, rfl, by decide +kernel, rfl, by decide +kernel, by decide +kernel⟩ (by decide) (fun _ _ _ _ h => h) (len_fnD) fun Fu W cdv A outer s H E cS hr => ?_
  have c0 := cS.e
  exact (mss_cons (m_set c0 rfl (.inl rfl) (m_idx c0 m_var m_str)) (mss_cons (m_setIx c0 (m_bin (op := .add) c0 m_var m_int) m_var m_str) (mss_cons (m_ite (mt_cmp (op := .ne) c0 (m_idx c0 m_var m_str) (m_val (ml_disp ma_nil))) (mss_cons (m_set c0 rfl (.inl rfl) (m_bin (op := .mod) c0 m_var (m_bltB (b := .len) c0 rfl rfl e.h_len rfl (ma_cons (m_idx c0 m_var m_str) ma_nil)))) (mss_cons (m_set c0 rfl (.inl rfl) (m_idx c0 (m_idx c0 m_var m_str) m_var)) (mss_cons (m_ite (mt_cmp (op := .gt) c0 m_var m_int) (mss_cons (m_setIx c0 (m_bin (op := .fdiv) c0 m_var m_var) (m_idx c0 m_var m_str) m_var) (mss_cons (m_ret (m_bin (op := .mod) c0 m_var m_var)) mss_nil)) mss_nil) mss_nil))) mss_nil) (mss_cons (m_ret (m_bin (op := .mod) c0 (m_call c0 rfl (ok__law_mixed e) (hr.mono (by decide)) rfl e.g__law_mixed e.F__law_mixed.kp (b__law_mixed e) (ma_cons (m_call c0 rfl (ok__law_mixed e) (hr.mono (by decide)) rfl e.g__law_mixed e.F__law_mixed.kp (b__law_mixed e) (ma_cons (m_bin (op := .add) c0 (m_idx c0 (m_idx c0 m_var m_str) (m_bin (op := .mod) c0 m_var m_int)) (m_bin (op := .mul) c0 m_int (m_bin (op := .fdiv) c0 m_var m_int))) (ma_cons m_var ma_nil))) (ma_cons (m_bin (op := .add) c0 m_var m_int) ma_nil))) m_var)) mss_nil))))
theorem ok__law_begun (e : En K mg) : FnOk P w K mg base (L2.CX P w) 2 (fAd K ("_law_begun", none)) e.fd__law_begun ["script"] (spM (gg K) m__law_begun) := by
  refine fn_mnK (γ := γ__law_begun) (F := fun _ _ => 0) (N := ["script", "m", "cell"]) (b := t__law_begun) rfl e.F__law_begun ⟨rfl, rfl, rfl, by decide +kernel, rfl, by decide +kernel, by decide +kernel⟩ (by decide) (fun _ _ _ _ h => h) (len_fnK) fun Fu W cdv A outer s H E cS hr => ?_
  have c0 := cS.e
  exact (mss_cons (m_set c0 rfl (.inl rfl) (m_dict (mks_consS (m_call c0 rfl (ok__law_folded e) (hr.mono (by decide)) rfl e.g__law_folded e.F__law_folded.kp (b__law_folded e) (ma_cons m_var ma_nil)) (mks_consS (m_val (ml_disp ma_nil)) (mks_consS m_int mks_nil))) rfl rfl (by decide) (by decide))) (mss_cons (m_setIx c0 (m_mk (ml_comp (own := [("cell", 2)]) c0 rfl (blkOk_by (by kernel_rfl)) (mi_seq c0 m_var) (fun _ _ _ _ _ c1 => (mg_nm c1 rfl (.inl rfl))) (fun _ _ _ _ _ c1 => mts_nil) (fun _ _ _ _ _ c1 => (m_ifx (mt_cmp (op := .ge) c1 m_var (m_bin (op := .pow) c1 m_int m_int)) m_var m_int)))) m_var m_str) (mss_cons (m_ret m_var) mss_nil)))
theorem ok__law_falling (e : En K mg) : FnOk P w K mg base (L2.CX P w) 3 (fAd K ("_law_falling", none)) e.fd__law_falling ["m", "many", "top"] (spM (gg K) m__law_falling) := by
  refine fn_mn (γ := γ__law_falling) (F := fun _ _ => 0) (N := ["m", "many", "top", "found", "n"]) (b := t__law_falling) rfl e.F__law_falling ⟨rfl, rfl, rfl, by decide +kernel, rfl, by decide +kernel, by decide +kernel⟩ (by decide) (fun _ _ _ _ h => h) (len_fnD) fun Fu W cdv A outer s H E cS hr => ?_
  have c0 := cS.e
  exact (mss_cons (m_set c0 rfl (.inl rfl) (m_bltB (b := .sorted) c0 rfl rfl e.h_sorted rfl (ma_cons (m_val (ml_comp (own := [("n", 4)]) c0 rfl (blkOk_by (by kernel_rfl)) (mi_range1 rfl e.h_range m_var) (fun _ _ _ _ _ c1 => (mg_nm c1 rfl (.inl rfl))) (fun _ _ _ _ _ c1 => mts_nil) (fun _ _ _ _ _ c1 => (m_idx c1 (m_val (ml_disp (ma_cons m_int (ma_cons (m_call c1 rfl (ok__law_draw e) (hr.mono (by decide)) rfl e.g__law_draw e.F__law_draw.kp (b__law_draw e) (ma_cons m_var (ma_cons (m_bin (op := .add) c1 m_var m_int) ma_nil))) (ma_cons (m_call c1 rfl (ok__law_draw e) (hr.mono (by decide)) rfl e.g__law_draw e.F__law_draw.kp (b__law_draw e) (ma_cons m_var (ma_cons (m_bin (op := .add) c1 m_var m_int) ma_nil))) (ma_cons m_var ma_nil)))))) (m_call c1 rfl (ok__law_draw e) (hr.mono (by decide)) rfl e.g__law_draw e.F__law_draw.kp (b__law_draw e) (ma_cons m_var (ma_cons m_int ma_nil))))))) ma_nil))) (mss_cons (m_ret (m_bltT (b := .tuple) c0 rfl rfl e.h_tuple rfl (ma_cons (m_rev c0 m_var) ma_nil))) mss_nil))
theorem ok__law_fillings (e : En K mg) : FnOk P w K mg base (L2.CX P w) 1 (fAd K ("_law_fillings", none)) e.fd__law_fillings ["part"] (spM (gg K) m__law_fillings) := by
  refine fn_mn (γ := γ__law_fillings) (F := fun _ _ => 0) (N := ["part", "i", "many", "found", "begun", "g", "longer", "one", "low", "number"]) (b := t__law_fillings) rfl e.F__law_fillings ⟨rfl, rfl, rfl, by decide +kernel, rfl, by decide +kernel, by decide +kernel⟩ (by decide) (fun _ _ _ _ h => h) (len_fnD) fun Fu W cdv A outer s H E cS hr => ?_
  have c0 := cS.e
  exact (mss_cons (m_par3 c0 rfl rfl rfl (by decide) (by decide) (by decide) rfl rfl rfl (m_bltB (b := .len) c0 rfl rfl e.h_len rfl (ma_cons m_var ma_nil)) (m_val (ml_disp (ma_cons (m_tup ma_nil) ma_nil))) m_int rfl) (mss_cons (m_for cS (mi_range1 rfl e.h_range m_var) (mg_nm c0 rfl (.inl rfl)) (mss_cons (m_for cS (mi_range1 rfl e.h_range (m_idx c0 m_var m_var)) (mg_nm c0 rfl (.inl rfl)) (mss_cons (m_set c0 rfl (.inl rfl) (m_val (ml_disp ma_nil))) (mss_cons (m_for cS (mi_seq c0 m_var) (mg_nm c0 rfl (.inr rfl)) (mss_cons (m_set c0 rfl (.inl rfl) (m_ifx (mt_cmp (op := .gt) c0 m_var m_int) (m_idx c0 m_var (m_neg m_int)) m_int)) (mss_cons (m_ite (mt_cmp (op := .gt) c0 m_var m_int) (mss_cons (m_set c0 rfl (.inl rfl) (m_bltB (b := .max2) c0 rfl rfl e.h_max rfl (ma_cons m_var (ma_cons (m_bin (op := .add) c0 (m_idx c0 m_var (m_bin (op := .add) c0 (m_bin (op := .sub) c0 m_var (m_idx c0 m_var (m_bin (op := .sub) c0 m_var m_int))) m_var)) m_int) ma_nil)))) mss_nil) mss_nil) (mss_cons (m_set c0 rfl (.inl rfl) (m_val (ml_cat m_var (m_val (ml_comp (own := [("number", 9)]) c0 rfl (blkOk_by (by kernel_rfl)) (mi_range2 rfl e.h_range m_var (m_bin (op := .add) c0 m_var m_int)) (fun _ _ _ _ _ c1 => (mg_nm c1 rfl (.inl rfl))) (fun _ _ _ _ _ c1 => mts_nil) (fun _ _ _ _ _ c1 => (m_bin (op := .add) c1 m_var (m_tup (ma_cons m_var ma_nil))))))))) mss_nil)))) (mss_cons (m_set c0 rfl (.inl rfl) m_var) mss_nil)))) (mss_cons (m_set c0 rfl (.inl rfl) (m_bin (op := .add) c0 m_var (m_idx c0 m_var m_var))) mss_nil))) (mss_cons (m_ret m_var) mss_nil)))
theorem ok__law_formula (e : En K mg) : FnOk P w K mg base (L2.CX P w) 1 (fAd K ("_law_formula", none)) e.fd__law_formula ["part"] (spM (gg K) m__law_formula) := by
  refine fn_mn (γ := γ__law_formula) (F := fun _ _ => 0) (N := ["part", "j", "above", "below", "i"]) (b := t__law_formula) rfl e.F__law_formula ⟨rfl, rfl, rfl, by decide +kernel, rfl, by decide +kernel, by decide +kernel⟩ (by decide) (fun _ _ _ _ h => h) (len_fnD) fun Fu W cdv A outer s H E cS hr => ?_
  have c0 := cS.e
  exact (mss_cons (m_unp (m_tup (ma_cons m_int (ma_cons m_int ma_nil))) (mg_tup c0 (mgs_cons (mg_nm c0 rfl (.inl rfl)) (mgs_cons (mg_nm c0 rfl (.inl rfl)) mgs_nil)))) (mss_cons (m_for cS (mi_range1 rfl e.h_range (m_bltB (b := .len) c0 rfl rfl e.h_len rfl (ma_cons m_var ma_nil))) (mg_nm c0 rfl (.inl rfl)) (mss_cons (m_for cS (mi_range1 rfl e.h_range m_var) (mg_nm c0 rfl (.inl rfl)) (mss_cons (m_set c0 rfl (.inl rfl) (m_bin (op := .mul) c0 m_var (m_bin (op := .sub) c0 (m_bin (op := .add) c0 (m_bin (op := .sub) c0 (m_idx c0 m_var m_var) (m_idx c0 m_var m_var)) m_var) m_var))) (mss_cons (m_set c0 rfl (.inl rfl) (m_bin (op := .mul) c0 m_var (m_bin (op := .sub) c0 m_var m_var))) mss_nil))) mss_nil)) (mss_cons (m_ret (m_ifx (mt_cmp (op := .eq) c0 (m_bin (op := .mod) c0 m_var m_var) m_int) (m_bin (op := .fdiv) c0 m_var m_var) m_non)) mss_nil)))
theorem ok__law_refused (e : En K mg) : FnOk P w K mg base (L2.CX P w) 3 (fAd K ("_law_refused", none)) e.fd__law_refused ["m", "part"] (spM (gg K) m__law_refused) := by
  refine fn_mnK (γ := γ__law_refused) (F := fun _ _ => 0) (N := ["m", "part", "rows", "at", "bad", "low"]) (b := t__law_refused) rfl e.F__law_refused ⟨rfl, rfl, rfl, by decide +kernel, rfl, by decide +kernel, by decide +kernel⟩ (by decide) (fun _ _ _ _ h => h) (len_fnK) fun Fu W cdv A outer s H E cS hr => ?_
  have c0 := cS.e
  exact (mss_cons (m_setLcM (own := [("bad", 4)]) c0 rfl rfl (sw_true rfl rfl rfl rfl) rfl (blkOk_by (by kernel_rfl)) (mi_seq c0 (m_val (ml_disp (ma_cons m_non (ma_cons m_int (ma_cons m_str (ma_cons (m_tup ma_nil) (ma_cons (m_val (ml_disp ma_nil)) (ma_cons (m_bltT (b := .list) c0 rfl rfl e.h_list rfl (ma_cons m_var ma_nil)) (ma_cons (m_dnewK) (ma_cons (m_bin (op := .mul) c0 m_var m_int) ma_nil))))))))))) (fun _ _ _ _ _ c1 => (mg_nm c1 rfl (.inl rfl))) (fun _ _ _ _ _ c1 => mts_nil) (fun _ _ _ _ _ c1 => (m_tup (ma_cons m_var (ma_cons (m_tup (ma_cons m_str (ma_cons m_non ma_nil))) ma_nil))))) (mss_cons (m_set c0 rfl (.inl rfl) (m_call c0 rfl (ok__law_draw e) (hr.mono (by decide)) rfl e.g__law_draw e.F__law_draw.kp (b__law_draw e) (ma_cons m_var (ma_cons (m_bltB (b := .len) c0 rfl rfl e.h_len rfl (ma_cons m_var ma_nil)) ma_nil)))) (mss_cons (m_for cS (mi_seq c0 (m_val (ml_disp (ma_cons m_bl (ma_cons m_non (ma_cons m_str (ma_cons (m_tup (ma_cons m_int ma_nil)) (ma_cons (m_val (ml_disp (ma_cons m_int ma_nil))) ma_nil)))))))) (mg_nm c0 rfl (.inl rfl)) (mss_cons (m_app c0 m_var (m_tup (ma_cons (m_bin (op := .add) c0 (m_bin (op := .add) c0 (m_slc c0 m_var mo_no (mo_some m_var)) (m_tup (ma_cons m_var ma_nil))) (m_slc c0 m_var (mo_some (m_bin (op := .add) c0 m_var m_int)) mo_no)) (ma_cons (m_tup (ma_cons m_str (ma_cons m_var ma_nil))) ma_nil)))) mss_nil)) (mss_cons (m_ite (mt_cmp (op := .gt) c0 m_var m_int) (mss_cons (m_app c0 m_var (m_tup (ma_cons (m_bin (op := .add) c0 (m_bin (op := .add) c0 (m_slc c0 m_var mo_no (mo_some m_var)) (m_tup (ma_cons (m_bin (op := .add) c0 (m_idx c0 m_var (m_bin (op := .sub) c0 m_var m_int)) m_int) ma_nil))) (m_slc c0 m_var (mo_some (m_bin (op := .add) c0 m_var m_int)) mo_no)) (ma_cons (m_tup (ma_cons m_str (ma_cons m_var ma_nil))) ma_nil)))) mss_nil) mss_nil) (mss_cons (m_set c0 rfl (.inl rfl) (m_bin (op := .add) c0 (m_slc c0 m_var mo_no (mo_some m_var)) (m_bin (op := .mul) c0 (m_tup (ma_cons (m_neg m_int) ma_nil)) (m_bin (op := .sub) c0 (m_bltB (b := .len) c0 rfl rfl e.h_len rfl (ma_cons m_var ma_nil)) m_var)))) (mss_cons (m_set c0 rfl (.inl rfl) (m_mk (ml_cat m_var (m_val (ml_disp (ma_cons (m_tup (ma_cons (m_tup (ma_cons (m_neg m_int) (ma_cons m_int ma_nil))) (ma_cons (m_tup (ma_cons m_str (ma_cons m_int ma_nil))) ma_nil))) (ma_cons (m_tup (ma_cons (m_tup (ma_cons m_int (ma_cons (m_neg m_int) (ma_cons m_bl ma_nil)))) (ma_cons (m_tup (ma_cons m_str (ma_cons m_int ma_nil))) ma_nil))) ma_nil))))))) (mss_cons (m_app c0 m_var (m_tup (ma_cons (m_bin (op := .add) c0 (m_slc c0 m_var mo_no (mo_some m_var)) (m_tup (ma_cons (m_neg m_int) (ma_cons m_non ma_nil)))) (ma_cons (m_tup (ma_cons m_str (ma_cons (m_ifx (mt_cmp (op := .lt) c0 m_var m_int) (m_bin (op := .add) c0 m_var m_int) m_non) ma_nil))) ma_nil)))) (mss_cons (m_ret (m_val (ml_cat m_var (m_val (ml_disp (ma_cons (m_tup (ma_cons m_var (ma_cons (m_tup (ma_cons m_str (ma_cons m_var ma_nil))) ma_nil))) (ma_cons (m_tup (ma_cons (m_bin (op := .add) c0 (m_tup (ma_cons (m_neg m_int) ma_nil)) (m_bin (op := .mul) c0 (m_tup (ma_cons (m_neg m_int) ma_nil)) (m_bin (op := .sub) c0 (m_bltB (b := .len) c0 rfl rfl e.h_len rfl (ma_cons m_var ma_nil)) m_int))) (ma_cons (m_tup (ma_cons m_str (ma_cons m_int ma_nil))) ma_nil))) ma_nil))))))) mss_nil))))))))
end
end K70
end
section
namespace K70
open PySem PySem.Spec PyProof.Rows L2 Mn He
section
variable {P : Program} {w : World} {K : PySem.W.Frag} {mg : Str → Option Value} {base : Heap}
theorem cls_c {ec : Nat} {C : Addr} (h : (gg K).cls ec = some C) : ec = 1 ∧ C = ga K "InvalidPartition" := by
  unfold gg at h
  dsimp only at h
  split at h
  · cases h; exact ⟨rfl, rfl⟩
  · cases h
theorem exm_c (e : En K mg) : ∀ ec C, (gg K).cls ec = some C → PySem.W.exmOne (gg K).K (.ref C) (.ref (ga K "ThreerimsError")) = some (γ0.sub ec 0) := fun ec C h => by
  obtain ⟨rfl, rfl⟩ := cls_c h
  exact e.exm
theorem iso_c (e : En K mg) : ∀ ec C, (gg K).cls ec = some C → ExcK (gg K).K C ∧ PySem.W.kitOne (gg K).K (.ref C) (.ref (ga K "InvalidPartition")) = some (γ0.sub ec 1) := fun ec C h => by
  obtain ⟨rfl, rfl⟩ := cls_c h
  exact ⟨e.cf.ek, e.kit⟩
theorem fld_c (e : En K mg) : ∀ C, (gg K).cls 1 = some C → XfC (gg K).K C ∧ PySem.W.findIn (gg K).K (.ref C) "position" = some none := fun C h => by
  obtain ⟨_, rfl⟩ := cls_c h
  exact ⟨e.cf.xf, e.cf.no _ (by simp)⟩
theorem scT : FnScope ["deed", "error", "found", "e"] ["deed"] (defScope s__law_told) := ⟨rfl, rfl, rfl, by decide +kernel, rfl, by decide +kernel, by decide +kernel⟩
theorem rest_c (e : En K mg) {A : Around} {outer : List Env} {f : Addr} {cd : Value} {s : Shared} {H : Hp} (cS : CtxS (gg K) W0 (cxOf C8.CX0 P w K mg base ["deed", "error", "found", "e"] "_law_told" (defScope s__law_told) f cd A outer s H C8.E0).nox) :
    Mss γ0 0 (gg K) W0 (cxOf C8.CX0 P w K mg base ["deed", "error", "found", "e"] "_law_told" (defScope s__law_told) f cd A outer s H C8.E0).nox ((defBody s__law_told).drop 2) t_rest := by
  have c0 := cS.e
  exact (mss_cons (m_ite (mt_cmp (op := .isN) c0 m_var m_non) (mss_cons (m_ret m_var) mss_nil) mss_nil) (mss_cons (m_ret (m_ifx (mt_val (m_isiO c0 rfl rfl e.h_isinstance rfl e.gI (iso_c e) m_var)) (m_tup (ma_cons m_str (ma_cons (m_fld c0 rfl (fld_c e) m_var) ma_nil))) (m_tup (ma_cons m_str ma_nil)))) mss_nil))
def γ_law : Gam := { γ0 with fn := fun k => match k with | 4 => m_dimension | 7 => m__law_draw | 8 => m__law_begun | 9 => m__law_falling | 11 => m__law_fillings | 12 => m__law_formula | 13 => m__law_refused | _ => fun _ _ => none, told := fun _ => toldM γ0 0 t_rest 0 }
def m_law : List D → Mem → Option (R D) := fnD γ_law (fun _ _ => 0) 1 10 t_law
theorem ok_law (e : En K mg) (TB : LamX.TabB base mg (codeOf K ("law", none)) (tabOf K (codeOf K ("law", none)))) : FnOk P w K mg base (L2.CX P w) 9 (fAd K ("law", none)) e.fd_law ["script"] (spM (gg K) m_law) := by
  obtain ⟨oc, od, dV, kV, doc, pm, an, cdvT, ct, osl, efd, lkT, hcT, hD, hK⟩ := e.F__law_told.ex
  rw [efd] at lkT
  have bT := b__law_told e
  rw [efd] at bT
  have lkL := e.F_law.ex
  refine fn_mnC (γ := γ_law) (F := fun _ _ => 0) (N := ["script", "m", "n", "small", "part", "due", "more", "bad", "told", "one"]) (b := t_law) rfl e.F_law ⟨rfl, rfl, rfl, by decide +kernel, rfl, by decide +kernel, by decide +kernel⟩ (by decide) (fun _ _ _ _ h => h) (len_fnD) fun Fu W cdv A outer s H E ecd cS hr => ?_
  have c0 := cS.e
  have hcode : cdv = .ref (codeOf K ("law", none)) := by
    obtain ⟨oc2, od2, dV2, kV2, doc2, pm2, an2, cdv2, ct2, osl2, efd2, lk2, hc2, _, _⟩ := lkL
    obtain ⟨c, ec⟩ := codeIn_ref hc2
    have e1 : e.fd_law.code = .ref c := by rw [efd2, ← ec]
    rw [codeOf_eq lk2 e1, ← ecd, e1]
  subst hcode
  exact (mss_cons (m_set c0 rfl (.inl rfl) (m_call c0 rfl (ok__law_begun e) (hr.mono (by decide)) rfl e.g__law_begun e.F__law_begun.kp (b__law_begun e) (ma_cons m_var ma_nil))) (mss_cons (m_for cS (mi_range1 rfl e.h_range m_int) (mg_nm c0 rfl (.inl rfl)) (mss_cons (m_set c0 rfl (.inl rfl) (m_call c0 rfl (ok__law_falling e) (hr.mono (by decide)) rfl e.g__law_falling e.F__law_falling.kp (b__law_falling e) (ma_cons m_var (ma_cons (m_bin (op := .add) c0 m_int (m_call c0 rfl (ok__law_draw e) (hr.mono (by decide)) rfl e.g__law_draw e.F__law_draw.kp (b__law_draw e) (ma_cons m_var (ma_cons m_int ma_nil)))) (ma_cons m_int ma_nil))))) (mss_cons (m_ite (mt_cmp (op := .ne) c0 (m_call c0 rfl (ok_dimension e) (hr.mono (by decide)) rfl e.g_dimension e.F_dimension.kp (b_dimension e) (ma_cons m_var ma_nil)) (m_bltB (b := .len) c0 rfl rfl e.h_len rfl (ma_cons (m_call c0 rfl (ok__law_fillings e) (hr.mono (by decide)) rfl e.g__law_fillings e.F__law_fillings.kp (b__law_fillings e) (ma_cons m_var ma_nil)) ma_nil))) (mss_cons (m_ret m_bl) mss_nil) mss_nil) (mss_cons (m_set c0 rfl (.inr rfl) (m_call c0 rfl (ok__law_falling e) (hr.mono (by decide)) rfl e.g__law_falling e.F__law_falling.kp (b__law_falling e) (ma_cons m_var (ma_cons (m_bin (op := .add) c0 m_int (m_call c0 rfl (ok__law_draw e) (hr.mono (by decide)) rfl e.g__law_draw e.F__law_draw.kp (b__law_draw e) (ma_cons m_var (ma_cons m_int ma_nil)))) (ma_cons (m_idx c0 (m_val (ml_disp (ma_cons m_int (ma_cons m_int (ma_cons m_int ma_nil))))) (m_call c0 rfl (ok__law_draw e) (hr.mono (by decide)) rfl e.g__law_draw e.F__law_draw.kp (b__law_draw e) (ma_cons m_var (ma_cons m_int ma_nil)))) ma_nil))))) (mss_cons (m_unp (m_tup (ma_cons (m_call c0 rfl (ok__law_formula e) (hr.mono (by decide)) rfl e.g__law_formula e.F__law_formula.kp (b__law_formula e) (ma_cons m_var ma_nil)) (ma_cons (m_call c0 rfl (ok__law_draw e) (hr.mono (by decide)) rfl e.g__law_draw e.F__law_draw.kp (b__law_draw e) (ma_cons m_var (ma_cons m_int ma_nil))) ma_nil))) (mg_tup c0 (mgs_cons (mg_nm c0 rfl (.inl rfl)) (mgs_cons (mg_nm c0 rfl (.inr rfl)) mgs_nil)))) (mss_cons (m_ite (mt_bool (mw_or (mt_cmp (op := .ne) c0 (m_call c0 rfl (ok_dimension e) (hr.mono (by decide)) rfl e.g_dimension e.F_dimension.kp (b_dimension e) (ma_cons m_var ma_nil)) m_var) (mw_or1 (mt_cmp (op := .ne) c0 (m_call c0 rfl (ok_dimension e) (hr.mono (by decide)) rfl e.g_dimension e.F_dimension.kp (b_dimension e) (ma_cons (m_bltT (b := .tuple) c0 rfl rfl e.h_tuple rfl (ma_cons (m_val (ml_comp (own := [("one", 9)]) c0 rfl (blkOk_by (by kernel_rfl)) (mi_seq c0 m_var) (fun _ _ _ _ _ c1 => (mg_nm c1 rfl (.inl rfl))) (fun _ _ _ _ _ c1 => mts_nil) (fun _ _ _ _ _ c1 => (m_bin (op := .add) c1 m_var m_var)))) ma_nil)) ma_nil)) m_var)))) (mss_cons (m_ret m_bl) mss_nil) mss_nil) (mss_cons (m_ite (mt_cmp (op := .ne) c0 (m_call c0 rfl (ok_dimension e) (hr.mono (by decide)) rfl e.g_dimension e.F_dimension.kp (b_dimension e) (ma_cons (m_bltT (b := .tuple) c0 rfl rfl e.h_tuple rfl (ma_cons (m_val (ml_comp (own := [("one", 9)]) c0 rfl (blkOk_by (by kernel_rfl)) (mi_seq c0 (m_rev c0 m_var)) (fun _ _ _ _ _ c1 => (mg_nm c1 rfl (.inl rfl))) (fun _ _ _ _ _ c1 => mts_nil) (fun _ _ _ _ _ c1 => (m_bin (op := .sub) c1 (m_idx c1 m_var m_int) m_var)))) ma_nil)) ma_nil)) m_var) (mss_cons (m_ret m_bl) mss_nil) mss_nil) (mss_cons (m_for cS (mi_seq c0 (m_call c0 rfl (ok__law_refused e) (hr.mono (by decide)) rfl e.g__law_refused e.F__law_refused.kp (b__law_refused e) (ma_cons m_var (ma_cons m_var ma_nil)))) (mg_tup c0 (mgs_cons (mg_nm c0 rfl (.inr rfl)) (mgs_cons (mg_nm c0 rfl (.inl rfl)) mgs_nil))) (mss_cons (m_ite (mt_cmp (op := .ne) c0 (m_told (k := 5) (γ := γ_law) (ψ := toldM γ0 0 t_rest 0) (x := "_law_told") (a := "deed") (Ng := ["deed", "error", "found", "e"]) c0 rfl rfl e.g__law_told e.F__law_told.kp lkT hcT bT scT rfl (.inl rfl) (gives_A (γ := γ0) (F := 0) (k := 0) ⟨c0.K, c0.nd, c0.calm, c0.units, LamX.takes0⟩ scT rfl rfl rfl rfl e.gB (by decide) (by decide) (by decide) (exm_c e) (fun env h1 _ => by cases env; dsimp only at h1; subst h1; rfl) (fun cd s H cS2 => rest_c e cS2) (by have := hr.un; show (A.deeper _).units + 100 < cLine; omega)) TB (rfl) (List.mem_singleton.mpr rfl) (fun p hp _ => by rw [List.mem_singleton.mp hp]; rfl) (hr.mono (by decide)) (LamX.lamS_by (by kernel_rfl)) rfl (fun _ _ _ _ _ => rfl) fun _ _ _ _ _ _ _ _ c1 hr => (m_call c1 rfl (ok_dimension e) (hr.mono (by decide)) rfl e.g_dimension e.F_dimension.kp (b_dimension e) (ma_cons m_var ma_nil))) m_var) (mss_cons (m_ret m_bl) mss_nil) mss_nil) mss_nil)) mss_nil)))))))) (mss_cons (m_ret (m_and (m_cmp (op := .eq) c0 (m_call c0 rfl (ok_dimension e) (hr.mono (by decide)) rfl e.g_dimension e.F_dimension.kp (b_dimension e) (ma_cons (m_tup (ma_cons m_int (ma_cons m_int (ma_cons m_int ma_nil)))) ma_nil)) m_int) (m_and (m_cmp (op := .eq) c0 (m_call c0 rfl (ok_dimension e) (hr.mono (by decide)) rfl e.g_dimension e.F_dimension.kp (b_dimension e) (ma_cons (m_tup (ma_cons m_int ma_nil)) ma_nil)) m_int) (m_one (m_cmp (op := .eq) c0 (m_call c0 rfl (ok_dimension e) (hr.mono (by decide)) rfl e.g_dimension e.F_dimension.kp (b_dimension e) (ma_cons (m_tup (ma_cons m_int (ma_cons m_int (ma_cons m_int (ma_cons m_int (ma_cons m_int (ma_cons m_int ma_nil))))))) ma_nil)) m_int))))) mss_nil)))
end
end K70
end
section
namespace K70
open PySem PySem.Spec PyProof.Rows L2 Mn
def mx (c n : Int) : Int := ((c * (1 + 2 * n) * 48271) % 2147483647 + 7919 * n * n + 104729 * n) * 69621 % 2147483629 / 7
theorem mx_nn (c n : Int) : 0 ≤ mx c n := by unfold mx; omega
theorem mixed_ok {c n : Int} {μ : Mem} (w : Wf μ) (h0 : 0 ≤ n) (h1 : n < 2 ^ 60) : m__law_mixed [.int c, .int n] μ = some (.ok (.int (mx c n)) μ) := by
  refine fnD_rt0 rfl w rfl ?_
  have e1 : mulOk 2 n = true := mulOkL (by decide)
  have e2 : mulOk c (1 + 2 * n) = true := mulOkR (by omega)
  have e3 : mulOk (c * (1 + 2 * n)) 48271 = true := mulOkR (by decide)
  have e4 : mulOk 7919 n = true := mulOkL (by decide)
  have e5 : mulOk (7919 * n) n = true := mulOkR (by omega)
  have e6 : mulOk 104729 n = true := mulOkL (by decide)
  have e7 : ∀ t : Int, mulOk t 69621 = true := fun t => mulOkR (by decide)
  have e8 : divOk 7 = true := divOk_of (by decide) (by decide)
  simp [t__law_mixed, evSs, evS, evE, binD, e1, e2, e3, e4, e5, e6, e7, e8, mx]
theorem ixN_in {n : Nat} {i : Int} (h0 : 0 ≤ i) (h1 : i < n) : ixN n i = some i.toNat := by
  unfold ixN
  rw [if_pos h0, if_pos h1]
theorem atI_ints {cs : List Int} {i : Int} (h0 : 0 ≤ i) (h1 : i < cs.length) : atI (cs.map D.int) i = some (.int (cs[i.toNat]?.getD 0)) := by
  unfold atI
  rw [ixN_in h0 (by simpa using h1), Option.bind_some, List.getElem?_map]
  have : i.toNat < cs.length := by omega
  rw [List.getElem?_eq_getElem this]
  rfl
def C64 (d : D) : Prop := ∃ cs : List Int, cs.length = 64 ∧ d = .lst (cs.map .int)
theorem low_ints (k : Nat) (cs : List Int) : lowL k (cs.map D.int) = true := by
  induction cs with
  | nil => rfl
  | cons c cs ih => simp [lowL, lowD, ih]
theorem py64 {i : Int} : 0 ≤ i % 64 ∧ i % 64 < 64 := by omega
theorem folded_ok {ns : List Int} : ∃ cs : List Int, cs.length = 64 ∧ m__law_folded [.kls (ns.map .int)] [] = some (.ok (.lst (cs.map .int)) []) := by
  have pm : ∀ t : Int, 0 < (2147483647 : Int) := fun _ => by decide
  have g1 : goL (fun x acc μ2 => (asgTg (.nm 2) x [some (.kls (ns.map .int)), none, none, none]).bind fun sl2 => elS (evT γ__law_folded .no sl2) (evE γ__law_folded (.bin .add (.int 17) (.var 2)) sl2) acc μ2) ((List.range 64).map fun (i : Nat) => D.int (0 + (i : Int))) [] [] = some (((List.range 64).map fun (i : Nat) => D.int (17 + (i : Int))), []) := by
    rw [goL_map (h := fun d => match d with | .int i => .int (17 + i) | d => d)]
    · simp
    · rw [sizeLine_eq]; simp
    · intro x hx acc hacc
      obtain ⟨i, hi, rfl⟩ := List.mem_map.mp hx
      simp [asgTg, elS, evT, evE, binD, hacc]
  have L1 := forGo_inv (f := fun x sl1 μ2 => (asgTg (.tup [2, 3]) x sl1).bind fun sl2 => evSs γ__law_folded 0 (.cons (.setIx (.var 1) (.bin .mod (.var 2) (.int 64)) (.bin .mod (.bin .add (.bin .mul (.idx (.var 1) (.bin .mod (.var 2) (.int 64))) (.int 48271)) (.var 3)) (.int 2147483647))) .nil) sl2 μ2)
    (fun _ sl m => (∃ x y, sl = [some (.kls (ns.map .int)), some (.ref 0), x, y]) ∧ ∃ cs : List Int, cs.length = 64 ∧ m = [.lst (cs.map .int)]) (enumD (ns.map .int)) 0
  have L2 := forGo_inv (f := fun x sl1 μ2 => (asgTg (.nm 2) x sl1).bind fun sl2 => evSs γ__law_folded 0 (.cons (.setIx (.var 1) (.var 2) (.bin .mod (.bin .add (.idx (.var 1) (.var 2)) (.bin .mul (.idx (.var 1) (.bin .sub (.var 2) (.int 1))) (.int 16807))) (.int 2147483647))) .nil) sl2 μ2)
    (fun _ sl m => (∃ x y, sl = [some (.kls (ns.map .int)), some (.ref 0), x, y]) ∧ ∃ cs : List Int, cs.length = 64 ∧ m = [.lst (cs.map .int)]) ((List.range 63).map fun (i : Nat) => D.int (1 + (i : Int))) 0
  obtain ⟨sl1, m1, e1, ⟨x1, y1, hs1⟩, cs1, hc1, hm1⟩ := L1 [some (.kls (ns.map .int)), some (.ref 0), none, none] [.lst ((List.range 64).map fun (i : Nat) => D.int (17 + (i : Int)))] ⟨⟨none, none, rfl⟩, (List.range 64).map fun (i : Nat) => 17 + (i : Int), by simp, by rw [List.map_map]; rfl⟩ (by
    rintro i x sl m hx ⟨⟨a, b, rfl⟩, cs, hc, rfl⟩
    unfold enumD at hx
    rw [List.getElem?_zipWith] at hx
    cases q1 : (List.range (ns.map D.int).length)[i]? with
    | none => rw [q1] at hx; cases hx
    | some j =>
      cases q2 : (ns.map D.int)[i]? with
      | none => rw [q1, q2] at hx; cases hx
      | some d =>
        rw [q1, q2] at hx
        cases hx
        rw [List.getElem?_map] at q2
        cases q3 : ns[i]? with
        | none => rw [q3] at q2; cases q2
        | some c =>
          rw [q3] at q2
          cases q2
          have h64 := @py64 (j : Int)
          have hat := atI_ints (cs := cs) (i := (j : Int) % 64) h64.1 (by rw [hc]; exact h64.2)
          have hix : ixN 64 ((j : Int) % 64) = some ((j : Int) % 64).toNat := ixN_in h64.1 h64.2
          have hmul : ∀ t : Int, mulOk t 48271 = true := fun t => mulOkR (by decide)
          refine ⟨[some (.kls (ns.map .int)), some (.ref 0), some (.int j), some (.int c)], [.lst ((cs.map D.int).set ((j : Int) % 64).toNat (.int (((cs[((j : Int) % 64).toNat]?.getD 0) * 48271 + c) % 2147483647)))], ?_, ⟨_, _, rfl⟩, cs.set ((j : Int) % 64).toNat (((cs[((j : Int) % 64).toNat]?.getD 0) * 48271 + c) % 2147483647), by simpa using hc, ?_⟩
          · simp [asgTg, evSs, evS, evE, binD, idxD, hat, hmul, setIxD, hc, hix]
          · simp [List.map_set])
  obtain ⟨sl2, m2, e2, ⟨x2, y2, hs2⟩, cs2, hc2, hm2⟩ := L2 sl1 m1 ⟨⟨x1, y1, hs1⟩, cs1, hc1, hm1⟩ (by
    rintro i x sl m hx ⟨⟨a, b, rfl⟩, cs, hc, rfl⟩
    rw [List.getElem?_map] at hx
    cases q1 : (List.range 63)[i]? with
    | none => rw [q1] at hx; cases hx
    | some j =>
      rw [q1] at hx
      cases hx
      obtain ⟨hi, ej⟩ := List.getElem?_eq_some_iff.mp q1
      rw [List.getElem_range] at ej
      subst ej
      have hi : i < 63 := by simpa using hi
      have hat := atI_ints (cs := cs) (i := 1 + (i : Int)) (by omega) (by rw [hc]; omega)
      have hat2 := atI_ints (cs := cs) (i := 1 + (i : Int) - 1) (by omega) (by rw [hc]; omega)
      have hix : ixN 64 (1 + (i : Int)) = some (1 + (i : Int)).toNat := ixN_in (by omega) (by omega)
      have hmul : ∀ t : Int, mulOk t 16807 = true := fun t => mulOkR (by decide)
      refine ⟨[some (.kls (ns.map .int)), some (.ref 0), some (.int (1 + (i : Int))), b], [.lst ((cs.map D.int).set (1 + (i : Int)).toNat (.int (((cs[(1 + (i : Int)).toNat]?.getD 0) + (cs[(1 + (i : Int) - 1).toNat]?.getD 0) * 16807) % 2147483647)))], ?_, ⟨_, _, rfl⟩, cs.set (1 + (i : Int)).toNat (((cs[(1 + (i : Int)).toNat]?.getD 0) + (cs[(1 + (i : Int) - 1).toNat]?.getD 0) * 16807) % 2147483647), by simpa using hc, ?_⟩
      · have z1 : (1 + (i : Int) - 1) = i := by omega
        rw [z1] at hat2 ⊢
        simp [asgTg, evSs, evS, evE, binD, idxD, hat, hat2, hmul, setIxD, hc, hix, z1]
      · simp [List.map_set])
  refine ⟨cs2, hc2, ?_⟩
  have r1 : rangeD 0 64 = some ((List.range 64).map fun (i : Nat) => D.int (0 + (i : Int))) := by
    unfold rangeD
    rw [if_pos (by decide)]
    rfl
  have r2 : rangeD 1 64 = some ((List.range 63).map fun (i : Nat) => D.int (1 + (i : Int))) := by
    unfold rangeD
    rw [if_pos (by decide)]
    rfl
  have z1 : evS γ__law_folded 0 (.set 1 (.mk (.comp (.bin .add (.int 17) (.var 2)) (.nm 2) (.range .no (.some (.int 64))) .no))) [some (.kls (ns.map .int)), none, none, none] [] = some (.nx [some (.kls (ns.map .int)), some (.ref 0), none, none] [.lst ((List.range 64).map fun (i : Nat) => D.int (17 + (i : Int)))]) := by
    have g2 : evL γ__law_folded (.comp (.bin .add (.int 17) (.var 2)) (.nm 2) (.range .no (.some (.int 64))) .no) [some (.kls (ns.map .int)), none, none, none] [] = some (.ok ((List.range 64).map fun (i : Nat) => D.int (17 + (i : Int))) []) := by
      have gi : evI γ__law_folded (.range .no (.some (.int 64))) [some (.kls (ns.map .int)), none, none, none] [] = some (.ok ((List.range 64).map fun (i : Nat) => D.int (0 + (i : Int))) []) := by
        simp only [evI, evEo, evE, bind_ok, asI_int, Option.bind_some, Option.getD_none, r1, pureR_some]
      rw [evL, gi, bind_ok]
      show okL (goL (fun x acc μ2 => (asgTg (.nm 2) x [some (.kls (ns.map .int)), none, none, none]).bind fun sl2 => elS (evT γ__law_folded .no sl2) (evE γ__law_folded (.bin .add (.int 17) (.var 2)) sl2) acc μ2) _ [] []) = _
      rw [g1]
      rfl
    rw [evS, evE, g2]
    rfl
  have z2 : evS γ__law_folded 0 (.for_ (.tup [2, 3]) (.enum (.var 0)) (.cons (.setIx (.var 1) (.bin .mod (.var 2) (.int 64)) (.bin .mod (.bin .add (.bin .mul (.idx (.var 1) (.bin .mod (.var 2) (.int 64))) (.int 48271)) (.var 3)) (.int 2147483647))) .nil)) [some (.kls (ns.map .int)), some (.ref 0), none, none] [.lst ((List.range 64).map fun (i : Nat) => D.int (17 + (i : Int)))] = some (.nx sl1 m1) := by
    rw [evS, evI, evE]
    exact e1
  have z3 : evS γ__law_folded 0 (.for_ (.nm 2) (.range (.some (.int 1)) (.some (.int 64))) (.cons (.setIx (.var 1) (.var 2) (.bin .mod (.bin .add (.idx (.var 1) (.var 2)) (.bin .mul (.idx (.var 1) (.bin .sub (.var 2) (.int 1))) (.int 16807))) (.int 2147483647))) .nil)) sl1 m1 = some (.nx sl2 m2) := by
    have gi : evI γ__law_folded (.range (.some (.int 1)) (.some (.int 64))) sl1 m1 = some (.ok ((List.range 63).map fun (i : Nat) => D.int (1 + (i : Int))) m1) := by
      simp only [evI, evEo, evE, bind_ok, asI_int, Option.bind_some, Option.getD_some, r2, pureR_some]
    rw [evS, gi]
    exact e2
  have ev : evSs γ__law_folded 0 t__law_folded [some (.kls (ns.map .int)), none, none, none] [] = some (.rt (.ref 0) [.lst (cs2.map .int)]) := by
    unfold t__law_folded
    rw [evSs, z1]
    dsimp only
    rw [evSs, z2]
    dsimp only
    rw [evSs, z3]
    subst hm2 hs2
    rfl
  exact fnD_rtf (μ := []) rfl ev rfl (frz_own rfl (Nat.le_refl 0) (low_ints 0 cs2))
def MS (cs gs : List Int) (n : Int) (tl : Mem) : Mem := .dk [(.inr "cells", .lst (cs.map .int)), (.inr "great", .ref 1), (.inr "spot", .int n)] :: .lst (gs.map .int) :: tl
theorem begun_ok {ns : List Int} (hn : ns.length ≤ 63) : ∃ cs gs : List Int, cs.length = 64 ∧ m__law_begun [.kls (ns.map .int)] [] = some (.ok (.ref 0) (MS cs gs 0 [])) := by
  obtain ⟨cs, hc, hf⟩ := folded_ok (ns := ns)
  refine ⟨cs, ns.map (fun c => if (10 : Int) ^ 18 ≤ c then c else 0), hc, ?_⟩
  have g1 : ∀ μ : Mem, goL (fun x acc μ2 => (asgTg (.nm 2) x [some (.kls (ns.map .int)), some (.ref 0), none]).bind fun sl2 => elS (evT γ__law_begun .no sl2) (evE γ__law_begun (.ifx (.cmp .ge (.var 2) (.bin .pow (.int 10) (.int 18))) (.var 2) (.int 0)) sl2) acc μ2) (ns.map .int) [] μ = some ((ns.map (fun c => if (10 : Int) ^ 18 ≤ c then c else 0)).map .int, μ) := by
    intro μ
    rw [goL_map (h := fun d => match d with | .int i => .int (if (10 : Int) ^ 18 ≤ i then i else 0) | d => d)]
    · simp only [List.nil_append, List.map_map]
      rfl
    · rw [sizeLine_eq]; simp; omega
    · intro x hx acc hacc
      obtain ⟨i, hi, rfl⟩ := List.mem_map.mp hx
      by_cases h : (1000000000000000000 : Int) ≤ i
      · simp [asgTg, elS, evT, evE, binD, cmpD, hacc, h]
      · simp [asgTg, elS, evT, evE, binD, cmpD, hacc, h]
  have z1 : evS γ__law_begun 0 (.set 1 (.dict (.cons (.inr "cells") (.call 6 (.cons (.var 0) .nil)) (.cons (.inr "great") (.val (.disp .nil)) (.cons (.inr "spot") (.int 0) .nil))))) [some (.kls (ns.map .int)), none, none] [] = some (.nx [some (.kls (ns.map .int)), some (.ref 0), none] [.dk [(.inr "cells", .lst (cs.map .int)), (.inr "great", .lst []), (.inr "spot", .int 0)]]) := by
    have e1 : evE γ__law_begun (.call 6 (.cons (.var 0) .nil)) [some (.kls (ns.map .int)), none, none] [] = some (.ok (.lst (cs.map .int)) []) := by
      simp only [evE, evEs, List.getElem?_cons_zero, bind_ok]
      exact hf
    have e2 : ∀ sl, evE γ__law_begun (.val (.disp .nil)) sl [] = some (.ok (.lst []) []) := fun sl => by
      rw [evE, evL, evEs]
      rfl
    have e3 : evKs γ__law_begun (.cons (.inr "cells") (.call 6 (.cons (.var 0) .nil)) (.cons (.inr "great") (.val (.disp .nil)) (.cons (.inr "spot") (.int 0) .nil))) [some (.kls (ns.map .int)), none, none] [] = some (.ok [(.inr "cells", .lst (cs.map .int)), (.inr "great", .lst []), (.inr "spot", .int 0)] []) := by
      rw [evKs, e1, bind_ok, evKs, e2, bind_ok, evKs, evE, bind_ok, evKs]
      rfl
    rw [evS, evE, e3]
    rfl
  have z2 : evS γ__law_begun 0 (.setIx (.var 1) (.str "great") (.mk (.comp (.ifx (.cmp .ge (.var 2) (.bin .pow (.int 10) (.int 18))) (.var 2) (.int 0)) (.nm 2) (.seq (.var 0)) .no))) [some (.kls (ns.map .int)), some (.ref 0), none] [.dk [(.inr "cells", .lst (cs.map .int)), (.inr "great", .lst []), (.inr "spot", .int 0)]] = some (.nx [some (.kls (ns.map .int)), some (.ref 0), none] (MS cs (ns.map (fun c => if (10 : Int) ^ 18 ≤ c then c else 0)) 0 [])) := by
    have e1 : evL γ__law_begun (.comp (.ifx (.cmp .ge (.var 2) (.bin .pow (.int 10) (.int 18))) (.var 2) (.int 0)) (.nm 2) (.seq (.var 0)) .no) [some (.kls (ns.map .int)), some (.ref 0), none] [.dk [(.inr "cells", .lst (cs.map .int)), (.inr "great", .lst []), (.inr "spot", .int 0)]] = some (.ok ((ns.map (fun c => if (10 : Int) ^ 18 ≤ c then c else 0)).map .int) [.dk [(.inr "cells", .lst (cs.map .int)), (.inr "great", .lst []), (.inr "spot", .int 0)]]) := by
      rw [evL, evI, evE]
      show okL (goL (fun x acc μ2 => (asgTg (.nm 2) x [some (.kls (ns.map .int)), some (.ref 0), none]).bind fun sl2 => elS (evT γ__law_begun .no sl2) (evE γ__law_begun (.ifx (.cmp .ge (.var 2) (.bin .pow (.int 10) (.int 18))) (.var 2) (.int 0)) sl2) acc μ2) (ns.map .int) [] _) = _
      rw [g1]
      rfl
    rw [evS, evE, e1]
    rfl
  have ev : evSs γ__law_begun 0 t__law_begun [some (.kls (ns.map .int)), none, none] [] = some (.rt (.ref 0) (MS cs (ns.map (fun c => if (10 : Int) ^ 18 ≤ c then c else 0)) 0 [])) := by
    unfold t__law_begun
    rw [evSs, z1]
    dsimp only
    rw [evSs, z2]
    rfl
  show fnK γ__law_begun (fun _ _ => 0) 1 3 t__law_begun [.kls (ns.map .int)] [] = _
  exact fnK_rt rfl ev
abbrev Wt (tl : Mem) : Prop := tl.all (lowOb (tl.length + 2)) = true
theorem wf_ms {cs gs : List Int} {n : Int} {tl : Mem} (h : Wt tl) : Wf (MS cs gs n tl) := by
  show (MS cs gs n tl).all (lowOb (tl.length + 2)) = true
  unfold MS
  rw [List.all_cons, List.all_cons, h]
  simp [lowOb, lowL, lowD, low_ints]
section
variable {cs gs : List Int} {n k : Int} {tl : Mem}
theorem ms_spot : idxD (MS cs gs n tl) (.ref 0) (.str "spot") = some (.int n) := rfl
theorem ms_great : idxD (MS cs gs n tl) (.ref 0) (.str "great") = some (.ref 1) := rfl
theorem ms_cells : idxD (MS cs gs n tl) (.ref 0) (.str "cells") = some (.lst (cs.map .int)) := rfl
theorem ms_put : setIxD (MS cs gs n tl) (.ref 0) (.str "spot") (.int k) = some (MS cs gs k tl) := rfl
theorem ms_len : bltD (MS cs gs n tl) .len [.ref 1] = some (.int gs.length) := by
  show some (D.int ((gs.map D.int).length : Nat)) = _
  rw [List.length_map]
theorem ms_at {i : Int} (h0 : 0 ≤ i) (h1 : i < gs.length) : idxD (MS cs gs n tl) (.ref 1) (.int i) = some (.int (gs[i.toNat]?.getD 0)) := atI_ints h0 h1
theorem ms_set {i v : Int} (h0 : 0 ≤ i) (h1 : i < gs.length) : setIxD (MS cs gs n tl) (.ref 1) (.int i) (.int v) = some (MS cs (gs.set i.toNat v) n tl) := by
  show (ixN (gs.map D.int).length i).map (fun j => (MS cs gs n tl).set 1 (.lst ((gs.map D.int).set j (.int v)))) = _
  rw [ixN_in h0 (by simpa using h1), Option.map_some]
  simp [MS, List.map_set]
theorem ms_ne : cmpD (MS cs gs n tl) .ne (.ref 1) (.lst []) = some (!decide (gs = [])) := by
  show (eqD _ _ _).map (!·) = _
  rw [eqD_ints (cs := gs) (ds := []) rfl rfl]
  rfl
end
theorem draw_ok {cs gs : List Int} {n top : Int} {tl : Mem} (hw : Wt tl) (hc : cs.length = 64) (h0 : 0 ≤ n) (h1 : n < 2 ^ 59) (t0 : 0 < top) (t1 : top < 2 ^ 64) :
    ∃ (v : Int) (gs2 : List Int), 0 ≤ v ∧ v < top ∧ m__law_draw [.ref 0, .int top] (MS cs gs n tl) = some (.ok (.int v) (MS cs gs2 (n + 1) tl)) := by
  have w : ∀ gs k, Wf (MS cs gs k tl) := fun gs k => wf_ms hw
  have last : ∀ gs2 : List Int, ∀ x y : Option D, ∃ v : Int, 0 ≤ v ∧ v < top ∧ evSs γ__law_draw 0 (.cons (.ret (.bin .mod (.call 5 (.cons (.call 5 (.cons (.bin .add (.idx (.idx (.var 0) (.str "cells")) (.bin .mod (.var 2) (.int 64))) (.bin .mul (.int 31) (.bin .fdiv (.var 2) (.int 64)))) (.cons (.var 2) .nil))) (.cons (.bin .add (.var 2) (.int 7)) .nil))) (.var 1))) .nil) [some (.ref 0), some (.int top), some (.int n), x, y] (MS cs gs2 (n + 1) tl) = some (.rt (.int v) (MS cs gs2 (n + 1) tl)) := by
    intro gs2 x y
    have h64 := @py64 n
    have hat := atI_ints (cs := cs) (i := n % 64) h64.1 (by rw [hc]; exact h64.2)
    have m1 := fun c => mixed_ok (c := c) (n := n) (w gs2 (n + 1)) h0 (by omega)
    have m2 := fun c => mixed_ok (c := c) (n := n + 7) (w gs2 (n + 1)) (by omega) (by omega)
    have e1 : mulOk 31 (n / 64) = true := mulOkL (by decide)
    have e2 : divOk 64 = true := divOk_of (by decide) (by decide)
    refine ⟨mx (mx (cs[(n % 64).toNat]?.getD 0 + 31 * (n / 64)) n) (n + 7) % top, Int.emod_nonneg _ (by omega), Int.emod_lt_of_pos _ t0, ?_⟩
    simp only [evSs, evS, evE, evEs, List.getElem?_cons_succ, List.getElem?_cons_zero, bind_ok, ms_cells, pureR_some]
    simp [binD, idxD, hat, e1, e2, m1, m2, t0]
  obtain ⟨tail, htail⟩ : ∃ t, t__law_draw = t := ⟨_, rfl⟩
  have z1 : evS γ__law_draw 0 (.set 2 (.idx (.var 0) (.str "spot"))) [some (.ref 0), some (.int top), none, none, none] (MS cs gs n tl) = some (.nx [some (.ref 0), some (.int top), some (.int n), none, none] (MS cs gs n tl)) := by
    simp [evS, evE, ms_spot]
  have z2 : evS γ__law_draw 0 (.setIx (.var 0) (.str "spot") (.bin .add (.var 2) (.int 1))) [some (.ref 0), some (.int top), some (.int n), none, none] (MS cs gs n tl) = some (.nx [some (.ref 0), some (.int top), some (.int n), none, none] (MS cs gs (n + 1) tl)) := by
    simp [evS, evE, binD, ms_put]
  have cond : evE γ__law_draw (.cmp .ne (.idx (.var 0) (.str "great")) (.val (.disp .nil))) [some (.ref 0), some (.int top), some (.int n), none, none] (MS cs gs (n + 1) tl) = some (.ok (.bl (!decide (gs = []))) (MS cs gs (n + 1) tl)) := by
    simp only [evE, evL, evEs, List.getElem?_cons_zero, bind_ok, ms_great, pureR_some, List.length_nil, Nat.zero_le, if_true, ms_ne, Option.map_some]
  show ∃ (v : Int) (gs2 : List Int), 0 ≤ v ∧ v < top ∧ fnD γ__law_draw (fun _ _ => 0) 2 5 t__law_draw [.ref 0, .int top] (MS cs gs n tl) = _
  have fin : ∀ (v : Int) (gs2 : List Int), evSs γ__law_draw 0 t__law_draw [some (.ref 0), some (.int top), none, none, none] (MS cs gs n tl) = some (.rt (.int v) (MS cs gs2 (n + 1) tl)) → fnD γ__law_draw (fun _ _ => 0) 2 5 t__law_draw [.ref 0, .int top] (MS cs gs n tl) = some (.ok (.int v) (MS cs gs2 (n + 1) tl)) := fun v gs2 e =>
    fnD_rtf rfl e (cutM_self (μ := MS cs gs2 (n + 1) tl) (w gs2 (n + 1))) frz_int
  by_cases hg : gs = []
  · obtain ⟨v, v0, v1, e⟩ := last gs none none
    refine ⟨v, gs, v0, v1, fin v gs ?_⟩
    unfold t__law_draw
    rw [evSs, z1]
    dsimp only
    rw [evSs, z2]
    dsimp only
    rw [evSs, evS, cond, onE_ok, asB_bl, hg]
    rw [hg] at e
    simp only [decide_true, Bool.not_true, Bool.false_eq_true, if_false, evSs]
    simpa only [evSs] using e
  · have hl : 0 < gs.length := List.length_pos_iff.mpr hg
    have hp : (0 : Int) < gs.length := by omega
    have a0 : 0 ≤ n % (gs.length : Int) := Int.emod_nonneg _ (by omega)
    have a1 : n % (gs.length : Int) < gs.length := Int.emod_lt_of_pos _ hp
    have dv : divOk top = true := divOk_of t0 t1
    have b0 : ∀ x y, evS γ__law_draw 0 (.set 3 (.bin .mod (.var 2) (.blt .len (.cons (.idx (.var 0) (.str "great")) .nil)))) [some (.ref 0), some (.int top), some (.int n), x, y] (MS cs gs (n + 1) tl) = some (.nx [some (.ref 0), some (.int top), some (.int n), some (.int (n % gs.length)), y] (MS cs gs (n + 1) tl)) := fun x y => by
      simp only [evS, evE, evEs, List.getElem?_cons_succ, List.getElem?_cons_zero, bind_ok, ms_great, pureR_some, ms_len, binD, if_pos hp, onE_ok]
      rfl
    have b1 : ∀ y, evS γ__law_draw 0 (.set 4 (.idx (.idx (.var 0) (.str "great")) (.var 3))) [some (.ref 0), some (.int top), some (.int n), some (.int (n % gs.length)), y] (MS cs gs (n + 1) tl) = some (.nx [some (.ref 0), some (.int top), some (.int n), some (.int (n % gs.length)), some (.int (gs[(n % gs.length).toNat]?.getD 0))] (MS cs gs (n + 1) tl)) := fun y => by
      simp only [evS, evE, List.getElem?_cons_succ, List.getElem?_cons_zero, bind_ok, ms_great, pureR_some, ms_at a0 a1, onE_ok]
      rfl
    obtain ⟨g, eg⟩ : ∃ g : Int, gs[(n % gs.length).toNat]?.getD 0 = g := ⟨_, rfl⟩
    rw [eg] at b1
    by_cases h : 0 < g
    · refine ⟨g % top, gs.set (n % gs.length).toNat (g / top), Int.emod_nonneg _ (by omega), Int.emod_lt_of_pos _ t0, fin _ _ ?_⟩
      unfold t__law_draw
      rw [evSs, z1]
      dsimp only
      rw [evSs, z2]
      dsimp only
      rw [evSs, evS, cond, onE_ok, asB_bl, decide_eq_false hg]
      simp only [Bool.not_false, if_true]
      rw [evSs, b0]
      dsimp only
      rw [evSs, b1]
      dsimp only
      simp only [evSs, evS, evE, List.getElem?_cons_succ, List.getElem?_cons_zero, bind_ok, cmpD, Option.map_some, pureR_some, onE_ok, asB_bl, h, decide_true, if_true, binD, dv, ms_great, ms_set a0 a1, Option.bind_some, if_pos t0]
    · obtain ⟨v, v0, v1, e⟩ := last gs (some (.int (n % gs.length))) (some (.int g))
      refine ⟨v, gs, v0, v1, fin v gs ?_⟩
      unfold t__law_draw
      rw [evSs, z1]
      dsimp only
      rw [evSs, z2]
      dsimp only
      have ite : evS γ__law_draw 0 (.ite (.cmp .ne (.idx (.var 0) (.str "great")) (.val (.disp .nil))) (.cons (.set 3 (.bin .mod (.var 2) (.blt .len (.cons (.idx (.var 0) (.str "great")) .nil)))) (.cons (.set 4 (.idx (.idx (.var 0) (.str "great")) (.var 3))) (.cons (.ite (.cmp .gt (.var 4) (.int 0)) (.cons (.setIx (.idx (.var 0) (.str "great")) (.var 3) (.bin .fdiv (.var 4) (.var 1))) (.cons (.ret (.bin .mod (.var 4) (.var 1))) .nil)) .nil) .nil))) .nil) [some (.ref 0), some (.int top), some (.int n), none, none] (MS cs gs (n + 1) tl) = some (.nx [some (.ref 0), some (.int top), some (.int n), some (.int (n % gs.length)), some (.int g)] (MS cs gs (n + 1) tl)) := by
        rw [evS, cond, onE_ok, asB_bl, decide_eq_false hg]
        simp only [Bool.not_false, if_true]
        rw [evSs, b0]
        dsimp only
        rw [evSs, b1]
        dsimp only
        simp only [evSs, evS, evE, List.getElem?_cons_succ, List.getElem?_cons_zero, bind_ok, cmpD, Option.map_some, pureR_some, onE_ok, asB_bl, h, decide_false, Bool.false_eq_true, if_false]
      rw [evSs, ite]
      exact e
end K70
end
section
namespace K70
open PySem PySem.Spec PyProof.Rows L2 Mn
structure Fall (top : Int) (ps : List Int) : Prop where
  fall : ps.Pairwise fun a b => b ≤ a
  lo : ∀ p ∈ ps, 0 ≤ p
  hi : ∀ p ∈ ps, p ≤ top
theorem sort_fall {top : Int} {l : List Int} (h0 : ∀ p ∈ l, 0 ≤ p ∧ p ≤ top) : Fall top (sortI l).reverse := by
  have pm : (sortI l).Perm l := List.mergeSort_perm l _
  refine ⟨?_, fun p hp => ?_, fun p hp => ?_⟩
  · rw [List.pairwise_reverse]
    have := List.pairwise_mergeSort (le := fun a b : Int => decide (a ≤ b)) (fun a b c h1 h2 => by simp at h1 h2 ⊢; omega) (fun a b => by simp; omega) l
    exact this.imp fun h => by simpa using h
  · exact (h0 p (pm.mem_iff.mp (List.mem_reverse.mp hp))).1
  · exact (h0 p (pm.mem_iff.mp (List.mem_reverse.mp hp))).2
theorem intsD_map (l : List Int) : intsD (l.map .int) = some l := by
  unfold intsD
  induction l with
  | nil => rfl
  | cons a l ih =>
    rw [List.map_cons, List.mapM_cons, ih]
    rfl
abbrev eltE : E := .idx (.val (.disp (.cons (.int 0) (.cons (.call 7 (.cons (.var 0) (.cons (.bin .add (.var 2) (.int 1)) .nil))) (.cons (.call 7 (.cons (.var 0) (.cons (.bin .add (.var 2) (.int 1)) .nil))) (.cons (.var 2) .nil)))))) (.call 7 (.cons (.var 0) (.cons (.int 4) .nil)))
theorem elt_ok {cs : List Int} {n top : Int} {many : Nat} {tl : Mem} (hw : Wt tl) (hc : cs.length = 64) (h0 : 0 ≤ n) (h1 : n < 2 ^ 58) (t0 : 0 ≤ top) (t1 : top < 2 ^ 60) : ∀ (i : Int) (gs : List Int) (k : Int), n ≤ k → k ≤ n + 200 → ∃ (v : Int) (gs2 : List Int), 0 ≤ v ∧ v ≤ top ∧
      evE γ__law_falling (.idx (.val (.disp (.cons (.int 0) (.cons (.call 7 (.cons (.var 0) (.cons (.bin .add (.var 2) (.int 1)) .nil))) (.cons (.call 7 (.cons (.var 0) (.cons (.bin .add (.var 2) (.int 1)) .nil))) (.cons (.var 2) .nil)))))) (.call 7 (.cons (.var 0) (.cons (.int 4) .nil)))) [some (.ref 0), some (.int many), some (.int top), none, some (.int i)] (MS cs gs k tl) = some (.ok (.int v) (MS cs gs2 (k + 3) tl)) := by
  intro i gs k hk hk2
  obtain ⟨a, g1, a0, a1, e1⟩ := draw_ok (cs := cs) (gs := gs) (n := k) (top := top + 1) hw hc (by omega) (by omega) (by omega) (by omega)
  obtain ⟨b, g2, b0, b1, e2⟩ := draw_ok (cs := cs) (gs := g1) (n := k + 1) (top := top + 1) hw hc (by omega) (by omega) (by omega) (by omega)
  obtain ⟨c, g3, c0, c1, e3⟩ := draw_ok (cs := cs) (gs := g2) (n := k + 1 + 1) (top := 4) hw hc (by omega) (by omega) (by omega) (by omega)
  have d1 : ∀ μ μ2 d, m__law_draw [.ref 0, .int (top + 1)] μ = some (.ok d μ2) → evE γ__law_falling (.call 7 (.cons (.var 0) (.cons (.bin .add (.var 2) (.int 1)) .nil))) [some (.ref 0), some (.int many), some (.int top), none, some (.int i)] μ = some (.ok d μ2) := fun μ μ2 d h => by
    simp only [evE, evEs, List.getElem?_cons_succ, List.getElem?_cons_zero, bind_ok, binD, pureR_some]
    exact h
  have d2 : ∀ μ μ2 d, m__law_draw [.ref 0, .int 4] μ = some (.ok d μ2) → evE γ__law_falling (.call 7 (.cons (.var 0) (.cons (.int 4) .nil))) [some (.ref 0), some (.int many), some (.int top), none, some (.int i)] μ = some (.ok d μ2) := fun μ μ2 d h => by
    simp only [evE, evEs, List.getElem?_cons_succ, List.getElem?_cons_zero, bind_ok]
    exact h
  have l1 : evL γ__law_falling (.disp (.cons (.int 0) (.cons (.call 7 (.cons (.var 0) (.cons (.bin .add (.var 2) (.int 1)) .nil))) (.cons (.call 7 (.cons (.var 0) (.cons (.bin .add (.var 2) (.int 1)) .nil))) (.cons (.var 2) .nil))))) [some (.ref 0), some (.int many), some (.int top), none, some (.int i)] (MS cs gs k tl) = some (.ok [.int 0, .int a, .int b, .int top] (MS cs g2 (k + 1 + 1) tl)) := by
    rw [evL, evEs, evE, bind_ok, evEs, d1 _ _ _ e1, bind_ok, evEs, d1 _ _ _ e2, bind_ok, evEs, evE]
    simp only [List.getElem?_cons_succ, List.getElem?_cons_zero, bind_ok, evEs]
    rw [if_pos (by rw [sizeLine_eq]; simp)]
  have key : evE γ__law_falling (.idx (.val (.disp (.cons (.int 0) (.cons (.call 7 (.cons (.var 0) (.cons (.bin .add (.var 2) (.int 1)) .nil))) (.cons (.call 7 (.cons (.var 0) (.cons (.bin .add (.var 2) (.int 1)) .nil))) (.cons (.var 2) .nil)))))) (.call 7 (.cons (.var 0) (.cons (.int 4) .nil)))) [some (.ref 0), some (.int many), some (.int top), none, some (.int i)] (MS cs gs k tl) = pureR (atI [D.int 0, .int a, .int b, .int top] c) (MS cs g3 (k + 3) tl) := by
    rw [evE, evE, l1, bind_ok, bind_ok, d2 _ _ _ e3, bind_ok]
    rw [show k + 1 + 1 + 1 = k + 3 by omega]
    rfl
  have hc4 : c = 0 ∨ c = 1 ∨ c = 2 ∨ c = 3 := by omega
  rcases hc4 with rfl | rfl | rfl | rfl
  · exact ⟨0, g3, by omega, by omega, key⟩
  · exact ⟨a, g3, by omega, by omega, key⟩
  · exact ⟨b, g3, by omega, by omega, key⟩
  · exact ⟨top, g3, by omega, by omega, key⟩
theorem falling_ok {cs gs : List Int} {n top : Int} {many : Nat} {tl : Mem} (hw : Wt tl) (hc : cs.length = 64) (h0 : 0 ≤ n) (h1 : n < 2 ^ 58) (hm : many < 64) (t0 : 0 ≤ top) (t1 : top < 2 ^ 60) :
    ∃ (ps gs2 : List Int) (k : Int), ps.length = many ∧ Fall top ps ∧ n ≤ k ∧ k ≤ n + 192 ∧ m__law_falling [.ref 0, .int many, .int top] (MS cs gs n tl) = some (.ok (.tup (ps.map .int)) (MS cs gs2 k tl)) := by
  have elt := fun i gs k h1' h2' => elt_ok (cs := cs) (n := n) (top := top) (many := many) hw hc h0 h1 t0 t1 i gs k h1' h2'
  have loop := goL_inv (f := fun x acc μ2 => (asgTg (.nm 4) x [some (.ref 0), some (.int many), some (.int top), none, none]).bind fun sl2 => elS (evT γ__law_falling .no sl2) (evE γ__law_falling (.idx (.val (.disp (.cons (.int 0) (.cons (.call 7 (.cons (.var 0) (.cons (.bin .add (.var 2) (.int 1)) .nil))) (.cons (.call 7 (.cons (.var 0) (.cons (.bin .add (.var 2) (.int 1)) .nil))) (.cons (.var 2) .nil)))))) (.call 7 (.cons (.var 0) (.cons (.int 4) .nil)))) sl2) acc μ2)
    (fun k acc m => ∃ (ps gs2 : List Int), acc = ps.map .int ∧ ps.length = k ∧ (∀ p ∈ ps, 0 ≤ p ∧ p ≤ top) ∧ m = MS cs gs2 (n + 3 * (k : Int)) tl) ((List.range many).map fun (i : Nat) => D.int (0 + (i : Int))) 0 [] (MS cs gs n tl)
    ⟨[], gs, rfl, rfl, (fun _ h => by cases h), by simp⟩ (by
      rintro i x acc m hx ⟨ps, gs2, rfl, hl, hb, rfl⟩
      rw [List.getElem?_map] at hx
      cases q : (List.range many)[i]? with
      | none => rw [q] at hx; cases hx
      | some j =>
        rw [q] at hx
        cases hx
        have hi : i < many := by
          have := (List.getElem?_eq_some_iff.mp q).1
          simpa using this
        obtain ⟨v, g2, v0, v1, e⟩ := elt (0 + (j : Int)) gs2 (n + 3 * ((0 + i : Nat) : Int)) (by omega) (by omega)
        refine ⟨(ps ++ [v]).map .int, MS cs g2 (n + 3 * ((0 + i + 1 : Nat) : Int)) tl, ?_, ps ++ [v], g2, rfl, by simp [hl], fun p hp => ?_, rfl⟩
        · simp only [asgTg, List.set, Option.bind_some, elS, evT, e]
          rw [if_pos (by rw [sizeLine_eq]; simp; omega)]
          simp only [List.map_append, List.map_cons, List.map_nil]
          congr 2
          rw [show n + 3 * ((0 + i : Nat) : Int) + 3 = n + 3 * ((0 + i + 1 : Nat) : Int) by omega]
        · rcases List.mem_append.mp hp with z | z
          · exact hb p z
          · have : p = v := by simpa using z
            rw [this]; exact ⟨v0, v1⟩)
  obtain ⟨acc, m, eg, ps, gs2, rfl, hl, hb, rfl⟩ := loop
  have hl2 : ps.length = many := by simpa using hl
  refine ⟨(sortI ps).reverse, gs2, n + 3 * ((0 + ((List.range many).map fun (i : Nat) => D.int (0 + (i : Int))).length : Nat) : Int), ?_, sort_fall hb, by omega, by simp; omega, ?_⟩
  · rw [List.length_reverse]
    unfold sortI
    rw [List.length_mergeSort, hl2]
  generalize hK : n + 3 * ((0 + ((List.range many).map fun (i : Nat) => D.int (0 + (i : Int))).length : Nat) : Int) = K at eg ⊢
  have ec : evL γ__law_falling (.comp (.idx (.val (.disp (.cons (.int 0) (.cons (.call 7 (.cons (.var 0) (.cons (.bin .add (.var 2) (.int 1)) .nil))) (.cons (.call 7 (.cons (.var 0) (.cons (.bin .add (.var 2) (.int 1)) .nil))) (.cons (.var 2) .nil)))))) (.call 7 (.cons (.var 0) (.cons (.int 4) .nil)))) (.nm 4) (.range .no (.some (.var 1))) .no) [some (.ref 0), some (.int many), some (.int top), none, none] (MS cs gs n tl) = some (.ok (ps.map .int) (MS cs gs2 K tl)) := by
    have gi := evI_range1 (γ := γ__law_falling) (e := .var 1) (sl := [some (.ref 0), some (.int many), some (.int top), none, none]) (μ := MS cs gs n tl) (μ1 := MS cs gs n tl) (i := (many : Int)) (by rw [evE]; rfl) (rangeD_is (n := many) (by omega) (by omega) (by omega) (by omega) (by omega))
    rw [evL, gi, bind_ok]
    show okL (goL (fun x acc μ2 => (asgTg (.nm 4) x [some (.ref 0), some (.int many), some (.int top), none, none]).bind fun sl2 => elS (evT γ__law_falling .no sl2) (evE γ__law_falling _ sl2) acc μ2) _ [] _) = _
    rw [eg]
    rfl
  have so : bltD (MS cs gs2 K tl) .sorted [.lst (ps.map .int)] = some (.lst ((sortI ps).map .int)) := by
    simp only [bltD, seqL, Option.bind_some, intsD_map, hl2, if_pos hm]
  have tu : ∀ (μ : Mem) (l : List D), bltD μ .tuple [.lst l] = some (.tup l) := fun _ _ => rfl
  have ev : evSs γ__law_falling 0 t__law_falling [some (.ref 0), some (.int many), some (.int top), none, none] (MS cs gs n tl) = some (.rt (.tup ((sortI ps).reverse.map .int)) (MS cs gs2 K tl)) := by
    unfold t__law_falling
    rw [evSs, evS, evE, evEs, evE, ec]
    simp only [bind_ok, evEs, so, pureR_some, onE_ok, List.set, evS, evE, List.getElem?_cons_succ, List.getElem?_cons_zero, revD, seqL, Option.map_some, tu, List.map_reverse]
    simp only [evSs, evS, evE, evEs, bind_ok, List.getElem?_cons_succ, List.getElem?_cons_zero, revD, seqL, Option.map_some, pureR_some, tu, onE_ok, List.map_reverse]
  show fnD γ__law_falling (fun _ _ => 0) 3 5 t__law_falling [.ref 0, .int many, .int top] (MS cs gs n tl) = _
  exact fnD_rtf rfl ev (cutM_self (μ := MS cs gs2 K tl) (wf_ms hw)) (frz_low (by simp only [lowD]; exact low_ints _ _))
end K70
end
section
namespace Vd
def diffs : List Int → List Int
  | [] => []
  | a :: l => l.map (fun b => a - b) ++ diffs l
def prod (l : List Int) : Int := l.foldr (· * ·) 1
def cnt (q : Int) (l : List Int) : Nat := (l.filter fun x => x % q == 0).length
theorem prod_dvd (q : Int) : ∀ l : List Int, q ^ cnt q l ∣ prod l
  | [] => by simp [cnt, prod]
  | x :: l => by
    have ih := prod_dvd q l
    show q ^ cnt q (x :: l) ∣ x * prod l
    unfold cnt
    rw [List.filter_cons]
    split
    · rename_i h
      rw [List.length_cons, Int.pow_succ, Int.mul_comm]
      exact Int.mul_dvd_mul (Int.dvd_of_emod_eq_zero (by simpa using h)) ih
    · exact Int.dvd_mul_of_dvd_right ih
theorem prod_dvd2 : ∀ l : List Int, (2 : Int) ^ (cnt 2 l + cnt 4 l) ∣ prod l
  | [] => by simp [cnt, prod]
  | x :: l => by
    have ih := prod_dvd2 l
    show (2 : Int) ^ (cnt 2 (x :: l) + cnt 4 (x :: l)) ∣ x * prod l
    unfold cnt at ih ⊢
    rw [List.filter_cons, List.filter_cons]
    by_cases h4 : x % 4 = 0
    · have h2 : x % 2 = 0 := by omega
      rw [if_pos (by simpa using h2), if_pos (by simpa using h4), List.length_cons, List.length_cons]
      rw [show ∀ a b : Nat, a + 1 + (b + 1) = (a + b) + 2 by omega, Int.pow_add, Int.mul_comm]
      exact Int.mul_dvd_mul (by show (4 : Int) ∣ x; omega) ih
    · by_cases h2 : x % 2 = 0
      · rw [if_pos (by simpa using h2), if_neg (by simpa using h4), List.length_cons]
        rw [show ∀ a b : Nat, a + 1 + b = (a + b) + 1 by omega, Int.pow_succ, Int.mul_comm]
        exact Int.mul_dvd_mul (by omega) ih
      · rw [if_neg (by simpa using h2), if_neg (by simpa using h4)]
        exact Int.dvd_mul_of_dvd_right ih
theorem cnt_res (q : Int) (hq : 0 < q) : ∀ l m : List Int, l.length = m.length → (∀ i : Nat, (l[i]?.getD 0) % q = (m[i]?.getD 0) % q) → cnt q l = cnt q m
  | [], [], _, _ => rfl
  | [], _ :: _, h, _ => by simp at h
  | _ :: _, [], h, _ => by simp at h
  | x :: l, y :: m, h, hr => by
    have ih := cnt_res q hq l m (by simpa using h) fun i => by simpa using hr (i + 1)
    have h0 : x % q = y % q := by simpa using hr 0
    unfold cnt at ih ⊢
    rw [List.filter_cons, List.filter_cons, h0]
    split
    · rw [List.length_cons, List.length_cons, ih]
    · exact ih
end Vd
end
section
namespace Vd
theorem cnt_app (q : Int) (l m : List Int) : cnt q (l ++ m) = cnt q l + cnt q m := by
  unfold cnt
  rw [List.filter_append, List.length_append]
theorem cnt_mapres {q m : Int} (h : ∀ a b : Int, (a % m - b % m) % q = (a - b) % q) (a : Int) : ∀ l : List Int, cnt q ((l.map (· % m)).map fun b => a % m - b) = cnt q (l.map fun b => a - b)
  | [] => rfl
  | b :: l => by
    have ih := cnt_mapres h a l
    unfold cnt at ih ⊢
    rw [List.map_cons, List.map_cons, List.map_cons, List.filter_cons, List.filter_cons, h]
    split
    · rw [List.length_cons, List.length_cons, ih]
    · exact ih
theorem cnt_diffs {q m : Int} (h : ∀ a b : Int, (a % m - b % m) % q = (a - b) % q) : ∀ l : List Int, cnt q (diffs (l.map (· % m))) = cnt q (diffs l)
  | [] => rfl
  | a :: l => by
    rw [List.map_cons, diffs, diffs, cnt_app, cnt_app, cnt_mapres h a l, cnt_diffs h l]
def res (q : Nat) : Nat → List (List Int)
  | 0 => [[]]
  | n + 1 => (res q n).flatMap fun l => (List.range q).map fun (k : Nat) => Int.ofNat k :: l
theorem mem_res {q : Nat} : ∀ l : List Int, (∀ x ∈ l, 0 ≤ x ∧ x < q) → l ∈ res q l.length
  | [], _ => by simp [res]
  | x :: l, h => by
    rw [List.length_cons, res, List.mem_flatMap]
    refine ⟨l, mem_res l fun y hy => h y (List.mem_cons_of_mem _ hy), List.mem_map.mpr ⟨x.toNat, ?_, ?_⟩⟩
    · have := h x List.mem_cons_self
      rw [List.mem_range]; omega
    · have := h x List.mem_cons_self
      show ((x.toNat : Nat) : Int) :: l = x :: l
      rw [show ((x.toNat : Nat) : Int) = x by omega]
theorem in_res {q : Nat} (hq : 0 < q) (l : List Int) : l.map (· % (q : Int)) ∈ res q l.length := by
  have := mem_res (q := q) (l.map (· % (q : Int))) fun x hx => by
    obtain ⟨y, _, rfl⟩ := List.mem_map.mp hx
    exact ⟨Int.emod_nonneg _ (by omega), Int.emod_lt_of_pos _ (by omega)⟩
  rwa [List.length_map] at this
theorem pow_le (q : Int) {a b : Nat} (h : a ≤ b) : q ^ a ∣ q ^ b := ⟨q ^ (b - a), by rw [← Int.pow_add]; congr 1; omega⟩
theorem two_of {n k : Nat} (hd : (res 4 n).all (fun r => decide (k ≤ cnt 2 (diffs r) + cnt 4 (diffs r))) = true) {l : List Int} (hl : l.length = n) : (2 : Int) ^ k ∣ prod (diffs l) := by
  have h := of_decide_eq_true (List.all_eq_true.mp hd _ (hl ▸ in_res (q := 4) (by decide) l))
  have h1 := cnt_diffs (q := 2) (m := ((4 : Nat) : Int)) (fun a b => by omega) l
  have h2 := cnt_diffs (q := 4) (m := ((4 : Nat) : Int)) (fun a b => by omega) l
  rw [h1, h2] at h
  exact Int.dvd_trans (pow_le 2 h) (prod_dvd2 (diffs l))
theorem odd_of {q n k : Nat} (hq : 0 < q) (hs : ∀ a b : Int, (a % (q : Int) - b % (q : Int)) % (q : Int) = (a - b) % (q : Int)) (hd : (res q n).all (fun r => decide (k ≤ cnt (q : Int) (diffs r))) = true) {l : List Int} (hl : l.length = n) : (q : Int) ^ k ∣ prod (diffs l) := by
  have h := of_decide_eq_true (List.all_eq_true.mp hd _ (hl ▸ in_res (q := q) hq l))
  rw [cnt_diffs hs l] at h
  exact Int.dvd_trans (pow_le _ h) (prod_dvd q (diffs l))
def sf : Nat → Int
  | 3 => 2 | 4 => 12 | 5 => 288 | 6 => 34560 | _ => 1
theorem sf_dvd (l : List Int) (h : l.length ≤ 6) : sf l.length ∣ prod (diffs l) := by
  have cases6 : l.length ≤ 2 ∨ l.length = 3 ∨ l.length = 4 ∨ l.length = 5 ∨ l.length = 6 := by omega
  rcases cases6 with h | h | h | h | h
  · have : sf l.length = 1 := by
      have : l.length = 0 ∨ l.length = 1 ∨ l.length = 2 := by omega
      rcases this with h | h | h <;> rw [h] <;> rfl
    rw [this]
    exact Int.one_dvd _
  · have a := two_of (n := 3) (k := 1) (by decide +kernel) h
    rw [h]
    exact a
  · have a := two_of (n := 4) (k := 2) (by decide +kernel) h
    have b := odd_of (q := 3) (n := 4) (k := 1) (by decide) (fun a b => by omega) (by decide +kernel) h
    rw [h]
    show (12 : Int) ∣ _
    have a : (4 : Int) ∣ prod (diffs l) := a
    have b : (3 : Int) ∣ prod (diffs l) := by simpa using b
    omega
  · have a := two_of (n := 5) (k := 5) (by decide +kernel) h
    have b := odd_of (q := 3) (n := 5) (k := 2) (by decide) (fun a b => by omega) (by decide +kernel) h
    rw [h]
    show (288 : Int) ∣ _
    have a : (32 : Int) ∣ prod (diffs l) := a
    have b : (9 : Int) ∣ prod (diffs l) := b
    omega
  · have a := two_of (n := 6) (k := 8) (by decide +kernel) h
    have b := odd_of (q := 3) (n := 6) (k := 3) (by decide) (fun a b => by omega) (by decide +kernel) h
    have c := odd_of (q := 5) (n := 6) (k := 1) (by decide) (fun a b => by omega) (by decide +kernel) h
    rw [h]
    show (34560 : Int) ∣ _
    have a : (256 : Int) ∣ prod (diffs l) := a
    have b : (27 : Int) ∣ prod (diffs l) := b
    have c : (5 : Int) ∣ prod (diffs l) := by simpa using c
    omega
end Vd
end
section
namespace K70
open PySem PySem.Spec PyProof.Rows L2 Mn
def fillS (ps : List Int) : Sl := [some (.tup (ps.map .int)), none, none, none, none, none, none, none, none, none]
def fillL (ps : List Int) : List D := match evSs γ__law_fillings 0 t__law_fillings (fillS ps) [] with
  | some (.rt (.lst l) _) => l
  | _ => []
def smalls : List (List Int) := [[2], [1], [0], [2, 2], [2, 1], [2, 0], [1, 1], [1, 0], [0, 0], [2, 2, 2], [2, 2, 1], [2, 2, 0], [2, 1, 1], [2, 1, 0], [2, 0, 0], [1, 1, 1], [1, 1, 0], [1, 0, 0], [0, 0, 0], [2, 2, 2, 2], [2, 2, 2, 1], [2, 2, 2, 0], [2, 2, 1, 1], [2, 2, 1, 0], [2, 2, 0, 0], [2, 1, 1, 1], [2, 1, 1, 0], [2, 1, 0, 0], [2, 0, 0, 0], [1, 1, 1, 1], [1, 1, 1, 0], [1, 1, 0, 0], [1, 0, 0, 0], [0, 0, 0, 0]]
theorem fill_all {ps : List Int} (h : ps ∈ smalls) (μ : Mem) : evSs γ__law_fillings 0 t__law_fillings (fillS ps) μ = some (.rt (.lst (fillL ps)) μ) := by
  simp only [smalls, List.mem_cons, List.not_mem_nil, or_false] at h
  rcases h with rfl | rfl | rfl | rfl | rfl | rfl | rfl | rfl | rfl | rfl | rfl | rfl | rfl | rfl | rfl | rfl | rfl | rfl | rfl | rfl | rfl | rfl | rfl | rfl | rfl | rfl | rfl | rfl | rfl | rfl | rfl | rfl | rfl | rfl <;> kernel_rfl
theorem fill_low {ps : List Int} (h : ps ∈ smalls) (k : Nat) : lowL k (fillL ps) = true := by
  simp only [smalls, List.mem_cons, List.not_mem_nil, or_false] at h
  rcases h with rfl | rfl | rfl | rfl | rfl | rfl | rfl | rfl | rfl | rfl | rfl | rfl | rfl | rfl | rfl | rfl | rfl | rfl | rfl | rfl | rfl | rfl | rfl | rfl | rfl | rfl | rfl | rfl | rfl | rfl | rfl | rfl | rfl | rfl <;> kernel_rfl
theorem small_mem {ps : List Int} (h : Fall 2 ps) (h1 : 1 ≤ ps.length) (h4 : ps.length ≤ 4) : ps ∈ smalls := by
  have key : ∀ n, 1 ≤ n → n ≤ 4 → ((Vd.res 3 n).all fun l => decide (l.Pairwise fun a b => b ≤ a) == false || smalls.contains l) = true := by
    intro n hn hn2
    have : n = 1 ∨ n = 2 ∨ n = 3 ∨ n = 4 := by omega
    rcases this with rfl | rfl | rfl | rfl <;> decide +kernel
  have m := Vd.mem_res (q := 3) ps fun x hx => ⟨h.lo x hx, by have := h.hi x hx; omega⟩
  have := List.all_eq_true.mp (key _ h1 h4) ps m
  simpa [h.fall] using this
end K70
end
section
namespace K70
open PySem PySem.Spec PyProof.Rows L2 Mn
theorem fillings_ok {ps : List Int} (h : ps ∈ smalls) {μ : Mem} (w : Wf μ) : m__law_fillings [.tup (ps.map .int)] μ = some (.ok (.lst (fillL ps)) μ) := by
  have low : lowD μ.length (.lst (fillL ps)) = true := by
    rw [lowD]
    exact fill_low h _
  have go := fill_all h μ
  generalize fillL ps = l at low go ⊢
  exact fnD_rtC (γ := γ__law_fillings) (c := 0) (np := 1) (n := 10) (b := t__law_fillings) rfl rfl w low go
theorem isint_ok {d : D} {μ : Mem} (w : Wf μ) (hl : lowD μ.length d = true) {a b : Bool} (h1 : isiD μ d .int = some a) (h2 : isiD μ d .bool = some b) : m_is_integer [d] μ = some (.ok (.bl (a && !b)) μ) := by
  refine fnD_rt0 rfl w rfl ?_
  cases a with
  | true => simp [t_is_integer, evSs, evS, evE, h1, h2]
  | false => simp [t_is_integer, evSs, evS, evE, h1]
theorem isint_int {i : Int} {μ : Mem} (w : Wf μ) : m_is_integer [.int i] μ = some (.ok (.bl true) μ) := isint_ok w rfl (a := true) (b := false) rfl rfl
end K70
end
section
namespace K70
open PySem PySem.Spec PyProof.Rows L2 Mn
abbrev bodyC : Ss := .cons (.ite (.or (.not (.call 0 (.cons (.var 2) .nil))) (.one (.and (.cmp .gt (.var 1) (.int 0)) (.one (.cmp .gt (.var 2) (.idx (.var 0) (.bin .sub (.var 1) (.int 1)))))))) (.cons (.raise 1 (.cons (.var 1) .nil) []) .nil) .nil) .nil
theorem step_good {ds : List D} {i : Nat} {n : Int} {x y : Option D} {μ : Mem} (w : Wf μ) (hp : i = 0 ∨ ∃ m : Int, atI ds ((i : Int) - 1) = some (.int m) ∧ n ≤ m) :
    ((asgTg (.tup [1, 2]) (.tup [.int i, .int n]) [some (.tup ds), x, y]).bind fun sl2 => evSs γ_check_partition 0 bodyC sl2 μ) = some (.nx [some (.tup ds), some (.int i), some (.int n)] μ) := by
  have hi := isint_int (i := n) w
  rcases hp with rfl | ⟨m, hm, hle⟩
  · simp [asgTg, evSs, evS, evE, evEs, hi, cmpD]
  · by_cases h0 : (0 : Int) < i
    · have hn : ¬ m < n := by omega
      simp [asgTg, evSs, evS, evE, evEs, hi, cmpD, binD, idxD, hm, h0, hn]
    · have h1 : ¬ 0 < i := by omega
      simp [asgTg, evSs, evS, evE, evEs, hi, cmpD, h0, h1]
theorem step_odd {ds : List D} {i : Nat} {d : D} {x y : Option D} {μ : Mem} {a b : Bool} (w : Wf μ) (hl : lowD μ.length d = true) (h1 : isiD μ d .int = some a) (h2 : isiD μ d .bool = some b) (hab : (a && !b) = false) :
    ((asgTg (.tup [1, 2]) (.tup [.int i, d]) [some (.tup ds), x, y]).bind fun sl2 => evSs γ_check_partition 0 bodyC sl2 μ) = some (.ex (.exc 1 [.int i]) [some (.tup ds), some (.int i), some d] μ) := by
  have hi := isint_ok w hl h1 h2
  rw [hab] at hi
  simp [asgTg, evSs, evS, evE, evEs, hi, γ0]
theorem step_up {ds : List D} {i : Nat} {n m : Int} {x y : Option D} {μ : Mem} (w : Wf μ) (h0 : 0 < i) (hm : atI ds ((i : Int) - 1) = some (.int m)) (hn : m < n) :
    ((asgTg (.tup [1, 2]) (.tup [.int i, .int n]) [some (.tup ds), x, y]).bind fun sl2 => evSs γ_check_partition 0 bodyC sl2 μ) = some (.ex (.exc 1 [.int i]) [some (.tup ds), some (.int i), some (.int n)] μ) := by
  have hi := isint_int (i := n) w
  simp [asgTg, evSs, evS, evE, evEs, hi, cmpD, binD, idxD, hm, h0, hn, γ0]
theorem enum_at {ds : List D} {i : Nat} {x : D} (h : (enumD ds)[i]? = some x) : ∃ d, ds[i]? = some d ∧ x = .tup [.int i, d] := by
  unfold enumD at h
  rw [List.getElem?_zipWith] at h
  cases q1 : (List.range ds.length)[i]? with
  | none => rw [q1] at h; cases h
  | some j =>
    cases q2 : ds[i]? with
    | none => rw [q1, q2] at h; cases h
    | some d =>
      rw [q1, q2] at h
      obtain ⟨hi, ej⟩ := List.getElem?_eq_some_iff.mp q1
      rw [List.getElem_range] at ej
      subst ej
      exact ⟨d, rfl, (Option.some.inj h).symm⟩
theorem atI_prev {ps : List Int} {i : Nat} {m : Int} (h0 : 0 < i) (h : ps[i - 1]? = some m) : atI (ps.map D.int) ((i : Int) - 1) = some (.int m) := by
  have hl := (List.getElem?_eq_some_iff.mp h).1
  rw [atI_ints (by omega) (by omega), show ((i : Int) - 1).toNat = i - 1 by omega, h]
  rfl
end K70
end
section
namespace K70
open PySem PySem.Spec PyProof.Rows L2 Mn
local macro_rules | `(tactic| trivial) => `(tactic| (repeat first | (refine sq_nx ?_; try simp only [List.set_cons_zero, List.set_cons_succ]) | (apply we_var; rfl) | (apply we_glb; rfl) | (apply ws_aug; rfl) | (refine And.intro (sz ?_) ?_; focus (simp; done)) | refine ws_cons ?_ | refine ws_set ?_ | refine ws_ite ?_ | refine ws_for ?_ | refine ws_ret ?_ | refine ws_retN ?_ | refine ws_expr ?_ | refine ws_par ?_ | refine ws_par3 ?_ | refine ws_setIx ?_ | refine ws_app ?_ | refine ws_unp ?_ | refine ws_raise ?_ | refine ws_pass ?_ | refine ws_brk ?_ | refine ws_cont ?_ | refine ws_nil ?_ | refine we_non ?_ | refine we_bl ?_ | refine we_int ?_ | refine we_str ?_ | refine we_bin ?_ | refine we_neg ?_ | refine we_cmp ?_ | refine we_chain ?_ | refine we_and ?_ | refine we_or ?_ | refine we_one ?_ | refine we_not ?_ | refine we_ifx ?_ | refine we_tup ?_ | refine we_call ?_ | refine we_blt ?_ | refine we_isi ?_ | refine we_isiO ?_ | refine we_idx ?_ | refine we_slc ?_ | refine we_rev ?_ | refine we_val ?_ | refine we_mk ?_ | refine we_dict ?_ | refine we_dnew ?_ | refine we_fld ?_ | refine we_told ?_ | refine wes_nil ?_ | refine wes_cons ?_ | refine weo_no ?_ | refine weo_some ?_ | refine wk_nil ?_ | refine wk_cons ?_ | refine wt_no ?_ | refine wt_some ?_ | refine wi_seq ?_ | refine wi_enum ?_ | refine wi_zip ?_ | refine wi_range1 ?_ | refine wi_range2 ?_ | refine wl_disp ?_ | refine wl_comp ?_ | refine wl_cat ?_ | refine asB_i ?_ | refine asI_i ?_ | refine ct_t ?_ | refine ct_f ?_ | refine sq_rt ?_ | refine sq_ex ?_ | refine sq_bk ?_ | refine sq_ct ?_ | refine st_nx ?_ | refine st_ct ?_ | refine st_bk ?_ | refine st_rt ?_ | refine st_ex ?_ | refine fk_rt ?_ | refine fk_nx ?_ | refine fk_ex ?_ | refine pw_eqr ?_ | refine pw_ner ?_ | refine pw_eqi ?_ | refine pw_nei ?_ | refine pow18 ?_ | refine it_t ?_ | refine it_l ?_ | refine seq_l ?_ | refine rev_t ?_ | refine rev_l ?_ | refine And.intro (by assumption) ?_ | refine And.intro (szl (by omega)) ?_ | refine pw_mul (by omega) ?_ | refine pw_mulL (by omega) ?_ | refine pw_mod (by omega) ?_ | refine pw_div (by omega) (by omega) ?_ | refine pw_add ?_ | refine pw_sub ?_ | refine pw_lt ?_ | refine pw_le ?_ | refine pw_gt ?_ | refine pw_ge ?_ | refine pw_augA ?_ | refine pw_augS ?_ | refine pw_augM (by omega) ?_ | refine And.intro rfl ?_ | refine pw_len_l ?_ | refine pw_len_t ?_ | refine pw_unp2 ?_ | refine pw_unp3 ?_ | refine blt_list ?_ | refine blt_tuple ?_))
abbrev Typed (μ : Mem) (d : D) : Prop := (tyN μ d).isSome = true
def isIntD : D → Bool
  | .int _ => true
  | _ => false
theorem isiD_of {μ : Mem} {d : D} (t : Typed μ d) : ∃ a b, isiD μ d .int = some a ∧ isiD μ d .bool = some b ∧ (a && !b) = isIntD d := by
  cases d with
  | kls _ => simp [Typed, tyN] at t
  | exc _ _ => simp [Typed, tyN] at t
  | opq => simp [Typed, tyN] at t
  | ref n =>
    cases h : μ[n]? with
    | none => simp [Typed, tyN, h] at t
    | some o =>
      cases o with
      | ins _ _ => simp [Typed, tyN, h] at t
      | _ => exact ⟨false, false, by simp only [isiD, tyN, h]; rfl, by simp only [isiD, tyN, h]; rfl, rfl⟩
  | non => exact ⟨false, false, rfl, rfl, rfl⟩
  | bl b => exact ⟨true, true, rfl, rfl, rfl⟩
  | int i => exact ⟨true, false, rfl, rfl, rfl⟩
  | str _ => exact ⟨false, false, rfl, rfl, rfl⟩
  | tup _ => exact ⟨false, false, rfl, rfl, rfl⟩
  | lst _ => exact ⟨false, false, rfl, rfl, rfl⟩
theorem isint_e {μ : Mem} {d : D} (w : Wf μ) (t : Typed μ d) : m_is_integer [d] μ = some (.ok (.bl (isIntD d)) μ) := by
  obtain ⟨a, b, h1, h2, h3⟩ := isiD_of t
  rw [← h3]
  refine fnD_rt0 rfl w rfl ?_
  cases a with
  | true => simp [t_is_integer, evSs, evS, evE, h1, h2]
  | false => simp [t_is_integer, evSs, evS, evE, h1]
theorem isTup_of {μ : Mem} {d : D} (t : Typed μ d) : isiD μ d .tuple = some (match d with | .tup _ => true | _ => false) := by
  cases d with
  | kls _ => simp [Typed, tyN] at t
  | exc _ _ => simp [Typed, tyN] at t
  | opq => simp [Typed, tyN] at t
  | ref n =>
    cases h : μ[n]? with
    | none => simp [Typed, tyN, h] at t
    | some o =>
      cases o with
      | ins _ _ => simp [Typed, tyN, h] at t
      | _ => simp only [isiD, tyN, h]; rfl
  | _ => rfl
def up : Option Int → Int → Bool
  | some m, n => decide (m < n)
  | none, _ => false
def badP : Option Int → Nat → List D → Option Nat
  | _, _, [] => none
  | p, i, .int n :: ds => if up p n then some i else badP (some n) (i + 1) ds
  | _, i, _ :: _ => some i
theorem badP_int {p : Option Int} {i : Nat} {n : Int} {ds : List D} : badP p i (.int n :: ds) = if up p n then some i else badP (some n) (i + 1) ds := rfl
theorem up_no {p : Option Int} {n : Int} (h : ∀ m, p = some m → n ≤ m) : up p n = false := by
  cases p with
  | none => rfl
  | some m =>
    have := h m rfl
    simp [up]; omega
def chkD : D → Option D
  | .tup ds => if 1 ≤ ds.length ∧ ds.length ≤ 6 then (badP none 0 ds).map fun (k : Nat) => D.int (k : Int) else some .non
  | _ => some .non
theorem chkD_tup {ds : List D} : chkD (.tup ds) = if 1 ≤ ds.length ∧ ds.length ≤ 6 then (badP none 0 ds).map fun (k : Nat) => D.int (k : Int) else some .non := rfl
def negAt : Nat → List D → Option Nat
  | _, [] => none
  | i, .int n :: ds => if n < 0 then some i else negAt (i + 1) ds
  | i, _ :: ds => negAt (i + 1) ds
def chkN (d : D) : Option D := match chkD d with
  | some p => some p
  | none => match d with
    | .tup ds => (negAt 0 ds).map fun (k : Nat) => D.int (k : Int)
    | _ => none
def enumF : Nat → List D → List D
  | _, [] => []
  | i, d :: ds => .tup [.int i, d] :: enumF (i + 1) ds
theorem enumF_is (ds : List D) : enumD ds = enumF 0 ds := by
  have key : ∀ (ds : List D) (k : Nat), ((List.range' k ds.length).zipWith (fun (i : Nat) d => D.tup [.int i, d]) ds) = enumF k ds := by
    intro ds
    induction ds with
    | nil => intro k; rfl
    | cons d ds ih =>
      intro k
      rw [List.length_cons, List.range'_succ, List.zipWith_cons_cons, ih (k + 1)]
      rfl
  unfold enumD
  rw [List.range_eq_range']
  exact key ds 0
abbrev bodyP : Ss := .cons (.ite (.or (.not (.call 0 (.cons (.var 2) .nil))) (.one (.and (.cmp .gt (.var 1) (.int 0)) (.one (.cmp .gt (.var 2) (.idx (.var 0) (.bin .sub (.var 1) (.int 1)))))))) (.cons (.raise 1 (.cons (.var 1) .nil) []) .nil) .nil) .nil
theorem atI_at {ds : List D} {k : Nat} {d : D} (h : ds[k]? = some d) : atI ds (k : Int) = some d := by
  have hl := (List.getElem?_eq_some_iff.mp h).1
  unfold atI ixN
  rw [if_pos (by omega), if_pos (by omega)]
  simpa using h
theorem loopP {μ : Mem} {Q : O → Prop} (w : Wf μ) {ds : List D} (ht : ∀ x ∈ ds, Typed μ x) : ∀ (suf pre : List D) (p : Option Int) (x y : Option D), ds = pre ++ suf → (pre = [] ∧ p = none ∨ ∃ m, p = some m ∧ ds[pre.length - 1]? = some (.int m) ∧ 0 < pre.length) →
    (badP p pre.length suf = none → ∀ x y, Q (.nx [some (.tup ds), x, y] μ)) → (∀ k, badP p pre.length suf = some k → ∀ x y, Q (.ex (.exc 1 [.int k]) [some (.tup ds), x, y] μ)) →
    WF (fun x sl1 μ2 => (asgTg (.tup [1, 2]) x sl1).bind fun sl2 => evSs γ_check_partition 0 bodyP sl2 μ2) (enumF pre.length suf) [some (.tup ds), x, y] μ Q := by
  intro suf
  induction suf with
  | nil => intro pre p x y _ _ h0 _; exact wf_nil (h0 rfl x y)
  | cons d suf ih =>
    intro pre p x y hds hp h0 h1
    refine wf_cons (wo_tg rfl ?_)
    simp only [List.zip_cons_cons, List.zip_nil_right, List.foldl_cons, List.foldl_nil, List.set_cons_zero, List.set_cons_succ]
    have hd : d ∈ ds := by rw [hds]; simp
    have hi := isint_e w (ht d hd)
    trivial
    refine call_e (wr_ok hi ?_) rfl
    trivial
    have good : ∀ n, d = .int n → badP p pre.length (d :: suf) = badP (some n) (pre.length + 1) suf → WF (fun x sl1 μ2 => (asgTg (.tup [1, 2]) x sl1).bind fun sl2 => evSs γ_check_partition 0 bodyP sl2 μ2) (enumF (pre.length + 1) suf) [some (.tup ds), some (.int pre.length), some d] μ Q := by
      intro n hn hb
      have := ih (pre ++ [d]) (some n) (some (.int pre.length)) (some d) (by rw [hds]; simp) (.inr ⟨n, rfl, by rw [hds, hn]; simp, by simp⟩)
      rw [show (pre ++ [d]).length = pre.length + 1 by simp] at this
      exact this (fun e => h0 (hb ▸ e)) fun k e => h1 k (hb ▸ e)
    cases d with
    | int n =>
      trivial
      refine ct_s (fun hpos => ?_) (fun hz => ?_)
      · obtain ⟨rfl, _⟩ | ⟨m, rfl, hm, _⟩ := hp
        · simp at hpos
        · trivial
          have hat : atI ds ((pre.length : Int) - 1) = some (.int m) := by
            rw [show (pre.length : Int) - 1 = ((pre.length - 1 : Nat) : Int) by omega]
            exact atI_at hm
          refine idx_i hat ?_
          trivial
          refine ct_s (fun hmn => ?_) (fun hmn => ?_)
          · trivial
            exact h1 _ (by simp [badP_int, up, hmn]) _ _
          · trivial
            exact good n rfl (by simp [badP_int, up, hmn])
      · obtain ⟨rfl, rfl⟩ | ⟨m, rfl, hm, h9⟩ := hp
        · trivial
          exact good n rfl rfl
        · omega
    | _ => trivial; exact h1 _ rfl _ _
theorem checkP_w {d : D} {μ : Mem} (w : Wf μ) (t : Typed μ d) (ts : ∀ ds, d = .tup ds → ∀ x ∈ ds, Typed μ x) {Q X : D → Mem → Prop} (h0 : chkD d = none → Q .non μ) (h1 : ∀ p, chkD d = some p → X (.exc 1 [p]) μ) : WR (m_check_partition [d] μ) Q X := by
  refine wd rfl (by simp only [List.map_cons, List.map_nil, List.cons_append, List.nil_append, List.length_cons, List.length_nil, Nat.reduceAdd, Nat.reduceSub, List.replicate_succ, List.replicate_zero]; rfl) ?_
  unfold t_check_partition
  trivial
  refine isi_i (isTup_of t) ?_
  cases d with
  | tup ds =>
    trivial
    refine ct_s (fun hl => ?_) (fun hl => ?_)
    · trivial
      refine ct_ns (fun hl2 => ?_) (fun hl2 => ?_)
      · trivial
        exact fi_ex w rfl rfl (h1 _ (by simp [chkD]; omega))
      · have hle : 1 ≤ ds.length ∧ ds.length ≤ 6 := by omega
        trivial
        rw [enumF_is]
        refine loopP w (ts ds rfl) ds [] none none none rfl (.inl ⟨rfl, rfl⟩) (fun e x y => ?_) (fun k e x y => ?_)
        · trivial
          exact fi_nx w rfl (h0 (by simp [chkD, hle]; exact e))
        · trivial
          exact fi_ex w rfl rfl (h1 _ (by simp [chkD, hle]; exact ⟨_, e, rfl⟩))
    · trivial
      exact fi_ex w rfl rfl (h1 _ (by simp [chkD]; omega))
  | _ => trivial; exact fi_ex w rfl rfl (h1 _ rfl)
theorem badP_fall : ∀ (ps : List Int) (p : Option Int) (i : Nat), ps.Pairwise (fun a b => b ≤ a) → (∀ m, p = some m → ∀ a ∈ ps, a ≤ m) → badP p i (ps.map .int) = none
  | [], _, _, _, _ => rfl
  | a :: ps, p, i, h, hp => by
    rw [List.map_cons, badP_int, up_no (fun m e => hp m e a List.mem_cons_self), if_neg Bool.false_ne_true, badP_fall ps (some a) (i + 1) (List.Pairwise.tail h) (fun m e b hb => by cases e; exact List.rel_of_pairwise_cons h hb)]
theorem negAt_nn : ∀ (ps : List Int) (i : Nat), (∀ a ∈ ps, 0 ≤ a) → negAt i (ps.map .int) = none
  | [], _, _ => rfl
  | a :: ps, i, h => by
    rw [List.map_cons, negAt, negAt_nn ps (i + 1) fun b hb => h b (List.mem_cons_of_mem _ hb), if_neg (by have := h a List.mem_cons_self; omega)]
theorem badP_app : ∀ (ps : List Int) (p : Option Int) (i : Nat) (x : D) (ds : List D), ps.Pairwise (fun a b => b ≤ a) → (∀ m, p = some m → ∀ a ∈ ps, a ≤ m) → (isIntD x = false ∨ ∃ n m, x = .int n ∧ (ps.getLast?.or p) = some m ∧ m < n) → badP p i (ps.map .int ++ x :: ds) = some (i + ps.length)
  | [], p, i, x, ds, _, _, hx => by
    rcases hx with hx | ⟨n, m, rfl, e, h⟩
    · cases x <;> first | rfl | cases hx
    · have : p = some m := by simpa using e
      subst this
      simp [badP_int, up, h]
  | a :: ps, p, i, x, ds, h, hp, hx => by
    rw [List.map_cons, List.cons_append, badP_int, up_no (fun m e => hp m e a List.mem_cons_self), if_neg Bool.false_ne_true, badP_app ps (some a) (i + 1) x ds (List.Pairwise.tail h) (fun m e b hb => by cases e; exact List.rel_of_pairwise_cons h hb) ?_]
    · simp; omega
    · rcases hx with hx | ⟨n, m, rfl, e, h⟩
      · exact .inl hx
      · refine .inr ⟨n, m, rfl, ?_, h⟩
        cases ps with
        | nil => simpa using e
        | cons b ps =>
        rw [List.getLast?_cons_cons] at e
        cases q : (b :: ps).getLast? with
        | none => simp at q
        | some z => rw [q] at e; exact e
theorem badP_all : ∀ (ps : List Int) (p : Option Int) (i : Nat) (ds : List D), ps.Pairwise (fun a b => b ≤ a) → (∀ m, p = some m → ∀ a ∈ ps, a ≤ m) → badP p i (ps.map .int ++ ds) = badP (ps.getLast?.or p) (i + ps.length) ds
  | [], p, i, ds, _, _ => by simp
  | a :: ps, p, i, ds, h, hp => by
    rw [List.map_cons, List.cons_append, badP_int, up_no (fun m e => hp m e a List.mem_cons_self), if_neg Bool.false_ne_true, badP_all ps (some a) (i + 1) ds (List.Pairwise.tail h) (fun m e b hb => by cases e; exact List.rel_of_pairwise_cons h hb)]
    cases ps with
    | nil => simp
    | cons b ps => simp [List.getLast?_cons_cons]; congr 1; omega
abbrev bodyN : Ss := .cons (.ite (.cmp .lt (.var 2) (.int 0)) (.cons (.raise 1 (.cons (.var 1) .nil) []) .nil) .nil) .nil
theorem loopN {μ : Mem} {Q : O → Prop} (w : Wf μ) {ds : List D} : ∀ (suf : List Int) (k : Nat) (x y : Option D), (negAt k (suf.map .int) = none → ∀ x y, Q (.nx [some (.tup ds), x, y] μ)) → (∀ j, negAt k (suf.map .int) = some j → ∀ x y, Q (.ex (.exc 1 [.int j]) [some (.tup ds), x, y] μ)) →
    WF (fun x sl1 μ2 => (asgTg (.tup [1, 2]) x sl1).bind fun sl2 => evSs γ_check_nonnegative 0 bodyN sl2 μ2) (enumF k (suf.map .int)) [some (.tup ds), x, y] μ Q
  | [], k, x, y, h0, _ => wf_nil (h0 rfl x y)
  | n :: suf, k, x, y, h0, h1 => by
    rw [List.map_cons] at *
    refine wf_cons (wo_tg rfl ?_)
    simp only [List.zip_cons_cons, List.zip_nil_right, List.foldl_cons, List.foldl_nil, List.set_cons_zero, List.set_cons_succ]
    trivial
    refine ct_s (fun hn => ?_) (fun hn => ?_)
    · trivial
      exact h1 _ (by simp [negAt, hn]) _ _
    · trivial
      exact loopN w suf (k + 1) _ _ (fun e => h0 (by simp [negAt, hn, e])) fun j e => h1 j (by simp [negAt, hn, e])
theorem ints_of : ∀ (ds : List D) (p : Option Int) (i : Nat), badP p i ds = none → ∃ ps : List Int, ds = ps.map .int
  | [], _, _, _ => ⟨[], rfl⟩
  | d :: ds, p, i, h => by
    cases d with
    | int n =>
      rw [badP_int] at h
      split at h
      · cases h
      · obtain ⟨ps, e⟩ := ints_of ds _ _ h
        exact ⟨n :: ps, by rw [e]; rfl⟩
    | _ => cases h
theorem checkN_w {d : D} {μ : Mem} (w : Wf μ) (t : Typed μ d) (ts : ∀ ds, d = .tup ds → ∀ x ∈ ds, Typed μ x) {Q X : D → Mem → Prop} (h0 : chkN d = none → Q .non μ) (h1 : ∀ p, chkN d = some p → X (.exc 1 [p]) μ) : WR (m_check_nonnegative [d] μ) Q X := by
  refine wd rfl (by simp only [List.map_cons, List.map_nil, List.cons_append, List.nil_append, List.length_cons, List.length_nil, Nat.reduceAdd, Nat.reduceSub, List.replicate_succ, List.replicate_zero]; rfl) ?_
  unfold t_check_nonnegative
  trivial
  refine call_e (checkP_w w t ts (fun e => ?_) (fun p e => ?_)) rfl
  · cases d with
    | tup ds =>
      rw [chkD] at e
      split at e
      · rw [Option.map_eq_none_iff] at e
        obtain ⟨ps, rfl⟩ := ints_of ds none 0 e
        trivial
        rw [enumF_is]
        have hle : (1 ≤ (ps.map D.int).length ∧ (ps.map D.int).length ≤ 6) := by assumption
        have ec : chkN (.tup (ps.map .int)) = (negAt 0 (ps.map .int)).map fun (k : Nat) => D.int (k : Int) := by
          rw [chkN, chkD_tup, if_pos hle, e]
          rfl
        refine loopN w ps 0 _ _ (fun e2 x y => ?_) (fun j e2 x y => ?_)
        · trivial
          exact fi_nx w rfl (h0 (by rw [ec, e2]; rfl))
        · trivial
          exact fi_ex w rfl rfl (h1 _ (by rw [ec, e2]; rfl))
      · cases e
    | _ => cases e
  · trivial
    have hp : lowD μ.length (.exc 1 [p]) = true := by
      cases d with
      | tup ds =>
        rw [chkD] at e
        split at e
        · rw [Option.map_eq_some_iff] at e
          obtain ⟨k, _, rfl⟩ := e
          rfl
        · cases e; rfl
      | _ => cases e; rfl
    exact fi_ex w rfl hp (h1 _ (by unfold chkN; rw [e]))
end K70
end
section
namespace K70
open PySem PySem.Spec PyProof.Rows L2 Mn
local macro_rules | `(tactic| trivial) => `(tactic| (repeat first | (refine sq_nx ?_; try simp only [List.set_cons_zero, List.set_cons_succ]) | (apply we_var; rfl) | (apply we_glb; rfl) | (apply ws_aug; rfl) | (refine And.intro (sz ?_) ?_; focus (simp; done)) | refine ws_cons ?_ | refine ws_set ?_ | refine ws_ite ?_ | refine ws_for ?_ | refine ws_ret ?_ | refine ws_retN ?_ | refine ws_expr ?_ | refine ws_par ?_ | refine ws_par3 ?_ | refine ws_setIx ?_ | refine ws_app ?_ | refine ws_unp ?_ | refine ws_raise ?_ | refine ws_pass ?_ | refine ws_brk ?_ | refine ws_cont ?_ | refine ws_nil ?_ | refine we_non ?_ | refine we_bl ?_ | refine we_int ?_ | refine we_str ?_ | refine we_bin ?_ | refine we_neg ?_ | refine we_cmp ?_ | refine we_chain ?_ | refine we_and ?_ | refine we_or ?_ | refine we_one ?_ | refine we_not ?_ | refine we_ifx ?_ | refine we_tup ?_ | refine we_call ?_ | refine we_blt ?_ | refine we_isi ?_ | refine we_isiO ?_ | refine we_idx ?_ | refine we_slc ?_ | refine we_rev ?_ | refine we_val ?_ | refine we_mk ?_ | refine we_dict ?_ | refine we_dnew ?_ | refine we_fld ?_ | refine we_told ?_ | refine wes_nil ?_ | refine wes_cons ?_ | refine weo_no ?_ | refine weo_some ?_ | refine wk_nil ?_ | refine wk_cons ?_ | refine wt_no ?_ | refine wt_some ?_ | refine wi_seq ?_ | refine wi_enum ?_ | refine wi_zip ?_ | refine wi_range1 ?_ | refine wi_range2 ?_ | refine wl_disp ?_ | refine wl_comp ?_ | refine wl_cat ?_ | refine asB_i ?_ | refine asI_i ?_ | refine ct_t ?_ | refine ct_f ?_ | refine sq_rt ?_ | refine sq_ex ?_ | refine sq_bk ?_ | refine sq_ct ?_ | refine st_nx ?_ | refine st_ct ?_ | refine st_bk ?_ | refine st_rt ?_ | refine st_ex ?_ | refine fk_rt ?_ | refine fk_nx ?_ | refine fk_ex ?_ | refine pw_eqr ?_ | refine pw_ner ?_ | refine pw_eqi ?_ | refine pw_nei ?_ | refine pow18 ?_ | refine it_t ?_ | refine it_l ?_ | refine seq_l ?_ | refine rev_t ?_ | refine rev_l ?_ | refine And.intro (by assumption) ?_ | refine And.intro (szl (by omega)) ?_ | refine pw_mul (by omega) ?_ | refine pw_mulL (by omega) ?_ | refine pw_mod (by omega) ?_ | refine pw_div (by omega) (by omega) ?_ | refine pw_add ?_ | refine pw_sub ?_ | refine pw_lt ?_ | refine pw_le ?_ | refine pw_gt ?_ | refine pw_ge ?_ | refine pw_augA ?_ | refine pw_augS ?_ | refine pw_augM (by omega) ?_ | refine And.intro rfl ?_ | refine pw_len_l ?_ | refine pw_len_t ?_ | refine pw_unp2 ?_ | refine pw_unp3 ?_ | refine blt_list ?_ | refine blt_tuple ?_))
def gD (ps : List Int) (k : Nat) : Int := ps[k]?.getD 0
def rowP (ps : List Int) (j : Nat) : Nat → Int
  | 0 => 1
  | k + 1 => rowP ps j k * (gD ps k - gD ps j + j - k)
def rowB (j : Nat) : Nat → Int
  | 0 => 1
  | k + 1 => rowB j k * (j - k)
def totP (ps : List Int) : Nat → Int
  | 0 => 1
  | j + 1 => totP ps j * rowP ps j j
def totB : Nat → Int
  | 0 => 1
  | j + 1 => totB j * rowB j j
theorem rng_at {lo : Int} {n i : Nat} {x : D} (h : (rngL lo n)[i]? = some x) : i < n ∧ x = .int (lo + (i : Int)) := by
  unfold rngL at h
  rw [List.getElem?_map] at h
  cases q : (List.range n)[i]? with
  | none => rw [q] at h; cases h
  | some j =>
    rw [q] at h
    obtain ⟨hi, ej⟩ := List.getElem?_eq_some_iff.mp q
    rw [List.getElem_range] at ej
    subst ej
    exact ⟨by simpa using hi, (Option.some.inj h).symm⟩
theorem rng_len {lo : Int} {n : Nat} : (rngL lo n).length = n := by simp [rngL]
theorem ix_ints {ps : List Int} {k : Nat} {μ : Mem} (h : k < ps.length) : idxD μ (.tup (ps.map .int)) (.int (k : Int)) = some (.int (gD ps k)) := by
  have := atI_ints (cs := ps) (i := (k : Int)) (by omega) (by omega)
  rw [Int.toNat_natCast] at this
  exact this
theorem dimof_w {ps : List Int} {μ : Mem} (w : Wf μ) (hl : ps.length ≤ 6) (hb : ∀ k, 0 ≤ gD ps k ∧ gD ps k ≤ 1000000) {Q X : D → Mem → Prop} (h : Q (.int (totP ps ps.length / totB ps.length)) μ) : WR (m_dimension_of [.tup (ps.map .int)] μ) Q X := by
  refine wd rfl (by simp only [List.map_cons, List.map_nil, List.cons_append, List.nil_append, List.length_cons, List.length_nil, Nat.reduceAdd, Nat.reduceSub, List.replicate_succ, List.replicate_zero]; rfl) ?_
  unfold t_dimension_of
  trivial
  simp only [List.length_map]
  refine And.intro (by omega) ?_
  refine wf_inv (fun j sl m => m = μ ∧ ∃ x1 x4, sl = [some (.tup (ps.map .int)), x1, some (.int (totP ps j)), some (.int (totB j)), x4]) ⟨rfl, _, _, rfl⟩ ?_ ?_
  · rintro j x sl m hx ⟨rfl, x1, x4, rfl⟩
    obtain ⟨hj, rfl⟩ := rng_at hx
    rw [Int.toNat_natCast] at hj
    refine wo_tg rfl ?_
    simp only [List.set_cons_zero, List.set_cons_succ, Int.zero_add]
    trivial
    refine And.intro (by omega) ?_
    refine wf_inv (fun k sl m1 => m1 = m ∧ ∃ x4, sl = [some (.tup (ps.map .int)), some (.int j), some (.int (totP ps j * rowP ps j k)), some (.int (totB j * rowB j k)), x4]) ⟨rfl, x4, by simp [rowP, rowB]⟩ ?_ ?_
    · rintro k x sl m1 hx ⟨rfl, x4, rfl⟩
      obtain ⟨hk, rfl⟩ := rng_at hx
      rw [Int.toNat_natCast] at hk
      refine wo_tg rfl ?_
      simp only [List.set_cons_zero, List.set_cons_succ, Int.zero_add]
      trivial
      refine idx_i (ix_ints (by omega)) ?_
      trivial
      refine idx_i (ix_ints (by omega)) ?_
      have b1 := hb k
      have b2 := hb j
      trivial
      refine ⟨some (.int k), ?_⟩
      simp only [rowP, rowB, Int.mul_assoc]
    · rintro sl m1 ⟨rfl, x4, rfl⟩
      rw [rng_len, Int.toNat_natCast]
      trivial
      exact ⟨_, _, rfl⟩
  · rintro sl m ⟨rfl, x1, x4, rfl⟩
    rw [rng_len, Int.toNat_natCast]
    have hB : 0 < totB ps.length ∧ totB ps.length < 2 ^ 64 := by
      generalize ps.length = n at hl
      have : n = 0 ∨ n = 1 ∨ n = 2 ∨ n = 3 ∨ n = 4 ∨ n = 5 ∨ n = 6 := by omega
      rcases this with rfl | rfl | rfl | rfl | rfl | rfl | rfl <;> decide
    trivial
    exact fi_rt w rfl rfl h
theorem formula_w {ps : List Int} {μ : Mem} (w : Wf μ) (hl : ps.length ≤ 6) (hb : ∀ k, 0 ≤ gD ps k ∧ gD ps k ≤ 1000000) (hd : totP ps ps.length % totB ps.length = 0) {Q X : D → Mem → Prop} (h : Q (.int (totP ps ps.length / totB ps.length)) μ) : WR (m__law_formula [.tup (ps.map .int)] μ) Q X := by
  refine wd rfl (by simp only [List.map_cons, List.map_nil, List.cons_append, List.nil_append, List.length_cons, List.length_nil, Nat.reduceAdd, Nat.reduceSub, List.replicate_succ, List.replicate_zero]; rfl) ?_
  unfold t__law_formula
  trivial
  simp only [List.length_map]
  refine And.intro (by omega) ?_
  refine wf_inv (fun j sl m => m = μ ∧ ∃ x1 x4, sl = [some (.tup (ps.map .int)), x1, some (.int (totP ps j)), some (.int (totB j)), x4]) ⟨rfl, _, _, rfl⟩ ?_ ?_
  · rintro j x sl m hx ⟨rfl, x1, x4, rfl⟩
    obtain ⟨hj, rfl⟩ := rng_at hx
    rw [Int.toNat_natCast] at hj
    refine wo_tg rfl ?_
    simp only [List.set_cons_zero, List.set_cons_succ, Int.zero_add]
    trivial
    refine And.intro (by omega) ?_
    refine wf_inv (fun k sl m1 => m1 = m ∧ ∃ x4, sl = [some (.tup (ps.map .int)), some (.int j), some (.int (totP ps j * rowP ps j k)), some (.int (totB j * rowB j k)), x4]) ⟨rfl, x4, by simp [rowP, rowB]⟩ ?_ ?_
    · rintro k x sl m1 hx ⟨rfl, x4, rfl⟩
      obtain ⟨hk, rfl⟩ := rng_at hx
      rw [Int.toNat_natCast] at hk
      refine wo_tg rfl ?_
      simp only [List.set_cons_zero, List.set_cons_succ, Int.zero_add]
      trivial
      refine idx_i (ix_ints (by omega)) ?_
      trivial
      refine idx_i (ix_ints (by omega)) ?_
      have b1 := hb k
      have b2 := hb j
      trivial
      refine ⟨some (.int k), ?_⟩
      simp only [rowP, rowB, Int.mul_assoc]
    · rintro sl m1 ⟨rfl, x4, rfl⟩
      rw [rng_len, Int.toNat_natCast]
      trivial
      exact ⟨_, _, rfl⟩
  · rintro sl m ⟨rfl, x1, x4, rfl⟩
    rw [rng_len, Int.toNat_natCast]
    have hB : 0 < totB ps.length ∧ totB ps.length < 2 ^ 64 := by
      generalize ps.length = n at hl
      have : n = 0 ∨ n = 1 ∨ n = 2 ∨ n = 3 ∨ n = 4 ∨ n = 5 ∨ n = 6 := by omega
      rcases this with rfl | rfl | rfl | rfl | rfl | rfl | rfl <;> decide
    trivial
    refine ct_d hd ?_
    trivial
    exact fi_rt w rfl rfl h
theorem typed_ints {μ : Mem} (ps : List Int) : ∀ ds, D.tup (ps.map .int) = .tup ds → ∀ x ∈ ds, Typed μ x := by
  intro ds e x hx
  cases e
  obtain ⟨n, _, rfl⟩ := List.mem_map.mp hx
  rfl
theorem chkN_fall {ps : List Int} (hf : ps.Pairwise fun a b => b ≤ a) (h0 : ∀ p ∈ ps, 0 ≤ p) (h1 : 1 ≤ ps.length) (h6 : ps.length ≤ 6) : chkN (.tup (ps.map .int)) = none := by
  rw [chkN, chkD_tup, if_pos (by simpa using ⟨h1, h6⟩), badP_fall ps none 0 hf (fun _ e => by cases e), Option.map_none]
  show (negAt 0 (ps.map .int)).map _ = none
  rw [negAt_nn ps 0 h0]
  rfl
theorem gD_mem {ps : List Int} {top : Int} (h0 : ∀ p ∈ ps, 0 ≤ p) (h1 : ∀ p ∈ ps, p ≤ top) (ht : 0 ≤ top) (k : Nat) : 0 ≤ gD ps k ∧ gD ps k ≤ top := by
  unfold gD
  cases h : ps[k]? with
  | none => exact ⟨Int.le_refl 0, ht⟩
  | some a => exact ⟨h0 a (List.mem_of_getElem? h), h1 a (List.mem_of_getElem? h)⟩
theorem dim_w {ps : List Int} {μ : Mem} (w : Wf μ) (hf : ps.Pairwise fun a b => b ≤ a) (h0 : ∀ p ∈ ps, 0 ≤ p) (h9 : ∀ p ∈ ps, p ≤ 1000000) (h1 : 1 ≤ ps.length) (h6 : ps.length ≤ 6) {Q X : D → Mem → Prop} (h : Q (.int (totP ps ps.length / totB ps.length)) μ) : WR (m_dimension [.tup (ps.map .int)] μ) Q X := by
  refine wd rfl (by simp only [List.map_cons, List.map_nil, List.cons_append, List.nil_append, List.length_cons, List.length_nil, Nat.reduceAdd, Nat.reduceSub, List.replicate_succ, List.replicate_zero]; rfl) ?_
  unfold t_dimension
  trivial
  refine call_e (checkN_w w rfl (typed_ints ps) (fun _ => ?_) (fun p e => by rw [chkN_fall hf h0 h1 h6] at e; cases e)) rfl
  trivial
  have hb := gD_mem h0 h9 (by omega)
  refine call_e (dimof_w w h6 hb ?_) rfl
  trivial
  exact fi_rt w rfl rfl h
theorem dim_x {d p : D} {μ : Mem} (w : Wf μ) (t : Typed μ d) (ts : ∀ ds, d = .tup ds → ∀ x ∈ ds, Typed μ x) (hp : chkN d = some p) (hl : lowD μ.length p = true) {Q X : D → Mem → Prop} (h : X (.exc 1 [p]) μ) : WR (m_dimension [d] μ) Q X := by
  refine wd rfl (by simp only [List.map_cons, List.map_nil, List.cons_append, List.nil_append, List.length_cons, List.length_nil, Nat.reduceAdd, Nat.reduceSub, List.replicate_succ, List.replicate_zero]; rfl) ?_
  unfold t_dimension
  trivial
  refine call_e (checkN_w w t ts (fun e => by rw [hp] at e; cases e) (fun q e => ?_)) rfl
  rw [hp] at e
  cases e
  trivial
  exact fi_ex w rfl (by simp [lowD, lowL, hl]) h
end K70
end
section
namespace K70
open PySem PySem.Spec PyProof.Rows L2 Mn
local macro_rules | `(tactic| trivial) => `(tactic| (repeat first | (refine sq_nx ?_; try simp only [List.set_cons_zero, List.set_cons_succ]) | (apply we_var; rfl) | (apply we_glb; rfl) | (apply ws_aug; rfl) | (refine And.intro (sz ?_) ?_; focus (simp; done)) | refine ws_cons ?_ | refine ws_set ?_ | refine ws_ite ?_ | refine ws_for ?_ | refine ws_ret ?_ | refine ws_retN ?_ | refine ws_expr ?_ | refine ws_par ?_ | refine ws_par3 ?_ | refine ws_setIx ?_ | refine ws_app ?_ | refine ws_unp ?_ | refine ws_raise ?_ | refine ws_pass ?_ | refine ws_brk ?_ | refine ws_cont ?_ | refine ws_nil ?_ | refine we_non ?_ | refine we_bl ?_ | refine we_int ?_ | refine we_str ?_ | refine we_bin ?_ | refine we_neg ?_ | refine we_cmp ?_ | refine we_chain ?_ | refine we_and ?_ | refine we_or ?_ | refine we_one ?_ | refine we_not ?_ | refine we_ifx ?_ | refine we_tup ?_ | refine we_call ?_ | refine we_blt ?_ | refine we_isi ?_ | refine we_isiO ?_ | refine we_idx ?_ | refine we_slc ?_ | refine we_rev ?_ | refine we_val ?_ | refine we_mk ?_ | refine we_dict ?_ | refine we_dnew ?_ | refine we_fld ?_ | refine we_told ?_ | refine wes_nil ?_ | refine wes_cons ?_ | refine weo_no ?_ | refine weo_some ?_ | refine wk_nil ?_ | refine wk_cons ?_ | refine wt_no ?_ | refine wt_some ?_ | refine wi_seq ?_ | refine wi_enum ?_ | refine wi_zip ?_ | refine wi_range1 ?_ | refine wi_range2 ?_ | refine wl_disp ?_ | refine wl_comp ?_ | refine wl_cat ?_ | refine asB_i ?_ | refine asI_i ?_ | refine ct_t ?_ | refine ct_f ?_ | refine sq_rt ?_ | refine sq_ex ?_ | refine sq_bk ?_ | refine sq_ct ?_ | refine st_nx ?_ | refine st_ct ?_ | refine st_bk ?_ | refine st_rt ?_ | refine st_ex ?_ | refine fk_rt ?_ | refine fk_nx ?_ | refine fk_ex ?_ | refine pw_eqr ?_ | refine pw_ner ?_ | refine pw_eqi ?_ | refine pw_nei ?_ | refine pow18 ?_ | refine it_t ?_ | refine it_l ?_ | refine seq_l ?_ | refine rev_t ?_ | refine rev_l ?_ | refine And.intro (by assumption) ?_ | refine And.intro (szl (by omega)) ?_ | refine pw_mul (by omega) ?_ | refine pw_mulL (by omega) ?_ | refine pw_mod (by omega) ?_ | refine pw_div (by omega) (by omega) ?_ | refine pw_add ?_ | refine pw_sub ?_ | refine pw_lt ?_ | refine pw_le ?_ | refine pw_gt ?_ | refine pw_ge ?_ | refine pw_augA ?_ | refine pw_augS ?_ | refine pw_augM (by omega) ?_ | refine And.intro rfl ?_ | refine pw_len_l ?_ | refine pw_len_t ?_ | refine pw_unp2 ?_ | refine pw_unp3 ?_ | refine blt_list ?_ | refine blt_tuple ?_))
section
variable {cs gs : List Int} {n top : Int} {tl : Mem}
theorem draw_w (hw : Wt tl) (hc : cs.length = 64) (h0 : 0 ≤ n) (h1 : n < 2 ^ 59) (t0 : 0 < top) (t1 : top < 2 ^ 64) {Q X : D → Mem → Prop} (h : ∀ (v : Int) (gs2 : List Int), 0 ≤ v → v < top → Q (.int v) (MS cs gs2 (n + 1) tl)) : WR (m__law_draw [.ref 0, .int top] (MS cs gs n tl)) Q X := by
  obtain ⟨v, g2, a, b, e⟩ := draw_ok (gs := gs) hw hc h0 h1 t0 t1
  exact wr_ok e (h v g2 a b)
theorem ms_app {x : Ob} : MS cs gs n tl ++ [x] = MS cs gs n (tl ++ [x]) := rfl
theorem ms_length : (MS cs gs n tl).length = tl.length + 2 := rfl
theorem ms_get {k : Nat} : (MS cs gs n tl)[k + 2]? = tl[k]? := rfl
theorem ms_put2 {k : Nat} {x : Ob} : (MS cs gs n tl).set (k + 2) x = MS cs gs n (tl.set k x) := rfl
end
def TyT (T : Nat) : D → Bool
  | .ref n => decide (n = T)
  | .kls _ => false
  | .exc _ _ => false
  | .opq => false
  | _ => true
theorem tyT_of {T : Nat} {μ : Mem} {d : D} (h : TyT T d = true) (hT : μ[T]? = some (.dk [])) : Typed μ d := by
  cases d with
  | ref n =>
    have : n = T := by simpa [TyT] using h
    subst this
    simp [Typed, tyN, hT]
  | kls _ => cases h
  | exc _ _ => cases h
  | opq => cases h
  | _ => rfl
structure RowOk (T : Nat) (r : D) (v p : D) : Prop where
  row : r = .tup [v, .tup [.str "InvalidPartition", p]]
  chk : chkN v = some p
  ps : p = .non ∨ ∃ k : Nat, p = .int k
  ty : TyT T v = true
  tys : ∀ ds, v = .tup ds → ∀ x ∈ ds, TyT T x = true
  low : lowD (T + 1) v = true
abbrev RowsOk (T : Nat) (rows : List D) : Prop := ∀ r ∈ rows, ∃ v p, RowOk T r v p
theorem rows_snoc {T : Nat} {rows : List D} {r v p : D} (h : RowsOk T rows) (hr : RowOk T r v p) : RowsOk T (rows ++ [r]) := fun x hx => by
  rcases List.mem_append.mp hx with hx | hx
  · exact h x hx
  · have : x = r := by simpa using hx
    exact ⟨v, p, this ▸ hr⟩
theorem rows_low {T k : Nat} (hk : T < k) {rows : List D} (h : RowsOk T rows) : lowL k rows = true := by
  have up : ∀ {d : D}, lowD (T + 1) d = true → lowD k d = true := fun {d} hd => lowD_mono (by omega) hd
  induction rows with
  | nil => rfl
  | cons r rows ih =>
    rw [lowL, ih fun x hx => h x (List.mem_cons_of_mem _ hx)]
    obtain ⟨v, p, hr⟩ := h r List.mem_cons_self
    rw [hr.row]
    have h2 : lowD k p = true := by
      rcases hr.ps with h | ⟨_, h⟩ <;> rw [h] <;> rfl
    simp [lowD, lowL, up hr.low, h2]

theorem wt_snoc {tl : Mem} {o : Ob} (h : Wt tl) (ho : lowOb (tl.length + 3) o = true) : Wt (tl ++ [o]) := by
  show (tl ++ [o]).all (lowOb ((tl ++ [o]).length + 2)) = true
  rw [List.all_append, List.length_append]
  have : tl.all (lowOb (tl.length + [o].length + 2)) = true := all_low_mono (by simp) h
  rw [this]
  simpa using ho
theorem fall_take {ps : List Int} (hf : ps.Pairwise fun a b => b ≤ a) (k : Nat) : (ps.take k).Pairwise fun a b => b ≤ a := hf.sublist (List.take_sublist k ps)
section
variable {ps : List Int} {k : Nat}
theorem tk_map : (ps.map D.int).take k = (ps.take k).map D.int := by rw [List.map_take]
theorem dr_map : (ps.map D.int).drop k = (ps.drop k).map D.int := by rw [List.map_drop]
theorem chk_put {x : D} {ds : List D} (hf : ps.Pairwise fun a b => b ≤ a) (hk : k < ps.length) (hx : isIntD x = false ∨ ∃ n m, x = .int n ∧ (ps.take k).getLast? = some m ∧ m < n) (hl : k + 1 + ds.length ≤ 6) : chkN (.tup ((ps.take k).map .int ++ x :: ds)) = some (.int k) := by
  have e : badP none 0 ((ps.take k).map .int ++ x :: ds) = some k := by
    rw [badP_app (ps.take k) none 0 x ds (fall_take hf k) (fun _ e => by cases e)]
    · rw [List.length_take]; congr 1; omega
    · rcases hx with hx | ⟨n, m, h1, h2, h3⟩
      · exact .inl hx
      · exact .inr ⟨n, m, h1, by simpa using h2, h3⟩
  rw [chkN, chkD_tup, if_pos (by simp; omega), e]
  rfl
theorem chk_long {ds : List D} (h : 6 < ds.length) : chkN (.tup ds) = some .non := by
  rw [chkN, chkD_tup, if_neg (by omega)]
theorem chk_low (hf : ps.Pairwise fun a b => b ≤ a) (h0 : ∀ p ∈ ps, 0 ≤ p) (hk : k < ps.length) (h6 : ps.length ≤ 6) : chkN (.tup ((ps.take k).map .int ++ (List.replicate (ps.length - k) (-1 : Int)).map .int)) = some (.int k) := by
  have hq : ((ps.take k) ++ List.replicate (ps.length - k) (-1 : Int)).Pairwise fun a b => b ≤ a := by
    rw [List.pairwise_append]
    refine ⟨fall_take hf k, by simp, fun a ha b hb => ?_⟩
    have := h0 a (List.mem_of_mem_take ha)
    have := (List.mem_replicate.mp hb).2
    omega
  have e : badP none 0 ((ps.take k).map .int ++ (List.replicate (ps.length - k) (-1 : Int)).map .int) = none := by
    rw [← List.map_append]
    exact badP_fall _ none 0 hq (fun _ e => by cases e)
  have neg : ∀ (l : List Int) (i : Nat) (r : List D), (∀ p ∈ l, 0 ≤ p) → negAt i (l.map .int ++ .int (-1) :: r) = some (i + l.length) := by
    intro l
    induction l with
    | nil => intro i r _; rfl
    | cons a l ih =>
      intro i r h
      rw [List.map_cons, List.cons_append, negAt, if_neg (by have := h a List.mem_cons_self; omega), ih (i + 1) r fun p hp => h p (List.mem_cons_of_mem _ hp)]
      simp; omega
  rw [chkN, chkD_tup, if_pos (by simp; omega), e]
  show (negAt 0 _).map _ = _
  have er : List.replicate (ps.length - k) (-1 : Int) = -1 :: List.replicate (ps.length - k - 1) (-1) := by
    rw [← List.replicate_succ]; congr 1; omega
  rw [er, List.map_cons, neg _ 0 _ fun p hp => h0 p (List.mem_of_mem_take hp)]
  simp; omega
end

theorem refused_w {cs gs : List Int} {n : Int} {tl : Mem} {ps : List Int} (hw : Wt tl) (hc : cs.length = 64) (h0 : 0 ≤ n) (h1 : n < 2 ^ 58) (hf : ps.Pairwise fun a b => b ≤ a) (hn : ∀ p ∈ ps, 0 ≤ p) (hp1 : 1 ≤ ps.length) (hp6 : ps.length ≤ 6) {Q X : D → Mem → Prop}
    (h : ∀ rows gs2 tl2, RowsOk (tl.length + 2) rows → Wt tl2 → tl2[tl.length]? = some (.dk []) → Q (.lst rows) (MS cs gs2 (n + 1) tl2)) : WR (m__law_refused [.ref 0, .tup (ps.map .int)] (MS cs gs n tl)) Q X := by
  refine wdK rfl (by simp only [List.map_cons, List.map_nil, List.cons_append, List.nil_append, List.length_cons, List.length_nil, Nat.reduceAdd, Nat.reduceSub, List.replicate_succ, List.replicate_zero]; rfl) ?_
  unfold t__law_refused
  trivial
  refine bin_rep ⟨by omega, by omega, by simp; omega⟩ ?_
  trivial
  refine wg_map (fun d => .tup [d, .tup [.str "InvalidPartition", .non]]) (sz (by simp)) ?_ ?_
  · intro x _ acc ha
    refine wel rfl ?_
    trivial
    exact rfl
  · have hr0 : RowsOk (tl.length + 2) (List.map (fun d => D.tup [d, .tup [.str "InvalidPartition", .non]]) [D.non, .int 5, .str "ab", .tup [], .lst [], .lst (ps.map .int), .ref (tl.length + 2), .tup (List.replicate (7 : Int).toNat (ps.map D.int)).flatten]) := by
      intro r hr
      obtain ⟨d, hd, rfl⟩ := List.mem_map.mp hr
      refine ⟨d, .non, rfl, ?_, .inl rfl, ?_, ?_, ?_⟩
      · simp only [List.mem_cons, List.not_mem_nil, or_false] at hd
        rcases hd with rfl | rfl | rfl | rfl | rfl | rfl | rfl | rfl
        all_goals first | rfl | skip
        exact chk_long (by simp; omega)
      · simp only [List.mem_cons, List.not_mem_nil, or_false] at hd
        rcases hd with rfl | rfl | rfl | rfl | rfl | rfl | rfl | rfl
        all_goals first | rfl | skip
        simp [TyT]
      · intro ds e x hx
        subst e
        simp only [List.mem_cons, List.not_mem_nil, or_false, reduceCtorEq, false_or, D.tup.injEq] at hd
        rcases hd with rfl | rfl
        · cases hx
        · obtain ⟨l, hl, hx⟩ := List.mem_flatten.mp hx
          rw [(List.mem_replicate.mp hl).2] at hx
          obtain ⟨z, _, rfl⟩ := List.mem_map.mp hx
          rfl
      · simp only [List.mem_cons, List.not_mem_nil, or_false] at hd
        rcases hd with rfl | rfl | rfl | rfl | rfl | rfl | rfl | rfl
        all_goals first | rfl | exact low_ints _ _ | skip
        · simp [lowD]
        · rw [lowD]
          have : ∀ m : Nat, lowL (tl.length + 2 + 1) (List.replicate m (ps.map D.int)).flatten = true := by
            intro m
            induction m with
            | zero => rfl
            | succ m ih => rw [List.replicate_succ, List.flatten_cons, lowL_app, ih, low_ints]; rfl
          exact this _
    rw [ms_length]
    have hl0 : (List.map (fun d => D.tup [d, .tup [.str "InvalidPartition", .non]]) [D.non, .int 5, .str "ab", .tup [], .lst [], .lst (ps.map .int), .ref (tl.length + 2), .tup (List.replicate (7 : Int).toNat (ps.map D.int)).flatten]).length = 8 := rfl
    generalize List.map (fun d => D.tup [d, .tup [.str "InvalidPartition", .non]]) _ = rows0 at hr0 hl0 ⊢
    have e7 : MS cs gs n tl ++ [if false = true then Ob.dt [] else Ob.dk []] ++ [.lst rows0] = MS cs gs n (tl ++ [.dk [], .lst rows0]) := by simp [MS]
    have e8 : (MS cs gs n tl ++ [if false = true then Ob.dt [] else Ob.dk []]).length = tl.length + 1 + 2 := by simp [MS]
    rw [e7, e8]
    clear e7 e8
    have wt1 : Wt (tl ++ [.dk [], .lst rows0]) := by
      rw [show tl ++ [Ob.dk [], .lst rows0] = (tl ++ [.dk []]) ++ [.lst rows0] by simp]
      exact wt_snoc (wt_snoc hw rfl) (rows_low (by simp) hr0)
    trivial
    rw [List.length_map]
    refine call_e (draw_w wt1 hc h0 (by omega) (by omega) (by omega) fun v g2 v0 v1 => ?_) rfl
    obtain ⟨k, rfl⟩ : ∃ k : Nat, v = k := ⟨v.toNat, by omega⟩
    trivial
    have gt1 : ∀ rows : List D, (MS cs g2 (n + 1) (tl ++ [.dk [], .lst rows]))[tl.length + 1 + 2]? = some (.lst rows) := fun rows => by rw [ms_get]; simp
    have st1 : ∀ (rows : List D) (o : Ob), (MS cs g2 (n + 1) (tl ++ [.dk [], .lst rows])).set (tl.length + 1 + 2) o = MS cs g2 (n + 1) (tl ++ [.dk [], o]) := fun rows o => by rw [ms_put2]; simp [List.set_append]
    have hk : k < ps.length := by omega
    have row1 : ∀ x : D, isIntD x = false → TyT (tl.length + 2) x = true → lowD (tl.length + 3) x = true → RowOk (tl.length + 2) (.tup [.tup (((ps.map D.int).take k ++ [x]) ++ (ps.map D.int).drop (k + 1)), .tup [.str "InvalidPartition", .int k]]) (.tup (((ps.map D.int).take k ++ [x]) ++ (ps.map D.int).drop (k + 1))) (.int k) := fun x hx ht hlo => by
      refine ⟨rfl, ?_, .inr ⟨k, rfl⟩, rfl, ?_, ?_⟩
      · rw [tk_map, List.append_assoc]
        exact chk_put hf hk (.inl hx) (by simp; omega)
      · intro ds e y hy
        cases e
        simp only [List.mem_append, List.mem_singleton] at hy
        rcases hy with (hy | rfl) | hy
        · obtain ⟨z, _, rfl⟩ := List.mem_map.mp (List.mem_of_mem_take hy); rfl
        · exact ht
        · obtain ⟨z, _, rfl⟩ := List.mem_map.mp (List.mem_of_mem_drop hy); rfl
      · rw [lowD, lowL_app, lowL_app, tk_map, dr_map, low_ints, low_ints]
        simp [lowL, hlo]
    refine wf_inv (fun i sl m => ∃ rows x, RowsOk (tl.length + 2) rows ∧ rows.length ≤ rows0.length + i ∧ sl = [some (.ref 0), some (.tup (ps.map .int)), some (.ref (tl.length + 1 + 2)), some (.int k), x, none] ∧ m = MS cs g2 (n + 1) (tl ++ [.dk [], .lst rows])) ⟨rows0, none, hr0, by omega, rfl, rfl⟩ ?_ ?_
    · rintro i x sl m hx ⟨rows, y, hr, hl, rfl, rfl⟩
      have hi : i < 5 := (List.getElem?_eq_some_iff.mp hx).1
      have hx2 : isIntD x = false ∧ TyT (tl.length + 2) x = true ∧ lowD (tl.length + 3) x = true := by
        have := List.mem_of_getElem? hx
        simp only [List.mem_cons, List.not_mem_nil, or_false] at this
        rcases this with rfl | rfl | rfl | rfl | rfl <;> exact ⟨rfl, rfl, rfl⟩
      refine wo_tg rfl ?_
      simp only [List.set_cons_zero, List.set_cons_succ]
      trivial
      refine ⟨lst_at (gt1 rows), ?_⟩
      trivial
      refine slc_to (by simp; omega) ?_
      trivial
      refine bin_cat (by simp; omega) ?_
      trivial
      refine slc_from (k := k + 1) (by simp; omega) ?_
      refine bin_cat (by simp; omega) ?_
      trivial
      refine app_at (gt1 rows) (by omega) ?_
      rw [st1]
      trivial
      exact ⟨_, _, rows_snoc hr (row1 x hx2.1 hx2.2.1 hx2.2.2), by simp; omega, rfl, rfl⟩
    · rintro sl m ⟨rows, y, hr, hl, rfl, rfl⟩
      have hl : rows.length ≤ 13 := by simpa [hl0] using hl
      trivial
      refine ct_m (fun o => ∃ rows2, RowsOk (tl.length + 2) rows2 ∧ rows2.length ≤ 14 ∧ o = .nx [some (.ref 0), some (.tup (ps.map .int)), some (.ref (tl.length + 1 + 2)), some (.int k), y, none] (MS cs g2 (n + 1) (tl ++ [.dk [], .lst rows2]))) (fun hk0 => ?_) (fun hk0 => ?_) ?_
      · trivial
        refine ⟨lst_at (gt1 rows), ?_⟩
        trivial
        refine slc_to (by simp; omega) ?_
        have hix : idxD (MS cs g2 (n + 1) (tl ++ [.dk [], .lst rows])) (.tup (ps.map .int)) (.int ((k : Int) - 1)) = some (.int (gD ps (k - 1))) := by
          rw [show (k : Int) - 1 = ((k - 1 : Nat) : Int) by omega]
          exact ix_ints (by omega)
        trivial
        refine idx_i hix ?_
        trivial
        refine bin_cat (by simp; omega) ?_
        trivial
        refine slc_from (k := k + 1) (by simp; omega) ?_
        refine bin_cat (by simp; omega) ?_
        trivial
        refine app_at (gt1 rows) (by omega) ?_
        rw [st1]
        trivial
        have hrow : RowOk (tl.length + 2) (.tup [.tup (((ps.map D.int).take k ++ [.int (gD ps (k - 1) + 1)]) ++ (ps.map D.int).drop (k + 1)), .tup [.str "InvalidPartition", .int k]]) (.tup (((ps.map D.int).take k ++ [.int (gD ps (k - 1) + 1)]) ++ (ps.map D.int).drop (k + 1))) (.int k) := by
          refine ⟨rfl, ?_, .inr ⟨k, rfl⟩, rfl, ?_, ?_⟩
          · rw [tk_map, List.append_assoc]
            refine chk_put hf hk (.inr ⟨_, gD ps (k - 1), rfl, ?_, by omega⟩) (by simp; omega)
            rw [List.getLast?_eq_getElem?, List.length_take, List.getElem?_take_of_lt (by omega)]
            unfold gD
            rw [show min k ps.length - 1 = k - 1 by omega, List.getElem?_eq_getElem (show k - 1 < ps.length by omega)]
            rfl
          · intro ds e y hy
            cases e
            simp only [List.mem_append, List.mem_singleton] at hy
            rcases hy with (hy | rfl) | hy
            · obtain ⟨z, _, rfl⟩ := List.mem_map.mp (List.mem_of_mem_take hy); rfl
            · rfl
            · obtain ⟨z, _, rfl⟩ := List.mem_map.mp (List.mem_of_mem_drop hy); rfl
          · rw [lowD, lowL_app, lowL_app, tk_map, dr_map, low_ints, low_ints]
            rfl
        exact ⟨_, rows_snoc hr hrow, by simp; omega, rfl⟩
      · trivial
        exact ⟨rows, hr, by omega, rfl⟩
      · rintro _ ⟨rows2, hr2, hl2, rfl⟩
        trivial
        refine slc_to (by simp; omega) ?_
        trivial
        simp only [List.length_map]
        refine bin_rep ⟨by omega, by omega, by simp⟩ ?_
        have hm : ((ps.length : Int) - k).toNat = ps.length - k := by omega
        have eL : (List.replicate ((ps.length : Int) - k).toNat [D.int (-1)]).flatten = (List.replicate (ps.length - k) (-1 : Int)).map .int := by
          rw [hm, List.map_replicate]
          induction (ps.length - k) with
          | zero => rfl
          | succ j ih => rw [List.replicate_succ, List.flatten_cons, ih, List.replicate_succ]; rfl
        rw [eL]
        refine bin_cat (by simp; omega) ?_
        trivial
        refine seq_at (gt1 rows2) ?_
        trivial
        have e9 : MS cs g2 (n + 1) (tl ++ [.dk [], .lst rows2]) ++ [.lst (rows2 ++ [.tup [.tup [.int (-1), .int 0], .tup [.str "InvalidPartition", .int 1]], .tup [.tup [.int 3, .int (-1), .bl true], .tup [.str "InvalidPartition", .int 2]]])] = MS cs g2 (n + 1) (tl ++ [.dk [], .lst rows2, .lst (rows2 ++ [.tup [.tup [.int (-1), .int 0], .tup [.str "InvalidPartition", .int 1]], .tup [.tup [.int 3, .int (-1), .bl true], .tup [.str "InvalidPartition", .int 2]]])]) := by simp [MS]
        have e10 : (MS cs g2 (n + 1) (tl ++ [.dk [], .lst rows2])).length = tl.length + 2 + 2 := by simp [MS]
        rw [e9, e10]
        have hr3 : RowsOk (tl.length + 2) (rows2 ++ [.tup [.tup [.int (-1), .int 0], .tup [.str "InvalidPartition", .int 1]], .tup [.tup [.int 3, .int (-1), .bl true], .tup [.str "InvalidPartition", .int 2]]]) := by
          have a := rows_snoc hr2 (r := .tup [.tup [.int (-1), .int 0], .tup [.str "InvalidPartition", .int 1]]) ⟨rfl, rfl, .inr ⟨1, rfl⟩, rfl, fun ds e x hx => by
            cases e
            simp only [List.mem_cons, List.not_mem_nil, or_false] at hx
            rcases hx with rfl | rfl <;> rfl, rfl⟩
          have b := rows_snoc a (r := .tup [.tup [.int 3, .int (-1), .bl true], .tup [.str "InvalidPartition", .int 2]]) ⟨rfl, rfl, .inr ⟨2, rfl⟩, rfl, fun ds e x hx => by
            cases e
            simp only [List.mem_cons, List.not_mem_nil, or_false] at hx
            rcases hx with rfl | rfl | rfl <;> rfl, rfl⟩
          rw [List.append_assoc] at b
          exact b
        have hl3 : (rows2 ++ [D.tup [D.tup [.int (-1), .int 0], D.tup [.str "InvalidPartition", .int 1]], D.tup [D.tup [.int 3, .int (-1), .bl true], D.tup [.str "InvalidPartition", .int 2]]]).length ≤ 16 := by simp; omega
        generalize rows2 ++ [D.tup [D.tup [.int (-1), .int 0], D.tup [.str "InvalidPartition", .int 1]], D.tup [D.tup [.int 3, .int (-1), .bl true], .tup [.str "InvalidPartition", .int 2]]] = rows3 at hr3 hl3 ⊢
        have gt2 : ∀ rows : List D, (MS cs g2 (n + 1) (tl ++ [.dk [], .lst rows2, .lst rows]))[tl.length + 2 + 2]? = some (.lst rows) := fun rows => by rw [ms_get]; simp
        have st2 : ∀ (rows : List D) (o : Ob), (MS cs g2 (n + 1) (tl ++ [.dk [], .lst rows2, .lst rows])).set (tl.length + 2 + 2) o = MS cs g2 (n + 1) (tl ++ [.dk [], .lst rows2, o]) := fun rows o => by rw [ms_put2]; simp [List.set_append]
        refine ⟨lst_at (gt2 rows3), ?_⟩
        trivial
        refine slc_to (by simp; omega) ?_
        trivial
        refine bin_cat (by simp; omega) ?_
        trivial
        refine ct_e (fun d m => d = (if k < 5 then .int ((k : Int) + 1) else .non) ∧ m = MS cs g2 (n + 1) (tl ++ [.dk [], .lst rows2, .lst rows3])) (fun h5 => ?_) (fun h5 => ?_) ?_
        · trivial
          exact ⟨(if_pos (by omega)).symm, rfl⟩
        · trivial
          exact ⟨(if_neg (by omega)).symm, rfl⟩
        rintro d m ⟨rfl, rfl⟩
        trivial
        refine app_at (gt2 rows3) (by omega) ?_
        rw [st2]
        trivial
        have hr4 : RowOk (tl.length + 2) (.tup [.tup ((ps.map D.int).take k ++ [.int (-1), .non]), .tup [.str "InvalidPartition", (if k < 5 then .int ((k : Int) + 1) else .non)]]) (.tup ((ps.map D.int).take k ++ [.int (-1), .non])) (if k < 5 then .int ((k : Int) + 1) else .non) := by
          refine ⟨rfl, ?_, ?_, rfl, ?_, ?_⟩
          · by_cases h5 : k < 5
            · rw [if_pos h5, tk_map]
              have e : badP none 0 ((ps.take k).map .int ++ [.int (-1), .non]) = some (k + 1) := by
                have := badP_app (ps.take k ++ [-1]) none 0 .non [] (by
                  rw [List.pairwise_append]
                  refine ⟨fall_take hf k, by simp, fun a ha b hb => ?_⟩
                  have := hn a (List.mem_of_mem_take ha)
                  have : b = -1 := by simpa using hb
                  omega) (fun _ e => by cases e) (.inl rfl)
                rw [List.map_append, List.append_assoc] at this
                refine this.trans ?_
                rw [List.length_append, List.length_take]
                congr 1
                simp; omega
              rw [chkN, chkD_tup, if_pos (by simp; omega), e]
              rfl
            · rw [if_neg h5]
              exact chk_long (by simp; omega)
          · by_cases h5 : k < 5
            · rw [if_pos h5]; exact .inr ⟨k + 1, rfl⟩
            · rw [if_neg h5]; exact .inl rfl
          · intro ds e y hy
            cases e
            simp only [List.mem_append, List.mem_cons, List.not_mem_nil, or_false] at hy
            rcases hy with hy | rfl | rfl
            · obtain ⟨z, _, rfl⟩ := List.mem_map.mp (List.mem_of_mem_take hy); rfl
            · rfl
            · rfl
          · rw [lowD, lowL_app, tk_map, low_ints]
            rfl
        simp only [List.length_map]
        refine bin_rep ⟨by omega, by omega, by simp⟩ ?_
        have eL2 : (List.replicate ((ps.length : Int) - 1).toNat [D.int (-2)]).flatten = (List.replicate (ps.length - 1) (-2 : Int)).map .int := by
          rw [show ((ps.length : Int) - 1).toNat = ps.length - 1 by omega, List.map_replicate]
          induction (ps.length - 1) with
          | zero => rfl
          | succ j ih => rw [List.replicate_succ, List.flatten_cons, ih, List.replicate_succ]; rfl
        rw [eL2]
        refine bin_cat (by simp; omega) ?_
        trivial
        refine seq_at (gt2 _) ?_
        trivial
        refine ⟨sz (by simp; omega), ?_⟩
        trivial
        have hr5 : RowOk (tl.length + 2) (.tup [.tup ((ps.map D.int).take k ++ (List.replicate (ps.length - k) (-1 : Int)).map .int), .tup [.str "InvalidPartition", .int k]]) (.tup ((ps.map D.int).take k ++ (List.replicate (ps.length - k) (-1 : Int)).map .int)) (.int k) := by
          refine ⟨rfl, by rw [tk_map]; exact chk_low hf hn hk hp6, .inr ⟨k, rfl⟩, rfl, ?_, ?_⟩
          · intro ds e y hy
            cases e
            rw [tk_map, ← List.map_append] at hy
            obtain ⟨z, _, rfl⟩ := List.mem_map.mp hy
            rfl
          · rw [lowD, tk_map, ← List.map_append, low_ints]
        have hr6 : RowOk (tl.length + 2) (.tup [.tup ([D.int (-1)] ++ (List.replicate (ps.length - 1) (-2 : Int)).map .int), .tup [.str "InvalidPartition", .int 0]]) (.tup ([D.int (-1)] ++ (List.replicate (ps.length - 1) (-2 : Int)).map .int)) (.int 0) := by
          refine ⟨rfl, ?_, .inr ⟨0, rfl⟩, rfl, ?_, ?_⟩
          · have e : badP none 0 ((-1 :: List.replicate (ps.length - 1) (-2 : Int)).map .int) = none := by
              refine badP_fall _ none 0 ?_ (fun _ e => by cases e)
              rw [List.pairwise_cons]
              refine ⟨fun b hb => ?_, by simp⟩
              have := (List.mem_replicate.mp hb).2
              omega
            rw [show ([D.int (-1)] ++ (List.replicate (ps.length - 1) (-2 : Int)).map .int) = (-1 :: List.replicate (ps.length - 1) (-2 : Int)).map .int from rfl]
            rw [chkN, chkD_tup, if_pos (by simp; omega), e]
            rfl
          · intro ds e y hy
            cases e
            rw [show ([D.int (-1)] ++ (List.replicate (ps.length - 1) (-2 : Int)).map .int) = (-1 :: List.replicate (ps.length - 1) (-2 : Int)).map .int from rfl] at hy
            obtain ⟨z, _, rfl⟩ := List.mem_map.mp hy
            rfl
          · rw [show ([D.int (-1)] ++ (List.replicate (ps.length - 1) (-2 : Int)).map .int) = (-1 :: List.replicate (ps.length - 1) (-2 : Int)).map .int from rfl, lowD, low_ints]
        have fin := rows_snoc (rows_snoc (rows_snoc hr3 hr4) hr5) hr6
        rw [List.append_assoc, List.append_assoc] at fin
        have wt3 : Wt (tl ++ [.dk [], .lst rows2, .lst (rows3 ++ [.tup [.tup ((ps.map D.int).take k ++ [.int (-1), .non]), .tup [.str "InvalidPartition", (if k < 5 then .int ((k : Int) + 1) else .non)]]])]) := by
          have a := wt_snoc (wt_snoc (wt_snoc hw (o := .dk []) rfl) (o := .lst rows2) (rows_low (by simp) hr2)) (o := .lst _) (rows_low (by simp) (rows_snoc hr3 hr4))
          simpa using a
        rw [← List.append_assoc] at fin
        have hQ := h _ g2 _ fin wt3 (by simp)
        simp only [List.append_assoc, List.cons_append, List.nil_append] at hQ ⊢
        exact hQ
end K70
end
section
namespace K70
open PySem PySem.Spec PyProof.Rows L2 Mn
open Vd (prod diffs)
theorem prod_app : ∀ a b : List Int, prod (a ++ b) = prod a * prod b
  | [], b => by simp [prod]
  | x :: a, b => by
    have := prod_app a b
    show x * prod (a ++ b) = x * prod a * prod b
    rw [this, Int.mul_assoc]
theorem prod_rev : ∀ l : List Int, prod l.reverse = prod l
  | [] => rfl
  | x :: l => by
    rw [List.reverse_cons, prod_app, prod_rev l]
    show prod l * (x * 1) = x * prod l
    rw [Int.mul_one, Int.mul_comm]
def pp (f : Int → Int → Int) : List Int → Int
  | [] => 1
  | a :: l => prod (l.map fun b => f a b) * pp f l
theorem pp_diffs : ∀ l : List Int, prod (diffs l) = pp (fun a b => a - b) l
  | [] => rfl
  | a :: l => by rw [diffs, prod_app, pp_diffs l]; rfl
theorem pp_snoc (f : Int → Int → Int) (x : Int) : ∀ l : List Int, pp f (l ++ [x]) = pp f l * prod (l.map fun a => f a x)
  | [] => by simp [pp, prod]
  | a :: l => by
    rw [List.cons_append, pp, pp_snoc f x l, List.map_append, prod_app, pp]
    show prod (l.map fun b => f a b) * (f a x * 1) * (pp f l * prod (l.map fun a => f a x)) = prod (l.map fun b => f a b) * pp f l * (f a x * prod (l.map fun a => f a x))
    rw [Int.mul_one]
    ac_rfl
theorem pp_rev (f : Int → Int → Int) : ∀ l : List Int, pp f l.reverse = pp (fun a b => f b a) l
  | [] => rfl
  | a :: l => by
    rw [List.reverse_cons, pp_snoc, pp_rev f l, List.map_reverse, prod_rev, pp, Int.mul_comm]
theorem pp_map (f : Int → Int → Int) (g : Int → Int) : ∀ l : List Int, pp f (l.map g) = pp (fun a b => f (g a) (g b)) l
  | [] => rfl
  | a :: l => by rw [List.map_cons, pp, pp_map f g l, List.map_map, pp]; rfl
def la (ps : List Int) (j : Nat) : List Int := (List.range j).map fun (k : Nat) => gD ps k - (k : Int)
theorem la_succ (ps : List Int) (j : Nat) : la ps (j + 1) = la ps j ++ [gD ps j - (j : Int)] := by
  unfold la
  rw [List.range_succ, List.map_append]
  rfl
theorem row_is (ps : List Int) (j : Nat) : ∀ k, rowP ps j k = prod ((la ps k).map fun a => a - (gD ps j - (j : Int)))
  | 0 => rfl
  | k + 1 => by
    rw [rowP, row_is ps j k, la_succ, List.map_append, prod_app]
    congr 1
    show _ = (gD ps k - (k : Int) - (gD ps j - (j : Int))) * 1
    omega
theorem tot_is (ps : List Int) : ∀ j, totP ps j = pp (fun a b => a - b) (la ps j)
  | 0 => rfl
  | j + 1 => by rw [totP, tot_is ps j, row_is, la_succ, pp_snoc]
theorem la_length (ps : List Int) (j : Nat) : (la ps j).length = j := by simp [la]
theorem totB_is : ∀ n, n ≤ 6 → totB n = Vd.sf n := by
  intro n hn
  have : n = 0 ∨ n = 1 ∨ n = 2 ∨ n = 3 ∨ n = 4 ∨ n = 5 ∨ n = 6 := by omega
  rcases this with rfl | rfl | rfl | rfl | rfl | rfl | rfl <;> decide
theorem tot_dvd {ps : List Int} (h : ps.length ≤ 6) : totP ps ps.length % totB ps.length = 0 := by
  have := Vd.sf_dvd (la ps ps.length) (by rw [la_length]; exact h)
  rw [la_length, ← totB_is _ h, pp_diffs, ← tot_is] at this
  exact Int.emod_eq_zero_of_dvd this
theorem la_eq {ps qs : List Int} {j : Nat} {g : Nat → Int} (h : ∀ k, k < j → gD qs k - (k : Int) = g k) : la qs j = (List.range j).map g := by
  unfold la
  exact List.map_congr_left fun k hk => h k (List.mem_range.mp hk)
theorem gD_map {ps : List Int} {f : Int → Int} {k : Nat} (h : k < ps.length) : gD (ps.map f) k = f (gD ps k) := by
  unfold gD
  rw [List.getElem?_map, List.getElem?_eq_getElem h]
  rfl
theorem tot_shift {ps : List Int} (m : Int) : totP (ps.map (· + m)) (ps.map (· + m)).length = totP ps ps.length := by
  rw [List.length_map, tot_is, tot_is]
  rw [la_eq (ps := ps) (g := fun k => (gD ps k - (k : Int)) + m) fun k hk => by rw [gD_map hk]; omega]
  rw [show ((List.range ps.length).map fun (k : Nat) => (gD ps k - (k : Int)) + m) = (la ps ps.length).map (· + m) by unfold la; rw [List.map_map]; rfl, pp_map]
  congr 1
  funext a b
  omega
theorem gD_rev {ps : List Int} {k : Nat} (h : k < ps.length) : gD ps.reverse k = gD ps (ps.length - 1 - k) := by
  unfold gD
  rw [List.getElem?_reverse h]
theorem tot_comp {ps : List Int} (c : Int) : totP (ps.reverse.map (c - ·)) (ps.reverse.map (c - ·)).length = totP ps ps.length := by
  rw [List.length_map, List.length_reverse, tot_is, tot_is]
  have e : la (ps.reverse.map (c - ·)) ps.length = ((la ps ps.length).map fun a => (c - ps.length + 1) - a).reverse := by
    rw [la_eq (ps := ps) (g := fun k => (c - ps.length + 1) - (gD ps (ps.length - 1 - k) - ((ps.length - 1 - k : Nat) : Int))) fun k hk => by
      rw [gD_map (by simpa using hk), gD_rev hk]; omega]
    unfold la
    rw [List.map_map, ← List.map_reverse, List.range_eq_range', List.reverse_range', List.map_map]
    rw [List.range_eq_range'] 
    refine List.map_congr_left fun k hk => ?_
    simp only [Function.comp]
    rw [show 0 + ps.length - 1 - k = ps.length - 1 - k by omega]
  rw [e, pp_rev, pp_map]
  congr 1
  funext a b
  omega
end K70
end
section
namespace K70
open PySem PySem.Spec PyProof.Rows L2 Mn
local macro_rules | `(tactic| trivial) => `(tactic| (repeat first | (refine sq_nx ?_; try simp only [List.set_cons_zero, List.set_cons_succ]) | (apply we_var; rfl) | (apply we_glb; rfl) | (apply ws_aug; rfl) | (refine And.intro (sz ?_) ?_; focus (simp; done)) | refine ws_cons ?_ | refine ws_set ?_ | refine ws_ite ?_ | refine ws_for ?_ | refine ws_ret ?_ | refine ws_retN ?_ | refine ws_expr ?_ | refine ws_par ?_ | refine ws_par3 ?_ | refine ws_setIx ?_ | refine ws_app ?_ | refine ws_unp ?_ | refine ws_raise ?_ | refine ws_pass ?_ | refine ws_brk ?_ | refine ws_cont ?_ | refine ws_nil ?_ | refine we_non ?_ | refine we_bl ?_ | refine we_int ?_ | refine we_str ?_ | refine we_bin ?_ | refine we_neg ?_ | refine we_cmp ?_ | refine we_chain ?_ | refine we_and ?_ | refine we_or ?_ | refine we_one ?_ | refine we_not ?_ | refine we_ifx ?_ | refine we_tup ?_ | refine we_call ?_ | refine we_blt ?_ | refine we_isi ?_ | refine we_isiO ?_ | refine we_idx ?_ | refine we_slc ?_ | refine we_rev ?_ | refine we_val ?_ | refine we_mk ?_ | refine we_dict ?_ | refine we_dnew ?_ | refine we_fld ?_ | refine we_told ?_ | refine wes_nil ?_ | refine wes_cons ?_ | refine weo_no ?_ | refine weo_some ?_ | refine wk_nil ?_ | refine wk_cons ?_ | refine wt_no ?_ | refine wt_some ?_ | refine wi_seq ?_ | refine wi_enum ?_ | refine wi_zip ?_ | refine wi_range1 ?_ | refine wi_range2 ?_ | refine wl_disp ?_ | refine wl_comp ?_ | refine wl_cat ?_ | refine asB_i ?_ | refine asI_i ?_ | refine ct_t ?_ | refine ct_f ?_ | refine sq_rt ?_ | refine sq_ex ?_ | refine sq_bk ?_ | refine sq_ct ?_ | refine st_nx ?_ | refine st_ct ?_ | refine st_bk ?_ | refine st_rt ?_ | refine st_ex ?_ | refine fk_rt ?_ | refine fk_nx ?_ | refine fk_ex ?_ | refine pw_eqr ?_ | refine pw_ner ?_ | refine pw_eqi ?_ | refine pw_nei ?_ | refine pow18 ?_ | refine it_t ?_ | refine it_l ?_ | refine seq_l ?_ | refine rev_t ?_ | refine rev_l ?_ | refine And.intro (by assumption) ?_ | refine And.intro (szl (by omega)) ?_ | refine pw_mul (by omega) ?_ | refine pw_mulL (by omega) ?_ | refine pw_mod (by omega) ?_ | refine pw_div (by omega) (by omega) ?_ | refine pw_add ?_ | refine pw_sub ?_ | refine pw_lt ?_ | refine pw_le ?_ | refine pw_gt ?_ | refine pw_ge ?_ | refine pw_augA ?_ | refine pw_augS ?_ | refine pw_augM (by omega) ?_ | refine And.intro rfl ?_ | refine pw_len_l ?_ | refine pw_len_t ?_ | refine pw_unp2 ?_ | refine pw_unp3 ?_ | refine blt_list ?_ | refine blt_tuple ?_))
theorem small_dim {ps : List Int} (h : ps ∈ smalls) : totP ps ps.length / totB ps.length = ((fillL ps).length : Int) := by
  simp only [smalls, List.mem_cons, List.not_mem_nil, or_false] at h
  rcases h with rfl | rfl | rfl | rfl | rfl | rfl | rfl | rfl | rfl | rfl | rfl | rfl | rfl | rfl | rfl | rfl | rfl | rfl | rfl | rfl | rfl | rfl | rfl | rfl | rfl | rfl | rfl | rfl | rfl | rfl | rfl | rfl | rfl | rfl <;> kernel_rfl
section
variable {cs gs : List Int} {n top : Int} {tl : Mem}
theorem falling_w {m : Int} (hw : Wt tl) (hc : cs.length = 64) (h0 : 0 ≤ n) (h1 : n < 2 ^ 58) (m0 : 0 ≤ m) (hm : m < 64) (t0 : 0 ≤ top) (t1 : top < 2 ^ 60) {Q X : D → Mem → Prop} (h : ∀ (ps gs2 : List Int) (k : Int), (ps.length : Int) = m → Fall top ps → n ≤ k → k ≤ n + 192 → Q (.tup (ps.map .int)) (MS cs gs2 k tl)) : WR (m__law_falling [.ref 0, .int m, .int top] (MS cs gs n tl)) Q X := by
  obtain ⟨k, rfl⟩ : ∃ k : Nat, m = k := ⟨m.toNat, by omega⟩
  obtain ⟨ps, g2, j, hl, hf, a, b, e⟩ := falling_ok (gs := gs) (many := k) hw hc h0 h1 (by omega) t0 t1
  exact wr_ok e (h ps g2 j (by rw [hl]) hf a b)
end
theorem gD0 {ps : List Int} (h : 1 ≤ ps.length) {μ : Mem} : idxD μ (.tup (ps.map .int)) (.int 0) = some (.int (gD ps 0)) := ix_ints (k := 0) h
theorem ne_tt {μ : Mem} {p : D} (h : p = .non ∨ ∃ k : Nat, p = .int k) : cmpD μ .ne (.tup [.str "InvalidPartition", p]) (.tup [.str "InvalidPartition", p]) = some false := by
  rcases h with rfl | ⟨k, rfl⟩
  · exact ne_self (p := .tuple [.str "InvalidPartition", .none]) rfl (by decide +kernel)
  · exact ne_self (p := .tuple [.str "InvalidPartition", .int k]) rfl (by
      have : (PyData.tuple [.str "InvalidPartition", .int k]).canLay0 = (PyData.tuple [.str "InvalidPartition", .int 0]).canLay0 := rfl
      unfold SeqAt.shaped
      rw [this, show (PyData.tuple [.str "InvalidPartition", .int k]).depth = (PyData.tuple [.str "InvalidPartition", .int 0]).depth from rfl]
      decide +kernel)
theorem told_x {th : Mem → Option (R D)} {μ : Mem} {p : D} (h : th μ = some (.ex (.exc 1 [p]) μ)) : toldM γ0 0 t_rest 0 th μ = some (.tup [.str "InvalidPartition", p], μ) := by
  unfold toldM
  rw [h]
  rfl
theorem law_w {ns : List Int} (hn : ns.length ≤ 63) : WR (m_law [.kls (ns.map .int)] []) (fun d _ => d = .bl true) NoX := by
  obtain ⟨cs, gs, hc, eb⟩ := begun_ok hn
  refine wd rfl (by simp only [List.map_cons, List.map_nil, List.cons_append, List.nil_append, List.length_cons, List.length_nil, Nat.reduceAdd, Nat.reduceSub, List.replicate_succ, List.replicate_zero]; rfl) ?_
  unfold t_law
  trivial
  refine call_e (wr_ok eb ?_) rfl
  trivial
  refine And.intro (by omega) ?_
  refine wf_inv (fun i sl m => ∃ (gs : List Int) (n : Int) (tl : Mem) (x2 x3 x4 x5 x6 x7 x8 : Option D), sl = [some (.kls (ns.map .int)), some (.ref 0), x2, x3, x4, x5, x6, x7, x8, none] ∧ m = MS cs gs n tl ∧ Wt tl ∧ 0 ≤ n ∧ n ≤ 1000 * (i : Int)) ⟨gs, 0, [], _, _, _, _, _, _, _, rfl, rfl, rfl, by omega, by omega⟩ ?_ ?_
  · rintro i x sl m hx ⟨gs, n, tl, x2, x3, x4, x5, x6, x7, x8, rfl, rfl, hw, n0, n1⟩
    obtain ⟨hi, rfl⟩ := rng_at hx
    have hi : i < 3 := hi
    refine wo_tg rfl ?_
    simp only [List.set_cons_zero, List.set_cons_succ]
    trivial
    refine call_e (draw_w hw hc n0 (by omega) (by omega) (by omega) fun v g1 v0 v1 => ?_) rfl
    trivial
    refine call_e (falling_w hw hc (by omega) (by omega) (by omega) (by omega) (by omega) (by omega) fun ps g2 k hl hf k1 k2 => ?_) rfl
    have hs : ps ∈ smalls := small_mem hf (by omega) (by omega)
    have w : ∀ g k, Wf (MS cs g k tl) := fun g k => wf_ms hw
    trivial
    refine call_e (dim_w (w _ _) hf.fall hf.lo (fun p hp => by have := hf.hi p hp; omega) (by omega) (by omega) ?_) rfl
    trivial
    refine call_e (wr_ok (fillings_ok hs (w _ _)) ?_) rfl
    rw [small_dim hs]
    generalize fillL ps = fl
    trivial
    refine call_e (draw_w hw hc (by omega) (by omega) (by omega) (by omega) fun v2 g3 v20 v21 => ?_) rfl
    trivial
    refine call_e (draw_w hw hc (by omega) (by omega) (by omega) (by omega) fun v3 g4 v30 v31 => ?_) rfl
    have hix : ∃ t : Int, idxD (MS cs g4 (k + 1 + 1) tl) (.lst [.int 3, .int 9, .int 30]) (.int v3) = some (.int t) ∧ 0 ≤ t ∧ t ≤ 30 := by
      have : v3 = 0 ∨ v3 = 1 ∨ v3 = 2 := by omega
      rcases this with rfl | rfl | rfl
      · exact ⟨3, rfl, by omega, by omega⟩
      · exact ⟨9, rfl, by omega, by omega⟩
      · exact ⟨30, rfl, by omega, by omega⟩
    obtain ⟨top, hix, t0, t1⟩ := hix
    trivial
    refine idx_i hix ?_
    trivial
    refine call_e (falling_w hw hc (by omega) (by omega) (by omega) (by omega) t0 (by omega) fun qs g5 k5 hl2 hf2 k51 k52 => ?_) rfl
    have q1 : 1 ≤ qs.length := by omega
    have q6 : qs.length ≤ 6 := by omega
    have qb : ∀ p ∈ qs, p ≤ 1000000 := fun p hp => by have := hf2.hi p hp; omega
    trivial
    refine call_e (formula_w (w _ _) q6 (gD_mem hf2.lo qb (by omega)) (tot_dvd q6) ?_) rfl
    trivial
    refine call_e (draw_w hw hc (by omega) (by omega) (by omega) (by omega) fun more g6 m0 m1 => ?_) rfl
    trivial
    refine call_e (dim_w (w _ _) hf2.fall hf2.lo qb q1 q6 ?_) rfl
    trivial
    refine wg_map (fun d => match d with | .int i => .int (i + more) | d => d) (sz (by simp; omega)) ?_ ?_
    · intro x hx acc ha
      obtain ⟨z, _, rfl⟩ := List.mem_map.mp hx
      refine wel rfl ?_
      simp only [List.set_cons_zero, List.set_cons_succ]
      trivial
      exact rfl
    rw [List.map_map, show ((fun d => match d with | .int i => D.int (i + more) | d => d) ∘ D.int) = D.int ∘ (· + more) from rfl, ← List.map_map]
    trivial
    have s1 : (qs.map (· + more)).Pairwise fun a b => b ≤ a := by
      rw [List.pairwise_map]
      exact hf2.fall.imp fun h => by omega
    refine call_e (dim_w (ps := qs.map (· + more)) (w _ _) s1 (fun p hp => by
      obtain ⟨z, hz, rfl⟩ := List.mem_map.mp hp
      have := hf2.lo z hz
      omega) (fun p hp => by
      obtain ⟨z, hz, rfl⟩ := List.mem_map.mp hp
      have := hf2.hi z hz
      omega) (by simpa using q1) (by simpa using q6) ?_) rfl
    rw [tot_shift, List.length_map]
    trivial
    refine wg_map (fun d => match d with | .int i => .int (gD qs 0 - i) | d => d) (sz (by simp; omega)) ?_ ?_
    · intro x hx acc ha
      rw [← List.map_reverse] at hx
      obtain ⟨z, _, rfl⟩ := List.mem_map.mp hx
      refine wel rfl ?_
      simp only [List.set_cons_zero, List.set_cons_succ]
      trivial
      refine idx_i (gD0 q1) ?_
      trivial
      exact rfl
    rw [← List.map_reverse, List.map_map, show ((fun d => match d with | .int i => D.int (gD qs 0 - i) | d => d) ∘ D.int) = D.int ∘ (gD qs 0 - ·) from rfl, ← List.map_map]
    trivial
    have hd0 : ∀ p ∈ qs, p ≤ gD qs 0 := by
      cases qs with
      | nil => simp at q1
      | cons a qs =>
        intro p hp
        rcases List.mem_cons.mp hp with rfl | hp
        · exact Int.le_refl _
        · exact List.rel_of_pairwise_cons hf2.fall hp
    have s2 : (qs.reverse.map (gD qs 0 - ·)).Pairwise fun a b => b ≤ a := by
      rw [List.pairwise_map, List.pairwise_reverse]
      exact hf2.fall.imp fun h => by omega
    have hg0 := (gD_mem hf2.lo hf2.hi t0 0).2
    refine call_e (dim_w (ps := qs.reverse.map (gD qs 0 - ·)) (w _ _) s2 (fun p hp => by
      obtain ⟨z, hz, rfl⟩ := List.mem_map.mp hp
      have := hd0 z (List.mem_reverse.mp hz)
      omega) (fun p hp => by
      obtain ⟨z, hz, rfl⟩ := List.mem_map.mp hp
      have := hf2.lo z (List.mem_reverse.mp hz)
      omega) (by simpa using q1) (by simpa using q6) ?_) rfl
    rw [tot_comp, List.length_map, List.length_reverse]
    trivial
    refine call_e (refused_w hw hc (by omega) (by omega) hf2.fall hf2.lo q1 q6 fun rows g7 tl2 hr hw2 hT => ?_) rfl
    trivial
    refine wf_inv (fun j sl m => ∃ (x7 x8 : Option D) (x2 x3 x4 x5 x6 : Option D), sl = [some (.kls (ns.map .int)), some (.ref 0), x2, x3, x4, x5, x6, x7, x8, none] ∧ m = MS cs g7 (k5 + 1 + 1) tl2) ⟨_, _, _, _, _, _, _, rfl, rfl⟩ ?_ ?_
    · rintro j x sl m hx ⟨x7, x8, x2, x3, x4, x5, x6, rfl, rfl⟩
      obtain ⟨v, p, hv⟩ := hr x (List.mem_of_getElem? hx)
      have hgT : (MS cs g7 (k5 + 1 + 1) tl2)[tl.length + 2]? = some (.dk []) := by rw [ms_get]; exact hT
      rw [hv.row]
      refine wo_tg rfl ?_
      simp only [List.zip_cons_cons, List.zip_nil_right, List.foldl_cons, List.foldl_nil, List.set_cons_zero, List.set_cons_succ]
      trivial
      have et : evE γ_law (.call 4 (.cons (.var 7) .nil)) [some (.kls (ns.map .int)), some (.ref 0), x2, x3, x4, x5, x6, some v, some (.tup [.str "InvalidPartition", p]), none] (MS cs g7 (k5 + 1 + 1) tl2) = some (.ex (.exc 1 [p]) (MS cs g7 (k5 + 1 + 1) tl2)) := by
        refine ev_x ?_
        trivial
        refine call_e (dim_x (wf_ms hw2) (tyT_of hv.ty hgT) (fun ds e x hx => tyT_of (hv.tys ds e x hx) hgT) hv.chk (by rcases hv.ps with h | ⟨_, h⟩ <;> rw [h] <;> rfl) ⟨rfl, rfl⟩) rfl
      refine pw_i (told_x et) ?_
      trivial
      refine cmp_i (ne_tt hv.ps) ?_
      trivial
      exact ⟨_, _, _, _, _, _, _, rfl, rfl⟩
    · rintro sl m ⟨x7, x8, x2, x3, x4, x5, x6, rfl, rfl⟩
      trivial
      exact ⟨_, _, _, _, _, _, _, _, _, _, rfl, rfl, hw2, by omega, by omega⟩
  · rintro sl m ⟨gs, n, tl, x2, x3, x4, x5, x6, x7, x8, rfl, rfl, hw, n0, n1⟩
    have w := wf_ms (cs := cs) (gs := gs) (n := n) hw
    trivial
    refine call_e (dim_w (ps := [2, 1, 0]) w (by decide) (by decide) (by decide) (by decide) (by decide) ?_) rfl
    trivial
    refine call_e (dim_w (ps := [7]) w (by decide) (by decide) (by decide) (by decide) (by decide) ?_) rfl
    trivial
    refine call_e (dim_w (ps := [0, 0, 0, 0, 0, 0]) w (by decide) (by decide) (by decide) (by decide) (by decide) ?_) rfl
    trivial
    refine fi_rt0 rfl ?_
    exact congrArg D.bl (by decide)
theorem law_ok (ns : List Int) (hn : ns.length ≤ 63) : ∃ μ, m_law [.kls (ns.map .int)] [] = some (.ok (.bl true) μ) := by
  obtain ⟨d, μ, e, rfl⟩ := wr_e (law_w hn)
  exact ⟨μ, e⟩
end K70
end
section
namespace K70
open PySem PySem.Spec PyProof.Rows L2 Mn He
def d_is_integer : He.DefD := ⟨("is_integer", none), "is_integer", "is_integer", defArgs s_is_integer, defBody s_is_integer, defScope s_is_integer, [], []⟩
def d_check_partition : He.DefD := ⟨("check_partition", none), "check_partition", "check_partition", defArgs s_check_partition, defBody s_check_partition, defScope s_check_partition, [], []⟩
def d_check_nonnegative : He.DefD := ⟨("check_nonnegative", none), "check_nonnegative", "check_nonnegative", defArgs s_check_nonnegative, defBody s_check_nonnegative, defScope s_check_nonnegative, [], []⟩
def d_dimension_of : He.DefD := ⟨("dimension_of", none), "dimension_of", "dimension_of", defArgs s_dimension_of, defBody s_dimension_of, defScope s_dimension_of, [], []⟩
def d_dimension : He.DefD := ⟨("dimension", none), "dimension", "dimension", defArgs s_dimension, defBody s_dimension, defScope s_dimension, [], []⟩
def d__law_mixed : He.DefD := ⟨("_law_mixed", none), "_law_mixed", "_law_mixed", defArgs s__law_mixed, defBody s__law_mixed, defScope s__law_mixed, [], []⟩
def d__law_folded : He.DefD := ⟨("_law_folded", none), "_law_folded", "_law_folded", defArgs s__law_folded, defBody s__law_folded, defScope s__law_folded, [], []⟩
def d__law_draw : He.DefD := ⟨("_law_draw", none), "_law_draw", "_law_draw", defArgs s__law_draw, defBody s__law_draw, defScope s__law_draw, [], []⟩
def d__law_begun : He.DefD := ⟨("_law_begun", none), "_law_begun", "_law_begun", defArgs s__law_begun, defBody s__law_begun, defScope s__law_begun, [], []⟩
def d__law_falling : He.DefD := ⟨("_law_falling", none), "_law_falling", "_law_falling", defArgs s__law_falling, defBody s__law_falling, defScope s__law_falling, [], []⟩
def d__law_told : He.DefD := ⟨("_law_told", none), "_law_told", "_law_told", defArgs s__law_told, defBody s__law_told, defScope s__law_told, [], []⟩
def d__law_fillings : He.DefD := ⟨("_law_fillings", none), "_law_fillings", "_law_fillings", defArgs s__law_fillings, defBody s__law_fillings, defScope s__law_fillings, [], []⟩
def d__law_formula : He.DefD := ⟨("_law_formula", none), "_law_formula", "_law_formula", defArgs s__law_formula, defBody s__law_formula, defScope s__law_formula, [], []⟩
def d__law_refused : He.DefD := ⟨("_law_refused", none), "_law_refused", "_law_refused", defArgs s__law_refused, defBody s__law_refused, defScope s__law_refused, [], []⟩
def d_law : He.DefD := ⟨("law", none), "law", "law", defArgs s_law, defBody s_law, defScope s_law, [], []⟩
def d_init : He.DefD := ⟨("InvalidPartition", some "__init__"), "__init__", "InvalidPartition.__init__", defArgs s_init, defBody s_init, defScope s_init, [.non], []⟩
def fn : List He.DefD := [d_is_integer, d_check_partition, d_check_nonnegative, d_dimension_of, d_dimension, d__law_mixed, d__law_folded, d__law_draw, d__law_begun, d__law_falling, d__law_told, d__law_fillings, d__law_formula, d__law_refused, d_law, d_init]
def fa : List He.Fa := [.glo "is_integer", .glo "check_partition", .glo "check_nonnegative", .glo "dimension_of", .glo "dimension", .glo "_law_mixed", .glo "_law_folded", .glo "_law_draw", .glo "_law_begun", .glo "_law_falling", .glo "_law_told", .glo "_law_fillings", .glo "_law_formula", .glo "_law_refused", .glo "law", .free "bool", .free "enumerate", .free "int", .free "isinstance", .free "len", .free "list", .free "max", .free "range", .free "sorted", .free "tuple", .int "MAX_SIZE" 6, .glo "ThreerimsError", .glo "InvalidPartition", .exm "InvalidPartition" "ThreerimsError" true]
def exo (K : PySem.W.Frag) : Bool := clsB K (ga K "InvalidPartition") (ga K "ThreerimsError") (fAd K ("InvalidPartition", some "__init__")) ["position"] && decide (PySem.W.kitOne K (.ref (ga K "InvalidPartition")) (.ref (ga K "InvalidPartition")) = some true)
abbrev R : PySem.W.OpenRow := PySem.W.OpenLaw.row PySem.Challenge.rw_threerims_k70_dimensions
abbrev tf : List He.Defn := [("law", none)]
abbrev hk : PySem.W.Hook := hookM 6 fa fn tf exo
def ob (s : PySem.W.SharedT) : He.AlX := obsM 6 fa fn tf exo (HandSHeadRun.getT s)
theorem ob_eq (s : PySem.W.SharedT) : ob s = hk.obs s.abs := obsM_eq (HandSHeadRun.getT_eq s)
def loose : List Str := ["__name__", "ThreerimsError", "InvalidPartition", "MAX_SIZE", "is_integer", "check_partition", "check_nonnegative", "dimension_of", "dimension", "_law_mixed", "_law_folded", "_law_draw", "_law_begun", "_law_falling", "_law_told", "_law_fillings", "_law_formula", "_law_refused"]
set_option maxHeartbeats 0 in
theorem run (w : World) : HandSHeadRun.RunEq R (PySem.W.view R.prog [22]) hk ob 4000 loose w := by
  intro os
  kernel_rfl
theorem env {K : PySem.W.Frag} {h : Heap} {mg : Str → Option Value} {w : World} (X : K.In h) (G : h.Ns mainGlobals mg) (c : He.SaysX fa fn [] tf exo w h K) : Nonempty (En K mg) := by
  have cd := c.t.d
  obtain ⟨fd0, F0⟩ := cd.def_ 0 (d := d_is_integer) rfl
  obtain ⟨fd1, F1⟩ := cd.def_ 1 (d := d_check_partition) rfl
  obtain ⟨fd2, F2⟩ := cd.def_ 2 (d := d_check_nonnegative) rfl
  obtain ⟨fd3, F3⟩ := cd.def_ 3 (d := d_dimension_of) rfl
  obtain ⟨fd4, F4⟩ := cd.def_ 4 (d := d_dimension) rfl
  obtain ⟨fd5, F5⟩ := cd.def_ 5 (d := d__law_mixed) rfl
  obtain ⟨fd6, F6⟩ := cd.def_ 6 (d := d__law_folded) rfl
  obtain ⟨fd7, F7⟩ := cd.def_ 7 (d := d__law_draw) rfl
  obtain ⟨fd8, F8⟩ := cd.def_ 8 (d := d__law_begun) rfl
  obtain ⟨fd9, F9⟩ := cd.def_ 9 (d := d__law_falling) rfl
  obtain ⟨fd10, F10⟩ := cd.def_ 10 (d := d__law_told) rfl
  obtain ⟨fd11, F11⟩ := cd.def_ 11 (d := d__law_fillings) rfl
  obtain ⟨fd12, F12⟩ := cd.def_ 12 (d := d__law_formula) rfl
  obtain ⟨fd13, F13⟩ := cd.def_ 13 (d := d__law_refused) rfl
  obtain ⟨fd14, F14⟩ := cd.def_ 14 (d := d_law) rfl
  obtain ⟨fdI, FI⟩ := cd.def_ 15 (d := d_init) rfl
  obtain ⟨x1, x2⟩ := He.ba c.more
  exact ⟨{
    fd_is_integer := fd0, F_is_integer := F0, g_is_integer := He.glo_ok X G (cd.fact 0 (f := .glo "is_integer") rfl),
    fd_check_partition := fd1, F_check_partition := F1, g_check_partition := He.glo_ok X G (cd.fact 1 (f := .glo "check_partition") rfl),
    fd_check_nonnegative := fd2, F_check_nonnegative := F2, g_check_nonnegative := He.glo_ok X G (cd.fact 2 (f := .glo "check_nonnegative") rfl),
    fd_dimension_of := fd3, F_dimension_of := F3, g_dimension_of := He.glo_ok X G (cd.fact 3 (f := .glo "dimension_of") rfl),
    fd_dimension := fd4, F_dimension := F4, g_dimension := He.glo_ok X G (cd.fact 4 (f := .glo "dimension") rfl),
    fd__law_mixed := fd5, F__law_mixed := F5, g__law_mixed := He.glo_ok X G (cd.fact 5 (f := .glo "_law_mixed") rfl),
    fd__law_folded := fd6, F__law_folded := F6, g__law_folded := He.glo_ok X G (cd.fact 6 (f := .glo "_law_folded") rfl),
    fd__law_draw := fd7, F__law_draw := F7, g__law_draw := He.glo_ok X G (cd.fact 7 (f := .glo "_law_draw") rfl),
    fd__law_begun := fd8, F__law_begun := F8, g__law_begun := He.glo_ok X G (cd.fact 8 (f := .glo "_law_begun") rfl),
    fd__law_falling := fd9, F__law_falling := F9, g__law_falling := He.glo_ok X G (cd.fact 9 (f := .glo "_law_falling") rfl),
    fd__law_told := fd10, F__law_told := F10, g__law_told := He.glo_ok X G (cd.fact 10 (f := .glo "_law_told") rfl),
    fd__law_fillings := fd11, F__law_fillings := F11, g__law_fillings := He.glo_ok X G (cd.fact 11 (f := .glo "_law_fillings") rfl),
    fd__law_formula := fd12, F__law_formula := F12, g__law_formula := He.glo_ok X G (cd.fact 12 (f := .glo "_law_formula") rfl),
    fd__law_refused := fd13, F__law_refused := F13, g__law_refused := He.glo_ok X G (cd.fact 13 (f := .glo "_law_refused") rfl),
    fd_law := fd14, F_law := F14, g_law := He.glo_ok X G (cd.fact 14 (f := .glo "law") rfl),
    h_bool := He.free_ok X G (cd.fact 15 (f := .free "bool") rfl),
    h_enumerate := He.free_ok X G (cd.fact 16 (f := .free "enumerate") rfl),
    h_int := He.free_ok X G (cd.fact 17 (f := .free "int") rfl),
    h_isinstance := He.free_ok X G (cd.fact 18 (f := .free "isinstance") rfl),
    h_len := He.free_ok X G (cd.fact 19 (f := .free "len") rfl),
    h_list := He.free_ok X G (cd.fact 20 (f := .free "list") rfl),
    h_max := He.free_ok X G (cd.fact 21 (f := .free "max") rfl),
    h_range := He.free_ok X G (cd.fact 22 (f := .free "range") rfl),
    h_sorted := He.free_ok X G (cd.fact 23 (f := .free "sorted") rfl),
    h_tuple := He.free_ok X G (cd.fact 24 (f := .free "tuple") rfl),
    h_MAX_SIZE := He.int_ok X G (cd.fact 25 (f := .int "MAX_SIZE" 6) rfl),
    fdI := fdI, FI := FI, cf := clsB_ok x1, gI := He.glo_ok X G (cd.fact 27 (f := .glo "InvalidPartition") rfl), gB := He.glo_ok X G (cd.fact 26 (f := .glo "ThreerimsError") rfl),
    exm := He.exm_ok (cd.fact 28 (f := .exm "InvalidPartition" "ThreerimsError" true) rfl), kit := of_decide_eq_true x2 }⟩
end K70
namespace K70
open PySem PySem.Spec PyProof.Rows L2 Mn He
theorem at_ {l : PySem.W.OpenLaw} {w : World} {K : PySem.W.Frag} {h : Heap} {mg : Str → Option Value} {fa : Addr} (hl : l.prog = PR) (X : K.In h) (G : h.Ns mainGlobals mg) (hfa : mg ("law" : Str) = some (.ref fa)) (c : He.SaysX K70.fa fn [] tf exo w h K)
    (hlaw : ∀ ns : List Int, ns.length ≤ 63 → ∃ μ, m_law [.kls (ns.map .int)] [] = some (.ok (.bl true) μ)) : LamX.LawAtS l w K (L2.CX l.prog w) 9 63 "script" mg fa h := by
  obtain ⟨e⟩ := env X G c
  have ef : fa = fAd K ("law", none) := by
    have z := hfa.symm.trans e.g_law
    cases z
    rfl
  subst ef
  refine ⟨e.fd_law, tf.map (cT K), spM (gg K) m_law, fun p hp => ?_, fun p hp => ?_, fun p hp => ?_, fun s u => FunD.bindsA (ps := ["script"]) e.F_law (fun _ _ _ _ _ _ us hl => match us, hl with | [_], _ => rfl) s [u] rfl,
    law_true (n := 63) (q := "") rfl rfl (fun p hp => ?_) hlaw, fun base kb nb tb => ok_law e (tb _ (List.mem_map.mpr ⟨_, List.mem_singleton.mpr rfl, rfl⟩))⟩
  · obtain ⟨d, hd, rfl⟩ := List.mem_map.mp hp
    exact c.empty d hd
  · obtain ⟨d, hd, rfl⟩ := List.mem_map.mp hp
    exact c.out d hd
  · obtain ⟨d, hd, rfl⟩ := List.mem_map.mp hp
    exact PySem.W.codeHd_of_K X (c.hd d hd)
  · exact ⟨cT K ("law", none), List.mem_map.mpr ⟨_, List.mem_singleton.mpr rfl, rfl⟩, by rw [List.mem_singleton.mp hp]; rfl⟩
end K70
open PySem PySem.W PySem.Calls PyProof.Rows
theorem K70.whole (hlaw : ∀ ns : List Int, ns.length ≤ 63 → ∃ μ, K70.m_law [.kls (ns.map .int)] [] = some (.ok (.bl true) μ)) : PySem.Challenge.rw_threerims_k70_dimensions.Holds := by
  w_on; o_law
  refine HandSHeadRun.head_any (r := OpenLaw.row PySem.Challenge.rw_threerims_k70_dimensions) (q := view (OpenLaw.row PySem.Challenge.rw_threerims_k70_dimensions).prog [22]) (H := K70.hk) (ob := K70.ob) (M := 4000) (loose := K70.loose) (d := HandSHeadRun.topDef (OpenLaw.row PySem.Challenge.rw_threerims_k70_dimensions).prog 22) (kwd := []) K70.ob_eq
    (by kernel_rfl) (fun s => by kernel_rfl) K70.run (by kernel_rfl) (by kernel_rfl) (by kernel_rfl) (by rfl) (by first | assumption | decide +kernel) (by decide +kernel) ⟨rfl, rfl, rfl, rfl, rfl, by decide +kernel⟩ ?hw ?hc
  case hw => w_witness2
  case hc =>
    refine LamX.walk_ofTsE (l := PySem.Challenge.rw_threerims_k70_dimensions) (n := 63) (k := 9) (x := "script") (CX := fun w => L2.CX (PySem.Challenge.rw_threerims_k70_dimensions).prog w) rfl (by decide) (by kernel_rfl) ⟨rfl, by decide, by decide⟩ ?F ?cx
    case F =>
      intro w mg fa h Y G hmg0
      obtain ⟨K, KX, c⟩ := Y
      have hmg : mg ("law" : PySem.Str) = some (.ref fa) := by
        have e : (HandSHeadRun.topDef (OpenLaw.row PySem.Challenge.rw_threerims_k70_dimensions).prog 22).name = ("law" : PySem.Str) := by kernel_rfl
        rw [← e]
        exact hmg0
      exact ⟨K, KX, K70.at_ rfl KX G hmg c hlaw⟩
    case cx =>
      intro w H s e s' z
      obtain ⟨_, _, _, _, _, _, _, _, _, _, _, _, q⟩ := z
      exact q.elim
end
theorem PySem.Challenge.cw_threerims_k70_dimensions_holds : PySem.Challenge.rw_threerims_k70_dimensions.Holds := by
  exact K70.whole K70.law_ok
