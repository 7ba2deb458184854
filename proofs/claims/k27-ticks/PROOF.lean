import PyProof.Rows.All
import Wide.All
import OpenK.AllK
import Wide.FinOn
import HandS.ForMost
import HandS.ForExc
import HandS.CallSlots
import HandS.IsInst
import HandS.NoneIn
import HandS.Zip
import HandS.Rev
import HandS.SortInts
import HandS.Flow
import HandS.Wide
import HandS.DictComp
import HandS.TryMany
import HandS.ExcSuper
import HandS.EndBits
import HandS.Conv
import KE.GoesMore
import HandS.More
import HandS.Iter
import HandS.TupLe
import KE.KExcSuper
import KE.KSuper
import HandS.ExcInit
import HandS.Nested
import HandS.ExcIs
import HandS.ExcField
import HandS.ExcOwn
import KE.KExcIs
import HandS.TupAny
import PyProof.SumWalkG
import PyProof.WalkInts
import PyProof.WalksMore
import PySem.Challenge.RW_warmhold_k27_ticks
set_option Elab.async false
set_option linter.all false
set_option maxRecDepth 100000
set_option maxHeartbeats 4000000
/-! a mirror layer: programs as plain functions on trees of data, with a soundness rule for each construct -/
namespace Mi
open PySem L2

/-! ### data -/
/-- closed data: trees -/
inductive Dt where
  | non | bl (b : Bool) | int (i : Int) | str (x : Str) | ty (n : String) | cls (c : Nat) | scr (ns : List Int)
  | tup (xs : List Dt) | lst (xs : List Dt) | dic (ks : List Key) (vs : List Dt) | dct (ks : List (List Key)) (vs : List Dt) | obj (c : Nat) (ns : List Str) (vs : List Dt)
  /-- the exception in hand: its address, its dict's, its class's number, its fields -/
  | exn (a : Addr) (d : Option Addr) (c : Nat) (ns : List Str) (vs : List Dt)
/-- a local value: closed data, or a cell of the frame -/
inductive Lv where
  | c (d : Dt) | p (n : Nat)
/-- a cell: a list of closed data, a list of cells, a dict, what is closed for good, an instance that is being made -/
inductive Cl where
  | lst (xs : List Dt) | pl (ns : List Nat) | dic (ks : List Key) (vs : List Dt) | dct (ks : List (List Key)) (vs : List Dt) | fz (d : Dt) | ins (c : Nat) (ns : List Str) (vs : List Dt)
abbrev Sl := List (Option Lv)
abbrev Cs := List Cl
/-- an exception: the class's number, its fields -/
structure Ex where
  c : Nat
  ns : List Str
  vs : List Dt
inductive Res (α : Type) where
  | ok (a : α) (cs : Cs) | exc (e : Ex) (sl : Sl) (cs : Cs) | bad
def Res.bind {α β : Type} (r : Res α) (f : α → Cs → Res β) : Res β := match r with
  | .ok a cs => f a cs
  | .exc e sl cs => .exc e sl cs
  | .bad => .bad
@[simp] theorem Res.bind_ok {α β : Type} (a : α) (cs : Cs) (f : α → Cs → Res β) : (Res.ok a cs).bind f = f a cs := rfl
@[simp] theorem Res.bind_bad {α β : Type} (f : α → Cs → Res β) : (Res.bad : Res α).bind f = .bad := rfl
@[simp] theorem Res.bind_exc {α β : Type} (e : Ex) (sl : Sl) (cs : Cs) (f : α → Cs → Res β) : (Res.exc e sl cs : Res α).bind f = .exc e sl cs := rfl
/-- behind a statement -/
inductive Fl where
  | nx (sl : Sl) | rt (v : Lv) | bk (sl : Sl) | ct (sl : Sl)
abbrev ME := Sl → Cs → Res Lv
abbrev MA := Sl → Cs → Res (List Lv)
abbrev MT := Sl → Cs → Res Bool
abbrev MS := Sl → Cs → Res Fl

/-! ### what stands for what -/
structure Cn where
  K : PySem.W.Frag
  cl : Nat → Addr
mutual
def Rep (C : Cn) (G : Hp) (v : V) : Dt → Prop
  | .non => v = .non
  | .bl b => v = .bl b
  | .int i => v = .int i
  | .str x => v = .str x
  | .ty n => v = .ty n
  | .cls c => v = .ref (C.cl c)
  | .scr ns => ∃ a, v = .ref a ∧ SqL C.K G a (ns.map V.int)
  | .tup xs => ∃ a vs, v = .ref a ∧ G a = some (.tup vs) ∧ Reps C G vs xs
  | .lst xs => ∃ a vs, v = .ref a ∧ G a = some (.lst vs) ∧ Reps C G vs xs
  | .dic ks xs => ∃ a kvs, v = .ref a ∧ G a = some (.dK kvs) ∧ kvs.map (·.1) = ks ∧ ks.Nodup ∧ Reps C G (kvs.map (·.2)) xs
  | .dct ks xs => ∃ a kvs, v = .ref a ∧ G a = some (.dT kvs) ∧ kvs.map (·.1) = ks ∧ ks.Nodup ∧ Reps C G (kvs.map (·.2)) xs
  | .obj c ns xs => ∃ a dx fs, v = .ref a ∧ G a = some (.ins (C.cl c) dx fs) ∧ fs.map (·.1) = ns ∧ Reps C G (fs.map (·.2)) xs
  | .exn a d _ ns xs => v = .ref a ∧ ((ns = [] ∧ xs = [] ∧ d = none) ∨ ∃ dd fs, d = some dd ∧ G dd = some (.xd fs) ∧ fs.map (·.1) = ns ∧ Reps C G (fs.map (·.2)) xs)
def Reps (C : Cn) (G : Hp) (vs : List V) : List Dt → Prop
  | [] => vs = []
  | x :: xs => ∃ v r, vs = v :: r ∧ Rep C G v x ∧ Reps C G r xs
end
theorem sqT_mono {K : PySem.W.Frag} {H H' : Hp} {a : Addr} {xs : List V} (e : Same H H') (h : SqT K H a xs) : SqT K H' a xs := by
  rcases h with (h | ⟨o, h⟩) | h
  · exact .inl (.inl (e _ _ h))
  · exact .inl (.inr ⟨o, e _ _ h⟩)
  · exact .inr h
mutual
theorem Rep.mono {C : Cn} {G G' : Hp} (e : Same G G') : ∀ {d : Dt} {v : V}, Rep C G v d → Rep C G' v d
  | .non, _, h => h
  | .bl _, _, h => h
  | .int _, _, h => h
  | .str _, _, h => h
  | .ty _, _, h => h
  | .cls _, _, h => h
  | .scr ns, v, h => by
    unfold Rep at h ⊢
    obtain ⟨a, h1, h2⟩ := h
    exact ⟨a, h1, e.seq h2⟩
  | .tup xs, v, h => by
    unfold Rep at h ⊢
    obtain ⟨a, vs, h1, h2, h3⟩ := h
    exact ⟨a, vs, h1, e _ _ h2, Reps.mono e h3⟩
  | .lst xs, v, h => by
    unfold Rep at h ⊢
    obtain ⟨a, vs, h1, h2, h3⟩ := h
    exact ⟨a, vs, h1, e _ _ h2, Reps.mono e h3⟩
  | .dct ks xs, v, h => by
    unfold Rep at h ⊢
    obtain ⟨a, kvs, h1, h2, h3, h5, h4⟩ := h
    exact ⟨a, kvs, h1, e _ _ h2, h3, h5, Reps.mono e h4⟩
  | .dic ks xs, v, h => by
    unfold Rep at h ⊢
    obtain ⟨a, kvs, h1, h2, h3, h5, h4⟩ := h
    exact ⟨a, kvs, h1, e _ _ h2, h3, h5, Reps.mono e h4⟩
  | .obj c ns xs, v, h => by
    unfold Rep at h ⊢
    obtain ⟨a, dx, fs, h1, h2, h3, h4⟩ := h
    exact ⟨a, dx, fs, h1, e _ _ h2, h3, Reps.mono e h4⟩
  | .exn a d c ns xs, v, h => by
    unfold Rep at h ⊢
    obtain ⟨h1, h2 | ⟨dd, fs, h2, h3, h4, h5⟩⟩ := h
    · exact ⟨h1, .inl h2⟩
    · exact ⟨h1, .inr ⟨dd, fs, h2, e _ _ h3, h4, Reps.mono e h5⟩⟩
theorem Reps.mono {C : Cn} {G G' : Hp} (e : Same G G') : ∀ {ds : List Dt} {vs : List V}, Reps C G vs ds → Reps C G' vs ds
  | [], _, h => by unfold Reps at h ⊢; exact h
  | x :: xs, vs, h => by
    unfold Reps at h ⊢
    obtain ⟨v, r, h1, h2, h3⟩ := h
    exact ⟨v, r, h1, Rep.mono e h2, Reps.mono e h3⟩
end
section
variable {C : Cn} {G G' H H' : Hp} {v : V} {d : Dt} {vs ws : List V} {ds es : List Dt}
@[simp] theorem rep_non : Rep C G v .non ↔ v = .non := by unfold Rep; rfl
@[simp] theorem rep_bl {b : Bool} : Rep C G v (.bl b) ↔ v = .bl b := by unfold Rep; rfl
@[simp] theorem rep_int {i : Int} : Rep C G v (.int i) ↔ v = .int i := by unfold Rep; rfl
@[simp] theorem rep_str {x : Str} : Rep C G v (.str x) ↔ v = .str x := by unfold Rep; rfl
@[simp] theorem rep_ty {n : String} : Rep C G v (.ty n) ↔ v = .ty n := by unfold Rep; rfl
@[simp] theorem rep_cls {c : Nat} : Rep C G v (.cls c) ↔ v = .ref (C.cl c) := by unfold Rep; rfl
theorem rep_scr {ns : List Int} : Rep C G v (.scr ns) ↔ ∃ a, v = .ref a ∧ SqL C.K G a (ns.map V.int) := by unfold Rep; rfl
theorem rep_tup {xs : List Dt} : Rep C G v (.tup xs) ↔ ∃ a vs, v = .ref a ∧ G a = some (.tup vs) ∧ Reps C G vs xs := by unfold Rep; rfl
theorem rep_lst {xs : List Dt} : Rep C G v (.lst xs) ↔ ∃ a vs, v = .ref a ∧ G a = some (.lst vs) ∧ Reps C G vs xs := by unfold Rep; rfl
theorem rep_dct {ks : List (List Key)} {xs : List Dt} : Rep C G v (.dct ks xs) ↔ ∃ a kvs, v = .ref a ∧ G a = some (.dT kvs) ∧ kvs.map (·.1) = ks ∧ ks.Nodup ∧ Reps C G (kvs.map (·.2)) xs := by unfold Rep; rfl
theorem rep_dic {ks : List Key} {xs : List Dt} : Rep C G v (.dic ks xs) ↔ ∃ a kvs, v = .ref a ∧ G a = some (.dK kvs) ∧ kvs.map (·.1) = ks ∧ ks.Nodup ∧ Reps C G (kvs.map (·.2)) xs := by unfold Rep; rfl
theorem rep_obj {c : Nat} {ns : List Str} {xs : List Dt} : Rep C G v (.obj c ns xs) ↔ ∃ a dx fs, v = .ref a ∧ G a = some (.ins (C.cl c) dx fs) ∧ fs.map (·.1) = ns ∧ Reps C G (fs.map (·.2)) xs := by unfold Rep; rfl
theorem rep_exn {a : Addr} {d : Option Addr} {c : Nat} {ns : List Str} {xs : List Dt} : Rep C G v (.exn a d c ns xs) ↔ v = .ref a ∧ ((ns = [] ∧ xs = [] ∧ d = none) ∨ ∃ dd fs, d = some dd ∧ G dd = some (.xd fs) ∧ fs.map (·.1) = ns ∧ Reps C G (fs.map (·.2)) xs) := by unfold Rep; rfl
@[simp] theorem reps_nil : Reps C G vs [] ↔ vs = [] := by unfold Reps; rfl
theorem reps_cons : Reps C G vs (d :: ds) ↔ ∃ v r, vs = v :: r ∧ Rep C G v d ∧ Reps C G r ds := by
  constructor
  · intro h; unfold Reps at h; exact h
  · intro h; unfold Reps; exact h
theorem Reps.cons (h : Rep C G v d) (t : Reps C G vs ds) : Reps C G (v :: vs) (d :: ds) := reps_cons.mpr ⟨v, vs, rfl, h, t⟩
theorem Reps.length : ∀ {ds : List Dt} {vs : List V}, Reps C G vs ds → vs.length = ds.length
  | [], vs, h => by rw [reps_nil] at h; rw [h]; rfl
  | d :: ds, vs, h => by
    obtain ⟨v, r, rfl, h2, h3⟩ := reps_cons.mp h
    simp [Reps.length h3]
theorem Reps.append : ∀ {ds : List Dt} {vs : List V}, Reps C G vs ds → Reps C G ws es → Reps C G (vs ++ ws) (ds ++ es)
  | [], vs, h, t => by rw [reps_nil] at h; subst h; exact t
  | d :: ds, vs, h, t => by
    obtain ⟨v, r, rfl, h2, h3⟩ := reps_cons.mp h
    exact Reps.cons h2 (Reps.append h3 t)
theorem Reps.get : ∀ {ds : List Dt} {vs : List V} {i : Nat} {d : Dt}, Reps C G vs ds → ds[i]? = some d → ∃ v, vs[i]? = some v ∧ Rep C G v d
  | [], vs, i, d, h, e => by simp at e
  | x :: ds, vs, 0, d, h, e => by
    obtain ⟨v, r, rfl, h2, h3⟩ := reps_cons.mp h
    simp at e; subst e
    exact ⟨v, rfl, h2⟩
  | x :: ds, vs, i + 1, d, h, e => by
    obtain ⟨v, r, rfl, h2, h3⟩ := reps_cons.mp h
    exact Reps.get (i := i) h3 (by simpa using e)
theorem Reps.set : ∀ {ds : List Dt} {vs : List V} {i : Nat}, Reps C G vs ds → Rep C G v d → Reps C G (vs.set i v) (ds.set i d)
  | [], vs, i, h, t => by rw [reps_nil] at h; subst h; simp
  | x :: ds, vs, 0, h, t => by
    obtain ⟨v, r, rfl, h2, h3⟩ := reps_cons.mp h
    exact Reps.cons t h3
  | x :: ds, vs, i + 1, h, t => by
    obtain ⟨v, r, rfl, h2, h3⟩ := reps_cons.mp h
    exact Reps.cons h2 (Reps.set (i := i) h3 t)
theorem Reps.take : ∀ {ds : List Dt} {vs : List V} (n : Nat), Reps C G vs ds → Reps C G (vs.take n) (ds.take n)
  | ds, vs, 0, h => by simp
  | [], vs, n + 1, h => by rw [reps_nil] at h; subst h; simp
  | x :: ds, vs, n + 1, h => by
    obtain ⟨v, r, rfl, h2, h3⟩ := reps_cons.mp h
    exact Reps.cons h2 (Reps.take n h3)
theorem Reps.drop : ∀ {ds : List Dt} {vs : List V} (n : Nat), Reps C G vs ds → Reps C G (vs.drop n) (ds.drop n)
  | ds, vs, 0, h => by simpa using h
  | [], vs, n + 1, h => by rw [reps_nil] at h; subst h; simp
  | x :: ds, vs, n + 1, h => by
    obtain ⟨v, r, rfl, h2, h3⟩ := reps_cons.mp h
    exact Reps.drop n h3
theorem Reps.reverse : ∀ {ds : List Dt} {vs : List V}, Reps C G vs ds → Reps C G vs.reverse ds.reverse
  | [], vs, h => by rw [reps_nil] at h; subst h; simp
  | x :: ds, vs, h => by
    obtain ⟨v, r, rfl, h2, h3⟩ := reps_cons.mp h
    rw [List.reverse_cons, List.reverse_cons]
    exact Reps.append (Reps.reverse h3) (Reps.cons h2 (reps_nil.mpr rfl))
theorem Reps.ints : ∀ {ns : List Int} {vs : List V}, Reps C G vs (ns.map Dt.int) → vs = ns.map V.int
  | [], vs, h => by simpa using h
  | n :: ns, vs, h => by
    obtain ⟨v, r, rfl, h2, h3⟩ := reps_cons.mp h
    rw [rep_int] at h2
    rw [h2, Reps.ints h3]; rfl
theorem Reps.of_ints : ∀ {ns : List Int}, Reps C G (ns.map V.int) (ns.map Dt.int)
  | [] => by simp
  | n :: ns => Reps.cons (rep_int.mpr rfl) Reps.of_ints
end
/-- the ints of a list of data -/
def intsOf : List Dt → Option (List Int)
  | [] => some []
  | .int i :: r => (intsOf r).map (i :: ·)
  | _ => none
theorem intsOf_eq : ∀ {ds : List Dt} {ns : List Int}, intsOf ds = some ns → ds = ns.map Dt.int
  | [], ns, h => by simp [intsOf] at h; subst h; rfl
  | d :: r, ns, h => by
    cases d with
    | int i =>
      cases e : intsOf r with
      | none => simp [intsOf, e] at h
      | some m => simp [intsOf, e] at h; subst h; rw [intsOf_eq e]; rfl
    | _ => simp [intsOf] at h
@[simp] theorem intsOf_map (ns : List Int) : intsOf (ns.map Dt.int) = some ns := by
  induction ns with
  | nil => rfl
  | cons n r ih => simp [intsOf, ih]

def RepL (C : Cn) (ι : List Addr) (G : Hp) (v : V) : Lv → Prop
  | .c d => Rep C G v d
  | .p n => ∃ a, ι[n]? = some a ∧ v = .ref a
section
variable {C : Cn} {ι : List Addr} {G : Hp} {v : V}
theorem repL_non (h : RepL C ι G v (.c .non)) : v = .non := (rep_non (C := C) (G := G)).mp h
theorem repL_bl {b : Bool} (h : RepL C ι G v (.c (.bl b))) : v = .bl b := (rep_bl (C := C) (G := G)).mp h
theorem repL_int {i : Int} (h : RepL C ι G v (.c (.int i))) : v = .int i := (rep_int (C := C) (G := G)).mp h
theorem repL_str {x : Str} (h : RepL C ι G v (.c (.str x))) : v = .str x := (rep_str (C := C) (G := G)).mp h
theorem repL_ty {x : String} (h : RepL C ι G v (.c (.ty x))) : v = .ty x := (rep_ty (C := C) (G := G)).mp h
theorem repL_cls {c : Nat} (h : RepL C ι G v (.c (.cls c))) : v = .ref (C.cl c) := (rep_cls (C := C) (G := G)).mp h
theorem mk_non : RepL C ι G .non (.c .non) := (rep_non (C := C) (G := G)).mpr rfl
theorem mk_bl {b : Bool} : RepL C ι G (.bl b) (.c (.bl b)) := (rep_bl (C := C) (G := G)).mpr rfl
theorem mk_int {i : Int} : RepL C ι G (.int i) (.c (.int i)) := (rep_int (C := C) (G := G)).mpr rfl
theorem mk_str {x : Str} : RepL C ι G (.str x) (.c (.str x)) := (rep_str (C := C) (G := G)).mpr rfl
theorem repL_tup {xs : List Dt} (h : RepL C ι G v (.c (.tup xs))) : ∃ a vs, v = .ref a ∧ G a = some (.tup vs) ∧ Reps C G vs xs := rep_tup.mp h
theorem repL_lst {xs : List Dt} (h : RepL C ι G v (.c (.lst xs))) : ∃ a vs, v = .ref a ∧ G a = some (.lst vs) ∧ Reps C G vs xs := rep_lst.mp h
theorem repL_scr {ns : List Int} (h : RepL C ι G v (.c (.scr ns))) : ∃ a, v = .ref a ∧ SqL C.K G a (ns.map V.int) := rep_scr.mp h
theorem repL_dic {ks : List Key} {xs : List Dt} (h : RepL C ι G v (.c (.dic ks xs))) : ∃ a kvs, v = .ref a ∧ G a = some (.dK kvs) ∧ kvs.map (·.1) = ks ∧ ks.Nodup ∧ Reps C G (kvs.map (·.2)) xs := rep_dic.mp h
theorem repL_dct {ks : List (List Key)} {xs : List Dt} (h : RepL C ι G v (.c (.dct ks xs))) : ∃ a kvs, v = .ref a ∧ G a = some (.dT kvs) ∧ kvs.map (·.1) = ks ∧ ks.Nodup ∧ Reps C G (kvs.map (·.2)) xs := rep_dct.mp h
theorem repL_exn {a : Addr} {d : Option Addr} {c : Nat} {ns : List Str} {xs : List Dt} (h : RepL C ι G v (.c (.exn a d c ns xs))) : v = .ref a ∧ ((ns = [] ∧ xs = [] ∧ d = none) ∨ ∃ dd fs, d = some dd ∧ G dd = some (.xd fs) ∧ fs.map (·.1) = ns ∧ Reps C G (fs.map (·.2)) xs) := (rep_exn (c := c)).mp h
theorem repL_obj {c : Nat} {ns : List Str} {xs : List Dt} (h : RepL C ι G v (.c (.obj c ns xs))) : ∃ a dx fs, v = .ref a ∧ G a = some (.ins (C.cl c) dx fs) ∧ fs.map (·.1) = ns ∧ Reps C G (fs.map (·.2)) xs := rep_obj.mp h
end
def CRep (C : Cn) (ι : List Addr) (G H : Hp) (a : Addr) : Cl → Prop
  | .lst ds => G a = none ∧ ∃ vs, H a = some (.lst vs) ∧ Reps C G vs ds
  | .pl ns => G a = none ∧ ∃ as : List Addr, H a = some (.lst (as.map V.ref)) ∧ as.length = ns.length ∧ ∀ (i n : Nat), ns[i]? = some n → ∃ b, ι[n]? = some b ∧ as[i]? = some b
  | .dic ks ds => G a = none ∧ ∃ kvs, H a = some (.dK kvs) ∧ kvs.map (·.1) = ks ∧ ks.Nodup ∧ Reps C G (kvs.map (·.2)) ds
  | .dct ks ds => G a = none ∧ ∃ kvs, H a = some (.dT kvs) ∧ kvs.map (·.1) = ks ∧ ks.Nodup ∧ Reps C G (kvs.map (·.2)) ds
  | .fz d => Rep C G (.ref a) d
  | .ins c ns ds => G a = none ∧ ∃ dx fs, H a = some (.ins (C.cl c) dx fs) ∧ fs.map (·.1) = ns ∧ ns.Nodup ∧ Reps C G (fs.map (·.2)) ds
structure Le (ι : List Addr) (G : Hp) (ι' : List Addr) (G' : Hp) : Prop where
  ex : ∃ m, ι' = ι ++ m
  g : Same G G'
/-- the entry of the frame: its heap, what was closed of it -/
structure Bs where
  H : Hp
  G : Hp
  /-- the cells and the closed things at the entry of the try that runs -/
  ι0 : List Addr
  G0 : Hp
abbrev bs0 (H G : Hp) : Bs := ⟨H, G, [], fun _ => none⟩
structure Rel (C : Cn) (B : Bs) (ι : List Addr) (G H : Hp) (σ : St) (sl : Sl) (cs : Cs) : Prop where
  hG : Same G H
  h0 : Same B.H H
  g0 : ∀ b o, B.H b = some o → G b = B.G b
  fr : ∀ a ∈ ι, B.H a = none
  th : ∀ a ∈ ι, ∃ o, H a = some o
  nd : ι.Nodup
  cl : ι.length = cs.length
  cr : ∀ (n : Nat) (a : Addr) (c : Cl), ι[n]? = some a → cs[n]? = some c → CRep C ι G H a c
  len : σ.length = sl.length
  slt : ∀ (i : Nat) (l : Lv), sl[i]? = some (some l) → ∃ v, σ[i]? = some (some v) ∧ RepL C ι G v l
  tb : Le B.ι0 B.G0 ι G
theorem Le.refl {ι : List Addr} {G : Hp} : Le ι G ι G := ⟨⟨[], by simp⟩, Same.refl _⟩
theorem Le.trans {ι ι1 ι2 : List Addr} {G G1 G2 : Hp} (a : Le ι G ι1 G1) (b : Le ι1 G1 ι2 G2) : Le ι G ι2 G2 := by
  obtain ⟨⟨m, rfl⟩, g⟩ := a
  obtain ⟨⟨m', rfl⟩, g'⟩ := b
  exact ⟨⟨m ++ m', by simp⟩, g.trans g'⟩
theorem Le.get {ι ι' : List Addr} {G G' : Hp} (a : Le ι G ι' G') {n : Nat} {x : Addr} (h : ι[n]? = some x) : ι'[n]? = some x := by
  obtain ⟨m, rfl⟩ := a.ex
  rw [List.getElem?_append_left (List.getElem?_eq_some_iff.mp h).1]; exact h
theorem RepL.mono {C : Cn} {ι ι' : List Addr} {G G' : Hp} (e : Le ι G ι' G') {v : V} : ∀ {l : Lv}, RepL C ι G v l → RepL C ι' G' v l
  | .c _, h => Rep.mono e.g h
  | .p _, ⟨a, h1, h2⟩ => ⟨a, e.get h1, h2⟩
def RepLs (C : Cn) (ι : List Addr) (G : Hp) (vs : List V) : List Lv → Prop
  | [] => vs = []
  | x :: xs => ∃ v r, vs = v :: r ∧ RepL C ι G v x ∧ RepLs C ι G r xs
theorem RepLs.mono {C : Cn} {ι ι' : List Addr} {G G' : Hp} (e : Le ι G ι' G') : ∀ {ls : List Lv} {vs : List V}, RepLs C ι G vs ls → RepLs C ι' G' vs ls
  | [], _, h => h
  | _ :: _, _, ⟨v, r, h1, h2, h3⟩ => ⟨v, r, h1, h2.mono e, h3.mono e⟩

/-! ### the state's moves -/
section
variable {C : Cn} {B : Bs} {ι : List Addr} {G H : Hp} {σ : St} {sl : Sl} {cs : Cs}
theorem Rel.notin (R : Rel C B ι G H σ sl cs) {p : Addr} (h : H p = none) : p ∉ ι := fun hm => by
  obtain ⟨o, e⟩ := R.th p hm
  rw [h] at e; cases e
theorem Rel.gnone (R : Rel C B ι G H σ sl cs) {p : Addr} (h : H p = none) : G p = none := by
  cases e : G p with
  | none => rfl
  | some o => rw [R.hG _ _ e] at h; cases h
theorem Rel.bnone (R : Rel C B ι G H σ sl cs) {p : Addr} (h : H p = none) : B.H p = none := by
  cases e : B.H p with
  | none => rfl
  | some o => rw [R.h0 _ _ e] at h; cases h
theorem Same.updR {G H : Hp} {p : Addr} {o : HO} (e : Same G H) (h : G p = none) : Same G (upd H p o) := fun b u q => by
  rw [upd_ne (ne_of_none q h)]; exact e b u q
theorem Same.upd2 {G H : Hp} {p : Addr} {o : HO} (e : Same G H) : Same (upd G p o) (upd H p o) := fun b u q => by
  by_cases hb : b = p
  · subst hb; rw [upd_same] at q ⊢; exact q
  · rw [upd_ne hb] at q ⊢; exact e b u q
theorem Same.updL {G : Hp} {p : Addr} {o : HO} (h : G p = none) : Same G (upd G p o) := Same.updR (Same.refl G) h
/-- a cell seen in a grown heap, the frozen part grown -/
theorem CRep.grow {ι ι' : List Addr} {G G' H H' : Hp} {a : Addr} (e : Le ι G ι' G') (hg : G a = none → G' a = none) (hh : H' a = H a) : ∀ {c : Cl}, CRep C ι G H a c → CRep C ι' G' H' a c
  | .lst ds, ⟨h1, vs, h2, h3⟩ => ⟨hg h1, vs, hh.trans h2, h3.mono e.g⟩
  | .pl ns, ⟨h1, as, h2, h3, h4⟩ => ⟨hg h1, as, hh.trans h2, h3, fun i n q => by
      obtain ⟨b, q1, q2⟩ := h4 i n q
      exact ⟨b, e.get q1, q2⟩⟩
  | .dic ks ds, ⟨h1, kvs, h2, h3, h5, h4⟩ => ⟨hg h1, kvs, hh.trans h2, h3, h5, h4.mono e.g⟩
  | .dct ks ds, ⟨h1, kvs, h2, h3, h5, h4⟩ => ⟨hg h1, kvs, hh.trans h2, h3, h5, h4.mono e.g⟩
  | .fz d, h => Rep.mono e.g h
  | .ins c ns ds, ⟨h1, dx, fs, h2, h3, h5, h4⟩ => ⟨hg h1, dx, fs, hh.trans h2, h3, h5, h4.mono e.g⟩
/-- a new closed object -/
theorem Rel.newC (R : Rel C B ι G H σ sl cs) {p : Addr} {o : HO} (h : H p = none) : Rel C B ι (upd G p o) (upd H p o) σ sl cs ∧ Le ι G ι (upd G p o) := by
  have hi := R.notin h
  have hg := R.gnone h
  have hb := R.bnone h
  have le : Le ι G ι (upd G p o) := ⟨⟨[], by simp⟩, Same.updL hg⟩
  refine ⟨⟨Same.upd2 R.hG, Same.updR R.h0 hb, fun b u q => ?_, R.fr, fun a ha => ?_, R.nd, R.cl, fun n a c h1 h2 => ?_, R.len, fun i l q => ?_, R.tb.trans le⟩, le⟩
  · rw [upd_ne (ne_of_none q hb)]; exact R.g0 b u q
  · obtain ⟨u, e⟩ := R.th a ha
    exact ⟨u, by rw [upd_ne (ne_of_none e h)]; exact e⟩
  · have hm : a ∈ ι := List.mem_of_getElem? h1
    have hne : a ≠ p := fun z => hi (z ▸ hm)
    exact (R.cr n a c h1 h2).grow le (fun z => by rw [upd_ne hne]; exact z) (upd_ne hne)
  · obtain ⟨v, e, r⟩ := R.slt i l q
    exact ⟨v, e, r.mono le⟩
/-- a new cell -/
theorem Rel.newP (R : Rel C B ι G H σ sl cs) {p : Addr} {o : HO} {c : Cl} (h : H p = none) (hc : CRep C (ι ++ [p]) G (upd H p o) p c) : Rel C B (ι ++ [p]) G (upd H p o) σ sl (cs ++ [c]) ∧ Le ι G (ι ++ [p]) G := by
  have hi := R.notin h
  have hg := R.gnone h
  have hb := R.bnone h
  have le : Le ι G (ι ++ [p]) G := ⟨⟨[p], rfl⟩, Same.refl _⟩
  refine ⟨⟨Same.updR R.hG hg, Same.updR R.h0 hb, R.g0, fun a ha => ?_, fun a ha => ?_, ?_, by simp [R.cl], fun n a c' h1 h2 => ?_, R.len, fun i l q => ?_, R.tb.trans le⟩, le⟩
  · rcases List.mem_append.mp ha with ha | ha
    · exact R.fr a ha
    · simp at ha; subst ha; exact hb
  · rcases List.mem_append.mp ha with ha | ha
    · obtain ⟨u, e⟩ := R.th a ha
      exact ⟨u, by rw [upd_ne (ne_of_none e h)]; exact e⟩
    · simp at ha; subst ha; exact ⟨o, upd_same⟩
  · rw [List.nodup_append]
    refine ⟨R.nd, by simp, fun a ha b hb' => ?_⟩
    simp at hb'; subst hb'
    exact fun z => hi (z ▸ ha)
  · by_cases hn : n < ι.length
    · rw [List.getElem?_append_left hn] at h1
      rw [List.getElem?_append_left (R.cl ▸ hn)] at h2
      have hm : a ∈ ι := List.mem_of_getElem? h1
      have hne : a ≠ p := fun z => hi (z ▸ hm)
      exact (R.cr n a c' h1 h2).grow le id (upd_ne hne)
    · have e1 := (List.getElem?_eq_some_iff.mp h1).1
      simp at e1
      have : n = ι.length := by omega
      subst this
      rw [List.getElem?_append_right (Nat.le_refl _)] at h1
      rw [R.cl, List.getElem?_append_right (Nat.le_refl _)] at h2
      simp at h1 h2
      subst h1 h2
      exact hc
  · obtain ⟨v, e, r⟩ := R.slt i l q
    exact ⟨v, e, r.mono le⟩
theorem nd_get {α : Type} {l : List α} (hN : l.Nodup) {i j : Nat} {x : α} (a : l[i]? = some x) (b : l[j]? = some x) : i = j := nd_ix hN a b
/-- a cell's content is changed -/
theorem Rel.mutP (R : Rel C B ι G H σ sl cs) {n : Nat} {a : Addr} {o : HO} {c : Cl} (h1 : ι[n]? = some a) (hg : G a = none) (hc : CRep C ι G (upd H a o) a c) : Rel C B ι G (upd H a o) σ sl (cs.set n c) := by
  have hm : a ∈ ι := List.mem_of_getElem? h1
  have hb := R.fr a hm
  refine ⟨Same.updR R.hG hg, Same.updR R.h0 hb, R.g0, R.fr, fun b hb' => ?_, R.nd, by simp [R.cl], fun m b c' q1 q2 => ?_, R.len, R.slt, R.tb⟩
  · by_cases e : b = a
    · subst e; exact ⟨o, upd_same⟩
    · obtain ⟨u, e'⟩ := R.th b hb'
      exact ⟨u, by rw [upd_ne e]; exact e'⟩
  · by_cases e : b = a
    · subst e
      have : m = n := nd_get R.nd q1 h1
      subst this
      rw [List.getElem?_set_self (by have := (List.getElem?_eq_some_iff.mp h1).1; rw [R.cl] at this; exact this)] at q2
      simp at q2; subst q2
      exact hc
    · have hmn : n ≠ m := fun z => by subst z; rw [h1] at q1; exact e (Option.some.inj q1).symm
      rw [List.getElem?_set_ne hmn] at q2
      exact (R.cr m b c' q1 q2).grow Le.refl id (upd_ne e)
/-- a cell is closed for good -/
theorem Rel.fzP (R : Rel C B ι G H σ sl cs) {n : Nat} {a : Addr} {o : HO} {d : Dt} (h1 : ι[n]? = some a) (hg : G a = none) (ho : H a = some o) (hd : Rep C (upd G a o) (.ref a) d) : Rel C B ι (upd G a o) H σ sl (cs.set n (.fz d)) ∧ Le ι G ι (upd G a o) := by
  have hm : a ∈ ι := List.mem_of_getElem? h1
  have hb := R.fr a hm
  have le : Le ι G ι (upd G a o) := ⟨⟨[], by simp⟩, Same.updL hg⟩
  refine ⟨⟨fun b u q => ?_, R.h0, fun b u q => ?_, R.fr, R.th, R.nd, by simp [R.cl], fun m b c' q1 q2 => ?_, R.len, fun i l q => ?_, R.tb.trans le⟩, le⟩
  · by_cases e : b = a
    · subst e; rw [upd_same] at q; cases q; exact ho
    · rw [upd_ne e] at q; exact R.hG b u q
  · rw [upd_ne (ne_of_none q hb)]; exact R.g0 b u q
  · by_cases e : b = a
    · subst e
      have : m = n := nd_get R.nd q1 h1
      subst this
      rw [List.getElem?_set_self (by have := (List.getElem?_eq_some_iff.mp h1).1; rw [R.cl] at this; exact this)] at q2
      simp at q2; subst q2
      exact hd
    · have hmn : n ≠ m := fun z => by subst z; rw [h1] at q1; exact e (Option.some.inj q1).symm
      rw [List.getElem?_set_ne hmn] at q2
      exact (R.cr m b c' q1 q2).grow le (fun z => by rw [upd_ne e]; exact z) rfl
  · obtain ⟨v, e, r⟩ := R.slt i l q
    exact ⟨v, e, r.mono le⟩
/-- a slot is set -/
theorem Rel.setS (R : Rel C B ι G H σ sl cs) {i : Nat} {v : V} {l : Lv} (h : RepL C ι G v l) : Rel C B ι G H (σ.set i (some v)) (sl.set i (some l)) cs := by
  refine ⟨R.hG, R.h0, R.g0, R.fr, R.th, R.nd, R.cl, R.cr, by simp [R.len], fun j m q => ?_, R.tb⟩
  by_cases e : i = j
  · subst e
    by_cases hl : i < sl.length
    · rw [List.getElem?_set_self hl] at q
      simp at q; subst q
      exact ⟨v, List.getElem?_set_self (R.len ▸ hl), h⟩
    · rw [List.getElem?_eq_none (by simpa using hl)] at q; cases q
  · rw [List.getElem?_set_ne e] at q ⊢
    exact R.slt j m q
/-- a slot is forgotten -/
theorem Rel.unsetS (R : Rel C B ι G H σ sl cs) {i : Nat} : Rel C B ι G H (σ.set i none) (sl.set i none) cs := by
  refine ⟨R.hG, R.h0, R.g0, R.fr, R.th, R.nd, R.cl, R.cr, by simp [R.len], fun j m q => ?_, R.tb⟩
  by_cases e : i = j
  · subst e
    by_cases hl : i < sl.length
    · rw [List.getElem?_set_self hl] at q
      simp at q
    · rw [List.getElem?_eq_none (by simpa using hl)] at q; cases q
  · rw [List.getElem?_set_ne e] at q ⊢
    exact R.slt j m q
/-- behind a call -/
theorem Rel.call (R : Rel C B ι G H σ sl cs) {G' H' : Hp} (h1 : Same G G') (h2 : Same G' H') (h3 : Same H H') (h4 : ∀ b o, H b = some o → G' b = G b) : Rel C B ι G' H' σ sl cs ∧ Le ι G ι G' := by
  have le : Le ι G ι G' := ⟨⟨[], by simp⟩, h1⟩
  refine ⟨⟨h2, R.h0.trans h3, fun b o q => (h4 b o (R.h0 b o q)).trans (R.g0 b o q), R.fr, fun a ha => ?_, R.nd, R.cl, fun n a c q1 q2 => ?_, R.len, fun i l q => ?_, R.tb.trans le⟩, le⟩
  · obtain ⟨o, e⟩ := R.th a ha
    exact ⟨o, h3 a o e⟩
  · obtain ⟨o, e⟩ := R.th a (List.mem_of_getElem? q1)
    exact (R.cr n a c q1 q2).grow le (fun z => (h4 a o e).trans z) ((h3 a o e).trans e.symm)
  · obtain ⟨v, e, r⟩ := R.slt i l q
    exact ⟨v, e, r.mono le⟩
end
end Mi

set_option Elab.async false
set_option linter.all false
set_option maxRecDepth 100000
set_option maxHeartbeats 4000000
namespace Mi
open PySem L2
/-! ### the readings that a mirror gives -/
def ExRep (C : Cn) (G : Hp) (cls : Value) (d : Option Addr) (H : Hp) (e : Ex) : Prop :=
  cls = .ref (C.cl e.c) ∧ ((e.ns = [] ∧ e.vs = [] ∧ d = none) ∨ ∃ dd fs, d = some dd ∧ G dd = some (.xd fs) ∧ fs.map (·.1) = e.ns ∧ Reps C G (fs.map (·.2)) e.vs)
section
variable (C : Cn) (W : WX)
def Post {α : Type} (B : Bs) (σ : St) (r : Res α) (K : α → Cs → Prop) : Prop := match r with
  | .ok a cs => K a cs
  | .exc e sl cs => ∀ ι' G' H' cls d, Rel C B ι' G' H' σ sl cs → ExRep C G' cls d H' e → W cls d σ H'
  | .bad => False
def tE (me : ME) : TE := fun σ H Q => ∃ B ι G sl cs, Rel C B ι G H σ sl cs ∧ Post C W B σ (me sl cs) fun l cs' => ∀ v ι' G' H', Rel C B ι' G' H' σ sl cs' → Le ι G ι' G' → RepL C ι' G' v l → Q v H'
def tA (ma : MA) : TA := fun σ H Q => ∃ B ι G sl cs, Rel C B ι G H σ sl cs ∧ Post C W B σ (ma sl cs) fun l cs' => ∀ v ι' G' H', Rel C B ι' G' H' σ sl cs' → Le ι G ι' G' → RepLs C ι' G' v l → Q v H'
def tT (mt : MT) : TT := fun σ H Q => ∃ B ι G sl cs, Rel C B ι G H σ sl cs ∧ Post C W B σ (mt sl cs) fun b cs' => ∀ ι' G' H', Rel C B ι' G' H' σ sl cs' → Le ι G ι' G' → Q b H'
def PostS (B : Bs) (ι : List Addr) (G : Hp) (D : Ends) (r : Res Fl) : Prop := match r with
  | .ok (.nx sl') cs' => ∀ σ' ι' G' H', Rel C B ι' G' H' σ' sl' cs' → Le ι G ι' G' → D.nx σ' H'
  | .ok (.rt l) cs' => ∀ v σ' sl' ι' G' H', Rel C B ι' G' H' σ' sl' cs' → Le ι G ι' G' → RepL C ι' G' v l → D.rt v H'
  | .ok (.bk sl') cs' => ∀ σ' ι' G' H', Rel C B ι' G' H' σ' sl' cs' → Le ι G ι' G' → D.bk σ' H'
  | .ok (.ct sl') cs' => ∀ σ' ι' G' H', Rel C B ι' G' H' σ' sl' cs' → Le ι G ι' G' → D.ct σ' H'
  | .exc e sl' cs' => ∀ σ' ι' G' H' cls d, Rel C B ι' G' H' σ' sl' cs' → ExRep C G' cls d H' e → W cls d σ' H'
  | .bad => False
def tS (ms : MS) : TS := fun D σ H => ∃ B ι G sl cs, Rel C B ι G H σ sl cs ∧ PostS C W B ι G D (ms sl cs)
/-! ### the judgements -/
def WE (X : Cx) (e : Expr) (me : ME) : Prop := X.K = C.K → Takes X W → PE X e (tE C W me)
def WA (X : Cx) (es : List Expr) (ma : MA) : Prop := X.K = C.K → Takes X W → PA X es (tA C W ma)
def WT (X : Cx) (e : Expr) (mt : MT) : Prop := X.K = C.K → Takes X W → PT X e (tT C W mt)
def WW (X : Cx) (e : Expr) (mt : MT) : Prop := X.K = C.K → Takes X W → PW X e (tT C W mt)
def Pas (X : Cx) : Prop := PassesOwn (model X.prog X.w) X.A X.env X.xe
def WS (X : Cx) (st : Stmt) (ms : MS) : Prop := X.K = C.K → Takes X W → Pas X → PS X st (tS C W ms)
def WSs (X : Cx) (st : List Stmt) (ms : MS) : Prop := X.K = C.K → Takes X W → Pas X → PSs X st (tS C W ms)
end
theorem _root_.L2.PE.imp {X : Cx} {e : Expr} {t t' : TE} (h : PE X e t) (hi : ∀ σ H Q, t' σ H Q → t σ H Q) : PE X e t' := ⟨fun pins s σ H Q I hw => h.run pins s σ H Q I (hi σ H Q hw)⟩
theorem _root_.L2.PA.imp {X : Cx} {e : List Expr} {t t' : TA} (h : PA X e t) (hi : ∀ σ H Q, t' σ H Q → t σ H Q) : PA X e t' := ⟨fun pos pins s σ H Q I hw => h.run pos pins s σ H Q I (hi σ H Q hw)⟩
theorem _root_.L2.PT.imp {X : Cx} {e : Expr} {t t' : TT} (h : PT X e t) (hi : ∀ σ H Q, t' σ H Q → t σ H Q) : PT X e t' := ⟨fun pins s σ H Q I hw => h.run pins s σ H Q I (hi σ H Q hw)⟩
theorem _root_.L2.PW.imp {X : Cx} {e : Expr} {t t' : TT} (h : PW X e t) (hi : ∀ σ H Q, t' σ H Q → t σ H Q) : PW X e t' := ⟨fun wh pins s σ H Q I hw => h.run wh pins s σ H Q I (hi σ H Q hw)⟩
theorem _root_.L2.PS.imp {X : Cx} {e : Stmt} {t t' : TS} (h : PS X e t) (hi : ∀ D σ H, t' D σ H → t D σ H) : PS X e t' := ⟨fun pins s σ H D I hw => h.run pins s σ H D I (hi D σ H hw)⟩
theorem _root_.L2.PSs.imp {X : Cx} {e : List Stmt} {t t' : TS} (h : PSs X e t) (hi : ∀ D σ H, t' D σ H → t D σ H) : PSs X e t' := ⟨fun pins s σ H D I hw => h.run pins s σ H D I (hi D σ H hw)⟩
theorem _root_.L2.PG.imp {X : Cx} {e : Expr} {t t' : TG} (h : PG X e t) (hi : ∀ v σ H Q, t' v σ H Q → t v σ H Q) : PG X e t' := ⟨fun pins s σ H v u Q I r hw => h.run pins s σ H v u Q I r (hi v σ H Q hw)⟩
theorem _root_.L2.PI.imp {X : Cx} {tg e : Expr} {t t' : TI} (h : PI X tg e t) (hi : ∀ σ H R, t' σ H R → t σ H R) : PI X tg e t' := ⟨fun pins s σ H R I hw => h.run pins s σ H R I (hi σ H R hw)⟩

section
variable {C : Cn} {W : WX}
theorem Post.bind {α β : Type} {B : Bs} {σ : St} {r : Res α} {f : α → Cs → Res β} {K : β → Cs → Prop} (h : Post C W B σ (r.bind f) K) : Post C W B σ r fun a cs => Post C W B σ (f a cs) K := by
  cases r with
  | ok a cs => exact h
  | exc e sl cs => exact h
  | bad => exact h
theorem Post.mono {α : Type} {B : Bs} {σ : St} {r : Res α} {K K' : α → Cs → Prop} (h : Post C W B σ r K) (hk : ∀ a cs, K a cs → K' a cs) : Post C W B σ r K' := by
  cases r with
  | ok a cs => exact hk _ _ h
  | exc e sl cs => exact h
  | bad => exact h
def up {α : Type} : Option (α × Cs) → Res α
  | some (a, cs) => .ok a cs
  | none => .bad
theorem Post.up {α : Type} {B : Bs} {σ : St} {r : Option (α × Cs)} {K : α → Cs → Prop} (h : Post C W B σ (up r) K) : ∃ a cs, r = some (a, cs) ∧ K a cs := by
  cases r with
  | none => exact h.elim
  | some p => obtain ⟨a, cs⟩ := p; exact ⟨a, cs, rfl, h⟩
/-- the rest of an expression: from where its first part has come -/
theorem tE_of {me : ME} {B : Bs} {ι ι1 : List Addr} {G G1 H1 : Hp} {σ : St} {sl : Sl} {cs1 : Cs} {Q : VK} (R : Rel C B ι1 G1 H1 σ sl cs1) (h : Post C W B σ (me sl cs1) fun l cs' => ∀ v ι' G' H', Rel C B ι' G' H' σ sl cs' → Le ι1 G1 ι' G' → RepL C ι' G' v l → Q v H') : tE C W me σ H1 Q :=
  ⟨B, ι1, G1, sl, cs1, R, h⟩

/-! ### names, constants -/
def mVar (i : Nat) : ME := fun sl cs => match sl[i]? with
  | some (some l) => .ok l cs
  | _ => .bad
theorem we_var {X : Cx} {x : Str} {pos : Pos} (i : Nat) (hN : X.N[i]? = some x := by rfl) (hv : Vis X.env.scope x := by first | exact Or.inl rfl | exact Or.inr (Or.inl rfl) | exact Or.inr (Or.inr rfl)) (hd : (x == ("__debug__" : Str)) = false := by decide)
    (hcd : (x == ("__classdict__" : Str)) = false := by decide) : WE C W X (.Name x pos) (mVar i) := fun _ _ => (pe_var hN hv hd hcd).imp fun σ H Q h => by
  obtain ⟨B, ι, G, sl, cs, R, h⟩ := h
  unfold mVar at h
  cases e : sl[i]? with
  | none => rw [e] at h; exact h.elim
  | some o =>
    cases o with
    | none => rw [e] at h; exact h.elim
    | some l =>
      rw [e] at h
      obtain ⟨v, e1, r⟩ := R.slt i l e
      exact ⟨v, e1, h v ι G H R .refl r⟩
def mC (d : Dt) : ME := fun _ cs => .ok (.c d) cs
theorem we_c {X : Cx} {e : Expr} {v : V} {d : Dt} (h : PE X e (tC v)) (hd : ∀ G, Rep C G v d) : WE C W X e (mC d) := fun _ _ => h.imp fun σ H Q q => by
  obtain ⟨B, ι, G, sl, cs, R, q⟩ := q
  exact q v ι G H R .refl (hd G)
theorem we_int {X : Cx} {i : Int} {j pos} : WE C W X (.Constant (.int i) j pos) (mC (.int i)) := we_c pe_int fun _ => rep_int.mpr rfl
theorem we_bl {X : Cx} {b : Bool} {j pos} : WE C W X (.Constant (.bool b) j pos) (mC (.bl b)) := we_c pe_bl fun _ => rep_bl.mpr rfl
theorem we_non {X : Cx} {j pos} : WE C W X (.Constant .none j pos) (mC .non) := we_c pe_non fun _ => rep_non.mpr rfl
theorem we_str {X : Cx} {x : Str} {j pos} : WE C W X (.Constant (.str x) j pos) (mC (.str x)) := we_c pe_str fun _ => rep_str.mpr rfl
theorem we_ty {X : Cx} {x : Str} {n : String} {pos : Pos} (hg : Gl X x) (hm : X.mg x = none) (hv : bootBuiltins x = some (.type n)) (hn : x ≠ "__name__" := by decide) (hd : (x == ("__debug__" : Str)) = false := by decide) : WE C W X (.Name x pos) (mC (.ty n)) :=
  we_c (pe_bltn (v := .ty n) hg hm hv rfl hn hd) fun _ => rep_ty.mpr rfl
theorem we_cls {X : Cx} {x : Str} {c : Nat} {pos : Pos} (hg : Gl X x) (hm : X.mg x = some (.ref (C.cl c))) (hd : (x == ("__debug__" : Str)) = false := by decide) : WE C W X (.Name x pos) (mC (.cls c)) :=
  we_c (pe_glob (v := .ref (C.cl c)) hg hm rfl hd) fun _ => rep_cls.mpr rfl
theorem we_gint {X : Cx} {x : Str} {n : Int} {pos : Pos} (hg : Gl X x) (hm : ∃ t, X.mg x = some (.int n t)) (hd : (x == ("__debug__" : Str)) = false := by decide) : WE C W X (.Name x pos) (mC (.int n)) := by
  obtain ⟨t, e⟩ := hm
  exact we_c (pe_glob (v := .int n) hg e ⟨t, rfl⟩ hd) fun _ => rep_int.mpr rfl
theorem we_gstr {X : Cx} {x : Str} {n : Str} {pos : Pos} (hg : Gl X x) (hm : ∃ t, X.mg x = some (.str n t)) (hd : (x == ("__debug__" : Str)) = false := by decide) : WE C W X (.Name x pos) (mC (.str n)) := by
  obtain ⟨t, e⟩ := hm
  exact we_c (pe_glob (v := .str n) hg e ⟨t, rfl⟩ hd) fun _ => rep_str.mpr rfl

/-! ### operations by values -/
def O1 (C : Cn) (m : Lv → Cs → Option (Lv × Cs)) (r : V → Hp → VK → Prop) : Prop :=
  ∀ {B : Bs} {ι : List Addr} {G H : Hp} {σ : St} {sl : Sl} {cs cs' : Cs} {x : V} {lx l : Lv} {Q : VK}, Rel C B ι G H σ sl cs → RepL C ι G x lx → m lx cs = some (l, cs') →
    (∀ v ι' G' H', Rel C B ι' G' H' σ sl cs' → Le ι G ι' G' → RepL C ι' G' v l → Q v H') → r x H Q
def O2 (C : Cn) (m : Lv → Lv → Cs → Option (Lv × Cs)) (r : R2) : Prop :=
  ∀ {B : Bs} {ι : List Addr} {G H : Hp} {σ : St} {sl : Sl} {cs cs' : Cs} {x y : V} {lx ly l : Lv} {Q : VK}, Rel C B ι G H σ sl cs → RepL C ι G x lx → RepL C ι G y ly → m lx ly cs = some (l, cs') →
    (∀ v ι' G' H', Rel C B ι' G' H' σ sl cs' → Le ι G ι' G' → RepL C ι' G' v l → Q v H') → r x y H Q
def ON (C : Cn) (m : List Lv → Cs → Option (Lv × Cs)) (r : List V → Hp → VK → Prop) : Prop :=
  ∀ {B : Bs} {ι : List Addr} {G H : Hp} {σ : St} {sl : Sl} {cs cs' : Cs} {xs : List V} {ls : List Lv} {l : Lv} {Q : VK}, Rel C B ι G H σ sl cs → RepLs C ι G xs ls → m ls cs = some (l, cs') →
    (∀ v ι' G' H', Rel C B ι' G' H' σ sl cs' → Le ι G ι' G' → RepL C ι' G' v l → Q v H') → r xs H Q
def mOp1 (m : Lv → Cs → Option (Lv × Cs)) (ma : ME) : ME := fun sl cs => (ma sl cs).bind fun x cs1 => up (m x cs1)
def mOp2 (m : Lv → Lv → Cs → Option (Lv × Cs)) (ma mb : ME) : ME := fun sl cs => (ma sl cs).bind fun x cs1 => (mb sl cs1).bind fun y cs2 => up (m x y cs2)
def mOpN (m : List Lv → Cs → Option (Lv × Cs)) (ma : MA) : ME := fun sl cs => (ma sl cs).bind fun x cs1 => up (m x cs1)
theorem sim_op1 {m : Lv → Cs → Option (Lv × Cs)} {r : V → Hp → VK → Prop} {ma : ME} (hs : O1 C m r) {σ : St} {H : Hp} {Q : VK} (h : tE C W (mOp1 m ma) σ H Q) : tE C W ma σ H fun x H1 => r x H1 Q := by
  obtain ⟨B, ι, G, sl, cs, R, h⟩ := h
  refine ⟨B, ι, G, sl, cs, R, h.bind.mono fun l cs1 h1 x ι1 G1 H1 R1 e1 r1 => ?_⟩
  obtain ⟨l2, cs2, em, hq⟩ := h1.up
  exact hs R1 r1 em fun v ι' G' H' R' e' r' => hq v ι' G' H' R' (e1.trans e') r'
theorem sim_op2 {m : Lv → Lv → Cs → Option (Lv × Cs)} {r : R2} {ma mb : ME} (hs : O2 C m r) {σ : St} {H : Hp} {Q : VK} (h : tE C W (mOp2 m ma mb) σ H Q) : tOp r (tE C W ma) (tE C W mb) σ H Q := by
  obtain ⟨B, ι, G, sl, cs, R, h⟩ := h
  refine ⟨B, ι, G, sl, cs, R, h.bind.mono fun l cs1 h1 x ι1 G1 H1 R1 e1 r1 => ?_⟩
  refine ⟨B, ι1, G1, sl, cs1, R1, h1.bind.mono fun l2 cs2 h2 y ι2 G2 H2 R2 e2 r2 => ?_⟩
  obtain ⟨l3, cs3, em, hq⟩ := h2.up
  exact hs R2 (r1.mono e2) r2 em fun v ι' G' H' R' e' r' => hq v ι' G' H' R' ((e1.trans e2).trans e') r'
theorem sim_opN {m : List Lv → Cs → Option (Lv × Cs)} {r : List V → Hp → VK → Prop} {ma : MA} (hs : ON C m r) {σ : St} {H : Hp} {Q : VK} (h : tE C W (mOpN m ma) σ H Q) : tA C W ma σ H fun x H1 => r x H1 Q := by
  obtain ⟨B, ι, G, sl, cs, R, h⟩ := h
  refine ⟨B, ι, G, sl, cs, R, h.bind.mono fun l cs1 h1 x ι1 G1 H1 R1 e1 r1 => ?_⟩
  obtain ⟨l2, cs2, em, hq⟩ := h1.up
  exact hs R1 r1 em fun v ι' G' H' R' e' r' => hq v ι' G' H' R' (e1.trans e') r'
theorem O2.or {m m' : Lv → Lv → Cs → Option (Lv × Cs)} {r r' : R2} (h : O2 C m r) (h' : O2 C m' r') : O2 C (fun x y cs => (m x y cs).orElse fun _ => m' x y cs) (fun x y H Q => r x y H Q ∨ r' x y H Q) := by
  intro B ι G H σ sl cs cs' x y lx ly l Q R rx ry e k
  cases em : m lx ly cs with
  | some p =>
    simp only [em, Option.orElse, Option.some.injEq] at e
    subst e
    exact .inl (h R rx ry em k)
  | none =>
    simp only [em, Option.orElse] at e
    exact .inr (h' R rx ry e k)
theorem ON.or {m m' : List Lv → Cs → Option (Lv × Cs)} {r r' : List V → Hp → VK → Prop} (h : ON C m r) (h' : ON C m' r') : ON C (fun x cs => (m x cs).orElse fun _ => m' x cs) (fun x H Q => r x H Q ∨ r' x H Q) := by
  intro B ι G H σ sl cs cs' x lx l Q R rx e k
  cases em : m lx cs with
  | some p =>
    simp only [em, Option.orElse, Option.some.injEq] at e
    subst e
    exact .inl (h R rx em k)
  | none =>
    simp only [em, Option.orElse] at e
    exact .inr (h' R rx e k)
theorem we_op {X : Cx} {a b : Expr} {pos : Pos} {op : Operator} {r : R2} {m : Lv → Lv → Cs → Option (Lv × Cs)} {ma mb : ME} (ho : X.K = C.K → OpR X (binaryOp op) r) (hs : O2 C m r) (ha : WE C W X a ma) (hb : WE C W X b mb) : WE C W X (.BinOp a op b pos) (mOp2 m ma mb) :=
  fun hK hT => (pe_op (ho hK) (ha hK hT) (hb hK hT)).imp fun _ _ _ h => sim_op2 hs h
theorem we_un {X : Cx} {a : Expr} {pos : Pos} {op : UnaryOp} {r : V → Hp → VK → Prop} {m : Lv → Cs → Option (Lv × Cs)} {ma : ME} (ho : X.K = C.K → UnR X (unaryOp op) r) (hs : O1 C m r) (ha : WE C W X a ma) : WE C W X (.UnaryOp op a pos) (mOp1 m ma) :=
  fun hK hT => (pe_un (ho hK) (ha hK hT)).imp fun _ _ _ h => sim_op1 hs h
theorem we_cmp {X : Cx} {a b : Expr} {pos : Pos} {op : CmpOp} {r : R2} {m : Lv → Lv → Cs → Option (Lv × Cs)} {ma mb : ME} (ho : X.K = C.K → OpR X (compareOp op) r) (hs : O2 C m r) (ha : WE C W X a ma) (hb : WE C W X b mb) (hm : behindInMarks op b = false := by rfl) : WE C W X (.Compare a [op] [b] pos) (mOp2 m ma mb) :=
  fun hK hT => (pe_cmpR (ho hK) (ha hK hT) (hb hK hT) hm).imp fun _ _ _ h => sim_op2 hs h
theorem we_ix {X : Cx} {a b : Expr} {pos : Pos} {r : R2} {m : Lv → Lv → Cs → Option (Lv × Cs)} {ma mb : ME} (ho : X.K = C.K → IxR X r) (hs : O2 C m r) (ha : WE C W X a ma) (hb : WE C W X b mb) (hp : PlainIx b := by intro _ _; rfl) : WE C W X (.Subscript a b pos) (mOp2 m ma mb) :=
  fun hK hT => (pe_ix (ho hK) (ha hK hT) (hb hK hT) hp).imp fun _ _ _ h => sim_op2 hs h

/-! ### argument lists, displays -/
def mNil : MA := fun _ cs => .ok [] cs
def mCons (ma : ME) (mr : MA) : MA := fun sl cs => (ma sl cs).bind fun x cs1 => (mr sl cs1).bind fun xs cs2 => .ok (x :: xs) cs2
theorem wa_nil {X : Cx} : WA C W X [] mNil := fun _ _ => pa_nil.imp fun σ H Q h => by
  obtain ⟨B, ι, G, sl, cs, R, h⟩ := h
  exact h [] ι G H R .refl rfl
theorem wa_cons {X : Cx} {e : Expr} {es : List Expr} {ma : ME} {mr : MA} (ha : WE C W X e ma) (hr : WA C W X es mr) (hs : starEach (e :: es) X.env = (false, eval e X.env) :: starEach es X.env := by rfl) : WA C W X (e :: es) (mCons ma mr) :=
  fun hK hT => (pa_cons (ha hK hT) (hr hK hT) hs).imp fun σ H Q h => by
  obtain ⟨B, ι, G, sl, cs, R, h⟩ := h
  refine ⟨B, ι, G, sl, cs, R, h.bind.mono fun l cs1 h1 x ι1 G1 H1 R1 e1 r1 => ?_⟩
  refine ⟨B, ι1, G1, sl, cs1, R1, h1.bind.mono fun l2 cs2 h2 y ι2 G2 H2 R2 e2 r2 => ?_⟩
  exact h2 _ _ _ _ R2 (e1.trans e2) ⟨x, y, rfl, r1.mono e2, r2⟩
theorem we_callB {X : Cx} {x : Str} {id : String} {p pos : Pos} {e : Expr} {es : List Expr} {r : List V → Hp → VK → Prop} {m : List Lv → Cs → Option (Lv × Cs)} {ma : MA} (hc : X.K = C.K → CallR X (.builtin id) r) (hs : ON C m r) (hg : Gl X x) (hm : X.mg x = none) (hv : bootBuiltins x = some (.builtin id))
    (ha : WA C W X (e :: es) ma) (hn : x ≠ "__name__" := by decide) (hdb : (x == ("__debug__" : Str)) = false := by decide) (he : starEach (e :: es) X.env = (false, eval e X.env) :: starEach es X.env := by rfl) (hpl : (backTo pos (starEach es X.env)).any (·.1) = false := by rfl) :
    WE C W X (.Call (.Name x p) (e :: es) [] pos) (mOpN m ma) := fun hK hT => (pe_callB (hc hK) hg hm hv (ha hK hT) hn hdb he hpl).imp fun _ _ _ h => sim_opN hs h
theorem we_callTy {X : Cx} {x : Str} {T : String} {p pos : Pos} {e : Expr} {es : List Expr} {r : List V → Hp → VK → Prop} {m : List Lv → Cs → Option (Lv × Cs)} {ma : MA} (hc : X.K = C.K → CallR X (.type T) r) (hs : ON C m r) (hg : Gl X x) (hm : X.mg x = none) (hv : bootBuiltins x = some (.type T))
    (ha : WA C W X (e :: es) ma) (hn : x ≠ "__name__" := by decide) (hdb : (x == ("__debug__" : Str)) = false := by decide) (he : starEach (e :: es) X.env = (false, eval e X.env) :: starEach es X.env := by rfl) (hpl : (backTo pos (starEach es X.env)).any (·.1) = false := by rfl) :
    WE C W X (.Call (.Name x p) (e :: es) [] pos) (mOpN m ma) := fun hK hT => (pe_callTy (hc hK) hg hm hv (ha hK hT) hn hdb he hpl).imp fun _ _ _ h => sim_opN hs h
end
end Mi

set_option Elab.async false
set_option linter.all false
set_option maxRecDepth 100000
set_option maxHeartbeats 4000000
namespace Mi
open PySem L2
section
variable {C : Cn} {W : WX}
/-! ### tests -/
def isB : Lv → Cs → Option (Bool × Cs)
  | .c (.bl b), cs => some (b, cs)
  | _, _ => none
def mTst (me : ME) : MT := fun sl cs => (me sl cs).bind fun l cs1 => up (isB l cs1)
theorem isB_inv {l : Lv} {cs cs' : Cs} {b : Bool} (h : isB l cs = some (b, cs')) : l = .c (.bl b) ∧ cs' = cs := by
  unfold isB at h
  split at h
  · simp at h; obtain ⟨rfl, rfl⟩ := h; exact ⟨rfl, rfl⟩
  · cases h
theorem sim_tst {me : ME} {σ : St} {H : Hp} {Q : Bool → Hp → Prop} (h : tT C W (mTst me) σ H Q) : tE C W me σ H fun x H' => ∃ k, x = .bl k ∧ Q k H' := by
  obtain ⟨B, ι, G, sl, cs, R, h⟩ := h
  refine ⟨B, ι, G, sl, cs, R, h.bind.mono fun l cs1 h1 x ι1 G1 H1 R1 e1 r1 => ?_⟩
  obtain ⟨b, cs2, em, hq⟩ := h1.up
  obtain ⟨rfl, rfl⟩ := isB_inv em
  exact ⟨b, repL_bl r1, hq _ _ _ R1 e1⟩
theorem wt_cmp {X : Cx} {a b : Expr} {pos : Pos} {op : CmpOp} {r : R2} {m : Lv → Lv → Cs → Option (Lv × Cs)} {ma mb : ME} (ho : X.K = C.K → OpR X (compareOp op) r) (hs : O2 C m r) (ha : WE C W X a ma) (hb : WE C W X b mb) (hm : behindInMarks op b = false := by rfl) : WT C W X (.Compare a [op] [b] pos) (mTst (mOp2 m ma mb)) :=
  fun hK hT => (pt_cmpR (ho hK) (ha hK hT) (hb hK hT) hm).imp fun _ _ _ h => sim_op2 hs (sim_tst h)
def mChain (m m' : Lv → Lv → Cs → Option (Lv × Cs)) (ma mb mc : ME) : ME := fun sl cs => (ma sl cs).bind fun x cs1 => (mb sl cs1).bind fun y cs2 => (up (m x y cs2)).bind fun z cs3 => (up (isB z cs3)).bind fun k cs4 =>
  if k = true then (mc sl cs4).bind fun w cs5 => up (m' y w cs5) else .ok (.c (.bl false)) cs4
theorem sim_chain {m m' : Lv → Lv → Cs → Option (Lv × Cs)} {r r' : R2} {ma mb mc : ME} (hs : O2 C m r) (hs' : O2 C m' r') {σ : St} {H : Hp} {Q : VK} (h : tE C W (mChain m m' ma mb mc) σ H Q) : tChain r r' (tE C W ma) (tE C W mb) (tE C W mc) σ H Q := by
  obtain ⟨B, ι, G, sl, cs, R, h⟩ := h
  refine ⟨B, ι, G, sl, cs, R, h.bind.mono fun l cs1 h1 x ι1 G1 H1 R1 e1 r1 => ?_⟩
  refine ⟨B, ι1, G1, sl, cs1, R1, h1.bind.mono fun l2 cs2 h2 y ι2 G2 H2 R2 e2 r2 => ?_⟩
  obtain ⟨l3, cs3, em, hq⟩ := h2.bind.up
  refine hs R2 (r1.mono e2) r2 em fun v ι3 G3 H3 R3 e3 r3 => ?_
  obtain ⟨k, cs4, eb, hk⟩ := hq.bind.up
  obtain ⟨rfl, rfl⟩ := isB_inv eb
  refine ⟨k, repL_bl r3, ?_⟩
  cases k with
  | false => exact hk _ _ _ _ R3 ((e1.trans e2).trans e3) mk_bl
  | true =>
    refine ⟨B, ι3, G3, sl, _, R3, (Post.bind hk).mono fun l5 cs5 h5 w ι5 G5 H5 R5 e5 r5 => ?_⟩
    obtain ⟨l6, cs6, em', hq'⟩ := h5.up
    exact hs' R5 (r2.mono (e3.trans e5)) r5 em' fun v ι' G' H' R' e' r' => hq' v ι' G' H' R' (((((e1.trans e2).trans e3)).trans e5).trans e') r'
theorem we_chain {X : Cx} {a b c : Expr} {pos : Pos} {op op' : CmpOp} {r r' : R2} {m m' : Lv → Lv → Cs → Option (Lv × Cs)} {ma mb mc : ME} (ho : X.K = C.K → OpR X (compareOp op) r) (hs : O2 C m r) (ho' : X.K = C.K → OpR X (compareOp op') r') (hs' : O2 C m' r') (ha : WE C W X a ma) (hb : WE C W X b mb) (hc : WE C W X c mc)
    (hm : lastMarks [op, op'] [b, c] = false := by with_unfolding_all rfl) : WE C W X (.Compare a [op, op'] [b, c] pos) (mChain m m' ma mb mc) :=
  fun hK hT => (pe_chain (ho hK) (ho' hK) (ha hK hT) (hb hK hT) (hc hK hT) hm).imp fun _ _ _ h => sim_chain hs hs' h
theorem wt_chain {X : Cx} {a b c : Expr} {pos : Pos} {op op' : CmpOp} {r r' : R2} {m m' : Lv → Lv → Cs → Option (Lv × Cs)} {ma mb mc : ME} (ho : X.K = C.K → OpR X (compareOp op) r) (hs : O2 C m r) (ho' : X.K = C.K → OpR X (compareOp op') r') (hs' : O2 C m' r') (ha : WE C W X a ma) (hb : WE C W X b mb) (hc : WE C W X c mc)
    (hm : lastMarks [op, op'] [b, c] = false := by with_unfolding_all rfl) : WT C W X (.Compare a [op, op'] [b, c] pos) (mTst (mChain m m' ma mb mc)) :=
  fun hK hT => (pt_chain (ho hK) (ho' hK) (ha hK hT) (hb hK hT) (hc hK hT) hm).imp fun _ _ _ h => sim_chain hs hs' (sim_tst h)
/-- a list's, a tuple's items -/
def view (cs : Cs) : Lv → Option (List Lv)
  | .c (.tup xs) => some (xs.map .c)
  | .c (.lst xs) => some (xs.map .c)
  | .c (.scr ns) => some (ns.map fun n => .c (.int n))
  | .p n => match cs[n]? with
    | some (.lst xs) => some (xs.map .c)
    | some (.pl ns) => some (ns.map .p)
    | some (.fz (.lst xs)) => some (xs.map .c)
    | _ => none
  | _ => none
/-- the pairs of values and places -/
theorem RepLs.length {ι : List Addr} {G : Hp} : ∀ {ls : List Lv} {vs : List V}, RepLs C ι G vs ls → vs.length = ls.length
  | [], _, h => by unfold RepLs at h; rw [h]; rfl
  | _ :: _, _, ⟨v, r, h1, h2, h3⟩ => by rw [h1, List.length_cons, List.length_cons, h3.length]
theorem RepLs.get {ι : List Addr} {G : Hp} : ∀ {ls : List Lv} {vs : List V} {i : Nat} {l : Lv}, RepLs C ι G vs ls → ls[i]? = some l → ∃ v, vs[i]? = some v ∧ RepL C ι G v l
  | [], _, _, _, _, e => by simp at e
  | x :: _, _, 0, l, ⟨v, r, h1, h2, h3⟩, e => by
    simp at e; subst e; subst h1
    exact ⟨v, rfl, h2⟩
  | _ :: _, _, i + 1, l, ⟨v, r, h1, h2, h3⟩, e => by
    subst h1
    exact RepLs.get (i := i) h3 (by simpa using e)
theorem repLs_c {ι : List Addr} {G : Hp} : ∀ {ds : List Dt} {vs : List V}, Reps C G vs ds → RepLs C ι G vs (ds.map .c)
  | [], vs, h => reps_nil.mp h
  | d :: ds, vs, h => by
    obtain ⟨v, r, rfl, h2, h3⟩ := reps_cons.mp h
    exact ⟨v, r, rfl, h2, repLs_c h3⟩
theorem of_repLs_c {ι : List Addr} {G : Hp} : ∀ {ds : List Dt} {vs : List V}, RepLs C ι G vs (ds.map .c) → Reps C G vs ds
  | [], vs, h => reps_nil.mpr h
  | d :: ds, vs, ⟨v, r, h1, h2, h3⟩ => by
    subst h1
    exact Reps.cons h2 (of_repLs_c h3)
theorem repLs_p {ι : List Addr} {G : Hp} : ∀ {ns : List Nat} {as : List Addr}, as.length = ns.length → (∀ (i n : Nat), ns[i]? = some n → ∃ b, ι[n]? = some b ∧ as[i]? = some b) → RepLs C ι G (as.map V.ref) (ns.map .p)
  | [], [], _, _ => rfl
  | n :: ns, a :: as, hl, h => by
    obtain ⟨b, h1, h2⟩ := h 0 n rfl
    simp at h2; subst h2
    exact ⟨.ref a, as.map V.ref, rfl, ⟨a, h1, rfl⟩, repLs_p (by simpa using hl) fun i m e => h (i + 1) m (by simpa using e)⟩
  | [], _ :: _, hl, _ => by simp at hl
  | _ :: _, [], hl, _ => by simp at hl
/-- what is read of it in the heap -/
def SqK (K : PySem.W.Frag) (l : Lv) (H : Hp) (a : Addr) (vs : List V) : Prop := match l with
  | .c (.tup _) => SqT K H a vs
  | _ => SqL K H a vs
theorem SqK.or {K : PySem.W.Frag} {l : Lv} {H : Hp} {a : Addr} {vs : List V} (h : SqK K l H a vs) : SqL K H a vs ∨ SqT K H a vs := by
  unfold SqK at h
  split at h
  · exact .inr h
  · exact .inl h
/-- what a view says -/
theorem view_ok {B : Bs} {ι : List Addr} {G H : Hp} {σ : St} {sl : Sl} {cs : Cs} {v : V} {l : Lv} {ls : List Lv} (R : Rel C B ι G H σ sl cs) (r : RepL C ι G v l) (h : view cs l = some ls) :
    ∃ a vs, v = .ref a ∧ SqK C.K l H a vs ∧ RepLs C ι G vs ls := by
  cases l with
  | c d =>
    cases d with
    | tup xs =>
      simp [view] at h; subst h
      obtain ⟨a, vs, rfl, h2, h3⟩ := repL_tup r
      exact ⟨a, vs, rfl, SqT.of (R.hG _ _ h2), repLs_c h3⟩
    | lst xs =>
      simp [view] at h; subst h
      obtain ⟨a, vs, rfl, h2, h3⟩ := repL_lst r
      exact ⟨a, vs, rfl, SqL.of (R.hG _ _ h2), repLs_c h3⟩
    | scr ns =>
      simp [view] at h; subst h
      obtain ⟨a, rfl, h2⟩ := repL_scr r
      refine ⟨a, ns.map V.int, rfl, R.hG.seq h2, ?_⟩
      have e : ns.map (fun n => Lv.c (.int n)) = (ns.map Dt.int).map .c := by simp
      rw [e]
      exact repLs_c Reps.of_ints
    | _ => simp [view] at h
  | p n =>
    obtain ⟨a, h1, rfl⟩ := r
    unfold view at h
    have hn : n < cs.length := by rw [← R.cl]; exact (List.getElem?_eq_some_iff.mp h1).1
    obtain ⟨c, hc⟩ : ∃ c, cs[n]? = some c := ⟨cs[n], by simp [hn]⟩
    have cr := R.cr n a c h1 hc
    simp only [hc] at h
    cases c with
    | lst xs =>
      simp at h; subst h
      obtain ⟨_, vs, h2, h3⟩ := cr
      exact ⟨a, vs, rfl, SqL.of h2, repLs_c h3⟩
    | pl ns =>
      simp at h; subst h
      obtain ⟨_, as, h2, h3, h4⟩ := cr
      exact ⟨a, _, rfl, SqL.of h2, repLs_p h3 h4⟩
    | fz d =>
      cases d with
      | lst xs =>
        simp at h; subst h
        obtain ⟨a', vs, e, h2, h3⟩ := rep_lst.mp cr
        cases e
        exact ⟨a, vs, rfl, SqL.of (R.hG _ _ h2), repLs_c h3⟩
      | _ => simp at h
    | _ => simp at h
/-- a value's truth -/
def truOf (l : Lv) (cs : Cs) : Option (Bool × Cs) := match l with
  | .c .non => some (false, cs)
  | .c (.bl b) => some (b, cs)
  | .c (.int i) => some (i != 0, cs)
  | .c (.str x) => if x.length ≤ sizeLine then some ((x.length : Int) != 0, cs) else none
  | l => (view cs l).map fun ls => (!ls.isEmpty, cs)
def mTru (me : ME) : MT := fun sl cs => (me sl cs).bind fun l cs1 => up (truOf l cs1)
theorem isEmpty_eq {α β : Type} {xs : List α} {ys : List β} (h : xs.length = ys.length) : xs.isEmpty = ys.isEmpty := by
  cases xs <;> cases ys <;> simp_all
theorem tru_view {B : Bs} {ι : List Addr} {G H : Hp} {σ : St} {sl : Sl} {cs cs' : Cs} {v : V} {l : Lv} {b : Bool} (R : Rel C B ι G H σ sl cs) (r : RepL C ι G v l) (h : ((view cs l).map fun ls => (!ls.isEmpty, cs)) = some (b, cs')) : cs' = cs ∧ TruV C.K v H b := by
  cases e : view cs l with
  | none => rw [e] at h; simp at h
  | some ls =>
    rw [e] at h
    simp at h
    obtain ⟨h1, h2⟩ := h
    obtain ⟨a, vs, rfl, hs, hr⟩ := view_ok R r e
    have hb : b = !vs.isEmpty := by rw [isEmpty_eq hr.length, h1, Bool.not_not]
    refine ⟨h2.symm, ?_⟩
    rcases hs.or with hs | hs
    · exact .inl ⟨vs, hs, hb⟩
    · exact .inr (.inl ⟨vs, hs, hb⟩)
theorem truOf_ok {B : Bs} {ι : List Addr} {G H : Hp} {σ : St} {sl : Sl} {cs cs' : Cs} {v : V} {l : Lv} {b : Bool} (R : Rel C B ι G H σ sl cs) (r : RepL C ι G v l) (h : truOf l cs = some (b, cs')) : cs' = cs ∧ TruV C.K v H b := by
  unfold truOf at h
  split at h
  · simp at h; obtain ⟨rfl, rfl⟩ := h
    exact ⟨rfl, by rw [repL_non r]; rfl⟩
  · simp at h; obtain ⟨rfl, rfl⟩ := h
    exact ⟨rfl, by rw [repL_bl r]; rfl⟩
  · simp at h; obtain ⟨rfl, rfl⟩ := h
    exact ⟨rfl, by rw [repL_int r]; rfl⟩
  · split at h
    · rename_i hz
      simp at h; obtain ⟨rfl, rfl⟩ := h
      exact ⟨rfl, by rw [repL_str r]; exact ⟨hz, rfl⟩⟩
    · cases h
  · exact tru_view R r h
theorem wt_tru {X : Cx} {a : Expr} {ma : ME} (ha : WE C W X a ma) (he : ∀ whole, isTrue a X.env whole = (do let v ← whole; standAt a.pos; holding [v] (truthy v)) := by intro _; rfl) : WT C W X a (mTru ma) := fun hK hT => (pt_truth (ha hK hT) he).imp fun σ H Q h => by
  obtain ⟨B, ι, G, sl, cs, R, h⟩ := h
  refine ⟨B, ι, G, sl, cs, R, h.bind.mono fun l cs1 h1 x ι1 G1 H1 R1 e1 r1 => ?_⟩
  obtain ⟨b, cs2, em, hq⟩ := h1.up
  obtain ⟨rfl, ht⟩ := truOf_ok R1 r1 em
  exact ⟨b, by rw [hK]; exact ht, hq _ _ _ R1 e1⟩
/-! ### and, or, not -/
def mAnd (a b : MT) : MT := fun sl cs => (a sl cs).bind fun k cs1 => if k = true then b sl cs1 else .ok false cs1
def mOr (a b : MT) : MT := fun sl cs => (a sl cs).bind fun k cs1 => if k = true then .ok true cs1 else b sl cs1
def mNot (a : MT) : MT := fun sl cs => (a sl cs).bind fun k cs1 => .ok (!k) cs1
theorem sim_bool {a : MT} (f : Sl → Bool → Cs → Res Bool) {σ : St} {H : Hp} {Q : Bool → Hp → Prop} {R2 : Bool → Hp → Prop} (h : tT C W (fun sl cs => (a sl cs).bind (f sl)) σ H Q)
    (k : ∀ B ι G H sl cs b, Rel C B ι G H σ sl cs → Post C W B σ (f sl b cs) (fun b cs' => ∀ ι' G' H', Rel C B ι' G' H' σ sl cs' → Le ι G ι' G' → Q b H') → R2 b H) : tT C W a σ H R2 := by
  obtain ⟨B, ι, G, sl, cs, R, h⟩ := h
  refine ⟨B, ι, G, sl, cs, R, h.bind.mono fun b cs1 h1 ι1 G1 H1 R1 e1 => ?_⟩
  exact k B ι1 G1 H1 sl cs1 b R1 (h1.mono fun b2 cs2 q ι' G' H' R' e' => q ι' G' H' R' (e1.trans e'))
theorem ww_and1 {X : Cx} {a : Expr} {pos : Pos} {ma : MT} (ha : WT C W X a ma) : WW C W X (.BoolOp .And [a] pos) ma := fun hK hT => pw_and1 (ha hK hT)
theorem ww_or1 {X : Cx} {a : Expr} {pos : Pos} {ma : MT} (ha : WT C W X a ma) : WW C W X (.BoolOp .Or [a] pos) ma := fun hK hT => pw_or1 (ha hK hT)
theorem ww_and {X : Cx} {a b : Expr} {rest : List Expr} {pos : Pos} {ma mb : MT} (ha : WT C W X a ma) (hb : WW C W X (.BoolOp .And (b :: rest) pos) mb) : WW C W X (.BoolOp .And (a :: b :: rest) pos) (mAnd ma mb) := fun hK hT => (pw_and (ha hK hT) (hb hK hT)).imp fun σ H Q h =>
  sim_bool (a := ma) (fun sl k cs1 => if k = true then mb sl cs1 else .ok false cs1) h fun B ι G H sl cs b R q => by
    cases b with
    | true => exact ⟨B, ι, G, sl, cs, R, q⟩
    | false => exact q _ _ _ R .refl
theorem ww_or {X : Cx} {a b : Expr} {rest : List Expr} {pos : Pos} {ma mb : MT} (ha : WT C W X a ma) (hb : WW C W X (.BoolOp .Or (b :: rest) pos) mb) : WW C W X (.BoolOp .Or (a :: b :: rest) pos) (mOr ma mb) := fun hK hT => (pw_or (ha hK hT) (hb hK hT)).imp fun σ H Q h =>
  sim_bool (a := ma) (fun sl k cs1 => if k = true then .ok true cs1 else mb sl cs1) h fun B ι G H sl cs b R q => by
    cases b with
    | false => exact ⟨B, ι, G, sl, cs, R, q⟩
    | true => exact q _ _ _ R .refl
theorem wt_w {X : Cx} {a : Expr} {ma : MT} (h : WW C W X a ma) : WT C W X a ma := fun hK hT => (h hK hT).pt
theorem wt_not {X : Cx} {a : Expr} {pos : Pos} {ma : MT} (ha : WT C W X a ma) : WT C W X (.UnaryOp .Not a pos) (mNot ma) := fun hK hT => (pt_not (ha hK hT)).imp fun σ H Q h =>
  sim_bool (a := ma) (fun sl k cs1 => .ok (!k) cs1) h fun B ι G H sl cs b R q => q _ _ _ R .refl
/-- values: bools -/
def mAndV (a b : ME) : ME := fun sl cs => (a sl cs).bind fun l cs1 => (up (isB l cs1)).bind fun k cs2 => if k = true then b sl cs2 else .ok (.c (.bl false)) cs2
def mOrV (a b : ME) : ME := fun sl cs => (a sl cs).bind fun l cs1 => (up (isB l cs1)).bind fun k cs2 => if k = true then .ok (.c (.bl true)) cs2 else b sl cs2
def mNotV (a : ME) : ME := fun sl cs => (a sl cs).bind fun l cs1 => (up (isB l cs1)).bind fun k cs2 => .ok (.c (.bl (!k))) cs2
theorem sim_boolV {a : ME} (f : Sl → Bool → Cs → Res Lv) {σ : St} {H : Hp} {Q R2 : VK} (h : tE C W (fun sl cs => (a sl cs).bind fun l cs1 => (up (isB l cs1)).bind (f sl)) σ H Q)
    (k : ∀ B ι G H sl cs b, Rel C B ι G H σ sl cs → Post C W B σ (f sl b cs) (fun l cs' => ∀ v ι' G' H', Rel C B ι' G' H' σ sl cs' → Le ι G ι' G' → RepL C ι' G' v l → Q v H') → R2 (.bl b) H) : tE C W a σ H R2 := by
  obtain ⟨B, ι, G, sl, cs, R, h⟩ := h
  refine ⟨B, ι, G, sl, cs, R, h.bind.mono fun l cs1 h1 v ι1 G1 H1 R1 e1 r1 => ?_⟩
  obtain ⟨b, cs2, eb, hk⟩ := h1.bind.up
  obtain ⟨rfl, rfl⟩ := isB_inv eb
  rw [repL_bl r1]
  exact k B ι1 G1 H1 sl _ b R1 (Post.mono hk fun b2 cs2 q v ι' G' H' R' e' r' => q v ι' G' H' R' (e1.trans e') r')
theorem we_one {X : Cx} {a : Expr} {op} {pos : Pos} {ma : ME} (ha : WE C W X a ma) : WE C W X (.BoolOp op [a] pos) ma := fun hK hT => pe_one (ha hK hT)
theorem we_and {X : Cx} {a b : Expr} {rest : List Expr} {pos : Pos} {ma mb : ME} (ha : WE C W X a ma) (hb : WE C W X (.BoolOp .And (b :: rest) pos) mb) : WE C W X (.BoolOp .And (a :: b :: rest) pos) (mAndV ma mb) := fun hK hT => (pe_and (ha hK hT) (hb hK hT)).imp fun σ H Q h =>
  sim_boolV (a := ma) (fun sl k cs2 => if k = true then mb sl cs2 else .ok (.c (.bl false)) cs2) h fun B ι G H sl cs b R q => ⟨b, rfl, by
    cases b with
    | true => exact ⟨B, ι, G, sl, cs, R, q⟩
    | false => exact q _ _ _ _ R .refl mk_bl⟩
theorem we_or {X : Cx} {a b : Expr} {rest : List Expr} {pos : Pos} {ma mb : ME} (ha : WE C W X a ma) (hb : WE C W X (.BoolOp .Or (b :: rest) pos) mb) : WE C W X (.BoolOp .Or (a :: b :: rest) pos) (mOrV ma mb) := fun hK hT => (pe_or (ha hK hT) (hb hK hT)).imp fun σ H Q h =>
  sim_boolV (a := ma) (fun sl k cs2 => if k = true then .ok (.c (.bl true)) cs2 else mb sl cs2) h fun B ι G H sl cs b R q => ⟨b, rfl, by
    cases b with
    | false => exact ⟨B, ι, G, sl, cs, R, q⟩
    | true => exact q _ _ _ _ R .refl mk_bl⟩
theorem we_not {X : Cx} {a : Expr} {pos : Pos} {ma : ME} (ha : WE C W X a ma) : WE C W X (.UnaryOp .Not a pos) (mNotV ma) := fun hK hT => (pe_not (ha hK hT)).imp fun σ H Q h =>
  sim_boolV (a := ma) (fun sl k cs2 => .ok (.c (.bl (!k))) cs2) h fun B ι G H sl cs b R q => ⟨b, rfl, q _ _ _ _ R .refl mk_bl⟩
def mIfE (t : MT) (a b : ME) : ME := fun sl cs => (t sl cs).bind fun k cs1 => if k = true then a sl cs1 else b sl cs1
theorem we_if {X : Cx} {c a b : Expr} {pos : Pos} {mt : MT} {ma mb : ME} (hc : WT C W X c mt) (ha : WE C W X a ma) (hb : WE C W X b mb) : WE C W X (.IfExp c a b pos) (mIfE mt ma mb) := fun hK hT => (pe_ifExp (hc hK hT) (ha hK hT) (hb hK hT)).imp fun σ H Q h => by
  obtain ⟨B, ι, G, sl, cs, R, h⟩ := h
  refine ⟨B, ι, G, sl, cs, R, h.bind.mono fun k cs1 h1 ι1 G1 H1 R1 e1 => ?_⟩
  cases k with
  | true => exact ⟨B, ι1, G1, sl, cs1, R1, Post.mono h1 fun l cs2 q v ι' G' H' R' e' r' => q v ι' G' H' R' (e1.trans e') r'⟩
  | false => exact ⟨B, ι1, G1, sl, cs1, R1, Post.mono h1 fun l cs2 q v ι' G' H' R' e' r' => q v ι' G' H' R' (e1.trans e') r'⟩

/-! ### statements -/
/-- what comes behind a statement that goes on -/
def Res.then (r : Res Fl) (f : Sl → Cs → Res Fl) : Res Fl := match r with
  | .ok (.nx sl) cs => f sl cs
  | r => r
theorem PostS.weak {B : Bs} {ι ι1 : List Addr} {G G1 : Hp} {D : Ends} {r : Res Fl} (e : Le ι G ι1 G1) (h : PostS C W B ι G D r) : PostS C W B ι1 G1 D r := by
  unfold PostS at h ⊢
  split at h
  · exact fun σ' ι' G' H' R' e' => h σ' ι' G' H' R' (e.trans e')
  · exact fun v σ' sl' ι' G' H' R' e' => h v σ' sl' ι' G' H' R' (e.trans e')
  · exact fun σ' ι' G' H' R' e' => h σ' ι' G' H' R' (e.trans e')
  · exact fun σ' ι' G' H' R' e' => h σ' ι' G' H' R' (e.trans e')
  · exact h
  · exact h
/-- a result of a part is a part of the result -/
theorem PostS.bind {α : Type} {B : Bs} {ι : List Addr} {G : Hp} {D : Ends} {σ : St} {r : Res α} {f : α → Cs → Res Fl} (h : PostS C W B ι G D (r.bind f)) : Post C W B σ r fun a cs => PostS C W B ι G D (f a cs) := by
  cases r with
  | ok a cs => exact h
  | exc e sl cs => exact fun ι' G' H' cls d R x => h σ ι' G' H' cls d R x
  | bad => exact h
def mSeq (a b : MS) : MS := fun sl cs => (a sl cs).then b
def mPass : MS := fun sl cs => .ok (.nx sl) cs
theorem wss_nil {X : Cx} : WSs C W X [] mPass := fun _ _ _ => pss_nil.imp fun D σ H h => by
  obtain ⟨B, ι, G, sl, cs, R, h⟩ := h
  exact h σ ι G H R .refl
theorem sim_seq {ma mb : MS} {D : Ends} {σ : St} {H : Hp} (h : tS C W (mSeq ma mb) D σ H) : tSeq (tS C W ma) (tS C W mb) D σ H := by
  obtain ⟨B, ι, G, sl, cs, R, h⟩ := h
  refine ⟨B, ι, G, sl, cs, R, ?_⟩
  unfold mSeq Res.then at h
  unfold PostS
  split at h
  · rename_i sl1 cs1 e
    rw [e]
    exact fun σ' ι' G' H' R' e' => ⟨B, ι', G', sl1, cs1, R', PostS.weak e' h⟩
  · rename_i r hr
    generalize ma sl cs = q at h hr ⊢
    cases q with
    | ok f cs1 =>
      cases f with
      | nx sl1 => exact absurd rfl (hr sl1 cs1)
      | _ => exact h
    | _ => exact h
theorem wss_cons {X : Cx} {st : Stmt} {rest : List Stmt} {ma mb : MS} (ha : WS C W X st ma) (hb : WSs C W X rest mb) : WSs C W X (st :: rest) (mSeq ma mb) := fun hK hT hP => (pss_cons (ha hK hT hP) (hb hK hT hP)).imp fun _ _ _ h => sim_seq h
theorem wss_one {X : Cx} {st : Stmt} {ma : MS} (ha : WS C W X st ma) : WSs C W X [st] ma := fun hK hT hP => pss_one (ha hK hT hP)
theorem ws_pass {X : Cx} {pos : Pos} : WS C W X (.Pass pos) mPass := fun _ _ _ => ps_pass.imp fun D σ H h => by
  obtain ⟨B, ι, G, sl, cs, R, h⟩ := h
  exact h σ ι G H R .refl
def mBrk : MS := fun sl cs => .ok (.bk sl) cs
def mCnt : MS := fun sl cs => .ok (.ct sl) cs
theorem ws_brk {X : Cx} {pos : Pos} : WS C W X (.Break pos) mBrk := fun _ _ _ => ps_break.imp fun D σ H h => by
  obtain ⟨B, ι, G, sl, cs, R, h⟩ := h
  exact h σ ι G H R .refl
theorem ws_cnt {X : Cx} {pos : Pos} : WS C W X (.Continue pos) mCnt := fun _ _ _ => ps_continue.imp fun D σ H h => by
  obtain ⟨B, ι, G, sl, cs, R, h⟩ := h
  exact h σ ι G H R .refl
/-- code that is never come to -/
def mNever : MS := fun _ _ => .bad
theorem ws_never {X : Cx} {st : Stmt} : WS C W X st mNever := fun _ _ _ => ps_never.imp fun D σ H h => by
  obtain ⟨B, ι, G, sl, cs, R, h⟩ := h
  exact h
def mIf (t : MT) (a b : MS) : MS := fun sl cs => (t sl cs).bind fun k cs1 => if k = true then a sl cs1 else b sl cs1
theorem ws_if {X : Cx} {c : Expr} {a b : List Stmt} {pos : Pos} {mt : MT} {ma mb : MS} (hc : WT C W X c mt) (ha : WSs C W X a ma) (hb : WSs C W X b mb) : WS C W X (.If c a b pos) (mIf mt ma mb) := fun hK hT hP => (ps_if (hc hK hT) (ha hK hT hP) (hb hK hT hP)).imp fun D σ H h => by
  obtain ⟨B, ι, G, sl, cs, R, h⟩ := h
  refine ⟨B, ι, G, sl, cs, R, (PostS.bind h).mono fun k cs1 h1 ι1 G1 H1 R1 e1 => ?_⟩
  cases k with
  | true => exact ⟨B, ι1, G1, sl, cs1, R1, PostS.weak e1 h1⟩
  | false => exact ⟨B, ι1, G1, sl, cs1, R1, PostS.weak e1 h1⟩
def mDrop (a : ME) : MS := fun sl cs => (a sl cs).bind fun _ cs1 => .ok (.nx sl) cs1
theorem ws_expr {X : Cx} {e : Expr} {pos : Pos} {ma : ME} (ha : WE C W X e ma) (hs : swapsWith e none pos.line X.env = pure false := by rfl) : WS C W X (.Expr e pos) (mDrop ma) := fun hK hT hP => (ps_expr (ha hK hT) hs).imp fun D σ H h => by
  obtain ⟨B, ι, G, sl, cs, R, h⟩ := h
  exact ⟨B, ι, G, sl, cs, R, (PostS.bind h).mono fun l cs1 h1 v ι1 G1 H1 R1 e1 r1 => h1 σ ι1 G1 H1 R1 e1⟩
def mRet (a : ME) : MS := fun sl cs => (a sl cs).bind fun l cs1 => .ok (.rt l) cs1
theorem ws_ret {X : Cx} {e : Expr} {pos : Pos} {ma : ME} (ha : WE C W X e ma) : WS C W X (.Return (some e) pos) (mRet ma) := fun hK hT hP => (ps_ret (ha hK hT)).imp fun D σ H h => by
  obtain ⟨B, ι, G, sl, cs, R, h⟩ := h
  exact ⟨B, ι, G, sl, cs, R, (PostS.bind h).mono fun l cs1 h1 v ι1 G1 H1 R1 e1 r1 => h1 v σ sl ι1 G1 H1 R1 e1 r1⟩
theorem ws_retN {X : Cx} {pos : Pos} : WS C W X (.Return none pos) (mRet (mC .non)) := fun hK hT hP => ps_retN.imp fun D σ H h => by
  obtain ⟨B, ι, G, sl, cs, R, h⟩ := h
  exact h .non σ sl ι G H R .refl mk_non
/-! ### targets -/
abbrev MG := Lv → Sl → Cs → Option (Sl × Cs)
/-- the slots outside vs stand as they stood -/
structure Out1 (vs : List Nat) (σ σ' : St) : Prop where
  at' : ∀ j : Nat, j ∉ vs → σ'[j]? = σ[j]?
  len : σ'.length = σ.length
theorem Out1.refl {vs : List Nat} {σ : St} : Out1 vs σ σ := ⟨fun _ _ => rfl, rfl⟩
theorem Out1.trans {vs ws : List Nat} {σ σ1 σ2 : St} (a : Out1 vs σ σ1) (b : Out1 ws σ1 σ2) : Out1 (vs ++ ws) σ σ2 := ⟨fun j hj => by
  rw [List.mem_append] at hj
  exact (b.at' j fun z => hj (.inr z)).trans (a.at' j fun z => hj (.inl z)), b.len.trans a.len⟩
def tG (C : Cn) (vs : List Nat) (mg : MG) : TG := fun v σ H Q => ∃ B ι G sl cs l sl' cs', Rel C B ι G H σ sl cs ∧ RepL C ι G v l ∧ mg l sl cs = some (sl', cs') ∧ ∀ σ' ι' G' H', Rel C B ι' G' H' σ' sl' cs' → Le ι G ι' G' → Out1 vs σ σ' → Q σ' H'
def WG (C : Cn) (X : Cx) (e : Expr) (vs : List Nat) (mg : MG) : Prop := X.K = C.K → PG X e (tG C vs mg)
def tGs (C : Cn) (vs : List Nat) (mg : List Lv → Sl → Cs → Option (Sl × Cs)) : TGs := fun us σ H Q => ∃ B ι G sl cs ls sl' cs', Rel C B ι G H σ sl cs ∧ RepLs C ι G us ls ∧ mg ls sl cs = some (sl', cs') ∧ ∀ σ' ι' G' H', Rel C B ι' G' H' σ' sl' cs' → Le ι G ι' G' → Out1 vs σ σ' → Q σ' H'
def WGs (C : Cn) (X : Cx) (es : List Expr) (vs : List Nat) (mg : List Lv → Sl → Cs → Option (Sl × Cs)) : Prop := X.K = C.K → PGs X es (tGs C vs mg)
theorem _root_.L2.PGs.imp {X : Cx} {e : List Expr} {t t' : TGs} (h : PGs X e t) (hi : ∀ v σ H Q, t' v σ H Q → t v σ H Q) : PGs X e t' := ⟨fun pins s σ H v u Q I r hw => h.run pins s σ H v u Q I r (hi v σ H Q hw)⟩
def gN (i : Nat) : MG := fun l sl cs => some (sl.set i (some l), cs)
theorem sim_gN {i : Nat} {v : V} {σ : St} {H : Hp} {Q : St → Hp → Prop} (h : tG C [i] (gN i) v σ H Q) : gName i v σ H Q := by
  obtain ⟨B, ι, G, sl, cs, l, sl', cs', R, r, e, k⟩ := h
  unfold gN at e
  simp at e
  obtain ⟨rfl, rfl⟩ := e
  exact k _ _ _ _ (R.setS r) .refl ⟨fun j hj => List.getElem?_set_ne (fun z => hj (by simp [z])), by simp⟩
theorem wg_name {X : Cx} {x : Str} {pos : Pos} (i : Nat) (hN : X.N.Nodup) (hi : X.N[i]? = some x := by rfl) (hx : Loc X.env.scope x := by first | exact Or.inl rfl | exact Or.inr rfl) (hf : X.fn x = true ∨ X.env.scope.names.lookup x = some .local := by first | exact .inl rfl | exact .inr rfl) : WG C X (.Name x pos) [i] (gN i) :=
  fun _ => (pg_name hN hi hx hf).imp fun v σ H Q h => sim_gN h
def gsNil : List Lv → Sl → Cs → Option (Sl × Cs) := fun ls sl cs => match ls with
  | [] => some (sl, cs)
  | _ => none
def gsCons (g : MG) (gs : List Lv → Sl → Cs → Option (Sl × Cs)) : List Lv → Sl → Cs → Option (Sl × Cs) := fun ls sl cs => match ls with
  | l :: r => (g l sl cs).bind fun p => gs r p.1 p.2
  | [] => none
theorem wgs_nil {X : Cx} : WGs C X [] [] gsNil := fun _ => pgs_nil.imp fun v σ H Q h => by
  obtain ⟨B, ι, G, sl, cs, l, sl', cs', R, r, e, k⟩ := h
  cases l with
  | nil =>
    simp [gsNil] at e
    obtain ⟨rfl, rfl⟩ := e
    exact ⟨r, k _ _ _ _ R .refl .refl⟩
  | cons x y => simp [gsNil] at e
theorem wgs_cons {X : Cx} {e : Expr} {es : List Expr} {vs ws : List Nat} {g : MG} {gs : List Lv → Sl → Cs → Option (Sl × Cs)} (h1 : WG C X e vs g) (h2 : WGs C X es ws gs) (hs : (assignEach (e :: es) X.env).map (·.2) = assign e X.env :: (assignEach es X.env).map (·.2) := by rfl) : WGs C X (e :: es) (vs ++ ws) (gsCons g gs) :=
  fun hK => (pgs_cons (h1 hK) (h2 hK) hs).imp fun v σ H Q h => by
  obtain ⟨B, ι, G, sl, cs, l, sl', cs', R, r, e, k⟩ := h
  cases l with
  | nil => simp [gsCons] at e
  | cons x y =>
    obtain ⟨v1, vr, rfl, r1, r2⟩ := r
    unfold gsCons at e
    simp only at e
    cases e1 : g x sl cs with
    | none => simp [e1] at e
    | some p =>
      obtain ⟨sl1, cs1⟩ := p
      simp [e1] at e
      refine ⟨v1, vr, rfl, B, ι, G, sl, cs, x, sl1, cs1, R, r1, e1, fun σ1 ι1 G1 H1 R1 le1 o1 => ?_⟩
      exact ⟨B, ι1, G1, sl1, cs1, y, sl', cs', R1, r2.mono le1, e, fun σ' ι' G' H' R' e' o' => k σ' ι' G' H' R' (le1.trans e') (o1.trans o')⟩
/-- a, b = a tuple -/
def isT (cs : Cs) : Lv → Option (List Dt)
  | .c (.tup xs) => some xs
  | .p n => match cs[n]? with
    | some (.fz (.tup xs)) => some xs
    | _ => none
  | _ => none
def gT (n : Nat) (gs : List Lv → Sl → Cs → Option (Sl × Cs)) : MG := fun l sl cs => match isT cs l with
  | some xs => if xs.length = n then gs (xs.map .c) sl cs else none
  | none => none
theorem isT_ok {B : Bs} {ι : List Addr} {G H : Hp} {σ : St} {sl : Sl} {cs : Cs} {v : V} {l : Lv} {xs : List Dt} (R : Rel C B ι G H σ sl cs) (r : RepL C ι G v l) (h : isT cs l = some xs) : ∃ a vs, v = .ref a ∧ G a = some (.tup vs) ∧ Reps C G vs xs := by
  cases l with
  | c d =>
    cases d with
    | tup ys => simp [isT] at h; subst h; exact repL_tup r
    | _ => simp [isT] at h
  | p n =>
    obtain ⟨a, h1, rfl⟩ := r
    unfold isT at h
    have hn : n < cs.length := by rw [← R.cl]; exact (List.getElem?_eq_some_iff.mp h1).1
    obtain ⟨c, hc⟩ : ∃ c, cs[n]? = some c := ⟨cs[n], by simp [hn]⟩
    have cr := R.cr n a c h1 hc
    simp only [hc] at h
    cases c with
    | fz d =>
      cases d with
      | tup ys =>
        simp at h; subst h
        exact rep_tup.mp cr
      | _ => simp at h
    | _ => simp at h
theorem wg_tup {X : Cx} {es : List Expr} {k : Nat} {pos : Pos} {vs : List Nat} {gs : List Lv → Sl → Cs → Option (Sl × Cs)} {n : Nat} (h : WGs C X es vs gs) (hc : X.calm = true := by rfl) (hn : (assignEach es X.env).length = n := by rfl) (hst : (assignEach es X.env).findIdx? (·.1) = none := by rfl) : WG C X (.Tuple es k pos) vs (gT n gs) :=
  fun hK => (pg_tup hc (h hK) hn hst).imp fun v σ H Q q => by
  obtain ⟨B, ι, G, sl, cs, l, sl', cs', R, r, e, k⟩ := q
  unfold gT at e
  cases e1 : isT cs l with
  | none => simp [e1] at e
  | some xs =>
    simp only [e1] at e
    split at e
    · rename_i hl
      obtain ⟨a, vs, rfl, ha, hr⟩ := isT_ok R r e1
      exact ⟨a, vs, rfl, SqT.of (R.hG _ _ ha), hr.length.trans hl, B, ι, G, sl, cs, xs.map .c, sl', cs', R, repLs_c hr, e, k⟩
    · cases e
def mAsg (a : ME) (g : MG) : MS := fun sl cs => (a sl cs).bind fun l cs1 => match g l sl cs1 with
  | some (sl', cs2) => .ok (.nx sl') cs2
  | none => .bad
theorem sim_asg {ma : ME} {vs : List Nat} {g : MG} {D : Ends} {σ : St} {H : Hp} {tg : TG} (hg : ∀ v σ H Q, tG C vs g v σ H Q → tg v σ H Q) (h : tS C W (mAsg ma g) D σ H) : tAsg (tE C W ma) tg D σ H := by
  obtain ⟨B, ι, G, sl, cs, R, h⟩ := h
  refine ⟨B, ι, G, sl, cs, R, (PostS.bind h).mono fun l cs1 h1 v ι1 G1 H1 R1 e1 r1 => ?_⟩
  refine hg _ _ _ _ ?_
  cases e : g l sl cs1 with
  | none => rw [e] at h1; exact h1.elim
  | some p =>
    obtain ⟨sl', cs2⟩ := p
    rw [e] at h1
    exact ⟨B, ι1, G1, sl, cs1, l, sl', cs2, R1, r1, e, fun σ' ι' G' H' R' e' _ => h1 σ' ι' G' H' R' (e1.trans e')⟩
theorem ws_asg {X : Cx} {tg e : Expr} {pos : Pos} {ma : ME} {vs : List Nat} {g : MG} (ha : WE C W X e ma) (hg : WG C X tg vs g) (hs : swapsWithSole [tg] e pos.line X.env = pure false := by rfl) (hw : swappedStores [tg] e X.env = pure none := by rfl) (h1 : (assignEach [tg] X.env).map (·.2) = [assign tg X.env] := by rfl) : WS C W X (.Assign [tg] e pos) (mAsg ma g) :=
  fun hK hT hP => (ps_asg (ha hK hT) (hg hK) hs hw h1).imp fun _ _ _ h => sim_asg (fun _ _ _ _ q => q) h
theorem ws_set {X : Cx} {x : Str} {e : Expr} {pos pos' : Pos} {ma : ME} (i : Nat) (hN : X.N.Nodup) (ha : WE C W X e ma) (hi : X.N[i]? = some x := by rfl) (hx : Loc X.env.scope x := by first | exact Or.inl rfl | exact Or.inr rfl) (hs : swapsWith e (some (.Name x pos')) pos.line X.env = pure false := by rfl)
    (hf : X.fn x = true ∨ X.env.scope.names.lookup x = some .local := by first | exact .inl rfl | exact .inr rfl) : WS C W X (.Assign [.Name x pos'] e pos) (mAsg ma (gN i)) :=
  fun hK hT hP => (ps_set hN hi hx (ha hK hT) hs hf).imp fun _ _ _ h => sim_asg (fun _ _ _ _ q => sim_gN q) h
end
end Mi

set_option Elab.async false
set_option linter.all false
set_option maxRecDepth 100000
set_option maxHeartbeats 4000000
namespace Mi
open PySem L2
section
variable {C : Cn} {W : WX}
/-! ### a value closed for good -/
def fzL (f : Cs → Lv → Option (Dt × Cs)) : Cs → List Nat → Option (List Dt × Cs)
  | cs, [] => some ([], cs)
  | cs, n :: ns => match f cs (.p n) with
    | some (d, cs1) => match fzL f cs1 ns with
      | some (ds, cs2) => some (d :: ds, cs2)
      | none => none
    | none => none
def fzD : Nat → Cs → Lv → Option (Dt × Cs)
  | 0, cs, l => match l with
    | .c d => some (d, cs)
    | .p _ => none
  | k + 1, cs, l => match l with
    | .c d => some (d, cs)
    | .p n => match cs[n]? with
      | some (.fz d) => some (d, cs)
      | some (.lst ds) => some (.lst ds, cs.set n (.fz (.lst ds)))
      | some (.dic ks ds) => some (.dic ks ds, cs.set n (.fz (.dic ks ds)))
      | some (.dct ks ds) => some (.dct ks ds, cs.set n (.fz (.dct ks ds)))
      | some (.ins c ns ds) => some (.obj c ns ds, cs.set n (.fz (.obj c ns ds)))
      | some (.pl ns) => match fzL (fzD k) cs ns with
        | some (ds, cs1) => match cs1[n]? with
          | some (.pl ms) => if ms = ns then some (.lst ds, cs1.set n (.fz (.lst ds))) else none
          | _ => none
        | none => none
      | none => none
def fzA : Cs → List Lv → Option (List Dt × Cs)
  | cs, [] => some ([], cs)
  | cs, l :: ls => match fzD 4 cs l with
    | some (d, cs1) => match fzA cs1 ls with
      | some (ds, cs2) => some (d :: ds, cs2)
      | none => none
    | none => none
/-- what closing a value leaves -/
def FzOk (C : Cn) (B : Bs) (σ : St) (sl : Sl) (H : Hp) (ι : List Addr) (G : Hp) (cs' : Cs) (P : Hp → Prop) : Prop := ∃ G', Rel C B ι G' H σ sl cs' ∧ Le ι G ι G' ∧ P G'
theorem one_fz {B : Bs} {ι : List Addr} {G H : Hp} {σ : St} {sl : Sl} {cs : Cs} {n : Nat} {a : Addr} {o : HO} {d : Dt} (R : Rel C B ι G H σ sl cs) (h1 : ι[n]? = some a) (hg : G a = none) (ho : H a = some o) (hd : Rep C (upd G a o) (.ref a) d) :
    FzOk C B σ sl H ι G (cs.set n (.fz d)) fun G' => Rep C G' (.ref a) d := by
  obtain ⟨R', le⟩ := R.fzP h1 hg ho hd
  exact ⟨_, R', le, hd⟩
/-- closing by f is right -/
structure FzR (C : Cn) (f : Cs → Lv → Option (Dt × Cs)) : Prop where
  run : ∀ {B : Bs} {ι : List Addr} {G H : Hp} {σ : St} {sl : Sl} {cs cs' : Cs} {l : Lv} {d : Dt} {v : V}, Rel C B ι G H σ sl cs → RepL C ι G v l → f cs l = some (d, cs') → FzOk C B σ sl H ι G cs' fun G' => Rep C G' v d
theorem fzL_ok {B : Bs} {ι : List Addr} {H : Hp} {σ : St} {sl : Sl} {f : Cs → Lv → Option (Dt × Cs)} (hf : FzR C f) : ∀ {ns : List Nat} {G : Hp} {cs cs' : Cs} {as : List Addr} {ds : List Dt}, Rel C B ι G H σ sl cs → as.length = ns.length → (∀ (i n : Nat), ns[i]? = some n → ∃ b, ι[n]? = some b ∧ as[i]? = some b) → fzL f cs ns = some (ds, cs') → FzOk C B σ sl H ι G cs' fun G' => Reps C G' (as.map V.ref) ds
  | [], G, cs, cs', [], ds, R, hl, hs, h => by
    unfold fzL at h
    simp at h
    obtain ⟨rfl, rfl⟩ := h
    exact ⟨G, R, .refl, reps_nil.mpr rfl⟩
  | n :: ns, G, cs, cs', a :: as, ds, R, hl, hs, h => by
    unfold fzL at h
    cases e1 : f cs (.p n) with
    | none => rw [e1] at h; simp at h
    | some p =>
      obtain ⟨d, cs1⟩ := p
      rw [e1] at h
      simp only at h
      cases e2 : fzL f cs1 ns with
      | none => rw [e2] at h; simp at h
      | some p2 =>
        obtain ⟨ds2, cs2⟩ := p2
        rw [e2] at h
        simp at h
        obtain ⟨rfl, rfl⟩ := h
        obtain ⟨b, h1, h2⟩ := hs 0 n rfl
        simp at h2; subst h2
        obtain ⟨G1, R1, le1, q1⟩ := hf.run (v := .ref a) (l := .p n) R ⟨a, h1, rfl⟩ e1
        obtain ⟨G2, R2, le2, q2⟩ := fzL_ok hf (as := as) R1 (by simpa using hl) (fun i m e => hs (i + 1) m (by simpa using e)) e2
        exact ⟨G2, R2, le1.trans le2, Reps.cons (Rep.mono le2.g q1) q2⟩
  | [], G, cs, cs', _ :: _, ds, R, hl, hs, h => by simp at hl
  | _ :: _, G, cs, cs', [], ds, R, hl, hs, h => by simp at hl
theorem fzD_ok : ∀ (k : Nat), FzR C (fzD k)
  | 0 => ⟨by
    intro B ι G H σ sl cs cs' l d v R r h
    unfold fzD at h
    cases l with
    | c d0 =>
      simp at h
      obtain ⟨rfl, rfl⟩ := h
      exact ⟨G, R, .refl, r⟩
    | p n => simp at h⟩
  | k + 1 => ⟨by
    intro B ι G H σ sl cs cs' l d v R r h
    unfold fzD at h
    cases l with
    | c d0 =>
      simp at h
      obtain ⟨rfl, rfl⟩ := h
      exact ⟨G, R, .refl, r⟩
    | p n =>
    simp only at h
    obtain ⟨a, h1, rfl⟩ := r
    cases hc : cs[n]? with
    | none => rw [hc] at h; simp at h
    | some c =>
      have cr := R.cr n a c h1 hc
      rw [hc] at h
      cases c with
      | fz e =>
        simp at h
        obtain ⟨rfl, rfl⟩ := h
        exact ⟨G, R, .refl, cr⟩
      | lst ds =>
        simp at h
        obtain ⟨rfl, rfl⟩ := h
        obtain ⟨hg, vs, ho, hr⟩ := cr
        exact one_fz R h1 hg ho (rep_lst.mpr ⟨a, vs, rfl, upd_same, hr.mono (Same.updL hg)⟩)
      | dic ks ds =>
        simp at h
        obtain ⟨rfl, rfl⟩ := h
        obtain ⟨hg, kvs, ho, hk, hn, hr⟩ := cr
        exact one_fz R h1 hg ho (rep_dic.mpr ⟨a, kvs, rfl, upd_same, hk, hn, hr.mono (Same.updL hg)⟩)
      | dct ks ds =>
        simp at h
        obtain ⟨rfl, rfl⟩ := h
        obtain ⟨hg, kvs, ho, hk, hn, hr⟩ := cr
        exact one_fz R h1 hg ho (rep_dct.mpr ⟨a, kvs, rfl, upd_same, hk, hn, hr.mono (Same.updL hg)⟩)
      | ins c ns ds =>
        simp at h
        obtain ⟨rfl, rfl⟩ := h
        obtain ⟨hg, dx, fs, ho, hk, hn, hr⟩ := cr
        exact one_fz R h1 hg ho (rep_obj.mpr ⟨a, dx, fs, rfl, upd_same, hk, hr.mono (Same.updL hg)⟩)
      | pl ns =>
        simp only at h
        cases e1 : fzL (fzD k) cs ns with
        | none => rw [e1] at h; simp at h
        | some p =>
          obtain ⟨ds, cs1⟩ := p
          rw [e1] at h
          simp only at h
          obtain ⟨_, as, ho, hl, hs⟩ := cr
          obtain ⟨G1, R1, le1, hr⟩ := fzL_ok (fzD_ok k) (as := as) R hl hs e1
          cases hc1 : cs1[n]? with
          | none => rw [hc1] at h; simp at h
          | some c1 =>
            rw [hc1] at h
            cases c1 with
            | pl ms =>
              simp only at h
              split at h
              · rename_i em
                simp at h
                obtain ⟨rfl, rfl⟩ := h
                obtain ⟨hg1, as1, ho1, _⟩ := R1.cr n a _ h1 hc1
                obtain ⟨G2, R2, le2, q⟩ := one_fz R1 h1 hg1 ho (rep_lst.mpr ⟨a, _, rfl, upd_same, hr.mono (Same.updL hg1)⟩)
                exact ⟨G2, R2, le1.trans le2, q⟩
              · cases h
            | _ => simp at h⟩
theorem fzA_ok {B : Bs} {ι : List Addr} {H : Hp} {σ : St} {sl : Sl} : ∀ {ls : List Lv} {G : Hp} {cs cs' : Cs} {vs : List V} {ds : List Dt}, Rel C B ι G H σ sl cs → RepLs C ι G vs ls → fzA cs ls = some (ds, cs') → FzOk C B σ sl H ι G cs' fun G' => Reps C G' vs ds
  | [], G, cs, cs', vs, ds, R, r, h => by
    unfold fzA at h
    simp at h
    obtain ⟨rfl, rfl⟩ := h
    exact ⟨G, R, .refl, reps_nil.mpr r⟩
  | l :: ls, G, cs, cs', vs, ds, R, r, h => by
    obtain ⟨v, vr, rfl, r1, r2⟩ := r
    unfold fzA at h
    cases e1 : fzD 4 cs l with
    | none => rw [e1] at h; simp at h
    | some p =>
      obtain ⟨d, cs1⟩ := p
      rw [e1] at h
      simp only at h
      cases e2 : fzA cs1 ls with
      | none => rw [e2] at h; simp at h
      | some p2 =>
        obtain ⟨ds2, cs2⟩ := p2
        rw [e2] at h
        simp at h
        obtain ⟨rfl, rfl⟩ := h
        obtain ⟨G1, R1, le1, q1⟩ := (fzD_ok 4).run R r1 e1
        obtain ⟨G2, R2, le2, q2⟩ := fzA_ok R1 (RepLs.mono le1 r2) e2
        exact ⟨G2, R2, le1.trans le2, Reps.cons (Rep.mono le2.g q1) q2⟩
@[simp] theorem fzD_c (k : Nat) (cs : Cs) (d : Dt) : fzD k cs (.c d) = some (d, cs) := by cases k <;> rfl
@[simp] theorem fzA_c : ∀ (ds : List Dt) (cs : Cs), fzA cs (ds.map .c) = some (ds, cs)
  | [], cs => rfl
  | d :: ds, cs => by simp [fzA, fzA_c ds cs]

/-! ### defs and their calls -/
inductive Rv where
  | c (d : Dt) | l (xs : List Dt) | d (ks : List Key) (vs : List Dt) | t (ks : List (List Key)) (vs : List Dt)
inductive Out where
  | ret (r : Rv) | exc (e : Ex) | bad
def RRep (C : Cn) (G' H H' : Hp) (v : V) : Rv → Prop
  | .c d => Rep C G' v d
  | .l xs => ∃ p vs, v = .ref p ∧ H p = none ∧ G' p = none ∧ H' p = some (.lst vs) ∧ Reps C G' vs xs
  | .d ks xs => ∃ p kvs, v = .ref p ∧ H p = none ∧ G' p = none ∧ H' p = some (.dK kvs) ∧ kvs.map (·.1) = ks ∧ ks.Nodup ∧ Reps C G' (kvs.map (·.2)) xs
  | .t ks xs => ∃ p kvs, v = .ref p ∧ H p = none ∧ G' p = none ∧ H' p = some (.dT kvs) ∧ kvs.map (·.1) = ks ∧ ks.Nodup ∧ Reps C G' (kvs.map (·.2)) xs
/-- what a call leaves of the heap -/
structure Kept (G H G' H' : Hp) : Prop where
  g : Same G G'
  gh : Same G' H'
  h : Same H H'
  old : ∀ b o, H b = some o → G' b = G b
def OutP (C : Cn) (G H : Hp) (Q : VK) (E : XK) : Out → Prop
  | .ret r => ∀ v G' H', Kept G H G' H' → RRep C G' H H' v r → Q v H'
  | .exc e => ∀ G' H' cls d, Kept G H G' H' → ExRep C G' cls d H' e → E cls d H'
  | .bad => False
def spM (C : Cn) (n : Nat) (f : List Dt → Out) : Sp := fun vs H Q E => ∃ G ds, Same G H ∧ Reps C G vs ds ∧ ds.length = n ∧ OutP C G H Q E (f ds)
def outR (o : Out) (sl : Sl) (cs : Cs) : Res Lv := match o with
  | .ret (.c d) => .ok (.c d) cs
  | .ret (.l xs) => .ok (.p cs.length) (cs ++ [.lst xs])
  | .ret (.d ks xs) => .ok (.p cs.length) (cs ++ [.dic ks xs])
  | .ret (.t ks xs) => .ok (.p cs.length) (cs ++ [.dct ks xs])
  | .exc e => .exc e sl cs
  | .bad => .bad
def mCall (f : List Dt → Out) (ma : MA) : ME := fun sl cs => (ma sl cs).bind fun ls cs1 => match fzA cs1 ls with
  | some (ds, cs2) => outR (f ds) sl cs2
  | none => .bad
/-- a result, in the caller's cells -/
theorem outR_ok {B : Bs} {ι ι0 : List Addr} {G G0 H : Hp} {σ : St} {sl : Sl} {cs : Cs} {o : Out} {Q : VK} (R : Rel C B ι G H σ sl cs) (e0 : Le ι0 G0 ι G) (h : Post C W B σ (outR o sl cs) fun l cs' => ∀ v ι' G' H', Rel C B ι' G' H' σ sl cs' → Le ι0 G0 ι' G' → RepL C ι' G' v l → Q v H') :
    OutP C G H Q (fun cls d H' => W cls d σ H') o := by
  cases o with
  | bad => exact h
  | exc e =>
    intro G' H' cls d k x
    obtain ⟨R', le⟩ := R.call k.g k.gh k.h k.old
    exact h ι G' H' cls d R' x
  | ret r =>
    intro v G' H' k rr
    obtain ⟨R', le⟩ := R.call k.g k.gh k.h k.old
    have newcell : ∀ {p : Addr} {c : Cl}, v = .ref p → H p = none → G' p = none → (∃ o, H' p = some o) → CRep C (ι ++ [p]) G' H' p c → Rel C B (ι ++ [p]) G' H' σ sl (cs ++ [c]) ∧ Le ι0 G0 (ι ++ [p]) G' ∧ RepL C (ι ++ [p]) G' v (.p cs.length) := by
      intro p c hv hp hg ho hc
      have hb := R.bnone hp
      have hi := R.notin hp
      refine ⟨⟨R'.hG, R'.h0, R'.g0, fun a ha => ?_, fun a ha => ?_, ?_, by simp [R.cl], fun n a c' h1 h2 => ?_, R'.len, fun i l q => ?_, R'.tb.trans ⟨⟨[p], rfl⟩, Same.refl _⟩⟩, (e0.trans le).trans ⟨⟨[p], rfl⟩, Same.refl _⟩, ⟨p, ?_, hv⟩⟩
      · rcases List.mem_append.mp ha with ha | ha
        · exact R.fr a ha
        · simp at ha; subst ha; exact hb
      · rcases List.mem_append.mp ha with ha | ha
        · exact R'.th a ha
        · simp at ha; subst ha; exact ho
      · rw [List.nodup_append]
        refine ⟨R.nd, by simp, fun a ha b hb' => ?_⟩
        simp at hb'; subst hb'
        exact fun z => hi (z ▸ ha)
      · by_cases hn : n < ι.length
        · rw [List.getElem?_append_left hn] at h1
          rw [List.getElem?_append_left (R.cl ▸ hn)] at h2
          exact (R'.cr n a c' h1 h2).grow ⟨⟨[p], rfl⟩, Same.refl _⟩ id rfl
        · have e1 := (List.getElem?_eq_some_iff.mp h1).1
          simp at e1
          have : n = ι.length := by omega
          subst this
          rw [List.getElem?_append_right (Nat.le_refl _)] at h1
          rw [R.cl, List.getElem?_append_right (Nat.le_refl _)] at h2
          simp at h1 h2
          subst h1 h2
          exact hc
      · obtain ⟨u, e, r⟩ := R'.slt i l q
        exact ⟨u, e, r.mono ⟨⟨[p], rfl⟩, Same.refl _⟩⟩
      · rw [← R.cl, List.getElem?_append_right (Nat.le_refl _)]; simp
    cases r with
    | c d => exact h v ι G' H' R' (e0.trans le) rr
    | l xs =>
      obtain ⟨p, vs, hv, hp, hg, ho, hr⟩ := rr
      obtain ⟨R2, le2, r2⟩ := newcell (c := .lst xs) hv hp hg ⟨_, ho⟩ ⟨hg, vs, ho, hr⟩
      exact h v _ G' H' R2 le2 r2
    | d ks xs =>
      obtain ⟨p, vs, hv, hp, hg, ho, hk, hn, hr⟩ := rr
      obtain ⟨R2, le2, r2⟩ := newcell (c := .dic ks xs) hv hp hg ⟨_, ho⟩ ⟨hg, vs, ho, hk, hn, hr⟩
      exact h v _ G' H' R2 le2 r2
    | t ks xs =>
      obtain ⟨p, vs, hv, hp, hg, ho, hk, hn, hr⟩ := rr
      obtain ⟨R2, le2, r2⟩ := newcell (c := .dct ks xs) hv hp hg ⟨_, ho⟩ ⟨hg, vs, ho, hk, hn, hr⟩
      exact h v _ G' H' R2 le2 r2
theorem sim_call {f : List Dt → Out} {n : Nat} {ma : MA} (hn : ∀ ds, f ds ≠ .bad → ds.length = n) {σ : St} {H : Hp} {Q : VK} (h : tE C W (mCall f ma) σ H Q) : tCallSD (spM C n f) [] (L2.WE W) (tA C W ma) σ H Q := by
  obtain ⟨B, ι, G, sl, cs, R, h⟩ := h
  refine ⟨B, ι, G, sl, cs, R, h.bind.mono fun ls cs1 h1 vs ι1 G1 H1 R1 e1 r1 => ?_⟩
  cases e : fzA cs1 ls with
  | none => rw [e] at h1; exact h1.elim
  | some p =>
    obtain ⟨ds, cs2⟩ := p
    rw [e] at h1
    simp only at h1
    obtain ⟨G2, R2, e2, q2⟩ := fzA_ok R1 r1 e
    have hne : f ds ≠ .bad := fun z => by rw [z] at h1; exact h1.elim
    rw [List.append_nil]
    exact ⟨G2, ds, R2.hG, q2, hn ds hne, outR_ok R2 (e1.trans e2) h1⟩
theorem we_call {X : Cx} {k n : Nat} {f : Addr} {fd : FuncData} {ps : List Str} {fM : List Dt → Out} {x : Str} {p pos : Pos} {e : Expr} {es : List Expr} {ma : MA} (F : FnOk X.prog X.w X.K X.mg X.base (L2.CX X.prog X.w) k f fd ps (spM C n fM)) (hn : ∀ ds, fM ds ≠ .bad → ds.length = n) (hr : Room k X.A) (hm : X.mg x = some (.ref f)) (hk : PySem.W.keepIn X.K (.ref f) = true) (hb : Binds X.K fd ps [])
    (ha : WA C W X (e :: es) ma) (hg : Gl X x := by rfl) (hdb : (x == ("__debug__" : Str)) = false := by decide) (he : starEach (e :: es) X.env = (false, eval e X.env) :: starEach es X.env := by rfl) (hpl : (backTo pos (starEach es X.env)).any (·.1) = false := by rfl) :
    WE C W X (.Call (.Name x p) (e :: es) [] pos) (mCall fM ma) :=
  fun hK hT => (pe_callSD F hr hg hm hk hb .nil (fun σ => passAt hT σ) (ha hK hT) hdb he hpl).imp fun _ _ _ h => sim_call hn h
/-- a def's result -/
def outL (cs : Cs) : Lv → Out
  | .c d => .ret (.c d)
  | .p n => match cs[n]? with
    | some (.lst xs) => .ret (.l xs)
    | some (.dic ks xs) => .ret (.d ks xs)
    | some (.dct ks xs) => .ret (.t ks xs)
    | some (.fz d) => .ret (.c d)
    | some (.pl ns) => match fzD 4 cs (.p n) with
      | some (d, _) => .ret (.c d)
      | none => .bad
    | _ => .bad
def runF (n k : Nat) (body : MS) (ds : List Dt) : Out := if ds.length = n then match body (ds.map (fun d => some (.c d)) ++ List.replicate k none) [] with
    | .ok (.rt l) cs => outL cs l
    | .ok (.nx _) _ => .ret (.c .non)
    | .exc e _ _ => .exc e
    | _ => .bad
  else .bad
theorem runF_len {n k : Nat} {body : MS} (ds : List Dt) (h : runF n k body ds ≠ .bad) : ds.length = n := by
  unfold runF at h
  split at h
  · assumption
  · exact absurd rfl h
theorem start_rel {G H : Hp} {vs : List V} {ds : List Dt} {N : List Str} (hG : Same G H) (hr : Reps C G vs ds) : Rel C (bs0 H G) [] G H (L2.start N vs) (ds.map (fun d => some (Lv.c d)) ++ List.replicate (N.length - ds.length) none) [] := by
  have hl := hr.length
  refine ⟨hG, Same.refl _, fun _ _ _ => rfl, by simp, by simp, by simp, rfl, fun n a c h1 => by simp at h1, by unfold L2.start; simp [hl], fun i l q => ?_, ⟨⟨[], rfl⟩, fun _ _ z => by cases z⟩⟩
  unfold L2.start
  by_cases hi : i < ds.length
  · rw [List.getElem?_append_left (by simpa using hi)] at q
    rw [List.getElem?_append_left (by simpa [hl] using hi)]
    rw [List.getElem?_map] at q ⊢
    cases e : ds[i]? with
    | none => rw [e] at q; simp at q
    | some d =>
      rw [e] at q
      simp at q; subst q
      obtain ⟨v, e1, r⟩ := hr.get e
      exact ⟨v, by rw [e1]; rfl, r⟩
  · rw [List.getElem?_append_right (by simpa using Nat.le_of_not_lt hi)] at q
    rw [List.getElem?_replicate] at q
    split at q <;> simp at q
theorem ret_ok {B : Bs} {ι : List Addr} {G H : Hp} {σ : St} {sl : Sl} {cs : Cs} {v : V} {l : Lv} {Q : VK} {E : XK} (R : Rel C B ι G H σ sl cs) (g : Same B.G G) (r : RepL C ι G v l) (h : OutP C B.G B.H Q E (outL cs l)) : Q v H := by
  cases l with
  | c d => exact h v G H ⟨g, R.hG, R.h0, R.g0⟩ r
  | p n =>
    obtain ⟨a, h1, rfl⟩ := r
    unfold outL at h
    simp only at h
    cases hc : cs[n]? with
    | none => rw [hc] at h; exact h.elim
    | some c =>
      have cr := R.cr n a c h1 hc
      have hf := R.fr a (List.mem_of_getElem? h1)
      rw [hc] at h
      cases c with
      | lst xs =>
        obtain ⟨hg, vs, ho, hr⟩ := cr
        exact h _ G H ⟨g, R.hG, R.h0, R.g0⟩ ⟨a, vs, rfl, hf, hg, ho, hr⟩
      | dic ks xs =>
        obtain ⟨hg, vs, ho, hk, hn, hr⟩ := cr
        exact h _ G H ⟨g, R.hG, R.h0, R.g0⟩ ⟨a, vs, rfl, hf, hg, ho, hk, hn, hr⟩
      | dct ks xs =>
        obtain ⟨hg, vs, ho, hk, hn, hr⟩ := cr
        exact h _ G H ⟨g, R.hG, R.h0, R.g0⟩ ⟨a, vs, rfl, hf, hg, ho, hk, hn, hr⟩
      | fz d => exact h _ G H ⟨g, R.hG, R.h0, R.g0⟩ cr
      | pl ns =>
        simp only at h
        cases e : fzD 4 cs (.p n) with
        | none => rw [e] at h; exact h.elim
        | some p =>
          obtain ⟨d, cs'⟩ := p
          rw [e] at h
          obtain ⟨G', R', le, q⟩ := (fzD_ok 4).run (v := .ref a) (l := .p n) R ⟨a, h1, rfl⟩ e
          exact h _ G' H ⟨g.trans le.g, R'.hG, R'.h0, R'.g0⟩ q
      | ins _ _ _ => exact h.elim
theorem ok_fn {P : Program} {w : World} {K : PySem.W.Frag} {mg : Str → Option Value} {base : Heap} {x qual : Str} {st : Stmt} {f : Addr} {fd : FuncData} {N ps : List Str} {k : Nat} {ms : MS} (F : Fun K x qual st f fd) (S : FnScope N ps (defScope st)) (hK : K = C.K)
    (hb : ∀ (cdv : Value) (A : Around) (outer : List Env) (s : Shared) (H : Hp) (E : XK), Room k (A.deeper (PyProof.Rows.envOfC qual (defScope st) s.heap.objs.size f cdv)) → WSs C (fun cls d _ H => E cls d H) (cxOf (L2.CX P w) P w K mg base N qual (defScope st) f cdv A outer s H E) (defBody st) ms) :
    FnOk P w K mg base (L2.CX P w) (k + 1) f fd ps (spM C ps.length (runF ps.length (N.length - ps.length) ms)) := by
  refine F.okX S (fun vs H Q E h => ?_) (fun cdv A outer s H vs Q E hr h => ?_)
  · obtain ⟨G, ds, _, h2, h3, _⟩ := h
    rw [h2.length, h3]
  · obtain ⟨G, ds, hG, hr', hn, ho⟩ := h
    refine ⟨_, hb cdv A outer s H E hr hK (takes_of rfl rfl rfl rfl) (passes_of rfl), ?_⟩
    have R0 := start_rel (N := N) hG hr'
    rw [hn] at R0
    refine ⟨bs0 H G, [], G, _, [], R0, ?_⟩
    unfold runF at ho
    rw [if_pos hn] at ho
    unfold PostS
    split
    · rename_i sl' cs' e
      rw [e] at ho
      exact fun σ' ι' G' H' R' e' => ho .non G' H' ⟨e'.g, R'.hG, R'.h0, R'.g0⟩ ((rep_non (C := C) (G := G')).mpr rfl)
    · rename_i l cs' e
      rw [e] at ho
      exact fun v σ' sl' ι' G' H' R' e' r' => ret_ok R' e'.g r' ho
    · rename_i sl' cs' e
      rw [e] at ho
      exact ho.elim
    · rename_i sl' cs' e
      rw [e] at ho
      exact ho.elim
    · rename_i e' sl' cs' e
      rw [e] at ho
      exact fun σ' ι' G' H' cls d R' x' => ho G' H' cls d ⟨fun b o q => (R'.g0 b o (hG b o q)).trans q, R'.hG, R'.h0, R'.g0⟩ x'
    · rename_i e
      rw [e] at ho
      exact ho.elim
end
end Mi

set_option Elab.async false
set_option linter.all false
set_option maxRecDepth 100000
set_option maxHeartbeats 4000000
namespace Mi
open PySem L2
section
variable {C : Cn} {W : WX}
/-! ### what a loop walks -/
inductive Src where
  | seq (l : Lv) | rng (lo : Int) (n : Nat) | enum (l : Lv) | zip (a b : Lv) | rev (l : Lv) (n : Nat) | rngc (lo c : Int) (n : Nat) | str (x : Str) | keys (ks : List Key)
def asC : Lv → Option Dt
  | .c d => some d
  | .p _ => none
/-- the item at turn i: none, where the view is not there; some none, at the end -/
def Src.at (s : Src) (cs : Cs) (i : Nat) : Option (Option Lv) := match s with
  | .seq l => (view cs l).map fun xs => xs[i]?
  | .rng lo n => some (if i < n then some (.c (.int (lo + i))) else none)
  | .rngc lo c n => some (if i < n then some (.c (.int (lo + i * c))) else none)
  | .enum l => (view cs l).bind fun xs => match xs[i]? with
    | none => some none
    | some x => (asC x).map fun d => some (.c (.tup [.int i, d]))
  | .zip a b => (view cs a).bind fun xs => (view cs b).bind fun ys => match xs[i]?, ys[i]? with
    | some x, some y => (asC x).bind fun d => (asC y).map fun e => some (.c (.tup [d, e]))
    | _, _ => some none
  | .rev l n => (view cs l).bind fun xs => if xs.length = n then some (if i < n then xs[n - 1 - i]? else none) else none
  | .str x => some ((x.cps[i]?).map fun c => .c (.str ⟨#[c]⟩))
  | .keys ks => none
def Src.len (s : Src) (cs : Cs) : Nat := match s with
  | .seq l => ((view cs l).getD []).length
  | .rng _ n => n
  | .rngc _ _ n => n
  | .enum l => ((view cs l).getD []).length
  | .zip a b => ((view cs a).getD []).length
  | .rev _ n => n
  | .str x => x.cps.size
  | .keys ks => ks.length
/-- at turn i: the walk s is HandS's J -/
def SrcAt (C : Cn) (B : Bs) (ι : List Addr) (G H : Hp) (σ : St) (sl : Sl) (cs : Cs) (J : It) (i : Nat) : Option (Option Lv) → Prop
  | none => True
  | some none => J.stop i H
  | some (some x) => J.go i H ∧ ∀ v H', J.yld i H v H' → ∃ ι' G', Rel C B ι' G' H' σ sl cs ∧ Le ι G ι' G' ∧ RepL C ι' G' v x
def SrcOk (C : Cn) (B : Bs) (ι0 : List Addr) (G0 : Hp) (s : Src) (J : It) : Prop := ∀ (ι : List Addr) (G H : Hp) (σ : St) (sl : Sl) (cs : Cs) (i : Nat), Rel C B ι G H σ sl cs → Le ι0 G0 ι G → SrcAt C B ι G H σ sl cs J i (s.at cs i)
abbrev MI := Sl → Cs → Res Src
def tI (C : Cn) (W : WX) (mi : MI) : TI := fun σ H R => ∃ B ι G sl cs, Rel C B ι G H σ sl cs ∧ Post C W B σ (mi sl cs) fun s cs' => ∀ J ι' G' H', Rel C B ι' G' H' σ sl cs' → Le ι G ι' G' → SrcOk C B ι' G' s J → R J H'
def WI (C : Cn) (W : WX) (X : Cx) (tg e : Expr) (mi : MI) : Prop := X.K = C.K → Takes X W → PI X tg e (tI C W mi)
/-! ### for -/
def forGo (s : Src) (g : MG) (body : MS) : Nat → Nat → Sl → Cs → Res Fl
  | 0, _, _, _ => .bad
  | n + 1, i, sl, cs => match s.at cs i with
    | none => .bad
    | some none => .ok (.nx sl) cs
    | some (some x) => match g x sl cs with
      | none => .bad
      | some (sl1, cs1) => match body sl1 cs1 with
        | .ok (.nx sl2) cs2 => forGo s g body n (i + 1) sl2 cs2
        | .ok (.ct sl2) cs2 => forGo s g body n (i + 1) sl2 cs2
        | .ok (.bk sl2) cs2 => .ok (.nx sl2) cs2
        | .ok (.rt v) cs2 => .ok (.rt v) cs2
        | .exc e sl2 cs2 => .exc e sl2 cs2
        | .bad => .bad
def mFor (extra : Nat) (mi : MI) (g : MG) (body : MS) : MS := fun sl cs => (mi sl cs).bind fun s cs1 => forGo s g body (s.len cs1 + 1 + extra) 0 sl cs1
theorem sim_for {extra : Nat} {mi : MI} {vs : List Nat} {g : MG} {body : MS} {D : Ends} {σ : St} {H : Hp} (h : tS C W (mFor extra mi g body) D σ H) : tFor (tI C W mi) (tG C vs g) (tS C W body) D σ H := by
  obtain ⟨B, ι, G, sl, cs, R, h⟩ := h
  refine ⟨B, ι, G, sl, cs, R, (PostS.bind h).mono fun s cs1 h1 J ι1 G1 H1 R1 e1 so => ?_⟩
  refine ⟨fun i m σ H => ∃ ι G sl cs, Rel C B ι G H σ sl cs ∧ Le ι1 G1 ι G ∧ PostS C W B ι1 G1 D (forGo s g body m i sl cs), ⟨_, ι1, G1, sl, cs1, R1, .refl, PostS.weak e1 h1⟩, ?_⟩
  rintro i m σ2 H2 ⟨ι2, G2, sl2, cs2, R2, e2, h2⟩
  cases m with
  | zero => exact h2.elim
  | succ m =>
    unfold forGo at h2
    have hs := so ι2 G2 H2 σ2 sl2 cs2 i R2 e2
    cases e : s.at cs2 i with
    | none => rw [e] at h2; exact h2.elim
    | some o =>
      rw [e] at h2 hs
      cases o with
      | none => exact .inl ⟨hs, h2 σ2 ι2 G2 H2 R2 e2⟩
      | some x =>
        simp only at h2
        refine .inr ⟨hs.1, fun σ' H' => ∃ ι G sl cs, Rel C B ι G H' σ' sl cs ∧ Le ι1 G1 ι G ∧ PostS C W B ι1 G1 D (forGo s g body m (i + 1) sl cs), fun σ' H' q => ⟨m, Nat.lt_succ_self m, q⟩, fun v H' y => ?_⟩
        obtain ⟨ι3, G3, R3, e3, r3⟩ := hs.2 v H' y
        cases eg : g x sl2 cs2 with
        | none => rw [eg] at h2; exact h2.elim
        | some p =>
          obtain ⟨sl4, cs4⟩ := p
          rw [eg] at h2
          simp only at h2
          refine ⟨B, ι3, G3, sl2, cs2, x, sl4, cs4, R3, r3, eg, fun σ4 ι4 G4 H4 R4 e4 _ => ?_⟩
          refine ⟨B, ι4, G4, sl4, cs4, R4, ?_⟩
          have e14 : Le ι1 G1 ι4 G4 := (e2.trans e3).trans e4
          cases eb : body sl4 cs4 with
          | bad => rw [eb] at h2; exact h2.elim
          | exc ex sl5 cs5 => rw [eb] at h2; exact h2
          | ok f cs5 =>
            rw [eb] at h2
            cases f with
            | nx sl5 => exact fun σ5 ι5 G5 H5 R5 e5 => ⟨ι5, G5, sl5, cs5, R5, e14.trans e5, h2⟩
            | ct sl5 => exact fun σ5 ι5 G5 H5 R5 e5 => ⟨ι5, G5, sl5, cs5, R5, e14.trans e5, h2⟩
            | bk sl5 => exact fun σ5 ι5 G5 H5 R5 e5 => h2 σ5 ι5 G5 H5 R5 (e14.trans e5)
            | rt l => exact fun v σ5 sl' ι5 G5 H5 R5 e5 r5 => h2 v σ5 sl' ι5 G5 H5 R5 (e14.trans e5) r5
theorem ws_for {X : Cx} {tg iter : Expr} {body : List Stmt} {pos : Pos} {mi : MI} {vs : List Nat} {g : MG} {ms : MS} (extra : Nat) (hi : WI C W X tg iter mi) (hg : WG C X tg vs g) (hb : WSs C W X body ms) (hc : X.calm = true := by rfl) (hs : ∀ x, foldedSetIterable iter X.env x = pure x := by intro _; rfl) :
    WS C W X (.For tg iter body [] pos) (mFor extra mi g ms) := fun hK hT hP => (ps_for hP hc (hi hK hT) (hg hK) (hb hK hT hP) hs).imp fun _ _ _ h => sim_for h
/-! ### while -/
def whGo (t : MT) (body : MS) : Nat → Sl → Cs → Res Fl
  | 0, _, _ => .bad
  | n + 1, sl, cs => (t sl cs).bind fun k cs1 => if k = true then match body sl cs1 with
      | .ok (.nx sl2) cs2 => whGo t body n sl2 cs2
      | .ok (.ct sl2) cs2 => whGo t body n sl2 cs2
      | .ok (.bk sl2) cs2 => .ok (.nx sl2) cs2
      | .ok (.rt v) cs2 => .ok (.rt v) cs2
      | .exc e sl2 cs2 => .exc e sl2 cs2
      | .bad => .bad
    else .ok (.nx sl) cs1
def mWhile (n : Nat) (t : MT) (body : MS) : MS := fun sl cs => whGo t body n sl cs
theorem sim_while {n : Nat} {t : MT} {body : MS} {D : Ends} {σ : St} {H : Hp} (h : tS C W (mWhile n t body) D σ H) : tWhile (tT C W t) (tS C W body) D σ H := by
  obtain ⟨B, ι1, G1, sl, cs, R, h⟩ := h
  refine ⟨fun m σ H => ∃ ι G sl cs, Rel C B ι G H σ sl cs ∧ Le ι1 G1 ι G ∧ PostS C W B ι1 G1 D (whGo t body m sl cs), ⟨n, ι1, G1, sl, cs, R, .refl, h⟩, ?_⟩
  rintro m σ2 H2 ⟨ι2, G2, sl2, cs2, R2, e2, h2⟩
  cases m with
  | zero => exact h2.elim
  | succ m =>
    unfold whGo at h2
    refine ⟨B, ι2, G2, sl2, cs2, R2, (PostS.bind h2).mono fun k cs3 h3 ι3 G3 H3 R3 e3 => ?_⟩
    cases k with
    | false => exact h3 σ2 ι3 G3 H3 R3 (e2.trans e3)
    | true =>
      rw [if_pos rfl] at h3 ⊢
      refine ⟨fun σ' H' => ∃ ι G sl cs, Rel C B ι G H' σ' sl cs ∧ Le ι1 G1 ι G ∧ PostS C W B ι1 G1 D (whGo t body m sl cs), fun σ' H' q => ⟨m, Nat.lt_succ_self m, q⟩, B, ι3, G3, sl2, cs3, R3, ?_⟩
      have e13 := e2.trans e3
      cases eb : body sl2 cs3 with
      | bad => rw [eb] at h3; exact h3.elim
      | exc ex sl5 cs5 => rw [eb] at h3; exact h3
      | ok f cs5 =>
        rw [eb] at h3
        cases f with
        | nx sl5 => exact fun σ5 ι5 G5 H5 R5 e5 => ⟨ι5, G5, sl5, cs5, R5, e13.trans e5, h3⟩
        | ct sl5 => exact fun σ5 ι5 G5 H5 R5 e5 => ⟨ι5, G5, sl5, cs5, R5, e13.trans e5, h3⟩
        | bk sl5 => exact fun σ5 ι5 G5 H5 R5 e5 => h3 σ5 ι5 G5 H5 R5 (e13.trans e5)
        | rt l => exact fun v σ5 sl' ι5 G5 H5 R5 e5 r5 => h3 v σ5 sl' ι5 G5 H5 R5 (e13.trans e5) r5
theorem ws_while {X : Cx} {c : Expr} {body : List Stmt} {pos : Pos} {mt : MT} {ms : MS} (n : Nat) (hc : WT C W X c mt) (hb : WSs C W X body ms) : WS C W X (.While c body [] pos) (mWhile n mt ms) := fun hK hT hP => (ps_while hP (hc hK hT) (hb hK hT hP)).imp fun _ _ _ h => sim_while h
/-! ### comprehensions -/
abbrev W0 : WX := fun _ _ _ _ => False
def wipeS (sl : Sl) : List Nat → Sl
  | [] => sl
  | v :: vs => (wipeS sl vs).set v none
theorem Rel.wipe {B : Bs} {ι : List Addr} {G H : Hp} {σ : St} {sl : Sl} {cs : Cs} (R : Rel C B ι G H σ sl cs) : ∀ vs : List Nat, Rel C B ι G H (L2.wipe σ vs) (wipeS sl vs) cs
  | [] => R
  | v :: vs => (R.wipe vs).unsetS
/-- the state of the frame does not hang on the slots -/
theorem Rel.unwipe {B : Bs} {ι ι' : List Addr} {G G' H H' : Hp} {σ σ2 : St} {sl sl2 : Sl} {cs cs' : Cs} (R : Rel C B ι G H σ sl cs) (R' : Rel C B ι' G' H' σ2 sl2 cs') (e : Le ι G ι' G') : Rel C B ι' G' H' σ sl cs' :=
  ⟨R'.hG, R'.h0, R'.g0, R'.fr, R'.th, R'.nd, R'.cl, R'.cr, R.len, fun i l q => by
    obtain ⟨v, e1, r⟩ := R.slt i l q
    exact ⟨v, e1, r.mono e⟩, R'.tb⟩
theorem wipe_get (σ : St) : ∀ (vs : List Nat) (j : Nat), (L2.wipe σ vs)[j]? = if j ∈ vs then (if j < σ.length then some none else none) else σ[j]?
  | [], j => by simp [L2.wipe]
  | v :: vs, j => by
    unfold L2.wipe
    rw [List.getElem?_set]
    have ih := wipe_get σ vs j
    by_cases h : v = j
    · subst h
      simp [wipe_length]
    · rw [if_neg h, ih]
      have : (j ∈ v :: vs) ↔ j ∈ vs := by simp [show ¬ j = v from fun z => h z.symm]
      simp only [this]
theorem wipe_eq {σ σ' : St} {vs ws : List Nat} (h : Out1 ws (L2.wipe σ vs) σ') (hs : ∀ j ∈ ws, j ∈ vs) : L2.wipe σ' vs = L2.wipe σ vs := by
  have hl : σ'.length = σ.length := h.len.trans (wipe_length σ vs)
  apply List.ext_getElem?
  intro j
  rw [wipe_get, wipe_get, hl]
  by_cases hj : j ∈ vs
  · simp [hj]
  · have q := h.at' j fun z => hj (hs j z)
    rw [wipe_get] at q
    simp only [hj, if_false] at q ⊢
    exact q
/-- an item onto the new list: closed things; cells, where kp says so -/
def push (kp : Bool) (n : Nat) (l : Lv) (cs : Cs) : Option Cs := match l with
  | .c d => match cs[n]? with
    | some (.lst ds) => if ds.length < sizeLine then some (cs.set n (.lst (ds ++ [d]))) else none
    | _ => none
  | .p m => match kp with
    | true => match cs[n]? with
      | some (.pl ms) => if ms.length < sizeLine then some (cs.set n (.pl (ms ++ [m]))) else none
      | some (.lst []) => some (cs.set n (.pl [m]))
      | _ => none
    | false => match fzD 4 cs (.p m) with
      | some (d, cs1) => match cs1[n]? with
        | some (.lst ds) => if ds.length < sizeLine then some (cs1.set n (.lst (ds ++ [d]))) else none
        | _ => none
      | none => none
theorem push_ok {B : Bs} {ι : List Addr} {G H : Hp} {σ : St} {sl : Sl} {cs cs' : Cs} {kp : Bool} {n : Nat} {a : Addr} {v : V} {l : Lv} (R : Rel C B ι G H σ sl cs) (h1 : ι[n]? = some a) (r : RepL C ι G v l) (h : push kp n l cs = some cs') :
    ∃ acc G', H a = some (.lst acc) ∧ acc.length < sizeLine ∧ Rel C B ι G' (upd H a (.lst (acc ++ [v]))) σ sl cs' ∧ Le ι G ι G' := by
  have closed : ∀ {G : Hp} {cs : Cs} {d : Dt} {ds : List Dt}, Rel C B ι G H σ sl cs → Rep C G v d → cs[n]? = some (.lst ds) → ds.length < sizeLine → ∃ acc, H a = some (.lst acc) ∧ acc.length < sizeLine ∧ Rel C B ι G (upd H a (.lst (acc ++ [v]))) σ sl (cs.set n (.lst (ds ++ [d]))) := by
    intro G cs d ds R r hc hz
    obtain ⟨hg, vs, ho, hr⟩ := R.cr n a _ h1 hc
    refine ⟨vs, ho, by rw [hr.length]; exact hz, R.mutP h1 hg ⟨hg, _, upd_same, hr.append (Reps.cons r (reps_nil.mpr rfl))⟩⟩
  unfold push at h
  cases l with
  | c d =>
    simp only at h
    split at h
    · rename_i ds hc
      split at h
      · rename_i hz
        simp at h; subst h
        obtain ⟨acc, q1, q2, q3⟩ := closed R r hc hz
        exact ⟨acc, G, q1, q2, q3, .refl⟩
      · cases h
    · cases h
  | p m =>
    simp only at h
    cases kp with
    | true =>
      simp only at h
      obtain ⟨b, hb, rfl⟩ := r
      split at h
      · rename_i ms hc
        split at h
        · rename_i hz
          simp at h; subst h
          obtain ⟨hg, as, ho, hl, hs⟩ := R.cr n a _ h1 hc
          refine ⟨_, G, ho, by rw [List.length_map, hl]; exact hz, R.mutP h1 hg ⟨hg, as ++ [b], by rw [List.map_append]; exact upd_same, by simp [hl], fun i k q => ?_⟩, .refl⟩
          by_cases hi : i < ms.length
          · rw [List.getElem?_append_left hi] at q
            rw [List.getElem?_append_left (hl ▸ hi)]
            exact hs i k q
          · have e1 := (List.getElem?_eq_some_iff.mp q).1
            simp at e1
            have : i = ms.length := by omega
            subst this
            rw [List.getElem?_append_right (Nat.le_refl _)] at q
            simp at q; subst q
            refine ⟨b, hb, ?_⟩
            rw [← hl, List.getElem?_append_right (Nat.le_refl _)]; simp
        · cases h
      · rename_i hc
        simp at h; subst h
        obtain ⟨hg, vs, ho, hr⟩ := R.cr n a _ h1 hc
        have e0 : vs = [] := reps_nil.mp hr
        subst e0
        refine ⟨[], G, ho, by rw [sizeLine_eq]; decide, R.mutP h1 hg ⟨hg, [b], upd_same, rfl, fun i k q => ?_⟩, .refl⟩
        have e1 := (List.getElem?_eq_some_iff.mp q).1
        simp at e1
        subst e1
        simp at q; subst q
        exact ⟨b, hb, rfl⟩
      · cases h
    | false =>
      simp only at h
      cases e : fzD 4 cs (.p m) with
      | none => rw [e] at h; cases h
      | some p =>
        obtain ⟨d, cs1⟩ := p
        rw [e] at h
        simp only at h
        obtain ⟨G', R', le, q⟩ := (fzD_ok 4).run R r e
        split at h
        · rename_i ds hc
          split at h
          · rename_i hz
            simp at h; subst h
            obtain ⟨acc, q1, q2, q3⟩ := closed R' q hc hz
            exact ⟨acc, G', q1, q2, q3, le⟩
          · cases h
        · cases h
def lcGo (kp : Bool) (s : Src) (g : MG) (tt : MT) (te : ME) (n0 : Nat) (slw : Sl) : Nat → Nat → Cs → Option Cs
  | 0, _, _ => none
  | n + 1, i, cs => match s.at cs i with
    | none => none
    | some none => some cs
    | some (some x) => match g x slw cs with
      | none => none
      | some (sl1, cs1) => match tt sl1 cs1 with
        | .ok true cs2 => match te sl1 cs2 with
          | .ok y cs3 => match push kp n0 y cs3 with
            | some cs4 => lcGo kp s g tt te n0 slw n (i + 1) cs4
            | none => none
          | _ => none
        | .ok false cs2 => lcGo kp s g tt te n0 slw n (i + 1) cs2
        | _ => none
def mLc (kp : Bool) (mi : MI) (g : MG) (tt : MT) (te : ME) (vs : List Nat) : ME := fun sl cs => (mi sl cs).bind fun s cs1 => match lcGo kp s g tt te cs1.length (wipeS sl vs) (s.len cs1 + 1) 0 (cs1 ++ [.lst []]) with
  | some cs2 => .ok (.p cs1.length) cs2
  | none => .bad
theorem sim_lc {kp : Bool} {mi : MI} {ws vs : List Nat} {g : MG} {tt : MT} {te : ME} (hw : ∀ j ∈ ws, j ∈ vs) {σ : St} {H : Hp} {Q : VK} (h : tE C W (mLc kp mi g tt te vs) σ H Q) : tLc (tI C W mi) (tG C ws g) (tT C W0 tt) (tE C W0 te) vs σ H Q := by
  obtain ⟨B, ι, G, sl, cs, R, h⟩ := h
  refine ⟨B, ι, G, sl, cs, R, h.bind.mono fun s cs1 h1 J ι1 G1 H1 R1 e1 so D hD => ?_⟩
  cases e : lcGo kp s g tt te cs1.length (wipeS sl vs) (s.len cs1 + 1) 0 (cs1 ++ [.lst []]) with
  | none => rw [e] at h1; exact h1.elim
  | some cs2 =>
  rw [e] at h1
  simp only at h1
  obtain ⟨R0, e0⟩ := R1.newP (o := .lst []) (c := .lst []) hD ⟨R1.gnone hD, [], upd_same, reps_nil.mpr rfl⟩
  have hn0 : ∀ {ι' : List Addr} {G' : Hp}, Le (ι1 ++ [D]) G1 ι' G' → ι'[cs1.length]? = some D := fun {ι' G'} l => l.get (by rw [← R1.cl, List.getElem?_append_right (Nat.le_refl _)]; simp)
  refine ⟨fun i m H => ∃ ι G cs, Rel C B ι G H σ sl cs ∧ Le (ι1 ++ [D]) G1 ι G ∧ lcGo kp s g tt te cs1.length (wipeS sl vs) m i cs = some cs2, ⟨_, _, G1, _, R0, .refl, e⟩, ?_⟩
  rintro i m H2 ⟨ι2, G2, cs3, R2, e2, h2⟩
  cases m with
  | zero => cases h2
  | succ m =>
    unfold lcGo at h2
    have hs := so ι2 G2 H2 σ sl cs3 i R2 (e0.trans e2)
    have hsw := so ι2 G2 H2 (L2.wipe σ vs) (wipeS sl vs) cs3 i (R2.wipe vs) (e0.trans e2)
    cases ea : s.at cs3 i with
    | none => rw [ea] at h2; cases h2
    | some o =>
      rw [ea] at h2 hs hsw
      cases o with
      | none =>
        simp at h2; subst h2
        exact .inl ⟨hs, h1 (.ref D) ι2 G2 H2 R2 ((e1.trans e0).trans e2) ⟨D, hn0 e2, rfl⟩⟩
      | some x =>
        simp only at h2
        refine .inr ⟨hs.1, fun H' => ∃ ι G cs, Rel C B ι G H' σ sl cs ∧ Le (ι1 ++ [D]) G1 ι G ∧ lcGo kp s g tt te cs1.length (wipeS sl vs) m (i + 1) cs = some cs2, fun H' q => ⟨m, Nat.lt_succ_self m, q⟩, fun v H' y => ?_⟩
        obtain ⟨ι3, G3, R3, e3, r3⟩ := hsw.2 v H' y
        cases eg : g x (wipeS sl vs) cs3 with
        | none => rw [eg] at h2; cases h2
        | some p =>
          obtain ⟨sl4, cs4⟩ := p
          rw [eg] at h2
          simp only at h2
          refine ⟨B, ι3, G3, wipeS sl vs, cs3, x, sl4, cs4, R3, r3, eg, fun σ4 ι4 G4 H4 R4 e4 o4 => ?_⟩
          have e24 : Le ι2 G2 ι4 G4 := e3.trans e4
          refine ⟨wipe_eq o4 hw, ?_⟩
          cases et : tt sl4 cs4 with
          | bad => rw [et] at h2; cases h2
          | exc ex sl5 cs5 => rw [et] at h2; cases h2
          | ok b cs5 =>
            rw [et] at h2
            refine ⟨B, ι4, G4, sl4, cs4, R4, ?_⟩
            rw [et]
            intro ι5 G5 H5 R5 e5
            cases b with
            | false =>
              simp only at h2
              rw [if_neg Bool.false_ne_true]
              exact ⟨ι5, G5, cs5, R2.unwipe R5 (e24.trans e5), (e2.trans e24).trans e5, h2⟩
            | true =>
              simp only at h2
              rw [if_pos rfl]
              cases ee : te sl4 cs5 with
              | bad => rw [ee] at h2; cases h2
              | exc ex sl6 cs6 => rw [ee] at h2; cases h2
              | ok y6 cs6 =>
                rw [ee] at h2
                simp only at h2
                refine ⟨B, ι5, G5, sl4, cs5, R5, ?_⟩
                rw [ee]
                intro v6 ι6 G6 H6 R6 e6 r6
                cases ep : push kp cs1.length y6 cs6 with
                | none => rw [ep] at h2; cases h2
                | some cs7 =>
                  rw [ep] at h2
                  simp only at h2
                  have e26 : Le ι2 G2 ι6 G6 := (e24.trans e5).trans e6
                  obtain ⟨acc, G7, q1, q2, q3, q4⟩ := push_ok R6 (hn0 (e2.trans e26)) r6 ep
                  exact ⟨acc, q1, q2, ι6, G7, cs7, R2.unwipe q3 (e26.trans q4), (e2.trans e26).trans q4, h2⟩
def mYes : MT := fun _ cs => .ok true cs
def WTs (C : Cn) (W : WX) (X : Cx) (ifs : List Expr) (mt : MT) : Prop := X.K = C.K → Takes X W → PTs X ifs (tT C W mt)
theorem _root_.L2.PTs.imp {X : Cx} {e : List Expr} {t t' : TT} (h : PTs X e t) (hi : ∀ σ H Q, t' σ H Q → t σ H Q) : PTs X e t' := ⟨fun pins s σ H Q I hw => h.run pins s σ H Q I (hi σ H Q hw)⟩
theorem wts_nil {X : Cx} : WTs C W X [] mYes := fun _ _ => pts_nil.imp fun σ H Q h => by
  obtain ⟨B, ι, G, sl, cs, R, h⟩ := h
  exact h ι G H R .refl
theorem wts_one {X : Cx} {c : Expr} {mt : MT} (h : WT C W X c mt) : WTs C W X [c] mt := fun hK hT => pts_one (h hK hT)
theorem we_lc {X : Cx} {elt tg iter : Expr} {ifs : List Expr} {scope : Scope} {pos : Pos} {mi : MI} {ws : List Nat} {g : MG} {tt : MT} {te : ME} (kp : Bool) (own : List (Str × Nat)) (hN : X.N.Nodup) (hi : WI C W X tg iter mi) (ok : BlkOk X.N X.env.scope scope own)
    (hg : ∀ (s : Shared) (H : Hp) (Ca : Addr) (cl : List (Str × Addr)) (fp : List Addr), WG C (X.blk s H scope (compEnvC scope cl Ca X.env) fp) tg ws g) (ht : ∀ (s : Shared) (H : Hp) (Ca : Addr) (cl : List (Str × Addr)) (fp : List Addr), WTs C W0 (X.blk s H scope (compEnvC scope cl Ca X.env) fp) ifs tt)
    (he : ∀ (s : Shared) (H : Hp) (Ca : Addr) (cl : List (Str × Addr)) (fp : List Addr), WE C W0 (X.blk s H scope (compEnvC scope cl Ca X.env) fp) elt te) (hw : ∀ j ∈ ws, j ∈ own.map (·.2) := by decide) (hc : X.calm = true := by rfl) (hs : ∀ x, foldedSetIterable iter X.env x = pure x := by intro _; rfl) :
    WE C W X (.ListComp elt [⟨tg, iter, ifs, 0⟩] scope pos) (mLc kp mi g tt te (own.map (·.2))) := fun hK hT =>
  (pe_lc hc hN (hi hK hT) ok (fun s H Ca cl fp => hg s H Ca cl fp hK) (fun s H Ca cl fp => ht s H Ca cl fp hK takes0) (fun s H Ca cl fp => he s H Ca cl fp hK takes0) hs).imp fun _ _ _ h => sim_lc hw h
theorem ws_setLc {X : Cx} {y : Str} {py : Pos} {elt tg iter : Expr} {ifs : List Expr} {scope : Scope} {pos spos : Pos} {mi : MI} {ws : List Nat} {g : MG} {tt : MT} {te : ME} (i : Nat) (kp : Bool) (own : List (Str × Nat)) (hN : X.N.Nodup) (hi : WI C W X tg iter mi) (ok : BlkOk X.N X.env.scope scope own)
    (hg : ∀ (s : Shared) (H : Hp) (Ca : Addr) (cl : List (Str × Addr)) (fp : List Addr), WG C (X.blk s H scope (compEnvC scope cl Ca X.env) fp) tg ws g) (ht : ∀ (s : Shared) (H : Hp) (Ca : Addr) (cl : List (Str × Addr)) (fp : List Addr), WTs C W0 (X.blk s H scope (compEnvC scope cl Ca X.env) fp) ifs tt)
    (he : ∀ (s : Shared) (H : Hp) (Ca : Addr) (cl : List (Str × Addr)) (fp : List Addr), WE C W0 (X.blk s H scope (compEnvC scope cl Ca X.env) fp) elt te) (hsw : swapsWith (.ListComp elt [⟨tg, iter, ifs, 0⟩] scope pos) (some (.Name y py)) spos.line X.env = pure true)
    (hw : ∀ j ∈ ws, j ∈ own.map (·.2) := by decide) (hy : X.N[i]? = some y := by rfl) (hyl : X.env.scope.names.lookup y = some .local := by rfl) (hc : X.calm = true := by rfl) (hs : ∀ x, foldedSetIterable iter X.env x = pure x := by intro _; rfl) :
    WS C W X (.Assign [.Name y py] (.ListComp elt [⟨tg, iter, ifs, 0⟩] scope pos) spos) (mAsg (mLc kp mi g tt te (own.map (·.2))) (gN i)) := fun hK hT hP =>
  (ps_setLc hc hN hy hyl hsw (hi hK hT) ok (fun s H Ca cl fp => hg s H Ca cl fp hK) (fun s H Ca cl fp => ht s H Ca cl fp hK takes0) (fun s H Ca cl fp => he s H Ca cl fp hK takes0) hs).imp fun D σ H h => by
    have h2 := sim_asg (tg := gName i) (fun _ _ _ _ q => sim_gN q) h
    exact sim_lc hw h2
end
end Mi

set_option Elab.async false
set_option linter.all false
set_option maxRecDepth 100000
set_option maxHeartbeats 4000000
namespace L2
open PySem PySem.Spec PyProof.Rows
/-! ### a list or a tuple walked; enumerate of a tuple -/
def iAny (K : PySem.W.Frag) (tl : TE) : TI := fun σ H R => tl σ H fun x H1 => ∃ a, x = .ref a ∧ (((∃ xs, SqL K H1 a xs) ∧ R (Itl K a) H1) ∨ ((∃ xs, SqT K H1 a xs) ∧ R (Itt K a) H1))
theorem pi_any {X : Cx} {K : PySem.W.Frag} (hK : X.K = K) {tg l : Expr} {tl : TE} (hl : PE X l tl) : PI X tg l (iAny K tl) := by
  subst hK
  refine ⟨fun pins s σ H R I h => ?_⟩
  refine thn (hl.run pins s σ H _ I h) fun v s1 ⟨x, H1, I1, r1, q1⟩ => ?_
  obtain ⟨a, e, q⟩ := q1
  subst e
  cases r1
  rcases q with ⟨⟨xs, hq⟩, q⟩ | ⟨⟨xs, hq⟩, q⟩
  · obtain ⟨its, rv, p, hz⟩ := I1.list hq
    refine wpAny_pyIter_list p.isList ?_
    refine ⟨s1.heap.objs.size, [s1.heap.objs.size], _, _, H1, rfl, I1.kept (t' := s1.toks) fun b o e => Heap.get?_push_of_some _ e, turn_list a _, ⟨_, Heap.get?_push_size _ rfl, rfl, rfl⟩, fun b hb => ?_, q⟩
    have e : b = s1.heap.objs.size := by simpa using hb
    subst e
    exact I1.fpOk (Nat.le_refl _) (I1.hok.fresh (Nat.le_refl _))
  · obtain ⟨its, rv, p, hz⟩ := I1.tuple hq
    refine wpAny_pyIter_tuple (show s1.heap.IsTuple a its.toArray from p) ?_
    refine ⟨s1.heap.objs.size, [s1.heap.objs.size], _, _, H1, rfl, I1.kept (t' := s1.toks) fun b o e => Heap.get?_push_of_some _ e, turn_tuple a _, ⟨_, Heap.get?_push_size _ rfl, rfl, rfl⟩, fun b hb => ?_, q⟩
    have e : b = s1.heap.objs.size := by simpa using hb
    subst e
    exact I1.fpOk (Nat.le_refl _) (I1.hok.fresh (Nat.le_refl _))
/-- the tuple at a, each item in a new pair -/
def IteT (K : PySem.W.Frag) (a : Addr) : It :=
  ⟨fun i H => ∃ (xs : List V) (x : V), SqT K H a xs ∧ xs[i]? = some x, fun i H v H' => ∃ T x, v = .ref T ∧ H T = none ∧ H' = upd H T (.tup [.int (i : Nat), x]) ∧ ∀ xs, SqT K H a xs → xs[i]? = some x, fun i H => ∃ xs : List V, SqT K H a xs ∧ xs.length ≤ i⟩
theorem turn_enumT {P : Program} {w : World} {K : PySem.W.Frag} {elts : List Expr} {kk : Nat} {tpos : Pos} (a e it : Addr) (hea : e ≠ a) (hai : a ≠ it) :
    Turn P w K (.Tuple elts kk tpos) (IteT K a) [e, it] e (fun i h => (∃ old, IsEnum h e it ((i : Nat) : Int) old) ∧ h.IsTupleIter it a i ∧ e ≠ it) where
  mem := by simp
  obj := fun i h st b hb => by
    obtain ⟨⟨old, he⟩, ⟨o, ho, hc, hd⟩, _⟩ := st
    have e' : b = e ∨ b = it := by simpa using hb
    rcases e' with z | z
    · rw [z]; exact ⟨_, he, fun v q => nomatch q⟩
    · rw [z]; exact ⟨o, ho, fun v q => by rw [hd] at q; cases q⟩
  keep := fun i h h' st k => let ⟨⟨old, he⟩, hi, hne⟩ := st; ⟨⟨old, k e (by simp) _ he⟩, hi.at fun o q => k it (by simp) o q, hne⟩
  item := by
    intro X hP hw hK hc i pins s σ H E I hf st hg
    subst hP hw hK
    obtain ⟨⟨old, he⟩, hit, hne⟩ := st
    obtain ⟨xs, x, hq, hx⟩ := hg
    obtain ⟨its, rv, p, hz⟩ := I.tuple hq
    obtain ⟨u, hu, ru⟩ := rv.get hx
    have hel : e < s.heap.objs.size := Heap.lt_size he
    have hil : it < s.heap.objs.size := by obtain ⟨_, q, _⟩ := hit; exact Heap.lt_size q
    have D := Draws.tuple (prog := X.prog) (w := X.w) (A := X.A.in1) (I.ok.hd hc) it a hai its.toArray
    refine wpAny_pyNext_enum_itemD D he ⟨hit, (show s.heap.IsTuple a its.toArray from p)⟩ (by have := (List.getElem?_eq_some_iff.mp hu).1; simpa using this) hne (by simp [hne, hea]) fun y h' tk hy ho hst' hT hsz hk => ?_
    have ey : y = u := by
      have hy' : its.toArray[i]? = some y := hy
      have : its[i]? = some y := by simpa using hy'
      rw [hu] at this; exact (Option.some.inj this).symm
    subst ey
    refine ⟨_, rfl, wpAny_letOwnedTupleGo_enum (s := { s with heap := h', toks := tk + 1 }) ho fun h'' he' sb => ?_⟩
    have hT2 : h''.get? s.heap.objs.size = some { cls := .type "tuple", data := .seq #[.int i tk, y] } := (sb.2 _ (Nat.ne_of_gt hel)).trans hT
    have new : ObjOk X.prog X.w (upd H s.heap.objs.size (.tup [.int (i : Nat), x])) h'' s.heap.objs.size (.tup [.int (i : Nat), x]) :=
      ⟨by show 2 ≤ sizeLine; decide, [.int i tk, y], .cons ⟨_, rfl⟩ (.cons ru .nil), ⟨_, hT2, rfl, _, rfl⟩⟩
    have I1 : Inv X pins σ (upd H s.heap.objs.size (.tup [.int (i : Nat), x])) { s with heap := h'', toks := tk + 1 } :=
      I.turnedNew (ch := [e, it]) (fun b ob hb q => (sb.2 b (fun z => hb (by simp [z]))).trans (hk b ob (fun z => hb (by simp [z])) (fun z => hb (by simp [z])) q)) hf (Nat.le_refl _) new
    refine ⟨.ref s.heap.objs.size, _, I1, rfl, ⟨_, x, rfl, I.hok.fresh (Nat.le_refl _), rfl, fun ys hy => by rw [I.tuple_inj hy hq]; exact hx⟩, ⟨⟨y, ?_⟩, hst'.1.at fun o q => (sb.2 it (Ne.symm hne)).trans q, hne⟩, fun b hb => ?_⟩
    · have e1 : ((i + 1 : Nat) : Int) = (i : Int) + 1 := by omega
      rw [e1]; exact he'
    · have hb' : b < s.heap.objs.size := by
        have e' : b = e ∨ b = it := by simpa using hb
        rcases e' with z | z
        · rw [z]; exact hel
        · rw [z]; exact hil
      rw [upd_ne (Nat.ne_of_lt hb')]
      exact (hf b hb).1
  done := by
    intro X hP hw hK hc i pins s σ H E I hf st hg
    subst hP hw hK
    obtain ⟨⟨old, he⟩, hit, hne⟩ := st
    obtain ⟨xs, hq, hx⟩ := hg
    obtain ⟨its, rv, p, hz⟩ := I.tuple hq
    obtain ⟨f0, f1, f2, f3, f4, f5⟩ := hf it (by simp)
    have hl := rv.length
    have hT : s.TypeIs (.ref e) "enumerate" := ⟨_, he, rfl⟩
    unfold pyNext
    refine wpAny_bind (wpAny_attempt (wpAny_callSpecial?_slot (name := Str.ofString "__next__") hT PySem.F.slot_enumerate_next
      (wpAny_call_entry PySem.F.slot_enumerate_next hT PySem.F.entry_enumerate_next ?_ (PySem.F.args_enumerate_next_1 _))))
    show wpAny _ _ (field (.ref e) 2 >>= _) _ _ _
    refine wpAny_bind (wpAny_field he rfl (x := .ref it) rfl ?_)
    refine wpAny_bind (wpAny_nextOf_tuple_end (I.ok.hd hc) hit (show s.heap.IsTuple a its.toArray from p) (by simp; omega) fun h' x he' hx' => ?_)
    obtain ⟨o, ho, hc⟩ := hx'
    refine wpAny_bind (wpAny_isInstance (T := "StopIteration") (b := true) ⟨o, ho, hc⟩ isSubtype_stop ?_)
    exact wpAny_pure ⟨rfl, I.turned (t' := s.toks) (fun b o hb q => he' b o hb q) f0 f1 f3 f4 f5⟩
  self := fun A i s Q E st h => let ⟨⟨_, he⟩, _⟩ := st; wpAny_pyIter_enum he h
theorem meets_enumerate_newT (l : Addr) (items : Array Value) (n : Nat) (dct : Option Addr) (sl : Array (Option Value)) :
    Meets (Builtin.«enumerate.__new__» ⟨[.type "enumerate", .ref l], []⟩) (fun _ R s => s.heap.get? l = some { cls := .type "tuple", dict := dct, data := .seq items n, slots := sl } ∧
      R (.ok (.ret (.ref (s.heap.push { cls := .type "tuple_iterator", data := .fields #[.ref l, .int 0 0] }).objs.size)))
        { s with heap := (s.heap.push { cls := .type "tuple_iterator", data := .fields #[.ref l, .int 0 0] }).push { cls := .type "enumerate", data := .fields #[.none, .bool false, .ref s.heap.objs.size, rawInt 0, .none, .none] } }) :=
  .of_wp fun prog w A R s h => by
    obtain ⟨hp, g, d, tk, os⟩ := s; obtain ⟨hl, h⟩ := h
    have hsub := PySem.sub_enumerate
    have hL : Heap.IsTuple (Shared.heap ⟨hp, g, d, tk, os⟩) l items := ⟨_, hl, rfl, n, rfl⟩
    wp_walk using AutoSeq1.wpAny_loadPart' hl
    refine wpAny_stack_any fun st => wpAny_pure ?_
    split
    · rename_i c _ _ _ _ _
      cases (c == Value.type "enumerate")
      · wp_walk using AutoSeq1.wpAny_loadPart' hl, wpAny_pyIter_tuple hL
        exact ⟨_, rfl, h⟩
      · wp_walk using AutoSeq1.wpAny_loadPart' hl, wpAny_pyIter_tuple hL
        exact ⟨_, rfl, h⟩
    · wp_walk using AutoSeq1.wpAny_loadPart' hl, wpAny_pyIter_tuple hL
      exact ⟨_, rfl, h⟩
theorem call_enumerate_tuple {prog : Program} {w : World} {A : Around} {E : Value → Shared → Prop} {s : Shared} {l : Addr} {items : Array Value} {Q : Value → Shared → Prop} (hL : s.heap.IsTuple l items)
    (h : ∀ h', IsEnum h' (s.heap.objs.size + 1) s.heap.objs.size 0 .none → h'.IsTupleIter s.heap.objs.size l 0 → h'.objs.size = s.heap.objs.size + 2 →
      (∀ b o, s.heap.get? b = some o → h'.get? b = some o) → Q (.ref (s.heap.objs.size + 1)) { s with heap := h' }) :
    wpAny (model prog w) A (call (.type "enumerate") [.ref l]) Q E s := by
  obtain ⟨⟨c, dct, dt, sl⟩, hl, hc, n, hd⟩ := hL
  replace hc : c = .type "tuple" := hc
  replace hd : dt = .seq items n := hd
  subst hc hd
  refine callType_new PySem.F.called_enumerate (by decide) (PySem.F.typeCall_enumerate_1 _) (PySem.F.newCall_enumerate_1 _) (fun obj => PySem.F.args_object_init_2 obj _) PySem.F.entry_enumerate_new
    (meets_enumerate_newT l items n dct sl) ⟨hl, ?_⟩
  have hz : (s.heap.push { cls := .type "tuple_iterator", data := .fields #[.ref l, .int 0 0] }).objs.size = s.heap.objs.size + 1 := Heap.size_push ..
  show _ ∧ _
  rw [hz]
  have he : IsEnum ((s.heap.push { cls := .type "tuple_iterator", data := .fields #[.ref l, .int 0 0] }).push
      { cls := .type "enumerate", data := .fields #[.none, .bool false, .ref s.heap.objs.size, rawInt 0, .none, .none] }) (s.heap.objs.size + 1) s.heap.objs.size 0 .none := by
    have := Heap.get?_push_size (s.heap.push { cls := .type "tuple_iterator", data := .fields #[.ref l, .int 0 0] })
      (o := { cls := .type "enumerate", data := .fields #[.none, .bool false, .ref s.heap.objs.size, rawInt 0, .none, .none] }) rfl
    rw [hz] at this; exact this
  refine ⟨⟨_, he, rfl⟩, h _ he ⟨_, Heap.get?_push_of_some _ (Heap.get?_push_size _ rfl), rfl, rfl⟩ (by rw [Heap.size_push, hz]) fun b o x => Heap.get?_push_of_some _ (Heap.get?_push_of_some _ x)⟩
def iEnumA (K : PySem.W.Frag) (ta : TA) : TI := fun σ H R => ta σ H fun vs H1 => ∃ a, vs = [.ref a] ∧ (((∃ xs, SqL K H1 a xs) ∧ R (Ite K a) H1) ∨ ((∃ xs, SqT K H1 a xs) ∧ R (IteT K a) H1))
theorem pi_enumA {X : Cx} {K : PySem.W.Frag} (hK : X.K = K) {e : Expr} {ta : TA} {p pos tpos : Pos} {elts : List Expr} {kk : Nat} (hg : Gl X "enumerate") (hm : X.mg "enumerate" = none) (ha : PA X [e] ta) (hs : starEach [e] X.env = [(false, eval e X.env)] := by rfl) :
    PI X (.Tuple elts kk tpos) (.Call (.Name "enumerate" p) [e] [] pos) (iEnumA K ta) := by
  subst hK
  refine ⟨fun pins s σ H R I h => ?_⟩
  refine Call_ (ld_blt I hg hm boot_enumerate (PyProof.Rows.callWith_type1 (thn (ha.run pos pins s σ H _ I h) fun us s1 ⟨vs, H1, I1, r1, q1⟩ => ?_) hs rfl))
  obtain ⟨a, ex, q⟩ := q1
  subst ex
  cases r1 with
  | cons r rr =>
    cases rr
    cases r
    rcases q with ⟨⟨xs, hq⟩, q⟩ | ⟨⟨xs, hq⟩, q⟩
    · obtain ⟨its, rv, p', hz⟩ := I1.list hq
      refine call_enumerate_list p'.isList fun h' he hit hsz hk => wpAny_pyIter_enum he ?_
      have I2 : Inv X pins σ H1 { s1 with heap := h' } := I1.kept (t' := s1.toks) hk
      refine ⟨s1.heap.objs.size + 1, [s1.heap.objs.size + 1, s1.heap.objs.size], _, _, H1, rfl, I2, turn_enum a (s1.heap.objs.size + 1) s1.heap.objs.size, ⟨⟨.none, he⟩, hit, Nat.succ_ne_self _⟩, fun b hb => ?_, q⟩
      have e' : b = s1.heap.objs.size + 1 ∨ b = s1.heap.objs.size := by simpa using hb
      have hle : s1.heap.objs.size ≤ b := by
        rcases e' with z | z
        · rw [z]; exact Nat.le_add_right _ _
        · rw [z]; exact Nat.le_refl _
      exact I1.fpOk hle (I1.hok.fresh hle)
    · obtain ⟨its, rv, p', hz⟩ := I1.tuple hq
      have hal : a < s1.heap.objs.size := by obtain ⟨o, ho, _⟩ := p'; exact Heap.lt_size ho
      refine call_enumerate_tuple (show s1.heap.IsTuple a its.toArray from p') fun h' he hit hsz hk => wpAny_pyIter_enum he ?_
      have I2 : Inv X pins σ H1 { s1 with heap := h' } := I1.kept (t' := s1.toks) hk
      refine ⟨s1.heap.objs.size + 1, [s1.heap.objs.size + 1, s1.heap.objs.size], _, _, H1, rfl, I2, turn_enumT a (s1.heap.objs.size + 1) s1.heap.objs.size (Nat.ne_of_gt (Nat.lt_succ_of_lt hal)) (Nat.ne_of_lt hal), ⟨⟨.none, he⟩, hit, Nat.succ_ne_self _⟩, fun b hb => ?_, q⟩
      have e' : b = s1.heap.objs.size + 1 ∨ b = s1.heap.objs.size := by simpa using hb
      have hle : s1.heap.objs.size ≤ b := by
        rcases e' with z | z
        · rw [z]; exact Nat.le_add_right _ _
        · rw [z]; exact Nat.le_refl _
      exact I1.fpOk hle (I1.hok.fresh hle)
end L2

set_option Elab.async false
set_option linter.all false
set_option maxRecDepth 100000
set_option maxHeartbeats 4000000
namespace L2
open PySem PySem.Spec PyProof.Rows
section
variable {X : Cx} {CX : CXT} {k : Nat} {f C : Addr} {fd : FuncData} {ps : List Str} {sp : Sp} {dvs : List V} {ds : List Value} {E : L2.St → XK} {x m : Str} {p pos apos : Pos} {e o : Expr} {es : List Expr} {ta : TE} {t : TA}
def tMethSD (C : Addr) (m : Str) (sp : Sp) (E : L2.St → XK) (ta : TE) (t : TA) : TE := fun σ H Q => ta σ H fun x H1 => ∃ a dx fs, x = .ref a ∧ H1 a = some (.ins C dx fs) ∧ fs.lookup m = none ∧
  t σ H1 fun vs H2 => sp (x :: vs) H2 Q (E σ)
theorem pe_methSD {pl : Sem Bool} (he : PE X o ta) (c : Cls X.K C) (hm : Meth X.K C m f) (F : FnOk X.prog X.w X.K X.mg X.base CX k f fd ps sp) (hr : Room k X.A) (hb : Binds X.K fd ps []) (hx : ∀ σ, PassesAt CX X σ (E σ)) (ha : PA X (e :: es) t)
    (hst : starEach (e :: es) X.env = (false, eval e X.env) :: starEach es X.env := by rfl) (hpl : (backTo pos (starEach es X.env)).any (·.1) = false := by rfl)
    (ht : eval (.Call (.Attribute o m apos) (e :: es) [] pos) X.env = (do
      let ov ← eval o X.env
      standAt apos.atName
      let (f, first) ← holding [ov] (getMethod ov m pl)
      callWith pos f first (backTo pos (starEach (e :: es) X.env)) (backToKw pos (keywordEach [] X.env))) := by rfl) :
    PE X (.Call (.Attribute o m apos) (e :: es) [] pos) (tMethSD C m sp E ta t) := by
  refine ⟨fun pins s σ H Q I h => ?_⟩
  refine PySem.W.methodCall_KW (pl := pl) (thn (he.run pins s σ H _ I h) fun u s1 ⟨x, H1, I1, rx, a, dx, fs, ex, ea, l, q⟩ => ?_) ht
  subst ex
  obtain rfl : u = Value.ref a := rx
  refine getmeth_ok I1 ea c hm l ?_
  refine PySem.W.callWith_K (first := [.ref a]) (h₀ := X.base) I.ok.mod.kin hm.kp (thn (ha.run pos pins s1 σ H1 _ I1 q) fun us s2 ⟨vs, H2, I2, r, q2⟩ => ⟨I2.kIn, ?_⟩) hst hpl
  exact run_fnSD (us := .ref a :: us) (vs := .ref a :: vs) F hr hb .nil (hx σ) I2 (.cons rfl r) (by rw [List.append_nil]; exact q2)
theorem pe_meth0SD {pl : Sem Bool} (he : PE X o ta) (c : Cls X.K C) (hm : Meth X.K C m f) (F : FnOk X.prog X.w X.K X.mg X.base CX k f fd ps sp) (hr : Room k X.A) (hb : Binds X.K fd ps []) (hx : ∀ σ, PassesAt CX X σ (E σ))
    (ht : eval (.Call (.Attribute o m apos) [] [] pos) X.env = (do
      let ov ← eval o X.env
      standAt apos.atName
      let (f, first) ← holding [ov] (getMethod ov m pl)
      callWith pos f first (backTo pos (starEach [] X.env)) (backToKw pos (keywordEach [] X.env))) := by rfl) :
    PE X (.Call (.Attribute o m apos) [] [] pos) (tMethSD C m sp E ta tNil) := by
  refine ⟨fun pins s σ H Q I h => ?_⟩
  refine PySem.W.methodCall_KW (pl := pl) (thn (he.run pins s σ H _ I h) fun u s1 ⟨x, H1, I1, rx, a, dx, fs, ex, ea, l, q⟩ => ?_) ht
  subst ex
  obtain rfl : u = Value.ref a := rx
  refine getmeth_ok I1 ea c hm l ?_
  exact PySem.W.callWith_K0 (first := [.ref a]) I1.kIn hm.kp (run_fnSD (us := [.ref a]) (vs := [.ref a]) F hr hb .nil (hx σ) I1 (.cons rfl .nil) q)
def tMakeSD (C : Addr) (sp : Sp) (E : L2.St → XK) (t : TA) : TE := fun σ H Q => t σ H fun vs H1 => ∀ x dx, H1 x = none → H1 dx = none → dx ≠ x →
  sp (.ref x :: vs) (upd (upd H1 dx (.own x)) x (.ins C dx [])) (fun v H2 => v = .non ∧ Q (.ref x) H2) (E σ)
theorem run_makeSD {pins : List (Addr × Obj)} {σ : L2.St} {H : Hp} {s : Shared} {Q : VK} {us : List Value} {vs : List V} {E : XK} (M : Mk X.K C f) (F : FnOk X.prog X.w X.K X.mg X.base CX k f fd ps sp) (hr : Room (k + 1) X.A) (hb : Binds X.K fd ps [])
    (hx : PassesAt CX X σ E) (I : Inv X pins σ H s) (r : Vals vs us)
    (h : ∀ x dx, H x = none → H dx = none → dx ≠ x → sp (.ref x :: vs) (upd (upd H dx (.own x)) x (.ins C dx [])) (fun v H2 => v = .non ∧ Q (.ref x) H2) E) :
    wpAny (model X.prog X.w) X.A (call (.ref C) us) (EP X pins σ Q) X.xe s := by
  have hq := h (s.heap.objs.size + 1) s.heap.objs.size (I.hok.fresh (Nat.le_succ _)) (I.hok.fresh (Nat.le_refl _)) (Nat.ne_of_lt (Nat.lt_succ_self _))
  have I2 := Inv.made (C := C) I
  have r2 : Vals (V.ref (s.heap.objs.size + 1) :: vs) (Value.ref (s.heap.objs.size + 1) :: us) := .cons rfl r
  have hl : ((Value.ref (s.heap.objs.size + 1) :: us) ++ []).length = ps.length := by
    have e := r2.length
    rw [F.len _ _ _ _ hq] at e
    rw [List.append_nil]
    exact e.symm
  have hb2 := hb _ (Value.ref (s.heap.objs.size + 1) :: us) I2.kIn hl
  rw [List.append_nil] at hb2
  refine wpAny_call (make_map (f := f) I.kIn M.makes M.init (beq_iff_eq.mp M.fn) (codeAny_mono (F.run _ X.stack _ _ ⟨Value.ref (s.heap.objs.size + 1) :: us, []⟩ (Value.ref (s.heap.objs.size + 1) :: us) _ _ E (hr.make C us [])
    (I2.env0.make C us []) hb2 r2 hq) fun r s' hq' => ?_))
  cases r with
  | error e => exact hx pins _ _ e s' I2 hq'
  | ok fl =>
    cases fl with
    | ret u =>
      obtain ⟨v, H', I3, rv, ev, q3⟩ := I2.after hq'
      subst ev
      exact ⟨rv, ⟨V.ref (s.heap.objs.size + 1), H', I3, rfl, q3⟩⟩
    | next => exact False.elim hq'
    | brk => exact False.elim hq'
    | cont => exact False.elim hq'
theorem pe_makeSD (M : Mk X.K C f) (F : FnOk X.prog X.w X.K X.mg X.base CX k f fd ps sp) (hr : Room (k + 1) X.A) (hg : Gl X x) (hm : X.mg x = some (.ref C)) (hb : Binds X.K fd ps []) (hx : ∀ σ, PassesAt CX X σ (E σ))
    (ha : PA X (e :: es) t) (hdb : (x == ("__debug__" : Str)) = false := by decide) (he : starEach (e :: es) X.env = (false, eval e X.env) :: starEach es X.env := by rfl) (hpl : (backTo pos (starEach es X.env)).any (·.1) = false := by rfl) :
    PE X (.Call (.Name x p) (e :: es) [] pos) (tMakeSD C sp E t) := by
  refine ⟨fun pins s σ H Q I h => ?_⟩
  refine wpAny_Call_Name_kw (ld_glob I hg hm ?_ hdb)
  refine PySem.W.callWith_K (h₀ := X.base) I.ok.mod.kin M.kp (thn (ha.run pos pins s σ H _ I h) fun us s1 ⟨vs, H1, I1, r, q⟩ => ⟨I1.kIn, ?_⟩) he hpl
  exact run_makeSD M F hr hb (hx σ) I1 r q
theorem pe_make0SD (M : Mk X.K C f) (F : FnOk X.prog X.w X.K X.mg X.base CX k f fd ps sp) (hr : Room (k + 1) X.A) (hg : Gl X x) (hm : X.mg x = some (.ref C)) (hb : Binds X.K fd ps []) (hx : ∀ σ, PassesAt CX X σ (E σ)) (hdb : (x == ("__debug__" : Str)) = false := by decide) :
    PE X (.Call (.Name x p) [] [] pos) (tMakeSD C sp E tNil) := by
  refine ⟨fun pins s σ H Q I h => ?_⟩
  refine wpAny_Call_Name_kw (ld_glob I hg hm ?_ hdb)
  exact PySem.W.callWith_K0 I.kIn M.kp (run_makeSD (us := []) M F hr hb (hx σ) I .nil h)
end
end L2
namespace Mi
open PySem L2
section
variable {C : Cn} {W : WX}
/-! ### what a loop walks -/
def mSeqI (ma : ME) : MI := fun sl cs => (ma sl cs).bind fun l cs1 => match view cs1 l with
  | some _ => .ok (.seq l) cs1
  | none => .bad
theorem sqK_L {K : PySem.W.Frag} {l : Lv} {H : Hp} {a : Addr} {vs : List V} (h : ∀ xs, l ≠ .c (.tup xs)) (q : SqK K l H a vs) : SqL K H a vs := by
  unfold SqK at q
  split at q
  · exact absurd rfl (h _)
  · exact q
theorem sqK_T {K : PySem.W.Frag} {xs : List Dt} {H : Hp} {a : Addr} {vs : List V} (q : SqK K (.c (.tup xs)) H a vs) : SqT K H a vs := q
theorem tup_or (l : Lv) : (∃ xs, l = .c (.tup xs)) ∨ ∀ xs, l ≠ .c (.tup xs) := by
  cases l with
  | p n => exact .inr fun _ h => nomatch h
  | c d => cases d with
    | tup xs => exact .inl ⟨xs, rfl⟩
    | _ => exact .inr fun _ h => nomatch h
/-- the view of one value at two states: the same address -/
theorem view_at {B : Bs} {ι : List Addr} {G H : Hp} {σ : St} {sl : Sl} {cs : Cs} {a : Addr} {l : Lv} {ls : List Lv} (R : Rel C B ι G H σ sl cs) (r : RepL C ι G (.ref a) l) (h : view cs l = some ls) : ∃ vs, SqK C.K l H a vs ∧ RepLs C ι G vs ls := by
  obtain ⟨a', vs, e, h1, h2⟩ := view_ok R r h
  cases e
  exact ⟨vs, h1, h2⟩
theorem seq_src {B : Bs} {ι : List Addr} {G : Hp} {a : Addr} {l : Lv} (r : RepL C ι G (.ref a) l) : ((∀ xs, l ≠ .c (.tup xs)) → SrcOk C B ι G (.seq l) (Itl C.K a)) ∧ ((∃ xs, l = .c (.tup xs)) → SrcOk C B ι G (.seq l) (Itt C.K a)) := by
  constructor
  · intro hn ι' G' H σ sl cs i R e
    show SrcAt C B ι' G' H σ sl cs (Itl C.K a) i ((view cs l).map fun xs => xs[i]?)
    cases hv : view cs l with
    | none => trivial
    | some ls =>
      obtain ⟨vs, hs, hr⟩ := view_at R (r.mono e) hv
      have hs := sqK_L hn hs
      simp only [Option.map_some]
      cases hx : ls[i]? with
      | none => exact ⟨vs, hs, by rw [hr.length]; exact List.getElem?_eq_none_iff.mp hx⟩
      | some x =>
        obtain ⟨v, hv1, hv2⟩ := hr.get hx
        refine ⟨⟨vs, v, hs, hv1⟩, fun u H' y => ?_⟩
        obtain ⟨rfl, y⟩ := y
        have := y vs hs
        rw [hv1] at this; cases this
        exact ⟨ι', G', R, .refl, hv2⟩
  · rintro ⟨xs, rfl⟩ ι' G' H σ sl cs i R e
    show SrcAt C B ι' G' H σ sl cs (Itt C.K a) i ((view cs (.c (.tup xs))).map fun xs => xs[i]?)
    cases hv : view cs (.c (.tup xs)) with
    | none => trivial
    | some ls =>
      obtain ⟨vs, hs, hr⟩ := view_at R (r.mono e) hv
      have hs := sqK_T hs
      simp only [Option.map_some]
      cases hx : ls[i]? with
      | none => exact ⟨vs, hs, by rw [hr.length]; exact List.getElem?_eq_none_iff.mp hx⟩
      | some x =>
        obtain ⟨v, hv1, hv2⟩ := hr.get hx
        refine ⟨⟨vs, v, hs, hv1⟩, fun u H' y => ?_⟩
        obtain ⟨rfl, y⟩ := y
        have := y vs hs
        rw [hv1] at this; cases this
        exact ⟨ι', G', R, .refl, hv2⟩
theorem wi_seq {X : Cx} {tg l : Expr} {ma : ME} (ha : WE C W X l ma) : WI C W X tg l (mSeqI ma) := fun hK hT => (pi_any hK (ha hK hT)).imp fun σ H R h => by
  obtain ⟨B, ι, G, sl, cs, R0, h⟩ := h
  refine ⟨B, ι, G, sl, cs, R0, h.bind.mono fun l cs1 h1 v ι1 G1 H1 R1 e1 r1 => ?_⟩
  cases e : view cs1 l with
  | none => rw [e] at h1; exact h1.elim
  | some ls =>
    rw [e] at h1
    obtain ⟨a, vs, rfl, hs, hr⟩ := view_ok R1 r1 e
    refine ⟨a, rfl, ?_⟩
    rcases tup_or l with ht | ht
    · obtain ⟨xs, rfl⟩ := ht
      exact .inr ⟨⟨vs, sqK_T hs⟩, h1 _ ι1 G1 H1 R1 e1 ((seq_src r1).2 ⟨xs, rfl⟩)⟩
    · exact .inl ⟨⟨vs, sqK_L ht hs⟩, h1 _ ι1 G1 H1 R1 e1 ((seq_src r1).1 ht)⟩
def smallI (i : Int) : Bool := Nat.ble i.natAbs 4000000000000000000
theorem smallI_ok {i : Int} (h : smallI i = true) : -(2 ^ 62) ≤ i ∧ i < 2 ^ 62 := by
  have h2 : i.natAbs ≤ 4000000000000000000 := Nat.le_of_ble_eq_true h
  have e : (2 : Int) ^ 62 = 4611686018427387904 := by decide
  rw [e]
  omega
theorem smallI_le {i : Int} (h : i.natAbs ≤ 4000000000000000000) : smallI i = true := Nat.ble_eq_true_of_le h
def rng1 : List Lv → Option Src
  | [.c (.int j)] => if smallI j = true then some (.rng 0 j.toNat) else none
  | _ => none
def rng2 : List Lv → Option Src
  | [.c (.int i), .c (.int j)] => if smallI i = true ∧ smallI j = true then some (.rng i (j - i).toNat) else none
  | _ => none
def mRng (f : List Lv → Option Src) (ma : MA) : MI := fun sl cs => (ma sl cs).bind fun ls cs1 => match f ls with
  | some s => .ok s cs1
  | none => .bad
theorem rng_src {B : Bs} {ι : List Addr} {G : Hp} {lo : Int} {n : Nat} : SrcOk C B ι G (.rng lo n) (Itr lo n) := fun ι' G' H σ sl cs i R e => by
  show SrcAt C B ι' G' H σ sl cs (Itr lo n) i (some (if i < n then some (.c (.int (lo + i))) else none))
  by_cases h : i < n
  · rw [if_pos h]
    refine ⟨h, fun v H' y => ?_⟩
    obtain ⟨rfl, rfl⟩ := y
    exact ⟨ι', G', R, .refl, mk_int⟩
  · rw [if_neg h]
    exact Nat.le_of_not_lt h
theorem wi_range1 {X : Cx} {tg a : Expr} {ma : MA} {p pos : Pos} (hm : X.mg "range" = none) (ha : WA C W X [a] ma) (hg : Gl X "range" := by rfl) (hs : starEach [a] X.env = [(false, eval a X.env)] := by rfl) : WI C W X tg (.Call (.Name "range" p) [a] [] pos) (mRng rng1 ma) := fun hK hT => (pi_range1 hg hm (ha hK hT) hs).imp fun σ H R h => by
  obtain ⟨B, ι, G, sl, cs, R0, h⟩ := h
  refine ⟨B, ι, G, sl, cs, R0, h.bind.mono fun ls cs1 h1 vs ι1 G1 H1 R1 e1 r1 => ?_⟩
  unfold rng1 at h1
  split at h1
  · rename_i s e
    split at e
    · rename_i j
      split at e
      · rename_i hj
        cases e
        obtain ⟨v, r, rfl, r2, r3⟩ := r1
        cases r3
        obtain ⟨q1, q2⟩ := smallI_ok hj
        exact ⟨j, by rw [repL_int r2], q1, q2, h1 _ ι1 G1 H1 R1 e1 rng_src⟩
      · cases e
    · cases e
  · exact h1.elim
theorem wi_range2 {X : Cx} {tg a b : Expr} {ma : MA} {p pos : Pos} (hm : X.mg "range" = none) (ha : WA C W X [a, b] ma) (hg : Gl X "range" := by rfl) (hs : starEach [a, b] X.env = [(false, eval a X.env), (false, eval b X.env)] := by rfl) (hs2 : starEach [b] X.env = [(false, eval b X.env)] := by rfl) : WI C W X tg (.Call (.Name "range" p) [a, b] [] pos) (mRng rng2 ma) := fun hK hT => (pi_range2 hg hm (ha hK hT) hs hs2).imp fun σ H R h => by
  obtain ⟨B, ι, G, sl, cs, R0, h⟩ := h
  refine ⟨B, ι, G, sl, cs, R0, h.bind.mono fun ls cs1 h1 vs ι1 G1 H1 R1 e1 r1 => ?_⟩
  unfold rng2 at h1
  split at h1
  · rename_i s e
    split at e
    · rename_i i j
      split at e
      · rename_i hj
        cases e
        obtain ⟨v, r, rfl, r2, v2, r', rfl, r4, r5⟩ := r1
        cases r5
        obtain ⟨q1, q2⟩ := smallI_ok hj.1
        obtain ⟨q3, q4⟩ := smallI_ok hj.2
        exact ⟨i, j, by rw [repL_int r2, repL_int r4], ⟨q1, q2, q3, q4⟩, h1 _ ι1 G1 H1 R1 e1 rng_src⟩
      · cases e
    · cases e
  · exact h1.elim
def mEnum (ma : MA) : MI := fun sl cs => (ma sl cs).bind fun ls cs1 => match ls with
  | [l] => match view cs1 l with
    | some _ => .ok (.enum l) cs1
    | none => .bad
  | _ => .bad
theorem enum_src {B : Bs} {ι : List Addr} {G : Hp} {a : Addr} {l : Lv} (r : RepL C ι G (.ref a) l) : ((∀ xs, l ≠ .c (.tup xs)) → SrcOk C B ι G (.enum l) (Ite C.K a)) ∧ ((∃ xs, l = .c (.tup xs)) → SrcOk C B ι G (.enum l) (IteT C.K a)) := by
  have step : ∀ {ι' : List Addr} {G' H : Hp} {σ : St} {sl : Sl} {cs : Cs} {i : Nat} {T : Addr} {v : V} {x : Lv} {d : Dt}, Rel C B ι' G' H σ sl cs → H T = none → RepL C ι' G' v x → asC x = some d → ∃ ι2 G2, Rel C B ι2 G2 (upd H T (.tup [.int (i : Nat), v])) σ sl cs ∧ Le ι' G' ι2 G2 ∧ RepL C ι2 G2 (.ref T) (.c (.tup [.int i, d])) := by
    intro ι' G' H σ sl cs i T v x d R hT rx hd
    obtain ⟨R2, le⟩ := R.newC (o := .tup [.int (i : Nat), v]) hT
    refine ⟨ι', _, R2, le, rep_tup.mpr ⟨T, _, rfl, upd_same, Reps.cons (rep_int.mpr rfl) (Reps.cons ?_ (reps_nil.mpr rfl))⟩⟩
    cases x with
    | c d' => simp [asC] at hd; subst hd; exact Rep.mono le.g rx
    | p n => simp [asC] at hd
  constructor
  · intro hn ι' G' H σ sl cs i R e
    show SrcAt C B ι' G' H σ sl cs (Ite C.K a) i ((view cs l).bind fun xs => match xs[i]? with
      | none => some none
      | some x => (asC x).map fun d => some (.c (.tup [.int i, d])))
    cases hv : view cs l with
    | none => trivial
    | some ls =>
      obtain ⟨vs, hs, hr⟩ := view_at R (r.mono e) hv
      have hs := sqK_L hn hs
      simp only [Option.bind_some]
      cases hx : ls[i]? with
      | none => exact ⟨vs, hs, by rw [hr.length]; exact List.getElem?_eq_none_iff.mp hx⟩
      | some x =>
        simp only
        cases hd : asC x with
        | none => trivial
        | some d =>
          obtain ⟨v, hv1, hv2⟩ := hr.get hx
          refine ⟨⟨vs, v, hs, hv1⟩, fun u H' y => ?_⟩
          obtain ⟨T, w, rfl, hT, rfl, y⟩ := y
          have := y vs hs
          rw [hv1] at this; cases this
          exact step R hT hv2 hd
  · rintro ⟨xs, rfl⟩ ι' G' H σ sl cs i R e
    show SrcAt C B ι' G' H σ sl cs (IteT C.K a) i ((view cs (.c (.tup xs))).bind fun xs => match xs[i]? with
      | none => some none
      | some x => (asC x).map fun d => some (.c (.tup [.int i, d])))
    cases hv : view cs (.c (.tup xs)) with
    | none => trivial
    | some ls =>
      obtain ⟨vs, hs, hr⟩ := view_at R (r.mono e) hv
      have hs := sqK_T hs
      simp only [Option.bind_some]
      cases hx : ls[i]? with
      | none => exact ⟨vs, hs, by rw [hr.length]; exact List.getElem?_eq_none_iff.mp hx⟩
      | some x =>
        simp only
        cases hd : asC x with
        | none => trivial
        | some d =>
          obtain ⟨v, hv1, hv2⟩ := hr.get hx
          refine ⟨⟨vs, v, hs, hv1⟩, fun u H' y => ?_⟩
          obtain ⟨T, w, rfl, hT, rfl, y⟩ := y
          have := y vs hs
          rw [hv1] at this; cases this
          exact step R hT hv2 hd
theorem wi_enum {X : Cx} {e : Expr} {ma : MA} {p pos tpos : Pos} {elts : List Expr} {kk : Nat} (hm : X.mg "enumerate" = none) (ha : WA C W X [e] ma) (hg : Gl X "enumerate" := by rfl) (hs : starEach [e] X.env = [(false, eval e X.env)] := by rfl) : WI C W X (.Tuple elts kk tpos) (.Call (.Name "enumerate" p) [e] [] pos) (mEnum ma) := fun hK hT => (pi_enumA hK hg hm (ha hK hT) hs).imp fun σ H R h => by
  obtain ⟨B, ι, G, sl, cs, R0, h⟩ := h
  refine ⟨B, ι, G, sl, cs, R0, h.bind.mono fun ls cs1 h1 vs ι1 G1 H1 R1 e1 r1 => ?_⟩
  split at h1
  · rename_i l
    obtain ⟨v, r, rfl, r2, r3⟩ := r1
    cases r3
    cases e : view cs1 l with
    | none => rw [e] at h1; exact h1.elim
    | some ls =>
      rw [e] at h1
      obtain ⟨a, vs, rfl, hs, hr⟩ := view_ok R1 r2 e
      refine ⟨a, rfl, ?_⟩
      rcases tup_or l with ht | ht
      · obtain ⟨xs, rfl⟩ := ht
        exact .inr ⟨⟨vs, sqK_T hs⟩, h1 _ ι1 G1 H1 R1 e1 ((enum_src r2).2 ⟨xs, rfl⟩)⟩
      · exact .inl ⟨⟨vs, sqK_L ht hs⟩, h1 _ ι1 G1 H1 R1 e1 ((enum_src r2).1 ht)⟩
  · exact h1.elim
/-! ### instances -/
def lookD : List Str → List Dt → Str → Option Dt
  | n :: ns, d :: ds, f => if f = n then some d else lookD ns ds f
  | _, _, _ => none
theorem lookD_ok {G : Hp} {f : Str} {d : Dt} : ∀ {fs : List (Str × V)} {ds : List Dt}, Reps C G (fs.map (·.2)) ds → lookD (fs.map (·.1)) ds f = some d → ∃ v, fs.lookup f = some v ∧ Rep C G v d
  | [], ds, hr, h => by simp [lookD] at h
  | (n, u) :: fs, ds, hr, h => by
    cases ds with
    | nil => simp [lookD] at h
    | cons d' ds =>
      obtain ⟨v, r, e, h2, h3⟩ := reps_cons.mp hr
      cases e
      simp only [List.map_cons, lookD] at h
      by_cases hf : f = n
      · subst hf
        simp at h; subst h
        exact ⟨u, by simp [List.lookup], h2⟩
      · rw [if_neg hf] at h
        obtain ⟨v, e1, e2⟩ := lookD_ok h3 h
        have hb : (f == n) = false := by simpa using hf
        exact ⟨v, by simp [List.lookup, hb, e1], e2⟩
/-- an instance's class, its fields -/
def objOf (cs : Cs) : Lv → Option (Nat × List Str × List Dt)
  | .c (.obj c ns vs) => some (c, ns, vs)
  | .p n => match cs[n]? with
    | some (.ins c ns vs) => some (c, ns, vs)
    | some (.fz (.obj c ns vs)) => some (c, ns, vs)
    | _ => none
  | _ => none
theorem objOf_ok {B : Bs} {ι : List Addr} {G H : Hp} {σ : St} {sl : Sl} {cs : Cs} {v : V} {l : Lv} {c : Nat} {ns : List Str} {ds : List Dt} (R : Rel C B ι G H σ sl cs) (r : RepL C ι G v l) (h : objOf cs l = some (c, ns, ds)) :
    ∃ a dx fs, v = .ref a ∧ H a = some (.ins (C.cl c) dx fs) ∧ fs.map (·.1) = ns ∧ Reps C G (fs.map (·.2)) ds := by
  cases l with
  | c d =>
    cases d with
    | obj c' ns' vs' =>
      simp [objOf] at h
      obtain ⟨rfl, rfl, rfl⟩ := h
      obtain ⟨a, dx, fs, rfl, h2, h3, h4⟩ := repL_obj r
      exact ⟨a, dx, fs, rfl, R.hG _ _ h2, h3, h4⟩
    | _ => simp [objOf] at h
  | p n =>
    obtain ⟨a, h1, rfl⟩ := r
    unfold objOf at h
    simp only at h
    cases hc : cs[n]? with
    | none => rw [hc] at h; simp at h
    | some cl =>
      have cr := R.cr n a cl h1 hc
      rw [hc] at h
      cases cl with
      | ins c' ns' vs' =>
        simp at h
        obtain ⟨rfl, rfl, rfl⟩ := h
        obtain ⟨hg, dx, fs, ho, hk, _, hr⟩ := cr
        exact ⟨a, dx, fs, rfl, ho, hk, hr⟩
      | fz d =>
        cases d with
        | obj c' ns' vs' =>
          simp at h
          obtain ⟨rfl, rfl, rfl⟩ := h
          obtain ⟨a', dx, fs, e, h2, h3, h4⟩ := rep_obj.mp cr
          cases e
          exact ⟨a, dx, fs, rfl, R.hG _ _ h2, h3, h4⟩
        | _ => simp at h
      | _ => simp at h
def mFld (c : Nat) (f : Str) (ma : ME) : ME := fun sl cs => (ma sl cs).bind fun l cs1 => match objOf cs1 l with
  | some (c', ns, ds) => if c' = c then (match lookD ns ds f with
    | some d => .ok (.c d) cs1
    | none => .bad) else .bad
  | none => .bad
theorem we_fld {X : Cx} {e : Expr} {f : Str} {pos : Pos} {ma : ME} (c : Nat) (hc : Cls C.K (C.cl c)) (hn : NoAttr C.K (C.cl c) f) (ha : WE C W X e ma) (hb : attributeBase e f X.env (eval e X.env) = eval e X.env := by rfl) : WE C W X (.Attribute e f pos) (mFld c f ma) := fun hK hT => (pe_fld (ha hK hT) hb).imp fun σ H Q h => by
  obtain ⟨B, ι, G, sl, cs, R0, h⟩ := h
  refine ⟨B, ι, G, sl, cs, R0, h.bind.mono fun l cs1 h1 v ι1 G1 H1 R1 e1 r1 => ?_⟩
  cases e : objOf cs1 l with
  | none => rw [e] at h1; exact h1.elim
  | some p =>
    obtain ⟨c', ns, ds⟩ := p
    rw [e] at h1
    simp only at h1
    split at h1
    · rename_i hcc
      subst hcc
      cases el : lookD ns ds f with
      | none => rw [el] at h1; exact h1.elim
      | some d =>
        rw [el] at h1
        obtain ⟨a, dx, fs, rfl, ho, hk, hr⟩ := objOf_ok R1 r1 e
        subst hk
        obtain ⟨u, hu, ru⟩ := lookD_ok hr el
        exact ⟨a, _, dx, fs, u, rfl, ho, by rw [hK]; exact hc, by rw [hK]; exact hn, hu, h1 _ _ _ _ R1 e1 ru⟩
    · exact h1.elim
def putD (f : Str) (d : Dt) : List Str → List Dt → List Str × List Dt
  | n :: ns, e :: es => if n = f then (n :: ns, d :: es) else let p := putD f d ns es; (n :: p.1, e :: p.2)
  | _, _ => ([f], [d])
end
end Mi

set_option Elab.async false
set_option linter.all false
set_option maxRecDepth 100000
set_option maxHeartbeats 4000000
namespace Mi
open PySem L2
section
variable {C : Cn} {W : WX}
/-! ### a field is stored (in an instance that is a cell) -/
theorem putF_map (f : Str) (v : V) (d : Dt) {G : Hp} (hv : Rep C G v d) : ∀ {fs : List (Str × V)} {ds : List Dt}, Reps C G (fs.map (·.2)) ds → (putF f v fs).map (·.1) = (putD f d (fs.map (·.1)) ds).1 ∧ Reps C G ((putF f v fs).map (·.2)) (putD f d (fs.map (·.1)) ds).2
  | [], ds, hr => by
    have : ds = [] := by
      cases ds with
      | nil => rfl
      | cons d ds => obtain ⟨v, r, e, _⟩ := reps_cons.mp hr; cases e
    subst this
    exact ⟨rfl, Reps.cons hv (reps_nil.mpr rfl)⟩
  | (g, x) :: r, ds, hr => by
    cases ds with
    | nil => rw [reps_nil] at hr; cases hr
    | cons e es =>
      obtain ⟨v', r', e1, h2, h3⟩ := reps_cons.mp hr
      cases e1
      by_cases h : g = f
      · subst h
        have q1 : putF g v ((g, x) :: r) = (g, v) :: r := by unfold putF; rw [if_pos rfl]
        have q2 : putD g d ((((g, x) :: r).map (·.1))) (e :: es) = (g :: r.map (·.1), d :: es) := by simp [putD]
        rw [q1, q2]
        exact ⟨rfl, Reps.cons hv h3⟩
      · obtain ⟨i1, i2⟩ := putF_map f v d hv h3
        have q1 : putF f v ((g, x) :: r) = (g, x) :: putF f v r := by rw [putF, if_neg h]
        have q2 : putD f d ((((g, x) :: r).map (·.1))) (e :: es) = (g :: (putD f d (r.map (·.1)) es).1, e :: (putD f d (r.map (·.1)) es).2) := by simp [putD, h]
        rw [q1, q2]
        exact ⟨by simp [i1], Reps.cons h2 i2⟩
theorem putD_nd (f : Str) (d : Dt) : ∀ (ns : List Str) (ds : List Dt), ns.length = ds.length → ns.Nodup → (putD f d ns ds).1.Nodup ∧ ∀ n, n ∈ (putD f d ns ds).1 → n ∈ ns ∨ n = f
  | [], [], _, _ => by simp [putD]
  | n :: ns, e :: es, hl, hn => by
    by_cases h : n = f
    · subst h
      simp only [putD, if_true]
      exact ⟨hn, fun m hm => .inl hm⟩
    · simp only [putD, if_neg h]
      have hn' := List.nodup_cons.mp hn
      obtain ⟨i1, i2⟩ := putD_nd f d ns es (by simpa using hl) hn'.2
      refine ⟨List.nodup_cons.mpr ⟨fun hm => ?_, i1⟩, fun m hm => ?_⟩
      · rcases i2 n hm with q | q
        · exact hn'.1 q
        · exact h q
      · rcases List.mem_cons.mp hm with q | q
        · exact .inl (by simp [q])
        · rcases i2 m q with q | q
          · exact .inl (by simp [q])
          · exact .inr q
  | [], _ :: _, hl, _ => by simp at hl
  | _ :: _, [], hl, _ => by simp at hl
def mSetF (c : Nat) (f : Str) (mo mv : ME) : MS := fun sl cs => (mv sl cs).bind fun l cs1 => match fzD 4 cs1 l with
  | some (d, cs2) => (mo sl cs2).bind fun o cs3 => match o with
    | .p n => match cs3[n]? with
      | some (.ins c' ns ds) => if c' = c ∧ ns.length < 1000 then .ok (.nx sl) (cs3.set n (.ins c' (putD f d ns ds).1 (putD f d ns ds).2)) else .bad
      | _ => .bad
    | _ => .bad
  | none => .bad
theorem ws_fld {X : Cx} {o e : Expr} {f : Str} {pos pos' : Pos} {mo mv : ME} (c : Nat) (hc : Cls C.K (C.cl c)) (hn : NoAttr C.K (C.cl c) f) (ho : WE C W X o mo) (hv : WE C W X e mv) (hs : swapsWith e (some (.Attribute o f pos')) pos.line X.env = pure false := by rfl) :
    WS C W X (.Assign [.Attribute o f pos'] e pos) (mSetF c f mo mv) := fun hK hT hP => (ps_fld (ho hK hT) (hv hK hT) hs).imp fun D σ H h => by
  obtain ⟨B, ι, G, sl, cs, R0, h⟩ := h
  refine ⟨B, ι, G, sl, cs, R0, (PostS.bind h).mono fun l cs1 h1 v ι1 G1 H1 R1 e1 r1 => ?_⟩
  cases ef : fzD 4 cs1 l with
  | none => rw [ef] at h1; exact h1.elim
  | some p =>
    obtain ⟨d, cs2⟩ := p
    rw [ef] at h1
    simp only at h1
    obtain ⟨G2, R2, e2, q2⟩ := (fzD_ok 4).run R1 r1 ef
    refine ⟨B, ι1, G2, sl, cs2, R2, (PostS.bind h1).mono fun l3 cs3 h3 v3 ι3 G3 H3 R3 e3 r3 => ?_⟩
    cases l3 with
    | c _ => exact h3.elim
    | p n =>
      simp only at h3
      obtain ⟨a, ha, rfl⟩ := r3
      cases hcell : cs3[n]? with
      | none => rw [hcell] at h3; exact h3.elim
      | some cl =>
        rw [hcell] at h3
        have cr := R3.cr n a cl ha hcell
        cases cl with
        | ins c' ns ds =>
          simp only at h3
          split at h3
          · rename_i hcc
            obtain ⟨rfl, hz⟩ := hcc
            obtain ⟨hg, dx, fs, hob, hk, hnd, hr⟩ := cr
            subst hk
            obtain ⟨i1, i2⟩ := putF_map f v d (Rep.mono e3.g q2) hr
            refine ⟨a, _, dx, fs, rfl, hob, by rw [hK]; exact hc, by rw [hK]; exact hn, by simpa using hz, ?_⟩
            refine h3 σ ι3 G3 _ (R3.mutP ha hg ⟨hg, dx, _, upd_same, i1, (putD_nd f d _ ds (by rw [← hr.length]; simp) hnd).1, i2⟩) (((e1.trans e2).trans e3))
          · exact h3.elim
        | _ => exact h3.elim
/-! ### an instance is made: a call of its __init__ -/
def InitP (C : Cn) (c : Nat) (G H1 : Hp) (x : Addr) (Q : VK) (E : XK) : Out → Prop
  | .ret (.c (.obj c' ns xs)) => c' = c ∧ ns.Nodup ∧ ∀ G' H' dx fs, Kept G H1 G' H' → G' x = none → H' x = some (.ins (C.cl c) dx fs) → fs.map (·.1) = ns → Reps C G' (fs.map (·.2)) xs → Q .non H'
  | .exc e => ∀ G' H' cls d, Kept G H1 G' H' → ExRep C G' cls d H' e → E cls d H'
  | _ => False
def spI (C : Cn) (c n : Nat) (f : List Dt → Out) : Sp := fun vs H Q E => ∃ G H1 x dx rest ds, vs = .ref x :: rest ∧ H1 x = none ∧ H1 dx = none ∧ dx ≠ x ∧ H = upd (upd H1 dx (.own x)) x (.ins (C.cl c) dx []) ∧ Same G H1 ∧ Reps C G rest ds ∧ ds.length = n ∧ InitP C c G H1 x Q E (f ds)
/-- __init__, run: the instance is the cell 0 -/
def runI (c n k : Nat) (body : MS) (ds : List Dt) : Out := if ds.length = n then match body (some (.p 0) :: (ds.map (fun d => some (.c d)) ++ List.replicate k none)) [.ins c [] []] with
    | .ok (.nx _) (cs : List Cl) => (match cs[0]? with
      | some (Cl.ins c' ns vs) => if c' = c then .ret (.c (.obj c ns vs)) else .bad
      | _ => .bad)
    | .exc e _ _ => .exc e
    | _ => .bad
  else .bad
theorem runI_len {c n k : Nat} {body : MS} (ds : List Dt) (h : runI c n k body ds ≠ .bad) : ds.length = n := by
  unfold runI at h
  split at h
  · assumption
  · exact absurd rfl h
theorem ok_init {P : Program} {w : World} {K : PySem.W.Frag} {mg : Str → Option Value} {base : Heap} {x qual : Str} {st : Stmt} {f : Addr} {fd : FuncData} {N ps : List Str} {p0 : Str} {k : Nat} {ms : MS} (c : Nat) (F : Fun K x qual st f fd) (S : FnScope N (p0 :: ps) (defScope st)) (hK : K = C.K)
    (hb : ∀ (cdv : Value) (A : Around) (outer : List Env) (s : Shared) (H : Hp) (E : XK), Room k (A.deeper (PyProof.Rows.envOfC qual (defScope st) s.heap.objs.size f cdv)) → WSs C (fun cls d _ H => E cls d H) (cxOf (L2.CX P w) P w K mg base N qual (defScope st) f cdv A outer s H E) (defBody st) ms) :
    FnOk P w K mg base (L2.CX P w) (k + 1) f fd (p0 :: ps) (spI C c ps.length (runI c ps.length (N.length - (ps.length + 1)) ms)) := by
  refine F.okX S (fun vs H Q E h => ?_) (fun cdv A outer s H vs Q E hr h => ?_)
  · obtain ⟨G, H1, x, dx, rest, ds, rfl, _, _, _, _, _, h2, h3, _⟩ := h
    rw [List.length_cons, List.length_cons, h2.length, h3]
  · obtain ⟨G, H1, x, dx, rest, ds, rfl, hx, hdx, hne, rfl, hG, hr', hn, ho⟩ := h
    refine ⟨_, hb cdv A outer s _ E hr hK (takes_of rfl rfl rfl rfl) (passes_of rfl), ?_⟩
    have hgx : G x = none := by
      cases e : G x with
      | none => rfl
      | some o => rw [hG _ _ e] at hx; cases hx
    have s1 : Same H1 (upd (upd H1 dx (.own x)) x (.ins (C.cl c) dx [])) := fun b o e => by
      rw [upd_ne (ne_of_none e hx), upd_ne (ne_of_none e hdx)]; exact e
    have hl := hr'.length
    have R0 : Rel C (bs0 H1 G) [x] G (upd (upd H1 dx (.own x)) x (.ins (C.cl c) dx [])) (L2.start N (.ref x :: rest)) (some (.p 0) :: (ds.map (fun d => some (Lv.c d)) ++ List.replicate (N.length - (ps.length + 1)) none)) [.ins c [] []] := by
      refine ⟨hG.trans s1, s1, fun _ _ _ => rfl, by simp [hx], by simp [upd_same], by simp, rfl, fun n a cl h1 h2 => ?_, ?_, fun i l q => ?_, ⟨⟨[x], rfl⟩, fun _ _ z => by cases z⟩⟩
      · have hn0 : n = 0 := by
          have := (List.getElem?_eq_some_iff.mp h1).1
          simpa using this
        subst hn0
        simp at h1 h2
        subst h1 h2
        exact ⟨hgx, dx, [], upd_same, rfl, List.nodup_nil, reps_nil.mpr rfl⟩
      · unfold L2.start
        first | (simp [hl, hn]; done) | (simp [hl, hn]; omega)
      · unfold L2.start
        cases i with
        | zero =>
          simp at q; subst q
          exact ⟨.ref x, by simp, x, rfl, rfl⟩
        | succ i =>
          rw [List.getElem?_cons_succ] at q
          rw [List.map_cons, List.cons_append, List.getElem?_cons_succ]
          by_cases hi : i < ds.length
          · rw [List.getElem?_append_left (by simpa using hi)] at q
            rw [List.getElem?_append_left (by simpa [hl] using hi)]
            rw [List.getElem?_map] at q ⊢
            cases e : ds[i]? with
            | none => rw [e] at q; simp at q
            | some d =>
              rw [e] at q
              simp at q; subst q
              obtain ⟨v, e1, r⟩ := hr'.get e
              exact ⟨v, by rw [e1]; rfl, r⟩
          · rw [List.getElem?_append_right (by simpa using Nat.le_of_not_lt hi)] at q
            rw [List.getElem?_replicate] at q
            split at q <;> simp at q
    refine ⟨bs0 H1 G, [x], G, _, _, R0, ?_⟩
    unfold runI at ho
    rw [if_pos hn] at ho
    have kept : ∀ {ι' : List Addr} {G' H' : Hp} {σ' : St} {sl' : Sl} {cs' : Cs}, Rel C (bs0 H1 G) ι' G' H' σ' sl' cs' → Kept G H1 G' H' := fun R' => ⟨fun b o q => (R'.g0 b o (hG b o q)).trans q, R'.hG, R'.h0, R'.g0⟩
    unfold PostS
    split
    · rename_i sl' cs' e
      rw [e] at ho
      simp only at ho
      intro σ' ι' G' H' R' e'
      cases hc0 : cs'[0]? with
      | none => rw [hc0] at ho; exact ho.elim
      | some cl =>
        rw [hc0] at ho
        cases cl with
        | ins c' ns vs =>
          simp only at ho
          split at ho
          · rename_i hcc
            subst hcc
            obtain ⟨hg, dx', fs, hob, hk, _, hrr⟩ := R'.cr 0 x _ (e'.get rfl) hc0
            exact ho.2.2 G' H' dx' fs (kept R') hg hob hk hrr
          · exact ho.elim
        | _ => exact ho.elim
    · rename_i l cs' e
      rw [e] at ho
      exact ho.elim
    · rename_i sl' cs' e
      rw [e] at ho
      exact ho.elim
    · rename_i sl' cs' e
      rw [e] at ho
      exact ho.elim
    · rename_i e' sl' cs' e
      rw [e] at ho
      exact fun σ' ι' G' H' cls d R' x' => ho G' H' cls d (kept R') x'
    · rename_i e
      rw [e] at ho
      exact ho.elim
/-- an object of the heap is closed for good -/
theorem Rel.close {B : Bs} {ι : List Addr} {G H : Hp} {σ : St} {sl : Sl} {cs : Cs} (R : Rel C B ι G H σ sl cs) {p : Addr} {o : HO} (hb : B.H p = none) (hi : p ∉ ι) (hg : G p = none) (ho : H p = some o) : Rel C B ι (upd G p o) H σ sl cs ∧ Le ι G ι (upd G p o) := by
  have le : Le ι G ι (upd G p o) := ⟨⟨[], by simp⟩, Same.updL hg⟩
  refine ⟨⟨fun b u q => ?_, R.h0, fun b u q => ?_, R.fr, R.th, R.nd, R.cl, fun m b c' q1 q2 => ?_, R.len, fun i l q => ?_, R.tb.trans le⟩, le⟩
  · by_cases e : b = p
    · subst e; rw [upd_same] at q; cases q; exact ho
    · rw [upd_ne e] at q; exact R.hG b u q
  · rw [upd_ne (ne_of_none q hb)]; exact R.g0 b u q
  · have e : b ≠ p := fun z => hi (z ▸ List.mem_of_getElem? q1)
    exact (R.cr m b c' q1 q2).grow le (fun z => by rw [upd_ne e]; exact z) rfl
  · obtain ⟨v, e, r⟩ := R.slt i l q
    exact ⟨v, e, r.mono le⟩
def mMake (f : List Dt → Out) (ma : MA) : ME := fun sl cs => (ma sl cs).bind fun ls cs1 => match fzA cs1 ls with
  | some (ds, cs2) => (match f ds with
    | .ret (.c (.obj c ns vs)) => if ns.Nodup then .ok (.c (.obj c ns vs)) cs2 else .bad
    | .exc e => .exc e sl cs2
    | _ => .bad)
  | none => .bad
theorem sim_make {f : List Dt → Out} {c n : Nat} {ma : MA} (hn : ∀ ds, f ds ≠ .bad → ds.length = n) (hc : ∀ ds c' ns vs, f ds = .ret (.c (.obj c' ns vs)) → c' = c) {σ : St} {H : Hp} {Q : VK} (h : tE C W (mMake f ma) σ H Q) : tMakeSD (C.cl c) (spI C c n f) (L2.WE W) (tA C W ma) σ H Q := by
  obtain ⟨B, ι, G, sl, cs, R, h⟩ := h
  refine ⟨B, ι, G, sl, cs, R, h.bind.mono fun ls cs1 h1 vs ι1 G1 H1 R1 e1 r1 => ?_⟩
  cases e : fzA cs1 ls with
  | none => rw [e] at h1; exact h1.elim
  | some p =>
    obtain ⟨ds, cs2⟩ := p
    rw [e] at h1
    simp only at h1
    obtain ⟨G2, R2, e2, q2⟩ := fzA_ok R1 r1 e
    have hne : f ds ≠ .bad := fun z => by rw [z] at h1; exact h1.elim
    intro x dx hx hdx hxd
    refine ⟨G2, H1, x, dx, vs, ds, rfl, hx, hdx, hxd, rfl, R2.hG, q2, hn ds hne, ?_⟩
    cases ef : f ds with
    | bad => exact absurd ef hne
    | exc ex =>
      rw [ef] at h1
      intro G' H' cls d k x'
      obtain ⟨R', le⟩ := R2.call k.g k.gh k.h k.old
      exact h1 ι1 G' H' cls d R' x'
    | ret r =>
      rw [ef] at h1
      cases r with
      | c dd =>
        cases dd with
        | obj c' ns vs' =>
          simp only at h1
          split at h1
          · rename_i hnd
            have := hc ds c' ns vs' ef
            subst this
            refine ⟨rfl, hnd, fun G' H' dx' fs k hg ho hk hr => ⟨rfl, ?_⟩⟩
            obtain ⟨R', le⟩ := R2.call k.g k.gh k.h k.old
            obtain ⟨R3, le3⟩ := R'.close (o := .ins (C.cl c') dx' fs) (R1.bnone hx) (R1.notin hx) hg ho
            exact h1 _ _ _ _ R3 (((e1.trans e2).trans le).trans le3) (rep_obj.mpr ⟨x, dx', fs, rfl, upd_same, hk, hr.mono le3.g⟩)
          · exact h1.elim
        | _ => exact h1.elim
      | _ => exact h1.elim
theorem runI_c {c n k : Nat} {body : MS} (ds : List Dt) (c' : Nat) (ns : List Str) (vs : List Dt) (h : runI c n k body ds = .ret (.c (.obj c' ns vs))) : c' = c := by
  unfold runI at h
  split at h
  · split at h
    · split at h
      · split at h
        · cases h; rfl
        · cases h
      · cases h
    · cases h
    · cases h
  · cases h
theorem we_make {X : Cx} {k n c : Nat} {f : Addr} {fd : FuncData} {ps : List Str} {fM : List Dt → Out} {x : Str} {p pos : Pos} {e : Expr} {es : List Expr} {ma : MA} (M : Mk C.K (C.cl c) f) (F : FnOk X.prog X.w X.K X.mg X.base (L2.CX X.prog X.w) k f fd ps (spI C c n fM)) (hn : ∀ ds, fM ds ≠ .bad → ds.length = n)
    (hc : ∀ ds c' ns vs, fM ds = .ret (.c (.obj c' ns vs)) → c' = c) (hr : Room (k + 1) X.A) (hm : X.mg x = some (.ref (C.cl c))) (hb : Binds X.K fd ps [])
    (ha : WA C W X (e :: es) ma) (hg : Gl X x := by rfl) (hdb : (x == ("__debug__" : Str)) = false := by decide) (he : starEach (e :: es) X.env = (false, eval e X.env) :: starEach es X.env := by rfl) (hpl : (backTo pos (starEach es X.env)).any (·.1) = false := by rfl) :
    WE C W X (.Call (.Name x p) (e :: es) [] pos) (mMake fM ma) :=
  fun hK hT => (pe_makeSD (by rw [hK]; exact M) F hr hg hm hb (fun σ => passAt hT σ) (ha hK hT) hdb he hpl).imp fun _ _ _ h => sim_make hn hc h
/-! ### methods that only read their instance -/
def mMeth (c : Nat) (m : Str) (f : List Dt → Out) (mo : ME) (ma : MA) : ME := fun sl cs => (mo sl cs).bind fun o cs1 => match objOf cs1 o with
  | some (c', ns, _) => if c' = c ∧ m ∉ ns then (ma sl cs1).bind fun ls cs2 => (match fzA cs2 (o :: ls) with
      | some (ds, cs3) => outR (f ds) sl cs3
      | none => .bad) else .bad
  | none => .bad
theorem lookup_none {f : Str} : ∀ {fs : List (Str × V)}, f ∉ fs.map (·.1) → fs.lookup f = none
  | [], _ => rfl
  | (n, u) :: fs, h => by
    simp only [List.map_cons, List.mem_cons, not_or] at h
    have hb : (f == n) = false := by simpa using h.1
    simp only [List.lookup, hb]
    exact lookup_none h.2
theorem sim_meth {f : List Dt → Out} {c n : Nat} {m : Str} {mo : ME} {ma : MA} (hn : ∀ ds, f ds ≠ .bad → ds.length = n) {σ : St} {H : Hp} {Q : VK} (h : tE C W (mMeth c m f mo ma) σ H Q) : tMethSD (C.cl c) m (spM C n f) (L2.WE W) (tE C W mo) (tA C W ma) σ H Q := by
  obtain ⟨B, ι, G, sl, cs, R, h⟩ := h
  refine ⟨B, ι, G, sl, cs, R, h.bind.mono fun o cs1 h1 v ι1 G1 H1 R1 e1 r1 => ?_⟩
  cases e : objOf cs1 o with
  | none => rw [e] at h1; exact h1.elim
  | some p =>
    obtain ⟨c', ns, ds0⟩ := p
    rw [e] at h1
    simp only at h1
    split at h1
    · rename_i hcc
      obtain ⟨rfl, hm⟩ := hcc
      obtain ⟨a, dx, fs, rfl, ho, hk, hr⟩ := objOf_ok R1 r1 e
      subst hk
      refine ⟨a, dx, fs, rfl, ho, lookup_none hm, ?_⟩
      refine ⟨B, ι1, G1, sl, cs1, R1, h1.bind.mono fun ls cs2 h2 vs ι2 G2 H2 R2 e2 r2 => ?_⟩
      cases ef : fzA cs2 (o :: ls) with
      | none => rw [ef] at h2; exact h2.elim
      | some p =>
        obtain ⟨ds, cs3⟩ := p
        rw [ef] at h2
        simp only at h2
        obtain ⟨G3, R3, e3, q3⟩ := fzA_ok (vs := .ref a :: vs) R2 (show RepLs C ι2 G2 (V.ref a :: vs) (o :: ls) from ⟨_, _, rfl, r1.mono e2, r2⟩) ef
        have hne : f ds ≠ .bad := fun z => by rw [z] at h2; exact h2.elim
        exact ⟨G3, ds, R3.hG, q3, hn ds hne, outR_ok R3 ((e1.trans e2).trans e3) h2⟩
    · exact h1.elim
theorem we_meth {X : Cx} {pl : Sem Bool} {k n : Nat} {f : Addr} {fd : FuncData} {ps : List Str} {fM : List Dt → Out} {m : Str} {pos apos : Pos} {o e : Expr} {es : List Expr} {mo : ME} {ma : MA} (c : Nat) (hc : Cls C.K (C.cl c)) (hm : Meth C.K (C.cl c) m f) (F : FnOk X.prog X.w X.K X.mg X.base (L2.CX X.prog X.w) k f fd ps (spM C n fM)) (hn : ∀ ds, fM ds ≠ .bad → ds.length = n) (hr : Room k X.A) (hb : Binds X.K fd ps [])
    (ho : WE C W X o mo) (ha : WA C W X (e :: es) ma) (hst : starEach (e :: es) X.env = (false, eval e X.env) :: starEach es X.env := by rfl) (hpl : (backTo pos (starEach es X.env)).any (·.1) = false := by rfl)
    (ht : eval (.Call (.Attribute o m apos) (e :: es) [] pos) X.env = (do
      let ov ← eval o X.env
      standAt apos.atName
      let (f, first) ← holding [ov] (getMethod ov m pl)
      callWith pos f first (backTo pos (starEach (e :: es) X.env)) (backToKw pos (keywordEach [] X.env))) := by rfl) :
    WE C W X (.Call (.Attribute o m apos) (e :: es) [] pos) (mMeth c m fM mo ma) :=
  fun hK hT => (pe_methSD (ho hK hT) (by rw [hK]; exact hc) (by rw [hK]; exact hm) F hr hb (fun σ => passAt hT σ) (ha hK hT) hst hpl ht).imp fun _ _ _ h => sim_meth hn h
theorem we_meth0 {X : Cx} {pl : Sem Bool} {k n : Nat} {f : Addr} {fd : FuncData} {ps : List Str} {fM : List Dt → Out} {m : Str} {pos apos : Pos} {o : Expr} {mo : ME} (c : Nat) (hc : Cls C.K (C.cl c)) (hm : Meth C.K (C.cl c) m f) (F : FnOk X.prog X.w X.K X.mg X.base (L2.CX X.prog X.w) k f fd ps (spM C n fM)) (hn : ∀ ds, fM ds ≠ .bad → ds.length = n) (hr : Room k X.A) (hb : Binds X.K fd ps [])
    (ho : WE C W X o mo)
    (ht : eval (.Call (.Attribute o m apos) [] [] pos) X.env = (do
      let ov ← eval o X.env
      standAt apos.atName
      let (f, first) ← holding [ov] (getMethod ov m pl)
      callWith pos f first (backTo pos (starEach [] X.env)) (backToKw pos (keywordEach [] X.env))) := by rfl) :
    WE C W X (.Call (.Attribute o m apos) [] [] pos) (mMeth c m fM mo mNil) :=
  fun hK hT => (pe_meth0SD (ho hK hT) (by rw [hK]; exact hc) (by rw [hK]; exact hm) F hr hb (fun σ => passAt hT σ) ht).imp fun σ H Q h => by
    have q := sim_meth (ma := mNil) hn h
    obtain ⟨B, ι, G, sl, cs, R, h⟩ := q
    refine ⟨B, ι, G, sl, cs, R, h.mono fun o cs1 h1 v ι1 G1 H1 R1 e1 r1 => ?_⟩
    obtain ⟨a, dx, fs, rfl, ho, hl, h2⟩ := h1 v ι1 G1 H1 R1 e1 r1
    refine ⟨a, dx, fs, rfl, ho, hl, ?_⟩
    obtain ⟨B2, ι2, G2, sl2, cs2, R2, h3⟩ := h2
    exact h3 [] ι2 G2 H1 R2 .refl rfl
end
end Mi

set_option Elab.async false
set_option linter.all false
set_option maxRecDepth 100000
set_option maxHeartbeats 4000000
namespace Mi
open PySem L2
section
variable {C : Cn} {W : WX}
/-! ### new objects -/
theorem new_lst {B : Bs} {ι : List Addr} {G H : Hp} {σ : St} {sl : Sl} {cs : Cs} {p : Addr} {vs : List V} {ds : List Dt} (R : Rel C B ι G H σ sl cs) (hp : H p = none) (r : Reps C G vs ds) :
    Rel C B (ι ++ [p]) G (upd H p (.lst vs)) σ sl (cs ++ [.lst ds]) ∧ Le ι G (ι ++ [p]) G ∧ RepL C (ι ++ [p]) G (.ref p) (.p cs.length) := by
  obtain ⟨R', le⟩ := R.newP (o := .lst vs) (c := .lst ds) hp ⟨R.gnone hp, vs, upd_same, r⟩
  exact ⟨R', le, p, by rw [← R.cl, List.getElem?_append_right (Nat.le_refl _)]; simp, rfl⟩
theorem new_pl {B : Bs} {ι : List Addr} {G H : Hp} {σ : St} {sl : Sl} {cs : Cs} {p : Addr} {vs : List V} {ns : List Nat} (R : Rel C B ι G H σ sl cs) (hp : H p = none) (r : RepLs C ι G vs (ns.map .p)) :
    Rel C B (ι ++ [p]) G (upd H p (.lst vs)) σ sl (cs ++ [.pl ns]) ∧ Le ι G (ι ++ [p]) G ∧ RepL C (ι ++ [p]) G (.ref p) (.p cs.length) := by
  have le0 : Le ι G (ι ++ [p]) G := ⟨⟨[p], rfl⟩, Same.refl _⟩
  have key : ∀ {ns : List Nat} {vs : List V}, RepLs C ι G vs (ns.map .p) → ∃ as : List Addr, vs = as.map V.ref ∧ as.length = ns.length ∧ ∀ (i n : Nat), ns[i]? = some n → ∃ b, (ι ++ [p])[n]? = some b ∧ as[i]? = some b := by
    intro ns
    induction ns with
    | nil => intro vs h; exact ⟨[], h, rfl, fun i n q => by simp at q⟩
    | cons n ns ih =>
      intro vs h
      obtain ⟨v, r, rfl, ⟨a, h1, rfl⟩, h3⟩ := h
      obtain ⟨as, rfl, hl, hs⟩ := ih h3
      refine ⟨a :: as, rfl, by simp [hl], fun i m q => ?_⟩
      cases i with
      | zero => simp at q; subst q; exact ⟨a, le0.get h1, rfl⟩
      | succ i => exact hs i m (by simpa using q)
  obtain ⟨as, rfl, hl, hs⟩ := key r
  obtain ⟨R', le⟩ := R.newP (o := .lst (as.map V.ref)) (c := .pl ns) hp ⟨R.gnone hp, as, upd_same, hl, hs⟩
  exact ⟨R', le, p, by rw [← R.cl, List.getElem?_append_right (Nat.le_refl _)]; simp, rfl⟩
theorem new_tup {B : Bs} {ι : List Addr} {G H : Hp} {σ : St} {sl : Sl} {cs : Cs} {p : Addr} {vs : List V} {ds : List Dt} (R : Rel C B ι G H σ sl cs) (hp : H p = none) (r : Reps C G vs ds) :
    ∃ G', Rel C B ι G' (upd H p (.tup vs)) σ sl cs ∧ Le ι G ι G' ∧ RepL C ι G' (.ref p) (.c (.tup ds)) := by
  obtain ⟨R', le⟩ := R.newC (o := .tup vs) hp
  exact ⟨_, R', le, rep_tup.mpr ⟨p, vs, rfl, upd_same, r.mono le.g⟩⟩
/-! ### ints -/
def i2 (g : Int → Int → Option Dt) : Lv → Lv → Cs → Option (Lv × Cs)
  | .c (.int i), .c (.int j), cs => (g i j).map fun d => (.c d, cs)
  | _, _, _ => none
theorem i2_inv {g : Int → Int → Option Dt} {x y l : Lv} {cs cs' : Cs} (h : i2 g x y cs = some (l, cs')) : ∃ i j d, x = .c (.int i) ∧ y = .c (.int j) ∧ g i j = some d ∧ l = .c d ∧ cs' = cs := by
  unfold i2 at h
  split at h
  · rename_i i j
    cases e : g i j with
    | none => rw [e] at h; simp at h
    | some d =>
      rw [e] at h
      simp at h
      exact ⟨i, j, d, rfl, rfl, e, h.1.symm, h.2.symm⟩
  · cases h
theorem o2_int {P : Int → Int → Prop} [∀ i j, Decidable (P i j)] {f : Int → Int → Int} : O2 C (i2 fun i j => if P i j then some (.int (f i j)) else none) (rI P fun i j => .int (f i j)) := by
  intro B ι G H σ sl cs cs' x y lx ly l Q R rx ry e k
  obtain ⟨i, j, d, rfl, rfl, e1, rfl, rfl⟩ := i2_inv e
  split at e1
  · rename_i hp
    cases e1
    exact ⟨i, j, repL_int rx, repL_int ry, hp, k _ _ _ _ R .refl mk_int⟩
  · cases e1
theorem o2_int0 {f : Int → Int → Int} : O2 C (i2 fun i j => some (.int (f i j))) (rI0 fun i j => .int (f i j)) := by
  intro B ι G H σ sl cs cs' x y lx ly l Q R rx ry e k
  obtain ⟨i, j, d, rfl, rfl, e1, rfl, rfl⟩ := i2_inv e
  cases e1
  exact ⟨i, j, repL_int rx, repL_int ry, k _ _ _ _ R .refl mk_int⟩
theorem o2_bool {f : Int → Int → Bool} : O2 C (i2 fun i j => some (.bl (f i j))) (rI0 fun i j => .bl (f i j)) := by
  intro B ι G H σ sl cs cs' x y lx ly l Q R rx ry e k
  obtain ⟨i, j, d, rfl, rfl, e1, rfl, rfl⟩ := i2_inv e
  cases e1
  exact ⟨i, j, repL_int rx, repL_int ry, k _ _ _ _ R .refl mk_bl⟩
/-- a list of closed things -/
def lstOf (cs : Cs) : Lv → Option (List Dt)
  | .c (.lst xs) => some xs
  | .p n => match cs[n]? with
    | some (.lst xs) => some xs
    | some (.fz (.lst xs)) => some xs
    | _ => none
  | _ => none
theorem lstOf_ok {B : Bs} {ι : List Addr} {G H : Hp} {σ : St} {sl : Sl} {cs : Cs} {v : V} {l : Lv} {xs : List Dt} (R : Rel C B ι G H σ sl cs) (r : RepL C ι G v l) (h : lstOf cs l = some xs) : ∃ a vs, v = .ref a ∧ H a = some (.lst vs) ∧ Reps C G vs xs := by
  cases l with
  | c d =>
    cases d with
    | lst ys =>
      simp [lstOf] at h; subst h
      obtain ⟨a, vs, rfl, h2, h3⟩ := repL_lst r
      exact ⟨a, vs, rfl, R.hG _ _ h2, h3⟩
    | _ => simp [lstOf] at h
  | p n =>
    obtain ⟨a, h1, rfl⟩ := r
    unfold lstOf at h
    simp only at h
    cases hc : cs[n]? with
    | none => rw [hc] at h; simp at h
    | some cl =>
      have cr := R.cr n a cl h1 hc
      rw [hc] at h
      cases cl with
      | lst ys =>
        simp at h; subst h
        obtain ⟨hg, vs, ho, hr⟩ := cr
        exact ⟨a, vs, rfl, ho, hr⟩
      | fz d =>
        cases d with
        | lst ys =>
          simp at h; subst h
          obtain ⟨a', vs, e, h2, h3⟩ := rep_lst.mp cr
          cases e
          exact ⟨a, vs, rfl, R.hG _ _ h2, h3⟩
        | _ => simp at h
      | _ => simp at h
def opCatL (x y : Lv) (cs : Cs) : Option (Lv × Cs) := match lstOf cs x, lstOf cs y with
  | some xs, some ys => if xs.length + ys.length ≤ sizeLine then some (.p cs.length, cs ++ [.lst (xs ++ ys)]) else none
  | _, _ => none
theorem o2_catL : O2 C opCatL rCat := by
  intro B ι G H σ sl cs cs' x y lx ly l Q R rx ry e k
  unfold opCatL at e
  split at e
  · rename_i xs ys ex ey
    split at e
    · rename_i hz
      simp at e
      obtain ⟨rfl, rfl⟩ := e
      obtain ⟨a, vs, rfl, h1, r1⟩ := lstOf_ok R rx ex
      obtain ⟨b, ws, rfl, h2, r2⟩ := lstOf_ok R ry ey
      refine ⟨a, b, vs, ws, rfl, rfl, h1, h2, by rw [r1.length, r2.length]; exact hz, fun p hp => ?_⟩
      obtain ⟨R', le, rl⟩ := new_lst R hp (r1.append r2)
      exact k _ _ _ _ R' le rl
    · cases e
  · cases e
def opCatS : Lv → Lv → Cs → Option (Lv × Cs)
  | .c (.str x), .c (.str y), cs => if x.length + y.length ≤ sizeLine then some (.c (.str (x ++ y)), cs) else none
  | _, _, _ => none
def rCatS : R2 := fun x y H Q => ∃ i j, x = .str i ∧ y = .str j ∧ i.length + j.length ≤ sizeLine ∧ Q (.str (i ++ j)) H
theorem o2_catS : O2 C opCatS rCatS := by
  intro B ι G H σ sl cs cs' x y lx ly l Q R rx ry e k
  unfold opCatS at e
  split at e
  · rename_i cs0 a b
    split at e
    · rename_i hz
      simp at e
      obtain ⟨rfl, rfl⟩ := e
      exact ⟨a, b, repL_str rx, repL_str ry, hz, k _ _ _ _ R .refl mk_str⟩
    · cases e
  · cases e
def opCatT : Lv → Lv → Cs → Option (Lv × Cs)
  | .c (.tup xs), .c (.tup ys), cs => if xs ≠ [] ∧ xs.length + ys.length ≤ sizeLine then some (.c (.tup (xs ++ ys)), cs) else none
  | _, _, _ => none
theorem o2_catT : O2 C opCatT (rCatT C.K) := by
  intro B ι G H σ sl cs cs' x y lx ly l Q R rx ry e k
  unfold opCatT at e
  split at e
  · rename_i cs0 xs ys
    split at e
    · rename_i hz
      simp at e
      obtain ⟨rfl, rfl⟩ := e
      obtain ⟨a, vs, rfl, h1, r1⟩ := repL_tup rx
      obtain ⟨b, ws, rfl, h2, r2⟩ := repL_tup ry
      have l1 := r1.length
      have l2 := r2.length
      refine ⟨a, b, vs, ws, rfl, rfl, SqT.of (R.hG _ _ h1), SqT.of (R.hG _ _ h2), ?_, by rw [l1, l2]; exact hz.2, fun hw => ?_, fun hw p hp => ?_⟩
      · intro z; subst z
        exact hz.1 (List.eq_nil_of_length_eq_zero l1.symm)
      · subst hw
        have : ys = [] := List.eq_nil_of_length_eq_zero l2.symm
        subst this
        rw [List.append_nil] at k
        exact k _ _ _ _ R .refl rx
      · obtain ⟨G', R', le, rl⟩ := new_tup R hp (r1.append r2)
        exact k _ _ _ _ R' le rl
    · cases e
  · cases e
def opAdd : Lv → Lv → Cs → Option (Lv × Cs) := fun x y cs => (i2 (fun i j => some (.int (i + j))) x y cs).orElse fun _ => (opCatL x y cs).orElse fun _ => (opCatS x y cs).orElse fun _ => opCatT x y cs
theorem we_add {X : Cx} {a b : Expr} {pos : Pos} {ma mb : ME} (ha : WE C W X a ma) (hb : WE C W X b mb) : WE C W X (.BinOp a .Add b pos) (mOp2 opAdd ma mb) :=
  we_op (r := fun x y H Q => rI0 (fun i j => .int (i + j)) x y H Q ∨ (rCat x y H Q ∨ (rCatS x y H Q ∨ rCatT C.K x y H Q))) (fun hK => op_add.or (op_cat.or (OpR.or op_add_str (hK ▸ op_catT)))) (o2_int0.or (o2_catL.or (o2_catS.or o2_catT))) ha hb
def opSub := i2 fun i j => some (.int (i - j))
theorem we_sub {X : Cx} {a b : Expr} {pos : Pos} {ma mb : ME} (ha : WE C W X a ma) (hb : WE C W X b mb) : WE C W X (.BinOp a .Sub b pos) (mOp2 opSub ma mb) := we_op (fun _ => op_sub) o2_int0 ha hb
instance (i j : Int) : Decidable (CMulW i j) := by unfold CMulW; infer_instance
instance (i j : Int) : Decidable (CDivW i j) := by unfold CDivW; infer_instance
instance (i j : Int) : Decidable (CPow i j) := by unfold CPow; infer_instance
def opRepL (x y : Lv) (cs : Cs) : Option (Lv × Cs) := match y with
  | .c (.int k) => (lstOf cs x).bind fun xs => if smallI k = true ∧ xs.length * k.toNat ≤ sizeLine then some (.p cs.length, cs ++ [.lst (List.replicate k.toNat xs).flatten]) else none
  | _ => none
theorem Reps.flat {G : Hp} {vs : List V} {ds : List Dt} (h : Reps C G vs ds) : ∀ n : Nat, Reps C G (List.replicate n vs).flatten (List.replicate n ds).flatten
  | 0 => by simp
  | n + 1 => by
    rw [List.replicate_succ, List.replicate_succ, List.flatten_cons, List.flatten_cons]
    exact h.append (h.flat n)
theorem o2_repL : O2 C opRepL rRep := by
  intro B ι G H σ sl cs cs' x y lx ly l Q R rx ry e kk
  unfold opRepL at e
  split at e
  · rename_i k
    cases ex : lstOf cs lx with
    | none => rw [ex] at e; simp at e
    | some xs =>
      rw [ex] at e
      simp only [Option.bind_some] at e
      split at e
      · rename_i hz
        simp at e
        obtain ⟨rfl, rfl⟩ := e
        obtain ⟨a, vs, rfl, h1, r1⟩ := lstOf_ok R rx ex
        obtain ⟨q1, q2⟩ := smallI_ok hz.1
        refine ⟨a, k, vs, rfl, repL_int ry, h1, by omega, by omega, by rw [r1.length]; exact hz.2, fun p hp => ?_⟩
        obtain ⟨R', le, rl⟩ := new_lst R hp (r1.flat k.toNat)
        exact kk _ _ _ _ R' le rl
      · cases e
  · cases e
def opMul : Lv → Lv → Cs → Option (Lv × Cs) := fun x y cs => (i2 (fun i j => if CMulW i j then some (.int (i * j)) else none) x y cs).orElse fun _ => opRepL x y cs
theorem we_mul {X : Cx} {a b : Expr} {pos : Pos} {ma mb : ME} (ha : WE C W X a ma) (hb : WE C W X b mb) : WE C W X (.BinOp a .Mult b pos) (mOp2 opMul ma mb) :=
  we_op (r := fun x y H Q => rI CMulW (fun i j => .int (i * j)) x y H Q ∨ rRep x y H Q) (fun hK => op_mulW.or op_rep) (o2_int.or o2_repL) ha hb
def opMod := i2 fun i j => if 0 < j then some (.int (i % j)) else none
theorem we_mod {X : Cx} {a b : Expr} {pos : Pos} {ma mb : ME} (ha : WE C W X a ma) (hb : WE C W X b mb) : WE C W X (.BinOp a .Mod b pos) (mOp2 opMod ma mb) := we_op (fun _ => op_mod) (o2_int (P := fun _ j => 0 < j)) ha hb
def opDiv := i2 fun i j => if CDivW i j then some (.int (i / j)) else none
theorem we_div {X : Cx} {a b : Expr} {pos : Pos} {ma mb : ME} (ha : WE C W X a ma) (hb : WE C W X b mb) : WE C W X (.BinOp a .FloorDiv b pos) (mOp2 opDiv ma mb) := we_op (fun _ => op_fdivW) o2_int ha hb
def opPow := i2 fun i j => if CPow i j then some (.int (i ^ j.toNat)) else none
theorem we_pow {X : Cx} {a b : Expr} {pos : Pos} {ma mb : ME} (ha : WE C W X a ma) (hb : WE C W X b mb) : WE C W X (.BinOp a .Pow b pos) (mOp2 opPow ma mb) := we_op (fun _ => op_pow) o2_int ha hb
def opNeg : Lv → Cs → Option (Lv × Cs)
  | .c (.int i), cs => some (.c (.int (-i)), cs)
  | _, _ => none
/-! ### order -/
def opLt := i2 fun i j => some (.bl (decide (i < j)))
def opLe := i2 fun i j => some (.bl (decide (i ≤ j)))
def opGt := i2 fun i j => some (.bl (decide (j < i)))
def opGe := i2 fun i j => some (.bl (decide (j ≤ i)))
theorem o2_lt : O2 C opLt (rI0 fun i j => .bl (decide (i < j))) := o2_bool
theorem o2_le : O2 C opLe (rI0 fun i j => .bl (decide (i ≤ j))) := o2_bool
theorem o2_gt : O2 C opGt (rI0 fun i j => .bl (decide (j < i))) := o2_bool
theorem o2_ge : O2 C opGe (rI0 fun i j => .bl (decide (j ≤ i))) := o2_bool
/-! ### == of data -/
mutual
def py : Dt → PyData
  | .non => .none
  | .bl b => .bool b
  | .int i => .int i
  | .str x => .str x
  | .tup xs => .tuple (pys xs)
  | .lst xs => .list (pys xs)
  | .scr ns => .list (ns.map .int)
  | _ => .dict []
def pys : List Dt → List PyData
  | [] => []
  | d :: ds => py d :: pys ds
end
mutual
theorem py_ok {G H : Hp} (hG : Same G H) : ∀ {d : Dt} {v : V}, Rep C G v d → (py d).canLay0 = true → Dp C.K H v (py d)
  | .non, v, r, h => by rw [rep_non.mp r]; unfold py; exact .non
  | .bl b, v, r, h => by rw [rep_bl.mp r]; unfold py; exact .bl b
  | .int b, v, r, h => by rw [rep_int.mp r]; unfold py; exact .int b
  | .str b, v, r, h => by rw [rep_str.mp r]; unfold py; exact .str b
  | .tup xs, v, r, h => by
    obtain ⟨a, vs, rfl, h2, h3⟩ := rep_tup.mp r
    unfold py at h ⊢
    exact .tup (SqT.of (hG _ _ h2)) (pys_ok hG h3 (by simpa [PyData.canLay0] using h))
  | .lst xs, v, r, h => by
    obtain ⟨a, vs, rfl, h2, h3⟩ := rep_lst.mp r
    unfold py at h ⊢
    exact .lst (SqL.of (hG _ _ h2)) (pys_ok hG h3 (by simpa [PyData.canLay0] using h))
  | .scr ns, v, r, h => by
    obtain ⟨a, rfl, h2⟩ := rep_scr.mp r
    unfold py
    refine .lst (hG.seq h2) ?_
    clear h h2 r
    induction ns with
    | nil => exact .nil
    | cons n ns ih => exact .cons (.int n) ih
  | .ty _, v, r, h => by unfold py at h; simp [PyData.canLay0] at h
  | .cls _, v, r, h => by unfold py at h; simp [PyData.canLay0] at h
  | .dic _ _, v, r, h => by unfold py at h; simp [PyData.canLay0] at h
  | .dct _ _, v, r, h => by unfold py at h; simp [PyData.canLay0] at h
  | .obj _ _ _, v, r, h => by unfold py at h; simp [PyData.canLay0] at h
theorem pys_ok {G H : Hp} (hG : Same G H) : ∀ {ds : List Dt} {vs : List V}, Reps C G vs ds → PyData.canLayAll0 (pys ds) = true → DpAll C.K H vs (pys ds)
  | [], vs, r, h => by rw [reps_nil.mp r]; unfold pys; exact .nil
  | d :: ds, vs, r, h => by
    obtain ⟨v, r', rfl, h2, h3⟩ := reps_cons.mp r
    unfold pys at h ⊢
    have h' : (py d).canLay0 = true ∧ PyData.canLayAll0 (pys ds) = true := by simpa [PyData.canLayAll0] using h
    exact .cons (py_ok hG h2 h'.1) (pys_ok hG h3 h'.2)
end
/-- a value as data, the cells read through -/
def peekL (f : Cs → Nat → Option Dt) (cs : Cs) : List Nat → Option (List Dt)
  | [] => some []
  | n :: ns => (f cs n).bind fun d => (peekL f cs ns).map fun ds => d :: ds
def peekP : Nat → Cs → Nat → Option Dt
  | 0, _, _ => none
  | k + 1, cs, n => match cs[n]? with
    | some (.lst xs) => some (.lst xs)
    | some (.fz d) => some d
    | some (.pl ns) => (peekL (peekP k) cs ns).map fun ds => .lst ds
    | _ => none
def peek (cs : Cs) : Lv → Option Dt
  | .c d => some d
  | .p n => peekP 4 cs n
theorem peekP_ok {B : Bs} {ι : List Addr} {G H : Hp} {σ : St} {sl : Sl} {cs : Cs} (R : Rel C B ι G H σ sl cs) : ∀ (k n : Nat) (a : Addr) (d : Dt), ι[n]? = some a → peekP k cs n = some d → (py d).canLay0 = true → Dp C.K H (.ref a) (py d)
  | 0, n, a, d, h1, h, _ => by cases h
  | k + 1, n, a, d, h1, h, hc => by
    unfold peekP at h
    cases e : cs[n]? with
    | none => rw [e] at h; cases h
    | some cl =>
      have cr := R.cr n a cl h1 e
      rw [e] at h
      cases cl with
      | lst xs =>
        simp at h; subst h
        obtain ⟨hg, vs, ho, hr⟩ := cr
        unfold py at hc ⊢
        exact .lst (SqL.of ho) (pys_ok R.hG hr (by simpa [PyData.canLay0] using hc))
      | fz d' =>
        simp at h; subst h
        exact py_ok R.hG cr hc
      | pl ns =>
        simp only at h
        cases e2 : peekL (peekP k) cs ns with
        | none => rw [e2] at h; simp at h
        | some ds =>
          rw [e2] at h
          simp at h; subst h
          obtain ⟨hg, as, ho, hl, hs⟩ := cr
          unfold py at hc ⊢
          have hc' : PyData.canLayAll0 (pys ds) = true := by simpa [PyData.canLay0] using hc
          refine .lst (SqL.of ho) ?_
          clear ho e hc h1
          have key : ∀ (ns : List Nat) (as : List Addr) (ds : List Dt), as.length = ns.length → (∀ (i n : Nat), ns[i]? = some n → ∃ b, ι[n]? = some b ∧ as[i]? = some b) → peekL (peekP k) cs ns = some ds → PyData.canLayAll0 (pys ds) = true → DpAll C.K H (as.map V.ref) (pys ds) := by
            intro ns
            induction ns with
            | nil =>
              intro as ds hl hs e hc
              have : as = [] := List.eq_nil_of_length_eq_zero hl
              subst this
              simp [peekL] at e; subst e
              unfold pys
              exact .nil
            | cons n ns ih =>
              intro as ds hl hs e hc
              cases as with
              | nil => simp at hl
              | cons b as =>
                unfold peekL at e
                cases e1 : peekP k cs n with
                | none => rw [e1] at e; simp at e
                | some d1 =>
                  rw [e1] at e
                  simp only [Option.bind_some] at e
                  cases e2 : peekL (peekP k) cs ns with
                  | none => rw [e2] at e; simp at e
                  | some ds2 =>
                    rw [e2] at e
                    simp at e; subst e
                    obtain ⟨b', q1, q2⟩ := hs 0 n rfl
                    simp at q2; subst q2
                    unfold pys at hc ⊢
                    have h' : (py d1).canLay0 = true ∧ PyData.canLayAll0 (pys ds2) = true := by simpa [PyData.canLayAll0] using hc
                    exact .cons (peekP_ok R k n b d1 q1 e1 h'.1) (ih as ds2 (by simpa using hl) (fun i m q => hs (i + 1) m (by simpa using q)) e2 h'.2)
          exact key ns as ds hl hs e2 hc'
      | _ => cases h
theorem peek_ok {B : Bs} {ι : List Addr} {G H : Hp} {σ : St} {sl : Sl} {cs : Cs} {v : V} {l : Lv} {d : Dt} (R : Rel C B ι G H σ sl cs) (r : RepL C ι G v l) (h : peek cs l = some d) (hc : (py d).canLay0 = true) : Dp C.K H v (py d) := by
  cases l with
  | c d' =>
    simp [peek] at h; subst h
    exact py_ok R.hG r hc
  | p n =>
    obtain ⟨a, h1, rfl⟩ := r
    exact peekP_ok R 4 n a d h1 h hc
def opEq (neg : Bool) (x y : Lv) (cs : Cs) : Option (Lv × Cs) := (peek cs x).bind fun d => (peek cs y).bind fun e => if SeqAt.shaped (py d) = true ∧ SeqAt.shaped (py e) = true then some (.c (.bl (if neg = true then !PyData.eqv (py d) (py e) else PyData.eqv (py d) (py e))), cs) else none
theorem o2_eq : O2 C (opEq false) (rEqD C.K) := by
  intro B ι G H σ sl cs cs' x y lx ly l Q R rx ry e k
  unfold opEq at e
  cases ex : peek cs lx with
  | none => rw [ex] at e; simp at e
  | some d =>
    cases ey : peek cs ly with
    | none => rw [ex, ey] at e; simp at e
    | some d' =>
      rw [ex, ey] at e
      simp only [Option.bind_some] at e
      split at e
      · rename_i hs
        simp at e
        obtain ⟨rfl, rfl⟩ := e
        exact ⟨py d, py d', peek_ok R rx ex (SeqAt.canLay_of_shaped hs.1), peek_ok R ry ey (SeqAt.canLay_of_shaped hs.2), hs.1, hs.2, k _ _ _ _ R .refl mk_bl⟩
      · cases e
theorem o2_ne : O2 C (opEq true) (rNeD C.K) := by
  intro B ι G H σ sl cs cs' x y lx ly l Q R rx ry e k
  unfold opEq at e
  cases ex : peek cs lx with
  | none => rw [ex] at e; simp at e
  | some d =>
    cases ey : peek cs ly with
    | none => rw [ex, ey] at e; simp at e
    | some d' =>
      rw [ex, ey] at e
      simp only [Option.bind_some] at e
      split at e
      · rename_i hs
        simp at e
        obtain ⟨rfl, rfl⟩ := e
        exact ⟨py d, py d', peek_ok R rx ex (SeqAt.canLay_of_shaped hs.1), peek_ok R ry ey (SeqAt.canLay_of_shaped hs.2), hs.1, hs.2, k _ _ _ _ R .refl mk_bl⟩
      · cases e
end
end Mi

set_option Elab.async false
set_option linter.all false
set_option maxRecDepth 100000
set_option maxHeartbeats 4000000
namespace Mi
open PySem L2
section
variable {C : Cn} {W : WX}
/-! ### dicts -/
def keyOf : Lv → Option Key
  | .c (.int i) => some (.inl i)
  | .c (.str x) => some (.inr x)
  | _ => none
theorem keyOf_ok {ι : List Addr} {G : Hp} {v : V} {l : Lv} {k : Key} (r : RepL C ι G v l) (h : keyOf l = some k) : v = kV k := by
  unfold keyOf at h
  split at h
  · cases h; exact repL_int r
  · cases h; exact repL_str r
  · cases h
def dicOf (cs : Cs) : Lv → Option (List Key × List Dt)
  | .c (.dic ks vs) => some (ks, vs)
  | .p n => match cs[n]? with
    | some (.dic ks vs) => some (ks, vs)
    | some (.fz (.dic ks vs)) => some (ks, vs)
    | _ => none
  | _ => none
theorem dicOf_ok {B : Bs} {ι : List Addr} {G H : Hp} {σ : St} {sl : Sl} {cs : Cs} {v : V} {l : Lv} {ks : List Key} {ds : List Dt} (R : Rel C B ι G H σ sl cs) (r : RepL C ι G v l) (h : dicOf cs l = some (ks, ds)) : ∃ a kvs, v = .ref a ∧ H a = some (.dK kvs) ∧ kvs.map (·.1) = ks ∧ ks.Nodup ∧ Reps C G (kvs.map (·.2)) ds := by
  cases l with
  | c d =>
    cases d with
    | dic ks' vs' =>
      simp [dicOf] at h
      obtain ⟨rfl, rfl⟩ := h
      obtain ⟨a, kvs, rfl, h2, h3⟩ := repL_dic r
      exact ⟨a, kvs, rfl, R.hG _ _ h2, h3⟩
    | _ => simp [dicOf] at h
  | p n =>
    obtain ⟨a, h1, rfl⟩ := r
    unfold dicOf at h
    simp only at h
    cases hc : cs[n]? with
    | none => rw [hc] at h; simp at h
    | some cl =>
      have cr := R.cr n a cl h1 hc
      rw [hc] at h
      cases cl with
      | dic ks' vs' =>
        simp at h
        obtain ⟨rfl, rfl⟩ := h
        obtain ⟨hg, kvs, ho, hk⟩ := cr
        exact ⟨a, kvs, rfl, ho, hk⟩
      | fz d =>
        cases d with
        | dic ks' vs' =>
          simp at h
          obtain ⟨rfl, rfl⟩ := h
          obtain ⟨a', kvs, e, h2, h3⟩ := rep_dic.mp cr
          cases e
          exact ⟨a, kvs, rfl, R.hG _ _ h2, h3⟩
        | _ => simp at h
      | _ => simp at h
def lookK : List Key → List Dt → Key → Option Dt
  | k :: ks, d :: ds, f => if k = f then some d else lookK ks ds f
  | _, _, _ => none
theorem lookK_ok {G : Hp} {f : Key} : ∀ {kvs : List (Key × V)} {ds : List Dt}, Reps C G (kvs.map (·.2)) ds → match lookK (kvs.map (·.1)) ds f with
    | some d => ∃ v, valV kvs f = some v ∧ Rep C G v d
    | none => valV kvs f = none
  | [], ds, hr => by
    cases ds <;> simp [lookK, valV]
  | (n, u) :: kvs, ds, hr => by
    cases ds with
    | nil => rw [reps_nil] at hr; cases hr
    | cons d' ds =>
      obtain ⟨v, r, e, h2, h3⟩ := reps_cons.mp hr
      cases e
      simp only [List.map_cons, lookK]
      by_cases hf : n = f
      · subst hf
        simp only [if_true]
        exact ⟨u, valV_pos rfl, h2⟩
      · rw [if_neg hf]
        have ih := lookK_ok (f := f) h3
        rw [valV_neg hf]
        exact ih
def putKD (f : Key) (d : Dt) : List Key → List Dt → List Key × List Dt
  | k :: ks, e :: es => if k = f then (k :: ks, d :: es) else let p := putKD f d ks es; (k :: p.1, e :: p.2)
  | _, _ => ([f], [d])
theorem putK_cons {k f : Key} {u v : V} {r : List (Key × V)} (h : k ≠ f) : putK ((k, u) :: r) f v = (k, u) :: putK r f v := by
  unfold putK
  simp only [List.any_cons, h, decide_false, Bool.false_or, List.map_cons, if_false]
  split <;> simp
theorem putK_none {f : Key} {v : V} : ∀ {r : List (Key × V)}, f ∉ r.map (·.1) → (r.map fun kv => if kv.1 = f then (kv.1, v) else kv) = r
  | [], _ => rfl
  | (k, u) :: r, h => by
    simp only [List.map_cons, List.mem_cons, not_or] at h ⊢
    rw [if_neg (fun z => h.1 z.symm), putK_none h.2]
theorem putK_map {f : Key} {v : V} {d : Dt} {G : Hp} (hv : Rep C G v d) : ∀ {kvs : List (Key × V)} {ds : List Dt}, (kvs.map (·.1)).Nodup → Reps C G (kvs.map (·.2)) ds → (putK kvs f v).map (·.1) = (putKD f d (kvs.map (·.1)) ds).1 ∧ Reps C G ((putK kvs f v).map (·.2)) (putKD f d (kvs.map (·.1)) ds).2
  | [], ds, _, hr => by
    have : ds = [] := by
      cases ds with
      | nil => rfl
      | cons d ds => obtain ⟨v, r, e, _⟩ := reps_cons.mp hr; cases e
    subst this
    exact ⟨rfl, Reps.cons hv (reps_nil.mpr rfl)⟩
  | (g, x) :: r, ds, hn, hr => by
    cases ds with
    | nil => rw [reps_nil] at hr; cases hr
    | cons e es =>
      obtain ⟨v', r', e1, h2, h3⟩ := reps_cons.mp hr
      cases e1
      by_cases h : g = f
      · subst h
        have hn' : g ∉ r.map (·.1) := (List.nodup_cons.mp hn).1
        have q1 : putK ((g, x) :: r) g v = (g, v) :: r := by
          unfold putK
          simp only [List.any_cons, decide_true, Bool.true_or, if_true, List.map_cons]
          rw [putK_none hn']
        have q2 : putKD g d ((((g, x) :: r).map (·.1))) (e :: es) = (g :: r.map (·.1), d :: es) := by simp [putKD]
        rw [q1, q2]
        exact ⟨rfl, Reps.cons hv h3⟩
      · obtain ⟨i1, i2⟩ := putK_map hv (List.nodup_cons.mp hn).2 h3
        have q2 : putKD f d ((((g, x) :: r).map (·.1))) (e :: es) = (g :: (putKD f d (r.map (·.1)) es).1, e :: (putKD f d (r.map (·.1)) es).2) := by simp [putKD, h]
        rw [putK_cons h, q2]
        exact ⟨by simp [i1], Reps.cons h2 i2⟩
theorem putKD_nd (f : Key) (d : Dt) : ∀ (ns : List Key) (ds : List Dt), ns.length = ds.length → ns.Nodup → (putKD f d ns ds).1.Nodup ∧ ∀ n, n ∈ (putKD f d ns ds).1 → n ∈ ns ∨ n = f
  | [], [], _, _ => by simp [putKD]
  | n :: ns, e :: es, hl, hn => by
    by_cases h : n = f
    · subst h
      simp only [putKD, if_true]
      exact ⟨hn, fun m hm => .inl hm⟩
    · simp only [putKD, if_neg h]
      have hn' := List.nodup_cons.mp hn
      obtain ⟨i1, i2⟩ := putKD_nd f d ns es (by simpa using hl) hn'.2
      refine ⟨List.nodup_cons.mpr ⟨fun hm => ?_, i1⟩, fun m hm => ?_⟩
      · rcases i2 n hm with q | q
        · exact hn'.1 q
        · exact h q
      · rcases List.mem_cons.mp hm with q | q
        · exact .inl (by simp [q])
        · rcases i2 m q with q | q
          · exact .inl (by simp [q])
          · exact .inr q
  | [], _ :: _, hl, _ => by simp at hl
  | _ :: _, [], hl, _ => by simp at hl
/-- {} -/
def mDNew : ME := fun _ cs => .ok (.p cs.length) (cs ++ [.dic [] []])
theorem we_dnew {X : Cx} {pos : Pos} : WE C W X (.Dict [] [] pos) mDNew := fun _ _ => pe_dnewK.imp fun σ H Q h => by
  obtain ⟨B, ι, G, sl, cs, R, h⟩ := h
  intro p hp
  obtain ⟨R', le⟩ := R.newP (o := .dK []) (c := .dic [] []) hp ⟨R.gnone hp, [], upd_same, rfl, List.nodup_nil, reps_nil.mpr rfl⟩
  exact h _ _ _ _ R' le ⟨p, by rw [← R.cl, List.getElem?_append_right (Nat.le_refl _)]; simp, rfl⟩
/-- d[k] -/
def opDGet (x y : Lv) (cs : Cs) : Option (Lv × Cs) := (dicOf cs x).bind fun p => (keyOf y).bind fun k => (lookK p.1 p.2 k).map fun d => (.c d, cs)
def rDGet : R2 := fun x y H Q => ∃ a v, x = .ref a ∧ DGet H a y (some v) ∧ Q v H
theorem o2_dget : O2 C opDGet rDGet := by
  intro B ι G H σ sl cs cs' x y lx ly l Q R rx ry e k
  unfold opDGet at e
  cases ed : dicOf cs lx with
  | none => rw [ed] at e; simp at e
  | some p =>
    obtain ⟨ks, ds⟩ := p
    cases ek : keyOf ly with
    | none => rw [ed, ek] at e; simp at e
    | some f =>
      rw [ed, ek] at e
      simp only [Option.bind_some] at e
      obtain ⟨a, kvs, rfl, ho, hk, hn, hr⟩ := dicOf_ok R rx ed
      subst hk
      have q := lookK_ok (f := f) hr
      cases el : lookK (kvs.map (·.1)) ds f with
      | none => rw [el] at e; simp at e
      | some d =>
        rw [el] at e q
        simp at e
        obtain ⟨rfl, rfl⟩ := e
        obtain ⟨v, hv, rv⟩ := q
        refine ⟨a, v, rfl, ?_, k _ _ _ _ R .refl rv⟩
        rw [keyOf_ok ry ek, ← hv]
        exact DGet.k ho
theorem we_dget {X : Cx} {o i : Expr} {pos : Pos} {mo mi : ME} (hu : X.A.units + 1 < cLine) (ho : WE C W X o mo) (hi : WE C W X i mi) (hs : NoSl i := by intro _ _; rfl) : WE C W X (.Subscript o i pos) (mOp2 opDGet mo mi) :=
  fun hK hT => (pe_dget hu (ho hK hT) (hi hK hT) hs).imp fun _ _ _ h => sim_op2 (r := rDGet) o2_dget h
/-- d[k] = v -/
def mDPut (mo mi mv : ME) : MS := fun sl cs => (mv sl cs).bind fun l cs1 => match fzD 4 cs1 l with
  | some (d, cs2) => (mo sl cs2).bind fun o cs3 => (mi sl cs3).bind fun i cs4 => match o, keyOf i with
    | .p n, some k => (match cs4[n]? with
      | some (.dic ks ds) => if ks.length < sizeLine then .ok (.nx sl) (cs4.set n (.dic (putKD k d ks ds).1 (putKD k d ks ds).2)) else .bad
      | _ => .bad)
    | _, _ => .bad
  | none => .bad
theorem ws_dput {X : Cx} {o i e : Expr} {pos pos' : Pos} {mo mi mv : ME} (hu : X.A.units + 1 < cLine) (ho : WE C W X o mo) (hi : WE C W X i mi) (hv : WE C W X e mv) (hs : swapsWith e (some (.Subscript o i pos')) pos.line X.env = pure false := by rfl) : WS C W X (.Assign [.Subscript o i pos'] e pos) (mDPut mo mi mv) :=
  fun hK hT hP => (ps_dput hu (ho hK hT) (hi hK hT) (hv hK hT) hs).imp fun D σ H h => by
  obtain ⟨B, ι, G, sl, cs, R0, h⟩ := h
  refine ⟨B, ι, G, sl, cs, R0, (PostS.bind h).mono fun l cs1 h1 v ι1 G1 H1 R1 e1 r1 => ?_⟩
  cases ef : fzD 4 cs1 l with
  | none => rw [ef] at h1; exact h1.elim
  | some p =>
    obtain ⟨d, cs2⟩ := p
    rw [ef] at h1
    simp only at h1
    obtain ⟨G2, R2, e2, q2⟩ := (fzD_ok 4).run R1 r1 ef
    refine ⟨B, ι1, G2, sl, cs2, R2, (PostS.bind h1).mono fun l3 cs3 h3 v3 ι3 G3 H3 R3 e3 r3 => ?_⟩
    refine ⟨B, ι3, G3, sl, cs3, R3, (PostS.bind h3).mono fun l4 cs4 h4 v4 ι4 G4 H4 R4 e4 r4 => ?_⟩
    split at h4
    · rename_i n k ek
      obtain ⟨a, ha, rfl⟩ := r3
      have ha4 := e4.get ha
      cases hcell : cs4[n]? with
      | none => rw [hcell] at h4; exact h4.elim
      | some cl =>
        rw [hcell] at h4
        have cr := R4.cr n a cl ha4 hcell
        cases cl with
        | dic ks ds =>
          simp only at h4
          split at h4
          · rename_i hz
            obtain ⟨hg, kvs, hob, hk, hnd, hr⟩ := cr
            subst hk
            obtain ⟨i1, i2⟩ := putK_map (f := k) (Rep.mono (e3.trans e4).g q2) hnd hr
            refine ⟨a, _, rfl, ?_, h4 σ ι4 G4 _ (R4.mutP (o := .dK (putK kvs k v)) ha4 hg ⟨hg, _, upd_same, i1, (putKD_nd k d _ ds (by rw [← hr.length]; simp) hnd).1, i2⟩) ((((e1.trans e2).trans e3)).trans e4)⟩
            rw [keyOf_ok r4 ek]
            exact DPut.k hob (by simpa using hz)
          · exact h4.elim
        | _ => exact h4.elim
    · exact h4.elim
/-! ### in, not in -/
def eqF : Dt → Dt → Option Bool
  | .non, .non => some true
  | .bl a, .bl b => some (a == b)
  | .bl a, .int b => some ((if a then 1 else 0) == b)
  | .int a, .bl b => some (a == (if b then 1 else 0))
  | .int a, .int b => some (a == b)
  | .str a, .str b => some (a == b)
  | .non, .bl _ | .non, .int _ | .non, .str _ | .bl _, .non | .bl _, .str _ | .int _, .non | .int _, .str _ | .str _, .non | .str _, .bl _ | .str _, .int _ => some false
  | _, _ => none
/-- flat x among flat items -/
def anyF (x : Dt) : List Lv → Option Bool
  | [] => some false
  | .c d :: ls => (eqF d x).bind fun b => (anyF x ls).map fun r => b || r
  | .p _ :: _ => none
def flatD : Dt → Bool
  | .non | .bl _ | .int _ | .str _ => true
  | _ => false
theorem eqF_ok {G : Hp} {v u : V} {d e : Dt} {b : Bool} (rv : Rep C G v d) (ru : Rep C G u e) (h : eqF d e = some b) : flatV v = true ∧ flatV u = true ∧ eqV v u = b := by
  cases d with
  | non =>
    cases e with
    | non => simp [eqF] at h; subst h; rw [rep_non.mp rv, rep_non.mp ru]; exact ⟨rfl, rfl, rfl⟩
    | bl y => simp [eqF] at h; subst h; rw [rep_non.mp rv, rep_bl.mp ru]; exact ⟨rfl, rfl, rfl⟩
    | int y => simp [eqF] at h; subst h; rw [rep_non.mp rv, rep_int.mp ru]; exact ⟨rfl, rfl, rfl⟩
    | str y => simp [eqF] at h; subst h; rw [rep_non.mp rv, rep_str.mp ru]; exact ⟨rfl, rfl, rfl⟩
    | _ => simp [eqF] at h
  | bl x =>
    cases e with
    | non => simp [eqF] at h; subst h; rw [rep_bl.mp rv, rep_non.mp ru]; exact ⟨rfl, rfl, rfl⟩
    | bl y => simp [eqF] at h; rw [rep_bl.mp rv, rep_bl.mp ru]; exact ⟨rfl, rfl, h⟩
    | int y => simp only [eqF, Option.some.injEq] at h; rw [rep_bl.mp rv, rep_int.mp ru]; exact ⟨rfl, rfl, h⟩
    | str y => simp [eqF] at h; subst h; rw [rep_bl.mp rv, rep_str.mp ru]; exact ⟨rfl, rfl, rfl⟩
    | _ => simp [eqF] at h
  | int x =>
    cases e with
    | non => simp [eqF] at h; subst h; rw [rep_int.mp rv, rep_non.mp ru]; exact ⟨rfl, rfl, rfl⟩
    | bl y => simp only [eqF, Option.some.injEq] at h; rw [rep_int.mp rv, rep_bl.mp ru]; exact ⟨rfl, rfl, h⟩
    | int y => simp only [eqF, Option.some.injEq] at h; rw [rep_int.mp rv, rep_int.mp ru]; exact ⟨rfl, rfl, h⟩
    | str y => simp [eqF] at h; subst h; rw [rep_int.mp rv, rep_str.mp ru]; exact ⟨rfl, rfl, rfl⟩
    | _ => simp [eqF] at h
  | str x =>
    cases e with
    | non => simp [eqF] at h; subst h; rw [rep_str.mp rv, rep_non.mp ru]; exact ⟨rfl, rfl, rfl⟩
    | bl y => simp [eqF] at h; subst h; rw [rep_str.mp rv, rep_bl.mp ru]; exact ⟨rfl, rfl, rfl⟩
    | int y => simp [eqF] at h; subst h; rw [rep_str.mp rv, rep_int.mp ru]; exact ⟨rfl, rfl, rfl⟩
    | str y => simp only [eqF, Option.some.injEq] at h; rw [rep_str.mp rv, rep_str.mp ru]; exact ⟨rfl, rfl, h⟩
    | _ => simp [eqF] at h
  | _ => cases e <;> simp [eqF] at h
theorem anyF_ok {ι : List Addr} {G : Hp} {x : V} {d : Dt} (rx : Rep C G x d) : ∀ {ls : List Lv} {vs : List V} {b : Bool}, RepLs C ι G vs ls → anyF d ls = some b → vs.all flatV = true ∧ inV x vs = b
  | [], vs, b, r, h => by
    have e : vs = [] := r
    subst e
    simp [anyF] at h; subst h
    exact ⟨rfl, rfl⟩
  | .c e :: ls, vs, b, ⟨v, r, h1, h2, h3⟩, h => by
    subst h1
    unfold anyF at h
    cases e1 : eqF e d with
    | none => rw [e1] at h; simp at h
    | some b1 =>
      cases e2 : anyF d ls with
      | none => rw [e1, e2] at h; simp at h
      | some b2 =>
        rw [e1, e2] at h
        simp at h
        obtain ⟨q1, q2, q3⟩ := eqF_ok (show Rep C G v e from h2) rx e1
        obtain ⟨q4, q5⟩ := anyF_ok rx h3 e2
        refine ⟨by rw [List.all_cons, q1, q4]; rfl, ?_⟩
        unfold inV at q5 ⊢
        rw [List.any_cons, q3, q5]
        exact h
  | .p _ :: _, _, _, _, h => by simp [anyF] at h
def opInS (neg : Bool) (x y : Lv) (cs : Cs) : Option (Lv × Cs) := match x with
  | .c d => if flatD d = true then (view cs y).bind fun ls => (anyF d ls).map fun b => (.c (.bl (if neg = true then !b else b)), cs) else none
  | _ => none
theorem flatD_ok {G : Hp} {v : V} {d : Dt} (r : Rep C G v d) (h : flatD d = true) : flatV v = true := by
  cases d with
  | non => rw [rep_non.mp r]; rfl
  | bl x => rw [rep_bl.mp r]; rfl
  | int x => rw [rep_int.mp r]; rfl
  | str x => rw [rep_str.mp r]; rfl
  | _ => cases h
theorem o2_inS (neg : Bool) : O2 C (opInS neg) (rIn C.K neg) := by
  intro B ι G H σ sl cs cs' x y lx ly l Q R rx ry e k
  unfold opInS at e
  split at e
  · rename_i d
    split at e
    · rename_i hf
      cases ev : view cs ly with
      | none => rw [ev] at e; simp at e
      | some ls =>
        rw [ev] at e
        simp only [Option.bind_some] at e
        cases ea : anyF d ls with
        | none => rw [ea] at e; simp at e
        | some b =>
          rw [ea] at e
          simp at e
          obtain ⟨rfl, rfl⟩ := e
          obtain ⟨a, vs, rfl, hs, hr⟩ := view_ok R ry ev
          obtain ⟨q1, q2⟩ := anyF_ok (show Rep C G x d from rx) hr ea
          exact ⟨a, vs, rfl, hs.or, flatD_ok rx hf, q1, by rw [q2]; exact k _ _ _ _ R .refl (by cases neg <;> exact mk_bl)⟩
    · cases e
  · cases e
def hasK (k : Key) (l : List Key) : Bool := l.any fun x => decide (x = k)
def opInD (neg : Bool) (x y : Lv) (cs : Cs) : Option (Lv × Cs) := (dicOf cs y).bind fun p => (keyOf x).map fun k => (.c (.bl (if neg = true then !hasK k p.1 else hasK k p.1)), cs)
def rInD (neg : Bool) : R2 := fun x y H Q => ∃ a o, y = .ref a ∧ DGet H a x o ∧ Q (.bl (if neg = true then !o.isSome else o.isSome)) H
theorem op_inD {X : Cx} (hu : X.A.units + 1 < cLine) : OpR X (compareOp .In) (rInD false) := by
  intro pins s σ H x y v u Q I rx ry h
  obtain ⟨a, o, rfl, g, q⟩ := h
  cases ry
  exact d_in hu I g rx fun s3 I3 => ⟨.bl o.isSome, H, I3, rfl, q⟩
theorem op_notInD {X : Cx} (hu : X.A.units + 1 < cLine) : OpR X (compareOp .NotIn) (rInD true) := by
  intro pins s σ H x y v u Q I rx ry h
  obtain ⟨a, o, rfl, g, q⟩ := h
  cases ry
  exact d_notIn hu I g rx fun s3 I3 => ⟨.bl (!o.isSome), H, I3, rfl, q⟩
theorem mem_val {k : Key} {kvs : List (Key × V)} : (valV kvs k).isSome = hasK k (kvs.map (·.1)) := by
  rw [← valV_any]
  unfold hasK
  rw [List.any_map]
  rfl
theorem o2_inD (neg : Bool) : O2 C (opInD neg) (rInD neg) := by
  intro B ι G H σ sl cs cs' x y lx ly l Q R rx ry e k
  unfold opInD at e
  cases ed : dicOf cs ly with
  | none => rw [ed] at e; simp at e
  | some p =>
    obtain ⟨ks, ds⟩ := p
    cases ek : keyOf lx with
    | none => rw [ed, ek] at e; simp at e
    | some f =>
      rw [ed, ek] at e
      simp only [Option.bind_some, Option.map_some, Option.some.injEq, Prod.mk.injEq] at e
      obtain ⟨rfl, rfl⟩ := e
      obtain ⟨a, kvs, rfl, ho, hk, hn, hr⟩ := dicOf_ok R ry ed
      subst hk
      refine ⟨a, valV kvs f, rfl, ?_, ?_⟩
      · rw [keyOf_ok rx ek]; exact DGet.k ho
      · rw [mem_val]
        exact k _ _ _ _ R .refl (by cases neg <;> exact mk_bl)
/-- one sign in a text -/
def opInC (neg : Bool) : Lv → Lv → Cs → Option (Lv × Cs)
  | .c (.str ⟨⟨[c]⟩⟩), .c (.str z), cs => some (.c (.bl (if neg = true then !decide (c ∈ z.cps.toList) else decide (c ∈ z.cps.toList))), cs)
  | _, _, _ => none
def rInC (neg : Bool) : R2 := fun x y H Q => ∃ (c : Nat) (z : Str), x = .str ⟨#[c]⟩ ∧ y = .str z ∧ Q (.bl (if neg = true then !decide (c ∈ z.cps.toList) else decide (c ∈ z.cps.toList))) H
theorem o2_inC (neg : Bool) : O2 C (opInC neg) (rInC neg) := by
  intro B ι G H σ sl cs cs' x y lx ly l Q R rx ry e k
  unfold opInC at e
  split at e
  · rename_i cs0 c z
    simp only [Option.some.injEq, Prod.mk.injEq] at e
    obtain ⟨rfl, rfl⟩ := e
    exact ⟨c, z, repL_str rx, repL_str ry, k _ _ _ _ R .refl (by cases neg <;> exact mk_bl)⟩
  · cases e
def opIn (neg : Bool) : Lv → Lv → Cs → Option (Lv × Cs) := fun x y cs => (opInD neg x y cs).orElse fun _ => (opInS neg x y cs).orElse fun _ => opInC neg x y cs
def rInA (K : PySem.W.Frag) (neg : Bool) : R2 := fun x y H Q => rInD neg x y H Q ∨ (rIn K neg x y H Q ∨ rInC neg x y H Q)
theorem o2_in (neg : Bool) : O2 C (opIn neg) (rInA C.K neg) := O2.or (o2_inD neg) (O2.or (o2_inS neg) (o2_inC neg))
theorem op_inA {X : Cx} (hu : X.A.units + 1 < cLine) (hK : X.K = C.K) : OpR X (compareOp .In) (rInA C.K false) := (op_inD hu).or (OpR.or (hK ▸ op_in_seq) op_in_sign)
theorem op_notInA {X : Cx} (hu : X.A.units + 1 < cLine) (hK : X.K = C.K) : OpR X (compareOp .NotIn) (rInA C.K true) := (op_notInD hu).or (OpR.or (hK ▸ op_notIn_seq) op_notIn_sign)
/-! ### items -/
def itemS : Lv → Lv → Cs → Option (Lv × Cs) := fun x y cs => match y with
  | .c (.int i) => (view cs x).bind fun ls => (atI ls i).map fun l => (l, cs)
  | _ => none
def rIxA (K : PySem.W.Frag) : R2 := fun x y H Q => rIxL K x y H Q ∨ rIxT K x y H Q
theorem o2_itemS : O2 C itemS (rIxA C.K) := by
  intro B ι G H σ sl cs cs' x y lx ly l Q R rx ry e k
  unfold itemS at e
  split at e
  · rename_i i
    cases ev : view cs lx with
    | none => rw [ev] at e; simp at e
    | some ls =>
      rw [ev] at e
      simp only [Option.bind_some] at e
      cases ea : atI ls i with
      | none => rw [ea] at e; simp at e
      | some l0 =>
        rw [ea] at e
        simp at e
        obtain ⟨rfl, rfl⟩ := e
        obtain ⟨a, vs, rfl, hs, hr⟩ := view_ok R rx ev
        have : ∃ v, atI vs i = some v ∧ RepL C ι G v l0 := by
          unfold atI at ea ⊢
          rw [hr.length]
          cases ei : ixN ls.length i with
          | none => rw [ei] at ea; cases ea
          | some j =>
            rw [ei] at ea
            exact hr.get ea
        obtain ⟨v, hv, rv⟩ := this
        have q := k _ _ _ _ R .refl rv
        rcases hs.or with hs | hs
        · exact .inl ⟨a, vs, i, v, rfl, repL_int ry, hs, hv, q⟩
        · exact .inr ⟨a, vs, i, v, rfl, repL_int ry, hs, hv, q⟩
  · cases e
def itemC : Lv → Lv → Cs → Option (Lv × Cs)
  | .c (.str z), .c (.int i), cs => if z.length ≤ sizeLine then (atI z.cps.toList i).map fun c => (.c (.str ⟨#[c]⟩), cs) else none
  | _, _, _ => none
theorem o2_itemC : O2 C itemC rIxS := by
  intro B ι G H σ sl cs cs' x y lx ly l Q R rx ry e k
  unfold itemC at e
  split at e
  · rename_i cs0 z i
    split at e
    · rename_i hz
      cases ea : atI z.cps.toList i with
      | none => rw [ea] at e; simp at e
      | some c =>
        rw [ea] at e
        simp at e
        obtain ⟨rfl, rfl⟩ := e
        exact ⟨z, i, c, repL_str rx, repL_int ry, hz, ea, k _ _ _ _ R .refl mk_str⟩
    · cases e
  · cases e
def opItem : Lv → Lv → Cs → Option (Lv × Cs) := fun x y cs => (itemS x y cs).orElse fun _ => itemC x y cs
theorem we_item {X : Cx} {a b : Expr} {pos : Pos} {ma mb : ME} (ha : WE C W X a ma) (hb : WE C W X b mb) (hp : PlainIx b := by intro _ _; rfl) : WE C W X (.Subscript a b pos) (mOp2 opItem ma mb) :=
  we_ix (r := fun x y H Q => rIxA C.K x y H Q ∨ rIxS x y H Q) (fun hK => hK ▸ (ix_list.or ix_tup).or ix_str) (O2.or o2_itemS o2_itemC) ha hb hp
end
end Mi

set_option Elab.async false
set_option linter.all false
set_option maxRecDepth 100000
set_option maxHeartbeats 4000000
namespace L2
open PySem PySem.Spec PyProof.Rows
/-- xs[i], by values -/
def gIx (K : PySem.W.Frag) : V → V → Hp → VK → Prop := fun x y H Q => ∃ p xs i v, x = .ref p ∧ y = .int i ∧ SqL K H p xs ∧ atI xs i = some v ∧ Q v H
theorem get_list {X : Cx} {K : PySem.W.Frag} (hK : X.K = K) : PGet X (gIx K) := by
  subst hK
  intro pins s σ H x y v u Q I rx ry h
  obtain ⟨p, xs, i, z, rfl, rfl, hq, he, q⟩ := h
  cases rx
  obtain ⟨t, rfl⟩ := ry
  obtain ⟨its, r, pl, hz⟩ := I.list hq
  obtain ⟨j, h1, h2, h3, h4, h5⟩ := atI_get he
  obtain ⟨w, ew, rw'⟩ := r.get h2
  have hl := r.length
  have hn := line63
  have fin : EP X pins σ Q w s := ⟨z, H, I, rw', q⟩
  by_cases h0 : 0 ≤ i
  · have hj : i.toNat = j := by
      rw [seqIndex_of h0 h5] at h1
      exact Option.some.inj h1
    exact wpAny_getItem_list pl.isList h0 (by omega) (by rw [hj]; simpa using ew) fin
  · have hj : (i + (its.toArray.size : Int)).toNat = j := by
      rw [seqIndex_neg (by omega) h4] at h1
      rw [List.size_toArray, ← hl]
      exact Option.some.inj h1
    exact wpAny_getItem_list_neg pl.isList (by omega) (by rw [List.size_toArray] <;> omega) (by omega) (by rw [hj]; simpa using ew) fin
end L2
namespace Mi
open PySem L2
section
variable {C : Cn} {W : WX}
theorem one_arg {ι : List Addr} {G : Hp} {vs : List V} {l : Lv} (r : RepLs C ι G vs [l]) : ∃ v, vs = [v] ∧ RepL C ι G v l := by
  obtain ⟨v, r', rfl, h2, h3⟩ := r
  cases h3
  exact ⟨v, rfl, h2⟩
theorem two_args {ι : List Addr} {G : Hp} {vs : List V} {l m : Lv} (r : RepLs C ι G vs [l, m]) : ∃ v w, vs = [v, w] ∧ RepL C ι G v l ∧ RepL C ι G w m := by
  obtain ⟨v, r', rfl, h2, w, r'', rfl, h4, h5⟩ := r
  cases h5
  exact ⟨v, w, rfl, h2, h4⟩
/-! ### len -/
def cLen : List Lv → Cs → Option (Lv × Cs)
  | [.c (.str z)], cs => if z.length ≤ sizeLine then some (.c (.int z.length), cs) else none
  | [l], cs => match view cs l with
    | some ls => some (.c (.int ls.length), cs)
    | none => (dicOf cs l).map fun p => (.c (.int p.1.length), cs)
  | _, _ => none
def rLenA (K : PySem.W.Frag) : List V → Hp → VK → Prop := fun xs H Q => (∃ x n, xs = [x] ∧ LenV K x H n ∧ Q (.int n) H) ∨ (∃ a kvs, xs = [.ref a] ∧ H a = some (.dK kvs) ∧ Q (.int kvs.length) H)
theorem call_lenA {X : Cx} (hK : X.K = C.K) : CallR X (.builtin "len") (rLenA C.K) := hK ▸ call_len.or (fun pins s σ H xs us Q I r h => by
  obtain ⟨a, kvs, rfl, h1, q⟩ := h
  exact call_lenD pins s σ H _ us Q I r ⟨a, kvs, rfl, h1, q⟩)
theorem len_view {B : Bs} {ι : List Addr} {G H : Hp} {σ : St} {sl : Sl} {cs cs' : Cs} {v : V} {l l' : Lv} {Q : VK} (R : Rel C B ι G H σ sl cs) (r1 : RepL C ι G v l) (e : (match view cs l with | some ls => some (Lv.c (.int ls.length), cs) | none => (dicOf cs l).map fun p => (.c (.int p.1.length), cs)) = some (l', cs'))
    (k : ∀ v ι' G' H', Rel C B ι' G' H' σ sl cs' → Le ι G ι' G' → RepL C ι' G' v l' → Q v H') : rLenA C.K [v] H Q := by
  cases ev : view cs l with
  | some ls =>
    rw [ev] at e
    simp at e
    obtain ⟨rfl, rfl⟩ := e
    obtain ⟨a, vs, rfl, hs, hr⟩ := view_ok R r1 ev
    refine .inl ⟨.ref a, ls.length, rfl, ?_, k _ _ _ _ R .refl mk_int⟩
    rcases hs.or with hs | hs
    · exact .inl ⟨vs, hs, hr.length.symm⟩
    · exact .inr ⟨vs, hs, hr.length.symm⟩
  | none =>
    rw [ev] at e
    cases ed : dicOf cs l with
    | none => rw [ed] at e; simp at e
    | some p =>
      obtain ⟨ks, ds⟩ := p
      rw [ed] at e
      simp at e
      obtain ⟨rfl, rfl⟩ := e
      obtain ⟨a, kvs, rfl, ho, hk, hn, hr⟩ := dicOf_ok R r1 ed
      subst hk
      refine .inr ⟨a, kvs, rfl, ho, ?_⟩
      have q := k _ _ _ _ R .refl (mk_int (i := ((kvs.map (·.1)).length : Int)))
      rwa [List.length_map] at q
theorem on_len : ON C cLen (rLenA C.K) := by
  intro B ι G H σ sl cs cs' xs ls l Q R r e k
  unfold cLen at e
  split at e
  · rename_i z
    split at e
    · rename_i hz
      simp at e
      obtain ⟨rfl, rfl⟩ := e
      obtain ⟨v, rfl, r1⟩ := one_arg r
      exact .inl ⟨_, z.length, rfl, by rw [repL_str r1]; exact ⟨hz, rfl⟩, k _ _ _ _ R .refl mk_int⟩
    · cases e
  · obtain ⟨v, rfl, r1⟩ := one_arg r
    exact len_view R r1 e k
  · cases e
theorem we_len {X : Cx} {p pos : Pos} {e : Expr} {ma : MA} (hm : X.mg "len" = none) (ha : WA C W X [e] ma) (hg : Gl X "len" := by rfl) (he : starEach (e :: []) X.env = (false, eval e X.env) :: starEach [] X.env := by rfl) (hpl : (backTo pos (starEach [] X.env)).any (·.1) = false := by rfl) : WE C W X (.Call (.Name "len" p) [e] [] pos) (mOpN cLen ma) :=
  we_callB (fun hK => call_lenA hK) on_len hg hm PySem.boot_len ha (he := he) (hpl := hpl)
/-! ### int, tuple, list -/
def cInt : List Lv → Cs → Option (Lv × Cs)
  | [.c (.int i)], cs => some (.c (.int i), cs)
  | [.c (.bl b)], cs => some (.c (.int (if b then 1 else 0)), cs)
  | _, _ => none
theorem on_int : ON C cInt (fun xs H Q => (∃ i, xs = [.int i] ∧ Q (.int i) H) ∨ ∃ k, xs = [.bl k] ∧ Q (.int (if k then 1 else 0)) H) := by
  intro B ι G H σ sl cs cs' xs ls l Q R r e k
  unfold cInt at e
  split at e
  · simp at e
    obtain ⟨rfl, rfl⟩ := e
    obtain ⟨v, rfl, r1⟩ := one_arg r
    exact .inl ⟨_, by rw [repL_int r1], k _ _ _ _ R .refl mk_int⟩
  · simp only [Option.some.injEq, Prod.mk.injEq] at e
    obtain ⟨rfl, rfl⟩ := e
    obtain ⟨v, rfl, r1⟩ := one_arg r
    exact .inr ⟨_, by rw [repL_bl r1], k _ _ _ _ R .refl mk_int⟩
  · cases e
theorem we_int' {X : Cx} {p pos : Pos} {e : Expr} {ma : MA} (hm : X.mg "int" = none) (ha : WA C W X [e] ma) (hg : Gl X "int" := by rfl) (he : starEach (e :: []) X.env = (false, eval e X.env) :: starEach [] X.env := by rfl) (hpl : (backTo pos (starEach [] X.env)).any (·.1) = false := by rfl) : WE C W X (.Call (.Name "int" p) [e] [] pos) (mOpN cInt ma) :=
  we_callTy (fun _ => call_int1) on_int hg hm PyProof.Rows.boot_int ha (he := he) (hpl := hpl)
/-- all closed -/
def closeAll : List Lv → Option (List Dt)
  | [] => some []
  | .c d :: ls => (closeAll ls).map (d :: ·)
  | .p _ :: _ => none
theorem closeAll_ok {ι : List Addr} {G : Hp} : ∀ {ls : List Lv} {vs : List V} {ds : List Dt}, RepLs C ι G vs ls → closeAll ls = some ds → Reps C G vs ds
  | [], vs, ds, r, h => by
    simp [closeAll] at h; subst h
    exact reps_nil.mpr r
  | .c d :: ls, vs, ds, ⟨v, r, h1, h2, h3⟩, h => by
    unfold closeAll at h
    cases e : closeAll ls with
    | none => rw [e] at h; simp at h
    | some es =>
      rw [e] at h
      simp at h; subst h
      subst h1
      exact Reps.cons h2 (closeAll_ok h3 e)
  | .p _ :: _, _, _, _, h => by simp [closeAll] at h
@[simp] theorem closeAll_c (ds : List Dt) : closeAll (ds.map .c) = some ds := by
  induction ds with
  | nil => rfl
  | cons d ds ih => simp [closeAll, ih]
/-- the cells of a list of cells -/
def cellsOf : List Lv → Option (List Nat)
  | [] => some []
  | .p n :: ls => (cellsOf ls).map (n :: ·)
  | .c _ :: _ => none
theorem cellsOf_eq : ∀ {ls : List Lv} {ns : List Nat}, cellsOf ls = some ns → ls = ns.map .p
  | [], ns, h => by simp [cellsOf] at h; subst h; rfl
  | .p n :: ls, ns, h => by
    unfold cellsOf at h
    cases e : cellsOf ls with
    | none => rw [e] at h; simp at h
    | some ms => rw [e] at h; simp at h; subst h; rw [cellsOf_eq e]; rfl
  | .c _ :: _, _, h => by simp [cellsOf] at h
def cTuple : List Lv → Cs → Option (Lv × Cs)
  | [.c (.tup xs)], cs => some (.c (.tup xs), cs)
  | [l], cs => (view cs l).bind fun ls => match closeAll ls with
    | some ds => some (.c (.tup ds), cs)
    | none => (fzD 4 cs l).bind fun p => match p.1 with
      | .lst ds => some (.c (.tup ds), p.2)
      | _ => none
  | _, _ => none
theorem on_tuple : ON C cTuple (fun xs H Q => ∃ p ys, xs = [.ref p] ∧ ((SqL C.K H p ys ∧ ∀ l, H l = none → Q (.ref l) (upd H l (.tup ys))) ∨ (SqT C.K H p ys ∧ Q (.ref p) H))) := by
  intro B ι G H σ sl cs cs' xs ls l Q R r e k
  unfold cTuple at e
  split at e
  · simp at e
    obtain ⟨rfl, rfl⟩ := e
    obtain ⟨v, rfl, r1⟩ := one_arg r
    obtain ⟨a, vs, rfl, h1, h2⟩ := repL_tup r1
    exact ⟨a, vs, rfl, .inr ⟨SqT.of (R.hG _ _ h1), k _ _ _ _ R .refl r1⟩⟩
  · rename_i l0 hne
    obtain ⟨v, rfl, r1⟩ := one_arg r
    cases ev : view cs l0 with
    | none => rw [ev] at e; simp at e
    | some ls =>
      rw [ev] at e
      simp only [Option.bind_some] at e
      obtain ⟨a, vs, rfl, hs, hr⟩ := view_ok R r1 ev
      have hs := sqK_L (fun xs z => hne xs (by rw [z])) hs
      split at e
      · rename_i ds ec
        simp at e
        obtain ⟨rfl, rfl⟩ := e
        refine ⟨a, vs, rfl, .inl ⟨hs, fun p hp => ?_⟩⟩
        obtain ⟨G', R', le, rl⟩ := new_tup R hp (closeAll_ok hr ec)
        exact k _ _ _ _ R' le rl
      · cases ef : fzD 4 cs l0 with
        | none => rw [ef] at e; simp at e
        | some q =>
          obtain ⟨d, cs2⟩ := q
          rw [ef] at e
          simp only [Option.bind_some] at e
          obtain ⟨G2, R2, le2, q2⟩ := (fzD_ok 4).run R r1 ef
          split at e
          · rename_i ds
            simp at e
            obtain ⟨rfl, rfl⟩ := e
            obtain ⟨a', ws, ea, g1, g2⟩ := rep_lst.mp q2
            cases ea
            refine ⟨a, ws, rfl, .inl ⟨SqL.of (R2.hG _ _ g1), fun p hp => ?_⟩⟩
            obtain ⟨G', R', le, rl⟩ := new_tup R2 hp g2
            exact k _ _ _ _ R' (le2.trans le) rl
          · cases e
  · cases e
theorem we_tuple {X : Cx} {p pos : Pos} {e : Expr} {ma : MA} (hm : X.mg "tuple" = none) (ha : WA C W X [e] ma) (hg : Gl X "tuple" := by rfl) (he : starEach (e :: []) X.env = (false, eval e X.env) :: starEach [] X.env := by rfl) (hpl : (backTo pos (starEach [] X.env)).any (·.1) = false := by rfl) : WE C W X (.Call (.Name "tuple" p) [e] [] pos) (mOpN cTuple ma) :=
  we_callTy (fun hK => hK ▸ call_tuple_of) on_tuple hg hm PyProof.Rows.boot_tuple ha (he := he) (hpl := hpl)
def cList : List Lv → Cs → Option (Lv × Cs)
  | [l], cs => (view cs l).bind fun ls => match closeAll ls with
    | some ds => some (.p cs.length, cs ++ [.lst ds])
    | none => (cellsOf ls).map fun ns => (.p cs.length, cs ++ [.pl ns])
  | _, _ => none
theorem on_list : ON C cList (fun xs H Q => ∃ p ys, xs = [.ref p] ∧ (SqL C.K H p ys ∨ SqT C.K H p ys) ∧ ∀ l, H l = none → Q (.ref l) (upd H l (.lst ys))) := by
  intro B ι G H σ sl cs cs' xs ls l Q R r e k
  unfold cList at e
  split at e
  · rename_i l0
    obtain ⟨v, rfl, r1⟩ := one_arg r
    cases ev : view cs l0 with
    | none => rw [ev] at e; simp at e
    | some ls =>
      rw [ev] at e
      simp only [Option.bind_some] at e
      obtain ⟨a, vs, rfl, hs, hr⟩ := view_ok R r1 ev
      split at e
      · rename_i ds ec
        simp at e
        obtain ⟨rfl, rfl⟩ := e
        refine ⟨a, vs, rfl, hs.or, fun p hp => ?_⟩
        obtain ⟨R', le, rl⟩ := new_lst R hp (closeAll_ok hr ec)
        exact k _ _ _ _ R' le rl
      · cases ec : cellsOf ls with
        | none => rw [ec] at e; simp at e
        | some ns =>
          rw [ec] at e
          simp at e
          obtain ⟨rfl, rfl⟩ := e
          have := cellsOf_eq ec
          subst this
          refine ⟨a, vs, rfl, hs.or, fun p hp => ?_⟩
          obtain ⟨R', le, rl⟩ := new_pl R hp hr
          exact k _ _ _ _ R' le rl
  · cases e
theorem we_list {X : Cx} {p pos : Pos} {e : Expr} {ma : MA} (hm : X.mg "list" = none) (ha : WA C W X [e] ma) (hg : Gl X "list" := by rfl) (he : starEach (e :: []) X.env = (false, eval e X.env) :: starEach [] X.env := by rfl) (hpl : (backTo pos (starEach [] X.env)).any (·.1) = false := by rfl) : WE C W X (.Call (.Name "list" p) [e] [] pos) (mOpN cList ma) :=
  we_callTy (fun hK => hK ▸ call_list_of) on_list hg hm PyProof.Rows.boot_list ha (he := he) (hpl := hpl)
/-! ### displays -/
def mTup (ma : MA) : ME := fun sl cs => (ma sl cs).bind fun ls cs1 => match fzA cs1 ls with
  | some (ds, cs2) => if ds.length ≤ sizeLine then .ok (.c (.tup ds)) cs2 else .bad
  | none => .bad
theorem we_tup {X : Cx} {es : List Expr} {x1} {pos : Pos} {ma : MA} (ha : WA C W X es ma) : WE C W X (.Tuple es x1 pos) (mTup ma) := fun hK hT => (pe_tup (ha hK hT)).imp fun σ H Q h => by
  obtain ⟨B, ι, G, sl, cs, R0, h⟩ := h
  refine ⟨B, ι, G, sl, cs, R0, h.bind.mono fun ls cs1 h1 vs ι1 G1 H1 R1 e1 r1 => ?_⟩
  cases e : fzA cs1 ls with
  | none => rw [e] at h1; exact h1.elim
  | some p =>
    obtain ⟨ds, cs2⟩ := p
    rw [e] at h1
    simp only at h1
    split at h1
    · rename_i hz
      obtain ⟨G2, R2, e2, q2⟩ := fzA_ok R1 r1 e
      refine ⟨by rw [q2.length]; exact hz, fun p hp => ?_⟩
      obtain ⟨G', R', le, rl⟩ := new_tup R2 hp q2
      exact h1 _ _ _ _ R' ((e1.trans e2).trans le) rl
    · exact h1.elim
def mLst (kp : Bool) (ma : MA) : ME := fun sl cs => (ma sl cs).bind fun ls cs1 => match kp, cellsOf ls with
  | true, some (n :: ns) => if ls.length ≤ sizeLine then .ok (.p cs1.length) (cs1 ++ [.pl (n :: ns)]) else .bad
  | _, _ => match fzA cs1 ls with
    | some (ds, cs2) => if ds.length ≤ sizeLine then .ok (.p cs2.length) (cs2 ++ [.lst ds]) else .bad
    | none => .bad
theorem we_lst {X : Cx} {es : List Expr} {pos : Pos} {ma : MA} (kp : Bool) (ha : WA C W X es ma) : WE C W X (.List es pos) (mLst kp ma) := fun hK hT => (pe_lst (ha hK hT)).imp fun σ H Q h => by
  obtain ⟨B, ι, G, sl, cs, R0, h⟩ := h
  refine ⟨B, ι, G, sl, cs, R0, h.bind.mono fun ls cs1 h1 vs ι1 G1 H1 R1 e1 r1 => ?_⟩
  split at h1
  · rename_i n ns ec
    split at h1
    · rename_i hz
      have := cellsOf_eq ec
      subst this
      refine ⟨by rw [r1.length]; exact hz, fun p hp => ?_⟩
      obtain ⟨R', le, rl⟩ := new_pl R1 hp r1
      exact h1 _ _ _ _ R' (e1.trans le) rl
    · exact h1.elim
  · cases e : fzA cs1 ls with
    | none => rw [e] at h1; exact h1.elim
    | some p =>
      obtain ⟨ds, cs2⟩ := p
      rw [e] at h1
      simp only at h1
      split at h1
      · rename_i hz
        obtain ⟨G2, R2, e2, q2⟩ := fzA_ok R1 r1 e
        refine ⟨by rw [q2.length]; exact hz, fun p hp => ?_⟩
        obtain ⟨R', le, rl⟩ := new_lst R2 hp q2
        exact h1 _ _ _ _ R' ((e1.trans e2).trans le) rl
      · exact h1.elim
/-! ### sum, sorted of ints; max, min of two -/
def intsV : List Lv → Option (List Int)
  | [] => some []
  | .c (.int i) :: ls => (intsV ls).map (i :: ·)
  | _ => none
theorem intsV_ok {ι : List Addr} {G : Hp} : ∀ {ls : List Lv} {vs : List V} {ns : List Int}, RepLs C ι G vs ls → intsV ls = some ns → vs = ns.map V.int
  | [], vs, ns, r, h => by
    simp [intsV] at h; subst h
    exact r
  | l :: ls, vs, ns, ⟨v, r, h1, h2, h3⟩, h => by
    unfold intsV at h
    split at h
    · cases h
      rename_i e; cases e
    · rename_i i ls' e
      cases e
      cases e : intsV ls with
      | none => rw [e] at h; simp at h
      | some es =>
        rw [e] at h
        simp at h; subst h
        subst h1
        rw [repL_int h2, intsV_ok h3 e]; rfl
    · cases h
def cSum : List Lv → Cs → Option (Lv × Cs)
  | [.c (.tup _)], _ => none
  | [l], cs => (view cs l).bind fun ls => (intsV ls).map fun ns => (.c (.int ns.sum), cs)
  | _, _ => none
theorem on_sum : ON C cSum (rSum C.K) := by
  intro B ι G H σ sl cs cs' xs ls l Q R r e k
  unfold cSum at e
  split at e
  · cases e
  · rename_i l0 hne
    obtain ⟨v, rfl, r1⟩ := one_arg r
    cases ev : view cs l0 with
    | none => rw [ev] at e; simp at e
    | some ls =>
      cases ei : intsV ls with
      | none => rw [ev] at e; simp [ei] at e
      | some ns =>
        rw [ev] at e
        simp only [Option.bind_some, ei, Option.map_some, Option.some.injEq, Prod.mk.injEq] at e
        obtain ⟨rfl, rfl⟩ := e
        obtain ⟨a, vs, rfl, hs, hr⟩ := view_ok R r1 ev
        have hs := sqK_L (fun xs z => hne xs (by rw [z])) hs
        have := intsV_ok hr ei
        subst this
        exact ⟨a, ns, rfl, hs, k _ _ _ _ R .refl mk_int⟩
  · cases e
theorem we_sum {X : Cx} {p pos : Pos} {e : Expr} {ma : MA} (hm : X.mg "sum" = none) (ha : WA C W X [e] ma) (hc : X.calm = true := by rfl) (hg : Gl X "sum" := by rfl) (he : starEach (e :: []) X.env = (false, eval e X.env) :: starEach [] X.env := by rfl) (hpl : (backTo pos (starEach [] X.env)).any (·.1) = false := by rfl) : WE C W X (.Call (.Name "sum" p) [e] [] pos) (mOpN cSum ma) :=
  we_callB (fun hK => hK ▸ cr_sum hc) on_sum hg hm PyProof.Rows.boot_sum ha (he := he) (hpl := hpl)
def insI (x : Int) : List Int → List Int
  | [] => [x]
  | y :: ys => if x ≤ y then x :: y :: ys else y :: insI x ys
def sortI : List Int → List Int
  | [] => []
  | x :: xs => insI x (sortI xs)
theorem insI_perm (x : Int) : ∀ xs : List Int, (insI x xs).Perm (x :: xs)
  | [] => .refl _
  | y :: ys => by
    unfold insI
    split
    · exact .refl _
    · exact (List.Perm.cons y (insI_perm x ys)).trans (List.Perm.swap x y ys)
theorem sortI_perm : ∀ xs : List Int, (sortI xs).Perm xs
  | [] => .refl _
  | x :: xs => (insI_perm x (sortI xs)).trans (List.Perm.cons x (sortI_perm xs))
theorem insI_sorted (x : Int) : ∀ xs : List Int, xs.Pairwise (· ≤ ·) → (insI x xs).Pairwise (· ≤ ·)
  | [], _ => by simp [insI]
  | y :: ys, h => by
    unfold insI
    have h' := List.pairwise_cons.mp h
    split
    · rename_i hxy
      exact List.pairwise_cons.mpr ⟨fun z hz => by
        rcases List.mem_cons.mp hz with q | q
        · subst q; exact hxy
        · exact Int.le_trans hxy (h'.1 z q), h⟩
    · rename_i hxy
      exact List.pairwise_cons.mpr ⟨fun z hz => by
        rcases List.mem_cons.mp ((insI_perm x ys).mem_iff.mp hz) with q | q
        · subst q; omega
        · exact h'.1 z q, insI_sorted x ys h'.2⟩
theorem sortI_sorted : ∀ xs : List Int, (sortI xs).Pairwise (· ≤ ·)
  | [] => .nil
  | x :: xs => insI_sorted x _ (sortI_sorted xs)
theorem sortI_uniq {xs ys : List Int} (p : ys.Perm xs) (s : ys.Pairwise (· ≤ ·)) : ys = sortI xs := PySem.W.ksm_same (p.trans (sortI_perm xs).symm) s (sortI_sorted xs)
def intKeys : List Key → Option (List Int)
  | [] => some []
  | .inl i :: ks => (intKeys ks).map (i :: ·)
  | .inr _ :: _ => none
theorem intKeys_eq : ∀ {ks : List Key} {ns : List Int}, intKeys ks = some ns → ks = ns.map Sum.inl
  | [], ns, h => by simp [intKeys] at h; subst h; rfl
  | .inl n :: ls, ns, h => by
    unfold intKeys at h
    cases e : intKeys ls with
    | none => rw [e] at h; simp at h
    | some ms => rw [e] at h; simp at h; subst h; rw [intKeys_eq e]; rfl
  | .inr _ :: _, _, h => by simp [intKeys] at h
def cSortL : List Lv → Cs → Option (Lv × Cs)
  | [.c (.tup _)], _ => none
  | [l], cs => (view cs l).bind fun ls => (intsV ls).map fun ns => (.p cs.length, cs ++ [.lst ((sortI ns).map .int)])
  | _, _ => none
theorem on_sortL : ON C cSortL (rSortedI C.K) := by
  intro B ι G H σ sl cs cs' xs ls l Q R r e k
  unfold cSortL at e
  split at e
  · cases e
  · rename_i l0 hne
    obtain ⟨v, rfl, r1⟩ := one_arg r
    cases ev : view cs l0 with
    | none => rw [ev] at e; simp at e
    | some ls =>
      cases ei : intsV ls with
      | none => rw [ev] at e; simp [ei] at e
      | some ns =>
        rw [ev] at e
        simp only [Option.bind_some, ei, Option.map_some, Option.some.injEq, Prod.mk.injEq] at e
        obtain ⟨rfl, rfl⟩ := e
        obtain ⟨a, vs, rfl, hs, hr⟩ := view_ok R r1 ev
        have hs := sqK_L (fun xs z => hne xs (by rw [z])) hs
        have := intsV_ok hr ei
        subst this
        refine ⟨a, ns, rfl, hs, fun ns' p hp hs' hn => ?_⟩
        have := sortI_uniq hp hs'
        subst this
        obtain ⟨R', le, rl⟩ := new_lst R hn (Reps.of_ints (C := C) (G := G) (ns := sortI ns))
        exact k _ _ _ _ R' le rl
  · cases e
def cSortD : List Lv → Cs → Option (Lv × Cs)
  | [l], cs => (dicOf cs l).bind fun p => (intKeys p.1).bind fun ns => if ns.length < 64 then some (.p cs.length, cs ++ [.lst ((sortI ns).map .int)]) else none
  | _, _ => none
theorem on_sortD : ON C cSortD (fun xs H Q => ∃ (a : Addr) (kvs : List (Key × V)) (ks : List Int), xs = [.ref a] ∧ Rd H a (.dK kvs) ∧ kvs.map (·.1) = ks.map Sum.inl ∧ ks.length < 64 ∧
    ∀ (ys : List Int) (p : Addr), ys.Perm ks → ys.Pairwise (· ≤ ·) → H p = none → Q (.ref p) (upd H p (.lst (ys.map V.int)))) := by
  intro B ι G H σ sl cs cs' xs ls l Q R r e k
  unfold cSortD at e
  split at e
  · rename_i l0
    obtain ⟨v, rfl, r1⟩ := one_arg r
    cases ed : dicOf cs l0 with
    | none => rw [ed] at e; simp at e
    | some p =>
      obtain ⟨ks, ds⟩ := p
      rw [ed] at e
      simp only [Option.bind_some] at e
      cases ei : intKeys ks with
      | none => rw [ei] at e; simp at e
      | some ns =>
        rw [ei] at e
        simp only [Option.bind_some] at e
        split at e
        · rename_i hz
          simp only [Option.some.injEq, Prod.mk.injEq] at e
          obtain ⟨rfl, rfl⟩ := e
          obtain ⟨a, kvs, rfl, ho, hk, hn, hr⟩ := dicOf_ok R r1 ed
          subst hk
          refine ⟨a, kvs, ns, rfl, .inl ho, intKeys_eq ei, hz, fun ns' p hp hs' hn => ?_⟩
          have := sortI_uniq hp hs'
          subst this
          obtain ⟨R', le, rl⟩ := new_lst R hn (Reps.of_ints (C := C) (G := G) (ns := sortI ns))
          exact k _ _ _ _ R' le rl
        · cases e
  · cases e
def cSort : List Lv → Cs → Option (Lv × Cs) := fun x cs => (cSortL x cs).orElse fun _ => cSortD x cs
theorem we_sorted {X : Cx} {p pos : Pos} {e : Expr} {ma : MA} (hm : X.mg "sorted" = none) (ha : WA C W X [e] ma) (hc : X.calm = true := by rfl) (hg : Gl X "sorted" := by rfl) (he : starEach (e :: []) X.env = (false, eval e X.env) :: starEach [] X.env := by rfl) (hpl : (backTo pos (starEach [] X.env)).any (·.1) = false := by rfl) : WE C W X (.Call (.Name "sorted" p) [e] [] pos) (mOpN cSort ma) :=
  we_callB (fun hK => hK ▸ (cr_sortedI).or (call_sortedDI hc)) (ON.or on_sortL on_sortD) hg hm PyProof.Rows.boot_sorted ha (he := he) (hpl := hpl)
/-! ### methods of lists -/
def isLC (cs : Cs) (n : Nat) : Bool := match cs[n]? with
  | some (.lst _) => true
  | some (.pl _) => true
  | _ => false
/-- a method of a list that is a cell, by the arguments' values -/
def OM (C : Cn) (f : Nat → List Lv → Cs → Option (Lv × Cs)) (r : V → List V → Hp → VK → Prop) : Prop :=
  ∀ {B : Bs} {ι : List Addr} {G H : Hp} {σ : St} {sl : Sl} {cs cs' : Cs} {n : Nat} {a : Addr} {xs : List V} {ls : List Lv} {l : Lv} {Q : VK}, Rel C B ι G H σ sl cs → ι[n]? = some a → RepLs C ι G xs ls → f n ls cs = some (l, cs') →
    (∀ v ι' G' H', Rel C B ι' G' H' σ sl cs' → Le ι G ι' G' → RepL C ι' G' v l → Q v H') → r (.ref a) xs H Q
def mLM (f : Nat → List Lv → Cs → Option (Lv × Cs)) (mo : ME) (ma : MA) : ME := fun sl cs => (mo sl cs).bind fun o cs1 => match o with
  | .p n => if isLC cs1 n = true then (ma sl cs1).bind fun ls cs2 => up (f n ls cs2) else .bad
  | _ => .bad
theorem isLC_ok {B : Bs} {ι : List Addr} {G H : Hp} {σ : St} {sl : Sl} {cs : Cs} {n : Nat} {a : Addr} {K : PySem.W.Frag} (R : Rel C B ι G H σ sl cs) (h1 : ι[n]? = some a) (h : isLC cs n = true) : tyV K "list" (.ref a) H := by
  unfold isLC at h
  split at h
  · rename_i ds hc
    obtain ⟨_, vs, ho, _⟩ := R.cr n a _ h1 hc
    exact .inl ⟨rfl, vs, SqL.of ho⟩
  · rename_i ns hc
    obtain ⟨_, as, ho, _⟩ := R.cr n a _ h1 hc
    exact .inl ⟨rfl, _, SqL.of ho⟩
  · cases h
theorem sim_lm {f : Nat → List Lv → Cs → Option (Lv × Cs)} {r : V → List V → Hp → VK → Prop} {mo : ME} {ma : MA} {K : PySem.W.Frag} (hs : OM C f r) {σ : St} {H : Hp} {Q : VK} (h : tE C W (mLM f mo ma) σ H Q) : tBM K "list" r (tE C W mo) (tA C W ma) σ H Q := by
  obtain ⟨B, ι, G, sl, cs, R, h⟩ := h
  refine ⟨B, ι, G, sl, cs, R, h.bind.mono fun o cs1 h1 v ι1 G1 H1 R1 e1 r1 => ?_⟩
  cases o with
  | c d => exact h1.elim
  | p n =>
    simp only at h1
    obtain ⟨a, ha, rfl⟩ := r1
    split at h1
    · rename_i hl
      refine ⟨isLC_ok R1 ha hl, B, ι1, G1, sl, cs1, R1, h1.bind.mono fun ls cs2 h2 vs ι2 G2 H2 R2 e2 r2 => ?_⟩
      obtain ⟨l3, cs3, em, hq⟩ := h2.up
      exact hs R2 (e2.get ha) r2 em fun v ι' G' H' R' e' r' => hq v ι' G' H' R' ((e1.trans e2).trans e') r'
    · exact h1.elim
theorem sim_lm0 {f : Nat → List Lv → Cs → Option (Lv × Cs)} {r : V → List V → Hp → VK → Prop} {mo : ME} {K : PySem.W.Frag} (hs : OM C f r) {σ : St} {H : Hp} {Q : VK} (h : tE C W (mLM f mo mNil) σ H Q) : tBM0 K "list" r (tE C W mo) σ H Q := by
  obtain ⟨B, ι, G, sl, cs, R, h⟩ := h
  refine ⟨B, ι, G, sl, cs, R, h.bind.mono fun o cs1 h1 v ι1 G1 H1 R1 e1 r1 => ?_⟩
  cases o with
  | c d => exact h1.elim
  | p n =>
    simp only at h1
    obtain ⟨a, ha, rfl⟩ := r1
    split at h1
    · rename_i hl
      refine ⟨isLC_ok R1 ha hl, ?_⟩
      obtain ⟨l3, cs3, em, hq⟩ := Post.up h1
      exact hs R1 ha (show RepLs C ι1 G1 [] [] from rfl) em fun v ι' G' H' R' e' r' => hq v ι' G' H' R' (e1.trans e') r'
    · exact h1.elim
def lApp (kp : Bool) : Nat → List Lv → Cs → Option (Lv × Cs)
  | n, [x], cs => (push kp n x cs).map fun cs' => (.c .non, cs')
  | _, _, _ => none
theorem om_app (kp : Bool) : OM C (lApp kp) rAppend := by
  intro B ι G H σ sl cs cs' n a xs ls l Q R ha r e k
  match ls, r, e with
  | [], _, e => cases e
  | _ :: _ :: _, _, e => cases e
  | [x], r, e =>
    replace e : (push kp n x cs).map (fun cs' => (Lv.c Dt.non, cs')) = some (l, cs') := e
    obtain ⟨v, rfl, r1⟩ := one_arg r
    cases ep : push kp n x cs with
    | none => rw [ep] at e; simp at e
    | some cs2 =>
      rw [ep] at e
      simp at e
      obtain ⟨rfl, rfl⟩ := e
      obtain ⟨acc, G', q1, q2, q3, q4⟩ := push_ok R ha r1 ep
      exact ⟨a, acc, v, rfl, rfl, q1, q2, k _ _ _ _ q3 q4 mk_non⟩
theorem we_append {X : Cx} {o e : Expr} {apos cpos : Pos} {mo : ME} {ma : MA} (kp : Bool) (ho : WE C W X o mo) (ha : WA C W X [e] ma)
    (h : ∀ {to : TE} {t : TA}, PE X o to → PA X [e] t → PE X (.Call (.Attribute o "append" apos) [e] [] cpos) (tBM X.K "list" rAppend to t) := by
      intro to t h1 h2; exact pe_bm PySem.F.plainAttrs_list PySem.F.slot_list_append PySem.F.type_list_append mt_append h1 h2) : WE C W X (.Call (.Attribute o "append" apos) [e] [] cpos) (mLM (lApp kp) mo ma) := fun hK hT => (h (ho hK hT) (ha hK hT)).imp fun σ H Q h => sim_lm (om_app kp) h
def lPop : Nat → List Lv → Cs → Option (Lv × Cs)
  | n, [], cs => match cs[n]? with
    | some (.lst ds) => (ds[ds.length - 1]?).map fun d => (.c d, cs.set n (.lst ds.dropLast))
    | some (.pl ns) => (ns[ns.length - 1]?).map fun m => (.p m, cs.set n (.pl ns.dropLast))
    | _ => none
  | _, _, _ => none
theorem reps_dropLast {G : Hp} {vs : List V} {ds : List Dt} (h : Reps C G vs ds) : Reps C G vs.dropLast ds.dropLast := by
  rw [List.dropLast_eq_take, List.dropLast_eq_take, h.length]
  exact h.take _
theorem om_pop : OM C lPop rPop := by
  intro B ι G H σ sl cs cs' n a xs ls l Q R ha r e k
  match ls, r, e with
  | _ :: _, _, e => cases e
  | [], r, e =>
    unfold lPop at e
    have e0 : xs = [] := r
    subst e0
    simp only at e
    split at e
    · rename_i ds hc
      cases ed : ds[ds.length - 1]? with
      | none => rw [ed] at e; simp at e
      | some d =>
        rw [ed] at e
        simp at e
        obtain ⟨rfl, rfl⟩ := e
        obtain ⟨hg, vs, ho, hr⟩ := R.cr _ a _ ha hc
        obtain ⟨v, hv, rv⟩ := hr.get ed
        refine ⟨a, vs, v, rfl, rfl, ho, by rw [hr.length]; exact hv, k _ _ _ _ (R.mutP ha hg ⟨hg, _, upd_same, reps_dropLast hr⟩) .refl rv⟩
    · rename_i ns hc
      cases ed : ns[ns.length - 1]? with
      | none => rw [ed] at e; simp at e
      | some m =>
        rw [ed] at e
        simp at e
        obtain ⟨rfl, rfl⟩ := e
        obtain ⟨hg, as, ho, hl, hs⟩ := R.cr _ a _ ha hc
        obtain ⟨b, hb1, hb2⟩ := hs _ _ ed
        refine ⟨a, _, .ref b, rfl, rfl, ho, by rw [List.length_map, hl, List.getElem?_map, hb2]; rfl, k _ _ _ _ (R.mutP ha hg ⟨hg, as.dropLast, by rw [List.map_dropLast]; exact upd_same, by simp [hl], fun i j q => ?_⟩) .refl ⟨b, hb1, rfl⟩⟩
        rw [List.dropLast_eq_take, List.getElem?_take] at q
        split at q
        · rename_i hi
          obtain ⟨b', q1, q2⟩ := hs i j q
          exact ⟨b', q1, by rw [List.dropLast_eq_take, List.getElem?_take, if_pos (by rw [hl]; exact hi)]; exact q2⟩
        · cases q
    · cases e
theorem we_pop0 {X : Cx} {o : Expr} {apos cpos : Pos} {mo : ME} (ho : WE C W X o mo)
    (h : ∀ {to : TE}, PE X o to → PE X (.Call (.Attribute o "pop" apos) [] [] cpos) (tBM0 X.K "list" rPop to) := by
      intro to h1; exact pe_bm0 PySem.F.plainAttrs_list PySem.F.slot_list_pop PySem.F.type_list_pop mt_pop h1) : WE C W X (.Call (.Attribute o "pop" apos) [] [] cpos) (mLM lPop mo mNil) := fun hK hT => (h (ho hK hT)).imp fun σ H Q h => sim_lm0 om_pop h
/-! ### xs[i] = v, xs[i] op= v, x op= v -/
def setAt (n : Nat) (i : Int) (d : Dt) (cs : Cs) : Option Cs := match cs[n]? with
  | some (.lst ds) => (ixN ds.length i).map fun j => cs.set n (.lst (ds.set j d))
  | _ => none
theorem setAt_ok {B : Bs} {ι : List Addr} {G H : Hp} {σ : St} {sl : Sl} {cs cs' : Cs} {n : Nat} {a : Addr} {i : Int} {v : V} {d : Dt} (R : Rel C B ι G H σ sl cs) (ha : ι[n]? = some a) (r : Rep C G v d) (h : setAt n i d cs = some cs') :
    ∃ xs j, H a = some (.lst xs) ∧ ixN xs.length i = some j ∧ Rel C B ι G (upd H a (.lst (xs.set j v))) σ sl cs' := by
  unfold setAt at h
  split at h
  · rename_i ds hc
    cases e : ixN ds.length i with
    | none => rw [e] at h; simp at h
    | some j =>
      rw [e] at h
      simp at h; subst h
      obtain ⟨hg, vs, ho, hr⟩ := R.cr _ a _ ha hc
      exact ⟨vs, j, ho, by rw [hr.length]; exact e, R.mutP ha hg ⟨hg, _, upd_same, hr.set r⟩⟩
  · cases h
def mSetI (mo mi mv : ME) : MS := fun sl cs => (mv sl cs).bind fun l cs1 => match fzD 4 cs1 l with
  | some (d, cs2) => (mo sl cs2).bind fun o cs3 => (mi sl cs3).bind fun i cs4 => match o, i with
    | .p n, .c (.int k) => (match setAt n k d cs4 with
      | some cs5 => .ok (.nx sl) cs5
      | none => .bad)
    | _, _ => .bad
  | none => .bad
theorem ws_seti {X : Cx} {o i e : Expr} {pos pos' : Pos} {mo mi mv : ME} (ho : WE C W X o mo) (hi : WE C W X i mi) (hv : WE C W X e mv) (hs : swapsWithSole [.Subscript o i pos'] e pos.line X.env = pure false := by rfl) (hw : swappedStores [.Subscript o i pos'] e X.env = pure none := by rfl) (h1 : (assignEach [.Subscript o i pos'] X.env).map (·.2) = [assign (.Subscript o i pos') X.env] := by rfl)
    (ha : ∀ v, assign (.Subscript o i pos') X.env v = (do
      let ov ← holding [v] (eval o X.env)
      let iv ← holding [v, ov] (eval i X.env)
      standAt pos'
      holding [v, ov, iv] (setItem ov iv v)
      release [v, ov, iv] []) := by intro _; rfl) : WS C W X (.Assign [.Subscript o i pos'] e pos) (mSetI mo mi mv) :=
  fun hK hT hP => (ps_asg (hv hK hT) (pg_sub (ho hK hT) (hi hK hT) set_list ha) hs hw h1).imp fun D σ H h => by
  obtain ⟨B, ι, G, sl, cs, R0, h⟩ := h
  refine ⟨B, ι, G, sl, cs, R0, (PostS.bind h).mono fun l cs1 h1 v ι1 G1 H1 R1 e1 r1 => ?_⟩
  cases ef : fzD 4 cs1 l with
  | none => rw [ef] at h1; exact h1.elim
  | some p =>
    obtain ⟨d, cs2⟩ := p
    rw [ef] at h1
    simp only at h1
    obtain ⟨G2, R2, e2, q2⟩ := (fzD_ok 4).run R1 r1 ef
    refine ⟨B, ι1, G2, sl, cs2, R2, (PostS.bind h1).mono fun l3 cs3 h3 v3 ι3 G3 H3 R3 e3 r3 => ?_⟩
    refine ⟨B, ι3, G3, sl, cs3, R3, (PostS.bind h3).mono fun l4 cs4 h4 v4 ι4 G4 H4 R4 e4 r4 => ?_⟩
    split at h4
    · rename_i n k
      obtain ⟨a, ha, rfl⟩ := r3
      cases es : setAt n k d cs4 with
      | none => rw [es] at h4; exact h4.elim
      | some cs5 =>
        rw [es] at h4
        obtain ⟨xs, j, q1, q3, q4⟩ := setAt_ok R4 (e4.get ha) (Rep.mono (e3.trans e4).g q2) es
        exact ⟨a, xs, k, j, rfl, repL_int r4, q1, q3, h4 _ _ _ _ q4 ((((e1.trans e2).trans e3)).trans e4)⟩
    · exact h4.elim
/-- xs[i] op= e, ints -/
def mAugI (f : Int → Int → Int) (mo mi mv : ME) : MS := fun sl cs => (mo sl cs).bind fun o cs1 => (mi sl cs1).bind fun i cs2 => match o, i with
  | .p n, .c (.int k) => (match view cs2 (.p n) with
    | some ls => (match atI ls k with
      | some (.c (.int x)) => (mv sl cs2).bind fun y cs3 => (match y with
        | .c (.int y) => (match setAt n k (.int (f x y)) cs3 with
          | some cs4 => .ok (.nx sl) cs4
          | none => .bad)
        | _ => .bad)
      | _ => .bad)
    | none => .bad)
  | _, _ => .bad
theorem ws_augi {X : Cx} {o i e : Expr} {op : Operator} {f : Int → Int → Int} {pos tpos : Pos} {mo mi mv : ME} (hp : PIp X op (ipI f)) (ho : WE C W X o mo) (hi : WE C W X i mi) (hv : WE C W X e mv)
    (ha : ∀ ov iv new, augStore i ov iv new = (do holding [new, ov, iv] (setItem ov iv new); release [new, ov, iv] []; pure .next) := by intros; rfl) : WS C W X (.AugAssign (.Subscript o i tpos) op e pos) (mAugI f mo mi mv) :=
  fun hK hT hP => (ps_augS (ho hK hT) (hi hK hT) (get_list hK) (hv hK hT) hp set_list ha).imp fun D σ H h => by
  obtain ⟨B, ι, G, sl, cs, R0, h⟩ := h
  refine ⟨B, ι, G, sl, cs, R0, (PostS.bind h).mono fun l1 cs1 h1 v1 ι1 G1 H1 R1 e1 r1 => ?_⟩
  refine ⟨B, ι1, G1, sl, cs1, R1, (PostS.bind h1).mono fun l2 cs2 h2 v2 ι2 G2 H2 R2 e2 r2 => ?_⟩
  split at h2
  · rename_i n k
    obtain ⟨a, ha, rfl⟩ := r1
    have ha2 := e2.get ha
    split at h2
    · rename_i ls ev
      split at h2
      · rename_i x ea
        obtain ⟨vs, hs, hr⟩ := view_at R2 (l := .p n) ⟨a, ha2, rfl⟩ ev
        have hs := sqK_L (fun _ z => by cases z) hs
        have : ∃ v, atI vs k = some v ∧ RepL C ι2 G2 v (.c (.int x)) := by
          unfold atI at ea ⊢
          rw [hr.length]
          cases ei : ixN ls.length k with
          | none => rw [ei] at ea; cases ea
          | some j =>
            rw [ei] at ea
            exact hr.get ea
        obtain ⟨w, hw, rw'⟩ := this
        have ew := repL_int rw'
        subst ew
        refine ⟨a, vs, k, _, rfl, repL_int r2, hs, hw, ?_⟩
        refine ⟨B, ι2, G2, sl, cs2, R2, (PostS.bind h2).mono fun l3 cs3 h3 v3 ι3 G3 H3 R3 e3 r3 => ?_⟩
        split at h3
        · rename_i y
          cases es : setAt n k (.int (f x y)) cs3 with
          | none => rw [es] at h3; exact h3.elim
          | some cs5 =>
            rw [es] at h3
            obtain ⟨xs, j, q1, q3, q4⟩ := setAt_ok (v := .int (f x y)) R3 (e3.get ha2) (rep_int.mpr rfl) es
            exact ⟨x, y, rfl, repL_int r3, a, xs, k, j, rfl, repL_int r2, q1, q3, h3 _ _ _ _ q4 ((e1.trans e2).trans e3)⟩
        · exact h3.elim
      · exact h2.elim
    · exact h2.elim
  · exact h2.elim
/-- x op= e, ints -/
def mAug (i : Nat) (f : Int → Int → Int) (mv : ME) : MS := fun sl cs => match sl[i]? with
  | some (some (.c (.int x))) => (mv sl cs).bind fun y cs1 => (match y with
    | .c (.int y) => .ok (.nx (sl.set i (some (.c (.int (f x y)))))) cs1
    | _ => .bad)
  | _ => .bad
theorem ws_aug {X : Cx} {x : Str} {e : Expr} {op : Operator} {f : Int → Int → Int} {pos pos' : Pos} {mv : ME} (i : Nat) (hN : X.N.Nodup) (hp : PIp X op (ipI f)) (hv : WE C W X e mv) (hi : X.N[i]? = some x := by rfl) (hx : Loc X.env.scope x := by first | exact Or.inl rfl | exact Or.inr rfl)
    (hf : X.fn x = true ∨ X.env.scope.names.lookup x = some .local := by first | exact .inl rfl | exact .inr rfl) : WS C W X (.AugAssign (.Name x pos') op e pos) (mAug i f mv) :=
  fun hK hT hP => (ps_aug hN hi hx (hv hK hT) hp hf).imp fun D σ H h => by
  obtain ⟨B, ι, G, sl, cs, R0, h⟩ := h
  unfold mAug at h
  split at h
  · rename_i x e
    obtain ⟨v, hv1, rv⟩ := R0.slt i _ e
    have ev := repL_int rv
    subst ev
    refine ⟨_, hv1, B, ι, G, sl, cs, R0, (PostS.bind h).mono fun l1 cs1 h1 v1 ι1 G1 H1 R1 e1 r1 => ?_⟩
    split at h1
    · rename_i y
      exact ⟨x, y, rfl, repL_int r1, h1 _ _ _ _ (R1.setS mk_int) e1⟩
    · exact h1.elim
  · exact h.elim
theorem o1_neg : O1 C opNeg (rU fun i => .int (-i)) := by
  intro B ι G H σ sl cs cs' x lx l Q R rx e k
  unfold opNeg at e
  split at e
  · simp at e
    obtain ⟨rfl, rfl⟩ := e
    exact ⟨_, repL_int rx, k _ _ _ _ R .refl mk_int⟩
  · cases e
theorem we_neg {X : Cx} {a : Expr} {pos : Pos} {ma : ME} (ha : WE C W X a ma) : WE C W X (.UnaryOp .USub a pos) (mOp1 opNeg ma) := we_un (fun _ => un_neg) o1_neg ha
/-- x is None -/
def opIsN (neg : Bool) : Lv → Lv → Cs → Option (Lv × Cs)
  | .c .non, .c .non, cs => some (.c (.bl (!neg)), cs)
  | .p _, .c .non, cs => some (.c (.bl neg), cs)
  | .c d, .c .non, cs => some (.c (.bl neg), cs)
  | _, _, _ => none
end
end Mi

set_option Elab.async false
set_option linter.all false
set_option maxRecDepth 100000
set_option maxHeartbeats 4000000
namespace Mi
open PySem L2
/-! ### isinstance -/
inductive TN where
  | b (n : String) | o (c : Nat)
deriving DecidableEq
def tv (C : Cn) : TN → Value
  | .b n => .type n
  | .o c => .ref (C.cl c)
def tyD : Dt → Option TN
  | .non => some (.b "NoneType")
  | .bl _ => some (.b "bool")
  | .int _ => some (.b "int")
  | .str _ => some (.b "str")
  | .tup _ => some (.b "tuple")
  | .lst _ => some (.b "list")
  | .dic _ _ => some (.b "dict")
  | .dct _ _ => some (.b "dict")
  | .obj c _ _ => some (.o c)
  | _ => none
def tyL (cs : Cs) : Lv → Option TN
  | .c d => tyD d
  | .p n => match cs[n]? with
    | some (.lst _) => some (.b "list")
    | some (.pl _) => some (.b "list")
    | some (.dic _ _) => some (.b "dict")
    | some (.dct _ _) => some (.b "dict")
    | some (.ins c _ _) => some (.o c)
    | some (.fz d) => tyD d
    | none => none
/-- what isinstance asks of an own class -/
structure InsF (K : PySem.W.Frag) (c : Addr) : Prop where
  cl : Cls K c
  ha : PySem.W.findIn K (.ref c) "__class__" = some (some (.builtin "object.__class__"))
  hn : PySem.W.specialIn K (.builtin "object.__class__") "__get__" = some (some (.builtin "getset_descriptor.__get__"))
  htk : PySem.W.takesIn K (.builtin "object.__class__") = some true
  hm : PySem.W.mroIn K c (.type "object") = some true
def baseTs : List String := ["NoneType", "bool", "int", "str", "tuple", "list", "dict"]
def kitP (m n : String) : Bool := m == n || (m == "bool" && n == "int")
theorem kitP_ok : ∀ m ∈ baseTs, ∀ n ∈ baseTs, kitB m n = some (kitP m n) := by decide +kernel
def kitT (tab : TN → TN → Option Bool) (t u : TN) : Option Bool := if t = u then some true else match t, u with
  | .b m, .b n => if (baseTs.contains m && baseTs.contains n) = true then some (kitP m n) else none
  | t, u => tab t u
structure IsF (C : Cn) (own : Nat → Bool) (tab : TN → TN → Option Bool) : Prop where
  ins : ∀ c, own c = true → InsF C.K (C.cl c)
  tab : ∀ t u b, tab t u = some b → PySem.W.kitOne C.K (tv C t) (tv C u) = some b
theorem kitOne_same {K : PySem.W.Frag} {t : Value} (h : (t == t) = true) : PySem.W.kitOne K t t = some true := by
  unfold PySem.W.kitOne
  rw [if_pos h]
theorem tv_same {C : Cn} : ∀ t : TN, (tv C t == tv C t) = true
  | .b n => by
    exact beq_iff_eq.mpr rfl
  | .o c => by
    exact beq_iff_eq.mpr rfl
section
variable {C : Cn} {W : WX} {own : Nat → Bool} {tab : TN → TN → Option Bool}
theorem kitT_ok (F : IsF C own tab) {t u : TN} {b : Bool} (h : kitT tab t u = some b) : PySem.W.kitOne C.K (tv C t) (tv C u) = some b := by
  unfold kitT at h
  split at h
  · rename_i e
    subst e
    cases h
    exact kitOne_same (tv_same t)
  · split at h
    · split at h
      · rename_i m n _ q
        simp at q h
        subst h
        exact kit_ty (kitP_ok m q.1 n q.2)
      · cases h
    · exact F.tab _ _ _ h
def okT (own : Nat → Bool) : TN → Bool
  | .o c => own c
  | .b _ => true
theorem tyD_ok (F : IsF C own tab) {H G : Hp} (g : Same G H) {d : Dt} {v : V} {t : TN} (r : Rep C G v d) (h : tyD d = some t) (ho : okT own t = true) : TyX C.K H v (tv C t) := by
  cases d with
  | non => cases rep_non.mp r; cases h; exact .base .non
  | bl b => cases rep_bl.mp r; cases h; exact .base (.bl b)
  | int b => cases rep_int.mp r; cases h; exact .base (.int b)
  | str b => cases rep_str.mp r; cases h; exact .base (.str b)
  | ty b => cases h
  | cls b => cases h
  | scr b => cases h
  | exn _ _ _ _ _ => cases h
  | tup xs => cases h; obtain ⟨a, vs, rfl, q, _⟩ := rep_tup.mp r; exact .base (.tup (g _ _ q))
  | lst xs => cases h; obtain ⟨a, vs, rfl, q, _⟩ := rep_lst.mp r; exact .base (.lst (g _ _ q))
  | dic ks xs => cases h; obtain ⟨a, vs, rfl, q, _⟩ := rep_dic.mp r; exact .base (.dK (g _ _ q))
  | dct ks xs => cases h; obtain ⟨a, vs, rfl, q, _⟩ := rep_dct.mp r; exact .base (.dT (g _ _ q))
  | obj c ns xs =>
    cases h
    obtain ⟨a, dx, fs, rfl, q, _⟩ := rep_obj.mp r
    have I := F.ins c ho
    exact .base (.ins (g _ _ q) I.cl I.ha I.hn I.htk I.hm)
theorem tyL_ok (F : IsF C own tab) {B : Bs} {ι : List Addr} {G H : Hp} {σ : St} {sl : Sl} {cs : Cs} {v : V} {l : Lv} {t : TN} (R : Rel C B ι G H σ sl cs) (r : RepL C ι G v l) (h : tyL cs l = some t) (ho : okT own t = true) : TyX C.K H v (tv C t) := by
  cases l with
  | c d => exact tyD_ok F R.hG (r : Rep C G v d) h ho
  | p n =>
    obtain ⟨a, h1, rfl⟩ := r
    unfold tyL at h
    simp only at h
    cases hc : cs[n]? with
    | none => rw [hc] at h; cases h
    | some c =>
      have cr := R.cr n a c h1 hc
      rw [hc] at h
      cases c with
      | lst ds => cases h; obtain ⟨_, vs, q, _⟩ := cr; exact .base (.lst q)
      | pl ds => cases h; obtain ⟨_, vs, q, _⟩ := cr; exact .base (.lst q)
      | dic ks ds => cases h; obtain ⟨_, vs, q, _⟩ := cr; exact .base (.dK q)
      | dct ks ds => cases h; obtain ⟨_, vs, q, _⟩ := cr; exact .base (.dT q)
      | fz d => exact tyD_ok F R.hG cr h ho
      | ins c ns ds =>
        cases h
        obtain ⟨_, dx, fs, q, _⟩ := cr
        have I := F.ins c ho
        exact .base (.ins q I.cl I.ha I.hn I.htk I.hm)
def clsOf : Dt → Option TN
  | .ty n => some (.b n)
  | .cls c => some (.o c)
  | _ => none
theorem clsOf_ok {G : Hp} {d : Dt} {v : V} {u : TN} (r : Rep C G v d) (h : clsOf d = some u) : ClsV v (tv C u) := by
  cases d with
  | ty n => cases h; cases rep_ty.mp r; exact .ty n
  | cls n => cases h; cases rep_cls.mp r; exact .own _
  | _ => cases h
def clsAll : List Dt → Option (List TN)
  | [] => some []
  | d :: ds => match clsOf d, clsAll ds with
    | some t, some ts => some (t :: ts)
    | _, _ => none
theorem clsAll_ok {G : Hp} : ∀ {ds : List Dt} {vs : List V} {us : List TN}, Reps C G vs ds → clsAll ds = some us → Paired ClsV vs (us.map (tv C))
  | [], vs, us, r, h => by
    cases h
    cases reps_nil.mp r
    exact .nil
  | d :: ds, vs, us, r, h => by
    obtain ⟨v, r0, rfl, r1, r2⟩ := reps_cons.mp r
    unfold clsAll at h
    split at h
    · rename_i t ts e1 e2
      cases h
      exact .cons (clsOf_ok r1 e1) (clsAll_ok r2 e2)
    · cases h
def kitTs (tab : TN → TN → Option Bool) (t : TN) : List TN → Option Bool
  | [] => some false
  | u :: us => match kitT tab t u with
    | some true => some true
    | some false => kitTs tab t us
    | none => none
theorem kitTs_ok (F : IsF C own tab) {t : TN} : ∀ {us : List TN} {b : Bool}, kitTs tab t us = some b → PySem.W.kitAny C.K (tv C t) (us.map (tv C)) = some b
  | [], b, h => h
  | u :: us, b, h => by
    unfold kitTs at h
    show PySem.W.kitAny C.K (tv C t) (tv C u :: us.map (tv C)) = some b
    unfold PySem.W.kitAny
    cases e : kitT tab t u with
    | none => rw [e] at h; cases h
    | some k =>
      rw [kitT_ok F e]
      rw [e] at h
      cases k with
      | true => exact h
      | false => exact kitTs_ok F h
/-- isinstance of two values -/
def cIsi (own : Nat → Bool) (tab : TN → TN → Option Bool) : List Lv → Cs → Option (Lv × Cs)
  | [x, .c (.ty n)], cs => match tyL cs x with
    | some t => if okT own t = true then (kitT tab t (.b n)).map fun b => (.c (.bl b), cs) else none
    | none => none
  | [x, .c (.cls c)], cs => match tyL cs x with
    | some t => if okT own t = true then (kitT tab t (.o c)).map fun b => (.c (.bl b), cs) else none
    | none => none
  | [x, .c (.tup ds)], cs => match tyL cs x, clsAll ds with
    | some t, some us => if okT own t = true then (kitTs tab t us).map fun b => (.c (.bl b), cs) else none
    | _, _ => none
  | _, _ => none
theorem on_isi (F : IsF C own tab) : ON C (cIsi own tab) (fun xs H Q => rIsi C.K xs H Q ∨ rIsiT C.K xs H Q) := by
  intro B ι G H σ sl cs cs' xs ls l Q R r e k
  unfold cIsi at e
  split at e
  · rename_i x n
    obtain ⟨v, w, rfl, r1, r2⟩ := two_args r
    split at e
    · rename_i t et
      split at e
      · rename_i ho
        cases ek : kitT tab t (.b n) with
        | none => rw [ek] at e; cases e
        | some b =>
          rw [ek] at e; cases e
          cases repL_ty r2
          exact .inl ⟨v, _, _, _, b, rfl, .ty n, tyL_ok F R r1 et ho, kitT_ok F ek, k _ _ _ _ R .refl mk_bl⟩
      · cases e
    · cases e
  · rename_i x n
    obtain ⟨v, w, rfl, r1, r2⟩ := two_args r
    split at e
    · rename_i t et
      split at e
      · rename_i ho
        cases ek : kitT tab t (.o n) with
        | none => rw [ek] at e; cases e
        | some b =>
          rw [ek] at e; cases e
          cases repL_cls r2
          exact .inl ⟨v, _, _, _, b, rfl, .own _, tyL_ok F R r1 et ho, kitT_ok F ek, k _ _ _ _ R .refl mk_bl⟩
      · cases e
    · cases e
  · rename_i x ds
    obtain ⟨v, w, rfl, r1, r2⟩ := two_args r
    split at e
    · rename_i t us et eu
      split at e
      · rename_i ho
        cases ek : kitTs tab t us with
        | none => rw [ek] at e; cases e
        | some b =>
          rw [ek] at e; cases e
          obtain ⟨a, vs, rfl, q1, q2⟩ := repL_tup r2
          exact .inr ⟨v, a, vs, _, _, b, rfl, R.hG _ _ q1, clsAll_ok q2 eu, tyL_ok F R r1 et ho, kitTs_ok F ek, k _ _ _ _ R .refl mk_bl⟩
      · cases e
    · cases e
  · cases e
theorem we_isi {X : Cx} {p pos : Pos} {e f : Expr} {ma : MA} (F : IsF C own tab) (hm : X.mg "isinstance" = none) (ha : WA C W X [e, f] ma) (hg : Gl X "isinstance" := by rfl) (he : starEach (e :: [f]) X.env = (false, eval e X.env) :: starEach [f] X.env := by rfl) (hpl : (backTo pos (starEach [f] X.env)).any (·.1) = false := by rfl) : WE C W X (.Call (.Name "isinstance" p) [e, f] [] pos) (mOpN (cIsi own tab) ma) :=
  we_callB (fun hK => hK ▸ (call_isi).or call_isiT) (on_isi F) hg hm PyProof.Rows.boot_isinstance ha (he := he) (hpl := hpl)
end
end Mi

set_option Elab.async false
set_option linter.all false
set_option maxRecDepth 100000
set_option maxHeartbeats 4000000
namespace Mi
open PySem L2
section
variable {C : Cn} {W : WX}
/-! ### {k: v, ..} -/
def mPairs : List (ME × ME) → Sl → Cs → Res (List (Lv × Lv))
  | [], _, cs => .ok [] cs
  | p :: r, sl, cs => (p.1 sl cs).bind fun x cs1 => (p.2 sl cs1).bind fun y cs2 => (mPairs r sl cs2).bind fun ps cs3 => .ok ((x, y) :: ps) cs3
theorem sim_pairs {B : Bs} {σ : St} {sl : Sl} : ∀ {trs : List (ME × ME)} {ι : List Addr} {G H : Hp} {cs : Cs} {Q : List (V × V) → Hp → Prop}, Rel C B ι G H σ sl cs →
    Post C W B σ (mPairs trs sl cs) (fun ps cs' => ∀ vs ι' G' H', Rel C B ι' G' H' σ sl cs' → Le ι G ι' G' → RepLs C ι' G' (vs.map (·.1)) (ps.map (·.1)) → RepLs C ι' G' (vs.map (·.2)) (ps.map (·.2)) → Q vs H') →
    tPairs (trs.map fun p => (tE C W p.1, tE C W p.2)) σ H Q
  | [], ι, G, H, cs, Q, R, h => h [] ι G H R .refl rfl rfl
  | p :: trs, ι, G, H, cs, Q, R, h => by
    refine ⟨B, ι, G, sl, cs, R, (Post.bind h).mono fun l1 cs1 h1 v1 ι1 G1 H1 R1 e1 r1 => ?_⟩
    refine ⟨B, ι1, G1, sl, cs1, R1, (Post.bind h1).mono fun l2 cs2 h2 v2 ι2 G2 H2 R2 e2 r2 => ?_⟩
    refine sim_pairs R2 ((Post.bind h2).mono fun ps cs3 h3 vs ι3 G3 H3 R3 e3 q1 q2 => ?_)
    exact h3 ((v1, v2) :: vs) ι3 G3 H3 R3 ((e1.trans e2).trans e3) ⟨_, _, rfl, (r1.mono e2).mono e3, q1⟩ ⟨_, _, rfl, r2.mono e3, q2⟩
def keysOf : List Lv → Option (List Key)
  | [] => some []
  | l :: ls => match keyOf l, keysOf ls with
    | some k, some ks => some (k :: ks)
    | _, _ => none
theorem keysOf_ok {ι : List Addr} {G : Hp} : ∀ {ls : List Lv} {vs : List V} {ks : List Key}, RepLs C ι G vs ls → keysOf ls = some ks → vs = ks.map kV
  | [], vs, ks, r, h => by cases h; exact r
  | l :: ls, vs, ks, r, h => by
    obtain ⟨v, w, rfl, r1, r2⟩ := r
    unfold keysOf at h
    split at h
    · rename_i k ks' e1 e2
      cases h
      rw [keyOf_ok r1 e1, keysOf_ok r2 e2]
      rfl
    · cases h
def mergeD : List Key → List Dt → List Key → List Dt → List Key × List Dt
  | k :: ks, d :: ds, as, bs => mergeD ks ds (putKD k d as bs).1 (putKD k d as bs).2
  | _, _, as, bs => (as, bs)
theorem mergeD_ok {G : Hp} : ∀ {ks : List Key} {ws : List V} {ds : List Dt} {kvs : List (Key × V)} {bs : List Dt}, ks.length = ds.length → Reps C G ws ds → (kvs.map (·.1)).Nodup → Reps C G (kvs.map (·.2)) bs →
    (mergeK kvs (ks.zip ws)).map (·.1) = (mergeD ks ds (kvs.map (·.1)) bs).1 ∧ ((mergeK kvs (ks.zip ws)).map (·.1)).Nodup ∧ Reps C G ((mergeK kvs (ks.zip ws)).map (·.2)) (mergeD ks ds (kvs.map (·.1)) bs).2
  | [], ws, [], kvs, bs, _, hr, hn, h => by
    have e : ws = [] := reps_nil.mp hr
    subst e
    exact ⟨rfl, hn, h⟩
  | k :: ks, ws, d :: ds, kvs, bs, hl, hr, hn, h => by
    obtain ⟨v, r, rfl, r1, r2⟩ := reps_cons.mp hr
    obtain ⟨i1, i2⟩ := putK_map (f := k) r1 hn h
    have hn2 : ((putK kvs k v).map (·.1)).Nodup := by
      rw [i1]
      exact (putKD_nd k d _ bs (by rw [← h.length]; simp) hn).1
    have := mergeD_ok (ks := ks) (ds := ds) (kvs := putK kvs k v) (by simpa using hl) r2 hn2 i2
    have t2 := this.2.1
    rw [i1] at this
    exact ⟨this.1, t2, this.2.2⟩
  | [], _, _ :: _, _, _, hl, _, _, _ => by simp at hl
  | _ :: _, _, [], _, _, hl, _, _, _ => by simp at hl
def mDisp (trs : List (ME × ME)) : ME := fun sl cs => (mPairs trs sl (cs ++ [.dic [] []])).bind fun ps cs1 => match keysOf (ps.map (·.1)), fzA cs1 (ps.map (·.2)) with
  | some ks, some (ds, cs2) => (match cs2[cs.length]? with
    | some (.dic [] []) => if ks.length ≤ 15 then .ok (.p cs.length) (cs2.set cs.length (.dic (mergeD ks ds [] []).1 (mergeD ks ds [] []).2)) else .bad
    | _ => .bad)
  | _, _ => .bad
theorem zip_pairs : ∀ {vs : List (V × V)} {ks : List Key} {ws : List V}, vs.map (·.1) = ks.map kV → vs.map (·.2) = ws → vs = (ks.zip ws).map fun kv => (kV kv.1, kv.2)
  | [], [], ws, _, h => by subst h; rfl
  | [], _ :: _, _, h, _ => by simp at h
  | _ :: _, [], _, h, _ => by simp at h
  | v :: vs, k :: ks, ws, h, e => by
    subst e
    simp only [List.map_cons, List.cons.injEq] at h
    simp only [List.map_cons, List.zip_cons_cons, List.cons.injEq]
    exact ⟨by rw [← h.1], zip_pairs h.2 rfl⟩
theorem sim_disp {trs : List (ME × ME)} {σ : St} {H : Hp} {Q : VK} (h : tE C W (mDisp trs) σ H Q) : tDisp (trs.map fun p => (tE C W p.1, tE C W p.2)) σ H Q := by
  obtain ⟨B, ι, G, sl, cs, R, h⟩ := h
  intro p hp
  obtain ⟨R1, e1⟩ := R.newP (o := .dK []) (c := .dic [] []) hp ⟨R.gnone hp, [], upd_same, rfl, List.nodup_nil, reps_nil.mpr rfl⟩
  have hpos : (ι ++ [p])[cs.length]? = some p := by rw [← R.cl, List.getElem?_append_right (Nat.le_refl _)]; simp
  refine sim_pairs R1 (h.bind.mono fun ps cs1 h1 vs ι2 G2 H2 R2 e2 q1 q2 => ?_)
  split at h1
  · rename_i ks ds cs2 ek ed
    obtain ⟨G3, R3, e3, q3⟩ := fzA_ok R2 q2 ed
    have hp2 := e2.get hpos
    split at h1
    · rename_i hc
      split at h1
      · rename_i hz
        obtain ⟨hg, kvs, ho, hk, _, _⟩ := R3.cr _ p _ hp2 hc
        have : kvs = [] := by cases kvs with
          | nil => rfl
          | cons a b => cases hk
        subst this
        have ekv := keysOf_ok q1 ek
        have hl : ks.length = ds.length := by
          have a1 := congrArg List.length ekv
          have a2 := q3.length
          simp at a1 a2
          omega
        obtain ⟨m1, m2, m3⟩ := mergeD_ok (ks := ks) (kvs := []) (bs := []) hl q3 List.nodup_nil (reps_nil.mpr rfl)
        refine ⟨ho, ks.zip (vs.map (·.2)), zip_pairs ekv rfl, by simp; omega, h1 _ _ _ _ (R3.mutP hp2 hg ⟨hg, _, upd_same, m1, m1 ▸ m2, m3⟩) ((e1.trans e2).trans e3) ⟨p, hp2, rfl⟩⟩
      · exact h1.elim
    · exact h1.elim
  · exact h1.elim
theorem we_disp1 {X : Cx} {k v : Expr} {pos : Pos} {mk mv : ME} (hk : WE C W X k mk) (hv : WE C W X v mv) : WE C W X (.Dict [some k] [v] pos) (mDisp [(mk, mv)]) :=
  fun hK hT => (pe_disp (pps_cons (hk hK hT) (hv hK hT) pps_nil) rfl rfl (by simp) (by simp)).imp fun _ _ _ h => sim_disp h
theorem we_disp2 {X : Cx} {k v k2 v2 : Expr} {pos : Pos} {mk mv mk2 mv2 : ME} (hk : WE C W X k mk) (hv : WE C W X v mv) (hk2 : WE C W X k2 mk2) (hv2 : WE C W X v2 mv2) : WE C W X (.Dict [some k, some k2] [v, v2] pos) (mDisp [(mk, mv), (mk2, mv2)]) :=
  fun hK hT => (pe_disp (pps_cons (hk hK hT) (hv hK hT) (pps_cons (hk2 hK hT) (hv2 hK hT) pps_nil)) rfl rfl (by simp) (by simp)).imp fun _ _ _ h => sim_disp h
/-! ### is None -/
def isNon (cs : Cs) : Lv → Option Bool
  | .c .non => some true
  | .c _ => some false
  | .p n => if n < cs.length then some false else none
theorem isNon_ok {B : Bs} {ι : List Addr} {G H : Hp} {σ : St} {sl : Sl} {cs : Cs} {v : V} {l : Lv} {b : Bool} (r : RepL C ι G v l) (h : isNon cs l = some b) : decide (v = .non) = b := by
  cases l with
  | p n =>
    obtain ⟨a, _, rfl⟩ := r
    have h : (if n < cs.length then some false else none) = some b := h
    split at h
    · cases h; rfl
    · cases h
  | c d =>
    cases d with
    | non => cases h; cases repL_non r; rfl
    | bl _ => cases h; cases repL_bl r; rfl
    | int _ => cases h; cases repL_int r; rfl
    | str _ => cases h; cases repL_str r; rfl
    | ty _ => cases h; cases repL_ty r; rfl
    | cls _ => cases h; cases repL_cls r; rfl
    | scr _ => cases h; obtain ⟨_, rfl, _⟩ := repL_scr r; rfl
    | tup _ => cases h; obtain ⟨_, _, rfl, _⟩ := repL_tup r; rfl
    | lst _ => cases h; obtain ⟨_, _, rfl, _⟩ := repL_lst r; rfl
    | dic _ _ => cases h; obtain ⟨_, _, rfl, _⟩ := repL_dic r; rfl
    | dct _ _ => cases h; obtain ⟨_, _, rfl, _⟩ := repL_dct r; rfl
    | obj _ _ _ => cases h; obtain ⟨_, _, _, rfl, _⟩ := repL_obj r; rfl
    | exn _ _ _ _ _ => cases h; cases (repL_exn r).1; rfl
def opNon (neg : Bool) (x y : Lv) (cs : Cs) : Option (Lv × Cs) := match y with
  | .c .non => (isNon cs x).map fun b => (.c (.bl (if neg = true then !b else b)), cs)
  | _ => none
theorem o2_isN : O2 C (opNon false) (fun x y H Q => y = .non ∧ Q (.bl (decide (x = .non))) H) := by
  intro B ι G H σ sl cs cs' x y lx ly l Q R rx ry e k
  unfold opNon at e
  split at e
  · cases eb : isNon cs lx with
    | none => rw [eb] at e; cases e
    | some b =>
      rw [eb] at e; cases e
      exact ⟨repL_non ry, k _ _ _ _ R .refl (by rw [isNon_ok (B := B) (H := H) (σ := σ) (sl := sl) rx eb]; exact mk_bl)⟩
  · cases e
theorem o2_notN : O2 C (opNon true) (fun x y H Q => y = .non ∧ Q (.bl (!decide (x = .non))) H) := by
  intro B ι G H σ sl cs cs' x y lx ly l Q R rx ry e k
  unfold opNon at e
  split at e
  · cases eb : isNon cs lx with
    | none => rw [eb] at e; cases e
    | some b =>
      rw [eb] at e; cases e
      exact ⟨repL_non ry, k _ _ _ _ R .refl (by rw [isNon_ok (B := B) (H := H) (σ := σ) (sl := sl) rx eb]; exact mk_bl)⟩
  · cases e
end
/-! ### the data of a law's defs -/
structure Dat where
  f : Nat → Addr
  fd : Nat → FuncData
  cl : Nat → Addr
structure DefF (K : PySem.W.Frag) (mg : Str → Option Value) (x : Str) (st : Stmt) (ps : List Str) (f : Addr) (fd : FuncData) : Prop where
  fn : Fun K x x st f fd
  at_ : mg x = some (.ref f)
  bd : Binds K fd ps []
structure DefM (K : PySem.W.Frag) (x qual : Str) (st : Stmt) (ps : List Str) (f : Addr) (fd : FuncData) : Prop where
  fn : Fun K x qual st f fd
  bd : Binds K fd ps []
end Mi

set_option Elab.async false
set_option linter.all false
set_option maxRecDepth 100000
set_option maxHeartbeats 4000000
namespace Mi
open PySem L2
/-- what law promises: True of every script of at most 63 ints -/
def spLaw (K : PySem.W.Frag) : Sp := fun vs H Q _ => ∃ (a : Addr) (ns : List Int), vs = [.ref a] ∧ SqL K H a (ns.map V.int) ∧ ns.length ≤ 63 ∧ (∀ z ∈ ns, Builtin.Int.intBits z ≤ 1048576) ∧ ∀ H', Q (.bl true) H'
theorem law_sp {P : Program} {w : World} {K : PySem.W.Frag} {mg : Str → Option Value} {base : Heap} {k : Nat} {f : Addr} {fd : FuncData} {ps : List Str} {cl : Nat → Addr} {m : List Dt → Out}
    (h : ∀ ns : List Int, ns.length ≤ 63 → (∀ z ∈ ns, Builtin.Int.intBits z ≤ 1048576) → m [.scr ns] = .ret (.c (.bl true))) (F : FnOk P w K mg base (L2.CX P w) k f fd ps (spM ⟨K, cl⟩ 1 m)) : FnOk P w K mg base (L2.CX P w) k f fd ps (spLaw K) :=
  F.imp fun vs H Q E hh => by
    obtain ⟨a, ns, rfl, hS, hl, hb, q⟩ := hh
    refine ⟨H, [.scr ns], Same.refl _, Reps.cons (rep_scr.mpr ⟨a, rfl, hS⟩) (reps_nil.mpr rfl), rfl, ?_⟩
    rw [h ns hl hb]
    intro v G' H' _ r
    cases rep_bl.mp (show Rep ⟨K, cl⟩ G' v (.bl true) from r)
    exact q H'
theorem cx_no {w : World} {P : Program} {H : Hp} {s : Shared} {e : Value} {s' : Shared} (h : L2.CX P w [] H s (fun _ _ _ => False) e s') : False := by
  obtain ⟨_, _, _, _, _, _, _, _, _, _, _, _, z⟩ := h
  exact z.elim
theorem law_walk {l : PySem.W.OpenLaw} {q : Program} {loose : List Str} {XP : (Str → Option Value) → Heap → Prop} {YP : World → Heap → Prop} {d : DefRec} {K : Params → PySem.W.Frag} (k : Nat) (hk : Room k callerA) (hn : l.most = some 63) (hdf : d.params.defaults = [])
    (hY : ∀ (w : World) (h : Heap), YP w h → (K w.params).In h)
    (F : ∀ (w : World) (mg : Str → Option Value) (fa : Addr) (h : Heap), (K w.params).In h → h.Ns mainGlobals mg → mg d.name = some (.ref fa) →
      ∃ fd : FuncData, (∀ (s : Shared) (u : Value), BindsTo s fd ⟨[u], []⟩ [("script", u)]) ∧ ∀ base : Heap, (K w.params).In base → base.Ns mainGlobals mg → FnOk l.prog w (K w.params) mg base (L2.CX l.prog w) k fa fd ["script"] (spLaw (K w.params))) :
    PySem.W.WalkO q loose XP YP l.row.toRowW d [] (fun f vs => PySem.call f vs) :=
  L2.walk_ofB (n := 63) (k := k) (x := "script") (CX := fun w => L2.CX l.prog w) (sp := fun w => spLaw (K w.params)) hn (by decide) hdf hk hY F (fun _ _ a ns hl hb _ hS => ⟨a, ns, rfl, hS, hl, hb, fun _ => rfl⟩) fun _ _ _ _ _ z => cx_no z
end Mi

set_option Elab.async false
set_option linter.all false
set_option maxRecDepth 100000
set_option maxHeartbeats 4000000
namespace Mi
open PySem L2
section
variable {C : Cn} {W : WX}
/-! ### a value closed where it comes up: the cells that its making took are let go -/
def isPl : Cl → Bool
  | .pl _ => true
  | _ => false
def noPl (cs : Cs) : Bool := cs.all fun c => !isPl c
/-- no list of cells that names a cell from k on -/
def okC (k : Nat) : Cl → Bool
  | .pl ns => ns.all fun n => decide (n < k)
  | _ => true
def okCs (k : Nat) (cs : Cs) : Bool := cs.all (okC k)
def mV (me : ME) : ME := fun sl cs => (me sl cs).bind fun l cs1 => match fzD 4 cs1 l with
  | some (d, cs2) => if okCs cs.length (cs2.take cs.length) = true then .ok (.c d) (cs2.take cs.length) else .bad
  | none => .bad
theorem CRep.less {ι m : List Addr} {G H : Hp} {a : Addr} : ∀ {c : Cl}, okC ι.length c = true → CRep C (ι ++ m) G H a c → CRep C ι G H a c
  | .lst _, _, h => h
  | .dic _ _, _, h => h
  | .dct _ _, _, h => h
  | .fz _, _, h => h
  | .ins _ _ _, _, h => h
  | .pl ns, e, h => by
    obtain ⟨hg, as, ho, hl, hs⟩ := h
    refine ⟨hg, as, ho, hl, fun i n q => ?_⟩
    obtain ⟨b, h1, h2⟩ := hs i n q
    have hn : n < ι.length := by
      have := List.all_eq_true.mp e n (List.mem_of_getElem? q)
      simpa using this
    rw [List.getElem?_append_left hn] at h1
    exact ⟨b, h1, h2⟩
/-- the newest cells are let go -/
theorem Rel.less {B : Bs} {ι ι' : List Addr} {G G' H H' : Hp} {σ : St} {sl : Sl} {cs cs' : Cs} (R : Rel C B ι G H σ sl cs) (R' : Rel C B ι' G' H' σ sl cs') (e : Le ι G ι' G') (hn : okCs cs.length (cs'.take cs.length) = true) : Rel C B ι G' H' σ sl (cs'.take cs.length) := by
  obtain ⟨⟨m, rfl⟩, g⟩ := e
  have hl : cs'.length = ι.length + m.length := by rw [← R'.cl]; simp
  refine ⟨R'.hG, R'.h0, R'.g0, fun a ha => R.fr a ha, fun a ha => R'.th a (by simp [ha]), R.nd, ?_, fun n a c h1 h2 => ?_, R.len, fun i l q => ?_, R.tb.trans ⟨⟨[], by simp⟩, g⟩⟩
  · rw [List.length_take, R.cl, hl, R.cl]; omega
  · have hc : c ∈ cs'.take cs.length := List.mem_of_getElem? h2
    have hp : okC ι.length c = true := by
      rw [R.cl]
      exact List.all_eq_true.mp hn c hc
    rw [List.getElem?_take] at h2
    split at h2
    · exact (R'.cr n a c (by rw [List.getElem?_append_left (List.getElem?_eq_some_iff.mp h1).1]; exact h1) h2).less hp
    · cases h2
  · obtain ⟨v, e1, r⟩ := R.slt i l q
    exact ⟨v, e1, r.mono ⟨⟨[], by simp⟩, g⟩⟩
theorem sim_v {me : ME} {σ : St} {H : Hp} {Q : VK} (h : tE C W (mV me) σ H Q) : tE C W me σ H Q := by
  obtain ⟨B, ι, G, sl, cs, R, h⟩ := h
  refine ⟨B, ι, G, sl, cs, R, h.bind.mono fun l cs1 h1 v ι1 G1 H1 R1 e1 r1 => ?_⟩
  cases ef : fzD 4 cs1 l with
  | none => rw [ef] at h1; exact h1.elim
  | some p =>
    obtain ⟨d, cs2⟩ := p
    rw [ef] at h1
    simp only at h1
    split at h1
    · rename_i hn
      obtain ⟨G2, R2, e2, q2⟩ := (fzD_ok 4).run R1 r1 ef
      have hcs : cs2.length = cs1.length := by rw [← R1.cl, ← R2.cl]
      exact h1 v ι G2 H1 (R.less R2 (e1.trans e2) hn) ⟨⟨[], by simp⟩, (e1.trans e2).g⟩ q2
    · exact h1.elim
theorem we_v {X : Cx} {e : Expr} {me : ME} (h : WE C W X e me) : WE C W X e (mV me) := fun hK hT => (h hK hT).imp fun _ _ _ q => sim_v q
/-- an iterable that is closed where it comes up -/
theorem wi_seqv {X : Cx} {tg l : Expr} {ma : ME} (ha : WE C W X l ma) : WI C W X tg l (mSeqI (mV ma)) := wi_seq (we_v ha)
theorem ws_setLcV {X : Cx} {y : Str} {py : Pos} {elt tg iter : Expr} {ifs : List Expr} {scope : Scope} {pos spos : Pos} {mi : MI} {ws : List Nat} {g : MG} {tt : MT} {te : ME} (i : Nat) (kp : Bool) (own : List (Str × Nat)) (hN : X.N.Nodup) (hi : WI C W X tg iter mi) (ok : BlkOk X.N X.env.scope scope own)
    (hg : ∀ (s : Shared) (H : Hp) (Ca : Addr) (cl : List (Str × Addr)) (fp : List Addr), WG C (X.blk s H scope (compEnvC scope cl Ca X.env) fp) tg ws g) (ht : ∀ (s : Shared) (H : Hp) (Ca : Addr) (cl : List (Str × Addr)) (fp : List Addr), WTs C W0 (X.blk s H scope (compEnvC scope cl Ca X.env) fp) ifs tt)
    (he : ∀ (s : Shared) (H : Hp) (Ca : Addr) (cl : List (Str × Addr)) (fp : List Addr), WE C W0 (X.blk s H scope (compEnvC scope cl Ca X.env) fp) elt te) (hsw : swapsWith (.ListComp elt [⟨tg, iter, ifs, 0⟩] scope pos) (some (.Name y py)) spos.line X.env = pure true)
    (hw : ∀ j ∈ ws, j ∈ own.map (·.2) := by decide) (hy : X.N[i]? = some y := by rfl) (hyl : X.env.scope.names.lookup y = some .local := by rfl) (hc : X.calm = true := by rfl) (hs : ∀ x, foldedSetIterable iter X.env x = pure x := by intro _; rfl) :
    WS C W X (.Assign [.Name y py] (.ListComp elt [⟨tg, iter, ifs, 0⟩] scope pos) spos) (mAsg (mV (mLc kp mi g tt te (own.map (·.2)))) (gN i)) := fun hK hT hP =>
  (ps_setLc hc hN hy hyl hsw (hi hK hT) ok (fun s H Ca cl fp => hg s H Ca cl fp hK) (fun s H Ca cl fp => ht s H Ca cl fp hK takes0) (fun s H Ca cl fp => he s H Ca cl fp hK takes0) hs).imp fun D σ H h => by
    have h2 := sim_asg (tg := gName i) (fun _ _ _ _ q => sim_gN q) h
    exact sim_lc hw (sim_v h2)
end
end Mi

set_option Elab.async false
set_option linter.all false
set_option maxRecDepth 100000
set_option maxHeartbeats 4000000
namespace Mi
open PySem L2
/-! ### what comes out of a run of the mirror -/
inductive Wp {α : Type} : Res α → (α → Cs → Prop) → Prop where
  | mk {a : α} {cs : Cs} {Q : α → Cs → Prop} (h : Q a cs) : Wp (.ok a cs) Q
@[simp] theorem wp_ok {α : Type} {a : α} {cs : Cs} {Q : α → Cs → Prop} : Wp (.ok a cs) Q ↔ Q a cs := ⟨fun h => by cases h; assumption, .mk⟩
@[simp] theorem wp_bad {α : Type} {Q : α → Cs → Prop} : Wp .bad Q ↔ False := ⟨fun h => (nomatch h), fun h => False.elim h⟩
@[simp] theorem wp_exc {α : Type} {e : Ex} {sl : Sl} {cs : Cs} {Q : α → Cs → Prop} : Wp (.exc e sl cs) Q ↔ False := ⟨fun h => (nomatch h), fun h => False.elim h⟩
@[simp] theorem wp_bind {α β : Type} {r : Res α} {f : α → Cs → Res β} {Q : β → Cs → Prop} : Wp (r.bind f) Q ↔ Wp r fun a cs => Wp (f a cs) Q := by
  cases r <;> simp
theorem Wp.mono {α : Type} {r : Res α} {Q Q' : α → Cs → Prop} (h : Wp r Q) (k : ∀ a cs, Q a cs → Q' a cs) : Wp r Q' := by
  cases h with
  | mk h => exact .mk (k _ _ h)
theorem Wp.get {α : Type} {r : Res α} {Q : α → Cs → Prop} (h : Wp r Q) : ∃ a cs, r = .ok a cs ∧ Q a cs := by
  cases h with
  | mk h => exact ⟨_, _, rfl, h⟩
theorem wp_of {α : Type} {r : Res α} {a : α} {cs : Cs} {Q : α → Cs → Prop} (e : r = .ok a cs) (h : Q a cs) : Wp r Q := by rw [e]; exact .mk h
@[simp] theorem up_some {α : Type} {a : α} {cs : Cs} : up (some (a, cs)) = .ok a cs := rfl
@[simp] theorem up_none {α : Type} : up (none : Option (α × Cs)) = .bad := rfl
@[simp] theorem up_ite {α : Type} {p : Prop} [Decidable p] {x y : Option (α × Cs)} : up (if p then x else y) = if p then up x else up y := by split <;> rfl
theorem wp_ite {α : Type} {p : Prop} [Decidable p] {x y : Res α} {Q : α → Cs → Prop} : Wp (if p then x else y) Q ↔ if p then Wp x Q else Wp y Q := by split <;> rfl
theorem wp_ite_t {α : Type} {p : Prop} [Decidable p] {x y : Res α} {Q : α → Cs → Prop} (h : p) : Wp (if p then x else y) Q ↔ Wp x Q := by rw [if_pos h]
/-! expressions -/
@[simp] theorem mVar_ap {i : Nat} {sl : Sl} {cs : Cs} : mVar i sl cs = match sl[i]? with
  | some (some l) => .ok l cs
  | _ => .bad := rfl
@[simp] theorem mC_ap {d : Dt} {sl : Sl} {cs : Cs} : mC d sl cs = .ok (.c d) cs := rfl
@[simp] theorem mOp1_ap {m : Lv → Cs → Option (Lv × Cs)} {a : ME} {sl : Sl} {cs : Cs} : mOp1 m a sl cs = (a sl cs).bind fun x cs1 => up (m x cs1) := rfl
@[simp] theorem mOp2_ap {m : Lv → Lv → Cs → Option (Lv × Cs)} {a b : ME} {sl : Sl} {cs : Cs} : mOp2 m a b sl cs = (a sl cs).bind fun x cs1 => (b sl cs1).bind fun y cs2 => up (m x y cs2) := rfl
@[simp] theorem mOpN_ap {m : List Lv → Cs → Option (Lv × Cs)} {a : MA} {sl : Sl} {cs : Cs} : mOpN m a sl cs = (a sl cs).bind fun x cs1 => up (m x cs1) := rfl
@[simp] theorem mNil_ap {sl : Sl} {cs : Cs} : mNil sl cs = .ok [] cs := rfl
@[simp] theorem mCons_ap {a : ME} {r : MA} {sl : Sl} {cs : Cs} : mCons a r sl cs = (a sl cs).bind fun x cs1 => (r sl cs1).bind fun xs cs2 => .ok (x :: xs) cs2 := rfl
@[simp] theorem mTst_ap {a : ME} {sl : Sl} {cs : Cs} : mTst a sl cs = (a sl cs).bind fun l cs1 => up (isB l cs1) := rfl
@[simp] theorem mTru_ap {a : ME} {sl : Sl} {cs : Cs} : mTru a sl cs = (a sl cs).bind fun l cs1 => up (truOf l cs1) := rfl
@[simp] theorem isB_bl {b : Bool} {cs : Cs} : isB (.c (.bl b)) cs = some (b, cs) := rfl
@[simp] theorem truOf_bl {b : Bool} {cs : Cs} : truOf (.c (.bl b)) cs = some (b, cs) := rfl
@[simp] theorem truOf_int {i : Int} {cs : Cs} : truOf (.c (.int i)) cs = some (i != 0, cs) := rfl
@[simp] theorem truOf_lst {ds : List Dt} {cs : Cs} : truOf (.c (.lst ds)) cs = some (!ds.isEmpty, cs) := by cases ds <;> rfl
@[simp] theorem truOf_tup {ds : List Dt} {cs : Cs} : truOf (.c (.tup ds)) cs = some (!ds.isEmpty, cs) := by cases ds <;> rfl
@[simp] theorem mAnd_ap {a b : MT} {sl : Sl} {cs : Cs} : mAnd a b sl cs = (a sl cs).bind fun k cs1 => if k = true then b sl cs1 else .ok false cs1 := rfl
@[simp] theorem mOr_ap {a b : MT} {sl : Sl} {cs : Cs} : mOr a b sl cs = (a sl cs).bind fun k cs1 => if k = true then .ok true cs1 else b sl cs1 := rfl
@[simp] theorem mNot_ap {a : MT} {sl : Sl} {cs : Cs} : mNot a sl cs = (a sl cs).bind fun k cs1 => .ok (!k) cs1 := rfl
@[simp] theorem mYes_ap {sl : Sl} {cs : Cs} : mYes sl cs = .ok true cs := rfl
@[simp] theorem mAndV_ap {a b : ME} {sl : Sl} {cs : Cs} : mAndV a b sl cs = (a sl cs).bind fun l cs1 => (up (isB l cs1)).bind fun k cs2 => if k = true then b sl cs2 else .ok (.c (.bl false)) cs2 := rfl
@[simp] theorem mOrV_ap {a b : ME} {sl : Sl} {cs : Cs} : mOrV a b sl cs = (a sl cs).bind fun l cs1 => (up (isB l cs1)).bind fun k cs2 => if k = true then .ok (.c (.bl true)) cs2 else b sl cs2 := rfl
@[simp] theorem mNotV_ap {a : ME} {sl : Sl} {cs : Cs} : mNotV a sl cs = (a sl cs).bind fun l cs1 => (up (isB l cs1)).bind fun k cs2 => .ok (.c (.bl (!k))) cs2 := rfl
@[simp] theorem mIfE_ap {t : MT} {a b : ME} {sl : Sl} {cs : Cs} : mIfE t a b sl cs = (t sl cs).bind fun k cs1 => if k = true then a sl cs1 else b sl cs1 := rfl
@[simp] theorem mTup_ap {a : MA} {sl : Sl} {cs : Cs} : mTup a sl cs = (a sl cs).bind fun ls cs1 => match fzA cs1 ls with
  | some (ds, cs2) => if ds.length ≤ sizeLine then .ok (.c (.tup ds)) cs2 else .bad
  | none => .bad := rfl
@[simp] theorem fzA_nil {cs : Cs} : fzA cs [] = some ([], cs) := rfl
@[simp] theorem fzA_cc {cs : Cs} {d : Dt} {ls : List Lv} : fzA cs (.c d :: ls) = (fzA cs ls).map fun p => (d :: p.1, p.2) := by
  show (match fzA cs ls with | some (ds, cs2) => some (d :: ds, cs2) | none => none) = _
  cases fzA cs ls with
  | none => rfl
  | some p => rfl
@[simp] theorem fzD_p {cs : Cs} {n : Nat} : fzD 4 cs (.p n) = match cs[n]? with
  | some (.fz d) => some (d, cs)
  | some (.lst ds) => some (.lst ds, cs.set n (.fz (.lst ds)))
  | some (.dic ks ds) => some (.dic ks ds, cs.set n (.fz (.dic ks ds)))
  | some (.dct ks ds) => some (.dct ks ds, cs.set n (.fz (.dct ks ds)))
  | some (.ins c ns ds) => some (.obj c ns ds, cs.set n (.fz (.obj c ns ds)))
  | some (.pl ns) => (match fzL (fzD 3) cs ns with
    | some (ds, cs1) => match cs1[n]? with
      | some (.pl ms) => if ms = ns then some (.lst ds, cs1.set n (.fz (.lst ds))) else none
      | _ => none
    | none => none)
  | none => none := rfl
@[simp] theorem szl : (sizeLine : Nat) = 16777216 := sizeLine_eq
@[simp] theorem mLst_ap {a : MA} {sl : Sl} {cs : Cs} : mLst false a sl cs = (a sl cs).bind fun ls cs1 => match fzA cs1 ls with
  | some (ds, cs2) => if ds.length ≤ sizeLine then .ok (.p cs2.length) (cs2 ++ [.lst ds]) else .bad
  | none => .bad := rfl
/-! a value closed where it comes up -/
@[simp] theorem noPl_nil : noPl [] = true := rfl
@[simp] theorem noPl_cons {c : Cl} {cs : Cs} : noPl (c :: cs) = (!isPl c && noPl cs) := rfl
@[simp] theorem noPl_app {cs cs' : Cs} : noPl (cs ++ cs') = (noPl cs && noPl cs') := List.all_append
@[simp] theorem isPl_lst {ds : List Dt} : isPl (.lst ds) = false := rfl
@[simp] theorem isPl_fz {ds : Dt} : isPl (.fz ds) = false := rfl
@[simp] theorem isPl_dic {ks : List Key} {ds : List Dt} : isPl (.dic ks ds) = false := rfl
@[simp] theorem isPl_ins {c : Nat} {ks : List Str} {ds : List Dt} : isPl (.ins c ks ds) = false := rfl
@[simp] theorem isPl_pl {ks : List Nat} : isPl (.pl ks) = true := rfl
@[simp] theorem okCs_nil {k : Nat} : okCs k [] = true := rfl
@[simp] theorem okCs_cons {k : Nat} {c : Cl} {cs : Cs} : okCs k (c :: cs) = (okC k c && okCs k cs) := rfl
@[simp] theorem okCs_app {k : Nat} {cs cs' : Cs} : okCs k (cs ++ cs') = (okCs k cs && okCs k cs') := List.all_append
@[simp] theorem okC_lst {k : Nat} {ds : List Dt} : okC k (.lst ds) = true := rfl
@[simp] theorem okC_fz {k : Nat} {ds : Dt} : okC k (.fz ds) = true := rfl
@[simp] theorem okC_dic {k : Nat} {ks : List Key} {ds : List Dt} : okC k (.dic ks ds) = true := rfl
@[simp] theorem okC_ins {k : Nat} {c : Nat} {ks : List Str} {ds : List Dt} : okC k (.ins c ks ds) = true := rfl
@[simp] theorem okC_pl {k : Nat} {ns : List Nat} : okC k (.pl ns) = ns.all fun n => decide (n < k) := rfl
theorem okC_of {k : Nat} {c : Cl} (h : isPl c = false) : okC k c = true := by cases c <;> first | rfl | cases h
theorem okCs_of {k : Nat} : ∀ {cs : Cs}, noPl cs = true → okCs k cs = true
  | [], _ => rfl
  | c :: cs, h => by
    simp at h
    simp [okC_of h.1, okCs_of h.2]
theorem mV_c {me : ME} {sl : Sl} {cs : Cs} {d : Dt} (h : me sl cs = .ok (.c d) cs) (hn : okCs cs.length cs = true) : mV me sl cs = .ok (.c d) cs := by
  unfold mV
  rw [h]
  simp [hn]
theorem mV_new {me : ME} {sl : Sl} {cs : Cs} {ds : List Dt} (h : me sl cs = .ok (.p cs.length) (cs ++ [.lst ds])) (hn : okCs cs.length cs = true) : mV me sl cs = .ok (.c (.lst ds)) cs := by
  unfold mV
  rw [h]
  simp [hn]
theorem mV_newD {me : ME} {sl : Sl} {cs : Cs} {ks : List Key} {ds : List Dt} (h : me sl cs = .ok (.p cs.length) (cs ++ [.dic ks ds])) (hn : okCs cs.length cs = true) : mV me sl cs = .ok (.c (.dic ks ds)) cs := by
  unfold mV
  rw [h]
  simp [hn]
@[simp] theorem mV_nil {sl : Sl} {cs : Cs} (h : okCs cs.length cs = true) : mV (mLst false mNil) sl cs = .ok (.c (.lst [])) cs := mV_new (by simp) h
/-! statements -/
theorem wp_then {r : Res Fl} {f : Sl → Cs → Res Fl} {P : Fl → Cs → Prop} : Wp (r.then f) P ↔ Wp r fun fl cs => match fl with
  | .nx sl => Wp (f sl cs) P
  | fl => P fl cs := by
  cases r with
  | ok a cs => cases a <;> simp [Res.then]
  | exc _ _ _ => simp [Res.then]
  | bad => simp [Res.then]
@[simp] theorem wp_seq {a b : MS} {sl : Sl} {cs : Cs} {P : Fl → Cs → Prop} : Wp (mSeq a b sl cs) P ↔ Wp (a sl cs) fun fl cs => match fl with
  | .nx sl => Wp (b sl cs) P
  | fl => P fl cs := wp_then
@[simp] theorem mPass_ap {sl : Sl} {cs : Cs} : mPass sl cs = .ok (.nx sl) cs := rfl
@[simp] theorem mBrk_ap {sl : Sl} {cs : Cs} : mBrk sl cs = .ok (.bk sl) cs := rfl
@[simp] theorem mCnt_ap {sl : Sl} {cs : Cs} : mCnt sl cs = .ok (.ct sl) cs := rfl
@[simp] theorem mNever_ap {sl : Sl} {cs : Cs} : mNever sl cs = .bad := rfl
@[simp] theorem mIf_ap {t : MT} {a b : MS} {sl : Sl} {cs : Cs} : mIf t a b sl cs = (t sl cs).bind fun k cs1 => if k = true then a sl cs1 else b sl cs1 := rfl
@[simp] theorem mDrop_ap {a : ME} {sl : Sl} {cs : Cs} : mDrop a sl cs = (a sl cs).bind fun _ cs1 => .ok (.nx sl) cs1 := rfl
@[simp] theorem mRet_ap {a : ME} {sl : Sl} {cs : Cs} : mRet a sl cs = (a sl cs).bind fun l cs1 => .ok (.rt l) cs1 := rfl
@[simp] theorem mAsg_ap {a : ME} {g : MG} {sl : Sl} {cs : Cs} : mAsg a g sl cs = (a sl cs).bind fun l cs1 => match g l sl cs1 with
  | some (sl', cs2) => .ok (.nx sl') cs2
  | none => .bad := rfl
@[simp] theorem gN_ap {i : Nat} {l : Lv} {sl : Sl} {cs : Cs} : gN i l sl cs = some (sl.set i (some l), cs) := rfl
@[simp] theorem gT_tup {n : Nat} {gs : List Lv → Sl → Cs → Option (Sl × Cs)} {ds : List Dt} {sl : Sl} {cs : Cs} : gT n gs (.c (.tup ds)) sl cs = if ds.length = n then gs (ds.map .c) sl cs else none := rfl
@[simp] theorem gsNil_ap {sl : Sl} {cs : Cs} : gsNil [] sl cs = some (sl, cs) := rfl
@[simp] theorem gsCons_ap {g : MG} {gs : List Lv → Sl → Cs → Option (Sl × Cs)} {l : Lv} {r : List Lv} {sl : Sl} {cs : Cs} : gsCons g gs (l :: r) sl cs = (g l sl cs).bind fun p => gs r p.1 p.2 := rfl
/-- the n-th item -/
def nth {α : Type} [Inhabited α] (xs : List α) (n : Nat) : α := xs.getD n default
theorem nth_get {α : Type} [Inhabited α] {xs : List α} {n : Nat} (h : n < xs.length) : nth xs n = xs[n] := by simp [nth, h]
theorem nth_get? {α : Type} [Inhabited α] {xs : List α} {n : Nat} (h : n < xs.length) : xs[n]? = some (nth xs n) := by rw [nth_get h, List.getElem?_eq_getElem h]
theorem nth_mem {α : Type} [Inhabited α] {xs : List α} {n : Nat} (h : n < xs.length) : nth xs n ∈ xs := by rw [nth_get h]; exact List.getElem_mem h
@[simp] theorem nth_0 {α : Type} [Inhabited α] {x : α} {xs : List α} : nth (x :: xs) 0 = x := rfl
@[simp] theorem nth_s {α : Type} [Inhabited α] {x : α} {xs : List α} {n : Nat} : nth (x :: xs) (n + 1) = nth xs n := rfl
@[simp] theorem flt_true {α : Type} {xs : List α} : xs.filter (fun _ => true) = xs := List.filter_eq_self.mpr fun _ _ => rfl
/-! operations -/
section
variable {i j : Int} {cs : Cs} {ds es : List Dt}
@[simp] theorem opAdd_int : opAdd (.c (.int i)) (.c (.int j)) cs = some (.c (.int (i + j)), cs) := rfl
@[simp] theorem opSub_int : opSub (.c (.int i)) (.c (.int j)) cs = some (.c (.int (i - j)), cs) := rfl
@[simp] theorem opNeg_int : opNeg (.c (.int i)) cs = some (.c (.int (-i)), cs) := rfl
@[simp] theorem opLt_int : opLt (.c (.int i)) (.c (.int j)) cs = some (.c (.bl (decide (i < j))), cs) := rfl
@[simp] theorem opLe_int : opLe (.c (.int i)) (.c (.int j)) cs = some (.c (.bl (decide (i ≤ j))), cs) := rfl
@[simp] theorem opGt_int : opGt (.c (.int i)) (.c (.int j)) cs = some (.c (.bl (decide (j < i))), cs) := rfl
@[simp] theorem opGe_int : opGe (.c (.int i)) (.c (.int j)) cs = some (.c (.bl (decide (j ≤ i))), cs) := rfl
theorem opMod_int (h : 0 < j) : opMod (.c (.int i)) (.c (.int j)) cs = some (.c (.int (i % j)), cs) := by
  unfold opMod i2
  simp [h]
theorem opDiv_int (h : 0 < j) (h2 : j < 2 ^ 64) : opDiv (.c (.int i)) (.c (.int j)) cs = some (.c (.int (i / j)), cs) := by
  have : CDivW i j := ⟨h, Nat.lt_of_lt_of_le ((Nat.log2_lt (by omega)).mpr (show j.natAbs < 2 ^ 64 by omega)) (by decide)⟩
  unfold opDiv i2
  simp [this]
theorem log_small {i : Int} {k : Nat} (h1 : -(2 ^ k) < i) (h2 : i < 2 ^ k) : i.natAbs.log2 ≤ k := by
  by_cases h : i.natAbs = 0
  · rw [h]; simp
  · have : i.natAbs < 2 ^ k := by
      have e : ((2 ^ k : Nat) : Int) = (2 : Int) ^ k := by simp
      omega
    exact Nat.le_of_lt ((Nat.log2_lt h).mpr this)
theorem opMul_of (h : CMulW i j) : opMul (.c (.int i)) (.c (.int j)) cs = some (.c (.int (i * j)), cs) := by
  unfold opMul i2
  simp [h]
theorem opMul_int (h1 : -(2 ^ 100) < i) (h2 : i < 2 ^ 100) (h3 : -(2 ^ 100) < j) (h4 : j < 2 ^ 100) : opMul (.c (.int i)) (.c (.int j)) cs = some (.c (.int (i * j)), cs) := by
  refine opMul_of ?_
  have a := log_small h1 h2
  have b := log_small h3 h4
  show _ + _ < _
  omega
@[simp] theorem opPow_18 : opPow (.c (.int 10)) (.c (.int 18)) cs = some (.c (.int 1000000000000000000), cs) := rfl
theorem opAdd_lst (h : ds.length + es.length ≤ 16777216) : opAdd (.c (.lst ds)) (.c (.lst es)) cs = some (.p cs.length, cs ++ [.lst (ds ++ es)]) := by
  have h' : ds.length + es.length ≤ sizeLine := by rw [sizeLine_eq]; exact h
  unfold opAdd opCatL lstOf i2
  simp [h]
theorem opMul_lst {k : Int} (h0 : 0 ≤ k) (h : ds.length * k.toNat ≤ 16777216) (hk : k ≤ 1000000000) : opMul (.c (.lst ds)) (.c (.int k)) cs = some (.p cs.length, cs ++ [.lst (List.replicate k.toNat ds).flatten]) := by
  have h' : ds.length * k.toNat ≤ sizeLine := by rw [sizeLine_eq]; exact h
  have hs : smallI k = true := smallI_le (by omega)
  unfold opMul opRepL lstOf i2
  simp [h, hs]
theorem opMul_one {k : Int} {d : Dt} (h0 : 0 ≤ k) (h : k ≤ 16777216) : opMul (.c (.lst [d])) (.c (.int k)) cs = some (.p cs.length, cs ++ [.lst (List.replicate k.toNat d)]) := by
  have hq : (List.replicate k.toNat [d]).flatten = List.replicate k.toNat d := by
    induction k.toNat with
    | zero => rfl
    | succ n ih => rw [List.replicate_succ, List.flatten_cons, ih, List.replicate_succ]; rfl
  rw [opMul_lst h0 (by simp; omega) (by omega), hq]
@[simp] theorem opItem_c : opItem (.c (.lst ds)) (.c (.int i)) cs = ((atI ds i).map fun d => (Lv.c d, cs)) := by
  unfold opItem itemS itemC view
  simp only [Option.bind_some, Option.orElse]
  unfold atI
  simp only [List.length_map, List.getElem?_map]
  cases ixN ds.length i with
  | none => rfl
  | some n => cases h : ds[n]? <;> simp [h]
@[simp] theorem opItem_t : opItem (.c (.tup ds)) (.c (.int i)) cs = ((atI ds i).map fun d => (Lv.c d, cs)) := by
  unfold opItem itemS itemC view
  simp only [Option.bind_some, Option.orElse]
  unfold atI
  simp only [List.length_map, List.getElem?_map]
  cases ixN ds.length i with
  | none => rfl
  | some n => cases h : ds[n]? <;> simp [h]
theorem opItem_scr {ns : List Int} (h0 : 0 ≤ i) (hi : i < ns.length) : opItem (.c (.scr ns)) (.c (.int i)) cs = some (.c (.int (nth ns i.toNat)), cs) := by
  unfold opItem itemS itemC view atI ixN
  have h2 : i.toNat < ns.length := by omega
  simp [h0, hi, h2, nth_get h2]
theorem opItem_p {n : Nat} (h : cs[n]? = some (.lst ds)) : opItem (.p n) (.c (.int i)) cs = ((atI ds i).map fun d => (Lv.c d, cs)) := by
  unfold opItem itemS itemC view
  simp only [h, Option.bind_some, Option.orElse]
  unfold atI
  simp only [List.length_map, List.getElem?_map]
  cases ixN ds.length i with
  | none => rfl
  | some n => cases h : ds[n]? <;> simp [h]
theorem atI_get {α : Type} [Inhabited α] {xs : List α} {i : Int} (h0 : 0 ≤ i) (hi : i < xs.length) : atI xs i = some (nth xs i.toNat) := by
  unfold atI ixN
  have h2 : i.toNat < xs.length := by omega
  simp [h0, hi, h2, nth_get h2]
theorem atI_map {α β : Type} [Inhabited α] {f : α → β} {xs : List α} {i : Int} (h0 : 0 ≤ i) (hi : i < xs.length) : atI (xs.map f) i = some (f (nth xs i.toNat)) := by
  unfold atI ixN
  have h2 : i.toNat < xs.length := by omega
  simp [h0, hi, h2, nth_get h2]
theorem atI_mapN {α β : Type} [Inhabited α] {f : α → β} {xs : List α} {i : Int} {n : Nat} (e : i = n) (h : n < xs.length) : atI (xs.map f) i = some (f (nth xs n)) := by
  subst e
  have := atI_map (f := f) (xs := xs) (i := (n : Int)) (by omega) (by omega)
  rw [this, Int.toNat_natCast]
theorem atI_nat {α : Type} {xs : List α} {n : Nat} : atI xs (n : Int) = xs[n]? := by
  unfold atI ixN
  by_cases h : n < xs.length
  · simp [h]
  · simp [h]
@[simp] theorem atI_0 {α : Type} {x : α} {xs : List α} : atI (x :: xs) 0 = some x := by simp [atI, ixN]
@[simp] theorem atI_1 {α : Type} {x y : α} {xs : List α} : atI (x :: y :: xs) 1 = some y := by
  have := atI_nat (xs := x :: y :: xs) (n := 1); simpa using this
@[simp] theorem atI_2 {α : Type} {x y z : α} {xs : List α} : atI (x :: y :: z :: xs) 2 = some z := by
  have := atI_nat (xs := x :: y :: z :: xs) (n := 2); simpa using this
@[simp] theorem atI_3 {α : Type} {x y z u : α} {xs : List α} : atI (x :: y :: z :: u :: xs) 3 = some u := by
  have := atI_nat (xs := x :: y :: z :: u :: xs) (n := 3); simpa using this
@[simp] theorem cLen_lst : cLen [.c (.lst ds)] cs = some (.c (.int ds.length), cs) := by simp [cLen, view]
@[simp] theorem cLen_tup : cLen [.c (.tup ds)] cs = some (.c (.int ds.length), cs) := by simp [cLen, view]
@[simp] theorem cLen_scr {ns : List Int} : cLen [.c (.scr ns)] cs = some (.c (.int ns.length), cs) := by simp [cLen, view]
@[simp] theorem cLen_p {n : Nat} : cLen [.p n] cs = (match view cs (.p n) with
    | some ls => some (.c (.int ls.length), cs)
    | none => (dicOf cs (.p n)).map fun p => (.c (.int p.1.length), cs)) := rfl
theorem cLen_cell {n : Nat} (h : cs[n]? = some (.lst ds)) : cLen [.p n] cs = some (.c (.int ds.length), cs) := by simp [cLen, view, h]
@[simp] theorem cInt_int : cInt [.c (.int i)] cs = some (.c (.int i), cs) := rfl
@[simp] theorem cInt_bl {b : Bool} : cInt [.c (.bl b)] cs = some (.c (.int (if b then 1 else 0)), cs) := rfl
@[simp] theorem cTuple_lst : cTuple [.c (.lst ds)] cs = some (.c (.tup ds), cs) := by simp [cTuple, view]
@[simp] theorem cTuple_tup : cTuple [.c (.tup ds)] cs = some (.c (.tup ds), cs) := by simp [cTuple, view]
theorem cTuple_cell {n : Nat} (h : cs[n]? = some (.lst ds)) : cTuple [.p n] cs = some (.c (.tup ds), cs) := by simp [cTuple, view, h]
@[simp] theorem cList_lst : cList [.c (.lst ds)] cs = some (.p cs.length, cs ++ [.lst ds]) := by simp [cList, view]
@[simp] theorem cList_tup : cList [.c (.tup ds)] cs = some (.p cs.length, cs ++ [.lst ds]) := by simp [cList, view]
@[simp] theorem intsV_map : ∀ ns : List Int, intsV ((ns.map Dt.int).map Lv.c) = some ns
  | [] => rfl
  | n :: ns => by
    show (intsV ((ns.map Dt.int).map Lv.c)).map (n :: ·) = _
    rw [intsV_map ns]; rfl
@[simp] theorem cSum_ints {ns : List Int} : cSum [.c (.lst (ns.map .int))] cs = some (.c (.int ns.sum), cs) := by
  have : cSum [.c (.lst (ns.map .int))] cs = (view cs (.c (.lst (ns.map .int)))).bind fun ls => (intsV ls).map fun ns => (.c (.int ns.sum), cs) := rfl
  rw [this]
  show (intsV ((ns.map Dt.int).map Lv.c)).map _ = _
  rw [intsV_map]; rfl
theorem cSort_ints {ns : List Int} : cSort [.c (.lst (ns.map .int))] cs = some (.p cs.length, cs ++ [.lst ((sortI ns).map .int)]) := by
  have e : cSortL [.c (.lst (ns.map .int))] cs = (view cs (.c (.lst (ns.map .int)))).bind fun ls => (intsV ls).map fun ns => (.p cs.length, cs ++ [.lst ((sortI ns).map .int)]) := rfl
  have e2 : cSortL [.c (.lst (ns.map .int))] cs = some (.p cs.length, cs ++ [.lst ((sortI ns).map .int)]) := by
    rw [e]
    show (intsV ((ns.map Dt.int).map Lv.c)).map _ = _
    rw [intsV_map]; rfl
  unfold cSort
  rw [e2]; rfl
@[simp] theorem anyF_ints (i : Int) : ∀ ns : List Int, anyF (.int i) ((ns.map Dt.int).map Lv.c) = some (decide (i ∈ ns))
  | [] => by simp [anyF]
  | n :: ns => by
    have ih := anyF_ints i ns
    have : anyF (.int i) (((n :: ns).map Dt.int).map Lv.c) = (eqF (.int n) (.int i)).bind fun b => (anyF (.int i) ((ns.map Dt.int).map Lv.c)).map fun r => b || r := rfl
    rw [this, ih]
    show some (n == i || decide (i ∈ ns)) = _
    have : (n == i) = decide (i = n) := by
      by_cases h : n = i
      · subst h; simp
      · have h' : ¬ i = n := fun z => h z.symm
        simp [h, h']
    rw [this]
    simp
theorem opIn_ints {neg : Bool} {ns : List Int} : opIn neg (.c (.int i)) (.c (.lst (ns.map .int))) cs = some (.c (.bl (if neg = true then !decide (i ∈ ns) else decide (i ∈ ns))), cs) := by
  have : opIn neg (.c (.int i)) (.c (.lst (ns.map .int))) cs = ((anyF (.int i) ((ns.map Dt.int).map Lv.c)).map fun b => (Lv.c (.bl (if neg = true then !b else b)), cs)).orElse fun _ => opInC neg (.c (.int i)) (.c (.lst (ns.map .int))) cs := rfl
  rw [this, anyF_ints]; rfl
theorem opIn_intsT {neg : Bool} {ns : List Int} : opIn neg (.c (.int i)) (.c (.tup (ns.map .int))) cs = some (.c (.bl (if neg = true then !decide (i ∈ ns) else decide (i ∈ ns))), cs) := by
  have : opIn neg (.c (.int i)) (.c (.tup (ns.map .int))) cs = ((anyF (.int i) ((ns.map Dt.int).map Lv.c)).map fun b => (Lv.c (.bl (if neg = true then !b else b)), cs)).orElse fun _ => opInC neg (.c (.int i)) (.c (.tup (ns.map .int))) cs := rfl
  rw [this, anyF_ints]; rfl
@[simp] theorem in_ints {ns : List Int} : opIn false (.c (.int i)) (.c (.lst (ns.map .int))) cs = some (.c (.bl (decide (i ∈ ns))), cs) := opIn_ints
@[simp] theorem notin_ints {ns : List Int} : opIn true (.c (.int i)) (.c (.lst (ns.map .int))) cs = some (.c (.bl (!decide (i ∈ ns))), cs) := opIn_ints
@[simp] theorem in_intsT {ns : List Int} : opIn false (.c (.int i)) (.c (.tup (ns.map .int))) cs = some (.c (.bl (decide (i ∈ ns))), cs) := opIn_intsT
@[simp] theorem notin_intsT {ns : List Int} : opIn true (.c (.int i)) (.c (.tup (ns.map .int))) cs = some (.c (.bl (!decide (i ∈ ns))), cs) := opIn_intsT
end
/-! isinstance -/
@[simp] theorem kitT_non_non {tab : TN → TN → Option Bool} : kitT tab (.b "NoneType") (.b "NoneType") = some true := rfl
@[simp] theorem kitT_non_bl {tab : TN → TN → Option Bool} : kitT tab (.b "NoneType") (.b "bool") = some false := rfl
@[simp] theorem kitT_non_int {tab : TN → TN → Option Bool} : kitT tab (.b "NoneType") (.b "int") = some false := rfl
@[simp] theorem kitT_non_str {tab : TN → TN → Option Bool} : kitT tab (.b "NoneType") (.b "str") = some false := rfl
@[simp] theorem kitT_non_tup {tab : TN → TN → Option Bool} : kitT tab (.b "NoneType") (.b "tuple") = some false := rfl
@[simp] theorem kitT_non_lst {tab : TN → TN → Option Bool} : kitT tab (.b "NoneType") (.b "list") = some false := rfl
@[simp] theorem kitT_non_dic {tab : TN → TN → Option Bool} : kitT tab (.b "NoneType") (.b "dict") = some false := rfl
@[simp] theorem kitT_bl_non {tab : TN → TN → Option Bool} : kitT tab (.b "bool") (.b "NoneType") = some false := rfl
@[simp] theorem kitT_bl_bl {tab : TN → TN → Option Bool} : kitT tab (.b "bool") (.b "bool") = some true := rfl
@[simp] theorem kitT_bl_int {tab : TN → TN → Option Bool} : kitT tab (.b "bool") (.b "int") = some true := rfl
@[simp] theorem kitT_bl_str {tab : TN → TN → Option Bool} : kitT tab (.b "bool") (.b "str") = some false := rfl
@[simp] theorem kitT_bl_tup {tab : TN → TN → Option Bool} : kitT tab (.b "bool") (.b "tuple") = some false := rfl
@[simp] theorem kitT_bl_lst {tab : TN → TN → Option Bool} : kitT tab (.b "bool") (.b "list") = some false := rfl
@[simp] theorem kitT_bl_dic {tab : TN → TN → Option Bool} : kitT tab (.b "bool") (.b "dict") = some false := rfl
@[simp] theorem kitT_int_non {tab : TN → TN → Option Bool} : kitT tab (.b "int") (.b "NoneType") = some false := rfl
@[simp] theorem kitT_int_bl {tab : TN → TN → Option Bool} : kitT tab (.b "int") (.b "bool") = some false := rfl
@[simp] theorem kitT_int_int {tab : TN → TN → Option Bool} : kitT tab (.b "int") (.b "int") = some true := rfl
@[simp] theorem kitT_int_str {tab : TN → TN → Option Bool} : kitT tab (.b "int") (.b "str") = some false := rfl
@[simp] theorem kitT_int_tup {tab : TN → TN → Option Bool} : kitT tab (.b "int") (.b "tuple") = some false := rfl
@[simp] theorem kitT_int_lst {tab : TN → TN → Option Bool} : kitT tab (.b "int") (.b "list") = some false := rfl
@[simp] theorem kitT_int_dic {tab : TN → TN → Option Bool} : kitT tab (.b "int") (.b "dict") = some false := rfl
@[simp] theorem kitT_str_non {tab : TN → TN → Option Bool} : kitT tab (.b "str") (.b "NoneType") = some false := rfl
@[simp] theorem kitT_str_bl {tab : TN → TN → Option Bool} : kitT tab (.b "str") (.b "bool") = some false := rfl
@[simp] theorem kitT_str_int {tab : TN → TN → Option Bool} : kitT tab (.b "str") (.b "int") = some false := rfl
@[simp] theorem kitT_str_str {tab : TN → TN → Option Bool} : kitT tab (.b "str") (.b "str") = some true := rfl
@[simp] theorem kitT_str_tup {tab : TN → TN → Option Bool} : kitT tab (.b "str") (.b "tuple") = some false := rfl
@[simp] theorem kitT_str_lst {tab : TN → TN → Option Bool} : kitT tab (.b "str") (.b "list") = some false := rfl
@[simp] theorem kitT_str_dic {tab : TN → TN → Option Bool} : kitT tab (.b "str") (.b "dict") = some false := rfl
@[simp] theorem kitT_tup_non {tab : TN → TN → Option Bool} : kitT tab (.b "tuple") (.b "NoneType") = some false := rfl
@[simp] theorem kitT_tup_bl {tab : TN → TN → Option Bool} : kitT tab (.b "tuple") (.b "bool") = some false := rfl
@[simp] theorem kitT_tup_int {tab : TN → TN → Option Bool} : kitT tab (.b "tuple") (.b "int") = some false := rfl
@[simp] theorem kitT_tup_str {tab : TN → TN → Option Bool} : kitT tab (.b "tuple") (.b "str") = some false := rfl
@[simp] theorem kitT_tup_tup {tab : TN → TN → Option Bool} : kitT tab (.b "tuple") (.b "tuple") = some true := rfl
@[simp] theorem kitT_tup_lst {tab : TN → TN → Option Bool} : kitT tab (.b "tuple") (.b "list") = some false := rfl
@[simp] theorem kitT_tup_dic {tab : TN → TN → Option Bool} : kitT tab (.b "tuple") (.b "dict") = some false := rfl
@[simp] theorem kitT_lst_non {tab : TN → TN → Option Bool} : kitT tab (.b "list") (.b "NoneType") = some false := rfl
@[simp] theorem kitT_lst_bl {tab : TN → TN → Option Bool} : kitT tab (.b "list") (.b "bool") = some false := rfl
@[simp] theorem kitT_lst_int {tab : TN → TN → Option Bool} : kitT tab (.b "list") (.b "int") = some false := rfl
@[simp] theorem kitT_lst_str {tab : TN → TN → Option Bool} : kitT tab (.b "list") (.b "str") = some false := rfl
@[simp] theorem kitT_lst_tup {tab : TN → TN → Option Bool} : kitT tab (.b "list") (.b "tuple") = some false := rfl
@[simp] theorem kitT_lst_lst {tab : TN → TN → Option Bool} : kitT tab (.b "list") (.b "list") = some true := rfl
@[simp] theorem kitT_lst_dic {tab : TN → TN → Option Bool} : kitT tab (.b "list") (.b "dict") = some false := rfl
@[simp] theorem kitT_dic_non {tab : TN → TN → Option Bool} : kitT tab (.b "dict") (.b "NoneType") = some false := rfl
@[simp] theorem kitT_dic_bl {tab : TN → TN → Option Bool} : kitT tab (.b "dict") (.b "bool") = some false := rfl
@[simp] theorem kitT_dic_int {tab : TN → TN → Option Bool} : kitT tab (.b "dict") (.b "int") = some false := rfl
@[simp] theorem kitT_dic_str {tab : TN → TN → Option Bool} : kitT tab (.b "dict") (.b "str") = some false := rfl
@[simp] theorem kitT_dic_tup {tab : TN → TN → Option Bool} : kitT tab (.b "dict") (.b "tuple") = some false := rfl
@[simp] theorem kitT_dic_lst {tab : TN → TN → Option Bool} : kitT tab (.b "dict") (.b "list") = some false := rfl
@[simp] theorem kitT_dic_dic {tab : TN → TN → Option Bool} : kitT tab (.b "dict") (.b "dict") = some true := rfl
@[simp] theorem tyL_c {cs : Cs} {d : Dt} : tyL cs (.c d) = tyD d := rfl
@[simp] theorem okT_b {own : Nat → Bool} {n : String} : okT own (.b n) = true := rfl
@[simp] theorem tyD_non : tyD .non = some (.b "NoneType") := rfl
@[simp] theorem tyD_bl {b : Bool} : tyD (.bl b) = some (.b "bool") := rfl
@[simp] theorem tyD_int {i : Int} : tyD (.int i) = some (.b "int") := rfl
@[simp] theorem tyD_str {i : Str} : tyD (.str i) = some (.b "str") := rfl
@[simp] theorem tyD_tup {i : List Dt} : tyD (.tup i) = some (.b "tuple") := rfl
@[simp] theorem tyD_lst {i : List Dt} : tyD (.lst i) = some (.b "list") := rfl
@[simp] theorem tyD_dic {ks : List Key} {i : List Dt} : tyD (.dic ks i) = some (.b "dict") := rfl
@[simp] theorem tyD_obj {c : Nat} {ks : List Str} {i : List Dt} : tyD (.obj c ks i) = some (.o c) := rfl
@[simp] theorem cIsi_ty {own : Nat → Bool} {tab : TN → TN → Option Bool} {x : Lv} {n : String} {cs : Cs} : cIsi own tab [x, .c (.ty n)] cs = match tyL cs x with
    | some t => if okT own t = true then (kitT tab t (.b n)).map fun b => (.c (.bl b), cs) else none
    | none => none := rfl
@[simp] theorem cIsi_cls {own : Nat → Bool} {tab : TN → TN → Option Bool} {x : Lv} {n : Nat} {cs : Cs} : cIsi own tab [x, .c (.cls n)] cs = match tyL cs x with
    | some t => if okT own t = true then (kitT tab t (.o n)).map fun b => (.c (.bl b), cs) else none
    | none => none := rfl
@[simp] theorem cIsi_lt {own : Nat → Bool} {tab : TN → TN → Option Bool} {x : Lv} {cs : Cs} : cIsi own tab [x, .c (.tup [.ty "list", .ty "tuple"])] cs = match tyL cs x with
    | some t => if okT own t = true then (kitTs tab t [.b "list", .b "tuple"]).map fun b => (.c (.bl b), cs) else none
    | none => none := by
  show (match tyL cs x, some [TN.b "list", TN.b "tuple"] with
    | some t, some us => if okT own t = true then (kitTs tab t us).map fun b => (Lv.c (.bl b), cs) else none
    | _, _ => none) = _
  cases tyL cs x <;> rfl
@[simp] theorem kitTs_cons {tab : TN → TN → Option Bool} {t u : TN} {us : List TN} : kitTs tab t (u :: us) = match kitT tab t u with
    | some true => some true
    | some false => kitTs tab t us
    | none => none := rfl
@[simp] theorem kitTs_nil {tab : TN → TN → Option Bool} {t : TN} : kitTs tab t [] = some false := rfl
@[simp] theorem kitT_same {tab : TN → TN → Option Bool} {t : TN} : kitT tab t t = some true := by unfold kitT; simp
/-! ### == of plain data -/
def pln : Nat → Dt → Bool
  | _, .non => true
  | _, .int _ => true
  | _, .str x => PyData.strOk x
  | n + 1, .tup xs => xs.all (pln n)
  | n + 1, .lst xs => xs.all (pln n)
  | _, _ => false
theorem pys_can {n : Nat} : ∀ {xs : List Dt}, (∀ d ∈ xs, (py d).canLay0 = true ∧ (py d).depth ≤ n) → PyData.canLayAll0 (pys xs) = true ∧ PyData.depthAll (pys xs) ≤ n
  | [], _ => by simp [pys, PyData.canLayAll0, PyData.depthAll]
  | d :: ds, h => by
    have h1 := h d (by simp)
    have h2 := pys_can (xs := ds) fun e he => h e (by simp [he])
    simp [pys, PyData.canLayAll0, PyData.depthAll, h1, h2]
    omega
theorem pln_can : ∀ (n : Nat) (d : Dt), pln n d = true → (py d).canLay0 = true ∧ (py d).depth ≤ n
  | n, .non, _ => by simp [py, PyData.canLay0, PyData.depth]
  | n, .int _, _ => by simp [py, PyData.canLay0, PyData.depth]
  | n, .str x, h => by
    have h' : PyData.strOk x = true := by cases n <;> exact h
    simp [py, PyData.canLay0, PyData.depth, h']
  | n + 1, .tup xs, h => by
    have h' : xs.all (pln n) = true := h
    obtain ⟨a, b⟩ := pys_can (n := n) fun d hd => pln_can n d (List.all_eq_true.mp h' d hd)
    simp [py, PyData.canLay0, PyData.depth, a]; omega
  | n + 1, .lst xs, h => by
    have h' : xs.all (pln n) = true := h
    obtain ⟨a, b⟩ := pys_can (n := n) fun d hd => pln_can n d (List.all_eq_true.mp h' d hd)
    simp [py, PyData.canLay0, PyData.depth, a]; omega
  | 0, .tup _, h => by cases h
  | 0, .lst _, h => by cases h
  | 0, .bl _, h => by cases h
  | 0, .ty _, h => by cases h
  | 0, .cls _, h => by cases h
  | 0, .scr _, h => by cases h
  | 0, .dic _ _, h => by cases h
  | 0, .dct _ _, h => by cases h
  | 0, .obj _ _ _, h => by cases h
  | 0, .exn _ _ _ _ _, h => by cases h
  | _ + 1, .exn _ _ _ _ _, h => by cases h
  | _ + 1, .bl _, h => by cases h
  | _ + 1, .ty _, h => by cases h
  | _ + 1, .cls _, h => by cases h
  | _ + 1, .scr _, h => by cases h
  | _ + 1, .dic _ _, h => by cases h
  | _ + 1, .dct _ _, h => by cases h
  | _ + 1, .obj _ _ _, h => by cases h
theorem pys_eq : ∀ {xs ys : List Dt}, (∀ d ∈ xs, ∀ e ∈ ys, (PyData.eqv (py d) (py e) = true ↔ d = e)) → (PyData.eqvAll (pys xs) (pys ys) = true ↔ xs = ys)
  | [], [], _ => by simp [pys, PyData.eqvAll]
  | [], _ :: _, _ => by simp [pys, PyData.eqvAll]
  | _ :: _, [], _ => by simp [pys, PyData.eqvAll]
  | d :: ds, e :: es, h => by
    have h1 := h d (by simp) e (by simp)
    have h2 := pys_eq (xs := ds) (ys := es) fun a ha b hb => h a (by simp [ha]) b (by simp [hb])
    simp [pys, PyData.eqvAll, h1, h2]
theorem pln_eq : ∀ (n : Nat) (d e : Dt) (m : Nat), pln n d = true → pln m e = true → (PyData.eqv (py d) (py e) = true ↔ d = e) := by
  intro n
  induction n with
  | zero =>
    intro d e m hd he
    cases d <;> simp [pln] at hd <;> cases m <;> cases e <;> simp [pln] at he <;> simp [py, PyData.eqv]
  | succ n ih =>
    intro d e m hd he
    cases d with
    | tup xs =>
      cases m with
      | zero => cases e <;> simp [pln] at he <;> simp [py, PyData.eqv]
      | succ m =>
        cases e <;> simp [pln] at he <;> simp [py, PyData.eqv]
        exact pys_eq fun a ha b hb => ih a b m (by simp [pln] at hd; exact hd a ha) (he b hb)
    | lst xs =>
      cases m with
      | zero => cases e <;> simp [pln] at he <;> simp [py, PyData.eqv]
      | succ m =>
        cases e <;> simp [pln] at he <;> simp [py, PyData.eqv]
        exact pys_eq fun a ha b hb => ih a b m (by simp [pln] at hd; exact hd a ha) (he b hb)
    | _ => simp [pln] at hd <;> cases m <;> cases e <;> simp [pln] at he <;> simp [py, PyData.eqv]
open Classical in
theorem opEq_pln {neg : Bool} {d e : Dt} {cs : Cs} (hd : pln 60 d = true) (he : pln 60 e = true) : opEq neg (.c d) (.c e) cs = some (.c (.bl (if neg = true then !decide (d = e) else decide (d = e))), cs) := by
  have sh : ∀ x, pln 60 x = true → SeqAt.shaped (py x) = true := fun x hx => by
    obtain ⟨a, b⟩ := pln_can 60 x hx
    unfold SeqAt.shaped
    simp [a]; omega
  have e1 : PyData.eqv (py d) (py e) = decide (d = e) := by
    rw [Bool.eq_iff_iff, pln_eq 60 d e 60 hd he]
    simp
  unfold opEq peek
  simp only [Option.bind_some, sh d hd, sh e he, and_self, if_true, e1]
@[simp] theorem opEq_int {neg : Bool} {i j : Int} {cs : Cs} : opEq neg (.c (.int i)) (.c (.int j)) cs = some (.c (.bl (if neg = true then !decide (i = j) else decide (i = j))), cs) := by
  rw [opEq_pln rfl rfl]
  simp
end Mi

set_option Elab.async false
set_option linter.all false
set_option maxRecDepth 100000
set_option maxHeartbeats 4000000
namespace Mi
open PySem L2
/-! ### loops by invariants -/
theorem wp_forGo {s : Src} {g : MG} {body : MS} {P : Fl → Cs → Prop} {xs : List Lv} {I : Nat → Sl → Cs → Prop} (ha : ∀ i sl cs, I i sl cs → i ≤ xs.length → s.at cs i = some xs[i]?)
    (hs : ∀ i (hi : i < xs.length) sl cs, I i sl cs → ∃ sl1 cs1, g xs[i] sl cs = some (sl1, cs1) ∧ Wp (body sl1 cs1) fun fl cs2 => match fl with
      | .nx sl2 => I (i + 1) sl2 cs2
      | .ct sl2 => I (i + 1) sl2 cs2
      | .bk sl2 => P (.nx sl2) cs2
      | .rt v => P (.rt v) cs2)
    (he : ∀ sl cs, I xs.length sl cs → P (.nx sl) cs) : ∀ (n i : Nat) (sl : Sl) (cs : Cs), I i sl cs → i ≤ xs.length → xs.length < n + i → Wp (forGo s g body n i sl cs) P
  | 0, i, sl, cs, h, hi, hn => by omega
  | n + 1, i, sl, cs, h, hi, hn => by
    unfold forGo
    rw [ha i sl cs h hi]
    by_cases hl : i < xs.length
    · rw [List.getElem?_eq_getElem hl]
      obtain ⟨sl1, cs1, e, w⟩ := hs i hl sl cs h
      simp only [e]
      obtain ⟨fl, cs2, e2, q⟩ := w.get
      rw [e2]
      cases fl with
      | nx sl2 => exact wp_forGo ha hs he n (i + 1) sl2 cs2 q hl (by omega)
      | ct sl2 => exact wp_forGo ha hs he n (i + 1) sl2 cs2 q hl (by omega)
      | bk sl2 => exact .mk q
      | rt v => exact .mk q
    · have : i = xs.length := by omega
      subst this
      rw [List.getElem?_eq_none (Nat.le_refl _)]
      exact .mk (he sl cs h)
theorem wp_for {extra : Nat} {mi : MI} {g : MG} {body : MS} {sl : Sl} {cs cs1 : Cs} {P : Fl → Cs → Prop} (s : Src) (xs : List Lv) (I : Nat → Sl → Cs → Prop) (h : mi sl cs = .ok s cs1) (hl : s.len cs1 = xs.length) (ha : ∀ i sl cs, I i sl cs → i ≤ xs.length → s.at cs i = some xs[i]?) (h0 : I 0 sl cs1)
    (hs : ∀ i (hi : i < xs.length) sl cs, I i sl cs → ∃ sl1 cs1, g xs[i] sl cs = some (sl1, cs1) ∧ Wp (body sl1 cs1) fun fl cs2 => match fl with
      | .nx sl2 => I (i + 1) sl2 cs2
      | .ct sl2 => I (i + 1) sl2 cs2
      | .bk sl2 => P (.nx sl2) cs2
      | .rt v => P (.rt v) cs2)
    (he : ∀ sl cs, I xs.length sl cs → P (.nx sl) cs) : Wp (mFor extra mi g body sl cs) P := by
  unfold mFor
  rw [h]
  show Wp (forGo s g body (s.len cs1 + 1 + extra) 0 sl cs1) P
  exact wp_forGo ha hs he _ 0 sl cs1 h0 (Nat.zero_le _) (by omega)
/-- a source that hangs on no cell -/
def Src.itms : Src → Option (List Lv)
  | .seq (.c (.lst ds)) => some (ds.map .c)
  | .seq (.c (.tup ds)) => some (ds.map .c)
  | .seq (.c (.scr ns)) => some (ns.map fun n => .c (.int n))
  | .rng lo n => some ((List.range n).map fun i : Nat => .c (.int (lo + i)))
  | .rngc lo c n => some ((List.range n).map fun i : Nat => .c (.int (lo + i * c)))
  | .enum (.c (.lst ds)) => some (ds.mapIdx fun i d => .c (.tup [.int i, d]))
  | .enum (.c (.tup ds)) => some (ds.mapIdx fun i d => .c (.tup [.int i, d]))
  | .str x => some (x.cps.toList.map fun c => .c (.str ⟨#[c]⟩))
  | _ => none
theorem itms_ok : ∀ {s : Src} {xs : List Lv}, s.itms = some xs → ∀ cs : Cs, s.len cs = xs.length ∧ ∀ i, s.at cs i = some xs[i]?
  | .seq (.c (.lst ds)), _, h, cs => by cases h; exact ⟨by simp [Src.len, view], fun i => by simp [Src.at, view]⟩
  | .seq (.c (.tup ds)), _, h, cs => by cases h; exact ⟨by simp [Src.len, view], fun i => by simp [Src.at, view]⟩
  | .seq (.c (.scr ds)), _, h, cs => by cases h; exact ⟨by simp [Src.len, view], fun i => by simp [Src.at, view]⟩
  | .rng lo n, _, h, cs => by
    cases h
    refine ⟨by simp [Src.len], fun i => ?_⟩
    simp only [Src.at, List.getElem?_map]
    by_cases hi : i < n <;> simp [hi]
  | .rngc lo c n, _, h, cs => by
    cases h
    refine ⟨by simp [Src.len], fun i => ?_⟩
    simp only [Src.at, List.getElem?_map]
    by_cases hi : i < n <;> simp [hi]
  | .enum (.c (.lst ds)), _, h, cs => by
    cases h
    refine ⟨by simp [Src.len, view], fun i => ?_⟩
    simp only [Src.at, view, Option.bind_some, List.getElem?_map, List.getElem?_mapIdx]
    cases ds[i]? <;> rfl
  | .enum (.c (.tup ds)), _, h, cs => by
    cases h
    refine ⟨by simp [Src.len, view], fun i => ?_⟩
    simp only [Src.at, view, Option.bind_some, List.getElem?_map, List.getElem?_mapIdx]
    cases ds[i]? <;> rfl
  | .str x, _, h, cs => by cases h; exact ⟨by simp [Src.len], fun i => by simp [Src.at]⟩
theorem wp_forC {extra : Nat} {mi : MI} {g : MG} {body : MS} {sl : Sl} {cs cs1 : Cs} {P : Fl → Cs → Prop} {s : Src} (xs : List Lv) (I : Nat → Sl → Cs → Prop) (h : mi sl cs = .ok s cs1) (hx : s.itms = some xs) (h0 : I 0 sl cs1)
    (hs : ∀ i (hi : i < xs.length) sl cs, I i sl cs → ∃ sl1 cs1, g xs[i] sl cs = some (sl1, cs1) ∧ Wp (body sl1 cs1) fun fl cs2 => match fl with
      | .nx sl2 => I (i + 1) sl2 cs2
      | .ct sl2 => I (i + 1) sl2 cs2
      | .bk sl2 => P (.nx sl2) cs2
      | .rt v => P (.rt v) cs2)
    (he : ∀ sl cs, I xs.length sl cs → P (.nx sl) cs) : Wp (mFor extra mi g body sl cs) P :=
  wp_for s xs I h (itms_ok hx cs1).1 (fun i sl cs _ _ => (itms_ok hx cs).2 i) h0 hs he
theorem smallI_of {i : Int} (h1 : -16777216 ≤ i) (h2 : i ≤ 16777216) : smallI i = true := smallI_le (by omega)
theorem rng1_of {i : Int} (h : smallI i = true) : rng1 [.c (.int i)] = some (.rng 0 i.toNat) := by
  have e : rng1 [.c (.int i)] = if smallI i = true then some (.rng 0 i.toNat) else none := rfl
  rw [e, if_pos h]
theorem rng2_of {i j : Int} (h : smallI i = true) (h2 : smallI j = true) : rng2 [.c (.int i), .c (.int j)] = some (.rng i (j - i).toNat) := by
  have e : rng2 [.c (.int i), .c (.int j)] = if smallI i = true ∧ smallI j = true then some (.rng i (j - i).toNat) else none := rfl
  rw [e, if_pos ⟨h, h2⟩]
theorem mRng_of {f : List Lv → Option Src} {ma : MA} {sl : Sl} {cs cs1 : Cs} {ls : List Lv} {s : Src} (h : ma sl cs = .ok ls cs1) (hf : f ls = some s) : mRng f ma sl cs = .ok s cs1 := by
  unfold mRng
  rw [h]
  simp only [Res.bind_ok, hf]
theorem rng1_nat {ma : MA} {sl : Sl} {cs cs1 : Cs} {n : Nat} (h : ma sl cs = .ok [.c (.int n)] cs1) (hn : n ≤ 16777216) : mRng rng1 ma sl cs = .ok (.rng 0 n) cs1 := by
  have h2 : ∀ i : Int, i = n → rng1 [.c (.int i)] = some (.rng 0 i.toNat) := fun i e => rng1_of (smallI_of (by omega) (by omega))
  have h3 := h2 n rfl
  exact mRng_of h (h3.trans (by rw [Int.toNat_natCast]))
/-- for i in range(n) -/
theorem wp_forR {extra : Nat} {ma : MA} {k : Nat} {body : MS} {sl : Sl} {cs cs1 : Cs} {P : Fl → Cs → Prop} (n : Nat) (I : Nat → Sl → Cs → Prop) (h : ma sl cs = .ok [.c (.int n)] cs1) (hn : n ≤ 16777216) (h0 : I 0 sl cs1)
    (hs : ∀ i, i < n → ∀ sl cs, I i sl cs → Wp (body (sl.set k (some (.c (.int (i : Int))))) cs) fun fl cs2 => match fl with
      | .nx sl2 => I (i + 1) sl2 cs2
      | .ct sl2 => I (i + 1) sl2 cs2
      | .bk sl2 => P (.nx sl2) cs2
      | .rt v => P (.rt v) cs2)
    (he : ∀ sl cs, I n sl cs → P (.nx sl) cs) : Wp (mFor extra (mRng rng1 ma) (gN k) body sl cs) P := by
  have hr : mRng rng1 ma sl cs = .ok (.rng 0 n) cs1 := rng1_nat h hn
  have hx : (Src.rng 0 n).itms = some ((List.range n).map fun i : Nat => Lv.c (.int i)) := by simp [Src.itms]
  refine wp_forC (s := .rng 0 n) _ I hr hx h0 (fun i hi sl cs hI => ⟨_, _, rfl, ?_⟩) (fun sl cs q => he sl cs (by simpa using q))
  have hi' : i < n := by simpa using hi
  simpa using hs i hi' sl cs hI
theorem wp_forR2 {extra : Nat} {ma : MA} {k : Nat} {body : MS} {sl : Sl} {cs cs1 : Cs} {P : Fl → Cs → Prop} (lo : Int) (n : Nat) (I : Nat → Sl → Cs → Prop) {hi' : Int} (h : ma sl cs = .ok [.c (.int lo), .c (.int hi')] cs1) (hlo : -16777216 ≤ lo) (hlo2 : lo ≤ 16777216) (hh : -16777216 ≤ hi') (hh2 : hi' ≤ 16777216) (hn : n = (hi' - lo).toNat) (h0 : I 0 sl cs1)
    (hs : ∀ i : Nat, i < n → ∀ sl cs, I i sl cs → Wp (body (sl.set k (some (.c (.int (lo + i))))) cs) fun fl cs2 => match fl with
      | .nx sl2 => I (i + 1) sl2 cs2
      | .ct sl2 => I (i + 1) sl2 cs2
      | .bk sl2 => P (.nx sl2) cs2
      | .rt v => P (.rt v) cs2)
    (he : ∀ sl cs, I n sl cs → P (.nx sl) cs) : Wp (mFor extra (mRng rng2 ma) (gN k) body sl cs) P := by
  have hr : mRng rng2 ma sl cs = .ok (.rng lo n) cs1 := mRng_of h ((rng2_of (smallI_of hlo hlo2) (smallI_of hh hh2)).trans (by rw [hn]))
  have hx : (Src.rng lo n).itms = some ((List.range n).map fun i : Nat => Lv.c (.int (lo + i))) := by simp [Src.itms]
  refine wp_forC (s := .rng lo n) _ I hr hx h0 (fun i hi sl cs hI => ⟨_, _, rfl, ?_⟩) (fun sl cs q => he sl cs (by simpa using q))
  have hi' : i < n := by simpa using hi
  simpa using hs i hi' sl cs hI
/-- for x in a closed list of coded things -/
theorem wp_forL {α : Type} {extra : Nat} {ma : ME} {k : Nat} {body : MS} {sl : Sl} {cs cs1 : Cs} {P : Fl → Cs → Prop} {f : α → Dt} (as : List α) (I : Nat → Sl → Cs → Prop) (h : ma sl cs = .ok (.c (.lst (as.map f))) cs1 ∨ ma sl cs = .ok (.c (.tup (as.map f))) cs1) (h0 : I 0 sl cs1)
    (hs : ∀ i (hi : i < as.length) sl cs, I i sl cs → Wp (body (sl.set k (some (.c (f as[i])))) cs) fun fl cs2 => match fl with
      | .nx sl2 => I (i + 1) sl2 cs2
      | .ct sl2 => I (i + 1) sl2 cs2
      | .bk sl2 => P (.nx sl2) cs2
      | .rt v => P (.rt v) cs2)
    (he : ∀ sl cs, I as.length sl cs → P (.nx sl) cs) : Wp (mFor extra (mSeqI ma) (gN k) body sl cs) P := by
  rcases h with h | h
  · have hr : mSeqI ma sl cs = .ok (.seq (.c (.lst (as.map f)))) cs1 := by
      unfold mSeqI
      rw [h]
      rfl
    refine wp_forC (s := .seq (.c (.lst (as.map f)))) _ I hr rfl h0 (fun i hi sl cs hI => ⟨_, _, rfl, ?_⟩) (fun sl cs q => he sl cs (by simpa using q))
    have hi' : i < as.length := by simpa using hi
    simpa using hs i hi' sl cs hI
  · have hr : mSeqI ma sl cs = .ok (.seq (.c (.tup (as.map f)))) cs1 := by
      unfold mSeqI
      rw [h]
      rfl
    refine wp_forC (s := .seq (.c (.tup (as.map f)))) _ I hr rfl h0 (fun i hi sl cs hI => ⟨_, _, rfl, ?_⟩) (fun sl cs q => he sl cs (by simpa using q))
    have hi' : i < as.length := by simpa using hi
    simpa using hs i hi' sl cs hI
/-- while, by a bound that goes down -/
theorem wp_whGo {t : MT} {body : MS} {P : Fl → Cs → Prop} {I : Nat → Sl → Cs → Prop}
    (hs : ∀ k sl cs, I k sl cs → Wp (t sl cs) fun b cs1 => if b = true then Wp (body sl cs1) fun fl cs2 => match fl with
      | .nx sl2 => ∃ k', k' < k ∧ I k' sl2 cs2
      | .ct sl2 => ∃ k', k' < k ∧ I k' sl2 cs2
      | .bk sl2 => P (.nx sl2) cs2
      | .rt v => P (.rt v) cs2
      else P (.nx sl) cs1) : ∀ (n k : Nat) (sl : Sl) (cs : Cs), I k sl cs → k < n → Wp (whGo t body n sl cs) P
  | 0, k, sl, cs, h, hn => by omega
  | n + 1, k, sl, cs, h, hn => by
    unfold whGo
    obtain ⟨b, cs1, e, w⟩ := (hs k sl cs h).get
    rw [e]
    cases b with
    | false => exact .mk w
    | true =>
      simp only [if_true] at w
      obtain ⟨fl, cs2, e2, q⟩ := w.get
      simp only [Res.bind_ok, if_true]
      rw [e2]
      cases fl with
      | nx sl2 =>
        obtain ⟨k', hk, hI⟩ := q
        exact wp_whGo hs n k' sl2 cs2 hI (by omega)
      | ct sl2 =>
        obtain ⟨k', hk, hI⟩ := q
        exact wp_whGo hs n k' sl2 cs2 hI (by omega)
      | bk sl2 => exact .mk q
      | rt v => exact .mk q
theorem wp_while {n : Nat} {t : MT} {body : MS} {sl : Sl} {cs : Cs} {P : Fl → Cs → Prop} (I : Nat → Sl → Cs → Prop) (k : Nat) (h0 : I k sl cs) (hk : k < n)
    (hs : ∀ k sl cs, I k sl cs → Wp (t sl cs) fun b cs1 => if b = true then Wp (body sl cs1) fun fl cs2 => match fl with
      | .nx sl2 => ∃ k', k' < k ∧ I k' sl2 cs2
      | .ct sl2 => ∃ k', k' < k ∧ I k' sl2 cs2
      | .bk sl2 => P (.nx sl2) cs2
      | .rt v => P (.rt v) cs2
      else P (.nx sl) cs1) : Wp (mWhile n t body sl cs) P := wp_whGo hs n k sl cs h0 hk
/-! ### comprehensions -/
theorem lcGo_okG {α : Type} {s : Src} {g : MG} {tt : MT} {te : ME} {slw : Sl} {cs : Cs} {as : List α} {enc : α → Lv} {p : α → Bool} {f : α → Dt} (hx : ∀ acc i, s.at (cs ++ [.lst acc]) i = some ((as.map enc)[i]?)) (hl : as.length ≤ 16777216)
    (hg : ∀ a ∈ as, ∀ acc, ∃ sl1, g (enc a) slw (cs ++ [.lst acc]) = some (sl1, cs ++ [.lst acc]) ∧ tt sl1 (cs ++ [.lst acc]) = .ok (p a) (cs ++ [.lst acc]) ∧ (p a = true → te sl1 (cs ++ [.lst acc]) = .ok (.c (f a)) (cs ++ [.lst acc]))) :
    ∀ (n i : Nat) (acc : List Dt), i ≤ as.length → as.length < n + i → acc.length ≤ i → lcGo false s g tt te cs.length slw n i (cs ++ [.lst acc]) = some (cs ++ [.lst (acc ++ ((as.drop i).filter p).map f)])
  | 0, i, acc, hi, hn', _ => by omega
  | n + 1, i, acc, hi, hn', ha => by
    unfold lcGo
    rw [hx]
    by_cases hlt : i < as.length
    · have ed : as.drop i = as[i] :: as.drop (i + 1) := List.drop_eq_getElem_cons hlt
      have e1 : (as.map enc)[i]? = some (enc as[i]) := by simp [hlt]
      rw [e1]
      obtain ⟨sl1, q1, q2, q3⟩ := hg as[i] (List.getElem_mem hlt) acc
      simp only [q1, q2]
      cases hp : p as[i] with
      | true =>
        simp only [q3 hp]
        have hpush : push false cs.length (.c (f as[i])) (cs ++ [.lst acc]) = some (cs ++ [.lst (acc ++ [f as[i]])]) := by
          have : acc.length < 16777216 := by omega
          simp [push, this]
        simp only [hpush]
        rw [lcGo_okG hx hl hg n (i + 1) (acc ++ [f as[i]]) hlt (by omega) (by simp; omega), ed]
        simp only [List.filter_cons, hp, if_true, List.map_cons, List.append_assoc, List.cons_append, List.nil_append]
      | false =>
        simp only []
        rw [lcGo_okG hx hl hg n (i + 1) acc hlt (by omega) (by omega), ed]
        simp only [List.filter_cons, hp, Bool.false_eq_true, if_false]
    · have : i = as.length := by omega
      subst this
      simp
theorem lc_okG {α : Type} {mi : MI} {s : Src} {g : MG} {tt : MT} {te : ME} {vs : List Nat} {sl : Sl} {cs : Cs} (as : List α) (enc : α → Lv) (p : α → Bool) (f : α → Dt) (h : mi sl cs = .ok s cs) (hx : ∀ acc i, s.at (cs ++ [.lst acc]) i = some ((as.map enc)[i]?)) (hlen : s.len cs = as.length) (hl : as.length ≤ 16777216)
    (hg : ∀ a ∈ as, ∀ acc, ∃ sl1, g (enc a) (wipeS sl vs) (cs ++ [.lst acc]) = some (sl1, cs ++ [.lst acc]) ∧ tt sl1 (cs ++ [.lst acc]) = .ok (p a) (cs ++ [.lst acc]) ∧ (p a = true → te sl1 (cs ++ [.lst acc]) = .ok (.c (f a)) (cs ++ [.lst acc]))) :
    mLc false mi g tt te vs sl cs = .ok (.p cs.length) (cs ++ [.lst ((as.filter p).map f)]) := by
  unfold mLc
  rw [h]
  have := lcGo_okG hx hl hg (s.len cs + 1) 0 [] (Nat.zero_le _) (by omega) (Nat.le_refl _)
  simp only [Res.bind_ok, this]
  simp
/-- [f(x) for x in .. if p(x)], made without a change of the cells: its list -/
theorem lc_ok {α : Type} {mi : MI} {s : Src} {g : MG} {tt : MT} {te : ME} {vs : List Nat} {sl : Sl} {cs : Cs} (as : List α) (enc : α → Lv) (p : α → Bool) (f : α → Dt) (h : mi sl cs = .ok s cs) (hx : s.itms = some (as.map enc)) (hn : noPl cs = true) (hl : as.length ≤ 16777216)
    (hg : ∀ a ∈ as, ∀ cs', noPl cs' = true → ∃ sl1, g (enc a) (wipeS sl vs) cs' = some (sl1, cs') ∧ tt sl1 cs' = .ok (p a) cs' ∧ (p a = true → te sl1 cs' = .ok (.c (f a)) cs')) :
    mLc false mi g tt te vs sl cs = .ok (.p cs.length) (cs ++ [.lst ((as.filter p).map f)]) :=
  lc_okG as enc p f h (fun acc i => (itms_ok hx _).2 i) (by simpa using (itms_ok hx cs).1) hl fun a ha acc => hg a ha _ (by simp [hn])
theorem vlc_ok {α : Type} {mi : MI} {s : Src} {g : MG} {tt : MT} {te : ME} {vs : List Nat} {sl : Sl} {cs : Cs} (as : List α) (enc : α → Lv) (p : α → Bool) (f : α → Dt) (h : mi sl cs = .ok s cs) (hx : s.itms = some (as.map enc)) (hn : noPl cs = true) (hl : as.length ≤ 16777216)
    (hg : ∀ a ∈ as, ∀ cs', noPl cs' = true → ∃ sl1, g (enc a) (wipeS sl vs) cs' = some (sl1, cs') ∧ tt sl1 cs' = .ok (p a) cs' ∧ (p a = true → te sl1 cs' = .ok (.c (f a)) cs')) :
    mV (mLc false mi g tt te vs) sl cs = .ok (.c (.lst ((as.filter p).map f))) cs := mV_new (lc_ok as enc p f h hx hn hl hg) (okCs_of hn)
/-! ### calls -/
/-- a result as a value -/
def Out.val : Out → Option Dt
  | .ret (.c d) => some d
  | .ret (.l xs) => some (.lst xs)
  | .ret (.d ks xs) => some (.dic ks xs)
  | .ret (.t ks xs) => some (.dct ks xs)
  | _ => none
theorem call_c {f : List Dt → Out} {ma : MA} {sl : Sl} {cs : Cs} {ds : List Dt} {d : Dt} (ha : ma sl cs = .ok (ds.map .c) cs) (hf : f ds = .ret (.c d)) : mCall f ma sl cs = .ok (.c d) cs := by
  unfold mCall
  rw [ha]
  simp [hf, outR]
theorem call_l {f : List Dt → Out} {ma : MA} {sl : Sl} {cs : Cs} {ds xs : List Dt} (ha : ma sl cs = .ok (ds.map .c) cs) (hf : f ds = .ret (.l xs)) : mCall f ma sl cs = .ok (.p cs.length) (cs ++ [.lst xs]) := by
  unfold mCall
  rw [ha]
  simp [hf, outR]
theorem vcall {f : List Dt → Out} {ma : MA} {sl : Sl} {cs : Cs} {ds : List Dt} {d : Dt} (ha : ma sl cs = .ok (ds.map .c) cs) (hf : (f ds).val = some d) (hn : noPl cs = true) : mV (mCall f ma) sl cs = .ok (.c d) cs := by
  unfold mV mCall
  rw [ha]
  simp only [Res.bind_ok, fzA_c]
  cases e : f ds with
  | bad => rw [e] at hf; cases hf
  | exc _ => rw [e] at hf; cases hf
  | ret r => cases r <;> rw [e] at hf <;> cases hf <;> simp [outR, okCs_of hn]
theorem wp_vcall {f : List Dt → Out} {ma : MA} {sl : Sl} {cs : Cs} {Q : Lv → Cs → Prop} (ds : List Dt) (d : Dt) (ha : ma sl cs = .ok (ds.map .c) cs) (hf : (f ds).val = some d) (hn : noPl cs = true) (h : Q (.c d) cs) : Wp (mV (mCall f ma) sl cs) Q := wp_of (vcall ha hf hn) h
theorem wp_new {me : ME} {sl : Sl} {cs : Cs} {Q : Lv → Cs → Prop} (ds : List Dt) (h : me sl cs = .ok (.p cs.length) (cs ++ [.lst ds])) (hn : okCs cs.length cs = true) (q : Q (.c (.lst ds)) cs) : Wp (mV me sl cs) Q := wp_of (mV_new h hn) q
theorem wp_vlc {α : Type} {mi : MI} {s : Src} {g : MG} {tt : MT} {te : ME} {vs : List Nat} {sl : Sl} {cs : Cs} {Q : Lv → Cs → Prop} (as : List α) (enc : α → Lv) (p : α → Bool) (f : α → Dt) (h : mi sl cs = .ok s cs) (hx : s.itms = some (as.map enc)) (hn : noPl cs = true) (hl : as.length ≤ 16777216)
    (hg : ∀ a ∈ as, ∀ cs', noPl cs' = true → ∃ sl1, g (enc a) (wipeS sl vs) cs' = some (sl1, cs') ∧ tt sl1 cs' = .ok (p a) cs' ∧ (p a = true → te sl1 cs' = .ok (.c (f a)) cs')) (q : Q (.c (.lst ((as.filter p).map f))) cs) :
    Wp (mV (mLc false mi g tt te vs) sl cs) Q := wp_of (vlc_ok as enc p f h hx hn hl hg) q
@[simp] theorem mCall_ap {f : List Dt → Out} {ma : MA} {sl : Sl} {cs : Cs} : mCall f ma sl cs = (ma sl cs).bind fun ls cs1 => match fzA cs1 ls with
  | some (ds, cs2) => outR (f ds) sl cs2
  | none => .bad := rfl
@[simp] theorem outR_c {d : Dt} {sl : Sl} {cs : Cs} : outR (.ret (.c d)) sl cs = .ok (.c d) cs := rfl
@[simp] theorem outR_l {d : List Dt} {sl : Sl} {cs : Cs} : outR (.ret (.l d)) sl cs = .ok (.p cs.length) (cs ++ [.lst d]) := rfl
/-- a def's run -/
theorem runF_of {n k : Nat} {body : MS} {ds : List Dt} {o : Out} (hl : ds.length = n) (h : Wp (body (ds.map (fun d => some (.c d)) ++ List.replicate k none) []) fun fl cs => match fl with
    | .rt l => outL cs l = o
    | .nx _ => o = .ret (.c .non)
    | _ => False) : runF n k body ds = o := by
  obtain ⟨fl, cs, e, q⟩ := h.get
  unfold runF
  rw [if_pos hl, e]
  cases fl with
  | rt l => exact q
  | nx sl => exact q.symm
  | bk sl => exact q.elim
  | ct sl => exact q.elim
@[simp] theorem outL_c {d : Dt} {cs : Cs} : outL cs (.c d) = .ret (.c d) := rfl
theorem outL_p {n : Nat} {cs : Cs} {ds : List Dt} (h : cs[n]? = some (.lst ds)) : outL cs (.p n) = .ret (.l ds) := by
  unfold outL
  simp [h]
end Mi

set_option Elab.async false
set_option linter.all false
set_option maxRecDepth 100000
set_option maxHeartbeats 4000000
namespace Mi
open PySem L2
/-! ### isinstance: no own class; the class 0 alone -/
def own0 (_ : Nat) : Bool := false
def tab0 (_ _ : TN) : Option Bool := none
theorem isf0 {C : Cn} : IsF C own0 tab0 := ⟨fun c h => (by cases h), fun _ _ _ h => (by cases h)⟩
def ownB (c : Nat) : Bool := c == 0
def tabB (_ _ : TN) : Option Bool := none
theorem isfB {C : Cn} (I : InsF C.K (C.cl 0)) : IsF C ownB tabB := ⟨fun c hc => by
    have : c = 0 := beq_iff_eq.mp hc
    subst this
    exact I, fun _ _ _ h => (by cases h)⟩
@[simp] theorem kitT_oo {tab : TN → TN → Option Bool} {c : Nat} : kitT tab (.o c) (.o c) = some true := kitT_same
@[simp] theorem ownB_0 : okT ownB (.o 0) = true := rfl
end Mi

set_option Elab.async false
set_option linter.all false
set_option maxRecDepth 100000
set_option maxHeartbeats 4000000
namespace Mi
open PySem L2
section
variable {C : Cn} {W : WX}
/-! ### the signs of a text, walked -/
def mStrI (ma : ME) : MI := fun sl cs => (ma sl cs).bind fun l cs1 => match l with
  | .c (.str x) => .ok (.str x) cs1
  | _ => .bad
theorem str_src {B : Bs} {ι : List Addr} {G : Hp} {x : Str} : SrcOk C B ι G (.str x) (Its x) := fun ι' G' H σ sl cs i R e => by
  show SrcAt C B ι' G' H σ sl cs (Its x) i (some ((x.cps[i]?).map fun c => .c (.str ⟨#[c]⟩)))
  cases ex : x.cps[i]? with
  | none =>
    show x.cps.size ≤ i
    simpa using ex
  | some c =>
    refine ⟨?_, fun v H' h => ?_⟩
    · exact (Array.getElem?_eq_some_iff.mp ex).1
    · obtain ⟨rfl, c', e1, rfl⟩ := h
      rw [ex] at e1
      cases e1
      exact ⟨ι', G', R, .refl, mk_str⟩
theorem wi_str {X : Cx} {tg l : Expr} {ma : ME} (ha : WE C W X l ma) : WI C W X tg l (mStrI ma) := fun hK hT => (pi_str (ha hK hT)).imp fun σ H R h => by
  obtain ⟨B, ι, G, sl, cs, R0, h⟩ := h
  refine ⟨B, ι, G, sl, cs, R0, (Post.bind h).mono fun l cs1 h1 v ι1 G1 H1 R1 e1 r1 => ?_⟩
  split at h1
  · rename_i x
    exact ⟨x, repL_str r1, h1 _ ι1 G1 H1 R1 e1 str_src⟩
  · exact h1.elim
/-! ### is True, is False -/
def opBl (neg : Bool) : Lv → Lv → Cs → Option (Lv × Cs)
  | .c (.bl a), .c (.bl b), cs => some (.c (.bl (if neg = true then !decide (a = b) else decide (a = b))), cs)
  | _, _, _ => none
theorem o2_isB : O2 C (opBl false) (fun x y H Q => ∃ a b, x = .bl a ∧ y = .bl b ∧ Q (.bl (decide (a = b))) H) := by
  intro B ι G H σ sl cs cs' x y lx ly l Q R rx ry e k
  unfold opBl at e
  split at e
  · simp only [Bool.false_eq_true, if_false, Option.some.injEq, Prod.mk.injEq] at e
    obtain ⟨rfl, rfl⟩ := e
    exact ⟨_, _, repL_bl rx, repL_bl ry, k _ _ _ _ R .refl mk_bl⟩
  · cases e
theorem o2_notB : O2 C (opBl true) (fun x y H Q => ∃ a b, x = .bl a ∧ y = .bl b ∧ Q (.bl (!decide (a = b))) H) := by
  intro B ι G H σ sl cs cs' x y lx ly l Q R rx ry e k
  unfold opBl at e
  split at e
  · simp only [if_true, Option.some.injEq, Prod.mk.injEq] at e
    obtain ⟨rfl, rfl⟩ := e
    exact ⟨_, _, repL_bl rx, repL_bl ry, k _ _ _ _ R .refl mk_bl⟩
  · cases e
end
end Mi

set_option Elab.async false
set_option linter.all false
set_option maxRecDepth 100000
set_option maxHeartbeats 4000000
namespace Mi
open PySem L2
section
variable {C : Cn} {W : WX}
/-! ### abs, min, max, reverse -/
def cAbs : List Lv → Cs → Option (Lv × Cs)
  | [.c (.int i)], cs => some (.c (.int (if i < 0 then -i else i)), cs)
  | _, _ => none
theorem on_abs : ON C cAbs (fun xs H Q => ∃ i, xs = [.int i] ∧ Q (.int (if i < 0 then -i else i)) H) := by
  intro B ι G H σ sl cs cs' xs ls l Q R r e k
  unfold cAbs at e
  split at e
  · cases e
    obtain ⟨v, rfl, r1⟩ := one_arg r
    exact ⟨_, by rw [repL_int r1], k _ _ _ _ R .refl mk_int⟩
  · cases e
theorem we_abs {X : Cx} {p pos : Pos} {e : Expr} {ma : MA} (hm : X.mg "abs" = none) (ha : WA C W X [e] ma) (hg : Gl X "abs" := by rfl) (he : starEach (e :: []) X.env = (false, eval e X.env) :: starEach [] X.env := by rfl) (hpl : (backTo pos (starEach [] X.env)).any (·.1) = false := by rfl) : WE C W X (.Call (.Name "abs" p) [e] [] pos) (mOpN cAbs ma) :=
  we_callB (fun _ => call_abs) on_abs hg hm PyProof.Rows.boot_abs ha (he := he) (hpl := hpl)
/-- the least (the greatest) of x and a list -/
def extI (mx : Bool) (x : Int) : List Int → Int
  | [] => x
  | y :: r => extI mx (if (if mx = true then y > x else y < x) then y else x) r
theorem extI_mem (mx : Bool) : ∀ (r : List Int) (x : Int), extI mx x r ∈ x :: r
  | [], x => by simp [extI]
  | y :: r, x => by
    have q := extI_mem mx r (if (if mx = true then y > x else y < x) then y else x)
    unfold extI
    rcases List.mem_cons.mp q with q | q
    · rw [q]
      by_cases h : (if mx = true then y > x else y < x)
      · rw [if_pos h]; simp
      · rw [if_neg h]; simp
    · exact List.mem_cons_of_mem _ (List.mem_cons_of_mem _ q)
theorem extI_le : ∀ (r : List Int) (x : Int), extI false x r ≤ x ∧ ∀ y ∈ r, extI false x r ≤ y
  | [], x => by simp [extI]
  | y :: r, x => by
    have q := extI_le r (if (if false = true then y > x else y < x) then y else x)
    unfold extI
    obtain ⟨q1, q2⟩ := q
    simp only [Bool.false_eq_true, if_false] at q1 q2 ⊢
    have : (if y < x then y else x) ≤ x ∧ (if y < x then y else x) ≤ y := by split <;> omega
    refine ⟨by omega, fun z hz => ?_⟩
    rcases List.mem_cons.mp hz with rfl | hz
    · omega
    · exact q2 z hz
theorem extI_ge : ∀ (r : List Int) (x : Int), x ≤ extI true x r ∧ ∀ y ∈ r, y ≤ extI true x r
  | [], x => by simp [extI]
  | y :: r, x => by
    have q := extI_ge r (if (if true = true then y > x else y < x) then y else x)
    unfold extI
    obtain ⟨q1, q2⟩ := q
    simp only [if_true] at q1 q2 ⊢
    have : x ≤ (if y > x then y else x) ∧ y ≤ (if y > x then y else x) := by split <;> omega
    refine ⟨by omega, fun z hz => ?_⟩
    rcases List.mem_cons.mp hz with rfl | hz
    · omega
    · exact q2 z hz
def cExt (mx : Bool) : List Lv → Cs → Option (Lv × Cs)
  | [.c (.int i), .c (.int j)], cs => some (.c (.int (if mx = true then (if j > i then j else i) else (if j < i then j else i))), cs)
  | [.c (.tup _)], _ => none
  | [l], cs => (view cs l).bind fun ls => (intsV ls).bind fun ns => match ns with
    | [] => none
    | x :: r => some (.c (.int (extI mx x r)), cs)
  | _, _ => none
def rExt2 (mx : Bool) : List V → Hp → VK → Prop := fun xs H Q => ∃ i j, xs = [.int i, .int j] ∧ Q (.int (if mx = true then (if j > i then j else i) else (if j < i then j else i))) H
theorem on_ext (mx : Bool) : ON C (cExt mx) (fun xs H Q => rExt2 mx xs H Q ∨ (if mx = true then rMax C.K xs H Q else rMin C.K xs H Q)) := by
  intro B ι G H σ sl cs cs' xs ls l Q R r0 e k
  unfold cExt at e
  split at e
  · cases e
    obtain ⟨v, w, rfl, r1, r2⟩ := two_args r0
    exact .inl ⟨_, _, by rw [repL_int r1, repL_int r2], k _ _ _ _ R .refl mk_int⟩
  · cases e
  · rename_i l0 hne
    obtain ⟨v, rfl, r1⟩ := one_arg r0
    cases ev : view cs l0 with
    | none => rw [ev] at e; simp at e
    | some ls =>
      cases ei : intsV ls with
      | none => rw [ev] at e; simp [ei] at e
      | some ns =>
        rw [ev] at e
        simp only [Option.bind_some, ei] at e
        cases ns with
        | nil => cases e
        | cons x r =>
          simp only [Option.some.injEq, Prod.mk.injEq] at e
          obtain ⟨rfl, rfl⟩ := e
          obtain ⟨a, vs, rfl, hs, hr⟩ := view_ok R r1 ev
          have hs := sqK_L (fun xs z => hne xs (by rw [z])) hs
          have := intsV_ok hr ei
          subst this
          refine .inr ?_
          have hm := extI_mem mx r x
          cases mx with
          | true =>
            simp only [if_true]
            refine ⟨a, x :: r, rfl, hs, by simp, fun m h1 h2 => ?_⟩
            obtain ⟨q1, q2⟩ := extI_ge r x
            have e1 := h2 _ hm
            have e2 : m ≤ extI true x r := by
              rcases List.mem_cons.mp h1 with rfl | h1
              · exact q1
              · exact q2 _ h1
            rw [show m = extI true x r by omega]
            exact k _ _ _ _ R .refl mk_int
          | false =>
            simp only [Bool.false_eq_true, if_false]
            refine ⟨a, x :: r, rfl, hs, by simp, fun m h1 h2 => ?_⟩
            obtain ⟨q1, q2⟩ := extI_le r x
            have e1 := h2 _ hm
            have e2 : extI false x r ≤ m := by
              rcases List.mem_cons.mp h1 with rfl | h1
              · exact q1
              · exact q2 _ h1
            rw [show m = extI false x r by omega]
            exact k _ _ _ _ R .refl mk_int
  · cases e
theorem we_min {X : Cx} {p pos : Pos} {e : Expr} {es : List Expr} {ma : MA} (hm : X.mg "min" = none) (ha : WA C W X (e :: es) ma) (hc : X.calm = true := by rfl) (hg : Gl X "min" := by rfl) (he : starEach (e :: es) X.env = (false, eval e X.env) :: starEach es X.env := by rfl) (hpl : (backTo pos (starEach es X.env)).any (·.1) = false := by rfl) : WE C W X (.Call (.Name "min" p) (e :: es) [] pos) (mOpN (cExt false) ma) :=
  we_callB (fun hK => (call_min2 hc).or (hK ▸ cr_min hc)) (on_ext false) hg hm PyProof.Rows.boot_min ha (he := he) (hpl := hpl)
theorem we_max {X : Cx} {p pos : Pos} {e : Expr} {es : List Expr} {ma : MA} (hm : X.mg "max" = none) (ha : WA C W X (e :: es) ma) (hc : X.calm = true := by rfl) (hg : Gl X "max" := by rfl) (he : starEach (e :: es) X.env = (false, eval e X.env) :: starEach es X.env := by rfl) (hpl : (backTo pos (starEach es X.env)).any (·.1) = false := by rfl) : WE C W X (.Call (.Name "max" p) (e :: es) [] pos) (mOpN (cExt true) ma) :=
  we_callB (fun hK => (call_max2 hc).or (hK ▸ cr_max hc)) (on_ext true) hg hm PyProof.Rows.boot_max ha (he := he) (hpl := hpl)
/-- xs.reverse() -/
def lRev : Nat → List Lv → Cs → Option (Lv × Cs)
  | n, [], cs => match cs[n]? with
    | some (.lst ds) => some (.c .non, cs.set n (.lst ds.reverse))
    | _ => none
  | _, _, _ => none
theorem om_rev : OM C lRev rReverse := by
  intro B ι G H σ sl cs cs' n a xs ls l Q R ha r e k
  match ls, r, e with
  | _ :: _, _, e => cases e
  | [], r, e =>
    unfold lRev at e
    have e0 : xs = [] := r
    subst e0
    simp only at e
    split at e
    · rename_i ds hc
      cases e
      obtain ⟨hg, vs, ho, hr⟩ := R.cr _ a _ ha hc
      exact ⟨a, vs, rfl, rfl, ho, k _ _ _ _ (R.mutP ha hg ⟨hg, _, upd_same, hr.reverse⟩) .refl mk_non⟩
    · cases e
theorem we_reverse {X : Cx} {o : Expr} {apos cpos : Pos} {mo : ME} (ho : WE C W X o mo)
    (h : ∀ {to : TE}, PE X o to → PE X (.Call (.Attribute o "reverse" apos) [] [] cpos) (tBM0 X.K "list" rReverse to) := by
      intro to h1; exact pe_bm0 PySem.F.plainAttrs_list PySem.F.slot_list_reverse PySem.F.type_list_reverse mt_reverse h1) : WE C W X (.Call (.Attribute o "reverse" apos) [] [] cpos) (mLM lRev mo mNil) := fun hK hT => (h (ho hK hT)).imp fun σ H Q h => sim_lm0 om_rev h
end
end Mi

set_option Elab.async false
set_option linter.all false
set_option maxRecDepth 100000
set_option maxHeartbeats 4000000
/-! own exceptions: an __init__ that begins with super().__init__(message) -/
namespace Mi
open PySem PySem.W PySem.Calls PyProof.Rows L2
section
variable {X : Cx} {pins : List (Addr × Obj)} {σ : L2.St} {H : Hp} {s : Shared}
/-- a pin goes -/
theorem inv_unpin {q : Addr × Obj} (I : Inv X (q :: pins) σ H s) : Inv X pins σ H s :=
  ⟨I.ok, I.os, I.bare, I.base, I.loc, I.cell, I.free, I.freeC, fun p hp => I.pin p (by
    rcases List.mem_append.mp hp with m | m
    · exact List.mem_append.mpr (.inl m)
    · exact List.mem_append.mpr (.inr (List.mem_cons_of_mem _ m))), I.hok, I.len⟩
/-- a pin comes -/
theorem inv_pin {q : Addr × Obj} (I : Inv X pins σ H s) (h : s.heap.get? q.1 = some q.2 ∧ H q.1 = none ∧ q.1 ≠ X.env.locals ∧ q.1 ∉ X.fs ∧ ∀ v, q.2.data ≠ .cell v) : Inv X (q :: pins) σ H s :=
  ⟨I.ok, I.os, I.bare, I.base, I.loc, I.cell, I.free, I.freeC, fun p hp => by
    rcases List.mem_append.mp hp with m | m
    · exact I.pin p (List.mem_append.mpr (.inl m))
    · rcases List.mem_cons.mp m with rfl | m
      · exact h
      · exact I.pin p (List.mem_append.mpr (.inr m)), I.hok, I.len⟩
end
/-- what the program says of the place of super() -/
structure SupAt (X : Cx) (f cc cda D : Addr) (me : Str) : Prop where
  fn : ∃ (oc : Value) (od : Option Addr) (osl : Array (Option Value)) (fd : FuncData) (ar : Arg), X.K.lookup f = some ⟨oc, od, .func fd, osl⟩ ∧ (fd.params.posonlyargs ++ fd.params.args).head? = some ar ∧ ar.arg = me
  code : ∃ (oc : Value) (od : Option Addr) (vs : Array Value) (osl : Array (Option Value)) (file : Str) (tf : Tok), X.K.lookup cda = some ⟨oc, od, .fields vs, osl⟩ ∧ vs[2]? = some (.str file tf) ∧ ((X.prog.main.file : Str) == file) = true
  cell : ∃ (oc : Value) (od : Option Addr) (osl : Array (Option Value)), X.K.lookup cc = some ⟨oc, od, .cell (some (.ref D)), osl⟩
  cls : (clsIn X.K D).isSome = true
  top : (X.prog.main.scope.names.lookup ("super" : Str)).isSome = false
  any : nsIn X.K cStatics "thirdparty.any" = some none
  env : ∃ (q : Str) (scope : Scope) (L : Addr), X.env = ksEnv q scope L f (.ref cda) cc ∧ scope.names.lookup ("super" : Str) = some .globalImplicit ∧ scope.names.lookup ("__class__" : Str) = some .free ∧ scope.names.lookup me = some .local ∧ scope.kind = .function
  mg : X.mg "super" = none
/-- what the class of the new exception must say -/
structure SupC (K : PySem.W.Frag) (C D : Addr) : Prop where
  ox : OexC K C
  sub : mroIn K C (.ref D) = some true
  init : ks_superIn K C D "__init__" = some (some (.builtin "ValueError.__init__"))
  ve : subIn K (.ref C) (.type "ValueError") = some true
theorem sup_stmt {X : Cx} {σ : L2.St} {H : Hp} {s : Shared} {body : List Stmt} {f cc cda D a C : Addr} {me : Str} {e : Expr} {p0 p1 p2 pos pos' : Pos} {ta : TA} {rest : List Stmt} {t : TS} {En : Ends}
    (Z : SupAt X f cc cda D me) (c : SupC X.K C D) (I : Inv X [] σ H s) (h0 : σ[0]? = some (some (.ref a))) (hn0 : X.N[0]? = some me)
    (ha : PA X [e] ta) (ht : PSs X rest t) (hz : H a = some (exo a C none))
    (q : ta σ H fun ws H1 => ws.length ≤ 1000 ∧ H1 a = some (exo a C none) ∧ t En σ H1)
    (hev : eval (.Call (.Attribute (.Call (.Name "super" p0) [] [] p1) "__init__" p2) [e] [] pos) X.env = (do
      let ov ← attributeBase (.Call (.Name "super" p0) [] [] p1) "__init__" X.env (eval (.Call (.Name "super" p0) [] [] p1) X.env)
      standAt p2.atName
      let (f, first) ← holding [ov] (getMethod ov "__init__" (pure false))
      callWith pos f first (backTo pos (starEach [e] X.env)) []) := by rfl)
    (he : starEach [e] X.env = (false, eval e X.env) :: starEach [] X.env := by rfl) (hpl : (backTo pos (starEach [] X.env)).any (·.1) = false := by rfl)
    (hi : interactive X.env = false := by rfl) (hs : swapsWith (.Call (.Attribute (.Call (.Name "super" p0) [] [] p1) "__init__" p2) [e] [] pos) none pos'.line X.env = pure false := by rfl) :
    _root_.PySem.wpAt (model X.prog X.w) X.A (.func body X.env) (execs (.Expr (.Call (.Attribute (.Call (.Name "super" p0) [] [] p1) "__init__" p2) [e] [] pos) pos' :: rest) X.env) (SP X [] En) X.xe s := by
  refine ks_wpAt_execs_cons (ks_wpAt_Expr_any ?_ hi hs)
  refine ks_wpAt_MethodCall (pl := pure false) ?_ hev
  obtain ⟨oc, od, osl, fd, ar, hf, hp, har⟩ := Z.fn
  obtain ⟨cc1, cc2, vs, cc3, file, tf, hcode, hvs, hfile⟩ := Z.code
  obtain ⟨ce1, ce2, ce3, hcell⟩ := Z.cell
  obtain ⟨cdD, hD⟩ := Option.isSome_iff_exists.mp Z.cls
  obtain ⟨qn, scope, L, hE, k1, k2, k3, k4⟩ := Z.env
  obtain ⟨m, hm, hloc⟩ := id I.loc
  obtain ⟨u0, ru0, hlk⟩ := hloc 0 me (.ref a) hn0 h0 (by rw [hE]; exact .inl k3)
  obtain rfl : u0 = Value.ref a := ru0
  have hms : m me = some (.ref a) := by
    rcases hlk with ⟨_, z⟩ | ⟨z, _⟩
    · exact z
    · rw [hE] at z
      have z' : scope.names.lookup me = some .cell ∨ scope.names.lookup me = some .free := z
      rw [k3] at z'
      rcases z' with z' | z' <;> cases z'
  have kin := I.kIn
  obtain ⟨t1, hobj⟩ := exo_at I.hok hz
  obtain ⟨mb, hb1, hb2⟩ := I.mod.blt
  have hglob := I.mod.glob.keeps I.bk
  have hbl := hb1.keeps I.bk
  have hgl := I.ok.glob
  have hbn := I.ok.blt
  obtain ⟨oD, hD1, hD2⟩ : ∃ oD, s.heap.get? D = some oD ∧ oD.data = .cls cdD := by
    unfold clsIn at hD
    split at hD
    · cases hD
      rename_i ho
      exact ⟨_, kin _ _ ho, rfl⟩
    · cases hD
  have hkind : X.env.kindOf "super" = some .globalImplicit := by rw [hE]; exact k1
  have hkc : X.env.kindOf "__class__" = some .free := by rw [hE]; exact k2
  have hks : X.env.kindOf ar.arg = some .local := by rw [hE, har]; exact k3
  have hfunc : X.env.func = some f := by rw [hE]
  have hcd : X.env.code = .ref cda := by rw [hE]
  have hcells : X.env.cells.lookup ("__class__" : Str) = some cc := by rw [hE]; rfl
  have hsk : X.env.scope.kind = .function := I.ok.kind
  refine ks_wpAt_super_base hkind hkc rfl hfunc (kin _ _ hf) rfl hp hcd (kin _ _ hcode) rfl hvs hfile Z.top ?_
  refine ks_loadName_global hsk hkind (Calls.loadGlobal_builtin (by rw [hgl]; exact hglob) Z.mg (by rw [hbn]; exact hbl) ((hb2 ("super" : Str) (by decide)).trans (show bootBuiltins "super" = some (.type "super") by decide +kernel)) ⟨rfl, ?_⟩)
  refine wpAny_loadName_free hsk hkc hcells ⟨_, kin _ _ hcell, rfl⟩ ?_
  refine wpAny_loadName_local hsk hks hm (by rw [har]; exact hms) ?_
  refine ks_wpAny_isType_cls hD1 hD2 ⟨rfl, ?_⟩
  obtain ⟨hh, g, d, tk, os⟩ := s
  refine ks_wpAny_call_super hD1 hD2 hobj rfl (fun c z => by cases z) (looks_mroIn kin c.sub) (fun h' es k => ?_)
  have I1 : Inv X [] σ H ⟨h', g, d, tk, os⟩ := I.kept (t' := tk) k
  have hobj1 := k _ _ hobj
  have J1 : PySem.W.InstAt h' a _ C none := ⟨hobj1, rfl, rfl, trivial⟩
  obtain ⟨cd, hcC, hinit⟩ : ∃ cd, clsIn X.K C = some cd ∧ alongIn X.K "__init__" ((cd.mro.dropWhile (· != .ref D)).drop 1) = some (some (.builtin "ValueError.__init__")) := by
    have z := c.init
    unfold ks_superIn at z
    cases ec : clsIn X.K C with
    | none => rw [ec] at z; cases z
    | some cd => rw [ec] at z; exact ⟨cd, rfl, z⟩
  have hI : PySem.W.Looks (model X.prog X.w) h' (isInstance (.ref a) (.type "ValueError")) true := J1.type.andThen (looks_subIn I1.kIn c.ve)
  refine kxs_getMethod kxs_ValueError es (looks_opaque I1.kIn Z.any) (l₀ := cd.mro) (fun A Q E s k q => wpAny_bind ((looks_clsIn I1.kIn hcC) A _ E s k (wpAny_pure q))) rfl I1.kIn hinit hI (ks_ne I1.kIn J1 hcC) (by decide) ?_
  have kp : ∀ b o, h'.get? b = some o → (h'.push (kxs_mw "ValueError.__init__" a)).get? b = some o := fun b o z => Heap.get?_push_of_some _ z
  have hu : (h'.push (kxs_mw "ValueError.__init__" a)).get? h'.objs.size = some (kxs_mw "ValueError.__init__" a) := Heap.get?_push_at rfl rfl
  have I2 : Inv X [] σ H ⟨h'.push (kxs_mw "ValueError.__init__" a), g, d, tk + 1, os⟩ := I1.kept (t' := tk + 1) kp
  have hfp := I1.fpOk (b := h'.objs.size) (Nat.le_refl _) (I1.hok.fresh (Nat.le_refl _))
  have I3 : Inv X [(h'.objs.size, kxs_mw "ValueError.__init__" a)] σ H ⟨h'.push (kxs_mw "ValueError.__init__" a), g, d, tk + 1, os⟩ := inv_pin I2 ⟨hu, hfp.1, hfp.2.1, hfp.2.2.1, fun v z => by cases z⟩
  rw [he]
  refine kxs_callWith (i := "ValueError.__init__") (x := a) (by show (false || (backTo pos (starEach [] X.env)).any (·.1)) = false; rw [hpl]; rfl) ?_
  refine evalArgs_plain ?_
  have hrun := ha.run pos _ _ σ H _ I3 q
  rw [he] at hrun
  refine wpAny_mono hrun (fun us s1 hr => ?_) fun _ _ z => z
  obtain ⟨ws, H1, I4, rws, hwl, hz1, hq⟩ := hr
  have hu1 : s1.heap.get? h'.objs.size = some (kxs_mw "ValueError.__init__" a) := (I4.pin _ (List.mem_append.mpr (.inr (List.mem_cons_self ..)))).1
  refine ⟨hu1, ?_⟩
  have I5 := inv_unpin I4
  obtain ⟨nm, q', N, bs, bm, sn, sub, ab, col, dd, k0, k1', k2', k3', k5, hC, hbm⟩ := c.ox.cls
  have hCh := I5.kIn _ _ hC
  obtain ⟨t2, hob⟩ := exo_at I5.hok hz1
  have hul : us.length ≤ sizeLine := by rw [← rws.length, sizeLine_eq]; omega
  obtain ⟨h1, g1, d1, tk1, os1⟩ := s1
  show wpAny _ _ (call (.ref h'.objs.size) us) _ _ _
  refine wpAny_call (codeAny_of_tree ?_)
  show wpAny _ X.A.in1 (callAny (.ref h'.objs.size) ⟨us, []⟩) _ _ _
  simp only [callAny]
  refine wpAny_bind (wpAny_load hu1 ?_)
  have tyc : (Value.type "method-wrapper" == Value.type "method" ||
      Value.type "method-wrapper" == Value.type "builtin_function_or_method" ||
      Value.type "method-wrapper" == Value.type "method-wrapper") = true := by decide
  dsimp only [kxs_mw]
  rw [tyc, if_pos rfl]
  refine KFB.if_so (by decide) (wpAny_bind (check_bound_init (PySem.F.excBase_ValueError).toExcCallFacts hCh hob rfl (wpAny_bind (wpAny_pure (wpAny_pure ⟨plainId_quiet (PySem.F.excBase_ValueError).init.plain _, codeAny_builtin (PySem.F.excBase_ValueError).initEntry ?_⟩)))))
  refine exc_init_tree (cls := .ref C) (t0 := t2) (dv := none) (c2 := .none) (c3 := .none) (b4 := .bool false) hob hul (fun h2 kk ex tx => ?_)
  have eu : upd H1 a (exo a C none) = H1 := by
    funext b
    by_cases hb : b = a
    · rw [hb, upd_same, hz1]
    · rw [upd_ne hb]
  have I6 := I5.write (t' := tk1) (x := a) (e := a) (o := exo a C none) (by rw [hz1]; exact True.intro) (.inl rfl) kk ⟨_, ex⟩ (exo_ok ex)
  rw [eu] at I6
  exact wpAt_of_wpAny (ht.run [] _ _ _ En I6 hq)
end Mi

set_option Elab.async false
set_option linter.all false
set_option maxRecDepth 100000
set_option maxHeartbeats 4000000
namespace Mi
open PySem L2
/-! ### the def of such an __init__ -/
/-- the promise: the fields that f tells of the arguments, newest first -/
def spX (C : Cn) (D : Addr) (n : Nat) (f : List Dt → Option (List (Str × Dt))) : Sp := fun vs H Q _ => ∃ (G : Hp) (a : Addr) (c : Nat) (ws : List V) (ds : List Dt) (fs : List (Str × Dt)),
  vs = .ref a :: ws ∧ Same G H ∧ Reps C G ws ds ∧ ds.length = n ∧ H a = some (exo a (C.cl c) none) ∧ SupC C.K (C.cl c) D ∧ f ds = some fs ∧ (∀ p ∈ fs, PySem.W.findIn C.K (.ref (C.cl c)) p.1 = some none) ∧
  ∀ (d : Addr) (gs : List (Str × V)) (H2 : Hp), H2 a = some (exo a (C.cl c) (some d)) → H2 d = some (exd d gs) → H d = none → (∀ b o, b ≠ a → H b = some o → H2 b = some o) → gs.map (·.1) = fs.map (·.1) → Reps C G (gs.map (·.2)) (fs.map (·.2)) → Q .non H2
/-- its text: super().__init__(e), then rest -/
def supStmt (p0 p1 p2 pos pos' : Pos) (e : Expr) : Stmt := .Expr (.Call (.Attribute (.Call (.Name "super" p0) [] [] p1) "__init__" p2) [e] [] pos) pos'
/-- what is written of such a def -/
structure SupF (P : Program) (K : PySem.W.Frag) (mg : Str → Option Value) (x qual : Str) (st : Stmt) (ps : List Str) (f D : Addr) (fd : FuncData) : Prop where
  ex : ∃ (oc : Value) (od an : Option Addr) (kV doc pm ct : Value) (osl : Array (Option Value)) (cda cc : Addr),
    fd = PySem.W.fnX x qual (defArgs st) (defBody st) (defScope st) [("__class__", cc)] .none kV doc pm an (.ref cda) ct ∧ K.lookup f = some ⟨oc, od, .func fd, osl⟩ ∧ PySem.W.codeIn K (.ref cda) qual = true ∧
    (∃ (oc : Value) (od : Option Addr) (vs : Array Value) (osl : Array (Option Value)) (file : Str) (tf : Tok), K.lookup cda = some ⟨oc, od, .fields vs, osl⟩ ∧ vs[2]? = some (.str file tf) ∧ ((P.main.file : Str) == file) = true) ∧
    (∃ (oc : Value) (od : Option Addr) (osl : Array (Option Value)), K.lookup cc = some ⟨oc, od, .cell (some (.ref D)), osl⟩)
  me : ∃ ar, ((defArgs st).posonlyargs ++ (defArgs st).args).head? = some ar ∧ some ar.arg = ps[0]?
  cls : (PySem.W.clsIn K D).isSome = true
  top : (P.main.scope.names.lookup ("super" : Str)).isSome = false
  any : PySem.W.nsIn K cStatics "thirdparty.any" = some none
  mg : mg "super" = none
  sc : NdefX.NScope (ps ++ [("__class__" : Str)]) ps ["__class__"] (defScope st)
  sup : (defScope st).names.lookup ("super" : Str) = some .globalImplicit
  ty : PySem.W.typeIn K (.ref f) = some (.type "function")
  bd : Binds K fd ps []
/-- how the call super().__init__(e) is evaluated: by rfl, where e is given -/
structure SupEv (env : Env) (p0 p1 p2 pos pos' : Pos) (e : Expr) : Prop where
  ev : eval (.Call (.Attribute (.Call (.Name "super" p0) [] [] p1) "__init__" p2) [e] [] pos) env = (do
      let ov ← attributeBase (.Call (.Name "super" p0) [] [] p1) "__init__" env (eval (.Call (.Name "super" p0) [] [] p1) env)
      standAt p2.atName
      let (f, first) ← holding [ov] (getMethod ov "__init__" (pure false))
      callWith pos f first (backTo pos (starEach [e] env)) [])
  st : starEach [e] env = (false, eval e env) :: starEach [] env
  pl : (backTo pos (starEach [] env)).any (·.1) = false
  it : interactive env = false
  sw : swapsWith (.Call (.Attribute (.Call (.Name "super" p0) [] [] p1) "__init__" p2) [e] [] pos) none pos'.line env = pure false
/-- the context of its body -/
abbrev xCx (P : Program) (w : World) (K : PySem.W.Frag) (mg : Str → Option Value) (base : Heap) (x qual : Str) (st : Stmt) (ps : List Str) (f cda cc : Addr) (A : Around) (outer : List Env) (s : Shared) (H : Hp) (E : XK) : Cx :=
  NdefX.ncx (L2.CX P w) P w K mg base (ps ++ [("__class__" : Str)]) ⟨x, qual, defArgs st, defBody st, defScope st, [("__class__", cc)], cda⟩ f A outer s H E
theorem sup_run {C : Cn} {P : Program} {w : World} {K : PySem.W.Frag} {mg : Str → Option Value} {base : Heap} {x qual : Str} {st : Stmt} {f D : Addr} {fd : FuncData} {ps : List Str} {me : Str} {e : Expr} {rest : List Stmt} {p0 p1 p2 pos pos' : Pos} {n : Nat} {fM : List Dt → Option (List (Str × Dt))}
    (Z : SupF P K mg x qual st ps f D fd) (hK : K = C.K) (hm : ps[0]? = some me) (hl : ps.length = n + 1) (hbody : defBody st = supStmt p0 p1 p2 pos pos' e :: rest)
    (hev : ∀ (cda cc : Addr) (A : Around) (outer : List Env) (s : Shared) (H : Hp) (E : XK), SupEv (xCx P w K mg base x qual st ps f cda cc A outer s H E).env p0 p1 p2 pos pos' e)
    (hb : ∀ (cda cc : Addr) (A : Around) (outer : List Env) (s : Shared) (H : Hp) (Q : VK) (E : XK) (G : Hp) (a : Addr) (c : Nat) (ws : List V) (ds : List Dt) (fs : List (Str × Dt)), Same G H → Reps C G ws ds → ds.length = n → H a = some (exo a (C.cl c) none) → SupC C.K (C.cl c) D → fM ds = some fs →
      (∀ p ∈ fs, PySem.W.findIn C.K (.ref (C.cl c)) p.1 = some none) →
      (∀ (d : Addr) (gs : List (Str × V)) (H2 : Hp), H2 a = some (exo a (C.cl c) (some d)) → H2 d = some (exd d gs) → H d = none → (∀ b o, b ≠ a → H b = some o → H2 b = some o) → gs.map (·.1) = fs.map (·.1) → Reps C G (gs.map (·.2)) (fs.map (·.2)) → Q .non H2) →
      ∃ (ta : TA) (t : TS), PA (xCx P w K mg base x qual st ps f cda cc A outer s H E) [e] ta ∧ PSs (xCx P w K mg base x qual st ps f cda cc A outer s H E) rest t ∧
        ta (some (.ref a) :: (ws.map some ++ [none])) H fun us H1 => us.length ≤ 1000 ∧ H1 a = some (exo a (C.cl c) none) ∧ t { nx := fun _ H' => Q .non H', rt := Q } (some (.ref a) :: (ws.map some ++ [none])) H1) :
    FnOk P w K mg base (L2.CX P w) 1 f fd ps (spX C D n fM) := by
  have len : ∀ vs H Q E, spX C D n fM vs H Q E → vs.length = ps.length := fun vs H Q E h => by
    obtain ⟨G, a, c, ws, ds, fs, rfl, _, h2, h3, _⟩ := h
    rw [List.length_cons, h2.length, h3, hl]
  refine ⟨len, fun A outer s H args us vs Q E hr e0 hbd r hsp => ?_⟩
  have hvl := len _ _ _ _ hsp
  obtain ⟨oc, od, an, kV, doc, pm, ct, osl, cda, cc, rfl, lk, hcd, hcode, hcell⟩ := Z.ex
  obtain ⟨G, a, c, ws, ds, fs, rfl, hG, hr', hn, hobj, hC, hf, hno, hq⟩ := hsp
  have KX : K.In s.heap := e0.mod.kin.keeps fun b o z => (e0.bs b o z).1
  have lim : s.heap.NoLimit := e0.mod.nolimit.keeps fun b o z => (e0.bs b o z).1
  have S := Z.sc
  have hloc : ∀ y ∈ ps.zip us, (defScope st).names.lookup y.1 = some .local := fun ⟨y, v⟩ hy => S.par y (List.of_mem_zip hy).1
  refine ks_codeAny_call_defAt (body := defBody st) (binds := ps.zip us) hr.depth (KX _ _ lk) rfl lim (PySem.W.codeRec_of KX hcd) rfl hbd S.nocell hloc (fun h₁ hns hk₁ => ?_) S.co S.gen S.kind
  have hcc : H cc = none ∧ ∃ v, s.heap.IsCell cc v := by
    obtain ⟨o1, o2, o3, q⟩ := hcell
    exact ⟨(e0.bs _ _ (e0.mod.kin _ _ q)).2, _, _, KX _ _ q, rfl⟩
  have cells : NdefX.CellsAt [(("__class__" : Str), cc)] ["__class__"] [none] s.heap H := by
    have h1 : ∀ y c', List.lookup y [(("__class__" : Str), cc)] = some c' → y = "__class__" ∧ c' = cc := fun y c' z => by
      by_cases hy : y = "__class__"
      · subst hy
        have z' : some cc = some c' := z
        cases z'
        exact ⟨rfl, rfl⟩
      · have : (y == ("__class__" : Str)) = false := by simpa using hy
        simp [List.lookup, this] at z
    refine ⟨rfl, fun y c' z => ?_, fun y z c' q1 q2 => ?_, fun i y z => ?_⟩
    · rw [(h1 y c' z).2]; exact hcc
    · rw [(h1 y c' q1).1, (h1 z c' q2).1]
    · cases i with
      | zero =>
        have : y = "__class__" := by simpa using z.symm
        subst this
        exact ⟨cc, rfl, fun v q => by simp at q⟩
      | succ i => simp at z
  have I := NdefX.inv_startN (CX := L2.CX P w) (w := w) (K := K) (mg := mg) (base := base) (N := ps ++ [("__class__" : Str)]) (F := ⟨x, qual, defArgs st, defBody st, defScope st, [("__class__", cc)], cda⟩) (f := f) (E := E) (tk := s.toks + (ps.zip us).length) S hr.hd e0 hvl r cells hns hk₁
  have est : NdefX.startF (ps ++ [("__class__" : Str)]) (V.ref a :: ws) [none] = some (.ref a) :: (ws.map some ++ [none]) := by
    have e1 : (ps ++ [("__class__" : Str)]).length - (V.ref a :: ws).length - ([none] : List (Option V)).length = 0 := by
      rw [hvl]; simp
    unfold NdefX.startF
    rw [e1]
    simp
  rw [est] at I
  obtain ⟨ta, t, pa, pt, q⟩ := hb cda cc A outer s H Q E G a c ws ds fs hG hr' hn hobj hC hf hno hq
  have hmeL : (defScope st).names.lookup me = some .local := S.par me (List.mem_of_getElem? hm)
  have ZA : SupAt (xCx P w K mg base x qual st ps f cda cc A outer s H E) f cc cda D me := by
    refine ⟨?_, hcode, hcell, Z.cls, Z.top, Z.any, ⟨_, _, _, rfl, Z.sup, S.frk _ (by simp), hmeL, S.kind⟩, Z.mg⟩
    obtain ⟨ar, h1, h2⟩ := Z.me
    exact ⟨_, _, _, _, ar, lk, h1, Option.some.inj (h2.trans hm)⟩
  have hC' : SupC (xCx P w K mg base x qual st ps f cda cc A outer s H E).K (C.cl c) D := by
    show SupC K (C.cl c) D
    rw [hK]; exact hC
  have Ev := hev cda cc A outer s H E
  have run := sup_stmt (body := defBody st) (En := { nx := fun _ H' => Q .non H', rt := Q }) ZA hC' I rfl (show (ps ++ [("__class__" : Str)])[0]? = some me by
      rw [List.getElem?_append_left (by omega)]; exact hm) pa pt hobj q Ev.ev Ev.st Ev.pl Ev.it Ev.sw (p0 := p0) (p1 := p1) (p2 := p2) (pos := pos) (pos' := pos')
  have eb : execs (defBody st) (callEnv (PySem.W.fnX x qual (defArgs st) (defBody st) (defScope st) [("__class__", cc)] .none kV doc pm an (.ref cda) ct) s.heap.objs.size f) = execs (supStmt p0 p1 p2 pos pos' e :: rest) (callEnv (PySem.W.fnX x qual (defArgs st) (defBody st) (defScope st) [("__class__", cc)] .none kV doc pm an (.ref cda) ct) s.heap.objs.size f) := by rw [hbody]
  rw [eb]
  refine PySem.ks_wpAt_mono run (fun fl s' hs => ?_) fun e s' hs => hs
  have fin : ∀ {σ' : L2.St} {H' : Hp} {v : V} {u : Value}, Inv (xCx P w K mg base x qual st ps f cda cc A outer s H E) [] σ' H' s' → RelV v u → Q v H' → CE outer P w H s Q u s' :=
    fun {σ' H' v u} J rv q => ⟨v, H', J.os, J.bare, J.base, J.hok, rv, q⟩
  cases fl with
  | ret u =>
    obtain ⟨v, σ', H', J, rv, q⟩ := hs
    exact fin J rv q
  | next =>
    obtain ⟨σ', H', J, q⟩ := hs
    exact fin (v := V.non) (u := Value.none) J rfl q
  | brk => exact hs.elim fun _ h => h.elim fun _ h => h.2.elim
  | cont => exact hs.elim fun _ h => h.elim fun _ h => h.2.elim
end Mi

set_option Elab.async false
set_option linter.all false
set_option maxRecDepth 100000
set_option maxHeartbeats 4000000
namespace Mi
open PySem L2
/-! ### an __init__ with one field, with two -/
def xf0 (ma : MA) (ds : List Dt) : Bool := match ma (none :: (ds.map (fun d => some (Lv.c d)) ++ [none])) [] with
  | .ok ls _ => decide (ls.length ≤ 1000)
  | _ => false
def xf1 (ma : MA) (f1 : Str) (i1 : Nat) : List Dt → Option (List (Str × Dt)) := fun ds => if xf0 ma ds = true then ds[i1]?.map fun d => [(f1, d)] else none
def xf2 (ma : MA) (f1 : Str) (i1 : Nat) (f2 : Str) (i2 : Nat) : List Dt → Option (List (Str × Dt)) := fun ds => if xf0 ma ds = true then ds[i1]?.bind fun d => ds[i2]?.map fun e => [(f2, e), (f1, d)] else none
theorem x_start {C : Cn} {G H : Hp} {a : Addr} {ws : List V} {ds : List Dt} (hG : Same G H) (hr : Reps C G ws ds) : Rel C (bs0 H G) [] G H (some (.ref a) :: (ws.map some ++ [none])) (none :: (ds.map (fun d => some (Lv.c d)) ++ [none])) [] := by
  have hl := hr.length
  refine ⟨hG, Same.refl _, fun _ _ _ => rfl, by simp, by simp, by simp, rfl, fun n a cl h1 => by simp at h1, by simp [hl], fun i l q => ?_, ⟨⟨[], rfl⟩, fun _ _ z => by cases z⟩⟩
  cases i with
  | zero => simp at q
  | succ i =>
    simp only [List.getElem?_cons_succ] at q ⊢
    by_cases hi : i < ds.length
    · rw [List.getElem?_append_left (by simpa using hi)] at q
      rw [List.getElem?_append_left (by simpa [hl] using hi)]
      rw [List.getElem?_map] at q ⊢
      cases e : ds[i]? with
      | none => rw [e] at q; simp at q
      | some d =>
        rw [e] at q
        simp at q; subst q
        obtain ⟨v, e1, r⟩ := hr.get e
        exact ⟨v, by rw [e1]; rfl, r⟩
    · rw [List.getElem?_append_right (by simpa using Nat.le_of_not_lt hi)] at q
      exfalso
      cases hj : i - (ds.map fun d => some (Lv.c d)).length with
      | zero => rw [hj] at q; simp at q
      | succ j => rw [hj] at q; simp at q
/-- the arguments of super().__init__ -/
theorem x_args {C : Cn} {G H : Hp} {a : Addr} {ws : List V} {ds : List Dt} {ma : MA} {Q : List V → Hp → Prop} (hG : Same G H) (hr : Reps C G ws ds) (hx : xf0 ma ds = true) (h : ∀ us H1, us.length ≤ 1000 → Same H H1 → Q us H1) :
    tA C W0 ma (some (.ref a) :: (ws.map some ++ [none])) H Q := by
  refine ⟨bs0 H G, [], G, _, [], x_start hG hr, ?_⟩
  unfold xf0 at hx
  split at hx
  · rename_i ls cs e
    rw [e]
    exact fun us ι' G' H' R _ r => h us H' (by rw [r.length]; simpa using hx) R.h0
  · cases hx
section
variable {C : Cn} {P : Program} {w : World} {K : PySem.W.Frag} {mg : Str → Option Value} {base : Heap} {x qual : Str} {st : Stmt} {f D : Addr} {fd : FuncData} {ps : List Str} {me : Str} {e : Expr} {p0 p1 p2 pos pos' : Pos} {n : Nat} {ma : MA}
theorem x_slot {ws : List V} {ds : List Dt} {G : Hp} {a : Addr} {i : Nat} {d : Dt} (hr : Reps C G ws ds) (hd : ds[i]? = some d) : ∃ y, (some (V.ref a) :: (ws.map some ++ [none]))[i + 1]? = some (some y) ∧ Rep C G y d := by
  obtain ⟨y, h1, h2⟩ := hr.get hd
  refine ⟨y, ?_, h2⟩
  have hi := (List.getElem?_eq_some_iff.mp h1).1
  rw [List.getElem?_cons_succ, List.getElem?_append_left (by simpa using hi), List.getElem?_map, h1]
  rfl
theorem ok_sup1 (Z : SupF P K mg x qual st ps f D fd) (hK : K = C.K) {f1 q1 : Str} {a0 a1 a2 a3 : Pos} (i1 : Nat) (hm : ps[0]? = some me) (hl : ps.length = n + 1) (hbody : defBody st = [supStmt p0 p1 p2 pos pos' e, .Assign [.Attribute (.Name me a0) f1 a1] (.Name q1 a2) a3]) (hq1 : ps[i1 + 1]? = some q1)
    (hev : ∀ (cda cc : Addr) (A : Around) (outer : List Env) (s : Shared) (H : Hp) (E : XK), SupEv (xCx P w K mg base x qual st ps f cda cc A outer s H E).env p0 p1 p2 pos pos' e)
    (hsw : ∀ env : Env, swapsWith (.Name q1 a2) (some (.Attribute (.Name me a0) f1 a1)) a3.line env = pure false)
    (ha : ∀ (cda cc : Addr) (A : Around) (outer : List Env) (s : Shared) (H : Hp) (E : XK), WA C W0 (xCx P w K mg base x qual st ps f cda cc A outer s H E) [e] ma)
    (h1 : (me == ("__debug__" : Str)) = false := by decide) (h2 : (me == ("__classdict__" : Str)) = false := by decide) (h3 : (q1 == ("__debug__" : Str)) = false := by decide) (h4 : (q1 == ("__classdict__" : Str)) = false := by decide) :
    FnOk P w K mg base (L2.CX P w) 1 f fd ps (spX C D n (xf1 ma f1 i1)) := by
  refine sup_run Z hK hm hl hbody hev fun cda cc A outer s H Q E G a c ws ds fs hG hr hn hobj hC hf hno hq => ?_
  have hvis : ∀ y : Str, y ∈ ps → Vis (xCx P w K mg base x qual st ps f cda cc A outer s H E).env.scope y := fun y hy => .inl (Z.sc.par y hy)
  have gN : ∀ (i : Nat) (y : Str), ps[i]? = some y → (xCx P w K mg base x qual st ps f cda cc A outer s H E).N[i]? = some y := fun i y z => by
    show (ps ++ [("__class__" : Str)])[i]? = some y
    rw [List.getElem?_append_left (List.getElem?_eq_some_iff.mp z).1]; exact z
  have o1 := pe_var (X := xCx P w K mg base x qual st ps f cda cc A outer s H E) (pos := a0) (gN 0 me hm) (hvis me (List.mem_of_getElem? hm)) h1 h2
  have o2 := pe_var (X := xCx P w K mg base x qual st ps f cda cc A outer s H E) (pos := a2) (gN (i1 + 1) q1 hq1) (hvis q1 (List.mem_of_getElem? hq1)) h3 h4
  unfold xf1 at hf
  split at hf
  · rename_i hx
    cases ed : ds[i1]? with
    | none => rw [ed] at hf; cases hf
    | some d =>
      rw [ed] at hf
      cases hf
      refine ⟨_, _, ha cda cc A outer s H E hK takes_none5, pss_one (ps_ost o1 o2 (hsw _)), x_args hG hr hx fun us H1 hu hs => ⟨hu, hs _ _ hobj, ?_⟩⟩
      obtain ⟨y, hy, ry⟩ := x_slot (a := a) hr ed
      refine ⟨y, hy, .ref a, rfl, a, C.cl c, rfl, ?_, ?_, .inl ⟨hs _ _ hobj, fun dx hdx hne => ?_⟩⟩
      · show OexC K _
        rw [hK]; exact hC.ox
      · show PySem.W.findIn K _ _ = _
        rw [hK]; exact hno (f1, d) (by simp)
      · have hdn : H dx = none := by
          cases z : H dx with
          | none => rfl
          | some o => rw [hs _ _ z] at hdx; cases hdx
        refine hq dx [(f1, y)] _ upd_same (by rw [upd_ne hne, upd_same]) hdn (fun b o hb z => ?_) rfl (Reps.cons ry (reps_nil.mpr rfl))
        rw [upd_ne hb, upd_ne (ne_of_none z hdn)]
        exact hs _ _ z
  · cases hf
theorem ok_sup2 (Z : SupF P K mg x qual st ps f D fd) (hK : K = C.K) {f1 q1 f2 q2 : Str} {a0 a1 a2 a3 b0 b1 b2 b3 : Pos} (i1 i2 : Nat) (hm : ps[0]? = some me) (hl : ps.length = n + 1) (hbody : defBody st = [supStmt p0 p1 p2 pos pos' e, .Assign [.Attribute (.Name me a0) f1 a1] (.Name q1 a2) a3, .Assign [.Attribute (.Name me b0) f2 b1] (.Name q2 b2) b3]) (hq1 : ps[i1 + 1]? = some q1) (hq2 : ps[i2 + 1]? = some q2)
    (hev : ∀ (cda cc : Addr) (A : Around) (outer : List Env) (s : Shared) (H : Hp) (E : XK), SupEv (xCx P w K mg base x qual st ps f cda cc A outer s H E).env p0 p1 p2 pos pos' e)
    (hsw : ∀ env : Env, swapsWith (.Name q1 a2) (some (.Attribute (.Name me a0) f1 a1)) a3.line env = pure false) (hsw2 : ∀ env : Env, swapsWith (.Name q2 b2) (some (.Attribute (.Name me b0) f2 b1)) b3.line env = pure false)
    (ha : ∀ (cda cc : Addr) (A : Around) (outer : List Env) (s : Shared) (H : Hp) (E : XK), WA C W0 (xCx P w K mg base x qual st ps f cda cc A outer s H E) [e] ma)
    (h1 : (me == ("__debug__" : Str)) = false := by decide) (h2 : (me == ("__classdict__" : Str)) = false := by decide) (h3 : (q1 == ("__debug__" : Str)) = false := by decide) (h4 : (q1 == ("__classdict__" : Str)) = false := by decide) (h5 : (q2 == ("__debug__" : Str)) = false := by decide) (h6 : (q2 == ("__classdict__" : Str)) = false := by decide) :
    FnOk P w K mg base (L2.CX P w) 1 f fd ps (spX C D n (xf2 ma f1 i1 f2 i2)) := by
  refine sup_run Z hK hm hl hbody hev fun cda cc A outer s H Q E G a c ws ds fs hG hr hn hobj hC hf hno hq => ?_
  have hvis : ∀ y : Str, y ∈ ps → Vis (xCx P w K mg base x qual st ps f cda cc A outer s H E).env.scope y := fun y hy => .inl (Z.sc.par y hy)
  have gN : ∀ (i : Nat) (y : Str), ps[i]? = some y → (xCx P w K mg base x qual st ps f cda cc A outer s H E).N[i]? = some y := fun i y z => by
    show (ps ++ [("__class__" : Str)])[i]? = some y
    rw [List.getElem?_append_left (List.getElem?_eq_some_iff.mp z).1]; exact z
  have o1 := pe_var (X := xCx P w K mg base x qual st ps f cda cc A outer s H E) (pos := a0) (gN 0 me hm) (hvis me (List.mem_of_getElem? hm)) h1 h2
  have o2 := pe_var (X := xCx P w K mg base x qual st ps f cda cc A outer s H E) (pos := a2) (gN (i1 + 1) q1 hq1) (hvis q1 (List.mem_of_getElem? hq1)) h3 h4
  have o3 := pe_var (X := xCx P w K mg base x qual st ps f cda cc A outer s H E) (pos := b0) (gN 0 me hm) (hvis me (List.mem_of_getElem? hm)) h1 h2
  have o4 := pe_var (X := xCx P w K mg base x qual st ps f cda cc A outer s H E) (pos := b2) (gN (i2 + 1) q2 hq2) (hvis q2 (List.mem_of_getElem? hq2)) h5 h6
  unfold xf2 at hf
  split at hf
  · rename_i hx
    cases ed : ds[i1]? with
    | none => rw [ed] at hf; cases hf
    | some d =>
      cases ee : ds[i2]? with
      | none => rw [ed, ee] at hf; cases hf
      | some d2 =>
        rw [ed, ee] at hf
        cases hf
        refine ⟨_, _, ha cda cc A outer s H E hK takes_none5, pss_cons (ps_ost o1 o2 (hsw _)) (pss_one (ps_ost o3 o4 (hsw2 _))), x_args hG hr hx fun us H1 hu hs => ⟨hu, hs _ _ hobj, ?_⟩⟩
        obtain ⟨y, hy, ry⟩ := x_slot (a := a) hr ed
        obtain ⟨y2, hy2, ry2⟩ := x_slot (a := a) hr ee
        have ho : OexC K (C.cl c) := by rw [hK]; exact hC.ox
        have hn1 : PySem.W.findIn K (.ref (C.cl c)) f1 = some none := by rw [hK]; exact hno (f1, d) (by simp)
        have hn2 : PySem.W.findIn K (.ref (C.cl c)) f2 = some none := by rw [hK]; exact hno (f2, d2) (by simp)
        refine ⟨y, hy, .ref a, rfl, a, C.cl c, rfl, ho, hn1, .inl ⟨hs _ _ hobj, fun dx hdx hne => ?_⟩⟩
        have hdn : H dx = none := by
          cases z : H dx with
          | none => rfl
          | some o => rw [hs _ _ z] at hdx; cases hdx
        have hda : (upd (upd H1 dx (exd dx [(f1, y)])) a (exo a (C.cl c) (some dx))) dx = some (exd dx [(f1, y)]) := by rw [upd_ne hne, upd_same]
        refine ⟨y2, hy2, .ref a, rfl, a, C.cl c, rfl, ho, hn2, .inr ⟨dx, [(f1, y)], upd_same, hda, by simp, ?_⟩⟩
        refine hq dx [(f2, y2), (f1, y)] _ (by rw [upd_ne (Ne.symm hne), upd_same]) upd_same hdn (fun b o hb z => ?_) rfl (Reps.cons ry2 (Reps.cons ry (reps_nil.mpr rfl)))
        rw [upd_ne (ne_of_none z hdn), upd_ne hb, upd_ne (ne_of_none z hdn)]
        exact hs _ _ z
  · cases hf
end
/-! ### raise -/
theorem Rel.more {C : Cn} {B : Bs} {ι : List Addr} {G H H' : Hp} {σ : St} {sl : Sl} {cs : Cs} (R : Rel C B ι G H σ sl cs) (k : ∀ b o, H b = some o → H' b = some o) : Rel C B ι G H' σ sl cs :=
  ⟨fun b o z => k b o (R.hG b o z), fun b o z => k b o (R.h0 b o z), R.g0, R.fr, fun a ha => (R.th a ha).elim fun o z => ⟨o, k a o z⟩, R.nd, R.cl, fun n a c h1 h2 => (R.cr n a c h1 h2).grow .refl id (by
    obtain ⟨o, z⟩ := R.th a (List.mem_of_getElem? h1)
    rw [z, k a o z]), R.len, R.slt, R.tb⟩
section
variable {C : Cn} {W : WX}
def mRaise (c n : Nat) (f : List Dt → Option (List (Str × Dt))) (ma : MA) : MS := fun sl cs => (ma sl cs).bind fun ls cs1 => match fzA cs1 ls with
  | some (ds, cs2) => (match f ds with
    | some fs => if ds.length = n then .exc ⟨c, fs.map (·.1), fs.map (·.2)⟩ sl cs2 else .bad
    | none => .bad)
  | none => .bad
theorem xn1 {C : Cn} {A : Addr} {ma : MA} {f1 : Str} {i1 : Nat} (h : PySem.W.findIn C.K (.ref A) f1 = some none) : ∀ ds fs, xf1 ma f1 i1 ds = some fs → ∀ p ∈ fs, PySem.W.findIn C.K (.ref A) p.1 = some none := fun ds fs e p hp => by
  unfold xf1 at e
  split at e
  · cases ed : ds[i1]? with
    | none => rw [ed] at e; cases e
    | some d =>
      rw [ed] at e
      cases e
      rw [List.mem_singleton.mp hp]
      exact h
  · cases e
theorem xn2 {C : Cn} {A : Addr} {ma : MA} {f1 f2 : Str} {i1 i2 : Nat} (h : PySem.W.findIn C.K (.ref A) f1 = some none) (h2 : PySem.W.findIn C.K (.ref A) f2 = some none) : ∀ ds fs, xf2 ma f1 i1 f2 i2 ds = some fs → ∀ p ∈ fs, PySem.W.findIn C.K (.ref A) p.1 = some none := fun ds fs e p hp => by
  unfold xf2 at e
  split at e
  · cases ed : ds[i1]? with
    | none => rw [ed] at e; cases e
    | some d =>
      cases ee : ds[i2]? with
      | none => rw [ed, ee] at e; cases e
      | some d2 =>
        rw [ed, ee] at e
        cases e
        rcases List.mem_cons.mp hp with rfl | hp
        · exact h2
        · rw [List.mem_singleton.mp hp]; exact h
  · cases e
theorem ws_raise {X : Cx} {x : Str} {p pos pos' : Pos} {e : Expr} {es : List Expr} {ma : MA} {c n : Nat} {D fI : Addr} {fd : FuncData} {ps : List Str} {f : List Dt → Option (List (Str × Dt))} (hC : SupC C.K (C.cl c) D) (iC : PySem.W.findIn C.K (.ref (C.cl c)) "__init__" = some (some (.ref fI))) (tI : PySem.W.typeIn C.K (.ref fI) = some (.type "function")) (hb : Binds C.K fd ps [])
    (F : FnOk X.prog X.w X.K X.mg X.base (L2.CX X.prog X.w) 1 fI fd ps (spX C D n f)) (hn : ∀ ds fs, f ds = some fs → ∀ p ∈ fs, PySem.W.findIn C.K (.ref (C.cl c)) p.1 = some none) (hn2 : n ≤ 1000) (hr : Room 2 X.A) (hm : X.mg x = some (.ref (C.cl c))) (ha : WA C W X (e :: es) ma) (hc : X.calm = true := by rfl) (hg : Gl X x := by rfl)
    (hdb : (x == ("__debug__" : Str)) = false := by decide) (he : starEach (e :: es) X.env = (false, eval e X.env) :: starEach es X.env := by rfl) (hpl : (backTo pos (starEach es X.env)).any (·.1) = false := by rfl) :
    WS C W X (.Raise (some (.Call (.Name x p) (e :: es) [] pos)) none pos') (mRaise c n f ma) := fun hK hT hP => (ps_raise hc hT (pmk_oex (by rw [hK]; exact hC.ox) (by rw [hK]; exact iC) (by rw [hK]; exact tI) F hr (by rw [hK]; exact hb) .nil (passes_call hT fun _ _ _ _ z => z.elim) hg hm (ha hK hT) hdb he hpl)).imp fun Dn σ H h => by
  obtain ⟨B, ι, G, sl, cs, R, h⟩ := h
  refine ⟨B, ι, G, sl, cs, R, (PostS.bind h).mono fun ls cs1 h1 vs ι1 G1 H1 R1 e1 r1 => ?_⟩
  cases ez : fzA cs1 ls with
  | none => rw [ez] at h1; exact h1.elim
  | some pr =>
    obtain ⟨ds, cs2⟩ := pr
    rw [ez] at h1
    simp only at h1
    obtain ⟨G2, R2, e2, q2⟩ := fzA_ok R1 r1 ez
    cases ef : f ds with
    | none => rw [ef] at h1; exact h1.elim
    | some fs =>
      rw [ef] at h1
      simp only at h1
      have hfn := hn ds fs ef
      split at h1
      rotate_left
      · exact h1.elim
      rename_i hdn
      have hlen : vs.length ≤ 1000 := by rw [q2.length, hdn]; exact hn2
      refine ⟨hlen, fun a han => ⟨G2, a, c, vs, ds, fs, by rw [List.append_nil], fun b o z => ?_, q2, hdn, upd_same, hC, ef, hfn, fun d gs H2 g1 g2 g3 g4 g5 g6 => ?_⟩⟩
      · rw [upd_ne (ne_of_none (R2.hG b o z) han)]; exact R2.hG b o z
      · have hda : d ≠ a := fun z => by rw [z, upd_same] at g3; cases g3
        have hd1 : H1 d = none := by rw [upd_ne hda] at g3; exact g3
        refine ⟨rfl, d, gs, g1, g2, hd1, ?_⟩
        have R3 : Rel C B ι1 G2 (fun b => if b = d then none else (del H2 a) b) σ sl cs2 := R2.more fun b o z => by
          have hba := ne_of_none z han
          rw [if_neg (ne_of_none z hd1), del_ne hba]
          exact g4 b o hba (by rw [upd_ne hba]; exact z)
        obtain ⟨R4, le⟩ := R3.newC (p := d) (o := .xd gs) (if_pos rfl)
        have eh : upd (fun b => if b = d then none else (del H2 a) b) d (.xd gs) = upd (del H2 a) d (.xd gs) := by
          funext b
          by_cases hb : b = d
          · rw [hb, upd_same, upd_same]
          · rw [upd_ne hb, upd_ne hb, if_neg hb]
        rw [eh] at R4
        exact h1 σ ι1 _ _ _ _ R4 ⟨rfl, .inr ⟨d, gs, rfl, upd_same, g5, Reps.mono le.g g6⟩⟩
/-- C(), a class without any __init__ of its own -/
theorem pmk_own0 {X : Cx} {x : Str} {p pos : Pos} {A : Addr} {bmB : List Value} {B newId initId : String} (F : ExcBaseFacts B newId initId bmB) (q : PySem.W.excIn X.K A bmB newId = true) (gC : X.mg x = some (.ref A)) (kC : PySem.W.keepIn X.K (.ref A) = true) (r : Raises X (.ref A)) (hg : Gl X x)
    (hdb : (x == ("__debug__" : Str)) = false := by decide) : PMk X (.Call (.Name x p) [] [] pos) (fun _ H Q => Q (.ref A) none H) := by
  intro pins s σ H Q I h
  refine wpAny_Call_Name_kw (ld_glob I hg gC (PySem.W.callWith_K0 I.kIn kC ?_) hdb)
  obtain ⟨bm, N, nm, qn, bs, hdct, sn, sub, ab, col, dd, k0, k1, k2, k3, k5, mN, hC, hN, hni, T⟩ := exc_obj I.kIn q
  obtain ⟨hh, g, d, tk, os⟩ := s
  exact wpAny_call_exc_subT F T hC hN hni (fun h' e hm => mk_of I hm r h (I.hok.gone hm.new)) (Nat.zero_le _)
def mRaise0 (c : Nat) : MS := fun sl cs => .exc ⟨c, [], []⟩ sl cs
theorem ws_raise0 {X : Cx} {x : Str} {p pos pos' : Pos} {c : Nat} (q : PySem.W.excIn C.K (C.cl c) PySem.HandSPX.veTail "ValueError.__new__" = true) (kC : PySem.W.keepIn C.K (.ref (C.cl c)) = true) (h1 : PySem.W.subIn C.K (.ref (C.cl c)) (.type "BaseException") = some true) (h2 : PySem.W.typeIn C.K (.ref (C.cl c)) = some (.type "type")) (hm : X.mg x = some (.ref (C.cl c))) (hc : X.calm = true := by rfl) (hg : Gl X x := by rfl)
    (hdb : (x == ("__debug__" : Str)) = false := by decide) : WS C W X (.Raise (some (.Call (.Name x p) [] [] pos)) none pos') (mRaise0 c) := fun hK hT hP => (ps_raise hc hT (pmk_own0 PySem.F.excBase_ValueError (by rw [hK]; exact q) hm (by rw [hK]; exact kC) (raises_own (by rw [hK]; exact h1) (by rw [hK]; exact h2)) hg hdb)).imp fun Dn σ H h => by
  obtain ⟨B, ι, G, sl, cs, R, h⟩ := h
  exact h σ ι G H _ _ R ⟨rfl, .inl ⟨rfl, rfl, rfl⟩⟩
end
end Mi

set_option Elab.async false
set_option linter.all false
set_option maxRecDepth 100000
set_option maxHeartbeats 4000000
/-! try with clauses that may bind a name -/
namespace Mi
open PySem PySem.W PySem.Calls PyProof.Rows L2
/-- a clause: the class, its name's slot, its suite's reading -/
structure Cla where
  c : Value
  i : Option Nat
  t : Addr → Value → Option Addr → TS
def endsI : Option Nat → Ends → Ends
  | none, D => D
  | some i, D => { nx := fun σ H => D.nx (σ.set i none) H, rt := D.rt, bk := fun σ H => D.bk (σ.set i none) H, ct := fun σ H => D.ct (σ.set i none) H }
def setI : Option Nat → Addr → L2.St → L2.St
  | none, _, σ => σ
  | some i, a, σ => σ.set i (some (.ref a))
def wC (K : PySem.W.Frag) (Wout : WX) (D : Ends) : List Cla → WX
  | [] => Wout
  | k :: r => fun cls d σ H => ∃ b, exmOne K cls k.c = some b ∧ (b = true → ∀ a, H a = none → k.t a cls d (endsI k.i D) (setI k.i a σ) H) ∧ (b = false → wC K Wout D r cls d σ H)
def SuOk (X : Cx) (suite : List Stmt) (t : Addr → Value → Option Addr → TS) : Prop :=
  ∀ (a : Addr) (oe : Obj) (cls : Value) (d : Option Addr) (pn : List (Addr × Obj)), Zc cls d oe → (∃ vs, oe.data = .fields vs) → PSs (X.suite a ((a, oe) :: pn)) suite (t a cls d)
inductive ClaOk (X : Cx) : List ExceptHandler → List Cla → Prop
  | nil : ClaOk X [] []
  | plain {x : Str} {c : Value} {t : Addr → Value → Option Addr → TS} {b : Stmt} {suite : List Stmt} {np pos : Pos} {hds : List ExceptHandler} {l : List Cla} (hc : Names X x c) (hs : SuOk X (b :: suite) t) (r : ClaOk X hds l) :
      ClaOk X (.ExceptHandler (some (.Name x np)) none (b :: suite) pos :: hds) (⟨c, none, t⟩ :: l)
  | named {x n : Str} {i : Nat} {c : Value} {t : Addr → Value → Option Addr → TS} {b : Stmt} {suite : List Stmt} {np pos : Pos} {hds : List ExceptHandler} {l : List Cla} (hi : X.N[i]? = some n) (hn : X.env.kindOf n = some .local) (hc : Names X x c) (hs : SuOk X (b :: suite) t) (r : ClaOk X hds l) :
      ClaOk X (.ExceptHandler (some (.Name x np)) (some n) (b :: suite) pos :: hds) (⟨c, some i, t⟩ :: l)
section
variable {X : Cx} {body : List Stmt} {h₀ : ExceptHandler} {hds : List ExceptHandler} {l : List Cla} {pos : Pos} {tb : WX → TS} {Wout : WX}
/-- the exception is in hand: what the clauses do -/
theorem clauses_run (hst : X.stack = X.env :: X.outer) (hfr : X.env.frame = some X.env.locals) (hN : X.N.Nodup) (tk : Takes X Wout) {pins : List (Addr × Obj)} {σ1 : L2.St} {H1 : Hp} {sI s1 : Shared} {a : Addr} {cls : Value} {d : Option Addr} {B : Heap} {h3 : Heap} {D : Ends}
    (J : Inv X pins σ1 H1 sI) (nb : ∀ b o, sI.heap.get? b = some o → b ∉ frs X.stack → B.get? b = some o) (up : sI.heap.UpToSlots h3) (na : H1 a = none) (os : s1.os = sI.os) (ag : AllBare s1.gens)
    (fl : HandSPX.FlyingZ B (X.env :: X.outer) a (Zc cls d) h3) : ∀ {hds : List ExceptHandler} {l : List Cla}, ClaOk X hds l → wC X.K Wout D l cls d σ1 H1 →
      wpAny (model X.prog X.w) X.A (handleBy (.ref a) X.env hds) (SP X pins D) X.xe { s1 with heap := h3 } := by
  have ok := J.ok
  obtain ⟨oe3, vs3, he3, hz3, hd3⟩ := fl.there
  have out : ∀ {h : Heap} {o : Obj} {vs : Array Value}, h.FunFrames B (X.env :: X.outer) → h.get? a = some o → o.data = .fields vs → a ∉ frs (X.env :: X.outer) := fun {h o vs} ff e dd hm => by
    obtain ⟨_, o2, e2, nf⟩ := ff.mem hm
    rw [e] at e2
    cases e2
    exact nf _ dd
  have o0 := out fl.2.2.1 he3 hd3
  have nL : a ≠ X.env.locals := fun z => o0 (List.mem_filterMap.mpr ⟨X.env, List.mem_cons_self, by rw [hfr, z]⟩)
  have nF : a ∉ X.fs := fun hm => by
    obtain ⟨e, he, q⟩ := List.mem_filterMap.mp hm
    exact o0 (List.mem_filterMap.mpr ⟨e, List.mem_cons_of_mem _ he, q⟩)
  have J3 : Inv X pins σ1 H1 { s1 with heap := h3 } := J.landed nb fl.1 up os ag
  have S3 := J3.suite he3 hd3 na nL nF
  have LT : Looks (model X.prog X.w) h3 (typeOf (.ref a)) cls := fun A Q E s k q => wpAny_typeOf_ref (k _ _ he3) (by rw [hz3.1]; exact q)
  have test : ∀ {x : Str} {c : Value} {np : Pos} {Q : Value → Shared → Prop} {E : Value → Shared → Prop}, Names X x c → Q c { s1 with heap := h3 } → wpAny (model X.prog X.w) (X.A.mark (some (.ref a))) (eval (.Name x np) X.env) Q E { s1 with heap := h3 } := fun {x c np Q E} hc q => by
    obtain ⟨hg, hdb, hm | ⟨hm, hv, hnn⟩⟩ := hc
    · exact ld_glob (X := X.suite a ((a, oe3) :: (X.pn ++ pins))) S3 hg hm q hdb
    · exact ld_blt (X := X.suite a ((a, oe3) :: (X.pn ++ pins))) S3 hg hm hv q hnn hdb
  intro hds l hk
  induction hk with
  | nil =>
    intro w
    refine wpAny_handleBy_nil ?_
    obtain ⟨k1, k2, k3, oe, vs, T, oT, ts', he, hz, hd, h1, hr⟩ := id fl
    unfold PySem.passOn
    refine wpAny_bind (wpAny_field he hd h1 ?_)
    have hT : ¬ ((Value.ref T == Value.none) = true) := by simp
    rw [if_neg hT]
    have last : wpAny (model X.prog X.w) X.A (setFlight (.ref a) X.env.frame) (fun _ s4 => wpAny (model X.prog X.w) X.A (throw (.ref a) : Sem Flow) (SP X pins D) X.xe s4) X.xe { s1 with heap := h3 } := by
      rw [hfr]
      exact HandSPX.setFlight_upZ fl fun h4 hh4 up4 => wpAny_throw (tk _ _ ⟨a, B, sI, pins, σ1, H1, cls, d, rfl, J, nb, up.trans up4, .inr (.inr (by rw [hst]; exact hh4)), na, os, ag, w⟩)
    first
      | exact wpAny_bind (wpAny_pure (wpAny_bind last))
      | exact wpAny_bind last
  | @plain x c t b suite np pos hds2 l2 hc hs r ih =>
    intro w
    obtain ⟨v, hb1, hyes, hno⟩ := w
    refine wpAny_handleBy_cons (codeAny_handlers_test (test hc ?_)) (by intro q; cases q)
    refine (exm_one (M := model X.prog X.w) J3.kIn LT hb1).here ?_
    cases v with
    | false => exact ih (hno rfl)
    | true =>
      refine codeAny_handlers_suite (HandSPX.lands_againZ fl fun h4 fl4 up4 => ?_)
      have J4 : Inv X pins σ1 H1 { s1 with heap := h4 } := J.landed nb fl4.1 (up.trans up4) os ag
      obtain ⟨oe4, vs4, he4, hz4, hd4⟩ := fl4.there
      have S4 := J4.suite he4 hd4 na nL nF
      refine wpAny_mono ((hs a oe4 cls d (X.pn ++ pins) hz4 ⟨_, hd4⟩).run [] _ _ H1 _ S4 (hyes rfl a na)) (fun f s6 hsp => ?_) (fun _ _ z => False.elim z)
      cases f with
      | next => exact hsp.elim fun σ6 q => q.elim fun H6 q => ⟨σ6, H6, q.1.unsuite ok, q.2⟩
      | brk => exact hsp.elim fun σ6 q => q.elim fun H6 q => ⟨σ6, H6, q.1.unsuite ok, q.2⟩
      | cont => exact hsp.elim fun σ6 q => q.elim fun H6 q => ⟨σ6, H6, q.1.unsuite ok, q.2⟩
      | ret u => exact hsp.elim fun v6 q => q.elim fun σ6 q => q.elim fun H6 q => ⟨v6, σ6, H6, q.1.unsuite ok, q.2.1, q.2.2⟩
  | @named x n i c t b suite np pos hds2 l2 hi hn hc hs r ih =>
    intro w
    obtain ⟨v, hb1, hyes, hno⟩ := w
    refine wpAny_handleBy_cons (codeAny_handlers_test (test hc ?_)) (by intro q; cases q)
    refine (exm_one (M := model X.prog X.w) J3.kIn LT hb1).here ?_
    cases v with
    | false => exact ih (hno rfl)
    | true =>
      refine codeAny_handlers_suite_as (HandSPX.lands_againZ fl fun h4 fl4 up4 => ?_)
      have J4 : Inv X pins σ1 H1 { s1 with heap := h4 } := J.landed nb fl4.1 (up.trans up4) os ag
      obtain ⟨oe4, vs4, he4, hz4, hd4⟩ := fl4.there
      have S4 := J4.suite he4 hd4 na nL nF
      refine store_ok (X := X.suite a ((a, oe4) :: (X.pn ++ pins))) (v := .ref a) S4 hN hi (.inl hn) rfl (fun s5 S5 => ?_) (.inr hn)
      refine wpAny_mono ((hs a oe4 cls d (X.pn ++ pins) hz4 ⟨_, hd4⟩).run [] s5 _ H1 _ S5 (hyes rfl a na)) (fun f s6 hsp => ?_) (fun _ _ z => False.elim z)
      have end_ : ∀ {σ6 : L2.St} {H6 : Hp} {Q : Shared → Prop}, Inv (X.suite a ((a, oe4) :: (X.pn ++ pins))) [] σ6 H6 s6 → (∀ s7, Inv X pins (σ6.set i none) H6 s7 → Q s7) →
          wpAny (model X.prog X.w) X.A (do bindName X.env n .none; unbindBehindTheSuite X.env n pos) (fun _ s7 => Q s7) X.xe s6 := fun {σ6 H6 Q} S6 hq => gone_ok (S6.unsuite ok) hN hi hn hq
      cases f with
      | next => exact hsp.elim fun σ6 q => q.elim fun H6 q => end_ q.1 fun s7 J7 => ⟨_, _, J7, q.2⟩
      | brk => exact hsp.elim fun σ6 q => q.elim fun H6 q => end_ q.1 fun s7 J7 => ⟨_, _, J7, q.2⟩
      | cont => exact hsp.elim fun σ6 q => q.elim fun H6 q => end_ q.1 fun s7 J7 => ⟨_, _, J7, q.2⟩
      | ret u => exact hsp.elim fun v6 q => q.elim fun σ6 q => q.elim fun H6 q => end_ q.1 fun s7 J7 => ⟨_, _, _, J7, q.2.1, q.2.2⟩
theorem ps_tryC (hst : X.stack = X.env :: X.outer) (hfr : X.env.frame = some X.env.locals) (hN : X.N.Nodup) (tk : Takes X Wout)
    (hb : ∀ (W : WX) (pn : List (Addr × Obj)) (xe : Value → Shared → Prop), Takes (X.tr pn xe) W → PassesOwn (model X.prog X.w) X.A X.env xe → PSs (X.tr pn xe) body (tb W))
    (hh : ClaOk X (h₀ :: hds) l) : PS X (.Try body (h₀ :: hds) [] [] pos) (fun D σ H => tb (wC X.K Wout D l) D σ H) := by
  refine ⟨fun pins s σ H D I h => ?_⟩
  have ok := I.ok
  have hf : X.A.frames = some (X.env :: X.outer) := by rw [ok.frames, hst]
  refine wpAny_Try_except ?_
  refine wpAny_mono ((hb (wC X.K Wout D l) (X.pn ++ pins) (fun e s1 => wpAny (model X.prog X.w) X.A (noteFrame e X.env) (fun _ s2 => wpAny (model X.prog X.w) X.A (setFlight e none) (fun _ s3 =>
    wpAny (model X.prog X.w) X.A (handleBy e X.env (h₀ :: hds)) (SP X pins D) X.xe s3) X.xe s2) X.xe s1) (fun u s1 xx => ?_) PassesOwn.looking).run [] s σ H D (I.toTry _) h) (fun f s1 hsp => ?_) (fun e s1 he => he)
  · obtain ⟨a, B, sI, pins', σ1, H1, cls, d, rfl, J', nb, up, sky, na, os, ag, w⟩ := xx
    have J : Inv X pins σ1 H1 sI := J'.ofTry ok
    have sky' : Sky B (X.env :: X.outer) a (Zc cls d) X.env.locals s1.heap := by rw [← hst]; exact sky
    show wpAny (model X.prog X.w) X.A (noteFrame (.ref a) X.env) _ _ _
    exact Sky.land Zc.steady hf hfr sky' fun h3 fl3 up3 => clauses_run hst hfr hN tk J nb (up.trans up3) na os ag fl3 hh w
  · cases f with
    | next => exact hsp.elim fun σ1 q => q.elim fun H1 q => wpAny_execs_nil ⟨σ1, H1, q.1.ofTry ok, q.2⟩
    | brk => exact hsp.elim fun σ1 q => q.elim fun H1 q => ⟨σ1, H1, q.1.ofTry ok, q.2⟩
    | cont => exact hsp.elim fun σ1 q => q.elim fun H1 q => ⟨σ1, H1, q.1.ofTry ok, q.2⟩
    | ret u => exact hsp.elim fun v q => q.elim fun σ1 q => q.elim fun H1 q => ⟨v, σ1, H1, q.1.ofTry ok, q.2.1, q.2.2⟩
end
end Mi

set_option Elab.async false
set_option linter.all false
set_option maxRecDepth 100000
set_option maxHeartbeats 4000000
/-! try, mirrored; the exception in hand: e.f, isinstance(e, C) -/
namespace Mi
open PySem L2
/-- a clause: the class's number, which classes it takes, its name's slot, its suite -/
structure XCl where
  n : Nat
  t : Nat → Option Bool
  i : Option Nat
  s : Addr → Option Addr → Nat → MS
open Classical in
/-- what hangs neither on the exception's address nor on its dict's -/
noncomputable def alike (f : Addr → Option Addr → Res Fl) : Res Fl := if ∀ a d, f a d = f 0 none then f 0 none else .bad
theorem alike_of {f : Addr → Option Addr → Res Fl} {r : Res Fl} (h : ∀ a d, f a d = r) : alike f = r := by
  unfold alike
  rw [if_pos (fun a d => (h a d).trans (h 0 none).symm), h]
def exSl : Option Nat → Addr → Option Addr → Ex → Sl → Sl
  | none, _, _, _, sl => sl
  | some i, a, d, e, sl => sl.set i (some (.c (.exn a d e.c e.ns e.vs)))
def unI : Option Nat → Res Fl → Res Fl
  | _, .bad => .bad
  | _, .exc _ _ _ => .bad
  | none, r => r
  | some i, .ok (.nx sl) cs => .ok (.nx (sl.set i none)) cs
  | some i, .ok (.bk sl) cs => .ok (.bk (sl.set i none)) cs
  | some i, .ok (.ct sl) cs => .ok (.ct (sl.set i none)) cs
  | some _, .ok (.rt v) cs => .ok (.rt v) cs
noncomputable def catchBy : List XCl → Ex → Sl → Cs → Res Fl
  | [], e, sl, cs => .exc e sl cs
  | k :: r, e, sl, cs => match k.t e.c with
    | some true => alike fun a d => unI k.i (k.s a d e.c (exSl k.i a d e sl) cs)
    | some false => catchBy r e sl cs
    | none => .bad
noncomputable def mTry (body : MS) (cl : List XCl) : MS := fun sl cs => match body sl cs with
  | .exc e sl1 cs1 => catchBy cl e sl1 cs1
  | r => r
section
variable {C : Cn} {W : WX}
/-- a clause's reading -/
def rdC (C : Cn) (k : XCl) : Cla := ⟨.ref (C.cl k.n), k.i, fun a cls d D σ H => ∃ n, cls = .ref (C.cl n) ∧ tS C W0 (k.s a d n) D σ H⟩
def TakesC (C : Cn) (k : XCl) : Prop := ∀ n b, k.t n = some b → PySem.W.exmOne C.K (.ref (C.cl n)) (.ref (C.cl k.n)) = some b
theorem catch_ok {B : Bs} {ι ι' : List Addr} {G G' H' : Hp} {σ' : St} {D : Ends} {e : Ex} {sl : Sl} {cs : Cs} {cls : Value} {d : Option Addr} (R : Rel C B ι' G' H' σ' sl cs) (le : Le ι G ι' G') (x : ExRep C G' cls d H' e) :
    ∀ {cl : List XCl}, (∀ k ∈ cl, TakesC C k) → PostS C W B ι G D (catchBy cl e sl cs) → wC C.K W D (cl.map (rdC C)) cls d σ' H'
  | [], _, h => h σ' ι' G' H' cls d R x
  | k :: r, ht, h => by
    unfold catchBy at h
    have hcls : cls = .ref (C.cl e.c) := x.1
    cases et : k.t e.c with
    | none => rw [et] at h; exact h.elim
    | some b =>
      rw [et] at h
      have hx := ht k (by simp) _ _ et
      cases b with
      | false => exact ⟨false, (by rw [hcls]; exact hx), (fun z => by cases z), fun _ => catch_ok R le x (fun k' hk => ht k' (by simp [hk])) h⟩
      | true =>
        refine ⟨true, (by rw [hcls]; exact hx), fun _ a ha => ?_, (fun z => by cases z)⟩
        simp only at h
        unfold alike at h
        split at h
        · rename_i hal
          rw [← hal a d] at h
          dsimp only at h
          refine ⟨e.c, hcls, B, ι', G', exSl k.i a d e sl, cs, ?_, ?_⟩
          · show Rel C B ι' G' H' (setI k.i a σ') (exSl k.i a d e sl) cs
            cases k.i with
            | none => exact R
            | some i =>
              refine R.setS ((rep_exn (C := C) (c := e.c)).mpr ⟨rfl, ?_⟩)
              rcases x.2 with ⟨h1, h2, h3⟩ | ⟨dd, fs, h1, h2, h3, h4⟩
              · exact .inl ⟨h1, h2, h3⟩
              · exact .inr ⟨dd, fs, h1, h2, h3, h4⟩
          · show PostS C W0 B ι' G' (endsI k.i D) _
            cases er : k.s a d e.c (exSl k.i a d e sl) cs with
            | bad => rw [er] at h; cases hk : k.i <;> rw [hk] at h <;> exact h.elim
            | exc _ _ _ => rw [er] at h; cases hk : k.i <;> rw [hk] at h <;> exact h.elim
            | ok fl cs2 =>
              rw [er] at h
              cases hk : k.i with
              | none =>
                rw [hk] at h
                have h' : PostS C W B ι G D (.ok fl cs2) := by cases fl <;> exact h
                cases fl with
                | nx sl2 => exact fun σ2 ι2 G2 H2 R2 e2 => h' σ2 ι2 G2 H2 R2 (le.trans e2)
                | bk sl2 => exact fun σ2 ι2 G2 H2 R2 e2 => h' σ2 ι2 G2 H2 R2 (le.trans e2)
                | ct sl2 => exact fun σ2 ι2 G2 H2 R2 e2 => h' σ2 ι2 G2 H2 R2 (le.trans e2)
                | rt v => exact fun v2 σ2 sl2 ι2 G2 H2 R2 e2 r2 => h' v2 σ2 sl2 ι2 G2 H2 R2 (le.trans e2) r2
              | some i =>
                rw [hk] at h
                cases fl with
                | nx sl2 => exact fun σ2 ι2 G2 H2 R2 e2 => h _ ι2 G2 H2 R2.unsetS (le.trans e2)
                | bk sl2 => exact fun σ2 ι2 G2 H2 R2 e2 => h _ ι2 G2 H2 R2.unsetS (le.trans e2)
                | ct sl2 => exact fun σ2 ι2 G2 H2 R2 e2 => h _ ι2 G2 H2 R2.unsetS (le.trans e2)
                | rt v => exact fun v2 σ2 sl2 ι2 G2 H2 R2 e2 r2 => h v2 σ2 sl2 ι2 G2 H2 R2 (le.trans e2) r2
        · exact h.elim
/-- the clauses of a try, one by one -/
def SuW (C : Cn) (X : Cx) (suite : List Stmt) (s : Addr → Option Addr → Nat → MS) : Prop :=
  ∀ (a : Addr) (oe : Obj) (d : Option Addr) (pn : List (Addr × Obj)) (n : Nat), Zc (.ref (C.cl n)) d oe → (∃ vs, oe.data = .fields vs) → WSs C W0 (X.suite a ((a, oe) :: pn)) suite (s a d n)
theorem su_ok {X : Cx} {suite : List Stmt} {k : XCl} (hK : X.K = C.K) (h : SuW C X suite k.s) : SuOk X suite (rdC C k).t := fun a oe cls d pn hz hf => ⟨fun pins s σ H D I q => by
  obtain ⟨n, rfl, q⟩ := q
  exact (h a oe d pn n hz hf hK takes_none5 PassesOwn.never).run pins s σ H D I q⟩
inductive HC (C : Cn) (X : Cx) : List ExceptHandler → List XCl → Prop
  | nil : HC C X [] []
  | plain {x : Str} {k : XCl} {b : Stmt} {suite : List Stmt} {np pos : Pos} {hds : List ExceptHandler} {l : List XCl} (hi : k.i = none) (ht : TakesC C k) (hg : Gl X x) (hm : X.mg x = some (.ref (C.cl k.n))) (hs : SuW C X (b :: suite) k.s) (r : HC C X hds l) (hd : (x == ("__debug__" : Str)) = false := by decide) :
      HC C X (.ExceptHandler (some (.Name x np)) none (b :: suite) pos :: hds) (k :: l)
  | named {x n : Str} {i : Nat} {k : XCl} {b : Stmt} {suite : List Stmt} {np pos : Pos} {hds : List ExceptHandler} {l : List XCl} (hi : k.i = some i) (ht : TakesC C k) (hN : X.N[i]? = some n) (hn : X.env.kindOf n = some .local) (hg : Gl X x) (hm : X.mg x = some (.ref (C.cl k.n))) (hs : SuW C X (b :: suite) k.s) (r : HC C X hds l) (hd : (x == ("__debug__" : Str)) = false := by decide) :
      HC C X (.ExceptHandler (some (.Name x np)) (some n) (b :: suite) pos :: hds) (k :: l)
theorem HC.ok {X : Cx} (hK : X.K = C.K) {hds : List ExceptHandler} {l : List XCl} (h : HC C X hds l) : ClaOk X hds (l.map (rdC C)) := by
  induction h with
  | nil => exact .nil
  | @plain x k b suite np pos hds l hi ht hg hm hs r hd ih =>
    have q := ClaOk.plain (np := np) (pos := pos) (c := .ref (C.cl k.n)) (t := (rdC C k).t) ⟨hg, hd, .inl hm⟩ (su_ok hK hs) ih
    have e : (rdC C k) = ⟨.ref (C.cl k.n), none, (rdC C k).t⟩ := by unfold rdC; rw [hi]
    rw [List.map_cons, e]
    exact q
  | @named x n i k b suite np pos hds l hi ht hN hn hg hm hs r hd ih =>
    have q := ClaOk.named (np := np) (pos := pos) (c := .ref (C.cl k.n)) (t := (rdC C k).t) hN hn ⟨hg, hd, .inl hm⟩ (su_ok hK hs) ih
    have e : (rdC C k) = ⟨.ref (C.cl k.n), some i, (rdC C k).t⟩ := by unfold rdC; rw [hi]
    rw [List.map_cons, e]
    exact q
theorem HC.takes {X : Cx} {hds : List ExceptHandler} {l : List XCl} (h : HC C X hds l) : ∀ k ∈ l, TakesC C k := by
  induction h with
  | nil => intro k hk; cases hk
  | plain hi ht hg hm hs r hd ih =>
    intro k hk
    rcases List.mem_cons.mp hk with rfl | hk
    · exact ht
    · exact ih k hk
  | named hi ht hN hn hg hm hs r hd ih =>
    intro k hk
    rcases List.mem_cons.mp hk with rfl | hk
    · exact ht
    · exact ih k hk
theorem ws_try {X : Cx} {body : List Stmt} {h₀ : ExceptHandler} {hds : List ExceptHandler} {pos : Pos} {mb : MS} {cl : List XCl} (hN : X.N.Nodup)
    (hb : ∀ (W : WX) (pn : List (Addr × Obj)) (xe : Value → Shared → Prop), WSs C W (X.tr pn xe) body mb) (hh : HC C X (h₀ :: hds) cl) (hst : X.stack = X.env :: X.outer := by rfl) (hfr : X.env.frame = some X.env.locals := by rfl) :
    WS C W X (.Try body (h₀ :: hds) [] [] pos) (mTry mb cl) := fun hK hT hP => (ps_tryC (tb := fun W => tS C W mb) hst hfr hN hT (fun W pn xe t p => hb W pn xe hK t p) (hh.ok hK)).imp fun D σ H h => by
  obtain ⟨B, ι, G, sl, cs, R, h⟩ := h
  have R' : Rel C ⟨B.H, B.G, ι, G⟩ ι G H σ sl cs := ⟨R.hG, R.h0, R.g0, R.fr, R.th, R.nd, R.cl, R.cr, R.len, R.slt, .refl⟩
  have back : ∀ {ι' : List Addr} {G' H' : Hp} {σ' : St} {sl' : Sl} {cs' : Cs}, Rel C ⟨B.H, B.G, ι, G⟩ ι' G' H' σ' sl' cs' → Rel C B ι' G' H' σ' sl' cs' := fun Q => ⟨Q.hG, Q.h0, Q.g0, Q.fr, Q.th, Q.nd, Q.cl, Q.cr, Q.len, Q.slt, R.tb.trans Q.tb⟩
  refine ⟨⟨B.H, B.G, ι, G⟩, ι, G, sl, cs, R', ?_⟩
  unfold mTry at h
  cases eb : mb sl cs with
  | bad => rw [eb] at h; exact h.elim
  | exc e sl1 cs1 =>
    rw [eb] at h
    rw [hK]
    exact fun σ1 ι1 G1 H1 cls d R1 x => catch_ok (back R1) R1.tb x hh.takes h
  | ok fl cs1 =>
    rw [eb] at h
    cases fl with
    | nx sl2 => exact fun σ2 ι2 G2 H2 R2 e2 => h σ2 ι2 G2 H2 (back R2) e2
    | bk sl2 => exact fun σ2 ι2 G2 H2 R2 e2 => h σ2 ι2 G2 H2 (back R2) e2
    | ct sl2 => exact fun σ2 ι2 G2 H2 R2 e2 => h σ2 ι2 G2 H2 (back R2) e2
    | rt v => exact fun v2 σ2 sl2 ι2 G2 H2 R2 e2 r2 => h v2 σ2 sl2 ι2 G2 H2 (back R2) e2 r2
/-! ### e.f, isinstance(e, C) -/
def mXf (xk : Nat → Str → Bool) (a : Addr) (d : Option Addr) (n : Nat) (f : Str) (me : ME) : ME := fun sl cs => if xk n f = true then (me sl cs).bind fun l cs1 => match l with
  | .c (.exn a' d' _ ns vs) => if a' = a ∧ d' = d then (match lookD ns vs f with
    | some x => .ok (.c x) cs1
    | none => .bad) else .bad
  | _ => .bad
  else .bad
/-- what is written of the classes' fields -/
def XkOk (C : Cn) (xk : Nat → Str → Bool) : Prop := ∀ n f, xk n f = true → XfC C.K (C.cl n) ∧ PySem.W.findIn C.K (.ref (C.cl n)) f = some none
theorem we_exf {X : Cx} {e : Expr} {f : Str} {pos : Pos} {me : ME} {xk : Nat → Str → Bool} {a : Addr} {oe : Obj} {d : Option Addr} {pn : List (Addr × Obj)} {n : Nat} (hx : XkOk C xk) (hz : Zc (.ref (C.cl n)) d oe) (hf : ∃ vs, oe.data = .fields vs) (he : WE C W (X.suite a ((a, oe) :: pn)) e me)
    (hb : attributeBase e f (X.suite a ((a, oe) :: pn)).env (eval e (X.suite a ((a, oe) :: pn)).env) = eval e (X.suite a ((a, oe) :: pn)).env := by rfl) : WE C W (X.suite a ((a, oe) :: pn)) (.Attribute e f pos) (mXf xk a d n f me) := fun hK hT => by
  have hK' : X.K = C.K := hK
  by_cases hk : xk n f = true
  · obtain ⟨h1, h2⟩ := hx n f hk
    refine (pe_xf (X := X) (by rw [hK']; exact h1) (by rw [hK']; exact h2) hz hf (he hK hT) hb).imp fun σ H Q h => ?_
    obtain ⟨B, ι, G, sl, cs, R, h⟩ := h
    unfold mXf at h
    rw [if_pos hk] at h
    refine ⟨B, ι, G, sl, cs, R, (Post.bind h).mono fun l cs1 q v ι1 G1 H1 R1 e1 r1 => ?_⟩
    split at q
    · rename_i a' d' c' ns vs
      split at q
      · rename_i hc
        obtain ⟨rfl, rfl⟩ := hc
        obtain ⟨rfl, r2⟩ := repL_exn r1
        cases el : lookD ns vs f with
        | none => rw [el] at q; exact q.elim
        | some x =>
          rw [el] at q
          rcases r2 with ⟨rfl, rfl, _⟩ | ⟨dd, fs, hd, hg, hn, hr⟩
          · simp [lookD] at el
          · rw [← hn] at el
            obtain ⟨v, hv, rv⟩ := lookD_ok hr el
            exact ⟨rfl, rfl, dd, fs, v, hd, R1.hG _ _ hg, hv, q v ι1 G1 H1 R1 e1 rv⟩
      · exact q.elim
    · exact q.elim
  · refine ⟨fun pins s σ H Q I h => ?_⟩
    obtain ⟨B, ι, G, sl, cs, R, h⟩ := h
    unfold mXf at h
    rw [if_neg hk] at h
    exact h.elim
/-- isinstance(e, c), e in hand -/
def cXi (xi : Nat → TN → Option Bool) (a : Addr) (d : Option Addr) (n : Nat) : List Lv → Cs → Option (Lv × Cs)
  | [.c (.exn a' d' _ _ _), .c u], cs => if a' = a ∧ d' = d then (clsOf u).bind fun t => (xi n t).map fun b => (.c (.bl b), cs) else none
  | _, _ => none
def XiOk (C : Cn) (xi : Nat → TN → Option Bool) : Prop := ∀ n t b, xi n t = some b → ExcC C.K (C.cl n) ∧ PySem.W.kitOne C.K (.ref (C.cl n)) (tv C t) = some b
def rXi (K : PySem.W.Frag) (D a : Addr) (d : Option Addr) : List V → Hp → VK → Prop := fun xs H Q => ∃ (c : V) (cv : Value) (b : Bool), xs = [.ref a, c] ∧ ExcC K D ∧ (d = none ∨ ∃ dd fs, d = some dd ∧ H dd = some (.xd fs)) ∧ (∀ u, RelV c u → u = cv) ∧ PySem.W.kitOne K (.ref D) cv = some b ∧ Q (.bl b) H
theorem call_xi {X : Cx} {a D : Addr} {oe : Obj} {d : Option Addr} {pn : List (Addr × Obj)} (hz : Zc (.ref D) d oe) (hf : ∃ vs, oe.data = .fields vs) : CallR (X.suite a ((a, oe) :: pn)) (.builtin "isinstance") (rXi X.K D a d) := by
  intro pins s σ H xs us Q I r h
  obtain ⟨c, cv, b, rfl, E, hd, hcv, e, q⟩ := h
  cases r with
  | cons rx rr =>
    cases rr with
    | cons rt rr =>
      cases rr
      cases rx
      have ec := hcv _ rt
      subst ec
      obtain ⟨hget, _⟩ := I.pin (a, oe) (List.mem_append.mpr (.inl List.mem_cons_self))
      obtain ⟨vs, hv⟩ := hf
      obtain ⟨od, J⟩ : ∃ od, PySem.W.InstAt s.heap a oe D od := by
        rcases hd with rfl | ⟨dd, fs, rfl, hdd⟩
        · exact ⟨none, hget, hz.1, by unfold PySem.W.notCls; rw [hv] <;> rfl, by rw [hz.2]; exact trivial⟩
        · have hx : ObjOk X.prog X.w H s.heap dd (.xd fs) := I.hok dd _ hdd
          obtain ⟨mA, hns, hr⟩ := hx
          obtain ⟨od, ho, hl⟩ := lookIn_ns hns
          exact ⟨some od, hget, hz.1, by unfold PySem.W.notCls; rw [hv] <;> rfl, by rw [hz.2]; exact ho⟩
      have hcl : (PySem.W.clsIn X.K D).isSome = true := by
        have z := E.hd
        unfold PySem.W.hasDictIn at z
        cases q' : PySem.W.clsIn X.K D with
        | none => rw [q'] at z; cases z
        | some _ => rfl
      exact PySem.W.kia_one (PySem.W.kitx_exc hcl E.hg E.hk E.hs E.ha E.hn E.ht E.hm) I.kIn J e (fun z => nomatch z) fun tk => ⟨.bl b, H, I.kept (t' := tk) fun _ _ z => z, rfl, q⟩
theorem on_xi {xi : Nat → TN → Option Bool} {a : Addr} {d : Option Addr} {n : Nat} (h : XiOk C xi) : ON C (cXi xi a d n) (rXi C.K (C.cl n) a d) := by
  intro B ι G H σ sl cs cs' xs ls l Q R r e k
  unfold cXi at e
  split at e
  · rename_i cs0 a' d' c' ns vs u
    split at e
    · rename_i hc
      obtain ⟨rfl, rfl⟩ := hc
      cases ec : clsOf u with
      | none => rw [ec] at e; cases e
      | some t =>
        cases ex : xi n t with
        | none => rw [ec] at e; simp [ex] at e
        | some b =>
          rw [ec] at e
          simp only [Option.bind_some, ex, Option.map_some, Option.some.injEq, Prod.mk.injEq] at e
          obtain ⟨rfl, rfl⟩ := e
          obtain ⟨v, w, rfl, r1, r2⟩ := two_args r
          obtain ⟨rfl, q⟩ := repL_exn r1
          obtain ⟨h1, h2⟩ := h n t b ex
          have hcl := clsOf_ok (C := C) (show Rep C G w u from r2) ec
          refine ⟨w, tv C t, b, rfl, h1, ?_, ?_, h2, k _ _ _ _ R .refl mk_bl⟩
          · rcases q with ⟨_, _, q⟩ | ⟨dd, fs, q1, q2, _⟩
            · exact .inl q
            · exact .inr ⟨dd, fs, q1, R.hG _ _ q2⟩
          · exact fun u' ru => hcl.eq ru
    · cases e
  · cases e
theorem we_xi {X : Cx} {p pos : Pos} {e f : Expr} {ma : MA} {xi : Nat → TN → Option Bool} {a : Addr} {oe : Obj} {d : Option Addr} {pn : List (Addr × Obj)} {n : Nat} (h : XiOk C xi) (hz : Zc (.ref (C.cl n)) d oe) (hf : ∃ vs, oe.data = .fields vs) (hm : X.mg "isinstance" = none) (ha : WA C W (X.suite a ((a, oe) :: pn)) [e, f] ma)
    (hg : Gl (X.suite a ((a, oe) :: pn)) "isinstance" := by rfl) (he : starEach (e :: [f]) (X.suite a ((a, oe) :: pn)).env = (false, eval e (X.suite a ((a, oe) :: pn)).env) :: starEach [f] (X.suite a ((a, oe) :: pn)).env := by rfl) (hpl : (backTo pos (starEach [f] (X.suite a ((a, oe) :: pn)).env)).any (·.1) = false := by rfl) :
    WE C W (X.suite a ((a, oe) :: pn)) (.Call (.Name "isinstance" p) [e, f] [] pos) (mOpN (cXi xi a d n) ma) :=
  we_callB (X := X.suite a ((a, oe) :: pn)) (fun hK => by
    have hK' : X.K = C.K := hK
    rw [← hK']
    exact call_xi hz hf) (on_xi h) hg hm PyProof.Rows.boot_isinstance ha (he := he) (hpl := hpl)
end
/-! ### tables of facts, printed -/
def AllP {α : Type} (P : α → Prop) : List α → Prop
  | [] => True
  | x :: r => P x ∧ AllP P r
theorem AllP.mem {α : Type} {P : α → Prop} {x : α} : ∀ {l : List α}, AllP P l → x ∈ l → P x
  | _ :: _, h, hm => by
    rcases List.mem_cons.mp hm with rfl | hm
    · exact h.1
    · exact AllP.mem h.2 hm
def lookX {α β : Type} [DecidableEq α] (a : α) : List (α × β) → Option β
  | [] => none
  | (x, y) :: r => if a = x then some y else lookX a r
def tabX (l : List ((Nat × Nat) × Bool)) (m n : Nat) : Option Bool := lookX (n, m) l
def tabI (l : List ((Nat × TN) × Bool)) (n : Nat) (t : TN) : Option Bool := lookX (n, t) l
def tabK (l : List (Nat × Str)) (n : Nat) (f : Str) : Bool := decide ((n, f) ∈ l)
theorem look_mem {α β : Type} [DecidableEq α] {a : α} {b : β} : ∀ {l : List (α × β)}, lookX a l = some b → (a, b) ∈ l
  | [], h => by cases h
  | (x, y) :: r, h => by
    unfold lookX at h
    split at h
    · rename_i e
      cases h
      rw [e]
      simp
    · exact List.mem_cons_of_mem _ (look_mem h)
theorem tabX_ok {C : Cn} {l : List ((Nat × Nat) × Bool)} (h : AllP (fun p => PySem.W.exmOne C.K (.ref (C.cl p.1.1)) (.ref (C.cl p.1.2)) = some p.2) l) {m : Nat} {i : Option Nat} {s : Addr → Option Addr → Nat → MS} : TakesC C ⟨m, tabX l m, i, s⟩ := fun n b e => h.mem (look_mem (show lookX _ l = some b from e))
theorem tabI_ok {C : Cn} {l : List ((Nat × TN) × Bool)} (h : AllP (fun p => ExcC C.K (C.cl p.1.1) ∧ PySem.W.kitOne C.K (.ref (C.cl p.1.1)) (tv C p.1.2) = some p.2) l) : XiOk C (tabI l) := fun n t b e => h.mem (look_mem (show lookX _ l = some b from e))
theorem tabK_ok {C : Cn} {l : List (Nat × Str)} (h : AllP (fun p => XfC C.K (C.cl p.1) ∧ PySem.W.findIn C.K (.ref (C.cl p.1)) p.2 = some none) l) : XkOk C (tabK l) := fun n f e => h.mem (of_decide_eq_true e)
end Mi

set_option Elab.async false
set_option linter.all false
set_option maxRecDepth 100000
set_option maxHeartbeats 4000000
/-! texts: join, str(i) -/
namespace Mi
open PySem L2
section
variable {C : Cn} {W : WX}
def strsV : List Lv → Option (List Str)
  | [] => some []
  | .c (.str i) :: ls => (strsV ls).map (i :: ·)
  | _ => none
theorem strsV_ok {ι : List Addr} {G : Hp} : ∀ {ls : List Lv} {vs : List V} {ns : List Str}, RepLs C ι G vs ls → strsV ls = some ns → vs = ns.map V.str
  | [], vs, ns, r, h => by
    simp [strsV] at h; subst h
    exact r
  | l :: ls, vs, ns, ⟨v, r, h1, h2, h3⟩, h => by
    unfold strsV at h
    split at h
    · cases h
      rename_i e; cases e
    · rename_i i ls' e
      cases e
      cases e : strsV ls with
      | none => rw [e] at h; simp at h
      | some es =>
        rw [e] at h
        simp at h; subst h
        subst h1
        rw [repL_str h2, strsV_ok h3 e]; rfl
    · cases h
def joinF (a : Str) : List Lv → Cs → Option (Lv × Cs)
  | [l], cs => (view cs l).bind fun ls => (strsV ls).bind fun ys => if (ys.map (·.length)).sum + ys.length * a.length ≤ 16777216 then some (.c (.str (Txt.join a ys)), cs) else none
  | _, _ => none
def mJoin (mo : ME) (ma : MA) : ME := fun sl cs => (mo sl cs).bind fun o cs1 => match o with
  | .c (.str a) => (ma sl cs1).bind fun ls cs2 => up (joinF a ls cs2)
  | _ => .bad
theorem we_join {X : Cx} {o e : Expr} {apos cpos : Pos} {mo : ME} {ma : MA} (ho : WE C W X o mo) (ha : WA C W X [e] ma)
    (h : ∀ {to : TE} {t : TA} {r : V → List V → Hp → VK → Prop}, MtR X "str.join" r → PE X o to → PA X [e] t → PE X (.Call (.Attribute o "join" apos) [e] [] cpos) (tBM X.K "str" r to t) := by
      intro to t r h0 h1 h2; exact pe_bm PySem.F.plainAttrs_str PySem.F.slot_str_join PySem.F.type_str_join h0 h1 h2) : WE C W X (.Call (.Attribute o "join" apos) [e] [] cpos) (mJoin mo ma) := fun hK hT => (h mt_join (ho hK hT) (ha hK hT)).imp fun σ H Q h => by
  obtain ⟨B, ι, G, sl, cs, R, h⟩ := h
  refine ⟨B, ι, G, sl, cs, R, (Post.bind h).mono fun o cs1 h1 v ι1 G1 H1 R1 e1 r1 => ?_⟩
  split at h1
  · rename_i a
    cases repL_str r1
    refine ⟨rfl, B, ι1, G1, sl, cs1, R1, (Post.bind h1).mono fun ls cs2 h2 vs ι2 G2 H2 R2 e2 r2 => ?_⟩
    obtain ⟨l3, cs3, em, hq⟩ := Post.up h2
    unfold joinF at em
    split at em
    · rename_i l
      obtain ⟨v, rfl, rl⟩ := one_arg r2
      cases ev : view cs2 l with
      | none => rw [ev] at em; simp at em
      | some ls2 =>
        cases ei : strsV ls2 with
        | none => rw [ev] at em; simp [ei] at em
        | some ys =>
          rw [ev] at em
          simp only [Option.bind_some, ei] at em
          split at em
          · rename_i hz
            simp only [Option.some.injEq, Prod.mk.injEq] at em
            obtain ⟨rfl, rfl⟩ := em
            obtain ⟨p, ws, rfl, hs, hr⟩ := view_ok R2 rl ev
            have := strsV_ok hr ei
            subst this
            exact ⟨a, p, ys, rfl, rfl, by rw [hK]; exact hs.or, hz, hq _ _ _ _ R2 (e1.trans e2) mk_str⟩
          · cases em
    · cases em
  · exact h1.elim
def cStr : List Lv → Cs → Option (Lv × Cs)
  | [.c (.int i)], cs => if i.natAbs.log2 < 1920 then some (.c (.str (toString i)), cs) else none
  | _, _ => none
theorem on_str : ON C cStr (fun xs H Q => ∃ i, xs = [.int i] ∧ i.natAbs.log2 < 1920 ∧ Q (.str (toString i)) H) := by
  intro B ι G H σ sl cs cs' xs ls l Q R r e k
  unfold cStr at e
  split at e
  · split at e
    · rename_i hz
      cases e
      obtain ⟨v, rfl, r1⟩ := one_arg r
      exact ⟨_, by rw [repL_int r1], hz, k _ _ _ _ R .refl mk_str⟩
    · cases e
  · cases e
theorem we_strI {X : Cx} {p pos : Pos} {e : Expr} {ma : MA} (hm : X.mg "str" = none) (ha : WA C W X [e] ma) (hg : Gl X "str" := by rfl) (he : starEach (e :: []) X.env = (false, eval e X.env) :: starEach [] X.env := by rfl) (hpl : (backTo pos (starEach [] X.env)).any (·.1) = false := by rfl) : WE C W X (.Call (.Name "str" p) [e] [] pos) (mOpN cStr ma) :=
  we_callTy (fun _ => call_str_int) on_str hg hm PyProof.Rows.boot_str ha (he := he) (hpl := hpl)
end
theorem cls_some {K : PySem.W.Frag} {A : Addr} (h : PySem.W.hasDictIn K A = true) : (PySem.W.clsIn K A).isSome = true := by
  unfold PySem.W.hasDictIn at h
  cases q : PySem.W.clsIn K A with
  | none => rw [q] at h; cases h
  | some _ => rfl
end Mi

set_option Elab.async false
set_option linter.all false
set_option maxRecDepth 100000
set_option maxHeartbeats 4000000
namespace Mi
open PySem L2
/-! ### statements, one by one -/
theorem wp_asg {me : ME} {k : Nat} {b : MS} {sl sl2 : Sl} {cs : Cs} {P : Fl → Cs → Prop} (l : Lv) (h : me sl cs = .ok l cs) (hs : sl.set k (some l) = sl2) (q : Wp (b sl2 cs) P) : Wp (mSeq (mAsg me (gN k)) b sl cs) P := by
  subst hs
  rw [wp_seq, mAsg_ap, h]
  exact .mk q
theorem wp_asg' {me : ME} {k : Nat} {b : MS} {sl sl2 : Sl} {cs cs2 : Cs} {P : Fl → Cs → Prop} (l : Lv) (h : me sl cs = .ok l cs2) (hs : sl.set k (some l) = sl2) (q : Wp (b sl2 cs2) P) : Wp (mSeq (mAsg me (gN k)) b sl cs) P := by
  subst hs
  rw [wp_seq, mAsg_ap, h]
  exact .mk q
theorem wp_no {t : MT} {a b : MS} {sl : Sl} {cs : Cs} {P : Fl → Cs → Prop} (h : t sl cs = .ok false cs) (q : Wp (b sl cs) P) : Wp (mSeq (mIf t a mPass) b sl cs) P := by
  rw [wp_seq, mIf_ap, h]
  exact .mk q
theorem wp_stop {t : MT} {a b c : MS} {sl : Sl} {cs : Cs} {P : Fl → Cs → Prop} (h : t sl cs = .ok true cs) (q : Wp (a sl cs) fun fl cs => match fl with
  | .nx sl => Wp (b sl cs) P
  | fl => P fl cs) : Wp (mSeq (mIf t a c) b sl cs) P := by
  rw [wp_seq, mIf_ap, h]
  exact q
theorem wp_ret {me : ME} {sl : Sl} {cs cs2 : Cs} {P : Fl → Cs → Prop} (l : Lv) (h : me sl cs = .ok l cs2) (q : P (.rt l) cs2) : Wp (mRet me sl cs) P := by
  rw [mRet_ap, h]
  exact .mk q
theorem nor_ok {a b : MT} {sl : Sl} {cs : Cs} (h1 : a sl cs = .ok false cs) (h2 : b sl cs = .ok false cs) : mOr a b sl cs = .ok false cs := by
  rw [mOr_ap, h1]
  exact h2
theorem wp_no' {t : MT} {a b : MS} {sl : Sl} {cs cs2 : Cs} {P : Fl → Cs → Prop} (h : t sl cs = .ok false cs2) (q : Wp (b sl cs2) P) : Wp (mSeq (mIf t a mPass) b sl cs) P := by
  rw [wp_seq, mIf_ap, h]
  exact .mk q
theorem nor_ok' {a b : MT} {sl : Sl} {cs cs2 cs3 : Cs} (h1 : a sl cs = .ok false cs2) (h2 : b sl cs2 = .ok false cs3) : mOr a b sl cs = .ok false cs3 := by
  rw [mOr_ap, h1]
  exact h2
theorem eqD {d : Dt} {cs : Cs} (h : pln 60 d = true) : opEq true (.c d) (.c d) cs = some (.c (.bl false), cs) := by
  rw [opEq_pln h h]
  simp
theorem opAdd_str {x y : Str} {cs : Cs} (h : x.length + y.length ≤ 16777216) : opAdd (.c (.str x)) (.c (.str y)) cs = some (.c (.str (x ++ y)), cs) := by
  have h' : x.length + y.length ≤ sizeLine := by rw [szl]; exact h
  have e1 : opAdd (.c (.str x)) (.c (.str y)) cs = (if x.length + y.length ≤ sizeLine then some (Lv.c (.str (x ++ y)), cs) else none).orElse fun _ => opCatT (.c (.str x)) (.c (.str y)) cs := rfl
  rw [e1, if_pos h']
  rfl
theorem str_len (z : Str) : z.length = z.cps.toList.length := by
  show z.cps.size = _
  simp
theorem app_len (x y : Str) : (x ++ y).length = x.length + y.length := by
  show (x.cps ++ y.cps).size = _
  simp [Str.length]
theorem strI {i : Int} (h : i.natAbs.log2 < 100) : ∃ z : Str, (∀ cs, cStr [.c (.int i)] cs = some (.c (.str z), cs)) ∧ z.length ≤ 101 := by
  refine ⟨Str.ofString (toString i), fun cs => ?_, ?_⟩
  · have h2 : i.natAbs.log2 < 1920 := by omega
    have e : cStr [.c (.int i)] cs = if i.natAbs.log2 < 1920 then some (.c (.str (Str.ofString (toString i))), cs) else none := rfl
    rw [e, if_pos h2]
  · rw [ofString_length]
    exact int_text_length_le (by decide) h
theorem runF_exc {n k : Nat} {body : MS} {ds : List Dt} {e : Ex} {sl : Sl} {cs : Cs} (hl : ds.length = n) (h : body (ds.map (fun d => some (.c d)) ++ List.replicate k none) [] = .exc e sl cs) : runF n k body ds = .exc e := by
  unfold runF
  rw [if_pos hl, h]
theorem mSeq_ap {a b : MS} {sl : Sl} {cs : Cs} : mSeq a b sl cs = (a sl cs).then b := rfl
theorem then_nx {f : Sl → Cs → Res Fl} {sl : Sl} {cs : Cs} : (Res.ok (.nx sl) cs).then f = f sl cs := rfl
theorem then_rt {f : Sl → Cs → Res Fl} {v : Lv} {cs : Cs} : (Res.ok (.rt v) cs).then f = .ok (.rt v) cs := rfl
theorem then_exc {f : Sl → Cs → Res Fl} {e : Ex} {sl : Sl} {cs : Cs} : (Res.exc e sl cs).then f = .exc e sl cs := rfl
theorem outR_exc {e : Ex} {sl : Sl} {cs : Cs} : outR (.exc e) sl cs = .exc e sl cs := rfl
theorem mDrop_exc {f : List Dt → Out} {ma : MA} {sl : Sl} {cs : Cs} {ds : List Dt} {e : Ex} (ha : ma sl cs = .ok (ds.map .c) cs) (hf : f ds = .exc e) : mDrop (mCall f ma) sl cs = .exc e sl cs := by
  unfold mDrop mCall
  rw [ha]
  simp only [Res.bind_ok, fzA_c, hf, outR_exc, Res.bind_exc]
theorem mTry_exc {b : MS} {cl : List XCl} {sl sl1 : Sl} {cs cs1 : Cs} {e : Ex} (h : b sl cs = .exc e sl1 cs1) : mTry b cl sl cs = catchBy cl e sl1 cs1 := by
  unfold mTry
  rw [h]
theorem catch_t {k : XCl} {r : List XCl} {e : Ex} {sl : Sl} {cs : Cs} {x : Res Fl} (h : k.t e.c = some true) (q : ∀ a d, unI k.i (k.s a d e.c (exSl k.i a d e sl) cs) = x) : catchBy (k :: r) e sl cs = x := by
  rw [catchBy, h]
  exact alike_of q
theorem catch_f {k : XCl} {r : List XCl} {e : Ex} {sl : Sl} {cs : Cs} (h : k.t e.c = some false) : catchBy (k :: r) e sl cs = catchBy r e sl cs := by
  rw [catchBy, h]
theorem cXi_ap {xi : Nat → TN → Option Bool} {a : Addr} {d : Option Addr} {n c : Nat} {ns : List Str} {vs : List Dt} {u : Dt} {t : TN} {b : Bool} {cs : Cs} (h1 : clsOf u = some t) (h2 : xi n t = some b) : cXi xi a d n [.c (.exn a d c ns vs), .c u] cs = some (.c (.bl b), cs) := by
  simp [cXi, h1, h2]
end Mi

set_option Elab.async false
set_option linter.all false
set_option maxRecDepth 100000
set_option maxHeartbeats 4000000
/-! slices -/
namespace Mi
open PySem L2
def cutL {α : Type} (xs : List α) (lo hi : Option Int) : List α := (xs.drop (HT.sIx xs.length 0 lo)).take (HT.sIx xs.length xs.length hi - HT.sIx xs.length 0 lo)
abbrev MO := Sl → Cs → Res (Option Int)
def mNoP : MO := fun _ cs => .ok none cs
def mPart (me : ME) : MO := fun sl cs => (me sl cs).bind fun l cs1 => match l with
  | .c (.int i) => .ok (some i) cs1
  | _ => .bad
section
variable {C : Cn} {W : WX}
theorem Reps.len {G : Hp} : ∀ {vs : List V} {ds : List Dt}, Reps C G vs ds → vs.length = ds.length
  | vs, [], h => by unfold Reps at h; rw [h]; rfl
  | vs, d :: ds, h => by
    have h' := repLs_c (ι := []) h
    have := h'.length
    simpa using this
theorem Reps.dropK {G : Hp} : ∀ (k : Nat) {vs : List V} {ds : List Dt}, Reps C G vs ds → Reps C G (vs.drop k) (ds.drop k)
  | 0, vs, ds, h => h
  | k + 1, vs, [], h => by
    unfold Reps at h; rw [h]
    simp [Reps]
  | k + 1, vs, d :: ds, h => by
    obtain ⟨v, r, rfl, h2, h3⟩ := h
    exact Reps.dropK k h3
theorem Reps.takeK {G : Hp} : ∀ (k : Nat) {vs : List V} {ds : List Dt}, Reps C G vs ds → Reps C G (vs.take k) (ds.take k)
  | 0, vs, ds, h => by simp [Reps]
  | k + 1, vs, [], h => by
    unfold Reps at h; rw [h]
    simp [Reps]
  | k + 1, vs, d :: ds, h => by
    obtain ⟨v, r, rfl, h2, h3⟩ := h
    exact ⟨v, _, rfl, h2, Reps.takeK k h3⟩
theorem Reps.cut {G : Hp} {vs : List V} {ds : List Dt} {lo hi : Option Int} (h : Reps C G vs ds) : Reps C G (cutV vs lo hi) (cutL ds lo hi) := by
  unfold cutV cutL
  rw [h.len]
  exact (h.dropK _).takeK _
theorem RepLs.dropK {ι : List Addr} {G : Hp} : ∀ (k : Nat) {vs : List V} {ds : List Lv}, RepLs C ι G vs ds → RepLs C ι G (vs.drop k) (ds.drop k)
  | 0, vs, ds, h => h
  | k + 1, vs, [], h => by
    unfold RepLs at h; rw [h]
    simp [RepLs]
  | k + 1, vs, d :: ds, h => by
    obtain ⟨v, r, rfl, h2, h3⟩ := h
    exact RepLs.dropK k h3
theorem RepLs.takeK {ι : List Addr} {G : Hp} : ∀ (k : Nat) {vs : List V} {ds : List Lv}, RepLs C ι G vs ds → RepLs C ι G (vs.take k) (ds.take k)
  | 0, vs, ds, h => by simp [RepLs]
  | k + 1, vs, [], h => by
    unfold RepLs at h; rw [h]
    simp [RepLs]
  | k + 1, vs, d :: ds, h => by
    obtain ⟨v, r, rfl, h2, h3⟩ := h
    exact ⟨v, _, rfl, h2, RepLs.takeK k h3⟩
theorem RepLs.cut {ι : List Addr} {G : Hp} {vs : List V} {ds : List Lv} {lo hi : Option Int} (h : RepLs C ι G vs ds) : RepLs C ι G (cutV vs lo hi) (cutL ds lo hi) := by
  unfold cutV cutL
  rw [h.length]
  exact (h.dropK _).takeK _
theorem cut_all {α : Type} {xs : List α} {lo hi : Option Int} (h : HT.sIx xs.length 0 lo = 0 ∧ HT.sIx xs.length xs.length hi = xs.length) : cutL xs lo hi = xs := by
  unfold cutL
  rw [h.1, h.2]
  simp
def tO (mo : MO) : TO := fun σ H Q => ∃ B ι G sl cs, Rel C B ι G H σ sl cs ∧ Post C W B σ (mo sl cs) fun o cs' => ∀ ι' G' H', Rel C B ι' G' H' σ sl cs' → Le ι G ι' G' → Q o H'
def WO (X : Cx) (o : Option Expr) (mo : MO) : Prop := X.K = C.K → Takes X W → ∃ t, PO X o t ∧ ∀ σ H Q, tO (C := C) (W := W) mo σ H Q → t σ H Q
theorem wo_no {X : Cx} : WO (C := C) (W := W) X none mNoP := fun _ _ => ⟨_, po_none, fun σ H Q h => by
  obtain ⟨B, ι, G, sl, cs, R, h⟩ := h
  exact h ι G H R .refl⟩
theorem wo_so {X : Cx} {e : Expr} {me : ME} (h : WE C W X e me) : WO (C := C) (W := W) X (some e) (mPart me) := fun hK hT => ⟨_, po_some (h hK hT), fun σ H Q h => by
  obtain ⟨B, ι, G, sl, cs, R, h⟩ := h
  refine ⟨B, ι, G, sl, cs, R, (Post.bind h).mono fun l cs1 h1 v ι1 G1 H1 R1 e1 r1 => ?_⟩
  split at h1
  · rename_i i
    exact ⟨i, repL_int r1, h1 ι1 G1 H1 R1 e1⟩
  · exact h1.elim⟩
def slF (x : Lv) (lo hi : Option Int) (cs : Cs) : Option (Lv × Cs) := match x with
  | .c (.str z) => if z.length ≤ sizeLine then some (.c (.str (cutS z lo hi)), cs) else none
  | .c (.tup xs) => some (.c (.tup (cutL xs lo hi)), cs)
  | x => (view cs x).bind fun ls => match closeAll (cutL ls lo hi) with
    | some ds => some (.p cs.length, cs ++ [.lst ds])
    | none => (cellsOf (cutL ls lo hi)).map fun ns => (.p cs.length, cs ++ [.pl ns])
def mSl (me : ME) (ml mu : MO) : ME := fun sl cs => (me sl cs).bind fun x cs1 => (ml sl cs1).bind fun l cs2 => (mu sl cs2).bind fun u cs3 => up (slF x l u cs3)
def rSl (K : PySem.W.Frag) : V → Option Int → Option Int → Hp → VK → Prop := fun x lo hi H Q => (rSlL K x lo hi H Q ∨ rSlA K x lo hi H Q) ∨ rSlS x lo hi H Q
theorem slF_ok {B : Bs} {ι : List Addr} {G H : Hp} {σ : St} {sl : Sl} {cs cs' : Cs} {v : V} {x l : Lv} {lo hi : Option Int} {Q : VK} (R : Rel C B ι G H σ sl cs) (r : RepL C ι G v x) (e : slF x lo hi cs = some (l, cs'))
    (k : ∀ v ι' G' H', Rel C B ι' G' H' σ sl cs' → Le ι G ι' G' → RepL C ι' G' v l → Q v H') : rSl C.K v lo hi H Q := by
  have lists : (∀ xs, x ≠ .c (.tup xs)) → ((view cs x).bind fun ls => match closeAll (cutL ls lo hi) with
    | some ds => some (.p cs.length, cs ++ [.lst ds])
    | none => (cellsOf (cutL ls lo hi)).map fun ns => (.p cs.length, cs ++ [.pl ns])) = some (l, cs') → rSl C.K v lo hi H Q := by
    intro nt e
    cases ev : view cs x with
    | none => rw [ev] at e; simp at e
    | some ls =>
      rw [ev] at e
      simp only [Option.bind_some] at e
      obtain ⟨a, vs, rfl, hs, hr⟩ := view_ok R r ev
      have hs' : SqL C.K H a vs := by
        unfold SqK at hs
        split at hs
        · rename_i xs; exact absurd rfl (nt xs)
        · exact hs
      have hr' : RepLs C ι G (cutV vs lo hi) (cutL ls lo hi) := hr.cut
      refine .inl (.inl ⟨a, vs, rfl, hs', fun p hp => ?_⟩)
      split at e
      · rename_i ds ec
        simp at e
        obtain ⟨rfl, rfl⟩ := e
        obtain ⟨R', le, rl⟩ := new_lst R hp (closeAll_ok hr' ec)
        exact k _ _ _ _ R' le rl
      · cases ec : cellsOf (cutL ls lo hi) with
        | none => rw [ec] at e; simp at e
        | some ns =>
          rw [ec] at e
          simp at e
          obtain ⟨rfl, rfl⟩ := e
          have q := cellsOf_eq ec
          rw [q] at hr'
          obtain ⟨R', le, rl⟩ := new_pl R hp hr'
          exact k _ _ _ _ R' le rl
  unfold slF at e
  split at e
  · rename_i z
    split at e
    · rename_i hz
      cases e
      exact .inr ⟨z, repL_str r, hz, k _ _ _ _ R .refl mk_str⟩
    · cases e
  · rename_i xs
    cases e
    obtain ⟨a, vs, rfl, h2, h3⟩ := repL_tup r
    have hl := h3.len
    refine .inl (.inr ⟨a, vs, rfl, SqT.of (R.hG _ _ h2), fun hw => ?_, fun hw p hp => ?_⟩)
    · rw [hl] at hw
      rw [cut_all hw] at k
      exact k _ _ _ _ R .refl r
    · obtain ⟨G', R', le, rl⟩ := new_tup R hp (h3.cut (lo := lo) (hi := hi))
      exact k _ _ _ _ R' le rl
  · rename_i h1 h2
    exact lists (fun xs q => h2 xs q) e
theorem we_sl {X : Cx} {e : Expr} {lo hi : Option Expr} {p2 pos : Pos} {me : ME} {ml mu : MO} (he : WE C W X e me) (hl : WO (C := C) (W := W) X lo ml) (hu : WO (C := C) (W := W) X hi mu) : WE C W X (.Subscript e (.Slice lo hi none p2) pos) (mSl me ml mu) := fun hK hT => by
  obtain ⟨t1, p1, k1⟩ := hl hK hT
  obtain ⟨t2, p2', k2⟩ := hu hK hT
  refine (pe_slice (r := rSl C.K) (hK ▸ (SlR.or (SlR.or sl_list sl_tupA) sl_str)) (he hK hT) p1 p2').imp fun σ H Q h => ?_
  obtain ⟨B, ι, G, sl, cs, R, h⟩ := h
  refine ⟨B, ι, G, sl, cs, R, (Post.bind h).mono fun x cs1 h1 v ι1 G1 H1 R1 e1 r1 => ?_⟩
  refine k1 _ _ _ ⟨B, ι1, G1, sl, cs1, R1, (Post.bind h1).mono fun l cs2 h2 ι2 G2 H2 R2 e2 => ?_⟩
  refine k2 _ _ _ ⟨B, ι2, G2, sl, cs2, R2, (Post.bind h2).mono fun u cs3 h3 ι3 G3 H3 R3 e3 => ?_⟩
  obtain ⟨l4, cs4, em, hq⟩ := Post.up h3
  exact slF_ok R3 (r1.mono (e2.trans e3)) em fun v ι4 G4 H4 R4 e4 r4 => hq v ι4 G4 H4 R4 (((e1.trans e2).trans e3).trans e4) r4
end
/-! how they run -/
@[simp] theorem mSl_ap {me : ME} {ml mu : MO} {sl : Sl} {cs : Cs} : mSl me ml mu sl cs = (me sl cs).bind fun x cs1 => (ml sl cs1).bind fun l cs2 => (mu sl cs2).bind fun u cs3 => up (slF x l u cs3) := rfl
@[simp] theorem mNoP_ap {sl : Sl} {cs : Cs} : mNoP sl cs = .ok none cs := rfl
@[simp] theorem mPart_ap {me : ME} {sl : Sl} {cs : Cs} : mPart me sl cs = (me sl cs).bind fun l cs1 => match l with
  | .c (.int i) => .ok (some i) cs1
  | _ => .bad := rfl
theorem sIx_n (n d k : Nat) (h : k ≤ n) : HT.sIx n d (some (k : Int)) = k := by
  rw [HT.sIx_nat]; omega
theorem cut_to {α : Type} {xs : List α} {k : Nat} (h : k ≤ xs.length) : cutL xs none (some (k : Int)) = xs.take k := by
  unfold cutL
  rw [sIx_n _ _ _ h, HT.sIx_none]
  simp
theorem cut_from {α : Type} {xs : List α} {k : Nat} (h : k ≤ xs.length) : cutL xs (some (k : Int)) none = xs.drop k := by
  unfold cutL
  rw [sIx_n _ _ _ h, HT.sIx_none]
  have : xs.length - k = (xs.drop k).length := by simp
  rw [this, List.take_length]
theorem cutL_map {α β : Type} (f : α → β) (xs : List α) (lo hi : Option Int) : cutL (xs.map f) lo hi = (cutL xs lo hi).map f := by
  unfold cutL
  rw [List.length_map, List.map_take, List.map_drop]
theorem slF_lst {ds : List Dt} {lo hi : Option Int} {cs : Cs} : slF (.c (.lst ds)) lo hi cs = some (.p cs.length, cs ++ [.lst (cutL ds lo hi)]) := by
  show (match closeAll (cutL (ds.map Lv.c) lo hi) with
    | some ds => some (Lv.p cs.length, cs ++ [Cl.lst ds])
    | none => (cellsOf (cutL (ds.map Lv.c) lo hi)).map fun ns => (Lv.p cs.length, cs ++ [Cl.pl ns])) = _
  rw [cutL_map, closeAll_c]
theorem slF_tup {ds : List Dt} {lo hi : Option Int} {cs : Cs} : slF (.c (.tup ds)) lo hi cs = some (.c (.tup (cutL ds lo hi)), cs) := rfl
theorem mSl_to {me : ME} {mu : ME} {sl : Sl} {ds : List Dt} {k : Nat} {cs : Cs} (h : me sl cs = .ok (.c (.lst ds)) cs) (h2 : mu sl cs = .ok (.c (.int k)) cs) (hk : k ≤ ds.length) : mSl me mNoP (mPart mu) sl cs = .ok (.p cs.length) (cs ++ [.lst (ds.take k)]) := by
  simp [h, h2, slF_lst, cut_to hk]
theorem mSl_from {me : ME} {mu : ME} {sl : Sl} {ds : List Dt} {k : Nat} {cs : Cs} (h : me sl cs = .ok (.c (.lst ds)) cs) (h2 : mu sl cs = .ok (.c (.int k)) cs) (hk : k ≤ ds.length) : mSl me (mPart mu) mNoP sl cs = .ok (.p cs.length) (cs ++ [.lst (ds.drop k)]) := by
  simp [h, h2, slF_lst, cut_from hk]
end Mi

set_option Elab.async false
set_option linter.all false
set_option maxRecDepth 100000
set_option maxHeartbeats 4000000
/-! defs that change lists they are handed -/
namespace Mi
open PySem L2
def Mix (C : Cn) (G : Hp) : List Bool → List V → List Dt → List Addr → Prop
  | [], vs, ds, as => vs = [] ∧ ds = [] ∧ as = []
  | true :: mk, vs, ds, as => ∃ a vr ar, vs = .ref a :: vr ∧ as = a :: ar ∧ Mix C G mk vr ds ar
  | false :: mk, vs, ds, as => ∃ v vr d dr, vs = v :: vr ∧ ds = d :: dr ∧ Rep C G v d ∧ Mix C G mk vr dr as
def LstAt (C : Cn) (G H : Hp) (a : Addr) (m : List Dt) : Prop := G a = none ∧ ∃ ws, H a = some (.lst ws) ∧ Reps C G ws m
def Lists (C : Cn) (G H : Hp) (as : List Addr) (ms : List (List Dt)) : Prop := as.length = ms.length ∧ ∀ (i : Nat) (a : Addr) (m : List Dt), as[i]? = some a → ms[i]? = some m → LstAt C G H a m
structure KeptP (as : List Addr) (G H G' H' : Hp) : Prop where
  g : Same G G'
  gh : Same G' H'
  h : ∀ b o, b ∉ as → H b = some o → H' b = some o
  old : ∀ b o, b ∉ as → H b = some o → G' b = G b
abbrev PFn := List Dt → List (List Dt) → Option (Dt × List (List Dt))
def spP (C : Cn) (mk : List Bool) (f : PFn) : Sp := fun vs H Q _ => ∃ G ds as ms, Same G H ∧ Mix C G mk vs ds as ∧ as.Nodup ∧ Lists C G H as ms ∧ ∃ d ms', f ds ms = some (d, ms') ∧ ∀ v G' H', KeptP as G H G' H' → Rep C G' v d → Lists C G' H' as ms' → Q v H'
def slotsP : List Bool → Nat → List Dt → Sl
  | [], _, _ => []
  | true :: mk, i, ds => some (.p i) :: slotsP mk (i + 1) ds
  | false :: mk, i, d :: ds => some (.c d) :: slotsP mk i ds
  | false :: mk, i, [] => none :: slotsP mk i []
def takeL : Nat → Cs → Option (List (List Dt))
  | 0, _ => some []
  | n + 1, .lst m :: cs => (takeL n cs).map (m :: ·)
  | _ + 1, _ => none
def runP (mk : List Bool) (k : Nat) (body : MS) : PFn := fun ds ms => match body (slotsP mk 0 ds ++ List.replicate k none) (ms.map Cl.lst) with
  | .ok (.rt (.c d)) cs => (takeL ms.length cs).map fun ms' => (d, ms')
  | .ok (.nx _) cs => (takeL ms.length cs).map fun ms' => (.non, ms')
  | _ => none
theorem takeL_ok : ∀ {n : Nat} {cs : Cs} {ms : List (List Dt)}, takeL n cs = some ms → ms.length = n ∧ ∀ (i : Nat) (m : List Dt), ms[i]? = some m → cs[i]? = some (.lst m)
  | 0, cs, ms, h => by
    simp [takeL] at h; subst h
    exact ⟨rfl, fun i m q => by simp at q⟩
  | n + 1, [], ms, h => by simp [takeL] at h
  | n + 1, c :: cs, ms, h => by
    cases c with
    | lst m0 =>
      simp only [takeL] at h
      cases e : takeL n cs with
      | none => rw [e] at h; simp at h
      | some r =>
        rw [e] at h
        simp at h; subst h
        obtain ⟨h1, h2⟩ := takeL_ok e
        refine ⟨by simp [h1], fun i m q => ?_⟩
        cases i with
        | zero => simp at q; subst q; rfl
        | succ i => exact h2 i m (by simpa using q)
    | _ => simp [takeL] at h
section
variable {C : Cn} {W : WX}
theorem Mix.len {G : Hp} : ∀ {mk : List Bool} {vs : List V} {ds : List Dt} {as : List Addr}, Mix C G mk vs ds as → vs.length = mk.length
  | [], vs, ds, as, h => by rw [h.1]; rfl
  | true :: mk, vs, ds, as, h => by
    obtain ⟨a, vr, ar, rfl, rfl, h⟩ := h
    simp [h.len]
  | false :: mk, vs, ds, as, h => by
    obtain ⟨v, vr, d, dr, rfl, rfl, _, h⟩ := h
    simp [h.len]
theorem slotsP_len : ∀ {mk : List Bool} {i : Nat} {ds : List Dt}, (slotsP mk i ds).length = mk.length
  | [], _, _ => rfl
  | true :: mk, i, ds => by simp [slotsP, slotsP_len]
  | false :: mk, i, d :: ds => by simp [slotsP, slotsP_len]
  | false :: mk, i, [] => by simp [slotsP, slotsP_len]
theorem Mix.slots {G : Hp} {all : List Addr} : ∀ {mk : List Bool} {vs : List V} {ds : List Dt} {as : List Addr} {i : Nat}, Mix C G mk vs ds as → (∀ j : Nat, as[j]? = all[i + j]?) → ∀ (n : Nat) (l : Lv), (slotsP mk i ds)[n]? = some (some l) → ∃ v, vs[n]? = some v ∧ RepL C all G v l
  | [], vs, ds, as, i, h, ha, n, l, q => by simp [slotsP] at q
  | true :: mk, vs, ds, as, i, h, ha, n, l, q => by
    obtain ⟨a, vr, ar, rfl, rfl, h⟩ := h
    cases n with
    | zero =>
      simp [slotsP] at q; subst q
      exact ⟨_, rfl, a, by have := ha 0; simpa using this.symm, rfl⟩
    | succ n => exact h.slots (i := i + 1) (fun j => by have := ha (j + 1); rw [List.getElem?_cons_succ] at this; rw [this]; congr 1; omega) n l (by simpa [slotsP] using q)
  | false :: mk, vs, ds, as, i, h, ha, n, l, q => by
    obtain ⟨v, vr, d, dr, rfl, rfl, hr, h⟩ := h
    cases n with
    | zero =>
      simp [slotsP] at q; subst q
      exact ⟨_, rfl, hr⟩
    | succ n => exact h.slots (i := i) ha n l (by simpa [slotsP] using q)
open Classical in
noncomputable def offH (H : Hp) (as : List Addr) : Hp := fun b => if b ∈ as then none else H b
theorem offH_in {H : Hp} {as : List Addr} {b : Addr} {o : HO} (h : offH H as b = some o) : b ∉ as ∧ H b = some o := by
  unfold offH at h
  split at h
  · cases h
  · exact ⟨by assumption, h⟩
theorem offH_out {H : Hp} {as : List Addr} {b : Addr} {o : HO} (hb : b ∉ as) (h : H b = some o) : offH H as b = some o := by
  unfold offH
  rw [if_neg hb]; exact h
theorem start_relP {G H : Hp} {mk : List Bool} {vs : List V} {ds : List Dt} {as : List Addr} {ms : List (List Dt)} {N : List Str} (hG : Same G H) (hm : Mix C G mk vs ds as) (hn : as.Nodup) (hl : Lists C G H as ms) :
    Rel C (bs0 (offH H as) G) as G H (L2.start N vs) (slotsP mk 0 ds ++ List.replicate (N.length - mk.length) none) (ms.map Cl.lst) := by
  have hlen := hm.len
  refine ⟨hG, fun b o q => (offH_in q).2, fun _ _ _ => rfl, fun a ha => ?_, fun a ha => ?_, hn, by rw [List.length_map]; exact hl.1, fun n a c h1 h2 => ?_, ?_, fun i l q => ?_, ⟨⟨as, rfl⟩, fun _ _ z => by cases z⟩⟩
  · show offH H as a = none
    unfold offH
    rw [if_pos ha]
  · obtain ⟨i, hi⟩ := List.mem_iff_getElem?.mp ha
    have hlt : i < ms.length := by rw [← hl.1]; exact (List.getElem?_eq_some_iff.mp hi).1
    obtain ⟨_, ws, e, _⟩ := hl.2 i a ms[i] hi (List.getElem?_eq_getElem hlt)
    exact ⟨_, e⟩
  · rw [List.getElem?_map] at h2
    cases e : ms[n]? with
    | none => rw [e] at h2; simp at h2
    | some m =>
      rw [e] at h2
      simp at h2; subst h2
      exact hl.2 n a m h1 e
  · unfold L2.start
    simp [slotsP_len, hlen]
  · unfold L2.start
    by_cases hi : i < mk.length
    · rw [List.getElem?_append_left (by rw [slotsP_len]; exact hi)] at q
      rw [List.getElem?_append_left (by simpa [hlen] using hi), List.getElem?_map]
      obtain ⟨v, e1, r⟩ := hm.slots (all := as) (i := 0) (fun j => by simp) i l q
      exact ⟨v, by rw [e1]; rfl, r⟩
    · rw [List.getElem?_append_right (by rw [slotsP_len]; omega), List.getElem?_replicate] at q
      split at q <;> simp at q
theorem end_P {B : Bs} {as ι : List Addr} {G G' H H' : Hp} {σ : St} {sl : Sl} {cs : Cs} {ms : List (List Dt)} {n : Nat} (hB : B = bs0 (offH H as) G) (R : Rel C B ι G' H' σ sl cs) (le : Le as G ι G') (hn : as.length = n) (h : takeL n cs = some ms) : KeptP as G H G' H' ∧ Lists C G' H' as ms := by
  obtain ⟨h1, h2⟩ := takeL_ok h
  subst hB
  refine ⟨⟨le.g, R.hG, fun b o hb q => R.h0 b o (offH_out hb q), fun b o hb q => R.g0 b o (offH_out hb q)⟩, by rw [h1, hn], fun i a m q1 q2 => ?_⟩
  exact R.cr i a (.lst m) (le.get q1) (h2 i m q2)
theorem ok_fnP {P : Program} {w : World} {K : PySem.W.Frag} {mg : Str → Option Value} {base : Heap} {x qual : Str} {st : Stmt} {f : Addr} {fd : FuncData} {N ps : List Str} {k : Nat} {ms : MS} (mk : List Bool) (F : Fun K x qual st f fd) (S : FnScope N ps (defScope st)) (hK : K = C.K) (hp : mk.length = ps.length)
    (hb : ∀ (cdv : Value) (A : Around) (outer : List Env) (s : Shared) (H : Hp) (E : XK), Room k (A.deeper (PyProof.Rows.envOfC qual (defScope st) s.heap.objs.size f cdv)) → WSs C (fun cls d _ H => E cls d H) (cxOf (L2.CX P w) P w K mg base N qual (defScope st) f cdv A outer s H E) (defBody st) ms) :
    FnOk P w K mg base (L2.CX P w) (k + 1) f fd ps (spP C mk (runP mk (N.length - ps.length) ms)) := by
  refine F.okX S (fun vs H Q E h => ?_) (fun cdv A outer s H vs Q E hr h => ?_)
  · obtain ⟨G, ds, as, ms, _, h2, _⟩ := h
    rw [h2.len, hp]
  · obtain ⟨G, ds, as, mm, hG, hm, hn, hl, d, ms', hf, ho⟩ := h
    refine ⟨_, hb cdv A outer s H E hr hK (takes_of rfl rfl rfl rfl) (passes_of rfl), ?_⟩
    have R0 := start_relP (N := N) hG hm hn hl
    rw [hp] at R0
    refine ⟨_, as, G, _, _, R0, ?_⟩
    unfold runP at hf
    unfold PostS
    split
    · rename_i sl' cs' e
      rw [e] at hf
      simp only [Option.map_eq_some_iff] at hf
      obtain ⟨ms2, e2, e3⟩ := hf
      cases e3
      intro σ' ι' G' H' R' e'
      obtain ⟨k1, k2⟩ := end_P rfl R' e' hl.1 e2
      exact ho .non G' H' k1 ((rep_non (C := C) (G := G')).mpr rfl) k2
    · rename_i l cs' e
      rw [e] at hf
      intro v σ' sl' ι' G' H' R' e' r'
      cases l with
      | p n => simp at hf
      | c d0 =>
        simp only [Option.map_eq_some_iff] at hf
        obtain ⟨ms2, e2, e3⟩ := hf
        cases e3
        obtain ⟨k1, k2⟩ := end_P rfl R' e' hl.1 e2
        exact ho v G' H' k1 r' k2
    · rename_i sl' cs' e
      rw [e] at hf
      cases hf
    · rename_i sl' cs' e
      rw [e] at hf
      cases hf
    · rename_i e' sl' cs' e
      rw [e] at hf
      cases hf
    · rename_i e
      rw [e] at hf
      cases hf
/-! the call -/
def fzM : List Bool → Cs → List Lv → Option (List Dt × List Nat × Cs)
  | [], cs, [] => some ([], [], cs)
  | true :: mk, cs, .p n :: ls => (fzM mk cs ls).map fun p => (p.1, n :: p.2.1, p.2.2)
  | false :: mk, cs, l :: ls => match fzD 4 cs l with
    | some (d, cs1) => (fzM mk cs1 ls).map fun p => (d :: p.1, p.2.1, p.2.2)
    | none => none
  | _, _, _ => none
def readL (cs : Cs) : List Nat → Option (List (List Dt))
  | [] => some []
  | n :: ns => match cs[n]? with
    | some (.lst m) => (readL cs ns).map (m :: ·)
    | _ => none
def setL : Cs → List Nat → List (List Dt) → Cs
  | cs, n :: ns, m :: ms => setL (cs.set n (.lst m)) ns ms
  | cs, _, _ => cs
def mCallP (mk : List Bool) (f : PFn) (ma : MA) : ME := fun sl cs => (ma sl cs).bind fun ls cs1 => match fzM mk cs1 ls with
  | some (ds, ns, cs2) => if ns.Nodup then (match readL cs2 ns with
    | some ms => (match f ds ms with
      | some (d, ms') => if ms'.length = ns.length then .ok (.c d) (setL cs2 ns ms') else .bad
      | none => .bad)
    | none => .bad) else .bad
  | none => .bad
theorem Mix.mono {G G' : Hp} (e : Same G G') : ∀ {mk : List Bool} {vs : List V} {ds : List Dt} {as : List Addr}, Mix C G mk vs ds as → Mix C G' mk vs ds as
  | [], _, _, _, h => h
  | true :: mk, _, _, _, ⟨a, vr, ar, h1, h2, h3⟩ => ⟨a, vr, ar, h1, h2, h3.mono e⟩
  | false :: mk, _, _, _, ⟨v, vr, d, dr, h1, h2, h3, h4⟩ => ⟨v, vr, d, dr, h1, h2, Rep.mono e h3, h4.mono e⟩
/-- the places' addresses -/
def AtI (ι : List Addr) (ns : List Nat) (as : List Addr) : Prop := ns.length = as.length ∧ ∀ (j n : Nat) (a : Addr), ns[j]? = some n → as[j]? = some a → ι[n]? = some a
theorem fzM_ok {B : Bs} {ι : List Addr} {H : Hp} {σ : St} {sl : Sl} : ∀ {mk : List Bool} {ls : List Lv} {G : Hp} {cs cs' : Cs} {vs : List V} {ds : List Dt} {ns : List Nat}, Rel C B ι G H σ sl cs → RepLs C ι G vs ls → fzM mk cs ls = some (ds, ns, cs') → ∃ as, AtI ι ns as ∧ FzOk C B σ sl H ι G cs' fun G' => Mix C G' mk vs ds as
  | [], [], G, cs, cs', vs, ds, ns, R, r, h => by
    simp [fzM] at h
    obtain ⟨rfl, rfl, rfl⟩ := h
    exact ⟨[], ⟨rfl, fun j n a q => by simp at q⟩, G, R, .refl, r, rfl, rfl⟩
  | [], l :: ls, G, cs, cs', vs, ds, ns, R, r, h => by simp [fzM] at h
  | true :: mk, [], G, cs, cs', vs, ds, ns, R, r, h => by simp [fzM] at h
  | true :: mk, .c d :: ls, G, cs, cs', vs, ds, ns, R, r, h => by simp [fzM] at h
  | true :: mk, .p n :: ls, G, cs, cs', vs, ds, ns, R, r, h => by
    obtain ⟨v, vr, rfl, ⟨a, q1, rfl⟩, r2⟩ := r
    simp only [fzM, Option.map_eq_some_iff] at h
    obtain ⟨⟨ds2, ns2, cs2⟩, e, e2⟩ := h
    cases e2
    obtain ⟨as, ha, G2, R2, le2, m2⟩ := fzM_ok R r2 e
    refine ⟨a :: as, ⟨by simp [ha.1], fun j n' a' h1 h2 => ?_⟩, G2, R2, le2, a, vr, as, rfl, rfl, m2⟩
    cases j with
    | zero => simp at h1 h2; subst h1 h2; exact q1
    | succ j => exact ha.2 j n' a' (by simpa using h1) (by simpa using h2)
  | false :: mk, [], G, cs, cs', vs, ds, ns, R, r, h => by simp [fzM] at h
  | false :: mk, l :: ls, G, cs, cs', vs, ds, ns, R, r, h => by
    obtain ⟨v, vr, rfl, r1, r2⟩ := r
    simp only [fzM] at h
    cases e1 : fzD 4 cs l with
    | none => rw [e1] at h; simp at h
    | some p =>
      obtain ⟨d, cs1⟩ := p
      rw [e1] at h
      simp only [Option.map_eq_some_iff] at h
      obtain ⟨⟨ds2, ns2, cs2⟩, e, e2⟩ := h
      cases e2
      obtain ⟨G1, R1, le1, q1⟩ := (fzD_ok 4).run R r1 e1
      obtain ⟨as, ha, G2, R2, le2, m2⟩ := fzM_ok R1 (RepLs.mono le1 r2) e
      exact ⟨as, ha, G2, R2, le1.trans le2, v, vr, d, ds2, rfl, rfl, Rep.mono le2.g q1, m2⟩
theorem readL_ok {cs : Cs} : ∀ {ns : List Nat} {ms : List (List Dt)}, readL cs ns = some ms → ms.length = ns.length ∧ ∀ (j n : Nat) (m : List Dt), ns[j]? = some n → ms[j]? = some m → cs[n]? = some (.lst m)
  | [], ms, h => by
    simp [readL] at h; subst h
    exact ⟨rfl, fun j n m q => by simp at q⟩
  | n :: ns, ms, h => by
    unfold readL at h
    split at h
    · rename_i m0 e0
      simp only [Option.map_eq_some_iff] at h
      obtain ⟨ms2, e, rfl⟩ := h
      obtain ⟨h1, h2⟩ := readL_ok e
      refine ⟨by simp [h1], fun j n' m q1 q2 => ?_⟩
      cases j with
      | zero => simp at q1 q2; subst q1 q2; exact e0
      | succ j => exact h2 j n' m (by simpa using q1) (by simpa using q2)
    · cases h
theorem setL_len : ∀ {ns : List Nat} {cs : Cs} {ms : List (List Dt)}, (setL cs ns ms).length = cs.length
  | [], cs, ms => by unfold setL; rfl
  | n :: ns, cs, [] => rfl
  | n :: ns, cs, m :: ms => by rw [setL, setL_len, List.length_set]
theorem setL_out : ∀ {ns : List Nat} {cs : Cs} {ms : List (List Dt)} {k : Nat}, k ∉ ns → (setL cs ns ms)[k]? = cs[k]?
  | [], cs, ms, k, h => by unfold setL; rfl
  | n :: ns, cs, [], k, h => rfl
  | n :: ns, cs, m :: ms, k, h => by
    rw [setL, setL_out (fun z => h (List.mem_cons_of_mem _ z)), List.getElem?_set_ne (fun z => h (by rw [z]; exact List.mem_cons_self))]
theorem setL_in : ∀ {ns : List Nat} {cs : Cs} {ms : List (List Dt)} {j k : Nat} {c : Cl}, ns.Nodup → ms.length = ns.length → ns[j]? = some k → (setL cs ns ms)[k]? = some c → ∃ m, ms[j]? = some m ∧ c = .lst m
  | [], cs, ms, j, k, c, hn, hl, h, q => by simp at h
  | n :: ns, cs, [], j, k, c, hn, hl, h, q => by simp at hl
  | n :: ns, cs, m :: ms, j, k, c, hn, hl, h, q => by
    obtain ⟨h1, h2⟩ := List.nodup_cons.mp hn
    rw [setL] at q
    cases j with
    | zero =>
      simp at h; subst h
      rw [setL_out h1] at q
      have hlt : n < cs.length := by
        have := (List.getElem?_eq_some_iff.mp q).1
        simpa using this
      rw [List.getElem?_set_self hlt] at q
      cases q
      exact ⟨m, rfl, rfl⟩
    | succ j =>
      obtain ⟨m', e1, e2⟩ := setL_in h2 (by simpa using hl) (by simpa using h) q
      exact ⟨m', by simpa using e1, e2⟩
theorem Rel.callP {B : Bs} {ι : List Addr} {G H G' H' : Hp} {σ : St} {sl : Sl} {cs : Cs} {ns : List Nat} {as : List Addr} {ms : List (List Dt)} (R : Rel C B ι G H σ sl cs) (k : KeptP as G H G' H') (hn : ns.Nodup) (ha : AtI ι ns as) (hl : Lists C G' H' as ms) : Rel C B ι G' H' σ sl (setL cs ns ms) ∧ Le ι G ι G' := by
  have le : Le ι G ι G' := ⟨⟨[], by simp⟩, k.g⟩
  have hin : ∀ a ∈ as, a ∈ ι := fun a h => by
    obtain ⟨j, hj⟩ := List.mem_iff_getElem?.mp h
    have hlt : j < ns.length := by rw [ha.1]; exact (List.getElem?_eq_some_iff.mp hj).1
    exact List.mem_of_getElem? (ha.2 j ns[j] a (List.getElem?_eq_getElem hlt) hj)
  have hout : ∀ b o, B.H b = some o → b ∉ as := fun b o q z => by
    have := R.fr b (hin b z)
    rw [q] at this; cases this
  have hms : ms.length = ns.length := by rw [← hl.1, ha.1]
  refine ⟨⟨k.gh, fun b o q => k.h b o (hout b o q) (R.h0 b o q), fun b o q => (k.old b o (hout b o q) (R.h0 b o q)).trans (R.g0 b o q), R.fr, fun a h => ?_, R.nd, by rw [setL_len]; exact R.cl, fun n a c h1 h2 => ?_, R.len, fun i l q => ?_, R.tb.trans le⟩, le⟩
  · by_cases z : a ∈ as
    · obtain ⟨j, hj⟩ := List.mem_iff_getElem?.mp z
      have hlt : j < ms.length := by rw [← hl.1]; exact (List.getElem?_eq_some_iff.mp hj).1
      obtain ⟨_, ws, e, _⟩ := hl.2 j a ms[j] hj (List.getElem?_eq_getElem hlt)
      exact ⟨_, e⟩
    · obtain ⟨o, e⟩ := R.th a h
      exact ⟨o, k.h a o z e⟩
  · by_cases z : n ∈ ns
    · obtain ⟨j, hj⟩ := List.mem_iff_getElem?.mp z
      obtain ⟨m, e1, rfl⟩ := setL_in hn hms hj h2
      have hlt : j < as.length := by rw [← ha.1]; exact (List.getElem?_eq_some_iff.mp hj).1
      have e3 := ha.2 j n as[j] hj (List.getElem?_eq_getElem hlt)
      rw [e3] at h1; cases h1
      exact hl.2 j _ m (List.getElem?_eq_getElem hlt) e1
    · rw [setL_out z] at h2
      have hna : a ∉ as := fun y => by
        obtain ⟨j, hj⟩ := List.mem_iff_getElem?.mp y
        have hlt : j < ns.length := by rw [ha.1]; exact (List.getElem?_eq_some_iff.mp hj).1
        have e3 := ha.2 j ns[j] a (List.getElem?_eq_getElem hlt) hj
        have : n = ns[j] := nd_get R.nd h1 e3
        exact z (this ▸ List.getElem_mem hlt)
      obtain ⟨o, e⟩ := R.th a (List.mem_of_getElem? h1)
      exact (R.cr n a c h1 h2).grow le (fun hg => (k.old a o hna e).trans hg) ((k.h a o hna e).trans e.symm)
  · obtain ⟨v, e, r⟩ := R.slt i l q
    exact ⟨v, e, r.mono le⟩
theorem AtI.nd {ι : List Addr} {ns : List Nat} {as : List Addr} (ha : AtI ι ns as) (hn : ns.Nodup) (hι : ι.Nodup) : as.Nodup := by
  rw [List.nodup_iff_pairwise_ne, List.pairwise_iff_getElem]
  intro i j hi hj hij z
  have hi' : i < ns.length := by rw [ha.1]; exact hi
  have hj' : j < ns.length := by rw [ha.1]; exact hj
  have e1 := ha.2 i _ _ (List.getElem?_eq_getElem hi') (List.getElem?_eq_getElem hi)
  have e2 := ha.2 j _ _ (List.getElem?_eq_getElem hj') (List.getElem?_eq_getElem hj)
  rw [z] at e1
  have : ns[i] = ns[j] := nd_get hι e1 e2
  have := (List.nodup_iff_pairwise_ne.mp hn)
  rw [List.pairwise_iff_getElem] at this
  exact this i j hi' hj' hij ‹ns[i] = ns[j]›
theorem sim_callP {f : PFn} {mk : List Bool} {ma : MA} {σ : St} {H : Hp} {Q : VK} (h : tE C W (mCallP mk f ma) σ H Q) : tCallSD (spP C mk f) [] (L2.WE W) (tA C W ma) σ H Q := by
  obtain ⟨B, ι, G, sl, cs, R, h⟩ := h
  refine ⟨B, ι, G, sl, cs, R, (Post.bind h).mono fun ls cs1 h1 vs ι1 G1 H1 R1 e1 r1 => ?_⟩
  cases e : fzM mk cs1 ls with
  | none => rw [e] at h1; exact h1.elim
  | some p =>
    obtain ⟨ds, ns, cs2⟩ := p
    rw [e] at h1
    simp only at h1
    split at h1
    · rename_i hn
      cases er : readL cs2 ns with
      | none => rw [er] at h1; exact h1.elim
      | some ms =>
        rw [er] at h1
        simp only at h1
        cases ef : f ds ms with
        | none => rw [ef] at h1; exact h1.elim
        | some q =>
          obtain ⟨d, ms'⟩ := q
          rw [ef] at h1
          simp only at h1
          split at h1
          · obtain ⟨as, ha, G2, R2, e2, hm⟩ := fzM_ok R1 r1 e
            obtain ⟨hl1, hl2⟩ := readL_ok er
            rw [List.append_nil]
            refine ⟨G2, ds, as, ms, R2.hG, hm, ha.nd hn R2.nd, ⟨by rw [hl1, ha.1], fun i a m q1 q2 => ?_⟩, d, ms', ef, fun v G' H' k rv hl => ?_⟩
            · have hlt : i < ns.length := by rw [ha.1]; exact (List.getElem?_eq_some_iff.mp q1).1
              exact R2.cr ns[i] a (.lst m) (ha.2 i _ a (List.getElem?_eq_getElem hlt) q1) (hl2 i _ m (List.getElem?_eq_getElem hlt) q2)
            · obtain ⟨R3, le3⟩ := R2.callP k hn ha hl
              exact h1 v ι1 G' H' R3 ((e1.trans e2).trans le3) rv
          · exact h1.elim
    · exact h1.elim
theorem we_callP {X : Cx} {k : Nat} {f : Addr} {fd : FuncData} {ps : List Str} {fM : PFn} {mk : List Bool} {x : Str} {p pos : Pos} {e : Expr} {es : List Expr} {ma : MA} (F : FnOk X.prog X.w X.K X.mg X.base (L2.CX X.prog X.w) k f fd ps (spP C mk fM)) (hr : Room k X.A) (hm : X.mg x = some (.ref f)) (hk : PySem.W.keepIn X.K (.ref f) = true) (hb : Binds X.K fd ps [])
    (ha : WA C W X (e :: es) ma) (hg : Gl X x := by rfl) (hdb : (x == ("__debug__" : Str)) = false := by decide) (he : starEach (e :: es) X.env = (false, eval e X.env) :: starEach es X.env := by rfl) (hpl : (backTo pos (starEach es X.env)).any (·.1) = false := by rfl) :
    WE C W X (.Call (.Name x p) (e :: es) [] pos) (mCallP mk fM ma) :=
  fun hK hT => (pe_callSD F hr hg hm hk hb .nil (fun σ => passAt hT σ) (ha hK hT) hdb he hpl).imp fun _ _ _ h => sim_callP h
end
end Mi

set_option Elab.async false
set_option linter.all false
set_option maxRecDepth 100000
set_option maxHeartbeats 4000000
/-! calls that only read lists of the caller's which stay his -/
namespace Mi
open PySem L2
mutual
def noL : Dt → Bool
  | .non => true
  | .bl _ => true
  | .int _ => true
  | .str _ => true
  | .ty _ => true
  | .cls _ => true
  | .tup xs => noLs xs
  | .obj _ _ xs => noLs xs
  | .dic _ xs => noLs xs
  | .dct _ xs => noLs xs
  | .lst _ => false
  | .scr _ => false
  | .exn _ _ _ _ _ => false
def noLs : List Dt → Bool
  | [] => true
  | d :: ds => noL d && noLs ds
end
def noLR : Out → Bool
  | .ret (.c d) => noL d
  | .ret (.l xs) => noLs xs
  | .ret (.d _ xs) => noLs xs
  | .ret (.t _ xs) => noLs xs
  | _ => false
def weave : List Bool → List Dt → List (List Dt) → List Dt
  | true :: mk, ds, m :: ms => .lst m :: weave mk ds ms
  | false :: mk, d :: ds, ms => d :: weave mk ds ms
  | _, _, _ => []
def mCallB (mk : List Bool) (f : List Dt → Out) (ma : MA) : ME := fun sl cs => (ma sl cs).bind fun ls cs1 => match fzM mk cs1 ls with
  | some (ds, ns, cs2) => (match readL cs2 ns with
    | some ms => if noLR (f (weave mk ds ms)) = true then outR (f (weave mk ds ms)) sl cs2 else .bad
    | none => .bad)
  | none => .bad
section
variable {C : Cn} {W : WX}
mutual
theorem noL_rep {G G2 : Hp} (e : ∀ b o, G b = some o → (∀ ws, o ≠ HO.lst ws) → G2 b = some o) : ∀ {d : Dt} {v : V}, noL d = true → Rep C G v d → Rep C G2 v d
  | .non, _, _, h => h
  | .bl _, _, _, h => h
  | .int _, _, _, h => h
  | .str _, _, _, h => h
  | .ty _, _, _, h => h
  | .cls _, _, _, h => h
  | .lst xs, v, n, h => by simp [noL] at n
  | .scr xs, v, n, h => by simp [noL] at n
  | .exn _ _ _ _ _, v, n, h => by simp [noL] at n
  | .tup xs, v, n, h => by
    unfold Rep at h ⊢
    simp only [noL] at n
    obtain ⟨a, vs, h1, h2, h3⟩ := h
    exact ⟨a, vs, h1, e _ _ h2 (fun _ z => by cases z), noLs_rep e n h3⟩
  | .obj c ns xs, v, n, h => by
    unfold Rep at h ⊢
    simp only [noL] at n
    obtain ⟨a, dx, fs, h1, h2, h3, h4⟩ := h
    exact ⟨a, dx, fs, h1, e _ _ h2 (fun _ z => by cases z), h3, noLs_rep e n h4⟩
  | .dic ks xs, v, n, h => by
    unfold Rep at h ⊢
    simp only [noL] at n
    obtain ⟨a, kvs, h1, h2, h3, h5, h4⟩ := h
    exact ⟨a, kvs, h1, e _ _ h2 (fun _ z => by cases z), h3, h5, noLs_rep e n h4⟩
  | .dct ks xs, v, n, h => by
    unfold Rep at h ⊢
    simp only [noL] at n
    obtain ⟨a, kvs, h1, h2, h3, h5, h4⟩ := h
    exact ⟨a, kvs, h1, e _ _ h2 (fun _ z => by cases z), h3, h5, noLs_rep e n h4⟩
theorem noLs_rep {G G2 : Hp} (e : ∀ b o, G b = some o → (∀ ws, o ≠ HO.lst ws) → G2 b = some o) : ∀ {ds : List Dt} {vs : List V}, noLs ds = true → Reps C G vs ds → Reps C G2 vs ds
  | [], _, _, h => by unfold Reps at h ⊢; exact h
  | x :: xs, vs, n, h => by
    unfold Reps at h ⊢
    simp only [noLs, Bool.and_eq_true] at n
    obtain ⟨v, r, h1, h2, h3⟩ := h
    exact ⟨v, r, h1, noL_rep e n.1 h2, noLs_rep e n.2 h3⟩
end
open Classical in
noncomputable def onH (G H : Hp) (as : List Addr) : Hp := fun b => if b ∈ as then H b else G b
theorem onH_in {G H : Hp} {as : List Addr} {b : Addr} (h : b ∈ as) : onH G H as b = H b := if_pos h
theorem onH_out {G H : Hp} {as : List Addr} {b : Addr} (h : b ∉ as) : onH G H as b = G b := if_neg h
theorem offH_no {H : Hp} {as : List Addr} {b : Addr} (h : b ∈ as) : offH H as b = none := if_pos h
theorem offH_yes {H : Hp} {as : List Addr} {b : Addr} (h : b ∉ as) : offH H as b = H b := if_neg h
theorem weave_ok {G H : Hp} {P : Addr → Prop} (e : Same G (onH G H [])) {all : List Addr} (hall : ∀ a ∈ all, G a = none) : ∀ {mk : List Bool} {vs : List V} {ds : List Dt} {as : List Addr} {ms : List (List Dt)}, (∀ a ∈ as, a ∈ all) → Mix C G mk vs ds as → Lists C G H as ms → Reps C (onH G H all) vs (weave mk ds ms) := by
  have s1 : Same G (onH G H all) := fun b o q => by
    rw [onH_out (fun z => by rw [hall b z] at q; cases q)]; exact q
  intro mk
  induction mk with
  | nil =>
    intro vs ds as ms ha hm hl
    rw [hm.1]
    exact reps_nil.mpr rfl
  | cons b mk ih =>
    intro vs ds as ms ha hm hl
    cases b with
    | true =>
      obtain ⟨a, vr, ar, rfl, rfl, hm'⟩ := hm
      cases ms with
      | nil => have := hl.1; simp at this
      | cons m ms =>
        obtain ⟨h1, ws, h2, h3⟩ := hl.2 0 a m rfl rfl
        refine Reps.cons (rep_lst.mpr ⟨a, ws, rfl, ?_, h3.mono s1⟩) (ih (fun x hx => ha x (List.mem_cons_of_mem _ hx)) hm' ⟨by have := hl.1; simpa using this, fun i a' m' q1 q2 => hl.2 (i + 1) a' m' (by simpa using q1) (by simpa using q2)⟩)
        rw [onH_in (ha a List.mem_cons_self)]; exact h2
    | false =>
      obtain ⟨v, vr, d, dr, rfl, rfl, hr, hm'⟩ := hm
      exact Reps.cons (Rep.mono s1 hr) (ih ha hm' hl)
theorem sim_callB {f : List Dt → Out} {n : Nat} {mk : List Bool} {ma : MA} (hn : ∀ ds, f ds ≠ .bad → ds.length = n) {σ : St} {H : Hp} {Q : VK} (h : tE C W (mCallB mk f ma) σ H Q) : tCallSD (spM C n f) [] (L2.WE W) (tA C W ma) σ H Q := by
  obtain ⟨B, ι, G, sl, cs, R, h⟩ := h
  refine ⟨B, ι, G, sl, cs, R, (Post.bind h).mono fun ls cs1 h1 vs ι1 G1 H1 R1 e1 r1 => ?_⟩
  cases e : fzM mk cs1 ls with
  | none => rw [e] at h1; exact h1.elim
  | some p =>
    obtain ⟨ds, ns, cs2⟩ := p
    rw [e] at h1
    simp only at h1
    cases er : readL cs2 ns with
    | none => rw [er] at h1; exact h1.elim
    | some ms =>
      rw [er] at h1
      simp only at h1
      split at h1
      · rename_i hno
        obtain ⟨as, ha, G2, R2, e2, hm⟩ := fzM_ok R1 r1 e
        obtain ⟨hl1, hl2⟩ := readL_ok er
        have hl : Lists C G2 H1 as ms := ⟨by rw [hl1, ha.1], fun i a m q1 q2 => by
          have hlt : i < ns.length := by rw [ha.1]; exact (List.getElem?_eq_some_iff.mp q1).1
          exact R2.cr ns[i] a (.lst m) (ha.2 i _ a (List.getElem?_eq_getElem hlt) q1) (hl2 i _ m (List.getElem?_eq_getElem hlt) q2)⟩
        have hat : ∀ a ∈ as, LstAt C G2 H1 a (ms[as.idxOf a]?.getD []) := fun a z => by
          have hi : as.idxOf a < as.length := List.idxOf_lt_length_iff.mpr z
          have hi2 : as.idxOf a < ms.length := by rw [← hl.1]; exact hi
          refine hl.2 (as.idxOf a) a _ ?_ ?_
          · rw [List.getElem?_eq_getElem hi, List.getElem_idxOf hi]
          · rw [List.getElem?_eq_getElem hi2]; rfl
        have hall : ∀ a ∈ as, G2 a = none := fun a z => (hat a z).1
        have hlst : ∀ a ∈ as, ∃ ws, H1 a = some (.lst ws) := fun a z => by
          obtain ⟨_, ws, q, _⟩ := hat a z
          exact ⟨ws, q⟩
        have hreps := weave_ok (P := fun _ => True) (fun b o q => by rw [onH_out (by simp)]; exact q) hall (fun a z => z) hm hl
        have hS : Same (onH G2 H1 as) H1 := fun b o q => by
          by_cases z : b ∈ as
          · rw [onH_in z] at q; exact q
          · rw [onH_out z] at q; exact R2.hG b o q
        have hne : f (weave mk ds ms) ≠ .bad := fun z => by rw [z] at hno; cases hno
        rw [List.append_nil]
        refine ⟨onH G2 H1 as, weave mk ds ms, hS, hreps, hn _ hne, ?_⟩
        have fin := outR_ok (Q := Q) R2 (e1.trans e2) h1
        generalize f (weave mk ds ms) = o at *
        cases o with
        | bad => cases hno
        | exc _ => cases hno
        | ret r =>
          intro v G' H' k rr
          have hG'as : ∀ a ∈ as, ∃ ws, G' a = some (.lst ws) := fun a z => by
            obtain ⟨ws, q⟩ := hlst a z
            exact ⟨ws, k.g a _ (by rw [onH_in z]; exact q)⟩
          have sm : ∀ b o, G' b = some o → (∀ ws, o ≠ HO.lst ws) → offH G' as b = some o := fun b o q no => by
            by_cases z : b ∈ as
            · obtain ⟨ws, q2⟩ := hG'as b z
              rw [q] at q2; cases q2
              exact absurd rfl (no ws)
            · rw [offH_yes z]; exact q
          have none_of : ∀ p, G' p = none → offH G' as p = none := fun p q => by
            by_cases z : p ∈ as
            · exact offH_no z
            · rw [offH_yes z]; exact q
          have kk : Kept G2 H1 (offH G' as) H' := by
            refine ⟨fun b o q => ?_, fun b o q => ?_, k.h, fun b o q => ?_⟩
            · have z : b ∉ as := fun z => by rw [hall b z] at q; cases q
              rw [offH_yes z]
              exact k.g b o (by rw [onH_out z]; exact q)
            · by_cases z : b ∈ as
              · rw [offH_no z] at q; cases q
              · rw [offH_yes z] at q; exact k.gh b o q
            · by_cases z : b ∈ as
              · rw [offH_no z, hall b z]
              · rw [offH_yes z, k.old b o q, onH_out z]
          refine fin v (offH G' as) H' kk ?_
          cases r with
          | c d => exact noL_rep sm (show noL d = true from hno) rr
          | l xs =>
            obtain ⟨p, vs', hv, hp, hg, ho, hr⟩ := rr
            exact ⟨p, vs', hv, hp, none_of p hg, ho, noLs_rep sm (show noLs xs = true from hno) hr⟩
          | d ks xs =>
            obtain ⟨p, vs', hv, hp, hg, ho, hk, hn', hr⟩ := rr
            exact ⟨p, vs', hv, hp, none_of p hg, ho, hk, hn', noLs_rep sm (show noLs xs = true from hno) hr⟩
          | t ks xs =>
            obtain ⟨p, vs', hv, hp, hg, ho, hk, hn', hr⟩ := rr
            exact ⟨p, vs', hv, hp, none_of p hg, ho, hk, hn', noLs_rep sm (show noLs xs = true from hno) hr⟩
      · exact h1.elim
theorem we_callRd {X : Cx} {k n : Nat} {f : Addr} {fd : FuncData} {ps : List Str} {fM : List Dt → Out} (mk : List Bool) {x : Str} {p pos : Pos} {e : Expr} {es : List Expr} {ma : MA} (F : FnOk X.prog X.w X.K X.mg X.base (L2.CX X.prog X.w) k f fd ps (spM C n fM)) (hn : ∀ ds, fM ds ≠ .bad → ds.length = n) (hr : Room k X.A) (hm : X.mg x = some (.ref f)) (hk : PySem.W.keepIn X.K (.ref f) = true) (hb : Binds X.K fd ps [])
    (ha : WA C W X (e :: es) ma) (hg : Gl X x := by rfl) (hdb : (x == ("__debug__" : Str)) = false := by decide) (he : starEach (e :: es) X.env = (false, eval e X.env) :: starEach es X.env := by rfl) (hpl : (backTo pos (starEach es X.env)).any (·.1) = false := by rfl) :
    WE C W X (.Call (.Name x p) (e :: es) [] pos) (mCallB mk fM ma) :=
  fun hK hT => (pe_callSD F hr hg hm hk hb .nil (fun σ => passAt hT σ) (ha hK hT) hdb he hpl).imp fun _ _ _ h => sim_callB hn h
end
/-! how they run -/
theorem noLs_ints (xs : List Int) : noLs (xs.map .int) = true := by
  induction xs with
  | nil => rfl
  | cons x r ih => rw [List.map_cons, noLs, ih]; rfl
theorem mCallB_ap {mk : List Bool} {f : List Dt → Out} {ma : MA} {sl : Sl} {cs : Cs} {ls : List Lv} {ds : List Dt} {ns : List Nat} {cs2 : Cs} {ms : List (List Dt)} {o : Out} (h1 : ma sl cs = .ok ls cs) (h2 : fzM mk cs ls = some (ds, ns, cs2)) (h3 : readL cs2 ns = some ms) (h4 : f (weave mk ds ms) = o) (h5 : noLR o = true) : mCallB mk f ma sl cs = outR o sl cs2 := by
  unfold mCallB
  rw [h1]
  simp only [Res.bind_ok, h2, h3, h4, h5, if_pos]
theorem mCallP_ap {mk : List Bool} {f : PFn} {ma : MA} {sl : Sl} {cs : Cs} {ls : List Lv} {ds : List Dt} {ns : List Nat} {cs2 : Cs} {ms ms' : List (List Dt)} {d : Dt} (h1 : ma sl cs = .ok ls cs) (h2 : fzM mk cs ls = some (ds, ns, cs2)) (hn : ns.Nodup) (h3 : readL cs2 ns = some ms) (h4 : f ds ms = some (d, ms')) (h5 : ms'.length = ns.length) : mCallP mk f ma sl cs = .ok (.c d) (setL cs2 ns ms') := by
  unfold mCallP
  rw [h1]
  simp only [Res.bind_ok, h2, h3, h4, h5, hn, if_pos]
end Mi

set_option Elab.async false
set_option linter.all false
set_option maxRecDepth 100000
set_option maxHeartbeats 4000000
/-! the sum of a tuple -/
namespace PySem
section
variable {prog : Program} {w : World} {A : Around} {E : Value → Shared → Prop} {s : Shared} {l : Addr} {xs : Array (Int × Tok)}
theorem iter_intTup {Q : Value → Shared → Prop} (hl : s.heap.IsTuple l (intItems xs))
    (h : ∀ s₂ : Shared, s₂ = { s with heap := s.heap.push { cls := .type "tuple_iterator", data := .fields #[.ref l, .int 0 0] } } →
      (s₂.heap.IsTupleIter s.heap.objs.size l 0 ∧ s₂.heap.IsTuple l (intItems xs)) → (∀ b ∈ [s.heap.objs.size, l], b < s₂.heap.objs.size) → l ≠ s.heap.objs.size → Q (.ref s.heap.objs.size) s₂) :
    wpAny (model prog w) A (pyIter (.ref l)) Q E s := by
  have hlt : l < s.heap.objs.size := by obtain ⟨_, e, _⟩ := hl; exact Heap.lt_size e
  refine wpAny_pyIter_tuple hl (h _ rfl ⟨⟨_, Heap.get?_push_size _ rfl, rfl, rfl⟩, hl.push _⟩ (fun b hb => ?_) (Nat.ne_of_lt hlt))
  show b < (s.heap.push _).objs.size
  rw [Heap.size_push]
  rcases List.mem_cons.mp hb with rfl | hb
  · exact Nat.lt_succ_self _
  · rcases List.mem_cons.mp hb with rfl | hb
    · exact Nat.lt_succ_of_lt hlt
    · cases hb
theorem sum_intTupG {Q : Value → Shared → Prop} (hh : A.handled = none) (hl : s.heap.IsTuple l (intItems xs))
    (h : ∀ h' tk t', (∀ b o, s.heap.get? b = some o → h'.get? b = some o) → Q (.int (preSum (numAt xs) xs.size) t') { s with heap := h', toks := tk }) :
    wpAny (model prog w) A (call (.builtin "sum") [.ref l]) Q E s := by
  refine call_sum_walkG (iter_intTup hl fun s₂ e st hfp hlI => ?_)
  subst e
  refine ⟨_, _, _, _, _, _, numAt xs, rfl, Walks.tuple (A := A.in1) hh _ l hlI (intItems xs), st, hfp, (fun _ _ => intItems_at), fun h' tk t' hk => ?_⟩
  have := h h' tk t' (fun b o e => hk b o (fun m => Nat.ne_of_lt (Heap.lt_size e) (by simpa using m)) (Heap.get?_push_of_some _ e))
  simpa [intItems] using this
end
end PySem
namespace L2
open PySem PySem.Spec PyProof.Rows
section
variable {prog : Program} {w : World} {A : Around} {E : Value → Shared → Prop} {s : Shared} {l : Addr} {its : List Value} {ns : List Int} {Q : Value → Shared → Prop}
theorem sum_rawT (hh : A.handled = none) (hl : s.heap.IsTuple l its.toArray) (hi : IntsAre its ns)
    (h : ∀ h' tk t', (∀ b o, s.heap.get? b = some o → h'.get? b = some o) → Q (.int ns.sum t') { s with heap := h', toks := tk }) : wpAny (model prog w) A (call (.builtin "sum") [.ref l]) Q E s := by
  obtain ⟨xs, e⟩ := hi.allInts.items
  have hn : numsOf (intItems xs).toList = ns := by rw [← e]; exact hi.numsOf
  rw [nums_intItems] at hn
  rw [e] at hl
  refine PySem.sum_intTupG hh hl fun h' tk t' hk => ?_
  have := h h' tk t' hk
  rw [preSum_eq, List.take_of_length_le (by simp), hn]; exact this
end
section
variable {X : Cx}
/-- sum(t) of a tuple of ints -/
def rSumT (K : PySem.W.Frag) : List V → Hp → VK → Prop := fun vs H Q => ∃ (a : Addr) (ns : List Int), vs = [V.ref a] ∧ SqT K H a (ns.map V.int) ∧ Q (.int ns.sum) H
theorem cr_sumT (hc : X.calm = true) : CallR X (.builtin "sum") (rSumT X.K) := by
  intro pins s σ H vs us Q I r h
  obtain ⟨a, ns, rfl, hs, q⟩ := h
  obtain ⟨its, rv, hl, _⟩ := I.tuple hs
  rw [Vals.ref1 r]
  exact sum_rawT (I.ok.hd hc) hl rv.ints fun h' tk t' hk => ⟨.int _, H, I.kept hk, ⟨_, rfl⟩, q⟩
end
end L2
namespace Mi
open PySem L2
section
variable {C : Cn} {W : WX}
def cSumT : List Lv → Cs → Option (Lv × Cs)
  | [.c (.tup ds)], cs => (intsOf ds).map fun ns => (.c (.int ns.sum), cs)
  | ls, cs => cSum ls cs
theorem on_sumT : ON C cSumT (fun xs H Q => rSum C.K xs H Q ∨ rSumT C.K xs H Q) := by
  intro B ι G H σ sl cs cs' xs ls l Q R r e k
  unfold cSumT at e
  split at e
  · rename_i ds
    obtain ⟨v, rfl, r1⟩ := one_arg r
    cases ei : intsOf ds with
    | none => rw [ei] at e; simp at e
    | some ns =>
      rw [ei] at e
      simp at e
      obtain ⟨rfl, rfl⟩ := e
      obtain ⟨a, vs, rfl, h2, h3⟩ := repL_tup r1
      rw [intsOf_eq ei] at h3
      have hv := h3.ints
      subst hv
      exact .inr ⟨a, ns, rfl, SqT.of (R.hG _ _ h2), k _ _ _ _ R .refl mk_int⟩
  · exact .inl (on_sum R r e k)
theorem we_sumT {X : Cx} {p pos : Pos} {e : Expr} {ma : MA} (hm : X.mg "sum" = none) (ha : WA C W X [e] ma) (hc : X.calm = true := by rfl) (hg : Gl X "sum" := by rfl) (he : starEach (e :: []) X.env = (false, eval e X.env) :: starEach [] X.env := by rfl) (hpl : (backTo pos (starEach [] X.env)).any (·.1) = false := by rfl) : WE C W X (.Call (.Name "sum" p) [e] [] pos) (mOpN cSumT ma) :=
  we_callB (fun hK => hK ▸ (cr_sum hc).or (cr_sumT hc)) on_sumT hg hm PyProof.Rows.boot_sum ha (he := he) (hpl := hpl)
end
@[simp] theorem cSumT_tup {ns : List Int} {cs : Cs} : cSumT [.c (.tup (ns.map .int))] cs = some (.c (.int ns.sum), cs) := by
  show (intsOf (ns.map Dt.int)).map (fun ns => (Lv.c (.int ns.sum), cs)) = _
  rw [intsOf_map]; rfl
@[simp] theorem cSumT_lst {ns : List Int} {cs : Cs} : cSumT [.c (.lst (ns.map .int))] cs = some (.c (.int ns.sum), cs) := by
  show cSum [.c (.lst (ns.map .int))] cs = _
  exact cSum_ints
@[simp] theorem cSumT_p {n : Nat} {cs : Cs} : cSumT [.p n] cs = cSum [.p n] cs := rfl
end Mi

set_option Elab.async false
set_option linter.all false
set_option maxRecDepth 100000
set_option maxHeartbeats 4000000
/-! the mirrors of defs that many laws share, printed -/
namespace Mi
open PySem L2
def b_is_integer : MS :=
  (mRet (mAndV (mOpN (cIsi own0 tab0) (mCons (mVar 0) (mCons (mC (.ty "int")) mNil))) (mNotV (mOpN (cIsi own0 tab0) (mCons (mVar 0) (mCons (mC (.ty "bool")) mNil))))))
def m_is_integer : List Dt → Out := runF 1 0 b_is_integer
def b_is_between : MS :=
  (mRet (mAndV (mCall m_is_integer (mCons (mVar 0) mNil)) (mChain opLe opLe (mVar 1) (mVar 0) (mVar 2))))
def m_is_between : List Dt → Out := runF 3 0 b_is_between
def lb_is_table_1 : MS :=
  (mIf (mNot (mTru (mCall m_is_between (mCons (mVar 4) (mCons (mVar 2) (mCons (mVar 3) mNil)))))) (mRet (mC (.bl false))) mPass)
def l_is_table_1 : MS := (mFor 0 (mSeqI (mVar 0)) (gN 4) lb_is_table_1)
def b_is_table : MS :=
  (mSeq (mIf (mOr (mNot (mTru (mOpN (cIsi own0 tab0) (mCons (mVar 0) (mCons (mTup (mCons (mC (.ty "list")) (mCons (mC (.ty "tuple")) mNil))) mNil))))) (mTst (mOp2 (opEq true) (mOpN cLen (mCons (mVar 0) mNil)) (mVar 1)))) (mRet (mC (.bl false))) mPass)
  (mSeq l_is_table_1
  (mRet (mC (.bl true)))))
def m_is_table : List Dt → Out := runF 4 1 b_is_table
def lb_are_ducts_1 : MS :=
  (mSeq (mIf (mNot (mTru (mCall m_is_table (mCons (mVar 2) (mCons (mC (.int 3)) (mCons (mC (.int 0)) (mCons (mC (.int 8)) mNil))))))) (mRet (mC (.bl false))) mPass)
  (mSeq (mAsg (mVar 2) (gT 3 (gsCons (gN 3) (gsCons (gN 4) (gsCons (gN 5) gsNil)))))
  (mSeq (mIf (mOr (mTst (mOp2 opGe (mVar 3) (mVar 1))) (mOr (mTst (mOp2 opGe (mVar 4) (mVar 1))) (mTst (mOp2 (opEq false) (mVar 3) (mVar 4))))) (mRet (mC (.bl false))) mPass)
  (mIf (mNot (mTst (mChain opLe opLe (mC (.int 1)) (mVar 5) (mC (.int 6))))) (mRet (mC (.bl false))) mPass))))
def l_are_ducts_1 : MS := (mFor 0 (mSeqI (mVar 0)) (gN 2) lb_are_ducts_1)
def b_are_ducts : MS :=
  (mSeq (mIf (mOr (mNot (mTru (mOpN (cIsi own0 tab0) (mCons (mVar 0) (mCons (mTup (mCons (mC (.ty "list")) (mCons (mC (.ty "tuple")) mNil))) mNil))))) (mTst (mOp2 opGt (mOpN cLen (mCons (mVar 0) mNil)) (mC (.int 16))))) (mRet (mC (.bl false))) mPass)
  (mSeq l_are_ducts_1
  (mRet (mC (.bl true)))))
def m_are_ducts : List Dt → Out := runF 2 4 b_are_ducts
def b_require : MS :=
  (mIf (mNot (mTru (mVar 0))) mNever mPass)
def m_require : List Dt → Out := runF 2 0 b_require
def lb_width_table_1 : MS :=
  (mSeq (mAugI (fun i j => i + j) (mOp2 opItem (mVar 2) (mVar 3)) (mVar 4) (mVar 5))
  (mAugI (fun i j => i + j) (mOp2 opItem (mVar 2) (mVar 4)) (mVar 3) (mVar 5)))
def l_width_table_1 : MS := (mFor 0 (mSeqI (mVar 1)) (gT 3 (gsCons (gN 3) (gsCons (gN 4) (gsCons (gN 5) gsNil)))) lb_width_table_1)
def b_width_table : MS :=
  (mSeq (mAsg (mLc true (mRng rng1 (mCons (mVar 0) mNil)) (gN 6) mYes (mOp2 opMul (mV (mLst false (mCons (mC (.int 0)) mNil))) (mVar 0)) [6]) (gN 2))
  (mSeq l_width_table_1
  (mRet (mOpN cTuple (mCons (mV (mLc false (mSeqI (mVar 2)) (gN 7) mYes (mOpN cTuple (mCons (mVar 7) mNil)) [7])) mNil)))))
def m_width_table : List Dt → Out := runF 2 6 b_width_table
def b_Building___init__ : MS :=
  (mSeq (mDrop (mCall m_require (mCons (mCall m_is_between (mCons (mVar 1) (mCons (mC (.int 1)) (mCons (mC (.int 8)) mNil)))) (mCons (mC (.str "rooms")) mNil))))
  (mSeq (mDrop (mCall m_require (mCons (mCall m_are_ducts (mCons (mVar 2) (mCons (mVar 1) mNil))) (mCons (mC (.str "ducts")) mNil))))
  (mSeq (mSetF 0 "rooms" (mVar 0) (mVar 1))
  (mSeq (mSetF 0 "ducts" (mVar 0) (mOpN cTuple (mCons (mV (mLc false (mSeqI (mVar 2)) (gN 3) mYes (mOpN cTuple (mCons (mVar 3) mNil)) [3])) mNil)))
  (mSetF 0 "_widths" (mVar 0) (mCall m_width_table (mCons (mFld 0 "rooms" (mVar 0)) (mCons (mFld 0 "ducts" (mVar 0)) mNil))))))))
def m_Building___init__ : List Dt → Out := runI 0 2 1 b_Building___init__
def b_law_cell : MS :=
  (mSeq (mIf (mTst (mOp2 opLt (mVar 1) (mOpN cLen (mCons (mVar 0) mNil)))) (mRet (mOp2 opItem (mVar 0) (mVar 1))) mPass)
  (mRet (mC (.int 0))))
def m_law_cell : List Dt → Out := runF 2 0 b_law_cell
def lb_law_draw_1 : MS :=
  (mIf (mTst (mOp2 opGe (mVar 0) (mOp2 opPow (mC (.int 10)) (mC (.int 18))))) (mSeq (mDrop (mLM (lApp false) (mVar 2) (mCons (mOp2 opMod (mOpN cInt (mCons (mVar 3) mNil)) (mOp2 opItem (mVar 1) (mVar 4))) mNil)))
  (mAsg (mOp2 opDiv (mVar 3) (mOp2 opItem (mVar 1) (mVar 4))) (gN 3))) (mSeq (mAsg (mOp2 opMod (mOpN cInt (mCons (mOp2 opAdd (mOp2 opAdd (mOp2 opMul (mOp2 opMod (mOpN cInt (mCons (mVar 0) mNil)) (mC (.int 1000003))) (mC (.int 48271))) (mOp2 opMul (mVar 4) (mC (.int 69621)))) (mC (.int 11))) mNil)) (mC (.int 2147483647))) (gN 5))
  (mSeq (mAsg (mOp2 opMod (mOpN cInt (mCons (mOp2 opAdd (mOp2 opMul (mVar 5) (mC (.int 16807))) (mVar 4)) mNil)) (mC (.int 2147483647))) (gN 5))
  (mDrop (mLM (lApp false) (mVar 2) (mCons (mOp2 opMod (mOpN cInt (mCons (mOp2 opDiv (mVar 5) (mC (.int 7))) mNil)) (mOp2 opItem (mVar 1) (mVar 4))) mNil))))))
def l_law_draw_1 : MS := (mFor 0 (mRng rng1 (mCons (mOpN cLen (mCons (mVar 1) mNil)) mNil)) (gN 4) lb_law_draw_1)
def b_law_draw : MS :=
  (mSeq (mAsg (mLst false mNil) (gN 2))
  (mSeq (mAsg (mOp2 opSub (mVar 0) (mOp2 opPow (mC (.int 10)) (mC (.int 18)))) (gN 3))
  (mSeq l_law_draw_1
  (mRet (mVar 2)))))
def m_law_draw : List Dt → Out := runF 2 4 b_law_draw
def lb_law_ints_1 : MS :=
  (mIf (mOr (mNot (mTru (mOpN (cIsi own0 tab0) (mCons (mVar 2) (mCons (mC (.ty "int")) mNil))))) (mTru (mOpN (cIsi own0 tab0) (mCons (mVar 2) (mCons (mC (.ty "bool")) mNil))))) (mRet (mC (.bl false))) mPass)
def l_law_ints_1 : MS := (mFor 0 (mSeqI (mVar 0)) (gN 2) lb_law_ints_1)
def b_law_ints : MS :=
  (mSeq (mIf (mOr (mNot (mTru (mOpN (cIsi own0 tab0) (mCons (mVar 0) (mCons (mC (.ty "tuple")) mNil))))) (mTst (mOp2 (opEq true) (mOpN cLen (mCons (mVar 0) mNil)) (mVar 1)))) (mRet (mC (.bl false))) mPass)
  (mSeq l_law_ints_1
  (mRet (mC (.bl true)))))
def m_law_ints : List Dt → Out := runF 2 1 b_law_ints
def b_law_numbers : MS :=
  (mSeq (mAsg (mV (mOp2 opMul (mV (mLst false (mCons (mOp2 opAdd (mOp2 opSub (mVar 3) (mVar 2)) (mC (.int 1))) mNil))) (mVar 1))) (gN 4))
  (mRet (mLc false (mSeqI (mV (mCall m_law_draw (mCons (mVar 0) (mCons (mVar 4) mNil))))) (gN 5) mYes (mOp2 opAdd (mVar 2) (mVar 5)) [5])))
def m_law_numbers : List Dt → Out := runF 4 2 b_law_numbers
def lb_law_pieces_1 : MS :=
  (mIf (mAnd (mTst (mOp2 (opIn true) (mVar 6) (mVar 4))) (mTst (mOp2 opGt (mOpN cSum (mCons (mV (mLc false (mSeqI (mVar 4)) (gN 7) mYes (mOp2 opItem (mOp2 opItem (mVar 0) (mVar 6)) (mVar 7)) [7])) mNil)) (mC (.int 0))))) (mAsg (mV (mOp2 opAdd (mVar 4) (mV (mLst false (mCons (mVar 6) mNil))))) (gN 4)) mPass)
def l_law_pieces_1 : MS := (mFor 0 (mRng rng1 (mCons (mOpN cLen (mCons (mVar 0) mNil)) mNil)) (gN 6) lb_law_pieces_1)
def lb_law_pieces_2 : MS :=
  l_law_pieces_1
def l_law_pieces_2 : MS := (mFor 0 (mRng rng1 (mCons (mOpN cLen (mCons (mVar 0) mNil)) mNil)) (gN 5) lb_law_pieces_2)
def lb_law_pieces_3 : MS :=
  (mIf (mTst (mOp2 (opIn true) (mVar 3) (mVar 2))) (mSeq (mAsg (mV (mLst false (mCons (mVar 3) mNil))) (gN 4))
  (mSeq l_law_pieces_2
  (mSeq (mDrop (mLM (lApp false) (mVar 1) (mCons (mV (mOpN cSort (mCons (mVar 4) mNil))) mNil)))
  (mAsg (mV (mOp2 opAdd (mVar 2) (mVar 4))) (gN 2))))) mPass)
def l_law_pieces_3 : MS := (mFor 0 (mRng rng1 (mCons (mOpN cLen (mCons (mVar 0) mNil)) mNil)) (gN 3) lb_law_pieces_3)
def b_law_pieces : MS :=
  (mSeq (mAsg (mLst false mNil) (gN 1))
  (mSeq (mAsg (mV (mLst false mNil)) (gN 2))
  (mSeq l_law_pieces_3
  (mRet (mVar 1)))))
def m_law_pieces : List Dt → Out := runF 1 7 b_law_pieces
def lb_law_ducts_1 : MS :=
  (mAsg (mV (mOp2 opAdd (mVar 6) (mV (mLst false (mCons (mC (.int 840)) (mCons (mOp2 opMul (mC (.int 2)) (mOp2 opSub (mVar 1) (mC (.int 1)))) (mCons (mVar 4) mNil))))))) (gN 6))
def l_law_ducts_1 : MS := (mFor 0 (mRng rng1 (mCons (mOp2 opAdd (mVar 2) (mVar 3)) mNil)) (gN 7) lb_law_ducts_1)
def lb_law_ducts_2 : MS :=
  (mSeq (mAsg (mOp2 opMod (mOpN cInt (mCons (mOp2 opItem (mVar 8) (mOp2 opMul (mC (.int 3)) (mVar 7))) mNil)) (mVar 1)) (gN 9))
  (mSeq (mAsg (mOp2 opMod (mOpN cInt (mCons (mOp2 opAdd (mOp2 opAdd (mVar 9) (mC (.int 1))) (mOp2 opDiv (mOp2 opItem (mVar 8) (mOp2 opAdd (mOp2 opMul (mC (.int 3)) (mVar 7)) (mC (.int 1)))) (mC (.int 2)))) mNil)) (mVar 1)) (gN 10))
  (mSeq (mIf (mTst (mOp2 opLt (mVar 7) (mVar 2))) (mSeq (mAsg (mOp2 opAdd (mVar 7) (mC (.int 1))) (gN 9))
  (mSeq (mAsg (mOp2 opMod (mOpN cInt (mCons (mOp2 opItem (mVar 8) (mOp2 opMul (mC (.int 3)) (mVar 7))) mNil)) (mOp2 opAdd (mVar 7) (mC (.int 1)))) (gN 10))
  (mIf (mTst (mOp2 (opEq false) (mOp2 opMod (mOpN cInt (mCons (mOp2 opItem (mVar 8) (mOp2 opAdd (mOp2 opMul (mC (.int 3)) (mVar 7)) (mC (.int 1)))) mNil)) (mC (.int 2))) (mC (.int 1)))) (mSeq (mAsg (mVar 10) (gN 9))
  (mAsg (mOp2 opAdd (mVar 7) (mC (.int 1))) (gN 10))) mPass))) mPass)
  (mDrop (mLM (lApp false) (mVar 5) (mCons (mTup (mCons (mVar 9) (mCons (mVar 10) (mCons (mOp2 opAdd (mOp2 opItem (mVar 8) (mOp2 opAdd (mOp2 opMul (mC (.int 3)) (mVar 7)) (mC (.int 2)))) (mC (.int 1))) mNil)))) mNil))))))
def l_law_ducts_2 : MS := (mFor 0 (mRng rng1 (mCons (mOp2 opAdd (mVar 2) (mVar 3)) mNil)) (gN 7) lb_law_ducts_2)
def b_law_ducts : MS :=
  (mSeq (mAsg (mLst false mNil) (gN 5))
  (mSeq (mIf (mTst (mOp2 (opEq false) (mVar 1) (mC (.int 1)))) (mRet (mVar 5)) mPass)
  (mSeq (mAsg (mV (mLst false mNil)) (gN 6))
  (mSeq l_law_ducts_1
  (mSeq (mAsg (mV (mCall m_law_draw (mCons (mVar 0) (mCons (mVar 6) mNil)))) (gN 8))
  (mSeq l_law_ducts_2
  (mRet (mVar 5))))))))
def m_law_ducts : List Dt → Out := runF 5 6 b_law_ducts
def b_law_plan : MS :=
  (mSeq (mAsg (mV (mCall m_law_draw (mCons (mCall m_law_cell (mCons (mVar 0) (mCons (mVar 1) mNil))) (mCons (mV (mLst false (mCons (mVar 2) (mCons (mOp2 opAdd (mVar 3) (mC (.int 1))) (mCons (mC (.int 4)) mNil))))) mNil)))) (gN 5))
  (mSeq (mAsg (mOp2 opAdd (mOp2 opItem (mVar 5) (mC (.int 0))) (mC (.int 1))) (gN 6))
  (mSeq (mAsg (mOp2 opSub (mVar 6) (mC (.int 1))) (gN 7))
  (mSeq (mIf (mTst (mOp2 (opEq false) (mOp2 opItem (mVar 5) (mC (.int 2))) (mC (.int 3)))) (mAsg (mC (.int 0)) (gN 7)) mPass)
  (mRet (mLst false (mCons (mVar 6) (mCons (mV (mCall m_law_ducts (mCons (mCall m_law_cell (mCons (mVar 0) (mCons (mOp2 opAdd (mVar 1) (mC (.int 1))) mNil))) (mCons (mVar 6) (mCons (mVar 7) (mCons (mOp2 opItem (mVar 5) (mC (.int 1))) (mCons (mVar 4) mNil))))))) mNil))))))))
def m_law_plan : List Dt → Out := runF 5 3 b_law_plan
def lb_law_widths_1 : MS :=
  (mDrop (mLM (lApp true) (mVar 2) (mCons (mOp2 opMul (mV (mLst false (mCons (mC (.int 0)) mNil))) (mVar 0)) mNil)))
def l_law_widths_1 : MS := (mFor 0 (mRng rng1 (mCons (mVar 0) mNil)) (gN 3) lb_law_widths_1)
def lb_law_widths_2 : MS :=
  (mSeq (mAsg (mOp2 opItem (mVar 2) (mOp2 opItem (mVar 4) (mC (.int 0)))) (gN 5))
  (mSeq (mSetI (mVar 5) (mOp2 opItem (mVar 4) (mC (.int 1))) (mOp2 opAdd (mOp2 opItem (mVar 5) (mOp2 opItem (mVar 4) (mC (.int 1)))) (mOp2 opItem (mVar 4) (mC (.int 2)))))
  (mSeq (mAsg (mOp2 opItem (mVar 2) (mOp2 opItem (mVar 4) (mC (.int 1)))) (gN 5))
  (mSetI (mVar 5) (mOp2 opItem (mVar 4) (mC (.int 0))) (mOp2 opAdd (mOp2 opItem (mVar 5) (mOp2 opItem (mVar 4) (mC (.int 0)))) (mOp2 opItem (mVar 4) (mC (.int 2))))))))
def l_law_widths_2 : MS := (mFor 0 (mSeqI (mVar 1)) (gN 4) lb_law_widths_2)
def b_law_widths : MS :=
  (mSeq (mAsg (mLst false mNil) (gN 2))
  (mSeq l_law_widths_1
  (mSeq l_law_widths_2
  (mRet (mVar 2)))))
def m_law_widths : List Dt → Out := runF 2 4 b_law_widths
def b_Building_width_rows : MS :=
  (mRet (mFld 0 "_widths" (mVar 0)))
def m_Building_width_rows : List Dt → Out := runF 1 0 b_Building_width_rows
def lb_joined_1 : MS :=
  (mIf (mAnd (mTst (mOp2 opGt (mVar 6) (mC (.int 0)))) (mTst (mOp2 (opIn true) (mVar 5) (mVar 2)))) (mSeq (mDPut (mVar 2) (mVar 5) (mC (.bl true)))
  (mDrop (mLM (lApp false) (mVar 3) (mCons (mVar 5) mNil)))) mPass)
def l_joined_1 : MS := (mFor 0 (mEnum (mCons (mOp2 opItem (mVar 0) (mVar 4)) mNil)) (gT 2 (gsCons (gN 5) (gsCons (gN 6) gsNil))) lb_joined_1)
def lb_joined_2 : MS :=
  (mSeq (mAsg (mLM lPop (mVar 3) mNil) (gN 4))
  l_joined_1)
def lt_joined_2 : MT :=
  (mTst (mOp2 opGt (mOpN cLen (mCons (mVar 3) mNil)) (mC (.int 0))))
def l_joined_2 : MS := (mWhile 100 lt_joined_2 lb_joined_2)
def b_joined : MS :=
  (mSeq (mAsg (mDisp [((mVar 1), (mC (.bl true)))]) (gN 2))
  (mSeq (mAsg (mLst false (mCons (mVar 1) mNil)) (gN 3))
  (mSeq l_joined_2
  (mRet (mOpN cTuple (mCons (mV (mOpN cSort (mCons (mVar 2) mNil))) mNil))))))
def m_joined : List Dt → Out := runF 2 5 b_joined
def b_require_building : MS :=
  (mDrop (mCall m_require (mCons (mOpN (cIsi ownB tabB) (mCons (mVar 0) (mCons (mC (.cls 0)) mNil))) (mCons (mC (.str "building")) mNil))))
def m_require_building : List Dt → Out := runF 1 0 b_require_building
def b_require_load : MS :=
  (mDrop (mCall m_require (mCons (mCall m_is_table (mCons (mVar 1) (mCons (mFld 0 "rooms" (mVar 0)) (mCons (mOp1 opNeg (mC (.int 200))) (mCons (mC (.int 200)) mNil))))) (mCons (mVar 2) mNil))))
def m_require_load : List Dt → Out := runF 3 0 b_require_load
def b_require_room : MS :=
  (mDrop (mCall m_require (mCons (mCall m_is_between (mCons (mVar 1) (mCons (mC (.int 0)) (mCons (mOp2 opSub (mFld 0 "rooms" (mVar 0)) (mC (.int 1))) mNil)))) (mCons (mVar 2) mNil))))
def m_require_room : List Dt → Out := runF 3 0 b_require_room
end Mi

set_option Elab.async false
set_option linter.all false
set_option maxRecDepth 100000
set_option maxHeartbeats 4000000
namespace Mi
open PySem L2
/-! ### what the shared defs answer -/
theorem is_integer_int (i : Int) : m_is_integer [.int i] = .ret (.c (.bl true)) := by
  refine runF_of rfl ?_
  simp [b_is_integer]
theorem is_integer_bl (b : Bool) : m_is_integer [.bl b] = .ret (.c (.bl false)) := by
  refine runF_of rfl ?_
  simp [b_is_integer]
theorem is_between_int (v lo hi : Int) : m_is_between [.int v, .int lo, .int hi] = .ret (.c (.bl (decide (lo ≤ v) && decide (v ≤ hi)))) := by
  refine runF_of rfl ?_
  simp [b_is_between, is_integer_int, mChain]
  by_cases h : lo ≤ v <;> simp [h]
theorem require_t (x : Dt) : m_require [.bl true, x] = .ret (.c .non) := by
  refine runF_of rfl ?_
  simp [b_require]
/-- the script's k-th cell -/
def cellV (ns : List Int) (k : Nat) : Int := if k < ns.length then nth ns k else 0
theorem law_cell_ok (ns : List Int) (k : Nat) (hn : ns.length ≤ 63) : m_law_cell [.scr ns, .int k] = .ret (.c (.int (cellV ns k))) := by
  refine runF_of rfl ?_
  unfold cellV
  by_cases h : k < ns.length
  · have h1 : opItem (.c (.scr ns)) (.c (.int (k : Int))) [] = some (.c (.int (nth ns (k : Int).toNat)), []) := opItem_scr (by omega) (by omega)
    simp [b_law_cell, h, h1]
  · simp [b_law_cell, h]

theorem runF_R {n k : Nat} {body : MS} {ds : List Dt} {R : Out → Prop} (hl : ds.length = n) (h : Wp (body (ds.map (fun d => some (.c d)) ++ List.replicate k none) []) fun fl cs => match fl with
    | .rt l => R (outL cs l)
    | .nx _ => R (.ret (.c .non))
    | _ => False) : R (runF n k body ds) := by
  obtain ⟨fl, cs, e, q⟩ := h.get
  have : runF n k body ds = match (Res.ok fl cs : Res Fl) with
    | .ok (.rt l) cs => outL cs l
    | .ok (.nx _) _ => .ret (.c .non)
    | .exc e _ _ => .exc e
    | _ => .bad := by
    unfold runF
    rw [if_pos hl, e]
    all_goals (cases fl <;> rfl)
  rw [this]
  cases fl with
  | rt l => exact q
  | nx sl => exact q
  | bk sl => exact q.elim
  | ct sl => exact q.elim
/-- draws d below the bounds b -/
def Dr : List Int → List Int → Prop
  | [], [] => True
  | b :: bs, d :: ds => 0 ≤ d ∧ d < b ∧ Dr bs ds
  | _, _ => False
theorem Dr.length : ∀ {bs ds : List Int}, Dr bs ds → ds.length = bs.length
  | [], [], _ => rfl
  | _ :: bs, _ :: ds, h => by simp [Dr.length h.2.2]
  | [], _ :: _, h => h.elim
  | _ :: _, [], h => h.elim
theorem Dr.snoc : ∀ {bs ds : List Int} {b d : Int}, Dr bs ds → 0 ≤ d → d < b → Dr (bs ++ [b]) (ds ++ [d])
  | [], [], _, _, _, h1, h2 => ⟨h1, h2, trivial⟩
  | _ :: bs, _ :: ds, _, _, h, h1, h2 => ⟨h.1, h.2.1, Dr.snoc h.2.2 h1 h2⟩
  | [], _ :: _, _, _, h, _, _ => h.elim
  | _ :: _, [], _, _, h, _, _ => h.elim
theorem Dr.get : ∀ {bs ds : List Int}, Dr bs ds → ∀ i, i < bs.length → 0 ≤ nth ds i ∧ nth ds i < nth bs i
  | [], [], _, i, hi => by simp at hi
  | b :: bs, d :: ds, h, 0, _ => ⟨h.1, h.2.1⟩
  | b :: bs, d :: ds, h, i + 1, hi => by
    exact Dr.get h.2.2 i (by simpa using hi)
  | [], _ :: _, h, _, _ => h.elim
  | _ :: _, [], h, _, _ => h.elim
theorem take_snoc {α : Type} [Inhabited α] {xs : List α} {i : Nat} (h : i < xs.length) : xs.take (i + 1) = xs.take i ++ [nth xs i] := by
  rw [List.take_add_one, nth_get? h]
  simp
@[simp] theorem push_c0 {ds : List Dt} {d : Dt} {cs : Cs} : push false 0 (.c d) (.lst ds :: cs) = if ds.length < sizeLine then some (.lst (ds ++ [d]) :: cs) else none := rfl
@[simp] theorem lApp_ap {kp : Bool} {n : Nat} {x : Lv} {cs : Cs} : lApp kp n [x] cs = (push kp n x cs).map fun cs' => (.c .non, cs') := rfl
@[simp] theorem mLM_ap {f : Nat → List Lv → Cs → Option (Lv × Cs)} {mo : ME} {ma : MA} {sl : Sl} {cs : Cs} : mLM f mo ma sl cs = (mo sl cs).bind fun o cs1 => match o with
  | .p n => if isLC cs1 n = true then (ma sl cs1).bind fun ls cs2 => up (f n ls cs2) else .bad
  | _ => .bad := rfl
@[simp] theorem isLC_0 {ds : List Dt} {cs : Cs} : isLC (.lst ds :: cs) 0 = true := rfl
@[simp] theorem outL_0 {ds : List Dt} {cs : Cs} : outL (.lst ds :: cs) (.p 0) = .ret (.l ds) := rfl
theorem law_draw_ok (c : Int) (bs : List Int) (hb : ∀ b ∈ bs, 0 < b ∧ b < 2 ^ 64) (hl : bs.length ≤ 100000) : ∃ ds, m_law_draw [.int c, .lst (bs.map .int)] = .ret (.l (ds.map .int)) ∧ Dr bs ds := by
  refine runF_R (n := 2) (k := 4) (body := b_law_draw) (R := fun o => ∃ ds : List Int, o = .ret (.l (ds.map .int)) ∧ Dr bs ds) rfl ?_
  simp [b_law_draw]
  unfold l_law_draw_1
  generalize c - 1000000000000000000 = r0
  refine wp_forR bs.length (fun i sl cs => ∃ (rest : Int) (x4 x5 : Option Lv) (ds : List Int), Dr (bs.take i) ds ∧ sl = [some (.c (.int c)), some (.c (.lst (bs.map .int))), some (.p 0), some (.c (.int rest)), x4, x5] ∧ cs = [.lst (ds.map .int)]) (cs1 := [.lst []]) ?_ ?_ ?_ ?_ ?_
  · simp
  · omega
  · exact ⟨_, _, _, [], by simp [Dr], rfl, rfl⟩
  · rintro i hi sl cs ⟨rest, x4, x5, ds, hd, rfl, rfl⟩
    have hbi := hb (nth bs i) (nth_mem hi)
    have h1 : atI (bs.map Dt.int) (i : Int) = some (.int (nth bs i)) := atI_map (f := Dt.int) (by omega) (by omega)
    have hlen := hd.length
    have hle : ds.length < 16777216 := by
      rw [hlen]; simp; omega
    have htk := take_snoc hi
    have m1 : ∀ z : Int, opMod (.c (.int z)) (.c (.int (nth bs i))) = fun cs => some (.c (.int (z % nth bs i)), cs) := fun z => funext fun cs => opMod_int hbi.1
    have m2 : ∀ z : Int, opDiv (.c (.int z)) (.c (.int (nth bs i))) = fun cs => some (.c (.int (z / nth bs i)), cs) := fun z => funext fun cs => opDiv_int hbi.1 hbi.2
    have m3 : ∀ z cs, opMod (.c (.int z)) (.c (.int 1000003)) cs = some (.c (.int (z % 1000003)), cs) := fun z cs => opMod_int (by decide)
    have m4 : ∀ z cs, opMod (.c (.int z)) (.c (.int 2147483647)) cs = some (.c (.int (z % 2147483647)), cs) := fun z cs => opMod_int (by decide)
    have m5 : ∀ z cs, opMul (.c (.int (z % 1000003))) (.c (.int 48271)) cs = some (.c (.int (z % 1000003 * 48271)), cs) := fun z cs => opMul_int (by omega) (by omega) (by omega) (by omega)
    have m6 : ∀ cs, opMul (.c (.int (i : Int))) (.c (.int 69621)) cs = some (.c (.int (i * 69621)), cs) := fun cs => opMul_int (by omega) (by omega) (by omega) (by omega)
    have m7 : ∀ z cs, opMul (.c (.int (z % 2147483647))) (.c (.int 16807)) cs = some (.c (.int (z % 2147483647 * 16807)), cs) := fun z cs => opMul_int (by omega) (by omega) (by omega) (by omega)
    have m8 : ∀ z cs, opDiv (.c (.int z)) (.c (.int 7)) cs = some (.c (.int (z / 7)), cs) := fun z cs => opDiv_int (by omega) (by omega)
    have md : ∀ z : Int, 0 ≤ z % nth bs i ∧ z % nth bs i < nth bs i := fun z => ⟨Int.emod_nonneg _ (by omega), Int.emod_lt_of_pos _ hbi.1⟩
    by_cases hc : (1000000000000000000 : Int) ≤ c
    · simp [lb_law_draw_1, hc, h1, m1, m2, hle]
      exact ⟨_, _, _, ds ++ [rest % nth bs i], by rw [htk]; exact hd.snoc (md _).1 (md _).2, ⟨rfl, rfl, rfl⟩, by simp⟩
    · simp [lb_law_draw_1, hc, h1, m1, m2, m3, m4, m5, m6, m7, m8, hle]
      exact ⟨_, _, _, ds ++ [(((c % 1000003 * 48271 + i * 69621 + 11) % 2147483647 * 16807 + i) % 2147483647 / 7) % nth bs i], by rw [htk]; exact hd.snoc (md _).1 (md _).2, ⟨rfl, rfl, rfl⟩, by simp⟩
  · rintro sl cs ⟨rest, x4, x5, ds, hd, rfl, rfl⟩
    rw [List.take_length] at hd
    simp
    exact ⟨ds, rfl, hd⟩
end Mi

set_option Elab.async false
set_option linter.all false
set_option maxRecDepth 100000
set_option maxHeartbeats 4000000
namespace Mi
open PySem L2
/-! ### numbers, ducts -/
theorem law_numbers_ok (c : Int) (n : Nat) (lo hi : Int) (h : lo ≤ hi) (h1 : -10000000 ≤ lo) (h2 : hi ≤ 10000000) (hn : n ≤ 1000) : ∃ ls : List Int, m_law_numbers [.int c, .int n, .int lo, .int hi] = .ret (.l (ls.map .int)) ∧ ls.length = n ∧ ∀ x ∈ ls, lo ≤ x ∧ x ≤ hi := by
  obtain ⟨bs, hbs⟩ : ∃ bs, bs = List.replicate n (hi - lo + 1) := ⟨_, rfl⟩
  have hlb : bs.length = n := by rw [hbs]; simp
  obtain ⟨ds, e, hd⟩ := law_draw_ok c bs (fun b hb => by rw [hbs] at hb; have := List.eq_of_mem_replicate hb; omega) (by omega)
  refine runF_R (n := 4) (k := 2) (body := b_law_numbers) (R := fun o => ∃ ls : List Int, o = .ret (.l (ls.map .int)) ∧ ls.length = n ∧ ∀ x ∈ ls, lo ≤ x ∧ x ≤ hi) rfl ?_
  have hb : mV (mOp2 opMul (mV (mLst false (mCons (mOp2 opAdd (mOp2 opSub (mVar 3) (mVar 2)) (mC (.int 1))) mNil))) (mVar 1)) [some (.c (.int c)), some (.c (.int n)), some (.c (.int lo)), some (.c (.int hi)), none, none] [] = .ok (.c (.lst (bs.map .int))) [] := by
    have e1 : mV (mLst false (mCons (mOp2 opAdd (mOp2 opSub (mVar 3) (mVar 2)) (mC (.int 1))) mNil)) [some (.c (.int c)), some (.c (.int n)), some (.c (.int lo)), some (.c (.int hi)), none, none] [] = .ok (.c (.lst [.int (hi - lo + 1)])) [] := mV_new (by simp) rfl
    have e2 := opMul_one (cs := []) (d := .int (hi - lo + 1)) (k := n) (by omega) (by omega)
    refine mV_new ?_ rfl
    simp [e1, e2, hbs]
  have hc : mV (mCall m_law_draw (mCons (mVar 0) (mCons (mVar 4) mNil))) [some (.c (.int c)), some (.c (.int n)), some (.c (.int lo)), some (.c (.int hi)), some (.c (.lst (bs.map .int))), none] [] = .ok (.c (.lst (ds.map .int))) [] :=
    vcall (ds := [.int c, .lst (bs.map .int)]) (by simp) (by rw [e]; rfl) rfl
  have hlen := hd.length
  have hl := lc_ok (mi := mSeqI (mV (mCall m_law_draw (mCons (mVar 0) (mCons (mVar 4) mNil))))) (s := .seq (.c (.lst (ds.map .int)))) (g := gN 5) (tt := mYes) (te := mOp2 opAdd (mVar 2) (mVar 5)) (vs := [5]) (sl := [some (.c (.int c)), some (.c (.int n)), some (.c (.int lo)), some (.c (.int hi)), some (.c (.lst (bs.map .int))), none]) (cs := []) ds (fun d => .c (.int d)) (fun _ => true) (fun d => .int (lo + d))
    (by unfold mSeqI; rw [hc]; rfl) (by simp [Src.itms]) rfl (by omega) (fun a ha cs' hn => ⟨_, rfl, by simp, by simp [wipeS]⟩)
  simp [b_law_numbers, hb, hl]
  refine ⟨ds.map (lo + ·), by simp [outL, Function.comp_def], by rw [List.length_map]; omega, fun x hx => ?_⟩
  obtain ⟨d, hdm, rfl⟩ := List.mem_map.mp hx
  obtain ⟨i, hi', rfl⟩ := List.mem_iff_getElem.mp hdm
  have hib : i < bs.length := by omega
  have := hd.get i hib
  rw [nth_get hi', nth_get hib] at this
  have e3 : bs[i] = hi - lo + 1 := by simp [hbs]
  rw [e3] at this
  omega
/-- a duct -/
abbrev Du := Nat × Nat × Int
def duD (d : Du) : Dt := .tup [.int d.1, .int d.2.1, .int d.2.2]
/-- a right duct among r rooms, with widths up to m -/
def DuOk (r : Nat) (m : Int) (d : Du) : Prop := d.1 < r ∧ d.2.1 < r ∧ d.1 ≠ d.2.1 ∧ 1 ≤ d.2.2 ∧ d.2.2 ≤ m
/-- duct k joins the room k + 1 with a room before it -/
def Joins (k : Nat) (d : Du) : Prop := (d.1 = k + 1 ∧ d.2.1 ≤ k) ∨ (d.2.1 = k + 1 ∧ d.1 ≤ k)
structure DucksOk (r j : Nat) (m : Int) (ds : List Du) : Prop where
  ok : ∀ d ∈ ds, DuOk r m d
  jn : ∀ k, k < j → ∃ d, ds[k]? = some d ∧ Joins k d
def tri (n : Nat) (x y z : Int) : List Int := (List.replicate n [x, y, z]).flatten
theorem tri_succ (n : Nat) (x y z : Int) : tri (n + 1) x y z = tri n x y z ++ [x, y, z] := by
  unfold tri
  rw [List.replicate_succ', List.flatten_append]
  simp
theorem tri_len (n : Nat) (x y z : Int) : (tri n x y z).length = 3 * n := by
  induction n with
  | zero => rfl
  | succ n ih => rw [tri_succ, List.length_append, ih]; simp; omega
theorem tri_mem {n : Nat} {x y z b : Int} (h : b ∈ tri n x y z) : b = x ∨ b = y ∨ b = z := by
  unfold tri at h
  simp only [List.mem_flatten, List.mem_replicate] at h
  obtain ⟨l, ⟨_, rfl⟩, hb⟩ := h
  simpa using hb
theorem tri_get (x y z : Int) : ∀ (n k : Nat), k < n → nth (tri n x y z) (3 * k) = x ∧ nth (tri n x y z) (3 * k + 1) = y ∧ nth (tri n x y z) (3 * k + 2) = z
  | 0, k, h => by omega
  | n + 1, 0, _ => ⟨rfl, rfl, rfl⟩
  | n + 1, k + 1, h => by
    have ih := tri_get x y z n k (by omega)
    have e : tri (n + 1) x y z = x :: y :: z :: tri n x y z := rfl
    have e1 : 3 * (k + 1) = 3 * k + 1 + 1 + 1 := by omega
    rw [e, e1]
    exact ih
theorem law_ducts_ok (c : Int) (r j e : Nat) (m : Int) (hr : 1 ≤ r) (hr2 : r ≤ 1000) (hj : j < r) (hj2 : j ≤ 1000) (he : e ≤ 1000) (hm : 1 ≤ m) (hm2 : m ≤ 1000) :
    ∃ ds : List Du, m_law_ducts [.int c, .int r, .int j, .int e, .int m] = .ret (.l (ds.map duD)) ∧ ds.length = (if r = 1 then 0 else j + e) ∧ DucksOk r j m ds := by
  refine runF_R (n := 5) (k := 6) (body := b_law_ducts) (R := fun o => ∃ ds : List Du, o = .ret (.l (ds.map duD)) ∧ ds.length = (if r = 1 then 0 else j + e) ∧ DucksOk r j m ds) rfl ?_
  by_cases h1 : r = 1
  · have : j = 0 := by omega
    subst this
    subst h1
    simp [b_law_ducts]
    exact ⟨fun d hd => by simp at hd, fun k hk => by omega⟩
  · have hri : ¬ ((r : Int) = 1) := by omega
    simp [b_law_ducts, hri]
    obtain ⟨bs, hbs⟩ : ∃ bs, bs = tri (j + e) 840 (2 * ((r : Int) - 1)) m := ⟨_, rfl⟩
    have hlb : bs.length = 3 * (j + e) := by rw [hbs, tri_len]
    obtain ⟨dr, hdr, hD⟩ := law_draw_ok c bs (fun b hb => by rw [hbs] at hb; rcases tri_mem hb with rfl | rfl | rfl <;> omega) (by omega)
    have hdl := hD.length
    unfold l_law_ducts_1
    refine wp_forR (j + e) (fun i sl cs => ∃ x7, sl = [some (.c (.int c)), some (.c (.int r)), some (.c (.int j)), some (.c (.int e)), some (.c (.int m)), some (.p 0), some (.c (.lst ((tri i 840 (2 * ((r : Int) - 1)) m).map .int))), x7, none, none, none] ∧ cs = [.lst []]) (cs1 := [.lst []]) ?_ ?_ ?_ ?_ ?_
    · simp
    · omega
    · exact ⟨_, rfl, rfl⟩
    · rintro i hi sl cs ⟨x7, rfl, rfl⟩
      have m1 : ∀ cs, opMul (.c (.int 2)) (.c (.int ((r : Int) - 1))) cs = some (.c (.int (2 * ((r : Int) - 1))), cs) := fun cs => opMul_int (by omega) (by omega) (by omega) (by omega)
      have e1 : mV (mLst false (mCons (mC (.int 840)) (mCons (mOp2 opMul (mC (.int 2)) (mOp2 opSub (mVar 1) (mC (.int 1)))) (mCons (mVar 4) mNil)))) [some (.c (.int c)), some (.c (.int r)), some (.c (.int j)), some (.c (.int e)), some (.c (.int m)), some (.p 0), some (.c (.lst ((tri i 840 (2 * ((r : Int) - 1)) m).map .int))), some (.c (.int i)), none, none, none] [.lst []] = .ok (.c (.lst ([840, 2 * ((r : Int) - 1), m].map .int))) [.lst []] := mV_new (by simp [m1]) rfl
      have e2 := opAdd_lst (cs := [.lst []]) (ds := (tri i 840 (2 * ((r : Int) - 1)) m).map .int) (es := [840, 2 * ((r : Int) - 1), m].map .int) (by simp [tri_len]; omega)
      have e3 : mV (mOp2 opAdd (mVar 6) (mV (mLst false (mCons (mC (.int 840)) (mCons (mOp2 opMul (mC (.int 2)) (mOp2 opSub (mVar 1) (mC (.int 1)))) (mCons (mVar 4) mNil)))))) [some (.c (.int c)), some (.c (.int r)), some (.c (.int j)), some (.c (.int e)), some (.c (.int m)), some (.p 0), some (.c (.lst ((tri i 840 (2 * ((r : Int) - 1)) m).map .int))), some (.c (.int i)), none, none, none] [.lst []] = .ok (.c (.lst ((tri (i + 1) 840 (2 * ((r : Int) - 1)) m).map .int))) [.lst []] := by
        refine mV_new ?_ rfl
        have e4 : mOp2 opAdd (mVar 6) (mV (mLst false (mCons (mC (.int 840)) (mCons (mOp2 opMul (mC (.int 2)) (mOp2 opSub (mVar 1) (mC (.int 1)))) (mCons (mVar 4) mNil))))) [some (.c (.int c)), some (.c (.int r)), some (.c (.int j)), some (.c (.int e)), some (.c (.int m)), some (.p 0), some (.c (.lst ((tri i 840 (2 * ((r : Int) - 1)) m).map .int))), some (.c (.int i)), none, none, none] [.lst []] = (up (opAdd (.c (.lst ((tri i 840 (2 * ((r : Int) - 1)) m).map .int))) (.c (.lst ([840, 2 * ((r : Int) - 1), m].map .int))) [.lst []])) := by
          show Res.bind (mV _ _ _) _ = _
          rw [e1]
          rfl
        rw [e4, e2, tri_succ]
        simp
      simp [lb_law_ducts_1, e3]
    · rintro sl cs ⟨x7, rfl, rfl⟩
      rw [← hbs]
      have e5 : mV (mCall m_law_draw (mCons (mVar 0) (mCons (mVar 6) mNil))) [some (.c (.int c)), some (.c (.int r)), some (.c (.int j)), some (.c (.int e)), some (.c (.int m)), some (.p 0), some (.c (.lst (bs.map .int))), x7, none, none, none] [.lst []] = .ok (.c (.lst (dr.map .int))) [.lst []] := vcall (ds := [.int c, .lst (bs.map .int)]) (by simp) (by rw [hdr]; rfl) rfl
      simp [e5]
      unfold l_law_ducts_2
      refine wp_forR (j + e) (fun i sl cs => ∃ x7 x9 x10, ∃ ds : List Du, ds.length = i ∧ DucksOk r (min i j) m ds ∧ sl = [some (.c (.int c)), some (.c (.int r)), some (.c (.int j)), some (.c (.int e)), some (.c (.int m)), some (.p 0), some (.c (.lst (bs.map .int))), x7, some (.c (.lst (dr.map .int))), x9, x10] ∧ cs = [.lst (ds.map duD)]) (cs1 := [.lst []]) ?_ ?_ ?_ ?_ ?_
      · simp
      · omega
      · exact ⟨_, _, _, [], rfl, ⟨by simp, by omega⟩, rfl, rfl⟩
      · rintro i hi sl cs ⟨x7', x9, x10, ds, hl, ⟨hok, hjn⟩, rfl, rfl⟩
        have m1 : ∀ cs, opMul (.c (.int 3)) (.c (.int (i : Int))) cs = some (.c (.int (3 * (i : Int))), cs) := fun cs => opMul_int (by omega) (by omega) (by omega) (by omega)
        have a0 : atI (dr.map Dt.int) (3 * (i : Int)) = some (.int (nth dr (3 * i))) := atI_mapN (by omega) (by omega)
        have a1 : atI (dr.map Dt.int) (3 * (i : Int) + 1) = some (.int (nth dr (3 * i + 1))) := atI_mapN (by omega) (by omega)
        have a2 : atI (dr.map Dt.int) (3 * (i : Int) + 2) = some (.int (nth dr (3 * i + 2))) := atI_mapN (by omega) (by omega)
        obtain ⟨t0, t1, t2⟩ := tri_get 840 (2 * ((r : Int) - 1)) m (j + e) i hi
        rw [← hbs] at t0 t1 t2
        have b0 := hD.get (3 * i) (by omega)
        have b1 := hD.get (3 * i + 1) (by omega)
        have b2 := hD.get (3 * i + 2) (by omega)
        rw [t0] at b0
        rw [t1] at b1
        rw [t2] at b2
        generalize nth dr (3 * i) = d0 at *
        generalize nth dr (3 * i + 1) = d1 at *
        generalize nth dr (3 * i + 2) = d2 at *
        have q1 : ∀ z cs, opMod (.c (.int z)) (.c (.int (r : Int))) cs = some (.c (.int (z % r)), cs) := fun z cs => opMod_int (by omega)
        have q2 : ∀ z cs, opMod (.c (.int z)) (.c (.int ((i : Int) + 1))) cs = some (.c (.int (z % ((i : Int) + 1))), cs) := fun z cs => opMod_int (by omega)
        have q3 : ∀ z cs, opMod (.c (.int z)) (.c (.int 2)) cs = some (.c (.int (z % 2)), cs) := fun z cs => opMod_int (by omega)
        have q4 : ∀ z cs, opDiv (.c (.int z)) (.c (.int 2)) cs = some (.c (.int (z / 2)), cs) := fun z cs => opDiv_int (by omega) (by omega)
        have hlt : ds.length < 16777216 := by omega
        have key : ∀ (a b : Nat) (w : Int), DuOk r m (a, b, w) → (i < j → Joins i (a, b, w)) → ∃ ds' : List Du, ds'.length = i + 1 ∧ DucksOk r (min (i + 1) j) m ds' ∧ ds.map duD ++ [.tup [.int a, .int b, .int w]] = ds'.map duD := fun a b w ho hj => by
          refine ⟨ds ++ [(a, b, w)], by simp [hl], ⟨fun d hd => ?_, fun k hk => ?_⟩, by simp [duD]⟩
          · rcases List.mem_append.mp hd with h | h
            · exact hok d h
            · simp at h; subst h; exact ho
          · by_cases hki : k < i
            · obtain ⟨d, h1, h2⟩ := hjn k (by omega)
              exact ⟨d, by rw [List.getElem?_append_left (by omega)]; exact h1, h2⟩
            · have : k = i := by omega
              subst this
              exact ⟨(a, b, w), by rw [List.getElem?_append_right (by omega)]; simp [hl], hj (by omega)⟩
        by_cases hij : i < j
        · have hij' : (i : Int) < j := by omega
          have e0 : 0 ≤ d0 % ((i : Int) + 1) := Int.emod_nonneg _ (by omega)
          have e1 : d0 % ((i : Int) + 1) < (i : Int) + 1 := Int.emod_lt_of_pos _ (by omega)
          by_cases ho : d1 % 2 = 1
          · simp [lb_law_ducts_2, m1, a0, a1, a2, q1, q2, q3, q4, hij', ho, hlt]
            obtain ⟨ds', h1, h2, h4⟩ := key (d0 % ((i : Int) + 1)).toNat (i + 1) (d2 + 1) ⟨by simp; omega, by simp; omega, by simp; omega, by simp; omega, by simp; omega⟩ (fun _ => .inr ⟨rfl, by simp; omega⟩)
            refine ⟨_, _, _, ds', h1, h2, ⟨rfl, rfl, rfl⟩, ?_⟩
            rw [← h4]
            simp
            omega
          · simp [lb_law_ducts_2, m1, a0, a1, a2, q1, q2, q3, q4, hij', ho, hlt]
            obtain ⟨ds', h1, h2, h4⟩ := key (i + 1) (d0 % ((i : Int) + 1)).toNat (d2 + 1) ⟨by simp; omega, by simp; omega, by simp; omega, by simp; omega, by simp; omega⟩ (fun _ => .inl ⟨rfl, by simp; omega⟩)
            refine ⟨_, _, _, ds', h1, h2, ⟨rfl, rfl, rfl⟩, ?_⟩
            rw [← h4]
            simp
            omega
        · have hij' : ¬ (i : Int) < j := by omega
          have e0 : 0 ≤ d0 % (r : Int) := Int.emod_nonneg _ (by omega)
          have e1 : d0 % (r : Int) < r := Int.emod_lt_of_pos _ (by omega)
          have f0 : 0 ≤ (d0 % (r : Int) + 1 + d1 / 2) % r := Int.emod_nonneg _ (by omega)
          have f1 : (d0 % (r : Int) + 1 + d1 / 2) % r < r := Int.emod_lt_of_pos _ (by omega)
          have f2 : (d0 % (r : Int) + 1 + d1 / 2) % r ≠ d0 % (r : Int) := by
            intro z
            have g1 : d1 / 2 < r - 1 := by omega
            have g2 : 0 ≤ d1 / 2 := by omega
            by_cases hh : d0 % (r : Int) + 1 + d1 / 2 < r
            · rw [Int.emod_eq_of_lt (by omega) hh] at z; omega
            · have : (d0 % (r : Int) + 1 + d1 / 2) % r = d0 % (r : Int) + 1 + d1 / 2 - r := by
                rw [← Int.sub_emod_right, Int.emod_eq_of_lt (by omega) (by omega)]
              omega
          simp [lb_law_ducts_2, m1, a0, a1, a2, q1, q2, q3, q4, hij', hlt]
          obtain ⟨ds', h1, h2, h4⟩ := key (d0 % (r : Int)).toNat ((d0 % (r : Int) + 1 + d1 / 2) % r).toNat (d2 + 1) ⟨by simp; omega, by simp; omega, by simp; omega, by simp; omega, by simp; omega⟩ (fun h => by omega)
          refine ⟨_, _, _, ds', h1, h2, ⟨rfl, rfl, rfl⟩, ?_⟩
          rw [← h4]
          simp
          omega
      · rintro sl cs ⟨x7', x9, x10, ds, hl, ⟨hok, hjn⟩, rfl, rfl⟩
        simp
        exact ⟨ds, rfl, by simp [h1, hl], ⟨hok, fun k hk => hjn k (by omega)⟩⟩
end Mi

set_option Elab.async false
set_option linter.all false
set_option maxRecDepth 100000
set_option maxHeartbeats 4000000
namespace Mi
open PySem L2
theorem dr3 {a b c : Int} {ds : List Int} (h : Dr [a, b, c] ds) : ∃ x y z, ds = [x, y, z] ∧ (0 ≤ x ∧ x < a) ∧ (0 ≤ y ∧ y < b) ∧ (0 ≤ z ∧ z < c) := by
  match ds, h with
  | [x, y, z], h => exact ⟨x, y, z, rfl, ⟨h.1, h.2.1⟩, ⟨h.2.2.1, h.2.2.2.1⟩, ⟨h.2.2.2.2.1, h.2.2.2.2.2.1⟩⟩
theorem dr1 {a : Int} {ds : List Int} (h : Dr [a] ds) : ∃ x, ds = [x] ∧ (0 ≤ x ∧ x < a) := by
  match ds, h with
  | [x], h => exact ⟨x, rfl, ⟨h.1, h.2.1⟩⟩
structure PlanOk (mr me r j : Nat) (mw : Int) (ds : List Du) : Prop where
  r1 : 1 ≤ r
  r2 : r ≤ mr
  jj : j = r - 1 ∨ j = 0
  len : r = 1 → ds.length = 0
  len2 : ds.length ≤ j + me
  ok : DucksOk r j mw ds
theorem law_plan_ok (ns : List Int) (hn : ns.length ≤ 63) (at_ mr me : Nat) (mw : Int) (h1 : 1 ≤ mr) (h2 : mr ≤ 1000) (h3 : me ≤ 999) (h4 : 1 ≤ mw) (h5 : mw ≤ 1000) :
    ∃ (r j : Nat) (ds : List Du), m_law_plan [.scr ns, .int at_, .int mr, .int me, .int mw] = .ret (.l [.int r, .lst (ds.map duD)]) ∧ PlanOk mr me r j mw ds := by
  refine runF_R (n := 5) (k := 3) (body := b_law_plan) (R := fun o => ∃ (r j : Nat) (ds : List Du), o = .ret (.l [.int r, .lst (ds.map duD)]) ∧ PlanOk mr me r j mw ds) rfl ?_
  obtain ⟨dr, e, hD⟩ := law_draw_ok (cellV ns at_) [mr, me + 1, 4] (fun b hb => by simp at hb; omega) (by simp)
  obtain ⟨x, y, z, rfl, hx, hy, hz⟩ := dr3 hD
  have c1 := law_cell_ok ns at_ hn
  have c2 := law_cell_ok ns (at_ + 1) hn
  have p1 : ((at_ + 1 : Nat) : Int) = (at_ : Int) + 1 := by omega
  rw [p1] at c2
  simp [b_law_plan]
  refine wp_vcall [.int (cellV ns at_), .lst ([(mr : Int), me + 1, 4].map .int)] (.lst ([x, y, z].map .int)) ?_ (by rw [e]; rfl) rfl ?_
  · have q : mV (mLst false (mCons (mVar 2) (mCons (mOp2 opAdd (mVar 3) (mC (.int 1))) (mCons (mC (.int 4)) mNil)))) [some (.c (.scr ns)), some (.c (.int at_)), some (.c (.int mr)), some (.c (.int me)), some (.c (.int mw)), none, none, none] [] = .ok (.c (.lst [.int mr, .int (me + 1), .int 4])) [] := mV_new (by simp) rfl
    simp [c1, q]
  obtain ⟨r, hr⟩ : ∃ r : Nat, (r : Int) = x + 1 := ⟨(x + 1).toNat, by omega⟩
  obtain ⟨e', he'⟩ : ∃ r : Nat, (r : Int) = y := ⟨y.toNat, by omega⟩
  by_cases h3z : z = 3
  · obtain ⟨ds, q1, q2, q3⟩ := law_ducts_ok (cellV ns (at_ + 1)) r 0 e' mw (by omega) (by omega) (by omega) (by omega) (by omega) h4 h5
    simp [h3z]
    refine wp_vcall [.int (cellV ns (at_ + 1)), .int r, .int (0 : Nat), .int e', .int mw] (.lst (ds.map duD)) ?_ (by rw [q1]; rfl) rfl ?_
    · simp [c2, hr, he']
    · simp
      exact ⟨r, 0, ds, by simp [hr], ⟨by omega, by omega, .inr rfl, fun h => by rw [q2, if_pos h], by rw [q2]; split <;> omega, q3⟩⟩
  · obtain ⟨ds, q1, q2, q3⟩ := law_ducts_ok (cellV ns (at_ + 1)) r (r - 1) e' mw (by omega) (by omega) (by omega) (by omega) (by omega) h4 h5
    have hr1 : ((r - 1 : Nat) : Int) = x := by omega
    simp [h3z]
    refine wp_vcall [.int (cellV ns (at_ + 1)), .int r, .int ((r - 1 : Nat) : Int), .int e', .int mw] (.lst (ds.map duD)) ?_ (by rw [q1]; rfl) rfl ?_
    · simp [c2, hr, he', hr1]
    · simp
      exact ⟨r, r - 1, ds, by simp [hr], ⟨by omega, by omega, .inl rfl, fun h => by rw [q2, if_pos h], by rw [q2]; split <;> omega, q3⟩⟩
/-! ### tables of widths -/
/-- the width between a and b -/
def wid : List Du → Nat → Nat → Int
  | [], _, _ => 0
  | d :: ds, a, b => (if (d.1 = a ∧ d.2.1 = b) ∨ (d.1 = b ∧ d.2.1 = a) then d.2.2 else 0) + wid ds a b
theorem wid_snoc (d : Du) (a b : Nat) : ∀ ds : List Du, wid (ds ++ [d]) a b = wid ds a b + if (d.1 = a ∧ d.2.1 = b) ∨ (d.1 = b ∧ d.2.1 = a) then d.2.2 else 0
  | [] => by simp [wid]
  | e :: ds => by simp only [List.cons_append, wid, wid_snoc d a b ds]; omega
theorem wid_sym (a b : Nat) : ∀ ds : List Du, wid ds a b = wid ds b a
  | [] => rfl
  | d :: ds => by
    simp only [wid, wid_sym a b ds]
    congr 1
    by_cases h : (d.1 = a ∧ d.2.1 = b) ∨ (d.1 = b ∧ d.2.1 = a)
    · rw [if_pos h, if_pos (h.symm)]
    · rw [if_neg h, if_neg fun z => h z.symm]
/-- the table of widths: its rows -/
def rowW (r : Nat) (ds : List Du) (a : Nat) : List Int := (List.range r).map fun b => wid ds a b
def tabW (r : Nat) (ds : List Du) : List (List Int) := (List.range r).map fun a => rowW r ds a
theorem rowW_len (r : Nat) (ds : List Du) (a : Nat) : (rowW r ds a).length = r := by simp [rowW]
theorem tabW_len (r : Nat) (ds : List Du) : (tabW r ds).length = r := by simp [tabW]
theorem rowW_nth {r : Nat} {ds : List Du} {a b : Nat} (h : b < r) : nth (rowW r ds a) b = wid ds a b := by
  rw [nth_get (by rw [rowW_len]; exact h)]
  simp [rowW]
theorem tabW_nth {r : Nat} {ds : List Du} {a : Nat} (h : a < r) : nth (tabW r ds) a = rowW r ds a := by
  rw [nth_get (by rw [tabW_len]; exact h)]
  simp [tabW]
theorem rowW_set {r : Nat} {ds : List Du} {d : Du} {a b : Nat} (hab : (d.1 = a ∧ d.2.1 = b) ∨ (d.1 = b ∧ d.2.1 = a)) (hne : a ≠ b) : (rowW r ds a).set b (wid ds a b + d.2.2) = rowW r (ds ++ [d]) a := by
  apply List.ext_getElem
  · simp [rowW]
  · intro i h1 h2
    simp only [rowW, List.length_map, List.length_range] at h2
    simp only [rowW, List.getElem_set, List.getElem_map, List.getElem_range, wid_snoc]
    by_cases hi : b = i
    · subst hi
      simp [hab]
    · rw [if_neg hi, if_neg]
      · omega
      · intro z
        rcases hab with ⟨rfl, rfl⟩ | ⟨rfl, rfl⟩ <;> rcases z with ⟨z1, z2⟩ | ⟨z1, z2⟩ <;> omega
theorem rowW_other {r : Nat} {ds : List Du} {d : Du} {a : Nat} (h1 : d.1 ≠ a) (h2 : d.2.1 ≠ a) : rowW r (ds ++ [d]) a = rowW r ds a := by
  unfold rowW
  apply List.map_congr_left
  intro b hb
  rw [wid_snoc, if_neg]
  · omega
  · rintro (⟨z, _⟩ | ⟨_, z⟩)
    · exact h1 z
    · exact h2 z
end Mi

set_option Elab.async false
set_option linter.all false
set_option maxRecDepth 100000
set_option maxHeartbeats 4000000
namespace Mi
open PySem L2
/-! ### tables of cells -/
def rowC (row : List Int) : Cl := .lst (row.map .int)
def idx (r : Nat) : List Nat := (List.range r).map (· + 1)
theorem row_at {t : Cl} {rows : List (List Int)} {a : Nat} (h : a < rows.length) : (t :: rows.map rowC)[a + 1]? = some (.lst ((nth rows a).map .int)) := by
  simp [nth_get? h, rowC]
theorem item_row {t : Cl} {rows : List (List Int)} {a b : Nat} (h : a < rows.length) (hb : b < (nth rows a).length) : opItem (.p (a + 1)) (.c (.int (b : Int))) (t :: rows.map rowC) = some (.c (.int (nth (nth rows a) b)), t :: rows.map rowC) := by
  rw [opItem_p (row_at h), atI_mapN rfl hb]
  rfl
theorem set_rows {rows : List (List Int)} {a : Nat} {row : List Int} : ∀ (t : Cl), (t :: rows.map rowC).set (a + 1) (rowC row) = t :: (rows.set a row).map rowC := by
  intro t
  simp [List.map_set]
theorem setAt_row {t : Cl} {rows : List (List Int)} {a b : Nat} {v : Int} (h : a < rows.length) (hb : b < (nth rows a).length) : setAt (a + 1) (b : Int) (.int v) (t :: rows.map rowC) = some (t :: (rows.set a ((nth rows a).set b v)).map rowC) := by
  have e1 : setAt (a + 1) (b : Int) (.int v) (t :: rows.map rowC) = (match (t :: rows.map rowC)[a + 1]? with
    | some (.lst ds) => (ixN ds.length (b : Int)).map fun j => (t :: rows.map rowC).set (a + 1) (.lst (ds.set j (.int v)))
    | _ => none) := rfl
  rw [e1, row_at h]
  have e2 : ixN ((nth rows a).map Dt.int).length (b : Int) = some b := by
    unfold ixN
    simp [hb]
  simp only [e2, Option.map_some]
  have e3 : ((nth rows a).map Dt.int).set b (.int v) = ((nth rows a).set b v).map .int := by rw [List.map_set]
  rw [e3]
  exact congrArg some (set_rows (row := (nth rows a).set b v) t)
theorem item_tab {r a : Nat} {cs : Cs} (h : a < r) : opItem (.p 0) (.c (.int (a : Int))) (.pl (idx r) :: cs) = some (.p (a + 1), .pl (idx r) :: cs) := by
  have e1 : view (.pl (idx r) :: cs) (.p 0) = some ((idx r).map .p) := rfl
  have e2 : atI ((idx r).map Lv.p) (a : Int) = some (.p (a + 1)) := by
    rw [atI_nat]
    simp [idx, h]
  have : opItem (.p 0) (.c (.int (a : Int))) (.pl (idx r) :: cs) = ((((view (.pl (idx r) :: cs) (.p 0)).bind fun ls => (atI ls (a : Int)).map fun l => (l, .pl (idx r) :: cs)) : Option (Lv × Cs))).orElse fun _ => itemC (.p 0) (.c (.int a)) (.pl (idx r) :: cs) := rfl
  rw [this, e1]
  simp only [Option.bind_some, e2]
  rfl
theorem tab_step {r : Nat} {ds : List Du} {d : Du} (h1 : d.1 < r) (h2 : d.2.1 < r) (hne : d.1 ≠ d.2.1) :
    ((tabW r ds).set d.1 ((rowW r ds d.1).set d.2.1 (wid ds d.1 d.2.1 + d.2.2))).set d.2.1 ((rowW r ds d.2.1).set d.1 (wid ds d.2.1 d.1 + d.2.2)) = tabW r (ds ++ [d]) := by
  apply List.ext_getElem
  · simp [tabW]
  · intro i q1 q2
    simp only [tabW, List.length_map, List.length_range] at q2
    rw [List.getElem_set, List.getElem_set]
    by_cases hb : d.2.1 = i
    · subst hb
      rw [if_pos rfl, rowW_set (.inr ⟨rfl, rfl⟩) hne.symm]
      simp [tabW]
    · rw [if_neg hb]
      by_cases ha : d.1 = i
      · subst ha
        rw [if_pos rfl, rowW_set (.inl ⟨rfl, rfl⟩) hne]
        simp [tabW]
      · rw [if_neg ha]
        simp only [tabW, List.getElem_map, List.getElem_range]
        exact (rowW_other ha hb).symm
/-- the table after one step of its filling -/
def tabH (r : Nat) (ds : List Du) (d : Du) : List (List Int) := (tabW r ds).set d.1 ((rowW r ds d.1).set d.2.1 (wid ds d.1 d.2.1 + d.2.2))
theorem tabH_len {r : Nat} {ds : List Du} {d : Du} : (tabH r ds d).length = r := by simp [tabH, tabW]
theorem tabH_nth {r : Nat} {ds : List Du} {d : Du} (h2 : d.2.1 < r) (hne : d.1 ≠ d.2.1) : nth (tabH r ds d) d.2.1 = rowW r ds d.2.1 := by
  rw [nth_get (by rw [tabH_len]; exact h2)]
  simp only [tabH, List.getElem_set, if_neg hne]
  simp [tabW]
theorem tcell_ok (i : Nat) (cs : Cs) (h : noPl cs = true) : okCs (i + 1) (.pl (idx i) :: cs) = true := by
  simp [okCs_of h, idx]
theorem tabW0 (r : Nat) : List.replicate r (rowC (List.replicate r 0)) = (tabW r []).map rowC := by
  apply List.ext_getElem
  · simp [tabW]
  · intro i h1 h2
    simp only [List.getElem_replicate, List.getElem_map, tabW, List.getElem_range]
    congr 1
    unfold rowW
    apply List.ext_getElem
    · simp
    · intro k q1 q2
      simp [wid]
def tcell (i : Nat) : Cl := if i = 0 then .lst [] else .pl (idx i)
theorem push_t {i : Nat} {cs : Cs} (hi : i ≤ 1000) (hl : cs.length = i + 1) (t : Cl) : push true 0 (.p (i + 1)) (tcell i :: cs) = some (tcell (i + 1) :: cs) := by
  unfold tcell
  by_cases h : i = 0
  · subst h
    rfl
  · rw [if_neg h, if_neg (by omega)]
    have e1 : push true 0 (.p (i + 1)) (.pl (idx i) :: cs) = if (idx i).length < sizeLine then some (.pl (idx i ++ [i + 1]) :: cs) else none := rfl
    rw [e1, szl, if_pos (by simp [idx]; omega)]
    simp [idx, List.range_succ]
@[simp] theorem duD_item0 {d : Du} {cs : Cs} : opItem (.c (duD d)) (.c (.int 0)) cs = some (.c (.int d.1), cs) := by simp [duD]
@[simp] theorem duD_item1 {d : Du} {cs : Cs} : opItem (.c (duD d)) (.c (.int 1)) cs = some (.c (.int d.2.1), cs) := by simp [duD]
@[simp] theorem duD_item2 {d : Du} {cs : Cs} : opItem (.c (duD d)) (.c (.int 2)) cs = some (.c (.int d.2.2), cs) := by simp [duD]
/-- a table as data -/
def tabD (rows : List (List Int)) : List Dt := rows.map fun row => .lst (row.map .int)
theorem fzL_tab {rows : List (List Int)} : ∀ (k : Nat) (done : List (List Int)) (t : Cl), ∃ cs', fzL (fzD 3) (t :: (done.map fun row => Cl.fz (.lst (row.map .int))) ++ rows.map rowC) ((List.range rows.length).map (· + (done.length + 1))) = some (tabD rows, cs') ∧ cs'[0]? = some t := by
  induction rows with
  | nil => intro k done t; exact ⟨_, rfl, rfl⟩
  | cons row rows ih =>
    intro k done t
    have e1 : (List.range (row :: rows).length).map (· + (done.length + 1)) = (done.length + 1) :: (List.range rows.length).map (· + ((done ++ [row]).length + 1)) := by
      simp [List.range_succ_eq_map, Function.comp_def]
      intro a _
      omega
    have e2 : (t :: (done.map fun row => Cl.fz (.lst (row.map .int))) ++ (row :: rows).map rowC)[done.length + 1]? = some (.lst (row.map .int)) := by
      simp [rowC]
    have e3 : (t :: (done.map fun row => Cl.fz (.lst (row.map .int))) ++ (row :: rows).map rowC).set (done.length + 1) (.fz (.lst (row.map .int))) = t :: ((done ++ [row]).map fun row => Cl.fz (.lst (row.map .int))) ++ rows.map rowC := by
      simp [List.set_append]
    obtain ⟨cs', q1, q2⟩ := ih k (done ++ [row]) t
    refine ⟨cs', ?_, q2⟩
    rw [e1]
    unfold fzL
    have e4 : fzD 3 (t :: (done.map fun row => Cl.fz (.lst (row.map .int))) ++ (row :: rows).map rowC) (.p (done.length + 1)) = some (.lst (row.map .int), t :: ((done ++ [row]).map fun row => Cl.fz (.lst (row.map .int))) ++ rows.map rowC) := by
      unfold fzD
      simp only [e2, e3]
    rw [e4]
    simp only [q1]
    rfl
theorem out_tab {r : Nat} {rows : List (List Int)} (hr : 1 ≤ r) (hl : rows.length = r) : outL (.pl (idx r) :: rows.map rowC) (.p 0) = .ret (.c (.lst (tabD rows))) := by
  obtain ⟨cs', q1, q2⟩ := fzL_tab (rows := rows) 0 [] (.pl (idx r))
  have e : (List.range rows.length).map (· + (([] : List (List Int)).length + 1)) = idx r := by rw [hl]; rfl
  rw [e] at q1
  have q1' : fzL (fzD 3) (.pl (idx r) :: rows.map rowC) (idx r) = some (tabD rows, cs') := q1
  have e2 : fzD 4 (.pl (idx r) :: rows.map rowC) (.p 0) = some (.lst (tabD rows), cs'.set 0 (.fz (.lst (tabD rows)))) := by
    rw [fzD_p]
    simp [q1', q2]
  unfold outL
  simp only [List.getElem?_cons_zero, e2]
end Mi

set_option Elab.async false
set_option linter.all false
set_option maxRecDepth 100000
set_option maxHeartbeats 4000000
namespace Mi
open PySem L2
theorem take_snocD {ds : List Du} {i : Nat} (h : i < ds.length) : ds.take (i + 1) = ds.take i ++ [ds[i]] := by
  rw [List.take_add_one, List.getElem?_eq_getElem h]
  rfl
theorem noPl_rows (rows : List (List Int)) : noPl (rows.map rowC) = true := by
  induction rows with
  | nil => rfl
  | cons a as ih => simp [rowC, ih]
theorem law_widths_ok (r : Nat) (ds : List Du) (m : Int) (hr : 1 ≤ r) (hr2 : r ≤ 1000) (hd : ∀ d ∈ ds, DuOk r m d) (hl : ds.length ≤ 100000) : m_law_widths [.int r, .lst (ds.map duD)] = .ret (.c (.lst (tabD (tabW r ds)))) := by
  refine runF_of (n := 2) (k := 4) (body := b_law_widths) rfl ?_
  simp [b_law_widths]
  unfold l_law_widths_1
  refine wp_forR r (fun i sl cs => ∃ x3, sl = [some (.c (.int r)), some (.c (.lst (ds.map duD))), some (.p 0), x3, none, none] ∧ cs = tcell i :: List.replicate i (rowC (List.replicate r 0))) (cs1 := [.lst []]) ?_ (by omega) ⟨_, rfl, rfl⟩ ?_ ?_
  · simp
  · rintro i hi sl cs ⟨x3, rfl, rfl⟩
    have hlen : (tcell i :: List.replicate i (rowC (List.replicate r 0))).length = i + 1 := by simp
    have hno : noPl (List.replicate i (rowC (List.replicate r 0))) = true := by
      have := noPl_rows (List.replicate i (List.replicate r 0))
      simpa using this
    have hok : okCs (i + 1) (tcell i :: List.replicate i (rowC (List.replicate r 0))) = true := by
      unfold tcell
      by_cases h : i = 0
      · subst h; rfl
      · rw [if_neg h]; exact tcell_ok i _ hno
    have hLC : isLC (tcell i :: List.replicate i (rowC (List.replicate r 0))) 0 = true := by
      unfold tcell
      by_cases h : i = 0
      · subst h; rfl
      · rw [if_neg h]; rfl
    have e1 : ∀ sl, mV (mLst false (mCons (mC (.int 0)) mNil)) sl (tcell i :: List.replicate i (rowC (List.replicate r 0))) = .ok (.c (.lst [.int 0])) (tcell i :: List.replicate i (rowC (List.replicate r 0))) := fun sl => mV_new (by simp) (by rw [hlen]; exact hok)
    have e2 := opMul_one (cs := tcell i :: List.replicate i (rowC (List.replicate r 0))) (d := .int 0) (k := r) (by omega) (by omega)
    rw [hlen] at e2
    have e3 : (tcell i :: List.replicate i (rowC (List.replicate r 0))) ++ [.lst (List.replicate (r : Int).toNat (.int 0))] = tcell i :: List.replicate (i + 1) (rowC (List.replicate r 0)) := by
      simp [List.replicate_succ', rowC]
    rw [e3] at e2
    have e4 := push_t (i := i) (cs := List.replicate (i + 1) (rowC (List.replicate r 0))) (by omega) (by simp) (.lst [])
    simp [lb_law_widths_1, hLC, e1, e2, e4]
  · rintro sl cs ⟨x3, rfl, rfl⟩
    have ht : tcell r = .pl (idx r) := by unfold tcell; rw [if_neg (by omega)]
    simp only [ht]
    have hreps : List.replicate r (rowC (List.replicate r 0)) = (tabW r []).map rowC := tabW0 r
    rw [hreps]
    unfold l_law_widths_2
    refine wp_forL (f := duD) ds (fun i sl cs => ∃ x4 x5, sl = [some (.c (.int r)), some (.c (.lst (ds.map duD))), some (.p 0), x3, x4, x5] ∧ cs = .pl (idx r) :: (tabW r (ds.take i)).map rowC) (cs1 := .pl (idx r) :: (tabW r []).map rowC) (.inl ?_) ⟨_, _, rfl, rfl⟩ ?_ ?_
    · simp
    · rintro i hi sl cs ⟨x4, x5, rfl, rfl⟩
      obtain ⟨d1, d2, d3, d4, d5⟩ := hd ds[i] (List.getElem_mem hi)
      rw [take_snocD hi]
      generalize ds[i] = d at *
      generalize ds.take i = es at *
      have a1 : opItem (.p 0) (.c (.int (d.1 : Int))) (.pl (idx r) :: (tabW r es).map rowC) = _ := item_tab d1
      have a2 : opItem (.p (d.1 + 1)) (.c (.int (d.2.1 : Int))) (.pl (idx r) :: (tabW r es).map rowC) = _ := item_row (by rw [tabW_len]; exact d1) (by rw [tabW_nth d1, rowW_len]; exact d2)
      have a3 : setAt (d.1 + 1) (d.2.1 : Int) (.int (wid es d.1 d.2.1 + d.2.2)) (.pl (idx r) :: (tabW r es).map rowC) = _ := setAt_row (by rw [tabW_len]; exact d1) (by rw [tabW_nth d1, rowW_len]; exact d2)
      have a4 : opItem (.p 0) (.c (.int (d.2.1 : Int))) (.pl (idx r) :: (tabH r es d).map rowC) = _ := item_tab d2
      have a5 : opItem (.p (d.2.1 + 1)) (.c (.int (d.1 : Int))) (.pl (idx r) :: (tabH r es d).map rowC) = _ := item_row (by rw [tabH_len]; exact d2) (by rw [tabH_nth d2 d3, rowW_len]; exact d1)
      have a6 : setAt (d.2.1 + 1) (d.1 : Int) (.int (wid es d.2.1 d.1 + d.2.2)) (.pl (idx r) :: (tabH r es d).map rowC) = _ := setAt_row (by rw [tabH_len]; exact d2) (by rw [tabH_nth d2 d3, rowW_len]; exact d1)
      rw [tabW_nth d1, rowW_nth d2] at a2
      rw [tabW_nth d1] at a3
      rw [tabH_nth d2 d3, rowW_nth d1] at a5
      rw [tabH_nth d2 d3] at a6
      have a7 : (tabH r es d).set d.2.1 ((rowW r es d.2.1).set d.1 (wid es d.2.1 d.1 + d.2.2)) = tabW r (es ++ [d]) := tab_step d1 d2 d3
      rw [a7] at a6
      have a3' : setAt (d.1 + 1) (d.2.1 : Int) (.int (wid es d.1 d.2.1 + d.2.2)) (.pl (idx r) :: (tabW r es).map rowC) = some (.pl (idx r) :: (tabH r es d).map rowC) := a3
      simp [lb_law_widths_2, mSetI, a1, a2, a3', a4, a5, a6]
    · rintro sl cs ⟨x4, x5, rfl, rfl⟩
      rw [List.take_length]
      simp
      exact out_tab hr (tabW_len r ds)
end Mi

set_option Elab.async false
set_option linter.all false
set_option maxRecDepth 100000
set_option maxHeartbeats 4000000
namespace Mi
open PySem L2
theorem lc_rows {te : ME} {slw : Sl} {r k : Nat} {row : Cl} (hr : r ≤ 1000) (ht : ∀ i, i < r → ∀ l, te (slw.set k (some l)) (tcell i :: List.replicate i row) = .ok (.p (i + 1)) (tcell i :: List.replicate (i + 1) row)) :
    ∀ (n i : Nat), i ≤ r → r < n + i → lcGo true (.rng 0 r) (gN k) mYes te 0 slw n i (tcell i :: List.replicate i row) = some (tcell r :: List.replicate r row)
  | 0, i, h1, h2 => by omega
  | n + 1, i, h1, h2 => by
    unfold lcGo
    by_cases h : i < r
    · have e1 : (Src.rng 0 r).at (tcell i :: List.replicate i row) i = some (some (.c (.int (0 + (i : Int))))) := by simp [Src.at, h]
      rw [e1]
      simp only [gN_ap, mYes_ap]
      rw [ht i h]
      have e4 := push_t (i := i) (cs := List.replicate (i + 1) row) (by omega) (by simp) (.lst [])
      simp only [e4]
      exact lc_rows hr ht n (i + 1) h (by omega)
    · have : i = r := by omega
      subst this
      have e1 : (Src.rng 0 i).at (tcell i :: List.replicate i row) i = some none := by simp [Src.at]
      rw [e1]
def tabT (rows : List (List Int)) : List Dt := rows.map fun row => .tup (row.map .int)
theorem width_table_ok (r : Nat) (ds : List Du) (m : Int) (hr : 1 ≤ r) (hr2 : r ≤ 1000) (hd : ∀ d ∈ ds, DuOk r m d) (hl : ds.length ≤ 100000) : m_width_table [.int r, .tup (ds.map duD)] = .ret (.c (.tup (tabT (tabW r ds)))) := by
  refine runF_of (n := 2) (k := 6) (body := b_width_table) rfl ?_
  have hlc : mLc true (mRng rng1 (mCons (mVar 0) mNil)) (gN 6) mYes (mOp2 opMul (mV (mLst false (mCons (mC (.int 0)) mNil))) (mVar 0)) [6] [some (.c (.int r)), some (.c (.tup (ds.map duD))), none, none, none, none, none, none] [] = .ok (.p 0) (tcell r :: List.replicate r (rowC (List.replicate r 0))) := by
    have hr0 : mRng rng1 (mCons (mVar 0) mNil) [some (.c (.int r)), some (.c (.tup (ds.map duD))), none, none, none, none, none, none] [] = .ok (.rng 0 r) [] := rng1_nat (by simp) (by omega)
    unfold mLc
    rw [hr0]
    have := lc_rows (te := mOp2 opMul (mV (mLst false (mCons (mC (.int 0)) mNil))) (mVar 0)) (slw := [some (.c (.int r)), some (.c (.tup (ds.map duD))), none, none, none, none, none, none]) (k := 6) (row := rowC (List.replicate r 0)) hr2 (fun i hi l => by
      have hlen : (tcell i :: List.replicate i (rowC (List.replicate r 0))).length = i + 1 := by simp
      have hno : noPl (List.replicate i (rowC (List.replicate r 0))) = true := by
        have := noPl_rows (List.replicate i (List.replicate r 0))
        simpa using this
      have hok : okCs (i + 1) (tcell i :: List.replicate i (rowC (List.replicate r 0))) = true := by
        unfold tcell
        by_cases h : i = 0
        · subst h; rfl
        · rw [if_neg h]; exact tcell_ok i _ hno
      have e1 : ∀ sl, mV (mLst false (mCons (mC (.int 0)) mNil)) sl (tcell i :: List.replicate i (rowC (List.replicate r 0))) = .ok (.c (.lst [.int 0])) (tcell i :: List.replicate i (rowC (List.replicate r 0))) := fun sl => mV_new (by simp) (by rw [hlen]; exact hok)
      have e2 := opMul_one (cs := tcell i :: List.replicate i (rowC (List.replicate r 0))) (d := .int 0) (k := r) (by omega) (by omega)
      rw [hlen] at e2
      have e3 : (tcell i :: List.replicate i (rowC (List.replicate r 0))) ++ [.lst (List.replicate (r : Int).toNat (.int 0))] = tcell i :: List.replicate (i + 1) (rowC (List.replicate r 0)) := by
        simp [List.replicate_succ', rowC]
      rw [e3] at e2
      simp [e1, e2]) (r + 1) 0 (by omega) (by omega)
    have e0 : ([] : Cs) ++ [Cl.lst []] = tcell 0 :: List.replicate 0 (rowC (List.replicate r 0)) := rfl
    simp only [Res.bind_ok, List.length_nil]
    rw [e0]
    have ew : wipeS [some (Lv.c (.int r)), some (.c (.tup (ds.map duD))), none, none, none, none, none, none] [6] = [some (.c (.int r)), some (.c (.tup (ds.map duD))), none, none, none, none, none, none] := rfl
    rw [ew]
    simp only [Src.len, this]
  simp [b_width_table, hlc]
  have ht : tcell r = .pl (idx r) := by unfold tcell; rw [if_neg (by omega)]
  have hreps : List.replicate r (rowC (List.replicate r 0)) = (tabW r []).map rowC := tabW0 r
  rw [ht, hreps]
  unfold l_width_table_1
  refine wp_forC (s := .seq (.c (.tup (ds.map duD)))) ((ds.map duD).map .c) (fun i sl cs => ∃ x3 x4 x5, sl = [some (.c (.int r)), some (.c (.tup (ds.map duD))), some (.p 0), x3, x4, x5, none, none] ∧ cs = .pl (idx r) :: (tabW r (ds.take i)).map rowC) (cs1 := .pl (idx r) :: (tabW r []).map rowC) ?_ rfl ⟨_, _, _, rfl, rfl⟩ ?_ ?_
  · unfold mSeqI
    simp [view]
  · rintro i hi sl cs ⟨x3, x4, x5, rfl, rfl⟩
    have hi' : i < ds.length := by simpa using hi
    have ex : ((ds.map duD).map Lv.c)[i] = .c (duD ds[i]) := by simp
    rw [ex, take_snocD hi']
    obtain ⟨d1, d2, d3, d4, d5⟩ := hd ds[i] (List.getElem_mem hi')
    generalize ds[i] = d at *
    generalize ds.take i = es at *
    refine ⟨[some (.c (.int r)), some (.c (.tup (ds.map duD))), some (.p 0), some (.c (.int d.1)), some (.c (.int d.2.1)), some (.c (.int d.2.2)), none, none], _, by simp [duD]; rfl, ?_⟩
    have a1 : opItem (.p 0) (.c (.int (d.1 : Int))) (.pl (idx r) :: (tabW r es).map rowC) = _ := item_tab d1
    have a2 : view (.pl (idx r) :: (tabW r es).map rowC) (.p (d.1 + 1)) = some (((rowW r es d.1).map Dt.int).map Lv.c) := by
      have := row_at (t := .pl (idx r)) (rows := tabW r es) (a := d.1) (by rw [tabW_len]; exact d1)
      rw [tabW_nth d1] at this
      simp only [view, this]
    have a2' : atI (((rowW r es d.1).map Dt.int).map Lv.c) (d.2.1 : Int) = some (.c (.int (wid es d.1 d.2.1))) := by
      rw [List.map_map, atI_mapN rfl (by rw [rowW_len]; exact d2), rowW_nth d2]
      rfl
    have a3 : setAt (d.1 + 1) (d.2.1 : Int) (.int (wid es d.1 d.2.1 + d.2.2)) (.pl (idx r) :: (tabW r es).map rowC) = _ := setAt_row (by rw [tabW_len]; exact d1) (by rw [tabW_nth d1, rowW_len]; exact d2)
    have a4 : opItem (.p 0) (.c (.int (d.2.1 : Int))) (.pl (idx r) :: (tabH r es d).map rowC) = _ := item_tab d2
    have a5 : view (.pl (idx r) :: (tabH r es d).map rowC) (.p (d.2.1 + 1)) = some (((rowW r es d.2.1).map Dt.int).map Lv.c) := by
      have := row_at (t := .pl (idx r)) (rows := tabH r es d) (a := d.2.1) (by rw [tabH_len]; exact d2)
      rw [tabH_nth d2 d3] at this
      simp only [view, this]
    have a5' : atI (((rowW r es d.2.1).map Dt.int).map Lv.c) (d.1 : Int) = some (.c (.int (wid es d.2.1 d.1))) := by
      rw [List.map_map, atI_mapN rfl (by rw [rowW_len]; exact d1), rowW_nth d1]
      rfl
    have a6 : setAt (d.2.1 + 1) (d.1 : Int) (.int (wid es d.2.1 d.1 + d.2.2)) (.pl (idx r) :: (tabH r es d).map rowC) = _ := setAt_row (by rw [tabH_len]; exact d2) (by rw [tabH_nth d2 d3, rowW_len]; exact d1)
    rw [tabW_nth d1] at a3
    rw [tabH_nth d2 d3] at a6
    have a7 : (tabH r es d).set d.2.1 ((rowW r es d.2.1).set d.1 (wid es d.2.1 d.1 + d.2.2)) = tabW r (es ++ [d]) := tab_step d1 d2 d3
    rw [a7] at a6
    have a3' : setAt (d.1 + 1) (d.2.1 : Int) (.int (wid es d.1 d.2.1 + d.2.2)) (.pl (idx r) :: (tabW r es).map rowC) = some (.pl (idx r) :: (tabH r es d).map rowC) := a3
    simp only [lb_width_table_1, mAugI, wp_seq, wp_bind, mOp2_ap, mVar_ap, List.getElem?_cons_succ, List.getElem?_cons_zero, wp_ok, a1, up_some, a2, a2', a3', a4, a5, a5', a6]
    exact ⟨_, _, _, rfl, trivial⟩
  · rintro sl cs ⟨x3, x4, x5, rfl, rfl⟩
    have e1 : ((ds.map duD).map Lv.c).length = ds.length := by simp
    rw [e1, List.take_length]
    have hrl : (tabW r ds).length = r := tabW_len r ds
    have hv : ∀ more : Cs, view (.pl (idx r) :: (tabW r ds).map rowC ++ more) (.p 0) = some ((List.range r).map fun a => .p (a + 1)) := fun more => by
      show some ((idx r).map Lv.p) = _
      simp [idx, Function.comp_def]
    have hrow : ∀ a, a < r → ∀ more : Cs, (.pl (idx r) :: (tabW r ds).map rowC ++ more)[a + 1]? = some (.lst ((rowW r ds a).map .int)) := fun a ha more => by
      have q := row_at (t := .pl (idx r)) (rows := tabW r ds) (a := a) (by rw [hrl]; exact ha)
      rw [tabW_nth ha] at q
      rw [List.getElem?_append_left (by simp [hrl]; omega)]
      exact q
    have hlc2 := lc_okG (mi := mSeqI (mVar 2)) (s := .seq (.p 0)) (g := gN 7) (tt := mYes) (te := mOpN cTuple (mCons (mVar 7) mNil)) (vs := [7]) (sl := [some (.c (.int r)), some (.c (.tup (ds.map duD))), some (.p 0), x3, x4, x5, none, none]) (cs := .pl (idx r) :: (tabW r ds).map rowC) (List.range r) (fun a => .p (a + 1)) (fun _ => true) (fun a => .tup ((rowW r ds a).map .int))
      (by
        have := hv []
        rw [List.append_nil] at this
        unfold mSeqI
        simp [this])
      (fun acc i => by simp only [Src.at, hv, Option.map_some]) (by
        have := hv []
        rw [List.append_nil] at this
        simp [Src.len, this]) (by simp; omega) (fun a ha acc => ⟨_, rfl, rfl, fun _ => by
        have ha' : a < r := by simpa using ha
        have q := cTuple_cell (hrow a ha' [.lst acc])
        simp [wipeS]
        rw [show (Cl.pl (idx r) :: ((tabW r ds).map rowC ++ [Cl.lst acc])) = (.pl (idx r) :: (tabW r ds).map rowC ++ [.lst acc]) from rfl, q]
        rfl⟩)
    have hok : okCs (Cl.pl (idx r) :: (tabW r ds).map rowC).length (.pl (idx r) :: (tabW r ds).map rowC) = true := by
      have : (Cl.pl (idx r) :: (tabW r ds).map rowC).length = r + 1 := by simp [hrl]
      rw [this]
      exact tcell_ok r _ (noPl_rows _)
    have hv2 := mV_new hlc2 hok
    simp [hv2]
    simp [tabT, tabW, Function.comp_def]
end Mi

set_option Elab.async false
set_option linter.all false
set_option maxRecDepth 100000
set_option maxHeartbeats 4000000
namespace Mi
open PySem L2
/-! ### checks, buildings -/
theorem is_table_ok (xs : List Int) (n : Nat) (lo hi : Int) (hn : xs.length = n) (h : ∀ x ∈ xs, lo ≤ x ∧ x ≤ hi) : m_is_table [.tup (xs.map .int), .int n, .int lo, .int hi] = .ret (.c (.bl true)) ∧ m_is_table [.lst (xs.map .int), .int n, .int lo, .int hi] = .ret (.c (.bl true)) := by
  subst hn
  constructor
  · refine runF_of (n := 4) (k := 1) (body := b_is_table) rfl ?_
    simp [b_is_table]
    unfold l_is_table_1
    refine wp_forL (f := Dt.int) xs (fun i sl cs => ∃ x4, sl = [some (.c (.tup (xs.map .int))), some (.c (.int xs.length)), some (.c (.int lo)), some (.c (.int hi)), x4] ∧ cs = []) (cs1 := []) (.inr (by simp)) ⟨_, rfl, rfl⟩ ?_ ?_
    · rintro i hi' sl cs ⟨x4, rfl, rfl⟩
      have := h xs[i] (List.getElem_mem hi')
      simp [lb_is_table_1, is_between_int, this]
    · rintro sl cs ⟨x4, rfl, rfl⟩
      simp
  · refine runF_of (n := 4) (k := 1) (body := b_is_table) rfl ?_
    simp [b_is_table]
    unfold l_is_table_1
    refine wp_forL (f := Dt.int) xs (fun i sl cs => ∃ x4, sl = [some (.c (.lst (xs.map .int))), some (.c (.int xs.length)), some (.c (.int lo)), some (.c (.int hi)), x4] ∧ cs = []) (cs1 := []) (.inl (by simp)) ⟨_, rfl, rfl⟩ ?_ ?_
    · rintro i hi' sl cs ⟨x4, rfl, rfl⟩
      have := h xs[i] (List.getElem_mem hi')
      simp [lb_is_table_1, is_between_int, this]
    · rintro sl cs ⟨x4, rfl, rfl⟩
      simp
theorem are_ducts_ok (r : Nat) (ds : List Du) (m : Int) (hr : r ≤ 8) (hd : ∀ d ∈ ds, DuOk r m d) (hm : m ≤ 6) (hl : ds.length ≤ 16) : m_are_ducts [.lst (ds.map duD), .int r] = .ret (.c (.bl true)) := by
  refine runF_of (n := 2) (k := 4) (body := b_are_ducts) rfl ?_
  have hl' : ¬ (16 < (ds.length : Int)) := by omega
  simp [b_are_ducts, hl', hl]
  unfold l_are_ducts_1
  refine wp_forL (f := duD) ds (fun i sl cs => ∃ x2 x3 x4 x5, sl = [some (.c (.lst (ds.map duD))), some (.c (.int r)), x2, x3, x4, x5] ∧ cs = []) (cs1 := []) (.inl (by simp)) ⟨_, _, _, _, rfl, rfl⟩ ?_ ?_
  · rintro i hi' sl cs ⟨x2, x3, x4, x5, rfl, rfl⟩
    obtain ⟨d1, d2, d3, d4, d5⟩ := hd ds[i] (List.getElem_mem hi')
    generalize ds[i] = d at *
    have ht := (is_table_ok [d.1, d.2.1, d.2.2] 3 0 8 rfl (by simp; omega)).1
    have ht' : m_is_table [duD d, .int 3, .int 0, .int 8] = .ret (.c (.bl true)) := ht
    have e1 : ¬ ((r : Int) ≤ d.1) := by omega
    have e2 : ¬ ((r : Int) ≤ d.2.1) := by omega
    have e3 : ¬ ((d.1 : Int) = d.2.1) := by omega
    have e4 : d.2.2 ≤ 6 := by omega
    have e5 : ¬ r ≤ d.1 := by omega
    have e6 : ¬ r ≤ d.2.1 := by omega
    simp [lb_are_ducts_1, ht']
    simp [duD, e1, e2, e3, d3, d4, e4, mChain, e5, e6]
  · rintro sl cs ⟨x2, x3, x4, x5, rfl, rfl⟩
    simp
/-- a building -/
def bldD (r : Nat) (ds : List Du) : Dt := .obj 0 ["rooms", "ducts", "_widths"] [.int r, .tup (ds.map duD), .tup (tabT (tabW r ds))]
theorem runI_of {c n k : Nat} {body : MS} {ds : List Dt} {ns : List Str} {vs : List Dt} (hl : ds.length = n) (h : Wp (body (some (.p 0) :: (ds.map (fun d => some (.c d)) ++ List.replicate k none)) [.ins c [] []]) fun fl cs => match fl with
    | .nx _ => cs[0]? = some (.ins c ns vs)
    | _ => False) : runI c n k body ds = .ret (.c (.obj c ns vs)) := by
  obtain ⟨fl, cs, e, q⟩ := h.get
  have : runI c n k body ds = (match (Res.ok fl cs : Res Fl) with
    | .ok (.nx _) (cs : List Cl) => (match cs[0]? with
      | some (Cl.ins c' ns vs) => if c' = c then .ret (.c (.obj c ns vs)) else .bad
      | _ => .bad)
    | .exc e _ _ => .exc e
    | _ => .bad) := by
    unfold runI
    rw [if_pos hl, e]
    all_goals (cases fl <;> rfl)
  rw [this]
  cases fl with
  | nx sl => simp [q]
  | rt v => exact q.elim
  | bk sl => exact q.elim
  | ct sl => exact q.elim
@[simp] theorem mSetF_ap {c : Nat} {f : Str} {mo mv : ME} {sl : Sl} {cs : Cs} : mSetF c f mo mv sl cs = (mv sl cs).bind fun l cs1 => match fzD 4 cs1 l with
  | some (d, cs2) => (mo sl cs2).bind fun o cs3 => (match o with
    | .p n => (match cs3[n]? with
      | some (.ins c' ns ds) => if c' = c ∧ ns.length < 1000 then .ok (.nx sl) (cs3.set n (.ins c' (putD f d ns ds).1 (putD f d ns ds).2)) else .bad
      | _ => .bad)
    | _ => .bad)
  | none => .bad := rfl
@[simp] theorem mFld_ap {c : Nat} {f : Str} {ma : ME} {sl : Sl} {cs : Cs} : mFld c f ma sl cs = (ma sl cs).bind fun l cs1 => match objOf cs1 l with
  | some (c', ns, ds) => if c' = c then (match lookD ns ds f with
    | some d => .ok (.c d) cs1
    | none => .bad) else .bad
  | none => .bad := rfl
theorem building_ok (r : Nat) (ds : List Du) (m : Int) (hr : 1 ≤ r) (hr2 : r ≤ 8) (hd : ∀ d ∈ ds, DuOk r m d) (hm : m ≤ 6) (hl : ds.length ≤ 16) : m_Building___init__ [.int r, .lst (ds.map duD)] = .ret (.c (bldD r ds)) := by
  refine runI_of (n := 2) (k := 1) (body := b_Building___init__) rfl ?_
  have h1 : (1 : Int) ≤ r := by omega
  have h2 : (r : Int) ≤ 8 := by omega
  have e1 := is_between_int r 1 8
  have e2 := are_ducts_ok r ds m hr2 hd hm hl
  have e3 := width_table_ok r ds m hr (by omega) hd (by omega)
  have n1 : ¬ (("rooms" : Str) = "ducts") := by decide +kernel
  have n2 : ¬ (("rooms" : Str) = "_widths") := by decide +kernel
  have n3 : ¬ (("ducts" : Str) = "_widths") := by decide +kernel
  have n4 : ¬ (("ducts" : Str) = "rooms") := by decide +kernel
  simp [b_Building___init__, e1, h1, h2, hr, hr2, require_t, e2, putD]
  refine wp_vlc (s := .seq (.c (.lst (ds.map duD)))) ds (fun d => .c (duD d)) (fun _ => true) duD ?_ ?_ rfl (by omega) ?_ ?_
  · unfold mSeqI
    simp [view]
  · simp [Src.itms]
  · intro d hd' cs' hn
    exact ⟨_, rfl, rfl, fun _ => by simp [wipeS, duD]⟩
  · simp [putD, n1, n2, n3, n4, objOf, lookD, e3]
end Mi

set_option Elab.async false
set_option linter.all false
set_option maxRecDepth 100000
set_option maxHeartbeats 4000000
namespace Mi
open PySem L2
/-! ### pieces of a graph -/
inductive Rch (G : Nat → Nat → Prop) (a : Nat) : Nat → Prop where
  | refl : Rch G a a
  | step {b c : Nat} (h : Rch G a b) (g : G b c) : Rch G a c
theorem Rch.trans {G : Nat → Nat → Prop} {a b c : Nat} (h : Rch G a b) (k : Rch G b c) : Rch G a c := by
  induction k with
  | refl => exact h
  | step _ g ih => exact .step ih g
theorem Rch.head {G : Nat → Nat → Prop} {a b c : Nat} (g : G a b) (k : Rch G b c) : Rch G a c := (Rch.step .refl g).trans k
theorem Rch.symm {G : Nat → Nat → Prop} (hs : ∀ a b, G a b → G b a) {a b : Nat} (h : Rch G a b) : Rch G b a := by
  induction h with
  | refl => exact .refl
  | step _ g ih => exact .head (hs _ _ g) ih
theorem Rch.mem {G : Nat → Nat → Prop} {a b : Nat} {S : List Nat} (h : Rch G a b) (ha : a ∈ S) (hc : ∀ x ∈ S, ∀ y, G x y → y ∈ S) : b ∈ S := by
  induction h with
  | refl => exact ha
  | step _ g ih => exact hc _ ih _ g
open Classical in
/-- the piece of a, in order -/
noncomputable def pieceOf (G : Nat → Nat → Prop) (r a : Nat) : List Nat := (List.range r).filter fun b => decide (Rch G a b)
theorem pieceOf_mem {G : Nat → Nat → Prop} {r a b : Nat} : b ∈ pieceOf G r a ↔ b < r ∧ Rch G a b := by
  simp [pieceOf]
theorem sort_nats {S T : List Nat} (hS : S.Nodup) (hT : T.Pairwise (· < ·)) (h : ∀ x, x ∈ S ↔ x ∈ T) : sortI (S.map (fun n : Nat => (n : Int))) = T.map (fun n : Nat => (n : Int)) := by
  symm
  have hTn : T.Nodup := hT.imp fun z => by omega
  refine sortI_uniq ?_ ?_
  · exact (List.Perm.map _ ((List.perm_ext_iff_of_nodup hS hTn).mpr h)).symm
  · rw [List.pairwise_map]
    exact hT.imp fun z => by omega
theorem pieceOf_sorted {G : Nat → Nat → Prop} {r a : Nat} : (pieceOf G r a).Pairwise (· < ·) := List.Pairwise.filter _ List.pairwise_lt_range
/-- two rooms with a duct between them -/
def AdjW (ds : List Du) (a b : Nat) : Prop := 0 < wid ds a b
theorem wid_nonneg {r : Nat} {m : Int} {a b : Nat} : ∀ {ds : List Du}, (∀ d ∈ ds, DuOk r m d) → 0 ≤ wid ds a b
  | [], _ => Int.le_refl 0
  | d :: ds, h => by
    have ih := wid_nonneg (ds := ds) (a := a) (b := b) fun e he => h e (by simp [he])
    obtain ⟨_, _, _, d4, _⟩ := h d (by simp)
    unfold wid
    split <;> omega
theorem wid_lt {r : Nat} {m : Int} {a b : Nat} : ∀ {ds : List Du}, (∀ d ∈ ds, DuOk r m d) → 0 < wid ds a b → a < r ∧ b < r ∧ a ≠ b
  | [], _, h => by simp [wid] at h
  | d :: ds, h, hw => by
    obtain ⟨d1, d2, d3, d4, _⟩ := h d (by simp)
    unfold wid at hw
    split at hw
    · rename_i q
      rcases q with ⟨rfl, rfl⟩ | ⟨rfl, rfl⟩
      · exact ⟨d1, d2, d3⟩
      · exact ⟨d2, d1, d3.symm⟩
    · exact wid_lt (ds := ds) (fun e he => h e (by simp [he])) (by omega)
theorem AdjW.symm {ds : List Du} (a b : Nat) (h : AdjW ds a b) : AdjW ds b a := by
  unfold AdjW at *
  rw [wid_sym]
  exact h
theorem len_le_of_nodup {S : List Nat} {r : Nat} (hn : S.Nodup) (h : ∀ x ∈ S, x < r) : S.length ≤ r := by
  have hp : S.Perm ((List.range r).filter fun x => decide (x ∈ S)) := (List.perm_ext_iff_of_nodup hn (List.Pairwise.filter _ List.nodup_range)).mpr fun x => by
    simp only [List.mem_filter, List.mem_range, decide_eq_true_eq]
    exact ⟨fun hx => ⟨h x hx, hx⟩, fun hx => hx.2⟩
  rw [hp.length_eq]
  have := List.length_filter_le (fun x => decide (x ∈ S)) (List.range r)
  simpa using this
/-! ### joined -/
def kN (n : Nat) : Key := .inl (n : Int)
theorem hasK_N {b : Nat} {ks : List Nat} : hasK (.inl (b : Int)) (ks.map kN) = decide (b ∈ ks) := by
  unfold hasK
  rw [Bool.eq_iff_iff]
  simp only [List.any_map, List.any_eq_true, Function.comp, decide_eq_true_eq]
  constructor
  · rintro ⟨x, hx, e⟩
    have : (x : Int) = (b : Int) := Sum.inl.inj e
    have : x = b := by omega
    subst this
    exact hx
  · intro h
    exact ⟨b, h, rfl⟩
theorem putKD_new {d : Dt} {b : Nat} : ∀ {ks : List Nat} {vs : List Dt}, ks.length = vs.length → b ∉ ks → putKD (.inl (b : Int)) d (ks.map kN) vs = ((ks ++ [b]).map kN, vs ++ [d])
  | [], [], _, _ => rfl
  | k :: ks, v :: vs, hl, h => by
    have hne : ¬ (kN k = Sum.inl (b : Int)) := fun e => by
      have : (k : Int) = (b : Int) := Sum.inl.inj e
      exact h (by simp; omega)
    have ih := putKD_new (d := d) (b := b) (ks := ks) (vs := vs) (by simpa using hl) (fun z => h (by simp [z]))
    show (if kN k = .inl (b : Int) then _ else _) = _
    rw [if_neg hne]
    simp only [ih]
    rfl
  | [], _ :: _, hl, _ => by simp at hl
  | _ :: _, [], hl, _ => by simp at hl
theorem intKeys_N : ∀ ks : List Nat, intKeys (ks.map kN) = some (ks.map fun n : Nat => (n : Int))
  | [] => rfl
  | k :: ks => by
    show (intKeys (ks.map kN)).map ((k : Int) :: ·) = _
    rw [intKeys_N ks]
    rfl
def natD (ns : List Nat) : List Dt := ns.map fun n : Nat => .int (n : Int)
/-- the cells of joined -/
def jcs (ks ws : List Nat) : Cs := [.dic (ks.map kN) (List.replicate ks.length (.bl true)), .lst (natD ws)]
theorem j_in {b : Nat} {ks ws : List Nat} : opIn true (.c (.int (b : Int))) (.p 0) (jcs ks ws) = some (.c (.bl (!decide (b ∈ ks))), jcs ks ws) := by
  have e : opIn true (.c (.int (b : Int))) (.p 0) (jcs ks ws) = (some (Lv.c (.bl (!hasK (.inl (b : Int)) (ks.map kN))), jcs ks ws)).orElse fun _ => (opInS true (.c (.int (b : Int))) (.p 0) (jcs ks ws)).orElse fun _ => opInC true (.c (.int (b : Int))) (.p 0) (jcs ks ws) := rfl
  rw [e, hasK_N]
  rfl
theorem j_put {b : Nat} {ks ws : List Nat} {sl : Sl} {mo mi : ME} (ho : mo sl (jcs ks ws) = .ok (.p 0) (jcs ks ws)) (hi : mi sl (jcs ks ws) = .ok (.c (.int (b : Int))) (jcs ks ws)) (hb : b ∉ ks) (hl : ks.length ≤ 1000) : mDPut mo mi (mC (.bl true)) sl (jcs ks ws) = .ok (.nx sl) (jcs (ks ++ [b]) ws) := by
  have e : mDPut mo mi (mC (.bl true)) sl (jcs ks ws) = ((mo sl (jcs ks ws)).bind fun o cs3 => (mi sl cs3).bind fun i cs4 => match o, keyOf i with
    | .p n, some k => (match cs4[n]? with
      | some (.dic ks ds) => if ks.length < sizeLine then .ok (.nx sl) (cs4.set n (.dic (putKD k (.bl true) ks ds).1 (putKD k (.bl true) ks ds).2)) else .bad
      | _ => .bad)
    | _, _ => .bad) := rfl
  rw [e, ho]
  simp only [Res.bind_ok, hi]
  show (if (ks.map kN).length < sizeLine then Res.ok (Fl.nx sl) ((jcs ks ws).set 0 (.dic (putKD (.inl (b : Int)) (.bl true) (ks.map kN) (List.replicate ks.length (.bl true))).1 (putKD (.inl (b : Int)) (.bl true) (ks.map kN) (List.replicate ks.length (.bl true))).2)) else .bad) = _
  rw [szl, if_pos (by simp; omega), putKD_new (by simp) hb]
  simp [jcs, List.replicate_succ']
structure JI (ds : List Du) (r base : Nat) (ks ws : List Nat) : Prop where
  nd : ks.Nodup
  rc : ∀ x ∈ ks, x < r ∧ Rch (AdjW ds) base x
  bs : base ∈ ks
  sub : ∀ x ∈ ws, x ∈ ks
  wn : ws.Nodup
  cl : ∀ x ∈ ks, x ∈ ws ∨ ∀ y, AdjW ds x y → y ∈ ks
/-- the new rooms next to a -/
def newJ (ds : List Du) (a : Nat) (ks : List Nat) (i : Nat) : List Nat := (List.range i).filter fun b => decide (0 < wid ds a b) && !decide (b ∈ ks)
theorem newJ_succ (ds : List Du) (a : Nat) (ks : List Nat) (i : Nat) : newJ ds a ks (i + 1) = newJ ds a ks i ++ if (decide (0 < wid ds a i) && !decide (i ∈ ks)) = true then [i] else [] := by
  unfold newJ
  rw [List.range_succ, List.filter_append]
  simp only [List.filter_cons, List.filter_nil]
theorem newJ_mem {ds : List Du} {a : Nat} {ks : List Nat} {i b : Nat} : b ∈ newJ ds a ks i ↔ b < i ∧ 0 < wid ds a b ∧ b ∉ ks := by
  simp [newJ]
theorem newJ_nd {ds : List Du} {a : Nat} {ks : List Nat} {i : Nat} : (newJ ds a ks i).Nodup := List.Pairwise.filter _ List.nodup_range
theorem j_pop {ks ws : List Nat} {a : Nat} : lPop 1 [] (jcs ks (ws ++ [a])) = some (.c (.int a), jcs ks ws) := by
  have e : lPop 1 [] (jcs ks (ws ++ [a])) = ((natD (ws ++ [a]))[(natD (ws ++ [a])).length - 1]?).map fun d => (Lv.c d, (jcs ks (ws ++ [a])).set 1 (.lst (natD (ws ++ [a])).dropLast)) := rfl
  rw [e]
  simp [natD, jcs, List.dropLast_append_of_ne_nil]
theorem j_push {ks ws : List Nat} {b : Nat} (h : ws.length ≤ 1000) : push false 1 (.c (.int (b : Int))) (jcs ks ws) = some (jcs ks (ws ++ [b])) := by
  have e : push false 1 (.c (.int (b : Int))) (jcs ks ws) = if (natD ws).length < sizeLine then some ((jcs ks ws).set 1 (.lst (natD ws ++ [.int b]))) else none := rfl
  rw [e, szl, if_pos (by simp [natD]; omega)]
  simp [jcs, natD]
theorem joined_row {r base : Nat} {ds : List Du} {m : Int} {a : Nat} {ks ws : List Nat} {P : Fl → Cs → Prop} {x5 x6 : Option Lv} (ha : a < r) (hr : r ≤ 30) (hks : ks.length ≤ 30) (hws : ws.length ≤ 30)
    (h : ∀ x5 x6, P (.nx [some (.c (.tup (tabT (tabW r ds)))), some (.c (.int base)), some (.p 0), some (.p 1), some (.c (.int a)), x5, x6]) (jcs (ks ++ newJ ds a ks r) (ws ++ newJ ds a ks r))) :
    Wp (l_joined_1 [some (.c (.tup (tabT (tabW r ds)))), some (.c (.int base)), some (.p 0), some (.p 1), some (.c (.int a)), x5, x6] (jcs ks ws)) P := by
  unfold l_joined_1
  have hrow : atI (tabT (tabW r ds)) (a : Int) = some (.tup ((rowW r ds a).map .int)) := by
    unfold tabT
    rw [atI_mapN rfl (by rw [tabW_len]; exact ha), tabW_nth ha]
  refine wp_forC (s := .enum (.c (.tup ((rowW r ds a).map .int)))) (((rowW r ds a).map Dt.int).mapIdx fun i d => Lv.c (.tup [.int i, d])) (fun i sl cs => ∃ x5 x6, sl = [some (.c (.tup (tabT (tabW r ds)))), some (.c (.int base)), some (.p 0), some (.p 1), some (.c (.int a)), x5, x6] ∧ cs = jcs (ks ++ newJ ds a ks i) (ws ++ newJ ds a ks i)) (cs1 := jcs ks ws) ?_ rfl ⟨_, _, rfl, by simp [newJ]⟩ ?_ ?_
  · unfold mEnum
    simp [hrow, view]
  · rintro i hi sl cs ⟨x5, x6, rfl, rfl⟩
    have hi' : i < r := by simpa [rowW] using hi
    have ex : (((rowW r ds a).map Dt.int).mapIdx fun i d => Lv.c (.tup [.int i, d]))[i] = .c (.tup [.int i, .int (wid ds a i)]) := by simp [rowW]
    rw [ex]
    refine ⟨[some (.c (.tup (tabT (tabW r ds)))), some (.c (.int base)), some (.p 0), some (.p 1), some (.c (.int a)), some (.c (.int i)), some (.c (.int (wid ds a i)))], _, by simp; rfl, ?_⟩
    have hnl : (newJ ds a ks i).length ≤ i := by
      unfold newJ
      have := List.length_filter_le (fun b => decide (0 < wid ds a b) && !decide (b ∈ ks)) (List.range i)
      simpa using this
    have hin : ∀ ks' ws', opIn true (.c (.int (i : Int))) (.p 0) (jcs ks' ws') = some (.c (.bl (!decide (i ∈ ks'))), jcs ks' ws') := fun _ _ => j_in
    have hmem : i ∈ ks ++ newJ ds a ks i ↔ i ∈ ks := by
      simp [newJ_mem]
    rw [newJ_succ]
    by_cases h1 : 0 < wid ds a i
    · by_cases h2 : i ∈ ks
      · simp [lb_joined_1, h1, hin, hmem, h2]
      · have hput := j_put (b := i) (ks := ks ++ newJ ds a ks i) (ws := ws ++ newJ ds a ks i) (sl := [some (.c (.tup (tabT (tabW r ds)))), some (.c (.int base)), some (.p 0), some (.p 1), some (.c (.int a)), some (.c (.int i)), some (.c (.int (wid ds a i)))]) (mo := mVar 2) (mi := mVar 5) rfl rfl (by rw [hmem]; exact h2) (by simp; omega)
        have hpush : ∀ ks', push false 1 (.c (.int (i : Int))) (jcs ks' (ws ++ newJ ds a ks i)) = some (jcs ks' (ws ++ newJ ds a ks i ++ [i])) := fun ks' => j_push (by simp; omega)
        have hLC : ∀ ks' ws', isLC (jcs ks' ws') 1 = true := fun _ _ => rfl
        simp [lb_joined_1, h1, hin, hmem, h2, hput, hLC, hpush]
    · simp [lb_joined_1, h1]
  · rintro sl cs ⟨x5, x6, rfl, rfl⟩
    have e : (((rowW r ds a).map Dt.int).mapIdx fun i d => Lv.c (.tup [.int i, d])).length = r := by simp [rowW]
    rw [e]
    exact h x5 x6
theorem joined_ok (r base : Nat) (ds : List Du) (m : Int) (hr : 1 ≤ r) (hr2 : r ≤ 30) (hb : base < r) (hd : ∀ d ∈ ds, DuOk r m d) : m_joined [.tup (tabT (tabW r ds)), .int base] = .ret (.c (.tup (natD (pieceOf (AdjW ds) r base)))) := by
  refine runF_of (n := 2) (k := 5) (body := b_joined) rfl ?_
  have e1 : mDisp [(mVar 1, mC (.bl true))] [some (.c (.tup (tabT (tabW r ds)))), some (.c (.int base)), none, none, none, none, none] [] = .ok (.p 0) [.dic ([base].map kN) [.bl true]] := rfl
  simp [b_joined, e1]
  unfold l_joined_2
  have e2 : ([Cl.dic [kN base] [Dt.bl true], Cl.lst [Dt.int ↑base]] : Cs) = jcs [base] [base] := rfl
  rw [e2]
  refine wp_while (fun k sl cs => ∃ ks ws x4 x5 x6, k = 2 * (r - ks.length) + ws.length ∧ JI ds r base ks ws ∧ sl = [some (.c (.tup (tabT (tabW r ds)))), some (.c (.int base)), some (.p 0), some (.p 1), x4, x5, x6] ∧ cs = jcs ks ws) (2 * (r - 1) + 1) ⟨[base], [base], _, _, _, rfl, ⟨by simp, by simp [hb, Rch.refl], by simp, by simp, by simp, by simp⟩, rfl, rfl⟩ (by omega) ?_
  rintro k sl cs ⟨ks, ws, x4, x5, x6, rfl, J, rfl, rfl⟩
  have hksl : ks.length ≤ r := len_le_of_nodup J.nd fun x hx => (J.rc x hx).1
  have hlen : cLen [.p 1] (jcs ks ws) = some (.c (.int (natD ws).length), jcs ks ws) := cLen_cell rfl
  have hnl : (natD ws).length = ws.length := by simp [natD]
  have ht : lt_joined_2 [some (.c (.tup (tabT (tabW r ds)))), some (.c (.int base)), some (.p 0), some (.p 1), x4, x5, x6] (jcs ks ws) = .ok (decide (0 < ws.length)) (jcs ks ws) := by
    simp [lt_joined_2, hlen, hnl, -cLen_p]
  rw [ht]
  refine .mk ?_
  by_cases hw : 0 < ws.length
  · rw [if_pos (by simpa using hw)]
    obtain ⟨w0, a, rfl⟩ : ∃ w0 a, ws = w0 ++ [a] := ⟨ws.dropLast, ws.getLast (by intro z; simp [z] at hw), (List.dropLast_concat_getLast _).symm⟩
    have haks := J.sub a (by simp)
    obtain ⟨har, hac⟩ := J.rc a haks
    have hLC : isLC (jcs ks (w0 ++ [a])) 1 = true := rfl
    unfold lb_joined_2
    rw [wp_seq]
    simp [hLC, j_pop]
    have hwl : (w0 ++ [a]).length ≤ r := len_le_of_nodup J.wn fun x hx => (J.rc x (J.sub x hx)).1
    have hwl' : w0.length + 1 ≤ r := by simpa using hwl
    have hw0 : w0.length ≤ 30 := by omega
    have hwn := List.nodup_append.mp J.wn
    refine joined_row (m := m) har hr2 (by omega) hw0 fun x5 x6 => ?_
    have hdis : ∀ x ∈ ks, x ∉ newJ ds a ks r := fun x hx z => (newJ_mem.mp z).2.2 hx
    have J2 : JI ds r base (ks ++ newJ ds a ks r) (w0 ++ newJ ds a ks r) := by
      refine ⟨List.nodup_append.mpr ⟨J.nd, newJ_nd, fun x hx y hy z => hdis x hx (z ▸ hy)⟩, fun x hx => ?_, by simp [J.bs], fun x hx => ?_, List.nodup_append.mpr ⟨hwn.1, newJ_nd, fun x hx y hy z => hdis x (J.sub x (by simp [hx])) (z ▸ hy)⟩, fun x hx => ?_⟩
      · rcases List.mem_append.mp hx with h | h
        · exact J.rc x h
        · obtain ⟨h1, h2, _⟩ := newJ_mem.mp h
          exact ⟨h1, .step hac h2⟩
      · rcases List.mem_append.mp hx with h | h
        · simp [J.sub x (by simp [h])]
        · simp [h]
      · rcases List.mem_append.mp hx with h | h
        · rcases J.cl x h with q | q
          · rcases List.mem_append.mp q with q | q
            · exact .inl (by simp [q])
            · have : x = a := by simpa using q
              subst this
              refine .inr fun y hy => ?_
              obtain ⟨_, hyr, _⟩ := wid_lt hd hy
              by_cases hyk : y ∈ ks
              · simp [hyk]
              · exact List.mem_append.mpr (.inr (newJ_mem.mpr ⟨hyr, hy, hyk⟩))
          · exact .inr fun y hy => by simp [q y hy]
        · exact .inl (by simp [h])
    have hl2 : (ks ++ newJ ds a ks r).length ≤ r := len_le_of_nodup J2.nd fun x hx => (J2.rc x hx).1
    refine ⟨_, ?_, _, _, rfl, J2, ⟨_, _, _, rfl⟩, rfl⟩
    simp only [List.length_append, List.length_cons, List.length_nil] at hl2 ⊢
    omega
  · rw [if_neg (by simpa using hw)]
    have : ws = [] := by
      cases ws with
      | nil => rfl
      | cons x xs => simp at hw
    subst this
    have e3 : mV (mOpN cSort (mCons (mVar 2) mNil)) [some (.c (.tup (tabT (tabW r ds)))), some (.c (.int base)), some (.p 0), some (.p 1), x4, x5, x6] (jcs ks []) = .ok (.c (.lst ((sortI (ks.map fun n : Nat => (n : Int))).map .int))) (jcs ks []) := by
      refine mV_new ?_ rfl
      have e4 : cSort [.p 0] (jcs ks []) = (intKeys (ks.map kN)).bind fun ns => if ns.length < 64 then some (.p (jcs ks []).length, (jcs ks []) ++ [.lst ((sortI ns).map .int)]) else none := rfl
      rw [intKeys_N] at e4
      simp [e4]
      omega
    simp [e3]
    have e5 := sort_nats (T := pieceOf (AdjW ds) r base) J.nd pieceOf_sorted (fun x => by
      rw [pieceOf_mem]
      constructor
      · exact fun hx => J.rc x hx
      · rintro ⟨_, hx⟩
        exact hx.mem J.bs fun y hy z hz => by
          rcases J.cl y hy with q | q
          · simp at q
          · exact q z hz)
    rw [e5]
    simp [natD, Function.comp_def]
end Mi

set_option Elab.async false
set_option linter.all false
set_option maxRecDepth 100000
set_option maxHeartbeats 4000000
namespace Mi
open PySem L2
/-! ### _law_pieces -/
def natI (ns : List Nat) : List Int := ns.map fun n : Nat => (n : Int)
theorem natD_eq (ns : List Nat) : natD ns = (natI ns).map .int := by simp [natD, natI, Function.comp_def]
theorem mem_natI {n : Nat} {ns : List Nat} : (n : Int) ∈ natI ns ↔ n ∈ ns := by
  unfold natI
  rw [List.mem_map]
  constructor
  · rintro ⟨a, ha, e⟩
    have : a = n := by omega
    exact this ▸ ha
  · exact fun h => ⟨n, h, rfl⟩
@[simp] theorem notin_nat {n : Nat} {ns : List Nat} {cs : Cs} : opIn true (.c (.int (n : Int))) (.c (.lst (natD ns))) cs = some (.c (.bl (!decide (n ∈ ns))), cs) := by
  rw [natD_eq, notin_ints]
  simp [mem_natI]
@[simp] theorem in_nat {n : Nat} {ns : List Nat} {cs : Cs} : opIn false (.c (.int (n : Int))) (.c (.lst (natD ns))) cs = some (.c (.bl (decide (n ∈ ns))), cs) := by
  rw [natD_eq, in_ints]
  simp [mem_natI]
theorem natD_len (ns : List Nat) : (natD ns).length = ns.length := by simp [natD]
theorem natD_app (ns ms : List Nat) : natD ns ++ natD ms = natD (ns ++ ms) := by simp [natD]
theorem tabD_item {r a b : Nat} {ds : List Du} {sl : Sl} {cs : Cs} {ma mb mt : ME} (ht : mt sl cs = .ok (.c (.lst (tabD (tabW r ds)))) cs) (ha : ma sl cs = .ok (.c (.int a)) cs) (hb : mb sl cs = .ok (.c (.int b)) cs) (h1 : a < r) (h2 : b < r) : mOp2 opItem (mOp2 opItem mt ma) mb sl cs = .ok (.c (.int (wid ds a b))) cs := by
  have e1 : atI (tabD (tabW r ds)) (a : Int) = some (.lst ((rowW r ds a).map .int)) := by
    unfold tabD
    rw [atI_mapN rfl (by rw [tabW_len]; exact h1), tabW_nth h1]
  have e2 : atI ((rowW r ds a).map Dt.int) (b : Int) = some (.int (wid ds a b)) := by
    rw [atI_mapN rfl (by rw [rowW_len]; exact h2), rowW_nth h2]
  simp [ht, ha, hb, e1, e2]
theorem sum_nonneg' {f : Nat → Int} : ∀ {S : List Nat}, (∀ c ∈ S, 0 ≤ f c) → 0 ≤ (S.map f).sum
  | [], _ => by simp
  | x :: xs, h => by
    have h1 := h x (by simp)
    have h2 := sum_nonneg' (f := f) (S := xs) fun c hc => h c (by simp [hc])
    simp
    omega
theorem sum_pos {S : List Nat} {f : Nat → Int} (h : ∀ c ∈ S, 0 ≤ f c) : 0 < (S.map f).sum ↔ ∃ c ∈ S, 0 < f c := by
  induction S with
  | nil => simp
  | cons x xs ih =>
    have h1 := h x (by simp)
    have ih := ih fun c hc => h c (by simp [hc])
    have h2 : 0 ≤ (xs.map f).sum := sum_nonneg' fun c hc => h c (by simp [hc])
    simp only [List.map_cons, List.sum_cons, List.mem_cons, exists_eq_or_imp, ← ih]
    omega
/-- a part of the piece of a that is being grown -/
structure Part (ds : List Du) (r a : Nat) (S : List Nat) : Prop where
  nd : S.Nodup
  rc : ∀ x ∈ S, x < r ∧ Rch (AdjW ds) a x
  at_ : a ∈ S
def Closed (ds : List Du) (S : List Nat) : Prop := ∀ x ∈ S, ∀ y, AdjW ds x y → y ∈ S
/-- the slots of _law_pieces -/
def pSl (r : Nat) (ds : List Du) (seen : List Nat) (a : Nat) (S : List Nat) (x5 x6 x7 : Option Lv) : Sl := [some (.c (.lst (tabD (tabW r ds)))), some (.p 0), some (.c (.lst (natD seen))), some (.c (.int a)), some (.c (.lst (natD S))), x5, x6, x7]
theorem pieces_inner {r a t : Nat} {ds : List Du} {m : Int} {seen S : List Nat} {x6 x7 : Option Lv} {fd : List Dt} {P : Fl → Cs → Prop} (hr : r ≤ 1000) (hd : ∀ d ∈ ds, DuOk r m d) (hS : Part ds r a S)
    (h : ∀ S' x6 x7, Part ds r a S' → (Closed ds S' ∨ S.length < S'.length) → P (.nx (pSl r ds seen a S' (some (.c (.int (t : Int)))) x6 x7)) [.lst fd]) :
    Wp (l_law_pieces_1 (pSl r ds seen a S (some (.c (.int (t : Int)))) x6 x7) [.lst fd]) P := by
  unfold l_law_pieces_1
  refine wp_forR r (fun i sl cs => ∃ S' x6 x7, Part ds r a S' ∧ (S.length < S'.length ∨ (S' = S ∧ ∀ b, b < i → b ∈ S ∨ ∀ c ∈ S, ¬ 0 < wid ds b c)) ∧ sl = pSl r ds seen a S' (some (.c (.int (t : Int)))) x6 x7 ∧ cs = [.lst fd]) (cs1 := [.lst fd]) ?_ (by omega) ⟨S, _, _, hS, .inr ⟨rfl, by omega⟩, rfl, rfl⟩ ?_ ?_
  · simp [pSl, tabD, tabW]
  · rintro i hi sl cs ⟨S', x6, x7, hP, hc, rfl, rfl⟩
    have hlen : S'.length ≤ r := len_le_of_nodup hP.nd fun x hx => (hP.rc x hx).1
    have hset : (pSl r ds seen a S' (some (.c (.int (t : Int)))) x6 x7).set 6 (some (.c (.int (i : Int)))) = pSl r ds seen a S' (some (.c (.int (t : Int)))) (some (.c (.int (i : Int)))) x7 := rfl
    rw [hset]
    have hv := vlc_ok (mi := mSeqI (mVar 4)) (s := .seq (.c (.lst (natD S')))) (g := gN 7) (tt := mYes) (te := mOp2 opItem (mOp2 opItem (mVar 0) (mVar 6)) (mVar 7)) (vs := [7]) (sl := pSl r ds seen a S' (some (.c (.int (t : Int)))) (some (.c (.int (i : Int)))) x7) (cs := [.lst fd]) S' (fun c => .c (.int (c : Int))) (fun _ => true) (fun c => .int (wid ds i c)) rfl (by simp [Src.itms, natD, Function.comp_def]) rfl (by omega)
      (fun c hc cs' hn => ⟨_, rfl, rfl, fun _ => tabD_item (by rfl) (by rfl) (by rfl) hi (hP.rc c hc).1⟩)
    rw [flt_true] at hv
    have hsum : cSum [.c (.lst (S'.map fun c => .int (wid ds i c)))] [.lst fd] = some (.c (.int (S'.map (wid ds i)).sum), [.lst fd]) := by
      have := cSum_ints (cs := [.lst fd]) (ns := S'.map (wid ds i))
      rw [List.map_map] at this
      exact this
    have hpos := sum_pos (S := S') (f := wid ds i) (fun c _ => wid_nonneg hd)
    by_cases h1 : i ∈ S'
    · have : Wp (lb_law_pieces_1 (pSl r ds seen a S' (some (.c (.int (t : Int)))) (some (.c (.int (i : Int)))) x7) [.lst fd]) fun fl cs => fl = .nx (pSl r ds seen a S' (some (.c (.int (t : Int)))) (some (.c (.int (i : Int)))) x7) ∧ cs = [.lst fd] := by
        simp [lb_law_pieces_1, pSl, h1]
      refine this.mono ?_
      rintro fl cs ⟨rfl, rfl⟩
      refine ⟨S', _, _, hP, ?_, rfl, rfl⟩
      rcases hc with q | ⟨rfl, q⟩
      · exact .inl q
      · refine .inr ⟨rfl, fun b hb => ?_⟩
        by_cases hbi : b = i
        · subst hbi; exact .inl h1
        · exact q b (by omega)
    · by_cases h2 : 0 < (S'.map (wid ds i)).sum
      · obtain ⟨c, hcS, hcw⟩ := hpos.mp h2
        obtain ⟨hc1, hc2⟩ := hP.rc c hcS
        have hadd : mV (mOp2 opAdd (mVar 4) (mV (mLst false (mCons (mVar 6) mNil)))) (pSl r ds seen a S' (some (.c (.int (t : Int)))) (some (.c (.int (i : Int)))) x7) [.lst fd] = .ok (.c (.lst (natD (S' ++ [i])))) [.lst fd] := by
          have e1 : mV (mLst false (mCons (mVar 6) mNil)) (pSl r ds seen a S' (some (.c (.int (t : Int)))) (some (.c (.int (i : Int)))) x7) [.lst fd] = .ok (.c (.lst [.int i])) [.lst fd] := mV_new (by simp [pSl]) rfl
          have e2 := opAdd_lst (cs := [.lst fd]) (ds := natD S') (es := natD [i]) (by rw [natD_len, natD_len]; simp; omega)
          rw [natD_app] at e2
          refine mV_new ?_ rfl
          have g4 : mVar 4 (pSl r ds seen a S' (some (.c (.int (t : Int)))) (some (.c (.int (i : Int)))) x7) [.lst fd] = .ok (.c (.lst (natD S'))) [.lst fd] := rfl
          rw [mOp2_ap, g4, Res.bind_ok, e1]
          show up (opAdd (.c (.lst (natD S'))) (.c (.lst (natD [i]))) [.lst fd]) = _
          rw [e2]
          rfl
        have : Wp (lb_law_pieces_1 (pSl r ds seen a S' (some (.c (.int (t : Int)))) (some (.c (.int (i : Int)))) x7) [.lst fd]) fun fl cs => fl = .nx (pSl r ds seen a (S' ++ [i]) (some (.c (.int (t : Int)))) (some (.c (.int (i : Int)))) x7) ∧ cs = [.lst fd] := by
          have g4 : mVar 4 (pSl r ds seen a S' (some (.c (.int (t : Int)))) (some (.c (.int (i : Int)))) x7) [.lst fd] = .ok (.c (.lst (natD S'))) [.lst fd] := rfl
          have g6 : mVar 6 (pSl r ds seen a S' (some (.c (.int (t : Int)))) (some (.c (.int (i : Int)))) x7) [.lst fd] = .ok (.c (.int (i : Int))) [.lst fd] := rfl
          simp only [lb_law_pieces_1, mIf_ap, wp_bind, mAnd_ap, mTst_ap, mOp2_ap, g4, g6, wp_ok, notin_nat, up_some, isB_bl, h1, decide_false, Bool.not_false, if_true, mOpN_ap, mCons_ap, hv, mNil_ap, hsum, mC_ap, opGt_int, h2, decide_true, mAsg_ap, hadd, gN_ap]
          exact ⟨rfl, trivial⟩
        refine this.mono ?_
        rintro fl cs ⟨rfl, rfl⟩
        refine ⟨S' ++ [i], _, _, ⟨List.nodup_append.mpr ⟨hP.nd, by simp, fun x hx y hy z => h1 (by simp at hy; rw [← hy, ← z]; exact hx)⟩, fun x hx => ?_, by simp [hP.at_]⟩, .inl ?_, rfl, rfl⟩
        · rcases List.mem_append.mp hx with q | q
          · exact hP.rc x q
          · have : x = i := by simpa using q
            subst this
            exact ⟨hi, .step hc2 (AdjW.symm _ _ hcw)⟩
        · rcases hc with q | ⟨rfl, q⟩
          · simp; omega
          · simp
      · have : Wp (lb_law_pieces_1 (pSl r ds seen a S' (some (.c (.int (t : Int)))) (some (.c (.int (i : Int)))) x7) [.lst fd]) fun fl cs => fl = .nx (pSl r ds seen a S' (some (.c (.int (t : Int)))) (some (.c (.int (i : Int)))) x7) ∧ cs = [.lst fd] := by
          have g4 : mVar 4 (pSl r ds seen a S' (some (.c (.int (t : Int)))) (some (.c (.int (i : Int)))) x7) [.lst fd] = .ok (.c (.lst (natD S'))) [.lst fd] := rfl
          have g6 : mVar 6 (pSl r ds seen a S' (some (.c (.int (t : Int)))) (some (.c (.int (i : Int)))) x7) [.lst fd] = .ok (.c (.int (i : Int))) [.lst fd] := rfl
          simp only [lb_law_pieces_1, mIf_ap, wp_bind, mAnd_ap, mTst_ap, mOp2_ap, g4, g6, wp_ok, notin_nat, up_some, isB_bl, h1, decide_false, Bool.not_false, if_true, mOpN_ap, mCons_ap, hv, mNil_ap, hsum, mC_ap, opGt_int, h2, Bool.false_eq_true, if_false, mPass_ap]
          exact ⟨trivial, trivial⟩
        refine this.mono ?_
        rintro fl cs ⟨rfl, rfl⟩
        refine ⟨S', _, _, hP, ?_, rfl, rfl⟩
        rcases hc with q | ⟨rfl, q⟩
        · exact .inl q
        · refine .inr ⟨rfl, fun b hb => ?_⟩
          by_cases hbi : b = i
          · subst hbi
            exact .inr fun c hc z => h2 (hpos.mpr ⟨c, hc, z⟩)
          · exact q b (by omega)
  · rintro sl cs ⟨S', x6, x7, hP, hc, rfl, rfl⟩
    refine h S' x6 x7 hP ?_
    rcases hc with q | ⟨rfl, q⟩
    · exact .inr q
    · refine .inl fun x hx y hy => ?_
      obtain ⟨_, hyr, _⟩ := wid_lt hd hy
      rcases q y hyr with q | q
      · exact q
      · exact absurd (AdjW.symm _ _ hy) (q x hx)
theorem len_le_sub {S T : List Nat} (hn : S.Nodup) (h : ∀ x ∈ S, x ∈ T) : S.length ≤ T.length := by
  induction S generalizing T with
  | nil => simp
  | cons x xs ih =>
    have hx := h x (by simp)
    have hn' := List.nodup_cons.mp hn
    have := ih (T := T.erase x) hn'.2 fun y hy => by
      have : y ≠ x := fun z => hn'.1 (z ▸ hy)
      rw [List.mem_erase_of_ne this]
      exact h y (by simp [hy])
    rw [List.length_erase_of_mem hx] at this
    have : 0 < T.length := List.length_pos_of_mem hx
    simp
    omega
theorem closed_all {ds : List Du} {r a : Nat} {S : List Nat} (hS : Part ds r a S) (hc : Closed ds S) {x : Nat} (h : Rch (AdjW ds) a x) : x ∈ S := h.mem hS.at_ hc
theorem pieces_mid {r a : Nat} {ds : List Du} {m : Int} {seen : List Nat} {x5 x6 x7 : Option Lv} {fd : List Dt} {P : Fl → Cs → Prop} (hr : r ≤ 1000) (hd : ∀ d ∈ ds, DuOk r m d) (ha : a < r)
    (h : ∀ S x5 x6 x7, Part ds r a S → Closed ds S → P (.nx (pSl r ds seen a S x5 x6 x7)) [.lst fd]) :
    Wp (l_law_pieces_2 (pSl r ds seen a [a] x5 x6 x7) [.lst fd]) P := by
  unfold l_law_pieces_2
  refine wp_forR r (fun t sl cs => ∃ S x5 x6 x7, Part ds r a S ∧ (Closed ds S ∨ t + 1 ≤ S.length) ∧ sl = pSl r ds seen a S x5 x6 x7 ∧ cs = [.lst fd]) (cs1 := [.lst fd]) ?_ (by omega) ⟨[a], _, _, _, ⟨by simp, by simp [ha, Rch.refl], by simp⟩, .inr (by simp), rfl, rfl⟩ ?_ ?_
  · simp [pSl, tabD, tabW]
  · rintro t ht sl cs ⟨S, x5, x6, x7, hS, hc, rfl, rfl⟩
    have hset : (pSl r ds seen a S x5 x6 x7).set 5 (some (.c (.int (t : Int)))) = pSl r ds seen a S (some (.c (.int (t : Int)))) x6 x7 := rfl
    rw [hset]
    refine pieces_inner hr hd hS fun S' x6 x7 hS' hc' => ?_
    refine ⟨S', _, _, _, hS', ?_, rfl, rfl⟩
    rcases hc' with q | q
    · exact .inl q
    · rcases hc with q2 | q2
      · have := len_le_sub hS'.nd fun x hx => closed_all hS q2 (hS'.rc x hx).2
        omega
      · exact .inr (by omega)
  · rintro sl cs ⟨S, x5, x6, x7, hS, hc, rfl, rfl⟩
    refine h S _ _ _ hS ?_
    rcases hc with q | q
    · exact q
    · have := len_le_of_nodup hS.nd fun x hx => (hS.rc x hx).1
      omega
open Classical in
/-- the first rooms of the pieces -/
noncomputable def repsOf (G : Nat → Nat → Prop) (a : Nat) : List Nat := (List.range a).filter fun x => decide (∀ y, y < x → ¬ Rch G y x)
/-- the pieces -/
noncomputable def piecesOf (G : Nat → Nat → Prop) (r : Nat) : List (List Nat) := (repsOf G r).map (pieceOf G r)
theorem repsOf_succ (G : Nat → Nat → Prop) (a : Nat) : (∀ y, y < a → ¬ Rch G y a) → repsOf G (a + 1) = repsOf G a ++ [a] := by
  intro h
  unfold repsOf
  rw [List.range_succ, List.filter_append]
  simp [List.filter_cons, h]
  exact h
theorem repsOf_not (G : Nat → Nat → Prop) (a : Nat) : ¬ (∀ y, y < a → ¬ Rch G y a) → repsOf G (a + 1) = repsOf G a := by
  intro h
  unfold repsOf
  rw [List.range_succ, List.filter_append]
  simp only [List.filter_cons, h, decide_false, Bool.false_eq_true, if_false, List.filter_nil, List.append_nil]
def lstD (ps : List (List Nat)) : List Dt := ps.map fun p => .lst (natD p)
theorem law_pieces_ok (r : Nat) (ds : List Du) (m : Int) (hr : 1 ≤ r) (hr2 : r ≤ 1000) (hd : ∀ d ∈ ds, DuOk r m d) : m_law_pieces [.lst (tabD (tabW r ds))] = .ret (.l (lstD (piecesOf (AdjW ds) r))) := by
  refine runF_of (n := 1) (k := 7) (body := b_law_pieces) rfl ?_
  simp [b_law_pieces]
  unfold l_law_pieces_3
  refine wp_forR r (fun a sl cs => ∃ seen x3 x4 x5 x6 x7, (∀ y, y ∈ seen ↔ y < r ∧ ∃ x, x < a ∧ Rch (AdjW ds) x y) ∧ seen.length ≤ a * r ∧ sl = [some (.c (.lst (tabD (tabW r ds)))), some (.p 0), some (.c (.lst (natD seen))), x3, x4, x5, x6, x7] ∧ cs = [.lst (lstD ((repsOf (AdjW ds) a).map (pieceOf (AdjW ds) r)))]) (cs1 := [.lst []]) ?_ (by omega) ⟨[], _, _, _, _, _, by simp, by simp, rfl, rfl⟩ ?_ ?_
  · simp [tabD, tabW]
  · rintro a ha sl cs ⟨seen, x3, x4, x5, x6, x7, hse, hsl, rfl, rfl⟩
    by_cases h1 : a ∈ seen
    · obtain ⟨_, x0, hx0, hr0⟩ := (hse a).mp h1
      have hrep : repsOf (AdjW ds) (a + 1) = repsOf (AdjW ds) a := repsOf_not _ _ fun z => z x0 hx0 hr0
      rw [hrep]
      have hse' : ∀ y, y ∈ seen ↔ y < r ∧ ∃ x, x < a + 1 ∧ Rch (AdjW ds) x y := fun y => by
        rw [hse y]
        constructor
        · rintro ⟨q1, x, q2, q3⟩
          exact ⟨q1, x, by omega, q3⟩
        · rintro ⟨q1, x, q2, q3⟩
          by_cases hxa : x = a
          · subst hxa
            exact ⟨q1, x0, hx0, hr0.trans q3⟩
          · exact ⟨q1, x, by omega, q3⟩
      have hsl' : seen.length ≤ (a + 1) * r := Nat.le_trans hsl (Nat.mul_le_mul_right _ (by omega))
      have hb : Wp (lb_law_pieces_3 [some (.c (.lst (tabD (tabW r ds)))), some (.p 0), some (.c (.lst (natD seen))), some (.c (.int a)), x4, x5, x6, x7] [.lst (lstD ((repsOf (AdjW ds) a).map (pieceOf (AdjW ds) r)))]) fun fl cs => fl = .nx [some (.c (.lst (tabD (tabW r ds)))), some (.p 0), some (.c (.lst (natD seen))), some (.c (.int a)), x4, x5, x6, x7] ∧ cs = [.lst (lstD ((repsOf (AdjW ds) a).map (pieceOf (AdjW ds) r)))] := by
        simp [lb_law_pieces_3, h1]
      refine hb.mono ?_
      rintro fl cs ⟨rfl, rfl⟩
      exact ⟨seen, _, _, _, _, _, hse', hsl', rfl, rfl⟩
    · have hno : ∀ y, y < a → ¬ Rch (AdjW ds) y a := fun y hy z => h1 ((hse a).mpr ⟨ha, y, hy, z⟩)
      rw [repsOf_succ _ _ hno, List.map_append]
      have e1 : mV (mLst false (mCons (mVar 3) mNil)) [some (.c (.lst (tabD (tabW r ds)))), some (.p 0), some (.c (.lst (natD seen))), some (.c (.int a)), x4, x5, x6, x7] [.lst (lstD ((repsOf (AdjW ds) a).map (pieceOf (AdjW ds) r)))] = .ok (.c (.lst (natD [a]))) [.lst (lstD ((repsOf (AdjW ds) a).map (pieceOf (AdjW ds) r)))] := mV_new (by simp [natD]) rfl
      have hrl : (repsOf (AdjW ds) a).length ≤ a := by
        unfold repsOf
        exact Nat.le_trans (List.length_filter_le _ _) (by simp)
      simp [lb_law_pieces_3, h1, e1]
      refine pieces_mid (m := m) hr2 hd ha fun S x5 x6 x7 hS hc => ?_
      have hSl : S.length ≤ r := len_le_of_nodup hS.nd fun x hx => (hS.rc x hx).1
      have hsort := sort_nats (T := pieceOf (AdjW ds) r a) hS.nd pieceOf_sorted fun x => by
        rw [pieceOf_mem]
        exact ⟨hS.rc x, fun z => closed_all hS hc z.2⟩
      have e2 : mV (mOpN cSort (mCons (mVar 4) mNil)) (pSl r ds seen a S x5 x6 x7) [.lst (lstD ((repsOf (AdjW ds) a).map (pieceOf (AdjW ds) r)))] = .ok (.c (.lst (natD (pieceOf (AdjW ds) r a)))) [.lst (lstD ((repsOf (AdjW ds) a).map (pieceOf (AdjW ds) r)))] := by
        refine mV_new ?_ rfl
        have q := cSort_ints (cs := [.lst (lstD ((repsOf (AdjW ds) a).map (pieceOf (AdjW ds) r)))]) (ns := natI S)
        have q2 : sortI (natI S) = natI (pieceOf (AdjW ds) r a) := hsort
        rw [q2, ← natD_eq, ← natD_eq] at q
        have g4 : mVar 4 (pSl r ds seen a S x5 x6 x7) [.lst (lstD ((repsOf (AdjW ds) a).map (pieceOf (AdjW ds) r)))] = .ok (.c (.lst (natD S))) [.lst (lstD ((repsOf (AdjW ds) a).map (pieceOf (AdjW ds) r)))] := rfl
        rw [mOpN_ap, mCons_ap, g4]
        simp only [Res.bind_ok, mNil_ap, q, up_some]
      have hpush : (lstD ((repsOf (AdjW ds) a).map (pieceOf (AdjW ds) r))).length < 16777216 := by
        simp [lstD]
        omega
      have e3 : ∀ cs : Cs, okCs cs.length cs = true → mV (mOp2 opAdd (mVar 2) (mVar 4)) (pSl r ds seen a S x5 x6 x7) cs = .ok (.c (.lst (natD (seen ++ S)))) cs := fun cs hcs => by
        refine mV_new ?_ hcs
        have hm : a * r ≤ 1000 * 1000 := Nat.mul_le_mul (by omega) hr2
        have e2 := opAdd_lst (cs := cs) (ds := natD seen) (es := natD S) (by rw [natD_len, natD_len]; omega)
        rw [natD_app] at e2
        have g4 : mVar 4 (pSl r ds seen a S x5 x6 x7) cs = .ok (.c (.lst (natD S))) cs := rfl
        have g2 : mVar 2 (pSl r ds seen a S x5 x6 x7) cs = .ok (.c (.lst (natD seen))) cs := rfl
        rw [mOp2_ap, g2]
        simp only [Res.bind_ok, g4, e2, up_some]
      have g1 : ∀ cs : Cs, mVar 1 (pSl r ds seen a S x5 x6 x7) cs = .ok (.p 0) cs := fun cs => rfl
      have hse' : ∀ y, y ∈ seen ++ S ↔ y < r ∧ ∃ x, x < a + 1 ∧ Rch (AdjW ds) x y := fun y => by
        rw [List.mem_append, hse y]
        constructor
        · rintro (⟨q1, x, q2, q3⟩ | q)
          · exact ⟨q1, x, by omega, q3⟩
          · exact ⟨(hS.rc y q).1, a, by omega, (hS.rc y q).2⟩
        · rintro ⟨q1, x, q2, q3⟩
          by_cases hxa : x = a
          · subst hxa
            exact .inr (closed_all hS hc q3)
          · exact .inl ⟨q1, x, by omega, q3⟩
      have hsl' : (seen ++ S).length ≤ (a + 1) * r := by
        rw [List.length_append, Nat.add_mul, Nat.one_mul]
        omega
      have g1' : (pSl r ds seen a S x5 x6 x7)[1]? = some (some (.p 0)) := rfl
      dsimp only
      simp only [g1', wp_ok, isLC_0, if_true, e2, Res.bind_ok, lApp_ap, push_c0, szl, hpush, Option.map_some, up_some, e3 [Cl.lst _] rfl]
      refine ⟨seen ++ S, hse', hsl', ⟨_, _, _, _, _, rfl⟩, ?_⟩
      simp [lstD]
  · rintro sl cs ⟨seen, x3, x4, x5, x6, x7, hse, hsl, rfl, rfl⟩
    simp [piecesOf]
end Mi

set_option Elab.async false
set_option linter.all false
set_option maxRecDepth 100000
set_option maxHeartbeats 4000000
/-! the mirrors of more defs that many laws share, printed -/
namespace Mi
open PySem L2
def lb_law_moved_1 : MS :=
  (mSeq (mAsg (mOp2 opMul (mOp2 opItem (mVar 4) (mC (.int 2))) (mOp2 opSub (mOp2 opItem (mVar 2) (mOp2 opItem (mVar 4) (mC (.int 0)))) (mOp2 opItem (mVar 2) (mOp2 opItem (mVar 4) (mC (.int 1)))))) (gN 5))
  (mSeq (mSetI (mVar 3) (mOp2 opItem (mVar 4) (mC (.int 0))) (mOp2 opSub (mOp2 opItem (mVar 3) (mOp2 opItem (mVar 4) (mC (.int 0)))) (mVar 5)))
  (mSetI (mVar 3) (mOp2 opItem (mVar 4) (mC (.int 1))) (mOp2 opAdd (mOp2 opItem (mVar 3) (mOp2 opItem (mVar 4) (mC (.int 1)))) (mVar 5)))))
def l_law_moved_1 : MS := (mFor 0 (mSeqI (mVar 0)) (gN 4) lb_law_moved_1)
def b_law_moved : MS :=
  (mSeq (mAsg (mOpN cList (mCons (mVar 1) mNil)) (gN 3))
  (mSeq l_law_moved_1
  (mRet (mVar 3))))
def m_law_moved : List Dt → Out := runF 3 3 b_law_moved
def b_law_same : MS :=
  (mRet (mAndV (mCall m_law_ints (mCons (mVar 0) (mCons (mOpN cLen (mCons (mVar 1) mNil)) mNil))) (mOp2 (opEq false) (mV (mOpN cList (mCons (mVar 0) mNil))) (mVar 1))))
def m_law_same : List Dt → Out := runF 2 0 b_law_same
def lb_piece_list_1 : MS :=
  (mDPut (mVar 2) (mVar 5) (mC (.bl true)))
def l_piece_list_1 : MS := (mFor 0 (mSeqI (mVar 4)) (gN 5) lb_piece_list_1)
def lb_piece_list_2 : MS :=
  (mIf (mTst (mOp2 (opIn true) (mVar 3) (mVar 2))) (mSeq (mAsg (mCall m_joined (mCons (mVar 0) (mCons (mVar 3) mNil))) (gN 4))
  (mSeq l_piece_list_1
  (mDrop (mLM (lApp false) (mVar 1) (mCons (mVar 4) mNil))))) mPass)
def l_piece_list_2 : MS := (mFor 0 (mRng rng1 (mCons (mOpN cLen (mCons (mVar 0) mNil)) mNil)) (gN 3) lb_piece_list_2)
def b_piece_list : MS :=
  (mSeq (mAsg (mLst false mNil) (gN 1))
  (mSeq (mAsg mDNew (gN 2))
  (mSeq l_piece_list_2
  (mRet (mVar 1)))))
def m_piece_list : List Dt → Out := runF 1 5 b_piece_list
def b_pieces : MS :=
  (mSeq (mDrop (mCall m_require_building (mCons (mVar 0) mNil)))
  (mRet (mCall m_piece_list (mCons (mMeth 0 "width_rows" m_Building_width_rows (mVar 0) mNil) mNil))))
def m_pieces : List Dt → Out := runF 1 0 b_pieces
def lb_shifted_1 : MS :=
  (mAug 6 (fun i j => i + j) (mOp2 opMul (mVar 8) (mOp2 opSub (mOp2 opItem (mVar 2) (mVar 4)) (mOp2 opItem (mVar 2) (mVar 7)))))
def l_shifted_1 : MS := (mFor 0 (mEnum (mCons (mVar 5) mNil)) (gT 2 (gsCons (gN 7) (gsCons (gN 8) gsNil))) lb_shifted_1)
def lb_shifted_2 : MS :=
  (mSeq (mAsg (mC (.int 0)) (gN 6))
  (mSeq l_shifted_1
  (mDrop (mLM (lApp false) (mVar 3) (mCons (mOp2 opSub (mOp2 opItem (mVar 1) (mVar 4)) (mVar 6)) mNil)))))
def l_shifted_2 : MS := (mFor 0 (mEnum (mCons (mVar 0) mNil)) (gT 2 (gsCons (gN 4) (gsCons (gN 5) gsNil))) lb_shifted_2)
def b_shifted : MS :=
  (mSeq (mAsg (mLst false mNil) (gN 3))
  (mSeq l_shifted_2
  (mRet (mOpN cTuple (mCons (mVar 3) mNil)))))
def m_shifted : List Dt → Out := runF 3 6 b_shifted
def b_after : MS :=
  (mSeq (mDrop (mCall m_require_building (mCons (mVar 0) mNil)))
  (mSeq (mDrop (mCall m_require_load (mCons (mVar 0) (mCons (mVar 1) (mCons (mC (.str "load")) mNil)))))
  (mSeq (mDrop (mCall m_require (mCons (mCall m_is_table (mCons (mVar 2) (mCons (mFld 0 "rooms" (mVar 0)) (mCons (mOp1 opNeg (mC (.int 1000000))) (mCons (mC (.int 1000000)) mNil))))) (mCons (mC (.str "script")) mNil))))
  (mRet (mCall m_shifted (mCons (mMeth 0 "width_rows" m_Building_width_rows (mVar 0) mNil) (mCons (mVar 1) (mCons (mVar 2) mNil))))))))
def m_after : List Dt → Out := runF 3 0 b_after
def lb_has_no_shortage_1 : MS :=
  (mIf (mTst (mOp2 opLt (mVar 1) (mC (.int 0)))) (mRet (mC (.bl false))) mPass)
def l_has_no_shortage_1 : MS := (mFor 0 (mSeqI (mVar 0)) (gN 1) lb_has_no_shortage_1)
def b_has_no_shortage : MS :=
  (mSeq l_has_no_shortage_1
  (mRet (mC (.bl true))))
def m_has_no_shortage : List Dt → Out := runF 1 1 b_has_no_shortage
def b_is_good : MS :=
  (mSeq (mDrop (mCall m_require_building (mCons (mVar 0) mNil)))
  (mSeq (mDrop (mCall m_require_load (mCons (mVar 0) (mCons (mVar 1) (mCons (mC (.str "load")) mNil)))))
  (mRet (mCall m_has_no_shortage (mCons (mVar 1) mNil)))))
def m_is_good : List Dt → Out := runF 2 0 b_is_good
def b_total : MS :=
  (mSeq (mDrop (mCall m_require_building (mCons (mVar 0) mNil)))
  (mSeq (mDrop (mCall m_require_load (mCons (mVar 0) (mCons (mVar 1) (mCons (mC (.str "load")) mNil)))))
  (mRet (mOpN cSum (mCons (mVar 1) mNil)))))
def m_total : List Dt → Out := runF 2 0 b_total
def lb_are_places_1 : MS :=
  (mSeq (mIf (mOr (mNot (mTru (mCall m_is_between (mCons (mVar 3) (mCons (mC (.int 0)) (mCons (mOp2 opSub (mVar 1) (mC (.int 1))) mNil)))))) (mTst (mOp2 (opIn false) (mVar 3) (mVar 2)))) (mRet (mC (.bl false))) mPass)
  (mDPut (mVar 2) (mVar 3) (mC (.bl true))))
def l_are_places_1 : MS := (mFor 0 (mSeqI (mVar 0)) (gN 3) lb_are_places_1)
def b_are_places : MS :=
  (mSeq (mIf (mNot (mTru (mOpN (cIsi own0 tab0) (mCons (mVar 0) (mCons (mTup (mCons (mC (.ty "list")) (mCons (mC (.ty "tuple")) mNil))) mNil))))) (mRet (mC (.bl false))) mPass)
  (mSeq (mAsg mDNew (gN 2))
  (mSeq l_are_places_1
  (mRet (mC (.bl true))))))
def m_are_places : List Dt → Out := runF 2 2 b_are_places
def lb_vent_1 : MS :=
  (mSetI (mVar 3) (mVar 4) (mC (.int 1)))
def l_vent_1 : MS := (mFor 0 (mSeqI (mVar 2)) (gN 4) lb_vent_1)
def b_vent : MS :=
  (mSeq (mDrop (mCall m_require_building (mCons (mVar 0) mNil)))
  (mSeq (mDrop (mCall m_require_load (mCons (mVar 0) (mCons (mVar 1) (mCons (mC (.str "load")) mNil)))))
  (mSeq (mDrop (mCall m_require (mCons (mCall m_are_places (mCons (mVar 2) (mCons (mFld 0 "rooms" (mVar 0)) mNil))) (mCons (mC (.str "rooms")) mNil))))
  (mSeq (mAsg (mOp2 opMul (mV (mLst false (mCons (mC (.int 0)) mNil))) (mFld 0 "rooms" (mVar 0))) (gN 3))
  (mSeq l_vent_1
  (mRet (mCall m_shifted (mCons (mMeth 0 "width_rows" m_Building_width_rows (mVar 0) mNil) (mCons (mVar 1) (mCons (mVar 3) mNil))))))))))
def m_vent : List Dt → Out := runF 3 2 b_vent
end Mi

set_option Elab.async false
set_option linter.all false
set_option maxRecDepth 100000
set_option maxHeartbeats 4000000
namespace Mi
open PySem L2
/-! ### lists and tuples alike -/
def sqD (t : Bool) (xs : List Dt) : Dt := if t = true then .tup xs else .lst xs
section
variable {t : Bool} {xs : List Dt} {cs : Cs} {i : Int}
theorem sqD_t : sqD true xs = .tup xs := rfl
theorem sqD_f : sqD false xs = .lst xs := rfl
@[simp] theorem sq_item : opItem (.c (sqD t xs)) (.c (.int i)) cs = ((atI xs i).map fun d => (Lv.c d, cs)) := by
  cases t
  · exact opItem_c
  · exact opItem_t
@[simp] theorem sq_len : cLen [.c (sqD t xs)] cs = some (.c (.int xs.length), cs) := by
  cases t
  · exact cLen_lst
  · exact cLen_tup
@[simp] theorem sq_isi {own : Nat → Bool} {tab : TN → TN → Option Bool} : cIsi own tab [.c (sqD t xs), .c (.tup [.ty "list", .ty "tuple"])] cs = some (.c (.bl true), cs) := by
  cases t <;> simp [sqD]
@[simp] theorem sq_list : cList [.c (sqD t xs)] cs = some (.p cs.length, cs ++ [.lst xs]) := by
  cases t
  · exact cList_lst
  · exact cList_tup
end
/-- for i, x in enumerate(closed list) -/
theorem wp_forE {α : Type} {extra : Nat} {ma : MA} {k1 k2 : Nat} {body : MS} {sl : Sl} {cs cs1 : Cs} {P : Fl → Cs → Prop} {f : α → Dt} (t : Bool) (as : List α) (I : Nat → Sl → Cs → Prop) (h : ma sl cs = .ok [.c (sqD t (as.map f))] cs1) (h0 : I 0 sl cs1)
    (hs : ∀ i (hi : i < as.length) sl cs, I i sl cs → Wp (body ((sl.set k1 (some (.c (.int (i : Int))))).set k2 (some (.c (f as[i])))) cs) fun fl cs2 => match fl with
      | .nx sl2 => I (i + 1) sl2 cs2
      | .ct sl2 => I (i + 1) sl2 cs2
      | .bk sl2 => P (.nx sl2) cs2
      | .rt v => P (.rt v) cs2)
    (he : ∀ sl cs, I as.length sl cs → P (.nx sl) cs) : Wp (mFor extra (mEnum ma) (gT 2 (gsCons (gN k1) (gsCons (gN k2) gsNil))) body sl cs) P := by
  have hr : mEnum ma sl cs = .ok (.enum (.c (sqD t (as.map f)))) cs1 := by
    unfold mEnum
    rw [h]
    cases t <;> simp [sqD, view]
  have hx : (Src.enum (.c (sqD t (as.map f)))).itms = some ((as.map f).mapIdx fun i d => Lv.c (.tup [.int i, d])) := by cases t <;> rfl
  refine wp_forC (s := .enum (.c (sqD t (as.map f)))) _ I hr hx h0 (fun i hi sl cs hI => ?_) (fun sl cs q => he sl cs (by simpa using q))
  have hi' : i < as.length := by simpa using hi
  have ex : ((as.map f).mapIdx fun i d => Lv.c (.tup [.int i, d]))[i] = .c (.tup [.int i, f as[i]]) := by simp
  rw [ex]
  exact ⟨_, _, by simp, hs i hi' sl cs hI⟩
/-- for x in a closed list or tuple -/
theorem wp_forS {α : Type} {extra : Nat} {ma : ME} {k : Nat} {body : MS} {sl : Sl} {cs cs1 : Cs} {P : Fl → Cs → Prop} {f : α → Dt} (t : Bool) (as : List α) (I : Nat → Sl → Cs → Prop) (h : ma sl cs = .ok (.c (sqD t (as.map f))) cs1) (h0 : I 0 sl cs1)
    (hs : ∀ i (hi : i < as.length) sl cs, I i sl cs → Wp (body (sl.set k (some (.c (f as[i])))) cs) fun fl cs2 => match fl with
      | .nx sl2 => I (i + 1) sl2 cs2
      | .ct sl2 => I (i + 1) sl2 cs2
      | .bk sl2 => P (.nx sl2) cs2
      | .rt v => P (.rt v) cs2)
    (he : ∀ sl cs, I as.length sl cs → P (.nx sl) cs) : Wp (mFor extra (mSeqI ma) (gN k) body sl cs) P := by
  cases t
  · exact wp_forL as I (.inl h) h0 hs he
  · exact wp_forL as I (.inr h) h0 hs he
theorem sq_table (t : Bool) (xs : List Int) (n : Nat) (lo hi : Int) (hn : xs.length = n) (h : ∀ x ∈ xs, lo ≤ x ∧ x ≤ hi) : m_is_table [sqD t (xs.map .int), .int n, .int lo, .int hi] = .ret (.c (.bl true)) := by
  cases t
  · exact (is_table_ok xs n lo hi hn h).2
  · exact (is_table_ok xs n lo hi hn h).1
/-! ### checks of buildings and loads -/
theorem objB (r : Nat) (ds : List Du) (cs : Cs) : objOf cs (.c (bldD r ds)) = some (0, (["rooms", "ducts", "_widths"] : List Str), [Dt.int r, Dt.tup (ds.map duD), Dt.tup (tabT (tabW r ds))]) := rfl
theorem lookB (r : Nat) (ds : List Du) : lookD (["rooms", "ducts", "_widths"] : List Str) [Dt.int r, Dt.tup (ds.map duD), Dt.tup (tabT (tabW r ds))] "rooms" = some (.int r) := by simp [lookD]
theorem requireB_ok (r : Nat) (ds : List Du) : m_require_building [bldD r ds] = .ret (.c .non) := by
  refine runF_of (n := 1) (k := 0) (body := b_require_building) rfl ?_
  simp [b_require_building, bldD, require_t]
theorem requireR_ok (r base : Nat) (ds : List Du) (nm : Str) (hb : base < r) : m_require_room [bldD r ds, .int base, .str nm] = .ret (.c .non) := by
  refine runF_of (n := 3) (k := 0) (body := b_require_room) rfl ?_
  have e1 := is_between_int base 0 ((r : Int) - 1)
  have h1 : (0 : Int) ≤ base := by omega
  have h2 : (base : Int) ≤ (r : Int) - 1 := by omega
  simp [b_require_room, bldD, objOf, lookD, e1, h2, require_t]
theorem requireL_ok (t : Bool) (r : Nat) (ds : List Du) (load : List Int) (nm : Str) (hl : load.length = r) (hx : ∀ x ∈ load, -200 ≤ x ∧ x ≤ 200) : m_require_load [bldD r ds, sqD t (load.map .int), .str nm] = .ret (.c .non) := by
  refine runF_of (n := 3) (k := 0) (body := b_require_load) rfl ?_
  have e1 := sq_table t load r (-200) 200 hl hx
  simp [b_require_load, bldD, objOf, lookD, e1, require_t]
theorem widthRows_ok (r : Nat) (ds : List Du) : m_Building_width_rows [bldD r ds] = .ret (.c (.tup (tabT (tabW r ds)))) := by
  refine runF_of (n := 1) (k := 0) (body := b_Building_width_rows) rfl ?_
  have n1 : ¬ (("_widths" : Str) = "rooms") := by decide +kernel
  have n2 : ¬ (("_widths" : Str) = "ducts") := by decide +kernel
  simp [b_Building_width_rows, bldD, objOf, lookD, n1, n2]
theorem widthRows_ap (r : Nat) (ds : List Du) (sl : Sl) (cs : Cs) (hc : noPl cs = true) : mMeth 0 "width_rows" m_Building_width_rows (mVar 0) mNil (some (.c (bldD r ds)) :: sl) cs = .ok (.c (.tup (tabT (tabW r ds)))) cs := by
  have n1 : ¬ (("width_rows" : Str) = "rooms") := by decide +kernel
  have n2 : ¬ (("width_rows" : Str) = "ducts") := by decide +kernel
  have n3 : ¬ (("width_rows" : Str) = "_widths") := by decide +kernel
  unfold mMeth
  simp only [mVar_ap, List.getElem?_cons_zero, Res.bind_ok]
  have : objOf cs (.c (bldD r ds)) = some (0, (["rooms", "ducts", "_widths"] : List Str), [Dt.int r, Dt.tup (ds.map duD), Dt.tup (tabT (tabW r ds))]) := rfl
  simp only [this]
  simp [n1, n2, n3, widthRows_ok]
theorem lawInts_ok (xs : List Int) (n : Nat) (hn : xs.length = n) : m_law_ints [.tup (xs.map .int), .int n] = .ret (.c (.bl true)) := by
  subst hn
  refine runF_of (n := 2) (k := 1) (body := b_law_ints) rfl ?_
  simp [b_law_ints]
  unfold l_law_ints_1
  refine wp_forL (f := Dt.int) xs (fun i sl cs => ∃ x2, sl = [some (.c (.tup (xs.map .int))), some (.c (.int xs.length)), x2] ∧ cs = []) (cs1 := []) (.inr (by simp)) ⟨_, rfl, rfl⟩ ?_ ?_
  · rintro i hi' sl cs ⟨x2, rfl, rfl⟩
    simp [lb_law_ints_1]
  · rintro sl cs ⟨x2, rfl, rfl⟩
    simp
theorem pln_ints {n : Nat} : ∀ xs : List Int, (xs.map Dt.int).all (pln n) = true
  | [] => rfl
  | x :: xs => by
    simp only [List.map_cons, List.all_cons, pln_ints xs, Bool.and_true]
    cases n <;> rfl
theorem ints_inj {xs ys : List Int} : xs.map Dt.int = ys.map Dt.int ↔ xs = ys := by
  constructor
  · intro h
    induction xs generalizing ys with
    | nil => cases ys <;> simp at h ⊢
    | cons x xs ih =>
      cases ys with
      | nil => simp at h
      | cons y ys => simp at h ⊢; exact ⟨h.1, ih h.2⟩
  · rintro rfl; rfl
theorem eq_intsL {neg : Bool} {xs ys : List Int} {cs : Cs} : opEq neg (.c (.lst (xs.map .int))) (.c (.lst (ys.map .int))) cs = some (.c (.bl (if neg = true then !decide (xs = ys) else decide (xs = ys))), cs) := by
  have h1 : pln 60 (.lst (xs.map .int)) = true := pln_ints (n := 59) xs
  have h2 : pln 60 (.lst (ys.map .int)) = true := pln_ints (n := 59) ys
  rw [opEq_pln h1 h2]
  by_cases h : xs = ys
  · simp [h]
  · have h' : ¬ xs.map Dt.int = ys.map Dt.int := fun z => h (ints_inj.mp z)
    simp [h, h']
theorem eq_intsT {neg : Bool} {xs ys : List Int} {cs : Cs} : opEq neg (.c (.tup (xs.map .int))) (.c (.tup (ys.map .int))) cs = some (.c (.bl (if neg = true then !decide (xs = ys) else decide (xs = ys))), cs) := by
  have h1 : pln 60 (.tup (xs.map .int)) = true := pln_ints (n := 59) xs
  have h2 : pln 60 (.tup (ys.map .int)) = true := pln_ints (n := 59) ys
  rw [opEq_pln h1 h2]
  by_cases h : xs = ys
  · simp [h]
  · have h' : ¬ xs.map Dt.int = ys.map Dt.int := fun z => h (ints_inj.mp z)
    simp [h, h']
theorem lawSame_ok (xs : List Int) : m_law_same [.tup (xs.map .int), .lst (xs.map .int)] = .ret (.c (.bl true)) := by
  refine runF_of (n := 2) (k := 0) (body := b_law_same) rfl ?_
  have e1 := lawInts_ok xs xs.length rfl
  have e2 : ∀ sl, mV (mOpN cList (mCons (mVar 0) mNil)) (some (.c (.tup (xs.map .int))) :: sl) [] = .ok (.c (.lst (xs.map .int))) [] := fun sl => mV_new (by simp) rfl
  simp [b_law_same, e1, e2, eq_intsL]
end Mi

set_option Elab.async false
set_option linter.all false
set_option maxRecDepth 100000
set_option maxHeartbeats 4000000
namespace Mi
open PySem L2
theorem snoc_ind {α : Type} {P : List α → Prop} (h0 : P []) (h1 : ∀ xs x, P xs → P (xs ++ [x])) (xs : List α) : P xs := by
  have h : ∀ ys : List α, P ys.reverse := fun ys => by
    induction ys with
    | nil => exact h0
    | cons y ys ih => rw [List.reverse_cons]; exact h1 _ _ ih
  have := h xs.reverse
  rwa [List.reverse_reverse] at this
/-! ### sums over rooms -/
def sumR (n : Nat) (f : Nat → Int) : Int := ((List.range n).map f).sum
@[simp] theorem sumR_zero {f : Nat → Int} : sumR 0 f = 0 := rfl
theorem sumR_succ {n : Nat} {f : Nat → Int} : sumR (n + 1) f = sumR n f + f n := by
  simp [sumR, List.range_succ]
theorem sumR_add {f g : Nat → Int} : ∀ n, sumR n (fun b => f b + g b) = sumR n f + sumR n g
  | 0 => rfl
  | n + 1 => by rw [sumR_succ, sumR_succ, sumR_succ, sumR_add n]; omega
theorem sumR_congr {f g : Nat → Int} : ∀ {n}, (∀ b, b < n → f b = g b) → sumR n f = sumR n g
  | 0, _ => rfl
  | n + 1, h => by rw [sumR_succ, sumR_succ, sumR_congr fun b hb => h b (by omega), h n (by omega)]
theorem sumR_zeros {f : Nat → Int} {n : Nat} (h : ∀ b, b < n → f b = 0) : sumR n f = 0 := by
  induction n with
  | zero => rfl
  | succ n ih => rw [sumR_succ, ih fun b hb => h b (by omega), h n (by omega)]; rfl
theorem sumR_pick {f : Nat → Int} {x : Nat} : ∀ {n}, x < n → sumR n (fun b => if b = x then f b else 0) = f x
  | 0, h => by omega
  | n + 1, h => by
    rw [sumR_succ]
    by_cases e : n = x
    · subst e
      rw [sumR_zeros fun b hb => if_neg (by omega)]
      simp
    · rw [sumR_pick (by omega), if_neg e]
      omega
/-! ### what a script moves -/
/-- what room a loses by the script s -/
def lost (ds : List Du) (s : List Int) (r a : Nat) : Int := sumR r fun b => wid ds a b * (nth s a - nth s b)
def shL (ds : List Du) (load s : List Int) (r : Nat) : List Int := (List.range r).map fun a => nth load a - lost ds s r a
theorem shL_len {ds : List Du} {load s : List Int} {r : Nat} : (shL ds load s r).length = r := by simp [shL]
theorem shL_nth {ds : List Du} {load s : List Int} {r a : Nat} (h : a < r) : nth (shL ds load s r) a = nth load a - lost ds s r a := by
  rw [nth_get (by rw [shL_len]; exact h)]
  simp [shL]
theorem lost_snoc {ds : List Du} {d : Du} {s : List Int} {r a : Nat} (h1 : d.1 < r) (h2 : d.2.1 < r) (hne : d.1 ≠ d.2.1) :
    lost (ds ++ [d]) s r a = lost ds s r a + (if a = d.1 then d.2.2 * (nth s d.1 - nth s d.2.1) else if a = d.2.1 then d.2.2 * (nth s d.2.1 - nth s d.1) else 0) := by
  unfold lost
  rw [← sumR_congr (f := fun b => wid ds a b * (nth s a - nth s b) + (if (d.1 = a ∧ d.2.1 = b) ∨ (d.1 = b ∧ d.2.1 = a) then d.2.2 else 0) * (nth s a - nth s b)) (fun b _ => by rw [wid_snoc, Int.add_mul]), sumR_add]
  congr 1
  by_cases e1 : a = d.1
  · rw [if_pos e1, ← sumR_pick (f := fun b => d.2.2 * (nth s d.1 - nth s b)) h2]
    refine sumR_congr fun b _ => ?_
    by_cases e : b = d.2.1
    · rw [if_pos e, if_pos (.inl ⟨e1.symm, e.symm⟩), e1]
    · rw [if_neg e, if_neg, Int.zero_mul]
      rintro (⟨_, z⟩ | ⟨_, z⟩)
      · exact e z.symm
      · exact hne (by rw [z, e1])
  · rw [if_neg e1]
    by_cases e2 : a = d.2.1
    · rw [if_pos e2, ← sumR_pick (f := fun b => d.2.2 * (nth s d.2.1 - nth s b)) h1]
      refine sumR_congr fun b _ => ?_
      by_cases e : b = d.1
      · rw [if_pos e, if_pos (.inr ⟨e.symm, e2.symm⟩), e2]
      · rw [if_neg e, if_neg, Int.zero_mul]
        rintro (⟨z, _⟩ | ⟨z, _⟩)
        · exact e1 z.symm
        · exact e z.symm
    · rw [if_neg e2]
      refine sumR_zeros fun b _ => ?_
      rw [if_neg, Int.zero_mul]
      rintro (⟨z, _⟩ | ⟨_, z⟩)
      · exact e1 z.symm
      · exact e2 z.symm
theorem nth_set {xs : List Int} {i j : Nat} {v : Int} (hi : i < xs.length) : nth (xs.set i v) j = if j = i then v else nth xs j := by
  by_cases hj : j < xs.length
  · rw [nth_get (by simpa using hj), nth_get hj, List.getElem_set]
    by_cases e : i = j
    · simp [e]
    · have : ¬ j = i := fun z => e z.symm
      simp [e, this]
  · have hne : ¬ j = i := by omega
    simp [nth, hj, hne]
theorem list_ext {xs ys : List Int} (hl : xs.length = ys.length) (h : ∀ i, i < xs.length → nth xs i = nth ys i) : xs = ys := by
  apply List.ext_getElem hl
  intro i h1 h2
  have := h i h1
  rwa [nth_get h1, nth_get h2] at this
/-- one duct more -/
theorem shL_snoc {ds : List Du} {d : Du} {load s : List Int} {r : Nat} (h1 : d.1 < r) (h2 : d.2.1 < r) (hne : d.1 ≠ d.2.1) :
    ((shL ds load s r).set d.1 (nth (shL ds load s r) d.1 - d.2.2 * (nth s d.1 - nth s d.2.1))).set d.2.1 (nth (shL ds load s r) d.2.1 + d.2.2 * (nth s d.1 - nth s d.2.1)) = shL (ds ++ [d]) load s r := by
  refine list_ext (by simp [shL]) fun i hi => ?_
  have hi' : i < r := by simpa [shL] using hi
  rw [nth_set (by simp [shL]; exact h2), nth_set (by rw [shL_len]; exact h1), shL_nth (ds := ds ++ [d]) hi', lost_snoc h1 h2 hne, shL_nth h1, shL_nth h2]
  have hs : d.2.2 * (nth s d.2.1 - nth s d.1) = - (d.2.2 * (nth s d.1 - nth s d.2.1)) := by rw [← Int.mul_neg]; congr 1; omega
  by_cases e2 : i = d.2.1
  · have e1 : ¬ i = d.1 := fun z => hne (z.symm.trans e2)
    rw [if_pos e2, if_neg e1, if_pos e2, hs, e2]
    omega
  · rw [if_neg e2]
    by_cases e1 : i = d.1
    · rw [if_pos e1, if_pos e1, e1]; omega
    · rw [if_neg e1, if_neg e1, if_neg e2, shL_nth hi']; omega
theorem shL_nil {load s : List Int} {r : Nat} (h : load.length = r) : shL [] load s r = load := by
  refine list_ext (by rw [shL_len, h]) fun i hi => ?_
  have hi' : i < r := by simpa [shL] using hi
  rw [shL_nth hi']
  have : lost [] s r i = 0 := sumR_zeros fun b _ => by simp [wid]
  omega
/-- sums over a set that each duct keeps in or out stay -/
theorem sum_setL {xs : List Int} {P : List Nat} {i : Nat} {v : Int} (hi : i < xs.length) (hn : P.Nodup) : (P.map fun a => nth (xs.set i v) a).sum = (P.map fun a => nth xs a).sum + if i ∈ P then v - nth xs i else 0 := by
  induction P with
  | nil => simp
  | cons a P ih =>
    obtain ⟨n1, n2⟩ := List.nodup_cons.mp hn
    rw [List.map_cons, List.map_cons, List.sum_cons, List.sum_cons, ih n2, nth_set hi]
    by_cases e : a = i
    · subst e
      simp [n1]; omega
    · have e' : ¬ i = a := fun z => e z.symm
      simp [e, e']; omega
theorem sum_stays {load s : List Int} {r : Nat} {P : List Nat} (hn : P.Nodup) (hl : load.length = r) : ∀ (ds : List Du), (∀ d ∈ ds, d.1 < r ∧ d.2.1 < r ∧ d.1 ≠ d.2.1 ∧ (d.1 ∈ P ↔ d.2.1 ∈ P)) → (P.map fun a => nth (shL ds load s r) a).sum = (P.map fun a => nth load a).sum := by
  intro ds
  induction ds using snoc_ind with
  | h0 => intro _; rw [shL_nil hl]
  | h1 ds d ih =>
    intro h
    obtain ⟨h1, h2, h3, h4⟩ := h d (by simp)
    have hne : ¬ d.2.1 = d.1 := fun z => h3 z.symm
    have q1 := sum_setL (xs := shL ds load s r) (P := P) (i := d.1) (v := nth (shL ds load s r) d.1 - d.2.2 * (nth s d.1 - nth s d.2.1)) (by rw [shL_len]; exact h1) hn
    have q2 := sum_setL (xs := (shL ds load s r).set d.1 (nth (shL ds load s r) d.1 - d.2.2 * (nth s d.1 - nth s d.2.1))) (P := P) (i := d.2.1) (v := nth (shL ds load s r) d.2.1 + d.2.2 * (nth s d.1 - nth s d.2.1)) (by rw [List.length_set, shL_len]; exact h2) hn
    rw [nth_set (by rw [shL_len]; exact h1), if_neg hne] at q2
    rw [← shL_snoc h1 h2 h3, q2, q1, ih fun e he => h e (by simp [he])]
    by_cases e : d.1 ∈ P
    · rw [if_pos e, if_pos (h4.mp e)]; omega
    · rw [if_neg e, if_neg (fun z => e (h4.mpr z))]; omega
end Mi

set_option Elab.async false
set_option linter.all false
set_option maxRecDepth 100000
set_option maxHeartbeats 4000000
namespace Mi
open PySem L2
theorem wid_le {r : Nat} {m : Int} {a b : Nat} : ∀ {ds : List Du}, (∀ d ∈ ds, DuOk r m d) → wid ds a b ≤ m * ds.length
  | [], _ => by simp [wid]
  | d :: ds, h => by
    have ih := wid_le (ds := ds) (a := a) (b := b) fun e he => h e (by simp [he])
    obtain ⟨_, _, _, d4, d5⟩ := h d (by simp)
    unfold wid
    have : m * ((d :: ds).length : Int) = m * ds.length + m := by
      rw [List.length_cons]
      push_cast
      rw [Int.mul_add, Int.mul_one]
    rw [this]
    split <;> omega
theorem fz_p0 {ds : List Dt} {cs : Cs} {ls : List Lv} : fzA (.lst ds :: cs) (.p 0 :: ls) = (fzA (.fz (.lst ds) :: cs) ls).map fun p => (.lst ds :: p.1, p.2) := by
  show (match fzA (.fz (.lst ds) :: cs) ls with | some (es, cs2) => some (Dt.lst ds :: es, cs2) | none => none) = _
  cases fzA (.fz (.lst ds) :: cs) ls with
  | none => rfl
  | some p => rfl
theorem atI_ints {xs : List Int} {a : Nat} (h : a < xs.length) : atI (xs.map Dt.int) (a : Int) = some (.int (nth xs a)) := atI_mapN rfl h
theorem take_snocI {L : List Int} {i : Nat} (h : i < L.length) : (L.map Dt.int).take (i + 1) = (L.map Dt.int).take i ++ [.int (nth L i)] := by
  rw [← List.map_take, ← List.map_take, take_snoc h]
  simp
/-! ### shifted -/
theorem shifted_in {t1 t2 : Bool} {r a : Nat} {ds : List Du} {m : Int} {load s : List Int} {x7 x8 : Option Lv} {cs : Cs} {P : Fl → Cs → Prop} (hd : ∀ d ∈ ds, DuOk r m d) (ha : a < r) (hm : m * ds.length ≤ 100000) (hs : s.length = r) (hb : ∀ x ∈ s, -1000000 ≤ x ∧ x ≤ 1000000)
    (h : ∀ x7 x8, P (.nx [some (.c (.tup (tabT (tabW r ds)))), some (.c (sqD t1 (load.map .int))), some (.c (sqD t2 (s.map .int))), some (.p 0), some (.c (.int a)), some (.c (.tup ((rowW r ds a).map .int))), some (.c (.int (lost ds s r a))), x7, x8]) cs) :
    Wp (l_shifted_1 [some (.c (.tup (tabT (tabW r ds)))), some (.c (sqD t1 (load.map .int))), some (.c (sqD t2 (s.map .int))), some (.p 0), some (.c (.int a)), some (.c (.tup ((rowW r ds a).map .int))), some (.c (.int 0)), x7, x8] cs) P := by
  unfold l_shifted_1
  refine wp_forE (f := Dt.int) true (rowW r ds a) (fun i sl cs' => ∃ x7 x8, sl = [some (.c (.tup (tabT (tabW r ds)))), some (.c (sqD t1 (load.map .int))), some (.c (sqD t2 (s.map .int))), some (.p 0), some (.c (.int a)), some (.c (.tup ((rowW r ds a).map .int))), some (.c (.int (sumR i fun b => wid ds a b * (nth s a - nth s b)))), x7, x8] ∧ cs' = cs) (cs1 := cs) (by simp [sqD]) ⟨_, _, rfl, rfl⟩ ?_ ?_
  · rintro i hi sl cs' ⟨x7, x8, rfl, rfl⟩
    have hi' : i < r := by rw [rowW_len] at hi; exact hi
    have ew : (rowW r ds a)[i] = wid ds a i := by rw [← nth_get hi, rowW_nth hi']
    have e1 : atI (s.map Dt.int) (a : Int) = some (.int (nth s a)) := atI_ints (by omega)
    have e2 : atI (s.map Dt.int) (i : Int) = some (.int (nth s i)) := atI_ints (by omega)
    have b1 := hb _ (nth_mem (xs := s) (n := a) (by omega))
    have b2 := hb _ (nth_mem (xs := s) (n := i) (by omega))
    have w0 := wid_nonneg (a := a) (b := i) hd
    have w1 := wid_le (a := a) (b := i) hd
    have em : ∀ cs, opMul (.c (.int (wid ds a i))) (.c (.int (nth s a - nth s i))) cs = some (.c (.int (wid ds a i * (nth s a - nth s i))), cs) := fun cs => opMul_int (by omega) (by omega) (by omega) (by omega)
    rw [ew]
    simp [lb_shifted_1, mAug, e1, e2, em]
    exact sumR_succ.symm
  · rintro sl cs' ⟨x7, x8, rfl, rfl⟩
    rw [rowW_len]
    exact h x7 x8
theorem shifted_ok (t1 t2 : Bool) (r : Nat) (ds : List Du) (m : Int) (load s : List Int) (hr : r ≤ 1000) (hd : ∀ d ∈ ds, DuOk r m d) (hm : m * ds.length ≤ 100000) (hl : load.length = r) (hs : s.length = r) (hb : ∀ x ∈ s, -1000000 ≤ x ∧ x ≤ 1000000) :
    m_shifted [.tup (tabT (tabW r ds)), sqD t1 (load.map .int), sqD t2 (s.map .int)] = .ret (.c (.tup ((shL ds load s r).map .int))) := by
  refine runF_of (n := 3) (k := 6) (body := b_shifted) rfl ?_
  simp [b_shifted]
  unfold l_shifted_2
  refine wp_forE (f := fun row : List Int => Dt.tup (row.map .int)) true (tabW r ds) (fun i sl cs => ∃ x4 x5 x6 x7 x8, sl = [some (.c (.tup (tabT (tabW r ds)))), some (.c (sqD t1 (load.map .int))), some (.c (sqD t2 (s.map .int))), some (.p 0), x4, x5, x6, x7, x8] ∧ cs = [.lst (((shL ds load s r).take i).map .int)]) (cs1 := [.lst []]) (by simp [sqD, tabT]) ⟨_, _, _, _, _, rfl, by simp⟩ ?_ ?_
  · rintro i hi sl cs ⟨x4, x5, x6, x7, x8, rfl, rfl⟩
    have hi' : i < r := by rw [tabW_len] at hi; exact hi
    have ew : (tabW r ds)[i] = rowW r ds i := by rw [← nth_get hi, tabW_nth hi']
    rw [ew]
    simp [lb_shifted_2]
    refine shifted_in hd hi' hm hs hb fun x7 x8 => ?_
    have e1 : atI (load.map Dt.int) (i : Int) = some (.int (nth load i)) := atI_ints (by omega)
    have hlen : ((shL ds load s r).take i).length ≤ 1000 := by simp; omega
    have hz : (List.take i (shL ds load s r)).length < 16777216 := by omega
    have hz2 : min i (shL ds load s r).length < 16777216 := by rw [shL_len]; omega
    simp [e1, hz2]
    rw [take_snocI (by rw [shL_len]; exact hi'), shL_nth hi']
  · rintro sl cs ⟨x4, x5, x6, x7, x8, rfl, rfl⟩
    have e : (shL ds load s r).take (tabW r ds).length = shL ds load s r := List.take_of_length_le (by rw [shL_len, tabW_len]; exact Nat.le_refl _)
    rw [e]
    have e2 : cTuple [.p 0] [.lst ((shL ds load s r).map .int)] = some (.c (.tup ((shL ds load s r).map .int)), [.lst ((shL ds load s r).map .int)]) := cTuple_cell rfl
    simp [e2]
/-! ### what the law works out -/
theorem lawMoved_ok (r : Nat) (ds : List Du) (m : Int) (load s : List Int) (hr : r ≤ 1000) (hd : ∀ d ∈ ds, DuOk r m d) (hm : m ≤ 1000) (hl : load.length = r) (hs : s.length = r) (hb : ∀ x ∈ s, -1000000 ≤ x ∧ x ≤ 1000000) :
    m_law_moved [.lst (ds.map duD), .lst (load.map .int), .lst (s.map .int)] = .ret (.l ((shL ds load s r).map .int)) := by
  refine runF_of (n := 3) (k := 3) (body := b_law_moved) rfl ?_
  simp [b_law_moved]
  unfold l_law_moved_1
  refine wp_forL (f := duD) ds (fun i sl cs => ∃ x4 x5, sl = [some (.c (.lst (ds.map duD))), some (.c (.lst (load.map .int))), some (.c (.lst (s.map .int))), some (.p 0), x4, x5] ∧ cs = [.lst ((shL (ds.take i) load s r).map .int)]) (cs1 := [.lst (load.map .int)]) (.inl (by simp)) ⟨_, _, rfl, by simp [shL_nil hl]⟩ ?_ ?_
  · rintro i hi sl cs ⟨x4, x5, rfl, rfl⟩
    rw [take_snocD hi]
    obtain ⟨h1, h2, h3, h4, h5⟩ := hd ds[i] (List.getElem_mem hi)
    generalize ds[i] = d at h1 h2 h3 h4 h5 ⊢
    obtain ⟨a, b, w⟩ := d
    simp only at h1 h2 h3 h4 h5
    have e1 : atI (s.map Dt.int) (a : Int) = some (.int (nth s a)) := atI_ints (by omega)
    have e2 : atI (s.map Dt.int) (b : Int) = some (.int (nth s b)) := atI_ints (by omega)
    have b1 := hb _ (nth_mem (xs := s) (n := a) (by omega))
    have b2 := hb _ (nth_mem (xs := s) (n := b) (by omega))
    have em : ∀ cs, opMul (.c (.int w)) (.c (.int (nth s a - nth s b))) cs = some (.c (.int (w * (nth s a - nth s b))), cs) := fun cs => opMul_int (by omega) (by omega) (by omega) (by omega)
    have hsn := shL_snoc (ds := ds.take i) (d := (a, b, w)) (load := load) (s := s) h1 h2 h3
    simp only at hsn
    have hlen := shL_len (ds := ds.take i) (load := load) (s := s) (r := r)
    generalize shL (ds.take i) load s r = L at *
    rw [← hsn]
    have i1 : ∀ L2 : List Int, L2.length = r → ∀ c : Nat, c < r → opItem (.p 0) (.c (.int (c : Int))) [.lst (L2.map .int)] = some (.c (.int (nth L2 c)), [.lst (L2.map .int)]) := fun L2 hL2 c hc => by
      rw [opItem_p rfl, atI_ints (by omega)]
      rfl
    have s1 : ∀ L2 : List Int, L2.length = r → ∀ c : Nat, c < r → ∀ v : Int, setAt 0 (c : Int) (.int v) [.lst (L2.map .int)] = some [.lst ((L2.set c v).map .int)] := fun L2 hL2 c hc v => by
      have e : setAt 0 (c : Int) (.int v) [.lst (L2.map .int)] = (ixN (L2.map Dt.int).length (c : Int)).map fun j => [.lst ((L2.map Dt.int).set j (.int v))] := rfl
      rw [e]
      have : ixN (L2.map Dt.int).length (c : Int) = some c := by simp [ixN, hL2, hc]
      rw [this]
      simp [List.map_set]
    have hn : nth (L.set a (nth L a - w * (nth s a - nth s b))) b = nth L b := by
      rw [nth_set (by omega), if_neg (fun z => h3 z.symm)]
    have i2 := i1 (L.set a (nth L a - w * (nth s a - nth s b))) (by simp [hlen]) b h2
    have s2 := s1 (L.set a (nth L a - w * (nth s a - nth s b))) (by simp [hlen]) b h2
    rw [hn] at i2
    rw [List.map_set] at i2 s2
    simp only [List.map_set] at s2
    simp [lb_law_moved_1, duD, e1, e2, em, mSetI, i1 L hlen a h1, s1 L hlen a h1, i2, s2]
  · rintro sl cs ⟨x4, x5, rfl, rfl⟩
    rw [List.take_length]
    simp [outL_p]
/-! ### after, total, is_good -/
theorem after_ok (t1 t2 : Bool) (r : Nat) (ds : List Du) (m : Int) (load s : List Int) (hr : r ≤ 1000) (hd : ∀ d ∈ ds, DuOk r m d) (hm : m * ds.length ≤ 100000) (hl : load.length = r) (hx : ∀ x ∈ load, -200 ≤ x ∧ x ≤ 200) (hs : s.length = r) (hb : ∀ x ∈ s, -1000000 ≤ x ∧ x ≤ 1000000) :
    m_after [bldD r ds, sqD t1 (load.map .int), sqD t2 (s.map .int)] = .ret (.c (.tup ((shL ds load s r).map .int))) := by
  refine runF_of (n := 3) (k := 0) (body := b_after) rfl ?_
  have e1 := requireB_ok r ds
  have e2 := requireL_ok t1 r ds load "load" hl hx
  have e3 := sq_table t2 s r (-1000000) 1000000 hs hb
  have e4 := shifted_ok t1 t2 r ds m load s hr hd hm hl hs hb
  have e5 := fun sl => widthRows_ap r ds sl [] rfl
  simp [b_after, e1, e2, e3, e4, e5, objB, lookB, require_t]
theorem total_ok (t1 : Bool) (r : Nat) (ds : List Du) (load : List Int) (hl : load.length = r) (hx : ∀ x ∈ load, -200 ≤ x ∧ x ≤ 200) (ht : t1 = false) :
    m_total [bldD r ds, sqD t1 (load.map .int)] = .ret (.c (.int load.sum)) := by
  subst ht
  refine runF_of (n := 2) (k := 0) (body := b_total) rfl ?_
  have e1 := requireB_ok r ds
  have e2 := requireL_ok false r ds load "load" hl hx
  simp only [sqD_f] at e2 ⊢
  simp [b_total, e1, e2]
theorem noShort_ok (t1 : Bool) (load : List Int) : m_has_no_shortage [sqD t1 (load.map .int)] = .ret (.c (.bl (load.all fun x => decide (0 ≤ x)))) := by
  refine runF_of (n := 1) (k := 1) (body := b_has_no_shortage) rfl ?_
  simp [b_has_no_shortage]
  unfold l_has_no_shortage_1
  refine wp_forS (f := Dt.int) t1 load (fun i sl cs => ∃ x1, sl = [some (.c (sqD t1 (load.map .int))), x1] ∧ cs = [] ∧ ∀ x ∈ load.take i, 0 ≤ x) (cs1 := []) (by simp) ⟨_, rfl, rfl, by simp⟩ ?_ ?_
  · rintro i hi sl cs ⟨x1, rfl, rfl, h⟩
    have e : nth load i = load[i] := nth_get hi
    by_cases hx : load[i] < 0
    · have : (load.all fun x => decide (0 ≤ x)) = false := by
        rw [List.all_eq_false]
        exact ⟨load[i], List.getElem_mem hi, by simp; omega⟩
      rw [this]
      simp [lb_has_no_shortage_1, hx]
    · have hn : ∀ x ∈ load.take (i + 1), 0 ≤ x := fun x hm => by
        rw [take_snoc hi, e] at hm
        rcases List.mem_append.mp hm with q | q
        · exact h x q
        · rw [List.mem_singleton.mp q]; omega
      unfold lb_has_no_shortage_1
      rw [mIf_ap, mTst_ap, mOp2_ap]
      simp only [mVar_ap, List.set_cons_succ, List.set_cons_zero, List.getElem?_cons_succ, List.getElem?_cons_zero, Res.bind_ok, mC_ap, opLt_int, up_some, isB_bl, hx, decide_false, Bool.false_eq_true, if_false, mPass_ap, wp_ok]
      exact ⟨_, rfl, trivial, hn⟩
  · rintro sl cs ⟨x1, rfl, rfl, h⟩
    rw [List.take_length] at h
    simp
    exact h
theorem isGood_ok (t1 : Bool) (r : Nat) (ds : List Du) (load : List Int) (hl : load.length = r) (hx : ∀ x ∈ load, -200 ≤ x ∧ x ≤ 200) :
    m_is_good [bldD r ds, sqD t1 (load.map .int)] = .ret (.c (.bl (load.all fun x => decide (0 ≤ x)))) := by
  refine runF_of (n := 2) (k := 0) (body := b_is_good) rfl ?_
  have e1 := requireB_ok r ds
  have e2 := requireL_ok t1 r ds load "load" hl hx
  have e3 := noShort_ok t1 load
  simp [b_is_good, e1, e2, e3]
/-! ### places -/
theorem pl_put {b : Nat} {ks : List Nat} {cs : Cs} {sl : Sl} {mo mi : ME} (ho : mo sl (.dic (ks.map kN) (List.replicate ks.length (.bl true)) :: cs) = .ok (.p 0) (.dic (ks.map kN) (List.replicate ks.length (.bl true)) :: cs)) (hi : mi sl (.dic (ks.map kN) (List.replicate ks.length (.bl true)) :: cs) = .ok (.c (.int (b : Int))) (.dic (ks.map kN) (List.replicate ks.length (.bl true)) :: cs)) (hb : b ∉ ks) (hl : ks.length ≤ 1000) :
    mDPut mo mi (mC (.bl true)) sl (.dic (ks.map kN) (List.replicate ks.length (.bl true)) :: cs) = .ok (.nx sl) (.dic ((ks ++ [b]).map kN) (List.replicate (ks ++ [b]).length (.bl true)) :: cs) := by
  have e : mDPut mo mi (mC (.bl true)) sl (.dic (ks.map kN) (List.replicate ks.length (.bl true)) :: cs) = ((mo sl (.dic (ks.map kN) (List.replicate ks.length (.bl true)) :: cs)).bind fun o cs3 => (mi sl cs3).bind fun i cs4 => match o, keyOf i with
    | .p n, some k => (match cs4[n]? with
      | some (.dic ks ds) => if ks.length < sizeLine then .ok (.nx sl) (cs4.set n (.dic (putKD k (.bl true) ks ds).1 (putKD k (.bl true) ks ds).2)) else .bad
      | _ => .bad)
    | _, _ => .bad) := rfl
  rw [e, ho]
  simp only [Res.bind_ok, hi, keyOf, List.getElem?_cons_zero]
  rw [if_pos (by simp; omega), putKD_new (by simp) hb]
  simp only [List.set_cons_zero, List.length_append, List.length_cons, List.length_nil]
  congr 3
  exact (List.replicate_succ').symm
theorem arePlaces_ok (t : Bool) (S : List Nat) (n : Nat) (hn : S.Nodup) (h : ∀ x ∈ S, x < n) (hl : S.length ≤ 1000) : m_are_places [sqD t (natD S), .int n] = .ret (.c (.bl true)) := by
  refine runF_of (n := 2) (k := 2) (body := b_are_places) rfl ?_
  have e0 : ∀ sl : Sl, mDNew sl [] = .ok (.p 0) [.dic [] []] := fun _ => rfl
  simp [b_are_places, e0, -cIsi_lt]
  unfold l_are_places_1
  refine wp_forS (f := fun n : Nat => Dt.int (n : Int)) t S (fun i sl cs => ∃ x3, sl = [some (.c (sqD t (natD S))), some (.c (.int n)), some (.p 0), x3] ∧ cs = [.dic ((S.take i).map kN) (List.replicate (S.take i).length (.bl true))]) (cs1 := [.dic [] []]) (ma := mVar 0) (by simp only [mVar_ap, List.getElem?_cons_zero]; rfl) ⟨_, rfl, by simp⟩ ?_ ?_
  · rintro i hi sl cs ⟨x3, rfl, rfl⟩
    have hb := is_between_int (S[i] : Int) 0 ((n : Int) - 1)
    have h1 : (0 : Int) ≤ (S[i] : Int) := by omega
    have h2 : (S[i] : Int) ≤ (n : Int) - 1 := by have := h S[i] (List.getElem_mem hi); omega
    have e1 : nth S i = S[i] := nth_get hi
    have hnot : S[i] ∉ S.take i := fun hm => by
      obtain ⟨j, hj, he⟩ := List.mem_take_iff_getElem.mp hm
      exact List.pairwise_iff_getElem.mp hn j i (by omega) hi (by omega) he
    have hin : opIn false (.c (.int (S[i] : Int))) (.p 0) [.dic ((S.take i).map kN) (List.replicate (S.take i).length (.bl true))] = some (.c (.bl false), [.dic ((S.take i).map kN) (List.replicate (S.take i).length (.bl true))]) := by
      have e : opIn false (.c (.int (S[i] : Int))) (.p 0) [.dic ((S.take i).map kN) (List.replicate (S.take i).length (.bl true))] = (some (Lv.c (.bl (hasK (.inl (S[i] : Int)) ((S.take i).map kN))), [.dic ((S.take i).map kN) (List.replicate (S.take i).length (.bl true))])).orElse fun _ => (opInS false (.c (.int (S[i] : Int))) (.p 0) [.dic ((S.take i).map kN) (List.replicate (S.take i).length (.bl true))]).orElse fun _ => opInC false (.c (.int (S[i] : Int))) (.p 0) [.dic ((S.take i).map kN) (List.replicate (S.take i).length (.bl true))] := rfl
      rw [e, hasK_N]
      simp [hnot]
    have hput := pl_put (b := S[i]) (ks := S.take i) (cs := []) (sl := [some (.c (sqD t (natD S))), some (.c (.int n)), some (.p 0), some (.c (.int (S[i] : Int)))]) (mo := mVar 2) (mi := mVar 3) rfl rfl hnot (by rw [List.length_take]; omega)
    rw [take_snoc hi, e1]
    generalize S.take i = ks at *
    generalize S[i] = b at *
    simp [lb_are_places_1, hb, h2, hin]
    rw [hput]
    simp
  · rintro sl cs ⟨x3, rfl, rfl⟩
    simp
end Mi

set_option Elab.async false
set_option linter.all false
set_option maxRecDepth 100000
set_option maxHeartbeats 4000000
namespace Mi
open PySem L2
/-! ### vent -/
/-- 1 in the rooms of S, 0 elsewhere -/
def onceL (S : List Nat) (r : Nat) : List Int := (List.range r).map fun a => if a ∈ S then 1 else 0
theorem onceL_len {S : List Nat} {r : Nat} : (onceL S r).length = r := by simp [onceL]
theorem onceL_nth {S : List Nat} {r a : Nat} (h : a < r) : nth (onceL S r) a = if a ∈ S then 1 else 0 := by
  rw [nth_get (by rw [onceL_len]; exact h)]
  simp [onceL]
theorem onceL_set {S : List Nat} {r a : Nat} (h : a < r) : (onceL S r).set a 1 = onceL (S ++ [a]) r := by
  refine list_ext (by simp [onceL]) fun i hi => ?_
  have hi' : i < r := by simpa [onceL] using hi
  rw [nth_set (by rw [onceL_len]; exact h), onceL_nth hi', onceL_nth hi']
  by_cases e : i = a
  · simp [e]
  · simp [e]
theorem onceL_mem {S : List Nat} {r : Nat} {x : Int} (h : x ∈ onceL S r) : 0 ≤ x ∧ x ≤ 1 := by
  unfold onceL at h
  obtain ⟨a, _, rfl⟩ := List.mem_map.mp h
  split <;> omega
theorem vent_ok (t1 t2 : Bool) (r : Nat) (ds : List Du) (m : Int) (load : List Int) (S : List Nat) (hr : 1 ≤ r) (hr2 : r ≤ 1000) (hd : ∀ d ∈ ds, DuOk r m d) (hm : m * ds.length ≤ 100000) (hl : load.length = r) (hx : ∀ x ∈ load, -200 ≤ x ∧ x ≤ 200) (hn : S.Nodup) (hS : ∀ x ∈ S, x < r) (hSl : S.length ≤ 1000) :
    m_vent [bldD r ds, sqD t1 (load.map .int), sqD t2 (natD S)] = .ret (.c (.tup ((shL ds load (onceL S r) r).map .int))) := by
  refine runF_of (n := 3) (k := 2) (body := b_vent) rfl ?_
  have e1 := requireB_ok r ds
  have e2 := requireL_ok t1 r ds load "load" hl hx
  have e3 := arePlaces_ok t2 S r hn hS hSl
  have e4 := shifted_ok t1 false r ds m load (onceL S r) hr2 hd hm hl onceL_len (fun x hx => by have := onceL_mem hx; omega)
  have e5 := fun sl cs hc => widthRows_ap r ds sl cs hc
  have e6 : ∀ sl cs, mFld 0 "rooms" (mVar 0) (some (.c (bldD r ds)) :: sl) cs = .ok (.c (.int r)) cs := fun sl cs => by simp [bldD, objOf, lookD]
  have e7 : ∀ sl, mV (mLst false (mCons (mC (.int 0)) mNil)) sl [] = .ok (.c (.lst [.int 0])) [] := fun sl => mV_new (by simp) rfl
  have e8 : opMul (.c (.lst [.int 0])) (.c (.int r)) [] = some (.p 0, [.lst ((onceL [] r).map .int)]) := by
    rw [opMul_one (by omega) (by omega), Int.toNat_natCast]
    have : (onceL [] r).map Dt.int = List.replicate r (.int 0) := by
      unfold onceL
      rw [List.map_map]
      simp [Function.comp_def, List.map_const']
    rw [this]
    rfl
  simp [b_vent, e1, e2, e3, e7, e8, objB, lookB, require_t]
  unfold l_vent_1
  refine wp_forS (f := fun n : Nat => Dt.int (n : Int)) t2 S (fun i sl cs => ∃ x4, sl = [some (.c (bldD r ds)), some (.c (sqD t1 (load.map .int))), some (.c (sqD t2 (natD S))), some (.p 0), x4] ∧ cs = [.lst ((onceL (S.take i) r).map .int)]) (cs1 := [.lst ((onceL [] r).map .int)]) (by simp [natD]) ⟨_, rfl, by simp⟩ ?_ ?_
  · rintro i hi sl cs ⟨x4, rfl, rfl⟩
    have hSi : S[i] < r := hS _ (List.getElem_mem hi)
    rw [take_snoc hi, nth_get hi]
    have hso := onceL_set (S := S.take i) hSi
    have hlen := onceL_len (S := S.take i) (r := r)
    have hset : setAt 0 (S[i] : Int) (.int 1) [.lst ((onceL (S.take i) r).map .int)] = some [.lst ((onceL (S.take i ++ [S[i]]) r).map .int)] := by
      have e : setAt 0 (S[i] : Int) (.int 1) [.lst ((onceL (S.take i) r).map .int)] = (ixN ((onceL (S.take i) r).map Dt.int).length (S[i] : Int)).map fun j => [.lst (((onceL (S.take i) r).map Dt.int).set j (.int 1))] := rfl
      rw [e]
      have : ixN ((onceL (S.take i) r).map Dt.int).length (S[i] : Int) = some S[i] := by simp [ixN, hlen, hSi]
      rw [this, ← hso]
      simp [List.map_set]
    generalize S[i] = b at *
    simp [lb_vent_1, mSetI, hset]
  · rintro sl cs ⟨x4, rfl, rfl⟩
    rw [List.take_length]
    simp only [sqD_f] at e4
    simp [e5, fz_p0, e4]
/-! ### the pieces of a building -/
theorem repsOf_lt {G : Nat → Nat → Prop} {a x : Nat} (h : x ∈ repsOf G a) : x < a := by
  unfold repsOf at h
  simp only [List.mem_filter, List.mem_range, decide_eq_true_eq] at h
  exact h.1
def pcT (ps : List (List Nat)) : List Dt := ps.map fun p => .tup (natD p)
/-- the rooms seen: those of the pieces found -/
def plC (ks : List Nat) (ps : List (List Nat)) : Cs := [.lst (pcT ps), .dic (ks.map kN) (List.replicate ks.length (.bl true))]
def plS (r : Nat) (ds : List Du) (x3 x4 x5 : Option Lv) : Sl := [some (.c (.tup (tabT (tabW r ds)))), some (.p 0), some (.p 1), x3, x4, x5]
theorem pl_put1 {b : Nat} {ks : List Nat} {ps : List (List Nat)} {sl : Sl} {mo mi : ME} (ho : mo sl (plC ks ps) = .ok (.p 1) (plC ks ps)) (hi : mi sl (plC ks ps) = .ok (.c (.int (b : Int))) (plC ks ps)) (hb : b ∉ ks) (hl : ks.length ≤ 1000) :
    mDPut mo mi (mC (.bl true)) sl (plC ks ps) = .ok (.nx sl) (plC (ks ++ [b]) ps) := by
  have e : mDPut mo mi (mC (.bl true)) sl (plC ks ps) = ((mo sl (plC ks ps)).bind fun o cs3 => (mi sl cs3).bind fun i cs4 => match o, keyOf i with
    | .p n, some k => (match cs4[n]? with
      | some (.dic ks ds) => if ks.length < sizeLine then .ok (.nx sl) (cs4.set n (.dic (putKD k (.bl true) ks ds).1 (putKD k (.bl true) ks ds).2)) else .bad
      | _ => .bad)
    | _, _ => .bad) := rfl
  rw [e, ho]
  simp only [Res.bind_ok, hi, keyOf]
  have e2 : (plC ks ps)[1]? = some (.dic (ks.map kN) (List.replicate ks.length (.bl true))) := rfl
  simp only [e2]
  rw [if_pos (by simp; omega), putKD_new (by simp) hb]
  have e3 : (List.replicate ks.length (Dt.bl true) ++ [Dt.bl true]) = List.replicate (ks ++ [b]).length (Dt.bl true) := by
    rw [List.length_append]
    exact (List.replicate_succ').symm
  rw [e3]
  rfl
theorem pl_in {b : Nat} {ks : List Nat} {ps : List (List Nat)} : opIn true (.c (.int (b : Int))) (.p 1) (plC ks ps) = some (.c (.bl (!decide (b ∈ ks))), plC ks ps) := by
  have e : opIn true (.c (.int (b : Int))) (.p 1) (plC ks ps) = (some (Lv.c (.bl (!hasK (.inl (b : Int)) (ks.map kN))), plC ks ps)).orElse fun _ => (opInS true (.c (.int (b : Int))) (.p 1) (plC ks ps)).orElse fun _ => opInC true (.c (.int (b : Int))) (.p 1) (plC ks ps) := rfl
  rw [e, hasK_N]
  rfl
theorem piece_marks {r : Nat} {ds : List Du} {x3 x5 : Option Lv} {P : List Nat} {ks : List Nat} {ps : List (List Nat)} {Q : Fl → Cs → Prop} (hP : P.Nodup) (hdis : ∀ x ∈ P, x ∉ ks) (hl : ks.length + P.length ≤ 1000)
    (h : ∀ x5, Q (.nx (plS r ds x3 (some (.c (.tup (natD P)))) x5)) (plC (ks ++ P) ps)) : Wp (l_piece_list_1 (plS r ds x3 (some (.c (.tup (natD P)))) x5) (plC ks ps)) Q := by
  unfold l_piece_list_1
  refine wp_forS (f := fun n : Nat => Dt.int (n : Int)) true P (fun i sl cs => ∃ x5, sl = plS r ds x3 (some (.c (.tup (natD P)))) x5 ∧ cs = plC (ks ++ P.take i) ps) (cs1 := plC ks ps) (by simp [plS, natD, sqD]) ⟨_, rfl, by simp⟩ ?_ ?_
  · rintro i hi sl cs ⟨x5, rfl, rfl⟩
    have hnot : P[i] ∉ ks ++ P.take i := fun hm => by
      rcases List.mem_append.mp hm with q | q
      · exact hdis _ (List.getElem_mem hi) q
      · obtain ⟨j, hj, he⟩ := List.mem_take_iff_getElem.mp q
        exact List.pairwise_iff_getElem.mp hP j i (by omega) hi (by omega) he
    rw [take_snoc hi, nth_get hi, ← List.append_assoc]
    have := pl_put1 (b := P[i]) (ks := ks ++ P.take i) (ps := ps) (sl := plS r ds x3 (some (.c (.tup (natD P)))) (some (.c (.int (P[i] : Int))))) (mo := mVar 2) (mi := mVar 5) rfl rfl hnot (by simp; omega)
    unfold lb_piece_list_1
    have e : (plS r ds x3 (some (.c (.tup (natD P)))) x5).set 5 (some (.c (.int (P[i] : Int)))) = plS r ds x3 (some (.c (.tup (natD P)))) (some (.c (.int (P[i] : Int)))) := rfl
    rw [e, this]
    exact .mk ⟨_, rfl, rfl⟩
  · rintro sl cs ⟨x5, rfl, rfl⟩
    rw [List.take_length]
    exact h x5
theorem pieceList_ok (r : Nat) (ds : List Du) (m : Int) (hr : 1 ≤ r) (hr2 : r ≤ 30) (hd : ∀ d ∈ ds, DuOk r m d) : m_piece_list [.tup (tabT (tabW r ds))] = .ret (.l (pcT (piecesOf (AdjW ds) r))) := by
  refine runF_of (n := 1) (k := 5) (body := b_piece_list) rfl ?_
  have e0 : ∀ sl : Sl, mDNew sl [.lst []] = .ok (.p 1) [.lst [], .dic [] []] := fun _ => rfl
  simp [b_piece_list, e0]
  unfold l_piece_list_2
  refine wp_forR r (fun a sl cs => ∃ ks x3 x4 x5, ks.Nodup ∧ (∀ y, y ∈ ks ↔ y < r ∧ ∃ x, x < a ∧ Rch (AdjW ds) x y) ∧ sl = plS r ds x3 x4 x5 ∧ cs = plC ks ((repsOf (AdjW ds) a).map (pieceOf (AdjW ds) r))) (cs1 := [.lst [], .dic [] []]) ?_ (by omega) ⟨[], _, _, _, by simp, by simp, rfl, rfl⟩ ?_ ?_
  · have : (tabT (tabW r ds)).length = r := by simp [tabT, tabW]
    simp [this]
  · rintro a ha sl cs ⟨ks, x3, x4, x5, hkn, hks, rfl, rfl⟩
    have hj := joined_ok r a ds m hr hr2 ha hd
    have hmem : a ∈ ks ↔ ∃ x, x < a ∧ Rch (AdjW ds) x a := by rw [hks]; simp [ha]
    have hkl : ks.length ≤ r := len_le_of_nodup hkn fun x hx => ((hks x).mp hx).1
    have eset : (plS r ds x3 x4 x5).set 3 (some (.c (.int (a : Int)))) = plS r ds (some (.c (.int (a : Int)))) x4 x5 := rfl
    have g3 : ∀ cs x4 x5, mVar 3 (plS r ds (some (.c (.int (a : Int)))) x4 x5) cs = .ok (.c (.int (a : Int))) cs := fun _ _ _ => rfl
    have g2 : ∀ cs x3 x4 x5, mVar 2 (plS r ds x3 x4 x5) cs = .ok (.p 1) cs := fun _ _ _ _ => rfl
    have g1 : ∀ cs x3 x4 x5, mVar 1 (plS r ds x3 x4 x5) cs = .ok (.p 0) cs := fun _ _ _ _ => rfl
    have g0 : ∀ cs x3 x4 x5, mVar 0 (plS r ds x3 x4 x5) cs = .ok (.c (.tup (tabT (tabW r ds)))) cs := fun _ _ _ _ => rfl
    rw [eset]
    unfold lb_piece_list_2
    rw [mIf_ap, mTst_ap, mOp2_ap, g3]
    simp only [Res.bind_ok, g2, pl_in, up_some, isB_bl, wp_ite]
    by_cases h : a ∈ ks
    · have hnr : ¬ (∀ y, y < a → ¬ Rch (AdjW ds) y a) := fun z => by
        obtain ⟨x, h1, h2⟩ := hmem.mp h
        exact z x h1 h2
      simp [h, repsOf_not _ _ hnr]
      refine ⟨ks, hkn, fun y => ?_, ⟨_, _, _, rfl⟩, rfl⟩
      rw [hks]
      constructor
      · rintro ⟨h1, x, h2, h3⟩
        exact ⟨h1, x, by omega, h3⟩
      · rintro ⟨h1, x, h2, h3⟩
        by_cases e : x = a
        · subst e
          obtain ⟨x', q1, q2⟩ := hmem.mp h
          exact ⟨h1, x', q1, q2.trans h3⟩
        · exact ⟨h1, x, by omega, h3⟩
    · have hnr : ∀ y, y < a → ¬ Rch (AdjW ds) y a := fun y hy z => h (hmem.mpr ⟨y, hy, z⟩)
      rw [repsOf_succ _ _ hnr]
      have hpn : (pieceOf (AdjW ds) r a).Nodup := pieceOf_sorted.imp fun z => by omega
      have hdis : ∀ x ∈ pieceOf (AdjW ds) r a, x ∉ ks := fun x hx z => by
        obtain ⟨_, h1⟩ := pieceOf_mem.mp hx
        obtain ⟨_, y, h2, h3⟩ := (hks x).mp z
        exact hnr y h2 (h3.trans (h1.symm fun a b h => AdjW.symm a b h))
      have hpl : (pieceOf (AdjW ds) r a).length ≤ r := len_le_of_nodup hpn fun x hx => (pieceOf_mem.mp hx).1
      generalize hPe : pieceOf (AdjW ds) r a = P at *
      simp only [h, decide_false, Bool.not_false, if_true, wp_seq, mAsg_ap, mCall_ap, mCons_ap, g0, g3, Res.bind_ok, mNil_ap, fzA_cc, fzA_nil, Option.map_some, hj, outR_c, gN_ap, wp_ok]
      have eset4 : (plS r ds (some (.c (.int (a : Int)))) x4 x5).set 4 (some (.c (.tup (natD P)))) = plS r ds (some (.c (.int (a : Int)))) (some (.c (.tup (natD P)))) x5 := rfl
      rw [eset4]
      refine piece_marks hpn hdis (by omega) fun x5 => ?_
      have g4 : ∀ cs x3 x5, mVar 4 (plS r ds x3 (some (.c (.tup (natD P)))) x5) cs = .ok (.c (.tup (natD P))) cs := fun _ _ _ => rfl
      have hLC : ∀ ks ps, isLC (plC ks ps) 0 = true := fun _ _ => rfl
      have hrl : (repsOf (AdjW ds) a).length ≤ a := by
        unfold repsOf
        exact Nat.le_trans (List.length_filter_le _ _) (by simp)
      have hpush : push false 0 (.c (.tup (natD P))) (plC (ks ++ P) ((repsOf (AdjW ds) a).map (pieceOf (AdjW ds) r))) = some (plC (ks ++ P) ((repsOf (AdjW ds) a).map (pieceOf (AdjW ds) r) ++ [P])) := by
        have e : push false 0 (.c (.tup (natD P))) (plC (ks ++ P) ((repsOf (AdjW ds) a).map (pieceOf (AdjW ds) r))) = if (pcT ((repsOf (AdjW ds) a).map (pieceOf (AdjW ds) r))).length < sizeLine then some [.lst (pcT ((repsOf (AdjW ds) a).map (pieceOf (AdjW ds) r)) ++ [.tup (natD P)]), .dic ((ks ++ P).map kN) (List.replicate (ks ++ P).length (.bl true))] else none := rfl
        rw [e, szl, if_pos (by simp [pcT]; omega)]
        simp [plC, pcT]
      simp only [mDrop_ap, mLM_ap, g1, Res.bind_ok, hLC, if_true, mCons_ap, g4, mNil_ap, lApp_ap, hpush, Option.map_some, up_some, wp_ok]
      rw [List.map_append, List.map_cons, List.map_nil, hPe]
      refine ⟨ks ++ P, _, _, _, List.nodup_append.mpr ⟨hkn, hpn, fun x hx y hy z => hdis y hy (z ▸ hx)⟩, fun y => ?_, rfl, rfl⟩
      rw [List.mem_append, hks, ← hPe, pieceOf_mem]
      constructor
      · rintro (⟨h1, x, h2, h3⟩ | ⟨h1, h2⟩)
        · exact ⟨h1, x, by omega, h3⟩
        · exact ⟨h1, a, by omega, h2⟩
      · rintro ⟨h1, x, h2, h3⟩
        by_cases e : x = a
        · subst e; exact .inr ⟨h1, h3⟩
        · exact .inl ⟨h1, x, by omega, h3⟩
  · rintro sl cs ⟨ks, x3, x4, x5, hkn, hks, rfl, rfl⟩
    simp [plS, plC, outL_p, piecesOf]
theorem pieces_ok (r : Nat) (ds : List Du) (m : Int) (hr : 1 ≤ r) (hr2 : r ≤ 30) (hd : ∀ d ∈ ds, DuOk r m d) : m_pieces [bldD r ds] = .ret (.l (pcT (piecesOf (AdjW ds) r))) := by
  refine runF_of (n := 1) (k := 0) (body := b_pieces) rfl ?_
  have e1 := requireB_ok r ds
  have e2 := pieceList_ok r ds m hr hr2 hd
  have e5 := fun sl => widthRows_ap r ds sl [] rfl
  simp [b_pieces, e1, e2, e5, outL_p]
end Mi

set_option Elab.async false
set_option linter.all false
set_option maxRecDepth 100000
set_option maxHeartbeats 4000000
/-! the mirrors of more defs that many laws share, printed: full rooms, ticks, runs -/
namespace Mi
open PySem L2
def lb_law_after_1 : MS :=
  (mAsg (mOp2 opAdd (mVar 5) (mOp2 opMul (mOp2 opItem (mOp2 opItem (mVar 0) (mVar 4)) (mVar 6)) (mOp2 opSub (mOp2 opItem (mVar 2) (mVar 4)) (mOp2 opItem (mVar 2) (mVar 6))))) (gN 5))
def l_law_after_1 : MS := (mFor 0 (mRng rng1 (mCons (mOpN cLen (mCons (mVar 0) mNil)) mNil)) (gN 6) lb_law_after_1)
def lb_law_after_2 : MS :=
  (mSeq (mAsg (mC (.int 0)) (gN 5))
  (mSeq l_law_after_1
  (mDrop (mLM (lApp false) (mVar 3) (mCons (mOp2 opSub (mOp2 opItem (mVar 1) (mVar 4)) (mVar 5)) mNil)))))
def l_law_after_2 : MS := (mFor 0 (mRng rng1 (mCons (mOpN cLen (mCons (mVar 0) mNil)) mNil)) (gN 4) lb_law_after_2)
def b_law_after : MS :=
  (mSeq (mAsg (mLst false mNil) (gN 3))
  (mSeq l_law_after_2
  (mRet (mVar 3))))
def m_law_after : List Dt → Out := runF 3 4 b_law_after
def b_law_full : MS :=
  (mRet (mLc false (mRng rng1 (mCons (mOpN cLen (mCons (mVar 0) mNil)) mNil)) (gN 2) (mAnd (mTst (mOp2 opGt (mOpN cSumT (mCons (mOp2 opItem (mVar 0) (mVar 2)) mNil)) (mC (.int 0)))) (mTst (mOp2 opGe (mOp2 opItem (mVar 1) (mVar 2)) (mOpN cSumT (mCons (mOp2 opItem (mVar 0) (mVar 2)) mNil))))) (mVar 2) [2]))
def m_law_full : List Dt → Out := runF 2 1 b_law_full
def lb_full_list_1 : MS :=
  (mSeq (mAsg (mOpN cSumT (mCons (mVar 4) mNil)) (gN 5))
  (mIf (mAnd (mTst (mOp2 opGt (mVar 5) (mC (.int 0)))) (mTst (mOp2 opGe (mOp2 opItem (mVar 1) (mVar 3)) (mVar 5)))) (mDrop (mLM (lApp false) (mVar 2) (mCons (mVar 3) mNil))) mPass))
def l_full_list_1 : MS := (mFor 0 (mEnum (mCons (mVar 0) mNil)) (gT 2 (gsCons (gN 3) (gsCons (gN 4) gsNil))) lb_full_list_1)
def b_full_list : MS :=
  (mSeq (mAsg (mLst false mNil) (gN 2))
  (mSeq l_full_list_1
  (mRet (mVar 2))))
def m_full_list : List Dt → Out := runF 2 4 b_full_list
def lb_give_1 : MS :=
  (mAugI (fun i j => i + j) (mVar 1) (mVar 4) (mOp2 opMul (mVar 3) (mVar 5)))
def l_give_1 : MS := (mFor 0 (mEnum (mCons (mOp2 opItem (mVar 0) (mVar 2)) mNil)) (gT 2 (gsCons (gN 4) (gsCons (gN 5) gsNil))) lb_give_1)
def b_give : MS :=
  (mSeq l_give_1
  (mAugI (fun i j => i - j) (mVar 1) (mVar 2) (mOp2 opMul (mVar 3) (mOpN cSumT (mCons (mOp2 opItem (mVar 0) (mVar 2)) mNil)))))
def m_give : PFn := runP [false, true, false, false] 2 b_give
def lb_is_sequence_1 : MS :=
  (mIf (mNot (mTru (mCall m_is_between (mCons (mVar 2) (mCons (mC (.int 0)) (mCons (mOp2 opSub (mFld 0 "rooms" (mVar 0)) (mC (.int 1))) mNil)))))) (mRet (mC (.bl false))) mPass)
def l_is_sequence_1 : MS := (mFor 0 (mSeqI (mVar 1)) (gN 2) lb_is_sequence_1)
def b_is_sequence : MS :=
  (mSeq (mIf (mOr (mNot (mTru (mOpN (cIsi own0 tab0) (mCons (mVar 1) (mCons (mTup (mCons (mC (.ty "list")) (mCons (mC (.ty "tuple")) mNil))) mNil))))) (mTst (mOp2 opGt (mOpN cLen (mCons (mVar 1) mNil)) (mC (.int 1000))))) (mRet (mC (.bl false))) mPass)
  (mSeq l_is_sequence_1
  (mRet (mC (.bl true)))))
def m_is_sequence : List Dt → Out := runF 2 1 b_is_sequence
def lb_follow_1 : MS :=
  (mSeq (mIf (mTst (mOp2 (opIn true) (mVar 5) (mV (mCallB [false, true] m_full_list (mCons (mVar 3) (mCons (mVar 4) mNil)))))) (mRet (mC .non)) mPass)
  (mDrop (mCallP [false, true, false, false] m_give (mCons (mVar 3) (mCons (mVar 4) (mCons (mVar 5) (mCons (mC (.int 1)) mNil)))))))
def l_follow_1 : MS := (mFor 0 (mSeqI (mVar 2)) (gN 5) lb_follow_1)
def b_follow : MS :=
  (mSeq (mDrop (mCall m_require_building (mCons (mVar 0) mNil)))
  (mSeq (mDrop (mCall m_require_load (mCons (mVar 0) (mCons (mVar 1) (mCons (mC (.str "load")) mNil)))))
  (mSeq (mDrop (mCall m_require (mCons (mCall m_is_sequence (mCons (mVar 0) (mCons (mVar 2) mNil))) (mCons (mC (.str "sequence")) mNil))))
  (mSeq (mAsg (mMeth 0 "width_rows" m_Building_width_rows (mVar 0) mNil) (gN 3))
  (mSeq (mAsg (mOpN cList (mCons (mVar 1) mNil)) (gN 4))
  (mSeq l_follow_1
  (mRet (mOpN cTuple (mCons (mVar 4) mNil)))))))))
def m_follow : List Dt → Out := runF 3 3 b_follow
def b_full_rooms : MS :=
  (mSeq (mDrop (mCall m_require_building (mCons (mVar 0) mNil)))
  (mSeq (mDrop (mCall m_require_load (mCons (mVar 0) (mCons (mVar 1) (mCons (mC (.str "load")) mNil)))))
  (mRet (mCall m_full_list (mCons (mMeth 0 "width_rows" m_Building_width_rows (mVar 0) mNil) (mCons (mVar 1) mNil))))))
def m_full_rooms : List Dt → Out := runF 2 0 b_full_rooms
def b_is_calm : MS :=
  (mSeq (mDrop (mCall m_require_building (mCons (mVar 0) mNil)))
  (mSeq (mDrop (mCall m_require_load (mCons (mVar 0) (mCons (mVar 1) (mCons (mC (.str "load")) mNil)))))
  (mRet (mOp2 (opEq false) (mOpN cLen (mCons (mV (mCall m_full_list (mCons (mMeth 0 "width_rows" m_Building_width_rows (mVar 0) mNil) (mCons (mVar 1) mNil)))) mNil)) (mC (.int 0))))))
def m_is_calm : List Dt → Out := runF 2 0 b_is_calm
def lb_ticked_1 : MS :=
  (mSetI (mVar 2) (mVar 3) (mC (.int 1)))
def l_ticked_1 : MS := (mFor 0 (mSeqI (mV (mCall m_full_list (mCons (mVar 0) (mCons (mVar 1) mNil))))) (gN 3) lb_ticked_1)
def b_ticked : MS :=
  (mSeq (mAsg (mOp2 opMul (mV (mLst false (mCons (mC (.int 0)) mNil))) (mOpN cLen (mCons (mVar 0) mNil))) (gN 2))
  (mSeq l_ticked_1
  (mRet (mCall m_shifted (mCons (mVar 0) (mCons (mVar 1) (mCons (mVar 2) mNil)))))))
def m_ticked : List Dt → Out := runF 2 2 b_ticked
def b_tick : MS :=
  (mSeq (mDrop (mCall m_require_building (mCons (mVar 0) mNil)))
  (mSeq (mDrop (mCall m_require_load (mCons (mVar 0) (mCons (mVar 1) (mCons (mC (.str "load")) mNil)))))
  (mRet (mCall m_ticked (mCons (mMeth 0 "width_rows" m_Building_width_rows (mVar 0) mNil) (mCons (mVar 1) mNil))))))
def m_tick : List Dt → Out := runF 2 0 b_tick
end Mi

set_option Elab.async false
set_option linter.all false
set_option maxRecDepth 100000
set_option maxHeartbeats 4000000
/-! full rooms, giving, ticks, runs -/
namespace Mi
open PySem L2
theorem sumR_mul {f : Nat → Int} {t : Int} : ∀ {n : Nat}, sumR n (fun c => t * f c) = t * sumR n f
  | 0 => by simp [sumR]
  | n + 1 => by rw [sumR_succ, sumR_succ, sumR_mul, Int.mul_add]
def spr (ds : List Du) (r a : Nat) : Int := (rowW r ds a).sum
theorem spr_eq {ds : List Du} {r a : Nat} : spr ds r a = sumR r fun b => wid ds a b := rfl
theorem wid_self {r : Nat} {m : Int} {a : Nat} {ds : List Du} (hd : ∀ d ∈ ds, DuOk r m d) : wid ds a a = 0 := by
  have h0 := wid_nonneg (a := a) (b := a) hd
  by_cases h : 0 < wid ds a a
  · exact absurd rfl (wid_lt hd h).2.2
  · omega
def isFull (ds : List Du) (r : Nat) (held : List Int) (a : Nat) : Bool := decide (0 < spr ds r a) && decide (spr ds r a ≤ nth held a)
def fullL (ds : List Du) (r : Nat) (held : List Int) : List Nat := (List.range r).filter (isFull ds r held)
theorem fullL_lt {ds : List Du} {r : Nat} {held : List Int} {a : Nat} (h : a ∈ fullL ds r held) : a < r := List.mem_range.mp (List.mem_filter.mp h).1
theorem fullL_nd {ds : List Du} {r : Nat} {held : List Int} : (fullL ds r held).Nodup := List.Pairwise.filter _ List.nodup_range
theorem fullL_len {ds : List Du} {r : Nat} {held : List Int} : (fullL ds r held).length ≤ r := by
  have := List.length_filter_le (isFull ds r held) (List.range r)
  simpa [fullL] using this
def unitL (a : Nat) (t : Int) (r : Nat) : List Int := (List.range r).map fun b => if b = a then t else 0
theorem unitL_nth {a r b : Nat} {t : Int} (h : b < r) : nth (unitL a t r) b = if b = a then t else 0 := by
  unfold unitL
  rw [nth_get (by simpa using h)]
  simp
theorem unitL_len {a r : Nat} {t : Int} : (unitL a t r).length = r := by simp [unitL]
theorem unit_once {a r : Nat} : unitL a 1 r = onceL [a] r := by
  unfold unitL onceL
  simp
def giveL (ds : List Du) (held : List Int) (a : Nat) (t : Int) (r : Nat) : List Int := (List.range r).map fun b => nth held b + t * wid ds a b - if b = a then t * spr ds r a else 0
theorem giveL_len {ds : List Du} {held : List Int} {a : Nat} {t : Int} {r : Nat} : (giveL ds held a t r).length = r := by simp [giveL]
theorem giveL_nth {ds : List Du} {held : List Int} {a : Nat} {t : Int} {r b : Nat} (h : b < r) : nth (giveL ds held a t r) b = nth held b + t * wid ds a b - if b = a then t * spr ds r a else 0 := by
  unfold giveL
  rw [nth_get (by simpa using h)]
  simp
theorem lost_unit {ds : List Du} {m : Int} {r a b : Nat} {t : Int} (hd : ∀ d ∈ ds, DuOk r m d) (ha : a < r) (hb : b < r) : lost ds (unitL a t r) r b = if b = a then t * spr ds r a else -(t * wid ds a b) := by
  unfold lost
  by_cases h : b = a
  · subst h
    rw [if_pos rfl, spr_eq, ← sumR_mul]
    refine sumR_congr fun c hc => ?_
    rw [unitL_nth hb, unitL_nth hc, if_pos rfl]
    by_cases z : c = b
    · subst z
      rw [wid_self hd]; simp
    · rw [if_neg z, Int.sub_zero, Int.mul_comm]
  · rw [if_neg h]
    have : ∀ c, c < r → wid ds b c * (nth (unitL a t r) b - nth (unitL a t r) c) = if c = a then -(t * wid ds a b) else 0 := fun c hc => by
      rw [unitL_nth hb, unitL_nth hc, if_neg h]
      by_cases z : c = a
      · subst z
        rw [if_pos rfl, if_pos rfl, wid_sym, Int.zero_sub, Int.mul_neg, Int.mul_comm]
      · rw [if_neg z, if_neg z]; simp
    rw [sumR_congr this]
    exact sumR_pick (f := fun _ => -(t * wid ds a b)) ha
theorem giveL_sh {ds : List Du} {m : Int} {r a : Nat} {t : Int} {held : List Int} (hd : ∀ d ∈ ds, DuOk r m d) (ha : a < r) : giveL ds held a t r = shL ds held (unitL a t r) r := by
  refine list_ext (by rw [giveL_len, shL_len]) fun i hi => ?_
  rw [giveL_len] at hi
  rw [giveL_nth hi, shL_nth hi, lost_unit hd ha hi]
  by_cases z : i = a
  · subst z
    rw [if_pos rfl, if_pos rfl, wid_self hd]; simp
  · rw [if_neg z, if_neg z]; omega
/-! ### an int list's item is changed -/
theorem setAt0 {xs : List Int} {i : Nat} {v : Int} {cs : Cs} (h : i < xs.length) : setAt 0 (i : Int) (.int v) (.lst (xs.map .int) :: cs) = some (.lst ((xs.set i v).map .int) :: cs) := by
  have e : setAt 0 (i : Int) (.int v) (.lst (xs.map .int) :: cs) = (ixN (xs.map Dt.int).length (i : Int)).map fun j => .lst ((xs.map Dt.int).set j (.int v)) :: cs := rfl
  have e2 : ixN (xs.map Dt.int).length (i : Int) = some i := by simp [ixN, h]
  rw [e, e2, List.map_set]
  rfl
theorem augI0 {f : Int → Int → Int} {ko ki : Nat} {mv : ME} {sl : Sl} {cs : Cs} {xs : List Int} {i : Nat} {y : Int} (h1 : sl[ko]? = some (some (.p 0))) (h2 : sl[ki]? = some (some (.c (.int (i : Int))))) (h3 : mv sl (.lst (xs.map .int) :: cs) = .ok (.c (.int y)) (.lst (xs.map .int) :: cs)) (h : i < xs.length) :
    mAugI f (mVar ko) (mVar ki) mv sl (.lst (xs.map .int) :: cs) = .ok (.nx sl) (.lst ((xs.set i (f (nth xs i) y)).map .int) :: cs) := by
  have e1 : mVar ko sl (.lst (xs.map .int) :: cs) = .ok (.p 0) (.lst (xs.map .int) :: cs) := by rw [mVar_ap, h1]
  have e2 : mVar ki sl (.lst (xs.map .int) :: cs) = .ok (.c (.int (i : Int))) (.lst (xs.map .int) :: cs) := by rw [mVar_ap, h2]
  have e3 : view (.lst (xs.map .int) :: cs) (.p 0) = some ((xs.map Dt.int).map .c) := rfl
  have e4 : atI ((xs.map Dt.int).map Lv.c) (i : Int) = some (.c (.int (nth xs i))) := by
    rw [List.map_map]
    exact atI_mapN (f := Lv.c ∘ Dt.int) rfl h
  unfold mAugI
  simp only [e1, e2, Res.bind_ok, e3, e4, h3, setAt0 h]
/-! ### the program's -/
theorem full_list_ok (t : Bool) (r : Nat) (ds : List Du) (held : List Int) (hr : r ≤ 1000) (hl : held.length = r) : m_full_list [.tup (tabT (tabW r ds)), sqD t (held.map .int)] = .ret (.l (natD (fullL ds r held))) := by
  refine runF_of (n := 2) (k := 4) (body := b_full_list) rfl ?_
  simp [b_full_list]
  unfold l_full_list_1
  refine wp_forE (f := fun row : List Int => Dt.tup (row.map .int)) true (tabW r ds) (fun i sl cs => ∃ x3 x4 x5, sl = [some (.c (.tup (tabT (tabW r ds)))), some (.c (sqD t (held.map .int))), some (.p 0), x3, x4, x5] ∧ cs = [.lst (natD ((List.range i).filter (isFull ds r held)))]) (cs1 := [.lst []]) (by simp [sqD, tabT]) ⟨_, _, _, rfl, by simp [natD]⟩ ?_ ?_
  · rintro i hi sl cs ⟨x3, x4, x5, rfl, rfl⟩
    have hi' : i < r := by rw [tabW_len] at hi; exact hi
    have ew : (tabW r ds)[i] = rowW r ds i := by rw [← nth_get hi, tabW_nth hi']
    rw [ew]
    have e1 : atI (held.map Dt.int) (i : Int) = some (.int (nth held i)) := atI_ints (by omega)
    have hln := List.length_filter_le (isFull ds r held) (List.range i)
    rw [List.length_range] at hln
    have hz : (natD ((List.range i).filter (isFull ds r held))).length < 16777216 := by rw [natD_len]; omega
    have hs : (rowW r ds i).sum = spr ds r i := rfl
    rw [List.range_succ, List.filter_append]
    by_cases h1 : 0 < spr ds r i
    · by_cases h2 : spr ds r i ≤ nth held i
      · have hf : isFull ds r held i = true := by simp [isFull, h1, h2]
        simp [lb_full_list_1, e1, hs, h1, h2, hf, hz]
        simp [natD]
      · have hf : isFull ds r held i = false := by simp [isFull, h2]
        simp [lb_full_list_1, e1, hs, h1, h2, hf]
    · have hf : isFull ds r held i = false := by simp [isFull, h1]
      simp [lb_full_list_1, e1, hs, h1, hf]
  · rintro sl cs ⟨x3, x4, x5, rfl, rfl⟩
    rw [tabW_len]
    simp [fullL]
theorem give_ok (r : Nat) (ds : List Du) (m : Int) (held : List Int) (a : Nat) (t : Int) (hr : r ≤ 1000) (hd : ∀ d ∈ ds, DuOk r m d) (hm : m * ds.length ≤ 100000) (hl : held.length = r) (ha : a < r) (ht : -(2 ^ 60) < t) (ht2 : t < 2 ^ 60) (hsp : spr ds r a < 2 ^ 60) :
    m_give [.tup (tabT (tabW r ds)), .int a, .int t] [held.map .int] = some (.non, [(giveL ds held a t r).map .int]) := by
  have sp0 : 0 ≤ spr ds r a := by
    rw [spr_eq]
    unfold sumR
    exact sum_nonneg' fun c _ => wid_nonneg hd
  obtain ⟨gv, hgv⟩ : ∃ gv : Nat → List Int, ∀ i, gv i = (List.range r).map fun b => nth held b + if b < i then t * wid ds a b else 0 := ⟨_, fun _ => rfl⟩
  have gl : ∀ i, (gv i).length = r := fun i => by rw [hgv]; simp
  have gn : ∀ i b, b < r → nth (gv i) b = nth held b + if b < i then t * wid ds a b else 0 := fun i b hb => by
    rw [hgv, nth_get (by simpa using hb)]
    simp
  have g0 : gv 0 = held := list_ext (by rw [gl, hl]) fun i hi => by rw [gl] at hi; rw [gn 0 i hi]; simp
  have gs : ∀ i, i < r → (gv i).set i (nth (gv i) i + t * wid ds a i) = gv (i + 1) := fun i hi => list_ext (by rw [List.length_set, gl, gl]) fun b hb => by
    rw [List.length_set, gl] at hb
    rw [nth_set (by rw [gl]; exact hi), gn _ b hb, gn _ b hb, gn _ i hi]
    by_cases z : b = i
    · subst z; simp
    · rw [if_neg z]
      by_cases y : b < i
      · rw [if_pos y, if_pos (by omega)]
      · rw [if_neg y, if_neg (by omega)]
  have ge : (gv r).set a (nth (gv r) a - t * spr ds r a) = giveL ds held a t r := list_ext (by rw [List.length_set, gl, giveL_len]) fun b hb => by
    rw [List.length_set, gl] at hb
    rw [nth_set (by rw [gl]; exact ha), gn _ b hb, gn _ a ha, giveL_nth hb, if_pos hb, if_pos ha]
    by_cases z : b = a
    · subst z; simp
    · rw [if_neg z, if_neg z]; omega
  have er : ∀ sl cs, mOp2 opItem (mVar 0) (mVar 2) (some (.c (.tup (tabT (tabW r ds)))) :: some (.p 0) :: some (.c (.int (a : Int))) :: sl) cs = .ok (.c (.tup ((rowW r ds a).map .int))) cs := fun sl cs => by
    have e1 : atI (tabT (tabW r ds)) (a : Int) = some (.tup ((rowW r ds a).map .int)) := by
      unfold tabT
      rw [atI_mapN rfl (by rw [tabW_len]; exact ha), tabW_nth ha]
    simp [e1]
  have w : Wp (b_give [some (.c (.tup (tabT (tabW r ds)))), some (.p 0), some (.c (.int (a : Int))), some (.c (.int t)), none, none] [.lst (held.map .int)]) fun fl cs => (∃ sl, fl = .nx sl) ∧ cs = [.lst ((giveL ds held a t r).map .int)] := by
    unfold b_give
    rw [wp_seq]
    unfold l_give_1
    refine wp_forE (f := Dt.int) true (rowW r ds a) (fun i sl cs => ∃ x4 x5, sl = [some (.c (.tup (tabT (tabW r ds)))), some (.p 0), some (.c (.int (a : Int))), some (.c (.int t)), x4, x5] ∧ cs = [.lst ((gv i).map .int)]) (cs1 := [.lst (held.map .int)]) ?_ ⟨_, _, rfl, by rw [g0]⟩ ?_ ?_
    · simp only [mCons_ap, er, Res.bind_ok, mNil_ap, sqD_t]
    · rintro i hi sl cs ⟨x4, x5, rfl, rfl⟩
      have hi' : i < r := by rw [rowW_len] at hi; exact hi
      have ew : (rowW r ds a)[i] = wid ds a i := by rw [← nth_get hi, rowW_nth hi']
      have w0 := wid_nonneg (a := a) (b := i) hd
      have w1 := wid_le (a := a) (b := i) hd
      have em : ∀ cs, opMul (.c (.int t)) (.c (.int (wid ds a i))) cs = some (.c (.int (t * wid ds a i)), cs) := fun cs => opMul_int (by omega) (by omega) (by omega) (by omega)
      rw [ew]
      simp only [List.set_cons_succ, List.set_cons_zero]
      unfold lb_give_1
      rw [augI0 (i := i) (xs := gv i) (y := t * wid ds a i) rfl rfl (by simp [em]) (by rw [gl]; exact hi'), gs i hi']
      exact .mk ⟨_, _, rfl, rfl⟩
    · rintro sl cs ⟨x4, x5, rfl, rfl⟩
      rw [rowW_len]
      have em : ∀ cs, opMul (.c (.int t)) (.c (.int (spr ds r a))) cs = some (.c (.int (t * spr ds r a)), cs) := fun cs => opMul_int (by omega) (by omega) (by omega) (by omega)
      have ey : ∀ cs, mOp2 opMul (mVar 3) (mOpN cSumT (mCons (mOp2 opItem (mVar 0) (mVar 2)) mNil)) [some (.c (.tup (tabT (tabW r ds)))), some (.p 0), some (.c (.int (a : Int))), some (.c (.int t)), x4, x5] cs = .ok (.c (.int (t * spr ds r a))) cs := fun cs => by
        rw [mOp2_ap]
        simp only [mOpN_ap, mVar_ap, List.getElem?_cons_succ, List.getElem?_cons_zero, Res.bind_ok, mCons_ap, er, mNil_ap, cSumT_tup, up_some]
        rw [show (rowW r ds a).sum = spr ds r a from rfl, em]
        rfl
      dsimp only
      rw [augI0 (i := a) (xs := gv r) (y := t * spr ds r a) rfl rfl (ey _) (by rw [gl]; exact ha), ge]
      exact .mk ⟨⟨_, rfl⟩, rfl⟩
  obtain ⟨fl, cs, e, ⟨sl, rfl⟩, rfl⟩ := w.get
  have e' : b_give (slotsP [false, true, false, false] 0 [.tup (tabT (tabW r ds)), .int a, .int t] ++ List.replicate 2 none) ([held.map Dt.int].map Cl.lst) = .ok (.nx sl) [.lst ((giveL ds held a t r).map .int)] := e
  unfold m_give runP
  rw [e']
  rfl
end Mi

set_option Elab.async false
set_option linter.all false
set_option maxRecDepth 100000
set_option maxHeartbeats 4000000
/-! what the law works out; ticks; runs -/
namespace Mi
open PySem L2
theorem tabD_row {r a : Nat} {ds : List Du} (h : a < r) : atI (tabD (tabW r ds)) (a : Int) = some (.lst ((rowW r ds a).map .int)) := by
  unfold tabD
  rw [atI_mapN rfl (by rw [tabW_len]; exact h), tabW_nth h]
theorem lawAfter_ok (r : Nat) (ds : List Du) (m : Int) (load s : List Int) (hr : r ≤ 1000) (hd : ∀ d ∈ ds, DuOk r m d) (hm : m * ds.length ≤ 100000) (hl : load.length = r) (hs : s.length = r) (hb : ∀ x ∈ s, -1000000 ≤ x ∧ x ≤ 1000000) :
    m_law_after [.lst (tabD (tabW r ds)), .lst (load.map .int), .lst (s.map .int)] = .ret (.l ((shL ds load s r).map .int)) := by
  refine runF_of (n := 3) (k := 4) (body := b_law_after) rfl ?_
  have htl : (tabD (tabW r ds)).length = r := by simp [tabD, tabW_len]
  simp [b_law_after]
  unfold l_law_after_2
  refine wp_forR r (fun i sl cs => ∃ x4 x5 x6, sl = [some (.c (.lst (tabD (tabW r ds)))), some (.c (.lst (load.map .int))), some (.c (.lst (s.map .int))), some (.p 0), x4, x5, x6] ∧ cs = [.lst (((shL ds load s r).take i).map .int)]) (cs1 := [.lst []]) (by simp [htl]) (by omega) ⟨_, _, _, rfl, by simp⟩ ?_ ?_
  · rintro a ha sl cs ⟨x4, x5, x6, rfl, rfl⟩
    simp only [List.set_cons_succ, List.set_cons_zero]
    unfold lb_law_after_2
    refine wp_asg (.c (.int 0)) rfl rfl ?_
    simp only [List.set_cons_succ, List.set_cons_zero]
    rw [wp_seq]
    unfold l_law_after_1
    refine wp_forR r (fun i sl cs => ∃ x6, sl = [some (.c (.lst (tabD (tabW r ds)))), some (.c (.lst (load.map .int))), some (.c (.lst (s.map .int))), some (.p 0), some (.c (.int (a : Int))), some (.c (.int (sumR i fun b => wid ds a b * (nth s a - nth s b)))), x6] ∧ cs = [.lst (((shL ds load s r).take a).map .int)]) (cs1 := [.lst (((shL ds load s r).take a).map .int)]) (by simp [htl]) (by omega) ⟨_, rfl, rfl⟩ ?_ ?_
    · rintro i hi sl cs ⟨x6, rfl, rfl⟩
      simp only [List.set_cons_succ, List.set_cons_zero]
      have e0 := tabD_row (ds := ds) ha
      have e1 : atI (s.map Dt.int) (a : Int) = some (.int (nth s a)) := atI_ints (by omega)
      have e2 : atI (s.map Dt.int) (i : Int) = some (.int (nth s i)) := atI_ints (by omega)
      have e3 : atI ((rowW r ds a).map Dt.int) (i : Int) = some (.int (wid ds a i)) := by
        rw [atI_ints (by rw [rowW_len]; exact hi), rowW_nth hi]
      have b1 := hb _ (nth_mem (xs := s) (n := a) (by omega))
      have b2 := hb _ (nth_mem (xs := s) (n := i) (by omega))
      have w0 := wid_nonneg (a := a) (b := i) hd
      have w1 := wid_le (a := a) (b := i) hd
      have em : ∀ cs, opMul (.c (.int (wid ds a i))) (.c (.int (nth s a - nth s i))) cs = some (.c (.int (wid ds a i * (nth s a - nth s i))), cs) := fun cs => opMul_int (by omega) (by omega) (by omega) (by omega)
      simp [lb_law_after_1, e0, e1, e2, e3, em]
      exact sumR_succ.symm
    · rintro sl cs ⟨x6, rfl, rfl⟩
      have e1 : atI (load.map Dt.int) (a : Int) = some (.int (nth load a)) := atI_ints (by omega)
      have hz2 : min a (shL ds load s r).length < 16777216 := by rw [shL_len]; omega
      have hlo : (sumR r fun b => wid ds a b * (nth s a - nth s b)) = lost ds s r a := rfl
      simp [e1, hz2]
      rw [take_snocI (by rw [shL_len]; exact ha), shL_nth ha, hlo]
  · rintro sl cs ⟨x4, x5, x6, rfl, rfl⟩
    have e : (shL ds load s r).take r = shL ds load s r := List.take_of_length_le (by rw [shL_len]; exact Nat.le_refl _)
    rw [e]
    simp
theorem lawFull_ok (r : Nat) (ds : List Du) (held : List Int) (hr : r ≤ 1000) (hl : held.length = r) : m_law_full [.lst (tabD (tabW r ds)), .lst (held.map .int)] = .ret (.l (natD (fullL ds r held))) := by
  refine runF_of (n := 2) (k := 1) (body := b_law_full) rfl ?_
  have htl : (tabD (tabW r ds)).length = r := by simp [tabD, tabW_len]
  have e := lc_ok (mi := mRng rng1 (mCons (mOpN cLen (mCons (mVar 0) mNil)) mNil)) (s := .rng 0 r) (g := gN 2) (tt := mAnd (mTst (mOp2 opGt (mOpN cSumT (mCons (mOp2 opItem (mVar 0) (mVar 2)) mNil)) (mC (.int 0)))) (mTst (mOp2 opGe (mOp2 opItem (mVar 1) (mVar 2)) (mOpN cSumT (mCons (mOp2 opItem (mVar 0) (mVar 2)) mNil))))) (te := mVar 2) (vs := [2]) (sl := [some (.c (.lst (tabD (tabW r ds)))), some (.c (.lst (held.map .int))), none]) (cs := []) (List.range r) (fun a => .c (.int (a : Int))) (isFull ds r held) (fun a => .int (a : Int)) (rng1_nat (by simp [htl]) (by omega)) (by simp [Src.itms]) rfl (by simp; omega) (fun a ha cs' hn => ⟨_, rfl, by
      have ha' : a < r := List.mem_range.mp ha
      have e0 := tabD_row (ds := ds) ha'
      have e1 : atI (held.map Dt.int) (a : Int) = some (.int (nth held a)) := atI_ints (by omega)
      have hs : (rowW r ds a).sum = spr ds r a := rfl
      by_cases h1 : 0 < spr ds r a
      · simp [wipeS, e0, e1, hs, isFull, h1]
      · simp [wipeS, e0, hs, isFull, h1], fun _ => by simp [wipeS]⟩)
  unfold b_law_full
  rw [mRet_ap]
  simp only [List.map_cons, List.map_nil, List.cons_append, List.nil_append, List.replicate]
  rw [e]
  exact .mk rfl
theorem ticked_ok (t : Bool) (r : Nat) (ds : List Du) (m : Int) (load : List Int) (hr1 : 1 ≤ r) (hr : r ≤ 1000) (hd : ∀ d ∈ ds, DuOk r m d) (hm : m * ds.length ≤ 100000) (hl : load.length = r) :
    m_ticked [.tup (tabT (tabW r ds)), sqD t (load.map .int)] = .ret (.c (.tup ((shL ds load (onceL (fullL ds r load) r) r).map .int))) := by
  refine runF_of (n := 2) (k := 2) (body := b_ticked) rfl ?_
  obtain ⟨S, hS⟩ : ∃ S, S = fullL ds r load := ⟨_, rfl⟩
  have hSl : ∀ x ∈ S, x < r := fun x h => by rw [hS] at h; exact fullL_lt h
  have e1 := full_list_ok t r ds load hr hl
  rw [← hS] at e1 ⊢
  have e4 := shifted_ok t false r ds m load (onceL S r) hr hd hm hl onceL_len (fun x hx => by have := onceL_mem hx; omega)
  have e7 : ∀ sl, mV (mLst false (mCons (mC (.int 0)) mNil)) sl [] = .ok (.c (.lst [.int 0])) [] := fun sl => mV_new (by simp) rfl
  have htl : (tabT (tabW r ds)).length = r := by simp [tabT, tabW_len]
  have e8 : opMul (.c (.lst [.int 0])) (.c (.int r)) [] = some (.p 0, [.lst ((onceL [] r).map .int)]) := by
    rw [opMul_one (by omega) (by omega), Int.toNat_natCast]
    have : (onceL [] r).map Dt.int = List.replicate r (.int 0) := by
      unfold onceL
      rw [List.map_map]
      simp [Function.comp_def, List.map_const']
    rw [this]
    rfl
  unfold b_ticked
  simp only [List.map_cons, List.map_nil, List.cons_append, List.nil_append, List.replicate]
  refine wp_asg' (.p 0) (cs2 := [.lst ((onceL [] r).map .int)]) (by simp [e7, htl, e8]) rfl ?_
  simp only [List.set_cons_succ, List.set_cons_zero]
  rw [wp_seq]
  unfold l_ticked_1
  refine wp_forS (f := fun n : Nat => Dt.int (n : Int)) false S (fun i sl cs => ∃ x3, sl = [some (.c (.tup (tabT (tabW r ds)))), some (.c (sqD t (load.map .int))), some (.p 0), x3] ∧ cs = [.lst ((onceL (S.take i) r).map .int)]) (cs1 := [.lst ((onceL [] r).map .int)]) (vcall (ds := [.tup (tabT (tabW r ds)), sqD t (load.map .int)]) (by simp) (by rw [e1]; rfl) rfl) ⟨_, rfl, by simp⟩ ?_ ?_
  · rintro i hi sl cs ⟨x3, rfl, rfl⟩
    have hSi : S[i] < r := hSl _ (List.getElem_mem hi)
    rw [take_snoc hi, nth_get hi]
    have hset : setAt 0 (S[i] : Int) (.int 1) [.lst ((onceL (S.take i) r).map .int)] = some [.lst ((onceL (S.take i ++ [S[i]]) r).map .int)] := by
      rw [setAt0 (by rw [onceL_len]; exact hSi), onceL_set hSi]
    generalize S[i] = b at *
    simp [lb_ticked_1, mSetI, hset]
  · rintro sl cs ⟨x3, rfl, rfl⟩
    rw [List.take_length]
    simp only [sqD_f] at e4
    simp [fz_p0, e4]
theorem tick_ok (t : Bool) (r : Nat) (ds : List Du) (m : Int) (load : List Int) (hr1 : 1 ≤ r) (hr : r ≤ 1000) (hd : ∀ d ∈ ds, DuOk r m d) (hm : m * ds.length ≤ 100000) (hl : load.length = r) (hx : ∀ x ∈ load, -200 ≤ x ∧ x ≤ 200) :
    m_tick [bldD r ds, sqD t (load.map .int)] = .ret (.c (.tup ((shL ds load (onceL (fullL ds r load) r) r).map .int))) := by
  refine runF_of (n := 2) (k := 0) (body := b_tick) rfl ?_
  have e1 := requireB_ok r ds
  have e2 := requireL_ok t r ds load "load" hl hx
  have e4 := ticked_ok t r ds m load hr1 hr hd hm hl
  have e5 := fun sl => widthRows_ap r ds sl [] rfl
  simp [b_tick, e1, e2, e4, e5]
theorem full_rooms_ok (t : Bool) (r : Nat) (ds : List Du) (load : List Int) (hr : r ≤ 1000) (hl : load.length = r) (hx : ∀ x ∈ load, -200 ≤ x ∧ x ≤ 200) :
    m_full_rooms [bldD r ds, sqD t (load.map .int)] = .ret (.l (natD (fullL ds r load))) := by
  refine runF_of (n := 2) (k := 0) (body := b_full_rooms) rfl ?_
  have e1 := requireB_ok r ds
  have e2 := requireL_ok t r ds load "load" hl hx
  have e4 := full_list_ok t r ds load hr hl
  have e5 := fun sl => widthRows_ap r ds sl [] rfl
  simp [b_full_rooms, e1, e2, e4, e5]
theorem is_calm_ok (t : Bool) (r : Nat) (ds : List Du) (load : List Int) (hr : r ≤ 1000) (hl : load.length = r) (hx : ∀ x ∈ load, -200 ≤ x ∧ x ≤ 200) :
    m_is_calm [bldD r ds, sqD t (load.map .int)] = .ret (.c (.bl (decide ((fullL ds r load).length = 0)))) := by
  refine runF_of (n := 2) (k := 0) (body := b_is_calm) rfl ?_
  have e1 := requireB_ok r ds
  have e2 := requireL_ok t r ds load "load" hl hx
  have e4 := full_list_ok t r ds load hr hl
  have e5 := fun sl => widthRows_ap r ds sl [] rfl
  have e6 : mV (mCall m_full_list (mCons (mMeth 0 "width_rows" m_Building_width_rows (mVar 0) mNil) (mCons (mVar 1) mNil))) [some (.c (bldD r ds)), some (.c (sqD t (load.map .int)))] [] = .ok (.c (.lst (natD (fullL ds r load)))) [] := vcall (ds := [.tup (tabT (tabW r ds)), sqD t (load.map .int)]) (by simp [e5]) (by rw [e4]; rfl) rfl
  simp [b_is_calm, e1, e2, e6, natD_len]
/-! ### runs -/
def follL (ds : List Du) (r : Nat) : List Int → List Nat → Option (List Int)
  | held, [] => some held
  | held, a :: S => if a ∈ fullL ds r held then follL ds r (shL ds held (onceL [a] r) r) S else none
theorem is_sequence_ok (t : Bool) (r : Nat) (ds : List Du) (S : List Nat) (hS : ∀ x ∈ S, x < r) (hl : S.length ≤ 1000) : m_is_sequence [bldD r ds, sqD t (natD S)] = .ret (.c (.bl true)) := by
  refine runF_of (n := 2) (k := 1) (body := b_is_sequence) rfl ?_
  have h1 : ¬ ((S.length : Int) > 1000) := by omega
  have h1' : ¬ ((1000 : Int) < S.length) := by omega
  unfold b_is_sequence
  simp only [List.map_cons, List.map_nil, List.cons_append, List.nil_append, List.replicate]
  refine wp_no (nor_ok (by cases t <;> simp [sqD]) (by simp [natD_len, h1'])) ?_
  rw [wp_seq]
  unfold l_is_sequence_1
  refine wp_forS (f := fun n : Nat => Dt.int (n : Int)) t S (fun i sl cs => ∃ x2, sl = [some (.c (bldD r ds)), some (.c (sqD t (natD S))), x2] ∧ cs = []) (cs1 := []) (by simp; rfl) ⟨_, rfl, rfl⟩ ?_ ?_
  · rintro i hi sl cs ⟨x2, rfl, rfl⟩
    have hSi : S[i] < r := hS _ (List.getElem_mem hi)
    have e1 := is_between_int S[i] 0 ((r : Int) - 1)
    have h2 : (S[i] : Int) ≤ (r : Int) - 1 := by omega
    generalize S[i] = b at *
    simp [lb_is_sequence_1, objB, lookB, e1, h2]
  · rintro sl cs ⟨x2, rfl, rfl⟩
    simp
theorem sumR_le {f : Nat → Int} {c : Int} : ∀ {n : Nat}, (∀ b, b < n → f b ≤ c) → sumR n f ≤ n * c
  | 0, _ => by simp [sumR]
  | n + 1, h => by
    have h1 := sumR_le (n := n) fun b hb => h b (by omega)
    have h2 := h n (by omega)
    rw [sumR_succ, Int.natCast_add, Int.add_mul]
    omega
theorem mds_nonneg {r : Nat} {m : Int} {ds : List Du} (hd : ∀ d ∈ ds, DuOk r m d) : 0 ≤ m * ds.length := by
  cases ds with
  | nil => simp
  | cons d ds =>
    have := hd d List.mem_cons_self
    exact Int.mul_nonneg (by have h1 := this.2.2.2.1; have h2 := this.2.2.2.2; omega) (by omega)
theorem spr_le {r a : Nat} {m : Int} {ds : List Du} (hd : ∀ d ∈ ds, DuOk r m d) : spr ds r a ≤ r * (m * ds.length) := by
  rw [spr_eq]
  exact sumR_le fun b _ => wid_le hd
theorem follow_ok (t1 t2 : Bool) (r : Nat) (ds : List Du) (m : Int) (load : List Int) (S : List Nat) (hr1 : 1 ≤ r) (hr : r ≤ 8) (hd : ∀ d ∈ ds, DuOk r m d) (hm : m * ds.length ≤ 100000) (hl : load.length = r) (hx : ∀ x ∈ load, -200 ≤ x ∧ x ≤ 200) (hS : ∀ x ∈ S, x < r) (hSl : S.length ≤ 1000) :
    m_follow [bldD r ds, sqD t1 (load.map .int), sqD t2 (natD S)] = .ret (.c (match follL ds r load S with
      | some held => .tup (held.map .int)
      | none => .non)) := by
  refine runF_of (n := 3) (k := 3) (body := b_follow) rfl ?_
  have e1 := requireB_ok r ds
  have e2 := requireL_ok t1 r ds load "load" hl hx
  have e3 := is_sequence_ok t2 r ds S hS hSl
  have e5 := fun sl => widthRows_ap r ds sl [] rfl
  unfold b_follow
  simp only [List.map_cons, List.map_nil, List.cons_append, List.nil_append, List.replicate]
  rw [wp_seq]
  simp [e1]
  simp [e2]
  simp [e3, require_t]
  simp [e5]
  unfold l_follow_1
  refine wp_forS (f := fun n : Nat => Dt.int (n : Int)) t2 S (fun i sl cs => ∃ held x5, held.length = r ∧ follL ds r load S = follL ds r held (S.drop i) ∧ sl = [some (.c (bldD r ds)), some (.c (sqD t1 (load.map .int))), some (.c (sqD t2 (natD S))), some (.c (.tup (tabT (tabW r ds)))), some (.p 0), x5] ∧ cs = [.lst (held.map .int)]) (cs1 := [.lst (load.map .int)]) (by simp; rfl) ⟨load, _, hl, rfl, rfl, rfl⟩ ?_ ?_
  · rintro i hi sl cs ⟨held, x5, hhl, hf, rfl, rfl⟩
    have hSi : S[i] < r := hS _ (List.getElem_mem hi)
    have hdr : S.drop i = S[i] :: S.drop (i + 1) := List.drop_eq_getElem_cons hi
    rw [hdr] at hf
    generalize S[i] = b at *
    have e6 := full_list_ok false r ds held (by omega) hhl
    simp only [sqD_f] at e6
    have e7 : mCallB [false, true] m_full_list (mCons (mVar 3) (mCons (mVar 4) mNil)) [some (.c (bldD r ds)), some (.c (sqD t1 (load.map .int))), some (.c (sqD t2 (natD S))), some (.c (.tup (tabT (tabW r ds)))), some (.p 0), some (.c (.int (b : Int)))] [.lst (held.map .int)] = .ok (.p 1) [.lst (held.map .int), .lst (natD (fullL ds r held))] := by
      rw [mCallB_ap (o := .ret (.l (natD (fullL ds r held)))) (ls := [.c (.tup (tabT (tabW r ds))), .p 0]) (ds := [.tup (tabT (tabW r ds))]) (ns := [0]) (cs2 := [.lst (held.map .int)]) (ms := [held.map .int]) rfl rfl rfl e6 (by rw [natD_eq]; exact noLs_ints _)]
      rfl
    have e8 : mV (mCallB [false, true] m_full_list (mCons (mVar 3) (mCons (mVar 4) mNil))) [some (.c (bldD r ds)), some (.c (sqD t1 (load.map .int))), some (.c (sqD t2 (natD S))), some (.c (.tup (tabT (tabW r ds)))), some (.p 0), some (.c (.int (b : Int)))] [.lst (held.map .int)] = .ok (.c (.lst (natD (fullL ds r held)))) [.lst (held.map .int)] := mV_new e7 rfl
    have e9 : opIn true (.c (.int (b : Int))) (.c (.lst (natD (fullL ds r held)))) [.lst (held.map .int)] = some (.c (.bl (!decide (b ∈ fullL ds r held))), [.lst (held.map .int)]) := by
      rw [natD_eq, opIn_ints]
      simp [mem_natI]
    have hg := give_ok r ds m held b 1 (by omega) hd hm hhl hSi (by decide) (by decide) (by have := spr_le (r := r) (a := b) hd; have : (r : Int) * (m * ds.length) ≤ 8 * 100000 := Int.mul_le_mul (by omega) hm (by have := hd; exact mds_nonneg hd) (by omega); omega)
    simp only [List.set_cons_succ, List.set_cons_zero]
    unfold lb_follow_1
    rw [wp_seq, mIf_ap, mTst_ap, mOp2_ap]
    simp only [mVar_ap, List.getElem?_cons_succ, List.getElem?_cons_zero, Res.bind_ok, e8, e9, up_some, isB_bl]
    by_cases hb : b ∈ fullL ds r held
    · have hf2 : follL ds r load S = follL ds r (giveL ds held b 1 r) (S.drop (i + 1)) := by
        rw [hf, follL, if_pos hb, giveL_sh hd hSi, unit_once]
      simp only [hb, decide_true, Bool.not_true, Bool.false_eq_true, if_false, mPass_ap, wp_ok]
      rw [mDrop_ap, mCallP_ap (ls := [.c (.tup (tabT (tabW r ds))), .p 0, .c (.int b), .c (.int 1)]) (ds := [.tup (tabT (tabW r ds)), .int b, .int 1]) (ns := [0]) (cs2 := [.lst (held.map .int)]) (ms := [held.map .int]) rfl rfl (by simp) rfl hg rfl]
      exact .mk ⟨_, _, giveL_len, hf2, rfl, rfl⟩
    · have hf2 : follL ds r load S = none := by rw [hf, follL, if_neg hb]
      simp only [hb, decide_false, Bool.not_false, if_true]
      rw [hf2]
      exact .mk rfl
  · rintro sl cs ⟨held, x5, hhl, hf, rfl, rfl⟩
    rw [List.drop_length, follL] at hf
    rw [hf]
    have e2 : cTuple [.p 0] [.lst (held.map .int)] = some (.c (.tup (held.map .int)), [.lst (held.map .int)]) := cTuple_cell rfl
    simp [e2]
end Mi

set_option Elab.async false
set_option linter.all false
set_option maxRecDepth 100000
set_option maxHeartbeats 4000000
/-! the mirrors of more defs that many laws share, printed: burning -/
namespace Mi
open PySem L2
def b_law_chosen : MS :=
  (mRet (mLc false (mRng rng1 (mCons (mVar 1) mNil)) (gN 2) (mTst (mOp2 (opEq false) (mOp2 opMod (mOpN cInt (mCons (mOp2 opDiv (mVar 0) (mOp2 opItem (mV (mLst false (mCons (mC (.int 1)) (mCons (mC (.int 2)) (mCons (mC (.int 4)) (mCons (mC (.int 8)) (mCons (mC (.int 16)) (mCons (mC (.int 32)) mNil)))))))) (mVar 2))) mNil)) (mC (.int 2))) (mC (.int 1)))) (mVar 2) [2]))
def m_law_chosen : List Dt → Out := runF 2 1 b_law_chosen
def lb_fire_1 : MS :=
  (mSeq (mAsg (mV (mLc false (mSeqI (mVar 5)) (gN 7) (mTst (mOp2 opLt (mOp2 opItem (mVar 3) (mVar 7)) (mOpN cSumT (mCons (mV (mLc false (mSeqI (mVar 4)) (gN 8) mYes (mOp2 opItem (mOp2 opItem (mVar 0) (mVar 7)) (mVar 8)) [8])) mNil)))) (mVar 7) [7])) (gN 6))
  (mSeq (mIf (mTst (mOp2 (opEq false) (mOpN cLen (mCons (mVar 6) mNil)) (mC (.int 0)))) (mRet (mTup (mCons (mVar 4) (mCons (mVar 5) mNil)))) mPass)
  (mSeq (mDrop (mLM (lApp false) (mVar 4) (mCons (mOp2 opItem (mVar 6) (mC (.int 0))) mNil)))
  (mAsg (mV (mLc false (mSeqI (mVar 5)) (gN 7) (mTst (mOp2 (opEq true) (mVar 7) (mOp2 opItem (mVar 6) (mC (.int 0))))) (mVar 7) [7])) (gN 5)))))
def lt_fire_1 : MT :=
  (mTru (mC (.bl true)))
def l_fire_1 : MS := (mWhile 100 lt_fire_1 lb_fire_1)
def b_fire : MS :=
  (mSeq (mAsg (mLst false (mCons (mVar 2) mNil)) (gN 4))
  (mSeq (mAsg (mV (mLc false (mSeqI (mVar 1)) (gN 7) (mTst (mOp2 (opEq true) (mVar 7) (mVar 2))) (mVar 7) [7])) (gN 5))
  l_fire_1))
def m_fire : List Dt → Out := runF 4 5 b_fire
def b_burn : MS :=
  (mSeq (mDrop (mCall m_require_building (mCons (mVar 0) mNil)))
  (mSeq (mDrop (mCall m_require_room (mCons (mVar 0) (mCons (mVar 1) (mCons (mC (.str "base")) mNil)))))
  (mSeq (mDrop (mCall m_require_load (mCons (mVar 0) (mCons (mVar 2) (mCons (mC (.str "load")) mNil)))))
  (mSeq (mAsg (mMeth 0 "width_rows" m_Building_width_rows (mVar 0) mNil) (gN 3))
  (mSeq (mAsg (mCall m_fire (mCons (mVar 3) (mCons (mCall m_joined (mCons (mVar 3) (mCons (mVar 1) mNil))) (mCons (mVar 1) (mCons (mVar 2) mNil))))) (gT 2 (gsCons (gN 4) (gsCons (gN 5) gsNil))))
  (mSeq (mIf (mTst (mOp2 (opEq false) (mOpN cLen (mCons (mVar 5) mNil)) (mC (.int 0)))) (mRet (mTup (mCons (mC (.str "burnt")) (mCons (mOpN cTuple (mCons (mVar 4) mNil)) mNil)))) mPass)
  (mRet (mTup (mCons (mC (.str "resting")) (mCons (mOpN cTuple (mCons (mVar 5) mNil)) mNil))))))))))
def m_burn : List Dt → Out := runF 3 3 b_burn
def b_is_reduced : MS :=
  (mSeq (mDrop (mCall m_require_building (mCons (mVar 0) mNil)))
  (mSeq (mDrop (mCall m_require_room (mCons (mVar 0) (mCons (mVar 1) (mCons (mC (.str "base")) mNil)))))
  (mSeq (mDrop (mCall m_require_load (mCons (mVar 0) (mCons (mVar 2) (mCons (mC (.str "load")) mNil)))))
  (mSeq (mAsg (mMeth 0 "width_rows" m_Building_width_rows (mVar 0) mNil) (gN 3))
  (mSeq (mAsg (mCall m_joined (mCons (mVar 3) (mCons (mVar 1) mNil))) (gN 4))
  (mSeq (mIf (mNot (mTru (mCall m_has_no_shortage (mCons (mV (mLc false (mSeqI (mVar 4)) (gN 7) (mTst (mOp2 (opEq true) (mVar 7) (mVar 1))) (mOp2 opItem (mVar 2) (mVar 7)) [7])) mNil)))) (mRet (mC (.bl false))) mPass)
  (mSeq (mAsg (mCall m_fire (mCons (mVar 3) (mCons (mVar 4) (mCons (mVar 1) (mCons (mVar 2) mNil))))) (gT 2 (gsCons (gN 5) (gsCons (gN 6) gsNil))))
  (mRet (mOp2 (opEq false) (mOpN cLen (mCons (mVar 6) mNil)) (mC (.int 0)))))))))))
def m_is_reduced : List Dt → Out := runF 3 5 b_is_reduced
end Mi

set_option Elab.async false
set_option linter.all false
set_option maxRecDepth 100000
set_option maxHeartbeats 4000000
namespace Bn
open PySem L2 Mi
/-! ### the plain burning -/
def cond (ds : List Du) (load : List Int) (order : List Nat) (a : Nat) : Bool := decide (nth load a < (order.map (wid ds a)).sum)
def leftP (piece order : List Nat) : List Nat := piece.filter fun a => !decide (a ∈ order)
def rdy (ds : List Du) (load : List Int) (piece order : List Nat) : List Nat := piece.filter fun a => !decide (a ∈ order) && cond ds load order a
def next (ds : List Du) (load : List Int) (piece order : List Nat) : List Nat := match rdy ds load piece order with
  | [] => order
  | a :: _ => order ++ [a]
def ordN (ds : List Du) (load : List Int) (piece : List Nat) (base : Nat) : Nat → List Nat
  | 0 => [base]
  | k + 1 => next ds load piece (ordN ds load piece base k)
section
variable {ds : List Du} {load : List Int} {piece : List Nat} {base : Nat}
structure OrdOk (piece order : List Nat) : Prop where
  nd : order.Nodup
  sub : ∀ x ∈ order, x ∈ piece
theorem rdy_mem {order : List Nat} {a : Nat} : a ∈ rdy ds load piece order ↔ a ∈ piece ∧ a ∉ order ∧ cond ds load order a = true := by
  simp [rdy]
theorem OrdOk.next {order : List Nat} (h : OrdOk piece order) : OrdOk piece (next ds load piece order) := by
  unfold Bn.next
  split
  · exact h
  · rename_i a as e
    have ha : a ∈ rdy ds load piece order := by rw [e]; simp
    obtain ⟨h1, h2, _⟩ := rdy_mem.mp ha
    refine ⟨List.nodup_append.mpr ⟨h.nd, by simp, fun x hx y hy z => ?_⟩, fun x hx => ?_⟩
    · have : y = a := by simpa using hy
      subst this
      subst z
      exact h2 hx
    · rcases List.mem_append.mp hx with q | q
      · exact h.sub x q
      · have : x = a := by simpa using q
        subst this
        exact h1
theorem ordN_ok (hb : base ∈ piece) : ∀ k, OrdOk piece (ordN ds load piece base k)
  | 0 => ⟨by simp [ordN], by simp [ordN, hb]⟩
  | k + 1 => (ordN_ok hb k).next
theorem ordN_len (k : Nat) : rdy ds load piece (ordN ds load piece base k) = [] ∨ (ordN ds load piece base k).length = k + 1 := by
  induction k with
  | zero => exact .inr rfl
  | succ k ih =>
    rcases ih with h | h
    · left
      have : ordN ds load piece base (k + 1) = ordN ds load piece base k := by
        show next ds load piece _ = _
        unfold next
        rw [h]
      rw [this, h]
    · cases e : rdy ds load piece (ordN ds load piece base k) with
      | nil =>
        left
        have : ordN ds load piece base (k + 1) = ordN ds load piece base k := by
          show next ds load piece _ = _
          unfold next
          rw [e]
        rw [this, e]
      | cons a as =>
        right
        have : ordN ds load piece base (k + 1) = ordN ds load piece base k ++ [a] := by
          show next ds load piece _ = _
          unfold next
          rw [e]
        rw [this]
        simp [h]
theorem ordN_fix {k : Nat} (h : rdy ds load piece (ordN ds load piece base k) = []) : ∀ j, ordN ds load piece base (k + j) = ordN ds load piece base k
  | 0 => rfl
  | j + 1 => by
    show next ds load piece (ordN ds load piece base (k + j)) = _
    rw [ordN_fix h j]
    unfold next
    rw [h]
theorem ordN_last {r : Nat} (hb : base ∈ piece) (hp : piece.length ≤ r) : rdy ds load piece (ordN ds load piece base r) = [] := by
  rcases ordN_len (ds := ds) (load := load) (piece := piece) (base := base) r with h | h
  · exact h
  · have := ordN_ok (ds := ds) (load := load) hb r
    have := len_le_sub this.nd this.sub
    omega
theorem ordN_stop {r k : Nat} (hb : base ∈ piece) (hp : piece.length ≤ r) (h : rdy ds load piece (ordN ds load piece base k) = []) : ordN ds load piece base k = ordN ds load piece base r := by
  by_cases hk : k ≤ r
  · have := ordN_fix h (r - k)
    rw [show k + (r - k) = r by omega] at this
    exact this.symm
  · have := ordN_fix (ordN_last (ds := ds) (load := load) hb hp) (k - r)
    rw [show r + (k - r) = k by omega] at this
    exact this
end
theorem tabT_item {r a b : Nat} {ds : List Du} {sl : Sl} {cs : Cs} {ma mb mt : ME} (ht : mt sl cs = .ok (.c (.tup (tabT (tabW r ds)))) cs) (ha : ma sl cs = .ok (.c (.int a)) cs) (hb : mb sl cs = .ok (.c (.int b)) cs) (h1 : a < r) (h2 : b < r) : mOp2 opItem (mOp2 opItem mt ma) mb sl cs = .ok (.c (.int (wid ds a b))) cs := by
  have e1 : atI (tabT (tabW r ds)) (a : Int) = some (.tup ((rowW r ds a).map .int)) := by
    unfold tabT
    rw [atI_mapN rfl (by rw [tabW_len]; exact h1), tabW_nth h1]
  have e2 : atI ((rowW r ds a).map Dt.int) (b : Int) = some (.int (wid ds a b)) := by
    rw [atI_mapN rfl (by rw [rowW_len]; exact h2), rowW_nth h2]
  simp [ht, ha, hb, e1, e2]
/-- the slots of fire -/
def fSl (r : Nat) (ds : List Du) (load : List Int) (piece : List Nat) (base : Nat) (left : Option Lv) (x6 x7 x8 : Option Lv) : Sl := [some (.c (.tup (tabT (tabW r ds)))), some (.c (.tup (natD piece))), some (.c (.int base)), some (.c (.lst (load.map .int))), some (.p 0), left, x6, x7, x8]
theorem view_app {cs : Cs} {xs : List Dt} {more : Cs} (h : cs[0]? = some (.lst xs)) : view (cs ++ more) (.p 0) = some (xs.map .c) := by
  cases cs with
  | nil => simp at h
  | cons c cs =>
    simp at h
    subst h
    rfl
theorem fire_sum {r a : Nat} {ds : List Du} {load : List Int} {piece order : List Nat} {base : Nat} {left x6 x8 : Option Lv} {cs : Cs} (hc : cs[0]? = some (.lst (natD order))) (hok : okCs cs.length cs = true) (ha : a < r) (ho : ∀ x ∈ order, x < r) (hl : order.length ≤ 1000) :
    mV (mLc false (mSeqI (mVar 4)) (gN 8) mYes (mOp2 opItem (mOp2 opItem (mVar 0) (mVar 7)) (mVar 8)) [8]) (fSl r ds load piece base left x6 (some (.c (.int a))) x8) cs = .ok (.c (.lst ((order.map (wid ds a)).map .int))) cs := by
  have hv := lc_okG (mi := mSeqI (mVar 4)) (s := .seq (.p 0)) (g := gN 8) (tt := mYes) (te := mOp2 opItem (mOp2 opItem (mVar 0) (mVar 7)) (mVar 8)) (vs := [8]) (sl := fSl r ds load piece base left x6 (some (.c (.int a))) x8) (cs := cs) order (fun c => .c (.int (c : Int))) (fun _ => true) (fun c => .int (wid ds a c))
    (by
      have := view_app (more := []) hc
      rw [List.append_nil] at this
      have g4 : mVar 4 (fSl r ds load piece base left x6 (some (.c (.int a))) x8) cs = .ok (.p 0) cs := rfl
      unfold mSeqI
      rw [g4]
      simp [this]) (fun acc i => by
      simp only [Src.at, view_app hc, Option.map_some]
      simp [natD, Function.comp_def]) (by
      have := view_app (more := []) hc
      rw [List.append_nil] at this
      simp [Src.len, this, natD]) (by omega)
    (fun c hcm acc => ⟨_, rfl, rfl, fun _ => tabT_item (by rfl) (by rfl) (by rfl) ha (ho c hcm)⟩)
  rw [flt_true] at hv
  have := mV_new hv hok
  rw [List.map_map]
  exact this
theorem rdy_eq {ds : List Du} {load : List Int} {piece order : List Nat} : (leftP piece order).filter (cond ds load order) = rdy ds load piece order := by
  unfold leftP rdy
  rw [List.filter_filter]
  congr 1
  funext a
  exact Bool.and_comm _ _
theorem left_next {piece order : List Nat} {b : Nat} : (leftP piece order).filter (fun a => !decide (a = b)) = leftP piece (order ++ [b]) := by
  unfold leftP
  rw [List.filter_filter]
  congr 1
  funext a
  by_cases h : a = b <;> simp [h]
theorem left0 {piece : List Nat} {b : Nat} : piece.filter (fun a => !decide (a = b)) = leftP piece [b] := by
  unfold leftP
  congr 1
  funext a
  simp
theorem fzA_p0 {ds : List Dt} {cs : Cs} {ls : List Lv} : fzA (.lst ds :: cs) (.p 0 :: ls) = (fzA (.fz (.lst ds) :: cs) ls).map fun p => (.lst ds :: p.1, p.2) := by
  show (match fzA (.fz (.lst ds) :: cs) ls with | some (es, cs2) => some (Dt.lst ds :: es, cs2) | none => none) = _
  cases fzA (.fz (.lst ds) :: cs) ls with
  | none => rfl
  | some p => rfl
theorem fire_ok (r : Nat) (ds : List Du) (load : List Int) (piece : List Nat) (base : Nat) (hr : r ≤ 30) (hp : ∀ x ∈ piece, x < r) (hpl : piece.length ≤ r) (hb : base ∈ piece) (hl : load.length = r) :
    m_fire [.tup (tabT (tabW r ds)), .tup (natD piece), .int base, .lst (load.map .int)] = .ret (.c (.tup [.lst (natD (ordN ds load piece base r)), .lst (natD (leftP piece (ordN ds load piece base r)))])) := by
  refine runF_of (n := 4) (k := 5) (body := b_fire) rfl ?_
  simp [b_fire]
  refine wp_vlc (s := .seq (.c (.tup (natD piece)))) piece (fun a => .c (.int (a : Int))) (fun a => !decide (a = base)) (fun a => .int (a : Int)) ?_ ?_ rfl (by omega) ?_ ?_
  · unfold mSeqI
    simp [view]
  · simp [Src.itms, natD, Function.comp_def]
  · intro a ha cs' hn
    exact ⟨_, rfl, by simp [wipeS]; omega, fun _ => by simp [wipeS]⟩
  rw [left0]
  have e0 : ([some (.c (.tup (tabT (tabW r ds)))), some (.c (.tup (natD piece))), some (.c (.int (base : Int))), some (.c (.lst (load.map .int))), some (.p 0), some (.c (.lst ((leftP piece [base]).map fun a : Nat => .int (a : Int)))), none, none, none] : Sl) = fSl r ds load piece base (some (.c (.lst (natD (leftP piece [base]))))) none none none := rfl
  rw [e0]
  unfold l_fire_1
  refine wp_while (fun k sl cs => ∃ j x6 x7 x8, k = piece.length + 1 - (ordN ds load piece base j).length ∧ sl = fSl r ds load piece base (some (.c (.lst (natD (leftP piece (ordN ds load piece base j)))))) x6 x7 x8 ∧ cs = [.lst (natD (ordN ds load piece base j))]) (piece.length + 1 - 1) ⟨0, _, _, _, rfl, rfl, rfl⟩ (by omega) ?_
  rintro k sl cs ⟨j, x6, x7, x8, rfl, rfl, rfl⟩
  have hO := ordN_ok (ds := ds) (load := load) hb j
  have hol : (ordN ds load piece base j).length ≤ piece.length := len_le_sub hO.nd hO.sub
  have hor : ∀ x ∈ ordN ds load piece base j, x < r := fun x hx => hp x (hO.sub x hx)
  have hstop := ordN_stop (ds := ds) (load := load) (k := j) hb hpl
  have hnext : ordN ds load piece base (j + 1) = next ds load piece (ordN ds load piece base j) := rfl
  have hlen := ordN_len (ds := ds) (load := load) (piece := piece) (base := base) (j + 1)
  generalize ordN ds load piece base j = order at *
  have ht : lt_fire_1 (fSl r ds load piece base (some (.c (.lst (natD (leftP piece order))))) x6 x7 x8) [.lst (natD order)] = .ok true [.lst (natD order)] := rfl
  rw [ht]
  refine .mk ?_
  rw [if_pos rfl]
  have hll : (leftP piece order).length ≤ r := Nat.le_trans (List.length_filter_le _ _) hpl
  have hv := lc_okG (mi := mSeqI (mVar 5)) (s := .seq (.c (.lst (natD (leftP piece order))))) (g := gN 7) (tt := mTst (mOp2 opLt (mOp2 opItem (mVar 3) (mVar 7)) (mOpN cSumT (mCons (mV (mLc false (mSeqI (mVar 4)) (gN 8) mYes (mOp2 opItem (mOp2 opItem (mVar 0) (mVar 7)) (mVar 8)) [8])) mNil)))) (te := mVar 7) (vs := [7]) (sl := fSl r ds load piece base (some (.c (.lst (natD (leftP piece order))))) x6 x7 x8) (cs := [.lst (natD order)]) (leftP piece order) (fun c => .c (.int (c : Int))) (cond ds load order) (fun c => .int (c : Int))
    rfl (fun acc i => by simp [Src.at, view, natD, Function.comp_def]) (by simp [Src.len, view, natD]) (by omega)
    (fun a ha acc => ⟨fSl r ds load piece base (some (.c (.lst (natD (leftP piece order))))) x6 (some (.c (.int (a : Int)))) x8, rfl, by
      have har : a < r := hp a (by simp [leftP] at ha; exact ha.1)
      have hs := fire_sum (r := r) (a := a) (ds := ds) (load := load) (piece := piece) (order := order) (base := base) (left := some (.c (.lst (natD (leftP piece order))))) (x6 := x6) (x8 := x8) (cs := [.lst (natD order)] ++ [.lst acc]) rfl rfl har hor (by omega)
      have g3 : mVar 3 (fSl r ds load piece base (some (.c (.lst (natD (leftP piece order))))) x6 (some (.c (.int (a : Int)))) x8) ([.lst (natD order)] ++ [.lst acc]) = .ok (.c (.lst (load.map .int))) ([.lst (natD order)] ++ [.lst acc]) := rfl
      have g7 : mVar 7 (fSl r ds load piece base (some (.c (.lst (natD (leftP piece order))))) x6 (some (.c (.int (a : Int)))) x8) ([.lst (natD order)] ++ [.lst acc]) = .ok (.c (.int (a : Int))) ([.lst (natD order)] ++ [.lst acc]) := rfl
      have hat : atI (load.map Dt.int) (a : Int) = some (.int (nth load a)) := atI_mapN rfl (by omega)
      rw [mTst_ap, mOp2_ap, mOp2_ap, g3]
      simp only [Res.bind_ok, g7, opItem_c, hat, Option.map_some, up_some, mOpN_ap, mCons_ap, hs, mNil_ap, cSum_ints, opLt_int, isB_bl]
      rw [cSumT_lst]; rfl, fun _ => rfl⟩)
  rw [rdy_eq] at hv
  have hready := mV_new hv rfl
  have hrd : (rdy ds load piece order).map (fun c : Nat => Dt.int (c : Int)) = natD (rdy ds load piece order) := rfl
  rw [hrd] at hready
  unfold lb_fire_1
  rw [wp_seq, mAsg_ap, hready]
  simp only [Res.bind_ok, gN_ap, wp_ok]
  have hset : (fSl r ds load piece base (some (.c (.lst (natD (leftP piece order))))) x6 x7 x8).set 6 (some (.c (.lst (natD (rdy ds load piece order))))) = fSl r ds load piece base (some (.c (.lst (natD (leftP piece order))))) (some (.c (.lst (natD (rdy ds load piece order))))) x7 x8 := rfl
  rw [hset]
  cases er : rdy ds load piece order with
  | nil =>
    have hfin := hstop er
    rw [← hfin]
    simp [fSl, natD, fzA_p0]
  | cons b bs =>
    have hn : next ds load piece order = order ++ [b] := by unfold next; rw [er]
    have hpush : (natD order).length < 16777216 := by rw [natD_len]; omega
    have hb2 : b ∈ rdy ds load piece order := by rw [er]; simp
    have hv2 := vlc_ok (mi := mSeqI (mVar 5)) (s := .seq (.c (.lst (natD (leftP piece order))))) (g := gN 7) (tt := mTst (mOp2 (opEq true) (mVar 7) (mOp2 opItem (mVar 6) (mC (.int 0))))) (te := mVar 7) (vs := [7]) (sl := fSl r ds load piece base (some (.c (.lst (natD (leftP piece order))))) (some (.c (.lst (natD (b :: bs))))) x7 x8) (cs := [.lst (natD (order ++ [b]))]) (leftP piece order) (fun c => .c (.int (c : Int))) (fun a => !decide (a = b)) (fun c => .int (c : Int))
      rfl (by simp [Src.itms, natD, Function.comp_def]) rfl (by omega) (fun a ha cs' hn => ⟨fSl r ds load piece base (some (.c (.lst (natD (leftP piece order))))) (some (.c (.lst (natD (b :: bs))))) (some (.c (.int (a : Int)))) x8, rfl, by simp [fSl, natD]; omega, fun _ => rfl⟩)
    rw [left_next] at hv2
    have hv2' : mV (mLc false (mSeqI (mVar 5)) (gN 7) (mTst (mOp2 (opEq true) (mVar 7) (mOp2 opItem (mVar 6) (mC (.int 0))))) (mVar 7) [7]) (fSl r ds load piece base (some (.c (.lst (natD (leftP piece order))))) (some (.c (.lst (natD (b :: bs))))) x7 x8) [.lst (natD (order ++ [b]))] = .ok (.c (.lst (natD (leftP piece (order ++ [b]))))) [.lst (natD (order ++ [b]))] := hv2
    have happ : natD order ++ [.int (b : Int)] = natD (order ++ [b]) := by simp [natD]
    have g6 : ∀ cs, mVar 6 (fSl r ds load piece base (some (.c (.lst (natD (leftP piece order))))) (some (.c (.lst (natD (b :: bs))))) x7 x8) cs = .ok (.c (.lst (.int (b : Int) :: natD bs))) cs := fun cs => rfl
    have g4 : ∀ cs, mVar 4 (fSl r ds load piece base (some (.c (.lst (natD (leftP piece order))))) (some (.c (.lst (natD (b :: bs))))) x7 x8) cs = .ok (.p 0) cs := fun cs => rfl
    have hne : ¬ ((((Dt.int (b : Int) :: natD bs).length : Nat) : Int) = 0) := by simp; omega
    simp only [wp_seq, mIf_ap, wp_bind, mTst_ap, mOp2_ap, mOpN_ap, mCons_ap, g6, wp_ok, mNil_ap, cLen_lst, up_some, mC_ap, opEq_int, isB_bl, hne, decide_false, Bool.false_eq_true, if_false, mPass_ap, mDrop_ap, mLM_ap, g4, isLC_0, if_true, opItem_c, atI_0, Option.map_some, lApp_ap, push_c0, szl, hpush, happ, mAsg_ap, hv2', gN_ap]
    refine ⟨_, ?_, j + 1, some (.c (.lst (natD (b :: bs)))), x7, x8, rfl, ?_, ?_⟩
    · rw [hnext, hn]
      rw [hnext, hn] at hlen
      have := ordN_ok (ds := ds) (load := load) hb (j + 1)
      rw [hnext, hn] at this
      have hl2 := len_le_sub this.nd this.sub
      simp at hl2 ⊢
      omega
    · rw [hnext, hn]
      rfl
    · rw [hnext, hn]

/-! ### burn -/
theorem require_building_ok (r : Nat) (ds : List Du) : m_require_building [bldD r ds] = .ret (.c .non) := by
  refine runF_of (n := 1) (k := 0) (body := b_require_building) rfl ?_
  simp [b_require_building, bldD, require_t]
theorem require_room_ok (r base : Nat) (ds : List Du) (nm : Str) (hb : base < r) : m_require_room [bldD r ds, .int base, .str nm] = .ret (.c .non) := by
  refine runF_of (n := 3) (k := 0) (body := b_require_room) rfl ?_
  have e1 := is_between_int base 0 ((r : Int) - 1)
  have h1 : (0 : Int) ≤ base := by omega
  have h2 : (base : Int) ≤ (r : Int) - 1 := by omega
  simp [b_require_room, bldD, objOf, lookD, e1, h2, require_t]
theorem require_load_ok (r : Nat) (ds : List Du) (load : List Int) (nm : Str) (hl : load.length = r) (hx : ∀ x ∈ load, -200 ≤ x ∧ x ≤ 200) : m_require_load [bldD r ds, .lst (load.map .int), .str nm] = .ret (.c .non) := by
  refine runF_of (n := 3) (k := 0) (body := b_require_load) rfl ?_
  have e1 := (is_table_ok load r (-200) 200 hl hx).2
  simp [b_require_load, bldD, objOf, lookD, e1, require_t]
theorem width_rows_ok (r : Nat) (ds : List Du) : m_Building_width_rows [bldD r ds] = .ret (.c (.tup (tabT (tabW r ds)))) := by
  refine runF_of (n := 1) (k := 0) (body := b_Building_width_rows) rfl ?_
  have n1 : ¬ (("_widths" : Str) = "rooms") := by decide +kernel
  have n2 : ¬ (("_widths" : Str) = "ducts") := by decide +kernel
  simp [b_Building_width_rows, bldD, objOf, lookD, n1, n2]
def burnD (left order : List Nat) : Dt := if left = [] then .tup [.str "burnt", .tup (natD order)] else .tup [.str "resting", .tup (natD left)]
theorem burn_ok (r base : Nat) (ds : List Du) (m : Int) (load : List Int) (hr : 1 ≤ r) (hr2 : r ≤ 8) (hb : base < r) (hd : ∀ d ∈ ds, DuOk r m d) (hl : load.length = r) (hx : ∀ x ∈ load, -200 ≤ x ∧ x ≤ 200) :
    m_burn [bldD r ds, .int base, .lst (load.map .int)] = .ret (.c (burnD (leftP (pieceOf (AdjW ds) r base) (ordN ds load (pieceOf (AdjW ds) r base) base r)) (ordN ds load (pieceOf (AdjW ds) r base) base r))) := by
  refine runF_of (n := 3) (k := 3) (body := b_burn) rfl ?_
  have e1 := require_building_ok r ds
  have e2 := require_room_ok r base ds "base" hb
  have e3 := require_load_ok r ds load "load" hl hx
  have e4 := width_rows_ok r ds
  have e5 := joined_ok r base ds m hr (by omega) hb hd
  have hpl : (pieceOf (AdjW ds) r base).length ≤ r := by
    have := List.length_filter_le (fun b => @decide (Rch (AdjW ds) base b) (Classical.propDecidable _)) (List.range r)
    simpa [pieceOf] using this
  have e6 := fire_ok r ds load (pieceOf (AdjW ds) r base) base (by omega) (fun x hx => (pieceOf_mem.mp hx).1) hpl (pieceOf_mem.mpr ⟨hb, .refl⟩) hl
  have n1 : ¬ (("width_rows" : Str) = "rooms") := by decide +kernel
  have n2 : ¬ (("width_rows" : Str) = "ducts") := by decide +kernel
  have n3 : ¬ (("width_rows" : Str) = "_widths") := by decide +kernel
  have e7 : ∀ sl, mMeth 0 "width_rows" m_Building_width_rows (mVar 0) mNil (some (.c (bldD r ds)) :: sl) [] = .ok (.c (.tup (tabT (tabW r ds)))) [] := fun sl => by
    unfold mMeth
    simp only [mVar_ap, List.getElem?_cons_zero, Res.bind_ok]
    have : objOf [] (.c (bldD r ds)) = some (0, (["rooms", "ducts", "_widths"] : List Str), [Dt.int r, Dt.tup (ds.map duD), Dt.tup (tabT (tabW r ds))]) := rfl
    simp only [this]
    simp [n1, n2, n3, e4]
  generalize pieceOf (AdjW ds) r base = piece at *
  simp [b_burn, e1, e2, e3, e7, e5, e6]
  by_cases h : leftP piece (ordN ds load piece base r) = []
  · simp [burnD, h, natD]
  · have : ¬ natD (leftP piece (ordN ds load piece base r)) = [] := fun z => h (by simpa [natD] using z)
    simp [burnD, h, this]

theorem first_rep (G : Nat → Nat → Prop) : ∀ b : Nat, ∃ x, x ≤ b ∧ Rch G x b ∧ ∀ y, y < x → ¬ Rch G y x := by
  intro b
  induction b using Nat.strongRecOn with
  | _ b ih =>
    by_cases h : ∃ y, y < b ∧ Rch G y b
    · obtain ⟨y, hy, hr⟩ := h
      obtain ⟨x, h1, h2, h3⟩ := ih y hy
      exact ⟨x, by omega, h2.trans hr, h3⟩
    · exact ⟨b, Nat.le_refl _, .refl, fun y hy z => h ⟨y, hy, z⟩⟩
theorem pieceOf_eq {G : Nat → Nat → Prop} (hs : ∀ a b, G a b → G b a) {r x b : Nat} (h : Rch G x b) : pieceOf G r x = pieceOf G r b := by
  unfold pieceOf
  apply List.filter_congr
  intro y _
  have : Rch G x y ↔ Rch G b y := ⟨fun z => (h.symm hs).trans z, fun z => h.trans z⟩
  simp [this]
theorem find_piece {G : Nat → Nat → Prop} (hs : ∀ a b, G a b → G b a) {r base : Nat} (hb : base < r) : ∃ rest, (piecesOf G r).filter (fun p => decide (base ∈ p)) = pieceOf G r base :: rest := by
  have hall : ∀ p ∈ (piecesOf G r).filter (fun p => decide (base ∈ p)), p = pieceOf G r base := fun p hp => by
    obtain ⟨h1, h2⟩ := List.mem_filter.mp hp
    obtain ⟨x, _, rfl⟩ := List.mem_map.mp h1
    have : base ∈ pieceOf G r x := by simpa using h2
    exact pieceOf_eq hs (pieceOf_mem.mp this).2
  obtain ⟨x, h1, h2, h3⟩ := first_rep G base
  have hx : pieceOf G r x ∈ (piecesOf G r).filter (fun p => decide (base ∈ p)) := by
    refine List.mem_filter.mpr ⟨List.mem_map.mpr ⟨x, ?_, rfl⟩, ?_⟩
    · unfold repsOf
      simp only [List.mem_filter, List.mem_range, decide_eq_true_eq]
      exact ⟨by omega, h3⟩
    · simp [pieceOf_mem, hb, h2]
  cases e : (piecesOf G r).filter (fun p => decide (base ∈ p)) with
  | nil => rw [e] at hx; simp at hx
  | cons p ps =>
    have := hall p (by rw [e]; simp)
    exact ⟨ps, by rw [this]⟩
end Bn

set_option Elab.async false
set_option linter.all false
set_option maxRecDepth 100000
set_option maxHeartbeats 4000000
/-! sets of rooms that may vent together; the burning finds the greatest of them -/
namespace Bn
open PySem L2 Mi
theorem sumR_le2 {f g : Nat → Int} : ∀ {n : Nat}, (∀ b, b < n → f b ≤ g b) → sumR n f ≤ sumR n g
  | 0, _ => by simp [sumR]
  | n + 1, h => by
    have h1 := sumR_le2 (n := n) fun b hb => h b (by omega)
    have h2 := h n (by omega)
    rw [sumR_succ, sumR_succ]
    omega
theorem sum_filter {p : Nat → Bool} {f : Nat → Int} : ∀ {r : Nat}, (((List.range r).filter p).map f).sum = sumR r fun b => if p b = true then f b else 0
  | 0 => by simp [sumR]
  | r + 1 => by
    rw [List.range_succ, List.filter_append, List.map_append, List.sum_append, sum_filter, sumR_succ]
    cases h : p r <;> simp [h]
theorem sum_nodup {r : Nat} {f : Nat → Int} : ∀ {S : List Nat}, S.Nodup → (∀ x ∈ S, x < r) → (S.map f).sum = sumR r fun b => if b ∈ S then f b else 0
  | [], _, _ => by
    rw [sumR_zeros (fun b _ => by simp)]; rfl
  | x :: S, hn, hS => by
    obtain ⟨h1, h2⟩ := List.nodup_cons.mp hn
    have ih := sum_nodup (f := f) h2 fun y hy => hS y (List.mem_cons_of_mem _ hy)
    have hp := sumR_pick (f := f) (hS x List.mem_cons_self)
    rw [List.map_cons, List.sum_cons, ih, ← hp, ← sumR_add]
    refine sumR_congr fun b _ => ?_
    by_cases e : b = x
    · subst e; simp [h1]
    · simp [e]
section
variable {ds : List Du} {r : Nat} {m : Int} {load : List Int} {base : Nat}
def outS (ds : List Du) (r : Nat) (S : List Nat) (a : Nat) : Int := (((List.range r).filter fun b => !decide (b ∈ S)).map (wid ds a)).sum
def canV (ds : List Du) (r : Nat) (load : List Int) (S : List Nat) : Bool := S.all fun a => decide (outS ds r S a ≤ nth load a)
theorem outS_eq {S : List Nat} {a : Nat} : outS ds r S a = sumR r fun b => if b ∈ S then 0 else wid ds a b := by
  unfold outS
  rw [sum_filter]
  refine sumR_congr fun b _ => ?_
  by_cases h : b ∈ S <;> simp [h]
theorem left_mem {P O : List Nat} {a : Nat} : a ∈ leftP P O ↔ a ∈ P ∧ a ∉ O := by simp [leftP]
/-- what does not burn may vent together -/
theorem left_can (hd : ∀ d ∈ ds, DuOk r m d) (hb : base < r) (hr : (pieceOf (AdjW ds) r base).length ≤ r) : canV ds r load (leftP (pieceOf (AdjW ds) r base) (ordN ds load (pieceOf (AdjW ds) r base) base r)) = true := by
  have hbP : base ∈ pieceOf (AdjW ds) r base := pieceOf_mem.mpr ⟨hb, .refl⟩
  have hlast := ordN_last (ds := ds) (load := load) hbP hr
  have hok := ordN_ok (ds := ds) (load := load) hbP r
  have hPr : ∀ x ∈ pieceOf (AdjW ds) r base, x < r := fun x hx => (pieceOf_mem.mp hx).1
  have hPc : ∀ a ∈ pieceOf (AdjW ds) r base, ∀ b, b ∉ pieceOf (AdjW ds) r base → wid ds a b = 0 := fun a ha b hnb => by
    have h0 := wid_nonneg (a := a) (b := b) hd
    by_cases z : 0 < wid ds a b
    · exact absurd (pieceOf_mem.mpr ⟨(wid_lt hd z).2.1, (pieceOf_mem.mp ha).2.step z⟩) hnb
    · omega
  generalize pieceOf (AdjW ds) r base = P at *
  generalize ordN ds load P base r = O at *
  unfold canV
  rw [List.all_eq_true]
  intro a ha
  obtain ⟨haP, haO⟩ := left_mem.mp ha
  have hc : cond ds load O a = false := by
    cases h : cond ds load O a with
    | false => rfl
    | true =>
      have : a ∈ rdy ds load P O := rdy_mem.mpr ⟨haP, haO, h⟩
      rw [hlast] at this; cases this
  have hc2 : (O.map (wid ds a)).sum ≤ nth load a := by
    unfold cond at hc
    have := of_decide_eq_false hc
    omega
  have he : outS ds r (leftP P O) a = (O.map (wid ds a)).sum := by
    rw [outS_eq, sum_nodup hok.nd fun x hx => hPr x (hok.sub x hx)]
    refine sumR_congr fun b _ => ?_
    by_cases h1 : b ∈ O
    · have : b ∉ leftP P O := fun z => (left_mem.mp z).2 h1
      simp [h1, this]
    · by_cases h2 : b ∈ P
      · have : b ∈ leftP P O := left_mem.mpr ⟨h2, h1⟩
        simp [h1, this]
      · have : b ∉ leftP P O := fun z => h2 (left_mem.mp z).1
        simp [h1, this, hPc a haP b h2]
  simp [he, hc2]
/-- what may vent together does not burn -/
theorem can_left (hd : ∀ d ∈ ds, DuOk r m d) {P S : List Nat} (hPr : ∀ x ∈ P, x < r) (hbP : base ∈ P) (hbS : base ∉ S) (hc : canV ds r load S = true) : ∀ k, ∀ x ∈ ordN ds load P base k, x ∉ S := by
  intro k
  induction k with
  | zero => intro x hx; simp [ordN] at hx; subst hx; exact hbS
  | succ k ih =>
    intro x hx
    have e : ordN ds load P base (k + 1) = next ds load P (ordN ds load P base k) := rfl
    have hok := ordN_ok (ds := ds) (load := load) hbP k
    rw [e] at hx
    unfold next at hx
    split at hx
    · exact ih x hx
    · rename_i a as er
      rcases List.mem_append.mp hx with q | q
      · exact ih x q
      · have hxa := List.mem_singleton.mp q
        subst hxa
        have hr' := rdy_mem.mp (show x ∈ rdy ds load P (ordN ds load P base k) by rw [er]; exact List.mem_cons_self)
        intro hxS
        have h1 : outS ds r S x ≤ nth load x := by
          unfold canV at hc
          exact of_decide_eq_true (List.all_eq_true.mp hc x hxS)
        have h2 : nth load x < ((ordN ds load P base k).map (wid ds x)).sum := of_decide_eq_true hr'.2.2
        have h3 : ((ordN ds load P base k).map (wid ds x)).sum ≤ outS ds r S x := by
          rw [outS_eq, sum_nodup hok.nd fun y hy => hPr y (hok.sub y hy)]
          refine sumR_le2 fun b _ => ?_
          have h0 := wid_nonneg (a := x) (b := b) hd
          by_cases z : b ∈ ordN ds load P base k
          · rw [if_pos z, if_neg (ih b z)]; exact Int.le_refl _
          · rw [if_neg z]
            split <;> omega
        omega
/-! ### sets by codes -/
def chosenL (c r : Nat) : List Nat := (List.range r).filter fun a => decide (c / 2 ^ a % 2 = 1)
theorem chosenL_mem {c a : Nat} : a ∈ chosenL c r ↔ a < r ∧ c / 2 ^ a % 2 = 1 := by simp [chosenL]
theorem exists_code : ∀ (r : Nat) (p : Nat → Bool), ∃ c, c < 2 ^ r ∧ ∀ a, a < r → (c / 2 ^ a % 2 = 1 ↔ p a = true)
  | 0, p => ⟨0, by simp, fun a ha => by omega⟩
  | r + 1, p => by
    obtain ⟨c, h1, h2⟩ := exists_code r fun a => p (a + 1)
    refine ⟨2 * c + (if p 0 = true then 1 else 0), ?_, fun a ha => ?_⟩
    · rw [Nat.pow_succ]
      split <;> omega
    · cases a with
      | zero =>
        rw [Nat.pow_zero, Nat.div_one]
        by_cases z : p 0 = true
        · simp [z] <;> omega
        · simp [z]
      | succ a =>
        rw [show 2 ^ (a + 1) = 2 * 2 ^ a by rw [Nat.pow_succ, Nat.mul_comm], ← Nat.div_div_eq_div_mul]
        have : (2 * c + (if p 0 = true then 1 else 0)) / 2 = c := by split <;> omega
        rw [this]
        exact h2 a (by omega)
def okSet (ds : List Du) (r : Nat) (load : List Int) (P : List Nat) (base : Nat) (S : List Nat) : Bool := !decide (base ∈ S) && (S.all fun a => decide (a ∈ P)) && canV ds r load S
/-- what the law finds behind the codes from 1 to i -/
def resF (ds : List Du) (r : Nat) (load : List Int) (P : List Nat) (base : Nat) : Nat → List Nat
  | 0 => []
  | i + 1 => if okSet ds r load P base (chosenL (i + 1) r) = true then resF ds r load P base i ++ (chosenL (i + 1) r).filter (fun a => !decide (a ∈ resF ds r load P base i)) else resF ds r load P base i
theorem resF_nd {P : List Nat} : ∀ i, (resF ds r load P base i).Nodup
  | 0 => by simp [resF]
  | i + 1 => by
    unfold resF
    split
    · rw [List.nodup_append]
      refine ⟨resF_nd i, List.Pairwise.filter _ (List.Pairwise.filter _ List.nodup_range), fun a ha b hb => ?_⟩
      have := (List.mem_filter.mp hb).2
      simp at this
      exact fun z => this (z ▸ ha)
    · exact resF_nd i
theorem resF_sub {P : List Nat} {x : Nat} : ∀ {i}, x ∈ resF ds r load P base i → ∃ S, okSet ds r load P base S = true ∧ x ∈ S
  | 0, h => by simp [resF] at h
  | i + 1, h => by
    unfold resF at h
    split at h
    · rename_i hk
      rcases List.mem_append.mp h with q | q
      · exact resF_sub q
      · exact ⟨_, hk, (List.mem_filter.mp q).1⟩
    · exact resF_sub h
theorem resF_in {P : List Nat} {x c : Nat} (hc : okSet ds r load P base (chosenL c r) = true) (h1 : 1 ≤ c) (hx : x ∈ chosenL c r) : ∀ i, c ≤ i → x ∈ resF ds r load P base i
  | 0, h => by omega
  | i + 1, h => by
    unfold resF
    by_cases e : c = i + 1
    · subst e
      rw [if_pos hc]
      by_cases z : x ∈ resF ds r load P base i
      · exact List.mem_append_left _ z
      · exact List.mem_append_right _ (List.mem_filter.mpr ⟨hx, by simp [z]⟩)
    · have := resF_in hc h1 hx i (by omega)
      split
      · exact List.mem_append_left _ this
      · exact this
theorem resF_all (hd : ∀ d ∈ ds, DuOk r m d) (hb : base < r) (hr : (pieceOf (AdjW ds) r base).length ≤ r) (x : Nat) : x ∈ resF ds r load (pieceOf (AdjW ds) r base) base (2 ^ r - 1) ↔ x ∈ leftP (pieceOf (AdjW ds) r base) (ordN ds load (pieceOf (AdjW ds) r base) base r) := by
  have hbP : base ∈ pieceOf (AdjW ds) r base := pieceOf_mem.mpr ⟨hb, .refl⟩
  have hPr : ∀ x ∈ pieceOf (AdjW ds) r base, x < r := fun x hx => (pieceOf_mem.mp hx).1
  have hcan := left_can (load := load) hd hb hr
  have hbO : base ∈ ordN ds load (pieceOf (AdjW ds) r base) base r := by
    have : ∀ k, base ∈ ordN ds load (pieceOf (AdjW ds) r base) base k := fun k => by
      induction k with
      | zero => simp [ordN]
      | succ k ih =>
        show base ∈ next ds load _ _
        unfold next
        split
        · exact ih
        · exact List.mem_append_left _ ih
    exact this r
  generalize pieceOf (AdjW ds) r base = P at *
  constructor
  · intro h
    obtain ⟨S, hS, hx⟩ := resF_sub h
    simp only [okSet, Bool.and_eq_true, Bool.not_eq_true', decide_eq_false_iff_not, List.all_eq_true, decide_eq_true_eq] at hS
    refine left_mem.mpr ⟨hS.1.2 x hx, fun z => ?_⟩
    exact can_left hd hPr hbP hS.1.1 hS.2 r x z hx
  · intro h
    obtain ⟨c, h1, h2⟩ := exists_code r fun a => decide (a ∈ leftP P (ordN ds load P base r))
    have hL : ∀ a ∈ leftP P (ordN ds load P base r), a < r := fun a ha => hPr a (left_mem.mp ha).1
    have hm : ∀ a, a ∈ chosenL c r ↔ a ∈ leftP P (ordN ds load P base r) := fun a => by
      rw [chosenL_mem]
      constructor
      · rintro ⟨q1, q2⟩
        simpa using (h2 a q1).mp q2
      · intro q
        exact ⟨hL a q, (h2 a (hL a q)).mpr (by simpa using q)⟩
    have hx : x ∈ chosenL c r := (hm x).mpr h
    have hc1 : 1 ≤ c := by
      rcases Nat.eq_zero_or_pos c with z | z
      · subst z
        have := (chosenL_mem.mp hx).2
        simp at this
      · exact z
    refine resF_in ?_ hc1 hx _ (by omega)
    simp only [okSet, Bool.and_eq_true, Bool.not_eq_true', decide_eq_false_iff_not, List.all_eq_true, decide_eq_true_eq]
    refine ⟨⟨fun z => (left_mem.mp ((hm base).mp z)).2 hbO, fun a ha => (left_mem.mp ((hm a).mp ha)).1⟩, ?_⟩
    unfold canV at hcan ⊢
    rw [List.all_eq_true] at hcan ⊢
    intro a ha
    have e := hcan a ((hm a).mp ha)
    have eo : outS ds r (chosenL c r) a = outS ds r (leftP P (ordN ds load P base r)) a := by
      rw [outS_eq, outS_eq]
      refine sumR_congr fun b _ => ?_
      simp only [hm b]
    rw [eo]; exact e
end
end Bn

set_option Elab.async false
set_option linter.all false
set_option maxRecDepth 100000
set_option maxHeartbeats 4000000
/-! sets by codes, reduced loads: the mirrors -/
namespace Bn
open PySem L2 Mi
def pw6 : List Int := [1, 2, 4, 8, 16, 32]
theorem pw6_at (a : Nat) (ha : a < 6) : nth pw6 a = ((2 ^ a : Nat) : Int) := by
  have : a = 0 ∨ a = 1 ∨ a = 2 ∨ a = 3 ∨ a = 4 ∨ a = 5 := by omega
  rcases this with rfl | rfl | rfl | rfl | rfl | rfl <;> rfl
theorem lawChosen_ok (c r : Nat) (hr : r ≤ 6) (hc : c ≤ 1000000) : m_law_chosen [.int c, .int r] = .ret (.l (natD (chosenL c r))) := by
  refine runF_of (n := 2) (k := 1) (body := b_law_chosen) rfl ?_
  have hs : ∀ sl cs, noPl cs = true → mV (mLst false (mCons (mC (.int 1)) (mCons (mC (.int 2)) (mCons (mC (.int 4)) (mCons (mC (.int 8)) (mCons (mC (.int 16)) (mCons (mC (.int 32)) mNil))))))) sl cs = .ok (.c (.lst (pw6.map .int))) cs := fun sl cs h => mV_new (by simp [pw6]) (okCs_of h)
  have e := lc_ok (mi := mRng rng1 (mCons (mVar 1) mNil)) (s := .rng 0 r) (g := gN 2) (tt := (mTst (mOp2 (opEq false) (mOp2 opMod (mOpN cInt (mCons (mOp2 opDiv (mVar 0) (mOp2 opItem (mV (mLst false (mCons (mC (.int 1)) (mCons (mC (.int 2)) (mCons (mC (.int 4)) (mCons (mC (.int 8)) (mCons (mC (.int 16)) (mCons (mC (.int 32)) mNil)))))))) (mVar 2))) mNil)) (mC (.int 2))) (mC (.int 1))))) (te := mVar 2) (vs := [2]) (sl := [some (.c (.int (c : Int))), some (.c (.int (r : Int))), none]) (cs := []) (List.range r) (fun a => .c (.int (a : Int))) (fun a => decide (c / 2 ^ a % 2 = 1)) (fun a => .int (a : Int)) (rng1_nat (by simp) (by omega)) (by simp [Src.itms]) rfl (by simp; omega) (fun a ha cs' hn => ⟨_, rfl, by
      have ha' : a < r := List.mem_range.mp ha
      have hp : (0 : Nat) < 2 ^ a := Nat.pow_pos (by omega)
      have e0 := pw6_at a (by omega)
      have e1 : atI (pw6.map Dt.int) (a : Int) = some (.int ((2 ^ a : Nat) : Int)) := by
        rw [atI_ints (show a < pw6.length by simp [pw6]; omega), e0]
      have e2 : opDiv (.c (.int (c : Int))) (.c (.int ((2 ^ a : Nat) : Int))) cs' = some (.c (.int ((c / 2 ^ a : Nat) : Int)), cs') := by
        have hp2 : (2 : Nat) ^ a < 2 ^ 64 := Nat.pow_lt_pow_right (by omega) (by omega)
        rw [opDiv_int (by omega) (by omega)]
        rw [Int.natCast_ediv]
      have e3 : opMod (.c (.int ((c / 2 ^ a : Nat) : Int))) (.c (.int 2)) cs' = some (.c (.int ((c / 2 ^ a % 2 : Nat) : Int)), cs') := by
        rw [opMod_int (by omega)]
        rw [Int.natCast_emod]
        rfl
      have e4 : (((c / 2 ^ a % 2 : Nat) : Int) = 1) ↔ c / 2 ^ a % 2 = 1 := by omega
      rw [mTst_ap, mOp2_ap, mOp2_ap]
      simp only [mOpN_ap, mCons_ap, mOp2_ap, wipeS, List.set_cons_succ, List.set_cons_zero, mVar_ap, List.getElem?_cons_succ, List.getElem?_cons_zero, Res.bind_ok, hs _ cs' hn, opItem_c, e1, Option.map_some, up_some, e2, mNil_ap, cInt_int, mC_ap, e3, opEq_int, isB_bl, Bool.false_eq_true, if_false, e4], fun _ => by simp [wipeS]⟩)
  unfold b_law_chosen
  rw [mRet_ap]
  simp only [List.map_cons, List.map_nil, List.cons_append, List.nil_append, List.replicate]
  rw [e]
  exact .mk rfl
theorem is_reduced_ok (t : Bool) (r base : Nat) (ds : List Du) (m : Int) (load : List Int) (hr : 1 ≤ r) (hr2 : r ≤ 8) (hb : base < r) (hd : ∀ d ∈ ds, DuOk r m d) (hl : load.length = r) (hx : ∀ x ∈ load, -200 ≤ x ∧ x ≤ 200) (ht : t = false) :
    m_is_reduced [bldD r ds, .int base, sqD t (load.map .int)] = .ret (.c (.bl (decide (∀ a ∈ pieceOf (AdjW ds) r base, a ≠ base → 0 ≤ nth load a) && decide (leftP (pieceOf (AdjW ds) r base) (ordN ds load (pieceOf (AdjW ds) r base) base r) = [])))) := by
  subst ht
  refine runF_of (n := 3) (k := 5) (body := b_is_reduced) rfl ?_
  have e1 := requireB_ok r ds
  have e2 := requireR_ok r base ds "base" hb
  have e3 := requireL_ok false r ds load "load" hl hx
  have e5 := joined_ok r base ds m hr (by omega) hb hd
  have hpl : (pieceOf (AdjW ds) r base).length ≤ r := by
    have := List.length_filter_le (fun b => @decide (Rch (AdjW ds) base b) (Classical.propDecidable _)) (List.range r)
    simpa [pieceOf] using this
  have hpr : ∀ x ∈ pieceOf (AdjW ds) r base, x < r := fun x hx => (pieceOf_mem.mp hx).1
  have e6 := fire_ok r ds load (pieceOf (AdjW ds) r base) base (by omega) hpr hpl (pieceOf_mem.mpr ⟨hb, .refl⟩) hl
  have e7 := fun sl => widthRows_ap r ds sl [] rfl
  generalize pieceOf (AdjW ds) r base = P at *
  have v := vlc_ok (mi := mSeqI (mVar 4)) (s := .seq (.c (.tup (natD P)))) (g := gN 7) (tt := mTst (mOp2 (opEq true) (mVar 7) (mVar 1))) (te := mOp2 opItem (mVar 2) (mVar 7)) (vs := [7]) (sl := [some (.c (bldD r ds)), some (.c (.int (base : Int))), some (.c (.lst (load.map .int))), some (.c (.tup (tabT (tabW r ds)))), some (.c (.tup (natD P))), none, none, none]) (cs := []) P (fun a => .c (.int (a : Int))) (fun a => !decide (a = base)) (fun a => .int (nth load a)) rfl (by simp [Src.itms, natD, Function.comp_def]) rfl (by omega) (fun a ha cs' hn => ⟨_, rfl, by
      have z : ((a : Int) = base) ↔ a = base := by omega
      simp [wipeS, z], fun _ => by
      have := atI_ints (xs := load) (a := a) (by rw [hl]; exact hpr a ha)
      simp [wipeS, this]⟩)
  have mp : (P.filter fun a => !decide (a = base)).map (fun a => Dt.int (nth load a)) = ((P.filter fun a => !decide (a = base)).map (nth load)).map .int := by rw [List.map_map]; rfl
  rw [mp] at v
  have e8 := noShort_ok false ((P.filter fun a => !decide (a = base)).map (nth load))
  simp only [sqD_f] at e8 e3 ⊢
  have hsound : (((P.filter fun a => !decide (a = base)).map (nth load)).all fun x => decide (0 ≤ x)) = decide (∀ a ∈ P, a ≠ base → 0 ≤ nth load a) := by
    rw [Bool.eq_iff_iff]
    simp
    exact ⟨fun h a ha hne => (h a ha).resolve_left hne, fun h x hx => by
      by_cases z : x = base
      · exact .inl z
      · exact .inr (h x hx z)⟩
  rw [hsound, List.map_map] at e8
  unfold b_is_reduced
  simp only [List.map_cons, List.map_nil, List.cons_append, List.nil_append, List.replicate]
  rw [wp_seq]
  simp [e1]
  simp [e2]
  simp [e3]
  simp [e7, e5]
  rw [v]
  by_cases hso : ∀ a ∈ P, ¬a = base → 0 ≤ nth load a
  · have hd1 : decide (∀ a ∈ P, a ≠ base → 0 ≤ nth load a) = true := decide_eq_true hso
    rw [hd1] at e8 ⊢
    simp [e8, e6, natD_len]
  · have hd1 : decide (∀ a ∈ P, a ≠ base → 0 ≤ nth load a) = false := decide_eq_false hso
    rw [hd1] at e8 ⊢
    simp [e8]
end Bn

set_option Elab.async false
set_option linter.all false
set_option maxRecDepth 100000
set_option maxHeartbeats 4000000
/-! spills: what vents lead to, in whatever sequence -/
namespace Bn
open PySem L2 Mi
theorem piece_keeps {r : Nat} {ds : List Du} {m : Int} {P : List Nat} (hd : ∀ d ∈ ds, DuOk r m d) (hc : ∀ a ∈ P, ∀ b, AdjW ds a b → b ∈ P) : ∀ d ∈ ds, d.1 < r ∧ d.2.1 < r ∧ d.1 ≠ d.2.1 ∧ (d.1 ∈ P ↔ d.2.1 ∈ P) := by
  intro d hdm
  obtain ⟨h1, h2, h3, h4, h5⟩ := hd d hdm
  have hw : 0 < wid ds d.1 d.2.1 := by
    clear h1 h2 h3 h5 hc
    induction ds with
    | nil => simp at hdm
    | cons e es ih =>
      have hn := wid_nonneg (ds := es) (a := d.1) (b := d.2.1) fun x hx => hd x (by simp [hx])
      unfold wid
      rcases List.mem_cons.mp hdm with rfl | hm
      · rw [if_pos (.inl ⟨rfl, rfl⟩)]; omega
      · have := ih (fun x hx => hd x (by simp [hx])) hm
        have h0 := (hd e (by simp)).2.2.2.1
        split <;> omega
  exact ⟨h1, h2, h3, fun q => hc _ q _ hw, fun q => hc _ q _ (AdjW.symm _ _ hw)⟩
theorem sumR_neg {f : Nat → Int} : ∀ {n : Nat}, sumR n (fun c => - f c) = - sumR n f
  | 0 => by simp [sumR]
  | n + 1 => by rw [sumR_succ, sumR_succ, sumR_neg]; omega
theorem sumR_swap {f : Nat → Nat → Int} {m : Nat} : ∀ {n : Nat}, sumR n (fun a => sumR m fun b => f a b) = sumR m fun b => sumR n fun a => f a b
  | 0 => by
    rw [sumR_zeros (f := fun b => sumR 0 fun a => f a b) (fun b _ => by simp [sumR])]
    simp [sumR]
  | n + 1 => by
    rw [sumR_succ, sumR_swap, ← sumR_add]
    exact sumR_congr fun b _ => sumR_succ.symm
theorem sumR_one {f : Nat → Int} {k : Nat} : ∀ {n : Nat}, (∀ b, b < n → f b ≤ 0) → k < n → sumR n f ≤ f k
  | 0, _, h => by omega
  | n + 1, hf, h => by
    rw [sumR_succ]
    by_cases e : k = n
    · subst e
      have := sumR_le2 (n := k) (f := f) (g := fun _ => 0) fun b hb => hf b (by omega)
      rw [sumR_zeros (f := fun _ => 0) (fun _ _ => rfl)] at this
      omega
    · have := sumR_one (k := k) (n := n) (fun b hb => hf b (by omega)) (by omega)
      have := hf n (by omega)
      omega
structure Pc (ds : List Du) (r : Nat) (m : Int) (P : List Nat) : Prop where
  hd : ∀ d ∈ ds, DuOk r m d
  lt : ∀ x ∈ P, x < r
  nd : P.Nodup
  cl : ∀ a ∈ P, ∀ b, AdjW ds a b → b ∈ P
  cn : ∀ a ∈ P, ∀ b ∈ P, Rch (AdjW ds) a b
  ne : P ≠ []
theorem pc_of {ds : List Du} {r a : Nat} {m : Int} (hd : ∀ d ∈ ds, DuOk r m d) (ha : a < r) : Pc ds r m (pieceOf (AdjW ds) r a) := by
  refine ⟨hd, fun x hx => (pieceOf_mem.mp hx).1, pieceOf_sorted.imp fun z => by omega, fun x hx b hab => ?_, fun x hx b hb => ?_, fun z => ?_⟩
  · exact pieceOf_mem.mpr ⟨(wid_lt hd hab).2.1, (pieceOf_mem.mp hx).2.step hab⟩
  · exact ((pieceOf_mem.mp hx).2.symm AdjW.symm).trans (pieceOf_mem.mp hb).2
  · have : a ∈ pieceOf (AdjW ds) r a := pieceOf_mem.mpr ⟨ha, .refl⟩
    rw [z] at this; cases this
section
variable {ds : List Du} {r : Nat} {m : Int} {P : List Nat} {load : List Int}
def incK (x : List Int) (a : Nat) (k : Int) : List Int := x.set a (nth x a + k)
theorem incK_len {x : List Int} {a : Nat} {k : Int} : (incK x a k).length = x.length := by simp [incK]
theorem incK_nth {x : List Int} {a b : Nat} {k : Int} (ha : a < x.length) : nth (incK x a k) b = nth x b + if b = a then k else 0 := by
  unfold incK
  rw [nth_set ha]
  by_cases e : b = a
  · subst e; simp
  · simp [e]
theorem lost_incK {x : List Int} {a b : Nat} {k : Int} (hd : ∀ d ∈ ds, DuOk r m d) (hl : x.length = r) (ha : a < r) (hb : b < r) : lost ds (incK x a k) r b = lost ds x r b + if b = a then k * spr ds r a else -(k * wid ds a b) := by
  rw [← lost_unit hd ha hb]
  unfold lost
  rw [← sumR_add]
  refine sumR_congr fun c hc => ?_
  rw [incK_nth (by omega), incK_nth (by omega), unitL_nth hb, unitL_nth hc, ← Int.mul_add]
  congr 1
  omega
theorem shL_incK {x : List Int} {a : Nat} {k : Int} (hd : ∀ d ∈ ds, DuOk r m d) (hl : x.length = r) (ha : a < r) : shL ds load (incK x a k) r = giveL ds (shL ds load x r) a k r := by
  refine list_ext (by rw [shL_len, giveL_len]) fun b hb => ?_
  rw [shL_len] at hb
  rw [shL_nth hb, giveL_nth hb, shL_nth hb, lost_incK hd hl ha hb]
  by_cases e : b = a
  · subst e
    rw [if_pos rfl, if_pos rfl, wid_self hd]; omega
  · rw [if_neg e, if_neg e]; omega
/-- legal vents, one by one, from a load -/
inductive Leg (ds : List Du) (r : Nat) (P : List Nat) (load : List Int) : List Int → Prop where
  | zero : Leg ds r P load (List.replicate r 0)
  | step {x : List Int} {a : Nat} (h : Leg ds r P load x) (ha : a ∈ P) (hf : isFull ds r (shL ds load x r) a = true) : Leg ds r P load (incK x a 1)
theorem nth_rep {k b : Nat} : nth (List.replicate k (0 : Int)) b = 0 := by
  by_cases h : b < k
  · rw [nth_get (by simpa using h)]; simp
  · unfold nth
    simp [h]
theorem Leg.len {x : List Int} (h : Leg ds r P load x) : x.length = r := by
  induction h with
  | zero => simp
  | step _ _ _ ih => rw [incK_len, ih]
theorem Leg.nn (hP : ∀ x ∈ P, x < r) {x : List Int} (h : Leg ds r P load x) : ∀ b, 0 ≤ nth x b ∧ (b ∉ P → nth x b = 0) := by
  induction h with
  | zero => intro b; rw [nth_rep]; exact ⟨by omega, fun _ => rfl⟩
  | step h ha hf ih =>
    intro b
    have hl := h.len
    have := hP _ ha
    rw [incK_nth (by omega)]
    have := ih b
    refine ⟨by split <;> omega, fun hb => ?_⟩
    rw [if_neg (fun z => hb (by rw [z]; exact ha)), this.2 hb]; rfl
def stable (ds : List Du) (r : Nat) (P : List Nat) (h : List Int) : Prop := ∀ a ∈ P, isFull ds r h a = false
theorem lost_mono {x y : List Int} {a : Nat} (hd : ∀ d ∈ ds, DuOk r m d) (e : nth x a = nth y a) (h : ∀ b, nth x b ≤ nth y b) : lost ds y r a ≤ lost ds x r a := by
  unfold lost
  refine sumR_le2 fun b _ => ?_
  exact Int.mul_le_mul_of_nonneg_left (by have := h b; omega) (wid_nonneg hd)
/-- legal vents are never more than vents that lead to a calm piece -/
theorem least (hp : Pc ds r m P) {x y : List Int} (h : Leg ds r P load x) (hy : ∀ b, 0 ≤ nth y b) (hs : stable ds r P (shL ds load y r)) : ∀ b, nth x b ≤ nth y b := by
  induction h with
  | zero => intro b; rw [nth_rep]; exact hy b
  | step h ha hf ih =>
    rename_i x a
    intro b
    have hl := h.len
    have har := hp.lt _ ha
    rw [incK_nth (by omega)]
    by_cases e : b = a
    · subst e
      rw [if_pos rfl]
      have h1 := ih b
      by_cases z : nth x b = nth y b
      · have hm := lost_mono (r := r) hp.hd z ih
        have h2 := hs b ha
        unfold isFull at hf h2
        rw [shL_nth har] at hf h2
        simp only [Bool.and_eq_true, decide_eq_true_eq] at hf
        simp only [Bool.and_eq_false_imp, decide_eq_true_eq, decide_eq_false_iff_not] at h2
        have := h2 hf.1
        omega
      · omega
    · rw [if_neg e]
      have := ih b
      omega
/-- where all have vented there is no end -/
theorem endless (hp : Pc ds r m P) {x : List Int} (h : Leg ds r P load x) (hall : ∀ a ∈ P, 1 ≤ nth x a) : ∀ (n : Nat) (y : List Int), y.length = r → (∀ b, 0 ≤ nth y b) → stable ds r P (shL ds load y r) → ∀ a ∈ P, nth y a = (n : Int) → False := by
  intro n
  induction n with
  | zero =>
    intro y hl hy hs a ha e
    have h1 := least hp h hy hs a
    have h2 := hall a ha
    omega
  | succ n ih =>
    intro y hl hy hs a ha e
    have h1 := least hp h hy hs
    obtain ⟨z, hz⟩ : ∃ z : List Int, z = (List.range r).map fun b => nth y b - if b ∈ P then 1 else 0 := ⟨_, rfl⟩
    have hzl : z.length = r := by rw [hz]; simp
    have hzn : ∀ b, b < r → nth z b = nth y b - if b ∈ P then 1 else 0 := fun b hb => by
      rw [hz, nth_get (by simpa using hb)]
      simp
    have hzo : ∀ b, ¬ b < r → nth z b = 0 := fun b hb => by
      unfold nth
      have : z.length ≤ b := by omega
      rw [List.getD_eq_getElem?_getD, List.getElem?_eq_none this]; rfl
    refine ih z hzl (fun b => ?_) (fun c hc => ?_) a ha ?_
    · by_cases hb : b < r
      · rw [hzn b hb]
        by_cases hbP : b ∈ P
        · rw [if_pos hbP]
          have := h1 b; have := hall b hbP
          omega
        · rw [if_neg hbP]
          have := hy b
          omega
      · rw [hzo b hb]; omega
    · have hcr := hp.lt c hc
      have he : nth (shL ds load z r) c = nth (shL ds load y r) c := by
        rw [shL_nth hcr, shL_nth hcr]
        congr 1
        unfold lost
        refine sumR_congr fun b hb => ?_
        rw [hzn c hcr, hzn b hb, if_pos hc]
        by_cases hbP : b ∈ P
        · rw [if_pos hbP]
          congr 1
          omega
        · have : wid ds c b = 0 := by
            have h0 := wid_nonneg (a := c) (b := b) hp.hd
            by_cases z : 0 < wid ds c b
            · exact absurd (hp.cl c hc b z) hbP
            · omega
          rw [this]; simp
      have := hs c hc
      unfold isFull at this ⊢
      rw [he]; exact this
    · rw [hzn a (hp.lt a ha), if_pos ha, e]
      omega
/-- what a drawn run of a piece tells -/
inductive Verd (ds : List Du) (r : Nat) (P : List Nat) (load : List Int) : Option (List Int) → Prop where
  | calm {x : List Int} (h : Leg ds r P load x) (hs : stable ds r P (shL ds load x r)) : Verd ds r P load (some x)
  | never {x : List Int} (h : Leg ds r P load x) (hall : ∀ a ∈ P, 1 ≤ nth x a) : Verd ds r P load none
theorem verd_uniq (hp : Pc ds r m P) {o o' : Option (List Int)} (h : Verd ds r P load o) (h' : Verd ds r P load o') : o = o' := by
  have key : ∀ {x y : List Int}, Leg ds r P load x → stable ds r P (shL ds load x r) → Leg ds r P load y → (∀ a ∈ P, 1 ≤ nth y a) → False := by
    intro x y hx hs hy hall
    obtain ⟨a, ha⟩ := List.exists_mem_of_ne_nil P hp.ne
    have h0 := (hx.nn hp.lt a).1
    exact endless hp hy hall (nth x a).toNat x hx.len (fun b => (hx.nn hp.lt b).1) hs a ha (by omega)
  cases h with
  | calm hx hs =>
    cases h' with
    | calm hy hs' =>
      rename_i x y
      have h1 := least hp hx (fun b => (hy.nn hp.lt b).1) hs'
      have h2 := least hp hy (fun b => (hx.nn hp.lt b).1) hs
      congr 1
      refine list_ext (by rw [hx.len, hy.len]) fun b _ => ?_
      have := h1 b; have := h2 b
      omega
    | never hy hall => exact (key hx hs hy hall).elim
  | never hx hall =>
    cases h' with
    | calm hy hs' => exact (key hy hs' hx hall).elim
    | never _ _ => rfl
/-! ### how many vents there can be before all have vented -/
theorem Leg.low (hp : Pc ds r m P) {lo : Int} (h0 : 0 ≤ lo) (hll : load.length = r) (hlo : ∀ b, b < r → -lo ≤ nth load b) {x : List Int} (h : Leg ds r P load x) : ∀ b, b < r → -lo ≤ nth (shL ds load x r) b := by
  induction h with
  | zero =>
    intro b hb
    rw [shL_nth hb]
    have : lost ds (List.replicate r 0) r b = 0 := by
      unfold lost
      exact sumR_zeros fun c _ => by rw [nth_rep, nth_rep]; simp
    have := hlo b hb
    omega
  | step h ha hf ih =>
    rename_i x a
    intro b hb
    have har := hp.lt _ ha
    rw [shL_incK hp.hd h.len har, giveL_nth hb]
    have h1 := ih b hb
    have h2 := wid_nonneg (a := a) (b := b) hp.hd
    by_cases e : b = a
    · subst e
      unfold isFull at hf
      simp only [Bool.and_eq_true, decide_eq_true_eq] at hf
      rw [if_pos rfl]
      omega
    · rw [if_neg e]
      omega
theorem flow {p : Nat → Bool} {x : List Int} : sumR r (fun a => if p a = true then lost ds x r a else 0) = sumR r fun a => if p a = true then sumR r (fun b => if p b = true then 0 else wid ds a b * (nth x a - nth x b)) else 0 := by
  obtain ⟨F, hF⟩ : ∃ F : Nat → Nat → Int, ∀ a b, F a b = if p a = true then (if p b = true then wid ds a b * (nth x a - nth x b) else 0) else 0 := ⟨_, fun _ _ => rfl⟩
  have anti : ∀ a b, F b a = - F a b := fun a b => by
    rw [hF, hF]
    cases p a <;> cases p b <;> simp
    rw [wid_sym, ← Int.mul_neg]
    congr 1
    omega
  have z : sumR r (fun a => sumR r fun b => F a b) = 0 := by
    have h1 := sumR_swap (f := F) (m := r) (n := r)
    have h2 : sumR r (fun b => sumR r fun a => F a b) = - sumR r (fun a => sumR r fun b => F a b) := by
      rw [← sumR_neg]
      refine sumR_congr fun b _ => ?_
      rw [← sumR_neg]
      exact sumR_congr fun a _ => anti b a
    omega
  have e : ∀ a, a < r → (if p a = true then lost ds x r a else 0) = (if p a = true then sumR r (fun b => if p b = true then 0 else wid ds a b * (nth x a - nth x b)) else 0) + sumR r fun b => F a b := fun a _ => by
    cases hpa : p a with
    | false =>
      rw [sumR_zeros (f := fun b => F a b) fun b _ => by rw [hF]; simp [hpa]]
      simp
    | true =>
      simp only [if_true]
      unfold lost
      rw [← sumR_add]
      refine sumR_congr fun b _ => ?_
      rw [hF, hpa]
      cases p b <;> simp
  rw [sumR_congr e, sumR_add, z]
  omega
theorem crossing {G : Nat → Nat → Prop} {A : Nat → Prop} {v b : Nat} (h : Rch G v b) (hv : A v) (hb : ¬ A b) : ∃ a c, A a ∧ ¬ A c ∧ G a c ∧ Rch G v a := by
  induction h with
  | refl => exact absurd hv hb
  | step h g ih =>
    rename_i c d
    by_cases e : A c
    · exact ⟨c, d, e, hb, g, h⟩
    · exact ih e
theorem level (hp : Pc ds r m P) {lo hi : Int} (h0 : 0 ≤ lo) (hhi : 0 ≤ hi) (hll : load.length = r) (hlo : ∀ b, b < r → -lo ≤ nth load b) (hup : ∀ b, b < r → nth load b ≤ hi) {x : List Int} (h : Leg ds r P load x) {c : Int} {a0 b0 : Nat} (ha : a0 ∈ P) (hb : b0 ∈ P) (hca : nth x a0 ≤ c) (hcb : c < nth x b0) (hab : AdjW ds a0 b0) : nth x b0 - nth x a0 ≤ r * (hi + lo) := by
  obtain ⟨p, hpp⟩ : ∃ p : Nat → Bool, ∀ b, p b = (decide (b ∈ P) && decide (nth x b ≤ c)) := ⟨_, fun _ => rfl⟩
  have hpa : p a0 = true := by rw [hpp]; simp [ha, hca]
  have har := hp.lt a0 ha
  have hbr := hp.lt b0 hb
  have hpb : p b0 = false := by rw [hpp]; have : ¬ nth x b0 ≤ c := by omega
                                simp [this]
  have inner : ∀ a, p a = true → ∀ b, (if p b = true then 0 else wid ds a b * (nth x a - nth x b)) ≤ 0 := fun a hpa b => by
    cases hpb : p b with
    | true => simp
    | false =>
      simp only [Bool.false_eq_true, if_false]
      rw [hpp] at hpa hpb
      simp only [Bool.and_eq_true, decide_eq_true_eq] at hpa
      by_cases hbP : b ∈ P
      · simp [hbP] at hpb
        exact Int.mul_nonpos_of_nonneg_of_nonpos (wid_nonneg hp.hd) (by omega)
      · have : wid ds a b = 0 := by
          have h0 := wid_nonneg (a := a) (b := b) hp.hd
          by_cases z : 0 < wid ds a b
          · exact absurd (hp.cl a hpa.1 b z) hbP
          · omega
        rw [this]; simp
  have hfl : sumR r (fun a => if p a = true then lost ds x r a else 0) ≤ nth x a0 - nth x b0 := by
    rw [flow]
    refine Int.le_trans (sumR_one (k := a0) (fun a _ => ?_) har) ?_
    · cases hpa : p a with
      | false => simp
      | true =>
        simp only [if_true]
        have := sumR_le2 (n := r) (f := fun b => if p b = true then 0 else wid ds a b * (nth x a - nth x b)) (g := fun _ => 0) fun b _ => inner a hpa b
        rw [sumR_zeros (f := fun _ => 0) (fun _ _ => rfl)] at this
        exact this
    · rw [if_pos hpa]
      refine Int.le_trans (sumR_one (k := b0) (fun b _ => inner a0 hpa b) hbr) ?_
      rw [hpb]
      simp only [Bool.false_eq_true, if_false]
      have hw : 1 ≤ wid ds a0 b0 := hab
      have hneg : nth x a0 - nth x b0 ≤ 0 := by omega
      have := Int.mul_le_mul_of_nonpos_right hw hneg
      omega
  have hst := sum_stays (load := load) (s := x) (r := r) hp.nd hll ds (piece_keeps hp.hd hp.cl)
  rw [sum_nodup hp.nd hp.lt, sum_nodup hp.nd hp.lt] at hst
  have hlow := h.low hp h0 hll hlo
  -- the sums over the piece, split by the level
  have split : ∀ f : Nat → Int, sumR r (fun b => if b ∈ P then f b else 0) = sumR r (fun b => if p b = true then f b else 0) + sumR r (fun b => if b ∈ P ∧ p b = false then f b else 0) := fun f => by
    rw [← sumR_add]
    refine sumR_congr fun b _ => ?_
    by_cases hbP : b ∈ P
    · cases hpb : p b <;> simp [hbP]
    · have : p b = false := by rw [hpp]; simp [hbP]
      simp [hbP, this]
  have hA : sumR r (fun b => if p b = true then nth (shL ds load x r) b else 0) = sumR r (fun b => if p b = true then nth load b else 0) - sumR r (fun a => if p a = true then lost ds x r a else 0) := by
    have e : sumR r (fun b => if p b = true then nth (shL ds load x r) b else 0) + sumR r (fun a => if p a = true then lost ds x r a else 0) = sumR r (fun b => if p b = true then nth load b else 0) := by
      rw [← sumR_add]
      refine sumR_congr fun b hb => ?_
      rw [shL_nth hb]
      cases p b <;> simp
    omega
  have hq : sumR r (fun b => if b ∈ P ∧ p b = false then nth load b else 0) - sumR r (fun b => if b ∈ P ∧ p b = false then nth (shL ds load x r) b else 0) ≤ r * (hi + lo) := by
    have e : sumR r (fun b => if b ∈ P ∧ p b = false then nth load b else 0) ≤ sumR r (fun b => if b ∈ P ∧ p b = false then nth (shL ds load x r) b else 0) + sumR r fun _ => hi + lo := by
      rw [← sumR_add]
      refine sumR_le2 fun b hb => ?_
      have h1 := hlow b hb
      have h2 := hup b hb
      split <;> omega
    have e2 := sumR_le (n := r) (f := fun _ => hi + lo) (c := hi + lo) fun _ _ => Int.le_refl _
    omega
  rw [split, split] at hst
  omega
/-- the vents of each room are few as long as one has not vented -/
theorem few (hp : Pc ds r m P) {lo hi : Int} (h0 : 0 ≤ lo) (hhi : 0 ≤ hi) (hll : load.length = r) (hlo : ∀ b, b < r → -lo ≤ nth load b) (hup : ∀ b, b < r → nth load b ≤ hi) {x : List Int} (h : Leg ds r P load x) {v : Nat} (hv : v ∈ P) (hx : nth x v = 0) : ∀ b ∈ P, nth x b ≤ (r * (hi + lo)) * r := by
  obtain ⟨D, hD⟩ : ∃ D : Int, D = r * (hi + lo) := ⟨_, rfl⟩
  rw [← hD]
  have hD0 : 0 ≤ D := by rw [hD]; exact Int.mul_nonneg (by omega) (by omega)
  have key : ∀ k : Nat, (∀ b ∈ P, nth x b ≤ D * k) ∨ k + 1 ≤ (P.filter fun b => decide (nth x b ≤ D * k)).length := by
    intro k
    induction k with
    | zero =>
      right
      have : v ∈ P.filter fun b => decide (nth x b ≤ D * (0 : Nat)) := List.mem_filter.mpr ⟨hv, by simp [hx]⟩
      exact List.length_pos_of_mem this
    | succ k ih =>
      have hk : D * ((k + 1 : Nat) : Int) = D * k + D := by rw [Int.natCast_add, Int.mul_add]; simp
      have hDk : 0 ≤ D * (k : Int) := Int.mul_nonneg hD0 (by omega)
      by_cases hall : ∀ b ∈ P, nth x b ≤ D * k
      · exact .inl fun b hb => by have := hall b hb; omega
      · rcases ih with ih | ih
        · exact absurd ih hall
        · obtain ⟨b, hb, hbk⟩ : ∃ b ∈ P, ¬ nth x b ≤ D * k := Classical.byContradiction fun z => hall fun b hb => Classical.byContradiction fun y => z ⟨b, hb, y⟩
          obtain ⟨a, c, h1, h2, h3, h4⟩ := crossing (A := fun b => b ∈ P ∧ nth x b ≤ D * k) (hp.cn v hv b hb) ⟨hv, by rw [hx]; exact hDk⟩ (fun z => hbk z.2)
          have hcP : c ∈ P := hp.cl a h1.1 c h3
          have hck : D * k < nth x c := by
            by_cases z : nth x c ≤ D * k
            · exact absurd ⟨hcP, z⟩ h2
            · omega
          have hl := level hp h0 hhi hll hlo hup h h1.1 hcP h1.2 hck h3
          rw [← hD] at hl
          right
          have hsub := len_le_sub (S := c :: P.filter fun b => decide (nth x b ≤ D * k)) (T := P.filter fun b => decide (nth x b ≤ D * ((k + 1 : Nat) : Int))) (List.nodup_cons.mpr ⟨fun z => by
              have := (List.mem_filter.mp z).2
              simp at this
              omega, List.Pairwise.filter _ hp.nd⟩) (fun y hy => by
            rcases List.mem_cons.mp hy with rfl | q
            · exact List.mem_filter.mpr ⟨hcP, by have := h1.2; simp only [decide_eq_true_eq]; omega⟩
            · obtain ⟨q1, q2⟩ := List.mem_filter.mp q
              simp only [decide_eq_true_eq] at q2
              exact List.mem_filter.mpr ⟨q1, by simp only [decide_eq_true_eq]; omega⟩)
          simp only [List.length_cons] at hsub
          omega
  rcases key r with h | h
  · exact h
  · have h1 := List.length_filter_le (fun b => decide (nth x b ≤ D * r)) P
    have h2 := len_le_of_nodup hp.nd hp.lt
    omega
/-- the vents in all -/
def cnt (r : Nat) (x : List Int) : Int := sumR r (nth x)
theorem cnt_inc {x : List Int} {a : Nat} {k : Int} (ha : a < r) (hl : x.length = r) : cnt r (incK x a k) = cnt r x + k := by
  unfold cnt
  have : ∀ b, b < r → nth (incK x a k) b = nth x b + if b = a then k else 0 := fun b _ => incK_nth (by omega)
  rw [sumR_congr this, sumR_add]
  rw [sumR_pick (f := fun _ => k) ha]
theorem cnt_few (hp : Pc ds r m P) {lo hi : Int} (h0 : 0 ≤ lo) (hhi : 0 ≤ hi) (hll : load.length = r) (hlo : ∀ b, b < r → -lo ≤ nth load b) (hup : ∀ b, b < r → nth load b ≤ hi) {x : List Int} (h : Leg ds r P load x) {v : Nat} (hv : v ∈ P) (hx : nth x v = 0) : cnt r x ≤ r * ((r * (hi + lo)) * r) := by
  have hf := few hp h0 hhi hll hlo hup h hv hx
  unfold cnt
  refine sumR_le fun b hb => ?_
  by_cases hbP : b ∈ P
  · exact hf b hbP
  · rw [(h.nn hp.lt b).2 hbP]
    exact Int.mul_nonneg (Int.mul_nonneg (by omega) (by omega)) (by omega)
/-- k vents of a room that is full k times over -/
theorem Leg.times (hp : Pc ds r m P) {x : List Int} (h : Leg ds r P load x) {a : Nat} (ha : a ∈ P) (hs : 0 < spr ds r a) : ∀ k : Nat, (k : Int) * spr ds r a ≤ nth (shL ds load x r) a → Leg ds r P load (incK x a k)
  | 0, _ => by
    have : incK x a ((0 : Nat) : Int) = x := by
      have har := hp.lt a ha
      have hl := h.len
      refine list_ext incK_len fun b hb => ?_
      rw [incK_nth (by omega)]
      simp
    rw [this]; exact h
  | k + 1, hk => by
    have har := hp.lt a ha
    have hl := h.len
    have hk' : (k : Int) * spr ds r a + spr ds r a ≤ nth (shL ds load x r) a := by
      rw [Int.natCast_add, Int.add_mul] at hk
      simpa using hk
    have ih := Leg.times hp h ha hs k (by omega)
    have e : incK x a ((k + 1 : Nat) : Int) = incK (incK x a k) a 1 := by
      refine list_ext (by rw [incK_len, incK_len, incK_len]) fun b hb => ?_
      rw [incK_nth (by omega), incK_nth (by rw [incK_len]; omega), incK_nth (by omega)]
      split <;> omega
    rw [e]
    refine .step ih ha ?_
    rw [shL_incK hp.hd hl har]
    unfold isFull
    rw [giveL_nth har, if_pos rfl, wid_self hp.hd]
    simp only [Bool.and_eq_true, decide_eq_true_eq]
    omega
end
end Bn

set_option Elab.async false
set_option linter.all false
set_option maxRecDepth 100000
set_option maxHeartbeats 4000000
/-! runs of mirrors, by their form: lemmas that are applied, none that is rewritten with -/
namespace Mi
open PySem L2
section
variable {sl sl1 sl2 : Sl} {cs cs1 cs2 cs3 cs4 cs5 : Cs} {l l2 x y z o : Lv} {ls xs : List Lv} {d d1 d2 : Dt} {ds es : List Dt} {k k1 k2 : Bool} {a b e me mo mi mv : ME} {ma mr : MA} {t t1 t2 : MT} {s s1 s2 rest : MS} {P : Fl → Cs → Prop} {i j : Int}
theorem ev_var {n : Nat} (h : sl[n]? = some (some l)) : mVar n sl cs = .ok l cs := by rw [mVar_ap, h]
theorem ev_dnew : mDNew sl cs = .ok (.p cs.length) (cs ++ [.dic [] []]) := rfl
theorem ev_c : mC d sl cs = .ok (.c d) cs := rfl
theorem ev_op1 {m : Lv → Cs → Option (Lv × Cs)} (ha : a sl cs = .ok x cs1) (h : m x cs1 = some (l, cs2)) : mOp1 m a sl cs = .ok l cs2 := by rw [mOp1_ap, ha, Res.bind_ok, h]; rfl
theorem ev_op2 {m : Lv → Lv → Cs → Option (Lv × Cs)} (ha : a sl cs = .ok x cs1) (hb : b sl cs1 = .ok y cs2) (h : m x y cs2 = some (l, cs3)) : mOp2 m a b sl cs = .ok l cs3 := by rw [mOp2_ap, ha, Res.bind_ok, hb, Res.bind_ok, h]; rfl
theorem ev_opN {m : List Lv → Cs → Option (Lv × Cs)} (ha : ma sl cs = .ok ls cs1) (h : m ls cs1 = some (l, cs2)) : mOpN m ma sl cs = .ok l cs2 := by rw [mOpN_ap, ha, Res.bind_ok, h]; rfl
theorem ev_nil : mNil sl cs = .ok [] cs := rfl
theorem ev_cons (ha : a sl cs = .ok x cs1) (hr : mr sl cs1 = .ok xs cs2) : mCons a mr sl cs = .ok (x :: xs) cs2 := by rw [mCons_ap, ha, Res.bind_ok, hr]; rfl
theorem fz_nil : fzA cs [] = some ([], cs) := rfl
theorem fz_c (h : fzA cs ls = some (ds, cs1)) : fzA cs (.c d :: ls) = some (d :: ds, cs1) := by rw [fzA_cc, h]; rfl
theorem fz_p {n : Nat} (hn : cs[n]? = some (.lst es)) (h : fzA (cs.set n (.fz (.lst es))) ls = some (ds, cs1)) : fzA cs (.p n :: ls) = some (.lst es :: ds, cs1) := by
  unfold fzA
  rw [fzD_p, hn]
  simp only [h]
theorem fz_f {n : Nat} (hn : cs[n]? = some (.fz d)) (h : fzA cs ls = some (ds, cs1)) : fzA cs (.p n :: ls) = some (d :: ds, cs1) := by
  unfold fzA
  rw [fzD_p, hn]
  simp only [h]
theorem fz_d {n : Nat} {ks : List Key} (hn : cs[n]? = some (.dic ks es)) (h : fzA (cs.set n (.fz (.dic ks es))) ls = some (ds, cs1)) : fzA cs (.p n :: ls) = some (.dic ks es :: ds, cs1) := by
  unfold fzA
  rw [fzD_p, hn]
  simp only [h]
theorem ev_tup (ha : ma sl cs = .ok ls cs1) (hz : fzA cs1 ls = some (ds, cs2)) (hl : ds.length ≤ 16777216) : mTup ma sl cs = .ok (.c (.tup ds)) cs2 := by
  rw [mTup_ap, ha, Res.bind_ok, hz]
  simp only [szl, hl, if_true]
theorem ev_lst (ha : ma sl cs = .ok ls cs1) (hz : fzA cs1 ls = some (ds, cs2)) (hl : ds.length ≤ 16777216) : mLst false ma sl cs = .ok (.p cs2.length) (cs2 ++ [.lst ds]) := by
  rw [mLst_ap, ha, Res.bind_ok, hz]
  simp only [szl, hl, if_true]
inductive ClV : Cs → Lv → Cs → Dt → Prop where
  | c {cs : Cs} {d : Dt} : ClV cs (.c d) cs d
  | n {cs : Cs} {ds : List Dt} : ClV cs (.p cs.length) (cs ++ [.lst ds]) (.lst ds)
  | d {cs : Cs} {ks : List Key} {ds : List Dt} : ClV cs (.p cs.length) (cs ++ [.dic ks ds]) (.dic ks ds)
theorem ev_v (h : me sl cs = .ok l cs1) (hv : ClV cs l cs1 d) (hn : okCs cs.length cs = true) : mV me sl cs = .ok (.c d) cs := by
  cases hv with
  | c => exact mV_c h hn
  | n => exact mV_new h hn
  | d => exact mV_newD h hn
theorem ev_call {f : List Dt → Out} {r : Rv} (ha : ma sl cs = .ok ls cs1) (hz : fzA cs1 ls = some (ds, cs2)) (hf : f ds = .ret r) (ho : outR (.ret r) sl cs2 = .ok l cs3) : mCall f ma sl cs = .ok l cs3 := by
  rw [mCall_ap, ha, Res.bind_ok, hz]
  show outR (f ds) sl cs2 = _
  rw [hf, ho]
theorem ev_vcall {f : List Dt → Out} (ha : ma sl cs = .ok ls cs) (hz : fzA cs ls = some (ds, cs)) (hf : (f ds).val = some d) (hn : okCs cs.length cs = true) : mV (mCall f ma) sl cs = .ok (.c d) cs := by
  unfold mV mCall
  rw [ha]
  simp only [Res.bind_ok, hz]
  cases e : f ds with
  | bad => rw [e] at hf; cases hf
  | exc _ => rw [e] at hf; cases hf
  | ret r => cases r <;> rw [e] at hf <;> cases hf <;> simp [outR, hn]
theorem val_c {f : List Dt → Out} (h : f ds = .ret (.c d)) : (f ds).val = some d := by rw [h]; rfl
theorem val_l {f : List Dt → Out} (h : f ds = .ret (.l es)) : (f ds).val = some (.lst es) := by rw [h]; rfl
theorem val_d {f : List Dt → Out} {ks : List Key} (h : f ds = .ret (.d ks es)) : (f ds).val = some (.dic ks es) := by rw [h]; rfl
theorem out_c : outR (.ret (.c d)) sl cs = .ok (.c d) cs := rfl
theorem out_l : outR (.ret (.l ds)) sl cs = .ok (.p cs.length) (cs ++ [.lst ds]) := rfl
theorem out_d {ks : List Key} : outR (.ret (.d ks ds)) sl cs = .ok (.p cs.length) (cs ++ [.dic ks ds]) := rfl
theorem ev_meth {f : List Dt → Out} {r : Rv} {c : Nat} {m : Str} {ns : List Str} {vs : List Dt} (ho : mo sl cs = .ok o cs1) (hb : objOf cs1 o = some (c, ns, vs)) (hm : m ∉ ns) (ha : ma sl cs1 = .ok ls cs2) (hz : fzA cs2 (o :: ls) = some (ds, cs3)) (hf : f ds = .ret r) (hr : outR (.ret r) sl cs3 = .ok l cs4) : mMeth c m f mo ma sl cs = .ok l cs4 := by
  unfold mMeth
  rw [ho, Res.bind_ok]
  simp only [hb, hm, not_false_eq_true, and_self, if_true, ha, Res.bind_ok, hz, hf, hr]
theorem ev_methB {f : List Dt → Out} {r : Rv} {n : Nat} {m : Str} {es : List Du} (ho : mo sl cs = .ok (.c (bldD n es)) cs1) (hm : m ∉ (["rooms", "ducts", "_widths"] : List Str)) (ha : ma sl cs1 = .ok ls cs2) (hz : fzA cs2 ls = some (ds, cs3)) (hf : f (bldD n es :: ds) = .ret r) (hr : outR (.ret r) sl cs3 = .ok l cs4) : mMeth 0 m f mo ma sl cs = .ok l cs4 :=
  ev_meth ho rfl hm ha (fz_c hz) hf hr
theorem ev_make {f : List Dt → Out} {c : Nat} {ns : List Str} {vs : List Dt} (ha : ma sl cs = .ok ls cs1) (hz : fzA cs1 ls = some (ds, cs2)) (hf : f ds = .ret (.c (.obj c ns vs))) (hn : ns.Nodup) : mMake f ma sl cs = .ok (.c (.obj c ns vs)) cs2 := by
  unfold mMake
  rw [ha, Res.bind_ok]
  simp only [hz, hf, hn, if_true]
theorem ev_makeB {f : List Dt → Out} {n : Nat} {es : List Du} (ha : ma sl cs = .ok ls cs1) (hz : fzA cs1 ls = some (ds, cs2)) (hf : f ds = .ret (.c (bldD n es))) : mMake f ma sl cs = .ok (.c (bldD n es)) cs2 :=
  ev_make ha hz hf (by decide +kernel)
theorem ev_fld {c : Nat} {f : Str} {ns : List Str} (ha : a sl cs = .ok l cs1) (ho : objOf cs1 l = some (c, ns, ds)) (hl : lookD ns ds f = some d) : mFld c f a sl cs = .ok (.c d) cs1 := by
  unfold mFld
  rw [ha, Res.bind_ok]
  simp only [ho, hl, if_true]
theorem ev_rooms {r : Nat} {ds : List Du} (ha : a sl cs = .ok (.c (bldD r ds)) cs1) : mFld 0 "rooms" a sl cs = .ok (.c (.int r)) cs1 := ev_fld ha rfl (by simp [lookD])
theorem ev_ducts {r : Nat} {ds : List Du} (ha : a sl cs = .ok (.c (bldD r ds)) cs1) : mFld 0 "ducts" a sl cs = .ok (.c (.tup (ds.map duD))) cs1 := ev_fld ha rfl (by
  have n1 : ¬ (("ducts" : Str) = "rooms") := by decide +kernel
  simp [lookD, n1])
theorem ev_widths {r : Nat} {ds : List Du} (ha : a sl cs = .ok (.c (bldD r ds)) cs1) : mFld 0 "_widths" a sl cs = .ok (.c (.tup (tabT (tabW r ds)))) cs1 := ev_fld ha rfl (by
  have n1 : ¬ (("_widths" : Str) = "rooms") := by decide +kernel
  have n2 : ¬ (("_widths" : Str) = "ducts") := by decide +kernel
  simp [lookD, n1, n2])
/-! tests -/
theorem ev_tst (h : a sl cs = .ok (.c (.bl k)) cs1) : mTst a sl cs = .ok k cs1 := by rw [mTst_ap, h]; rfl
theorem ev_tru (h : a sl cs = .ok l cs1) (ht : truOf l cs1 = some (k, cs2)) : mTru a sl cs = .ok k cs2 := by rw [mTru_ap, h, Res.bind_ok, ht]; rfl
theorem ev_not (h : t sl cs = .ok k cs1) : mNot t sl cs = .ok (!k) cs1 := by rw [mNot_ap, h]; rfl
theorem ev_and (h : t1 sl cs = .ok k1 cs1) (h2 : k1 = true → t2 sl cs1 = .ok k2 cs1) : mAnd t1 t2 sl cs = .ok (k1 && k2) cs1 := by
  rw [mAnd_ap, h, Res.bind_ok]
  cases k1 with
  | true => rw [if_pos rfl, h2 rfl]; simp
  | false => rw [if_neg (by simp)]; simp
theorem ev_or (h : t1 sl cs = .ok k1 cs1) (h2 : k1 = false → t2 sl cs1 = .ok k2 cs1) : mOr t1 t2 sl cs = .ok (k1 || k2) cs1 := by
  rw [mOr_ap, h, Res.bind_ok]
  cases k1 with
  | true => rw [if_pos rfl]; simp
  | false => rw [if_neg (by simp), h2 rfl]; simp
theorem ev_andV (h : a sl cs = .ok (.c (.bl k1)) cs1) (h2 : k1 = true → b sl cs1 = .ok (.c (.bl k2)) cs1) : mAndV a b sl cs = .ok (.c (.bl (k1 && k2))) cs1 := by
  rw [mAndV_ap, h, Res.bind_ok]
  cases k1 with
  | true =>
    have := h2 rfl
    simp [this]
  | false => simp
theorem ev_orV (h : a sl cs = .ok (.c (.bl k1)) cs1) (h2 : k1 = false → b sl cs1 = .ok (.c (.bl k2)) cs1) : mOrV a b sl cs = .ok (.c (.bl (k1 || k2))) cs1 := by
  rw [mOrV_ap, h, Res.bind_ok]
  cases k1 with
  | true => simp
  | false =>
    have := h2 rfl
    simp [this]
theorem ev_notV (h : a sl cs = .ok (.c (.bl k)) cs1) : mNotV a sl cs = .ok (.c (.bl (!k))) cs1 := by rw [mNotV_ap, h]; rfl
theorem ev_ife (ht : t sl cs = .ok k cs1) (ha : k = true → a sl cs1 = .ok (.c d1) cs1) (hb : k = false → b sl cs1 = .ok (.c d2) cs1) : mIfE t a b sl cs = .ok (.c (if k = true then d1 else d2)) cs1 := by
  rw [mIfE_ap, ht, Res.bind_ok]
  cases k with
  | true => simp [ha rfl]
  | false => simp [hb rfl]
theorem ev_chain {m m' : Lv → Lv → Cs → Option (Lv × Cs)} (ha : a sl cs = .ok x cs1) (hb : b sl cs1 = .ok y cs2) (h : m x y cs2 = some (.c (.bl k1), cs3)) (hc : k1 = true → e sl cs3 = .ok z cs3) (h2 : k1 = true → m' y z cs3 = some (.c (.bl k2), cs3)) : mChain m m' a b e sl cs = .ok (.c (.bl (k1 && k2))) cs3 := by
  unfold mChain
  rw [ha, Res.bind_ok, hb, Res.bind_ok, h, up_some, Res.bind_ok]
  cases k1 with
  | true => simp [hc rfl, h2 rfl]
  | false => simp
/-! lists -/
theorem ev_app {kp : Bool} {n : Nat} (ho : mo sl cs = .ok (.p n) cs1) (ha : ma sl cs1 = .ok [.c d] cs2) (h1 : isLC cs1 n = true) (hn : cs2[n]? = some (.lst es)) (hs : es.length < 16777216) : mLM (lApp kp) mo ma sl cs = .ok (.c .non) (cs2.set n (.lst (es ++ [d]))) := by
  unfold mLM
  rw [ho, Res.bind_ok]
  have hs' : es.length < sizeLine := by rw [sizeLine_eq]; exact hs
  simp only [h1, if_true, ha, Res.bind_ok, lApp, push, hn, hs', Option.map_some, up_some]
theorem ev_callP {mk : List Bool} {f : PFn} {ns : List Nat} {ms ms' : List (List Dt)} (h1 : ma sl cs = .ok ls cs) (h2 : fzM mk cs ls = some (ds, ns, cs2)) (hn : ns.Nodup) (h3 : readL cs2 ns = some ms) (h4 : f ds ms = some (d, ms')) (h5 : ms'.length = ns.length) (h6 : setL cs2 ns ms' = cs3) : mCallP mk f ma sl cs = .ok (.c d) cs3 := h6 ▸ mCallP_ap h1 h2 hn h3 h4 h5
theorem ev_callB {mk : List Bool} {f : List Dt → Out} {ns : List Nat} {ms : List (List Dt)} {r : Rv} (h1 : ma sl cs = .ok ls cs) (h2 : fzM mk cs ls = some (ds, ns, cs2)) (h3 : readL cs2 ns = some ms) (h4 : f (weave mk ds ms) = .ret r) (h5 : noLR (.ret r) = true) (ho : outR (.ret r) sl cs2 = .ok l cs3) : mCallB mk f ma sl cs = .ok l cs3 := (mCallB_ap h1 h2 h3 h4 h5).trans ho
/-! statements -/
theorem st_asg {n : Nat} (h : e sl cs = .ok l cs1) (h2 : sl.set n (some l) = sl2) : mAsg e (gN n) sl cs = .ok (.nx sl2) cs1 := by rw [mAsg_ap, h, Res.bind_ok, gN_ap, h2]
theorem st_asgG {g : MG} (h : e sl cs = .ok l cs1) (h2 : g l sl cs1 = some (sl2, cs2)) : mAsg e g sl cs = .ok (.nx sl2) cs2 := by rw [mAsg_ap, h, Res.bind_ok, h2]
theorem st_drop (h : e sl cs = .ok l cs1) : mDrop e sl cs = .ok (.nx sl) cs1 := by rw [mDrop_ap, h]; rfl
theorem st_seti {n : Nat} (hv : mv sl cs = .ok (.c d) cs1) (ho : mo sl cs1 = .ok (.p n) cs2) (hi : mi sl cs2 = .ok (.c (.int i)) cs3) (h : setAt n i d cs3 = some cs4) : mSetI mo mi mv sl cs = .ok (.nx sl) cs4 := by
  unfold mSetI
  rw [hv, Res.bind_ok]
  have : fzD 4 cs1 (.c d) = some (d, cs1) := rfl
  simp only [this, ho, Res.bind_ok, hi, h]
theorem st_augi {f : Int → Int → Int} {n : Nat} {v w : Int} (ho : mo sl cs = .ok (.p n) cs1) (hi : mi sl cs1 = .ok (.c (.int i)) cs2) (hn : view cs2 (.p n) = some ls) (hg : atI ls i = some (.c (.int v))) (hv : mv sl cs2 = .ok (.c (.int w)) cs3) (h : setAt n i (.int (f v w)) cs3 = some cs4) : mAugI f mo mi mv sl cs = .ok (.nx sl) cs4 := by
  unfold mAugI
  rw [ho, Res.bind_ok]
  simp only [hi, Res.bind_ok, hn, hg, hv, h]
theorem st_aug {f : Int → Int → Int} {n : Nat} {v w : Int} (hn : sl[n]? = some (some (.c (.int v)))) (hv : mv sl cs = .ok (.c (.int w)) cs1) (h2 : sl.set n (some (.c (.int (f v w)))) = sl2) : mAug n f mv sl cs = .ok (.nx sl2) cs1 := by
  unfold mAug
  simp only [hn, hv, Res.bind_ok, h2]
theorem st_dput {n : Nat} {kk : Key} {ks : List Key} (hv : mv sl cs = .ok (.c d) cs1) (ho : mo sl cs1 = .ok (.p n) cs2) (hi : mi sl cs2 = .ok l cs3) (hk : keyOf l = some kk) (hn : cs3[n]? = some (.dic ks es)) (hl : ks.length < 16777216) : mDPut mo mi mv sl cs = .ok (.nx sl) (cs3.set n (.dic (putKD kk d ks es).1 (putKD kk d ks es).2)) := by
  unfold mDPut
  rw [hv, Res.bind_ok]
  have : fzD 4 cs1 (.c d) = some (d, cs1) := rfl
  have hl' : ks.length < sizeLine := by rw [sizeLine_eq]; exact hl
  simp only [this, ho, Res.bind_ok, hi, hk, hn, hl', if_true]
theorem sx_end {fl : Fl} (h : s sl cs = .ok fl cs1) (hc : cs1 = cs2) (k : P fl cs2) : Wp (s sl cs) P := by
  subst hc
  rw [h]
  exact .mk k
theorem sx_go (h : s sl cs = .ok (.nx sl1) cs1) (hc : cs1 = cs2) (k : Wp (rest sl1 cs2) P) : Wp (mSeq s rest sl cs) P := by
  subst hc
  rw [wp_seq, h]
  exact .mk k
theorem sx_if (h : t sl cs = .ok k cs1) (h1 : k = true → Wp (mSeq s1 rest sl cs1) P) (h2 : k = false → Wp (mSeq s2 rest sl cs1) P) : Wp (mSeq (mIf t s1 s2) rest sl cs) P := by
  rw [wp_seq, mIf_ap, h, Res.bind_ok]
  cases k with
  | true => rw [if_pos rfl]; exact wp_seq.mp (h1 rfl)
  | false => rw [if_neg (by simp)]; exact wp_seq.mp (h2 rfl)
theorem sx_ifE (h : t sl cs = .ok k cs1) (h1 : k = true → Wp (s1 sl cs1) P) (h2 : k = false → Wp (s2 sl cs1) P) : Wp (mIf t s1 s2 sl cs) P := by
  rw [mIf_ap, h, Res.bind_ok]
  cases k with
  | true => rw [if_pos rfl]; exact h1 rfl
  | false => rw [if_neg (by simp)]; exact h2 rfl
theorem sx_t (h : t sl cs = .ok true cs1) (h1 : Wp (mSeq s1 rest sl cs1) P) : Wp (mSeq (mIf t s1 s2) rest sl cs) P := sx_if h (fun _ => h1) (fun z => by cases z)
theorem sx_f (h : t sl cs = .ok false cs1) (h1 : Wp (mSeq s2 rest sl cs1) P) : Wp (mSeq (mIf t s1 s2) rest sl cs) P := sx_if h (fun z => by cases z) (fun _ => h1)
theorem sx_tE (h : t sl cs = .ok true cs1) (h1 : Wp (s1 sl cs1) P) : Wp (mIf t s1 s2 sl cs) P := sx_ifE h (fun _ => h1) (fun z => by cases z)
theorem sx_fE (h : t sl cs = .ok false cs1) (h1 : Wp (s2 sl cs1) P) : Wp (mIf t s1 s2 sl cs) P := sx_ifE h (fun z => by cases z) (fun _ => h1)
theorem sx_pass (k : Wp (rest sl cs) P) : Wp (mSeq mPass rest sl cs) P := sx_go (s := mPass) rfl rfl k
theorem sx_passE (k : P (.nx sl) cs) : Wp (mPass sl cs) P := .mk k
theorem sx_assoc (k : Wp (mSeq s1 (mSeq s2 rest) sl cs) P) : Wp (mSeq (mSeq s1 s2) rest sl cs) P := by
  rw [wp_seq] at k ⊢
  rw [wp_seq]
  refine k.mono fun fl cs h => ?_
  cases fl with
  | nx sl => exact wp_seq.mp h
  | rt v => exact h
  | bk sl => exact h
  | ct sl => exact h
theorem sx_ret (h : e sl cs = .ok l cs1) (k : P (.rt l) cs1) : Wp (mSeq (mRet e) rest sl cs) P := by
  rw [wp_seq, mRet_ap, h]
  exact .mk k
theorem sx_retE (h : e sl cs = .ok l cs1) (k : P (.rt l) cs1) : Wp (mRet e sl cs) P := by
  rw [mRet_ap, h]
  exact .mk k
theorem sx_brk (k : P (.bk sl) cs) : Wp (mSeq mBrk rest sl cs) P := by rw [wp_seq]; exact .mk k
theorem sx_brkE (k : P (.bk sl) cs) : Wp (mBrk sl cs) P := .mk k
theorem sx_cnt (k : P (.ct sl) cs) : Wp (mSeq mCnt rest sl cs) P := by rw [wp_seq]; exact .mk k
theorem sx_cntE (k : P (.ct sl) cs) : Wp (mCnt sl cs) P := .mk k
/-- a part whose ends are known -/
theorem sx_mono {Q : Fl → Cs → Prop} (h : Wp (s sl cs) Q) (hq : ∀ fl cs1, Q fl cs1 → match fl with
    | .nx sl1 => Wp (rest sl1 cs1) P
    | fl => P fl cs1) : Wp (mSeq s rest sl cs) P := wp_seq.mpr (h.mono hq)
end
/-! operations -/
section
variable {cs : Cs} {i j : Int} {n : Nat} {ds es : List Dt} {xs : List Int} {S : List Nat} {t : Bool}
theorem o_eq : opEq false (.c (.int i)) (.c (.int j)) cs = some (.c (.bl (decide (i = j))), cs) := opEq_int
theorem o_ne : opEq true (.c (.int i)) (.c (.int j)) cs = some (.c (.bl (!decide (i = j))), cs) := opEq_int
theorem o_il {d : Dt} (h : atI ds i = some d) : opItem (.c (.lst ds)) (.c (.int i)) cs = some (.c d, cs) := by rw [opItem_c, h]; rfl
theorem o_it {d : Dt} (h : atI ds i = some d) : opItem (.c (.tup ds)) (.c (.int i)) cs = some (.c d, cs) := by rw [opItem_t, h]; rfl
theorem o_is {d : Dt} (h : atI ds i = some d) : opItem (.c (sqD t ds)) (.c (.int i)) cs = some (.c d, cs) := by rw [sq_item, h]; rfl
theorem o_ip {d : Dt} (hn : cs[n]? = some (.lst ds)) (h : atI ds i = some d) : opItem (.p n) (.c (.int i)) cs = some (.c d, cs) := by rw [opItem_p hn, h]; rfl
theorem at_ints (h : n < xs.length) : atI (xs.map Dt.int) (n : Int) = some (.int (nth xs n)) := atI_mapN (f := Dt.int) rfl h
theorem at_natD (h : n < S.length) : atI (natD S) (n : Int) = some (.int ((nth S n : Nat) : Int)) := by
  unfold natD
  rw [atI_mapN (f := fun n : Nat => Dt.int (n : Int)) rfl h]
theorem at_tabD {r : Nat} {es : List Du} (h : n < r) : atI (tabD (tabW r es)) (n : Int) = some (.lst ((rowW r es n).map .int)) := by
  unfold tabD
  rw [atI_mapN rfl (by rw [tabW_len]; exact h), tabW_nth h]
theorem at_tabT {r : Nat} {es : List Du} (h : n < r) : atI (tabT (tabW r es)) (n : Int) = some (.tup ((rowW r es n).map .int)) := by
  unfold tabT
  rw [atI_mapN rfl (by rw [tabW_len]; exact h), tabW_nth h]
theorem at_row {r a : Nat} {es : List Du} (h : n < r) : atI ((rowW r es a).map Dt.int) (n : Int) = some (.int (wid es a n)) := by
  rw [atI_mapN rfl (by rw [rowW_len]; exact h), rowW_nth h]
theorem o_sumT {r a : Nat} {es : List Du} : cSumT [.c (.tup ((rowW r es a).map .int))] cs = some (.c (.int (spr es r a)), cs) := cSumT_tup
theorem o_sumL {r a : Nat} {es : List Du} : cSumT [.c (.lst ((rowW r es a).map .int))] cs = some (.c (.int (spr es r a)), cs) := cSumT_lst
theorem o_lenD {r : Nat} {es : List Du} : cLen [.c (.lst (tabD (tabW r es)))] cs = some (.c (.int (r : Int)), cs) := by rw [cLen_lst]; simp [tabD, tabW_len]
theorem o_lenT {r : Nat} {es : List Du} : cLen [.c (.tup (tabT (tabW r es)))] cs = some (.c (.int (r : Int)), cs) := by rw [cLen_tup]; simp [tabT, tabW_len]
theorem o_lenN : cLen [.c (.lst (natD S))] cs = some (.c (.int (S.length : Int)), cs) := by rw [cLen_lst, natD_len]
theorem o_lenNt : cLen [.c (.tup (natD S))] cs = some (.c (.int (S.length : Int)), cs) := by rw [cLen_tup, natD_len]
theorem o_lenI : cLen [.c (.lst (xs.map .int))] cs = some (.c (.int (xs.length : Int)), cs) := by rw [cLen_lst]; simp
theorem o_lenIt : cLen [.c (.tup (xs.map .int))] cs = some (.c (.int (xs.length : Int)), cs) := by rw [cLen_tup]; simp
theorem o_lenp (hn : cs[n]? = some (.lst ds)) : cLen [.p n] cs = some (.c (.int ds.length), cs) := cLen_cell hn
theorem o_lendic {ks : List Key} (hn : cs[n]? = some (.dic ks ds)) : cLen [.p n] cs = some (.c (.int ks.length), cs) := by
  rw [cLen_p]
  have : view cs (.p n) = none := by simp [view, hn]
  rw [this]
  simp [dicOf, hn]
theorem sq_tuple {ds : List Dt} : cTuple [.c (sqD t ds)] cs = some (.c (.tup ds), cs) := by
  cases t
  · exact cTuple_lst
  · exact cTuple_tup
theorem o_inN {a : Nat} : opIn false (.c (.int (a : Int))) (.c (.lst (natD S))) cs = some (.c (.bl (decide (a ∈ S))), cs) := in_nat
theorem o_ninN {a : Nat} : opIn true (.c (.int (a : Int))) (.c (.lst (natD S))) cs = some (.c (.bl (!decide (a ∈ S))), cs) := notin_nat
theorem o_inNt {a : Nat} : opIn false (.c (.int (a : Int))) (.c (.tup (natD S))) cs = some (.c (.bl (decide (a ∈ S))), cs) := by
  rw [natD_eq, in_intsT]
  simp [mem_natI]
theorem o_ninNt {a : Nat} : opIn true (.c (.int (a : Int))) (.c (.tup (natD S))) cs = some (.c (.bl (!decide (a ∈ S))), cs) := by
  rw [natD_eq, notin_intsT]
  simp [mem_natI]
theorem t_bl {b : Bool} : truOf (.c (.bl b)) cs = some (b, cs) := rfl
theorem t_int : truOf (.c (.int i)) cs = some (i != 0, cs) := rfl
end
/-! comprehensions -/
theorem vlc_okG {α : Type} {mi : MI} {s : Src} {g : MG} {tt : MT} {te : ME} {vs : List Nat} {sl : Sl} {cs : Cs} (as : List α) (enc : α → Lv) (p : α → Bool) (f : α → Dt) (h : mi sl cs = .ok s cs) (hx : s.itms = some (as.map enc)) (hn : noPl cs = true) (hl : as.length ≤ 16777216)
    (hg : ∀ a ∈ as, ∀ acc, ∃ sl1, g (enc a) (wipeS sl vs) (cs ++ [.lst acc]) = some (sl1, cs ++ [.lst acc]) ∧ tt sl1 (cs ++ [.lst acc]) = .ok (p a) (cs ++ [.lst acc]) ∧ (p a = true → te sl1 (cs ++ [.lst acc]) = .ok (.c (f a)) (cs ++ [.lst acc]))) :
    mV (mLc false mi g tt te vs) sl cs = .ok (.c (.lst ((as.filter p).map f))) cs :=
  mV_new (lc_okG as enc p f h (fun acc i => (itms_ok hx _).2 i) (by simpa using (itms_ok hx cs).1) hl hg) (okCs_of hn)
section
variable {sl : Sl} {cs : Cs} {ma : MA} {ml : ME} {tt : MT} {te : ME} {vs : List Nat} {k : Nat} {n : Nat} {Sa : Nat → Sl}
theorem ev_lcR {p : Nat → Bool} {f : Nat → Dt} (h : ma sl cs = .ok [.c (.int (n : Int))] cs) (hn : n ≤ 16777216) (hc : noPl cs = true) (hg : ∀ a : Nat, (wipeS sl vs).set k (some (.c (.int (a : Int)))) = Sa a)
    (ht : ∀ a, a < n → ∀ acc : List Dt, tt (Sa a) (cs ++ [.lst acc]) = .ok (p a) (cs ++ [.lst acc])) (he : ∀ a, a < n → p a = true → ∀ acc : List Dt, te (Sa a) (cs ++ [.lst acc]) = .ok (.c (f a)) (cs ++ [.lst acc])) :
    mV (mLc false (mRng rng1 ma) (gN k) tt te vs) sl cs = .ok (.c (.lst (((List.range n).filter p).map f))) cs :=
  vlc_okG (s := .rng 0 n) (List.range n) (fun a => .c (.int (a : Int))) p f (rng1_nat h hn) (by simp [Src.itms]) hc (by simpa using hn) fun a ha acc => ⟨Sa a, by rw [gN_ap, hg], ht a (List.mem_range.mp ha) acc, fun hp => he a (List.mem_range.mp ha) hp acc⟩
theorem ev_lcRI {p : Nat → Bool} {f : Nat → Int} (h : ma sl cs = .ok [.c (.int (n : Int))] cs) (hn : n ≤ 16777216) (hc : noPl cs = true) (hg : ∀ a : Nat, (wipeS sl vs).set k (some (.c (.int (a : Int)))) = Sa a)
    (ht : ∀ a, a < n → ∀ acc : List Dt, tt (Sa a) (cs ++ [.lst acc]) = .ok (p a) (cs ++ [.lst acc])) (he : ∀ a, a < n → p a = true → ∀ acc : List Dt, te (Sa a) (cs ++ [.lst acc]) = .ok (.c (.int (f a))) (cs ++ [.lst acc])) :
    mV (mLc false (mRng rng1 ma) (gN k) tt te vs) sl cs = .ok (.c (.lst ((((List.range n).filter p).map f).map .int))) cs := by
  rw [ev_lcR h hn hc hg ht he, List.map_map]; rfl
theorem ev_lcRN {p : Nat → Bool} {f : Nat → Nat} (h : ma sl cs = .ok [.c (.int (n : Int))] cs) (hn : n ≤ 16777216) (hc : noPl cs = true) (hg : ∀ a : Nat, (wipeS sl vs).set k (some (.c (.int (a : Int)))) = Sa a)
    (ht : ∀ a, a < n → ∀ acc : List Dt, tt (Sa a) (cs ++ [.lst acc]) = .ok (p a) (cs ++ [.lst acc])) (he : ∀ a, a < n → p a = true → ∀ acc : List Dt, te (Sa a) (cs ++ [.lst acc]) = .ok (.c (.int ((f a : Nat) : Int))) (cs ++ [.lst acc])) :
    mV (mLc false (mRng rng1 ma) (gN k) tt te vs) sl cs = .ok (.c (.lst (natD (((List.range n).filter p).map f)))) cs := by
  rw [ev_lcR h hn hc hg ht he]; simp [natD]
/-- over a closed list or tuple of coded things -/
theorem ev_lcL {α : Type} {as : List α} {enc : α → Dt} {Sb : α → Sl} {p : α → Bool} {f : α → Dt} (h : ml sl cs = .ok (.c (.lst (as.map enc))) cs ∨ ml sl cs = .ok (.c (.tup (as.map enc))) cs) (hn : as.length ≤ 16777216) (hc : noPl cs = true) (hg : ∀ a, (wipeS sl vs).set k (some (.c (enc a))) = Sb a)
    (ht : ∀ a, a ∈ as → ∀ acc : List Dt, tt (Sb a) (cs ++ [.lst acc]) = .ok (p a) (cs ++ [.lst acc])) (he : ∀ a, a ∈ as → p a = true → ∀ acc : List Dt, te (Sb a) (cs ++ [.lst acc]) = .ok (.c (f a)) (cs ++ [.lst acc])) :
    mV (mLc false (mSeqI ml) (gN k) tt te vs) sl cs = .ok (.c (.lst ((as.filter p).map f))) cs := by
  rcases h with h | h
  · exact vlc_okG (s := .seq (.c (.lst (as.map enc)))) as (fun a => .c (enc a)) p f (by unfold mSeqI; rw [h]; rfl) (by simp [Src.itms]) hc hn fun a ha acc => ⟨Sb a, by rw [gN_ap, hg], ht a ha acc, fun hp => he a ha hp acc⟩
  · exact vlc_okG (s := .seq (.c (.tup (as.map enc)))) as (fun a => .c (enc a)) p f (by unfold mSeqI; rw [h]; rfl) (by simp [Src.itms]) hc hn fun a ha acc => ⟨Sb a, by rw [gN_ap, hg], ht a ha acc, fun hp => he a ha hp acc⟩
theorem ev_lcN {as : List Nat} {Sb : Nat → Sl} {p : Nat → Bool} {f : Nat → Dt} (h : ml sl cs = .ok (.c (.lst (natD as))) cs ∨ ml sl cs = .ok (.c (.tup (natD as))) cs) (hn : as.length ≤ 16777216) (hc : noPl cs = true) (hg : ∀ a : Nat, (wipeS sl vs).set k (some (.c (.int (a : Int)))) = Sb a)
    (ht : ∀ a, a ∈ as → ∀ acc : List Dt, tt (Sb a) (cs ++ [.lst acc]) = .ok (p a) (cs ++ [.lst acc])) (he : ∀ a, a ∈ as → p a = true → ∀ acc : List Dt, te (Sb a) (cs ++ [.lst acc]) = .ok (.c (f a)) (cs ++ [.lst acc])) :
    mV (mLc false (mSeqI ml) (gN k) tt te vs) sl cs = .ok (.c (.lst ((as.filter p).map f))) cs := ev_lcL (enc := fun n : Nat => Dt.int (n : Int)) h hn hc hg ht he
theorem ev_lcNN {as : List Nat} {Sb : Nat → Sl} {p : Nat → Bool} {f : Nat → Nat} (h : ml sl cs = .ok (.c (.lst (natD as))) cs ∨ ml sl cs = .ok (.c (.tup (natD as))) cs) (hn : as.length ≤ 16777216) (hc : noPl cs = true) (hg : ∀ a : Nat, (wipeS sl vs).set k (some (.c (.int (a : Int)))) = Sb a)
    (ht : ∀ a, a ∈ as → ∀ acc : List Dt, tt (Sb a) (cs ++ [.lst acc]) = .ok (p a) (cs ++ [.lst acc])) (he : ∀ a, a ∈ as → p a = true → ∀ acc : List Dt, te (Sb a) (cs ++ [.lst acc]) = .ok (.c (.int ((f a : Nat) : Int))) (cs ++ [.lst acc])) :
    mV (mLc false (mSeqI ml) (gN k) tt te vs) sl cs = .ok (.c (.lst (natD ((as.filter p).map f)))) cs := by
  rw [ev_lcN h hn hc hg ht he]; simp [natD]
theorem ev_lcNI {as : List Nat} {Sb : Nat → Sl} {p : Nat → Bool} {f : Nat → Int} (h : ml sl cs = .ok (.c (.lst (natD as))) cs ∨ ml sl cs = .ok (.c (.tup (natD as))) cs) (hn : as.length ≤ 16777216) (hc : noPl cs = true) (hg : ∀ a : Nat, (wipeS sl vs).set k (some (.c (.int (a : Int)))) = Sb a)
    (ht : ∀ a, a ∈ as → ∀ acc : List Dt, tt (Sb a) (cs ++ [.lst acc]) = .ok (p a) (cs ++ [.lst acc])) (he : ∀ a, a ∈ as → p a = true → ∀ acc : List Dt, te (Sb a) (cs ++ [.lst acc]) = .ok (.c (.int (f a))) (cs ++ [.lst acc])) :
    mV (mLc false (mSeqI ml) (gN k) tt te vs) sl cs = .ok (.c (.lst (((as.filter p).map f).map .int))) cs := by
  rw [ev_lcN h hn hc hg ht he, List.map_map]; rfl
theorem ev_lcRF {p : Nat → Bool} (h : ma sl cs = .ok [.c (.int (n : Int))] cs) (hn : n ≤ 16777216) (hc : noPl cs = true) (hg : ∀ a : Nat, (wipeS sl vs).set k (some (.c (.int (a : Int)))) = Sa a)
    (he : ∀ a, a < n → ∀ acc : List Dt, te (Sa a) (cs ++ [.lst acc]) = .ok (.c (.int (a : Int))) (cs ++ [.lst acc])) (ht : ∀ a, a < n → ∀ acc : List Dt, tt (Sa a) (cs ++ [.lst acc]) = .ok (p a) (cs ++ [.lst acc])) :
    mV (mLc false (mRng rng1 ma) (gN k) tt te vs) sl cs = .ok (.c (.lst (natD ((List.range n).filter p)))) cs := by
  rw [ev_lcR h hn hc hg ht fun a ha _ => he a ha]; simp [natD]
theorem ev_lcRM {f : Nat → Int} (h : ma sl cs = .ok [.c (.int (n : Int))] cs) (hn : n ≤ 16777216) (hc : noPl cs = true) (hg : ∀ a : Nat, (wipeS sl vs).set k (some (.c (.int (a : Int)))) = Sa a)
    (he : ∀ a, a < n → ∀ acc : List Dt, te (Sa a) (cs ++ [.lst acc]) = .ok (.c (.int (f a))) (cs ++ [.lst acc])) :
    mV (mLc false (mRng rng1 ma) (gN k) mYes te vs) sl cs = .ok (.c (.lst (((List.range n).map f).map .int))) cs := by
  rw [ev_lcR (p := fun _ => true) h hn hc hg (fun a _ _ => rfl) fun a ha _ => he a ha, flt_true, List.map_map]; rfl
theorem ev_lcNF {as : List Nat} {Sb : Nat → Sl} {p : Nat → Bool} (h : ml sl cs = .ok (.c (.lst (natD as))) cs ∨ ml sl cs = .ok (.c (.tup (natD as))) cs) (hn : as.length ≤ 16777216) (hc : noPl cs = true) (hg : ∀ a : Nat, (wipeS sl vs).set k (some (.c (.int (a : Int)))) = Sb a)
    (he : ∀ a, a ∈ as → ∀ acc : List Dt, te (Sb a) (cs ++ [.lst acc]) = .ok (.c (.int (a : Int))) (cs ++ [.lst acc])) (ht : ∀ a, a ∈ as → ∀ acc : List Dt, tt (Sb a) (cs ++ [.lst acc]) = .ok (p a) (cs ++ [.lst acc])) :
    mV (mLc false (mSeqI ml) (gN k) tt te vs) sl cs = .ok (.c (.lst (natD (as.filter p)))) cs := by
  rw [ev_lcN h hn hc hg ht fun a ha _ => he a ha]; simp [natD]
theorem ev_lcNM {as : List Nat} {Sb : Nat → Sl} {f : Nat → Int} (h : ml sl cs = .ok (.c (.lst (natD as))) cs ∨ ml sl cs = .ok (.c (.tup (natD as))) cs) (hn : as.length ≤ 16777216) (hc : noPl cs = true) (hg : ∀ a : Nat, (wipeS sl vs).set k (some (.c (.int (a : Int)))) = Sb a)
    (he : ∀ a, a ∈ as → ∀ acc : List Dt, te (Sb a) (cs ++ [.lst acc]) = .ok (.c (.int (f a))) (cs ++ [.lst acc])) :
    mV (mLc false (mSeqI ml) (gN k) mYes te vs) sl cs = .ok (.c (.lst ((as.map f).map .int))) cs := by
  rw [ev_lcN (p := fun _ => true) h hn hc hg (fun a _ _ => rfl) fun a ha _ => he a ha, flt_true, List.map_map]; rfl
theorem noLs_natD (S : List Nat) : noLs (natD S) = true := by rw [natD_eq]; exact noLs_ints _
theorem setAt1 {xs : List Int} {i : Nat} {v : Int} {c : Cl} {cs : Cs} (h : i < xs.length) : setAt 1 (i : Int) (.int v) (c :: .lst (xs.map .int) :: cs) = some (c :: .lst ((xs.set i v).map .int) :: cs) := by
  have e : setAt 1 (i : Int) (.int v) (c :: .lst (xs.map .int) :: cs) = (ixN (xs.map Dt.int).length (i : Int)).map fun j => c :: .lst ((xs.map Dt.int).set j (.int v)) :: cs := rfl
  have e2 : ixN (xs.map Dt.int).length (i : Int) = some i := by simp [ixN, h]
  rw [e, e2, List.map_set]
  rfl
theorem setAt2 {xs : List Int} {i : Nat} {v : Int} {c c2 : Cl} {cs : Cs} (h : i < xs.length) : setAt 2 (i : Int) (.int v) (c :: c2 :: .lst (xs.map .int) :: cs) = some (c :: c2 :: .lst ((xs.set i v).map .int) :: cs) := by
  have e : setAt 2 (i : Int) (.int v) (c :: c2 :: .lst (xs.map .int) :: cs) = (ixN (xs.map Dt.int).length (i : Int)).map fun j => c :: c2 :: .lst ((xs.map Dt.int).set j (.int v)) :: cs := rfl
  have e2 : ixN (xs.map Dt.int).length (i : Int) = some i := by simp [ixN, h]
  rw [e, e2, List.map_set]
  rfl
theorem setAtG0 {ds : List Dt} {i : Nat} {v : Dt} {cs : Cs} (h : i < ds.length) : setAt 0 (i : Int) v (.lst ds :: cs) = some (.lst (ds.set i v) :: cs) := by
  have e : setAt 0 (i : Int) v (.lst ds :: cs) = (ixN ds.length (i : Int)).map fun j => .lst (ds.set j v) :: cs := rfl
  have e2 : ixN ds.length (i : Int) = some i := by simp [ixN, h]
  rw [e, e2]
  rfl
theorem setAtG1 {ds : List Dt} {i : Nat} {v : Dt} {c : Cl} {cs : Cs} (h : i < ds.length) : setAt 1 (i : Int) v (c :: .lst ds :: cs) = some (c :: .lst (ds.set i v) :: cs) := by
  have e : setAt 1 (i : Int) v (c :: .lst ds :: cs) = (ixN ds.length (i : Int)).map fun j => c :: .lst (ds.set j v) :: cs := rfl
  have e2 : ixN ds.length (i : Int) = some i := by simp [ixN, h]
  rw [e, e2]
  rfl
theorem ag_ints {xs : List Int} {i : Nat} (h : i < xs.length) : atI ((xs.map Dt.int).map Lv.c) (i : Int) = some (.c (.int (nth xs i))) := by
  rw [List.map_map]
  exact atI_mapN (f := Lv.c ∘ Dt.int) rfl h
theorem ev_yes {cs' : Cs} {sl : Sl} : mYes sl cs' = .ok true cs' := rfl
end
end Mi

set_option Elab.async false
set_option linter.all false
set_option maxRecDepth 100000
set_option maxHeartbeats 4000000
/-! the mirrors of more defs that many laws share, printed: spills -/
namespace Mi
open PySem L2
def b_law_integer : MS :=
  (mRet (mAndV (mOpN (cIsi own0 tab0) (mCons (mVar 0) (mCons (mC (.ty "int")) mNil))) (mNotV (mOpN (cIsi own0 tab0) (mCons (mVar 0) (mCons (mC (.ty "bool")) mNil))))))
def m_law_integer : List Dt → Out := runF 1 0 b_law_integer
def lb_run_piece_1 : MS :=
  (mSeq (mAsg (mOpN cSumT (mCons (mOp2 opItem (mVar 0) (mVar 8)) mNil)) (gN 9))
  (mIf (mAnd (mTst (mOp2 opGt (mVar 9) (mC (.int 0)))) (mTst (mOp2 opGe (mOp2 opItem (mVar 3) (mVar 8)) (mVar 9)))) (mSeq (mAsg (mOp2 opDiv (mOp2 opItem (mVar 3) (mVar 8)) (mVar 9)) (gN 10))
  (mSeq (mDrop (mCallP [false, true, false, false] m_give (mCons (mVar 0) (mCons (mVar 3) (mCons (mVar 8) (mCons (mVar 10) mNil))))))
  (mSeq (mAugI (fun i j => i + j) (mVar 4) (mVar 8) (mVar 10))
  (mSeq (mAug 6 (fun i j => i + j) (mC (.int 1)))
  (mSeq (mDPut (mVar 5) (mVar 8) (mVar 6))
  (mAsg (mC (.bl false)) (gN 7))))))) mPass))
def l_run_piece_1 : MS := (mFor 0 (mSeqI (mVar 1)) (gN 8) lb_run_piece_1)
def lb_run_piece_2 : MS :=
  (mSeq (mAsg (mC (.bl true)) (gN 7))
  (mSeq l_run_piece_1
  (mIf (mOr (mTru (mVar 7)) (mTst (mOp2 (opEq false) (mOpN cLen (mCons (mVar 5) mNil)) (mOpN cLen (mCons (mVar 1) mNil))))) (mRet (mTup (mCons (mVar 7) (mCons (mVar 3) (mCons (mVar 4) (mCons (mVar 5) mNil)))))) mPass)))
def lt_run_piece_2 : MT :=
  (mTru (mC (.bl true)))
def l_run_piece_2 : MS := (mWhile 1000000 lt_run_piece_2 lb_run_piece_2)
def b_run_piece : MS :=
  (mSeq (mAsg (mOpN cList (mCons (mVar 2) mNil)) (gN 3))
  (mSeq (mAsg (mOp2 opMul (mV (mLst false (mCons (mC (.int 0)) mNil))) (mOpN cLen (mCons (mVar 0) mNil))) (gN 4))
  (mSeq (mAsg mDNew (gN 5))
  (mSeq (mAsg (mC (.int 0)) (gN 6))
  l_run_piece_2))))
def m_run_piece : List Dt → Out := runF 3 8 b_run_piece
def lb_spill_of_1 : MS :=
  (mSeq (mSetI (mVar 2) (mVar 9) (mOp2 opItem (mVar 6) (mVar 9)))
  (mSetI (mVar 3) (mVar 9) (mOp2 opItem (mVar 7) (mVar 9))))
def l_spill_of_1 : MS := (mFor 0 (mSeqI (mVar 4)) (gN 9) lb_spill_of_1)
def lb_spill_of_2 : MS :=
  (mSeq (mAsg (mCall m_run_piece (mCons (mVar 0) (mCons (mVar 4) (mCons (mVar 1) mNil)))) (gT 4 (gsCons (gN 5) (gsCons (gN 6) (gsCons (gN 7) (gsCons (gN 8) gsNil))))))
  (mIf (mTru (mVar 5)) l_spill_of_1 mPass))
def l_spill_of_2 : MS := (mFor 0 (mSeqI (mV (mCall m_piece_list (mCons (mVar 0) mNil)))) (gN 4) lb_spill_of_2)
def b_spill_of : MS :=
  (mSeq (mAsg (mOp2 opMul (mV (mLst false (mCons (mC .non) mNil))) (mOpN cLen (mCons (mVar 0) mNil))) (gN 2))
  (mSeq (mAsg (mOp2 opMul (mV (mLst false (mCons (mC .non) mNil))) (mOpN cLen (mCons (mVar 0) mNil))) (gN 3))
  (mSeq l_spill_of_2
  (mRet (mTup (mCons (mOpN cTuple (mCons (mVar 2) mNil)) (mCons (mOpN cTuple (mCons (mVar 3) mNil)) mNil)))))))
def m_spill_of : List Dt → Out := runF 2 8 b_spill_of
def b_spill : MS :=
  (mSeq (mDrop (mCall m_require_building (mCons (mVar 0) mNil)))
  (mSeq (mDrop (mCall m_require_load (mCons (mVar 0) (mCons (mVar 1) (mCons (mC (.str "load")) mNil)))))
  (mRet (mCall m_spill_of (mCons (mMeth 0 "width_rows" m_Building_width_rows (mVar 0) mNil) (mCons (mVar 1) mNil))))))
def m_spill : List Dt → Out := runF 2 0 b_spill
def lb_ticks_1 : MS :=
  (mSeq (mAsg (mCall m_ticked (mCons (mVar 2) (mCons (mVar 3) mNil))) (gN 3))
  (mAug 4 (fun i j => i + j) (mC (.int 1))))
def lt_ticks_1 : MT :=
  (mTst (mOp2 opGt (mOpN cLen (mCons (mV (mCall m_full_list (mCons (mVar 2) (mCons (mVar 3) mNil)))) mNil)) (mC (.int 0))))
def l_ticks_1 : MS := (mWhile 1000000 lt_ticks_1 lb_ticks_1)
def b_ticks : MS :=
  (mSeq (mDrop (mCall m_require_building (mCons (mVar 0) mNil)))
  (mSeq (mDrop (mCall m_require_load (mCons (mVar 0) (mCons (mVar 1) (mCons (mC (.str "load")) mNil)))))
  (mSeq (mAsg (mMeth 0 "width_rows" m_Building_width_rows (mVar 0) mNil) (gN 2))
  (mSeq (mIf (mTst (mOp2 (opIn false) (mC .non) (mOp2 opItem (mCall m_spill_of (mCons (mVar 2) (mCons (mVar 1) mNil))) (mC (.int 0))))) (mRet (mC .non)) mPass)
  (mSeq (mAsg (mOpN cTuple (mCons (mVar 1) mNil)) (gN 3))
  (mSeq (mAsg (mC (.int 0)) (gN 4))
  (mSeq l_ticks_1
  (mRet (mVar 4)))))))))
def m_ticks : List Dt → Out := runF 2 3 b_ticks
end Mi

set_option Elab.async false
set_option linter.all false
set_option maxRecDepth 100000
set_option maxHeartbeats 4000000
/-! spills: the program's run of a piece -/
namespace Bn
open PySem L2 Mi
local macro_rules | `(tactic| walk_at "s") => `(tactic| first | assumption | omega | exact rfl | (apply_assumption <;> assumption) | (simp; done) | (simp; omega))
local macro_rules | `(tactic| walk_at "ok") => `(tactic| first | exact rfl | exact okCs_of (by assumption) | assumption | (simp; done))
local macro_rules | `(tactic| walk_at "z") => `(tactic| first | exact fz_nil | ((with_reducible apply fz_c); walk_at "z") | ((with_reducible apply fz_f); exact rfl; walk_at "z") | ((with_reducible apply fz_p); exact rfl; walk_at "z") | ((with_reducible apply fz_d); exact rfl; walk_at "z"))
local macro_rules | `(tactic| walk_at "at") => `(tactic| first | assumption | exact atI_0 | exact atI_1 | exact atI_2 | exact atI_3 | ((with_reducible apply at_tabD); walk_at "s") | ((with_reducible apply at_tabT); walk_at "s") | ((with_reducible apply at_row); walk_at "s") | ((with_reducible apply at_natD); walk_at "s") | ((with_reducible apply at_ints); walk_at "s"))
local macro_rules | `(tactic| walk_at "o") => `(tactic| first | assumption | with_reducible exact opAdd_int | with_reducible exact opSub_int | with_reducible exact opNeg_int | with_reducible exact opLt_int | with_reducible exact opLe_int | with_reducible exact opGt_int | with_reducible exact opGe_int | with_reducible exact o_eq | with_reducible exact o_ne | ((with_reducible apply o_il); walk_at "at") | ((with_reducible apply o_it); walk_at "at") | ((with_reducible apply o_is); walk_at "at") | ((with_reducible apply o_ip); exact rfl; walk_at "at") | with_reducible exact o_sumT | with_reducible exact o_sumL | with_reducible exact cSumT_tup | with_reducible exact cSumT_lst | with_reducible exact cSum_ints | with_reducible exact o_lenD | with_reducible exact o_lenT | with_reducible exact o_lenN | with_reducible exact o_lenNt | with_reducible exact o_lenI | with_reducible exact o_lenIt | with_reducible exact cLen_lst | with_reducible exact cLen_tup | ((with_reducible apply o_lenp); exact rfl) | ((with_reducible apply o_lendic); exact rfl) | with_reducible exact sq_len | with_reducible exact o_inN | with_reducible exact o_ninN | with_reducible exact o_inNt | with_reducible exact o_ninNt | with_reducible exact in_ints | with_reducible exact notin_ints | with_reducible exact in_intsT | with_reducible exact notin_intsT | with_reducible exact cInt_int | with_reducible exact cInt_bl | with_reducible exact cTuple_lst | with_reducible exact cTuple_tup | ((with_reducible apply cTuple_cell); exact rfl) | with_reducible exact cList_lst | with_reducible exact cList_tup | with_reducible exact sq_list | with_reducible exact sq_tuple | with_reducible exact eq_intsL | with_reducible exact eq_intsT | with_reducible exact sq_isi | ((with_reducible apply opMod_int); walk_at "s") | ((with_reducible apply opDiv_int) <;> walk_at "s") | ((with_reducible apply opMul_int) <;> walk_at "s") | ((with_reducible apply opMul_one) <;> walk_at "s"))
local macro_rules | `(tactic| walk_at "f") => `(tactic| first | assumption | with_reducible assumption)
local macro_rules | `(tactic| walk_at "fv") => `(tactic| first | assumption)
local macro_rules | `(tactic| walk_at "or") => `(tactic| first | exact out_c | exact out_l | exact out_d)
local macro_rules | `(tactic| walk_at "cv") => `(tactic| first | exact ClV.c | exact ClV.n | exact ClV.d)
local macro_rules | `(tactic| walk_at "tb") => `(tactic| first | exact t_bl | exact t_int | exact truOf_lst | exact truOf_tup)
local macro_rules | `(tactic| walk_at "wipe") => `(tactic| (intro a; (try simp only [wipeS, List.set_cons_zero, List.set_cons_succ]); exact rfl))
local macro_rules | `(tactic| walk_at "ar") => `(tactic| first | with_reducible exact ev_nil | ((with_reducible apply ev_cons); (focus walk_at "e"); walk_at "ar"))
local macro_rules | `(tactic| walk_at "ct") => `(tactic| (intro a ha acc; walk_at "t"))
local macro_rules | `(tactic| walk_at "ce") => `(tactic| (intro a ha hp acc; (try simp only [decide_eq_true_eq, Bool.and_eq_true, Bool.or_eq_true, Bool.not_eq_true', decide_eq_false_iff_not] at hp); walk_at "e"))
local macro_rules | `(tactic| walk_at "cf") => `(tactic| (intro a ha acc; walk_at "e"))
local macro_rules | `(tactic| walk_at "lt") => `(tactic| first | (refine Or.inl ?_; walk_at "e") | (refine Or.inr ?_; walk_at "e"))
local macro_rules | `(tactic| walk_at "lc") => `(tactic| first | ((with_reducible apply ev_lcRF); (focus walk_at "ar"); (focus walk_at "s"); (focus walk_at "ok"); (focus walk_at "wipe"); (focus walk_at "cf"); (focus walk_at "ct")) | ((with_reducible apply ev_lcRM); (focus walk_at "ar"); (focus walk_at "s"); (focus walk_at "ok"); (focus walk_at "wipe"); (focus walk_at "cf")) | ((with_reducible apply ev_lcRI); (focus walk_at "ar"); (focus walk_at "s"); (focus walk_at "ok"); (focus walk_at "wipe"); (focus walk_at "ct"); (focus walk_at "ce")) | ((with_reducible apply ev_lcR); (focus walk_at "ar"); (focus walk_at "s"); (focus walk_at "ok"); (focus walk_at "wipe"); (focus walk_at "ct"); (focus walk_at "ce")) | ((with_reducible apply ev_lcNF); (focus walk_at "lt"); (focus walk_at "s"); (focus walk_at "ok"); (focus walk_at "wipe"); (focus walk_at "cf"); (focus walk_at "ct")) | ((with_reducible apply ev_lcNM); (focus walk_at "lt"); (focus walk_at "s"); (focus walk_at "ok"); (focus walk_at "wipe"); (focus walk_at "cf")) | ((with_reducible apply ev_lcNI); (focus walk_at "lt"); (focus walk_at "s"); (focus walk_at "ok"); (focus walk_at "wipe"); (focus walk_at "ct"); (focus walk_at "ce")) | ((with_reducible apply ev_lcL); (focus walk_at "lt"); (focus walk_at "s"); (focus walk_at "ok"); (focus walk_at "wipe"); (focus walk_at "ct"); (focus walk_at "ce")))
local macro_rules | `(tactic| walk_at "e") => `(tactic| first | with_reducible exact ev_c | with_reducible exact ev_dnew | ((with_reducible apply ev_var); exact rfl) | with_reducible assumption | ((with_reducible apply ev_op2); (focus walk_at "e"); (focus walk_at "e"); (focus walk_at "o")) | ((with_reducible apply ev_opN); (focus walk_at "ar"); (focus walk_at "o")) | ((with_reducible apply ev_op1); (focus walk_at "e"); (focus walk_at "o")) | ((with_reducible apply ev_tup); (focus walk_at "ar"); (focus walk_at "z"); (focus walk_at "s")) | ((with_reducible apply ev_lst); (focus walk_at "ar"); (focus walk_at "z"); (focus walk_at "s")) | ((with_reducible apply ev_vcall); (focus walk_at "ar"); (focus walk_at "z"); (focus walk_at "fv"); (focus walk_at "ok")) | walk_at "lc" | ((with_reducible apply ev_v); (focus walk_at "e"); (focus walk_at "cv"); (focus walk_at "ok")) | ((with_reducible apply ev_call); (focus walk_at "ar"); (focus walk_at "z"); (focus walk_at "f"); (focus walk_at "or")) | ((with_reducible apply ev_methB); (focus walk_at "e"); (focus decide +kernel); (focus walk_at "ar"); (focus walk_at "z"); (focus walk_at "f"); (focus walk_at "or")) | ((with_reducible apply ev_makeB); (focus walk_at "ar"); (focus walk_at "z"); (focus walk_at "f")) | ((with_reducible apply ev_rooms); (focus walk_at "e")) | ((with_reducible apply ev_ducts); (focus walk_at "e")) | ((with_reducible apply ev_widths); (focus walk_at "e")) | ((with_reducible apply ev_app); (focus walk_at "e"); (focus walk_at "ar"); (focus exact rfl); (focus exact rfl); (focus walk_at "s")) | ((with_reducible apply ev_callP); (focus walk_at "ar"); (focus exact rfl); (focus first | exact List.nodup_nil | exact List.nodup_singleton _ | (simp; done)); (focus exact rfl); (focus walk_at "f"); (focus exact rfl); (focus exact rfl)) | ((with_reducible apply ev_callB); (focus walk_at "ar"); (focus exact rfl); (focus exact rfl); (focus walk_at "f"); (focus first | exact rfl | exact noLs_natD _ | exact noLs_ints _); (focus walk_at "or")) | ((with_reducible apply ev_chain); (focus walk_at "e"); (focus walk_at "e"); (focus walk_at "o"); (focus (intro _; walk_at "e")); (focus (intro _; walk_at "o"))) | ((with_reducible apply ev_andV); (focus walk_at "e"); (intro hk; (try simp only [decide_eq_true_eq, Bool.and_eq_true, Bool.or_eq_true, Bool.not_eq_true', decide_eq_false_iff_not] at hk); walk_at "e")) | ((with_reducible apply ev_orV); (focus walk_at "e"); (intro hk; (try simp only [decide_eq_false_iff_not, Bool.and_eq_false_imp, Bool.or_eq_false_iff, Bool.not_eq_false'] at hk); walk_at "e")) | ((with_reducible apply ev_notV); (focus walk_at "e")) | ((with_reducible apply ev_ife); (focus walk_at "t"); (focus (intro hk; (try simp only [decide_eq_true_eq, Bool.and_eq_true, Bool.or_eq_true, Bool.not_eq_true', decide_eq_false_iff_not] at hk); walk_at "e")); (focus (intro hk; (try simp only [decide_eq_false_iff_not, Bool.and_eq_false_imp, Bool.or_eq_false_iff, Bool.not_eq_false'] at hk); walk_at "e"))))
local macro_rules | `(tactic| walk_at "t") => `(tactic| first | with_reducible exact ev_yes | with_reducible assumption | ((with_reducible apply ev_tst); (focus walk_at "e")) | ((with_reducible apply ev_tru); (focus walk_at "e"); (focus walk_at "tb")) | ((with_reducible apply ev_not); (focus walk_at "t")) | ((with_reducible apply ev_and); (focus walk_at "t"); (intro hk; (try simp only [decide_eq_true_eq, Bool.and_eq_true, Bool.or_eq_true, Bool.not_eq_true', decide_eq_false_iff_not] at hk); walk_at "t")) | ((with_reducible apply ev_or); (focus walk_at "t"); (intro hk; (try simp only [decide_eq_false_iff_not, Bool.and_eq_false_imp, Bool.or_eq_false_iff, Bool.not_eq_false'] at hk); walk_at "t")))
local macro_rules | `(tactic| walk_at "sl") => `(tactic| ((try simp only [List.set_cons_succ, List.set_cons_zero, List.length_nil, List.length_cons, Nat.zero_add, Nat.reduceAdd]); exact rfl))
local macro_rules | `(tactic| walk_at "cs") => `(tactic| ((try simp only [List.nil_append, List.cons_append, List.set_cons_succ, List.set_cons_zero, setL]); exact rfl))
local macro_rules | `(tactic| walk_at "g") => `(tactic| first | ((simp only [gT_tup, List.length_cons, List.length_nil, Nat.reduceAdd, if_true, List.map_cons, List.map_nil, gsCons_ap, gN_ap, Option.bind_some, gsNil_ap, List.set_cons_succ, List.set_cons_zero]); exact rfl) | exact rfl)
local macro_rules | `(tactic| walk_at "st") => `(tactic| first | with_reducible assumption | ((with_reducible apply st_asg); (focus walk_at "e"); (focus walk_at "sl")) | ((with_reducible apply st_asgG); (focus walk_at "e"); (focus walk_at "g")) | ((with_reducible apply st_drop); (focus walk_at "e")) | ((with_reducible apply st_seti); (focus walk_at "e"); (focus walk_at "e"); (focus walk_at "e"); (focus walk_at "sa")) | ((with_reducible apply st_augi); (focus walk_at "e"); (focus walk_at "e"); (focus exact rfl); (focus walk_at "ag"); (focus walk_at "e"); (focus walk_at "sa")) | ((with_reducible apply st_aug); (focus exact rfl); (focus walk_at "e"); (focus walk_at "sl")) | ((with_reducible apply st_dput); (focus walk_at "e"); (focus walk_at "e"); (focus walk_at "e"); (focus exact rfl); (focus exact rfl); (focus walk_at "s")))
local macro_rules | `(tactic| walk_at "sa") => `(tactic| first | assumption | ((with_reducible apply setAt0); walk_at "s") | ((with_reducible apply setAt1); walk_at "s") | ((with_reducible apply setAt2); walk_at "s"))
local macro_rules | `(tactic| walk_at "ag") => `(tactic| first | assumption | ((with_reducible apply ag_ints); walk_at "s"))
local macro_rules | `(tactic| walk_at "a") => `(tactic| first | with_reducible apply sx_pass | with_reducible apply sx_assoc | ((with_reducible apply sx_ret); (focus walk_at "e"); try dsimp only) | ((with_reducible apply sx_retE); (focus walk_at "e"); try dsimp only) | ((with_reducible apply sx_brk); try dsimp only) | ((with_reducible apply sx_brkE); try dsimp only) | ((with_reducible apply sx_cnt); try dsimp only) | ((with_reducible apply sx_cntE); try dsimp only) | ((with_reducible apply sx_passE); try dsimp only) | ((with_reducible apply sx_go); (focus walk_at "st"); (focus walk_at "cs")) | ((with_reducible apply sx_end); (focus walk_at "st"); (focus walk_at "cs"); try dsimp only))
local macro_rules | `(tactic| walk_at "i") => `(tactic| first | ((with_reducible apply sx_if); (focus walk_at "t")) | ((with_reducible apply sx_ifE); (focus walk_at "t")))
local macro_rules | `(tactic| walk_at "sa") => `(tactic| first | assumption | ((with_reducible apply setAt0); walk_at "s") | ((with_reducible apply setAt1); walk_at "s") | ((with_reducible apply setAt2); walk_at "s") | ((with_reducible apply setAtG0); walk_at "s") | ((with_reducible apply setAtG1); walk_at "s"))
local macro_rules | `(tactic| walk_at "fv") => `(tactic| first | assumption | exact val_c (by walk_at "f") | exact val_l (by walk_at "f") | exact val_d (by walk_at "f"))
local macro_rules | `(tactic| walk_at "f") => `(tactic| first | assumption | (apply_assumption <;> walk_at "s"))
section
variable {ds : List Du} {r : Nat} {m : Int} {P : List Nat} {load : List Int}
def updN (T : Nat → Int) (a : Nat) (v : Int) : Nat → Int := fun b => if b = a then v else T b
def addN (ks : List Nat) (a : Nat) : List Nat := if a ∈ ks then ks else ks ++ [a]
theorem mem_addN {ks : List Nat} {a b : Nat} : b ∈ addN ks a ↔ b ∈ ks ∨ b = a := by
  unfold addN
  split
  · constructor
    · exact .inl
    · rintro (h | rfl)
      · exact h
      · assumption
  · simp
theorem addN_nd {ks : List Nat} {a : Nat} (h : ks.Nodup) : (addN ks a).Nodup := by
  unfold addN
  split
  · exact h
  · rename_i n
    exact List.nodup_append.mpr ⟨h, by simp, fun x hx y hy z => n (by simp at hy; rw [← hy, ← z]; exact hx)⟩
theorem putKD_N {T : Nat → Int} {a : Nat} {v : Int} : ∀ {ks : List Nat}, ks.Nodup → putKD (.inl (a : Int)) (.int v) (ks.map kN) (ks.map fun b => .int (T b)) = ((addN ks a).map kN, (addN ks a).map fun b => .int (updN T a v b))
  | [], _ => by simp [putKD, addN, kN, updN]
  | k :: ks, h => by
    obtain ⟨h1, h2⟩ := List.nodup_cons.mp h
    by_cases e : k = a
    · subst e
      have hm : ks.map (fun b => Dt.int (updN T k v b)) = ks.map fun b => Dt.int (T b) := List.map_congr_left fun b hb => by
        unfold updN
        rw [if_neg]
        rintro rfl; exact h1 hb
      simp [putKD, addN, kN, updN]
      intro b hb z
      exact absurd (z ▸ hb) h1
    · have e' : ¬ kN k = .inl (a : Int) := by
        unfold kN
        intro z
        injection z with z
        omega
      have e2 : ¬ a = k := fun z => e z.symm
      have ih := putKD_N (T := T) (a := a) (v := v) h2
      simp only [List.map_cons, putKD, e', if_false, ih]
      have : addN (k :: ks) a = k :: addN ks a := by
        unfold addN
        by_cases z : a ∈ ks
        · simp [z]
        · simp [z, e2]
      rw [this]
      simp [updN, e]
/-- what a run of a piece keeps: the vents x, the rooms that vented ks, the numbers of their last turns T -/
structure RI (ds : List Du) (r : Nat) (P : List Nat) (load x : List Int) (ks : List Nat) (T : Nat → Int) (n : Int) : Prop where
  leg : Leg ds r P load x
  nd : ks.Nodup
  sub : ∀ a ∈ ks, a ∈ P
  one : ∀ a ∈ P, a ∈ ks ↔ 1 ≤ nth x a
  n0 : 0 ≤ n
  n1 : n ≤ cnt r x
  lt : ∀ a ∈ ks, T a ≤ n
  inj : ∀ a ∈ ks, ∀ b ∈ ks, T a = T b → a = b
  air : ∀ a ∈ ks, (sumR r fun b => if b ∈ ks ∧ T a < T b then wid ds a b else 0) ≤ nth (shL ds load x r) a
theorem RI.start : RI ds r P load (List.replicate r 0) [] (fun _ => 0) 0 := by
  refine ⟨.zero, by simp, by simp, fun a _ => by rw [nth_rep]; simp, by omega, ?_, by simp, by simp, by simp⟩
  unfold cnt
  rw [sumR_zeros fun b _ => nth_rep]; exact Int.le_refl _
theorem spr_nonneg {a : Nat} (hd : ∀ d ∈ ds, DuOk r m d) : 0 ≤ spr ds r a := by
  rw [spr_eq]
  have := sumR_le2 (n := r) (f := fun _ => 0) (g := fun b => wid ds a b) fun b _ => wid_nonneg hd
  rw [sumR_zeros (f := fun _ => 0) (fun _ _ => rfl)] at this
  exact this
theorem RI.step (hp : Pc ds r m P) {x : List Int} {ks : List Nat} {T : Nat → Int} {n : Int} (h : RI ds r P load x ks T n) {a : Nat} {t : Int} (ha : a ∈ P) (hs : 0 < spr ds r a) (ht1 : 1 ≤ t) (ht : t * spr ds r a ≤ nth (shL ds load x r) a) :
    RI ds r P load (incK x a t) (addN ks a) (updN T a (n + 1)) (n + 1) := by
  have har := hp.lt a ha
  have hl := h.leg.len
  obtain ⟨k, rfl⟩ : ∃ k : Nat, t = (k : Int) := ⟨t.toNat, by omega⟩
  refine ⟨h.leg.times hp ha hs k ht, addN_nd h.nd, fun b hb => ?_, fun b hb => ?_, by have := h.n0; omega, ?_, fun b hb => ?_, fun b hb c hc e => ?_, fun b hb => ?_⟩
  · rcases mem_addN.mp hb with q | rfl
    · exact h.sub b q
    · exact ha
  · rw [mem_addN, incK_nth (by omega), h.one b hb]
    have := (h.leg.nn hp.lt b).1
    by_cases e : b = a
    · subst e; simp; omega
    · simp [e]
  · rw [cnt_inc har hl]; have := h.n1; omega
  · unfold updN
    split
    · omega
    · rename_i hne
      have := h.lt b ((mem_addN.mp hb).resolve_right hne)
      omega
  · unfold updN at e
    by_cases hba : b = a
    · by_cases hca : c = a
      · rw [hba, hca]
      · rw [if_pos hba, if_neg hca] at e
        have := h.lt c ((mem_addN.mp hc).resolve_right hca)
        omega
    · by_cases hca : c = a
      · rw [if_neg hba, if_pos hca] at e
        have := h.lt b ((mem_addN.mp hb).resolve_right hba)
        omega
      · rw [if_neg hba, if_neg hca] at e
        exact h.inj b ((mem_addN.mp hb).resolve_right hba) c ((mem_addN.mp hc).resolve_right hca) e
  · have hbr : b < r := by
      rcases mem_addN.mp hb with q | rfl
      · exact hp.lt b (h.sub b q)
      · exact har
    rw [shL_incK hp.hd hl har, giveL_nth hbr]
    by_cases hba : b = a
    · subst hba
      rw [if_pos rfl, wid_self hp.hd, sumR_zeros]
      · omega
      · intro c hc
        rw [if_neg]
        rintro ⟨h1, h2⟩
        unfold updN at h2
        rw [if_pos rfl] at h2
        by_cases z : c = b
        · rw [if_pos z] at h2; omega
        · rw [if_neg z] at h2
          have := h.lt c ((mem_addN.mp h1).resolve_right z)
          omega
    · rw [if_neg hba]
      have hbk := (mem_addN.mp hb).resolve_right hba
      have h1 := h.air b hbk
      have h2 : (sumR r fun c => if c ∈ addN ks a ∧ updN T a (n + 1) b < updN T a (n + 1) c then wid ds b c else 0) ≤ (sumR r fun c => if c ∈ ks ∧ T b < T c then wid ds b c else 0) + sumR r fun c => if c = a then wid ds b c else 0 := by
        rw [← sumR_add]
        refine sumR_le2 fun c _ => ?_
        have hw := wid_nonneg (a := b) (b := c) hp.hd
        by_cases hca : c = a
        · rw [if_pos hca]
          split <;> split <;> omega
        · rw [if_neg hca]
          by_cases z : c ∈ addN ks a ∧ updN T a (n + 1) b < updN T a (n + 1) c
          · have z2 : c ∈ ks ∧ T b < T c := by
              obtain ⟨z1, z2⟩ := z
              unfold updN at z2
              rw [if_neg hba, if_neg hca] at z2
              exact ⟨(mem_addN.mp z1).resolve_right hca, z2⟩
            rw [if_pos z, if_pos z2]; omega
          · rw [if_neg z]
            split <;> omega
      rw [sumR_pick har] at h2
      have hw := wid_nonneg (a := b) (b := a) hp.hd
      have hk : wid ds b a ≤ (k : Int) * wid ds a b := by
        rw [wid_sym a b]
        have := Int.mul_le_mul_of_nonneg_right ht1 hw
        omega
      omega
theorem Leg.high (hp : Pc ds r m P) {lo hi : Int} (h0 : 0 ≤ lo) (hhi : 0 ≤ hi) (hll : load.length = r) (hlo : ∀ b, b < r → -lo ≤ nth load b) (hup : ∀ b, b < r → nth load b ≤ hi) {x : List Int} (h : Leg ds r P load x) {a : Nat} (ha : a ∈ P) : nth (shL ds load x r) a ≤ r * (hi + lo) := by
  have hst := sum_stays (load := load) (s := x) (r := r) hp.nd hll ds (piece_keeps hp.hd hp.cl)
  rw [sum_nodup hp.nd hp.lt, sum_nodup hp.nd hp.lt] at hst
  have hlow := h.low hp h0 hll hlo
  have har := hp.lt a ha
  have e : sumR r (fun b => if b = a then nth (shL ds load x r) b + lo else 0) ≤ sumR r (fun b => (if b ∈ P then nth (shL ds load x r) b else 0) + lo) := by
    refine sumR_le2 fun b hb => ?_
    have := hlow b hb
    by_cases e : b = a
    · subst e; rw [if_pos rfl, if_pos ha]; omega
    · rw [if_neg e]; split <;> omega
  rw [sumR_pick har, sumR_add, hst, ← sumR_add] at e
  have e2 := sumR_le (n := r) (f := fun b => (if b ∈ P then nth load b else 0) + lo) (c := hi + lo) fun b hb => by
    have := hup b hb
    split <;> omega
  omega
end
end Bn

set_option Elab.async false
set_option linter.all false
set_option maxRecDepth 100000
set_option maxHeartbeats 4000000
/-! spills: the program's run of a piece, its mirror -/
namespace Bn
open PySem L2 Mi
local macro_rules | `(tactic| walk_at "s") => `(tactic| first | assumption | omega | exact rfl | (apply_assumption <;> assumption) | (simp; done) | (simp; omega))
local macro_rules | `(tactic| walk_at "ok") => `(tactic| first | exact rfl | exact okCs_of (by assumption) | assumption | (simp; done))
local macro_rules | `(tactic| walk_at "z") => `(tactic| first | exact fz_nil | ((with_reducible apply fz_c); walk_at "z") | ((with_reducible apply fz_f); exact rfl; walk_at "z") | ((with_reducible apply fz_p); exact rfl; walk_at "z") | ((with_reducible apply fz_d); exact rfl; walk_at "z"))
local macro_rules | `(tactic| walk_at "at") => `(tactic| first | assumption | exact atI_0 | exact atI_1 | exact atI_2 | exact atI_3 | ((with_reducible apply at_tabD); walk_at "s") | ((with_reducible apply at_tabT); walk_at "s") | ((with_reducible apply at_row); walk_at "s") | ((with_reducible apply at_natD); walk_at "s") | ((with_reducible apply at_ints); walk_at "s"))
local macro_rules | `(tactic| walk_at "o") => `(tactic| first | assumption | with_reducible exact opAdd_int | with_reducible exact opSub_int | with_reducible exact opNeg_int | with_reducible exact opLt_int | with_reducible exact opLe_int | with_reducible exact opGt_int | with_reducible exact opGe_int | with_reducible exact o_eq | with_reducible exact o_ne | ((with_reducible apply o_il); walk_at "at") | ((with_reducible apply o_it); walk_at "at") | ((with_reducible apply o_is); walk_at "at") | ((with_reducible apply o_ip); exact rfl; walk_at "at") | with_reducible exact o_sumT | with_reducible exact o_sumL | with_reducible exact cSumT_tup | with_reducible exact cSumT_lst | with_reducible exact cSum_ints | with_reducible exact o_lenD | with_reducible exact o_lenT | with_reducible exact o_lenN | with_reducible exact o_lenNt | with_reducible exact o_lenI | with_reducible exact o_lenIt | with_reducible exact cLen_lst | with_reducible exact cLen_tup | ((with_reducible apply o_lenp); exact rfl) | ((with_reducible apply o_lendic); exact rfl) | with_reducible exact sq_len | with_reducible exact o_inN | with_reducible exact o_ninN | with_reducible exact o_inNt | with_reducible exact o_ninNt | with_reducible exact in_ints | with_reducible exact notin_ints | with_reducible exact in_intsT | with_reducible exact notin_intsT | with_reducible exact cInt_int | with_reducible exact cInt_bl | with_reducible exact cTuple_lst | with_reducible exact cTuple_tup | ((with_reducible apply cTuple_cell); exact rfl) | with_reducible exact cList_lst | with_reducible exact cList_tup | with_reducible exact sq_list | with_reducible exact sq_tuple | with_reducible exact eq_intsL | with_reducible exact eq_intsT | with_reducible exact sq_isi | ((with_reducible apply opMod_int); walk_at "s") | ((with_reducible apply opDiv_int) <;> walk_at "s") | ((with_reducible apply opMul_int) <;> walk_at "s") | ((with_reducible apply opMul_one) <;> walk_at "s"))
local macro_rules | `(tactic| walk_at "f") => `(tactic| first | assumption | with_reducible assumption)
local macro_rules | `(tactic| walk_at "fv") => `(tactic| first | assumption)
local macro_rules | `(tactic| walk_at "or") => `(tactic| first | exact out_c | exact out_l | exact out_d)
local macro_rules | `(tactic| walk_at "cv") => `(tactic| first | exact ClV.c | exact ClV.n | exact ClV.d)
local macro_rules | `(tactic| walk_at "tb") => `(tactic| first | exact t_bl | exact t_int | exact truOf_lst | exact truOf_tup)
local macro_rules | `(tactic| walk_at "wipe") => `(tactic| (intro a; (try simp only [wipeS, List.set_cons_zero, List.set_cons_succ]); exact rfl))
local macro_rules | `(tactic| walk_at "ar") => `(tactic| first | with_reducible exact ev_nil | ((with_reducible apply ev_cons); (focus walk_at "e"); walk_at "ar"))
local macro_rules | `(tactic| walk_at "ct") => `(tactic| (intro a ha acc; walk_at "t"))
local macro_rules | `(tactic| walk_at "ce") => `(tactic| (intro a ha hp acc; (try simp only [decide_eq_true_eq, Bool.and_eq_true, Bool.or_eq_true, Bool.not_eq_true', decide_eq_false_iff_not] at hp); walk_at "e"))
local macro_rules | `(tactic| walk_at "cf") => `(tactic| (intro a ha acc; walk_at "e"))
local macro_rules | `(tactic| walk_at "lt") => `(tactic| first | (refine Or.inl ?_; walk_at "e") | (refine Or.inr ?_; walk_at "e"))
local macro_rules | `(tactic| walk_at "lc") => `(tactic| first | ((with_reducible apply ev_lcRF); (focus walk_at "ar"); (focus walk_at "s"); (focus walk_at "ok"); (focus walk_at "wipe"); (focus walk_at "cf"); (focus walk_at "ct")) | ((with_reducible apply ev_lcRM); (focus walk_at "ar"); (focus walk_at "s"); (focus walk_at "ok"); (focus walk_at "wipe"); (focus walk_at "cf")) | ((with_reducible apply ev_lcRI); (focus walk_at "ar"); (focus walk_at "s"); (focus walk_at "ok"); (focus walk_at "wipe"); (focus walk_at "ct"); (focus walk_at "ce")) | ((with_reducible apply ev_lcR); (focus walk_at "ar"); (focus walk_at "s"); (focus walk_at "ok"); (focus walk_at "wipe"); (focus walk_at "ct"); (focus walk_at "ce")) | ((with_reducible apply ev_lcNF); (focus walk_at "lt"); (focus walk_at "s"); (focus walk_at "ok"); (focus walk_at "wipe"); (focus walk_at "cf"); (focus walk_at "ct")) | ((with_reducible apply ev_lcNM); (focus walk_at "lt"); (focus walk_at "s"); (focus walk_at "ok"); (focus walk_at "wipe"); (focus walk_at "cf")) | ((with_reducible apply ev_lcNI); (focus walk_at "lt"); (focus walk_at "s"); (focus walk_at "ok"); (focus walk_at "wipe"); (focus walk_at "ct"); (focus walk_at "ce")) | ((with_reducible apply ev_lcL); (focus walk_at "lt"); (focus walk_at "s"); (focus walk_at "ok"); (focus walk_at "wipe"); (focus walk_at "ct"); (focus walk_at "ce")))
local macro_rules | `(tactic| walk_at "e") => `(tactic| first | with_reducible exact ev_c | with_reducible exact ev_dnew | ((with_reducible apply ev_var); exact rfl) | with_reducible assumption | ((with_reducible apply ev_op2); (focus walk_at "e"); (focus walk_at "e"); (focus walk_at "o")) | ((with_reducible apply ev_opN); (focus walk_at "ar"); (focus walk_at "o")) | ((with_reducible apply ev_op1); (focus walk_at "e"); (focus walk_at "o")) | ((with_reducible apply ev_tup); (focus walk_at "ar"); (focus walk_at "z"); (focus walk_at "s")) | ((with_reducible apply ev_lst); (focus walk_at "ar"); (focus walk_at "z"); (focus walk_at "s")) | ((with_reducible apply ev_vcall); (focus walk_at "ar"); (focus walk_at "z"); (focus walk_at "fv"); (focus walk_at "ok")) | walk_at "lc" | ((with_reducible apply ev_v); (focus walk_at "e"); (focus walk_at "cv"); (focus walk_at "ok")) | ((with_reducible apply ev_call); (focus walk_at "ar"); (focus walk_at "z"); (focus walk_at "f"); (focus walk_at "or")) | ((with_reducible apply ev_methB); (focus walk_at "e"); (focus decide +kernel); (focus walk_at "ar"); (focus walk_at "z"); (focus walk_at "f"); (focus walk_at "or")) | ((with_reducible apply ev_makeB); (focus walk_at "ar"); (focus walk_at "z"); (focus walk_at "f")) | ((with_reducible apply ev_rooms); (focus walk_at "e")) | ((with_reducible apply ev_ducts); (focus walk_at "e")) | ((with_reducible apply ev_widths); (focus walk_at "e")) | ((with_reducible apply ev_app); (focus walk_at "e"); (focus walk_at "ar"); (focus exact rfl); (focus exact rfl); (focus walk_at "s")) | ((with_reducible apply ev_callP); (focus walk_at "ar"); (focus exact rfl); (focus first | exact List.nodup_nil | exact List.nodup_singleton _ | (simp; done)); (focus exact rfl); (focus walk_at "f"); (focus exact rfl); (focus exact rfl)) | ((with_reducible apply ev_callB); (focus walk_at "ar"); (focus exact rfl); (focus exact rfl); (focus walk_at "f"); (focus first | exact rfl | exact noLs_natD _ | exact noLs_ints _); (focus walk_at "or")) | ((with_reducible apply ev_chain); (focus walk_at "e"); (focus walk_at "e"); (focus walk_at "o"); (focus (intro _; walk_at "e")); (focus (intro _; walk_at "o"))) | ((with_reducible apply ev_andV); (focus walk_at "e"); (intro hk; (try simp only [decide_eq_true_eq, Bool.and_eq_true, Bool.or_eq_true, Bool.not_eq_true', decide_eq_false_iff_not] at hk); walk_at "e")) | ((with_reducible apply ev_orV); (focus walk_at "e"); (intro hk; (try simp only [decide_eq_false_iff_not, Bool.and_eq_false_imp, Bool.or_eq_false_iff, Bool.not_eq_false'] at hk); walk_at "e")) | ((with_reducible apply ev_notV); (focus walk_at "e")) | ((with_reducible apply ev_ife); (focus walk_at "t"); (focus (intro hk; (try simp only [decide_eq_true_eq, Bool.and_eq_true, Bool.or_eq_true, Bool.not_eq_true', decide_eq_false_iff_not] at hk); walk_at "e")); (focus (intro hk; (try simp only [decide_eq_false_iff_not, Bool.and_eq_false_imp, Bool.or_eq_false_iff, Bool.not_eq_false'] at hk); walk_at "e"))))
local macro_rules | `(tactic| walk_at "t") => `(tactic| first | with_reducible exact ev_yes | with_reducible assumption | ((with_reducible apply ev_tst); (focus walk_at "e")) | ((with_reducible apply ev_tru); (focus walk_at "e"); (focus walk_at "tb")) | ((with_reducible apply ev_not); (focus walk_at "t")) | ((with_reducible apply ev_and); (focus walk_at "t"); (intro hk; (try simp only [decide_eq_true_eq, Bool.and_eq_true, Bool.or_eq_true, Bool.not_eq_true', decide_eq_false_iff_not] at hk); walk_at "t")) | ((with_reducible apply ev_or); (focus walk_at "t"); (intro hk; (try simp only [decide_eq_false_iff_not, Bool.and_eq_false_imp, Bool.or_eq_false_iff, Bool.not_eq_false'] at hk); walk_at "t")))
local macro_rules | `(tactic| walk_at "sl") => `(tactic| ((try simp only [List.set_cons_succ, List.set_cons_zero, List.length_nil, List.length_cons, Nat.zero_add, Nat.reduceAdd]); exact rfl))
local macro_rules | `(tactic| walk_at "cs") => `(tactic| ((try simp only [List.nil_append, List.cons_append, List.set_cons_succ, List.set_cons_zero, setL]); exact rfl))
local macro_rules | `(tactic| walk_at "g") => `(tactic| first | ((simp only [gT_tup, List.length_cons, List.length_nil, Nat.reduceAdd, if_true, List.map_cons, List.map_nil, gsCons_ap, gN_ap, Option.bind_some, gsNil_ap, List.set_cons_succ, List.set_cons_zero]); exact rfl) | exact rfl)
local macro_rules | `(tactic| walk_at "st") => `(tactic| first | with_reducible assumption | ((with_reducible apply st_asg); (focus walk_at "e"); (focus walk_at "sl")) | ((with_reducible apply st_asgG); (focus walk_at "e"); (focus walk_at "g")) | ((with_reducible apply st_drop); (focus walk_at "e")) | ((with_reducible apply st_seti); (focus walk_at "e"); (focus walk_at "e"); (focus walk_at "e"); (focus walk_at "sa")) | ((with_reducible apply st_augi); (focus walk_at "e"); (focus walk_at "e"); (focus exact rfl); (focus walk_at "ag"); (focus walk_at "e"); (focus walk_at "sa")) | ((with_reducible apply st_aug); (focus exact rfl); (focus walk_at "e"); (focus walk_at "sl")) | ((with_reducible apply st_dput); (focus walk_at "e"); (focus walk_at "e"); (focus walk_at "e"); (focus exact rfl); (focus exact rfl); (focus walk_at "s")))
local macro_rules | `(tactic| walk_at "sa") => `(tactic| first | assumption | ((with_reducible apply setAt0); walk_at "s") | ((with_reducible apply setAt1); walk_at "s") | ((with_reducible apply setAt2); walk_at "s"))
local macro_rules | `(tactic| walk_at "ag") => `(tactic| first | assumption | ((with_reducible apply ag_ints); walk_at "s"))
local macro_rules | `(tactic| walk_at "a") => `(tactic| first | with_reducible apply sx_pass | with_reducible apply sx_assoc | ((with_reducible apply sx_ret); (focus walk_at "e"); try dsimp only) | ((with_reducible apply sx_retE); (focus walk_at "e"); try dsimp only) | ((with_reducible apply sx_brk); try dsimp only) | ((with_reducible apply sx_brkE); try dsimp only) | ((with_reducible apply sx_cnt); try dsimp only) | ((with_reducible apply sx_cntE); try dsimp only) | ((with_reducible apply sx_passE); try dsimp only) | ((with_reducible apply sx_go); (focus walk_at "st"); (focus walk_at "cs")) | ((with_reducible apply sx_end); (focus walk_at "st"); (focus walk_at "cs"); try dsimp only))
local macro_rules | `(tactic| walk_at "i") => `(tactic| first | ((with_reducible apply sx_if); (focus walk_at "t")) | ((with_reducible apply sx_ifE); (focus walk_at "t")))
local macro_rules | `(tactic| walk_at "sa") => `(tactic| first | assumption | ((with_reducible apply setAt0); walk_at "s") | ((with_reducible apply setAt1); walk_at "s") | ((with_reducible apply setAt2); walk_at "s") | ((with_reducible apply setAtG0); walk_at "s") | ((with_reducible apply setAtG1); walk_at "s"))
local macro_rules | `(tactic| walk_at "fv") => `(tactic| first | assumption | exact val_c (by walk_at "f") | exact val_l (by walk_at "f") | exact val_d (by walk_at "f"))
local macro_rules | `(tactic| walk_at "f") => `(tactic| first | assumption | (apply_assumption <;> walk_at "s"))
section
variable {ds : List Du} {r : Nat} {m : Int} {P : List Nat} {load : List Int}
/-- what the run of a piece tells -/
structure RunOk (ds : List Du) (r : Nat) (P : List Nat) (load : List Int) (still : Bool) (x : List Int) (ks : List Nat) (T : Nat → Int) : Prop where
  ri : ∃ n, RI ds r P load x ks T n
  yes : still = true → stable ds r P (shL ds load x r)
  no : still = false → ∀ a ∈ P, a ∈ ks
def dcN (ks : List Nat) (T : Nat → Int) : Cl := .dic (ks.map kN) (ks.map fun b => .int (T b))
def dctN (ks : List Nat) (T : Nat → Int) : Dt := .dic (ks.map kN) (ks.map fun b => .int (T b))
theorem ks_len {ks : List Nat} (hp : Pc ds r m P) {x : List Int} {T : Nat → Int} {n : Int} (h : RI ds r P load x ks T n) : ks.length ≤ r := len_le_of_nodup h.nd fun a ha => hp.lt a (h.sub a ha)
theorem runIn (t : Bool) (hp : Pc ds r m P) (hr : r ≤ 8) (hm : m * ds.length ≤ 100000) (hll : load.length = r) (hlx : ∀ x ∈ load, -200 ≤ x ∧ x ≤ 200) {x : List Int} {ks : List Nat} {T : Nat → Int} {n : Int} (h : RI ds r P load x ks T n) {x8 x9 x10 : Option Lv} {Q : Fl → Cs → Prop}
    (hq : ∀ x' ks' T' n' st x8 x9 x10, RI ds r P load x' ks' T' n' → (st = true ∧ x' = x ∧ stable ds r P (shL ds load x r) ∨ st = false ∧ cnt r x < cnt r x') → Q (.nx [some (.c (.tup (tabT (tabW r ds)))), some (.c (.tup (natD P))), some (.c (sqD t (load.map .int))), some (.p 0), some (.p 1), some (.p 2), some (.c (.int n')), some (.c (.bl st)), x8, x9, x10]) [.lst ((shL ds load x' r).map .int), .lst (x'.map .int), dcN ks' T']) :
    Wp (l_run_piece_1 [some (.c (.tup (tabT (tabW r ds)))), some (.c (.tup (natD P))), some (.c (sqD t (load.map .int))), some (.p 0), some (.p 1), some (.p 2), some (.c (.int n)), some (.c (.bl true)), x8, x9, x10] [.lst ((shL ds load x r).map .int), .lst (x.map .int), dcN ks T]) Q := by
  unfold l_run_piece_1
  refine wp_forL (f := fun n : Nat => Dt.int (n : Int)) P (fun i sl cs => ∃ x' ks' T' n' st x8 x9 x10, RI ds r P load x' ks' T' n' ∧ (st = true ∧ x' = x ∧ (∀ a ∈ P.take i, isFull ds r (shL ds load x r) a = false) ∨ st = false ∧ cnt r x < cnt r x') ∧ sl = [some (.c (.tup (tabT (tabW r ds)))), some (.c (.tup (natD P))), some (.c (sqD t (load.map .int))), some (.p 0), some (.p 1), some (.p 2), some (.c (.int n')), some (.c (.bl st)), x8, x9, x10] ∧ cs = [.lst ((shL ds load x' r).map .int), .lst (x'.map .int), dcN ks' T']) (.inr rfl) ⟨x, ks, T, n, true, _, _, _, h, .inl ⟨rfl, rfl, by simp⟩, rfl, rfl⟩ ?_ ?_
  · rintro i hi sl cs ⟨x', ks', T', n', st, x8, x9, x10, h', hst, rfl, rfl⟩
    have hmem : P[i] ∈ P := List.getElem_mem hi
    have htk : P.take (i + 1) = P.take i ++ [P[i]] := by simp
    rw [htk]
    generalize P[i] = a at *
    have har := hp.lt a hmem
    have hl := h'.leg.len
    simp only [List.set_cons_succ, List.set_cons_zero]
    have hlen : (shL ds load x' r).length = r := shL_len
    unfold lb_run_piece_1
    walk_at "a"
    walk_at "i"
    · intro hf
      simp only [Bool.and_eq_true, decide_eq_true_eq] at hf
      obtain ⟨f1, f2⟩ := hf
      have hb : ∀ b, b < r → -200 ≤ nth load b ∧ nth load b ≤ 200 := fun b hb => hlx _ (nth_mem (by omega))
      have hhi := h'.leg.high hp (lo := 200) (hi := 200) (by omega) (by omega) hll (fun b hb' => (hb b hb').1) (fun b hb' => (hb b hb').2) hmem
      have hsp := spr_le (r := r) (a := a) hp.hd
      have hrm : (r : Int) * (m * ds.length) ≤ 8 * 100000 := Int.mul_le_mul (by omega) hm (mds_nonneg hp.hd) (by omega)
      have hd1 : 1 ≤ nth (shL ds load x' r) a / spr ds r a := (Int.le_ediv_iff_mul_le f1).mpr (by omega)
      have hd2 : nth (shL ds load x' r) a / spr ds r a * spr ds r a ≤ nth (shL ds load x' r) a := Int.ediv_mul_le _ (by omega)
      have hd3 : nth (shL ds load x' r) a / spr ds r a ≤ 8 * 400 := by
        have : nth (shL ds load x' r) a / spr ds r a ≤ nth (shL ds load x' r) a := Int.ediv_le_self _ (by omega)
        have : (r : Int) * (200 + 200) ≤ 8 * 400 := by omega
        omega
      have hstep := h'.step hp hmem f1 hd1 hd2
      have hg := give_ok r ds m (shL ds load x' r) a (nth (shL ds load x' r) a / spr ds r a) (by omega) hp.hd hm shL_len har (by omega) (by omega) (by omega)
      rw [← shL_incK hp.hd hl har] at hg
      have hkl := ks_len hp h'
      unfold dcN
      walk_at "a"
      generalize nth (shL ds load x' r) a / spr ds r a = t at *
      walk_at "a"
      walk_at "a"
      walk_at "a"
      walk_at "a"
      walk_at "a"
      rw [putKD_N h'.nd]
      refine ⟨_, _, _, _, _, _, _, _, hstep, .inr ⟨rfl, ?_⟩, rfl, rfl⟩
      rw [cnt_inc har hl]
      rcases hst with ⟨_, rfl, _⟩ | ⟨_, q⟩ <;> omega
    · intro hf
      walk_at "a"
      refine ⟨x', ks', T', n', st, _, _, _, h', ?_, rfl, rfl⟩
      rcases hst with ⟨q1, rfl, q2⟩ | q
      · refine .inl ⟨q1, rfl, fun b hb => ?_⟩
        rcases List.mem_append.mp hb with q | q
        · exact q2 b q
        · rw [List.mem_singleton.mp q]
          unfold isFull
          simpa using hf
      · exact .inr q
  · rintro sl cs ⟨x', ks', T', n', st, x8, x9, x10, h', hst, rfl, rfl⟩
    refine hq _ _ _ _ _ _ _ _ h' ?_
    rcases hst with ⟨q1, q2, q3⟩ | q
    · rw [List.take_length] at q3
      exact .inl ⟨q1, q2, q3⟩
    · exact .inr q
theorem run_piece_ok (t : Bool) (hp : Pc ds r m P) (hr : r ≤ 8) (hm : m * ds.length ≤ 100000) (hll : load.length = r) (hlx : ∀ x ∈ load, -200 ≤ x ∧ x ≤ 200) : ∃ st x ks T, m_run_piece [.tup (tabT (tabW r ds)), .tup (natD P), sqD t (load.map .int)] = .ret (.c (.tup [.bl st, .lst ((shL ds load x r).map .int), .lst (x.map .int), dctN ks T])) ∧ RunOk ds r P load st x ks T := by
  have hb : ∀ b, b < r → -200 ≤ nth load b ∧ nth load b ≤ 200 := fun b hb => hlx _ (nth_mem (by omega))
  refine runF_R (n := 3) (k := 8) (body := b_run_piece) (R := fun o => ∃ st x ks T, o = .ret (.c (.tup [.bl st, .lst ((shL ds load x r).map .int), .lst (x.map .int), dctN ks T])) ∧ RunOk ds r P load st x ks T) rfl ?_
  unfold b_run_piece
  simp only [List.map_cons, List.map_nil, List.cons_append, List.nil_append, List.replicate]
  walk_at "a"
  walk_at "a"
  walk_at "a"
  walk_at "a"
  simp only [Int.toNat_natCast]
  have e0 : shL ds load (List.replicate r 0) r = load := by
    refine list_ext (by rw [shL_len]; omega) fun b hb => ?_
    rw [shL_len] at hb
    rw [shL_nth hb]
    have : lost ds (List.replicate r 0) r b = 0 := by
      unfold lost
      exact sumR_zeros fun c _ => by rw [nth_rep, nth_rep]; simp
    omega
  unfold l_run_piece_2
  refine wp_while (fun k sl cs => ∃ x ks T n x7 x8 x9 x10, RI ds r P load x ks T n ∧ (∃ v ∈ P, v ∉ ks) ∧ (204801 - cnt r x).toNat + 1 = k ∧ sl = [some (.c (.tup (tabT (tabW r ds)))), some (.c (.tup (natD P))), some (.c (sqD t (load.map .int))), some (.p 0), some (.p 1), some (.p 2), some (.c (.int n)), x7, x8, x9, x10] ∧ cs = [.lst ((shL ds load x r).map .int), .lst (x.map .int), dcN ks T]) (204801 - cnt r (List.replicate r 0)).toNat.succ ?_ ?_ ?_
  · refine ⟨List.replicate r 0, [], _, 0, _, _, _, _, .start, ?_, rfl, rfl, ?_⟩
    · obtain ⟨v, hv⟩ := List.exists_mem_of_ne_nil P hp.ne
      exact ⟨v, hv, by simp⟩
    · rw [e0]
      simp [dcN]
  · have : 0 ≤ cnt r (List.replicate r 0) := by
      unfold cnt
      rw [sumR_zeros fun b _ => nth_rep]; exact Int.le_refl _
    omega
  · rintro k sl cs ⟨x, ks, T, n, x7, x8, x9, x10, h, ⟨v, hv, hvk⟩, hk, rfl, rfl⟩
    unfold lt_run_piece_2
    have hcf : cnt r x ≤ 204800 := by
      have h0 : nth x v = 0 := by
        have := (h.leg.nn hp.lt v).1
        have := mt (h.one v hv).mpr hvk
        omega
      have := cnt_few hp (lo := 200) (hi := 200) (by omega) (by omega) hll (fun b hb' => (hb b hb').1) (fun b hb' => (hb b hb').2) h.leg hv h0
      have h2 : (r : Int) * ((r * (200 + 200)) * r) ≤ 8 * ((8 * 400) * 8) := by
        have a1 : (r : Int) * (200 + 200) ≤ 8 * 400 := by omega
        have a2 : (r : Int) * (200 + 200) * r ≤ (8 * 400) * 8 := Int.mul_le_mul a1 (by omega) (by omega) (by omega)
        exact Int.mul_le_mul (by omega) a2 (Int.mul_nonneg (by omega) (by omega)) (by omega)
      omega
    refine wp_of (a := true) (cs := [.lst ((shL ds load x r).map .int), .lst (x.map .int), dcN ks T]) (by walk_at "t") ?_
    rw [if_pos rfl]
    unfold lb_run_piece_2
    walk_at "a"
    refine wp_seq.mpr (runIn t hp hr hm hll hlx h fun x' ks' T' n' st x8 x9 x10 h' hst => ?_)
    dsimp only
    unfold dcN
    walk_at "i"
    · intro hc
      walk_at "a"
      refine ⟨st, x', ks', T', rfl, ⟨_, h'⟩, fun z => ?_, fun z => ?_⟩
      · rcases hst with ⟨_, rfl, q⟩ | ⟨q, _⟩
        · exact q
        · rw [z] at q; cases q
      · rw [z] at hc
        have hlen : ks'.length = P.length := by
          simp at hc
          omega
        intro a ha
        exact Classical.byContradiction fun z => by
          have := len_le_sub (S := a :: ks') (T := P) (List.nodup_cons.mpr ⟨z, h'.nd⟩) fun y hy => by
            rcases List.mem_cons.mp hy with rfl | q
            · exact ha
            · exact h'.sub y q
          simp at this
          omega
    · intro hc
      walk_at "a"
      simp only [Bool.or_eq_false_iff, decide_eq_false_iff_not] at hc
      obtain ⟨hc1, hc2⟩ := hc
      have hlt : cnt r x < cnt r x' := by
        rcases hst with ⟨q, _⟩ | ⟨_, q⟩
        · rw [hc1] at q; cases q
        · exact q
      refine ⟨(204801 - cnt r x').toNat + 1, by omega, x', ks', T', n', _, _, _, _, h', ?_, rfl, rfl, rfl⟩
      refine Classical.byContradiction fun z => hc2 ?_
      have h1 := len_le_sub (S := P) (T := ks') hp.nd fun a ha => Classical.byContradiction fun y => z ⟨a, ha, y⟩
      have h2 := len_le_sub (S := ks') (T := P) h'.nd h'.sub
      have : ks'.length = P.length := by omega
      simp
      omega
end
end Bn

set_option Elab.async false
set_option linter.all false
set_option maxRecDepth 100000
set_option maxHeartbeats 4000000
/-! spills: the verdict of a piece, and ticks -/
namespace Bn
open PySem L2 Mi
section
variable {ds : List Du} {r : Nat} {m : Int} {P : List Nat} {load : List Int}
open Classical in
noncomputable def verd (ds : List Du) (r : Nat) (P : List Nat) (load : List Int) : Option (List Int) := if h : ∃ o, Verd ds r P load o then choose h else none
theorem verd_of (hp : Pc ds r m P) {o : Option (List Int)} (h : Verd ds r P load o) : verd ds r P load = o := by
  have he : ∃ o, Verd ds r P load o := ⟨o, h⟩
  unfold verd
  rw [dif_pos he]
  exact verd_uniq hp (Classical.choose_spec he) h
theorem RunOk.verd {st : Bool} {x : List Int} {ks : List Nat} {T : Nat → Int} (h : RunOk ds r P load st x ks T) : Verd ds r P load (if st = true then some x else none) := by
  obtain ⟨n, hr⟩ := h.ri
  cases e : st with
  | true => exact .calm hr.leg (h.yes e)
  | false => exact .never hr.leg fun a ha => (hr.one a ha).mp (h.no e a ha)
theorem verd_ok (hp : Pc ds r m P) (hr : r ≤ 8) (hm : m * ds.length ≤ 100000) (hll : load.length = r) (hlx : ∀ x ∈ load, -200 ≤ x ∧ x ≤ 200) : Verd ds r P load (verd ds r P load) := by
  obtain ⟨st, x, ks, T, _, h⟩ := run_piece_ok true hp hr hm hll hlx
  have := h.verd
  rwa [verd_of hp this]
theorem pieceOf_eqW {a b : Nat} (h : b ∈ pieceOf (AdjW ds) r a) : pieceOf (AdjW ds) r b = pieceOf (AdjW ds) r a := by
  unfold pieceOf
  refine List.filter_congr fun c _ => ?_
  have hab := (pieceOf_mem.mp h).2
  have : Rch (AdjW ds) b c ↔ Rch (AdjW ds) a c := ⟨fun z => hab.trans z, fun z => (hab.symm AdjW.symm).trans z⟩
  simp [this]
theorem pieces_mem {Q : List Nat} (h : Q ∈ piecesOf (AdjW ds) r) : ∃ a, a < r ∧ Q = pieceOf (AdjW ds) r a := by
  unfold piecesOf at h
  obtain ⟨a, ha, rfl⟩ := List.mem_map.mp h
  unfold repsOf at ha
  exact ⟨a, List.mem_range.mp (List.mem_filter.mp ha).1, rfl⟩
theorem pieces_all : ∀ {a : Nat}, a < r → pieceOf (AdjW ds) r a ∈ piecesOf (AdjW ds) r := by
  intro a
  induction a using Nat.strongRecOn with
  | _ a ih =>
    intro ha
    by_cases h : ∀ y, y < a → ¬ Rch (AdjW ds) y a
    · unfold piecesOf repsOf
      exact List.mem_map.mpr ⟨a, List.mem_filter.mpr ⟨List.mem_range.mpr ha, by simpa using h⟩, rfl⟩
    · obtain ⟨y, hy, hya⟩ : ∃ y, y < a ∧ Rch (AdjW ds) y a := Classical.byContradiction fun z => h fun y hy q => z ⟨y, hy, q⟩
      have := ih y hy (by omega)
      rwa [← pieceOf_eqW (pieceOf_mem.mpr ⟨ha, hya⟩)] at this
/-- what spill tells of a room -/
noncomputable def spV (ds : List Du) (r : Nat) (load : List Int) (a : Nat) : Option Int := (verd ds r (pieceOf (AdjW ds) r a) load).map fun x => nth x a
noncomputable def spU (ds : List Du) (r : Nat) (load : List Int) (a : Nat) : Option Int := (verd ds r (pieceOf (AdjW ds) r a) load).map fun x => nth (shL ds load x r) a
def optD : Option Int → Dt
  | none => .non
  | some i => .int i
theorem set_rng {α : Type} {F : Nat → α} {a : Nat} {d : α} : ((List.range r).map F).set a d = (List.range r).map fun b => if b = a then d else F b := by
  apply List.ext_getElem
  · simp
  · intro i h1 h2
    rw [List.getElem_set]
    simp
    by_cases e : a = i
    · subst e; simp
    · have : ¬ i = a := fun z => e z.symm
      simp [e, this]
/-- legal vents are never more than vents that lead to calm rooms -/
theorem least0 (hd : ∀ d ∈ ds, DuOk r m d) (hlt : ∀ x ∈ P, x < r) {x y : List Int} (h : Leg ds r P load x) (hy : ∀ b, 0 ≤ nth y b) (hs : stable ds r P (shL ds load y r)) : ∀ b, nth x b ≤ nth y b := by
  induction h with
  | zero => intro b; rw [nth_rep]; exact hy b
  | step h ha hf ih =>
    rename_i x a
    intro b
    have hl := h.len
    have har := hlt _ ha
    rw [incK_nth (by omega)]
    by_cases e : b = a
    · subst e
      rw [if_pos rfl]
      have h1 := ih b
      by_cases z : nth x b = nth y b
      · have hm := lost_mono (r := r) hd z ih
        have h2 := hs b ha
        unfold isFull at hf h2
        rw [shL_nth har] at hf h2
        simp only [Bool.and_eq_true, decide_eq_true_eq] at hf
        simp only [Bool.and_eq_false_imp, decide_eq_true_eq, decide_eq_false_iff_not] at h2
        have := h2 hf.1
        omega
      · omega
    · rw [if_neg e]
      have := ih b
      omega
/-- each room of S once more -/
def addS (x : List Int) (S : List Nat) (r : Nat) : List Int := (List.range r).map fun b => nth x b + if b ∈ S then 1 else 0
theorem addS_len {x : List Int} {S : List Nat} : (addS x S r).length = r := by simp [addS]
theorem addS_nth {x : List Int} {S : List Nat} {b : Nat} (h : b < r) : nth (addS x S r) b = nth x b + if b ∈ S then 1 else 0 := by
  rw [nth_get (by rw [addS_len]; exact h)]
  simp [addS]
theorem nth_out {x : List Int} {b : Nat} (h : x.length ≤ b) : nth x b = 0 := by
  unfold nth
  simp [h]
theorem tickLeg (hd : ∀ d ∈ ds, DuOk r m d) {x : List Int} (h : Leg ds r (List.range r) load x) : ∀ S : List Nat, S.Nodup → (∀ a ∈ S, a ∈ fullL ds r (shL ds load x r)) → Leg ds r (List.range r) load (addS x S r) := by
  intro S
  induction S using snoc_ind with
  | h0 =>
    intro _ _
    have : addS x [] r = x := list_ext (by rw [addS_len, h.len]) fun b hb => by
      rw [addS_len] at hb
      rw [addS_nth hb]; simp
    rw [this]; exact h
  | h1 S a ih =>
    intro hn hS
    rw [List.nodup_append] at hn
    obtain ⟨n1, _, n2⟩ := hn
    have hf := hS a (by simp)
    have har := fullL_lt hf
    have haS : a ∉ S := fun z => n2 a z a (by simp) rfl
    have e : addS x (S ++ [a]) r = incK (addS x S r) a 1 := list_ext (by rw [addS_len, incK_len, addS_len]) fun b hb => by
      rw [addS_len] at hb
      rw [incK_nth (by rw [addS_len]; omega), addS_nth hb, addS_nth hb]
      by_cases z : b = a
      · subst z; simp [haS]
      · simp [z]
    rw [e]
    refine .step (ih n1 fun b hb => hS b (by simp [hb])) (List.mem_range.mpr har) ?_
    have hf2 := (List.mem_filter.mp hf).2
    have hz : nth x a = nth (addS x S r) a := by rw [addS_nth har, if_neg haS]; omega
    have hm := lost_mono (r := r) hd hz fun b => by
      by_cases hb : b < r
      · rw [addS_nth hb]; split <;> omega
      · rw [nth_out (x := x) (by rw [h.len]; omega), nth_out (x := addS x S r) (by rw [addS_len]; omega)]; exact Int.le_refl _
    unfold isFull at hf2 ⊢
    rw [shL_nth har] at hf2 ⊢
    simp only [Bool.and_eq_true, decide_eq_true_eq] at hf2 ⊢
    omega
theorem shL_addS {x : List Int} {S : List Nat} : shL ds load (addS x S r) r = shL ds (shL ds load x r) (onceL S r) r := by
  refine list_ext (by rw [shL_len, shL_len]) fun b hb => ?_
  rw [shL_len] at hb
  rw [shL_nth hb, shL_nth hb, shL_nth hb]
  have e : lost ds (addS x S r) r b = lost ds x r b + lost ds (onceL S r) r b := by
    unfold lost
    rw [← sumR_add]
    refine sumR_congr fun c hc => ?_
    rw [addS_nth hb, addS_nth hc, ← Int.mul_add]
    congr 1
    have h1 : ∀ k, k < r → nth (onceL S r) k = if k ∈ S then 1 else 0 := fun k hk => by
      rw [nth_get (by rw [onceL_len]; exact hk)]
      simp [onceL]
    rw [h1 b hb, h1 c hc]
    omega
  omega
theorem cnt_addS {x : List Int} {S : List Nat} {a : Nat} (ha : a ∈ S) (har : a < r) : cnt r x < cnt r (addS x S r) := by
  unfold cnt
  have : ∀ b, b < r → nth (addS x S r) b = nth x b + if b ∈ S then 1 else 0 := fun b hb => addS_nth hb
  rw [sumR_congr this, sumR_add]
  have h2 := sumR_le2 (n := r) (f := fun b => if b = a then 1 else 0) (g := fun b => if b ∈ S then 1 else 0) fun b _ => by
    by_cases z : b = a
    · subst z; simp [ha]
    · rw [if_neg z]; split <;> omega
  rw [sumR_pick (f := fun _ => 1) har] at h2
  omega
end
/-! ### all pieces end -/
section
variable {ds : List Du} {r : Nat} {m : Int} {load : List Int}
/-- the vents of the spill, where each piece ends -/
noncomputable def spY (ds : List Du) (r : Nat) (load : List Int) : List Int := (List.range r).map fun a => (spV ds r load a).getD 0
theorem spY_len : (spY ds r load).length = r := by simp [spY]
theorem spY_nth {a : Nat} (h : a < r) : nth (spY ds r load) a = (spV ds r load a).getD 0 := by
  rw [nth_get (by rw [spY_len]; exact h)]
  simp [spY]
structure Ends' (ds : List Du) (r : Nat) (m : Int) (load : List Int) : Prop where
  hd : ∀ d ∈ ds, DuOk r m d
  hr : r ≤ 8
  hm : m * ds.length ≤ 100000
  hll : load.length = r
  hlx : ∀ x ∈ load, -200 ≤ x ∧ x ≤ 200
  all : ∀ a, a < r → spV ds r load a ≠ none
theorem Ends'.at (h : Ends' ds r m load) {a : Nat} (ha : a < r) : ∃ x, verd ds r (pieceOf (AdjW ds) r a) load = some x ∧ Leg ds r (pieceOf (AdjW ds) r a) load x ∧ stable ds r (pieceOf (AdjW ds) r a) (shL ds load x r) ∧ ∀ b ∈ pieceOf (AdjW ds) r a, nth (spY ds r load) b = nth x b ∧ nth (shL ds load (spY ds r load) r) b = nth (shL ds load x r) b := by
  have hp := pc_of (a := a) h.hd ha
  have hv := verd_ok hp h.hr h.hm h.hll h.hlx
  have hne := h.all a ha
  unfold spV at hne
  cases e : verd ds r (pieceOf (AdjW ds) r a) load with
  | none => rw [e] at hne; exact absurd rfl hne
  | some x =>
    rw [e] at hv
    cases hv with
    | calm hl hs =>
      have e1 : ∀ b ∈ pieceOf (AdjW ds) r a, nth (spY ds r load) b = nth x b := fun b hb => by
        rw [spY_nth (hp.lt b hb)]
        unfold spV
        rw [pieceOf_eqW hb, e]; rfl
      refine ⟨x, rfl, hl, hs, fun b hb => ⟨e1 b hb, ?_⟩⟩
      have hbr := hp.lt b hb
      rw [shL_nth hbr, shL_nth hbr]
      congr 1
      unfold lost
      refine sumR_congr fun c hc => ?_
      by_cases z : c ∈ pieceOf (AdjW ds) r a
      · rw [e1 b hb, e1 c z]
      · have : wid ds b c = 0 := by
          have h0 := wid_nonneg (a := b) (b := c) h.hd
          by_cases y : 0 < wid ds b c
          · exact absurd (hp.cl b hb c y) z
          · omega
        rw [this]; simp
theorem Ends'.nn (h : Ends' ds r m load) (b : Nat) : 0 ≤ nth (spY ds r load) b := by
  by_cases hb : b < r
  · obtain ⟨x, _, hl, _, he⟩ := h.at hb
    have hm : b ∈ pieceOf (AdjW ds) r b := pieceOf_mem.mpr ⟨hb, .refl⟩
    rw [(he b hm).1]
    exact (hl.nn (pc_of h.hd hb).lt b).1
  · rw [nth_out (by rw [spY_len]; omega)]; exact Int.le_refl _
theorem Ends'.st (h : Ends' ds r m load) : stable ds r (List.range r) (shL ds load (spY ds r load) r) := by
  intro a ha
  have har := List.mem_range.mp ha
  obtain ⟨x, _, hl, hs, he⟩ := h.at har
  have hm : a ∈ pieceOf (AdjW ds) r a := pieceOf_mem.mpr ⟨har, .refl⟩
  have := hs a hm
  unfold isFull at this ⊢
  rw [(he a hm).2]; exact this
theorem Ends'.le (h : Ends' ds r m load) {x : List Int} (hx : Leg ds r (List.range r) load x) : ∀ b, nth x b ≤ nth (spY ds r load) b := least0 h.hd (fun x hx => List.mem_range.mp hx) hx h.nn h.st
/-- where the ticks end, the vents are the spill's -/
theorem Ends'.eq (h : Ends' ds r m load) {x : List Int} (hx : Leg ds r (List.range r) load x) (hs : fullL ds r (shL ds load x r) = []) : x = spY ds r load := by
  refine list_ext (by rw [spY_len, hx.len]) fun b hb => ?_
  rw [hx.len] at hb
  have h1 := h.le hx b
  obtain ⟨y, _, hl, _, he⟩ := h.at hb
  have hm : b ∈ pieceOf (AdjW ds) r b := pieceOf_mem.mpr ⟨hb, .refl⟩
  have hp := pc_of (a := b) h.hd hb
  have h2 := least hp hl (fun c => (hx.nn (fun x hx => List.mem_range.mp hx) c).1) (fun a ha => by
    cases e : isFull ds r (shL ds load x r) a with
    | false => rfl
    | true =>
      have : a ∈ fullL ds r (shL ds load x r) := List.mem_filter.mpr ⟨List.mem_range.mpr (hp.lt a ha), e⟩
      rw [hs] at this; cases this) b
  rw [(he b hm).1] at h1 ⊢
  omega
/-- each room of an ending piece vents few times -/
theorem Ends'.few (h : Ends' ds r m load) {lo hi : Int} (h0 : 0 ≤ lo) (hhi : 0 ≤ hi) (hlo : ∀ b, b < r → -lo ≤ nth load b) (hup : ∀ b, b < r → nth load b ≤ hi) : cnt r (spY ds r load) ≤ r * ((r * (hi + lo)) * r) := by
  unfold cnt
  refine sumR_le fun b hb => ?_
  obtain ⟨x, _, hl, hs, he⟩ := h.at hb
  have hm : b ∈ pieceOf (AdjW ds) r b := pieceOf_mem.mpr ⟨hb, .refl⟩
  have hp := pc_of (a := b) h.hd hb
  rw [(he b hm).1]
  obtain ⟨v, hv, hv0⟩ : ∃ v ∈ pieceOf (AdjW ds) r b, nth x v = 0 := Classical.byContradiction fun z => by
    have hall : ∀ a ∈ pieceOf (AdjW ds) r b, 1 ≤ nth x a := fun a ha => by
      have h1 := (hl.nn hp.lt a).1
      have h2 : nth x a ≠ 0 := fun e => z ⟨a, ha, e⟩
      omega
    have := verd_uniq hp (.calm hl hs) (.never hl hall)
    cases this
  exact Bn.few hp h0 hhi h.hll hlo hup hl hv hv0 b hm
end
end Bn

set_option Elab.async false
set_option linter.all false
set_option maxRecDepth 100000
set_option maxHeartbeats 4000000
/-! spills: the program's spill and ticks, their mirrors -/
namespace Bn
open PySem L2 Mi
local macro_rules | `(tactic| walk_at "s") => `(tactic| first | assumption | omega | exact rfl | (apply_assumption <;> assumption) | (simp; done) | (simp; omega))
local macro_rules | `(tactic| walk_at "ok") => `(tactic| first | exact rfl | exact okCs_of (by assumption) | assumption | (simp; done))
local macro_rules | `(tactic| walk_at "z") => `(tactic| first | exact fz_nil | ((with_reducible apply fz_c); walk_at "z") | ((with_reducible apply fz_f); exact rfl; walk_at "z") | ((with_reducible apply fz_p); exact rfl; walk_at "z") | ((with_reducible apply fz_d); exact rfl; walk_at "z"))
local macro_rules | `(tactic| walk_at "at") => `(tactic| first | assumption | exact atI_0 | exact atI_1 | exact atI_2 | exact atI_3 | ((with_reducible apply at_tabD); walk_at "s") | ((with_reducible apply at_tabT); walk_at "s") | ((with_reducible apply at_row); walk_at "s") | ((with_reducible apply at_natD); walk_at "s") | ((with_reducible apply at_ints); walk_at "s"))
local macro_rules | `(tactic| walk_at "o") => `(tactic| first | assumption | with_reducible exact opAdd_int | with_reducible exact opSub_int | with_reducible exact opNeg_int | with_reducible exact opLt_int | with_reducible exact opLe_int | with_reducible exact opGt_int | with_reducible exact opGe_int | with_reducible exact o_eq | with_reducible exact o_ne | ((with_reducible apply o_il); walk_at "at") | ((with_reducible apply o_it); walk_at "at") | ((with_reducible apply o_is); walk_at "at") | ((with_reducible apply o_ip); exact rfl; walk_at "at") | with_reducible exact o_sumT | with_reducible exact o_sumL | with_reducible exact cSumT_tup | with_reducible exact cSumT_lst | with_reducible exact cSum_ints | with_reducible exact o_lenD | with_reducible exact o_lenT | with_reducible exact o_lenN | with_reducible exact o_lenNt | with_reducible exact o_lenI | with_reducible exact o_lenIt | with_reducible exact cLen_lst | with_reducible exact cLen_tup | ((with_reducible apply o_lenp); exact rfl) | ((with_reducible apply o_lendic); exact rfl) | with_reducible exact sq_len | with_reducible exact o_inN | with_reducible exact o_ninN | with_reducible exact o_inNt | with_reducible exact o_ninNt | with_reducible exact in_ints | with_reducible exact notin_ints | with_reducible exact in_intsT | with_reducible exact notin_intsT | with_reducible exact cInt_int | with_reducible exact cInt_bl | with_reducible exact cTuple_lst | with_reducible exact cTuple_tup | ((with_reducible apply cTuple_cell); exact rfl) | with_reducible exact cList_lst | with_reducible exact cList_tup | with_reducible exact sq_list | with_reducible exact sq_tuple | with_reducible exact eq_intsL | with_reducible exact eq_intsT | with_reducible exact sq_isi | ((with_reducible apply opMod_int); walk_at "s") | ((with_reducible apply opDiv_int) <;> walk_at "s") | ((with_reducible apply opMul_int) <;> walk_at "s") | ((with_reducible apply opMul_one) <;> walk_at "s"))
local macro_rules | `(tactic| walk_at "f") => `(tactic| first | assumption | with_reducible assumption)
local macro_rules | `(tactic| walk_at "fv") => `(tactic| first | assumption)
local macro_rules | `(tactic| walk_at "or") => `(tactic| first | exact out_c | exact out_l | exact out_d)
local macro_rules | `(tactic| walk_at "cv") => `(tactic| first | exact ClV.c | exact ClV.n | exact ClV.d)
local macro_rules | `(tactic| walk_at "tb") => `(tactic| first | exact t_bl | exact t_int | exact truOf_lst | exact truOf_tup)
local macro_rules | `(tactic| walk_at "wipe") => `(tactic| (intro a; (try simp only [wipeS, List.set_cons_zero, List.set_cons_succ]); exact rfl))
local macro_rules | `(tactic| walk_at "ar") => `(tactic| first | with_reducible exact ev_nil | ((with_reducible apply ev_cons); (focus walk_at "e"); walk_at "ar"))
local macro_rules | `(tactic| walk_at "ct") => `(tactic| (intro a ha acc; walk_at "t"))
local macro_rules | `(tactic| walk_at "ce") => `(tactic| (intro a ha hp acc; (try simp only [decide_eq_true_eq, Bool.and_eq_true, Bool.or_eq_true, Bool.not_eq_true', decide_eq_false_iff_not] at hp); walk_at "e"))
local macro_rules | `(tactic| walk_at "cf") => `(tactic| (intro a ha acc; walk_at "e"))
local macro_rules | `(tactic| walk_at "lt") => `(tactic| first | (refine Or.inl ?_; walk_at "e") | (refine Or.inr ?_; walk_at "e"))
local macro_rules | `(tactic| walk_at "lc") => `(tactic| first | ((with_reducible apply ev_lcRF); (focus walk_at "ar"); (focus walk_at "s"); (focus walk_at "ok"); (focus walk_at "wipe"); (focus walk_at "cf"); (focus walk_at "ct")) | ((with_reducible apply ev_lcRM); (focus walk_at "ar"); (focus walk_at "s"); (focus walk_at "ok"); (focus walk_at "wipe"); (focus walk_at "cf")) | ((with_reducible apply ev_lcRI); (focus walk_at "ar"); (focus walk_at "s"); (focus walk_at "ok"); (focus walk_at "wipe"); (focus walk_at "ct"); (focus walk_at "ce")) | ((with_reducible apply ev_lcR); (focus walk_at "ar"); (focus walk_at "s"); (focus walk_at "ok"); (focus walk_at "wipe"); (focus walk_at "ct"); (focus walk_at "ce")) | ((with_reducible apply ev_lcNF); (focus walk_at "lt"); (focus walk_at "s"); (focus walk_at "ok"); (focus walk_at "wipe"); (focus walk_at "cf"); (focus walk_at "ct")) | ((with_reducible apply ev_lcNM); (focus walk_at "lt"); (focus walk_at "s"); (focus walk_at "ok"); (focus walk_at "wipe"); (focus walk_at "cf")) | ((with_reducible apply ev_lcNI); (focus walk_at "lt"); (focus walk_at "s"); (focus walk_at "ok"); (focus walk_at "wipe"); (focus walk_at "ct"); (focus walk_at "ce")) | ((with_reducible apply ev_lcL); (focus walk_at "lt"); (focus walk_at "s"); (focus walk_at "ok"); (focus walk_at "wipe"); (focus walk_at "ct"); (focus walk_at "ce")))
local macro_rules | `(tactic| walk_at "e") => `(tactic| first | with_reducible exact ev_c | with_reducible exact ev_dnew | ((with_reducible apply ev_var); exact rfl) | with_reducible assumption | ((with_reducible apply ev_op2); (focus walk_at "e"); (focus walk_at "e"); (focus walk_at "o")) | ((with_reducible apply ev_opN); (focus walk_at "ar"); (focus walk_at "o")) | ((with_reducible apply ev_op1); (focus walk_at "e"); (focus walk_at "o")) | ((with_reducible apply ev_tup); (focus walk_at "ar"); (focus walk_at "z"); (focus walk_at "s")) | ((with_reducible apply ev_lst); (focus walk_at "ar"); (focus walk_at "z"); (focus walk_at "s")) | ((with_reducible apply ev_vcall); (focus walk_at "ar"); (focus walk_at "z"); (focus walk_at "fv"); (focus walk_at "ok")) | walk_at "lc" | ((with_reducible apply ev_v); (focus walk_at "e"); (focus walk_at "cv"); (focus walk_at "ok")) | ((with_reducible apply ev_call); (focus walk_at "ar"); (focus walk_at "z"); (focus walk_at "f"); (focus walk_at "or")) | ((with_reducible apply ev_methB); (focus walk_at "e"); (focus decide +kernel); (focus walk_at "ar"); (focus walk_at "z"); (focus walk_at "f"); (focus walk_at "or")) | ((with_reducible apply ev_makeB); (focus walk_at "ar"); (focus walk_at "z"); (focus walk_at "f")) | ((with_reducible apply ev_rooms); (focus walk_at "e")) | ((with_reducible apply ev_ducts); (focus walk_at "e")) | ((with_reducible apply ev_widths); (focus walk_at "e")) | ((with_reducible apply ev_app); (focus walk_at "e"); (focus walk_at "ar"); (focus exact rfl); (focus exact rfl); (focus walk_at "s")) | ((with_reducible apply ev_callP); (focus walk_at "ar"); (focus exact rfl); (focus first | exact List.nodup_nil | exact List.nodup_singleton _ | (simp; done)); (focus exact rfl); (focus walk_at "f"); (focus exact rfl); (focus exact rfl)) | ((with_reducible apply ev_callB); (focus walk_at "ar"); (focus exact rfl); (focus exact rfl); (focus walk_at "f"); (focus first | exact rfl | exact noLs_natD _ | exact noLs_ints _); (focus walk_at "or")) | ((with_reducible apply ev_chain); (focus walk_at "e"); (focus walk_at "e"); (focus walk_at "o"); (focus (intro _; walk_at "e")); (focus (intro _; walk_at "o"))) | ((with_reducible apply ev_andV); (focus walk_at "e"); (intro hk; (try simp only [decide_eq_true_eq, Bool.and_eq_true, Bool.or_eq_true, Bool.not_eq_true', decide_eq_false_iff_not] at hk); walk_at "e")) | ((with_reducible apply ev_orV); (focus walk_at "e"); (intro hk; (try simp only [decide_eq_false_iff_not, Bool.and_eq_false_imp, Bool.or_eq_false_iff, Bool.not_eq_false'] at hk); walk_at "e")) | ((with_reducible apply ev_notV); (focus walk_at "e")) | ((with_reducible apply ev_ife); (focus walk_at "t"); (focus (intro hk; (try simp only [decide_eq_true_eq, Bool.and_eq_true, Bool.or_eq_true, Bool.not_eq_true', decide_eq_false_iff_not] at hk); walk_at "e")); (focus (intro hk; (try simp only [decide_eq_false_iff_not, Bool.and_eq_false_imp, Bool.or_eq_false_iff, Bool.not_eq_false'] at hk); walk_at "e"))))
local macro_rules | `(tactic| walk_at "t") => `(tactic| first | with_reducible exact ev_yes | with_reducible assumption | ((with_reducible apply ev_tst); (focus walk_at "e")) | ((with_reducible apply ev_tru); (focus walk_at "e"); (focus walk_at "tb")) | ((with_reducible apply ev_not); (focus walk_at "t")) | ((with_reducible apply ev_and); (focus walk_at "t"); (intro hk; (try simp only [decide_eq_true_eq, Bool.and_eq_true, Bool.or_eq_true, Bool.not_eq_true', decide_eq_false_iff_not] at hk); walk_at "t")) | ((with_reducible apply ev_or); (focus walk_at "t"); (intro hk; (try simp only [decide_eq_false_iff_not, Bool.and_eq_false_imp, Bool.or_eq_false_iff, Bool.not_eq_false'] at hk); walk_at "t")))
local macro_rules | `(tactic| walk_at "sl") => `(tactic| ((try simp only [List.set_cons_succ, List.set_cons_zero, List.length_nil, List.length_cons, Nat.zero_add, Nat.reduceAdd]); exact rfl))
local macro_rules | `(tactic| walk_at "cs") => `(tactic| ((try simp only [List.nil_append, List.cons_append, List.set_cons_succ, List.set_cons_zero, setL]); exact rfl))
local macro_rules | `(tactic| walk_at "g") => `(tactic| first | ((simp only [gT_tup, List.length_cons, List.length_nil, Nat.reduceAdd, if_true, List.map_cons, List.map_nil, gsCons_ap, gN_ap, Option.bind_some, gsNil_ap, List.set_cons_succ, List.set_cons_zero]); exact rfl) | exact rfl)
local macro_rules | `(tactic| walk_at "st") => `(tactic| first | with_reducible assumption | ((with_reducible apply st_asg); (focus walk_at "e"); (focus walk_at "sl")) | ((with_reducible apply st_asgG); (focus walk_at "e"); (focus walk_at "g")) | ((with_reducible apply st_drop); (focus walk_at "e")) | ((with_reducible apply st_seti); (focus walk_at "e"); (focus walk_at "e"); (focus walk_at "e"); (focus walk_at "sa")) | ((with_reducible apply st_augi); (focus walk_at "e"); (focus walk_at "e"); (focus exact rfl); (focus walk_at "ag"); (focus walk_at "e"); (focus walk_at "sa")) | ((with_reducible apply st_aug); (focus exact rfl); (focus walk_at "e"); (focus walk_at "sl")) | ((with_reducible apply st_dput); (focus walk_at "e"); (focus walk_at "e"); (focus walk_at "e"); (focus exact rfl); (focus exact rfl); (focus walk_at "s")))
local macro_rules | `(tactic| walk_at "sa") => `(tactic| first | assumption | ((with_reducible apply setAt0); walk_at "s") | ((with_reducible apply setAt1); walk_at "s") | ((with_reducible apply setAt2); walk_at "s"))
local macro_rules | `(tactic| walk_at "ag") => `(tactic| first | assumption | ((with_reducible apply ag_ints); walk_at "s"))
local macro_rules | `(tactic| walk_at "a") => `(tactic| first | with_reducible apply sx_pass | with_reducible apply sx_assoc | ((with_reducible apply sx_ret); (focus walk_at "e"); try dsimp only) | ((with_reducible apply sx_retE); (focus walk_at "e"); try dsimp only) | ((with_reducible apply sx_brk); try dsimp only) | ((with_reducible apply sx_brkE); try dsimp only) | ((with_reducible apply sx_cnt); try dsimp only) | ((with_reducible apply sx_cntE); try dsimp only) | ((with_reducible apply sx_passE); try dsimp only) | ((with_reducible apply sx_go); (focus walk_at "st"); (focus walk_at "cs")) | ((with_reducible apply sx_end); (focus walk_at "st"); (focus walk_at "cs"); try dsimp only))
local macro_rules | `(tactic| walk_at "i") => `(tactic| first | ((with_reducible apply sx_if); (focus walk_at "t")) | ((with_reducible apply sx_ifE); (focus walk_at "t")))
local macro_rules | `(tactic| walk_at "sa") => `(tactic| first | assumption | ((with_reducible apply setAt0); walk_at "s") | ((with_reducible apply setAt1); walk_at "s") | ((with_reducible apply setAt2); walk_at "s") | ((with_reducible apply setAtG0); walk_at "s") | ((with_reducible apply setAtG1); walk_at "s"))
local macro_rules | `(tactic| walk_at "fv") => `(tactic| first | assumption | exact val_c (by walk_at "f") | exact val_l (by walk_at "f") | exact val_d (by walk_at "f"))
local macro_rules | `(tactic| walk_at "f") => `(tactic| first | assumption | (apply_assumption <;> walk_at "s"))
section
variable {ds : List Du} {r : Nat} {m : Int} {P : List Nat} {load : List Int}
def Told (ds : List Du) (r : Nat) (load : List Int) (F G : Nat → Dt) (b : Nat) : Prop := F b = optD (spU ds r load b) ∧ G b = optD (spV ds r load b)
def Tell (ds : List Du) (r : Nat) (load : List Int) (F G : Nat → Dt) : Prop := ∀ b, F b = .non ∧ G b = .non ∨ Told ds r load F G b
theorem spill_in (t : Bool) {x ks : List Nat} {y : List Int} {T : Dt} {a : Nat} (ha : a < r) (hd : ∀ d ∈ ds, DuOk r m d) (hy : verd ds r (pieceOf (AdjW ds) r a) load = some y) (hyl : y.length = r) {F G : Nat → Dt} (hF : Tell ds r load F G) {x5 x9 : Option Lv} {Q : Fl → Cs → Prop}
    (hq : ∀ F' G' x9, Tell ds r load F' G' → (∀ b, Told ds r load F G b → Told ds r load F' G' b) → (∀ b ∈ pieceOf (AdjW ds) r a, Told ds r load F' G' b) → Q (.nx [some (.c (.tup (tabT (tabW r ds)))), some (.c (sqD t (load.map .int))), some (.p 0), some (.p 1), some (.c (.tup (natD (pieceOf (AdjW ds) r a)))), x5, some (.c (.lst ((shL ds load y r).map .int))), some (.c (.lst (y.map .int))), some (.c T), x9]) [.lst ((List.range r).map F'), .lst ((List.range r).map G')]) :
    Wp (l_spill_of_1 [some (.c (.tup (tabT (tabW r ds)))), some (.c (sqD t (load.map .int))), some (.p 0), some (.p 1), some (.c (.tup (natD (pieceOf (AdjW ds) r a)))), x5, some (.c (.lst ((shL ds load y r).map .int))), some (.c (.lst (y.map .int))), some (.c T), x9] [.lst ((List.range r).map F), .lst ((List.range r).map G)]) Q := by
  have hp := pc_of (a := a) hd ha
  have hsl : (shL ds load y r).length = r := shL_len
  unfold l_spill_of_1
  have heq : ∀ b ∈ pieceOf (AdjW ds) r a, pieceOf (AdjW ds) r b = pieceOf (AdjW ds) r a := fun b hb => pieceOf_eqW hb
  generalize pieceOf (AdjW ds) r a = P at *
  refine wp_forL (f := fun n : Nat => Dt.int (n : Int)) P (fun i sl cs => ∃ F' G' x9, Tell ds r load F' G' ∧ (∀ b, Told ds r load F G b → Told ds r load F' G' b) ∧ (∀ b ∈ P.take i, Told ds r load F' G' b) ∧ sl = [some (.c (.tup (tabT (tabW r ds)))), some (.c (sqD t (load.map .int))), some (.p 0), some (.p 1), some (.c (.tup (natD P))), x5, some (.c (.lst ((shL ds load y r).map .int))), some (.c (.lst (y.map .int))), some (.c T), x9] ∧ cs = [.lst ((List.range r).map F'), .lst ((List.range r).map G')]) (.inr rfl) ⟨F, G, _, hF, fun _ h => h, by simp, rfl, rfl⟩ ?_ ?_
  · rintro i hi sl cs ⟨F', G', x9, hF', ho, hk, rfl, rfl⟩
    have hmem : P[i] ∈ P := List.getElem_mem hi
    have htk : P.take (i + 1) = P.take i ++ [P[i]] := by simp
    rw [htk]
    generalize P[i] = b at *
    have hbr := hp.lt b hmem
    simp only [List.set_cons_succ, List.set_cons_zero]
    unfold lb_spill_of_1
    walk_at "a"
    walk_at "a"
    have hb : ∀ F G : Nat → Dt, Told ds r load (fun c => if c = b then .int (nth (shL ds load y r) b) else F c) (fun c => if c = b then .int (nth y b) else G c) b := fun F G => by
      unfold Told spU spV
      rw [heq b hmem, hy]
      simp [optD]
    have hc : ∀ F G : Nat → Dt, ∀ c, Told ds r load F G c → Told ds r load (fun c => if c = b then .int (nth (shL ds load y r) b) else F c) (fun c => if c = b then .int (nth y b) else G c) c := fun F G c h => by
      by_cases e : c = b
      · subst e; exact hb F G
      · unfold Told at h ⊢
        simpa [e] using h
    rw [set_rng, set_rng]
    refine ⟨_, _, _, fun c => ?_, fun c h => hc _ _ c (ho c h), fun c h => ?_, rfl, rfl⟩
    · by_cases e : c = b
      · exact .inr (e ▸ hb F' G')
      · rcases hF' c with h | h
        · left; simpa [e] using h
        · exact .inr (hc _ _ c h)
    · rcases List.mem_append.mp h with q | q
      · exact hc _ _ c (hk c q)
      · rw [List.mem_singleton.mp q]; exact hb F' G'
  · rintro sl cs ⟨F', G', x9, hF', ho, hk, rfl, rfl⟩
    rw [List.take_length] at hk
    exact hq F' G' _ hF' ho hk
theorem spill_of_ok (t : Bool) (hr1 : 1 ≤ r) (hr : r ≤ 8) (hd : ∀ d ∈ ds, DuOk r m d) (hm : m * ds.length ≤ 100000) (hll : load.length = r) (hlx : ∀ x ∈ load, -200 ≤ x ∧ x ≤ 200) :
    m_spill_of [.tup (tabT (tabW r ds)), sqD t (load.map .int)] = .ret (.c (.tup [.tup ((List.range r).map fun a => optD (spU ds r load a)), .tup ((List.range r).map fun a => optD (spV ds r load a))])) := by
  refine runF_of (n := 2) (k := 8) (body := b_spill_of) rfl ?_
  unfold b_spill_of
  simp only [List.map_cons, List.map_nil, List.cons_append, List.nil_append, List.replicate]
  walk_at "a"
  walk_at "a"
  simp only [Int.toNat_natCast]
  have hpl := pieceList_ok r ds m hr1 (by omega) hd
  rw [wp_seq]
  unfold l_spill_of_2
  have hrep : List.replicate r Dt.non = (List.range r).map fun _ => Dt.non := by
    rw [List.map_const', List.length_range]
  rw [hrep]
  refine wp_forL (f := fun p : List Nat => Dt.tup (natD p)) (piecesOf (AdjW ds) r) (fun i sl cs => ∃ F G x4 x5 x6 x7 x8 x9, Tell ds r load F G ∧ (∀ Q ∈ (piecesOf (AdjW ds) r).take i, ∀ b ∈ Q, Told ds r load F G b) ∧ sl = [some (.c (.tup (tabT (tabW r ds)))), some (.c (sqD t (load.map .int))), some (.p 0), some (.p 1), x4, x5, x6, x7, x8, x9] ∧ cs = [.lst ((List.range r).map F), .lst ((List.range r).map G)]) (cs1 := [.lst ((List.range r).map fun _ => .non), .lst ((List.range r).map fun _ => .non)]) (.inl (by walk_at "e")) ⟨_, _, _, _, _, _, _, _, fun b => .inl ⟨rfl, rfl⟩, by simp, rfl, rfl⟩ ?_ ?_
  · rintro i hi sl cs ⟨F, G, x4, x5, x6, x7, x8, x9, hF, hk, rfl, rfl⟩
    obtain ⟨a, ha, hQ⟩ := pieces_mem (List.getElem_mem hi)
    have htk : (piecesOf (AdjW ds) r).take (i + 1) = (piecesOf (AdjW ds) r).take i ++ [(piecesOf (AdjW ds) r)[i]] := by simp
    rw [htk, hQ]
    have hp := pc_of (a := a) hd ha
    obtain ⟨st, x, ks, T, hrun, hok⟩ := run_piece_ok t hp hr hm hll hlx
    simp only [List.set_cons_succ, List.set_cons_zero]
    unfold lb_spill_of_2
    walk_at "a"
    have hv := verd_of hp hok.verd
    walk_at "i"
    · intro hst
      rw [hst] at hv
      rw [if_pos rfl] at hv
      obtain ⟨n, hri⟩ := hok.ri
      refine spill_in (x := []) (ks := []) t ha hd hv hri.leg.len hF fun F' G' x9 hF' ho hn => ?_
      refine ⟨F', G', _, _, _, _, _, _, hF', fun Q hQ b hb => ?_, rfl, rfl⟩
      rcases List.mem_append.mp hQ with q | q
      · exact ho b (hk Q q b hb)
      · rw [List.mem_singleton.mp q] at hb
        exact hn b hb
    · intro hst
      rw [hst] at hv
      walk_at "a"
      refine ⟨F, G, _, _, _, _, _, _, hF, fun Q hQ b hb => ?_, rfl, rfl⟩
      rcases List.mem_append.mp hQ with q | q
      · exact hk Q q b hb
      · rw [List.mem_singleton.mp q] at hb
        rcases hF b with h | h
        · unfold Told spU spV
          rw [pieceOf_eqW hb, hv]
          exact h
        · exact h
  · rintro sl cs ⟨F, G, x4, x5, x6, x7, x8, x9, hF, hk, rfl, rfl⟩
    rw [List.take_length] at hk
    dsimp only
    have hall : ∀ a, a < r → Told ds r load F G a := fun a ha => hk _ (pieces_all ha) a (pieceOf_mem.mpr ⟨ha, .refl⟩)
    have e1 : (List.range r).map F = (List.range r).map fun a => optD (spU ds r load a) := List.map_congr_left fun a ha => (hall a (List.mem_range.mp ha)).1
    have e2 : (List.range r).map G = (List.range r).map fun a => optD (spV ds r load a) := List.map_congr_left fun a ha => (hall a (List.mem_range.mp ha)).2
    rw [e1, e2]
    walk_at "a"
    rfl
theorem spill_ok (t : Bool) (hr1 : 1 ≤ r) (hr : r ≤ 8) (hd : ∀ d ∈ ds, DuOk r m d) (hm : m * ds.length ≤ 100000) (hll : load.length = r) (hlx : ∀ x ∈ load, -200 ≤ x ∧ x ≤ 200) :
    m_spill [bldD r ds, sqD t (load.map .int)] = .ret (.c (.tup [.tup ((List.range r).map fun a => optD (spU ds r load a)), .tup ((List.range r).map fun a => optD (spV ds r load a))])) := by
  refine runF_of (n := 2) (k := 0) (body := b_spill) rfl ?_
  have h1 := requireB_ok r ds
  have h2 := requireL_ok t r ds load "load" hll hlx
  have h3 := widthRows_ok r ds
  have h4 := spill_of_ok t hr1 hr hd hm hll hlx
  unfold b_spill
  simp only [List.map_cons, List.map_nil, List.cons_append, List.nil_append, List.replicate]
  walk_at "a"
  walk_at "a"
  walk_at "a"
  rfl
end
end Bn

set_option Elab.async false
set_option linter.all false
set_option maxRecDepth 100000
set_option maxHeartbeats 4000000
/-! ticks -/
namespace Bn
open PySem L2 Mi
local macro_rules | `(tactic| walk_at "s") => `(tactic| first | assumption | omega | exact rfl | (apply_assumption <;> assumption) | (simp; done) | (simp; omega))
local macro_rules | `(tactic| walk_at "ok") => `(tactic| first | exact rfl | exact okCs_of (by assumption) | assumption | (simp; done))
local macro_rules | `(tactic| walk_at "z") => `(tactic| first | exact fz_nil | ((with_reducible apply fz_c); walk_at "z") | ((with_reducible apply fz_f); exact rfl; walk_at "z") | ((with_reducible apply fz_p); exact rfl; walk_at "z") | ((with_reducible apply fz_d); exact rfl; walk_at "z"))
local macro_rules | `(tactic| walk_at "at") => `(tactic| first | assumption | exact atI_0 | exact atI_1 | exact atI_2 | exact atI_3 | ((with_reducible apply at_tabD); walk_at "s") | ((with_reducible apply at_tabT); walk_at "s") | ((with_reducible apply at_row); walk_at "s") | ((with_reducible apply at_natD); walk_at "s") | ((with_reducible apply at_ints); walk_at "s"))
local macro_rules | `(tactic| walk_at "o") => `(tactic| first | assumption | with_reducible exact opAdd_int | with_reducible exact opSub_int | with_reducible exact opNeg_int | with_reducible exact opLt_int | with_reducible exact opLe_int | with_reducible exact opGt_int | with_reducible exact opGe_int | with_reducible exact o_eq | with_reducible exact o_ne | ((with_reducible apply o_il); walk_at "at") | ((with_reducible apply o_it); walk_at "at") | ((with_reducible apply o_is); walk_at "at") | ((with_reducible apply o_ip); exact rfl; walk_at "at") | with_reducible exact o_sumT | with_reducible exact o_sumL | with_reducible exact cSumT_tup | with_reducible exact cSumT_lst | with_reducible exact cSum_ints | with_reducible exact o_lenD | with_reducible exact o_lenT | with_reducible exact o_lenN | with_reducible exact o_lenNt | with_reducible exact o_lenI | with_reducible exact o_lenIt | with_reducible exact cLen_lst | with_reducible exact cLen_tup | ((with_reducible apply o_lenp); exact rfl) | ((with_reducible apply o_lendic); exact rfl) | with_reducible exact sq_len | with_reducible exact o_inN | with_reducible exact o_ninN | with_reducible exact o_inNt | with_reducible exact o_ninNt | with_reducible exact in_ints | with_reducible exact notin_ints | with_reducible exact in_intsT | with_reducible exact notin_intsT | with_reducible exact cInt_int | with_reducible exact cInt_bl | with_reducible exact cTuple_lst | with_reducible exact cTuple_tup | ((with_reducible apply cTuple_cell); exact rfl) | with_reducible exact cList_lst | with_reducible exact cList_tup | with_reducible exact sq_list | with_reducible exact sq_tuple | with_reducible exact eq_intsL | with_reducible exact eq_intsT | with_reducible exact sq_isi | ((with_reducible apply opMod_int); walk_at "s") | ((with_reducible apply opDiv_int) <;> walk_at "s") | ((with_reducible apply opMul_int) <;> walk_at "s") | ((with_reducible apply opMul_one) <;> walk_at "s"))
local macro_rules | `(tactic| walk_at "f") => `(tactic| first | assumption | with_reducible assumption)
local macro_rules | `(tactic| walk_at "fv") => `(tactic| first | assumption)
local macro_rules | `(tactic| walk_at "or") => `(tactic| first | exact out_c | exact out_l | exact out_d)
local macro_rules | `(tactic| walk_at "cv") => `(tactic| first | exact ClV.c | exact ClV.n | exact ClV.d)
local macro_rules | `(tactic| walk_at "tb") => `(tactic| first | exact t_bl | exact t_int | exact truOf_lst | exact truOf_tup)
local macro_rules | `(tactic| walk_at "wipe") => `(tactic| (intro a; (try simp only [wipeS, List.set_cons_zero, List.set_cons_succ]); exact rfl))
local macro_rules | `(tactic| walk_at "ar") => `(tactic| first | with_reducible exact ev_nil | ((with_reducible apply ev_cons); (focus walk_at "e"); walk_at "ar"))
local macro_rules | `(tactic| walk_at "ct") => `(tactic| (intro a ha acc; walk_at "t"))
local macro_rules | `(tactic| walk_at "ce") => `(tactic| (intro a ha hp acc; (try simp only [decide_eq_true_eq, Bool.and_eq_true, Bool.or_eq_true, Bool.not_eq_true', decide_eq_false_iff_not] at hp); walk_at "e"))
local macro_rules | `(tactic| walk_at "cf") => `(tactic| (intro a ha acc; walk_at "e"))
local macro_rules | `(tactic| walk_at "lt") => `(tactic| first | (refine Or.inl ?_; walk_at "e") | (refine Or.inr ?_; walk_at "e"))
local macro_rules | `(tactic| walk_at "lc") => `(tactic| first | ((with_reducible apply ev_lcRF); (focus walk_at "ar"); (focus walk_at "s"); (focus walk_at "ok"); (focus walk_at "wipe"); (focus walk_at "cf"); (focus walk_at "ct")) | ((with_reducible apply ev_lcRM); (focus walk_at "ar"); (focus walk_at "s"); (focus walk_at "ok"); (focus walk_at "wipe"); (focus walk_at "cf")) | ((with_reducible apply ev_lcRI); (focus walk_at "ar"); (focus walk_at "s"); (focus walk_at "ok"); (focus walk_at "wipe"); (focus walk_at "ct"); (focus walk_at "ce")) | ((with_reducible apply ev_lcR); (focus walk_at "ar"); (focus walk_at "s"); (focus walk_at "ok"); (focus walk_at "wipe"); (focus walk_at "ct"); (focus walk_at "ce")) | ((with_reducible apply ev_lcNF); (focus walk_at "lt"); (focus walk_at "s"); (focus walk_at "ok"); (focus walk_at "wipe"); (focus walk_at "cf"); (focus walk_at "ct")) | ((with_reducible apply ev_lcNM); (focus walk_at "lt"); (focus walk_at "s"); (focus walk_at "ok"); (focus walk_at "wipe"); (focus walk_at "cf")) | ((with_reducible apply ev_lcNI); (focus walk_at "lt"); (focus walk_at "s"); (focus walk_at "ok"); (focus walk_at "wipe"); (focus walk_at "ct"); (focus walk_at "ce")) | ((with_reducible apply ev_lcL); (focus walk_at "lt"); (focus walk_at "s"); (focus walk_at "ok"); (focus walk_at "wipe"); (focus walk_at "ct"); (focus walk_at "ce")))
local macro_rules | `(tactic| walk_at "e") => `(tactic| first | with_reducible exact ev_c | with_reducible exact ev_dnew | ((with_reducible apply ev_var); exact rfl) | with_reducible assumption | ((with_reducible apply ev_op2); (focus walk_at "e"); (focus walk_at "e"); (focus walk_at "o")) | ((with_reducible apply ev_opN); (focus walk_at "ar"); (focus walk_at "o")) | ((with_reducible apply ev_op1); (focus walk_at "e"); (focus walk_at "o")) | ((with_reducible apply ev_tup); (focus walk_at "ar"); (focus walk_at "z"); (focus walk_at "s")) | ((with_reducible apply ev_lst); (focus walk_at "ar"); (focus walk_at "z"); (focus walk_at "s")) | ((with_reducible apply ev_vcall); (focus walk_at "ar"); (focus walk_at "z"); (focus walk_at "fv"); (focus walk_at "ok")) | walk_at "lc" | ((with_reducible apply ev_v); (focus walk_at "e"); (focus walk_at "cv"); (focus walk_at "ok")) | ((with_reducible apply ev_call); (focus walk_at "ar"); (focus walk_at "z"); (focus walk_at "f"); (focus walk_at "or")) | ((with_reducible apply ev_methB); (focus walk_at "e"); (focus decide +kernel); (focus walk_at "ar"); (focus walk_at "z"); (focus walk_at "f"); (focus walk_at "or")) | ((with_reducible apply ev_makeB); (focus walk_at "ar"); (focus walk_at "z"); (focus walk_at "f")) | ((with_reducible apply ev_rooms); (focus walk_at "e")) | ((with_reducible apply ev_ducts); (focus walk_at "e")) | ((with_reducible apply ev_widths); (focus walk_at "e")) | ((with_reducible apply ev_app); (focus walk_at "e"); (focus walk_at "ar"); (focus exact rfl); (focus exact rfl); (focus walk_at "s")) | ((with_reducible apply ev_callP); (focus walk_at "ar"); (focus exact rfl); (focus first | exact List.nodup_nil | exact List.nodup_singleton _ | (simp; done)); (focus exact rfl); (focus walk_at "f"); (focus exact rfl); (focus exact rfl)) | ((with_reducible apply ev_callB); (focus walk_at "ar"); (focus exact rfl); (focus exact rfl); (focus walk_at "f"); (focus first | exact rfl | exact noLs_natD _ | exact noLs_ints _); (focus walk_at "or")) | ((with_reducible apply ev_chain); (focus walk_at "e"); (focus walk_at "e"); (focus walk_at "o"); (focus (intro _; walk_at "e")); (focus (intro _; walk_at "o"))) | ((with_reducible apply ev_andV); (focus walk_at "e"); (intro hk; (try simp only [decide_eq_true_eq, Bool.and_eq_true, Bool.or_eq_true, Bool.not_eq_true', decide_eq_false_iff_not] at hk); walk_at "e")) | ((with_reducible apply ev_orV); (focus walk_at "e"); (intro hk; (try simp only [decide_eq_false_iff_not, Bool.and_eq_false_imp, Bool.or_eq_false_iff, Bool.not_eq_false'] at hk); walk_at "e")) | ((with_reducible apply ev_notV); (focus walk_at "e")) | ((with_reducible apply ev_ife); (focus walk_at "t"); (focus (intro hk; (try simp only [decide_eq_true_eq, Bool.and_eq_true, Bool.or_eq_true, Bool.not_eq_true', decide_eq_false_iff_not] at hk); walk_at "e")); (focus (intro hk; (try simp only [decide_eq_false_iff_not, Bool.and_eq_false_imp, Bool.or_eq_false_iff, Bool.not_eq_false'] at hk); walk_at "e"))))
local macro_rules | `(tactic| walk_at "t") => `(tactic| first | with_reducible exact ev_yes | with_reducible assumption | ((with_reducible apply ev_tst); (focus walk_at "e")) | ((with_reducible apply ev_tru); (focus walk_at "e"); (focus walk_at "tb")) | ((with_reducible apply ev_not); (focus walk_at "t")) | ((with_reducible apply ev_and); (focus walk_at "t"); (intro hk; (try simp only [decide_eq_true_eq, Bool.and_eq_true, Bool.or_eq_true, Bool.not_eq_true', decide_eq_false_iff_not] at hk); walk_at "t")) | ((with_reducible apply ev_or); (focus walk_at "t"); (intro hk; (try simp only [decide_eq_false_iff_not, Bool.and_eq_false_imp, Bool.or_eq_false_iff, Bool.not_eq_false'] at hk); walk_at "t")))
local macro_rules | `(tactic| walk_at "sl") => `(tactic| ((try simp only [List.set_cons_succ, List.set_cons_zero, List.length_nil, List.length_cons, Nat.zero_add, Nat.reduceAdd]); exact rfl))
local macro_rules | `(tactic| walk_at "cs") => `(tactic| ((try simp only [List.nil_append, List.cons_append, List.set_cons_succ, List.set_cons_zero, setL]); exact rfl))
local macro_rules | `(tactic| walk_at "g") => `(tactic| first | ((simp only [gT_tup, List.length_cons, List.length_nil, Nat.reduceAdd, if_true, List.map_cons, List.map_nil, gsCons_ap, gN_ap, Option.bind_some, gsNil_ap, List.set_cons_succ, List.set_cons_zero]); exact rfl) | exact rfl)
local macro_rules | `(tactic| walk_at "st") => `(tactic| first | with_reducible assumption | ((with_reducible apply st_asg); (focus walk_at "e"); (focus walk_at "sl")) | ((with_reducible apply st_asgG); (focus walk_at "e"); (focus walk_at "g")) | ((with_reducible apply st_drop); (focus walk_at "e")) | ((with_reducible apply st_seti); (focus walk_at "e"); (focus walk_at "e"); (focus walk_at "e"); (focus walk_at "sa")) | ((with_reducible apply st_augi); (focus walk_at "e"); (focus walk_at "e"); (focus exact rfl); (focus walk_at "ag"); (focus walk_at "e"); (focus walk_at "sa")) | ((with_reducible apply st_aug); (focus exact rfl); (focus walk_at "e"); (focus walk_at "sl")) | ((with_reducible apply st_dput); (focus walk_at "e"); (focus walk_at "e"); (focus walk_at "e"); (focus exact rfl); (focus exact rfl); (focus walk_at "s")))
local macro_rules | `(tactic| walk_at "sa") => `(tactic| first | assumption | ((with_reducible apply setAt0); walk_at "s") | ((with_reducible apply setAt1); walk_at "s") | ((with_reducible apply setAt2); walk_at "s"))
local macro_rules | `(tactic| walk_at "ag") => `(tactic| first | assumption | ((with_reducible apply ag_ints); walk_at "s"))
local macro_rules | `(tactic| walk_at "a") => `(tactic| first | with_reducible apply sx_pass | with_reducible apply sx_assoc | ((with_reducible apply sx_ret); (focus walk_at "e"); try dsimp only) | ((with_reducible apply sx_retE); (focus walk_at "e"); try dsimp only) | ((with_reducible apply sx_brk); try dsimp only) | ((with_reducible apply sx_brkE); try dsimp only) | ((with_reducible apply sx_cnt); try dsimp only) | ((with_reducible apply sx_cntE); try dsimp only) | ((with_reducible apply sx_passE); try dsimp only) | ((with_reducible apply sx_go); (focus walk_at "st"); (focus walk_at "cs")) | ((with_reducible apply sx_end); (focus walk_at "st"); (focus walk_at "cs"); try dsimp only))
local macro_rules | `(tactic| walk_at "i") => `(tactic| first | ((with_reducible apply sx_if); (focus walk_at "t")) | ((with_reducible apply sx_ifE); (focus walk_at "t")))
local macro_rules | `(tactic| walk_at "sa") => `(tactic| first | assumption | ((with_reducible apply setAt0); walk_at "s") | ((with_reducible apply setAt1); walk_at "s") | ((with_reducible apply setAt2); walk_at "s") | ((with_reducible apply setAtG0); walk_at "s") | ((with_reducible apply setAtG1); walk_at "s"))
local macro_rules | `(tactic| walk_at "fv") => `(tactic| first | assumption | exact val_c (by walk_at "f") | exact val_l (by walk_at "f") | exact val_d (by walk_at "f"))
local macro_rules | `(tactic| walk_at "f") => `(tactic| first | assumption | (apply_assumption <;> walk_at "s"))
theorem anyF_opt : ∀ L : List (Option Int), anyF .non ((L.map optD).map Lv.c) = some (decide (none ∈ L))
  | [] => by simp [anyF]
  | o :: L => by
    have ih := anyF_opt L
    have : anyF .non (((o :: L).map optD).map Lv.c) = (eqF (optD o) .non).bind fun b => (anyF .non ((L.map optD).map Lv.c)).map fun r => b || r := rfl
    rw [this, ih]
    cases o <;> simp [optD, eqF]
theorem o_inNone {L : List (Option Int)} {cs : Cs} : opIn false (.c .non) (.c (.tup (L.map optD))) cs = some (.c (.bl (decide (none ∈ L))), cs) := by
  have : opIn false (.c .non) (.c (.tup (L.map optD))) cs = ((anyF .non ((L.map optD).map Lv.c)).map fun b => (Lv.c (.bl b), cs)).orElse fun _ => opInC false (.c .non) (.c (.tup (L.map optD))) cs := rfl
  rw [this, anyF_opt]; rfl
section
variable {ds : List Du} {r : Nat} {m : Int} {P : List Nat} {load : List Int}
/-- the vents of the first n ticks -/
def tkX (ds : List Du) (r : Nat) (load : List Int) : Nat → List Int
  | 0 => List.replicate r 0
  | n + 1 => addS (tkX ds r load n) (fullL ds r (shL ds load (tkX ds r load n) r)) r
theorem tkX_leg (hd : ∀ d ∈ ds, DuOk r m d) : ∀ n, Leg ds r (List.range r) load (tkX ds r load n)
  | 0 => .zero
  | n + 1 => tickLeg hd (tkX_leg hd n) _ fullL_nd fun _ h => h
theorem tkX_cnt (hd : ∀ d ∈ ds, DuOk r m d) : ∀ n : Nat, (∀ k, k < n → fullL ds r (shL ds load (tkX ds r load k) r) ≠ []) → (n : Int) ≤ cnt r (tkX ds r load n)
  | 0, _ => by
    unfold cnt
    rw [show tkX ds r load 0 = List.replicate r 0 from rfl]
    rw [sumR_zeros fun b _ => nth_rep]; exact Int.le_refl _
  | n + 1, h => by
    have ih := tkX_cnt hd n fun k hk => h k (by omega)
    obtain ⟨a, ha⟩ := List.exists_mem_of_ne_nil _ (h n (by omega))
    have := cnt_addS (x := tkX ds r load n) ha (fullL_lt ha)
    show _ ≤ cnt r (addS _ _ r)
    omega
theorem shL_zero (hll : load.length = r) : shL ds load (List.replicate r 0) r = load := by
  refine list_ext (by rw [shL_len]; omega) fun b hb => ?_
  rw [shL_len] at hb
  rw [shL_nth hb]
  have : lost ds (List.replicate r 0) r b = 0 := by
    unfold lost
    exact sumR_zeros fun c _ => by rw [nth_rep, nth_rep]; simp
  omega
theorem ticks_none (t : Bool) (hr1 : 1 ≤ r) (hr : r ≤ 8) (hd : ∀ d ∈ ds, DuOk r m d) (hm : m * ds.length ≤ 100000) (hll : load.length = r) (hlx : ∀ x ∈ load, -200 ≤ x ∧ x ≤ 200) (h : none ∈ (List.range r).map (spU ds r load)) :
    m_ticks [bldD r ds, sqD t (load.map .int)] = .ret (.c .non) := by
  refine runF_of (n := 2) (k := 3) (body := b_ticks) rfl ?_
  have h1 := requireB_ok r ds
  have h2 := requireL_ok t r ds load "load" hll hlx
  have h3 := widthRows_ok r ds
  have h4 := spill_of_ok t hr1 hr hd hm hll hlx
  have e1 : (List.range r).map (fun a => optD (spU ds r load a)) = ((List.range r).map (spU ds r load)).map optD := by simp [Function.comp_def]
  rw [e1] at h4
  have h5 := fun cs => o_inNone (L := (List.range r).map (spU ds r load)) (cs := cs)
  simp only [h, decide_true] at h5
  have h6 := h5 []
  unfold b_ticks
  simp only [List.map_cons, List.map_nil, List.cons_append, List.nil_append, List.replicate]
  walk_at "a"
  walk_at "a"
  walk_at "a"
  walk_at "i"
  · intro _
    walk_at "a"
    rfl
  · intro z; cases z
theorem ticks_ok (t : Bool) (hr1 : 1 ≤ r) (h : Ends' ds r m load) :
    ∃ N : Nat, m_ticks [bldD r ds, sqD t (load.map .int)] = .ret (.c (.int N)) ∧ fullL ds r (shL ds load (tkX ds r load N) r) = [] ∧ ∀ k, k < N → fullL ds r (shL ds load (tkX ds r load k) r) ≠ [] := by
  have hb : ∀ b, b < r → -200 ≤ nth load b ∧ nth load b ≤ 200 := fun b hb => h.hlx _ (nth_mem (by rw [h.hll]; omega))
  refine runF_R (n := 2) (k := 3) (body := b_ticks) (R := fun o => ∃ N : Nat, o = .ret (.c (.int N)) ∧ fullL ds r (shL ds load (tkX ds r load N) r) = [] ∧ ∀ k, k < N → fullL ds r (shL ds load (tkX ds r load k) r) ≠ []) rfl ?_
  have h1 := requireB_ok r ds
  have h2 := requireL_ok t r ds load "load" h.hll h.hlx
  have h3 := widthRows_ok r ds
  have h4 := spill_of_ok t hr1 h.hr h.hd h.hm h.hll h.hlx
  have e1 : (List.range r).map (fun a => optD (spU ds r load a)) = ((List.range r).map (spU ds r load)).map optD := by simp [Function.comp_def]
  rw [e1] at h4
  have hno : ¬ none ∈ (List.range r).map (spU ds r load) := by
    intro z
    obtain ⟨a, ha, e⟩ := List.mem_map.mp z
    have := h.all a (List.mem_range.mp ha)
    unfold spU at e
    unfold spV at this
    simp at e this
    exact this e
  have h5 := fun cs => o_inNone (L := (List.range r).map (spU ds r load)) (cs := cs)
  simp only [hno, decide_false] at h5
  have h6 := h5 []
  have hlt : ds.length ≤ 100000 := by
    have := h.hm
    cases hds : ds with
    | nil => simp
    | cons d es =>
      have := (h.hd d (by rw [hds]; simp)).2.2.2
      have hm1 : 1 ≤ m := by omega
      have h2 : (1 : Int) * ds.length ≤ m * ds.length := Int.mul_le_mul_of_nonneg_right hm1 (by omega)
      rw [← hds]
      omega
  unfold b_ticks
  simp only [List.map_cons, List.map_nil, List.cons_append, List.nil_append, List.replicate]
  walk_at "a"
  walk_at "a"
  walk_at "a"
  walk_at "i"
  · intro z; cases z
  intro _
  walk_at "a"
  walk_at "a"
  walk_at "a"
  rw [wp_seq]
  unfold l_ticks_1
  refine wp_while (fun k sl cs => ∃ n : Nat, k = 204801 - n ∧ (∀ k, k < n → fullL ds r (shL ds load (tkX ds r load k) r) ≠ []) ∧ sl = [some (.c (bldD r ds)), some (.c (sqD t (load.map .int))), some (.c (.tup (tabT (tabW r ds)))), some (.c (.tup ((shL ds load (tkX ds r load n) r).map .int))), some (.c (.int n))] ∧ cs = []) 204801 ⟨0, rfl, by omega, by rw [show tkX ds r load 0 = List.replicate r 0 from rfl, shL_zero h.hll]; rfl, rfl⟩ (by omega) ?_
  rintro k sl cs ⟨n, rfl, hf, rfl, rfl⟩
  have hn : n ≤ 204800 := by
    have g1 := tkX_cnt h.hd n hf
    have g2 : cnt r (tkX ds r load n) ≤ cnt r (spY ds r load) := by
      unfold cnt
      exact sumR_le2 fun b _ => h.le (tkX_leg h.hd n) b
    have g3 := h.few (lo := 200) (hi := 200) (by omega) (by omega) (fun b hb' => (hb b hb').1) (fun b hb' => (hb b hb').2)
    have hr := h.hr
    have g4 : (r : Int) * ((r * (200 + 200)) * r) ≤ 8 * ((8 * 400) * 8) := by
      have a1 : (r : Int) * (200 + 200) ≤ 8 * 400 := by omega
      have a2 : (r : Int) * (200 + 200) * r ≤ (8 * 400) * 8 := Int.mul_le_mul a1 (by omega) (by omega) (by omega)
      exact Int.mul_le_mul (by omega) a2 (Int.mul_nonneg (by omega) (by omega)) (by omega)
    omega
  have h7 := full_list_ok true r ds (shL ds load (tkX ds r load n) r) (by have := h.hr; omega) shL_len
  have h8 := ticked_ok true r ds m (shL ds load (tkX ds r load n) r) hr1 (by have := h.hr; omega) h.hd h.hm shL_len
  rw [← shL_addS] at h8
  rw [show addS (tkX ds r load n) (fullL ds r (shL ds load (tkX ds r load n) r)) r = tkX ds r load (n + 1) from rfl] at h8
  simp only [sqD_t] at h7 h8
  unfold lt_ticks_1
  refine wp_of (a := decide ((0 : Int) < (fullL ds r (shL ds load (tkX ds r load n) r)).length)) (cs := []) (by walk_at "t") ?_
  by_cases hz : (0 : Int) < (fullL ds r (shL ds load (tkX ds r load n) r)).length
  · rw [if_pos (by simpa using hz)]
    unfold lb_ticks_1
    walk_at "a"
    walk_at "a"
    refine ⟨204801 - (n + 1), by omega, n + 1, rfl, fun k hk => ?_, by simp, rfl⟩
    by_cases e : k = n
    · subst e
      intro z
      rw [z] at hz
      simp at hz
    · exact hf k (by omega)
  · rw [if_neg (by simpa using hz)]
    dsimp only
    walk_at "a"
    exact ⟨n, rfl, List.eq_nil_of_length_eq_zero (by omega), hf⟩
end
end Bn



set_option Elab.async false
set_option linter.all false
set_option maxRecDepth 100000
set_option maxHeartbeats 4000000
namespace B27
open PySem L2 Mi
def top (i : Nat) : Stmt := PySem.Challenge.pw_warmhold_k27_ticks.main.body.getD i (.Pass ⟨0, 0, 0, 0⟩)
def N_is_integer : List Str := ["value"]
theorem sc_is_integer : FnScope N_is_integer ["value"] (defScope (top 10)) := ⟨rfl, rfl, rfl, by decide +kernel, rfl, by decide +kernel, by decide +kernel⟩
def N_is_between : List Str := ["value", "least", "most"]
theorem sc_is_between : FnScope N_is_between ["value", "least", "most"] (defScope (top 11)) := ⟨rfl, rfl, rfl, by decide +kernel, rfl, by decide +kernel, by decide +kernel⟩
def N_is_table : List Str := ["value", "size", "least", "most", "entry"]
theorem sc_is_table : FnScope N_is_table ["value", "size", "least", "most"] (defScope (top 12)) := ⟨rfl, rfl, rfl, by decide +kernel, rfl, by decide +kernel, by decide +kernel⟩
def N_are_ducts : List Str := ["value", "rooms", "duct", "first", "second", "width"]
theorem sc_are_ducts : FnScope N_are_ducts ["value", "rooms"] (defScope (top 14)) := ⟨rfl, rfl, rfl, by decide +kernel, rfl, by decide +kernel, by decide +kernel⟩
def N_require : List Str := ["holds", "name"]
theorem sc_require : FnScope N_require ["holds", "name"] (defScope (top 9)) := ⟨rfl, rfl, rfl, by decide +kernel, rfl, by decide +kernel, by decide +kernel⟩
def N_width_table : List Str := ["rooms", "ducts", "rows", "first", "second", "width", "room", "row"]
theorem sc_width_table : FnScope N_width_table ["rooms", "ducts"] (defScope (top 15)) := ⟨rfl, rfl, rfl, by decide +kernel, rfl, by decide +kernel, by decide +kernel⟩
def N_Building___init__ : List Str := ["self", "rooms", "ducts", "duct"]
theorem sc_Building___init__ : FnScope N_Building___init__ ["self", "rooms", "ducts"] (defScope (inClass (top 16) 0)) := ⟨rfl, rfl, rfl, by decide +kernel, rfl, by decide +kernel, by decide +kernel⟩
def N_law_after : List Str := ["table", "load", "script", "held", "a", "lost", "b"]
theorem sc_law_after : FnScope N_law_after ["table", "load", "script"] (defScope (top 40)) := ⟨rfl, rfl, rfl, by decide +kernel, rfl, by decide +kernel, by decide +kernel⟩
def N_law_cell : List Str := ["script", "k"]
theorem sc_law_cell : FnScope N_law_cell ["script", "k"] (defScope (top 34)) := ⟨rfl, rfl, rfl, by decide +kernel, rfl, by decide +kernel, by decide +kernel⟩
def N_law_full : List Str := ["table", "held", "a"]
theorem sc_law_full : FnScope N_law_full ["table", "held"] (defScope (top 43)) := ⟨rfl, rfl, rfl, by decide +kernel, rfl, by decide +kernel, by decide +kernel⟩
def N_law_integer : List Str := ["value"]
theorem sc_law_integer : FnScope N_law_integer ["value"] (defScope (top 42)) := ⟨rfl, rfl, rfl, by decide +kernel, rfl, by decide +kernel, by decide +kernel⟩
def N_law_draw : List Str := ["cell", "bounds", "found", "rest", "place", "mixed"]
theorem sc_law_draw : FnScope N_law_draw ["cell", "bounds"] (defScope (top 35)) := ⟨rfl, rfl, rfl, by decide +kernel, rfl, by decide +kernel, by decide +kernel⟩
def N_law_numbers : List Str := ["cell", "count", "least", "most", "bounds", "number"]
theorem sc_law_numbers : FnScope N_law_numbers ["cell", "count", "least", "most"] (defScope (top 38)) := ⟨rfl, rfl, rfl, by decide +kernel, rfl, by decide +kernel, by decide +kernel⟩
def N_law_pieces : List Str := ["table", "found", "seen", "a", "rooms", "turn", "b", "c"]
theorem sc_law_pieces : FnScope N_law_pieces ["table"] (defScope (top 41)) := ⟨rfl, rfl, rfl, by decide +kernel, rfl, by decide +kernel, by decide +kernel⟩
def N_law_ducts : List Str := ["cell", "rooms", "joined_v", "extra", "most", "ducts", "bounds", "k", "draws", "first", "second"]
theorem sc_law_ducts : FnScope N_law_ducts ["cell", "rooms", "joined_v", "extra", "most"] (defScope (top 36)) := ⟨rfl, rfl, rfl, by decide +kernel, rfl, by decide +kernel, by decide +kernel⟩
def N_law_plan : List Str := ["script", "at", "most_rooms", "most_extra", "most_width", "head", "rooms", "joined_v"]
theorem sc_law_plan : FnScope N_law_plan ["script", "at", "most_rooms", "most_extra", "most_width"] (defScope (top 37)) := ⟨rfl, rfl, rfl, by decide +kernel, rfl, by decide +kernel, by decide +kernel⟩
def N_law_run : List Str := ["table", "piece", "load", "held", "vents", "turn", "full", "room", "b", "a"]
theorem sc_law_run : FnScope N_law_run ["table", "piece", "load"] (defScope (top 44)) := ⟨rfl, rfl, rfl, by decide +kernel, rfl, by decide +kernel, by decide +kernel⟩
def lb_law_run_1 : MS :=
  (mSetI (mVar 3) (mVar 8) (mOp2 opAdd (mOp2 opItem (mVar 3) (mVar 8)) (mOp2 opItem (mOp2 opItem (mVar 0) (mVar 7)) (mVar 8))))
def l_law_run_1 : MS := (mFor 0 (mRng rng1 (mCons (mOpN cLen (mCons (mVar 0) mNil)) mNil)) (gN 8) lb_law_run_1)
def lb_law_run_2 : MS :=
  (mSeq (mAsg (mV (mLc false (mSeqI (mV (mCallB [false, true] m_law_full (mCons (mVar 0) (mCons (mVar 3) mNil))))) (gN 9) (mTst (mOp2 (opIn false) (mVar 9) (mVar 1))) (mVar 9) [9])) (gN 6))
  (mSeq (mIf (mTst (mOp2 (opEq false) (mOpN cLen (mCons (mVar 6) mNil)) (mC (.int 0)))) (mRet (mLst false (mCons (mVar 3) (mCons (mVar 4) mNil)))) mPass)
  (mSeq (mIf (mTst (mOp2 (opEq false) (mOpN cLen (mCons (mV (mLc false (mSeqI (mVar 1)) (gN 9) (mTst (mOp2 (opEq false) (mOp2 opItem (mVar 4) (mVar 9)) (mC (.int 0)))) (mVar 9) [9])) mNil)) (mC (.int 0)))) (mRet (mLst false mNil)) mPass)
  (mSeq (mAsg (mOp2 opItem (mVar 6) (mOp2 opSub (mOpN cLen (mCons (mVar 6) mNil)) (mC (.int 1)))) (gN 7))
  (mSeq (mSetI (mVar 4) (mVar 7) (mOp2 opAdd (mOp2 opItem (mVar 4) (mVar 7)) (mC (.int 1))))
  (mSeq l_law_run_1
  (mSetI (mVar 3) (mVar 7) (mOp2 opSub (mOp2 opItem (mVar 3) (mVar 7)) (mOpN cSumT (mCons (mOp2 opItem (mVar 0) (mVar 7)) mNil))))))))))
def l_law_run_2 : MS := (mFor 0 (mRng rng1 (mCons (mC (.int 2000)) mNil)) (gN 5) lb_law_run_2)
def b_law_run : MS :=
  (mSeq (mAsg (mOpN cList (mCons (mVar 2) mNil)) (gN 3))
  (mSeq (mAsg (mOp2 opMul (mV (mLst false (mCons (mC (.int 0)) mNil))) (mOpN cLen (mCons (mVar 0) mNil))) (gN 4))
  (mSeq l_law_run_2
  (mRet (mLst false mNil)))))
def m_law_run : List Dt → Out := runF 3 7 b_law_run
def N_law_widths : List Str := ["rooms", "ducts", "table", "a", "duct", "row"]
theorem sc_law_widths : FnScope N_law_widths ["rooms", "ducts"] (defScope (top 39)) := ⟨rfl, rfl, rfl, by decide +kernel, rfl, by decide +kernel, by decide +kernel⟩
def N_Building_width_rows : List Str := ["self"]
theorem sc_Building_width_rows : FnScope N_Building_width_rows ["self"] (defScope (inClass (top 16) 5)) := ⟨rfl, rfl, rfl, by decide +kernel, rfl, by decide +kernel, by decide +kernel⟩
def N_require_building : List Str := ["building"]
theorem sc_require_building : FnScope N_require_building ["building"] (defScope (top 17)) := ⟨rfl, rfl, rfl, by decide +kernel, rfl, by decide +kernel, by decide +kernel⟩
def N_require_load : List Str := ["building", "load", "name"]
theorem sc_require_load : FnScope N_require_load ["building", "load", "name"] (defScope (top 19)) := ⟨rfl, rfl, rfl, by decide +kernel, rfl, by decide +kernel, by decide +kernel⟩
def N_joined : List Str := ["widths", "room", "seen", "waiting", "a", "b", "width"]
theorem sc_joined : FnScope N_joined ["widths", "room"] (defScope (top 22)) := ⟨rfl, rfl, rfl, by decide +kernel, rfl, by decide +kernel, by decide +kernel⟩
def N_piece_list : List Str := ["widths", "found", "seen", "room", "rooms", "a"]
theorem sc_piece_list : FnScope N_piece_list ["widths"] (defScope (top 23)) := ⟨rfl, rfl, rfl, by decide +kernel, rfl, by decide +kernel, by decide +kernel⟩
def N_give : List Str := ["widths", "held", "room", "times", "b", "width"]
theorem sc_give : FnScope N_give ["widths", "held", "room", "times"] (defScope (top 26)) := ⟨rfl, rfl, rfl, by decide +kernel, rfl, by decide +kernel, by decide +kernel⟩
def N_run_piece : List Str := ["widths", "rooms", "load", "held", "vents", "turns", "turn", "still", "a", "spread", "times"]
theorem sc_run_piece : FnScope N_run_piece ["widths", "rooms", "load"] (defScope (top 27)) := ⟨rfl, rfl, rfl, by decide +kernel, rfl, by decide +kernel, by decide +kernel⟩
def N_spill_of : List Str := ["widths", "load", "units", "vents", "rooms", "ends", "held", "given", "turns", "a"]
theorem sc_spill_of : FnScope N_spill_of ["widths", "load"] (defScope (top 28)) := ⟨rfl, rfl, rfl, by decide +kernel, rfl, by decide +kernel, by decide +kernel⟩
def N_spill : List Str := ["building", "load"]
theorem sc_spill : FnScope N_spill ["building", "load"] (defScope (top 29)) := ⟨rfl, rfl, rfl, by decide +kernel, rfl, by decide +kernel, by decide +kernel⟩
def N_full_list : List Str := ["widths", "load", "found", "a", "row", "spread"]
theorem sc_full_list : FnScope N_full_list ["widths", "load"] (defScope (top 25)) := ⟨rfl, rfl, rfl, by decide +kernel, rfl, by decide +kernel, by decide +kernel⟩
def N_shifted : List Str := ["widths", "load", "script", "held", "a", "row", "lost", "b", "width"]
theorem sc_shifted : FnScope N_shifted ["widths", "load", "script"] (defScope (top 20)) := ⟨rfl, rfl, rfl, by decide +kernel, rfl, by decide +kernel, by decide +kernel⟩
def N_ticked : List Str := ["widths", "load", "script", "a"]
theorem sc_ticked : FnScope N_ticked ["widths", "load"] (defScope (top 31)) := ⟨rfl, rfl, rfl, by decide +kernel, rfl, by decide +kernel, by decide +kernel⟩
def N_ticks : List Str := ["building", "load", "widths", "held", "count"]
theorem sc_ticks : FnScope N_ticks ["building", "load"] (defScope (top 32)) := ⟨rfl, rfl, rfl, by decide +kernel, rfl, by decide +kernel, by decide +kernel⟩
def N_law : List Str := ["script", "plan", "rooms", "table", "load", "building", "told", "endless", "held", "vents", "count", "turn", "full", "a", "piece"]
theorem sc_law : FnScope N_law ["script"] (defScope (top 45)) := ⟨rfl, rfl, rfl, by decide +kernel, rfl, by decide +kernel, by decide +kernel⟩
def lb_law_1 : MS :=
  (mSetI (mVar 9) (mVar 13) (mOp2 opAdd (mOp2 opItem (mVar 9) (mVar 13)) (mC (.int 1))))
def l_law_1 : MS := (mFor 0 (mSeqI (mVar 12)) (gN 13) lb_law_1)
def lb_law_2 : MS :=
  (mSeq (mAsg (mV (mCall m_law_full (mCons (mVar 3) (mCons (mVar 8) mNil)))) (gN 12))
  (mIf (mTst (mOp2 opGt (mOpN cLen (mCons (mVar 12) mNil)) (mC (.int 0)))) (mSeq (mAsg (mOp2 opAdd (mVar 10) (mC (.int 1))) (gN 10))
  (mSeq (mAsg (mV (mCall m_law_after (mCons (mVar 3) (mCons (mVar 8) (mCons (mV (mLc false (mRng rng1 (mCons (mVar 2) mNil)) (gN 13) mYes (mOpN cInt (mCons (mOp2 (opIn false) (mVar 13) (mVar 12)) mNil)) [13])) mNil))))) (gN 8))
  l_law_1)) mBrk))
def l_law_2 : MS := (mFor 0 (mRng rng1 (mCons (mC (.int 2000)) mNil)) (gN 11) lb_law_2)
def b_law : MS :=
  (mSeq (mAsg (mV (mCall m_law_plan (mCons (mVar 0) (mCons (mC (.int 0)) (mCons (mC (.int 4)) (mCons (mC (.int 3)) (mCons (mC (.int 3)) mNil))))))) (gN 1))
  (mSeq (mAsg (mOp2 opItem (mVar 1) (mC (.int 0))) (gN 2))
  (mSeq (mAsg (mV (mCall m_law_widths (mCons (mVar 2) (mCons (mOp2 opItem (mVar 1) (mC (.int 1))) mNil)))) (gN 3))
  (mSeq (mAsg (mV (mCall m_law_numbers (mCons (mCall m_law_cell (mCons (mVar 0) (mCons (mC (.int 2)) mNil))) (mCons (mVar 2) (mCons (mOp1 opNeg (mC (.int 3))) (mCons (mC (.int 7)) mNil)))))) (gN 4))
  (mSeq (mAsg (mMake m_Building___init__ (mCons (mVar 2) (mCons (mOp2 opItem (mVar 1) (mC (.int 1))) mNil))) (gN 5))
  (mSeq (mAsg (mCall m_ticks (mCons (mVar 5) (mCons (mV (mOpN cList (mCons (mVar 4) mNil))) mNil))) (gN 6))
  (mSeq (mAsg (mV (mLc false (mSeqI (mV (mCall m_law_pieces (mCons (mVar 3) mNil)))) (gN 14) (mTst (mOp2 (opEq false) (mOpN cLen (mCons (mV (mCall m_law_run (mCons (mVar 3) (mCons (mVar 14) (mCons (mVar 4) mNil))))) mNil)) (mC (.int 0)))) (mVar 14) [14])) (gN 7))
  (mSeq (mIf (mTst (mOp2 opGt (mOpN cLen (mCons (mVar 7) mNil)) (mC (.int 0)))) (mRet (mAndV (mOp2 (opNon false) (mVar 6) (mC .non)) (mOp2 (opIn false) (mC .non) (mOp2 opItem (mCall m_spill (mCons (mVar 5) (mCons (mVar 4) mNil))) (mC (.int 0)))))) mPass)
  (mSeq (mIf (mNot (mTru (mCall m_law_integer (mCons (mVar 6) mNil)))) (mRet (mC (.bl false))) mPass)
  (mSeq (mAsg (mVar 4) (gN 8))
  (mSeq (mAsg (mOp2 opMul (mV (mLst false (mCons (mC (.int 0)) mNil))) (mVar 2)) (gN 9))
  (mSeq (mAsg (mC (.int 0)) (gN 10))
  (mSeq l_law_2
  (mRet (mAndV (mOp2 (opEq false) (mVar 6) (mVar 10)) (mOp2 (opEq false) (mCall m_spill (mCons (mVar 5) (mCons (mVar 4) mNil))) (mTup (mCons (mOpN cTuple (mCons (mVar 8) mNil)) (mCons (mOpN cTuple (mCons (mVar 9) mNil)) mNil)))))))))))))))))))
def m_law : List Dt → Out := runF 1 14 b_law
structure Txt (K : PySem.W.Frag) (mg : Str → Option Value) (D : Dat) : Prop where
  b_bool : mg "bool" = none
  b_enumerate : mg "enumerate" = none
  b_int : mg "int" = none
  b_isinstance : mg "isinstance" = none
  b_len : mg "len" = none
  b_list : mg "list" = none
  b_range : mg "range" = none
  b_sorted : mg "sorted" = none
  b_sum : mg "sum" = none
  b_tuple : mg "tuple" = none
  g_MOST_DUCTS : ∃ t, mg "MOST_DUCTS" = some (.int 16 t)
  g_MOST_ROOMS : ∃ t, mg "MOST_ROOMS" = some (.int 8 t)
  g_MOST_UNITS : ∃ t, mg "MOST_UNITS" = some (.int 200 t)
  g_MOST_WIDTH : ∃ t, mg "MOST_WIDTH" = some (.int 6 t)
  c_Building : mg "Building" = some (.ref (D.cl 0))
  k_Building : Cls K (D.cl 0)
  n_Building_widths : NoAttr K (D.cl 0) "_widths"
  n_Building_ducts : NoAttr K (D.cl 0) "ducts"
  n_Building_rooms : NoAttr K (D.cl 0) "rooms"
  m_Building_width_rows : Meth K (D.cl 0) "width_rows" (D.f 18)
  mk_Building : Mk K (D.cl 0) (D.f 6)
  isB : IsF ⟨K, D.cl⟩ ownB tabB
  f_is_integer : DefF K mg "is_integer" (top 10) ["value"] (D.f 0) (D.fd 0)
  f_is_between : DefF K mg "is_between" (top 11) ["value", "least", "most"] (D.f 1) (D.fd 1)
  f_is_table : DefF K mg "is_table" (top 12) ["value", "size", "least", "most"] (D.f 2) (D.fd 2)
  f_are_ducts : DefF K mg "are_ducts" (top 14) ["value", "rooms"] (D.f 3) (D.fd 3)
  f_require : DefF K mg "require" (top 9) ["holds", "name"] (D.f 4) (D.fd 4)
  f_width_table : DefF K mg "width_table" (top 15) ["rooms", "ducts"] (D.f 5) (D.fd 5)
  f_Building___init__ : DefM K "__init__" "Building.__init__" (inClass (top 16) 0) ["self", "rooms", "ducts"] (D.f 6) (D.fd 6)
  f_law_after : DefF K mg "_law_after" (top 40) ["table", "load", "script"] (D.f 7) (D.fd 7)
  f_law_cell : DefF K mg "_law_cell" (top 34) ["script", "k"] (D.f 8) (D.fd 8)
  f_law_full : DefF K mg "_law_full" (top 43) ["table", "held"] (D.f 9) (D.fd 9)
  f_law_integer : DefF K mg "_law_integer" (top 42) ["value"] (D.f 10) (D.fd 10)
  f_law_draw : DefF K mg "_law_draw" (top 35) ["cell", "bounds"] (D.f 11) (D.fd 11)
  f_law_numbers : DefF K mg "_law_numbers" (top 38) ["cell", "count", "least", "most"] (D.f 12) (D.fd 12)
  f_law_pieces : DefF K mg "_law_pieces" (top 41) ["table"] (D.f 13) (D.fd 13)
  f_law_ducts : DefF K mg "_law_ducts" (top 36) ["cell", "rooms", "joined_v", "extra", "most"] (D.f 14) (D.fd 14)
  f_law_plan : DefF K mg "_law_plan" (top 37) ["script", "at", "most_rooms", "most_extra", "most_width"] (D.f 15) (D.fd 15)
  f_law_run : DefF K mg "_law_run" (top 44) ["table", "piece", "load"] (D.f 16) (D.fd 16)
  f_law_widths : DefF K mg "_law_widths" (top 39) ["rooms", "ducts"] (D.f 17) (D.fd 17)
  f_Building_width_rows : DefM K "width_rows" "Building.width_rows" (inClass (top 16) 5) ["self"] (D.f 18) (D.fd 18)
  f_require_building : DefF K mg "require_building" (top 17) ["building"] (D.f 19) (D.fd 19)
  f_require_load : DefF K mg "require_load" (top 19) ["building", "load", "name"] (D.f 20) (D.fd 20)
  f_joined : DefF K mg "joined" (top 22) ["widths", "room"] (D.f 21) (D.fd 21)
  f_piece_list : DefF K mg "piece_list" (top 23) ["widths"] (D.f 22) (D.fd 22)
  f_give : DefF K mg "give" (top 26) ["widths", "held", "room", "times"] (D.f 23) (D.fd 23)
  f_run_piece : DefF K mg "run_piece" (top 27) ["widths", "rooms", "load"] (D.f 24) (D.fd 24)
  f_spill_of : DefF K mg "spill_of" (top 28) ["widths", "load"] (D.f 25) (D.fd 25)
  f_spill : DefF K mg "spill" (top 29) ["building", "load"] (D.f 26) (D.fd 26)
  f_full_list : DefF K mg "full_list" (top 25) ["widths", "load"] (D.f 27) (D.fd 27)
  f_shifted : DefF K mg "shifted" (top 20) ["widths", "load", "script"] (D.f 28) (D.fd 28)
  f_ticked : DefF K mg "ticked" (top 31) ["widths", "load"] (D.f 29) (D.fd 29)
  f_ticks : DefF K mg "ticks" (top 32) ["building", "load"] (D.f 30) (D.fd 30)
  f_law : DefF K mg "law" (top 45) ["script"] (D.f 31) (D.fd 31)
section
variable {P : Program} {w : World} {K : PySem.W.Frag} {mg : Str → Option Value} {base : Heap} {D : Dat}
theorem ok_is_integer (T : Txt K mg D) : FnOk P w K mg base (L2.CX P w) 1 (D.f 0) (D.fd 0) ["value"] (spM ⟨K, D.cl⟩ 1 m_is_integer) :=
  Mi.ok_fn (C := ⟨K, D.cl⟩) (N := N_is_integer) T.f_is_integer.fn sc_is_integer rfl fun cdv A outer s H E hr => by
    exact (wss_one (ws_ret (we_and (we_isi isf0 T.b_isinstance (wa_cons (we_var 0) (wa_cons (we_ty rfl T.b_int (by decide +kernel)) wa_nil))) (we_one (we_not (we_isi isf0 T.b_isinstance (wa_cons (we_var 0) (wa_cons (we_ty rfl T.b_bool (by decide +kernel)) wa_nil))))))))
theorem ok_is_between (T : Txt K mg D) : FnOk P w K mg base (L2.CX P w) 2 (D.f 1) (D.fd 1) ["value", "least", "most"] (spM ⟨K, D.cl⟩ 3 m_is_between) :=
  Mi.ok_fn (C := ⟨K, D.cl⟩) (N := N_is_between) T.f_is_between.fn sc_is_between rfl fun cdv A outer s H E hr => by
    exact (wss_one (ws_ret (we_and (we_call (ok_is_integer T) (fun ds h => runF_len ds h) (hr.mono (by decide)) T.f_is_integer.at_ T.f_is_integer.fn.kp T.f_is_integer.bd (wa_cons (we_var 0) wa_nil)) (we_one (we_chain (fun _ => op_le) o2_le (fun _ => op_le) o2_le (we_var 1) (we_var 0) (we_var 2))))))
theorem ok_is_table (T : Txt K mg D) : FnOk P w K mg base (L2.CX P w) 3 (D.f 2) (D.fd 2) ["value", "size", "least", "most"] (spM ⟨K, D.cl⟩ 4 m_is_table) :=
  Mi.ok_fn (C := ⟨K, D.cl⟩) (N := N_is_table) T.f_is_table.fn sc_is_table rfl fun cdv A outer s H E hr => by
    exact (wss_cons (ws_if (wt_w (ww_or (wt_not (wt_tru (we_isi isf0 T.b_isinstance (wa_cons (we_var 0) (wa_cons (we_tup (wa_cons (we_ty rfl T.b_list (by decide +kernel)) (wa_cons (we_ty rfl T.b_tuple (by decide +kernel)) wa_nil))) wa_nil))))) (ww_or1 (wt_cmp (fun hK => hK ▸ op_neD hr.units) o2_ne (we_len T.b_len (wa_cons (we_var 0) wa_nil)) (we_var 1))))) (wss_one (ws_ret we_bl)) wss_nil)
  (wss_cons (ws_for 0 (wi_seq (we_var 0)) (wg_name 4 sc_is_table.nd)
  (wss_one (ws_if (wt_not (wt_tru (we_call (ok_is_between T) (fun ds h => runF_len ds h) (hr.mono (by decide)) T.f_is_between.at_ T.f_is_between.fn.kp T.f_is_between.bd (wa_cons (we_var 4) (wa_cons (we_var 2) (wa_cons (we_var 3) wa_nil)))))) (wss_one (ws_ret we_bl)) wss_nil)))
  (wss_one (ws_ret we_bl))))
theorem ok_are_ducts (T : Txt K mg D) : FnOk P w K mg base (L2.CX P w) 4 (D.f 3) (D.fd 3) ["value", "rooms"] (spM ⟨K, D.cl⟩ 2 m_are_ducts) :=
  Mi.ok_fn (C := ⟨K, D.cl⟩) (N := N_are_ducts) T.f_are_ducts.fn sc_are_ducts rfl fun cdv A outer s H E hr => by
    exact (wss_cons (ws_if (wt_w (ww_or (wt_not (wt_tru (we_isi isf0 T.b_isinstance (wa_cons (we_var 0) (wa_cons (we_tup (wa_cons (we_ty rfl T.b_list (by decide +kernel)) (wa_cons (we_ty rfl T.b_tuple (by decide +kernel)) wa_nil))) wa_nil))))) (ww_or1 (wt_cmp (fun _ => op_gt) o2_gt (we_len T.b_len (wa_cons (we_var 0) wa_nil)) (we_gint rfl T.g_MOST_DUCTS))))) (wss_one (ws_ret we_bl)) wss_nil)
  (wss_cons (ws_for 0 (wi_seq (we_var 0)) (wg_name 2 sc_are_ducts.nd)
  (wss_cons (ws_if (wt_not (wt_tru (we_call (ok_is_table T) (fun ds h => runF_len ds h) (hr.mono (by decide)) T.f_is_table.at_ T.f_is_table.fn.kp T.f_is_table.bd (wa_cons (we_var 2) (wa_cons we_int (wa_cons we_int (wa_cons (we_gint rfl T.g_MOST_ROOMS) wa_nil))))))) (wss_one (ws_ret we_bl)) wss_nil)
  (wss_cons (ws_asg (we_var 2) (wg_tup (wgs_cons (wg_name 3 sc_are_ducts.nd) (wgs_cons (wg_name 4 sc_are_ducts.nd) (wgs_cons (wg_name 5 sc_are_ducts.nd) wgs_nil)))))
  (wss_cons (ws_if (wt_w (ww_or (wt_cmp (fun _ => op_ge) o2_ge (we_var 3) (we_var 1)) (ww_or (wt_cmp (fun _ => op_ge) o2_ge (we_var 4) (we_var 1)) (ww_or1 (wt_cmp (fun hK => hK ▸ op_eqD hr.units) o2_eq (we_var 3) (we_var 4)))))) (wss_one (ws_ret we_bl)) wss_nil)
  (wss_one (ws_if (wt_not (wt_chain (fun _ => op_le) o2_le (fun _ => op_le) o2_le we_int (we_var 5) (we_gint rfl T.g_MOST_WIDTH))) (wss_one (ws_ret we_bl)) wss_nil))))))
  (wss_one (ws_ret we_bl))))
theorem ok_require (T : Txt K mg D) : FnOk P w K mg base (L2.CX P w) 1 (D.f 4) (D.fd 4) ["holds", "name"] (spM ⟨K, D.cl⟩ 2 m_require) :=
  Mi.ok_fn (C := ⟨K, D.cl⟩) (N := N_require) T.f_require.fn sc_require rfl fun cdv A outer s H E hr => by
    exact (wss_one (ws_if (wt_not (wt_tru (we_var 0))) (wss_one ws_never) wss_nil))
theorem ok_width_table (T : Txt K mg D) : FnOk P w K mg base (L2.CX P w) 1 (D.f 5) (D.fd 5) ["rooms", "ducts"] (spM ⟨K, D.cl⟩ 2 m_width_table) :=
  Mi.ok_fn (C := ⟨K, D.cl⟩) (N := N_width_table) T.f_width_table.fn sc_width_table rfl fun cdv A outer s H E hr => by
    exact (wss_cons (ws_setLc 2 true [("room", 6)] sc_width_table.nd (wi_range1 T.b_range (wa_cons (we_var 0) wa_nil)) (blkOk_by (N := N_width_table) (sc := (defScope (top 15))) (by decide +kernel)) (fun s H Ca cl fp => (wg_name 6 sc_width_table.nd)) (fun s H Ca cl fp => wts_nil) (fun s H Ca cl fp => (we_mul (we_v (we_lst false (wa_cons we_int wa_nil))) (we_var 0))) (sw_true rfl rfl rfl (by decide +kernel)))
  (wss_cons (ws_for 0 (wi_seq (we_var 1)) (wg_tup (wgs_cons (wg_name 3 sc_width_table.nd) (wgs_cons (wg_name 4 sc_width_table.nd) (wgs_cons (wg_name 5 sc_width_table.nd) wgs_nil))))
  (wss_cons (ws_augi ip_add (we_item (we_var 2) (we_var 3)) (we_var 4) (we_var 5))
  (wss_one (ws_augi ip_add (we_item (we_var 2) (we_var 4)) (we_var 3) (we_var 5)))))
  (wss_one (ws_ret (we_tuple T.b_tuple (wa_cons (we_v (we_lc false [("row", 7)] sc_width_table.nd (wi_seq (we_var 2)) (blkOk_by (N := N_width_table) (sc := (defScope (top 15))) (by decide +kernel)) (fun s H Ca cl fp => (wg_name 7 sc_width_table.nd)) (fun s H Ca cl fp => wts_nil) (fun s H Ca cl fp => (we_tuple T.b_tuple (wa_cons (we_var 7) wa_nil))))) wa_nil))))))
theorem ok_Building___init__ (T : Txt K mg D) : FnOk P w K mg base (L2.CX P w) 5 (D.f 6) (D.fd 6) ["self", "rooms", "ducts"] (spI ⟨K, D.cl⟩ 0 2 m_Building___init__) :=
  Mi.ok_init (C := ⟨K, D.cl⟩) (N := N_Building___init__) 0 T.f_Building___init__.fn sc_Building___init__ rfl fun cdv A outer s H E hr => by
    exact (wss_cons (ws_expr (we_call (ok_require T) (fun ds h => runF_len ds h) (hr.mono (by decide)) T.f_require.at_ T.f_require.fn.kp T.f_require.bd (wa_cons (we_call (ok_is_between T) (fun ds h => runF_len ds h) (hr.mono (by decide)) T.f_is_between.at_ T.f_is_between.fn.kp T.f_is_between.bd (wa_cons (we_var 1) (wa_cons we_int (wa_cons (we_gint rfl T.g_MOST_ROOMS) wa_nil)))) (wa_cons we_str wa_nil))))
  (wss_cons (ws_expr (we_call (ok_require T) (fun ds h => runF_len ds h) (hr.mono (by decide)) T.f_require.at_ T.f_require.fn.kp T.f_require.bd (wa_cons (we_call (ok_are_ducts T) (fun ds h => runF_len ds h) (hr.mono (by decide)) T.f_are_ducts.at_ T.f_are_ducts.fn.kp T.f_are_ducts.bd (wa_cons (we_var 2) (wa_cons (we_var 1) wa_nil))) (wa_cons we_str wa_nil))))
  (wss_cons (ws_fld 0 T.k_Building T.n_Building_rooms (we_var 0) (we_var 1))
  (wss_cons (ws_fld 0 T.k_Building T.n_Building_ducts (we_var 0) (we_tuple T.b_tuple (wa_cons (we_v (we_lc false [("duct", 3)] sc_Building___init__.nd (wi_seq (we_var 2)) (blkOk_by (N := N_Building___init__) (sc := (defScope (inClass (top 16) 0))) (by decide +kernel)) (fun s H Ca cl fp => (wg_name 3 sc_Building___init__.nd)) (fun s H Ca cl fp => wts_nil) (fun s H Ca cl fp => (we_tuple T.b_tuple (wa_cons (we_var 3) wa_nil))))) wa_nil)))
  (wss_one (ws_fld 0 T.k_Building T.n_Building_widths (we_var 0) (we_call (ok_width_table T) (fun ds h => runF_len ds h) (hr.mono (by decide)) T.f_width_table.at_ T.f_width_table.fn.kp T.f_width_table.bd (wa_cons (we_fld 0 T.k_Building T.n_Building_rooms (we_var 0)) (wa_cons (we_fld 0 T.k_Building T.n_Building_ducts (we_var 0)) wa_nil)))))))))
theorem ok_law_after (T : Txt K mg D) : FnOk P w K mg base (L2.CX P w) 1 (D.f 7) (D.fd 7) ["table", "load", "script"] (spM ⟨K, D.cl⟩ 3 m_law_after) :=
  Mi.ok_fn (C := ⟨K, D.cl⟩) (N := N_law_after) T.f_law_after.fn sc_law_after rfl fun cdv A outer s H E hr => by
    exact (wss_cons (ws_set 3 sc_law_after.nd (we_lst false wa_nil))
  (wss_cons (ws_for 0 (wi_range1 T.b_range (wa_cons (we_len T.b_len (wa_cons (we_var 0) wa_nil)) wa_nil)) (wg_name 4 sc_law_after.nd)
  (wss_cons (ws_set 5 sc_law_after.nd we_int)
  (wss_cons (ws_for 0 (wi_range1 T.b_range (wa_cons (we_len T.b_len (wa_cons (we_var 0) wa_nil)) wa_nil)) (wg_name 6 sc_law_after.nd)
  (wss_one (ws_set 5 sc_law_after.nd (we_add (we_var 5) (we_mul (we_item (we_item (we_var 0) (we_var 4)) (we_var 6)) (we_sub (we_item (we_var 2) (we_var 4)) (we_item (we_var 2) (we_var 6))))))))
  (wss_one (ws_expr (we_append false (we_var 3) (wa_cons (we_sub (we_item (we_var 1) (we_var 4)) (we_var 5)) wa_nil)))))))
  (wss_one (ws_ret (we_var 3)))))
theorem ok_law_cell (T : Txt K mg D) : FnOk P w K mg base (L2.CX P w) 1 (D.f 8) (D.fd 8) ["script", "k"] (spM ⟨K, D.cl⟩ 2 m_law_cell) :=
  Mi.ok_fn (C := ⟨K, D.cl⟩) (N := N_law_cell) T.f_law_cell.fn sc_law_cell rfl fun cdv A outer s H E hr => by
    exact (wss_cons (ws_if (wt_cmp (fun _ => op_lt) o2_lt (we_var 1) (we_len T.b_len (wa_cons (we_var 0) wa_nil))) (wss_one (ws_ret (we_item (we_var 0) (we_var 1)))) wss_nil)
  (wss_one (ws_ret we_int)))
theorem ok_law_full (T : Txt K mg D) : FnOk P w K mg base (L2.CX P w) 1 (D.f 9) (D.fd 9) ["table", "held"] (spM ⟨K, D.cl⟩ 2 m_law_full) :=
  Mi.ok_fn (C := ⟨K, D.cl⟩) (N := N_law_full) T.f_law_full.fn sc_law_full rfl fun cdv A outer s H E hr => by
    exact (wss_one (ws_ret (we_lc false [("a", 2)] sc_law_full.nd (wi_range1 T.b_range (wa_cons (we_len T.b_len (wa_cons (we_var 0) wa_nil)) wa_nil)) (blkOk_by (N := N_law_full) (sc := (defScope (top 43))) (by decide +kernel)) (fun s H Ca cl fp => (wg_name 2 sc_law_full.nd)) (fun s H Ca cl fp => (wts_one (wt_w (ww_and (wt_cmp (fun _ => op_gt) o2_gt (we_sumT T.b_sum (wa_cons (we_item (we_var 0) (we_var 2)) wa_nil)) we_int) (ww_and1 (wt_cmp (fun _ => op_ge) o2_ge (we_item (we_var 1) (we_var 2)) (we_sumT T.b_sum (wa_cons (we_item (we_var 0) (we_var 2)) wa_nil)))))))) (fun s H Ca cl fp => (we_var 2)))))
theorem ok_law_integer (T : Txt K mg D) : FnOk P w K mg base (L2.CX P w) 1 (D.f 10) (D.fd 10) ["value"] (spM ⟨K, D.cl⟩ 1 m_law_integer) :=
  Mi.ok_fn (C := ⟨K, D.cl⟩) (N := N_law_integer) T.f_law_integer.fn sc_law_integer rfl fun cdv A outer s H E hr => by
    exact (wss_one (ws_ret (we_and (we_isi isf0 T.b_isinstance (wa_cons (we_var 0) (wa_cons (we_ty rfl T.b_int (by decide +kernel)) wa_nil))) (we_one (we_not (we_isi isf0 T.b_isinstance (wa_cons (we_var 0) (wa_cons (we_ty rfl T.b_bool (by decide +kernel)) wa_nil))))))))
theorem ok_law_draw (T : Txt K mg D) : FnOk P w K mg base (L2.CX P w) 1 (D.f 11) (D.fd 11) ["cell", "bounds"] (spM ⟨K, D.cl⟩ 2 m_law_draw) :=
  Mi.ok_fn (C := ⟨K, D.cl⟩) (N := N_law_draw) T.f_law_draw.fn sc_law_draw rfl fun cdv A outer s H E hr => by
    exact (wss_cons (ws_set 2 sc_law_draw.nd (we_lst false wa_nil))
  (wss_cons (ws_set 3 sc_law_draw.nd (we_sub (we_var 0) (we_pow we_int we_int)))
  (wss_cons (ws_for 0 (wi_range1 T.b_range (wa_cons (we_len T.b_len (wa_cons (we_var 1) wa_nil)) wa_nil)) (wg_name 4 sc_law_draw.nd)
  (wss_one (ws_if (wt_cmp (fun _ => op_ge) o2_ge (we_var 0) (we_pow we_int we_int)) (wss_cons (ws_expr (we_append false (we_var 2) (wa_cons (we_mod (we_int' T.b_int (wa_cons (we_var 3) wa_nil)) (we_item (we_var 1) (we_var 4))) wa_nil)))
  (wss_one (ws_set 3 sc_law_draw.nd (we_div (we_var 3) (we_item (we_var 1) (we_var 4)))))) (wss_cons (ws_set 5 sc_law_draw.nd (we_mod (we_int' T.b_int (wa_cons (we_add (we_add (we_mul (we_mod (we_int' T.b_int (wa_cons (we_var 0) wa_nil)) we_int) we_int) (we_mul (we_var 4) we_int)) we_int) wa_nil)) we_int))
  (wss_cons (ws_set 5 sc_law_draw.nd (we_mod (we_int' T.b_int (wa_cons (we_add (we_mul (we_var 5) we_int) (we_var 4)) wa_nil)) we_int))
  (wss_one (ws_expr (we_append false (we_var 2) (wa_cons (we_mod (we_int' T.b_int (wa_cons (we_div (we_var 5) we_int) wa_nil)) (we_item (we_var 1) (we_var 4))) wa_nil)))))))))
  (wss_one (ws_ret (we_var 2))))))
theorem ok_law_numbers (T : Txt K mg D) : FnOk P w K mg base (L2.CX P w) 2 (D.f 12) (D.fd 12) ["cell", "count", "least", "most"] (spM ⟨K, D.cl⟩ 4 m_law_numbers) :=
  Mi.ok_fn (C := ⟨K, D.cl⟩) (N := N_law_numbers) T.f_law_numbers.fn sc_law_numbers rfl fun cdv A outer s H E hr => by
    exact (wss_cons (ws_set 4 sc_law_numbers.nd (we_v (we_mul (we_v (we_lst false (wa_cons (we_add (we_sub (we_var 3) (we_var 2)) we_int) wa_nil))) (we_var 1))))
  (wss_one (ws_ret (we_lc false [("number", 5)] sc_law_numbers.nd (wi_seq (we_v (we_call (ok_law_draw T) (fun ds h => runF_len ds h) (hr.mono (by decide)) T.f_law_draw.at_ T.f_law_draw.fn.kp T.f_law_draw.bd (wa_cons (we_var 0) (wa_cons (we_var 4) wa_nil))))) (blkOk_by (N := N_law_numbers) (sc := (defScope (top 38))) (by decide +kernel)) (fun s H Ca cl fp => (wg_name 5 sc_law_numbers.nd)) (fun s H Ca cl fp => wts_nil) (fun s H Ca cl fp => (we_add (we_var 2) (we_var 5)))))))
theorem ok_law_pieces (T : Txt K mg D) : FnOk P w K mg base (L2.CX P w) 1 (D.f 13) (D.fd 13) ["table"] (spM ⟨K, D.cl⟩ 1 m_law_pieces) :=
  Mi.ok_fn (C := ⟨K, D.cl⟩) (N := N_law_pieces) T.f_law_pieces.fn sc_law_pieces rfl fun cdv A outer s H E hr => by
    have hu := hu_of hr
    exact (wss_cons (ws_set 1 sc_law_pieces.nd (we_lst false wa_nil))
  (wss_cons (ws_set 2 sc_law_pieces.nd (we_v (we_lst false wa_nil)))
  (wss_cons (ws_for 0 (wi_range1 T.b_range (wa_cons (we_len T.b_len (wa_cons (we_var 0) wa_nil)) wa_nil)) (wg_name 3 sc_law_pieces.nd)
  (wss_one (ws_if (wt_cmp (fun hK => op_notInA hu hK) (o2_in true) (we_var 3) (we_var 2)) (wss_cons (ws_set 4 sc_law_pieces.nd (we_v (we_lst false (wa_cons (we_var 3) wa_nil))))
  (wss_cons (ws_for 0 (wi_range1 T.b_range (wa_cons (we_len T.b_len (wa_cons (we_var 0) wa_nil)) wa_nil)) (wg_name 5 sc_law_pieces.nd)
  (wss_one (ws_for 0 (wi_range1 T.b_range (wa_cons (we_len T.b_len (wa_cons (we_var 0) wa_nil)) wa_nil)) (wg_name 6 sc_law_pieces.nd)
  (wss_one (ws_if (wt_w (ww_and (wt_cmp (fun hK => op_notInA hu hK) (o2_in true) (we_var 6) (we_var 4)) (ww_and1 (wt_cmp (fun _ => op_gt) o2_gt (we_sum T.b_sum (wa_cons (we_v (we_lc false [("c", 7)] sc_law_pieces.nd (wi_seq (we_var 4)) (blkOk_by (N := N_law_pieces) (sc := (defScope (top 41))) (by decide +kernel)) (fun s H Ca cl fp => (wg_name 7 sc_law_pieces.nd)) (fun s H Ca cl fp => wts_nil) (fun s H Ca cl fp => (we_item (we_item (we_var 0) (we_var 6)) (we_var 7))))) wa_nil)) we_int)))) (wss_one (ws_set 4 sc_law_pieces.nd (we_v (we_add (we_var 4) (we_v (we_lst false (wa_cons (we_var 6) wa_nil))))))) wss_nil)))))
  (wss_cons (ws_expr (we_append false (we_var 1) (wa_cons (we_v (we_sorted T.b_sorted (wa_cons (we_var 4) wa_nil))) wa_nil)))
  (wss_one (ws_set 2 sc_law_pieces.nd (we_v (we_add (we_var 2) (we_var 4)))))))) wss_nil)))
  (wss_one (ws_ret (we_var 1))))))
theorem ok_law_ducts (T : Txt K mg D) : FnOk P w K mg base (L2.CX P w) 2 (D.f 14) (D.fd 14) ["cell", "rooms", "joined_v", "extra", "most"] (spM ⟨K, D.cl⟩ 5 m_law_ducts) :=
  Mi.ok_fn (C := ⟨K, D.cl⟩) (N := N_law_ducts) T.f_law_ducts.fn sc_law_ducts rfl fun cdv A outer s H E hr => by
    exact (wss_cons (ws_set 5 sc_law_ducts.nd (we_lst false wa_nil))
  (wss_cons (ws_if (wt_cmp (fun hK => hK ▸ op_eqD hr.units) o2_eq (we_var 1) we_int) (wss_one (ws_ret (we_var 5))) wss_nil)
  (wss_cons (ws_set 6 sc_law_ducts.nd (we_v (we_lst false wa_nil)))
  (wss_cons (ws_for 0 (wi_range1 T.b_range (wa_cons (we_add (we_var 2) (we_var 3)) wa_nil)) (wg_name 7 sc_law_ducts.nd)
  (wss_one (ws_set 6 sc_law_ducts.nd (we_v (we_add (we_var 6) (we_v (we_lst false (wa_cons we_int (wa_cons (we_mul we_int (we_sub (we_var 1) we_int)) (wa_cons (we_var 4) wa_nil))))))))))
  (wss_cons (ws_set 8 sc_law_ducts.nd (we_v (we_call (ok_law_draw T) (fun ds h => runF_len ds h) (hr.mono (by decide)) T.f_law_draw.at_ T.f_law_draw.fn.kp T.f_law_draw.bd (wa_cons (we_var 0) (wa_cons (we_var 6) wa_nil)))))
  (wss_cons (ws_for 0 (wi_range1 T.b_range (wa_cons (we_add (we_var 2) (we_var 3)) wa_nil)) (wg_name 7 sc_law_ducts.nd)
  (wss_cons (ws_set 9 sc_law_ducts.nd (we_mod (we_int' T.b_int (wa_cons (we_item (we_var 8) (we_mul we_int (we_var 7))) wa_nil)) (we_var 1)))
  (wss_cons (ws_set 10 sc_law_ducts.nd (we_mod (we_int' T.b_int (wa_cons (we_add (we_add (we_var 9) we_int) (we_div (we_item (we_var 8) (we_add (we_mul we_int (we_var 7)) we_int)) we_int)) wa_nil)) (we_var 1)))
  (wss_cons (ws_if (wt_cmp (fun _ => op_lt) o2_lt (we_var 7) (we_var 2)) (wss_cons (ws_set 9 sc_law_ducts.nd (we_add (we_var 7) we_int))
  (wss_cons (ws_set 10 sc_law_ducts.nd (we_mod (we_int' T.b_int (wa_cons (we_item (we_var 8) (we_mul we_int (we_var 7))) wa_nil)) (we_add (we_var 7) we_int)))
  (wss_one (ws_if (wt_cmp (fun hK => hK ▸ op_eqD hr.units) o2_eq (we_mod (we_int' T.b_int (wa_cons (we_item (we_var 8) (we_add (we_mul we_int (we_var 7)) we_int)) wa_nil)) we_int) we_int) (wss_cons (ws_set 9 sc_law_ducts.nd (we_var 10))
  (wss_one (ws_set 10 sc_law_ducts.nd (we_add (we_var 7) we_int)))) wss_nil)))) wss_nil)
  (wss_one (ws_expr (we_append false (we_var 5) (wa_cons (we_tup (wa_cons (we_var 9) (wa_cons (we_var 10) (wa_cons (we_add (we_item (we_var 8) (we_add (we_mul we_int (we_var 7)) we_int)) we_int) wa_nil)))) wa_nil))))))))
  (wss_one (ws_ret (we_var 5)))))))))
theorem ok_law_plan (T : Txt K mg D) : FnOk P w K mg base (L2.CX P w) 3 (D.f 15) (D.fd 15) ["script", "at", "most_rooms", "most_extra", "most_width"] (spM ⟨K, D.cl⟩ 5 m_law_plan) :=
  Mi.ok_fn (C := ⟨K, D.cl⟩) (N := N_law_plan) T.f_law_plan.fn sc_law_plan rfl fun cdv A outer s H E hr => by
    exact (wss_cons (ws_set 5 sc_law_plan.nd (we_v (we_call (ok_law_draw T) (fun ds h => runF_len ds h) (hr.mono (by decide)) T.f_law_draw.at_ T.f_law_draw.fn.kp T.f_law_draw.bd (wa_cons (we_call (ok_law_cell T) (fun ds h => runF_len ds h) (hr.mono (by decide)) T.f_law_cell.at_ T.f_law_cell.fn.kp T.f_law_cell.bd (wa_cons (we_var 0) (wa_cons (we_var 1) wa_nil))) (wa_cons (we_v (we_lst false (wa_cons (we_var 2) (wa_cons (we_add (we_var 3) we_int) (wa_cons we_int wa_nil))))) wa_nil)))))
  (wss_cons (ws_set 6 sc_law_plan.nd (we_add (we_item (we_var 5) we_int) we_int))
  (wss_cons (ws_set 7 sc_law_plan.nd (we_sub (we_var 6) we_int))
  (wss_cons (ws_if (wt_cmp (fun hK => hK ▸ op_eqD hr.units) o2_eq (we_item (we_var 5) we_int) we_int) (wss_one (ws_set 7 sc_law_plan.nd we_int)) wss_nil)
  (wss_one (ws_ret (we_lst false (wa_cons (we_var 6) (wa_cons (we_v (we_call (ok_law_ducts T) (fun ds h => runF_len ds h) (hr.mono (by decide)) T.f_law_ducts.at_ T.f_law_ducts.fn.kp T.f_law_ducts.bd (wa_cons (we_call (ok_law_cell T) (fun ds h => runF_len ds h) (hr.mono (by decide)) T.f_law_cell.at_ T.f_law_cell.fn.kp T.f_law_cell.bd (wa_cons (we_var 0) (wa_cons (we_add (we_var 1) we_int) wa_nil))) (wa_cons (we_var 6) (wa_cons (we_var 7) (wa_cons (we_item (we_var 5) we_int) (wa_cons (we_var 4) wa_nil))))))) wa_nil)))))))))
theorem ok_law_run (T : Txt K mg D) : FnOk P w K mg base (L2.CX P w) 2 (D.f 16) (D.fd 16) ["table", "piece", "load"] (spM ⟨K, D.cl⟩ 3 m_law_run) :=
  Mi.ok_fn (C := ⟨K, D.cl⟩) (N := N_law_run) T.f_law_run.fn sc_law_run rfl fun cdv A outer s H E hr => by
    have hu := hu_of hr
    exact (wss_cons (ws_set 3 sc_law_run.nd (we_list T.b_list (wa_cons (we_var 2) wa_nil)))
  (wss_cons (ws_set 4 sc_law_run.nd (we_mul (we_v (we_lst false (wa_cons we_int wa_nil))) (we_len T.b_len (wa_cons (we_var 0) wa_nil))))
  (wss_cons (ws_for 0 (wi_range1 T.b_range (wa_cons we_int wa_nil)) (wg_name 5 sc_law_run.nd)
  (wss_cons (ws_setLcV 6 false [("a", 9)] sc_law_run.nd (wi_seq (we_v (we_callRd [false, true] (ok_law_full T) (fun ds h => runF_len ds h) (hr.mono (by decide)) T.f_law_full.at_ T.f_law_full.fn.kp T.f_law_full.bd (wa_cons (we_var 0) (wa_cons (we_var 3) wa_nil))))) (blkOk_by (N := N_law_run) (sc := (defScope (top 44))) (by decide +kernel)) (fun s H Ca cl fp => (wg_name 9 sc_law_run.nd)) (fun s H Ca cl fp => (wts_one (wt_cmp (fun hK => op_inA hu hK) (o2_in false) (we_var 9) (we_var 1)))) (fun s H Ca cl fp => (we_var 9)) (sw_true rfl rfl rfl (by decide +kernel)))
  (wss_cons (ws_if (wt_cmp (fun hK => hK ▸ op_eqD hr.units) o2_eq (we_len T.b_len (wa_cons (we_var 6) wa_nil)) we_int) (wss_one (ws_ret (we_lst false (wa_cons (we_var 3) (wa_cons (we_var 4) wa_nil))))) wss_nil)
  (wss_cons (ws_if (wt_cmp (fun hK => hK ▸ op_eqD hr.units) o2_eq (we_len T.b_len (wa_cons (we_v (we_lc false [("a", 9)] sc_law_run.nd (wi_seq (we_var 1)) (blkOk_by (N := N_law_run) (sc := (defScope (top 44))) (by decide +kernel)) (fun s H Ca cl fp => (wg_name 9 sc_law_run.nd)) (fun s H Ca cl fp => (wts_one (wt_cmp (fun hK => hK ▸ op_eqD hr.units) o2_eq (we_item (we_var 4) (we_var 9)) we_int))) (fun s H Ca cl fp => (we_var 9)))) wa_nil)) we_int) (wss_one (ws_ret (we_lst false wa_nil))) wss_nil)
  (wss_cons (ws_set 7 sc_law_run.nd (we_item (we_var 6) (we_sub (we_len T.b_len (wa_cons (we_var 6) wa_nil)) we_int)))
  (wss_cons (ws_seti (we_var 4) (we_var 7) (we_add (we_item (we_var 4) (we_var 7)) we_int))
  (wss_cons (ws_for 0 (wi_range1 T.b_range (wa_cons (we_len T.b_len (wa_cons (we_var 0) wa_nil)) wa_nil)) (wg_name 8 sc_law_run.nd)
  (wss_one (ws_seti (we_var 3) (we_var 8) (we_add (we_item (we_var 3) (we_var 8)) (we_item (we_item (we_var 0) (we_var 7)) (we_var 8))))))
  (wss_one (ws_seti (we_var 3) (we_var 7) (we_sub (we_item (we_var 3) (we_var 7)) (we_sumT T.b_sum (wa_cons (we_item (we_var 0) (we_var 7)) wa_nil))))))))))))
  (wss_one (ws_ret (we_lst false wa_nil))))))
theorem ok_law_widths (T : Txt K mg D) : FnOk P w K mg base (L2.CX P w) 1 (D.f 17) (D.fd 17) ["rooms", "ducts"] (spM ⟨K, D.cl⟩ 2 m_law_widths) :=
  Mi.ok_fn (C := ⟨K, D.cl⟩) (N := N_law_widths) T.f_law_widths.fn sc_law_widths rfl fun cdv A outer s H E hr => by
    exact (wss_cons (ws_set 2 sc_law_widths.nd (we_lst false wa_nil))
  (wss_cons (ws_for 0 (wi_range1 T.b_range (wa_cons (we_var 0) wa_nil)) (wg_name 3 sc_law_widths.nd)
  (wss_one (ws_expr (we_append true (we_var 2) (wa_cons (we_mul (we_v (we_lst false (wa_cons we_int wa_nil))) (we_var 0)) wa_nil)))))
  (wss_cons (ws_for 0 (wi_seq (we_var 1)) (wg_name 4 sc_law_widths.nd)
  (wss_cons (ws_set 5 sc_law_widths.nd (we_item (we_var 2) (we_item (we_var 4) we_int)))
  (wss_cons (ws_seti (we_var 5) (we_item (we_var 4) we_int) (we_add (we_item (we_var 5) (we_item (we_var 4) we_int)) (we_item (we_var 4) we_int)))
  (wss_cons (ws_set 5 sc_law_widths.nd (we_item (we_var 2) (we_item (we_var 4) we_int)))
  (wss_one (ws_seti (we_var 5) (we_item (we_var 4) we_int) (we_add (we_item (we_var 5) (we_item (we_var 4) we_int)) (we_item (we_var 4) we_int))))))))
  (wss_one (ws_ret (we_var 2))))))
theorem ok_Building_width_rows (T : Txt K mg D) : FnOk P w K mg base (L2.CX P w) 1 (D.f 18) (D.fd 18) ["self"] (spM ⟨K, D.cl⟩ 1 m_Building_width_rows) :=
  Mi.ok_fn (C := ⟨K, D.cl⟩) (N := N_Building_width_rows) T.f_Building_width_rows.fn sc_Building_width_rows rfl fun cdv A outer s H E hr => by
    exact (wss_one (ws_ret (we_fld 0 T.k_Building T.n_Building_widths (we_var 0))))
theorem ok_require_building (T : Txt K mg D) : FnOk P w K mg base (L2.CX P w) 2 (D.f 19) (D.fd 19) ["building"] (spM ⟨K, D.cl⟩ 1 m_require_building) :=
  Mi.ok_fn (C := ⟨K, D.cl⟩) (N := N_require_building) T.f_require_building.fn sc_require_building rfl fun cdv A outer s H E hr => by
    exact (wss_one (ws_expr (we_call (ok_require T) (fun ds h => runF_len ds h) (hr.mono (by decide)) T.f_require.at_ T.f_require.fn.kp T.f_require.bd (wa_cons (we_isi T.isB T.b_isinstance (wa_cons (we_var 0) (wa_cons (we_cls rfl T.c_Building) wa_nil))) (wa_cons we_str wa_nil)))))
theorem ok_require_load (T : Txt K mg D) : FnOk P w K mg base (L2.CX P w) 4 (D.f 20) (D.fd 20) ["building", "load", "name"] (spM ⟨K, D.cl⟩ 3 m_require_load) :=
  Mi.ok_fn (C := ⟨K, D.cl⟩) (N := N_require_load) T.f_require_load.fn sc_require_load rfl fun cdv A outer s H E hr => by
    exact (wss_one (ws_expr (we_call (ok_require T) (fun ds h => runF_len ds h) (hr.mono (by decide)) T.f_require.at_ T.f_require.fn.kp T.f_require.bd (wa_cons (we_call (ok_is_table T) (fun ds h => runF_len ds h) (hr.mono (by decide)) T.f_is_table.at_ T.f_is_table.fn.kp T.f_is_table.bd (wa_cons (we_var 1) (wa_cons (we_fld 0 T.k_Building T.n_Building_rooms (we_var 0)) (wa_cons (we_neg (we_gint rfl T.g_MOST_UNITS)) (wa_cons (we_gint rfl T.g_MOST_UNITS) wa_nil))))) (wa_cons (we_var 2) wa_nil)))))
theorem ok_joined (T : Txt K mg D) : FnOk P w K mg base (L2.CX P w) 1 (D.f 21) (D.fd 21) ["widths", "room"] (spM ⟨K, D.cl⟩ 2 m_joined) :=
  Mi.ok_fn (C := ⟨K, D.cl⟩) (N := N_joined) T.f_joined.fn sc_joined rfl fun cdv A outer s H E hr => by
    have hu := hu_of hr
    exact (wss_cons (ws_set 2 sc_joined.nd (we_disp1 (we_var 1) we_bl))
  (wss_cons (ws_set 3 sc_joined.nd (we_lst false (wa_cons (we_var 1) wa_nil)))
  (wss_cons (ws_while 100 (wt_cmp (fun _ => op_gt) o2_gt (we_len T.b_len (wa_cons (we_var 3) wa_nil)) we_int) (wss_cons (ws_set 4 sc_joined.nd (we_pop0 (we_var 3)))
  (wss_one (ws_for 0 (wi_enum T.b_enumerate (wa_cons (we_item (we_var 0) (we_var 4)) wa_nil)) (wg_tup (wgs_cons (wg_name 5 sc_joined.nd) (wgs_cons (wg_name 6 sc_joined.nd) wgs_nil)))
  (wss_one (ws_if (wt_w (ww_and (wt_cmp (fun _ => op_gt) o2_gt (we_var 6) we_int) (ww_and1 (wt_cmp (fun hK => op_notInA hu hK) (o2_in true) (we_var 5) (we_var 2))))) (wss_cons (ws_dput hu (we_var 2) (we_var 5) we_bl)
  (wss_one (ws_expr (we_append false (we_var 3) (wa_cons (we_var 5) wa_nil))))) wss_nil))))))
  (wss_one (ws_ret (we_tuple T.b_tuple (wa_cons (we_v (we_sorted T.b_sorted (wa_cons (we_var 2) wa_nil))) wa_nil)))))))
theorem ok_piece_list (T : Txt K mg D) : FnOk P w K mg base (L2.CX P w) 2 (D.f 22) (D.fd 22) ["widths"] (spM ⟨K, D.cl⟩ 1 m_piece_list) :=
  Mi.ok_fn (C := ⟨K, D.cl⟩) (N := N_piece_list) T.f_piece_list.fn sc_piece_list rfl fun cdv A outer s H E hr => by
    have hu := hu_of hr
    exact (wss_cons (ws_set 1 sc_piece_list.nd (we_lst false wa_nil))
  (wss_cons (ws_set 2 sc_piece_list.nd we_dnew)
  (wss_cons (ws_for 0 (wi_range1 T.b_range (wa_cons (we_len T.b_len (wa_cons (we_var 0) wa_nil)) wa_nil)) (wg_name 3 sc_piece_list.nd)
  (wss_one (ws_if (wt_cmp (fun hK => op_notInA hu hK) (o2_in true) (we_var 3) (we_var 2)) (wss_cons (ws_set 4 sc_piece_list.nd (we_call (ok_joined T) (fun ds h => runF_len ds h) (hr.mono (by decide)) T.f_joined.at_ T.f_joined.fn.kp T.f_joined.bd (wa_cons (we_var 0) (wa_cons (we_var 3) wa_nil))))
  (wss_cons (ws_for 0 (wi_seq (we_var 4)) (wg_name 5 sc_piece_list.nd)
  (wss_one (ws_dput hu (we_var 2) (we_var 5) we_bl)))
  (wss_one (ws_expr (we_append false (we_var 1) (wa_cons (we_var 4) wa_nil)))))) wss_nil)))
  (wss_one (ws_ret (we_var 1))))))
theorem ok_give (T : Txt K mg D) : FnOk P w K mg base (L2.CX P w) 1 (D.f 23) (D.fd 23) ["widths", "held", "room", "times"] (spP ⟨K, D.cl⟩ [false, true, false, false] m_give) :=
  Mi.ok_fnP (C := ⟨K, D.cl⟩) (N := N_give) [false, true, false, false] T.f_give.fn sc_give rfl rfl fun cdv A outer s H E hr => by
    exact (wss_cons (ws_for 0 (wi_enum T.b_enumerate (wa_cons (we_item (we_var 0) (we_var 2)) wa_nil)) (wg_tup (wgs_cons (wg_name 4 sc_give.nd) (wgs_cons (wg_name 5 sc_give.nd) wgs_nil)))
  (wss_one (ws_augi ip_add (we_var 1) (we_var 4) (we_mul (we_var 3) (we_var 5)))))
  (wss_one (ws_augi ip_sub (we_var 1) (we_var 2) (we_mul (we_var 3) (we_sumT T.b_sum (wa_cons (we_item (we_var 0) (we_var 2)) wa_nil))))))
theorem ok_run_piece (T : Txt K mg D) : FnOk P w K mg base (L2.CX P w) 2 (D.f 24) (D.fd 24) ["widths", "rooms", "load"] (spM ⟨K, D.cl⟩ 3 m_run_piece) :=
  Mi.ok_fn (C := ⟨K, D.cl⟩) (N := N_run_piece) T.f_run_piece.fn sc_run_piece rfl fun cdv A outer s H E hr => by
    have hu := hu_of hr
    exact (wss_cons (ws_set 3 sc_run_piece.nd (we_list T.b_list (wa_cons (we_var 2) wa_nil)))
  (wss_cons (ws_set 4 sc_run_piece.nd (we_mul (we_v (we_lst false (wa_cons we_int wa_nil))) (we_len T.b_len (wa_cons (we_var 0) wa_nil))))
  (wss_cons (ws_set 5 sc_run_piece.nd we_dnew)
  (wss_cons (ws_set 6 sc_run_piece.nd we_int)
  (wss_one (ws_while 1000000 (wt_tru we_bl) (wss_cons (ws_set 7 sc_run_piece.nd we_bl)
  (wss_cons (ws_for 0 (wi_seq (we_var 1)) (wg_name 8 sc_run_piece.nd)
  (wss_cons (ws_set 9 sc_run_piece.nd (we_sumT T.b_sum (wa_cons (we_item (we_var 0) (we_var 8)) wa_nil)))
  (wss_one (ws_if (wt_w (ww_and (wt_cmp (fun _ => op_gt) o2_gt (we_var 9) we_int) (ww_and1 (wt_cmp (fun _ => op_ge) o2_ge (we_item (we_var 3) (we_var 8)) (we_var 9))))) (wss_cons (ws_set 10 sc_run_piece.nd (we_div (we_item (we_var 3) (we_var 8)) (we_var 9)))
  (wss_cons (ws_expr (we_callP (ok_give T) (hr.mono (by decide)) T.f_give.at_ T.f_give.fn.kp T.f_give.bd (wa_cons (we_var 0) (wa_cons (we_var 3) (wa_cons (we_var 8) (wa_cons (we_var 10) wa_nil))))))
  (wss_cons (ws_augi ip_add (we_var 4) (we_var 8) (we_var 10))
  (wss_cons (ws_aug 6 sc_run_piece.nd ip_add we_int)
  (wss_cons (ws_dput hu (we_var 5) (we_var 8) (we_var 6))
  (wss_one (ws_set 7 sc_run_piece.nd we_bl))))))) wss_nil))))
  (wss_one (ws_if (wt_w (ww_or (wt_tru (we_var 7)) (ww_or1 (wt_cmp (fun hK => hK ▸ op_eqD hr.units) o2_eq (we_len T.b_len (wa_cons (we_var 5) wa_nil)) (we_len T.b_len (wa_cons (we_var 1) wa_nil)))))) (wss_one (ws_ret (we_tup (wa_cons (we_var 7) (wa_cons (we_var 3) (wa_cons (we_var 4) (wa_cons (we_var 5) wa_nil))))))) wss_nil))))))))))
theorem ok_spill_of (T : Txt K mg D) : FnOk P w K mg base (L2.CX P w) 3 (D.f 25) (D.fd 25) ["widths", "load"] (spM ⟨K, D.cl⟩ 2 m_spill_of) :=
  Mi.ok_fn (C := ⟨K, D.cl⟩) (N := N_spill_of) T.f_spill_of.fn sc_spill_of rfl fun cdv A outer s H E hr => by
    exact (wss_cons (ws_set 2 sc_spill_of.nd (we_mul (we_v (we_lst false (wa_cons we_non wa_nil))) (we_len T.b_len (wa_cons (we_var 0) wa_nil))))
  (wss_cons (ws_set 3 sc_spill_of.nd (we_mul (we_v (we_lst false (wa_cons we_non wa_nil))) (we_len T.b_len (wa_cons (we_var 0) wa_nil))))
  (wss_cons (ws_for 0 (wi_seq (we_v (we_call (ok_piece_list T) (fun ds h => runF_len ds h) (hr.mono (by decide)) T.f_piece_list.at_ T.f_piece_list.fn.kp T.f_piece_list.bd (wa_cons (we_var 0) wa_nil)))) (wg_name 4 sc_spill_of.nd)
  (wss_cons (ws_asg (we_call (ok_run_piece T) (fun ds h => runF_len ds h) (hr.mono (by decide)) T.f_run_piece.at_ T.f_run_piece.fn.kp T.f_run_piece.bd (wa_cons (we_var 0) (wa_cons (we_var 4) (wa_cons (we_var 1) wa_nil)))) (wg_tup (wgs_cons (wg_name 5 sc_spill_of.nd) (wgs_cons (wg_name 6 sc_spill_of.nd) (wgs_cons (wg_name 7 sc_spill_of.nd) (wgs_cons (wg_name 8 sc_spill_of.nd) wgs_nil))))))
  (wss_one (ws_if (wt_tru (we_var 5)) (wss_one (ws_for 0 (wi_seq (we_var 4)) (wg_name 9 sc_spill_of.nd)
  (wss_cons (ws_seti (we_var 2) (we_var 9) (we_item (we_var 6) (we_var 9)))
  (wss_one (ws_seti (we_var 3) (we_var 9) (we_item (we_var 7) (we_var 9))))))) wss_nil))))
  (wss_one (ws_ret (we_tup (wa_cons (we_tuple T.b_tuple (wa_cons (we_var 2) wa_nil)) (wa_cons (we_tuple T.b_tuple (wa_cons (we_var 3) wa_nil)) wa_nil))))))))
theorem ok_spill (T : Txt K mg D) : FnOk P w K mg base (L2.CX P w) 5 (D.f 26) (D.fd 26) ["building", "load"] (spM ⟨K, D.cl⟩ 2 m_spill) :=
  Mi.ok_fn (C := ⟨K, D.cl⟩) (N := N_spill) T.f_spill.fn sc_spill rfl fun cdv A outer s H E hr => by
    exact (wss_cons (ws_expr (we_call (ok_require_building T) (fun ds h => runF_len ds h) (hr.mono (by decide)) T.f_require_building.at_ T.f_require_building.fn.kp T.f_require_building.bd (wa_cons (we_var 0) wa_nil)))
  (wss_cons (ws_expr (we_call (ok_require_load T) (fun ds h => runF_len ds h) (hr.mono (by decide)) T.f_require_load.at_ T.f_require_load.fn.kp T.f_require_load.bd (wa_cons (we_var 0) (wa_cons (we_var 1) (wa_cons we_str wa_nil)))))
  (wss_one (ws_ret (we_call (ok_spill_of T) (fun ds h => runF_len ds h) (hr.mono (by decide)) T.f_spill_of.at_ T.f_spill_of.fn.kp T.f_spill_of.bd (wa_cons (we_meth0 0 T.k_Building T.m_Building_width_rows (ok_Building_width_rows T) (fun ds h => runF_len ds h) (hr.mono (by decide)) T.f_Building_width_rows.bd (we_var 0)) (wa_cons (we_var 1) wa_nil)))))))
theorem ok_full_list (T : Txt K mg D) : FnOk P w K mg base (L2.CX P w) 1 (D.f 27) (D.fd 27) ["widths", "load"] (spM ⟨K, D.cl⟩ 2 m_full_list) :=
  Mi.ok_fn (C := ⟨K, D.cl⟩) (N := N_full_list) T.f_full_list.fn sc_full_list rfl fun cdv A outer s H E hr => by
    exact (wss_cons (ws_set 2 sc_full_list.nd (we_lst false wa_nil))
  (wss_cons (ws_for 0 (wi_enum T.b_enumerate (wa_cons (we_var 0) wa_nil)) (wg_tup (wgs_cons (wg_name 3 sc_full_list.nd) (wgs_cons (wg_name 4 sc_full_list.nd) wgs_nil)))
  (wss_cons (ws_set 5 sc_full_list.nd (we_sumT T.b_sum (wa_cons (we_var 4) wa_nil)))
  (wss_one (ws_if (wt_w (ww_and (wt_cmp (fun _ => op_gt) o2_gt (we_var 5) we_int) (ww_and1 (wt_cmp (fun _ => op_ge) o2_ge (we_item (we_var 1) (we_var 3)) (we_var 5))))) (wss_one (ws_expr (we_append false (we_var 2) (wa_cons (we_var 3) wa_nil)))) wss_nil))))
  (wss_one (ws_ret (we_var 2)))))
theorem ok_shifted (T : Txt K mg D) : FnOk P w K mg base (L2.CX P w) 1 (D.f 28) (D.fd 28) ["widths", "load", "script"] (spM ⟨K, D.cl⟩ 3 m_shifted) :=
  Mi.ok_fn (C := ⟨K, D.cl⟩) (N := N_shifted) T.f_shifted.fn sc_shifted rfl fun cdv A outer s H E hr => by
    exact (wss_cons (ws_set 3 sc_shifted.nd (we_lst false wa_nil))
  (wss_cons (ws_for 0 (wi_enum T.b_enumerate (wa_cons (we_var 0) wa_nil)) (wg_tup (wgs_cons (wg_name 4 sc_shifted.nd) (wgs_cons (wg_name 5 sc_shifted.nd) wgs_nil)))
  (wss_cons (ws_set 6 sc_shifted.nd we_int)
  (wss_cons (ws_for 0 (wi_enum T.b_enumerate (wa_cons (we_var 5) wa_nil)) (wg_tup (wgs_cons (wg_name 7 sc_shifted.nd) (wgs_cons (wg_name 8 sc_shifted.nd) wgs_nil)))
  (wss_one (ws_aug 6 sc_shifted.nd ip_add (we_mul (we_var 8) (we_sub (we_item (we_var 2) (we_var 4)) (we_item (we_var 2) (we_var 7)))))))
  (wss_one (ws_expr (we_append false (we_var 3) (wa_cons (we_sub (we_item (we_var 1) (we_var 4)) (we_var 6)) wa_nil)))))))
  (wss_one (ws_ret (we_tuple T.b_tuple (wa_cons (we_var 3) wa_nil))))))
theorem ok_ticked (T : Txt K mg D) : FnOk P w K mg base (L2.CX P w) 2 (D.f 29) (D.fd 29) ["widths", "load"] (spM ⟨K, D.cl⟩ 2 m_ticked) :=
  Mi.ok_fn (C := ⟨K, D.cl⟩) (N := N_ticked) T.f_ticked.fn sc_ticked rfl fun cdv A outer s H E hr => by
    exact (wss_cons (ws_set 2 sc_ticked.nd (we_mul (we_v (we_lst false (wa_cons we_int wa_nil))) (we_len T.b_len (wa_cons (we_var 0) wa_nil))))
  (wss_cons (ws_for 0 (wi_seq (we_v (we_call (ok_full_list T) (fun ds h => runF_len ds h) (hr.mono (by decide)) T.f_full_list.at_ T.f_full_list.fn.kp T.f_full_list.bd (wa_cons (we_var 0) (wa_cons (we_var 1) wa_nil))))) (wg_name 3 sc_ticked.nd)
  (wss_one (ws_seti (we_var 2) (we_var 3) we_int)))
  (wss_one (ws_ret (we_call (ok_shifted T) (fun ds h => runF_len ds h) (hr.mono (by decide)) T.f_shifted.at_ T.f_shifted.fn.kp T.f_shifted.bd (wa_cons (we_var 0) (wa_cons (we_var 1) (wa_cons (we_var 2) wa_nil))))))))
theorem ok_ticks (T : Txt K mg D) : FnOk P w K mg base (L2.CX P w) 5 (D.f 30) (D.fd 30) ["building", "load"] (spM ⟨K, D.cl⟩ 2 m_ticks) :=
  Mi.ok_fn (C := ⟨K, D.cl⟩) (N := N_ticks) T.f_ticks.fn sc_ticks rfl fun cdv A outer s H E hr => by
    have hu := hu_of hr
    exact (wss_cons (ws_expr (we_call (ok_require_building T) (fun ds h => runF_len ds h) (hr.mono (by decide)) T.f_require_building.at_ T.f_require_building.fn.kp T.f_require_building.bd (wa_cons (we_var 0) wa_nil)))
  (wss_cons (ws_expr (we_call (ok_require_load T) (fun ds h => runF_len ds h) (hr.mono (by decide)) T.f_require_load.at_ T.f_require_load.fn.kp T.f_require_load.bd (wa_cons (we_var 0) (wa_cons (we_var 1) (wa_cons we_str wa_nil)))))
  (wss_cons (ws_set 2 sc_ticks.nd (we_meth0 0 T.k_Building T.m_Building_width_rows (ok_Building_width_rows T) (fun ds h => runF_len ds h) (hr.mono (by decide)) T.f_Building_width_rows.bd (we_var 0)))
  (wss_cons (ws_if (wt_cmp (fun hK => op_inA hu hK) (o2_in false) we_non (we_item (we_call (ok_spill_of T) (fun ds h => runF_len ds h) (hr.mono (by decide)) T.f_spill_of.at_ T.f_spill_of.fn.kp T.f_spill_of.bd (wa_cons (we_var 2) (wa_cons (we_var 1) wa_nil))) we_int)) (wss_one (ws_ret we_non)) wss_nil)
  (wss_cons (ws_set 3 sc_ticks.nd (we_tuple T.b_tuple (wa_cons (we_var 1) wa_nil)))
  (wss_cons (ws_set 4 sc_ticks.nd we_int)
  (wss_cons (ws_while 1000000 (wt_cmp (fun _ => op_gt) o2_gt (we_len T.b_len (wa_cons (we_v (we_call (ok_full_list T) (fun ds h => runF_len ds h) (hr.mono (by decide)) T.f_full_list.at_ T.f_full_list.fn.kp T.f_full_list.bd (wa_cons (we_var 2) (wa_cons (we_var 3) wa_nil)))) wa_nil)) we_int) (wss_cons (ws_set 3 sc_ticks.nd (we_call (ok_ticked T) (fun ds h => runF_len ds h) (hr.mono (by decide)) T.f_ticked.at_ T.f_ticked.fn.kp T.f_ticked.bd (wa_cons (we_var 2) (wa_cons (we_var 3) wa_nil))))
  (wss_one (ws_aug 4 sc_ticks.nd ip_add we_int))))
  (wss_one (ws_ret (we_var 4))))))))))
theorem ok_law (T : Txt K mg D) : FnOk P w K mg base (L2.CX P w) 7 (D.f 31) (D.fd 31) ["script"] (spM ⟨K, D.cl⟩ 1 m_law) :=
  Mi.ok_fn (C := ⟨K, D.cl⟩) (N := N_law) T.f_law.fn sc_law rfl fun cdv A outer s H E hr => by
    have hu := hu_of hr
    exact (wss_cons (ws_set 1 sc_law.nd (we_v (we_call (ok_law_plan T) (fun ds h => runF_len ds h) (hr.mono (by decide)) T.f_law_plan.at_ T.f_law_plan.fn.kp T.f_law_plan.bd (wa_cons (we_var 0) (wa_cons we_int (wa_cons we_int (wa_cons we_int (wa_cons we_int wa_nil))))))))
  (wss_cons (ws_set 2 sc_law.nd (we_item (we_var 1) we_int))
  (wss_cons (ws_set 3 sc_law.nd (we_v (we_call (ok_law_widths T) (fun ds h => runF_len ds h) (hr.mono (by decide)) T.f_law_widths.at_ T.f_law_widths.fn.kp T.f_law_widths.bd (wa_cons (we_var 2) (wa_cons (we_item (we_var 1) we_int) wa_nil)))))
  (wss_cons (ws_set 4 sc_law.nd (we_v (we_call (ok_law_numbers T) (fun ds h => runF_len ds h) (hr.mono (by decide)) T.f_law_numbers.at_ T.f_law_numbers.fn.kp T.f_law_numbers.bd (wa_cons (we_call (ok_law_cell T) (fun ds h => runF_len ds h) (hr.mono (by decide)) T.f_law_cell.at_ T.f_law_cell.fn.kp T.f_law_cell.bd (wa_cons (we_var 0) (wa_cons we_int wa_nil))) (wa_cons (we_var 2) (wa_cons (we_neg we_int) (wa_cons we_int wa_nil)))))))
  (wss_cons (ws_set 5 sc_law.nd (we_make T.mk_Building (ok_Building___init__ T) (fun ds h => runI_len ds h) (fun ds c ns vs h => runI_c ds c ns vs h) (hr.mono (by decide)) T.c_Building T.f_Building___init__.bd (wa_cons (we_var 2) (wa_cons (we_item (we_var 1) we_int) wa_nil))))
  (wss_cons (ws_set 6 sc_law.nd (we_call (ok_ticks T) (fun ds h => runF_len ds h) (hr.mono (by decide)) T.f_ticks.at_ T.f_ticks.fn.kp T.f_ticks.bd (wa_cons (we_var 5) (wa_cons (we_v (we_list T.b_list (wa_cons (we_var 4) wa_nil))) wa_nil))))
  (wss_cons (ws_setLcV 7 false [("piece", 14)] sc_law.nd (wi_seq (we_v (we_call (ok_law_pieces T) (fun ds h => runF_len ds h) (hr.mono (by decide)) T.f_law_pieces.at_ T.f_law_pieces.fn.kp T.f_law_pieces.bd (wa_cons (we_var 3) wa_nil)))) (blkOk_by (N := N_law) (sc := (defScope (top 45))) (by decide +kernel)) (fun s H Ca cl fp => (wg_name 14 sc_law.nd)) (fun s H Ca cl fp => (wts_one (wt_cmp (fun hK => hK ▸ op_eqD hr.units) o2_eq (we_len T.b_len (wa_cons (we_v (we_call (ok_law_run T) (fun ds h => runF_len ds h) (hr.mono (by decide)) T.f_law_run.at_ T.f_law_run.fn.kp T.f_law_run.bd (wa_cons (we_var 3) (wa_cons (we_var 14) (wa_cons (we_var 4) wa_nil))))) wa_nil)) we_int))) (fun s H Ca cl fp => (we_var 14)) (sw_true rfl rfl rfl (by decide +kernel)))
  (wss_cons (ws_if (wt_cmp (fun _ => op_gt) o2_gt (we_len T.b_len (wa_cons (we_var 7) wa_nil)) we_int) (wss_one (ws_ret (we_and (we_cmp (fun _ => op_isN) o2_isN (we_var 6) we_non) (we_one (we_cmp (fun hK => op_inA hu hK) (o2_in false) we_non (we_item (we_call (ok_spill T) (fun ds h => runF_len ds h) (hr.mono (by decide)) T.f_spill.at_ T.f_spill.fn.kp T.f_spill.bd (wa_cons (we_var 5) (wa_cons (we_var 4) wa_nil))) we_int)))))) wss_nil)
  (wss_cons (ws_if (wt_not (wt_tru (we_call (ok_law_integer T) (fun ds h => runF_len ds h) (hr.mono (by decide)) T.f_law_integer.at_ T.f_law_integer.fn.kp T.f_law_integer.bd (wa_cons (we_var 6) wa_nil)))) (wss_one (ws_ret we_bl)) wss_nil)
  (wss_cons (ws_set 8 sc_law.nd (we_var 4))
  (wss_cons (ws_set 9 sc_law.nd (we_mul (we_v (we_lst false (wa_cons we_int wa_nil))) (we_var 2)))
  (wss_cons (ws_set 10 sc_law.nd we_int)
  (wss_cons (ws_for 0 (wi_range1 T.b_range (wa_cons we_int wa_nil)) (wg_name 11 sc_law.nd)
  (wss_cons (ws_set 12 sc_law.nd (we_v (we_call (ok_law_full T) (fun ds h => runF_len ds h) (hr.mono (by decide)) T.f_law_full.at_ T.f_law_full.fn.kp T.f_law_full.bd (wa_cons (we_var 3) (wa_cons (we_var 8) wa_nil)))))
  (wss_one (ws_if (wt_cmp (fun _ => op_gt) o2_gt (we_len T.b_len (wa_cons (we_var 12) wa_nil)) we_int) (wss_cons (ws_set 10 sc_law.nd (we_add (we_var 10) we_int))
  (wss_cons (ws_set 8 sc_law.nd (we_v (we_call (ok_law_after T) (fun ds h => runF_len ds h) (hr.mono (by decide)) T.f_law_after.at_ T.f_law_after.fn.kp T.f_law_after.bd (wa_cons (we_var 3) (wa_cons (we_var 8) (wa_cons (we_v (we_lc false [("a", 13)] sc_law.nd (wi_range1 T.b_range (wa_cons (we_var 2) wa_nil)) (blkOk_by (N := N_law) (sc := (defScope (top 45))) (by decide +kernel)) (fun s H Ca cl fp => (wg_name 13 sc_law.nd)) (fun s H Ca cl fp => wts_nil) (fun s H Ca cl fp => (we_int' T.b_int (wa_cons (we_cmp (fun hK => op_inA hu hK) (o2_in false) (we_var 13) (we_var 12)) wa_nil))))) wa_nil))))))
  (wss_one (ws_for 0 (wi_seq (we_var 12)) (wg_name 13 sc_law.nd)
  (wss_one (ws_seti (we_var 9) (we_var 13) (we_add (we_item (we_var 9) (we_var 13)) we_int))))))) (wss_one ws_brk)))))
  (wss_one (ws_ret (we_and (we_cmp (fun hK => hK ▸ op_eqD hr.units) o2_eq (we_var 6) (we_var 10)) (we_one (we_cmp (fun hK => hK ▸ op_eqD hr.units) o2_eq (we_call (ok_spill T) (fun ds h => runF_len ds h) (hr.mono (by decide)) T.f_spill.at_ T.f_spill.fn.kp T.f_spill.bd (wa_cons (we_var 5) (wa_cons (we_var 4) wa_nil))) (we_tup (wa_cons (we_tuple T.b_tuple (wa_cons (we_var 8) wa_nil)) (wa_cons (we_tuple T.b_tuple (wa_cons (we_var 9) wa_nil)) wa_nil)))))))))))))))))))))
end
theorem all_mk {P : Program} {w : World} {K : PySem.W.Frag} {h : Heap} {mg : Str → Option Value} {fa : Addr} (X : K.In h) (G : h.Ns mainGlobals mg) (hfa : mg "law" = some (.ref fa))
    {C0 f0 f1 f2 f3 f4 f5 f6 f7 f8 f9 f10 f11 f12 f13 f14 f15 f16 f17 f18 f19 f20 f21 f22 f23 f24 f25 f26 f27 f28 f29 f30 f31 : Addr} {od0 an0 od1 an1 od2 an2 od3 an3 od4 an4 od5 an5 od6 an6 od7 an7 od8 an8 od9 an9 od10 an10 od11 an11 od12 an12 od13 an13 od14 an14 od15 an15 od16 an16 od17 an17 od18 an18 od19 an19 od20 an20 od21 an21 od22 an22 od23 an23 od24 an24 od25 an25 od26 an26 od27 an27 od28 an28 od29 an29 od30 an30 od31 an31 : Option Addr} {sl0 sl1 sl2 sl3 sl4 sl5 sl6 sl7 sl8 sl9 sl10 sl11 sl12 sl13 sl14 sl15 sl16 sl17 sl18 sl19 sl20 sl21 sl22 sl23 sl24 sl25 sl26 sl27 sl28 sl29 sl30 sl31 : Array (Option Value)} {oc0 kV0 dc0 pm0 cd0 ct0 oc1 kV1 dc1 pm1 cd1 ct1 oc2 kV2 dc2 pm2 cd2 ct2 oc3 kV3 dc3 pm3 cd3 ct3 oc4 kV4 dc4 pm4 cd4 ct4 oc5 kV5 dc5 pm5 cd5 ct5 oc6 kV6 dc6 pm6 cd6 ct6 oc7 kV7 dc7 pm7 cd7 ct7 oc8 kV8 dc8 pm8 cd8 ct8 oc9 kV9 dc9 pm9 cd9 ct9 oc10 kV10 dc10 pm10 cd10 ct10 oc11 kV11 dc11 pm11 cd11 ct11 oc12 kV12 dc12 pm12 cd12 ct12 oc13 kV13 dc13 pm13 cd13 ct13 oc14 kV14 dc14 pm14 cd14 ct14 oc15 kV15 dc15 pm15 cd15 ct15 oc16 kV16 dc16 pm16 cd16 ct16 oc17 kV17 dc17 pm17 cd17 ct17 oc18 kV18 dc18 pm18 cd18 ct18 oc19 kV19 dc19 pm19 cd19 ct19 oc20 kV20 dc20 pm20 cd20 ct20 oc21 kV21 dc21 pm21 cd21 ct21 oc22 kV22 dc22 pm22 cd22 ct22 oc23 kV23 dc23 pm23 cd23 ct23 oc24 kV24 dc24 pm24 cd24 ct24 oc25 kV25 dc25 pm25 cd25 ct25 oc26 kV26 dc26 pm26 cd26 ct26 oc27 kV27 dc27 pm27 cd27 ct27 oc28 kV28 dc28 pm28 cd28 ct28 oc29 kV29 dc29 pm29 cd29 ct29 oc30 kV30 dc30 pm30 cd30 ct30 oc31 kV31 dc31 pm31 cd31 ct31 : Value} {tk_MOST_DUCTS tk_MOST_ROOMS tk_MOST_UNITS tk_MOST_WIDTH : Tok}
    (zb_bool : PySem.W.nsIn K mainGlobals "bool" = some none)
    (zb_enumerate : PySem.W.nsIn K mainGlobals "enumerate" = some none)
    (zb_int : PySem.W.nsIn K mainGlobals "int" = some none)
    (zb_isinstance : PySem.W.nsIn K mainGlobals "isinstance" = some none)
    (zb_len : PySem.W.nsIn K mainGlobals "len" = some none)
    (zb_list : PySem.W.nsIn K mainGlobals "list" = some none)
    (zb_range : PySem.W.nsIn K mainGlobals "range" = some none)
    (zb_sorted : PySem.W.nsIn K mainGlobals "sorted" = some none)
    (zb_sum : PySem.W.nsIn K mainGlobals "sum" = some none)
    (zb_tuple : PySem.W.nsIn K mainGlobals "tuple" = some none)
    (zg_MOST_DUCTS : PySem.W.nsIn K mainGlobals "MOST_DUCTS" = some (some (.int 16 tk_MOST_DUCTS)))
    (zg_MOST_ROOMS : PySem.W.nsIn K mainGlobals "MOST_ROOMS" = some (some (.int 8 tk_MOST_ROOMS)))
    (zg_MOST_UNITS : PySem.W.nsIn K mainGlobals "MOST_UNITS" = some (some (.int 200 tk_MOST_UNITS)))
    (zg_MOST_WIDTH : PySem.W.nsIn K mainGlobals "MOST_WIDTH" = some (some (.int 6 tk_MOST_WIDTH)))
    (zc_Building : PySem.W.nsIn K mainGlobals "Building" = some (some (.ref C0)))
    (zp_Building : PySem.W.plainGet K C0 Str.empty = true)
    (zd_Building : PySem.W.hasDictIn K C0 = true)
    (zo_Building : PySem.W.plainOver K C0 = true)
    (zs_Building : PySem.W.findIn K (.ref C0) "__setattr__" = some (some (.builtin "object.__setattr__")))
    (zn_Building_widths : PySem.W.findIn K (.ref C0) "_widths" = some none)
    (zn_Building_ducts : PySem.W.findIn K (.ref C0) "ducts" = some none)
    (zn_Building_rooms : PySem.W.findIn K (.ref C0) "rooms" = some none)
    (zm_Building : PySem.W.makesIn K C0 = true)
    (zk_Building : PySem.W.keepIn K (.ref C0) = true)
    (zx_Building : PySem.W.findIn K (.ref C0) "__class__" = some (some (.builtin "object.__class__")))
    (zy_Building : PySem.W.mroIn K C0 (.type "object") = some true)
    (zx_get : PySem.W.specialIn K (.builtin "object.__class__") "__get__" = some (some (.builtin "getset_descriptor.__get__")))
    (zx_tk : PySem.W.takesIn K (.builtin "object.__class__") = some true)
    (za0 : PySem.W.nsIn K mainGlobals "is_integer" = some (some (.ref f0)))
    (zl0 : K.lookup f0 = some ⟨oc0, od0, .func (PySem.W.fnOf "is_integer" "is_integer" (defArgs (top 10)) (defBody (top 10)) (defScope (top 10)) .none kV0 dc0 pm0 an0 cd0 ct0), sl0⟩)
    (ze0 : PySem.W.codeIn K cd0 "is_integer" = true)
    (zk0 : PySem.W.keepIn K (.ref f0) = true)
    (za1 : PySem.W.nsIn K mainGlobals "is_between" = some (some (.ref f1)))
    (zl1 : K.lookup f1 = some ⟨oc1, od1, .func (PySem.W.fnOf "is_between" "is_between" (defArgs (top 11)) (defBody (top 11)) (defScope (top 11)) .none kV1 dc1 pm1 an1 cd1 ct1), sl1⟩)
    (ze1 : PySem.W.codeIn K cd1 "is_between" = true)
    (zk1 : PySem.W.keepIn K (.ref f1) = true)
    (za2 : PySem.W.nsIn K mainGlobals "is_table" = some (some (.ref f2)))
    (zl2 : K.lookup f2 = some ⟨oc2, od2, .func (PySem.W.fnOf "is_table" "is_table" (defArgs (top 12)) (defBody (top 12)) (defScope (top 12)) .none kV2 dc2 pm2 an2 cd2 ct2), sl2⟩)
    (ze2 : PySem.W.codeIn K cd2 "is_table" = true)
    (zk2 : PySem.W.keepIn K (.ref f2) = true)
    (za3 : PySem.W.nsIn K mainGlobals "are_ducts" = some (some (.ref f3)))
    (zl3 : K.lookup f3 = some ⟨oc3, od3, .func (PySem.W.fnOf "are_ducts" "are_ducts" (defArgs (top 14)) (defBody (top 14)) (defScope (top 14)) .none kV3 dc3 pm3 an3 cd3 ct3), sl3⟩)
    (ze3 : PySem.W.codeIn K cd3 "are_ducts" = true)
    (zk3 : PySem.W.keepIn K (.ref f3) = true)
    (za4 : PySem.W.nsIn K mainGlobals "require" = some (some (.ref f4)))
    (zl4 : K.lookup f4 = some ⟨oc4, od4, .func (PySem.W.fnOf "require" "require" (defArgs (top 9)) (defBody (top 9)) (defScope (top 9)) .none kV4 dc4 pm4 an4 cd4 ct4), sl4⟩)
    (ze4 : PySem.W.codeIn K cd4 "require" = true)
    (zk4 : PySem.W.keepIn K (.ref f4) = true)
    (za5 : PySem.W.nsIn K mainGlobals "width_table" = some (some (.ref f5)))
    (zl5 : K.lookup f5 = some ⟨oc5, od5, .func (PySem.W.fnOf "width_table" "width_table" (defArgs (top 15)) (defBody (top 15)) (defScope (top 15)) .none kV5 dc5 pm5 an5 cd5 ct5), sl5⟩)
    (ze5 : PySem.W.codeIn K cd5 "width_table" = true)
    (zk5 : PySem.W.keepIn K (.ref f5) = true)
    (za6 : PySem.W.findIn K (.ref C0) "__init__" = some (some (.ref f6)))
    (zi6 : PySem.W.isFn K (.ref f6) = true)
    (zl6 : K.lookup f6 = some ⟨oc6, od6, .func (PySem.W.fnOf "__init__" "Building.__init__" (defArgs (inClass (top 16) 0)) (defBody (inClass (top 16) 0)) (defScope (inClass (top 16) 0)) .none kV6 dc6 pm6 an6 cd6 ct6), sl6⟩)
    (ze6 : PySem.W.codeIn K cd6 "Building.__init__" = true)
    (zk6 : PySem.W.keepIn K (.ref f6) = true)
    (za7 : PySem.W.nsIn K mainGlobals "_law_after" = some (some (.ref f7)))
    (zl7 : K.lookup f7 = some ⟨oc7, od7, .func (PySem.W.fnOf "_law_after" "_law_after" (defArgs (top 40)) (defBody (top 40)) (defScope (top 40)) .none kV7 dc7 pm7 an7 cd7 ct7), sl7⟩)
    (ze7 : PySem.W.codeIn K cd7 "_law_after" = true)
    (zk7 : PySem.W.keepIn K (.ref f7) = true)
    (za8 : PySem.W.nsIn K mainGlobals "_law_cell" = some (some (.ref f8)))
    (zl8 : K.lookup f8 = some ⟨oc8, od8, .func (PySem.W.fnOf "_law_cell" "_law_cell" (defArgs (top 34)) (defBody (top 34)) (defScope (top 34)) .none kV8 dc8 pm8 an8 cd8 ct8), sl8⟩)
    (ze8 : PySem.W.codeIn K cd8 "_law_cell" = true)
    (zk8 : PySem.W.keepIn K (.ref f8) = true)
    (za9 : PySem.W.nsIn K mainGlobals "_law_full" = some (some (.ref f9)))
    (zl9 : K.lookup f9 = some ⟨oc9, od9, .func (PySem.W.fnOf "_law_full" "_law_full" (defArgs (top 43)) (defBody (top 43)) (defScope (top 43)) .none kV9 dc9 pm9 an9 cd9 ct9), sl9⟩)
    (ze9 : PySem.W.codeIn K cd9 "_law_full" = true)
    (zk9 : PySem.W.keepIn K (.ref f9) = true)
    (za10 : PySem.W.nsIn K mainGlobals "_law_integer" = some (some (.ref f10)))
    (zl10 : K.lookup f10 = some ⟨oc10, od10, .func (PySem.W.fnOf "_law_integer" "_law_integer" (defArgs (top 42)) (defBody (top 42)) (defScope (top 42)) .none kV10 dc10 pm10 an10 cd10 ct10), sl10⟩)
    (ze10 : PySem.W.codeIn K cd10 "_law_integer" = true)
    (zk10 : PySem.W.keepIn K (.ref f10) = true)
    (za11 : PySem.W.nsIn K mainGlobals "_law_draw" = some (some (.ref f11)))
    (zl11 : K.lookup f11 = some ⟨oc11, od11, .func (PySem.W.fnOf "_law_draw" "_law_draw" (defArgs (top 35)) (defBody (top 35)) (defScope (top 35)) .none kV11 dc11 pm11 an11 cd11 ct11), sl11⟩)
    (ze11 : PySem.W.codeIn K cd11 "_law_draw" = true)
    (zk11 : PySem.W.keepIn K (.ref f11) = true)
    (za12 : PySem.W.nsIn K mainGlobals "_law_numbers" = some (some (.ref f12)))
    (zl12 : K.lookup f12 = some ⟨oc12, od12, .func (PySem.W.fnOf "_law_numbers" "_law_numbers" (defArgs (top 38)) (defBody (top 38)) (defScope (top 38)) .none kV12 dc12 pm12 an12 cd12 ct12), sl12⟩)
    (ze12 : PySem.W.codeIn K cd12 "_law_numbers" = true)
    (zk12 : PySem.W.keepIn K (.ref f12) = true)
    (za13 : PySem.W.nsIn K mainGlobals "_law_pieces" = some (some (.ref f13)))
    (zl13 : K.lookup f13 = some ⟨oc13, od13, .func (PySem.W.fnOf "_law_pieces" "_law_pieces" (defArgs (top 41)) (defBody (top 41)) (defScope (top 41)) .none kV13 dc13 pm13 an13 cd13 ct13), sl13⟩)
    (ze13 : PySem.W.codeIn K cd13 "_law_pieces" = true)
    (zk13 : PySem.W.keepIn K (.ref f13) = true)
    (za14 : PySem.W.nsIn K mainGlobals "_law_ducts" = some (some (.ref f14)))
    (zl14 : K.lookup f14 = some ⟨oc14, od14, .func (PySem.W.fnOf "_law_ducts" "_law_ducts" (defArgs (top 36)) (defBody (top 36)) (defScope (top 36)) .none kV14 dc14 pm14 an14 cd14 ct14), sl14⟩)
    (ze14 : PySem.W.codeIn K cd14 "_law_ducts" = true)
    (zk14 : PySem.W.keepIn K (.ref f14) = true)
    (za15 : PySem.W.nsIn K mainGlobals "_law_plan" = some (some (.ref f15)))
    (zl15 : K.lookup f15 = some ⟨oc15, od15, .func (PySem.W.fnOf "_law_plan" "_law_plan" (defArgs (top 37)) (defBody (top 37)) (defScope (top 37)) .none kV15 dc15 pm15 an15 cd15 ct15), sl15⟩)
    (ze15 : PySem.W.codeIn K cd15 "_law_plan" = true)
    (zk15 : PySem.W.keepIn K (.ref f15) = true)
    (za16 : PySem.W.nsIn K mainGlobals "_law_run" = some (some (.ref f16)))
    (zl16 : K.lookup f16 = some ⟨oc16, od16, .func (PySem.W.fnOf "_law_run" "_law_run" (defArgs (top 44)) (defBody (top 44)) (defScope (top 44)) .none kV16 dc16 pm16 an16 cd16 ct16), sl16⟩)
    (ze16 : PySem.W.codeIn K cd16 "_law_run" = true)
    (zk16 : PySem.W.keepIn K (.ref f16) = true)
    (za17 : PySem.W.nsIn K mainGlobals "_law_widths" = some (some (.ref f17)))
    (zl17 : K.lookup f17 = some ⟨oc17, od17, .func (PySem.W.fnOf "_law_widths" "_law_widths" (defArgs (top 39)) (defBody (top 39)) (defScope (top 39)) .none kV17 dc17 pm17 an17 cd17 ct17), sl17⟩)
    (ze17 : PySem.W.codeIn K cd17 "_law_widths" = true)
    (zk17 : PySem.W.keepIn K (.ref f17) = true)
    (za18 : PySem.W.findIn K (.ref C0) "width_rows" = some (some (.ref f18)))
    (zi18 : PySem.W.isFn K (.ref f18) = true)
    (zl18 : K.lookup f18 = some ⟨oc18, od18, .func (PySem.W.fnOf "width_rows" "Building.width_rows" (defArgs (inClass (top 16) 5)) (defBody (inClass (top 16) 5)) (defScope (inClass (top 16) 5)) .none kV18 dc18 pm18 an18 cd18 ct18), sl18⟩)
    (ze18 : PySem.W.codeIn K cd18 "Building.width_rows" = true)
    (zk18 : PySem.W.keepIn K (.ref f18) = true)
    (za19 : PySem.W.nsIn K mainGlobals "require_building" = some (some (.ref f19)))
    (zl19 : K.lookup f19 = some ⟨oc19, od19, .func (PySem.W.fnOf "require_building" "require_building" (defArgs (top 17)) (defBody (top 17)) (defScope (top 17)) .none kV19 dc19 pm19 an19 cd19 ct19), sl19⟩)
    (ze19 : PySem.W.codeIn K cd19 "require_building" = true)
    (zk19 : PySem.W.keepIn K (.ref f19) = true)
    (za20 : PySem.W.nsIn K mainGlobals "require_load" = some (some (.ref f20)))
    (zl20 : K.lookup f20 = some ⟨oc20, od20, .func (PySem.W.fnOf "require_load" "require_load" (defArgs (top 19)) (defBody (top 19)) (defScope (top 19)) .none kV20 dc20 pm20 an20 cd20 ct20), sl20⟩)
    (ze20 : PySem.W.codeIn K cd20 "require_load" = true)
    (zk20 : PySem.W.keepIn K (.ref f20) = true)
    (za21 : PySem.W.nsIn K mainGlobals "joined" = some (some (.ref f21)))
    (zl21 : K.lookup f21 = some ⟨oc21, od21, .func (PySem.W.fnOf "joined" "joined" (defArgs (top 22)) (defBody (top 22)) (defScope (top 22)) .none kV21 dc21 pm21 an21 cd21 ct21), sl21⟩)
    (ze21 : PySem.W.codeIn K cd21 "joined" = true)
    (zk21 : PySem.W.keepIn K (.ref f21) = true)
    (za22 : PySem.W.nsIn K mainGlobals "piece_list" = some (some (.ref f22)))
    (zl22 : K.lookup f22 = some ⟨oc22, od22, .func (PySem.W.fnOf "piece_list" "piece_list" (defArgs (top 23)) (defBody (top 23)) (defScope (top 23)) .none kV22 dc22 pm22 an22 cd22 ct22), sl22⟩)
    (ze22 : PySem.W.codeIn K cd22 "piece_list" = true)
    (zk22 : PySem.W.keepIn K (.ref f22) = true)
    (za23 : PySem.W.nsIn K mainGlobals "give" = some (some (.ref f23)))
    (zl23 : K.lookup f23 = some ⟨oc23, od23, .func (PySem.W.fnOf "give" "give" (defArgs (top 26)) (defBody (top 26)) (defScope (top 26)) .none kV23 dc23 pm23 an23 cd23 ct23), sl23⟩)
    (ze23 : PySem.W.codeIn K cd23 "give" = true)
    (zk23 : PySem.W.keepIn K (.ref f23) = true)
    (za24 : PySem.W.nsIn K mainGlobals "run_piece" = some (some (.ref f24)))
    (zl24 : K.lookup f24 = some ⟨oc24, od24, .func (PySem.W.fnOf "run_piece" "run_piece" (defArgs (top 27)) (defBody (top 27)) (defScope (top 27)) .none kV24 dc24 pm24 an24 cd24 ct24), sl24⟩)
    (ze24 : PySem.W.codeIn K cd24 "run_piece" = true)
    (zk24 : PySem.W.keepIn K (.ref f24) = true)
    (za25 : PySem.W.nsIn K mainGlobals "spill_of" = some (some (.ref f25)))
    (zl25 : K.lookup f25 = some ⟨oc25, od25, .func (PySem.W.fnOf "spill_of" "spill_of" (defArgs (top 28)) (defBody (top 28)) (defScope (top 28)) .none kV25 dc25 pm25 an25 cd25 ct25), sl25⟩)
    (ze25 : PySem.W.codeIn K cd25 "spill_of" = true)
    (zk25 : PySem.W.keepIn K (.ref f25) = true)
    (za26 : PySem.W.nsIn K mainGlobals "spill" = some (some (.ref f26)))
    (zl26 : K.lookup f26 = some ⟨oc26, od26, .func (PySem.W.fnOf "spill" "spill" (defArgs (top 29)) (defBody (top 29)) (defScope (top 29)) .none kV26 dc26 pm26 an26 cd26 ct26), sl26⟩)
    (ze26 : PySem.W.codeIn K cd26 "spill" = true)
    (zk26 : PySem.W.keepIn K (.ref f26) = true)
    (za27 : PySem.W.nsIn K mainGlobals "full_list" = some (some (.ref f27)))
    (zl27 : K.lookup f27 = some ⟨oc27, od27, .func (PySem.W.fnOf "full_list" "full_list" (defArgs (top 25)) (defBody (top 25)) (defScope (top 25)) .none kV27 dc27 pm27 an27 cd27 ct27), sl27⟩)
    (ze27 : PySem.W.codeIn K cd27 "full_list" = true)
    (zk27 : PySem.W.keepIn K (.ref f27) = true)
    (za28 : PySem.W.nsIn K mainGlobals "shifted" = some (some (.ref f28)))
    (zl28 : K.lookup f28 = some ⟨oc28, od28, .func (PySem.W.fnOf "shifted" "shifted" (defArgs (top 20)) (defBody (top 20)) (defScope (top 20)) .none kV28 dc28 pm28 an28 cd28 ct28), sl28⟩)
    (ze28 : PySem.W.codeIn K cd28 "shifted" = true)
    (zk28 : PySem.W.keepIn K (.ref f28) = true)
    (za29 : PySem.W.nsIn K mainGlobals "ticked" = some (some (.ref f29)))
    (zl29 : K.lookup f29 = some ⟨oc29, od29, .func (PySem.W.fnOf "ticked" "ticked" (defArgs (top 31)) (defBody (top 31)) (defScope (top 31)) .none kV29 dc29 pm29 an29 cd29 ct29), sl29⟩)
    (ze29 : PySem.W.codeIn K cd29 "ticked" = true)
    (zk29 : PySem.W.keepIn K (.ref f29) = true)
    (za30 : PySem.W.nsIn K mainGlobals "ticks" = some (some (.ref f30)))
    (zl30 : K.lookup f30 = some ⟨oc30, od30, .func (PySem.W.fnOf "ticks" "ticks" (defArgs (top 32)) (defBody (top 32)) (defScope (top 32)) .none kV30 dc30 pm30 an30 cd30 ct30), sl30⟩)
    (ze30 : PySem.W.codeIn K cd30 "ticks" = true)
    (zk30 : PySem.W.keepIn K (.ref f30) = true)
    (za31 : PySem.W.nsIn K mainGlobals "law" = some (some (.ref f31)))
    (zl31 : K.lookup f31 = some ⟨oc31, od31, .func (PySem.W.fnOf "law" "law" (defArgs (top 45)) (defBody (top 45)) (defScope (top 45)) .none kV31 dc31 pm31 an31 cd31 ct31), sl31⟩)
    (ze31 : PySem.W.codeIn K cd31 "law" = true)
    (zk31 : PySem.W.keepIn K (.ref f31) = true)
    (main : ∀ ns : List Int, ns.length ≤ 63 → (∀ z ∈ ns, Builtin.Int.intBits z ≤ 1048576) → m_law [.scr ns] = .ret (.c (.bl true))) :
    ∃ fd : FuncData, (∀ (s : Shared) (v : Value), BindsTo s fd ⟨[v], []⟩ [("script", v)]) ∧ ∀ base : Heap, K.In base → base.Ns mainGlobals mg → FnOk P w K mg base (L2.CX P w) 7 fa fd ["script"] (spLaw K) := by
  have e := hfa.symm.trans (PySem.W.mg_of X G za31)
  cases e
  have F0 := fun_mk (st := (top 10)) zl0 ze0 zk0
  have B0 := F0.binds (ps := ["value"]) fun _ _ _ _ _ _ us hl => match us, hl with | [_], _ => rfl
  have F1 := fun_mk (st := (top 11)) zl1 ze1 zk1
  have B1 := F1.binds (ps := ["value", "least", "most"]) fun _ _ _ _ _ _ us hl => match us, hl with | [_, _, _], _ => rfl
  have F2 := fun_mk (st := (top 12)) zl2 ze2 zk2
  have B2 := F2.binds (ps := ["value", "size", "least", "most"]) fun _ _ _ _ _ _ us hl => match us, hl with | [_, _, _, _], _ => rfl
  have F3 := fun_mk (st := (top 14)) zl3 ze3 zk3
  have B3 := F3.binds (ps := ["value", "rooms"]) fun _ _ _ _ _ _ us hl => match us, hl with | [_, _], _ => rfl
  have F4 := fun_mk (st := (top 9)) zl4 ze4 zk4
  have B4 := F4.binds (ps := ["holds", "name"]) fun _ _ _ _ _ _ us hl => match us, hl with | [_, _], _ => rfl
  have F5 := fun_mk (st := (top 15)) zl5 ze5 zk5
  have B5 := F5.binds (ps := ["rooms", "ducts"]) fun _ _ _ _ _ _ us hl => match us, hl with | [_, _], _ => rfl
  have F6 := fun_mk (st := (inClass (top 16) 0)) zl6 ze6 zk6
  have B6 := F6.binds (ps := ["self", "rooms", "ducts"]) fun _ _ _ _ _ _ us hl => match us, hl with | [_, _, _], _ => rfl
  have F7 := fun_mk (st := (top 40)) zl7 ze7 zk7
  have B7 := F7.binds (ps := ["table", "load", "script"]) fun _ _ _ _ _ _ us hl => match us, hl with | [_, _, _], _ => rfl
  have F8 := fun_mk (st := (top 34)) zl8 ze8 zk8
  have B8 := F8.binds (ps := ["script", "k"]) fun _ _ _ _ _ _ us hl => match us, hl with | [_, _], _ => rfl
  have F9 := fun_mk (st := (top 43)) zl9 ze9 zk9
  have B9 := F9.binds (ps := ["table", "held"]) fun _ _ _ _ _ _ us hl => match us, hl with | [_, _], _ => rfl
  have F10 := fun_mk (st := (top 42)) zl10 ze10 zk10
  have B10 := F10.binds (ps := ["value"]) fun _ _ _ _ _ _ us hl => match us, hl with | [_], _ => rfl
  have F11 := fun_mk (st := (top 35)) zl11 ze11 zk11
  have B11 := F11.binds (ps := ["cell", "bounds"]) fun _ _ _ _ _ _ us hl => match us, hl with | [_, _], _ => rfl
  have F12 := fun_mk (st := (top 38)) zl12 ze12 zk12
  have B12 := F12.binds (ps := ["cell", "count", "least", "most"]) fun _ _ _ _ _ _ us hl => match us, hl with | [_, _, _, _], _ => rfl
  have F13 := fun_mk (st := (top 41)) zl13 ze13 zk13
  have B13 := F13.binds (ps := ["table"]) fun _ _ _ _ _ _ us hl => match us, hl with | [_], _ => rfl
  have F14 := fun_mk (st := (top 36)) zl14 ze14 zk14
  have B14 := F14.binds (ps := ["cell", "rooms", "joined_v", "extra", "most"]) fun _ _ _ _ _ _ us hl => match us, hl with | [_, _, _, _, _], _ => rfl
  have F15 := fun_mk (st := (top 37)) zl15 ze15 zk15
  have B15 := F15.binds (ps := ["script", "at", "most_rooms", "most_extra", "most_width"]) fun _ _ _ _ _ _ us hl => match us, hl with | [_, _, _, _, _], _ => rfl
  have F16 := fun_mk (st := (top 44)) zl16 ze16 zk16
  have B16 := F16.binds (ps := ["table", "piece", "load"]) fun _ _ _ _ _ _ us hl => match us, hl with | [_, _, _], _ => rfl
  have F17 := fun_mk (st := (top 39)) zl17 ze17 zk17
  have B17 := F17.binds (ps := ["rooms", "ducts"]) fun _ _ _ _ _ _ us hl => match us, hl with | [_, _], _ => rfl
  have F18 := fun_mk (st := (inClass (top 16) 5)) zl18 ze18 zk18
  have B18 := F18.binds (ps := ["self"]) fun _ _ _ _ _ _ us hl => match us, hl with | [_], _ => rfl
  have F19 := fun_mk (st := (top 17)) zl19 ze19 zk19
  have B19 := F19.binds (ps := ["building"]) fun _ _ _ _ _ _ us hl => match us, hl with | [_], _ => rfl
  have F20 := fun_mk (st := (top 19)) zl20 ze20 zk20
  have B20 := F20.binds (ps := ["building", "load", "name"]) fun _ _ _ _ _ _ us hl => match us, hl with | [_, _, _], _ => rfl
  have F21 := fun_mk (st := (top 22)) zl21 ze21 zk21
  have B21 := F21.binds (ps := ["widths", "room"]) fun _ _ _ _ _ _ us hl => match us, hl with | [_, _], _ => rfl
  have F22 := fun_mk (st := (top 23)) zl22 ze22 zk22
  have B22 := F22.binds (ps := ["widths"]) fun _ _ _ _ _ _ us hl => match us, hl with | [_], _ => rfl
  have F23 := fun_mk (st := (top 26)) zl23 ze23 zk23
  have B23 := F23.binds (ps := ["widths", "held", "room", "times"]) fun _ _ _ _ _ _ us hl => match us, hl with | [_, _, _, _], _ => rfl
  have F24 := fun_mk (st := (top 27)) zl24 ze24 zk24
  have B24 := F24.binds (ps := ["widths", "rooms", "load"]) fun _ _ _ _ _ _ us hl => match us, hl with | [_, _, _], _ => rfl
  have F25 := fun_mk (st := (top 28)) zl25 ze25 zk25
  have B25 := F25.binds (ps := ["widths", "load"]) fun _ _ _ _ _ _ us hl => match us, hl with | [_, _], _ => rfl
  have F26 := fun_mk (st := (top 29)) zl26 ze26 zk26
  have B26 := F26.binds (ps := ["building", "load"]) fun _ _ _ _ _ _ us hl => match us, hl with | [_, _], _ => rfl
  have F27 := fun_mk (st := (top 25)) zl27 ze27 zk27
  have B27 := F27.binds (ps := ["widths", "load"]) fun _ _ _ _ _ _ us hl => match us, hl with | [_, _], _ => rfl
  have F28 := fun_mk (st := (top 20)) zl28 ze28 zk28
  have B28 := F28.binds (ps := ["widths", "load", "script"]) fun _ _ _ _ _ _ us hl => match us, hl with | [_, _, _], _ => rfl
  have F29 := fun_mk (st := (top 31)) zl29 ze29 zk29
  have B29 := F29.binds (ps := ["widths", "load"]) fun _ _ _ _ _ _ us hl => match us, hl with | [_, _], _ => rfl
  have F30 := fun_mk (st := (top 32)) zl30 ze30 zk30
  have B30 := F30.binds (ps := ["building", "load"]) fun _ _ _ _ _ _ us hl => match us, hl with | [_, _], _ => rfl
  have F31 := fun_mk (st := (top 45)) zl31 ze31 zk31
  have B31 := F31.binds (ps := ["script"]) fun _ _ _ _ _ _ us hl => match us, hl with | [_], _ => rfl
  let D : Dat := ⟨fun n => match n with | 0 => f0 | 1 => f1 | 2 => f2 | 3 => f3 | 4 => f4 | 5 => f5 | 6 => f6 | 7 => f7 | 8 => f8 | 9 => f9 | 10 => f10 | 11 => f11 | 12 => f12 | 13 => f13 | 14 => f14 | 15 => f15 | 16 => f16 | 17 => f17 | 18 => f18 | 19 => f19 | 20 => f20 | 21 => f21 | 22 => f22 | 23 => f23 | 24 => f24 | 25 => f25 | 26 => f26 | 27 => f27 | 28 => f28 | 29 => f29 | 30 => f30 | _ => fa, fun n => match n with | 0 => (PySem.W.fnOf "is_integer" "is_integer" (defArgs (top 10)) (defBody (top 10)) (defScope (top 10)) .none kV0 dc0 pm0 an0 cd0 ct0) | 1 => (PySem.W.fnOf "is_between" "is_between" (defArgs (top 11)) (defBody (top 11)) (defScope (top 11)) .none kV1 dc1 pm1 an1 cd1 ct1) | 2 => (PySem.W.fnOf "is_table" "is_table" (defArgs (top 12)) (defBody (top 12)) (defScope (top 12)) .none kV2 dc2 pm2 an2 cd2 ct2) | 3 => (PySem.W.fnOf "are_ducts" "are_ducts" (defArgs (top 14)) (defBody (top 14)) (defScope (top 14)) .none kV3 dc3 pm3 an3 cd3 ct3) | 4 => (PySem.W.fnOf "require" "require" (defArgs (top 9)) (defBody (top 9)) (defScope (top 9)) .none kV4 dc4 pm4 an4 cd4 ct4) | 5 => (PySem.W.fnOf "width_table" "width_table" (defArgs (top 15)) (defBody (top 15)) (defScope (top 15)) .none kV5 dc5 pm5 an5 cd5 ct5) | 6 => (PySem.W.fnOf "__init__" "Building.__init__" (defArgs (inClass (top 16) 0)) (defBody (inClass (top 16) 0)) (defScope (inClass (top 16) 0)) .none kV6 dc6 pm6 an6 cd6 ct6) | 7 => (PySem.W.fnOf "_law_after" "_law_after" (defArgs (top 40)) (defBody (top 40)) (defScope (top 40)) .none kV7 dc7 pm7 an7 cd7 ct7) | 8 => (PySem.W.fnOf "_law_cell" "_law_cell" (defArgs (top 34)) (defBody (top 34)) (defScope (top 34)) .none kV8 dc8 pm8 an8 cd8 ct8) | 9 => (PySem.W.fnOf "_law_full" "_law_full" (defArgs (top 43)) (defBody (top 43)) (defScope (top 43)) .none kV9 dc9 pm9 an9 cd9 ct9) | 10 => (PySem.W.fnOf "_law_integer" "_law_integer" (defArgs (top 42)) (defBody (top 42)) (defScope (top 42)) .none kV10 dc10 pm10 an10 cd10 ct10) | 11 => (PySem.W.fnOf "_law_draw" "_law_draw" (defArgs (top 35)) (defBody (top 35)) (defScope (top 35)) .none kV11 dc11 pm11 an11 cd11 ct11) | 12 => (PySem.W.fnOf "_law_numbers" "_law_numbers" (defArgs (top 38)) (defBody (top 38)) (defScope (top 38)) .none kV12 dc12 pm12 an12 cd12 ct12) | 13 => (PySem.W.fnOf "_law_pieces" "_law_pieces" (defArgs (top 41)) (defBody (top 41)) (defScope (top 41)) .none kV13 dc13 pm13 an13 cd13 ct13) | 14 => (PySem.W.fnOf "_law_ducts" "_law_ducts" (defArgs (top 36)) (defBody (top 36)) (defScope (top 36)) .none kV14 dc14 pm14 an14 cd14 ct14) | 15 => (PySem.W.fnOf "_law_plan" "_law_plan" (defArgs (top 37)) (defBody (top 37)) (defScope (top 37)) .none kV15 dc15 pm15 an15 cd15 ct15) | 16 => (PySem.W.fnOf "_law_run" "_law_run" (defArgs (top 44)) (defBody (top 44)) (defScope (top 44)) .none kV16 dc16 pm16 an16 cd16 ct16) | 17 => (PySem.W.fnOf "_law_widths" "_law_widths" (defArgs (top 39)) (defBody (top 39)) (defScope (top 39)) .none kV17 dc17 pm17 an17 cd17 ct17) | 18 => (PySem.W.fnOf "width_rows" "Building.width_rows" (defArgs (inClass (top 16) 5)) (defBody (inClass (top 16) 5)) (defScope (inClass (top 16) 5)) .none kV18 dc18 pm18 an18 cd18 ct18) | 19 => (PySem.W.fnOf "require_building" "require_building" (defArgs (top 17)) (defBody (top 17)) (defScope (top 17)) .none kV19 dc19 pm19 an19 cd19 ct19) | 20 => (PySem.W.fnOf "require_load" "require_load" (defArgs (top 19)) (defBody (top 19)) (defScope (top 19)) .none kV20 dc20 pm20 an20 cd20 ct20) | 21 => (PySem.W.fnOf "joined" "joined" (defArgs (top 22)) (defBody (top 22)) (defScope (top 22)) .none kV21 dc21 pm21 an21 cd21 ct21) | 22 => (PySem.W.fnOf "piece_list" "piece_list" (defArgs (top 23)) (defBody (top 23)) (defScope (top 23)) .none kV22 dc22 pm22 an22 cd22 ct22) | 23 => (PySem.W.fnOf "give" "give" (defArgs (top 26)) (defBody (top 26)) (defScope (top 26)) .none kV23 dc23 pm23 an23 cd23 ct23) | 24 => (PySem.W.fnOf "run_piece" "run_piece" (defArgs (top 27)) (defBody (top 27)) (defScope (top 27)) .none kV24 dc24 pm24 an24 cd24 ct24) | 25 => (PySem.W.fnOf "spill_of" "spill_of" (defArgs (top 28)) (defBody (top 28)) (defScope (top 28)) .none kV25 dc25 pm25 an25 cd25 ct25) | 26 => (PySem.W.fnOf "spill" "spill" (defArgs (top 29)) (defBody (top 29)) (defScope (top 29)) .none kV26 dc26 pm26 an26 cd26 ct26) | 27 => (PySem.W.fnOf "full_list" "full_list" (defArgs (top 25)) (defBody (top 25)) (defScope (top 25)) .none kV27 dc27 pm27 an27 cd27 ct27) | 28 => (PySem.W.fnOf "shifted" "shifted" (defArgs (top 20)) (defBody (top 20)) (defScope (top 20)) .none kV28 dc28 pm28 an28 cd28 ct28) | 29 => (PySem.W.fnOf "ticked" "ticked" (defArgs (top 31)) (defBody (top 31)) (defScope (top 31)) .none kV29 dc29 pm29 an29 cd29 ct29) | 30 => (PySem.W.fnOf "ticks" "ticks" (defArgs (top 32)) (defBody (top 32)) (defScope (top 32)) .none kV30 dc30 pm30 an30 cd30 ct30) | _ => (PySem.W.fnOf "law" "law" (defArgs (top 45)) (defBody (top 45)) (defScope (top 45)) .none kV31 dc31 pm31 an31 cd31 ct31), fun n => match n with  | _ => C0⟩
  have IB : IsF ⟨K, D.cl⟩ ownB tabB := isfB ⟨⟨zp_Building, zd_Building, zo_Building, zs_Building⟩, zx_Building, zx_get, zx_tk, zy_Building⟩
  have T : Txt K mg D := ⟨PySem.W.mg_none_of X G zb_bool, PySem.W.mg_none_of X G zb_enumerate, PySem.W.mg_none_of X G zb_int, PySem.W.mg_none_of X G zb_isinstance, PySem.W.mg_none_of X G zb_len, PySem.W.mg_none_of X G zb_list, PySem.W.mg_none_of X G zb_range, PySem.W.mg_none_of X G zb_sorted, PySem.W.mg_none_of X G zb_sum, PySem.W.mg_none_of X G zb_tuple, ⟨_, PySem.W.mg_of X G zg_MOST_DUCTS⟩, ⟨_, PySem.W.mg_of X G zg_MOST_ROOMS⟩, ⟨_, PySem.W.mg_of X G zg_MOST_UNITS⟩, ⟨_, PySem.W.mg_of X G zg_MOST_WIDTH⟩, PySem.W.mg_of X G zc_Building, ⟨zp_Building, zd_Building, zo_Building, zs_Building⟩, zn_Building_widths, zn_Building_ducts, zn_Building_rooms, ⟨za18, zi18, zk18⟩, ⟨zm_Building, za6, zi6, zk_Building⟩, IB, ⟨F0, PySem.W.mg_of X G za0, B0⟩, ⟨F1, PySem.W.mg_of X G za1, B1⟩, ⟨F2, PySem.W.mg_of X G za2, B2⟩, ⟨F3, PySem.W.mg_of X G za3, B3⟩, ⟨F4, PySem.W.mg_of X G za4, B4⟩, ⟨F5, PySem.W.mg_of X G za5, B5⟩, ⟨F6, B6⟩, ⟨F7, PySem.W.mg_of X G za7, B7⟩, ⟨F8, PySem.W.mg_of X G za8, B8⟩, ⟨F9, PySem.W.mg_of X G za9, B9⟩, ⟨F10, PySem.W.mg_of X G za10, B10⟩, ⟨F11, PySem.W.mg_of X G za11, B11⟩, ⟨F12, PySem.W.mg_of X G za12, B12⟩, ⟨F13, PySem.W.mg_of X G za13, B13⟩, ⟨F14, PySem.W.mg_of X G za14, B14⟩, ⟨F15, PySem.W.mg_of X G za15, B15⟩, ⟨F16, PySem.W.mg_of X G za16, B16⟩, ⟨F17, PySem.W.mg_of X G za17, B17⟩, ⟨F18, B18⟩, ⟨F19, PySem.W.mg_of X G za19, B19⟩, ⟨F20, PySem.W.mg_of X G za20, B20⟩, ⟨F21, PySem.W.mg_of X G za21, B21⟩, ⟨F22, PySem.W.mg_of X G za22, B22⟩, ⟨F23, PySem.W.mg_of X G za23, B23⟩, ⟨F24, PySem.W.mg_of X G za24, B24⟩, ⟨F25, PySem.W.mg_of X G za25, B25⟩, ⟨F26, PySem.W.mg_of X G za26, B26⟩, ⟨F27, PySem.W.mg_of X G za27, B27⟩, ⟨F28, PySem.W.mg_of X G za28, B28⟩, ⟨F29, PySem.W.mg_of X G za29, B29⟩, ⟨F30, PySem.W.mg_of X G za30, B30⟩, ⟨F31, PySem.W.mg_of X G za31, B31⟩⟩
  exact ⟨D.fd 31, fun s v => .of_eq rfl, fun base _ _ => law_sp main (ok_law (D := D) T)⟩
end B27

set_option Elab.async false
set_option linter.all false
set_option maxRecDepth 100000
set_option maxHeartbeats 4000000
namespace B27
open PySem L2 Mi Bn
local macro_rules | `(tactic| walk_at "s") => `(tactic| first | assumption | omega | exact rfl | (apply_assumption <;> assumption) | (simp; done) | (simp; omega))
local macro_rules | `(tactic| walk_at "ok") => `(tactic| first | exact rfl | exact okCs_of (by assumption) | assumption | (simp; done))
local macro_rules | `(tactic| walk_at "z") => `(tactic| first | exact fz_nil | ((with_reducible apply fz_c); walk_at "z") | ((with_reducible apply fz_f); exact rfl; walk_at "z") | ((with_reducible apply fz_p); exact rfl; walk_at "z") | ((with_reducible apply fz_d); exact rfl; walk_at "z"))
local macro_rules | `(tactic| walk_at "at") => `(tactic| first | assumption | exact atI_0 | exact atI_1 | exact atI_2 | exact atI_3 | ((with_reducible apply at_tabD); walk_at "s") | ((with_reducible apply at_tabT); walk_at "s") | ((with_reducible apply at_row); walk_at "s") | ((with_reducible apply at_natD); walk_at "s") | ((with_reducible apply at_ints); walk_at "s"))
local macro_rules | `(tactic| walk_at "o") => `(tactic| first | assumption | with_reducible exact opAdd_int | with_reducible exact opSub_int | with_reducible exact opNeg_int | with_reducible exact opLt_int | with_reducible exact opLe_int | with_reducible exact opGt_int | with_reducible exact opGe_int | with_reducible exact o_eq | with_reducible exact o_ne | ((with_reducible apply o_il); walk_at "at") | ((with_reducible apply o_it); walk_at "at") | ((with_reducible apply o_is); walk_at "at") | ((with_reducible apply o_ip); exact rfl; walk_at "at") | with_reducible exact o_sumT | with_reducible exact o_sumL | with_reducible exact cSumT_tup | with_reducible exact cSumT_lst | with_reducible exact cSum_ints | with_reducible exact o_lenD | with_reducible exact o_lenT | with_reducible exact o_lenN | with_reducible exact o_lenNt | with_reducible exact o_lenI | with_reducible exact o_lenIt | with_reducible exact cLen_lst | with_reducible exact cLen_tup | ((with_reducible apply o_lenp); exact rfl) | ((with_reducible apply o_lendic); exact rfl) | with_reducible exact sq_len | with_reducible exact o_inN | with_reducible exact o_ninN | with_reducible exact o_inNt | with_reducible exact o_ninNt | with_reducible exact in_ints | with_reducible exact notin_ints | with_reducible exact in_intsT | with_reducible exact notin_intsT | with_reducible exact cInt_int | with_reducible exact cInt_bl | with_reducible exact cTuple_lst | with_reducible exact cTuple_tup | ((with_reducible apply cTuple_cell); exact rfl) | with_reducible exact cList_lst | with_reducible exact cList_tup | with_reducible exact sq_list | with_reducible exact sq_tuple | with_reducible exact eq_intsL | with_reducible exact eq_intsT | with_reducible exact sq_isi | ((with_reducible apply opMod_int); walk_at "s") | ((with_reducible apply opDiv_int) <;> walk_at "s") | ((with_reducible apply opMul_int) <;> walk_at "s") | ((with_reducible apply opMul_one) <;> walk_at "s"))
local macro_rules | `(tactic| walk_at "f") => `(tactic| first | assumption | with_reducible assumption)
local macro_rules | `(tactic| walk_at "fv") => `(tactic| first | assumption)
local macro_rules | `(tactic| walk_at "or") => `(tactic| first | exact out_c | exact out_l | exact out_d)
local macro_rules | `(tactic| walk_at "cv") => `(tactic| first | exact ClV.c | exact ClV.n | exact ClV.d)
local macro_rules | `(tactic| walk_at "tb") => `(tactic| first | exact t_bl | exact t_int | exact truOf_lst | exact truOf_tup)
local macro_rules | `(tactic| walk_at "wipe") => `(tactic| (intro a; (try simp only [wipeS, List.set_cons_zero, List.set_cons_succ]); exact rfl))
local macro_rules | `(tactic| walk_at "ar") => `(tactic| first | with_reducible exact ev_nil | ((with_reducible apply ev_cons); (focus walk_at "e"); walk_at "ar"))
local macro_rules | `(tactic| walk_at "ct") => `(tactic| (intro a ha acc; walk_at "t"))
local macro_rules | `(tactic| walk_at "ce") => `(tactic| (intro a ha hp acc; (try simp only [decide_eq_true_eq, Bool.and_eq_true, Bool.or_eq_true, Bool.not_eq_true', decide_eq_false_iff_not] at hp); walk_at "e"))
local macro_rules | `(tactic| walk_at "cf") => `(tactic| (intro a ha acc; walk_at "e"))
local macro_rules | `(tactic| walk_at "lt") => `(tactic| first | (refine Or.inl ?_; walk_at "e") | (refine Or.inr ?_; walk_at "e"))
local macro_rules | `(tactic| walk_at "lc") => `(tactic| first | ((with_reducible apply ev_lcRF); (focus walk_at "ar"); (focus walk_at "s"); (focus walk_at "ok"); (focus walk_at "wipe"); (focus walk_at "cf"); (focus walk_at "ct")) | ((with_reducible apply ev_lcRM); (focus walk_at "ar"); (focus walk_at "s"); (focus walk_at "ok"); (focus walk_at "wipe"); (focus walk_at "cf")) | ((with_reducible apply ev_lcRI); (focus walk_at "ar"); (focus walk_at "s"); (focus walk_at "ok"); (focus walk_at "wipe"); (focus walk_at "ct"); (focus walk_at "ce")) | ((with_reducible apply ev_lcR); (focus walk_at "ar"); (focus walk_at "s"); (focus walk_at "ok"); (focus walk_at "wipe"); (focus walk_at "ct"); (focus walk_at "ce")) | ((with_reducible apply ev_lcNF); (focus walk_at "lt"); (focus walk_at "s"); (focus walk_at "ok"); (focus walk_at "wipe"); (focus walk_at "cf"); (focus walk_at "ct")) | ((with_reducible apply ev_lcNM); (focus walk_at "lt"); (focus walk_at "s"); (focus walk_at "ok"); (focus walk_at "wipe"); (focus walk_at "cf")) | ((with_reducible apply ev_lcNI); (focus walk_at "lt"); (focus walk_at "s"); (focus walk_at "ok"); (focus walk_at "wipe"); (focus walk_at "ct"); (focus walk_at "ce")) | ((with_reducible apply ev_lcL); (focus walk_at "lt"); (focus walk_at "s"); (focus walk_at "ok"); (focus walk_at "wipe"); (focus walk_at "ct"); (focus walk_at "ce")))
local macro_rules | `(tactic| walk_at "e") => `(tactic| first | with_reducible exact ev_c | with_reducible exact ev_dnew | ((with_reducible apply ev_var); exact rfl) | with_reducible assumption | ((with_reducible apply ev_op2); (focus walk_at "e"); (focus walk_at "e"); (focus walk_at "o")) | ((with_reducible apply ev_opN); (focus walk_at "ar"); (focus walk_at "o")) | ((with_reducible apply ev_op1); (focus walk_at "e"); (focus walk_at "o")) | ((with_reducible apply ev_tup); (focus walk_at "ar"); (focus walk_at "z"); (focus walk_at "s")) | ((with_reducible apply ev_lst); (focus walk_at "ar"); (focus walk_at "z"); (focus walk_at "s")) | ((with_reducible apply ev_vcall); (focus walk_at "ar"); (focus walk_at "z"); (focus walk_at "fv"); (focus walk_at "ok")) | walk_at "lc" | ((with_reducible apply ev_v); (focus walk_at "e"); (focus walk_at "cv"); (focus walk_at "ok")) | ((with_reducible apply ev_call); (focus walk_at "ar"); (focus walk_at "z"); (focus walk_at "f"); (focus walk_at "or")) | ((with_reducible apply ev_methB); (focus walk_at "e"); (focus decide +kernel); (focus walk_at "ar"); (focus walk_at "z"); (focus walk_at "f"); (focus walk_at "or")) | ((with_reducible apply ev_makeB); (focus walk_at "ar"); (focus walk_at "z"); (focus walk_at "f")) | ((with_reducible apply ev_rooms); (focus walk_at "e")) | ((with_reducible apply ev_ducts); (focus walk_at "e")) | ((with_reducible apply ev_widths); (focus walk_at "e")) | ((with_reducible apply ev_app); (focus walk_at "e"); (focus walk_at "ar"); (focus exact rfl); (focus exact rfl); (focus walk_at "s")) | ((with_reducible apply ev_callP); (focus walk_at "ar"); (focus exact rfl); (focus first | exact List.nodup_nil | exact List.nodup_singleton _ | (simp; done)); (focus exact rfl); (focus walk_at "f"); (focus exact rfl); (focus exact rfl)) | ((with_reducible apply ev_callB); (focus walk_at "ar"); (focus exact rfl); (focus exact rfl); (focus walk_at "f"); (focus first | exact rfl | exact noLs_natD _ | exact noLs_ints _); (focus walk_at "or")) | ((with_reducible apply ev_chain); (focus walk_at "e"); (focus walk_at "e"); (focus walk_at "o"); (focus (intro _; walk_at "e")); (focus (intro _; walk_at "o"))) | ((with_reducible apply ev_andV); (focus walk_at "e"); (intro hk; (try simp only [decide_eq_true_eq, Bool.and_eq_true, Bool.or_eq_true, Bool.not_eq_true', decide_eq_false_iff_not] at hk); walk_at "e")) | ((with_reducible apply ev_orV); (focus walk_at "e"); (intro hk; (try simp only [decide_eq_false_iff_not, Bool.and_eq_false_imp, Bool.or_eq_false_iff, Bool.not_eq_false'] at hk); walk_at "e")) | ((with_reducible apply ev_notV); (focus walk_at "e")) | ((with_reducible apply ev_ife); (focus walk_at "t"); (focus (intro hk; (try simp only [decide_eq_true_eq, Bool.and_eq_true, Bool.or_eq_true, Bool.not_eq_true', decide_eq_false_iff_not] at hk); walk_at "e")); (focus (intro hk; (try simp only [decide_eq_false_iff_not, Bool.and_eq_false_imp, Bool.or_eq_false_iff, Bool.not_eq_false'] at hk); walk_at "e"))))
local macro_rules | `(tactic| walk_at "t") => `(tactic| first | with_reducible exact ev_yes | with_reducible assumption | ((with_reducible apply ev_tst); (focus walk_at "e")) | ((with_reducible apply ev_tru); (focus walk_at "e"); (focus walk_at "tb")) | ((with_reducible apply ev_not); (focus walk_at "t")) | ((with_reducible apply ev_and); (focus walk_at "t"); (intro hk; (try simp only [decide_eq_true_eq, Bool.and_eq_true, Bool.or_eq_true, Bool.not_eq_true', decide_eq_false_iff_not] at hk); walk_at "t")) | ((with_reducible apply ev_or); (focus walk_at "t"); (intro hk; (try simp only [decide_eq_false_iff_not, Bool.and_eq_false_imp, Bool.or_eq_false_iff, Bool.not_eq_false'] at hk); walk_at "t")))
local macro_rules | `(tactic| walk_at "sl") => `(tactic| ((try simp only [List.set_cons_succ, List.set_cons_zero, List.length_nil, List.length_cons, Nat.zero_add, Nat.reduceAdd]); exact rfl))
local macro_rules | `(tactic| walk_at "cs") => `(tactic| ((try simp only [List.nil_append, List.cons_append, List.set_cons_succ, List.set_cons_zero, setL]); exact rfl))
local macro_rules | `(tactic| walk_at "g") => `(tactic| first | ((simp only [gT_tup, List.length_cons, List.length_nil, Nat.reduceAdd, if_true, List.map_cons, List.map_nil, gsCons_ap, gN_ap, Option.bind_some, gsNil_ap, List.set_cons_succ, List.set_cons_zero]); exact rfl) | exact rfl)
local macro_rules | `(tactic| walk_at "st") => `(tactic| first | with_reducible assumption | ((with_reducible apply st_asg); (focus walk_at "e"); (focus walk_at "sl")) | ((with_reducible apply st_asgG); (focus walk_at "e"); (focus walk_at "g")) | ((with_reducible apply st_drop); (focus walk_at "e")) | ((with_reducible apply st_seti); (focus walk_at "e"); (focus walk_at "e"); (focus walk_at "e"); (focus walk_at "sa")) | ((with_reducible apply st_augi); (focus walk_at "e"); (focus walk_at "e"); (focus exact rfl); (focus walk_at "ag"); (focus walk_at "e"); (focus walk_at "sa")) | ((with_reducible apply st_aug); (focus exact rfl); (focus walk_at "e"); (focus walk_at "sl")) | ((with_reducible apply st_dput); (focus walk_at "e"); (focus walk_at "e"); (focus walk_at "e"); (focus exact rfl); (focus exact rfl); (focus walk_at "s")))
local macro_rules | `(tactic| walk_at "sa") => `(tactic| first | assumption | ((with_reducible apply setAt0); walk_at "s") | ((with_reducible apply setAt1); walk_at "s") | ((with_reducible apply setAt2); walk_at "s"))
local macro_rules | `(tactic| walk_at "ag") => `(tactic| first | assumption | ((with_reducible apply ag_ints); walk_at "s"))
local macro_rules | `(tactic| walk_at "a") => `(tactic| first | with_reducible apply sx_pass | with_reducible apply sx_assoc | ((with_reducible apply sx_ret); (focus walk_at "e"); try dsimp only) | ((with_reducible apply sx_retE); (focus walk_at "e"); try dsimp only) | ((with_reducible apply sx_brk); try dsimp only) | ((with_reducible apply sx_brkE); try dsimp only) | ((with_reducible apply sx_cnt); try dsimp only) | ((with_reducible apply sx_cntE); try dsimp only) | ((with_reducible apply sx_passE); try dsimp only) | ((with_reducible apply sx_go); (focus walk_at "st"); (focus walk_at "cs")) | ((with_reducible apply sx_end); (focus walk_at "st"); (focus walk_at "cs"); try dsimp only))
local macro_rules | `(tactic| walk_at "i") => `(tactic| first | ((with_reducible apply sx_if); (focus walk_at "t")) | ((with_reducible apply sx_ifE); (focus walk_at "t")))
local macro_rules | `(tactic| walk_at "sa") => `(tactic| first | assumption | ((with_reducible apply setAt0); walk_at "s") | ((with_reducible apply setAt1); walk_at "s") | ((with_reducible apply setAt2); walk_at "s") | ((with_reducible apply setAtG0); walk_at "s") | ((with_reducible apply setAtG1); walk_at "s"))
local macro_rules | `(tactic| walk_at "fv") => `(tactic| first | assumption | exact val_c (by walk_at "f") | exact val_l (by walk_at "f") | exact val_d (by walk_at "f"))
local macro_rules | `(tactic| walk_at "f") => `(tactic| first | assumption | (apply_assumption <;> walk_at "s"))
theorem at_last {F : List Nat} (h : 0 < F.length) : atI (natD F) ((F.length : Int) - 1) = some (.int ((nth F (F.length - 1) : Nat) : Int)) := by
  have : (F.length : Int) - 1 = ((F.length - 1 : Nat) : Int) := by omega
  rw [this]
  exact at_natD (by omega)
def runD (ds : List Du) (r : Nat) (load : List Int) : Option (List Int) → List Dt
  | some x => [.lst ((shL ds load x r).map .int), .lst (x.map .int)]
  | none => []
section
variable {ds : List Du} {r : Nat} {m : Int} {P : List Nat} {load : List Int}
theorem law_run_in {x : List Int} {a : Nat} (hr : r ≤ 8) (hl : x.length = r) (ha : a < r) {x1 x2 x5 x6 x8 x9 : Option Lv} {c1 : Cl} {Q : Fl → Cs → Prop}
    (hq : ∀ x8, Q (.nx [some (.c (.lst (tabD (tabW r ds)))), x1, x2, some (.p 0), some (.p 1), x5, x6, some (.c (.int a)), x8, x9]) [.lst (((List.range r).map fun c => nth x c + wid ds a c).map .int), c1]) :
    Wp (l_law_run_1 [some (.c (.lst (tabD (tabW r ds)))), x1, x2, some (.p 0), some (.p 1), x5, x6, some (.c (.int a)), x8, x9] [.lst (x.map .int), c1]) Q := by
  unfold l_law_run_1
  refine wp_forR r (fun i sl cs => ∃ x8, sl = [some (.c (.lst (tabD (tabW r ds)))), x1, x2, some (.p 0), some (.p 1), x5, x6, some (.c (.int a)), x8, x9] ∧ cs = [.lst (((List.range r).map fun c => nth x c + if c < i then wid ds a c else 0).map .int), c1]) (by walk_at "ar") (by omega) ⟨x8, rfl, ?_⟩ ?_ ?_
  · have : ((List.range r).map fun c => nth x c + if c < 0 then wid ds a c else 0) = x := list_ext (by simp [hl]) fun i hi => by
      have hi' : i < r := by simpa using hi
      rw [nth_get hi]
      simp
    rw [this]
  · rintro i hi sl cs ⟨x8, rfl, rfl⟩
    simp only [List.set_cons_succ, List.set_cons_zero]
    unfold lb_law_run_1
    have hlen : ((List.range r).map fun c => nth x c + if c < i then wid ds a c else 0).length = r := by simp
    have hn : nth ((List.range r).map fun c => nth x c + if c < i then wid ds a c else 0) i = nth x i := by
      rw [nth_get (by rw [hlen]; exact hi)]
      simp
    walk_at "a"
    refine ⟨_, rfl, ?_⟩
    rw [hn, set_rng]
    have : ((List.range r).map fun b => if b = i then nth x i + wid ds a i else nth x b + if b < i then wid ds a b else 0) = (List.range r).map fun c => nth x c + if c < i + 1 then wid ds a c else 0 := List.map_congr_left fun c hc => by
      by_cases e : c = i
      · subst e; simp
      · by_cases z : c < i
        · have z2 : c < i + 1 := by omega
          simp [e, z, z2]
        · have z2 : ¬ c < i + 1 := by omega
          simp [e, z, z2]
    rw [this]
  · rintro sl cs ⟨x8, rfl, rfl⟩
    have : ((List.range r).map fun c => nth x c + if c < r then wid ds a c else 0) = (List.range r).map fun c => nth x c + wid ds a c := List.map_congr_left fun c hc => by
      rw [if_pos (List.mem_range.mp hc)]
    rw [this]
    exact hq x8
theorem law_run_ok (hp : Pc ds r m P) (hr : r ≤ 8) (hm : m * ds.length ≤ 100000) (hll : load.length = r) {lo hi : Int} (h0 : 0 ≤ lo) (hhi : 0 ≤ hi) (hlo : ∀ b, b < r → -lo ≤ nth load b) (hup : ∀ b, b < r → nth load b ≤ hi) (hB : r * ((r * (hi + lo)) * r) ≤ 1900) :
    m_law_run [.lst (tabD (tabW r ds)), .lst (natD P), .lst (load.map .int)] = .ret (.l (runD ds r load (verd ds r P load))) := by
  refine runF_of (n := 3) (k := 7) (body := b_law_run) rfl ?_
  unfold b_law_run
  simp only [List.map_cons, List.map_nil, List.cons_append, List.nil_append, List.replicate]
  walk_at "a"
  walk_at "a"
  simp only [Int.toNat_natCast]
  rw [wp_seq]
  unfold l_law_run_2
  refine wp_forR 2000 (fun i sl cs => ∃ x x5 x6 x7 x8 x9, Leg ds r P load x ∧ cnt r x = (i : Int) ∧ i ≤ 1901 ∧ sl = [some (.c (.lst (tabD (tabW r ds)))), some (.c (.lst (natD P))), some (.c (.lst (load.map .int))), some (.p 0), some (.p 1), x5, x6, x7, x8, x9] ∧ cs = [.lst ((shL ds load x r).map .int), .lst (x.map .int)]) rfl (by omega) ⟨List.replicate r 0, _, _, _, _, _, .zero, ?_, by omega, rfl, ?_⟩ ?_ ?_
  · unfold cnt
    rw [sumR_zeros fun b _ => nth_rep]; rfl
  · rw [shL_zero hll]; simp
  · rintro i hi sl cs ⟨x, x5, x6, x7, x8, x9, hleg, hcnt, hi2, rfl, rfl⟩
    have hxl := hleg.len
    have hPl := len_le_of_nodup hp.nd hp.lt
    have hf := lawFull_ok r ds (shL ds load x r) (by omega) shL_len
    have hfl := @fullL_len ds r (shL ds load x r)
    have hlt := hp.lt
    have hsl : (shL ds load x r).length = r := shL_len
    simp only [List.set_cons_succ, List.set_cons_zero]
    unfold lb_law_run_2
    walk_at "a"
    obtain ⟨F, hF⟩ : ∃ F, F = (fullL ds r (shL ds load x r)).filter (fun a => decide (a ∈ P)) := ⟨_, rfl⟩
    rw [← hF]
    walk_at "i"
    · intro hz
      walk_at "a"
      have hst : stable ds r P (shL ds load x r) := fun a ha => by
        cases e : isFull ds r (shL ds load x r) a with
        | false => rfl
        | true =>
          have : a ∈ F := by
            rw [hF]
            exact List.mem_filter.mpr ⟨List.mem_filter.mpr ⟨List.mem_range.mpr (hp.lt a ha), e⟩, by simpa using ha⟩
          have := List.length_pos_of_mem this
          simp at hz
          rw [hz] at this; simp at this
      rw [verd_of hp (.calm hleg hst)]
      rfl
    intro hz
    walk_at "a"
    have hFl : 0 < F.length := by
      simp at hz
      exact List.length_pos_iff.mpr hz
    have hxP : ∀ a ∈ P, a < x.length := fun a ha => by rw [hxl]; exact hp.lt a ha
    walk_at "i"
    · intro hz2
      walk_at "a"
      have hall : ∀ a ∈ P, 1 ≤ nth x a := fun a ha => by
        have h1 := (hleg.nn hp.lt a).1
        have h2 : nth x a ≠ 0 := fun e => by
          have : a ∈ P.filter fun a => decide (nth x a = 0) := List.mem_filter.mpr ⟨ha, by simpa using e⟩
          have := List.length_pos_of_mem this
          simp only [decide_eq_true_eq] at hz2
          omega
        omega
      rw [verd_of hp (.never hleg hall)]
      rfl
    intro hz2
    walk_at "a"
    have hl1 := at_last hFl
    have hmem := nth_mem (xs := F) (n := F.length - 1) (by omega)
    walk_at "a"
    generalize nth F (F.length - 1) = a at *
    rw [hF] at hmem
    obtain ⟨hm1, hm2⟩ := List.mem_filter.mp hmem
    have haP : a ∈ P := by simpa using hm2
    have har := hp.lt a haP
    have hfull := (List.mem_filter.mp hm1).2
    walk_at "a"
    refine wp_seq.mpr (law_run_in hr shL_len har fun x8 => ?_)
    dsimp only
    obtain ⟨h', hh'⟩ : ∃ h' : List Int, h' = (List.range r).map fun c => nth (shL ds load x r) c + wid ds a c := ⟨_, rfl⟩
    rw [← hh']
    have hl' : h'.length = r := by rw [hh']; simp
    walk_at "a"
    have hleg' := hleg.step haP hfull
    refine ⟨_, _, _, _, _, _, hleg', by rw [cnt_inc har hxl, hcnt]; simp, ?_, rfl, ?_⟩
    · have hne : ¬ (P.filter fun a => decide (nth x a = 0)).length = 0 := by
        simp only [decide_eq_false_iff_not] at hz2
        omega
      obtain ⟨v, hv⟩ := List.exists_mem_of_ne_nil (P.filter fun a => decide (nth x a = 0)) (fun z => hne (by rw [z]; rfl))
      obtain ⟨hv1, hv2⟩ := List.mem_filter.mp hv
      have := cnt_few hp h0 hhi hll hlo hup hleg hv1 (by simpa using hv2)
      omega
    · have e1 : h'.set a (nth h' a - spr ds r a) = shL ds load (incK x a 1) r := by
        rw [shL_incK hp.hd hxl har]
        refine list_ext (by rw [List.length_set, hl', giveL_len]) fun c hc => ?_
        rw [List.length_set, hl'] at hc
        have hn : ∀ c, c < r → nth h' c = nth (shL ds load x r) c + wid ds a c := fun c hc => by
          rw [hh', nth_get (by simpa using hc)]
          simp
        rw [nth_set (by omega), giveL_nth hc, hn a har]
        by_cases z : c = a
        · subst z
          rw [if_pos rfl, if_pos rfl]; omega
        · rw [if_neg z, if_neg z, hn c hc]; omega
      rw [e1]
      rfl
  · rintro sl cs ⟨x, x5, x6, x7, x8, x9, hleg, hcnt, hi2, rfl, rfl⟩
    omega
end
end B27

set_option Elab.async false
set_option linter.all false
set_option maxRecDepth 100000
set_option maxHeartbeats 4000000
namespace B27
open PySem L2 Mi Bn
local macro_rules | `(tactic| walk_at "s") => `(tactic| first | assumption | omega | exact rfl | (apply_assumption <;> assumption) | (simp; done) | (simp; omega))
local macro_rules | `(tactic| walk_at "ok") => `(tactic| first | exact rfl | exact okCs_of (by assumption) | assumption | (simp; done))
local macro_rules | `(tactic| walk_at "z") => `(tactic| first | exact fz_nil | ((with_reducible apply fz_c); walk_at "z") | ((with_reducible apply fz_f); exact rfl; walk_at "z") | ((with_reducible apply fz_p); exact rfl; walk_at "z") | ((with_reducible apply fz_d); exact rfl; walk_at "z"))
local macro_rules | `(tactic| walk_at "at") => `(tactic| first | assumption | exact atI_0 | exact atI_1 | exact atI_2 | exact atI_3 | ((with_reducible apply at_tabD); walk_at "s") | ((with_reducible apply at_tabT); walk_at "s") | ((with_reducible apply at_row); walk_at "s") | ((with_reducible apply at_natD); walk_at "s") | ((with_reducible apply at_ints); walk_at "s"))
local macro_rules | `(tactic| walk_at "o") => `(tactic| first | assumption | with_reducible exact opAdd_int | with_reducible exact opSub_int | with_reducible exact opNeg_int | with_reducible exact opLt_int | with_reducible exact opLe_int | with_reducible exact opGt_int | with_reducible exact opGe_int | with_reducible exact o_eq | with_reducible exact o_ne | ((with_reducible apply o_il); walk_at "at") | ((with_reducible apply o_it); walk_at "at") | ((with_reducible apply o_is); walk_at "at") | ((with_reducible apply o_ip); exact rfl; walk_at "at") | with_reducible exact o_sumT | with_reducible exact o_sumL | with_reducible exact cSumT_tup | with_reducible exact cSumT_lst | with_reducible exact cSum_ints | with_reducible exact o_lenD | with_reducible exact o_lenT | with_reducible exact o_lenN | with_reducible exact o_lenNt | with_reducible exact o_lenI | with_reducible exact o_lenIt | with_reducible exact cLen_lst | with_reducible exact cLen_tup | ((with_reducible apply o_lenp); exact rfl) | ((with_reducible apply o_lendic); exact rfl) | with_reducible exact sq_len | with_reducible exact o_inN | with_reducible exact o_ninN | with_reducible exact o_inNt | with_reducible exact o_ninNt | with_reducible exact in_ints | with_reducible exact notin_ints | with_reducible exact in_intsT | with_reducible exact notin_intsT | with_reducible exact cInt_int | with_reducible exact cInt_bl | with_reducible exact cTuple_lst | with_reducible exact cTuple_tup | ((with_reducible apply cTuple_cell); exact rfl) | with_reducible exact cList_lst | with_reducible exact cList_tup | with_reducible exact sq_list | with_reducible exact sq_tuple | with_reducible exact eq_intsL | with_reducible exact eq_intsT | with_reducible exact sq_isi | ((with_reducible apply opMod_int); walk_at "s") | ((with_reducible apply opDiv_int) <;> walk_at "s") | ((with_reducible apply opMul_int) <;> walk_at "s") | ((with_reducible apply opMul_one) <;> walk_at "s"))
local macro_rules | `(tactic| walk_at "f") => `(tactic| first | assumption | with_reducible assumption)
local macro_rules | `(tactic| walk_at "fv") => `(tactic| first | assumption)
local macro_rules | `(tactic| walk_at "or") => `(tactic| first | exact out_c | exact out_l | exact out_d)
local macro_rules | `(tactic| walk_at "cv") => `(tactic| first | exact ClV.c | exact ClV.n | exact ClV.d)
local macro_rules | `(tactic| walk_at "tb") => `(tactic| first | exact t_bl | exact t_int | exact truOf_lst | exact truOf_tup)
local macro_rules | `(tactic| walk_at "wipe") => `(tactic| (intro a; (try simp only [wipeS, List.set_cons_zero, List.set_cons_succ]); exact rfl))
local macro_rules | `(tactic| walk_at "ar") => `(tactic| first | with_reducible exact ev_nil | ((with_reducible apply ev_cons); (focus walk_at "e"); walk_at "ar"))
local macro_rules | `(tactic| walk_at "ct") => `(tactic| (intro a ha acc; walk_at "t"))
local macro_rules | `(tactic| walk_at "ce") => `(tactic| (intro a ha hp acc; (try simp only [decide_eq_true_eq, Bool.and_eq_true, Bool.or_eq_true, Bool.not_eq_true', decide_eq_false_iff_not] at hp); walk_at "e"))
local macro_rules | `(tactic| walk_at "cf") => `(tactic| (intro a ha acc; walk_at "e"))
local macro_rules | `(tactic| walk_at "lt") => `(tactic| first | (refine Or.inl ?_; walk_at "e") | (refine Or.inr ?_; walk_at "e"))
local macro_rules | `(tactic| walk_at "lc") => `(tactic| first | ((with_reducible apply ev_lcRF); (focus walk_at "ar"); (focus walk_at "s"); (focus walk_at "ok"); (focus walk_at "wipe"); (focus walk_at "cf"); (focus walk_at "ct")) | ((with_reducible apply ev_lcRM); (focus walk_at "ar"); (focus walk_at "s"); (focus walk_at "ok"); (focus walk_at "wipe"); (focus walk_at "cf")) | ((with_reducible apply ev_lcRI); (focus walk_at "ar"); (focus walk_at "s"); (focus walk_at "ok"); (focus walk_at "wipe"); (focus walk_at "ct"); (focus walk_at "ce")) | ((with_reducible apply ev_lcR); (focus walk_at "ar"); (focus walk_at "s"); (focus walk_at "ok"); (focus walk_at "wipe"); (focus walk_at "ct"); (focus walk_at "ce")) | ((with_reducible apply ev_lcNF); (focus walk_at "lt"); (focus walk_at "s"); (focus walk_at "ok"); (focus walk_at "wipe"); (focus walk_at "cf"); (focus walk_at "ct")) | ((with_reducible apply ev_lcNM); (focus walk_at "lt"); (focus walk_at "s"); (focus walk_at "ok"); (focus walk_at "wipe"); (focus walk_at "cf")) | ((with_reducible apply ev_lcNI); (focus walk_at "lt"); (focus walk_at "s"); (focus walk_at "ok"); (focus walk_at "wipe"); (focus walk_at "ct"); (focus walk_at "ce")) | ((with_reducible apply ev_lcL); (focus walk_at "lt"); (focus walk_at "s"); (focus walk_at "ok"); (focus walk_at "wipe"); (focus walk_at "ct"); (focus walk_at "ce")))
local macro_rules | `(tactic| walk_at "e") => `(tactic| first | with_reducible exact ev_c | with_reducible exact ev_dnew | ((with_reducible apply ev_var); exact rfl) | with_reducible assumption | ((with_reducible apply ev_op2); (focus walk_at "e"); (focus walk_at "e"); (focus walk_at "o")) | ((with_reducible apply ev_opN); (focus walk_at "ar"); (focus walk_at "o")) | ((with_reducible apply ev_op1); (focus walk_at "e"); (focus walk_at "o")) | ((with_reducible apply ev_tup); (focus walk_at "ar"); (focus walk_at "z"); (focus walk_at "s")) | ((with_reducible apply ev_lst); (focus walk_at "ar"); (focus walk_at "z"); (focus walk_at "s")) | ((with_reducible apply ev_vcall); (focus walk_at "ar"); (focus walk_at "z"); (focus walk_at "fv"); (focus walk_at "ok")) | walk_at "lc" | ((with_reducible apply ev_v); (focus walk_at "e"); (focus walk_at "cv"); (focus walk_at "ok")) | ((with_reducible apply ev_call); (focus walk_at "ar"); (focus walk_at "z"); (focus walk_at "f"); (focus walk_at "or")) | ((with_reducible apply ev_methB); (focus walk_at "e"); (focus decide +kernel); (focus walk_at "ar"); (focus walk_at "z"); (focus walk_at "f"); (focus walk_at "or")) | ((with_reducible apply ev_makeB); (focus walk_at "ar"); (focus walk_at "z"); (focus walk_at "f")) | ((with_reducible apply ev_rooms); (focus walk_at "e")) | ((with_reducible apply ev_ducts); (focus walk_at "e")) | ((with_reducible apply ev_widths); (focus walk_at "e")) | ((with_reducible apply ev_app); (focus walk_at "e"); (focus walk_at "ar"); (focus exact rfl); (focus exact rfl); (focus walk_at "s")) | ((with_reducible apply ev_callP); (focus walk_at "ar"); (focus exact rfl); (focus first | exact List.nodup_nil | exact List.nodup_singleton _ | (simp; done)); (focus exact rfl); (focus walk_at "f"); (focus exact rfl); (focus exact rfl)) | ((with_reducible apply ev_callB); (focus walk_at "ar"); (focus exact rfl); (focus exact rfl); (focus walk_at "f"); (focus first | exact rfl | exact noLs_natD _ | exact noLs_ints _); (focus walk_at "or")) | ((with_reducible apply ev_chain); (focus walk_at "e"); (focus walk_at "e"); (focus walk_at "o"); (focus (intro _; walk_at "e")); (focus (intro _; walk_at "o"))) | ((with_reducible apply ev_andV); (focus walk_at "e"); (intro hk; (try simp only [decide_eq_true_eq, Bool.and_eq_true, Bool.or_eq_true, Bool.not_eq_true', decide_eq_false_iff_not] at hk); walk_at "e")) | ((with_reducible apply ev_orV); (focus walk_at "e"); (intro hk; (try simp only [decide_eq_false_iff_not, Bool.and_eq_false_imp, Bool.or_eq_false_iff, Bool.not_eq_false'] at hk); walk_at "e")) | ((with_reducible apply ev_notV); (focus walk_at "e")) | ((with_reducible apply ev_ife); (focus walk_at "t"); (focus (intro hk; (try simp only [decide_eq_true_eq, Bool.and_eq_true, Bool.or_eq_true, Bool.not_eq_true', decide_eq_false_iff_not] at hk); walk_at "e")); (focus (intro hk; (try simp only [decide_eq_false_iff_not, Bool.and_eq_false_imp, Bool.or_eq_false_iff, Bool.not_eq_false'] at hk); walk_at "e"))))
local macro_rules | `(tactic| walk_at "t") => `(tactic| first | with_reducible exact ev_yes | with_reducible assumption | ((with_reducible apply ev_tst); (focus walk_at "e")) | ((with_reducible apply ev_tru); (focus walk_at "e"); (focus walk_at "tb")) | ((with_reducible apply ev_not); (focus walk_at "t")) | ((with_reducible apply ev_and); (focus walk_at "t"); (intro hk; (try simp only [decide_eq_true_eq, Bool.and_eq_true, Bool.or_eq_true, Bool.not_eq_true', decide_eq_false_iff_not] at hk); walk_at "t")) | ((with_reducible apply ev_or); (focus walk_at "t"); (intro hk; (try simp only [decide_eq_false_iff_not, Bool.and_eq_false_imp, Bool.or_eq_false_iff, Bool.not_eq_false'] at hk); walk_at "t")))
local macro_rules | `(tactic| walk_at "sl") => `(tactic| ((try simp only [List.set_cons_succ, List.set_cons_zero, List.length_nil, List.length_cons, Nat.zero_add, Nat.reduceAdd]); exact rfl))
local macro_rules | `(tactic| walk_at "cs") => `(tactic| ((try simp only [List.nil_append, List.cons_append, List.set_cons_succ, List.set_cons_zero, setL]); exact rfl))
local macro_rules | `(tactic| walk_at "g") => `(tactic| first | ((simp only [gT_tup, List.length_cons, List.length_nil, Nat.reduceAdd, if_true, List.map_cons, List.map_nil, gsCons_ap, gN_ap, Option.bind_some, gsNil_ap, List.set_cons_succ, List.set_cons_zero]); exact rfl) | exact rfl)
local macro_rules | `(tactic| walk_at "st") => `(tactic| first | with_reducible assumption | ((with_reducible apply st_asg); (focus walk_at "e"); (focus walk_at "sl")) | ((with_reducible apply st_asgG); (focus walk_at "e"); (focus walk_at "g")) | ((with_reducible apply st_drop); (focus walk_at "e")) | ((with_reducible apply st_seti); (focus walk_at "e"); (focus walk_at "e"); (focus walk_at "e"); (focus walk_at "sa")) | ((with_reducible apply st_augi); (focus walk_at "e"); (focus walk_at "e"); (focus exact rfl); (focus walk_at "ag"); (focus walk_at "e"); (focus walk_at "sa")) | ((with_reducible apply st_aug); (focus exact rfl); (focus walk_at "e"); (focus walk_at "sl")) | ((with_reducible apply st_dput); (focus walk_at "e"); (focus walk_at "e"); (focus walk_at "e"); (focus exact rfl); (focus exact rfl); (focus walk_at "s")))
local macro_rules | `(tactic| walk_at "sa") => `(tactic| first | assumption | ((with_reducible apply setAt0); walk_at "s") | ((with_reducible apply setAt1); walk_at "s") | ((with_reducible apply setAt2); walk_at "s"))
local macro_rules | `(tactic| walk_at "ag") => `(tactic| first | assumption | ((with_reducible apply ag_ints); walk_at "s"))
local macro_rules | `(tactic| walk_at "a") => `(tactic| first | with_reducible apply sx_pass | with_reducible apply sx_assoc | ((with_reducible apply sx_ret); (focus walk_at "e"); try dsimp only) | ((with_reducible apply sx_retE); (focus walk_at "e"); try dsimp only) | ((with_reducible apply sx_brk); try dsimp only) | ((with_reducible apply sx_brkE); try dsimp only) | ((with_reducible apply sx_cnt); try dsimp only) | ((with_reducible apply sx_cntE); try dsimp only) | ((with_reducible apply sx_passE); try dsimp only) | ((with_reducible apply sx_go); (focus walk_at "st"); (focus walk_at "cs")) | ((with_reducible apply sx_end); (focus walk_at "st"); (focus walk_at "cs"); try dsimp only))
local macro_rules | `(tactic| walk_at "i") => `(tactic| first | ((with_reducible apply sx_if); (focus walk_at "t")) | ((with_reducible apply sx_ifE); (focus walk_at "t")))
local macro_rules | `(tactic| walk_at "sa") => `(tactic| first | assumption | ((with_reducible apply setAt0); walk_at "s") | ((with_reducible apply setAt1); walk_at "s") | ((with_reducible apply setAt2); walk_at "s") | ((with_reducible apply setAtG0); walk_at "s") | ((with_reducible apply setAtG1); walk_at "s"))
local macro_rules | `(tactic| walk_at "fv") => `(tactic| first | assumption | exact val_c (by walk_at "f") | exact val_l (by walk_at "f") | exact val_d (by walk_at "f"))
local macro_rules | `(tactic| walk_at "f") => `(tactic| first | assumption | (apply_assumption <;> walk_at "s"))
theorem law_integer_int (i : Int) : m_law_integer [.int i] = .ret (.c (.bl true)) := by
  refine runF_of (n := 1) (k := 0) (body := b_law_integer) rfl ?_
  simp [b_law_integer]
section
variable {ds : List Du} {r : Nat} {m : Int} {P : List Nat} {load : List Int}
theorem vents_in {x : List Int} {F : List Nat} (hr : r ≤ 8) (hl : x.length = r) (hF : ∀ a ∈ F, a < r) (hn : F.Nodup) {x0 x1 x2 x3 x4 x5 x6 x7 x8 x10 x11 x13 x14 : Option Lv} {Q : Fl → Cs → Prop}
    (hq : ∀ x13, Q (.nx [x0, x1, x2, x3, x4, x5, x6, x7, x8, some (.p 0), x10, x11, some (.c (.lst (natD F))), x13, x14]) [.lst ((addS x F r).map .int)]) :
    Wp (l_law_1 [x0, x1, x2, x3, x4, x5, x6, x7, x8, some (.p 0), x10, x11, some (.c (.lst (natD F))), x13, x14] [.lst (x.map .int)]) Q := by
  unfold l_law_1
  refine wp_forL (f := fun n : Nat => Dt.int (n : Int)) F (fun i sl cs => ∃ x13, sl = [x0, x1, x2, x3, x4, x5, x6, x7, x8, some (.p 0), x10, x11, some (.c (.lst (natD F))), x13, x14] ∧ cs = [.lst ((addS x (F.take i) r).map .int)]) (.inl rfl) ⟨x13, rfl, ?_⟩ ?_ ?_
  · have : addS x (F.take 0) r = x := list_ext (by rw [addS_len, hl]) fun b hb => by
      rw [addS_len] at hb
      rw [addS_nth hb]; simp
    rw [this]
  · rintro i hi sl cs ⟨x13, rfl, rfl⟩
    have htk : F.take (i + 1) = F.take i ++ [F[i]] := by simp
    have hnot : F[i] ∉ F.take i := by
      intro z
      have hsp := List.take_append_drop i F
      rw [List.drop_eq_getElem_cons hi] at hsp
      rw [← hsp, List.nodup_append] at hn
      exact hn.2.2 F[i] z F[i] List.mem_cons_self rfl
    have har := hF _ (List.getElem_mem hi)
    rw [htk]
    generalize F[i] = a at *
    simp only [List.set_cons_succ, List.set_cons_zero]
    have hal : (addS x (F.take i) r).length = r := addS_len
    unfold lb_law_1
    walk_at "a"
    refine ⟨_, rfl, ?_⟩
    have : (addS x (F.take i) r).set a (nth (addS x (F.take i) r) a + 1) = addS x (F.take i ++ [a]) r := list_ext (by rw [List.length_set, addS_len, addS_len]) fun b hb => by
      rw [List.length_set, addS_len] at hb
      rw [nth_set (by omega), addS_nth har, addS_nth hb, addS_nth hb]
      by_cases e : b = a
      · subst e; simp [hnot]
      · simp [e]
    rw [this]
  · rintro sl cs ⟨x13, rfl, rfl⟩
    rw [List.take_length]
    exact hq x13
end
theorem main : ∀ ns : List Int, ns.length ≤ 63 → (∀ z ∈ ns, Builtin.Int.intBits z ≤ 1048576) → m_law [.scr ns] = .ret (.c (.bl true)) := by
  intro ns hn _
  refine runF_of (n := 1) (k := 14) (body := b_law) rfl ?_
  obtain ⟨r, j, ds, hplan, hP⟩ := law_plan_ok ns hn 0 4 3 3 (by omega) (by omega) (by omega) (by omega) (by omega)
  have hr := hP.r1
  have hr2 := hP.r2
  have hd := hP.ok.ok
  have hdl : ds.length ≤ 16 := by
    have := hP.len2
    rcases hP.jj with h | h <;> omega
  have hm : (3 : Int) * ds.length ≤ 100000 := by omega
  obtain ⟨load, hnum, hll, hlx0⟩ := law_numbers_ok (cellV ns 2) r (-3) 7 (by omega) (by omega) (by omega) (by omega)
  have hlx : ∀ x ∈ load, -200 ≤ x ∧ x ≤ 200 := fun x hx => by have := hlx0 x hx; omega
  have hb : ∀ b, b < r → -3 ≤ nth load b ∧ nth load b ≤ 7 := fun b hb => hlx0 _ (nth_mem (by omega))
  have c2 : m_law_cell [.scr ns, .int 2] = .ret (.c (.int (cellV ns 2))) := law_cell_ok ns 2 hn
  have hw := law_widths_ok r ds 3 hr (by omega) hd (by omega)
  have hbld := building_ok r ds 3 hr (by omega) hd (by omega) hdl
  have hpcs := law_pieces_ok r ds 3 hr (by omega) hd
  have hbound : (r : Int) * ((r * (7 + 3)) * r) ≤ 640 := by
    have a1 : (r : Int) * (7 + 3) ≤ 40 := by omega
    have a2 : (r : Int) * (7 + 3) * r ≤ 40 * 4 := Int.mul_le_mul a1 (by omega) (by omega) (by omega)
    have := Int.mul_le_mul (show (r : Int) ≤ 4 by omega) a2 (Int.mul_nonneg (by omega) (by omega)) (by omega)
    omega
  have hrun : ∀ Q ∈ piecesOf (AdjW ds) r, m_law_run [.lst (tabD (tabW r ds)), .lst (natD Q), .lst (load.map .int)] = .ret (.l (runD ds r load (verd ds r Q load))) := fun Q hQ => by
    obtain ⟨a, ha, rfl⟩ := pieces_mem hQ
    exact law_run_ok (pc_of hd ha) (by omega) hm hll (lo := 3) (hi := 7) (by omega) (by omega) (fun b h => (hb b h).1) (fun b h => (hb b h).2) (by omega)
  have hpl : (piecesOf (AdjW ds) r).length ≤ r := by
    unfold piecesOf repsOf
    rw [List.length_map]
    refine Nat.le_trans (List.length_filter_le _ _) (by simp)
  have hspill := spill_ok false hr (by omega) hd hm hll hlx
  simp only [sqD_f] at hspill
  obtain ⟨told, hti, hcase⟩ : ∃ told, m_ticks [bldD r ds, .lst (load.map .int)] = .ret (.c told) ∧ ((told = .non ∧ ∃ a, a < r ∧ spV ds r load a = none) ∨ ∃ N : Nat, told = .int N ∧ Ends' ds r 3 load ∧ fullL ds r (shL ds load (tkX ds r load N) r) = [] ∧ ∀ k, k < N → fullL ds r (shL ds load (tkX ds r load k) r) ≠ []) := by
    by_cases hall : ∀ a, a < r → spV ds r load a ≠ none
    · have he : Ends' ds r 3 load := ⟨hd, by omega, hm, hll, hlx, hall⟩
      obtain ⟨N, h1, h2, h3⟩ := ticks_ok false hr he
      exact ⟨_, h1, .inr ⟨N, rfl, he, h2, h3⟩⟩
    · obtain ⟨a, ha, he⟩ : ∃ a, a < r ∧ spV ds r load a = none := Classical.byContradiction fun z => hall fun a ha e => z ⟨a, ha, e⟩
      have := ticks_none false hr (by omega) hd hm hll hlx (List.mem_map.mpr ⟨a, List.mem_range.mpr ha, by
        unfold spV at he
        unfold spU
        simpa using he⟩)
      exact ⟨_, this, .inl ⟨rfl, a, ha, he⟩⟩
  simp only [List.map_cons, List.map_nil, List.cons_append, List.nil_append, List.replicate]
  unfold b_law
  walk_at "a"
  walk_at "a"
  walk_at "a"
  walk_at "a"
  walk_at "a"
  walk_at "a"
  walk_at "a"
  obtain ⟨E, hE⟩ : ∃ E, E = (piecesOf (AdjW ds) r).filter fun a => decide (((runD ds r load (verd ds r a load)).length : Int) = 0) := ⟨_, rfl⟩
  rw [← hE]
  rcases hcase with ⟨rfl, a, ha, hav⟩ | ⟨N, rfl, he, hN, hN2⟩
  · have hpos : 0 < E.length := by
      have : pieceOf (AdjW ds) r a ∈ E := by
        rw [hE]
        refine List.mem_filter.mpr ⟨pieces_all ha, ?_⟩
        unfold spV at hav
        simp at hav
        rw [hav]
        rfl
      exact List.length_pos_of_mem this
    have o1 : opNon false (.c .non) (.c .non) [] = some (.c (.bl true), []) := rfl
    have e1 : (List.range r).map (fun a => optD (spU ds r load a)) = ((List.range r).map (spU ds r load)).map optD := by simp [Function.comp_def]
    rw [e1] at hspill
    have o2 := o_inNone (L := (List.range r).map (spU ds r load)) (cs := [])
    have hin : none ∈ (List.range r).map (spU ds r load) := List.mem_map.mpr ⟨a, List.mem_range.mpr ha, by
      unfold spV at hav
      unfold spU
      simpa using hav⟩
    walk_at "i"
    · intro _
      walk_at "a"
      simp [hin]
    · intro z
      simp at z
      rw [z] at hpos
      simp at hpos
  · have hE0 : E = [] := by
      rw [hE]
      refine List.filter_eq_nil_iff.mpr fun Q hQ => ?_
      obtain ⟨a, ha, rfl⟩ := pieces_mem hQ
      obtain ⟨x, hx, _⟩ := he.at ha
      rw [hx]
      simp [runD]
    walk_at "i"
    · intro z
      rw [hE0] at z
      simp at z
    intro _
    walk_at "a"
    have hint := law_integer_int N
    walk_at "i"
    · intro z; cases z
    intro _
    walk_at "a"
    walk_at "a"
    walk_at "a"
    walk_at "a"
    simp only [Int.toNat_natCast]
    have hNb : N ≤ 640 := by
      have g1 := tkX_cnt hd N hN2
      have g2 : cnt r (tkX ds r load N) ≤ cnt r (spY ds r load) := by
        unfold cnt
        exact sumR_le2 fun b _ => he.le (tkX_leg hd N) b
      have g3 := he.few (lo := 3) (hi := 7) (by omega) (by omega) (fun b h => (hb b h).1) (fun b h => (hb b h).2)
      omega
    rw [wp_seq]
    unfold l_law_2
    refine wp_forR 2000 (fun i sl cs => ∃ x11 x12 x13, i ≤ N ∧ sl = [some (.c (.scr ns)), some (.c (.lst [.int r, .lst (ds.map duD)])), some (.c (.int r)), some (.c (.lst (tabD (tabW r ds)))), some (.c (.lst (load.map .int))), some (.c (bldD r ds)), some (.c (.int (N : Int))), some (.c (.lst (E.map fun a => .lst (natD a)))), some (.c (.lst ((shL ds load (tkX ds r load i) r).map .int))), some (.p 0), some (.c (.int (i : Int))), x11, x12, x13, none] ∧ cs = [.lst ((tkX ds r load i).map .int)]) rfl (by omega) ⟨_, _, _, by omega, by rw [show tkX ds r load 0 = List.replicate r 0 from rfl, shL_zero hll]; rfl, by rw [show tkX ds r load 0 = List.replicate r 0 from rfl]; simp⟩ ?_ ?_
    · rintro i hi sl cs ⟨x11, x12, x13, hiN, rfl, rfl⟩
      obtain ⟨F, hF⟩ : ∃ F, F = fullL ds r (shL ds load (tkX ds r load i) r) := ⟨_, rfl⟩
      have hf := lawFull_ok r ds (shL ds load (tkX ds r load i) r) (by omega) shL_len
      rw [← hF] at hf
      have hFlt : ∀ a ∈ F, a < r := fun a h => by rw [hF] at h; exact fullL_lt h
      have hFn : F.Nodup := by rw [hF]; exact fullL_nd
      have hFl : F.length ≤ r := by rw [hF]; exact fullL_len
      have hxl := (tkX_leg (load := load) hd i).len
      have haf := lawAfter_ok r ds 3 (shL ds load (tkX ds r load i) r) (onceL F r) (by omega) hd hm shL_len onceL_len (fun x hx => by have := onceL_mem hx; omega)
      have hnext : shL ds (shL ds load (tkX ds r load i) r) (onceL F r) r = shL ds load (tkX ds r load (i + 1)) r := by
        rw [← shL_addS, hF]; rfl
      rw [hnext] at haf
      have ho : onceL F r = (List.range r).map fun a => if decide (a ∈ F) = true then (1 : Int) else 0 := by simp [onceL]
      rw [ho] at haf
      simp only [List.set_cons_succ, List.set_cons_zero]
      unfold lb_law_2
      walk_at "a"
      walk_at "i"
      · intro hz
        walk_at "a"
        walk_at "a"
        refine vents_in (by omega) hxl hFlt hFn fun x13 => ?_
        dsimp only
        have e1 : addS (tkX ds r load i) F r = tkX ds r load (i + 1) := by rw [hF]; rfl
        refine ⟨_, _, _, ?_, rfl, by rw [e1]⟩
        have : i ≠ N := fun e => by
          subst e
          rw [hF, hN] at hz
          simp at hz
        omega
      · intro hz
        walk_at "a"
        have hF0 : F = [] := by
          simpa using hz
        have hiN2 : i = N := by
          have := hN2 i
          rw [← hF] at this
          have h3 : ¬ i < N := fun z => this z hF0
          omega
        subst hiN2
        have hY := he.eq (tkX_leg hd i) hN
        have heqs : Dt.tup [.tup ((List.range r).map fun a => optD (spU ds r load a)), .tup ((List.range r).map fun a => optD (spV ds r load a))] = .tup [.tup ((shL ds load (tkX ds r load i) r).map .int), .tup ((tkX ds r load i).map .int)] := by
          have hmp : ∀ L : List Int, L.length = r → L.map Dt.int = (List.range r).map fun a => .int (nth L a) := fun L hL => by
            apply List.ext_getElem
            · simp [hL]
            · intro k h1 h2
              simp at h1
              simp [nth_get h1]
          rw [hmp _ shL_len, hmp _ hxl, hY]
          congr 2
          · congr 1
            refine List.map_congr_left fun a ha => ?_
            obtain ⟨x, hx, _, _, hq⟩ := he.at (List.mem_range.mp ha)
            have hma : a ∈ pieceOf (AdjW ds) r a := pieceOf_mem.mpr ⟨List.mem_range.mp ha, .refl⟩
            unfold spU
            rw [hx, (hq a hma).2]; rfl
          · congr 2
            refine List.map_congr_left fun a ha => ?_
            obtain ⟨x, hx, _, _, hq⟩ := he.at (List.mem_range.mp ha)
            have hma : a ∈ pieceOf (AdjW ds) r a := pieceOf_mem.mpr ⟨List.mem_range.mp ha, .refl⟩
            unfold spV
            rw [hx, (hq a hma).1]; rfl
        rw [heqs] at hspill
        have hpl2 : pln 60 (.tup [.tup ((shL ds load (tkX ds r load i) r).map .int), .tup ((tkX ds r load i).map .int)]) = true := by
          show [Dt.tup _, Dt.tup _].all (pln 59) = true
          simp only [List.all_cons, List.all_nil, Bool.and_true, Bool.and_eq_true]
          exact ⟨pln_ints (n := 58) _, pln_ints (n := 58) _⟩
        have oq := fun cs => opEq_pln (neg := false) (cs := cs) hpl2 hpl2
        have oq1 := oq [.lst ((tkX ds r load i).map .int)]
        have oq2 := oq [.fz (.lst ((tkX ds r load i).map .int))]
        walk_at "a"
        simp
    · rintro sl cs ⟨x11, x12, x13, hiN, rfl, rfl⟩
      omega
end B27

set_option Elab.async false
set_option maxRecDepth 100000
open PySem PySem.W PyProof.Rows
set_option maxRecDepth 100000 in
set_option maxHeartbeats 0 in
theorem PySem.Challenge.cw_warmhold_k27_ticks_holds : PySem.Challenge.rw_warmhold_k27_ticks.Holds := by
  w_on; o_law; k_head; (case hw => w_witness2)
  k_fill
  refine Mi.law_walk (l := PySem.Challenge.rw_warmhold_k27_ticks) 7 ⟨rfl, by decide, by decide⟩ rfl rfl (fun w h Y => PySem.W.kIn_of Y) ?F
  case F =>
    intro w mg fa h KX G hmg
    refine' B27.all_mk KX G hmg ?zb_bool ?zb_enumerate ?zb_int ?zb_isinstance ?zb_len ?zb_list ?zb_range ?zb_sorted ?zb_sum ?zb_tuple ?zg_MOST_DUCTS ?zg_MOST_ROOMS ?zg_MOST_UNITS ?zg_MOST_WIDTH ?zc_Building ?zp_Building ?zd_Building ?zo_Building ?zs_Building ?zn_Building_widths ?zn_Building_ducts ?zn_Building_rooms ?zm_Building ?zk_Building ?zx_Building ?zy_Building ?zx_get ?zx_tk ?za0 ?zl0 ?ze0 ?zk0 ?za1 ?zl1 ?ze1 ?zk1 ?za2 ?zl2 ?ze2 ?zk2 ?za3 ?zl3 ?ze3 ?zk3 ?za4 ?zl4 ?ze4 ?zk4 ?za5 ?zl5 ?ze5 ?zk5 ?za6 ?zi6 ?zl6 ?ze6 ?zk6 ?za7 ?zl7 ?ze7 ?zk7 ?za8 ?zl8 ?ze8 ?zk8 ?za9 ?zl9 ?ze9 ?zk9 ?za10 ?zl10 ?ze10 ?zk10 ?za11 ?zl11 ?ze11 ?zk11 ?za12 ?zl12 ?ze12 ?zk12 ?za13 ?zl13 ?ze13 ?zk13 ?za14 ?zl14 ?ze14 ?zk14 ?za15 ?zl15 ?ze15 ?zk15 ?za16 ?zl16 ?ze16 ?zk16 ?za17 ?zl17 ?ze17 ?zk17 ?za18 ?zi18 ?zl18 ?ze18 ?zk18 ?za19 ?zl19 ?ze19 ?zk19 ?za20 ?zl20 ?ze20 ?zk20 ?za21 ?zl21 ?ze21 ?zk21 ?za22 ?zl22 ?ze22 ?zk22 ?za23 ?zl23 ?ze23 ?zk23 ?za24 ?zl24 ?ze24 ?zk24 ?za25 ?zl25 ?ze25 ?zk25 ?za26 ?zl26 ?ze26 ?zk26 ?za27 ?zl27 ?ze27 ?zk27 ?za28 ?zl28 ?ze28 ?zk28 ?za29 ?zl29 ?ze29 ?zk29 ?za30 ?zl30 ?ze30 ?zk30 ?za31 ?zl31 ?ze31 ?zk31 B27.main
    (case zb_bool => k_is)
    (case zb_enumerate => k_is)
    (case zb_int => k_is)
    (case zb_isinstance => k_is)
    (case zb_len => k_is)
    (case zb_list => k_is)
    (case zb_range => k_is)
    (case zb_sorted => k_is)
    (case zb_sum => k_is)
    (case zb_tuple => k_is)
    (case zg_MOST_DUCTS => k_is)
    (case zg_MOST_ROOMS => k_is)
    (case zg_MOST_UNITS => k_is)
    (case zg_MOST_WIDTH => k_is)
    (case zc_Building => k_is)
    (case zp_Building => k_is)
    (case zd_Building => k_is)
    (case zo_Building => k_is)
    (case zs_Building => k_is)
    (case zn_Building_widths => k_is)
    (case zn_Building_ducts => k_is)
    (case zn_Building_rooms => k_is)
    (case zm_Building => k_is)
    (case zk_Building => k_is)
    (case zx_Building => k_is)
    (case zy_Building => k_is)
    (case zx_get => k_is)
    (case zx_tk => k_is)
    (case za0 => k_is)
    (case zl0 => k_is)
    (case ze0 => k_is)
    (case zk0 => k_is)
    (case za1 => k_is)
    (case zl1 => k_is)
    (case ze1 => k_is)
    (case zk1 => k_is)
    (case za2 => k_is)
    (case zl2 => k_is)
    (case ze2 => k_is)
    (case zk2 => k_is)
    (case za3 => k_is)
    (case zl3 => k_is)
    (case ze3 => k_is)
    (case zk3 => k_is)
    (case za4 => k_is)
    (case zl4 => k_is)
    (case ze4 => k_is)
    (case zk4 => k_is)
    (case za5 => k_is)
    (case zl5 => k_is)
    (case ze5 => k_is)
    (case zk5 => k_is)
    (case za6 => k_is)
    (case zi6 => k_is)
    (case zl6 => k_is)
    (case ze6 => k_is)
    (case zk6 => k_is)
    (case za7 => k_is)
    (case zl7 => k_is)
    (case ze7 => k_is)
    (case zk7 => k_is)
    (case za8 => k_is)
    (case zl8 => k_is)
    (case ze8 => k_is)
    (case zk8 => k_is)
    (case za9 => k_is)
    (case zl9 => k_is)
    (case ze9 => k_is)
    (case zk9 => k_is)
    (case za10 => k_is)
    (case zl10 => k_is)
    (case ze10 => k_is)
    (case zk10 => k_is)
    (case za11 => k_is)
    (case zl11 => k_is)
    (case ze11 => k_is)
    (case zk11 => k_is)
    (case za12 => k_is)
    (case zl12 => k_is)
    (case ze12 => k_is)
    (case zk12 => k_is)
    (case za13 => k_is)
    (case zl13 => k_is)
    (case ze13 => k_is)
    (case zk13 => k_is)
    (case za14 => k_is)
    (case zl14 => k_is)
    (case ze14 => k_is)
    (case zk14 => k_is)
    (case za15 => k_is)
    (case zl15 => k_is)
    (case ze15 => k_is)
    (case zk15 => k_is)
    (case za16 => k_is)
    (case zl16 => k_is)
    (case ze16 => k_is)
    (case zk16 => k_is)
    (case za17 => k_is)
    (case zl17 => k_is)
    (case ze17 => k_is)
    (case zk17 => k_is)
    (case za18 => k_is)
    (case zi18 => k_is)
    (case zl18 => k_is)
    (case ze18 => k_is)
    (case zk18 => k_is)
    (case za19 => k_is)
    (case zl19 => k_is)
    (case ze19 => k_is)
    (case zk19 => k_is)
    (case za20 => k_is)
    (case zl20 => k_is)
    (case ze20 => k_is)
    (case zk20 => k_is)
    (case za21 => k_is)
    (case zl21 => k_is)
    (case ze21 => k_is)
    (case zk21 => k_is)
    (case za22 => k_is)
    (case zl22 => k_is)
    (case ze22 => k_is)
    (case zk22 => k_is)
    (case za23 => k_is)
    (case zl23 => k_is)
    (case ze23 => k_is)
    (case zk23 => k_is)
    (case za24 => k_is)
    (case zl24 => k_is)
    (case ze24 => k_is)
    (case zk24 => k_is)
    (case za25 => k_is)
    (case zl25 => k_is)
    (case ze25 => k_is)
    (case zk25 => k_is)
    (case za26 => k_is)
    (case zl26 => k_is)
    (case ze26 => k_is)
    (case zk26 => k_is)
    (case za27 => k_is)
    (case zl27 => k_is)
    (case ze27 => k_is)
    (case zk27 => k_is)
    (case za28 => k_is)
    (case zl28 => k_is)
    (case ze28 => k_is)
    (case zk28 => k_is)
    (case za29 => k_is)
    (case zl29 => k_is)
    (case ze29 => k_is)
    (case zk29 => k_is)
    (case za30 => k_is)
    (case zl30 => k_is)
    (case ze30 => k_is)
    (case zk30 => k_is)
    (case za31 => k_is)
    (case zl31 => k_is)
    (case ze31 => k_is)
    (case zk31 => k_is)

