import PyProof.Rows.All
import Wide.All
import OpenK.AllK
import Wide.FinOn
import HandS.ForMost
import HandS.ForExc
import HandS.IsInst
import HandS.Wide
import HandS.TupAny
import HandS.Style
import HandS.TupMul
import HandS.TupLe
import HandS.Lambda
import HandS.RaiseMore
import HandS.Zip
import PyProof.ReprRoads
import KE.DatumIndex
import HandS.CallSlots
import PyProof.ReprLen
import PyProof.FitsInt
import PyProof.P3Eq
import HandS.ExcIs
import HandS.EndTab
import HandS.Deep
import KE.DataFind
import PySem.Challenge.RW_arrivalcurves_k56_runs
set_option Elab.async false
set_option linter.all false
set_option maxRecDepth 100000
set_option maxHeartbeats 4000000
/-! The data layer: values as pure data, mutable objects in a small store. -/
namespace Dl
open PySem PySem.Spec PyProof.Rows L2

/-- a value as data; ptr: an object that may change, or that is known by its place alone -/
inductive D where
  | non | bl (b : Bool) | int (i : Int) | str (x : Str) | ptr (a : Addr) | ty (n : String)
  | tup (ds : List D) | lst (ds : List D) | rl (ds : List D)

/-- what stands at a place that may change -/
inductive MO where
  | lst (ds : List D)
  | seq (ds : List D)
  | ins (C : Addr) (fs : List (Str × D))
  | dct (kvs : List (Key × D))
  | raw (o : HO)
  | tab (q : Str)
  | clo (q : Str) (c : Addr) (vs : List (Option V)) (ds : List (Option D))

abbrev Sto := Addr → Option MO
def up (m : Sto) (a : Addr) (o : MO) : Sto := fun b => if b = a then some o else m b
@[simp] theorem up_same {m : Sto} {a : Addr} {o : MO} : up m a o a = some o := if_pos rfl
theorem up_ne {m : Sto} {a b : Addr} {o : MO} (h : b ≠ a) : up m a o b = m b := if_neg h
@[simp] theorem up_up {m : Sto} {a : Addr} {o u : MO} : up (up m a o) a u = up m a u := by
  funext b
  by_cases h : b = a
  · rw [h, up_same, up_same]
  · rw [up_ne h, up_ne h, up_ne h]
theorem up_comm {m : Sto} {a b : Addr} {o u : MO} (h : a ≠ b) : up (up m a o) b u = up (up m b u) a o := by
  funext c
  by_cases h1 : c = a
  · have h2 : c ≠ b := fun e => h (h1.symm.trans e)
    rw [up_ne h2, h1, up_same, up_same]
  · by_cases h2 : c = b
    · rw [h2, up_same, up_ne (fun e => h e.symm), up_same]
    · rw [up_ne h2, up_ne h1, up_ne h1, up_ne h2]
def del (m : Sto) (a : Addr) : Sto := fun b => if b = a then none else m b
theorem del_same {m : Sto} {a : Addr} : del m a a = none := if_pos rfl
theorem del_ne {m : Sto} {a b : Addr} (h : b ≠ a) : del m a b = m b := if_neg h
theorem del_up {m : Sto} {a : Addr} {o : MO} (h : m a = none) : del (up m a o) a = m := by
  funext b
  by_cases e : b = a
  · rw [e, del_same, h]
  · rw [del_ne e, up_ne e]
theorem ne_some {m : Sto} {a b : Addr} {o u : MO} (h : m a = some o) (k : m b = some u) (d : o ≠ u) : a ≠ b := fun e => by
  subst e
  rw [h] at k
  exact d (Option.some.inj k)
theorem ne_free {m : Sto} {a b : Addr} {o : MO} (h : m a = some o) (k : m b = none) : a ≠ b := fun e => by
  subst e
  rw [h] at k
  cases k

/-! ### how data lie -/
mutual
/-- v is the value d: what is not a ptr lies where nothing changes -/
inductive Rp (K : PySem.W.Frag) (m : Sto) (H : Hp) : V → D → Prop
  | non : Rp K m H .non .non
  | bl (b : Bool) : Rp K m H (.bl b) (.bl b)
  | int (i : Int) : Rp K m H (.int i) (.int i)
  | str (x : Str) : Rp K m H (.str x) (.str x)
  | ty (n : String) : Rp K m H (.ty n) (.ty n)
  | ptr (a : Addr) : Rp K m H (.ref a) (.ptr a)
  | tup {a : Addr} {xs : List V} {ds : List D} : (m a = none ∧ Rd H a (.tup xs)) ∨ SqT K (fun _ => none) a xs → RpL K m H xs ds → Rp K m H (.ref a) (.tup ds)
  | lst {a : Addr} {xs : List V} {ds : List D} : m a = none → H a = some (.lst xs) → RpL K m H xs ds → Rp K m H (.ref a) (.lst ds)
  | rl {a : Addr} {xs : List V} {ds : List D} : (m a = none ∧ Rd H a (.lst xs)) ∨ SqL K (fun _ => none) a xs → RpL K m H xs ds → Rp K m H (.ref a) (.rl ds)
inductive RpL (K : PySem.W.Frag) (m : Sto) (H : Hp) : List V → List D → Prop
  | nil : RpL K m H [] []
  | cons {v : V} {vs : List V} {d : D} {ds : List D} : Rp K m H v d → RpL K m H vs ds → RpL K m H (v :: vs) (d :: ds)
end
/-- from (m, H) to (m', H'): what does not change is as it was -/
def Ext (m : Sto) (H : Hp) (m' : Sto) (H' : Hp) : Prop := ∀ b o, m b = none → H b = some o → m' b = none ∧ H' b = some o
theorem Ext.rfl {m : Sto} {H : Hp} : Ext m H m H := fun _ _ h k => ⟨h, k⟩
theorem Ext.trans {m m1 m2 : Sto} {H H1 H2 : Hp} (a : Ext m H m1 H1) (b : Ext m1 H1 m2 H2) : Ext m H m2 H2 := fun c o h k => b c o (a c o h k).1 (a c o h k).2
theorem Ext.rd {m m' : Sto} {H H' : Hp} {a : Addr} {u : HO} (e : Ext m H m' H') (h : m a = none) (r : Rd H a u) : m' a = none ∧ Rd H' a u := by
  rcases r with r | ⟨o, r⟩
  · exact ⟨(e a _ h r).1, .inl (e a _ h r).2⟩
  · exact ⟨(e a _ h r).1, .inr ⟨o, (e a _ h r).2⟩⟩
mutual
theorem Rp.ext {K : PySem.W.Frag} {m m' : Sto} {H H' : Hp} (e : Ext m H m' H') : ∀ {v : V} {d : D}, Rp K m H v d → Rp K m' H' v d
  | _, _, .non => .non
  | _, _, .bl b => .bl b
  | _, _, .int i => .int i
  | _, _, .str x => .str x
  | _, _, .ty n => .ty n
  | _, _, .ptr a => .ptr a
  | _, _, .tup h k => .tup (h.elim (fun z => .inl (e.rd z.1 z.2)) .inr) (RpL.ext e k)
  | _, _, .lst h1 h2 k => .lst (e _ _ h1 h2).1 (e _ _ h1 h2).2 (RpL.ext e k)
  | _, _, .rl h k => .rl (h.elim (fun z => .inl (e.rd z.1 z.2)) .inr) (RpL.ext e k)
theorem RpL.ext {K : PySem.W.Frag} {m m' : Sto} {H H' : Hp} (e : Ext m H m' H') : ∀ {vs : List V} {ds : List D}, RpL K m H vs ds → RpL K m' H' vs ds
  | _, _, .nil => .nil
  | _, _, .cons a b => .cons (Rp.ext e a) (RpL.ext e b)
end
section
variable {K : PySem.W.Frag} {m m' : Sto} {H H' : Hp}
theorem RpL.len : ∀ {vs : List V} {ds : List D}, RpL K m H vs ds → vs.length = ds.length
  | _, _, .nil => Eq.refl _
  | _, _, .cons _ b => congrArg Nat.succ (RpL.len b)
theorem RpL.get : ∀ {vs : List V} {ds : List D} {i : Nat} {d : D}, RpL K m H vs ds → ds[i]? = some d → ∃ v, vs[i]? = some v ∧ Rp K m H v d
  | _, _, _, _, .nil, h => by simp at h
  | _, _, 0, _, .cons a _, h => by
    cases h
    exact ⟨_, rfl, a⟩
  | _, _, i + 1, _, .cons _ b, h => RpL.get (i := i) b h
theorem RpL.getV : ∀ {vs : List V} {ds : List D} {i : Nat} {v : V}, RpL K m H vs ds → vs[i]? = some v → ∃ d, ds[i]? = some d ∧ Rp K m H v d
  | _, _, _, _, .nil, h => by simp at h
  | _, _, 0, _, .cons a _, h => by
    cases h
    exact ⟨_, rfl, a⟩
  | _, _, i + 1, _, .cons _ b, h => RpL.getV (i := i) b h
theorem RpL.app : ∀ {vs ws : List V} {ds es : List D}, RpL K m H vs ds → RpL K m H ws es → RpL K m H (vs ++ ws) (ds ++ es)
  | _, _, _, _, .nil, k => k
  | _, _, _, _, .cons a b, k => .cons a (RpL.app b k)
theorem RpL.set {v : V} {d : D} (r : Rp K m H v d) : ∀ {vs : List V} {ds : List D} (i : Nat), RpL K m H vs ds → RpL K m H (vs.set i v) (ds.set i d)
  | _, _, _, .nil => .nil
  | _, _, 0, .cons _ b => .cons r b
  | _, _, i + 1, .cons a b => .cons a (RpL.set r i b)
theorem RpL.take : ∀ {vs : List V} {ds : List D} (n : Nat), RpL K m H vs ds → RpL K m H (vs.take n) (ds.take n)
  | _, _, 0, _ => .nil
  | _, _, _ + 1, .nil => .nil
  | _, _, n + 1, .cons a b => .cons a (RpL.take n b)
theorem RpL.drop : ∀ {vs : List V} {ds : List D} (n : Nat), RpL K m H vs ds → RpL K m H (vs.drop n) (ds.drop n)
  | _, _, 0, r => r
  | _, _, _ + 1, .nil => .nil
  | _, _, n + 1, .cons _ b => RpL.drop n b
theorem RpL.rev : ∀ {vs : List V} {ds : List D}, RpL K m H vs ds → RpL K m H vs.reverse ds.reverse
  | _, _, .nil => .nil
  | _, _, .cons a b => by
    rw [List.reverse_cons, List.reverse_cons]
    exact RpL.app (RpL.rev b) (.cons a .nil)
theorem RpL.erase : ∀ {vs : List V} {ds : List D} (n : Nat), RpL K m H vs ds → RpL K m H (vs.eraseIdx n) (ds.eraseIdx n)
  | _, _, 0, .nil => .nil
  | _, _, 0, .cons _ b => b
  | _, _, _ + 1, .nil => .nil
  | _, _, n + 1, .cons a b => .cons a (RpL.erase n b)
theorem RpL.rep {vs : List V} {ds : List D} (r : RpL K m H vs ds) : ∀ n : Nat, RpL K m H (List.replicate n vs).flatten (List.replicate n ds).flatten
  | 0 => .nil
  | n + 1 => by
    rw [List.replicate_succ, List.replicate_succ, List.flatten_cons, List.flatten_cons]
    exact RpL.app r (RpL.rep r n)
theorem RpL.dropLast {vs : List V} {ds : List D} (r : RpL K m H vs ds) : RpL K m H vs.dropLast ds.dropLast := by
  rw [List.dropLast_eq_take, List.dropLast_eq_take, r.len]
  exact r.take _
theorem RpL.ints : ∀ ns : List Int, RpL K m H (ns.map V.int) (ns.map D.int)
  | [] => .nil
  | n :: r => .cons (.int n) (RpL.ints r)
theorem RpL.intsV : ∀ {vs : List V} {ns : List Int}, RpL K m H vs (ns.map D.int) → vs = ns.map V.int
  | _, [], .nil => rfl
  | _, n :: r, .cons a b => by
    cases a
    rw [RpL.intsV b]
    rfl
theorem RpL.blsV : ∀ {vs : List V} {ns : List Bool}, RpL K m H vs (ns.map D.bl) → vs = ns.map V.bl
  | _, [], .nil => rfl
  | _, n :: r, .cons a b => by
    cases a
    rw [RpL.blsV b]
    rfl
theorem RpL.strsV : ∀ {vs : List V} {ns : List Str}, RpL K m H vs (ns.map D.str) → vs = ns.map V.str
  | _, [], .nil => rfl
  | _, n :: r, .cons a b => by
    cases a
    rw [RpL.strsV b]
    rfl
theorem Rp.sqT {a : Addr} {ds : List D} (r : Rp K m H (.ref a) (.tup ds)) : ∃ xs, SqT K H a xs ∧ RpL K m H xs ds := by
  cases r with
  | tup h k =>
    rcases h with ⟨_, h⟩ | h
    · exact ⟨_, .inl h, k⟩
    · refine ⟨_, ?_, k⟩
      rcases h with (h | ⟨o, h⟩) | h
      · cases h
      · cases h
      · exact .inr h
theorem Rp.tupV {v : V} {ds : List D} (r : Rp K m H v (.tup ds)) : ∃ a xs, v = .ref a ∧ SqT K H a xs ∧ RpL K m H xs ds := by
  cases r with
  | tup h k =>
    obtain ⟨xs, h1, h2⟩ := Rp.sqT (.tup h k)
    exact ⟨_, xs, rfl, h1, h2⟩
theorem Rp.lstV {v : V} {ds : List D} (r : Rp K m H v (.lst ds)) : ∃ a xs, v = .ref a ∧ m a = none ∧ H a = some (.lst xs) ∧ RpL K m H xs ds := by
  cases r with
  | lst h1 h2 k => exact ⟨_, _, rfl, h1, h2, k⟩
end

theorem Rp.rlV {K : PySem.W.Frag} {m : Sto} {H : Hp} {v : V} {ds : List D} (r : Rp K m H v (.rl ds)) : ∃ a xs, v = .ref a ∧ SqL K H a xs ∧ RpL K m H xs ds := by
  cases r with
  | rl h k =>
    rcases h with ⟨_, h⟩ | h
    · exact ⟨_, _, rfl, .inl h, k⟩
    · refine ⟨_, _, rfl, ?_, k⟩
      rcases h with (h | ⟨o, h⟩) | h
      · cases h
      · cases h
      · exact .inr h
/-- fields, pairs by like keys -/
inductive RpF {A : Type} (K : PySem.W.Frag) (m : Sto) (H : Hp) : List (A × V) → List (A × D) → Prop
  | nil : RpF K m H [] []
  | cons {k : A} {v : V} {d : D} {vs : List (A × V)} {ds : List (A × D)} : Rp K m H v d → RpF K m H vs ds → RpF K m H ((k, v) :: vs) ((k, d) :: ds)
theorem RpF.ext {A : Type} {K : PySem.W.Frag} {m m' : Sto} {H H' : Hp} (e : Ext m H m' H') : ∀ {vs : List (A × V)} {ds : List (A × D)}, RpF K m H vs ds → RpF K m' H' vs ds
  | _, _, .nil => .nil
  | _, _, .cons a b => .cons (a.ext e) (RpF.ext e b)
def SlotsOk (K : PySem.W.Frag) (m : Sto) (H : Hp) (σ : L2.St) (δ : List (Option D)) : Prop :=
  σ.length = δ.length ∧ ∀ (i : Nat) (d : D), δ[i]? = some (some d) → ∃ v, σ[i]? = some (some v) ∧ Rp K m H v d
theorem SlotsOk.ext {K : PySem.W.Frag} {m m' : Sto} {H H' : Hp} {σ : L2.St} {δ : List (Option D)} (h : SlotsOk K m H σ δ) (e : Ext m H m' H') : SlotsOk K m' H' σ δ :=
  ⟨h.1, fun i d k => let ⟨v, a, b⟩ := h.2 i d k; ⟨v, a, b.ext e⟩⟩
theorem SlotsOk.set {K : PySem.W.Frag} {m : Sto} {H : Hp} {σ : L2.St} {δ : List (Option D)} (h : SlotsOk K m H σ δ) (i : Nat) {v : V} {d : D} (r : Rp K m H v d) : SlotsOk K m H (σ.set i (some v)) (δ.set i (some d)) := by
  refine ⟨by rw [List.length_set, List.length_set, h.1], fun j e k => ?_⟩
  by_cases hj : i = j
  · subst hj
    rw [List.getElem?_set] at k
    rw [if_pos rfl] at k
    split at k
    · rename_i hl
      cases k
      exact ⟨v, by rw [List.getElem?_set, if_pos rfl, if_pos (by rw [h.1]; exact hl)], r⟩
    · cases k
  · rw [List.getElem?_set_ne hj] at k
    obtain ⟨w, a, b⟩ := h.2 j e k
    exact ⟨w, by rw [List.getElem?_set_ne hj]; exact a, b⟩
/-- the table at a: what it tells are code objects of the name q -/
def TabOk (m : Sto) (H : Hp) (a : Addr) (q : Str) : Prop := ∃ ps : Array Value, H a = some (.tbl ps) ∧ TriplesOk ps.toList ∧ ∀ (pos : Pos) (cv : Value), codeAmong pos ps.toList = some cv → ∃ c, cv = .ref c ∧ m c = none ∧ H c = some (LamX.CodeO c q)
theorem TabOk.on {m m' : Sto} {H H' : Hp} {a : Addr} {q : Str} (g : TabOk m H a q) (ex : Ext m H m' H') (at_ : ∀ o, H a = some o → H' a = some o) : TabOk m' H' a q := by
  obtain ⟨ps, e, t, r⟩ := g
  refine ⟨ps, at_ _ e, t, fun pos cv hc => ?_⟩
  obtain ⟨c, z1, z2, z3⟩ := r pos cv hc
  exact ⟨c, z1, (ex c _ z2 z3).1, (ex c _ z2 z3).2⟩
def MoOk (K : PySem.W.Frag) (m : Sto) (H : Hp) (a : Addr) : MO → Prop
  | .lst ds => ∃ xs, H a = some (.lst xs) ∧ RpL K m H xs ds
  | .seq ds => ∃ xs, Rd H a (.lst xs) ∧ RpL K m H xs ds
  | .ins C fs => ∃ dx vs, H a = some (.ins C dx vs) ∧ RpF K m H vs fs
  | .dct kvs => ∃ vs, H a = some (.dK vs) ∧ RpF K m H vs kvs
  | .raw o => H a = some o
  | .tab q => TabOk m H a q
  | .clo q c vs ds => TabOk m H a q ∧ m c = none ∧ H c = some (LamX.CodeO c q) ∧ SlotsOk K m H vs ds
/-- where the object stays and what does not change stays -/
theorem MoOk.on {K : PySem.W.Frag} {m m' : Sto} {H H' : Hp} {a : Addr} {u : MO} (g : MoOk K m H a u) (ex : Ext m H m' H') (at_ : ∀ o, H a = some o → H' a = some o) : MoOk K m' H' a u := by
  cases u with
  | lst ds => obtain ⟨xs, e, r⟩ := g; exact ⟨xs, at_ _ e, r.ext ex⟩
  | seq ds => obtain ⟨xs, e, r⟩ := g; exact ⟨xs, e.elim (fun z => .inl (at_ _ z)) (fun ⟨o, z⟩ => .inr ⟨o, at_ _ z⟩), r.ext ex⟩
  | ins C fs => obtain ⟨dx, vs, e, r⟩ := g; exact ⟨dx, vs, at_ _ e, r.ext ex⟩
  | dct kvs => obtain ⟨vs, e, r⟩ := g; exact ⟨vs, at_ _ e, r.ext ex⟩
  | raw o => exact at_ _ g
  | tab q => exact TabOk.on g ex at_
  | clo q c vs ds => exact ⟨g.1.on ex at_, (ex c _ g.2.1 g.2.2.1).1, (ex c _ g.2.1 g.2.2.1).2, g.2.2.2.ext ex⟩
def StoOk (K : PySem.W.Frag) (m : Sto) (H : Hp) : Prop := ∀ a o, m a = some o → MoOk K m H a o
theorem MoOk.there {K : PySem.W.Frag} {m : Sto} {H : Hp} {a : Addr} {o : MO} (h : MoOk K m H a o) : H a ≠ none := by
  cases o with
  | lst ds => obtain ⟨_, e, _⟩ := h; rw [e]; simp
  | seq ds =>
    obtain ⟨_, e | ⟨o, e⟩, _⟩ := h
    · rw [e]; simp
    · rw [e]; simp
  | ins C fs => obtain ⟨_, _, e, _⟩ := h; rw [e]; simp
  | dct kvs => obtain ⟨_, e, _⟩ := h; rw [e]; simp
  | raw o => rw [show H a = some o from h]; simp
  | tab q => obtain ⟨ps, e, _⟩ := h; rw [e]; simp
  | clo q c vs ds => obtain ⟨⟨ps, e, _⟩, _⟩ := h; rw [e]; simp
theorem StoOk.free {K : PySem.W.Frag} {m : Sto} {H : Hp} (s : StoOk K m H) {p : Addr} (h : H p = none) : m p = none := by
  cases e : m p with
  | none => rfl
  | some o => exact absurd h (s p o e).there

/-- what is wanted of an exception: its class, its fields (where it has some), the store -/
abbrev DX := Addr → Option (List (Str × D)) → Sto → Prop
/-- the slots' data, and what is wanted of an exception at them -/
structure Ev where
  s : List (Option D)
  x : List (Option D) → DX := fun _ _ _ _ => False
def Ev.put (δ : Ev) (i : Nat) (d : D) : Ev := { δ with s := δ.s.set i (some d) }
abbrev XS := L2.St → XK
/-- an exception's own dict -/
def XRel (K : PySem.W.Frag) (m : Sto) (H : Hp) (fs : Option (List (Str × D))) (dd : Option Addr) : Prop := match fs, dd with
  | none, none => True
  | some l, some a => m a = none ∧ ∃ vs, H a = some (.xd vs) ∧ RpF K m H vs l
  | _, _ => False
def XOk (K : PySem.W.Frag) (Y : XS) (m : Sto) (H : Hp) (x : List (Option D) → DX) : Prop :=
  ∀ σ' s' C fs m' H' dd, x s' C fs m' → Ext m H m' H' → StoOk K m' H' → SlotsOk K m' H' σ' s' → XRel K m' H' fs dd → Y σ' (.ref C) dd H'
theorem XOk.on {K : PySem.W.Frag} {Y : XS} {m m' : Sto} {H H' : Hp} {x : List (Option D) → DX} (h : XOk K Y m H x) (e : Ext m H m' H') : XOk K Y m' H' x :=
  fun σ' s' C fs m2 H2 dd q ex => h σ' s' C fs m2 H2 dd q (e.trans ex)
def EnvOk (K : PySem.W.Frag) (Y : XS) (m : Sto) (H : Hp) (σ : L2.St) (δ : Ev) : Prop := SlotsOk K m H σ δ.s ∧ XOk K Y m H δ.x
theorem EnvOk.ext {K : PySem.W.Frag} {Y : XS} {m m' : Sto} {H H' : Hp} {σ : L2.St} {δ : Ev} (h : EnvOk K Y m H σ δ) (e : Ext m H m' H') : EnvOk K Y m' H' σ δ := ⟨h.1.ext e, h.2.on e⟩
theorem EnvOk.set {K : PySem.W.Frag} {Y : XS} {m : Sto} {H : Hp} {σ : L2.St} {δ : Ev} (h : EnvOk K Y m H σ δ) (i : Nat) {v : V} {d : D} (r : Rp K m H v d) : EnvOk K Y m H (σ.set i (some v)) (δ.put i d) := ⟨h.1.set i r, h.2⟩

/-! ### steps of the store -/
section
variable {K : PySem.W.Frag} {m : Sto} {H : Hp}
/-- a new object where nothing lay, not to change -/
theorem ext_new {p : Addr} {o : HO} (h : H p = none) : Ext m H m (L2.upd H p o) := fun b u k e => ⟨k, by rw [upd_ne (ne_of_none e h)]; exact e⟩
theorem sto_new {p : Addr} {o : HO} (s : StoOk K m H) (h : H p = none) : StoOk K m (L2.upd H p o) := fun a u k => by
  have ne : a ≠ p := fun e => by
    subst e
    exact (s a u k).there h
  have ex : Ext m H m (L2.upd H p o) := ext_new h
  exact (s a u k).on ex fun o e => by rw [upd_ne ne]; exact e
/-- the object at a, which may change, is another one now -/
theorem ext_put {a : Addr} {o : HO} {u u' : MO} (h : m a = some u) : Ext m H (up m a u') (L2.upd H a o) := fun b w k e => by
  have ne : b ≠ a := fun z => by
    subst z
    rw [h] at k
    cases k
  exact ⟨by rw [up_ne ne]; exact k, by rw [upd_ne ne]; exact e⟩
theorem sto_at {a : Addr} {o : HO} {u' : MO} (s : StoOk K m H) (ex : Ext m H (up m a u') (L2.upd H a o)) (k : MoOk K (up m a u') (L2.upd H a o) a u') : StoOk K (up m a u') (L2.upd H a o) := fun b w e => by
  by_cases ne : b = a
  · subst ne
    rw [up_same] at e
    cases e
    exact k
  · rw [up_ne ne] at e
    exact (s b w e).on ex fun o e => by rw [upd_ne ne]; exact e
/-- a new object that may change -/
theorem ext_add {p : Addr} {o : HO} {u : MO} (h : H p = none) : Ext m H (up m p u) (L2.upd H p o) := fun b w k e => by
  have ne : b ≠ p := ne_of_none e h
  exact ⟨by rw [up_ne ne]; exact k, by rw [upd_ne ne]; exact e⟩
/-- what may change stays so no longer -/
theorem ext_del {p : Addr} : Ext m H (del m p) H := fun b w k e => by
  refine ⟨?_, e⟩
  by_cases ne : b = p
  · rw [ne, del_same]
  · rw [del_ne ne]; exact k
theorem sto_del {p : Addr} (s : StoOk K m H) : StoOk K (del m p) H := fun b w e => by
  by_cases ne : b = p
  · rw [ne, del_same] at e
    cases e
  · rw [del_ne ne] at e
    exact (s b w e).on ext_del fun _ e => e
end

/-! ### readings over data -/
abbrev DE := Ev → Sto → (D → Sto → Prop) → Prop
abbrev DT := Ev → Sto → (Bool → Sto → Prop) → Prop
abbrev DA := Ev → Sto → (List D → Sto → Prop) → Prop
/-- what is wanted behind a value -/
def Aft (K : PySem.W.Frag) (m : Sto) (H : Hp) (R : D → Sto → Prop) (Q : VK) : Prop :=
  ∀ v H' d m', R d m' → Ext m H m' H' → StoOk K m' H' → Rp K m' H' v d → Q v H'
def lE (K : PySem.W.Frag) (Y : XS) (e : DE) : TE := fun σ H Q => ∃ δ m R, EnvOk K Y m H σ δ ∧ StoOk K m H ∧ e δ m R ∧ Aft K m H R Q
def lT (K : PySem.W.Frag) (Y : XS) (e : DT) : TT := fun σ H Q => ∃ δ m R, EnvOk K Y m H σ δ ∧ StoOk K m H ∧ e δ m R ∧
  ∀ b H' m', R b m' → Ext m H m' H' → StoOk K m' H' → Q b H'
def lA (K : PySem.W.Frag) (Y : XS) (e : DA) : TA := fun σ H Q => ∃ δ m R, EnvOk K Y m H σ δ ∧ StoOk K m H ∧ e δ m R ∧
  ∀ vs H' ds m', R ds m' → Ext m H m' H' → StoOk K m' H' → RpL K m' H' vs ds → Q vs H'
structure PD (X : Cx) (Y : XS) (e : Expr) (d : DE) : Prop where
  pe : PE X e (lE X.K Y d)
structure PDT (X : Cx) (Y : XS) (e : Expr) (d : DT) : Prop where
  pt : PT X e (lT X.K Y d)
structure PDW (X : Cx) (Y : XS) (e : Expr) (d : DT) : Prop where
  pw : PW X e (lT X.K Y d)
structure PDA (X : Cx) (Y : XS) (es : List Expr) (d : DA) : Prop where
  pa : PA X es (lA X.K Y d)
section
variable {X : Cx} {Y : XS} {e : Expr}
theorem pe_weak {t t' : TE} (h : PE X e t) (w : ∀ σ H Q, t' σ H Q → t σ H Q) : PE X e t' := ⟨fun pins s σ H Q I q => h.run pins s σ H Q I (w σ H Q q)⟩
theorem pt_weak {t t' : TT} (h : PT X e t) (w : ∀ σ H Q, t' σ H Q → t σ H Q) : PT X e t' := ⟨fun pins s σ H Q I q => h.run pins s σ H Q I (w σ H Q q)⟩
theorem pw_weak {t t' : TT} (h : PW X e t) (w : ∀ σ H Q, t' σ H Q → t σ H Q) : PW X e t' := ⟨fun wh pins s σ H Q I q => h.run wh pins s σ H Q I (w σ H Q q)⟩
theorem pa_weak {es : List Expr} {t t' : TA} (h : PA X es t) (w : ∀ σ H Q, t' σ H Q → t σ H Q) : PA X es t' := ⟨fun pos pins s σ H Q I q => h.run pos pins s σ H Q I (w σ H Q q)⟩
/-- one reading behind another -/
theorem lE_bind {K : PySem.W.Frag} {Y : XS} {a : DE} {σ : L2.St} {H : Hp} {Q : VK} {δ : Ev} {m : Sto} {R : D → Sto → Prop} (en : EnvOk K Y m H σ δ) (st : StoOk K m H) (h : a δ m R)
    (k : ∀ v H' d m', R d m' → Ext m H m' H' → EnvOk K Y m' H' σ δ → StoOk K m' H' → Rp K m' H' v d → Q v H') : lE K Y a σ H Q :=
  ⟨δ, m, R, en, st, h, fun v H' d m' r ex s rp => k v H' d m' r ex (en.ext ex) s rp⟩
theorem lA_bind {K : PySem.W.Frag} {Y : XS} {a : DA} {σ : L2.St} {H : Hp} {Q : List V → Hp → Prop} {δ : Ev} {m : Sto} {R : List D → Sto → Prop} (en : EnvOk K Y m H σ δ) (st : StoOk K m H) (h : a δ m R)
    (k : ∀ v H' d m', R d m' → Ext m H m' H' → EnvOk K Y m' H' σ δ → StoOk K m' H' → RpL K m' H' v d → Q v H') : lA K Y a σ H Q :=
  ⟨δ, m, R, en, st, h, fun v H' d m' r ex s rp => k v H' d m' r ex (en.ext ex) s rp⟩
theorem lT_bind {K : PySem.W.Frag} {Y : XS} {a : DT} {σ : L2.St} {H : Hp} {Q : Bool → Hp → Prop} {δ : Ev} {m : Sto} {R : Bool → Sto → Prop} (en : EnvOk K Y m H σ δ) (st : StoOk K m H) (h : a δ m R)
    (k : ∀ b H' m', R b m' → Ext m H m' H' → EnvOk K Y m' H' σ δ → StoOk K m' H' → Q b H') : lT K Y a σ H Q :=
  ⟨δ, m, R, en, st, h, fun b H' m' r ex s => k b H' m' r ex (en.ext ex) s⟩
end

/-! ### names and constants -/
def dVar (i : Nat) : DE := fun δ m R => match δ.s[i]? with
  | some (some d) => R d m
  | _ => False
def dC (d : D) : DE := fun _ m R => R d m
section
variable {X : Cx} {Y : XS}
theorem pd_v (i : Nat) {x : Str} {pos : Pos} (hN : X.N[i]? = some x := by rfl) (hv : Vis X.env.scope x := by first | exact Or.inl rfl | exact Or.inr (Or.inl rfl) | exact Or.inr (Or.inr rfl))
    (hd : (x == ("__debug__" : Str)) = false := by decide) (hcd : (x == ("__classdict__" : Str)) = false := by decide) : PD X Y (.Name x pos) (dVar i) :=
  ⟨pe_weak (pe_var hN hv hd hcd) fun σ H Q ⟨δ, m, R, en, st, h, k⟩ => by
    unfold dVar at h
    split at h
    · rename_i d e
      obtain ⟨v, e1, r⟩ := en.1.2 i d e
      exact ⟨v, e1, k v H d m h Ext.rfl st r⟩
    · exact h.elim⟩
/-- a constant value -/
theorem pd_c {e : Expr} {v : V} {d : D} (h : PE X e (tC v)) (r : ∀ m H, Rp X.K m H v d) : PD X Y e (dC d) :=
  ⟨pe_weak h fun σ H Q ⟨δ, m, R, en, st, h, k⟩ => k v H d m h Ext.rfl st (r m H)⟩
theorem pd_int {i j pos} : PD X Y (.Constant (.int i) j pos) (dC (.int i)) := pd_c pe_int fun _ _ => .int i
theorem pd_bl {b j pos} : PD X Y (.Constant (.bool b) j pos) (dC (.bl b)) := pd_c pe_bl fun _ _ => .bl b
theorem pd_non {j pos} : PD X Y (.Constant .none j pos) (dC .non) := pd_c pe_non fun _ _ => .non
theorem pd_str {x j pos} : PD X Y (.Constant (.str x) j pos) (dC (.str x)) := pd_c pe_str fun _ _ => .str x
/-- a module's constant -/
theorem pd_gint {x : Str} {i : Int} {pos : Pos} (hg : Gl X x) (hm : ∃ t, X.mg x = some (.int i t)) (hd : (x == ("__debug__" : Str)) = false := by decide) : PD X Y (.Name x pos) (dC (.int i)) := by
  obtain ⟨t, hm⟩ := hm
  exact pd_c (pe_glob (v := .int i) hg hm ⟨t, rfl⟩ hd) fun _ _ => .int i
theorem pd_gstr {x z : Str} {pos : Pos} (hg : Gl X x) (hm : ∃ t, X.mg x = some (.str z t)) (hd : (x == ("__debug__" : Str)) = false := by decide) : PD X Y (.Name x pos) (dC (.str z)) := by
  obtain ⟨t, hm⟩ := hm
  exact pd_c (pe_glob (v := .str z) hg hm ⟨t, rfl⟩ hd) fun _ _ => .str z
theorem pd_gref {x : Str} {a : Addr} {pos : Pos} (hg : Gl X x) (hm : X.mg x = some (.ref a)) (hd : (x == ("__debug__" : Str)) = false := by decide) : PD X Y (.Name x pos) (dC (.ptr a)) :=
  pd_c (pe_glob (v := .ref a) hg hm rfl hd) fun _ _ => .ptr a
theorem pd_ty {x : Str} {n : String} {pos : Pos} (hg : Gl X x) (hm : X.mg x = none) (hv : bootBuiltins x = some (.type n)) (hn : x ≠ "__name__" := by decide) (hd : (x == ("__debug__" : Str)) = false := by decide) : PD X Y (.Name x pos) (dC (.ty n)) :=
  pd_c (pe_bltn (v := .ty n) hg hm hv rfl hn hd) fun _ _ => .ty n

/-! ### argument lists, displays -/
def dNil : DA := fun _ m R => R [] m
def dCons (a : DE) (r : DA) : DA := fun δ m R => a δ m fun d m1 => r δ m1 fun ds m2 => R (d :: ds) m2
theorem pda_nil : PDA X Y [] dNil := ⟨pa_weak pa_nil fun σ H Q ⟨δ, m, R, en, st, h, k⟩ => k [] H [] m h Ext.rfl st .nil⟩
theorem pda_cons {e : Expr} {es : List Expr} {a : DE} {r : DA} (ha : PD X Y e a) (hr : PDA X Y es r) (hs : starEach (e :: es) X.env = (false, eval e X.env) :: starEach es X.env := by rfl) : PDA X Y (e :: es) (dCons a r) :=
  ⟨pa_weak (pa_cons ha.pe hr.pa hs) fun σ H Q ⟨δ, m, R, en, st, h, k⟩ =>
    lE_bind en st h fun v H1 d m1 r1 e1 en1 st1 rp1 => lA_bind en1 st1 r1 fun vs H2 ds m2 r2 e2 _ st2 rp2 =>
      k (v :: vs) H2 (d :: ds) m2 r2 (e1.trans e2) st2 (.cons (rp1.ext e2) rp2)⟩
/-- a new list: to change (b), or not -/
def newL (b : Bool) (ds : List D) (m : Sto) (R : D → Sto → Prop) : Prop := match b with
  | true => ∀ p, m p = none → R (.ptr p) (up m p (.lst ds))
  | false => R (.lst ds) m
theorem newL_ok {K : PySem.W.Frag} {b : Bool} {ds : List D} {m : Sto} {H : Hp} {R : D → Sto → Prop} {xs : List V} (h : newL b ds m R) (st : StoOk K m H) (r : RpL K m H xs ds) {p : Addr} (hp : H p = none) :
    ∃ d m', R d m' ∧ Ext m H m' (L2.upd H p (.lst xs)) ∧ StoOk K m' (L2.upd H p (.lst xs)) ∧ Rp K m' (L2.upd H p (.lst xs)) (.ref p) d := by
  cases b with
  | true =>
    have ex : Ext m H (up m p (.lst ds)) (L2.upd H p (.lst xs)) := ext_add hp
    exact ⟨.ptr p, up m p (.lst ds), h p (st.free hp), ex, sto_at st ex ⟨xs, upd_same, r.ext ex⟩, .ptr p⟩
  | false => exact ⟨.lst ds, m, h, ext_new hp, sto_new st hp, .lst (st.free hp) upd_same (r.ext (ext_new hp))⟩
def dLst (b : Bool) (t : DA) : DE := fun δ m R => t δ m fun ds m1 => ds.length ≤ sizeLine ∧ newL b ds m1 R
def dTup (t : DA) : DE := fun δ m R => t δ m fun ds m1 => ds.length ≤ sizeLine ∧ R (.tup ds) m1
theorem pd_lst (b : Bool) {es : List Expr} {t : DA} {pos : Pos} (h : PDA X Y es t) : PD X Y (.List es pos) (dLst b t) :=
  ⟨pe_weak (pe_lst h.pa) fun σ H Q ⟨δ, m, R, en, st, h, k⟩ => lA_bind en st h fun vs H1 ds m1 ⟨z, n⟩ e1 _ st1 rp => by
    refine ⟨by rw [rp.len]; exact z, fun p hp => ?_⟩
    obtain ⟨d, m', q1, q2, q3, q4⟩ := newL_ok n st1 rp hp
    exact k _ _ d m' q1 (e1.trans q2) q3 q4⟩
theorem pd_tup {es : List Expr} {t : DA} {j} {pos : Pos} (h : PDA X Y es t) : PD X Y (.Tuple es j pos) (dTup t) :=
  ⟨pe_weak (pe_tup h.pa) fun σ H Q ⟨δ, m, R, en, st, h, k⟩ => lA_bind en st h fun vs H1 ds m1 ⟨z, n⟩ e1 _ st1 rp => by
    refine ⟨by rw [rp.len]; exact z, fun p hp => ?_⟩
    have ex : Ext m1 H1 m1 (L2.upd H1 p (.tup vs)) := ext_new hp
    exact k _ _ (.tup ds) m1 n (e1.trans ex) (sto_new st1 hp) (.tup (.inl ⟨st1.free hp, .inl upd_same⟩) (rp.ext ex))⟩

/-! ### operators, by values -/
abbrev O2 := D → D → Sto → (D → Sto → Prop) → Prop
def lR2 (K : PySem.W.Frag) (g : O2) : R2 := fun x y H Q => ∃ m d e R, Rp K m H x d ∧ Rp K m H y e ∧ StoOk K m H ∧ g d e m R ∧ Aft K m H R Q
structure OpD (X : Cx) (f : Value → Value → Sem Value) (g : O2) : Prop where
  ok : OpR X f (lR2 X.K g)
theorem opr_weak {f : Value → Value → Sem Value} {r r' : R2} (h : OpR X f r) (w : ∀ x y H Q, r' x y H Q → r x y H Q) : OpR X f r' :=
  fun pins s σ H x y v u Q I r1 r2 q => h pins s σ H x y v u Q I r1 r2 (w x y H Q q)
def dOp (g : O2) (a b : DE) : DE := fun δ m R => a δ m fun d m1 => b δ m1 fun e m2 => g d e m2 R
theorem dOp_low {K : PySem.W.Frag} {Y : XS} {g : O2} {a b : DE} {σ : L2.St} {H : Hp} {Q : VK} (h : lE K Y (dOp g a b) σ H Q) : tOp (lR2 K g) (lE K Y a) (lE K Y b) σ H Q := by
  obtain ⟨δ, m, R, en, st, h, k⟩ := h
  exact lE_bind en st h fun v H1 d m1 r1 e1 en1 st1 rp1 => lE_bind en1 st1 r1 fun w H2 e m2 r2 e2 en2 st2 rp2 =>
    ⟨m2, d, e, R, rp1.ext e2, rp2, st2, r2, fun v' H' d' m' q ex s rp => k v' H' d' m' q ((e1.trans e2).trans ex) s rp⟩
theorem pd_op {op : Operator} {g : O2} {a b : Expr} {da db : DE} {pos : Pos} (ho : OpD X (binaryOp op) g) (ha : PD X Y a da) (hb : PD X Y b db) : PD X Y (.BinOp a op b pos) (dOp g da db) :=
  ⟨pe_weak (pe_op ho.ok ha.pe hb.pe) fun _ _ _ h => dOp_low h⟩
theorem pd_cmp {op : CmpOp} {g : O2} {a b : Expr} {da db : DE} {pos : Pos} (ho : OpD X (compareOp op) g) (ha : PD X Y a da) (hb : PD X Y b db) (hm : behindInMarks op b = false) : PD X Y (.Compare a [op] [b] pos) (dOp g da db) :=
  ⟨pe_weak (pe_cmpR ho.ok ha.pe hb.pe hm) fun _ _ _ h => dOp_low h⟩
/-- a value as a test -/
def dB (e : DE) : DT := fun δ m R => e δ m fun d m1 => match d with
  | .bl b => R b m1
  | _ => False
theorem dB_low {K : PySem.W.Frag} {Y : XS} {e : DE} {σ : L2.St} {H : Hp} {Q : Bool → Hp → Prop} (h : lT K Y (dB e) σ H Q) : lE K Y e σ H fun x H' => ∃ k, x = .bl k ∧ Q k H' := by
  obtain ⟨δ, m, R, en, st, h, k⟩ := h
  refine lE_bind en st h fun v H1 d m1 r1 e1 en1 st1 rp1 => ?_
  cases d with
  | bl b =>
    cases rp1
    exact ⟨b, rfl, k b H1 m1 r1 e1 st1⟩
  | _ => exact r1.elim
theorem pdt_cmp {op : CmpOp} {g : O2} {a b : Expr} {da db : DE} {pos : Pos} (ho : OpD X (compareOp op) g) (ha : PD X Y a da) (hb : PD X Y b db) (hm : behindInMarks op b = false) : PDT X Y (.Compare a [op] [b] pos) (dB (dOp g da db)) :=
  ⟨pt_weak (pt_cmpR ho.ok ha.pe hb.pe hm) fun σ H Q h => dOp_low (g := g) (by
    obtain ⟨δ, m, R, en, st, h, k⟩ := dB_low h
    exact ⟨δ, m, R, en, st, h, k⟩)⟩
theorem pdt_val {e : Expr} {t : DE} (h : PD X Y e t) (he : ∀ whole, isTrue e X.env whole = (do let v ← whole; standAt e.pos; holding [v] (truthy v)) := by intro _; rfl) : PDT X Y e (dB t) :=
  ⟨pt_weak (pt_val h.pe he) fun σ H Q h => dB_low h⟩
end
end Dl

/-! The data layer: operations by values. -/
namespace Dl
open PySem PySem.Spec PyProof.Rows L2

/-! ### sequences as data -/
def seqMO : MO → Option (List D)
  | .lst ds => some ds
  | .seq ds => some ds
  | _ => none
/-- d is a list (xs its items) -/
def LstIs (m : Sto) (d : D) (xs : List D) : Prop := match d with
  | .lst ys => ys = xs
  | .ptr a => m a = some (.lst xs)
  | _ => False
/-- d is a list or a tuple, or a list that is only read -/
def SeqIs (m : Sto) (d : D) (xs : List D) : Prop := match d with
  | .lst ys => ys = xs
  | .tup ys => ys = xs
  | .rl ys => ys = xs
  | .ptr a => ∃ o, m a = some o ∧ seqMO o = some xs
  | _ => False
section
variable {K : PySem.W.Frag} {m : Sto} {H : Hp} {v : V} {d : D} {xs : List D}
theorem LstIs.low (h : LstIs m d xs) (r : Rp K m H v d) (st : StoOk K m H) : ∃ a vs, v = .ref a ∧ H a = some (.lst vs) ∧ RpL K m H vs xs := by
  cases r with
  | lst h1 h2 k =>
    cases h
    exact ⟨_, _, rfl, h2, k⟩
  | ptr a =>
    obtain ⟨vs, e, r⟩ := st a _ h
    exact ⟨a, vs, rfl, e, r⟩
  | _ => exact h.elim
theorem SeqIs.low (h : SeqIs m d xs) (r : Rp K m H v d) (st : StoOk K m H) : ∃ a vs, v = .ref a ∧ (SqL K H a vs ∨ SqT K H a vs) ∧ RpL K m H vs xs := by
  cases r with
  | lst h1 h2 k =>
    cases h
    exact ⟨_, _, rfl, .inl (SqL.of h2), k⟩
  | tup h1 k =>
    cases h
    obtain ⟨xs, a, b⟩ := Rp.sqT (.tup h1 k)
    exact ⟨_, xs, rfl, .inr a, b⟩
  | rl h1 k =>
    cases h
    obtain ⟨a, xs, e, a1, b⟩ := Rp.rlV (.rl h1 k)
    exact ⟨a, xs, e, .inl a1, b⟩
  | ptr a =>
    obtain ⟨o, e, q⟩ := h
    have g := st a o e
    cases o with
    | lst ds =>
      cases q
      obtain ⟨vs, e, r⟩ := g
      exact ⟨a, vs, rfl, .inl (SqL.of e), r⟩
    | seq ds =>
      cases q
      obtain ⟨vs, e, r⟩ := g
      exact ⟨a, vs, rfl, .inl (.inl e), r⟩
    | _ => cases q
  | _ => exact h.elim
end
theorem RpL.atI {K : PySem.W.Frag} {m : Sto} {H : Hp} {vs : List V} {ds : List D} {k : Int} {d : D} (r : RpL K m H vs ds) (h : L2.atI ds k = some d) : ∃ v, L2.atI vs k = some v ∧ Rp K m H v d := by
  unfold L2.atI at h ⊢
  rw [r.len]
  cases e : L2.ixN ds.length k with
  | none => rw [e] at h; cases h
  | some j =>
    rw [e] at h
    exact r.get h
def cut {A : Type} (xs : List A) (lo hi : Option Int) : List A := (xs.drop (HT.sIx xs.length 0 lo)).take (HT.sIx xs.length xs.length hi - HT.sIx xs.length 0 lo)
theorem RpL.cut {K : PySem.W.Frag} {m : Sto} {H : Hp} {vs : List V} {ds : List D} (r : RpL K m H vs ds) (lo hi : Option Int) : RpL K m H (cutV vs lo hi) (Dl.cut ds lo hi) := by
  unfold cutV Dl.cut
  rw [r.len]
  exact (r.drop _).take _

/-! ### plain data behind data -/
mutual
inductive Pv (m : Sto) : D → PyData → Prop
  | non : Pv m .non .none
  | bl (b : Bool) : Pv m (.bl b) (.bool b)
  | int (i : Int) : Pv m (.int i) (.int i)
  | str (x : Str) : Pv m (.str x) (.str x)
  | lst {ds : List D} {ps : List PyData} : PvL m ds ps → Pv m (.lst ds) (.list ps)
  | tup {ds : List D} {ps : List PyData} : PvL m ds ps → Pv m (.tup ds) (.tuple ps)
  | ptr {a : Addr} {o : MO} {ds : List D} {ps : List PyData} : m a = some o → seqMO o = some ds → PvL m ds ps → Pv m (.ptr a) (.list ps)
inductive PvL (m : Sto) : List D → List PyData → Prop
  | nil : PvL m [] []
  | cons {d : D} {ds : List D} {p : PyData} {ps : List PyData} : Pv m d p → PvL m ds ps → PvL m (d :: ds) (p :: ps)
end
theorem PvL.ints {m : Sto} : ∀ ns : List Int, PvL m (ns.map D.int) (ns.map PyData.int)
  | [] => .nil
  | n :: r => .cons (.int n) (PvL.ints r)
section
variable {K : PySem.W.Frag} {m : Sto} {H : Hp}
mutual
theorem Pv.dp (st : StoOk K m H) : ∀ {d : D} {p : PyData} {v : V}, Pv m d p → Rp K m H v d → Dp K H v p
  | _, _, _, .non, r => by cases r; exact .non
  | _, _, _, .bl b, r => by cases r; exact .bl b
  | _, _, _, .int b, r => by cases r; exact .int b
  | _, _, _, .str b, r => by cases r; exact .str b
  | _, _, _, .lst k, r => by
    cases r with
    | lst h1 h2 q => exact .lst (SqL.of h2) (PvL.dp st k q)
  | _, _, _, .tup k, r => by
    obtain ⟨a, xs, rfl, h1, h2⟩ := r.tupV
    exact .tup h1 (PvL.dp st k h2)
  | _, _, _, .ptr (o := o) h1 h2 k, r => by
    cases r
    have g := st _ _ h1
    cases o with
    | lst ds =>
      cases h2
      obtain ⟨vs, e, r⟩ := g
      exact .lst (SqL.of e) (PvL.dp st k r)
    | seq ds =>
      cases h2
      obtain ⟨vs, e, r⟩ := g
      exact .lst (.inl e) (PvL.dp st k r)
    | _ => cases h2
theorem PvL.dp (st : StoOk K m H) : ∀ {ds : List D} {ps : List PyData} {vs : List V}, PvL m ds ps → RpL K m H vs ds → DpAll K H vs ps
  | _, _, _, .nil, r => by cases r; exact .nil
  | _, _, _, .cons a b, r => by
    cases r with
    | cons r1 r2 => exact .cons (Pv.dp st a r1) (PvL.dp st b r2)
end
end

/-! ### operators -/
def MulOk (i j : Int) : Prop := CMul i j ∨ CMulW i j
theorem MulOk.small {i j : Int} (h1 : -(2 ^ 64) < j) (h2 : j < 2 ^ 64) : MulOk i j := .inl (.inr ⟨h1, h2⟩)
theorem MulOk.smallL {i j : Int} (h1 : -(2 ^ 64) < i) (h2 : i < 2 ^ 64) : MulOk i j := .inl (.inl ⟨h1, h2⟩)
def addD (b : Bool) : O2 := fun d e m R => match d, e with
  | .int i, .int j => R (.int (i + j)) m
  | .str x, .str y => x.length + y.length ≤ sizeLine ∧ R (.str (x ++ y)) m
  | .tup xs, .tup ys => xs.length + ys.length ≤ sizeLine ∧ R (.tup (xs ++ ys)) m
  | d, e => ∃ xs ys, LstIs m d xs ∧ LstIs m e ys ∧ xs.length + ys.length ≤ sizeLine ∧ newL b (xs ++ ys) m R
def subD : O2 := fun d e m R => match d, e with
  | .int i, .int j => R (.int (i - j)) m
  | _, _ => False
def mulD (b : Bool) : O2 := fun d e m R => match d, e with
  | .int i, .int j => MulOk i j ∧ R (.int (i * j)) m
  | .tup xs, .int k => xs ≠ [] ∧ 2 ≤ k ∧ k ≤ 1000 ∧ xs.length ≤ 1000 ∧ R (.tup (List.replicate k.toNat xs).flatten) m
  | d, .int k => ∃ xs, LstIs m d xs ∧ -(2 ^ 63) ≤ k ∧ k < 2 ^ 63 ∧ xs.length * k.toNat ≤ sizeLine ∧ newL b (List.replicate k.toNat xs).flatten m R
  | _, _ => False
def divD : O2 := fun d e m R => match d, e with
  | .int i, .int j => CDivW i j ∧ R (.int (i / j)) m
  | _, _ => False
def modD : O2 := fun d e m R => match d, e with
  | .int i, .int j => 0 < j ∧ R (.int (i % j)) m
  | _, _ => False
def powD : O2 := fun d e m R => match d, e with
  | .int i, .int j => CPow i j ∧ R (.int (i ^ j.toNat)) m
  | _, _ => False
theorem CDivW.small {i j : Int} (h : 0 < j) (k : j < 2 ^ 64) : CDivW i j := wide_div h (b := 64) (by omega) (by decide) (by decide)
section
variable {X : Cx} {Y : XS}
theorem od_sub : OpD X (binaryOp .Sub) subD := ⟨opr_weak op_sub fun x y H Q ⟨m, d, e, R, r1, r2, st, h, k⟩ => by
  unfold subD at h
  split at h
  · cases r1
    cases r2
    exact ⟨_, _, rfl, rfl, k _ _ _ _ h Ext.rfl st (.int _)⟩
  · exact h.elim⟩
theorem od_div : OpD X (binaryOp .FloorDiv) divD := ⟨opr_weak op_fdivW fun x y H Q ⟨m, d, e, R, r1, r2, st, h, k⟩ => by
  unfold divD at h
  split at h
  · cases r1
    cases r2
    exact ⟨_, _, rfl, rfl, h.1, k _ _ _ _ h.2 Ext.rfl st (.int _)⟩
  · exact h.elim⟩
theorem od_mod : OpD X (binaryOp .Mod) modD := ⟨opr_weak op_mod fun x y H Q ⟨m, d, e, R, r1, r2, st, h, k⟩ => by
  unfold modD at h
  split at h
  · cases r1
    cases r2
    exact ⟨_, _, rfl, rfl, h.1, k _ _ _ _ h.2 Ext.rfl st (.int _)⟩
  · exact h.elim⟩
theorem od_pow : OpD X (binaryOp .Pow) powD := ⟨opr_weak op_pow fun x y H Q ⟨m, d, e, R, r1, r2, st, h, k⟩ => by
  unfold powD at h
  split at h
  · cases r1
    cases r2
    exact ⟨_, _, rfl, rfl, h.1, k _ _ _ _ h.2 Ext.rfl st (.int _)⟩
  · exact h.elim⟩
theorem od_mul (b : Bool) : OpD X (binaryOp .Mult) (mulD b) := ⟨opr_weak (OpR.or (OpR.or op_mul op_mulW) (OpR.or op_repT op_rep)) fun x y H Q ⟨m, d, e, R, r1, r2, st, h, k⟩ => by
  unfold mulD at h
  split at h
  · cases r1
    cases r2
    rcases h.1 with z | z
    · exact .inl (.inl ⟨_, _, rfl, rfl, z, k _ _ _ _ h.2 Ext.rfl st (.int _)⟩)
    · exact .inl (.inr ⟨_, _, rfl, rfl, z, k _ _ _ _ h.2 Ext.rfl st (.int _)⟩)
  · cases r2
    obtain ⟨a, vs, rfl, q, rl⟩ := r1.tupV
    obtain ⟨h1, h2, h3, h4, h5⟩ := h
    refine .inr (.inl ⟨a, _, vs, rfl, rfl, q, fun z => ?_, h2, h3, by rw [rl.len]; exact h4, fun p hp => ?_⟩)
    · subst z
      cases rl
      exact h1 rfl
    · exact k _ _ _ _ h5 (ext_new hp) (sto_new st hp) (.tup (.inl ⟨st.free hp, .inl upd_same⟩) ((rl.ext (ext_new hp)).rep _))
  · cases r2
    obtain ⟨xs, h1, h2, h3, h4, h5⟩ := h
    obtain ⟨a, vs, rfl, e, rl⟩ := h1.low r1 st
    refine .inr (.inr ⟨a, _, vs, rfl, rfl, e, h2, h3, by rw [rl.len]; exact h4, fun p hp => ?_⟩)
    obtain ⟨d, m', q1, q2, q3, q4⟩ := newL_ok h5 st (rl.rep _) hp
    exact k _ _ d m' q1 q2 q3 q4
  · exact h.elim⟩
theorem od_add (b : Bool) : OpD X (binaryOp .Add) (addD b) := ⟨opr_weak (OpR.or (OpR.or op_add op_add_str) (OpR.or op_catA op_cat)) fun x y H Q ⟨m, d, e, R, r1, r2, st, h, k⟩ => by
  unfold addD at h
  split at h
  · cases r1
    cases r2
    exact .inl (.inl ⟨_, _, rfl, rfl, k _ _ _ _ h Ext.rfl st (.int _)⟩)
  · cases r1
    cases r2
    exact .inl (.inr ⟨_, _, rfl, rfl, h.1, k _ _ _ _ h.2 Ext.rfl st (.str _)⟩)
  · obtain ⟨a, vs, rfl, q, rl⟩ := id r1.tupV
    obtain ⟨b, ws, rfl, q', rl'⟩ := id r2.tupV
    refine .inr (.inl ⟨a, b, vs, ws, rfl, rfl, q, q', by rw [rl.len, rl'.len]; exact h.1, fun z => ?_, fun z z' => ?_, fun z z' p hp => ?_⟩)
    · subst z
      cases rl
      exact k _ _ _ _ h.2 Ext.rfl st r2
    · subst z'
      cases rl'
      refine k _ _ _ _ h.2 Ext.rfl st ?_
      rw [List.append_nil]
      exact r1
    · exact k _ _ _ _ h.2 (ext_new hp) (sto_new st hp) (.tup (.inl ⟨st.free hp, .inl upd_same⟩) ((rl.ext (ext_new hp)).app (rl'.ext (ext_new hp))))
  · obtain ⟨xs, ys, h1, h2, h3, h4⟩ := h
    obtain ⟨a, vs, rfl, e, rl⟩ := h1.low r1 st
    obtain ⟨a', vs', rfl, e', rl'⟩ := h2.low r2 st
    refine .inr (.inr ⟨a, a', vs, vs', rfl, rfl, e, e', by rw [rl.len, rl'.len]; exact h3, fun p hp => ?_⟩)
    obtain ⟨d, m', q1, q2, q3, q4⟩ := newL_ok h4 st (rl.app rl') hp
    exact k _ _ d m' q1 q2 q3 q4⟩
/-- -i -/
def dNeg (a : DE) : DE := fun δ m R => a δ m fun d m1 => match d with
  | .int i => R (.int (-i)) m1
  | _ => False
theorem pd_neg {a : Expr} {da : DE} {pos : Pos} (ha : PD X Y a da) : PD X Y (.UnaryOp .USub a pos) (dNeg da) :=
  ⟨pe_weak (pe_un un_neg ha.pe) fun σ H Q ⟨δ, m, R, en, st, h, k⟩ => lE_bind en st h fun v H1 d m1 r1 e1 en1 st1 rp1 => by
    cases d with
    | int i =>
      cases rp1
      exact ⟨i, rfl, k _ _ _ _ r1 e1 st1 (.int _)⟩
    | _ => exact r1.elim⟩

/-! ### comparisons -/
def cmpD (p : Int → Int → Bool) (s : Str → Str → Bool) : O2 := fun d e m R => match d, e with
  | .int i, .int j => R (.bl (p i j)) m
  | .str i, .str j => R (.bl (s i j)) m
  | _, _ => False
abbrev ltD : O2 := cmpD (fun i j => decide (i < j)) fun i j => decide (i.cps.toList < j.cps.toList)
abbrev leD : O2 := cmpD (fun i j => decide (i ≤ j)) fun i j => !decide (j.cps.toList < i.cps.toList)
def gtD : O2 := fun d e m R => match d, e with
  | .int i, .int j => R (.bl (decide (j < i))) m
  | _, _ => False
def geD : O2 := fun d e m R => match d, e with
  | .int i, .int j => R (.bl (decide (j ≤ i))) m
  | _, _ => False
theorem od_lt : OpD X (compareOp .Lt) ltD := ⟨opr_weak (OpR.or op_lt op_lt_str) fun x y H Q ⟨m, d, e, R, r1, r2, st, h, k⟩ => by
  unfold ltD cmpD at h
  split at h
  · cases r1
    cases r2
    exact .inl ⟨_, _, rfl, rfl, k _ _ _ _ h Ext.rfl st (.bl _)⟩
  · cases r1
    cases r2
    exact .inr ⟨_, _, rfl, rfl, k _ _ _ _ h Ext.rfl st (.bl _)⟩
  · exact h.elim⟩
theorem od_le : OpD X (compareOp .LtE) leD := ⟨opr_weak (OpR.or op_le op_le_str) fun x y H Q ⟨m, d, e, R, r1, r2, st, h, k⟩ => by
  unfold leD cmpD at h
  split at h
  · cases r1
    cases r2
    exact .inl ⟨_, _, rfl, rfl, k _ _ _ _ h Ext.rfl st (.bl _)⟩
  · cases r1
    cases r2
    exact .inr ⟨_, _, rfl, rfl, k _ _ _ _ h Ext.rfl st (.bl _)⟩
  · exact h.elim⟩
theorem od_gt : OpD X (compareOp .Gt) gtD := ⟨opr_weak op_gt fun x y H Q ⟨m, d, e, R, r1, r2, st, h, k⟩ => by
  unfold gtD at h
  split at h
  · cases r1
    cases r2
    exact ⟨_, _, rfl, rfl, k _ _ _ _ h Ext.rfl st (.bl _)⟩
  · exact h.elim⟩
theorem od_ge : OpD X (compareOp .GtE) geD := ⟨opr_weak op_ge fun x y H Q ⟨m, d, e, R, r1, r2, st, h, k⟩ => by
  unfold geD at h
  split at h
  · cases r1
    cases r2
    exact ⟨_, _, rfl, rfl, k _ _ _ _ h Ext.rfl st (.bl _)⟩
  · exact h.elim⟩
def eqD : O2 := fun d e m R => match d, e with
  | .int i, .int j => R (.bl (decide (i = j))) m
  | .str i, .str j => R (.bl (decide (i = j))) m
  | .bl i, .bl j => R (.bl (decide (i = j))) m
  | d, e => ∃ p q, Pv m d p ∧ Pv m e q ∧ SeqAt.shaped p = true ∧ SeqAt.shaped q = true ∧ R (.bl (PyData.eqv p q)) m
def neD : O2 := fun d e m R => match d, e with
  | .int i, .int j => R (.bl (!decide (i = j))) m
  | .str i, .str j => R (.bl (!decide (i = j))) m
  | .bl i, .bl j => R (.bl (!decide (i = j))) m
  | d, e => ∃ p q, Pv m d p ∧ Pv m e q ∧ SeqAt.shaped p = true ∧ SeqAt.shaped q = true ∧ R (.bl (!PyData.eqv p q)) m
theorem od_eq (hu : X.A.units + 64 < cLine) : OpD X (compareOp .Eq) eqD := ⟨opr_weak (OpR.or op_eq (op_eqD hu)) fun x y H Q ⟨m, d, e, R, r1, r2, st, h, k⟩ => by
  unfold eqD at h
  split at h
  · cases r1
    cases r2
    refine .inl ⟨rfl, k _ _ _ _ h Ext.rfl st ?_⟩
    rw [show decide (V.int _ = V.int _) = decide (_ = _) from decide_eq_decide.mpr ⟨fun e => V.int.inj e, fun e => congrArg V.int e⟩]
    exact .bl _
  · cases r1
    cases r2
    refine .inl ⟨rfl, k _ _ _ _ h Ext.rfl st ?_⟩
    rw [show decide (V.str _ = V.str _) = decide (_ = _) from decide_eq_decide.mpr ⟨fun e => V.str.inj e, fun e => congrArg V.str e⟩]
    exact .bl _
  · cases r1
    cases r2
    refine .inl ⟨rfl, k _ _ _ _ h Ext.rfl st ?_⟩
    rw [show decide (V.bl _ = V.bl _) = decide (_ = _) from decide_eq_decide.mpr ⟨fun e => V.bl.inj e, fun e => congrArg V.bl e⟩]
    exact .bl _
  · obtain ⟨p, q, h1, h2, h3, h4, h5⟩ := h
    exact .inr ⟨p, q, h1.dp st r1, h2.dp st r2, h3, h4, k _ _ _ _ h5 Ext.rfl st (.bl _)⟩⟩
theorem od_ne (hu : X.A.units + 64 < cLine) : OpD X (compareOp .NotEq) neD := ⟨opr_weak (OpR.or op_ne (op_neD hu)) fun x y H Q ⟨m, d, e, R, r1, r2, st, h, k⟩ => by
  unfold neD at h
  split at h
  · cases r1
    cases r2
    refine .inl ⟨rfl, k _ _ _ _ h Ext.rfl st ?_⟩
    rw [show decide (V.int _ = V.int _) = decide (_ = _) from decide_eq_decide.mpr ⟨fun e => V.int.inj e, fun e => congrArg V.int e⟩]
    exact .bl _
  · cases r1
    cases r2
    refine .inl ⟨rfl, k _ _ _ _ h Ext.rfl st ?_⟩
    rw [show decide (V.str _ = V.str _) = decide (_ = _) from decide_eq_decide.mpr ⟨fun e => V.str.inj e, fun e => congrArg V.str e⟩]
    exact .bl _
  · cases r1
    cases r2
    refine .inl ⟨rfl, k _ _ _ _ h Ext.rfl st ?_⟩
    rw [show decide (V.bl _ = V.bl _) = decide (_ = _) from decide_eq_decide.mpr ⟨fun e => V.bl.inj e, fun e => congrArg V.bl e⟩]
    exact .bl _
  · obtain ⟨p, q, h1, h2, h3, h4, h5⟩ := h
    exact .inr ⟨p, q, h1.dp st r1, h2.dp st r2, h3, h4, k _ _ _ _ h5 Ext.rfl st (.bl _)⟩⟩
/-- is None, is True -/
def isNonD : D → Bool
  | .non => true
  | _ => false
def isD : O2 := fun d e m R => match d, e with
  | .bl a, .bl b => R (.bl (decide (a = b))) m
  | d, .non => R (.bl (isNonD d)) m
  | _, _ => False
def isntD : O2 := fun d e m R => match d, e with
  | .bl a, .bl b => R (.bl (!decide (a = b))) m
  | d, .non => R (.bl (!isNonD d)) m
  | _, _ => False
theorem isNon_rp {K : PySem.W.Frag} {m : Sto} {H : Hp} {v : V} {d : D} (r : Rp K m H v d) : decide (v = .non) = isNonD d := by
  cases r <;> rfl
theorem od_is : OpD X (compareOp .Is) isD := ⟨opr_weak (OpR.or op_is_bl op_isN) fun x y H Q ⟨m, d, e, R, r1, r2, st, h, k⟩ => by
  unfold isD at h
  split at h
  · cases r1
    cases r2
    exact .inl ⟨_, _, rfl, rfl, k _ _ _ _ h Ext.rfl st (.bl _)⟩
  · cases r2
    refine .inr ⟨rfl, k _ _ _ _ h Ext.rfl st ?_⟩
    rw [isNon_rp r1]
    exact .bl _
  · exact h.elim⟩
theorem od_isnt : OpD X (compareOp .IsNot) isntD := ⟨opr_weak (OpR.or op_isnot_bl op_notN) fun x y H Q ⟨m, d, e, R, r1, r2, st, h, k⟩ => by
  unfold isntD at h
  split at h
  · cases r1
    cases r2
    exact .inl ⟨_, _, rfl, rfl, k _ _ _ _ h Ext.rfl st (.bl _)⟩
  · cases r2
    refine .inr ⟨rfl, k _ _ _ _ h Ext.rfl st ?_⟩
    rw [isNon_rp r1]
    exact .bl _
  · exact h.elim⟩

/-! ### and, or, not -/
def dAnd (t u : DT) : DT := fun δ m R => t δ m fun c m1 => (c = true → u δ m1 R) ∧ (c = false → R false m1)
def dOr (t u : DT) : DT := fun δ m R => t δ m fun c m1 => (c = true → R true m1) ∧ (c = false → u δ m1 R)
def dNot (t : DT) : DT := fun δ m R => t δ m fun c m1 => R (!c) m1
variable {a b : Expr} {rest : List Expr} {pos : Pos} {tA tB : DT}
theorem pdw_and1 (ha : PDT X Y a tA) : PDW X Y (.BoolOp .And [a] pos) tA := ⟨pw_and1 ha.pt⟩
theorem pdw_or1 (ha : PDT X Y a tA) : PDW X Y (.BoolOp .Or [a] pos) tA := ⟨pw_or1 ha.pt⟩
theorem pdw_and (ha : PDT X Y a tA) (hb : PDW X Y (.BoolOp .And (b :: rest) pos) tB) : PDW X Y (.BoolOp .And (a :: b :: rest) pos) (dAnd tA tB) :=
  ⟨pw_weak (pw_and ha.pt hb.pw) fun σ H Q ⟨δ, m, R, en, st, h, k⟩ => lT_bind en st h fun c H1 m1 r1 e1 en1 st1 => by
    cases c with
    | true => exact iteT ⟨δ, m1, R, en1, st1, r1.1 rfl, fun b H' m' q ex s => k b H' m' q (e1.trans ex) s⟩
    | false => exact iteF (k false H1 m1 (r1.2 rfl) e1 st1)⟩
theorem pdw_or (ha : PDT X Y a tA) (hb : PDW X Y (.BoolOp .Or (b :: rest) pos) tB) : PDW X Y (.BoolOp .Or (a :: b :: rest) pos) (dOr tA tB) :=
  ⟨pw_weak (pw_or ha.pt hb.pw) fun σ H Q ⟨δ, m, R, en, st, h, k⟩ => lT_bind en st h fun c H1 m1 r1 e1 en1 st1 => by
    cases c with
    | true => exact iteT (k true H1 m1 (r1.1 rfl) e1 st1)
    | false => exact iteF ⟨δ, m1, R, en1, st1, r1.2 rfl, fun b H' m' q ex s => k b H' m' q (e1.trans ex) s⟩⟩
theorem PDW.pt {e : Expr} {t : DT} (h : PDW X Y e t) : PDT X Y e t := ⟨h.pw.pt⟩
theorem pdt_not (ha : PDT X Y a tA) : PDT X Y (.UnaryOp .Not a pos) (dNot tA) :=
  ⟨pt_weak (pt_not ha.pt) fun σ H Q ⟨δ, m, R, en, st, h, k⟩ => lT_bind en st h fun c H1 m1 r1 e1 en1 st1 => k (!c) H1 m1 r1 e1 st1⟩
/-- as values -/
def dAndV (t u : DE) : DE := fun δ m R => dB t δ m fun c m1 => (c = true → u δ m1 R) ∧ (c = false → R (.bl false) m1)
def dOrV (t u : DE) : DE := fun δ m R => dB t δ m fun c m1 => (c = true → R (.bl true) m1) ∧ (c = false → u δ m1 R)
def dNotV (t : DE) : DE := fun δ m R => dB t δ m fun c m1 => R (.bl (!c)) m1
variable {da db : DE}
theorem dB_bind {K : PySem.W.Frag} {Y : XS} {e : DE} {σ : L2.St} {H : Hp} {Q : V → Hp → Prop} {δ : Ev} {m : Sto} {R : Bool → Sto → Prop} (en : EnvOk K Y m H σ δ) (st : StoOk K m H) (h : dB e δ m R)
    (k : ∀ b H' m', R b m' → Ext m H m' H' → EnvOk K Y m' H' σ δ → StoOk K m' H' → Q (.bl b) H') : lE K Y e σ H Q :=
  lE_bind en st h fun v H1 d m1 r1 e1 en1 st1 rp1 => by
    cases d with
    | bl b =>
      cases rp1
      exact k b H1 m1 r1 e1 en1 st1
    | _ => exact r1.elim
theorem pd_one {op} (h : PD X Y a da) : PD X Y (.BoolOp op [a] pos) da := ⟨pe_one h.pe⟩
theorem pd_and (ha : PD X Y a da) (hb : PD X Y (.BoolOp .And (b :: rest) pos) db) : PD X Y (.BoolOp .And (a :: b :: rest) pos) (dAndV da db) :=
  ⟨pe_weak (pe_and ha.pe hb.pe) fun σ H Q ⟨δ, m, R, en, st, h, k⟩ => dB_bind en st h fun c H1 m1 r1 e1 en1 st1 => ⟨c, rfl, by
    cases c with
    | true => exact iteT ⟨δ, m1, R, en1, st1, r1.1 rfl, fun v H' d m' q ex s rp => k v H' d m' q (e1.trans ex) s rp⟩
    | false => exact iteF (k _ H1 _ m1 (r1.2 rfl) e1 st1 (.bl _))⟩⟩
theorem pd_or (ha : PD X Y a da) (hb : PD X Y (.BoolOp .Or (b :: rest) pos) db) : PD X Y (.BoolOp .Or (a :: b :: rest) pos) (dOrV da db) :=
  ⟨pe_weak (pe_or ha.pe hb.pe) fun σ H Q ⟨δ, m, R, en, st, h, k⟩ => dB_bind en st h fun c H1 m1 r1 e1 en1 st1 => ⟨c, rfl, by
    cases c with
    | true => exact iteT (k _ H1 _ m1 (r1.1 rfl) e1 st1 (.bl _))
    | false => exact iteF ⟨δ, m1, R, en1, st1, r1.2 rfl, fun v H' d m' q ex s rp => k v H' d m' q (e1.trans ex) s rp⟩⟩⟩
theorem pd_not (ha : PD X Y a da) : PD X Y (.UnaryOp .Not a pos) (dNotV da) :=
  ⟨pe_weak (pe_not ha.pe) fun σ H Q ⟨δ, m, R, en, st, h, k⟩ => dB_bind en st h fun c H1 m1 r1 e1 en1 st1 => ⟨c, rfl, k _ H1 _ m1 r1 e1 st1 (.bl _)⟩⟩
def dIfE (t : DT) (a b : DE) : DE := fun δ m R => t δ m fun c m1 => (c = true → a δ m1 R) ∧ (c = false → b δ m1 R)
theorem pd_ifE {c : Expr} (hc : PDT X Y c tA) (ha : PD X Y a da) (hb : PD X Y b db) : PD X Y (.IfExp c a b pos) (dIfE tA da db) :=
  ⟨pe_weak (pe_ifExp hc.pt ha.pe hb.pe) fun σ H Q ⟨δ, m, R, en, st, h, k⟩ => lT_bind en st h fun c H1 m1 r1 e1 en1 st1 => by
    cases c with
    | true => exact iteT ⟨δ, m1, R, en1, st1, r1.1 rfl, fun v H' d m' q ex s rp => k v H' d m' q (e1.trans ex) s rp⟩
    | false => exact iteF ⟨δ, m1, R, en1, st1, r1.2 rfl, fun v H' d m' q ex s rp => k v H' d m' q (e1.trans ex) s rp⟩⟩

/-! ### subscripts, slices -/
def ixD : O2 := fun d i m R => match i with
  | .int k => (match d with
    | .str z => z.length ≤ sizeLine ∧ ∃ c, L2.atI z.cps.toList k = some c ∧ R (.str ⟨#[c]⟩) m
    | d => ∃ xs x, SeqIs m d xs ∧ L2.atI xs k = some x ∧ R x m)
  | _ => False
structure IxD (X : Cx) (g : O2) : Prop where
  ok : IxR X (lR2 X.K g)
theorem ixr_weak {r r' : R2} (h : IxR X r) (w : ∀ x y H Q, r' x y H Q → r x y H Q) : IxR X r' :=
  fun va sl pins s σ H x y v u Q I r1 r2 q => h va sl pins s σ H x y v u Q I r1 r2 (w x y H Q q)
theorem id_seq : IxD X ixD := ⟨ixr_weak ix_seq fun x y H Q ⟨m, d, e, R, r1, r2, st, h, k⟩ => by
  unfold ixD at h
  split at h
  · cases r2
    split at h
    · cases r1
      obtain ⟨h1, c, h2, h3⟩ := h
      exact .inr (.inr ⟨_, _, c, rfl, rfl, h1, h2, k _ _ _ _ h3 Ext.rfl st (.str _)⟩)
    · obtain ⟨xs, x, h1, h2, h3⟩ := h
      obtain ⟨a, vs, rfl, q, rl⟩ := h1.low r1 st
      obtain ⟨v, e1, rv⟩ := rl.atI h2
      rcases q with q | q
      · exact .inl ⟨a, vs, _, v, rfl, rfl, q, e1, k _ _ _ _ h3 Ext.rfl st rv⟩
      · exact .inr (.inl ⟨a, vs, _, v, rfl, rfl, q, e1, k _ _ _ _ h3 Ext.rfl st rv⟩)
  · exact h.elim⟩
theorem pd_ix {g : O2} (hr : IxD X g) (ha : PD X Y a da) (hb : PD X Y b db) (hs : PlainIx b := by exact fun _ _ => rfl) : PD X Y (.Subscript a b pos) (dOp g da db) :=
  ⟨pe_weak (pe_ix hr.ok ha.pe hb.pe hs) fun _ _ _ h => dOp_low h⟩
abbrev DO := Ev → Sto → (Option Int → Sto → Prop) → Prop
def lO (K : PySem.W.Frag) (Y : XS) (e : DO) : TO := fun σ H Q => ∃ δ m R, EnvOk K Y m H σ δ ∧ StoOk K m H ∧ e δ m R ∧
  ∀ b H' m', R b m' → Ext m H m' H' → StoOk K m' H' → Q b H'
structure PDO (X : Cx) (Y : XS) (e : Option Expr) (d : DO) : Prop where
  po : PO X e (lO X.K Y d)
def dNoPart : DO := fun _ m R => R none m
def dPart (e : DE) : DO := fun δ m R => e δ m fun d m1 => match d with
  | .int i => R (some i) m1
  | _ => False
theorem po_weak {e : Option Expr} {t t' : TO} (h : PO X e t) (w : ∀ σ H Q, t' σ H Q → t σ H Q) : PO X e t' := ⟨fun pins s σ H Q I q => h.run pins s σ H Q I (w σ H Q q)⟩
theorem pdo_none : PDO X Y none dNoPart := ⟨po_weak po_none fun σ H Q ⟨δ, m, R, en, st, h, k⟩ => k none H m h Ext.rfl st⟩
theorem pdo_some (h : PD X Y a da) : PDO X Y (some a) (dPart da) := ⟨po_weak (po_some h.pe) fun σ H Q ⟨δ, m, R, en, st, h, k⟩ => lE_bind en st h fun v H1 d m1 r1 e1 en1 st1 rp1 => by
  cases d with
  | int i =>
    cases rp1
    exact ⟨i, rfl, k _ H1 m1 r1 e1 st1⟩
  | _ => exact r1.elim⟩
theorem lO_bind {K : PySem.W.Frag} {Y : XS} {e : DO} {σ : L2.St} {H : Hp} {Q : Option Int → Hp → Prop} {δ : Ev} {m : Sto} {R : Option Int → Sto → Prop} (en : EnvOk K Y m H σ δ) (st : StoOk K m H) (h : e δ m R)
    (k : ∀ b H' m', R b m' → Ext m H m' H' → EnvOk K Y m' H' σ δ → StoOk K m' H' → Q b H') : lO K Y e σ H Q :=
  ⟨δ, m, R, en, st, h, fun b H' m' r ex s => k b H' m' r ex (en.ext ex) s⟩
/-- a slice by values -/
def slD (b : Bool) (d : D) (lo hi : Option Int) (m : Sto) (R : D → Sto → Prop) : Prop := match d with
  | .str z => z.length ≤ sizeLine ∧ R (.str (cutS z lo hi)) m
  | .tup xs => R (.tup (cut xs lo hi)) m
  | .lst xs => newL b (cut xs lo hi) m R
  | .rl xs => newL b (cut xs lo hi) m R
  | .ptr a => ∃ o xs, m a = some o ∧ seqMO o = some xs ∧ newL b (cut xs lo hi) m R
  | _ => False
def dSl (b : Bool) (e : DE) (l h : DO) : DE := fun δ m R => e δ m fun d m1 => l δ m1 fun lo m2 => h δ m2 fun hi m3 => slD b d lo hi m3 R
theorem cut_whole {A : Type} {xs : List A} {lo hi : Option Int} (h : HT.sIx xs.length 0 lo = 0 ∧ HT.sIx xs.length xs.length hi = xs.length) : cut xs lo hi = xs := by
  unfold cut
  rw [h.1, h.2]
  simp
theorem pd_sl (b : Bool) {lo hi : Option Expr} {tl th : DO} {p2 : Pos} (he : PD X Y a da) (hl : PDO X Y lo tl) (hh : PDO X Y hi th) : PD X Y (.Subscript a (.Slice lo hi none p2) pos) (dSl b da tl th) :=
  ⟨pe_weak (pe_slice (SlR.or (SlR.or sl_str sl_tupA) sl_list) he.pe hl.po hh.po) fun σ H Q ⟨δ, m, R, en, st, h, k⟩ => lE_bind en st h fun v H1 d m1 r1 e1 en1 st1 rp1 =>
    lO_bind en1 st1 r1 fun l H2 m2 r2 e2 en2 st2 => lO_bind en2 st2 r2 fun u H3 m3 r3 e3 en3 st3 => by
    have rp := rp1.ext (e2.trans e3)
    have ex := (e1.trans e2).trans e3
    unfold slD at r3
    split at r3
    · cases rp
      exact .inl (.inl ⟨_, rfl, r3.1, k _ _ _ _ r3.2 ex st3 (.str _)⟩)
    · obtain ⟨a, vs, rfl, q, rl⟩ := id rp.tupV
      refine .inl (.inr ⟨a, vs, rfl, q, fun z => ?_, fun z p hp => ?_⟩)
      · rw [rl.len] at z
        refine k _ _ _ _ r3 ex st3 ?_
        rw [cut_whole z]
        exact rp
      · exact k _ _ _ _ r3 (ex.trans (ext_new hp)) (sto_new st3 hp) (.tup (.inl ⟨st3.free hp, .inl upd_same⟩) ((rl.cut _ _).ext (ext_new hp)))
    · obtain ⟨a, vs, rfl, _, q, rl⟩ := id rp.lstV
      refine .inr ⟨a, vs, rfl, SqL.of q, fun p hp => ?_⟩
      obtain ⟨d, m', q1, q2, q3, q4⟩ := newL_ok r3 st3 (rl.cut _ _) hp
      exact k _ _ d m' q1 (ex.trans q2) q3 q4
    · obtain ⟨a, vs, rfl, q, rl⟩ := id rp.rlV
      refine .inr ⟨a, vs, rfl, q, fun p hp => ?_⟩
      obtain ⟨d, m', q1, q2, q3, q4⟩ := newL_ok r3 st3 (rl.cut _ _) hp
      exact k _ _ d m' q1 (ex.trans q2) q3 q4
    · rename_i a0
      obtain ⟨o, xs, h1, h2, h3⟩ := r3
      cases rp
      have q : ∃ vs, SqL X.K H3 a0 vs ∧ RpL X.K m3 H3 vs xs := by
        have g := st3 _ _ h1
        cases o with
        | lst ds =>
          cases h2
          obtain ⟨vs, e, r⟩ := g
          exact ⟨vs, SqL.of e, r⟩
        | seq ds =>
          cases h2
          obtain ⟨vs, e, r⟩ := g
          exact ⟨vs, .inl e, r⟩
        | _ => cases h2
      obtain ⟨vs, q, rl⟩ := q
      refine .inr ⟨_, vs, rfl, q, fun p hp => ?_⟩
      obtain ⟨d, m', q1, q2, q3, q4⟩ := newL_ok h3 st3 (rl.cut _ _) hp
      exact k _ _ d m' q1 (ex.trans q2) q3 q4
    · exact r3.elim⟩
/-- xs[::-1] of a list -/
def dRevL (b : Bool) (e : DE) : DE := fun δ m R => e δ m fun d m1 => ∃ xs, LstIs m1 d xs ∧ newL b xs.reverse m1 R
theorem pd_revL (b : Bool) {k : Nat} {p1 p2 p3 : Pos} (he : PD X Y a da) : PD X Y (.Subscript a (.Slice none none (some (.UnaryOp .USub (.Constant (.int 1) k p1) p2)) p3) pos) (dRevL b da) :=
  ⟨pe_weak (pe_revL he.pe) fun σ H Q ⟨δ, m, R, en, st, h, k⟩ => lE_bind en st h fun v H1 d m1 r1 e1 en1 st1 rp1 => by
    obtain ⟨xs, h1, h2⟩ := r1
    obtain ⟨a, vs, rfl, q, rl⟩ := h1.low rp1 st1
    refine ⟨a, vs, rfl, SqL.of q, fun p hp => ?_⟩
    obtain ⟨d, m', q1, q2, q3, q4⟩ := newL_ok h2 st1 rl.rev hp
    exact k _ _ d m' q1 (e1.trans q2) q3 q4⟩
end
end Dl

/-! The data layer: calls of built-ins, statements, loops, comprehensions. -/
namespace Dl
open PySem PySem.Spec PyProof.Rows L2

/-! ### calls of built-ins, by values -/
abbrev OL := List D → Sto → (D → Sto → Prop) → Prop
def lCB (K : PySem.W.Frag) (g : OL) : List V → Hp → VK → Prop := fun xs H Q => ∃ m ds R, RpL K m H xs ds ∧ StoOk K m H ∧ g ds m R ∧ Aft K m H R Q
structure CallD (X : Cx) (f : Value) (g : OL) : Prop where
  ok : CallR X f (lCB X.K g)
def dCB (g : OL) (t : DA) : DE := fun δ m R => t δ m fun ds m1 => g ds m1 R
section
variable {X : Cx} {Y : XS} {f : Value} {x : Str} {p pos : Pos} {e : Expr} {es : List Expr} {t : DA} {id T : String} {g : OL}
theorem cr_weak {r r' : List V → Hp → VK → Prop} (h : CallR X f r) (w : ∀ xs H Q, r' xs H Q → r xs H Q) : CallR X f r' :=
  fun pins s σ H xs us Q I r1 q => h pins s σ H xs us Q I r1 (w xs H Q q)
theorem cr_or {r r' : List V → Hp → VK → Prop} (h : CallR X f r) (h' : CallR X f r') : CallR X f (fun xs H Q => r xs H Q ∨ r' xs H Q) :=
  fun pins s σ H xs us Q I r1 q => q.elim (h pins s σ H xs us Q I r1) (h' pins s σ H xs us Q I r1)
theorem dCB_low {K : PySem.W.Frag} {Y : XS} {σ : L2.St} {H : Hp} {Q : VK} (h : lE K Y (dCB g t) σ H Q) : tCB (lCB K g) (lA K Y t) σ H Q := by
  obtain ⟨δ, m, R, en, st, h, k⟩ := h
  exact lA_bind en st h fun vs H1 ds m1 r1 e1 _ st1 rp => ⟨m1, ds, R, rp, st1, r1, fun v H' d m' q ex s r => k v H' d m' q (e1.trans ex) s r⟩
theorem pd_callB (hc : CallD X (.builtin id) g) (hg : Gl X x) (hm : X.mg x = none) (hv : bootBuiltins x = some (.builtin id)) (ha : PDA X Y (e :: es) t) (hn : x ≠ "__name__" := by decide) (hdb : (x == ("__debug__" : Str)) = false := by decide)
    (he : starEach (e :: es) X.env = (false, eval e X.env) :: starEach es X.env := by rfl) (hpl : (backTo pos (starEach es X.env)).any (·.1) = false := by rfl) : PD X Y (.Call (.Name x p) (e :: es) [] pos) (dCB g t) :=
  ⟨pe_weak (pe_callB hc.ok hg hm hv ha.pa hn hdb he hpl) fun _ _ _ h => dCB_low h⟩
theorem pd_callT (hc : CallD X (.type T) g) (hg : Gl X x) (hm : X.mg x = none) (hv : bootBuiltins x = some (.type T)) (ha : PDA X Y (e :: es) t) (hn : x ≠ "__name__" := by decide) (hdb : (x == ("__debug__" : Str)) = false := by decide)
    (he : starEach (e :: es) X.env = (false, eval e X.env) :: starEach es X.env := by rfl) (hpl : (backTo pos (starEach es X.env)).any (·.1) = false := by rfl) : PD X Y (.Call (.Name x p) (e :: es) [] pos) (dCB g t) :=
  ⟨pe_weak (pe_callTy hc.ok hg hm hv ha.pa hn hdb he hpl) fun _ _ _ h => dCB_low h⟩
end
theorem RpL.one {K : PySem.W.Frag} {m : Sto} {H : Hp} {vs : List V} {d : D} (r : RpL K m H vs [d]) : ∃ v, vs = [v] ∧ Rp K m H v d := by
  cases r with
  | cons a b =>
    cases b
    exact ⟨_, rfl, a⟩
theorem RpL.two {K : PySem.W.Frag} {m : Sto} {H : Hp} {vs : List V} {d e : D} (r : RpL K m H vs [d, e]) : ∃ v w, vs = [v, w] ∧ Rp K m H v d ∧ Rp K m H w e := by
  cases r with
  | cons a b =>
    obtain ⟨w, rfl, b1⟩ := b.one
    exact ⟨_, w, rfl, a, b1⟩
def lenMO : MO → Option Nat
  | .lst ds => some ds.length
  | .seq ds => some ds.length
  | .dct kvs => some kvs.length
  | _ => none
def lenD : OL := fun ds m R => match ds with
  | [.str z] => z.length ≤ sizeLine ∧ R (.int z.length) m
  | [.lst xs] => R (.int xs.length) m
  | [.tup xs] => R (.int xs.length) m
  | [.ptr a] => ∃ o n, m a = some o ∧ lenMO o = some n ∧ R (.int n) m
  | _ => False
/-- the least, the greatest of some whole numbers, one at least -/
def lmin : List Int → Int
  | [] => 0
  | [x] => x
  | x :: y :: r => min x (lmin (y :: r))
def lmax : List Int → Int
  | [] => 0
  | [x] => x
  | x :: y :: r => max x (lmax (y :: r))
theorem lmin_le : ∀ {l : List Int} {x : Int}, x ∈ l → lmin l ≤ x
  | [a], x, h => by
    have e : x = a := by simpa using h
    rw [e]
    exact Int.le_refl _
  | a :: b :: r, x, h => by
    show min a (lmin (b :: r)) ≤ x
    rcases List.mem_cons.mp h with e | h
    · omega
    · have := lmin_le h
      omega
theorem lmin_mem : ∀ {l : List Int}, 0 < l.length → lmin l ∈ l
  | [a], _ => List.mem_cons_self
  | a :: b :: r, _ => by
    show min a (lmin (b :: r)) ∈ a :: b :: r
    have ih : lmin (b :: r) ∈ b :: r := lmin_mem (Nat.succ_pos _)
    rcases Int.le_total a (lmin (b :: r)) with h | h
    · rw [Int.min_eq_left h]
      exact List.mem_cons_self
    · rw [Int.min_eq_right h]
      exact List.mem_cons_of_mem _ ih
theorem le_lmax : ∀ {l : List Int} {x : Int}, x ∈ l → x ≤ lmax l
  | [a], x, h => by
    have e : x = a := by simpa using h
    rw [e]
    exact Int.le_refl _
  | a :: b :: r, x, h => by
    show x ≤ max a (lmax (b :: r))
    rcases List.mem_cons.mp h with e | h
    · omega
    · have := le_lmax h
      omega
theorem lmax_mem : ∀ {l : List Int}, 0 < l.length → lmax l ∈ l
  | [a], _ => List.mem_cons_self
  | a :: b :: r, _ => by
    show max a (lmax (b :: r)) ∈ a :: b :: r
    have ih : lmax (b :: r) ∈ b :: r := lmax_mem (Nat.succ_pos _)
    rcases Int.le_total a (lmax (b :: r)) with h | h
    · rw [Int.max_eq_right h]
      exact List.mem_cons_of_mem _ ih
    · rw [Int.max_eq_left h]
      exact List.mem_cons_self
theorem lmin_eq {l : List Int} {k : Int} (h : k ∈ l) (z : ∀ y, y ∈ l → k ≤ y) : k = lmin l :=
  Int.le_antisymm (z _ (lmin_mem (List.length_pos_of_mem h))) (lmin_le h)
theorem lmax_eq {l : List Int} {k : Int} (h : k ∈ l) (z : ∀ y, y ∈ l → y ≤ k) : k = lmax l :=
  Int.le_antisymm (le_lmax h) (z _ (lmax_mem (List.length_pos_of_mem h)))
def minD : OL := fun ds m R => match ds with
  | [.int i, .int j] => R (.int (min i j)) m
  | [d] => ∃ ns : List Int, LstIs m d (ns.map D.int) ∧ 0 < ns.length ∧ R (.int (lmin ns)) m
  | _ => False
def maxD : OL := fun ds m R => match ds with
  | [.int i, .int j] => R (.int (max i j)) m
  | [d] => ∃ ns : List Int, LstIs m d (ns.map D.int) ∧ 0 < ns.length ∧ R (.int (lmax ns)) m
  | _ => False
def sumD : OL := fun ds m R => match ds with
  | [d] => ∃ ns : List Int, LstIs m d (ns.map D.int) ∧ R (.int ns.sum) m
  | _ => False
def allD : OL := fun ds m R => match ds with
  | [d] => ∃ bs : List Bool, LstIs m d (bs.map D.bl) ∧ R (.bl (bs.all id)) m
  | _ => False
def anyD : OL := fun ds m R => match ds with
  | [d] => ∃ bs : List Bool, LstIs m d (bs.map D.bl) ∧ R (.bl (bs.any id)) m
  | _ => False
def absD : OL := fun ds m R => match ds with
  | [.int i] => R (.int (if i < 0 then -i else i)) m
  | _ => False
def intD : OL := fun ds m R => match ds with
  | [.int i] => R (.int i) m
  | [.bl b] => R (.int (if b then 1 else 0)) m
  | _ => False
def tupleD : OL := fun ds m R => match ds with
  | [d] => ∃ xs, SeqIs m d xs ∧ R (.tup xs) m
  | _ => False
def listD (b : Bool) : OL := fun ds m R => match ds with
  | [d] => ∃ xs, SeqIs m d xs ∧ newL b xs m R
  | _ => False
def strD : OL := fun ds m R => match ds with
  | [.int i] => i.natAbs.log2 < 1920 ∧ R (.str (toString i)) m
  | [.str z] => R (.str z) m
  | _ => False
def reprD : OL := fun ds m R => match ds with
  | [.int i] => i.natAbs.log2 < 1920 ∧ R (.str (toString i)) m
  | [d] => ∃ q, Pv m d q ∧ q.showable = true ∧ q.hasDict = false ∧ q.shown.length ≤ sizeLine ∧ q.depth ≤ 50 ∧ (match q with | .list _ => True | .tuple _ => True | _ => False) ∧ R (.str q.shown) m
  | _ => False
section
variable {X : Cx} {Y : XS}
theorem cd_len : CallD X (.builtin "len") lenD := ⟨cr_weak (cr_or call_len call_lenD) fun xs H Q ⟨m, ds, R, r, st, h, k⟩ => by
  unfold lenD at h
  split at h
  · obtain ⟨v, rfl, r1⟩ := r.one
    cases r1
    exact .inl ⟨_, _, rfl, ⟨h.1, rfl⟩, k _ _ _ _ h.2 Ext.rfl st (.int _)⟩
  · obtain ⟨v, rfl, r1⟩ := r.one
    obtain ⟨a, vs, rfl, _, e, rl⟩ := r1.lstV
    refine .inl ⟨_, vs.length, rfl, .inl ⟨vs, SqL.of e, rfl⟩, k _ _ _ _ h Ext.rfl st ?_⟩
    rw [rl.len]
    exact .int _
  · obtain ⟨v, rfl, r1⟩ := r.one
    obtain ⟨a, vs, rfl, e, rl⟩ := r1.tupV
    refine .inl ⟨_, vs.length, rfl, .inr ⟨vs, e, rfl⟩, k _ _ _ _ h Ext.rfl st ?_⟩
    rw [rl.len]
    exact .int _
  · obtain ⟨v, rfl, r1⟩ := r.one
    cases r1
    obtain ⟨o, n, h1, h2, h3⟩ := h
    have g := st _ _ h1
    cases o with
    | lst ds =>
      cases h2
      obtain ⟨vs, e, rl⟩ := g
      refine .inl ⟨_, vs.length, rfl, .inl ⟨vs, SqL.of e, rfl⟩, k _ _ _ _ h3 Ext.rfl st ?_⟩
      rw [rl.len]
      exact .int _
    | seq ds =>
      cases h2
      obtain ⟨vs, e, rl⟩ := g
      refine .inl ⟨_, vs.length, rfl, .inl ⟨vs, .inl e, rfl⟩, k _ _ _ _ h3 Ext.rfl st ?_⟩
      rw [rl.len]
      exact .int _
    | dct ds =>
      cases h2
      obtain ⟨vs, e, rl⟩ := g
      have el : ∀ {vs : List (Key × V)} {ds : List (Key × D)}, RpF X.K m H vs ds → vs.length = ds.length := fun {vs ds} r => by
        induction r with
        | nil => rfl
        | cons _ _ ih => exact congrArg Nat.succ ih
      refine .inr ⟨_, vs, rfl, e, k _ _ _ _ h3 Ext.rfl st ?_⟩
      rw [el rl]
      exact .int _
    | _ => cases h2
  · exact h.elim⟩
theorem cd_min (hc : X.calm = true) : CallD X (.builtin "min") minD := ⟨cr_weak (cr_or (call_min2 hc) (cr_min hc)) fun xs H Q ⟨m, ds, R, r, st, h, k⟩ => by
  unfold minD at h
  split at h
  · rename_i i j
    obtain ⟨v, w, rfl, r1, r2⟩ := r.two
    cases r1
    cases r2
    refine .inl ⟨i, j, rfl, k _ _ _ _ h Ext.rfl st ?_⟩
    rw [show (if j < i then j else i) = min i j by split <;> omega]
    exact .int _
  · obtain ⟨v, rfl, r1⟩ := r.one
    obtain ⟨ns, h1, h2, h3⟩ := h
    obtain ⟨a, vs, rfl, e, rl⟩ := h1.low r1 st
    have ev := rl.intsV
    subst ev
    refine .inr ⟨a, ns, rfl, SqL.of e, h2, fun z hz hle => k _ _ _ _ h3 Ext.rfl st ?_⟩
    rw [lmin_eq hz hle]
    exact .int _
  · exact h.elim⟩
theorem cd_max (hc : X.calm = true) : CallD X (.builtin "max") maxD := ⟨cr_weak (cr_or (call_max2 hc) (cr_max hc)) fun xs H Q ⟨m, ds, R, r, st, h, k⟩ => by
  unfold maxD at h
  split at h
  · rename_i i j
    obtain ⟨v, w, rfl, r1, r2⟩ := r.two
    cases r1
    cases r2
    refine .inl ⟨i, j, rfl, k _ _ _ _ h Ext.rfl st ?_⟩
    rw [show (if j > i then j else i) = max i j by split <;> omega]
    exact .int _
  · obtain ⟨v, rfl, r1⟩ := r.one
    obtain ⟨ns, h1, h2, h3⟩ := h
    obtain ⟨a, vs, rfl, e, rl⟩ := h1.low r1 st
    have ev := rl.intsV
    subst ev
    refine .inr ⟨a, ns, rfl, SqL.of e, h2, fun z hz hle => k _ _ _ _ h3 Ext.rfl st ?_⟩
    rw [lmax_eq hz hle]
    exact .int _
  · exact h.elim⟩
theorem cd_sum (hc : X.calm = true) : CallD X (.builtin "sum") sumD := ⟨cr_weak (cr_sum hc) fun xs H Q ⟨m, ds, R, r, st, h, k⟩ => by
  unfold sumD at h
  split at h
  · obtain ⟨v, rfl, r1⟩ := r.one
    obtain ⟨ns, h1, h3⟩ := h
    obtain ⟨a, vs, rfl, e, rl⟩ := h1.low r1 st
    have ev := rl.intsV
    subst ev
    exact ⟨a, ns, rfl, SqL.of e, k _ _ _ _ h3 Ext.rfl st (.int _)⟩
  · exact h.elim⟩
theorem cd_all (hc : X.calm = true) : CallD X (.builtin "all") allD := ⟨cr_weak (cr_all hc) fun xs H Q ⟨m, ds, R, r, st, h, k⟩ => by
  unfold allD at h
  split at h
  · obtain ⟨v, rfl, r1⟩ := r.one
    obtain ⟨ns, h1, h3⟩ := h
    obtain ⟨a, vs, rfl, e, rl⟩ := h1.low r1 st
    have ev := rl.blsV
    subst ev
    exact ⟨a, ns, rfl, SqL.of e, k _ _ _ _ h3 Ext.rfl st (.bl _)⟩
  · exact h.elim⟩
theorem cd_any (hc : X.calm = true) : CallD X (.builtin "any") anyD := ⟨cr_weak (cr_any hc) fun xs H Q ⟨m, ds, R, r, st, h, k⟩ => by
  unfold anyD at h
  split at h
  · obtain ⟨v, rfl, r1⟩ := r.one
    obtain ⟨ns, h1, h3⟩ := h
    obtain ⟨a, vs, rfl, e, rl⟩ := h1.low r1 st
    have ev := rl.blsV
    subst ev
    exact ⟨a, ns, rfl, SqL.of e, k _ _ _ _ h3 Ext.rfl st (.bl _)⟩
  · exact h.elim⟩
theorem cd_abs : CallD X (.builtin "abs") absD := ⟨cr_weak call_abs fun xs H Q ⟨m, ds, R, r, st, h, k⟩ => by
  unfold absD at h
  split at h
  · obtain ⟨v, rfl, r1⟩ := r.one
    cases r1
    exact ⟨_, rfl, k _ _ _ _ h Ext.rfl st (.int _)⟩
  · exact h.elim⟩
theorem cd_int : CallD X (.type "int") intD := ⟨cr_weak call_int1 fun xs H Q ⟨m, ds, R, r, st, h, k⟩ => by
  unfold intD at h
  split at h
  · obtain ⟨v, rfl, r1⟩ := r.one
    cases r1
    exact .inl ⟨_, rfl, k _ _ _ _ h Ext.rfl st (.int _)⟩
  · obtain ⟨v, rfl, r1⟩ := r.one
    cases r1
    exact .inr ⟨_, rfl, k _ _ _ _ h Ext.rfl st (.int _)⟩
  · exact h.elim⟩
theorem cd_str : CallD X (.type "str") strD := ⟨cr_weak (cr_or call_str_int SkE.call_str_str) fun xs H Q ⟨m, ds, R, r, st, h, k⟩ => by
  unfold strD at h
  split at h
  · obtain ⟨v, rfl, r1⟩ := r.one
    cases r1
    exact .inl ⟨_, rfl, h.1, k _ _ _ _ h.2 Ext.rfl st (.str _)⟩
  · obtain ⟨v, rfl, r1⟩ := r.one
    cases r1
    exact .inr ⟨_, rfl, k _ _ _ _ h Ext.rfl st (.str _)⟩
  · exact h.elim⟩
theorem cd_tuple : CallD X (.type "tuple") tupleD := ⟨cr_weak call_tuple_of fun xs H Q ⟨m, ds, R, r, st, h, k⟩ => by
  unfold tupleD at h
  split at h
  · rename_i d
    obtain ⟨v, rfl, r1⟩ := r.one
    obtain ⟨xs, h1, h2⟩ := h
    have isT : ∀ a vs, v = .ref a → SqL X.K H a vs ∧ RpL X.K m H vs xs → ∃ p ys, [v] = [V.ref p] ∧ ((SqL X.K H p ys ∧ ∀ l, H l = none → Q (.ref l) (L2.upd H l (.tup ys))) ∨ SqT X.K H p ys ∧ Q (.ref p) H) := by
      rintro a vs rfl ⟨e, rl⟩
      exact ⟨a, vs, rfl, .inl ⟨e, fun p hp => k _ _ _ _ h2 (ext_new hp) (sto_new st hp) (.tup (.inl ⟨st.free hp, .inl upd_same⟩) (rl.ext (ext_new hp)))⟩⟩
    cases d with
    | tup ys =>
      cases h1
      obtain ⟨a, vs, rfl, e, rl⟩ := id r1.tupV
      exact ⟨a, vs, rfl, .inr ⟨e, k _ _ _ _ h2 Ext.rfl st r1⟩⟩
    | lst ys =>
      cases h1
      obtain ⟨a, vs, rfl, _, e, rl⟩ := r1.lstV
      exact isT a vs rfl ⟨SqL.of e, rl⟩
    | rl ys =>
      cases h1
      obtain ⟨a, vs, rfl, e, rl⟩ := r1.rlV
      exact isT a vs rfl ⟨e, rl⟩
    | ptr b =>
      obtain ⟨o, e, q⟩ := h1
      have g := st _ _ e
      cases r1
      cases o with
      | lst ds =>
        cases q
        obtain ⟨vs, e, rl⟩ := g
        exact isT b vs rfl ⟨SqL.of e, rl⟩
      | seq ds =>
        cases q
        obtain ⟨vs, e, rl⟩ := g
        exact isT b vs rfl ⟨.inl e, rl⟩
      | _ => cases q
    | _ => exact h1.elim
  · exact h.elim⟩
theorem cd_list (b : Bool) : CallD X (.type "list") (listD b) := ⟨cr_weak call_list_of fun xs H Q ⟨m, ds, R, r, st, h, k⟩ => by
  unfold listD at h
  split at h
  · obtain ⟨v, rfl, r1⟩ := r.one
    obtain ⟨xs, h1, h2⟩ := h
    obtain ⟨a, vs, rfl, e, rl⟩ := h1.low r1 st
    refine ⟨a, vs, rfl, e, fun p hp => ?_⟩
    obtain ⟨d, m', q1, q2, q3, q4⟩ := newL_ok h2 st rl hp
    exact k _ _ d m' q1 q2 q3 q4
  · exact h.elim⟩
/-- repr of data -/
theorem call_repr_data (hg : X.A.guards = some []) (hu : X.A.units + 64 < cLine) : CallR X (.builtin "repr") (fun xs H Q => ∃ a q, xs = [V.ref a] ∧ Dp X.K H (.ref a) q ∧ q.showable = true ∧ q.hasDict = false ∧ q.shown.length ≤ sizeLine ∧ q.depth ≤ 50 ∧ Q (.str q.shown) H) := by
  intro pins s σ H xs us Q I r h
  obtain ⟨a, q, rfl, hd, h1, h2, h3, h4, hQ⟩ := h
  obtain ⟨u, rfl, ru⟩ := vals1 r
  obtain ⟨as, hr⟩ := Dp.reads I q _ u hd ru
  cases ru
  exact repr_of_reads' hr h1 (PyData.noDict_hsm h2) hg (by omega) (fun _ _ e => e) (fun h' u tk hk => ⟨.str _, H, I.kept hk, ⟨_, rfl⟩, hQ⟩) h3
theorem cd_repr (hg : X.A.guards = some []) (hu : X.A.units + 64 < cLine) : CallD X (.builtin "repr") reprD := ⟨cr_weak (cr_or SkE.call_repr_int (call_repr_data hg hu)) fun xs H Q ⟨m, ds, R, r, st, h, k⟩ => by
  unfold reprD at h
  split at h
  · obtain ⟨v, rfl, r1⟩ := r.one
    cases r1
    exact .inl ⟨_, rfl, h.1, k _ _ _ _ h.2 Ext.rfl st (.str _)⟩
  · obtain ⟨v, rfl, r1⟩ := r.one
    obtain ⟨q, h1, h2, h3, h4, h5, h6, h7⟩ := h
    have z : ∃ a, v = .ref a := by
      cases h1 with
      | lst _ => obtain ⟨a, _, e, _⟩ := r1.lstV; exact ⟨a, e⟩
      | tup _ => obtain ⟨a, _, e, _⟩ := r1.tupV; exact ⟨a, e⟩
      | ptr _ _ _ => cases r1; exact ⟨_, rfl⟩
      | _ => exact h6.elim
    obtain ⟨a, rfl⟩ := z
    exact .inr ⟨a, q, rfl, h1.dp st r1, h2, h3, h4, h5, k _ _ _ _ h7 Ext.rfl st (.str _)⟩
  · exact h.elim⟩
end

/-! ### isinstance -/
inductive Ty where
  | int | bool | str | tup | lst | dct
def Ty.nm : Ty → String
  | .int => "int"
  | .bool => "bool"
  | .str => "str"
  | .tup => "tuple"
  | .lst => "list"
  | .dct => "dict"
def isT (T : Ty) (d : D) : Bool := match T, d with
  | .int, .int _ => true
  | .int, .bl _ => true
  | .bool, .bl _ => true
  | .str, .str _ => true
  | .tup, .tup _ => true
  | .lst, .lst _ => true
  | _, _ => false
def isM (T : Ty) (o : MO) : Option Bool := match o with
  | .lst _ => some (match T with | .lst => true | _ => false)
  | .dct _ => some (match T with | .dct => true | _ => false)
  | _ => none
/-- isinstance(d, T), T a built-in type -/
def isiD (T : Ty) (d : D) (m : Sto) (R : D → Sto → Prop) : Prop := match d with
  | .ptr a => ∃ o b, m a = some o ∧ isM T o = some b ∧ R (.bl b) m
  | .ty _ => False
  | .rl _ => False
  | d => R (.bl (isT T d)) m
def dIsi (T : Ty) (e : DE) : DE := fun δ m R => e δ m fun d m1 => isiD T d m1 R
section
variable {X : Cx} {Y : XS}
theorem kit_t (T : Ty) (s : String) (b : Bool) (h : kitB s T.nm = some b) {K : PySem.W.Frag} : PySem.W.kitOne K (.type s) (.type T.nm) = some b := kit_ty h
theorem kb_non (T : Ty) : kitB "NoneType" T.nm = some (isT T .non) := by cases T <;> decide +kernel
theorem kb_bl (T : Ty) : kitB "bool" T.nm = some (isT T (.bl true)) := by cases T <;> decide +kernel
theorem kb_int (T : Ty) : kitB "int" T.nm = some (isT T (.int 0)) := by cases T <;> decide +kernel
theorem kb_str (T : Ty) : kitB "str" T.nm = some (isT T (.str "")) := by cases T <;> decide +kernel
theorem kb_tup (T : Ty) : kitB "tuple" T.nm = some (isT T (.tup [])) := by cases T <;> decide +kernel
theorem kb_lst (T : Ty) : kitB "list" T.nm = some (isT T (.lst [])) := by cases T <;> decide +kernel
theorem kb_dct (T : Ty) : kitB "dict" T.nm = some (match T with | .dct => true | _ => false) := by cases T <;> decide +kernel
theorem isi_low {K : PySem.W.Frag} {T : Ty} {d : D} {m : Sto} {R : D → Sto → Prop} {v : V} {H : Hp} {Q : VK} (h : isiD T d m R) (r : Rp K m H v d) (st : StoOk K m H) (k : Aft K m H R Q) :
    rIsi K [v, .ty T.nm] H Q := by
  have tb : ∀ (s : String) (b : Bool) (x : V), TyX K H x (.type s) → kitB s T.nm = some b → R (.bl b) m → rIsi K [x, .ty T.nm] H Q := fun s b x tx e q =>
    ⟨x, .ty T.nm, .type s, .type T.nm, b, rfl, .ty _, tx, kit_ty e, k _ _ _ _ q Ext.rfl st (.bl b)⟩
  cases r with
  | non => exact tb "NoneType" _ _ (.base .non) ((kb_non T).trans (by cases T <;> rfl)) h
  | bl b => exact tb "bool" _ _ (.base (.bl b)) ((kb_bl T).trans (by cases T <;> rfl)) h
  | int b => exact tb "int" _ _ (.base (.int b)) ((kb_int T).trans (by cases T <;> rfl)) h
  | str b => exact tb "str" _ _ (.base (.str b)) ((kb_str T).trans (by cases T <;> rfl)) h
  | ty n => exact h.elim
  | rl _ _ => exact h.elim
  | lst h1 h2 q => exact tb "list" _ _ (.base (.lst h2)) ((kb_lst T).trans (by cases T <;> rfl)) h
  | tup h1 q =>
    rename_i a0 xs0 ds0
    have tt : TyX K H (.ref a0) (.type "tuple") := by
      rcases h1 with ⟨_, h1 | ⟨o, h1⟩⟩ | h1
      · exact .base (.tup h1)
      · exact .fTuple h1
      · rcases h1 with (h1 | ⟨o, h1⟩) | ⟨o, _, _, h1, h2, _⟩
        · cases h1
        · cases h1
        · exact .kTuple h1 h2
    exact tb "tuple" _ _ tt ((kb_tup T).trans (by cases T <;> rfl)) h
  | ptr a =>
    obtain ⟨o, b, h1, h2, h3⟩ := h
    have g := st a o h1
    cases o with
    | lst ds =>
      obtain ⟨vs, e, _⟩ := g
      cases h2
      exact tb "list" _ _ (.base (.lst e)) ((kb_lst T).trans (by cases T <;> rfl)) h3
    | dct ds =>
      obtain ⟨vs, e, _⟩ := g
      cases h2
      exact tb "dict" _ _ (.base (.dK e)) ((kb_dct T).trans (by cases T <;> rfl)) h3
    | _ => cases h2
theorem pd_isi (T : Ty) {x y : Str} {e : Expr} {de : DE} {p p2 pos : Pos} (hg : Gl X x) (hm : X.mg x = none) (hv : bootBuiltins x = some (.builtin "isinstance")) (he : PD X Y e de)
    (gy : Gl X y) (my : X.mg y = none) (vy : bootBuiltins y = some (.type T.nm)) (hn : x ≠ "__name__" := by decide) (hdb : (x == ("__debug__" : Str)) = false := by decide) (hn2 : y ≠ "__name__" := by decide) (hdb2 : (y == ("__debug__" : Str)) = false := by decide)
    (s1 : starEach [e, .Name y p2] X.env = (false, eval e X.env) :: starEach [.Name y p2] X.env := by rfl) (s2 : starEach [.Name y p2] X.env = (false, eval (.Name y p2) X.env) :: starEach [] X.env := by rfl)
    (hpl : (backTo pos (starEach [.Name y p2] X.env)).any (·.1) = false := by rfl) : PD X Y (.Call (.Name x p) [e, .Name y p2] [] pos) (dIsi T de) :=
  ⟨pe_weak (pe_callB call_isi hg hm hv (pa_cons he.pe (pa_cons (pe_bltn (v := .ty T.nm) gy my vy rfl hn2 hdb2) pa_nil s2) s1) hn hdb s1 hpl) fun σ H Q ⟨δ, m, R, en, st, h, k⟩ =>
    lE_bind en st h fun v H1 d m1 r1 e1 en1 st1 rp => isi_low r1 rp st1 fun v' H' d' m' q ex s r => k v' H' d' m' q (e1.trans ex) s r⟩
end

/-! ### statements -/
structure DEnds where
  nx : Ev → Sto → Prop
  rt : D → Sto → Prop
  bk : Ev → Sto → Prop := fun _ _ => False
  ct : Ev → Sto → Prop := fun _ _ => False
abbrev DS := DEnds → Ev → Sto → Prop
structure AftS (K : PySem.W.Frag) (Y : XS) (m : Sto) (H : Hp) (P : DEnds) (E : Ends) : Prop where
  nx : ∀ σ' H' δ' m', P.nx δ' m' → Ext m H m' H' → EnvOk K Y m' H' σ' δ' → StoOk K m' H' → E.nx σ' H'
  bk : ∀ σ' H' δ' m', P.bk δ' m' → Ext m H m' H' → EnvOk K Y m' H' σ' δ' → StoOk K m' H' → E.bk σ' H'
  ct : ∀ σ' H' δ' m', P.ct δ' m' → Ext m H m' H' → EnvOk K Y m' H' σ' δ' → StoOk K m' H' → E.ct σ' H'
  rt : Aft K m H P.rt E.rt
theorem AftS.on {K : PySem.W.Frag} {Y : XS} {m m1 : Sto} {H H1 : Hp} {P : DEnds} {E : Ends} (a : AftS K Y m H P E) (e : Ext m H m1 H1) : AftS K Y m1 H1 P E :=
  ⟨fun σ H' δ m' q ex => a.nx σ H' δ m' q (e.trans ex), fun σ H' δ m' q ex => a.bk σ H' δ m' q (e.trans ex), fun σ H' δ m' q ex => a.ct σ H' δ m' q (e.trans ex), fun v H' d m' q ex => a.rt v H' d m' q (e.trans ex)⟩
theorem Aft.on {K : PySem.W.Frag} {m m1 : Sto} {H H1 : Hp} {R : D → Sto → Prop} {Q : VK} (a : Aft K m H R Q) (e : Ext m H m1 H1) : Aft K m1 H1 R Q := fun v H' d m' q ex => a v H' d m' q (e.trans ex)
def lS (K : PySem.W.Frag) (Y : XS) (s : DS) : TS := fun E σ H => ∃ δ m P, EnvOk K Y m H σ δ ∧ StoOk K m H ∧ s P δ m ∧ AftS K Y m H P E
structure PDS (X : Cx) (Y : XS) (st : Stmt) (d : DS) : Prop where
  ps : PS X st (lS X.K Y d)
structure PDSs (X : Cx) (Y : XS) (st : List Stmt) (d : DS) : Prop where
  ps : PSs X st (lS X.K Y d)
theorem ps_weak {X : Cx} {st : Stmt} {t t' : TS} (h : PS X st t) (w : ∀ D σ H, t' D σ H → t D σ H) : PS X st t' := ⟨fun pins s σ H D I q => h.run pins s σ H D I (w D σ H q)⟩
theorem pss_weak {X : Cx} {st : List Stmt} {t t' : TS} (h : PSs X st t) (w : ∀ D σ H, t' D σ H → t D σ H) : PSs X st t' := ⟨fun pins s σ H D I q => h.run pins s σ H D I (w D σ H q)⟩
def dNext : DS := fun P δ m => P.nx δ m
def dSeq (s t : DS) : DS := fun P δ m => s { P with nx := t P } δ m
def dBreak : DS := fun P δ m => P.bk δ m
def dCont : DS := fun P δ m => P.ct δ m
def dExpr (e : DE) : DS := fun P δ m => e δ m fun _ m1 => P.nx δ m1
def dRet (e : DE) : DS := fun P δ m => e δ m P.rt
def dIf (c : DT) (s t : DS) : DS := fun P δ m => c δ m fun b m1 => (b = true → s P δ m1) ∧ (b = false → t P δ m1)
def dNever : DS := fun _ _ _ => False
def dSet (i : Nat) (e : DE) : DS := fun P δ m => e δ m fun d m1 => P.nx (δ.put i d) m1
/-- the list that slot i holds changes no longer -/
def dFrz (i : Nat) (s : DS) : DS := fun P δ m => ∃ p ds, δ.s[i]? = some (some (.ptr p)) ∧ m p = some (.lst ds) ∧ s P (δ.put i (.lst ds)) (del m p)
section
variable {X : Cx} {Y : XS} {st : Stmt} {rest : List Stmt} {s t : DS} {e : Expr} {de : DE} {pos : Pos}
theorem pdss_nil : PDSs X Y [] dNext := ⟨pss_weak pss_nil fun E σ H ⟨δ, m, P, en, st, h, k⟩ => k.nx σ H δ m h Ext.rfl en st⟩
theorem pdss_cons (h1 : PDS X Y st s) (h2 : PDSs X Y rest t) : PDSs X Y (st :: rest) (dSeq s t) :=
  ⟨pss_weak (pss_cons h1.ps h2.ps) fun E σ H ⟨δ, m, P, en, st, h, k⟩ =>
    ⟨δ, m, _, en, st, h, fun σ' H' δ' m' q ex en' st' => ⟨δ', m', P, en', st', q, k.on ex⟩, k.bk, k.ct, k.rt⟩⟩
theorem pdss_one (h1 : PDS X Y st s) : PDSs X Y [st] s := ⟨pss_one h1.ps⟩
theorem pds_pass : PDS X Y (.Pass pos) dNext := ⟨ps_weak ps_pass fun E σ H ⟨δ, m, P, en, st, h, k⟩ => k.nx σ H δ m h Ext.rfl en st⟩
theorem pds_break : PDS X Y (.Break pos) dBreak := ⟨ps_weak ps_break fun E σ H ⟨δ, m, P, en, st, h, k⟩ => k.bk σ H δ m h Ext.rfl en st⟩
theorem pds_expr (he : PD X Y e de) (hs : swapsWith e none pos.line X.env = pure false := by rfl) : PDS X Y (.Expr e pos) (dExpr de) :=
  ⟨ps_weak (ps_expr he.pe hs) fun E σ H ⟨δ, m, P, en, st, h, k⟩ => lE_bind en st h fun v H1 d m1 r1 e1 en1 st1 _ => k.nx σ H1 δ m1 r1 e1 en1 st1⟩
theorem pds_ret (he : PD X Y e de) : PDS X Y (.Return (some e) pos) (dRet de) :=
  ⟨ps_weak (ps_ret he.pe) fun E σ H ⟨δ, m, P, en, st, h, k⟩ => ⟨δ, m, P.rt, en, st, h, k.rt⟩⟩
theorem pds_if {c : Expr} {a b : List Stmt} {tc : DT} (hc : PDT X Y c tc) (ha : PDSs X Y a s) (hb : PDSs X Y b t) : PDS X Y (.If c a b pos) (dIf tc s t) :=
  ⟨ps_weak (ps_if hc.pt ha.ps hb.ps) fun E σ H ⟨δ, m, P, en, st, h, k⟩ => lT_bind en st h fun b H1 m1 r1 e1 en1 st1 => by
    cases b with
    | true => exact iteT ⟨δ, m1, P, en1, st1, r1.1 rfl, k.on e1⟩
    | false => exact iteF ⟨δ, m1, P, en1, st1, r1.2 rfl, k.on e1⟩⟩
theorem pds_never : PDS X Y st dNever := ⟨ps_weak (ps_never (st := st)) fun E σ H ⟨δ, m, P, en, st, h, k⟩ => h⟩
theorem pds_set (i : Nat) {x : Str} {pos' : Pos} (hN : X.N.Nodup) (hi : X.N[i]? = some x) (hx : Loc X.env.scope x) (he : PD X Y e de) (hs : swapsWith e (some (.Name x pos')) pos.line X.env = pure false := by rfl)
    (hf : X.fn x = true ∨ X.env.scope.names.lookup x = some .local := by first | exact .inl rfl | exact .inr rfl | assumption) : PDS X Y (.Assign [.Name x pos'] e pos) (dSet i de) :=
  ⟨ps_weak (ps_set hN hi hx he.pe hs hf) fun E σ H ⟨δ, m, P, en, st, h, k⟩ => lE_bind en st h fun v H1 d m1 r1 e1 en1 st1 rp => k.nx _ H1 _ m1 r1 e1 (en1.set i rp) st1⟩
theorem pds_frz (i : Nat) (h : PDS X Y st s) : PDS X Y st (dFrz i s) :=
  ⟨ps_weak h.ps fun E σ H ⟨δ, m, P, en, st, ⟨p, ds, h1, h2, h3⟩, k⟩ => by
    obtain ⟨v, e1, r1⟩ := en.1.2 i _ h1
    cases r1
    obtain ⟨vs, e2, rl⟩ := st _ _ h2
    have en' := en.ext (ext_del (p := p) (m := m) (H := H))
    refine ⟨δ.put i (.lst ds), del m p, P, ?_, sto_del st, h3, k.on ext_del⟩
    have q := en'.set i (Rp.lst (K := X.K) (m := del m p) (H := H) del_same e2 (rl.ext ext_del))
    have es : σ.set i (some (V.ref p)) = σ := by
      apply List.ext_getElem?
      intro j
      by_cases hj : i = j
      · subst hj
        rw [List.getElem?_set, if_pos rfl, e1]
        split
        · rfl
        · rename_i hl
          rw [List.getElem?_eq_none (Nat.le_of_not_lt hl)] at e1
          cases e1
      · rw [List.getElem?_set_ne hj]
    rw [es] at q
    exact q⟩

/-! ### targets -/
abbrev DG := D → Ev → Sto → (Ev → Sto → Prop) → Prop
abbrev DGs := List D → Ev → Sto → (Ev → Sto → Prop) → Prop
def lG (K : PySem.W.Frag) (Y : XS) (g : DG) : TG := fun v σ H Q => ∃ δ m d R, Rp K m H v d ∧ EnvOk K Y m H σ δ ∧ StoOk K m H ∧ g d δ m R ∧ ∀ σ' H' δ' m', R δ' m' → Ext m H m' H' → EnvOk K Y m' H' σ' δ' → StoOk K m' H' → Q σ' H'
def lGs (K : PySem.W.Frag) (Y : XS) (g : DGs) : TGs := fun vs σ H Q => ∃ δ m ds R, RpL K m H vs ds ∧ EnvOk K Y m H σ δ ∧ StoOk K m H ∧ g ds δ m R ∧ ∀ σ' H' δ' m', R δ' m' → Ext m H m' H' → EnvOk K Y m' H' σ' δ' → StoOk K m' H' → Q σ' H'
structure PDG (X : Cx) (Y : XS) (e : Expr) (g : DG) : Prop where
  pg : PG X e (lG X.K Y g)
structure PDGs (X : Cx) (Y : XS) (es : List Expr) (g : DGs) : Prop where
  pg : PGs X es (lGs X.K Y g)
theorem pg_weak {e : Expr} {t t' : TG} (h : PG X e t) (w : ∀ v σ H Q, t' v σ H Q → t v σ H Q) : PG X e t' := ⟨fun pins s σ H v u Q I r q => h.run pins s σ H v u Q I r (w v σ H Q q)⟩
theorem pgs_weak {es : List Expr} {t t' : TGs} (h : PGs X es t) (w : ∀ v σ H Q, t' v σ H Q → t v σ H Q) : PGs X es t' := ⟨fun pins s σ H v u Q I r q => h.run pins s σ H v u Q I r (w v σ H Q q)⟩
def nameG (i : Nat) : DG := fun d δ m R => R (δ.put i d) m
theorem pdg_name (i : Nat) {x : Str} (hN : X.N.Nodup) (hi : X.N[i]? = some x) (hx : Loc X.env.scope x) (hf : X.fn x = true ∨ X.env.scope.names.lookup x = some .local := by first | exact .inl rfl | exact .inr rfl | assumption) : PDG X Y (.Name x pos) (nameG i) :=
  ⟨pg_weak (pg_name hN hi hx hf) fun v σ H Q ⟨δ, m, d, R, r, en, st, h, k⟩ => k _ H _ m h Ext.rfl (en.set i r) st⟩
def nilG : DGs := fun ds δ m R => match ds with
  | [] => R δ m
  | _ => False
def consG (g : DG) (t : DGs) : DGs := fun ds δ m R => match ds with
  | d :: r => g d δ m fun δ1 m1 => t r δ1 m1 R
  | [] => False
theorem pdgs_nil : PDGs X Y [] nilG := ⟨pgs_weak pgs_nil fun vs σ H Q ⟨δ, m, ds, R, r, en, st, h, k⟩ => by
  cases r with
  | nil => exact ⟨rfl, k _ _ _ _ h Ext.rfl en st⟩
  | cons a b => exact h.elim⟩
theorem pdgs_cons {es : List Expr} {g : DG} {t : DGs} (h1 : PDG X Y e g) (h2 : PDGs X Y es t) (hs : (assignEach (e :: es) X.env).map (·.2) = assign e X.env :: (assignEach es X.env).map (·.2) := by rfl) : PDGs X Y (e :: es) (consG g t) :=
  ⟨pgs_weak (pgs_cons h1.pg h2.pg hs) fun vs σ H Q ⟨δ, m, ds, R, r, en, st, h, k⟩ => by
    cases r with
    | nil => exact h.elim
    | cons a b =>
      refine ⟨_, _, rfl, δ, m, _, _, a, en, st, h, fun σ1 H1 δ1 m1 q1 ex1 en1 st1 => ?_⟩
      exact ⟨δ1, m1, _, R, b.ext ex1, en1, st1, q1, fun σ2 H2 δ2 m2 q2 ex2 => k σ2 H2 δ2 m2 q2 (ex1.trans ex2)⟩⟩
def tupG (n : Nat) (t : DGs) : DG := fun d δ m R => match d with
  | .tup xs => xs.length = n ∧ t xs δ m R
  | _ => False
theorem pdg_tup {es : List Expr} {k : Nat} {t : DGs} {n : Nat} (hc : X.calm = true) (h : PDGs X Y es t) (hn : (assignEach es X.env).length = n := by rfl) (hst : (assignEach es X.env).findIdx? (·.1) = none := by rfl) : PDG X Y (.Tuple es k pos) (tupG n t) :=
  ⟨pg_weak (pg_tup hc h.pg hn hst) fun v σ H Q ⟨δ, m, d, R, r, en, st, h, k⟩ => by
    cases d with
    | tup xs =>
      obtain ⟨a, vs, rfl, e, rl⟩ := r.tupV
      exact ⟨a, vs, rfl, e, by rw [rl.len]; exact h.1, δ, m, xs, R, rl, en, st, h.2, k⟩
    | _ => exact h.elim⟩
/-- target = value -/
def dAsg (g : DG) (e : DE) : DS := fun P δ m => e δ m fun d m1 => g d δ m1 P.nx
theorem pds_asg {tg : Expr} {g : DG} (hg : PDG X Y tg g) (he : PD X Y e de) (hs : swapsWithSole [tg] e pos.line X.env = pure false := by rfl) (hw : swappedStores [tg] e X.env = pure none := by rfl)
    (h1 : (assignEach [tg] X.env).map (·.2) = [assign tg X.env] := by rfl) : PDS X Y (.Assign [tg] e pos) (dAsg g de) :=
  ⟨ps_weak (ps_asg he.pe hg.pg hs hw h1) fun E σ H ⟨δ, m, P, en, st, h, k⟩ => lE_bind en st h fun v H1 d m1 r1 e1 en1 st1 rp =>
    ⟨δ, m1, d, P.nx, rp, en1, st1, r1, fun σ' H' δ' m' q ex => k.nx σ' H' δ' m' q (e1.trans ex)⟩⟩
/-- o[i] = .. -/
def subG (o i : DE) : DG := fun v δ m R => o δ m fun d m1 => i δ m1 fun k m2 => match d, k with
  | .ptr a, .int n => ∃ xs j, m2 a = some (.lst xs) ∧ L2.ixN xs.length n = some j ∧ R δ (up m2 a (.lst (xs.set j v)))
  | _, _ => False
theorem pdg_sub {o i : Expr} {dO dI : DE} (ho : PD X Y o dO) (hi : PD X Y i dI)
    (ha : ∀ v, assign (.Subscript o i pos) X.env v = (do
      let ov ← holding [v] (eval o X.env)
      let iv ← holding [v, ov] (eval i X.env)
      standAt pos
      holding [v, ov, iv] (setItem ov iv v)
      release [v, ov, iv] []) := by intro _; rfl) : PDG X Y (.Subscript o i pos) (subG dO dI) :=
  ⟨pg_weak (pg_sub ho.pe hi.pe set_list ha) fun v σ H Q ⟨δ, m, d, R, r, en, st, h, k⟩ => lE_bind en st h fun w H1 dd m1 r1 e1 en1 st1 rp1 =>
    lE_bind en1 st1 r1 fun u H2 di m2 r2 e2 en2 st2 rp2 => by
      split at r2
      · cases rp1
        cases rp2
        obtain ⟨xs, j, q1, q2, q3⟩ := r2
        obtain ⟨vs, e, rl⟩ := st2 _ _ q1
        refine ⟨_, vs, _, j, rfl, rfl, e, by rw [rl.len]; exact q2, ?_⟩
        have ex : ∀ u' o', Ext m2 H2 (up m2 _ u') (L2.upd H2 _ o') := fun u' o' => ext_put q1
        have r' := (r.ext (e1.trans e2))
        exact k _ _ _ _ q3 ((e1.trans e2).trans (ex _ _)) (en2.ext (ex _ _)) (sto_at st2 (ex _ _) ⟨_, upd_same, (rl.ext (ex _ _)).set (r'.ext (ex _ _)) j⟩)
      · exact r2.elim⟩
end
end Dl

/-! The data layer: methods of lists, loops, comprehensions. -/
namespace Dl
open PySem PySem.Spec PyProof.Rows L2

/-! ### methods of a list that may change -/
abbrev OM := Addr → List D → Sto → (D → Sto → Prop) → Prop
def lM (K : PySem.W.Frag) (g : OM) : V → List V → Hp → VK → Prop := fun x xs H Q => ∃ m a ds R, x = .ref a ∧ RpL K m H xs ds ∧ StoOk K m H ∧ g a ds m R ∧ Aft K m H R Q
structure MetD (X : Cx) (id : String) (g : OM) : Prop where
  ok : MtR X id (lM X.K g)
def dLM (g : OM) (o : DE) (t : DA) : DE := fun δ m R => o δ m fun d m1 => match d with
  | .ptr a => (∃ u ds, m1 a = some u ∧ seqMO u = some ds) ∧ t δ m1 fun ds m2 => g a ds m2 R
  | _ => False
section
variable {X : Cx} {Y : XS} {o e : Expr} {es : List Expr} {dO : DE} {t : DA} {name : Str} {apos cpos : Pos} {id : String} {g : OM}
theorem mt_weak {id : String} {r r' : V → List V → Hp → VK → Prop} (h : MtM X id r) (w : ∀ x xs H Q, r' x xs H Q → r x xs H Q) : MtR X id r' :=
  fun pins s σ H x xs v us Q I r1 r2 q => h pins s σ H x xs v us Q I r1 r2 (w x xs H Q q)
theorem seq_tyV {K : PySem.W.Frag} {m : Sto} {H : Hp} {a : Addr} {u : MO} {ds : List D} (st : StoOk K m H) (h : m a = some u) (k : seqMO u = some ds) : tyV K "list" (.ref a) H := by
  have g := st a u h
  cases u with
  | lst ds => obtain ⟨vs, e, _⟩ := g; exact .inl ⟨rfl, vs, SqL.of e⟩
  | seq ds => obtain ⟨vs, e, _⟩ := g; exact .inl ⟨rfl, vs, .inl e⟩
  | _ => cases k
theorem pd_lm0 (pa : PlainAttrs "list") (slot : Slot "list" name id) (hty : typeOf (.builtin id) = pure (.type "method_descriptor")) (hm : MetD X id g) (ho : PD X Y o dO)
    (hbase : attributeBase o name X.env (eval o X.env) = eval o X.env := by rfl) (hline : (apos.endLine == cpos.line) = true := by rfl) : PD X Y (.Call (.Attribute o name apos) [] [] cpos) (dLM g dO dNil) :=
  ⟨pe_weak (pe_bm0 pa slot hty hm.ok ho.pe hbase hline) fun σ H Q ⟨δ, m, R, en, st, h, k⟩ => lE_bind en st h fun v H1 d m1 r1 e1 en1 st1 rp => by
    cases d with
    | ptr a =>
      cases rp
      obtain ⟨⟨u, ds, h1, h2⟩, h3⟩ := r1
      exact ⟨seq_tyV st1 h1 h2, m1, a, [], R, rfl, .nil, st1, h3, k.on e1⟩
    | _ => exact r1.elim⟩
theorem pd_lm (pa : PlainAttrs "list") (slot : Slot "list" name id) (hty : typeOf (.builtin id) = pure (.type "method_descriptor")) (hm : MetD X id g) (ho : PD X Y o dO) (ha : PDA X Y (e :: es) t)
    (hbase : attributeBase o name X.env (eval o X.env) = eval o X.env := by rfl)
    (hfew : ((backTo cpos (starEach (e :: es) X.env)).all (fun x => !x.1) && (backToKw cpos (keywordEach [] X.env)).all (fun x => x.1.isSome)
      && decide ((e :: es).length + ([] : List Keyword).length + (if ([] : List Keyword).isEmpty then 0 else 1) < 30)) = true := by rfl)
    (hline : (apos.endLine == cpos.line) = true := by rfl) (hs : starEach (e :: es) X.env = (false, eval e X.env) :: starEach es X.env := by rfl) (hplain : (backTo cpos (starEach es X.env)).any (·.1) = false := by rfl) :
    PD X Y (.Call (.Attribute o name apos) (e :: es) [] cpos) (dLM g dO t) :=
  ⟨pe_weak (pe_bm pa slot hty hm.ok ho.pe ha.pa hbase hfew hline hs hplain) fun σ H Q ⟨δ, m, R, en, st, h, k⟩ => lE_bind en st h fun v H1 d m1 r1 e1 en1 st1 rp => by
    cases d with
    | ptr a =>
      cases rp
      obtain ⟨⟨u, ds, h1, h2⟩, h3⟩ := r1
      exact ⟨seq_tyV st1 h1 h2, lA_bind en1 st1 h3 fun vs H2 ds m2 r2 e2 _ st2 rl => ⟨m2, a, ds, R, rfl, rl, st2, r2, k.on (e1.trans e2)⟩⟩
    | _ => exact r1.elim⟩
def appM : OM := fun a ds m R => match ds with
  | [d] => ∃ xs, m a = some (.lst xs) ∧ xs.length < sizeLine ∧ R .non (up m a (.lst (xs ++ [d])))
  | _ => False
def extM : OM := fun a ds m R => match ds with
  | [d] => ∃ xs ys, m a = some (.lst xs) ∧ LstIs m d ys ∧ xs.length + ys.length ≤ sizeLine ∧ R .non (up m a (.lst (xs ++ ys)))
  | _ => False
def popM : OM := fun a ds m R => match ds with
  | [] => ∃ xs x, m a = some (.lst xs) ∧ xs[xs.length - 1]? = some x ∧ R x (up m a (.lst xs.dropLast))
  | _ => False
def popAtM : OM := fun a ds m R => match ds with
  | [.int i] => ∃ xs x, m a = some (.lst xs) ∧ -(2 ^ 63) ≤ i ∧ i < 2 ^ 63 ∧ 0 ≤ i ∧ xs[i.toNat]? = some x ∧ R x (up m a (.lst (xs.eraseIdx i.toNat)))
  | _ => False
def clearM : OM := fun a ds m R => match ds with
  | [] => ∃ xs, m a = some (.lst xs) ∧ R .non (up m a (.lst []))
  | _ => False
def revM : OM := fun a ds m R => match ds with
  | [] => ∃ xs, m a = some (.lst xs) ∧ R .non (up m a (.lst xs.reverse))
  | _ => False
theorem md_append : MetD X "list.append" appM := ⟨mt_weak mt_append fun x xs H Q ⟨m, a, ds, R, ex, rl, st, h, k⟩ => by
  subst ex
  unfold appM at h
  split at h
  · obtain ⟨v, rfl, r⟩ := rl.one
    obtain ⟨ys, h1, h2, h3⟩ := h
    obtain ⟨vs, e, rl⟩ := st _ _ h1
    have ex : ∀ u' o', Ext m H (up m a u') (L2.upd H a o') := fun u' o' => ext_put h1
    exact ⟨a, vs, v, rfl, rfl, e, by rw [rl.len]; exact h2, k _ _ _ _ h3 (ex _ _) (sto_at st (ex _ _) ⟨_, upd_same, (rl.ext (ex _ _)).app (.cons (r.ext (ex _ _)) .nil)⟩) .non⟩
  · exact h.elim⟩
theorem md_extend : MetD X "list.extend" extM := ⟨mt_weak mt_extend fun x xs H Q ⟨m, a, ds, R, ex, rl, st, h, k⟩ => by
  subst ex
  unfold extM at h
  split at h
  · obtain ⟨v, rfl, r⟩ := rl.one
    obtain ⟨xs, ys, h1, h2, h3, h4⟩ := h
    obtain ⟨vs, e, rl1⟩ := st _ _ h1
    obtain ⟨b, ws, rfl, e', rl'⟩ := h2.low r st
    have ex : ∀ u' o', Ext m H (up m a u') (L2.upd H a o') := fun u' o' => ext_put h1
    exact ⟨a, b, vs, ws, rfl, rfl, e, e', by rw [rl1.len, rl'.len]; exact h3, k _ _ _ _ h4 (ex _ _) (sto_at st (ex _ _) ⟨_, upd_same, (rl1.ext (ex _ _)).app (rl'.ext (ex _ _))⟩) .non⟩
  · exact h.elim⟩
theorem md_pop : MetD X "list.pop" popM := ⟨mt_weak mt_pop fun x xs H Q ⟨m, a, ds, R, ex, rl, st, h, k⟩ => by
  subst ex
  unfold popM at h
  split at h
  · cases rl
    obtain ⟨ys, d, h1, h2, h3⟩ := h
    obtain ⟨vs, e, rl⟩ := st _ _ h1
    obtain ⟨v, e2, r⟩ := rl.get h2
    have ex : ∀ u' o', Ext m H (up m a u') (L2.upd H a o') := fun u' o' => ext_put h1
    exact ⟨a, vs, v, rfl, rfl, e, by rw [rl.len]; exact e2, k _ _ _ _ h3 (ex _ _) (sto_at st (ex _ _) ⟨_, upd_same, (rl.ext (ex _ _)).dropLast⟩) (r.ext (ex _ _))⟩
  · exact h.elim⟩
theorem md_popAt : MetD X "list.pop" popAtM := ⟨mt_weak mt_popAt fun x xs H Q ⟨m, a, ds, R, ex, rl, st, h, k⟩ => by
  subst ex
  unfold popAtM at h
  split at h
  · rename_i i
    obtain ⟨v0, rfl, r0⟩ := rl.one
    cases r0
    obtain ⟨ys, d, h1, h2, h3, h4, h5, h6⟩ := h
    obtain ⟨vs, e, rl⟩ := st _ _ h1
    obtain ⟨v, e2, r⟩ := rl.get h5
    have ex : ∀ u' o', Ext m H (up m a u') (L2.upd H a o') := fun u' o' => ext_put h1
    have hl : i.toNat < vs.length := (List.getElem?_eq_some_iff.mp e2).1
    refine ⟨a, vs, i, i.toNat, v, rfl, rfl, e, h2, h3, ?_, e2, k _ _ _ _ h6 (ex _ _) (sto_at st (ex _ _) ⟨_, upd_same, (rl.ext (ex _ _)).erase _⟩) (r.ext (ex _ _))⟩
    exact (L2.ixN_seq (n := vs.length) (i := i) (j := i.toNat) (by unfold L2.ixN; rw [if_pos h4, if_pos (by omega)])).1
  · exact h.elim⟩
theorem md_clear : MetD X "list.clear" clearM := ⟨mt_weak mt_clear fun x xs H Q ⟨m, a, ds, R, ex, rl, st, h, k⟩ => by
  subst ex
  unfold clearM at h
  split at h
  · cases rl
    obtain ⟨ys, h1, h3⟩ := h
    obtain ⟨vs, e, rl⟩ := st _ _ h1
    have ex : ∀ u' o', Ext m H (up m a u') (L2.upd H a o') := fun u' o' => ext_put h1
    exact ⟨a, vs, rfl, rfl, e, k _ _ _ _ h3 (ex _ _) (sto_at st (ex _ _) ⟨_, upd_same, .nil⟩) .non⟩
  · exact h.elim⟩
theorem md_reverse : MetD X "list.reverse" revM := ⟨mt_weak mt_reverse fun x xs H Q ⟨m, a, ds, R, ex, rl, st, h, k⟩ => by
  subst ex
  unfold revM at h
  split at h
  · cases rl
    obtain ⟨ys, h1, h3⟩ := h
    obtain ⟨vs, e, rl⟩ := st _ _ h1
    have ex : ∀ u' o', Ext m H (up m a u') (L2.upd H a o') := fun u' o' => ext_put h1
    exact ⟨a, vs, rfl, rfl, e, k _ _ _ _ h3 (ex _ _) (sto_at st (ex _ _) ⟨_, upd_same, (rl.ext (ex _ _)).rev⟩) .non⟩
  · exact h.elim⟩
end

/-! ### what is walked -/
/-- gives the items, and what must stay so of the store while they are walked -/
abbrev DI := Ev → Sto → (List D → (Sto → Prop) → Sto → Prop) → Prop
def ItOk (K : PySem.W.Frag) (J : It) (m : Sto) (H : Hp) (xs : List D) (keep : Sto → Prop) : Prop :=
  ∀ m2 H2, Ext m H m2 H2 → StoOk K m2 H2 → keep m2 → ∀ i : Nat,
    (∀ d, xs[i]? = some d → J.go i H2 ∧ ∀ x H3, J.yld i H2 x H3 → Ext m2 H2 m2 H3 ∧ StoOk K m2 H3 ∧ Rp K m2 H3 x d) ∧ (xs.length ≤ i → J.stop i H2)
def lI (K : PySem.W.Frag) (Y : XS) (di : DI) : TI := fun σ H R => ∃ δ m RR, EnvOk K Y m H σ δ ∧ StoOk K m H ∧ di δ m RR ∧
  ∀ J H' xs keep m', RR xs keep m' → Ext m H m' H' → StoOk K m' H' → ItOk K J m' H' xs keep → R J H'
structure PDI (X : Cx) (Y : XS) (tg iter : Expr) (di : DI) : Prop where
  pi : PI X tg iter (lI X.K Y di)
def iSeq (K : PySem.W.Frag) (tl : TE) : TI := fun σ H R => tl σ H fun x H1 => ∃ a, x = .ref a ∧ (((∃ xs, SqL K H1 a xs) ∧ R (Itl K a) H1) ∨ ((∃ xs, SqT K H1 a xs) ∧ R (Itt K a) H1))
section
variable {X : Cx} {Y : XS} {tg : Expr}
theorem pi_weak {iter : Expr} {t t' : TI} (h : PI X tg iter t) (w : ∀ σ H R, t' σ H R → t σ H R) : PI X tg iter t' := ⟨fun pins s σ H R I q => h.run pins s σ H R I (w σ H R q)⟩
/-- a list or a tuple -/
theorem pi_seq {l : Expr} {tl : TE} (hl : PE X l tl) : PI X tg l (iSeq X.K tl) := by
  refine ⟨fun pins s σ H R I h => thn (hl.run pins s σ H _ I h) fun v s1 ⟨x, H1, I1, r1, q1⟩ => ?_⟩
  obtain ⟨a, rfl, q⟩ := q1
  cases r1
  have kp : ∀ (o : Obj) (b : Addr) (u : Obj), s1.heap.get? b = some u → (s1.heap.push o).get? b = some u := fun o b u e => Heap.get?_push_of_some _ e
  have fp : ∀ b ∈ [s1.heap.objs.size], FpOk X pins H1 b := fun b hb => by
    rw [List.mem_singleton.mp hb]
    exact I1.fpOk (Nat.le_refl _) (I1.hok.fresh (Nat.le_refl _))
  rcases q with ⟨⟨xs, hq⟩, q⟩ | ⟨⟨xs, hq⟩, q⟩
  · obtain ⟨its, rv, pl, hz⟩ := I1.list hq
    refine wpAny_pyIter_list pl.isList ⟨s1.heap.objs.size, [s1.heap.objs.size], _, _, H1, rfl, I1.kept (t' := s1.toks) (kp _), turn_list a _, ?_, fp, q⟩
    exact ⟨_, Heap.get?_push_size _ rfl, rfl, rfl⟩
  · obtain ⟨its, rv, pl, hz⟩ := I1.tuple hq
    have pl' : s1.heap.IsTuple a its.toArray := pl
    refine wpAny_pyIter_tuple pl' ⟨s1.heap.objs.size, [s1.heap.objs.size], _, _, H1, rfl, I1.kept (t' := s1.toks) (kp _), turn_tuple a _, ?_, fp, q⟩
    exact ⟨_, Heap.get?_push_size _ rfl, rfl, rfl⟩
def seqI (e : DE) : DI := fun δ m R => e δ m fun d m1 => match d with
  | .lst xs => R xs (fun _ => True) m1
  | .tup xs => R xs (fun _ => True) m1
  | .ptr a => ∃ o xs, m1 a = some o ∧ seqMO o = some xs ∧ R xs (fun m2 => m2 a = some o) m1
  | _ => False
theorem itt_ok {K : PySem.W.Frag} {a : Addr} {H : Hp} {m : Sto} {vs : List V} {xs : List D} (q : SqT K H a vs) (rl : RpL K m H vs xs) (i : Nat) (st : StoOk K m H) :
    (∀ d, xs[i]? = some d → (Itt K a).go i H ∧ ∀ x H3, (Itt K a).yld i H x H3 → Ext m H m H3 ∧ StoOk K m H3 ∧ Rp K m H3 x d) ∧ (xs.length ≤ i → (Itt K a).stop i H) := by
  refine ⟨fun d hd => ?_, fun hl => ⟨vs, q, by rw [rl.len]; exact hl⟩⟩
  obtain ⟨v, e, r⟩ := rl.get hd
  refine ⟨⟨vs, v, q, e⟩, fun x H3 hy => ?_⟩
  obtain ⟨rfl, hy⟩ := hy
  have ex := hy vs q
  rw [e] at ex
  cases ex
  exact ⟨Ext.rfl, st, r⟩
theorem itl_ok' {K : PySem.W.Frag} {a : Addr} {H : Hp} {m : Sto} {vs : List V} {xs : List D} (q : SqL K H a vs) (rl : RpL K m H vs xs) (i : Nat) (st : StoOk K m H) :
    (∀ d, xs[i]? = some d → (Itl K a).go i H ∧ ∀ x H3, (Itl K a).yld i H x H3 → Ext m H m H3 ∧ StoOk K m H3 ∧ Rp K m H3 x d) ∧ (xs.length ≤ i → (Itl K a).stop i H) := by
  refine ⟨fun d hd => ?_, fun hl => ⟨vs, q, by rw [rl.len]; exact hl⟩⟩
  obtain ⟨v, e, r⟩ := rl.get hd
  refine ⟨⟨vs, v, q, e⟩, fun x H3 hy => ?_⟩
  obtain ⟨rfl, hy⟩ := hy
  have ex := hy vs q
  rw [e] at ex
  cases ex
  exact ⟨Ext.rfl, st, r⟩
theorem pdi_seq {l : Expr} {tl : DE} (hl : PD X Y l tl) : PDI X Y tg l (seqI tl) :=
  ⟨pi_weak (pi_seq hl.pe) fun σ H R ⟨δ, m, RR, en, st, h, k⟩ => lE_bind en st h fun v H1 d m1 r1 e1 en1 st1 rp => by
    cases d with
    | lst xs =>
      obtain ⟨a, vs, rfl, fr, e, rl⟩ := rp.lstV
      refine ⟨a, rfl, .inl ⟨⟨vs, SqL.of e⟩, k _ _ _ _ _ r1 e1 st1 fun m2 H2 ex s2 _ i => ?_⟩⟩
      exact itl_ok' (SqL.of (ex _ _ fr e).2) (rl.ext ex) i s2
    | tup xs =>
      obtain ⟨a, vs, rfl, e, rl⟩ := id rp.tupV
      refine ⟨a, rfl, .inr ⟨⟨vs, e⟩, k _ _ _ _ _ r1 e1 st1 fun m2 H2 ex s2 _ i => ?_⟩⟩
      obtain ⟨a', vs', ea, e', rl'⟩ := (rp.ext ex).tupV
      cases ea
      exact itt_ok e' rl' i s2
    | ptr a =>
      cases rp
      obtain ⟨o, xs, h1, h2, h3⟩ := r1
      have low : ∀ {m2 : Sto} {H2 : Hp}, StoOk X.K m2 H2 → m2 a = some o → ∃ vs, SqL X.K H2 a vs ∧ RpL X.K m2 H2 vs xs := fun {m2 H2} s2 e => by
        have g := s2 a o e
        cases o with
        | lst ds => cases h2; obtain ⟨vs, e, r⟩ := g; exact ⟨vs, SqL.of e, r⟩
        | seq ds => cases h2; obtain ⟨vs, e, r⟩ := g; exact ⟨vs, .inl e, r⟩
        | _ => cases h2
      obtain ⟨vs, e, _⟩ := low st1 h1
      refine ⟨a, rfl, .inl ⟨⟨vs, e⟩, k _ _ _ _ _ h3 e1 st1 fun m2 H2 ex s2 kp i => ?_⟩⟩
      obtain ⟨vs', e', rl'⟩ := low s2 kp
      exact itl_ok' e' rl' i s2
    | _ => exact r1.elim⟩
/-- lo, lo + 1, .. -/
def rgL (lo : Int) (n : Nat) : List D := (List.range n).map fun i => D.int (lo + (i : Nat))
theorem rgL_get {lo : Int} {n i : Nat} (h : i < n) : (rgL lo n)[i]? = some (.int (lo + (i : Nat))) := by
  unfold rgL
  rw [List.getElem?_map, List.getElem?_range h]
  rfl
theorem rgL_len {lo : Int} {n : Nat} : (rgL lo n).length = n := by
  unfold rgL
  rw [List.length_map, List.length_range]
theorem itr_ok {K : PySem.W.Frag} {lo : Int} {n : Nat} {m : Sto} {H : Hp} {keep : Sto → Prop} : ItOk K (Itr lo n) m H (rgL lo n) keep := fun m2 H2 ex s2 _ i => by
  refine ⟨fun d hd => ?_, fun hl => by rw [rgL_len] at hl; exact hl⟩
  have hi : i < n := by
    have := (List.getElem?_eq_some_iff.mp hd).1
    rw [rgL_len] at this
    exact this
  rw [rgL_get hi] at hd
  cases hd
  refine ⟨hi, fun x H3 hy => ?_⟩
  obtain ⟨rfl, rfl⟩ := hy
  exact ⟨Ext.rfl, s2, .int _⟩
def rngI1 (t : DE) : DI := fun δ m R => t δ m fun d m1 => match d with
  | .int j => j < 2 ^ 62 ∧ -(2 ^ 62) ≤ j ∧ R (rgL 0 j.toNat) (fun _ => True) m1
  | _ => False
def rngI2 (a b : DE) : DI := fun δ m R => a δ m fun d m1 => b δ m1 fun e m2 => match d, e with
  | .int i, .int j => (-(2 ^ 62) ≤ i ∧ i < 2 ^ 62 ∧ -(2 ^ 62) ≤ j ∧ j < 2 ^ 62) ∧ R (rgL i (j - i).toNat) (fun _ => True) m2
  | _, _ => False
theorem pdi_range1 {a : Expr} {da : DE} {p pos : Pos} (hg : Gl X "range") (hm : X.mg "range" = none) (ha : PD X Y a da) (hs : starEach [a] X.env = [(false, eval a X.env)] := by rfl) : PDI X Y tg (.Call (.Name "range" p) [a] [] pos) (rngI1 da) :=
  ⟨pi_weak (pi_range1 hg hm (pa_cons ha.pe pa_nil hs) hs) fun σ H R ⟨δ, m, RR, en, st, h, k⟩ => lE_bind en st h fun v H1 d m1 r1 e1 en1 st1 rp => by
    cases d with
    | int j =>
      cases rp
      exact ⟨j, rfl, r1.2.1, r1.1, k _ _ _ _ _ r1.2.2 e1 st1 itr_ok⟩
    | _ => exact r1.elim⟩
theorem pdi_range2 {a b : Expr} {da db : DE} {p pos : Pos} (hg : Gl X "range") (hm : X.mg "range" = none) (ha : PD X Y a da) (hb : PD X Y b db) (hs : starEach [a, b] X.env = [(false, eval a X.env), (false, eval b X.env)] := by rfl) (hs2 : starEach [b] X.env = [(false, eval b X.env)] := by rfl) :
    PDI X Y tg (.Call (.Name "range" p) [a, b] [] pos) (rngI2 da db) :=
  ⟨pi_weak (pi_range2 hg hm (pa_cons ha.pe (pa_cons hb.pe pa_nil hs2) (by rw [hs, hs2])) hs hs2) fun σ H R ⟨δ, m, RR, en, st, h, k⟩ => lE_bind en st h fun v H1 d m1 r1 e1 en1 st1 rp =>
    lE_bind en1 st1 r1 fun w H2 e m2 r2 e2 en2 st2 rp2 => by
      split at r2
      · cases rp
        cases rp2
        exact ⟨_, _, rfl, r2.1, k _ _ _ _ _ r2.2 (e1.trans e2) st2 itr_ok⟩
      · exact r2.elim⟩
/-- the signs of a text -/
def strI (e : DE) : DI := fun δ m R => e δ m fun d m1 => match d with
  | .str z => R (z.cps.toList.map fun c => D.str ⟨#[c]⟩) (fun _ => True) m1
  | _ => False
theorem pdi_str {l : Expr} {tl : DE} (hl : PD X Y l tl) : PDI X Y tg l (strI tl) :=
  ⟨pi_weak (pi_str hl.pe) fun σ H R ⟨δ, m, RR, en, st, h, k⟩ => lE_bind en st h fun v H1 d m1 r1 e1 en1 st1 rp => by
    cases d with
    | str z =>
      cases rp
      refine ⟨z, rfl, k _ _ _ _ _ r1 e1 st1 fun m2 H2 ex s2 _ i => ⟨fun d hd => ?_, fun hl => by rw [List.length_map] at hl; exact hl⟩⟩
      rw [List.getElem?_map] at hd
      have hi : i < z.cps.toList.length := by
        cases q : z.cps.toList[i]? with
        | none => rw [q] at hd; cases hd
        | some c => exact (List.getElem?_eq_some_iff.mp q).1
      refine ⟨hi, fun x H3 hy => ?_⟩
      obtain ⟨rfl, c, e, rfl⟩ := hy
      rw [Array.getElem?_toList, e] at hd
      cases hd
      exact ⟨Ext.rfl, s2, .str _⟩
    | _ => exact r1.elim⟩

/-! ### loops -/
def dFor (di : DI) (g : DG) (b : DS) : DS := fun P δ m => di δ m fun xs keep m1 => ∃ I : Nat → Ev → Sto → Prop, I 0 δ m1 ∧ (∀ i δ m, I i δ m → keep m) ∧
  (∀ i x δ m, xs[i]? = some x → I i δ m → g x δ m fun δ2 m2 => b { nx := I (i + 1), rt := P.rt, bk := P.nx, ct := I (i + 1) } δ2 m2) ∧ (∀ δ m, I xs.length δ m → P.nx δ m)
theorem pds_for {iter : Expr} {body : List Stmt} {di : DI} {g : DG} {b : DS} {pos : Pos} (hp : PassesOwn (model X.prog X.w) X.A X.env X.xe) (hc : X.calm = true) (hi : PDI X Y tg iter di) (hg : PDG X Y tg g) (hb : PDSs X Y body b)
    (hs : ∀ x, foldedSetIterable iter X.env x = pure x := by intro _; rfl) : PDS X Y (.For tg iter body [] pos) (dFor di g b) :=
  ⟨ps_weak (ps_for hp hc hi.pi hg.pg hb.ps hs) fun E σ H ⟨δ, m, P, en, st, h, k⟩ => by
    refine ⟨δ, m, _, en, st, h, fun J H1 xs keep m1 ⟨I, h0, hk, hs, hd⟩ e1 st1 it => ?_⟩
    refine ⟨fun i n σ H => n = xs.length - i ∧ i ≤ xs.length ∧ ∃ δ m, I i δ m ∧ EnvOk X.K Y m H σ δ ∧ StoOk X.K m H ∧ Ext m1 H1 m H, ⟨xs.length, by omega, Nat.zero_le _, δ, m1, h0, en.ext e1, st1, Ext.rfl⟩, ?_⟩
    rintro i n σ2 H2 ⟨hn, hi, δ2, m2, q, en2, st2, e2⟩
    have w := it m2 H2 e2 st2 (hk _ _ _ q) i
    by_cases hl : i < xs.length
    · have hx : xs[i]? = some xs[i] := List.getElem?_eq_getElem hl
      obtain ⟨go, yl⟩ := w.1 _ hx
      refine .inr ⟨go, fun σ' H' => ∃ δ m, I (i + 1) δ m ∧ EnvOk X.K Y m H' σ' δ ∧ StoOk X.K m H' ∧ Ext m1 H1 m H', fun σ' H' ⟨δ', m', z⟩ => ⟨xs.length - (i + 1), by omega, rfl, hl, δ', m', z⟩, fun x H3 hy => ?_⟩
      obtain ⟨e3, st3, r3⟩ := yl x H3 hy
      refine ⟨δ2, m2, _, _, r3, en2.ext e3, st3, hs i _ δ2 m2 hx q, fun σ4 H4 δ4 m4 q4 e4 en4 st4 => ?_⟩
      refine ⟨δ4, m4, _, en4, st4, q4, fun σ5 H5 δ5 m5 q5 e5 en5 st5 => ?_, fun σ5 H5 δ5 m5 q5 e5 en5 st5 => ?_, fun σ5 H5 δ5 m5 q5 e5 en5 st5 => ?_, ?_⟩
      · exact ⟨δ5, m5, q5, en5, st5, ((e2.trans e3).trans e4).trans e5⟩
      · exact k.nx σ5 H5 δ5 m5 q5 ((((e1.trans e2).trans e3).trans e4).trans e5) en5 st5
      · exact ⟨δ5, m5, q5, en5, st5, ((e2.trans e3).trans e4).trans e5⟩
      · exact k.rt.on (((e1.trans e2).trans e3).trans e4)
    · have ei : i = xs.length := by omega
      exact .inl ⟨w.2 (by omega), k.nx σ2 H2 δ2 m2 (hd δ2 m2 (ei ▸ q)) (e1.trans e2) en2 st2⟩⟩
def dWhile (c : DT) (b : DS) : DS := fun P δ m => ∃ W : Nat → Ev → Sto → Prop, (∃ n, W n δ m) ∧ ∀ n δ m, W n δ m → c δ m fun t m1 =>
  (t = true → b { nx := fun δ' m' => ∃ n', n' < n ∧ W n' δ' m', rt := P.rt, bk := P.nx, ct := fun δ' m' => ∃ n', n' < n ∧ W n' δ' m' } δ m1) ∧ (t = false → P.nx δ m1)
theorem pds_while {c : Expr} {body : List Stmt} {tc : DT} {b : DS} {pos : Pos} (hp : PassesOwn (model X.prog X.w) X.A X.env X.xe) (hc : PDT X Y c tc) (hb : PDSs X Y body b) : PDS X Y (.While c body [] pos) (dWhile tc b) :=
  ⟨ps_weak (ps_while hp hc.pt hb.ps) fun E σ H ⟨δ, m, P, en, st, ⟨W, ⟨n0, h0⟩, hs⟩, k⟩ => by
    refine ⟨fun n σ H' => ∃ δ m', W n δ m' ∧ EnvOk X.K Y m' H' σ δ ∧ StoOk X.K m' H' ∧ Ext m H m' H', ⟨n0, δ, m, h0, en, st, Ext.rfl⟩, ?_⟩
    rintro n σ1 H1 ⟨δ1, m1, q1, en1, st1, e1⟩
    refine lT_bind en1 st1 (hs n δ1 m1 q1) fun t H2 m2 q2 e2 en2 st2 => ?_
    cases t with
    | true =>
      refine iteT ⟨fun σ' H' => ∃ n', n' < n ∧ ∃ δ m', W n' δ m' ∧ EnvOk X.K Y m' H' σ' δ ∧ StoOk X.K m' H' ∧ Ext m H m' H', fun _ _ z => z, ?_⟩
      refine ⟨δ1, m2, _, en2, st2, q2.1 rfl, fun σ5 H5 δ5 m5 ⟨n', l, q5⟩ e5 en5 st5 => ?_, fun σ5 H5 δ5 m5 q5 e5 en5 st5 => ?_, fun σ5 H5 δ5 m5 ⟨n', l, q5⟩ e5 en5 st5 => ?_, ?_⟩
      · exact ⟨n', l, δ5, m5, q5, en5, st5, (e1.trans e2).trans e5⟩
      · exact k.nx σ5 H5 δ5 m5 q5 ((e1.trans e2).trans e5) en5 st5
      · exact ⟨n', l, δ5, m5, q5, en5, st5, (e1.trans e2).trans e5⟩
      · exact k.rt.on (e1.trans e2)
    | false => exact iteF (k.nx σ1 H2 δ1 m2 (q2.2 rfl) (e1.trans e2) en2 st2)⟩

/-! ### comprehensions -/
structure PDTs (X : Cx) (Y : XS) (ifs : List Expr) (t : DT) : Prop where
  pt : PTs X ifs (lT X.K Y t)
def dYes : DT := fun _ m R => R true m
theorem pts_weak {ifs : List Expr} {t t' : TT} (h : PTs X ifs t) (w : ∀ σ H Q, t' σ H Q → t σ H Q) : PTs X ifs t' := ⟨fun pins s σ H Q I q => h.run pins s σ H Q I (w σ H Q q)⟩
theorem pdts_nil : PDTs X Y [] dYes := ⟨pts_weak pts_nil fun σ H Q ⟨δ, m, R, en, st, h, k⟩ => k true H m h Ext.rfl st⟩
theorem pdts_one {c : Expr} {t : DT} (h : PDT X Y c t) : PDTs X Y [c] t := ⟨pts_one h.pt⟩
def fin (b : Bool) (p : Addr) (acc : List D) (m : Sto) (R : D → Sto → Prop) : Prop := match b with
  | true => R (.ptr p) m
  | false => R (.lst acc) (del m p)
/-- slots is hold xs -/
def setL (s : List (Option D)) : List Nat → List D → List (Option D)
  | i :: is, d :: ds => setL (s.set i (some d)) is ds
  | _, _ => s
def setAll (δ : Ev) (is : List Nat) (ds : List D) : Ev := { δ with s := setL δ.s is ds }
/-- the items of a target of names: one name, or a tuple of them -/
def tgD (is : List Nat) (tup : Bool) (x : D) : Option (List D) := match tup, x with
  | false, x => some [x]
  | true, .tup ds => if ds.length = is.length then some ds else none
  | true, _ => none
def LcCore (b : Bool) (is : List Nat) (tup : Bool) (t : DT) (e : DE) (δ : Ev) (R : D → Sto → Prop) (xs : List D) (keep : Sto → Prop) (m1 : Sto) : Prop :=
  ∀ p, m1 p = none → ∃ J : Nat → Sto → Prop, J 0 (up m1 p (.lst [])) ∧ (∀ k m, J k m → keep m) ∧
  (∀ k x m, xs[k]? = some x → J k m → ∃ ds, tgD is tup x = some ds ∧ t (setAll δ is ds) m fun c m3 => (c = true → e (setAll δ is ds) m3 fun d m4 => ∃ acc, m4 p = some (.lst acc) ∧ acc.length < sizeLine ∧ J (k + 1) (up m4 p (.lst (acc ++ [d])))) ∧ (c = false → J (k + 1) m3)) ∧
  (∀ m, J xs.length m → ∃ acc, m p = some (.lst acc) ∧ fin b p acc m R)
def dLc (b : Bool) (is : List Nat) (tup : Bool) (di : DI) (t : DT) (e : DE) : DE := fun δ m R => di δ m (LcCore b is tup t e δ R)
/-- the target's own reading -/
def gNames : List Nat → TGs
  | [] => gNil
  | i :: is => gCons (gName i) (gNames is)
def gTarget (K : PySem.W.Frag) (is : List Nat) (tup : Bool) : TG := match tup, is with
  | false, [i] => gName i
  | true, is => gTup K is.length (gNames is)
  | _, _ => fun _ _ _ _ => False
def setV (σ : L2.St) : List Nat → List V → L2.St
  | i :: is, v :: vs => setV (σ.set i (some v)) is vs
  | _, _ => σ
theorem setV_len : ∀ (is : List Nat) (vs : List V) (σ : L2.St), (setV σ is vs).length = σ.length
  | [], _, _ => rfl
  | _ :: _, [], _ => rfl
  | i :: is, v :: vs, σ => by
    show (setV (σ.set i (some v)) is vs).length = _
    rw [setV_len is vs, List.length_set]
theorem setV_out : ∀ (is : List Nat) (vs : List V) (σ : L2.St) (j : Nat), j ∉ is → (setV σ is vs)[j]? = σ[j]?
  | [], _, _, _, _ => rfl
  | _ :: _, [], _, _, _ => rfl
  | i :: is, v :: vs, σ, j, h => by
    show (setV (σ.set i (some v)) is vs)[j]? = _
    have h1 : i ≠ j := fun z => h (by rw [z]; exact List.mem_cons_self)
    rw [setV_out is vs _ j fun z => h (List.mem_cons_of_mem _ z), List.getElem?_set_ne h1]
theorem wipe_at : ∀ (vs : List Nat) (σ : L2.St) (j : Nat), (wipe σ vs)[j]? = if j ∈ vs then (σ[j]?.map fun _ => none) else σ[j]?
  | [], σ, j => by simp [wipe]
  | v :: vs, σ, j => by
    show ((wipe σ vs).set v none)[j]? = _
    by_cases h : v = j
    · subst h
      rw [List.getElem?_set, if_pos rfl, wipe_length, if_pos List.mem_cons_self]
      split
      · rename_i hl
        rw [List.getElem?_eq_getElem hl]
        rfl
      · rename_i hl
        rw [List.getElem?_eq_none (Nat.le_of_not_lt hl)]
        rfl
    · rw [List.getElem?_set_ne h, wipe_at vs]
      have e : (j ∈ v :: vs) ↔ j ∈ vs := ⟨fun z => (List.mem_cons.mp z).elim (fun z => absurd z.symm h) id, List.mem_cons_of_mem _⟩
      by_cases hj : j ∈ vs
      · rw [if_pos hj, if_pos (e.mpr hj)]
      · rw [if_neg hj, if_neg fun z => hj (e.mp z)]
theorem wipe_setV (σ : L2.St) (is : List Nat) (vs : List V) : wipe (setV (wipe σ is) is vs) is = wipe σ is := by
  apply List.ext_getElem?
  intro j
  rw [wipe_at]
  by_cases hj : j ∈ is
  · rw [if_pos hj, wipe_at is σ j, if_pos hj]
    have hl : (setV (wipe σ is) is vs).length = σ.length := by rw [setV_len, wipe_length]
    by_cases h : j < σ.length
    · rw [List.getElem?_eq_getElem (by omega), List.getElem?_eq_getElem h]
      rfl
    · rw [List.getElem?_eq_none (by omega), List.getElem?_eq_none (by omega)]
  · rw [if_neg hj, setV_out is vs _ j hj]
theorem env_wipe {K : PySem.W.Frag} {Y : XS} {m : Sto} {H : Hp} : ∀ (is : List Nat) {σ : L2.St} {δ : Ev}, EnvOk K Y m H σ δ → ∀ (vs : List V) (ds : List D), RpL K m H vs ds → ds.length = is.length → EnvOk K Y m H (setV (wipe σ is) is vs) (setAll δ is ds) := by
  intro is σ δ en0 vs ds rl hl
  have en := en0.1
  refine ⟨?_, en0.2⟩
  have gen : ∀ (js : List Nat) (vs : List V) (ds : List D) (σ1 : L2.St) (δ1 : List (Option D)), RpL K m H vs ds → ds.length = js.length →
      (σ1.length = δ1.length ∧ ∀ (i : Nat) (d : D), i ∉ js → δ1[i]? = some (some d) → ∃ v, σ1[i]? = some (some v) ∧ Rp K m H v d) → SlotsOk K m H (setV σ1 js vs) (setL δ1 js ds) := by
    intro js
    induction js with
    | nil =>
      intro vs ds σ1 δ1 r hl h
      cases r with
      | nil => exact ⟨h.1, fun i d e => h.2 i d (by simp) e⟩
      | cons _ _ => cases hl
    | cons j js ih =>
      intro vs ds σ1 δ1 r hl h
      cases r with
      | nil => cases hl
      | cons a b =>
        rename_i v0 vs0 d0 ds0
        show SlotsOk K m H (setV (σ1.set j (some v0)) js vs0) (setL (δ1.set j (some d0)) js ds0)
        refine ih _ _ _ _ b (Nat.succ.inj hl) ⟨by rw [List.length_set, List.length_set, h.1], fun i d hi e => ?_⟩
        by_cases hj : j = i
        · subst hj
          rw [List.getElem?_set, if_pos rfl] at e ⊢
          split at e
          · rename_i hlt
            cases e
            rw [if_pos (by rw [h.1]; exact hlt)]
            exact ⟨v0, rfl, a⟩
          · cases e
        · rw [List.getElem?_set_ne hj] at e ⊢
          exact h.2 i d (fun z => (List.mem_cons.mp z).elim (fun z => hj z.symm) hi) e
  refine gen is vs ds _ δ.s rl hl ⟨by rw [wipe_length, en.1], fun i d hi e => ?_⟩
  obtain ⟨v, e1, r⟩ := en.2 i d e
  refine ⟨v, ?_, r⟩
  rw [wipe_at, if_neg hi]
  exact e1
theorem gNames_run : ∀ (is : List Nat) (vs : List V) (σ : L2.St) (H : Hp) (Q : L2.St → Hp → Prop), vs.length = is.length → Q (setV σ is vs) H → gNames is vs σ H Q
  | [], [], _, _, _, _, q => ⟨rfl, q⟩
  | i :: is, v :: vs, σ, H, Q, hl, q => ⟨v, vs, rfl, gNames_run is vs _ H Q (Nat.succ.inj hl) q⟩
  | [], _ :: _, _, _, _, hl, _ => by cases hl
  | _ :: _, [], _, _, _, hl, _ => by cases hl
theorem gTarget_run {K : PySem.W.Frag} {is : List Nat} {tup : Bool} {x : V} {d : D} {ds : List D} {m : Sto} {H : Hp} {σ : L2.St} {Q : L2.St → Hp → Prop} (r : Rp K m H x d) (h : tgD is tup d = some ds) (h1 : tup = false → is.length = 1)
    (q : ∀ vs, RpL K m H vs ds → ds.length = is.length → Q (setV σ is vs) H) : gTarget K is tup x σ H Q := by
  cases tup with
  | false =>
    cases h
    obtain ⟨i, rfl⟩ : ∃ i, is = [i] := by
      match is, h1 rfl with
      | [i], _ => exact ⟨i, rfl⟩
    exact q [x] (.cons r .nil) rfl
  | true =>
    cases d with
    | tup es =>
      unfold tgD at h
      simp only at h
      split at h
      · rename_i hl
        cases h
        obtain ⟨a, vs, rfl, e, rl⟩ := r.tupV
        exact ⟨a, vs, rfl, e, by rw [rl.len]; exact hl, gNames_run is vs σ H Q (by rw [rl.len]; exact hl) (q vs rl hl)⟩
      · cases h
    | _ => cases h
variable {elt iter : Expr} {ifs : List Expr} {scope : Scope} {pos : Pos} {di : DI} {t : DT} {de : DE}
theorem dLc_low {K : PySem.W.Frag} {Y : XS} {b : Bool} {is : List Nat} {tup : Bool} {σ : L2.St} {H : Hp} {Q : VK} (h1 : tup = false → is.length = 1) (h : lE K Y (dLc b is tup di t de) σ H Q) : tLc (lI K Y di) (gTarget K is tup) (lT K Y t) (lE K Y de) is σ H Q := by
  obtain ⟨δ, m, R, en, st, h, k⟩ := h
  refine ⟨δ, m, _, en, st, h, fun J H1 xs keep m1 hJ e1 st1 it p hp => ?_⟩
  have hp1 := st1.free hp
  obtain ⟨I, h0, hk, hs, hd⟩ := hJ p hp1
  have ex0 : Ext m1 H1 (up m1 p (.lst [])) (L2.upd H1 p (.lst [])) := ext_add hp
  refine ⟨fun i n H => n = xs.length - i ∧ i ≤ xs.length ∧ ∃ m, I i m ∧ StoOk K m H ∧ Ext m1 H1 m H, ⟨xs.length, by omega, Nat.zero_le _, _, h0, sto_at st1 ex0 ⟨[], upd_same, .nil⟩, ex0⟩, ?_⟩
  rintro i n H2 ⟨hn, hi, m2, q, st2, e2⟩
  have w := it m2 H2 e2 st2 (hk _ _ q) i
  by_cases hl : i < xs.length
  · have hx : xs[i]? = some xs[i] := List.getElem?_eq_getElem hl
    obtain ⟨go, yl⟩ := w.1 _ hx
    refine .inr ⟨go, fun H' => ∃ m, I (i + 1) m ∧ StoOk K m H' ∧ Ext m1 H1 m H', fun H' ⟨m', z⟩ => ⟨xs.length - (i + 1), by omega, rfl, hl, m', z⟩, fun x H3 hy => ?_⟩
    obtain ⟨e3, st3, r3⟩ := yl x H3 hy
    obtain ⟨ds, hds, hq⟩ := hs i _ m2 hx q
    have e13 : Ext m1 H1 m2 H3 := e2.trans e3
    refine gTarget_run r3 hds h1 fun vs rl hlen => ⟨wipe_setV σ is vs, ?_⟩
    have en3 : EnvOk K Y m2 H3 (setV (wipe σ is) is vs) (setAll δ is ds) := env_wipe is (en.ext (e1.trans e13)) vs ds rl hlen
    refine lT_bind en3 st3 hq fun c H4 m4 q4 e4 en4 st4 => ?_
    cases c with
    | true =>
      refine iteT (lE_bind en4 st4 (q4.1 rfl) fun y H5 d m5 q5 e5 en5 st5 rp5 => ?_)
      obtain ⟨acc, a1, a2, a3⟩ := q5
      obtain ⟨vs', e', rl'⟩ := st5 _ _ a1
      have ex : ∀ u' o', Ext m5 H5 (up m5 p u') (L2.upd H5 p o') := fun u' o' => ext_put a1
      refine ⟨vs', e', by rw [rl'.len]; exact a2, _, a3, sto_at st5 (ex _ _) ⟨_, upd_same, (rl'.ext (ex _ _)).app (.cons (rp5.ext (ex _ _)) .nil)⟩, ((e13.trans e4).trans e5).trans (ex _ _)⟩
    | false => exact iteF ⟨m4, q4.2 rfl, st4, e13.trans e4⟩
  · have ei : i = xs.length := by omega
    refine .inl ⟨w.2 (by omega), ?_⟩
    obtain ⟨acc, a1, a2⟩ := hd m2 (ei ▸ q)
    obtain ⟨vs', e', rl'⟩ := st2 _ _ a1
    cases b with
    | true => exact k _ _ _ _ a2 (e1.trans e2) st2 (.ptr p)
    | false => exact k _ _ _ _ a2 ((e1.trans e2).trans ext_del) (sto_del st2) (.lst del_same e' (rl'.ext ext_del))
theorem pd_lc (b : Bool) (own : List (Str × Nat)) (tup : Bool) (hc : X.calm = true) (hN : X.N.Nodup) (hi : PDI X Y tg iter di) (ok : BlkOk X.N X.env.scope scope own) (h1 : tup = false → (own.map (·.2)).length = 1)
    (hg : ∀ (s : Shared) (H : Hp) (C : Addr) (cl : List (Str × Addr)) (fp : List Addr), PG (X.blk s H scope (compEnvC scope cl C X.env) fp) tg (gTarget X.K (own.map (·.2)) tup))
    (ht : ∀ (s : Shared) (H : Hp) (C : Addr) (cl : List (Str × Addr)) (fp : List Addr), PDTs (X.blk s H scope (compEnvC scope cl C X.env) fp) Y ifs t)
    (he : ∀ (s : Shared) (H : Hp) (C : Addr) (cl : List (Str × Addr)) (fp : List Addr), PD (X.blk s H scope (compEnvC scope cl C X.env) fp) Y elt de) (hs : ∀ x, foldedSetIterable iter X.env x = pure x := by intro _; rfl) :
    PD X Y (.ListComp elt [⟨tg, iter, ifs, 0⟩] scope pos) (dLc b (own.map (·.2)) tup di t de) :=
  ⟨pe_weak (pe_lc hc hN hi.pi ok hg (fun s H C cl fp => (ht s H C cl fp).pt) (fun s H C cl fp => (he s H C cl fp).pe) hs) fun σ H Q h => dLc_low h1 h⟩
theorem pds_setLc (i : Nat) (b : Bool) (own : List (Str × Nat)) (tup : Bool) {y : Str} {py spos : Pos} (hc : X.calm = true) (hN : X.N.Nodup) (hy : X.N[i]? = some y) (hyl : X.env.scope.names.lookup y = some .local)
    (hsw : swapsWith (.ListComp elt [⟨tg, iter, ifs, 0⟩] scope pos) (some (.Name y py)) spos.line X.env = pure true) (hi : PDI X Y tg iter di) (ok : BlkOk X.N X.env.scope scope own) (h1 : tup = false → (own.map (·.2)).length = 1)
    (hg : ∀ (s : Shared) (H : Hp) (C : Addr) (cl : List (Str × Addr)) (fp : List Addr), PG (X.blk s H scope (compEnvC scope cl C X.env) fp) tg (gTarget X.K (own.map (·.2)) tup))
    (ht : ∀ (s : Shared) (H : Hp) (C : Addr) (cl : List (Str × Addr)) (fp : List Addr), PDTs (X.blk s H scope (compEnvC scope cl C X.env) fp) Y ifs t)
    (he : ∀ (s : Shared) (H : Hp) (C : Addr) (cl : List (Str × Addr)) (fp : List Addr), PD (X.blk s H scope (compEnvC scope cl C X.env) fp) Y elt de) (hs : ∀ x, foldedSetIterable iter X.env x = pure x := by intro _; rfl) :
    PDS X Y (.Assign [.Name y py] (.ListComp elt [⟨tg, iter, ifs, 0⟩] scope pos) spos) (dSet i (dLc b (own.map (·.2)) tup di t de)) :=
  ⟨ps_weak (ps_setLc hc hN hy hyl hsw hi.pi ok hg (fun s H C cl fp => (ht s H C cl fp).pt) (fun s H C cl fp => (he s H C cl fp).pe) hs) fun E σ H ⟨δ, m, P, en, st, h, k⟩ => by
    refine dLc_low (b := b) (Q := fun x H1 => gName i x σ H1 E.nx) h1 (lE_bind en st h fun v H1 d m1 r1 e1 en1 st1 rp => ?_)
    exact k.nx _ H1 _ m1 r1 e1 (en1.set i rp) st1⟩
end

/-! ### comprehensions whose elements change nothing -/
def Le (m m' : Sto) : Prop := ∀ a o, m a = some o → m' a = some o
theorem Le.refl (m : Sto) : Le m m := fun _ _ h => h
theorem Le.up {m : Sto} {p : Addr} {o : MO} (h : m p = none) : Le m (up m p o) := fun a u e => by rw [up_ne (ne_free e h)]; exact e
/-- each item yields its y -/
theorem lc_pure {is : List Nat} {tup : Bool} {e : DE} {δ : Ev} {m1 : Sto} {R : D → Sto → Prop} {xs : List D} {keep : Sto → Prop} (b : Bool) (ys : List D) (hk : ∀ m2, Le m1 m2 → keep m2) (hl : xs.length = ys.length) (hz : xs.length ≤ sizeLine)
    (hs : ∀ (k : Nat) x y m2, xs[k]? = some x → ys[k]? = some y → Le m1 m2 → ∃ ds, tgD is tup x = some ds ∧ ∀ R : D → Sto → Prop, R y m2 → e (setAll δ is ds) m2 R) (hR : newL b ys m1 R) : LcCore b is tup dYes e δ R xs keep m1 := by
  intro p hp
  refine ⟨fun k m2 => m2 = up m1 p (.lst (ys.take k)), rfl, fun k m2 e => ?_, fun k x m2 hx e => ?_, fun m2 e => ?_⟩
  · rw [e]
    exact hk _ (Le.up hp)
  · subst e
    have hlt : k < xs.length := (List.getElem?_eq_some_iff.mp hx).1
    have hy : ys[k]? = some ys[k] := List.getElem?_eq_getElem (by omega)
    obtain ⟨ds, h1, h2⟩ := hs k x _ _ hx hy (Le.up hp)
    refine ⟨ds, h1, fun _ => h2 _ ⟨ys.take k, up_same, ?_, ?_⟩, fun z => by cases z⟩
    · rw [List.length_take]
      omega
    · show up (up m1 p _) p _ = Dl.up m1 p (.lst (ys.take (k + 1)))
      rw [up_up, List.take_add_one, hy]
      rfl
  · subst e
    refine ⟨ys, ?_, ?_⟩
    · rw [up_same, hl, List.take_length]
    · cases b with
      | true =>
        show R (.ptr p) (up m1 p (.lst (ys.take xs.length)))
        rw [hl, List.take_length]
        exact hR p hp
      | false =>
        show R (.lst ys) (del (up m1 p _) p)
        rw [del_up hp]
        exact hR
end Dl

/-! The data layer: defs, calls, objects; repr may be asked within (no repr is under way at a call). -/
namespace Dl
open PySem PySem.Spec PyProof.Rows L2

/-- as FnOk, but called while no repr runs -/
structure FnG (P : Program) (w : World) (K : PySem.W.Frag) (mg : Str → Option Value) (base : Heap) (CX : CXT) (k : Nat) (f : Addr) (fd : FuncData) (ps : List Str) (sp : Sp) : Prop where
  len : ∀ vs H Q E, sp vs H Q E → vs.length = ps.length
  run : ∀ (A : Around) (outer : List Env) (s : Shared) (H : Hp) (args : Args) (us : List Value) (vs : List V) (Q : VK) (E : XK),
    Room k A → A.guards = some [] → Env0 P w K mg base A outer s H → BindsTo s fd args (ps.zip us) → Vals vs us → sp vs H Q E →
      codeAny (model P w) A (.call (.ref f) args) (CR CX outer P w H s Q E) s
theorem FnG.mono {P : Program} {w : World} {K : PySem.W.Frag} {mg : Str → Option Value} {base : Heap} {CX : CXT} {j k : Nat} {f : Addr} {fd : FuncData} {ps : List Str} {sp : Sp}
    (F : FnG P w K mg base CX j f fd ps sp) (h : j ≤ k) : FnG P w K mg base CX k f fd ps sp :=
  ⟨F.len, fun A outer s H args us vs Q E hr hg he hb hv hs => F.run A outer s H args us vs Q E (hr.mono h) hg he hb hv hs⟩

/-- a def's promise over data -/
abbrev DSp := List D → Sto → (D → Sto → Prop) → DX → Prop
def AftX (K : PySem.W.Frag) (m : Sto) (H : Hp) (RX : DX) (E : XK) : Prop :=
  ∀ C fs m' H' dd, RX C fs m' → Ext m H m' H' → StoOk K m' H' → XRel K m' H' fs dd → E (.ref C) dd H'
def spD (K : PySem.W.Frag) (sp : DSp) : Sp := fun vs H Q E => ∃ ds m R RX, RpL K m H vs ds ∧ StoOk K m H ∧ sp ds m R RX ∧ Aft K m H R Q ∧ AftX K m H RX E
def noX : DX := fun _ _ _ => False
theorem aftX_no {K : PySem.W.Frag} {m : Sto} {H : Hp} {E : XK} : AftX K m H noX E := fun _ _ _ _ _ h => h.elim

/-- THE RULE for a def: the body's reading over data -/
theorem fn_dc {P : Program} {w : World} {K : PySem.W.Frag} {mg : Str → Option Value} {base : Heap} {k : Nat} {x qual : Str} {st : Stmt} {f : Addr} {fd : FuncData} {N ps : List Str} {sp : DSp} {CX : CXT} (F : Fun K x qual st f fd) (S : FnScope N ps (defScope st))
    (len : ∀ ds m R RX, sp ds m R RX → ds.length = ps.length)
    (body : ∀ (cdv : Value), fd.code = cdv → ∀ (A : Around) (outer : List Env) (s : Shared) (H : Hp) (E : XK), Room k (A.deeper (envOfC qual (defScope st) s.heap.objs.size f cdv)) → A.guards = some [] →
      ∃ t : DS, PDSs (cxOf CX P w K mg base N qual (defScope st) f cdv A outer s H E) (fun _ => E) (defBody st) t ∧
        ∀ ds m R RX, sp ds m R RX → t { nx := fun _ m' => R .non m', rt := R } ⟨ds.map some ++ List.replicate (N.length - ds.length) none, fun _ => RX⟩ m) :
    FnG P w K mg base CX (k + 1) f fd ps (spD K sp) := by
  obtain ⟨oc, od, kV, doc, pm, an, cdv, ct, osl, rfl, lk, hcd⟩ := F.ex
  have len' : ∀ vs H Q E, spD K sp vs H Q E → vs.length = ps.length := fun vs H Q E ⟨ds, m, R, RX, rl, st, h, _⟩ => by rw [rl.len]; exact len ds m R RX h
  refine ⟨len', fun A outer s H args us vs Q E hr hg e0 hb r hsp => ?_⟩
  have hl := len' _ _ _ _ hsp
  have KX : K.In s.heap := e0.mod.kin.keeps fun b o e => (e0.bs b o e).1
  have lim : s.heap.NoLimit := e0.mod.nolimit.keeps fun b o e => (e0.bs b o e).1
  have hkind : ∀ y ∈ ps.zip us, (defScope st).names.lookup y.1 = some .local ∨ ((defScope st).names.lookup y.1 = some .cell ∧ ((cellsFrom (s.heap.objs.size + 1) (defScope st).names []).lookup y.1).isSome = true) := fun y hy =>
    (S.par y.1 (List.of_mem_zip hy).1).imp id fun q => ⟨q, PySem.W.cellsFrom_some _ _ _ (.inl q)⟩
  refine codeAny_call_function hr.depth (KX _ _ lk) rfl S.co S.gen rfl (PySem.W.codeRec_of KX hcd) (hb _ _ _ _ (wpAny_newFunctionEnv_cells S.kind hkind fun env he s1 x => ?_))
  subst he
  refine ⟨lim.keeps x.toInCall.keep, codeAny_func ?_⟩
  obtain ⟨t, ht, hq⟩ := body cdv rfl A outer s H E (hr.deeper _) hg
  have I : Inv (cxOf CX P w K mg base N qual (defScope st) f cdv A outer s H E) [] (L2.start N vs) H s1 := inv_start S hr.hd e0 hl r x
  obtain ⟨ds, m, R, RX, rl, so, hd, af, ax⟩ := hsp
  have en : EnvOk K (fun _ => E) m H (L2.start N vs) ⟨ds.map some ++ List.replicate (N.length - ds.length) none, fun _ => RX⟩ := by
    refine ⟨⟨?_, fun i d e => ?_⟩, fun σ' s' C fs m' H' dd q ex st _ xr => ax C fs m' H' dd q ex st xr⟩
    · unfold L2.start
      simp only [List.length_append, List.length_map, List.length_replicate, rl.len]
    · unfold L2.start
      have hi : i < ds.length := by
        by_cases hi : i < ds.length
        · exact hi
        · rw [List.getElem?_append_right (by rw [List.length_map]; omega), List.getElem?_replicate] at e
          split at e <;> cases e
      rw [List.getElem?_append_left (by rw [List.length_map]; exact hi), List.getElem?_map] at e
      rw [List.getElem?_append_left (by rw [List.length_map, rl.len]; exact hi), List.getElem?_map]
      cases q : ds[i]? with
      | none => rw [q] at e; cases e
      | some d' =>
        rw [q] at e
        cases e
        obtain ⟨v, e1, r1⟩ := rl.get q
        rw [e1]
        exact ⟨v, rfl, r1⟩
  refine wpAny_mono (ht.ps.run [] s1 (L2.start N vs) H { nx := fun _ H' => Q .non H', rt := Q } I ⟨_, m, _, en, so, hq ds m R RX hd, ⟨fun σ' H' δ' m' q ex _ st' => af .non H' .non m' q ex st' .non, fun _ _ _ _ q => q.elim, fun _ _ _ _ q => q.elim, af⟩⟩) (fun fl s' hs => ?_) fun e s' hs => hs
  have done : ∀ {σ' : L2.St} {H' : Hp} {v : V} {u : Value}, Inv (cxOf CX P w K mg base N qual (defScope st) f cdv A outer s H E) [] σ' H' s' → RelV v u → Q v H' → CE outer P w H s Q u s' :=
    fun {σ' H' v u} J rv q => ⟨v, H', J.os, J.bare, J.base, J.hok, rv, q⟩
  cases fl with
  | next =>
    obtain ⟨σ', H', J, q⟩ := hs
    exact done (v := V.non) (u := Value.none) J rfl q
  | ret u =>
    obtain ⟨v, σ', H', J, rv, q⟩ := hs
    exact done J rv q
  | brk =>
    obtain ⟨_, _, _, q⟩ := hs
    exact q.elim
  | cont =>
    obtain ⟨_, _, _, q⟩ := hs
    exact q.elim
theorem fn_d {P : Program} {w : World} {K : PySem.W.Frag} {mg : Str → Option Value} {base : Heap} {k : Nat} {x qual : Str} {st : Stmt} {f : Addr} {fd : FuncData} {N ps : List Str} {sp : DSp} {CX : CXT} (F : Fun K x qual st f fd) (S : FnScope N ps (defScope st))
    (len : ∀ ds m R RX, sp ds m R RX → ds.length = ps.length)
    (body : ∀ (cdv : Value) (A : Around) (outer : List Env) (s : Shared) (H : Hp) (E : XK), Room k (A.deeper (envOfC qual (defScope st) s.heap.objs.size f cdv)) → A.guards = some [] →
      ∃ t : DS, PDSs (cxOf CX P w K mg base N qual (defScope st) f cdv A outer s H E) (fun _ => E) (defBody st) t ∧
        ∀ ds m R RX, sp ds m R RX → t { nx := fun _ m' => R .non m', rt := R } ⟨ds.map some ++ List.replicate (N.length - ds.length) none, fun _ => RX⟩ m) :
    FnG P w K mg base CX (k + 1) f fd ps (spD K sp) := fn_dc F S len fun cdv _ => body cdv
/-- in a context that lets nothing out -/
theorem PDSs.nox {X : Cx} {Y : XS} {sts : List Stmt} {t : DS} (h : PDSs X.nox Y sts t) : PDSs X Y sts t := ⟨L2.PSs.nox h.ps⟩

/-! ### calls -/
section
variable {X : Cx} {Y : XS} {CX : CXT} {k : Nat} {f C : Addr} {fd : FuncData} {ps : List Str} {sp : Sp} {dsp : DSp} {E : XK} {x nm : Str} {p pos apos : Pos} {e o : Expr} {es : List Expr} {t : DA} {dO : DE}
theorem run_g {pins : List (Addr × Obj)} {σ : L2.St} {H : Hp} {s : Shared} {Q : VK} {us : List Value} {vs : List V} (F : FnG X.prog X.w X.K X.mg X.base CX k f fd ps sp) (hr : Room k X.A) (hg : X.A.guards = some []) (hb : Binds X.K fd ps [])
    (hx : PassesAt CX X σ E) (I : Inv X pins σ H s) (r : Vals vs us) (h : sp vs H Q E) : wpAny (model X.prog X.w) X.A (call (.ref f) us) (EP X pins σ Q) X.xe s := by
  have hl : us.length = ps.length := r.length.symm.trans (F.len _ _ _ _ h)
  have bt : BindsTo s fd ⟨us, []⟩ (ps.zip us) := by
    have q := hb s us I.kIn (by rw [List.append_nil]; exact hl)
    rw [List.append_nil] at q
    exact q
  refine wpAny_call (codeAny_mono (F.run X.A X.stack s H ⟨us, []⟩ us vs Q E hr hg I.env0 bt r h) fun res s' hq => ?_)
  match res, hq with
  | .error e, hq => exact hx pins H s e s' I hq
  | .ok (.ret u), hq => exact I.after hq
def dCall (sp : DSp) (t : DA) : DE := fun δ m R => t δ m fun ds m1 => sp ds m1 R noX
/-- a call whose exceptions are wished for -/
def dCallX (sp : DSp) (t : DA) : DE := fun δ m R => t δ m fun ds m1 => sp ds m1 R (δ.x δ.s)
theorem pe_callg {E : XS} {t : TA} (F : FnG X.prog X.w X.K X.mg X.base CX k f fd ps sp) (hr : Room k X.A) (hg : X.A.guards = some []) (gl : Gl X x) (hm : X.mg x = some (.ref f)) (hk : PySem.W.keepIn X.K (.ref f) = true) (hb : Binds X.K fd ps []) (hx : ∀ σ, PassesAt CX X σ (E σ))
    (ha : PA X (e :: es) t) (hdb : (x == ("__debug__" : Str)) = false := by decide) (he : starEach (e :: es) X.env = (false, eval e X.env) :: starEach es X.env := by rfl) (hpl : (backTo pos (starEach es X.env)).any (·.1) = false := by rfl) :
    PE X (.Call (.Name x p) (e :: es) [] pos) (fun σ H Q => t σ H fun vs H1 => sp vs H1 Q (E σ)) :=
  ⟨fun pins s σ H Q I h => wpAny_Call_Name_kw (ld_glob I gl hm (PySem.W.callWith_K (h₀ := X.base) I.ok.mod.kin hk
    (thn (ha.run pos pins s σ H _ I h) fun us s1 ⟨vs, H1, I1, r, q⟩ => ⟨I1.kIn, run_g F hr hg hb (hx σ) I1 r q⟩) he hpl) hdb)⟩
theorem pe_callg0 {E : XS} (F : FnG X.prog X.w X.K X.mg X.base CX k f fd ps sp) (hr : Room k X.A) (hg : X.A.guards = some []) (gl : Gl X x) (hm : X.mg x = some (.ref f)) (hk : PySem.W.keepIn X.K (.ref f) = true) (hb : Binds X.K fd ps []) (hx : ∀ σ, PassesAt CX X σ (E σ))
    (hdb : (x == ("__debug__" : Str)) = false := by decide) : PE X (.Call (.Name x p) [] [] pos) (fun σ H Q => sp [] H Q (E σ)) :=
  ⟨fun pins s σ H Q I h => wpAny_Call_Name_kw (ld_glob I gl hm (PySem.W.callWith_K0 I.kIn hk (run_g (us := []) F hr hg hb (hx σ) I .nil h)) hdb)⟩
theorem sp_low {K : PySem.W.Frag} {δ : Ev} {m m1 : Sto} {H H1 : Hp} {R : D → Sto → Prop} {Q : VK} {vs : List V} {ds : List D} (k : Aft K m H R Q) (e1 : Ext m H m1 H1) (st1 : StoOk K m1 H1) (rl : RpL K m1 H1 vs ds) (h : dsp ds m1 R noX) {E : XK} : spD K dsp vs H1 Q E :=
  ⟨ds, m1, R, noX, rl, st1, h, k.on e1, aftX_no⟩
theorem sp_lowX {K : PySem.W.Frag} {σ : L2.St} {δ : Ev} {m m1 : Sto} {H H1 : Hp} {R : D → Sto → Prop} {Q : VK} {vs : List V} {ds : List D} (k : Aft K m H R Q) (e1 : Ext m H m1 H1) (en1 : EnvOk K Y m1 H1 σ δ) (st1 : StoOk K m1 H1) (rl : RpL K m1 H1 vs ds) (h : dsp ds m1 R (δ.x δ.s)) : spD K dsp vs H1 Q (Y σ) :=
  ⟨ds, m1, R, δ.x δ.s, rl, st1, h, k.on e1, fun C fs m' H' dd q ex s' xr => en1.2 σ δ.s C fs m' H' dd q ex s' (en1.1.ext ex) xr⟩
theorem passAt0 {σ : L2.St} : PassesAt CX0 X σ E0 := fun _ _ _ _ _ _ h => h.elim
/-- f(e, ..), nothing is raised -/
theorem pd_call (F : FnG X.prog X.w X.K X.mg X.base CX k f fd ps (spD X.K dsp)) (hr : Room k X.A) (hg : X.A.guards = some []) (gl : Gl X x) (hm : X.mg x = some (.ref f)) (hk : PySem.W.keepIn X.K (.ref f) = true) (hb : Binds X.K fd ps []) (hx : ∀ σ, PassesAt CX X σ E0)
    (ha : PDA X Y (e :: es) t) (hdb : (x == ("__debug__" : Str)) = false := by decide) (he : starEach (e :: es) X.env = (false, eval e X.env) :: starEach es X.env := by rfl) (hpl : (backTo pos (starEach es X.env)).any (·.1) = false := by rfl) :
    PD X Y (.Call (.Name x p) (e :: es) [] pos) (dCall dsp t) :=
  ⟨pe_weak (pe_callg (E := fun _ => E0) F hr hg gl hm hk hb hx ha.pa hdb he hpl) fun σ H Q ⟨δ, m, R, en, st, h, k⟩ => lA_bind en st h fun vs H1 ds m1 r1 e1 en1 st1 rl => sp_low (δ := δ) k e1 st1 rl r1⟩
theorem pd_callX (F : FnG X.prog X.w X.K X.mg X.base CX k f fd ps (spD X.K dsp)) (hr : Room k X.A) (hg : X.A.guards = some []) (gl : Gl X x) (hm : X.mg x = some (.ref f)) (hk : PySem.W.keepIn X.K (.ref f) = true) (hb : Binds X.K fd ps []) (hx : ∀ σ, PassesAt CX X σ (Y σ))
    (ha : PDA X Y (e :: es) t) (hdb : (x == ("__debug__" : Str)) = false := by decide) (he : starEach (e :: es) X.env = (false, eval e X.env) :: starEach es X.env := by rfl) (hpl : (backTo pos (starEach es X.env)).any (·.1) = false := by rfl) :
    PD X Y (.Call (.Name x p) (e :: es) [] pos) (dCallX dsp t) :=
  ⟨pe_weak (pe_callg (E := Y) F hr hg gl hm hk hb hx ha.pa hdb he hpl) fun σ H Q ⟨δ, m, R, en, st, h, k⟩ => lA_bind en st h fun vs H1 ds m1 r1 e1 en1 st1 rl => sp_lowX k e1 en1 st1 rl r1⟩

/-! ### instances: fields, methods, making -/
theorem RpF.look {K : PySem.W.Frag} {m : Sto} {H : Hp} {nm : Str} : ∀ {vs : List (Str × V)} {fs : List (Str × D)}, RpF K m H vs fs → (∀ d, fs.lookup nm = some d → ∃ v, vs.lookup nm = some v ∧ Rp K m H v d) ∧ (fs.lookup nm = none → vs.lookup nm = none)
  | _, _, .nil => ⟨fun _ h => (nomatch h), fun _ => rfl⟩
  | _, _, .cons (k := g) a b => by
    rw [List.lookup_cons, List.lookup_cons]
    cases e : nm == g with
    | true => exact ⟨fun d h => by cases h; exact ⟨_, rfl, a⟩, fun h => by cases h⟩
    | false => exact RpF.look b
def putD (f : Str) (v : D) : List (Str × D) → List (Str × D)
  | [] => [(f, v)]
  | (g, x) :: r => if g = f then (g, v) :: r else (g, x) :: putD f v r
theorem RpF.put {K : PySem.W.Frag} {m : Sto} {H : Hp} {nm : Str} {v : V} {d : D} (r : Rp K m H v d) : ∀ {vs : List (Str × V)} {fs : List (Str × D)}, RpF K m H vs fs → RpF K m H (putF nm v vs) (putD nm d fs)
  | _, _, .nil => .cons r .nil
  | _, _, .cons (k := g) a b => by
    unfold putF putD
    split
    · exact .cons r b
    · exact .cons a (RpF.put r b)
theorem RpF.len {A : Type} {K : PySem.W.Frag} {m : Sto} {H : Hp} : ∀ {vs : List (A × V)} {fs : List (A × D)}, RpF K m H vs fs → vs.length = fs.length
  | _, _, .nil => Eq.refl _
  | _, _, .cons _ b => congrArg Nat.succ (RpF.len b)
def dFld (C : Addr) (o : DE) (f : Str) : DE := fun δ m R => o δ m fun d m1 => match d with
  | .ptr a => ∃ fs x, m1 a = some (.ins C fs) ∧ fs.lookup f = some x ∧ R x m1
  | _ => False
theorem pd_fld (he : PD X Y o dO) (cl : Cls X.K C) (na : NoAttr X.K C nm) (hb : attributeBase o nm X.env (eval o X.env) = eval o X.env := by rfl) : PD X Y (.Attribute o nm pos) (dFld C dO nm) :=
  ⟨pe_weak (pe_fld he.pe hb) fun σ H Q ⟨δ, m, R, en, st, h, k⟩ => lE_bind en st h fun v H1 d m1 r1 e1 en1 st1 rp => by
    cases d with
    | ptr a =>
      cases rp
      obtain ⟨fs, x, h1, h2, h3⟩ := r1
      obtain ⟨dx, vs, e, rf⟩ := st1 a _ h1
      obtain ⟨v, e2, rv⟩ := rf.look.1 x h2
      exact ⟨a, C, dx, vs, v, rfl, e, cl, na, e2, k _ _ _ _ h3 e1 st1 rv⟩
    | _ => exact r1.elim⟩
def dSetF (C : Addr) (o : DE) (f : Str) (e : DE) : DS := fun P δ m => e δ m fun d m1 => o δ m1 fun x m2 => match x with
  | .ptr a => ∃ fs, m2 a = some (.ins C fs) ∧ fs.length < 1000 ∧ P.nx δ (up m2 a (.ins C (putD f d fs)))
  | _ => False
theorem pds_fld {value : Expr} {dv : DE} {pos' : Pos} (ha : PD X Y o dO) (hv : PD X Y value dv) (cl : Cls X.K C) (na : NoAttr X.K C nm) (hs : swapsWith value (some (.Attribute o nm pos')) pos.line X.env = pure false := by rfl) :
    PDS X Y (.Assign [.Attribute o nm pos'] value pos) (dSetF C dO nm dv) :=
  ⟨ps_weak (ps_fld ha.pe hv.pe hs) fun E σ H ⟨δ, m, P, en, st, h, k⟩ => lE_bind en st h fun v H1 d m1 r1 e1 en1 st1 rp => lE_bind en1 st1 r1 fun w H2 x m2 r2 e2 en2 st2 rp2 => by
    cases x with
    | ptr a =>
      cases rp2
      obtain ⟨fs, h1, h2, h3⟩ := r2
      obtain ⟨dx, vs, e, rf⟩ := st2 a _ h1
      have ex : ∀ u' o', Ext m2 H2 (up m2 a u') (L2.upd H2 a o') := fun u' o' => ext_put h1
      exact ⟨a, C, dx, vs, rfl, e, cl, na, by rw [rf.len]; exact h2, k.nx _ _ _ _ h3 ((e1.trans e2).trans (ex _ _)) (en2.ext (ex _ _)) (sto_at st2 (ex _ _) ⟨dx, _, upd_same, (rf.ext (ex _ _)).put ((rp.ext e2).ext (ex _ _))⟩)⟩
    | _ => exact r2.elim⟩
/-- o.m(e, ..) -/
def dMeth (C : Addr) (nm : Str) (sp : DSp) (o : DE) (t : DA) : DE := fun δ m R => o δ m fun d m1 => match d with
  | .ptr a => ∃ fs, m1 a = some (.ins C fs) ∧ fs.lookup nm = none ∧ t δ m1 fun ds m2 => sp (.ptr a :: ds) m2 R noX
  | _ => False
def dMethX (C : Addr) (nm : Str) (sp : DSp) (o : DE) (t : DA) : DE := fun δ m R => o δ m fun d m1 => match d with
  | .ptr a => ∃ fs, m1 a = some (.ins C fs) ∧ fs.lookup nm = none ∧ t δ m1 fun ds m2 => sp (.ptr a :: ds) m2 R (δ.x δ.s)
  | _ => False
def tMethg (C : Addr) (nm : Str) (sp : Sp) (E : XS) (ta : TE) (t : TA) : TE := fun σ H Q => ta σ H fun v H1 => ∃ a dx fs, v = .ref a ∧ H1 a = some (.ins C dx fs) ∧ fs.lookup nm = none ∧ t σ H1 fun vs H2 => sp (v :: vs) H2 Q (E σ)
theorem pe_methg {E : XS} {ta : TE} {t : TA} {pl : Sem Bool} (he : PE X o ta) (c : Cls X.K C) (hm : Meth X.K C nm f) (F : FnG X.prog X.w X.K X.mg X.base CX k f fd ps sp) (hr : Room k X.A) (hg : X.A.guards = some []) (hb : Binds X.K fd ps []) (hx : ∀ σ, PassesAt CX X σ (E σ)) (ha : PA X (e :: es) t)
    (hst : starEach (e :: es) X.env = (false, eval e X.env) :: starEach es X.env := by rfl) (hpl : (backTo pos (starEach es X.env)).any (·.1) = false := by rfl)
    (ht : eval (.Call (.Attribute o nm apos) (e :: es) [] pos) X.env = (do let ov ← eval o X.env; standAt apos.atName; let (f, first) ← holding [ov] (getMethod ov nm pl); callWith pos f first (backTo pos (starEach (e :: es) X.env)) (backToKw pos (keywordEach [] X.env))) := by rfl) :
    PE X (.Call (.Attribute o nm apos) (e :: es) [] pos) (tMethg C nm sp E ta t) :=
  ⟨fun pins s σ H Q I h => PySem.W.methodCall_KW (pl := pl) (thn (he.run pins s σ H _ I h) fun u s1 ⟨v, H1, I1, rx, a, dx, fs, ex, ea, l, q⟩ => by
    subst ex
    obtain rfl : u = Value.ref a := rx
    exact getmeth_ok I1 ea c hm l (PySem.W.callWith_K (first := [.ref a]) (h₀ := X.base) I.ok.mod.kin hm.kp
      (thn (ha.run pos pins s1 σ H1 _ I1 q) fun us s2 ⟨vs, H2, I2, r, q2⟩ => ⟨I2.kIn, run_g (us := .ref a :: us) (vs := .ref a :: vs) F hr hg hb (hx σ) I2 (.cons rfl r) q2⟩) hst hpl)) ht⟩
theorem pe_methg0 {E : XS} {ta : TE} {pl : Sem Bool} (he : PE X o ta) (c : Cls X.K C) (hm : Meth X.K C nm f) (F : FnG X.prog X.w X.K X.mg X.base CX k f fd ps sp) (hr : Room k X.A) (hg : X.A.guards = some []) (hb : Binds X.K fd ps []) (hx : ∀ σ, PassesAt CX X σ (E σ))
    (ht : eval (.Call (.Attribute o nm apos) [] [] pos) X.env = (do let ov ← eval o X.env; standAt apos.atName; let (f, first) ← holding [ov] (getMethod ov nm pl); callWith pos f first (backTo pos (starEach [] X.env)) (backToKw pos (keywordEach [] X.env))) := by rfl) :
    PE X (.Call (.Attribute o nm apos) [] [] pos) (tMethg C nm sp E ta tNil) :=
  ⟨fun pins s σ H Q I h => PySem.W.methodCall_KW (pl := pl) (thn (he.run pins s σ H _ I h) fun u s1 ⟨v, H1, I1, rx, a, dx, fs, ex, ea, l, q⟩ => by
    subst ex
    obtain rfl : u = Value.ref a := rx
    exact getmeth_ok I1 ea c hm l (PySem.W.callWith_K0 (first := [.ref a]) I1.kIn hm.kp (run_g (us := [.ref a]) (vs := [.ref a]) F hr hg hb (hx σ) I1 (.cons rfl .nil) q))) ht⟩
theorem meth_low {K : PySem.W.Frag} {σ : L2.St} {H : Hp} {Q : VK} (h : lE K Y (dMeth C nm dsp dO t) σ H Q) : tMethg C nm (spD K dsp) (fun _ => E0) (lE K Y dO) (lA K Y t) σ H Q := by
  obtain ⟨δ, m, R, en, st, h, k⟩ := h
  refine lE_bind en st h fun v H1 d m1 r1 e1 en1 st1 rp => ?_
  cases d with
  | ptr a =>
    cases rp
    obtain ⟨fs, h1, h2, h3⟩ := r1
    obtain ⟨dx, vs, e, rf⟩ := st1 a _ h1
    exact ⟨a, dx, vs, rfl, e, rf.look.2 h2, lA_bind en1 st1 h3 fun ws H2 ds m2 r2 e2 en2 st2 rl => sp_low (δ := δ) k (e1.trans e2) st2 (.cons (.ptr a) rl) r2⟩
  | _ => exact r1.elim
theorem meth_lowX {K : PySem.W.Frag} {σ : L2.St} {H : Hp} {Q : VK} (h : lE K Y (dMethX C nm dsp dO t) σ H Q) : tMethg C nm (spD K dsp) Y (lE K Y dO) (lA K Y t) σ H Q := by
  obtain ⟨δ, m, R, en, st, h, k⟩ := h
  refine lE_bind en st h fun v H1 d m1 r1 e1 en1 st1 rp => ?_
  cases d with
  | ptr a =>
    cases rp
    obtain ⟨fs, h1, h2, h3⟩ := r1
    obtain ⟨dx, vs, e, rf⟩ := st1 a _ h1
    exact ⟨a, dx, vs, rfl, e, rf.look.2 h2, lA_bind en1 st1 h3 fun ws H2 ds m2 r2 e2 en2 st2 rl => sp_lowX k (e1.trans e2) en2 st2 (.cons (.ptr a) rl) r2⟩
  | _ => exact r1.elim
theorem nil_low {K : PySem.W.Frag} {σ : L2.St} {H : Hp} {Q : List V → Hp → Prop} (h : lA K Y dNil σ H Q) : tNil σ H Q := by
  obtain ⟨δ, m, R, en, st, h, k⟩ := h
  exact k [] H [] m h Ext.rfl st .nil
theorem meth0_low {K : PySem.W.Frag} {E : XS} {ta : TE} {σ : L2.St} {H : Hp} {Q : VK} (mono : ∀ {Q Q' : VK}, (∀ v H, Q v H → Q' v H) → ta σ H Q → ta σ H Q') (h : tMethg C nm sp E ta (lA K Y dNil) σ H Q) : tMethg C nm sp E ta tNil σ H Q :=
  mono (fun v H1 ⟨a, dx, fs, h1, h2, h3, h4⟩ => ⟨a, dx, fs, h1, h2, h3, nil_low h4⟩) h
theorem lE_mono {K : PySem.W.Frag} {e : DE} {σ : L2.St} {H : Hp} {Q Q' : VK} (w : ∀ v H, Q v H → Q' v H) (h : lE K Y e σ H Q) : lE K Y e σ H Q' := by
  obtain ⟨δ, m, R, en, st, h, k⟩ := h
  exact ⟨δ, m, R, en, st, h, fun v H' d m' q ex s r => w _ _ (k v H' d m' q ex s r)⟩
theorem pd_meth {pl : Sem Bool} (he : PD X Y o dO) (c : Cls X.K C) (hm : Meth X.K C nm f) (F : FnG X.prog X.w X.K X.mg X.base CX k f fd ps (spD X.K dsp)) (hr : Room k X.A) (hg : X.A.guards = some []) (hb : Binds X.K fd ps []) (hx : ∀ σ, PassesAt CX X σ E0) (ha : PDA X Y (e :: es) t)
    (hst : starEach (e :: es) X.env = (false, eval e X.env) :: starEach es X.env := by rfl) (hpl : (backTo pos (starEach es X.env)).any (·.1) = false := by rfl)
    (ht : eval (.Call (.Attribute o nm apos) (e :: es) [] pos) X.env = (do let ov ← eval o X.env; standAt apos.atName; let (f, first) ← holding [ov] (getMethod ov nm pl); callWith pos f first (backTo pos (starEach (e :: es) X.env)) (backToKw pos (keywordEach [] X.env))) := by rfl) :
    PD X Y (.Call (.Attribute o nm apos) (e :: es) [] pos) (dMeth C nm dsp dO t) := ⟨pe_weak (pe_methg (E := fun _ => E0) he.pe c hm F hr hg hb hx ha.pa hst hpl ht) fun _ _ _ h => meth_low h⟩
theorem pd_methX {pl : Sem Bool} (he : PD X Y o dO) (c : Cls X.K C) (hm : Meth X.K C nm f) (F : FnG X.prog X.w X.K X.mg X.base CX k f fd ps (spD X.K dsp)) (hr : Room k X.A) (hg : X.A.guards = some []) (hb : Binds X.K fd ps []) (hx : ∀ σ, PassesAt CX X σ (Y σ)) (ha : PDA X Y (e :: es) t)
    (hst : starEach (e :: es) X.env = (false, eval e X.env) :: starEach es X.env := by rfl) (hpl : (backTo pos (starEach es X.env)).any (·.1) = false := by rfl)
    (ht : eval (.Call (.Attribute o nm apos) (e :: es) [] pos) X.env = (do let ov ← eval o X.env; standAt apos.atName; let (f, first) ← holding [ov] (getMethod ov nm pl); callWith pos f first (backTo pos (starEach (e :: es) X.env)) (backToKw pos (keywordEach [] X.env))) := by rfl) :
    PD X Y (.Call (.Attribute o nm apos) (e :: es) [] pos) (dMethX C nm dsp dO t) := ⟨pe_weak (pe_methg (E := Y) he.pe c hm F hr hg hb hx ha.pa hst hpl ht) fun _ _ _ h => meth_lowX h⟩
theorem pd_meth0 {pl : Sem Bool} (he : PD X Y o dO) (c : Cls X.K C) (hm : Meth X.K C nm f) (F : FnG X.prog X.w X.K X.mg X.base CX k f fd ps (spD X.K dsp)) (hr : Room k X.A) (hg : X.A.guards = some []) (hb : Binds X.K fd ps []) (hx : ∀ σ, PassesAt CX X σ E0)
    (ht : eval (.Call (.Attribute o nm apos) [] [] pos) X.env = (do let ov ← eval o X.env; standAt apos.atName; let (f, first) ← holding [ov] (getMethod ov nm pl); callWith pos f first (backTo pos (starEach [] X.env)) (backToKw pos (keywordEach [] X.env))) := by rfl) :
    PD X Y (.Call (.Attribute o nm apos) [] [] pos) (dMeth C nm dsp dO dNil) := ⟨pe_weak (pe_methg0 (E := fun _ => E0) he.pe c hm F hr hg hb hx ht) fun σ H Q h => meth0_low (fun w z => lE_mono w z) (meth_low h)⟩
theorem pd_meth0X {pl : Sem Bool} (he : PD X Y o dO) (c : Cls X.K C) (hm : Meth X.K C nm f) (F : FnG X.prog X.w X.K X.mg X.base CX k f fd ps (spD X.K dsp)) (hr : Room k X.A) (hg : X.A.guards = some []) (hb : Binds X.K fd ps []) (hx : ∀ σ, PassesAt CX X σ (Y σ))
    (ht : eval (.Call (.Attribute o nm apos) [] [] pos) X.env = (do let ov ← eval o X.env; standAt apos.atName; let (f, first) ← holding [ov] (getMethod ov nm pl); callWith pos f first (backTo pos (starEach [] X.env)) (backToKw pos (keywordEach [] X.env))) := by rfl) :
    PD X Y (.Call (.Attribute o nm apos) [] [] pos) (dMethX C nm dsp dO dNil) := ⟨pe_weak (pe_methg0 (E := Y) he.pe c hm F hr hg hb hx ht) fun σ H Q h => meth0_low (fun w z => lE_mono w z) (meth_lowX h)⟩
/-- C(e, ..): a new instance -/
def dMake (C : Addr) (sp : DSp) (t : DA) : DE := fun δ m R => t δ m fun ds m1 => ∀ a, m1 a = none → sp (.ptr a :: ds) (up m1 a (.ins C [])) (fun v m2 => v = .non ∧ R (.ptr a) m2) noX
def tMakeg (C : Addr) (sp : Sp) (t : TA) : TE := fun σ H Q => t σ H fun vs H1 => ∀ a dx, H1 a = none → H1 dx = none → dx ≠ a → sp (.ref a :: vs) (L2.upd (L2.upd H1 dx (.own a)) a (.ins C dx [])) (fun v H2 => v = .non ∧ Q (.ref a) H2) E0
theorem make_g {pins : List (Addr × Obj)} {σ : L2.St} {H : Hp} {s : Shared} {Q : VK} {us : List Value} {vs : List V} (M : Mk X.K C f) (F : FnG X.prog X.w X.K X.mg X.base CX k f fd ps sp) (hr : Room (k + 1) X.A) (hg : X.A.guards = some []) (hb : Binds X.K fd ps []) (hx : ∀ σ, PassesAt CX X σ E0) (I : Inv X pins σ H s) (r : Vals vs us)
    (h : ∀ a dx, H a = none → H dx = none → dx ≠ a → sp (.ref a :: vs) (L2.upd (L2.upd H dx (.own a)) a (.ins C dx [])) (fun v H2 => v = .non ∧ Q (.ref a) H2) E0) : wpAny (model X.prog X.w) X.A (call (.ref C) us) (EP X pins σ Q) X.xe s := by
  have hq := h (s.heap.objs.size + 1) s.heap.objs.size (I.hok.fresh (Nat.le_succ _)) (I.hok.fresh (Nat.le_refl _)) (Nat.ne_of_lt (Nat.lt_succ_self _))
  have I2 := Inv.made (C := C) I
  have r2 : Vals (V.ref (s.heap.objs.size + 1) :: vs) (Value.ref (s.heap.objs.size + 1) :: us) := .cons rfl r
  have hl : (Value.ref (s.heap.objs.size + 1) :: us).length = ps.length := r2.length.symm.trans (F.len _ _ _ _ hq)
  have bt := hb _ (Value.ref (s.heap.objs.size + 1) :: us) I2.kIn (by rw [List.append_nil]; exact hl)
  rw [List.append_nil] at bt
  have hg2 : (X.A.under (.builtin "type.__call__" ⟨.ref C :: us, []⟩)).guards = some [] := by
    show pushGuards (Code.guards (.builtin "type.__call__" ⟨.ref C :: us, []⟩)) X.A.guards = some []
    rw [hg]
    rfl
  refine wpAny_call (make_map (f := f) I.kIn M.makes M.init (beq_iff_eq.mp M.fn) (codeAny_mono (F.run _ X.stack _ _ ⟨Value.ref (s.heap.objs.size + 1) :: us, []⟩ _ _ _ E0 (hr.make C us []) hg2 (I2.env0.make C us []) bt r2 hq) fun res s' hq' => ?_))
  match res, hq' with
  | .error e, hq' => exact hx σ pins _ _ e s' I2 hq'
  | .ok (.ret u), hq' =>
    obtain ⟨v, H', I3, rv, ev, q3⟩ := I2.after hq'
    subst ev
    exact ⟨rv, ⟨V.ref (s.heap.objs.size + 1), H', I3, rfl, q3⟩⟩
theorem make_low {K : PySem.W.Frag} {σ : L2.St} {H : Hp} {Q : VK} (h : lE K Y (dMake C dsp t) σ H Q) : tMakeg C (spD K dsp) (lA K Y t) σ H Q := by
  obtain ⟨δ, m, R, en, st, h, k⟩ := h
  refine lA_bind en st h fun vs H1 ds m1 r1 e1 en1 st1 rl => fun a dx ha hdx hne => ?_
  have f1 : m1 a = none := st1.free ha
  have ed : Ext m1 H1 m1 (L2.upd H1 dx (.own a)) := ext_new hdx
  have sd := sto_new (o := .own a) st1 hdx
  have ha' : L2.upd H1 dx (.own a) a = none := by rw [upd_ne hne.symm]; exact ha
  have ea : Ext m1 (L2.upd H1 dx (.own a)) (up m1 a (.ins C [])) (L2.upd (L2.upd H1 dx (.own a)) a (.ins C dx [])) := ext_add ha'
  refine ⟨.ptr a :: ds, up m1 a (.ins C []), fun v m2 => v = .non ∧ R (.ptr a) m2, noX, .cons (.ptr a) ((rl.ext ed).ext ea), sto_at sd ea ⟨dx, [], upd_same, .nil⟩, r1 a f1, fun v H' d m' ⟨ev, q⟩ ex s' rp => ?_, aftX_no⟩
  subst ev
  cases rp
  exact ⟨rfl, k _ _ _ _ q (((e1.trans ed).trans ea).trans ex) s' (.ptr a)⟩
theorem pd_make (M : Mk X.K C f) (F : FnG X.prog X.w X.K X.mg X.base CX k f fd ps (spD X.K dsp)) (hr : Room (k + 1) X.A) (hg : X.A.guards = some []) (gl : Gl X x) (hm : X.mg x = some (.ref C)) (hb : Binds X.K fd ps []) (hx : ∀ σ, PassesAt CX X σ E0)
    (ha : PDA X Y (e :: es) t) (hdb : (x == ("__debug__" : Str)) = false := by decide) (he : starEach (e :: es) X.env = (false, eval e X.env) :: starEach es X.env := by rfl) (hpl : (backTo pos (starEach es X.env)).any (·.1) = false := by rfl) :
    PD X Y (.Call (.Name x p) (e :: es) [] pos) (dMake C dsp t) :=
  ⟨⟨fun pins s σ H Q I h => wpAny_Call_Name_kw (ld_glob I gl hm (PySem.W.callWith_K (h₀ := X.base) I.ok.mod.kin M.kp
    (thn (ha.pa.run pos pins s σ H _ I (make_low h)) fun us s1 ⟨vs, H1, I1, r, q⟩ => ⟨I1.kIn, make_g M F hr hg hb hx I1 r q⟩) he hpl) hdb)⟩⟩
theorem pd_make0 (M : Mk X.K C f) (F : FnG X.prog X.w X.K X.mg X.base CX k f fd ps (spD X.K dsp)) (hr : Room (k + 1) X.A) (hg : X.A.guards = some []) (gl : Gl X x) (hm : X.mg x = some (.ref C)) (hb : Binds X.K fd ps []) (hx : ∀ σ, PassesAt CX X σ E0)
    (hdb : (x == ("__debug__" : Str)) = false := by decide) : PD X Y (.Call (.Name x p) [] [] pos) (dMake C dsp dNil) :=
  ⟨⟨fun pins s σ H Q I h => wpAny_Call_Name_kw (ld_glob I gl hm (PySem.W.callWith_K0 I.kIn M.kp (make_g (us := []) (vs := []) M F hr hg hb hx I .nil (nil_low (make_low h)))) hdb)⟩⟩
end
end Dl

/-! The data layer: the law's own call. -/
namespace Dl
open PySem PySem.Spec PyProof.Rows L2

/-- the law: the script is handed in, True comes out -/
def lawSp (n : Nat) : DSp := fun ds m R _ => ∃ ns : List Int, ds = [.rl (ns.map D.int)] ∧ ns.length ≤ n ∧ ∀ m', R (.bl true) m'
theorem law_call_g {P : Program} {w : World} {K : PySem.W.Frag} {mg mb : Str → Option Value} {CX : CXT} {k n : Nat} {fa a : Addr} {fd : FuncData} {x : Str} {s1 : Shared} {vs : List Value} {ns : List Int}
    (KX : K.In s1.heap) (hns : s1.heap.Ns mainGlobals mg) (hb : s1.heap.Ns builtinsNs mb) (hbb : ∀ x : Str, x ≠ "__name__" → mb x = bootBuiltins x) (hlim : s1.heap.NoLimit) (hg : s1.gens = #[])
    (ha : s1.heap.get? a = some { cls := .type "list", data := .seq vs.toArray }) (hi : IntsAre vs ns) (hl : ns.length ≤ n) (hn : n ≤ sizeLine) (hr : Room k callerA)
    (F : ∀ base : Heap, K.In base → base.Ns mainGlobals mg → FnG P w K mg base CX k fa fd [x] (spD K (lawSp n))) (hbind : ∀ (s : Shared) (u : Value), BindsTo s fd ⟨[u], []⟩ [(x, u)])
    (hCX : ∀ H e s', CX [] H s1 (fun _ _ _ => False) e s' → False) :
    codeAny (model P w) callerA (.call (.ref fa) ⟨[.ref a], []⟩) (fun r s' => r = .ok (.ret (.bool true)) ∧ OldK s1.heap s'.heap ∧ s'.os = s1.os ∧ AllBare s'.gens) s1 := by
  have rv := vals_ints hi
  have lv := hi.length
  have zl : ns.length ≤ sizeLine := Nat.le_trans hl hn
  have go : ∀ H : Hp, (∀ b u, H b = some u → ∃ ob xs, u = .frz ob (.lst xs)) → Rp K (fun _ => none) H (.ref a) (.rl (ns.map D.int)) → HOk P w H s1.heap → (∀ b, H b ≠ none → b = a) → (H a ≠ none → K.lookup a = none) →
      codeAny (model P w) callerA (.call (.ref fa) ⟨[.ref a], []⟩) (fun r s' => r = .ok (.ret (.bool true)) ∧ OldK s1.heap s'.heap ∧ s'.os = s1.os ∧ AllBare s'.gens) s1 := by
    intro H hO hS hok hA hK
    have low : ∀ {b : Addr} {o : Obj}, s1.heap.get? b = some o → H b = none → (hidT s1.heap H).get? b = some o := fun e z => hidT_get e z
    have noD : ∀ {b : Addr} {o : Obj} {es : Array DictEntry} {ep : Nat}, s1.heap.get? b = some o → o.data = .dict es ep → H b = none := fun {b o es ep} e d => by
      by_cases q : H b = none
      · exact q
      · have e' : b = a := hA b q
        rw [e', ha] at e
        cases e
        cases d
    have keepNs : ∀ {b : Addr} {f : Str → Option Value}, s1.heap.Ns b f → (hidT s1.heap H).Ns b f := fun {b f} z => by
      obtain ⟨o, es, ep, e, d, r⟩ := z
      exact ⟨o, es, ep, low e (noD e d), d, r⟩
    have kb : K.In (hidT s1.heap H) := fun b o e => low (KX b o e) (by
      by_cases q : H b = none
      · exact q
      · have e' : b = a := hA b q
        subst e'
        rw [hK q] at e
        cases e)
    have md : Mod K mg (hidT s1.heap H) := by
      obtain ⟨mc, z1, z2⟩ := hlim
      exact ⟨kb, keepNs hns, ⟨mb, keepNs hb, hbb⟩, ⟨mc, keepNs z1, z2⟩⟩
    have e0 : Env0 P w K mg (hidT s1.heap H) callerA [] s1 H := ⟨rfl, md, fun b o e => of_hidT e, Nat.le_of_eq (hidT_size _ _), trivial, fun b z => (nomatch z), hok, .of_eq hg⟩
    have sp : spD K (lawSp n) [.ref a] H (fun v _ => v = .bl true) (fun _ _ _ => False) :=
      ⟨[.rl (ns.map D.int)], fun _ => none, fun d _ => d = .bl true, noX, .cons hS .nil, fun _ _ z => (nomatch z), ⟨ns, rfl, hl, fun _ => rfl⟩, fun v H' d m' q _ _ r => by subst q; cases r; rfl, aftX_no⟩
    refine codeAny_mono ((F _ kb (keepNs hns)).run callerA [] s1 H ⟨[.ref a], []⟩ [.ref a] [.ref a] _ _ hr rfl e0 (hbind s1 (.ref a)) (.cons rfl .nil) sp) fun r s' h => ?_
    match r, h with
    | .error e, h => exact (hCX H e s' h).elim
    | .ok (.ret u), h =>
      obtain ⟨v, H', os, bare, un, hok', r', q⟩ := h
      obtain rfl : v = .bl true := q
      obtain rfl : u = Value.bool true := r'
      refine ⟨rfl, OldK.of_keep fun b o e => ?_, os, bare⟩
      cases q : H b with
      | none => exact un.keep b o e q (fun z => nomatch z) (fun z => nomatch z)
      | some u =>
        obtain ⟨ob, xs, rfl⟩ := hO b u q
        have e1 := (hok b _ q).1
        have e2 := (hok' b _ (un.frzs b ob _ q)).1
        rw [e] at e1
        cases e1
        exact e2
  cases hk : K.lookup a with
  | some o =>
    have e := KX a o hk
    rw [ha] at e
    cases e
    refine go (fun _ => none) (fun b u z => (nomatch z)) (.rl (xs := ns.map V.int) (.inr (.inr ⟨_, vs.toArray, _, hk, rfl, rfl, rfl, by rw [List.size_toArray, lv]; exact zl, by simpa using rv⟩)) (RpL.ints ns)) (fun b u z => (nomatch z)) (fun b z => absurd rfl z) fun z => absurd rfl z
  | none =>
    refine go (fun b => if b = a then some (.frz { cls := .type "list", data := .seq vs.toArray } (.lst (ns.map V.int))) else none) (fun b u z => ?_) (.rl (.inl ⟨rfl, .inr ⟨_, if_pos rfl⟩⟩) (RpL.ints ns)) (fun b u z => ?_) (fun b z => ?_) fun _ => hk
    · split at z
      · cases z
        exact ⟨_, _, rfl⟩
      · cases z
    · by_cases hb : b = a
      · have z' := (if_pos hb).symm.trans z
        cases z'
        subst hb
        exact ⟨ha, by rw [List.length_map]; exact zl, vs, _, rv, ha⟩
      · have z' := (if_neg hb).symm.trans z
        cases z'
    · by_cases hb : b = a
      · exact hb
      · exact absurd (if_neg hb) z
/-- the goal that k_head leaves -/
theorem walk_g {l : PySem.W.OpenLaw} {n k : Nat} {q : Program} {loose : List Str} {XP : (Str → Option Value) → Heap → Prop} {YP : World → Heap → Prop} {d : DefRec} {K : Params → PySem.W.Frag} {x : Str}
    (hn : l.most = some n) (hn2 : n ≤ sizeLine) (hdf : d.params.defaults = []) (hr : Room k callerA) (hY : ∀ (w : World) (h : Heap), YP w h → (K w.params).In h)
    (F : ∀ (w : World) (mg : Str → Option Value) (fa : Addr) (h : Heap), (K w.params).In h → h.Ns mainGlobals mg → mg d.name = some (.ref fa) →
      ∃ fd : FuncData, (∀ (s : Shared) (u : Value), BindsTo s fd ⟨[u], []⟩ [(x, u)]) ∧ ∀ base : Heap, (K w.params).In base → base.Ns mainGlobals mg → FnG l.prog w (K w.params) mg base CX0 k fa fd [x] (spD (K w.params) (lawSp n))) :
    PySem.W.WalkO q loose XP YP l.row.toRowW d [] (fun f vs => PySem.call f vs) := by
  refine Att.attach_call hn hdf fun w s₀ s₁ mg mb fa o pm cd doc a vs ns G Y0 ho hd hcd hmg hobj hints hlen hg => ?_
  have KX := hY w _ Y0
  obtain ⟨fd, hb, hF⟩ := F w mg fa _ KX G.T.g hmg
  exact law_call_g KX G.T.g G.T.b G.T.builtins G.T.nolimit hg hobj hints hlen hn2 hr hF hb fun H e s' z => z
end Dl

/-! Facts about plain data: shapes, equality, how long a text shows them. -/
namespace Dl
open PySem PySem.Spec PyProof.Rows L2

theorem lay_ints : ∀ ns : List Int, PyData.canLayAll0 (ns.map PyData.int) = true
  | [] => by rw [List.map_nil, PyData.canLayAll0]
  | n :: r => by rw [List.map_cons, PyData.canLayAll0, lay_ints r, PyData.canLay0]; rfl
theorem depth_ints : ∀ ns : List Int, PyData.depthAll (ns.map PyData.int) = 0
  | [] => by rw [List.map_nil, PyData.depthAll]
  | n :: r => by rw [List.map_cons, PyData.depthAll, depth_ints r, PyData.depth]; rfl
theorem shaped_ints (ns : List Int) : SeqAt.shaped (.list (ns.map .int)) = true := by
  unfold SeqAt.shaped
  rw [PyData.canLay0, lay_ints, PyData.depth, depth_ints]
  rfl
theorem shaped_intsT (ns : List Int) : SeqAt.shaped (.tuple (ns.map .int)) = true := by
  unfold SeqAt.shaped
  rw [PyData.canLay0, lay_ints, PyData.depth, depth_ints]
  rfl
theorem eqv_intsA : ∀ xs ys : List Int, PyData.eqvAll (xs.map .int) (ys.map .int) = decide (xs = ys)
  | [], [] => by rw [List.map_nil, PyData.eqvAll]; rfl
  | [], y :: ys => by rw [List.map_nil, List.map_cons, PyData.eqvAll]; rfl
  | x :: xs, [] => by rw [List.map_nil, List.map_cons, PyData.eqvAll]; rfl
  | x :: xs, y :: ys => by
    rw [List.map_cons, List.map_cons, PyData.eqvAll, eqv_intsA xs ys, PyData.eqv]
    by_cases h : x = y
    · by_cases h2 : xs = ys
      · simp [h, h2]
      · simp [h, h2]
    · simp [h]
theorem eqv_ints (xs ys : List Int) : PyData.eqv (.list (xs.map .int)) (.list (ys.map .int)) = decide (xs = ys) := by
  rw [PyData.eqv, eqv_intsA]

/-- q can be shown, in at most k signs, nested at most d deep -/
structure Shw (q : PyData) (k d : Nat) : Prop where
  sh : q.showable = true
  nd : q.hasDict = false
  ln : q.shown.length ≤ k
  dp : q.depth ≤ d
theorem Shw.mono {q : PyData} {k k' d d' : Nat} (h : Shw q k d) (hk : k ≤ k') (hd : d ≤ d') : Shw q k' d' := ⟨h.sh, h.nd, Nat.le_trans h.ln hk, Nat.le_trans h.dp hd⟩
theorem Shw.int {i : Int} {k : Nat} (h : i.natAbs < 2 ^ k) (h0 : 0 < k) (h1 : k ≤ 1919) : Shw (.int i) (k + 1) 0 := by
  have hl : i.natAbs.log2 < k := PySem.Flt.log2_lt_of h0 h
  refine ⟨?_, by rw [PyData.hasDict], ?_, by rw [PyData.depth]; exact Nat.le_refl _⟩
  · rw [PyData.showable]
    exact decide_eq_true (by omega)
  · rw [PyData.shown]
    show (Str.ofString (toString i)).length ≤ k + 1
    rw [PySem.ofString_length]
    exact int_text_length_le h0 hl
theorem sum_le (ps : List Nat) (k : Nat) (h : ∀ p ∈ ps, p ≤ k) : ps.sum ≤ ps.length * k := by
  induction ps with
  | nil => simp
  | cons p ps ih =>
    rw [List.sum_cons, List.length_cons, Nat.succ_mul]
    have h1 := h p List.mem_cons_self
    have h2 := ih fun q hq => h q (List.mem_cons_of_mem _ hq)
    omega
theorem Shw.all : ∀ {ps : List PyData} {k d : Nat}, (∀ p ∈ ps, Shw p k d) → PyData.showableAll ps = true ∧ PyData.hasDictAll ps = false ∧ (∀ t ∈ PyData.shownAll ps, t.length ≤ k) ∧ PyData.depthAll ps ≤ d ∧ (PyData.shownAll ps).length = ps.length
  | [], k, d, h => by
    rw [PyData.showableAll, PyData.hasDictAll, PyData.shownAll, PyData.depthAll]
    exact ⟨rfl, rfl, fun t ht => (nomatch ht), Nat.zero_le _, rfl⟩
  | p :: ps, k, d, h => by
    have h1 := h p List.mem_cons_self
    obtain ⟨a, b, c, e, f⟩ := Shw.all (ps := ps) fun q hq => h q (List.mem_cons_of_mem _ hq)
    rw [PyData.showableAll, PyData.hasDictAll, PyData.shownAll, PyData.depthAll, a, b, h1.sh, h1.nd]
    refine ⟨rfl, rfl, fun t ht => ?_, Nat.max_le.mpr ⟨h1.dp, e⟩, by rw [List.length_cons, List.length_cons, f]⟩
    rcases List.mem_cons.mp ht with rfl | ht
    · exact h1.ln
    · exact c t ht
theorem shown_sum {ts : List Str} {n k : Nat} (h : ∀ t ∈ ts, t.length ≤ k) (hl : ts.length ≤ n) : (ts.map (·.length)).sum + 2 * ts.length + 3 ≤ n * (k + 2) + 3 := by
  have h1 := sum_le (ts.map (·.length)) k fun p hp => by
    obtain ⟨t, ht, e⟩ := List.mem_map.mp hp
    rw [← e]
    exact h t ht
  rw [List.length_map] at h1
  have h2 : ts.length * (k + 2) ≤ n * (k + 2) := Nat.mul_le_mul_right _ hl
  rw [Nat.mul_add] at h2
  omega
theorem Shw.list {ps : List PyData} {k d n : Nat} (h : ∀ p ∈ ps, Shw p k d) (hl : ps.length ≤ n) : Shw (.list ps) (n * (k + 2) + 3) (d + 1) := by
  obtain ⟨a, b, c, e, f⟩ := Shw.all h
  refine ⟨by rw [PyData.showable, a], by rw [PyData.hasDict, b], ?_, by rw [PyData.depth]; omega⟩
  rw [PyData.shown]
  exact Nat.le_trans (listText_len_le _) (shown_sum c (by rw [f]; exact hl))
theorem Shw.tuple {ps : List PyData} {k d n : Nat} (h : ∀ p ∈ ps, Shw p k d) (hl : ps.length ≤ n) : Shw (.tuple ps) (n * (k + 2) + 3) (d + 1) := by
  obtain ⟨a, b, c, e, f⟩ := Shw.all h
  refine ⟨by rw [PyData.showable, a], by rw [PyData.hasDict, b], ?_, by rw [PyData.depth]; omega⟩
  rw [PyData.shown]
  exact Nat.le_trans (tupleText_len_le _) (shown_sum c (by rw [f]; exact hl))
/-- some whole numbers below 2 ^ 100 -/
theorem Shw.ints {ns : List Int} {n : Nat} (h : ∀ x ∈ ns, x.natAbs < 2 ^ 100) (hl : ns.length ≤ n) : Shw (.list (ns.map .int)) (n * 103 + 3) 1 :=
  Shw.list (k := 101) (d := 0) (n := n) (fun p hp => by
    obtain ⟨x, hx, rfl⟩ := List.mem_map.mp hp
    exact Shw.int (h x hx) (by decide) (by decide)) (by rw [List.length_map]; exact hl)
theorem Shw.intsT {ns : List Int} {n : Nat} (h : ∀ x ∈ ns, x.natAbs < 2 ^ 100) (hl : ns.length ≤ n) : Shw (.tuple (ns.map .int)) (n * 103 + 3) 1 :=
  Shw.tuple (k := 101) (d := 0) (n := n) (fun p hp => by
    obtain ⟨x, hx, rfl⟩ := List.mem_map.mp hp
    exact Shw.int (h x hx) (by decide) (by decide)) (by rw [List.length_map]; exact hl)
theorem line_big : 10000000 ≤ sizeLine := by decide
end Dl

/-! Readings are monotone; two ways of a plain if joined. -/
namespace Dl
open PySem PySem.Spec PyProof.Rows L2

class ME (e : DE) : Prop where
  mono : ∀ {δ m} {R R' : D → Sto → Prop}, (∀ d m, R d m → R' d m) → e δ m R → e δ m R'
class MT (e : DT) : Prop where
  mono : ∀ {δ m} {R R' : Bool → Sto → Prop}, (∀ d m, R d m → R' d m) → e δ m R → e δ m R'
class MA (e : DA) : Prop where
  mono : ∀ {δ m} {R R' : List D → Sto → Prop}, (∀ d m, R d m → R' d m) → e δ m R → e δ m R'
class M2 (g : O2) : Prop where
  mono : ∀ {d e m} {R R' : D → Sto → Prop}, (∀ d m, R d m → R' d m) → g d e m R → g d e m R'
class ML (g : OL) : Prop where
  mono : ∀ {ds m} {R R' : D → Sto → Prop}, (∀ d m, R d m → R' d m) → g ds m R → g ds m R'
instance (i : Nat) : ME (dVar i) := ⟨fun w h => by unfold dVar at *; split at h <;> first | exact w _ _ h | exact h⟩
instance (d : D) : ME (dC d) := ⟨fun w h => w _ _ h⟩
instance : MA dNil := ⟨fun w h => w _ _ h⟩
instance (a : DE) (r : DA) [ME a] [MA r] : MA (dCons a r) := ⟨fun w h => ME.mono (e := a) (fun _ _ h => MA.mono (e := r) (fun _ _ h => w _ _ h) h) h⟩
theorem newL_mono {b : Bool} {ds : List D} {m : Sto} {R R' : D → Sto → Prop} (w : ∀ d m, R d m → R' d m) (h : newL b ds m R) : newL b ds m R' := by
  cases b with
  | true => exact fun p hp => w _ _ (h p hp)
  | false => exact w _ _ h
instance (b : Bool) (t : DA) [MA t] : ME (dLst b t) := ⟨fun w h => MA.mono (e := t) (fun _ _ h => ⟨h.1, newL_mono w h.2⟩) h⟩
instance (t : DA) [MA t] : ME (dTup t) := ⟨fun w h => MA.mono (e := t) (fun _ _ h => ⟨h.1, w _ _ h.2⟩) h⟩
instance (g : O2) (a b : DE) [M2 g] [ME a] [ME b] : ME (dOp g a b) := ⟨fun w h => ME.mono (e := a) (fun _ _ h => ME.mono (e := b) (fun _ _ h => M2.mono (g := g) w h) h) h⟩
instance (e : DE) [ME e] : MT (dB e) := ⟨fun w h => ME.mono (e := e) (fun d _ h => by cases d <;> first | exact w _ _ h | exact h) h⟩
instance (t u : DT) [MT t] [MT u] : MT (dAnd t u) := ⟨fun w h => MT.mono (e := t) (fun _ _ h => ⟨fun c => MT.mono (e := u) w (h.1 c), fun c => w _ _ (h.2 c)⟩) h⟩
instance (t u : DT) [MT t] [MT u] : MT (dOr t u) := ⟨fun w h => MT.mono (e := t) (fun _ _ h => ⟨fun c => w _ _ (h.1 c), fun c => MT.mono (e := u) w (h.2 c)⟩) h⟩
instance (t : DT) [MT t] : MT (dNot t) := ⟨fun w h => MT.mono (e := t) (fun _ _ h => w _ _ h) h⟩
instance (a : DE) [ME a] : ME (dNeg a) := ⟨fun w h => ME.mono (e := a) (fun d _ h => by cases d <;> first | exact w _ _ h | exact h) h⟩
instance (g : OL) (t : DA) [ML g] [MA t] : ME (dCB g t) := ⟨fun w h => MA.mono (e := t) (fun _ _ h => ML.mono (g := g) w h) h⟩
instance : M2 subD := ⟨fun w h => by unfold subD at *; split at h <;> first | exact w _ _ h | exact h⟩
instance : M2 divD := ⟨fun w h => by unfold divD at *; split at h <;> first | exact ⟨h.1, w _ _ h.2⟩ | exact h⟩
instance : M2 modD := ⟨fun w h => by unfold modD at *; split at h <;> first | exact ⟨h.1, w _ _ h.2⟩ | exact h⟩
instance : M2 powD := ⟨fun w h => by unfold powD at *; split at h <;> first | exact ⟨h.1, w _ _ h.2⟩ | exact h⟩
instance (p s) : M2 (cmpD p s) := ⟨fun w h => by unfold cmpD at *; split at h <;> first | exact w _ _ h | exact h⟩
instance : M2 gtD := ⟨fun w h => by unfold gtD at *; split at h <;> first | exact w _ _ h | exact h⟩
instance : M2 geD := ⟨fun w h => by unfold geD at *; split at h <;> first | exact w _ _ h | exact h⟩
instance : M2 isD := ⟨fun w h => by unfold isD at *; split at h <;> first | exact w _ _ h | exact h⟩
instance : M2 isntD := ⟨fun w h => by unfold isntD at *; split at h <;> first | exact w _ _ h | exact h⟩
instance : M2 eqD := ⟨fun w h => by
  unfold eqD at *
  split at h
  · exact w _ _ h
  · exact w _ _ h
  · exact w _ _ h
  · obtain ⟨p, q, h1, h2, h3, h4, h5⟩ := h
    exact ⟨p, q, h1, h2, h3, h4, w _ _ h5⟩⟩
instance : M2 neD := ⟨fun w h => by
  unfold neD at *
  split at h
  · exact w _ _ h
  · exact w _ _ h
  · exact w _ _ h
  · obtain ⟨p, q, h1, h2, h3, h4, h5⟩ := h
    exact ⟨p, q, h1, h2, h3, h4, w _ _ h5⟩⟩
instance : M2 ixD := ⟨fun w h => by
  unfold ixD at *
  split at h
  · split at h
    · obtain ⟨h1, c, h2, h3⟩ := h
      exact ⟨h1, c, h2, w _ _ h3⟩
    · obtain ⟨xs, x, h1, h2, h3⟩ := h
      exact ⟨xs, x, h1, h2, w _ _ h3⟩
  · exact h⟩
instance (b : Bool) : M2 (addD b) := ⟨fun w h => by
  unfold addD at *
  split at h
  · exact w _ _ h
  · exact ⟨h.1, w _ _ h.2⟩
  · exact ⟨h.1, w _ _ h.2⟩
  · obtain ⟨xs, ys, h1, h2, h3, h4⟩ := h
    exact ⟨xs, ys, h1, h2, h3, newL_mono w h4⟩⟩
instance (b : Bool) : M2 (mulD b) := ⟨fun w h => by
  unfold mulD at *
  split at h
  · exact ⟨h.1, w _ _ h.2⟩
  · exact ⟨h.1, h.2.1, h.2.2.1, h.2.2.2.1, w _ _ h.2.2.2.2⟩
  · obtain ⟨xs, h1, h2, h3, h4, h5⟩ := h
    exact ⟨xs, h1, h2, h3, h4, newL_mono w h5⟩
  · exact h⟩
instance : ML lenD := ⟨fun w h => by
  unfold lenD at *
  split at h
  · exact ⟨h.1, w _ _ h.2⟩
  · exact w _ _ h
  · exact w _ _ h
  · obtain ⟨o, n, h1, h2, h3⟩ := h
    exact ⟨o, n, h1, h2, w _ _ h3⟩
  · exact h⟩
instance : ML minD := ⟨fun w h => by
  unfold minD at *
  split at h
  · exact w _ _ h
  · obtain ⟨n, h1, h2, h3⟩ := h
    exact ⟨n, h1, h2, w _ _ h3⟩
  · exact h⟩
instance : ML maxD := ⟨fun w h => by
  unfold maxD at *
  split at h
  · exact w _ _ h
  · obtain ⟨n, h1, h2, h3⟩ := h
    exact ⟨n, h1, h2, w _ _ h3⟩
  · exact h⟩
instance : ML absD := ⟨fun w h => by unfold absD at *; split at h <;> first | exact w _ _ h | exact h⟩
instance : ML intD := ⟨fun w h => by unfold intD at *; split at h <;> first | exact w _ _ h | exact h⟩

/-- if c: x = e, where x holds a whole number: both ways with one that Q holds of -/
theorem if_join {c : DT} {e : DE} [MT c] [ME e] {i : Nat} {s : Int} {P : DEnds} {δ : Ev} {m : Sto} (Q : Int → Prop) (hs : δ.s[i]? = some (some (.int s)))
    (h : c δ m fun b m1 => m1 = m ∧ (b = true → e δ m fun d m2 => m2 = m ∧ ∃ s', d = .int s' ∧ Q s') ∧ (b = false → Q s)) (k : ∀ s', Q s' → P.nx (δ.put i (.int s')) m) : dIf c (dSet i e) dNext P δ m := by
  refine MT.mono (e := c) (fun b m1 hh => ?_) h
  obtain ⟨em, h1, h2⟩ := hh
  subst em
  refine ⟨fun hb => ME.mono (e := e) (fun d m2 hq => ?_) (h1 hb), fun hb => ?_⟩
  · obtain ⟨em, s', ed, q⟩ := hq
    subst em ed
    exact k s' q
  · have q := k s (h2 hb)
    have e : δ.put i (.int s) = δ := by
      obtain ⟨l, x⟩ := δ
      show (⟨l.set i (some (.int s)), x⟩ : Ev) = ⟨l, x⟩
      congr 1
      apply List.ext_getElem?
      intro j
      by_cases hj : i = j
      · subst hj
        rw [List.getElem?_set, if_pos rfl]
        have hs' : l[i]? = some (some (.int s)) := hs
        rw [hs']
        split
        · rfl
        · rename_i hl
          rw [List.getElem?_eq_none (Nat.le_of_not_lt hl)] at hs'
          cases hs'
      · rw [List.getElem?_set_ne hj]
    rw [e] at q
    exact q
end Dl

/-! The data layer: exceptions. A caught one is tracked from where it lands. -/
namespace Dl
open PySem PySem.Spec PyProof.Rows L2

/-- a caught exception's object -/
def ExB (cls : Value) (d : Option Addr) (a : Addr) : HO := .ext fun h => ∃ (oe : Obj) (vs : Array Value), h.get? a = some oe ∧ Zc cls d oe ∧ oe.data = .fields vs
theorem exB_ok {P : Program} {w : World} {H : Hp} {h : Heap} {a : Addr} {cls : Value} {d : Option Addr} {oe : Obj} {vs : Array Value} (e : h.get? a = some oe) (z : Zc cls d oe) (k : oe.data = .fields vs) : ObjOk P w H h a (ExB cls d a) :=
  ⟨⟨oe, vs, e, z, k⟩, ⟨oe, e⟩, fun _ _ ⟨o, v, q, r1, r2⟩ st => ⟨o, v, st o q, r1, r2⟩⟩
section
variable {X : Cx} {pins : List (Addr × Obj)} {σ : L2.St} {H : Hp} {s : Shared} {a : Addr}
/-- it is of no def's own things -/
structure Apart (X : Cx) (pins : List (Addr × Obj)) (a : Addr) : Prop where
  s0 : X.s_0.heap.get? a = none
  loc : a ≠ X.env.locals
  cel : ∀ x c, X.env.cells.lookup x = some c → c ≠ a
  pin : ∀ p ∈ X.pn ++ pins, p.1 ≠ a
theorem apart_of {sI : Shared} {H' : Hp} {σ' : L2.St} {B : Heap} (I : Inv X pins σ' H' sI) (hx : X.ex = []) (hB : B.get? a = none) (nb : ∀ b o, sI.heap.get? b = some o → b ∉ frs X.stack → B.get? b = some o) (nf : a ∉ frs X.stack) : Apart X pins a := by
  have hI : sI.heap.get? a = none := by
    cases e : sI.heap.get? a with
    | none => rfl
    | some o => exact (nomatch (nb a o e nf).symm.trans hB)
  have ne : ∀ b o, sI.heap.get? b = some o → b ≠ a := fun b o e z => by
    rw [z, hI] at e
    cases e
  refine ⟨?_, fun z => ?_, fun x c e => ?_, fun p hp => ne _ _ (I.pin p hp).1⟩
  · cases e : X.s_0.heap.get? a with
    | none => rfl
    | some o =>
      obtain ⟨o', e'⟩ := I.base.there a o e (by rw [hx]; simp)
      exact (ne a o' e' rfl).elim
  · obtain ⟨m, ⟨o, _, _, ho, _⟩, _⟩ := I.loc
    exact ne _ _ ho z.symm
  · obtain ⟨v, o, ho, _⟩ := I.cell x c e
    exact ne _ _ ho
theorem inv_reg {oe : Obj} {vs : Array Value} {cls : Value} {d : Option Addr} (I : Inv X pins σ H s) (ap : Apart X pins a) (hn : H a = none) (he : s.heap.get? a = some oe) (hz : Zc cls d oe) (hd : oe.data = .fields vs) : Inv X pins σ (L2.upd H a (ExB cls d a)) s := by
  have sm : ∀ b u, H b = some u → b ≠ a := fun b u e => ne_of_none e hn
  have at_ : ∀ b, b ≠ a → L2.upd H a (ExB cls d a) b = H b := fun b h => upd_ne h
  have s0 : ∀ b o, X.s_0.heap.get? b = some o → b ≠ a := fun b o e z => by
    rw [z, ap.s0] at e
    cases e
  refine ⟨I.ok, I.os, I.bare, ⟨I.base.keep, I.base.slot, fun b o e n hx => ?_, I.base.there, fun b xs e => ?_, fun b o u e => ?_, fun b ps e => ?_⟩, I.loc, I.cell, ?_, fun x c e => ?_, fun p hp => ?_, fun b u e => ?_, I.len⟩
  · rw [at_ b (s0 b o e)]
    exact I.base.free b o e n hx
  · have q := I.base.tups b xs e
    rw [at_ b (sm b _ q)]
    exact q
  · have q := I.base.frzs b o u e
    rw [at_ b (sm b _ q)]
    exact q
  · obtain ⟨more, q⟩ := I.base.tbls b ps e
    exact ⟨more, by rw [at_ b (sm b _ q)]; exact q⟩
  · rw [at_ _ ap.loc.symm]
    exact I.free
  · rw [at_ _ (ap.cel x c e)]
    exact I.freeC x c e
  · obtain ⟨q1, q2, q3⟩ := I.pin p hp
    exact ⟨q1, by rw [at_ _ (ap.pin p hp)]; exact q2, q3⟩
  · by_cases hb : b = a
    · subst hb
      rw [upd_same] at e
      cases e
      exact exB_ok he hz hd
    · rw [at_ b hb] at e
      exact (I.hok b u e).stay (fun c w _ q => q) (fun c q => by rw [at_ c (sm c _ q)]; exact q) fun c xs q => by rw [at_ c (sm c _ q)]; exact q
/-- into a suite whose exception is tracked, and out of it -/
theorem inv_in (I : Inv X pins σ H s) : Inv (X.suite a (X.pn ++ pins)) [] σ H s :=
  ⟨I.ok.suite _ _, I.os, I.bare, I.base, I.loc, I.cell, I.free, I.freeC, fun p hp => I.pin p (by rw [List.append_nil] at hp; exact hp), I.hok, I.len⟩
theorem inv_out {pn' : List (Addr × Obj)} (I : Inv (X.suite a (X.pn ++ pins)) pn' σ H s) (ok : X.Ok) : Inv X pins σ H s :=
  ⟨ok, I.os, I.bare, I.base, I.loc, I.cell, I.free, I.freeC, fun p hp => I.pin p (List.mem_append_left _ hp), I.hok, I.len⟩
end
/-- an end behind an except suite whose name lay in slot i -/
def gone (i : Nat) (D : Ends) : Ends where
  nx := fun σ H => D.nx (σ.set i none) H
  rt := D.rt
  bk := fun σ H => D.bk (σ.set i none) H
  ct := fun σ H => D.ct (σ.set i none) H
/-- what the clause wishes of an exception of the body -/
def wReg (K : PySem.W.Frag) (c : Value) (i : Nat) (ts : Addr → TS) (Wout : WX) (D : Ends) : WX := fun cls d σ H =>
  ∃ b, PySem.W.exmOne K cls c = some b ∧ (b = true → ∀ a, H a = none → ts a (gone i D) (σ.set i (some (.ref a))) (L2.upd H a (ExB cls d a))) ∧ (b = false → Wout cls d σ H)
section
variable {X : Cx} {x n : Str} {c : Value} {i : Nat} {body suite : List Stmt} {st0 : Stmt} {np pos pos' : Pos} {tb : WX → TS} {ts : Addr → TS} {Wout : WX}
theorem ps_try_reg (hs : X.stack = X.env :: X.outer) (hf : X.env.frame = some X.env.locals) (hx : X.ex = []) (hN : X.N.Nodup) (hi : X.N[i]? = some n) (hln : X.env.kindOf n = some .local) (hc : Names X x c) (tk : Takes X Wout)
    (hb : ∀ (W : WX) (pn : List (Addr × Obj)) (xe : Value → Shared → Prop), Takes (X.tr pn xe) W → PassesOwn (model X.prog X.w) X.A X.env xe → PSs (X.tr pn xe) body (tb W))
    (hsu : ∀ (a : Addr) (pn : List (Addr × Obj)), PSs (X.suite a pn) (st0 :: suite) (ts a)) :
    PS X (.Try body [.ExceptHandler (some (.Name x np)) (some n) (st0 :: suite) pos'] [] [] pos) (fun D σ H => tb (wReg X.K c i ts Wout D) D σ H) := by
  refine ⟨fun pins s σ H D I h => ?_⟩
  have ok := I.ok
  have frm : X.A.frames = some (X.env :: X.outer) := ok.frames.trans (congrArg some hs)
  have own : Loc X.env.scope n := Or.inl hln
  -- what happens to an exception of the body
  have air : ∀ (u : Value) (s' : Shared), XE (X.tr (X.pn ++ pins) fun e s₁ => wpAny (model X.prog X.w) X.A (noteFrame e X.env) (fun _ s₂ => wpAny (model X.prog X.w) X.A (setFlight e none)
      (fun _ s₃ => wpAny (model X.prog X.w) X.A (handleBy e X.env [.ExceptHandler (some (.Name x np)) (some n) (st0 :: suite) pos']) (SP X pins D) X.xe s₃) X.xe s₂) X.xe s₁) (wReg X.K c i ts Wout D) u s' →
      wpAny (model X.prog X.w) X.A (noteFrame u X.env) (fun _ s₂ => wpAny (model X.prog X.w) X.A (setFlight u none) (fun _ s₃ =>
        wpAny (model X.prog X.w) X.A (handleBy u X.env [.ExceptHandler (some (.Name x np)) (some n) (st0 :: suite) pos']) (SP X pins D) X.xe s₃) X.xe s₂) X.xe s' := by
    intro u s' hu
    obtain ⟨a, B, sI, pins', σ1, H1, cls, d, rfl, J0, nb, up, sky, na, os, ag, b, hb1, yes, no⟩ := hu
    have J1 : Inv X pins σ1 H1 sI := J0.ofTry ok
    have sky1 : Sky B (X.env :: X.outer) a (Zc cls d) X.env.locals s'.heap := hs ▸ sky
    refine Sky.land Zc.steady frm hf sky1 fun h3 fl3 up3 => ?_
    have J3 : Inv X pins σ1 H1 { s' with heap := h3 } := J1.landed nb fl3.1 (up.trans up3) os ag
    obtain ⟨oe3, vs3, get3, z3, data3⟩ := fl3.there
    have noframe : a ∉ frs X.stack := by
      rw [hs]
      intro hm
      obtain ⟨_, o', e', hnf⟩ := fl3.2.2.1.mem hm
      exact hnf _ ((Option.some.inj (get3.symm.trans e')) ▸ data3)
    have ap : Apart X pins a := apart_of J1 hx fl3.2.1 nb noframe
    have kin3 := J3.kIn
    have ofType : PySem.W.Looks (model X.prog X.w) h3 (typeOf (.ref a)) cls := fun A Q E s k q => wpAny_typeOf_ref (k _ _ get3) (z3.1.symm ▸ q)
    have match3 := PySem.W.exm_one (M := model X.prog X.w) kin3 ofType hb1
    have S3 : Inv (X.suite a (X.pn ++ pins)) [] σ1 H1 { s' with heap := h3 } := inv_in J3
    have named : ∀ {Q E : Value → Shared → Prop}, Q c { s' with heap := h3 } → wpAny (model X.prog X.w) (X.A.mark (some (.ref a))) (eval (.Name x np) X.env) Q E { s' with heap := h3 } := fun {Q E} q => by
      rcases hc with ⟨hg, hdbg, hm | ⟨hm, hv, hnn⟩⟩
      · exact ld_glob (X := X.suite a (X.pn ++ pins)) S3 hg hm q hdbg
      · exact ld_blt (X := X.suite a (X.pn ++ pins)) S3 hg hm hv q hnn hdbg
    refine wpAny_handleBy_cons (codeAny_handlers_test (named (match3.here ?_))) (fun z => by cases z)
    cases b with
    | false =>
      refine wpAny_handleBy_nil ?_
      obtain ⟨_, _, _, oe, vs, T, _, _, he, _, hd, h1, _⟩ := id fl3
      have up4 : wpAny (model X.prog X.w) X.A (setFlight (.ref a) X.env.frame) (fun _ s4 => wpAny (model X.prog X.w) X.A (throw (.ref a) : Sem Flow) (SP X pins D) X.xe s4) X.xe { s' with heap := h3 } := by
        rw [hf]
        exact HandSPX.setFlight_upZ fl3 fun h4 hh4 up4 => wpAny_throw (tk _ _ ⟨a, B, sI, pins, σ1, H1, cls, d, rfl, J1, nb, (up.trans up3).trans up4, .inr (.inr (hs.symm ▸ hh4)), na, os, ag, no rfl⟩)
      unfold PySem.passOn
      refine wpAny_bind (wpAny_field he hd h1 ?_)
      rw [if_neg (show ¬ ((Value.ref T == Value.none) = true) by simp)]
      first
        | exact wpAny_bind (wpAny_pure (wpAny_bind up4))
        | exact wpAny_bind up4
    | true =>
      refine codeAny_handlers_suite_as (HandSPX.lands_againZ fl3 fun h4 fl4 up4 => ?_)
      have J4 : Inv X pins σ1 H1 { s' with heap := h4 } := J1.landed nb fl4.1 ((up.trans up3).trans up4) os ag
      obtain ⟨oe4, vs4, get4, z4, data4⟩ := fl4.there
      have S4 : Inv (X.suite a (X.pn ++ pins)) [] σ1 (L2.upd H1 a (ExB cls d a)) { s' with heap := h4 } := inv_in (inv_reg J4 ap na get4 z4 data4)
      refine store_ok (X := X.suite a (X.pn ++ pins)) (v := .ref a) S4 hN hi own rfl (fun s5 S5 => ?_) (.inr hln)
      have run := (hsu a (X.pn ++ pins)).run [] s5 _ _ (gone i D) S5 (yes rfl a na)
      refine wpAny_mono run (fun f s6 q6 => ?_) (fun _ _ z => z.elim)
      have leave : ∀ {σ6 : L2.St} {H6 : Hp} {Q : Shared → Prop}, Inv (X.suite a (X.pn ++ pins)) [] σ6 H6 s6 → (∀ s7, Inv X pins (σ6.set i none) H6 s7 → Q s7) →
          wpAny (model X.prog X.w) X.A (do bindName X.env n .none; unbindBehindTheSuite X.env n pos') (fun _ s7 => Q s7) X.xe s6 := fun S6 q => gone_ok (inv_out S6 ok) hN hi hln q
      cases f with
      | next =>
        obtain ⟨σ6, H6, S6, q⟩ := q6
        exact leave S6 fun s7 J7 => ⟨_, _, J7, q⟩
      | brk =>
        obtain ⟨σ6, H6, S6, q⟩ := q6
        exact leave S6 fun s7 J7 => ⟨_, _, J7, q⟩
      | cont =>
        obtain ⟨σ6, H6, S6, q⟩ := q6
        exact leave S6 fun s7 J7 => ⟨_, _, J7, q⟩
      | ret u =>
        obtain ⟨v6, σ6, H6, S6, r6, q⟩ := q6
        exact leave S6 fun s7 J7 => ⟨_, _, _, J7, r6, q⟩
  refine wpAny_Try_except (wpAny_mono ((hb (wReg X.K c i ts Wout D) (X.pn ++ pins) _ air PassesOwn.looking).run [] s σ H D (I.toTry _) h) (fun f s1 q1 => ?_) fun e s1 he => he)
  cases f with
  | next =>
    obtain ⟨σ1, H1, J1, q⟩ := q1
    exact wpAny_execs_nil ⟨_, _, J1.ofTry ok, q⟩
  | brk =>
    obtain ⟨σ1, H1, J1, q⟩ := q1
    exact ⟨_, _, J1.ofTry ok, q⟩
  | cont =>
    obtain ⟨σ1, H1, J1, q⟩ := q1
    exact ⟨_, _, J1.ofTry ok, q⟩
  | ret u =>
    obtain ⟨v, σ1, H1, J1, r, q⟩ := q1
    exact ⟨_, _, _, J1.ofTry ok, r, q⟩
end

/-! ### over data -/
theorem SlotsOk.none {K : PySem.W.Frag} {m : Sto} {H : Hp} {σ : L2.St} {δ : List (Option D)} (h : SlotsOk K m H σ δ) (i : Nat) : SlotsOk K m H (σ.set i none) (δ.set i none) := by
  refine ⟨by rw [List.length_set, List.length_set, h.1], fun j d k => ?_⟩
  by_cases hj : i = j
  · subst hj
    rw [List.getElem?_set, if_pos rfl] at k
    split at k <;> cases k
  · rw [List.getElem?_set_ne hj] at k
    obtain ⟨v, a, b⟩ := h.2 j d k
    exact ⟨v, by rw [List.getElem?_set_ne hj]; exact a, b⟩
def dRaise (C : Addr) : DS := fun _ δ m => δ.x δ.s C none m
/-- the ends behind a try, whose wish of exceptions was x -/
def DEnds.wish (P : DEnds) (x : List (Option D) → DX) : DEnds := ⟨fun δ m => P.nx ⟨δ.s, x⟩ m, P.rt, fun δ m => P.bk ⟨δ.s, x⟩ m, fun δ m => P.ct ⟨δ.s, x⟩ m⟩
/-- .. behind an except suite whose name lay in slot i -/
def DEnds.gone (P : DEnds) (i : Nat) : DEnds := ⟨fun δ m => P.nx ⟨δ.s.set i none, δ.x⟩ m, P.rt, fun δ m => P.bk ⟨δ.s.set i none, δ.x⟩ m, fun δ m => P.ct ⟨δ.s.set i none, δ.x⟩ m⟩
/-- try: b except c as (slot i): su; every exception that comes is one of cs -/
def dTry (cs : List Addr) (i : Nat) (b su : DS) : DS := fun P δ m =>
  b (P.wish δ.x) ⟨δ.s, fun s' C fs m' => fs = none ∧ C ∈ cs ∧ ∀ a, m' a = none → su (P.gone i) ⟨s'.set i (some (.ptr a)), δ.x⟩ (up m' a (.raw (ExB (.ref C) none a)))⟩ m
/-- isinstance(a, c), a a caught exception -/
def isExD (c : D) (tab : List (Addr × Bool)) : OL := fun ds m R => ∃ a C b, ds = [.ptr a, c] ∧ m a = some (.raw (ExB (.ref C) none a)) ∧ (C, b) ∈ tab ∧ R (.bl b) m
section
variable {X : Cx} {Y : XS} {W : WX} {e : Expr} {pos : Pos}
theorem pds_raise {C : Addr} (hc : X.calm = true) (tk : Takes X W) (he : PMk X e (fun _ H Q => Q (.ref C) none H)) (hW : ∀ σ cls d H, Y σ cls d H → W cls d σ H := by exact fun _ _ _ _ z => z) : PDS X Y (.Raise (some e) none pos) (dRaise C) :=
  ⟨ps_weak (ps_raise hc tk he) fun E σ H ⟨δ, m, P, en, st, h, k⟩ => hW _ _ _ _ (en.2 σ δ.s C none m H none h Ext.rfl st en.1 trivial)⟩
theorem pds_try {x n : Str} {c : Value} {i : Nat} {cs : List Addr} {body suite : List Stmt} {st0 : Stmt} {np pos' : Pos} {b su : DS} (hs : X.stack = X.env :: X.outer) (hf : X.env.frame = some X.env.locals) (hx : X.ex = []) (hN : X.N.Nodup) (hi : X.N[i]? = some n) (hln : X.env.kindOf n = some .local) (hc : Names X x c)
    (tk : Takes X W) (hcs : ∀ C ∈ cs, PySem.W.exmOne X.K (.ref C) c = some true)
    (hb : ∀ (W : WX) (pn : List (Addr × Obj)) (xe : Value → Shared → Prop), Takes (X.tr pn xe) W → PassesOwn (model X.prog X.w) X.A X.env xe → PDSs (X.tr pn xe) (WE W) body b)
    (hsu : ∀ (a : Addr) (pn : List (Addr × Obj)), PDSs (X.suite a pn) Y (st0 :: suite) su) :
    PDS X Y (.Try body [.ExceptHandler (some (.Name x np)) (some n) (st0 :: suite) pos'] [] [] pos) (dTry cs i b su) :=
  ⟨ps_weak (ps_try_reg (tb := fun W => lS X.K (WE W) b) (ts := fun _ => lS X.K Y su) hs hf hx hN hi hln hc tk (fun W pn xe t p => (hb W pn xe t p).ps) fun a pn => (hsu a pn).ps) fun E σ H ⟨δ, m, P, en, st, h, k⟩ => by
    unfold dTry at h
    refine ⟨_, m, P.wish δ.x, ⟨?_, ?_⟩, st, h, ⟨?_, ?_, ?_, k.rt⟩⟩
    · exact en.1
    · intro σ' s' C fs m' H' dd hq ex st' sl xr
      obtain ⟨rfl, hC, hq⟩ := hq
      have ed : dd = none := by
        cases dd with
        | none => rfl
        | some z => exact (xr : False).elim
      subst ed
      refine ⟨true, hcs C hC, fun _ a ha => ?_, fun z => by cases z⟩
      have exa : Ext m' H' (up m' a (.raw (ExB (.ref C) none a))) (L2.upd H' a (ExB (.ref C) none a)) := ext_add ha
      have ex2 := ex.trans exa
      refine ⟨⟨s'.set i (some (.ptr a)), δ.x⟩, _, P.gone i, ⟨(sl.ext exa).set i (.ptr a), en.2.on ex2⟩, sto_at st' exa upd_same, hq a (st'.free ha), ⟨?_, ?_, ?_, ?_⟩⟩
      · exact fun σ2 H2 δ2 m2 q e2 n2 s2 => k.nx _ _ _ _ q (ex2.trans e2) ⟨n2.1.none i, n2.2⟩ s2
      · exact fun σ2 H2 δ2 m2 q e2 n2 s2 => k.bk _ _ _ _ q (ex2.trans e2) ⟨n2.1.none i, n2.2⟩ s2
      · exact fun σ2 H2 δ2 m2 q e2 n2 s2 => k.ct _ _ _ _ q (ex2.trans e2) ⟨n2.1.none i, n2.2⟩ s2
      · exact fun v H2 d m2 q e2 => k.rt v H2 d m2 q (ex2.trans e2)
    · exact fun σ2 H2 δ2 m2 q e2 n2 s2 => k.nx _ _ ⟨δ2.s, δ.x⟩ _ q e2 ⟨n2.1, en.2.on e2⟩ s2
    · exact fun σ2 H2 δ2 m2 q e2 n2 s2 => k.bk _ _ ⟨δ2.s, δ.x⟩ _ q e2 ⟨n2.1, en.2.on e2⟩ s2
    · exact fun σ2 H2 δ2 m2 q e2 n2 s2 => k.ct _ _ ⟨δ2.s, δ.x⟩ _ q e2 ⟨n2.1, en.2.on e2⟩ s2⟩
end
/-! ### isinstance of a caught exception -/
section
variable {K : PySem.W.Frag}
theorem kit1 {C C' : Addr} {b : Bool} (hc : (PySem.W.clsIn K C').isSome = true) (ht : PySem.W.typeIn K (.ref C') = some (.type "type")) (hs : PySem.W.subIn K (.ref C) (.ref C') = some b) (hr : PySem.W.subIn K (.ref C) (.ref C) = some true) : PySem.W.kitOne K (.ref C) (.ref C') = some b := by
  unfold PySem.W.kitOne
  by_cases e : C = C'
  · subst e
    rw [hs] at hr
    rw [if_pos (by simp), ← hr]
  · rw [if_neg (fun z => e (Value.ref.inj (beq_iff_eq.mp z)))]
    show (if ((PySem.W.clsIn K C').isSome && PySem.W.typeIn K (.ref C') == some (.type "type")) = true then PySem.W.subIn K (.ref C) (.ref C') else none) = some b
    rw [hc, ht, if_pos (by rfl)]
    exact hs
theorem kit2 {C : Addr} {n : String} {b : Bool} (hm : PySem.W.kitMeta n = true) (hs : PySem.W.subIn K (.ref C) (.type n) = some b) : PySem.W.kitOne K (.ref C) (.type n) = some b := by
  unfold PySem.W.kitOne
  rw [if_neg (fun z => by cases beq_iff_eq.mp z)]
  show (if PySem.W.kitMeta n = true then PySem.W.subIn K (.ref C) (.type n) else none) = some b
  rw [if_pos hm]
  exact hs
theorem kitN {t : Value} : ∀ {cs : List Addr}, (∀ c ∈ cs, PySem.W.kitOne K t (.ref c) = some false) → PySem.W.kitAny K t (cs.map Value.ref) = some false
  | [], _ => rfl
  | c :: r, h => by
    show (match PySem.W.kitOne K t (.ref c) with
      | some true => some true
      | some false => PySem.W.kitAny K t (r.map Value.ref)
      | none => none) = some false
    rw [h c List.mem_cons_self]
    exact kitN fun c hc => h c (List.mem_cons_of_mem _ hc)
theorem exm1 {C C' : Addr} {b : Bool} (hb : PySem.W.subIn K (.ref C') (.type "BaseException") = some true) (hc : (PySem.W.clsIn K C').isSome = true) (ht : PySem.W.typeIn K (.ref C') = some (.type "type")) (hs : PySem.W.subIn K (.ref C) (.ref C') = some b) : PySem.W.exmOne K (.ref C) (.ref C') = some b := by
  unfold PySem.W.exmOne
  rw [hb, if_pos (by rfl)]
  show (if ((PySem.W.clsIn K C').isSome && PySem.W.typeIn K (.ref C') == some (.type "type")) = true then PySem.W.subIn K (.ref C) (.ref C') else none) = some b
  rw [hc, ht, if_pos (by rfl)]
  exact hs
end
section
variable {X : Cx}
theorem exB_at {pins : List (Addr × Obj)} {σ : L2.St} {H : Hp} {s : Shared} {a C : Addr} (I : Inv X pins σ H s) (h : H a = some (ExB (.ref C) none a)) : ∃ oe, PySem.W.InstAt s.heap a oe C none := by
  obtain ⟨⟨oe, vs, g, z, d⟩, _, _⟩ := I.hok a _ h
  obtain ⟨oc, od, oda, osl⟩ := oe
  obtain ⟨h1, h2⟩ := z
  dsimp only at h1 h2 d
  subst h1 h2 d
  exact ⟨_, g, rfl, rfl, trivial⟩
theorem tup_at {pins : List (Addr × Obj)} {σ : L2.St} {H : Hp} {s : Shared} {a : Addr} {xs : List V} (I : Inv X pins σ H s) (h : SqT X.K H a xs) : ∃ dd its n sl, s.heap.get? a = some ⟨.type "tuple", dd, .seq (its : List Value).toArray n, sl⟩ ∧ Vals xs its := by
  have go : ∀ o : Obj, s.heap.get? a = some o → ∀ its : List Value, Vals xs its → o.cls = .type "tuple" → (∃ n, o.data = .seq its.toArray n) → ∃ dd its n sl, s.heap.get? a = some ⟨.type "tuple", dd, .seq (its : List Value).toArray n, sl⟩ ∧ Vals xs its := fun o g its rv h1 h2 => by
    obtain ⟨n, h2⟩ := h2
    obtain ⟨oc, od, dt, sl⟩ := o
    dsimp only at h1 h2
    subst h1 h2
    exact ⟨od, its, n, sl, g, rv⟩
  rcases h with (h | ⟨ob, h⟩) | ⟨o, its, n, h1, h2, h3, _, rv⟩
  · obtain ⟨_, its, rv, o, q1, q2, q3⟩ := (show ObjOk X.prog X.w H s.heap a (.tup xs) from I.hok a _ h)
    exact go o q1 its rv q2 q3
  · obtain ⟨_, _, its, rv, o, q1, q2, q3⟩ := (show ObjOk X.prog X.w H s.heap a (.frz ob (.tup xs)) from I.hok a _ h)
    exact go o q1 its rv q2 q3
  · exact go o (I.kIn _ _ h1) its.toList rv h2 ⟨n, by simpa using h3⟩
theorem refsV {K : PySem.W.Frag} {m : Sto} {H : Hp} : ∀ {cs : List Addr} {vs : List V}, RpL K m H vs (cs.map D.ptr) → ∀ {us : List Value}, Vals vs us → us = cs.map Value.ref
  | [], _, .nil, _, .nil => rfl
  | c :: cs, _, .cons r1 r2, _, .cons k1 k2 => by
    cases r1
    rw [refsV r2 k2]
    rw [show _ = Value.ref c from k1]
    rfl
theorem kitx_of {C a : Addr} {oe : Obj} (E : ExcC X.K C) : PySem.W.KitX X.K (.ref a) (.ref C) (fun h => PySem.W.InstAt h a oe C none) := PySem.W.handS_kitx_exc E.hg E.hk E.hs E.hd E.ha E.hn E.ht E.hm
theorem cd_isEx {c : D} {cv : Value} {tab : List (Addr × Bool)} (hcv : ∀ (m : Sto) (H : Hp) (v : V) (u : Value), Rp X.K m H v c → RelV v u → u = cv) (h : ∀ p ∈ tab, ExcC X.K p.1 ∧ PySem.W.kitOne X.K (.ref p.1) cv = some p.2) : CallD X (.builtin "isinstance") (isExD c tab) :=
  ⟨by
    intro pins s σ H xs us Q I r ⟨m, ds, R, rl, st, hq, k⟩
    obtain ⟨a, C, b, rfl, h1, h2, h3⟩ := hq
    obtain ⟨v, w, rfl, r1, r2⟩ := rl.two
    obtain ⟨u1, u2, rfl, k1, k2⟩ := vals2 r
    cases r1
    cases (show u1 = Value.ref a from k1)
    have e := hcv _ _ _ _ r2 k2
    subst e
    obtain ⟨hE, hk⟩ := h _ h2
    obtain ⟨oe, J⟩ := exB_at I (st a _ h1)
    exact PySem.W.kia_one (kitx_of hE) I.kIn J hk (fun z => nomatch z) fun tk => ⟨.bl b, H, I.tok tk, rfl, k _ _ _ _ h3 Ext.rfl st (.bl b)⟩⟩
theorem cd_isEx1 {C' : Addr} {tab : List (Addr × Bool)} (h : ∀ p ∈ tab, ExcC X.K p.1 ∧ PySem.W.kitOne X.K (.ref p.1) (.ref C') = some p.2) : CallD X (.builtin "isinstance") (isExD (.ptr C') tab) :=
  cd_isEx (fun _ _ v u r k => by cases r; exact k) h
theorem cd_isExY {n : String} {tab : List (Addr × Bool)} (h : ∀ p ∈ tab, ExcC X.K p.1 ∧ PySem.W.kitOne X.K (.ref p.1) (.type n) = some p.2) : CallD X (.builtin "isinstance") (isExD (.ty n) tab) :=
  cd_isEx (fun _ _ v u r k => by cases r; exact k) h
theorem cd_isExT {cs : List Addr} {tab : List (Addr × Bool)} (h : ∀ p ∈ tab, ExcC X.K p.1 ∧ PySem.W.kitAny X.K (.ref p.1) (cs.map Value.ref) = some p.2) : CallD X (.builtin "isinstance") (isExD (.tup (cs.map D.ptr)) tab) :=
  ⟨by
    intro pins s σ H xs us Q I r ⟨m, ds, R, rl, st, hq, k⟩
    obtain ⟨a, C, b, rfl, h1, h2, h3⟩ := hq
    obtain ⟨v, w, rfl, r1, r2⟩ := rl.two
    obtain ⟨u1, u2, rfl, k1, k2⟩ := vals2 r
    cases r1
    cases (show u1 = Value.ref a from k1)
    obtain ⟨tp, vs, rfl, sq, rl2⟩ := r2.tupV
    cases (show u2 = Value.ref tp from k2)
    obtain ⟨dd, its, n, sl, g, rv⟩ := tup_at I sq
    have e := refsV rl2 rv
    subst e
    obtain ⟨hE, hk⟩ := h _ h2
    obtain ⟨oe, J⟩ := exB_at I (st a _ h1)
    exact PySem.W.kia_tup (kitx_of hE) I.kIn J g hk (fun z => nomatch z) fun tk => ⟨.bl b, H, I.tok tk, rfl, k _ _ _ _ h3 Ext.rfl st (.bl b)⟩⟩
end
end Dl

/-! The data layer: a lambda without parameters that a def gets and calls. -/
namespace Dl
open PySem PySem.Spec PyProof.Rows L2
/-- a call that lets nothing out, of a def that might -/
theorem passAtL {X : Cx} {σ : L2.St} : PassesAt (L2.CX X.prog X.w) X σ E0 := fun _ _ _ _ _ _ h => by
  obtain ⟨_, _, _, _, _, _, _, _, _, _, _, _, z⟩ := h
  exact z.elim
theorem room_big {k : Nat} {A : Around} (r : Room k A) : A.units + 100 < cLine := by have := r.un; omega
section
variable {X : Cx} {pins : List (Addr × Obj)} {σ : L2.St} {H : Hp} {s : Shared} {m : Sto}
/-- a lambda is made -/
theorem lam_d {c P : Addr} {params : Arguments} {body : Expr} {scope : Scope} {pos : Pos} {E Q : Value → Shared → Prop} (I : Inv X pins σ H s) (st : StoOk X.K m H) (hP : m P = some (.tab (X.env.qual ++ "<lambda>"))) (TB : LamX.TabB X.base X.mg c P) (hcode : X.env.code = .ref c)
    (hdef : defaultsOf params X.env = ([], [])) (hfree : ∀ y ∈ scope.names, y.2 = .free → ∃ c, X.env.cells.lookup y.1 = some c)
    (h : ∀ (f c' : Addr) (pm ctv : Value) (H1 : Hp) (s' : Shared), Inv X pins σ H1 s' → Ext m H m H1 → StoOk X.K m H1 →
      s'.heap.get? f = some (PySem.W.kla_obj "<lambda>" (X.env.qual ++ "<lambda>") params body scope (cloFrom X.env.cells scope.names []) pm c' ctv) → H1 f = none → f ∉ frs X.stack → m c' = none → H1 c' = some (LamX.CodeO c' (X.env.qual ++ "<lambda>")) → Q (.ref f) s') :
    wpAny (model X.prog X.w) X.A (eval (.Lambda params body scope pos) X.env) Q E s := by
  obtain ⟨ps, atP, tri, among⟩ := st P _ hP
  have bP : s.heap.BuiltinsAt X.mg P := TB.bm.keeps I.bk
  have getP : s.heap.get? P = some { cls := .none, data := .fields ps } := I.hok P _ atP
  have noframe : ∀ f, s.heap.objs.size ≤ f → f ∉ frs X.stack := fun f hf z => (List.mem_cons.mp (I.stkSub _ z)).elim (fun e => by
    have l := I.lt
    rw [← e] at l
    exact absurd (Nat.lt_of_lt_of_le l hf) (Nat.lt_irrefl _)) fun e => I.nofs hf e
  refine PySem.W.kla_eval hdef ?_
  cases hc : codeAmong pos ps.toList with
  | some cv =>
    obtain ⟨c', e, n1, n2⟩ := among pos cv hc
    subst e
    exact PySem.W.kla_makeFunctionHit (mg := X.mg) (c := c) (P := P) (ps := ps) (closure_ok hfree) I.ok.glob (I.mod.glob.keeps I.bk) hcode (TB.code.keeps I.bk) getP tri hc bP fun ctv h' tk hx hsz =>
      h h'.objs.size c' ((X.mg "__name__").getD .none) ctv H _ (I.kept fun b o e => Heap.get?_push_of_some _ (hx b o e)) Ext.rfl st (Heap.get?_push_size _ rfl) (I.hok.fresh hsz) (noframe _ hsz) n1 n2
  | none =>
    refine PySem.W.kla_makeFunction (mg := X.mg) (c := c) (P := P) (ps := ps) (closure_ok hfree) I.ok.glob (I.mod.glob.keeps I.bk) hcode (TB.code.keeps I.bk) getP tri hc TB.gP bP fun c' ctv h' tk hx hge hlt hrec htb => ?_
    obtain ⟨c2, oc, vs, t, ec, hoc, hd, hv⟩ := hrec
    cases ec
    have size : s.heap.objs.size ≤ h'.objs.size := by omega
    have free : H c' = none := I.hok.fresh hge
    have neP : ∀ b o, m b = none → H b = some o → b ≠ P := fun b o n _ z => by
      rw [z, hP] at n
      cases n
    generalize hm : #[rawInt pos.line, rawInt pos.col, Value.ref c'] = more at htb
    have at_ : ∀ b o, b ≠ P → H b = some o → L2.upd (L2.upd H P (.tbl (ps ++ more))) c' (LamX.CodeO c' (X.env.qual ++ "<lambda>")) b = some o := fun b o hb e => by
      rw [upd_ne (ne_of_none e free), upd_ne hb]
      exact e
    have J := LamX.inv_table (t' := tk) (q := X.env.qual ++ "<lambda>") (more := more) (h' := h'.push (PySem.W.kla_obj "<lambda>" (X.env.qual ++ "<lambda>") params body scope (cloFrom X.env.cells scope.names []) ((X.mg "__name__").getD .none) c' ctv)) I atP
      (fun b o hb e => Heap.get?_push_of_some _ (hx b o hb e)) (Heap.get?_push_of_some _ htb) hge ⟨oc, vs, t, Heap.get?_push_of_some _ hoc, hd, hv⟩
    have ex : Ext m H m (L2.upd (L2.upd H P (.tbl (ps ++ more))) c' (LamX.CodeO c' (X.env.qual ++ "<lambda>"))) := fun b o n e => ⟨n, at_ b o (neP b o n e) e⟩
    have mc : m c' = none := st.free free
    have toL : (ps ++ more).toList = ps.toList ++ [rawInt pos.line, rawInt pos.col, .ref c'] := by rw [← hm]; simp
    refine h h'.objs.size c' ((X.mg "__name__").getD .none) ctv _ _ J ex (fun a u e => ?_) (Heap.get?_push_size _ rfl) ?_ (noframe _ size) mc upd_same
    · by_cases ha : a = P
      · subst ha
        rw [hP] at e
        cases e
        refine ⟨ps ++ more, by rw [upd_ne (ne_of_none atP free), upd_same], by rw [toL]; exact PySem.TriplesOk_snoc _ _ _ _ tri, fun p' cv hcv => ?_⟩
        rw [toL] at hcv
        rcases LamX.among_app _ tri hcv with z | z
        · obtain ⟨c0, e1, e2, e3⟩ := among p' cv z
          exact ⟨c0, e1, e2, (ex c0 _ e2 e3).2⟩
        · exact ⟨c', z, mc, upd_same⟩
      · exact (st a u e).on ex fun o z => at_ a o ha z
    · have n1 : h'.objs.size ≠ c' := by omega
      have n2 : h'.objs.size ≠ P := Nat.ne_of_gt (Nat.lt_of_lt_of_le (Heap.lt_size getP) size)
      rw [upd_ne n1, upd_ne n2]
      exact I.hok.fresh size
end

/-! ### asked(), in the def that got the lambda -/
section
variable {X : Cx} {pins : List (Addr × Obj)} {σ : L2.St} {H : Hp} {s : Shared}
abbrev wordCx (X : Cx) (Ng : List Str) (qg : Str) (sg : Scope) (g : Addr) (cdg : Value) (s : Shared) (H : Hp) : Cx := cxOf CX0 X.prog X.w X.K X.mg X.base Ng qg sg g cdg X.A X.stack s H E0
theorem pe_ask {Ng : List Str} {qg : Str} {sg : Scope} {g f c' : Addr} {cdg pm ctv : Value} {params : Arguments} {body : Expr} {scope : Scope} {k i : Nat} {a : Str} {pn : List (Addr × Obj)} {xe : Value → Shared → Prop} {Y : XS} {tb : XK → TE} {p1 p2 : Pos}
    (I : Inv X pins σ H s) (L : LamX.LamS X.env.scope scope) (hf : s.heap.get? f = some (PySem.W.kla_obj "<lambda>" (X.env.qual ++ "<lambda>") params body scope (cloFrom X.env.cells scope.names []) pm c' ctv)) (hfn : H f = none) (hfr : f ∉ frs X.stack)
    (hbind : bindArgs (PySem.W.kla_fn "<lambda>" (X.env.qual ++ "<lambda>") params body scope (cloFrom X.env.cells scope.names []) pm (.ref c') ctv) ⟨[], []⟩ = pure [])
    (hp : ∀ σ, PassesAt (L2.CX X.prog X.w) ((wordCx X Ng qg sg g cdg s H).tr pn xe) σ (Y σ)) (hr : Room (k + 1) (X.A.deeper (envOfC qg sg s.heap.objs.size g cdg))) (hg : X.A.guards = some [])
    (hbody : ∀ (E : XK) (A : Around) (outer : List Env) (s : Shared) (H : Hp), Room k (A.deeper (LamX.lamEnv X scope s.heap.objs.size f c')) → A.guards = some [] → PE (LamX.lamCx X A outer s H E scope f c') body (tb E))
    (hN : Ng[i]? = some a) (hv : Vis sg a) (hd : (a == ("__debug__" : Str)) = false := by decide) (hcd : (a == ("__classdict__" : Str)) = false := by decide) :
    PE ((wordCx X Ng qg sg g cdg s H).tr pn xe) (.Call (.Name a p1) [] [] p2) (fun σZ HZ Q => σZ[i]? = some (some (.ref f)) ∧ HZ c' = some (LamX.CodeO c' (X.env.qual ++ "<lambda>")) ∧ tb (Y σZ) σ HZ Q) := by
  refine ⟨fun pinsZ sZ σZ HZ Q IZ ⟨slot, code, run⟩ => ?_⟩
  refine wpAny_Call_Name_kw (thn ((pe_var (pos := p1) (i := i) hN hv hd hcd).run pinsZ sZ σZ HZ (fun v H1 => v = .ref f ∧ H1 = HZ) IZ ⟨.ref f, slot, rfl, rfl⟩) fun u s1 ⟨v, H1, J, r1, e1, e2⟩ => ?_)
  subst e1 e2
  cases (show u = Value.ref f from r1)
  have un : Un (frs X.stack) [] H H1 s.heap s1.heap := J.base
  have there : s1.heap.get? f = some (PySem.W.kla_obj "<lambda>" (X.env.qual ++ "<lambda>") params body scope (cloFrom X.env.cells scope.names []) pm c' ctv) := un.keep f _ hf hfn hfr (by simp)
  obtain ⟨⟨oc, vs, t, hoc, hdc, hvc⟩, _, _⟩ := J.hok c' _ code
  have inside : codeAny (model X.prog X.w) (X.A.deeper (envOfC qg sg s.heap.objs.size g cdg)) (.call (.ref f) ⟨[], []⟩) (CR (L2.CX X.prog X.w) (envOfC qg sg s.heap.objs.size g cdg :: X.stack) X.prog X.w H1 s1 Q (Y σZ)) s1 := by
    refine PySem.W.kla_callFunE hr.depth there rfl L.co L.gen rfl ⟨c', oc, vs, t, rfl, hoc, hdc, hvc⟩ ?_
    rw [hbind]
    refine wpAny_pure (wpAny_newFunctionEnv (fun y hy => (L.own y hy).2) (fun y hy => absurd hy (by simp)) (fun h₁ hns hsb => ⟨J.nolimit.fresh _ hsb, ?_⟩) L.kind)
    have kp : ∀ b o, s1.heap.get? b = some o → h₁.get? b = some o := fun b o e => hsb.extBut b o (Nat.ne_of_lt (Heap.lt_size e)) (Heap.get?_push_of_some _ e)
    have J2 := LamX.lam_start2 (E := Y σZ) (f := f) (c' := c') (tk := s1.toks + ([] : List (Str × Value)).length) I L J.env0 hr.hd un hns kp
    refine PySem.W.kla_codeExpr (wpAny_mono ((hbody (Y σZ) _ _ s1 H1 (hr.deeper _) hg).run [] _ _ H1 Q J2 run) (fun v s' ⟨w', H', J', rv, q⟩ => ?_) fun e s' z => z)
    exact ⟨w', H', J'.os, J'.bare, J'.base, J'.hok, rv, q⟩
  refine PySem.W.callWith_F0 ⟨_, _, _, _, there⟩ (wpAny_call (codeAny_mono inside fun r s' hq => ?_))
  match r, hq with
  | .error e, hq => exact hp σZ pinsZ H1 s1 e s' J hq
  | .ok (.ret u), hq => exact J.after hq
/-- the lambda at f (its code at c', its slots then: ds), called; P: the table of the def that made it -/
def dAsk (f P c' : Addr) (q : Str) (vs : L2.St) (ds : List (Option D)) (body : DE) : DE := fun δ m R => δ.s[0]? = some (some (.ptr f)) ∧ m P = some (.clo q c' vs ds) ∧ body ⟨ds, fun _ => δ.x δ.s⟩ m R
theorem dAsk_low {K : PySem.W.Frag} {Y : XS} {f P c' : Addr} {q : Str} {ds : List (Option D)} {body : DE} {σZ : L2.St} {HZ : Hp} {Q : VK} (h : lE K Y (dAsk f P c' q σ ds body) σZ HZ Q) :
    σZ[0]? = some (some (.ref f)) ∧ HZ c' = some (LamX.CodeO c' q) ∧ lE K (fun _ => Y σZ) body σ HZ Q := by
  obtain ⟨δ, m, R, en, st, ⟨h1, h2, h3⟩, k⟩ := h
  obtain ⟨v, e, r⟩ := en.1.2 0 _ h1
  cases r
  obtain ⟨_, _, g1, g2⟩ := st P _ h2
  exact ⟨e, g1, _, m, R, ⟨g2, fun σ' s' C fs m' H' dd q ex st' _ xr => en.2 σZ δ.s C fs m' H' dd q ex st' (en.1.ext ex) xr⟩, st, h3, k⟩
theorem ext_swap {m : Sto} {H : Hp} {P : Addr} {u u' : MO} (h : m P = some u) : Ext m H (up m P u') H := fun b o n e => by
  refine ⟨?_, e⟩
  rw [up_ne fun z => by rw [z, h] at n; cases n]
  exact n
theorem sto_swap {K : PySem.W.Frag} {m : Sto} {H : Hp} {P : Addr} {u u' : MO} (st : StoOk K m H) (h : m P = some u) (g : MoOk K (up m P u') H P u') : StoOk K (up m P u') H := fun a w e => by
  by_cases ha : a = P
  · subst ha
    rw [up_same] at e
    cases e
    exact g
  · rw [up_ne ha] at e
    exact (st a w e).on (ext_swap h) fun _ z => z
/-- x(lambda: body); rw: the reading of x's body, from that of the call of what it got -/
@[irreducible] def dWord (rw : DE → DS) (n : Nat) (P : Addr) (q : Str) (body : DE) : DE := fun δ m R => m P = some (.tab q) ∧ ∀ f c' vs,
  rw (dAsk f P c' q vs δ.s body) { nx := fun _ m' => m' P = some (.clo q c' vs δ.s) ∧ R .non (up m' P (.tab q)), rt := fun d m' => m' P = some (.clo q c' vs δ.s) ∧ R d (up m' P (.tab q)) } ⟨some (.ptr f) :: List.replicate n none, fun _ _ _ _ => False⟩ (up m P (.clo q c' vs δ.s))
theorem pd_word {Y : XS} {x a : Str} {g c P : Addr} {k n : Nat} {pg : Arguments} {bg : List Stmt} {sg : Scope} {dV kV doc pm cdv ct oc : Value} {an od : Option Addr} {osl : Array (Option Value)} {Ng : List Str} {rw : DE → DS} {dbody : DE}
    {params : Arguments} {body : Expr} {scope : Scope} {p lpos pos : Pos} (hgl : Gl X x) (hm : X.mg x = some (.ref g)) (hk : PySem.W.keepIn X.K (.ref g) = true)
    (lk : X.K.lookup g = some ⟨oc, od, .func (PySem.W.fnOf x x pg bg sg dV kV doc pm an cdv ct), osl⟩) (hcg : PySem.W.codeIn X.K cdv x = true) (hb : L2.Binds X.K (PySem.W.fnOf x x pg bg sg dV kV doc pm an cdv ct) [a] []) (Sg : FnScope Ng [a] sg) (hNl : Ng.length = n + 1) (hNg : Ng[0]? = some a) (hva : Vis sg a)
    (hG : ∀ (f c' : Addr) (s : Shared) (H : Hp) (dX : DE), Room (k + 1) (X.A.deeper (envOfC x sg s.heap.objs.size g cdv)) → (∀ (pn : List (Addr × Obj)) (xe : Value → Shared → Prop) (Y : XS) (p1 p2 : Pos), (∀ σ, PassesAt (L2.CX X.prog X.w) ((wordCx X Ng x sg g cdv s H).tr pn xe) σ (Y σ)) →
      PD ((wordCx X Ng x sg g cdv s H).tr pn xe) Y (.Call (.Name a p1) [] [] p2) dX) → PDSs (wordCx X Ng x sg g cdv s H).nox (fun _ => E0) bg (rw dX))
    (TB : LamX.TabB X.base X.mg c P) (hcode : X.env.code = .ref c) (hr : Room (k + 2) X.A) (hg : X.A.guards = some []) (L : LamX.LamS X.env.scope scope) (hdef : defaultsOf params X.env = ([], []))
    (hbind : ∀ (q : Str) (cl : List (Str × Addr)) (pm cv ctv : Value), bindArgs (PySem.W.kla_fn "<lambda>" q params body scope cl pm cv ctv) ⟨[], []⟩ = pure [])
    (hbody : ∀ (E : XK) (A : Around) (outer : List Env) (s : Shared) (H : Hp) (f c' : Addr), Room k (A.deeper (LamX.lamEnv X scope s.heap.objs.size f c')) → A.guards = some [] → PD (LamX.lamCx X A outer s H E scope f c') (fun _ => E) body dbody)
    (hdb : (x == ("__debug__" : Str)) = false := by decide) (hd : (a == ("__debug__" : Str)) = false := by decide) (hcd : (a == ("__classdict__" : Str)) = false := by decide) :
    PD X Y (.Call (.Name x p) [.Lambda params body scope lpos] [] pos) (dWord rw n P (X.env.qual ++ "<lambda>") dbody) := by
  refine ⟨⟨fun pins s σ H Q I ⟨δ, m, R, en, st, hh, kk⟩ => ?_⟩⟩
  unfold dWord at hh
  obtain ⟨hP, h⟩ := hh
  refine wpAny_Call_Name_kw (ld_glob I hgl hm (PySem.W.callWith_K (h₀ := X.base) I.ok.mod.kin hk ?_ (by rfl) (by rfl)) hdb)
  show wpAny _ _ (spliced ((false, eval (.Lambda params body scope lpos) X.env) :: backTo pos (starEach [] X.env))) _ _ s
  refine Calls.spliced_cons (lam_d I st hP TB hcode hdef (L.has I.ok) fun f c' pm' ctv H1 s' J ex st1 hf hfn hfr mc hco => Calls.spliced_nil ⟨J.kIn, ?_⟩)
  have exc : Ext m H1 (up m P (.clo (X.env.qual ++ "<lambda>") c' σ δ.s)) H1 := ext_swap hP
  have st2 : StoOk X.K (up m P (.clo (X.env.qual ++ "<lambda>") c' σ δ.s)) H1 := sto_swap st1 hP ⟨(show TabOk m H1 P _ from st1 P _ hP).on exc fun _ z => z, (exc c' _ mc hco).1, hco, (en.1.ext ex).ext exc⟩
  have aft : ∀ (d : D) (m' : Sto) (H' : Hp) (v : V), m' P = some (.clo (X.env.qual ++ "<lambda>") c' σ δ.s) ∧ R d (up m' P (.tab (X.env.qual ++ "<lambda>"))) → Ext (up m P (.clo (X.env.qual ++ "<lambda>") c' σ δ.s)) H1 m' H' → StoOk X.K m' H' → Rp X.K m' H' v d → Q v H' := fun d m' H' v ⟨hp, hR⟩ ex' st' rp => by
    have sw : Ext m' H' (up m' P (.tab (X.env.qual ++ "<lambda>"))) H' := ext_swap hp
    exact kk v H' d _ hR (((ex.trans exc).trans ex').trans sw) (sto_swap st' hp ((st' P _ hp).1.on sw fun _ z => z)) (rp.ext sw)
  have inside : codeAny (model X.prog X.w) X.A (.call (.ref g) ⟨[.ref f], []⟩) (CR CX0 X.stack X.prog X.w H1 s' Q E0) s' := by
    refine LamX.run_ofS (N := Ng) (ps := [a]) (us := [.ref f]) (vs := [.ref f]) lk hcg Sg hr J.env0 (hb s' [.ref f] J.kIn rfl) (.cons rfl .nil) rfl fun hr' => ?_
    have body := hG f c' s' H1 (dAsk f P c' (X.env.qual ++ "<lambda>") σ δ.s dbody) hr' fun pn xe Y' p1 p2 hp => ⟨pe_weak (pe_ask (tb := fun E => lE X.K (fun _ => E) dbody) (i := 0) J L hf hfn hfr (hbind _ _ _ _ _) hp hr' hg (fun E A outer s H r g => (hbody E A outer s H f c' r g).pe) hNg hva hd hcd) fun _ _ _ => dAsk_low⟩
    refine ⟨_, body.ps.nox, ⟨⟨some (.ptr f) :: List.replicate n none, fun _ _ _ _ => False⟩, _, _, ⟨⟨?_, fun i d e => ?_⟩, fun _ _ _ _ _ _ _ z => z.elim⟩, st2, h f c' σ, ⟨fun σ' H' δ' m' q e2 _ s2 => aft .non m' H' .non q e2 s2 .non, fun _ _ _ _ z => z.elim, fun _ _ _ _ z => z.elim, fun v H' d m' q e2 s2 rp => aft d m' H' v q e2 s2 rp⟩⟩⟩
    · unfold L2.start
      simp [hNl]
    · unfold L2.start
      cases i with
      | zero =>
        cases e
        exact ⟨_, rfl, .ptr f⟩
      | succ j =>
        rw [List.getElem?_cons_succ, List.getElem?_replicate] at e
        split at e <;> cases e
  refine wpAny_call (codeAny_mono inside fun r s2 hq => ?_)
  match r, hq with
  | .error e, hq => exact (show False from hq).elim
  | .ok (.ret u), hq => exact J.after hq
theorem pd_wordF {Y : XS} {x a : Str} {g c P : Addr} {k n : Nat} {st : Stmt} {fd : FuncData} {Ng : List Str} {rw : DE → DS} {dbody : DE} {params : Arguments} {body : Expr} {scope : Scope} {p lpos pos : Pos}
    (F : Fun X.K x x st g fd) (hbF : Binds X.K fd [a] []) (Sg : FnScope Ng [a] (defScope st)) (hNl : Ng.length = n + 1) (hNg : Ng[0]? = some a) (hva : Vis (defScope st) a) (hgl : Gl X x) (hm : X.mg x = some (.ref g))
    (hG : ∀ (cdv : Value) (f c' : Addr) (s : Shared) (H : Hp) (dX : DE), Room (k + 1) (X.A.deeper (envOfC x (defScope st) s.heap.objs.size g cdv)) → (∀ (pn : List (Addr × Obj)) (xe : Value → Shared → Prop) (Y : XS) (p1 p2 : Pos), (∀ σ, PassesAt (L2.CX X.prog X.w) ((wordCx X Ng x (defScope st) g cdv s H).tr pn xe) σ (Y σ)) →
      PD ((wordCx X Ng x (defScope st) g cdv s H).tr pn xe) Y (.Call (.Name a p1) [] [] p2) dX) → PDSs (wordCx X Ng x (defScope st) g cdv s H).nox (fun _ => E0) (defBody st) (rw dX))
    (TB : LamX.TabB X.base X.mg c P) (hcode : X.env.code = .ref c) (hr : Room (k + 2) X.A) (hg : X.A.guards = some []) (L : LamX.LamS X.env.scope scope) (hdef : defaultsOf params X.env = ([], []))
    (hbind : ∀ (q : Str) (cl : List (Str × Addr)) (pm cv ctv : Value), bindArgs (PySem.W.kla_fn "<lambda>" q params body scope cl pm cv ctv) ⟨[], []⟩ = pure [])
    (hbody : ∀ (E : XK) (A : Around) (outer : List Env) (s : Shared) (H : Hp) (f c' : Addr), Room k (A.deeper (LamX.lamEnv X scope s.heap.objs.size f c')) → A.guards = some [] → PD (LamX.lamCx X A outer s H E scope f c') (fun _ => E) body dbody)
    (hdb : (x == ("__debug__" : Str)) = false := by decide) (hd : (a == ("__debug__" : Str)) = false := by decide) (hcd : (a == ("__classdict__" : Str)) = false := by decide) :
    PD X Y (.Call (.Name x p) [.Lambda params body scope lpos] [] pos) (dWord rw n P (X.env.qual ++ "<lambda>") dbody) := by
  obtain ⟨oc, od, kV, doc, pm, an, cdv, ct, osl, e, lk, hc⟩ := F.ex
  subst e
  exact pd_word hgl hm F.kp lk hc hbF Sg hNl hNg hva (hG cdv) TB hcode hr hg L hdef hbind hbody hdb hd hcd
end
end Dl

/-! The data layer: the law's own call where some defs make lambdas (tables of code objects). -/
namespace Dl
open PySem PySem.Spec PyProof.Rows L2

/-- the law, the tables ts ahead of it -/
def lawSpT (n : Nat) (ts : List (Addr × Str)) : DSp := fun ds m R _ => ∃ ns : List Int, ds = [.rl (ns.map D.int)] ∧ ns.length ≤ n ∧ (∀ p ∈ ts, m p.1 = some (.tab p.2)) ∧ ∀ m', R (.bl true) m'
theorem lookup_nodup : ∀ {ts : List (Addr × Str)} {p : Addr × Str}, (ts.map (·.1)).Nodup → p ∈ ts → ts.lookup p.1 = some p.2
  | (b, q) :: r, p, hn, hp => by
    rw [List.map_cons, List.nodup_cons] at hn
    rcases List.mem_cons.mp hp with e | hp
    · rw [e, List.lookup_cons]
      simp
    · have ne : p.1 ≠ b := fun z => hn.1 (List.mem_map.mpr ⟨p, hp, z⟩)
      rw [List.lookup_cons]
      have e : (p.1 == b) = false := by simpa using ne
      rw [e]
      exact lookup_nodup hn.2 hp
theorem lookup_mem : ∀ {ts : List (Addr × Str)} {b : Addr} {q : Str}, ts.lookup b = some q → (b, q) ∈ ts
  | (c, u) :: r, b, q, h => by
    rw [List.lookup_cons] at h
    cases e : b == c with
    | true =>
      rw [e] at h
      cases h
      rw [beq_iff_eq.mp e]
      exact List.mem_cons_self
    | false =>
      rw [e] at h
      exact List.mem_cons_of_mem _ (lookup_mem h)
theorem law_call_t {P : Program} {w : World} {K : PySem.W.Frag} {mg mb : Str → Option Value} {CX : CXT} {k n : Nat} {fa a : Addr} {cs : List (Addr × Addr)} {ts : List (Addr × Str)} {fd : FuncData} {x : Str} {s1 : Shared} {vs : List Value} {ns : List Int}
    (KX : K.In s1.heap) (hns : s1.heap.Ns mainGlobals mg) (hb : s1.heap.Ns builtinsNs mb) (hbb : ∀ x : Str, x ≠ "__name__" → mb x = bootBuiltins x) (hlim : s1.heap.NoLimit) (hg : s1.gens = #[])
    (hts : ts.map (·.1) = cs.map (·.2)) (nd : (ts.map (·.1)).Nodup) (hT : ∀ p ∈ cs, PySem.W.CodeHd s1.heap p.1 p.2 ∧ s1.heap.get? p.2 = some { cls := .none, data := .fields #[] }) (nT : ∀ p ∈ cs, K.lookup p.2 = none)
    (hbm : ∃ (bm : Addr) (ob : Obj), mg "__builtins__" = some (.ref bm) ∧ bm ≠ builtinsNs ∧ s1.heap.get? bm = some ob ∧ ob.cls = .type "module" ∧ ob.dict = some builtinsNs ∧ ob.data = .plain)
    (ha : s1.heap.get? a = some { cls := .type "list", data := .seq vs.toArray }) (hi : IntsAre vs ns) (hl : ns.length ≤ n) (hn : n ≤ sizeLine) (hr : Room k callerA)
    (F : ∀ base : Heap, K.In base → base.Ns mainGlobals mg → (∀ p ∈ cs, LamX.TabB base mg p.1 p.2) → FnG P w K mg base CX k fa fd [x] (spD K (lawSpT n ts))) (hbind : ∀ (s : Shared) (u : Value), BindsTo s fd ⟨[u], []⟩ [(x, u)])
    (hCX : ∀ H e s', CX [] H s1 (fun _ _ _ => False) e s' → False) :
    codeAny (model P w) callerA (.call (.ref fa) ⟨[.ref a], []⟩) (fun r s' => r = .ok (.ret (.bool true)) ∧ OldK s1.heap s'.heap ∧ s'.os = s1.os ∧ AllBare s'.gens) s1 := by
  have rv := vals_ints hi
  have lv := hi.length
  have zl : ns.length ≤ sizeLine := Nat.le_trans hl hn
  have isTab : ∀ b : Addr, b ∈ cs.map (·.2) → s1.heap.get? b = some { cls := .none, data := .fields #[] } ∧ K.lookup b = none := fun b hb => by
    obtain ⟨p, hp, e⟩ := List.mem_map.mp hb
    subst e
    exact ⟨(hT p hp).2, nT p hp⟩
  have aT : a ∉ cs.map (·.2) := fun z => by
    have q := (isTab a z).1
    rw [ha] at q
    cases q
  have inT : ∀ p ∈ cs, p.2 ∈ cs.map (·.2) := fun p hp => List.mem_map.mpr ⟨p, hp, rfl⟩
  have go : ∀ H : Hp, (∀ b ∈ cs.map (·.2), H b = some (.tbl #[])) → (∀ b u, H b = some u → b ∉ cs.map (·.2) → ∃ ob xs, u = .frz ob (.lst xs)) → (∀ m : Sto, m a = none → Rp K m H (.ref a) (.rl (ns.map D.int))) → HOk P w H s1.heap → (∀ b, H b ≠ none → b = a ∨ b ∈ cs.map (·.2)) → (H a ≠ none → K.lookup a = none) →
      codeAny (model P w) callerA (.call (.ref fa) ⟨[.ref a], []⟩) (fun r s' => r = .ok (.ret (.bool true)) ∧ OldK s1.heap s'.heap ∧ s'.os = s1.os ∧ AllBare s'.gens) s1 := by
    intro H hH hO hS hok hA hK
    have untracked : ∀ {b : Addr} {o : Obj}, s1.heap.get? b = some o → o.data ≠ .seq vs.toArray → o.data ≠ .fields #[] → H b = none := fun {b o} e d1 d2 => by
      cases q : H b with
      | none => rfl
      | some u =>
        rcases hA b (by rw [q]; simp) with z | z
        · rw [z, ha] at e
          cases e
          exact (d1 rfl).elim
        · rw [(isTab b z).1] at e
          cases e
          exact (d2 rfl).elim
    have low : ∀ {b : Addr} {o : Obj}, s1.heap.get? b = some o → o.data ≠ .seq vs.toArray → o.data ≠ .fields #[] → (hidT s1.heap H).get? b = some o := fun e d1 d2 => hidT_get e (untracked e d1 d2)
    have keepNs : ∀ {b : Addr} {f : Str → Option Value}, s1.heap.Ns b f → (hidT s1.heap H).Ns b f := fun {b f} z => by
      obtain ⟨o, es, ep, e, d, r⟩ := z
      exact ⟨o, es, ep, low e (by rw [d]; exact fun z => nomatch z) (by rw [d]; exact fun z => nomatch z), d, r⟩
    have kb : K.In (hidT s1.heap H) := fun b o e => hidT_get (KX b o e) (by
      cases q : H b with
      | none => rfl
      | some u =>
        rcases hA b (by rw [q]; simp) with z | z
        · subst z
          rw [hK (by rw [q]; simp)] at e
          cases e
        · rw [(isTab b z).2] at e
          cases e)
    have md : Mod K mg (hidT s1.heap H) := by
      obtain ⟨mc, z1, z2⟩ := hlim
      exact ⟨kb, keepNs hns, ⟨mb, keepNs hb, hbb⟩, ⟨mc, keepNs z1, z2⟩⟩
    have nG : ∀ p ∈ cs, mainGlobals ≠ p.2 := fun p hp z => by
      obtain ⟨o, es, ep, e, d, _⟩ := hns
      rw [z, (hT p hp).2] at e
      cases e
      cases d
    have TB : ∀ p ∈ cs, LamX.TabB (hidT s1.heap H) mg p.1 p.2 := fun p hp => by
      refine ⟨?_, ?_, nG p hp⟩
      · obtain ⟨o, us, file, tf, flags, tg, inF, text, tt, e1, r1, r2, r3, r⟩ := (hT p hp).1
        exact ⟨o, us, file, tf, flags, tg, inF, text, tt, low e1 (by rw [r2]; exact fun z => nomatch z) (by
          rw [r2]
          intro z
          cases z
          simp at r3), r1, r2, r3, r⟩
      · obtain ⟨bm, ob, b1, b2, b3, b4, b5, b6⟩ := hbm
        refine ⟨bm, ob, b1, b2, fun z => ?_, fun z => ?_, low b3 (by rw [b6]; exact fun z => nomatch z) (by rw [b6]; exact fun z => nomatch z), b4, b5, b6⟩
        · obtain ⟨o, es, ep, e, d, _⟩ := hns
          rw [z, e] at b3
          cases b3
          rw [d] at b6
          cases b6
        · rw [z, (hT p hp).2] at b3
          cases b3
          cases b6
    have e0 : Env0 P w K mg (hidT s1.heap H) callerA [] s1 H := ⟨rfl, md, fun b o e => of_hidT e, Nat.le_of_eq (hidT_size _ _), trivial, fun b z => (nomatch z), hok, .of_eq hg⟩
    have m0 : ∃ m : Sto, (∀ p ∈ ts, m p.1 = some (.tab p.2)) ∧ m a = none ∧ ∀ b u, m b = some u → b ∈ cs.map (·.2) ∧ ∃ q, u = .tab q := by
      refine ⟨fun b => (ts.lookup b).map MO.tab, fun p hp => ?_, ?_, fun b u e => ?_⟩
      · show (ts.lookup p.1).map MO.tab = _
        rw [lookup_nodup nd hp]
        rfl
      · show (ts.lookup a).map MO.tab = _
        cases e : ts.lookup a with
        | none => rfl
        | some q => exact (aT (by rw [← hts]; exact List.mem_map.mpr ⟨_, lookup_mem e, rfl⟩)).elim
      · replace e : (ts.lookup b).map MO.tab = some u := e
        cases e1 : ts.lookup b with
        | none => rw [e1] at e; cases e
        | some q =>
          rw [e1] at e
          cases e
          exact ⟨by rw [← hts]; exact List.mem_map.mpr ⟨_, lookup_mem e1, rfl⟩, _, rfl⟩
    obtain ⟨m, hm1, hm2, hm3⟩ := m0
    have so : StoOk K m H := fun b u e => by
      obtain ⟨hb, q, rfl⟩ := hm3 b u e
      refine ⟨#[], hH b hb, trivial, fun pos cv hc => ?_⟩
      have z : codeAmong pos [] = some cv := hc
      simp [codeAmong] at z
    have sp : spD K (lawSpT n ts) [.ref a] H (fun v _ => v = .bl true) (fun _ _ _ => False) :=
      ⟨[.rl (ns.map D.int)], m, fun d _ => d = .bl true, noX, .cons (hS m hm2) .nil, so, ⟨ns, rfl, hl, hm1, fun _ => rfl⟩, fun v H' d m' q _ _ r => by subst q; cases r; rfl, aftX_no⟩
    refine codeAny_mono ((F _ kb (keepNs hns) TB).run callerA [] s1 H ⟨[.ref a], []⟩ [.ref a] [.ref a] _ _ hr rfl e0 (hbind s1 (.ref a)) (.cons rfl .nil) sp) fun r s' h => ?_
    match r, h with
    | .error e, h => exact (hCX H e s' h).elim
    | .ok (.ret u), h =>
      obtain ⟨v, H', os, bare, un, hok', r', q⟩ := h
      obtain rfl : v = .bl true := q
      obtain rfl : u = Value.bool true := r'
      have same : ∀ b o, b ∉ cs.map (·.2) → s1.heap.get? b = some o → s'.heap.get? b = some o := fun b o nb e => by
        cases q : H b with
        | none => exact un.keep b o e q (fun z => nomatch z) (fun z => nomatch z)
        | some u =>
          obtain ⟨ob, xs, rfl⟩ := hO b u q nb
          have e1 := (hok b _ q).1
          have e2 := (hok' b _ (un.frzs b ob _ q)).1
          rw [e] at e1
          cases e1
          exact e2
      have more : ∀ b ∈ cs.map (·.2), ∃ more : Array Value, s'.heap.get? b = some { cls := .none, data := .fields more } := fun b hb => by
        obtain ⟨more, z⟩ := un.tbls b #[] (hH b hb)
        exact ⟨_, hok' b _ z⟩
      refine ⟨rfl, ⟨fun b o e => ?_, fun b o e => ?_⟩, os, bare⟩
      · by_cases hb : b ∈ cs.map (·.2)
        · obtain ⟨more, hm⟩ := more b hb
          obtain ⟨p, hp, ep⟩ := List.mem_map.mp hb
          subst ep
          rw [(hT p hp).2] at e
          cases e
          exact .inr (.inl ⟨((hT p hp).1.tab (hT p hp).2).isCodeTable, rfl, #[], more, rfl, by rw [Array.empty_append]; exact hm⟩)
        · exact .inl (same b o hb e)
      · by_cases hb : b ∈ cs.map (·.2)
        · obtain ⟨more, hm⟩ := more b hb
          exact ⟨_, hm⟩
        · exact ⟨o, same b o hb e⟩
  cases hk : K.lookup a with
  | some o =>
    have e := KX a o hk
    rw [ha] at e
    cases e
    refine go (fun b => if b ∈ cs.map (·.2) then some (.tbl #[]) else none) (fun b hb => if_pos hb) (fun b u z hb => (by rw [if_neg hb] at z; cases z)) (fun m hm => .rl (xs := ns.map V.int) (.inr (.inr ⟨_, vs.toArray, _, hk, rfl, rfl, rfl, by rw [List.size_toArray, lv]; exact zl, by simpa using rv⟩)) (RpL.ints ns)) (fun b u z => ?_) (fun b z => ?_) fun z => absurd (if_neg aT) z
    · by_cases hb : b ∈ cs.map (·.2)
      · have z := (if_pos hb).symm.trans z
        cases z
        exact (isTab b hb).1
      · have z := (if_neg hb).symm.trans z
        cases z
    · by_cases hb : b ∈ cs.map (·.2)
      · exact .inr hb
      · exact absurd (if_neg hb) z
  | none =>
    have neA : ∀ b ∈ cs.map (·.2), b ≠ a := fun b hb z => aT (z ▸ hb)
    refine go (fun b => if b = a then some (.frz { cls := .type "list", data := .seq vs.toArray } (.lst (ns.map V.int))) else if b ∈ cs.map (·.2) then some (.tbl #[]) else none) (fun b hb => (if_neg (neA b hb)).trans (if_pos hb)) (fun b u z hb => ?_)
      (fun m hm => .rl (.inl ⟨hm, .inr ⟨_, if_pos rfl⟩⟩) (RpL.ints ns)) (fun b u z => ?_) (fun b z => ?_) fun _ => hk
    · by_cases ba : b = a
      · have z := (if_pos ba).symm.trans z
        cases z
        exact ⟨_, _, rfl⟩
      · have z := ((if_neg ba).trans (if_neg hb)).symm.trans z
        cases z
    · by_cases ba : b = a
      · have z := (if_pos ba).symm.trans z
        cases z
        subst ba
        exact ⟨ha, by rw [List.length_map]; exact zl, vs, _, rv, ha⟩
      · have z := (if_neg ba).symm.trans z
        by_cases hb : b ∈ cs.map (·.2)
        · have z := (if_pos hb).symm.trans z
          cases z
          exact (isTab b hb).1
        · have z := (if_neg hb).symm.trans z
          cases z
    · by_cases ba : b = a
      · exact .inl ba
      · by_cases hb : b ∈ cs.map (·.2)
        · exact .inr hb
        · exact absurd ((if_neg ba).trans (if_neg hb)) z
/-- the goal that k_head leaves -/
theorem walk_t {l : PySem.W.OpenLaw} {n k : Nat} {q : Program} {loose : List Str} {XP : (Str → Option Value) → Heap → Prop} {YP : World → Heap → Prop} {d : DefRec} {K : Params → PySem.W.Frag} {x : Str} {tl : List Addr}
    (hn : l.most = some n) (hn2 : n ≤ sizeLine) (hdf : d.params.defaults = []) (hr : Room k callerA) (hY : ∀ (w : World) (h : Heap), YP w h → (K w.params).In h) (hZ : ∀ (w : World) (h : Heap), YP w h → ∀ P ∈ tl, h.get? P = some { cls := .none, data := .fields #[] })
    (F : ∀ (w : World) (mg : Str → Option Value) (fa : Addr) (h : Heap), (K w.params).In h → h.Ns mainGlobals mg → mg d.name = some (.ref fa) → (∀ P ∈ tl, h.get? P = some { cls := .none, data := .fields #[] }) →
      ∃ (fd : FuncData) (cs : List (Addr × Addr)) (ts : List (Addr × Str)), ts.map (·.1) = cs.map (·.2) ∧ (ts.map (·.1)).Nodup ∧ (∀ p ∈ cs, PySem.W.CodeHd h p.1 p.2 ∧ h.get? p.2 = some { cls := .none, data := .fields #[] }) ∧ (∀ p ∈ cs, (K w.params).lookup p.2 = none) ∧ (∀ (s : Shared) (u : Value), BindsTo s fd ⟨[u], []⟩ [(x, u)]) ∧
        ∀ base : Heap, (K w.params).In base → base.Ns mainGlobals mg → (∀ p ∈ cs, LamX.TabB base mg p.1 p.2) → FnG l.prog w (K w.params) mg base CX0 k fa fd [x] (spD (K w.params) (lawSpT n ts))) :
    PySem.W.WalkO q loose XP YP l.row.toRowW d [] (fun f vs => PySem.call f vs) := by
  refine Att.attach_call hn hdf fun w s₀ s₁ mg mb fa o pm cd doc a vs ns G Y0 ho hd hcd hmg hobj hints hlen hg => ?_
  have KX := hY w _ Y0
  obtain ⟨fd, cs, ts, h1, h2, h3, h4, hb, hF⟩ := F w mg fa _ KX G.T.g hmg (hZ w _ Y0)
  exact law_call_t KX G.T.g G.T.b G.T.builtins G.T.nolimit hg h1 h2 h3 h4 G.T.bmain hobj hints hlen hn2 hr hF hb fun H e s' z => z
/-- a def's code object is the one that its table is told of -/
theorem code_tab {K : PySem.W.Frag} {x : Str} {c P f : Addr} {oc : Value} {od : Option Addr} {fd : FuncData} {osl : Array (Option Value)} (h : PySem.W.tabIn K x = some (c, P)) (hn : PySem.W.nsIn K mainGlobals x = some (some (.ref f))) (lk : K.lookup f = some ⟨oc, od, .func fd, osl⟩) : fd.code = .ref c := by
  unfold PySem.W.tabIn at h
  rw [hn] at h
  dsimp only at h
  rw [lk] at h
  dsimp only at h
  split at h
  · rename_i c' e
    split at h
    · split at h
      · cases h
        exact e
      · cases h
    · cases h
  · cases h
end Dl

/-! The data layer: xs.count(y), xs.index(y), {}. -/
namespace Dl
open PySem PySem.Spec PyProof.Rows L2
def countM : OM := fun a ds m R => match ds with
  | [d] => ∃ xs p, Pv m (.ptr a) (.list xs) ∧ Pv m d p ∧ PyData.plainAll xs = true ∧ p.plain = true ∧ p.depth = 0 ∧ R (.int ((xs.countP fun y => PyData.eqv y p : Nat) : Int)) m
  | _ => False
def indexM : OM := fun a ds m R => match ds with
  | [d] => ∃ xs p j z, Pv m (.ptr a) (.list xs) ∧ Pv m d p ∧ SeqAt.shaped (.list xs) = true ∧ SeqAt.shaped p = true ∧ xs[j]? = some z ∧ PyData.eqv z p = true ∧ (∀ (i : Nat) (z' : PyData), i < j → xs[i]? = some z' → PyData.eqv z' p = false) ∧ R (.int (j : Nat)) m
  | _ => False
section
variable {X : Cx}
theorem md_index (hu : X.A.units + 100 < cLine) : MetD X "list.index" indexM := ⟨mt_weak (mt_indexD (by omega)) fun x xs H Q ⟨m, a, ds, R, ex, rl, st, h, k⟩ => by
  subst ex
  unfold indexM at h
  split at h
  · obtain ⟨v, rfl, r⟩ := rl.one
    obtain ⟨ys, p, j, z, h1, h2, h3, h4, h5, h6, h7, h8⟩ := h
    exact ⟨a, v, p, ys, j, z, rfl, rfl, h1.dp st (.ptr a), h2.dp st r, h3, h4, h5, h6, h7, k _ _ _ _ h8 Ext.rfl st (.int _)⟩
  · exact h.elim⟩
theorem md_count (hu : X.A.units + 100 < cLine) : MetD X "list.count" countM := ⟨by
  intro pins s σ H x xs v us Q I rx rxs ⟨m, a, ds, R, ex, rl, st, h, k⟩
  subst ex
  unfold countM at h
  split at h
  · obtain ⟨y, rfl, r⟩ := rl.one
    obtain ⟨ys, p, h1, h2, h3, h4, h5, h6⟩ := h
    cases rx
    cases rxs with
    | cons ry rt =>
      cases rt
      obtain ⟨bs, r1⟩ := Dp.reads I p y _ (h2.dp st r) ry
      cases h1.dp st (.ptr a) with
      | lst hs ha =>
        obtain ⟨its, rv, ⟨o, n, ho, hc, _, hd⟩, hlen⟩ := I.list hs
        obtain ⟨as, h4'⟩ := Dp.readsAll I ys _ its ha rv
        exact PySem.SeqAt.count_list_data ⟨o, ho, hc, n, hd⟩ (by simpa using h4') r1 h3 h4 (by rw [h5]; omega) ⟨.int _, H, I.tok _, ⟨_, rfl⟩, k _ _ _ _ h6 Ext.rfl st (.int _)⟩
  · exact h.elim⟩

/-- {} -/
def dDNew : DE := fun _ m R => ∀ p, m p = none → R (.ptr p) (up m p (.dct []))
theorem pd_dnew {Y : XS} {pos : Pos} : PD X Y (.Dict [] [] pos) dDNew :=
  ⟨pe_weak pe_dnewK fun σ H Q ⟨δ, m, R, en, st, h, k⟩ => fun p hp => by
    have ex : Ext m H (up m p (.dct [])) (L2.upd H p (.dK [])) := ext_add hp
    exact k _ _ _ _ (h p (st.free hp)) ex (sto_at st ex ⟨[], upd_same, .nil⟩) (.ptr p)⟩
end
end Dl

/-! Promises of defs that several laws reach: plain functions, promises. -/
namespace Pg
open PySem PySem.Spec PyProof.Rows L2 Dl

abbrev crv (F A : List Int) (r : Int) : D := .tup [.tup (F.map .int), .tup (A.map .int), .int r]
/-- a curve's value at a turn -/
def val (F A : List Int) (r t : Int) : Int := if t < F.length then F.getD t.toNat 0 else A.getD ((t - F.length) % A.length).toNat 0 + r * ((t - F.length) / A.length)
def sp_value : DSp := fun ds m R _ => match ds with
  | [f, .int t] => ∃ F A r, f = crv F A r ∧ A ≠ [] ∧ A.length < 2 ^ 60 ∧ 0 ≤ t ∧ t < 2 ^ 63 ∧ R (.int (val F A r t)) m
  | _ => False
/-- a whole number from 0 on -/
def isNum : D → Bool
  | .int i => decide (0 ≤ i)
  | _ => false
def sp_is_number : DSp := fun ds m R _ => match ds with
  | [.int i] => R (.bl (decide (0 ≤ i))) m
  | _ => False
end Pg

namespace Pg
open PySem PySem.Spec PyProof.Rows L2 Dl 
def r_is_number : DS :=
(dRet (dAndV (dIsi .int (dVar 0)) (dAndV (dNotV (dIsi .bool (dVar 0))) (dOp geD (dVar 0) (dC (.int 0))))))
def r_value : DS :=
(dSeq (dAsg (tupG 3 (consG (nameG 2) (consG (nameG 3) (consG (nameG 4) nilG)))) (dVar 0))
(dSeq (dIf (dB (dOp ltD (dVar 1) (dCB lenD (dCons (dVar 2) dNil))))
(dRet (dOp ixD (dVar 2) (dVar 1)))
dNext)
(dSeq (dSet 5 (dOp subD (dVar 1) (dCB lenD (dCons (dVar 2) dNil))))
(dRet (dOp (addD false) (dOp ixD (dVar 3) (dOp modD (dVar 5) (dCB lenD (dCons (dVar 3) dNil)))) (dOp (mulD false) (dVar 4) (dOp divD (dVar 5) (dCB lenD (dCons (dVar 3) dNil)))))))))
end Pg

namespace Pg
open PySem PySem.Spec PyProof.Rows L2 Dl
theorem v_is_number {ds : List D} {m : Sto} {R : D → Sto → Prop} {RX : DX} (h : sp_is_number ds m R RX) : r_is_number { nx := fun _ m' => R .non m', rt := R } ⟨ds.map some ++ List.replicate (1 - ds.length) none, fun _ => RX⟩ m := by
  unfold sp_is_number at h
  split at h
  · refine ⟨fun _ => ⟨fun _ => ?_, fun z => nomatch z⟩, fun z => nomatch z⟩
    exact h
  · exact h.elim
theorem atI_int {xs : List Int} {k : Int} (h0 : 0 ≤ k) (h1 : k < xs.length) : L2.atI (xs.map D.int) k = some (.int (xs.getD k.toNat 0)) := by
  unfold L2.atI L2.ixN
  rw [if_pos h0, if_pos (by rw [List.length_map]; exact h1)]
  show (xs.map D.int)[k.toNat]? = _
  have hk : k.toNat < xs.length := by omega
  rw [List.getElem?_map, List.getElem?_eq_getElem hk, List.getD_eq_getElem?_getD, List.getElem?_eq_getElem hk]
  rfl
theorem v_value {ds : List D} {m : Sto} {R : D → Sto → Prop} {RX : DX} (h : sp_value ds m R RX) : r_value { nx := fun _ m' => R .non m', rt := R } ⟨ds.map some ++ List.replicate (6 - ds.length) none, fun _ => RX⟩ m := by
  unfold sp_value at h
  split at h
  · rename_i t
    obtain ⟨F, A, r, rfl, hA, hz, h0, h1, hR⟩ := h
    have hl : 0 < A.length := List.length_pos_iff.mpr hA
    refine ⟨rfl, ⟨fun c => ?_, fun c => ?_⟩⟩
    · have c' := of_decide_eq_true c
      rw [List.length_map] at c'
      refine ⟨_, _, rfl, atI_int h0 c', ?_⟩
      unfold val at hR
      rw [if_pos c'] at hR
      exact hR
    · have c' := of_decide_eq_false c
      rw [List.length_map] at c'
      have d0 : 0 ≤ (t - F.length) % (A.length : Int) := Int.emod_nonneg _ (by omega)
      have d1 : (t - F.length) % (A.length : Int) < A.length := Int.emod_lt_of_pos _ (by omega)
      have q1 : (t - F.length) / (A.length : Int) ≤ t - F.length := Int.ediv_le_self _ (by omega)
      have q0 : 0 ≤ (t - F.length) / (A.length : Int) := Int.ediv_nonneg (by omega) (by omega)
      refine ⟨?_, _, _, rfl, atI_int ?_ ?_, CDivW.small ?_ ?_, MulOk.small ?_ ?_, ?_⟩
      all_goals try simp only [List.length_map]
      · omega
      · exact d0
      · exact d1
      · omega
      · omega
      · omega
      · omega
      · unfold val at hR
        rw [if_neg c'] at hR
        exact hR
  · exact h.elim
end Pg

/-! The pen of a law (a list): its draws. -/
namespace Pn
open PySem PySem.Spec PyProof.Rows L2 Dl Pg
/-- a pen: cells, the place of the next one, at most b, what is left -/
def PenOk (b : Int) (X : MO) : Prop := ∃ (cells : List Int) (k left : Int), X = .lst [.lst (cells.map .int), .int k, .int left] ∧ 0 ≤ k ∧ k ≤ b ∧ 0 ≤ left
def sp_law_pen : DSp := fun ds m R _ => match ds with
  | [s] => ∃ ns : List Int, s = .rl (ns.map .int) ∧ ∀ p X, m p = none → PenOk 0 X → R (.ptr p) (up m p X)
  | _ => False
def sp_law_take : DSp := fun ds m R _ => match ds with
  | [.ptr p, .int n] => ∃ b X, m p = some X ∧ PenOk b X ∧ b ≤ 2 ^ 30 ∧ 0 < n ∧ n < 2 ^ 30 ∧ ∀ v X', 0 ≤ v → v < n → PenOk (b + 1) X' → R (.int v) (up m p X')
  | _ => False
def sp_law_at : DSp := fun ds m R _ => match ds with
  | [f, .int t] => ∃ F A r, f = crv F A r ∧ A ≠ [] ∧ A.length < 2 ^ 60 ∧ 0 ≤ t ∧ t < 2 ^ 63 ∧ R (.int (val F A r t)) m
  | _ => False
/-- a drawn curve: a round of 1 to 12, at most 24 numbers ahead, rising, small -/
structure Drawn (F A : List Int) (r : Int) : Prop where
  a0 : A ≠ []
  a1 : A.length ≤ 12
  f1 : F.length ≤ 24
  r0 : 0 ≤ r
  nn : ∀ x ∈ F ++ A, 0 ≤ x
  sm : ∀ x ∈ F ++ A, x ≤ 1000000
  zero : (F ++ A)[0]? = some 0
  mono : ∀ i x y, (F ++ A)[i]? = some x → (F ++ A)[i + 1]? = some y → x ≤ y
  r1 : ∀ x, A[0]? = some x → ∀ y, A[A.length - 1]? = some y → y ≤ x + r
  r2 : r ≤ 1000000
def sp_law_curve : DSp := fun ds m R _ => match ds with
  | [.ptr p] => ∃ b X, m p = some X ∧ PenOk b X ∧ b ≤ 2 ^ 29 ∧ ∀ F A r X', Drawn F A r → PenOk (b + 50) X' → R (crv F A r) (up m p X')
  | _ => False
end Pn

namespace Pn
open PySem PySem.Spec PyProof.Rows L2 Dl Pg
def r_law_pen : DS :=
(dRet (dLst true (dCons (dCB (listD false) (dCons (dSl false (dVar 0) dNoPart (dPart (dC (.int 63)))) dNil)) (dCons (dC (.int 0)) (dCons (dC (.int 0)) dNil)))))
def r_law_take : DS :=
(dSeq (dIf (dB (dOp gtD (dOp ixD (dVar 0) (dC (.int 2))) (dC (.int 0))))
(dSeq (dSet 2 (dOp modD (dOp ixD (dVar 0) (dC (.int 2))) (dVar 1)))
(dSeq (dAsg (subG (dVar 0) (dC (.int 2))) (dOp divD (dOp ixD (dVar 0) (dC (.int 2))) (dVar 1)))
(dRet (dVar 2))))
dNext)
(dSeq (dSet 3 (dOp ixD (dVar 0) (dC (.int 1))))
(dSeq (dAsg (subG (dVar 0) (dC (.int 1))) (dOp (addD false) (dVar 3) (dC (.int 1))))
(dSeq (dSet 4 (dOp (addD false) (dOp (mulD false) (dC (.int 5003)) (dVar 3)) (dC (.int 41))))
(dSeq (dIf (dB (dOp neD (dOp ixD (dVar 0) (dC (.int 0))) (dLst false dNil)))
(dSet 4 (dOp ixD (dOp ixD (dVar 0) (dC (.int 0))) (dOp modD (dVar 3) (dCB lenD (dCons (dOp ixD (dVar 0) (dC (.int 0))) dNil)))))
dNext)
(dSeq (dIf (dAnd (dB (dOp ltD (dVar 3) (dCB lenD (dCons (dOp ixD (dVar 0) (dC (.int 0))) dNil)))) (dB (dOp geD (dCB absD (dCons (dVar 4) dNil)) (dOp powD (dC (.int 10)) (dC (.int 18))))))
(dSeq (dAsg (subG (dVar 0) (dC (.int 2))) (dOp divD (dCB absD (dCons (dVar 4) dNil)) (dVar 1)))
(dRet (dOp modD (dCB absD (dCons (dVar 4) dNil)) (dVar 1))))
dNext)
(dSeq (dSet 5 (dLst false (dCons (dC (.int 2147483647)) (dCons (dC (.int 2147483629)) (dCons (dC (.int 2147483587)) (dCons (dC (.int 2147483579)) (dCons (dC (.int 2147483563)) (dCons (dC (.int 2147483549)) (dCons (dC (.int 2147483543)) dNil)))))))))
(dSeq (dSet 6 (dOp (addD false) (dOp (addD false) (dOp modD (dVar 4) (dC (.int 2147483497))) (dOp (mulD false) (dC (.int 70001)) (dVar 3))) (dC (.int 19))))
(dSeq (dSet 6 (dOp modD (dOp (mulD false) (dVar 6) (dOp (addD false) (dOp (mulD false) (dVar 3) (dVar 3)) (dC (.int 48271)))) (dOp ixD (dVar 5) (dOp modD (dVar 3) (dC (.int 7))))))
(dRet (dOp modD (dOp divD (dOp modD (dOp powD (dVar 6) (dC (.int 5))) (dOp ixD (dVar 5) (dOp modD (dOp (addD false) (dVar 3) (dC (.int 3))) (dC (.int 7))))) (dC (.int 64))) (dVar 1))))))))))))
def r_law_at : DS :=
(dSeq (dAsg (tupG 3 (consG (nameG 2) (consG (nameG 3) (consG (nameG 4) nilG)))) (dVar 0))
(dSeq (dIf (dB (dOp ltD (dVar 1) (dCB lenD (dCons (dVar 2) dNil))))
(dRet (dOp ixD (dVar 2) (dVar 1)))
dNext)
(dSeq (dSet 5 (dOp subD (dVar 1) (dCB lenD (dCons (dVar 2) dNil))))
(dRet (dOp (addD false) (dOp ixD (dVar 3) (dOp modD (dVar 5) (dCB lenD (dCons (dVar 3) dNil)))) (dOp (mulD false) (dOp divD (dVar 5) (dCB lenD (dCons (dVar 3) dNil))) (dVar 4)))))))
def r_law_curve : DS :=
(dSeq (dSet 1 (dCall sp_law_take (dCons (dVar 0) (dCons (dC (.int 7)) dNil))))
(dSeq (dSet 2 (dOp divD (dCall sp_law_take (dCons (dVar 0) (dCons (dC (.int 16)) dNil))) (dC (.int 15))))
(dSeq (dSet 3 (dOp (addD false) (dC (.int 1)) (dCall sp_law_take (dCons (dVar 0) (dCons (dC (.int 6)) dNil)))))
(dSeq (dSet 4 (dOp (addD false) (dCall sp_law_take (dCons (dVar 0) (dCons (dC (.int 8)) dNil))) (dOp (mulD false) (dC (.int 17)) (dVar 2))))
(dSeq (dSet 5 (dOp (addD false) (dOp (addD false) (dC (.int 1)) (dCall sp_law_take (dCons (dVar 0) (dCons (dC (.int 5)) dNil)))) (dOp (mulD false) (dC (.int 7)) (dVar 2))))
(dSeq (dSet 6 (dLst true (dCons (dC (.int 0)) dNil)))
(dSeq (dFor (rngI2 (dC (.int 1)) (dOp (addD false) (dOp (addD false) (dVar 4) (dVar 5)) (dC (.int 1)))) (nameG 7)
(dSeq (dSet 8 (dCall sp_law_take (dCons (dVar 0) (dCons (dOp (addD false) (dOp (mulD false) (dC (.int 2)) (dVar 3)) (dC (.int 1))) dNil))))
(dSeq (dIf (dB (dOp eqD (dVar 1) (dC (.int 0))))
(dSet 8 (dVar 3))
dNext)
(dSeq (dIf (dAnd (dB (dOp eqD (dVar 1) (dC (.int 1)))) (dB (dOp ltD (dVar 7) (dVar 4))))
(dSet 8 (dC (.int 0)))
dNext)
(dSeq (dIf (dAnd (dB (dOp eqD (dVar 1) (dC (.int 2)))) (dB (dOp eqD (dVar 7) (dC (.int 1)))))
(dSet 8 (dOp (addD false) (dVar 8) (dOp (mulD false) (dC (.int 10)) (dVar 3))))
dNext)
(dSeq (dIf (dAnd (dB (dOp eqD (dVar 1) (dC (.int 3)))) (dB (dOp gtD (dOp modD (dVar 8) (dC (.int 3))) (dC (.int 0)))))
(dSet 8 (dC (.int 0)))
dNext)
(dSeq (dIf (dB (dOp eqD (dVar 1) (dC (.int 4))))
(dSet 8 (dOp (mulD false) (dVar 8) (dC (.int 999))))
dNext)
(dExpr (dLM appM (dVar 6) (dCons (dOp (addD false) (dOp ixD (dVar 6) (dNeg (dC (.int 1)))) (dVar 8)) dNil))))))))))
(dFrz 6 (dRet (dTup (dCons (dCB tupleD (dCons (dSl false (dVar 6) dNoPart (dPart (dVar 4))) dNil)) (dCons (dCB tupleD (dCons (dSl false (dVar 6) (dPart (dVar 4)) (dPart (dOp (addD false) (dVar 4) (dVar 5)))) dNil)) (dCons (dOp subD (dOp ixD (dVar 6) (dOp (addD false) (dVar 4) (dVar 5))) (dOp ixD (dVar 6) (dVar 4))) dNil)))))))))))))
end Pn

namespace Pn
open PySem PySem.Spec PyProof.Rows L2 Dl Pg
theorem v_law_at {ds : List D} {m : Sto} {R : D → Sto → Prop} {RX : DX} (h : sp_law_at ds m R RX) : r_law_at { nx := fun _ m' => R .non m', rt := R } ⟨ds.map some ++ List.replicate (6 - ds.length) none, fun _ => RX⟩ m := by
  unfold sp_law_at at h
  split at h
  · rename_i t
    obtain ⟨F, A, r, rfl, hA, hz, h0, h1, hR⟩ := h
    have hl : 0 < A.length := List.length_pos_iff.mpr hA
    refine ⟨rfl, ⟨fun c => ?_, fun c => ?_⟩⟩
    · have c' := of_decide_eq_true c
      rw [List.length_map] at c'
      refine ⟨_, _, rfl, atI_int h0 c', ?_⟩
      unfold val at hR
      rw [if_pos c'] at hR
      exact hR
    · have c' := of_decide_eq_false c
      rw [List.length_map] at c'
      have d0 : 0 ≤ (t - F.length) % (A.length : Int) := Int.emod_nonneg _ (by omega)
      have d1 : (t - F.length) % (A.length : Int) < A.length := Int.emod_lt_of_pos _ (by omega)
      have q1 : (t - F.length) / (A.length : Int) ≤ t - F.length := Int.ediv_le_self _ (by omega)
      have q0 : 0 ≤ (t - F.length) / (A.length : Int) := Int.ediv_nonneg (by omega) (by omega)
      refine ⟨?_, _, _, rfl, atI_int ?_ ?_, CDivW.small ?_ ?_, MulOk.smallL ?_ ?_, ?_⟩
      all_goals try simp only [List.length_map]
      · omega
      · exact d0
      · exact d1
      · omega
      · omega
      · omega
      · omega
      · unfold val at hR
        rw [if_neg c', Int.mul_comm] at hR
        exact hR
  · exact h.elim
theorem v_law_pen {ds : List D} {m : Sto} {R : D → Sto → Prop} {RX : DX} (h : sp_law_pen ds m R RX) : r_law_pen { nx := fun _ m' => R .non m', rt := R } ⟨ds.map some ++ List.replicate (1 - ds.length) none, fun _ => RX⟩ m := by
  unfold sp_law_pen at h
  split at h
  · obtain ⟨ns, rfl, hR⟩ := h
    refine ⟨_, rfl, (by show 3 ≤ sizeLine; decide), fun p hp => ?_⟩
    refine hR p _ hp ⟨cut ns none (some 63), 0, 0, ?_, by decide, by decide, by decide⟩
    unfold cut
    rw [List.length_map, List.map_take, List.map_drop]
  · exact h.elim
/-- an item of the seven -/
theorem prime_at {k : Int} (h0 : 0 ≤ k) (h1 : k < 7) : ∃ x : Int, L2.atI [D.int 2147483647, D.int 2147483629, D.int 2147483587, D.int 2147483579, D.int 2147483563, D.int 2147483549, D.int 2147483543] k = some (.int x) ∧ 2 ^ 30 < x ∧ x < 2 ^ 31 := by
  have e : k = 0 ∨ k = 1 ∨ k = 2 ∨ k = 3 ∨ k = 4 ∨ k = 5 ∨ k = 6 := by omega
  rcases e with rfl | rfl | rfl | rfl | rfl | rfl | rfl <;> exact ⟨_, rfl, by decide, by decide⟩
theorem v_law_take {ds : List D} {m : Sto} {R : D → Sto → Prop} {RX : DX} (h : sp_law_take ds m R RX) : r_law_take { nx := fun _ m' => R .non m', rt := R } ⟨ds.map some ++ List.replicate (7 - ds.length) none, fun _ => RX⟩ m := by
  unfold sp_law_take at h
  split at h
  · rename_i p n
    obtain ⟨b, X, hp, ⟨cells, k, left, rfl, k0, kb, l0⟩, hb, n0, n1, hR⟩ := h
    have mod0 : ∀ x : Int, 0 ≤ x % n := fun x => Int.emod_nonneg _ (by omega)
    have mod1 : ∀ x : Int, x % n < n := fun x => Int.emod_lt_of_pos _ n0
    refine ⟨_, _, ⟨_, hp, rfl⟩, rfl, ⟨fun c => ?_, fun c => ?_⟩⟩
    · -- a digit is left
      refine ⟨_, _, ⟨_, hp, rfl⟩, rfl, n0, _, _, ⟨_, hp, rfl⟩, rfl, CDivW.small n0 (by omega), _, 2, hp, rfl, ?_⟩
      exact hR _ _ (mod0 _) (mod1 _) ⟨cells, k, left / n, rfl, k0, by omega, Int.ediv_nonneg l0 (by omega)⟩
    · -- a cell
      have last : ∀ (cell : Int) (m1 : Sto), m1 = up m p (.lst [.lst (cells.map .int), .int (k + 1), .int left]) → ∀ δ : Ev, δ.s[1]? = some (some (.int n)) → δ.s[3]? = some (some (.int k)) → δ.s[4]? = some (some (.int cell)) → δ.s.length = 7 →
          (dSeq (dSet 5 (dLst false (dCons (dC (.int 2147483647)) (dCons (dC (.int 2147483629)) (dCons (dC (.int 2147483587)) (dCons (dC (.int 2147483579)) (dCons (dC (.int 2147483563)) (dCons (dC (.int 2147483549)) (dCons (dC (.int 2147483543)) dNil)))))))))
          (dSeq (dSet 6 (dOp (addD false) (dOp (addD false) (dOp modD (dVar 4) (dC (.int 2147483497))) (dOp (mulD false) (dC (.int 70001)) (dVar 3))) (dC (.int 19))))
          (dSeq (dSet 6 (dOp modD (dOp (mulD false) (dVar 6) (dOp (addD false) (dOp (mulD false) (dVar 3) (dVar 3)) (dC (.int 48271)))) (dOp ixD (dVar 5) (dOp modD (dVar 3) (dC (.int 7))))))
          (dRet (dOp modD (dOp divD (dOp modD (dOp powD (dVar 6) (dC (.int 5))) (dOp ixD (dVar 5) (dOp modD (dOp (addD false) (dVar 3) (dC (.int 3))) (dC (.int 7))))) (dC (.int 64))) (dVar 1)))))) { nx := fun _ m' => R .non m', rt := R } δ m1 := by
        intro cell m1 em δ e1 e3 e4 hl
        obtain ⟨s, x⟩ := δ
        match s, hl with
        | [a0, a1, a2, a3, a4, a5, a6], _ =>
          cases e1
          cases e3
          cases e4
          obtain ⟨x1, i1, l1, u1⟩ := prime_at (k := k % 7) (Int.emod_nonneg _ (by decide)) (Int.emod_lt_of_pos _ (by decide))
          obtain ⟨x2, i2, l2, u2⟩ := prime_at (k := (k + 3) % 7) (Int.emod_nonneg _ (by decide)) (Int.emod_lt_of_pos _ (by decide))
          have kk : k * k ≤ 2 ^ 30 * 2 ^ 30 := Int.mul_le_mul (by omega) (by omega) k0 (by decide)
          have kk0 : 0 ≤ k * k := Int.mul_nonneg k0 k0
          refine ⟨(by show 7 ≤ sizeLine; decide), (by decide), MulOk.smallL (by decide) (by decide), MulOk.smallL (by omega) (by omega), MulOk.small (by omega) (by omega), (by decide), _, _, rfl, i1, (by omega), ⟨by decide, by decide, ?_⟩, (by decide), _, _, rfl, i2, (by omega), CDivW.small (by decide) (by decide), n0, ?_⟩
          · have h0 := Int.emod_nonneg ((cell % 2147483497 + 70001 * k + 19) * (k * k + 48271)) (show x1 ≠ 0 by omega)
            have h1 := Int.emod_lt_of_pos ((cell % 2147483497 + 70001 * k + 19) * (k * k + 48271)) (show 0 < x1 by omega)
            omega
          · subst em
            exact hR _ _ (mod0 _) (mod1 _) ⟨cells, k + 1, left, rfl, by omega, by omega, l0⟩
      have test : ∀ (cell : Int) (m1 : Sto), m1 = up m p (.lst [.lst (cells.map .int), .int (k + 1), .int left]) → ∀ δ : Ev, δ.s[0]? = some (some (.ptr p)) → δ.s[1]? = some (some (.int n)) → δ.s[3]? = some (some (.int k)) → δ.s[4]? = some (some (.int cell)) → δ.s.length = 7 →
          dSeq (dIf (dAnd (dB (dOp ltD (dVar 3) (dCB lenD (dCons (dOp ixD (dVar 0) (dC (.int 0))) dNil)))) (dB (dOp geD (dCB absD (dCons (dVar 4) dNil)) (dOp powD (dC (.int 10)) (dC (.int 18))))))
            (dSeq (dAsg (subG (dVar 0) (dC (.int 2))) (dOp divD (dCB absD (dCons (dVar 4) dNil)) (dVar 1)))
            (dRet (dOp modD (dCB absD (dCons (dVar 4) dNil)) (dVar 1)))) dNext)
          (dSeq (dSet 5 (dLst false (dCons (dC (.int 2147483647)) (dCons (dC (.int 2147483629)) (dCons (dC (.int 2147483587)) (dCons (dC (.int 2147483579)) (dCons (dC (.int 2147483563)) (dCons (dC (.int 2147483549)) (dCons (dC (.int 2147483543)) dNil)))))))))
          (dSeq (dSet 6 (dOp (addD false) (dOp (addD false) (dOp modD (dVar 4) (dC (.int 2147483497))) (dOp (mulD false) (dC (.int 70001)) (dVar 3))) (dC (.int 19))))
          (dSeq (dSet 6 (dOp modD (dOp (mulD false) (dVar 6) (dOp (addD false) (dOp (mulD false) (dVar 3) (dVar 3)) (dC (.int 48271)))) (dOp ixD (dVar 5) (dOp modD (dVar 3) (dC (.int 7))))))
          (dRet (dOp modD (dOp divD (dOp modD (dOp powD (dVar 6) (dC (.int 5))) (dOp ixD (dVar 5) (dOp modD (dOp (addD false) (dVar 3) (dC (.int 3))) (dC (.int 7))))) (dC (.int 64))) (dVar 1)))))) { nx := fun _ m' => R .non m', rt := R } δ m1 := by
        intro cell m1 em δ e0 e1 e3 e4 hl
        obtain ⟨s, x⟩ := δ
        match s, hl with
        | [a0, a1, a2, a3, a4, a5, a6], _ =>
          cases e0
          cases e1
          cases e3
          cases e4
          have hp1 : m1 p = some (.lst [.lst (cells.map .int), .int (k + 1), .int left]) := by rw [em, up_same]
          have ab : 0 ≤ (if cell < 0 then -cell else cell) := by split <;> omega
          refine ⟨_, _, ⟨_, hp1, rfl⟩, rfl, ⟨fun c => ⟨⟨by decide, by decide, by decide⟩, ⟨fun c2 => ?_, fun c2 => ?_⟩⟩, fun c => ⟨(fun z => nomatch z), fun _ => last cell m1 em _ rfl rfl rfl rfl⟩⟩⟩
          · refine ⟨CDivW.small n0 (by omega), _, 2, hp1, rfl, n0, ?_⟩
            rw [em, up_up]
            exact hR _ _ (mod0 _) (mod1 _) ⟨cells, k + 1, (if cell < 0 then -cell else cell) / n, rfl, by omega, by omega, Int.ediv_nonneg ab (by omega)⟩
          · exact last cell m1 em _ rfl rfl rfl rfl
      refine ⟨_, _, ⟨_, hp, rfl⟩, rfl, _, 1, hp, rfl, MulOk.smallL (by decide) (by decide), _, _, ⟨_, up_same, rfl⟩, rfl, Nat.zero_le _, _, _, .lst (PvL.ints cells), .lst .nil, shaped_ints _, shaped_ints [], ⟨fun c2 => ?_, fun c2 => ?_⟩⟩
      · have cn : cells ≠ [] := fun e => by
          subst e
          have z := eqv_ints [] []
          rw [List.map_nil] at z
          rw [List.map_nil, z] at c2
          cases c2
        have cl : 0 < cells.length := List.length_pos_iff.mpr cn
        refine ⟨_, _, ⟨_, up_same, rfl⟩, rfl, _, _, ⟨_, up_same, rfl⟩, rfl, ?_, _, _, rfl, atI_int (Int.emod_nonneg _ ?_) ?_, ?_⟩
        · rw [List.length_map]
          omega
        · rw [List.length_map]
          omega
        · rw [List.length_map]
          exact Int.emod_lt_of_pos _ (by omega)
        · dsimp only
          refine test ?cc _ ?h1 _ ?h2 ?h3 ?h4 ?h5 ?h6
          (case h5 => rfl)
          (case h1 => rfl)
          (case h2 => rfl)
          (case h3 => rfl)
          (case h4 => rfl)
          (case h6 => rfl)
      · dsimp only [dNext]
        refine test ?dd _ ?g1 _ ?g2 ?g3 ?g4 ?g5 ?g6
        (case g5 => rfl)
        (case g1 => rfl)
        (case g2 => rfl)
        (case g3 => rfl)
        (case g4 => rfl)
        (case g6 => rfl)
  · exact h.elim
end Pn

namespace Pn
open PySem PySem.Spec PyProof.Rows L2 Dl Pg
/-- the row so far: n steps -/
structure Row (rs : List Int) (n : Nat) : Prop where
  len : rs.length = n + 1
  zero : rs[0]? = some 0
  mono : ∀ (i : Nat) x y, rs[i]? = some x → rs[i + 1]? = some y → x ≤ y
  bnd : ∀ x ∈ rs, 0 ≤ x ∧ x ≤ 12000 * n
theorem Row.app {rs : List Int} {n : Nat} {l s : Int} (h : Row rs n) (hl : rs[n]? = some l) (s0 : 0 ≤ s) (s1 : s ≤ 12000) : Row (rs ++ [l + s]) (n + 1) := by
  have lm := h.bnd l (List.mem_of_getElem? hl)
  refine ⟨by rw [List.length_append, h.len]; rfl, ?_, fun i x y hx hy => ?_, fun x hx => ?_⟩
  · rw [List.getElem?_append_left (by rw [h.len]; omega)]
    exact h.zero
  · by_cases hi : i + 1 < rs.length
    · rw [List.getElem?_append_left hi] at hy
      rw [List.getElem?_append_left (by omega)] at hx
      exact h.mono i x y hx hy
    · have hl2 := (List.getElem?_eq_some_iff.mp hy).1
      rw [List.length_append] at hl2
      have e : i + 1 = rs.length := by
        have : [l + s].length = 1 := rfl
        omega
      rw [List.getElem?_append_right (by omega), e, Nat.sub_self] at hy
      have ei : i = n := by rw [h.len] at e; omega
      rw [List.getElem?_append_left (by omega), ei, hl] at hx
      cases hx
      cases hy
      omega
  · rcases List.mem_append.mp hx with hx | hx
    · have := h.bnd x hx
      omega
    · have e : x = l + s := by simpa using hx
      omega
theorem Row.le {rs : List Int} {n : Nat} (h : Row rs n) : ∀ (k i : Nat) x y, rs[i]? = some x → rs[i + k]? = some y → x ≤ y
  | 0, i, x, y, hx, hy => by
    rw [Nat.add_zero, hx] at hy
    cases hy
    exact Int.le_refl _
  | k + 1, i, x, y, hx, hy => by
    have hl := (List.getElem?_eq_some_iff.mp hy).1
    have hz : rs[i + k]? = some rs[i + k] := List.getElem?_eq_getElem (by omega)
    have h1 := Row.le h k i x _ hx hz
    have h2 := h.mono (i + k) _ y hz hy
    omega
/-- the curve of a row -/
theorem Row.drawn {rs : List Int} {e l : Nat} (h : Row rs (e + l)) (hl : 0 < l) (hl2 : l ≤ 12) (he : e ≤ 24) : Drawn (rs.take e) ((rs.drop e).take l) (rs.getD (e + l) 0 - rs.getD e 0) := by
  have L := h.len
  have la : ((rs.drop e).take l).length = l := by rw [List.length_take, List.length_drop]; omega
  have ap : rs.take e ++ (rs.drop e).take l = rs.take (e + l) := by rw [List.take_add]
  have g1 : rs[e + l]? = some (rs.getD (e + l) 0) := by rw [List.getD_eq_getElem?_getD, List.getElem?_eq_getElem (by omega)]; rfl
  have g0 : rs[e]? = some (rs.getD e 0) := by rw [List.getD_eq_getElem?_getD, List.getElem?_eq_getElem (by omega)]; rfl
  have b1 := h.bnd _ (List.mem_of_getElem? g1)
  have b0 := h.bnd _ (List.mem_of_getElem? g0)
  have mo := h.le l e _ _ g0 g1
  have tk : ∀ i x, (rs.take (e + l))[i]? = some x → rs[i]? = some x ∧ i < e + l := fun i x hx => by
    have hi := (List.getElem?_eq_some_iff.mp hx).1
    rw [List.length_take] at hi
    rw [List.getElem?_take_of_lt (by omega)] at hx
    exact ⟨hx, by omega⟩
  refine ⟨fun z => by rw [z] at la; simp at la; omega, by omega, by rw [List.length_take]; omega, by omega, ?_, ?_, ?_, ?_, ?_, by omega⟩
  · rw [ap]
    intro x hx
    exact (h.bnd x (List.mem_of_mem_take hx)).1
  · rw [ap]
    intro x hx
    have := (h.bnd x (List.mem_of_mem_take hx)).2
    omega
  · rw [ap, List.getElem?_take_of_lt (by omega)]
    exact h.zero
  · rw [ap]
    intro i x y hx hy
    exact h.mono i x y (tk _ _ hx).1 (tk _ _ hy).1
  · intro x hx y hy
    rw [List.getElem?_take_of_lt hl, List.getElem?_drop, Nat.add_zero, g0] at hx
    rw [la, List.getElem?_take_of_lt (by omega), List.getElem?_drop] at hy
    cases hx
    have e1 : e + (l - 1) + 1 = e + l := by omega
    have := h.mono (e + (l - 1)) y _ hy (by rw [e1]; exact g1)
    omega
theorem rgL_inv {lo : Int} {n i : Nat} {x : D} (h : (rgL lo n)[i]? = some x) : i < n ∧ x = .int (lo + (i : Nat)) := by
  have hi := (List.getElem?_eq_some_iff.mp h).1
  rw [rgL_len] at hi
  rw [rgL_get hi] at h
  exact ⟨hi, (Option.some.inj h).symm⟩
theorem atI_end {xs : List Int} {z : Int} (h : xs[xs.length - 1]? = some z) : L2.atI (xs.map D.int) (-1) = some (.int z) := by
  have hl := (List.getElem?_eq_some_iff.mp h).1
  unfold L2.atI L2.ixN
  rw [if_neg (by decide), if_pos (by rw [List.length_map]; omega)]
  show (xs.map D.int)[(-1 + ((xs.map D.int).length : Int)).toNat]? = _
  have e : (-1 + ((xs.map D.int).length : Int)).toNat = xs.length - 1 := by rw [List.length_map]; omega
  rw [e, List.getElem?_map, h]
  rfl
theorem up_swap {m : Sto} {p q : Addr} {X X' L L' : MO} (h : p ≠ q) : up (up (up (up m p X) q L) p X') q L' = up (up m p X') q L' := by
  funext c
  by_cases h1 : c = q
  · rw [h1, up_same, up_same]
  · rw [up_ne h1, up_ne h1]
    by_cases h2 : c = p
    · rw [h2, up_same, up_same]
    · rw [up_ne h2, up_ne h1, up_ne h2, up_ne h2]
theorem v_law_curve {ds : List D} {m : Sto} {R : D → Sto → Prop} {RX : DX} (h : sp_law_curve ds m R RX) : r_law_curve { nx := fun _ m' => R .non m', rt := R } ⟨ds.map some ++ List.replicate (9 - ds.length) none, fun _ => RX⟩ m := by
  unfold sp_law_curve at h
  split at h
  · rename_i p
    obtain ⟨b, X, hp, hX, hb, hR⟩ := h
    refine ⟨b, X, hp, hX, by omega, by decide, by decide, fun way X1 w0 w1 hX1 => ?_⟩
    refine ⟨b + 1, X1, up_same, hX1, by omega, by decide, by decide, fun wi X2 i0 i1 hX2 => ?_⟩
    refine ⟨CDivW.small (by decide) (by decide), b + 1 + 1, X2, up_same, hX2, by omega, by decide, by decide, fun qu X3 q0 q1 hX3 => ?_⟩
    refine ⟨b + 1 + 1 + 1, X3, up_same, hX3, by omega, by decide, by decide, fun ea X4 e0 e1 hX4 => ?_⟩
    refine ⟨MulOk.smallL (by decide) (by decide), b + 1 + 1 + 1 + 1, X4, up_same, hX4, by omega, by decide, by decide, fun lo X5 l0 l1 hX5 => ?_⟩
    refine ⟨MulOk.smallL (by decide) (by decide), (by show 1 ≤ sizeLine; decide), fun q hq => ?_⟩
    have w15 : 0 ≤ wi / 15 ∧ wi / 15 ≤ 1 := by omega
    generalize wi / 15 = wd at w15
    have hpq : p ≠ q := fun z => by
      rw [z, up_same] at hq
      cases hq
    refine ⟨⟨by decide, by decide, by omega, by omega⟩, fun i δ m' => ∃ (rs : List Int) (X : MO) (t s : Option D), δ = ⟨[some (.ptr p), some (.int way), some (.int wd), some (.int (1 + qu)), some (.int (ea + 17 * wd)), some (.int (1 + lo + 7 * wd)), some (.ptr q), t, s], fun _ => RX⟩ ∧
      m' = up (up m p X) q (.lst (rs.map .int)) ∧ PenOk (b + 5 + i) X ∧ Row rs i, ⟨[0], X5, none, none, rfl, by simp only [up_up]; rfl, ?_, ⟨rfl, rfl, fun i x y hx hy => by cases i <;> simp at hy, fun x hx => by simp at hx; omega⟩⟩, fun _ _ _ _ => trivial, ?_, ?_⟩
    · have e : b + 1 + 1 + 1 + 1 + 1 = b + 5 + ((0 : Nat) : Int) := by omega
      rw [← e]
      exact hX5
    · rintro i x δ m' hx ⟨rs, X, t, s, rfl, rfl, hX, hrow⟩
      obtain ⟨hi, rfl⟩ := rgL_inv hx
      have hi40 : i < 37 := by omega
      refine ⟨MulOk.smallL (by decide) (by decide), b + 5 + i, X, by rw [up_ne hpq, up_same], hX, by omega, by omega, by omega, fun st X' s0 s1 hX' => ?_⟩
      dsimp only
      refine if_join (i := 8) (s := st) (fun z => 0 ≤ z ∧ z ≤ 12) rfl ⟨rfl, fun c => ⟨rfl, _, rfl, by omega⟩, fun c => by omega⟩ fun z1 hz1 => ?_
      dsimp only
      refine if_join (i := 8) (s := z1) (fun z => 0 ≤ z ∧ z ≤ 12) rfl ⟨fun c => ⟨rfl, fun c => ⟨rfl, _, rfl, by omega⟩, fun c => hz1⟩, fun c => ⟨rfl, (fun z => nomatch z), fun _ => hz1⟩⟩ fun z2 hz2 => ?_
      dsimp only
      refine if_join (i := 8) (s := z2) (fun z => 0 ≤ z ∧ z ≤ 72 ∧ (z ≤ 12 ∨ way = 2)) rfl ⟨fun c0 => ⟨rfl, fun c => ⟨MulOk.smallL (by decide) (by decide), rfl, _, rfl, by have := of_decide_eq_true c0; omega⟩, fun c => by omega⟩, fun c => ⟨rfl, (fun z => nomatch z), fun _ => by omega⟩⟩ fun z3 hz3 => ?_
      dsimp only
      refine if_join (i := 8) (s := z3) (fun z => 0 ≤ z ∧ z ≤ 72 ∧ (z ≤ 12 ∨ way = 2)) rfl ⟨fun c => ⟨by decide, rfl, fun c => ⟨rfl, _, rfl, by omega⟩, fun c => by omega⟩, fun c => ⟨rfl, (fun z => nomatch z), fun _ => by omega⟩⟩ fun z4 hz4 => ?_
      dsimp only
      refine if_join (i := 8) (s := z4) (fun z => 0 ≤ z ∧ z ≤ 12000) rfl ⟨rfl, fun c => ⟨MulOk.small (by decide) (by decide), rfl, _, rfl, by have := of_decide_eq_true c; omega⟩, fun c => by omega⟩ fun z5 hz5 => ?_
      obtain ⟨z, hz⟩ : ∃ z, rs[rs.length - 1]? = some z := ⟨_, List.getElem?_eq_getElem (by have := hrow.len; omega)⟩
      have hq1 : up (up (up m p X) q (.lst (rs.map .int))) p X' q = some (.lst (rs.map .int)) := by rw [up_ne hpq.symm, up_same]
      refine ⟨⟨_, _, hq1, rfl⟩, _, _, ⟨_, hq1, rfl⟩, atI_end hz, _, hq1, ?_, rs ++ [z + z5], X', _, _, rfl, ?_, ?_, ?_⟩
      · rw [List.length_map, hrow.len]
        exact small1000 (by omega)
      · rw [List.map_append]
        exact up_swap hpq
      · have e : b + 5 + ((i + 1 : Nat) : Int) = b + 5 + (i : Int) + 1 := by omega
        rw [e]
        exact hX'
      · have e : rs.length - 1 = i := by rw [hrow.len]; omega
        rw [e] at hz
        exact hrow.app hz hz5.1 hz5.2
    · rintro δ m' ⟨rs, X, t, s, rfl, rfl, hX, hrow⟩
      rw [rgL_len] at hX hrow
      have en : (ea + 17 * wd + (1 + lo + 7 * wd) + 1 - 1).toNat = (ea + 17 * wd).toNat + (1 + lo + 7 * wd).toNat := by omega
      rw [en] at hrow hX
      generalize he : (ea + 17 * wd).toNat = e at hrow hX
      generalize hl : (1 + lo + 7 * wd).toNat = l at hrow hX
      have he' : ea + 17 * wd = (e : Int) := by omega
      have hl' : 1 + lo + 7 * wd = (l : Int) := by omega
      rw [he', hl']
      have L := hrow.len
      have hrm : (rs.map D.int).length = e + l + 1 := by rw [List.length_map, L]
      refine ⟨q, _, rfl, up_same, _, rfl, _, rfl, _, _, rfl, atI_int (by omega) (by omega), _, _, rfl, atI_int (by omega) (by omega), (by show 3 ≤ sizeLine; decide), ?_⟩
      have hmq : (up m p X) q = none := by
        simp only [up_up] at hq
        rw [up_ne hpq.symm] at hq ⊢
        exact hq
      rw [del_up hmq]
      have c1 : cut (rs.map D.int) none (some ((e : Nat) : Int)) = (rs.take e).map D.int := by
        unfold cut
        rw [HT.sIx_none, HT.sIx_nat, hrm, Nat.min_eq_left (by omega), Nat.sub_zero, List.drop_zero, List.map_take]
      have c2 : cut (rs.map D.int) (some ((e : Nat) : Int)) (some (((e : Nat) : Int) + ((l : Nat) : Int))) = ((rs.drop e).take l).map D.int := by
        unfold cut
        have z : ((e : Nat) : Int) + ((l : Nat) : Int) = ((e + l : Nat) : Int) := by omega
        rw [z, HT.sIx_nat, HT.sIx_nat, hrm, Nat.min_eq_left (by omega), Nat.min_eq_left (by omega), Nat.add_sub_cancel_left, List.map_take, List.map_drop]
      have c3 : (((e : Nat) : Int) + ((l : Nat) : Int)).toNat = e + l := by omega
      have fin := hR _ _ _ X (hrow.drawn (by omega) (by omega) (by omega)) (by
        obtain ⟨cells, k, left, h1, h2, h3, h4⟩ := hX
        exact ⟨cells, k, left, h1, h2, by omega, h4⟩)
      unfold crv at fin
      rw [← c1, ← c2, ← c3] at fin
      exact fin
  · exact h.elim
end Pn

/-! A Meter: promises. -/
namespace Mt
open PySem PySem.Spec PyProof.Rows L2 Dl Pg
/-- the curve's first n values -/
def vals (F A : List Int) (r : Int) (n : Nat) : List Int := (List.range n).map fun i => val F A r (i : Nat)
/-- how much may come next -/
def leaveI (F A : List Int) (r : Int) (T : List Int) : Int := lmin ((List.range T.length).map fun s => val F A r ((T.length : Int) - (s : Nat)) + T.getD s 0) - T.getD (T.length - 1) 0
def steps (T : List Int) : List Int := (List.range (T.length - 1)).map fun i => T.getD (i + 1) 0 - T.getD i 0
structure MeterAt (C : Addr) (m : Sto) (a p q : Addr) (F A : List Int) (r : Int) (T : List Int) (n : Nat) : Prop where
  ob : m a = some (.ins C [("curve", crv F A r), ("tallies", .ptr p), ("most", .ptr q)])
  tl : m p = some (.lst (T.map .int))
  ms : m q = some (.lst ((vals F A r n).map .int))
  pq : p ≠ q
  n1 : 1 ≤ n
  t1 : 0 < T.length
theorem MeterAt.ap {C : Addr} {m : Sto} {a p q : Addr} {F A : List Int} {r : Int} {T : List Int} {n : Nat} (h : MeterAt C m a p q F A r T n) : a ≠ p := ne_some h.ob h.tl (fun z => by cases z)
theorem MeterAt.aq {C : Addr} {m : Sto} {a p q : Addr} {F A : List Int} {r : Int} {T : List Int} {n : Nat} (h : MeterAt C m a p q F A r T n) : a ≠ q := ne_some h.ob h.ms (fun z => by cases z)
def sp_Meter_init (C : Addr) : DSp := fun ds m R _ => match ds with
  | [.ptr a, f] => m a = some (.ins C []) ∧ ∃ F A r, f = crv F A r ∧ val F A r 0 = 0 ∧ ∀ p q m', m p = none → m q = none → MeterAt C m' a p q F A r [0] 1 → (∀ b, b ≠ a → b ≠ p → b ≠ q → m' b = m b) → R .non m'
  | _ => False
def sp_Meter_leave (C : Addr) : DSp := fun ds m R _ => match ds with
  | [.ptr a] => ∃ p q F A r T n, MeterAt C m a p q F A r T n ∧ A ≠ [] ∧ A.length < 2 ^ 60 ∧ T.length ≤ 1000 ∧ n ≤ 2000 ∧ R (.int (leaveI F A r T)) (up m q (.lst ((vals F A r (max n (T.length + 1))).map .int)))
  | _ => False
def sp_Meter_told (C : Addr) : DSp := fun ds m R _ => match ds with
  | [.ptr a] => ∃ p q F A r T n, MeterAt C m a p q F A r T n ∧ T.length ≤ 1000 ∧ ∀ s, m s = none → R (.ptr s) (up m s (.lst ((steps T).map .int)))
  | _ => False
def sp_Meter_back (C : Addr) : DSp := fun ds m R _ => match ds with
  | [.ptr a] => ∃ p q F A r T n, MeterAt C m a p q F A r T n ∧ 2 ≤ T.length ∧ R (.int (T.getD (T.length - 1) 0 - T.getD (T.length - 2) 0)) (up m p (.lst (T.dropLast.map .int)))
  | _ => False
def sp_Meter_need_room (C : Addr) : DSp := fun ds m R _ => match ds with
  | [.ptr a, .int t] => ∃ p q F A r T n, MeterAt C m a p q F A r T n ∧ 0 ≤ t ∧ T.length + t ≤ 401 ∧ R .non m
  | _ => False
def sp_Meter_come (C : Addr) : DSp := fun ds m R _ => match ds with
  | [.ptr a, .int x] => ∃ p q F A r T n, MeterAt C m a p q F A r T n ∧ A ≠ [] ∧ A.length < 2 ^ 60 ∧ T.length + 1 ≤ 401 ∧ n ≤ 1000 ∧ 0 ≤ x ∧ x ≤ leaveI F A r T ∧
      R (.int (leaveI F A r (T ++ [T.getD (T.length - 1) 0 + x]))) (up (up m p (.lst ((T ++ [T.getD (T.length - 1) 0 + x]).map .int))) q (.lst ((vals F A r (max n (T.length + 2))).map .int)))
  | _ => False
def sp_Meter_rest (C : Addr) : DSp := fun ds m R _ => match ds with
  | [.ptr a, .int t] => ∃ p q F A r T n, MeterAt C m a p q F A r T n ∧ A ≠ [] ∧ A.length < 2 ^ 60 ∧ 0 ≤ t ∧ T.length + t ≤ 401 ∧ n ≤ 1000 ∧
      R (.int (leaveI F A r (T ++ List.replicate t.toNat (T.getD (T.length - 1) 0)))) (up (up m p (.lst ((T ++ List.replicate t.toNat (T.getD (T.length - 1) 0)).map .int))) q (.lst ((vals F A r (max n (T.length + t.toNat + 1))).map .int)))
  | _ => False
end Mt

namespace Mt
open PySem PySem.Spec PyProof.Rows L2 Dl Pg
def r_Meter_init (c_Meter : Addr) : DS :=
(dSeq (dSetF c_Meter (dVar 0) "curve" (dVar 1))
(dSeq (dSetF c_Meter (dVar 0) "tallies" (dLst true (dCons (dC (.int 0)) dNil)))
(dSetF c_Meter (dVar 0) "most" (dLst true (dCons (dC (.int 0)) dNil)))))
def r_Meter_need_room (c_Meter : Addr) : DS :=
(dSeq (dIf (dNot (dB (dCall sp_is_number (dCons (dVar 1) dNil))))
dNever
dNext)
(dIf (dB (dOp gtD (dOp (addD false) (dCB lenD (dCons (dFld c_Meter (dVar 0) "tallies") dNil)) (dVar 1)) (dOp (addD false) (dC (.int 400)) (dC (.int 1)))))
dNever
dNext))
def r_Meter_leave (c_Meter : Addr) : DS :=
(dSeq (dSet 1 (dCB lenD (dCons (dFld c_Meter (dVar 0) "tallies") dNil)))
(dSeq (dWhile (dB (dOp leD (dCB lenD (dCons (dFld c_Meter (dVar 0) "most") dNil)) (dVar 1)))
(dExpr (dLM appM (dFld c_Meter (dVar 0) "most") (dCons (dCall sp_value (dCons (dFld c_Meter (dVar 0) "curve") (dCons (dCB lenD (dCons (dFld c_Meter (dVar 0) "most") dNil)) dNil))) dNil))))
(dRet (dOp subD (dCB minD (dCons (dLc false [2] false (rngI1 (dVar 1)) dYes (dOp (addD false) (dOp ixD (dFld c_Meter (dVar 0) "most") (dOp subD (dVar 1) (dVar 2))) (dOp ixD (dFld c_Meter (dVar 0) "tallies") (dVar 2)))) dNil)) (dOp ixD (dFld c_Meter (dVar 0) "tallies") (dNeg (dC (.int 1))))))))
def r_Meter_come (c_Meter : Addr) : DS :=
(dSeq (dIf (dNot (dB (dCall sp_is_number (dCons (dVar 1) dNil))))
dNever
dNext)
(dSeq (dExpr (dMeth c_Meter "need_room" (sp_Meter_need_room c_Meter) (dVar 0) (dCons (dC (.int 1)) dNil)))
(dSeq (dIf (dB (dOp gtD (dVar 1) (dMeth c_Meter "leave" (sp_Meter_leave c_Meter) (dVar 0) dNil)))
dNever
dNext)
(dSeq (dExpr (dLM appM (dFld c_Meter (dVar 0) "tallies") (dCons (dOp (addD false) (dOp ixD (dFld c_Meter (dVar 0) "tallies") (dNeg (dC (.int 1)))) (dVar 1)) dNil)))
(dRet (dMeth c_Meter "leave" (sp_Meter_leave c_Meter) (dVar 0) dNil))))))
def r_Meter_rest (c_Meter : Addr) : DS :=
(dSeq (dExpr (dMeth c_Meter "need_room" (sp_Meter_need_room c_Meter) (dVar 0) (dCons (dVar 1) dNil)))
(dSeq (dExpr (dLM extM (dFld c_Meter (dVar 0) "tallies") (dCons (dOp (mulD false) (dLst false (dCons (dOp ixD (dFld c_Meter (dVar 0) "tallies") (dNeg (dC (.int 1)))) dNil)) (dVar 1)) dNil)))
(dRet (dMeth c_Meter "leave" (sp_Meter_leave c_Meter) (dVar 0) dNil))))
def r_Meter_back (c_Meter : Addr) : DS :=
(dSeq (dIf (dB (dOp eqD (dCB lenD (dCons (dFld c_Meter (dVar 0) "tallies") dNil)) (dC (.int 1))))
dNever
dNext)
(dSeq (dSet 1 (dLM popM (dFld c_Meter (dVar 0) "tallies") dNil))
(dRet (dOp subD (dVar 1) (dOp ixD (dFld c_Meter (dVar 0) "tallies") (dNeg (dC (.int 1))))))))
def r_Meter_told (c_Meter : Addr) : DS :=
(dRet (dLc true [1] false (rngI2 (dC (.int 1)) (dCB lenD (dCons (dFld c_Meter (dVar 0) "tallies") dNil))) dYes (dOp subD (dOp ixD (dFld c_Meter (dVar 0) "tallies") (dVar 1)) (dOp ixD (dFld c_Meter (dVar 0) "tallies") (dOp subD (dVar 1) (dC (.int 1)))))))
end Mt

namespace Mt
open PySem PySem.Spec PyProof.Rows L2 Dl Pg Pn
theorem up_id {m : Sto} {a : Addr} {o : MO} (h : m a = some o) : up m a o = m := by
  funext b
  by_cases e : b = a
  · rw [e, up_same, h]
  · exact up_ne e
theorem up_over {m : Sto} {p q : Addr} {a b c : MO} (h : q ≠ p) : up (up (up m q a) p b) q c = up (up m p b) q c := by
  rw [up_comm h, up_up]
theorem vals_len {F A : List Int} {r : Int} {n : Nat} : (vals F A r n).length = n := by unfold vals; rw [List.length_map, List.length_range]
theorem vals_succ {F A : List Int} {r : Int} {n : Nat} : vals F A r (n + 1) = vals F A r n ++ [val F A r (n : Nat)] := by
  unfold vals
  rw [List.range_succ, List.map_append]
  rfl
theorem vals_get {F A : List Int} {r : Int} {n i : Nat} (h : i < n) : (vals F A r n).getD i 0 = val F A r (i : Nat) := by
  unfold vals
  rw [List.getD_eq_getElem?_getD, List.getElem?_map, List.getElem?_range h]
  rfl
theorem atI_last {T : List Int} (h : 0 < T.length) : L2.atI (T.map D.int) (-1) = some (.int (T.getD (T.length - 1) 0)) := by
  refine atI_end ?_
  rw [List.getD_eq_getElem?_getD, List.getElem?_eq_getElem (by omega)]
  rfl
theorem MeterAt.most {C : Addr} {m : Sto} {a p q : Addr} {F A : List Int} {r : Int} {T : List Int} {n n' : Nat} (h : MeterAt C m a p q F A r T n) (h1 : 1 ≤ n') : MeterAt C (up m q (.lst ((vals F A r n').map .int))) a p q F A r T n' :=
  ⟨by rw [up_ne h.aq]; exact h.ob, by rw [up_ne h.pq]; exact h.tl, up_same, h.pq, h1, h.t1⟩
theorem MeterAt.tally {C : Addr} {m : Sto} {a p q : Addr} {F A : List Int} {r : Int} {T T' : List Int} {n : Nat} (h : MeterAt C m a p q F A r T n) (h1 : 0 < T'.length) : MeterAt C (up m p (.lst (T'.map .int))) a p q F A r T' n :=
  ⟨by rw [up_ne h.ap]; exact h.ob, up_same, by rw [up_ne h.pq.symm]; exact h.ms, h.pq, h.n1, h1⟩
theorem big1000 {n : Nat} (h : n ≤ 1000000) : n < sizeLine := Nat.lt_of_le_of_lt h (by decide)
theorem v_Meter_init {c_Meter : Addr} {ds : List D} {m : Sto} {R : D → Sto → Prop} {RX : DX} (h : sp_Meter_init c_Meter ds m R RX) : r_Meter_init c_Meter { nx := fun _ m' => R .non m', rt := R } ⟨ds.map some ++ List.replicate (2 - ds.length) none, fun _ => RX⟩ m := by
  unfold sp_Meter_init at h
  split at h
  · rename_i a f
    obtain ⟨ha, F, A, r, rfl, h0, hR⟩ := h
    refine ⟨_, ha, (by show 0 < 1000; decide), (by show 1 ≤ sizeLine; decide), fun p hp => ?_⟩
    have pa : p ≠ a := fun z => by rw [z, up_same] at hp; cases hp
    refine ⟨_, (up_ne pa.symm).trans up_same, (by show 1 < 1000; decide), (by show 1 ≤ sizeLine; decide), fun q hq => ?_⟩
    have qa : q ≠ a := fun z => by rw [z, up_same] at hq; cases hq
    rw [up_ne qa] at hq
    have qp : q ≠ p := fun z => by rw [z, up_same] at hq; cases hq
    rw [up_ne qp, up_ne qa] at hq
    rw [up_ne pa] at hp
    refine ⟨_, (up_ne qa.symm).trans up_same, (by show 2 < 1000; decide), hR p q _ hp hq ⟨up_same, ?_, ?_, qp.symm, Nat.le_refl _, by decide⟩ fun b b1 b2 b3 => ?_⟩
    · rw [up_ne pa, up_ne qp.symm, up_ne pa, up_same]
      rfl
    · rw [up_ne qa, up_same]
      unfold vals
      show _ = some (MO.lst [D.int (val F A r ((0 : Nat) : Int))])
      rw [show ((0 : Nat) : Int) = 0 from rfl, h0]
    · rw [up_ne b1, up_ne b3, up_ne b1, up_ne b2, up_ne b1]
  · exact h.elim
theorem v_Meter_need_room {c_Meter : Addr} {ds : List D} {m : Sto} {R : D → Sto → Prop} {RX : DX} (h : sp_Meter_need_room c_Meter ds m R RX) : r_Meter_need_room c_Meter { nx := fun _ m' => R .non m', rt := R } ⟨ds.map some ++ List.replicate (2 - ds.length) none, fun _ => RX⟩ m := by
  unfold sp_Meter_need_room at h
  split at h
  · rename_i a t
    obtain ⟨p, q, F, A, r, T, n, M, h0, h1, hR⟩ := h
    refine ⟨fun c => ?_, fun _ => ⟨_, _, M.ob, rfl, _, _, M.tl, rfl, fun c => ?_, fun _ => hR⟩⟩
    · rw [decide_eq_true h0] at c
      cases c
    · have c' := of_decide_eq_true c
      rw [List.length_map] at c'
      omega
  · exact h.elim
theorem v_Meter_leave {c_Meter : Addr} {ds : List D} {m : Sto} {R : D → Sto → Prop} {RX : DX} (h : sp_Meter_leave c_Meter ds m R RX) : r_Meter_leave c_Meter { nx := fun _ m' => R .non m', rt := R } ⟨ds.map some ++ List.replicate (3 - ds.length) none, fun _ => RX⟩ m := by
  unfold sp_Meter_leave at h
  split at h
  · rename_i a
    obtain ⟨p, q, F, A, r, T, n, M, hA, hz, hT, hn, hR⟩ := h
    have hT1 := M.t1
    refine ⟨_, _, M.ob, rfl, _, _, M.tl, rfl, ?_⟩
    rw [List.length_map]
    refine ⟨fun k δ m' => ∃ n', k = T.length + 1 - n' ∧ n ≤ n' ∧ n' ≤ max n (T.length + 1) ∧ δ = ⟨[some (.ptr a), some (.int T.length), none], fun _ => RX⟩ ∧ m' = up m q (.lst ((vals F A r n').map .int)), ⟨_, n, rfl, Nat.le_refl _, by omega, rfl, (up_id M.ms).symm⟩, ?_⟩
    rintro k δ m' ⟨n', rfl, h1, h2, rfl, rfl⟩
    have M' := M.most (n' := n') (by have := M.n1; omega)
    refine ⟨_, _, M'.ob, rfl, _, _, M'.ms, rfl, fun c => ?_, fun c => ?_⟩
    · have c' := of_decide_eq_true c
      rw [List.length_map, vals_len] at c'
      refine ⟨_, _, M'.ob, rfl, ⟨_, _, M'.ms, rfl⟩, _, _, M'.ob, rfl, _, _, M'.ob, rfl, _, _, M'.ms, rfl, ?_⟩
      rw [List.length_map, vals_len]
      refine ⟨F, A, r, rfl, hA, hz, by omega, by omega, _, M'.ms, ?_, _, ?_, n' + 1, rfl, by omega, by omega, rfl, ?_⟩
      · rw [List.length_map, vals_len]
        exact big1000 (by omega)
      · omega
      · rw [up_up, vals_succ, List.map_append]
        rfl
    · have c' := of_decide_eq_false c
      rw [List.length_map, vals_len] at c'
      have en : n' = max n (T.length + 1) := by omega
      rw [← en] at hR
      refine ⟨by omega, by omega, lc_pure false (((List.range T.length).map fun s => val F A r ((T.length : Int) - (s : Nat)) + T.getD s 0).map D.int) (fun _ _ => trivial) ?_ ?_ (fun k x y m2 hx hy le => ?_) ?_⟩
      · rw [rgL_len, List.length_map, List.length_map, List.length_range]
        omega
      · rw [rgL_len]
        exact Nat.le_of_lt (big1000 (by omega))
      · obtain ⟨hk, rfl⟩ := rgL_inv hx
        have hk' : k < T.length := by omega
        rw [List.getElem?_map, List.getElem?_map, List.getElem?_range hk'] at hy
        cases hy
        refine ⟨_, rfl, fun R hR => ⟨_, _, le _ _ M'.ob, rfl, _, _, ⟨_, le _ _ M'.ms, rfl⟩, atI_int ?_ ?_, _, _, le _ _ M'.ob, rfl, _, _, ⟨_, le _ _ M'.tl, rfl⟩, atI_int ?_ ?_, ?_⟩⟩
        · omega
        · rw [vals_len]
          omega
        · omega
        · omega
        · have e1 : ((T.length : Int) - (0 + (k : Nat))).toNat = T.length - k := by omega
          have e2 : ((0 : Int) + (k : Nat)).toNat = k := by omega
          rw [e1, e2, vals_get (by omega), show (((T.length - k : Nat)) : Int) = (T.length : Int) - (k : Nat) by omega]
          exact hR
      · refine ⟨_, rfl, ?_, _, _, M'.ob, rfl, _, _, ⟨_, M'.tl, rfl⟩, atI_last hT1, hR⟩
        rw [List.length_map, List.length_range]
        exact hT1
  · exact h.elim
theorem v_Meter_told {c_Meter : Addr} {ds : List D} {m : Sto} {R : D → Sto → Prop} {RX : DX} (h : sp_Meter_told c_Meter ds m R RX) : r_Meter_told c_Meter { nx := fun _ m' => R .non m', rt := R } ⟨ds.map some ++ List.replicate (2 - ds.length) none, fun _ => RX⟩ m := by
  unfold sp_Meter_told at h
  split at h
  · rename_i a
    obtain ⟨p, q, F, A, r, T, n, M, hT, hR⟩ := h
    have hT1 := M.t1
    refine ⟨_, _, M.ob, rfl, _, _, M.tl, rfl, ?_⟩
    rw [List.length_map]
    refine ⟨⟨by decide, by decide, by omega, by omega⟩, lc_pure true ((steps T).map D.int) (fun _ _ => trivial) ?_ ?_ (fun k x y m2 hx hy le => ?_) fun s hs => hR s hs⟩
    · rw [rgL_len, List.length_map]
      unfold steps
      rw [List.length_map, List.length_range]
      omega
    · rw [rgL_len]
      exact Nat.le_of_lt (big1000 (by omega))
    · obtain ⟨hk, rfl⟩ := rgL_inv hx
      have hk' : k < T.length - 1 := by omega
      unfold steps at hy
      rw [List.getElem?_map, List.getElem?_map, List.getElem?_range hk'] at hy
      cases hy
      refine ⟨_, rfl, fun R hR => ⟨_, _, le _ _ M.ob, rfl, _, _, ⟨_, le _ _ M.tl, rfl⟩, atI_int ?_ ?_, _, _, le _ _ M.ob, rfl, _, _, ⟨_, le _ _ M.tl, rfl⟩, atI_int ?_ ?_, ?_⟩⟩
      · omega
      · omega
      · omega
      · omega
      · have e1 : ((1 : Int) + (k : Nat)).toNat = k + 1 := by omega
        have e2 : ((1 : Int) + (k : Nat) - 1).toNat = k := by omega
        rw [e1, e2]
        exact hR
  · exact h.elim
theorem v_Meter_back {c_Meter : Addr} {ds : List D} {m : Sto} {R : D → Sto → Prop} {RX : DX} (h : sp_Meter_back c_Meter ds m R RX) : r_Meter_back c_Meter { nx := fun _ m' => R .non m', rt := R } ⟨ds.map some ++ List.replicate (2 - ds.length) none, fun _ => RX⟩ m := by
  unfold sp_Meter_back at h
  split at h
  · rename_i a
    obtain ⟨p, q, F, A, r, T, n, M, hT, hR⟩ := h
    have l1 : T.dropLast.length = T.length - 1 := List.length_dropLast
    have M' := M.tally (T' := T.dropLast) (by omega)
    rw [List.map_dropLast] at M'
    have e : T.dropLast.getD (T.dropLast.length - 1) 0 = T.getD (T.length - 2) 0 := by
      rw [l1, List.getD_eq_getElem?_getD, List.getD_eq_getElem?_getD, List.getElem?_dropLast, if_pos (by omega)]
      congr 2
    rw [List.map_dropLast] at hR
    have tl' := M'.tl
    rw [List.map_dropLast] at tl'
    have hat : L2.atI (T.map D.int).dropLast (-1) = some (.int (T.getD (T.length - 2) 0)) := by
      rw [← List.map_dropLast, ← e]
      exact atI_last (by omega)
    refine ⟨_, _, M.ob, rfl, _, _, M.tl, rfl, fun c => ?_, fun c => ⟨_, _, M.ob, rfl, ⟨_, _, M.tl, rfl⟩, _, .int (T.getD (T.length - 1) 0), M.tl, ?_, _, _, M'.ob, rfl, _, _, ⟨_, tl', rfl⟩, hat, hR⟩⟩
    · have c' := of_decide_eq_true c
      rw [List.length_map] at c'
      omega
    · rw [List.length_map, List.getElem?_map, List.getElem?_eq_getElem (by omega), List.getD_eq_getElem?_getD, List.getElem?_eq_getElem (by omega)]
      rfl
  · exact h.elim
theorem v_Meter_come {c_Meter : Addr} {ds : List D} {m : Sto} {R : D → Sto → Prop} {RX : DX} (h : sp_Meter_come c_Meter ds m R RX) : r_Meter_come c_Meter { nx := fun _ m' => R .non m', rt := R } ⟨ds.map some ++ List.replicate (2 - ds.length) none, fun _ => RX⟩ m := by
  unfold sp_Meter_come at h
  split at h
  · rename_i a x
    obtain ⟨p, q, F, A, r, T, n, M, hA, hz, hT, hn, h0, hx, hR⟩ := h
    have hT1 := M.t1
    have M1 := M.most (n' := max n (T.length + 1)) (by have := M.n1; omega)
    have M2 := M1.tally (T' := T ++ [T.getD (T.length - 1) 0 + x]) (by rw [List.length_append]; omega)
    have l2 : (T ++ [T.getD (T.length - 1) 0 + x]).length = T.length + 1 := by rw [List.length_append]; rfl
    refine ⟨fun c => ?_, fun _ => ⟨_, M.ob, rfl, p, q, F, A, r, T, n, M, by decide, by omega, _, M.ob, rfl, p, q, F, A, r, T, n, M, hA, hz, by omega, by omega, fun c => ?_, fun _ => ?_⟩⟩
    · rw [decide_eq_true h0] at c
      cases c
    · have c' := of_decide_eq_true c
      omega
    · refine ⟨_, _, M1.ob, rfl, ⟨_, _, M1.tl, rfl⟩, _, _, M1.ob, rfl, _, _, ⟨_, M1.tl, rfl⟩, atI_last hT1, _, M1.tl, ?_, ?_⟩
      · rw [List.length_map]
        exact big1000 (by omega)
      · have e : T.map D.int ++ [D.int (T.getD (T.length - 1) 0 + x)] = (T ++ [T.getD (T.length - 1) 0 + x]).map D.int := by rw [List.map_append]; rfl
        rw [e]
        refine ⟨_, M2.ob, rfl, p, q, F, A, r, _, _, M2, hA, hz, by omega, by omega, ?_⟩
        rw [l2, up_over M.pq.symm, show max (max n (T.length + 1)) (T.length + 1 + 1) = max n (T.length + 2) by omega]
        exact hR
  · exact h.elim
theorem rep_one {t : Int} {x : D} : (List.replicate t.toNat [x]).flatten = List.replicate t.toNat x := by
  generalize t.toNat = k
  induction k with
  | zero => rfl
  | succ k ih => rw [List.replicate_succ, List.flatten_cons, ih, List.replicate_succ]; rfl
theorem v_Meter_rest {c_Meter : Addr} {ds : List D} {m : Sto} {R : D → Sto → Prop} {RX : DX} (h : sp_Meter_rest c_Meter ds m R RX) : r_Meter_rest c_Meter { nx := fun _ m' => R .non m', rt := R } ⟨ds.map some ++ List.replicate (2 - ds.length) none, fun _ => RX⟩ m := by
  unfold sp_Meter_rest at h
  split at h
  · rename_i a t
    obtain ⟨p, q, F, A, r, T, n, M, hA, hz, h0, hT, hn, hR⟩ := h
    have hT1 := M.t1
    have l2 : (T ++ List.replicate t.toNat (T.getD (T.length - 1) 0)).length = T.length + t.toNat := by rw [List.length_append, List.length_replicate]
    have M2 := M.tally (T' := T ++ List.replicate t.toNat (T.getD (T.length - 1) 0)) (by omega)
    have hs : (1 : Nat) * t.toNat ≤ sizeLine := Nat.le_of_lt (big1000 (by omega))
    refine ⟨_, M.ob, rfl, p, q, F, A, r, T, n, M, h0, hT, _, _, M.ob, rfl, ⟨_, _, M.tl, rfl⟩, _, _, M.ob, rfl, _, _, ⟨_, M.tl, rfl⟩, atI_last hT1, (by show 1 ≤ sizeLine; decide), _, rfl, by omega, by omega, hs, _, _, M.tl, rfl, ?_, ?_⟩
    · rw [List.length_map, rep_one, List.length_replicate]
      exact Nat.le_of_lt (big1000 (by omega))
    · have e : T.map D.int ++ (List.replicate t.toNat [D.int (T.getD (T.length - 1) 0)]).flatten = (T ++ List.replicate t.toNat (T.getD (T.length - 1) 0)).map D.int := by rw [rep_one, List.map_append, List.map_replicate]
      rw [e]
      refine ⟨_, M2.ob, rfl, p, q, F, A, r, _, _, M2, hA, hz, by omega, by omega, ?_⟩
      rw [l2]
      exact hR
  · exact h.elim
end Mt

/-! Plain facts: drawn curves rise; tallies that keep a curve. -/
namespace Pn
open PySem PySem.Spec PyProof.Rows L2 Dl Pg
theorem gd {l : List Int} {i : Nat} (h : i < l.length) : l[i]? = some (l.getD i 0) := by
  rw [List.getD_eq_getElem?_getD, List.getElem?_eq_getElem h]
  rfl
theorem val_lo {F A : List Int} {r : Int} {t : Nat} (h : t < F.length) : val F A r (t : Nat) = F.getD t 0 := by
  unfold val
  rw [if_pos (by omega)]
  rfl
theorem val_hi {F A : List Int} {r : Int} {t : Nat} (h : F.length ≤ t) : val F A r (t : Nat) = A.getD ((t - F.length) % A.length) 0 + r * (((t - F.length) / A.length : Nat)) := by
  unfold val
  rw [if_neg (by omega)]
  have e : (t : Int) - F.length = ((t - F.length : Nat) : Int) := by omega
  rw [e]
  rfl
theorem Drawn.geL {F A : List Int} {r : Int} (h : Drawn F A r) {t : Nat} (ht : t < F.length) : (F ++ A)[t]? = some (F.getD t 0) := by rw [List.getElem?_append_left ht, gd ht]
theorem Drawn.geR {F A : List Int} {r : Int} (h : Drawn F A r) {t : Nat} (ht : t < A.length) : (F ++ A)[F.length + t]? = some (A.getD t 0) := by rw [List.getElem?_append_right (by omega), Nat.add_sub_cancel_left, gd ht]
theorem Drawn.val_step {F A : List Int} {r : Int} (h : Drawn F A r) (t : Nat) : val F A r (t : Nat) ≤ val F A r ((t + 1 : Nat)) := by
  have hA : 0 < A.length := List.length_pos_iff.mpr h.a0
  by_cases c1 : t + 1 < F.length
  · rw [val_lo c1, val_lo (by omega)]
    exact h.mono t _ _ (h.geL (by omega)) (h.geL c1)
  · by_cases c2 : t < F.length
    · have e : t + 1 = F.length := by omega
      rw [val_lo c2, val_hi (by omega), e, Nat.sub_self, Nat.zero_mod, Nat.zero_div]
      have := h.mono t _ _ (h.geL c2) (by rw [e]; exact h.geR (t := 0) hA)
      simpa using this
    · rw [val_hi (by omega), val_hi (by omega)]
      have e : t + 1 - F.length = (t - F.length) + 1 := by omega
      rw [e]
      generalize t - F.length = d
      have hd := Nat.div_add_mod d A.length
      have hm := Nat.mod_lt d hA
      by_cases c3 : d % A.length + 1 < A.length
      · have e1 : (d + 1) % A.length = d % A.length + 1 := by
          rw [Nat.add_mod_eq_ite, Nat.mod_eq_of_lt (a := 1) (by omega), if_neg (by omega)]
        have e2 : (d + 1) / A.length = d / A.length := by
          rw [Nat.add_div hA, Nat.div_eq_of_lt (a := 1) (by omega), Nat.mod_eq_of_lt (a := 1) (by omega), if_neg (by omega)]
          rfl
        rw [e1, e2]
        have := h.mono (F.length + d % A.length) _ _ (h.geR hm) (h.geR c3)
        omega
      · have e0 : d % A.length = A.length - 1 := by omega
        have e3 : d + 1 = A.length * (d / A.length + 1) := by rw [Nat.mul_add]; omega
        have e1 : (d + 1) % A.length = 0 := by rw [e3]; exact Nat.mul_mod_right _ _
        have e2 : (d + 1) / A.length = d / A.length + 1 := by rw [e3]; exact Nat.mul_div_cancel_left _ hA
        rw [e1, e2, e0]
        have := h.r1 _ (gd hA) _ (gd (i := A.length - 1) (by omega))
        rw [show (((d / A.length + 1 : Nat)) : Int) = ((d / A.length : Nat) : Int) + 1 by omega, Int.mul_add, Int.mul_one]
        omega
theorem Drawn.val_mono {F A : List Int} {r : Int} (h : Drawn F A r) : ∀ (k t : Nat), val F A r (t : Nat) ≤ val F A r ((t + k : Nat))
  | 0, t => Int.le_refl _
  | k + 1, t => Int.le_trans (Drawn.val_mono h k t) (h.val_step (t + k))
theorem Drawn.val0 {F A : List Int} {r : Int} (h : Drawn F A r) : val F A r 0 = 0 := by
  have hA : 0 < A.length := List.length_pos_iff.mpr h.a0
  have z := h.zero
  show val F A r ((0 : Nat) : Int) = 0
  by_cases c : 0 < F.length
  · rw [val_lo c]
    rw [h.geL c] at z
    exact Option.some.inj z
  · rw [val_hi (by omega), Nat.zero_sub, Nat.zero_mod, Nat.zero_div]
    have e : F.length = 0 := by omega
    have := h.geR (t := 0) hA
    rw [e, Nat.zero_add, z] at this
    have := Option.some.inj this
    rw [← this]
    show (0 : Int) + r * ((0 : Nat) : Int) = 0
    rw [show ((0 : Nat) : Int) = 0 from rfl, Int.mul_zero]
    rfl
theorem Drawn.el {F A : List Int} {r : Int} (h : Drawn F A r) {i : Nat} (hi : i < A.length) : A.getD i 0 ≤ 1000000 := h.sm _ (List.mem_append_right _ (List.mem_of_getElem? (gd hi)))
theorem Drawn.val1 {F A : List Int} {r : Int} (h : Drawn F A r) : val F A r ((1 : Nat)) ≤ 2000000 := by
  have hA : 0 < A.length := List.length_pos_iff.mpr h.a0
  by_cases c : 1 < F.length
  · rw [val_lo c]
    have := h.sm _ (List.mem_append_left _ (List.mem_of_getElem? (gd c)))
    omega
  · rw [val_hi (by omega)]
    have a := h.el (Nat.mod_lt (1 - F.length) hA)
    have b : (1 - F.length) / A.length ≤ 1 := Nat.le_trans (Nat.div_le_self _ _) (by omega)
    have r0 := h.r0
    have r2 := h.r2
    rcases Nat.le_one_iff_eq_zero_or_eq_one.mp b with e | e <;> rw [e]
    · rw [show ((0 : Nat) : Int) = 0 from rfl, Int.mul_zero]
      omega
    · rw [show ((1 : Nat) : Int) = 1 from rfl, Int.mul_one]
      omega
end Pn
namespace Mt
open PySem PySem.Spec PyProof.Rows L2 Dl Pg Pn
/-- tallies that keep a curve -/
structure Keeps (F A : List Int) (r : Int) (T : List Int) : Prop where
  len : 0 < T.length
  zero : T.getD 0 0 = 0
  up : ∀ i, i + 1 < T.length → T.getD i 0 ≤ T.getD (i + 1) 0
  kp : ∀ i j, i ≤ j → j < T.length → T.getD j 0 - T.getD i 0 ≤ val F A r ((j - i : Nat))
theorem keeps_zero {F A : List Int} {r : Int} (h : Drawn F A r) : Keeps F A r [0] := by
  refine ⟨by decide, rfl, fun i hi => absurd hi (by simp), fun i j hij hj => ?_⟩
  have e : j = 0 := by simpa using hj
  subst e
  have e : i = 0 := by omega
  subst e
  have := h.val0
  show (0 : Int) - 0 ≤ val F A r ((0 : Nat) : Int)
  rw [show ((0 : Nat) : Int) = 0 from rfl, this]
  decide
theorem leave_of {F A : List Int} {r : Int} {T : List Int} (h : 0 < T.length) : ∃ s, s < T.length ∧ leaveI F A r T = val F A r ((T.length - s : Nat)) + T.getD s 0 - T.getD (T.length - 1) 0 := by
  have hm := lmin_mem (l := (List.range T.length).map fun s => val F A r ((T.length : Int) - (s : Nat)) + T.getD s 0) (by rw [List.length_map, List.length_range]; exact h)
  obtain ⟨s, hs, e⟩ := List.mem_map.mp hm
  have hs' := List.mem_range.mp hs
  refine ⟨s, hs', ?_⟩
  unfold leaveI
  rw [← e, show ((T.length - s : Nat) : Int) = (T.length : Int) - (s : Nat) by omega]
theorem leave_le {F A : List Int} {r : Int} {T : List Int} {s : Nat} (h : s < T.length) : leaveI F A r T ≤ val F A r ((T.length - s : Nat)) + T.getD s 0 - T.getD (T.length - 1) 0 := by
  have hm := lmin_le (l := (List.range T.length).map fun s => val F A r ((T.length : Int) - (s : Nat)) + T.getD s 0) (List.mem_map.mpr ⟨s, List.mem_range.mpr h, rfl⟩)
  unfold leaveI
  rw [show ((T.length - s : Nat) : Int) = (T.length : Int) - (s : Nat) by omega]
  omega
theorem Keeps.leave_nn {F A : List Int} {r : Int} {T : List Int} (h : Keeps F A r T) (d : Drawn F A r) : 0 ≤ leaveI F A r T := by
  obtain ⟨s, hs, e⟩ := leave_of (F := F) (A := A) (r := r) h.len
  have h1 := h.kp s (T.length - 1) (by omega) (by have := h.len; omega)
  have h2 := d.val_mono 1 (T.length - 1 - s)
  rw [show T.length - 1 - s + 1 = T.length - s by omega] at h2
  rw [e]
  omega
theorem Keeps.leave_sm {F A : List Int} {r : Int} {T : List Int} (h : Keeps F A r T) (d : Drawn F A r) : leaveI F A r T ≤ 2000000 := by
  have hl := h.len
  have h1 := leave_le (F := F) (A := A) (r := r) (T := T) (s := T.length - 1) (by omega)
  rw [show T.length - (T.length - 1) = 1 by omega] at h1
  have := d.val1
  omega
theorem getD_app1 {T : List Int} {x : Int} {i : Nat} (h : i < T.length) : (T ++ [x]).getD i 0 = T.getD i 0 := by
  rw [List.getD_eq_getElem?_getD, List.getElem?_append_left h, List.getD_eq_getElem?_getD]
theorem getD_app2 {T : List Int} {x : Int} : (T ++ [x]).getD T.length 0 = x := by
  rw [List.getD_eq_getElem?_getD, List.getElem?_append_right (Nat.le_refl _), Nat.sub_self]
  rfl
theorem Keeps.app {F A : List Int} {r : Int} {T : List Int} {x : Int} (h : Keeps F A r T) (d : Drawn F A r) (h0 : 0 ≤ x) (h1 : x ≤ leaveI F A r T) : Keeps F A r (T ++ [T.getD (T.length - 1) 0 + x]) := by
  have hl := h.len
  have l2 : (T ++ [T.getD (T.length - 1) 0 + x]).length = T.length + 1 := by rw [List.length_append]; rfl
  refine ⟨by omega, by rw [getD_app1 hl]; exact h.zero, fun i hi => ?_, fun i j hij hj => ?_⟩
  · rw [l2] at hi
    by_cases c : i + 1 < T.length
    · rw [getD_app1 c, getD_app1 (by omega)]
      exact h.up i c
    · have e : i + 1 = T.length := by omega
      rw [e, getD_app2, getD_app1 (by omega), show i = T.length - 1 by omega]
      omega
  · rw [l2] at hj
    by_cases c : j < T.length
    · rw [getD_app1 c, getD_app1 (by omega)]
      exact h.kp i j hij c
    · have e : j = T.length := by omega
      subst e
      rw [getD_app2]
      by_cases c2 : i < T.length
      · rw [getD_app1 c2]
        have := leave_le (F := F) (A := A) (r := r) c2
        omega
      · have e : i = T.length := by omega
        subst e
        rw [getD_app2, Nat.sub_self]
        have := d.val0
        rw [show ((0 : Nat) : Int) = 0 from rfl, this]
        omega
theorem Keeps.rest {F A : List Int} {r : Int} (d : Drawn F A r) : ∀ (k : Nat) {T : List Int}, Keeps F A r T → Keeps F A r (T ++ List.replicate k (T.getD (T.length - 1) 0))
  | 0, T, h => by rw [List.replicate_zero, List.append_nil]; exact h
  | k + 1, T, h => by
    have h1 := h.app d (x := 0) (Int.le_refl _) (h.leave_nn d)
    rw [Int.add_zero] at h1
    have h2 := Keeps.rest d k h1
    rw [List.length_append, show T.length + [T.getD (T.length - 1) 0].length - 1 = T.length from rfl, getD_app2, List.append_assoc] at h2
    exact h2
theorem getD_drop {T : List Int} {i : Nat} (h : i < T.length - 1) : T.dropLast.getD i 0 = T.getD i 0 := by
  rw [List.getD_eq_getElem?_getD, List.getElem?_dropLast, if_pos h, List.getD_eq_getElem?_getD]
theorem Keeps.back {F A : List Int} {r : Int} {T : List Int} (h : Keeps F A r T) (h2 : 2 ≤ T.length) : Keeps F A r T.dropLast := by
  have l1 : T.dropLast.length = T.length - 1 := List.length_dropLast
  refine ⟨by omega, by rw [getD_drop (by omega)]; exact h.zero, fun i hi => ?_, fun i j hij hj => ?_⟩
  · rw [getD_drop (by omega), getD_drop (by omega)]
    exact h.up i (by omega)
  · rw [getD_drop (by omega), getD_drop (by omega)]
    exact h.kp i j hij (by omega)
theorem Keeps.steps_sm {F A : List Int} {r : Int} {T : List Int} (h : Keeps F A r T) (d : Drawn F A r) : ∀ x ∈ steps T, 0 ≤ x ∧ x ≤ 2000000 := by
  intro x hx
  unfold steps at hx
  obtain ⟨i, hi, rfl⟩ := List.mem_map.mp hx
  have hi' := List.mem_range.mp hi
  have h1 := h.up i (by omega)
  have h2 := h.kp i (i + 1) (by omega) (by omega)
  rw [show i + 1 - i = 1 by omega] at h2
  have := d.val1
  omega
end Mt

/-! A curve rises where its numbers do, whatever its rise. -/
namespace Pn
open PySem PySem.Spec PyProof.Rows L2 Dl Pg
theorem geL_ {F A : List Int} {t : Nat} (ht : t < F.length) : (F ++ A)[t]? = some (F.getD t 0) := by rw [List.getElem?_append_left ht, gd ht]
theorem geR_ {F A : List Int} {t : Nat} (ht : t < A.length) : (F ++ A)[F.length + t]? = some (A.getD t 0) := by rw [List.getElem?_append_right (by omega), Nat.add_sub_cancel_left, gd ht]
theorem step_of {F A : List Int} {r : Int} (a0 : A ≠ []) (mono : ∀ i x y, (F ++ A)[i]? = some x → (F ++ A)[i + 1]? = some y → x ≤ y) (r1 : ∀ x, A[0]? = some x → ∀ y, A[A.length - 1]? = some y → y ≤ x + r) (t : Nat) : val F A r (t : Nat) ≤ val F A r ((t + 1 : Nat)) := by
  have hA : 0 < A.length := List.length_pos_iff.mpr a0
  by_cases c1 : t + 1 < F.length
  · rw [val_lo c1, val_lo (by omega)]
    exact mono t _ _ (geL_ (by omega)) (geL_ c1)
  · by_cases c2 : t < F.length
    · have e : t + 1 = F.length := by omega
      rw [val_lo c2, val_hi (by omega), e, Nat.sub_self, Nat.zero_mod, Nat.zero_div]
      have := mono t _ _ (geL_ c2) (by rw [e]; exact geR_ (t := 0) hA)
      simpa using this
    · rw [val_hi (by omega), val_hi (by omega)]
      have e : t + 1 - F.length = (t - F.length) + 1 := by omega
      rw [e]
      generalize t - F.length = d
      have hd := Nat.div_add_mod d A.length
      have hm := Nat.mod_lt d hA
      by_cases c3 : d % A.length + 1 < A.length
      · have e1 : (d + 1) % A.length = d % A.length + 1 := by
          rw [Nat.add_mod_eq_ite, Nat.mod_eq_of_lt (a := 1) (by omega), if_neg (by omega)]
        have e2 : (d + 1) / A.length = d / A.length := by
          rw [Nat.add_div hA, Nat.div_eq_of_lt (a := 1) (by omega), Nat.mod_eq_of_lt (a := 1) (by omega), if_neg (by omega)]
          rfl
        rw [e1, e2]
        have := mono (F.length + d % A.length) _ _ (geR_ hm) (geR_ c3)
        omega
      · have e0 : d % A.length = A.length - 1 := by omega
        have e3 : d + 1 = A.length * (d / A.length + 1) := by rw [Nat.mul_add]; omega
        have e1 : (d + 1) % A.length = 0 := by rw [e3]; exact Nat.mul_mod_right _ _
        have e2 : (d + 1) / A.length = d / A.length + 1 := by rw [e3]; exact Nat.mul_div_cancel_left _ hA
        rw [e1, e2, e0]
        have := r1 _ (gd hA) _ (gd (i := A.length - 1) (by omega))
        rw [show (((d / A.length + 1 : Nat)) : Int) = ((d / A.length : Nat) : Int) + 1 by omega, Int.mul_add, Int.mul_one]
        omega
end Pn

/-! What stays as it was, but at some places. -/
namespace Dl
def Kp (ws : List PySem.Addr) (m m' : Sto) : Prop := ∀ x o, x ∉ ws → m x = some o → m' x = some o
theorem Kp.refl {ws : List PySem.Addr} {m : Sto} : Kp ws m m := fun _ _ _ h => h
theorem Kp.trans {ws : List PySem.Addr} {m m1 m2 : Sto} (a : Kp ws m m1) (b : Kp ws m1 m2) : Kp ws m m2 := fun x o h k => b x o h (a x o h k)
theorem Kp.up {ws : List PySem.Addr} {m m1 : Sto} {x : PySem.Addr} {o : MO} (a : Kp ws m m1) (h : x ∈ ws) : Kp ws m (up m1 x o) := fun y u hy k => by
  rw [up_ne fun z => hy (by rw [z]; exact h)]
  exact a y u hy k
theorem Kp.new {ws : List PySem.Addr} {m m1 : Sto} {x : PySem.Addr} {o : MO} (a : Kp ws m m1) (h : m1 x = none) : Kp ws m (Dl.up m1 x o) := fun y u hy k => by
  have k1 := a y u hy k
  rw [up_ne fun z => by rw [z, h] at k1; cases k1]
  exact k1
theorem Kp.del {ws : List PySem.Addr} {m m1 : Sto} {x : PySem.Addr} (a : Kp ws m m1) (h : m x = none) : Kp ws m (Dl.del m1 x) := fun y u hy k => by
  rw [del_ne fun z => by rw [z, h] at k; cases k]
  exact a y u hy k
theorem Kp.mono {ws vs : List PySem.Addr} {m m1 : Sto} (a : Kp ws m m1) (h : ∀ x ∈ ws, x ∈ vs) : Kp vs m m1 := fun y u hy k => a y u (fun z => hy (h y z)) k
end Dl

namespace K56
open PySem PySem.Spec PyProof.Rows L2 Dl 
def topS (i : Nat) : Stmt := PySem.Challenge.pw_arrivalcurves_k56_runs.main.body.getD i (.Pass ⟨0, 0, 0, 0⟩)
abbrev s_is_number : Stmt := topS 2
theorem sc_is_number : FnScope ["thing"] ["thing"] (defScope s_is_number) := ⟨rfl, rfl, rfl, by decide +kernel, rfl, by decide +kernel, by decide +kernel⟩
abbrev s_value : Stmt := topS 3
theorem sc_value : FnScope ["f", "t", "first", "again", "rise", "on"] ["f", "t"] (defScope s_value) := ⟨rfl, rfl, rfl, by decide +kernel, rfl, by decide +kernel, by decide +kernel⟩
abbrev s_Meter_init : Stmt := inClass (topS 20) 0
theorem sc_Meter_init : FnScope ["self", "f"] ["self", "f"] (defScope s_Meter_init) := ⟨rfl, rfl, rfl, by decide +kernel, rfl, by decide +kernel, by decide +kernel⟩
abbrev s_Meter_need_room : Stmt := inClass (topS 20) 1
theorem sc_Meter_need_room : FnScope ["self", "turns"] ["self", "turns"] (defScope s_Meter_need_room) := ⟨rfl, rfl, rfl, by decide +kernel, rfl, by decide +kernel, by decide +kernel⟩
abbrev s_Meter_leave : Stmt := inClass (topS 20) 2
theorem sc_Meter_leave : FnScope ["self", "long", "s"] ["self"] (defScope s_Meter_leave) := ⟨rfl, rfl, rfl, by decide +kernel, rfl, by decide +kernel, by decide +kernel⟩
abbrev s_Meter_told : Stmt := inClass (topS 20) 6
theorem sc_Meter_told : FnScope ["self", "t"] ["self"] (defScope s_Meter_told) := ⟨rfl, rfl, rfl, by decide +kernel, rfl, by decide +kernel, by decide +kernel⟩
abbrev s_Run_init : Stmt := inClass (topS 21) 0
theorem sc_Run_init : FnScope ["self", "f", "g"] ["self", "f", "g"] (defScope s_Run_init) := ⟨rfl, rfl, rfl, by decide +kernel, rfl, by decide +kernel, by decide +kernel⟩
abbrev s_Run_leave : Stmt := inClass (topS 21) 1
theorem sc_Run_leave : FnScope ["self"] ["self"] (defScope s_Run_leave) := ⟨rfl, rfl, rfl, by decide +kernel, rfl, by decide +kernel, by decide +kernel⟩
abbrev s_Run_held : Stmt := inClass (topS 21) 2
theorem sc_Run_held : FnScope ["self"] ["self"] (defScope s_Run_held) := ⟨rfl, rfl, rfl, by decide +kernel, rfl, by decide +kernel, by decide +kernel⟩
abbrev s_Run_owed : Stmt := inClass (topS 21) 3
theorem sc_Run_owed : FnScope ["self", "come", "tallies", "last", "served", "s"] ["self", "come"] (defScope s_Run_owed) := ⟨rfl, rfl, rfl, by decide +kernel, rfl, by decide +kernel, by decide +kernel⟩
abbrev s_Run_turn : Stmt := inClass (topS 21) 4
theorem sc_Run_turn : FnScope ["self", "come", "go", "must"] ["self", "come", "go"] (defScope s_Run_turn) := ⟨rfl, rfl, rfl, by decide +kernel, rfl, by decide +kernel, by decide +kernel⟩
abbrev s_Run_told : Stmt := inClass (topS 21) 5
theorem sc_Run_told : FnScope ["self", "t"] ["self"] (defScope s_Run_told) := ⟨rfl, rfl, rfl, by decide +kernel, rfl, by decide +kernel, by decide +kernel⟩
abbrev s_law_pen : Stmt := topS 23
theorem sc_law_pen : FnScope ["script"] ["script"] (defScope s_law_pen) := ⟨rfl, rfl, rfl, by decide +kernel, rfl, by decide +kernel, by decide +kernel⟩
abbrev s_law_take : Stmt := topS 24
theorem sc_law_take : FnScope ["pen", "many", "digit", "at", "cell", "primes", "number"] ["pen", "many"] (defScope s_law_take) := ⟨rfl, rfl, rfl, by decide +kernel, rfl, by decide +kernel, by decide +kernel⟩
abbrev s_law_at : Stmt := topS 25
theorem sc_law_at : FnScope ["f", "t", "first", "again", "rise", "on"] ["f", "t"] (defScope s_law_at) := ⟨rfl, rfl, rfl, by decide +kernel, rfl, by decide +kernel, by decide +kernel⟩
abbrev s_law_curve : Stmt := topS 26
theorem sc_law_curve : FnScope ["pen", "way", "wide", "quick", "early", "long", "row", "t", "step"] ["pen"] (defScope s_law_curve) := ⟨rfl, rfl, rfl, by decide +kernel, rfl, by decide +kernel, by decide +kernel⟩
abbrev s_law_server : Stmt := topS 27
theorem sc_law_server : FnScope ["pen", "f", "slow", "first", "again", "rise", "need", "more"] ["pen", "f", "slow"] (defScope s_law_server) := ⟨rfl, rfl, rfl, by decide +kernel, rfl, by decide +kernel, by decide +kernel⟩
abbrev s_law_word : Stmt := topS 28
theorem sc_law_word : FnScope ["asked", "caught", "found", "e", "kinds"] ["asked"] (defScope s_law_word) := ⟨rfl, rfl, rfl, by decide +kernel, rfl, by decide +kernel, by decide +kernel⟩
abbrev s_law_leave : Stmt := topS 29
theorem sc_law_leave : FnScope ["f", "came", "here", "s"] ["f", "came"] (defScope s_law_leave) := ⟨rfl, rfl, rfl, by decide +kernel, rfl, by decide +kernel, by decide +kernel⟩
abbrev s_law_owed : Stmt := topS 30
theorem sc_law_owed : FnScope ["g", "came", "gone", "more", "some", "here", "s"] ["g", "came", "gone", "more"] (defScope s_law_owed) := ⟨rfl, rfl, rfl, by decide +kernel, rfl, by decide +kernel, by decide +kernel⟩
abbrev s_law_odd : Stmt := topS 31
theorem sc_law_odd : FnScope ["pen", "some"] ["pen"] (defScope s_law_odd) := ⟨rfl, rfl, rfl, by decide +kernel, rfl, by decide +kernel, by decide +kernel⟩
abbrev s_law_asked : Stmt := topS 32
theorem sc_law_asked : FnScope ["pen", "f", "g", "came", "gone", "way", "part", "far", "odd", "most", "more", "must", "full", "go"] ["pen", "f", "g", "came", "gone"] (defScope s_law_asked) := ⟨rfl, rfl, rfl, by decide +kernel, rfl, by decide +kernel, by decide +kernel⟩
abbrev s_law_stands : Stmt := topS 33
theorem sc_law_stands : FnScope ["run", "f", "g", "came", "gone", "due", "t", "turn", "found"] ["run", "f", "g", "came", "gone"] (defScope s_law_stands) := ⟨rfl, rfl, rfl, by decide +kernel, rfl, by decide +kernel, by decide +kernel⟩
abbrev s_law_owes : Stmt := topS 34
theorem sc_law_owes : FnScope ["run", "f", "g", "came", "gone", "come", "owed"] ["run", "f", "g", "came", "gone", "come"] (defScope s_law_owes) := ⟨rfl, rfl, rfl, by decide +kernel, rfl, by decide +kernel, by decide +kernel⟩
abbrev s_law_done : Stmt := topS 35
theorem sc_law_done : FnScope ["pen", "run", "f", "g", "came", "gone", "ask", "looked", "come", "go", "due", "other", "found"] ["pen", "run", "f", "g", "came", "gone"] (defScope s_law_done) := ⟨rfl, rfl, rfl, by decide +kernel, rfl, by decide +kernel, by decide +kernel⟩
abbrev s_law_filled : Stmt := topS 36
theorem sc_law_filled : FnScope ["run", "f", "g", "came", "gone", "odd", "early", "here", "must", "s", "most", "words", "come", "go"] ["run", "f", "g", "came", "gone", "odd"] (defScope s_law_filled) := ⟨rfl, rfl, rfl, by decide +kernel, rfl, by decide +kernel, by decide +kernel⟩
abbrev s_law : Stmt := topS 37
theorem sc_law : FnScope ["script", "pen", "fill", "f", "g", "run", "twin", "came", "gone", "turn"] ["script"] (defScope s_law) := ⟨rfl, rfl, rfl, by decide +kernel, rfl, by decide +kernel, by decide +kernel⟩
structure Ad where
  f_is_number : Addr
  d_is_number : FuncData
  f_value : Addr
  d_value : FuncData
  f_Meter_init : Addr
  d_Meter_init : FuncData
  f_Meter_need_room : Addr
  d_Meter_need_room : FuncData
  f_Meter_leave : Addr
  d_Meter_leave : FuncData
  f_Meter_told : Addr
  d_Meter_told : FuncData
  f_Run_init : Addr
  d_Run_init : FuncData
  f_Run_leave : Addr
  d_Run_leave : FuncData
  f_Run_held : Addr
  d_Run_held : FuncData
  f_Run_owed : Addr
  d_Run_owed : FuncData
  f_Run_turn : Addr
  d_Run_turn : FuncData
  f_Run_told : Addr
  d_Run_told : FuncData
  f_law_pen : Addr
  d_law_pen : FuncData
  f_law_take : Addr
  d_law_take : FuncData
  f_law_at : Addr
  d_law_at : FuncData
  f_law_curve : Addr
  d_law_curve : FuncData
  f_law_server : Addr
  d_law_server : FuncData
  f_law_word : Addr
  d_law_word : FuncData
  f_law_leave : Addr
  d_law_leave : FuncData
  f_law_owed : Addr
  d_law_owed : FuncData
  f_law_odd : Addr
  d_law_odd : FuncData
  f_law_asked : Addr
  d_law_asked : FuncData
  f_law_stands : Addr
  d_law_stands : FuncData
  f_law_owes : Addr
  d_law_owes : FuncData
  f_law_done : Addr
  d_law_done : FuncData
  f_law_filled : Addr
  d_law_filled : FuncData
  f_law : Addr
  d_law : FuncData
  c_Meter : Addr
  c_Run : Addr
  c_CurveError : Addr
  c_NoCurve : Addr
  c_TooLong : Addr
  c_Endless : Addr
  c_NoStream : Addr
  c_NoNet : Addr
  c_Ring : Addr
  c_TooMuch : Addr
  c_TooLittle : Addr
  c_NoBack : Addr
  c_NoText : Addr
  c_NoRow : Addr
  c_NoName : Addr
  p_law_owes : Addr
  q_law_owes : Addr
  p_law_done : Addr
  q_law_done : Addr
  p_law_filled : Addr
  q_law_filled : Addr
structure Tx (K : PySem.W.Frag) (mg : Str → Option Value) (A : Ad) : Prop where
  F_is_number : Fun K "is_number" "is_number" s_is_number A.f_is_number A.d_is_number
  b_is_number : Binds K A.d_is_number ["thing"] []
  g_is_number : mg "is_number" = some (.ref A.f_is_number)
  F_value : Fun K "value" "value" s_value A.f_value A.d_value
  b_value : Binds K A.d_value ["f", "t"] []
  g_value : mg "value" = some (.ref A.f_value)
  F_Meter_init : Fun K "__init__" "Meter.__init__" s_Meter_init A.f_Meter_init A.d_Meter_init
  b_Meter_init : Binds K A.d_Meter_init ["self", "f"] []
  k_Meter : Mk K A.c_Meter A.f_Meter_init
  F_Meter_need_room : Fun K "need_room" "Meter.need_room" s_Meter_need_room A.f_Meter_need_room A.d_Meter_need_room
  b_Meter_need_room : Binds K A.d_Meter_need_room ["self", "turns"] []
  m_Meter_need_room : Meth K A.c_Meter "need_room" A.f_Meter_need_room
  F_Meter_leave : Fun K "leave" "Meter.leave" s_Meter_leave A.f_Meter_leave A.d_Meter_leave
  b_Meter_leave : Binds K A.d_Meter_leave ["self"] []
  m_Meter_leave : Meth K A.c_Meter "leave" A.f_Meter_leave
  F_Meter_told : Fun K "told" "Meter.told" s_Meter_told A.f_Meter_told A.d_Meter_told
  b_Meter_told : Binds K A.d_Meter_told ["self"] []
  m_Meter_told : Meth K A.c_Meter "told" A.f_Meter_told
  F_Run_init : Fun K "__init__" "Run.__init__" s_Run_init A.f_Run_init A.d_Run_init
  b_Run_init : Binds K A.d_Run_init ["self", "f", "g"] []
  k_Run : Mk K A.c_Run A.f_Run_init
  F_Run_leave : Fun K "leave" "Run.leave" s_Run_leave A.f_Run_leave A.d_Run_leave
  b_Run_leave : Binds K A.d_Run_leave ["self"] []
  m_Run_leave : Meth K A.c_Run "leave" A.f_Run_leave
  F_Run_held : Fun K "held" "Run.held" s_Run_held A.f_Run_held A.d_Run_held
  b_Run_held : Binds K A.d_Run_held ["self"] []
  m_Run_held : Meth K A.c_Run "held" A.f_Run_held
  F_Run_owed : Fun K "owed" "Run.owed" s_Run_owed A.f_Run_owed A.d_Run_owed
  b_Run_owed : Binds K A.d_Run_owed ["self", "come"] []
  m_Run_owed : Meth K A.c_Run "owed" A.f_Run_owed
  F_Run_turn : Fun K "turn" "Run.turn" s_Run_turn A.f_Run_turn A.d_Run_turn
  b_Run_turn : Binds K A.d_Run_turn ["self", "come", "go"] []
  m_Run_turn : Meth K A.c_Run "turn" A.f_Run_turn
  F_Run_told : Fun K "told" "Run.told" s_Run_told A.f_Run_told A.d_Run_told
  b_Run_told : Binds K A.d_Run_told ["self"] []
  m_Run_told : Meth K A.c_Run "told" A.f_Run_told
  F_law_pen : Fun K "_law_pen" "_law_pen" s_law_pen A.f_law_pen A.d_law_pen
  b_law_pen : Binds K A.d_law_pen ["script"] []
  g_law_pen : mg "_law_pen" = some (.ref A.f_law_pen)
  F_law_take : Fun K "_law_take" "_law_take" s_law_take A.f_law_take A.d_law_take
  b_law_take : Binds K A.d_law_take ["pen", "many"] []
  g_law_take : mg "_law_take" = some (.ref A.f_law_take)
  F_law_at : Fun K "_law_at" "_law_at" s_law_at A.f_law_at A.d_law_at
  b_law_at : Binds K A.d_law_at ["f", "t"] []
  g_law_at : mg "_law_at" = some (.ref A.f_law_at)
  F_law_curve : Fun K "_law_curve" "_law_curve" s_law_curve A.f_law_curve A.d_law_curve
  b_law_curve : Binds K A.d_law_curve ["pen"] []
  g_law_curve : mg "_law_curve" = some (.ref A.f_law_curve)
  F_law_server : Fun K "_law_server" "_law_server" s_law_server A.f_law_server A.d_law_server
  b_law_server : Binds K A.d_law_server ["pen", "f", "slow"] []
  g_law_server : mg "_law_server" = some (.ref A.f_law_server)
  F_law_word : Fun K "_law_word" "_law_word" s_law_word A.f_law_word A.d_law_word
  b_law_word : Binds K A.d_law_word ["asked"] []
  g_law_word : mg "_law_word" = some (.ref A.f_law_word)
  F_law_leave : Fun K "_law_leave" "_law_leave" s_law_leave A.f_law_leave A.d_law_leave
  b_law_leave : Binds K A.d_law_leave ["f", "came"] []
  g_law_leave : mg "_law_leave" = some (.ref A.f_law_leave)
  F_law_owed : Fun K "_law_owed" "_law_owed" s_law_owed A.f_law_owed A.d_law_owed
  b_law_owed : Binds K A.d_law_owed ["g", "came", "gone", "more"] []
  g_law_owed : mg "_law_owed" = some (.ref A.f_law_owed)
  F_law_odd : Fun K "_law_odd" "_law_odd" s_law_odd A.f_law_odd A.d_law_odd
  b_law_odd : Binds K A.d_law_odd ["pen"] []
  g_law_odd : mg "_law_odd" = some (.ref A.f_law_odd)
  F_law_asked : Fun K "_law_asked" "_law_asked" s_law_asked A.f_law_asked A.d_law_asked
  b_law_asked : Binds K A.d_law_asked ["pen", "f", "g", "came", "gone"] []
  g_law_asked : mg "_law_asked" = some (.ref A.f_law_asked)
  F_law_stands : Fun K "_law_stands" "_law_stands" s_law_stands A.f_law_stands A.d_law_stands
  b_law_stands : Binds K A.d_law_stands ["run", "f", "g", "came", "gone"] []
  g_law_stands : mg "_law_stands" = some (.ref A.f_law_stands)
  F_law_owes : Fun K "_law_owes" "_law_owes" s_law_owes A.f_law_owes A.d_law_owes
  b_law_owes : Binds K A.d_law_owes ["run", "f", "g", "came", "gone", "come"] []
  g_law_owes : mg "_law_owes" = some (.ref A.f_law_owes)
  F_law_done : Fun K "_law_done" "_law_done" s_law_done A.f_law_done A.d_law_done
  b_law_done : Binds K A.d_law_done ["pen", "run", "f", "g", "came", "gone"] []
  g_law_done : mg "_law_done" = some (.ref A.f_law_done)
  F_law_filled : Fun K "_law_filled" "_law_filled" s_law_filled A.f_law_filled A.d_law_filled
  b_law_filled : Binds K A.d_law_filled ["run", "f", "g", "came", "gone", "odd"] []
  g_law_filled : mg "_law_filled" = some (.ref A.f_law_filled)
  F_law : Fun K "law" "law" s_law A.f_law A.d_law
  b_law : Binds K A.d_law ["script"] []
  g_law : mg "law" = some (.ref A.f_law)
  cl_Meter : Cls K A.c_Meter
  g_Meter : mg "Meter" = some (.ref A.c_Meter)
  cl_Run : Cls K A.c_Run
  g_Run : mg "Run" = some (.ref A.c_Run)
  g_CurveError : mg "CurveError" = some (.ref A.c_CurveError)
  g_NoCurve : mg "NoCurve" = some (.ref A.c_NoCurve)
  g_TooLong : mg "TooLong" = some (.ref A.c_TooLong)
  g_Endless : mg "Endless" = some (.ref A.c_Endless)
  g_NoStream : mg "NoStream" = some (.ref A.c_NoStream)
  g_NoNet : mg "NoNet" = some (.ref A.c_NoNet)
  g_Ring : mg "Ring" = some (.ref A.c_Ring)
  g_TooMuch : mg "TooMuch" = some (.ref A.c_TooMuch)
  g_TooLittle : mg "TooLittle" = some (.ref A.c_TooLittle)
  g_NoBack : mg "NoBack" = some (.ref A.c_NoBack)
  g_NoText : mg "NoText" = some (.ref A.c_NoText)
  g_NoRow : mg "NoRow" = some (.ref A.c_NoRow)
  g_NoName : mg "NoName" = some (.ref A.c_NoName)
  x_NoStream : PySem.W.excIn K A.c_NoStream [.type "ValueError", .type "Exception", .type "BaseException", .type "object"] "ValueError.__new__" = true
  kp_NoStream : PySem.W.keepIn K (.ref A.c_NoStream) = true
  be_NoStream : PySem.W.subIn K (.ref A.c_NoStream) (.type "BaseException") = some true
  ty_NoStream : PySem.W.typeIn K (.ref A.c_NoStream) = some (.type "type")
  x_TooLong : PySem.W.excIn K A.c_TooLong [.type "ValueError", .type "Exception", .type "BaseException", .type "object"] "ValueError.__new__" = true
  kp_TooLong : PySem.W.keepIn K (.ref A.c_TooLong) = true
  be_TooLong : PySem.W.subIn K (.ref A.c_TooLong) (.type "BaseException") = some true
  ty_TooLong : PySem.W.typeIn K (.ref A.c_TooLong) = some (.type "type")
  x_TooMuch : PySem.W.excIn K A.c_TooMuch [.type "ValueError", .type "Exception", .type "BaseException", .type "object"] "ValueError.__new__" = true
  kp_TooMuch : PySem.W.keepIn K (.ref A.c_TooMuch) = true
  be_TooMuch : PySem.W.subIn K (.ref A.c_TooMuch) (.type "BaseException") = some true
  ty_TooMuch : PySem.W.typeIn K (.ref A.c_TooMuch) = some (.type "type")
  x_TooLittle : PySem.W.excIn K A.c_TooLittle [.type "ValueError", .type "Exception", .type "BaseException", .type "object"] "ValueError.__new__" = true
  kp_TooLittle : PySem.W.keepIn K (.ref A.c_TooLittle) = true
  be_TooLittle : PySem.W.subIn K (.ref A.c_TooLittle) (.type "BaseException") = some true
  ty_TooLittle : PySem.W.typeIn K (.ref A.c_TooLittle) = some (.type "type")
  hc_CurveError : ∀ C ∈ [A.c_NoStream, A.c_TooLong, A.c_TooMuch, A.c_TooLittle], PySem.W.exmOne K (.ref C) (.ref A.c_CurveError) = some true
  e_NoStream : ∀ p ∈ ([(A.c_NoStream, true), (A.c_TooLong, false), (A.c_TooMuch, false), (A.c_TooLittle, false)] : List (Addr × Bool)), ExcC K p.1 ∧ PySem.W.kitOne K (.ref p.1) (.ref A.c_NoStream) = some p.2
  e_TooLong : ∀ p ∈ ([(A.c_NoStream, false), (A.c_TooLong, true), (A.c_TooMuch, false), (A.c_TooLittle, false)] : List (Addr × Bool)), ExcC K p.1 ∧ PySem.W.kitOne K (.ref p.1) (.ref A.c_TooLong) = some p.2
  e_TooMuch : ∀ p ∈ ([(A.c_NoStream, false), (A.c_TooLong, false), (A.c_TooMuch, true), (A.c_TooLittle, false)] : List (Addr × Bool)), ExcC K p.1 ∧ PySem.W.kitOne K (.ref p.1) (.ref A.c_TooMuch) = some p.2
  e_TooLittle : ∀ p ∈ ([(A.c_NoStream, false), (A.c_TooLong, false), (A.c_TooMuch, false), (A.c_TooLittle, true)] : List (Addr × Bool)), ExcC K p.1 ∧ PySem.W.kitOne K (.ref p.1) (.ref A.c_TooLittle) = some p.2
  e_ValueError : ∀ p ∈ ([(A.c_NoStream, true), (A.c_TooLong, true), (A.c_TooMuch, true), (A.c_TooLittle, true)] : List (Addr × Bool)), ExcC K p.1 ∧ PySem.W.kitOne K (.ref p.1) (.type "ValueError") = some p.2
  et_0 : ∀ p ∈ ([(A.c_NoStream, false), (A.c_TooLong, false), (A.c_TooMuch, false), (A.c_TooLittle, false)] : List (Addr × Bool)), ExcC K p.1 ∧ PySem.W.kitAny K (.ref p.1) ([A.c_Endless, A.c_NoBack, A.c_NoCurve, A.c_NoName, A.c_NoNet, A.c_NoRow, A.c_NoText, A.c_Ring].map Value.ref) = some p.2
  tab_law_owes : A.d_law_owes.code = .ref A.q_law_owes
  tab_law_done : A.d_law_done.code = .ref A.q_law_done
  tab_law_filled : A.d_law_filled.code = .ref A.q_law_filled
  n_Meter_curve : NoAttr K A.c_Meter "curve"
  n_Meter_most : NoAttr K A.c_Meter "most"
  n_Meter_tallies : NoAttr K A.c_Meter "tallies"
  n_Run_gone : NoAttr K A.c_Run "gone"
  n_Run_meter : NoAttr K A.c_Run "meter"
  n_Run_server : NoAttr K A.c_Run "server"
  z_ValueError : mg "ValueError" = none
  z_abs : mg "abs" = none
  z_bool : mg "bool" = none
  z_int : mg "int" = none
  z_isinstance : mg "isinstance" = none
  z_len : mg "len" = none
  z_list : mg "list" = none
  z_max : mg "max" = none
  z_min : mg "min" = none
  z_range : mg "range" = none
  z_repr : mg "repr" = none
  z_tuple : mg "tuple" = none
  k_MOST_TURNS : ∃ t, mg "MOST_TURNS" = some (.int 400 t)
end K56

namespace K55
open PySem PySem.Spec PyProof.Rows L2 Dl Pg Pn Mt
/-- whether d is a whole number from 0 on -/
def NumB (m : Sto) (d : D) (b : Bool) : Prop := match d with
  | .int i => b = decide (0 ≤ i)
  | .ptr a => b = false ∧ ∃ o, m a = some o ∧ isM .int o = some false
  | .ty _ => False
  | .rl _ => False
  | _ => b = false
def sp_is_number : DSp := fun ds m R _ => match ds with
  | [d] => ∃ b, NumB m d b ∧ R (.bl b) m
  | _ => False
def sp_Meter_need_room (C cM cS cB cL : Addr) : DSp := fun ds m R RX => match ds with
  | [.ptr a, d] => ∃ p q F A r T n b, MeterAt C m a p q F A r T n ∧ NumB m d b ∧ (b = false → RX cS none m) ∧ (b = true → ∃ t, d = .int t ∧ (T.length + t ≤ 401 → R .non m) ∧ (401 < T.length + t → RX cL none m))
  | _ => False
def sp_Meter_back (C cM cS cB cL : Addr) : DSp := fun ds m R RX => match ds with
  | [.ptr a] => ∃ p q F A r T n, MeterAt C m a p q F A r T n ∧ (T.length = 1 → RX cB none m) ∧ (2 ≤ T.length → R (.int (T.getD (T.length - 1) 0 - T.getD (T.length - 2) 0)) (up m p (.lst (T.dropLast.map .int))))
  | _ => False
def sp_Meter_come (C cM cS cB cL : Addr) : DSp := fun ds m R RX => match ds with
  | [.ptr a, d] => ∃ p q F A r T n b, MeterAt C m a p q F A r T n ∧ A ≠ [] ∧ A.length < 2 ^ 60 ∧ T.length ≤ 401 ∧ n ≤ 1000 ∧ NumB m d b ∧ (b = false → RX cS none m) ∧ (b = true → ∃ x, d = .int x ∧ (T.length = 401 → RX cL none m) ∧
      (T.length < 401 → leaveI F A r T < x → RX cM none (up m q (.lst ((vals F A r (max n (T.length + 1))).map .int)))) ∧
      (T.length < 401 → x ≤ leaveI F A r T → R (.int (leaveI F A r (T ++ [T.getD (T.length - 1) 0 + x]))) (up (up m p (.lst ((T ++ [T.getD (T.length - 1) 0 + x]).map .int))) q (.lst ((vals F A r (max n (T.length + 2))).map .int)))))
  | _ => False
def sp_Meter_rest (C cM cS cB cL : Addr) : DSp := fun ds m R RX => match ds with
  | [.ptr a, d] => ∃ p q F A r T n b, MeterAt C m a p q F A r T n ∧ A ≠ [] ∧ A.length < 2 ^ 60 ∧ T.length ≤ 401 ∧ n ≤ 1000 ∧ NumB m d b ∧ (b = false → RX cS none m) ∧ (b = true → ∃ t, d = .int t ∧ (401 < T.length + t → RX cL none m) ∧
      (T.length + t ≤ 401 → R (.int (leaveI F A r (T ++ List.replicate t.toNat (T.getD (T.length - 1) 0)))) (up (up m p (.lst ((T ++ List.replicate t.toNat (T.getD (T.length - 1) 0)).map .int))) q (.lst ((vals F A r (max n (T.length + t.toNat + 1))).map .int)))))
  | _ => False
def sp_law_odd : DSp := fun ds m R _ => match ds with
  | [.ptr p] => ∃ b X, m p = some X ∧ PenOk b X ∧ b ≤ 2 ^ 29 ∧ ∀ d m' X', m' p = some X' → PenOk (b + 2) X' → Kp [p] m m' → NumB m' d false → R d m'
  | _ => False
def sp_law_leave : DSp := fun ds m R _ => match ds with
  | [f, .ptr c] => ∃ F A r T, f = crv F A r ∧ m c = some (.lst (T.map .int)) ∧ A ≠ [] ∧ A.length < 2 ^ 60 ∧ 0 < T.length ∧ T.length ≤ 1000 ∧ R (.int (leaveI F A r T)) m
  | _ => False
/-- a meter and the law's own account of it -/
structure Pair (C : Addr) (m : Sto) (a p q c : Addr) (F A : List Int) (r : Int) (T : List Int) (n : Nat) : Prop where
  mt : MeterAt C m a p q F A r T n
  ct : m c = some (.lst (T.map .int))
  pc : p ≠ c
  qc : q ≠ c
  kp : Keeps F A r T
  dr : Drawn F A r
def sp_law_stands (C : Addr) : DSp := fun ds m R _ => match ds with
  | [.ptr a, f, .ptr c] => ∃ p q F A r T n, Pair C m a p q c F A r T n ∧ f = crv F A r ∧ T.length ≤ 401 ∧ n ≤ 1000 ∧
      ∀ m', Pair C m' a p q c F A r T (max n (T.length + 1)) → Kp [q] m m' → R (.bl true) m'
  | _ => False
abbrev lamQ (x : Str) : Str := (x ++ ".<locals>.") ++ "<lambda>"
def sp_law_refused (C cM cS cB cL P : Addr) : DSp := fun ds m R _ => match ds with
  | [.ptr pen, .ptr a, f, .ptr c] => ∃ b X p q F A r T n, m pen = some X ∧ PenOk b X ∧ b ≤ 2 ^ 28 ∧ Pair C m a p q c F A r T n ∧ pen ≠ p ∧ pen ≠ q ∧ pen ≠ c ∧ f = crv F A r ∧ T.length ≤ 300 ∧ n ≤ 500 ∧ m P = some (.tab (lamQ "_law_refused")) ∧
      ∀ m' X' T' n', m' pen = some X' → PenOk (b + 6) X' → Pair C m' a p q c F A r T' n' → T'.length ≤ T.length + 1 → n' ≤ max n (T.length + 3) → m' P = some (.tab (lamQ "_law_refused")) → Kp [pen, p, q, c, P] m m' → R (.bl true) m'
  | _ => False
def sp_law_filled (C cM cS cB cL P : Addr) : DSp := fun ds m R _ => match ds with
  | [.ptr pen, .ptr a, f, .ptr c] => ∃ b X p q F A r T n, m pen = some X ∧ PenOk b X ∧ b ≤ 2 ^ 28 ∧ Pair C m a p q c F A r T n ∧ pen ≠ p ∧ pen ≠ q ∧ pen ≠ c ∧ f = crv F A r ∧ T.length ≤ 300 ∧ n ≤ 500 ∧ m P = some (.tab (lamQ "_law_filled")) ∧
      ∀ m' X' T' n', m' pen = some X' → PenOk (b + 6) X' → Pair C m' a p q c F A r T' n' → T'.length = 401 → n' ≤ 500 → m' P = some (.tab (lamQ "_law_filled")) → Kp [pen, p, q, c, P] m m' → R (.bl true) m'
  | _ => False
end K55

namespace K55
open PySem PySem.Spec PyProof.Rows L2 Dl Pg Pn Mt
def r_is_number : DS :=
(dRet (dAndV (dIsi .int (dVar 0)) (dAndV (dNotV (dIsi .bool (dVar 0))) (dOp geD (dVar 0) (dC (.int 0))))))
def r_Meter_need_room (c_Meter : Addr) (c_NoStream : Addr) (c_TooLong : Addr) : DS :=
(dSeq (dIf (dNot (dB (dCall sp_is_number (dCons (dVar 1) dNil))))
(dRaise c_NoStream)
dNext)
(dIf (dB (dOp gtD (dOp (addD false) (dCB lenD (dCons (dFld c_Meter (dVar 0) "tallies") dNil)) (dVar 1)) (dOp (addD false) (dC (.int 400)) (dC (.int 1)))))
(dRaise c_TooLong)
dNext))
def r_Meter_come (c_Meter : Addr) (c_NoBack : Addr) (c_NoStream : Addr) (c_TooLong : Addr) (c_TooMuch : Addr) : DS :=
(dSeq (dIf (dNot (dB (dCall sp_is_number (dCons (dVar 1) dNil))))
(dRaise c_NoStream)
dNext)
(dSeq (dExpr (dMethX c_Meter "need_room" (sp_Meter_need_room c_Meter c_TooMuch c_NoStream c_NoBack c_TooLong) (dVar 0) (dCons (dC (.int 1)) dNil)))
(dSeq (dIf (dB (dOp gtD (dVar 1) (dMeth c_Meter "leave" (sp_Meter_leave c_Meter) (dVar 0) dNil)))
(dRaise c_TooMuch)
dNext)
(dSeq (dExpr (dLM appM (dFld c_Meter (dVar 0) "tallies") (dCons (dOp (addD false) (dOp ixD (dFld c_Meter (dVar 0) "tallies") (dNeg (dC (.int 1)))) (dVar 1)) dNil)))
(dRet (dMeth c_Meter "leave" (sp_Meter_leave c_Meter) (dVar 0) dNil))))))
def r_Meter_rest (c_Meter : Addr) (c_NoBack : Addr) (c_NoStream : Addr) (c_TooLong : Addr) (c_TooMuch : Addr) : DS :=
(dSeq (dExpr (dMethX c_Meter "need_room" (sp_Meter_need_room c_Meter c_TooMuch c_NoStream c_NoBack c_TooLong) (dVar 0) (dCons (dVar 1) dNil)))
(dSeq (dExpr (dLM extM (dFld c_Meter (dVar 0) "tallies") (dCons (dOp (mulD false) (dLst false (dCons (dOp ixD (dFld c_Meter (dVar 0) "tallies") (dNeg (dC (.int 1)))) dNil)) (dVar 1)) dNil)))
(dRet (dMeth c_Meter "leave" (sp_Meter_leave c_Meter) (dVar 0) dNil))))
def r_Meter_back (c_Meter : Addr) (c_NoBack : Addr) : DS :=
(dSeq (dIf (dB (dOp eqD (dCB lenD (dCons (dFld c_Meter (dVar 0) "tallies") dNil)) (dC (.int 1))))
(dRaise c_NoBack)
dNext)
(dSeq (dSet 1 (dLM popM (dFld c_Meter (dVar 0) "tallies") dNil))
(dRet (dOp subD (dVar 1) (dOp ixD (dFld c_Meter (dVar 0) "tallies") (dNeg (dC (.int 1))))))))
def r_law_word (c_Endless : Addr) (c_NoBack : Addr) (c_NoCurve : Addr) (c_NoName : Addr) (c_NoNet : Addr) (c_NoRow : Addr) (c_NoStream : Addr) (c_NoText : Addr) (c_Ring : Addr) (c_TooLittle : Addr) (c_TooLong : Addr) (c_TooMuch : Addr) (dX : DE) : DS :=
(dSeq (dSet 1 (dC .non))
(dSeq (dTry [c_TooMuch, c_NoStream, c_NoBack, c_TooLong] 2
(dExpr dX)
(dSet 1 (dVar 2)))
(dSeq (dIf (dB (dOp isD (dVar 1) (dC .non)))
(dRet (dC (.str "told")))
dNext)
(dSeq (dIf (dB (dCB (isExD (.tup ([c_Endless, c_NoCurve, c_NoName, c_NoNet, c_NoRow, c_NoText, c_Ring, c_TooLittle].map D.ptr)) [(c_TooMuch, false), (c_NoStream, false), (c_NoBack, false), (c_TooLong, false)]) (dCons (dVar 1) (dCons (dTup (dCons (dC (.ptr c_Endless)) (dCons (dC (.ptr c_NoCurve)) (dCons (dC (.ptr c_NoName)) (dCons (dC (.ptr c_NoNet)) (dCons (dC (.ptr c_NoRow)) (dCons (dC (.ptr c_NoText)) (dCons (dC (.ptr c_Ring)) (dCons (dC (.ptr c_TooLittle)) dNil))))))))) dNil))))
(dRet (dC (.str "other")))
dNext)
(dSeq (dSet 3 (dLst true (dCons (dCB (isExD (.ptr c_TooMuch) [(c_TooMuch, true), (c_NoStream, false), (c_NoBack, false), (c_TooLong, false)]) (dCons (dVar 1) (dCons (dC (.ptr c_TooMuch)) dNil))) (dCons (dCB (isExD (.ptr c_NoStream) [(c_TooMuch, false), (c_NoStream, true), (c_NoBack, false), (c_TooLong, false)]) (dCons (dVar 1) (dCons (dC (.ptr c_NoStream)) dNil))) (dCons (dCB (isExD (.ptr c_NoBack) [(c_TooMuch, false), (c_NoStream, false), (c_NoBack, true), (c_TooLong, false)]) (dCons (dVar 1) (dCons (dC (.ptr c_NoBack)) dNil))) dNil)))))
(dSeq (dExpr (dLM appM (dVar 3) (dCons (dCB (isExD (.ptr c_TooLong) [(c_TooMuch, false), (c_NoStream, false), (c_NoBack, false), (c_TooLong, true)]) (dCons (dVar 1) (dCons (dC (.ptr c_TooLong)) dNil))) dNil)))
(dSeq (dIf (dOr (dB (dOp neD (dLM countM (dVar 3) (dCons (dC (.bl true)) dNil)) (dC (.int 1)))) (dNot (dB (dCB (isExD (.ty "ValueError") [(c_TooMuch, true), (c_NoStream, true), (c_NoBack, true), (c_TooLong, true)]) (dCons (dVar 1) (dCons (dC (.ty "ValueError")) dNil))))))
(dRet (dC (.str "other")))
dNext)
(dRet (dOp ixD (dLst false (dCons (dC (.str "much")) (dCons (dC (.str "stream")) (dCons (dC (.str "back")) (dCons (dC (.str "long")) dNil))))) (dLM indexM (dVar 3) (dCons (dC (.bl true)) dNil)))))))))))
def r_law_odd : DS :=
(dSeq (dSet 1 (dLst false (dCons (dC .non) (dCons (dC (.bl true)) (dCons (dC (.bl false)) (dCons (dC (.str "1")) (dCons (dNeg (dC (.int 1))) (dCons (dLst false (dCons (dC (.int 1)) dNil)) (dCons (dTup (dCons (dC (.int 1)) dNil)) (dCons dDNew (dCons (dOp subD (dOp subD (dC (.int 0)) (dOp powD (dC (.int 10)) (dC (.int 29)))) (dCall sp_law_take (dCons (dVar 0) (dCons (dC (.int 9)) dNil)))) (dCons (dC (.str "")) dNil))))))))))))
(dRet (dOp ixD (dVar 1) (dCall sp_law_take (dCons (dVar 0) (dCons (dCB lenD (dCons (dVar 1) dNil)) dNil))))))
def r_law_leave : DS :=
(dSeq (dSet 2 (dCB lenD (dCons (dVar 1) dNil)))
(dRet (dOp subD (dCB minD (dCons (dLc false [3] false (rngI1 (dVar 2)) dYes (dOp (addD false) (dOp ixD (dVar 1) (dVar 3)) (dCall sp_law_at (dCons (dVar 0) (dCons (dOp subD (dVar 2) (dVar 3)) dNil))))) dNil)) (dOp ixD (dVar 1) (dNeg (dC (.int 1)))))))
def r_law_stands (c_Meter : Addr) : DS :=
(dSeq (dIf (dB (dOp neD (dMeth c_Meter "told" (sp_Meter_told c_Meter) (dVar 0) dNil) (dLc false [3] false (rngI2 (dC (.int 1)) (dCB lenD (dCons (dVar 2) dNil))) dYes (dOp subD (dOp ixD (dVar 2) (dVar 3)) (dOp ixD (dVar 2) (dOp subD (dVar 3) (dC (.int 1))))))))
(dRet (dC (.bl false)))
dNext)
(dRet (dOp eqD (dMeth c_Meter "leave" (sp_Meter_leave c_Meter) (dVar 0) dNil) (dCall sp_law_leave (dCons (dVar 1) (dCons (dVar 2) dNil))))))
def r_law_refused (c_Endless : Addr) (c_Meter : Addr) (c_NoBack : Addr) (c_NoCurve : Addr) (c_NoName : Addr) (c_NoNet : Addr) (c_NoRow : Addr) (c_NoStream : Addr) (c_NoText : Addr) (c_Ring : Addr) (c_TooLittle : Addr) (c_TooLong : Addr) (c_TooMuch : Addr) (p_law_refused : Addr) : DS :=
(dSeq (dSet 4 (dCall sp_law_take (dCons (dVar 0) (dCons (dC (.int 6)) dNil))))
(dSeq (dSet 5 (dCall sp_law_take (dCons (dVar 0) (dCons (dC (.int 3)) dNil))))
(dSeq (dSet 6 (dOp ixD (dLst false (dCons (dC (.int 0)) (dCons (dC (.int 0)) (dCons (dC (.int 1)) (dCons (dC (.int 7)) (dCons (dOp powD (dC (.int 10)) (dC (.int 28))) dNil)))))) (dCall sp_law_take (dCons (dVar 0) (dCons (dC (.int 5)) dNil)))))
(dSeq (dSet 7 (dCall sp_law_odd (dCons (dVar 0) dNil)))
(dSeq (dSet 8 (dCall sp_law_leave (dCons (dVar 2) (dCons (dVar 3) dNil))))
(dSeq (dIf (dAnd (dB (dOp eqD (dVar 4) (dC (.int 0)))) (dB (dOp neD (dWord (r_law_word c_Endless c_NoBack c_NoCurve c_NoName c_NoNet c_NoRow c_NoStream c_NoText c_Ring c_TooLittle c_TooLong c_TooMuch) 3 p_law_refused ((("_law_refused" : Str) ++ ".<locals>.") ++ "<lambda>") (dMethX c_Meter "come" (sp_Meter_come c_Meter c_TooMuch c_NoStream c_NoBack c_TooLong) (dVar 1) (dCons (dOp (addD false) (dOp (addD false) (dVar 8) (dC (.int 1))) (dVar 6)) dNil))) (dC (.str "much")))))
(dRet (dC (.bl false)))
dNext)
(dSeq (dIf (dAnd (dB (dOp eqD (dVar 4) (dC (.int 1)))) (dB (dOp neD (dWord (r_law_word c_Endless c_NoBack c_NoCurve c_NoName c_NoNet c_NoRow c_NoStream c_NoText c_Ring c_TooLittle c_TooLong c_TooMuch) 3 p_law_refused ((("_law_refused" : Str) ++ ".<locals>.") ++ "<lambda>") (dMethX c_Meter "come" (sp_Meter_come c_Meter c_TooMuch c_NoStream c_NoBack c_TooLong) (dVar 1) (dCons (dVar 7) dNil))) (dC (.str "stream")))))
(dRet (dC (.bl false)))
dNext)
(dSeq (dIf (dAnd (dB (dOp eqD (dVar 4) (dC (.int 2)))) (dB (dOp neD (dWord (r_law_word c_Endless c_NoBack c_NoCurve c_NoName c_NoNet c_NoRow c_NoStream c_NoText c_Ring c_TooLittle c_TooLong c_TooMuch) 3 p_law_refused ((("_law_refused" : Str) ++ ".<locals>.") ++ "<lambda>") (dMethX c_Meter "rest" (sp_Meter_rest c_Meter c_TooMuch c_NoStream c_NoBack c_TooLong) (dVar 1) (dCons (dVar 7) dNil))) (dC (.str "stream")))))
(dRet (dC (.bl false)))
dNext)
(dSeq (dIf (dAnd (dB (dOp eqD (dVar 4) (dC (.int 3)))) (dAnd (dB (dOp eqD (dCB lenD (dCons (dVar 3) dNil)) (dC (.int 1)))) (dB (dOp neD (dWord (r_law_word c_Endless c_NoBack c_NoCurve c_NoName c_NoNet c_NoRow c_NoStream c_NoText c_Ring c_TooLittle c_TooLong c_TooMuch) 3 p_law_refused ((("_law_refused" : Str) ++ ".<locals>.") ++ "<lambda>") (dMethX c_Meter "back" (sp_Meter_back c_Meter c_TooMuch c_NoStream c_NoBack c_TooLong) (dVar 1) dNil)) (dC (.str "back"))))))
(dRet (dC (.bl false)))
dNext)
(dSeq (dIf (dAnd (dB (dOp eqD (dVar 4) (dC (.int 3)))) (dB (dOp gtD (dCB lenD (dCons (dVar 3) dNil)) (dC (.int 1)))))
(dSeq (dSet 9 (dLM popM (dVar 3) dNil))
(dIf (dB (dOp neD (dMeth c_Meter "back" (sp_Meter_back c_Meter c_TooMuch c_NoStream c_NoBack c_TooLong) (dVar 1) dNil) (dOp subD (dVar 9) (dOp ixD (dVar 3) (dNeg (dC (.int 1)))))))
(dRet (dC (.bl false)))
dNext))
dNext)
(dSeq (dIf (dB (dOp gtD (dVar 4) (dC (.int 3))))
(dSeq (dExpr (dLM appM (dVar 3) (dCons (dOp (addD false) (dOp ixD (dVar 3) (dNeg (dC (.int 1)))) (dOp (mulD false) (dVar 8) (dOp subD (dC (.int 5)) (dVar 4)))) dNil)))
(dIf (dB (dOp neD (dMeth c_Meter "come" (sp_Meter_come c_Meter c_TooMuch c_NoStream c_NoBack c_TooLong) (dVar 1) (dCons (dOp (mulD false) (dVar 8) (dOp subD (dC (.int 5)) (dVar 4))) dNil)) (dCall sp_law_leave (dCons (dVar 2) (dCons (dVar 3) dNil)))))
(dRet (dC (.bl false)))
dNext))
dNext)
(dRet (dOrV (dOp gtD (dVar 5) (dC (.int 0))) (dCall (sp_law_stands c_Meter) (dCons (dVar 1) (dCons (dVar 2) (dCons (dVar 3) dNil)))))))))))))))))
def r_law_filled (c_Endless : Addr) (c_Meter : Addr) (c_NoBack : Addr) (c_NoCurve : Addr) (c_NoName : Addr) (c_NoNet : Addr) (c_NoRow : Addr) (c_NoStream : Addr) (c_NoText : Addr) (c_Ring : Addr) (c_TooLittle : Addr) (c_TooLong : Addr) (c_TooMuch : Addr) (p_law_filled : Addr) : DS :=
(dSeq (dSet 4 (dCall sp_law_take (dCons (dVar 0) (dCons (dC (.int 2)) dNil))))
(dSeq (dSet 5 (dOp ixD (dLst false (dCons (dC (.int 1)) (dCons (dC (.int 2)) (dCons (dC (.int 10)) (dCons (dOp powD (dC (.int 10)) (dC (.int 29))) dNil))))) (dCall sp_law_take (dCons (dVar 0) (dCons (dC (.int 4)) dNil)))))
(dSeq (dSet 6 (dCall sp_law_odd (dCons (dVar 0) dNil)))
(dSeq (dSet 7 (dOp subD (dOp subD (dC (.int 401)) (dCB lenD (dCons (dVar 3) dNil))) (dVar 4)))
(dSeq (dSet 8 (dMeth c_Meter "rest" (sp_Meter_rest c_Meter c_TooMuch c_NoStream c_NoBack c_TooLong) (dVar 1) (dCons (dVar 7) dNil)))
(dSeq (dExpr (dLM extM (dVar 3) (dCons (dOp (mulD false) (dLst false (dCons (dOp ixD (dVar 3) (dNeg (dC (.int 1)))) dNil)) (dVar 7)) dNil)))
(dSeq (dIf (dB (dOp neD (dVar 8) (dCall sp_law_leave (dCons (dVar 2) (dCons (dVar 3) dNil)))))
(dRet (dC (.bl false)))
dNext)
(dSeq (dSet 9 (dLst true dNil))
(dSeq (dFor (seqI (dLst false (dCons (dOp (addD false) (dVar 4) (dVar 5)) (dCons (dVar 6) dNil)))) (nameG 10)
(dExpr (dLM appM (dVar 9) (dCons (dWord (r_law_word c_Endless c_NoBack c_NoCurve c_NoName c_NoNet c_NoRow c_NoStream c_NoText c_Ring c_TooLittle c_TooLong c_TooMuch) 3 p_law_filled ((("_law_filled" : Str) ++ ".<locals>.") ++ "<lambda>") (dMethX c_Meter "rest" (sp_Meter_rest c_Meter c_TooMuch c_NoStream c_NoBack c_TooLong) (dVar 1) (dCons (dVar 10) dNil))) dNil))))
(dSeq (dExpr (dLM appM (dVar 9) (dCons (dWord (r_law_word c_Endless c_NoBack c_NoCurve c_NoName c_NoNet c_NoRow c_NoStream c_NoText c_Ring c_TooLittle c_TooLong c_TooMuch) 3 p_law_filled ((("_law_filled" : Str) ++ ".<locals>.") ++ "<lambda>") (dMethX c_Meter "come" (sp_Meter_come c_Meter c_TooMuch c_NoStream c_NoBack c_TooLong) (dVar 1) (dCons (dVar 6) dNil))) dNil)))
(dSeq (dIf (dB (dOp neD (dVar 9) (dLst false (dCons (dC (.str "long")) (dCons (dC (.str "stream")) (dCons (dC (.str "stream")) dNil))))))
(dRet (dC (.bl false)))
dNext)
(dSeq (dIf (dB (dOp eqD (dVar 4) (dC (.int 1))))
(dSeq (dExpr (dLM appM (dVar 3) (dCons (dOp (addD false) (dOp ixD (dVar 3) (dNeg (dC (.int 1)))) (dCall sp_law_leave (dCons (dVar 2) (dCons (dVar 3) dNil)))) dNil)))
(dIf (dB (dOp neD (dMeth c_Meter "come" (sp_Meter_come c_Meter c_TooMuch c_NoStream c_NoBack c_TooLong) (dVar 1) (dCons (dOp subD (dOp ixD (dVar 3) (dNeg (dC (.int 1)))) (dOp ixD (dVar 3) (dNeg (dC (.int 2))))) dNil)) (dCall sp_law_leave (dCons (dVar 2) (dCons (dVar 3) dNil)))))
(dRet (dC (.bl false)))
dNext))
dNext)
(dSeq (dSet 11 (dOp (addD false) (dCall sp_law_leave (dCons (dVar 2) (dCons (dVar 3) dNil))) (dC (.int 1))))
(dSeq (dSet 9 (dLst true dNil))
(dSeq (dFor (seqI (dLst false (dCons (dC (.int 0)) (dCons (dVar 11) dNil)))) (nameG 12)
(dExpr (dLM appM (dVar 9) (dCons (dWord (r_law_word c_Endless c_NoBack c_NoCurve c_NoName c_NoNet c_NoRow c_NoStream c_NoText c_Ring c_TooLittle c_TooLong c_TooMuch) 3 p_law_filled ((("_law_filled" : Str) ++ ".<locals>.") ++ "<lambda>") (dMethX c_Meter "come" (sp_Meter_come c_Meter c_TooMuch c_NoStream c_NoBack c_TooLong) (dVar 1) (dCons (dVar 12) dNil))) dNil))))
(dSeq (dIf (dB (dOp neD (dMeth c_Meter "rest" (sp_Meter_rest c_Meter c_TooMuch c_NoStream c_NoBack c_TooLong) (dVar 1) (dCons (dC (.int 0)) dNil)) (dCall sp_law_leave (dCons (dVar 2) (dCons (dVar 3) dNil)))))
(dRet (dC (.bl false)))
dNext)
(dRet (dAndV (dOp eqD (dVar 9) (dLst false (dCons (dC (.str "long")) (dCons (dC (.str "long")) dNil)))) (dAndV (dCall (sp_law_stands c_Meter) (dCons (dVar 1) (dCons (dVar 2) (dCons (dVar 3) dNil)))) (dOp eqD (dCB lenD (dCons (dMeth c_Meter "told" (sp_Meter_told c_Meter) (dVar 1) dNil) dNil)) (dC (.int 400))))))))))))))))))))))
def r_law (c_Endless : Addr) (c_Meter : Addr) (c_NoBack : Addr) (c_NoCurve : Addr) (c_NoName : Addr) (c_NoNet : Addr) (c_NoRow : Addr) (c_NoStream : Addr) (c_NoText : Addr) (c_Ring : Addr) (c_TooLittle : Addr) (c_TooLong : Addr) (c_TooMuch : Addr) (p_law : Addr) (p_law_filled : Addr) (p_law_refused : Addr) : DS :=
(dSeq (dSet 1 (dCall sp_law_pen (dCons (dVar 0) dNil)))
(dSeq (dSet 2 (dCall sp_law_curve (dCons (dVar 1) dNil)))
(dSeq (dSet 3 (dMake c_Meter (sp_Meter_init c_Meter) (dCons (dVar 2) dNil)))
(dSeq (dSet 4 (dLst true (dCons (dC (.int 0)) dNil)))
(dSeq (dFor (rngI1 (dOp (addD false) (dC (.int 2)) (dCall sp_law_take (dCons (dVar 1) (dCons (dC (.int 11)) dNil))))) (nameG 5)
(dIf (dNot (dB (dCall (sp_law_refused c_Meter c_TooMuch c_NoStream c_NoBack c_TooLong p_law_refused) (dCons (dVar 1) (dCons (dVar 3) (dCons (dVar 2) (dCons (dVar 4) dNil)))))))
(dRet (dC (.bl false)))
dNext))
(dSeq (dIf (dNot (dB (dCall (sp_law_filled c_Meter c_TooMuch c_NoStream c_NoBack c_TooLong p_law_filled) (dCons (dVar 1) (dCons (dVar 3) (dCons (dVar 2) (dCons (dVar 4) dNil)))))))
(dRet (dC (.bl false)))
dNext)
(dSeq (dFor (rngI1 (dC (.int 3))) (nameG 5)
(dSeq (dSet 6 (dLM popM (dVar 4) dNil))
(dIf (dB (dOp neD (dMeth c_Meter "back" (sp_Meter_back c_Meter c_TooMuch c_NoStream c_NoBack c_TooLong) (dVar 3) dNil) (dOp subD (dVar 6) (dOp ixD (dVar 4) (dNeg (dC (.int 1)))))))
(dRet (dC (.bl false)))
dNext)))
(dSeq (dSet 7 (dCall sp_law_leave (dCons (dVar 2) (dCons (dVar 4) dNil))))
(dSeq (dIf (dB (dOp neD (dWord (r_law_word c_Endless c_NoBack c_NoCurve c_NoName c_NoNet c_NoRow c_NoStream c_NoText c_Ring c_TooLittle c_TooLong c_TooMuch) 3 p_law ((("law" : Str) ++ ".<locals>.") ++ "<lambda>") (dMethX c_Meter "come" (sp_Meter_come c_Meter c_TooMuch c_NoStream c_NoBack c_TooLong) (dVar 3) (dCons (dOp (addD false) (dVar 7) (dC (.int 1))) dNil))) (dC (.str "much"))))
(dRet (dC (.bl false)))
dNext)
(dSeq (dIf (dB (dOp neD (dWord (r_law_word c_Endless c_NoBack c_NoCurve c_NoName c_NoNet c_NoRow c_NoStream c_NoText c_Ring c_TooLittle c_TooLong c_TooMuch) 3 p_law ((("law" : Str) ++ ".<locals>.") ++ "<lambda>") (dMethX c_Meter "rest" (sp_Meter_rest c_Meter c_TooMuch c_NoStream c_NoBack c_TooLong) (dVar 3) (dCons (dC (.int 4)) dNil))) (dC (.str "long"))))
(dRet (dC (.bl false)))
dNext)
(dSeq (dExpr (dLM appM (dVar 4) (dCons (dOp (addD false) (dOp ixD (dVar 4) (dNeg (dC (.int 1)))) (dVar 7)) dNil)))
(dSeq (dIf (dOr (dB (dOp neD (dMeth c_Meter "come" (sp_Meter_come c_Meter c_TooMuch c_NoStream c_NoBack c_TooLong) (dVar 3) (dCons (dVar 7) dNil)) (dCall sp_law_leave (dCons (dVar 2) (dCons (dVar 4) dNil))))) (dNot (dB (dCall (sp_law_stands c_Meter) (dCons (dVar 3) (dCons (dVar 2) (dCons (dVar 4) dNil)))))))
(dRet (dC (.bl false)))
dNext)
(dSeq (dSet 8 (dMake c_Meter (sp_Meter_init c_Meter) (dCons (dVar 2) dNil)))
(dRet (dAndV (dOp eqD (dWord (r_law_word c_Endless c_NoBack c_NoCurve c_NoName c_NoNet c_NoRow c_NoStream c_NoText c_Ring c_TooLittle c_TooLong c_TooMuch) 3 p_law ((("law" : Str) ++ ".<locals>.") ++ "<lambda>") (dMethX c_Meter "back" (sp_Meter_back c_Meter c_TooMuch c_NoStream c_NoBack c_TooLong) (dVar 8) dNil)) (dC (.str "back"))) (dAndV (dOp eqD (dMeth c_Meter "told" (sp_Meter_told c_Meter) (dVar 8) dNil) (dLst false dNil)) (dOp eqD (dMeth c_Meter "leave" (sp_Meter_leave c_Meter) (dVar 8) dNil) (dCall sp_law_at (dCons (dVar 2) (dCons (dC (.int 1)) dNil))))))))))))))))))))
end K55

namespace K55
open PySem PySem.Spec PyProof.Rows L2 Dl Pg Pn Mt
theorem v_is_number {ds : List D} {m : Sto} {R : D → Sto → Prop} {RX : DX} (h : sp_is_number ds m R RX) : r_is_number { nx := fun _ m' => R .non m', rt := R } ⟨ds.map some ++ List.replicate (1 - ds.length) none, fun _ => RX⟩ m := by
  unfold sp_is_number at h
  split at h
  · rename_i d
    obtain ⟨b, hb, hR⟩ := h
    have no : ∀ {b : Bool}, b = false → R (.bl b) m → R (.bl false) m := fun e h => by rw [e] at h; exact h
    cases d with
    | int i =>
      have e : b = decide (0 ≤ i) := hb
      rw [e] at hR
      exact ⟨fun _ => ⟨fun _ => hR, fun z => nomatch z⟩, fun z => nomatch z⟩
    | bl x => exact ⟨fun _ => ⟨(fun z => nomatch z), fun _ => no hb hR⟩, fun z => nomatch z⟩
    | non => exact ⟨(fun z => nomatch z), fun _ => no hb hR⟩
    | str x => exact ⟨(fun z => nomatch z), fun _ => no hb hR⟩
    | tup x => exact ⟨(fun z => nomatch z), fun _ => no hb hR⟩
    | lst x => exact ⟨(fun z => nomatch z), fun _ => no hb hR⟩
    | ptr a =>
      obtain ⟨e, o, ho, hi⟩ := hb
      exact ⟨o, false, ho, hi, (fun z => nomatch z), fun _ => no e hR⟩
    | ty n => exact (hb : False).elim
    | rl x => exact (hb : False).elim
  · exact h.elim
variable {c_Meter c_TooMuch c_NoStream c_NoBack c_TooLong : Addr}
theorem num_int {m : Sto} {t : Int} {b : Bool} (h : NumB m (.int t) b) : b = decide (0 ≤ t) := h
theorem v_Meter_need_room {ds : List D} {m : Sto} {R : D → Sto → Prop} {RX : DX} (h : sp_Meter_need_room c_Meter c_TooMuch c_NoStream c_NoBack c_TooLong ds m R RX) : r_Meter_need_room c_Meter c_NoStream c_TooLong { nx := fun _ m' => R .non m', rt := R } ⟨ds.map some ++ List.replicate (2 - ds.length) none, fun _ => RX⟩ m := by
  unfold sp_Meter_need_room at h
  split at h
  · rename_i a d
    obtain ⟨p, q, F, A, r, T, n, b, M, hb, h0, h1⟩ := h
    refine ⟨b, hb, fun c => ?_, fun c => ?_⟩
    · cases b with
      | true => cases c
      | false => exact h0 rfl
    · cases b with
      | false => cases c
      | true =>
        obtain ⟨t, rfl, h2, h3⟩ := h1 rfl
        refine ⟨_, _, M.ob, rfl, _, _, M.tl, rfl, fun c => ?_, fun c => ?_⟩
        · have c' := of_decide_eq_true c
          rw [List.length_map] at c'
          exact h3 (by omega)
        · have c' := of_decide_eq_false c
          rw [List.length_map] at c'
          exact h2 (by omega)
  · exact h.elim
theorem v_Meter_back {ds : List D} {m : Sto} {R : D → Sto → Prop} {RX : DX} (h : sp_Meter_back c_Meter c_TooMuch c_NoStream c_NoBack c_TooLong ds m R RX) : r_Meter_back c_Meter c_NoBack { nx := fun _ m' => R .non m', rt := R } ⟨ds.map some ++ List.replicate (2 - ds.length) none, fun _ => RX⟩ m := by
  unfold sp_Meter_back at h
  split at h
  · rename_i a
    obtain ⟨p, q, F, A, r, T, n, M, h1, h2⟩ := h
    have hT1 := M.t1
    refine ⟨_, _, M.ob, rfl, _, _, M.tl, rfl, fun c => ?_, fun c => ?_⟩
    · have c' := of_decide_eq_true c
      rw [List.length_map] at c'
      exact h1 (by omega)
    · have c' := of_decide_eq_false c
      rw [List.length_map] at c'
      have hT : 2 ≤ T.length := by omega
      have hR := h2 hT
      have l1 : T.dropLast.length = T.length - 1 := List.length_dropLast
      have M' := M.tally (T' := T.dropLast) (by omega)
      rw [List.map_dropLast] at M'
      have e : T.dropLast.getD (T.dropLast.length - 1) 0 = T.getD (T.length - 2) 0 := by
        rw [l1, getD_drop (by omega)]
        congr 1
      rw [List.map_dropLast] at hR
      have tl' := M'.tl
      rw [List.map_dropLast] at tl'
      have hat : L2.atI (T.map D.int).dropLast (-1) = some (.int (T.getD (T.length - 2) 0)) := by
        rw [← List.map_dropLast, ← e]
        exact atI_last (by omega)
      refine ⟨_, _, M.ob, rfl, ⟨_, _, M.tl, rfl⟩, _, .int (T.getD (T.length - 1) 0), M.tl, ?_, _, _, M'.ob, rfl, _, _, ⟨_, tl', rfl⟩, hat, hR⟩
      rw [List.length_map, List.getElem?_map, gd (by omega)]
      rfl
  · exact h.elim
theorem v_Meter_come {ds : List D} {m : Sto} {R : D → Sto → Prop} {RX : DX} (h : sp_Meter_come c_Meter c_TooMuch c_NoStream c_NoBack c_TooLong ds m R RX) : r_Meter_come c_Meter c_NoBack c_NoStream c_TooLong c_TooMuch { nx := fun _ m' => R .non m', rt := R } ⟨ds.map some ++ List.replicate (2 - ds.length) none, fun _ => RX⟩ m := by
  unfold sp_Meter_come at h
  split at h
  · rename_i a d
    obtain ⟨p, q, F, A, r, T, n, b, M, hA, hz, hT, hn, hb, h0, h1⟩ := h
    have hT1 := M.t1
    have hn1 := M.n1
    refine ⟨b, hb, fun c => ?_, fun c => ?_⟩
    · cases b with
      | true => cases c
      | false => exact h0 rfl
    · cases b with
      | false => cases c
      | true =>
        obtain ⟨x, rfl, h2, h3, h4⟩ := h1 rfl
        refine ⟨_, M.ob, rfl, p, q, F, A, r, T, n, true, M, rfl, (fun z => nomatch z), fun _ => ⟨1, rfl, fun l1 => ?_, fun l1 => h2 (by omega)⟩⟩
        have l1' : T.length < 401 := by omega
        have M1 := M.most (n' := max n (T.length + 1)) (by omega)
        have M2 := M1.tally (T' := T ++ [T.getD (T.length - 1) 0 + x]) (by rw [List.length_append]; omega)
        have l2 : (T ++ [T.getD (T.length - 1) 0 + x]).length = T.length + 1 := by rw [List.length_append]; rfl
        refine ⟨_, M.ob, rfl, p, q, F, A, r, T, n, M, hA, hz, by omega, by omega, fun c => ?_, fun c => ?_⟩
        · have c' := of_decide_eq_true c
          exact h3 l1' c'
        · have c' := of_decide_eq_false c
          have hR := h4 l1' (by omega)
          refine ⟨_, _, M1.ob, rfl, ⟨_, _, M1.tl, rfl⟩, _, _, M1.ob, rfl, _, _, ⟨_, M1.tl, rfl⟩, atI_last hT1, _, M1.tl, ?_, ?_⟩
          · rw [List.length_map]
            exact big1000 (by omega)
          · have e : T.map D.int ++ [D.int (T.getD (T.length - 1) 0 + x)] = (T ++ [T.getD (T.length - 1) 0 + x]).map D.int := by rw [List.map_append]; rfl
            rw [e]
            refine ⟨_, M2.ob, rfl, p, q, F, A, r, _, _, M2, hA, hz, by omega, by omega, ?_⟩
            rw [l2, up_over M.pq.symm, show max (max n (T.length + 1)) (T.length + 1 + 1) = max n (T.length + 2) by omega]
            exact hR
  · exact h.elim
theorem v_Meter_rest {ds : List D} {m : Sto} {R : D → Sto → Prop} {RX : DX} (h : sp_Meter_rest c_Meter c_TooMuch c_NoStream c_NoBack c_TooLong ds m R RX) : r_Meter_rest c_Meter c_NoBack c_NoStream c_TooLong c_TooMuch { nx := fun _ m' => R .non m', rt := R } ⟨ds.map some ++ List.replicate (2 - ds.length) none, fun _ => RX⟩ m := by
  unfold sp_Meter_rest at h
  split at h
  · rename_i a d
    obtain ⟨p, q, F, A, r, T, n, b, M, hA, hz, hT, hn, hb, h0, h1⟩ := h
    have hT1 := M.t1
    refine ⟨_, M.ob, rfl, p, q, F, A, r, T, n, b, M, hb, h0, fun hb1 => ?_⟩
    obtain ⟨t, rfl, h2, h3⟩ := h1 hb1
    subst hb1
    have t0 : 0 ≤ t := of_decide_eq_true (num_int hb).symm
    refine ⟨t, rfl, fun l1 => ?_, h2⟩
    have hR := h3 l1
    have l2 : (T ++ List.replicate t.toNat (T.getD (T.length - 1) 0)).length = T.length + t.toNat := by rw [List.length_append, List.length_replicate]
    have M2 := M.tally (T' := T ++ List.replicate t.toNat (T.getD (T.length - 1) 0)) (by omega)
    have hs : (1 : Nat) * t.toNat ≤ sizeLine := Nat.le_of_lt (big1000 (by omega))
    refine ⟨_, _, M.ob, rfl, ⟨_, _, M.tl, rfl⟩, _, _, M.ob, rfl, _, _, ⟨_, M.tl, rfl⟩, atI_last hT1, (by show 1 ≤ sizeLine; decide), _, rfl, by omega, by omega, hs, _, _, M.tl, rfl, ?_, ?_⟩
    · rw [List.length_map, rep_one, List.length_replicate]
      exact Nat.le_of_lt (big1000 (by omega))
    · have e : T.map D.int ++ (List.replicate t.toNat [D.int (T.getD (T.length - 1) 0)]).flatten = (T ++ List.replicate t.toNat (T.getD (T.length - 1) 0)).map D.int := by rw [rep_one, List.map_append, List.map_replicate]
      rw [e]
      refine ⟨_, M2.ob, rfl, p, q, F, A, r, _, _, M2, hA, hz, by omega, by omega, ?_⟩
      rw [l2]
      exact hR
  · exact h.elim
end K55

namespace K56
open PySem PySem.Spec PyProof.Rows L2 Dl Pg Pn Mt
abbrev NumB := K55.NumB
abbrev lst0 (T : List Int) : Int := T.getD (T.length - 1) 0
def sp_is_number : DSp := fun ds m R _ => match ds with
  | [d] => ∃ b, NumB m d b ∧ R (.bl b) m
  | _ => False
/-- what must have gone by then, when x comes -/
def served (F A : List Int) (r : Int) (T : List Int) (x : Int) : Int := lmin ((List.range (T.length + 1)).map fun s => (T ++ [lst0 T + x]).getD s 0 + val F A r ((T.length : Int) - (s : Nat)))
def must (F A : List Int) (r : Int) (T G : List Int) (x : Int) : Int := max 0 (served F A r T x - lst0 G)
/-- a run: its meter (C), its server's curve, what has gone -/
structure RunAt (C E : Addr) (m : Sto) (u a p q g : Addr) (F A : List Int) (r : Int) (F2 A2 : List Int) (r2 : Int) (T G : List Int) (n : Nat) : Prop where
  ob : m u = some (.ins E [("meter", .ptr a), ("server", crv F2 A2 r2), ("gone", .ptr g)])
  mt : MeterAt C m a p q F A r T n
  gn : m g = some (.lst (G.map .int))
  pg : p ≠ g
  qg : q ≠ g
  g1 : 0 < G.length
/-- a curve that begins at 0 and rises -/
structure Rise (F A : List Int) (r : Int) : Prop where
  a0 : A ≠ []
  al : A.length ≤ 12
  fl : F.length ≤ 24
  zero : val F A r 0 = 0
  up : ∀ t : Nat, val F A r (t : Nat) ≤ val F A r ((t + 1 : Nat))
  nn : ∀ x ∈ F ++ A, 0 ≤ x ∧ x ≤ 1000000
  r0 : 0 ≤ r ∧ r ≤ 20000000
def sp_Meter_need_room (C cS cL : Addr) : DSp := fun ds m R RX => match ds with
  | [.ptr a, d] => ∃ p q F A r T n b, MeterAt C m a p q F A r T n ∧ NumB m d b ∧ (b = false → RX cS none m) ∧ (b = true → ∃ t, d = .int t ∧ (T.length + t ≤ 401 → R .non m) ∧ (401 < T.length + t → RX cL none m))
  | _ => False
def sp_Run_init (C E : Addr) : DSp := fun ds m R _ => match ds with
  | [.ptr u, f, gg] => m u = some (.ins E []) ∧ ∃ F A r F2 A2 r2, f = crv F A r ∧ gg = crv F2 A2 r2 ∧ val F A r 0 = 0 ∧
      ∀ a p q g m', m a = none → m p = none → m q = none → m g = none → RunAt C E m' u a p q g F A r F2 A2 r2 [0] [0] 1 → Kp [u] m m' → R .non m'
  | _ => False
def sp_Run_leave (C E : Addr) : DSp := fun ds m R _ => match ds with
  | [.ptr u] => ∃ a p q g F A r F2 A2 r2 T G n, RunAt C E m u a p q g F A r F2 A2 r2 T G n ∧ A ≠ [] ∧ A.length < 2 ^ 60 ∧ T.length ≤ 1000 ∧ n ≤ 2000 ∧ R (.int (leaveI F A r T)) (up m q (.lst ((vals F A r (max n (T.length + 1))).map .int)))
  | _ => False
def sp_Run_held (C E : Addr) : DSp := fun ds m R _ => match ds with
  | [.ptr u] => ∃ a p q g F A r F2 A2 r2 T G n, RunAt C E m u a p q g F A r F2 A2 r2 T G n ∧ R (.int (lst0 T - lst0 G)) m
  | _ => False
def sp_Run_owed (C E cM cT cS cL : Addr) : DSp := fun ds m R RX => match ds with
  | [.ptr u, d] => ∃ a p q g F A r F2 A2 r2 T G n b, RunAt C E m u a p q g F A r F2 A2 r2 T G n ∧ Rise F2 A2 r2 ∧ A ≠ [] ∧ A.length < 2 ^ 60 ∧ T.length ≤ 401 ∧ n ≤ 1000 ∧ NumB m d b ∧ (b = false → RX cS none m) ∧ (b = true → ∃ x, d = .int x ∧
      (leaveI F A r T < x → RX cM none (up m q (.lst ((vals F A r (max n (T.length + 1))).map .int)))) ∧
      (x ≤ leaveI F A r T → R (.int (must F2 A2 r2 T G x)) (up m q (.lst ((vals F A r (max n (T.length + 1))).map .int)))))
  | _ => False
def sp_Run_turn (C E cM cT cS cL : Addr) : DSp := fun ds m R RX => match ds with
  | [.ptr u, d, e] => ∃ a p q g F A r F2 A2 r2 T G n b c, RunAt C E m u a p q g F A r F2 A2 r2 T G n ∧ Rise F2 A2 r2 ∧ A ≠ [] ∧ A.length < 2 ^ 60 ∧ T.length ≤ 401 ∧ G.length ≤ 401 ∧ n ≤ 1000 ∧ NumB m d b ∧ NumB m e c ∧ ((b && c) = false → RX cS none m) ∧
      (b = true → c = true → ∃ x y, d = .int x ∧ e = .int y ∧ (T.length = 401 → RX cL none m) ∧ (T.length < 401 →
        (leaveI F A r T < x → RX cM none (up m q (.lst ((vals F A r (max n (T.length + 1))).map .int)))) ∧
        (x ≤ leaveI F A r T → (lst0 T - lst0 G + x < y → RX cM none (up m q (.lst ((vals F A r (max n (T.length + 1))).map .int)))) ∧
          (y ≤ lst0 T - lst0 G + x → (y < must F2 A2 r2 T G x → RX cT none (up m q (.lst ((vals F A r (max n (T.length + 1))).map .int)))) ∧
            (must F2 A2 r2 T G x ≤ y → R (.int (lst0 T + x - (lst0 G + y))) (up (up (up m q (.lst ((vals F A r (max n (T.length + 1))).map .int))) p (.lst ((T ++ [lst0 T + x]).map .int))) g (.lst ((G ++ [lst0 G + y]).map .int))))))))
  | _ => False
def sp_Run_told (C E : Addr) : DSp := fun ds m R _ => match ds with
  | [.ptr u] => ∃ a p q g F A r F2 A2 r2 T G n, RunAt C E m u a p q g F A r F2 A2 r2 T G n ∧ T.length ≤ 1000 ∧ G.length ≤ 1000 ∧ ∀ s t, m s = none → m t = none → s ≠ t → R (.tup [.ptr s, .ptr t]) (up (up m s (.lst ((steps T).map .int))) t (.lst ((steps G).map .int)))
  | _ => False
def sp_law_server : DSp := fun ds m R _ => match ds with
  | [.ptr pen, f, .bl _] => ∃ b X F A r, m pen = some X ∧ PenOk b X ∧ b ≤ 2 ^ 28 ∧ f = crv F A r ∧ Drawn F A r ∧ ∀ F2 A2 r2 X', Rise F2 A2 r2 → PenOk (b + 51) X' → R (crv F2 A2 r2) (up m pen X')
  | _ => False
def sp_law_leave : DSp := fun ds m R _ => match ds with
  | [f, .ptr c] => ∃ F A r T, f = crv F A r ∧ m c = some (.lst (T.map .int)) ∧ A ≠ [] ∧ A.length < 2 ^ 60 ∧ 0 < T.length ∧ T.length ≤ 1000 ∧ R (.int (leaveI F A r T)) m
  | _ => False
def sp_law_owed : DSp := fun ds m R _ => match ds with
  | [g, .ptr c, .ptr d, .int x] => ∃ F A r T G, g = crv F A r ∧ m c = some (.lst (T.map .int)) ∧ m d = some (.lst (G.map .int)) ∧ A ≠ [] ∧ A.length < 2 ^ 60 ∧ 0 < T.length ∧ T.length ≤ 1000 ∧ 0 < G.length ∧ R (.int (must F A r T G x)) m
  | _ => False
/-- what is no whole number from 0 on, told so that it stays so -/
def OddOk (m : Sto) (d : D) : Prop := (∃ e, d = .ptr e ∧ m e = some (.dct [])) ∨ ((∀ e, d ≠ .ptr e) ∧ NumB m d false)
def sp_law_odd : DSp := fun ds m R _ => match ds with
  | [.ptr p] => ∃ b X, m p = some X ∧ PenOk b X ∧ b ≤ 2 ^ 29 ∧ ∀ d m' X', m' p = some X' → PenOk (b + 2) X' → Kp [p] m m' → OddOk m' d → R d m'
  | _ => False
/-- a run and the law's own account of it -/
structure RP (C E : Addr) (m : Sto) (u a p q g c d : Addr) (F A : List Int) (r : Int) (F2 A2 : List Int) (r2 : Int) (T G : List Int) (n : Nat) : Prop where
  rn : RunAt C E m u a p q g F A r F2 A2 r2 T G n
  ct : m c = some (.lst (T.map .int))
  dt : m d = some (.lst (G.map .int))
  pc : p ≠ c
  qc : q ≠ c
  gc : g ≠ c
  pd : p ≠ d
  qd : q ≠ d
  gd : g ≠ d
  cd : c ≠ d
  kp : Keeps F A r T
  dr : Drawn F A r
  rs : Rise F2 A2 r2
  lg : G.length = T.length
  gb : ∀ x ∈ G, 0 ≤ x ∧ x ≤ lst0 T
  tb : lst0 T ≤ 2000000 * (T.length : Int)
abbrev full (T G : List Int) (x : Int) : Int := lst0 T - lst0 G + x
/-- what is asked of a turn, and what it tells -/
def Asked (F A : List Int) (r : Int) (F2 A2 : List Int) (r2 : Int) (T G : List Int) (m : Sto) (d e : D) (w : Str) : Prop :=
  (w = "told" ∧ ∃ x y, d = .int x ∧ e = .int y ∧ 0 ≤ x ∧ x ≤ leaveI F A r T ∧ must F2 A2 r2 T G x ≤ y ∧ y ≤ full T G x) ∨
  (w = "much" ∧ ∃ x y, d = .int x ∧ e = .int y ∧ 0 ≤ x ∧ 0 ≤ y ∧ (leaveI F A r T < x ∨ x ≤ leaveI F A r T ∧ full T G x < y)) ∨
  (w = "little" ∧ ∃ x y, d = .int x ∧ e = .int y ∧ 0 ≤ x ∧ 0 ≤ y ∧ x ≤ leaveI F A r T ∧ y ≤ full T G x ∧ y < must F2 A2 r2 T G x) ∨
  (w = "stream" ∧ ((OddOk m d ∧ ((∃ y, e = .int y ∧ 0 ≤ y) ∨ OddOk m e)) ∨ (OddOk m e ∧ ∃ x, d = .int x ∧ 0 ≤ x)))
def sp_law_asked : DSp := fun ds m R RX => match ds with
  | [.ptr pen, f, gg, .ptr c, .ptr d] => ∃ b X F A r F2 A2 r2 T G, m pen = some X ∧ PenOk b X ∧ b ≤ 2 ^ 28 + 100 ∧ f = crv F A r ∧ gg = crv F2 A2 r2 ∧ m c = some (.lst (T.map .int)) ∧ m d = some (.lst (G.map .int)) ∧
      Keeps F A r T ∧ Drawn F A r ∧ Rise F2 A2 r2 ∧ G.length = T.length ∧ (∀ x ∈ G, 0 ≤ x ∧ x ≤ lst0 T) ∧ T.length ≤ 401 ∧
      ∀ m' X' d e w, m' pen = some X' → PenOk (b + 10) X' → Kp [pen] m m' → Asked F A r F2 A2 r2 T G m' d e w → R (.tup [d, e, .str w]) m'
  | _ => False
def sp_law_stands (C E : Addr) : DSp := fun ds m R RX => match ds with
  | [.ptr u, f, gg, .ptr c, .ptr d] => ∃ a p q g F A r F2 A2 r2 T G n, RP C E m u a p q g c d F A r F2 A2 r2 T G n ∧ f = crv F A r ∧ gg = crv F2 A2 r2 ∧ T.length ≤ 401 ∧ n ≤ 1000 ∧
      ∀ m', RP C E m' u a p q g c d F A r F2 A2 r2 T G (max n (T.length + 1)) → Kp [q] m m' → R (.bl true) m'
  | _ => False
abbrev lamQ (x : Str) : Str := (x ++ ".<locals>.") ++ "<lambda>"
def sp_law_owes (C E P : Addr) : DSp := fun ds m R RX => match ds with
  | [.ptr u, f, gg, .ptr c, .ptr d, e] => ∃ a p q g F A r F2 A2 r2 T G n, RP C E m u a p q g c d F A r F2 A2 r2 T G n ∧ f = crv F A r ∧ gg = crv F2 A2 r2 ∧ T.length ≤ 401 ∧ n ≤ 1000 ∧ m P = some (.tab (lamQ "_law_owes")) ∧ ((∃ x, e = .int x ∧ 0 ≤ x) ∨ OddOk m e) ∧
      ∀ m' n', RP C E m' u a p q g c d F A r F2 A2 r2 T G n' → n' ≤ max n (T.length + 1) → Kp [q, P] m m' → m' P = some (.tab (lamQ "_law_owes")) → R (.bl true) m'
  | _ => False
def sp_law_done (C E P P2 : Addr) : DSp := fun ds m R RX => match ds with
  | [.ptr pen, .ptr u, f, gg, .ptr c, .ptr d] => ∃ b X a p q g F A r F2 A2 r2 T G n, m pen = some X ∧ PenOk b X ∧ b ≤ 2 ^ 28 ∧ RP C E m u a p q g c d F A r F2 A2 r2 T G n ∧ pen ≠ p ∧ pen ≠ q ∧ pen ≠ g ∧ pen ≠ c ∧ pen ≠ d ∧ f = crv F A r ∧ gg = crv F2 A2 r2 ∧ T.length ≤ 300 ∧ n ≤ 500 ∧
      m P = some (.tab (lamQ "_law_owes")) ∧ m P2 = some (.tab (lamQ "_law_done")) ∧
      ∀ m' X' T' G' n', m' pen = some X' → PenOk (b + 20) X' → RP C E m' u a p q g c d F A r F2 A2 r2 T' G' n' → T'.length ≤ T.length + 1 → n' ≤ max n (T.length + 3) → m' P = some (.tab (lamQ "_law_owes")) → m' P2 = some (.tab (lamQ "_law_done")) → Kp [pen, p, q, g, c, d, P, P2] m m' → R (.bl true) m'
  | _ => False
def sp_law_filled (C E P P2 : Addr) : DSp := fun ds m R RX => match ds with
  | [.ptr u, f, gg, .ptr c, .ptr d, odd] => ∃ a p q g F A r F2 A2 r2 T G n, RP C E m u a p q g c d F A r F2 A2 r2 T G n ∧ f = crv F A r ∧ gg = crv F2 A2 r2 ∧ T.length ≤ 300 ∧ n ≤ 500 ∧ OddOk m odd ∧
      m P = some (.tab (lamQ "_law_owes")) ∧ m P2 = some (.tab (lamQ "_law_filled")) ∧
      ∀ m' T' G' n', RP C E m' u a p q g c d F A r F2 A2 r2 T' G' n' → T'.length = 401 → n' ≤ 600 → Kp [p, q, g, c, d, P, P2] m m' → R (.bl true) m'
  | _ => False
end K56

namespace K56
open PySem PySem.Spec PyProof.Rows L2 Dl Pg Pn Mt
def r_is_number : DS :=
(dRet (dAndV (dIsi .int (dVar 0)) (dAndV (dNotV (dIsi .bool (dVar 0))) (dOp geD (dVar 0) (dC (.int 0))))))
def r_Meter_need_room (c_Meter : Addr) (c_NoStream : Addr) (c_TooLong : Addr) : DS :=
(dSeq (dIf (dNot (dB (dCall sp_is_number (dCons (dVar 1) dNil))))
(dRaise c_NoStream)
dNext)
(dIf (dB (dOp gtD (dOp (addD false) (dCB lenD (dCons (dFld c_Meter (dVar 0) "tallies") dNil)) (dVar 1)) (dOp (addD false) (dC (.int 400)) (dC (.int 1)))))
(dRaise c_TooLong)
dNext))
def r_Run_init (c_Meter : Addr) (c_Run : Addr) : DS :=
(dSeq (dSetF c_Run (dVar 0) "meter" (dMake c_Meter (sp_Meter_init c_Meter) (dCons (dVar 1) dNil)))
(dSeq (dSetF c_Run (dVar 0) "server" (dVar 2))
(dSetF c_Run (dVar 0) "gone" (dLst true (dCons (dC (.int 0)) dNil)))))
def r_Run_leave (c_Meter : Addr) (c_Run : Addr) : DS :=
(dRet (dMeth c_Meter "leave" (sp_Meter_leave c_Meter) (dFld c_Run (dVar 0) "meter") dNil))
def r_Run_held (c_Meter : Addr) (c_Run : Addr) : DS :=
(dRet (dOp subD (dOp ixD (dFld c_Meter (dFld c_Run (dVar 0) "meter") "tallies") (dNeg (dC (.int 1)))) (dOp ixD (dFld c_Run (dVar 0) "gone") (dNeg (dC (.int 1))))))
def r_Run_owed (c_Meter : Addr) (c_NoStream : Addr) (c_Run : Addr) (c_TooMuch : Addr) : DS :=
(dSeq (dIf (dNot (dB (dCall sp_is_number (dCons (dVar 1) dNil))))
(dRaise c_NoStream)
dNext)
(dSeq (dIf (dB (dOp gtD (dVar 1) (dMeth c_Run "leave" (sp_Run_leave c_Meter c_Run) (dVar 0) dNil)))
(dRaise c_TooMuch)
dNext)
(dSeq (dSet 2 (dOp (addD false) (dFld c_Meter (dFld c_Run (dVar 0) "meter") "tallies") (dLst false (dCons (dOp (addD false) (dOp ixD (dFld c_Meter (dFld c_Run (dVar 0) "meter") "tallies") (dNeg (dC (.int 1)))) (dVar 1)) dNil))))
(dSeq (dSet 3 (dOp subD (dCB lenD (dCons (dVar 2) dNil)) (dC (.int 1))))
(dSeq (dSet 4 (dCB minD (dCons (dLc false [5] false (rngI1 (dOp (addD false) (dVar 3) (dC (.int 1)))) dYes (dOp (addD false) (dOp ixD (dVar 2) (dVar 5)) (dCall sp_value (dCons (dFld c_Run (dVar 0) "server") (dCons (dOp subD (dVar 3) (dVar 5)) dNil))))) dNil)))
(dRet (dCB maxD (dCons (dC (.int 0)) (dCons (dOp subD (dVar 4) (dOp ixD (dFld c_Run (dVar 0) "gone") (dNeg (dC (.int 1))))) dNil)))))))))
def r_Run_turn (c_Meter : Addr) (c_NoStream : Addr) (c_Run : Addr) (c_TooLittle : Addr) (c_TooLong : Addr) (c_TooMuch : Addr) : DS :=
(dSeq (dIf (dOr (dNot (dB (dCall sp_is_number (dCons (dVar 1) dNil)))) (dNot (dB (dCall sp_is_number (dCons (dVar 2) dNil)))))
(dRaise c_NoStream)
dNext)
(dSeq (dExpr (dMethX c_Meter "need_room" (sp_Meter_need_room c_Meter c_NoStream c_TooLong) (dFld c_Run (dVar 0) "meter") (dCons (dC (.int 1)) dNil)))
(dSeq (dSet 3 (dMethX c_Run "owed" (sp_Run_owed c_Meter c_Run c_TooMuch c_TooLittle c_NoStream c_TooLong) (dVar 0) (dCons (dVar 1) dNil)))
(dSeq (dIf (dB (dOp gtD (dVar 2) (dOp (addD false) (dMeth c_Run "held" (sp_Run_held c_Meter c_Run) (dVar 0) dNil) (dVar 1))))
(dRaise c_TooMuch)
dNext)
(dSeq (dIf (dB (dOp ltD (dVar 2) (dVar 3)))
(dRaise c_TooLittle)
dNext)
(dSeq (dExpr (dLM appM (dFld c_Meter (dFld c_Run (dVar 0) "meter") "tallies") (dCons (dOp (addD false) (dOp ixD (dFld c_Meter (dFld c_Run (dVar 0) "meter") "tallies") (dNeg (dC (.int 1)))) (dVar 1)) dNil)))
(dSeq (dExpr (dLM appM (dFld c_Run (dVar 0) "gone") (dCons (dOp (addD false) (dOp ixD (dFld c_Run (dVar 0) "gone") (dNeg (dC (.int 1)))) (dVar 2)) dNil)))
(dRet (dMeth c_Run "held" (sp_Run_held c_Meter c_Run) (dVar 0) dNil)))))))))
def r_Run_told (c_Meter : Addr) (c_Run : Addr) : DS :=
(dRet (dTup (dCons (dMeth c_Meter "told" (sp_Meter_told c_Meter) (dFld c_Run (dVar 0) "meter") dNil) (dCons (dLc true [1] false (rngI2 (dC (.int 1)) (dCB lenD (dCons (dFld c_Run (dVar 0) "gone") dNil))) dYes (dOp subD (dOp ixD (dFld c_Run (dVar 0) "gone") (dVar 1)) (dOp ixD (dFld c_Run (dVar 0) "gone") (dOp subD (dVar 1) (dC (.int 1)))))) dNil))))
def r_law_server : DS :=
(dSeq (dAsg (tupG 3 (consG (nameG 3) (consG (nameG 4) (consG (nameG 5) nilG)))) (dCall sp_law_curve (dCons (dVar 0) dNil)))
(dSeq (dSet 6 (dOp divD (dOp subD (dOp (addD false) (dOp (mulD false) (dOp ixD (dVar 1) (dC (.int 2))) (dCB lenD (dCons (dVar 4) dNil))) (dCB lenD (dCons (dOp ixD (dVar 1) (dC (.int 1))) dNil))) (dC (.int 1))) (dCB lenD (dCons (dOp ixD (dVar 1) (dC (.int 1))) dNil))))
(dSeq (dSet 7 (dCall sp_law_take (dCons (dVar 0) (dCons (dC (.int 4)) dNil))))
(dSeq (dIf (dB (dVar 2))
(dSet 6 (dC (.int 0)))
(dIf (dB (dOp eqD (dVar 7) (dC (.int 0))))
(dSet 5 (dCB maxD (dCons (dVar 6) (dCons (dOp subD (dOp ixD (dVar 4) (dNeg (dC (.int 1)))) (dOp ixD (dVar 4) (dC (.int 0)))) dNil))))
dNext))
(dRet (dTup (dCons (dVar 3) (dCons (dVar 4) (dCons (dCB maxD (dCons (dVar 5) (dCons (dVar 6) dNil))) dNil)))))))))
def r_law_word (c_Endless : Addr) (c_NoBack : Addr) (c_NoCurve : Addr) (c_NoName : Addr) (c_NoNet : Addr) (c_NoRow : Addr) (c_NoStream : Addr) (c_NoText : Addr) (c_Ring : Addr) (c_TooLittle : Addr) (c_TooLong : Addr) (c_TooMuch : Addr) (dX : DE) : DS :=
(dSeq (dSet 1 (dC .non))
(dSeq (dSet 2 (dC .non))
(dSeq (dTry [c_NoStream, c_TooLong, c_TooMuch, c_TooLittle] 3
(dSet 2 dX)
(dSet 1 (dVar 3)))
(dSeq (dIf (dB (dOp isD (dVar 1) (dC .non)))
(dRet (dTup (dCons (dC (.str "told")) (dCons (dVar 2) dNil))))
dNext)
(dSeq (dIf (dB (dCB (isExD (.tup ([c_Endless, c_NoBack, c_NoCurve, c_NoName, c_NoNet, c_NoRow, c_NoText, c_Ring].map D.ptr)) [(c_NoStream, false), (c_TooLong, false), (c_TooMuch, false), (c_TooLittle, false)]) (dCons (dVar 1) (dCons (dTup (dCons (dC (.ptr c_Endless)) (dCons (dC (.ptr c_NoBack)) (dCons (dC (.ptr c_NoCurve)) (dCons (dC (.ptr c_NoName)) (dCons (dC (.ptr c_NoNet)) (dCons (dC (.ptr c_NoRow)) (dCons (dC (.ptr c_NoText)) (dCons (dC (.ptr c_Ring)) dNil))))))))) dNil))))
(dRet (dTup (dCons (dC (.str "other")) (dCons (dC .non) dNil))))
dNext)
(dSeq (dSet 4 (dLst true (dCons (dCB (isExD (.ptr c_NoStream) [(c_NoStream, true), (c_TooLong, false), (c_TooMuch, false), (c_TooLittle, false)]) (dCons (dVar 1) (dCons (dC (.ptr c_NoStream)) dNil))) (dCons (dCB (isExD (.ptr c_TooLong) [(c_NoStream, false), (c_TooLong, true), (c_TooMuch, false), (c_TooLittle, false)]) (dCons (dVar 1) (dCons (dC (.ptr c_TooLong)) dNil))) (dCons (dCB (isExD (.ptr c_TooMuch) [(c_NoStream, false), (c_TooLong, false), (c_TooMuch, true), (c_TooLittle, false)]) (dCons (dVar 1) (dCons (dC (.ptr c_TooMuch)) dNil))) dNil)))))
(dSeq (dExpr (dLM appM (dVar 4) (dCons (dCB (isExD (.ptr c_TooLittle) [(c_NoStream, false), (c_TooLong, false), (c_TooMuch, false), (c_TooLittle, true)]) (dCons (dVar 1) (dCons (dC (.ptr c_TooLittle)) dNil))) dNil)))
(dSeq (dIf (dOr (dB (dOp neD (dLM countM (dVar 4) (dCons (dC (.bl true)) dNil)) (dC (.int 1)))) (dNot (dB (dCB (isExD (.ty "ValueError") [(c_NoStream, true), (c_TooLong, true), (c_TooMuch, true), (c_TooLittle, true)]) (dCons (dVar 1) (dCons (dC (.ty "ValueError")) dNil))))))
(dRet (dTup (dCons (dC (.str "other")) (dCons (dC .non) dNil))))
dNext)
(dRet (dTup (dCons (dOp ixD (dLst false (dCons (dC (.str "stream")) (dCons (dC (.str "long")) (dCons (dC (.str "much")) (dCons (dC (.str "little")) dNil))))) (dLM indexM (dVar 4) (dCons (dC (.bl true)) dNil))) (dCons (dC .non) dNil))))))))))))
def r_law_leave : DS :=
(dSeq (dSet 2 (dCB lenD (dCons (dVar 1) dNil)))
(dRet (dOp subD (dCB minD (dCons (dLc false [3] false (rngI1 (dVar 2)) dYes (dOp (addD false) (dOp ixD (dVar 1) (dVar 3)) (dCall sp_law_at (dCons (dVar 0) (dCons (dOp subD (dVar 2) (dVar 3)) dNil))))) dNil)) (dOp ixD (dVar 1) (dNeg (dC (.int 1)))))))
def r_law_owed : DS :=
(dSeq (dSet 4 (dOp (addD false) (dVar 1) (dLst false (dCons (dOp (addD false) (dOp ixD (dVar 1) (dNeg (dC (.int 1)))) (dVar 3)) dNil))))
(dSeq (dSet 5 (dCB lenD (dCons (dVar 1) dNil)))
(dRet (dCB maxD (dCons (dC (.int 0)) (dCons (dOp subD (dCB minD (dCons (dLc false [6] false (rngI1 (dOp (addD false) (dVar 5) (dC (.int 1)))) dYes (dOp (addD false) (dOp ixD (dVar 4) (dVar 6)) (dCall sp_law_at (dCons (dVar 0) (dCons (dOp subD (dVar 5) (dVar 6)) dNil))))) dNil)) (dOp ixD (dVar 2) (dNeg (dC (.int 1))))) dNil))))))
def r_law_odd : DS :=
(dSeq (dSet 1 (dLst false (dCons (dC .non) (dCons (dC (.bl true)) (dCons (dC (.bl false)) (dCons (dC (.str "1")) (dCons (dNeg (dC (.int 1))) (dCons (dLst false (dCons (dC (.int 1)) dNil)) (dCons (dTup (dCons (dC (.int 1)) dNil)) (dCons dDNew (dCons (dOp subD (dOp subD (dC (.int 0)) (dOp powD (dC (.int 10)) (dC (.int 29)))) (dCall sp_law_take (dCons (dVar 0) (dCons (dC (.int 9)) dNil)))) dNil)))))))))))
(dRet (dOp ixD (dVar 1) (dCall sp_law_take (dCons (dVar 0) (dCons (dCB lenD (dCons (dVar 1) dNil)) dNil))))))
def r_law_asked_12 : DS :=
(dSeq (dIf (dB (dOp eqD (dVar 5) (dC (.int 7))))
(dRet (dOp ixD (dLst false (dCons (dTup (dCons (dVar 8) (dCons (dVar 13) (dCons (dC (.str "stream")) dNil)))) (dCons (dTup (dCons (dVar 8) (dCons (dOp (addD false) (dOp (addD false) (dVar 12) (dC (.int 1))) (dVar 7)) (dCons (dC (.str "stream")) dNil)))) dNil))) (dOp modD (dVar 6) (dC (.int 2)))))
dNext)
(dSeq (dIf (dB (dOp eqD (dVar 5) (dC (.int 8))))
(dRet (dOp ixD (dLst false (dCons (dTup (dCons (dVar 10) (dCons (dVar 8) (dCons (dC (.str "stream")) dNil)))) (dCons (dTup (dCons (dOp (addD false) (dOp (addD false) (dVar 9) (dC (.int 1))) (dVar 7)) (dCons (dVar 8) (dCons (dC (.str "stream")) dNil)))) (dCons (dTup (dCons (dVar 8) (dCons (dVar 8) (dCons (dC (.str "stream")) dNil)))) dNil)))) (dOp modD (dVar 6) (dC (.int 3)))))
dNext)
(dRet (dTup (dCons (dVar 10) (dCons (dVar 13) (dCons (dC (.str "told")) dNil)))))))
def r_law_asked_9 : DS :=
(dSeq (dIf (dB (dOp eqD (dVar 5) (dC (.int 4))))
(dRet (dTup (dCons (dOp (addD false) (dOp (addD false) (dVar 9) (dC (.int 1))) (dVar 7)) (dCons (dOp ixD (dLst false (dCons (dC (.int 0)) (dCons (dVar 12) (dCons (dOp (addD false) (dVar 12) (dVar 7)) dNil)))) (dOp modD (dVar 6) (dC (.int 3)))) (dCons (dC (.str "much")) dNil)))))
dNext)
(dSeq (dIf (dB (dOp eqD (dVar 5) (dC (.int 5))))
(dRet (dTup (dCons (dVar 10) (dCons (dOp (addD false) (dOp (addD false) (dVar 12) (dC (.int 1))) (dVar 7)) (dCons (dC (.str "much")) dNil)))))
dNext)
(dSeq (dIf (dAnd (dB (dOp eqD (dVar 5) (dC (.int 6)))) (dB (dOp gtD (dVar 11) (dC (.int 0)))))
(dRet (dTup (dCons (dVar 10) (dCons (dOp ixD (dLst false (dCons (dOp subD (dVar 11) (dC (.int 1))) (dCons (dC (.int 0)) dNil))) (dOp modD (dVar 6) (dC (.int 2)))) (dCons (dC (.str "little")) dNil)))))
dNext)
(r_law_asked_12))))
def r_law_asked_8 : DS :=
(dSeq (dSet 13 (dOp ixD (dLst false (dCons (dVar 11) (dCons (dOp (addD false) (dVar 11) (dOp divD (dOp (mulD false) (dOp subD (dVar 12) (dVar 11)) (dVar 6)) (dC (.int 7)))) (dCons (dVar 12) dNil)))) (dCall sp_law_take (dCons (dVar 0) (dCons (dC (.int 3)) dNil)))))
(r_law_asked_9))
def r_law_asked_7 : DS :=
(dSeq (dSet 12 (dOp (addD false) (dOp subD (dOp ixD (dVar 3) (dNeg (dC (.int 1)))) (dOp ixD (dVar 4) (dNeg (dC (.int 1))))) (dVar 10)))
(r_law_asked_8))
def r_law_asked_4 : DS :=
(dSeq (dSet 9 (dCall sp_law_leave (dCons (dVar 1) (dCons (dVar 3) dNil))))
(dSeq (dSet 10 (dOp ixD (dLst false (dCons (dVar 9) (dCons (dOp divD (dOp (mulD false) (dVar 9) (dVar 6)) (dC (.int 7))) (dCons (dCB minD (dCons (dVar 9) (dCons (dVar 6) dNil))) (dCons (dC (.int 0)) dNil))))) (dCall sp_law_take (dCons (dVar 0) (dCons (dC (.int 4)) dNil)))))
(dSeq (dSet 11 (dCall sp_law_owed (dCons (dVar 2) (dCons (dVar 3) (dCons (dVar 4) (dCons (dVar 10) dNil))))))
(r_law_asked_7))))
def r_law_asked : DS :=
(dSeq (dSet 5 (dCall sp_law_take (dCons (dVar 0) (dCons (dC (.int 9)) dNil))))
(dSeq (dSet 6 (dCall sp_law_take (dCons (dVar 0) (dCons (dC (.int 8)) dNil))))
(dSeq (dSet 7 (dOp ixD (dLst false (dCons (dC (.int 0)) (dCons (dC (.int 0)) (dCons (dC (.int 5)) (dCons (dOp powD (dC (.int 10)) (dC (.int 28))) dNil))))) (dCall sp_law_take (dCons (dVar 0) (dCons (dC (.int 4)) dNil)))))
(dSeq (dSet 8 (dCall sp_law_odd (dCons (dVar 0) dNil)))
(r_law_asked_4)))))
def r_law_stands_l1 (c_Meter : Addr) (c_Run : Addr) : DS :=
(dSeq (dSet 8 (dMeth c_Run "told" (sp_Run_told c_Meter c_Run) (dVar 0) dNil))
(dSeq (dIf (dB (dOp neD (dCB reprD (dCons (dVar 8) dNil)) (dCB reprD (dCons (dVar 5) dNil))))
(dRet (dC (.bl false)))
dNext)
(dSeq (dExpr (dLM appM (dOp ixD (dVar 8) (dC (.int 0))) (dCons (dC (.int 1)) dNil)))
(dExpr (dLM clearM (dOp ixD (dVar 8) (dC (.int 1))) dNil)))))
def r_law_stands_2 (c_Meter : Addr) (c_Run : Addr) : DS :=
(dRet (dOp eqD (dCB reprD (dCons (dTup (dCons (dMeth c_Run "leave" (sp_Run_leave c_Meter c_Run) (dVar 0) dNil) (dCons (dMeth c_Run "held" (sp_Run_held c_Meter c_Run) (dVar 0) dNil) dNil))) dNil)) (dCB reprD (dCons (dTup (dCons (dCall sp_law_leave (dCons (dVar 1) (dCons (dVar 3) dNil))) (dCons (dOp subD (dOp ixD (dVar 3) (dNeg (dC (.int 1)))) (dOp ixD (dVar 4) (dNeg (dC (.int 1))))) dNil))) dNil))))
def r_law_stands_1 (c_Meter : Addr) (c_Run : Addr) : DS :=
(dSeq (dFor (rngI1 (dC (.int 2))) (nameG 7)
(r_law_stands_l1 c_Meter c_Run))
(r_law_stands_2 c_Meter c_Run))
def r_law_stands (c_Meter : Addr) (c_Run : Addr) : DS :=
(dSeq (dSet 5 (dTup (dCons (dLc false [6] false (rngI2 (dC (.int 1)) (dCB lenD (dCons (dVar 3) dNil))) dYes (dOp subD (dOp ixD (dVar 3) (dVar 6)) (dOp ixD (dVar 3) (dOp subD (dVar 6) (dC (.int 1)))))) (dCons (dLc false [6] false (rngI2 (dC (.int 1)) (dCB lenD (dCons (dVar 4) dNil))) dYes (dOp subD (dOp ixD (dVar 4) (dVar 6)) (dOp ixD (dVar 4) (dOp subD (dVar 6) (dC (.int 1)))))) dNil))))
(r_law_stands_1 c_Meter c_Run))
def r_law_owes_2 (c_Endless : Addr) (c_Meter : Addr) (c_NoBack : Addr) (c_NoCurve : Addr) (c_NoName : Addr) (c_NoNet : Addr) (c_NoRow : Addr) (c_NoStream : Addr) (c_NoText : Addr) (c_Ring : Addr) (c_Run : Addr) (c_TooLittle : Addr) (c_TooLong : Addr) (c_TooMuch : Addr) (p_law_owes : Addr) : DS :=
(dRet (dOp eqD (dCB reprD (dCons (dWord (r_law_word c_Endless c_NoBack c_NoCurve c_NoName c_NoNet c_NoRow c_NoStream c_NoText c_Ring c_TooLittle c_TooLong c_TooMuch) 4 p_law_owes ((("_law_owes" : Str) ++ ".<locals>.") ++ "<lambda>") (dMethX c_Run "owed" (sp_Run_owed c_Meter c_Run c_TooMuch c_TooLittle c_NoStream c_TooLong) (dVar 0) (dCons (dVar 5) dNil))) dNil)) (dCB reprD (dCons (dVar 6) dNil))))
def r_law_owes (c_Endless : Addr) (c_Meter : Addr) (c_NoBack : Addr) (c_NoCurve : Addr) (c_NoName : Addr) (c_NoNet : Addr) (c_NoRow : Addr) (c_NoStream : Addr) (c_NoText : Addr) (c_Ring : Addr) (c_Run : Addr) (c_TooLittle : Addr) (c_TooLong : Addr) (c_TooMuch : Addr) (p_law_owes : Addr) : DS :=
(dSeq (dSet 6 (dTup (dCons (dC (.str "stream")) (dCons (dC .non) dNil))))
(dSeq (dIf (dAnd (dB (dIsi .int (dVar 5))) (dAnd (dNot (dB (dIsi .bool (dVar 5)))) (dB (dOp geD (dVar 5) (dC (.int 0))))))
(dSeq (dSet 6 (dTup (dCons (dC (.str "much")) (dCons (dC .non) dNil))))
(dIf (dB (dOp leD (dVar 5) (dCall sp_law_leave (dCons (dVar 1) (dCons (dVar 3) dNil)))))
(dSet 6 (dTup (dCons (dC (.str "told")) (dCons (dCall sp_law_owed (dCons (dVar 2) (dCons (dVar 3) (dCons (dVar 4) (dCons (dVar 5) dNil))))) dNil))))
dNext))
dNext)
(r_law_owes_2 c_Endless c_Meter c_NoBack c_NoCurve c_NoName c_NoNet c_NoRow c_NoStream c_NoText c_Ring c_Run c_TooLittle c_TooLong c_TooMuch p_law_owes)))
def r_law_done_6 (c_Meter : Addr) (c_Run : Addr) : DS :=
(dSeq (dIf (dB (dOp eqD (dVar 10) (dC (.str "told"))))
(dSeq (dExpr (dLM appM (dVar 4) (dCons (dOp (addD false) (dOp ixD (dVar 4) (dNeg (dC (.int 1)))) (dVar 8)) dNil)))
(dSeq (dExpr (dLM appM (dVar 5) (dCons (dOp (addD false) (dOp ixD (dVar 5) (dNeg (dC (.int 1)))) (dVar 9)) dNil)))
(dSet 12 (dTup (dCons (dOp ixD (dVar 12) (dC (.int 0))) (dCons (dOp eqD (dCB reprD (dCons (dOp ixD (dVar 12) (dC (.int 1))) dNil)) (dCB reprD (dCons (dOp subD (dOp ixD (dVar 4) (dNeg (dC (.int 1)))) (dOp ixD (dVar 5) (dNeg (dC (.int 1))))) dNil))) dNil))))))
dNext)
(dSeq (dIf (dB (dOp neD (dVar 12) (dTup (dCons (dVar 10) (dCons (dOp ixD (dLst false (dCons (dC .non) (dCons (dC (.bl true)) dNil))) (dCB intD (dCons (dOp eqD (dVar 10) (dC (.str "told"))) dNil))) dNil)))))
(dRet (dC (.bl false)))
dNext)
(dRet (dOrV (dOp gtD (dVar 7) (dC (.int 0))) (dCall (sp_law_stands c_Meter c_Run) (dCons (dVar 1) (dCons (dVar 2) (dCons (dVar 3) (dCons (dVar 4) (dCons (dVar 5) dNil))))))))))
def r_law_done_5 (c_Endless : Addr) (c_Meter : Addr) (c_NoBack : Addr) (c_NoCurve : Addr) (c_NoName : Addr) (c_NoNet : Addr) (c_NoRow : Addr) (c_NoStream : Addr) (c_NoText : Addr) (c_Ring : Addr) (c_Run : Addr) (c_TooLittle : Addr) (c_TooLong : Addr) (c_TooMuch : Addr) (p_law_done : Addr) : DS :=
(dSeq (dSet 12 (dWord (r_law_word c_Endless c_NoBack c_NoCurve c_NoName c_NoNet c_NoRow c_NoStream c_NoText c_Ring c_TooLittle c_TooLong c_TooMuch) 4 p_law_done ((("_law_done" : Str) ++ ".<locals>.") ++ "<lambda>") (dMethX c_Run "turn" (sp_Run_turn c_Meter c_Run c_TooMuch c_TooLittle c_NoStream c_TooLong) (dVar 1) (dCons (dVar 8) (dCons (dVar 9) dNil)))))
(r_law_done_6 c_Meter c_Run))
def r_law_done_4 (c_Endless : Addr) (c_Meter : Addr) (c_NoBack : Addr) (c_NoCurve : Addr) (c_NoName : Addr) (c_NoNet : Addr) (c_NoRow : Addr) (c_NoStream : Addr) (c_NoText : Addr) (c_Ring : Addr) (c_Run : Addr) (c_TooLittle : Addr) (c_TooLong : Addr) (c_TooMuch : Addr) (p_law_done : Addr) (p_law_owes : Addr) : DS :=
(dSeq (dIf (dAnd (dB (dOp ltD (dVar 6) (dC (.int 2)))) (dNot (dB (dCall (sp_law_owes c_Meter c_Run p_law_owes) (dCons (dVar 1) (dCons (dVar 2) (dCons (dVar 3) (dCons (dVar 4) (dCons (dVar 5) (dCons (dOp ixD (dLst false (dCons (dVar 8) (dCons (dVar 11) dNil))) (dVar 6)) dNil))))))))))
(dRet (dC (.bl false)))
dNext)
(r_law_done_5 c_Endless c_Meter c_NoBack c_NoCurve c_NoName c_NoNet c_NoRow c_NoStream c_NoText c_Ring c_Run c_TooLittle c_TooLong c_TooMuch p_law_done))
def r_law_done (c_Endless : Addr) (c_Meter : Addr) (c_NoBack : Addr) (c_NoCurve : Addr) (c_NoName : Addr) (c_NoNet : Addr) (c_NoRow : Addr) (c_NoStream : Addr) (c_NoText : Addr) (c_Ring : Addr) (c_Run : Addr) (c_TooLittle : Addr) (c_TooLong : Addr) (c_TooMuch : Addr) (p_law_done : Addr) (p_law_owes : Addr) : DS :=
(dSeq (dSet 6 (dCall sp_law_take (dCons (dVar 0) (dCons (dC (.int 4)) dNil))))
(dSeq (dSet 7 (dCall sp_law_take (dCons (dVar 0) (dCons (dC (.int 3)) dNil))))
(dSeq (dAsg (tupG 3 (consG (nameG 8) (consG (nameG 9) (consG (nameG 10) nilG)))) (dCall sp_law_asked (dCons (dVar 0) (dCons (dVar 2) (dCons (dVar 3) (dCons (dVar 4) (dCons (dVar 5) dNil)))))))
(dSeq (dSet 11 (dCall sp_law_take (dCons (dVar 0) (dCons (dOp (addD false) (dC (.int 2)) (dCall sp_law_leave (dCons (dVar 2) (dCons (dVar 4) dNil)))) dNil))))
(r_law_done_4 c_Endless c_Meter c_NoBack c_NoCurve c_NoName c_NoNet c_NoRow c_NoStream c_NoText c_Ring c_Run c_TooLittle c_TooLong c_TooMuch p_law_done p_law_owes)))))
def r_law_filled_l1 (c_Meter : Addr) (c_NoStream : Addr) (c_Run : Addr) (c_TooLittle : Addr) (c_TooLong : Addr) (c_TooMuch : Addr) : DS :=
(dSeq (dSet 7 (dCB lenD (dCons (dVar 3) dNil)))
(dSeq (dSet 8 (dCB minD (dCons (dLc false [9] false (rngI1 (dCB lenD (dCons (dVar 6) dNil))) dYes (dOp (addD false) (dOp ixD (dVar 6) (dVar 9)) (dCall sp_law_at (dCons (dVar 2) (dCons (dOp subD (dVar 7) (dVar 9)) dNil))))) dNil)))
(dSeq (dExpr (dLM appM (dVar 4) (dCons (dCB maxD (dCons (dOp ixD (dVar 4) (dNeg (dC (.int 1)))) (dCons (dCB minD (dCons (dVar 8) (dCons (dOp ixD (dVar 3) (dNeg (dC (.int 1)))) dNil))) dNil))) dNil)))
(dSeq (dExpr (dLM appM (dVar 3) (dCons (dOp ixD (dVar 3) (dNeg (dC (.int 1)))) dNil)))
(dIf (dB (dOp neD (dMeth c_Run "turn" (sp_Run_turn c_Meter c_Run c_TooMuch c_TooLittle c_NoStream c_TooLong) (dVar 0) (dCons (dC (.int 0)) (dCons (dOp subD (dOp ixD (dVar 4) (dNeg (dC (.int 1)))) (dOp ixD (dVar 4) (dNeg (dC (.int 2))))) dNil))) (dOp subD (dOp ixD (dVar 3) (dNeg (dC (.int 1)))) (dOp ixD (dVar 4) (dNeg (dC (.int 1)))))))
(dRet (dC (.bl false)))
dNext)))))
def r_law_filled_l2 (c_Endless : Addr) (c_Meter : Addr) (c_NoBack : Addr) (c_NoCurve : Addr) (c_NoName : Addr) (c_NoNet : Addr) (c_NoRow : Addr) (c_NoStream : Addr) (c_NoText : Addr) (c_Ring : Addr) (c_Run : Addr) (c_TooLittle : Addr) (c_TooLong : Addr) (c_TooMuch : Addr) (p_law_filled : Addr) : DS :=
(dExpr (dLM appM (dVar 11) (dCons (dOp ixD (dWord (r_law_word c_Endless c_NoBack c_NoCurve c_NoName c_NoNet c_NoRow c_NoStream c_NoText c_Ring c_TooLittle c_TooLong c_TooMuch) 4 p_law_filled ((("_law_filled" : Str) ++ ".<locals>.") ++ "<lambda>") (dMethX c_Run "turn" (sp_Run_turn c_Meter c_Run c_TooMuch c_TooLittle c_NoStream c_TooLong) (dVar 0) (dCons (dVar 12) (dCons (dVar 13) dNil)))) (dC (.int 0))) dNil)))
def r_law_filled_l3 (c_Meter : Addr) (c_Run : Addr) (p_law_owes : Addr) : DS :=
(dIf (dNot (dB (dCall (sp_law_owes c_Meter c_Run p_law_owes) (dCons (dVar 0) (dCons (dVar 1) (dCons (dVar 2) (dCons (dVar 3) (dCons (dVar 4) (dCons (dVar 12) dNil)))))))))
(dRet (dC (.bl false)))
dNext)
def r_law_filled_7 (c_Meter : Addr) (c_Run : Addr) (p_law_owes : Addr) : DS :=
(dSeq (dFor (seqI (dLst false (dCons (dC (.int 0)) (dCons (dVar 10) (dCons (dOp (addD false) (dVar 10) (dC (.int 1))) (dCons (dVar 5) dNil)))))) (nameG 12)
(r_law_filled_l3 c_Meter c_Run p_law_owes))
(dRet (dC (.bl true))))
def r_law_filled_6 (c_Meter : Addr) (c_Run : Addr) (p_law_owes : Addr) : DS :=
(dSeq (dIf (dOr (dB (dOp neD (dVar 11) (dLst false (dCons (dC (.str "long")) (dCons (dC (.str "long")) (dCons (dC (.str "stream")) (dCons (dC (.str "stream")) (dCons (dC (.str "long")) dNil)))))))) (dNot (dB (dCall (sp_law_stands c_Meter c_Run) (dCons (dVar 0) (dCons (dVar 1) (dCons (dVar 2) (dCons (dVar 3) (dCons (dVar 4) dNil)))))))))
(dRet (dC (.bl false)))
dNext)
(r_law_filled_7 c_Meter c_Run p_law_owes))
def r_law_filled_5 (c_Endless : Addr) (c_Meter : Addr) (c_NoBack : Addr) (c_NoCurve : Addr) (c_NoName : Addr) (c_NoNet : Addr) (c_NoRow : Addr) (c_NoStream : Addr) (c_NoText : Addr) (c_Ring : Addr) (c_Run : Addr) (c_TooLittle : Addr) (c_TooLong : Addr) (c_TooMuch : Addr) (p_law_filled : Addr) (p_law_owes : Addr) : DS :=
(dSeq (dFor (seqI (dLst false (dCons (dTup (dCons (dC (.int 0)) (dCons (dVar 7) dNil))) (dCons (dTup (dCons (dOp (addD false) (dVar 10) (dC (.int 1))) (dCons (dC (.int 0)) dNil))) (dCons (dTup (dCons (dVar 5) (dCons (dC (.int 0)) dNil))) (dCons (dTup (dCons (dC (.int 0)) (dCons (dVar 5) dNil))) (dCons (dTup (dCons (dC (.int 0)) (dCons (dOp (addD false) (dVar 7) (dC (.int 1))) dNil))) dNil))))))) (tupG 2 (consG (nameG 12) (consG (nameG 13) nilG)))
(r_law_filled_l2 c_Endless c_Meter c_NoBack c_NoCurve c_NoName c_NoNet c_NoRow c_NoStream c_NoText c_Ring c_Run c_TooLittle c_TooLong c_TooMuch p_law_filled))
(r_law_filled_6 c_Meter c_Run p_law_owes))
def r_law_filled_2 (c_Endless : Addr) (c_Meter : Addr) (c_NoBack : Addr) (c_NoCurve : Addr) (c_NoName : Addr) (c_NoNet : Addr) (c_NoRow : Addr) (c_NoStream : Addr) (c_NoText : Addr) (c_Ring : Addr) (c_Run : Addr) (c_TooLittle : Addr) (c_TooLong : Addr) (c_TooMuch : Addr) (p_law_filled : Addr) (p_law_owes : Addr) : DS :=
(dSeq (dSet 7 (dOp subD (dOp ixD (dVar 3) (dNeg (dC (.int 1)))) (dOp ixD (dVar 4) (dNeg (dC (.int 1))))))
(dSeq (dSet 10 (dCall sp_law_leave (dCons (dVar 1) (dCons (dVar 3) dNil))))
(dSeq (dSet 11 (dLst true dNil))
(r_law_filled_5 c_Endless c_Meter c_NoBack c_NoCurve c_NoName c_NoNet c_NoRow c_NoStream c_NoText c_Ring c_Run c_TooLittle c_TooLong c_TooMuch p_law_filled p_law_owes))))
def r_law_filled_1 (c_Endless : Addr) (c_Meter : Addr) (c_NoBack : Addr) (c_NoCurve : Addr) (c_NoName : Addr) (c_NoNet : Addr) (c_NoRow : Addr) (c_NoStream : Addr) (c_NoText : Addr) (c_Ring : Addr) (c_Run : Addr) (c_TooLittle : Addr) (c_TooLong : Addr) (c_TooMuch : Addr) (p_law_filled : Addr) (p_law_owes : Addr) : DS :=
(dSeq (dWhile (dB (dOp ltD (dCB lenD (dCons (dVar 3) dNil)) (dC (.int 401))))
(r_law_filled_l1 c_Meter c_NoStream c_Run c_TooLittle c_TooLong c_TooMuch))
(r_law_filled_2 c_Endless c_Meter c_NoBack c_NoCurve c_NoName c_NoNet c_NoRow c_NoStream c_NoText c_Ring c_Run c_TooLittle c_TooLong c_TooMuch p_law_filled p_law_owes))
def r_law_filled (c_Endless : Addr) (c_Meter : Addr) (c_NoBack : Addr) (c_NoCurve : Addr) (c_NoName : Addr) (c_NoNet : Addr) (c_NoRow : Addr) (c_NoStream : Addr) (c_NoText : Addr) (c_Ring : Addr) (c_Run : Addr) (c_TooLittle : Addr) (c_TooLong : Addr) (c_TooMuch : Addr) (p_law_filled : Addr) (p_law_owes : Addr) : DS :=
(dSeq (dSet 6 (dCB (listD false) (dCons (dVar 3) dNil)))
(r_law_filled_1 c_Endless c_Meter c_NoBack c_NoCurve c_NoName c_NoNet c_NoRow c_NoStream c_NoText c_Ring c_Run c_TooLittle c_TooLong c_TooMuch p_law_filled p_law_owes))
def r_law_l1 (c_Meter : Addr) (c_Run : Addr) (p_law_done : Addr) (p_law_owes : Addr) : DS :=
(dIf (dNot (dB (dCall (sp_law_done c_Meter c_Run p_law_owes p_law_done) (dCons (dVar 1) (dCons (dVar 5) (dCons (dVar 3) (dCons (dVar 4) (dCons (dVar 7) (dCons (dVar 8) dNil)))))))))
(dRet (dC (.bl false)))
dNext)
def r_law_11 (c_Meter : Addr) (c_Run : Addr) : DS :=
(dRet (dCall (sp_law_stands c_Meter c_Run) (dCons (dVar 6) (dCons (dVar 3) (dCons (dVar 4) (dCons (dLst true (dCons (dC (.int 0)) dNil)) (dCons (dLst true (dCons (dC (.int 0)) dNil)) dNil)))))))
def r_law_10 (c_Meter : Addr) (c_Run : Addr) (p_law_filled : Addr) (p_law_owes : Addr) : DS :=
(dSeq (dIf (dAnd (dB (dVar 2)) (dNot (dB (dCall (sp_law_filled c_Meter c_Run p_law_owes p_law_filled) (dCons (dVar 5) (dCons (dVar 3) (dCons (dVar 4) (dCons (dVar 7) (dCons (dVar 8) (dCons (dCall sp_law_odd (dCons (dVar 1) dNil)) dNil))))))))))
(dRet (dC (.bl false)))
dNext)
(r_law_11 c_Meter c_Run))
def r_law_9 (c_Meter : Addr) (c_Run : Addr) (p_law_filled : Addr) (p_law_owes : Addr) : DS :=
(dSeq (dIf (dNot (dB (dCall (sp_law_stands c_Meter c_Run) (dCons (dVar 5) (dCons (dVar 3) (dCons (dVar 4) (dCons (dVar 7) (dCons (dVar 8) dNil))))))))
(dRet (dC (.bl false)))
dNext)
(r_law_10 c_Meter c_Run p_law_filled p_law_owes))
def r_law_8 (c_Meter : Addr) (c_Run : Addr) (p_law_done : Addr) (p_law_filled : Addr) (p_law_owes : Addr) : DS :=
(dSeq (dFor (rngI1 (dOp (addD false) (dC (.int 4)) (dCall sp_law_take (dCons (dVar 1) (dCons (dC (.int 21)) dNil))))) (nameG 9)
(r_law_l1 c_Meter c_Run p_law_done p_law_owes))
(r_law_9 c_Meter c_Run p_law_filled p_law_owes))
def r_law_4 (c_Meter : Addr) (c_Run : Addr) (p_law_done : Addr) (p_law_filled : Addr) (p_law_owes : Addr) : DS :=
(dSeq (dSet 5 (dMake c_Run (sp_Run_init c_Meter c_Run) (dCons (dVar 3) (dCons (dVar 4) dNil))))
(dSeq (dSet 6 (dMake c_Run (sp_Run_init c_Meter c_Run) (dCons (dVar 3) (dCons (dVar 4) dNil))))
(dSeq (dSet 7 (dLst true (dCons (dC (.int 0)) dNil)))
(dSeq (dSet 8 (dLst true (dCons (dC (.int 0)) dNil)))
(r_law_8 c_Meter c_Run p_law_done p_law_filled p_law_owes)))))
def r_law (c_Meter : Addr) (c_Run : Addr) (p_law_done : Addr) (p_law_filled : Addr) (p_law_owes : Addr) : DS :=
(dSeq (dSet 1 (dCall sp_law_pen (dCons (dVar 0) dNil)))
(dSeq (dSet 2 (dOp eqD (dCall sp_law_take (dCons (dVar 1) (dCons (dC (.int 8)) dNil))) (dC (.int 7))))
(dSeq (dSet 3 (dCall sp_law_curve (dCons (dVar 1) dNil)))
(dSeq (dSet 4 (dCall sp_law_server (dCons (dVar 1) (dCons (dVar 3) (dCons (dOp eqD (dCall sp_law_take (dCons (dVar 1) (dCons (dC (.int 4)) dNil))) (dC (.int 3))) dNil)))))
(r_law_4 c_Meter c_Run p_law_done p_law_filled p_law_owes)))))
end K56

namespace K56
open PySem PySem.Spec PyProof.Rows L2 Dl Pg Pn Mt
theorem v_is_number {ds : List D} {m : Sto} {R : D → Sto → Prop} {RX : DX} (h : sp_is_number ds m R RX) : r_is_number { nx := fun _ m' => R .non m', rt := R } ⟨ds.map some ++ List.replicate (1 - ds.length) none, fun _ => RX⟩ m := K55.v_is_number (RX := RX) h
variable {c_Meter c_Run c_TooMuch c_TooLittle c_NoStream c_TooLong : Addr}
theorem v_Meter_need_room {ds : List D} {m : Sto} {R : D → Sto → Prop} {RX : DX} (h : sp_Meter_need_room c_Meter c_NoStream c_TooLong ds m R RX) : r_Meter_need_room c_Meter c_NoStream c_TooLong { nx := fun _ m' => R .non m', rt := R } ⟨ds.map some ++ List.replicate (2 - ds.length) none, fun _ => RX⟩ m := by
  unfold sp_Meter_need_room at h
  split at h
  · rename_i a d
    obtain ⟨p, q, F, A, r, T, n, b, M, hb, h0, h1⟩ := h
    refine ⟨b, hb, fun c => ?_, fun c => ?_⟩
    · cases b with
      | true => cases c
      | false => exact h0 rfl
    · cases b with
      | false => cases c
      | true =>
        obtain ⟨t, rfl, h2, h3⟩ := h1 rfl
        refine ⟨_, _, M.ob, rfl, _, _, M.tl, rfl, fun c => ?_, fun c => ?_⟩
        · have c' := of_decide_eq_true c
          rw [List.length_map] at c'
          exact h3 (by omega)
        · have c' := of_decide_eq_false c
          rw [List.length_map] at c'
          exact h2 (by omega)
  · exact h.elim
theorem v_Run_leave {ds : List D} {m : Sto} {R : D → Sto → Prop} {RX : DX} (h : sp_Run_leave c_Meter c_Run ds m R RX) : r_Run_leave c_Meter c_Run { nx := fun _ m' => R .non m', rt := R } ⟨ds.map some ++ List.replicate (1 - ds.length) none, fun _ => RX⟩ m := by
  unfold sp_Run_leave at h
  split at h
  · rename_i u
    obtain ⟨a, p, q, g, F, A, r, F2, A2, r2, T, G, n, M, hA, hz, hT, hn, hR⟩ := h
    exact ⟨_, _, M.ob, rfl, _, M.mt.ob, rfl, p, q, F, A, r, T, n, M.mt, hA, hz, hT, hn, hR⟩
  · exact h.elim
theorem v_Run_held {ds : List D} {m : Sto} {R : D → Sto → Prop} {RX : DX} (h : sp_Run_held c_Meter c_Run ds m R RX) : r_Run_held c_Meter c_Run { nx := fun _ m' => R .non m', rt := R } ⟨ds.map some ++ List.replicate (1 - ds.length) none, fun _ => RX⟩ m := by
  unfold sp_Run_held at h
  split at h
  · rename_i u
    obtain ⟨a, p, q, g, F, A, r, F2, A2, r2, T, G, n, M, hR⟩ := h
    exact ⟨_, _, M.ob, rfl, _, _, M.mt.ob, rfl, _, _, ⟨_, M.mt.tl, rfl⟩, atI_last M.mt.t1, _, _, M.ob, rfl, _, _, ⟨_, M.gn, rfl⟩, atI_last M.g1, hR⟩
  · exact h.elim
theorem v_Run_told {ds : List D} {m : Sto} {R : D → Sto → Prop} {RX : DX} (h : sp_Run_told c_Meter c_Run ds m R RX) : r_Run_told c_Meter c_Run { nx := fun _ m' => R .non m', rt := R } ⟨ds.map some ++ List.replicate (2 - ds.length) none, fun _ => RX⟩ m := by
  unfold sp_Run_told at h
  split at h
  · rename_i u
    obtain ⟨a, p, q, g, F, A, r, F2, A2, r2, T, G, n, M, hT, hG, hR⟩ := h
    refine ⟨_, _, M.ob, rfl, _, M.mt.ob, rfl, p, q, F, A, r, T, n, M.mt, hT, fun s hs => ?_⟩
    have su : u ≠ s := ne_free M.ob hs
    have sg : g ≠ s := ne_free M.gn hs
    have ob1 : ∀ o, up m s o u = _ := fun o => (up_ne su).trans M.ob
    have gn1 : ∀ o, up m s o g = _ := fun o => (up_ne sg).trans M.gn
    have g1 := M.g1
    refine ⟨_, _, ob1 _, rfl, _, _, gn1 _, rfl, ?_⟩
    rw [List.length_map]
    refine ⟨⟨by decide, by decide, by omega, by omega⟩, lc_pure true ((steps G).map D.int) (fun _ _ => trivial) ?_ ?_ (fun k x y m3 hx hy le => ?_) fun t ht => ⟨(by show 2 ≤ sizeLine; decide), ?_⟩⟩
    · rw [rgL_len, List.length_map]
      unfold steps
      rw [List.length_map, List.length_range]
      omega
    · rw [rgL_len]
      exact Nat.le_of_lt (big1000 (by omega))
    · obtain ⟨hk, rfl⟩ := rgL_inv hx
      have hk' : k < G.length - 1 := by omega
      unfold steps at hy
      rw [List.getElem?_map, List.getElem?_map, List.getElem?_range hk'] at hy
      cases hy
      refine ⟨_, rfl, fun R hR => ⟨_, _, le _ _ (ob1 _), rfl, _, _, ⟨_, le _ _ (gn1 _), rfl⟩, atI_int ?_ ?_, _, _, le _ _ (ob1 _), rfl, _, _, ⟨_, le _ _ (gn1 _), rfl⟩, atI_int ?_ ?_, ?_⟩⟩
      · omega
      · omega
      · omega
      · omega
      · have e1 : ((1 : Int) + (k : Nat)).toNat = k + 1 := by omega
        have e2 : ((1 : Int) + (k : Nat) - 1).toNat = k := by omega
        rw [e1, e2]
        exact hR
    · have st : s ≠ t := fun z => by
        rw [← z, up_same] at ht
        cases ht
      rw [up_ne st.symm] at ht
      exact hR s t hs ht st
  · exact h.elim
theorem RunAt.uq {C E : Addr} {m : Sto} {u a p q g : Addr} {F A : List Int} {r : Int} {F2 A2 : List Int} {r2 : Int} {T G : List Int} {n : Nat} (M : RunAt C E m u a p q g F A r F2 A2 r2 T G n) : u ≠ q := ne_some M.ob M.mt.ms (fun z => by cases z)
theorem RunAt.up_ {C E : Addr} {m : Sto} {u a p q g : Addr} {F A : List Int} {r : Int} {F2 A2 : List Int} {r2 : Int} {T G : List Int} {n : Nat} (M : RunAt C E m u a p q g F A r F2 A2 r2 T G n) : u ≠ p := ne_some M.ob M.mt.tl (fun z => by cases z)
theorem RunAt.ug {C E : Addr} {m : Sto} {u a p q g : Addr} {F A : List Int} {r : Int} {F2 A2 : List Int} {r2 : Int} {T G : List Int} {n : Nat} (M : RunAt C E m u a p q g F A r F2 A2 r2 T G n) : u ≠ g := ne_some M.ob M.gn (fun z => by cases z)
theorem RunAt.ag {C E : Addr} {m : Sto} {u a p q g : Addr} {F A : List Int} {r : Int} {F2 A2 : List Int} {r2 : Int} {T G : List Int} {n : Nat} (M : RunAt C E m u a p q g F A r F2 A2 r2 T G n) : a ≠ g := ne_some M.mt.ob M.gn (fun z => by cases z)
theorem RunAt.most {C E : Addr} {m : Sto} {u a p q g : Addr} {F A : List Int} {r : Int} {F2 A2 : List Int} {r2 : Int} {T G : List Int} {n n' : Nat} (M : RunAt C E m u a p q g F A r F2 A2 r2 T G n) (h : 1 ≤ n') : RunAt C E (up m q (.lst ((vals F A r n').map .int))) u a p q g F A r F2 A2 r2 T G n' :=
  ⟨by rw [up_ne M.uq]; exact M.ob, M.mt.most h, by rw [up_ne M.qg.symm]; exact M.gn, M.pg, M.qg, M.g1⟩
theorem v_Run_owed {ds : List D} {m : Sto} {R : D → Sto → Prop} {RX : DX} (h : sp_Run_owed c_Meter c_Run c_TooMuch c_TooLittle c_NoStream c_TooLong ds m R RX) : r_Run_owed c_Meter c_NoStream c_Run c_TooMuch { nx := fun _ m' => R .non m', rt := R } ⟨ds.map some ++ List.replicate (6 - ds.length) none, fun _ => RX⟩ m := by
  unfold sp_Run_owed at h
  split at h
  · rename_i u d
    obtain ⟨a, p, q, g, F, A, r, F2, A2, r2, T, G, n, b, M, rise, hA, hz, hT, hn, hb, h0, h1⟩ := h
    refine ⟨b, hb, fun c => ?_, fun c => ?_⟩
    · cases b with
      | true => cases c
      | false => exact h0 rfl
    · cases b with
      | false => cases c
      | true =>
        obtain ⟨x, rfl, h2, h3⟩ := h1 rfl
        have hT1 := M.mt.t1
        have M1 := M.most (n' := max n (T.length + 1)) (by omega)
        refine ⟨_, M.ob, rfl, a, p, q, g, F, A, r, F2, A2, r2, T, G, n, M, hA, hz, by omega, by omega, fun c => h2 (of_decide_eq_true c), fun c => ?_⟩
        have hR := h3 (by have := of_decide_eq_false c; omega)
        have a12 : A2.length < 2 ^ 60 := by have := rise.al; omega
        refine ⟨_, _, M1.ob, rfl, _, _, M1.mt.ob, rfl, _, _, M1.ob, rfl, _, _, M1.mt.ob, rfl, _, _, ⟨_, M1.mt.tl, rfl⟩, atI_last hT1, (by show 1 ≤ sizeLine; decide), _, _, M1.mt.tl, rfl, ?_, ?_⟩
        · rw [List.length_map]
          exact Nat.le_of_lt (big1000 (by show T.length + 1 ≤ 1000000; omega))
        · have e : T.map D.int ++ [D.int (T.getD (T.length - 1) 0 + x)] = (T ++ [lst0 T + x]).map D.int := by rw [List.map_append]; rfl
          rw [e]
          have l2 : (T ++ [lst0 T + x]).length = T.length + 1 := by rw [List.length_append]; rfl
          refine ⟨?_, ?_, lc_pure false (((List.range (T.length + 1)).map fun s => (T ++ [lst0 T + x]).getD s 0 + val F2 A2 r2 ((T.length : Int) - (s : Nat))).map D.int) (fun _ _ => trivial) ?_ ?_ (fun k y z m3 hx hy le => ?_) ?_⟩
          all_goals try rw [List.length_map, l2]
          · omega
          · omega
          · rw [rgL_len, List.length_map, List.length_map, List.length_range]
            omega
          · rw [rgL_len]
            exact Nat.le_of_lt (big1000 (by omega))
          · obtain ⟨hk, rfl⟩ := rgL_inv hx
            rw [List.length_map, l2] at hk
            have hk' : k < T.length + 1 := by omega
            rw [List.getElem?_map, List.getElem?_map, List.getElem?_range hk'] at hy
            cases hy
            refine ⟨_, rfl, fun R hR => ⟨_, _, rfl, atI_int (by omega) (by rw [l2]; omega), _, _, le _ _ M1.ob, rfl, F2, A2, r2, rfl, rise.a0, a12, ?_, ?_, ?_⟩⟩
            · omega
            · omega
            · have e2 : ((0 : Int) + (k : Nat)).toNat = k := by omega
              rw [e2, show ((T.length + 1 : Nat) : Int) - 1 - (0 + (k : Nat)) = (T.length : Int) - (k : Nat) by omega]
              exact hR
          · refine ⟨_, rfl, ?_, _, _, M1.ob, rfl, _, _, ⟨_, M1.gn, rfl⟩, atI_last M1.g1, hR⟩
            rw [List.length_map, List.length_range]
            omega
  · exact h.elim
theorem v_Run_turn {ds : List D} {m : Sto} {R : D → Sto → Prop} {RX : DX} (h : sp_Run_turn c_Meter c_Run c_TooMuch c_TooLittle c_NoStream c_TooLong ds m R RX) : r_Run_turn c_Meter c_NoStream c_Run c_TooLittle c_TooLong c_TooMuch { nx := fun _ m' => R .non m', rt := R } ⟨ds.map some ++ List.replicate (4 - ds.length) none, fun _ => RX⟩ m := by
  unfold sp_Run_turn at h
  split at h
  · rename_i u d e
    obtain ⟨a, p, q, g, F, A, r, F2, A2, r2, T, G, n, b, c, M, rise, hA, hz, hT, hG, hn, hb, hc, h0, h1⟩ := h
    refine ⟨b, hb, fun z => ?_, fun z => ⟨c, hc, fun y => ?_, fun y => ?_⟩⟩
    · cases b with
      | true => cases z
      | false => exact ⟨fun _ => h0 rfl, fun w => nomatch w⟩
    · cases c with
      | true => cases y
      | false => exact h0 (by cases b <;> rfl)
    · cases b with
      | false => cases z
      | true =>
      cases c with
      | false => cases y
      | true =>
      obtain ⟨x, y, rfl, rfl, h2, h3⟩ := h1 rfl rfl
      have hT1 := M.mt.t1
      have hn1 := M.mt.n1
      refine ⟨_, _, M.ob, rfl, _, M.mt.ob, rfl, p, q, F, A, r, T, n, true, M.mt, rfl, (fun z => nomatch z), fun _ => ⟨1, rfl, fun l1 => ?_, fun l1 => h2 (by omega)⟩⟩
      obtain ⟨h4, h5⟩ := h3 (by omega)
      have M1 := M.most (n' := max n (T.length + 1)) (by omega)
      refine ⟨_, M.ob, rfl, a, p, q, g, F, A, r, F2, A2, r2, T, G, n, true, M, rise, hA, hz, by omega, by omega, hb, (fun z => nomatch z), fun _ => ⟨x, rfl, h4, fun lx => ?_⟩⟩
      obtain ⟨h6, h7⟩ := h5 lx
      refine ⟨_, M1.ob, rfl, a, p, q, g, F, A, r, F2, A2, r2, T, G, _, M1, fun z => h6 (of_decide_eq_true z), fun z => ?_⟩
      obtain ⟨h8, h9⟩ := h7 (by have := of_decide_eq_false z; omega)
      refine ⟨fun z => h8 (of_decide_eq_true z), fun z => ?_⟩
      have hR := h9 (by have := of_decide_eq_false z; omega)
      have e : T.map D.int ++ [D.int (T.getD (T.length - 1) 0 + x)] = (T ++ [lst0 T + x]).map D.int := by rw [List.map_append]; rfl
      have e' : G.map D.int ++ [D.int (G.getD (G.length - 1) 0 + y)] = (G ++ [lst0 G + y]).map D.int := by rw [List.map_append]; rfl
      have l2 : (T ++ [lst0 T + x]).length = T.length + 1 := by rw [List.length_append]; rfl
      have l3 : (G ++ [lst0 G + y]).length = G.length + 1 := by rw [List.length_append]; rfl
      have M2 : RunAt c_Meter c_Run (up (up m q (.lst ((vals F A r (max n (T.length + 1))).map .int))) p (.lst ((T ++ [lst0 T + x]).map .int))) u a p q g F A r F2 A2 r2 (T ++ [lst0 T + x]) G (max n (T.length + 1)) :=
        ⟨by rw [up_ne M.up_]; exact M1.ob, M1.mt.tally (by omega), by rw [up_ne M.pg.symm]; exact M1.gn, M.pg, M.qg, M.g1⟩
      refine ⟨_, _, M1.ob, rfl, _, _, M1.mt.ob, rfl, ⟨_, _, M1.mt.tl, rfl⟩, _, _, M1.ob, rfl, _, _, M1.mt.ob, rfl, _, _, ⟨_, M1.mt.tl, rfl⟩, atI_last hT1, _, M1.mt.tl, ?_, ?_⟩
      · rw [List.length_map]
        exact big1000 (by omega)
      · rw [e]
        refine ⟨_, _, M2.ob, rfl, ⟨_, _, M2.gn, rfl⟩, _, _, M2.ob, rfl, _, _, ⟨_, M2.gn, rfl⟩, atI_last M2.g1, _, M2.gn, ?_, ?_⟩
        · rw [List.length_map]
          exact big1000 (by omega)
        · rw [e']
          have M3 : RunAt c_Meter c_Run (up (up (up m q (.lst ((vals F A r (max n (T.length + 1))).map .int))) p (.lst ((T ++ [lst0 T + x]).map .int))) g (.lst ((G ++ [lst0 G + y]).map .int))) u a p q g F A r F2 A2 r2 (T ++ [lst0 T + x]) (G ++ [lst0 G + y]) (max n (T.length + 1)) :=
            ⟨by rw [up_ne M.ug]; exact M2.ob, ⟨by rw [up_ne M.ag]; exact M2.mt.ob, by rw [up_ne M.pg]; exact M2.mt.tl, by rw [up_ne M.qg]; exact M2.mt.ms, M2.mt.pq, M2.mt.n1, M2.mt.t1⟩, up_same, M.pg, M.qg, by omega⟩
          refine ⟨_, M3.ob, rfl, a, p, q, g, F, A, r, F2, A2, r2, _, _, _, M3, ?_⟩
          have k1 : lst0 (T ++ [lst0 T + x]) = lst0 T + x := by
            show (T ++ [lst0 T + x]).getD ((T ++ [lst0 T + x]).length - 1) 0 = _
            rw [l2, Nat.add_sub_cancel, getD_app2]
          have k2 : lst0 (G ++ [lst0 G + y]) = lst0 G + y := by
            show (G ++ [lst0 G + y]).getD ((G ++ [lst0 G + y]).length - 1) 0 = _
            rw [l3, Nat.add_sub_cancel, getD_app2]
          rw [k1, k2]
          exact hR
  · exact h.elim
theorem v_Run_init {ds : List D} {m : Sto} {R : D → Sto → Prop} {RX : DX} (h : sp_Run_init c_Meter c_Run ds m R RX) : r_Run_init c_Meter c_Run { nx := fun _ m' => R .non m', rt := R } ⟨ds.map some ++ List.replicate (3 - ds.length) none, fun _ => RX⟩ m := by
  unfold sp_Run_init at h
  split at h
  · rename_i u f gg
    obtain ⟨hu, F, A, r, F2, A2, r2, rfl, rfl, v0, hR⟩ := h
    refine fun a ha => ⟨up_same, F, A, r, rfl, v0, fun p q m3 hp hq M frm => ⟨rfl, ?_⟩⟩
    have pa : p ≠ a := fun z => by rw [z, up_same] at hp; cases hp
    have qa : q ≠ a := fun z => by rw [z, up_same] at hq; cases hq
    rw [up_ne pa] at hp
    rw [up_ne qa] at hq
    have ua := ne_free hu ha
    have upp := ne_free hu hp
    have uq := ne_free hu hq
    have k3 : Kp [] m m3 := fun y w _ k => by
      have ya : y ≠ a := fun z => by rw [z, ha] at k; cases k
      have yp : y ≠ p := fun z => by rw [z, hp] at k; cases k
      have yq : y ≠ q := fun z => by rw [z, hq] at k; cases k
      rw [frm y ya yp yq, up_ne ya]
      exact k
    have hu3 := k3 _ _ (by simp) hu
    refine ⟨_, hu3, (by show 0 < 1000; decide), _, up_same, (by show 1 < 1000; decide), (by show 1 ≤ sizeLine; decide), fun g hg => ?_⟩
    simp only [up_up] at hg ⊢
    have gu : g ≠ u := fun z => by rw [z, up_same] at hg; cases hg
    rw [up_ne gu] at hg
    have ga := ne_free M.ob hg
    have gp := ne_free M.tl hg
    have gq := ne_free M.ms hg
    refine ⟨_, (up_ne gu.symm).trans up_same, (by show 2 < 1000; decide), hR a p q g _ ha hp hq ?_ ?_ ?_⟩
    · cases e : m g with
      | none => rfl
      | some w =>
        have := k3 g w (by simp) e
        rw [hg] at this
        cases this
    · exact ⟨up_same, ⟨by rw [up_ne ua.symm, up_ne ga, up_ne ua.symm]; exact M.ob, by rw [up_ne upp.symm, up_ne gp, up_ne upp.symm]; exact M.tl, by rw [up_ne uq.symm, up_ne gq, up_ne uq.symm]; exact M.ms, M.pq, M.n1, M.t1⟩, by rw [up_ne gu, up_same]; rfl, gp, gq, by decide⟩
    · intro y w hy k
      have yu : y ≠ u := fun z => hy (by simp [z])
      have yg : y ≠ g := fun z => by
        have := k3 y w (by simp) k
        rw [z, hg] at this
        cases this
      rw [up_ne yu, up_ne yg, up_ne yu]
      exact k3 y w (by simp) k
  · exact h.elim
end K56

namespace K56
open PySem PySem.Spec PyProof.Rows L2 Dl Pg Pn Mt
variable {c_Endless c_NoBack c_NoCurve c_NoName c_NoNet c_NoRow c_NoStream c_NoText c_Ring c_TooLittle c_TooLong c_TooMuch : Addr}
theorem pv_bools {m : Sto} : ∀ bs : List Bool, PvL m (bs.map D.bl) (bs.map PyData.bool)
  | [] => .nil
  | b :: r => .cons (.bl b) (pv_bools r)
/-- what _law_word tells -/
theorem word_run {body : DE} {δ : Ev} {m : Sto} {R : D → Sto → Prop} {P : Addr} {q : Str} (hP : m P = some (.tab q))
    (h : ∀ (c' : Addr) (vs : L2.St) (x : List (Option D) → DX) (W : D → Sto → Prop),
      (∀ (C : Addr) (w : Str) (m1 : Sto), (C, w) ∈ [(c_NoStream, ("stream" : Str)), (c_TooLong, "long"), (c_TooMuch, "much"), (c_TooLittle, "little")] → m1 P = some (.clo q c' vs δ.s) → (∀ m2, Kp [P] m1 m2 → m2 P = some (.tab q) → R (.tup [.str w, .non]) m2) → ∀ s', x s' C none m1) →
      (∀ (d : D) (m1 : Sto), m1 P = some (.clo q c' vs δ.s) → R (.tup [.str "told", d]) (up m1 P (.tab q)) → W d m1) → body ⟨δ.s, x⟩ (up m P (.clo q c' vs δ.s)) W) :
    dWord (r_law_word c_Endless c_NoBack c_NoCurve c_NoName c_NoNet c_NoRow c_NoStream c_NoText c_Ring c_TooLittle c_TooLong c_TooMuch) 4 P q body δ m R := by
  unfold dWord
  refine ⟨hP, fun f c' vs => ⟨rfl, up_same, h c' vs _ _ ?_ ?_⟩⟩
  · intro C w m1 hC hclo hR s'
    refine ⟨rfl, ?_, fun a ha => ?_⟩
    · simp only [List.mem_cons, Prod.mk.injEq, List.not_mem_nil, or_false] at hC ⊢
      rcases hC with ⟨e, _⟩ | ⟨e, _⟩ | ⟨e, _⟩ | ⟨e, _⟩ <;> simp [e]
    · have Pa : P ≠ a := ne_free hclo ha
      have ma : up m1 a (.raw (ExB (.ref C) none a)) a = some (.raw (ExB (.ref C) none a)) := up_same
      have mP : up m1 a (.raw (ExB (.ref C) none a)) P = some (.clo q c' vs δ.s) := (up_ne Pa).trans hclo
      have k0 : Kp [P] m1 (up m1 a (.raw (ExB (.ref C) none a))) := Kp.refl.new ha
      refine ⟨(fun z => nomatch z), fun _ => ?_⟩
      generalize up m1 a (.raw (ExB (.ref C) none a)) = m2 at *
      have ex : ∃ (b1 b2 b3 b4 : Bool) (j : Nat), (C, b1) ∈ [(c_NoStream, true), (c_TooLong, false), (c_TooMuch, false), (c_TooLittle, false)] ∧ (C, b2) ∈ [(c_NoStream, false), (c_TooLong, true), (c_TooMuch, false), (c_TooLittle, false)] ∧
          (C, b3) ∈ [(c_NoStream, false), (c_TooLong, false), (c_TooMuch, true), (c_TooLittle, false)] ∧ (C, b4) ∈ [(c_NoStream, false), (c_TooLong, false), (c_TooMuch, false), (c_TooLittle, true)] ∧
          (C, false) ∈ [(c_NoStream, false), (c_TooLong, false), (c_TooMuch, false), (c_TooLittle, false)] ∧ (C, true) ∈ [(c_NoStream, true), (c_TooLong, true), (c_TooMuch, true), (c_TooLittle, true)] ∧
          [b1, b2, b3, b4].countP id = 1 ∧ [b1, b2, b3, b4][j]? = some true ∧ (∀ i, i < j → [b1, b2, b3, b4][i]? = some false) ∧ L2.atI [D.str "stream", D.str "long", D.str "much", D.str "little"] (j : Nat) = some (.str w) := by
        simp only [List.mem_cons, Prod.mk.injEq, List.not_mem_nil, or_false] at hC
        rcases hC with ⟨e, e'⟩ | ⟨e, e'⟩ | ⟨e, e'⟩ | ⟨e, e'⟩ <;> subst e e'
        · exact ⟨true, false, false, false, 0, by simp, by simp, by simp, by simp, by simp, by simp, by decide, rfl, fun i hi => absurd hi (by omega), rfl⟩
        · exact ⟨false, true, false, false, 1, by simp, by simp, by simp, by simp, by simp, by simp, by decide, rfl, fun i hi => by
            have : i = 0 := by omega
            subst this
            rfl, rfl⟩
        · exact ⟨false, false, true, false, 2, by simp, by simp, by simp, by simp, by simp, by simp, by decide, rfl, fun i hi => by
            have : i = 0 ∨ i = 1 := by omega
            rcases this with e | e <;> subst e <;> rfl, rfl⟩
        · exact ⟨false, false, false, true, 3, by simp, by simp, by simp, by simp, by simp, by simp, by decide, rfl, fun i hi => by
            have : i = 0 ∨ i = 1 ∨ i = 2 := by omega
            rcases this with e | e | e <;> subst e <;> rfl, rfl⟩
      obtain ⟨b1, b2, b3, b4, j, h1, h2, h3, h4, hF, hT, hcnt, hj, hno, hat⟩ := ex
      have eqv_b : ∀ x : Bool, PyData.eqv (.bool x) (.bool true) = x := fun x => by cases x <;> simp [PyData.eqv]
      refine ⟨(by show 8 ≤ sizeLine; decide), a, C, false, rfl, ma, hF, (fun z => nomatch z), fun _ => ?_⟩
      refine ⟨a, C, b1, rfl, ma, h1, a, C, b2, rfl, ma, h2, a, C, b3, rfl, ma, h3, (by show 3 ≤ sizeLine; decide), fun s hs => ?_⟩
      have sa : s ≠ a := (ne_free ma hs).symm
      have sP : s ≠ P := (ne_free mP hs).symm
      have ma3 : ∀ o, up m2 s o a = some (.raw (ExB (.ref C) none a)) := fun o => (up_ne sa.symm).trans ma
      refine ⟨⟨_, _, up_same, rfl⟩, a, C, b4, rfl, ma3 _, h4, _, up_same, (by show 3 < sizeLine; decide), ?_⟩
      simp only [up_up]
      have k1 : ∀ o, Kp [P] m1 (up m2 s o) := fun o => k0.new hs
      have sS : up m2 s (.lst ([D.bl b1, D.bl b2, D.bl b3] ++ [D.bl b4])) s = some (.lst ([b1, b2, b3, b4].map D.bl)) := up_same
      have mP3 : up m2 s (.lst ([D.bl b1, D.bl b2, D.bl b3] ++ [D.bl b4])) P = some (.clo q c' vs δ.s) := (up_ne sP.symm).trans mP
      have ma4 := ma3 (.lst ([D.bl b1, D.bl b2, D.bl b3] ++ [D.bl b4]))
      have k2 := k1 (.lst ([D.bl b1, D.bl b2, D.bl b3] ++ [D.bl b4]))
      generalize up m2 s (.lst ([D.bl b1, D.bl b2, D.bl b3] ++ [D.bl b4])) = m3 at *
      have cnt : (([b1, b2, b3, b4].map PyData.bool).countP fun y => PyData.eqv y (.bool true)) = 1 := by
        rw [List.countP_map, ← hcnt]
        congr 1
        funext x
        exact eqv_b x
      refine ⟨⟨_, _, sS, rfl⟩, _, .bool true, .ptr sS rfl (pv_bools _), .bl true, by simp [PyData.plainAll, PyData.plain], by simp [PyData.plain], by rw [PyData.depth], ?_⟩
      rw [cnt]
      refine ⟨(fun z => nomatch z), fun _ => ⟨a, C, true, rfl, ma4, hT, (fun z => nomatch z), fun _ => ⟨(by show 4 ≤ sizeLine; decide), ⟨_, _, sS, rfl⟩, _, .bool true, j, .bool true, .ptr sS rfl (pv_bools _), .bl true, ?_, ?_, ?_, eqv_b true, fun i z' hi hz => ?_, _, _, rfl, hat, (by show 2 ≤ sizeLine; decide), mP3, ?_⟩⟩⟩
      · simp [SeqAt.shaped, PyData.canLay0, PyData.canLayAll0, PyData.depth, PyData.depthAll]
      · simp [SeqAt.shaped, PyData.canLay0, PyData.depth]
      · rw [List.getElem?_map, hj]
        rfl
      · rw [List.getElem?_map, hno i hi] at hz
        cases hz
        exact eqv_b false
      · refine hR _ (fun y u hy k => ?_) up_same
        rw [up_ne (fun z => hy (by simp [z]))]
        exact k2 y u hy k
  · intro d m1 hclo hR
    exact ⟨fun _ => ⟨(by show 2 ≤ sizeLine; decide), hclo, hR⟩, fun z => nomatch z⟩
end K56

namespace K56
open PySem PySem.Spec PyProof.Rows L2 Dl Pg Pn Mt
theorem atI_get {xs : List D} {k : Int} {x : D} (h0 : 0 ≤ k) (h : xs[k.toNat]? = some x) : L2.atI xs k = some x := by
  have hl := (List.getElem?_eq_some_iff.mp h).1
  unfold L2.atI L2.ixN
  rw [if_pos h0, if_pos (by omega)]
  exact h
theorem v_law_odd {ds : List D} {m : Sto} {R : D → Sto → Prop} {RX : DX} (h : sp_law_odd ds m R RX) : r_law_odd { nx := fun _ m' => R .non m', rt := R } ⟨ds.map some ++ List.replicate (2 - ds.length) none, fun _ => RX⟩ m := by
  unfold sp_law_odd at h
  split at h
  · rename_i pen
    obtain ⟨b, X, hp, hX, hb, hR⟩ := h
    refine ⟨(by show 1 ≤ sizeLine; decide), (by show 1 ≤ sizeLine; decide), fun e he => ⟨⟨by decide, by decide, by decide⟩, b, X, ?_, hX, by omega, by decide, by decide, fun v X1 v0 v1 hX1 => ⟨(by show 9 ≤ sizeLine; decide), ?_⟩⟩⟩
    all_goals have pe : pen ≠ e := ne_free hp he
    · rw [up_ne pe]
      exact hp
    · have hl : ∀ i : Int, ([D.non, .bl true, .bl false, .str "1", .int (-1), .lst [.int 1], .tup [.int 1], .ptr e, .int (0 - 10 ^ 29 - v)] : List D).length = 9 := fun _ => rfl
      refine ⟨b + 1, X1, up_same, hX1, by omega, (by show (0 : Int) < 9; decide), (by show (9 : Int) < 2 ^ 30; decide), fun k X2 k0 k1 hX2 => ?_⟩
      have k1' : k < 9 := k1
      have fr : Kp [pen] m (up (up (up m e (.dct [])) pen X1) pen X2) := ((Kp.refl.new he).up (by simp)).up (by simp)
      have he3 : up (up (up m e (.dct [])) pen X1) pen X2 e = some (.dct []) := by rw [up_ne pe.symm, up_ne pe.symm, up_same]
      have hp3 : up (up (up m e (.dct [])) pen X1) pen X2 pen = some X2 := up_same
      generalize up (up (up m e (.dct [])) pen X1) pen X2 = m3 at *
      have pb : PenOk (b + 2) X2 := by
        have e : b + 2 = b + 1 + 1 := by omega
        rw [e]
        exact hX2
      have ex : ∃ d, ([D.non, .bl true, .bl false, .str "1", .int (-1), .lst [.int 1], .tup [.int 1], .ptr e, .int (0 - 10 ^ 29 - v)] : List D)[k.toNat]? = some d ∧ OddOk m3 d := by
        have : k = 0 ∨ k = 1 ∨ k = 2 ∨ k = 3 ∨ k = 4 ∨ k = 5 ∨ k = 6 ∨ k = 7 ∨ k = 8 := by omega
        rcases this with e | e | e | e | e | e | e | e | e <;> subst e
        · exact ⟨_, rfl, .inr ⟨(fun _ z => nomatch z), rfl⟩⟩
        · exact ⟨_, rfl, .inr ⟨(fun _ z => nomatch z), rfl⟩⟩
        · exact ⟨_, rfl, .inr ⟨(fun _ z => nomatch z), rfl⟩⟩
        · exact ⟨_, rfl, .inr ⟨(fun _ z => nomatch z), rfl⟩⟩
        · exact ⟨_, rfl, .inr ⟨(fun _ z => nomatch z), rfl⟩⟩
        · exact ⟨_, rfl, .inr ⟨(fun _ z => nomatch z), rfl⟩⟩
        · exact ⟨_, rfl, .inr ⟨(fun _ z => nomatch z), rfl⟩⟩
        · exact ⟨_, rfl, .inl ⟨_, rfl, he3⟩⟩
        · exact ⟨_, rfl, .inr ⟨(fun _ z => nomatch z), (decide_eq_false (by omega)).symm⟩⟩
      obtain ⟨d, hd, hn⟩ := ex
      exact ⟨_, d, rfl, atI_get k0 hd, hR d m3 X2 hp3 pb fr hn⟩
  · exact h.elim
theorem v_law_leave {ds : List D} {m : Sto} {R : D → Sto → Prop} {RX : DX} (h : sp_law_leave ds m R RX) : r_law_leave { nx := fun _ m' => R .non m', rt := R } ⟨ds.map some ++ List.replicate (4 - ds.length) none, fun _ => RX⟩ m := by
  unfold sp_law_leave at h
  split at h
  · rename_i f c
    obtain ⟨F, A, r, T, rfl, hc, hA, hz, hT1, hT, hR⟩ := h
    refine ⟨_, _, hc, rfl, ?_⟩
    rw [List.length_map]
    refine ⟨by omega, by omega, lc_pure false (((List.range T.length).map fun s => val F A r ((T.length : Int) - (s : Nat)) + T.getD s 0).map D.int) (fun _ _ => trivial) ?_ ?_ (fun k x y m2 hx hy le => ?_) ?_⟩
    · rw [rgL_len, List.length_map, List.length_map, List.length_range]
      omega
    · rw [rgL_len]
      exact Nat.le_of_lt (big1000 (by omega))
    · obtain ⟨hk, rfl⟩ := rgL_inv hx
      have hk' : k < T.length := by omega
      rw [List.getElem?_map, List.getElem?_map, List.getElem?_range hk'] at hy
      cases hy
      refine ⟨_, rfl, fun R hR => ⟨_, _, ⟨_, le _ _ hc, rfl⟩, atI_int ?_ ?_, F, A, r, rfl, hA, hz, ?_, ?_, ?_⟩⟩
      · omega
      · omega
      · omega
      · omega
      · have e2 : ((0 : Int) + (k : Nat)).toNat = k := by omega
        rw [e2, show (T.length : Int) - (0 + (k : Nat)) = (T.length : Int) - (k : Nat) by omega]
        show R (.int (_ + _)) m2
        rw [Int.add_comm]
        exact hR
    · refine ⟨_, rfl, ?_, _, _, ⟨_, hc, rfl⟩, atI_last hT1, hR⟩
      rw [List.length_map, List.length_range]
      exact hT1
  · exact h.elim
theorem v_law_owed {ds : List D} {m : Sto} {R : D → Sto → Prop} {RX : DX} (h : sp_law_owed ds m R RX) : r_law_owed { nx := fun _ m' => R .non m', rt := R } ⟨ds.map some ++ List.replicate (7 - ds.length) none, fun _ => RX⟩ m := by
  unfold sp_law_owed at h
  split at h
  · rename_i gg c d x
    obtain ⟨F, A, r, T, G, rfl, hc, hd, hA, hz, hT1, hT, hG1, hR⟩ := h
    refine ⟨_, _, ⟨_, hc, rfl⟩, atI_last hT1, (by show 1 ≤ sizeLine; decide), _, _, hc, rfl, ?_, ?_⟩
    · rw [List.length_map]
      exact Nat.le_of_lt (big1000 (by show T.length + 1 ≤ 1000000; omega))
    · have e : T.map D.int ++ [D.int (T.getD (T.length - 1) 0 + x)] = (T ++ [lst0 T + x]).map D.int := by rw [List.map_append]; rfl
      rw [e]
      have l2 : (T ++ [lst0 T + x]).length = T.length + 1 := by rw [List.length_append]; rfl
      refine ⟨_, _, hc, rfl, ?_⟩
      rw [List.length_map]
      refine ⟨by omega, by omega, lc_pure false (((List.range (T.length + 1)).map fun s => (T ++ [lst0 T + x]).getD s 0 + val F A r ((T.length : Int) - (s : Nat))).map D.int) (fun _ _ => trivial) ?_ ?_ (fun k y z m3 hx hy le => ?_) ?_⟩
      · rw [rgL_len, List.length_map, List.length_map, List.length_range]
        omega
      · rw [rgL_len]
        exact Nat.le_of_lt (big1000 (by omega))
      · obtain ⟨hk, rfl⟩ := rgL_inv hx
        have hk' : k < T.length + 1 := by omega
        rw [List.getElem?_map, List.getElem?_map, List.getElem?_range hk'] at hy
        cases hy
        refine ⟨_, rfl, fun R hR => ⟨_, _, rfl, atI_int (by omega) (by rw [l2]; omega), F, A, r, rfl, hA, hz, by omega, by omega, ?_⟩⟩
        have e2 : ((0 : Int) + (k : Nat)).toNat = k := by omega
        rw [e2, show (T.length : Int) - (0 + (k : Nat)) = (T.length : Int) - (k : Nat) by omega]
        exact hR
      · refine ⟨_, rfl, ?_, _, _, ⟨_, hd, rfl⟩, atI_last hG1, hR⟩
        rw [List.length_map, List.length_range]
        omega
  · exact h.elim
end K56

namespace K56
open PySem PySem.Spec PyProof.Rows L2 Dl Pg Pn Mt
theorem rise_of {F A : List Int} {r r' : Int} (d : Drawn F A r) (h1 : ∀ x, A[0]? = some x → ∀ y, A[A.length - 1]? = some y → y ≤ x + r') (h0 : 0 ≤ r') (h2 : r' ≤ 20000000) : Rise F A r' := by
  refine ⟨d.a0, d.a1, d.f1, ?_, fun t => step_of d.a0 d.mono h1 t, fun x hx => ⟨d.nn x hx, d.sm x hx⟩, h0, h2⟩
  have z := d.val0
  unfold val at z ⊢
  by_cases c : (0 : Int) < F.length
  · rw [if_pos c] at z ⊢
    exact z
  · have e : (F.length : Int) = 0 := by omega
    rw [if_neg c, e] at z ⊢
    simp at z ⊢
    exact z
theorem v_law_server {ds : List D} {m : Sto} {R : D → Sto → Prop} {RX : DX} (h : sp_law_server ds m R RX) : r_law_server { nx := fun _ m' => R .non m', rt := R } ⟨ds.map some ++ List.replicate (8 - ds.length) none, fun _ => RX⟩ m := by
  unfold sp_law_server at h
  split at h
  · rename_i pen f slow
    obtain ⟨b, X, F, A, r, hp, hX, hb, rfl, dr, hR⟩ := h
    refine ⟨b, X, hp, hX, by omega, fun F2 A2 r2 X1 dr2 hX1 => ⟨rfl, ?_⟩⟩
    have hA : 0 < A.length := List.length_pos_iff.mpr dr.a0
    have hA1 := dr.a1
    have hB : 0 < A2.length := List.length_pos_iff.mpr dr2.a0
    have hB1 := dr2.a1
    have r0 := dr.r0
    have r1 := dr.r2
    have s0 := dr2.r0
    have s1 := dr2.r2
    have q0 : 0 ≤ r * (A2.length : Int) := Int.mul_nonneg r0 (by omega)
    have q1 : r * (A2.length : Int) ≤ 1000000 * 12 := Int.mul_le_mul r1 (by omega) (by omega) (by omega)
    refine ⟨_, _, rfl, rfl, MulOk.small (by rw [List.length_map]; omega) (by rw [List.length_map]; omega), _, _, rfl, rfl, _, _, rfl, rfl, CDivW.small (by rw [List.length_map]; omega) (by rw [List.length_map]; omega), ?_⟩
    rw [List.length_map, List.length_map]
    generalize hneed : (r * (A2.length : Int) + (A.length : Int) - 1) / (A.length : Int) = need
    have n0 : 0 ≤ need := by rw [← hneed]; exact Int.ediv_nonneg (by omega) (by omega)
    have n1 : need ≤ 12000011 := by
      rw [← hneed]
      exact Int.le_trans (Int.ediv_le_self _ (by omega)) (by omega)
    refine ⟨b + 50, X1, up_same, hX1, by omega, by decide, by decide, fun v X2 v0 v1 hX2 => ?_⟩
    have pk : PenOk (b + 51) X2 := by
      have e : b + 51 = b + 50 + 1 := by omega
      rw [e]
      exact hX2
    simp only [up_up]
    have fin : ∀ r', (∀ x, A2[0]? = some x → ∀ y, A2[A2.length - 1]? = some y → y ≤ x + r') → 0 ≤ r' → r' ≤ 20000000 → R (crv F2 A2 r') (up m pen X2) := fun r' h1 h2 h3 => hR F2 A2 r' X2 (rise_of dr2 h1 h2 h3) pk
    have up1 : ∀ r', r2 ≤ r' → ∀ x, A2[0]? = some x → ∀ y, A2[A2.length - 1]? = some y → y ≤ x + r' := fun r' hr x hx y hy => by
      have := dr2.r1 x hx y hy
      omega
    refine ⟨fun _ => ?_, fun _ => ⟨fun _ => ?_, fun _ => ?_⟩⟩
    · exact ⟨(by show 3 ≤ sizeLine; decide), fin _ (up1 _ (by omega)) (by omega) (by omega)⟩
    · have e0 := gd (l := A2) (i := 0) hB
      have e1 := gd (l := A2) (i := A2.length - 1) (by omega)
      have x0 := dr2.nn _ (List.mem_append_right _ (List.mem_of_getElem? e0))
      have x1 := dr2.sm _ (List.mem_append_right _ (List.mem_of_getElem? e1))
      refine ⟨_, _, rfl, atI_last hB, _, _, rfl, atI_int (by omega) (by omega), ?_⟩
      refine ⟨(by show 3 ≤ sizeLine; decide), fin _ (fun x hx y hy => ?_) (by omega) (by simp only [Int.toNat_zero]; omega)⟩
      rw [e0] at hx
      rw [e1] at hy
      cases hx
      cases hy
      simp only [Int.toNat_zero]
      omega
    · exact ⟨(by show 3 ≤ sizeLine; decide), fin _ (up1 _ (by omega)) (by omega) (by omega)⟩
  · exact h.elim
theorem a60 {F A : List Int} {r : Int} (d : Drawn F A r) : A.length < 2 ^ 60 := by have := d.a1; omega
/-! ### facts of what must go -/
theorem Rise.nn' {F A : List Int} {r : Int} (h : Rise F A r) : ∀ t : Nat, 0 ≤ val F A r (t : Nat)
  | 0 => by rw [show ((0 : Nat) : Int) = 0 from rfl, h.zero]; exact Int.le_refl _
  | t + 1 => Int.le_trans (Rise.nn' h t) (h.up t)
theorem served_le {F A : List Int} {r : Int} {T : List Int} {x : Int} {s : Nat} (h : s < T.length) : served F A r T x ≤ T.getD s 0 + val F A r ((T.length - s : Nat)) := by
  have hm := lmin_le (l := (List.range (T.length + 1)).map fun s => (T ++ [lst0 T + x]).getD s 0 + val F A r ((T.length : Int) - (s : Nat))) (List.mem_map.mpr ⟨s, List.mem_range.mpr (by omega), rfl⟩)
  unfold served
  rw [getD_app1 h] at hm
  rw [show ((T.length - s : Nat) : Int) = (T.length : Int) - (s : Nat) by omega]
  exact hm
theorem served_full {F A : List Int} {r : Int} {T : List Int} {x : Int} (h : Rise F A r) : served F A r T x ≤ lst0 T + x := by
  have hm := lmin_le (l := (List.range (T.length + 1)).map fun s => (T ++ [lst0 T + x]).getD s 0 + val F A r ((T.length : Int) - (s : Nat))) (List.mem_map.mpr ⟨T.length, List.mem_range.mpr (by omega), rfl⟩)
  unfold served
  rw [getD_app2, Int.sub_self, h.zero] at hm
  omega
theorem must_nn {F A : List Int} {r : Int} {T G : List Int} {x : Int} : 0 ≤ must F A r T G x := by unfold must; omega
theorem must_full {F A : List Int} {r : Int} {T G : List Int} {x : Int} (h : Rise F A r) (h0 : 0 ≤ x) (hg : lst0 G ≤ lst0 T) : must F A r T G x ≤ full T G x := by
  have := served_full (T := T) (x := x) h
  unfold must full
  omega
theorem lst0_mem {G : List Int} (h : 0 < G.length) : lst0 G ∈ G := List.mem_of_getElem? (gd (i := G.length - 1) (by omega))
theorem atI_some {xs : List D} {k : Int} (h0 : 0 ≤ k) (h1 : k < xs.length) : ∃ x, x ∈ xs ∧ L2.atI xs k = some x := by
  have e : xs[k.toNat]? = some xs[k.toNat] := List.getElem?_eq_getElem (by omega)
  exact ⟨_, List.mem_of_getElem? e, atI_get h0 e⟩
theorem atI_mem {ns : List Int} {k : Int} (h0 : 0 ≤ k) (h1 : k < ns.length) : ∃ y, y ∈ ns ∧ L2.atI (ns.map D.int) k = some (.int y) := by
  obtain ⟨x, hx, e⟩ := atI_some (xs := ns.map D.int) h0 (by rw [List.length_map]; exact h1)
  obtain ⟨y, hy, rfl⟩ := List.mem_map.mp hx
  exact ⟨y, hy, e⟩
theorem asked_12 {P : DEnds} {x : List (Option D) → DX} {m : Sto} {s0 s1 s2 s3 s4 : Option D} {odd : D} {way part far L more mu fu go : Int} (p0 : 0 ≤ part) (far0 : 0 ≤ far) (l0 : 0 ≤ L) (mo : 0 ≤ more) (fu0 : 0 ≤ fu) (go0 : 0 ≤ go)
    (h1 : ∀ y, 0 ≤ y → P.rt (.tup [odd, .int y, .str "stream"]) m) (h2 : ∀ y, 0 ≤ y → P.rt (.tup [.int y, odd, .str "stream"]) m) (h3 : P.rt (.tup [odd, odd, .str "stream"]) m) (h4 : P.rt (.tup [.int more, .int go, .str "told"]) m) :
    r_law_asked_12 P ⟨[s0, s1, s2, s3, s4, some (.int way), some (.int part), some (.int far), some odd, some (.int L), some (.int more), some (.int mu), some (.int fu), some (.int go)], x⟩ m := by
  have m3p : 0 ≤ part % 3 ∧ part % 3 < 3 := by omega
  have m2p : 0 ≤ part % 2 ∧ part % 2 < 2 := by omega
  refine ⟨fun _ => ?_, fun _ => ⟨fun _ => ?_, fun _ => ⟨(by show 3 ≤ sizeLine; decide), h4⟩⟩⟩
  · obtain ⟨y, hy, hat4⟩ := atI_some (xs := [D.tup [odd, .int go, .str "stream"], .tup [odd, .int (fu + 1 + far), .str "stream"]]) m2p.1 m2p.2
    refine ⟨(by show 3 ≤ sizeLine; decide), (by show 3 ≤ sizeLine; decide), (by show 2 ≤ sizeLine; decide), (by decide), _, _, rfl, hat4, ?_⟩
    simp only [List.mem_cons, List.not_mem_nil, or_false] at hy
    rcases hy with e | e <;> subst e
    · exact h1 _ go0
    · exact h1 _ (by omega)
  · obtain ⟨y, hy, hat4⟩ := atI_some (xs := [D.tup [.int more, odd, .str "stream"], .tup [.int (L + 1 + far), odd, .str "stream"], .tup [odd, odd, .str "stream"]]) m3p.1 m3p.2
    refine ⟨(by show 3 ≤ sizeLine; decide), (by show 3 ≤ sizeLine; decide), (by show 3 ≤ sizeLine; decide), (by show 3 ≤ sizeLine; decide), (by decide), _, _, rfl, hat4, ?_⟩
    simp only [List.mem_cons, List.not_mem_nil, or_false] at hy
    rcases hy with e | e | e <;> subst e
    · exact h2 _ mo
    · exact h2 _ (by omega)
    · exact h3
theorem asked_9 {P : DEnds} {x : List (Option D) → DX} {m : Sto} {s0 s1 s2 s3 s4 : Option D} {odd : D} {way part far L more mu fu go : Int} (p0 : 0 ≤ part) (far0 : 0 ≤ far) (l0 : 0 ≤ L) (mo : 0 ≤ more) (fu0 : 0 ≤ fu) (go0 : 0 ≤ go) (mu0 : 0 ≤ mu)
    (h1 : ∀ y, 0 ≤ y → P.rt (.tup [odd, .int y, .str "stream"]) m) (h2 : ∀ y, 0 ≤ y → P.rt (.tup [.int y, odd, .str "stream"]) m) (h3 : P.rt (.tup [odd, odd, .str "stream"]) m) (h4 : P.rt (.tup [.int more, .int go, .str "told"]) m)
    (h5 : ∀ y, 0 ≤ y → P.rt (.tup [.int (L + 1 + far), .int y, .str "much"]) m) (h6 : P.rt (.tup [.int more, .int (fu + 1 + far), .str "much"]) m) (h7 : ∀ y, 0 ≤ y → y < mu → P.rt (.tup [.int more, .int y, .str "little"]) m) :
    r_law_asked_9 P ⟨[s0, s1, s2, s3, s4, some (.int way), some (.int part), some (.int far), some odd, some (.int L), some (.int more), some (.int mu), some (.int fu), some (.int go)], x⟩ m := by
  have m3p : 0 ≤ part % 3 ∧ part % 3 < 3 := by omega
  have m2p : 0 ≤ part % 2 ∧ part % 2 < 2 := by omega
  have rest := asked_12 (P := P) (x := x) (m := m) (s0 := s0) (s1 := s1) (s2 := s2) (s3 := s3) (s4 := s4) (odd := odd) (way := way) (part := part) (far := far) (L := L) (more := more) (mu := mu) (fu := fu) (go := go) p0 far0 l0 mo fu0 go0 h1 h2 h3 h4
  refine ⟨fun _ => ?_, fun _ => ⟨fun _ => ?_, fun _ => ⟨fun _ => ⟨fun c => ?_, fun _ => rest⟩, fun _ => ⟨(fun z => nomatch z), fun _ => rest⟩⟩⟩⟩
  · obtain ⟨y, hy, hat4⟩ := atI_mem (ns := [0, fu, fu + far]) m3p.1 m3p.2
    have hy0 : 0 ≤ y := by
      simp only [List.mem_cons, List.not_mem_nil, or_false] at hy
      rcases hy with e | e | e <;> rw [e] <;> omega
    exact ⟨(by show 3 ≤ sizeLine; decide), (by decide), _, _, rfl, hat4, (by show 3 ≤ sizeLine; decide), h5 _ hy0⟩
  · exact ⟨(by show 3 ≤ sizeLine; decide), h6⟩
  · have c' := of_decide_eq_true c
    obtain ⟨y, hy, hat4⟩ := atI_mem (ns := [mu - 1, 0]) m2p.1 m2p.2
    have hy0 : 0 ≤ y ∧ y < mu := by
      simp only [List.mem_cons, List.not_mem_nil, or_false] at hy
      rcases hy with e | e <;> rw [e] <;> omega
    exact ⟨(by show 2 ≤ sizeLine; decide), (by decide), _, _, rfl, hat4, (by show 3 ≤ sizeLine; decide), h7 _ hy0.1 hy0.2⟩
theorem OddOk.pen {m : Sto} {pen : Addr} {X X' : MO} {b : Int} {odd : D} (h : OddOk m odd) (hp : m pen = some X) (hX : PenOk b X) : OddOk (up m pen X') odd := by
  rcases h with ⟨e, he, h2⟩ | ⟨h1, h2⟩
  · refine .inl ⟨e, he, ?_⟩
    have ne : e ≠ pen := by
      obtain ⟨_, _, _, ee, _⟩ := hX
      intro z
      rw [← z, h2, ee] at hp
      cases hp
    rw [up_ne ne]
    exact h2
  · refine .inr ⟨h1, ?_⟩
    cases odd with
    | ptr e => exact (h1 e rfl).elim
    | _ => exact h2
theorem PenOk_mono {b b' : Int} {X : MO} (h : PenOk b X) (k : b ≤ b') : PenOk b' X := by
  obtain ⟨cells, kk, left, e1, e2, e3, e4⟩ := h
  exact ⟨cells, kk, left, e1, e2, by omega, e4⟩
theorem asked_8 {P : DEnds} {x : List (Option D) → DX} {m : Sto} {pen c d : Addr} {s1 s2 s13 : Option D} {odd : D} {way part far L more : Int} {b : Int} {X : MO} {F A : List Int} {r : Int} {F2 A2 : List Int} {r2 : Int} {T G : List Int}
    (hp : m pen = some X) (hX : PenOk b X) (hb : b ≤ 2 ^ 29) (hc : m c = some (.lst (T.map .int))) (hd : m d = some (.lst (G.map .int))) (hT1 : 0 < T.length) (hG1 : 0 < G.length) (rs : Rise F2 A2 r2) (gl : lst0 G ≤ lst0 T) (p0 : 0 ≤ part) (far0 : 0 ≤ far) (hm : 0 ≤ more ∧ more ≤ L) (hL : leaveI F A r T = L)
    (p1 : part < 8) (hodd : OddOk m odd) (hR : ∀ X' d e w, PenOk (b + 1) X' → Asked F A r F2 A2 r2 T G (up m pen X') d e w → P.rt (.tup [d, e, .str w]) (up m pen X')) :
    r_law_asked_8 P ⟨[some (.ptr pen), s1, s2, some (.ptr c), some (.ptr d), some (.int way), some (.int part), some (.int far), some odd, some (.int L), some (.int more), some (.int (must F2 A2 r2 T G more)), some (.int (full T G more)), s13], x⟩ m := by
  have mn := must_nn (F := F2) (A := A2) (r := r2) (T := T) (G := G) (x := more)
  have mf := must_full (T := T) (G := G) (x := more) rs hm.1 gl
  obtain ⟨fu, hfu'⟩ : ∃ fu, full T G more = fu := ⟨_, rfl⟩
  obtain ⟨mu, hmu⟩ : ∃ mu, must F2 A2 r2 T G more = mu := ⟨_, rfl⟩
  rw [hfu'] at mf
  rw [hmu] at mf mn ⊢
  rw [hfu']
  have e8 : mu ≤ mu + (fu - mu) * part / 7 ∧ mu + (fu - mu) * part / 7 ≤ fu := by
    have h1 : 0 ≤ (fu - mu) * part := Int.mul_nonneg (by omega) p0
    have h2 : (fu - mu) * part ≤ (fu - mu) * 7 := Int.mul_le_mul_of_nonneg_left (by omega) (by omega)
    omega
  refine ⟨MulOk.small (by omega) (by omega), CDivW.small (by decide) (by decide), (by show 3 ≤ sizeLine; decide), b, X, hp, hX, by omega, by decide, by decide, fun k2 X6 z0 z1 hX6 => ?_⟩
  obtain ⟨go, hgo, hat3⟩ := atI_mem (ns := [mu, mu + (fu - mu) * part / 7, fu]) z0 z1
  have hg : mu ≤ go ∧ go ≤ fu := by
    simp only [List.mem_cons, List.not_mem_nil, or_false] at hgo
    rcases hgo with e | e | e <;> rw [e] <;> omega
  have hodd3 : OddOk (up m pen X6) odd := hodd.pen hp hX
  have fin := fun d e w ha => hR X6 d e w hX6 ha
  refine ⟨_, _, rfl, hat3, ?_⟩
  subst hmu hfu'
  refine asked_9 p0 far0 (by omega) hm.1 (by omega) (by omega) mn (fun y hy => fin _ _ _ ?_) (fun y hy => fin _ _ _ ?_) (fin _ _ _ ?_) (fin _ _ _ ?_) (fun y hy => fin _ _ _ ?_) (fin _ _ _ ?_) (fun y h1 h2 => fin _ _ _ ?_)
  · exact .inr (.inr (.inr ⟨rfl, .inl ⟨hodd3, .inl ⟨_, rfl, hy⟩⟩⟩))
  · exact .inr (.inr (.inr ⟨rfl, .inr ⟨hodd3, _, rfl, hy⟩⟩))
  · exact .inr (.inr (.inr ⟨rfl, .inl ⟨hodd3, .inr hodd3⟩⟩))
  · exact .inl ⟨rfl, _, _, rfl, rfl, hm.1, by omega, hg.1, hg.2⟩
  · exact .inr (.inl ⟨rfl, _, _, rfl, rfl, by omega, hy, .inl (by omega)⟩)
  · exact .inr (.inl ⟨rfl, _, _, rfl, rfl, hm.1, by omega, .inr ⟨by omega, by omega⟩⟩)
  · exact .inr (.inr (.inl ⟨rfl, _, _, rfl, rfl, hm.1, h1, by omega, by omega, h2⟩))
theorem asked_7 {P : DEnds} {x : List (Option D) → DX} {m : Sto} {pen c d : Addr} {s1 s2 s12 s13 : Option D} {odd : D} {way part far L more : Int} {b : Int} {X : MO} {F A : List Int} {r : Int} {F2 A2 : List Int} {r2 : Int} {T G : List Int}
    (hp : m pen = some X) (hX : PenOk b X) (hb : b ≤ 2 ^ 29) (hc : m c = some (.lst (T.map .int))) (hd : m d = some (.lst (G.map .int))) (hT1 : 0 < T.length) (hG1 : 0 < G.length) (rs : Rise F2 A2 r2) (gl : lst0 G ≤ lst0 T) (p0 : 0 ≤ part) (far0 : 0 ≤ far) (hm : 0 ≤ more ∧ more ≤ L) (hL : leaveI F A r T = L)
    (p1 : part < 8) (hodd : OddOk m odd) (hR : ∀ X' d e w, PenOk (b + 1) X' → Asked F A r F2 A2 r2 T G (up m pen X') d e w → P.rt (.tup [d, e, .str w]) (up m pen X')) :
    r_law_asked_7 P ⟨[some (.ptr pen), s1, s2, some (.ptr c), some (.ptr d), some (.int way), some (.int part), some (.int far), some odd, some (.int L), some (.int more), some (.int (must F2 A2 r2 T G more)), s12, s13], x⟩ m := by
  exact ⟨_, _, ⟨_, hc, rfl⟩, atI_last hT1, _, _, ⟨_, hd, rfl⟩, atI_last hG1, asked_8 hp hX hb hc hd hT1 hG1 rs gl p0 far0 hm hL p1 hodd hR⟩
theorem v_law_asked {ds : List D} {m : Sto} {R : D → Sto → Prop} {RX : DX} (h : sp_law_asked ds m R RX) : r_law_asked { nx := fun _ m' => R .non m', rt := R } ⟨ds.map some ++ List.replicate (14 - ds.length) none, fun _ => RX⟩ m := by
  unfold sp_law_asked at h
  split at h
  · rename_i pen f gg c d
    obtain ⟨b, X, F, A, r, F2, A2, r2, T, G, hp, hX, hb, rfl, rfl, hc, hd, kp, dr, rs, lg, gb, hT, hR⟩ := h
    have hT1 := kp.len
    have npc : pen ≠ c := by
      obtain ⟨_, _, _, e, _⟩ := hX
      intro z
      rw [z, hc, e] at hp
      cases T <;> cases hp
    have npd : pen ≠ d := by
      obtain ⟨_, _, _, e, _⟩ := hX
      intro z
      rw [z, hd, e] at hp
      cases G <;> cases hp
    have a12 := a60 dr
    have b12 : A2.length < 2 ^ 60 := by have := rs.al; omega
    refine ⟨b, X, hp, hX, by omega, by decide, by decide, fun way X1 w0 w1 hX1 => ?_⟩
    refine ⟨b + 1, X1, up_same, hX1, by omega, by decide, by decide, fun part X2 p0 p1 hX2 => ?_⟩
    simp only [up_up]
    refine ⟨⟨by decide, by decide, by decide⟩, (by show 4 ≤ sizeLine; decide), b + 1 + 1, X2, up_same, hX2, by omega, by decide, by decide, fun k X3 k0 k1 hX3 => ?_⟩
    simp only [up_up]
    obtain ⟨far, hfar, hat⟩ := atI_mem (ns := [0, 0, 5, 10 ^ Int.toNat 28]) k0 k1
    have far0 : 0 ≤ far := by
      simp only [List.mem_cons, List.not_mem_nil, or_false] at hfar
      rcases hfar with e | e | e | e <;> rw [e] <;> decide
    clear hfar
    refine ⟨_, _, rfl, hat, b + 1 + 1 + 1, X3, up_same, hX3, by omega, fun odd m1 X4 hp1 hX4 k1' hodd => ?_⟩
    have fr1 : Kp [pen] m m1 := Kp.trans (Kp.refl.up (by simp)) k1'
    have hc1 := fr1 _ _ (by simpa using npc.symm) hc
    have hd1 := fr1 _ _ (by simpa using npd.symm) hd
    have hl0 := kp.leave_nn dr
    have hl1 := kp.leave_sm dr
    refine ⟨F, A, r, T, rfl, hc1, dr.a0, a12, hT1, by omega, ?_⟩
    obtain ⟨L, hL⟩ : ∃ L, leaveI F A r T = L := ⟨_, rfl⟩
    rw [hL] at hl0 hl1 ⊢
    have e7 : 0 ≤ L * part / 7 ∧ L * part / 7 ≤ L := by
      have h1 : 0 ≤ L * part := Int.mul_nonneg hl0 p0
      have h2 : L * part ≤ L * 7 := Int.mul_le_mul_of_nonneg_left (by omega) hl0
      omega
    refine ⟨MulOk.small (by omega) (by omega), CDivW.small (by decide) (by decide), (by show 4 ≤ sizeLine; decide), b + 1 + 1 + 1 + 2, X4, hp1, hX4, by omega, by decide, by decide, fun k' X5 k0' k1' hX5 => ?_⟩
    obtain ⟨more, hmore, hat2⟩ := atI_mem (ns := [L, L * part / 7, min L part, 0]) k0' k1'
    have hm : 0 ≤ more ∧ more ≤ L := by
      simp only [List.mem_cons, List.not_mem_nil, or_false] at hmore
      rcases hmore with e | e | e | e <;> rw [e] <;> omega
    clear hmore
    have hG1 : 0 < G.length := by omega
    have ne : ∀ {y : Addr} {o : MO}, pen ≠ y → m1 y = some o → up m1 pen X5 y = some o := fun n h => (up_ne n.symm).trans h
    refine ⟨_, _, rfl, hat2, F2, A2, r2, T, G, rfl, ne npc hc1, ne npd hd1, rs.a0, b12, hT1, by omega, hG1, ?_⟩
    refine asked_7 (F := F) (A := A) (r := r) up_same hX5 (by omega) (ne npc hc1) (ne npd hd1) hT1 hG1 rs (gb _ (lst0_mem hG1)).2 p0 far0 hm hL p1 (hodd.pen hp1 hX4) fun X' d e w hX' ha => ?_
    simp only [up_up] at ha ⊢
    exact hR _ X' d e w up_same (PenOk_mono hX' (by omega)) (fr1.up (by simp)) ha
  · exact h.elim
end K56

namespace K56
open PySem PySem.Spec PyProof.Rows L2 Dl Pg Pn Mt
section
variable {C E : Addr} {m m' : Sto} {u a p q g c d : Addr} {F A : List Int} {r : Int} {F2 A2 : List Int} {r2 : Int} {T G T' G' : List Int} {n n' : Nat}
theorem RP.keep (M : RP C E m u a p q g c d F A r F2 A2 r2 T G n) {ws : List Addr} (k : Kp ws m m') (h : ∀ x ∈ [u, a, p, q, g, c, d], x ∉ ws) : RP C E m' u a p q g c d F A r F2 A2 r2 T G n :=
  ⟨⟨k _ _ (h _ (by simp)) M.rn.ob, ⟨k _ _ (h _ (by simp)) M.rn.mt.ob, k _ _ (h _ (by simp)) M.rn.mt.tl, k _ _ (h _ (by simp)) M.rn.mt.ms, M.rn.mt.pq, M.rn.mt.n1, M.rn.mt.t1⟩, k _ _ (h _ (by simp)) M.rn.gn, M.rn.pg, M.rn.qg, M.rn.g1⟩,
    k _ _ (h _ (by simp)) M.ct, k _ _ (h _ (by simp)) M.dt, M.pc, M.qc, M.gc, M.pd, M.qd, M.gd, M.cd, M.kp, M.dr, M.rs, M.lg, M.gb, M.tb⟩
theorem RP.to (M : RP C E m u a p q g c d F A r F2 A2 r2 T G n) (hu : m' u = m u) (ha : m' a = m a) (hp : m' p = some (.lst (T'.map .int))) (hq : m' q = some (.lst ((vals F A r n').map .int))) (hg : m' g = some (.lst (G'.map .int))) (hc : m' c = some (.lst (T'.map .int))) (hd : m' d = some (.lst (G'.map .int)))
    (hn : 1 ≤ n') (k : Keeps F A r T') (lg : G'.length = T'.length) (gb : ∀ x ∈ G', 0 ≤ x ∧ x ≤ lst0 T') (tb : lst0 T' ≤ 2000000 * (T'.length : Int)) : RP C E m' u a p q g c d F A r F2 A2 r2 T' G' n' :=
  ⟨⟨hu.trans M.rn.ob, ⟨ha.trans M.rn.mt.ob, hp, hq, M.rn.mt.pq, hn, k.len⟩, hg, M.rn.pg, M.rn.qg, by have := k.len; omega⟩, hc, hd, M.pc, M.qc, M.gc, M.pd, M.qd, M.gd, M.cd, k, M.dr, M.rs, lg, gb, tb⟩
theorem RP.most (M : RP C E m u a p q g c d F A r F2 A2 r2 T G n) (h : 1 ≤ n') : RP C E (up m q (.lst ((vals F A r n').map .int))) u a p q g c d F A r F2 A2 r2 T G n' :=
  M.to (up_ne M.rn.uq) (up_ne M.rn.mt.aq) ((up_ne M.rn.mt.pq).trans M.rn.mt.tl) up_same ((up_ne M.rn.qg.symm).trans M.rn.gn) ((up_ne M.qc.symm).trans M.ct) ((up_ne M.qd.symm).trans M.dt) h M.kp M.lg M.gb M.tb
theorem RP.uc (M : RP C E m u a p q g c d F A r F2 A2 r2 T G n) : u ≠ c := ne_some M.rn.ob M.ct (fun z => by cases z)
theorem RP.ud (M : RP C E m u a p q g c d F A r F2 A2 r2 T G n) : u ≠ d := ne_some M.rn.ob M.dt (fun z => by cases z)
theorem RP.ac (M : RP C E m u a p q g c d F A r F2 A2 r2 T G n) : a ≠ c := ne_some M.rn.mt.ob M.ct (fun z => by cases z)
theorem RP.ad (M : RP C E m u a p q g c d F A r F2 A2 r2 T G n) : a ≠ d := ne_some M.rn.mt.ob M.dt (fun z => by cases z)
theorem RP.hG (M : RP C E m u a p q g c d F A r F2 A2 r2 T G n) : 0 < G.length := by have := M.kp.len; have := M.lg; omega
theorem RP.gl (M : RP C E m u a p q g c d F A r F2 A2 r2 T G n) : 0 ≤ lst0 G ∧ lst0 G ≤ lst0 T := M.gb _ (lst0_mem M.hG)
/-- the addresses but of what x is not -/
theorem RP.off (M : RP C E m u a p q g c d F A r F2 A2 r2 T G n) {P : Addr} {qn : Str} (hP : m P = some (.tab qn)) : ∀ x ∈ [u, a, p, q, g, c, d], x ≠ P := by
  intro x hx z
  subst z
  simp only [List.mem_cons, List.not_mem_nil, or_false] at hx
  rcases hx with e | e | e | e | e | e | e <;> subst e
  · exact nomatch M.rn.ob.symm.trans hP
  · exact nomatch M.rn.mt.ob.symm.trans hP
  · exact nomatch M.rn.mt.tl.symm.trans hP
  · exact nomatch M.rn.mt.ms.symm.trans hP
  · exact nomatch M.rn.gn.symm.trans hP
  · exact nomatch M.ct.symm.trans hP
  · exact nomatch M.dt.symm.trans hP
theorem RP.offN (M : RP C E m u a p q g c d F A r F2 A2 r2 T G n) {P : Addr} (hP : m P = none) : ∀ x ∈ [u, a, p, q, g, c, d], x ≠ P := by
  intro x hx z
  subst z
  simp only [List.mem_cons, List.not_mem_nil, or_false] at hx
  rcases hx with e | e | e | e | e | e | e <;> subst e
  · exact nomatch M.rn.ob.symm.trans hP
  · exact nomatch M.rn.mt.ob.symm.trans hP
  · exact nomatch M.rn.mt.tl.symm.trans hP
  · exact nomatch M.rn.mt.ms.symm.trans hP
  · exact nomatch M.rn.gn.symm.trans hP
  · exact nomatch M.ct.symm.trans hP
  · exact nomatch M.dt.symm.trans hP
theorem lst0_app {T : List Int} {x : Int} : lst0 (T ++ [x]) = x := by
  show (T ++ [x]).getD ((T ++ [x]).length - 1) 0 = x
  rw [List.length_append, show T.length + [x].length - 1 = T.length from rfl, getD_app2]
theorem RP.lens (M : RP C E m u a p q g c d F A r F2 A2 r2 T G n) {x y : Int} : (G ++ [lst0 G + y]).length = (T ++ [lst0 T + x]).length := by
  rw [List.length_append, List.length_append, M.lg]
  rfl
theorem RP.gbs (M : RP C E m u a p q g c d F A r F2 A2 r2 T G n) {x y : Int} (x0 : 0 ≤ x) (y0 : 0 ≤ y) (y1 : y ≤ full T G x) : ∀ z ∈ G ++ [lst0 G + y], 0 ≤ z ∧ z ≤ lst0 (T ++ [lst0 T + x]) := by
  intro z hz
  rw [lst0_app]
  rcases List.mem_append.mp hz with hz | hz
  · have := M.gb z hz
    omega
  · have e := List.mem_singleton.mp hz
    have := M.gl
    have y1' : y ≤ lst0 T - lst0 G + x := y1
    rw [e]
    omega
theorem RP.tbs (M : RP C E m u a p q g c d F A r F2 A2 r2 T G n) {x : Int} (x1 : x ≤ leaveI F A r T) : lst0 (T ++ [lst0 T + x]) ≤ 2000000 * ((T ++ [lst0 T + x]).length : Int) := by
  rw [lst0_app, List.length_append]
  have := M.tb
  have := M.kp.leave_sm M.dr
  show lst0 T + x ≤ 2000000 * ((T.length + 1 : Nat) : Int)
  omega
end
theorem Kp.fresh {ws : List Addr} {m m1 : Sto} {x : Addr} {o : MO} (a : Kp ws m m1) (h : m x = none) : Kp ws m (up m1 x o) := fun y u hy k => by
  rw [up_ne fun z => by rw [z, h] at k; cases k]
  exact a y u hy k
theorem steps_bd {T : List Int} {B : Int} (h : ∀ x ∈ T, 0 ≤ x ∧ x ≤ B) : ∀ x ∈ steps T, x.natAbs ≤ B.toNat := by
  intro x hx
  unfold steps at hx
  obtain ⟨i, hi, rfl⟩ := List.mem_map.mp hx
  have hi' := List.mem_range.mp hi
  have h1 := h _ (List.mem_of_getElem? (gd (l := T) (i := i) (by omega)))
  have h2 := h _ (List.mem_of_getElem? (gd (l := T) (i := i + 1) (by omega)))
  omega
theorem Keeps.le_last {F A : List Int} {r : Int} {T : List Int} (h : Keeps F A r T) : ∀ i j, i ≤ j → j < T.length → T.getD i 0 ≤ T.getD j 0 := by
  intro i j hij
  induction j with
  | zero => intro _; rw [Nat.le_zero.mp hij]; exact Int.le_refl _
  | succ j ih =>
    intro hj
    rcases Nat.lt_or_ge i (j + 1) with h1 | h1
    · exact Int.le_trans (ih (by omega) (by omega)) (h.up j hj)
    · have e : i = j + 1 := by omega
      rw [e]
      exact Int.le_refl _
theorem Keeps.bd {F A : List Int} {r : Int} {T : List Int} (h : Keeps F A r T) : ∀ x ∈ T, 0 ≤ x ∧ x ≤ lst0 T := by
  intro x hx
  obtain ⟨i, hi, e⟩ := List.getElem_of_mem hx
  have e' : T.getD i 0 = x := by
    rw [List.getD_eq_getElem?_getD, List.getElem?_eq_getElem hi, e]
    rfl
  rw [← e']
  have h1 := Keeps.le_last h 0 i (Nat.zero_le _) hi
  have h2 := Keeps.le_last h i (T.length - 1) (by omega) (by omega)
  rw [h.zero] at h1
  exact ⟨h1, h2⟩
/-- two lists of steps are shown -/
theorem shw_two {T G : List Int} {B : Int} (hB : B ≤ 802000000) (hT : ∀ x ∈ T, 0 ≤ x ∧ x ≤ B) (hG : ∀ x ∈ G, 0 ≤ x ∧ x ≤ B) (lT : T.length ≤ 401) (lG : G.length ≤ 401) : Shw (.tuple [.list ((steps T).map .int), .list ((steps G).map .int)]) 100000 2 := by
  have one : ∀ T : List Int, (∀ x ∈ T, 0 ≤ x ∧ x ≤ B) → T.length ≤ 401 → Shw (.list ((steps T).map .int)) 41203 1 := fun T hT lT =>
    (Shw.ints (n := 400) (fun x hx => Nat.lt_of_le_of_lt (steps_bd hT x hx) (by omega)) (by unfold steps; rw [List.length_map, List.length_range]; omega)).mono (by decide) (by decide)
  refine (Shw.tuple (k := 41203) (d := 1) (n := 2) (fun p hp => ?_) (by simp)).mono (by decide) (by decide)
  simp only [List.mem_cons, List.not_mem_nil, or_false] at hp
  rcases hp with e | e <;> subst e
  · exact one T hT lT
  · exact one G hG lG
theorem shw_pair {x y : Int} (hx : x.natAbs < 2 ^ 100) (hy : y.natAbs < 2 ^ 100) : Shw (.tuple [.int x, .int y]) 1000 1 :=
  (Shw.intsT (ns := [x, y]) (n := 2) (fun z hz => by
    simp only [List.mem_cons, List.not_mem_nil, or_false] at hz
    rcases hz with e | e <;> rw [e] <;> assumption) (by simp)).mono (by decide) (by decide)
variable {c_Meter c_Run : Addr}
theorem lc_steps3 {x : List (Option D) → DX} {m : Sto} {R : D → Sto → Prop} {s0 s1 s2 sb s5 s6 s7 s8 : Option D} {c : Addr} {T : List Int} (hc : m c = some (.lst (T.map .int))) (hT : T.length ≤ 1000) (hR : R (.lst ((steps T).map .int)) m) :
    (dLc false [6] false (rngI2 (dC (.int 1)) (dCB lenD (dCons (dVar 3) dNil))) dYes (dOp subD (dOp ixD (dVar 3) (dVar 6)) (dOp ixD (dVar 3) (dOp subD (dVar 6) (dC (.int 1)))))) ⟨[s0, s1, s2, some (.ptr c), sb, s5, s6, s7, s8], x⟩ m R := by
  refine ⟨_, _, hc, rfl, ?_⟩
  rw [List.length_map]
  refine ⟨⟨by decide, by decide, by omega, by omega⟩, lc_pure false ((steps T).map D.int) (fun _ _ => trivial) ?_ ?_ (fun k x y m3 hx hy le => ?_) hR⟩
  · rw [rgL_len, List.length_map]
    unfold steps
    rw [List.length_map, List.length_range]
    omega
  · rw [rgL_len]
    exact Nat.le_of_lt (big1000 (by omega))
  · obtain ⟨hk, rfl⟩ := rgL_inv hx
    have hk' : k < T.length - 1 := by omega
    unfold steps at hy
    rw [List.getElem?_map, List.getElem?_map, List.getElem?_range hk'] at hy
    cases hy
    refine ⟨_, rfl, fun R hR => ⟨_, _, ⟨_, le _ _ hc, rfl⟩, atI_int ?_ ?_, _, _, ⟨_, le _ _ hc, rfl⟩, atI_int ?_ ?_, ?_⟩⟩
    · omega
    · omega
    · omega
    · omega
    · have e1 : ((1 : Int) + (k : Nat)).toNat = k + 1 := by omega
      have e2 : ((1 : Int) + (k : Nat) - 1).toNat = k := by omega
      rw [e1, e2]
      exact hR
theorem lc_steps4 {x : List (Option D) → DX} {m : Sto} {R : D → Sto → Prop} {s0 s1 s2 sa s5 s6 s7 s8 : Option D} {c : Addr} {T : List Int} (hc : m c = some (.lst (T.map .int))) (hT : T.length ≤ 1000) (hR : R (.lst ((steps T).map .int)) m) :
    (dLc false [6] false (rngI2 (dC (.int 1)) (dCB lenD (dCons (dVar 4) dNil))) dYes (dOp subD (dOp ixD (dVar 4) (dVar 6)) (dOp ixD (dVar 4) (dOp subD (dVar 6) (dC (.int 1)))))) ⟨[s0, s1, s2, sa, some (.ptr c), s5, s6, s7, s8], x⟩ m R := by
  refine ⟨_, _, hc, rfl, ?_⟩
  rw [List.length_map]
  refine ⟨⟨by decide, by decide, by omega, by omega⟩, lc_pure false ((steps T).map D.int) (fun _ _ => trivial) ?_ ?_ (fun k x y m3 hx hy le => ?_) hR⟩
  · rw [rgL_len, List.length_map]
    unfold steps
    rw [List.length_map, List.length_range]
    omega
  · rw [rgL_len]
    exact Nat.le_of_lt (big1000 (by omega))
  · obtain ⟨hk, rfl⟩ := rgL_inv hx
    have hk' : k < T.length - 1 := by omega
    unfold steps at hy
    rw [List.getElem?_map, List.getElem?_map, List.getElem?_range hk'] at hy
    cases hy
    refine ⟨_, rfl, fun R hR => ⟨_, _, ⟨_, le _ _ hc, rfl⟩, atI_int ?_ ?_, _, _, ⟨_, le _ _ hc, rfl⟩, atI_int ?_ ?_, ?_⟩⟩
    · omega
    · omega
    · omega
    · omega
    · have e1 : ((1 : Int) + (k : Nat)).toNat = k + 1 := by omega
      have e2 : ((1 : Int) + (k : Nat) - 1).toNat = k := by omega
      rw [e1, e2]
      exact hR
theorem stands_2 {P : DEnds} {x : List (Option D) → DX} {m : Sto} {u a p q g c d : Addr} {F A : List Int} {r : Int} {F2 A2 : List Int} {r2 : Int} {T G : List Int} {n : Nat} {s2 s5 s6 s7 s8 : Option D} (M : RP c_Meter c_Run m u a p q g c d F A r F2 A2 r2 T G n) (hT : T.length ≤ 401) (hn : n ≤ 1000)
    (hR : ∀ m', RP c_Meter c_Run m' u a p q g c d F A r F2 A2 r2 T G (max n (T.length + 1)) → Kp [q] m m' → P.rt (.bl true) m') :
    r_law_stands_2 c_Meter c_Run P ⟨[some (.ptr u), some (crv F A r), s2, some (.ptr c), some (.ptr d), s5, s6, s7, s8], x⟩ m := by
  have a12 := a60 M.dr
  have hT1 := M.rn.mt.t1
  have M1 := M.most (n' := max n (T.length + 1)) (by omega)
  refine ⟨_, M.rn.ob, rfl, a, p, q, g, F, A, r, F2, A2, r2, T, G, n, M.rn, M.dr.a0, a12, by omega, by omega, _, M1.rn.ob, rfl, a, p, q, g, F, A, r, F2, A2, r2, T, G, _, M1.rn, (by show 2 ≤ sizeLine; decide), ?_⟩
  have k1 : Kp [q] m (up m q (.lst ((vals F A r (max n (T.length + 1))).map .int))) := Kp.refl.up (by simp)
  generalize up m q (.lst ((vals F A r (max n (T.length + 1))).map .int)) = m1 at *
  have L0 := M.kp.leave_nn M.dr
  have L1 := M.kp.leave_sm M.dr
  have gl := M.gl
  have tb := M.tb
  have S := shw_pair (x := leaveI F A r T) (y := lst0 T - lst0 G) (by omega) (by omega)
  have pv : ∀ m2, Pv m2 (.tup [.int (leaveI F A r T), .int (lst0 T - lst0 G)]) (.tuple [.int (leaveI F A r T), .int (lst0 T - lst0 G)]) := fun m2 => .tup (.cons (.int _) (.cons (.int _) .nil))
  have big : 1000 ≤ sizeLine := by decide
  have lb := Nat.le_trans S.ln big
  have db : PyData.depth (.tuple [.int (leaveI F A r T), .int (lst0 T - lst0 G)]) ≤ 50 := Nat.le_trans S.dp (by decide)
  refine ⟨_, pv _, S.sh, S.nd, lb, db, trivial, F, A, r, T, rfl, M1.ct, M.dr.a0, a12, hT1, by omega, _, _, ⟨_, M1.ct, rfl⟩, atI_last hT1, _, _, ⟨_, M1.dt, rfl⟩, atI_last M.hG, (by show 2 ≤ sizeLine; decide), _, pv _, S.sh, S.nd, lb, db, trivial, ?_⟩
  show P.rt (.bl (decide _)) _
  rw [decide_eq_true rfl]
  exact hR _ M1 k1
theorem stands_1 {P : DEnds} {x : List (Option D) → DX} {m : Sto} {u a p q g c d : Addr} {F A : List Int} {r : Int} {F2 A2 : List Int} {r2 : Int} {T G : List Int} {n : Nat} {s2 s6 s7 s8 : Option D} (M : RP c_Meter c_Run m u a p q g c d F A r F2 A2 r2 T G n) (hT : T.length ≤ 401) (hn : n ≤ 1000)
    (hR : ∀ m', RP c_Meter c_Run m' u a p q g c d F A r F2 A2 r2 T G (max n (T.length + 1)) → Kp [q] m m' → P.rt (.bl true) m') :
    r_law_stands_1 c_Meter c_Run P ⟨[some (.ptr u), some (crv F A r), s2, some (.ptr c), some (.ptr d), some (.tup [.lst ((steps T).map .int), .lst ((steps G).map .int)]), s6, s7, s8], x⟩ m := by
  have tb := M.tb
  have hB : lst0 T ≤ 802000000 := by omega
  have S := shw_two hB (Keeps.bd M.kp) M.gb hT (by rw [M.lg]; exact hT)
  have big : 100000 ≤ sizeLine := by decide
  have lb := Nat.le_trans S.ln big
  have db := Nat.le_trans S.dp (show 2 ≤ 50 by decide)
  refine ⟨by decide, by decide, fun i δ m' => ∃ t w, δ = ⟨[some (.ptr u), some (crv F A r), s2, some (.ptr c), some (.ptr d), some (.tup [.lst ((steps T).map .int), .lst ((steps G).map .int)]), s6, t, w], x⟩ ∧ Kp [] m m', ⟨_, _, rfl, Kp.refl⟩, fun _ _ _ _ => trivial, ?_, ?_⟩
  · rintro i y δ m1 hx ⟨t, w, rfl, k1⟩
    have M1 := M.keep k1 (fun _ _ => by simp)
    refine ⟨_, M1.rn.ob, rfl, a, p, q, g, F, A, r, F2, A2, r2, T, G, n, M1.rn, by omega, by have := M.lg; omega, fun s e hs he hse => ?_⟩
    have ms : up (up m1 s (.lst ((steps T).map .int))) e (.lst ((steps G).map .int)) s = some (.lst ((steps T).map .int)) := (up_ne hse).trans up_same
    have me : up (up m1 s (.lst ((steps T).map .int))) e (.lst ((steps G).map .int)) e = some (.lst ((steps G).map .int)) := up_same
    refine ⟨_, .tup (.cons (.ptr ms rfl (PvL.ints _)) (.cons (.ptr me rfl (PvL.ints _)) .nil)), S.sh, S.nd, lb, db, trivial, _, .tup (.cons (.lst (PvL.ints _)) (.cons (.lst (PvL.ints _)) .nil)), S.sh, S.nd, lb, db, trivial, (fun z => ?_), fun _ => ?_⟩
    · rw [decide_eq_true rfl] at z
      cases z
    · have k2 : ∀ o1 o2 : MO, Kp [] m (up (up m1 s o1) e o2) := fun o1 o2 => (k1.new hs).new ((up_ne hse.symm).trans he)
      have k3 : ∀ o1 o2 o3 o4 : MO, Kp [] m (up (up (up (up m1 s o1) e o2) s o3) e o4) := fun o1 o2 o3 o4 => by
        rw [up_comm (m := up m1 s o1) hse.symm, up_up, up_up]
        exact k2 _ _
      refine ⟨_, _, rfl, rfl, ⟨_, _, ms, rfl⟩, _, ms, ?_, _, _, rfl, rfl, ⟨_, _, (up_ne hse.symm).trans me, rfl⟩, _, (up_ne hse.symm).trans me, _, _, rfl, k3 _ _ _ _⟩
      rw [List.length_map]
      unfold steps
      rw [List.length_map, List.length_range]
      exact big1000 (by omega)
  · rintro δ m1 ⟨t, w, rfl, k1⟩
    have M1 := M.keep k1 (fun _ _ => by simp)
    exact stands_2 M1 hT hn fun m' M' k' => hR m' M' ((k1.mono (by simp)).trans k')
theorem v_law_stands {ds : List D} {m : Sto} {R : D → Sto → Prop} {RX : DX} (h : sp_law_stands c_Meter c_Run ds m R RX) : r_law_stands c_Meter c_Run { nx := fun _ m' => R .non m', rt := R } ⟨ds.map some ++ List.replicate (9 - ds.length) none, fun _ => RX⟩ m := by
  unfold sp_law_stands at h
  split at h
  · rename_i u f gg c d
    obtain ⟨a, p, q, g, F, A, r, F2, A2, r2, T, G, n, M, rfl, rfl, hT, hn, hR⟩ := h
    exact lc_steps3 M.ct (by omega) (lc_steps4 M.dt (by have := M.lg; omega) ⟨(by show 2 ≤ sizeLine; decide), stands_1 M hT hn hR⟩)
  · exact h.elim
end K56

namespace K56
open PySem PySem.Spec PyProof.Rows L2 Dl Pg Pn Mt
variable {c_Meter c_Run c_Endless c_NoBack c_NoCurve c_NoName c_NoNet c_NoRow c_NoStream c_NoText c_Ring c_TooLittle c_TooLong c_TooMuch : Addr}
theorem kp_back {m m1 m2 : Sto} {P : Addr} {o' : MO} {ws : List Addr} (k1 : Kp ws (up m P o') m1) (hP : P ∈ ws) (k2 : Kp [P] m1 m2) : Kp ws m m2 := fun y u hy k => by
  have yP : y ≠ P := fun z => hy (z ▸ hP)
  exact k2 y u (by simpa using yP) (k1 y u hy (by rw [up_ne yP]; exact k))
theorem OddOk.num {m : Sto} {d : D} (h : OddOk m d) : NumB m d false := by
  rcases h with ⟨e, rfl, h2⟩ | ⟨_, h2⟩
  · exact ⟨rfl, _, h2, rfl⟩
  · exact h2
theorem OddOk.keep {m m' : Sto} {d : D} (h : OddOk m d) {ws : List Addr} (k : Kp ws m m') (hw : ∀ x ∈ ws, m x ≠ some (.dct [])) : OddOk m' d := by
  rcases h with ⟨e, rfl, h2⟩ | ⟨h1, h2⟩
  · exact .inl ⟨e, rfl, k _ _ (fun z => hw _ z h2) h2⟩
  · refine .inr ⟨h1, ?_⟩
    cases d with
    | ptr e => exact (h1 e rfl).elim
    | _ => exact h2
theorem RP.nodct {C E : Addr} {m : Sto} {u a p q g c d : Addr} {F A : List Int} {r : Int} {F2 A2 : List Int} {r2 : Int} {T G : List Int} {n : Nat} (M : RP C E m u a p q g c d F A r F2 A2 r2 T G n) : ∀ x ∈ [p, q, g, c, d], m x ≠ some (.dct []) := by
  intro x hx z
  simp only [List.mem_cons, List.not_mem_nil, or_false] at hx
  rcases hx with e | e | e | e | e <;> subst e
  · exact nomatch M.rn.mt.tl.symm.trans z
  · exact nomatch M.rn.mt.ms.symm.trans z
  · exact nomatch M.rn.gn.symm.trans z
  · exact nomatch M.ct.symm.trans z
  · exact nomatch M.dt.symm.trans z
section
variable {m : Sto} {u a p q g c d P : Addr} {F A : List Int} {r : Int} {F2 A2 : List Int} {r2 : Int} {T G : List Int} {n : Nat} {qn : Str} {δ : Ev} {R : D → Sto → Prop} {o : DE} {t : DA} {e e2 : D}
theorem mem1 {P : Addr} {l : List Addr} (h : ∀ x ∈ l, x ≠ P) : ∀ x ∈ l, x ∉ [P] := fun x hx z => h x hx (List.mem_singleton.mp z)
theorem ask_owed (M : RP c_Meter c_Run m u a p q g c d F A r F2 A2 r2 T G n) (hP : m P = some (.tab qn)) (ho : ∀ x m' Rr, Rr (.ptr u) m' → o ⟨δ.s, x⟩ m' Rr) (ht : ∀ x m' Rr, Rr [e] m' → t ⟨δ.s, x⟩ m' Rr) (hT : T.length ≤ 401) (hn : n ≤ 1000) {w : D}
    (hc : (OddOk m e ∧ w = .tup [.str "stream", .non]) ∨ (∃ x, e = .int x ∧ 0 ≤ x ∧ leaveI F A r T < x ∧ w = .tup [.str "much", .non]) ∨ (∃ x, e = .int x ∧ 0 ≤ x ∧ x ≤ leaveI F A r T ∧ w = .tup [.str "told", .int (must F2 A2 r2 T G x)]))
    (hR : ∀ m2 n2, RP c_Meter c_Run m2 u a p q g c d F A r F2 A2 r2 T G n2 → n2 ≤ max n (T.length + 1) → Kp [P, q] m m2 → m2 P = some (.tab qn) → R w m2) :
    dWord (r_law_word c_Endless c_NoBack c_NoCurve c_NoName c_NoNet c_NoRow c_NoStream c_NoText c_Ring c_TooLittle c_TooLong c_TooMuch) 4 P qn (dMethX c_Run "owed" (sp_Run_owed c_Meter c_Run c_TooMuch c_TooLittle c_NoStream c_TooLong) o t) δ m R := by
  have off := M.off hP
  have qP : q ≠ P := off q (by simp)
  have hT1 := M.rn.mt.t1
  refine word_run hP fun c' vs x W hx hW => ?_
  have k0 : Kp [P] m (up m P (.clo qn c' vs δ.s)) := Kp.refl.up (by simp)
  have M0 := M.keep k0 (mem1 off)
  refine ho _ _ _ ⟨_, M0.rn.ob, rfl, ht _ _ _ ?_⟩
  have plain : ∀ m2, Kp [P] (up m P (.clo qn c' vs δ.s)) m2 → m2 P = some (.tab qn) → R w m2 := fun m2 k2 h2 =>
    hR m2 n (M0.keep k2 (mem1 off)) (by omega) (kp_back (ws := [P, q]) Kp.refl (by simp) k2) h2
  have M1 := M0.most (n' := max n (T.length + 1)) (by omega)
  have k1 : Kp [P, q] (up m P (.clo qn c' vs δ.s)) (up (up m P (.clo qn c' vs δ.s)) q (.lst ((vals F A r (max n (T.length + 1))).map .int))) := Kp.refl.up (by simp)
  have hclo : up (up m P (.clo qn c' vs δ.s)) q (.lst ((vals F A r (max n (T.length + 1))).map .int)) P = some (.clo qn c' vs δ.s) := (up_ne qP.symm).trans up_same
  rcases hc with ⟨hb, e1⟩ | ⟨x0, e1, h0, hl, e2⟩ | ⟨x0, e1, h0, hl, e2⟩
  · subst e1
    exact ⟨a, p, q, g, F, A, r, F2, A2, r2, T, G, n, false, M0.rn, M.rs, M.dr.a0, a60 M.dr, hT, hn, (hb.keep k0 (fun x hx => by rw [List.mem_singleton.mp hx, hP]; exact fun z => nomatch z)).num, fun _ => hx _ _ _ (.head _) up_same plain _, fun z => nomatch z⟩
  · subst e1 e2
    exact ⟨a, p, q, g, F, A, r, F2, A2, r2, T, G, n, true, M0.rn, M.rs, M.dr.a0, a60 M.dr, hT, hn, (decide_eq_true h0).symm, (fun z => nomatch z), fun _ => ⟨x0, rfl, fun _ => hx _ _ _ (.tail _ (.tail _ (.head _))) hclo (fun m2 k2 h2 => hR m2 _ (M1.keep k2 (mem1 off)) (Nat.le_refl _) (kp_back k1 (by simp) k2) h2) _, fun z => by omega⟩⟩
  · subst e1 e2
    exact ⟨a, p, q, g, F, A, r, F2, A2, r2, T, G, n, true, M0.rn, M.rs, M.dr.a0, a60 M.dr, hT, hn, (decide_eq_true h0).symm, (fun z => nomatch z), fun _ => ⟨x0, rfl, fun z => by omega, fun _ => hW _ _ hclo (hR _ _ (M1.keep (Kp.refl.up (x := P) (by simp)) (mem1 off)) (Nat.le_refl _) (kp_back k1 (by simp) (Kp.refl.up (by simp))) up_same)⟩⟩
theorem ask_turn (M : RP c_Meter c_Run m u a p q g c d F A r F2 A2 r2 T G n) (hP : m P = some (.tab qn)) (ho : ∀ x m' Rr, Rr (.ptr u) m' → o ⟨δ.s, x⟩ m' Rr) (ht : ∀ x m' Rr, Rr [e, e2] m' → t ⟨δ.s, x⟩ m' Rr) (hT : T.length ≤ 401) (hn : n ≤ 1000) {w : Str}
    (hc : (((OddOk m e ∧ ((∃ y, e2 = .int y ∧ 0 ≤ y) ∨ OddOk m e2)) ∨ (OddOk m e2 ∧ ∃ x, e = .int x ∧ 0 ≤ x)) ∧ w = "stream") ∨ (∃ x y, e = .int x ∧ e2 = .int y ∧ 0 ≤ x ∧ 0 ≤ y ∧ ((T.length = 401 ∧ w = "long") ∨ (T.length < 401 ∧ (leaveI F A r T < x ∨ x ≤ leaveI F A r T ∧ full T G x < y) ∧ w = "much") ∨ (T.length < 401 ∧ x ≤ leaveI F A r T ∧ y ≤ full T G x ∧ y < must F2 A2 r2 T G x ∧ w = "little"))))
    (hR : ∀ m2 n2, RP c_Meter c_Run m2 u a p q g c d F A r F2 A2 r2 T G n2 → n2 ≤ max n (T.length + 1) → Kp [P, q] m m2 → m2 P = some (.tab qn) → R (.tup [.str w, .non]) m2) :
    dWord (r_law_word c_Endless c_NoBack c_NoCurve c_NoName c_NoNet c_NoRow c_NoStream c_NoText c_Ring c_TooLittle c_TooLong c_TooMuch) 4 P qn (dMethX c_Run "turn" (sp_Run_turn c_Meter c_Run c_TooMuch c_TooLittle c_NoStream c_TooLong) o t) δ m R := by
  have off := M.off hP
  have qP : q ≠ P := off q (by simp)
  have hT1 := M.rn.mt.t1
  have lG := M.lg
  refine word_run hP fun c' vs x W hx hW => ?_
  have k0 : Kp [P] m (up m P (.clo qn c' vs δ.s)) := Kp.refl.up (by simp)
  have M0 := M.keep k0 (mem1 off)
  refine ho _ _ _ ⟨_, M0.rn.ob, rfl, ht _ _ _ ?_⟩
  have plain : ∀ m2, Kp [P] (up m P (.clo qn c' vs δ.s)) m2 → m2 P = some (.tab qn) → R (.tup [.str w, .non]) m2 := fun m2 k2 h2 =>
    hR m2 n (M0.keep k2 (mem1 off)) (by omega) (kp_back (ws := [P, q]) Kp.refl (by simp) k2) h2
  have M1 := M0.most (n' := max n (T.length + 1)) (by omega)
  have k1 : Kp [P, q] (up m P (.clo qn c' vs δ.s)) (up (up m P (.clo qn c' vs δ.s)) q (.lst ((vals F A r (max n (T.length + 1))).map .int))) := Kp.refl.up (by simp)
  have hclo : up (up m P (.clo qn c' vs δ.s)) q (.lst ((vals F A r (max n (T.length + 1))).map .int)) P = some (.clo qn c' vs δ.s) := (up_ne qP.symm).trans up_same
  have later : ∀ m2, Kp [P] (up (up m P (.clo qn c' vs δ.s)) q (.lst ((vals F A r (max n (T.length + 1))).map .int))) m2 → m2 P = some (.tab qn) → R (.tup [.str w, .non]) m2 := fun m2 k2 h2 => hR m2 _ (M1.keep k2 (mem1 off)) (Nat.le_refl _) (kp_back k1 (by simp) k2) h2
  have ko : ∀ {e : D}, OddOk m e → NumB (up m P (.clo qn c' vs δ.s)) e false := fun hb => (hb.keep k0 (fun x hx => by rw [List.mem_singleton.mp hx, hP]; exact fun z => nomatch z)).num
  rcases hc with ⟨hb, e1⟩ | ⟨x0, y0, e1, e3, h0, h1, hl⟩
  · subst e1
    rcases hb with ⟨hb, hb2⟩ | ⟨hb, x0, e1, h0⟩
    · have hb3 : ∃ b, NumB (up m P (.clo qn c' vs δ.s)) e2 b := by
        rcases hb2 with ⟨y, rfl, hy⟩ | hb2
        · exact ⟨true, (decide_eq_true hy).symm⟩
        · exact ⟨false, ko hb2⟩
      obtain ⟨b, hb3⟩ := hb3
      exact ⟨a, p, q, g, F, A, r, F2, A2, r2, T, G, n, false, b, M0.rn, M.rs, M.dr.a0, a60 M.dr, hT, by omega, hn, ko hb, hb3, fun _ => hx _ _ _ (.head _) up_same plain _, (fun z => nomatch z)⟩
    · subst e1
      exact ⟨a, p, q, g, F, A, r, F2, A2, r2, T, G, n, true, false, M0.rn, M.rs, M.dr.a0, a60 M.dr, hT, by omega, hn, (decide_eq_true h0).symm, ko hb, fun _ => hx _ _ _ (.head _) up_same plain _, (fun _ z => nomatch z)⟩
  · subst e1 e3
    refine ⟨a, p, q, g, F, A, r, F2, A2, r2, T, G, n, true, true, M0.rn, M.rs, M.dr.a0, a60 M.dr, hT, by omega, hn, (decide_eq_true h0).symm, (decide_eq_true h1).symm, (fun z => nomatch z), fun _ _ => ⟨x0, y0, rfl, rfl, ?_⟩⟩
    rcases hl with ⟨hl, e1⟩ | ⟨hl, hm, e1⟩ | ⟨hl, hm1, hm2, hm3, e1⟩ <;> subst e1
    · exact ⟨fun _ => hx _ _ _ (.tail _ (.head _)) up_same plain _, fun z => by omega⟩
    · refine ⟨fun z => by omega, fun _ => ⟨fun _ => hx _ _ _ (.tail _ (.tail _ (.head _))) hclo later _, fun z => ⟨fun _ => hx _ _ _ (.tail _ (.tail _ (.head _))) hclo later _, fun z2 => ?_⟩⟩⟩
      rcases hm with hm | ⟨_, hm⟩
      · omega
      · have hm' : lst0 T - lst0 G + x0 < y0 := hm
        omega
    · refine ⟨fun z => by omega, fun _ => ⟨fun z => by omega, fun _ => ⟨fun z => ?_, fun _ => ⟨fun _ => hx _ _ _ (.tail _ (.tail _ (.tail _ (.head _)))) hclo later _, fun z => by omega⟩⟩⟩⟩
      have hm' : y0 ≤ lst0 T - lst0 G + x0 := hm2
      omega
theorem ask_told (M : RP c_Meter c_Run m u a p q g c d F A r F2 A2 r2 T G n) (hP : m P = some (.tab qn)) (ho : ∀ x m' Rr, Rr (.ptr u) m' → o ⟨δ.s, x⟩ m' Rr) {x y : Int} (ht : ∀ z m' Rr, Rr [.int x, .int y] m' → t ⟨δ.s, z⟩ m' Rr) (hT : T.length < 401) (hn : n ≤ 1000)
    (x0 : 0 ≤ x) (x1 : x ≤ leaveI F A r T) (y0 : must F2 A2 r2 T G x ≤ y) (y1 : y ≤ full T G x)
    (hR : ∀ m2, m2 p = some (.lst ((T ++ [lst0 T + x]).map .int)) → m2 q = some (.lst ((vals F A r (max n (T.length + 1))).map .int)) → m2 g = some (.lst ((G ++ [lst0 G + y]).map .int)) → Kp [P, p, q, g] m m2 → m2 P = some (.tab qn) → R (.tup [.str "told", .int (lst0 T + x - (lst0 G + y))]) m2) :
    dWord (r_law_word c_Endless c_NoBack c_NoCurve c_NoName c_NoNet c_NoRow c_NoStream c_NoText c_Ring c_TooLittle c_TooLong c_TooMuch) 4 P qn (dMethX c_Run "turn" (sp_Run_turn c_Meter c_Run c_TooMuch c_TooLittle c_NoStream c_TooLong) o t) δ m R := by
  have off := M.off hP
  have qP : q ≠ P := off q (by simp)
  have pP : p ≠ P := off p (by simp)
  have gP : g ≠ P := off g (by simp)
  have hT1 := M.rn.mt.t1
  have lG := M.lg
  have mn := must_nn (F := F2) (A := A2) (r := r2) (T := T) (G := G) (x := x)
  refine word_run hP fun c' vs xx W hx hW => ?_
  have k0 : Kp [P] m (up m P (.clo qn c' vs δ.s)) := Kp.refl.up (by simp)
  have M0 := M.keep k0 (mem1 off)
  refine ho _ _ _ ⟨_, M0.rn.ob, rfl, ht _ _ _ ?_⟩
  refine ⟨a, p, q, g, F, A, r, F2, A2, r2, T, G, n, true, true, M0.rn, M.rs, M.dr.a0, a60 M.dr, by omega, by omega, hn, (decide_eq_true x0).symm, (decide_eq_true (by omega)).symm, (fun z => nomatch z), fun _ _ => ⟨x, y, rfl, rfl, fun z => by omega, fun _ => ⟨fun z => by omega, fun _ => ⟨fun z => ?_, fun _ => ⟨fun z => by omega, fun _ => hW _ _ ?_ ?_⟩⟩⟩⟩⟩
  · have hm' : y ≤ lst0 T - lst0 G + x := y1
    omega
  · rw [up_ne gP.symm, up_ne pP.symm, up_ne qP.symm, up_same]
  · refine hR _ ?_ ?_ ?_ ?_ up_same
    · rw [up_ne pP, up_ne M.rn.pg, up_same]
    · rw [up_ne qP, up_ne M.rn.qg, up_ne M.rn.mt.pq.symm, up_same]
    · rw [up_ne gP, up_same]
    · exact ((((Kp.refl.up (by simp)).up (by simp)).up (by simp)).up (by simp)).up (by simp)
end
/-! ### texts of words -/
structure Wd (w : D) : Prop where
  ex : ∃ ps, (∀ m, Pv m w (.tuple ps)) ∧ Shw (.tuple ps) 2000 1
theorem shw_str (x : Str) (h : (PyData.showable (.str x) && !PyData.hasDict (.str x) && decide ((PyData.shown (.str x)).length ≤ 200) && decide (PyData.depth (.str x) ≤ 0)) = true) : Shw (.str x) 200 0 := by
  simp only [Bool.and_eq_true, decide_eq_true_eq, Bool.not_eq_true'] at h
  exact ⟨h.1.1.1, h.1.1.2, h.1.2, h.2⟩
theorem wd_non {w : Str} (h : Shw (.str w) 200 0) : Wd (.tup [.str w, .non]) := by
  refine ⟨⟨[.str w, .none], fun m => .tup (.cons (.str _) (.cons .non .nil)), (Shw.tuple (k := 200) (d := 0) (n := 2) (fun p hp => ?_) (by simp)).mono (by decide) (by decide)⟩⟩
  simp only [List.mem_cons, List.not_mem_nil, or_false] at hp
  rcases hp with e | e <;> subst e
  · exact h
  · exact ⟨by decide +kernel, by decide +kernel, by decide +kernel, by decide +kernel⟩
theorem wd_int {w : Str} (h : Shw (.str w) 200 0) {x : Int} (hx : x.natAbs < 2 ^ 100) : Wd (.tup [.str w, .int x]) := by
  refine ⟨⟨[.str w, .int x], fun m => .tup (.cons (.str _) (.cons (.int _) .nil)), (Shw.tuple (k := 200) (d := 0) (n := 2) (fun p hp => ?_) (by simp)).mono (by decide) (by decide)⟩⟩
  simp only [List.mem_cons, List.not_mem_nil, or_false] at hp
  rcases hp with e | e <;> subst e
  · exact h
  · exact (Shw.int hx (by decide) (by decide)).mono (by decide) (by decide)
theorem s_stream : Shw (.str "stream") 200 0 := shw_str _ (by decide +kernel)
theorem s_much : Shw (.str "much") 200 0 := shw_str _ (by decide +kernel)
theorem s_told : Shw (.str "told") 200 0 := shw_str _ (by decide +kernel)
end K56

namespace K56
open PySem PySem.Spec PyProof.Rows L2 Dl Pg Pn Mt
variable {c_Meter c_Run c_Endless c_NoBack c_NoCurve c_NoName c_NoNet c_NoRow c_NoStream c_NoText c_Ring c_TooLittle c_TooLong c_TooMuch : Addr}
theorem big2000 : 2000 ≤ sizeLine := by decide
section
variable {m : Sto} {u a p q g c d P : Addr} {F A : List Int} {r : Int} {F2 A2 : List Int} {r2 : Int} {T G : List Int} {n : Nat}
theorem owes_2 {p_law_owes : Addr} {Q : DEnds} {x : List (Option D) → DX} {s1 s2 s3 s4 : Option D} {e w : D} (M : RP c_Meter c_Run m u a p q g c d F A r F2 A2 r2 T G n) (hP : m p_law_owes = some (.tab (lamQ "_law_owes"))) (hT : T.length ≤ 401) (hn : n ≤ 1000)
    (hc : (OddOk m e ∧ w = .tup [.str "stream", .non]) ∨ (∃ x, e = .int x ∧ 0 ≤ x ∧ leaveI F A r T < x ∧ w = .tup [.str "much", .non]) ∨ (∃ x, e = .int x ∧ 0 ≤ x ∧ x ≤ leaveI F A r T ∧ w = .tup [.str "told", .int (must F2 A2 r2 T G x)]))
    (hR : ∀ m' n', RP c_Meter c_Run m' u a p q g c d F A r F2 A2 r2 T G n' → n' ≤ max n (T.length + 1) → Kp [q, p_law_owes] m m' → m' p_law_owes = some (.tab (lamQ "_law_owes")) → Q.rt (.bl true) m') :
    r_law_owes_2 c_Endless c_Meter c_NoBack c_NoCurve c_NoName c_NoNet c_NoRow c_NoStream c_NoText c_Ring c_Run c_TooLittle c_TooLong c_TooMuch p_law_owes Q ⟨[some (.ptr u), s1, s2, s3, s4, some e, some w], x⟩ m := by
  have hw : Wd w := by
    rcases hc with ⟨_, e1⟩ | ⟨_, _, _, _, e1⟩ | ⟨x0, _, h0, h1, e1⟩ <;> subst e1
    · exact wd_non s_stream
    · exact wd_non s_much
    · refine wd_int s_told ?_
      have h2 := M.kp.leave_sm M.dr
      have h3 := must_nn (F := F2) (A := A2) (r := r2) (T := T) (G := G) (x := x0)
      have h4 : _ ≤ lst0 T - lst0 G + x0 := must_full (T := T) (G := G) (x := x0) M.rs h0 M.gl.2
      have h5 := M.gl
      have h6 := M.tb
      omega
  obtain ⟨ps, hpv, S⟩ := hw.ex
  have lb := Nat.le_trans S.ln big2000
  have db : PyData.depth (.tuple ps) ≤ 50 := Nat.le_trans S.dp (by decide)
  refine ask_owed M hP (fun _ _ _ h => h) (e := e) (fun _ _ _ h => h) hT hn hc fun m2 n2 M2 n2b k2 t2 => ?_
  have fin := hR m2 n2 M2 n2b (k2.mono (fun x hx => by simp at hx; rcases hx with e | e <;> simp [e])) t2
  have tup : ∃ ds, w = .tup ds := by
    rcases hc with ⟨_, e1⟩ | ⟨_, _, _, _, e1⟩ | ⟨x0, _, h0, h1, e1⟩ <;> exact ⟨_, e1⟩
  obtain ⟨ds, rfl⟩ := tup
  refine ⟨_, hpv _, S.sh, S.nd, lb, db, trivial, _, hpv _, S.sh, S.nd, lb, db, trivial, ?_⟩
  show Q.rt (.bl (decide _)) _
  rw [decide_eq_true rfl]
  exact fin
theorem test_num {s0 s1 s2 s3 s4 s6 : Option D} {x : List (Option D) → DX} {e : D} {R : Bool → Sto → Prop} {b : Bool} (hb : NumB m e b) (hR : R b m) :
    (dAnd (dB (dIsi .int (dVar 5))) (dAnd (dNot (dB (dIsi .bool (dVar 5)))) (dB (dOp geD (dVar 5) (dC (.int 0)))))) ⟨[s0, s1, s2, s3, s4, some e, s6], x⟩ m R := by
  have no : ∀ {b : Bool}, b = false → R b m → R false m := fun e h => by rw [e] at h; exact h
  cases e with
  | int i =>
    have e : b = decide (0 ≤ i) := hb
    rw [e] at hR
    exact ⟨fun _ => ⟨fun _ => hR, fun z => nomatch z⟩, fun z => nomatch z⟩
  | bl y => exact ⟨fun _ => ⟨(fun z => nomatch z), fun _ => no hb hR⟩, fun z => nomatch z⟩
  | non => exact ⟨(fun z => nomatch z), fun _ => no hb hR⟩
  | str y => exact ⟨(fun z => nomatch z), fun _ => no hb hR⟩
  | tup y => exact ⟨(fun z => nomatch z), fun _ => no hb hR⟩
  | lst y => exact ⟨(fun z => nomatch z), fun _ => no hb hR⟩
  | ptr a =>
    obtain ⟨e, o, ho, hi⟩ := hb
    exact ⟨o, false, ho, hi, (fun z => nomatch z), fun _ => no e hR⟩
  | ty n => exact (hb : False).elim
  | rl y => exact (hb : False).elim
theorem v_law_owes {p_law_owes : Addr} {ds : List D} {R : D → Sto → Prop} {RX : DX} (h : sp_law_owes c_Meter c_Run p_law_owes ds m R RX) :
    r_law_owes c_Endless c_Meter c_NoBack c_NoCurve c_NoName c_NoNet c_NoRow c_NoStream c_NoText c_Ring c_Run c_TooLittle c_TooLong c_TooMuch p_law_owes { nx := fun _ m' => R .non m', rt := R } ⟨ds.map some ++ List.replicate (7 - ds.length) none, fun _ => RX⟩ m := by
  unfold sp_law_owes at h
  split at h
  · rename_i u f gg c d e
    obtain ⟨a, p, q, g, F, A, r, F2, A2, r2, T, G, n, M, rfl, rfl, hT, hn, hP, he, hR⟩ := h
    have a12 := a60 M.dr
    have b12 : A2.length < 2 ^ 60 := by have := M.rs.al; omega
    have hT1 := M.rn.mt.t1
    rcases he with ⟨x, rfl, hx⟩ | he
    · refine ⟨(by show 2 ≤ sizeLine; decide), test_num (e := .int x) (b := true) (decide_eq_true hx).symm ⟨fun _ => ?_, fun z => nomatch z⟩⟩
      refine ⟨(by show 2 ≤ sizeLine; decide), F, A, r, T, rfl, M.ct, M.dr.a0, a12, hT1, by omega, fun z => ?_, fun z => ?_⟩
      · have z' := of_decide_eq_true z
        exact ⟨F2, A2, r2, T, G, rfl, M.ct, M.dt, M.rs.a0, b12, hT1, by omega, M.hG, (by show 2 ≤ sizeLine; decide), owes_2 M hP hT hn (.inr (.inr ⟨x, rfl, hx, z', rfl⟩)) hR⟩
      · have z' := of_decide_eq_false z
        exact owes_2 M hP hT hn (.inr (.inl ⟨x, rfl, hx, by omega, rfl⟩)) hR
    · exact ⟨(by show 2 ≤ sizeLine; decide), test_num he.num ⟨(fun z => nomatch z), fun _ => owes_2 M hP hT hn (.inl ⟨he, rfl⟩) hR⟩⟩
  · exact h.elim
end
end K56

namespace K56
open PySem PySem.Spec PyProof.Rows L2 Dl Pg Pn Mt
variable {c_Meter c_Run c_Endless c_NoBack c_NoCurve c_NoName c_NoNet c_NoRow c_NoStream c_NoText c_Ring c_TooLittle c_TooLong c_TooMuch : Addr}
section
variable {m : Sto} {u a p q g c d P : Addr} {F A : List Int} {r : Int} {F2 A2 : List Int} {r2 : Int} {T G : List Int} {n : Nat}
theorem done_end {Q : DEnds} {x : List (Option D) → DX} {s0 s6 s8 s9 s10 s11 s12 : Option D} {lk : Int} (M : RP c_Meter c_Run m u a p q g c d F A r F2 A2 r2 T G n) (hT : T.length ≤ 401) (hn : n ≤ 1000)
    (hR : ∀ m' n', RP c_Meter c_Run m' u a p q g c d F A r F2 A2 r2 T G n' → n' ≤ max n (T.length + 1) → Kp [q] m m' → Q.rt (.bl true) m') :
    (dRet (dOrV (dOp gtD (dVar 7) (dC (.int 0))) (dCall (sp_law_stands c_Meter c_Run) (dCons (dVar 1) (dCons (dVar 2) (dCons (dVar 3) (dCons (dVar 4) (dCons (dVar 5) dNil)))))))) Q ⟨[s0, some (.ptr u), some (crv F A r), some (crv F2 A2 r2), some (.ptr c), some (.ptr d), s6, some (.int lk), s8, s9, s10, s11, s12], x⟩ m :=
  ⟨fun _ => hR m n M (by omega) Kp.refl, fun _ => ⟨a, p, q, g, F, A, r, F2, A2, r2, T, G, n, M, rfl, rfl, hT, hn, fun m' M' k' => hR m' _ M' (Nat.le_refl _) k'⟩⟩
theorem done_6r {Q : DEnds} {x : List (Option D) → DX} {s0 s6 s8 s9 s11 : Option D} {lk : Int} {w : Str} (hw : w = "stream" ∨ w = "much" ∨ w = "little") (M : RP c_Meter c_Run m u a p q g c d F A r F2 A2 r2 T G n) (hT : T.length ≤ 401) (hn : n ≤ 1000)
    (hR : ∀ m' n', RP c_Meter c_Run m' u a p q g c d F A r F2 A2 r2 T G n' → n' ≤ max n (T.length + 1) → Kp [q] m m' → Q.rt (.bl true) m') :
    r_law_done_6 c_Meter c_Run Q ⟨[s0, some (.ptr u), some (crv F A r), some (crv F2 A2 r2), some (.ptr c), some (.ptr d), s6, some (.int lk), s8, s9, some (.str w), s11, some (.tup [.str w, .non])], x⟩ m := by
  have hb : decide (w = "told") = false := by rcases hw with e | e | e <;> subst e <;> decide +kernel
  have hs : SeqAt.shaped (.tuple [.str w, .none]) = true := by rcases hw with e | e | e <;> subst e <;> decide +kernel
  have he : PyData.eqv (.tuple [.str w, .none]) (.tuple [.str w, .none]) = true := by simp [PyData.eqv, PyData.eqvAll]
  refine ⟨fun z => ?_, fun _ => ?_⟩
  · rw [hb] at z
    cases z
  · have hat : L2.atI [D.non, .bl true] (if decide (w = "told") = true then 1 else 0) = some .non := by rw [hb]; rfl
    refine ⟨(by show 2 ≤ sizeLine; decide), _, _, rfl, hat, (by show 2 ≤ sizeLine; decide), .tuple [.str w, .none], .tuple [.str w, .none], .tup (.cons (.str _) (.cons .non .nil)), .tup (.cons (.str _) (.cons .non .nil)), hs, hs, fun z => ?_, fun _ => done_end M hT hn hR⟩
    rw [he] at z
    cases z
theorem done_6t {Q : DEnds} {x : List (Option D) → DX} {s0 s6 s11 : Option D} {lk come go : Int} {T' G' : List Int} (hc : m c = some (.lst (T.map .int))) (hd : m d = some (.lst (G.map .int))) (cd : c ≠ d) (hT1 : 0 < T.length) (hG1 : 0 < G.length) (hT : T.length ≤ 400) (hG : G.length ≤ 400)
    (eT : T' = T ++ [lst0 T + come]) (eG : G' = G ++ [lst0 G + go]) (M : RP c_Meter c_Run (up (up m c (.lst (T'.map .int))) d (.lst (G'.map .int))) u a p q g c d F A r F2 A2 r2 T' G' n) (hn : n ≤ 1000)
    (hR : ∀ m' n', RP c_Meter c_Run m' u a p q g c d F A r F2 A2 r2 T' G' n' → n' ≤ max n (T'.length + 1) → Kp [q] (up (up m c (.lst (T'.map .int))) d (.lst (G'.map .int))) m' → Q.rt (.bl true) m') :
    r_law_done_6 c_Meter c_Run Q ⟨[s0, some (.ptr u), some (crv F A r), some (crv F2 A2 r2), some (.ptr c), some (.ptr d), s6, some (.int lk), some (.int come), some (.int go), some (.str "told"), s11, some (.tup [.str "told", .int (lst0 T + come - (lst0 G + go))])], x⟩ m := by
  have hb : decide (("told" : Str) = "told") = true := decide_eq_true rfl
  have hs : SeqAt.shaped (.tuple [.str "told", .bool true]) = true := by decide +kernel
  have he : PyData.eqv (.tuple [.str "told", .bool true]) (.tuple [.str "told", .bool true]) = true := by simp [PyData.eqv, PyData.eqvAll]
  have e1 : T.map D.int ++ [D.int (T.getD (T.length - 1) 0 + come)] = T'.map D.int := by rw [eT, List.map_append]; rfl
  have e2 : G.map D.int ++ [D.int (G.getD (G.length - 1) 0 + go)] = G'.map D.int := by rw [eG, List.map_append]; rfl
  have l1 : T'.length = T.length + 1 := by rw [eT, List.length_append]; rfl
  have l2 : G'.length = G.length + 1 := by rw [eG, List.length_append]; rfl
  have z1 : lst0 T' = lst0 T + come := by rw [eT, lst0_app]
  have z2 : lst0 G' = lst0 G + go := by rw [eG, lst0_app]
  refine ⟨fun _ => ?_, fun z => ?_⟩
  · refine ⟨⟨_, _, hc, rfl⟩, _, _, ⟨_, hc, rfl⟩, atI_last hT1, _, hc, ?_, ?_⟩
    · rw [List.length_map]
      exact big1000 (by omega)
    rw [e1]
    have hd1 : ∀ o, up m c o d = some (.lst (G.map .int)) := fun o => (up_ne cd.symm).trans hd
    refine ⟨⟨_, _, hd1 _, rfl⟩, _, _, ⟨_, hd1 _, rfl⟩, atI_last hG1, _, hd1 _, ?_, ?_⟩
    · rw [List.length_map]
      exact big1000 (by omega)
    rw [e2]
    have gl := M.gl
    have tb := M.tb
    have hsm : (lst0 T + come - (lst0 G + go)).natAbs.log2 < 1920 := by
      have : (lst0 T + come - (lst0 G + go)).natAbs < 2 ^ 100 := by omega
      exact Nat.lt_trans (PySem.Flt.log2_lt_of (by decide) this) (by decide)
    have hsm2 : (T'.getD (T'.length - 1) 0 - G'.getD (G'.length - 1) 0).natAbs.log2 < 1920 := by
      have e : T'.getD (T'.length - 1) 0 - G'.getD (G'.length - 1) 0 = lst0 T + come - (lst0 G + go) := by
        show lst0 T' - lst0 G' = _
        omega
      rw [e]
      exact hsm
    have hat : L2.atI [D.non, .bl true] (if decide (("told" : Str) = "told") = true then 1 else 0) = some (.bl true) := by rw [hb]; rfl
    have sh : decide (Str.ofString (toString (lst0 T + come - (lst0 G + go))) = Str.ofString (toString (T'.getD (T'.length - 1) 0 - G'.getD (G'.length - 1) 0))) = true := by
      refine decide_eq_true ?_
      have e : T'.getD (T'.length - 1) 0 - G'.getD (G'.length - 1) 0 = lst0 T + come - (lst0 G + go) := by
        show lst0 T' - lst0 G' = _
        omega
      rw [e]
    refine ⟨_, _, rfl, rfl, _, _, rfl, rfl, hsm, _, _, ⟨_, M.ct, rfl⟩, atI_last (by omega), _, _, ⟨_, M.dt, rfl⟩, atI_last (by omega), hsm2, (by show 2 ≤ sizeLine; decide), ?_⟩
    refine ⟨(by show 2 ≤ sizeLine; decide), _, _, rfl, hat, (by show 2 ≤ sizeLine; decide), .tuple [.str "told", .bool true], .tuple [.str "told", .bool true], .tup (.cons (.str _) (.cons ?_ .nil)), .tup (.cons (.str _) (.cons (.bl _) .nil)), hs, hs, fun z => ?_, fun _ => ?_⟩
    · rw [sh]
      exact .bl true
    · rw [he] at z
      cases z
    · exact done_end M (by omega) hn hR
  · rw [hb] at z
    cases z
end
end K56

namespace K56
open PySem PySem.Spec PyProof.Rows L2 Dl Pg Pn Mt
variable {c_Meter c_Run c_Endless c_NoBack c_NoCurve c_NoName c_NoNet c_NoRow c_NoStream c_NoText c_Ring c_TooLittle c_TooLong c_TooMuch : Addr}
theorem Asked.keep {F A : List Int} {r : Int} {F2 A2 : List Int} {r2 : Int} {T G : List Int} {m m' : Sto} {d e : D} {w : Str} (h : Asked F A r F2 A2 r2 T G m d e w) {ws : List Addr} (k : Kp ws m m') (hw : ∀ x ∈ ws, m x ≠ some (.dct [])) : Asked F A r F2 A2 r2 T G m' d e w := by
  rcases h with h | h | h | ⟨h1, h2⟩
  · exact .inl h
  · exact .inr (.inl h)
  · exact .inr (.inr (.inl h))
  · refine .inr (.inr (.inr ⟨h1, ?_⟩))
    rcases h2 with ⟨ha, hb⟩ | ⟨ha, hb⟩
    · exact .inl ⟨ha.keep k hw, hb.imp id fun z => z.keep k hw⟩
    · exact .inr ⟨ha.keep k hw, hb⟩
section
variable {m : Sto} {u a p q g c d P P2 : Addr} {F A : List Int} {r : Int} {F2 A2 : List Int} {r2 : Int} {T G : List Int} {n : Nat}
theorem done_5 {Q : DEnds} {x : List (Option D) → DX} {s0 s6 s11 s12 : Option D} {lk : Int} {e e2 : D} {w : Str} (M : RP c_Meter c_Run m u a p q g c d F A r F2 A2 r2 T G n) (hP : m P = some (.tab (lamQ "_law_done"))) (hT : T.length ≤ 350) (hn : n ≤ 900) (hA : Asked F A r F2 A2 r2 T G m e e2 w)
    (hR : ∀ m' T' G' n', RP c_Meter c_Run m' u a p q g c d F A r F2 A2 r2 T' G' n' → T'.length ≤ T.length + 1 → n' ≤ max n (T.length + 2) → Kp [p, q, g, c, d, P] m m' → m' P = some (.tab (lamQ "_law_done")) → Q.rt (.bl true) m') :
    r_law_done_5 c_Endless c_Meter c_NoBack c_NoCurve c_NoName c_NoNet c_NoRow c_NoStream c_NoText c_Ring c_Run c_TooLittle c_TooLong c_TooMuch P Q ⟨[s0, some (.ptr u), some (crv F A r), some (crv F2 A2 r2), some (.ptr c), some (.ptr d), s6, some (.int lk), some e, some e2, some (.str w), s11, s12], x⟩ m := by
  have off := M.off hP
  have lG := M.lg
  have hT1 := M.kp.len
  have bad : ∀ w' : Str, (w' = "stream" ∨ w' = "much" ∨ w' = "little") → w' = w → (((OddOk m e ∧ ((∃ y, e2 = .int y ∧ 0 ≤ y) ∨ OddOk m e2)) ∨ (OddOk m e2 ∧ ∃ x, e = .int x ∧ 0 ≤ x)) ∧ w' = "stream") ∨ (∃ x y, e = .int x ∧ e2 = .int y ∧ 0 ≤ x ∧ 0 ≤ y ∧ ((T.length = 401 ∧ w' = "long") ∨ (T.length < 401 ∧ (leaveI F A r T < x ∨ x ≤ leaveI F A r T ∧ full T G x < y) ∧ w' = "much") ∨ (T.length < 401 ∧ x ≤ leaveI F A r T ∧ y ≤ full T G x ∧ y < must F2 A2 r2 T G x ∧ w' = "little"))) →
      r_law_done_5 c_Endless c_Meter c_NoBack c_NoCurve c_NoName c_NoNet c_NoRow c_NoStream c_NoText c_Ring c_Run c_TooLittle c_TooLong c_TooMuch P Q ⟨[s0, some (.ptr u), some (crv F A r), some (crv F2 A2 r2), some (.ptr c), some (.ptr d), s6, some (.int lk), some e, some e2, some (.str w), s11, s12], x⟩ m := by
    intro w' hw ew hc
    subst ew
    refine ask_turn M hP (fun _ _ _ h => h) (e := e) (e2 := e2) (fun _ _ _ h => h) (by omega) (by omega) hc fun m2 n2 M2 n2b k2 t2 => ?_
    refine done_6r hw M2 (by omega) (by omega) fun m3 n3 M3 n3b k3 => hR m3 T G n3 M3 (by omega) (by omega) ((k2.mono fun x hx => by simp at hx; rcases hx with e | e <;> simp [e]).trans (k3.mono fun x hx => by simp at hx; simp [hx])) (k3 _ _ (by simpa using (off q (by simp)).symm) t2)
  rcases hA with ⟨ew, x0, y0, e1, e3, h0, h1, h2, h3⟩ | ⟨ew, x0, y0, e1, e3, h0, h1, h2⟩ | ⟨ew, x0, y0, e1, e3, h0, h1, h2, h3, h4⟩ | ⟨ew, h⟩
  · subst ew e1 e3
    have mn := must_nn (F := F2) (A := A2) (r := r2) (T := T) (G := G) (x := x0)
    refine ask_told M hP (fun _ _ _ h => h) (fun _ _ _ h => h) (by omega) (by omega) h0 h1 h2 h3 fun m2 hp hq hg k2 t2 => ?_
    have cP := off c (by simp)
    have dP := off d (by simp)
    have kc := k2 _ _ (by simp [M.pc.symm, M.qc.symm, M.gc.symm, cP]) M.ct
    have kd := k2 _ _ (by simp [M.pd.symm, M.qd.symm, M.gd.symm, dP]) M.dt
    have ku := k2 _ _ (by simp [M.rn.uq, M.rn.up_, M.rn.ug, off u (by simp)]) M.rn.ob
    have ka := k2 _ _ (by simp [M.rn.mt.aq, M.rn.mt.ap, M.rn.ag, off a (by simp)]) M.rn.mt.ob
    have M3 : RP c_Meter c_Run (up (up m2 c (.lst ((T ++ [lst0 T + x0]).map .int))) d (.lst ((G ++ [lst0 G + y0]).map .int))) u a p q g c d F A r F2 A2 r2 (T ++ [lst0 T + x0]) (G ++ [lst0 G + y0]) (max n (T.length + 1)) :=
      M.to (by rw [up_ne M.ud, up_ne M.uc, ku, M.rn.ob]) (by rw [up_ne M.ad, up_ne M.ac, ka, M.rn.mt.ob]) (by rw [up_ne M.pd, up_ne M.pc]; exact hp) (by rw [up_ne M.qd, up_ne M.qc]; exact hq) (by rw [up_ne M.gd, up_ne M.gc]; exact hg) (by rw [up_ne M.cd, up_same]) up_same (by omega) (M.kp.app M.dr h0 h1) M.lens (M.gbs h0 (by omega) h3) (M.tbs h1)
    have l1 : (T ++ [lst0 T + x0]).length = T.length + 1 := by rw [List.length_append]; rfl
    refine done_6t kc kd M.cd hT1 M.hG (by omega) (by omega) rfl rfl M3 (by omega) fun m3 n3 M4 n3b k3 => hR m3 _ _ n3 M4 (by omega) (by omega) ?_ ?_
    · exact (((k2.mono fun x hx => by simp at hx; rcases hx with e | e | e | e <;> simp [e]).up (by simp)).up (by simp)).trans (k3.mono fun x hx => by simp at hx; simp [hx])
    · exact k3 _ _ (by simpa using (off q (by simp)).symm) (by rw [up_ne dP.symm, up_ne cP.symm]; exact t2)
  · exact bad "much" (.inr (.inl rfl)) ew.symm (.inr ⟨x0, y0, e1, e3, h0, h1, .inr (.inl ⟨by omega, h2, rfl⟩)⟩)
  · exact bad "little" (.inr (.inr rfl)) ew.symm (.inr ⟨x0, y0, e1, e3, h0, h1, .inr (.inr ⟨by omega, h2, h3, h4, rfl⟩)⟩)
  · exact bad "stream" (.inl rfl) ew.symm (.inl ⟨h, rfl⟩)
theorem lq1 : lamQ "_law_owes" ≠ lamQ "_law_done" := by decide +kernel
theorem lq2 : lamQ "_law_owes" ≠ lamQ "_law_filled" := by decide +kernel
theorem lq3 : lamQ "_law_done" ≠ lamQ "_law_filled" := by decide +kernel
theorem Asked.num {e e2 : D} {w : Str} (h : Asked F A r F2 A2 r2 T G m e e2 w) : (∃ x, e = .int x ∧ 0 ≤ x) ∨ OddOk m e := by
  rcases h with ⟨ew, x0, y0, e1, e3, h0, h1, h2, h3⟩ | ⟨ew, x0, y0, e1, e3, h0, h1, h2⟩ | ⟨ew, x0, y0, e1, e3, h0, h1, h2, h3, h4⟩ | ⟨ew, h⟩
  · exact .inl ⟨x0, e1, h0⟩
  · exact .inl ⟨x0, e1, h0⟩
  · exact .inl ⟨x0, e1, h0⟩
  · rcases h with ⟨h, _⟩ | ⟨_, h⟩
    · exact .inr h
    · exact .inl h
theorem done_4 {Q : DEnds} {x : List (Option D) → DX} {s0 s12 : Option D} {ask lk other : Int} {e e2 : D} {w : Str} (M : RP c_Meter c_Run m u a p q g c d F A r F2 A2 r2 T G n) (hP : m P = some (.tab (lamQ "_law_owes"))) (hP2 : m P2 = some (.tab (lamQ "_law_done"))) (hT : T.length ≤ 350) (hn : n ≤ 800) (hA : Asked F A r F2 A2 r2 T G m e e2 w)
    (a0 : 0 ≤ ask) (o0 : 0 ≤ other)
    (hR : ∀ m' T' G' n', RP c_Meter c_Run m' u a p q g c d F A r F2 A2 r2 T' G' n' → T'.length ≤ T.length + 1 → n' ≤ max n (T.length + 2) → Kp [p, q, g, c, d, P, P2] m m' → m' P = some (.tab (lamQ "_law_owes")) → m' P2 = some (.tab (lamQ "_law_done")) → Q.rt (.bl true) m') :
    r_law_done_4 c_Endless c_Meter c_NoBack c_NoCurve c_NoName c_NoNet c_NoRow c_NoStream c_NoText c_Ring c_Run c_TooLittle c_TooLong c_TooMuch P2 P Q ⟨[s0, some (.ptr u), some (crv F A r), some (crv F2 A2 r2), some (.ptr c), some (.ptr d), some (.int ask), some (.int lk), some e, some e2, some (.str w), some (.int other), s12], x⟩ m := by
  have off := M.off hP
  have off2 := M.off hP2
  have PP : P ≠ P2 := ne_some hP hP2 (fun z => lq1 (by injection z))
  have go : ∀ m1 n1, RP c_Meter c_Run m1 u a p q g c d F A r F2 A2 r2 T G n1 → n1 ≤ max n (T.length + 1) → Kp [q, P] m m1 → m1 P = some (.tab (lamQ "_law_owes")) →
      r_law_done_5 c_Endless c_Meter c_NoBack c_NoCurve c_NoName c_NoNet c_NoRow c_NoStream c_NoText c_Ring c_Run c_TooLittle c_TooLong c_TooMuch P2 Q ⟨[s0, some (.ptr u), some (crv F A r), some (crv F2 A2 r2), some (.ptr c), some (.ptr d), some (.int ask), some (.int lk), some e, some e2, some (.str w), some (.int other), s12], x⟩ m1 := fun m1 n1 M1 n1b k1 t1 => by
    refine done_5 M1 (k1 _ _ (by simp [PP.symm, (off2 q (by simp)).symm]) hP2) hT (by omega) (hA.keep k1 fun x hx => ?_) fun m2 T' G' n2 M2 l2 n2b k2 t2 => hR m2 T' G' n2 M2 l2 (by omega) ((k1.mono fun x hx => by simp at hx; rcases hx with e | e <;> simp [e]).trans (k2.mono fun x hx => by simp at hx; rcases hx with e | e | e | e | e | e <;> simp [e])) (k2 _ _ ?_ t1) t2
    · simp only [List.mem_cons, List.not_mem_nil, or_false] at hx
      rcases hx with e | e <;> subst e
      · exact M.nodct _ (by simp)
      · rw [hP]
        exact fun z => nomatch z
    · simp [PP, (off p (by simp)).symm, (off q (by simp)).symm, (off g (by simp)).symm, (off c (by simp)).symm, (off d (by simp)).symm]
  refine ⟨fun ha => ?_, fun _ => ⟨(fun z => nomatch z), fun _ => go m n M (by omega) Kp.refl hP⟩⟩
  have ha' := of_decide_eq_true ha
  obtain ⟨y, hy, hat⟩ := atI_some (xs := [e, .int other]) (k := ask) a0 (by show ask < 2; exact ha')
  have hy2 : (∃ x, y = .int x ∧ 0 ≤ x) ∨ OddOk m y := by
    simp only [List.mem_cons, List.not_mem_nil, or_false] at hy
    rcases hy with e | e <;> subst e
    · exact hA.num
    · exact .inl ⟨_, rfl, o0⟩
  exact ⟨(by show 2 ≤ sizeLine; decide), _, _, rfl, hat, a, p, q, g, F, A, r, F2, A2, r2, T, G, n, M, rfl, rfl, by omega, by omega, hP, hy2, fun m' n' M' n'b k' t' => ⟨(fun z => nomatch z), fun _ => go m' n' M' n'b k' t'⟩⟩
theorem v_law_done {p_law_done p_law_owes : Addr} {ds : List D} {R : D → Sto → Prop} {RX : DX} (h : sp_law_done c_Meter c_Run p_law_owes p_law_done ds m R RX) :
    r_law_done c_Endless c_Meter c_NoBack c_NoCurve c_NoName c_NoNet c_NoRow c_NoStream c_NoText c_Ring c_Run c_TooLittle c_TooLong c_TooMuch p_law_done p_law_owes { nx := fun _ m' => R .non m', rt := R } ⟨ds.map some ++ List.replicate (13 - ds.length) none, fun _ => RX⟩ m := by
  unfold sp_law_done at h
  split at h
  · rename_i pen u f gg c d
    obtain ⟨b, X, a, p, q, g, F, A, r, F2, A2, r2, T, G, n, hp, hX, hb, M, np, nq, ng, nc, nd, rfl, rfl, hT, hn, hP, hP2, hR⟩ := h
    have na : pen ≠ a := by
      intro z
      rw [z, M.rn.mt.ob] at hp
      obtain ⟨_, _, _, e, _⟩ := hX
      rw [e] at hp
      cases hp
    have nu : pen ≠ u := by
      intro z
      rw [z, M.rn.ob] at hp
      obtain ⟨_, _, _, e, _⟩ := hX
      rw [e] at hp
      cases hp
    have nP : pen ≠ p_law_owes := by
      intro z
      rw [z, hP] at hp
      obtain ⟨_, _, _, e, _⟩ := hX
      rw [e] at hp
      cases hp
    have nP2 : pen ≠ p_law_done := by
      intro z
      rw [z, hP2] at hp
      obtain ⟨_, _, _, e, _⟩ := hX
      rw [e] at hp
      cases hp
    have offp : ∀ x ∈ [u, a, p, q, g, c, d], x ∉ [pen] := by
      intro x hx z
      rw [List.mem_singleton.mp z] at hx
      simp [nu, na, np, nq, ng, nc, nd] at hx
    refine ⟨b, X, hp, hX, by omega, by decide, by decide, fun ask X1 a0 a1 hX1 => ?_⟩
    refine ⟨b + 1, X1, up_same, hX1, by omega, by decide, by decide, fun lk X2 l0 l1 hX2 => ?_⟩
    simp only [up_up]
    have k2 : Kp [pen] m (up m pen X2) := Kp.refl.up (by simp)
    have M2 := M.keep k2 offp
    refine ⟨b + 1 + 1, X2, F, A, r, F2, A2, r2, T, G, up_same, hX2, by omega, rfl, rfl, M2.ct, M2.dt, M.kp, M.dr, M.rs, M.lg, M.gb, by omega, fun m3 X3 e e2 w hp3 hX3 k3 hA => ⟨rfl, ?_⟩⟩
    have k3' := k2.trans k3
    have M3 := M.keep k3' offp
    have a12 := a60 M.dr
    have L0 := M.kp.leave_nn M.dr
    have L1 := M.kp.leave_sm M.dr
    have hT1 := M.kp.len
    refine ⟨F, A, r, T, rfl, M3.ct, M.dr.a0, a12, hT1, by omega, b + 1 + 1 + 10, X3, hp3, hX3, by omega, by omega, by omega, fun other X4 o0 o1 hX4 => ?_⟩
    have k4 : Kp [pen] m3 (up m3 pen X4) := Kp.refl.up (by simp)
    have M4 := M3.keep k4 offp
    have k4' := k3'.trans k4
    have hp4 : up m3 pen X4 pen = some X4 := up_same
    refine done_4 M4 (k4' _ _ (by simpa using nP.symm) hP) (k4' _ _ (by simpa using nP2.symm) hP2) (by omega) (by omega) (hA.keep k4 fun x hx => ?_) a0 o0 fun m5 T' G' n5 M5 l5 n5b k5 t5 t6 => hR m5 X4 T' G' n5 (k5 _ _ ?_ hp4) (PenOk_mono hX4 (by omega)) M5 l5 (by omega) t5 t6 ((k4'.mono fun x hx => by simp at hx; simp [hx]).trans (k5.mono fun x hx => by simp at hx ⊢; exact .inr hx))
    · rw [List.mem_singleton.mp hx, hp3]
      obtain ⟨_, _, _, e, _⟩ := hX3
      rw [e]
      exact fun z => nomatch z
    · simp [np, nq, ng, nc, nd, nP, nP2]
  · exact h.elim
end
end K56

namespace K56
open PySem PySem.Spec PyProof.Rows L2 Dl Pg Pn Mt
variable {c_Meter c_Run c_Endless c_NoBack c_NoCurve c_NoName c_NoNet c_NoRow c_NoStream c_NoText c_Ring c_TooLittle c_TooLong c_TooMuch : Addr}
theorem atI_2 {T : List Int} {x y : Int} (h : 0 < T.length) (hy : lst0 T = y) : L2.atI ((T ++ [x]).map D.int) (-2) = some (.int y) := by
  have l2 : (T ++ [x]).length = T.length + 1 := by rw [List.length_append]; rfl
  unfold L2.atI L2.ixN
  rw [if_neg (by decide), if_pos (by rw [List.length_map, l2]; omega)]
  show ((T ++ [x]).map D.int)[(-2 + (((T ++ [x]).map D.int).length : Int)).toNat]? = _
  have e : (-2 + (((T ++ [x]).map D.int).length : Int)).toNat = T.length - 1 := by rw [List.length_map, l2]; omega
  rw [e, List.getElem?_map, gd (by omega), getD_app1 (by omega)]
  rw [← hy]
  rfl
theorem atI_1 {T : List Int} {x : Int} : L2.atI ((T ++ [x]).map D.int) (-1) = some (.int x) := by
  have := atI_last (T := T ++ [x]) (by simp)
  rw [this]
  exact congrArg (fun z => some (D.int z)) (lst0_app (T := T) (x := x))
section
variable {m : Sto} {u a p q g c d P P2 : Addr} {F A : List Int} {r : Int} {F2 A2 : List Int} {r2 : Int} {T G : List Int} {n : Nat}
theorem filled_l1 {Q : DEnds} {x : List (Option D) → DX} {s1 s5 s7 s8 s9 s10 s11 s12 s13 : Option D} {T0 : List Int} (M : RP c_Meter c_Run m u a p q g c d F A r F2 A2 r2 T G n) (hT : T.length < 401) (hn : n ≤ 600) (h0 : 0 < T0.length) (h1 : T0.length ≤ T.length) (h2 : ∀ s, s < T0.length → T.getD s 0 = T0.getD s 0)
    (hR : ∀ z7 z8 m' y, RP c_Meter c_Run m' u a p q g c d F A r F2 A2 r2 (T ++ [lst0 T]) (G ++ [y]) (max n (T.length + 1)) → Kp [p, q, g, c, d] m m' → Q.nx ⟨[some (.ptr u), s1, some (crv F2 A2 r2), some (.ptr c), some (.ptr d), s5, some (.lst (T0.map .int)), z7, z8, s9, s10, s11, s12, s13], x⟩ m') :
    r_law_filled_l1 c_Meter c_NoStream c_Run c_TooLittle c_TooLong c_TooMuch Q ⟨[some (.ptr u), s1, some (crv F2 A2 r2), some (.ptr c), some (.ptr d), s5, some (.lst (T0.map .int)), s7, s8, s9, s10, s11, s12, s13], x⟩ m := by
  have hT1 := M.kp.len
  have hG1 := M.hG
  have lG := M.lg
  have b12 : A2.length < 2 ^ 60 := by have := M.rs.al; omega
  have tl : (T.map D.int).length = T.length := List.length_map ..
  have tl0 : (T0.map D.int).length = T0.length := List.length_map ..
  refine ⟨_, _, M.ct, rfl, ?_, ?_, lc_pure false (((List.range T0.length).map fun s => T0.getD s 0 + val F2 A2 r2 ((T.length : Int) - (s : Nat))).map D.int) (fun _ _ => trivial) ?_ ?_ (fun k x y m3 hx hy le => ?_) ⟨_, rfl, ?_, ?_⟩⟩
  · rw [tl0]
    omega
  · rw [tl0]
    omega
  · rw [rgL_len, tl0, List.length_map, List.length_map, List.length_range]
    omega
  · rw [rgL_len]
    exact Nat.le_of_lt (big1000 (by omega))
  · obtain ⟨hk, rfl⟩ := rgL_inv hx
    have hk' : k < T0.length := by omega
    rw [List.getElem?_map, List.getElem?_map, List.getElem?_range hk'] at hy
    cases hy
    refine ⟨_, rfl, fun R hR => ⟨_, _, rfl, atI_int (by omega) (by omega), F2, A2, r2, rfl, M.rs.a0, b12, ?_, ?_, ?_⟩⟩
    · rw [tl]
      omega
    · rw [tl]
      omega
    · have e2 : ((0 : Int) + (k : Nat)).toNat = k := by omega
      rw [tl, e2, show (T.length : Int) - (0 + (k : Nat)) = (T.length : Int) - (k : Nat) by omega]
      exact hR
  · rw [List.length_map, List.length_range]
    exact h0
  · have hmu : served F2 A2 r2 T 0 ≤ lmin ((List.range T0.length).map fun s => T0.getD s 0 + val F2 A2 r2 ((T.length : Int) - (s : Nat))) := by
      obtain ⟨s, hs, e⟩ := List.mem_map.mp (lmin_mem (l := (List.range T0.length).map fun s => T0.getD s 0 + val F2 A2 r2 ((T.length : Int) - (s : Nat))) (by rw [List.length_map, List.length_range]; exact h0))
      have hs' := List.mem_range.mp hs
      rw [← e, ← h2 s hs', show (T.length : Int) - (s : Nat) = ((T.length - s : Nat) : Int) by omega]
      exact served_le (by omega)
    have hfu := served_full (T := T) (x := 0) M.rs
    have gl := M.gl
    obtain ⟨mu, hmu'⟩ : ∃ mu, lmin ((List.range T0.length).map fun s => T0.getD s 0 + val F2 A2 r2 ((T.length : Int) - (s : Nat))) = mu := ⟨_, rfl⟩
    rw [hmu'] at hmu
    refine ⟨⟨_, _, M.dt, rfl⟩, _, _, ⟨_, M.dt, rfl⟩, atI_last hG1, _, _, ⟨_, M.ct, rfl⟩, atI_last hT1, _, M.dt, ?_, ?_⟩
    · rw [List.length_map]
      exact big1000 (by omega)
    rw [hmu']
    obtain ⟨y, hy⟩ : ∃ y, max (G.getD (G.length - 1) 0) (min mu (T.getD (T.length - 1) 0)) = y := ⟨_, rfl⟩
    have hy0 : lst0 G ≤ y ∧ y ≤ lst0 T ∧ served F2 A2 r2 T 0 ≤ y := by
      have e1 : G.getD (G.length - 1) 0 = lst0 G := rfl
      have e2 : T.getD (T.length - 1) 0 = lst0 T := rfl
      rw [e1, e2] at hy
      omega
    have eG : G.map D.int ++ [D.int (max (G.getD (G.length - 1) 0) (min mu (T.getD (T.length - 1) 0)))] = (G ++ [y]).map D.int := by rw [hy, List.map_append]; rfl
    have eT : T.map D.int ++ [D.int (T.getD (T.length - 1) 0)] = (T ++ [lst0 T]).map D.int := by rw [List.map_append]; rfl
    rw [eG]
    have hc1 : ∀ o, up m d o c = some (.lst (T.map .int)) := fun o => (up_ne M.cd).trans M.ct
    refine ⟨⟨_, _, hc1 _, rfl⟩, _, _, ⟨_, hc1 _, rfl⟩, atI_last hT1, _, hc1 _, ?_, ?_⟩
    · rw [List.length_map]
      exact big1000 (by omega)
    rw [eT]
    have k1 : Kp [c, d] m (up (up m d (.lst ((G ++ [y]).map .int))) c (.lst ((T ++ [lst0 T]).map .int))) := (Kp.refl.up (by simp)).up (by simp)
    have rn1 : RunAt c_Meter c_Run (up (up m d (.lst ((G ++ [y]).map .int))) c (.lst ((T ++ [lst0 T]).map .int))) u a p q g F A r F2 A2 r2 T G n :=
      ⟨k1 _ _ (by simp [M.uc, M.ud]) M.rn.ob, ⟨k1 _ _ (by simp [M.ac, M.ad]) M.rn.mt.ob, k1 _ _ (by simp [M.pc, M.pd]) M.rn.mt.tl, k1 _ _ (by simp [M.qc, M.qd]) M.rn.mt.ms, M.rn.mt.pq, M.rn.mt.n1, M.rn.mt.t1⟩, k1 _ _ (by simp [M.gc, M.gd]) M.rn.gn, M.rn.pg, M.rn.qg, M.rn.g1⟩
    have hd1 : up (up m d (.lst ((G ++ [y]).map .int))) c (.lst ((T ++ [lst0 T]).map .int)) d = some (.lst ((G ++ [y]).map .int)) := (up_ne M.cd.symm).trans up_same
    have hc2 : up (up m d (.lst ((G ++ [y]).map .int))) c (.lst ((T ++ [lst0 T]).map .int)) c = some (.lst ((T ++ [lst0 T]).map .int)) := up_same
    generalize up (up m d (.lst ((G ++ [y]).map .int))) c (.lst ((T ++ [lst0 T]).map .int)) = m1 at *
    have L0 := M.kp.leave_nn M.dr
    have hmust : must F2 A2 r2 T G 0 ≤ y - lst0 G := by unfold must; omega
    refine ⟨_, rn1.ob, rfl, _, _, ⟨_, hd1, rfl⟩, atI_1, _, _, ⟨_, hd1, rfl⟩, atI_2 hG1 rfl, a, p, q, g, F, A, r, F2, A2, r2, T, G, n, true, true, rn1, M.rs, M.dr.a0, a60 M.dr, by omega, by omega, by omega, rfl, (decide_eq_true (by omega)).symm, (fun z => nomatch z), fun _ _ => ⟨0, _, rfl, rfl, fun z => by omega, fun _ => ⟨fun z => by omega, fun _ => ⟨fun z => by omega, fun _ => ⟨fun z => by omega, fun _ => ?_⟩⟩⟩⟩⟩
    have eT2 : T ++ [lst0 T + 0] = T ++ [lst0 T] := by rw [Int.add_zero]
    have eG2 : G ++ [lst0 G + (y - lst0 G)] = G ++ [y] := by rw [show lst0 G + (y - lst0 G) = y by omega]
    rw [eT2, eG2]
    have k2 : Kp [p, q, g] m1 (up (up (up m1 q (.lst ((vals F A r (max n (T.length + 1))).map .int))) p (.lst ((T ++ [lst0 T]).map .int))) g (.lst ((G ++ [y]).map .int))) := ((Kp.refl.up (by simp)).up (by simp)).up (by simp)
    have hq2 : up (up (up m1 q (.lst ((vals F A r (max n (T.length + 1))).map .int))) p (.lst ((T ++ [lst0 T]).map .int))) g (.lst ((G ++ [y]).map .int)) q = some (.lst ((vals F A r (max n (T.length + 1))).map .int)) := by rw [up_ne M.rn.qg, up_ne M.rn.mt.pq.symm, up_same]
    have hp2 : up (up (up m1 q (.lst ((vals F A r (max n (T.length + 1))).map .int))) p (.lst ((T ++ [lst0 T]).map .int))) g (.lst ((G ++ [y]).map .int)) p = some (.lst ((T ++ [lst0 T]).map .int)) := by rw [up_ne M.rn.pg, up_same]
    have hg2 : up (up (up m1 q (.lst ((vals F A r (max n (T.length + 1))).map .int))) p (.lst ((T ++ [lst0 T]).map .int))) g (.lst ((G ++ [y]).map .int)) g = some (.lst ((G ++ [y]).map .int)) := up_same
    generalize up (up (up m1 q (.lst ((vals F A r (max n (T.length + 1))).map .int))) p (.lst ((T ++ [lst0 T]).map .int))) g (.lst ((G ++ [y]).map .int)) = m2 at *
    have hc3 := k2 _ _ (by simp [M.pc.symm, M.qc.symm, M.gc.symm]) hc2
    have hd3 := k2 _ _ (by simp [M.pd.symm, M.qd.symm, M.gd.symm]) hd1
    have kk := (k1.mono (vs := [p, q, g, c, d]) (fun x hx => by simp at hx; rcases hx with e | e <;> simp [e])).trans (k2.mono (fun x hx => by simp at hx; rcases hx with e | e | e <;> simp [e]))
    refine ⟨_, _, ⟨_, hc3, rfl⟩, atI_1, _, _, ⟨_, hd3, rfl⟩, atI_1, (fun z => ?_), fun _ => ?_⟩
    · have e : lst0 T + 0 - (lst0 G + (y - lst0 G)) = lst0 T - y := by omega
      rw [e, decide_eq_true rfl] at z
      cases z
    · have kp := M.kp.app M.dr (x := 0) (Int.le_refl _) L0
      rw [Int.add_zero] at kp
      have gb := M.gbs (x := 0) (y := y - lst0 G) (Int.le_refl _) (by omega) (by show _ ≤ lst0 T - lst0 G + 0; omega)
      have tb := M.tbs (x := 0) L0
      rw [Int.add_zero, show lst0 G + (y - lst0 G) = y by omega] at gb
      rw [Int.add_zero] at tb
      exact hR _ _ _ _ (M.to ((k2 _ _ (by simp [M.rn.uq, M.rn.up_, M.rn.ug]) rn1.ob).trans M.rn.ob.symm) ((k2 _ _ (by simp [M.rn.mt.aq, M.rn.mt.ap, M.rn.ag]) rn1.mt.ob).trans M.rn.mt.ob.symm) hp2 hq2 hg2 hc3 hd3 (by omega) kp (by rw [List.length_append, List.length_append, lG]; rfl) gb tb) kk
end
end K56

namespace K56
open PySem PySem.Spec PyProof.Rows L2 Dl Pg Pn Mt
theorem pv_strs {m : Sto} : ∀ bs : List Str, PvL m (bs.map D.str) (bs.map PyData.str)
  | [] => .nil
  | b :: r => .cons (.str b) (pv_strs r)
theorem shaped_strs (ns : List Str) (h : ns.all PyData.strOk = true) : SeqAt.shaped (.list (ns.map .str)) = true := by
  have h1 : ∀ ns : List Str, ns.all PyData.strOk = true → PyData.canLayAll0 (ns.map PyData.str) = true := fun ns => by
    induction ns with
    | nil => intro _; rw [List.map_nil, PyData.canLayAll0]
    | cons n r ih =>
      intro h
      rw [List.all_cons, Bool.and_eq_true] at h
      rw [List.map_cons, PyData.canLayAll0, ih h.2, PyData.canLay0, h.1]
      rfl
  have h2 : ∀ ns : List Str, PyData.depthAll (ns.map PyData.str) = 0 := fun ns => by
    induction ns with
    | nil => rw [List.map_nil, PyData.depthAll]
    | cons n r ih => rw [List.map_cons, PyData.depthAll, ih, PyData.depth]; rfl
  unfold SeqAt.shaped
  rw [PyData.canLay0, h1 _ h, PyData.depth, h2]
  rfl
theorem eqv_strs (ns : List Str) : PyData.eqv (.list (ns.map .str)) (.list (ns.map .str)) = true := by
  rw [PyData.eqv]
  induction ns with
  | nil => rw [List.map_nil, PyData.eqvAll]
  | cons n r ih => rw [List.map_cons, PyData.eqvAll, ih, PyData.eqv]; simp
variable {c_Meter c_Run c_Endless c_NoBack c_NoCurve c_NoName c_NoNet c_NoRow c_NoStream c_NoText c_Ring c_TooLittle c_TooLong c_TooMuch : Addr}
section
variable {m : Sto} {u a p q g c d P P2 : Addr} {F A : List Int} {r : Int} {F2 A2 : List Int} {r2 : Int} {T G : List Int} {n : Nat}
theorem filled_7 {Q : DEnds} {x : List (Option D) → DX} {s6 s7 s8 s9 s11 s12 s13 : Option D} {odd : D} (M : RP c_Meter c_Run m u a p q g c d F A r F2 A2 r2 T G n) (hP : m P = some (.tab (lamQ "_law_owes"))) (hT : T.length = 401) (hn : n ≤ 600) (ho : OddOk m odd)
    (hR : ∀ m' n', RP c_Meter c_Run m' u a p q g c d F A r F2 A2 r2 T G n' → n' ≤ max n 402 → Kp [q, P] m m' → Q.rt (.bl true) m') :
    r_law_filled_7 c_Meter c_Run P Q ⟨[some (.ptr u), some (crv F A r), some (crv F2 A2 r2), some (.ptr c), some (.ptr d), some odd, s6, s7, s8, s9, some (.int (leaveI F A r T)), s11, s12, s13], x⟩ m := by
  have off := M.off hP
  have L0 := M.kp.leave_nn M.dr
  refine ⟨(by show 4 ≤ sizeLine; decide), fun i δ m' => ∃ t n', δ = ⟨[some (.ptr u), some (crv F A r), some (crv F2 A2 r2), some (.ptr c), some (.ptr d), some odd, s6, s7, s8, s9, some (.int (leaveI F A r T)), s11, t, s13], x⟩ ∧ RP c_Meter c_Run m' u a p q g c d F A r F2 A2 r2 T G n' ∧ n' ≤ max n 402 ∧ Kp [q, P] m m' ∧ m' P = some (.tab (lamQ "_law_owes")),
    ⟨s12, n, rfl, M, by omega, Kp.refl, hP⟩, fun _ _ _ _ => trivial, ?_, ?_⟩
  · rintro i y δ m1 hx ⟨t, n1, rfl, M1, n1b, k1, t1⟩
    have ho1 : OddOk m1 odd := ho.keep k1 fun x hx => by
      simp only [List.mem_cons, List.not_mem_nil, or_false] at hx
      rcases hx with e | e <;> subst e
      · exact M.nodct _ (by simp)
      · rw [hP]
        exact fun z => nomatch z
    have hy : (∃ x, y = .int x ∧ 0 ≤ x) ∨ OddOk m1 y := by
      have hm := List.mem_of_getElem? hx
      simp only [List.mem_cons, List.not_mem_nil, or_false] at hm
      rcases hm with e | e | e | e <;> subst e
      · exact .inl ⟨_, rfl, by omega⟩
      · exact .inl ⟨_, rfl, L0⟩
      · exact .inl ⟨_, rfl, by omega⟩
      · exact .inr ho1
    exact ⟨a, p, q, g, F, A, r, F2, A2, r2, T, G, n1, M1, rfl, rfl, by omega, by omega, t1, hy, fun m2 n2 M2 n2b k2 t2 => ⟨(fun z => nomatch z), fun _ => ⟨_, n2, rfl, M2, by omega, k1.trans k2, t2⟩⟩⟩
  · rintro δ m1 ⟨t, n1, rfl, M1, n1b, k1, t1⟩
    exact hR m1 n1 M1 n1b k1
theorem filled_6 {Q : DEnds} {x : List (Option D) → DX} {s6 s7 s8 s9 s12 s13 : Option D} {odd : D} {w : Addr} (M : RP c_Meter c_Run m u a p q g c d F A r F2 A2 r2 T G n) (hP : m P = some (.tab (lamQ "_law_owes"))) (hT : T.length = 401) (hn : n ≤ 600) (ho : OddOk m odd) (hw : m w = some (.lst ([("long" : Str), "long", "stream", "stream", "long"].map .str)))
    (hR : ∀ m' n', RP c_Meter c_Run m' u a p q g c d F A r F2 A2 r2 T G n' → n' ≤ max n 402 → Kp [q, P] m m' → Q.rt (.bl true) m') :
    r_law_filled_6 c_Meter c_Run P Q ⟨[some (.ptr u), some (crv F A r), some (crv F2 A2 r2), some (.ptr c), some (.ptr d), some odd, s6, s7, s8, s9, some (.int (leaveI F A r T)), some (.ptr w), s12, s13], x⟩ m := by
  have off := M.off hP
  refine ⟨(by show 5 ≤ sizeLine; decide), _, _, .ptr hw rfl (pv_strs [("long" : Str), "long", "stream", "stream", "long"]), .lst (pv_strs [("long" : Str), "long", "stream", "stream", "long"]), shaped_strs _ (by decide +kernel), shaped_strs _ (by decide +kernel), ?_⟩
  rw [eqv_strs]
  refine ⟨(fun z => nomatch z), fun _ => ⟨a, p, q, g, F, A, r, F2, A2, r2, T, G, n, M, rfl, rfl, by omega, by omega, fun m1 M1 k1 => ⟨(fun z => nomatch z), fun _ => ?_⟩⟩⟩
  refine filled_7 M1 (k1 _ _ (by simpa using (off q (by simp)).symm) hP) hT (by omega) (ho.keep k1 fun x hx => ?_) fun m2 n2 M2 n2b k2 => hR m2 n2 M2 (by omega) ((k1.mono fun x hx => by simp at hx; simp [hx]).trans k2)
  rw [List.mem_singleton.mp hx]
  exact M.nodct _ (by simp)
theorem filled_5 {Q : DEnds} {x : List (Option D) → DX} {s6 s8 s9 s12 s13 : Option D} {odd : D} {w : Addr} (M : RP c_Meter c_Run m u a p q g c d F A r F2 A2 r2 T G n) (hP : m P = some (.tab (lamQ "_law_owes"))) (hP2 : m P2 = some (.tab (lamQ "_law_filled"))) (hT : T.length = 401) (hn : n ≤ 600) (ho : OddOk m odd) (hw : m w = none)
    (hR : ∀ m' n', RP c_Meter c_Run m' u a p q g c d F A r F2 A2 r2 T G n' → n' ≤ max n 402 → Kp [q, P, P2] m m' → Q.rt (.bl true) m') :
    r_law_filled_5 c_Endless c_Meter c_NoBack c_NoCurve c_NoName c_NoNet c_NoRow c_NoStream c_NoText c_Ring c_Run c_TooLittle c_TooLong c_TooMuch P2 P Q ⟨[some (.ptr u), some (crv F A r), some (crv F2 A2 r2), some (.ptr c), some (.ptr d), some odd, s6, some (.int (lst0 T - lst0 G)), s8, s9, some (.int (leaveI F A r T)), some (.ptr w), s12, s13], x⟩ (up m w (.lst [])) := by
  have off := M.off hP
  have off2 := M.off hP2
  have offw := M.offN hw
  have gl := M.gl
  have PP : P ≠ P2 := ne_some hP hP2 (fun z => lq2 (by injection z))
  have wP : w ≠ P := (ne_free hP hw).symm
  have wP2 : w ≠ P2 := (ne_free hP2 hw).symm
  have L0 := M.kp.leave_nn M.dr
  have k0 : ∀ {m1 : Sto} {o : MO}, Kp [q, P2] m m1 → Kp [q, P2] m (up m1 w o) := fun k => Kp.fresh k hw
  refine ⟨(by show 2 ≤ sizeLine; decide), (by show 2 ≤ sizeLine; decide), (by show 2 ≤ sizeLine; decide), (by show 2 ≤ sizeLine; decide), (by show 2 ≤ sizeLine; decide), (by show 5 ≤ sizeLine; decide), fun i δ m' => ∃ t t' n', δ = ⟨[some (.ptr u), some (crv F A r), some (crv F2 A2 r2), some (.ptr c), some (.ptr d), some odd, s6, some (.int (lst0 T - lst0 G)), s8, s9, some (.int (leaveI F A r T)), some (.ptr w), t, t'], x⟩ ∧
    RP c_Meter c_Run m' u a p q g c d F A r F2 A2 r2 T G n' ∧ n' ≤ max n 402 ∧ Kp [q, P2] m m' ∧ m' P2 = some (.tab (lamQ "_law_filled")) ∧ m' w = some (.lst ((([("long" : Str), "long", "stream", "stream", "long"]).take i).map .str)), ⟨s12, s13, n, rfl, ?_, by omega, k0 Kp.refl, ?_, up_same⟩, fun _ _ _ _ => trivial, ?_, ?_⟩
  · exact M.keep (ws := []) (Kp.refl.new hw) (fun _ _ => by simp)
  · rw [up_ne wP2.symm]
    exact hP2
  · rintro i y δ m1 hx ⟨t, t', n1, rfl, M1, n1b, k1, t1, w1⟩
    have ho1 : OddOk m1 odd := ho.keep k1 fun x hx => by
      simp only [List.mem_cons, List.not_mem_nil, or_false] at hx
      rcases hx with e | e <;> subst e
      · exact M.nodct _ (by simp)
      · rw [hP2]
        exact fun z => nomatch z
    have grow : ∀ (wd : Str) (ws : List Str), m1 w = some (.lst (ws.map .str)) → ∀ m2 n2, RP c_Meter c_Run m2 u a p q g c d F A r F2 A2 r2 T G n2 → n2 ≤ max n1 (T.length + 1) → Kp [P2, q] m1 m2 → m2 P2 = some (.tab (lamQ "_law_filled")) →
        m2 w = some (.lst (ws.map .str)) ∧ RP c_Meter c_Run (up m2 w (.lst (ws.map .str ++ [.str wd]))) u a p q g c d F A r F2 A2 r2 T G n2 ∧ n2 ≤ max n 402 ∧ Kp [q, P2] m (up m2 w (.lst (ws.map .str ++ [.str wd]))) ∧ up m2 w (.lst (ws.map .str ++ [.str wd])) P2 = some (.tab (lamQ "_law_filled")) := fun wd ws h0 m2 n2 h1 h2 h3 h4 =>
      ⟨h3 _ _ (by simp [wP2, (offw q (by simp)).symm]) h0, h1.keep (ws := [w]) (Kp.refl.up (by simp)) (mem1 offw), by omega, k0 (k1.trans (h3.mono fun x hx => by simp at hx; rcases hx with e | e <;> simp [e])), (up_ne wP2.symm).trans h4⟩
    rcases i with _ | _ | _ | _ | _ | i
    · cases hx
      refine ⟨rfl, ⟨_, _, w1, rfl⟩, ask_turn M1 t1 (fun _ _ _ h => h) (e := .int 0) (e2 := .int (lst0 T - lst0 G)) (fun _ _ _ h => h) (by omega) (by omega) (.inr ⟨_, _, rfl, rfl, by omega, by omega, .inl ⟨hT, rfl⟩⟩) fun m2 n2 h1 h2 h3 h4 => ?_⟩
      obtain ⟨g1, g2, g3, g4, g5⟩ := grow "long" [] w1 m2 n2 h1 h2 h3 h4
      exact ⟨_, _, rfl, rfl, _, g1, (by show 0 < sizeLine; decide), _, _, n2, rfl, g2, g3, g4, g5, up_same⟩
    · cases hx
      refine ⟨rfl, ⟨_, _, w1, rfl⟩, ask_turn M1 t1 (fun _ _ _ h => h) (e := .int (leaveI F A r T + 1)) (e2 := .int 0) (fun _ _ _ h => h) (by omega) (by omega) (.inr ⟨_, _, rfl, rfl, by omega, by omega, .inl ⟨hT, rfl⟩⟩) fun m2 n2 h1 h2 h3 h4 => ?_⟩
      obtain ⟨g1, g2, g3, g4, g5⟩ := grow "long" ["long"] w1 m2 n2 h1 h2 h3 h4
      exact ⟨_, _, rfl, rfl, _, g1, (by show 1 < sizeLine; decide), _, _, n2, rfl, g2, g3, g4, g5, up_same⟩
    · cases hx
      refine ⟨rfl, ⟨_, _, w1, rfl⟩, ask_turn M1 t1 (fun _ _ _ h => h) (e := odd) (e2 := .int 0) (fun _ _ _ h => h) (by omega) (by omega) (.inl ⟨.inl ⟨ho1, .inl ⟨0, rfl, by omega⟩⟩, rfl⟩) fun m2 n2 h1 h2 h3 h4 => ?_⟩
      obtain ⟨g1, g2, g3, g4, g5⟩ := grow "stream" ["long", "long"] w1 m2 n2 h1 h2 h3 h4
      exact ⟨_, _, rfl, rfl, _, g1, (by show 2 < sizeLine; decide), _, _, n2, rfl, g2, g3, g4, g5, up_same⟩
    · cases hx
      refine ⟨rfl, ⟨_, _, w1, rfl⟩, ask_turn M1 t1 (fun _ _ _ h => h) (e := .int 0) (e2 := odd) (fun _ _ _ h => h) (by omega) (by omega) (.inl ⟨.inr ⟨ho1, 0, rfl, by omega⟩, rfl⟩) fun m2 n2 h1 h2 h3 h4 => ?_⟩
      obtain ⟨g1, g2, g3, g4, g5⟩ := grow "stream" ["long", "long", "stream"] w1 m2 n2 h1 h2 h3 h4
      exact ⟨_, _, rfl, rfl, _, g1, (by show 3 < sizeLine; decide), _, _, n2, rfl, g2, g3, g4, g5, up_same⟩
    · cases hx
      refine ⟨rfl, ⟨_, _, w1, rfl⟩, ask_turn M1 t1 (fun _ _ _ h => h) (e := .int 0) (e2 := .int (lst0 T - lst0 G + 1)) (fun _ _ _ h => h) (by omega) (by omega) (.inr ⟨_, _, rfl, rfl, by omega, by omega, .inl ⟨hT, rfl⟩⟩) fun m2 n2 h1 h2 h3 h4 => ?_⟩
      obtain ⟨g1, g2, g3, g4, g5⟩ := grow "long" ["long", "long", "stream", "stream"] w1 m2 n2 h1 h2 h3 h4
      exact ⟨_, _, rfl, rfl, _, g1, (by show 4 < sizeLine; decide), _, _, n2, rfl, g2, g3, g4, g5, up_same⟩
    · cases hx
  · rintro δ m1 ⟨t, t', n1, rfl, M1, n1b, k1, t1, w1⟩
    have ho1 : OddOk m1 odd := ho.keep k1 fun x hx => by
      simp only [List.mem_cons, List.not_mem_nil, or_false] at hx
      rcases hx with e | e <;> subst e
      · exact M.nodct _ (by simp)
      · rw [hP2]
        exact fun z => nomatch z
    exact filled_6 M1 (k1 _ _ (by simp [PP, (off q (by simp)).symm]) hP) hT (by omega) ho1 w1 fun m2 n2 M2 n2b k2 => hR m2 n2 M2 (by omega) ((k1.mono fun x hx => by simp at hx; rcases hx with e | e <;> simp [e]).trans (k2.mono fun x hx => by simp at hx; rcases hx with e | e <;> simp [e]))
end
end K56

namespace K56
open PySem PySem.Spec PyProof.Rows L2 Dl Pg Pn Mt
variable {c_Meter c_Run c_Endless c_NoBack c_NoCurve c_NoName c_NoNet c_NoRow c_NoStream c_NoText c_Ring c_TooLittle c_TooLong c_TooMuch : Addr}
section
variable {m : Sto} {u a p q g c d P P2 : Addr} {F A : List Int} {r : Int} {F2 A2 : List Int} {r2 : Int} {T G : List Int} {n : Nat}
theorem filled_2 {Q : DEnds} {x : List (Option D) → DX} {s6 s7 s8 s9 s10 s11 s12 s13 : Option D} {odd : D} (M : RP c_Meter c_Run m u a p q g c d F A r F2 A2 r2 T G n) (hP : m P = some (.tab (lamQ "_law_owes"))) (hP2 : m P2 = some (.tab (lamQ "_law_filled"))) (hT : T.length = 401) (hn : n ≤ 600) (ho : OddOk m odd)
    (hR : ∀ m' n', RP c_Meter c_Run m' u a p q g c d F A r F2 A2 r2 T G n' → n' ≤ max n 402 → Kp [q, P, P2] m m' → Q.rt (.bl true) m') :
    r_law_filled_2 c_Endless c_Meter c_NoBack c_NoCurve c_NoName c_NoNet c_NoRow c_NoStream c_NoText c_Ring c_Run c_TooLittle c_TooLong c_TooMuch P2 P Q ⟨[some (.ptr u), some (crv F A r), some (crv F2 A2 r2), some (.ptr c), some (.ptr d), some odd, s6, s7, s8, s9, s10, s11, s12, s13], x⟩ m := by
  have hT1 := M.kp.len
  refine ⟨_, _, ⟨_, M.ct, rfl⟩, atI_last hT1, _, _, ⟨_, M.dt, rfl⟩, atI_last M.hG, F, A, r, T, rfl, M.ct, M.dr.a0, a60 M.dr, hT1, by omega, Nat.zero_le _, fun w hw => ?_⟩
  exact filled_5 M hP hP2 hT hn ho hw hR
theorem filled_1 {Q : DEnds} {x : List (Option D) → DX} {s7 s8 s9 s10 s11 s12 s13 : Option D} {odd : D} (M : RP c_Meter c_Run m u a p q g c d F A r F2 A2 r2 T G n) (hP : m P = some (.tab (lamQ "_law_owes"))) (hP2 : m P2 = some (.tab (lamQ "_law_filled"))) (hT : T.length ≤ 401) (hn : n ≤ 500) (ho : OddOk m odd)
    (hR : ∀ m' T' G' n', RP c_Meter c_Run m' u a p q g c d F A r F2 A2 r2 T' G' n' → T'.length = 401 → n' ≤ 600 → Kp [p, q, g, c, d, P, P2] m m' → Q.rt (.bl true) m') :
    r_law_filled_1 c_Endless c_Meter c_NoBack c_NoCurve c_NoName c_NoNet c_NoRow c_NoStream c_NoText c_Ring c_Run c_TooLittle c_TooLong c_TooMuch P2 P Q ⟨[some (.ptr u), some (crv F A r), some (crv F2 A2 r2), some (.ptr c), some (.ptr d), some odd, some (.lst (T.map .int)), s7, s8, s9, s10, s11, s12, s13], x⟩ m := by
  have hT1 := M.kp.len
  have off := M.off hP
  have off2 := M.off hP2
  refine ⟨fun k δ m' => ∃ z7 z8 T' G' n', k = 401 - T'.length ∧ T'.length ≤ 401 ∧ δ = ⟨[some (.ptr u), some (crv F A r), some (crv F2 A2 r2), some (.ptr c), some (.ptr d), some odd, some (.lst (T.map .int)), z7, z8, s9, s10, s11, s12, s13], x⟩ ∧ RP c_Meter c_Run m' u a p q g c d F A r F2 A2 r2 T' G' n' ∧ n' ≤ max n 402 ∧
    T.length ≤ T'.length ∧ (∀ s, s < T.length → T'.getD s 0 = T.getD s 0) ∧ Kp [p, q, g, c, d] m m', ⟨_, s7, s8, T, G, n, rfl, hT, rfl, M, by omega, Nat.le_refl _, fun _ _ => rfl, Kp.refl⟩, ?_⟩
  rintro k δ m1 ⟨z7, z8, T1, G1, n1, rfl, l1, rfl, M1, n1b, l2, h2, k1⟩
  refine ⟨_, _, M1.ct, rfl, fun z => ?_, fun z => ?_⟩
  · have z' := of_decide_eq_true z
    rw [List.length_map] at z'
    have lt : T1.length < 401 := by omega
    refine filled_l1 M1 lt (by omega) hT1 l2 h2 fun z7' z8' m2 y M2 k2 => ⟨401 - (T1.length + 1), by omega, z7', z8', _, _, _, ?_, ?_, rfl, M2, by omega, ?_, fun s hs => ?_, k1.trans k2⟩
    · rw [List.length_append]
      rfl
    · rw [List.length_append]
      show T1.length + 1 ≤ 401
      omega
    · rw [List.length_append]
      omega
    · rw [getD_app1 (by omega)]
      exact h2 s hs
  · have z' := of_decide_eq_false z
    rw [List.length_map] at z'
    have ho1 : OddOk m1 odd := ho.keep k1 M.nodct
    have memP : ∀ {P : Addr}, (∀ x ∈ [u, a, p, q, g, c, d], x ≠ P) → P ∉ [p, q, g, c, d] := fun off z => by
      simp only [List.mem_cons, List.not_mem_nil, or_false] at z
      rcases z with e | e | e | e | e
      · exact off p (by simp) e.symm
      · exact off q (by simp) e.symm
      · exact off g (by simp) e.symm
      · exact off c (by simp) e.symm
      · exact off d (by simp) e.symm
    exact filled_2 M1 (k1 _ _ (memP off) hP) (k1 _ _ (memP off2) hP2) (by omega) (by omega) ho1 fun m2 n2 M2 n2b k2 => hR m2 T1 G1 n2 M2 (by omega) (by omega) ((k1.mono fun x hx => by simp at hx; rcases hx with e | e | e | e | e <;> simp [e]).trans (k2.mono fun x hx => by simp at hx; rcases hx with e | e | e <;> simp [e]))
theorem v_law_filled {p_law_filled p_law_owes : Addr} {ds : List D} {R : D → Sto → Prop} {RX : DX} (h : sp_law_filled c_Meter c_Run p_law_owes p_law_filled ds m R RX) :
    r_law_filled c_Endless c_Meter c_NoBack c_NoCurve c_NoName c_NoNet c_NoRow c_NoStream c_NoText c_Ring c_Run c_TooLittle c_TooLong c_TooMuch p_law_filled p_law_owes { nx := fun _ m' => R .non m', rt := R } ⟨ds.map some ++ List.replicate (14 - ds.length) none, fun _ => RX⟩ m := by
  unfold sp_law_filled at h
  split at h
  · rename_i u f gg c d odd
    obtain ⟨a, p, q, g, F, A, r, F2, A2, r2, T, G, n, M, rfl, rfl, hT, hn, ho, hP, hP2, hR⟩ := h
    exact ⟨_, ⟨_, M.ct, rfl⟩, filled_1 M hP hP2 (by omega) hn ho hR⟩
  · exact h.elim
end
theorem RunAt.keep {C E : Addr} {m m' : Sto} {u a p q g : Addr} {F A : List Int} {r : Int} {F2 A2 : List Int} {r2 : Int} {T G : List Int} {n : Nat} (M : RunAt C E m u a p q g F A r F2 A2 r2 T G n) {ws : List Addr} (k : Kp ws m m') (h : ∀ x ∈ [u, a, p, q, g], x ∉ ws) : RunAt C E m' u a p q g F A r F2 A2 r2 T G n :=
  ⟨k _ _ (h _ (by simp)) M.ob, ⟨k _ _ (h _ (by simp)) M.mt.ob, k _ _ (h _ (by simp)) M.mt.tl, k _ _ (h _ (by simp)) M.mt.ms, M.mt.pq, M.mt.n1, M.mt.t1⟩, k _ _ (h _ (by simp)) M.gn, M.pg, M.qg, M.g1⟩
theorem RunAt.offN {C E : Addr} {m : Sto} {u a p q g : Addr} {F A : List Int} {r : Int} {F2 A2 : List Int} {r2 : Int} {T G : List Int} {n : Nat} (M : RunAt C E m u a p q g F A r F2 A2 r2 T G n) {P : Addr} (hP : m P = none) : ∀ x ∈ [u, a, p, q, g], x ≠ P := by
  intro x hx z
  subst z
  simp only [List.mem_cons, List.not_mem_nil, or_false] at hx
  rcases hx with e | e | e | e | e <;> subst e
  · exact nomatch M.ob.symm.trans hP
  · exact nomatch M.mt.ob.symm.trans hP
  · exact nomatch M.mt.tl.symm.trans hP
  · exact nomatch M.mt.ms.symm.trans hP
  · exact nomatch M.gn.symm.trans hP
theorem RunAt.offT {C E : Addr} {m : Sto} {u a p q g : Addr} {F A : List Int} {r : Int} {F2 A2 : List Int} {r2 : Int} {T G : List Int} {n : Nat} (M : RunAt C E m u a p q g F A r F2 A2 r2 T G n) {P : Addr} {qn : Str} (hP : m P = some (.tab qn)) : ∀ x ∈ [u, a, p, q, g], x ≠ P := by
  intro x hx z
  subst z
  simp only [List.mem_cons, List.not_mem_nil, or_false] at hx
  rcases hx with e | e | e | e | e <;> subst e
  · exact nomatch M.ob.symm.trans hP
  · exact nomatch M.mt.ob.symm.trans hP
  · exact nomatch M.mt.tl.symm.trans hP
  · exact nomatch M.mt.ms.symm.trans hP
  · exact nomatch M.gn.symm.trans hP
/-- a run that was told nothing, and two lists of nought -/
theorem RunAt.rp {C E : Addr} {m : Sto} {u a p q g c d : Addr} {F A : List Int} {r : Int} {F2 A2 : List Int} {r2 : Int} (M : RunAt C E m u a p q g F A r F2 A2 r2 [0] [0] 1) (hc : m c = none) (hd : m d = none) (cd : c ≠ d) (dr : Drawn F A r) (rs : Rise F2 A2 r2) : RP C E (up (up m c (.lst [.int 0])) d (.lst [.int 0])) u a p q g c d F A r F2 A2 r2 [0] [0] 1 := by
  have oc := M.offN hc
  have od := M.offN hd
  have k : Kp [] m (up (up m c (.lst [.int 0])) d (.lst [.int 0])) := Kp.fresh (Kp.fresh Kp.refl hc) hd
  refine ⟨M.keep k (fun _ _ => by simp), by rw [up_ne cd, up_same]; rfl, up_same, oc p (by simp), oc q (by simp), oc g (by simp), od p (by simp), od q (by simp), od g (by simp), cd, keeps_zero dr, dr, rs, rfl, fun x hx => ?_, by decide⟩
  rw [List.mem_singleton.mp hx]
  decide
/-- the law's store -/
structure Lw (C E : Addr) (m : Sto) (pen u a p q g c d u2 a2 p2 q2 g2 P1 P2 P3 : Addr) (F A : List Int) (r : Int) (F2 A2 : List Int) (r2 : Int) (T G : List Int) (n : Nat) (b : Int) : Prop where
  pn : ∃ X, m pen = some X ∧ PenOk b X
  rp : RP C E m u a p q g c d F A r F2 A2 r2 T G n
  tw : RunAt C E m u2 a2 p2 q2 g2 F A r F2 A2 r2 [0] [0] 1
  t1 : m P1 = some (.tab (lamQ "_law_owes"))
  t2 : m P2 = some (.tab (lamQ "_law_done"))
  t3 : m P3 = some (.tab (lamQ "_law_filled"))
  dj : ∀ x ∈ [u2, a2, p2, q2, g2], x ∉ [pen, p, q, g, c, d]
  pd : pen ∉ [p, q, g, c, d]
theorem Lw.penT {C E : Addr} {m : Sto} {pen u a p q g c d u2 a2 p2 q2 g2 P1 P2 P3 : Addr} {F A : List Int} {r : Int} {F2 A2 : List Int} {r2 : Int} {T G : List Int} {n : Nat} {b : Int} (S : Lw C E m pen u a p q g c d u2 a2 p2 q2 g2 P1 P2 P3 F A r F2 A2 r2 T G n b) : pen ≠ P1 ∧ pen ≠ P2 ∧ pen ≠ P3 := by
  obtain ⟨Y, hY, _, _, _, e, _⟩ := S.pn
  subst e
  exact ⟨ne_some hY S.t1 (fun z => by cases z), ne_some hY S.t2 (fun z => by cases z), ne_some hY S.t3 (fun z => by cases z)⟩
section
variable {m : Sto} {pen u a p q g c d u2 a2 p2 q2 g2 P1 P2 P3 : Addr} {F A : List Int} {r : Int} {F2 A2 : List Int} {r2 : Int} {T G : List Int} {n : Nat} {b : Int}
theorem law_11 {Q : DEnds} {x : List (Option D) → DX} {s0 s1 s2 s5 s7 s8 s9 : Option D} (M : RunAt c_Meter c_Run m u2 a2 p2 q2 g2 F A r F2 A2 r2 [0] [0] 1) (dr : Drawn F A r) (rs : Rise F2 A2 r2) (hR : ∀ m', Q.rt (.bl true) m') :
    r_law_11 c_Meter c_Run Q ⟨[s0, s1, s2, some (crv F A r), some (crv F2 A2 r2), s5, some (.ptr u2), s7, s8, s9], x⟩ m := by
  refine ⟨(by show 1 ≤ sizeLine; decide), fun c hc => ⟨(by show 1 ≤ sizeLine; decide), fun d hd => ?_⟩⟩
  have cd : c ≠ d := fun z => by rw [← z, up_same] at hd; cases hd
  rw [up_ne cd.symm] at hd
  exact ⟨a2, p2, q2, g2, F, A, r, F2, A2, r2, [0], [0], 1, M.rp hc hd cd dr rs, rfl, rfl, by decide, by decide, fun m' _ _ => hR m'⟩
theorem law_10 {Q : DEnds} {x : List (Option D) → DX} {s0 s9 : Option D} {fill : Bool} (S : Lw c_Meter c_Run m pen u a p q g c d u2 a2 p2 q2 g2 P1 P2 P3 F A r F2 A2 r2 T G n b) (hb : b ≤ 2 ^ 20) (hT : T.length ≤ 300) (hn : n ≤ 500) (hR : ∀ m', Q.rt (.bl true) m') :
    r_law_10 c_Meter c_Run P3 P1 Q ⟨[s0, some (.ptr pen), some (.bl fill), some (crv F A r), some (crv F2 A2 r2), some (.ptr u), some (.ptr u2), some (.ptr c), some (.ptr d), s9], x⟩ m := by
  have tp := S.penT
  obtain ⟨X, hX, hXp⟩ := S.pn
  have dj := S.dj
  have pd := S.pd
  refine ⟨fun _ => ⟨b, X, hX, hXp, by omega, fun odd m1 X1 hX1 hXp1 k1 ho => ?_⟩, fun _ => ⟨(fun z => nomatch z), fun _ => law_11 S.tw S.rp.dr S.rp.rs hR⟩⟩
  have nu : pen ≠ u := by
    intro z
    rw [z, S.rp.rn.ob] at hX
    obtain ⟨_, _, _, e, _⟩ := hXp
    rw [e] at hX
    cases hX
  have na : pen ≠ a := by
    intro z
    rw [z, S.rp.rn.mt.ob] at hX
    obtain ⟨_, _, _, e, _⟩ := hXp
    rw [e] at hX
    cases hX
  have M1 := S.rp.keep k1 fun x hx z => by
    rw [List.mem_singleton.mp z] at hx
    simp only [List.mem_cons, List.not_mem_nil, or_false] at hx pd
    rcases hx with e | e | h
    · exact nu e
    · exact na e
    · exact pd h
  have T1 := S.tw.keep k1 fun x hx z => dj x hx (by rw [List.mem_singleton.mp z]; simp)
  refine ⟨a, p, q, g, F, A, r, F2, A2, r2, T, G, n, M1, rfl, rfl, hT, hn, ho, k1 _ _ (by simpa using tp.1.symm) S.t1, k1 _ _ (by simpa using tp.2.2.symm) S.t3, fun m2 T' G' n2 M2 l2 n2b k2 => ⟨(fun z => nomatch z), fun _ => ?_⟩⟩
  have h1 := S.tw.offT S.t1
  have h3 := S.tw.offT S.t3
  exact law_11 (T1.keep k2 fun x hx z => by
    have hd := dj x hx
    simp only [List.mem_cons, List.not_mem_nil, or_false] at z hd
    rcases z with e | e | e | e | e | e | e
    · exact hd (by simp [e])
    · exact hd (by simp [e])
    · exact hd (by simp [e])
    · exact hd (by simp [e])
    · exact hd (by simp [e])
    · exact h1 x hx e
    · exact h3 x hx e) S.rp.dr S.rp.rs hR
theorem Lw.to {m' : Sto} {T' G' : List Int} {n' : Nat} {b' : Int} (S : Lw c_Meter c_Run m pen u a p q g c d u2 a2 p2 q2 g2 P1 P2 P3 F A r F2 A2 r2 T G n b) (k : Kp [pen, p, q, g, c, d, P1, P2] m m') (M : RP c_Meter c_Run m' u a p q g c d F A r F2 A2 r2 T' G' n') (hp : ∃ X, m' pen = some X ∧ PenOk b' X) (h1 : m' P1 = some (.tab (lamQ "_law_owes"))) (h2 : m' P2 = some (.tab (lamQ "_law_done"))) :
    Lw c_Meter c_Run m' pen u a p q g c d u2 a2 p2 q2 g2 P1 P2 P3 F A r F2 A2 r2 T' G' n' b' := by
  have tp := S.penT
  have o1 := S.tw.offT S.t1
  have o2 := S.tw.offT S.t2
  have o3 := S.rp.off S.t3
  have n13 : P1 ≠ P3 := ne_some S.t1 S.t3 (fun z => lq2 (by injection z))
  have n23 : P2 ≠ P3 := ne_some S.t2 S.t3 (fun z => lq3 (by injection z))
  refine ⟨hp, M, S.tw.keep k fun x hx z => ?_, h1, h2, k _ _ ?_ S.t3, S.dj, S.pd⟩
  · have hd := S.dj x hx
    simp only [List.mem_cons, List.not_mem_nil, or_false] at z hd
    rcases z with e | e | e | e | e | e | e | e
    · exact hd (by simp [e])
    · exact hd (by simp [e])
    · exact hd (by simp [e])
    · exact hd (by simp [e])
    · exact hd (by simp [e])
    · exact hd (by simp [e])
    · exact o1 x hx e
    · exact o2 x hx e
  · simp only [List.mem_cons, List.not_mem_nil, or_false, not_or]
    exact ⟨tp.2.2.symm, (o3 p (by simp)).symm, (o3 q (by simp)).symm, (o3 g (by simp)).symm, (o3 c (by simp)).symm, (o3 d (by simp)).symm, n13.symm, n23.symm⟩
theorem law_9 {Q : DEnds} {x : List (Option D) → DX} {s0 s9 : Option D} {fill : Bool} (S : Lw c_Meter c_Run m pen u a p q g c d u2 a2 p2 q2 g2 P1 P2 P3 F A r F2 A2 r2 T G n b) (hb : b ≤ 2 ^ 20) (hT : T.length ≤ 200) (hn : n ≤ 300) (hR : ∀ m', Q.rt (.bl true) m') :
    r_law_9 c_Meter c_Run P3 P1 Q ⟨[s0, some (.ptr pen), some (.bl fill), some (crv F A r), some (crv F2 A2 r2), some (.ptr u), some (.ptr u2), some (.ptr c), some (.ptr d), s9], x⟩ m := by
  have pd := S.pd
  have o1 := S.rp.off S.t1
  have o2 := S.rp.off S.t2
  refine ⟨a, p, q, g, F, A, r, F2, A2, r2, T, G, n, S.rp, rfl, rfl, by omega, by omega, fun m1 M1 k1 => ⟨(fun z => nomatch z), fun _ => ?_⟩⟩
  obtain ⟨X, hX, hXp⟩ := S.pn
  refine law_10 (S.to (k1.mono fun x hx => by simp at hx; simp [hx]) M1 ⟨X, k1 _ _ (by simp at pd ⊢; exact pd.2.1) hX, hXp⟩ (k1 _ _ (by simpa using (o1 q (by simp)).symm) S.t1) (k1 _ _ (by simpa using (o2 q (by simp)).symm) S.t2)) hb (by omega) (by omega) hR
theorem law_8 {Q : DEnds} {x : List (Option D) → DX} {s0 s9 : Option D} {fill : Bool} (S : Lw c_Meter c_Run m pen u a p q g c d u2 a2 p2 q2 g2 P1 P2 P3 F A r F2 A2 r2 [0] [0] 1 b) (hb : b ≤ 2 ^ 19) (hR : ∀ m', Q.rt (.bl true) m') :
    r_law_8 c_Meter c_Run P2 P3 P1 Q ⟨[s0, some (.ptr pen), some (.bl fill), some (crv F A r), some (crv F2 A2 r2), some (.ptr u), some (.ptr u2), some (.ptr c), some (.ptr d), s9], x⟩ m := by
  have pd := S.pd
  have tp := S.penT
  obtain ⟨X, hX, hXp⟩ := S.pn
  refine ⟨b, X, hX, hXp, by omega, by decide, by decide, fun v X1 v0 v1 hX1 => ⟨by omega, by omega, fun i δ m' => ∃ t T G n, δ = ⟨[s0, some (.ptr pen), some (.bl fill), some (crv F A r), some (crv F2 A2 r2), some (.ptr u), some (.ptr u2), some (.ptr c), some (.ptr d), t], x⟩ ∧
    Lw c_Meter c_Run m' pen u a p q g c d u2 a2 p2 q2 g2 P1 P2 P3 F A r F2 A2 r2 T G n (b + 1 + 20 * i) ∧ T.length ≤ 1 + i ∧ n ≤ 10 + 3 * i, ⟨s9, [0], [0], 1, rfl, ?_, by decide, by decide⟩, fun _ _ _ _ => trivial, ?_, ?_⟩⟩
  · have e : b + 1 + 20 * ((0 : Nat) : Int) = b + 1 := by omega
    rw [e]
    have k : Kp [pen] m (up m pen X1) := Kp.refl.up (by simp)
    refine S.to (k.mono fun x hx => by simp at hx; simp [hx]) (S.rp.keep k fun x hx z => ?_) ⟨X1, up_same, hX1⟩ ?_ ?_
    · rw [List.mem_singleton.mp z] at hx
      simp only [List.mem_cons, List.not_mem_nil, or_false] at hx pd
      rcases hx with e | e | h
      · rw [e, S.rp.rn.ob] at hX
        obtain ⟨_, _, _, e, _⟩ := hXp
        rw [e] at hX
        cases hX
      · rw [e, S.rp.rn.mt.ob] at hX
        obtain ⟨_, _, _, e, _⟩ := hXp
        rw [e] at hX
        cases hX
      · exact pd h
    · exact k _ _ (by simpa using tp.1.symm) S.t1
    · exact k _ _ (by simpa using tp.2.1.symm) S.t2
  · rintro i y δ m1 hx ⟨t, T, G, n, rfl, S1, hT, hn⟩
    obtain ⟨hi, rfl⟩ := rgL_inv hx
    have hi25 : i < 25 := by omega
    obtain ⟨Y, hY, hYp⟩ := S1.pn
    have hpd : pen ≠ p ∧ pen ≠ q ∧ pen ≠ g ∧ pen ≠ c ∧ pen ≠ d := by
      simp only [List.mem_cons, List.not_mem_nil, or_false, not_or] at pd
      exact pd
    refine ⟨b + 1 + 20 * i, Y, a, p, q, g, F, A, r, F2, A2, r2, T, G, n, hY, hYp, by omega, S1.rp, hpd.1, hpd.2.1, hpd.2.2.1, hpd.2.2.2.1, hpd.2.2.2.2, rfl, rfl, by omega, by omega, S1.t1, S1.t2, fun m2 X2 T2 G2 n2 h1 h2 h3 h4 h5 h6 h7 h8 => ⟨(fun z => nomatch z), fun _ => ⟨_, T2, G2, n2, rfl, ?_, by omega, by omega⟩⟩⟩
    have e : b + 1 + 20 * ((i + 1 : Nat) : Int) = b + 1 + 20 * (i : Int) + 20 := by omega
    rw [e]
    exact S1.to h8 h3 ⟨X2, h1, h2⟩ h6 h7
  · rintro δ m1 ⟨t, T, G, n, rfl, S1, hT, hn⟩
    rw [rgL_len] at S1 hT hn
    exact law_9 S1 (by omega) (by omega) (by omega) hR
end
end K56

namespace K56
open PySem PySem.Spec PyProof.Rows L2 Dl Pg Pn Mt
variable {c_Meter c_Run : Addr}
section
variable {m : Sto} {pen P1 P2 P3 : Addr} {F A : List Int} {r : Int} {F2 A2 : List Int} {r2 : Int} {b : Int}
theorem RunAt.neT {C E : Addr} {m : Sto} {u a p q g : Addr} {F A : List Int} {r : Int} {F2 A2 : List Int} {r2 : Int} {T G : List Int} {n : Nat} (M : RunAt C E m u a p q g F A r F2 A2 r2 T G n) {m0 : Sto} (k : Kp [u] m0 m) (hu : m0 u = none) {y : Addr} {o : MO} (h : m0 y = some o) : y ≠ u := fun z => by
  rw [z, hu] at h
  cases h
theorem law_4 {Q : DEnds} {x : List (Option D) → DX} {s0 s5 s6 s7 s8 s9 : Option D} {fill : Bool} {X : MO} (hp : m pen = some X) (hX : PenOk b X) (hb : b ≤ 2 ^ 19) (dr : Drawn F A r) (rs : Rise F2 A2 r2) (t1 : m P1 = some (.tab (lamQ "_law_owes"))) (t2 : m P2 = some (.tab (lamQ "_law_done"))) (t3 : m P3 = some (.tab (lamQ "_law_filled"))) (hR : ∀ m', Q.rt (.bl true) m') :
    r_law_4 c_Meter c_Run P2 P3 P1 Q ⟨[s0, some (.ptr pen), some (.bl fill), some (crv F A r), some (crv F2 A2 r2), s5, s6, s7, s8, s9], x⟩ m := by
  refine fun u hu => ⟨up_same, F, A, r, F2, A2, r2, rfl, rfl, dr.val0, fun a p q g m1 ha hp1 hq hg M k1 => ⟨rfl, ?_⟩⟩
  have nu : ∀ y : Addr, up m u (.ins c_Run []) y = none → y ≠ u ∧ m y = none := fun y h => by
    have e : y ≠ u := fun z => by rw [z, up_same] at h; cases h
    rw [up_ne e] at h
    exact ⟨e, h⟩
  have K1 : Kp [] m m1 := fun y o _ h => by
    have e : y ≠ u := fun z => by rw [z, hu] at h; cases h
    exact k1 y o (by simpa using e) ((up_ne e).trans h)
  have na := (nu a ha).2
  have np := (nu p hp1).2
  have nq := (nu q hq).2
  have ng := (nu g hg).2
  refine fun u2 hu2 => ⟨up_same, F, A, r, F2, A2, r2, rfl, rfl, dr.val0, fun a2 p2 q2 g2 m2 ha2 hp2 hq2 hg2 M2 k2 => ⟨rfl, ?_⟩⟩
  have nu2 : ∀ y : Addr, up m1 u2 (.ins c_Run []) y = none → y ≠ u2 ∧ m1 y = none := fun y h => by
    have e : y ≠ u2 := fun z => by rw [z, up_same] at h; cases h
    rw [up_ne e] at h
    exact ⟨e, h⟩
  have K2 : Kp [] m1 m2 := fun y o _ h => by
    have e : y ≠ u2 := fun z => by rw [z, hu2] at h; cases h
    exact k2 y o (by simpa using e) ((up_ne e).trans h)
  have na2 := (nu2 a2 ha2).2
  have np2 := (nu2 p2 hp2).2
  have nq2 := (nu2 q2 hq2).2
  have ng2 := (nu2 g2 hg2).2
  refine ⟨(by show 1 ≤ sizeLine; decide), fun c hc => ⟨(by show 1 ≤ sizeLine; decide), fun d hd => ?_⟩⟩
  have cd : c ≠ d := fun z => by rw [← z, up_same] at hd; cases hd
  rw [up_ne cd.symm] at hd
  have M1 := M.keep K2 (fun _ _ => by simp)
  have hp3 := K1 _ _ (by simp) hp
  have hp4 := K2 _ _ (by simp) hp3
  have K3 : Kp [] m2 (up (up m2 c (.lst [.int 0])) d (.lst [.int 0])) := Kp.fresh (Kp.fresh Kp.refl hc) hd
  have o2 : ∀ y : Addr, m1 y = none → ∀ x ∈ [u2, a2, p2, q2, g2], m1 x = none := fun y _ x hx => by
    simp only [List.mem_cons, List.not_mem_nil, or_false] at hx
    rcases hx with e | e | e | e | e <;> subst e <;> assumption
  have oc := M2.offN hc
  have od := M2.offN hd
  have S : Lw c_Meter c_Run (up (up m2 c (.lst [.int 0])) d (.lst [.int 0])) pen u a p q g c d u2 a2 p2 q2 g2 P1 P2 P3 F A r F2 A2 r2 [0] [0] 1 b := by
    refine ⟨⟨X, K3 _ _ (by simp) hp4, hX⟩, M1.rp hc hd cd dr rs, M2.keep K3 (fun _ _ => by simp), K3 _ _ (by simp) (K2 _ _ (by simp) (K1 _ _ (by simp) t1)), K3 _ _ (by simp) (K2 _ _ (by simp) (K1 _ _ (by simp) t2)), K3 _ _ (by simp) (K2 _ _ (by simp) (K1 _ _ (by simp) t3)), fun x hx z => ?_, fun z => ?_⟩
    · have e1 := o2 u2 hu2 x hx
      simp only [List.mem_cons, List.not_mem_nil, or_false] at z
      rcases z with e | e | e | e | e | e
      · rw [e, hp3] at e1; cases e1
      · rw [e, M.mt.tl] at e1; cases e1
      · rw [e, M.mt.ms] at e1; cases e1
      · rw [e, M.gn] at e1; cases e1
      · exact oc x hx e
      · exact od x hx e
    · simp only [List.mem_cons, List.not_mem_nil, or_false] at z
      rcases z with e | e | e | e | e
      · rw [e, np] at hp; cases hp
      · rw [e, nq] at hp; cases hp
      · rw [e, ng] at hp; cases hp
      · rw [e, hc] at hp4; cases hp4
      · rw [e, hd] at hp4; cases hp4
  exact law_8 S hb hR
end
theorem v_law {c_Meter c_Run p_law_done p_law_filled p_law_owes : Addr} {ds : List D} {m : Sto} {R : D → Sto → Prop} {RX : DX} (h : (lawSpT 63 [(p_law_owes, ((("_law_owes" : Str) ++ ".<locals>.") ++ "<lambda>")), (p_law_done, ((("_law_done" : Str) ++ ".<locals>.") ++ "<lambda>")), (p_law_filled, ((("_law_filled" : Str) ++ ".<locals>.") ++ "<lambda>"))]) ds m R RX) :
    r_law c_Meter c_Run p_law_done p_law_filled p_law_owes { nx := fun _ m' => R .non m', rt := R } ⟨ds.map some ++ List.replicate (10 - ds.length) none, fun _ => RX⟩ m := by
  obtain ⟨ns, rfl, hns, hts, hR⟩ := h
  have h1 := hts _ (.head _)
  have h2 := hts _ (.tail _ (.head _))
  have h3 := hts _ (.tail _ (.tail _ (.head _)))
  refine ⟨ns, rfl, fun pen X hpen hX => ?_⟩
  have k0 : ∀ o, Kp [] m (up m pen o) := fun o => Kp.refl.new hpen
  refine ⟨0, X, up_same, hX, by decide, by decide, by decide, fun v X1 v0 v1 hX1 => ?_⟩
  simp only [up_up]
  refine ⟨0 + 1, X1, up_same, hX1, by decide, fun F A r X2 dr hX2 => ?_⟩
  simp only [up_up]
  refine ⟨0 + 1 + 50, X2, up_same, hX2, by decide, by decide, by decide, fun w X3 w0 w1 hX3 => ?_⟩
  simp only [up_up]
  refine ⟨0 + 1 + 50 + 1, X3, F, A, r, up_same, hX3, by decide, rfl, dr, fun F2 A2 r2 X4 rs hX4 => ?_⟩
  simp only [up_up]
  exact law_4 up_same hX4 (by decide) dr rs (k0 _ _ _ (by simp) h1) (k0 _ _ _ (by simp) h2) (k0 _ _ _ (by simp) h3) hR
end K56


namespace K56
open PySem PySem.Spec PyProof.Rows L2 Dl Pg Pn Mt
section
variable {P : Program} {w : World} {K : PySem.W.Frag} {mg : Str → Option Value} {base : Heap} {A : Ad}
theorem ok_is_number (T : Tx K mg A) : FnG P w K mg base CX0 1 A.f_is_number A.d_is_number ["thing"] (spD K sp_is_number) := by
  refine fn_d T.F_is_number sc_is_number (fun ds m R RX h => by unfold sp_is_number at h; first | (obtain ⟨ns, rfl, _⟩ := h; rfl) | (split at h <;> first | rfl | exact h.elim)) (fun cdv A' outer s H E hr hg => ⟨r_is_number, PDSs.nox ((pdss_one (pds_ret (pd_and (pd_isi .int (by rfl) T.z_isinstance (by decide +kernel) (pd_v 0) (by rfl) T.z_int (by decide +kernel)) (pd_and (pd_not (pd_isi .bool (by rfl) T.z_isinstance (by decide +kernel) (pd_v 0) (by rfl) T.z_bool (by decide +kernel))) (pd_one (pd_cmp od_ge (pd_v 0) pd_int (nomark _)))))))), fun ds m R RX h => v_is_number h⟩)
theorem ok_value (T : Tx K mg A) : FnG P w K mg base CX0 1 A.f_value A.d_value ["f", "t"] (spD K sp_value) := by
  refine fn_d T.F_value sc_value (fun ds m R RX h => by unfold sp_value at h; first | (obtain ⟨ns, rfl, _⟩ := h; rfl) | (split at h <;> first | rfl | exact h.elim)) (fun cdv A' outer s H E hr hg => ⟨r_value, PDSs.nox ((pdss_cons (pds_asg (pdg_tup rfl (pdgs_cons (pdg_name 2 sc_value.nd rfl (by first | exact Or.inl rfl | exact Or.inr rfl)) (pdgs_cons (pdg_name 3 sc_value.nd rfl (by first | exact Or.inl rfl | exact Or.inr rfl)) (pdgs_cons (pdg_name 4 sc_value.nd rfl (by first | exact Or.inl rfl | exact Or.inr rfl)) pdgs_nil)))) (pd_v 0))
(pdss_cons (pds_if (pdt_cmp od_lt (pd_v 1) (pd_callB cd_len (by rfl) T.z_len (by decide +kernel) (pda_cons (pd_v 2) pda_nil)) (nomark _))
(pdss_one (pds_ret (pd_ix id_seq (pd_v 2) (pd_v 1))))
pdss_nil)
(pdss_cons (pds_set 5 sc_value.nd rfl (by first | exact Or.inl rfl | exact Or.inr rfl) (pd_op od_sub (pd_v 1) (pd_callB cd_len (by rfl) T.z_len (by decide +kernel) (pda_cons (pd_v 2) pda_nil))))
(pdss_one (pds_ret (pd_op (od_add false) (pd_ix id_seq (pd_v 3) (pd_op od_mod (pd_v 5) (pd_callB cd_len (by rfl) T.z_len (by decide +kernel) (pda_cons (pd_v 3) pda_nil)))) (pd_op (od_mul false) (pd_v 4) (pd_op od_div (pd_v 5) (pd_callB cd_len (by rfl) T.z_len (by decide +kernel) (pda_cons (pd_v 3) pda_nil))))))))))), fun ds m R RX h => v_value h⟩)
theorem ok_Meter_init (T : Tx K mg A) : FnG P w K mg base CX0 1 A.f_Meter_init A.d_Meter_init ["self", "f"] (spD K (sp_Meter_init A.c_Meter)) := by
  refine fn_d T.F_Meter_init sc_Meter_init (fun ds m R RX h => by unfold sp_Meter_init at h; first | (obtain ⟨ns, rfl, _⟩ := h; rfl) | (split at h <;> first | rfl | exact h.elim)) (fun cdv A' outer s H E hr hg => ⟨r_Meter_init A.c_Meter, PDSs.nox ((pdss_cons (pds_fld (pd_v 0) (pd_v 1) T.cl_Meter T.n_Meter_curve)
(pdss_cons (pds_fld (pd_v 0) (pd_lst true (pda_cons pd_int pda_nil)) T.cl_Meter T.n_Meter_tallies)
(pdss_one (pds_fld (pd_v 0) (pd_lst true (pda_cons pd_int pda_nil)) T.cl_Meter T.n_Meter_most))))), fun ds m R RX h => v_Meter_init h⟩)
theorem ok_Meter_need_room (T : Tx K mg A) : FnG P w K mg base (L2.CX P w) 2 A.f_Meter_need_room A.d_Meter_need_room ["self", "turns"] (spD K (sp_Meter_need_room A.c_Meter A.c_NoStream A.c_TooLong)) := by
  have G_is_number : FnG P w K mg base CX0 1 A.f_is_number A.d_is_number ["thing"] (spD K sp_is_number) := ok_is_number T
  refine fn_d T.F_Meter_need_room sc_Meter_need_room (fun ds m R RX h => by unfold sp_Meter_need_room at h; first | (obtain ⟨ns, rfl, _⟩ := h; rfl) | (split at h <;> first | rfl | exact h.elim)) (fun cdv A' outer s H E hr hg => ⟨r_Meter_need_room A.c_Meter A.c_NoStream A.c_TooLong, ((pdss_cons (pds_if (pdt_not (pdt_val (pd_call G_is_number (hr.mono (by decide)) hg (by rfl) T.g_is_number T.F_is_number.kp T.b_is_number (fun _ => passAt0) (pda_cons (pd_v 1) pda_nil))))
(pdss_one (pds_raise rfl (takes_of rfl rfl rfl rfl) (pmk_own PySem.F.excBase_ValueError T.x_NoStream T.g_NoStream T.kp_NoStream (raises_own T.be_NoStream T.ty_NoStream) (by rfl))))
pdss_nil)
(pdss_one (pds_if (pdt_cmp od_gt (pd_op (od_add false) (pd_callB cd_len (by rfl) T.z_len (by decide +kernel) (pda_cons (pd_fld (pd_v 0) T.cl_Meter T.n_Meter_tallies) pda_nil)) (pd_v 1)) (pd_op (od_add false) (pd_gint (by rfl) T.k_MOST_TURNS) pd_int) (nomark _))
(pdss_one (pds_raise rfl (takes_of rfl rfl rfl rfl) (pmk_own PySem.F.excBase_ValueError T.x_TooLong T.g_TooLong T.kp_TooLong (raises_own T.be_TooLong T.ty_TooLong) (by rfl))))
pdss_nil)))), fun ds m R RX h => v_Meter_need_room h⟩)
theorem ok_Meter_leave (T : Tx K mg A) : FnG P w K mg base CX0 2 A.f_Meter_leave A.d_Meter_leave ["self"] (spD K (sp_Meter_leave A.c_Meter)) := by
  have G_value : FnG P w K mg base CX0 1 A.f_value A.d_value ["f", "t"] (spD K sp_value) := ok_value T
  refine fn_d T.F_Meter_leave sc_Meter_leave (fun ds m R RX h => by unfold sp_Meter_leave at h; first | (obtain ⟨ns, rfl, _⟩ := h; rfl) | (split at h <;> first | rfl | exact h.elim)) (fun cdv A' outer s H E hr hg => ⟨r_Meter_leave A.c_Meter, PDSs.nox ((pdss_cons (pds_set 1 sc_Meter_leave.nd rfl (by first | exact Or.inl rfl | exact Or.inr rfl) (pd_callB cd_len (by rfl) T.z_len (by decide +kernel) (pda_cons (pd_fld (pd_v 0) T.cl_Meter T.n_Meter_tallies) pda_nil)))
(pdss_cons (pds_while PassesOwn.never (pdt_cmp od_le (pd_callB cd_len (by rfl) T.z_len (by decide +kernel) (pda_cons (pd_fld (pd_v 0) T.cl_Meter T.n_Meter_most) pda_nil)) (pd_v 1) (nomark _))
(pdss_one (pds_expr (pd_lm PySem.F.plainAttrs_list PySem.F.slot_list_append PySem.F.type_list_append md_append (pd_fld (pd_v 0) T.cl_Meter T.n_Meter_most) (pda_cons (pd_call G_value (hr.mono (by decide)) hg (by rfl) T.g_value T.F_value.kp T.b_value (fun _ => passAt0) (pda_cons (pd_fld (pd_v 0) T.cl_Meter T.n_Meter_curve) (pda_cons (pd_callB cd_len (by rfl) T.z_len (by decide +kernel) (pda_cons (pd_fld (pd_v 0) T.cl_Meter T.n_Meter_most) pda_nil)) pda_nil))) pda_nil)))))
(pdss_one (pds_ret (pd_op od_sub (pd_callB (cd_min rfl) (by rfl) T.z_min (by decide +kernel) (pda_cons (pd_lc false [("s", 2)] false rfl sc_Meter_leave.nd (pdi_range1 (by rfl) T.z_range (pd_v 1)) (blkOk_by (own := [("s", 2)]) (N := ["self", "long", "s"]) (sc := defScope s_Meter_leave) (by decide +kernel)) (fun _ => rfl) (fun _ _ _ _ _ => (pg_name (i := 2) sc_Meter_leave.nd rfl (Or.inl rfl))) (fun _ _ _ _ _ => pdts_nil) (fun _ _ _ _ _ => (pd_op (od_add false) (pd_ix id_seq (pd_fld (pd_v 0) T.cl_Meter T.n_Meter_most) (pd_op od_sub (pd_v 1) (pd_v 2))) (pd_ix id_seq (pd_fld (pd_v 0) T.cl_Meter T.n_Meter_tallies) (pd_v 2))))) pda_nil)) (pd_ix id_seq (pd_fld (pd_v 0) T.cl_Meter T.n_Meter_tallies) (pd_neg pd_int)))))))), fun ds m R RX h => v_Meter_leave h⟩)
theorem ok_Meter_told (T : Tx K mg A) : FnG P w K mg base CX0 1 A.f_Meter_told A.d_Meter_told ["self"] (spD K (sp_Meter_told A.c_Meter)) := by
  refine fn_d T.F_Meter_told sc_Meter_told (fun ds m R RX h => by unfold sp_Meter_told at h; first | (obtain ⟨ns, rfl, _⟩ := h; rfl) | (split at h <;> first | rfl | exact h.elim)) (fun cdv A' outer s H E hr hg => ⟨r_Meter_told A.c_Meter, PDSs.nox ((pdss_one (pds_ret (pd_lc true [("t", 1)] false rfl sc_Meter_told.nd (pdi_range2 (by rfl) T.z_range pd_int (pd_callB cd_len (by rfl) T.z_len (by decide +kernel) (pda_cons (pd_fld (pd_v 0) T.cl_Meter T.n_Meter_tallies) pda_nil))) (blkOk_by (own := [("t", 1)]) (N := ["self", "t"]) (sc := defScope s_Meter_told) (by decide +kernel)) (fun _ => rfl) (fun _ _ _ _ _ => (pg_name (i := 1) sc_Meter_told.nd rfl (Or.inl rfl))) (fun _ _ _ _ _ => pdts_nil) (fun _ _ _ _ _ => (pd_op od_sub (pd_ix id_seq (pd_fld (pd_v 0) T.cl_Meter T.n_Meter_tallies) (pd_v 1)) (pd_ix id_seq (pd_fld (pd_v 0) T.cl_Meter T.n_Meter_tallies) (pd_op od_sub (pd_v 1) pd_int)))))))), fun ds m R RX h => v_Meter_told h⟩)
theorem ok_Run_init (T : Tx K mg A) : FnG P w K mg base CX0 3 A.f_Run_init A.d_Run_init ["self", "f", "g"] (spD K (sp_Run_init A.c_Meter A.c_Run)) := by
  have G_Meter_init : FnG P w K mg base CX0 1 A.f_Meter_init A.d_Meter_init ["self", "f"] (spD K (sp_Meter_init A.c_Meter)) := ok_Meter_init T
  refine fn_d T.F_Run_init sc_Run_init (fun ds m R RX h => by unfold sp_Run_init at h; first | (obtain ⟨ns, rfl, _⟩ := h; rfl) | (split at h <;> first | rfl | exact h.elim)) (fun cdv A' outer s H E hr hg => ⟨r_Run_init A.c_Meter A.c_Run, PDSs.nox ((pdss_cons (pds_fld (pd_v 0) (pd_make T.k_Meter G_Meter_init (hr.mono (by decide)) hg (by rfl) T.g_Meter T.b_Meter_init (fun _ => passAt0) (pda_cons (pd_v 1) pda_nil)) T.cl_Run T.n_Run_meter)
(pdss_cons (pds_fld (pd_v 0) (pd_v 2) T.cl_Run T.n_Run_server)
(pdss_one (pds_fld (pd_v 0) (pd_lst true (pda_cons pd_int pda_nil)) T.cl_Run T.n_Run_gone))))), fun ds m R RX h => v_Run_init h⟩)
theorem ok_Run_leave (T : Tx K mg A) : FnG P w K mg base CX0 3 A.f_Run_leave A.d_Run_leave ["self"] (spD K (sp_Run_leave A.c_Meter A.c_Run)) := by
  have G_Meter_leave : FnG P w K mg base CX0 2 A.f_Meter_leave A.d_Meter_leave ["self"] (spD K (sp_Meter_leave A.c_Meter)) := ok_Meter_leave T
  refine fn_d T.F_Run_leave sc_Run_leave (fun ds m R RX h => by unfold sp_Run_leave at h; first | (obtain ⟨ns, rfl, _⟩ := h; rfl) | (split at h <;> first | rfl | exact h.elim)) (fun cdv A' outer s H E hr hg => ⟨r_Run_leave A.c_Meter A.c_Run, PDSs.nox ((pdss_one (pds_ret (pd_meth0 (pd_fld (pd_v 0) T.cl_Run T.n_Run_meter) T.cl_Meter T.m_Meter_leave G_Meter_leave (hr.mono (by decide)) hg T.b_Meter_leave (fun _ => passAt0))))), fun ds m R RX h => v_Run_leave h⟩)
theorem ok_Run_held (T : Tx K mg A) : FnG P w K mg base CX0 1 A.f_Run_held A.d_Run_held ["self"] (spD K (sp_Run_held A.c_Meter A.c_Run)) := by
  refine fn_d T.F_Run_held sc_Run_held (fun ds m R RX h => by unfold sp_Run_held at h; first | (obtain ⟨ns, rfl, _⟩ := h; rfl) | (split at h <;> first | rfl | exact h.elim)) (fun cdv A' outer s H E hr hg => ⟨r_Run_held A.c_Meter A.c_Run, PDSs.nox ((pdss_one (pds_ret (pd_op od_sub (pd_ix id_seq (pd_fld (pd_fld (pd_v 0) T.cl_Run T.n_Run_meter) T.cl_Meter T.n_Meter_tallies) (pd_neg pd_int)) (pd_ix id_seq (pd_fld (pd_v 0) T.cl_Run T.n_Run_gone) (pd_neg pd_int)))))), fun ds m R RX h => v_Run_held h⟩)
theorem ok_Run_owed (T : Tx K mg A) : FnG P w K mg base (L2.CX P w) 4 A.f_Run_owed A.d_Run_owed ["self", "come"] (spD K (sp_Run_owed A.c_Meter A.c_Run A.c_TooMuch A.c_TooLittle A.c_NoStream A.c_TooLong)) := by
  have G_is_number : FnG P w K mg base CX0 1 A.f_is_number A.d_is_number ["thing"] (spD K sp_is_number) := ok_is_number T
  have G_Run_leave : FnG P w K mg base CX0 3 A.f_Run_leave A.d_Run_leave ["self"] (spD K (sp_Run_leave A.c_Meter A.c_Run)) := ok_Run_leave T
  have G_value : FnG P w K mg base CX0 1 A.f_value A.d_value ["f", "t"] (spD K sp_value) := ok_value T
  refine fn_d T.F_Run_owed sc_Run_owed (fun ds m R RX h => by unfold sp_Run_owed at h; first | (obtain ⟨ns, rfl, _⟩ := h; rfl) | (split at h <;> first | rfl | exact h.elim)) (fun cdv A' outer s H E hr hg => ⟨r_Run_owed A.c_Meter A.c_NoStream A.c_Run A.c_TooMuch, ((pdss_cons (pds_if (pdt_not (pdt_val (pd_call G_is_number (hr.mono (by decide)) hg (by rfl) T.g_is_number T.F_is_number.kp T.b_is_number (fun _ => passAt0) (pda_cons (pd_v 1) pda_nil))))
(pdss_one (pds_raise rfl (takes_of rfl rfl rfl rfl) (pmk_own PySem.F.excBase_ValueError T.x_NoStream T.g_NoStream T.kp_NoStream (raises_own T.be_NoStream T.ty_NoStream) (by rfl))))
pdss_nil)
(pdss_cons (pds_if (pdt_cmp od_gt (pd_v 1) (pd_meth0 (pd_v 0) T.cl_Run T.m_Run_leave G_Run_leave (hr.mono (by decide)) hg T.b_Run_leave (fun _ => passAt0)) (nomark _))
(pdss_one (pds_raise rfl (takes_of rfl rfl rfl rfl) (pmk_own PySem.F.excBase_ValueError T.x_TooMuch T.g_TooMuch T.kp_TooMuch (raises_own T.be_TooMuch T.ty_TooMuch) (by rfl))))
pdss_nil)
(pdss_cons (pds_set 2 sc_Run_owed.nd rfl (by first | exact Or.inl rfl | exact Or.inr rfl) (pd_op (od_add false) (pd_fld (pd_fld (pd_v 0) T.cl_Run T.n_Run_meter) T.cl_Meter T.n_Meter_tallies) (pd_lst false (pda_cons (pd_op (od_add false) (pd_ix id_seq (pd_fld (pd_fld (pd_v 0) T.cl_Run T.n_Run_meter) T.cl_Meter T.n_Meter_tallies) (pd_neg pd_int)) (pd_v 1)) pda_nil))))
(pdss_cons (pds_set 3 sc_Run_owed.nd rfl (by first | exact Or.inl rfl | exact Or.inr rfl) (pd_op od_sub (pd_callB cd_len (by rfl) T.z_len (by decide +kernel) (pda_cons (pd_v 2) pda_nil)) pd_int))
(pdss_cons (pds_set 4 sc_Run_owed.nd rfl (by first | exact Or.inl rfl | exact Or.inr rfl) (pd_callB (cd_min rfl) (by rfl) T.z_min (by decide +kernel) (pda_cons (pd_lc false [("s", 5)] false rfl sc_Run_owed.nd (pdi_range1 (by rfl) T.z_range (pd_op (od_add false) (pd_v 3) pd_int)) (blkOk_by (own := [("s", 5)]) (N := ["self", "come", "tallies", "last", "served", "s"]) (sc := defScope s_Run_owed) (by decide +kernel)) (fun _ => rfl) (fun _ _ _ _ _ => (pg_name (i := 5) sc_Run_owed.nd rfl (Or.inl rfl))) (fun _ _ _ _ _ => pdts_nil) (fun _ _ _ _ _ => (pd_op (od_add false) (pd_ix id_seq (pd_v 2) (pd_v 5)) (pd_call G_value (hr.mono (by decide)) hg (by rfl) T.g_value T.F_value.kp T.b_value (fun _ => passAt0) (pda_cons (pd_fld (pd_v 0) T.cl_Run T.n_Run_server) (pda_cons (pd_op od_sub (pd_v 3) (pd_v 5)) pda_nil)))))) pda_nil)))
(pdss_one (pds_ret (pd_callB (cd_max rfl) (by rfl) T.z_max (by decide +kernel) (pda_cons pd_int (pda_cons (pd_op od_sub (pd_v 4) (pd_ix id_seq (pd_fld (pd_v 0) T.cl_Run T.n_Run_gone) (pd_neg pd_int))) pda_nil))))))))))), fun ds m R RX h => v_Run_owed h⟩)
theorem ok_Run_turn (T : Tx K mg A) : FnG P w K mg base (L2.CX P w) 5 A.f_Run_turn A.d_Run_turn ["self", "come", "go"] (spD K (sp_Run_turn A.c_Meter A.c_Run A.c_TooMuch A.c_TooLittle A.c_NoStream A.c_TooLong)) := by
  have G_Meter_need_room : FnG P w K mg base (L2.CX P w) 2 A.f_Meter_need_room A.d_Meter_need_room ["self", "turns"] (spD K (sp_Meter_need_room A.c_Meter A.c_NoStream A.c_TooLong)) := ok_Meter_need_room T
  have G_Run_owed : FnG P w K mg base (L2.CX P w) 4 A.f_Run_owed A.d_Run_owed ["self", "come"] (spD K (sp_Run_owed A.c_Meter A.c_Run A.c_TooMuch A.c_TooLittle A.c_NoStream A.c_TooLong)) := ok_Run_owed T
  have G_Run_held : FnG P w K mg base CX0 1 A.f_Run_held A.d_Run_held ["self"] (spD K (sp_Run_held A.c_Meter A.c_Run)) := ok_Run_held T
  have G_is_number : FnG P w K mg base CX0 1 A.f_is_number A.d_is_number ["thing"] (spD K sp_is_number) := ok_is_number T
  refine fn_d T.F_Run_turn sc_Run_turn (fun ds m R RX h => by unfold sp_Run_turn at h; first | (obtain ⟨ns, rfl, _⟩ := h; rfl) | (split at h <;> first | rfl | exact h.elim)) (fun cdv A' outer s H E hr hg => ⟨r_Run_turn A.c_Meter A.c_NoStream A.c_Run A.c_TooLittle A.c_TooLong A.c_TooMuch, ((pdss_cons (pds_if (PDW.pt (pdw_or (pdt_not (pdt_val (pd_call G_is_number (hr.mono (by decide)) hg (by rfl) T.g_is_number T.F_is_number.kp T.b_is_number (fun _ => passAt0) (pda_cons (pd_v 1) pda_nil)))) (pdw_or1 (pdt_not (pdt_val (pd_call G_is_number (hr.mono (by decide)) hg (by rfl) T.g_is_number T.F_is_number.kp T.b_is_number (fun _ => passAt0) (pda_cons (pd_v 2) pda_nil)))))))
(pdss_one (pds_raise rfl (takes_of rfl rfl rfl rfl) (pmk_own PySem.F.excBase_ValueError T.x_NoStream T.g_NoStream T.kp_NoStream (raises_own T.be_NoStream T.ty_NoStream) (by rfl))))
pdss_nil)
(pdss_cons (pds_expr (pd_methX (pd_fld (pd_v 0) T.cl_Run T.n_Run_meter) T.cl_Meter T.m_Meter_need_room G_Meter_need_room (hr.mono (by decide)) hg T.b_Meter_need_room (fun _ => passAt (takes_of rfl rfl rfl rfl) _) (pda_cons pd_int pda_nil)))
(pdss_cons (pds_set 3 sc_Run_turn.nd rfl (by first | exact Or.inl rfl | exact Or.inr rfl) (pd_methX (pd_v 0) T.cl_Run T.m_Run_owed G_Run_owed (hr.mono (by decide)) hg T.b_Run_owed (fun _ => passAt (takes_of rfl rfl rfl rfl) _) (pda_cons (pd_v 1) pda_nil)))
(pdss_cons (pds_if (pdt_cmp od_gt (pd_v 2) (pd_op (od_add false) (pd_meth0 (pd_v 0) T.cl_Run T.m_Run_held G_Run_held (hr.mono (by decide)) hg T.b_Run_held (fun _ => passAt0)) (pd_v 1)) (nomark _))
(pdss_one (pds_raise rfl (takes_of rfl rfl rfl rfl) (pmk_own PySem.F.excBase_ValueError T.x_TooMuch T.g_TooMuch T.kp_TooMuch (raises_own T.be_TooMuch T.ty_TooMuch) (by rfl))))
pdss_nil)
(pdss_cons (pds_if (pdt_cmp od_lt (pd_v 2) (pd_v 3) (nomark _))
(pdss_one (pds_raise rfl (takes_of rfl rfl rfl rfl) (pmk_own PySem.F.excBase_ValueError T.x_TooLittle T.g_TooLittle T.kp_TooLittle (raises_own T.be_TooLittle T.ty_TooLittle) (by rfl))))
pdss_nil)
(pdss_cons (pds_expr (pd_lm PySem.F.plainAttrs_list PySem.F.slot_list_append PySem.F.type_list_append md_append (pd_fld (pd_fld (pd_v 0) T.cl_Run T.n_Run_meter) T.cl_Meter T.n_Meter_tallies) (pda_cons (pd_op (od_add false) (pd_ix id_seq (pd_fld (pd_fld (pd_v 0) T.cl_Run T.n_Run_meter) T.cl_Meter T.n_Meter_tallies) (pd_neg pd_int)) (pd_v 1)) pda_nil)))
(pdss_cons (pds_expr (pd_lm PySem.F.plainAttrs_list PySem.F.slot_list_append PySem.F.type_list_append md_append (pd_fld (pd_v 0) T.cl_Run T.n_Run_gone) (pda_cons (pd_op (od_add false) (pd_ix id_seq (pd_fld (pd_v 0) T.cl_Run T.n_Run_gone) (pd_neg pd_int)) (pd_v 2)) pda_nil)))
(pdss_one (pds_ret (pd_meth0 (pd_v 0) T.cl_Run T.m_Run_held G_Run_held (hr.mono (by decide)) hg T.b_Run_held (fun _ => passAt0)))))))))))), fun ds m R RX h => v_Run_turn h⟩)
theorem ok_Run_told (T : Tx K mg A) : FnG P w K mg base CX0 2 A.f_Run_told A.d_Run_told ["self"] (spD K (sp_Run_told A.c_Meter A.c_Run)) := by
  have G_Meter_told : FnG P w K mg base CX0 1 A.f_Meter_told A.d_Meter_told ["self"] (spD K (sp_Meter_told A.c_Meter)) := ok_Meter_told T
  refine fn_d T.F_Run_told sc_Run_told (fun ds m R RX h => by unfold sp_Run_told at h; first | (obtain ⟨ns, rfl, _⟩ := h; rfl) | (split at h <;> first | rfl | exact h.elim)) (fun cdv A' outer s H E hr hg => ⟨r_Run_told A.c_Meter A.c_Run, PDSs.nox ((pdss_one (pds_ret (pd_tup (pda_cons (pd_meth0 (pd_fld (pd_v 0) T.cl_Run T.n_Run_meter) T.cl_Meter T.m_Meter_told G_Meter_told (hr.mono (by decide)) hg T.b_Meter_told (fun _ => passAt0)) (pda_cons (pd_lc true [("t", 1)] false rfl sc_Run_told.nd (pdi_range2 (by rfl) T.z_range pd_int (pd_callB cd_len (by rfl) T.z_len (by decide +kernel) (pda_cons (pd_fld (pd_v 0) T.cl_Run T.n_Run_gone) pda_nil))) (blkOk_by (own := [("t", 1)]) (N := ["self", "t"]) (sc := defScope s_Run_told) (by decide +kernel)) (fun _ => rfl) (fun _ _ _ _ _ => (pg_name (i := 1) sc_Run_told.nd rfl (Or.inl rfl))) (fun _ _ _ _ _ => pdts_nil) (fun _ _ _ _ _ => (pd_op od_sub (pd_ix id_seq (pd_fld (pd_v 0) T.cl_Run T.n_Run_gone) (pd_v 1)) (pd_ix id_seq (pd_fld (pd_v 0) T.cl_Run T.n_Run_gone) (pd_op od_sub (pd_v 1) pd_int))))) pda_nil)))))), fun ds m R RX h => v_Run_told h⟩)
theorem ok_law_pen (T : Tx K mg A) : FnG P w K mg base CX0 1 A.f_law_pen A.d_law_pen ["script"] (spD K sp_law_pen) := by
  refine fn_d T.F_law_pen sc_law_pen (fun ds m R RX h => by unfold sp_law_pen at h; first | (obtain ⟨ns, rfl, _⟩ := h; rfl) | (split at h <;> first | rfl | exact h.elim)) (fun cdv A' outer s H E hr hg => ⟨r_law_pen, PDSs.nox ((pdss_one (pds_ret (pd_lst true (pda_cons (pd_callT (cd_list false) (by rfl) T.z_list (by decide +kernel) (pda_cons (pd_sl false (pd_v 0) pdo_none (pdo_some pd_int)) pda_nil)) (pda_cons pd_int (pda_cons pd_int pda_nil))))))), fun ds m R RX h => v_law_pen h⟩)
theorem ok_law_take (T : Tx K mg A) : FnG P w K mg base CX0 1 A.f_law_take A.d_law_take ["pen", "many"] (spD K sp_law_take) := by
  refine fn_d T.F_law_take sc_law_take (fun ds m R RX h => by unfold sp_law_take at h; first | (obtain ⟨ns, rfl, _⟩ := h; rfl) | (split at h <;> first | rfl | exact h.elim)) (fun cdv A' outer s H E hr hg => ⟨r_law_take, PDSs.nox ((pdss_cons (pds_if (pdt_cmp od_gt (pd_ix id_seq (pd_v 0) pd_int) pd_int (nomark _))
(pdss_cons (pds_set 2 sc_law_take.nd rfl (by first | exact Or.inl rfl | exact Or.inr rfl) (pd_op od_mod (pd_ix id_seq (pd_v 0) pd_int) (pd_v 1)))
(pdss_cons (pds_asg (pdg_sub (pd_v 0) pd_int) (pd_op od_div (pd_ix id_seq (pd_v 0) pd_int) (pd_v 1)))
(pdss_one (pds_ret (pd_v 2)))))
pdss_nil)
(pdss_cons (pds_set 3 sc_law_take.nd rfl (by first | exact Or.inl rfl | exact Or.inr rfl) (pd_ix id_seq (pd_v 0) pd_int))
(pdss_cons (pds_asg (pdg_sub (pd_v 0) pd_int) (pd_op (od_add false) (pd_v 3) pd_int))
(pdss_cons (pds_set 4 sc_law_take.nd rfl (by first | exact Or.inl rfl | exact Or.inr rfl) (pd_op (od_add false) (pd_op (od_mul false) pd_int (pd_v 3)) pd_int))
(pdss_cons (pds_if (pdt_cmp (od_ne hr.units) (pd_ix id_seq (pd_v 0) pd_int) (pd_lst false pda_nil) (nomark _))
(pdss_one (pds_set 4 sc_law_take.nd rfl (by first | exact Or.inl rfl | exact Or.inr rfl) (pd_ix id_seq (pd_ix id_seq (pd_v 0) pd_int) (pd_op od_mod (pd_v 3) (pd_callB cd_len (by rfl) T.z_len (by decide +kernel) (pda_cons (pd_ix id_seq (pd_v 0) pd_int) pda_nil))))))
pdss_nil)
(pdss_cons (pds_if (PDW.pt (pdw_and (pdt_cmp od_lt (pd_v 3) (pd_callB cd_len (by rfl) T.z_len (by decide +kernel) (pda_cons (pd_ix id_seq (pd_v 0) pd_int) pda_nil)) (nomark _)) (pdw_and1 (pdt_cmp od_ge (pd_callB cd_abs (by rfl) T.z_abs (by decide +kernel) (pda_cons (pd_v 4) pda_nil)) (pd_op od_pow pd_int pd_int) (nomark _)))))
(pdss_cons (pds_asg (pdg_sub (pd_v 0) pd_int) (pd_op od_div (pd_callB cd_abs (by rfl) T.z_abs (by decide +kernel) (pda_cons (pd_v 4) pda_nil)) (pd_v 1)))
(pdss_one (pds_ret (pd_op od_mod (pd_callB cd_abs (by rfl) T.z_abs (by decide +kernel) (pda_cons (pd_v 4) pda_nil)) (pd_v 1)))))
pdss_nil)
(pdss_cons (pds_set 5 sc_law_take.nd rfl (by first | exact Or.inl rfl | exact Or.inr rfl) (pd_lst false (pda_cons pd_int (pda_cons pd_int (pda_cons pd_int (pda_cons pd_int (pda_cons pd_int (pda_cons pd_int (pda_cons pd_int pda_nil)))))))))
(pdss_cons (pds_set 6 sc_law_take.nd rfl (by first | exact Or.inl rfl | exact Or.inr rfl) (pd_op (od_add false) (pd_op (od_add false) (pd_op od_mod (pd_v 4) pd_int) (pd_op (od_mul false) pd_int (pd_v 3))) pd_int))
(pdss_cons (pds_set 6 sc_law_take.nd rfl (by first | exact Or.inl rfl | exact Or.inr rfl) (pd_op od_mod (pd_op (od_mul false) (pd_v 6) (pd_op (od_add false) (pd_op (od_mul false) (pd_v 3) (pd_v 3)) pd_int)) (pd_ix id_seq (pd_v 5) (pd_op od_mod (pd_v 3) pd_int))))
(pdss_one (pds_ret (pd_op od_mod (pd_op od_div (pd_op od_mod (pd_op od_pow (pd_v 6) pd_int) (pd_ix id_seq (pd_v 5) (pd_op od_mod (pd_op (od_add false) (pd_v 3) pd_int) pd_int))) pd_int) (pd_v 1)))))))))))))), fun ds m R RX h => v_law_take h⟩)
theorem ok_law_at (T : Tx K mg A) : FnG P w K mg base CX0 1 A.f_law_at A.d_law_at ["f", "t"] (spD K sp_law_at) := by
  refine fn_d T.F_law_at sc_law_at (fun ds m R RX h => by unfold sp_law_at at h; first | (obtain ⟨ns, rfl, _⟩ := h; rfl) | (split at h <;> first | rfl | exact h.elim)) (fun cdv A' outer s H E hr hg => ⟨r_law_at, PDSs.nox ((pdss_cons (pds_asg (pdg_tup rfl (pdgs_cons (pdg_name 2 sc_law_at.nd rfl (by first | exact Or.inl rfl | exact Or.inr rfl)) (pdgs_cons (pdg_name 3 sc_law_at.nd rfl (by first | exact Or.inl rfl | exact Or.inr rfl)) (pdgs_cons (pdg_name 4 sc_law_at.nd rfl (by first | exact Or.inl rfl | exact Or.inr rfl)) pdgs_nil)))) (pd_v 0))
(pdss_cons (pds_if (pdt_cmp od_lt (pd_v 1) (pd_callB cd_len (by rfl) T.z_len (by decide +kernel) (pda_cons (pd_v 2) pda_nil)) (nomark _))
(pdss_one (pds_ret (pd_ix id_seq (pd_v 2) (pd_v 1))))
pdss_nil)
(pdss_cons (pds_set 5 sc_law_at.nd rfl (by first | exact Or.inl rfl | exact Or.inr rfl) (pd_op od_sub (pd_v 1) (pd_callB cd_len (by rfl) T.z_len (by decide +kernel) (pda_cons (pd_v 2) pda_nil))))
(pdss_one (pds_ret (pd_op (od_add false) (pd_ix id_seq (pd_v 3) (pd_op od_mod (pd_v 5) (pd_callB cd_len (by rfl) T.z_len (by decide +kernel) (pda_cons (pd_v 3) pda_nil)))) (pd_op (od_mul false) (pd_op od_div (pd_v 5) (pd_callB cd_len (by rfl) T.z_len (by decide +kernel) (pda_cons (pd_v 3) pda_nil))) (pd_v 4))))))))), fun ds m R RX h => v_law_at h⟩)
theorem ok_law_curve (T : Tx K mg A) : FnG P w K mg base CX0 2 A.f_law_curve A.d_law_curve ["pen"] (spD K sp_law_curve) := by
  have G_law_take : FnG P w K mg base CX0 1 A.f_law_take A.d_law_take ["pen", "many"] (spD K sp_law_take) := ok_law_take T
  refine fn_d T.F_law_curve sc_law_curve (fun ds m R RX h => by unfold sp_law_curve at h; first | (obtain ⟨ns, rfl, _⟩ := h; rfl) | (split at h <;> first | rfl | exact h.elim)) (fun cdv A' outer s H E hr hg => ⟨r_law_curve, PDSs.nox ((pdss_cons (pds_set 1 sc_law_curve.nd rfl (by first | exact Or.inl rfl | exact Or.inr rfl) (pd_call G_law_take (hr.mono (by decide)) hg (by rfl) T.g_law_take T.F_law_take.kp T.b_law_take (fun _ => passAt0) (pda_cons (pd_v 0) (pda_cons pd_int pda_nil))))
(pdss_cons (pds_set 2 sc_law_curve.nd rfl (by first | exact Or.inl rfl | exact Or.inr rfl) (pd_op od_div (pd_call G_law_take (hr.mono (by decide)) hg (by rfl) T.g_law_take T.F_law_take.kp T.b_law_take (fun _ => passAt0) (pda_cons (pd_v 0) (pda_cons pd_int pda_nil))) pd_int))
(pdss_cons (pds_set 3 sc_law_curve.nd rfl (by first | exact Or.inl rfl | exact Or.inr rfl) (pd_op (od_add false) pd_int (pd_call G_law_take (hr.mono (by decide)) hg (by rfl) T.g_law_take T.F_law_take.kp T.b_law_take (fun _ => passAt0) (pda_cons (pd_v 0) (pda_cons pd_int pda_nil)))))
(pdss_cons (pds_set 4 sc_law_curve.nd rfl (by first | exact Or.inl rfl | exact Or.inr rfl) (pd_op (od_add false) (pd_call G_law_take (hr.mono (by decide)) hg (by rfl) T.g_law_take T.F_law_take.kp T.b_law_take (fun _ => passAt0) (pda_cons (pd_v 0) (pda_cons pd_int pda_nil))) (pd_op (od_mul false) pd_int (pd_v 2))))
(pdss_cons (pds_set 5 sc_law_curve.nd rfl (by first | exact Or.inl rfl | exact Or.inr rfl) (pd_op (od_add false) (pd_op (od_add false) pd_int (pd_call G_law_take (hr.mono (by decide)) hg (by rfl) T.g_law_take T.F_law_take.kp T.b_law_take (fun _ => passAt0) (pda_cons (pd_v 0) (pda_cons pd_int pda_nil)))) (pd_op (od_mul false) pd_int (pd_v 2))))
(pdss_cons (pds_set 6 sc_law_curve.nd rfl (by first | exact Or.inl rfl | exact Or.inr rfl) (pd_lst true (pda_cons pd_int pda_nil)))
(pdss_cons (pds_for PassesOwn.never rfl (pdi_range2 (by rfl) T.z_range pd_int (pd_op (od_add false) (pd_op (od_add false) (pd_v 4) (pd_v 5)) pd_int)) (pdg_name 7 sc_law_curve.nd rfl (by first | exact Or.inl rfl | exact Or.inr rfl))
(pdss_cons (pds_set 8 sc_law_curve.nd rfl (by first | exact Or.inl rfl | exact Or.inr rfl) (pd_call G_law_take (hr.mono (by decide)) hg (by rfl) T.g_law_take T.F_law_take.kp T.b_law_take (fun _ => passAt0) (pda_cons (pd_v 0) (pda_cons (pd_op (od_add false) (pd_op (od_mul false) pd_int (pd_v 3)) pd_int) pda_nil))))
(pdss_cons (pds_if (pdt_cmp (od_eq hr.units) (pd_v 1) pd_int (nomark _))
(pdss_one (pds_set 8 sc_law_curve.nd rfl (by first | exact Or.inl rfl | exact Or.inr rfl) (pd_v 3)))
pdss_nil)
(pdss_cons (pds_if (PDW.pt (pdw_and (pdt_cmp (od_eq hr.units) (pd_v 1) pd_int (nomark _)) (pdw_and1 (pdt_cmp od_lt (pd_v 7) (pd_v 4) (nomark _)))))
(pdss_one (pds_set 8 sc_law_curve.nd rfl (by first | exact Or.inl rfl | exact Or.inr rfl) pd_int))
pdss_nil)
(pdss_cons (pds_if (PDW.pt (pdw_and (pdt_cmp (od_eq hr.units) (pd_v 1) pd_int (nomark _)) (pdw_and1 (pdt_cmp (od_eq hr.units) (pd_v 7) pd_int (nomark _)))))
(pdss_one (pds_set 8 sc_law_curve.nd rfl (by first | exact Or.inl rfl | exact Or.inr rfl) (pd_op (od_add false) (pd_v 8) (pd_op (od_mul false) pd_int (pd_v 3)))))
pdss_nil)
(pdss_cons (pds_if (PDW.pt (pdw_and (pdt_cmp (od_eq hr.units) (pd_v 1) pd_int (nomark _)) (pdw_and1 (pdt_cmp od_gt (pd_op od_mod (pd_v 8) pd_int) pd_int (nomark _)))))
(pdss_one (pds_set 8 sc_law_curve.nd rfl (by first | exact Or.inl rfl | exact Or.inr rfl) pd_int))
pdss_nil)
(pdss_cons (pds_if (pdt_cmp (od_eq hr.units) (pd_v 1) pd_int (nomark _))
(pdss_one (pds_set 8 sc_law_curve.nd rfl (by first | exact Or.inl rfl | exact Or.inr rfl) (pd_op (od_mul false) (pd_v 8) pd_int)))
pdss_nil)
(pdss_one (pds_expr (pd_lm PySem.F.plainAttrs_list PySem.F.slot_list_append PySem.F.type_list_append md_append (pd_v 6) (pda_cons (pd_op (od_add false) (pd_ix id_seq (pd_v 6) (pd_neg pd_int)) (pd_v 8)) pda_nil)))))))))))
(pdss_one (pds_frz 6 (pds_ret (pd_tup (pda_cons (pd_callT cd_tuple (by rfl) T.z_tuple (by decide +kernel) (pda_cons (pd_sl false (pd_v 6) pdo_none (pdo_some (pd_v 4))) pda_nil)) (pda_cons (pd_callT cd_tuple (by rfl) T.z_tuple (by decide +kernel) (pda_cons (pd_sl false (pd_v 6) (pdo_some (pd_v 4)) (pdo_some (pd_op (od_add false) (pd_v 4) (pd_v 5)))) pda_nil)) (pda_cons (pd_op od_sub (pd_ix id_seq (pd_v 6) (pd_op (od_add false) (pd_v 4) (pd_v 5))) (pd_ix id_seq (pd_v 6) (pd_v 4))) pda_nil))))))))))))))), fun ds m R RX h => v_law_curve h⟩)
theorem ok_law_server (T : Tx K mg A) : FnG P w K mg base CX0 3 A.f_law_server A.d_law_server ["pen", "f", "slow"] (spD K sp_law_server) := by
  have G_law_curve : FnG P w K mg base CX0 2 A.f_law_curve A.d_law_curve ["pen"] (spD K sp_law_curve) := ok_law_curve T
  have G_law_take : FnG P w K mg base CX0 1 A.f_law_take A.d_law_take ["pen", "many"] (spD K sp_law_take) := ok_law_take T
  refine fn_d T.F_law_server sc_law_server (fun ds m R RX h => by unfold sp_law_server at h; first | (obtain ⟨ns, rfl, _⟩ := h; rfl) | (split at h <;> first | rfl | exact h.elim)) (fun cdv A' outer s H E hr hg => ⟨r_law_server, PDSs.nox ((pdss_cons (pds_asg (pdg_tup rfl (pdgs_cons (pdg_name 3 sc_law_server.nd rfl (by first | exact Or.inl rfl | exact Or.inr rfl)) (pdgs_cons (pdg_name 4 sc_law_server.nd rfl (by first | exact Or.inl rfl | exact Or.inr rfl)) (pdgs_cons (pdg_name 5 sc_law_server.nd rfl (by first | exact Or.inl rfl | exact Or.inr rfl)) pdgs_nil)))) (pd_call G_law_curve (hr.mono (by decide)) hg (by rfl) T.g_law_curve T.F_law_curve.kp T.b_law_curve (fun _ => passAt0) (pda_cons (pd_v 0) pda_nil)))
(pdss_cons (pds_set 6 sc_law_server.nd rfl (by first | exact Or.inl rfl | exact Or.inr rfl) (pd_op od_div (pd_op od_sub (pd_op (od_add false) (pd_op (od_mul false) (pd_ix id_seq (pd_v 1) pd_int) (pd_callB cd_len (by rfl) T.z_len (by decide +kernel) (pda_cons (pd_v 4) pda_nil))) (pd_callB cd_len (by rfl) T.z_len (by decide +kernel) (pda_cons (pd_ix id_seq (pd_v 1) pd_int) pda_nil))) pd_int) (pd_callB cd_len (by rfl) T.z_len (by decide +kernel) (pda_cons (pd_ix id_seq (pd_v 1) pd_int) pda_nil))))
(pdss_cons (pds_set 7 sc_law_server.nd rfl (by first | exact Or.inl rfl | exact Or.inr rfl) (pd_call G_law_take (hr.mono (by decide)) hg (by rfl) T.g_law_take T.F_law_take.kp T.b_law_take (fun _ => passAt0) (pda_cons (pd_v 0) (pda_cons pd_int pda_nil))))
(pdss_cons (pds_if (pdt_val (pd_v 2))
(pdss_one (pds_set 6 sc_law_server.nd rfl (by first | exact Or.inl rfl | exact Or.inr rfl) pd_int))
(pdss_one (pds_if (pdt_cmp (od_eq hr.units) (pd_v 7) pd_int (nomark _))
(pdss_one (pds_set 5 sc_law_server.nd rfl (by first | exact Or.inl rfl | exact Or.inr rfl) (pd_callB (cd_max rfl) (by rfl) T.z_max (by decide +kernel) (pda_cons (pd_v 6) (pda_cons (pd_op od_sub (pd_ix id_seq (pd_v 4) (pd_neg pd_int)) (pd_ix id_seq (pd_v 4) pd_int)) pda_nil)))))
pdss_nil)))
(pdss_one (pds_ret (pd_tup (pda_cons (pd_v 3) (pda_cons (pd_v 4) (pda_cons (pd_callB (cd_max rfl) (by rfl) T.z_max (by decide +kernel) (pda_cons (pd_v 5) (pda_cons (pd_v 6) pda_nil))) pda_nil))))))))))), fun ds m R RX h => v_law_server h⟩)
theorem ok_law_word {X : Cx} (T : Tx X.K X.mg A) {k : Nat} {g : Addr} {cdv : Value} {s : Shared} {H : Hp} {dX : DE} (hr : Room k (X.A.deeper (envOfC "_law_word" (defScope s_law_word) s.heap.objs.size g cdv)))
    (hask : ∀ (pn : List (Addr × Obj)) (xe : Value → Shared → Prop) (Y : XS) (p1 p2 : Pos), (∀ σ, PassesAt (L2.CX X.prog X.w) ((wordCx X ["asked", "caught", "found", "e", "kinds"] "_law_word" (defScope s_law_word) g cdv s H).tr pn xe) σ (Y σ)) → PD ((wordCx X ["asked", "caught", "found", "e", "kinds"] "_law_word" (defScope s_law_word) g cdv s H).tr pn xe) Y (.Call (.Name "asked" p1) [] [] p2) dX) :
    PDSs (wordCx X ["asked", "caught", "found", "e", "kinds"] "_law_word" (defScope s_law_word) g cdv s H).nox (fun _ => E0) (defBody s_law_word) (r_law_word A.c_Endless A.c_NoBack A.c_NoCurve A.c_NoName A.c_NoNet A.c_NoRow A.c_NoStream A.c_NoText A.c_Ring A.c_TooLittle A.c_TooLong A.c_TooMuch dX) :=
  (pdss_cons (pds_set 1 sc_law_word.nd rfl (by first | exact Or.inl rfl | exact Or.inr rfl) pd_non)
(pdss_cons (pds_set 2 sc_law_word.nd rfl (by first | exact Or.inl rfl | exact Or.inr rfl) pd_non)
(pdss_cons (pds_try (cs := [A.c_NoStream, A.c_TooLong, A.c_TooMuch, A.c_TooLittle]) (i := 3) rfl rfl rfl sc_law_word.nd rfl rfl ⟨by rfl, by decide, .inl T.g_CurveError⟩ LamX.takes0 T.hc_CurveError (fun W pn xe tk _ => (pdss_one (pds_set 2 sc_law_word.nd rfl (by first | exact Or.inl rfl | exact Or.inr rfl) (hask _ _ _ _ _ (fun _ => passAt tk _))))) (fun a pn => (pdss_one (pds_set 1 sc_law_word.nd rfl (by first | exact Or.inl rfl | exact Or.inr rfl) (pd_v 3)))))
(pdss_cons (pds_if (pdt_cmp od_is (pd_v 1) pd_non (nomark _))
(pdss_one (pds_ret (pd_tup (pda_cons pd_str (pda_cons (pd_v 2) pda_nil)))))
pdss_nil)
(pdss_cons (pds_if (pdt_val (pd_callB (cd_isExT (cs := [A.c_Endless, A.c_NoBack, A.c_NoCurve, A.c_NoName, A.c_NoNet, A.c_NoRow, A.c_NoText, A.c_Ring]) (tab := [(A.c_NoStream, false), (A.c_TooLong, false), (A.c_TooMuch, false), (A.c_TooLittle, false)]) T.et_0) (by rfl) T.z_isinstance (by decide +kernel) (pda_cons (pd_v 1) (pda_cons (pd_tup (pda_cons (pd_gref (by rfl) T.g_Endless) (pda_cons (pd_gref (by rfl) T.g_NoBack) (pda_cons (pd_gref (by rfl) T.g_NoCurve) (pda_cons (pd_gref (by rfl) T.g_NoName) (pda_cons (pd_gref (by rfl) T.g_NoNet) (pda_cons (pd_gref (by rfl) T.g_NoRow) (pda_cons (pd_gref (by rfl) T.g_NoText) (pda_cons (pd_gref (by rfl) T.g_Ring) pda_nil))))))))) pda_nil))))
(pdss_one (pds_ret (pd_tup (pda_cons pd_str (pda_cons pd_non pda_nil)))))
pdss_nil)
(pdss_cons (pds_set 4 sc_law_word.nd rfl (by first | exact Or.inl rfl | exact Or.inr rfl) (pd_lst true (pda_cons (pd_callB (cd_isEx1 (tab := [(A.c_NoStream, true), (A.c_TooLong, false), (A.c_TooMuch, false), (A.c_TooLittle, false)]) T.e_NoStream) (by rfl) T.z_isinstance (by decide +kernel) (pda_cons (pd_v 1) (pda_cons (pd_gref (by rfl) T.g_NoStream) pda_nil))) (pda_cons (pd_callB (cd_isEx1 (tab := [(A.c_NoStream, false), (A.c_TooLong, true), (A.c_TooMuch, false), (A.c_TooLittle, false)]) T.e_TooLong) (by rfl) T.z_isinstance (by decide +kernel) (pda_cons (pd_v 1) (pda_cons (pd_gref (by rfl) T.g_TooLong) pda_nil))) (pda_cons (pd_callB (cd_isEx1 (tab := [(A.c_NoStream, false), (A.c_TooLong, false), (A.c_TooMuch, true), (A.c_TooLittle, false)]) T.e_TooMuch) (by rfl) T.z_isinstance (by decide +kernel) (pda_cons (pd_v 1) (pda_cons (pd_gref (by rfl) T.g_TooMuch) pda_nil))) pda_nil)))))
(pdss_cons (pds_expr (pd_lm PySem.F.plainAttrs_list PySem.F.slot_list_append PySem.F.type_list_append md_append (pd_v 4) (pda_cons (pd_callB (cd_isEx1 (tab := [(A.c_NoStream, false), (A.c_TooLong, false), (A.c_TooMuch, false), (A.c_TooLittle, true)]) T.e_TooLittle) (by rfl) T.z_isinstance (by decide +kernel) (pda_cons (pd_v 1) (pda_cons (pd_gref (by rfl) T.g_TooLittle) pda_nil))) pda_nil)))
(pdss_cons (pds_if (PDW.pt (pdw_or (pdt_cmp (od_ne hr.units) (pd_lm PySem.F.plainAttrs_list PySem.F.slot_list_count PySem.F.type_list_count (md_count (room_big hr)) (pd_v 4) (pda_cons pd_bl pda_nil)) pd_int (nomark _)) (pdw_or1 (pdt_not (pdt_val (pd_callB (cd_isExY (tab := [(A.c_NoStream, true), (A.c_TooLong, true), (A.c_TooMuch, true), (A.c_TooLittle, true)]) T.e_ValueError) (by rfl) T.z_isinstance (by decide +kernel) (pda_cons (pd_v 1) (pda_cons (pd_ty (by rfl) T.z_ValueError (by decide +kernel)) pda_nil))))))))
(pdss_one (pds_ret (pd_tup (pda_cons pd_str (pda_cons pd_non pda_nil)))))
pdss_nil)
(pdss_one (pds_ret (pd_tup (pda_cons (pd_ix id_seq (pd_lst false (pda_cons pd_str (pda_cons pd_str (pda_cons pd_str (pda_cons pd_str pda_nil))))) (pd_lm PySem.F.plainAttrs_list PySem.F.slot_list_index PySem.F.type_list_index (md_index (room_big hr)) (pd_v 4) (pda_cons pd_bl pda_nil))) (pda_cons pd_non pda_nil)))))))))))))
theorem ok_law_leave (T : Tx K mg A) : FnG P w K mg base CX0 2 A.f_law_leave A.d_law_leave ["f", "came"] (spD K sp_law_leave) := by
  have G_law_at : FnG P w K mg base CX0 1 A.f_law_at A.d_law_at ["f", "t"] (spD K sp_law_at) := ok_law_at T
  refine fn_d T.F_law_leave sc_law_leave (fun ds m R RX h => by unfold sp_law_leave at h; first | (obtain ⟨ns, rfl, _⟩ := h; rfl) | (split at h <;> first | rfl | exact h.elim)) (fun cdv A' outer s H E hr hg => ⟨r_law_leave, PDSs.nox ((pdss_cons (pds_set 2 sc_law_leave.nd rfl (by first | exact Or.inl rfl | exact Or.inr rfl) (pd_callB cd_len (by rfl) T.z_len (by decide +kernel) (pda_cons (pd_v 1) pda_nil)))
(pdss_one (pds_ret (pd_op od_sub (pd_callB (cd_min rfl) (by rfl) T.z_min (by decide +kernel) (pda_cons (pd_lc false [("s", 3)] false rfl sc_law_leave.nd (pdi_range1 (by rfl) T.z_range (pd_v 2)) (blkOk_by (own := [("s", 3)]) (N := ["f", "came", "here", "s"]) (sc := defScope s_law_leave) (by decide +kernel)) (fun _ => rfl) (fun _ _ _ _ _ => (pg_name (i := 3) sc_law_leave.nd rfl (Or.inl rfl))) (fun _ _ _ _ _ => pdts_nil) (fun _ _ _ _ _ => (pd_op (od_add false) (pd_ix id_seq (pd_v 1) (pd_v 3)) (pd_call G_law_at (hr.mono (by decide)) hg (by rfl) T.g_law_at T.F_law_at.kp T.b_law_at (fun _ => passAt0) (pda_cons (pd_v 0) (pda_cons (pd_op od_sub (pd_v 2) (pd_v 3)) pda_nil)))))) pda_nil)) (pd_ix id_seq (pd_v 1) (pd_neg pd_int))))))), fun ds m R RX h => v_law_leave h⟩)
theorem ok_law_owed (T : Tx K mg A) : FnG P w K mg base CX0 2 A.f_law_owed A.d_law_owed ["g", "came", "gone", "more"] (spD K sp_law_owed) := by
  have G_law_at : FnG P w K mg base CX0 1 A.f_law_at A.d_law_at ["f", "t"] (spD K sp_law_at) := ok_law_at T
  refine fn_d T.F_law_owed sc_law_owed (fun ds m R RX h => by unfold sp_law_owed at h; first | (obtain ⟨ns, rfl, _⟩ := h; rfl) | (split at h <;> first | rfl | exact h.elim)) (fun cdv A' outer s H E hr hg => ⟨r_law_owed, PDSs.nox ((pdss_cons (pds_set 4 sc_law_owed.nd rfl (by first | exact Or.inl rfl | exact Or.inr rfl) (pd_op (od_add false) (pd_v 1) (pd_lst false (pda_cons (pd_op (od_add false) (pd_ix id_seq (pd_v 1) (pd_neg pd_int)) (pd_v 3)) pda_nil))))
(pdss_cons (pds_set 5 sc_law_owed.nd rfl (by first | exact Or.inl rfl | exact Or.inr rfl) (pd_callB cd_len (by rfl) T.z_len (by decide +kernel) (pda_cons (pd_v 1) pda_nil)))
(pdss_one (pds_ret (pd_callB (cd_max rfl) (by rfl) T.z_max (by decide +kernel) (pda_cons pd_int (pda_cons (pd_op od_sub (pd_callB (cd_min rfl) (by rfl) T.z_min (by decide +kernel) (pda_cons (pd_lc false [("s", 6)] false rfl sc_law_owed.nd (pdi_range1 (by rfl) T.z_range (pd_op (od_add false) (pd_v 5) pd_int)) (blkOk_by (own := [("s", 6)]) (N := ["g", "came", "gone", "more", "some", "here", "s"]) (sc := defScope s_law_owed) (by decide +kernel)) (fun _ => rfl) (fun _ _ _ _ _ => (pg_name (i := 6) sc_law_owed.nd rfl (Or.inl rfl))) (fun _ _ _ _ _ => pdts_nil) (fun _ _ _ _ _ => (pd_op (od_add false) (pd_ix id_seq (pd_v 4) (pd_v 6)) (pd_call G_law_at (hr.mono (by decide)) hg (by rfl) T.g_law_at T.F_law_at.kp T.b_law_at (fun _ => passAt0) (pda_cons (pd_v 0) (pda_cons (pd_op od_sub (pd_v 5) (pd_v 6)) pda_nil)))))) pda_nil)) (pd_ix id_seq (pd_v 2) (pd_neg pd_int))) pda_nil)))))))), fun ds m R RX h => v_law_owed h⟩)
theorem ok_law_odd (T : Tx K mg A) : FnG P w K mg base CX0 2 A.f_law_odd A.d_law_odd ["pen"] (spD K sp_law_odd) := by
  have G_law_take : FnG P w K mg base CX0 1 A.f_law_take A.d_law_take ["pen", "many"] (spD K sp_law_take) := ok_law_take T
  refine fn_d T.F_law_odd sc_law_odd (fun ds m R RX h => by unfold sp_law_odd at h; first | (obtain ⟨ns, rfl, _⟩ := h; rfl) | (split at h <;> first | rfl | exact h.elim)) (fun cdv A' outer s H E hr hg => ⟨r_law_odd, PDSs.nox ((pdss_cons (pds_set 1 sc_law_odd.nd rfl (by first | exact Or.inl rfl | exact Or.inr rfl) (pd_lst false (pda_cons pd_non (pda_cons pd_bl (pda_cons pd_bl (pda_cons pd_str (pda_cons (pd_neg pd_int) (pda_cons (pd_lst false (pda_cons pd_int pda_nil)) (pda_cons (pd_tup (pda_cons pd_int pda_nil)) (pda_cons pd_dnew (pda_cons (pd_op od_sub (pd_op od_sub pd_int (pd_op od_pow pd_int pd_int)) (pd_call G_law_take (hr.mono (by decide)) hg (by rfl) T.g_law_take T.F_law_take.kp T.b_law_take (fun _ => passAt0) (pda_cons (pd_v 0) (pda_cons pd_int pda_nil)))) pda_nil)))))))))))
(pdss_one (pds_ret (pd_ix id_seq (pd_v 1) (pd_call G_law_take (hr.mono (by decide)) hg (by rfl) T.g_law_take T.F_law_take.kp T.b_law_take (fun _ => passAt0) (pda_cons (pd_v 0) (pda_cons (pd_callB cd_len (by rfl) T.z_len (by decide +kernel) (pda_cons (pd_v 1) pda_nil)) pda_nil)))))))), fun ds m R RX h => v_law_odd h⟩)
theorem ok_law_asked (T : Tx K mg A) : FnG P w K mg base CX0 3 A.f_law_asked A.d_law_asked ["pen", "f", "g", "came", "gone"] (spD K sp_law_asked) := by
  have G_law_take : FnG P w K mg base CX0 1 A.f_law_take A.d_law_take ["pen", "many"] (spD K sp_law_take) := ok_law_take T
  have G_law_odd : FnG P w K mg base CX0 2 A.f_law_odd A.d_law_odd ["pen"] (spD K sp_law_odd) := ok_law_odd T
  have G_law_leave : FnG P w K mg base CX0 2 A.f_law_leave A.d_law_leave ["f", "came"] (spD K sp_law_leave) := ok_law_leave T
  have G_law_owed : FnG P w K mg base CX0 2 A.f_law_owed A.d_law_owed ["g", "came", "gone", "more"] (spD K sp_law_owed) := ok_law_owed T
  refine fn_d T.F_law_asked sc_law_asked (fun ds m R RX h => by unfold sp_law_asked at h; first | (obtain ⟨ns, rfl, _⟩ := h; rfl) | (split at h <;> first | rfl | exact h.elim)) (fun cdv A' outer s H E hr hg => ⟨r_law_asked, PDSs.nox ((pdss_cons (pds_set 5 sc_law_asked.nd rfl (by first | exact Or.inl rfl | exact Or.inr rfl) (pd_call G_law_take (hr.mono (by decide)) hg (by rfl) T.g_law_take T.F_law_take.kp T.b_law_take (fun _ => passAt0) (pda_cons (pd_v 0) (pda_cons pd_int pda_nil))))
(pdss_cons (pds_set 6 sc_law_asked.nd rfl (by first | exact Or.inl rfl | exact Or.inr rfl) (pd_call G_law_take (hr.mono (by decide)) hg (by rfl) T.g_law_take T.F_law_take.kp T.b_law_take (fun _ => passAt0) (pda_cons (pd_v 0) (pda_cons pd_int pda_nil))))
(pdss_cons (pds_set 7 sc_law_asked.nd rfl (by first | exact Or.inl rfl | exact Or.inr rfl) (pd_ix id_seq (pd_lst false (pda_cons pd_int (pda_cons pd_int (pda_cons pd_int (pda_cons (pd_op od_pow pd_int pd_int) pda_nil))))) (pd_call G_law_take (hr.mono (by decide)) hg (by rfl) T.g_law_take T.F_law_take.kp T.b_law_take (fun _ => passAt0) (pda_cons (pd_v 0) (pda_cons pd_int pda_nil)))))
(pdss_cons (pds_set 8 sc_law_asked.nd rfl (by first | exact Or.inl rfl | exact Or.inr rfl) (pd_call G_law_odd (hr.mono (by decide)) hg (by rfl) T.g_law_odd T.F_law_odd.kp T.b_law_odd (fun _ => passAt0) (pda_cons (pd_v 0) pda_nil)))
(pdss_cons (pds_set 9 sc_law_asked.nd rfl (by first | exact Or.inl rfl | exact Or.inr rfl) (pd_call G_law_leave (hr.mono (by decide)) hg (by rfl) T.g_law_leave T.F_law_leave.kp T.b_law_leave (fun _ => passAt0) (pda_cons (pd_v 1) (pda_cons (pd_v 3) pda_nil))))
(pdss_cons (pds_set 10 sc_law_asked.nd rfl (by first | exact Or.inl rfl | exact Or.inr rfl) (pd_ix id_seq (pd_lst false (pda_cons (pd_v 9) (pda_cons (pd_op od_div (pd_op (od_mul false) (pd_v 9) (pd_v 6)) pd_int) (pda_cons (pd_callB (cd_min rfl) (by rfl) T.z_min (by decide +kernel) (pda_cons (pd_v 9) (pda_cons (pd_v 6) pda_nil))) (pda_cons pd_int pda_nil))))) (pd_call G_law_take (hr.mono (by decide)) hg (by rfl) T.g_law_take T.F_law_take.kp T.b_law_take (fun _ => passAt0) (pda_cons (pd_v 0) (pda_cons pd_int pda_nil)))))
(pdss_cons (pds_set 11 sc_law_asked.nd rfl (by first | exact Or.inl rfl | exact Or.inr rfl) (pd_call G_law_owed (hr.mono (by decide)) hg (by rfl) T.g_law_owed T.F_law_owed.kp T.b_law_owed (fun _ => passAt0) (pda_cons (pd_v 2) (pda_cons (pd_v 3) (pda_cons (pd_v 4) (pda_cons (pd_v 10) pda_nil))))))
(pdss_cons (pds_set 12 sc_law_asked.nd rfl (by first | exact Or.inl rfl | exact Or.inr rfl) (pd_op (od_add false) (pd_op od_sub (pd_ix id_seq (pd_v 3) (pd_neg pd_int)) (pd_ix id_seq (pd_v 4) (pd_neg pd_int))) (pd_v 10)))
(pdss_cons (pds_set 13 sc_law_asked.nd rfl (by first | exact Or.inl rfl | exact Or.inr rfl) (pd_ix id_seq (pd_lst false (pda_cons (pd_v 11) (pda_cons (pd_op (od_add false) (pd_v 11) (pd_op od_div (pd_op (od_mul false) (pd_op od_sub (pd_v 12) (pd_v 11)) (pd_v 6)) pd_int)) (pda_cons (pd_v 12) pda_nil)))) (pd_call G_law_take (hr.mono (by decide)) hg (by rfl) T.g_law_take T.F_law_take.kp T.b_law_take (fun _ => passAt0) (pda_cons (pd_v 0) (pda_cons pd_int pda_nil)))))
(pdss_cons (pds_if (pdt_cmp (od_eq hr.units) (pd_v 5) pd_int (nomark _))
(pdss_one (pds_ret (pd_tup (pda_cons (pd_op (od_add false) (pd_op (od_add false) (pd_v 9) pd_int) (pd_v 7)) (pda_cons (pd_ix id_seq (pd_lst false (pda_cons pd_int (pda_cons (pd_v 12) (pda_cons (pd_op (od_add false) (pd_v 12) (pd_v 7)) pda_nil)))) (pd_op od_mod (pd_v 6) pd_int)) (pda_cons pd_str pda_nil))))))
pdss_nil)
(pdss_cons (pds_if (pdt_cmp (od_eq hr.units) (pd_v 5) pd_int (nomark _))
(pdss_one (pds_ret (pd_tup (pda_cons (pd_v 10) (pda_cons (pd_op (od_add false) (pd_op (od_add false) (pd_v 12) pd_int) (pd_v 7)) (pda_cons pd_str pda_nil))))))
pdss_nil)
(pdss_cons (pds_if (PDW.pt (pdw_and (pdt_cmp (od_eq hr.units) (pd_v 5) pd_int (nomark _)) (pdw_and1 (pdt_cmp od_gt (pd_v 11) pd_int (nomark _)))))
(pdss_one (pds_ret (pd_tup (pda_cons (pd_v 10) (pda_cons (pd_ix id_seq (pd_lst false (pda_cons (pd_op od_sub (pd_v 11) pd_int) (pda_cons pd_int pda_nil))) (pd_op od_mod (pd_v 6) pd_int)) (pda_cons pd_str pda_nil))))))
pdss_nil)
(pdss_cons (pds_if (pdt_cmp (od_eq hr.units) (pd_v 5) pd_int (nomark _))
(pdss_one (pds_ret (pd_ix id_seq (pd_lst false (pda_cons (pd_tup (pda_cons (pd_v 8) (pda_cons (pd_v 13) (pda_cons pd_str pda_nil)))) (pda_cons (pd_tup (pda_cons (pd_v 8) (pda_cons (pd_op (od_add false) (pd_op (od_add false) (pd_v 12) pd_int) (pd_v 7)) (pda_cons pd_str pda_nil)))) pda_nil))) (pd_op od_mod (pd_v 6) pd_int))))
pdss_nil)
(pdss_cons (pds_if (pdt_cmp (od_eq hr.units) (pd_v 5) pd_int (nomark _))
(pdss_one (pds_ret (pd_ix id_seq (pd_lst false (pda_cons (pd_tup (pda_cons (pd_v 10) (pda_cons (pd_v 8) (pda_cons pd_str pda_nil)))) (pda_cons (pd_tup (pda_cons (pd_op (od_add false) (pd_op (od_add false) (pd_v 9) pd_int) (pd_v 7)) (pda_cons (pd_v 8) (pda_cons pd_str pda_nil)))) (pda_cons (pd_tup (pda_cons (pd_v 8) (pda_cons (pd_v 8) (pda_cons pd_str pda_nil)))) pda_nil)))) (pd_op od_mod (pd_v 6) pd_int))))
pdss_nil)
(pdss_one (pds_ret (pd_tup (pda_cons (pd_v 10) (pda_cons (pd_v 13) (pda_cons pd_str pda_nil))))))))))))))))))))), fun ds m R RX h => v_law_asked h⟩)
theorem ok_law_stands (T : Tx K mg A) : FnG P w K mg base CX0 4 A.f_law_stands A.d_law_stands ["run", "f", "g", "came", "gone"] (spD K (sp_law_stands A.c_Meter A.c_Run)) := by
  have G_Run_told : FnG P w K mg base CX0 2 A.f_Run_told A.d_Run_told ["self"] (spD K (sp_Run_told A.c_Meter A.c_Run)) := ok_Run_told T
  have G_Run_leave : FnG P w K mg base CX0 3 A.f_Run_leave A.d_Run_leave ["self"] (spD K (sp_Run_leave A.c_Meter A.c_Run)) := ok_Run_leave T
  have G_Run_held : FnG P w K mg base CX0 1 A.f_Run_held A.d_Run_held ["self"] (spD K (sp_Run_held A.c_Meter A.c_Run)) := ok_Run_held T
  have G_law_leave : FnG P w K mg base CX0 2 A.f_law_leave A.d_law_leave ["f", "came"] (spD K sp_law_leave) := ok_law_leave T
  refine fn_d T.F_law_stands sc_law_stands (fun ds m R RX h => by unfold sp_law_stands at h; first | (obtain ⟨ns, rfl, _⟩ := h; rfl) | (split at h <;> first | rfl | exact h.elim)) (fun cdv A' outer s H E hr hg => ⟨r_law_stands A.c_Meter A.c_Run, PDSs.nox ((pdss_cons (pds_set 5 sc_law_stands.nd rfl (by first | exact Or.inl rfl | exact Or.inr rfl) (pd_tup (pda_cons (pd_lc false [("t", 6)] false rfl sc_law_stands.nd (pdi_range2 (by rfl) T.z_range pd_int (pd_callB cd_len (by rfl) T.z_len (by decide +kernel) (pda_cons (pd_v 3) pda_nil))) (blkOk_by (own := [("t", 6)]) (N := ["run", "f", "g", "came", "gone", "due", "t", "turn", "found"]) (sc := defScope s_law_stands) (by decide +kernel)) (fun _ => rfl) (fun _ _ _ _ _ => (pg_name (i := 6) sc_law_stands.nd rfl (Or.inl rfl))) (fun _ _ _ _ _ => pdts_nil) (fun _ _ _ _ _ => (pd_op od_sub (pd_ix id_seq (pd_v 3) (pd_v 6)) (pd_ix id_seq (pd_v 3) (pd_op od_sub (pd_v 6) pd_int))))) (pda_cons (pd_lc false [("t", 6)] false rfl sc_law_stands.nd (pdi_range2 (by rfl) T.z_range pd_int (pd_callB cd_len (by rfl) T.z_len (by decide +kernel) (pda_cons (pd_v 4) pda_nil))) (blkOk_by (own := [("t", 6)]) (N := ["run", "f", "g", "came", "gone", "due", "t", "turn", "found"]) (sc := defScope s_law_stands) (by decide +kernel)) (fun _ => rfl) (fun _ _ _ _ _ => (pg_name (i := 6) sc_law_stands.nd rfl (Or.inl rfl))) (fun _ _ _ _ _ => pdts_nil) (fun _ _ _ _ _ => (pd_op od_sub (pd_ix id_seq (pd_v 4) (pd_v 6)) (pd_ix id_seq (pd_v 4) (pd_op od_sub (pd_v 6) pd_int))))) pda_nil))))
(pdss_cons (pds_for PassesOwn.never rfl (pdi_range1 (by rfl) T.z_range pd_int) (pdg_name 7 sc_law_stands.nd rfl (by first | exact Or.inl rfl | exact Or.inr rfl))
(pdss_cons (pds_set 8 sc_law_stands.nd rfl (by first | exact Or.inl rfl | exact Or.inr rfl) (pd_meth0 (pd_v 0) T.cl_Run T.m_Run_told G_Run_told (hr.mono (by decide)) hg T.b_Run_told (fun _ => passAt0)))
(pdss_cons (pds_if (pdt_cmp (od_ne hr.units) (pd_callB (cd_repr hg hr.units) (by rfl) T.z_repr (by decide +kernel) (pda_cons (pd_v 8) pda_nil)) (pd_callB (cd_repr hg hr.units) (by rfl) T.z_repr (by decide +kernel) (pda_cons (pd_v 5) pda_nil)) (nomark _))
(pdss_one (pds_ret pd_bl))
pdss_nil)
(pdss_cons (pds_expr (pd_lm PySem.F.plainAttrs_list PySem.F.slot_list_append PySem.F.type_list_append md_append (pd_ix id_seq (pd_v 8) pd_int) (pda_cons pd_int pda_nil)))
(pdss_one (pds_expr (pd_lm0 PySem.F.plainAttrs_list PySem.F.slot_list_clear PySem.F.type_list_clear md_clear (pd_ix id_seq (pd_v 8) pd_int))))))))
(pdss_one (pds_ret (pd_cmp (od_eq hr.units) (pd_callB (cd_repr hg hr.units) (by rfl) T.z_repr (by decide +kernel) (pda_cons (pd_tup (pda_cons (pd_meth0 (pd_v 0) T.cl_Run T.m_Run_leave G_Run_leave (hr.mono (by decide)) hg T.b_Run_leave (fun _ => passAt0)) (pda_cons (pd_meth0 (pd_v 0) T.cl_Run T.m_Run_held G_Run_held (hr.mono (by decide)) hg T.b_Run_held (fun _ => passAt0)) pda_nil))) pda_nil)) (pd_callB (cd_repr hg hr.units) (by rfl) T.z_repr (by decide +kernel) (pda_cons (pd_tup (pda_cons (pd_call G_law_leave (hr.mono (by decide)) hg (by rfl) T.g_law_leave T.F_law_leave.kp T.b_law_leave (fun _ => passAt0) (pda_cons (pd_v 1) (pda_cons (pd_v 3) pda_nil))) (pda_cons (pd_op od_sub (pd_ix id_seq (pd_v 3) (pd_neg pd_int)) (pd_ix id_seq (pd_v 4) (pd_neg pd_int))) pda_nil))) pda_nil)) (nomark _))))))), fun ds m R RX h => v_law_stands h⟩)
theorem ok_law_owes (T : Tx K mg A) (TB_law_owes : LamX.TabB base mg A.q_law_owes A.p_law_owes) : FnG P w K mg base CX0 7 A.f_law_owes A.d_law_owes ["run", "f", "g", "came", "gone", "come"] (spD K (sp_law_owes A.c_Meter A.c_Run A.p_law_owes)) := by
  have G_law_leave : FnG P w K mg base CX0 2 A.f_law_leave A.d_law_leave ["f", "came"] (spD K sp_law_leave) := ok_law_leave T
  have G_law_owed : FnG P w K mg base CX0 2 A.f_law_owed A.d_law_owed ["g", "came", "gone", "more"] (spD K sp_law_owed) := ok_law_owed T
  have G_Run_owed : FnG P w K mg base (L2.CX P w) 4 A.f_Run_owed A.d_Run_owed ["self", "come"] (spD K (sp_Run_owed A.c_Meter A.c_Run A.c_TooMuch A.c_TooLittle A.c_NoStream A.c_TooLong)) := ok_Run_owed T
  refine fn_dc T.F_law_owes sc_law_owes (fun ds m R RX h => by unfold sp_law_owes at h; first | (obtain ⟨ns, rfl, _⟩ := h; rfl) | (split at h <;> first | rfl | exact h.elim)) (fun cdv hcv A' outer s H E hr hg => ⟨r_law_owes A.c_Endless A.c_Meter A.c_NoBack A.c_NoCurve A.c_NoName A.c_NoNet A.c_NoRow A.c_NoStream A.c_NoText A.c_Ring A.c_Run A.c_TooLittle A.c_TooLong A.c_TooMuch A.p_law_owes, PDSs.nox ((pdss_cons (pds_set 6 sc_law_owes.nd rfl (by first | exact Or.inl rfl | exact Or.inr rfl) (pd_tup (pda_cons pd_str (pda_cons pd_non pda_nil))))
(pdss_cons (pds_if (PDW.pt (pdw_and (pdt_val (pd_isi .int (by rfl) T.z_isinstance (by decide +kernel) (pd_v 5) (by rfl) T.z_int (by decide +kernel))) (pdw_and (pdt_not (pdt_val (pd_isi .bool (by rfl) T.z_isinstance (by decide +kernel) (pd_v 5) (by rfl) T.z_bool (by decide +kernel)))) (pdw_and1 (pdt_cmp od_ge (pd_v 5) pd_int (nomark _))))))
(pdss_cons (pds_set 6 sc_law_owes.nd rfl (by first | exact Or.inl rfl | exact Or.inr rfl) (pd_tup (pda_cons pd_str (pda_cons pd_non pda_nil))))
(pdss_one (pds_if (pdt_cmp od_le (pd_v 5) (pd_call G_law_leave (hr.mono (by decide)) hg (by rfl) T.g_law_leave T.F_law_leave.kp T.b_law_leave (fun _ => passAt0) (pda_cons (pd_v 1) (pda_cons (pd_v 3) pda_nil))) (nomark _))
(pdss_one (pds_set 6 sc_law_owes.nd rfl (by first | exact Or.inl rfl | exact Or.inr rfl) (pd_tup (pda_cons pd_str (pda_cons (pd_call G_law_owed (hr.mono (by decide)) hg (by rfl) T.g_law_owed T.F_law_owed.kp T.b_law_owed (fun _ => passAt0) (pda_cons (pd_v 2) (pda_cons (pd_v 3) (pda_cons (pd_v 4) (pda_cons (pd_v 5) pda_nil))))) pda_nil)))))
pdss_nil)))
pdss_nil)
(pdss_one (pds_ret (pd_cmp (od_eq hr.units) (pd_callB (cd_repr hg hr.units) (by rfl) T.z_repr (by decide +kernel) (pda_cons (pd_wordF (k := 4) T.F_law_word T.b_law_word sc_law_word rfl rfl (Or.inl rfl) (by rfl) T.g_law_word (fun cdv f c' s H dX hr' hask => ok_law_word T hr' hask) TB_law_owes (hcv.symm.trans T.tab_law_owes) (hr.mono (by decide)) hg (LamX.lamS_by (sc := defScope s_law_owes) (by decide +kernel)) rfl (fun _ _ _ _ _ => rfl) (fun E A2 outer2 s2 H2 f2 c2 hr hg => (pd_methX (pd_v 0) T.cl_Run T.m_Run_owed G_Run_owed (hr.mono (by decide)) hg T.b_Run_owed (fun _ => passAt (takes_of rfl rfl rfl rfl) _) (pda_cons (pd_v 5) pda_nil)))) pda_nil)) (pd_callB (cd_repr hg hr.units) (by rfl) T.z_repr (by decide +kernel) (pda_cons (pd_v 6) pda_nil)) (nomark _))))))), fun ds m R RX h => v_law_owes h⟩)
theorem ok_law_done (T : Tx K mg A) (TB_law_owes : LamX.TabB base mg A.q_law_owes A.p_law_owes) (TB_law_done : LamX.TabB base mg A.q_law_done A.p_law_done) : FnG P w K mg base CX0 8 A.f_law_done A.d_law_done ["pen", "run", "f", "g", "came", "gone"] (spD K (sp_law_done A.c_Meter A.c_Run A.p_law_owes A.p_law_done)) := by
  have G_law_take : FnG P w K mg base CX0 1 A.f_law_take A.d_law_take ["pen", "many"] (spD K sp_law_take) := ok_law_take T
  have G_law_asked : FnG P w K mg base CX0 3 A.f_law_asked A.d_law_asked ["pen", "f", "g", "came", "gone"] (spD K sp_law_asked) := ok_law_asked T
  have G_law_stands : FnG P w K mg base CX0 4 A.f_law_stands A.d_law_stands ["run", "f", "g", "came", "gone"] (spD K (sp_law_stands A.c_Meter A.c_Run)) := ok_law_stands T
  have G_law_leave : FnG P w K mg base CX0 2 A.f_law_leave A.d_law_leave ["f", "came"] (spD K sp_law_leave) := ok_law_leave T
  have G_law_owes : FnG P w K mg base CX0 7 A.f_law_owes A.d_law_owes ["run", "f", "g", "came", "gone", "come"] (spD K (sp_law_owes A.c_Meter A.c_Run A.p_law_owes)) := ok_law_owes T TB_law_owes
  have G_Run_turn : FnG P w K mg base (L2.CX P w) 5 A.f_Run_turn A.d_Run_turn ["self", "come", "go"] (spD K (sp_Run_turn A.c_Meter A.c_Run A.c_TooMuch A.c_TooLittle A.c_NoStream A.c_TooLong)) := ok_Run_turn T
  refine fn_dc T.F_law_done sc_law_done (fun ds m R RX h => by unfold sp_law_done at h; first | (obtain ⟨ns, rfl, _⟩ := h; rfl) | (split at h <;> first | rfl | exact h.elim)) (fun cdv hcv A' outer s H E hr hg => ⟨r_law_done A.c_Endless A.c_Meter A.c_NoBack A.c_NoCurve A.c_NoName A.c_NoNet A.c_NoRow A.c_NoStream A.c_NoText A.c_Ring A.c_Run A.c_TooLittle A.c_TooLong A.c_TooMuch A.p_law_done A.p_law_owes, PDSs.nox ((pdss_cons (pds_set 6 sc_law_done.nd rfl (by first | exact Or.inl rfl | exact Or.inr rfl) (pd_call G_law_take (hr.mono (by decide)) hg (by rfl) T.g_law_take T.F_law_take.kp T.b_law_take (fun _ => passAt0) (pda_cons (pd_v 0) (pda_cons pd_int pda_nil))))
(pdss_cons (pds_set 7 sc_law_done.nd rfl (by first | exact Or.inl rfl | exact Or.inr rfl) (pd_call G_law_take (hr.mono (by decide)) hg (by rfl) T.g_law_take T.F_law_take.kp T.b_law_take (fun _ => passAt0) (pda_cons (pd_v 0) (pda_cons pd_int pda_nil))))
(pdss_cons (pds_asg (pdg_tup rfl (pdgs_cons (pdg_name 8 sc_law_done.nd rfl (by first | exact Or.inl rfl | exact Or.inr rfl)) (pdgs_cons (pdg_name 9 sc_law_done.nd rfl (by first | exact Or.inl rfl | exact Or.inr rfl)) (pdgs_cons (pdg_name 10 sc_law_done.nd rfl (by first | exact Or.inl rfl | exact Or.inr rfl)) pdgs_nil)))) (pd_call G_law_asked (hr.mono (by decide)) hg (by rfl) T.g_law_asked T.F_law_asked.kp T.b_law_asked (fun _ => passAt0) (pda_cons (pd_v 0) (pda_cons (pd_v 2) (pda_cons (pd_v 3) (pda_cons (pd_v 4) (pda_cons (pd_v 5) pda_nil)))))))
(pdss_cons (pds_set 11 sc_law_done.nd rfl (by first | exact Or.inl rfl | exact Or.inr rfl) (pd_call G_law_take (hr.mono (by decide)) hg (by rfl) T.g_law_take T.F_law_take.kp T.b_law_take (fun _ => passAt0) (pda_cons (pd_v 0) (pda_cons (pd_op (od_add false) pd_int (pd_call G_law_leave (hr.mono (by decide)) hg (by rfl) T.g_law_leave T.F_law_leave.kp T.b_law_leave (fun _ => passAt0) (pda_cons (pd_v 2) (pda_cons (pd_v 4) pda_nil)))) pda_nil))))
(pdss_cons (pds_if (PDW.pt (pdw_and (pdt_cmp od_lt (pd_v 6) pd_int (nomark _)) (pdw_and1 (pdt_not (pdt_val (pd_call G_law_owes (hr.mono (by decide)) hg (by rfl) T.g_law_owes T.F_law_owes.kp T.b_law_owes (fun _ => passAt0) (pda_cons (pd_v 1) (pda_cons (pd_v 2) (pda_cons (pd_v 3) (pda_cons (pd_v 4) (pda_cons (pd_v 5) (pda_cons (pd_ix id_seq (pd_lst false (pda_cons (pd_v 8) (pda_cons (pd_v 11) pda_nil))) (pd_v 6)) pda_nil))))))))))))
(pdss_one (pds_ret pd_bl))
pdss_nil)
(pdss_cons (pds_set 12 sc_law_done.nd rfl (by first | exact Or.inl rfl | exact Or.inr rfl) (pd_wordF (k := 5) T.F_law_word T.b_law_word sc_law_word rfl rfl (Or.inl rfl) (by rfl) T.g_law_word (fun cdv f c' s H dX hr' hask => ok_law_word T hr' hask) TB_law_done (hcv.symm.trans T.tab_law_done) (hr.mono (by decide)) hg (LamX.lamS_by (sc := defScope s_law_done) (by decide +kernel)) rfl (fun _ _ _ _ _ => rfl) (fun E A2 outer2 s2 H2 f2 c2 hr hg => (pd_methX (pd_v 1) T.cl_Run T.m_Run_turn G_Run_turn (hr.mono (by decide)) hg T.b_Run_turn (fun _ => passAt (takes_of rfl rfl rfl rfl) _) (pda_cons (pd_v 8) (pda_cons (pd_v 9) pda_nil))))))
(pdss_cons (pds_if (pdt_cmp (od_eq hr.units) (pd_v 10) pd_str (nomark _))
(pdss_cons (pds_expr (pd_lm PySem.F.plainAttrs_list PySem.F.slot_list_append PySem.F.type_list_append md_append (pd_v 4) (pda_cons (pd_op (od_add false) (pd_ix id_seq (pd_v 4) (pd_neg pd_int)) (pd_v 8)) pda_nil)))
(pdss_cons (pds_expr (pd_lm PySem.F.plainAttrs_list PySem.F.slot_list_append PySem.F.type_list_append md_append (pd_v 5) (pda_cons (pd_op (od_add false) (pd_ix id_seq (pd_v 5) (pd_neg pd_int)) (pd_v 9)) pda_nil)))
(pdss_one (pds_set 12 sc_law_done.nd rfl (by first | exact Or.inl rfl | exact Or.inr rfl) (pd_tup (pda_cons (pd_ix id_seq (pd_v 12) pd_int) (pda_cons (pd_cmp (od_eq hr.units) (pd_callB (cd_repr hg hr.units) (by rfl) T.z_repr (by decide +kernel) (pda_cons (pd_ix id_seq (pd_v 12) pd_int) pda_nil)) (pd_callB (cd_repr hg hr.units) (by rfl) T.z_repr (by decide +kernel) (pda_cons (pd_op od_sub (pd_ix id_seq (pd_v 4) (pd_neg pd_int)) (pd_ix id_seq (pd_v 5) (pd_neg pd_int))) pda_nil)) (nomark _)) pda_nil)))))))
pdss_nil)
(pdss_cons (pds_if (pdt_cmp (od_ne hr.units) (pd_v 12) (pd_tup (pda_cons (pd_v 10) (pda_cons (pd_ix id_seq (pd_lst false (pda_cons pd_non (pda_cons pd_bl pda_nil))) (pd_callT cd_int (by rfl) T.z_int (by decide +kernel) (pda_cons (pd_cmp (od_eq hr.units) (pd_v 10) pd_str (nomark _)) pda_nil))) pda_nil))) (nomark _))
(pdss_one (pds_ret pd_bl))
pdss_nil)
(pdss_one (pds_ret (pd_or (pd_cmp od_gt (pd_v 7) pd_int (nomark _)) (pd_one (pd_call G_law_stands (hr.mono (by decide)) hg (by rfl) T.g_law_stands T.F_law_stands.kp T.b_law_stands (fun _ => passAt0) (pda_cons (pd_v 1) (pda_cons (pd_v 2) (pda_cons (pd_v 3) (pda_cons (pd_v 4) (pda_cons (pd_v 5) pda_nil))))))))))))))))))), fun ds m R RX h => v_law_done h⟩)
theorem ok_law_filled (T : Tx K mg A) (TB_law_owes : LamX.TabB base mg A.q_law_owes A.p_law_owes) (TB_law_filled : LamX.TabB base mg A.q_law_filled A.p_law_filled) : FnG P w K mg base CX0 8 A.f_law_filled A.d_law_filled ["run", "f", "g", "came", "gone", "odd"] (spD K (sp_law_filled A.c_Meter A.c_Run A.p_law_owes A.p_law_filled)) := by
  have G_law_leave : FnG P w K mg base CX0 2 A.f_law_leave A.d_law_leave ["f", "came"] (spD K sp_law_leave) := ok_law_leave T
  have G_Run_turn : FnG P w K mg base (L2.CX P w) 5 A.f_Run_turn A.d_Run_turn ["self", "come", "go"] (spD K (sp_Run_turn A.c_Meter A.c_Run A.c_TooMuch A.c_TooLittle A.c_NoStream A.c_TooLong)) := ok_Run_turn T
  have G_law_stands : FnG P w K mg base CX0 4 A.f_law_stands A.d_law_stands ["run", "f", "g", "came", "gone"] (spD K (sp_law_stands A.c_Meter A.c_Run)) := ok_law_stands T
  have G_law_owes : FnG P w K mg base CX0 7 A.f_law_owes A.d_law_owes ["run", "f", "g", "came", "gone", "come"] (spD K (sp_law_owes A.c_Meter A.c_Run A.p_law_owes)) := ok_law_owes T TB_law_owes
  have G_law_at : FnG P w K mg base CX0 1 A.f_law_at A.d_law_at ["f", "t"] (spD K sp_law_at) := ok_law_at T
  refine fn_dc T.F_law_filled sc_law_filled (fun ds m R RX h => by unfold sp_law_filled at h; first | (obtain ⟨ns, rfl, _⟩ := h; rfl) | (split at h <;> first | rfl | exact h.elim)) (fun cdv hcv A' outer s H E hr hg => ⟨r_law_filled A.c_Endless A.c_Meter A.c_NoBack A.c_NoCurve A.c_NoName A.c_NoNet A.c_NoRow A.c_NoStream A.c_NoText A.c_Ring A.c_Run A.c_TooLittle A.c_TooLong A.c_TooMuch A.p_law_filled A.p_law_owes, PDSs.nox ((pdss_cons (pds_set 6 sc_law_filled.nd rfl (by first | exact Or.inl rfl | exact Or.inr rfl) (pd_callT (cd_list false) (by rfl) T.z_list (by decide +kernel) (pda_cons (pd_v 3) pda_nil)))
(pdss_cons (pds_while PassesOwn.never (pdt_cmp od_lt (pd_callB cd_len (by rfl) T.z_len (by decide +kernel) (pda_cons (pd_v 3) pda_nil)) pd_int (nomark _))
(pdss_cons (pds_set 7 sc_law_filled.nd rfl (by first | exact Or.inl rfl | exact Or.inr rfl) (pd_callB cd_len (by rfl) T.z_len (by decide +kernel) (pda_cons (pd_v 3) pda_nil)))
(pdss_cons (pds_set 8 sc_law_filled.nd rfl (by first | exact Or.inl rfl | exact Or.inr rfl) (pd_callB (cd_min rfl) (by rfl) T.z_min (by decide +kernel) (pda_cons (pd_lc false [("s", 9)] false rfl sc_law_filled.nd (pdi_range1 (by rfl) T.z_range (pd_callB cd_len (by rfl) T.z_len (by decide +kernel) (pda_cons (pd_v 6) pda_nil))) (blkOk_by (own := [("s", 9)]) (N := ["run", "f", "g", "came", "gone", "odd", "early", "here", "must", "s", "most", "words", "come", "go"]) (sc := defScope s_law_filled) (by decide +kernel)) (fun _ => rfl) (fun _ _ _ _ _ => (pg_name (i := 9) sc_law_filled.nd rfl (Or.inl rfl))) (fun _ _ _ _ _ => pdts_nil) (fun _ _ _ _ _ => (pd_op (od_add false) (pd_ix id_seq (pd_v 6) (pd_v 9)) (pd_call G_law_at (hr.mono (by decide)) hg (by rfl) T.g_law_at T.F_law_at.kp T.b_law_at (fun _ => passAt0) (pda_cons (pd_v 2) (pda_cons (pd_op od_sub (pd_v 7) (pd_v 9)) pda_nil)))))) pda_nil)))
(pdss_cons (pds_expr (pd_lm PySem.F.plainAttrs_list PySem.F.slot_list_append PySem.F.type_list_append md_append (pd_v 4) (pda_cons (pd_callB (cd_max rfl) (by rfl) T.z_max (by decide +kernel) (pda_cons (pd_ix id_seq (pd_v 4) (pd_neg pd_int)) (pda_cons (pd_callB (cd_min rfl) (by rfl) T.z_min (by decide +kernel) (pda_cons (pd_v 8) (pda_cons (pd_ix id_seq (pd_v 3) (pd_neg pd_int)) pda_nil))) pda_nil))) pda_nil)))
(pdss_cons (pds_expr (pd_lm PySem.F.plainAttrs_list PySem.F.slot_list_append PySem.F.type_list_append md_append (pd_v 3) (pda_cons (pd_ix id_seq (pd_v 3) (pd_neg pd_int)) pda_nil)))
(pdss_one (pds_if (pdt_cmp (od_ne hr.units) (pd_meth (pd_v 0) T.cl_Run T.m_Run_turn G_Run_turn (hr.mono (by decide)) hg T.b_Run_turn (fun _ => passAtL) (pda_cons pd_int (pda_cons (pd_op od_sub (pd_ix id_seq (pd_v 4) (pd_neg pd_int)) (pd_ix id_seq (pd_v 4) (pd_neg pd_int))) pda_nil))) (pd_op od_sub (pd_ix id_seq (pd_v 3) (pd_neg pd_int)) (pd_ix id_seq (pd_v 4) (pd_neg pd_int))) (nomark _))
(pdss_one (pds_ret pd_bl))
pdss_nil)))))))
(pdss_cons (pds_set 7 sc_law_filled.nd rfl (by first | exact Or.inl rfl | exact Or.inr rfl) (pd_op od_sub (pd_ix id_seq (pd_v 3) (pd_neg pd_int)) (pd_ix id_seq (pd_v 4) (pd_neg pd_int))))
(pdss_cons (pds_set 10 sc_law_filled.nd rfl (by first | exact Or.inl rfl | exact Or.inr rfl) (pd_call G_law_leave (hr.mono (by decide)) hg (by rfl) T.g_law_leave T.F_law_leave.kp T.b_law_leave (fun _ => passAt0) (pda_cons (pd_v 1) (pda_cons (pd_v 3) pda_nil))))
(pdss_cons (pds_set 11 sc_law_filled.nd rfl (by first | exact Or.inl rfl | exact Or.inr rfl) (pd_lst true pda_nil))
(pdss_cons (pds_for PassesOwn.never rfl (pdi_seq (pd_lst false (pda_cons (pd_tup (pda_cons pd_int (pda_cons (pd_v 7) pda_nil))) (pda_cons (pd_tup (pda_cons (pd_op (od_add false) (pd_v 10) pd_int) (pda_cons pd_int pda_nil))) (pda_cons (pd_tup (pda_cons (pd_v 5) (pda_cons pd_int pda_nil))) (pda_cons (pd_tup (pda_cons pd_int (pda_cons (pd_v 5) pda_nil))) (pda_cons (pd_tup (pda_cons pd_int (pda_cons (pd_op (od_add false) (pd_v 7) pd_int) pda_nil))) pda_nil))))))) (pdg_tup rfl (pdgs_cons (pdg_name 12 sc_law_filled.nd rfl (by first | exact Or.inl rfl | exact Or.inr rfl)) (pdgs_cons (pdg_name 13 sc_law_filled.nd rfl (by first | exact Or.inl rfl | exact Or.inr rfl)) pdgs_nil)))
(pdss_one (pds_expr (pd_lm PySem.F.plainAttrs_list PySem.F.slot_list_append PySem.F.type_list_append md_append (pd_v 11) (pda_cons (pd_ix id_seq (pd_wordF (k := 5) T.F_law_word T.b_law_word sc_law_word rfl rfl (Or.inl rfl) (by rfl) T.g_law_word (fun cdv f c' s H dX hr' hask => ok_law_word T hr' hask) TB_law_filled (hcv.symm.trans T.tab_law_filled) (hr.mono (by decide)) hg (LamX.lamS_by (sc := defScope s_law_filled) (by decide +kernel)) rfl (fun _ _ _ _ _ => rfl) (fun E A2 outer2 s2 H2 f2 c2 hr hg => (pd_methX (pd_v 0) T.cl_Run T.m_Run_turn G_Run_turn (hr.mono (by decide)) hg T.b_Run_turn (fun _ => passAt (takes_of rfl rfl rfl rfl) _) (pda_cons (pd_v 12) (pda_cons (pd_v 13) pda_nil))))) pd_int) pda_nil)))))
(pdss_cons (pds_if (PDW.pt (pdw_or (pdt_cmp (od_ne hr.units) (pd_v 11) (pd_lst false (pda_cons pd_str (pda_cons pd_str (pda_cons pd_str (pda_cons pd_str (pda_cons pd_str pda_nil)))))) (nomark _)) (pdw_or1 (pdt_not (pdt_val (pd_call G_law_stands (hr.mono (by decide)) hg (by rfl) T.g_law_stands T.F_law_stands.kp T.b_law_stands (fun _ => passAt0) (pda_cons (pd_v 0) (pda_cons (pd_v 1) (pda_cons (pd_v 2) (pda_cons (pd_v 3) (pda_cons (pd_v 4) pda_nil)))))))))))
(pdss_one (pds_ret pd_bl))
pdss_nil)
(pdss_cons (pds_for PassesOwn.never rfl (pdi_seq (pd_lst false (pda_cons pd_int (pda_cons (pd_v 10) (pda_cons (pd_op (od_add false) (pd_v 10) pd_int) (pda_cons (pd_v 5) pda_nil)))))) (pdg_name 12 sc_law_filled.nd rfl (by first | exact Or.inl rfl | exact Or.inr rfl))
(pdss_one (pds_if (pdt_not (pdt_val (pd_call G_law_owes (hr.mono (by decide)) hg (by rfl) T.g_law_owes T.F_law_owes.kp T.b_law_owes (fun _ => passAt0) (pda_cons (pd_v 0) (pda_cons (pd_v 1) (pda_cons (pd_v 2) (pda_cons (pd_v 3) (pda_cons (pd_v 4) (pda_cons (pd_v 12) pda_nil)))))))))
(pdss_one (pds_ret pd_bl))
pdss_nil)))
(pdss_one (pds_ret pd_bl))))))))))), fun ds m R RX h => v_law_filled h⟩)
theorem ok_law (T : Tx K mg A) (TB_law_owes : LamX.TabB base mg A.q_law_owes A.p_law_owes) (TB_law_done : LamX.TabB base mg A.q_law_done A.p_law_done) (TB_law_filled : LamX.TabB base mg A.q_law_filled A.p_law_filled) : FnG P w K mg base CX0 9 A.f_law A.d_law ["script"] (spD K (lawSpT 63 [(A.p_law_owes, ((("_law_owes" : Str) ++ ".<locals>.") ++ "<lambda>")), (A.p_law_done, ((("_law_done" : Str) ++ ".<locals>.") ++ "<lambda>")), (A.p_law_filled, ((("_law_filled" : Str) ++ ".<locals>.") ++ "<lambda>"))])) := by
  have G_law_pen : FnG P w K mg base CX0 1 A.f_law_pen A.d_law_pen ["script"] (spD K sp_law_pen) := ok_law_pen T
  have G_law_curve : FnG P w K mg base CX0 2 A.f_law_curve A.d_law_curve ["pen"] (spD K sp_law_curve) := ok_law_curve T
  have G_law_server : FnG P w K mg base CX0 3 A.f_law_server A.d_law_server ["pen", "f", "slow"] (spD K sp_law_server) := ok_law_server T
  have G_Run_init : FnG P w K mg base CX0 3 A.f_Run_init A.d_Run_init ["self", "f", "g"] (spD K (sp_Run_init A.c_Meter A.c_Run)) := ok_Run_init T
  have G_law_stands : FnG P w K mg base CX0 4 A.f_law_stands A.d_law_stands ["run", "f", "g", "came", "gone"] (spD K (sp_law_stands A.c_Meter A.c_Run)) := ok_law_stands T
  have G_law_take : FnG P w K mg base CX0 1 A.f_law_take A.d_law_take ["pen", "many"] (spD K sp_law_take) := ok_law_take T
  have G_law_done : FnG P w K mg base CX0 8 A.f_law_done A.d_law_done ["pen", "run", "f", "g", "came", "gone"] (spD K (sp_law_done A.c_Meter A.c_Run A.p_law_owes A.p_law_done)) := ok_law_done T TB_law_owes TB_law_done
  have G_law_filled : FnG P w K mg base CX0 8 A.f_law_filled A.d_law_filled ["run", "f", "g", "came", "gone", "odd"] (spD K (sp_law_filled A.c_Meter A.c_Run A.p_law_owes A.p_law_filled)) := ok_law_filled T TB_law_owes TB_law_filled
  have G_law_odd : FnG P w K mg base CX0 2 A.f_law_odd A.d_law_odd ["pen"] (spD K sp_law_odd) := ok_law_odd T
  refine fn_d T.F_law sc_law (fun ds m R RX h => by unfold lawSpT at h; first | (obtain ⟨ns, rfl, _⟩ := h; rfl) | (split at h <;> first | rfl | exact h.elim)) (fun cdv A' outer s H E hr hg => ⟨r_law A.c_Meter A.c_Run A.p_law_done A.p_law_filled A.p_law_owes, PDSs.nox ((pdss_cons (pds_set 1 sc_law.nd rfl (by first | exact Or.inl rfl | exact Or.inr rfl) (pd_call G_law_pen (hr.mono (by decide)) hg (by rfl) T.g_law_pen T.F_law_pen.kp T.b_law_pen (fun _ => passAt0) (pda_cons (pd_v 0) pda_nil)))
(pdss_cons (pds_set 2 sc_law.nd rfl (by first | exact Or.inl rfl | exact Or.inr rfl) (pd_cmp (od_eq hr.units) (pd_call G_law_take (hr.mono (by decide)) hg (by rfl) T.g_law_take T.F_law_take.kp T.b_law_take (fun _ => passAt0) (pda_cons (pd_v 1) (pda_cons pd_int pda_nil))) pd_int (nomark _)))
(pdss_cons (pds_set 3 sc_law.nd rfl (by first | exact Or.inl rfl | exact Or.inr rfl) (pd_call G_law_curve (hr.mono (by decide)) hg (by rfl) T.g_law_curve T.F_law_curve.kp T.b_law_curve (fun _ => passAt0) (pda_cons (pd_v 1) pda_nil)))
(pdss_cons (pds_set 4 sc_law.nd rfl (by first | exact Or.inl rfl | exact Or.inr rfl) (pd_call G_law_server (hr.mono (by decide)) hg (by rfl) T.g_law_server T.F_law_server.kp T.b_law_server (fun _ => passAt0) (pda_cons (pd_v 1) (pda_cons (pd_v 3) (pda_cons (pd_cmp (od_eq hr.units) (pd_call G_law_take (hr.mono (by decide)) hg (by rfl) T.g_law_take T.F_law_take.kp T.b_law_take (fun _ => passAt0) (pda_cons (pd_v 1) (pda_cons pd_int pda_nil))) pd_int (nomark _)) pda_nil)))))
(pdss_cons (pds_set 5 sc_law.nd rfl (by first | exact Or.inl rfl | exact Or.inr rfl) (pd_make T.k_Run G_Run_init (hr.mono (by decide)) hg (by rfl) T.g_Run T.b_Run_init (fun _ => passAt0) (pda_cons (pd_v 3) (pda_cons (pd_v 4) pda_nil))))
(pdss_cons (pds_set 6 sc_law.nd rfl (by first | exact Or.inl rfl | exact Or.inr rfl) (pd_make T.k_Run G_Run_init (hr.mono (by decide)) hg (by rfl) T.g_Run T.b_Run_init (fun _ => passAt0) (pda_cons (pd_v 3) (pda_cons (pd_v 4) pda_nil))))
(pdss_cons (pds_set 7 sc_law.nd rfl (by first | exact Or.inl rfl | exact Or.inr rfl) (pd_lst true (pda_cons pd_int pda_nil)))
(pdss_cons (pds_set 8 sc_law.nd rfl (by first | exact Or.inl rfl | exact Or.inr rfl) (pd_lst true (pda_cons pd_int pda_nil)))
(pdss_cons (pds_for PassesOwn.never rfl (pdi_range1 (by rfl) T.z_range (pd_op (od_add false) pd_int (pd_call G_law_take (hr.mono (by decide)) hg (by rfl) T.g_law_take T.F_law_take.kp T.b_law_take (fun _ => passAt0) (pda_cons (pd_v 1) (pda_cons pd_int pda_nil))))) (pdg_name 9 sc_law.nd rfl (by first | exact Or.inl rfl | exact Or.inr rfl))
(pdss_one (pds_if (pdt_not (pdt_val (pd_call G_law_done (hr.mono (by decide)) hg (by rfl) T.g_law_done T.F_law_done.kp T.b_law_done (fun _ => passAt0) (pda_cons (pd_v 1) (pda_cons (pd_v 5) (pda_cons (pd_v 3) (pda_cons (pd_v 4) (pda_cons (pd_v 7) (pda_cons (pd_v 8) pda_nil)))))))))
(pdss_one (pds_ret pd_bl))
pdss_nil)))
(pdss_cons (pds_if (pdt_not (pdt_val (pd_call G_law_stands (hr.mono (by decide)) hg (by rfl) T.g_law_stands T.F_law_stands.kp T.b_law_stands (fun _ => passAt0) (pda_cons (pd_v 5) (pda_cons (pd_v 3) (pda_cons (pd_v 4) (pda_cons (pd_v 7) (pda_cons (pd_v 8) pda_nil))))))))
(pdss_one (pds_ret pd_bl))
pdss_nil)
(pdss_cons (pds_if (PDW.pt (pdw_and (pdt_val (pd_v 2)) (pdw_and1 (pdt_not (pdt_val (pd_call G_law_filled (hr.mono (by decide)) hg (by rfl) T.g_law_filled T.F_law_filled.kp T.b_law_filled (fun _ => passAt0) (pda_cons (pd_v 5) (pda_cons (pd_v 3) (pda_cons (pd_v 4) (pda_cons (pd_v 7) (pda_cons (pd_v 8) (pda_cons (pd_call G_law_odd (hr.mono (by decide)) hg (by rfl) T.g_law_odd T.F_law_odd.kp T.b_law_odd (fun _ => passAt0) (pda_cons (pd_v 1) pda_nil)) pda_nil))))))))))))
(pdss_one (pds_ret pd_bl))
pdss_nil)
(pdss_one (pds_ret (pd_call G_law_stands (hr.mono (by decide)) hg (by rfl) T.g_law_stands T.F_law_stands.kp T.b_law_stands (fun _ => passAt0) (pda_cons (pd_v 6) (pda_cons (pd_v 3) (pda_cons (pd_v 4) (pda_cons (pd_lst true (pda_cons pd_int pda_nil)) (pda_cons (pd_lst true (pda_cons pd_int pda_nil)) pda_nil)))))))))))))))))))), fun ds m R RX h => v_law h⟩)
end
theorem all_mk {P : Program} {w : World} {K : PySem.W.Frag} {h : Heap} {mg : Str → Option Value} {fa f0 f1 f2 f3 f4 f5 f6 f7 f8 f9 f10 f11 f12 f13 f14 f15 f16 f17 f18 f19 f20 f21 f22 f23 f24 f25 f26 c_Meter c_Run c_CurveError c_NoCurve c_TooLong c_Endless c_NoStream c_NoNet c_Ring c_TooMuch c_TooLittle c_NoBack c_NoText c_NoRow c_NoName p_law_owes q_law_owes p_law_done q_law_done p_law_filled q_law_filled : Addr} (X : K.In h) (G : h.Ns mainGlobals mg) (hfa : mg "law" = some (.ref fa)) {tl : List Addr} (hTab : ∀ P ∈ tl, h.get? P = some { cls := .none, data := .fields #[] })
    {od0 an0 od1 an1 od2 an2 od3 an3 od4 an4 od5 an5 od6 an6 od7 an7 od8 an8 od9 an9 od10 an10 od11 an11 od12 an12 od13 an13 od14 an14 od15 an15 od16 an16 od17 an17 od18 an18 od19 an19 od20 an20 od21 an21 od22 an22 od23 an23 od24 an24 od25 an25 od26 an26 : Option Addr} {sl0 sl1 sl2 sl3 sl4 sl5 sl6 sl7 sl8 sl9 sl10 sl11 sl12 sl13 sl14 sl15 sl16 sl17 sl18 sl19 sl20 sl21 sl22 sl23 sl24 sl25 sl26 : Array (Option Value)} {oc0 kV0 dc0 pm0 cd0 ct0 oc1 kV1 dc1 pm1 cd1 ct1 oc2 kV2 dc2 pm2 cd2 ct2 oc3 kV3 dc3 pm3 cd3 ct3 oc4 kV4 dc4 pm4 cd4 ct4 oc5 kV5 dc5 pm5 cd5 ct5 oc6 kV6 dc6 pm6 cd6 ct6 oc7 kV7 dc7 pm7 cd7 ct7 oc8 kV8 dc8 pm8 cd8 ct8 oc9 kV9 dc9 pm9 cd9 ct9 oc10 kV10 dc10 pm10 cd10 ct10 oc11 kV11 dc11 pm11 cd11 ct11 oc12 kV12 dc12 pm12 cd12 ct12 oc13 kV13 dc13 pm13 cd13 ct13 oc14 kV14 dc14 pm14 cd14 ct14 oc15 kV15 dc15 pm15 cd15 ct15 oc16 kV16 dc16 pm16 cd16 ct16 oc17 kV17 dc17 pm17 cd17 ct17 oc18 kV18 dc18 pm18 cd18 ct18 oc19 kV19 dc19 pm19 cd19 ct19 oc20 kV20 dc20 pm20 cd20 ct20 oc21 kV21 dc21 pm21 cd21 ct21 oc22 kV22 dc22 pm22 cd22 ct22 oc23 kV23 dc23 pm23 cd23 ct23 oc24 kV24 dc24 pm24 cd24 ct24 oc25 kV25 dc25 pm25 cd25 ct25 oc26 kV26 dc26 pm26 cd26 ct26 : Value}
    {ot_law_owes : Value} {oo_law_owes : Option Addr} {vs_law_owes : Array Value} {os_law_owes : Array (Option Value)}
    {ot_law_done : Value} {oo_law_done : Option Addr} {vs_law_done : Array Value} {os_law_done : Array (Option Value)}
    {ot_law_filled : Value} {oo_law_filled : Option Addr} {vs_law_filled : Array Value} {os_law_filled : Array (Option Value)}
    {tk_MOST_TURNS : Tok}
    (a_Meter : PySem.W.nsIn K mainGlobals "Meter" = some (some (.ref c_Meter)))
    (a_Run : PySem.W.nsIn K mainGlobals "Run" = some (some (.ref c_Run)))
    (a0 : PySem.W.nsIn K mainGlobals "is_number" = some (some (.ref f0)))
    (l0 : K.lookup f0 = some ⟨oc0, od0, .func (PySem.W.fnOf "is_number" "is_number" (defArgs s_is_number) (defBody s_is_number) (defScope s_is_number) .none kV0 dc0 pm0 an0 cd0 ct0), sl0⟩)
    (y0 : PySem.W.codeIn K cd0 "is_number" = true)
    (k0 : PySem.W.keepIn K (.ref f0) = true)
    (a1 : PySem.W.nsIn K mainGlobals "value" = some (some (.ref f1)))
    (l1 : K.lookup f1 = some ⟨oc1, od1, .func (PySem.W.fnOf "value" "value" (defArgs s_value) (defBody s_value) (defScope s_value) .none kV1 dc1 pm1 an1 cd1 ct1), sl1⟩)
    (y1 : PySem.W.codeIn K cd1 "value" = true)
    (k1 : PySem.W.keepIn K (.ref f1) = true)
    (a2 : PySem.W.findIn K (.ref c_Meter) "__init__" = some (some (.ref f2)))
    (i2 : PySem.W.isFn K (.ref f2) = true)
    (l2 : K.lookup f2 = some ⟨oc2, od2, .func (PySem.W.fnOf "__init__" "Meter.__init__" (defArgs s_Meter_init) (defBody s_Meter_init) (defScope s_Meter_init) .none kV2 dc2 pm2 an2 cd2 ct2), sl2⟩)
    (y2 : PySem.W.codeIn K cd2 "Meter.__init__" = true)
    (k2 : PySem.W.keepIn K (.ref f2) = true)
    (a3 : PySem.W.findIn K (.ref c_Meter) "need_room" = some (some (.ref f3)))
    (i3 : PySem.W.isFn K (.ref f3) = true)
    (l3 : K.lookup f3 = some ⟨oc3, od3, .func (PySem.W.fnOf "need_room" "Meter.need_room" (defArgs s_Meter_need_room) (defBody s_Meter_need_room) (defScope s_Meter_need_room) .none kV3 dc3 pm3 an3 cd3 ct3), sl3⟩)
    (y3 : PySem.W.codeIn K cd3 "Meter.need_room" = true)
    (k3 : PySem.W.keepIn K (.ref f3) = true)
    (a4 : PySem.W.findIn K (.ref c_Meter) "leave" = some (some (.ref f4)))
    (i4 : PySem.W.isFn K (.ref f4) = true)
    (l4 : K.lookup f4 = some ⟨oc4, od4, .func (PySem.W.fnOf "leave" "Meter.leave" (defArgs s_Meter_leave) (defBody s_Meter_leave) (defScope s_Meter_leave) .none kV4 dc4 pm4 an4 cd4 ct4), sl4⟩)
    (y4 : PySem.W.codeIn K cd4 "Meter.leave" = true)
    (k4 : PySem.W.keepIn K (.ref f4) = true)
    (a5 : PySem.W.findIn K (.ref c_Meter) "told" = some (some (.ref f5)))
    (i5 : PySem.W.isFn K (.ref f5) = true)
    (l5 : K.lookup f5 = some ⟨oc5, od5, .func (PySem.W.fnOf "told" "Meter.told" (defArgs s_Meter_told) (defBody s_Meter_told) (defScope s_Meter_told) .none kV5 dc5 pm5 an5 cd5 ct5), sl5⟩)
    (y5 : PySem.W.codeIn K cd5 "Meter.told" = true)
    (k5 : PySem.W.keepIn K (.ref f5) = true)
    (a6 : PySem.W.findIn K (.ref c_Run) "__init__" = some (some (.ref f6)))
    (i6 : PySem.W.isFn K (.ref f6) = true)
    (l6 : K.lookup f6 = some ⟨oc6, od6, .func (PySem.W.fnOf "__init__" "Run.__init__" (defArgs s_Run_init) (defBody s_Run_init) (defScope s_Run_init) .none kV6 dc6 pm6 an6 cd6 ct6), sl6⟩)
    (y6 : PySem.W.codeIn K cd6 "Run.__init__" = true)
    (k6 : PySem.W.keepIn K (.ref f6) = true)
    (a7 : PySem.W.findIn K (.ref c_Run) "leave" = some (some (.ref f7)))
    (i7 : PySem.W.isFn K (.ref f7) = true)
    (l7 : K.lookup f7 = some ⟨oc7, od7, .func (PySem.W.fnOf "leave" "Run.leave" (defArgs s_Run_leave) (defBody s_Run_leave) (defScope s_Run_leave) .none kV7 dc7 pm7 an7 cd7 ct7), sl7⟩)
    (y7 : PySem.W.codeIn K cd7 "Run.leave" = true)
    (k7 : PySem.W.keepIn K (.ref f7) = true)
    (a8 : PySem.W.findIn K (.ref c_Run) "held" = some (some (.ref f8)))
    (i8 : PySem.W.isFn K (.ref f8) = true)
    (l8 : K.lookup f8 = some ⟨oc8, od8, .func (PySem.W.fnOf "held" "Run.held" (defArgs s_Run_held) (defBody s_Run_held) (defScope s_Run_held) .none kV8 dc8 pm8 an8 cd8 ct8), sl8⟩)
    (y8 : PySem.W.codeIn K cd8 "Run.held" = true)
    (k8 : PySem.W.keepIn K (.ref f8) = true)
    (a9 : PySem.W.findIn K (.ref c_Run) "owed" = some (some (.ref f9)))
    (i9 : PySem.W.isFn K (.ref f9) = true)
    (l9 : K.lookup f9 = some ⟨oc9, od9, .func (PySem.W.fnOf "owed" "Run.owed" (defArgs s_Run_owed) (defBody s_Run_owed) (defScope s_Run_owed) .none kV9 dc9 pm9 an9 cd9 ct9), sl9⟩)
    (y9 : PySem.W.codeIn K cd9 "Run.owed" = true)
    (k9 : PySem.W.keepIn K (.ref f9) = true)
    (a10 : PySem.W.findIn K (.ref c_Run) "turn" = some (some (.ref f10)))
    (i10 : PySem.W.isFn K (.ref f10) = true)
    (l10 : K.lookup f10 = some ⟨oc10, od10, .func (PySem.W.fnOf "turn" "Run.turn" (defArgs s_Run_turn) (defBody s_Run_turn) (defScope s_Run_turn) .none kV10 dc10 pm10 an10 cd10 ct10), sl10⟩)
    (y10 : PySem.W.codeIn K cd10 "Run.turn" = true)
    (k10 : PySem.W.keepIn K (.ref f10) = true)
    (a11 : PySem.W.findIn K (.ref c_Run) "told" = some (some (.ref f11)))
    (i11 : PySem.W.isFn K (.ref f11) = true)
    (l11 : K.lookup f11 = some ⟨oc11, od11, .func (PySem.W.fnOf "told" "Run.told" (defArgs s_Run_told) (defBody s_Run_told) (defScope s_Run_told) .none kV11 dc11 pm11 an11 cd11 ct11), sl11⟩)
    (y11 : PySem.W.codeIn K cd11 "Run.told" = true)
    (k11 : PySem.W.keepIn K (.ref f11) = true)
    (a12 : PySem.W.nsIn K mainGlobals "_law_pen" = some (some (.ref f12)))
    (l12 : K.lookup f12 = some ⟨oc12, od12, .func (PySem.W.fnOf "_law_pen" "_law_pen" (defArgs s_law_pen) (defBody s_law_pen) (defScope s_law_pen) .none kV12 dc12 pm12 an12 cd12 ct12), sl12⟩)
    (y12 : PySem.W.codeIn K cd12 "_law_pen" = true)
    (k12 : PySem.W.keepIn K (.ref f12) = true)
    (a13 : PySem.W.nsIn K mainGlobals "_law_take" = some (some (.ref f13)))
    (l13 : K.lookup f13 = some ⟨oc13, od13, .func (PySem.W.fnOf "_law_take" "_law_take" (defArgs s_law_take) (defBody s_law_take) (defScope s_law_take) .none kV13 dc13 pm13 an13 cd13 ct13), sl13⟩)
    (y13 : PySem.W.codeIn K cd13 "_law_take" = true)
    (k13 : PySem.W.keepIn K (.ref f13) = true)
    (a14 : PySem.W.nsIn K mainGlobals "_law_at" = some (some (.ref f14)))
    (l14 : K.lookup f14 = some ⟨oc14, od14, .func (PySem.W.fnOf "_law_at" "_law_at" (defArgs s_law_at) (defBody s_law_at) (defScope s_law_at) .none kV14 dc14 pm14 an14 cd14 ct14), sl14⟩)
    (y14 : PySem.W.codeIn K cd14 "_law_at" = true)
    (k14 : PySem.W.keepIn K (.ref f14) = true)
    (a15 : PySem.W.nsIn K mainGlobals "_law_curve" = some (some (.ref f15)))
    (l15 : K.lookup f15 = some ⟨oc15, od15, .func (PySem.W.fnOf "_law_curve" "_law_curve" (defArgs s_law_curve) (defBody s_law_curve) (defScope s_law_curve) .none kV15 dc15 pm15 an15 cd15 ct15), sl15⟩)
    (y15 : PySem.W.codeIn K cd15 "_law_curve" = true)
    (k15 : PySem.W.keepIn K (.ref f15) = true)
    (a16 : PySem.W.nsIn K mainGlobals "_law_server" = some (some (.ref f16)))
    (l16 : K.lookup f16 = some ⟨oc16, od16, .func (PySem.W.fnOf "_law_server" "_law_server" (defArgs s_law_server) (defBody s_law_server) (defScope s_law_server) .none kV16 dc16 pm16 an16 cd16 ct16), sl16⟩)
    (y16 : PySem.W.codeIn K cd16 "_law_server" = true)
    (k16 : PySem.W.keepIn K (.ref f16) = true)
    (a17 : PySem.W.nsIn K mainGlobals "_law_word" = some (some (.ref f17)))
    (l17 : K.lookup f17 = some ⟨oc17, od17, .func (PySem.W.fnOf "_law_word" "_law_word" (defArgs s_law_word) (defBody s_law_word) (defScope s_law_word) .none kV17 dc17 pm17 an17 cd17 ct17), sl17⟩)
    (y17 : PySem.W.codeIn K cd17 "_law_word" = true)
    (k17 : PySem.W.keepIn K (.ref f17) = true)
    (a18 : PySem.W.nsIn K mainGlobals "_law_leave" = some (some (.ref f18)))
    (l18 : K.lookup f18 = some ⟨oc18, od18, .func (PySem.W.fnOf "_law_leave" "_law_leave" (defArgs s_law_leave) (defBody s_law_leave) (defScope s_law_leave) .none kV18 dc18 pm18 an18 cd18 ct18), sl18⟩)
    (y18 : PySem.W.codeIn K cd18 "_law_leave" = true)
    (k18 : PySem.W.keepIn K (.ref f18) = true)
    (a19 : PySem.W.nsIn K mainGlobals "_law_owed" = some (some (.ref f19)))
    (l19 : K.lookup f19 = some ⟨oc19, od19, .func (PySem.W.fnOf "_law_owed" "_law_owed" (defArgs s_law_owed) (defBody s_law_owed) (defScope s_law_owed) .none kV19 dc19 pm19 an19 cd19 ct19), sl19⟩)
    (y19 : PySem.W.codeIn K cd19 "_law_owed" = true)
    (k19 : PySem.W.keepIn K (.ref f19) = true)
    (a20 : PySem.W.nsIn K mainGlobals "_law_odd" = some (some (.ref f20)))
    (l20 : K.lookup f20 = some ⟨oc20, od20, .func (PySem.W.fnOf "_law_odd" "_law_odd" (defArgs s_law_odd) (defBody s_law_odd) (defScope s_law_odd) .none kV20 dc20 pm20 an20 cd20 ct20), sl20⟩)
    (y20 : PySem.W.codeIn K cd20 "_law_odd" = true)
    (k20 : PySem.W.keepIn K (.ref f20) = true)
    (a21 : PySem.W.nsIn K mainGlobals "_law_asked" = some (some (.ref f21)))
    (l21 : K.lookup f21 = some ⟨oc21, od21, .func (PySem.W.fnOf "_law_asked" "_law_asked" (defArgs s_law_asked) (defBody s_law_asked) (defScope s_law_asked) .none kV21 dc21 pm21 an21 cd21 ct21), sl21⟩)
    (y21 : PySem.W.codeIn K cd21 "_law_asked" = true)
    (k21 : PySem.W.keepIn K (.ref f21) = true)
    (a22 : PySem.W.nsIn K mainGlobals "_law_stands" = some (some (.ref f22)))
    (l22 : K.lookup f22 = some ⟨oc22, od22, .func (PySem.W.fnOf "_law_stands" "_law_stands" (defArgs s_law_stands) (defBody s_law_stands) (defScope s_law_stands) .none kV22 dc22 pm22 an22 cd22 ct22), sl22⟩)
    (y22 : PySem.W.codeIn K cd22 "_law_stands" = true)
    (k22 : PySem.W.keepIn K (.ref f22) = true)
    (a23 : PySem.W.nsIn K mainGlobals "_law_owes" = some (some (.ref f23)))
    (l23 : K.lookup f23 = some ⟨oc23, od23, .func (PySem.W.fnOf "_law_owes" "_law_owes" (defArgs s_law_owes) (defBody s_law_owes) (defScope s_law_owes) .none kV23 dc23 pm23 an23 cd23 ct23), sl23⟩)
    (y23 : PySem.W.codeIn K cd23 "_law_owes" = true)
    (k23 : PySem.W.keepIn K (.ref f23) = true)
    (a24 : PySem.W.nsIn K mainGlobals "_law_done" = some (some (.ref f24)))
    (l24 : K.lookup f24 = some ⟨oc24, od24, .func (PySem.W.fnOf "_law_done" "_law_done" (defArgs s_law_done) (defBody s_law_done) (defScope s_law_done) .none kV24 dc24 pm24 an24 cd24 ct24), sl24⟩)
    (y24 : PySem.W.codeIn K cd24 "_law_done" = true)
    (k24 : PySem.W.keepIn K (.ref f24) = true)
    (a25 : PySem.W.nsIn K mainGlobals "_law_filled" = some (some (.ref f25)))
    (l25 : K.lookup f25 = some ⟨oc25, od25, .func (PySem.W.fnOf "_law_filled" "_law_filled" (defArgs s_law_filled) (defBody s_law_filled) (defScope s_law_filled) .none kV25 dc25 pm25 an25 cd25 ct25), sl25⟩)
    (y25 : PySem.W.codeIn K cd25 "_law_filled" = true)
    (k25 : PySem.W.keepIn K (.ref f25) = true)
    (a26 : PySem.W.nsIn K mainGlobals "law" = some (some (.ref f26)))
    (l26 : K.lookup f26 = some ⟨oc26, od26, .func (PySem.W.fnOf "law" "law" (defArgs s_law) (defBody s_law) (defScope s_law) .none kV26 dc26 pm26 an26 cd26 ct26), sl26⟩)
    (y26 : PySem.W.codeIn K cd26 "law" = true)
    (k26 : PySem.W.keepIn K (.ref f26) = true)
    (pg_Meter : PySem.W.plainGet K c_Meter Str.empty = true)
    (hd_Meter : PySem.W.hasDictIn K c_Meter = true)
    (po_Meter : PySem.W.plainOver K c_Meter = true)
    (sa_Meter : PySem.W.findIn K (.ref c_Meter) "__setattr__" = some (some (.builtin "object.__setattr__")))
    (mk_Meter : PySem.W.makesIn K c_Meter = true)
    (kc_Meter : PySem.W.keepIn K (.ref c_Meter) = true)
    (pg_Run : PySem.W.plainGet K c_Run Str.empty = true)
    (hd_Run : PySem.W.hasDictIn K c_Run = true)
    (po_Run : PySem.W.plainOver K c_Run = true)
    (sa_Run : PySem.W.findIn K (.ref c_Run) "__setattr__" = some (some (.builtin "object.__setattr__")))
    (mk_Run : PySem.W.makesIn K c_Run = true)
    (kc_Run : PySem.W.keepIn K (.ref c_Run) = true)
    (n_Meter_curve : PySem.W.findIn K (.ref c_Meter) "curve" = some none)
    (n_Meter_most : PySem.W.findIn K (.ref c_Meter) "most" = some none)
    (n_Meter_tallies : PySem.W.findIn K (.ref c_Meter) "tallies" = some none)
    (n_Run_gone : PySem.W.findIn K (.ref c_Run) "gone" = some none)
    (n_Run_meter : PySem.W.findIn K (.ref c_Run) "meter" = some none)
    (n_Run_server : PySem.W.findIn K (.ref c_Run) "server" = some none)
    (z_ValueError : PySem.W.nsIn K mainGlobals "ValueError" = some none)
    (z_abs : PySem.W.nsIn K mainGlobals "abs" = some none)
    (z_bool : PySem.W.nsIn K mainGlobals "bool" = some none)
    (z_int : PySem.W.nsIn K mainGlobals "int" = some none)
    (z_isinstance : PySem.W.nsIn K mainGlobals "isinstance" = some none)
    (z_len : PySem.W.nsIn K mainGlobals "len" = some none)
    (z_list : PySem.W.nsIn K mainGlobals "list" = some none)
    (z_max : PySem.W.nsIn K mainGlobals "max" = some none)
    (z_min : PySem.W.nsIn K mainGlobals "min" = some none)
    (z_range : PySem.W.nsIn K mainGlobals "range" = some none)
    (z_repr : PySem.W.nsIn K mainGlobals "repr" = some none)
    (z_tuple : PySem.W.nsIn K mainGlobals "tuple" = some none)
    (k_MOST_TURNS : PySem.W.nsIn K mainGlobals "MOST_TURNS" = some (some (.int 400 tk_MOST_TURNS)))
    (g_CurveError : PySem.W.nsIn K mainGlobals "CurveError" = some (some (.ref c_CurveError)))
    (g_NoCurve : PySem.W.nsIn K mainGlobals "NoCurve" = some (some (.ref c_NoCurve)))
    (g_TooLong : PySem.W.nsIn K mainGlobals "TooLong" = some (some (.ref c_TooLong)))
    (g_Endless : PySem.W.nsIn K mainGlobals "Endless" = some (some (.ref c_Endless)))
    (g_NoStream : PySem.W.nsIn K mainGlobals "NoStream" = some (some (.ref c_NoStream)))
    (g_NoNet : PySem.W.nsIn K mainGlobals "NoNet" = some (some (.ref c_NoNet)))
    (g_Ring : PySem.W.nsIn K mainGlobals "Ring" = some (some (.ref c_Ring)))
    (g_TooMuch : PySem.W.nsIn K mainGlobals "TooMuch" = some (some (.ref c_TooMuch)))
    (g_TooLittle : PySem.W.nsIn K mainGlobals "TooLittle" = some (some (.ref c_TooLittle)))
    (g_NoBack : PySem.W.nsIn K mainGlobals "NoBack" = some (some (.ref c_NoBack)))
    (g_NoText : PySem.W.nsIn K mainGlobals "NoText" = some (some (.ref c_NoText)))
    (g_NoRow : PySem.W.nsIn K mainGlobals "NoRow" = some (some (.ref c_NoRow)))
    (g_NoName : PySem.W.nsIn K mainGlobals "NoName" = some (some (.ref c_NoName)))
    (x_NoStream : PySem.W.excIn K c_NoStream [.type "ValueError", .type "Exception", .type "BaseException", .type "object"] "ValueError.__new__" = true)
    (kp_NoStream : PySem.W.keepIn K (.ref c_NoStream) = true)
    (x_TooLong : PySem.W.excIn K c_TooLong [.type "ValueError", .type "Exception", .type "BaseException", .type "object"] "ValueError.__new__" = true)
    (kp_TooLong : PySem.W.keepIn K (.ref c_TooLong) = true)
    (x_TooMuch : PySem.W.excIn K c_TooMuch [.type "ValueError", .type "Exception", .type "BaseException", .type "object"] "ValueError.__new__" = true)
    (kp_TooMuch : PySem.W.keepIn K (.ref c_TooMuch) = true)
    (x_TooLittle : PySem.W.excIn K c_TooLittle [.type "ValueError", .type "Exception", .type "BaseException", .type "object"] "ValueError.__new__" = true)
    (kp_TooLittle : PySem.W.keepIn K (.ref c_TooLittle) = true)
    (be_NoStream : PySem.W.subIn K (.ref c_NoStream) (.type "BaseException") = some true)
    (be_TooLong : PySem.W.subIn K (.ref c_TooLong) (.type "BaseException") = some true)
    (be_TooMuch : PySem.W.subIn K (.ref c_TooMuch) (.type "BaseException") = some true)
    (be_TooLittle : PySem.W.subIn K (.ref c_TooLittle) (.type "BaseException") = some true)
    (be_CurveError : PySem.W.subIn K (.ref c_CurveError) (.type "BaseException") = some true)
    (ty_NoStream : PySem.W.typeIn K (.ref c_NoStream) = some (.type "type"))
    (ty_TooLong : PySem.W.typeIn K (.ref c_TooLong) = some (.type "type"))
    (ty_TooMuch : PySem.W.typeIn K (.ref c_TooMuch) = some (.type "type"))
    (ty_TooLittle : PySem.W.typeIn K (.ref c_TooLittle) = some (.type "type"))
    (ty_CurveError : PySem.W.typeIn K (.ref c_CurveError) = some (.type "type"))
    (ty_Endless : PySem.W.typeIn K (.ref c_Endless) = some (.type "type"))
    (ty_NoBack : PySem.W.typeIn K (.ref c_NoBack) = some (.type "type"))
    (ty_NoCurve : PySem.W.typeIn K (.ref c_NoCurve) = some (.type "type"))
    (ty_NoName : PySem.W.typeIn K (.ref c_NoName) = some (.type "type"))
    (ty_NoNet : PySem.W.typeIn K (.ref c_NoNet) = some (.type "type"))
    (ty_NoRow : PySem.W.typeIn K (.ref c_NoRow) = some (.type "type"))
    (ty_NoText : PySem.W.typeIn K (.ref c_NoText) = some (.type "type"))
    (ty_Ring : PySem.W.typeIn K (.ref c_Ring) = some (.type "type"))
    (ci_CurveError : PySem.W.isClsIn K c_CurveError = true)
    (ci_NoStream : PySem.W.isClsIn K c_NoStream = true)
    (ci_TooLong : PySem.W.isClsIn K c_TooLong = true)
    (ci_TooMuch : PySem.W.isClsIn K c_TooMuch = true)
    (ci_TooLittle : PySem.W.isClsIn K c_TooLittle = true)
    (ci_Endless : PySem.W.isClsIn K c_Endless = true)
    (ci_NoBack : PySem.W.isClsIn K c_NoBack = true)
    (ci_NoCurve : PySem.W.isClsIn K c_NoCurve = true)
    (ci_NoName : PySem.W.isClsIn K c_NoName = true)
    (ci_NoNet : PySem.W.isClsIn K c_NoNet = true)
    (ci_NoRow : PySem.W.isClsIn K c_NoRow = true)
    (ci_NoText : PySem.W.isClsIn K c_NoText = true)
    (ci_Ring : PySem.W.isClsIn K c_Ring = true)
    (ea_NoStream : PySem.W.findIn K (.ref c_NoStream) "__getattribute__" = some (some (.builtin "BaseException.__getattribute__")))
    (eb_NoStream : PySem.W.findIn K (.ref c_NoStream) "__getattr__" = some none)
    (ed_NoStream : PySem.W.hasDictIn K c_NoStream = true)
    (ee_NoStream : PySem.W.findIn K (.ref c_NoStream) "__class__" = some (some (.builtin "object.__class__")))
    (em_NoStream : PySem.W.mroIn K c_NoStream (.type "object") = some true)
    (su_NoStream_NoStream : PySem.W.subIn K (.ref c_NoStream) (.ref c_NoStream) = some true)
    (su_NoStream_CurveError : PySem.W.subIn K (.ref c_NoStream) (.ref c_CurveError) = some true)
    (su_NoStream_TooLong : PySem.W.subIn K (.ref c_NoStream) (.ref c_TooLong) = some false)
    (su_NoStream_TooMuch : PySem.W.subIn K (.ref c_NoStream) (.ref c_TooMuch) = some false)
    (su_NoStream_TooLittle : PySem.W.subIn K (.ref c_NoStream) (.ref c_TooLittle) = some false)
    (su_NoStream_Endless : PySem.W.subIn K (.ref c_NoStream) (.ref c_Endless) = some false)
    (su_NoStream_NoBack : PySem.W.subIn K (.ref c_NoStream) (.ref c_NoBack) = some false)
    (su_NoStream_NoCurve : PySem.W.subIn K (.ref c_NoStream) (.ref c_NoCurve) = some false)
    (su_NoStream_NoName : PySem.W.subIn K (.ref c_NoStream) (.ref c_NoName) = some false)
    (su_NoStream_NoNet : PySem.W.subIn K (.ref c_NoStream) (.ref c_NoNet) = some false)
    (su_NoStream_NoRow : PySem.W.subIn K (.ref c_NoStream) (.ref c_NoRow) = some false)
    (su_NoStream_NoText : PySem.W.subIn K (.ref c_NoStream) (.ref c_NoText) = some false)
    (su_NoStream_Ring : PySem.W.subIn K (.ref c_NoStream) (.ref c_Ring) = some false)
    (kitY_NoStream_ValueError : PySem.W.subIn K (.ref c_NoStream) (.type "ValueError") = some true)
    (ea_TooLong : PySem.W.findIn K (.ref c_TooLong) "__getattribute__" = some (some (.builtin "BaseException.__getattribute__")))
    (eb_TooLong : PySem.W.findIn K (.ref c_TooLong) "__getattr__" = some none)
    (ed_TooLong : PySem.W.hasDictIn K c_TooLong = true)
    (ee_TooLong : PySem.W.findIn K (.ref c_TooLong) "__class__" = some (some (.builtin "object.__class__")))
    (em_TooLong : PySem.W.mroIn K c_TooLong (.type "object") = some true)
    (su_TooLong_TooLong : PySem.W.subIn K (.ref c_TooLong) (.ref c_TooLong) = some true)
    (su_TooLong_CurveError : PySem.W.subIn K (.ref c_TooLong) (.ref c_CurveError) = some true)
    (su_TooLong_NoStream : PySem.W.subIn K (.ref c_TooLong) (.ref c_NoStream) = some false)
    (su_TooLong_TooMuch : PySem.W.subIn K (.ref c_TooLong) (.ref c_TooMuch) = some false)
    (su_TooLong_TooLittle : PySem.W.subIn K (.ref c_TooLong) (.ref c_TooLittle) = some false)
    (su_TooLong_Endless : PySem.W.subIn K (.ref c_TooLong) (.ref c_Endless) = some false)
    (su_TooLong_NoBack : PySem.W.subIn K (.ref c_TooLong) (.ref c_NoBack) = some false)
    (su_TooLong_NoCurve : PySem.W.subIn K (.ref c_TooLong) (.ref c_NoCurve) = some false)
    (su_TooLong_NoName : PySem.W.subIn K (.ref c_TooLong) (.ref c_NoName) = some false)
    (su_TooLong_NoNet : PySem.W.subIn K (.ref c_TooLong) (.ref c_NoNet) = some false)
    (su_TooLong_NoRow : PySem.W.subIn K (.ref c_TooLong) (.ref c_NoRow) = some false)
    (su_TooLong_NoText : PySem.W.subIn K (.ref c_TooLong) (.ref c_NoText) = some false)
    (su_TooLong_Ring : PySem.W.subIn K (.ref c_TooLong) (.ref c_Ring) = some false)
    (kitY_TooLong_ValueError : PySem.W.subIn K (.ref c_TooLong) (.type "ValueError") = some true)
    (ea_TooMuch : PySem.W.findIn K (.ref c_TooMuch) "__getattribute__" = some (some (.builtin "BaseException.__getattribute__")))
    (eb_TooMuch : PySem.W.findIn K (.ref c_TooMuch) "__getattr__" = some none)
    (ed_TooMuch : PySem.W.hasDictIn K c_TooMuch = true)
    (ee_TooMuch : PySem.W.findIn K (.ref c_TooMuch) "__class__" = some (some (.builtin "object.__class__")))
    (em_TooMuch : PySem.W.mroIn K c_TooMuch (.type "object") = some true)
    (su_TooMuch_TooMuch : PySem.W.subIn K (.ref c_TooMuch) (.ref c_TooMuch) = some true)
    (su_TooMuch_CurveError : PySem.W.subIn K (.ref c_TooMuch) (.ref c_CurveError) = some true)
    (su_TooMuch_NoStream : PySem.W.subIn K (.ref c_TooMuch) (.ref c_NoStream) = some false)
    (su_TooMuch_TooLong : PySem.W.subIn K (.ref c_TooMuch) (.ref c_TooLong) = some false)
    (su_TooMuch_TooLittle : PySem.W.subIn K (.ref c_TooMuch) (.ref c_TooLittle) = some false)
    (su_TooMuch_Endless : PySem.W.subIn K (.ref c_TooMuch) (.ref c_Endless) = some false)
    (su_TooMuch_NoBack : PySem.W.subIn K (.ref c_TooMuch) (.ref c_NoBack) = some false)
    (su_TooMuch_NoCurve : PySem.W.subIn K (.ref c_TooMuch) (.ref c_NoCurve) = some false)
    (su_TooMuch_NoName : PySem.W.subIn K (.ref c_TooMuch) (.ref c_NoName) = some false)
    (su_TooMuch_NoNet : PySem.W.subIn K (.ref c_TooMuch) (.ref c_NoNet) = some false)
    (su_TooMuch_NoRow : PySem.W.subIn K (.ref c_TooMuch) (.ref c_NoRow) = some false)
    (su_TooMuch_NoText : PySem.W.subIn K (.ref c_TooMuch) (.ref c_NoText) = some false)
    (su_TooMuch_Ring : PySem.W.subIn K (.ref c_TooMuch) (.ref c_Ring) = some false)
    (kitY_TooMuch_ValueError : PySem.W.subIn K (.ref c_TooMuch) (.type "ValueError") = some true)
    (ea_TooLittle : PySem.W.findIn K (.ref c_TooLittle) "__getattribute__" = some (some (.builtin "BaseException.__getattribute__")))
    (eb_TooLittle : PySem.W.findIn K (.ref c_TooLittle) "__getattr__" = some none)
    (ed_TooLittle : PySem.W.hasDictIn K c_TooLittle = true)
    (ee_TooLittle : PySem.W.findIn K (.ref c_TooLittle) "__class__" = some (some (.builtin "object.__class__")))
    (em_TooLittle : PySem.W.mroIn K c_TooLittle (.type "object") = some true)
    (su_TooLittle_TooLittle : PySem.W.subIn K (.ref c_TooLittle) (.ref c_TooLittle) = some true)
    (su_TooLittle_CurveError : PySem.W.subIn K (.ref c_TooLittle) (.ref c_CurveError) = some true)
    (su_TooLittle_NoStream : PySem.W.subIn K (.ref c_TooLittle) (.ref c_NoStream) = some false)
    (su_TooLittle_TooLong : PySem.W.subIn K (.ref c_TooLittle) (.ref c_TooLong) = some false)
    (su_TooLittle_TooMuch : PySem.W.subIn K (.ref c_TooLittle) (.ref c_TooMuch) = some false)
    (su_TooLittle_Endless : PySem.W.subIn K (.ref c_TooLittle) (.ref c_Endless) = some false)
    (su_TooLittle_NoBack : PySem.W.subIn K (.ref c_TooLittle) (.ref c_NoBack) = some false)
    (su_TooLittle_NoCurve : PySem.W.subIn K (.ref c_TooLittle) (.ref c_NoCurve) = some false)
    (su_TooLittle_NoName : PySem.W.subIn K (.ref c_TooLittle) (.ref c_NoName) = some false)
    (su_TooLittle_NoNet : PySem.W.subIn K (.ref c_TooLittle) (.ref c_NoNet) = some false)
    (su_TooLittle_NoRow : PySem.W.subIn K (.ref c_TooLittle) (.ref c_NoRow) = some false)
    (su_TooLittle_NoText : PySem.W.subIn K (.ref c_TooLittle) (.ref c_NoText) = some false)
    (su_TooLittle_Ring : PySem.W.subIn K (.ref c_TooLittle) (.ref c_Ring) = some false)
    (kitY_TooLittle_ValueError : PySem.W.subIn K (.ref c_TooLittle) (.type "ValueError") = some true)
    (esp : PySem.W.specialIn K (.builtin "object.__class__") "__get__" = some (some (.builtin "getset_descriptor.__get__")))
    (etk : PySem.W.takesIn K (.builtin "object.__class__") = some true)
    (tab_law_owes : cd23 = .ref q_law_owes)
    (lc_law_owes : K.lookup q_law_owes = some ⟨ot_law_owes, oo_law_owes, .fields vs_law_owes, os_law_owes⟩)
    (vp_law_owes : vs_law_owes[11]? = some (.ref p_law_owes))
    (nl_law_owes : K.lookup p_law_owes = none)
    (ch_law_owes : PySem.W.codeHdIn K q_law_owes p_law_owes = true)
    (in_law_owes : p_law_owes ∈ tl)
    (tab_law_done : cd24 = .ref q_law_done)
    (lc_law_done : K.lookup q_law_done = some ⟨ot_law_done, oo_law_done, .fields vs_law_done, os_law_done⟩)
    (vp_law_done : vs_law_done[11]? = some (.ref p_law_done))
    (nl_law_done : K.lookup p_law_done = none)
    (ch_law_done : PySem.W.codeHdIn K q_law_done p_law_done = true)
    (in_law_done : p_law_done ∈ tl)
    (tab_law_filled : cd25 = .ref q_law_filled)
    (lc_law_filled : K.lookup q_law_filled = some ⟨ot_law_filled, oo_law_filled, .fields vs_law_filled, os_law_filled⟩)
    (vp_law_filled : vs_law_filled[11]? = some (.ref p_law_filled))
    (nl_law_filled : K.lookup p_law_filled = none)
    (ch_law_filled : PySem.W.codeHdIn K q_law_filled p_law_filled = true)
    (in_law_filled : p_law_filled ∈ tl)
    (ndt : [p_law_owes, p_law_done, p_law_filled].Nodup)
    : ∃ (fd : FuncData) (cs : List (Addr × Addr)) (ts : List (Addr × Str)), ts.map (·.1) = cs.map (·.2) ∧ (ts.map (·.1)).Nodup ∧ (∀ p ∈ cs, PySem.W.CodeHd h p.1 p.2 ∧ h.get? p.2 = some { cls := .none, data := .fields #[] }) ∧ (∀ p ∈ cs, K.lookup p.2 = none) ∧ (∀ (s : Shared) (v : Value), BindsTo s fd ⟨[v], []⟩ [("script", v)]) ∧
      ∀ base : Heap, K.In base → base.Ns mainGlobals mg → (∀ p ∈ cs, LamX.TabB base mg p.1 p.2) → FnG P w K mg base CX0 9 fa fd ["script"] (spD K (lawSpT 63 ts)) := by
  have e := hfa.symm.trans (PySem.W.mg_of X G a26)
  cases e
  have F0 := fun_mk (st := s_is_number) l0 y0 k0
  have B0 := F0.binds (ps := ["thing"]) fun _ _ _ _ _ _ us hl => match us, hl with | [_], _ => rfl
  have F1 := fun_mk (st := s_value) l1 y1 k1
  have B1 := F1.binds (ps := ["f", "t"]) fun _ _ _ _ _ _ us hl => match us, hl with | [_, _], _ => rfl
  have F2 := fun_mk (st := s_Meter_init) l2 y2 k2
  have B2 := F2.binds (ps := ["self", "f"]) fun _ _ _ _ _ _ us hl => match us, hl with | [_, _], _ => rfl
  have F3 := fun_mk (st := s_Meter_need_room) l3 y3 k3
  have B3 := F3.binds (ps := ["self", "turns"]) fun _ _ _ _ _ _ us hl => match us, hl with | [_, _], _ => rfl
  have F4 := fun_mk (st := s_Meter_leave) l4 y4 k4
  have B4 := F4.binds (ps := ["self"]) fun _ _ _ _ _ _ us hl => match us, hl with | [_], _ => rfl
  have F5 := fun_mk (st := s_Meter_told) l5 y5 k5
  have B5 := F5.binds (ps := ["self"]) fun _ _ _ _ _ _ us hl => match us, hl with | [_], _ => rfl
  have F6 := fun_mk (st := s_Run_init) l6 y6 k6
  have B6 := F6.binds (ps := ["self", "f", "g"]) fun _ _ _ _ _ _ us hl => match us, hl with | [_, _, _], _ => rfl
  have F7 := fun_mk (st := s_Run_leave) l7 y7 k7
  have B7 := F7.binds (ps := ["self"]) fun _ _ _ _ _ _ us hl => match us, hl with | [_], _ => rfl
  have F8 := fun_mk (st := s_Run_held) l8 y8 k8
  have B8 := F8.binds (ps := ["self"]) fun _ _ _ _ _ _ us hl => match us, hl with | [_], _ => rfl
  have F9 := fun_mk (st := s_Run_owed) l9 y9 k9
  have B9 := F9.binds (ps := ["self", "come"]) fun _ _ _ _ _ _ us hl => match us, hl with | [_, _], _ => rfl
  have F10 := fun_mk (st := s_Run_turn) l10 y10 k10
  have B10 := F10.binds (ps := ["self", "come", "go"]) fun _ _ _ _ _ _ us hl => match us, hl with | [_, _, _], _ => rfl
  have F11 := fun_mk (st := s_Run_told) l11 y11 k11
  have B11 := F11.binds (ps := ["self"]) fun _ _ _ _ _ _ us hl => match us, hl with | [_], _ => rfl
  have F12 := fun_mk (st := s_law_pen) l12 y12 k12
  have B12 := F12.binds (ps := ["script"]) fun _ _ _ _ _ _ us hl => match us, hl with | [_], _ => rfl
  have F13 := fun_mk (st := s_law_take) l13 y13 k13
  have B13 := F13.binds (ps := ["pen", "many"]) fun _ _ _ _ _ _ us hl => match us, hl with | [_, _], _ => rfl
  have F14 := fun_mk (st := s_law_at) l14 y14 k14
  have B14 := F14.binds (ps := ["f", "t"]) fun _ _ _ _ _ _ us hl => match us, hl with | [_, _], _ => rfl
  have F15 := fun_mk (st := s_law_curve) l15 y15 k15
  have B15 := F15.binds (ps := ["pen"]) fun _ _ _ _ _ _ us hl => match us, hl with | [_], _ => rfl
  have F16 := fun_mk (st := s_law_server) l16 y16 k16
  have B16 := F16.binds (ps := ["pen", "f", "slow"]) fun _ _ _ _ _ _ us hl => match us, hl with | [_, _, _], _ => rfl
  have F17 := fun_mk (st := s_law_word) l17 y17 k17
  have B17 := F17.binds (ps := ["asked"]) fun _ _ _ _ _ _ us hl => match us, hl with | [_], _ => rfl
  have F18 := fun_mk (st := s_law_leave) l18 y18 k18
  have B18 := F18.binds (ps := ["f", "came"]) fun _ _ _ _ _ _ us hl => match us, hl with | [_, _], _ => rfl
  have F19 := fun_mk (st := s_law_owed) l19 y19 k19
  have B19 := F19.binds (ps := ["g", "came", "gone", "more"]) fun _ _ _ _ _ _ us hl => match us, hl with | [_, _, _, _], _ => rfl
  have F20 := fun_mk (st := s_law_odd) l20 y20 k20
  have B20 := F20.binds (ps := ["pen"]) fun _ _ _ _ _ _ us hl => match us, hl with | [_], _ => rfl
  have F21 := fun_mk (st := s_law_asked) l21 y21 k21
  have B21 := F21.binds (ps := ["pen", "f", "g", "came", "gone"]) fun _ _ _ _ _ _ us hl => match us, hl with | [_, _, _, _, _], _ => rfl
  have F22 := fun_mk (st := s_law_stands) l22 y22 k22
  have B22 := F22.binds (ps := ["run", "f", "g", "came", "gone"]) fun _ _ _ _ _ _ us hl => match us, hl with | [_, _, _, _, _], _ => rfl
  have F23 := fun_mk (st := s_law_owes) l23 y23 k23
  have B23 := F23.binds (ps := ["run", "f", "g", "came", "gone", "come"]) fun _ _ _ _ _ _ us hl => match us, hl with | [_, _, _, _, _, _], _ => rfl
  have F24 := fun_mk (st := s_law_done) l24 y24 k24
  have B24 := F24.binds (ps := ["pen", "run", "f", "g", "came", "gone"]) fun _ _ _ _ _ _ us hl => match us, hl with | [_, _, _, _, _, _], _ => rfl
  have F25 := fun_mk (st := s_law_filled) l25 y25 k25
  have B25 := F25.binds (ps := ["run", "f", "g", "came", "gone", "odd"]) fun _ _ _ _ _ _ us hl => match us, hl with | [_, _, _, _, _, _], _ => rfl
  have F26 := fun_mk (st := s_law) l26 y26 k26
  have B26 := F26.binds (ps := ["script"]) fun _ _ _ _ _ _ us hl => match us, hl with | [_], _ => rfl
  have T : Tx K mg { f_is_number := f0, d_is_number := _, f_value := f1, d_value := _, f_Meter_init := f2, d_Meter_init := _, f_Meter_need_room := f3, d_Meter_need_room := _, f_Meter_leave := f4, d_Meter_leave := _, f_Meter_told := f5, d_Meter_told := _, f_Run_init := f6, d_Run_init := _, f_Run_leave := f7, d_Run_leave := _, f_Run_held := f8, d_Run_held := _, f_Run_owed := f9, d_Run_owed := _, f_Run_turn := f10, d_Run_turn := _, f_Run_told := f11, d_Run_told := _, f_law_pen := f12, d_law_pen := _, f_law_take := f13, d_law_take := _, f_law_at := f14, d_law_at := _, f_law_curve := f15, d_law_curve := _, f_law_server := f16, d_law_server := _, f_law_word := f17, d_law_word := _, f_law_leave := f18, d_law_leave := _, f_law_owed := f19, d_law_owed := _, f_law_odd := f20, d_law_odd := _, f_law_asked := f21, d_law_asked := _, f_law_stands := f22, d_law_stands := _, f_law_owes := f23, d_law_owes := _, f_law_done := f24, d_law_done := _, f_law_filled := f25, d_law_filled := _, f_law := fa, d_law := _, c_Meter := c_Meter, c_Run := c_Run, c_CurveError := c_CurveError, c_NoCurve := c_NoCurve, c_TooLong := c_TooLong, c_Endless := c_Endless, c_NoStream := c_NoStream, c_NoNet := c_NoNet, c_Ring := c_Ring, c_TooMuch := c_TooMuch, c_TooLittle := c_TooLittle, c_NoBack := c_NoBack, c_NoText := c_NoText, c_NoRow := c_NoRow, c_NoName := c_NoName, p_law_owes := p_law_owes, q_law_owes := q_law_owes, p_law_done := p_law_done, q_law_done := q_law_done, p_law_filled := p_law_filled, q_law_filled := q_law_filled } := {
    F_is_number := F0, b_is_number := B0,
    g_is_number := PySem.W.mg_of X G a0,
    F_value := F1, b_value := B1,
    g_value := PySem.W.mg_of X G a1,
    F_Meter_init := F2, b_Meter_init := B2,
    k_Meter := ⟨mk_Meter, a2, i2, kc_Meter⟩,
    F_Meter_need_room := F3, b_Meter_need_room := B3,
    m_Meter_need_room := ⟨a3, i3, k3⟩,
    F_Meter_leave := F4, b_Meter_leave := B4,
    m_Meter_leave := ⟨a4, i4, k4⟩,
    F_Meter_told := F5, b_Meter_told := B5,
    m_Meter_told := ⟨a5, i5, k5⟩,
    F_Run_init := F6, b_Run_init := B6,
    k_Run := ⟨mk_Run, a6, i6, kc_Run⟩,
    F_Run_leave := F7, b_Run_leave := B7,
    m_Run_leave := ⟨a7, i7, k7⟩,
    F_Run_held := F8, b_Run_held := B8,
    m_Run_held := ⟨a8, i8, k8⟩,
    F_Run_owed := F9, b_Run_owed := B9,
    m_Run_owed := ⟨a9, i9, k9⟩,
    F_Run_turn := F10, b_Run_turn := B10,
    m_Run_turn := ⟨a10, i10, k10⟩,
    F_Run_told := F11, b_Run_told := B11,
    m_Run_told := ⟨a11, i11, k11⟩,
    F_law_pen := F12, b_law_pen := B12,
    g_law_pen := PySem.W.mg_of X G a12,
    F_law_take := F13, b_law_take := B13,
    g_law_take := PySem.W.mg_of X G a13,
    F_law_at := F14, b_law_at := B14,
    g_law_at := PySem.W.mg_of X G a14,
    F_law_curve := F15, b_law_curve := B15,
    g_law_curve := PySem.W.mg_of X G a15,
    F_law_server := F16, b_law_server := B16,
    g_law_server := PySem.W.mg_of X G a16,
    F_law_word := F17, b_law_word := B17,
    g_law_word := PySem.W.mg_of X G a17,
    F_law_leave := F18, b_law_leave := B18,
    g_law_leave := PySem.W.mg_of X G a18,
    F_law_owed := F19, b_law_owed := B19,
    g_law_owed := PySem.W.mg_of X G a19,
    F_law_odd := F20, b_law_odd := B20,
    g_law_odd := PySem.W.mg_of X G a20,
    F_law_asked := F21, b_law_asked := B21,
    g_law_asked := PySem.W.mg_of X G a21,
    F_law_stands := F22, b_law_stands := B22,
    g_law_stands := PySem.W.mg_of X G a22,
    F_law_owes := F23, b_law_owes := B23,
    g_law_owes := PySem.W.mg_of X G a23,
    F_law_done := F24, b_law_done := B24,
    g_law_done := PySem.W.mg_of X G a24,
    F_law_filled := F25, b_law_filled := B25,
    g_law_filled := PySem.W.mg_of X G a25,
    F_law := F26, b_law := B26,
    g_law := PySem.W.mg_of X G a26,
    cl_Meter := ⟨pg_Meter, hd_Meter, po_Meter, sa_Meter⟩, g_Meter := PySem.W.mg_of X G a_Meter,
    cl_Run := ⟨pg_Run, hd_Run, po_Run, sa_Run⟩, g_Run := PySem.W.mg_of X G a_Run,
    n_Meter_curve := n_Meter_curve,
    n_Meter_most := n_Meter_most,
    n_Meter_tallies := n_Meter_tallies,
    n_Run_gone := n_Run_gone,
    n_Run_meter := n_Run_meter,
    n_Run_server := n_Run_server,
    z_ValueError := PySem.W.mg_none_of X G z_ValueError,
    z_abs := PySem.W.mg_none_of X G z_abs,
    z_bool := PySem.W.mg_none_of X G z_bool,
    z_int := PySem.W.mg_none_of X G z_int,
    z_isinstance := PySem.W.mg_none_of X G z_isinstance,
    z_len := PySem.W.mg_none_of X G z_len,
    z_list := PySem.W.mg_none_of X G z_list,
    z_max := PySem.W.mg_none_of X G z_max,
    z_min := PySem.W.mg_none_of X G z_min,
    z_range := PySem.W.mg_none_of X G z_range,
    z_repr := PySem.W.mg_none_of X G z_repr,
    z_tuple := PySem.W.mg_none_of X G z_tuple,
    k_MOST_TURNS := ⟨_, PySem.W.mg_of X G k_MOST_TURNS⟩,
    g_CurveError := PySem.W.mg_of X G g_CurveError,
    g_NoCurve := PySem.W.mg_of X G g_NoCurve,
    g_TooLong := PySem.W.mg_of X G g_TooLong,
    g_Endless := PySem.W.mg_of X G g_Endless,
    g_NoStream := PySem.W.mg_of X G g_NoStream,
    g_NoNet := PySem.W.mg_of X G g_NoNet,
    g_Ring := PySem.W.mg_of X G g_Ring,
    g_TooMuch := PySem.W.mg_of X G g_TooMuch,
    g_TooLittle := PySem.W.mg_of X G g_TooLittle,
    g_NoBack := PySem.W.mg_of X G g_NoBack,
    g_NoText := PySem.W.mg_of X G g_NoText,
    g_NoRow := PySem.W.mg_of X G g_NoRow,
    g_NoName := PySem.W.mg_of X G g_NoName,
    x_NoStream := x_NoStream,
    kp_NoStream := kp_NoStream,
    be_NoStream := be_NoStream,
    ty_NoStream := ty_NoStream,
    x_TooLong := x_TooLong,
    kp_TooLong := kp_TooLong,
    be_TooLong := be_TooLong,
    ty_TooLong := ty_TooLong,
    x_TooMuch := x_TooMuch,
    kp_TooMuch := kp_TooMuch,
    be_TooMuch := be_TooMuch,
    ty_TooMuch := ty_TooMuch,
    x_TooLittle := x_TooLittle,
    kp_TooLittle := kp_TooLittle,
    be_TooLittle := be_TooLittle,
    ty_TooLittle := ty_TooLittle,
    hc_CurveError := by
      intro z hz
      simp only [List.mem_cons, List.not_mem_nil, or_false] at hz
      rcases hz with rfl | rfl | rfl | rfl
      · exact exm1 be_CurveError ci_CurveError ty_CurveError su_NoStream_CurveError
      · exact exm1 be_CurveError ci_CurveError ty_CurveError su_TooLong_CurveError
      · exact exm1 be_CurveError ci_CurveError ty_CurveError su_TooMuch_CurveError
      · exact exm1 be_CurveError ci_CurveError ty_CurveError su_TooLittle_CurveError,
    e_NoStream := by
      intro z hz
      simp only [List.mem_cons, List.not_mem_nil, or_false] at hz
      rcases hz with rfl | rfl | rfl | rfl
      · exact ⟨⟨ea_NoStream, eb_NoStream, be_NoStream, ed_NoStream, ee_NoStream, esp, etk, em_NoStream⟩, kit1 ci_NoStream ty_NoStream su_NoStream_NoStream su_NoStream_NoStream⟩
      · exact ⟨⟨ea_TooLong, eb_TooLong, be_TooLong, ed_TooLong, ee_TooLong, esp, etk, em_TooLong⟩, kit1 ci_NoStream ty_NoStream su_TooLong_NoStream su_TooLong_TooLong⟩
      · exact ⟨⟨ea_TooMuch, eb_TooMuch, be_TooMuch, ed_TooMuch, ee_TooMuch, esp, etk, em_TooMuch⟩, kit1 ci_NoStream ty_NoStream su_TooMuch_NoStream su_TooMuch_TooMuch⟩
      · exact ⟨⟨ea_TooLittle, eb_TooLittle, be_TooLittle, ed_TooLittle, ee_TooLittle, esp, etk, em_TooLittle⟩, kit1 ci_NoStream ty_NoStream su_TooLittle_NoStream su_TooLittle_TooLittle⟩,
    e_TooLong := by
      intro z hz
      simp only [List.mem_cons, List.not_mem_nil, or_false] at hz
      rcases hz with rfl | rfl | rfl | rfl
      · exact ⟨⟨ea_NoStream, eb_NoStream, be_NoStream, ed_NoStream, ee_NoStream, esp, etk, em_NoStream⟩, kit1 ci_TooLong ty_TooLong su_NoStream_TooLong su_NoStream_NoStream⟩
      · exact ⟨⟨ea_TooLong, eb_TooLong, be_TooLong, ed_TooLong, ee_TooLong, esp, etk, em_TooLong⟩, kit1 ci_TooLong ty_TooLong su_TooLong_TooLong su_TooLong_TooLong⟩
      · exact ⟨⟨ea_TooMuch, eb_TooMuch, be_TooMuch, ed_TooMuch, ee_TooMuch, esp, etk, em_TooMuch⟩, kit1 ci_TooLong ty_TooLong su_TooMuch_TooLong su_TooMuch_TooMuch⟩
      · exact ⟨⟨ea_TooLittle, eb_TooLittle, be_TooLittle, ed_TooLittle, ee_TooLittle, esp, etk, em_TooLittle⟩, kit1 ci_TooLong ty_TooLong su_TooLittle_TooLong su_TooLittle_TooLittle⟩,
    e_TooMuch := by
      intro z hz
      simp only [List.mem_cons, List.not_mem_nil, or_false] at hz
      rcases hz with rfl | rfl | rfl | rfl
      · exact ⟨⟨ea_NoStream, eb_NoStream, be_NoStream, ed_NoStream, ee_NoStream, esp, etk, em_NoStream⟩, kit1 ci_TooMuch ty_TooMuch su_NoStream_TooMuch su_NoStream_NoStream⟩
      · exact ⟨⟨ea_TooLong, eb_TooLong, be_TooLong, ed_TooLong, ee_TooLong, esp, etk, em_TooLong⟩, kit1 ci_TooMuch ty_TooMuch su_TooLong_TooMuch su_TooLong_TooLong⟩
      · exact ⟨⟨ea_TooMuch, eb_TooMuch, be_TooMuch, ed_TooMuch, ee_TooMuch, esp, etk, em_TooMuch⟩, kit1 ci_TooMuch ty_TooMuch su_TooMuch_TooMuch su_TooMuch_TooMuch⟩
      · exact ⟨⟨ea_TooLittle, eb_TooLittle, be_TooLittle, ed_TooLittle, ee_TooLittle, esp, etk, em_TooLittle⟩, kit1 ci_TooMuch ty_TooMuch su_TooLittle_TooMuch su_TooLittle_TooLittle⟩,
    e_TooLittle := by
      intro z hz
      simp only [List.mem_cons, List.not_mem_nil, or_false] at hz
      rcases hz with rfl | rfl | rfl | rfl
      · exact ⟨⟨ea_NoStream, eb_NoStream, be_NoStream, ed_NoStream, ee_NoStream, esp, etk, em_NoStream⟩, kit1 ci_TooLittle ty_TooLittle su_NoStream_TooLittle su_NoStream_NoStream⟩
      · exact ⟨⟨ea_TooLong, eb_TooLong, be_TooLong, ed_TooLong, ee_TooLong, esp, etk, em_TooLong⟩, kit1 ci_TooLittle ty_TooLittle su_TooLong_TooLittle su_TooLong_TooLong⟩
      · exact ⟨⟨ea_TooMuch, eb_TooMuch, be_TooMuch, ed_TooMuch, ee_TooMuch, esp, etk, em_TooMuch⟩, kit1 ci_TooLittle ty_TooLittle su_TooMuch_TooLittle su_TooMuch_TooMuch⟩
      · exact ⟨⟨ea_TooLittle, eb_TooLittle, be_TooLittle, ed_TooLittle, ee_TooLittle, esp, etk, em_TooLittle⟩, kit1 ci_TooLittle ty_TooLittle su_TooLittle_TooLittle su_TooLittle_TooLittle⟩,
    e_ValueError := by
      intro z hz
      simp only [List.mem_cons, List.not_mem_nil, or_false] at hz
      rcases hz with rfl | rfl | rfl | rfl
      · exact ⟨⟨ea_NoStream, eb_NoStream, be_NoStream, ed_NoStream, ee_NoStream, esp, etk, em_NoStream⟩, kit2 (by decide +kernel) kitY_NoStream_ValueError⟩
      · exact ⟨⟨ea_TooLong, eb_TooLong, be_TooLong, ed_TooLong, ee_TooLong, esp, etk, em_TooLong⟩, kit2 (by decide +kernel) kitY_TooLong_ValueError⟩
      · exact ⟨⟨ea_TooMuch, eb_TooMuch, be_TooMuch, ed_TooMuch, ee_TooMuch, esp, etk, em_TooMuch⟩, kit2 (by decide +kernel) kitY_TooMuch_ValueError⟩
      · exact ⟨⟨ea_TooLittle, eb_TooLittle, be_TooLittle, ed_TooLittle, ee_TooLittle, esp, etk, em_TooLittle⟩, kit2 (by decide +kernel) kitY_TooLittle_ValueError⟩,
    et_0 := by
      intro z hz
      simp only [List.mem_cons, List.not_mem_nil, or_false] at hz
      rcases hz with rfl | rfl | rfl | rfl
      · exact ⟨⟨ea_NoStream, eb_NoStream, be_NoStream, ed_NoStream, ee_NoStream, esp, etk, em_NoStream⟩, kitN fun c hc => by
          simp only [List.mem_cons, List.not_mem_nil, or_false] at hc
          rcases hc with rfl | rfl | rfl | rfl | rfl | rfl | rfl | rfl
          · exact kit1 ci_Endless ty_Endless su_NoStream_Endless su_NoStream_NoStream
          · exact kit1 ci_NoBack ty_NoBack su_NoStream_NoBack su_NoStream_NoStream
          · exact kit1 ci_NoCurve ty_NoCurve su_NoStream_NoCurve su_NoStream_NoStream
          · exact kit1 ci_NoName ty_NoName su_NoStream_NoName su_NoStream_NoStream
          · exact kit1 ci_NoNet ty_NoNet su_NoStream_NoNet su_NoStream_NoStream
          · exact kit1 ci_NoRow ty_NoRow su_NoStream_NoRow su_NoStream_NoStream
          · exact kit1 ci_NoText ty_NoText su_NoStream_NoText su_NoStream_NoStream
          · exact kit1 ci_Ring ty_Ring su_NoStream_Ring su_NoStream_NoStream⟩
      · exact ⟨⟨ea_TooLong, eb_TooLong, be_TooLong, ed_TooLong, ee_TooLong, esp, etk, em_TooLong⟩, kitN fun c hc => by
          simp only [List.mem_cons, List.not_mem_nil, or_false] at hc
          rcases hc with rfl | rfl | rfl | rfl | rfl | rfl | rfl | rfl
          · exact kit1 ci_Endless ty_Endless su_TooLong_Endless su_TooLong_TooLong
          · exact kit1 ci_NoBack ty_NoBack su_TooLong_NoBack su_TooLong_TooLong
          · exact kit1 ci_NoCurve ty_NoCurve su_TooLong_NoCurve su_TooLong_TooLong
          · exact kit1 ci_NoName ty_NoName su_TooLong_NoName su_TooLong_TooLong
          · exact kit1 ci_NoNet ty_NoNet su_TooLong_NoNet su_TooLong_TooLong
          · exact kit1 ci_NoRow ty_NoRow su_TooLong_NoRow su_TooLong_TooLong
          · exact kit1 ci_NoText ty_NoText su_TooLong_NoText su_TooLong_TooLong
          · exact kit1 ci_Ring ty_Ring su_TooLong_Ring su_TooLong_TooLong⟩
      · exact ⟨⟨ea_TooMuch, eb_TooMuch, be_TooMuch, ed_TooMuch, ee_TooMuch, esp, etk, em_TooMuch⟩, kitN fun c hc => by
          simp only [List.mem_cons, List.not_mem_nil, or_false] at hc
          rcases hc with rfl | rfl | rfl | rfl | rfl | rfl | rfl | rfl
          · exact kit1 ci_Endless ty_Endless su_TooMuch_Endless su_TooMuch_TooMuch
          · exact kit1 ci_NoBack ty_NoBack su_TooMuch_NoBack su_TooMuch_TooMuch
          · exact kit1 ci_NoCurve ty_NoCurve su_TooMuch_NoCurve su_TooMuch_TooMuch
          · exact kit1 ci_NoName ty_NoName su_TooMuch_NoName su_TooMuch_TooMuch
          · exact kit1 ci_NoNet ty_NoNet su_TooMuch_NoNet su_TooMuch_TooMuch
          · exact kit1 ci_NoRow ty_NoRow su_TooMuch_NoRow su_TooMuch_TooMuch
          · exact kit1 ci_NoText ty_NoText su_TooMuch_NoText su_TooMuch_TooMuch
          · exact kit1 ci_Ring ty_Ring su_TooMuch_Ring su_TooMuch_TooMuch⟩
      · exact ⟨⟨ea_TooLittle, eb_TooLittle, be_TooLittle, ed_TooLittle, ee_TooLittle, esp, etk, em_TooLittle⟩, kitN fun c hc => by
          simp only [List.mem_cons, List.not_mem_nil, or_false] at hc
          rcases hc with rfl | rfl | rfl | rfl | rfl | rfl | rfl | rfl
          · exact kit1 ci_Endless ty_Endless su_TooLittle_Endless su_TooLittle_TooLittle
          · exact kit1 ci_NoBack ty_NoBack su_TooLittle_NoBack su_TooLittle_TooLittle
          · exact kit1 ci_NoCurve ty_NoCurve su_TooLittle_NoCurve su_TooLittle_TooLittle
          · exact kit1 ci_NoName ty_NoName su_TooLittle_NoName su_TooLittle_TooLittle
          · exact kit1 ci_NoNet ty_NoNet su_TooLittle_NoNet su_TooLittle_TooLittle
          · exact kit1 ci_NoRow ty_NoRow su_TooLittle_NoRow su_TooLittle_TooLittle
          · exact kit1 ci_NoText ty_NoText su_TooLittle_NoText su_TooLittle_TooLittle
          · exact kit1 ci_Ring ty_Ring su_TooLittle_Ring su_TooLittle_TooLittle⟩,
    tab_law_owes := tab_law_owes,
    tab_law_done := tab_law_done,
    tab_law_filled := tab_law_filled }
  exact ⟨_, [(q_law_owes, p_law_owes), (q_law_done, p_law_done), (q_law_filled, p_law_filled)], [(p_law_owes, (("_law_owes" : Str) ++ ".<locals>.") ++ "<lambda>"), (p_law_done, (("_law_done" : Str) ++ ".<locals>.") ++ "<lambda>"), (p_law_filled, (("_law_filled" : Str) ++ ".<locals>.") ++ "<lambda>")], rfl, ndt, (by
      intro z hz
      simp only [List.mem_cons, List.not_mem_nil, or_false] at hz
      rcases hz with rfl | rfl | rfl
      · exact ⟨PySem.W.codeHd_of_K X ch_law_owes, hTab _ in_law_owes⟩
      · exact ⟨PySem.W.codeHd_of_K X ch_law_done, hTab _ in_law_done⟩
      · exact ⟨PySem.W.codeHd_of_K X ch_law_filled, hTab _ in_law_filled⟩), (by
      intro z hz
      simp only [List.mem_cons, List.not_mem_nil, or_false] at hz
      rcases hz with rfl | rfl | rfl
      · exact nl_law_owes
      · exact nl_law_done
      · exact nl_law_filled), fun s v => .of_eq rfl, fun base _ _ hTB => ok_law T (hTB (q_law_owes, p_law_owes) (by simp)) (hTB (q_law_done, p_law_done) (by simp)) (hTB (q_law_filled, p_law_filled) (by simp))⟩
end K56

open PySem PySem.W PyProof.Rows
set_option maxRecDepth 100000 in
set_option maxHeartbeats 0 in
theorem PySem.Challenge.cw_arrivalcurves_k56_runs_holds : PySem.Challenge.rw_arrivalcurves_k56_runs.Holds := by
  w_on; o_law; k_head; (case hw => w_witness2)
  k_fill
  refine Dl.walk_t (l := PySem.Challenge.rw_arrivalcurves_k56_runs) (n := 63) (k := 9) (x := "script") rfl (by decide) rfl ⟨rfl, by decide, by decide⟩ (fun w h Y => PySem.W.km_in_of Y) (fun w h Y => PySem.W.km_tabs_of Y) ?F
  case F =>
    intro w mg fa h KX G hmg hTab
    refine' K56.all_mk KX G hmg hTab ?a_Meter ?a_Run ?a0 ?l0 ?y0 ?k0 ?a1 ?l1 ?y1 ?k1 ?a2 ?i2 ?l2 ?y2 ?k2 ?a3 ?i3 ?l3 ?y3 ?k3 ?a4 ?i4 ?l4 ?y4 ?k4 ?a5 ?i5 ?l5 ?y5 ?k5 ?a6 ?i6 ?l6 ?y6 ?k6 ?a7 ?i7 ?l7 ?y7 ?k7 ?a8 ?i8 ?l8 ?y8 ?k8 ?a9 ?i9 ?l9 ?y9 ?k9 ?a10 ?i10 ?l10 ?y10 ?k10 ?a11 ?i11 ?l11 ?y11 ?k11 ?a12 ?l12 ?y12 ?k12 ?a13 ?l13 ?y13 ?k13 ?a14 ?l14 ?y14 ?k14 ?a15 ?l15 ?y15 ?k15 ?a16 ?l16 ?y16 ?k16 ?a17 ?l17 ?y17 ?k17 ?a18 ?l18 ?y18 ?k18 ?a19 ?l19 ?y19 ?k19 ?a20 ?l20 ?y20 ?k20 ?a21 ?l21 ?y21 ?k21 ?a22 ?l22 ?y22 ?k22 ?a23 ?l23 ?y23 ?k23 ?a24 ?l24 ?y24 ?k24 ?a25 ?l25 ?y25 ?k25 ?a26 ?l26 ?y26 ?k26 ?pg_Meter ?hd_Meter ?po_Meter ?sa_Meter ?mk_Meter ?kc_Meter ?pg_Run ?hd_Run ?po_Run ?sa_Run ?mk_Run ?kc_Run ?n_Meter_curve ?n_Meter_most ?n_Meter_tallies ?n_Run_gone ?n_Run_meter ?n_Run_server ?z_ValueError ?z_abs ?z_bool ?z_int ?z_isinstance ?z_len ?z_list ?z_max ?z_min ?z_range ?z_repr ?z_tuple ?k_MOST_TURNS ?g_CurveError ?g_NoCurve ?g_TooLong ?g_Endless ?g_NoStream ?g_NoNet ?g_Ring ?g_TooMuch ?g_TooLittle ?g_NoBack ?g_NoText ?g_NoRow ?g_NoName ?x_NoStream ?kp_NoStream ?x_TooLong ?kp_TooLong ?x_TooMuch ?kp_TooMuch ?x_TooLittle ?kp_TooLittle ?be_NoStream ?be_TooLong ?be_TooMuch ?be_TooLittle ?be_CurveError ?ty_NoStream ?ty_TooLong ?ty_TooMuch ?ty_TooLittle ?ty_CurveError ?ty_Endless ?ty_NoBack ?ty_NoCurve ?ty_NoName ?ty_NoNet ?ty_NoRow ?ty_NoText ?ty_Ring ?ci_CurveError ?ci_NoStream ?ci_TooLong ?ci_TooMuch ?ci_TooLittle ?ci_Endless ?ci_NoBack ?ci_NoCurve ?ci_NoName ?ci_NoNet ?ci_NoRow ?ci_NoText ?ci_Ring ?ea_NoStream ?eb_NoStream ?ed_NoStream ?ee_NoStream ?em_NoStream ?su_NoStream_NoStream ?su_NoStream_CurveError ?su_NoStream_TooLong ?su_NoStream_TooMuch ?su_NoStream_TooLittle ?su_NoStream_Endless ?su_NoStream_NoBack ?su_NoStream_NoCurve ?su_NoStream_NoName ?su_NoStream_NoNet ?su_NoStream_NoRow ?su_NoStream_NoText ?su_NoStream_Ring ?kitY_NoStream_ValueError ?ea_TooLong ?eb_TooLong ?ed_TooLong ?ee_TooLong ?em_TooLong ?su_TooLong_TooLong ?su_TooLong_CurveError ?su_TooLong_NoStream ?su_TooLong_TooMuch ?su_TooLong_TooLittle ?su_TooLong_Endless ?su_TooLong_NoBack ?su_TooLong_NoCurve ?su_TooLong_NoName ?su_TooLong_NoNet ?su_TooLong_NoRow ?su_TooLong_NoText ?su_TooLong_Ring ?kitY_TooLong_ValueError ?ea_TooMuch ?eb_TooMuch ?ed_TooMuch ?ee_TooMuch ?em_TooMuch ?su_TooMuch_TooMuch ?su_TooMuch_CurveError ?su_TooMuch_NoStream ?su_TooMuch_TooLong ?su_TooMuch_TooLittle ?su_TooMuch_Endless ?su_TooMuch_NoBack ?su_TooMuch_NoCurve ?su_TooMuch_NoName ?su_TooMuch_NoNet ?su_TooMuch_NoRow ?su_TooMuch_NoText ?su_TooMuch_Ring ?kitY_TooMuch_ValueError ?ea_TooLittle ?eb_TooLittle ?ed_TooLittle ?ee_TooLittle ?em_TooLittle ?su_TooLittle_TooLittle ?su_TooLittle_CurveError ?su_TooLittle_NoStream ?su_TooLittle_TooLong ?su_TooLittle_TooMuch ?su_TooLittle_Endless ?su_TooLittle_NoBack ?su_TooLittle_NoCurve ?su_TooLittle_NoName ?su_TooLittle_NoNet ?su_TooLittle_NoRow ?su_TooLittle_NoText ?su_TooLittle_Ring ?kitY_TooLittle_ValueError ?esp ?etk ?tab_law_owes ?lc_law_owes ?vp_law_owes ?nl_law_owes ?ch_law_owes ?in_law_owes ?tab_law_done ?lc_law_done ?vp_law_done ?nl_law_done ?ch_law_done ?in_law_done ?tab_law_filled ?lc_law_filled ?vp_law_filled ?nl_law_filled ?ch_law_filled ?in_law_filled ?ndt
    (case a_Meter => k_is)
    (case a_Run => k_is)
    (case a0 => k_is)
    (case l0 => k_is)
    (case y0 => k_is)
    (case k0 => k_is)
    (case a1 => k_is)
    (case l1 => k_is)
    (case y1 => k_is)
    (case k1 => k_is)
    (case a2 => k_is)
    (case i2 => k_is)
    (case l2 => k_is)
    (case y2 => k_is)
    (case k2 => k_is)
    (case a3 => k_is)
    (case i3 => k_is)
    (case l3 => k_is)
    (case y3 => k_is)
    (case k3 => k_is)
    (case a4 => k_is)
    (case i4 => k_is)
    (case l4 => k_is)
    (case y4 => k_is)
    (case k4 => k_is)
    (case a5 => k_is)
    (case i5 => k_is)
    (case l5 => k_is)
    (case y5 => k_is)
    (case k5 => k_is)
    (case a6 => k_is)
    (case i6 => k_is)
    (case l6 => k_is)
    (case y6 => k_is)
    (case k6 => k_is)
    (case a7 => k_is)
    (case i7 => k_is)
    (case l7 => k_is)
    (case y7 => k_is)
    (case k7 => k_is)
    (case a8 => k_is)
    (case i8 => k_is)
    (case l8 => k_is)
    (case y8 => k_is)
    (case k8 => k_is)
    (case a9 => k_is)
    (case i9 => k_is)
    (case l9 => k_is)
    (case y9 => k_is)
    (case k9 => k_is)
    (case a10 => k_is)
    (case i10 => k_is)
    (case l10 => k_is)
    (case y10 => k_is)
    (case k10 => k_is)
    (case a11 => k_is)
    (case i11 => k_is)
    (case l11 => k_is)
    (case y11 => k_is)
    (case k11 => k_is)
    (case a12 => k_is)
    (case l12 => k_is)
    (case y12 => k_is)
    (case k12 => k_is)
    (case a13 => k_is)
    (case l13 => k_is)
    (case y13 => k_is)
    (case k13 => k_is)
    (case a14 => k_is)
    (case l14 => k_is)
    (case y14 => k_is)
    (case k14 => k_is)
    (case a15 => k_is)
    (case l15 => k_is)
    (case y15 => k_is)
    (case k15 => k_is)
    (case a16 => k_is)
    (case l16 => k_is)
    (case y16 => k_is)
    (case k16 => k_is)
    (case a17 => k_is)
    (case l17 => k_is)
    (case y17 => k_is)
    (case k17 => k_is)
    (case a18 => k_is)
    (case l18 => k_is)
    (case y18 => k_is)
    (case k18 => k_is)
    (case a19 => k_is)
    (case l19 => k_is)
    (case y19 => k_is)
    (case k19 => k_is)
    (case a20 => k_is)
    (case l20 => k_is)
    (case y20 => k_is)
    (case k20 => k_is)
    (case a21 => k_is)
    (case l21 => k_is)
    (case y21 => k_is)
    (case k21 => k_is)
    (case a22 => k_is)
    (case l22 => k_is)
    (case y22 => k_is)
    (case k22 => k_is)
    (case a23 => k_is)
    (case l23 => k_is)
    (case y23 => k_is)
    (case k23 => k_is)
    (case a24 => k_is)
    (case l24 => k_is)
    (case y24 => k_is)
    (case k24 => k_is)
    (case a25 => k_is)
    (case l25 => k_is)
    (case y25 => k_is)
    (case k25 => k_is)
    (case a26 => k_is)
    (case l26 => k_is)
    (case y26 => k_is)
    (case k26 => k_is)
    (case pg_Meter => k_is)
    (case hd_Meter => k_is)
    (case po_Meter => k_is)
    (case sa_Meter => k_is)
    (case mk_Meter => k_is)
    (case kc_Meter => k_is)
    (case pg_Run => k_is)
    (case hd_Run => k_is)
    (case po_Run => k_is)
    (case sa_Run => k_is)
    (case mk_Run => k_is)
    (case kc_Run => k_is)
    (case n_Meter_curve => k_is)
    (case n_Meter_most => k_is)
    (case n_Meter_tallies => k_is)
    (case n_Run_gone => k_is)
    (case n_Run_meter => k_is)
    (case n_Run_server => k_is)
    (case z_ValueError => k_is)
    (case z_abs => k_is)
    (case z_bool => k_is)
    (case z_int => k_is)
    (case z_isinstance => k_is)
    (case z_len => k_is)
    (case z_list => k_is)
    (case z_max => k_is)
    (case z_min => k_is)
    (case z_range => k_is)
    (case z_repr => k_is)
    (case z_tuple => k_is)
    (case k_MOST_TURNS => k_is)
    (case g_CurveError => k_is)
    (case g_NoCurve => k_is)
    (case g_TooLong => k_is)
    (case g_Endless => k_is)
    (case g_NoStream => k_is)
    (case g_NoNet => k_is)
    (case g_Ring => k_is)
    (case g_TooMuch => k_is)
    (case g_TooLittle => k_is)
    (case g_NoBack => k_is)
    (case g_NoText => k_is)
    (case g_NoRow => k_is)
    (case g_NoName => k_is)
    (case x_NoStream => k_exc)
    (case kp_NoStream => k_is)
    (case x_TooLong => k_exc)
    (case kp_TooLong => k_is)
    (case x_TooMuch => k_exc)
    (case kp_TooMuch => k_is)
    (case x_TooLittle => k_exc)
    (case kp_TooLittle => k_is)
    (case be_NoStream => k_is)
    (case be_TooLong => k_is)
    (case be_TooMuch => k_is)
    (case be_TooLittle => k_is)
    (case be_CurveError => k_is)
    (case ty_NoStream => k_is)
    (case ty_TooLong => k_is)
    (case ty_TooMuch => k_is)
    (case ty_TooLittle => k_is)
    (case ty_CurveError => k_is)
    (case ty_Endless => k_is)
    (case ty_NoBack => k_is)
    (case ty_NoCurve => k_is)
    (case ty_NoName => k_is)
    (case ty_NoNet => k_is)
    (case ty_NoRow => k_is)
    (case ty_NoText => k_is)
    (case ty_Ring => k_is)
    (case ci_CurveError => k_is)
    (case ci_NoStream => k_is)
    (case ci_TooLong => k_is)
    (case ci_TooMuch => k_is)
    (case ci_TooLittle => k_is)
    (case ci_Endless => k_is)
    (case ci_NoBack => k_is)
    (case ci_NoCurve => k_is)
    (case ci_NoName => k_is)
    (case ci_NoNet => k_is)
    (case ci_NoRow => k_is)
    (case ci_NoText => k_is)
    (case ci_Ring => k_is)
    (case ea_NoStream => k_is)
    (case eb_NoStream => k_is)
    (case ed_NoStream => k_is)
    (case ee_NoStream => k_is)
    (case em_NoStream => k_is)
    (case su_NoStream_NoStream => k_is)
    (case su_NoStream_CurveError => k_is)
    (case su_NoStream_TooLong => k_is)
    (case su_NoStream_TooMuch => k_is)
    (case su_NoStream_TooLittle => k_is)
    (case su_NoStream_Endless => k_is)
    (case su_NoStream_NoBack => k_is)
    (case su_NoStream_NoCurve => k_is)
    (case su_NoStream_NoName => k_is)
    (case su_NoStream_NoNet => k_is)
    (case su_NoStream_NoRow => k_is)
    (case su_NoStream_NoText => k_is)
    (case su_NoStream_Ring => k_is)
    (case kitY_NoStream_ValueError => k_is)
    (case ea_TooLong => k_is)
    (case eb_TooLong => k_is)
    (case ed_TooLong => k_is)
    (case ee_TooLong => k_is)
    (case em_TooLong => k_is)
    (case su_TooLong_TooLong => k_is)
    (case su_TooLong_CurveError => k_is)
    (case su_TooLong_NoStream => k_is)
    (case su_TooLong_TooMuch => k_is)
    (case su_TooLong_TooLittle => k_is)
    (case su_TooLong_Endless => k_is)
    (case su_TooLong_NoBack => k_is)
    (case su_TooLong_NoCurve => k_is)
    (case su_TooLong_NoName => k_is)
    (case su_TooLong_NoNet => k_is)
    (case su_TooLong_NoRow => k_is)
    (case su_TooLong_NoText => k_is)
    (case su_TooLong_Ring => k_is)
    (case kitY_TooLong_ValueError => k_is)
    (case ea_TooMuch => k_is)
    (case eb_TooMuch => k_is)
    (case ed_TooMuch => k_is)
    (case ee_TooMuch => k_is)
    (case em_TooMuch => k_is)
    (case su_TooMuch_TooMuch => k_is)
    (case su_TooMuch_CurveError => k_is)
    (case su_TooMuch_NoStream => k_is)
    (case su_TooMuch_TooLong => k_is)
    (case su_TooMuch_TooLittle => k_is)
    (case su_TooMuch_Endless => k_is)
    (case su_TooMuch_NoBack => k_is)
    (case su_TooMuch_NoCurve => k_is)
    (case su_TooMuch_NoName => k_is)
    (case su_TooMuch_NoNet => k_is)
    (case su_TooMuch_NoRow => k_is)
    (case su_TooMuch_NoText => k_is)
    (case su_TooMuch_Ring => k_is)
    (case kitY_TooMuch_ValueError => k_is)
    (case ea_TooLittle => k_is)
    (case eb_TooLittle => k_is)
    (case ed_TooLittle => k_is)
    (case ee_TooLittle => k_is)
    (case em_TooLittle => k_is)
    (case su_TooLittle_TooLittle => k_is)
    (case su_TooLittle_CurveError => k_is)
    (case su_TooLittle_NoStream => k_is)
    (case su_TooLittle_TooLong => k_is)
    (case su_TooLittle_TooMuch => k_is)
    (case su_TooLittle_Endless => k_is)
    (case su_TooLittle_NoBack => k_is)
    (case su_TooLittle_NoCurve => k_is)
    (case su_TooLittle_NoName => k_is)
    (case su_TooLittle_NoNet => k_is)
    (case su_TooLittle_NoRow => k_is)
    (case su_TooLittle_NoText => k_is)
    (case su_TooLittle_Ring => k_is)
    (case kitY_TooLittle_ValueError => k_is)
    (case esp => k_is)
    (case etk => k_is)
    (case tab_law_owes => rfl)
    (case lc_law_owes => k_is)
    (case vp_law_owes => rfl)
    (case nl_law_owes => (first | rfl | k_is | kernel_rfl))
    (case ch_law_owes => (first | rfl | k_is | kernel_rfl))
    (case in_law_owes => (first | decide | simp))
    (case tab_law_done => rfl)
    (case lc_law_done => k_is)
    (case vp_law_done => rfl)
    (case nl_law_done => (first | rfl | k_is | kernel_rfl))
    (case ch_law_done => (first | rfl | k_is | kernel_rfl))
    (case in_law_done => (first | decide | simp))
    (case tab_law_filled => rfl)
    (case lc_law_filled => k_is)
    (case vp_law_filled => rfl)
    (case nl_law_filled => (first | rfl | k_is | kernel_rfl))
    (case ch_law_filled => (first | rfl | k_is | kernel_rfl))
    (case in_law_filled => (first | decide | simp))
    (case ndt => decide)

