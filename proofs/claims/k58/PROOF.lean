import PyProof.Rows.All
import Wide.All
import OpenK.AllK
import Wide.FinOn
import HandS.ForMost
import HandS.ForExc
import HandS.IsInst
import HandS.Wide
import HandS.TupAny
import HandS.Style
import HandS.TupMul
import HandS.TupLe
import HandS.Lambda
import HandS.RaiseMore
import HandS.Zip
import PyProof.ReprRoads
import KE.DatumIndex
import HandS.CallSlots
import PyProof.ReprLen
import PyProof.FitsInt
import PyProof.P3Eq
import HandS.ExcIs
import HandS.EndTab
import HandS.Deep
import KE.DataFind
import HandS.FStr
import HandS.SortInts
import HandS.More
import KE.GoesMore
import KE.GoesEnum
import PyProof.CallFns
import HandS.Text
import PySem.Challenge.RW_arrivalcurves_k58_curves_and_nets_writte
import PyProof.StrLawsRepr
import PyProof.Rows.StrFit
set_option Elab.async false
set_option linter.all false
set_option maxRecDepth 100000
set_option maxHeartbeats 4000000
/-! The data layer: values as pure data, mutable objects in a small store. -/
namespace Dl
open PySem PySem.Spec PyProof.Rows L2

/-- a value as data; ptr: an object that may change, or that is known by its place alone -/
inductive D where
  | non | bl (b : Bool) | int (i : Int) | str (x : Str) | ptr (a : Addr) | ty (n : String)
  | tup (ds : List D) | lst (ds : List D) | rl (ds : List D)

/-- what stands at a place that may change -/
inductive MO where
  | lst (ds : List D)
  | seq (ds : List D)
  | ins (C : Addr) (fs : List (Str × D))
  | dct (kvs : List (Key × D))
  | raw (o : HO)
  | tab (q : Str)
  | clo (q : Str) (c : Addr) (vs : List (Option V)) (ds : List (Option D))

abbrev Sto := Addr → Option MO
def up (m : Sto) (a : Addr) (o : MO) : Sto := fun b => if b = a then some o else m b
@[simp] theorem up_same {m : Sto} {a : Addr} {o : MO} : up m a o a = some o := if_pos rfl
theorem up_ne {m : Sto} {a b : Addr} {o : MO} (h : b ≠ a) : up m a o b = m b := if_neg h
@[simp] theorem up_up {m : Sto} {a : Addr} {o u : MO} : up (up m a o) a u = up m a u := by
  funext b
  by_cases h : b = a
  · rw [h, up_same, up_same]
  · rw [up_ne h, up_ne h, up_ne h]
theorem up_comm {m : Sto} {a b : Addr} {o u : MO} (h : a ≠ b) : up (up m a o) b u = up (up m b u) a o := by
  funext c
  by_cases h1 : c = a
  · have h2 : c ≠ b := fun e => h (h1.symm.trans e)
    rw [up_ne h2, h1, up_same, up_same]
  · by_cases h2 : c = b
    · rw [h2, up_same, up_ne (fun e => h e.symm), up_same]
    · rw [up_ne h2, up_ne h1, up_ne h1, up_ne h2]
def del (m : Sto) (a : Addr) : Sto := fun b => if b = a then none else m b
theorem del_same {m : Sto} {a : Addr} : del m a a = none := if_pos rfl
theorem del_ne {m : Sto} {a b : Addr} (h : b ≠ a) : del m a b = m b := if_neg h
theorem del_up {m : Sto} {a : Addr} {o : MO} (h : m a = none) : del (up m a o) a = m := by
  funext b
  by_cases e : b = a
  · rw [e, del_same, h]
  · rw [del_ne e, up_ne e]
theorem ne_some {m : Sto} {a b : Addr} {o u : MO} (h : m a = some o) (k : m b = some u) (d : o ≠ u) : a ≠ b := fun e => by
  subst e
  rw [h] at k
  exact d (Option.some.inj k)
theorem ne_free {m : Sto} {a b : Addr} {o : MO} (h : m a = some o) (k : m b = none) : a ≠ b := fun e => by
  subst e
  rw [h] at k
  cases k

/-! ### how data lie -/
mutual
/-- v is the value d: what is not a ptr lies where nothing changes -/
inductive Rp (K : PySem.W.Frag) (m : Sto) (H : Hp) : V → D → Prop
  | non : Rp K m H .non .non
  | bl (b : Bool) : Rp K m H (.bl b) (.bl b)
  | int (i : Int) : Rp K m H (.int i) (.int i)
  | str (x : Str) : Rp K m H (.str x) (.str x)
  | ty (n : String) : Rp K m H (.ty n) (.ty n)
  | ptr (a : Addr) : Rp K m H (.ref a) (.ptr a)
  | tup {a : Addr} {xs : List V} {ds : List D} : (m a = none ∧ Rd H a (.tup xs)) ∨ SqT K (fun _ => none) a xs → RpL K m H xs ds → Rp K m H (.ref a) (.tup ds)
  | lst {a : Addr} {xs : List V} {ds : List D} : m a = none → H a = some (.lst xs) → RpL K m H xs ds → Rp K m H (.ref a) (.lst ds)
  | rl {a : Addr} {xs : List V} {ds : List D} : (m a = none ∧ Rd H a (.lst xs)) ∨ SqL K (fun _ => none) a xs → RpL K m H xs ds → Rp K m H (.ref a) (.rl ds)
inductive RpL (K : PySem.W.Frag) (m : Sto) (H : Hp) : List V → List D → Prop
  | nil : RpL K m H [] []
  | cons {v : V} {vs : List V} {d : D} {ds : List D} : Rp K m H v d → RpL K m H vs ds → RpL K m H (v :: vs) (d :: ds)
end
/-- from (m, H) to (m', H'): what does not change is as it was -/
def Ext (m : Sto) (H : Hp) (m' : Sto) (H' : Hp) : Prop := ∀ b o, m b = none → H b = some o → m' b = none ∧ H' b = some o
theorem Ext.rfl {m : Sto} {H : Hp} : Ext m H m H := fun _ _ h k => ⟨h, k⟩
theorem Ext.trans {m m1 m2 : Sto} {H H1 H2 : Hp} (a : Ext m H m1 H1) (b : Ext m1 H1 m2 H2) : Ext m H m2 H2 := fun c o h k => b c o (a c o h k).1 (a c o h k).2
theorem Ext.rd {m m' : Sto} {H H' : Hp} {a : Addr} {u : HO} (e : Ext m H m' H') (h : m a = none) (r : Rd H a u) : m' a = none ∧ Rd H' a u := by
  rcases r with r | ⟨o, r⟩
  · exact ⟨(e a _ h r).1, .inl (e a _ h r).2⟩
  · exact ⟨(e a _ h r).1, .inr ⟨o, (e a _ h r).2⟩⟩
mutual
theorem Rp.ext {K : PySem.W.Frag} {m m' : Sto} {H H' : Hp} (e : Ext m H m' H') : ∀ {v : V} {d : D}, Rp K m H v d → Rp K m' H' v d
  | _, _, .non => .non
  | _, _, .bl b => .bl b
  | _, _, .int i => .int i
  | _, _, .str x => .str x
  | _, _, .ty n => .ty n
  | _, _, .ptr a => .ptr a
  | _, _, .tup h k => .tup (h.elim (fun z => .inl (e.rd z.1 z.2)) .inr) (RpL.ext e k)
  | _, _, .lst h1 h2 k => .lst (e _ _ h1 h2).1 (e _ _ h1 h2).2 (RpL.ext e k)
  | _, _, .rl h k => .rl (h.elim (fun z => .inl (e.rd z.1 z.2)) .inr) (RpL.ext e k)
theorem RpL.ext {K : PySem.W.Frag} {m m' : Sto} {H H' : Hp} (e : Ext m H m' H') : ∀ {vs : List V} {ds : List D}, RpL K m H vs ds → RpL K m' H' vs ds
  | _, _, .nil => .nil
  | _, _, .cons a b => .cons (Rp.ext e a) (RpL.ext e b)
end
section
variable {K : PySem.W.Frag} {m m' : Sto} {H H' : Hp}
theorem RpL.len : ∀ {vs : List V} {ds : List D}, RpL K m H vs ds → vs.length = ds.length
  | _, _, .nil => Eq.refl _
  | _, _, .cons _ b => congrArg Nat.succ (RpL.len b)
theorem RpL.get : ∀ {vs : List V} {ds : List D} {i : Nat} {d : D}, RpL K m H vs ds → ds[i]? = some d → ∃ v, vs[i]? = some v ∧ Rp K m H v d
  | _, _, _, _, .nil, h => by simp at h
  | _, _, 0, _, .cons a _, h => by
    cases h
    exact ⟨_, rfl, a⟩
  | _, _, i + 1, _, .cons _ b, h => RpL.get (i := i) b h
theorem RpL.getV : ∀ {vs : List V} {ds : List D} {i : Nat} {v : V}, RpL K m H vs ds → vs[i]? = some v → ∃ d, ds[i]? = some d ∧ Rp K m H v d
  | _, _, _, _, .nil, h => by simp at h
  | _, _, 0, _, .cons a _, h => by
    cases h
    exact ⟨_, rfl, a⟩
  | _, _, i + 1, _, .cons _ b, h => RpL.getV (i := i) b h
theorem RpL.app : ∀ {vs ws : List V} {ds es : List D}, RpL K m H vs ds → RpL K m H ws es → RpL K m H (vs ++ ws) (ds ++ es)
  | _, _, _, _, .nil, k => k
  | _, _, _, _, .cons a b, k => .cons a (RpL.app b k)
theorem RpL.set {v : V} {d : D} (r : Rp K m H v d) : ∀ {vs : List V} {ds : List D} (i : Nat), RpL K m H vs ds → RpL K m H (vs.set i v) (ds.set i d)
  | _, _, _, .nil => .nil
  | _, _, 0, .cons _ b => .cons r b
  | _, _, i + 1, .cons a b => .cons a (RpL.set r i b)
theorem RpL.take : ∀ {vs : List V} {ds : List D} (n : Nat), RpL K m H vs ds → RpL K m H (vs.take n) (ds.take n)
  | _, _, 0, _ => .nil
  | _, _, _ + 1, .nil => .nil
  | _, _, n + 1, .cons a b => .cons a (RpL.take n b)
theorem RpL.drop : ∀ {vs : List V} {ds : List D} (n : Nat), RpL K m H vs ds → RpL K m H (vs.drop n) (ds.drop n)
  | _, _, 0, r => r
  | _, _, _ + 1, .nil => .nil
  | _, _, n + 1, .cons _ b => RpL.drop n b
theorem RpL.rev : ∀ {vs : List V} {ds : List D}, RpL K m H vs ds → RpL K m H vs.reverse ds.reverse
  | _, _, .nil => .nil
  | _, _, .cons a b => by
    rw [List.reverse_cons, List.reverse_cons]
    exact RpL.app (RpL.rev b) (.cons a .nil)
theorem RpL.erase : ∀ {vs : List V} {ds : List D} (n : Nat), RpL K m H vs ds → RpL K m H (vs.eraseIdx n) (ds.eraseIdx n)
  | _, _, 0, .nil => .nil
  | _, _, 0, .cons _ b => b
  | _, _, _ + 1, .nil => .nil
  | _, _, n + 1, .cons a b => .cons a (RpL.erase n b)
theorem RpL.rep {vs : List V} {ds : List D} (r : RpL K m H vs ds) : ∀ n : Nat, RpL K m H (List.replicate n vs).flatten (List.replicate n ds).flatten
  | 0 => .nil
  | n + 1 => by
    rw [List.replicate_succ, List.replicate_succ, List.flatten_cons, List.flatten_cons]
    exact RpL.app r (RpL.rep r n)
theorem RpL.dropLast {vs : List V} {ds : List D} (r : RpL K m H vs ds) : RpL K m H vs.dropLast ds.dropLast := by
  rw [List.dropLast_eq_take, List.dropLast_eq_take, r.len]
  exact r.take _
theorem RpL.ints : ∀ ns : List Int, RpL K m H (ns.map V.int) (ns.map D.int)
  | [] => .nil
  | n :: r => .cons (.int n) (RpL.ints r)
theorem RpL.intsV : ∀ {vs : List V} {ns : List Int}, RpL K m H vs (ns.map D.int) → vs = ns.map V.int
  | _, [], .nil => rfl
  | _, n :: r, .cons a b => by
    cases a
    rw [RpL.intsV b]
    rfl
theorem RpL.blsV : ∀ {vs : List V} {ns : List Bool}, RpL K m H vs (ns.map D.bl) → vs = ns.map V.bl
  | _, [], .nil => rfl
  | _, n :: r, .cons a b => by
    cases a
    rw [RpL.blsV b]
    rfl
theorem RpL.strsV : ∀ {vs : List V} {ns : List Str}, RpL K m H vs (ns.map D.str) → vs = ns.map V.str
  | _, [], .nil => rfl
  | _, n :: r, .cons a b => by
    cases a
    rw [RpL.strsV b]
    rfl
theorem Rp.sqT {a : Addr} {ds : List D} (r : Rp K m H (.ref a) (.tup ds)) : ∃ xs, SqT K H a xs ∧ RpL K m H xs ds := by
  cases r with
  | tup h k =>
    rcases h with ⟨_, h⟩ | h
    · exact ⟨_, .inl h, k⟩
    · refine ⟨_, ?_, k⟩
      rcases h with (h | ⟨o, h⟩) | h
      · cases h
      · cases h
      · exact .inr h
theorem Rp.tupV {v : V} {ds : List D} (r : Rp K m H v (.tup ds)) : ∃ a xs, v = .ref a ∧ SqT K H a xs ∧ RpL K m H xs ds := by
  cases r with
  | tup h k =>
    obtain ⟨xs, h1, h2⟩ := Rp.sqT (.tup h k)
    exact ⟨_, xs, rfl, h1, h2⟩
theorem Rp.lstV {v : V} {ds : List D} (r : Rp K m H v (.lst ds)) : ∃ a xs, v = .ref a ∧ m a = none ∧ H a = some (.lst xs) ∧ RpL K m H xs ds := by
  cases r with
  | lst h1 h2 k => exact ⟨_, _, rfl, h1, h2, k⟩
end

theorem Rp.rlV {K : PySem.W.Frag} {m : Sto} {H : Hp} {v : V} {ds : List D} (r : Rp K m H v (.rl ds)) : ∃ a xs, v = .ref a ∧ SqL K H a xs ∧ RpL K m H xs ds := by
  cases r with
  | rl h k =>
    rcases h with ⟨_, h⟩ | h
    · exact ⟨_, _, rfl, .inl h, k⟩
    · refine ⟨_, _, rfl, ?_, k⟩
      rcases h with (h | ⟨o, h⟩) | h
      · cases h
      · cases h
      · exact .inr h
/-- fields, pairs by like keys -/
inductive RpF {A : Type} (K : PySem.W.Frag) (m : Sto) (H : Hp) : List (A × V) → List (A × D) → Prop
  | nil : RpF K m H [] []
  | cons {k : A} {v : V} {d : D} {vs : List (A × V)} {ds : List (A × D)} : Rp K m H v d → RpF K m H vs ds → RpF K m H ((k, v) :: vs) ((k, d) :: ds)
theorem RpF.ext {A : Type} {K : PySem.W.Frag} {m m' : Sto} {H H' : Hp} (e : Ext m H m' H') : ∀ {vs : List (A × V)} {ds : List (A × D)}, RpF K m H vs ds → RpF K m' H' vs ds
  | _, _, .nil => .nil
  | _, _, .cons a b => .cons (a.ext e) (RpF.ext e b)
def SlotsOk (K : PySem.W.Frag) (m : Sto) (H : Hp) (σ : L2.St) (δ : List (Option D)) : Prop :=
  σ.length = δ.length ∧ ∀ (i : Nat) (d : D), δ[i]? = some (some d) → ∃ v, σ[i]? = some (some v) ∧ Rp K m H v d
theorem SlotsOk.ext {K : PySem.W.Frag} {m m' : Sto} {H H' : Hp} {σ : L2.St} {δ : List (Option D)} (h : SlotsOk K m H σ δ) (e : Ext m H m' H') : SlotsOk K m' H' σ δ :=
  ⟨h.1, fun i d k => let ⟨v, a, b⟩ := h.2 i d k; ⟨v, a, b.ext e⟩⟩
theorem SlotsOk.set {K : PySem.W.Frag} {m : Sto} {H : Hp} {σ : L2.St} {δ : List (Option D)} (h : SlotsOk K m H σ δ) (i : Nat) {v : V} {d : D} (r : Rp K m H v d) : SlotsOk K m H (σ.set i (some v)) (δ.set i (some d)) := by
  refine ⟨by rw [List.length_set, List.length_set, h.1], fun j e k => ?_⟩
  by_cases hj : i = j
  · subst hj
    rw [List.getElem?_set] at k
    rw [if_pos rfl] at k
    split at k
    · rename_i hl
      cases k
      exact ⟨v, by rw [List.getElem?_set, if_pos rfl, if_pos (by rw [h.1]; exact hl)], r⟩
    · cases k
  · rw [List.getElem?_set_ne hj] at k
    obtain ⟨w, a, b⟩ := h.2 j e k
    exact ⟨w, by rw [List.getElem?_set_ne hj]; exact a, b⟩
/-- the table at a: what it tells are code objects of the name q -/
def TabOk (m : Sto) (H : Hp) (a : Addr) (q : Str) : Prop := ∃ ps : Array Value, H a = some (.tbl ps) ∧ TriplesOk ps.toList ∧ ∀ (pos : Pos) (cv : Value), codeAmong pos ps.toList = some cv → ∃ c, cv = .ref c ∧ m c = none ∧ H c = some (LamX.CodeO c q)
theorem TabOk.on {m m' : Sto} {H H' : Hp} {a : Addr} {q : Str} (g : TabOk m H a q) (ex : Ext m H m' H') (at_ : ∀ o, H a = some o → H' a = some o) : TabOk m' H' a q := by
  obtain ⟨ps, e, t, r⟩ := g
  refine ⟨ps, at_ _ e, t, fun pos cv hc => ?_⟩
  obtain ⟨c, z1, z2, z3⟩ := r pos cv hc
  exact ⟨c, z1, (ex c _ z2 z3).1, (ex c _ z2 z3).2⟩
def MoOk (K : PySem.W.Frag) (m : Sto) (H : Hp) (a : Addr) : MO → Prop
  | .lst ds => ∃ xs, H a = some (.lst xs) ∧ RpL K m H xs ds
  | .seq ds => ∃ xs, Rd H a (.lst xs) ∧ RpL K m H xs ds
  | .ins C fs => ∃ dx vs, H a = some (.ins C dx vs) ∧ RpF K m H vs fs
  | .dct kvs => ∃ vs, H a = some (.dK vs) ∧ RpF K m H vs kvs
  | .raw o => H a = some o
  | .tab q => TabOk m H a q
  | .clo q c vs ds => TabOk m H a q ∧ m c = none ∧ H c = some (LamX.CodeO c q) ∧ SlotsOk K m H vs ds
/-- where the object stays and what does not change stays -/
theorem MoOk.on {K : PySem.W.Frag} {m m' : Sto} {H H' : Hp} {a : Addr} {u : MO} (g : MoOk K m H a u) (ex : Ext m H m' H') (at_ : ∀ o, H a = some o → H' a = some o) : MoOk K m' H' a u := by
  cases u with
  | lst ds => obtain ⟨xs, e, r⟩ := g; exact ⟨xs, at_ _ e, r.ext ex⟩
  | seq ds => obtain ⟨xs, e, r⟩ := g; exact ⟨xs, e.elim (fun z => .inl (at_ _ z)) (fun ⟨o, z⟩ => .inr ⟨o, at_ _ z⟩), r.ext ex⟩
  | ins C fs => obtain ⟨dx, vs, e, r⟩ := g; exact ⟨dx, vs, at_ _ e, r.ext ex⟩
  | dct kvs => obtain ⟨vs, e, r⟩ := g; exact ⟨vs, at_ _ e, r.ext ex⟩
  | raw o => exact at_ _ g
  | tab q => exact TabOk.on g ex at_
  | clo q c vs ds => exact ⟨g.1.on ex at_, (ex c _ g.2.1 g.2.2.1).1, (ex c _ g.2.1 g.2.2.1).2, g.2.2.2.ext ex⟩
def StoOk (K : PySem.W.Frag) (m : Sto) (H : Hp) : Prop := ∀ a o, m a = some o → MoOk K m H a o
theorem MoOk.there {K : PySem.W.Frag} {m : Sto} {H : Hp} {a : Addr} {o : MO} (h : MoOk K m H a o) : H a ≠ none := by
  cases o with
  | lst ds => obtain ⟨_, e, _⟩ := h; rw [e]; simp
  | seq ds =>
    obtain ⟨_, e | ⟨o, e⟩, _⟩ := h
    · rw [e]; simp
    · rw [e]; simp
  | ins C fs => obtain ⟨_, _, e, _⟩ := h; rw [e]; simp
  | dct kvs => obtain ⟨_, e, _⟩ := h; rw [e]; simp
  | raw o => rw [show H a = some o from h]; simp
  | tab q => obtain ⟨ps, e, _⟩ := h; rw [e]; simp
  | clo q c vs ds => obtain ⟨⟨ps, e, _⟩, _⟩ := h; rw [e]; simp
theorem StoOk.free {K : PySem.W.Frag} {m : Sto} {H : Hp} (s : StoOk K m H) {p : Addr} (h : H p = none) : m p = none := by
  cases e : m p with
  | none => rfl
  | some o => exact absurd h (s p o e).there

/-- what is wanted of an exception: its class, its fields (where it has some), the store -/
abbrev DX := Addr → Option (List (Str × D)) → Sto → Prop
/-- the slots' data, and what is wanted of an exception at them -/
structure Ev where
  s : List (Option D)
  x : List (Option D) → DX := fun _ _ _ _ => False
def Ev.put (δ : Ev) (i : Nat) (d : D) : Ev := { δ with s := δ.s.set i (some d) }
abbrev XS := L2.St → XK
/-- an exception's own dict -/
def XRel (K : PySem.W.Frag) (m : Sto) (H : Hp) (fs : Option (List (Str × D))) (dd : Option Addr) : Prop := match fs, dd with
  | none, none => True
  | some l, some a => m a = none ∧ ∃ vs, H a = some (.xd vs) ∧ RpF K m H vs l
  | _, _ => False
def XOk (K : PySem.W.Frag) (Y : XS) (m : Sto) (H : Hp) (x : List (Option D) → DX) : Prop :=
  ∀ σ' s' C fs m' H' dd, x s' C fs m' → Ext m H m' H' → StoOk K m' H' → SlotsOk K m' H' σ' s' → XRel K m' H' fs dd → Y σ' (.ref C) dd H'
theorem XOk.on {K : PySem.W.Frag} {Y : XS} {m m' : Sto} {H H' : Hp} {x : List (Option D) → DX} (h : XOk K Y m H x) (e : Ext m H m' H') : XOk K Y m' H' x :=
  fun σ' s' C fs m2 H2 dd q ex => h σ' s' C fs m2 H2 dd q (e.trans ex)
def EnvOk (K : PySem.W.Frag) (Y : XS) (m : Sto) (H : Hp) (σ : L2.St) (δ : Ev) : Prop := SlotsOk K m H σ δ.s ∧ XOk K Y m H δ.x
theorem EnvOk.ext {K : PySem.W.Frag} {Y : XS} {m m' : Sto} {H H' : Hp} {σ : L2.St} {δ : Ev} (h : EnvOk K Y m H σ δ) (e : Ext m H m' H') : EnvOk K Y m' H' σ δ := ⟨h.1.ext e, h.2.on e⟩
theorem EnvOk.set {K : PySem.W.Frag} {Y : XS} {m : Sto} {H : Hp} {σ : L2.St} {δ : Ev} (h : EnvOk K Y m H σ δ) (i : Nat) {v : V} {d : D} (r : Rp K m H v d) : EnvOk K Y m H (σ.set i (some v)) (δ.put i d) := ⟨h.1.set i r, h.2⟩

/-! ### steps of the store -/
section
variable {K : PySem.W.Frag} {m : Sto} {H : Hp}
/-- a new object where nothing lay, not to change -/
theorem ext_new {p : Addr} {o : HO} (h : H p = none) : Ext m H m (L2.upd H p o) := fun b u k e => ⟨k, by rw [upd_ne (ne_of_none e h)]; exact e⟩
theorem sto_new {p : Addr} {o : HO} (s : StoOk K m H) (h : H p = none) : StoOk K m (L2.upd H p o) := fun a u k => by
  have ne : a ≠ p := fun e => by
    subst e
    exact (s a u k).there h
  have ex : Ext m H m (L2.upd H p o) := ext_new h
  exact (s a u k).on ex fun o e => by rw [upd_ne ne]; exact e
/-- the object at a, which may change, is another one now -/
theorem ext_put {a : Addr} {o : HO} {u u' : MO} (h : m a = some u) : Ext m H (up m a u') (L2.upd H a o) := fun b w k e => by
  have ne : b ≠ a := fun z => by
    subst z
    rw [h] at k
    cases k
  exact ⟨by rw [up_ne ne]; exact k, by rw [upd_ne ne]; exact e⟩
theorem sto_at {a : Addr} {o : HO} {u' : MO} (s : StoOk K m H) (ex : Ext m H (up m a u') (L2.upd H a o)) (k : MoOk K (up m a u') (L2.upd H a o) a u') : StoOk K (up m a u') (L2.upd H a o) := fun b w e => by
  by_cases ne : b = a
  · subst ne
    rw [up_same] at e
    cases e
    exact k
  · rw [up_ne ne] at e
    exact (s b w e).on ex fun o e => by rw [upd_ne ne]; exact e
/-- a new object that may change -/
theorem ext_add {p : Addr} {o : HO} {u : MO} (h : H p = none) : Ext m H (up m p u) (L2.upd H p o) := fun b w k e => by
  have ne : b ≠ p := ne_of_none e h
  exact ⟨by rw [up_ne ne]; exact k, by rw [upd_ne ne]; exact e⟩
/-- what may change stays so no longer -/
theorem ext_del {p : Addr} : Ext m H (del m p) H := fun b w k e => by
  refine ⟨?_, e⟩
  by_cases ne : b = p
  · rw [ne, del_same]
  · rw [del_ne ne]; exact k
theorem sto_del {p : Addr} (s : StoOk K m H) : StoOk K (del m p) H := fun b w e => by
  by_cases ne : b = p
  · rw [ne, del_same] at e
    cases e
  · rw [del_ne ne] at e
    exact (s b w e).on ext_del fun _ e => e
end

/-! ### readings over data -/
abbrev DE := Ev → Sto → (D → Sto → Prop) → Prop
abbrev DT := Ev → Sto → (Bool → Sto → Prop) → Prop
abbrev DA := Ev → Sto → (List D → Sto → Prop) → Prop
/-- what is wanted behind a value -/
def Aft (K : PySem.W.Frag) (m : Sto) (H : Hp) (R : D → Sto → Prop) (Q : VK) : Prop :=
  ∀ v H' d m', R d m' → Ext m H m' H' → StoOk K m' H' → Rp K m' H' v d → Q v H'
def lE (K : PySem.W.Frag) (Y : XS) (e : DE) : TE := fun σ H Q => ∃ δ m R, EnvOk K Y m H σ δ ∧ StoOk K m H ∧ e δ m R ∧ Aft K m H R Q
def lT (K : PySem.W.Frag) (Y : XS) (e : DT) : TT := fun σ H Q => ∃ δ m R, EnvOk K Y m H σ δ ∧ StoOk K m H ∧ e δ m R ∧
  ∀ b H' m', R b m' → Ext m H m' H' → StoOk K m' H' → Q b H'
def lA (K : PySem.W.Frag) (Y : XS) (e : DA) : TA := fun σ H Q => ∃ δ m R, EnvOk K Y m H σ δ ∧ StoOk K m H ∧ e δ m R ∧
  ∀ vs H' ds m', R ds m' → Ext m H m' H' → StoOk K m' H' → RpL K m' H' vs ds → Q vs H'
structure PD (X : Cx) (Y : XS) (e : Expr) (d : DE) : Prop where
  pe : PE X e (lE X.K Y d)
structure PDT (X : Cx) (Y : XS) (e : Expr) (d : DT) : Prop where
  pt : PT X e (lT X.K Y d)
structure PDW (X : Cx) (Y : XS) (e : Expr) (d : DT) : Prop where
  pw : PW X e (lT X.K Y d)
structure PDA (X : Cx) (Y : XS) (es : List Expr) (d : DA) : Prop where
  pa : PA X es (lA X.K Y d)
section
variable {X : Cx} {Y : XS} {e : Expr}
theorem pe_weak {t t' : TE} (h : PE X e t) (w : ∀ σ H Q, t' σ H Q → t σ H Q) : PE X e t' := ⟨fun pins s σ H Q I q => h.run pins s σ H Q I (w σ H Q q)⟩
theorem pt_weak {t t' : TT} (h : PT X e t) (w : ∀ σ H Q, t' σ H Q → t σ H Q) : PT X e t' := ⟨fun pins s σ H Q I q => h.run pins s σ H Q I (w σ H Q q)⟩
theorem pw_weak {t t' : TT} (h : PW X e t) (w : ∀ σ H Q, t' σ H Q → t σ H Q) : PW X e t' := ⟨fun wh pins s σ H Q I q => h.run wh pins s σ H Q I (w σ H Q q)⟩
theorem pa_weak {es : List Expr} {t t' : TA} (h : PA X es t) (w : ∀ σ H Q, t' σ H Q → t σ H Q) : PA X es t' := ⟨fun pos pins s σ H Q I q => h.run pos pins s σ H Q I (w σ H Q q)⟩
/-- one reading behind another -/
theorem lE_bind {K : PySem.W.Frag} {Y : XS} {a : DE} {σ : L2.St} {H : Hp} {Q : VK} {δ : Ev} {m : Sto} {R : D → Sto → Prop} (en : EnvOk K Y m H σ δ) (st : StoOk K m H) (h : a δ m R)
    (k : ∀ v H' d m', R d m' → Ext m H m' H' → EnvOk K Y m' H' σ δ → StoOk K m' H' → Rp K m' H' v d → Q v H') : lE K Y a σ H Q :=
  ⟨δ, m, R, en, st, h, fun v H' d m' r ex s rp => k v H' d m' r ex (en.ext ex) s rp⟩
theorem lA_bind {K : PySem.W.Frag} {Y : XS} {a : DA} {σ : L2.St} {H : Hp} {Q : List V → Hp → Prop} {δ : Ev} {m : Sto} {R : List D → Sto → Prop} (en : EnvOk K Y m H σ δ) (st : StoOk K m H) (h : a δ m R)
    (k : ∀ v H' d m', R d m' → Ext m H m' H' → EnvOk K Y m' H' σ δ → StoOk K m' H' → RpL K m' H' v d → Q v H') : lA K Y a σ H Q :=
  ⟨δ, m, R, en, st, h, fun v H' d m' r ex s rp => k v H' d m' r ex (en.ext ex) s rp⟩
theorem lT_bind {K : PySem.W.Frag} {Y : XS} {a : DT} {σ : L2.St} {H : Hp} {Q : Bool → Hp → Prop} {δ : Ev} {m : Sto} {R : Bool → Sto → Prop} (en : EnvOk K Y m H σ δ) (st : StoOk K m H) (h : a δ m R)
    (k : ∀ b H' m', R b m' → Ext m H m' H' → EnvOk K Y m' H' σ δ → StoOk K m' H' → Q b H') : lT K Y a σ H Q :=
  ⟨δ, m, R, en, st, h, fun b H' m' r ex s => k b H' m' r ex (en.ext ex) s⟩
end

/-! ### names and constants -/
def dVar (i : Nat) : DE := fun δ m R => match δ.s[i]? with
  | some (some d) => R d m
  | _ => False
def dC (d : D) : DE := fun _ m R => R d m
section
variable {X : Cx} {Y : XS}
theorem pd_v (i : Nat) {x : Str} {pos : Pos} (hN : X.N[i]? = some x := by rfl) (hv : Vis X.env.scope x := by first | exact Or.inl rfl | exact Or.inr (Or.inl rfl) | exact Or.inr (Or.inr rfl))
    (hd : (x == ("__debug__" : Str)) = false := by decide) (hcd : (x == ("__classdict__" : Str)) = false := by decide) : PD X Y (.Name x pos) (dVar i) :=
  ⟨pe_weak (pe_var hN hv hd hcd) fun σ H Q ⟨δ, m, R, en, st, h, k⟩ => by
    unfold dVar at h
    split at h
    · rename_i d e
      obtain ⟨v, e1, r⟩ := en.1.2 i d e
      exact ⟨v, e1, k v H d m h Ext.rfl st r⟩
    · exact h.elim⟩
/-- a constant value -/
theorem pd_c {e : Expr} {v : V} {d : D} (h : PE X e (tC v)) (r : ∀ m H, Rp X.K m H v d) : PD X Y e (dC d) :=
  ⟨pe_weak h fun σ H Q ⟨δ, m, R, en, st, h, k⟩ => k v H d m h Ext.rfl st (r m H)⟩
theorem pd_int {i j pos} : PD X Y (.Constant (.int i) j pos) (dC (.int i)) := pd_c pe_int fun _ _ => .int i
theorem pd_bl {b j pos} : PD X Y (.Constant (.bool b) j pos) (dC (.bl b)) := pd_c pe_bl fun _ _ => .bl b
theorem pd_non {j pos} : PD X Y (.Constant .none j pos) (dC .non) := pd_c pe_non fun _ _ => .non
theorem pd_str {x j pos} : PD X Y (.Constant (.str x) j pos) (dC (.str x)) := pd_c pe_str fun _ _ => .str x
/-- a module's constant -/
theorem pd_gint {x : Str} {i : Int} {pos : Pos} (hg : Gl X x) (hm : ∃ t, X.mg x = some (.int i t)) (hd : (x == ("__debug__" : Str)) = false := by decide) : PD X Y (.Name x pos) (dC (.int i)) := by
  obtain ⟨t, hm⟩ := hm
  exact pd_c (pe_glob (v := .int i) hg hm ⟨t, rfl⟩ hd) fun _ _ => .int i
theorem pd_gstr {x z : Str} {pos : Pos} (hg : Gl X x) (hm : ∃ t, X.mg x = some (.str z t)) (hd : (x == ("__debug__" : Str)) = false := by decide) : PD X Y (.Name x pos) (dC (.str z)) := by
  obtain ⟨t, hm⟩ := hm
  exact pd_c (pe_glob (v := .str z) hg hm ⟨t, rfl⟩ hd) fun _ _ => .str z
theorem pd_gref {x : Str} {a : Addr} {pos : Pos} (hg : Gl X x) (hm : X.mg x = some (.ref a)) (hd : (x == ("__debug__" : Str)) = false := by decide) : PD X Y (.Name x pos) (dC (.ptr a)) :=
  pd_c (pe_glob (v := .ref a) hg hm rfl hd) fun _ _ => .ptr a
theorem pd_ty {x : Str} {n : String} {pos : Pos} (hg : Gl X x) (hm : X.mg x = none) (hv : bootBuiltins x = some (.type n)) (hn : x ≠ "__name__" := by decide) (hd : (x == ("__debug__" : Str)) = false := by decide) : PD X Y (.Name x pos) (dC (.ty n)) :=
  pd_c (pe_bltn (v := .ty n) hg hm hv rfl hn hd) fun _ _ => .ty n

/-! ### argument lists, displays -/
def dNil : DA := fun _ m R => R [] m
def dCons (a : DE) (r : DA) : DA := fun δ m R => a δ m fun d m1 => r δ m1 fun ds m2 => R (d :: ds) m2
theorem pda_nil : PDA X Y [] dNil := ⟨pa_weak pa_nil fun σ H Q ⟨δ, m, R, en, st, h, k⟩ => k [] H [] m h Ext.rfl st .nil⟩
theorem pda_cons {e : Expr} {es : List Expr} {a : DE} {r : DA} (ha : PD X Y e a) (hr : PDA X Y es r) (hs : starEach (e :: es) X.env = (false, eval e X.env) :: starEach es X.env := by rfl) : PDA X Y (e :: es) (dCons a r) :=
  ⟨pa_weak (pa_cons ha.pe hr.pa hs) fun σ H Q ⟨δ, m, R, en, st, h, k⟩ =>
    lE_bind en st h fun v H1 d m1 r1 e1 en1 st1 rp1 => lA_bind en1 st1 r1 fun vs H2 ds m2 r2 e2 _ st2 rp2 =>
      k (v :: vs) H2 (d :: ds) m2 r2 (e1.trans e2) st2 (.cons (rp1.ext e2) rp2)⟩
/-- a new list: to change (b), or not -/
def newL (b : Bool) (ds : List D) (m : Sto) (R : D → Sto → Prop) : Prop := match b with
  | true => ∀ p, m p = none → R (.ptr p) (up m p (.lst ds))
  | false => R (.lst ds) m
theorem newL_ok {K : PySem.W.Frag} {b : Bool} {ds : List D} {m : Sto} {H : Hp} {R : D → Sto → Prop} {xs : List V} (h : newL b ds m R) (st : StoOk K m H) (r : RpL K m H xs ds) {p : Addr} (hp : H p = none) :
    ∃ d m', R d m' ∧ Ext m H m' (L2.upd H p (.lst xs)) ∧ StoOk K m' (L2.upd H p (.lst xs)) ∧ Rp K m' (L2.upd H p (.lst xs)) (.ref p) d := by
  cases b with
  | true =>
    have ex : Ext m H (up m p (.lst ds)) (L2.upd H p (.lst xs)) := ext_add hp
    exact ⟨.ptr p, up m p (.lst ds), h p (st.free hp), ex, sto_at st ex ⟨xs, upd_same, r.ext ex⟩, .ptr p⟩
  | false => exact ⟨.lst ds, m, h, ext_new hp, sto_new st hp, .lst (st.free hp) upd_same (r.ext (ext_new hp))⟩
def dLst (b : Bool) (t : DA) : DE := fun δ m R => t δ m fun ds m1 => ds.length ≤ sizeLine ∧ newL b ds m1 R
def dTup (t : DA) : DE := fun δ m R => t δ m fun ds m1 => ds.length ≤ sizeLine ∧ R (.tup ds) m1
theorem pd_lst (b : Bool) {es : List Expr} {t : DA} {pos : Pos} (h : PDA X Y es t) : PD X Y (.List es pos) (dLst b t) :=
  ⟨pe_weak (pe_lst h.pa) fun σ H Q ⟨δ, m, R, en, st, h, k⟩ => lA_bind en st h fun vs H1 ds m1 ⟨z, n⟩ e1 _ st1 rp => by
    refine ⟨by rw [rp.len]; exact z, fun p hp => ?_⟩
    obtain ⟨d, m', q1, q2, q3, q4⟩ := newL_ok n st1 rp hp
    exact k _ _ d m' q1 (e1.trans q2) q3 q4⟩
theorem pd_tup {es : List Expr} {t : DA} {j} {pos : Pos} (h : PDA X Y es t) : PD X Y (.Tuple es j pos) (dTup t) :=
  ⟨pe_weak (pe_tup h.pa) fun σ H Q ⟨δ, m, R, en, st, h, k⟩ => lA_bind en st h fun vs H1 ds m1 ⟨z, n⟩ e1 _ st1 rp => by
    refine ⟨by rw [rp.len]; exact z, fun p hp => ?_⟩
    have ex : Ext m1 H1 m1 (L2.upd H1 p (.tup vs)) := ext_new hp
    exact k _ _ (.tup ds) m1 n (e1.trans ex) (sto_new st1 hp) (.tup (.inl ⟨st1.free hp, .inl upd_same⟩) (rp.ext ex))⟩

/-! ### operators, by values -/
abbrev O2 := D → D → Sto → (D → Sto → Prop) → Prop
def lR2 (K : PySem.W.Frag) (g : O2) : R2 := fun x y H Q => ∃ m d e R, Rp K m H x d ∧ Rp K m H y e ∧ StoOk K m H ∧ g d e m R ∧ Aft K m H R Q
structure OpD (X : Cx) (f : Value → Value → Sem Value) (g : O2) : Prop where
  ok : OpR X f (lR2 X.K g)
theorem opr_weak {f : Value → Value → Sem Value} {r r' : R2} (h : OpR X f r) (w : ∀ x y H Q, r' x y H Q → r x y H Q) : OpR X f r' :=
  fun pins s σ H x y v u Q I r1 r2 q => h pins s σ H x y v u Q I r1 r2 (w x y H Q q)
def dOp (g : O2) (a b : DE) : DE := fun δ m R => a δ m fun d m1 => b δ m1 fun e m2 => g d e m2 R
theorem dOp_low {K : PySem.W.Frag} {Y : XS} {g : O2} {a b : DE} {σ : L2.St} {H : Hp} {Q : VK} (h : lE K Y (dOp g a b) σ H Q) : tOp (lR2 K g) (lE K Y a) (lE K Y b) σ H Q := by
  obtain ⟨δ, m, R, en, st, h, k⟩ := h
  exact lE_bind en st h fun v H1 d m1 r1 e1 en1 st1 rp1 => lE_bind en1 st1 r1 fun w H2 e m2 r2 e2 en2 st2 rp2 =>
    ⟨m2, d, e, R, rp1.ext e2, rp2, st2, r2, fun v' H' d' m' q ex s rp => k v' H' d' m' q ((e1.trans e2).trans ex) s rp⟩
theorem pd_op {op : Operator} {g : O2} {a b : Expr} {da db : DE} {pos : Pos} (ho : OpD X (binaryOp op) g) (ha : PD X Y a da) (hb : PD X Y b db) : PD X Y (.BinOp a op b pos) (dOp g da db) :=
  ⟨pe_weak (pe_op ho.ok ha.pe hb.pe) fun _ _ _ h => dOp_low h⟩
theorem pd_cmp {op : CmpOp} {g : O2} {a b : Expr} {da db : DE} {pos : Pos} (ho : OpD X (compareOp op) g) (ha : PD X Y a da) (hb : PD X Y b db) (hm : behindInMarks op b = false) : PD X Y (.Compare a [op] [b] pos) (dOp g da db) :=
  ⟨pe_weak (pe_cmpR ho.ok ha.pe hb.pe hm) fun _ _ _ h => dOp_low h⟩
/-- a value as a test -/
def dB (e : DE) : DT := fun δ m R => e δ m fun d m1 => match d with
  | .bl b => R b m1
  | _ => False
theorem dB_low {K : PySem.W.Frag} {Y : XS} {e : DE} {σ : L2.St} {H : Hp} {Q : Bool → Hp → Prop} (h : lT K Y (dB e) σ H Q) : lE K Y e σ H fun x H' => ∃ k, x = .bl k ∧ Q k H' := by
  obtain ⟨δ, m, R, en, st, h, k⟩ := h
  refine lE_bind en st h fun v H1 d m1 r1 e1 en1 st1 rp1 => ?_
  cases d with
  | bl b =>
    cases rp1
    exact ⟨b, rfl, k b H1 m1 r1 e1 st1⟩
  | _ => exact r1.elim
theorem pdt_cmp {op : CmpOp} {g : O2} {a b : Expr} {da db : DE} {pos : Pos} (ho : OpD X (compareOp op) g) (ha : PD X Y a da) (hb : PD X Y b db) (hm : behindInMarks op b = false) : PDT X Y (.Compare a [op] [b] pos) (dB (dOp g da db)) :=
  ⟨pt_weak (pt_cmpR ho.ok ha.pe hb.pe hm) fun σ H Q h => dOp_low (g := g) (by
    obtain ⟨δ, m, R, en, st, h, k⟩ := dB_low h
    exact ⟨δ, m, R, en, st, h, k⟩)⟩
theorem pdt_val {e : Expr} {t : DE} (h : PD X Y e t) (he : ∀ whole, isTrue e X.env whole = (do let v ← whole; standAt e.pos; holding [v] (truthy v)) := by intro _; rfl) : PDT X Y e (dB t) :=
  ⟨pt_weak (pt_val h.pe he) fun σ H Q h => dB_low h⟩
end
end Dl

/-! The data layer: operations by values. -/
namespace Dl
open PySem PySem.Spec PyProof.Rows L2

/-! ### sequences as data -/
def seqMO : MO → Option (List D)
  | .lst ds => some ds
  | .seq ds => some ds
  | _ => none
/-- d is a list (xs its items) -/
def LstIs (m : Sto) (d : D) (xs : List D) : Prop := match d with
  | .lst ys => ys = xs
  | .ptr a => m a = some (.lst xs)
  | _ => False
/-- d is a list or a tuple, or a list that is only read -/
def SeqIs (m : Sto) (d : D) (xs : List D) : Prop := match d with
  | .lst ys => ys = xs
  | .tup ys => ys = xs
  | .rl ys => ys = xs
  | .ptr a => ∃ o, m a = some o ∧ seqMO o = some xs
  | _ => False
section
variable {K : PySem.W.Frag} {m : Sto} {H : Hp} {v : V} {d : D} {xs : List D}
theorem LstIs.low (h : LstIs m d xs) (r : Rp K m H v d) (st : StoOk K m H) : ∃ a vs, v = .ref a ∧ H a = some (.lst vs) ∧ RpL K m H vs xs := by
  cases r with
  | lst h1 h2 k =>
    cases h
    exact ⟨_, _, rfl, h2, k⟩
  | ptr a =>
    obtain ⟨vs, e, r⟩ := st a _ h
    exact ⟨a, vs, rfl, e, r⟩
  | _ => exact h.elim
theorem SeqIs.low (h : SeqIs m d xs) (r : Rp K m H v d) (st : StoOk K m H) : ∃ a vs, v = .ref a ∧ (SqL K H a vs ∨ SqT K H a vs) ∧ RpL K m H vs xs := by
  cases r with
  | lst h1 h2 k =>
    cases h
    exact ⟨_, _, rfl, .inl (SqL.of h2), k⟩
  | tup h1 k =>
    cases h
    obtain ⟨xs, a, b⟩ := Rp.sqT (.tup h1 k)
    exact ⟨_, xs, rfl, .inr a, b⟩
  | rl h1 k =>
    cases h
    obtain ⟨a, xs, e, a1, b⟩ := Rp.rlV (.rl h1 k)
    exact ⟨a, xs, e, .inl a1, b⟩
  | ptr a =>
    obtain ⟨o, e, q⟩ := h
    have g := st a o e
    cases o with
    | lst ds =>
      cases q
      obtain ⟨vs, e, r⟩ := g
      exact ⟨a, vs, rfl, .inl (SqL.of e), r⟩
    | seq ds =>
      cases q
      obtain ⟨vs, e, r⟩ := g
      exact ⟨a, vs, rfl, .inl (.inl e), r⟩
    | _ => cases q
  | _ => exact h.elim
end
theorem RpL.atI {K : PySem.W.Frag} {m : Sto} {H : Hp} {vs : List V} {ds : List D} {k : Int} {d : D} (r : RpL K m H vs ds) (h : L2.atI ds k = some d) : ∃ v, L2.atI vs k = some v ∧ Rp K m H v d := by
  unfold L2.atI at h ⊢
  rw [r.len]
  cases e : L2.ixN ds.length k with
  | none => rw [e] at h; cases h
  | some j =>
    rw [e] at h
    exact r.get h
def cut {A : Type} (xs : List A) (lo hi : Option Int) : List A := (xs.drop (HT.sIx xs.length 0 lo)).take (HT.sIx xs.length xs.length hi - HT.sIx xs.length 0 lo)
theorem RpL.cut {K : PySem.W.Frag} {m : Sto} {H : Hp} {vs : List V} {ds : List D} (r : RpL K m H vs ds) (lo hi : Option Int) : RpL K m H (cutV vs lo hi) (Dl.cut ds lo hi) := by
  unfold cutV Dl.cut
  rw [r.len]
  exact (r.drop _).take _

/-! ### plain data behind data -/
mutual
inductive Pv (m : Sto) : D → PyData → Prop
  | non : Pv m .non .none
  | bl (b : Bool) : Pv m (.bl b) (.bool b)
  | int (i : Int) : Pv m (.int i) (.int i)
  | str (x : Str) : Pv m (.str x) (.str x)
  | lst {ds : List D} {ps : List PyData} : PvL m ds ps → Pv m (.lst ds) (.list ps)
  | tup {ds : List D} {ps : List PyData} : PvL m ds ps → Pv m (.tup ds) (.tuple ps)
  | ptr {a : Addr} {o : MO} {ds : List D} {ps : List PyData} : m a = some o → seqMO o = some ds → PvL m ds ps → Pv m (.ptr a) (.list ps)
inductive PvL (m : Sto) : List D → List PyData → Prop
  | nil : PvL m [] []
  | cons {d : D} {ds : List D} {p : PyData} {ps : List PyData} : Pv m d p → PvL m ds ps → PvL m (d :: ds) (p :: ps)
end
theorem PvL.ints {m : Sto} : ∀ ns : List Int, PvL m (ns.map D.int) (ns.map PyData.int)
  | [] => .nil
  | n :: r => .cons (.int n) (PvL.ints r)
section
variable {K : PySem.W.Frag} {m : Sto} {H : Hp}
mutual
theorem Pv.dp (st : StoOk K m H) : ∀ {d : D} {p : PyData} {v : V}, Pv m d p → Rp K m H v d → Dp K H v p
  | _, _, _, .non, r => by cases r; exact .non
  | _, _, _, .bl b, r => by cases r; exact .bl b
  | _, _, _, .int b, r => by cases r; exact .int b
  | _, _, _, .str b, r => by cases r; exact .str b
  | _, _, _, .lst k, r => by
    cases r with
    | lst h1 h2 q => exact .lst (SqL.of h2) (PvL.dp st k q)
  | _, _, _, .tup k, r => by
    obtain ⟨a, xs, rfl, h1, h2⟩ := r.tupV
    exact .tup h1 (PvL.dp st k h2)
  | _, _, _, .ptr (o := o) h1 h2 k, r => by
    cases r
    have g := st _ _ h1
    cases o with
    | lst ds =>
      cases h2
      obtain ⟨vs, e, r⟩ := g
      exact .lst (SqL.of e) (PvL.dp st k r)
    | seq ds =>
      cases h2
      obtain ⟨vs, e, r⟩ := g
      exact .lst (.inl e) (PvL.dp st k r)
    | _ => cases h2
theorem PvL.dp (st : StoOk K m H) : ∀ {ds : List D} {ps : List PyData} {vs : List V}, PvL m ds ps → RpL K m H vs ds → DpAll K H vs ps
  | _, _, _, .nil, r => by cases r; exact .nil
  | _, _, _, .cons a b, r => by
    cases r with
    | cons r1 r2 => exact .cons (Pv.dp st a r1) (PvL.dp st b r2)
end
end

/-! ### operators -/
def MulOk (i j : Int) : Prop := CMul i j ∨ CMulW i j
theorem MulOk.small {i j : Int} (h1 : -(2 ^ 64) < j) (h2 : j < 2 ^ 64) : MulOk i j := .inl (.inr ⟨h1, h2⟩)
theorem MulOk.smallL {i j : Int} (h1 : -(2 ^ 64) < i) (h2 : i < 2 ^ 64) : MulOk i j := .inl (.inl ⟨h1, h2⟩)
def addD (b : Bool) : O2 := fun d e m R => match d, e with
  | .int i, .int j => R (.int (i + j)) m
  | .str x, .str y => x.length + y.length ≤ sizeLine ∧ R (.str (x ++ y)) m
  | .tup xs, .tup ys => xs.length + ys.length ≤ sizeLine ∧ R (.tup (xs ++ ys)) m
  | d, e => ∃ xs ys, LstIs m d xs ∧ LstIs m e ys ∧ xs.length + ys.length ≤ sizeLine ∧ newL b (xs ++ ys) m R
def subD : O2 := fun d e m R => match d, e with
  | .int i, .int j => R (.int (i - j)) m
  | _, _ => False
def mulD (b : Bool) : O2 := fun d e m R => match d, e with
  | .int i, .int j => MulOk i j ∧ R (.int (i * j)) m
  | .tup xs, .int k => xs ≠ [] ∧ 2 ≤ k ∧ k ≤ 1000 ∧ xs.length ≤ 1000 ∧ R (.tup (List.replicate k.toNat xs).flatten) m
  | d, .int k => ∃ xs, LstIs m d xs ∧ -(2 ^ 63) ≤ k ∧ k < 2 ^ 63 ∧ xs.length * k.toNat ≤ sizeLine ∧ newL b (List.replicate k.toNat xs).flatten m R
  | _, _ => False
def divD : O2 := fun d e m R => match d, e with
  | .int i, .int j => CDivW i j ∧ R (.int (i / j)) m
  | _, _ => False
def modD : O2 := fun d e m R => match d, e with
  | .int i, .int j => 0 < j ∧ R (.int (i % j)) m
  | _, _ => False
def powD : O2 := fun d e m R => match d, e with
  | .int i, .int j => CPow i j ∧ R (.int (i ^ j.toNat)) m
  | _, _ => False
theorem CDivW.small {i j : Int} (h : 0 < j) (k : j < 2 ^ 64) : CDivW i j := wide_div h (b := 64) (by omega) (by decide) (by decide)
section
variable {X : Cx} {Y : XS}
theorem od_sub : OpD X (binaryOp .Sub) subD := ⟨opr_weak op_sub fun x y H Q ⟨m, d, e, R, r1, r2, st, h, k⟩ => by
  unfold subD at h
  split at h
  · cases r1
    cases r2
    exact ⟨_, _, rfl, rfl, k _ _ _ _ h Ext.rfl st (.int _)⟩
  · exact h.elim⟩
theorem od_div : OpD X (binaryOp .FloorDiv) divD := ⟨opr_weak op_fdivW fun x y H Q ⟨m, d, e, R, r1, r2, st, h, k⟩ => by
  unfold divD at h
  split at h
  · cases r1
    cases r2
    exact ⟨_, _, rfl, rfl, h.1, k _ _ _ _ h.2 Ext.rfl st (.int _)⟩
  · exact h.elim⟩
theorem od_mod : OpD X (binaryOp .Mod) modD := ⟨opr_weak op_mod fun x y H Q ⟨m, d, e, R, r1, r2, st, h, k⟩ => by
  unfold modD at h
  split at h
  · cases r1
    cases r2
    exact ⟨_, _, rfl, rfl, h.1, k _ _ _ _ h.2 Ext.rfl st (.int _)⟩
  · exact h.elim⟩
theorem od_pow : OpD X (binaryOp .Pow) powD := ⟨opr_weak op_pow fun x y H Q ⟨m, d, e, R, r1, r2, st, h, k⟩ => by
  unfold powD at h
  split at h
  · cases r1
    cases r2
    exact ⟨_, _, rfl, rfl, h.1, k _ _ _ _ h.2 Ext.rfl st (.int _)⟩
  · exact h.elim⟩
theorem od_mul (b : Bool) : OpD X (binaryOp .Mult) (mulD b) := ⟨opr_weak (OpR.or (OpR.or op_mul op_mulW) (OpR.or op_repT op_rep)) fun x y H Q ⟨m, d, e, R, r1, r2, st, h, k⟩ => by
  unfold mulD at h
  split at h
  · cases r1
    cases r2
    rcases h.1 with z | z
    · exact .inl (.inl ⟨_, _, rfl, rfl, z, k _ _ _ _ h.2 Ext.rfl st (.int _)⟩)
    · exact .inl (.inr ⟨_, _, rfl, rfl, z, k _ _ _ _ h.2 Ext.rfl st (.int _)⟩)
  · cases r2
    obtain ⟨a, vs, rfl, q, rl⟩ := r1.tupV
    obtain ⟨h1, h2, h3, h4, h5⟩ := h
    refine .inr (.inl ⟨a, _, vs, rfl, rfl, q, fun z => ?_, h2, h3, by rw [rl.len]; exact h4, fun p hp => ?_⟩)
    · subst z
      cases rl
      exact h1 rfl
    · exact k _ _ _ _ h5 (ext_new hp) (sto_new st hp) (.tup (.inl ⟨st.free hp, .inl upd_same⟩) ((rl.ext (ext_new hp)).rep _))
  · cases r2
    obtain ⟨xs, h1, h2, h3, h4, h5⟩ := h
    obtain ⟨a, vs, rfl, e, rl⟩ := h1.low r1 st
    refine .inr (.inr ⟨a, _, vs, rfl, rfl, e, h2, h3, by rw [rl.len]; exact h4, fun p hp => ?_⟩)
    obtain ⟨d, m', q1, q2, q3, q4⟩ := newL_ok h5 st (rl.rep _) hp
    exact k _ _ d m' q1 q2 q3 q4
  · exact h.elim⟩
theorem od_add (b : Bool) : OpD X (binaryOp .Add) (addD b) := ⟨opr_weak (OpR.or (OpR.or op_add op_add_str) (OpR.or op_catA op_cat)) fun x y H Q ⟨m, d, e, R, r1, r2, st, h, k⟩ => by
  unfold addD at h
  split at h
  · cases r1
    cases r2
    exact .inl (.inl ⟨_, _, rfl, rfl, k _ _ _ _ h Ext.rfl st (.int _)⟩)
  · cases r1
    cases r2
    exact .inl (.inr ⟨_, _, rfl, rfl, h.1, k _ _ _ _ h.2 Ext.rfl st (.str _)⟩)
  · obtain ⟨a, vs, rfl, q, rl⟩ := id r1.tupV
    obtain ⟨b, ws, rfl, q', rl'⟩ := id r2.tupV
    refine .inr (.inl ⟨a, b, vs, ws, rfl, rfl, q, q', by rw [rl.len, rl'.len]; exact h.1, fun z => ?_, fun z z' => ?_, fun z z' p hp => ?_⟩)
    · subst z
      cases rl
      exact k _ _ _ _ h.2 Ext.rfl st r2
    · subst z'
      cases rl'
      refine k _ _ _ _ h.2 Ext.rfl st ?_
      rw [List.append_nil]
      exact r1
    · exact k _ _ _ _ h.2 (ext_new hp) (sto_new st hp) (.tup (.inl ⟨st.free hp, .inl upd_same⟩) ((rl.ext (ext_new hp)).app (rl'.ext (ext_new hp))))
  · obtain ⟨xs, ys, h1, h2, h3, h4⟩ := h
    obtain ⟨a, vs, rfl, e, rl⟩ := h1.low r1 st
    obtain ⟨a', vs', rfl, e', rl'⟩ := h2.low r2 st
    refine .inr (.inr ⟨a, a', vs, vs', rfl, rfl, e, e', by rw [rl.len, rl'.len]; exact h3, fun p hp => ?_⟩)
    obtain ⟨d, m', q1, q2, q3, q4⟩ := newL_ok h4 st (rl.app rl') hp
    exact k _ _ d m' q1 q2 q3 q4⟩
/-- -i -/
def dNeg (a : DE) : DE := fun δ m R => a δ m fun d m1 => match d with
  | .int i => R (.int (-i)) m1
  | _ => False
theorem pd_neg {a : Expr} {da : DE} {pos : Pos} (ha : PD X Y a da) : PD X Y (.UnaryOp .USub a pos) (dNeg da) :=
  ⟨pe_weak (pe_un un_neg ha.pe) fun σ H Q ⟨δ, m, R, en, st, h, k⟩ => lE_bind en st h fun v H1 d m1 r1 e1 en1 st1 rp1 => by
    cases d with
    | int i =>
      cases rp1
      exact ⟨i, rfl, k _ _ _ _ r1 e1 st1 (.int _)⟩
    | _ => exact r1.elim⟩

/-! ### comparisons -/
def cmpD (p : Int → Int → Bool) (s : Str → Str → Bool) : O2 := fun d e m R => match d, e with
  | .int i, .int j => R (.bl (p i j)) m
  | .str i, .str j => R (.bl (s i j)) m
  | _, _ => False
abbrev ltD : O2 := cmpD (fun i j => decide (i < j)) fun i j => decide (i.cps.toList < j.cps.toList)
abbrev leD : O2 := cmpD (fun i j => decide (i ≤ j)) fun i j => !decide (j.cps.toList < i.cps.toList)
def gtD : O2 := fun d e m R => match d, e with
  | .int i, .int j => R (.bl (decide (j < i))) m
  | _, _ => False
def geD : O2 := fun d e m R => match d, e with
  | .int i, .int j => R (.bl (decide (j ≤ i))) m
  | _, _ => False
theorem od_lt : OpD X (compareOp .Lt) ltD := ⟨opr_weak (OpR.or op_lt op_lt_str) fun x y H Q ⟨m, d, e, R, r1, r2, st, h, k⟩ => by
  unfold ltD cmpD at h
  split at h
  · cases r1
    cases r2
    exact .inl ⟨_, _, rfl, rfl, k _ _ _ _ h Ext.rfl st (.bl _)⟩
  · cases r1
    cases r2
    exact .inr ⟨_, _, rfl, rfl, k _ _ _ _ h Ext.rfl st (.bl _)⟩
  · exact h.elim⟩
theorem od_le : OpD X (compareOp .LtE) leD := ⟨opr_weak (OpR.or op_le op_le_str) fun x y H Q ⟨m, d, e, R, r1, r2, st, h, k⟩ => by
  unfold leD cmpD at h
  split at h
  · cases r1
    cases r2
    exact .inl ⟨_, _, rfl, rfl, k _ _ _ _ h Ext.rfl st (.bl _)⟩
  · cases r1
    cases r2
    exact .inr ⟨_, _, rfl, rfl, k _ _ _ _ h Ext.rfl st (.bl _)⟩
  · exact h.elim⟩
theorem od_gt : OpD X (compareOp .Gt) gtD := ⟨opr_weak op_gt fun x y H Q ⟨m, d, e, R, r1, r2, st, h, k⟩ => by
  unfold gtD at h
  split at h
  · cases r1
    cases r2
    exact ⟨_, _, rfl, rfl, k _ _ _ _ h Ext.rfl st (.bl _)⟩
  · exact h.elim⟩
theorem od_ge : OpD X (compareOp .GtE) geD := ⟨opr_weak op_ge fun x y H Q ⟨m, d, e, R, r1, r2, st, h, k⟩ => by
  unfold geD at h
  split at h
  · cases r1
    cases r2
    exact ⟨_, _, rfl, rfl, k _ _ _ _ h Ext.rfl st (.bl _)⟩
  · exact h.elim⟩
def eqD : O2 := fun d e m R => match d, e with
  | .int i, .int j => R (.bl (decide (i = j))) m
  | .str i, .str j => R (.bl (decide (i = j))) m
  | .bl i, .bl j => R (.bl (decide (i = j))) m
  | d, e => ∃ p q, Pv m d p ∧ Pv m e q ∧ SeqAt.shaped p = true ∧ SeqAt.shaped q = true ∧ R (.bl (PyData.eqv p q)) m
def neD : O2 := fun d e m R => match d, e with
  | .int i, .int j => R (.bl (!decide (i = j))) m
  | .str i, .str j => R (.bl (!decide (i = j))) m
  | .bl i, .bl j => R (.bl (!decide (i = j))) m
  | d, e => ∃ p q, Pv m d p ∧ Pv m e q ∧ SeqAt.shaped p = true ∧ SeqAt.shaped q = true ∧ R (.bl (!PyData.eqv p q)) m
theorem od_eq (hu : X.A.units + 64 < cLine) : OpD X (compareOp .Eq) eqD := ⟨opr_weak (OpR.or op_eq (op_eqD hu)) fun x y H Q ⟨m, d, e, R, r1, r2, st, h, k⟩ => by
  unfold eqD at h
  split at h
  · cases r1
    cases r2
    refine .inl ⟨rfl, k _ _ _ _ h Ext.rfl st ?_⟩
    rw [show decide (V.int _ = V.int _) = decide (_ = _) from decide_eq_decide.mpr ⟨fun e => V.int.inj e, fun e => congrArg V.int e⟩]
    exact .bl _
  · cases r1
    cases r2
    refine .inl ⟨rfl, k _ _ _ _ h Ext.rfl st ?_⟩
    rw [show decide (V.str _ = V.str _) = decide (_ = _) from decide_eq_decide.mpr ⟨fun e => V.str.inj e, fun e => congrArg V.str e⟩]
    exact .bl _
  · cases r1
    cases r2
    refine .inl ⟨rfl, k _ _ _ _ h Ext.rfl st ?_⟩
    rw [show decide (V.bl _ = V.bl _) = decide (_ = _) from decide_eq_decide.mpr ⟨fun e => V.bl.inj e, fun e => congrArg V.bl e⟩]
    exact .bl _
  · obtain ⟨p, q, h1, h2, h3, h4, h5⟩ := h
    exact .inr ⟨p, q, h1.dp st r1, h2.dp st r2, h3, h4, k _ _ _ _ h5 Ext.rfl st (.bl _)⟩⟩
theorem od_ne (hu : X.A.units + 64 < cLine) : OpD X (compareOp .NotEq) neD := ⟨opr_weak (OpR.or op_ne (op_neD hu)) fun x y H Q ⟨m, d, e, R, r1, r2, st, h, k⟩ => by
  unfold neD at h
  split at h
  · cases r1
    cases r2
    refine .inl ⟨rfl, k _ _ _ _ h Ext.rfl st ?_⟩
    rw [show decide (V.int _ = V.int _) = decide (_ = _) from decide_eq_decide.mpr ⟨fun e => V.int.inj e, fun e => congrArg V.int e⟩]
    exact .bl _
  · cases r1
    cases r2
    refine .inl ⟨rfl, k _ _ _ _ h Ext.rfl st ?_⟩
    rw [show decide (V.str _ = V.str _) = decide (_ = _) from decide_eq_decide.mpr ⟨fun e => V.str.inj e, fun e => congrArg V.str e⟩]
    exact .bl _
  · cases r1
    cases r2
    refine .inl ⟨rfl, k _ _ _ _ h Ext.rfl st ?_⟩
    rw [show decide (V.bl _ = V.bl _) = decide (_ = _) from decide_eq_decide.mpr ⟨fun e => V.bl.inj e, fun e => congrArg V.bl e⟩]
    exact .bl _
  · obtain ⟨p, q, h1, h2, h3, h4, h5⟩ := h
    exact .inr ⟨p, q, h1.dp st r1, h2.dp st r2, h3, h4, k _ _ _ _ h5 Ext.rfl st (.bl _)⟩⟩
/-- is None, is True -/
def isNonD : D → Bool
  | .non => true
  | _ => false
def isD : O2 := fun d e m R => match d, e with
  | .bl a, .bl b => R (.bl (decide (a = b))) m
  | d, .non => R (.bl (isNonD d)) m
  | _, _ => False
def isntD : O2 := fun d e m R => match d, e with
  | .bl a, .bl b => R (.bl (!decide (a = b))) m
  | d, .non => R (.bl (!isNonD d)) m
  | _, _ => False
theorem isNon_rp {K : PySem.W.Frag} {m : Sto} {H : Hp} {v : V} {d : D} (r : Rp K m H v d) : decide (v = .non) = isNonD d := by
  cases r <;> rfl
theorem od_is : OpD X (compareOp .Is) isD := ⟨opr_weak (OpR.or op_is_bl op_isN) fun x y H Q ⟨m, d, e, R, r1, r2, st, h, k⟩ => by
  unfold isD at h
  split at h
  · cases r1
    cases r2
    exact .inl ⟨_, _, rfl, rfl, k _ _ _ _ h Ext.rfl st (.bl _)⟩
  · cases r2
    refine .inr ⟨rfl, k _ _ _ _ h Ext.rfl st ?_⟩
    rw [isNon_rp r1]
    exact .bl _
  · exact h.elim⟩
theorem od_isnt : OpD X (compareOp .IsNot) isntD := ⟨opr_weak (OpR.or op_isnot_bl op_notN) fun x y H Q ⟨m, d, e, R, r1, r2, st, h, k⟩ => by
  unfold isntD at h
  split at h
  · cases r1
    cases r2
    exact .inl ⟨_, _, rfl, rfl, k _ _ _ _ h Ext.rfl st (.bl _)⟩
  · cases r2
    refine .inr ⟨rfl, k _ _ _ _ h Ext.rfl st ?_⟩
    rw [isNon_rp r1]
    exact .bl _
  · exact h.elim⟩

/-! ### and, or, not -/
def dAnd (t u : DT) : DT := fun δ m R => t δ m fun c m1 => (c = true → u δ m1 R) ∧ (c = false → R false m1)
def dOr (t u : DT) : DT := fun δ m R => t δ m fun c m1 => (c = true → R true m1) ∧ (c = false → u δ m1 R)
def dNot (t : DT) : DT := fun δ m R => t δ m fun c m1 => R (!c) m1
variable {a b : Expr} {rest : List Expr} {pos : Pos} {tA tB : DT}
theorem pdw_and1 (ha : PDT X Y a tA) : PDW X Y (.BoolOp .And [a] pos) tA := ⟨pw_and1 ha.pt⟩
theorem pdw_or1 (ha : PDT X Y a tA) : PDW X Y (.BoolOp .Or [a] pos) tA := ⟨pw_or1 ha.pt⟩
theorem pdw_and (ha : PDT X Y a tA) (hb : PDW X Y (.BoolOp .And (b :: rest) pos) tB) : PDW X Y (.BoolOp .And (a :: b :: rest) pos) (dAnd tA tB) :=
  ⟨pw_weak (pw_and ha.pt hb.pw) fun σ H Q ⟨δ, m, R, en, st, h, k⟩ => lT_bind en st h fun c H1 m1 r1 e1 en1 st1 => by
    cases c with
    | true => exact iteT ⟨δ, m1, R, en1, st1, r1.1 rfl, fun b H' m' q ex s => k b H' m' q (e1.trans ex) s⟩
    | false => exact iteF (k false H1 m1 (r1.2 rfl) e1 st1)⟩
theorem pdw_or (ha : PDT X Y a tA) (hb : PDW X Y (.BoolOp .Or (b :: rest) pos) tB) : PDW X Y (.BoolOp .Or (a :: b :: rest) pos) (dOr tA tB) :=
  ⟨pw_weak (pw_or ha.pt hb.pw) fun σ H Q ⟨δ, m, R, en, st, h, k⟩ => lT_bind en st h fun c H1 m1 r1 e1 en1 st1 => by
    cases c with
    | true => exact iteT (k true H1 m1 (r1.1 rfl) e1 st1)
    | false => exact iteF ⟨δ, m1, R, en1, st1, r1.2 rfl, fun b H' m' q ex s => k b H' m' q (e1.trans ex) s⟩⟩
theorem PDW.pt {e : Expr} {t : DT} (h : PDW X Y e t) : PDT X Y e t := ⟨h.pw.pt⟩
theorem pdt_not (ha : PDT X Y a tA) : PDT X Y (.UnaryOp .Not a pos) (dNot tA) :=
  ⟨pt_weak (pt_not ha.pt) fun σ H Q ⟨δ, m, R, en, st, h, k⟩ => lT_bind en st h fun c H1 m1 r1 e1 en1 st1 => k (!c) H1 m1 r1 e1 st1⟩
/-- as values -/
def dAndV (t u : DE) : DE := fun δ m R => dB t δ m fun c m1 => (c = true → u δ m1 R) ∧ (c = false → R (.bl false) m1)
def dOrV (t u : DE) : DE := fun δ m R => dB t δ m fun c m1 => (c = true → R (.bl true) m1) ∧ (c = false → u δ m1 R)
def dNotV (t : DE) : DE := fun δ m R => dB t δ m fun c m1 => R (.bl (!c)) m1
variable {da db : DE}
theorem dB_bind {K : PySem.W.Frag} {Y : XS} {e : DE} {σ : L2.St} {H : Hp} {Q : V → Hp → Prop} {δ : Ev} {m : Sto} {R : Bool → Sto → Prop} (en : EnvOk K Y m H σ δ) (st : StoOk K m H) (h : dB e δ m R)
    (k : ∀ b H' m', R b m' → Ext m H m' H' → EnvOk K Y m' H' σ δ → StoOk K m' H' → Q (.bl b) H') : lE K Y e σ H Q :=
  lE_bind en st h fun v H1 d m1 r1 e1 en1 st1 rp1 => by
    cases d with
    | bl b =>
      cases rp1
      exact k b H1 m1 r1 e1 en1 st1
    | _ => exact r1.elim
theorem pd_one {op} (h : PD X Y a da) : PD X Y (.BoolOp op [a] pos) da := ⟨pe_one h.pe⟩
theorem pd_and (ha : PD X Y a da) (hb : PD X Y (.BoolOp .And (b :: rest) pos) db) : PD X Y (.BoolOp .And (a :: b :: rest) pos) (dAndV da db) :=
  ⟨pe_weak (pe_and ha.pe hb.pe) fun σ H Q ⟨δ, m, R, en, st, h, k⟩ => dB_bind en st h fun c H1 m1 r1 e1 en1 st1 => ⟨c, rfl, by
    cases c with
    | true => exact iteT ⟨δ, m1, R, en1, st1, r1.1 rfl, fun v H' d m' q ex s rp => k v H' d m' q (e1.trans ex) s rp⟩
    | false => exact iteF (k _ H1 _ m1 (r1.2 rfl) e1 st1 (.bl _))⟩⟩
theorem pd_or (ha : PD X Y a da) (hb : PD X Y (.BoolOp .Or (b :: rest) pos) db) : PD X Y (.BoolOp .Or (a :: b :: rest) pos) (dOrV da db) :=
  ⟨pe_weak (pe_or ha.pe hb.pe) fun σ H Q ⟨δ, m, R, en, st, h, k⟩ => dB_bind en st h fun c H1 m1 r1 e1 en1 st1 => ⟨c, rfl, by
    cases c with
    | true => exact iteT (k _ H1 _ m1 (r1.1 rfl) e1 st1 (.bl _))
    | false => exact iteF ⟨δ, m1, R, en1, st1, r1.2 rfl, fun v H' d m' q ex s rp => k v H' d m' q (e1.trans ex) s rp⟩⟩⟩
theorem pd_not (ha : PD X Y a da) : PD X Y (.UnaryOp .Not a pos) (dNotV da) :=
  ⟨pe_weak (pe_not ha.pe) fun σ H Q ⟨δ, m, R, en, st, h, k⟩ => dB_bind en st h fun c H1 m1 r1 e1 en1 st1 => ⟨c, rfl, k _ H1 _ m1 r1 e1 st1 (.bl _)⟩⟩
def dIfE (t : DT) (a b : DE) : DE := fun δ m R => t δ m fun c m1 => (c = true → a δ m1 R) ∧ (c = false → b δ m1 R)
theorem pd_ifE {c : Expr} (hc : PDT X Y c tA) (ha : PD X Y a da) (hb : PD X Y b db) : PD X Y (.IfExp c a b pos) (dIfE tA da db) :=
  ⟨pe_weak (pe_ifExp hc.pt ha.pe hb.pe) fun σ H Q ⟨δ, m, R, en, st, h, k⟩ => lT_bind en st h fun c H1 m1 r1 e1 en1 st1 => by
    cases c with
    | true => exact iteT ⟨δ, m1, R, en1, st1, r1.1 rfl, fun v H' d m' q ex s rp => k v H' d m' q (e1.trans ex) s rp⟩
    | false => exact iteF ⟨δ, m1, R, en1, st1, r1.2 rfl, fun v H' d m' q ex s rp => k v H' d m' q (e1.trans ex) s rp⟩⟩

/-! ### subscripts, slices -/
def ixD : O2 := fun d i m R => match i with
  | .int k => (match d with
    | .str z => z.length ≤ sizeLine ∧ ∃ c, L2.atI z.cps.toList k = some c ∧ R (.str ⟨#[c]⟩) m
    | d => ∃ xs x, SeqIs m d xs ∧ L2.atI xs k = some x ∧ R x m)
  | _ => False
structure IxD (X : Cx) (g : O2) : Prop where
  ok : IxR X (lR2 X.K g)
theorem ixr_weak {r r' : R2} (h : IxR X r) (w : ∀ x y H Q, r' x y H Q → r x y H Q) : IxR X r' :=
  fun va sl pins s σ H x y v u Q I r1 r2 q => h va sl pins s σ H x y v u Q I r1 r2 (w x y H Q q)
theorem id_seq : IxD X ixD := ⟨ixr_weak ix_seq fun x y H Q ⟨m, d, e, R, r1, r2, st, h, k⟩ => by
  unfold ixD at h
  split at h
  · cases r2
    split at h
    · cases r1
      obtain ⟨h1, c, h2, h3⟩ := h
      exact .inr (.inr ⟨_, _, c, rfl, rfl, h1, h2, k _ _ _ _ h3 Ext.rfl st (.str _)⟩)
    · obtain ⟨xs, x, h1, h2, h3⟩ := h
      obtain ⟨a, vs, rfl, q, rl⟩ := h1.low r1 st
      obtain ⟨v, e1, rv⟩ := rl.atI h2
      rcases q with q | q
      · exact .inl ⟨a, vs, _, v, rfl, rfl, q, e1, k _ _ _ _ h3 Ext.rfl st rv⟩
      · exact .inr (.inl ⟨a, vs, _, v, rfl, rfl, q, e1, k _ _ _ _ h3 Ext.rfl st rv⟩)
  · exact h.elim⟩
theorem pd_ix {g : O2} (hr : IxD X g) (ha : PD X Y a da) (hb : PD X Y b db) (hs : PlainIx b := by exact fun _ _ => rfl) : PD X Y (.Subscript a b pos) (dOp g da db) :=
  ⟨pe_weak (pe_ix hr.ok ha.pe hb.pe hs) fun _ _ _ h => dOp_low h⟩
abbrev DO := Ev → Sto → (Option Int → Sto → Prop) → Prop
def lO (K : PySem.W.Frag) (Y : XS) (e : DO) : TO := fun σ H Q => ∃ δ m R, EnvOk K Y m H σ δ ∧ StoOk K m H ∧ e δ m R ∧
  ∀ b H' m', R b m' → Ext m H m' H' → StoOk K m' H' → Q b H'
structure PDO (X : Cx) (Y : XS) (e : Option Expr) (d : DO) : Prop where
  po : PO X e (lO X.K Y d)
def dNoPart : DO := fun _ m R => R none m
def dPart (e : DE) : DO := fun δ m R => e δ m fun d m1 => match d with
  | .int i => R (some i) m1
  | _ => False
theorem po_weak {e : Option Expr} {t t' : TO} (h : PO X e t) (w : ∀ σ H Q, t' σ H Q → t σ H Q) : PO X e t' := ⟨fun pins s σ H Q I q => h.run pins s σ H Q I (w σ H Q q)⟩
theorem pdo_none : PDO X Y none dNoPart := ⟨po_weak po_none fun σ H Q ⟨δ, m, R, en, st, h, k⟩ => k none H m h Ext.rfl st⟩
theorem pdo_some (h : PD X Y a da) : PDO X Y (some a) (dPart da) := ⟨po_weak (po_some h.pe) fun σ H Q ⟨δ, m, R, en, st, h, k⟩ => lE_bind en st h fun v H1 d m1 r1 e1 en1 st1 rp1 => by
  cases d with
  | int i =>
    cases rp1
    exact ⟨i, rfl, k _ H1 m1 r1 e1 st1⟩
  | _ => exact r1.elim⟩
theorem lO_bind {K : PySem.W.Frag} {Y : XS} {e : DO} {σ : L2.St} {H : Hp} {Q : Option Int → Hp → Prop} {δ : Ev} {m : Sto} {R : Option Int → Sto → Prop} (en : EnvOk K Y m H σ δ) (st : StoOk K m H) (h : e δ m R)
    (k : ∀ b H' m', R b m' → Ext m H m' H' → EnvOk K Y m' H' σ δ → StoOk K m' H' → Q b H') : lO K Y e σ H Q :=
  ⟨δ, m, R, en, st, h, fun b H' m' r ex s => k b H' m' r ex (en.ext ex) s⟩
/-- a slice by values -/
def slD (b : Bool) (d : D) (lo hi : Option Int) (m : Sto) (R : D → Sto → Prop) : Prop := match d with
  | .str z => z.length ≤ sizeLine ∧ R (.str (cutS z lo hi)) m
  | .tup xs => R (.tup (cut xs lo hi)) m
  | .lst xs => newL b (cut xs lo hi) m R
  | .rl xs => newL b (cut xs lo hi) m R
  | .ptr a => ∃ o xs, m a = some o ∧ seqMO o = some xs ∧ newL b (cut xs lo hi) m R
  | _ => False
def dSl (b : Bool) (e : DE) (l h : DO) : DE := fun δ m R => e δ m fun d m1 => l δ m1 fun lo m2 => h δ m2 fun hi m3 => slD b d lo hi m3 R
theorem cut_whole {A : Type} {xs : List A} {lo hi : Option Int} (h : HT.sIx xs.length 0 lo = 0 ∧ HT.sIx xs.length xs.length hi = xs.length) : cut xs lo hi = xs := by
  unfold cut
  rw [h.1, h.2]
  simp
theorem pd_sl (b : Bool) {lo hi : Option Expr} {tl th : DO} {p2 : Pos} (he : PD X Y a da) (hl : PDO X Y lo tl) (hh : PDO X Y hi th) : PD X Y (.Subscript a (.Slice lo hi none p2) pos) (dSl b da tl th) :=
  ⟨pe_weak (pe_slice (SlR.or (SlR.or sl_str sl_tupA) sl_list) he.pe hl.po hh.po) fun σ H Q ⟨δ, m, R, en, st, h, k⟩ => lE_bind en st h fun v H1 d m1 r1 e1 en1 st1 rp1 =>
    lO_bind en1 st1 r1 fun l H2 m2 r2 e2 en2 st2 => lO_bind en2 st2 r2 fun u H3 m3 r3 e3 en3 st3 => by
    have rp := rp1.ext (e2.trans e3)
    have ex := (e1.trans e2).trans e3
    unfold slD at r3
    split at r3
    · cases rp
      exact .inl (.inl ⟨_, rfl, r3.1, k _ _ _ _ r3.2 ex st3 (.str _)⟩)
    · obtain ⟨a, vs, rfl, q, rl⟩ := id rp.tupV
      refine .inl (.inr ⟨a, vs, rfl, q, fun z => ?_, fun z p hp => ?_⟩)
      · rw [rl.len] at z
        refine k _ _ _ _ r3 ex st3 ?_
        rw [cut_whole z]
        exact rp
      · exact k _ _ _ _ r3 (ex.trans (ext_new hp)) (sto_new st3 hp) (.tup (.inl ⟨st3.free hp, .inl upd_same⟩) ((rl.cut _ _).ext (ext_new hp)))
    · obtain ⟨a, vs, rfl, _, q, rl⟩ := id rp.lstV
      refine .inr ⟨a, vs, rfl, SqL.of q, fun p hp => ?_⟩
      obtain ⟨d, m', q1, q2, q3, q4⟩ := newL_ok r3 st3 (rl.cut _ _) hp
      exact k _ _ d m' q1 (ex.trans q2) q3 q4
    · obtain ⟨a, vs, rfl, q, rl⟩ := id rp.rlV
      refine .inr ⟨a, vs, rfl, q, fun p hp => ?_⟩
      obtain ⟨d, m', q1, q2, q3, q4⟩ := newL_ok r3 st3 (rl.cut _ _) hp
      exact k _ _ d m' q1 (ex.trans q2) q3 q4
    · rename_i a0
      obtain ⟨o, xs, h1, h2, h3⟩ := r3
      cases rp
      have q : ∃ vs, SqL X.K H3 a0 vs ∧ RpL X.K m3 H3 vs xs := by
        have g := st3 _ _ h1
        cases o with
        | lst ds =>
          cases h2
          obtain ⟨vs, e, r⟩ := g
          exact ⟨vs, SqL.of e, r⟩
        | seq ds =>
          cases h2
          obtain ⟨vs, e, r⟩ := g
          exact ⟨vs, .inl e, r⟩
        | _ => cases h2
      obtain ⟨vs, q, rl⟩ := q
      refine .inr ⟨_, vs, rfl, q, fun p hp => ?_⟩
      obtain ⟨d, m', q1, q2, q3, q4⟩ := newL_ok h3 st3 (rl.cut _ _) hp
      exact k _ _ d m' q1 (ex.trans q2) q3 q4
    · exact r3.elim⟩
/-- xs[::-1] of a list -/
def dRevL (b : Bool) (e : DE) : DE := fun δ m R => e δ m fun d m1 => ∃ xs, LstIs m1 d xs ∧ newL b xs.reverse m1 R
theorem pd_revL (b : Bool) {k : Nat} {p1 p2 p3 : Pos} (he : PD X Y a da) : PD X Y (.Subscript a (.Slice none none (some (.UnaryOp .USub (.Constant (.int 1) k p1) p2)) p3) pos) (dRevL b da) :=
  ⟨pe_weak (pe_revL he.pe) fun σ H Q ⟨δ, m, R, en, st, h, k⟩ => lE_bind en st h fun v H1 d m1 r1 e1 en1 st1 rp1 => by
    obtain ⟨xs, h1, h2⟩ := r1
    obtain ⟨a, vs, rfl, q, rl⟩ := h1.low rp1 st1
    refine ⟨a, vs, rfl, SqL.of q, fun p hp => ?_⟩
    obtain ⟨d, m', q1, q2, q3, q4⟩ := newL_ok h2 st1 rl.rev hp
    exact k _ _ d m' q1 (e1.trans q2) q3 q4⟩
end
end Dl

/-! The data layer: calls of built-ins, statements, loops, comprehensions. -/
namespace Dl
open PySem PySem.Spec PyProof.Rows L2

/-! ### calls of built-ins, by values -/
abbrev OL := List D → Sto → (D → Sto → Prop) → Prop
def lCB (K : PySem.W.Frag) (g : OL) : List V → Hp → VK → Prop := fun xs H Q => ∃ m ds R, RpL K m H xs ds ∧ StoOk K m H ∧ g ds m R ∧ Aft K m H R Q
structure CallD (X : Cx) (f : Value) (g : OL) : Prop where
  ok : CallR X f (lCB X.K g)
def dCB (g : OL) (t : DA) : DE := fun δ m R => t δ m fun ds m1 => g ds m1 R
section
variable {X : Cx} {Y : XS} {f : Value} {x : Str} {p pos : Pos} {e : Expr} {es : List Expr} {t : DA} {id T : String} {g : OL}
theorem cr_weak {r r' : List V → Hp → VK → Prop} (h : CallR X f r) (w : ∀ xs H Q, r' xs H Q → r xs H Q) : CallR X f r' :=
  fun pins s σ H xs us Q I r1 q => h pins s σ H xs us Q I r1 (w xs H Q q)
theorem cr_or {r r' : List V → Hp → VK → Prop} (h : CallR X f r) (h' : CallR X f r') : CallR X f (fun xs H Q => r xs H Q ∨ r' xs H Q) :=
  fun pins s σ H xs us Q I r1 q => q.elim (h pins s σ H xs us Q I r1) (h' pins s σ H xs us Q I r1)
theorem dCB_low {K : PySem.W.Frag} {Y : XS} {σ : L2.St} {H : Hp} {Q : VK} (h : lE K Y (dCB g t) σ H Q) : tCB (lCB K g) (lA K Y t) σ H Q := by
  obtain ⟨δ, m, R, en, st, h, k⟩ := h
  exact lA_bind en st h fun vs H1 ds m1 r1 e1 _ st1 rp => ⟨m1, ds, R, rp, st1, r1, fun v H' d m' q ex s r => k v H' d m' q (e1.trans ex) s r⟩
theorem pd_callB (hc : CallD X (.builtin id) g) (hg : Gl X x) (hm : X.mg x = none) (hv : bootBuiltins x = some (.builtin id)) (ha : PDA X Y (e :: es) t) (hn : x ≠ "__name__" := by decide) (hdb : (x == ("__debug__" : Str)) = false := by decide)
    (he : starEach (e :: es) X.env = (false, eval e X.env) :: starEach es X.env := by rfl) (hpl : (backTo pos (starEach es X.env)).any (·.1) = false := by rfl) : PD X Y (.Call (.Name x p) (e :: es) [] pos) (dCB g t) :=
  ⟨pe_weak (pe_callB hc.ok hg hm hv ha.pa hn hdb he hpl) fun _ _ _ h => dCB_low h⟩
theorem pd_callT (hc : CallD X (.type T) g) (hg : Gl X x) (hm : X.mg x = none) (hv : bootBuiltins x = some (.type T)) (ha : PDA X Y (e :: es) t) (hn : x ≠ "__name__" := by decide) (hdb : (x == ("__debug__" : Str)) = false := by decide)
    (he : starEach (e :: es) X.env = (false, eval e X.env) :: starEach es X.env := by rfl) (hpl : (backTo pos (starEach es X.env)).any (·.1) = false := by rfl) : PD X Y (.Call (.Name x p) (e :: es) [] pos) (dCB g t) :=
  ⟨pe_weak (pe_callTy hc.ok hg hm hv ha.pa hn hdb he hpl) fun _ _ _ h => dCB_low h⟩
end
theorem RpL.one {K : PySem.W.Frag} {m : Sto} {H : Hp} {vs : List V} {d : D} (r : RpL K m H vs [d]) : ∃ v, vs = [v] ∧ Rp K m H v d := by
  cases r with
  | cons a b =>
    cases b
    exact ⟨_, rfl, a⟩
theorem RpL.two {K : PySem.W.Frag} {m : Sto} {H : Hp} {vs : List V} {d e : D} (r : RpL K m H vs [d, e]) : ∃ v w, vs = [v, w] ∧ Rp K m H v d ∧ Rp K m H w e := by
  cases r with
  | cons a b =>
    obtain ⟨w, rfl, b1⟩ := b.one
    exact ⟨_, w, rfl, a, b1⟩
def lenMO : MO → Option Nat
  | .lst ds => some ds.length
  | .seq ds => some ds.length
  | .dct kvs => some kvs.length
  | _ => none
def lenD : OL := fun ds m R => match ds with
  | [.str z] => z.length ≤ sizeLine ∧ R (.int z.length) m
  | [.lst xs] => R (.int xs.length) m
  | [.tup xs] => R (.int xs.length) m
  | [.ptr a] => ∃ o n, m a = some o ∧ lenMO o = some n ∧ R (.int n) m
  | _ => False
/-- the least, the greatest of some whole numbers, one at least -/
def lmin : List Int → Int
  | [] => 0
  | [x] => x
  | x :: y :: r => min x (lmin (y :: r))
def lmax : List Int → Int
  | [] => 0
  | [x] => x
  | x :: y :: r => max x (lmax (y :: r))
theorem lmin_le : ∀ {l : List Int} {x : Int}, x ∈ l → lmin l ≤ x
  | [a], x, h => by
    have e : x = a := by simpa using h
    rw [e]
    exact Int.le_refl _
  | a :: b :: r, x, h => by
    show min a (lmin (b :: r)) ≤ x
    rcases List.mem_cons.mp h with e | h
    · omega
    · have := lmin_le h
      omega
theorem lmin_mem : ∀ {l : List Int}, 0 < l.length → lmin l ∈ l
  | [a], _ => List.mem_cons_self
  | a :: b :: r, _ => by
    show min a (lmin (b :: r)) ∈ a :: b :: r
    have ih : lmin (b :: r) ∈ b :: r := lmin_mem (Nat.succ_pos _)
    rcases Int.le_total a (lmin (b :: r)) with h | h
    · rw [Int.min_eq_left h]
      exact List.mem_cons_self
    · rw [Int.min_eq_right h]
      exact List.mem_cons_of_mem _ ih
theorem le_lmax : ∀ {l : List Int} {x : Int}, x ∈ l → x ≤ lmax l
  | [a], x, h => by
    have e : x = a := by simpa using h
    rw [e]
    exact Int.le_refl _
  | a :: b :: r, x, h => by
    show x ≤ max a (lmax (b :: r))
    rcases List.mem_cons.mp h with e | h
    · omega
    · have := le_lmax h
      omega
theorem lmax_mem : ∀ {l : List Int}, 0 < l.length → lmax l ∈ l
  | [a], _ => List.mem_cons_self
  | a :: b :: r, _ => by
    show max a (lmax (b :: r)) ∈ a :: b :: r
    have ih : lmax (b :: r) ∈ b :: r := lmax_mem (Nat.succ_pos _)
    rcases Int.le_total a (lmax (b :: r)) with h | h
    · rw [Int.max_eq_right h]
      exact List.mem_cons_of_mem _ ih
    · rw [Int.max_eq_left h]
      exact List.mem_cons_self
theorem lmin_eq {l : List Int} {k : Int} (h : k ∈ l) (z : ∀ y, y ∈ l → k ≤ y) : k = lmin l :=
  Int.le_antisymm (z _ (lmin_mem (List.length_pos_of_mem h))) (lmin_le h)
theorem lmax_eq {l : List Int} {k : Int} (h : k ∈ l) (z : ∀ y, y ∈ l → y ≤ k) : k = lmax l :=
  Int.le_antisymm (le_lmax h) (z _ (lmax_mem (List.length_pos_of_mem h)))
def minD : OL := fun ds m R => match ds with
  | [.int i, .int j] => R (.int (min i j)) m
  | [d] => ∃ ns : List Int, LstIs m d (ns.map D.int) ∧ 0 < ns.length ∧ R (.int (lmin ns)) m
  | _ => False
def maxD : OL := fun ds m R => match ds with
  | [.int i, .int j] => R (.int (max i j)) m
  | [d] => ∃ ns : List Int, LstIs m d (ns.map D.int) ∧ 0 < ns.length ∧ R (.int (lmax ns)) m
  | _ => False
def sumD : OL := fun ds m R => match ds with
  | [d] => ∃ ns : List Int, LstIs m d (ns.map D.int) ∧ R (.int ns.sum) m
  | _ => False
def allD : OL := fun ds m R => match ds with
  | [d] => ∃ bs : List Bool, LstIs m d (bs.map D.bl) ∧ R (.bl (bs.all id)) m
  | _ => False
def anyD : OL := fun ds m R => match ds with
  | [d] => ∃ bs : List Bool, LstIs m d (bs.map D.bl) ∧ R (.bl (bs.any id)) m
  | _ => False
def absD : OL := fun ds m R => match ds with
  | [.int i] => R (.int (if i < 0 then -i else i)) m
  | _ => False
def intD : OL := fun ds m R => match ds with
  | [.int i] => R (.int i) m
  | [.bl b] => R (.int (if b then 1 else 0)) m
  | _ => False
def tupleD : OL := fun ds m R => match ds with
  | [d] => ∃ xs, SeqIs m d xs ∧ R (.tup xs) m
  | _ => False
def listD (b : Bool) : OL := fun ds m R => match ds with
  | [d] => ∃ xs, SeqIs m d xs ∧ newL b xs m R
  | _ => False
def strD : OL := fun ds m R => match ds with
  | [.int i] => i.natAbs.log2 < 1920 ∧ R (.str (toString i)) m
  | [.str z] => R (.str z) m
  | _ => False
def reprD : OL := fun ds m R => match ds with
  | [.int i] => i.natAbs.log2 < 1920 ∧ R (.str (toString i)) m
  | [d] => ∃ q, Pv m d q ∧ q.showable = true ∧ q.hasDict = false ∧ q.shown.length ≤ sizeLine ∧ q.depth ≤ 50 ∧ (match q with | .list _ => True | .tuple _ => True | _ => False) ∧ R (.str q.shown) m
  | _ => False
section
variable {X : Cx} {Y : XS}
theorem cd_len : CallD X (.builtin "len") lenD := ⟨cr_weak (cr_or call_len call_lenD) fun xs H Q ⟨m, ds, R, r, st, h, k⟩ => by
  unfold lenD at h
  split at h
  · obtain ⟨v, rfl, r1⟩ := r.one
    cases r1
    exact .inl ⟨_, _, rfl, ⟨h.1, rfl⟩, k _ _ _ _ h.2 Ext.rfl st (.int _)⟩
  · obtain ⟨v, rfl, r1⟩ := r.one
    obtain ⟨a, vs, rfl, _, e, rl⟩ := r1.lstV
    refine .inl ⟨_, vs.length, rfl, .inl ⟨vs, SqL.of e, rfl⟩, k _ _ _ _ h Ext.rfl st ?_⟩
    rw [rl.len]
    exact .int _
  · obtain ⟨v, rfl, r1⟩ := r.one
    obtain ⟨a, vs, rfl, e, rl⟩ := r1.tupV
    refine .inl ⟨_, vs.length, rfl, .inr ⟨vs, e, rfl⟩, k _ _ _ _ h Ext.rfl st ?_⟩
    rw [rl.len]
    exact .int _
  · obtain ⟨v, rfl, r1⟩ := r.one
    cases r1
    obtain ⟨o, n, h1, h2, h3⟩ := h
    have g := st _ _ h1
    cases o with
    | lst ds =>
      cases h2
      obtain ⟨vs, e, rl⟩ := g
      refine .inl ⟨_, vs.length, rfl, .inl ⟨vs, SqL.of e, rfl⟩, k _ _ _ _ h3 Ext.rfl st ?_⟩
      rw [rl.len]
      exact .int _
    | seq ds =>
      cases h2
      obtain ⟨vs, e, rl⟩ := g
      refine .inl ⟨_, vs.length, rfl, .inl ⟨vs, .inl e, rfl⟩, k _ _ _ _ h3 Ext.rfl st ?_⟩
      rw [rl.len]
      exact .int _
    | dct ds =>
      cases h2
      obtain ⟨vs, e, rl⟩ := g
      have el : ∀ {vs : List (Key × V)} {ds : List (Key × D)}, RpF X.K m H vs ds → vs.length = ds.length := fun {vs ds} r => by
        induction r with
        | nil => rfl
        | cons _ _ ih => exact congrArg Nat.succ ih
      refine .inr ⟨_, vs, rfl, e, k _ _ _ _ h3 Ext.rfl st ?_⟩
      rw [el rl]
      exact .int _
    | _ => cases h2
  · exact h.elim⟩
theorem cd_min (hc : X.calm = true) : CallD X (.builtin "min") minD := ⟨cr_weak (cr_or (call_min2 hc) (cr_min hc)) fun xs H Q ⟨m, ds, R, r, st, h, k⟩ => by
  unfold minD at h
  split at h
  · rename_i i j
    obtain ⟨v, w, rfl, r1, r2⟩ := r.two
    cases r1
    cases r2
    refine .inl ⟨i, j, rfl, k _ _ _ _ h Ext.rfl st ?_⟩
    rw [show (if j < i then j else i) = min i j by split <;> omega]
    exact .int _
  · obtain ⟨v, rfl, r1⟩ := r.one
    obtain ⟨ns, h1, h2, h3⟩ := h
    obtain ⟨a, vs, rfl, e, rl⟩ := h1.low r1 st
    have ev := rl.intsV
    subst ev
    refine .inr ⟨a, ns, rfl, SqL.of e, h2, fun z hz hle => k _ _ _ _ h3 Ext.rfl st ?_⟩
    rw [lmin_eq hz hle]
    exact .int _
  · exact h.elim⟩
theorem cd_max (hc : X.calm = true) : CallD X (.builtin "max") maxD := ⟨cr_weak (cr_or (call_max2 hc) (cr_max hc)) fun xs H Q ⟨m, ds, R, r, st, h, k⟩ => by
  unfold maxD at h
  split at h
  · rename_i i j
    obtain ⟨v, w, rfl, r1, r2⟩ := r.two
    cases r1
    cases r2
    refine .inl ⟨i, j, rfl, k _ _ _ _ h Ext.rfl st ?_⟩
    rw [show (if j > i then j else i) = max i j by split <;> omega]
    exact .int _
  · obtain ⟨v, rfl, r1⟩ := r.one
    obtain ⟨ns, h1, h2, h3⟩ := h
    obtain ⟨a, vs, rfl, e, rl⟩ := h1.low r1 st
    have ev := rl.intsV
    subst ev
    refine .inr ⟨a, ns, rfl, SqL.of e, h2, fun z hz hle => k _ _ _ _ h3 Ext.rfl st ?_⟩
    rw [lmax_eq hz hle]
    exact .int _
  · exact h.elim⟩
theorem cd_sum (hc : X.calm = true) : CallD X (.builtin "sum") sumD := ⟨cr_weak (cr_sum hc) fun xs H Q ⟨m, ds, R, r, st, h, k⟩ => by
  unfold sumD at h
  split at h
  · obtain ⟨v, rfl, r1⟩ := r.one
    obtain ⟨ns, h1, h3⟩ := h
    obtain ⟨a, vs, rfl, e, rl⟩ := h1.low r1 st
    have ev := rl.intsV
    subst ev
    exact ⟨a, ns, rfl, SqL.of e, k _ _ _ _ h3 Ext.rfl st (.int _)⟩
  · exact h.elim⟩
theorem cd_all (hc : X.calm = true) : CallD X (.builtin "all") allD := ⟨cr_weak (cr_all hc) fun xs H Q ⟨m, ds, R, r, st, h, k⟩ => by
  unfold allD at h
  split at h
  · obtain ⟨v, rfl, r1⟩ := r.one
    obtain ⟨ns, h1, h3⟩ := h
    obtain ⟨a, vs, rfl, e, rl⟩ := h1.low r1 st
    have ev := rl.blsV
    subst ev
    exact ⟨a, ns, rfl, SqL.of e, k _ _ _ _ h3 Ext.rfl st (.bl _)⟩
  · exact h.elim⟩
theorem cd_any (hc : X.calm = true) : CallD X (.builtin "any") anyD := ⟨cr_weak (cr_any hc) fun xs H Q ⟨m, ds, R, r, st, h, k⟩ => by
  unfold anyD at h
  split at h
  · obtain ⟨v, rfl, r1⟩ := r.one
    obtain ⟨ns, h1, h3⟩ := h
    obtain ⟨a, vs, rfl, e, rl⟩ := h1.low r1 st
    have ev := rl.blsV
    subst ev
    exact ⟨a, ns, rfl, SqL.of e, k _ _ _ _ h3 Ext.rfl st (.bl _)⟩
  · exact h.elim⟩
theorem cd_abs : CallD X (.builtin "abs") absD := ⟨cr_weak call_abs fun xs H Q ⟨m, ds, R, r, st, h, k⟩ => by
  unfold absD at h
  split at h
  · obtain ⟨v, rfl, r1⟩ := r.one
    cases r1
    exact ⟨_, rfl, k _ _ _ _ h Ext.rfl st (.int _)⟩
  · exact h.elim⟩
theorem cd_int : CallD X (.type "int") intD := ⟨cr_weak call_int1 fun xs H Q ⟨m, ds, R, r, st, h, k⟩ => by
  unfold intD at h
  split at h
  · obtain ⟨v, rfl, r1⟩ := r.one
    cases r1
    exact .inl ⟨_, rfl, k _ _ _ _ h Ext.rfl st (.int _)⟩
  · obtain ⟨v, rfl, r1⟩ := r.one
    cases r1
    exact .inr ⟨_, rfl, k _ _ _ _ h Ext.rfl st (.int _)⟩
  · exact h.elim⟩
theorem cd_str : CallD X (.type "str") strD := ⟨cr_weak (cr_or call_str_int SkE.call_str_str) fun xs H Q ⟨m, ds, R, r, st, h, k⟩ => by
  unfold strD at h
  split at h
  · obtain ⟨v, rfl, r1⟩ := r.one
    cases r1
    exact .inl ⟨_, rfl, h.1, k _ _ _ _ h.2 Ext.rfl st (.str _)⟩
  · obtain ⟨v, rfl, r1⟩ := r.one
    cases r1
    exact .inr ⟨_, rfl, k _ _ _ _ h Ext.rfl st (.str _)⟩
  · exact h.elim⟩
theorem cd_tuple : CallD X (.type "tuple") tupleD := ⟨cr_weak call_tuple_of fun xs H Q ⟨m, ds, R, r, st, h, k⟩ => by
  unfold tupleD at h
  split at h
  · rename_i d
    obtain ⟨v, rfl, r1⟩ := r.one
    obtain ⟨xs, h1, h2⟩ := h
    have isT : ∀ a vs, v = .ref a → SqL X.K H a vs ∧ RpL X.K m H vs xs → ∃ p ys, [v] = [V.ref p] ∧ ((SqL X.K H p ys ∧ ∀ l, H l = none → Q (.ref l) (L2.upd H l (.tup ys))) ∨ SqT X.K H p ys ∧ Q (.ref p) H) := by
      rintro a vs rfl ⟨e, rl⟩
      exact ⟨a, vs, rfl, .inl ⟨e, fun p hp => k _ _ _ _ h2 (ext_new hp) (sto_new st hp) (.tup (.inl ⟨st.free hp, .inl upd_same⟩) (rl.ext (ext_new hp)))⟩⟩
    cases d with
    | tup ys =>
      cases h1
      obtain ⟨a, vs, rfl, e, rl⟩ := id r1.tupV
      exact ⟨a, vs, rfl, .inr ⟨e, k _ _ _ _ h2 Ext.rfl st r1⟩⟩
    | lst ys =>
      cases h1
      obtain ⟨a, vs, rfl, _, e, rl⟩ := r1.lstV
      exact isT a vs rfl ⟨SqL.of e, rl⟩
    | rl ys =>
      cases h1
      obtain ⟨a, vs, rfl, e, rl⟩ := r1.rlV
      exact isT a vs rfl ⟨e, rl⟩
    | ptr b =>
      obtain ⟨o, e, q⟩ := h1
      have g := st _ _ e
      cases r1
      cases o with
      | lst ds =>
        cases q
        obtain ⟨vs, e, rl⟩ := g
        exact isT b vs rfl ⟨SqL.of e, rl⟩
      | seq ds =>
        cases q
        obtain ⟨vs, e, rl⟩ := g
        exact isT b vs rfl ⟨.inl e, rl⟩
      | _ => cases q
    | _ => exact h1.elim
  · exact h.elim⟩
theorem cd_list (b : Bool) : CallD X (.type "list") (listD b) := ⟨cr_weak call_list_of fun xs H Q ⟨m, ds, R, r, st, h, k⟩ => by
  unfold listD at h
  split at h
  · obtain ⟨v, rfl, r1⟩ := r.one
    obtain ⟨xs, h1, h2⟩ := h
    obtain ⟨a, vs, rfl, e, rl⟩ := h1.low r1 st
    refine ⟨a, vs, rfl, e, fun p hp => ?_⟩
    obtain ⟨d, m', q1, q2, q3, q4⟩ := newL_ok h2 st rl hp
    exact k _ _ d m' q1 q2 q3 q4
  · exact h.elim⟩
/-- repr of data -/
theorem call_repr_data (hg : X.A.guards = some []) (hu : X.A.units + 64 < cLine) : CallR X (.builtin "repr") (fun xs H Q => ∃ a q, xs = [V.ref a] ∧ Dp X.K H (.ref a) q ∧ q.showable = true ∧ q.hasDict = false ∧ q.shown.length ≤ sizeLine ∧ q.depth ≤ 50 ∧ Q (.str q.shown) H) := by
  intro pins s σ H xs us Q I r h
  obtain ⟨a, q, rfl, hd, h1, h2, h3, h4, hQ⟩ := h
  obtain ⟨u, rfl, ru⟩ := vals1 r
  obtain ⟨as, hr⟩ := Dp.reads I q _ u hd ru
  cases ru
  exact repr_of_reads' hr h1 (PyData.noDict_hsm h2) hg (by omega) (fun _ _ e => e) (fun h' u tk hk => ⟨.str _, H, I.kept hk, ⟨_, rfl⟩, hQ⟩) h3
theorem cd_repr (hg : X.A.guards = some []) (hu : X.A.units + 64 < cLine) : CallD X (.builtin "repr") reprD := ⟨cr_weak (cr_or SkE.call_repr_int (call_repr_data hg hu)) fun xs H Q ⟨m, ds, R, r, st, h, k⟩ => by
  unfold reprD at h
  split at h
  · obtain ⟨v, rfl, r1⟩ := r.one
    cases r1
    exact .inl ⟨_, rfl, h.1, k _ _ _ _ h.2 Ext.rfl st (.str _)⟩
  · obtain ⟨v, rfl, r1⟩ := r.one
    obtain ⟨q, h1, h2, h3, h4, h5, h6, h7⟩ := h
    have z : ∃ a, v = .ref a := by
      cases h1 with
      | lst _ => obtain ⟨a, _, e, _⟩ := r1.lstV; exact ⟨a, e⟩
      | tup _ => obtain ⟨a, _, e, _⟩ := r1.tupV; exact ⟨a, e⟩
      | ptr _ _ _ => cases r1; exact ⟨_, rfl⟩
      | _ => exact h6.elim
    obtain ⟨a, rfl⟩ := z
    exact .inr ⟨a, q, rfl, h1.dp st r1, h2, h3, h4, h5, k _ _ _ _ h7 Ext.rfl st (.str _)⟩
  · exact h.elim⟩
end

/-! ### isinstance -/
inductive Ty where
  | int | bool | str | tup | lst | dct
def Ty.nm : Ty → String
  | .int => "int"
  | .bool => "bool"
  | .str => "str"
  | .tup => "tuple"
  | .lst => "list"
  | .dct => "dict"
def isT (T : Ty) (d : D) : Bool := match T, d with
  | .int, .int _ => true
  | .int, .bl _ => true
  | .bool, .bl _ => true
  | .str, .str _ => true
  | .tup, .tup _ => true
  | .lst, .lst _ => true
  | _, _ => false
def isM (T : Ty) (o : MO) : Option Bool := match o with
  | .lst _ => some (match T with | .lst => true | _ => false)
  | .dct _ => some (match T with | .dct => true | _ => false)
  | _ => none
/-- isinstance(d, T), T a built-in type -/
def isiD (T : Ty) (d : D) (m : Sto) (R : D → Sto → Prop) : Prop := match d with
  | .ptr a => ∃ o b, m a = some o ∧ isM T o = some b ∧ R (.bl b) m
  | .ty _ => False
  | .rl _ => False
  | d => R (.bl (isT T d)) m
def dIsi (T : Ty) (e : DE) : DE := fun δ m R => e δ m fun d m1 => isiD T d m1 R
section
variable {X : Cx} {Y : XS}
theorem kit_t (T : Ty) (s : String) (b : Bool) (h : kitB s T.nm = some b) {K : PySem.W.Frag} : PySem.W.kitOne K (.type s) (.type T.nm) = some b := kit_ty h
theorem kb_non (T : Ty) : kitB "NoneType" T.nm = some (isT T .non) := by cases T <;> decide +kernel
theorem kb_bl (T : Ty) : kitB "bool" T.nm = some (isT T (.bl true)) := by cases T <;> decide +kernel
theorem kb_int (T : Ty) : kitB "int" T.nm = some (isT T (.int 0)) := by cases T <;> decide +kernel
theorem kb_str (T : Ty) : kitB "str" T.nm = some (isT T (.str "")) := by cases T <;> decide +kernel
theorem kb_tup (T : Ty) : kitB "tuple" T.nm = some (isT T (.tup [])) := by cases T <;> decide +kernel
theorem kb_lst (T : Ty) : kitB "list" T.nm = some (isT T (.lst [])) := by cases T <;> decide +kernel
theorem kb_dct (T : Ty) : kitB "dict" T.nm = some (match T with | .dct => true | _ => false) := by cases T <;> decide +kernel
theorem isi_low {K : PySem.W.Frag} {T : Ty} {d : D} {m : Sto} {R : D → Sto → Prop} {v : V} {H : Hp} {Q : VK} (h : isiD T d m R) (r : Rp K m H v d) (st : StoOk K m H) (k : Aft K m H R Q) :
    rIsi K [v, .ty T.nm] H Q := by
  have tb : ∀ (s : String) (b : Bool) (x : V), TyX K H x (.type s) → kitB s T.nm = some b → R (.bl b) m → rIsi K [x, .ty T.nm] H Q := fun s b x tx e q =>
    ⟨x, .ty T.nm, .type s, .type T.nm, b, rfl, .ty _, tx, kit_ty e, k _ _ _ _ q Ext.rfl st (.bl b)⟩
  cases r with
  | non => exact tb "NoneType" _ _ (.base .non) ((kb_non T).trans (by cases T <;> rfl)) h
  | bl b => exact tb "bool" _ _ (.base (.bl b)) ((kb_bl T).trans (by cases T <;> rfl)) h
  | int b => exact tb "int" _ _ (.base (.int b)) ((kb_int T).trans (by cases T <;> rfl)) h
  | str b => exact tb "str" _ _ (.base (.str b)) ((kb_str T).trans (by cases T <;> rfl)) h
  | ty n => exact h.elim
  | rl _ _ => exact h.elim
  | lst h1 h2 q => exact tb "list" _ _ (.base (.lst h2)) ((kb_lst T).trans (by cases T <;> rfl)) h
  | tup h1 q =>
    rename_i a0 xs0 ds0
    have tt : TyX K H (.ref a0) (.type "tuple") := by
      rcases h1 with ⟨_, h1 | ⟨o, h1⟩⟩ | h1
      · exact .base (.tup h1)
      · exact .fTuple h1
      · rcases h1 with (h1 | ⟨o, h1⟩) | ⟨o, _, _, h1, h2, _⟩
        · cases h1
        · cases h1
        · exact .kTuple h1 h2
    exact tb "tuple" _ _ tt ((kb_tup T).trans (by cases T <;> rfl)) h
  | ptr a =>
    obtain ⟨o, b, h1, h2, h3⟩ := h
    have g := st a o h1
    cases o with
    | lst ds =>
      obtain ⟨vs, e, _⟩ := g
      cases h2
      exact tb "list" _ _ (.base (.lst e)) ((kb_lst T).trans (by cases T <;> rfl)) h3
    | dct ds =>
      obtain ⟨vs, e, _⟩ := g
      cases h2
      exact tb "dict" _ _ (.base (.dK e)) ((kb_dct T).trans (by cases T <;> rfl)) h3
    | _ => cases h2
theorem pd_isi (T : Ty) {x y : Str} {e : Expr} {de : DE} {p p2 pos : Pos} (hg : Gl X x) (hm : X.mg x = none) (hv : bootBuiltins x = some (.builtin "isinstance")) (he : PD X Y e de)
    (gy : Gl X y) (my : X.mg y = none) (vy : bootBuiltins y = some (.type T.nm)) (hn : x ≠ "__name__" := by decide) (hdb : (x == ("__debug__" : Str)) = false := by decide) (hn2 : y ≠ "__name__" := by decide) (hdb2 : (y == ("__debug__" : Str)) = false := by decide)
    (s1 : starEach [e, .Name y p2] X.env = (false, eval e X.env) :: starEach [.Name y p2] X.env := by rfl) (s2 : starEach [.Name y p2] X.env = (false, eval (.Name y p2) X.env) :: starEach [] X.env := by rfl)
    (hpl : (backTo pos (starEach [.Name y p2] X.env)).any (·.1) = false := by rfl) : PD X Y (.Call (.Name x p) [e, .Name y p2] [] pos) (dIsi T de) :=
  ⟨pe_weak (pe_callB call_isi hg hm hv (pa_cons he.pe (pa_cons (pe_bltn (v := .ty T.nm) gy my vy rfl hn2 hdb2) pa_nil s2) s1) hn hdb s1 hpl) fun σ H Q ⟨δ, m, R, en, st, h, k⟩ =>
    lE_bind en st h fun v H1 d m1 r1 e1 en1 st1 rp => isi_low r1 rp st1 fun v' H' d' m' q ex s r => k v' H' d' m' q (e1.trans ex) s r⟩
end

/-! ### statements -/
structure DEnds where
  nx : Ev → Sto → Prop
  rt : D → Sto → Prop
  bk : Ev → Sto → Prop := fun _ _ => False
  ct : Ev → Sto → Prop := fun _ _ => False
abbrev DS := DEnds → Ev → Sto → Prop
structure AftS (K : PySem.W.Frag) (Y : XS) (m : Sto) (H : Hp) (P : DEnds) (E : Ends) : Prop where
  nx : ∀ σ' H' δ' m', P.nx δ' m' → Ext m H m' H' → EnvOk K Y m' H' σ' δ' → StoOk K m' H' → E.nx σ' H'
  bk : ∀ σ' H' δ' m', P.bk δ' m' → Ext m H m' H' → EnvOk K Y m' H' σ' δ' → StoOk K m' H' → E.bk σ' H'
  ct : ∀ σ' H' δ' m', P.ct δ' m' → Ext m H m' H' → EnvOk K Y m' H' σ' δ' → StoOk K m' H' → E.ct σ' H'
  rt : Aft K m H P.rt E.rt
theorem AftS.on {K : PySem.W.Frag} {Y : XS} {m m1 : Sto} {H H1 : Hp} {P : DEnds} {E : Ends} (a : AftS K Y m H P E) (e : Ext m H m1 H1) : AftS K Y m1 H1 P E :=
  ⟨fun σ H' δ m' q ex => a.nx σ H' δ m' q (e.trans ex), fun σ H' δ m' q ex => a.bk σ H' δ m' q (e.trans ex), fun σ H' δ m' q ex => a.ct σ H' δ m' q (e.trans ex), fun v H' d m' q ex => a.rt v H' d m' q (e.trans ex)⟩
theorem Aft.on {K : PySem.W.Frag} {m m1 : Sto} {H H1 : Hp} {R : D → Sto → Prop} {Q : VK} (a : Aft K m H R Q) (e : Ext m H m1 H1) : Aft K m1 H1 R Q := fun v H' d m' q ex => a v H' d m' q (e.trans ex)
def lS (K : PySem.W.Frag) (Y : XS) (s : DS) : TS := fun E σ H => ∃ δ m P, EnvOk K Y m H σ δ ∧ StoOk K m H ∧ s P δ m ∧ AftS K Y m H P E
structure PDS (X : Cx) (Y : XS) (st : Stmt) (d : DS) : Prop where
  ps : PS X st (lS X.K Y d)
structure PDSs (X : Cx) (Y : XS) (st : List Stmt) (d : DS) : Prop where
  ps : PSs X st (lS X.K Y d)
theorem ps_weak {X : Cx} {st : Stmt} {t t' : TS} (h : PS X st t) (w : ∀ D σ H, t' D σ H → t D σ H) : PS X st t' := ⟨fun pins s σ H D I q => h.run pins s σ H D I (w D σ H q)⟩
theorem pss_weak {X : Cx} {st : List Stmt} {t t' : TS} (h : PSs X st t) (w : ∀ D σ H, t' D σ H → t D σ H) : PSs X st t' := ⟨fun pins s σ H D I q => h.run pins s σ H D I (w D σ H q)⟩
def dNext : DS := fun P δ m => P.nx δ m
def dSeq (s t : DS) : DS := fun P δ m => s { P with nx := t P } δ m
def dBreak : DS := fun P δ m => P.bk δ m
def dCont : DS := fun P δ m => P.ct δ m
def dExpr (e : DE) : DS := fun P δ m => e δ m fun _ m1 => P.nx δ m1
def dRet (e : DE) : DS := fun P δ m => e δ m P.rt
def dIf (c : DT) (s t : DS) : DS := fun P δ m => c δ m fun b m1 => (b = true → s P δ m1) ∧ (b = false → t P δ m1)
def dNever : DS := fun _ _ _ => False
def dSet (i : Nat) (e : DE) : DS := fun P δ m => e δ m fun d m1 => P.nx (δ.put i d) m1
/-- the list that slot i holds changes no longer -/
def dFrz (i : Nat) (s : DS) : DS := fun P δ m => ∃ p ds, δ.s[i]? = some (some (.ptr p)) ∧ m p = some (.lst ds) ∧ s P (δ.put i (.lst ds)) (del m p)
section
variable {X : Cx} {Y : XS} {st : Stmt} {rest : List Stmt} {s t : DS} {e : Expr} {de : DE} {pos : Pos}
theorem pdss_nil : PDSs X Y [] dNext := ⟨pss_weak pss_nil fun E σ H ⟨δ, m, P, en, st, h, k⟩ => k.nx σ H δ m h Ext.rfl en st⟩
theorem pdss_cons (h1 : PDS X Y st s) (h2 : PDSs X Y rest t) : PDSs X Y (st :: rest) (dSeq s t) :=
  ⟨pss_weak (pss_cons h1.ps h2.ps) fun E σ H ⟨δ, m, P, en, st, h, k⟩ =>
    ⟨δ, m, _, en, st, h, fun σ' H' δ' m' q ex en' st' => ⟨δ', m', P, en', st', q, k.on ex⟩, k.bk, k.ct, k.rt⟩⟩
theorem pdss_one (h1 : PDS X Y st s) : PDSs X Y [st] s := ⟨pss_one h1.ps⟩
theorem pds_pass : PDS X Y (.Pass pos) dNext := ⟨ps_weak ps_pass fun E σ H ⟨δ, m, P, en, st, h, k⟩ => k.nx σ H δ m h Ext.rfl en st⟩
theorem pds_break : PDS X Y (.Break pos) dBreak := ⟨ps_weak ps_break fun E σ H ⟨δ, m, P, en, st, h, k⟩ => k.bk σ H δ m h Ext.rfl en st⟩
theorem pds_expr (he : PD X Y e de) (hs : swapsWith e none pos.line X.env = pure false := by rfl) : PDS X Y (.Expr e pos) (dExpr de) :=
  ⟨ps_weak (ps_expr he.pe hs) fun E σ H ⟨δ, m, P, en, st, h, k⟩ => lE_bind en st h fun v H1 d m1 r1 e1 en1 st1 _ => k.nx σ H1 δ m1 r1 e1 en1 st1⟩
theorem pds_ret (he : PD X Y e de) : PDS X Y (.Return (some e) pos) (dRet de) :=
  ⟨ps_weak (ps_ret he.pe) fun E σ H ⟨δ, m, P, en, st, h, k⟩ => ⟨δ, m, P.rt, en, st, h, k.rt⟩⟩
theorem pds_if {c : Expr} {a b : List Stmt} {tc : DT} (hc : PDT X Y c tc) (ha : PDSs X Y a s) (hb : PDSs X Y b t) : PDS X Y (.If c a b pos) (dIf tc s t) :=
  ⟨ps_weak (ps_if hc.pt ha.ps hb.ps) fun E σ H ⟨δ, m, P, en, st, h, k⟩ => lT_bind en st h fun b H1 m1 r1 e1 en1 st1 => by
    cases b with
    | true => exact iteT ⟨δ, m1, P, en1, st1, r1.1 rfl, k.on e1⟩
    | false => exact iteF ⟨δ, m1, P, en1, st1, r1.2 rfl, k.on e1⟩⟩
theorem pds_never : PDS X Y st dNever := ⟨ps_weak (ps_never (st := st)) fun E σ H ⟨δ, m, P, en, st, h, k⟩ => h⟩
theorem pds_set (i : Nat) {x : Str} {pos' : Pos} (hN : X.N.Nodup) (hi : X.N[i]? = some x) (hx : Loc X.env.scope x) (he : PD X Y e de) (hs : swapsWith e (some (.Name x pos')) pos.line X.env = pure false := by rfl)
    (hf : X.fn x = true ∨ X.env.scope.names.lookup x = some .local := by first | exact .inl rfl | exact .inr rfl | assumption) : PDS X Y (.Assign [.Name x pos'] e pos) (dSet i de) :=
  ⟨ps_weak (ps_set hN hi hx he.pe hs hf) fun E σ H ⟨δ, m, P, en, st, h, k⟩ => lE_bind en st h fun v H1 d m1 r1 e1 en1 st1 rp => k.nx _ H1 _ m1 r1 e1 (en1.set i rp) st1⟩
theorem pds_frz (i : Nat) (h : PDS X Y st s) : PDS X Y st (dFrz i s) :=
  ⟨ps_weak h.ps fun E σ H ⟨δ, m, P, en, st, ⟨p, ds, h1, h2, h3⟩, k⟩ => by
    obtain ⟨v, e1, r1⟩ := en.1.2 i _ h1
    cases r1
    obtain ⟨vs, e2, rl⟩ := st _ _ h2
    have en' := en.ext (ext_del (p := p) (m := m) (H := H))
    refine ⟨δ.put i (.lst ds), del m p, P, ?_, sto_del st, h3, k.on ext_del⟩
    have q := en'.set i (Rp.lst (K := X.K) (m := del m p) (H := H) del_same e2 (rl.ext ext_del))
    have es : σ.set i (some (V.ref p)) = σ := by
      apply List.ext_getElem?
      intro j
      by_cases hj : i = j
      · subst hj
        rw [List.getElem?_set, if_pos rfl, e1]
        split
        · rfl
        · rename_i hl
          rw [List.getElem?_eq_none (Nat.le_of_not_lt hl)] at e1
          cases e1
      · rw [List.getElem?_set_ne hj]
    rw [es] at q
    exact q⟩

/-! ### targets -/
abbrev DG := D → Ev → Sto → (Ev → Sto → Prop) → Prop
abbrev DGs := List D → Ev → Sto → (Ev → Sto → Prop) → Prop
def lG (K : PySem.W.Frag) (Y : XS) (g : DG) : TG := fun v σ H Q => ∃ δ m d R, Rp K m H v d ∧ EnvOk K Y m H σ δ ∧ StoOk K m H ∧ g d δ m R ∧ ∀ σ' H' δ' m', R δ' m' → Ext m H m' H' → EnvOk K Y m' H' σ' δ' → StoOk K m' H' → Q σ' H'
def lGs (K : PySem.W.Frag) (Y : XS) (g : DGs) : TGs := fun vs σ H Q => ∃ δ m ds R, RpL K m H vs ds ∧ EnvOk K Y m H σ δ ∧ StoOk K m H ∧ g ds δ m R ∧ ∀ σ' H' δ' m', R δ' m' → Ext m H m' H' → EnvOk K Y m' H' σ' δ' → StoOk K m' H' → Q σ' H'
structure PDG (X : Cx) (Y : XS) (e : Expr) (g : DG) : Prop where
  pg : PG X e (lG X.K Y g)
structure PDGs (X : Cx) (Y : XS) (es : List Expr) (g : DGs) : Prop where
  pg : PGs X es (lGs X.K Y g)
theorem pg_weak {e : Expr} {t t' : TG} (h : PG X e t) (w : ∀ v σ H Q, t' v σ H Q → t v σ H Q) : PG X e t' := ⟨fun pins s σ H v u Q I r q => h.run pins s σ H v u Q I r (w v σ H Q q)⟩
theorem pgs_weak {es : List Expr} {t t' : TGs} (h : PGs X es t) (w : ∀ v σ H Q, t' v σ H Q → t v σ H Q) : PGs X es t' := ⟨fun pins s σ H v u Q I r q => h.run pins s σ H v u Q I r (w v σ H Q q)⟩
def nameG (i : Nat) : DG := fun d δ m R => R (δ.put i d) m
theorem pdg_name (i : Nat) {x : Str} (hN : X.N.Nodup) (hi : X.N[i]? = some x) (hx : Loc X.env.scope x) (hf : X.fn x = true ∨ X.env.scope.names.lookup x = some .local := by first | exact .inl rfl | exact .inr rfl | assumption) : PDG X Y (.Name x pos) (nameG i) :=
  ⟨pg_weak (pg_name hN hi hx hf) fun v σ H Q ⟨δ, m, d, R, r, en, st, h, k⟩ => k _ H _ m h Ext.rfl (en.set i r) st⟩
def nilG : DGs := fun ds δ m R => match ds with
  | [] => R δ m
  | _ => False
def consG (g : DG) (t : DGs) : DGs := fun ds δ m R => match ds with
  | d :: r => g d δ m fun δ1 m1 => t r δ1 m1 R
  | [] => False
theorem pdgs_nil : PDGs X Y [] nilG := ⟨pgs_weak pgs_nil fun vs σ H Q ⟨δ, m, ds, R, r, en, st, h, k⟩ => by
  cases r with
  | nil => exact ⟨rfl, k _ _ _ _ h Ext.rfl en st⟩
  | cons a b => exact h.elim⟩
theorem pdgs_cons {es : List Expr} {g : DG} {t : DGs} (h1 : PDG X Y e g) (h2 : PDGs X Y es t) (hs : (assignEach (e :: es) X.env).map (·.2) = assign e X.env :: (assignEach es X.env).map (·.2) := by rfl) : PDGs X Y (e :: es) (consG g t) :=
  ⟨pgs_weak (pgs_cons h1.pg h2.pg hs) fun vs σ H Q ⟨δ, m, ds, R, r, en, st, h, k⟩ => by
    cases r with
    | nil => exact h.elim
    | cons a b =>
      refine ⟨_, _, rfl, δ, m, _, _, a, en, st, h, fun σ1 H1 δ1 m1 q1 ex1 en1 st1 => ?_⟩
      exact ⟨δ1, m1, _, R, b.ext ex1, en1, st1, q1, fun σ2 H2 δ2 m2 q2 ex2 => k σ2 H2 δ2 m2 q2 (ex1.trans ex2)⟩⟩
def tupG (n : Nat) (t : DGs) : DG := fun d δ m R => match d with
  | .tup xs => xs.length = n ∧ t xs δ m R
  | _ => False
theorem pdg_tup {es : List Expr} {k : Nat} {t : DGs} {n : Nat} (hc : X.calm = true) (h : PDGs X Y es t) (hn : (assignEach es X.env).length = n := by rfl) (hst : (assignEach es X.env).findIdx? (·.1) = none := by rfl) : PDG X Y (.Tuple es k pos) (tupG n t) :=
  ⟨pg_weak (pg_tup hc h.pg hn hst) fun v σ H Q ⟨δ, m, d, R, r, en, st, h, k⟩ => by
    cases d with
    | tup xs =>
      obtain ⟨a, vs, rfl, e, rl⟩ := r.tupV
      exact ⟨a, vs, rfl, e, by rw [rl.len]; exact h.1, δ, m, xs, R, rl, en, st, h.2, k⟩
    | _ => exact h.elim⟩
/-- target = value -/
def dAsg (g : DG) (e : DE) : DS := fun P δ m => e δ m fun d m1 => g d δ m1 P.nx
theorem pds_asg {tg : Expr} {g : DG} (hg : PDG X Y tg g) (he : PD X Y e de) (hs : swapsWithSole [tg] e pos.line X.env = pure false := by rfl) (hw : swappedStores [tg] e X.env = pure none := by rfl)
    (h1 : (assignEach [tg] X.env).map (·.2) = [assign tg X.env] := by rfl) : PDS X Y (.Assign [tg] e pos) (dAsg g de) :=
  ⟨ps_weak (ps_asg he.pe hg.pg hs hw h1) fun E σ H ⟨δ, m, P, en, st, h, k⟩ => lE_bind en st h fun v H1 d m1 r1 e1 en1 st1 rp =>
    ⟨δ, m1, d, P.nx, rp, en1, st1, r1, fun σ' H' δ' m' q ex => k.nx σ' H' δ' m' q (e1.trans ex)⟩⟩
/-- o[i] = .. -/
def subG (o i : DE) : DG := fun v δ m R => o δ m fun d m1 => i δ m1 fun k m2 => match d, k with
  | .ptr a, .int n => ∃ xs j, m2 a = some (.lst xs) ∧ L2.ixN xs.length n = some j ∧ R δ (up m2 a (.lst (xs.set j v)))
  | _, _ => False
theorem pdg_sub {o i : Expr} {dO dI : DE} (ho : PD X Y o dO) (hi : PD X Y i dI)
    (ha : ∀ v, assign (.Subscript o i pos) X.env v = (do
      let ov ← holding [v] (eval o X.env)
      let iv ← holding [v, ov] (eval i X.env)
      standAt pos
      holding [v, ov, iv] (setItem ov iv v)
      release [v, ov, iv] []) := by intro _; rfl) : PDG X Y (.Subscript o i pos) (subG dO dI) :=
  ⟨pg_weak (pg_sub ho.pe hi.pe set_list ha) fun v σ H Q ⟨δ, m, d, R, r, en, st, h, k⟩ => lE_bind en st h fun w H1 dd m1 r1 e1 en1 st1 rp1 =>
    lE_bind en1 st1 r1 fun u H2 di m2 r2 e2 en2 st2 rp2 => by
      split at r2
      · cases rp1
        cases rp2
        obtain ⟨xs, j, q1, q2, q3⟩ := r2
        obtain ⟨vs, e, rl⟩ := st2 _ _ q1
        refine ⟨_, vs, _, j, rfl, rfl, e, by rw [rl.len]; exact q2, ?_⟩
        have ex : ∀ u' o', Ext m2 H2 (up m2 _ u') (L2.upd H2 _ o') := fun u' o' => ext_put q1
        have r' := (r.ext (e1.trans e2))
        exact k _ _ _ _ q3 ((e1.trans e2).trans (ex _ _)) (en2.ext (ex _ _)) (sto_at st2 (ex _ _) ⟨_, upd_same, (rl.ext (ex _ _)).set (r'.ext (ex _ _)) j⟩)
      · exact r2.elim⟩
end
end Dl

/-! The data layer: methods of lists, loops, comprehensions. -/
namespace Dl
open PySem PySem.Spec PyProof.Rows L2

/-! ### methods of a list that may change -/
abbrev OM := Addr → List D → Sto → (D → Sto → Prop) → Prop
def lM (K : PySem.W.Frag) (g : OM) : V → List V → Hp → VK → Prop := fun x xs H Q => ∃ m a ds R, x = .ref a ∧ RpL K m H xs ds ∧ StoOk K m H ∧ g a ds m R ∧ Aft K m H R Q
structure MetD (X : Cx) (id : String) (g : OM) : Prop where
  ok : MtR X id (lM X.K g)
def dLM (g : OM) (o : DE) (t : DA) : DE := fun δ m R => o δ m fun d m1 => match d with
  | .ptr a => (∃ u ds, m1 a = some u ∧ seqMO u = some ds) ∧ t δ m1 fun ds m2 => g a ds m2 R
  | _ => False
section
variable {X : Cx} {Y : XS} {o e : Expr} {es : List Expr} {dO : DE} {t : DA} {name : Str} {apos cpos : Pos} {id : String} {g : OM}
theorem mt_weak {id : String} {r r' : V → List V → Hp → VK → Prop} (h : MtM X id r) (w : ∀ x xs H Q, r' x xs H Q → r x xs H Q) : MtR X id r' :=
  fun pins s σ H x xs v us Q I r1 r2 q => h pins s σ H x xs v us Q I r1 r2 (w x xs H Q q)
theorem seq_tyV {K : PySem.W.Frag} {m : Sto} {H : Hp} {a : Addr} {u : MO} {ds : List D} (st : StoOk K m H) (h : m a = some u) (k : seqMO u = some ds) : tyV K "list" (.ref a) H := by
  have g := st a u h
  cases u with
  | lst ds => obtain ⟨vs, e, _⟩ := g; exact .inl ⟨rfl, vs, SqL.of e⟩
  | seq ds => obtain ⟨vs, e, _⟩ := g; exact .inl ⟨rfl, vs, .inl e⟩
  | _ => cases k
theorem pd_lm0 (pa : PlainAttrs "list") (slot : Slot "list" name id) (hty : typeOf (.builtin id) = pure (.type "method_descriptor")) (hm : MetD X id g) (ho : PD X Y o dO)
    (hbase : attributeBase o name X.env (eval o X.env) = eval o X.env := by rfl) (hline : (apos.endLine == cpos.line) = true := by rfl) : PD X Y (.Call (.Attribute o name apos) [] [] cpos) (dLM g dO dNil) :=
  ⟨pe_weak (pe_bm0 pa slot hty hm.ok ho.pe hbase hline) fun σ H Q ⟨δ, m, R, en, st, h, k⟩ => lE_bind en st h fun v H1 d m1 r1 e1 en1 st1 rp => by
    cases d with
    | ptr a =>
      cases rp
      obtain ⟨⟨u, ds, h1, h2⟩, h3⟩ := r1
      exact ⟨seq_tyV st1 h1 h2, m1, a, [], R, rfl, .nil, st1, h3, k.on e1⟩
    | _ => exact r1.elim⟩
theorem pd_lm (pa : PlainAttrs "list") (slot : Slot "list" name id) (hty : typeOf (.builtin id) = pure (.type "method_descriptor")) (hm : MetD X id g) (ho : PD X Y o dO) (ha : PDA X Y (e :: es) t)
    (hbase : attributeBase o name X.env (eval o X.env) = eval o X.env := by rfl)
    (hfew : ((backTo cpos (starEach (e :: es) X.env)).all (fun x => !x.1) && (backToKw cpos (keywordEach [] X.env)).all (fun x => x.1.isSome)
      && decide ((e :: es).length + ([] : List Keyword).length + (if ([] : List Keyword).isEmpty then 0 else 1) < 30)) = true := by rfl)
    (hline : (apos.endLine == cpos.line) = true := by rfl) (hs : starEach (e :: es) X.env = (false, eval e X.env) :: starEach es X.env := by rfl) (hplain : (backTo cpos (starEach es X.env)).any (·.1) = false := by rfl) :
    PD X Y (.Call (.Attribute o name apos) (e :: es) [] cpos) (dLM g dO t) :=
  ⟨pe_weak (pe_bm pa slot hty hm.ok ho.pe ha.pa hbase hfew hline hs hplain) fun σ H Q ⟨δ, m, R, en, st, h, k⟩ => lE_bind en st h fun v H1 d m1 r1 e1 en1 st1 rp => by
    cases d with
    | ptr a =>
      cases rp
      obtain ⟨⟨u, ds, h1, h2⟩, h3⟩ := r1
      exact ⟨seq_tyV st1 h1 h2, lA_bind en1 st1 h3 fun vs H2 ds m2 r2 e2 _ st2 rl => ⟨m2, a, ds, R, rfl, rl, st2, r2, k.on (e1.trans e2)⟩⟩
    | _ => exact r1.elim⟩
def appM : OM := fun a ds m R => match ds with
  | [d] => ∃ xs, m a = some (.lst xs) ∧ xs.length < sizeLine ∧ R .non (up m a (.lst (xs ++ [d])))
  | _ => False
def extM : OM := fun a ds m R => match ds with
  | [d] => ∃ xs ys, m a = some (.lst xs) ∧ LstIs m d ys ∧ xs.length + ys.length ≤ sizeLine ∧ R .non (up m a (.lst (xs ++ ys)))
  | _ => False
def popM : OM := fun a ds m R => match ds with
  | [] => ∃ xs x, m a = some (.lst xs) ∧ xs[xs.length - 1]? = some x ∧ R x (up m a (.lst xs.dropLast))
  | _ => False
def popAtM : OM := fun a ds m R => match ds with
  | [.int i] => ∃ xs x, m a = some (.lst xs) ∧ -(2 ^ 63) ≤ i ∧ i < 2 ^ 63 ∧ 0 ≤ i ∧ xs[i.toNat]? = some x ∧ R x (up m a (.lst (xs.eraseIdx i.toNat)))
  | _ => False
def clearM : OM := fun a ds m R => match ds with
  | [] => ∃ xs, m a = some (.lst xs) ∧ R .non (up m a (.lst []))
  | _ => False
def revM : OM := fun a ds m R => match ds with
  | [] => ∃ xs, m a = some (.lst xs) ∧ R .non (up m a (.lst xs.reverse))
  | _ => False
theorem md_append : MetD X "list.append" appM := ⟨mt_weak mt_append fun x xs H Q ⟨m, a, ds, R, ex, rl, st, h, k⟩ => by
  subst ex
  unfold appM at h
  split at h
  · obtain ⟨v, rfl, r⟩ := rl.one
    obtain ⟨ys, h1, h2, h3⟩ := h
    obtain ⟨vs, e, rl⟩ := st _ _ h1
    have ex : ∀ u' o', Ext m H (up m a u') (L2.upd H a o') := fun u' o' => ext_put h1
    exact ⟨a, vs, v, rfl, rfl, e, by rw [rl.len]; exact h2, k _ _ _ _ h3 (ex _ _) (sto_at st (ex _ _) ⟨_, upd_same, (rl.ext (ex _ _)).app (.cons (r.ext (ex _ _)) .nil)⟩) .non⟩
  · exact h.elim⟩
theorem md_extend : MetD X "list.extend" extM := ⟨mt_weak mt_extend fun x xs H Q ⟨m, a, ds, R, ex, rl, st, h, k⟩ => by
  subst ex
  unfold extM at h
  split at h
  · obtain ⟨v, rfl, r⟩ := rl.one
    obtain ⟨xs, ys, h1, h2, h3, h4⟩ := h
    obtain ⟨vs, e, rl1⟩ := st _ _ h1
    obtain ⟨b, ws, rfl, e', rl'⟩ := h2.low r st
    have ex : ∀ u' o', Ext m H (up m a u') (L2.upd H a o') := fun u' o' => ext_put h1
    exact ⟨a, b, vs, ws, rfl, rfl, e, e', by rw [rl1.len, rl'.len]; exact h3, k _ _ _ _ h4 (ex _ _) (sto_at st (ex _ _) ⟨_, upd_same, (rl1.ext (ex _ _)).app (rl'.ext (ex _ _))⟩) .non⟩
  · exact h.elim⟩
theorem md_pop : MetD X "list.pop" popM := ⟨mt_weak mt_pop fun x xs H Q ⟨m, a, ds, R, ex, rl, st, h, k⟩ => by
  subst ex
  unfold popM at h
  split at h
  · cases rl
    obtain ⟨ys, d, h1, h2, h3⟩ := h
    obtain ⟨vs, e, rl⟩ := st _ _ h1
    obtain ⟨v, e2, r⟩ := rl.get h2
    have ex : ∀ u' o', Ext m H (up m a u') (L2.upd H a o') := fun u' o' => ext_put h1
    exact ⟨a, vs, v, rfl, rfl, e, by rw [rl.len]; exact e2, k _ _ _ _ h3 (ex _ _) (sto_at st (ex _ _) ⟨_, upd_same, (rl.ext (ex _ _)).dropLast⟩) (r.ext (ex _ _))⟩
  · exact h.elim⟩
theorem md_popAt : MetD X "list.pop" popAtM := ⟨mt_weak mt_popAt fun x xs H Q ⟨m, a, ds, R, ex, rl, st, h, k⟩ => by
  subst ex
  unfold popAtM at h
  split at h
  · rename_i i
    obtain ⟨v0, rfl, r0⟩ := rl.one
    cases r0
    obtain ⟨ys, d, h1, h2, h3, h4, h5, h6⟩ := h
    obtain ⟨vs, e, rl⟩ := st _ _ h1
    obtain ⟨v, e2, r⟩ := rl.get h5
    have ex : ∀ u' o', Ext m H (up m a u') (L2.upd H a o') := fun u' o' => ext_put h1
    have hl : i.toNat < vs.length := (List.getElem?_eq_some_iff.mp e2).1
    refine ⟨a, vs, i, i.toNat, v, rfl, rfl, e, h2, h3, ?_, e2, k _ _ _ _ h6 (ex _ _) (sto_at st (ex _ _) ⟨_, upd_same, (rl.ext (ex _ _)).erase _⟩) (r.ext (ex _ _))⟩
    exact (L2.ixN_seq (n := vs.length) (i := i) (j := i.toNat) (by unfold L2.ixN; rw [if_pos h4, if_pos (by omega)])).1
  · exact h.elim⟩
theorem md_clear : MetD X "list.clear" clearM := ⟨mt_weak mt_clear fun x xs H Q ⟨m, a, ds, R, ex, rl, st, h, k⟩ => by
  subst ex
  unfold clearM at h
  split at h
  · cases rl
    obtain ⟨ys, h1, h3⟩ := h
    obtain ⟨vs, e, rl⟩ := st _ _ h1
    have ex : ∀ u' o', Ext m H (up m a u') (L2.upd H a o') := fun u' o' => ext_put h1
    exact ⟨a, vs, rfl, rfl, e, k _ _ _ _ h3 (ex _ _) (sto_at st (ex _ _) ⟨_, upd_same, .nil⟩) .non⟩
  · exact h.elim⟩
theorem md_reverse : MetD X "list.reverse" revM := ⟨mt_weak mt_reverse fun x xs H Q ⟨m, a, ds, R, ex, rl, st, h, k⟩ => by
  subst ex
  unfold revM at h
  split at h
  · cases rl
    obtain ⟨ys, h1, h3⟩ := h
    obtain ⟨vs, e, rl⟩ := st _ _ h1
    have ex : ∀ u' o', Ext m H (up m a u') (L2.upd H a o') := fun u' o' => ext_put h1
    exact ⟨a, vs, rfl, rfl, e, k _ _ _ _ h3 (ex _ _) (sto_at st (ex _ _) ⟨_, upd_same, (rl.ext (ex _ _)).rev⟩) .non⟩
  · exact h.elim⟩
end

/-! ### what is walked -/
/-- gives the items, and what must stay so of the store while they are walked -/
abbrev DI := Ev → Sto → (List D → (Sto → Prop) → Sto → Prop) → Prop
def ItOk (K : PySem.W.Frag) (J : It) (m : Sto) (H : Hp) (xs : List D) (keep : Sto → Prop) : Prop :=
  ∀ m2 H2, Ext m H m2 H2 → StoOk K m2 H2 → keep m2 → ∀ i : Nat,
    (∀ d, xs[i]? = some d → J.go i H2 ∧ ∀ x H3, J.yld i H2 x H3 → Ext m2 H2 m2 H3 ∧ StoOk K m2 H3 ∧ Rp K m2 H3 x d) ∧ (xs.length ≤ i → J.stop i H2)
def lI (K : PySem.W.Frag) (Y : XS) (di : DI) : TI := fun σ H R => ∃ δ m RR, EnvOk K Y m H σ δ ∧ StoOk K m H ∧ di δ m RR ∧
  ∀ J H' xs keep m', RR xs keep m' → Ext m H m' H' → StoOk K m' H' → ItOk K J m' H' xs keep → R J H'
structure PDI (X : Cx) (Y : XS) (tg iter : Expr) (di : DI) : Prop where
  pi : PI X tg iter (lI X.K Y di)
def iSeq (K : PySem.W.Frag) (tl : TE) : TI := fun σ H R => tl σ H fun x H1 => ∃ a, x = .ref a ∧ (((∃ xs, SqL K H1 a xs) ∧ R (Itl K a) H1) ∨ ((∃ xs, SqT K H1 a xs) ∧ R (Itt K a) H1))
section
variable {X : Cx} {Y : XS} {tg : Expr}
theorem pi_weak {iter : Expr} {t t' : TI} (h : PI X tg iter t) (w : ∀ σ H R, t' σ H R → t σ H R) : PI X tg iter t' := ⟨fun pins s σ H R I q => h.run pins s σ H R I (w σ H R q)⟩
/-- a list or a tuple -/
theorem pi_seq {l : Expr} {tl : TE} (hl : PE X l tl) : PI X tg l (iSeq X.K tl) := by
  refine ⟨fun pins s σ H R I h => thn (hl.run pins s σ H _ I h) fun v s1 ⟨x, H1, I1, r1, q1⟩ => ?_⟩
  obtain ⟨a, rfl, q⟩ := q1
  cases r1
  have kp : ∀ (o : Obj) (b : Addr) (u : Obj), s1.heap.get? b = some u → (s1.heap.push o).get? b = some u := fun o b u e => Heap.get?_push_of_some _ e
  have fp : ∀ b ∈ [s1.heap.objs.size], FpOk X pins H1 b := fun b hb => by
    rw [List.mem_singleton.mp hb]
    exact I1.fpOk (Nat.le_refl _) (I1.hok.fresh (Nat.le_refl _))
  rcases q with ⟨⟨xs, hq⟩, q⟩ | ⟨⟨xs, hq⟩, q⟩
  · obtain ⟨its, rv, pl, hz⟩ := I1.list hq
    refine wpAny_pyIter_list pl.isList ⟨s1.heap.objs.size, [s1.heap.objs.size], _, _, H1, rfl, I1.kept (t' := s1.toks) (kp _), turn_list a _, ?_, fp, q⟩
    exact ⟨_, Heap.get?_push_size _ rfl, rfl, rfl⟩
  · obtain ⟨its, rv, pl, hz⟩ := I1.tuple hq
    have pl' : s1.heap.IsTuple a its.toArray := pl
    refine wpAny_pyIter_tuple pl' ⟨s1.heap.objs.size, [s1.heap.objs.size], _, _, H1, rfl, I1.kept (t' := s1.toks) (kp _), turn_tuple a _, ?_, fp, q⟩
    exact ⟨_, Heap.get?_push_size _ rfl, rfl, rfl⟩
def seqI (e : DE) : DI := fun δ m R => e δ m fun d m1 => match d with
  | .lst xs => R xs (fun _ => True) m1
  | .tup xs => R xs (fun _ => True) m1
  | .ptr a => ∃ o xs, m1 a = some o ∧ seqMO o = some xs ∧ R xs (fun m2 => m2 a = some o) m1
  | _ => False
theorem itt_ok {K : PySem.W.Frag} {a : Addr} {H : Hp} {m : Sto} {vs : List V} {xs : List D} (q : SqT K H a vs) (rl : RpL K m H vs xs) (i : Nat) (st : StoOk K m H) :
    (∀ d, xs[i]? = some d → (Itt K a).go i H ∧ ∀ x H3, (Itt K a).yld i H x H3 → Ext m H m H3 ∧ StoOk K m H3 ∧ Rp K m H3 x d) ∧ (xs.length ≤ i → (Itt K a).stop i H) := by
  refine ⟨fun d hd => ?_, fun hl => ⟨vs, q, by rw [rl.len]; exact hl⟩⟩
  obtain ⟨v, e, r⟩ := rl.get hd
  refine ⟨⟨vs, v, q, e⟩, fun x H3 hy => ?_⟩
  obtain ⟨rfl, hy⟩ := hy
  have ex := hy vs q
  rw [e] at ex
  cases ex
  exact ⟨Ext.rfl, st, r⟩
theorem itl_ok' {K : PySem.W.Frag} {a : Addr} {H : Hp} {m : Sto} {vs : List V} {xs : List D} (q : SqL K H a vs) (rl : RpL K m H vs xs) (i : Nat) (st : StoOk K m H) :
    (∀ d, xs[i]? = some d → (Itl K a).go i H ∧ ∀ x H3, (Itl K a).yld i H x H3 → Ext m H m H3 ∧ StoOk K m H3 ∧ Rp K m H3 x d) ∧ (xs.length ≤ i → (Itl K a).stop i H) := by
  refine ⟨fun d hd => ?_, fun hl => ⟨vs, q, by rw [rl.len]; exact hl⟩⟩
  obtain ⟨v, e, r⟩ := rl.get hd
  refine ⟨⟨vs, v, q, e⟩, fun x H3 hy => ?_⟩
  obtain ⟨rfl, hy⟩ := hy
  have ex := hy vs q
  rw [e] at ex
  cases ex
  exact ⟨Ext.rfl, st, r⟩
theorem pdi_seq {l : Expr} {tl : DE} (hl : PD X Y l tl) : PDI X Y tg l (seqI tl) :=
  ⟨pi_weak (pi_seq hl.pe) fun σ H R ⟨δ, m, RR, en, st, h, k⟩ => lE_bind en st h fun v H1 d m1 r1 e1 en1 st1 rp => by
    cases d with
    | lst xs =>
      obtain ⟨a, vs, rfl, fr, e, rl⟩ := rp.lstV
      refine ⟨a, rfl, .inl ⟨⟨vs, SqL.of e⟩, k _ _ _ _ _ r1 e1 st1 fun m2 H2 ex s2 _ i => ?_⟩⟩
      exact itl_ok' (SqL.of (ex _ _ fr e).2) (rl.ext ex) i s2
    | tup xs =>
      obtain ⟨a, vs, rfl, e, rl⟩ := id rp.tupV
      refine ⟨a, rfl, .inr ⟨⟨vs, e⟩, k _ _ _ _ _ r1 e1 st1 fun m2 H2 ex s2 _ i => ?_⟩⟩
      obtain ⟨a', vs', ea, e', rl'⟩ := (rp.ext ex).tupV
      cases ea
      exact itt_ok e' rl' i s2
    | ptr a =>
      cases rp
      obtain ⟨o, xs, h1, h2, h3⟩ := r1
      have low : ∀ {m2 : Sto} {H2 : Hp}, StoOk X.K m2 H2 → m2 a = some o → ∃ vs, SqL X.K H2 a vs ∧ RpL X.K m2 H2 vs xs := fun {m2 H2} s2 e => by
        have g := s2 a o e
        cases o with
        | lst ds => cases h2; obtain ⟨vs, e, r⟩ := g; exact ⟨vs, SqL.of e, r⟩
        | seq ds => cases h2; obtain ⟨vs, e, r⟩ := g; exact ⟨vs, .inl e, r⟩
        | _ => cases h2
      obtain ⟨vs, e, _⟩ := low st1 h1
      refine ⟨a, rfl, .inl ⟨⟨vs, e⟩, k _ _ _ _ _ h3 e1 st1 fun m2 H2 ex s2 kp i => ?_⟩⟩
      obtain ⟨vs', e', rl'⟩ := low s2 kp
      exact itl_ok' e' rl' i s2
    | _ => exact r1.elim⟩
/-- lo, lo + 1, .. -/
def rgL (lo : Int) (n : Nat) : List D := (List.range n).map fun i => D.int (lo + (i : Nat))
theorem rgL_get {lo : Int} {n i : Nat} (h : i < n) : (rgL lo n)[i]? = some (.int (lo + (i : Nat))) := by
  unfold rgL
  rw [List.getElem?_map, List.getElem?_range h]
  rfl
theorem rgL_len {lo : Int} {n : Nat} : (rgL lo n).length = n := by
  unfold rgL
  rw [List.length_map, List.length_range]
theorem itr_ok {K : PySem.W.Frag} {lo : Int} {n : Nat} {m : Sto} {H : Hp} {keep : Sto → Prop} : ItOk K (Itr lo n) m H (rgL lo n) keep := fun m2 H2 ex s2 _ i => by
  refine ⟨fun d hd => ?_, fun hl => by rw [rgL_len] at hl; exact hl⟩
  have hi : i < n := by
    have := (List.getElem?_eq_some_iff.mp hd).1
    rw [rgL_len] at this
    exact this
  rw [rgL_get hi] at hd
  cases hd
  refine ⟨hi, fun x H3 hy => ?_⟩
  obtain ⟨rfl, rfl⟩ := hy
  exact ⟨Ext.rfl, s2, .int _⟩
def rngI1 (t : DE) : DI := fun δ m R => t δ m fun d m1 => match d with
  | .int j => j < 2 ^ 62 ∧ -(2 ^ 62) ≤ j ∧ R (rgL 0 j.toNat) (fun _ => True) m1
  | _ => False
def rngI2 (a b : DE) : DI := fun δ m R => a δ m fun d m1 => b δ m1 fun e m2 => match d, e with
  | .int i, .int j => (-(2 ^ 62) ≤ i ∧ i < 2 ^ 62 ∧ -(2 ^ 62) ≤ j ∧ j < 2 ^ 62) ∧ R (rgL i (j - i).toNat) (fun _ => True) m2
  | _, _ => False
theorem pdi_range1 {a : Expr} {da : DE} {p pos : Pos} (hg : Gl X "range") (hm : X.mg "range" = none) (ha : PD X Y a da) (hs : starEach [a] X.env = [(false, eval a X.env)] := by rfl) : PDI X Y tg (.Call (.Name "range" p) [a] [] pos) (rngI1 da) :=
  ⟨pi_weak (pi_range1 hg hm (pa_cons ha.pe pa_nil hs) hs) fun σ H R ⟨δ, m, RR, en, st, h, k⟩ => lE_bind en st h fun v H1 d m1 r1 e1 en1 st1 rp => by
    cases d with
    | int j =>
      cases rp
      exact ⟨j, rfl, r1.2.1, r1.1, k _ _ _ _ _ r1.2.2 e1 st1 itr_ok⟩
    | _ => exact r1.elim⟩
theorem pdi_range2 {a b : Expr} {da db : DE} {p pos : Pos} (hg : Gl X "range") (hm : X.mg "range" = none) (ha : PD X Y a da) (hb : PD X Y b db) (hs : starEach [a, b] X.env = [(false, eval a X.env), (false, eval b X.env)] := by rfl) (hs2 : starEach [b] X.env = [(false, eval b X.env)] := by rfl) :
    PDI X Y tg (.Call (.Name "range" p) [a, b] [] pos) (rngI2 da db) :=
  ⟨pi_weak (pi_range2 hg hm (pa_cons ha.pe (pa_cons hb.pe pa_nil hs2) (by rw [hs, hs2])) hs hs2) fun σ H R ⟨δ, m, RR, en, st, h, k⟩ => lE_bind en st h fun v H1 d m1 r1 e1 en1 st1 rp =>
    lE_bind en1 st1 r1 fun w H2 e m2 r2 e2 en2 st2 rp2 => by
      split at r2
      · cases rp
        cases rp2
        exact ⟨_, _, rfl, r2.1, k _ _ _ _ _ r2.2 (e1.trans e2) st2 itr_ok⟩
      · exact r2.elim⟩
/-- the signs of a text -/
def strI (e : DE) : DI := fun δ m R => e δ m fun d m1 => match d with
  | .str z => R (z.cps.toList.map fun c => D.str ⟨#[c]⟩) (fun _ => True) m1
  | _ => False
theorem pdi_str {l : Expr} {tl : DE} (hl : PD X Y l tl) : PDI X Y tg l (strI tl) :=
  ⟨pi_weak (pi_str hl.pe) fun σ H R ⟨δ, m, RR, en, st, h, k⟩ => lE_bind en st h fun v H1 d m1 r1 e1 en1 st1 rp => by
    cases d with
    | str z =>
      cases rp
      refine ⟨z, rfl, k _ _ _ _ _ r1 e1 st1 fun m2 H2 ex s2 _ i => ⟨fun d hd => ?_, fun hl => by rw [List.length_map] at hl; exact hl⟩⟩
      rw [List.getElem?_map] at hd
      have hi : i < z.cps.toList.length := by
        cases q : z.cps.toList[i]? with
        | none => rw [q] at hd; cases hd
        | some c => exact (List.getElem?_eq_some_iff.mp q).1
      refine ⟨hi, fun x H3 hy => ?_⟩
      obtain ⟨rfl, c, e, rfl⟩ := hy
      rw [Array.getElem?_toList, e] at hd
      cases hd
      exact ⟨Ext.rfl, s2, .str _⟩
    | _ => exact r1.elim⟩

/-! ### loops -/
def dFor (di : DI) (g : DG) (b : DS) : DS := fun P δ m => di δ m fun xs keep m1 => ∃ I : Nat → Ev → Sto → Prop, I 0 δ m1 ∧ (∀ i δ m, I i δ m → keep m) ∧
  (∀ i x δ m, xs[i]? = some x → I i δ m → g x δ m fun δ2 m2 => b { nx := I (i + 1), rt := P.rt, bk := P.nx, ct := I (i + 1) } δ2 m2) ∧ (∀ δ m, I xs.length δ m → P.nx δ m)
theorem pds_for {iter : Expr} {body : List Stmt} {di : DI} {g : DG} {b : DS} {pos : Pos} (hp : PassesOwn (model X.prog X.w) X.A X.env X.xe) (hc : X.calm = true) (hi : PDI X Y tg iter di) (hg : PDG X Y tg g) (hb : PDSs X Y body b)
    (hs : ∀ x, foldedSetIterable iter X.env x = pure x := by intro _; rfl) : PDS X Y (.For tg iter body [] pos) (dFor di g b) :=
  ⟨ps_weak (ps_for hp hc hi.pi hg.pg hb.ps hs) fun E σ H ⟨δ, m, P, en, st, h, k⟩ => by
    refine ⟨δ, m, _, en, st, h, fun J H1 xs keep m1 ⟨I, h0, hk, hs, hd⟩ e1 st1 it => ?_⟩
    refine ⟨fun i n σ H => n = xs.length - i ∧ i ≤ xs.length ∧ ∃ δ m, I i δ m ∧ EnvOk X.K Y m H σ δ ∧ StoOk X.K m H ∧ Ext m1 H1 m H, ⟨xs.length, by omega, Nat.zero_le _, δ, m1, h0, en.ext e1, st1, Ext.rfl⟩, ?_⟩
    rintro i n σ2 H2 ⟨hn, hi, δ2, m2, q, en2, st2, e2⟩
    have w := it m2 H2 e2 st2 (hk _ _ _ q) i
    by_cases hl : i < xs.length
    · have hx : xs[i]? = some xs[i] := List.getElem?_eq_getElem hl
      obtain ⟨go, yl⟩ := w.1 _ hx
      refine .inr ⟨go, fun σ' H' => ∃ δ m, I (i + 1) δ m ∧ EnvOk X.K Y m H' σ' δ ∧ StoOk X.K m H' ∧ Ext m1 H1 m H', fun σ' H' ⟨δ', m', z⟩ => ⟨xs.length - (i + 1), by omega, rfl, hl, δ', m', z⟩, fun x H3 hy => ?_⟩
      obtain ⟨e3, st3, r3⟩ := yl x H3 hy
      refine ⟨δ2, m2, _, _, r3, en2.ext e3, st3, hs i _ δ2 m2 hx q, fun σ4 H4 δ4 m4 q4 e4 en4 st4 => ?_⟩
      refine ⟨δ4, m4, _, en4, st4, q4, fun σ5 H5 δ5 m5 q5 e5 en5 st5 => ?_, fun σ5 H5 δ5 m5 q5 e5 en5 st5 => ?_, fun σ5 H5 δ5 m5 q5 e5 en5 st5 => ?_, ?_⟩
      · exact ⟨δ5, m5, q5, en5, st5, ((e2.trans e3).trans e4).trans e5⟩
      · exact k.nx σ5 H5 δ5 m5 q5 ((((e1.trans e2).trans e3).trans e4).trans e5) en5 st5
      · exact ⟨δ5, m5, q5, en5, st5, ((e2.trans e3).trans e4).trans e5⟩
      · exact k.rt.on (((e1.trans e2).trans e3).trans e4)
    · have ei : i = xs.length := by omega
      exact .inl ⟨w.2 (by omega), k.nx σ2 H2 δ2 m2 (hd δ2 m2 (ei ▸ q)) (e1.trans e2) en2 st2⟩⟩
def dWhile (c : DT) (b : DS) : DS := fun P δ m => ∃ W : Nat → Ev → Sto → Prop, (∃ n, W n δ m) ∧ ∀ n δ m, W n δ m → c δ m fun t m1 =>
  (t = true → b { nx := fun δ' m' => ∃ n', n' < n ∧ W n' δ' m', rt := P.rt, bk := P.nx, ct := fun δ' m' => ∃ n', n' < n ∧ W n' δ' m' } δ m1) ∧ (t = false → P.nx δ m1)
theorem pds_while {c : Expr} {body : List Stmt} {tc : DT} {b : DS} {pos : Pos} (hp : PassesOwn (model X.prog X.w) X.A X.env X.xe) (hc : PDT X Y c tc) (hb : PDSs X Y body b) : PDS X Y (.While c body [] pos) (dWhile tc b) :=
  ⟨ps_weak (ps_while hp hc.pt hb.ps) fun E σ H ⟨δ, m, P, en, st, ⟨W, ⟨n0, h0⟩, hs⟩, k⟩ => by
    refine ⟨fun n σ H' => ∃ δ m', W n δ m' ∧ EnvOk X.K Y m' H' σ δ ∧ StoOk X.K m' H' ∧ Ext m H m' H', ⟨n0, δ, m, h0, en, st, Ext.rfl⟩, ?_⟩
    rintro n σ1 H1 ⟨δ1, m1, q1, en1, st1, e1⟩
    refine lT_bind en1 st1 (hs n δ1 m1 q1) fun t H2 m2 q2 e2 en2 st2 => ?_
    cases t with
    | true =>
      refine iteT ⟨fun σ' H' => ∃ n', n' < n ∧ ∃ δ m', W n' δ m' ∧ EnvOk X.K Y m' H' σ' δ ∧ StoOk X.K m' H' ∧ Ext m H m' H', fun _ _ z => z, ?_⟩
      refine ⟨δ1, m2, _, en2, st2, q2.1 rfl, fun σ5 H5 δ5 m5 ⟨n', l, q5⟩ e5 en5 st5 => ?_, fun σ5 H5 δ5 m5 q5 e5 en5 st5 => ?_, fun σ5 H5 δ5 m5 ⟨n', l, q5⟩ e5 en5 st5 => ?_, ?_⟩
      · exact ⟨n', l, δ5, m5, q5, en5, st5, (e1.trans e2).trans e5⟩
      · exact k.nx σ5 H5 δ5 m5 q5 ((e1.trans e2).trans e5) en5 st5
      · exact ⟨n', l, δ5, m5, q5, en5, st5, (e1.trans e2).trans e5⟩
      · exact k.rt.on (e1.trans e2)
    | false => exact iteF (k.nx σ1 H2 δ1 m2 (q2.2 rfl) (e1.trans e2) en2 st2)⟩

/-! ### comprehensions -/
structure PDTs (X : Cx) (Y : XS) (ifs : List Expr) (t : DT) : Prop where
  pt : PTs X ifs (lT X.K Y t)
def dYes : DT := fun _ m R => R true m
theorem pts_weak {ifs : List Expr} {t t' : TT} (h : PTs X ifs t) (w : ∀ σ H Q, t' σ H Q → t σ H Q) : PTs X ifs t' := ⟨fun pins s σ H Q I q => h.run pins s σ H Q I (w σ H Q q)⟩
theorem pdts_nil : PDTs X Y [] dYes := ⟨pts_weak pts_nil fun σ H Q ⟨δ, m, R, en, st, h, k⟩ => k true H m h Ext.rfl st⟩
theorem pdts_one {c : Expr} {t : DT} (h : PDT X Y c t) : PDTs X Y [c] t := ⟨pts_one h.pt⟩
def fin (b : Bool) (p : Addr) (acc : List D) (m : Sto) (R : D → Sto → Prop) : Prop := match b with
  | true => R (.ptr p) m
  | false => R (.lst acc) (del m p)
/-- slots is hold xs -/
def setL (s : List (Option D)) : List Nat → List D → List (Option D)
  | i :: is, d :: ds => setL (s.set i (some d)) is ds
  | _, _ => s
def setAll (δ : Ev) (is : List Nat) (ds : List D) : Ev := { δ with s := setL δ.s is ds }
/-- the items of a target of names: one name, or a tuple of them -/
def tgD (is : List Nat) (tup : Bool) (x : D) : Option (List D) := match tup, x with
  | false, x => some [x]
  | true, .tup ds => if ds.length = is.length then some ds else none
  | true, _ => none
def LcCore (b : Bool) (is : List Nat) (tup : Bool) (t : DT) (e : DE) (δ : Ev) (R : D → Sto → Prop) (xs : List D) (keep : Sto → Prop) (m1 : Sto) : Prop :=
  ∀ p, m1 p = none → ∃ J : Nat → Sto → Prop, J 0 (up m1 p (.lst [])) ∧ (∀ k m, J k m → keep m) ∧
  (∀ k x m, xs[k]? = some x → J k m → ∃ ds, tgD is tup x = some ds ∧ t (setAll δ is ds) m fun c m3 => (c = true → e (setAll δ is ds) m3 fun d m4 => ∃ acc, m4 p = some (.lst acc) ∧ acc.length < sizeLine ∧ J (k + 1) (up m4 p (.lst (acc ++ [d])))) ∧ (c = false → J (k + 1) m3)) ∧
  (∀ m, J xs.length m → ∃ acc, m p = some (.lst acc) ∧ fin b p acc m R)
def dLc (b : Bool) (is : List Nat) (tup : Bool) (di : DI) (t : DT) (e : DE) : DE := fun δ m R => di δ m (LcCore b is tup t e δ R)
/-- the target's own reading -/
def gNames : List Nat → TGs
  | [] => gNil
  | i :: is => gCons (gName i) (gNames is)
def gTarget (K : PySem.W.Frag) (is : List Nat) (tup : Bool) : TG := match tup, is with
  | false, [i] => gName i
  | true, is => gTup K is.length (gNames is)
  | _, _ => fun _ _ _ _ => False
def setV (σ : L2.St) : List Nat → List V → L2.St
  | i :: is, v :: vs => setV (σ.set i (some v)) is vs
  | _, _ => σ
theorem setV_len : ∀ (is : List Nat) (vs : List V) (σ : L2.St), (setV σ is vs).length = σ.length
  | [], _, _ => rfl
  | _ :: _, [], _ => rfl
  | i :: is, v :: vs, σ => by
    show (setV (σ.set i (some v)) is vs).length = _
    rw [setV_len is vs, List.length_set]
theorem setV_out : ∀ (is : List Nat) (vs : List V) (σ : L2.St) (j : Nat), j ∉ is → (setV σ is vs)[j]? = σ[j]?
  | [], _, _, _, _ => rfl
  | _ :: _, [], _, _, _ => rfl
  | i :: is, v :: vs, σ, j, h => by
    show (setV (σ.set i (some v)) is vs)[j]? = _
    have h1 : i ≠ j := fun z => h (by rw [z]; exact List.mem_cons_self)
    rw [setV_out is vs _ j fun z => h (List.mem_cons_of_mem _ z), List.getElem?_set_ne h1]
theorem wipe_at : ∀ (vs : List Nat) (σ : L2.St) (j : Nat), (wipe σ vs)[j]? = if j ∈ vs then (σ[j]?.map fun _ => none) else σ[j]?
  | [], σ, j => by simp [wipe]
  | v :: vs, σ, j => by
    show ((wipe σ vs).set v none)[j]? = _
    by_cases h : v = j
    · subst h
      rw [List.getElem?_set, if_pos rfl, wipe_length, if_pos List.mem_cons_self]
      split
      · rename_i hl
        rw [List.getElem?_eq_getElem hl]
        rfl
      · rename_i hl
        rw [List.getElem?_eq_none (Nat.le_of_not_lt hl)]
        rfl
    · rw [List.getElem?_set_ne h, wipe_at vs]
      have e : (j ∈ v :: vs) ↔ j ∈ vs := ⟨fun z => (List.mem_cons.mp z).elim (fun z => absurd z.symm h) id, List.mem_cons_of_mem _⟩
      by_cases hj : j ∈ vs
      · rw [if_pos hj, if_pos (e.mpr hj)]
      · rw [if_neg hj, if_neg fun z => hj (e.mp z)]
theorem wipe_setV (σ : L2.St) (is : List Nat) (vs : List V) : wipe (setV (wipe σ is) is vs) is = wipe σ is := by
  apply List.ext_getElem?
  intro j
  rw [wipe_at]
  by_cases hj : j ∈ is
  · rw [if_pos hj, wipe_at is σ j, if_pos hj]
    have hl : (setV (wipe σ is) is vs).length = σ.length := by rw [setV_len, wipe_length]
    by_cases h : j < σ.length
    · rw [List.getElem?_eq_getElem (by omega), List.getElem?_eq_getElem h]
      rfl
    · rw [List.getElem?_eq_none (by omega), List.getElem?_eq_none (by omega)]
  · rw [if_neg hj, setV_out is vs _ j hj]
theorem env_wipe {K : PySem.W.Frag} {Y : XS} {m : Sto} {H : Hp} : ∀ (is : List Nat) {σ : L2.St} {δ : Ev}, EnvOk K Y m H σ δ → ∀ (vs : List V) (ds : List D), RpL K m H vs ds → ds.length = is.length → EnvOk K Y m H (setV (wipe σ is) is vs) (setAll δ is ds) := by
  intro is σ δ en0 vs ds rl hl
  have en := en0.1
  refine ⟨?_, en0.2⟩
  have gen : ∀ (js : List Nat) (vs : List V) (ds : List D) (σ1 : L2.St) (δ1 : List (Option D)), RpL K m H vs ds → ds.length = js.length →
      (σ1.length = δ1.length ∧ ∀ (i : Nat) (d : D), i ∉ js → δ1[i]? = some (some d) → ∃ v, σ1[i]? = some (some v) ∧ Rp K m H v d) → SlotsOk K m H (setV σ1 js vs) (setL δ1 js ds) := by
    intro js
    induction js with
    | nil =>
      intro vs ds σ1 δ1 r hl h
      cases r with
      | nil => exact ⟨h.1, fun i d e => h.2 i d (by simp) e⟩
      | cons _ _ => cases hl
    | cons j js ih =>
      intro vs ds σ1 δ1 r hl h
      cases r with
      | nil => cases hl
      | cons a b =>
        rename_i v0 vs0 d0 ds0
        show SlotsOk K m H (setV (σ1.set j (some v0)) js vs0) (setL (δ1.set j (some d0)) js ds0)
        refine ih _ _ _ _ b (Nat.succ.inj hl) ⟨by rw [List.length_set, List.length_set, h.1], fun i d hi e => ?_⟩
        by_cases hj : j = i
        · subst hj
          rw [List.getElem?_set, if_pos rfl] at e ⊢
          split at e
          · rename_i hlt
            cases e
            rw [if_pos (by rw [h.1]; exact hlt)]
            exact ⟨v0, rfl, a⟩
          · cases e
        · rw [List.getElem?_set_ne hj] at e ⊢
          exact h.2 i d (fun z => (List.mem_cons.mp z).elim (fun z => hj z.symm) hi) e
  refine gen is vs ds _ δ.s rl hl ⟨by rw [wipe_length, en.1], fun i d hi e => ?_⟩
  obtain ⟨v, e1, r⟩ := en.2 i d e
  refine ⟨v, ?_, r⟩
  rw [wipe_at, if_neg hi]
  exact e1
theorem gNames_run : ∀ (is : List Nat) (vs : List V) (σ : L2.St) (H : Hp) (Q : L2.St → Hp → Prop), vs.length = is.length → Q (setV σ is vs) H → gNames is vs σ H Q
  | [], [], _, _, _, _, q => ⟨rfl, q⟩
  | i :: is, v :: vs, σ, H, Q, hl, q => ⟨v, vs, rfl, gNames_run is vs _ H Q (Nat.succ.inj hl) q⟩
  | [], _ :: _, _, _, _, hl, _ => by cases hl
  | _ :: _, [], _, _, _, hl, _ => by cases hl
theorem gTarget_run {K : PySem.W.Frag} {is : List Nat} {tup : Bool} {x : V} {d : D} {ds : List D} {m : Sto} {H : Hp} {σ : L2.St} {Q : L2.St → Hp → Prop} (r : Rp K m H x d) (h : tgD is tup d = some ds) (h1 : tup = false → is.length = 1)
    (q : ∀ vs, RpL K m H vs ds → ds.length = is.length → Q (setV σ is vs) H) : gTarget K is tup x σ H Q := by
  cases tup with
  | false =>
    cases h
    obtain ⟨i, rfl⟩ : ∃ i, is = [i] := by
      match is, h1 rfl with
      | [i], _ => exact ⟨i, rfl⟩
    exact q [x] (.cons r .nil) rfl
  | true =>
    cases d with
    | tup es =>
      unfold tgD at h
      simp only at h
      split at h
      · rename_i hl
        cases h
        obtain ⟨a, vs, rfl, e, rl⟩ := r.tupV
        exact ⟨a, vs, rfl, e, by rw [rl.len]; exact hl, gNames_run is vs σ H Q (by rw [rl.len]; exact hl) (q vs rl hl)⟩
      · cases h
    | _ => cases h
variable {elt iter : Expr} {ifs : List Expr} {scope : Scope} {pos : Pos} {di : DI} {t : DT} {de : DE}
theorem dLc_low {K : PySem.W.Frag} {Y : XS} {b : Bool} {is : List Nat} {tup : Bool} {σ : L2.St} {H : Hp} {Q : VK} (h1 : tup = false → is.length = 1) (h : lE K Y (dLc b is tup di t de) σ H Q) : tLc (lI K Y di) (gTarget K is tup) (lT K Y t) (lE K Y de) is σ H Q := by
  obtain ⟨δ, m, R, en, st, h, k⟩ := h
  refine ⟨δ, m, _, en, st, h, fun J H1 xs keep m1 hJ e1 st1 it p hp => ?_⟩
  have hp1 := st1.free hp
  obtain ⟨I, h0, hk, hs, hd⟩ := hJ p hp1
  have ex0 : Ext m1 H1 (up m1 p (.lst [])) (L2.upd H1 p (.lst [])) := ext_add hp
  refine ⟨fun i n H => n = xs.length - i ∧ i ≤ xs.length ∧ ∃ m, I i m ∧ StoOk K m H ∧ Ext m1 H1 m H, ⟨xs.length, by omega, Nat.zero_le _, _, h0, sto_at st1 ex0 ⟨[], upd_same, .nil⟩, ex0⟩, ?_⟩
  rintro i n H2 ⟨hn, hi, m2, q, st2, e2⟩
  have w := it m2 H2 e2 st2 (hk _ _ q) i
  by_cases hl : i < xs.length
  · have hx : xs[i]? = some xs[i] := List.getElem?_eq_getElem hl
    obtain ⟨go, yl⟩ := w.1 _ hx
    refine .inr ⟨go, fun H' => ∃ m, I (i + 1) m ∧ StoOk K m H' ∧ Ext m1 H1 m H', fun H' ⟨m', z⟩ => ⟨xs.length - (i + 1), by omega, rfl, hl, m', z⟩, fun x H3 hy => ?_⟩
    obtain ⟨e3, st3, r3⟩ := yl x H3 hy
    obtain ⟨ds, hds, hq⟩ := hs i _ m2 hx q
    have e13 : Ext m1 H1 m2 H3 := e2.trans e3
    refine gTarget_run r3 hds h1 fun vs rl hlen => ⟨wipe_setV σ is vs, ?_⟩
    have en3 : EnvOk K Y m2 H3 (setV (wipe σ is) is vs) (setAll δ is ds) := env_wipe is (en.ext (e1.trans e13)) vs ds rl hlen
    refine lT_bind en3 st3 hq fun c H4 m4 q4 e4 en4 st4 => ?_
    cases c with
    | true =>
      refine iteT (lE_bind en4 st4 (q4.1 rfl) fun y H5 d m5 q5 e5 en5 st5 rp5 => ?_)
      obtain ⟨acc, a1, a2, a3⟩ := q5
      obtain ⟨vs', e', rl'⟩ := st5 _ _ a1
      have ex : ∀ u' o', Ext m5 H5 (up m5 p u') (L2.upd H5 p o') := fun u' o' => ext_put a1
      refine ⟨vs', e', by rw [rl'.len]; exact a2, _, a3, sto_at st5 (ex _ _) ⟨_, upd_same, (rl'.ext (ex _ _)).app (.cons (rp5.ext (ex _ _)) .nil)⟩, ((e13.trans e4).trans e5).trans (ex _ _)⟩
    | false => exact iteF ⟨m4, q4.2 rfl, st4, e13.trans e4⟩
  · have ei : i = xs.length := by omega
    refine .inl ⟨w.2 (by omega), ?_⟩
    obtain ⟨acc, a1, a2⟩ := hd m2 (ei ▸ q)
    obtain ⟨vs', e', rl'⟩ := st2 _ _ a1
    cases b with
    | true => exact k _ _ _ _ a2 (e1.trans e2) st2 (.ptr p)
    | false => exact k _ _ _ _ a2 ((e1.trans e2).trans ext_del) (sto_del st2) (.lst del_same e' (rl'.ext ext_del))
theorem pd_lc (b : Bool) (own : List (Str × Nat)) (tup : Bool) (hc : X.calm = true) (hN : X.N.Nodup) (hi : PDI X Y tg iter di) (ok : BlkOk X.N X.env.scope scope own) (h1 : tup = false → (own.map (·.2)).length = 1)
    (hg : ∀ (s : Shared) (H : Hp) (C : Addr) (cl : List (Str × Addr)) (fp : List Addr), PG (X.blk s H scope (compEnvC scope cl C X.env) fp) tg (gTarget X.K (own.map (·.2)) tup))
    (ht : ∀ (s : Shared) (H : Hp) (C : Addr) (cl : List (Str × Addr)) (fp : List Addr), PDTs (X.blk s H scope (compEnvC scope cl C X.env) fp) Y ifs t)
    (he : ∀ (s : Shared) (H : Hp) (C : Addr) (cl : List (Str × Addr)) (fp : List Addr), PD (X.blk s H scope (compEnvC scope cl C X.env) fp) Y elt de) (hs : ∀ x, foldedSetIterable iter X.env x = pure x := by intro _; rfl) :
    PD X Y (.ListComp elt [⟨tg, iter, ifs, 0⟩] scope pos) (dLc b (own.map (·.2)) tup di t de) :=
  ⟨pe_weak (pe_lc hc hN hi.pi ok hg (fun s H C cl fp => (ht s H C cl fp).pt) (fun s H C cl fp => (he s H C cl fp).pe) hs) fun σ H Q h => dLc_low h1 h⟩
theorem pds_setLc (i : Nat) (b : Bool) (own : List (Str × Nat)) (tup : Bool) {y : Str} {py spos : Pos} (hc : X.calm = true) (hN : X.N.Nodup) (hy : X.N[i]? = some y) (hyl : X.env.scope.names.lookup y = some .local)
    (hsw : swapsWith (.ListComp elt [⟨tg, iter, ifs, 0⟩] scope pos) (some (.Name y py)) spos.line X.env = pure true) (hi : PDI X Y tg iter di) (ok : BlkOk X.N X.env.scope scope own) (h1 : tup = false → (own.map (·.2)).length = 1)
    (hg : ∀ (s : Shared) (H : Hp) (C : Addr) (cl : List (Str × Addr)) (fp : List Addr), PG (X.blk s H scope (compEnvC scope cl C X.env) fp) tg (gTarget X.K (own.map (·.2)) tup))
    (ht : ∀ (s : Shared) (H : Hp) (C : Addr) (cl : List (Str × Addr)) (fp : List Addr), PDTs (X.blk s H scope (compEnvC scope cl C X.env) fp) Y ifs t)
    (he : ∀ (s : Shared) (H : Hp) (C : Addr) (cl : List (Str × Addr)) (fp : List Addr), PD (X.blk s H scope (compEnvC scope cl C X.env) fp) Y elt de) (hs : ∀ x, foldedSetIterable iter X.env x = pure x := by intro _; rfl) :
    PDS X Y (.Assign [.Name y py] (.ListComp elt [⟨tg, iter, ifs, 0⟩] scope pos) spos) (dSet i (dLc b (own.map (·.2)) tup di t de)) :=
  ⟨ps_weak (ps_setLc hc hN hy hyl hsw hi.pi ok hg (fun s H C cl fp => (ht s H C cl fp).pt) (fun s H C cl fp => (he s H C cl fp).pe) hs) fun E σ H ⟨δ, m, P, en, st, h, k⟩ => by
    refine dLc_low (b := b) (Q := fun x H1 => gName i x σ H1 E.nx) h1 (lE_bind en st h fun v H1 d m1 r1 e1 en1 st1 rp => ?_)
    exact k.nx _ H1 _ m1 r1 e1 (en1.set i rp) st1⟩
end

/-! ### comprehensions whose elements change nothing -/
def Le (m m' : Sto) : Prop := ∀ a o, m a = some o → m' a = some o
theorem Le.refl (m : Sto) : Le m m := fun _ _ h => h
theorem Le.up {m : Sto} {p : Addr} {o : MO} (h : m p = none) : Le m (up m p o) := fun a u e => by rw [up_ne (ne_free e h)]; exact e
/-- each item yields its y -/
theorem lc_pure {is : List Nat} {tup : Bool} {e : DE} {δ : Ev} {m1 : Sto} {R : D → Sto → Prop} {xs : List D} {keep : Sto → Prop} (b : Bool) (ys : List D) (hk : ∀ m2, Le m1 m2 → keep m2) (hl : xs.length = ys.length) (hz : xs.length ≤ sizeLine)
    (hs : ∀ (k : Nat) x y m2, xs[k]? = some x → ys[k]? = some y → Le m1 m2 → ∃ ds, tgD is tup x = some ds ∧ ∀ R : D → Sto → Prop, R y m2 → e (setAll δ is ds) m2 R) (hR : newL b ys m1 R) : LcCore b is tup dYes e δ R xs keep m1 := by
  intro p hp
  refine ⟨fun k m2 => m2 = up m1 p (.lst (ys.take k)), rfl, fun k m2 e => ?_, fun k x m2 hx e => ?_, fun m2 e => ?_⟩
  · rw [e]
    exact hk _ (Le.up hp)
  · subst e
    have hlt : k < xs.length := (List.getElem?_eq_some_iff.mp hx).1
    have hy : ys[k]? = some ys[k] := List.getElem?_eq_getElem (by omega)
    obtain ⟨ds, h1, h2⟩ := hs k x _ _ hx hy (Le.up hp)
    refine ⟨ds, h1, fun _ => h2 _ ⟨ys.take k, up_same, ?_, ?_⟩, fun z => by cases z⟩
    · rw [List.length_take]
      omega
    · show up (up m1 p _) p _ = Dl.up m1 p (.lst (ys.take (k + 1)))
      rw [up_up, List.take_add_one, hy]
      rfl
  · subst e
    refine ⟨ys, ?_, ?_⟩
    · rw [up_same, hl, List.take_length]
    · cases b with
      | true =>
        show R (.ptr p) (up m1 p (.lst (ys.take xs.length)))
        rw [hl, List.take_length]
        exact hR p hp
      | false =>
        show R (.lst ys) (del (up m1 p _) p)
        rw [del_up hp]
        exact hR
end Dl

/-! The data layer: defs, calls, objects; repr may be asked within (no repr is under way at a call). -/
namespace Dl
open PySem PySem.Spec PyProof.Rows L2

/-- as FnOk, but called while no repr runs -/
structure FnG (P : Program) (w : World) (K : PySem.W.Frag) (mg : Str → Option Value) (base : Heap) (CX : CXT) (k : Nat) (f : Addr) (fd : FuncData) (ps : List Str) (sp : Sp) : Prop where
  len : ∀ vs H Q E, sp vs H Q E → vs.length = ps.length
  run : ∀ (A : Around) (outer : List Env) (s : Shared) (H : Hp) (args : Args) (us : List Value) (vs : List V) (Q : VK) (E : XK),
    Room k A → A.guards = some [] → Env0 P w K mg base A outer s H → BindsTo s fd args (ps.zip us) → Vals vs us → sp vs H Q E →
      codeAny (model P w) A (.call (.ref f) args) (CR CX outer P w H s Q E) s
theorem FnG.mono {P : Program} {w : World} {K : PySem.W.Frag} {mg : Str → Option Value} {base : Heap} {CX : CXT} {j k : Nat} {f : Addr} {fd : FuncData} {ps : List Str} {sp : Sp}
    (F : FnG P w K mg base CX j f fd ps sp) (h : j ≤ k) : FnG P w K mg base CX k f fd ps sp :=
  ⟨F.len, fun A outer s H args us vs Q E hr hg he hb hv hs => F.run A outer s H args us vs Q E (hr.mono h) hg he hb hv hs⟩

/-- a def's promise over data -/
abbrev DSp := List D → Sto → (D → Sto → Prop) → DX → Prop
def AftX (K : PySem.W.Frag) (m : Sto) (H : Hp) (RX : DX) (E : XK) : Prop :=
  ∀ C fs m' H' dd, RX C fs m' → Ext m H m' H' → StoOk K m' H' → XRel K m' H' fs dd → E (.ref C) dd H'
def spD (K : PySem.W.Frag) (sp : DSp) : Sp := fun vs H Q E => ∃ ds m R RX, RpL K m H vs ds ∧ StoOk K m H ∧ sp ds m R RX ∧ Aft K m H R Q ∧ AftX K m H RX E
def noX : DX := fun _ _ _ => False
theorem aftX_no {K : PySem.W.Frag} {m : Sto} {H : Hp} {E : XK} : AftX K m H noX E := fun _ _ _ _ _ h => h.elim

/-- THE RULE for a def: the body's reading over data -/
theorem fn_dc {P : Program} {w : World} {K : PySem.W.Frag} {mg : Str → Option Value} {base : Heap} {k : Nat} {x qual : Str} {st : Stmt} {f : Addr} {fd : FuncData} {N ps : List Str} {sp : DSp} {CX : CXT} (F : Fun K x qual st f fd) (S : FnScope N ps (defScope st))
    (len : ∀ ds m R RX, sp ds m R RX → ds.length = ps.length)
    (body : ∀ (cdv : Value), fd.code = cdv → ∀ (A : Around) (outer : List Env) (s : Shared) (H : Hp) (E : XK), Room k (A.deeper (envOfC qual (defScope st) s.heap.objs.size f cdv)) → A.guards = some [] →
      ∃ t : DS, PDSs (cxOf CX P w K mg base N qual (defScope st) f cdv A outer s H E) (fun _ => E) (defBody st) t ∧
        ∀ ds m R RX, sp ds m R RX → t { nx := fun _ m' => R .non m', rt := R } ⟨ds.map some ++ List.replicate (N.length - ds.length) none, fun _ => RX⟩ m) :
    FnG P w K mg base CX (k + 1) f fd ps (spD K sp) := by
  obtain ⟨oc, od, kV, doc, pm, an, cdv, ct, osl, rfl, lk, hcd⟩ := F.ex
  have len' : ∀ vs H Q E, spD K sp vs H Q E → vs.length = ps.length := fun vs H Q E ⟨ds, m, R, RX, rl, st, h, _⟩ => by rw [rl.len]; exact len ds m R RX h
  refine ⟨len', fun A outer s H args us vs Q E hr hg e0 hb r hsp => ?_⟩
  have hl := len' _ _ _ _ hsp
  have KX : K.In s.heap := e0.mod.kin.keeps fun b o e => (e0.bs b o e).1
  have lim : s.heap.NoLimit := e0.mod.nolimit.keeps fun b o e => (e0.bs b o e).1
  have hkind : ∀ y ∈ ps.zip us, (defScope st).names.lookup y.1 = some .local ∨ ((defScope st).names.lookup y.1 = some .cell ∧ ((cellsFrom (s.heap.objs.size + 1) (defScope st).names []).lookup y.1).isSome = true) := fun y hy =>
    (S.par y.1 (List.of_mem_zip hy).1).imp id fun q => ⟨q, PySem.W.cellsFrom_some _ _ _ (.inl q)⟩
  refine codeAny_call_function hr.depth (KX _ _ lk) rfl S.co S.gen rfl (PySem.W.codeRec_of KX hcd) (hb _ _ _ _ (wpAny_newFunctionEnv_cells S.kind hkind fun env he s1 x => ?_))
  subst he
  refine ⟨lim.keeps x.toInCall.keep, codeAny_func ?_⟩
  obtain ⟨t, ht, hq⟩ := body cdv rfl A outer s H E (hr.deeper _) hg
  have I : Inv (cxOf CX P w K mg base N qual (defScope st) f cdv A outer s H E) [] (L2.start N vs) H s1 := inv_start S hr.hd e0 hl r x
  obtain ⟨ds, m, R, RX, rl, so, hd, af, ax⟩ := hsp
  have en : EnvOk K (fun _ => E) m H (L2.start N vs) ⟨ds.map some ++ List.replicate (N.length - ds.length) none, fun _ => RX⟩ := by
    refine ⟨⟨?_, fun i d e => ?_⟩, fun σ' s' C fs m' H' dd q ex st _ xr => ax C fs m' H' dd q ex st xr⟩
    · unfold L2.start
      simp only [List.length_append, List.length_map, List.length_replicate, rl.len]
    · unfold L2.start
      have hi : i < ds.length := by
        by_cases hi : i < ds.length
        · exact hi
        · rw [List.getElem?_append_right (by rw [List.length_map]; omega), List.getElem?_replicate] at e
          split at e <;> cases e
      rw [List.getElem?_append_left (by rw [List.length_map]; exact hi), List.getElem?_map] at e
      rw [List.getElem?_append_left (by rw [List.length_map, rl.len]; exact hi), List.getElem?_map]
      cases q : ds[i]? with
      | none => rw [q] at e; cases e
      | some d' =>
        rw [q] at e
        cases e
        obtain ⟨v, e1, r1⟩ := rl.get q
        rw [e1]
        exact ⟨v, rfl, r1⟩
  refine wpAny_mono (ht.ps.run [] s1 (L2.start N vs) H { nx := fun _ H' => Q .non H', rt := Q } I ⟨_, m, _, en, so, hq ds m R RX hd, ⟨fun σ' H' δ' m' q ex _ st' => af .non H' .non m' q ex st' .non, fun _ _ _ _ q => q.elim, fun _ _ _ _ q => q.elim, af⟩⟩) (fun fl s' hs => ?_) fun e s' hs => hs
  have done : ∀ {σ' : L2.St} {H' : Hp} {v : V} {u : Value}, Inv (cxOf CX P w K mg base N qual (defScope st) f cdv A outer s H E) [] σ' H' s' → RelV v u → Q v H' → CE outer P w H s Q u s' :=
    fun {σ' H' v u} J rv q => ⟨v, H', J.os, J.bare, J.base, J.hok, rv, q⟩
  cases fl with
  | next =>
    obtain ⟨σ', H', J, q⟩ := hs
    exact done (v := V.non) (u := Value.none) J rfl q
  | ret u =>
    obtain ⟨v, σ', H', J, rv, q⟩ := hs
    exact done J rv q
  | brk =>
    obtain ⟨_, _, _, q⟩ := hs
    exact q.elim
  | cont =>
    obtain ⟨_, _, _, q⟩ := hs
    exact q.elim
theorem fn_d {P : Program} {w : World} {K : PySem.W.Frag} {mg : Str → Option Value} {base : Heap} {k : Nat} {x qual : Str} {st : Stmt} {f : Addr} {fd : FuncData} {N ps : List Str} {sp : DSp} {CX : CXT} (F : Fun K x qual st f fd) (S : FnScope N ps (defScope st))
    (len : ∀ ds m R RX, sp ds m R RX → ds.length = ps.length)
    (body : ∀ (cdv : Value) (A : Around) (outer : List Env) (s : Shared) (H : Hp) (E : XK), Room k (A.deeper (envOfC qual (defScope st) s.heap.objs.size f cdv)) → A.guards = some [] →
      ∃ t : DS, PDSs (cxOf CX P w K mg base N qual (defScope st) f cdv A outer s H E) (fun _ => E) (defBody st) t ∧
        ∀ ds m R RX, sp ds m R RX → t { nx := fun _ m' => R .non m', rt := R } ⟨ds.map some ++ List.replicate (N.length - ds.length) none, fun _ => RX⟩ m) :
    FnG P w K mg base CX (k + 1) f fd ps (spD K sp) := fn_dc F S len fun cdv _ => body cdv
/-- in a context that lets nothing out -/
theorem PDSs.nox {X : Cx} {Y : XS} {sts : List Stmt} {t : DS} (h : PDSs X.nox Y sts t) : PDSs X Y sts t := ⟨L2.PSs.nox h.ps⟩

/-! ### calls -/
section
variable {X : Cx} {Y : XS} {CX : CXT} {k : Nat} {f C : Addr} {fd : FuncData} {ps : List Str} {sp : Sp} {dsp : DSp} {E : XK} {x nm : Str} {p pos apos : Pos} {e o : Expr} {es : List Expr} {t : DA} {dO : DE}
theorem run_g {pins : List (Addr × Obj)} {σ : L2.St} {H : Hp} {s : Shared} {Q : VK} {us : List Value} {vs : List V} (F : FnG X.prog X.w X.K X.mg X.base CX k f fd ps sp) (hr : Room k X.A) (hg : X.A.guards = some []) (hb : Binds X.K fd ps [])
    (hx : PassesAt CX X σ E) (I : Inv X pins σ H s) (r : Vals vs us) (h : sp vs H Q E) : wpAny (model X.prog X.w) X.A (call (.ref f) us) (EP X pins σ Q) X.xe s := by
  have hl : us.length = ps.length := r.length.symm.trans (F.len _ _ _ _ h)
  have bt : BindsTo s fd ⟨us, []⟩ (ps.zip us) := by
    have q := hb s us I.kIn (by rw [List.append_nil]; exact hl)
    rw [List.append_nil] at q
    exact q
  refine wpAny_call (codeAny_mono (F.run X.A X.stack s H ⟨us, []⟩ us vs Q E hr hg I.env0 bt r h) fun res s' hq => ?_)
  match res, hq with
  | .error e, hq => exact hx pins H s e s' I hq
  | .ok (.ret u), hq => exact I.after hq
def dCall (sp : DSp) (t : DA) : DE := fun δ m R => t δ m fun ds m1 => sp ds m1 R noX
/-- a call whose exceptions are wished for -/
def dCallX (sp : DSp) (t : DA) : DE := fun δ m R => t δ m fun ds m1 => sp ds m1 R (δ.x δ.s)
theorem pe_callg {E : XS} {t : TA} (F : FnG X.prog X.w X.K X.mg X.base CX k f fd ps sp) (hr : Room k X.A) (hg : X.A.guards = some []) (gl : Gl X x) (hm : X.mg x = some (.ref f)) (hk : PySem.W.keepIn X.K (.ref f) = true) (hb : Binds X.K fd ps []) (hx : ∀ σ, PassesAt CX X σ (E σ))
    (ha : PA X (e :: es) t) (hdb : (x == ("__debug__" : Str)) = false := by decide) (he : starEach (e :: es) X.env = (false, eval e X.env) :: starEach es X.env := by rfl) (hpl : (backTo pos (starEach es X.env)).any (·.1) = false := by rfl) :
    PE X (.Call (.Name x p) (e :: es) [] pos) (fun σ H Q => t σ H fun vs H1 => sp vs H1 Q (E σ)) :=
  ⟨fun pins s σ H Q I h => wpAny_Call_Name_kw (ld_glob I gl hm (PySem.W.callWith_K (h₀ := X.base) I.ok.mod.kin hk
    (thn (ha.run pos pins s σ H _ I h) fun us s1 ⟨vs, H1, I1, r, q⟩ => ⟨I1.kIn, run_g F hr hg hb (hx σ) I1 r q⟩) he hpl) hdb)⟩
theorem pe_callg0 {E : XS} (F : FnG X.prog X.w X.K X.mg X.base CX k f fd ps sp) (hr : Room k X.A) (hg : X.A.guards = some []) (gl : Gl X x) (hm : X.mg x = some (.ref f)) (hk : PySem.W.keepIn X.K (.ref f) = true) (hb : Binds X.K fd ps []) (hx : ∀ σ, PassesAt CX X σ (E σ))
    (hdb : (x == ("__debug__" : Str)) = false := by decide) : PE X (.Call (.Name x p) [] [] pos) (fun σ H Q => sp [] H Q (E σ)) :=
  ⟨fun pins s σ H Q I h => wpAny_Call_Name_kw (ld_glob I gl hm (PySem.W.callWith_K0 I.kIn hk (run_g (us := []) F hr hg hb (hx σ) I .nil h)) hdb)⟩
theorem sp_low {K : PySem.W.Frag} {δ : Ev} {m m1 : Sto} {H H1 : Hp} {R : D → Sto → Prop} {Q : VK} {vs : List V} {ds : List D} (k : Aft K m H R Q) (e1 : Ext m H m1 H1) (st1 : StoOk K m1 H1) (rl : RpL K m1 H1 vs ds) (h : dsp ds m1 R noX) {E : XK} : spD K dsp vs H1 Q E :=
  ⟨ds, m1, R, noX, rl, st1, h, k.on e1, aftX_no⟩
theorem sp_lowX {K : PySem.W.Frag} {σ : L2.St} {δ : Ev} {m m1 : Sto} {H H1 : Hp} {R : D → Sto → Prop} {Q : VK} {vs : List V} {ds : List D} (k : Aft K m H R Q) (e1 : Ext m H m1 H1) (en1 : EnvOk K Y m1 H1 σ δ) (st1 : StoOk K m1 H1) (rl : RpL K m1 H1 vs ds) (h : dsp ds m1 R (δ.x δ.s)) : spD K dsp vs H1 Q (Y σ) :=
  ⟨ds, m1, R, δ.x δ.s, rl, st1, h, k.on e1, fun C fs m' H' dd q ex s' xr => en1.2 σ δ.s C fs m' H' dd q ex s' (en1.1.ext ex) xr⟩
theorem passAt0 {σ : L2.St} : PassesAt CX0 X σ E0 := fun _ _ _ _ _ _ h => h.elim
/-- f(e, ..), nothing is raised -/
theorem pd_call (F : FnG X.prog X.w X.K X.mg X.base CX k f fd ps (spD X.K dsp)) (hr : Room k X.A) (hg : X.A.guards = some []) (gl : Gl X x) (hm : X.mg x = some (.ref f)) (hk : PySem.W.keepIn X.K (.ref f) = true) (hb : Binds X.K fd ps []) (hx : ∀ σ, PassesAt CX X σ E0)
    (ha : PDA X Y (e :: es) t) (hdb : (x == ("__debug__" : Str)) = false := by decide) (he : starEach (e :: es) X.env = (false, eval e X.env) :: starEach es X.env := by rfl) (hpl : (backTo pos (starEach es X.env)).any (·.1) = false := by rfl) :
    PD X Y (.Call (.Name x p) (e :: es) [] pos) (dCall dsp t) :=
  ⟨pe_weak (pe_callg (E := fun _ => E0) F hr hg gl hm hk hb hx ha.pa hdb he hpl) fun σ H Q ⟨δ, m, R, en, st, h, k⟩ => lA_bind en st h fun vs H1 ds m1 r1 e1 en1 st1 rl => sp_low (δ := δ) k e1 st1 rl r1⟩
theorem pd_callX (F : FnG X.prog X.w X.K X.mg X.base CX k f fd ps (spD X.K dsp)) (hr : Room k X.A) (hg : X.A.guards = some []) (gl : Gl X x) (hm : X.mg x = some (.ref f)) (hk : PySem.W.keepIn X.K (.ref f) = true) (hb : Binds X.K fd ps []) (hx : ∀ σ, PassesAt CX X σ (Y σ))
    (ha : PDA X Y (e :: es) t) (hdb : (x == ("__debug__" : Str)) = false := by decide) (he : starEach (e :: es) X.env = (false, eval e X.env) :: starEach es X.env := by rfl) (hpl : (backTo pos (starEach es X.env)).any (·.1) = false := by rfl) :
    PD X Y (.Call (.Name x p) (e :: es) [] pos) (dCallX dsp t) :=
  ⟨pe_weak (pe_callg (E := Y) F hr hg gl hm hk hb hx ha.pa hdb he hpl) fun σ H Q ⟨δ, m, R, en, st, h, k⟩ => lA_bind en st h fun vs H1 ds m1 r1 e1 en1 st1 rl => sp_lowX k e1 en1 st1 rl r1⟩

/-! ### instances: fields, methods, making -/
theorem RpF.look {K : PySem.W.Frag} {m : Sto} {H : Hp} {nm : Str} : ∀ {vs : List (Str × V)} {fs : List (Str × D)}, RpF K m H vs fs → (∀ d, fs.lookup nm = some d → ∃ v, vs.lookup nm = some v ∧ Rp K m H v d) ∧ (fs.lookup nm = none → vs.lookup nm = none)
  | _, _, .nil => ⟨fun _ h => (nomatch h), fun _ => rfl⟩
  | _, _, .cons (k := g) a b => by
    rw [List.lookup_cons, List.lookup_cons]
    cases e : nm == g with
    | true => exact ⟨fun d h => by cases h; exact ⟨_, rfl, a⟩, fun h => by cases h⟩
    | false => exact RpF.look b
def putD (f : Str) (v : D) : List (Str × D) → List (Str × D)
  | [] => [(f, v)]
  | (g, x) :: r => if g = f then (g, v) :: r else (g, x) :: putD f v r
theorem RpF.put {K : PySem.W.Frag} {m : Sto} {H : Hp} {nm : Str} {v : V} {d : D} (r : Rp K m H v d) : ∀ {vs : List (Str × V)} {fs : List (Str × D)}, RpF K m H vs fs → RpF K m H (putF nm v vs) (putD nm d fs)
  | _, _, .nil => .cons r .nil
  | _, _, .cons (k := g) a b => by
    unfold putF putD
    split
    · exact .cons r b
    · exact .cons a (RpF.put r b)
theorem RpF.len {A : Type} {K : PySem.W.Frag} {m : Sto} {H : Hp} : ∀ {vs : List (A × V)} {fs : List (A × D)}, RpF K m H vs fs → vs.length = fs.length
  | _, _, .nil => Eq.refl _
  | _, _, .cons _ b => congrArg Nat.succ (RpF.len b)
def dFld (C : Addr) (o : DE) (f : Str) : DE := fun δ m R => o δ m fun d m1 => match d with
  | .ptr a => ∃ fs x, m1 a = some (.ins C fs) ∧ fs.lookup f = some x ∧ R x m1
  | _ => False
theorem pd_fld (he : PD X Y o dO) (cl : Cls X.K C) (na : NoAttr X.K C nm) (hb : attributeBase o nm X.env (eval o X.env) = eval o X.env := by rfl) : PD X Y (.Attribute o nm pos) (dFld C dO nm) :=
  ⟨pe_weak (pe_fld he.pe hb) fun σ H Q ⟨δ, m, R, en, st, h, k⟩ => lE_bind en st h fun v H1 d m1 r1 e1 en1 st1 rp => by
    cases d with
    | ptr a =>
      cases rp
      obtain ⟨fs, x, h1, h2, h3⟩ := r1
      obtain ⟨dx, vs, e, rf⟩ := st1 a _ h1
      obtain ⟨v, e2, rv⟩ := rf.look.1 x h2
      exact ⟨a, C, dx, vs, v, rfl, e, cl, na, e2, k _ _ _ _ h3 e1 st1 rv⟩
    | _ => exact r1.elim⟩
def dSetF (C : Addr) (o : DE) (f : Str) (e : DE) : DS := fun P δ m => e δ m fun d m1 => o δ m1 fun x m2 => match x with
  | .ptr a => ∃ fs, m2 a = some (.ins C fs) ∧ fs.length < 1000 ∧ P.nx δ (up m2 a (.ins C (putD f d fs)))
  | _ => False
theorem pds_fld {value : Expr} {dv : DE} {pos' : Pos} (ha : PD X Y o dO) (hv : PD X Y value dv) (cl : Cls X.K C) (na : NoAttr X.K C nm) (hs : swapsWith value (some (.Attribute o nm pos')) pos.line X.env = pure false := by rfl) :
    PDS X Y (.Assign [.Attribute o nm pos'] value pos) (dSetF C dO nm dv) :=
  ⟨ps_weak (ps_fld ha.pe hv.pe hs) fun E σ H ⟨δ, m, P, en, st, h, k⟩ => lE_bind en st h fun v H1 d m1 r1 e1 en1 st1 rp => lE_bind en1 st1 r1 fun w H2 x m2 r2 e2 en2 st2 rp2 => by
    cases x with
    | ptr a =>
      cases rp2
      obtain ⟨fs, h1, h2, h3⟩ := r2
      obtain ⟨dx, vs, e, rf⟩ := st2 a _ h1
      have ex : ∀ u' o', Ext m2 H2 (up m2 a u') (L2.upd H2 a o') := fun u' o' => ext_put h1
      exact ⟨a, C, dx, vs, rfl, e, cl, na, by rw [rf.len]; exact h2, k.nx _ _ _ _ h3 ((e1.trans e2).trans (ex _ _)) (en2.ext (ex _ _)) (sto_at st2 (ex _ _) ⟨dx, _, upd_same, (rf.ext (ex _ _)).put ((rp.ext e2).ext (ex _ _))⟩)⟩
    | _ => exact r2.elim⟩
/-- o.m(e, ..) -/
def dMeth (C : Addr) (nm : Str) (sp : DSp) (o : DE) (t : DA) : DE := fun δ m R => o δ m fun d m1 => match d with
  | .ptr a => ∃ fs, m1 a = some (.ins C fs) ∧ fs.lookup nm = none ∧ t δ m1 fun ds m2 => sp (.ptr a :: ds) m2 R noX
  | _ => False
def dMethX (C : Addr) (nm : Str) (sp : DSp) (o : DE) (t : DA) : DE := fun δ m R => o δ m fun d m1 => match d with
  | .ptr a => ∃ fs, m1 a = some (.ins C fs) ∧ fs.lookup nm = none ∧ t δ m1 fun ds m2 => sp (.ptr a :: ds) m2 R (δ.x δ.s)
  | _ => False
def tMethg (C : Addr) (nm : Str) (sp : Sp) (E : XS) (ta : TE) (t : TA) : TE := fun σ H Q => ta σ H fun v H1 => ∃ a dx fs, v = .ref a ∧ H1 a = some (.ins C dx fs) ∧ fs.lookup nm = none ∧ t σ H1 fun vs H2 => sp (v :: vs) H2 Q (E σ)
theorem pe_methg {E : XS} {ta : TE} {t : TA} {pl : Sem Bool} (he : PE X o ta) (c : Cls X.K C) (hm : Meth X.K C nm f) (F : FnG X.prog X.w X.K X.mg X.base CX k f fd ps sp) (hr : Room k X.A) (hg : X.A.guards = some []) (hb : Binds X.K fd ps []) (hx : ∀ σ, PassesAt CX X σ (E σ)) (ha : PA X (e :: es) t)
    (hst : starEach (e :: es) X.env = (false, eval e X.env) :: starEach es X.env := by rfl) (hpl : (backTo pos (starEach es X.env)).any (·.1) = false := by rfl)
    (ht : eval (.Call (.Attribute o nm apos) (e :: es) [] pos) X.env = (do let ov ← eval o X.env; standAt apos.atName; let (f, first) ← holding [ov] (getMethod ov nm pl); callWith pos f first (backTo pos (starEach (e :: es) X.env)) (backToKw pos (keywordEach [] X.env))) := by rfl) :
    PE X (.Call (.Attribute o nm apos) (e :: es) [] pos) (tMethg C nm sp E ta t) :=
  ⟨fun pins s σ H Q I h => PySem.W.methodCall_KW (pl := pl) (thn (he.run pins s σ H _ I h) fun u s1 ⟨v, H1, I1, rx, a, dx, fs, ex, ea, l, q⟩ => by
    subst ex
    obtain rfl : u = Value.ref a := rx
    exact getmeth_ok I1 ea c hm l (PySem.W.callWith_K (first := [.ref a]) (h₀ := X.base) I.ok.mod.kin hm.kp
      (thn (ha.run pos pins s1 σ H1 _ I1 q) fun us s2 ⟨vs, H2, I2, r, q2⟩ => ⟨I2.kIn, run_g (us := .ref a :: us) (vs := .ref a :: vs) F hr hg hb (hx σ) I2 (.cons rfl r) q2⟩) hst hpl)) ht⟩
theorem pe_methg0 {E : XS} {ta : TE} {pl : Sem Bool} (he : PE X o ta) (c : Cls X.K C) (hm : Meth X.K C nm f) (F : FnG X.prog X.w X.K X.mg X.base CX k f fd ps sp) (hr : Room k X.A) (hg : X.A.guards = some []) (hb : Binds X.K fd ps []) (hx : ∀ σ, PassesAt CX X σ (E σ))
    (ht : eval (.Call (.Attribute o nm apos) [] [] pos) X.env = (do let ov ← eval o X.env; standAt apos.atName; let (f, first) ← holding [ov] (getMethod ov nm pl); callWith pos f first (backTo pos (starEach [] X.env)) (backToKw pos (keywordEach [] X.env))) := by rfl) :
    PE X (.Call (.Attribute o nm apos) [] [] pos) (tMethg C nm sp E ta tNil) :=
  ⟨fun pins s σ H Q I h => PySem.W.methodCall_KW (pl := pl) (thn (he.run pins s σ H _ I h) fun u s1 ⟨v, H1, I1, rx, a, dx, fs, ex, ea, l, q⟩ => by
    subst ex
    obtain rfl : u = Value.ref a := rx
    exact getmeth_ok I1 ea c hm l (PySem.W.callWith_K0 (first := [.ref a]) I1.kIn hm.kp (run_g (us := [.ref a]) (vs := [.ref a]) F hr hg hb (hx σ) I1 (.cons rfl .nil) q))) ht⟩
theorem meth_low {K : PySem.W.Frag} {σ : L2.St} {H : Hp} {Q : VK} (h : lE K Y (dMeth C nm dsp dO t) σ H Q) : tMethg C nm (spD K dsp) (fun _ => E0) (lE K Y dO) (lA K Y t) σ H Q := by
  obtain ⟨δ, m, R, en, st, h, k⟩ := h
  refine lE_bind en st h fun v H1 d m1 r1 e1 en1 st1 rp => ?_
  cases d with
  | ptr a =>
    cases rp
    obtain ⟨fs, h1, h2, h3⟩ := r1
    obtain ⟨dx, vs, e, rf⟩ := st1 a _ h1
    exact ⟨a, dx, vs, rfl, e, rf.look.2 h2, lA_bind en1 st1 h3 fun ws H2 ds m2 r2 e2 en2 st2 rl => sp_low (δ := δ) k (e1.trans e2) st2 (.cons (.ptr a) rl) r2⟩
  | _ => exact r1.elim
theorem meth_lowX {K : PySem.W.Frag} {σ : L2.St} {H : Hp} {Q : VK} (h : lE K Y (dMethX C nm dsp dO t) σ H Q) : tMethg C nm (spD K dsp) Y (lE K Y dO) (lA K Y t) σ H Q := by
  obtain ⟨δ, m, R, en, st, h, k⟩ := h
  refine lE_bind en st h fun v H1 d m1 r1 e1 en1 st1 rp => ?_
  cases d with
  | ptr a =>
    cases rp
    obtain ⟨fs, h1, h2, h3⟩ := r1
    obtain ⟨dx, vs, e, rf⟩ := st1 a _ h1
    exact ⟨a, dx, vs, rfl, e, rf.look.2 h2, lA_bind en1 st1 h3 fun ws H2 ds m2 r2 e2 en2 st2 rl => sp_lowX k (e1.trans e2) en2 st2 (.cons (.ptr a) rl) r2⟩
  | _ => exact r1.elim
theorem nil_low {K : PySem.W.Frag} {σ : L2.St} {H : Hp} {Q : List V → Hp → Prop} (h : lA K Y dNil σ H Q) : tNil σ H Q := by
  obtain ⟨δ, m, R, en, st, h, k⟩ := h
  exact k [] H [] m h Ext.rfl st .nil
theorem meth0_low {K : PySem.W.Frag} {E : XS} {ta : TE} {σ : L2.St} {H : Hp} {Q : VK} (mono : ∀ {Q Q' : VK}, (∀ v H, Q v H → Q' v H) → ta σ H Q → ta σ H Q') (h : tMethg C nm sp E ta (lA K Y dNil) σ H Q) : tMethg C nm sp E ta tNil σ H Q :=
  mono (fun v H1 ⟨a, dx, fs, h1, h2, h3, h4⟩ => ⟨a, dx, fs, h1, h2, h3, nil_low h4⟩) h
theorem lE_mono {K : PySem.W.Frag} {e : DE} {σ : L2.St} {H : Hp} {Q Q' : VK} (w : ∀ v H, Q v H → Q' v H) (h : lE K Y e σ H Q) : lE K Y e σ H Q' := by
  obtain ⟨δ, m, R, en, st, h, k⟩ := h
  exact ⟨δ, m, R, en, st, h, fun v H' d m' q ex s r => w _ _ (k v H' d m' q ex s r)⟩
theorem pd_meth {pl : Sem Bool} (he : PD X Y o dO) (c : Cls X.K C) (hm : Meth X.K C nm f) (F : FnG X.prog X.w X.K X.mg X.base CX k f fd ps (spD X.K dsp)) (hr : Room k X.A) (hg : X.A.guards = some []) (hb : Binds X.K fd ps []) (hx : ∀ σ, PassesAt CX X σ E0) (ha : PDA X Y (e :: es) t)
    (hst : starEach (e :: es) X.env = (false, eval e X.env) :: starEach es X.env := by rfl) (hpl : (backTo pos (starEach es X.env)).any (·.1) = false := by rfl)
    (ht : eval (.Call (.Attribute o nm apos) (e :: es) [] pos) X.env = (do let ov ← eval o X.env; standAt apos.atName; let (f, first) ← holding [ov] (getMethod ov nm pl); callWith pos f first (backTo pos (starEach (e :: es) X.env)) (backToKw pos (keywordEach [] X.env))) := by rfl) :
    PD X Y (.Call (.Attribute o nm apos) (e :: es) [] pos) (dMeth C nm dsp dO t) := ⟨pe_weak (pe_methg (E := fun _ => E0) he.pe c hm F hr hg hb hx ha.pa hst hpl ht) fun _ _ _ h => meth_low h⟩
theorem pd_methX {pl : Sem Bool} (he : PD X Y o dO) (c : Cls X.K C) (hm : Meth X.K C nm f) (F : FnG X.prog X.w X.K X.mg X.base CX k f fd ps (spD X.K dsp)) (hr : Room k X.A) (hg : X.A.guards = some []) (hb : Binds X.K fd ps []) (hx : ∀ σ, PassesAt CX X σ (Y σ)) (ha : PDA X Y (e :: es) t)
    (hst : starEach (e :: es) X.env = (false, eval e X.env) :: starEach es X.env := by rfl) (hpl : (backTo pos (starEach es X.env)).any (·.1) = false := by rfl)
    (ht : eval (.Call (.Attribute o nm apos) (e :: es) [] pos) X.env = (do let ov ← eval o X.env; standAt apos.atName; let (f, first) ← holding [ov] (getMethod ov nm pl); callWith pos f first (backTo pos (starEach (e :: es) X.env)) (backToKw pos (keywordEach [] X.env))) := by rfl) :
    PD X Y (.Call (.Attribute o nm apos) (e :: es) [] pos) (dMethX C nm dsp dO t) := ⟨pe_weak (pe_methg (E := Y) he.pe c hm F hr hg hb hx ha.pa hst hpl ht) fun _ _ _ h => meth_lowX h⟩
theorem pd_meth0 {pl : Sem Bool} (he : PD X Y o dO) (c : Cls X.K C) (hm : Meth X.K C nm f) (F : FnG X.prog X.w X.K X.mg X.base CX k f fd ps (spD X.K dsp)) (hr : Room k X.A) (hg : X.A.guards = some []) (hb : Binds X.K fd ps []) (hx : ∀ σ, PassesAt CX X σ E0)
    (ht : eval (.Call (.Attribute o nm apos) [] [] pos) X.env = (do let ov ← eval o X.env; standAt apos.atName; let (f, first) ← holding [ov] (getMethod ov nm pl); callWith pos f first (backTo pos (starEach [] X.env)) (backToKw pos (keywordEach [] X.env))) := by rfl) :
    PD X Y (.Call (.Attribute o nm apos) [] [] pos) (dMeth C nm dsp dO dNil) := ⟨pe_weak (pe_methg0 (E := fun _ => E0) he.pe c hm F hr hg hb hx ht) fun σ H Q h => meth0_low (fun w z => lE_mono w z) (meth_low h)⟩
theorem pd_meth0X {pl : Sem Bool} (he : PD X Y o dO) (c : Cls X.K C) (hm : Meth X.K C nm f) (F : FnG X.prog X.w X.K X.mg X.base CX k f fd ps (spD X.K dsp)) (hr : Room k X.A) (hg : X.A.guards = some []) (hb : Binds X.K fd ps []) (hx : ∀ σ, PassesAt CX X σ (Y σ))
    (ht : eval (.Call (.Attribute o nm apos) [] [] pos) X.env = (do let ov ← eval o X.env; standAt apos.atName; let (f, first) ← holding [ov] (getMethod ov nm pl); callWith pos f first (backTo pos (starEach [] X.env)) (backToKw pos (keywordEach [] X.env))) := by rfl) :
    PD X Y (.Call (.Attribute o nm apos) [] [] pos) (dMethX C nm dsp dO dNil) := ⟨pe_weak (pe_methg0 (E := Y) he.pe c hm F hr hg hb hx ht) fun σ H Q h => meth0_low (fun w z => lE_mono w z) (meth_lowX h)⟩
/-- C(e, ..): a new instance -/
def dMake (C : Addr) (sp : DSp) (t : DA) : DE := fun δ m R => t δ m fun ds m1 => ∀ a, m1 a = none → sp (.ptr a :: ds) (up m1 a (.ins C [])) (fun v m2 => v = .non ∧ R (.ptr a) m2) noX
def tMakeg (C : Addr) (sp : Sp) (t : TA) : TE := fun σ H Q => t σ H fun vs H1 => ∀ a dx, H1 a = none → H1 dx = none → dx ≠ a → sp (.ref a :: vs) (L2.upd (L2.upd H1 dx (.own a)) a (.ins C dx [])) (fun v H2 => v = .non ∧ Q (.ref a) H2) E0
theorem make_g {pins : List (Addr × Obj)} {σ : L2.St} {H : Hp} {s : Shared} {Q : VK} {us : List Value} {vs : List V} (M : Mk X.K C f) (F : FnG X.prog X.w X.K X.mg X.base CX k f fd ps sp) (hr : Room (k + 1) X.A) (hg : X.A.guards = some []) (hb : Binds X.K fd ps []) (hx : ∀ σ, PassesAt CX X σ E0) (I : Inv X pins σ H s) (r : Vals vs us)
    (h : ∀ a dx, H a = none → H dx = none → dx ≠ a → sp (.ref a :: vs) (L2.upd (L2.upd H dx (.own a)) a (.ins C dx [])) (fun v H2 => v = .non ∧ Q (.ref a) H2) E0) : wpAny (model X.prog X.w) X.A (call (.ref C) us) (EP X pins σ Q) X.xe s := by
  have hq := h (s.heap.objs.size + 1) s.heap.objs.size (I.hok.fresh (Nat.le_succ _)) (I.hok.fresh (Nat.le_refl _)) (Nat.ne_of_lt (Nat.lt_succ_self _))
  have I2 := Inv.made (C := C) I
  have r2 : Vals (V.ref (s.heap.objs.size + 1) :: vs) (Value.ref (s.heap.objs.size + 1) :: us) := .cons rfl r
  have hl : (Value.ref (s.heap.objs.size + 1) :: us).length = ps.length := r2.length.symm.trans (F.len _ _ _ _ hq)
  have bt := hb _ (Value.ref (s.heap.objs.size + 1) :: us) I2.kIn (by rw [List.append_nil]; exact hl)
  rw [List.append_nil] at bt
  have hg2 : (X.A.under (.builtin "type.__call__" ⟨.ref C :: us, []⟩)).guards = some [] := by
    show pushGuards (Code.guards (.builtin "type.__call__" ⟨.ref C :: us, []⟩)) X.A.guards = some []
    rw [hg]
    rfl
  refine wpAny_call (make_map (f := f) I.kIn M.makes M.init (beq_iff_eq.mp M.fn) (codeAny_mono (F.run _ X.stack _ _ ⟨Value.ref (s.heap.objs.size + 1) :: us, []⟩ _ _ _ E0 (hr.make C us []) hg2 (I2.env0.make C us []) bt r2 hq) fun res s' hq' => ?_))
  match res, hq' with
  | .error e, hq' => exact hx σ pins _ _ e s' I2 hq'
  | .ok (.ret u), hq' =>
    obtain ⟨v, H', I3, rv, ev, q3⟩ := I2.after hq'
    subst ev
    exact ⟨rv, ⟨V.ref (s.heap.objs.size + 1), H', I3, rfl, q3⟩⟩
theorem make_low {K : PySem.W.Frag} {σ : L2.St} {H : Hp} {Q : VK} (h : lE K Y (dMake C dsp t) σ H Q) : tMakeg C (spD K dsp) (lA K Y t) σ H Q := by
  obtain ⟨δ, m, R, en, st, h, k⟩ := h
  refine lA_bind en st h fun vs H1 ds m1 r1 e1 en1 st1 rl => fun a dx ha hdx hne => ?_
  have f1 : m1 a = none := st1.free ha
  have ed : Ext m1 H1 m1 (L2.upd H1 dx (.own a)) := ext_new hdx
  have sd := sto_new (o := .own a) st1 hdx
  have ha' : L2.upd H1 dx (.own a) a = none := by rw [upd_ne hne.symm]; exact ha
  have ea : Ext m1 (L2.upd H1 dx (.own a)) (up m1 a (.ins C [])) (L2.upd (L2.upd H1 dx (.own a)) a (.ins C dx [])) := ext_add ha'
  refine ⟨.ptr a :: ds, up m1 a (.ins C []), fun v m2 => v = .non ∧ R (.ptr a) m2, noX, .cons (.ptr a) ((rl.ext ed).ext ea), sto_at sd ea ⟨dx, [], upd_same, .nil⟩, r1 a f1, fun v H' d m' ⟨ev, q⟩ ex s' rp => ?_, aftX_no⟩
  subst ev
  cases rp
  exact ⟨rfl, k _ _ _ _ q (((e1.trans ed).trans ea).trans ex) s' (.ptr a)⟩
theorem pd_make (M : Mk X.K C f) (F : FnG X.prog X.w X.K X.mg X.base CX k f fd ps (spD X.K dsp)) (hr : Room (k + 1) X.A) (hg : X.A.guards = some []) (gl : Gl X x) (hm : X.mg x = some (.ref C)) (hb : Binds X.K fd ps []) (hx : ∀ σ, PassesAt CX X σ E0)
    (ha : PDA X Y (e :: es) t) (hdb : (x == ("__debug__" : Str)) = false := by decide) (he : starEach (e :: es) X.env = (false, eval e X.env) :: starEach es X.env := by rfl) (hpl : (backTo pos (starEach es X.env)).any (·.1) = false := by rfl) :
    PD X Y (.Call (.Name x p) (e :: es) [] pos) (dMake C dsp t) :=
  ⟨⟨fun pins s σ H Q I h => wpAny_Call_Name_kw (ld_glob I gl hm (PySem.W.callWith_K (h₀ := X.base) I.ok.mod.kin M.kp
    (thn (ha.pa.run pos pins s σ H _ I (make_low h)) fun us s1 ⟨vs, H1, I1, r, q⟩ => ⟨I1.kIn, make_g M F hr hg hb hx I1 r q⟩) he hpl) hdb)⟩⟩
theorem pd_make0 (M : Mk X.K C f) (F : FnG X.prog X.w X.K X.mg X.base CX k f fd ps (spD X.K dsp)) (hr : Room (k + 1) X.A) (hg : X.A.guards = some []) (gl : Gl X x) (hm : X.mg x = some (.ref C)) (hb : Binds X.K fd ps []) (hx : ∀ σ, PassesAt CX X σ E0)
    (hdb : (x == ("__debug__" : Str)) = false := by decide) : PD X Y (.Call (.Name x p) [] [] pos) (dMake C dsp dNil) :=
  ⟨⟨fun pins s σ H Q I h => wpAny_Call_Name_kw (ld_glob I gl hm (PySem.W.callWith_K0 I.kIn M.kp (make_g (us := []) (vs := []) M F hr hg hb hx I .nil (nil_low (make_low h)))) hdb)⟩⟩
end
end Dl

/-! The data layer: the law's own call. -/
namespace Dl
open PySem PySem.Spec PyProof.Rows L2

/-- the law: the script is handed in, True comes out -/
def lawSp (n : Nat) : DSp := fun ds m R _ => ∃ ns : List Int, ds = [.rl (ns.map D.int)] ∧ ns.length ≤ n ∧ ∀ m', R (.bl true) m'
theorem law_call_g {P : Program} {w : World} {K : PySem.W.Frag} {mg mb : Str → Option Value} {CX : CXT} {k n : Nat} {fa a : Addr} {fd : FuncData} {x : Str} {s1 : Shared} {vs : List Value} {ns : List Int}
    (KX : K.In s1.heap) (hns : s1.heap.Ns mainGlobals mg) (hb : s1.heap.Ns builtinsNs mb) (hbb : ∀ x : Str, x ≠ "__name__" → mb x = bootBuiltins x) (hlim : s1.heap.NoLimit) (hg : s1.gens = #[])
    (ha : s1.heap.get? a = some { cls := .type "list", data := .seq vs.toArray }) (hi : IntsAre vs ns) (hl : ns.length ≤ n) (hn : n ≤ sizeLine) (hr : Room k callerA)
    (F : ∀ base : Heap, K.In base → base.Ns mainGlobals mg → FnG P w K mg base CX k fa fd [x] (spD K (lawSp n))) (hbind : ∀ (s : Shared) (u : Value), BindsTo s fd ⟨[u], []⟩ [(x, u)])
    (hCX : ∀ H e s', CX [] H s1 (fun _ _ _ => False) e s' → False) :
    codeAny (model P w) callerA (.call (.ref fa) ⟨[.ref a], []⟩) (fun r s' => r = .ok (.ret (.bool true)) ∧ OldK s1.heap s'.heap ∧ s'.os = s1.os ∧ AllBare s'.gens) s1 := by
  have rv := vals_ints hi
  have lv := hi.length
  have zl : ns.length ≤ sizeLine := Nat.le_trans hl hn
  have go : ∀ H : Hp, (∀ b u, H b = some u → ∃ ob xs, u = .frz ob (.lst xs)) → Rp K (fun _ => none) H (.ref a) (.rl (ns.map D.int)) → HOk P w H s1.heap → (∀ b, H b ≠ none → b = a) → (H a ≠ none → K.lookup a = none) →
      codeAny (model P w) callerA (.call (.ref fa) ⟨[.ref a], []⟩) (fun r s' => r = .ok (.ret (.bool true)) ∧ OldK s1.heap s'.heap ∧ s'.os = s1.os ∧ AllBare s'.gens) s1 := by
    intro H hO hS hok hA hK
    have low : ∀ {b : Addr} {o : Obj}, s1.heap.get? b = some o → H b = none → (hidT s1.heap H).get? b = some o := fun e z => hidT_get e z
    have noD : ∀ {b : Addr} {o : Obj} {es : Array DictEntry} {ep : Nat}, s1.heap.get? b = some o → o.data = .dict es ep → H b = none := fun {b o es ep} e d => by
      by_cases q : H b = none
      · exact q
      · have e' : b = a := hA b q
        rw [e', ha] at e
        cases e
        cases d
    have keepNs : ∀ {b : Addr} {f : Str → Option Value}, s1.heap.Ns b f → (hidT s1.heap H).Ns b f := fun {b f} z => by
      obtain ⟨o, es, ep, e, d, r⟩ := z
      exact ⟨o, es, ep, low e (noD e d), d, r⟩
    have kb : K.In (hidT s1.heap H) := fun b o e => low (KX b o e) (by
      by_cases q : H b = none
      · exact q
      · have e' : b = a := hA b q
        subst e'
        rw [hK q] at e
        cases e)
    have md : Mod K mg (hidT s1.heap H) := by
      obtain ⟨mc, z1, z2⟩ := hlim
      exact ⟨kb, keepNs hns, ⟨mb, keepNs hb, hbb⟩, ⟨mc, keepNs z1, z2⟩⟩
    have e0 : Env0 P w K mg (hidT s1.heap H) callerA [] s1 H := ⟨rfl, md, fun b o e => of_hidT e, Nat.le_of_eq (hidT_size _ _), trivial, fun b z => (nomatch z), hok, .of_eq hg⟩
    have sp : spD K (lawSp n) [.ref a] H (fun v _ => v = .bl true) (fun _ _ _ => False) :=
      ⟨[.rl (ns.map D.int)], fun _ => none, fun d _ => d = .bl true, noX, .cons hS .nil, fun _ _ z => (nomatch z), ⟨ns, rfl, hl, fun _ => rfl⟩, fun v H' d m' q _ _ r => by subst q; cases r; rfl, aftX_no⟩
    refine codeAny_mono ((F _ kb (keepNs hns)).run callerA [] s1 H ⟨[.ref a], []⟩ [.ref a] [.ref a] _ _ hr rfl e0 (hbind s1 (.ref a)) (.cons rfl .nil) sp) fun r s' h => ?_
    match r, h with
    | .error e, h => exact (hCX H e s' h).elim
    | .ok (.ret u), h =>
      obtain ⟨v, H', os, bare, un, hok', r', q⟩ := h
      obtain rfl : v = .bl true := q
      obtain rfl : u = Value.bool true := r'
      refine ⟨rfl, OldK.of_keep fun b o e => ?_, os, bare⟩
      cases q : H b with
      | none => exact un.keep b o e q (fun z => nomatch z) (fun z => nomatch z)
      | some u =>
        obtain ⟨ob, xs, rfl⟩ := hO b u q
        have e1 := (hok b _ q).1
        have e2 := (hok' b _ (un.frzs b ob _ q)).1
        rw [e] at e1
        cases e1
        exact e2
  cases hk : K.lookup a with
  | some o =>
    have e := KX a o hk
    rw [ha] at e
    cases e
    refine go (fun _ => none) (fun b u z => (nomatch z)) (.rl (xs := ns.map V.int) (.inr (.inr ⟨_, vs.toArray, _, hk, rfl, rfl, rfl, by rw [List.size_toArray, lv]; exact zl, by simpa using rv⟩)) (RpL.ints ns)) (fun b u z => (nomatch z)) (fun b z => absurd rfl z) fun z => absurd rfl z
  | none =>
    refine go (fun b => if b = a then some (.frz { cls := .type "list", data := .seq vs.toArray } (.lst (ns.map V.int))) else none) (fun b u z => ?_) (.rl (.inl ⟨rfl, .inr ⟨_, if_pos rfl⟩⟩) (RpL.ints ns)) (fun b u z => ?_) (fun b z => ?_) fun _ => hk
    · split at z
      · cases z
        exact ⟨_, _, rfl⟩
      · cases z
    · by_cases hb : b = a
      · have z' := (if_pos hb).symm.trans z
        cases z'
        subst hb
        exact ⟨ha, by rw [List.length_map]; exact zl, vs, _, rv, ha⟩
      · have z' := (if_neg hb).symm.trans z
        cases z'
    · by_cases hb : b = a
      · exact hb
      · exact absurd (if_neg hb) z
/-- the goal that k_head leaves -/
theorem walk_g {l : PySem.W.OpenLaw} {n k : Nat} {q : Program} {loose : List Str} {XP : (Str → Option Value) → Heap → Prop} {YP : World → Heap → Prop} {d : DefRec} {K : Params → PySem.W.Frag} {x : Str}
    (hn : l.most = some n) (hn2 : n ≤ sizeLine) (hdf : d.params.defaults = []) (hr : Room k callerA) (hY : ∀ (w : World) (h : Heap), YP w h → (K w.params).In h)
    (F : ∀ (w : World) (mg : Str → Option Value) (fa : Addr) (h : Heap), (K w.params).In h → h.Ns mainGlobals mg → mg d.name = some (.ref fa) →
      ∃ fd : FuncData, (∀ (s : Shared) (u : Value), BindsTo s fd ⟨[u], []⟩ [(x, u)]) ∧ ∀ base : Heap, (K w.params).In base → base.Ns mainGlobals mg → FnG l.prog w (K w.params) mg base CX0 k fa fd [x] (spD (K w.params) (lawSp n))) :
    PySem.W.WalkO q loose XP YP l.row.toRowW d [] (fun f vs => PySem.call f vs) := by
  refine Att.attach_call hn hdf fun w s₀ s₁ mg mb fa o pm cd doc a vs ns G Y0 ho hd hcd hmg hobj hints hlen hg => ?_
  have KX := hY w _ Y0
  obtain ⟨fd, hb, hF⟩ := F w mg fa _ KX G.T.g hmg
  exact law_call_g KX G.T.g G.T.b G.T.builtins G.T.nolimit hg hobj hints hlen hn2 hr hF hb fun H e s' z => z
end Dl

/-! Facts about plain data: shapes, equality, how long a text shows them. -/
namespace Dl
open PySem PySem.Spec PyProof.Rows L2

theorem lay_ints : ∀ ns : List Int, PyData.canLayAll0 (ns.map PyData.int) = true
  | [] => by rw [List.map_nil, PyData.canLayAll0]
  | n :: r => by rw [List.map_cons, PyData.canLayAll0, lay_ints r, PyData.canLay0]; rfl
theorem depth_ints : ∀ ns : List Int, PyData.depthAll (ns.map PyData.int) = 0
  | [] => by rw [List.map_nil, PyData.depthAll]
  | n :: r => by rw [List.map_cons, PyData.depthAll, depth_ints r, PyData.depth]; rfl
theorem shaped_ints (ns : List Int) : SeqAt.shaped (.list (ns.map .int)) = true := by
  unfold SeqAt.shaped
  rw [PyData.canLay0, lay_ints, PyData.depth, depth_ints]
  rfl
theorem shaped_intsT (ns : List Int) : SeqAt.shaped (.tuple (ns.map .int)) = true := by
  unfold SeqAt.shaped
  rw [PyData.canLay0, lay_ints, PyData.depth, depth_ints]
  rfl
theorem eqv_intsA : ∀ xs ys : List Int, PyData.eqvAll (xs.map .int) (ys.map .int) = decide (xs = ys)
  | [], [] => by rw [List.map_nil, PyData.eqvAll]; rfl
  | [], y :: ys => by rw [List.map_nil, List.map_cons, PyData.eqvAll]; rfl
  | x :: xs, [] => by rw [List.map_nil, List.map_cons, PyData.eqvAll]; rfl
  | x :: xs, y :: ys => by
    rw [List.map_cons, List.map_cons, PyData.eqvAll, eqv_intsA xs ys, PyData.eqv]
    by_cases h : x = y
    · by_cases h2 : xs = ys
      · simp [h, h2]
      · simp [h, h2]
    · simp [h]
theorem eqv_ints (xs ys : List Int) : PyData.eqv (.list (xs.map .int)) (.list (ys.map .int)) = decide (xs = ys) := by
  rw [PyData.eqv, eqv_intsA]

/-- q can be shown, in at most k signs, nested at most d deep -/
structure Shw (q : PyData) (k d : Nat) : Prop where
  sh : q.showable = true
  nd : q.hasDict = false
  ln : q.shown.length ≤ k
  dp : q.depth ≤ d
theorem Shw.mono {q : PyData} {k k' d d' : Nat} (h : Shw q k d) (hk : k ≤ k') (hd : d ≤ d') : Shw q k' d' := ⟨h.sh, h.nd, Nat.le_trans h.ln hk, Nat.le_trans h.dp hd⟩
theorem Shw.int {i : Int} {k : Nat} (h : i.natAbs < 2 ^ k) (h0 : 0 < k) (h1 : k ≤ 1919) : Shw (.int i) (k + 1) 0 := by
  have hl : i.natAbs.log2 < k := PySem.Flt.log2_lt_of h0 h
  refine ⟨?_, by rw [PyData.hasDict], ?_, by rw [PyData.depth]; exact Nat.le_refl _⟩
  · rw [PyData.showable]
    exact decide_eq_true (by omega)
  · rw [PyData.shown]
    show (Str.ofString (toString i)).length ≤ k + 1
    rw [PySem.ofString_length]
    exact int_text_length_le h0 hl
theorem sum_le (ps : List Nat) (k : Nat) (h : ∀ p ∈ ps, p ≤ k) : ps.sum ≤ ps.length * k := by
  induction ps with
  | nil => simp
  | cons p ps ih =>
    rw [List.sum_cons, List.length_cons, Nat.succ_mul]
    have h1 := h p List.mem_cons_self
    have h2 := ih fun q hq => h q (List.mem_cons_of_mem _ hq)
    omega
theorem Shw.all : ∀ {ps : List PyData} {k d : Nat}, (∀ p ∈ ps, Shw p k d) → PyData.showableAll ps = true ∧ PyData.hasDictAll ps = false ∧ (∀ t ∈ PyData.shownAll ps, t.length ≤ k) ∧ PyData.depthAll ps ≤ d ∧ (PyData.shownAll ps).length = ps.length
  | [], k, d, h => by
    rw [PyData.showableAll, PyData.hasDictAll, PyData.shownAll, PyData.depthAll]
    exact ⟨rfl, rfl, fun t ht => (nomatch ht), Nat.zero_le _, rfl⟩
  | p :: ps, k, d, h => by
    have h1 := h p List.mem_cons_self
    obtain ⟨a, b, c, e, f⟩ := Shw.all (ps := ps) fun q hq => h q (List.mem_cons_of_mem _ hq)
    rw [PyData.showableAll, PyData.hasDictAll, PyData.shownAll, PyData.depthAll, a, b, h1.sh, h1.nd]
    refine ⟨rfl, rfl, fun t ht => ?_, Nat.max_le.mpr ⟨h1.dp, e⟩, by rw [List.length_cons, List.length_cons, f]⟩
    rcases List.mem_cons.mp ht with rfl | ht
    · exact h1.ln
    · exact c t ht
theorem shown_sum {ts : List Str} {n k : Nat} (h : ∀ t ∈ ts, t.length ≤ k) (hl : ts.length ≤ n) : (ts.map (·.length)).sum + 2 * ts.length + 3 ≤ n * (k + 2) + 3 := by
  have h1 := sum_le (ts.map (·.length)) k fun p hp => by
    obtain ⟨t, ht, e⟩ := List.mem_map.mp hp
    rw [← e]
    exact h t ht
  rw [List.length_map] at h1
  have h2 : ts.length * (k + 2) ≤ n * (k + 2) := Nat.mul_le_mul_right _ hl
  rw [Nat.mul_add] at h2
  omega
theorem Shw.list {ps : List PyData} {k d n : Nat} (h : ∀ p ∈ ps, Shw p k d) (hl : ps.length ≤ n) : Shw (.list ps) (n * (k + 2) + 3) (d + 1) := by
  obtain ⟨a, b, c, e, f⟩ := Shw.all h
  refine ⟨by rw [PyData.showable, a], by rw [PyData.hasDict, b], ?_, by rw [PyData.depth]; omega⟩
  rw [PyData.shown]
  exact Nat.le_trans (listText_len_le _) (shown_sum c (by rw [f]; exact hl))
theorem Shw.tuple {ps : List PyData} {k d n : Nat} (h : ∀ p ∈ ps, Shw p k d) (hl : ps.length ≤ n) : Shw (.tuple ps) (n * (k + 2) + 3) (d + 1) := by
  obtain ⟨a, b, c, e, f⟩ := Shw.all h
  refine ⟨by rw [PyData.showable, a], by rw [PyData.hasDict, b], ?_, by rw [PyData.depth]; omega⟩
  rw [PyData.shown]
  exact Nat.le_trans (tupleText_len_le _) (shown_sum c (by rw [f]; exact hl))
/-- some whole numbers below 2 ^ 100 -/
theorem Shw.ints {ns : List Int} {n : Nat} (h : ∀ x ∈ ns, x.natAbs < 2 ^ 100) (hl : ns.length ≤ n) : Shw (.list (ns.map .int)) (n * 103 + 3) 1 :=
  Shw.list (k := 101) (d := 0) (n := n) (fun p hp => by
    obtain ⟨x, hx, rfl⟩ := List.mem_map.mp hp
    exact Shw.int (h x hx) (by decide) (by decide)) (by rw [List.length_map]; exact hl)
theorem Shw.intsT {ns : List Int} {n : Nat} (h : ∀ x ∈ ns, x.natAbs < 2 ^ 100) (hl : ns.length ≤ n) : Shw (.tuple (ns.map .int)) (n * 103 + 3) 1 :=
  Shw.tuple (k := 101) (d := 0) (n := n) (fun p hp => by
    obtain ⟨x, hx, rfl⟩ := List.mem_map.mp hp
    exact Shw.int (h x hx) (by decide) (by decide)) (by rw [List.length_map]; exact hl)
theorem line_big : 10000000 ≤ sizeLine := by decide
end Dl

/-! Readings are monotone; two ways of a plain if joined. -/
namespace Dl
open PySem PySem.Spec PyProof.Rows L2

class ME (e : DE) : Prop where
  mono : ∀ {δ m} {R R' : D → Sto → Prop}, (∀ d m, R d m → R' d m) → e δ m R → e δ m R'
class MT (e : DT) : Prop where
  mono : ∀ {δ m} {R R' : Bool → Sto → Prop}, (∀ d m, R d m → R' d m) → e δ m R → e δ m R'
class MA (e : DA) : Prop where
  mono : ∀ {δ m} {R R' : List D → Sto → Prop}, (∀ d m, R d m → R' d m) → e δ m R → e δ m R'
class M2 (g : O2) : Prop where
  mono : ∀ {d e m} {R R' : D → Sto → Prop}, (∀ d m, R d m → R' d m) → g d e m R → g d e m R'
class ML (g : OL) : Prop where
  mono : ∀ {ds m} {R R' : D → Sto → Prop}, (∀ d m, R d m → R' d m) → g ds m R → g ds m R'
instance (i : Nat) : ME (dVar i) := ⟨fun w h => by unfold dVar at *; split at h <;> first | exact w _ _ h | exact h⟩
instance (d : D) : ME (dC d) := ⟨fun w h => w _ _ h⟩
instance : MA dNil := ⟨fun w h => w _ _ h⟩
instance (a : DE) (r : DA) [ME a] [MA r] : MA (dCons a r) := ⟨fun w h => ME.mono (e := a) (fun _ _ h => MA.mono (e := r) (fun _ _ h => w _ _ h) h) h⟩
theorem newL_mono {b : Bool} {ds : List D} {m : Sto} {R R' : D → Sto → Prop} (w : ∀ d m, R d m → R' d m) (h : newL b ds m R) : newL b ds m R' := by
  cases b with
  | true => exact fun p hp => w _ _ (h p hp)
  | false => exact w _ _ h
instance (b : Bool) (t : DA) [MA t] : ME (dLst b t) := ⟨fun w h => MA.mono (e := t) (fun _ _ h => ⟨h.1, newL_mono w h.2⟩) h⟩
instance (t : DA) [MA t] : ME (dTup t) := ⟨fun w h => MA.mono (e := t) (fun _ _ h => ⟨h.1, w _ _ h.2⟩) h⟩
instance (g : O2) (a b : DE) [M2 g] [ME a] [ME b] : ME (dOp g a b) := ⟨fun w h => ME.mono (e := a) (fun _ _ h => ME.mono (e := b) (fun _ _ h => M2.mono (g := g) w h) h) h⟩
instance (e : DE) [ME e] : MT (dB e) := ⟨fun w h => ME.mono (e := e) (fun d _ h => by cases d <;> first | exact w _ _ h | exact h) h⟩
instance (t u : DT) [MT t] [MT u] : MT (dAnd t u) := ⟨fun w h => MT.mono (e := t) (fun _ _ h => ⟨fun c => MT.mono (e := u) w (h.1 c), fun c => w _ _ (h.2 c)⟩) h⟩
instance (t u : DT) [MT t] [MT u] : MT (dOr t u) := ⟨fun w h => MT.mono (e := t) (fun _ _ h => ⟨fun c => w _ _ (h.1 c), fun c => MT.mono (e := u) w (h.2 c)⟩) h⟩
instance (t : DT) [MT t] : MT (dNot t) := ⟨fun w h => MT.mono (e := t) (fun _ _ h => w _ _ h) h⟩
instance (a : DE) [ME a] : ME (dNeg a) := ⟨fun w h => ME.mono (e := a) (fun d _ h => by cases d <;> first | exact w _ _ h | exact h) h⟩
instance (g : OL) (t : DA) [ML g] [MA t] : ME (dCB g t) := ⟨fun w h => MA.mono (e := t) (fun _ _ h => ML.mono (g := g) w h) h⟩
instance : M2 subD := ⟨fun w h => by unfold subD at *; split at h <;> first | exact w _ _ h | exact h⟩
instance : M2 divD := ⟨fun w h => by unfold divD at *; split at h <;> first | exact ⟨h.1, w _ _ h.2⟩ | exact h⟩
instance : M2 modD := ⟨fun w h => by unfold modD at *; split at h <;> first | exact ⟨h.1, w _ _ h.2⟩ | exact h⟩
instance : M2 powD := ⟨fun w h => by unfold powD at *; split at h <;> first | exact ⟨h.1, w _ _ h.2⟩ | exact h⟩
instance (p s) : M2 (cmpD p s) := ⟨fun w h => by unfold cmpD at *; split at h <;> first | exact w _ _ h | exact h⟩
instance : M2 gtD := ⟨fun w h => by unfold gtD at *; split at h <;> first | exact w _ _ h | exact h⟩
instance : M2 geD := ⟨fun w h => by unfold geD at *; split at h <;> first | exact w _ _ h | exact h⟩
instance : M2 isD := ⟨fun w h => by unfold isD at *; split at h <;> first | exact w _ _ h | exact h⟩
instance : M2 isntD := ⟨fun w h => by unfold isntD at *; split at h <;> first | exact w _ _ h | exact h⟩
instance : M2 eqD := ⟨fun w h => by
  unfold eqD at *
  split at h
  · exact w _ _ h
  · exact w _ _ h
  · exact w _ _ h
  · obtain ⟨p, q, h1, h2, h3, h4, h5⟩ := h
    exact ⟨p, q, h1, h2, h3, h4, w _ _ h5⟩⟩
instance : M2 neD := ⟨fun w h => by
  unfold neD at *
  split at h
  · exact w _ _ h
  · exact w _ _ h
  · exact w _ _ h
  · obtain ⟨p, q, h1, h2, h3, h4, h5⟩ := h
    exact ⟨p, q, h1, h2, h3, h4, w _ _ h5⟩⟩
instance : M2 ixD := ⟨fun w h => by
  unfold ixD at *
  split at h
  · split at h
    · obtain ⟨h1, c, h2, h3⟩ := h
      exact ⟨h1, c, h2, w _ _ h3⟩
    · obtain ⟨xs, x, h1, h2, h3⟩ := h
      exact ⟨xs, x, h1, h2, w _ _ h3⟩
  · exact h⟩
instance (b : Bool) : M2 (addD b) := ⟨fun w h => by
  unfold addD at *
  split at h
  · exact w _ _ h
  · exact ⟨h.1, w _ _ h.2⟩
  · exact ⟨h.1, w _ _ h.2⟩
  · obtain ⟨xs, ys, h1, h2, h3, h4⟩ := h
    exact ⟨xs, ys, h1, h2, h3, newL_mono w h4⟩⟩
instance (b : Bool) : M2 (mulD b) := ⟨fun w h => by
  unfold mulD at *
  split at h
  · exact ⟨h.1, w _ _ h.2⟩
  · exact ⟨h.1, h.2.1, h.2.2.1, h.2.2.2.1, w _ _ h.2.2.2.2⟩
  · obtain ⟨xs, h1, h2, h3, h4, h5⟩ := h
    exact ⟨xs, h1, h2, h3, h4, newL_mono w h5⟩
  · exact h⟩
instance : ML lenD := ⟨fun w h => by
  unfold lenD at *
  split at h
  · exact ⟨h.1, w _ _ h.2⟩
  · exact w _ _ h
  · exact w _ _ h
  · obtain ⟨o, n, h1, h2, h3⟩ := h
    exact ⟨o, n, h1, h2, w _ _ h3⟩
  · exact h⟩
instance : ML minD := ⟨fun w h => by
  unfold minD at *
  split at h
  · exact w _ _ h
  · obtain ⟨n, h1, h2, h3⟩ := h
    exact ⟨n, h1, h2, w _ _ h3⟩
  · exact h⟩
instance : ML maxD := ⟨fun w h => by
  unfold maxD at *
  split at h
  · exact w _ _ h
  · obtain ⟨n, h1, h2, h3⟩ := h
    exact ⟨n, h1, h2, w _ _ h3⟩
  · exact h⟩
instance : ML absD := ⟨fun w h => by unfold absD at *; split at h <;> first | exact w _ _ h | exact h⟩
instance : ML intD := ⟨fun w h => by unfold intD at *; split at h <;> first | exact w _ _ h | exact h⟩

/-- if c: x = e, where x holds a whole number: both ways with one that Q holds of -/
theorem if_join {c : DT} {e : DE} [MT c] [ME e] {i : Nat} {s : Int} {P : DEnds} {δ : Ev} {m : Sto} (Q : Int → Prop) (hs : δ.s[i]? = some (some (.int s)))
    (h : c δ m fun b m1 => m1 = m ∧ (b = true → e δ m fun d m2 => m2 = m ∧ ∃ s', d = .int s' ∧ Q s') ∧ (b = false → Q s)) (k : ∀ s', Q s' → P.nx (δ.put i (.int s')) m) : dIf c (dSet i e) dNext P δ m := by
  refine MT.mono (e := c) (fun b m1 hh => ?_) h
  obtain ⟨em, h1, h2⟩ := hh
  subst em
  refine ⟨fun hb => ME.mono (e := e) (fun d m2 hq => ?_) (h1 hb), fun hb => ?_⟩
  · obtain ⟨em, s', ed, q⟩ := hq
    subst em ed
    exact k s' q
  · have q := k s (h2 hb)
    have e : δ.put i (.int s) = δ := by
      obtain ⟨l, x⟩ := δ
      show (⟨l.set i (some (.int s)), x⟩ : Ev) = ⟨l, x⟩
      congr 1
      apply List.ext_getElem?
      intro j
      by_cases hj : i = j
      · subst hj
        rw [List.getElem?_set, if_pos rfl]
        have hs' : l[i]? = some (some (.int s)) := hs
        rw [hs']
        split
        · rfl
        · rename_i hl
          rw [List.getElem?_eq_none (Nat.le_of_not_lt hl)] at hs'
          cases hs'
      · rw [List.getElem?_set_ne hj]
    rw [e] at q
    exact q
end Dl

/-! The data layer: exceptions. A caught one is tracked from where it lands. -/
namespace Dl
open PySem PySem.Spec PyProof.Rows L2

/-- a caught exception's object -/
def ExB (cls : Value) (d : Option Addr) (a : Addr) : HO := .ext fun h => ∃ (oe : Obj) (vs : Array Value), h.get? a = some oe ∧ Zc cls d oe ∧ oe.data = .fields vs
theorem exB_ok {P : Program} {w : World} {H : Hp} {h : Heap} {a : Addr} {cls : Value} {d : Option Addr} {oe : Obj} {vs : Array Value} (e : h.get? a = some oe) (z : Zc cls d oe) (k : oe.data = .fields vs) : ObjOk P w H h a (ExB cls d a) :=
  ⟨⟨oe, vs, e, z, k⟩, ⟨oe, e⟩, fun _ _ ⟨o, v, q, r1, r2⟩ st => ⟨o, v, st o q, r1, r2⟩⟩
section
variable {X : Cx} {pins : List (Addr × Obj)} {σ : L2.St} {H : Hp} {s : Shared} {a : Addr}
/-- it is of no def's own things -/
structure Apart (X : Cx) (pins : List (Addr × Obj)) (a : Addr) : Prop where
  s0 : X.s_0.heap.get? a = none
  loc : a ≠ X.env.locals
  cel : ∀ x c, X.env.cells.lookup x = some c → c ≠ a
  pin : ∀ p ∈ X.pn ++ pins, p.1 ≠ a
theorem apart_of {sI : Shared} {H' : Hp} {σ' : L2.St} {B : Heap} (I : Inv X pins σ' H' sI) (hx : X.ex = []) (hB : B.get? a = none) (nb : ∀ b o, sI.heap.get? b = some o → b ∉ frs X.stack → B.get? b = some o) (nf : a ∉ frs X.stack) : Apart X pins a := by
  have hI : sI.heap.get? a = none := by
    cases e : sI.heap.get? a with
    | none => rfl
    | some o => exact (nomatch (nb a o e nf).symm.trans hB)
  have ne : ∀ b o, sI.heap.get? b = some o → b ≠ a := fun b o e z => by
    rw [z, hI] at e
    cases e
  refine ⟨?_, fun z => ?_, fun x c e => ?_, fun p hp => ne _ _ (I.pin p hp).1⟩
  · cases e : X.s_0.heap.get? a with
    | none => rfl
    | some o =>
      obtain ⟨o', e'⟩ := I.base.there a o e (by rw [hx]; simp)
      exact (ne a o' e' rfl).elim
  · obtain ⟨m, ⟨o, _, _, ho, _⟩, _⟩ := I.loc
    exact ne _ _ ho z.symm
  · obtain ⟨v, o, ho, _⟩ := I.cell x c e
    exact ne _ _ ho
theorem inv_reg {oe : Obj} {vs : Array Value} {cls : Value} {d : Option Addr} (I : Inv X pins σ H s) (ap : Apart X pins a) (hn : H a = none) (he : s.heap.get? a = some oe) (hz : Zc cls d oe) (hd : oe.data = .fields vs) : Inv X pins σ (L2.upd H a (ExB cls d a)) s := by
  have sm : ∀ b u, H b = some u → b ≠ a := fun b u e => ne_of_none e hn
  have at_ : ∀ b, b ≠ a → L2.upd H a (ExB cls d a) b = H b := fun b h => upd_ne h
  have s0 : ∀ b o, X.s_0.heap.get? b = some o → b ≠ a := fun b o e z => by
    rw [z, ap.s0] at e
    cases e
  refine ⟨I.ok, I.os, I.bare, ⟨I.base.keep, I.base.slot, fun b o e n hx => ?_, I.base.there, fun b xs e => ?_, fun b o u e => ?_, fun b ps e => ?_⟩, I.loc, I.cell, ?_, fun x c e => ?_, fun p hp => ?_, fun b u e => ?_, I.len⟩
  · rw [at_ b (s0 b o e)]
    exact I.base.free b o e n hx
  · have q := I.base.tups b xs e
    rw [at_ b (sm b _ q)]
    exact q
  · have q := I.base.frzs b o u e
    rw [at_ b (sm b _ q)]
    exact q
  · obtain ⟨more, q⟩ := I.base.tbls b ps e
    exact ⟨more, by rw [at_ b (sm b _ q)]; exact q⟩
  · rw [at_ _ ap.loc.symm]
    exact I.free
  · rw [at_ _ (ap.cel x c e)]
    exact I.freeC x c e
  · obtain ⟨q1, q2, q3⟩ := I.pin p hp
    exact ⟨q1, by rw [at_ _ (ap.pin p hp)]; exact q2, q3⟩
  · by_cases hb : b = a
    · subst hb
      rw [upd_same] at e
      cases e
      exact exB_ok he hz hd
    · rw [at_ b hb] at e
      exact (I.hok b u e).stay (fun c w _ q => q) (fun c q => by rw [at_ c (sm c _ q)]; exact q) fun c xs q => by rw [at_ c (sm c _ q)]; exact q
/-- into a suite whose exception is tracked, and out of it -/
theorem inv_in (I : Inv X pins σ H s) : Inv (X.suite a (X.pn ++ pins)) [] σ H s :=
  ⟨I.ok.suite _ _, I.os, I.bare, I.base, I.loc, I.cell, I.free, I.freeC, fun p hp => I.pin p (by rw [List.append_nil] at hp; exact hp), I.hok, I.len⟩
theorem inv_out {pn' : List (Addr × Obj)} (I : Inv (X.suite a (X.pn ++ pins)) pn' σ H s) (ok : X.Ok) : Inv X pins σ H s :=
  ⟨ok, I.os, I.bare, I.base, I.loc, I.cell, I.free, I.freeC, fun p hp => I.pin p (List.mem_append_left _ hp), I.hok, I.len⟩
end
/-- an end behind an except suite whose name lay in slot i -/
def gone (i : Nat) (D : Ends) : Ends where
  nx := fun σ H => D.nx (σ.set i none) H
  rt := D.rt
  bk := fun σ H => D.bk (σ.set i none) H
  ct := fun σ H => D.ct (σ.set i none) H
/-- what the clause wishes of an exception of the body -/
def wReg (K : PySem.W.Frag) (c : Value) (i : Nat) (ts : Addr → TS) (Wout : WX) (D : Ends) : WX := fun cls d σ H =>
  ∃ b, PySem.W.exmOne K cls c = some b ∧ (b = true → ∀ a, H a = none → ts a (gone i D) (σ.set i (some (.ref a))) (L2.upd H a (ExB cls d a))) ∧ (b = false → Wout cls d σ H)
section
variable {X : Cx} {x n : Str} {c : Value} {i : Nat} {body suite : List Stmt} {st0 : Stmt} {np pos pos' : Pos} {tb : WX → TS} {ts : Addr → TS} {Wout : WX}
theorem ps_try_reg (hs : X.stack = X.env :: X.outer) (hf : X.env.frame = some X.env.locals) (hx : X.ex = []) (hN : X.N.Nodup) (hi : X.N[i]? = some n) (hln : X.env.kindOf n = some .local) (hc : Names X x c) (tk : Takes X Wout)
    (hb : ∀ (W : WX) (pn : List (Addr × Obj)) (xe : Value → Shared → Prop), Takes (X.tr pn xe) W → PassesOwn (model X.prog X.w) X.A X.env xe → PSs (X.tr pn xe) body (tb W))
    (hsu : ∀ (a : Addr) (pn : List (Addr × Obj)), PSs (X.suite a pn) (st0 :: suite) (ts a)) :
    PS X (.Try body [.ExceptHandler (some (.Name x np)) (some n) (st0 :: suite) pos'] [] [] pos) (fun D σ H => tb (wReg X.K c i ts Wout D) D σ H) := by
  refine ⟨fun pins s σ H D I h => ?_⟩
  have ok := I.ok
  have frm : X.A.frames = some (X.env :: X.outer) := ok.frames.trans (congrArg some hs)
  have own : Loc X.env.scope n := Or.inl hln
  -- what happens to an exception of the body
  have air : ∀ (u : Value) (s' : Shared), XE (X.tr (X.pn ++ pins) fun e s₁ => wpAny (model X.prog X.w) X.A (noteFrame e X.env) (fun _ s₂ => wpAny (model X.prog X.w) X.A (setFlight e none)
      (fun _ s₃ => wpAny (model X.prog X.w) X.A (handleBy e X.env [.ExceptHandler (some (.Name x np)) (some n) (st0 :: suite) pos']) (SP X pins D) X.xe s₃) X.xe s₂) X.xe s₁) (wReg X.K c i ts Wout D) u s' →
      wpAny (model X.prog X.w) X.A (noteFrame u X.env) (fun _ s₂ => wpAny (model X.prog X.w) X.A (setFlight u none) (fun _ s₃ =>
        wpAny (model X.prog X.w) X.A (handleBy u X.env [.ExceptHandler (some (.Name x np)) (some n) (st0 :: suite) pos']) (SP X pins D) X.xe s₃) X.xe s₂) X.xe s' := by
    intro u s' hu
    obtain ⟨a, B, sI, pins', σ1, H1, cls, d, rfl, J0, nb, up, sky, na, os, ag, b, hb1, yes, no⟩ := hu
    have J1 : Inv X pins σ1 H1 sI := J0.ofTry ok
    have sky1 : Sky B (X.env :: X.outer) a (Zc cls d) X.env.locals s'.heap := hs ▸ sky
    refine Sky.land Zc.steady frm hf sky1 fun h3 fl3 up3 => ?_
    have J3 : Inv X pins σ1 H1 { s' with heap := h3 } := J1.landed nb fl3.1 (up.trans up3) os ag
    obtain ⟨oe3, vs3, get3, z3, data3⟩ := fl3.there
    have noframe : a ∉ frs X.stack := by
      rw [hs]
      intro hm
      obtain ⟨_, o', e', hnf⟩ := fl3.2.2.1.mem hm
      exact hnf _ ((Option.some.inj (get3.symm.trans e')) ▸ data3)
    have ap : Apart X pins a := apart_of J1 hx fl3.2.1 nb noframe
    have kin3 := J3.kIn
    have ofType : PySem.W.Looks (model X.prog X.w) h3 (typeOf (.ref a)) cls := fun A Q E s k q => wpAny_typeOf_ref (k _ _ get3) (z3.1.symm ▸ q)
    have match3 := PySem.W.exm_one (M := model X.prog X.w) kin3 ofType hb1
    have S3 : Inv (X.suite a (X.pn ++ pins)) [] σ1 H1 { s' with heap := h3 } := inv_in J3
    have named : ∀ {Q E : Value → Shared → Prop}, Q c { s' with heap := h3 } → wpAny (model X.prog X.w) (X.A.mark (some (.ref a))) (eval (.Name x np) X.env) Q E { s' with heap := h3 } := fun {Q E} q => by
      rcases hc with ⟨hg, hdbg, hm | ⟨hm, hv, hnn⟩⟩
      · exact ld_glob (X := X.suite a (X.pn ++ pins)) S3 hg hm q hdbg
      · exact ld_blt (X := X.suite a (X.pn ++ pins)) S3 hg hm hv q hnn hdbg
    refine wpAny_handleBy_cons (codeAny_handlers_test (named (match3.here ?_))) (fun z => by cases z)
    cases b with
    | false =>
      refine wpAny_handleBy_nil ?_
      obtain ⟨_, _, _, oe, vs, T, _, _, he, _, hd, h1, _⟩ := id fl3
      have up4 : wpAny (model X.prog X.w) X.A (setFlight (.ref a) X.env.frame) (fun _ s4 => wpAny (model X.prog X.w) X.A (throw (.ref a) : Sem Flow) (SP X pins D) X.xe s4) X.xe { s' with heap := h3 } := by
        rw [hf]
        exact HandSPX.setFlight_upZ fl3 fun h4 hh4 up4 => wpAny_throw (tk _ _ ⟨a, B, sI, pins, σ1, H1, cls, d, rfl, J1, nb, (up.trans up3).trans up4, .inr (.inr (hs.symm ▸ hh4)), na, os, ag, no rfl⟩)
      unfold PySem.passOn
      refine wpAny_bind (wpAny_field he hd h1 ?_)
      rw [if_neg (show ¬ ((Value.ref T == Value.none) = true) by simp)]
      first
        | exact wpAny_bind (wpAny_pure (wpAny_bind up4))
        | exact wpAny_bind up4
    | true =>
      refine codeAny_handlers_suite_as (HandSPX.lands_againZ fl3 fun h4 fl4 up4 => ?_)
      have J4 : Inv X pins σ1 H1 { s' with heap := h4 } := J1.landed nb fl4.1 ((up.trans up3).trans up4) os ag
      obtain ⟨oe4, vs4, get4, z4, data4⟩ := fl4.there
      have S4 : Inv (X.suite a (X.pn ++ pins)) [] σ1 (L2.upd H1 a (ExB cls d a)) { s' with heap := h4 } := inv_in (inv_reg J4 ap na get4 z4 data4)
      refine store_ok (X := X.suite a (X.pn ++ pins)) (v := .ref a) S4 hN hi own rfl (fun s5 S5 => ?_) (.inr hln)
      have run := (hsu a (X.pn ++ pins)).run [] s5 _ _ (gone i D) S5 (yes rfl a na)
      refine wpAny_mono run (fun f s6 q6 => ?_) (fun _ _ z => z.elim)
      have leave : ∀ {σ6 : L2.St} {H6 : Hp} {Q : Shared → Prop}, Inv (X.suite a (X.pn ++ pins)) [] σ6 H6 s6 → (∀ s7, Inv X pins (σ6.set i none) H6 s7 → Q s7) →
          wpAny (model X.prog X.w) X.A (do bindName X.env n .none; unbindBehindTheSuite X.env n pos') (fun _ s7 => Q s7) X.xe s6 := fun S6 q => gone_ok (inv_out S6 ok) hN hi hln q
      cases f with
      | next =>
        obtain ⟨σ6, H6, S6, q⟩ := q6
        exact leave S6 fun s7 J7 => ⟨_, _, J7, q⟩
      | brk =>
        obtain ⟨σ6, H6, S6, q⟩ := q6
        exact leave S6 fun s7 J7 => ⟨_, _, J7, q⟩
      | cont =>
        obtain ⟨σ6, H6, S6, q⟩ := q6
        exact leave S6 fun s7 J7 => ⟨_, _, J7, q⟩
      | ret u =>
        obtain ⟨v6, σ6, H6, S6, r6, q⟩ := q6
        exact leave S6 fun s7 J7 => ⟨_, _, _, J7, r6, q⟩
  refine wpAny_Try_except (wpAny_mono ((hb (wReg X.K c i ts Wout D) (X.pn ++ pins) _ air PassesOwn.looking).run [] s σ H D (I.toTry _) h) (fun f s1 q1 => ?_) fun e s1 he => he)
  cases f with
  | next =>
    obtain ⟨σ1, H1, J1, q⟩ := q1
    exact wpAny_execs_nil ⟨_, _, J1.ofTry ok, q⟩
  | brk =>
    obtain ⟨σ1, H1, J1, q⟩ := q1
    exact ⟨_, _, J1.ofTry ok, q⟩
  | cont =>
    obtain ⟨σ1, H1, J1, q⟩ := q1
    exact ⟨_, _, J1.ofTry ok, q⟩
  | ret u =>
    obtain ⟨v, σ1, H1, J1, r, q⟩ := q1
    exact ⟨_, _, _, J1.ofTry ok, r, q⟩
end

/-! ### over data -/
theorem SlotsOk.none {K : PySem.W.Frag} {m : Sto} {H : Hp} {σ : L2.St} {δ : List (Option D)} (h : SlotsOk K m H σ δ) (i : Nat) : SlotsOk K m H (σ.set i none) (δ.set i none) := by
  refine ⟨by rw [List.length_set, List.length_set, h.1], fun j d k => ?_⟩
  by_cases hj : i = j
  · subst hj
    rw [List.getElem?_set, if_pos rfl] at k
    split at k <;> cases k
  · rw [List.getElem?_set_ne hj] at k
    obtain ⟨v, a, b⟩ := h.2 j d k
    exact ⟨v, by rw [List.getElem?_set_ne hj]; exact a, b⟩
def dRaise (C : Addr) : DS := fun _ δ m => δ.x δ.s C none m
/-- the ends behind a try, whose wish of exceptions was x -/
def DEnds.wish (P : DEnds) (x : List (Option D) → DX) : DEnds := ⟨fun δ m => P.nx ⟨δ.s, x⟩ m, P.rt, fun δ m => P.bk ⟨δ.s, x⟩ m, fun δ m => P.ct ⟨δ.s, x⟩ m⟩
/-- .. behind an except suite whose name lay in slot i -/
def DEnds.gone (P : DEnds) (i : Nat) : DEnds := ⟨fun δ m => P.nx ⟨δ.s.set i none, δ.x⟩ m, P.rt, fun δ m => P.bk ⟨δ.s.set i none, δ.x⟩ m, fun δ m => P.ct ⟨δ.s.set i none, δ.x⟩ m⟩
/-- try: b except c as (slot i): su; every exception that comes is one of cs -/
def dTry (cs : List Addr) (i : Nat) (b su : DS) : DS := fun P δ m =>
  b (P.wish δ.x) ⟨δ.s, fun s' C fs m' => fs = none ∧ C ∈ cs ∧ ∀ a, m' a = none → su (P.gone i) ⟨s'.set i (some (.ptr a)), δ.x⟩ (up m' a (.raw (ExB (.ref C) none a)))⟩ m
/-- isinstance(a, c), a a caught exception -/
def isExD (c : D) (tab : List (Addr × Bool)) : OL := fun ds m R => ∃ a C b, ds = [.ptr a, c] ∧ m a = some (.raw (ExB (.ref C) none a)) ∧ (C, b) ∈ tab ∧ R (.bl b) m
section
variable {X : Cx} {Y : XS} {W : WX} {e : Expr} {pos : Pos}
theorem pds_raise {C : Addr} (hc : X.calm = true) (tk : Takes X W) (he : PMk X e (fun _ H Q => Q (.ref C) none H)) (hW : ∀ σ cls d H, Y σ cls d H → W cls d σ H := by exact fun _ _ _ _ z => z) : PDS X Y (.Raise (some e) none pos) (dRaise C) :=
  ⟨ps_weak (ps_raise hc tk he) fun E σ H ⟨δ, m, P, en, st, h, k⟩ => hW _ _ _ _ (en.2 σ δ.s C none m H none h Ext.rfl st en.1 trivial)⟩
theorem pds_try {x n : Str} {c : Value} {i : Nat} {cs : List Addr} {body suite : List Stmt} {st0 : Stmt} {np pos' : Pos} {b su : DS} (hs : X.stack = X.env :: X.outer) (hf : X.env.frame = some X.env.locals) (hx : X.ex = []) (hN : X.N.Nodup) (hi : X.N[i]? = some n) (hln : X.env.kindOf n = some .local) (hc : Names X x c)
    (tk : Takes X W) (hcs : ∀ C ∈ cs, PySem.W.exmOne X.K (.ref C) c = some true)
    (hb : ∀ (W : WX) (pn : List (Addr × Obj)) (xe : Value → Shared → Prop), Takes (X.tr pn xe) W → PassesOwn (model X.prog X.w) X.A X.env xe → PDSs (X.tr pn xe) (WE W) body b)
    (hsu : ∀ (a : Addr) (pn : List (Addr × Obj)), PDSs (X.suite a pn) Y (st0 :: suite) su) :
    PDS X Y (.Try body [.ExceptHandler (some (.Name x np)) (some n) (st0 :: suite) pos'] [] [] pos) (dTry cs i b su) :=
  ⟨ps_weak (ps_try_reg (tb := fun W => lS X.K (WE W) b) (ts := fun _ => lS X.K Y su) hs hf hx hN hi hln hc tk (fun W pn xe t p => (hb W pn xe t p).ps) fun a pn => (hsu a pn).ps) fun E σ H ⟨δ, m, P, en, st, h, k⟩ => by
    unfold dTry at h
    refine ⟨_, m, P.wish δ.x, ⟨?_, ?_⟩, st, h, ⟨?_, ?_, ?_, k.rt⟩⟩
    · exact en.1
    · intro σ' s' C fs m' H' dd hq ex st' sl xr
      obtain ⟨rfl, hC, hq⟩ := hq
      have ed : dd = none := by
        cases dd with
        | none => rfl
        | some z => exact (xr : False).elim
      subst ed
      refine ⟨true, hcs C hC, fun _ a ha => ?_, fun z => by cases z⟩
      have exa : Ext m' H' (up m' a (.raw (ExB (.ref C) none a))) (L2.upd H' a (ExB (.ref C) none a)) := ext_add ha
      have ex2 := ex.trans exa
      refine ⟨⟨s'.set i (some (.ptr a)), δ.x⟩, _, P.gone i, ⟨(sl.ext exa).set i (.ptr a), en.2.on ex2⟩, sto_at st' exa upd_same, hq a (st'.free ha), ⟨?_, ?_, ?_, ?_⟩⟩
      · exact fun σ2 H2 δ2 m2 q e2 n2 s2 => k.nx _ _ _ _ q (ex2.trans e2) ⟨n2.1.none i, n2.2⟩ s2
      · exact fun σ2 H2 δ2 m2 q e2 n2 s2 => k.bk _ _ _ _ q (ex2.trans e2) ⟨n2.1.none i, n2.2⟩ s2
      · exact fun σ2 H2 δ2 m2 q e2 n2 s2 => k.ct _ _ _ _ q (ex2.trans e2) ⟨n2.1.none i, n2.2⟩ s2
      · exact fun v H2 d m2 q e2 => k.rt v H2 d m2 q (ex2.trans e2)
    · exact fun σ2 H2 δ2 m2 q e2 n2 s2 => k.nx _ _ ⟨δ2.s, δ.x⟩ _ q e2 ⟨n2.1, en.2.on e2⟩ s2
    · exact fun σ2 H2 δ2 m2 q e2 n2 s2 => k.bk _ _ ⟨δ2.s, δ.x⟩ _ q e2 ⟨n2.1, en.2.on e2⟩ s2
    · exact fun σ2 H2 δ2 m2 q e2 n2 s2 => k.ct _ _ ⟨δ2.s, δ.x⟩ _ q e2 ⟨n2.1, en.2.on e2⟩ s2⟩
end
/-! ### isinstance of a caught exception -/
section
variable {K : PySem.W.Frag}
theorem kit1 {C C' : Addr} {b : Bool} (hc : (PySem.W.clsIn K C').isSome = true) (ht : PySem.W.typeIn K (.ref C') = some (.type "type")) (hs : PySem.W.subIn K (.ref C) (.ref C') = some b) (hr : PySem.W.subIn K (.ref C) (.ref C) = some true) : PySem.W.kitOne K (.ref C) (.ref C') = some b := by
  unfold PySem.W.kitOne
  by_cases e : C = C'
  · subst e
    rw [hs] at hr
    rw [if_pos (by simp), ← hr]
  · rw [if_neg (fun z => e (Value.ref.inj (beq_iff_eq.mp z)))]
    show (if ((PySem.W.clsIn K C').isSome && PySem.W.typeIn K (.ref C') == some (.type "type")) = true then PySem.W.subIn K (.ref C) (.ref C') else none) = some b
    rw [hc, ht, if_pos (by rfl)]
    exact hs
theorem kit2 {C : Addr} {n : String} {b : Bool} (hm : PySem.W.kitMeta n = true) (hs : PySem.W.subIn K (.ref C) (.type n) = some b) : PySem.W.kitOne K (.ref C) (.type n) = some b := by
  unfold PySem.W.kitOne
  rw [if_neg (fun z => by cases beq_iff_eq.mp z)]
  show (if PySem.W.kitMeta n = true then PySem.W.subIn K (.ref C) (.type n) else none) = some b
  rw [if_pos hm]
  exact hs
theorem kitN {t : Value} : ∀ {cs : List Addr}, (∀ c ∈ cs, PySem.W.kitOne K t (.ref c) = some false) → PySem.W.kitAny K t (cs.map Value.ref) = some false
  | [], _ => rfl
  | c :: r, h => by
    show (match PySem.W.kitOne K t (.ref c) with
      | some true => some true
      | some false => PySem.W.kitAny K t (r.map Value.ref)
      | none => none) = some false
    rw [h c List.mem_cons_self]
    exact kitN fun c hc => h c (List.mem_cons_of_mem _ hc)
theorem exm1 {C C' : Addr} {b : Bool} (hb : PySem.W.subIn K (.ref C') (.type "BaseException") = some true) (hc : (PySem.W.clsIn K C').isSome = true) (ht : PySem.W.typeIn K (.ref C') = some (.type "type")) (hs : PySem.W.subIn K (.ref C) (.ref C') = some b) : PySem.W.exmOne K (.ref C) (.ref C') = some b := by
  unfold PySem.W.exmOne
  rw [hb, if_pos (by rfl)]
  show (if ((PySem.W.clsIn K C').isSome && PySem.W.typeIn K (.ref C') == some (.type "type")) = true then PySem.W.subIn K (.ref C) (.ref C') else none) = some b
  rw [hc, ht, if_pos (by rfl)]
  exact hs
end
section
variable {X : Cx}
theorem exB_at {pins : List (Addr × Obj)} {σ : L2.St} {H : Hp} {s : Shared} {a C : Addr} (I : Inv X pins σ H s) (h : H a = some (ExB (.ref C) none a)) : ∃ oe, PySem.W.InstAt s.heap a oe C none := by
  obtain ⟨⟨oe, vs, g, z, d⟩, _, _⟩ := I.hok a _ h
  obtain ⟨oc, od, oda, osl⟩ := oe
  obtain ⟨h1, h2⟩ := z
  dsimp only at h1 h2 d
  subst h1 h2 d
  exact ⟨_, g, rfl, rfl, trivial⟩
theorem tup_at {pins : List (Addr × Obj)} {σ : L2.St} {H : Hp} {s : Shared} {a : Addr} {xs : List V} (I : Inv X pins σ H s) (h : SqT X.K H a xs) : ∃ dd its n sl, s.heap.get? a = some ⟨.type "tuple", dd, .seq (its : List Value).toArray n, sl⟩ ∧ Vals xs its := by
  have go : ∀ o : Obj, s.heap.get? a = some o → ∀ its : List Value, Vals xs its → o.cls = .type "tuple" → (∃ n, o.data = .seq its.toArray n) → ∃ dd its n sl, s.heap.get? a = some ⟨.type "tuple", dd, .seq (its : List Value).toArray n, sl⟩ ∧ Vals xs its := fun o g its rv h1 h2 => by
    obtain ⟨n, h2⟩ := h2
    obtain ⟨oc, od, dt, sl⟩ := o
    dsimp only at h1 h2
    subst h1 h2
    exact ⟨od, its, n, sl, g, rv⟩
  rcases h with (h | ⟨ob, h⟩) | ⟨o, its, n, h1, h2, h3, _, rv⟩
  · obtain ⟨_, its, rv, o, q1, q2, q3⟩ := (show ObjOk X.prog X.w H s.heap a (.tup xs) from I.hok a _ h)
    exact go o q1 its rv q2 q3
  · obtain ⟨_, _, its, rv, o, q1, q2, q3⟩ := (show ObjOk X.prog X.w H s.heap a (.frz ob (.tup xs)) from I.hok a _ h)
    exact go o q1 its rv q2 q3
  · exact go o (I.kIn _ _ h1) its.toList rv h2 ⟨n, by simpa using h3⟩
theorem refsV {K : PySem.W.Frag} {m : Sto} {H : Hp} : ∀ {cs : List Addr} {vs : List V}, RpL K m H vs (cs.map D.ptr) → ∀ {us : List Value}, Vals vs us → us = cs.map Value.ref
  | [], _, .nil, _, .nil => rfl
  | c :: cs, _, .cons r1 r2, _, .cons k1 k2 => by
    cases r1
    rw [refsV r2 k2]
    rw [show _ = Value.ref c from k1]
    rfl
theorem kitx_of {C a : Addr} {oe : Obj} (E : ExcC X.K C) : PySem.W.KitX X.K (.ref a) (.ref C) (fun h => PySem.W.InstAt h a oe C none) := PySem.W.handS_kitx_exc E.hg E.hk E.hs E.hd E.ha E.hn E.ht E.hm
theorem cd_isEx {c : D} {cv : Value} {tab : List (Addr × Bool)} (hcv : ∀ (m : Sto) (H : Hp) (v : V) (u : Value), Rp X.K m H v c → RelV v u → u = cv) (h : ∀ p ∈ tab, ExcC X.K p.1 ∧ PySem.W.kitOne X.K (.ref p.1) cv = some p.2) : CallD X (.builtin "isinstance") (isExD c tab) :=
  ⟨by
    intro pins s σ H xs us Q I r ⟨m, ds, R, rl, st, hq, k⟩
    obtain ⟨a, C, b, rfl, h1, h2, h3⟩ := hq
    obtain ⟨v, w, rfl, r1, r2⟩ := rl.two
    obtain ⟨u1, u2, rfl, k1, k2⟩ := vals2 r
    cases r1
    cases (show u1 = Value.ref a from k1)
    have e := hcv _ _ _ _ r2 k2
    subst e
    obtain ⟨hE, hk⟩ := h _ h2
    obtain ⟨oe, J⟩ := exB_at I (st a _ h1)
    exact PySem.W.kia_one (kitx_of hE) I.kIn J hk (fun z => nomatch z) fun tk => ⟨.bl b, H, I.tok tk, rfl, k _ _ _ _ h3 Ext.rfl st (.bl b)⟩⟩
theorem cd_isEx1 {C' : Addr} {tab : List (Addr × Bool)} (h : ∀ p ∈ tab, ExcC X.K p.1 ∧ PySem.W.kitOne X.K (.ref p.1) (.ref C') = some p.2) : CallD X (.builtin "isinstance") (isExD (.ptr C') tab) :=
  cd_isEx (fun _ _ v u r k => by cases r; exact k) h
theorem cd_isExY {n : String} {tab : List (Addr × Bool)} (h : ∀ p ∈ tab, ExcC X.K p.1 ∧ PySem.W.kitOne X.K (.ref p.1) (.type n) = some p.2) : CallD X (.builtin "isinstance") (isExD (.ty n) tab) :=
  cd_isEx (fun _ _ v u r k => by cases r; exact k) h
theorem cd_isExT {cs : List Addr} {tab : List (Addr × Bool)} (h : ∀ p ∈ tab, ExcC X.K p.1 ∧ PySem.W.kitAny X.K (.ref p.1) (cs.map Value.ref) = some p.2) : CallD X (.builtin "isinstance") (isExD (.tup (cs.map D.ptr)) tab) :=
  ⟨by
    intro pins s σ H xs us Q I r ⟨m, ds, R, rl, st, hq, k⟩
    obtain ⟨a, C, b, rfl, h1, h2, h3⟩ := hq
    obtain ⟨v, w, rfl, r1, r2⟩ := rl.two
    obtain ⟨u1, u2, rfl, k1, k2⟩ := vals2 r
    cases r1
    cases (show u1 = Value.ref a from k1)
    obtain ⟨tp, vs, rfl, sq, rl2⟩ := r2.tupV
    cases (show u2 = Value.ref tp from k2)
    obtain ⟨dd, its, n, sl, g, rv⟩ := tup_at I sq
    have e := refsV rl2 rv
    subst e
    obtain ⟨hE, hk⟩ := h _ h2
    obtain ⟨oe, J⟩ := exB_at I (st a _ h1)
    exact PySem.W.kia_tup (kitx_of hE) I.kIn J g hk (fun z => nomatch z) fun tk => ⟨.bl b, H, I.tok tk, rfl, k _ _ _ _ h3 Ext.rfl st (.bl b)⟩⟩
end
end Dl

/-! The data layer: a lambda without parameters that a def gets and calls. -/
namespace Dl
open PySem PySem.Spec PyProof.Rows L2
/-- a call that lets nothing out, of a def that might -/
theorem passAtL {X : Cx} {σ : L2.St} : PassesAt (L2.CX X.prog X.w) X σ E0 := fun _ _ _ _ _ _ h => by
  obtain ⟨_, _, _, _, _, _, _, _, _, _, _, _, z⟩ := h
  exact z.elim
theorem room_big {k : Nat} {A : Around} (r : Room k A) : A.units + 100 < cLine := by have := r.un; omega
section
variable {X : Cx} {pins : List (Addr × Obj)} {σ : L2.St} {H : Hp} {s : Shared} {m : Sto}
/-- a lambda is made -/
theorem lam_d {c P : Addr} {params : Arguments} {body : Expr} {scope : Scope} {pos : Pos} {E Q : Value → Shared → Prop} (I : Inv X pins σ H s) (st : StoOk X.K m H) (hP : m P = some (.tab (X.env.qual ++ "<lambda>"))) (TB : LamX.TabB X.base X.mg c P) (hcode : X.env.code = .ref c)
    (hdef : defaultsOf params X.env = ([], [])) (hfree : ∀ y ∈ scope.names, y.2 = .free → ∃ c, X.env.cells.lookup y.1 = some c)
    (h : ∀ (f c' : Addr) (pm ctv : Value) (H1 : Hp) (s' : Shared), Inv X pins σ H1 s' → Ext m H m H1 → StoOk X.K m H1 →
      s'.heap.get? f = some (PySem.W.kla_obj "<lambda>" (X.env.qual ++ "<lambda>") params body scope (cloFrom X.env.cells scope.names []) pm c' ctv) → H1 f = none → f ∉ frs X.stack → m c' = none → H1 c' = some (LamX.CodeO c' (X.env.qual ++ "<lambda>")) → Q (.ref f) s') :
    wpAny (model X.prog X.w) X.A (eval (.Lambda params body scope pos) X.env) Q E s := by
  obtain ⟨ps, atP, tri, among⟩ := st P _ hP
  have bP : s.heap.BuiltinsAt X.mg P := TB.bm.keeps I.bk
  have getP : s.heap.get? P = some { cls := .none, data := .fields ps } := I.hok P _ atP
  have noframe : ∀ f, s.heap.objs.size ≤ f → f ∉ frs X.stack := fun f hf z => (List.mem_cons.mp (I.stkSub _ z)).elim (fun e => by
    have l := I.lt
    rw [← e] at l
    exact absurd (Nat.lt_of_lt_of_le l hf) (Nat.lt_irrefl _)) fun e => I.nofs hf e
  refine PySem.W.kla_eval hdef ?_
  cases hc : codeAmong pos ps.toList with
  | some cv =>
    obtain ⟨c', e, n1, n2⟩ := among pos cv hc
    subst e
    exact PySem.W.kla_makeFunctionHit (mg := X.mg) (c := c) (P := P) (ps := ps) (closure_ok hfree) I.ok.glob (I.mod.glob.keeps I.bk) hcode (TB.code.keeps I.bk) getP tri hc bP fun ctv h' tk hx hsz =>
      h h'.objs.size c' ((X.mg "__name__").getD .none) ctv H _ (I.kept fun b o e => Heap.get?_push_of_some _ (hx b o e)) Ext.rfl st (Heap.get?_push_size _ rfl) (I.hok.fresh hsz) (noframe _ hsz) n1 n2
  | none =>
    refine PySem.W.kla_makeFunction (mg := X.mg) (c := c) (P := P) (ps := ps) (closure_ok hfree) I.ok.glob (I.mod.glob.keeps I.bk) hcode (TB.code.keeps I.bk) getP tri hc TB.gP bP fun c' ctv h' tk hx hge hlt hrec htb => ?_
    obtain ⟨c2, oc, vs, t, ec, hoc, hd, hv⟩ := hrec
    cases ec
    have size : s.heap.objs.size ≤ h'.objs.size := by omega
    have free : H c' = none := I.hok.fresh hge
    have neP : ∀ b o, m b = none → H b = some o → b ≠ P := fun b o n _ z => by
      rw [z, hP] at n
      cases n
    generalize hm : #[rawInt pos.line, rawInt pos.col, Value.ref c'] = more at htb
    have at_ : ∀ b o, b ≠ P → H b = some o → L2.upd (L2.upd H P (.tbl (ps ++ more))) c' (LamX.CodeO c' (X.env.qual ++ "<lambda>")) b = some o := fun b o hb e => by
      rw [upd_ne (ne_of_none e free), upd_ne hb]
      exact e
    have J := LamX.inv_table (t' := tk) (q := X.env.qual ++ "<lambda>") (more := more) (h' := h'.push (PySem.W.kla_obj "<lambda>" (X.env.qual ++ "<lambda>") params body scope (cloFrom X.env.cells scope.names []) ((X.mg "__name__").getD .none) c' ctv)) I atP
      (fun b o hb e => Heap.get?_push_of_some _ (hx b o hb e)) (Heap.get?_push_of_some _ htb) hge ⟨oc, vs, t, Heap.get?_push_of_some _ hoc, hd, hv⟩
    have ex : Ext m H m (L2.upd (L2.upd H P (.tbl (ps ++ more))) c' (LamX.CodeO c' (X.env.qual ++ "<lambda>"))) := fun b o n e => ⟨n, at_ b o (neP b o n e) e⟩
    have mc : m c' = none := st.free free
    have toL : (ps ++ more).toList = ps.toList ++ [rawInt pos.line, rawInt pos.col, .ref c'] := by rw [← hm]; simp
    refine h h'.objs.size c' ((X.mg "__name__").getD .none) ctv _ _ J ex (fun a u e => ?_) (Heap.get?_push_size _ rfl) ?_ (noframe _ size) mc upd_same
    · by_cases ha : a = P
      · subst ha
        rw [hP] at e
        cases e
        refine ⟨ps ++ more, by rw [upd_ne (ne_of_none atP free), upd_same], by rw [toL]; exact PySem.TriplesOk_snoc _ _ _ _ tri, fun p' cv hcv => ?_⟩
        rw [toL] at hcv
        rcases LamX.among_app _ tri hcv with z | z
        · obtain ⟨c0, e1, e2, e3⟩ := among p' cv z
          exact ⟨c0, e1, e2, (ex c0 _ e2 e3).2⟩
        · exact ⟨c', z, mc, upd_same⟩
      · exact (st a u e).on ex fun o z => at_ a o ha z
    · have n1 : h'.objs.size ≠ c' := by omega
      have n2 : h'.objs.size ≠ P := Nat.ne_of_gt (Nat.lt_of_lt_of_le (Heap.lt_size getP) size)
      rw [upd_ne n1, upd_ne n2]
      exact I.hok.fresh size
end

/-! ### asked(), in the def that got the lambda -/
section
variable {X : Cx} {pins : List (Addr × Obj)} {σ : L2.St} {H : Hp} {s : Shared}
abbrev wordCx (X : Cx) (Ng : List Str) (qg : Str) (sg : Scope) (g : Addr) (cdg : Value) (s : Shared) (H : Hp) : Cx := cxOf CX0 X.prog X.w X.K X.mg X.base Ng qg sg g cdg X.A X.stack s H E0
theorem pe_ask {Ng : List Str} {qg : Str} {sg : Scope} {g f c' : Addr} {cdg pm ctv : Value} {params : Arguments} {body : Expr} {scope : Scope} {k i : Nat} {a : Str} {pn : List (Addr × Obj)} {xe : Value → Shared → Prop} {Y : XS} {tb : XK → TE} {p1 p2 : Pos}
    (I : Inv X pins σ H s) (L : LamX.LamS X.env.scope scope) (hf : s.heap.get? f = some (PySem.W.kla_obj "<lambda>" (X.env.qual ++ "<lambda>") params body scope (cloFrom X.env.cells scope.names []) pm c' ctv)) (hfn : H f = none) (hfr : f ∉ frs X.stack)
    (hbind : bindArgs (PySem.W.kla_fn "<lambda>" (X.env.qual ++ "<lambda>") params body scope (cloFrom X.env.cells scope.names []) pm (.ref c') ctv) ⟨[], []⟩ = pure [])
    (hp : ∀ σ, PassesAt (L2.CX X.prog X.w) ((wordCx X Ng qg sg g cdg s H).tr pn xe) σ (Y σ)) (hr : Room (k + 1) (X.A.deeper (envOfC qg sg s.heap.objs.size g cdg))) (hg : X.A.guards = some [])
    (hbody : ∀ (E : XK) (A : Around) (outer : List Env) (s : Shared) (H : Hp), Room k (A.deeper (LamX.lamEnv X scope s.heap.objs.size f c')) → A.guards = some [] → PE (LamX.lamCx X A outer s H E scope f c') body (tb E))
    (hN : Ng[i]? = some a) (hv : Vis sg a) (hd : (a == ("__debug__" : Str)) = false := by decide) (hcd : (a == ("__classdict__" : Str)) = false := by decide) :
    PE ((wordCx X Ng qg sg g cdg s H).tr pn xe) (.Call (.Name a p1) [] [] p2) (fun σZ HZ Q => σZ[i]? = some (some (.ref f)) ∧ HZ c' = some (LamX.CodeO c' (X.env.qual ++ "<lambda>")) ∧ tb (Y σZ) σ HZ Q) := by
  refine ⟨fun pinsZ sZ σZ HZ Q IZ ⟨slot, code, run⟩ => ?_⟩
  refine wpAny_Call_Name_kw (thn ((pe_var (pos := p1) (i := i) hN hv hd hcd).run pinsZ sZ σZ HZ (fun v H1 => v = .ref f ∧ H1 = HZ) IZ ⟨.ref f, slot, rfl, rfl⟩) fun u s1 ⟨v, H1, J, r1, e1, e2⟩ => ?_)
  subst e1 e2
  cases (show u = Value.ref f from r1)
  have un : Un (frs X.stack) [] H H1 s.heap s1.heap := J.base
  have there : s1.heap.get? f = some (PySem.W.kla_obj "<lambda>" (X.env.qual ++ "<lambda>") params body scope (cloFrom X.env.cells scope.names []) pm c' ctv) := un.keep f _ hf hfn hfr (by simp)
  obtain ⟨⟨oc, vs, t, hoc, hdc, hvc⟩, _, _⟩ := J.hok c' _ code
  have inside : codeAny (model X.prog X.w) (X.A.deeper (envOfC qg sg s.heap.objs.size g cdg)) (.call (.ref f) ⟨[], []⟩) (CR (L2.CX X.prog X.w) (envOfC qg sg s.heap.objs.size g cdg :: X.stack) X.prog X.w H1 s1 Q (Y σZ)) s1 := by
    refine PySem.W.kla_callFunE hr.depth there rfl L.co L.gen rfl ⟨c', oc, vs, t, rfl, hoc, hdc, hvc⟩ ?_
    rw [hbind]
    refine wpAny_pure (wpAny_newFunctionEnv (fun y hy => (L.own y hy).2) (fun y hy => absurd hy (by simp)) (fun h₁ hns hsb => ⟨J.nolimit.fresh _ hsb, ?_⟩) L.kind)
    have kp : ∀ b o, s1.heap.get? b = some o → h₁.get? b = some o := fun b o e => hsb.extBut b o (Nat.ne_of_lt (Heap.lt_size e)) (Heap.get?_push_of_some _ e)
    have J2 := LamX.lam_start2 (E := Y σZ) (f := f) (c' := c') (tk := s1.toks + ([] : List (Str × Value)).length) I L J.env0 hr.hd un hns kp
    refine PySem.W.kla_codeExpr (wpAny_mono ((hbody (Y σZ) _ _ s1 H1 (hr.deeper _) hg).run [] _ _ H1 Q J2 run) (fun v s' ⟨w', H', J', rv, q⟩ => ?_) fun e s' z => z)
    exact ⟨w', H', J'.os, J'.bare, J'.base, J'.hok, rv, q⟩
  refine PySem.W.callWith_F0 ⟨_, _, _, _, there⟩ (wpAny_call (codeAny_mono inside fun r s' hq => ?_))
  match r, hq with
  | .error e, hq => exact hp σZ pinsZ H1 s1 e s' J hq
  | .ok (.ret u), hq => exact J.after hq
/-- the lambda at f (its code at c', its slots then: ds), called; P: the table of the def that made it -/
def dAsk (f P c' : Addr) (q : Str) (vs : L2.St) (ds : List (Option D)) (body : DE) : DE := fun δ m R => δ.s[0]? = some (some (.ptr f)) ∧ m P = some (.clo q c' vs ds) ∧ body ⟨ds, fun _ => δ.x δ.s⟩ m R
theorem dAsk_low {K : PySem.W.Frag} {Y : XS} {f P c' : Addr} {q : Str} {ds : List (Option D)} {body : DE} {σZ : L2.St} {HZ : Hp} {Q : VK} (h : lE K Y (dAsk f P c' q σ ds body) σZ HZ Q) :
    σZ[0]? = some (some (.ref f)) ∧ HZ c' = some (LamX.CodeO c' q) ∧ lE K (fun _ => Y σZ) body σ HZ Q := by
  obtain ⟨δ, m, R, en, st, ⟨h1, h2, h3⟩, k⟩ := h
  obtain ⟨v, e, r⟩ := en.1.2 0 _ h1
  cases r
  obtain ⟨_, _, g1, g2⟩ := st P _ h2
  exact ⟨e, g1, _, m, R, ⟨g2, fun σ' s' C fs m' H' dd q ex st' _ xr => en.2 σZ δ.s C fs m' H' dd q ex st' (en.1.ext ex) xr⟩, st, h3, k⟩
theorem ext_swap {m : Sto} {H : Hp} {P : Addr} {u u' : MO} (h : m P = some u) : Ext m H (up m P u') H := fun b o n e => by
  refine ⟨?_, e⟩
  rw [up_ne fun z => by rw [z, h] at n; cases n]
  exact n
theorem sto_swap {K : PySem.W.Frag} {m : Sto} {H : Hp} {P : Addr} {u u' : MO} (st : StoOk K m H) (h : m P = some u) (g : MoOk K (up m P u') H P u') : StoOk K (up m P u') H := fun a w e => by
  by_cases ha : a = P
  · subst ha
    rw [up_same] at e
    cases e
    exact g
  · rw [up_ne ha] at e
    exact (st a w e).on (ext_swap h) fun _ z => z
/-- x(lambda: body); rw: the reading of x's body, from that of the call of what it got -/
@[irreducible] def dWord (rw : DE → DS) (n : Nat) (P : Addr) (q : Str) (body : DE) : DE := fun δ m R => m P = some (.tab q) ∧ ∀ f c' vs,
  rw (dAsk f P c' q vs δ.s body) { nx := fun _ m' => m' P = some (.clo q c' vs δ.s) ∧ R .non (up m' P (.tab q)), rt := fun d m' => m' P = some (.clo q c' vs δ.s) ∧ R d (up m' P (.tab q)) } ⟨some (.ptr f) :: List.replicate n none, fun _ _ _ _ => False⟩ (up m P (.clo q c' vs δ.s))
theorem pd_word {Y : XS} {x a : Str} {g c P : Addr} {k n : Nat} {pg : Arguments} {bg : List Stmt} {sg : Scope} {dV kV doc pm cdv ct oc : Value} {an od : Option Addr} {osl : Array (Option Value)} {Ng : List Str} {rw : DE → DS} {dbody : DE}
    {params : Arguments} {body : Expr} {scope : Scope} {p lpos pos : Pos} (hgl : Gl X x) (hm : X.mg x = some (.ref g)) (hk : PySem.W.keepIn X.K (.ref g) = true)
    (lk : X.K.lookup g = some ⟨oc, od, .func (PySem.W.fnOf x x pg bg sg dV kV doc pm an cdv ct), osl⟩) (hcg : PySem.W.codeIn X.K cdv x = true) (hb : L2.Binds X.K (PySem.W.fnOf x x pg bg sg dV kV doc pm an cdv ct) [a] []) (Sg : FnScope Ng [a] sg) (hNl : Ng.length = n + 1) (hNg : Ng[0]? = some a) (hva : Vis sg a)
    (hG : ∀ (f c' : Addr) (s : Shared) (H : Hp) (dX : DE), Room (k + 1) (X.A.deeper (envOfC x sg s.heap.objs.size g cdv)) → (∀ (pn : List (Addr × Obj)) (xe : Value → Shared → Prop) (Y : XS) (p1 p2 : Pos), (∀ σ, PassesAt (L2.CX X.prog X.w) ((wordCx X Ng x sg g cdv s H).tr pn xe) σ (Y σ)) →
      PD ((wordCx X Ng x sg g cdv s H).tr pn xe) Y (.Call (.Name a p1) [] [] p2) dX) → PDSs (wordCx X Ng x sg g cdv s H).nox (fun _ => E0) bg (rw dX))
    (TB : LamX.TabB X.base X.mg c P) (hcode : X.env.code = .ref c) (hr : Room (k + 2) X.A) (hg : X.A.guards = some []) (L : LamX.LamS X.env.scope scope) (hdef : defaultsOf params X.env = ([], []))
    (hbind : ∀ (q : Str) (cl : List (Str × Addr)) (pm cv ctv : Value), bindArgs (PySem.W.kla_fn "<lambda>" q params body scope cl pm cv ctv) ⟨[], []⟩ = pure [])
    (hbody : ∀ (E : XK) (A : Around) (outer : List Env) (s : Shared) (H : Hp) (f c' : Addr), Room k (A.deeper (LamX.lamEnv X scope s.heap.objs.size f c')) → A.guards = some [] → PD (LamX.lamCx X A outer s H E scope f c') (fun _ => E) body dbody)
    (hdb : (x == ("__debug__" : Str)) = false := by decide) (hd : (a == ("__debug__" : Str)) = false := by decide) (hcd : (a == ("__classdict__" : Str)) = false := by decide) :
    PD X Y (.Call (.Name x p) [.Lambda params body scope lpos] [] pos) (dWord rw n P (X.env.qual ++ "<lambda>") dbody) := by
  refine ⟨⟨fun pins s σ H Q I ⟨δ, m, R, en, st, hh, kk⟩ => ?_⟩⟩
  unfold dWord at hh
  obtain ⟨hP, h⟩ := hh
  refine wpAny_Call_Name_kw (ld_glob I hgl hm (PySem.W.callWith_K (h₀ := X.base) I.ok.mod.kin hk ?_ (by rfl) (by rfl)) hdb)
  show wpAny _ _ (spliced ((false, eval (.Lambda params body scope lpos) X.env) :: backTo pos (starEach [] X.env))) _ _ s
  refine Calls.spliced_cons (lam_d I st hP TB hcode hdef (L.has I.ok) fun f c' pm' ctv H1 s' J ex st1 hf hfn hfr mc hco => Calls.spliced_nil ⟨J.kIn, ?_⟩)
  have exc : Ext m H1 (up m P (.clo (X.env.qual ++ "<lambda>") c' σ δ.s)) H1 := ext_swap hP
  have st2 : StoOk X.K (up m P (.clo (X.env.qual ++ "<lambda>") c' σ δ.s)) H1 := sto_swap st1 hP ⟨(show TabOk m H1 P _ from st1 P _ hP).on exc fun _ z => z, (exc c' _ mc hco).1, hco, (en.1.ext ex).ext exc⟩
  have aft : ∀ (d : D) (m' : Sto) (H' : Hp) (v : V), m' P = some (.clo (X.env.qual ++ "<lambda>") c' σ δ.s) ∧ R d (up m' P (.tab (X.env.qual ++ "<lambda>"))) → Ext (up m P (.clo (X.env.qual ++ "<lambda>") c' σ δ.s)) H1 m' H' → StoOk X.K m' H' → Rp X.K m' H' v d → Q v H' := fun d m' H' v ⟨hp, hR⟩ ex' st' rp => by
    have sw : Ext m' H' (up m' P (.tab (X.env.qual ++ "<lambda>"))) H' := ext_swap hp
    exact kk v H' d _ hR (((ex.trans exc).trans ex').trans sw) (sto_swap st' hp ((st' P _ hp).1.on sw fun _ z => z)) (rp.ext sw)
  have inside : codeAny (model X.prog X.w) X.A (.call (.ref g) ⟨[.ref f], []⟩) (CR CX0 X.stack X.prog X.w H1 s' Q E0) s' := by
    refine LamX.run_ofS (N := Ng) (ps := [a]) (us := [.ref f]) (vs := [.ref f]) lk hcg Sg hr J.env0 (hb s' [.ref f] J.kIn rfl) (.cons rfl .nil) rfl fun hr' => ?_
    have body := hG f c' s' H1 (dAsk f P c' (X.env.qual ++ "<lambda>") σ δ.s dbody) hr' fun pn xe Y' p1 p2 hp => ⟨pe_weak (pe_ask (tb := fun E => lE X.K (fun _ => E) dbody) (i := 0) J L hf hfn hfr (hbind _ _ _ _ _) hp hr' hg (fun E A outer s H r g => (hbody E A outer s H f c' r g).pe) hNg hva hd hcd) fun _ _ _ => dAsk_low⟩
    refine ⟨_, body.ps.nox, ⟨⟨some (.ptr f) :: List.replicate n none, fun _ _ _ _ => False⟩, _, _, ⟨⟨?_, fun i d e => ?_⟩, fun _ _ _ _ _ _ _ z => z.elim⟩, st2, h f c' σ, ⟨fun σ' H' δ' m' q e2 _ s2 => aft .non m' H' .non q e2 s2 .non, fun _ _ _ _ z => z.elim, fun _ _ _ _ z => z.elim, fun v H' d m' q e2 s2 rp => aft d m' H' v q e2 s2 rp⟩⟩⟩
    · unfold L2.start
      simp [hNl]
    · unfold L2.start
      cases i with
      | zero =>
        cases e
        exact ⟨_, rfl, .ptr f⟩
      | succ j =>
        rw [List.getElem?_cons_succ, List.getElem?_replicate] at e
        split at e <;> cases e
  refine wpAny_call (codeAny_mono inside fun r s2 hq => ?_)
  match r, hq with
  | .error e, hq => exact (show False from hq).elim
  | .ok (.ret u), hq => exact J.after hq
theorem pd_wordF {Y : XS} {x a : Str} {g c P : Addr} {k n : Nat} {st : Stmt} {fd : FuncData} {Ng : List Str} {rw : DE → DS} {dbody : DE} {params : Arguments} {body : Expr} {scope : Scope} {p lpos pos : Pos}
    (F : Fun X.K x x st g fd) (hbF : Binds X.K fd [a] []) (Sg : FnScope Ng [a] (defScope st)) (hNl : Ng.length = n + 1) (hNg : Ng[0]? = some a) (hva : Vis (defScope st) a) (hgl : Gl X x) (hm : X.mg x = some (.ref g))
    (hG : ∀ (cdv : Value) (f c' : Addr) (s : Shared) (H : Hp) (dX : DE), Room (k + 1) (X.A.deeper (envOfC x (defScope st) s.heap.objs.size g cdv)) → (∀ (pn : List (Addr × Obj)) (xe : Value → Shared → Prop) (Y : XS) (p1 p2 : Pos), (∀ σ, PassesAt (L2.CX X.prog X.w) ((wordCx X Ng x (defScope st) g cdv s H).tr pn xe) σ (Y σ)) →
      PD ((wordCx X Ng x (defScope st) g cdv s H).tr pn xe) Y (.Call (.Name a p1) [] [] p2) dX) → PDSs (wordCx X Ng x (defScope st) g cdv s H).nox (fun _ => E0) (defBody st) (rw dX))
    (TB : LamX.TabB X.base X.mg c P) (hcode : X.env.code = .ref c) (hr : Room (k + 2) X.A) (hg : X.A.guards = some []) (L : LamX.LamS X.env.scope scope) (hdef : defaultsOf params X.env = ([], []))
    (hbind : ∀ (q : Str) (cl : List (Str × Addr)) (pm cv ctv : Value), bindArgs (PySem.W.kla_fn "<lambda>" q params body scope cl pm cv ctv) ⟨[], []⟩ = pure [])
    (hbody : ∀ (E : XK) (A : Around) (outer : List Env) (s : Shared) (H : Hp) (f c' : Addr), Room k (A.deeper (LamX.lamEnv X scope s.heap.objs.size f c')) → A.guards = some [] → PD (LamX.lamCx X A outer s H E scope f c') (fun _ => E) body dbody)
    (hdb : (x == ("__debug__" : Str)) = false := by decide) (hd : (a == ("__debug__" : Str)) = false := by decide) (hcd : (a == ("__classdict__" : Str)) = false := by decide) :
    PD X Y (.Call (.Name x p) [.Lambda params body scope lpos] [] pos) (dWord rw n P (X.env.qual ++ "<lambda>") dbody) := by
  obtain ⟨oc, od, kV, doc, pm, an, cdv, ct, osl, e, lk, hc⟩ := F.ex
  subst e
  exact pd_word hgl hm F.kp lk hc hbF Sg hNl hNg hva (hG cdv) TB hcode hr hg L hdef hbind hbody hdb hd hcd
end
end Dl

/-! The data layer: the law's own call where some defs make lambdas (tables of code objects). -/
namespace Dl
open PySem PySem.Spec PyProof.Rows L2

/-- the law, the tables ts ahead of it -/
def lawSpT (n : Nat) (ts : List (Addr × Str)) : DSp := fun ds m R _ => ∃ ns : List Int, ds = [.rl (ns.map D.int)] ∧ ns.length ≤ n ∧ (∀ p ∈ ts, m p.1 = some (.tab p.2)) ∧ ∀ m', R (.bl true) m'
theorem lookup_nodup : ∀ {ts : List (Addr × Str)} {p : Addr × Str}, (ts.map (·.1)).Nodup → p ∈ ts → ts.lookup p.1 = some p.2
  | (b, q) :: r, p, hn, hp => by
    rw [List.map_cons, List.nodup_cons] at hn
    rcases List.mem_cons.mp hp with e | hp
    · rw [e, List.lookup_cons]
      simp
    · have ne : p.1 ≠ b := fun z => hn.1 (List.mem_map.mpr ⟨p, hp, z⟩)
      rw [List.lookup_cons]
      have e : (p.1 == b) = false := by simpa using ne
      rw [e]
      exact lookup_nodup hn.2 hp
theorem lookup_mem : ∀ {ts : List (Addr × Str)} {b : Addr} {q : Str}, ts.lookup b = some q → (b, q) ∈ ts
  | (c, u) :: r, b, q, h => by
    rw [List.lookup_cons] at h
    cases e : b == c with
    | true =>
      rw [e] at h
      cases h
      rw [beq_iff_eq.mp e]
      exact List.mem_cons_self
    | false =>
      rw [e] at h
      exact List.mem_cons_of_mem _ (lookup_mem h)
theorem law_call_t {P : Program} {w : World} {K : PySem.W.Frag} {mg mb : Str → Option Value} {CX : CXT} {k n : Nat} {fa a : Addr} {cs : List (Addr × Addr)} {ts : List (Addr × Str)} {fd : FuncData} {x : Str} {s1 : Shared} {vs : List Value} {ns : List Int}
    (KX : K.In s1.heap) (hns : s1.heap.Ns mainGlobals mg) (hb : s1.heap.Ns builtinsNs mb) (hbb : ∀ x : Str, x ≠ "__name__" → mb x = bootBuiltins x) (hlim : s1.heap.NoLimit) (hg : s1.gens = #[])
    (hts : ts.map (·.1) = cs.map (·.2)) (nd : (ts.map (·.1)).Nodup) (hT : ∀ p ∈ cs, PySem.W.CodeHd s1.heap p.1 p.2 ∧ s1.heap.get? p.2 = some { cls := .none, data := .fields #[] }) (nT : ∀ p ∈ cs, K.lookup p.2 = none)
    (hbm : ∃ (bm : Addr) (ob : Obj), mg "__builtins__" = some (.ref bm) ∧ bm ≠ builtinsNs ∧ s1.heap.get? bm = some ob ∧ ob.cls = .type "module" ∧ ob.dict = some builtinsNs ∧ ob.data = .plain)
    (ha : s1.heap.get? a = some { cls := .type "list", data := .seq vs.toArray }) (hi : IntsAre vs ns) (hl : ns.length ≤ n) (hn : n ≤ sizeLine) (hr : Room k callerA)
    (F : ∀ base : Heap, K.In base → base.Ns mainGlobals mg → (∀ p ∈ cs, LamX.TabB base mg p.1 p.2) → FnG P w K mg base CX k fa fd [x] (spD K (lawSpT n ts))) (hbind : ∀ (s : Shared) (u : Value), BindsTo s fd ⟨[u], []⟩ [(x, u)])
    (hCX : ∀ H e s', CX [] H s1 (fun _ _ _ => False) e s' → False) :
    codeAny (model P w) callerA (.call (.ref fa) ⟨[.ref a], []⟩) (fun r s' => r = .ok (.ret (.bool true)) ∧ OldK s1.heap s'.heap ∧ s'.os = s1.os ∧ AllBare s'.gens) s1 := by
  have rv := vals_ints hi
  have lv := hi.length
  have zl : ns.length ≤ sizeLine := Nat.le_trans hl hn
  have isTab : ∀ b : Addr, b ∈ cs.map (·.2) → s1.heap.get? b = some { cls := .none, data := .fields #[] } ∧ K.lookup b = none := fun b hb => by
    obtain ⟨p, hp, e⟩ := List.mem_map.mp hb
    subst e
    exact ⟨(hT p hp).2, nT p hp⟩
  have aT : a ∉ cs.map (·.2) := fun z => by
    have q := (isTab a z).1
    rw [ha] at q
    cases q
  have inT : ∀ p ∈ cs, p.2 ∈ cs.map (·.2) := fun p hp => List.mem_map.mpr ⟨p, hp, rfl⟩
  have go : ∀ H : Hp, (∀ b ∈ cs.map (·.2), H b = some (.tbl #[])) → (∀ b u, H b = some u → b ∉ cs.map (·.2) → ∃ ob xs, u = .frz ob (.lst xs)) → (∀ m : Sto, m a = none → Rp K m H (.ref a) (.rl (ns.map D.int))) → HOk P w H s1.heap → (∀ b, H b ≠ none → b = a ∨ b ∈ cs.map (·.2)) → (H a ≠ none → K.lookup a = none) →
      codeAny (model P w) callerA (.call (.ref fa) ⟨[.ref a], []⟩) (fun r s' => r = .ok (.ret (.bool true)) ∧ OldK s1.heap s'.heap ∧ s'.os = s1.os ∧ AllBare s'.gens) s1 := by
    intro H hH hO hS hok hA hK
    have untracked : ∀ {b : Addr} {o : Obj}, s1.heap.get? b = some o → o.data ≠ .seq vs.toArray → o.data ≠ .fields #[] → H b = none := fun {b o} e d1 d2 => by
      cases q : H b with
      | none => rfl
      | some u =>
        rcases hA b (by rw [q]; simp) with z | z
        · rw [z, ha] at e
          cases e
          exact (d1 rfl).elim
        · rw [(isTab b z).1] at e
          cases e
          exact (d2 rfl).elim
    have low : ∀ {b : Addr} {o : Obj}, s1.heap.get? b = some o → o.data ≠ .seq vs.toArray → o.data ≠ .fields #[] → (hidT s1.heap H).get? b = some o := fun e d1 d2 => hidT_get e (untracked e d1 d2)
    have keepNs : ∀ {b : Addr} {f : Str → Option Value}, s1.heap.Ns b f → (hidT s1.heap H).Ns b f := fun {b f} z => by
      obtain ⟨o, es, ep, e, d, r⟩ := z
      exact ⟨o, es, ep, low e (by rw [d]; exact fun z => nomatch z) (by rw [d]; exact fun z => nomatch z), d, r⟩
    have kb : K.In (hidT s1.heap H) := fun b o e => hidT_get (KX b o e) (by
      cases q : H b with
      | none => rfl
      | some u =>
        rcases hA b (by rw [q]; simp) with z | z
        · subst z
          rw [hK (by rw [q]; simp)] at e
          cases e
        · rw [(isTab b z).2] at e
          cases e)
    have md : Mod K mg (hidT s1.heap H) := by
      obtain ⟨mc, z1, z2⟩ := hlim
      exact ⟨kb, keepNs hns, ⟨mb, keepNs hb, hbb⟩, ⟨mc, keepNs z1, z2⟩⟩
    have nG : ∀ p ∈ cs, mainGlobals ≠ p.2 := fun p hp z => by
      obtain ⟨o, es, ep, e, d, _⟩ := hns
      rw [z, (hT p hp).2] at e
      cases e
      cases d
    have TB : ∀ p ∈ cs, LamX.TabB (hidT s1.heap H) mg p.1 p.2 := fun p hp => by
      refine ⟨?_, ?_, nG p hp⟩
      · obtain ⟨o, us, file, tf, flags, tg, inF, text, tt, e1, r1, r2, r3, r⟩ := (hT p hp).1
        exact ⟨o, us, file, tf, flags, tg, inF, text, tt, low e1 (by rw [r2]; exact fun z => nomatch z) (by
          rw [r2]
          intro z
          cases z
          simp at r3), r1, r2, r3, r⟩
      · obtain ⟨bm, ob, b1, b2, b3, b4, b5, b6⟩ := hbm
        refine ⟨bm, ob, b1, b2, fun z => ?_, fun z => ?_, low b3 (by rw [b6]; exact fun z => nomatch z) (by rw [b6]; exact fun z => nomatch z), b4, b5, b6⟩
        · obtain ⟨o, es, ep, e, d, _⟩ := hns
          rw [z, e] at b3
          cases b3
          rw [d] at b6
          cases b6
        · rw [z, (hT p hp).2] at b3
          cases b3
          cases b6
    have e0 : Env0 P w K mg (hidT s1.heap H) callerA [] s1 H := ⟨rfl, md, fun b o e => of_hidT e, Nat.le_of_eq (hidT_size _ _), trivial, fun b z => (nomatch z), hok, .of_eq hg⟩
    have m0 : ∃ m : Sto, (∀ p ∈ ts, m p.1 = some (.tab p.2)) ∧ m a = none ∧ ∀ b u, m b = some u → b ∈ cs.map (·.2) ∧ ∃ q, u = .tab q := by
      refine ⟨fun b => (ts.lookup b).map MO.tab, fun p hp => ?_, ?_, fun b u e => ?_⟩
      · show (ts.lookup p.1).map MO.tab = _
        rw [lookup_nodup nd hp]
        rfl
      · show (ts.lookup a).map MO.tab = _
        cases e : ts.lookup a with
        | none => rfl
        | some q => exact (aT (by rw [← hts]; exact List.mem_map.mpr ⟨_, lookup_mem e, rfl⟩)).elim
      · replace e : (ts.lookup b).map MO.tab = some u := e
        cases e1 : ts.lookup b with
        | none => rw [e1] at e; cases e
        | some q =>
          rw [e1] at e
          cases e
          exact ⟨by rw [← hts]; exact List.mem_map.mpr ⟨_, lookup_mem e1, rfl⟩, _, rfl⟩
    obtain ⟨m, hm1, hm2, hm3⟩ := m0
    have so : StoOk K m H := fun b u e => by
      obtain ⟨hb, q, rfl⟩ := hm3 b u e
      refine ⟨#[], hH b hb, trivial, fun pos cv hc => ?_⟩
      have z : codeAmong pos [] = some cv := hc
      simp [codeAmong] at z
    have sp : spD K (lawSpT n ts) [.ref a] H (fun v _ => v = .bl true) (fun _ _ _ => False) :=
      ⟨[.rl (ns.map D.int)], m, fun d _ => d = .bl true, noX, .cons (hS m hm2) .nil, so, ⟨ns, rfl, hl, hm1, fun _ => rfl⟩, fun v H' d m' q _ _ r => by subst q; cases r; rfl, aftX_no⟩
    refine codeAny_mono ((F _ kb (keepNs hns) TB).run callerA [] s1 H ⟨[.ref a], []⟩ [.ref a] [.ref a] _ _ hr rfl e0 (hbind s1 (.ref a)) (.cons rfl .nil) sp) fun r s' h => ?_
    match r, h with
    | .error e, h => exact (hCX H e s' h).elim
    | .ok (.ret u), h =>
      obtain ⟨v, H', os, bare, un, hok', r', q⟩ := h
      obtain rfl : v = .bl true := q
      obtain rfl : u = Value.bool true := r'
      have same : ∀ b o, b ∉ cs.map (·.2) → s1.heap.get? b = some o → s'.heap.get? b = some o := fun b o nb e => by
        cases q : H b with
        | none => exact un.keep b o e q (fun z => nomatch z) (fun z => nomatch z)
        | some u =>
          obtain ⟨ob, xs, rfl⟩ := hO b u q nb
          have e1 := (hok b _ q).1
          have e2 := (hok' b _ (un.frzs b ob _ q)).1
          rw [e] at e1
          cases e1
          exact e2
      have more : ∀ b ∈ cs.map (·.2), ∃ more : Array Value, s'.heap.get? b = some { cls := .none, data := .fields more } := fun b hb => by
        obtain ⟨more, z⟩ := un.tbls b #[] (hH b hb)
        exact ⟨_, hok' b _ z⟩
      refine ⟨rfl, ⟨fun b o e => ?_, fun b o e => ?_⟩, os, bare⟩
      · by_cases hb : b ∈ cs.map (·.2)
        · obtain ⟨more, hm⟩ := more b hb
          obtain ⟨p, hp, ep⟩ := List.mem_map.mp hb
          subst ep
          rw [(hT p hp).2] at e
          cases e
          exact .inr (.inl ⟨((hT p hp).1.tab (hT p hp).2).isCodeTable, rfl, #[], more, rfl, by rw [Array.empty_append]; exact hm⟩)
        · exact .inl (same b o hb e)
      · by_cases hb : b ∈ cs.map (·.2)
        · obtain ⟨more, hm⟩ := more b hb
          exact ⟨_, hm⟩
        · exact ⟨o, same b o hb e⟩
  cases hk : K.lookup a with
  | some o =>
    have e := KX a o hk
    rw [ha] at e
    cases e
    refine go (fun b => if b ∈ cs.map (·.2) then some (.tbl #[]) else none) (fun b hb => if_pos hb) (fun b u z hb => (by rw [if_neg hb] at z; cases z)) (fun m hm => .rl (xs := ns.map V.int) (.inr (.inr ⟨_, vs.toArray, _, hk, rfl, rfl, rfl, by rw [List.size_toArray, lv]; exact zl, by simpa using rv⟩)) (RpL.ints ns)) (fun b u z => ?_) (fun b z => ?_) fun z => absurd (if_neg aT) z
    · by_cases hb : b ∈ cs.map (·.2)
      · have z := (if_pos hb).symm.trans z
        cases z
        exact (isTab b hb).1
      · have z := (if_neg hb).symm.trans z
        cases z
    · by_cases hb : b ∈ cs.map (·.2)
      · exact .inr hb
      · exact absurd (if_neg hb) z
  | none =>
    have neA : ∀ b ∈ cs.map (·.2), b ≠ a := fun b hb z => aT (z ▸ hb)
    refine go (fun b => if b = a then some (.frz { cls := .type "list", data := .seq vs.toArray } (.lst (ns.map V.int))) else if b ∈ cs.map (·.2) then some (.tbl #[]) else none) (fun b hb => (if_neg (neA b hb)).trans (if_pos hb)) (fun b u z hb => ?_)
      (fun m hm => .rl (.inl ⟨hm, .inr ⟨_, if_pos rfl⟩⟩) (RpL.ints ns)) (fun b u z => ?_) (fun b z => ?_) fun _ => hk
    · by_cases ba : b = a
      · have z := (if_pos ba).symm.trans z
        cases z
        exact ⟨_, _, rfl⟩
      · have z := ((if_neg ba).trans (if_neg hb)).symm.trans z
        cases z
    · by_cases ba : b = a
      · have z := (if_pos ba).symm.trans z
        cases z
        subst ba
        exact ⟨ha, by rw [List.length_map]; exact zl, vs, _, rv, ha⟩
      · have z := (if_neg ba).symm.trans z
        by_cases hb : b ∈ cs.map (·.2)
        · have z := (if_pos hb).symm.trans z
          cases z
          exact (isTab b hb).1
        · have z := (if_neg hb).symm.trans z
          cases z
    · by_cases ba : b = a
      · exact .inl ba
      · by_cases hb : b ∈ cs.map (·.2)
        · exact .inr hb
        · exact absurd ((if_neg ba).trans (if_neg hb)) z
/-- the goal that k_head leaves -/
theorem walk_t {l : PySem.W.OpenLaw} {n k : Nat} {q : Program} {loose : List Str} {XP : (Str → Option Value) → Heap → Prop} {YP : World → Heap → Prop} {d : DefRec} {K : Params → PySem.W.Frag} {x : Str} {tl : List Addr}
    (hn : l.most = some n) (hn2 : n ≤ sizeLine) (hdf : d.params.defaults = []) (hr : Room k callerA) (hY : ∀ (w : World) (h : Heap), YP w h → (K w.params).In h) (hZ : ∀ (w : World) (h : Heap), YP w h → ∀ P ∈ tl, h.get? P = some { cls := .none, data := .fields #[] })
    (F : ∀ (w : World) (mg : Str → Option Value) (fa : Addr) (h : Heap), (K w.params).In h → h.Ns mainGlobals mg → mg d.name = some (.ref fa) → (∀ P ∈ tl, h.get? P = some { cls := .none, data := .fields #[] }) →
      ∃ (fd : FuncData) (cs : List (Addr × Addr)) (ts : List (Addr × Str)), ts.map (·.1) = cs.map (·.2) ∧ (ts.map (·.1)).Nodup ∧ (∀ p ∈ cs, PySem.W.CodeHd h p.1 p.2 ∧ h.get? p.2 = some { cls := .none, data := .fields #[] }) ∧ (∀ p ∈ cs, (K w.params).lookup p.2 = none) ∧ (∀ (s : Shared) (u : Value), BindsTo s fd ⟨[u], []⟩ [(x, u)]) ∧
        ∀ base : Heap, (K w.params).In base → base.Ns mainGlobals mg → (∀ p ∈ cs, LamX.TabB base mg p.1 p.2) → FnG l.prog w (K w.params) mg base CX0 k fa fd [x] (spD (K w.params) (lawSpT n ts))) :
    PySem.W.WalkO q loose XP YP l.row.toRowW d [] (fun f vs => PySem.call f vs) := by
  refine Att.attach_call hn hdf fun w s₀ s₁ mg mb fa o pm cd doc a vs ns G Y0 ho hd hcd hmg hobj hints hlen hg => ?_
  have KX := hY w _ Y0
  obtain ⟨fd, cs, ts, h1, h2, h3, h4, hb, hF⟩ := F w mg fa _ KX G.T.g hmg (hZ w _ Y0)
  exact law_call_t KX G.T.g G.T.b G.T.builtins G.T.nolimit hg h1 h2 h3 h4 G.T.bmain hobj hints hlen hn2 hr hF hb fun H e s' z => z
/-- a def's code object is the one that its table is told of -/
theorem code_tab {K : PySem.W.Frag} {x : Str} {c P f : Addr} {oc : Value} {od : Option Addr} {fd : FuncData} {osl : Array (Option Value)} (h : PySem.W.tabIn K x = some (c, P)) (hn : PySem.W.nsIn K mainGlobals x = some (some (.ref f))) (lk : K.lookup f = some ⟨oc, od, .func fd, osl⟩) : fd.code = .ref c := by
  unfold PySem.W.tabIn at h
  rw [hn] at h
  dsimp only at h
  rw [lk] at h
  dsimp only at h
  split at h
  · rename_i c' e
    split at h
    · split at h
      · cases h
        exact e
      · cases h
    · cases h
  · cases h
end Dl

/-! The data layer: xs.count(y), xs.index(y), {}. -/
namespace Dl
open PySem PySem.Spec PyProof.Rows L2
def countM : OM := fun a ds m R => match ds with
  | [d] => ∃ xs p, Pv m (.ptr a) (.list xs) ∧ Pv m d p ∧ PyData.plainAll xs = true ∧ p.plain = true ∧ p.depth = 0 ∧ R (.int ((xs.countP fun y => PyData.eqv y p : Nat) : Int)) m
  | _ => False
def indexM : OM := fun a ds m R => match ds with
  | [d] => ∃ xs p j z, Pv m (.ptr a) (.list xs) ∧ Pv m d p ∧ SeqAt.shaped (.list xs) = true ∧ SeqAt.shaped p = true ∧ xs[j]? = some z ∧ PyData.eqv z p = true ∧ (∀ (i : Nat) (z' : PyData), i < j → xs[i]? = some z' → PyData.eqv z' p = false) ∧ R (.int (j : Nat)) m
  | _ => False
section
variable {X : Cx}
theorem md_index (hu : X.A.units + 100 < cLine) : MetD X "list.index" indexM := ⟨mt_weak (mt_indexD (by omega)) fun x xs H Q ⟨m, a, ds, R, ex, rl, st, h, k⟩ => by
  subst ex
  unfold indexM at h
  split at h
  · obtain ⟨v, rfl, r⟩ := rl.one
    obtain ⟨ys, p, j, z, h1, h2, h3, h4, h5, h6, h7, h8⟩ := h
    exact ⟨a, v, p, ys, j, z, rfl, rfl, h1.dp st (.ptr a), h2.dp st r, h3, h4, h5, h6, h7, k _ _ _ _ h8 Ext.rfl st (.int _)⟩
  · exact h.elim⟩
theorem md_count (hu : X.A.units + 100 < cLine) : MetD X "list.count" countM := ⟨by
  intro pins s σ H x xs v us Q I rx rxs ⟨m, a, ds, R, ex, rl, st, h, k⟩
  subst ex
  unfold countM at h
  split at h
  · obtain ⟨y, rfl, r⟩ := rl.one
    obtain ⟨ys, p, h1, h2, h3, h4, h5, h6⟩ := h
    cases rx
    cases rxs with
    | cons ry rt =>
      cases rt
      obtain ⟨bs, r1⟩ := Dp.reads I p y _ (h2.dp st r) ry
      cases h1.dp st (.ptr a) with
      | lst hs ha =>
        obtain ⟨its, rv, ⟨o, n, ho, hc, _, hd⟩, hlen⟩ := I.list hs
        obtain ⟨as, h4'⟩ := Dp.readsAll I ys _ its ha rv
        exact PySem.SeqAt.count_list_data ⟨o, ho, hc, n, hd⟩ (by simpa using h4') r1 h3 h4 (by rw [h5]; omega) ⟨.int _, H, I.tok _, ⟨_, rfl⟩, k _ _ _ _ h6 Ext.rfl st (.int _)⟩
  · exact h.elim⟩

/-- {} -/
def dDNew : DE := fun _ m R => ∀ p, m p = none → R (.ptr p) (up m p (.dct []))
theorem pd_dnew {Y : XS} {pos : Pos} : PD X Y (.Dict [] [] pos) dDNew :=
  ⟨pe_weak pe_dnewK fun σ H Q ⟨δ, m, R, en, st, h, k⟩ => fun p hp => by
    have ex : Ext m H (up m p (.dct [])) (L2.upd H p (.dK [])) := ext_add hp
    exact k _ _ _ _ (h p (st.free hp)) ex (sto_at st ex ⟨[], upd_same, .nil⟩) (.ptr p)⟩
end
end Dl

/-! The data layer: dicts by keys, in, chains, sorted, texts. -/
namespace Dl
open PySem PySem.Spec PyProof.Rows L2

/-! ### dicts -/
def keyD : D → Option Key
  | .int i => some (.inl i)
  | .str x => some (.inr x)
  | _ => none
def kD : Key → D
  | .inl i => .int i
  | .inr x => .str x
def getK (kvs : List (Key × D)) (k : Key) : Option D := (kvs.find? fun kv => decide (kv.1 = k)).map (·.2)
def putKD (kvs : List (Key × D)) (k : Key) (v : D) : List (Key × D) :=
  if (kvs.any fun kv => decide (kv.1 = k)) = true then kvs.map (fun kv => if kv.1 = k then (kv.1, v) else kv) else kvs ++ [(k, v)]
section
variable {K : PySem.W.Frag} {m : Sto} {H : Hp}
theorem RpF.val {k : Key} : ∀ {vs : List (Key × V)} {ds : List (Key × D)}, RpF K m H vs ds → (∀ d, getK ds k = some d → ∃ v, valV vs k = some v ∧ Rp K m H v d) ∧ (getK ds k = none → valV vs k = none)
  | _, _, .nil => ⟨fun _ h => (nomatch h), fun _ => rfl⟩
  | _, _, .cons (k := g) (v := v) (d := d) (vs := vs) (ds := ds) a b => by
    by_cases e : g = k
    · have e1 : getK ((g, d) :: ds) k = some d := by simp [getK, List.find?_cons, e]
      have e2 : valV ((g, v) :: vs) k = some v := by simp [valV, List.find?_cons, e]
      rw [e1, e2]
      exact ⟨fun d' h => by cases h; exact ⟨_, rfl, a⟩, fun h => by cases h⟩
    · have e1 : getK ((g, d) :: ds) k = getK ds k := by simp [getK, List.find?_cons, e]
      have e2 : valV ((g, v) :: vs) k = valV vs k := by simp [valV, List.find?_cons, e]
      rw [e1, e2]
      exact RpF.val b
theorem RpF.any {k : Key} : ∀ {vs : List (Key × V)} {ds : List (Key × D)}, RpF K m H vs ds → (vs.any fun kv => decide (kv.1 = k)) = (ds.any fun kv => decide (kv.1 = k))
  | _, _, .nil => rfl
  | _, _, .cons a b => by rw [List.any_cons, List.any_cons, RpF.any b]
theorem RpF.app {vs ws : List (Key × V)} {ds es : List (Key × D)} (a : RpF K m H vs ds) (b : RpF K m H ws es) : RpF K m H (vs ++ ws) (ds ++ es) := by
  induction a with
  | nil => exact b
  | cons r _ ih => exact .cons r ih
theorem RpF.mapK {k : Key} {v : V} {d : D} (r : Rp K m H v d) : ∀ {vs : List (Key × V)} {ds : List (Key × D)}, RpF K m H vs ds → RpF K m H (vs.map (fun kv => if kv.1 = k then (kv.1, v) else kv)) (ds.map (fun kv => if kv.1 = k then (kv.1, d) else kv))
  | _, _, .nil => .nil
  | _, _, .cons (k := g) a b => by
    rw [List.map_cons, List.map_cons]
    by_cases e : g = k
    · simp only [e, if_true]
      exact .cons r (RpF.mapK r b)
    · simp only [e, if_false]
      exact .cons a (RpF.mapK r b)
theorem RpF.putK {vs : List (Key × V)} {ds : List (Key × D)} {k : Key} {v : V} {d : D} (a : RpF K m H vs ds) (r : Rp K m H v d) : RpF K m H (L2.putK vs k v) (putKD ds k d) := by
  unfold L2.putK putKD
  rw [a.any]
  split
  · exact RpF.mapK r a
  · exact a.app (.cons r .nil)
theorem keyD_rp {v : V} {d : D} {k : Key} (r : Rp K m H v d) (h : keyD d = some k) : v = kV k := by
  cases r <;> first | (cases h; rfl) | cases h
end
def dixD : O2 := fun d i m R => match d with
  | .ptr a => ∃ kvs k v, m a = some (.dct kvs) ∧ keyD i = some k ∧ getK kvs k = some v ∧ R v m
  | _ => False
section
variable {X : Cx} {Y : XS} {a b o i e : Expr} {da db dO dI de : DE} {pos : Pos}
theorem pd_dix (hu : X.A.units + 1 < cLine) (ha : PD X Y a da) (hb : PD X Y b db) (hs : NoSl b := by exact fun _ _ => rfl) : PD X Y (.Subscript a b pos) (dOp dixD da db) :=
  ⟨pe_weak (pe_dget hu ha.pe hb.pe hs) fun σ H Q ⟨δ, m, R, en, st, h, k⟩ => lE_bind en st h fun v H1 d m1 r1 e1 en1 st1 rp1 => lE_bind en1 st1 r1 fun w H2 i m2 r2 e2 en2 st2 rp2 => by
    cases d with
    | ptr a =>
      cases rp1
      obtain ⟨kvs, k', x, h1, h2, h3, h4⟩ := r2
      obtain ⟨vs, e, rf⟩ := st2 a _ h1
      obtain ⟨x', e3, rx⟩ := rf.val.1 x h3
      have ek := keyD_rp rp2 h2
      subst ek
      refine ⟨a, x', rfl, ?_, k _ _ _ _ h4 (e1.trans e2) st2 rx⟩
      have g := DGet.k (k := k') e
      rw [e3] at g
      exact g
    | _ => exact r2.elim⟩
/-- o[i] = e, o a dict -/
def dDPut (o i e : DE) : DS := fun P δ m => e δ m fun v m1 => o δ m1 fun d m2 => i δ m2 fun k m3 => match d with
  | .ptr a => ∃ kvs k', m3 a = some (.dct kvs) ∧ keyD k = some k' ∧ kvs.length < sizeLine ∧ P.nx δ (up m3 a (.dct (putKD kvs k' v)))
  | _ => False
theorem pds_dput {pos' : Pos} (hu : X.A.units + 1 < cLine) (ho : PD X Y o dO) (hi : PD X Y i dI) (hv : PD X Y e de) (hs : swapsWith e (some (.Subscript o i pos')) pos.line X.env = pure false := by rfl) :
    PDS X Y (.Assign [.Subscript o i pos'] e pos) (dDPut dO dI de) :=
  ⟨ps_weak (ps_dput hu ho.pe hi.pe hv.pe hs) fun E σ H ⟨δ, m, P, en, st, h, k⟩ => lE_bind en st h fun v H1 d1 m1 r1 e1 en1 st1 rp1 => lE_bind en1 st1 r1 fun w H2 d2 m2 r2 e2 en2 st2 rp2 => lE_bind en2 st2 r2 fun u H3 d3 m3 r3 e3 en3 st3 rp3 => by
    cases d2 with
    | ptr a =>
      cases rp2
      obtain ⟨kvs, k', h1, h2, h3, h4⟩ := r3
      obtain ⟨vs, eH, rf⟩ := st3 a _ h1
      have ek := keyD_rp rp3 h2
      subst ek
      have ex : ∀ u' o', Ext m3 H3 (up m3 a u') (L2.upd H3 a o') := fun u' o' => ext_put h1
      have rv := (rp1.ext (e2.trans e3)).ext (ex (.dct (putKD kvs k' d1)) (.dK (L2.putK vs k' v)))
      exact ⟨a, _, rfl, DPut.k eH (by rw [rf.len]; exact h3), k.nx _ _ _ _ h4 (((e1.trans e2).trans e3).trans (ex _ _)) (en3.ext (ex _ _)) (sto_at st3 (ex _ _) ⟨_, upd_same, (rf.ext (ex _ _)).putK rv⟩)⟩
    | _ => exact r3.elim⟩

/-- a written dict -/
def mergeD (kvs more : List (Key × D)) : List (Key × D) := more.foldl (fun acc kv => putKD acc kv.1 kv.2) kvs
def dPairs : List (DE × DE) → Ev → Sto → (List (D × D) → Sto → Prop) → Prop
  | [], _, m, R => R [] m
  | (a, b) :: r, δ, m, R => a δ m fun x m1 => b δ m1 fun y m2 => dPairs r δ m2 fun ps m3 => R ((x, y) :: ps) m3
def dDisp (ts : List (DE × DE)) : DE := fun δ m R => ∀ p, m p = none → dPairs ts δ (up m p (.dct [])) fun ps m2 => m2 p = some (.dct []) ∧ ∃ kvs : List (Key × D), ps = kvs.map (fun kv => (kD kv.1, kv.2)) ∧ kvs.length ≤ 15 ∧ R (.ptr p) (up m2 p (.dct (mergeD [] kvs)))
inductive PDPs (X : Cx) (Y : XS) (pos : Pos) : List (Option Expr) → List Expr → List (DE × DE) → Prop where
  | nil : PDPs X Y pos [] [] []
  | cons {k v : Expr} {ks : List (Option Expr)} {vs : List Expr} {dk dv : DE} {ts : List (DE × DE)} : PD X Y k dk → PD X Y v dv → PDPs X Y pos ks vs ts → PDPs X Y pos (some k :: ks) (v :: vs) ((dk, dv) :: ts)
theorem PDPs.low {pos : Pos} {ks : List (Option Expr)} {vs : List Expr} {ts : List (DE × DE)} (h : PDPs X Y pos ks vs ts) : PPs X pos ks vs (ts.map fun p => (lE X.K Y p.1, lE X.K Y p.2)) := by
  induction h with
  | nil => exact pps_nil
  | cons hk hv _ ih => exact pps_cons hk.pe hv.pe ih
inductive RpP (K : PySem.W.Frag) (m : Sto) (H : Hp) : List (V × V) → List (D × D) → Prop
  | nil : RpP K m H [] []
  | cons {v w : V} {d e : D} {ps : List (V × V)} {qs : List (D × D)} : Rp K m H v d → Rp K m H w e → RpP K m H ps qs → RpP K m H ((v, w) :: ps) ((d, e) :: qs)
theorem pairs_low {K : PySem.W.Frag} {Y : XS} {σ : L2.St} {δ : Ev} : ∀ {ts : List (DE × DE)} {m : Sto} {H : Hp} {R : List (D × D) → Sto → Prop} {Q : List (V × V) → Hp → Prop}, EnvOk K Y m H σ δ → StoOk K m H → dPairs ts δ m R →
    (∀ vs H' ds m', R ds m' → Ext m H m' H' → StoOk K m' H' → RpP K m' H' vs ds → Q vs H') → tPairs (ts.map fun p => (lE K Y p.1, lE K Y p.2)) σ H Q
  | [], m, H, R, Q, en, st, h, k => k [] H [] m h Ext.rfl st .nil
  | (a, b) :: ts, m, H, R, Q, en, st, h, k => lE_bind en st h fun v H1 d m1 r1 e1 en1 st1 rp1 => lE_bind en1 st1 r1 fun w H2 e m2 r2 e2 en2 st2 rp2 =>
    pairs_low en2 st2 r2 fun vs H3 ds m3 r3 e3 st3 rp3 => k _ _ _ _ r3 ((e1.trans e2).trans e3) st3 (.cons ((rp1.ext e2).ext e3) (rp2.ext e3) rp3)
theorem RpP.kvs {K : PySem.W.Frag} {m : Sto} {H : Hp} : ∀ {kvs : List (Key × D)} {vs : List (V × V)}, RpP K m H vs (kvs.map fun kv => (kD kv.1, kv.2)) → ∃ ws : List (Key × V), vs = ws.map (fun kv => (kV kv.1, kv.2)) ∧ RpF K m H ws kvs
  | [], _, .nil => ⟨[], rfl, .nil⟩
  | (k, d) :: r, _, .cons a b c => by
    obtain ⟨ws, e, rf⟩ := RpP.kvs c
    subst e
    have ek : _ = kV k := keyD_rp (d := kD k) a (by cases k <;> rfl)
    subst ek
    exact ⟨(k, _) :: ws, rfl, .cons b rf⟩
theorem merge_rp {K : PySem.W.Frag} {m : Sto} {H : Hp} : ∀ {ws : List (Key × V)} {es : List (Key × D)} {vs : List (Key × V)} {ds : List (Key × D)}, RpF K m H vs ds → RpF K m H ws es → RpF K m H (mergeK vs ws) (mergeD ds es)
  | _, _, _, _, a, .nil => a
  | _, _, _, _, a, .cons (k := g) (v := v) (d := d) r b => by
    show RpF K m H (mergeK (L2.putK _ g v) _) (mergeD (putKD _ g d) _)
    exact merge_rp (a.putK r) b
theorem pd_disp {ks : List (Option Expr)} {vs : List Expr} {ts : List (DE × DE)} (h : PDPs X Y pos ks vs ts) (hall : ks.all (·.isSome) = true := by rfl) (hl : ks.length = vs.length := by rfl) (h0 : ks ≠ [] := by exact fun z => nomatch z) (h15 : ks.length ≤ 15 := by decide) : PD X Y (.Dict ks vs pos) (dDisp ts) :=
  ⟨pe_weak (pe_disp h.low hall hl h0 h15) fun σ H Q ⟨δ, m, R, en, st, h, k⟩ => fun p hp => by
    have ex : Ext m H (up m p (.dct [])) (L2.upd H p (.dK [])) := ext_add hp
    refine pairs_low (en.ext ex) (sto_at st ex ⟨[], upd_same, .nil⟩) (h p (st.free hp)) fun vs H1 ds m1 ⟨h1, kvs, h2, h3, h4⟩ e1 st1 rp => ?_
    subst h2
    obtain ⟨ws, ew, rf⟩ := rp.kvs
    obtain ⟨vs0, eH, rf0⟩ := st1 p _ h1
    cases rf0
    have ex2 : ∀ u' o', Ext m1 H1 (up m1 p u') (L2.upd H1 p o') := fun u' o' => ext_put h1
    refine ⟨eH, ws, ew, by rw [rf.len]; exact h3, k _ _ _ _ h4 ((ex.trans e1).trans (ex2 _ _)) (sto_at st1 (ex2 _ _) ⟨_, upd_same, merge_rp .nil (rf.ext (ex2 _ _))⟩) (.ptr p)⟩⟩
end

/-! ### in, not in -/
def flatD : D → Bool
  | .non => true
  | .bl _ => true
  | .int _ => true
  | .str _ => true
  | _ => false
def eqFD : D → D → Bool
  | .non, .non => true
  | .bl a, .bl b => a == b
  | .bl a, .int b => (if a then 1 else 0) == b
  | .int a, .bl b => a == (if b then 1 else 0)
  | .int a, .int b => a == b
  | .str a, .str b => a == b
  | _, _ => false
def inFD (d : D) (xs : List D) : Bool := xs.any fun y => eqFD y d
section
variable {K : PySem.W.Frag} {m : Sto} {H : Hp}
theorem flat_rp {v : V} {d : D} (r : Rp K m H v d) (h : flatD d = true) : flatV v = true := by cases r <;> first | rfl | cases h
theorem flats_rp : ∀ {vs : List V} {ds : List D}, RpL K m H vs ds → ds.all flatD = true → vs.all flatV = true
  | _, _, .nil, _ => rfl
  | _, _, .cons a b, h => by
    rw [List.all_cons, Bool.and_eq_true] at h ⊢
    exact ⟨flat_rp a h.1, flats_rp b h.2⟩
theorem eqF_rp {v w : V} {d e : D} (r : Rp K m H v d) (r' : Rp K m H w e) (h : flatD d = true) (h' : flatD e = true) : eqV v w = eqFD d e := by
  cases r <;> first | exact (Bool.noConfusion (h : false = true)) | (cases r' <;> first | rfl | exact (Bool.noConfusion (h' : false = true)))
theorem inF_rp {v : V} {d : D} (r : Rp K m H v d) (h : flatD d = true) : ∀ {vs : List V} {ds : List D}, RpL K m H vs ds → ds.all flatD = true → inV v vs = inFD d ds
  | _, _, .nil, _ => rfl
  | _, _, .cons a b, h' => by
    rw [List.all_cons, Bool.and_eq_true] at h'
    have ih := inF_rp r h b h'.2
    unfold inV inFD at ih ⊢
    rw [List.any_cons, List.any_cons, ih, eqF_rp a r h'.1 h]
end
def inD (neg : Bool) : O2 := fun d e m R => match d, e with
  | .str x, .str z => ∃ c, x = ⟨#[c]⟩ ∧ R (.bl (if neg then !decide (c ∈ z.cps.toList) else decide (c ∈ z.cps.toList))) m
  | d, e => ∃ xs, SeqIs m e xs ∧ flatD d = true ∧ xs.all flatD = true ∧ R (.bl (if neg then !inFD d xs else inFD d xs)) m
theorem in_low {K : PySem.W.Frag} {neg : Bool} {x y : V} {H : Hp} {Q : VK} (h : lR2 K (inD neg) x y H Q) :
    (∃ (c : Nat) (z : Str), x = .str ⟨#[c]⟩ ∧ y = .str z ∧ Q (.bl (if neg then !decide (c ∈ z.cps.toList) else decide (c ∈ z.cps.toList))) H) ∨ rIn K neg x y H Q := by
  obtain ⟨m, d, e, R, r1, r2, st, h, k⟩ := h
  unfold inD at h
  split at h
  · cases r1
    cases r2
    obtain ⟨c, rfl, h⟩ := h
    exact .inl ⟨c, _, rfl, rfl, k _ _ _ _ h Ext.rfl st (.bl _)⟩
  · obtain ⟨xs, h1, h2, h3, h4⟩ := h
    obtain ⟨a, vs, rfl, q, rl⟩ := h1.low r2 st
    refine .inr ⟨a, vs, rfl, q, flat_rp r1 h2, flats_rp rl h3, k _ _ _ _ h4 Ext.rfl st ?_⟩
    rw [inF_rp r1 h2 rl h3]
    exact .bl _
section
variable {X : Cx} {Y : XS}
theorem od_in : OpD X (compareOp .In) (inD false) := ⟨opr_weak (OpR.or op_in_sign op_in_seq) fun _ _ _ _ h => in_low h⟩
theorem od_nin : OpD X (compareOp .NotIn) (inD true) := ⟨opr_weak (OpR.or op_notIn_sign op_notIn_seq) fun _ _ _ _ h => in_low h⟩

/-! ### a < b < c -/
def dChain (g g' : O2) (a b c : DE) : DE := fun δ m R => a δ m fun x m1 => b δ m1 fun y m2 => g x y m2 fun z m3 => match z with
  | .bl k => (k = true → c δ m3 fun w m4 => g' y w m4 R) ∧ (k = false → R (.bl false) m3)
  | _ => False
theorem chain_low {K : PySem.W.Frag} {g g' : O2} {a b c : DE} {σ : L2.St} {H : Hp} {Q : VK} (h : lE K Y (dChain g g' a b c) σ H Q) : tChain (lR2 K g) (lR2 K g') (lE K Y a) (lE K Y b) (lE K Y c) σ H Q := by
  obtain ⟨δ, m, R, en, st, h, k⟩ := h
  refine lE_bind en st h fun v H1 d m1 r1 e1 en1 st1 rp1 => lE_bind en1 st1 r1 fun w H2 e m2 r2 e2 en2 st2 rp2 => ?_
  refine ⟨m2, d, e, _, rp1.ext e2, rp2, st2, r2, fun v' H' d' m' q ex s rp => ?_⟩
  cases d' with
  | bl kk =>
    cases rp
    refine ⟨kk, rfl, ?_⟩
    cases kk with
    | true => exact iteT (lE_bind ((en2.ext ex)) s (q.1 rfl) fun u H4 f m4 r4 e4 en4 st4 rp4 => ⟨m4, e, f, R, (rp2.ext ex).ext e4, rp4, st4, r4, fun v5 H5 d5 m5 q5 ex5 s5 rp5 => k _ _ _ _ q5 ((((e1.trans e2).trans ex).trans e4).trans ex5) s5 rp5⟩)
    | false => exact iteF (k _ _ _ _ (q.2 rfl) ((e1.trans e2).trans ex) s (.bl _))
  | _ => exact q.elim
variable {op op' : CmpOp} {g g' : O2} {a b c : Expr} {da db dc : DE} {pos : Pos}
theorem pd_chain (ho : OpD X (compareOp op) g) (ho' : OpD X (compareOp op') g') (ha : PD X Y a da) (hb : PD X Y b db) (hc : PD X Y c dc) (hm : lastMarks [op, op'] [b, c] = false := by with_unfolding_all rfl) : PD X Y (.Compare a [op, op'] [b, c] pos) (dChain g g' da db dc) :=
  ⟨pe_weak (pe_chain ho.ok ho'.ok ha.pe hb.pe hc.pe hm) fun _ _ _ h => chain_low h⟩
theorem pdt_chain (ho : OpD X (compareOp op) g) (ho' : OpD X (compareOp op') g') (ha : PD X Y a da) (hb : PD X Y b db) (hc : PD X Y c dc) (hm : lastMarks [op, op'] [b, c] = false := by with_unfolding_all rfl) : PDT X Y (.Compare a [op, op'] [b, c] pos) (dB (dChain g g' da db dc)) :=
  ⟨pt_weak (pt_chain ho.ok ho'.ok ha.pe hb.pe hc.pe hm) fun σ H Q h => chain_low (g := g) (g' := g') (by
    obtain ⟨δ, m, R, en, st, h, k⟩ := dB_low h
    exact ⟨δ, m, R, en, st, h, k⟩)⟩

/-! ### sorted, texts -/
def sortedD (b : Bool) : OL := fun ds m R => match ds with
  | [d] => ∃ ns : List Int, LstIs m d (ns.map .int) ∧ ∀ ns' : List Int, ns'.Perm ns → ns'.Pairwise (· ≤ ·) → newL b (ns'.map .int) m R
  | _ => False
theorem cd_sorted (b : Bool) : CallD X (.builtin "sorted") (sortedD b) := ⟨cr_weak cr_sortedI fun xs H Q ⟨m, ds, R, r, st, h, k⟩ => by
  unfold sortedD at h
  split at h
  · obtain ⟨v, rfl, r1⟩ := r.one
    obtain ⟨ns, h1, h2⟩ := h
    obtain ⟨a, vs, rfl, e, rl⟩ := h1.low r1 st
    have ev := rl.intsV
    subst ev
    refine ⟨a, ns, rfl, SqL.of e, fun ns' p hp hs hf => ?_⟩
    obtain ⟨d, m', q1, q2, q3, q4⟩ := newL_ok (h2 ns' hp hs) st (RpL.ints ns') hf
    exact k _ _ d m' q1 q2 q3 q4
  · exact h.elim⟩
/-- o.upper() -/
def dUpper (o : DE) : DE := fun δ m R => o δ m fun d m1 => match d with
  | .str a => a.length ≤ 5592405 ∧ R (.str (Txt.upper a)) m1
  | _ => False
/-- o.join(t) -/
def dJoin (o t : DE) : DE := fun δ m R => o δ m fun d m1 => match d with
  | .str a => t δ m1 fun e m2 => ∃ ys : List Str, SeqIs m2 e (ys.map .str) ∧ (ys.map (·.length)).sum + ys.length * a.length ≤ 16777216 ∧ R (.str (Txt.join a ys)) m2
  | _ => False
/-- o.split(t) -/
def dSplit (b : Bool) (o t : DE) : DE := fun δ m R => o δ m fun d m1 => match d with
  | .str a => t δ m1 fun e m2 => match e with
    | .str s => (s.length == 0) = false ∧ a.length + 2 ≤ sizeLine ∧ newL b ((Txt.split a s).map .str) m2 R
    | _ => False
  | _ => False
variable {o e : Expr} {dO de : DE} {apos : Pos}
theorem pd_upper (ho : PD X Y o dO) (hbase : attributeBase o "upper" X.env (eval o X.env) = eval o X.env := by rfl) (hline : (apos.endLine == pos.line) = true := by rfl) : PD X Y (.Call (.Attribute o "upper" apos) [] [] pos) (dUpper dO) :=
  ⟨pe_weak (pe_upper ho.pe hbase hline) fun σ H Q ⟨δ, m, R, en, st, h, k⟩ => lE_bind en st h fun v H1 d m1 r1 e1 en1 st1 rp1 => by
    cases d with
    | str a =>
      cases rp1
      exact ⟨⟨a, rfl⟩, a, rfl, rfl, r1.1, k _ _ _ _ r1.2 e1 st1 (.str _)⟩
    | _ => exact r1.elim⟩
theorem RpL.strs {K : PySem.W.Frag} {m : Sto} {H : Hp} : ∀ ns : List Str, RpL K m H (ns.map V.str) (ns.map D.str)
  | [] => .nil
  | n :: r => .cons (.str n) (RpL.strs r)
theorem pd_join (ho : PD X Y o dO) (he : PD X Y e de) (hs : starEach [e] X.env = [(false, eval e X.env)] := by rfl) (hbase : attributeBase o "join" X.env (eval o X.env) = eval o X.env := by rfl) (hline : (apos.endLine == pos.line) = true := by rfl) :
    PD X Y (.Call (.Attribute o "join" apos) [e] [] pos) (dJoin dO de) :=
  ⟨pe_weak (pe_join ho.pe he.pe hs hbase hline) fun σ H Q ⟨δ, m, R, en, st, h, k⟩ => lE_bind en st h fun v H1 d m1 r1 e1 en1 st1 rp1 => by
    cases d with
    | str a =>
      cases rp1
      refine ⟨⟨a, rfl⟩, lE_bind en1 st1 r1 fun w H2 f m2 r2 e2 en2 st2 rp2 => ?_⟩
      obtain ⟨ys, h1, h2, h3⟩ := r2
      obtain ⟨p, vs, rfl, q, rl⟩ := h1.low rp2 st2
      have ev := rl.strsV
      subst ev
      exact ⟨a, p, ys, rfl, rfl, q, h2, k _ _ _ _ h3 (e1.trans e2) st2 (.str _)⟩
    | _ => exact r1.elim⟩
theorem pd_split (fl : Bool) (ho : PD X Y o dO) (he : PD X Y e de) (hs : starEach [e] X.env = [(false, eval e X.env)] := by rfl) (hbase : attributeBase o "split" X.env (eval o X.env) = eval o X.env := by rfl) (hline : (apos.endLine == pos.line) = true := by rfl) :
    PD X Y (.Call (.Attribute o "split" apos) [e] [] pos) (dSplit fl dO de) :=
  ⟨pe_weak (pe_split ho.pe he.pe hs hbase hline) fun σ H Q ⟨δ, m, R, en, st, h, k⟩ => lE_bind en st h fun v H1 d m1 r1 e1 en1 st1 rp1 => by
    cases d with
    | str a =>
      cases rp1
      refine ⟨⟨a, rfl⟩, lE_bind en1 st1 r1 fun w H2 f m2 r2 e2 en2 st2 rp2 => ?_⟩
      cases f with
      | str s =>
        cases rp2
        obtain ⟨h1, h2, h3⟩ := r2
        refine ⟨a, s, rfl, rfl, h1, h2, fun p hp => ?_⟩
        obtain ⟨d, m', q1, q2, q3, q4⟩ := newL_ok h3 st2 (RpL.strs _) hp
        exact k _ _ d m' q1 ((e1.trans e2).trans q2) q3 q4
      | _ => exact r2.elim
    | _ => exact r1.elim⟩

/-! ### insert -/
def insM : OM := fun a ds m R => match ds with
  | [.int i, x] => ∃ xs, m a = some (.lst xs) ∧ xs.length < sizeLine ∧ 0 ≤ i ∧ i < 2 ^ 63 ∧ R .non (up m a (.lst (xs.take i.toNat ++ [x] ++ xs.drop i.toNat)))
  | _ => False
theorem md_insert : MetD X "list.insert" insM := ⟨by
  intro pins s σ H x xs v us Q I r1 r2 ⟨m, a, ds, R, ex, rl, st, h, k⟩
  refine mt_insert pins s σ H x xs v us Q I r1 r2 ?_
  subst ex
  unfold insM at h
  split at h
  · obtain ⟨v0, w0, rfl, ra, rb⟩ := rl.two
    cases ra
    obtain ⟨ys, h1, h2, h3, h4, h5⟩ := h
    obtain ⟨vs, e, rl⟩ := st _ _ h1
    have ex : ∀ u' o', Ext m H (up m a u') (L2.upd H a o') := fun u' o' => ext_put h1
    exact ⟨a, vs, _, _, rfl, rfl, e, by rw [rl.len]; exact h2, h3, h4, k _ _ _ _ h5 (ex _ _) (sto_at st (ex _ _) ⟨_, upd_same, (((rl.ext (ex _ _)).take _).app (.cons (rb.ext (ex _ _)) .nil)).app ((rl.ext (ex _ _)).drop _)⟩) .non⟩
  · exact h.elim⟩
end
end Dl

/-! The data layer: enumerate, repr of all kinds. -/
namespace Dl
open PySem PySem.Spec PyProof.Rows L2

theorem meets_enumerate_newB1 {v : Value} {o : Obj} {H : Heap → Prop} (B : Begins v o H) :
    Meets (Builtin.«enumerate.__new__» ⟨[.type "enumerate", v], []⟩) (fun _ R s => H s.heap ∧
      R (.ok (.ret (.ref (s.heap.push o).objs.size))) { s with heap := (s.heap.push o).push { cls := .type "enumerate", data := .fields #[.none, .bool false, .ref s.heap.objs.size, rawInt 0, .none, .none] } }) :=
  .of_wp fun prog w A R s h => by
    obtain ⟨hp, g, d, tk, os⟩ := s; obtain ⟨h1, h⟩ := h
    have hsub := sub_enumerate
    have q1 : ∀ {A' : Around} {E : Value → Shared → Prop} {Q : Value → Shared → Prop}, Q (.ref hp.objs.size) ⟨hp.push o, g, d, tk, os⟩ → wpAny (model prog w) A' (pyIter v) Q E ⟨hp, g, d, tk, os⟩ :=
      fun q => B.iter prog w _ _ ⟨hp, g, d, tk, os⟩ _ h1 q
    wp_walk using q1
    refine wpAny_stack_any fun st => wpAny_pure ?_
    split
    · rename_i c _ _ _ _ _
      cases (c == Value.type "enumerate")
      · wp_walk using q1
        exact ⟨_, rfl, h⟩
      · wp_walk using q1
        exact ⟨_, rfl, h⟩
    · wp_walk using q1
      exact ⟨_, rfl, h⟩
section
variable {prog : Program} {w : World} {A : Around} {E : Value → Shared → Prop} {s : Shared}
/-- enumerate(v): its two new cells -/
theorem enum_begins1 {v : Value} {o : Obj} {H : Heap → Prop} {Q : Value → Shared → Prop} (B : Begins v o H) (h1 : H s.heap)
    (h : ∀ h', IsEnum h' (s.heap.objs.size + 1) s.heap.objs.size 0 .none → h'.get? s.heap.objs.size = some o → h'.objs.size = s.heap.objs.size + 2 →
      (∀ b o, s.heap.get? b = some o → h'.get? b = some o) → Q (.ref (s.heap.objs.size + 1)) { s with heap := h' }) :
    wpAny (model prog w) A (call (.type "enumerate") [v]) Q E s := by
  refine callType_new F.called_enumerate (by decide) (F.typeCall_enumerate_1 _) (F.newCall_enumerate_1 _) (fun obj => F.args_object_init_2 obj _) F.entry_enumerate_new
    (meets_enumerate_newB1 B) ⟨h1, ?_⟩
  have hz : (s.heap.push o).objs.size = s.heap.objs.size + 1 := Heap.size_push ..
  show _ ∧ _
  rw [hz]
  have he : IsEnum ((s.heap.push o).push { cls := .type "enumerate", data := .fields #[.none, .bool false, .ref s.heap.objs.size, rawInt 0, .none, .none] }) (s.heap.objs.size + 1) s.heap.objs.size 0 .none := by
    have := Heap.get?_push_size (s.heap.push o) (o := { cls := .type "enumerate", data := .fields #[.none, .bool false, .ref s.heap.objs.size, rawInt 0, .none, .none] }) rfl
    rw [hz] at this; exact this
  refine ⟨⟨_, he, rfl⟩, h _ he (Heap.get?_push_of_some _ (Heap.get?_push_size _ B.free)) (by rw [Heap.size_push, hz]) fun b o x => Heap.get?_push_of_some _ (Heap.get?_push_of_some _ x)⟩
end
/-- the tuple at a, each item in a new pair -/
def IteT (K : PySem.W.Frag) (a : Addr) : It :=
  ⟨fun i H => ∃ (xs : List V) (x : V), SqT K H a xs ∧ xs[i]? = some x, fun i H v H' => ∃ T x, v = .ref T ∧ H T = none ∧ H' = L2.upd H T (.tup [.int (i : Nat), x]) ∧ ∀ xs, SqT K H a xs → xs[i]? = some x, fun i H => ∃ xs : List V, SqT K H a xs ∧ xs.length ≤ i⟩
theorem turn_enumT {P : Program} {w : World} {K : PySem.W.Frag} {elts : List Expr} {kk : Nat} {tpos : Pos} (a e it : Addr) :
    Turn P w K (.Tuple elts kk tpos) (IteT K a) [e, it] e (fun i h => (∃ old, IsEnum h e it ((i : Nat) : Int) old) ∧ h.IsTupleIter it a i ∧ e ≠ it ∧ a ≠ it ∧ e ≠ a) where
  mem := by simp
  obj := fun i h st b hb => by
    obtain ⟨⟨old, he⟩, ⟨o, ho, hc, hd⟩, _⟩ := st
    have e' : b = e ∨ b = it := by simpa using hb
    rcases e' with z | z
    · rw [z]; exact ⟨_, he, fun v q => nomatch q⟩
    · rw [z]; exact ⟨o, ho, fun v q => by rw [hd] at q; cases q⟩
  keep := fun i h h' st k => let ⟨⟨old, he⟩, hi, hne⟩ := st; ⟨⟨old, k e (by simp) _ he⟩, hi.at fun o q => k it (by simp) o q, hne⟩
  item := by
    intro X hP hw hK hc i pins s σ H E I hf st hg
    subst hP hw hK
    obtain ⟨⟨old, he⟩, hit, hne, hai, hea⟩ := st
    obtain ⟨xs, x, hq, hx⟩ := hg
    obtain ⟨its, rv, p, hz⟩ := I.tuple hq
    obtain ⟨u, hu, ru⟩ := rv.get hx
    have hel : e < s.heap.objs.size := Heap.lt_size he
    have hil : it < s.heap.objs.size := by obtain ⟨_, q, _⟩ := hit; exact Heap.lt_size q
    have hlt : i < its.toArray.size := by
      have := (List.getElem?_eq_some_iff.mp hu).1
      simpa using this
    refine wpAny_pyNext_enum_itemD (fp := [it, a]) (n := its.toArray.size) (Draws.tuple (A := X.A.in1) (I.ok.hd hc) it a hai its.toArray) he ⟨hit, p⟩ hlt hne (by simp [hne, hea]) fun x' h' tk hx' ho hst hT hsz hk => ?_
    obtain ⟨hit', hp'⟩ := hst
    have ex : x' = u := by
      have h1 : its.toArray[i]? = some u := by simpa using hu
      rw [h1] at hx'
      exact (Option.some.inj hx').symm
    subst ex
    refine ⟨_, rfl, wpAny_letOwnedTupleGo_enum (s := { s with heap := h', toks := tk + 1 }) ho fun h'' he' sb => ?_⟩
    have hT2 : h''.get? s.heap.objs.size = some { cls := .type "tuple", data := .seq #[.int i tk, x'] } := (sb.2 _ (Nat.ne_of_gt hel)).trans hT
    have new : ObjOk X.prog X.w (L2.upd H s.heap.objs.size (.tup [.int (i : Nat), x])) h'' s.heap.objs.size (.tup [.int (i : Nat), x]) :=
      ⟨by show 2 ≤ sizeLine; decide, [.int i tk, x'], .cons ⟨_, rfl⟩ (.cons ru .nil), ⟨_, hT2, rfl, _, rfl⟩⟩
    have I1 : Inv X pins σ (L2.upd H s.heap.objs.size (.tup [.int (i : Nat), x])) { s with heap := h'', toks := tk + 1 } :=
      I.turnedNew (ch := [e, it]) (fun b ob hb q => (sb.2 b (fun z => hb (by simp [z]))).trans (hk b ob (fun z => hb (by simp [z])) (fun z => hb (by simp [z])) q)) hf (Nat.le_refl _) new
    refine ⟨.ref s.heap.objs.size, _, I1, rfl, ⟨_, x, rfl, I.hok.fresh (Nat.le_refl _), rfl, fun ys hy => by rw [I.tuple_inj hy hq]; exact hx⟩, ⟨⟨x', ?_⟩, hit'.at fun o q => (sb.2 it (Ne.symm hne)).trans q, hne, hai, hea⟩, fun b hb => ?_⟩
    · have e1 : ((i + 1 : Nat) : Int) = (i : Int) + 1 := by omega
      rw [e1]; exact he'
    · have hb' : b < s.heap.objs.size := by
        have e' : b = e ∨ b = it := by simpa using hb
        rcases e' with z | z
        · rw [z]; exact hel
        · rw [z]; exact hil
      rw [upd_ne (Nat.ne_of_lt hb')]
      exact (hf b hb).1
  done := by
    intro X hP hw hK hc i pins s σ H E I hf st hg
    subst hP hw hK
    obtain ⟨⟨old, he⟩, hit, hne, hai, hea⟩ := st
    obtain ⟨xs, hq, hx⟩ := hg
    obtain ⟨its, rv, p, hz⟩ := I.tuple hq
    obtain ⟨f0, f1, f2, f3, f4, f5⟩ := hf it (by simp)
    have hl := rv.length
    have D : Draws X.prog X.w X.A.in1 it [it, a] i (fun _ _ => True) (fun j h => j ≤ i ∧ (j = i → h.IsTupleIter it a i ∧ h.IsTuple a its.toArray) ∧ (j < i → False) ∧ ∃ o, h.get? it = some o) := by
      refine ⟨fun _ _ st => st.2.2.2, fun j h h' st k => ⟨st.1, fun e => ?_, st.2.2.1, ?_⟩, fun j s Q E hj st => (st.2.2.1 hj).elim, fun s Q E st hE => ?_⟩
      · obtain ⟨z1, z2⟩ := st.2.1 e
        exact ⟨z1.at fun o q => k it (by simp) o q, z2.at fun o q => k a (by simp) o q⟩
      · obtain ⟨o, q⟩ := st.2.2.2
        exact ⟨o, k it (by simp) o q⟩
      · obtain ⟨z1, z2⟩ := st.2.1 rfl
        exact wpAny_nextOf_tuple_end (I.ok.hd hc) z1 z2 (by simp; omega) hE
    refine wpAny_pyNext_enum_endD D he ⟨Nat.le_refl _, fun _ => ⟨hit, p⟩, fun z => absurd z (Nat.lt_irrefl _), ?_⟩ fun h' eb => ⟨rfl, I.turned (t' := s.toks) (fun b o hb q => eb b o hb q) f0 f1 f3 f4 f5⟩
    obtain ⟨o, q, _⟩ := hit
    exact ⟨o, q⟩
  self := fun A i s Q E st h => let ⟨⟨_, he⟩, _⟩ := st; wpAny_pyIter_enum he h
def iEnumT (K : PySem.W.Frag) (ta : TA) : TI := fun σ H R => ta σ H fun vs H1 => ∃ a xs, vs = [.ref a] ∧ ((SqL K H1 a xs ∧ R (Ite K a) H1) ∨ (SqT K H1 a xs ∧ R (IteT K a) H1))
theorem pi_enumT {X : Cx} {e : Expr} {ta : TA} {p pos tpos : Pos} {elts : List Expr} {kk : Nat} (hg : Gl X "enumerate") (hm : X.mg "enumerate" = none) (ha : PA X [e] ta) (hs : starEach [e] X.env = [(false, eval e X.env)] := by rfl) :
    PI X (.Tuple elts kk tpos) (.Call (.Name "enumerate" p) [e] [] pos) (iEnumT X.K ta) := by
  refine ⟨fun pins s σ H R I h => ?_⟩
  refine Call_ (ld_blt I hg hm boot_enumerate (PyProof.Rows.callWith_type1 (thn (ha.run pos pins s σ H _ I h) fun us s1 ⟨vs, H1, I1, r1, q1⟩ => ?_) hs rfl))
  obtain ⟨a, xs, ex, q⟩ := q1
  subst ex
  cases r1 with
  | cons r rr =>
    cases rr
    cases r
    rcases q with ⟨hq, q⟩ | ⟨hq, q⟩
    · obtain ⟨its, rv, p', hz⟩ := I1.list hq
      refine call_enumerate_list p'.isList fun h' he hit hsz hk => wpAny_pyIter_enum he ?_
      have I2 : Inv X pins σ H1 { s1 with heap := h' } := I1.kept (t' := s1.toks) hk
      refine ⟨s1.heap.objs.size + 1, [s1.heap.objs.size + 1, s1.heap.objs.size], _, _, H1, rfl, I2, turn_enum a (s1.heap.objs.size + 1) s1.heap.objs.size, ⟨⟨.none, he⟩, hit, Nat.succ_ne_self _⟩, fun b hb => ?_, q⟩
      have e' : b = s1.heap.objs.size + 1 ∨ b = s1.heap.objs.size := by simpa using hb
      have hle : s1.heap.objs.size ≤ b := by
        rcases e' with z | z
        · rw [z]; exact Nat.le_add_right _ _
        · rw [z]; exact Nat.le_refl _
      exact I1.fpOk hle (I1.hok.fresh hle)
    · obtain ⟨its, rv, p', hz⟩ := I1.tuple hq
      have al : a < s1.heap.objs.size := by obtain ⟨_, q, _⟩ := p'; exact Heap.lt_size q
      refine enum_begins1 (begins_tuple a its.toArray) p' fun h' he hit hsz hk => wpAny_pyIter_enum he ?_
      have I2 : Inv X pins σ H1 { s1 with heap := h' } := I1.kept (t' := s1.toks) hk
      refine ⟨s1.heap.objs.size + 1, [s1.heap.objs.size + 1, s1.heap.objs.size], _, _, H1, rfl, I2, turn_enumT a (s1.heap.objs.size + 1) s1.heap.objs.size, ⟨⟨.none, he⟩, ⟨_, hit, rfl, rfl⟩, Nat.succ_ne_self _, Nat.ne_of_lt al, Nat.ne_of_gt (Nat.lt_succ_of_lt al)⟩, fun b hb => ?_, q⟩
      have e' : b = s1.heap.objs.size + 1 ∨ b = s1.heap.objs.size := by simpa using hb
      have hle : s1.heap.objs.size ≤ b := by
        rcases e' with z | z
        · rw [z]; exact Nat.le_add_right _ _
        · rw [z]; exact Nat.le_refl _
      exact I1.fpOk hle (I1.hok.fresh hle)
/-- the pairs of enumerate -/
def enL (xs : List D) : List D := xs.zipIdx.map fun p => D.tup [.int ((p.2 : Nat) : Int), p.1]
theorem enL_len {xs : List D} : (enL xs).length = xs.length := by unfold enL; rw [List.length_map, List.length_zipIdx]
theorem enL_get {xs : List D} {i : Nat} {y : D} (h : (enL xs)[i]? = some y) : ∃ x, xs[i]? = some x ∧ y = .tup [.int ((i : Nat) : Int), x] := by
  unfold enL at h
  rw [List.getElem?_map, List.getElem?_zipIdx] at h
  cases e : xs[i]? with
  | none => rw [e] at h; cases h
  | some x =>
    rw [e] at h
    refine ⟨x, rfl, ?_⟩
    simpa using h.symm
theorem getEn {xs : List D} {i : Nat} {x : D} (h : xs[i]? = some x) : (enL xs)[i]? = some (.tup [.int ((i : Nat) : Int), x]) := by
  unfold enL
  rw [List.getElem?_map, List.getElem?_zipIdx, h]
  simp
def enumerateI (t : DA) : DI := fun δ m R => t δ m fun ds m1 => match ds with
  | [.lst xs] => R (enL xs) (fun _ => True) m1
  | [.tup xs] => R (enL xs) (fun _ => True) m1
  | [.ptr a] => ∃ o xs, m1 a = some o ∧ seqMO o = some xs ∧ R (enL xs) (fun m2 => m2 a = some o) m1
  | _ => False
section
variable {X : Cx} {Y : XS}
theorem new_pair {K : PySem.W.Frag} {m2 : Sto} {H2 : Hp} {T : Addr} {i : Nat} {x : V} {d : D} (st : StoOk K m2 H2) (hT : H2 T = none) (r : Rp K m2 H2 x d) :
    Ext m2 H2 m2 (L2.upd H2 T (.tup [.int (i : Nat), x])) ∧ StoOk K m2 (L2.upd H2 T (.tup [.int (i : Nat), x])) ∧ Rp K m2 (L2.upd H2 T (.tup [.int (i : Nat), x])) (.ref T) (.tup [.int ((i : Nat) : Int), d]) := by
  have ex : Ext m2 H2 m2 (L2.upd H2 T (.tup [.int (i : Nat), x])) := ext_new hT
  exact ⟨ex, sto_new st hT, .tup (.inl ⟨st.free hT, .inl upd_same⟩) (.cons (.int _) (.cons (r.ext ex) .nil))⟩
theorem pdi_enumerate {elts : List Expr} {kk : Nat} {e : Expr} {t : DA} {p pos tpos : Pos} (hg : Gl X "enumerate") (hm : X.mg "enumerate" = none) (ha : PDA X Y [e] t) (hs : starEach [e] X.env = [(false, eval e X.env)] := by rfl) :
    PDI X Y (.Tuple elts kk tpos) (.Call (.Name "enumerate" p) [e] [] pos) (enumerateI t) :=
  ⟨pi_weak (pi_enumT hg hm ha.pa hs) fun σ H R ⟨δ, m, RR, en, st, h, k⟩ => lA_bind en st h fun vs H1 ds m1 r1 e1 en1 st1 rl => by
    unfold enumerateI at *
    have isL : ∀ (a : Addr) (xs : List D) (keep : Sto → Prop), vs = [.ref a] → RR (enL xs) keep m1 → (∃ zs, SqL X.K H1 a zs) → (∀ m2 H2, Ext m1 H1 m2 H2 → StoOk X.K m2 H2 → keep m2 → ∃ zs, SqL X.K H2 a zs ∧ RpL X.K m2 H2 zs xs) → ∃ a xs, vs = [V.ref a] ∧ ((SqL X.K H1 a xs ∧ R (Ite X.K a) H1) ∨ (SqT X.K H1 a xs ∧ R (IteT X.K a) H1)) := by
      intro a xs keep ev hR ⟨zs, hz⟩ low
      refine ⟨a, zs, ev, .inl ⟨hz, k _ _ _ _ _ hR e1 st1 fun m2 H2 ex s2 kp i => ?_⟩⟩
      obtain ⟨ws, hw, rw'⟩ := low m2 H2 ex s2 kp
      refine ⟨fun d hd => ?_, fun hl => ⟨ws, hw, by rw [rw'.len, ← enL_len]; exact hl⟩⟩
      obtain ⟨x, hx, ed⟩ := enL_get hd
      subst ed
      obtain ⟨v, hv, rv⟩ := rw'.get hx
      refine ⟨⟨ws, v, hw, hv⟩, fun y H3 hy => ?_⟩
      obtain ⟨T, x', ey, hT, eH, hx'⟩ := hy
      have := hx' ws hw
      rw [hv] at this
      cases this
      subst ey eH
      exact new_pair s2 hT rv
    cases rl with
    | nil => exact r1.elim
    | cons ra rb =>
      rename_i v0 vs0 d0 ds0
      cases rb with
      | cons _ _ => cases d0 <;> exact r1.elim
      | nil =>
        cases d0 with
        | lst xs =>
          obtain ⟨a, zs, rfl, fr, e, rl⟩ := ra.lstV
          exact isL a xs _ rfl r1 ⟨zs, SqL.of e⟩ fun m2 H2 ex s2 _ => ⟨zs, SqL.of (ex _ _ fr e).2, rl.ext ex⟩
        | tup xs =>
          obtain ⟨a, zs, rfl, e, rl⟩ := id ra.tupV
          refine ⟨a, zs, rfl, .inr ⟨e, k _ _ _ _ _ r1 e1 st1 fun m2 H2 ex s2 kp i => ?_⟩⟩
          obtain ⟨a', ws, ea, hw, rw'⟩ := (ra.ext ex).tupV
          cases ea
          refine ⟨fun d hd => ?_, fun hl => ⟨ws, hw, by rw [rw'.len, ← enL_len]; exact hl⟩⟩
          obtain ⟨x, hx, ed⟩ := enL_get hd
          subst ed
          obtain ⟨v, hv, rv⟩ := rw'.get hx
          refine ⟨⟨ws, v, hw, hv⟩, fun y H3 hy => ?_⟩
          obtain ⟨T, x', ey, hT, eH, hx'⟩ := hy
          have := hx' ws hw
          rw [hv] at this
          cases this
          subst ey eH
          exact new_pair s2 hT rv
        | ptr b =>
          cases ra
          obtain ⟨o, xs, h1, h2, h3⟩ := r1
          have low : ∀ m2 H2, StoOk X.K m2 H2 → m2 b = some o → ∃ zs, SqL X.K H2 b zs ∧ RpL X.K m2 H2 zs xs := fun m2 H2 s2 kp => by
            have g := s2 b o kp
            cases o with
            | lst ds => cases h2; obtain ⟨zs, e, r⟩ := g; exact ⟨zs, SqL.of e, r⟩
            | seq ds => cases h2; obtain ⟨zs, e, r⟩ := g; exact ⟨zs, .inl e, r⟩
            | _ => cases h2
          obtain ⟨zs, hz, _⟩ := low m1 H1 st1 h1
          exact isL b xs _ rfl h3 ⟨zs, hz⟩ fun m2 H2 ex s2 kp => low m2 H2 s2 kp
        | _ => exact r1.elim⟩
end
end Dl

/-! The data layer: repr of all kinds, f-strings. -/
namespace Dl
open PySem PySem.Spec PyProof.Rows L2

mutual
/-- data without lists, empty dicts among them -/
inductive PvD (m : Sto) : D → PyData → Prop
  | non : PvD m .non .none
  | bl (b : Bool) : PvD m (.bl b) (.bool b)
  | int (i : Int) : PvD m (.int i) (.int i)
  | str (x : Str) : PvD m (.str x) (.str x)
  | tup {ds : List D} {ps : List PyData} : PvDL m ds ps → PvD m (.tup ds) (.tuple ps)
  | dct {a : Addr} : m a = some (.dct []) → PvD m (.ptr a) (.dict [])
inductive PvDL (m : Sto) : List D → List PyData → Prop
  | nil : PvDL m [] []
  | cons {d : D} {ds : List D} {p : PyData} {ps : List PyData} : PvD m d p → PvDL m ds ps → PvDL m (d :: ds) (p :: ps)
end
section
variable {X : Cx} {pins : List (Addr × Obj)} {σ : L2.St} {H : Hp} {s : Shared} {m : Sto}
mutual
theorem PvD.reads (I : Inv X pins σ H s) (st : StoOk X.K m H) : ∀ {d : D} {q : PyData} {v : V} {u : Value}, PvD m d q → Rp X.K m H v d → RelV v u → ∃ as, Reads s.heap u q as ∧ sysModules ∉ as
  | _, _, _, _, .non, r, k => by cases r; cases k; exact ⟨_, .none, by simp⟩
  | _, _, _, _, .bl b, r, k => by cases r; cases k; exact ⟨_, .bool b, by simp⟩
  | _, _, _, _, .int b, r, k => by cases r; obtain ⟨t, rfl⟩ := k; exact ⟨_, .int b t, by simp⟩
  | _, _, _, _, .str b, r, k => by cases r; obtain ⟨t, rfl⟩ := k; exact ⟨_, .str b t, by simp⟩
  | _, _, _, _, .tup z, r, k => by
    obtain ⟨a, xs, rfl, h1, h2⟩ := r.tupV
    obtain ⟨its, rv, ⟨o, ho, hc, n, hd⟩, _⟩ := I.tuple h1
    cases k
    obtain ⟨as, h3, h4⟩ := PvDL.reads I st z h2 rv
    exact ⟨as, .tuple ho hc hd (by simpa using h3), h4⟩
  | _, _, _, _, .dct h, r, k => by
    cases r
    cases k
    obtain ⟨vs, e, rf⟩ := st _ _ h
    cases rf
    obtain ⟨_, hs, ws, kv, o, es, ep, ho, hx, hd, _, pr, _⟩ := dk_of I.hok e
    cases kv
    have e0 : es.toList = [] := by
      cases q : es.toList with
      | nil => rfl
      | cons a b => rw [q] at pr; cases pr
    refine ⟨_, .dict (kvs := []) (as := []) (bs := []) ho hx.1 hd (by rw [e0]; exact .nil) (by rw [e0]; exact .nil), ?_⟩
    have hs' := beq_eq_false_iff_ne.mp hs
    simp only [List.append_nil, List.mem_singleton]
    exact fun z => hs' z.symm
theorem PvDL.reads (I : Inv X pins σ H s) (st : StoOk X.K m H) : ∀ {ds : List D} {qs : List PyData} {vs : List V} {us : List Value}, PvDL m ds qs → RpL X.K m H vs ds → Vals vs us → ∃ as, ReadsAll s.heap us qs as ∧ sysModules ∉ as
  | _, _, _, _, .nil, r, k => by cases r; cases k; exact ⟨_, .nil, by simp⟩
  | _, _, _, _, .cons a b, r, k => by
    cases r with
    | cons r1 r2 =>
      cases k with
      | cons k1 k2 =>
        obtain ⟨as, h1, h2⟩ := PvD.reads I st a r1 k1
        obtain ⟨bs, h3, h4⟩ := PvDL.reads I st b r2 k2
        exact ⟨_, .cons h1 h3, by simp [h2, h4]⟩
end
end
/-- the text that repr tells of d -/
inductive RepIs (m : Sto) : D → Str → Prop
  | int {i : Int} (h : i.natAbs.log2 < 1920) : RepIs m (.int i) (toString i)
  | str {x : Str} (h : (reprText x).length ≤ sizeLine) : RepIs m (.str x) (reprText x)
  | bl (b : Bool) : RepIs m (.bl b) (if b then "True" else "False")
  | non : RepIs m .non "None"
  | seq {d : D} {q : PyData} (h : Pv m d q) (h1 : q.showable = true) (h2 : q.hasDict = false) (h3 : q.shown.length ≤ sizeLine) (h4 : q.depth ≤ 50) (h5 : match q with | .list _ => True | .tuple _ => True | _ => False) : RepIs m d q.shown
  | dct {d : D} {q : PyData} (h : PvD m d q) (h1 : q.showable = true) (h3 : q.shown.length ≤ sizeLine) (h4 : q.depth ≤ 50) (h5 : match q with | .dict _ => True | .tuple _ => True | _ => False) : RepIs m d q.shown
def reprE : OL := fun ds m R => match ds with
  | [d] => ∃ x, RepIs m d x ∧ R (.str x) m
  | _ => False
section
variable {X : Cx} {Y : XS}
theorem cd_reprE (hg : X.A.guards = some []) (hu : X.A.units + 64 < cLine) : CallD X (.builtin "repr") reprE := ⟨by
  intro pins s σ H xs us Q I r ⟨m, ds, R, rl, st, h, k⟩
  unfold reprE at h
  split at h
  · rename_i d
    obtain ⟨v, rfl, r1⟩ := rl.one
    obtain ⟨x, hx, hR⟩ := h
    obtain ⟨u, rfl, ru⟩ := vals1 r
    cases hx with
    | int hi =>
      cases r1
      obtain ⟨t, rfl⟩ := ru
      exact PySem.P.repr_of_int hi ⟨.str _, H, I.tok _, ⟨_, rfl⟩, k _ _ _ _ hR Ext.rfl st (.str _)⟩
    | str hi =>
      cases r1
      obtain ⟨t, rfl⟩ := ru
      exact PySem.P.repr_of_str ⟨.str _, H, I.tok _, ⟨_, rfl⟩, k _ _ _ _ hR Ext.rfl st (.str _)⟩ hi
    | bl b =>
      cases r1
      cases ru
      exact PySem.P.repr_of_bool ⟨.str _, H, I.tok _, ⟨_, rfl⟩, k _ _ _ _ hR Ext.rfl st (.str _)⟩
    | non =>
      cases r1
      cases ru
      exact PySem.P.repr_of_none ⟨.str _, H, I.tok _, ⟨_, rfl⟩, k _ _ _ _ hR Ext.rfl st (.str _)⟩
    | @seq _ q h0 h1 h2 h3 h4 h5 =>
      have z : ∃ a, v = .ref a := by
        cases h0 with
        | lst _ => obtain ⟨a, _, e, _⟩ := r1.lstV; exact ⟨a, e⟩
        | tup _ => obtain ⟨a, _, e, _⟩ := r1.tupV; exact ⟨a, e⟩
        | ptr _ _ _ => cases r1; exact ⟨_, rfl⟩
        | _ => exact h5.elim
      obtain ⟨a, rfl⟩ := z
      obtain ⟨as, hr⟩ := Dp.reads I q _ u (h0.dp st r1) ru
      cases ru
      exact repr_of_reads' hr h1 (PyData.noDict_hsm h2) hg (by omega) (fun _ _ e => e) (fun h' u tk hk => ⟨.str _, H, I.kept hk, ⟨_, rfl⟩, k _ _ _ _ hR Ext.rfl st (.str _)⟩) h3
    | @dct _ q h0 h1 h3 h4 h5 =>
      have z : ∃ a, v = .ref a := by
        cases h0 with
        | tup _ => obtain ⟨a, _, e, _⟩ := r1.tupV; exact ⟨a, e⟩
        | dct _ => cases r1; exact ⟨_, rfl⟩
        | _ => exact h5.elim
      obtain ⟨a, rfl⟩ := z
      obtain ⟨as, hr, hs⟩ := h0.reads I st r1 ru
      cases ru
      exact repr_of_reads' hr h1 (fun _ => hs) hg (by omega) (fun _ _ e => e) (fun h' u tk hk => ⟨.str _, H, I.kept hk, ⟨_, rfl⟩, k _ _ _ _ hR Ext.rfl st (.str _)⟩) h3
  · exact h.elim⟩

/-! ### f-strings -/
/-- {e} -/
def dFmt (e : DE) : DE := fun δ m R => e δ m fun d m1 => match d with
  | .str y => y.length ≤ sizeLine ∧ R (.str y) m1
  | .int i => i.natAbs.log2 < 1920 ∧ R (.str (toString i)) m1
  | _ => False
theorem pd_fmt {e : Expr} {de : DE} {pos : Pos} (he : PD X Y e de) : PD X Y (.FormattedValue e (-1) none pos) (dFmt de) :=
  ⟨pe_weak (pe_fmt he.pe) fun σ H Q ⟨δ, m, R, en, st, h, k⟩ => lE_bind en st h fun v H1 d m1 r1 e1 en1 st1 rp1 => by
    cases d with
    | str y =>
      cases rp1
      exact .inl ⟨y, rfl, r1.1, k _ _ _ _ r1.2 e1 st1 (.str _)⟩
    | int i =>
      cases rp1
      exact .inr ⟨i, rfl, r1.1, k _ _ _ _ r1.2 e1 st1 (.str _)⟩
    | _ => exact r1.elim⟩
def dJs : List DE → Str → Ev → Sto → (Str → Sto → Prop) → Prop
  | [], acc, _, m, R => R acc m
  | t :: ts, acc, δ, m, R => t δ m fun d m1 => match d with
    | .str y => (acc ++ y).length ≤ sizeLine ∧ dJs ts (acc ++ y) δ m1 R
    | _ => False
inductive PDJ (X : Cx) (Y : XS) : List Expr → List DE → Prop where
  | nil : PDJ X Y [] []
  | cons {e : Expr} {t : DE} {es : List Expr} {ts : List DE} (h : PD X Y e t) (r : PDJ X Y es ts) : PDJ X Y (e :: es) (t :: ts)
theorem PDJ.low {es : List Expr} {ts : List DE} (h : PDJ X Y es ts) : PJ X es (ts.map (lE X.K Y)) := by
  induction h with
  | nil => exact .nil
  | cons h _ ih => exact .cons h.pe ih
theorem js_low {K : PySem.W.Frag} {Y : XS} {σ : L2.St} {δ : Ev} : ∀ {ts : List DE} {acc : Str} {m : Sto} {H : Hp} {R : Str → Sto → Prop} {Q : Str → Hp → Prop}, EnvOk K Y m H σ δ → StoOk K m H → dJs ts acc δ m R →
    (∀ x H' m', R x m' → Ext m H m' H' → StoOk K m' H' → Q x H') → tJs (ts.map (lE K Y)) acc σ H Q
  | [], acc, m, H, R, Q, en, st, h, k => k acc H m h Ext.rfl st
  | t :: ts, acc, m, H, R, Q, en, st, h, k => lE_bind en st h fun v H1 d m1 r1 e1 en1 st1 rp1 => by
    cases d with
    | str y =>
      cases rp1
      exact ⟨y, rfl, r1.1, js_low en1 st1 r1.2 fun x H' m' q ex s => k x H' m' q (e1.trans ex) s⟩
    | _ => exact r1.elim
/-- f'..' of two parts or more -/
def dJoined (ts : List DE) : DE := fun δ m R => dJs ts Str.empty δ m fun x m1 => R (.str x) m1
theorem pd_joined {v1 v2 : Expr} {rest : List Expr} {ts : List DE} {pos : Pos} (h : PDJ X Y (v1 :: v2 :: rest) ts) : PD X Y (.JoinedStr (v1 :: v2 :: rest) pos) (dJoined ts) :=
  ⟨pe_weak (pe_joined h.low) fun σ H Q ⟨δ, m, R, en, st, h, k⟩ => js_low en st h fun x H' m' q ex s => k _ _ _ _ q ex s (.str _)⟩
end
end Dl

/-! The data layer: t[::-1] of a tuple or a list. -/
namespace Dl
open PySem PySem.Spec PyProof.Rows L2
section
variable {prog : Program} {w : World} {A : Around} {E : Value → Shared → Prop} {s : Shared}
theorem sliceApplied_rev {sl : Addr} {vs : Value} {n : Nat} {Q : Int × Int × Nat → Shared → Prop} {vl vu : Value} (hs : s.heap.IsSliceOf sl vl vu vs) (pl : IsPart vl none) (pu : IsPart vu none) (ps : IsPart vs (some (-1)))
    (h : Q ((n : Int) - 1, -1, n) s) : wpAny (model prog w) A (Builtin.Slice.sliceApplied (.ref sl) (pure (n : Int))) Q E s := by
  obtain ⟨os, hos, hcs, hds⟩ := id hs
  unfold Builtin.Slice.sliceApplied Builtin.Slice.sliceFields
  refine wpAny_bind (wpAny_bind (wpAny_field hos hds (x := vl) rfl (wpAny_bind (wpAny_field hos hds (x := vu) rfl (wpAny_bind (wpAny_field hos hds (x := vs) rfl (wpAny_pure ?_)))))))
  refine wpAny_bind (HT.slicePart_ ps ?_)
  show wpAny _ _ (if ((-1 : Int) == 0) = true then _ else _) _ _ s
  rw [if_neg (by decide)]
  refine wpAny_bind (HT.slicePart_ pl (wpAny_bind (HT.slicePart_ pu (wpAny_bind (wpAny_pure ?_)))))
  show wpAny _ _ (pure (((n : Int) - 1), (-1 : Int), Builtin.Slice.slicePlaces ((n : Int) - 1) (-1) (-1))) _ _ s
  have e : Builtin.Slice.slicePlaces ((n : Int) - 1) (-1) (-1) = n := by
    unfold Builtin.Slice.slicePlaces
    have h1 : ¬ ((-1 : Int) > 0) := by decide
    simp only [h1, if_false]
    have h2 : (-(-1 : Int)) = 1 := by decide
    rw [h2, Int.ediv_one]
    split <;> omega
  rw [e]
  exact wpAny_pure h
theorem fm_congr {α β : Type} {f g : α → Option β} : ∀ {l : List α}, (∀ a ∈ l, f a = g a) → l.filterMap f = l.filterMap g
  | [], _ => rfl
  | a :: l, h => by rw [List.filterMap_cons, List.filterMap_cons, h a List.mem_cons_self, fm_congr fun b hb => h b (List.mem_cons_of_mem _ hb)]
theorem rev_pick (xs : Array Value) : ((List.range xs.size).filterMap fun (k : Nat) => xs[(((xs.size : Int) - 1) + (k : Int) * (-1)).toNat]?).toArray = xs.toList.reverse.toArray := by
  have e : ∀ k ∈ List.range xs.size, (fun (k : Nat) => xs[(((xs.size : Int) - 1) + (k : Int) * (-1)).toNat]?) k = ((xs[·]?) ∘ fun k => xs.size - 1 - k) k := fun k hk => by
    have := List.mem_range.mp hk
    have e : (((xs.size : Int) - 1) + (k : Int) * (-1)).toNat = xs.size - 1 - k := by omega
    show xs[(((xs.size : Int) - 1) + (k : Int) * (-1)).toNat]? = xs[xs.size - 1 - k]?
    rw [e]
  rw [fm_congr e, ← List.filterMap_map, PySem.W.krv_range, List.filterMap_reverse, PySem.W.krv_all]
theorem getItem_tuple_rev {t sl : Addr} {items : Array Value} {vl vu vs : Value} {Q : Value → Shared → Prop} (ht : IsTup s.heap t items) (hs : s.heap.IsSliceOf sl vl vu vs) (pl : IsPart vl none) (pu : IsPart vu none) (ps : IsPart vs (some (-1)))
    (h : Q (.ref s.heap.objs.size) { s with heap := s.heap.push { cls := .type "tuple", data := .seq items.toList.reverse.toArray } }) (hsz : items.size ≤ sizeLine) : wpAny (model prog w) A (getItem (.ref t) (.ref sl)) Q E s := by
  have htake : sizeOk (.seq items.toList.reverse.toArray) := by
    show items.toList.reverse.toArray.size ≤ sizeLine
    rw [List.size_toArray, List.length_reverse, Array.length_toList]
    exact hsz
  obtain ⟨os, hos, hcs, hds⟩ := id hs
  have hTs : s.TypeIs (.ref sl) "slice" := ⟨os, hos, hcs⟩
  unfold getItem
  try with_reducible refine wpAny_holding ?_
  first | refine wpAny_bind (wpAny_pure ?_) | skip
  refine wpAny_bind (wpAny_sequenceKey ht.typeIs (by decide) ?_)
  refine wpAny_bind (wpAny_callSpecial?_slot (name := Str.ofString "__getitem__") ht.typeIs PyProof.Rows.slot_tuple_getitem
    (wpAny_call_entry PyProof.Rows.slot_tuple_getitem ht.typeIs entry_tuple_getitem ?_ (args_tuple_getitem _ _)))
  show wpAny _ _ (Builtin.Tuple.tupleItemsOf (.ref t) >>= _) _ _ s
  refine wpAny_bind (tupleItemsOf_ ht ?_)
  refine wpAny_bind (wpAny_typeOf hTs ?_)
  rw [if_pos (by decide)]
  refine wpAny_bind (sliceApplied_rev hs pl pu ps ?_)
  have hno : ¬ ((((items.size : Int) - 1) == 0 && (-1 : Int) == 1 && items.size == items.size) = true) := by
    intro q
    rw [Bool.and_eq_true, Bool.and_eq_true] at q
    exact absurd q.1.2 (by decide)
  show wpAny _ _ (if ((((items.size : Int) - 1) == 0 && (-1 : Int) == 1 && items.size == items.size)) = true then _ else _) _ _ s
  rw [if_neg hno, rev_pick]
  first
    | exact wpAny_bind (m := Builtin.Tuple.tupleExact _) (wpAny_newObj_type (wpAny_pure ⟨_, rfl, wpAny_pure h⟩) htake)
    | exact wpAny_bind (m := Builtin.Tuple.tupleExact _) (wpAny_newObj_type (wpAny_bind (wpAny_pure (wpAny_pure ⟨_, rfl, wpAny_pure h⟩))) htake)
    | exact wpAny_bind (wpAny_bind (m := Builtin.Tuple.tupleExact _) (wpAny_newObj_type (wpAny_pure (wpAny_pure ⟨_, rfl, wpAny_pure h⟩)) htake))
    | exact wpAny_bind (wpAny_bind (m := Builtin.Tuple.tupleExact _) (wpAny_newObj_type (wpAny_pure ⟨_, rfl, wpAny_pure h⟩) htake))
end
def tRevA (K : PySem.W.Frag) (te : TE) : TE := fun σ H Q => te σ H fun x H1 => ∃ a xs, x = .ref a ∧ ((SqL K H1 a xs ∧ ∀ p, H1 p = none → Q (.ref p) (L2.upd H1 p (.lst xs.reverse))) ∨ (SqT K H1 a xs ∧ ∀ p, H1 p = none → Q (.ref p) (L2.upd H1 p (.tup xs.reverse))))
theorem pe_revA {X : Cx} {e : Expr} {te : TE} {k : Nat} {p1 p2 p3 pos : Pos} (he : PE X e te) : PE X (.Subscript e (.Slice none none (some (.UnaryOp .USub (.Constant (.int 1) k p1) p2)) p3) pos) (tRevA X.K te) := by
  refine ⟨fun pins s σ H Q I h => ?_⟩
  refine Subscript_ (thn (he.run pins s σ H _ I h) fun v s1 ⟨x, H1, I1, r1, q1⟩ => ?_)
  obtain ⟨a, xs, ex, q⟩ := q1
  subst ex
  cases r1
  have hst : PO X (some (.UnaryOp .USub (.Constant (.int 1) k p1) p2)) (tPart (tUn (rU fun i => .int (-i)) (tC (.int 1)))) := po_some (pe_un un_neg pe_int)
  refine wpAny_Slice (thn (po_none.run pins s1 σ H1 (fun o H2 => o = none ∧ H2 = H1) I1 ⟨rfl, rfl⟩) fun vl s2 ⟨l, H2, I2, pl, el, e2⟩ => ?_)
  subst el e2
  refine thn (po_none.run pins s2 σ H2 (fun o H3 => o = none ∧ H3 = H2) I2 ⟨rfl, rfl⟩) fun vu s3 ⟨u, H3, I3, pu, eu, e3⟩ => ?_
  subst eu e3
  refine thn (hst.run pins s3 σ H3 (fun o H4 => o = some (-1) ∧ H4 = H3) I3 ⟨1, rfl, -1, rfl, rfl, rfl⟩) fun vs s4 ⟨o, H4, I4, ps, eo, e4⟩ => ?_
  subst eo e4
  have I5 : Inv X pins σ H4 { s4 with heap := s4.heap.push { cls := .type "slice", data := .fields #[vl, vu, vs] } } := I4.kept (t' := s4.toks) fun b ob q => Heap.get?_push_of_some _ q
  show wpAny (model X.prog X.w) X.A (subscriptTail e (.Slice none none (some (.UnaryOp .USub (.Constant (.int 1) k p1) p2)) p3) (.ref a) (.ref s4.heap.objs.size)) (EP X pins σ Q) X.xe { s4 with heap := s4.heap.push { cls := .type "slice", data := .fields #[vl, vu, vs] } }
  rcases q with ⟨hx, q⟩ | ⟨hx, q⟩
  · obtain ⟨its, r, ht, hz⟩ := I5.list hx
    have hlen := r.length
    refine tail_any (ops := [.ref a, .ref s4.heap.objs.size]) ht.isList.typeIs (PySem.slot_list_getitem.lookup) ?_ (by with_unfolding_all rfl)
    refine wpAny_getItem_list_slice ht.isList (Heap.IsSliceOf.new _ vl vu vs) pl pu ps (by decide) ?_ (by rw [List.size_toArray]; omega)
    rw [PySem.W.krv_pick]
    refine ⟨.ref _, _, I5.laid (t' := s4.toks) (o := .lst xs.reverse) (fun b ob q => Heap.get?_push_of_some _ q) (Nat.le_refl _) ?_, rfl, q _ (I5.hok.fresh (Nat.le_refl _))⟩
    exact ⟨by rw [List.length_reverse]; exact hz, _, 0, r.reverse, Heap.get?_push_size _ rfl⟩
  · obtain ⟨its, r, ht, hz⟩ := I5.tuple hx
    have hlen := r.length
    refine tail_any (ops := [.ref a, .ref s4.heap.objs.size]) ht.typeIs PyProof.Rows.slot_tuple_getitem.lookup ?_ (by with_unfolding_all rfl)
    refine getItem_tuple_rev ht (Heap.IsSliceOf.new _ vl vu vs) pl pu ps ?_ (by rw [List.size_toArray]; omega)
    refine ⟨.ref _, _, I5.laid (t' := s4.toks) (o := .tup xs.reverse) (fun b ob q => Heap.get?_push_of_some _ q) (Nat.le_refl _) ?_, rfl, q _ (I5.hok.fresh (Nat.le_refl _))⟩
    exact ⟨by rw [List.length_reverse]; exact hz, _, r.reverse, IsTup.new _ _⟩
/-- x[::-1] -/
def dRevA (b : Bool) (e : DE) : DE := fun δ m R => e δ m fun d m1 => match d with
  | .tup xs => R (.tup xs.reverse) m1
  | d => ∃ xs, LstIs m1 d xs ∧ newL b xs.reverse m1 R
theorem pd_revA {X : Cx} {Y : XS} {a : Expr} {da : DE} {pos : Pos} (b : Bool) {k : Nat} {p1 p2 p3 : Pos} (he : PD X Y a da) : PD X Y (.Subscript a (.Slice none none (some (.UnaryOp .USub (.Constant (.int 1) k p1) p2)) p3) pos) (dRevA b da) :=
  ⟨pe_weak (pe_revA he.pe) fun σ H Q ⟨δ, m, R, en, st, h, k⟩ => lE_bind en st h fun v H1 d m1 r1 e1 en1 st1 rp1 => by
    have lst : (∃ xs, LstIs m1 d xs ∧ newL b xs.reverse m1 R) → ∃ a xs, v = .ref a ∧ ((SqL X.K H1 a xs ∧ ∀ p, H1 p = none → Q (.ref p) (L2.upd H1 p (.lst xs.reverse))) ∨ (SqT X.K H1 a xs ∧ ∀ p, H1 p = none → Q (.ref p) (L2.upd H1 p (.tup xs.reverse)))) := by
      rintro ⟨xs, h1, h2⟩
      obtain ⟨a, vs, rfl, q, rl⟩ := h1.low rp1 st1
      refine ⟨a, vs, rfl, .inl ⟨SqL.of q, fun p hp => ?_⟩⟩
      obtain ⟨d, m', q1, q2, q3, q4⟩ := newL_ok h2 st1 rl.rev hp
      exact k _ _ d m' q1 (e1.trans q2) q3 q4
    cases d with
    | tup xs =>
      obtain ⟨a, vs, rfl, q, rl⟩ := rp1.tupV
      refine ⟨a, vs, rfl, .inr ⟨q, fun p hp => ?_⟩⟩
      have ex : Ext m1 H1 m1 (L2.upd H1 p (.tup vs.reverse)) := ext_new hp
      exact k _ _ _ _ r1 (e1.trans ex) (sto_new st1 hp) (.tup (.inl ⟨st1.free hp, .inl upd_same⟩) (rl.rev.ext ex))
    | lst xs => exact lst r1
    | ptr a => exact lst r1
    | _ => exact lst r1⟩
theorem room1 {k : Nat} {A : Around} (r : Room k A) : A.units + 1 < cLine := by have := room_big r; omega
end Dl

/-! The data layer: a, b = x, y told from the right. -/
namespace Dl
open PySem PySem.Spec PyProof.Rows L2
def dPar (i j : Nat) (t : DA) : DS := fun P δ m => t δ m fun ds m1 => match ds with
  | [a, b] => P.nx ((δ.put i a).put j b) m1
  | _ => False
theorem pds_par {X : Cx} {Y : XS} {i j : Nat} {x y : Str} {a b : Expr} {ta : DA} {px py pt pos : Pos} {kt k2 pt2} (hN : X.N.Nodup) (hi : X.N[i]? = some x) (hj : X.N[j]? = some y) (hij : i ≠ j)
    (hx : X.env.scope.names.lookup x = some .local) (hy : X.env.scope.names.lookup y = some .local) (ha : PDA X Y [a, b] ta)
    (hw : swappedStores [.Tuple [.Name x px, .Name y py] kt pt] (.Tuple [a, b] k2 pt2) X.env = pure (some [x, y])) (hc : X.calm = true := by rfl)
    (hs : swapsWithSole [.Tuple [.Name x px, .Name y py] kt pt] (.Tuple [a, b] k2 pt2) pos.line X.env = pure false := by rfl) :
    PDS X Y (.Assign [.Tuple [.Name x px, .Name y py] kt pt] (.Tuple [a, b] k2 pt2) pos) (dPar i j ta) :=
  ⟨ps_weak (ps_par hc hN hi hj hij hx hy ha.pa hw hs) fun E σ H ⟨δ, m, P, en, st, h, k⟩ => lA_bind en st h fun vs H1 ds m1 r1 e1 en1 st1 rp => by
    split at r1
    · cases rp with
      | cons p q =>
        cases q with
        | cons p' q' =>
          cases q'
          exact ⟨_, _, rfl, k.nx _ _ _ _ r1 e1 ((en1.set i p).set j p') st1⟩
    · exact r1.elim⟩
/-- int(text) -/
def intSD : OL := fun ds m R => match ds with
  | [.str a] => ∃ n, PySem.intText? a = some n ∧ a.length ≤ 640 ∧ R (.int n) m
  | _ => False
theorem cd_intS {X : Cx} : CallD X (.type "int") intSD := ⟨cr_weak call_int_str fun xs H Q ⟨m, ds, R, r, st, h, k⟩ => by
  unfold intSD at h
  split at h
  · obtain ⟨v, rfl, r1⟩ := r.one
    cases r1
    obtain ⟨n, h1, h2, h3⟩ := h
    exact ⟨_, n, rfl, h1, h2, k _ _ _ _ h3 Ext.rfl st (.int _)⟩
  · exact h.elim⟩
/-! ### methods that only look at a list -/
abbrev OF := List D → List D → Sto → (D → Sto → Prop) → Prop
structure MetF (X : Cx) (id : String) (g : OF) : Prop where
  ok : MtM X id (fun x xs H Q => ∃ m d ys ds R, LstIs m d ys ∧ Rp X.K m H x d ∧ RpL X.K m H xs ds ∧ StoOk X.K m H ∧ g ys ds m R ∧ Aft X.K m H R Q)
def dLF (g : OF) (o : DE) (t : DA) : DE := fun δ m R => o δ m fun d m1 => (∃ ys, LstIs m1 d ys) ∧ t δ m1 fun ds m2 => ∃ ys, LstIs m2 d ys ∧ g ys ds m2 R
theorem LstIs.pv {m : Sto} {d : D} {ys : List D} {qs : List PyData} (h : LstIs m d ys) (k : PvL m ys qs) : Pv m d (.list qs) := by
  cases d with
  | lst zs => cases h; exact .lst k
  | ptr a => exact .ptr (o := .lst ys) h rfl k
  | _ => exact h.elim
section
variable {X : Cx} {Y : XS} {o e : Expr} {es : List Expr} {dO : DE} {t : DA} {name : Str} {apos cpos : Pos} {id : String} {g : OF}
theorem pd_lf (pa : PlainAttrs "list") (slot : Slot "list" name id) (hty : typeOf (.builtin id) = pure (.type "method_descriptor")) (hm : MetF X id g) (ho : PD X Y o dO) (ha : PDA X Y (e :: es) t)
    (hbase : attributeBase o name X.env (eval o X.env) = eval o X.env := by rfl)
    (hfew : ((backTo cpos (starEach (e :: es) X.env)).all (fun x => !x.1) && (backToKw cpos (keywordEach [] X.env)).all (fun x => x.1.isSome)
      && decide ((e :: es).length + ([] : List Keyword).length + (if ([] : List Keyword).isEmpty then 0 else 1) < 30)) = true := by rfl)
    (hline : (apos.endLine == cpos.line) = true := by rfl) (hs : starEach (e :: es) X.env = (false, eval e X.env) :: starEach es X.env := by rfl) (hplain : (backTo cpos (starEach es X.env)).any (·.1) = false := by rfl) :
    PD X Y (.Call (.Attribute o name apos) (e :: es) [] cpos) (dLF g dO t) :=
  ⟨pe_weak (pe_bm pa slot hty hm.ok ho.pe ha.pa hbase hfew hline hs hplain) fun σ H Q ⟨δ, m, R, en, st, h, k⟩ => lE_bind en st h fun v H1 d m1 r1 e1 en1 st1 rp => by
    obtain ⟨⟨ys, h1⟩, h2⟩ := r1
    obtain ⟨a, vs, rfl, e, rl⟩ := h1.low rp st1
    exact ⟨.inl ⟨rfl, vs, SqL.of e⟩, lA_bind en1 st1 h2 fun ws H2 ds m2 ⟨zs, h3, h4⟩ e2 _ st2 rl2 => ⟨m2, d, zs, ds, R, h3, rp.ext e2, rl2, st2, h4, k.on (e1.trans e2)⟩⟩⟩
def indexF : OF := fun ys ds m R => match ds with
  | [f] => ∃ xs p j z, PvL m ys xs ∧ Pv m f p ∧ SeqAt.shaped (.list xs) = true ∧ SeqAt.shaped p = true ∧ xs[j]? = some z ∧ PyData.eqv z p = true ∧ (∀ (i : Nat) (z' : PyData), i < j → xs[i]? = some z' → PyData.eqv z' p = false) ∧ R (.int (j : Nat)) m
  | _ => False
def countF : OF := fun ys ds m R => match ds with
  | [f] => ∃ xs p, PvL m ys xs ∧ Pv m f p ∧ PyData.plainAll xs = true ∧ p.plain = true ∧ p.depth = 0 ∧ R (.int ((xs.countP fun y => PyData.eqv y p : Nat) : Int)) m
  | _ => False
theorem mf_index (hu : X.A.units + 100 < cLine) : MetF X "list.index" indexF := ⟨mt_weak (mt_indexD (by omega)) fun x xs H Q ⟨m, d, ys, ds, R, hl, rd, rl, st, h, k⟩ => by
  unfold indexF at h
  split at h
  · obtain ⟨v, rfl, r⟩ := rl.one
    obtain ⟨qs, p, j, z, h1, h2, h3, h4, h5, h6, h7, h8⟩ := h
    obtain ⟨a, vs, rfl, e, _⟩ := hl.low rd st
    exact ⟨a, v, p, qs, j, z, rfl, rfl, (hl.pv h1).dp st rd, h2.dp st r, h3, h4, h5, h6, h7, k _ _ _ _ h8 Ext.rfl st (.int _)⟩
  · exact h.elim⟩
theorem mf_count (hu : X.A.units + 100 < cLine) : MetF X "list.count" countF := ⟨by
  intro pins s σ H x xs v us Q I rx rxs ⟨m, d, ys, ds, R, hl, rd, rl, st, h, k⟩
  unfold countF at h
  split at h
  · obtain ⟨y, rfl, r⟩ := rl.one
    obtain ⟨qs, p, h1, h2, h3, h4, h5, h6⟩ := h
    obtain ⟨a, vs, rfl, e, _⟩ := hl.low rd st
    cases rx
    cases rxs with
    | cons ry rt =>
      cases rt
      obtain ⟨bs, r1⟩ := Dp.reads I p y _ (h2.dp st r) ry
      cases (hl.pv h1).dp st rd with
      | lst hs ha =>
        obtain ⟨its, rv, ⟨o, n, ho, hc, _, hd⟩, hlen⟩ := I.list hs
        obtain ⟨as, h4'⟩ := Dp.readsAll I qs _ its ha rv
        exact PySem.SeqAt.count_list_data ⟨o, ho, hc, n, hd⟩ (by simpa using h4') r1 h3 h4 (by rw [h5]; omega) ⟨.int _, H, I.tok _, ⟨_, rfl⟩, k _ _ _ _ h6 Ext.rfl st (.int _)⟩
  · exact h.elim⟩
end
end Dl

namespace K58
open PySem PySem.Spec PyProof.Rows L2 Dl 
def topS (i : Nat) : Stmt := PySem.Challenge.pw_arrivalcurves_k58_curves_and_nets_writte.main.body.getD i (.Pass ⟨0, 0, 0, 0⟩)
abbrev s_is_number : Stmt := topS 1
theorem sc_is_number : FnScope ["thing"] ["thing"] (defScope s_is_number) := ⟨rfl, rfl, rfl, by decide +kernel, rfl, by decide +kernel, by decide +kernel⟩
abbrev s_are_numbers : Stmt := topS 2
theorem sc_are_numbers : FnScope ["thing", "one"] ["thing"] (defScope s_are_numbers) := ⟨rfl, rfl, rfl, by decide +kernel, rfl, by decide +kernel, by decide +kernel⟩
abbrev s_is_curve : Stmt := topS 3
theorem sc_is_curve : FnScope ["thing", "first", "again", "rise", "row", "t"] ["thing"] (defScope s_is_curve) := ⟨rfl, rfl, rfl, by decide +kernel, rfl, by decide +kernel, by decide +kernel⟩
abbrev s_value : Stmt := topS 4
theorem sc_value : FnScope ["f", "t", "first", "again", "rise", "on"] ["f", "t"] (defScope s_value) := ⟨rfl, rfl, rfl, by decide +kernel, rfl, by decide +kernel, by decide +kernel⟩
abbrev s_up_in : Stmt := topS 5
theorem sc_up_in : FnScope ["f", "turns"] ["f", "turns"] (defScope s_up_in) := ⟨rfl, rfl, rfl, by decide +kernel, rfl, by decide +kernel, by decide +kernel⟩
abbrev s_is_name : Stmt := topS 14
theorem sc_is_name : FnScope ["thing", "sign"] ["thing"] (defScope s_is_name) := ⟨rfl, rfl, rfl, by decide +kernel, rfl, by decide +kernel, by decide +kernel⟩
abbrev s_is_route : Stmt := topS 15
theorem sc_is_route : FnScope ["names", "thing", "gone", "name"] ["names", "thing"] (defScope s_is_route) := ⟨rfl, rfl, rfl, by decide +kernel, rfl, by decide +kernel, by decide +kernel⟩
abbrev s_show_numbers : Stmt := topS 22
theorem sc_show_numbers : FnScope ["numbers", "number"] ["numbers"] (defScope s_show_numbers) := ⟨rfl, rfl, rfl, by decide +kernel, rfl, by decide +kernel, by decide +kernel⟩
abbrev s_show_curve : Stmt := topS 23
theorem sc_show_curve : FnScope ["f", "first", "again", "rise", "ahead"] ["f"] (defScope s_show_curve) := ⟨rfl, rfl, rfl, by decide +kernel, rfl, by decide +kernel, by decide +kernel⟩
abbrev s_number_in : Stmt := topS 24
theorem sc_number_in : FnScope ["word", "sign"] ["word"] (defScope s_number_in) := ⟨rfl, rfl, rfl, by decide +kernel, rfl, by decide +kernel, by decide +kernel⟩
abbrev s_numbers_in : Stmt := topS 25
theorem sc_numbers_in : FnScope ["text", "found", "word"] ["text"] (defScope s_numbers_in) := ⟨rfl, rfl, rfl, by decide +kernel, rfl, by decide +kernel, by decide +kernel⟩
abbrev s_keeps_bounds : Stmt := topS 26
theorem sc_keeps_bounds : FnScope ["f", "first", "again", "rise", "number"] ["f"] (defScope s_keeps_bounds) := ⟨rfl, rfl, rfl, by decide +kernel, rfl, by decide +kernel, by decide +kernel⟩
abbrev s_curve_in : Stmt := topS 27
theorem sc_curve_in : FnScope ["text", "parts", "first", "again", "rise", "found"] ["text"] (defScope s_curve_in) := ⟨rfl, rfl, rfl, by decide +kernel, rfl, by decide +kernel, by decide +kernel⟩
abbrev s_read_curve : Stmt := topS 28
theorem sc_read_curve : FnScope ["text", "found"] ["text"] (defScope s_read_curve) := ⟨rfl, rfl, rfl, by decide +kernel, rfl, by decide +kernel, by decide +kernel⟩
abbrev s_show_net : Stmt := topS 29
theorem sc_show_net : FnScope ["net", "lines", "name", "curve", "route"] ["net"] (defScope s_show_net) := ⟨rfl, rfl, rfl, by decide +kernel, rfl, by decide +kernel, by decide +kernel⟩
abbrev s_server_in : Stmt := topS 30
theorem sc_server_in : FnScope ["words", "servers", "name", "curve"] ["words", "servers"] (defScope s_server_in) := ⟨rfl, rfl, rfl, by decide +kernel, rfl, by decide +kernel, by decide +kernel⟩
abbrev s_stream_in : Stmt := topS 31
theorem sc_stream_in : FnScope ["words", "servers", "streams", "at", "route", "one", "curve", "name"] ["words", "servers", "streams"] (defScope s_stream_in) := ⟨rfl, rfl, rfl, by decide +kernel, rfl, by decide +kernel, by decide +kernel⟩
abbrev s_part_in : Stmt := topS 32
theorem sc_part_in : FnScope ["line", "servers", "streams", "words"] ["line", "servers", "streams"] (defScope s_part_in) := ⟨rfl, rfl, rfl, by decide +kernel, rfl, by decide +kernel, by decide +kernel⟩
abbrev s_read_net : Stmt := topS 33
theorem sc_read_net : FnScope ["text", "servers", "streams", "lines", "at", "line", "part"] ["text"] (defScope s_read_net) := ⟨rfl, rfl, rfl, by decide +kernel, rfl, by decide +kernel, by decide +kernel⟩
abbrev s_common_measure : Stmt := topS 37
theorem sc_common_measure : FnScope ["a", "b"] ["a", "b"] (defScope s_common_measure) := ⟨rfl, rfl, rfl, by decide +kernel, rfl, by decide +kernel, by decide +kernel⟩
abbrev s_goes_on_by : Stmt := topS 38
theorem sc_goes_on_by : FnScope ["again", "rise", "round_here", "long", "step", "k"] ["again", "rise", "round_here"] (defScope s_goes_on_by) := ⟨rfl, rfl, rfl, by decide +kernel, rfl, by decide +kernel, by decide +kernel⟩
abbrev s_shortest_round : Stmt := topS 39
theorem sc_shortest_round : FnScope ["again", "rise", "long", "round_here"] ["again", "rise"] (defScope s_shortest_round) := ⟨rfl, rfl, rfl, by decide +kernel, rfl, by decide +kernel, by decide +kernel⟩
abbrev s_reduced : Stmt := topS 40
theorem sc_reduced : FnScope ["first", "again", "rise", "at", "back", "round_here", "turned", "k"] ["first", "again", "rise"] (defScope s_reduced) := ⟨rfl, rfl, rfl, by decide +kernel, rfl, by decide +kernel, by decide +kernel⟩
abbrev s_told : Stmt := topS 41
theorem sc_told : FnScope ["numbers", "at", "round_here", "rise", "found"] ["numbers", "at", "round_here", "rise"] (defScope s_told) := ⟨rfl, rfl, rfl, by decide +kernel, rfl, by decide +kernel, by decide +kernel⟩
abbrev s_plain : Stmt := topS 42
theorem sc_plain : FnScope ["f"] ["f"] (defScope s_plain) := ⟨rfl, rfl, rfl, by decide +kernel, rfl, by decide +kernel, by decide +kernel⟩
abbrev s_common_round : Stmt := topS 43
theorem sc_common_round : FnScope ["f", "g", "one", "other", "found"] ["f", "g"] (defScope s_common_round) := ⟨rfl, rfl, rfl, by decide +kernel, rfl, by decide +kernel, by decide +kernel⟩
abbrev s_both_firsts : Stmt := topS 44
theorem sc_both_firsts : FnScope ["f", "g"] ["f", "g"] (defScope s_both_firsts) := ⟨rfl, rfl, rfl, by decide +kernel, rfl, by decide +kernel, by decide +kernel⟩
abbrev s_plus : Stmt := topS 46
theorem sc_plus : FnScope ["f", "g", "round_here", "begin", "numbers", "t"] ["f", "g"] (defScope s_plus) := ⟨rfl, rfl, rfl, by decide +kernel, rfl, by decide +kernel, by decide +kernel⟩
abbrev s_law_pen : Stmt := topS 48
theorem sc_law_pen : FnScope ["script"] ["script"] (defScope s_law_pen) := ⟨rfl, rfl, rfl, by decide +kernel, rfl, by decide +kernel, by decide +kernel⟩
abbrev s_law_draw : Stmt := topS 49
theorem sc_law_draw : FnScope ["pen", "many", "found", "at", "cell", "number"] ["pen", "many"] (defScope s_law_draw) := ⟨rfl, rfl, rfl, by decide +kernel, rfl, by decide +kernel, by decide +kernel⟩
abbrev s_law_names : Stmt := topS 50
theorem sc_law_names : FnScope ["pen", "many", "letters", "way", "begin", "words", "k", "base", "long", "at"] ["pen", "many"] (defScope s_law_names) := ⟨rfl, rfl, rfl, by decide +kernel, rfl, by decide +kernel, by decide +kernel⟩
abbrev s_law_any_curve : Stmt := topS 51
theorem sc_law_any_curve : FnScope ["pen", "many", "round_here", "far", "row", "k", "up", "rise"] ["pen"] (defScope s_law_any_curve) := ⟨rfl, rfl, rfl, by decide +kernel, rfl, by decide +kernel, by decide +kernel⟩
abbrev s_law_numbers_text : Stmt := topS 52
theorem sc_law_numbers_text : FnScope ["numbers", "number"] ["numbers"] (defScope s_law_numbers_text) := ⟨rfl, rfl, rfl, by decide +kernel, rfl, by decide +kernel, by decide +kernel⟩
abbrev s_law_curve_text : Stmt := topS 53
theorem sc_law_curve_text : FnScope ["curve", "first", "again", "rise"] ["curve"] (defScope s_law_curve_text) := ⟨rfl, rfl, rfl, by decide +kernel, rfl, by decide +kernel, by decide +kernel⟩
abbrev s_law_net_text : Stmt := topS 54
theorem sc_law_net_text : FnScope ["net", "lines", "name", "curve", "route"] ["net"] (defScope s_law_net_text) := ⟨rfl, rfl, rfl, by decide +kernel, rfl, by decide +kernel, by decide +kernel⟩
abbrev s_law_any_route : Stmt := topS 55
theorem sc_law_any_route : FnScope ["pen", "names", "left", "found", "k"] ["pen", "names"] (defScope s_law_any_route) := ⟨rfl, rfl, rfl, by decide +kernel, rfl, by decide +kernel, by decide +kernel⟩
abbrev s_law_net : Stmt := topS 56
theorem sc_law_net : FnScope ["pen", "names", "servers", "name", "streams"] ["pen"] (defScope s_law_net) := ⟨rfl, rfl, rfl, by decide +kernel, rfl, by decide +kernel, by decide +kernel⟩
abbrev s_law : Stmt := topS 57
theorem sc_law : FnScope ["script", "pen", "net", "curves", "turn", "kept", "curve", "text", "found", "total"] ["script"] (defScope s_law) := ⟨rfl, rfl, rfl, by decide +kernel, rfl, by decide +kernel, by decide +kernel⟩
structure Ad where
  f_is_number : Addr
  d_is_number : FuncData
  f_are_numbers : Addr
  d_are_numbers : FuncData
  f_is_curve : Addr
  d_is_curve : FuncData
  f_value : Addr
  d_value : FuncData
  f_up_in : Addr
  d_up_in : FuncData
  f_is_name : Addr
  d_is_name : FuncData
  f_is_route : Addr
  d_is_route : FuncData
  f_show_numbers : Addr
  d_show_numbers : FuncData
  f_show_curve : Addr
  d_show_curve : FuncData
  f_number_in : Addr
  d_number_in : FuncData
  f_numbers_in : Addr
  d_numbers_in : FuncData
  f_keeps_bounds : Addr
  d_keeps_bounds : FuncData
  f_curve_in : Addr
  d_curve_in : FuncData
  f_read_curve : Addr
  d_read_curve : FuncData
  f_show_net : Addr
  d_show_net : FuncData
  f_server_in : Addr
  d_server_in : FuncData
  f_stream_in : Addr
  d_stream_in : FuncData
  f_part_in : Addr
  d_part_in : FuncData
  f_read_net : Addr
  d_read_net : FuncData
  f_common_measure : Addr
  d_common_measure : FuncData
  f_goes_on_by : Addr
  d_goes_on_by : FuncData
  f_shortest_round : Addr
  d_shortest_round : FuncData
  f_reduced : Addr
  d_reduced : FuncData
  f_told : Addr
  d_told : FuncData
  f_plain : Addr
  d_plain : FuncData
  f_common_round : Addr
  d_common_round : FuncData
  f_both_firsts : Addr
  d_both_firsts : FuncData
  f_plus : Addr
  d_plus : FuncData
  f_law_pen : Addr
  d_law_pen : FuncData
  f_law_draw : Addr
  d_law_draw : FuncData
  f_law_names : Addr
  d_law_names : FuncData
  f_law_any_curve : Addr
  d_law_any_curve : FuncData
  f_law_numbers_text : Addr
  d_law_numbers_text : FuncData
  f_law_curve_text : Addr
  d_law_curve_text : FuncData
  f_law_net_text : Addr
  d_law_net_text : FuncData
  f_law_any_route : Addr
  d_law_any_route : FuncData
  f_law_net : Addr
  d_law_net : FuncData
  f_law : Addr
  d_law : FuncData
  c_CurveError : Addr
  c_TooLong : Addr
  c_NoText : Addr
structure Tx (K : PySem.W.Frag) (mg : Str → Option Value) (A : Ad) : Prop where
  F_is_number : Fun K "is_number" "is_number" s_is_number A.f_is_number A.d_is_number
  b_is_number : Binds K A.d_is_number ["thing"] []
  g_is_number : mg "is_number" = some (.ref A.f_is_number)
  F_are_numbers : Fun K "are_numbers" "are_numbers" s_are_numbers A.f_are_numbers A.d_are_numbers
  b_are_numbers : Binds K A.d_are_numbers ["thing"] []
  g_are_numbers : mg "are_numbers" = some (.ref A.f_are_numbers)
  F_is_curve : Fun K "is_curve" "is_curve" s_is_curve A.f_is_curve A.d_is_curve
  b_is_curve : Binds K A.d_is_curve ["thing"] []
  g_is_curve : mg "is_curve" = some (.ref A.f_is_curve)
  F_value : Fun K "value" "value" s_value A.f_value A.d_value
  b_value : Binds K A.d_value ["f", "t"] []
  g_value : mg "value" = some (.ref A.f_value)
  F_up_in : Fun K "up_in" "up_in" s_up_in A.f_up_in A.d_up_in
  b_up_in : Binds K A.d_up_in ["f", "turns"] []
  g_up_in : mg "up_in" = some (.ref A.f_up_in)
  F_is_name : Fun K "is_name" "is_name" s_is_name A.f_is_name A.d_is_name
  b_is_name : Binds K A.d_is_name ["thing"] []
  g_is_name : mg "is_name" = some (.ref A.f_is_name)
  F_is_route : Fun K "is_route" "is_route" s_is_route A.f_is_route A.d_is_route
  b_is_route : Binds K A.d_is_route ["names", "thing"] []
  g_is_route : mg "is_route" = some (.ref A.f_is_route)
  F_show_numbers : Fun K "show_numbers" "show_numbers" s_show_numbers A.f_show_numbers A.d_show_numbers
  b_show_numbers : Binds K A.d_show_numbers ["numbers"] []
  g_show_numbers : mg "show_numbers" = some (.ref A.f_show_numbers)
  F_show_curve : Fun K "show_curve" "show_curve" s_show_curve A.f_show_curve A.d_show_curve
  b_show_curve : Binds K A.d_show_curve ["f"] []
  g_show_curve : mg "show_curve" = some (.ref A.f_show_curve)
  F_number_in : Fun K "number_in" "number_in" s_number_in A.f_number_in A.d_number_in
  b_number_in : Binds K A.d_number_in ["word"] []
  g_number_in : mg "number_in" = some (.ref A.f_number_in)
  F_numbers_in : Fun K "numbers_in" "numbers_in" s_numbers_in A.f_numbers_in A.d_numbers_in
  b_numbers_in : Binds K A.d_numbers_in ["text"] []
  g_numbers_in : mg "numbers_in" = some (.ref A.f_numbers_in)
  F_keeps_bounds : Fun K "keeps_bounds" "keeps_bounds" s_keeps_bounds A.f_keeps_bounds A.d_keeps_bounds
  b_keeps_bounds : Binds K A.d_keeps_bounds ["f"] []
  g_keeps_bounds : mg "keeps_bounds" = some (.ref A.f_keeps_bounds)
  F_curve_in : Fun K "curve_in" "curve_in" s_curve_in A.f_curve_in A.d_curve_in
  b_curve_in : Binds K A.d_curve_in ["text"] []
  g_curve_in : mg "curve_in" = some (.ref A.f_curve_in)
  F_read_curve : Fun K "read_curve" "read_curve" s_read_curve A.f_read_curve A.d_read_curve
  b_read_curve : Binds K A.d_read_curve ["text"] []
  g_read_curve : mg "read_curve" = some (.ref A.f_read_curve)
  F_show_net : Fun K "show_net" "show_net" s_show_net A.f_show_net A.d_show_net
  b_show_net : Binds K A.d_show_net ["net"] []
  g_show_net : mg "show_net" = some (.ref A.f_show_net)
  F_server_in : Fun K "server_in" "server_in" s_server_in A.f_server_in A.d_server_in
  b_server_in : Binds K A.d_server_in ["words", "servers"] []
  g_server_in : mg "server_in" = some (.ref A.f_server_in)
  F_stream_in : Fun K "stream_in" "stream_in" s_stream_in A.f_stream_in A.d_stream_in
  b_stream_in : Binds K A.d_stream_in ["words", "servers", "streams"] []
  g_stream_in : mg "stream_in" = some (.ref A.f_stream_in)
  F_part_in : Fun K "part_in" "part_in" s_part_in A.f_part_in A.d_part_in
  b_part_in : Binds K A.d_part_in ["line", "servers", "streams"] []
  g_part_in : mg "part_in" = some (.ref A.f_part_in)
  F_read_net : Fun K "read_net" "read_net" s_read_net A.f_read_net A.d_read_net
  b_read_net : Binds K A.d_read_net ["text"] []
  g_read_net : mg "read_net" = some (.ref A.f_read_net)
  F_common_measure : Fun K "common_measure" "common_measure" s_common_measure A.f_common_measure A.d_common_measure
  b_common_measure : Binds K A.d_common_measure ["a", "b"] []
  g_common_measure : mg "common_measure" = some (.ref A.f_common_measure)
  F_goes_on_by : Fun K "goes_on_by" "goes_on_by" s_goes_on_by A.f_goes_on_by A.d_goes_on_by
  b_goes_on_by : Binds K A.d_goes_on_by ["again", "rise", "round_here"] []
  g_goes_on_by : mg "goes_on_by" = some (.ref A.f_goes_on_by)
  F_shortest_round : Fun K "shortest_round" "shortest_round" s_shortest_round A.f_shortest_round A.d_shortest_round
  b_shortest_round : Binds K A.d_shortest_round ["again", "rise"] []
  g_shortest_round : mg "shortest_round" = some (.ref A.f_shortest_round)
  F_reduced : Fun K "reduced" "reduced" s_reduced A.f_reduced A.d_reduced
  b_reduced : Binds K A.d_reduced ["first", "again", "rise"] []
  g_reduced : mg "reduced" = some (.ref A.f_reduced)
  F_told : Fun K "told" "told" s_told A.f_told A.d_told
  b_told : Binds K A.d_told ["numbers", "at", "round_here", "rise"] []
  g_told : mg "told" = some (.ref A.f_told)
  F_plain : Fun K "plain" "plain" s_plain A.f_plain A.d_plain
  b_plain : Binds K A.d_plain ["f"] []
  g_plain : mg "plain" = some (.ref A.f_plain)
  F_common_round : Fun K "common_round" "common_round" s_common_round A.f_common_round A.d_common_round
  b_common_round : Binds K A.d_common_round ["f", "g"] []
  g_common_round : mg "common_round" = some (.ref A.f_common_round)
  F_both_firsts : Fun K "both_firsts" "both_firsts" s_both_firsts A.f_both_firsts A.d_both_firsts
  b_both_firsts : Binds K A.d_both_firsts ["f", "g"] []
  g_both_firsts : mg "both_firsts" = some (.ref A.f_both_firsts)
  F_plus : Fun K "plus" "plus" s_plus A.f_plus A.d_plus
  b_plus : Binds K A.d_plus ["f", "g"] []
  g_plus : mg "plus" = some (.ref A.f_plus)
  F_law_pen : Fun K "_law_pen" "_law_pen" s_law_pen A.f_law_pen A.d_law_pen
  b_law_pen : Binds K A.d_law_pen ["script"] []
  g_law_pen : mg "_law_pen" = some (.ref A.f_law_pen)
  F_law_draw : Fun K "_law_draw" "_law_draw" s_law_draw A.f_law_draw A.d_law_draw
  b_law_draw : Binds K A.d_law_draw ["pen", "many"] []
  g_law_draw : mg "_law_draw" = some (.ref A.f_law_draw)
  F_law_names : Fun K "_law_names" "_law_names" s_law_names A.f_law_names A.d_law_names
  b_law_names : Binds K A.d_law_names ["pen", "many"] []
  g_law_names : mg "_law_names" = some (.ref A.f_law_names)
  F_law_any_curve : Fun K "_law_any_curve" "_law_any_curve" s_law_any_curve A.f_law_any_curve A.d_law_any_curve
  b_law_any_curve : Binds K A.d_law_any_curve ["pen"] []
  g_law_any_curve : mg "_law_any_curve" = some (.ref A.f_law_any_curve)
  F_law_numbers_text : Fun K "_law_numbers_text" "_law_numbers_text" s_law_numbers_text A.f_law_numbers_text A.d_law_numbers_text
  b_law_numbers_text : Binds K A.d_law_numbers_text ["numbers"] []
  g_law_numbers_text : mg "_law_numbers_text" = some (.ref A.f_law_numbers_text)
  F_law_curve_text : Fun K "_law_curve_text" "_law_curve_text" s_law_curve_text A.f_law_curve_text A.d_law_curve_text
  b_law_curve_text : Binds K A.d_law_curve_text ["curve"] []
  g_law_curve_text : mg "_law_curve_text" = some (.ref A.f_law_curve_text)
  F_law_net_text : Fun K "_law_net_text" "_law_net_text" s_law_net_text A.f_law_net_text A.d_law_net_text
  b_law_net_text : Binds K A.d_law_net_text ["net"] []
  g_law_net_text : mg "_law_net_text" = some (.ref A.f_law_net_text)
  F_law_any_route : Fun K "_law_any_route" "_law_any_route" s_law_any_route A.f_law_any_route A.d_law_any_route
  b_law_any_route : Binds K A.d_law_any_route ["pen", "names"] []
  g_law_any_route : mg "_law_any_route" = some (.ref A.f_law_any_route)
  F_law_net : Fun K "_law_net" "_law_net" s_law_net A.f_law_net A.d_law_net
  b_law_net : Binds K A.d_law_net ["pen"] []
  g_law_net : mg "_law_net" = some (.ref A.f_law_net)
  F_law : Fun K "law" "law" s_law A.f_law A.d_law
  b_law : Binds K A.d_law ["script"] []
  g_law : mg "law" = some (.ref A.f_law)
  g_CurveError : mg "CurveError" = some (.ref A.c_CurveError)
  g_TooLong : mg "TooLong" = some (.ref A.c_TooLong)
  g_NoText : mg "NoText" = some (.ref A.c_NoText)
  x_TooLong : PySem.W.excIn K A.c_TooLong [.type "ValueError", .type "Exception", .type "BaseException", .type "object"] "ValueError.__new__" = true
  kp_TooLong : PySem.W.keepIn K (.ref A.c_TooLong) = true
  be_TooLong : PySem.W.subIn K (.ref A.c_TooLong) (.type "BaseException") = some true
  ty_TooLong : PySem.W.typeIn K (.ref A.c_TooLong) = some (.type "type")
  z_abs : mg "abs" = none
  z_all : mg "all" = none
  z_bool : mg "bool" = none
  z_enumerate : mg "enumerate" = none
  z_int : mg "int" = none
  z_isinstance : mg "isinstance" = none
  z_len : mg "len" = none
  z_list : mg "list" = none
  z_max : mg "max" = none
  z_min : mg "min" = none
  z_range : mg "range" = none
  z_repr : mg "repr" = none
  z_str : mg "str" = none
  z_tuple : mg "tuple" = none
  k_LETTERS : ∃ t, mg "LETTERS" = some (.str "abcdefghijklmnopqrstuvwxyz" t)
  k_MOST_LETTERS : ∃ t, mg "MOST_LETTERS" = some (.int 8 t)
  k_MOST_PARTS : ∃ t, mg "MOST_PARTS" = some (.int 6 t)
  k_FIGURES : ∃ t, mg "FIGURES" = some (.str "0123456789" t)
  k_MOST_FIGURES : ∃ t, mg "MOST_FIGURES" = some (.int 30 t)
  k_MOST_FIRST : ∃ t, mg "MOST_FIRST" = some (.int 24 t)
  k_MOST_AGAIN : ∃ t, mg "MOST_AGAIN" = some (.int 12 t)
  k_MOST_NUMBER : ∃ t, mg "MOST_NUMBER" = some (.int 1000000 t)
  k_MOST_NUMBERS : ∃ t, mg "MOST_NUMBERS" = some (.int 600 t)
  k_MOST_ROUND : ∃ t, mg "MOST_ROUND" = some (.int 600 t)
end K58

/-! Promises of defs that several laws reach: plain functions, promises. -/
namespace Pg
open PySem PySem.Spec PyProof.Rows L2 Dl

abbrev crv (F A : List Int) (r : Int) : D := .tup [.tup (F.map .int), .tup (A.map .int), .int r]
/-- a curve's value at a turn -/
def val (F A : List Int) (r t : Int) : Int := if t < F.length then F.getD t.toNat 0 else A.getD ((t - F.length) % A.length).toNat 0 + r * ((t - F.length) / A.length)
def sp_value : DSp := fun ds m R _ => match ds with
  | [f, .int t] => ∃ F A r, f = crv F A r ∧ A ≠ [] ∧ A.length < 2 ^ 60 ∧ 0 ≤ t ∧ t < 2 ^ 63 ∧ R (.int (val F A r t)) m
  | _ => False
/-- a whole number from 0 on -/
def isNum : D → Bool
  | .int i => decide (0 ≤ i)
  | _ => false
def sp_is_number : DSp := fun ds m R _ => match ds with
  | [.int i] => R (.bl (decide (0 ≤ i))) m
  | _ => False
end Pg

namespace Nz
open PySem PySem.Spec PyProof.Rows L2 Dl
/-- a curve: numbers ahead, numbers again, the rise -/
structure Cv where
  F : List Int
  A : List Int
  r : Int
def cvD (c : Cv) : D := Pg.crv c.F c.A c.r
/-- a curve's value at a turn -/
def Cv.val (c : Cv) (t : Int) : Int := Pg.val c.F c.A c.r t
end Nz

/-! Plain curves: what the program's functions compute, exactly; promises. -/
namespace Pl
open PySem PySem.Spec PyProof.Rows L2 Dl Nz
/-- refusals -/
inductive Er where
  | long | endless
abbrev Out (α : Type) := Except Er α
/-- what a function tells: a value, or one of two refusals, of the classes L and E -/
def ans {α : Type} (L E : Addr) (f : α → D) (o : Out α) (R : D → Sto → Prop) (RX : DX) (m : Sto) : Prop := match o with
  | .ok v => R (f v) m
  | .error .long => RX L none m
  | .error .endless => RX E none m
/-- a curve as the program may have one -/
structure Cv.Wf (c : Cv) : Prop where
  a0 : c.A ≠ []
  f1 : c.F.length ≤ 1000000
  a1 : c.A.length ≤ 1000000
def stepI (rise : Int) (k long : Nat) : Int := rise * (k : Int) / (long : Int)
def goesOn (A : List Int) (rise : Int) (k : Nat) : Bool :=
  decide (rise * (k : Int) % (A.length : Int) = 0) && (List.range (A.length - k)).all fun j => decide (A.getD (k + j) 0 = A.getD j 0 + stepI rise k A.length)
def shortK (A : List Int) (rise : Int) : Option Nat := (List.range' 1 (A.length - 1)).find? fun k => decide (A.length % k = 0) && goesOn A rise k
def shortest (A : List Int) (rise : Int) : List Int × Int := match shortK A rise with
  | some k => (A.take k, stepI rise k A.length)
  | none => (A, rise)
/-- the numbers again, at any turn -/
def perI (A : List Int) (r : Int) (n : Int) : Int := A.getD (n % (A.length : Int)).toNat 0 + r * (n / (A.length : Int))
/-- how many of the first at numbers go on backwards, b of those behind them known to -/
def backN (F A : List Int) (r : Int) : Nat → Nat → Nat
  | 0, b => b
  | at_ + 1, b => if F.getD at_ 0 + r = A.getD (((A.length : Int) - 1 - (b : Int)) % (A.length : Int)).toNat 0 - r * ((b : Int) / (A.length : Int)) then backN F A r at_ (b + 1) else b
def turned (A : List Int) (r : Int) (b : Nat) : List Int := (List.range A.length).map fun k : Nat => perI A r ((k : Int) - (b : Int))
def reduced (F A : List Int) (rise : Int) : Cv :=
  let s := shortest A rise
  let b := backN F s.1 s.2 F.length 0
  ⟨F.take (F.length - b), turned s.1 s.2 b, s.2⟩
def limit (c : Cv) : Out Cv := if c.F.length + c.A.length ≤ 600 then .ok c else .error .long
def toldP (ns : List Int) (at_ R : Nat) (rise : Int) : Out Cv := limit (reduced (ns.take at_) ((ns.drop at_).take R) rise)
def plainP (c : Cv) : Out Cv := limit (reduced c.F c.A c.r)
def lcmP (a b : Nat) : Out Nat := if a * b / Nat.gcd a b ≤ 600 then .ok (a * b / Nat.gcd a b) else .error .long
def roundP (f g : Cv) : Out Nat := do
  let a ← plainP f
  let b ← plainP g
  lcmP a.A.length b.A.length
def firstsP (f g : Cv) : Out Nat := do
  let a ← plainP f
  let b ← plainP g
  pure (max a.F.length b.F.length)
/-- how much a curve goes up in so many turns -/
def upP (c : Cv) (t : Int) : Int := c.r * (t / (c.A.length : Int))
def plusP (f g : Cv) : Out Cv := do
  let R ← roundP f g
  let at_ ← firstsP f g
  let a ← plainP f
  let b ← plainP g
  toldP ((List.range (at_ + R)).map fun t : Nat => f.val (t : Int) + g.val (t : Int)) at_ R (upP a R + upP b R)
def intL (ns : List Int) : List D := ns.map .int
/-- d is these numbers, a tuple or a list -/
def IsInts (d : D) (ns : List Int) : Prop := d = .tup (ns.map .int) ∨ d = .lst (ns.map .int)
def natD (n : Nat) : D := .int (n : Int)
def sp_up_in : DSp := fun ds m R _ => match ds with
  | [f, .int t] => ∃ c : Cv, f = cvD c ∧ Cv.Wf c ∧ 0 ≤ t ∧ t < 2 ^ 60 ∧ R (.int (upP c t)) m
  | _ => False
def sp_common_measure : DSp := fun ds m R _ => match ds with
  | [.int a, .int b] => ∃ x y : Nat, a = (x : Int) ∧ b = (y : Int) ∧ R (natD (Nat.gcd x y)) m
  | _ => False
def sp_goes_on_by : DSp := fun ds m R _ => match ds with
  | [.tup a, .int r, .int k] => ∃ (A : List Int) (n : Nat), a = A.map .int ∧ k = (n : Int) ∧ 0 < n ∧ n ≤ A.length ∧ A.length ≤ 1000000 ∧ R (.bl (goesOn A r n)) m
  | _ => False
def sp_shortest_round : DSp := fun ds m R _ => match ds with
  | [.tup a, .int r] => ∃ A : List Int, a = A.map .int ∧ A ≠ [] ∧ A.length ≤ 1000000 ∧ R (.tup [.tup ((shortest A r).1.map .int), .int (shortest A r).2]) m
  | _ => False
def sp_reduced : DSp := fun ds m R _ => match ds with
  | [.tup f, .tup a, .int r] => ∃ F A : List Int, f = F.map .int ∧ a = A.map .int ∧ A ≠ [] ∧ A.length ≤ 1000000 ∧ F.length ≤ 1000000 ∧ R (cvD (reduced F A r)) m
  | _ => False
def sp_told (L : Addr) : DSp := fun ds m R RX => match ds with
  | [d, .int a, .int b, .int r] => ∃ (ns : List Int) (at_ Rn : Nat), IsInts d ns ∧ a = (at_ : Int) ∧ b = (Rn : Int) ∧ 0 < Rn ∧ at_ + Rn ≤ ns.length ∧ ns.length ≤ 1000000 ∧ ans L L cvD (toldP ns at_ Rn r) R RX m
  | _ => False
def sp_plain (L : Addr) : DSp := fun ds m R RX => match ds with
  | [f] => ∃ c : Cv, f = cvD c ∧ Cv.Wf c ∧ c.F.length + c.A.length ≤ 1000000 ∧ ans L L cvD (plainP c) R RX m
  | _ => False
def sp_common_round (L : Addr) : DSp := fun ds m R RX => match ds with
  | [f, g] => ∃ a b : Cv, f = cvD a ∧ g = cvD b ∧ Cv.Wf a ∧ Cv.Wf b ∧ a.F.length + a.A.length ≤ 1000000 ∧ b.F.length + b.A.length ≤ 1000000 ∧ ans L L natD (roundP a b) R RX m
  | _ => False
def sp_both_firsts (L : Addr) : DSp := fun ds m R RX => match ds with
  | [f, g] => ∃ a b : Cv, f = cvD a ∧ g = cvD b ∧ Cv.Wf a ∧ Cv.Wf b ∧ a.F.length + a.A.length ≤ 1000000 ∧ b.F.length + b.A.length ≤ 1000000 ∧ ans L L natD (firstsP a b) R RX m
  | _ => False
def sp_plus (L : Addr) : DSp := fun ds m R RX => match ds with
  | [f, g] => ∃ a b : Cv, f = cvD a ∧ g = cvD b ∧ Cv.Wf a ∧ Cv.Wf b ∧ a.F.length + a.A.length ≤ 1000000 ∧ b.F.length + b.A.length ≤ 1000000 ∧ ans L L cvD (plusP a b) R RX m
  | _ => False
end Pl

/-! The pen of a law (a list): its draws. -/
namespace Pn
open PySem PySem.Spec PyProof.Rows L2 Dl Pg
/-- a pen: cells, the place of the next one, at most b, what is left -/
def PenOk (b : Int) (X : MO) : Prop := ∃ (cells : List Int) (k left : Int), X = .lst [.lst (cells.map .int), .int k, .int left] ∧ 0 ≤ k ∧ k ≤ b ∧ 0 ≤ left
def sp_law_pen : DSp := fun ds m R _ => match ds with
  | [s] => ∃ ns : List Int, s = .rl (ns.map .int) ∧ ∀ p X, m p = none → PenOk 0 X → R (.ptr p) (up m p X)
  | _ => False
def sp_law_take : DSp := fun ds m R _ => match ds with
  | [.ptr p, .int n] => ∃ b X, m p = some X ∧ PenOk b X ∧ b ≤ 2 ^ 30 ∧ 0 < n ∧ n < 2 ^ 30 ∧ ∀ v X', 0 ≤ v → v < n → PenOk (b + 1) X' → R (.int v) (up m p X')
  | _ => False
def sp_law_at : DSp := fun ds m R _ => match ds with
  | [f, .int t] => ∃ F A r, f = crv F A r ∧ A ≠ [] ∧ A.length < 2 ^ 60 ∧ 0 ≤ t ∧ t < 2 ^ 63 ∧ R (.int (val F A r t)) m
  | _ => False
/-- a drawn curve: a round of 1 to 12, at most 24 numbers ahead, rising, small -/
structure Drawn (F A : List Int) (r : Int) : Prop where
  a0 : A ≠ []
  a1 : A.length ≤ 12
  f1 : F.length ≤ 24
  r0 : 0 ≤ r
  nn : ∀ x ∈ F ++ A, 0 ≤ x
  sm : ∀ x ∈ F ++ A, x ≤ 1000000
  zero : (F ++ A)[0]? = some 0
  mono : ∀ i x y, (F ++ A)[i]? = some x → (F ++ A)[i + 1]? = some y → x ≤ y
  r1 : ∀ x, A[0]? = some x → ∀ y, A[A.length - 1]? = some y → y ≤ x + r
  r2 : r ≤ 1000000
def sp_law_curve : DSp := fun ds m R _ => match ds with
  | [.ptr p] => ∃ b X, m p = some X ∧ PenOk b X ∧ b ≤ 2 ^ 29 ∧ ∀ F A r X', Drawn F A r → PenOk (b + 50) X' → R (crv F A r) (up m p X')
  | _ => False
end Pn

/-! A pen that is a dict; names; curves of nets: promises. -/
namespace Nt
open PySem PySem.Spec PyProof.Rows L2 Dl Pg
abbrev kC : Key := .inr "cells"
abbrev kA : Key := .inr "at"
abbrev kL : Key := .inr "left"
abbrev penL (cells : List Int) (k left : Int) : List (Key × D) := [(kC, .lst (cells.map .int)), (kA, .int k), (kL, .int left)]
def PenD (b : Int) (X : MO) : Prop := ∃ (cells : List Int) (k left : Int), X = .dct (penL cells k left) ∧ 0 ≤ k ∧ k ≤ b ∧ 0 ≤ left
def sp_law_pen : DSp := fun ds m R _ => match ds with
  | [s] => ∃ ns : List Int, s = .rl (ns.map .int) ∧ ∀ p X, m p = none → PenD 0 X → R (.ptr p) (up m p X)
  | _ => False
def sp_law_draw : DSp := fun ds m R _ => match ds with
  | [.ptr p, .int n] => ∃ b X, m p = some X ∧ PenD b X ∧ b ≤ 2 ^ 30 ∧ 0 < n ∧ n < 2 ^ 30 ∧ ∀ v X', 0 ≤ v → v < n → PenD (b + 1) X' → R (.int v) (up m p X')
  | _ => False
/-- a small letter -/
def isLet (c : Nat) : Bool := decide (97 ≤ c) && decide (c ≤ 122)
/-- a word of one to eight small letters -/
def isName (x : Str) : Bool := decide (1 ≤ x.length) && decide (x.length ≤ 8) && x.cps.toList.all isLet
def sp_law_names : DSp := fun ds m R _ => match ds with
  | [.ptr p, .int n] => ∃ b X, m p = some X ∧ PenD b X ∧ b ≤ 2 ^ 29 ∧ 1 ≤ n ∧ n ≤ 6 ∧ ∀ (ys : List Str) m' X', ys.length = n.toNat → (∀ y ∈ ys, isName y = true) → ys.Nodup → PenD (b + 20) X' → m' = up m p X' → R (.lst (ys.map .str)) m'
  | _ => False
def sp_law_stream_curve : DSp := fun ds m R _ => match ds with
  | [.ptr p] => ∃ b X, m p = some X ∧ PenD b X ∧ b ≤ 2 ^ 29 ∧ ∀ F A r u X', Pn.Drawn F A r → 0 ≤ u → u ≤ 100 → PenD (b + 20) X' → R (.tup [crv F A r, .int u]) (up m p X')
  | _ => False
def sp_law_server_curve : DSp := fun ds m R _ => match ds with
  | [.ptr p, .int n] => ∃ b X, m p = some X ∧ PenD b X ∧ b ≤ 2 ^ 29 ∧ 0 ≤ n ∧ n ≤ 10000 ∧ ∀ F A r X', Pn.Drawn F A r → PenD (b + 40) X' → R (crv F A r) (up m p X')
  | _ => False
/-- a route: names of ys, each once -/
structure Route (ys zs : List Str) : Prop where
  ne : zs ≠ []
  nd : zs.Nodup
  mem : ∀ z ∈ zs, z ∈ ys
def sp_law_any_route : DSp := fun ds m R _ => match ds with
  | [.ptr p, d] => ∃ b X ys, m p = some X ∧ PenD b X ∧ b ≤ 2 ^ 29 ∧ d = .lst (ys.map .str) ∧ ys ≠ [] ∧ ys.length ≤ 6 ∧ ys.Nodup ∧ ∀ zs X', Route ys zs → zs.length ≤ 6 → PenD (b + 10) X' → R (.tup (zs.map .str)) (up m p X')
  | _ => False
end Nt

/-! What is a net: data of any kind, looked at. -/
namespace Nz
open PySem PySem.Spec PyProof.Rows L2 Dl Nt
/-- data of any kind, with dicts that are empty -/
inductive Wf (m : Sto) : D → Prop
  | non : Wf m .non
  | bl (b : Bool) : Wf m (.bl b)
  | int (i : Int) : Wf m (.int i)
  | str {x : Str} : x.length ≤ 200000 → (∀ c ∈ x.cps.toList, c < 1000) → Wf m (.str x)
  | ptr {a : Addr} : m a = some (.dct []) → Wf m (.ptr a)
  | lst (ds : List D) : Wf m (.lst ds)
  | tup {ds : List D} : ds.length ≤ 300000 → (∀ d, d ∈ ds → Wf m d) → Wf m (.tup ds)
def isNumD : D → Bool
  | .int i => decide (0 ≤ i)
  | _ => false
def numD : D → Int
  | .int i => i
  | _ => 0
def areNumsD : D → Bool
  | .tup ds => ds.all isNumD
  | _ => false
/-- numbers from nought on that never fall -/
def rowOk (row : List Int) : Bool := decide (row[0]? = some 0) && decide (row.Pairwise (· ≤ ·))
def isCurveD : D → Bool
  | .tup [.tup F, .tup A, r] => F.all isNumD && (A.all isNumD && (isNumD r && (decide (A ≠ []) && rowOk (F.map numD ++ A.map numD ++ [(A.map numD).getD 0 0 + numD r]))))
  | _ => false
def isNameD : D → Bool
  | .str x => isName x
  | _ => false
/-- its name, where d is a part, so long, that begins with a name not seen and a curve -/
def partD (long : Nat) (seen : List Str) : D → Option Str
  | .tup (.str x :: c :: r) => if r.length + 2 = long ∧ isName x = true ∧ isCurveD c = true ∧ x ∉ seen then some x else none
  | _ => none
def partsGo (long : Nat) : List D → List Str → Bool
  | [], _ => true
  | d :: r, seen => match partD long seen d with
    | some x => partsGo long r (seen ++ [x])
    | none => false
def arePartsD (long : Nat) : D → Bool
  | .tup ds => decide (1 ≤ ds.length) && (decide (ds.length ≤ 6) && partsGo long ds [])
  | _ => false
def routeGo (names : List Str) : List D → List Str → Bool
  | [], _ => true
  | .str x :: r, seen => isName x && (decide (x ∈ names) && (!decide (x ∈ seen) && routeGo names r (seen ++ [x])))
  | _ :: _, _ => false
def isRouteD (names : List Str) : D → Bool
  | .tup ds => decide (ds ≠ []) && routeGo names ds []
  | _ => false
def headD : D → Str
  | .tup (.str x :: _) => x
  | _ => ""
def thirdD : D → D
  | .tup (_ :: _ :: d :: _) => d
  | _ => .non
def isNetD : D → Bool
  | .tup [.tup s, .tup t] => arePartsD 2 (.tup s) && (arePartsD 3 (.tup t) && t.all fun d => isRouteD (s.map headD) (thirdD d))
  | _ => false
def sp_is_number : DSp := fun ds m R _ => match ds with
  | [d] => Wf m d ∧ R (.bl (isNumD d)) m
  | _ => False
def sp_are_numbers : DSp := fun ds m R _ => match ds with
  | [d] => Wf m d ∧ R (.bl (areNumsD d)) m
  | _ => False
def sp_is_curve : DSp := fun ds m R _ => match ds with
  | [d] => Wf m d ∧ R (.bl (isCurveD d)) m
  | _ => False
def sp_is_name : DSp := fun ds m R _ => match ds with
  | [d] => Wf m d ∧ R (.bl (isNameD d)) m
  | _ => False
def sp_are_parts : DSp := fun ds m R _ => match ds with
  | [d, .int n] => Wf m d ∧ 2 ≤ n ∧ R (.bl (arePartsD n.toNat d)) m
  | _ => False
def sp_is_route : DSp := fun ds m R _ => match ds with
  | [.lst ns, d] => ∃ names : List Str, ns = names.map .str ∧ names.length ≤ 1000 ∧ Wf m d ∧ R (.bl (isRouteD names d)) m
  | _ => False
def sp_is_net : DSp := fun ds m R _ => match ds with
  | [d] => Wf m d ∧ R (.bl (isNetD d)) m
  | _ => False
end Nz

namespace Nz
open PySem PySem.Spec PyProof.Rows L2 Dl Nt
def r_is_number : DS :=
(dRet (dAndV (dIsi .int (dVar 0)) (dAndV (dNotV (dIsi .bool (dVar 0))) (dOp geD (dVar 0) (dC (.int 0))))))
def r_are_numbers : DS :=
(dRet (dAndV (dIsi .tup (dVar 0)) (dCB allD (dCons (dLc false [1] false (seqI (dVar 0)) dYes (dCall sp_is_number (dCons (dVar 1) dNil))) dNil))))
def r_is_curve_4 : DS :=
(dRet (dAndV (dOp eqD (dOp ixD (dVar 4) (dC (.int 0))) (dC (.int 0))) (dCB allD (dCons (dLc false [5] false (rngI2 (dC (.int 1)) (dCB lenD (dCons (dVar 4) dNil))) dYes (dOp leD (dOp ixD (dVar 4) (dOp subD (dVar 5) (dC (.int 1)))) (dOp ixD (dVar 4) (dVar 5)))) dNil))))
def r_is_curve_3 : DS :=
(dSeq (dSet 4 (dOp (addD false) (dOp (addD false) (dVar 1) (dVar 2)) (dTup (dCons (dOp (addD false) (dOp ixD (dVar 2) (dC (.int 0))) (dVar 3)) dNil))))
(r_is_curve_4))
def r_is_curve : DS :=
(dSeq (dIf (dOr (dNot (dB (dIsi .tup (dVar 0)))) (dOr (dB (dOp neD (dCB lenD (dCons (dVar 0) dNil)) (dC (.int 3)))) (dOr (dNot (dB (dCall sp_are_numbers (dCons (dOp ixD (dVar 0) (dC (.int 0))) dNil)))) (dNot (dB (dCall sp_are_numbers (dCons (dOp ixD (dVar 0) (dC (.int 1))) dNil)))))))
(dRet (dC (.bl false)))
dNext)
(dSeq (dAsg (tupG 3 (consG (nameG 1) (consG (nameG 2) (consG (nameG 3) nilG)))) (dVar 0))
(dSeq (dIf (dOr (dB (dOp eqD (dCB lenD (dCons (dVar 2) dNil)) (dC (.int 0)))) (dNot (dB (dCall sp_is_number (dCons (dVar 3) dNil)))))
(dRet (dC (.bl false)))
dNext)
(r_is_curve_3))))
def r_is_name : DS :=
(dSeq (dIf (dOr (dNot (dB (dIsi .str (dVar 0)))) (dNot (dB (dChain leD leD (dC (.int 1)) (dCB lenD (dCons (dVar 0) dNil)) (dC (.int 8))))))
(dRet (dC (.bl false)))
dNext)
(dRet (dCB allD (dCons (dLc false [1] false (strI (dVar 0)) dYes (dOp (inD false) (dVar 1) (dC (.str "abcdefghijklmnopqrstuvwxyz")))) dNil))))
def r_are_parts_l1 : DS :=
(dSeq (dIf (dOr (dNot (dB (dIsi .tup (dVar 3)))) (dOr (dB (dOp neD (dCB lenD (dCons (dVar 3) dNil)) (dVar 1))) (dOr (dNot (dB (dCall sp_is_name (dCons (dOp ixD (dVar 3) (dC (.int 0))) dNil)))) (dNot (dB (dCall sp_is_curve (dCons (dOp ixD (dVar 3) (dC (.int 1))) dNil)))))))
(dFrz 2 (dRet (dC (.bl false))))
dNext)
(dSeq (dIf (dB (dOp (inD false) (dOp ixD (dVar 3) (dC (.int 0))) (dVar 2)))
(dFrz 2 (dRet (dC (.bl false))))
dNext)
(dExpr (dLM appM (dVar 2) (dCons (dOp ixD (dVar 3) (dC (.int 0))) dNil)))))
def r_are_parts : DS :=
(dSeq (dIf (dOr (dNot (dB (dIsi .tup (dVar 0)))) (dNot (dB (dChain leD leD (dC (.int 1)) (dCB lenD (dCons (dVar 0) dNil)) (dC (.int 6))))))
(dRet (dC (.bl false)))
dNext)
(dSeq (dSet 2 (dLst true dNil))
(dSeq (dFor (seqI (dVar 0)) (nameG 3)
(r_are_parts_l1))
(dFrz 2 (dRet (dC (.bl true)))))))
def r_is_route_l1 : DS :=
(dSeq (dIf (dOr (dNot (dB (dCall sp_is_name (dCons (dVar 3) dNil)))) (dOr (dB (dOp (inD true) (dVar 3) (dVar 0))) (dB (dOp (inD false) (dVar 3) (dVar 2)))))
(dFrz 2 (dRet (dC (.bl false))))
dNext)
(dExpr (dLM appM (dVar 2) (dCons (dVar 3) dNil))))
def r_is_route : DS :=
(dSeq (dIf (dOr (dNot (dB (dIsi .tup (dVar 1)))) (dB (dOp eqD (dCB lenD (dCons (dVar 1) dNil)) (dC (.int 0)))))
(dRet (dC (.bl false)))
dNext)
(dSeq (dSet 2 (dLst true dNil))
(dSeq (dFor (seqI (dVar 1)) (nameG 3)
(r_is_route_l1))
(dFrz 2 (dRet (dC (.bl true)))))))
def r_is_net : DS :=
(dSeq (dIf (dOr (dNot (dB (dIsi .tup (dVar 0)))) (dB (dOp neD (dCB lenD (dCons (dVar 0) dNil)) (dC (.int 2)))))
(dRet (dC (.bl false)))
dNext)
(dSeq (dIf (dOr (dNot (dB (dCall sp_are_parts (dCons (dOp ixD (dVar 0) (dC (.int 0))) (dCons (dC (.int 2)) dNil))))) (dNot (dB (dCall sp_are_parts (dCons (dOp ixD (dVar 0) (dC (.int 1))) (dCons (dC (.int 3)) dNil))))))
(dRet (dC (.bl false)))
dNext)
(dSeq (dSet 1 (dLc false [2] false (seqI (dOp ixD (dVar 0) (dC (.int 0)))) dYes (dOp ixD (dVar 2) (dC (.int 0)))))
(dRet (dCB allD (dCons (dLc false [2] false (seqI (dOp ixD (dVar 0) (dC (.int 1)))) dYes (dCall sp_is_route (dCons (dVar 1) (dCons (dOp ixD (dVar 2) (dC (.int 2))) dNil)))) dNil))))))
end Nz

namespace Nt
open PySem PySem.Spec PyProof.Rows L2 Dl Pg
def r_law_pen : DS :=
(dRet (dDisp [((dC (.str "cells")), (dCB (listD false) (dCons (dSl false (dVar 0) dNoPart (dPart (dC (.int 63)))) dNil))), ((dC (.str "at")), (dC (.int 0))), ((dC (.str "left")), (dC (.int 0)))]))
def r_law_draw_5 : DS :=
(dSeq (dSet 5 (dOp modD (dOp powD (dOp (addD false) (dOp (addD false) (dOp modD (dVar 4) (dC (.int 2147483629))) (dOp (mulD false) (dC (.int 50023)) (dVar 3))) (dC (.int 11))) (dC (.int 5))) (dC (.int 2147483647))))
(dSeq (dSet 5 (dOp modD (dOp (mulD false) (dVar 5) (dOp (addD false) (dOp (addD false) (dOp modD (dVar 5) (dC (.int 65519))) (dVar 3)) (dC (.int 3)))) (dC (.int 2147483587))))
(dRet (dOp modD (dOp divD (dVar 5) (dC (.int 32))) (dVar 1)))))
def r_law_draw_4 : DS :=
(dSeq (dIf (dB (dOp ltD (dVar 3) (dCB lenD (dCons (dOp dixD (dVar 0) (dC (.str "cells"))) dNil))))
(dSeq (dSet 4 (dOp ixD (dOp dixD (dVar 0) (dC (.str "cells"))) (dVar 3)))
(dIf (dB (dOp geD (dCB absD (dCons (dVar 4) dNil)) (dOp powD (dC (.int 10)) (dC (.int 18)))))
(dSeq (dDPut (dVar 0) (dC (.str "left")) (dOp divD (dCB absD (dCons (dVar 4) dNil)) (dVar 1)))
(dRet (dOp modD (dCB absD (dCons (dVar 4) dNil)) (dVar 1))))
dNext))
(dIf (dB (dOp gtD (dCB lenD (dCons (dOp dixD (dVar 0) (dC (.str "cells"))) dNil)) (dC (.int 0))))
(dSet 4 (dOp (addD false) (dOp modD (dOp ixD (dOp dixD (dVar 0) (dC (.str "cells"))) (dOp modD (dVar 3) (dCB lenD (dCons (dOp dixD (dVar 0) (dC (.str "cells"))) dNil)))) (dOp powD (dC (.int 10)) (dC (.int 16)))) (dOp (mulD false) (dC (.int 7927)) (dVar 3))))
dNext))
(r_law_draw_5))
def r_law_draw_1 : DS :=
(dSeq (dSet 3 (dOp dixD (dVar 0) (dC (.str "at"))))
(dSeq (dDPut (dVar 0) (dC (.str "at")) (dOp (addD false) (dVar 3) (dC (.int 1))))
(dSeq (dSet 4 (dOp (addD false) (dOp (mulD false) (dOp (mulD false) (dC (.int 91019)) (dVar 3)) (dVar 3)) (dC (.int 23))))
(r_law_draw_4))))
def r_law_draw : DS :=
(dSeq (dIf (dB (dOp gtD (dOp dixD (dVar 0) (dC (.str "left"))) (dC (.int 0))))
(dSeq (dSet 2 (dOp modD (dOp dixD (dVar 0) (dC (.str "left"))) (dVar 1)))
(dSeq (dDPut (dVar 0) (dC (.str "left")) (dOp divD (dOp dixD (dVar 0) (dC (.str "left"))) (dVar 1)))
(dRet (dVar 2))))
dNext)
(r_law_draw_1))
def r_law_names_7 : DS :=
(dSeq (dSet 8 (dOp (addD false) (dC (.int 1)) (dCall sp_law_draw (dCons (dVar 0) (dCons (dC (.int 8)) dNil)))))
(dSeq (dSet 9 (dCall sp_law_draw (dCons (dVar 0) (dCons (dVar 8) dNil))))
(dRet (dLc false [6] false (rngI1 (dVar 1)) dYes (dOp (addD false) (dOp (addD false) (dSl false (dVar 7) dNoPart (dPart (dVar 9))) (dOp ixD (dVar 2) (dOp modD (dOp (addD false) (dVar 4) (dOp (mulD false) (dC (.int 5)) (dVar 6))) (dC (.int 26))))) (dSl false (dVar 7) (dPart (dOp (addD false) (dVar 9) (dC (.int 1)))) (dPart (dVar 8))))))))
def r_law_names_5 : DS :=
(dSeq (dSet 7 (dJoin (dC (.str "")) (dLc false [6] false (rngI1 (dC (.int 8))) dYes (dOp ixD (dVar 2) (dCall sp_law_draw (dCons (dVar 0) (dCons (dC (.int 26)) dNil)))))))
(dSeq (dIf (dB (dOp eqD (dVar 3) (dC (.int 1))))
(dRet (dLc false [6] false (rngI1 (dVar 1)) dYes (dSl false (dVar 7) dNoPart (dPart (dOp (addD false) (dC (.int 1)) (dOp modD (dOp (addD false) (dVar 4) (dVar 6)) (dC (.int 8))))))))
dNext)
(r_law_names_7)))
def r_law_names_4 : DS :=
(dSeq (dIf (dB (dOp eqD (dVar 3) (dC (.int 0))))
(dRet (dLc false [6] false (rngI1 (dVar 1)) dYes (dOp ixD (dVar 5) (dOp modD (dOp (addD false) (dVar 4) (dOp (mulD false) (dC (.int 3)) (dVar 6))) (dC (.int 11))))))
dNext)
(r_law_names_5))
def r_law_names : DS :=
(dSeq (dSet 2 (dC (.str "abcdefghijklmnopqrstuvwxyz")))
(dSeq (dSet 3 (dCall sp_law_draw (dCons (dVar 0) (dCons (dC (.int 3)) dNil))))
(dSeq (dSet 4 (dCall sp_law_draw (dCons (dVar 0) (dCons (dC (.int 26)) dNil))))
(dSeq (dSet 5 (dLst false (dCons (dC (.str "server")) (dCons (dC (.str "stream")) (dCons (dC (.str "via")) (dCons (dC (.str "a")) (dCons (dC (.str "net")) (dCons (dC (.str "order")) (dCons (dC (.str "ring")) (dCons (dC (.str "run")) (dCons (dC (.str "z")) (dCons (dC (.str "streams")) (dCons (dC (.str "serve")) dNil)))))))))))))
(r_law_names_4)))))
def r_law_stream_curve_l1 : DS :=
(dSeq (dSet 10 (dOp divD (dOp subD (dOp (addD false) (dOp (addD false) (dVar 9) (dVar 4)) (dVar 3)) (dC (.int 1))) (dVar 3)))
(dSeq (dExpr (dLM appM (dVar 7) (dCons (dOp (addD false) (dVar 8) (dOp (mulD false) (dOp (mulD false) (dVar 2) (dVar 10)) (dCB intD (dCons (dOp gtD (dVar 9) (dC (.int 0))) dNil)))) dNil)))
(dSet 8 (dOp (addD false) (dVar 8) (dOp ixD (dOp (addD false) (dVar 5) (dOp (mulD false) (dLst false (dCons (dVar 1) dNil)) (dOp (addD false) (dVar 3) (dC (.int 1))))) (dVar 9))))))
def r_law_stream_curve_8 : DS :=
(dSeq (dSet 11 (dOp (addD false) (dCB lenD (dCons (dVar 5) dNil)) (dC (.int 1))))
(dSeq (dSet 12 (dOp (addD false) (dOp (mulD false) (dVar 1) (dVar 3)) (dVar 2)))
(dFrz 7 (dRet (dTup (dCons (dTup (dCons (dCB tupleD (dCons (dSl false (dVar 7) dNoPart (dPart (dVar 11))) dNil)) (dCons (dCB tupleD (dCons (dSl false (dVar 7) (dPart (dVar 11)) dNoPart) dNil)) (dCons (dVar 12) dNil)))) (dCons (dOp (mulD false) (dVar 12) (dOp divD (dC (.int 12)) (dVar 3))) dNil)))))))
def r_law_stream_curve_5 : DS :=
(dSeq (dSet 7 (dLst true dNil))
(dSeq (dSet 8 (dC (.int 0)))
(dSeq (dFor (rngI1 (dOp (addD false) (dOp (addD false) (dCB lenD (dCons (dVar 5) dNil)) (dC (.int 1))) (dVar 3))) (nameG 9)
(r_law_stream_curve_l1))
(r_law_stream_curve_8))))
def r_law_stream_curve_4 : DS :=
(dSeq (dSet 5 (dRevA false (dCB (sortedD false) (dCons (dLc false [6] false (rngI1 (dCall sp_law_draw (dCons (dVar 0) (dCons (dC (.int 4)) dNil)))) dYes (dOp (addD false) (dVar 1) (dCall sp_law_draw (dCons (dVar 0) (dCons (dC (.int 5)) dNil))))) dNil))))
(r_law_stream_curve_5))
def r_law_stream_curve : DS :=
(dSeq (dSet 1 (dCall sp_law_draw (dCons (dVar 0) (dCons (dC (.int 3)) dNil))))
(dSeq (dSet 2 (dCall sp_law_draw (dCons (dVar 0) (dCons (dC (.int 4)) dNil))))
(dSeq (dSet 3 (dOp ixD (dLst false (dCons (dC (.int 1)) (dCons (dC (.int 1)) (dCons (dC (.int 2)) (dCons (dC (.int 2)) (dCons (dC (.int 3)) (dCons (dC (.int 4)) (dCons (dC (.int 6)) (dCons (dC (.int 12)) dNil))))))))) (dCall sp_law_draw (dCons (dVar 0) (dCons (dC (.int 8)) dNil)))))
(dSeq (dSet 4 (dCall sp_law_draw (dCons (dVar 0) (dCons (dVar 3) dNil))))
(r_law_stream_curve_4)))))
def r_law_server_curve_l1 : DS :=
(dExpr (dLM appM (dVar 4) (dCons (dOp (addD false) (dOp ixD (dVar 4) (dNeg (dC (.int 1)))) (dCall sp_law_draw (dCons (dVar 0) (dCons (dC (.int 7)) dNil)))) dNil)))
def r_law_server_curve_l2 : DS :=
(dSeq (dSet 8 (dCall sp_law_draw (dCons (dVar 0) (dCons (dC (.int 4)) dNil))))
(dSeq (dSet 9 (dOp ixD (dLst false (dCons (dC (.int 0)) (dCons (dVar 7) (dCons (dOp divD (dVar 7) (dC (.int 2))) (dCons (dCall sp_law_draw (dCons (dVar 0) (dCons (dOp (addD false) (dVar 7) (dC (.int 1))) dNil))) dNil))))) (dVar 8)))
(dSeq (dExpr (dLM appM (dVar 6) (dCons (dOp (addD false) (dOp ixD (dVar 6) (dNeg (dC (.int 1)))) (dVar 9)) dNil)))
(dSet 7 (dOp subD (dVar 7) (dVar 9))))))
def r_law_server_curve_7 : DS :=
(dFrz 4 (dFrz 6 (dRet (dTup (dCons (dCB tupleD (dCons (dVar 4) dNil)) (dCons (dCB tupleD (dCons (dVar 6) dNil)) (dCons (dVar 3) dNil)))))))
def r_law_server_curve_6 : DS :=
(dSeq (dFor (rngI1 (dOp subD (dVar 2) (dC (.int 1)))) (nameG 5)
(r_law_server_curve_l2))
(r_law_server_curve_7))
def r_law_server_curve_5 : DS :=
(dSeq (dSet 7 (dVar 3))
(r_law_server_curve_6))
def r_law_server_curve_4 : DS :=
(dSeq (dSet 6 (dLst true (dCons (dOp (addD false) (dOp ixD (dVar 4) (dNeg (dC (.int 1)))) (dCall sp_law_draw (dCons (dVar 0) (dCons (dC (.int 7)) dNil)))) dNil)))
(r_law_server_curve_5))
def r_law_server_curve_3 : DS :=
(dSeq (dFor (rngI1 (dCall sp_law_draw (dCons (dVar 0) (dCons (dC (.int 3)) dNil)))) (nameG 5)
(r_law_server_curve_l1))
(r_law_server_curve_4))
def r_law_server_curve_2 : DS :=
(dSeq (dSet 4 (dOp (mulD true) (dLst false (dCons (dC (.int 0)) dNil)) (dOp (addD false) (dC (.int 1)) (dCall sp_law_draw (dCons (dVar 0) (dCons (dC (.int 4)) dNil))))))
(r_law_server_curve_3))
def r_law_server_curve : DS :=
(dSeq (dSet 2 (dOp ixD (dLst false (dCons (dC (.int 1)) (dCons (dC (.int 1)) (dCons (dC (.int 2)) (dCons (dC (.int 2)) (dCons (dC (.int 3)) (dCons (dC (.int 4)) (dCons (dC (.int 6)) (dCons (dC (.int 12)) dNil))))))))) (dCall sp_law_draw (dCons (dVar 0) (dCons (dC (.int 8)) dNil)))))
(dSeq (dSet 3 (dOp (addD false) (dOp (addD false) (dOp (addD false) (dOp divD (dOp (mulD false) (dVar 1) (dVar 2)) (dC (.int 12))) (dC (.int 1))) (dVar 2)) (dCall sp_law_draw (dCons (dVar 0) (dCons (dOp (addD false) (dVar 2) (dC (.int 1))) dNil)))))
(r_law_server_curve_2)))
def r_law_any_route_l1 : DS :=
(dExpr (dLM appM (dVar 3) (dCons (dLM popAtM (dVar 2) (dCons (dCall sp_law_draw (dCons (dVar 0) (dCons (dCB lenD (dCons (dVar 2) dNil)) dNil))) dNil)) dNil)))
def r_law_any_route_3 : DS :=
(dFrz 2 (dFrz 3 (dRet (dCB tupleD (dCons (dVar 3) dNil)))))
def r_law_any_route_2 : DS :=
(dSeq (dFor (rngI1 (dOp (addD false) (dC (.int 1)) (dCall sp_law_draw (dCons (dVar 0) (dCons (dCB lenD (dCons (dVar 1) dNil)) dNil))))) (nameG 4)
(r_law_any_route_l1))
(r_law_any_route_3))
def r_law_any_route_1 : DS :=
(dSeq (dSet 3 (dLst true dNil))
(r_law_any_route_2))
def r_law_any_route : DS :=
(dSeq (dSet 2 (dCB (listD true) (dCons (dVar 1) dNil)))
(r_law_any_route_1))
end Nt

namespace Pn
open PySem PySem.Spec PyProof.Rows L2 Dl Pg
def r_law_pen : DS :=
(dRet (dLst true (dCons (dCB (listD false) (dCons (dSl false (dVar 0) dNoPart (dPart (dC (.int 63)))) dNil)) (dCons (dC (.int 0)) (dCons (dC (.int 0)) dNil)))))
def r_law_take : DS :=
(dSeq (dIf (dB (dOp gtD (dOp ixD (dVar 0) (dC (.int 2))) (dC (.int 0))))
(dSeq (dSet 2 (dOp modD (dOp ixD (dVar 0) (dC (.int 2))) (dVar 1)))
(dSeq (dAsg (subG (dVar 0) (dC (.int 2))) (dOp divD (dOp ixD (dVar 0) (dC (.int 2))) (dVar 1)))
(dRet (dVar 2))))
dNext)
(dSeq (dSet 3 (dOp ixD (dVar 0) (dC (.int 1))))
(dSeq (dAsg (subG (dVar 0) (dC (.int 1))) (dOp (addD false) (dVar 3) (dC (.int 1))))
(dSeq (dSet 4 (dOp (addD false) (dOp (mulD false) (dC (.int 5003)) (dVar 3)) (dC (.int 41))))
(dSeq (dIf (dB (dOp neD (dOp ixD (dVar 0) (dC (.int 0))) (dLst false dNil)))
(dSet 4 (dOp ixD (dOp ixD (dVar 0) (dC (.int 0))) (dOp modD (dVar 3) (dCB lenD (dCons (dOp ixD (dVar 0) (dC (.int 0))) dNil)))))
dNext)
(dSeq (dIf (dAnd (dB (dOp ltD (dVar 3) (dCB lenD (dCons (dOp ixD (dVar 0) (dC (.int 0))) dNil)))) (dB (dOp geD (dCB absD (dCons (dVar 4) dNil)) (dOp powD (dC (.int 10)) (dC (.int 18))))))
(dSeq (dAsg (subG (dVar 0) (dC (.int 2))) (dOp divD (dCB absD (dCons (dVar 4) dNil)) (dVar 1)))
(dRet (dOp modD (dCB absD (dCons (dVar 4) dNil)) (dVar 1))))
dNext)
(dSeq (dSet 5 (dLst false (dCons (dC (.int 2147483647)) (dCons (dC (.int 2147483629)) (dCons (dC (.int 2147483587)) (dCons (dC (.int 2147483579)) (dCons (dC (.int 2147483563)) (dCons (dC (.int 2147483549)) (dCons (dC (.int 2147483543)) dNil)))))))))
(dSeq (dSet 6 (dOp (addD false) (dOp (addD false) (dOp modD (dVar 4) (dC (.int 2147483497))) (dOp (mulD false) (dC (.int 70001)) (dVar 3))) (dC (.int 19))))
(dSeq (dSet 6 (dOp modD (dOp (mulD false) (dVar 6) (dOp (addD false) (dOp (mulD false) (dVar 3) (dVar 3)) (dC (.int 48271)))) (dOp ixD (dVar 5) (dOp modD (dVar 3) (dC (.int 7))))))
(dRet (dOp modD (dOp divD (dOp modD (dOp powD (dVar 6) (dC (.int 5))) (dOp ixD (dVar 5) (dOp modD (dOp (addD false) (dVar 3) (dC (.int 3))) (dC (.int 7))))) (dC (.int 64))) (dVar 1))))))))))))
def r_law_at : DS :=
(dSeq (dAsg (tupG 3 (consG (nameG 2) (consG (nameG 3) (consG (nameG 4) nilG)))) (dVar 0))
(dSeq (dIf (dB (dOp ltD (dVar 1) (dCB lenD (dCons (dVar 2) dNil))))
(dRet (dOp ixD (dVar 2) (dVar 1)))
dNext)
(dSeq (dSet 5 (dOp subD (dVar 1) (dCB lenD (dCons (dVar 2) dNil))))
(dRet (dOp (addD false) (dOp ixD (dVar 3) (dOp modD (dVar 5) (dCB lenD (dCons (dVar 3) dNil)))) (dOp (mulD false) (dOp divD (dVar 5) (dCB lenD (dCons (dVar 3) dNil))) (dVar 4)))))))
def r_law_curve : DS :=
(dSeq (dSet 1 (dCall sp_law_take (dCons (dVar 0) (dCons (dC (.int 7)) dNil))))
(dSeq (dSet 2 (dOp divD (dCall sp_law_take (dCons (dVar 0) (dCons (dC (.int 16)) dNil))) (dC (.int 15))))
(dSeq (dSet 3 (dOp (addD false) (dC (.int 1)) (dCall sp_law_take (dCons (dVar 0) (dCons (dC (.int 6)) dNil)))))
(dSeq (dSet 4 (dOp (addD false) (dCall sp_law_take (dCons (dVar 0) (dCons (dC (.int 8)) dNil))) (dOp (mulD false) (dC (.int 17)) (dVar 2))))
(dSeq (dSet 5 (dOp (addD false) (dOp (addD false) (dC (.int 1)) (dCall sp_law_take (dCons (dVar 0) (dCons (dC (.int 5)) dNil)))) (dOp (mulD false) (dC (.int 7)) (dVar 2))))
(dSeq (dSet 6 (dLst true (dCons (dC (.int 0)) dNil)))
(dSeq (dFor (rngI2 (dC (.int 1)) (dOp (addD false) (dOp (addD false) (dVar 4) (dVar 5)) (dC (.int 1)))) (nameG 7)
(dSeq (dSet 8 (dCall sp_law_take (dCons (dVar 0) (dCons (dOp (addD false) (dOp (mulD false) (dC (.int 2)) (dVar 3)) (dC (.int 1))) dNil))))
(dSeq (dIf (dB (dOp eqD (dVar 1) (dC (.int 0))))
(dSet 8 (dVar 3))
dNext)
(dSeq (dIf (dAnd (dB (dOp eqD (dVar 1) (dC (.int 1)))) (dB (dOp ltD (dVar 7) (dVar 4))))
(dSet 8 (dC (.int 0)))
dNext)
(dSeq (dIf (dAnd (dB (dOp eqD (dVar 1) (dC (.int 2)))) (dB (dOp eqD (dVar 7) (dC (.int 1)))))
(dSet 8 (dOp (addD false) (dVar 8) (dOp (mulD false) (dC (.int 10)) (dVar 3))))
dNext)
(dSeq (dIf (dAnd (dB (dOp eqD (dVar 1) (dC (.int 3)))) (dB (dOp gtD (dOp modD (dVar 8) (dC (.int 3))) (dC (.int 0)))))
(dSet 8 (dC (.int 0)))
dNext)
(dSeq (dIf (dB (dOp eqD (dVar 1) (dC (.int 4))))
(dSet 8 (dOp (mulD false) (dVar 8) (dC (.int 999))))
dNext)
(dExpr (dLM appM (dVar 6) (dCons (dOp (addD false) (dOp ixD (dVar 6) (dNeg (dC (.int 1)))) (dVar 8)) dNil))))))))))
(dFrz 6 (dRet (dTup (dCons (dCB tupleD (dCons (dSl false (dVar 6) dNoPart (dPart (dVar 4))) dNil)) (dCons (dCB tupleD (dCons (dSl false (dVar 6) (dPart (dVar 4)) (dPart (dOp (addD false) (dVar 4) (dVar 5)))) dNil)) (dCons (dOp subD (dOp ixD (dVar 6) (dOp (addD false) (dVar 4) (dVar 5))) (dOp ixD (dVar 6) (dVar 4))) dNil)))))))))))))
end Pn

namespace Pg
open PySem PySem.Spec PyProof.Rows L2 Dl 
def r_is_number : DS :=
(dRet (dAndV (dIsi .int (dVar 0)) (dAndV (dNotV (dIsi .bool (dVar 0))) (dOp geD (dVar 0) (dC (.int 0))))))
def r_value : DS :=
(dSeq (dAsg (tupG 3 (consG (nameG 2) (consG (nameG 3) (consG (nameG 4) nilG)))) (dVar 0))
(dSeq (dIf (dB (dOp ltD (dVar 1) (dCB lenD (dCons (dVar 2) dNil))))
(dRet (dOp ixD (dVar 2) (dVar 1)))
dNext)
(dSeq (dSet 5 (dOp subD (dVar 1) (dCB lenD (dCons (dVar 2) dNil))))
(dRet (dOp (addD false) (dOp ixD (dVar 3) (dOp modD (dVar 5) (dCB lenD (dCons (dVar 3) dNil)))) (dOp (mulD false) (dVar 4) (dOp divD (dVar 5) (dCB lenD (dCons (dVar 3) dNil)))))))))
end Pg

namespace Pg
open PySem PySem.Spec PyProof.Rows L2 Dl
theorem v_is_number {ds : List D} {m : Sto} {R : D → Sto → Prop} {RX : DX} (h : sp_is_number ds m R RX) : r_is_number { nx := fun _ m' => R .non m', rt := R } ⟨ds.map some ++ List.replicate (1 - ds.length) none, fun _ => RX⟩ m := by
  unfold sp_is_number at h
  split at h
  · refine ⟨fun _ => ⟨fun _ => ?_, fun z => nomatch z⟩, fun z => nomatch z⟩
    exact h
  · exact h.elim
theorem atI_int {xs : List Int} {k : Int} (h0 : 0 ≤ k) (h1 : k < xs.length) : L2.atI (xs.map D.int) k = some (.int (xs.getD k.toNat 0)) := by
  unfold L2.atI L2.ixN
  rw [if_pos h0, if_pos (by rw [List.length_map]; exact h1)]
  show (xs.map D.int)[k.toNat]? = _
  have hk : k.toNat < xs.length := by omega
  rw [List.getElem?_map, List.getElem?_eq_getElem hk, List.getD_eq_getElem?_getD, List.getElem?_eq_getElem hk]
  rfl
theorem v_value {ds : List D} {m : Sto} {R : D → Sto → Prop} {RX : DX} (h : sp_value ds m R RX) : r_value { nx := fun _ m' => R .non m', rt := R } ⟨ds.map some ++ List.replicate (6 - ds.length) none, fun _ => RX⟩ m := by
  unfold sp_value at h
  split at h
  · rename_i t
    obtain ⟨F, A, r, rfl, hA, hz, h0, h1, hR⟩ := h
    have hl : 0 < A.length := List.length_pos_iff.mpr hA
    refine ⟨rfl, ⟨fun c => ?_, fun c => ?_⟩⟩
    · have c' := of_decide_eq_true c
      rw [List.length_map] at c'
      refine ⟨_, _, rfl, atI_int h0 c', ?_⟩
      unfold val at hR
      rw [if_pos c'] at hR
      exact hR
    · have c' := of_decide_eq_false c
      rw [List.length_map] at c'
      have d0 : 0 ≤ (t - F.length) % (A.length : Int) := Int.emod_nonneg _ (by omega)
      have d1 : (t - F.length) % (A.length : Int) < A.length := Int.emod_lt_of_pos _ (by omega)
      have q1 : (t - F.length) / (A.length : Int) ≤ t - F.length := Int.ediv_le_self _ (by omega)
      have q0 : 0 ≤ (t - F.length) / (A.length : Int) := Int.ediv_nonneg (by omega) (by omega)
      refine ⟨?_, _, _, rfl, atI_int ?_ ?_, CDivW.small ?_ ?_, MulOk.small ?_ ?_, ?_⟩
      all_goals try simp only [List.length_map]
      · omega
      · exact d0
      · exact d1
      · omega
      · omega
      · omega
      · omega
      · unfold val at hR
        rw [if_neg c'] at hR
        exact hR
  · exact h.elim
end Pg

namespace Pn
open PySem PySem.Spec PyProof.Rows L2 Dl Pg
theorem v_law_at {ds : List D} {m : Sto} {R : D → Sto → Prop} {RX : DX} (h : sp_law_at ds m R RX) : r_law_at { nx := fun _ m' => R .non m', rt := R } ⟨ds.map some ++ List.replicate (6 - ds.length) none, fun _ => RX⟩ m := by
  unfold sp_law_at at h
  split at h
  · rename_i t
    obtain ⟨F, A, r, rfl, hA, hz, h0, h1, hR⟩ := h
    have hl : 0 < A.length := List.length_pos_iff.mpr hA
    refine ⟨rfl, ⟨fun c => ?_, fun c => ?_⟩⟩
    · have c' := of_decide_eq_true c
      rw [List.length_map] at c'
      refine ⟨_, _, rfl, atI_int h0 c', ?_⟩
      unfold val at hR
      rw [if_pos c'] at hR
      exact hR
    · have c' := of_decide_eq_false c
      rw [List.length_map] at c'
      have d0 : 0 ≤ (t - F.length) % (A.length : Int) := Int.emod_nonneg _ (by omega)
      have d1 : (t - F.length) % (A.length : Int) < A.length := Int.emod_lt_of_pos _ (by omega)
      have q1 : (t - F.length) / (A.length : Int) ≤ t - F.length := Int.ediv_le_self _ (by omega)
      have q0 : 0 ≤ (t - F.length) / (A.length : Int) := Int.ediv_nonneg (by omega) (by omega)
      refine ⟨?_, _, _, rfl, atI_int ?_ ?_, CDivW.small ?_ ?_, MulOk.smallL ?_ ?_, ?_⟩
      all_goals try simp only [List.length_map]
      · omega
      · exact d0
      · exact d1
      · omega
      · omega
      · omega
      · omega
      · unfold val at hR
        rw [if_neg c', Int.mul_comm] at hR
        exact hR
  · exact h.elim
theorem v_law_pen {ds : List D} {m : Sto} {R : D → Sto → Prop} {RX : DX} (h : sp_law_pen ds m R RX) : r_law_pen { nx := fun _ m' => R .non m', rt := R } ⟨ds.map some ++ List.replicate (1 - ds.length) none, fun _ => RX⟩ m := by
  unfold sp_law_pen at h
  split at h
  · obtain ⟨ns, rfl, hR⟩ := h
    refine ⟨_, rfl, (by show 3 ≤ sizeLine; decide), fun p hp => ?_⟩
    refine hR p _ hp ⟨cut ns none (some 63), 0, 0, ?_, by decide, by decide, by decide⟩
    unfold cut
    rw [List.length_map, List.map_take, List.map_drop]
  · exact h.elim
/-- an item of the seven -/
theorem prime_at {k : Int} (h0 : 0 ≤ k) (h1 : k < 7) : ∃ x : Int, L2.atI [D.int 2147483647, D.int 2147483629, D.int 2147483587, D.int 2147483579, D.int 2147483563, D.int 2147483549, D.int 2147483543] k = some (.int x) ∧ 2 ^ 30 < x ∧ x < 2 ^ 31 := by
  have e : k = 0 ∨ k = 1 ∨ k = 2 ∨ k = 3 ∨ k = 4 ∨ k = 5 ∨ k = 6 := by omega
  rcases e with rfl | rfl | rfl | rfl | rfl | rfl | rfl <;> exact ⟨_, rfl, by decide, by decide⟩
theorem v_law_take {ds : List D} {m : Sto} {R : D → Sto → Prop} {RX : DX} (h : sp_law_take ds m R RX) : r_law_take { nx := fun _ m' => R .non m', rt := R } ⟨ds.map some ++ List.replicate (7 - ds.length) none, fun _ => RX⟩ m := by
  unfold sp_law_take at h
  split at h
  · rename_i p n
    obtain ⟨b, X, hp, ⟨cells, k, left, rfl, k0, kb, l0⟩, hb, n0, n1, hR⟩ := h
    have mod0 : ∀ x : Int, 0 ≤ x % n := fun x => Int.emod_nonneg _ (by omega)
    have mod1 : ∀ x : Int, x % n < n := fun x => Int.emod_lt_of_pos _ n0
    refine ⟨_, _, ⟨_, hp, rfl⟩, rfl, ⟨fun c => ?_, fun c => ?_⟩⟩
    · -- a digit is left
      refine ⟨_, _, ⟨_, hp, rfl⟩, rfl, n0, _, _, ⟨_, hp, rfl⟩, rfl, CDivW.small n0 (by omega), _, 2, hp, rfl, ?_⟩
      exact hR _ _ (mod0 _) (mod1 _) ⟨cells, k, left / n, rfl, k0, by omega, Int.ediv_nonneg l0 (by omega)⟩
    · -- a cell
      have last : ∀ (cell : Int) (m1 : Sto), m1 = up m p (.lst [.lst (cells.map .int), .int (k + 1), .int left]) → ∀ δ : Ev, δ.s[1]? = some (some (.int n)) → δ.s[3]? = some (some (.int k)) → δ.s[4]? = some (some (.int cell)) → δ.s.length = 7 →
          (dSeq (dSet 5 (dLst false (dCons (dC (.int 2147483647)) (dCons (dC (.int 2147483629)) (dCons (dC (.int 2147483587)) (dCons (dC (.int 2147483579)) (dCons (dC (.int 2147483563)) (dCons (dC (.int 2147483549)) (dCons (dC (.int 2147483543)) dNil)))))))))
          (dSeq (dSet 6 (dOp (addD false) (dOp (addD false) (dOp modD (dVar 4) (dC (.int 2147483497))) (dOp (mulD false) (dC (.int 70001)) (dVar 3))) (dC (.int 19))))
          (dSeq (dSet 6 (dOp modD (dOp (mulD false) (dVar 6) (dOp (addD false) (dOp (mulD false) (dVar 3) (dVar 3)) (dC (.int 48271)))) (dOp ixD (dVar 5) (dOp modD (dVar 3) (dC (.int 7))))))
          (dRet (dOp modD (dOp divD (dOp modD (dOp powD (dVar 6) (dC (.int 5))) (dOp ixD (dVar 5) (dOp modD (dOp (addD false) (dVar 3) (dC (.int 3))) (dC (.int 7))))) (dC (.int 64))) (dVar 1)))))) { nx := fun _ m' => R .non m', rt := R } δ m1 := by
        intro cell m1 em δ e1 e3 e4 hl
        obtain ⟨s, x⟩ := δ
        match s, hl with
        | [a0, a1, a2, a3, a4, a5, a6], _ =>
          cases e1
          cases e3
          cases e4
          obtain ⟨x1, i1, l1, u1⟩ := prime_at (k := k % 7) (Int.emod_nonneg _ (by decide)) (Int.emod_lt_of_pos _ (by decide))
          obtain ⟨x2, i2, l2, u2⟩ := prime_at (k := (k + 3) % 7) (Int.emod_nonneg _ (by decide)) (Int.emod_lt_of_pos _ (by decide))
          have kk : k * k ≤ 2 ^ 30 * 2 ^ 30 := Int.mul_le_mul (by omega) (by omega) k0 (by decide)
          have kk0 : 0 ≤ k * k := Int.mul_nonneg k0 k0
          refine ⟨(by show 7 ≤ sizeLine; decide), (by decide), MulOk.smallL (by decide) (by decide), MulOk.smallL (by omega) (by omega), MulOk.small (by omega) (by omega), (by decide), _, _, rfl, i1, (by omega), ⟨by decide, by decide, ?_⟩, (by decide), _, _, rfl, i2, (by omega), CDivW.small (by decide) (by decide), n0, ?_⟩
          · have h0 := Int.emod_nonneg ((cell % 2147483497 + 70001 * k + 19) * (k * k + 48271)) (show x1 ≠ 0 by omega)
            have h1 := Int.emod_lt_of_pos ((cell % 2147483497 + 70001 * k + 19) * (k * k + 48271)) (show 0 < x1 by omega)
            omega
          · subst em
            exact hR _ _ (mod0 _) (mod1 _) ⟨cells, k + 1, left, rfl, by omega, by omega, l0⟩
      have test : ∀ (cell : Int) (m1 : Sto), m1 = up m p (.lst [.lst (cells.map .int), .int (k + 1), .int left]) → ∀ δ : Ev, δ.s[0]? = some (some (.ptr p)) → δ.s[1]? = some (some (.int n)) → δ.s[3]? = some (some (.int k)) → δ.s[4]? = some (some (.int cell)) → δ.s.length = 7 →
          dSeq (dIf (dAnd (dB (dOp ltD (dVar 3) (dCB lenD (dCons (dOp ixD (dVar 0) (dC (.int 0))) dNil)))) (dB (dOp geD (dCB absD (dCons (dVar 4) dNil)) (dOp powD (dC (.int 10)) (dC (.int 18))))))
            (dSeq (dAsg (subG (dVar 0) (dC (.int 2))) (dOp divD (dCB absD (dCons (dVar 4) dNil)) (dVar 1)))
            (dRet (dOp modD (dCB absD (dCons (dVar 4) dNil)) (dVar 1)))) dNext)
          (dSeq (dSet 5 (dLst false (dCons (dC (.int 2147483647)) (dCons (dC (.int 2147483629)) (dCons (dC (.int 2147483587)) (dCons (dC (.int 2147483579)) (dCons (dC (.int 2147483563)) (dCons (dC (.int 2147483549)) (dCons (dC (.int 2147483543)) dNil)))))))))
          (dSeq (dSet 6 (dOp (addD false) (dOp (addD false) (dOp modD (dVar 4) (dC (.int 2147483497))) (dOp (mulD false) (dC (.int 70001)) (dVar 3))) (dC (.int 19))))
          (dSeq (dSet 6 (dOp modD (dOp (mulD false) (dVar 6) (dOp (addD false) (dOp (mulD false) (dVar 3) (dVar 3)) (dC (.int 48271)))) (dOp ixD (dVar 5) (dOp modD (dVar 3) (dC (.int 7))))))
          (dRet (dOp modD (dOp divD (dOp modD (dOp powD (dVar 6) (dC (.int 5))) (dOp ixD (dVar 5) (dOp modD (dOp (addD false) (dVar 3) (dC (.int 3))) (dC (.int 7))))) (dC (.int 64))) (dVar 1)))))) { nx := fun _ m' => R .non m', rt := R } δ m1 := by
        intro cell m1 em δ e0 e1 e3 e4 hl
        obtain ⟨s, x⟩ := δ
        match s, hl with
        | [a0, a1, a2, a3, a4, a5, a6], _ =>
          cases e0
          cases e1
          cases e3
          cases e4
          have hp1 : m1 p = some (.lst [.lst (cells.map .int), .int (k + 1), .int left]) := by rw [em, up_same]
          have ab : 0 ≤ (if cell < 0 then -cell else cell) := by split <;> omega
          refine ⟨_, _, ⟨_, hp1, rfl⟩, rfl, ⟨fun c => ⟨⟨by decide, by decide, by decide⟩, ⟨fun c2 => ?_, fun c2 => ?_⟩⟩, fun c => ⟨(fun z => nomatch z), fun _ => last cell m1 em _ rfl rfl rfl rfl⟩⟩⟩
          · refine ⟨CDivW.small n0 (by omega), _, 2, hp1, rfl, n0, ?_⟩
            rw [em, up_up]
            exact hR _ _ (mod0 _) (mod1 _) ⟨cells, k + 1, (if cell < 0 then -cell else cell) / n, rfl, by omega, by omega, Int.ediv_nonneg ab (by omega)⟩
          · exact last cell m1 em _ rfl rfl rfl rfl
      refine ⟨_, _, ⟨_, hp, rfl⟩, rfl, _, 1, hp, rfl, MulOk.smallL (by decide) (by decide), _, _, ⟨_, up_same, rfl⟩, rfl, Nat.zero_le _, _, _, .lst (PvL.ints cells), .lst .nil, shaped_ints _, shaped_ints [], ⟨fun c2 => ?_, fun c2 => ?_⟩⟩
      · have cn : cells ≠ [] := fun e => by
          subst e
          have z := eqv_ints [] []
          rw [List.map_nil] at z
          rw [List.map_nil, z] at c2
          cases c2
        have cl : 0 < cells.length := List.length_pos_iff.mpr cn
        refine ⟨_, _, ⟨_, up_same, rfl⟩, rfl, _, _, ⟨_, up_same, rfl⟩, rfl, ?_, _, _, rfl, atI_int (Int.emod_nonneg _ ?_) ?_, ?_⟩
        · rw [List.length_map]
          omega
        · rw [List.length_map]
          omega
        · rw [List.length_map]
          exact Int.emod_lt_of_pos _ (by omega)
        · dsimp only
          refine test ?cc _ ?h1 _ ?h2 ?h3 ?h4 ?h5 ?h6
          (case h5 => rfl)
          (case h1 => rfl)
          (case h2 => rfl)
          (case h3 => rfl)
          (case h4 => rfl)
          (case h6 => rfl)
      · dsimp only [dNext]
        refine test ?dd _ ?g1 _ ?g2 ?g3 ?g4 ?g5 ?g6
        (case g5 => rfl)
        (case g1 => rfl)
        (case g2 => rfl)
        (case g3 => rfl)
        (case g4 => rfl)
        (case g6 => rfl)
  · exact h.elim
end Pn

namespace Pn
open PySem PySem.Spec PyProof.Rows L2 Dl Pg
/-- the row so far: n steps -/
structure Row (rs : List Int) (n : Nat) : Prop where
  len : rs.length = n + 1
  zero : rs[0]? = some 0
  mono : ∀ (i : Nat) x y, rs[i]? = some x → rs[i + 1]? = some y → x ≤ y
  bnd : ∀ x ∈ rs, 0 ≤ x ∧ x ≤ 12000 * n
theorem Row.app {rs : List Int} {n : Nat} {l s : Int} (h : Row rs n) (hl : rs[n]? = some l) (s0 : 0 ≤ s) (s1 : s ≤ 12000) : Row (rs ++ [l + s]) (n + 1) := by
  have lm := h.bnd l (List.mem_of_getElem? hl)
  refine ⟨by rw [List.length_append, h.len]; rfl, ?_, fun i x y hx hy => ?_, fun x hx => ?_⟩
  · rw [List.getElem?_append_left (by rw [h.len]; omega)]
    exact h.zero
  · by_cases hi : i + 1 < rs.length
    · rw [List.getElem?_append_left hi] at hy
      rw [List.getElem?_append_left (by omega)] at hx
      exact h.mono i x y hx hy
    · have hl2 := (List.getElem?_eq_some_iff.mp hy).1
      rw [List.length_append] at hl2
      have e : i + 1 = rs.length := by
        have : [l + s].length = 1 := rfl
        omega
      rw [List.getElem?_append_right (by omega), e, Nat.sub_self] at hy
      have ei : i = n := by rw [h.len] at e; omega
      rw [List.getElem?_append_left (by omega), ei, hl] at hx
      cases hx
      cases hy
      omega
  · rcases List.mem_append.mp hx with hx | hx
    · have := h.bnd x hx
      omega
    · have e : x = l + s := by simpa using hx
      omega
theorem Row.le {rs : List Int} {n : Nat} (h : Row rs n) : ∀ (k i : Nat) x y, rs[i]? = some x → rs[i + k]? = some y → x ≤ y
  | 0, i, x, y, hx, hy => by
    rw [Nat.add_zero, hx] at hy
    cases hy
    exact Int.le_refl _
  | k + 1, i, x, y, hx, hy => by
    have hl := (List.getElem?_eq_some_iff.mp hy).1
    have hz : rs[i + k]? = some rs[i + k] := List.getElem?_eq_getElem (by omega)
    have h1 := Row.le h k i x _ hx hz
    have h2 := h.mono (i + k) _ y hz hy
    omega
/-- the curve of a row -/
theorem Row.drawn {rs : List Int} {e l : Nat} (h : Row rs (e + l)) (hl : 0 < l) (hl2 : l ≤ 12) (he : e ≤ 24) : Drawn (rs.take e) ((rs.drop e).take l) (rs.getD (e + l) 0 - rs.getD e 0) := by
  have L := h.len
  have la : ((rs.drop e).take l).length = l := by rw [List.length_take, List.length_drop]; omega
  have ap : rs.take e ++ (rs.drop e).take l = rs.take (e + l) := by rw [List.take_add]
  have g1 : rs[e + l]? = some (rs.getD (e + l) 0) := by rw [List.getD_eq_getElem?_getD, List.getElem?_eq_getElem (by omega)]; rfl
  have g0 : rs[e]? = some (rs.getD e 0) := by rw [List.getD_eq_getElem?_getD, List.getElem?_eq_getElem (by omega)]; rfl
  have b1 := h.bnd _ (List.mem_of_getElem? g1)
  have b0 := h.bnd _ (List.mem_of_getElem? g0)
  have mo := h.le l e _ _ g0 g1
  have tk : ∀ i x, (rs.take (e + l))[i]? = some x → rs[i]? = some x ∧ i < e + l := fun i x hx => by
    have hi := (List.getElem?_eq_some_iff.mp hx).1
    rw [List.length_take] at hi
    rw [List.getElem?_take_of_lt (by omega)] at hx
    exact ⟨hx, by omega⟩
  refine ⟨fun z => by rw [z] at la; simp at la; omega, by omega, by rw [List.length_take]; omega, by omega, ?_, ?_, ?_, ?_, ?_, by omega⟩
  · rw [ap]
    intro x hx
    exact (h.bnd x (List.mem_of_mem_take hx)).1
  · rw [ap]
    intro x hx
    have := (h.bnd x (List.mem_of_mem_take hx)).2
    omega
  · rw [ap, List.getElem?_take_of_lt (by omega)]
    exact h.zero
  · rw [ap]
    intro i x y hx hy
    exact h.mono i x y (tk _ _ hx).1 (tk _ _ hy).1
  · intro x hx y hy
    rw [List.getElem?_take_of_lt hl, List.getElem?_drop, Nat.add_zero, g0] at hx
    rw [la, List.getElem?_take_of_lt (by omega), List.getElem?_drop] at hy
    cases hx
    have e1 : e + (l - 1) + 1 = e + l := by omega
    have := h.mono (e + (l - 1)) y _ hy (by rw [e1]; exact g1)
    omega
theorem rgL_inv {lo : Int} {n i : Nat} {x : D} (h : (rgL lo n)[i]? = some x) : i < n ∧ x = .int (lo + (i : Nat)) := by
  have hi := (List.getElem?_eq_some_iff.mp h).1
  rw [rgL_len] at hi
  rw [rgL_get hi] at h
  exact ⟨hi, (Option.some.inj h).symm⟩
theorem atI_end {xs : List Int} {z : Int} (h : xs[xs.length - 1]? = some z) : L2.atI (xs.map D.int) (-1) = some (.int z) := by
  have hl := (List.getElem?_eq_some_iff.mp h).1
  unfold L2.atI L2.ixN
  rw [if_neg (by decide), if_pos (by rw [List.length_map]; omega)]
  show (xs.map D.int)[(-1 + ((xs.map D.int).length : Int)).toNat]? = _
  have e : (-1 + ((xs.map D.int).length : Int)).toNat = xs.length - 1 := by rw [List.length_map]; omega
  rw [e, List.getElem?_map, h]
  rfl
theorem up_swap {m : Sto} {p q : Addr} {X X' L L' : MO} (h : p ≠ q) : up (up (up (up m p X) q L) p X') q L' = up (up m p X') q L' := by
  funext c
  by_cases h1 : c = q
  · rw [h1, up_same, up_same]
  · rw [up_ne h1, up_ne h1]
    by_cases h2 : c = p
    · rw [h2, up_same, up_same]
    · rw [up_ne h2, up_ne h1, up_ne h2, up_ne h2]
theorem v_law_curve {ds : List D} {m : Sto} {R : D → Sto → Prop} {RX : DX} (h : sp_law_curve ds m R RX) : r_law_curve { nx := fun _ m' => R .non m', rt := R } ⟨ds.map some ++ List.replicate (9 - ds.length) none, fun _ => RX⟩ m := by
  unfold sp_law_curve at h
  split at h
  · rename_i p
    obtain ⟨b, X, hp, hX, hb, hR⟩ := h
    refine ⟨b, X, hp, hX, by omega, by decide, by decide, fun way X1 w0 w1 hX1 => ?_⟩
    refine ⟨b + 1, X1, up_same, hX1, by omega, by decide, by decide, fun wi X2 i0 i1 hX2 => ?_⟩
    refine ⟨CDivW.small (by decide) (by decide), b + 1 + 1, X2, up_same, hX2, by omega, by decide, by decide, fun qu X3 q0 q1 hX3 => ?_⟩
    refine ⟨b + 1 + 1 + 1, X3, up_same, hX3, by omega, by decide, by decide, fun ea X4 e0 e1 hX4 => ?_⟩
    refine ⟨MulOk.smallL (by decide) (by decide), b + 1 + 1 + 1 + 1, X4, up_same, hX4, by omega, by decide, by decide, fun lo X5 l0 l1 hX5 => ?_⟩
    refine ⟨MulOk.smallL (by decide) (by decide), (by show 1 ≤ sizeLine; decide), fun q hq => ?_⟩
    have w15 : 0 ≤ wi / 15 ∧ wi / 15 ≤ 1 := by omega
    generalize wi / 15 = wd at w15
    have hpq : p ≠ q := fun z => by
      rw [z, up_same] at hq
      cases hq
    refine ⟨⟨by decide, by decide, by omega, by omega⟩, fun i δ m' => ∃ (rs : List Int) (X : MO) (t s : Option D), δ = ⟨[some (.ptr p), some (.int way), some (.int wd), some (.int (1 + qu)), some (.int (ea + 17 * wd)), some (.int (1 + lo + 7 * wd)), some (.ptr q), t, s], fun _ => RX⟩ ∧
      m' = up (up m p X) q (.lst (rs.map .int)) ∧ PenOk (b + 5 + i) X ∧ Row rs i, ⟨[0], X5, none, none, rfl, by simp only [up_up]; rfl, ?_, ⟨rfl, rfl, fun i x y hx hy => by cases i <;> simp at hy, fun x hx => by simp at hx; omega⟩⟩, fun _ _ _ _ => trivial, ?_, ?_⟩
    · have e : b + 1 + 1 + 1 + 1 + 1 = b + 5 + ((0 : Nat) : Int) := by omega
      rw [← e]
      exact hX5
    · rintro i x δ m' hx ⟨rs, X, t, s, rfl, rfl, hX, hrow⟩
      obtain ⟨hi, rfl⟩ := rgL_inv hx
      have hi40 : i < 37 := by omega
      refine ⟨MulOk.smallL (by decide) (by decide), b + 5 + i, X, by rw [up_ne hpq, up_same], hX, by omega, by omega, by omega, fun st X' s0 s1 hX' => ?_⟩
      dsimp only
      refine if_join (i := 8) (s := st) (fun z => 0 ≤ z ∧ z ≤ 12) rfl ⟨rfl, fun c => ⟨rfl, _, rfl, by omega⟩, fun c => by omega⟩ fun z1 hz1 => ?_
      dsimp only
      refine if_join (i := 8) (s := z1) (fun z => 0 ≤ z ∧ z ≤ 12) rfl ⟨fun c => ⟨rfl, fun c => ⟨rfl, _, rfl, by omega⟩, fun c => hz1⟩, fun c => ⟨rfl, (fun z => nomatch z), fun _ => hz1⟩⟩ fun z2 hz2 => ?_
      dsimp only
      refine if_join (i := 8) (s := z2) (fun z => 0 ≤ z ∧ z ≤ 72 ∧ (z ≤ 12 ∨ way = 2)) rfl ⟨fun c0 => ⟨rfl, fun c => ⟨MulOk.smallL (by decide) (by decide), rfl, _, rfl, by have := of_decide_eq_true c0; omega⟩, fun c => by omega⟩, fun c => ⟨rfl, (fun z => nomatch z), fun _ => by omega⟩⟩ fun z3 hz3 => ?_
      dsimp only
      refine if_join (i := 8) (s := z3) (fun z => 0 ≤ z ∧ z ≤ 72 ∧ (z ≤ 12 ∨ way = 2)) rfl ⟨fun c => ⟨by decide, rfl, fun c => ⟨rfl, _, rfl, by omega⟩, fun c => by omega⟩, fun c => ⟨rfl, (fun z => nomatch z), fun _ => by omega⟩⟩ fun z4 hz4 => ?_
      dsimp only
      refine if_join (i := 8) (s := z4) (fun z => 0 ≤ z ∧ z ≤ 12000) rfl ⟨rfl, fun c => ⟨MulOk.small (by decide) (by decide), rfl, _, rfl, by have := of_decide_eq_true c; omega⟩, fun c => by omega⟩ fun z5 hz5 => ?_
      obtain ⟨z, hz⟩ : ∃ z, rs[rs.length - 1]? = some z := ⟨_, List.getElem?_eq_getElem (by have := hrow.len; omega)⟩
      have hq1 : up (up (up m p X) q (.lst (rs.map .int))) p X' q = some (.lst (rs.map .int)) := by rw [up_ne hpq.symm, up_same]
      refine ⟨⟨_, _, hq1, rfl⟩, _, _, ⟨_, hq1, rfl⟩, atI_end hz, _, hq1, ?_, rs ++ [z + z5], X', _, _, rfl, ?_, ?_, ?_⟩
      · rw [List.length_map, hrow.len]
        exact small1000 (by omega)
      · rw [List.map_append]
        exact up_swap hpq
      · have e : b + 5 + ((i + 1 : Nat) : Int) = b + 5 + (i : Int) + 1 := by omega
        rw [e]
        exact hX'
      · have e : rs.length - 1 = i := by rw [hrow.len]; omega
        rw [e] at hz
        exact hrow.app hz hz5.1 hz5.2
    · rintro δ m' ⟨rs, X, t, s, rfl, rfl, hX, hrow⟩
      rw [rgL_len] at hX hrow
      have en : (ea + 17 * wd + (1 + lo + 7 * wd) + 1 - 1).toNat = (ea + 17 * wd).toNat + (1 + lo + 7 * wd).toNat := by omega
      rw [en] at hrow hX
      generalize he : (ea + 17 * wd).toNat = e at hrow hX
      generalize hl : (1 + lo + 7 * wd).toNat = l at hrow hX
      have he' : ea + 17 * wd = (e : Int) := by omega
      have hl' : 1 + lo + 7 * wd = (l : Int) := by omega
      rw [he', hl']
      have L := hrow.len
      have hrm : (rs.map D.int).length = e + l + 1 := by rw [List.length_map, L]
      refine ⟨q, _, rfl, up_same, _, rfl, _, rfl, _, _, rfl, atI_int (by omega) (by omega), _, _, rfl, atI_int (by omega) (by omega), (by show 3 ≤ sizeLine; decide), ?_⟩
      have hmq : (up m p X) q = none := by
        simp only [up_up] at hq
        rw [up_ne hpq.symm] at hq ⊢
        exact hq
      rw [del_up hmq]
      have c1 : cut (rs.map D.int) none (some ((e : Nat) : Int)) = (rs.take e).map D.int := by
        unfold cut
        rw [HT.sIx_none, HT.sIx_nat, hrm, Nat.min_eq_left (by omega), Nat.sub_zero, List.drop_zero, List.map_take]
      have c2 : cut (rs.map D.int) (some ((e : Nat) : Int)) (some (((e : Nat) : Int) + ((l : Nat) : Int))) = ((rs.drop e).take l).map D.int := by
        unfold cut
        have z : ((e : Nat) : Int) + ((l : Nat) : Int) = ((e + l : Nat) : Int) := by omega
        rw [z, HT.sIx_nat, HT.sIx_nat, hrm, Nat.min_eq_left (by omega), Nat.min_eq_left (by omega), Nat.add_sub_cancel_left, List.map_take, List.map_drop]
      have c3 : (((e : Nat) : Int) + ((l : Nat) : Int)).toNat = e + l := by omega
      have fin := hR _ _ _ X (hrow.drawn (by omega) (by omega) (by omega)) (by
        obtain ⟨cells, k, left, h1, h2, h3, h4⟩ := hX
        exact ⟨cells, k, left, h1, h2, by omega, h4⟩)
      unfold crv at fin
      rw [← c1, ← c2, ← c3] at fin
      exact fin
  · exact h.elim
end Pn

namespace Nt
open PySem PySem.Spec PyProof.Rows L2 Dl Pg
theorem PenD.mono {b b' : Int} {X : MO} (h : PenD b X) (k : b ≤ b') : PenD b' X := by
  obtain ⟨cells, kk, left, e1, e2, e3, e4⟩ := h
  exact ⟨cells, kk, left, e1, e2, by omega, e4⟩
theorem nCA : ¬ (("cells" : Str) = ("at" : Str)) := by decide +kernel
theorem nCL : ¬ (("cells" : Str) = ("left" : Str)) := by decide +kernel
theorem nAL : ¬ (("at" : Str) = ("left" : Str)) := by decide +kernel
theorem nAC : ¬ (("at" : Str) = ("cells" : Str)) := fun h => nCA h.symm
theorem nLC : ¬ (("left" : Str) = ("cells" : Str)) := fun h => nCL h.symm
theorem nLA : ¬ (("left" : Str) = ("at" : Str)) := fun h => nAL h.symm
section
variable {cells : List Int} {k left v : Int}
theorem getC : getK (penL cells k left) kC = some (.lst (cells.map .int)) := by simp [getK, List.find?_cons]
theorem getA : getK (penL cells k left) kA = some (.int k) := by simp [getK, List.find?_cons, nCA]
theorem getL : getK (penL cells k left) kL = some (.int left) := by simp [getK, List.find?_cons, nCL, nAL]
theorem putA : putKD (penL cells k left) kA (.int v) = penL cells v left := by simp [putKD, nCA, nLA]
theorem putL : putKD (penL cells k left) kL (.int v) = penL cells k v := by simp [putKD, nCL, nAL]
end
theorem v_law_pen {ds : List D} {m : Sto} {R : D → Sto → Prop} {RX : DX} (h : sp_law_pen ds m R RX) : r_law_pen { nx := fun _ m' => R .non m', rt := R } ⟨ds.map some ++ List.replicate (1 - ds.length) none, fun _ => RX⟩ m := by
  unfold sp_law_pen at h
  split at h
  · rename_i s
    obtain ⟨ns, rfl, hR⟩ := h
    refine fun p hp => ⟨_, rfl, up_same, [(kC, _), (kA, .int 0), (kL, .int 0)], rfl, (by show 3 ≤ 15; decide), ?_⟩
    rw [up_up]
    refine hR p _ hp ⟨ns.take 63, 0, 0, ?_, by decide, by decide, by decide⟩
    have e : cut (ns.map D.int) none (some 63) = (ns.take 63).map D.int := by
      unfold cut
      rw [HT.sIx_none, show (63 : Int) = ((63 : Nat) : Int) from rfl, HT.sIx_nat, Nat.sub_zero, List.drop_zero, List.map_take]
      rw [List.length_map]
      rcases Nat.le_total 63 ns.length with h | h
      · rw [Nat.min_eq_left h]
      · rw [Nat.min_eq_right h, List.take_of_length_le (by rw [List.length_map]; exact Nat.le_refl _), List.take_of_length_le (by rw [List.length_map]; exact h)]
    show MO.dct _ = MO.dct _
    rw [e]
    simp [mergeD, putKD, nCA, nCL, nAL, penL]
  · exact h.elim
section
variable {P : DEnds} {x : List (Option D) → DX} {m : Sto} {p : Addr} {n k cell : Int} {s2 s5 : Option D}
theorem draw_5 (n0 : 0 < n) (k0 : 0 ≤ k) (k1 : k ≤ 2 ^ 30) (hR : ∀ v, 0 ≤ v → v < n → P.rt (.int v) m) :
    r_law_draw_5 P ⟨[some (.ptr p), some (.int n), s2, some (.int k), some (.int cell), s5], x⟩ m := by
  have mod0 : ∀ x : Int, 0 ≤ x % n := fun x => Int.emod_nonneg _ (by omega)
  have mod1 : ∀ x : Int, x % n < n := fun x => Int.emod_lt_of_pos _ n0
  refine ⟨(by decide), MulOk.smallL (by decide) (by decide), ⟨by decide, by decide, ?_⟩, (by decide), (by decide), MulOk.smallL ?_ ?_, (by decide), CDivW.small (by decide) (by decide), n0, hR _ (mod0 _) (mod1 _)⟩
  · have := Int.emod_nonneg cell (show (2147483629 : Int) ≠ 0 by decide)
    have := Int.emod_lt_of_pos cell (show (0 : Int) < 2147483629 by decide)
    omega
  · have := Int.emod_nonneg ((cell % 2147483629 + 50023 * k + 11) ^ Int.toNat 5) (show (2147483647 : Int) ≠ 0 by decide)
    omega
  · have := Int.emod_lt_of_pos ((cell % 2147483629 + 50023 * k + 11) ^ Int.toNat 5) (show (0 : Int) < 2147483647 by decide)
    omega
theorem draw_4 {cells : List Int} {left : Int} (hp : m p = some (.dct (penL cells (k + 1) left))) (n0 : 0 < n) (n1 : n < 2 ^ 30) (k0 : 0 ≤ k) (k1 : k ≤ 2 ^ 30) (l0 : 0 ≤ left) (hR : ∀ v l, 0 ≤ v → v < n → 0 ≤ l → P.rt (.int v) (up m p (.dct (penL cells (k + 1) l)))) :
    r_law_draw_4 P ⟨[some (.ptr p), some (.int n), s2, some (.int k), some (.int cell), s5], x⟩ m := by
  have mod0 : ∀ x : Int, 0 ≤ x % n := fun x => Int.emod_nonneg _ (by omega)
  have mod1 : ∀ x : Int, x % n < n := fun x => Int.emod_lt_of_pos _ n0
  have same : up m p (.dct (penL cells (k + 1) left)) = m := by
    funext c
    by_cases e : c = p
    · rw [e, up_same, hp]
    · exact up_ne e
  have plain : ∀ v, 0 ≤ v → v < n → P.rt (.int v) m := fun v v0 v1 => by
    have := hR v left v0 v1 l0
    rw [same] at this
    exact this
  refine ⟨_, _, _, hp, rfl, getC, fun c => ?_, fun c => ?_⟩
  · have c' : k < (cells.map D.int).length := of_decide_eq_true c
    rw [List.length_map] at c'
    refine ⟨_, _, _, hp, rfl, getC, _, _, rfl, atI_int k0 c', ⟨by decide, by decide, by decide⟩, fun c2 => ?_, fun c2 => draw_5 n0 k0 k1 plain⟩
    have ab : 0 ≤ (if cells.getD k.toNat 0 < 0 then -(cells.getD k.toNat 0) else cells.getD k.toNat 0) := by split <;> omega
    refine ⟨CDivW.small n0 (by omega), _, kL, hp, rfl, (by show 3 < sizeLine; decide), ?_⟩
    rw [putL]
    exact ⟨n0, hR _ _ (mod0 _) (mod1 _) (Int.ediv_nonneg ab (by omega))⟩
  · refine ⟨_, _, _, hp, rfl, getC, fun c2 => ?_, fun c2 => draw_5 n0 k0 k1 plain⟩
    have c' : 0 < ((cells.map D.int).length : Int) := of_decide_eq_true c2
    rw [List.length_map] at c'
    have lc : (cells.map D.int).length = cells.length := List.length_map ..
    refine ⟨_, _, _, hp, rfl, getC, _, _, _, hp, rfl, getC, ?_, _, _, rfl, atI_int (Int.emod_nonneg _ ?_) ?_, ⟨by decide, by decide, by decide⟩, (by decide), MulOk.smallL (by decide) (by decide), draw_5 n0 k0 k1 plain⟩
    · rw [lc]
      omega
    · rw [lc]
      omega
    · rw [lc]
      exact Int.emod_lt_of_pos _ (by omega)
end
theorem v_law_draw {ds : List D} {m : Sto} {R : D → Sto → Prop} {RX : DX} (h : sp_law_draw ds m R RX) : r_law_draw { nx := fun _ m' => R .non m', rt := R } ⟨ds.map some ++ List.replicate (6 - ds.length) none, fun _ => RX⟩ m := by
  unfold sp_law_draw at h
  split at h
  · rename_i p n
    obtain ⟨b, X, hp, ⟨cells, k, left, rfl, k0, kb, l0⟩, hb, n0, n1, hR⟩ := h
    have mod0 : ∀ x : Int, 0 ≤ x % n := fun x => Int.emod_nonneg _ (by omega)
    have mod1 : ∀ x : Int, x % n < n := fun x => Int.emod_lt_of_pos _ n0
    refine ⟨_, _, _, hp, rfl, getL, fun c => ?_, fun c => ?_⟩
    · refine ⟨_, _, _, hp, rfl, getL, n0, _, _, _, hp, rfl, getL, CDivW.small n0 (by omega), _, kL, hp, rfl, (by show 3 < sizeLine; decide), ?_⟩
      rw [putL]
      exact hR _ _ (mod0 _) (mod1 _) ⟨cells, k, left / n, rfl, k0, by omega, Int.ediv_nonneg l0 (by omega)⟩
    · refine ⟨_, _, _, hp, rfl, getA, _, kA, hp, rfl, (by show 3 < sizeLine; decide), MulOk.smallL (by decide) (by decide), MulOk.small (by omega) (by omega), ?_⟩
      rw [putA]
      refine draw_4 up_same n0 n1 k0 (by omega) l0 fun v l v0 v1 l0' => ?_
      rw [up_up]
      exact hR _ _ v0 v1 ⟨cells, k + 1, l, rfl, by omega, by omega, l0'⟩
  · exact h.elim
end Nt

namespace Nt
open PySem PySem.Spec PyProof.Rows L2 Dl Pg TL
/-- from m1 to m2 but at pen -/
def LeB (pen : Addr) (m m' : Sto) : Prop := ∀ a o, a ≠ pen → m a = some o → m' a = some o
/-- each item yields by draws of a pen, c of them -/
theorem lc_drawn {is : List Nat} {tup : Bool} {e : DE} {δ : Ev} {m1 : Sto} {R : D → Sto → Prop} {xs : List D} {keep : Sto → Prop} (fl : Bool) (pen : Addr) (P : Nat → D → Prop) (c b0 : Int) (X0 : MO) (hp : m1 pen = some X0) (hX : PenD b0 X0) (hk : ∀ m2, LeB pen m1 m2 → keep m2) (hz : xs.length ≤ sizeLine)
    (hs : ∀ (k : Nat) x m2 X, xs[k]? = some x → m2 pen = some X → PenD (b0 + c * (k : Int)) X → LeB pen m1 m2 → ∃ ds, tgD is tup x = some ds ∧ ∀ R : D → Sto → Prop, (∀ d X', P k d → PenD (b0 + c * (k : Int) + c) X' → R d (up m2 pen X')) → e (setAll δ is ds) m2 R)
    (hR : ∀ acc X, acc.length = xs.length → (∀ i d, acc[i]? = some d → P i d) → PenD (b0 + c * (xs.length : Int)) X → newL fl acc (up m1 pen X) R) : LcCore fl is tup dYes e δ R xs keep m1 := by
  intro p hp1
  have pp : p ≠ pen := fun z => by rw [z, hp] at hp1; cases hp1
  refine ⟨fun k m2 => ∃ acc X, m2 = up (up m1 pen X) p (.lst acc) ∧ acc.length = k ∧ (∀ i d, acc[i]? = some d → P i d) ∧ PenD (b0 + c * (k : Int)) X, ⟨[], X0, ?_, rfl, (fun i d h => by simp at h), ?_⟩, ?_, ?_, ?_⟩
  · have e0 : up m1 pen X0 = m1 := by
      funext a
      by_cases h : a = pen
      · rw [h, up_same, hp]
      · exact up_ne h
    rw [e0]
  · have e : b0 + c * ((0 : Nat) : Int) = b0 := by simp
    rw [e]
    exact hX
  · rintro k m2 ⟨acc, X, rfl, _, _, _⟩
    refine hk _ fun a o ha h => ?_
    have ap : a ≠ p := fun z => by rw [z, hp1] at h; cases h
    rw [up_ne ap, up_ne ha]
    exact h
  · rintro k x m2 hx ⟨acc, X, rfl, hl, hP, hXk⟩
    have hlt := (List.getElem?_eq_some_iff.mp hx).1
    obtain ⟨ds, h1, h2⟩ := hs k x (up (up m1 pen X) p (.lst acc)) X hx (by rw [up_ne pp.symm, up_same]) hXk (fun a o ha h => by
      have ap : a ≠ p := fun z => by rw [z, hp1] at h; cases h
      rw [up_ne ap, up_ne ha]
      exact h)
    refine ⟨ds, h1, fun _ => h2 _ fun d X' hd hX' => ⟨acc, by rw [up_ne pp, up_same], by omega, acc ++ [d], X', ?_, by rw [List.length_append, hl]; rfl, fun i d' h => ?_, ?_⟩, fun z => by cases z⟩
    · rw [up_comm pp, up_up, up_up]
    · by_cases hi : i < acc.length
      · rw [List.getElem?_append_left hi] at h
        exact hP i d' h
      · rw [List.getElem?_append_right (by omega)] at h
        have e0 : i - acc.length = 0 := by
          have := (List.getElem?_eq_some_iff.mp h).1
          simp at this
          omega
        rw [e0] at h
        cases h
        have ei : i = k := by omega
        rw [ei]
        exact hd
    · have e : b0 + c * ((k + 1 : Nat) : Int) = b0 + c * (k : Int) + c := by
        rw [show ((k + 1 : Nat) : Int) = (k : Int) + 1 by omega, Int.mul_add, Int.mul_one, Int.add_assoc]
      rw [e]
      exact hX'
  · rintro m2 ⟨acc, X, rfl, hl, hP, hXk⟩
    have hq : up m1 pen X p = none := (up_ne pp).trans hp1
    refine ⟨acc, up_same, ?_⟩
    have h := hR acc X hl hP hXk
    cases fl with
    | true => exact h p hq
    | false =>
      show R (.lst acc) (del (up (up m1 pen X) p _) p)
      rw [del_up hq]
      exact h
theorem ext_tl' {a b : Str} (h : tl a = tl b) : a = b := by
  obtain ⟨x⟩ := a
  obtain ⟨y⟩ := b
  have : x = y := Array.toList_inj.mp h
  rw [this]
theorem tl_len {a : Str} : a.length = (tl a).length := by
  show a.cps.size = _
  rw [Array.length_toList]
theorem tl_app {a b : Str} : tl (a ++ b) = tl a ++ tl b := PyProof.Rows.cps_toList_append a b
theorem isName_of {l : List Nat} (h1 : 1 ≤ l.length) (h8 : l.length ≤ 8) (h : ∀ c ∈ l, isLet c = true) : isName ⟨l.toArray⟩ = true := by
  unfold isName
  have e : (⟨l.toArray⟩ : Str).length = l.length := by rw [tl_len]
  rw [e, decide_eq_true h1, decide_eq_true h8]
  simpa using h
abbrev lets : Str := "abcdefghijklmnopqrstuvwxyz"
theorem lets_tl : lets.cps.toList = List.range' 97 26 := by decide +kernel
theorem lets_len : lets.length ≤ sizeLine := by decide
theorem lets_at {k : Int} (h0 : 0 ≤ k) (h1 : k < 26) : L2.atI lets.cps.toList k = some (97 + k.toNat) := by
  rw [lets_tl]
  unfold L2.atI L2.ixN
  rw [if_pos h0, if_pos (by rw [List.length_range']; omega)]
  show (List.range' 97 26)[k.toNat]? = _
  rw [List.getElem?_range' (by omega)]
  congr 1
  omega
theorem isLet_at {k : Nat} (h : k < 26) : isLet (97 + k) = true := by
  unfold isLet
  rw [decide_eq_true (by omega), decide_eq_true (by omega)]
  rfl
theorem cut_pre {z : Str} {n : Nat} : tl (cutS z none (some (n : Int))) = (tl z).take n := by
  unfold cutS
  rw [HT.sIx_none, HT.sIx_nat, Nat.sub_zero, List.drop_zero, tl_len]
  show ((tl z).take (min n (tl z).length)) = _
  rcases Nat.le_total n (tl z).length with h | h
  · rw [Nat.min_eq_left h]
  · rw [Nat.min_eq_right h, List.take_of_length_le (Nat.le_refl _), List.take_of_length_le h]
theorem cut_mid {z : Str} {a n : Nat} (h : a ≤ z.length) : tl (cutS z (some (a : Int)) (some (n : Int))) = ((tl z).drop a).take (n - a) := by
  unfold cutS
  rw [HT.sIx_nat, HT.sIx_nat, tl_len]
  rw [tl_len] at h
  show (((tl z).drop (min a (tl z).length)).take (min n (tl z).length - min a (tl z).length)) = _
  rw [Nat.min_eq_left h]
  rcases Nat.le_total n (tl z).length with h' | h'
  · rw [Nat.min_eq_left h']
  · rw [Nat.min_eq_right h', List.take_of_length_le (by rw [List.length_drop]; exact Nat.le_refl _), List.take_of_length_le (by rw [List.length_drop]; omega)]
theorem joinL_nil : ∀ ps : List (List Nat), joinL [] ps = ps.flatten
  | [] => rfl
  | [p] => by simp [joinL]
  | p :: q :: r => by
    show p ++ ([] ++ joinL [] (q :: r)) = _
    rw [joinL_nil (q :: r)]
    rfl
theorem tl_cons {c : Nat} : tl (⟨#[c]⟩ : Str) = [c] := rfl
theorem flat_ones : ∀ cs : List Nat, (cs.map fun c => [c]).flatten = cs
  | [] => rfl
  | c :: r => by rw [List.map_cons, List.flatten_cons, flat_ones r]; rfl
/-- joined letters -/
theorem join_ones (cs : List Nat) : tl (Txt.join "" (cs.map fun c => (⟨#[c]⟩ : Str))) = cs := by
  rw [join_eq, tl_join]
  have e : tl ("" : Str) = [] := by decide +kernel
  rw [e, joinL_nil, List.map_map]
  exact flat_ones cs
theorem ones_of : ∀ {acc : List D}, (∀ (i : Nat) (d : D), acc[i]? = some d → ∃ c, d = D.str ⟨#[c]⟩ ∧ isLet c = true) → ∃ cs : List Nat, acc = cs.map (fun c => D.str ⟨#[c]⟩) ∧ ∀ c ∈ cs, isLet c = true
  | [], _ => ⟨[], rfl, fun _ h => (nomatch h)⟩
  | d :: r, h => by
    obtain ⟨c, e, hc⟩ := h 0 d rfl
    obtain ⟨cs, e2, hcs⟩ := ones_of (acc := r) fun i d hd => h (i + 1) d hd
    exact ⟨c :: cs, by rw [e, e2]; rfl, fun x hx => (List.mem_cons.mp hx).elim (fun z => z ▸ hc) (hcs x)⟩
/-- names by their signs -/
theorem names_of {n : Nat} {f : Nat → List Nat} (h1 : ∀ k, k < n → 1 ≤ (f k).length ∧ (f k).length ≤ 8) (h : ∀ k, k < n → ∀ c ∈ f k, isLet c = true) (inj : ∀ i j, i < n → j < n → f i = f j → i = j) :
    (∀ y ∈ (List.range n).map fun k => (⟨(f k).toArray⟩ : Str), isName y = true) ∧ ((List.range n).map fun k => (⟨(f k).toArray⟩ : Str)).Nodup := by
  refine ⟨fun y hy => ?_, ?_⟩
  · obtain ⟨k, hk, e⟩ := List.mem_map.mp hy
    have hk' := List.mem_range.mp hk
    rw [← e]
    exact isName_of (h1 k hk').1 (h1 k hk').2 (h k hk')
  · rw [List.nodup_iff_pairwise_ne, List.pairwise_map]
    refine List.Pairwise.imp_of_mem (R := fun a b => a < b) (fun {i j} hi hj hij e => ?_) List.pairwise_lt_range
    have e2 : f i = f j := by
      have := congrArg tl e
      simpa using this
    have := inj i j (List.mem_range.mp hi) (List.mem_range.mp hj) e2
    omega
abbrev wl : List Str := [("server" : Str), "stream", "via", "a", "net", "order", "ring", "run", "z", "streams", "serve"]
theorem wl_names : (wl.all fun y => isName y) = true := by decide +kernel
theorem wl_nodup : ((List.range 11).all fun b => decide ((List.range 6).map fun k => wl.getD ((b + 3 * k) % 11) "").Nodup) = true := by decide +kernel
theorem wl_at {k : Int} (h0 : 0 ≤ k) (h1 : k < 11) : L2.atI (wl.map D.str) k = some (.str (wl.getD k.toNat "")) := by
  unfold L2.atI L2.ixN
  have e : (wl.map D.str).length = 11 := rfl
  rw [if_pos h0, if_pos (by rw [e]; omega)]
  show (wl.map D.str)[k.toNat]? = _
  rw [List.getElem?_map, List.getD_eq_getElem?_getD]
  have hk : k.toNat < wl.length := by show k.toNat < 11; omega
  rw [List.getElem?_eq_getElem hk]
  rfl
end Nt

namespace Nt
open PySem PySem.Spec PyProof.Rows L2 Dl Pg TL
open Pn (rgL_inv)
theorem sz8 {x : Str} (h : x.length ≤ 1000000) : x.length ≤ sizeLine := Nat.le_trans h (by decide)
theorem szn {n : Nat} (h : n ≤ 1000000) : n ≤ sizeLine := Nat.le_trans h (by decide)
section
variable {P : DEnds} {x : List (Option D) → DX} {m : Sto} {p : Addr} {n bg b : Int} {X : MO} {base : Str} {s2 s3 s5 s6 s7 s8 s9 : Option D}
theorem names_7 (hp : m p = some X) (hX : PenD b X) (hb : b ≤ 2 ^ 29 + 100) (n0 : 1 ≤ n) (n1 : n ≤ 6) (b0 : 0 ≤ bg) (b1 : bg < 26) (hl : (tl base).length = 8) (ha : ∀ c ∈ tl base, isLet c = true)
    (hR : ∀ (ys : List Str) X', ys.length = n.toNat → (∀ y ∈ ys, isName y = true) → ys.Nodup → PenD (b + 2) X' → P.rt (.lst (ys.map .str)) (up m p X')) :
    r_law_names_7 P ⟨[some (.ptr p), some (.int n), some (.str lets), s3, some (.int bg), s5, s6, some (.str base), s8, s9], x⟩ m := by
  refine ⟨b, X, hp, hX, by omega, by decide, by decide, fun l X1 l0 l1 hX1 => ?_⟩
  refine ⟨b + 1, X1, up_same, hX1, by omega, by omega, by omega, fun at_ X2 a0 a1 hX2 => ?_⟩
  simp only [up_up]
  obtain ⟨la, hla⟩ : ∃ la : Nat, at_ = (la : Int) := ⟨at_.toNat, by omega⟩
  obtain ⟨ll, hll⟩ : ∃ ll : Nat, 1 + l = (ll : Int) := ⟨(1 + l).toNat, by omega⟩
  have hl8 : base.length = 8 := by rw [len_tl]; exact hl
  obtain ⟨f, hf⟩ : ∃ f : Nat → List Nat, f = fun (k : Nat) => (tl base).take la ++ [97 + ((bg + 5 * (k : Int)) % 26).toNat] ++ ((tl base).drop (la + 1)).take (ll - (la + 1)) := ⟨_, rfl⟩
  have fl : ∀ k, (f k).length = ll := fun k => by
    rw [hf]
    simp only [List.length_append, List.length_take, List.length_drop, hl, List.length_singleton]
    omega
  have N := names_of (n := n.toNat) (f := f) (fun k _ => by rw [fl]; omega) (fun k hk c hc => by
    rw [hf] at hc
    simp only [List.mem_append, List.mem_singleton] at hc
    rcases hc with (hc | hc) | hc
    · exact ha c (List.mem_of_mem_take hc)
    · rw [hc]
      exact isLet_at (by omega)
    · exact ha c (List.mem_of_mem_drop (List.mem_of_mem_take hc))) (fun i j hi hj e => by
    rw [hf] at e
    simp only [List.append_assoc] at e
    have e1 := List.append_cancel_left e
    have e2 : 97 + ((bg + 5 * (i : Int)) % 26).toNat = 97 + ((bg + 5 * (j : Int)) % 26).toNat := by
      have := congrArg List.head? e1
      simpa using this
    omega)
  refine ⟨by omega, by omega, lc_pure false (((List.range n.toNat).map fun k => (⟨(f k).toArray⟩ : Str)).map D.str) (fun _ _ => trivial) ?_ ?_ (fun k y z m3 hx hy le => ?_) ?_⟩
  · rw [rgL_len, List.length_map, List.length_map, List.length_range]
  · rw [rgL_len]
    exact szn (by omega)
  · obtain ⟨hk, rfl⟩ := rgL_inv hx
    rw [List.getElem?_map, List.getElem?_map, List.getElem?_range hk] at hy
    cases hy
    refine ⟨_, rfl, fun R hR => ⟨sz8 (by omega), MulOk.smallL (by decide) (by decide), by decide, lets_len, _, lets_at (Int.emod_nonneg _ (by decide)) (Int.emod_lt_of_pos _ (by decide)), ?_, sz8 (by omega), ?_, ?_⟩⟩
    · rw [hla, len_tl, len_tl, cut_pre, List.length_take, hl]
      exact szn (by show _ + 1 ≤ 1000000; omega)
    · rw [len_tl, len_tl, tl_append, hla, hll, cut_pre]
      have e : (la : Int) + 1 = ((la + 1 : Nat) : Int) := by omega
      rw [e, cut_mid (by omega), List.length_append, List.length_take, List.length_take, List.length_drop, hl]
      exact szn (by show _ + 1 + _ ≤ 1000000; omega)
    · have ez : (cutS base none (some at_) ++ (⟨#[97 + ((bg + 5 * (0 + (k : Int))) % 26).toNat]⟩ : Str) ++ cutS base (some (at_ + 1)) (some (1 + l))) = ⟨(f k).toArray⟩ := by
        refine ext_tl ?_
        have e : (la : Int) + 1 = ((la + 1 : Nat) : Int) := by omega
        rw [tl_append, tl_append, hla, hll, cut_pre, e, cut_mid (by omega), hf, Int.zero_add]
      exact (congrArg (fun z => R (D.str z) m3) ez).mpr hR
  · exact hR _ X2 (by rw [List.length_map, List.length_range]) N.1 N.2 (PenD.mono hX2 (by omega))
theorem names_5 (hp : m p = some X) (hX : PenD b X) (hb : b ≤ 2 ^ 29 + 50) (n0 : 1 ≤ n) (n1 : n ≤ 6) (b0 : 0 ≤ bg) (b1 : bg < 26) {way : Int}
    (hR : ∀ (ys : List Str) X', ys.length = n.toNat → (∀ y ∈ ys, isName y = true) → ys.Nodup → PenD (b + 10) X' → P.rt (.lst (ys.map .str)) (up m p X')) :
    r_law_names_5 P ⟨[some (.ptr p), some (.int n), some (.str lets), some (.int way), some (.int bg), s5, s6, s7, s8, s9], x⟩ m := by
  refine ⟨by decide, by decide, lc_drawn false p (fun _ d => ∃ c, d = .str ⟨#[c]⟩ ∧ isLet c = true) 1 b X hp hX (fun _ _ => trivial) ?_ (fun k y m2 X2 hx hp2 hX2 _ => ?_) fun acc X2 hl hP hX2 => ?_⟩
  · rw [rgL_len]
    exact szn (by decide)
  · obtain ⟨hk, rfl⟩ := rgL_inv hx
    have hk8 : k < 8 := hk
    refine ⟨_, rfl, fun R hR => ⟨_, X2, hp2, hX2, by omega, by decide, by decide, fun v X' v0 v1 hX' => ⟨lets_len, _, lets_at v0 v1, hR _ X' ⟨_, rfl, isLet_at (by omega)⟩ ?_⟩⟩⟩
    exact hX'
  · obtain ⟨cs, rfl, hcs⟩ := ones_of hP
    rw [rgL_len] at hl hX2
    rw [List.length_map] at hl
    have hl8 : cs.length = 8 := hl
    refine ⟨cs.map (fun c => (⟨#[c]⟩ : Str)), ?_, ?_, ?_⟩
    · show cs.map _ = (cs.map _).map _
      rw [List.map_map]
      rfl
    · rw [List.map_map, List.length_map, hl8]
      have e : (cs.map ((fun z : Str => z.length) ∘ fun c => (⟨#[c]⟩ : Str))).sum ≤ 8 := by
        have := sum_le (cs.map ((fun z : Str => z.length) ∘ fun c => (⟨#[c]⟩ : Str))) 1 (fun q hq => by
          obtain ⟨c, _, e⟩ := List.mem_map.mp hq
          rw [← e]
          exact Nat.le_refl _)
        rw [List.length_map] at this
        omega
      have e0 : ("" : Str).length = 0 := by decide +kernel
      rw [e0]
      omega
    · have hj := join_ones cs
      obtain ⟨base, hbase⟩ : ∃ base, Txt.join ("" : Str) (cs.map fun c => (⟨#[c]⟩ : Str)) = base := ⟨_, rfl⟩
      rw [hbase] at hj ⊢
      have hbl : (tl base).length = 8 := by rw [hj]; exact hl8
      have hba : ∀ c ∈ tl base, isLet c = true := by rw [hj]; exact hcs
      have hb8 : base.length = 8 := by rw [len_tl]; exact hbl
      have h8 : PenD (b + 8) X2 := by
        have : b + 1 * ((Int.toNat 8 : Nat) : Int) = b + 8 := by simp
        rw [this] at hX2
        exact hX2
      refine ⟨fun _ => ?_, fun _ => names_7 up_same h8 (by omega) n0 n1 b0 b1 hbl hba fun ys X' h1 h2 h3 h4 => ?_⟩
      · obtain ⟨f, hf⟩ : ∃ f : Nat → List Nat, f = fun k => (tl base).take (1 + (bg.toNat + k) % 8) := ⟨_, rfl⟩
        have fl : ∀ k, (f k).length = 1 + (bg.toNat + k) % 8 := fun k => by
          rw [hf]
          simp only [List.length_take, hbl]
          omega
        have N := names_of (n := n.toNat) (f := f) (fun k _ => by rw [fl]; omega) (fun k hk c hc => by
          rw [hf] at hc
          exact hba c (List.mem_of_mem_take hc)) (fun i j hi hj e => by
          have := congrArg List.length e
          rw [fl, fl] at this
          omega)
        refine ⟨by omega, by omega, lc_pure false (((List.range n.toNat).map fun k => (⟨(f k).toArray⟩ : Str)).map D.str) (fun _ _ => trivial) ?_ ?_ (fun k y z m3 hx hy le => ?_) ?_⟩
        · rw [rgL_len, List.length_map, List.length_map, List.length_range]
        · rw [rgL_len]
          exact szn (by omega)
        · obtain ⟨hk, rfl⟩ := rgL_inv hx
          rw [List.getElem?_map, List.getElem?_map, List.getElem?_range hk] at hy
          cases hy
          refine ⟨_, rfl, fun R hR => ⟨by decide, sz8 (by omega), ?_⟩⟩
          have ez : cutS base none (some (1 + (bg + (0 + (k : Int))) % 8)) = ⟨(f k).toArray⟩ := by
            refine ext_tl ?_
            have e : 1 + (bg + (0 + (k : Int))) % 8 = ((1 + (bg.toNat + k) % 8 : Nat) : Int) := by omega
            rw [e, cut_pre, hf]
          exact (congrArg (fun z => R (D.str z) m3) ez).mpr hR
        · exact hR _ X2 (by rw [List.length_map, List.length_range]) N.1 N.2 (PenD.mono h8 (by omega))
      · rw [up_up]
        exact hR ys X' h1 h2 h3 (PenD.mono h4 (by omega))
theorem v_law_names {ds : List D} {R : D → Sto → Prop} {RX : DX} (h : sp_law_names ds m R RX) : r_law_names { nx := fun _ m' => R .non m', rt := R } ⟨ds.map some ++ List.replicate (10 - ds.length) none, fun _ => RX⟩ m := by
  unfold sp_law_names at h
  split at h
  · rename_i p n
    obtain ⟨b, X, hp, hX, hb, n0, n1, hR⟩ := h
    refine ⟨b, X, hp, hX, by omega, by decide, by decide, fun way X1 w0 w1 hX1 => ?_⟩
    refine ⟨b + 1, X1, up_same, hX1, by omega, by decide, by decide, fun bg X2 b0 b1 hX2 => ⟨(by show 11 ≤ sizeLine; decide), fun _ => ?_, fun _ => ?_⟩⟩
    · simp only [up_up]
      have wn := wl_nodup
      have wa := wl_names
      rw [List.all_eq_true] at wn wa
      have nd := of_decide_eq_true (wn (bg.toNat % 11) (List.mem_range.mpr (by omega)))
      have nd2 : ((List.range n.toNat).map fun k => wl.getD ((bg.toNat % 11 + 3 * k) % 11) "").Nodup := by
        have e : (List.range n.toNat).map (fun k => wl.getD ((bg.toNat % 11 + 3 * k) % 11) "") = ((List.range 6).map fun k => wl.getD ((bg.toNat % 11 + 3 * k) % 11) "").take n.toNat := by
          rw [← List.map_take, List.take_range, Nat.min_eq_left (by omega)]
        rw [e]
        exact nd.sublist (List.take_sublist _ _)
      refine ⟨by omega, by omega, lc_pure false (((List.range n.toNat).map fun k => wl.getD ((bg.toNat % 11 + 3 * k) % 11) "").map D.str) (fun _ _ => trivial) ?_ ?_ (fun k y z m3 hx hy le => ?_) ?_⟩
      · rw [rgL_len, List.length_map, List.length_map, List.length_range]
      · rw [rgL_len]
        exact szn (by omega)
      · obtain ⟨hk, rfl⟩ := rgL_inv hx
        rw [List.getElem?_map, List.getElem?_map, List.getElem?_range hk] at hy
        cases hy
        refine ⟨_, rfl, fun R hR => ⟨MulOk.smallL (by decide) (by decide), by decide, _, _, rfl, wl_at (Int.emod_nonneg _ (by decide)) (Int.emod_lt_of_pos _ (by decide)), ?_⟩⟩
        have e : ((bg + 3 * (0 + (k : Int))) % 11).toNat = (bg.toNat % 11 + 3 * k) % 11 := by omega
        rw [e]
        exact hR
      · refine hR _ _ X2 (by rw [List.length_map, List.length_range]) (fun y hy => ?_) nd2 (PenD.mono hX2 (by omega)) rfl
        obtain ⟨k, _, e⟩ := List.mem_map.mp hy
        rw [← e]
        have hk : (bg.toNat % 11 + 3 * k) % 11 < wl.length := Nat.mod_lt _ (by decide)
        refine wa _ ?_
        rw [List.getD_eq_getElem?_getD, List.getElem?_eq_getElem hk]
        exact List.getElem_mem hk
    · refine names_5 up_same hX2 (by omega) n0 n1 b0 b1 fun ys X' h1 h2 h3 h4 => ?_
      simp only [up_up]
      exact hR ys _ X' h1 h2 h3 (PenD.mono h4 (by omega)) rfl
  · exact h.elim
end
end Nt

/-! A Meter: promises. -/
namespace Mt
open PySem PySem.Spec PyProof.Rows L2 Dl Pg
/-- the curve's first n values -/
def vals (F A : List Int) (r : Int) (n : Nat) : List Int := (List.range n).map fun i => val F A r (i : Nat)
/-- how much may come next -/
def leaveI (F A : List Int) (r : Int) (T : List Int) : Int := lmin ((List.range T.length).map fun s => val F A r ((T.length : Int) - (s : Nat)) + T.getD s 0) - T.getD (T.length - 1) 0
def steps (T : List Int) : List Int := (List.range (T.length - 1)).map fun i => T.getD (i + 1) 0 - T.getD i 0
structure MeterAt (C : Addr) (m : Sto) (a p q : Addr) (F A : List Int) (r : Int) (T : List Int) (n : Nat) : Prop where
  ob : m a = some (.ins C [("curve", crv F A r), ("tallies", .ptr p), ("most", .ptr q)])
  tl : m p = some (.lst (T.map .int))
  ms : m q = some (.lst ((vals F A r n).map .int))
  pq : p ≠ q
  n1 : 1 ≤ n
  t1 : 0 < T.length
theorem MeterAt.ap {C : Addr} {m : Sto} {a p q : Addr} {F A : List Int} {r : Int} {T : List Int} {n : Nat} (h : MeterAt C m a p q F A r T n) : a ≠ p := ne_some h.ob h.tl (fun z => by cases z)
theorem MeterAt.aq {C : Addr} {m : Sto} {a p q : Addr} {F A : List Int} {r : Int} {T : List Int} {n : Nat} (h : MeterAt C m a p q F A r T n) : a ≠ q := ne_some h.ob h.ms (fun z => by cases z)
def sp_Meter_init (C : Addr) : DSp := fun ds m R _ => match ds with
  | [.ptr a, f] => m a = some (.ins C []) ∧ ∃ F A r, f = crv F A r ∧ val F A r 0 = 0 ∧ ∀ p q m', m p = none → m q = none → MeterAt C m' a p q F A r [0] 1 → (∀ b, b ≠ a → b ≠ p → b ≠ q → m' b = m b) → R .non m'
  | _ => False
def sp_Meter_leave (C : Addr) : DSp := fun ds m R _ => match ds with
  | [.ptr a] => ∃ p q F A r T n, MeterAt C m a p q F A r T n ∧ A ≠ [] ∧ A.length < 2 ^ 60 ∧ T.length ≤ 1000 ∧ n ≤ 2000 ∧ R (.int (leaveI F A r T)) (up m q (.lst ((vals F A r (max n (T.length + 1))).map .int)))
  | _ => False
def sp_Meter_told (C : Addr) : DSp := fun ds m R _ => match ds with
  | [.ptr a] => ∃ p q F A r T n, MeterAt C m a p q F A r T n ∧ T.length ≤ 1000 ∧ ∀ s, m s = none → R (.ptr s) (up m s (.lst ((steps T).map .int)))
  | _ => False
def sp_Meter_back (C : Addr) : DSp := fun ds m R _ => match ds with
  | [.ptr a] => ∃ p q F A r T n, MeterAt C m a p q F A r T n ∧ 2 ≤ T.length ∧ R (.int (T.getD (T.length - 1) 0 - T.getD (T.length - 2) 0)) (up m p (.lst (T.dropLast.map .int)))
  | _ => False
def sp_Meter_need_room (C : Addr) : DSp := fun ds m R _ => match ds with
  | [.ptr a, .int t] => ∃ p q F A r T n, MeterAt C m a p q F A r T n ∧ 0 ≤ t ∧ T.length + t ≤ 401 ∧ R .non m
  | _ => False
def sp_Meter_come (C : Addr) : DSp := fun ds m R _ => match ds with
  | [.ptr a, .int x] => ∃ p q F A r T n, MeterAt C m a p q F A r T n ∧ A ≠ [] ∧ A.length < 2 ^ 60 ∧ T.length + 1 ≤ 401 ∧ n ≤ 1000 ∧ 0 ≤ x ∧ x ≤ leaveI F A r T ∧
      R (.int (leaveI F A r (T ++ [T.getD (T.length - 1) 0 + x]))) (up (up m p (.lst ((T ++ [T.getD (T.length - 1) 0 + x]).map .int))) q (.lst ((vals F A r (max n (T.length + 2))).map .int)))
  | _ => False
def sp_Meter_rest (C : Addr) : DSp := fun ds m R _ => match ds with
  | [.ptr a, .int t] => ∃ p q F A r T n, MeterAt C m a p q F A r T n ∧ A ≠ [] ∧ A.length < 2 ^ 60 ∧ 0 ≤ t ∧ T.length + t ≤ 401 ∧ n ≤ 1000 ∧
      R (.int (leaveI F A r (T ++ List.replicate t.toNat (T.getD (T.length - 1) 0)))) (up (up m p (.lst ((T ++ List.replicate t.toNat (T.getD (T.length - 1) 0)).map .int))) q (.lst ((vals F A r (max n (T.length + t.toNat + 1))).map .int)))
  | _ => False
end Mt

namespace Mt
open PySem PySem.Spec PyProof.Rows L2 Dl Pg
def r_Meter_init (c_Meter : Addr) : DS :=
(dSeq (dSetF c_Meter (dVar 0) "curve" (dVar 1))
(dSeq (dSetF c_Meter (dVar 0) "tallies" (dLst true (dCons (dC (.int 0)) dNil)))
(dSetF c_Meter (dVar 0) "most" (dLst true (dCons (dC (.int 0)) dNil)))))
def r_Meter_need_room (c_Meter : Addr) : DS :=
(dSeq (dIf (dNot (dB (dCall sp_is_number (dCons (dVar 1) dNil))))
dNever
dNext)
(dIf (dB (dOp gtD (dOp (addD false) (dCB lenD (dCons (dFld c_Meter (dVar 0) "tallies") dNil)) (dVar 1)) (dOp (addD false) (dC (.int 400)) (dC (.int 1)))))
dNever
dNext))
def r_Meter_leave (c_Meter : Addr) : DS :=
(dSeq (dSet 1 (dCB lenD (dCons (dFld c_Meter (dVar 0) "tallies") dNil)))
(dSeq (dWhile (dB (dOp leD (dCB lenD (dCons (dFld c_Meter (dVar 0) "most") dNil)) (dVar 1)))
(dExpr (dLM appM (dFld c_Meter (dVar 0) "most") (dCons (dCall sp_value (dCons (dFld c_Meter (dVar 0) "curve") (dCons (dCB lenD (dCons (dFld c_Meter (dVar 0) "most") dNil)) dNil))) dNil))))
(dRet (dOp subD (dCB minD (dCons (dLc false [2] false (rngI1 (dVar 1)) dYes (dOp (addD false) (dOp ixD (dFld c_Meter (dVar 0) "most") (dOp subD (dVar 1) (dVar 2))) (dOp ixD (dFld c_Meter (dVar 0) "tallies") (dVar 2)))) dNil)) (dOp ixD (dFld c_Meter (dVar 0) "tallies") (dNeg (dC (.int 1))))))))
def r_Meter_come (c_Meter : Addr) : DS :=
(dSeq (dIf (dNot (dB (dCall sp_is_number (dCons (dVar 1) dNil))))
dNever
dNext)
(dSeq (dExpr (dMeth c_Meter "need_room" (sp_Meter_need_room c_Meter) (dVar 0) (dCons (dC (.int 1)) dNil)))
(dSeq (dIf (dB (dOp gtD (dVar 1) (dMeth c_Meter "leave" (sp_Meter_leave c_Meter) (dVar 0) dNil)))
dNever
dNext)
(dSeq (dExpr (dLM appM (dFld c_Meter (dVar 0) "tallies") (dCons (dOp (addD false) (dOp ixD (dFld c_Meter (dVar 0) "tallies") (dNeg (dC (.int 1)))) (dVar 1)) dNil)))
(dRet (dMeth c_Meter "leave" (sp_Meter_leave c_Meter) (dVar 0) dNil))))))
def r_Meter_rest (c_Meter : Addr) : DS :=
(dSeq (dExpr (dMeth c_Meter "need_room" (sp_Meter_need_room c_Meter) (dVar 0) (dCons (dVar 1) dNil)))
(dSeq (dExpr (dLM extM (dFld c_Meter (dVar 0) "tallies") (dCons (dOp (mulD false) (dLst false (dCons (dOp ixD (dFld c_Meter (dVar 0) "tallies") (dNeg (dC (.int 1)))) dNil)) (dVar 1)) dNil)))
(dRet (dMeth c_Meter "leave" (sp_Meter_leave c_Meter) (dVar 0) dNil))))
def r_Meter_back (c_Meter : Addr) : DS :=
(dSeq (dIf (dB (dOp eqD (dCB lenD (dCons (dFld c_Meter (dVar 0) "tallies") dNil)) (dC (.int 1))))
dNever
dNext)
(dSeq (dSet 1 (dLM popM (dFld c_Meter (dVar 0) "tallies") dNil))
(dRet (dOp subD (dVar 1) (dOp ixD (dFld c_Meter (dVar 0) "tallies") (dNeg (dC (.int 1))))))))
def r_Meter_told (c_Meter : Addr) : DS :=
(dRet (dLc true [1] false (rngI2 (dC (.int 1)) (dCB lenD (dCons (dFld c_Meter (dVar 0) "tallies") dNil))) dYes (dOp subD (dOp ixD (dFld c_Meter (dVar 0) "tallies") (dVar 1)) (dOp ixD (dFld c_Meter (dVar 0) "tallies") (dOp subD (dVar 1) (dC (.int 1)))))))
end Mt

namespace Mt
open PySem PySem.Spec PyProof.Rows L2 Dl Pg Pn
theorem up_id {m : Sto} {a : Addr} {o : MO} (h : m a = some o) : up m a o = m := by
  funext b
  by_cases e : b = a
  · rw [e, up_same, h]
  · exact up_ne e
theorem up_over {m : Sto} {p q : Addr} {a b c : MO} (h : q ≠ p) : up (up (up m q a) p b) q c = up (up m p b) q c := by
  rw [up_comm h, up_up]
theorem vals_len {F A : List Int} {r : Int} {n : Nat} : (vals F A r n).length = n := by unfold vals; rw [List.length_map, List.length_range]
theorem vals_succ {F A : List Int} {r : Int} {n : Nat} : vals F A r (n + 1) = vals F A r n ++ [val F A r (n : Nat)] := by
  unfold vals
  rw [List.range_succ, List.map_append]
  rfl
theorem vals_get {F A : List Int} {r : Int} {n i : Nat} (h : i < n) : (vals F A r n).getD i 0 = val F A r (i : Nat) := by
  unfold vals
  rw [List.getD_eq_getElem?_getD, List.getElem?_map, List.getElem?_range h]
  rfl
theorem atI_last {T : List Int} (h : 0 < T.length) : L2.atI (T.map D.int) (-1) = some (.int (T.getD (T.length - 1) 0)) := by
  refine atI_end ?_
  rw [List.getD_eq_getElem?_getD, List.getElem?_eq_getElem (by omega)]
  rfl
theorem MeterAt.most {C : Addr} {m : Sto} {a p q : Addr} {F A : List Int} {r : Int} {T : List Int} {n n' : Nat} (h : MeterAt C m a p q F A r T n) (h1 : 1 ≤ n') : MeterAt C (up m q (.lst ((vals F A r n').map .int))) a p q F A r T n' :=
  ⟨by rw [up_ne h.aq]; exact h.ob, by rw [up_ne h.pq]; exact h.tl, up_same, h.pq, h1, h.t1⟩
theorem MeterAt.tally {C : Addr} {m : Sto} {a p q : Addr} {F A : List Int} {r : Int} {T T' : List Int} {n : Nat} (h : MeterAt C m a p q F A r T n) (h1 : 0 < T'.length) : MeterAt C (up m p (.lst (T'.map .int))) a p q F A r T' n :=
  ⟨by rw [up_ne h.ap]; exact h.ob, up_same, by rw [up_ne h.pq.symm]; exact h.ms, h.pq, h.n1, h1⟩
theorem big1000 {n : Nat} (h : n ≤ 1000000) : n < sizeLine := Nat.lt_of_le_of_lt h (by decide)
theorem v_Meter_init {c_Meter : Addr} {ds : List D} {m : Sto} {R : D → Sto → Prop} {RX : DX} (h : sp_Meter_init c_Meter ds m R RX) : r_Meter_init c_Meter { nx := fun _ m' => R .non m', rt := R } ⟨ds.map some ++ List.replicate (2 - ds.length) none, fun _ => RX⟩ m := by
  unfold sp_Meter_init at h
  split at h
  · rename_i a f
    obtain ⟨ha, F, A, r, rfl, h0, hR⟩ := h
    refine ⟨_, ha, (by show 0 < 1000; decide), (by show 1 ≤ sizeLine; decide), fun p hp => ?_⟩
    have pa : p ≠ a := fun z => by rw [z, up_same] at hp; cases hp
    refine ⟨_, (up_ne pa.symm).trans up_same, (by show 1 < 1000; decide), (by show 1 ≤ sizeLine; decide), fun q hq => ?_⟩
    have qa : q ≠ a := fun z => by rw [z, up_same] at hq; cases hq
    rw [up_ne qa] at hq
    have qp : q ≠ p := fun z => by rw [z, up_same] at hq; cases hq
    rw [up_ne qp, up_ne qa] at hq
    rw [up_ne pa] at hp
    refine ⟨_, (up_ne qa.symm).trans up_same, (by show 2 < 1000; decide), hR p q _ hp hq ⟨up_same, ?_, ?_, qp.symm, Nat.le_refl _, by decide⟩ fun b b1 b2 b3 => ?_⟩
    · rw [up_ne pa, up_ne qp.symm, up_ne pa, up_same]
      rfl
    · rw [up_ne qa, up_same]
      unfold vals
      show _ = some (MO.lst [D.int (val F A r ((0 : Nat) : Int))])
      rw [show ((0 : Nat) : Int) = 0 from rfl, h0]
    · rw [up_ne b1, up_ne b3, up_ne b1, up_ne b2, up_ne b1]
  · exact h.elim
theorem v_Meter_need_room {c_Meter : Addr} {ds : List D} {m : Sto} {R : D → Sto → Prop} {RX : DX} (h : sp_Meter_need_room c_Meter ds m R RX) : r_Meter_need_room c_Meter { nx := fun _ m' => R .non m', rt := R } ⟨ds.map some ++ List.replicate (2 - ds.length) none, fun _ => RX⟩ m := by
  unfold sp_Meter_need_room at h
  split at h
  · rename_i a t
    obtain ⟨p, q, F, A, r, T, n, M, h0, h1, hR⟩ := h
    refine ⟨fun c => ?_, fun _ => ⟨_, _, M.ob, rfl, _, _, M.tl, rfl, fun c => ?_, fun _ => hR⟩⟩
    · rw [decide_eq_true h0] at c
      cases c
    · have c' := of_decide_eq_true c
      rw [List.length_map] at c'
      omega
  · exact h.elim
theorem v_Meter_leave {c_Meter : Addr} {ds : List D} {m : Sto} {R : D → Sto → Prop} {RX : DX} (h : sp_Meter_leave c_Meter ds m R RX) : r_Meter_leave c_Meter { nx := fun _ m' => R .non m', rt := R } ⟨ds.map some ++ List.replicate (3 - ds.length) none, fun _ => RX⟩ m := by
  unfold sp_Meter_leave at h
  split at h
  · rename_i a
    obtain ⟨p, q, F, A, r, T, n, M, hA, hz, hT, hn, hR⟩ := h
    have hT1 := M.t1
    refine ⟨_, _, M.ob, rfl, _, _, M.tl, rfl, ?_⟩
    rw [List.length_map]
    refine ⟨fun k δ m' => ∃ n', k = T.length + 1 - n' ∧ n ≤ n' ∧ n' ≤ max n (T.length + 1) ∧ δ = ⟨[some (.ptr a), some (.int T.length), none], fun _ => RX⟩ ∧ m' = up m q (.lst ((vals F A r n').map .int)), ⟨_, n, rfl, Nat.le_refl _, by omega, rfl, (up_id M.ms).symm⟩, ?_⟩
    rintro k δ m' ⟨n', rfl, h1, h2, rfl, rfl⟩
    have M' := M.most (n' := n') (by have := M.n1; omega)
    refine ⟨_, _, M'.ob, rfl, _, _, M'.ms, rfl, fun c => ?_, fun c => ?_⟩
    · have c' := of_decide_eq_true c
      rw [List.length_map, vals_len] at c'
      refine ⟨_, _, M'.ob, rfl, ⟨_, _, M'.ms, rfl⟩, _, _, M'.ob, rfl, _, _, M'.ob, rfl, _, _, M'.ms, rfl, ?_⟩
      rw [List.length_map, vals_len]
      refine ⟨F, A, r, rfl, hA, hz, by omega, by omega, _, M'.ms, ?_, _, ?_, n' + 1, rfl, by omega, by omega, rfl, ?_⟩
      · rw [List.length_map, vals_len]
        exact big1000 (by omega)
      · omega
      · rw [up_up, vals_succ, List.map_append]
        rfl
    · have c' := of_decide_eq_false c
      rw [List.length_map, vals_len] at c'
      have en : n' = max n (T.length + 1) := by omega
      rw [← en] at hR
      refine ⟨by omega, by omega, lc_pure false (((List.range T.length).map fun s => val F A r ((T.length : Int) - (s : Nat)) + T.getD s 0).map D.int) (fun _ _ => trivial) ?_ ?_ (fun k x y m2 hx hy le => ?_) ?_⟩
      · rw [rgL_len, List.length_map, List.length_map, List.length_range]
        omega
      · rw [rgL_len]
        exact Nat.le_of_lt (big1000 (by omega))
      · obtain ⟨hk, rfl⟩ := rgL_inv hx
        have hk' : k < T.length := by omega
        rw [List.getElem?_map, List.getElem?_map, List.getElem?_range hk'] at hy
        cases hy
        refine ⟨_, rfl, fun R hR => ⟨_, _, le _ _ M'.ob, rfl, _, _, ⟨_, le _ _ M'.ms, rfl⟩, atI_int ?_ ?_, _, _, le _ _ M'.ob, rfl, _, _, ⟨_, le _ _ M'.tl, rfl⟩, atI_int ?_ ?_, ?_⟩⟩
        · omega
        · rw [vals_len]
          omega
        · omega
        · omega
        · have e1 : ((T.length : Int) - (0 + (k : Nat))).toNat = T.length - k := by omega
          have e2 : ((0 : Int) + (k : Nat)).toNat = k := by omega
          rw [e1, e2, vals_get (by omega), show (((T.length - k : Nat)) : Int) = (T.length : Int) - (k : Nat) by omega]
          exact hR
      · refine ⟨_, rfl, ?_, _, _, M'.ob, rfl, _, _, ⟨_, M'.tl, rfl⟩, atI_last hT1, hR⟩
        rw [List.length_map, List.length_range]
        exact hT1
  · exact h.elim
theorem v_Meter_told {c_Meter : Addr} {ds : List D} {m : Sto} {R : D → Sto → Prop} {RX : DX} (h : sp_Meter_told c_Meter ds m R RX) : r_Meter_told c_Meter { nx := fun _ m' => R .non m', rt := R } ⟨ds.map some ++ List.replicate (2 - ds.length) none, fun _ => RX⟩ m := by
  unfold sp_Meter_told at h
  split at h
  · rename_i a
    obtain ⟨p, q, F, A, r, T, n, M, hT, hR⟩ := h
    have hT1 := M.t1
    refine ⟨_, _, M.ob, rfl, _, _, M.tl, rfl, ?_⟩
    rw [List.length_map]
    refine ⟨⟨by decide, by decide, by omega, by omega⟩, lc_pure true ((steps T).map D.int) (fun _ _ => trivial) ?_ ?_ (fun k x y m2 hx hy le => ?_) fun s hs => hR s hs⟩
    · rw [rgL_len, List.length_map]
      unfold steps
      rw [List.length_map, List.length_range]
      omega
    · rw [rgL_len]
      exact Nat.le_of_lt (big1000 (by omega))
    · obtain ⟨hk, rfl⟩ := rgL_inv hx
      have hk' : k < T.length - 1 := by omega
      unfold steps at hy
      rw [List.getElem?_map, List.getElem?_map, List.getElem?_range hk'] at hy
      cases hy
      refine ⟨_, rfl, fun R hR => ⟨_, _, le _ _ M.ob, rfl, _, _, ⟨_, le _ _ M.tl, rfl⟩, atI_int ?_ ?_, _, _, le _ _ M.ob, rfl, _, _, ⟨_, le _ _ M.tl, rfl⟩, atI_int ?_ ?_, ?_⟩⟩
      · omega
      · omega
      · omega
      · omega
      · have e1 : ((1 : Int) + (k : Nat)).toNat = k + 1 := by omega
        have e2 : ((1 : Int) + (k : Nat) - 1).toNat = k := by omega
        rw [e1, e2]
        exact hR
  · exact h.elim
theorem v_Meter_back {c_Meter : Addr} {ds : List D} {m : Sto} {R : D → Sto → Prop} {RX : DX} (h : sp_Meter_back c_Meter ds m R RX) : r_Meter_back c_Meter { nx := fun _ m' => R .non m', rt := R } ⟨ds.map some ++ List.replicate (2 - ds.length) none, fun _ => RX⟩ m := by
  unfold sp_Meter_back at h
  split at h
  · rename_i a
    obtain ⟨p, q, F, A, r, T, n, M, hT, hR⟩ := h
    have l1 : T.dropLast.length = T.length - 1 := List.length_dropLast
    have M' := M.tally (T' := T.dropLast) (by omega)
    rw [List.map_dropLast] at M'
    have e : T.dropLast.getD (T.dropLast.length - 1) 0 = T.getD (T.length - 2) 0 := by
      rw [l1, List.getD_eq_getElem?_getD, List.getD_eq_getElem?_getD, List.getElem?_dropLast, if_pos (by omega)]
      congr 2
    rw [List.map_dropLast] at hR
    have tl' := M'.tl
    rw [List.map_dropLast] at tl'
    have hat : L2.atI (T.map D.int).dropLast (-1) = some (.int (T.getD (T.length - 2) 0)) := by
      rw [← List.map_dropLast, ← e]
      exact atI_last (by omega)
    refine ⟨_, _, M.ob, rfl, _, _, M.tl, rfl, fun c => ?_, fun c => ⟨_, _, M.ob, rfl, ⟨_, _, M.tl, rfl⟩, _, .int (T.getD (T.length - 1) 0), M.tl, ?_, _, _, M'.ob, rfl, _, _, ⟨_, tl', rfl⟩, hat, hR⟩⟩
    · have c' := of_decide_eq_true c
      rw [List.length_map] at c'
      omega
    · rw [List.length_map, List.getElem?_map, List.getElem?_eq_getElem (by omega), List.getD_eq_getElem?_getD, List.getElem?_eq_getElem (by omega)]
      rfl
  · exact h.elim
theorem v_Meter_come {c_Meter : Addr} {ds : List D} {m : Sto} {R : D → Sto → Prop} {RX : DX} (h : sp_Meter_come c_Meter ds m R RX) : r_Meter_come c_Meter { nx := fun _ m' => R .non m', rt := R } ⟨ds.map some ++ List.replicate (2 - ds.length) none, fun _ => RX⟩ m := by
  unfold sp_Meter_come at h
  split at h
  · rename_i a x
    obtain ⟨p, q, F, A, r, T, n, M, hA, hz, hT, hn, h0, hx, hR⟩ := h
    have hT1 := M.t1
    have M1 := M.most (n' := max n (T.length + 1)) (by have := M.n1; omega)
    have M2 := M1.tally (T' := T ++ [T.getD (T.length - 1) 0 + x]) (by rw [List.length_append]; omega)
    have l2 : (T ++ [T.getD (T.length - 1) 0 + x]).length = T.length + 1 := by rw [List.length_append]; rfl
    refine ⟨fun c => ?_, fun _ => ⟨_, M.ob, rfl, p, q, F, A, r, T, n, M, by decide, by omega, _, M.ob, rfl, p, q, F, A, r, T, n, M, hA, hz, by omega, by omega, fun c => ?_, fun _ => ?_⟩⟩
    · rw [decide_eq_true h0] at c
      cases c
    · have c' := of_decide_eq_true c
      omega
    · refine ⟨_, _, M1.ob, rfl, ⟨_, _, M1.tl, rfl⟩, _, _, M1.ob, rfl, _, _, ⟨_, M1.tl, rfl⟩, atI_last hT1, _, M1.tl, ?_, ?_⟩
      · rw [List.length_map]
        exact big1000 (by omega)
      · have e : T.map D.int ++ [D.int (T.getD (T.length - 1) 0 + x)] = (T ++ [T.getD (T.length - 1) 0 + x]).map D.int := by rw [List.map_append]; rfl
        rw [e]
        refine ⟨_, M2.ob, rfl, p, q, F, A, r, _, _, M2, hA, hz, by omega, by omega, ?_⟩
        rw [l2, up_over M.pq.symm, show max (max n (T.length + 1)) (T.length + 1 + 1) = max n (T.length + 2) by omega]
        exact hR
  · exact h.elim
theorem rep_one {t : Int} {x : D} : (List.replicate t.toNat [x]).flatten = List.replicate t.toNat x := by
  generalize t.toNat = k
  induction k with
  | zero => rfl
  | succ k ih => rw [List.replicate_succ, List.flatten_cons, ih, List.replicate_succ]; rfl
theorem v_Meter_rest {c_Meter : Addr} {ds : List D} {m : Sto} {R : D → Sto → Prop} {RX : DX} (h : sp_Meter_rest c_Meter ds m R RX) : r_Meter_rest c_Meter { nx := fun _ m' => R .non m', rt := R } ⟨ds.map some ++ List.replicate (2 - ds.length) none, fun _ => RX⟩ m := by
  unfold sp_Meter_rest at h
  split at h
  · rename_i a t
    obtain ⟨p, q, F, A, r, T, n, M, hA, hz, h0, hT, hn, hR⟩ := h
    have hT1 := M.t1
    have l2 : (T ++ List.replicate t.toNat (T.getD (T.length - 1) 0)).length = T.length + t.toNat := by rw [List.length_append, List.length_replicate]
    have M2 := M.tally (T' := T ++ List.replicate t.toNat (T.getD (T.length - 1) 0)) (by omega)
    have hs : (1 : Nat) * t.toNat ≤ sizeLine := Nat.le_of_lt (big1000 (by omega))
    refine ⟨_, M.ob, rfl, p, q, F, A, r, T, n, M, h0, hT, _, _, M.ob, rfl, ⟨_, _, M.tl, rfl⟩, _, _, M.ob, rfl, _, _, ⟨_, M.tl, rfl⟩, atI_last hT1, (by show 1 ≤ sizeLine; decide), _, rfl, by omega, by omega, hs, _, _, M.tl, rfl, ?_, ?_⟩
    · rw [List.length_map, rep_one, List.length_replicate]
      exact Nat.le_of_lt (big1000 (by omega))
    · have e : T.map D.int ++ (List.replicate t.toNat [D.int (T.getD (T.length - 1) 0)]).flatten = (T ++ List.replicate t.toNat (T.getD (T.length - 1) 0)).map D.int := by rw [rep_one, List.map_append, List.map_replicate]
      rw [e]
      refine ⟨_, M2.ob, rfl, p, q, F, A, r, _, _, M2, hA, hz, by omega, by omega, ?_⟩
      rw [l2]
      exact hR
  · exact h.elim
end Mt

/-! Plain facts: drawn curves rise; tallies that keep a curve. -/
namespace Pn
open PySem PySem.Spec PyProof.Rows L2 Dl Pg
theorem gd {l : List Int} {i : Nat} (h : i < l.length) : l[i]? = some (l.getD i 0) := by
  rw [List.getD_eq_getElem?_getD, List.getElem?_eq_getElem h]
  rfl
theorem val_lo {F A : List Int} {r : Int} {t : Nat} (h : t < F.length) : val F A r (t : Nat) = F.getD t 0 := by
  unfold val
  rw [if_pos (by omega)]
  rfl
theorem val_hi {F A : List Int} {r : Int} {t : Nat} (h : F.length ≤ t) : val F A r (t : Nat) = A.getD ((t - F.length) % A.length) 0 + r * (((t - F.length) / A.length : Nat)) := by
  unfold val
  rw [if_neg (by omega)]
  have e : (t : Int) - F.length = ((t - F.length : Nat) : Int) := by omega
  rw [e]
  rfl
theorem Drawn.geL {F A : List Int} {r : Int} (h : Drawn F A r) {t : Nat} (ht : t < F.length) : (F ++ A)[t]? = some (F.getD t 0) := by rw [List.getElem?_append_left ht, gd ht]
theorem Drawn.geR {F A : List Int} {r : Int} (h : Drawn F A r) {t : Nat} (ht : t < A.length) : (F ++ A)[F.length + t]? = some (A.getD t 0) := by rw [List.getElem?_append_right (by omega), Nat.add_sub_cancel_left, gd ht]
theorem Drawn.val_step {F A : List Int} {r : Int} (h : Drawn F A r) (t : Nat) : val F A r (t : Nat) ≤ val F A r ((t + 1 : Nat)) := by
  have hA : 0 < A.length := List.length_pos_iff.mpr h.a0
  by_cases c1 : t + 1 < F.length
  · rw [val_lo c1, val_lo (by omega)]
    exact h.mono t _ _ (h.geL (by omega)) (h.geL c1)
  · by_cases c2 : t < F.length
    · have e : t + 1 = F.length := by omega
      rw [val_lo c2, val_hi (by omega), e, Nat.sub_self, Nat.zero_mod, Nat.zero_div]
      have := h.mono t _ _ (h.geL c2) (by rw [e]; exact h.geR (t := 0) hA)
      simpa using this
    · rw [val_hi (by omega), val_hi (by omega)]
      have e : t + 1 - F.length = (t - F.length) + 1 := by omega
      rw [e]
      generalize t - F.length = d
      have hd := Nat.div_add_mod d A.length
      have hm := Nat.mod_lt d hA
      by_cases c3 : d % A.length + 1 < A.length
      · have e1 : (d + 1) % A.length = d % A.length + 1 := by
          rw [Nat.add_mod_eq_ite, Nat.mod_eq_of_lt (a := 1) (by omega), if_neg (by omega)]
        have e2 : (d + 1) / A.length = d / A.length := by
          rw [Nat.add_div hA, Nat.div_eq_of_lt (a := 1) (by omega), Nat.mod_eq_of_lt (a := 1) (by omega), if_neg (by omega)]
          rfl
        rw [e1, e2]
        have := h.mono (F.length + d % A.length) _ _ (h.geR hm) (h.geR c3)
        omega
      · have e0 : d % A.length = A.length - 1 := by omega
        have e3 : d + 1 = A.length * (d / A.length + 1) := by rw [Nat.mul_add]; omega
        have e1 : (d + 1) % A.length = 0 := by rw [e3]; exact Nat.mul_mod_right _ _
        have e2 : (d + 1) / A.length = d / A.length + 1 := by rw [e3]; exact Nat.mul_div_cancel_left _ hA
        rw [e1, e2, e0]
        have := h.r1 _ (gd hA) _ (gd (i := A.length - 1) (by omega))
        rw [show (((d / A.length + 1 : Nat)) : Int) = ((d / A.length : Nat) : Int) + 1 by omega, Int.mul_add, Int.mul_one]
        omega
theorem Drawn.val_mono {F A : List Int} {r : Int} (h : Drawn F A r) : ∀ (k t : Nat), val F A r (t : Nat) ≤ val F A r ((t + k : Nat))
  | 0, t => Int.le_refl _
  | k + 1, t => Int.le_trans (Drawn.val_mono h k t) (h.val_step (t + k))
theorem Drawn.val0 {F A : List Int} {r : Int} (h : Drawn F A r) : val F A r 0 = 0 := by
  have hA : 0 < A.length := List.length_pos_iff.mpr h.a0
  have z := h.zero
  show val F A r ((0 : Nat) : Int) = 0
  by_cases c : 0 < F.length
  · rw [val_lo c]
    rw [h.geL c] at z
    exact Option.some.inj z
  · rw [val_hi (by omega), Nat.zero_sub, Nat.zero_mod, Nat.zero_div]
    have e : F.length = 0 := by omega
    have := h.geR (t := 0) hA
    rw [e, Nat.zero_add, z] at this
    have := Option.some.inj this
    rw [← this]
    show (0 : Int) + r * ((0 : Nat) : Int) = 0
    rw [show ((0 : Nat) : Int) = 0 from rfl, Int.mul_zero]
    rfl
theorem Drawn.el {F A : List Int} {r : Int} (h : Drawn F A r) {i : Nat} (hi : i < A.length) : A.getD i 0 ≤ 1000000 := h.sm _ (List.mem_append_right _ (List.mem_of_getElem? (gd hi)))
theorem Drawn.val1 {F A : List Int} {r : Int} (h : Drawn F A r) : val F A r ((1 : Nat)) ≤ 2000000 := by
  have hA : 0 < A.length := List.length_pos_iff.mpr h.a0
  by_cases c : 1 < F.length
  · rw [val_lo c]
    have := h.sm _ (List.mem_append_left _ (List.mem_of_getElem? (gd c)))
    omega
  · rw [val_hi (by omega)]
    have a := h.el (Nat.mod_lt (1 - F.length) hA)
    have b : (1 - F.length) / A.length ≤ 1 := Nat.le_trans (Nat.div_le_self _ _) (by omega)
    have r0 := h.r0
    have r2 := h.r2
    rcases Nat.le_one_iff_eq_zero_or_eq_one.mp b with e | e <;> rw [e]
    · rw [show ((0 : Nat) : Int) = 0 from rfl, Int.mul_zero]
      omega
    · rw [show ((1 : Nat) : Int) = 1 from rfl, Int.mul_one]
      omega
end Pn
namespace Mt
open PySem PySem.Spec PyProof.Rows L2 Dl Pg Pn
/-- tallies that keep a curve -/
structure Keeps (F A : List Int) (r : Int) (T : List Int) : Prop where
  len : 0 < T.length
  zero : T.getD 0 0 = 0
  up : ∀ i, i + 1 < T.length → T.getD i 0 ≤ T.getD (i + 1) 0
  kp : ∀ i j, i ≤ j → j < T.length → T.getD j 0 - T.getD i 0 ≤ val F A r ((j - i : Nat))
theorem keeps_zero {F A : List Int} {r : Int} (h : Drawn F A r) : Keeps F A r [0] := by
  refine ⟨by decide, rfl, fun i hi => absurd hi (by simp), fun i j hij hj => ?_⟩
  have e : j = 0 := by simpa using hj
  subst e
  have e : i = 0 := by omega
  subst e
  have := h.val0
  show (0 : Int) - 0 ≤ val F A r ((0 : Nat) : Int)
  rw [show ((0 : Nat) : Int) = 0 from rfl, this]
  decide
theorem leave_of {F A : List Int} {r : Int} {T : List Int} (h : 0 < T.length) : ∃ s, s < T.length ∧ leaveI F A r T = val F A r ((T.length - s : Nat)) + T.getD s 0 - T.getD (T.length - 1) 0 := by
  have hm := lmin_mem (l := (List.range T.length).map fun s => val F A r ((T.length : Int) - (s : Nat)) + T.getD s 0) (by rw [List.length_map, List.length_range]; exact h)
  obtain ⟨s, hs, e⟩ := List.mem_map.mp hm
  have hs' := List.mem_range.mp hs
  refine ⟨s, hs', ?_⟩
  unfold leaveI
  rw [← e, show ((T.length - s : Nat) : Int) = (T.length : Int) - (s : Nat) by omega]
theorem leave_le {F A : List Int} {r : Int} {T : List Int} {s : Nat} (h : s < T.length) : leaveI F A r T ≤ val F A r ((T.length - s : Nat)) + T.getD s 0 - T.getD (T.length - 1) 0 := by
  have hm := lmin_le (l := (List.range T.length).map fun s => val F A r ((T.length : Int) - (s : Nat)) + T.getD s 0) (List.mem_map.mpr ⟨s, List.mem_range.mpr h, rfl⟩)
  unfold leaveI
  rw [show ((T.length - s : Nat) : Int) = (T.length : Int) - (s : Nat) by omega]
  omega
theorem Keeps.leave_nn {F A : List Int} {r : Int} {T : List Int} (h : Keeps F A r T) (d : Drawn F A r) : 0 ≤ leaveI F A r T := by
  obtain ⟨s, hs, e⟩ := leave_of (F := F) (A := A) (r := r) h.len
  have h1 := h.kp s (T.length - 1) (by omega) (by have := h.len; omega)
  have h2 := d.val_mono 1 (T.length - 1 - s)
  rw [show T.length - 1 - s + 1 = T.length - s by omega] at h2
  rw [e]
  omega
theorem Keeps.leave_sm {F A : List Int} {r : Int} {T : List Int} (h : Keeps F A r T) (d : Drawn F A r) : leaveI F A r T ≤ 2000000 := by
  have hl := h.len
  have h1 := leave_le (F := F) (A := A) (r := r) (T := T) (s := T.length - 1) (by omega)
  rw [show T.length - (T.length - 1) = 1 by omega] at h1
  have := d.val1
  omega
theorem getD_app1 {T : List Int} {x : Int} {i : Nat} (h : i < T.length) : (T ++ [x]).getD i 0 = T.getD i 0 := by
  rw [List.getD_eq_getElem?_getD, List.getElem?_append_left h, List.getD_eq_getElem?_getD]
theorem getD_app2 {T : List Int} {x : Int} : (T ++ [x]).getD T.length 0 = x := by
  rw [List.getD_eq_getElem?_getD, List.getElem?_append_right (Nat.le_refl _), Nat.sub_self]
  rfl
theorem Keeps.app {F A : List Int} {r : Int} {T : List Int} {x : Int} (h : Keeps F A r T) (d : Drawn F A r) (h0 : 0 ≤ x) (h1 : x ≤ leaveI F A r T) : Keeps F A r (T ++ [T.getD (T.length - 1) 0 + x]) := by
  have hl := h.len
  have l2 : (T ++ [T.getD (T.length - 1) 0 + x]).length = T.length + 1 := by rw [List.length_append]; rfl
  refine ⟨by omega, by rw [getD_app1 hl]; exact h.zero, fun i hi => ?_, fun i j hij hj => ?_⟩
  · rw [l2] at hi
    by_cases c : i + 1 < T.length
    · rw [getD_app1 c, getD_app1 (by omega)]
      exact h.up i c
    · have e : i + 1 = T.length := by omega
      rw [e, getD_app2, getD_app1 (by omega), show i = T.length - 1 by omega]
      omega
  · rw [l2] at hj
    by_cases c : j < T.length
    · rw [getD_app1 c, getD_app1 (by omega)]
      exact h.kp i j hij c
    · have e : j = T.length := by omega
      subst e
      rw [getD_app2]
      by_cases c2 : i < T.length
      · rw [getD_app1 c2]
        have := leave_le (F := F) (A := A) (r := r) c2
        omega
      · have e : i = T.length := by omega
        subst e
        rw [getD_app2, Nat.sub_self]
        have := d.val0
        rw [show ((0 : Nat) : Int) = 0 from rfl, this]
        omega
theorem Keeps.rest {F A : List Int} {r : Int} (d : Drawn F A r) : ∀ (k : Nat) {T : List Int}, Keeps F A r T → Keeps F A r (T ++ List.replicate k (T.getD (T.length - 1) 0))
  | 0, T, h => by rw [List.replicate_zero, List.append_nil]; exact h
  | k + 1, T, h => by
    have h1 := h.app d (x := 0) (Int.le_refl _) (h.leave_nn d)
    rw [Int.add_zero] at h1
    have h2 := Keeps.rest d k h1
    rw [List.length_append, show T.length + [T.getD (T.length - 1) 0].length - 1 = T.length from rfl, getD_app2, List.append_assoc] at h2
    exact h2
theorem getD_drop {T : List Int} {i : Nat} (h : i < T.length - 1) : T.dropLast.getD i 0 = T.getD i 0 := by
  rw [List.getD_eq_getElem?_getD, List.getElem?_dropLast, if_pos h, List.getD_eq_getElem?_getD]
theorem Keeps.back {F A : List Int} {r : Int} {T : List Int} (h : Keeps F A r T) (h2 : 2 ≤ T.length) : Keeps F A r T.dropLast := by
  have l1 : T.dropLast.length = T.length - 1 := List.length_dropLast
  refine ⟨by omega, by rw [getD_drop (by omega)]; exact h.zero, fun i hi => ?_, fun i j hij hj => ?_⟩
  · rw [getD_drop (by omega), getD_drop (by omega)]
    exact h.up i (by omega)
  · rw [getD_drop (by omega), getD_drop (by omega)]
    exact h.kp i j hij (by omega)
theorem Keeps.steps_sm {F A : List Int} {r : Int} {T : List Int} (h : Keeps F A r T) (d : Drawn F A r) : ∀ x ∈ steps T, 0 ≤ x ∧ x ≤ 2000000 := by
  intro x hx
  unfold steps at hx
  obtain ⟨i, hi, rfl⟩ := List.mem_map.mp hx
  have hi' := List.mem_range.mp hi
  have h1 := h.up i (by omega)
  have h2 := h.kp i (i + 1) (by omega) (by omega)
  rw [show i + 1 - i = 1 by omega] at h2
  have := d.val1
  omega
end Mt

namespace Nt
open PySem PySem.Spec PyProof.Rows L2 Dl Pg TL
open Pn (rgL_inv gd)
/-! ### a stream's curve: plain -/
def Wn (S : List Int) (even : Int) (R : Nat) : List Int := S ++ List.replicate (R + 1) even
def Bn (S : List Int) (even : Int) (R t : Nat) : Int := ((Wn S even R).take t).sum
def cn (ahead : Int) (R t : Nat) : Int := ((t : Int) + ahead + (R : Int) - 1) / (R : Int)
def Nn (S : List Int) (even high ahead : Int) (R t : Nat) : Int := Bn S even R t + high * cn ahead R t * (if 0 < t then 1 else 0)
section
variable {S : List Int} {even high ahead : Int} {R : Nat}
theorem Wn_len : (Wn S even R).length = S.length + (R + 1) := by unfold Wn; rw [List.length_append, List.length_replicate]
theorem Bn_succ {t : Nat} (h : t < S.length + (R + 1)) : Bn S even R (t + 1) = Bn S even R t + (Wn S even R).getD t 0 := by
  have hl : t < (Wn S even R).length := by rw [Wn_len]; exact h
  unfold Bn
  rw [List.take_add_one, gd hl]
  simp
theorem Wn_bd (hS : ∀ s ∈ S, 0 ≤ s ∧ s ≤ 6) (he : 0 ≤ even ∧ even ≤ 6) : ∀ w ∈ Wn S even R, 0 ≤ w ∧ w ≤ 6 := by
  intro w hw
  unfold Wn at hw
  rcases List.mem_append.mp hw with h | h
  · exact hS w h
  · rw [(List.mem_replicate.mp h).2]
    exact he
theorem Wn_get {t : Nat} (hS : ∀ s ∈ S, 0 ≤ s ∧ s ≤ 6) (he : 0 ≤ even ∧ even ≤ 6) (h : t < S.length + (R + 1)) : 0 ≤ (Wn S even R).getD t 0 ∧ (Wn S even R).getD t 0 ≤ 6 :=
  Wn_bd hS he _ (List.mem_of_getElem? (gd (by rw [Wn_len]; exact h)))
theorem Bn_bd (hS : ∀ s ∈ S, 0 ≤ s ∧ s ≤ 6) (he : 0 ≤ even ∧ even ≤ 6) : ∀ t, t ≤ S.length + (R + 1) → 0 ≤ Bn S even R t ∧ Bn S even R t ≤ 6 * (t : Int)
  | 0, _ => by unfold Bn; simp
  | t + 1, h => by
    have ih := Bn_bd hS he t (by omega)
    have hw := Wn_get (R := R) hS he (show t < _ by omega)
    rw [Bn_succ (by omega)]
    omega
theorem Bn_tail {t : Nat} (ht : S.length ≤ t) : ∀ j, t + j ≤ S.length + (R + 1) → Bn S even R (t + j) = Bn S even R t + even * (j : Int)
  | 0, _ => by simp
  | j + 1, h => by
    have ih := Bn_tail ht j (by omega)
    have e : (Wn S even R).getD (t + j) 0 = even := by
      unfold Wn
      rw [List.getD_eq_getElem?_getD, List.getElem?_append_right (by omega), List.getElem?_replicate, if_pos (by omega)]
      rfl
    rw [← Nat.add_assoc, Bn_succ (by omega), ih, e, show ((j + 1 : Nat) : Int) = (j : Int) + 1 by omega, Int.mul_add, Int.mul_one, Int.add_assoc]
theorem cn_nn (hR : 0 < R) (ha : 0 ≤ ahead) (t : Nat) : 0 ≤ cn ahead R t := Int.ediv_nonneg (by omega) (by omega)
theorem cn_mono (hR : 0 < R) (t : Nat) : cn ahead R t ≤ cn ahead R (t + 1) := Int.ediv_le_ediv (by omega) (by omega)
theorem cn_le (hR : 0 < R) (ha : 0 ≤ ahead) (t : Nat) : cn ahead R t ≤ (t : Int) + ahead + (R : Int) := by
  unfold cn
  exact Int.le_trans (Int.ediv_le_self _ (by omega)) (by omega)
theorem cn_round (hR : 0 < R) (t : Nat) : cn ahead R (t + (R - 1)) ≤ cn ahead R t + 1 := by
  unfold cn
  have e : ((t : Int) + ahead + (R : Int) - 1) / (R : Int) + 1 = ((t : Int) + ahead + (R : Int) - 1 + (R : Int)) / (R : Int) := by
    rw [Int.add_ediv_of_dvd_right (Int.dvd_refl _), Int.ediv_self (by omega)]
  rw [e]
  exact Int.ediv_le_ediv (by omega) (by omega)
theorem Nn_step (hS : ∀ s ∈ S, 0 ≤ s ∧ s ≤ 6) (he : 0 ≤ even ∧ even ≤ 6) (hh : 0 ≤ high) (ha : 0 ≤ ahead) (hR : 0 < R) {t : Nat} (h : t < S.length + (R + 1)) : Nn S even high ahead R t ≤ Nn S even high ahead R (t + 1) := by
  unfold Nn
  have h1 := Wn_get (R := R) hS he h
  have h2 := cn_mono (ahead := ahead) hR t
  have h3 := Int.mul_le_mul_of_nonneg_left h2 hh
  have h4 := Int.mul_nonneg hh (cn_nn hR ha (t + 1))
  rw [Bn_succ h, if_pos (Nat.succ_pos t), Int.mul_one]
  split
  · omega
  · omega
theorem Nn_bd (hS : ∀ s ∈ S, 0 ≤ s ∧ s ≤ 6) (he : 0 ≤ even ∧ even ≤ 6) (hh : 0 ≤ high ∧ high ≤ 3) (ha : 0 ≤ ahead ∧ ahead ≤ 12) (hR : 0 < R ∧ R ≤ 12) {t : Nat} (h : t ≤ S.length + (R + 1)) (ht : t ≤ 40) : 0 ≤ Nn S even high ahead R t ∧ Nn S even high ahead R t ≤ 1000 := by
  unfold Nn
  have h1 := Bn_bd (R := R) hS he t h
  have h2 := cn_nn hR.1 ha.1 t
  have h3 := cn_le hR.1 ha.1 t
  have h4 := Int.mul_nonneg hh.1 h2
  have h5 : high * cn ahead R t ≤ 3 * 64 := Int.mul_le_mul hh.2 (by omega) h2 (by decide)
  split <;> omega
theorem Nn_zero : Nn S even high ahead R 0 = 0 := by
  unfold Nn Bn
  simp
theorem Nn_round (hh : 0 ≤ high) (he : 0 ≤ even) (hR : 0 < R) (ha : 0 ≤ ahead) {t : Nat} (h0 : 0 < t) (h : S.length ≤ t) (h2 : t + (R - 1) ≤ S.length + (R + 1)) : Nn S even high ahead R (t + (R - 1)) ≤ Nn S even high ahead R t + (even * (R : Int) + high) := by
  unfold Nn
  rw [Bn_tail h _ h2, if_pos h0, if_pos (by omega), Int.mul_one, Int.mul_one]
  have h3 := Int.mul_le_mul_of_nonneg_left (cn_round (ahead := ahead) hR t) hh
  rw [Int.mul_add, Int.mul_one] at h3
  have h4 : even * ((R - 1 : Nat) : Int) ≤ even * (R : Int) := Int.mul_le_mul_of_nonneg_left (by omega) he
  omega
/-- the rows of numbers -/
def Nl (S : List Int) (even high ahead : Int) (R n : Nat) : List Int := (List.range n).map (Nn S even high ahead R)
theorem Nl_len {n : Nat} : (Nl S even high ahead R n).length = n := by unfold Nl; rw [List.length_map, List.length_range]
theorem Nl_get {n i : Nat} (h : i < n) : (Nl S even high ahead R n)[i]? = some (Nn S even high ahead R i) := by
  unfold Nl
  rw [List.getElem?_map, List.getElem?_range h]
  rfl
theorem Nl_drawn (hS : ∀ s ∈ S, 0 ≤ s ∧ s ≤ 6) (hl : S.length ≤ 3) (he : 0 ≤ even ∧ even ≤ 2) (hh : 0 ≤ high ∧ high ≤ 3) (ha : 0 ≤ ahead ∧ ahead ≤ 12) (hR : 0 < R ∧ R ≤ 12) :
    Pn.Drawn ((Nl S even high ahead R (S.length + 1 + R)).take (S.length + 1)) ((Nl S even high ahead R (S.length + 1 + R)).drop (S.length + 1)) (even * (R : Int) + high) := by
  have ln := Nl_len (S := S) (even := even) (high := high) (ahead := ahead) (R := R) (n := S.length + 1 + R)
  have ap := List.take_append_drop (S.length + 1) (Nl S even high ahead R (S.length + 1 + R))
  have he6 : 0 ≤ even ∧ even ≤ 6 := by omega
  have mem : ∀ x ∈ Nl S even high ahead R (S.length + 1 + R), 0 ≤ x ∧ x ≤ 1000 := fun x hx => by
    obtain ⟨i, hi, e⟩ := List.mem_map.mp hx
    have := List.mem_range.mp hi
    rw [← e]
    exact Nn_bd hS he6 hh ha hR (by omega) (by omega)
  have er0 : 0 ≤ even * (R : Int) := Int.mul_nonneg he.1 (by omega)
  have er1 : even * (R : Int) ≤ 2 * 12 := Int.mul_le_mul he.2 (by omega) (by omega) (by decide)
  refine ⟨fun z => ?_, ?_, ?_, by omega, ?_, ?_, ?_, ?_, ?_, by omega⟩
  · have := congrArg List.length z
    rw [List.length_drop, ln] at this
    simp at this
    omega
  · rw [List.length_drop, ln]
    omega
  · rw [List.length_take, ln]
    omega
  · rw [ap]
    exact fun x hx => (mem x hx).1
  · rw [ap]
    exact fun x hx => by have := (mem x hx).2; omega
  · rw [ap, Nl_get (by omega), Nn_zero]
  · rw [ap]
    intro i x y hx hy
    have hi := (List.getElem?_eq_some_iff.mp hy).1
    rw [ln] at hi
    rw [Nl_get (by omega)] at hx hy
    cases hx
    cases hy
    exact Nn_step hS he6 hh.1 ha.1 hR.1 (by omega)
  · intro x hx y hy
    rw [List.getElem?_drop, Nl_get (by omega)] at hx
    rw [List.length_drop, ln, List.getElem?_drop, Nl_get (by omega)] at hy
    cases hx
    cases hy
    have := Nn_round (S := S) (even := even) (high := high) (ahead := ahead) (R := R) (t := S.length + 1) hh.1 he.1 hR.1 ha.1 (by omega) (by omega) (by omega)
    rw [show S.length + 1 + (S.length + 1 + R - (S.length + 1) - 1) = S.length + 1 + (R - 1) by omega]
    exact this
end
theorem ints_of {Q : Int → Prop} : ∀ {acc : List D}, (∀ (i : Nat) (d : D), acc[i]? = some d → ∃ c, d = D.int c ∧ Q c) → ∃ cs : List Int, acc = cs.map D.int ∧ ∀ c ∈ cs, Q c
  | [], _ => ⟨[], rfl, fun _ h => (nomatch h)⟩
  | d :: r, h => by
    obtain ⟨c, e, hc⟩ := h 0 d rfl
    obtain ⟨cs, e2, hcs⟩ := ints_of (acc := r) fun i d hd => h (i + 1) d hd
    exact ⟨c :: cs, by rw [e, e2]; rfl, fun x hx => (List.mem_cons.mp hx).elim (fun z => z ▸ hc) (hcs x)⟩
theorem atI_some {xs : List D} {k : Int} (h0 : 0 ≤ k) (h1 : k < xs.length) : ∃ x, x ∈ xs ∧ L2.atI xs k = some x := by
  have e : xs[k.toNat]? = some xs[k.toNat] := List.getElem?_eq_getElem (by omega)
  refine ⟨_, List.mem_of_getElem? e, ?_⟩
  unfold L2.atI L2.ixN
  rw [if_pos h0, if_pos (by omega)]
  exact e
theorem atI_mem {ns : List Int} {k : Int} (h0 : 0 ≤ k) (h1 : k < ns.length) : ∃ y, y ∈ ns ∧ L2.atI (ns.map D.int) k = some (.int y) := by
  obtain ⟨x, hx, e⟩ := atI_some (xs := ns.map D.int) h0 (by rw [List.length_map]; exact h1)
  obtain ⟨y, hy, rfl⟩ := List.mem_map.mp hx
  exact ⟨y, hy, e⟩
end Nt

namespace Nz
open PySem PySem.Spec PyProof.Rows L2 Dl Nt
open Pn (rgL_inv gd atI_end)
section
variable {m m' : Sto} {R : D → Sto → Prop} {RX : DX}
theorem Wf.on {d : D} (h : Wf m d) (l : Le m m') : Wf m' d := by
  induction h with
  | non => exact .non
  | bl b => exact .bl b
  | int i => exact .int i
  | str h h2 => exact .str h h2
  | ptr h => exact .ptr (l _ _ h)
  | lst ds => exact .lst ds
  | tup h _ ih => exact .tup h ih
def tyD (T : Ty) (d : D) : Bool := match d with
  | .ptr _ => match T with | .dct => true | _ => false
  | d => isT T d
theorem isi_wf {T : Ty} {d : D} (h : Wf m d) (hR : R (.bl (tyD T d)) m) : isiD T d m R := by
  cases h with
  | ptr h => exact ⟨_, _, h, rfl, hR⟩
  | _ => exact hR
theorem v_is_number {ds : List D} (h : sp_is_number ds m R RX) : r_is_number { nx := fun _ m' => R .non m', rt := R } ⟨ds.map some ++ List.replicate (1 - ds.length) none, fun _ => RX⟩ m := by
  unfold sp_is_number at h
  split at h
  · obtain ⟨hw, hR⟩ := h
    cases hw with
    | non => exact ⟨fun z => (nomatch z), fun _ => hR⟩
    | bl b => exact ⟨fun _ => ⟨fun z => (nomatch z), fun _ => hR⟩, fun z => (nomatch z)⟩
    | int i => exact ⟨fun _ => ⟨fun _ => hR, fun z => (nomatch z)⟩, fun z => (nomatch z)⟩
    | str h => exact ⟨fun z => (nomatch z), fun _ => hR⟩
    | ptr h => exact ⟨_, _, h, rfl, fun z => (nomatch z), fun _ => hR⟩
    | lst ds => exact ⟨fun z => (nomatch z), fun _ => hR⟩
    | tup _ _ => exact ⟨fun z => (nomatch z), fun _ => hR⟩
  · exact h.elim
theorem v_are_numbers {ds : List D} (h : sp_are_numbers ds m R RX) : r_are_numbers { nx := fun _ m' => R .non m', rt := R } ⟨ds.map some ++ List.replicate (2 - ds.length) none, fun _ => RX⟩ m := by
  unfold sp_are_numbers at h
  split at h
  · obtain ⟨hw, hR⟩ := h
    cases hw with
    | non => exact ⟨fun z => (nomatch z), fun _ => hR⟩
    | bl b => exact ⟨fun z => (nomatch z), fun _ => hR⟩
    | int i => exact ⟨fun z => (nomatch z), fun _ => hR⟩
    | str h => exact ⟨fun z => (nomatch z), fun _ => hR⟩
    | ptr h => exact ⟨_, _, h, rfl, fun z => (nomatch z), fun _ => hR⟩
    | lst ds => exact ⟨fun z => (nomatch z), fun _ => hR⟩
    | @tup ds hl hd =>
      refine ⟨fun _ => lc_pure false ((ds.map isNumD).map D.bl) (fun _ _ => trivial) (by rw [List.length_map, List.length_map]) (Nat.le_trans hl (by decide)) (fun k x y m2 hx hy le => ⟨_, rfl, fun R hR => ⟨(hd x (List.mem_of_getElem? hx)).on le, ?_⟩⟩) ⟨ds.map isNumD, rfl, ?_⟩, fun z => (nomatch z)⟩
      · rw [List.getElem?_map, List.getElem?_map, hx] at hy
        cases hy
        exact hR
      · rw [List.all_map]
        exact hR
  · exact h.elim
end
end Nz

namespace Nz
open PySem PySem.Spec PyProof.Rows L2 Dl Nt TL
open Pn (rgL_inv gd atI_end)
/-! ### rows -/
theorem ris_iff {l : List Int} : l.Pairwise (· ≤ ·) ↔ ∀ i x y, l[i]? = some x → l[i + 1]? = some y → x ≤ y := by
  constructor
  · intro h i x y hx hy
    obtain ⟨h1, e1⟩ := List.getElem?_eq_some_iff.mp hx
    obtain ⟨h2, e2⟩ := List.getElem?_eq_some_iff.mp hy
    rw [← e1, ← e2]
    exact List.pairwise_iff_getElem.mp h i (i + 1) h1 h2 (by omega)
  · intro h
    rw [List.pairwise_iff_getElem]
    intro i j hi hj hij
    have go : ∀ n, (h' : i + n < l.length) → l[i] ≤ l[i + n] := fun n => by
      induction n with
      | zero => intro _; exact Int.le_refl _
      | succ n ih =>
        intro h'
        have := ih (by omega)
        have := h (i + n) _ _ (List.getElem?_eq_getElem (by omega)) (List.getElem?_eq_getElem (by omega))
        exact Int.le_trans (by assumption) this
    have := go (j - i) (by omega)
    have e : i + (j - i) = j := by omega
    simpa only [e] using this
theorem nums_of {ds : List D} (h : ds.all isNumD = true) : ds = (ds.map numD).map D.int := by
  rw [List.all_eq_true] at h
  conv => lhs; rw [← List.map_id ds]
  rw [List.map_map]
  refine List.map_congr_left fun d hd => ?_
  have := h d hd
  cases d <;> first | rfl | (cases this)
theorem num_of {d : D} (h : isNumD d = true) : d = .int (numD d) := by cases d <;> first | rfl | (cases h)
/-- the row's look, by steps -/
def stepsOk (row : List Int) : List Bool := (List.range (row.length - 1)).map fun k => decide (row.getD k 0 ≤ row.getD (k + 1) 0)
theorem steps_ok {row : List Int} (h : 0 < row.length) : (decide (row.getD 0 0 = 0) && (stepsOk row).all id) = rowOk row := by
  unfold rowOk
  congr 1
  · rw [gd h]
    simp
  · rw [Bool.eq_iff_iff, List.all_eq_true, decide_eq_true_iff, ris_iff]
    unfold stepsOk
    constructor
    · intro hh i x y hx hy
      have h2 := (List.getElem?_eq_some_iff.mp hy).1
      have := hh _ (List.mem_map.mpr ⟨i, List.mem_range.mpr (by omega), rfl⟩)
      have := of_decide_eq_true this
      rw [List.getD_eq_getElem?_getD, List.getD_eq_getElem?_getD, hx, hy] at this
      exact this
    · intro hh b hb
      obtain ⟨k, hk, rfl⟩ := List.mem_map.mp hb
      have hk' := List.mem_range.mp hk
      exact decide_eq_true (hh k _ _ (gd (by omega)) (gd (by omega)))
end Nz

namespace Nz
open PySem PySem.Spec PyProof.Rows L2 Dl Nt TL
open Pn (rgL_inv gd atI_end)
open Pg (atI_int)
section
variable {m m' : Sto} {R : D → Sto → Prop} {RX : DX}
theorem list3 {A : Type} {ds : List A} (h : ds.length = 3) : ∃ a b c, ds = [a, b, c] := by
  match ds, h with
  | [a, b, c], _ => exact ⟨a, b, c, rfl⟩
theorem list2 {A : Type} {ds : List A} (h : ds.length = 2) : ∃ a b, ds = [a, b] := by
  match ds, h with
  | [a, b], _ => exact ⟨a, b, rfl⟩
theorem curve_no {ds : List D} (h : ds.length ≠ 3) : isCurveD (.tup ds) = false := by
  unfold isCurveD
  split
  · rename_i e
    cases e
    exact absurd rfl h
  · rfl
theorem curve_are {a b c : D} (h : isCurveD (.tup [a, b, c]) = true) : areNumsD a = true ∧ areNumsD b = true := by
  unfold isCurveD at h
  split at h
  · rename_i F A r e
    cases e
    rw [Bool.and_eq_true, Bool.and_eq_true] at h
    exact ⟨h.1, h.2.1⟩
  · cases h
theorem bf {b : Bool} (h : ¬ b = true) : b = false := by cases b <;> simp_all
theorem nums_tup {d : D} (h : areNumsD d = true) : ∃ F : List Int, d = .tup (F.map .int) := by
  unfold areNumsD at h
  split at h
  · exact ⟨_, congrArg D.tup (nums_of h)⟩
  · cases h
theorem numD_ints (F : List Int) : (F.map D.int).map numD = F := by
  rw [List.map_map]
  exact List.map_id F
theorem row_6 {P : DEnds} {x : List (Option D) → DX} {row : List Int} {s0 s1 s2 s3 s5 : Option D} (lr : 0 < row.length) (lr2 : row.length ≤ 900000)
    (hR : P.rt (.bl (rowOk row)) m) : r_is_curve_4 P ⟨[s0, s1, s2, s3, some (.tup (row.map .int)), s5], x⟩ m := by
  rw [← steps_ok lr] at hR
  refine ⟨_, _, rfl, atI_int (by decide) (by omega), ?_⟩
  by_cases h0 : row.getD 0 0 = 0
  · rw [decide_eq_true h0, Bool.true_and] at hR
    refine ⟨fun _ => ⟨?_, lc_pure false ((stepsOk row).map D.bl) (fun _ _ => trivial) ?_ ?_ (fun k y z m3 hx hy le => ?_) ⟨_, rfl, hR⟩⟩, fun z => ?_⟩
    · rw [List.length_map]
      omega
    · rw [rgL_len, List.length_map, List.length_map]
      unfold stepsOk
      rw [List.length_map, List.length_range]
      omega
    · rw [rgL_len, List.length_map]
      exact szn (by omega)
    · obtain ⟨hk, rfl⟩ := rgL_inv hx
      rw [List.length_map] at hk
      unfold stepsOk at hy
      rw [List.getElem?_map, List.getElem?_map, List.getElem?_range (by omega)] at hy
      cases hy
      refine ⟨_, rfl, fun R hR => ⟨_, _, rfl, atI_int (by omega) (by omega), _, _, rfl, atI_int (by omega) (by omega), ?_⟩⟩
      have e1 : (1 + (k : Int) - 1).toNat = k := by omega
      have e2 : (1 + (k : Int)).toNat = k + 1 := by omega
      rw [e1, e2]
      exact hR
    · rw [decide_eq_true (show row.getD (Int.toNat 0) 0 = 0 from h0)] at z
      cases z
  · rw [decide_eq_false h0, Bool.false_and] at hR
    refine ⟨fun z => absurd (of_decide_eq_true z) h0, fun _ => hR⟩
theorem row_3 {P : DEnds} {x : List (Option D) → DX} {F A : List Int} {r : Int} {s0 s4 s5 : Option D} (lF : F.length ≤ 300000) (lA : A.length ≤ 300000) (A0 : 0 < A.length)
    (hR : P.rt (.bl (rowOk (F ++ A ++ [A.getD 0 0 + r]))) m) : r_is_curve_3 P ⟨[s0, some (.tup (F.map .int)), some (.tup (A.map .int)), some (.int r), s4, s5], x⟩ m := by
  have lr : (F ++ A ++ [A.getD 0 0 + r]).length = F.length + A.length + 1 := by simp; omega
  have key := row_6 (P := P) (x := x) (s0 := s0) (s1 := some (.tup (F.map .int))) (s2 := some (.tup (A.map .int))) (s3 := some (.int r)) (s5 := s5) (by omega) (by omega) hR
  rw [List.map_append, List.map_append] at key
  exact ⟨szn (by rw [List.length_map, List.length_map]; omega), _, _, rfl, atI_int (by decide) (by omega), (by show 1 ≤ sizeLine; decide), szn (by simp; omega), key⟩
theorem v_is_curve {ds : List D} (h : sp_is_curve ds m R RX) : r_is_curve { nx := fun _ m' => R .non m', rt := R } ⟨ds.map some ++ List.replicate (6 - ds.length) none, fun _ => RX⟩ m := by
  unfold sp_is_curve at h
  split at h
  · obtain ⟨hw, hR⟩ := h
    cases hw with
    | non => exact ⟨fun _ => ⟨fun _ => hR, fun z => (nomatch z)⟩, fun z => (nomatch z)⟩
    | bl b => exact ⟨fun _ => ⟨fun _ => hR, fun z => (nomatch z)⟩, fun z => (nomatch z)⟩
    | int i => exact ⟨fun _ => ⟨fun _ => hR, fun z => (nomatch z)⟩, fun z => (nomatch z)⟩
    | str h => exact ⟨fun _ => ⟨fun _ => hR, fun z => (nomatch z)⟩, fun z => (nomatch z)⟩
    | ptr h => exact ⟨_, _, h, rfl, fun _ => ⟨fun _ => hR, fun z => (nomatch z)⟩, fun z => (nomatch z)⟩
    | lst ds => exact ⟨fun _ => ⟨fun _ => hR, fun z => (nomatch z)⟩, fun z => (nomatch z)⟩
    | @tup ds hl hd =>
      refine ⟨fun z => (nomatch z), fun _ => ?_⟩
      by_cases h3 : ds.length = 3
      · refine ⟨fun z => ?_, fun _ => ?_⟩
        · rw [decide_eq_true (show (ds.length : Int) = 3 by omega)] at z
          cases z
        · obtain ⟨a, b, c, rfl⟩ := list3 h3
          refine ⟨_, a, rfl, rfl, hd a (by simp), ?_⟩
          by_cases ha : areNumsD a = true
          · rw [ha]
            refine ⟨fun z => (nomatch z), fun _ => ⟨_, b, rfl, rfl, hd b (by simp), ?_⟩⟩
            by_cases hb : areNumsD b = true
            · rw [hb]
              refine ⟨fun z => (nomatch z), fun _ => ?_⟩
              obtain ⟨F, rfl⟩ := nums_tup ha
              obtain ⟨A, rfl⟩ := nums_tup hb
              have lF : F.length ≤ 300000 := by
                have := hd (.tup (F.map .int)) (by simp)
                cases this with
                | tup h _ => rw [List.length_map] at h; exact h
              have lA : A.length ≤ 300000 := by
                have := hd (.tup (A.map .int)) (by simp)
                cases this with
                | tup h _ => rw [List.length_map] at h; exact h
              have hc := hd c (by simp)
              have eC : isCurveD (.tup [.tup (F.map .int), .tup (A.map .int), c]) = (isNumD c && (decide (A ≠ []) && rowOk (F ++ A ++ [A.getD 0 0 + numD c]))) := by
                show (_ && (_ && _)) = _
                have z1 : (F.map D.int).all isNumD = true := ha
                have z2 : (A.map D.int).all isNumD = true := hb
                rw [z1, z2, numD_ints, numD_ints, Bool.true_and, Bool.true_and]
                congr 2
                cases A <;> simp
              rw [eC] at hR
              refine ⟨rfl, ?_⟩
              by_cases hA : A = []
              · subst hA
                refine ⟨fun _ => ⟨fun _ => ?_, fun z => (nomatch z)⟩, fun z => (nomatch z)⟩
                have e : (isNumD c && (decide (([] : List Int) ≠ []) && rowOk (F ++ [] ++ [([] : List Int).getD 0 0 + numD c]))) = false := by
                  simp
                rw [e] at hR
                exact hR
              · have A0 : 0 < A.length := List.length_pos_iff.mpr hA
                refine ⟨fun z => ?_, fun _ => ⟨hc, ?_⟩⟩
                · rw [List.length_map, decide_eq_false (by omega)] at z
                  cases z
                · by_cases hn : isNumD c = true
                  · rw [hn]
                    refine ⟨fun z => (nomatch z), fun _ => ?_⟩
                    obtain ⟨r, rfl⟩ : ∃ r, c = .int r := ⟨_, num_of hn⟩
                    rw [hn, decide_eq_true hA, Bool.true_and, Bool.true_and] at hR
                    exact row_3 lF lA A0 hR
                  · rw [bf hn]
                    refine ⟨fun _ => ?_, fun z => (nomatch z)⟩
                    rw [bf hn] at hR
                    exact hR
            · rw [bf hb]
              refine ⟨fun _ => ?_, fun z => (nomatch z)⟩
              have e : isCurveD (.tup [a, b, c]) = false := bf fun z => hb (curve_are z).2
              rw [e] at hR
              exact hR
          · rw [bf ha]
            refine ⟨fun _ => ⟨fun _ => ?_, fun z => (nomatch z)⟩, fun z => (nomatch z)⟩
            have e : isCurveD (.tup [a, b, c]) = false := bf fun z => ha (curve_are z).1
            rw [e] at hR
            exact hR
      · rw [curve_no h3] at hR
        refine ⟨fun _ => ⟨fun _ => hR, fun z => (nomatch z)⟩, fun z => ?_⟩
        rw [decide_eq_false (show ¬ ((ds.length : Int) = 3) by omega)] at z
        cases z
  · exact h.elim
end
end Nz

namespace Nz
open PySem PySem.Spec PyProof.Rows L2 Dl Nt TL
open Pn (rgL_inv gd atI_end)
open Pg (atI_int)
theorem atN {A : Type} {xs : List A} {i : Nat} {x : A} (h : xs[i]? = some x) : L2.atI xs (i : Int) = some x := by
  have hi := (List.getElem?_eq_some_iff.mp h).1
  unfold L2.atI L2.ixN
  rw [if_pos (by omega), if_pos (by omega)]
  exact h
theorem at0 {A : Type} {a : A} {r : List A} : L2.atI (a :: r) 0 = some a := atN (i := 0) rfl
theorem at1 {A : Type} {a b : A} {r : List A} : L2.atI (a :: b :: r) 1 = some b := atN (i := 1) rfl
theorem at2 {A : Type} {a b c : A} {r : List A} : L2.atI (a :: b :: c :: r) 2 = some c := atN (i := 2) rfl
theorem cons2 {A : Type} : ∀ {l : List A}, 2 ≤ l.length → ∃ a b r, l = a :: b :: r
  | [], h => by simp at h
  | [a], h => by simp at h
  | a :: b :: r, _ => ⟨a, b, r, rfl⟩
theorem let_mem {c : Nat} : decide (c ∈ lets.cps.toList) = isLet c := by
  rw [lets_tl]
  unfold isLet
  rw [Bool.eq_iff_iff, Bool.and_eq_true, decide_eq_true_iff, decide_eq_true_iff, decide_eq_true_iff, List.mem_range']
  constructor
  · rintro ⟨i, h1, h2⟩
    omega
  · rintro ⟨h1, h2⟩
    exact ⟨c - 97, by omega, by omega⟩
theorem in_strs {x : Str} {ys : List Str} : inFD (.str x) (ys.map .str) = decide (x ∈ ys) := by
  unfold inFD
  rw [List.any_map]
  rw [Bool.eq_iff_iff, List.any_eq_true, decide_eq_true_iff]
  constructor
  · rintro ⟨y, hy, h⟩
    have : y = x := by
      have : (y == x) = true := h
      exact eq_of_beq this
    exact this ▸ hy
  · intro h
    exact ⟨x, h, by show (x == x) = true; exact beq_self_eq_true x⟩
theorem flat_strs {ys : List Str} : (ys.map D.str).all flatD = true := by
  rw [List.all_map, List.all_eq_true]
  intro y _
  rfl
section
variable {m m' : Sto} {R : D → Sto → Prop} {RX : DX}
theorem v_is_name {ds : List D} (h : sp_is_name ds m R RX) : r_is_name { nx := fun _ m' => R .non m', rt := R } ⟨ds.map some ++ List.replicate (2 - ds.length) none, fun _ => RX⟩ m := by
  unfold sp_is_name at h
  split at h
  · obtain ⟨hw, hR⟩ := h
    cases hw with
    | non => exact ⟨fun _ => ⟨fun _ => hR, fun z => (nomatch z)⟩, fun z => (nomatch z)⟩
    | bl b => exact ⟨fun _ => ⟨fun _ => hR, fun z => (nomatch z)⟩, fun z => (nomatch z)⟩
    | int i => exact ⟨fun _ => ⟨fun _ => hR, fun z => (nomatch z)⟩, fun z => (nomatch z)⟩
    | ptr h => exact ⟨_, _, h, rfl, fun _ => ⟨fun _ => hR, fun z => (nomatch z)⟩, fun z => (nomatch z)⟩
    | lst ds => exact ⟨fun _ => ⟨fun _ => hR, fun z => (nomatch z)⟩, fun z => (nomatch z)⟩
    | tup _ _ => exact ⟨fun _ => ⟨fun _ => hR, fun z => (nomatch z)⟩, fun z => (nomatch z)⟩
    | @str x hl =>
      have hR : R (.bl (isName x)) m := hR
      unfold isName at hR
      refine ⟨fun z => (nomatch z), fun _ => ⟨szn (by omega), ?_⟩⟩
      by_cases h1 : 1 ≤ x.length
      · refine ⟨fun _ => ?_, fun z => ?_⟩
        · by_cases h8 : x.length ≤ 8
          · rw [decide_eq_true h1, decide_eq_true h8, Bool.true_and, Bool.true_and] at hR
            refine ⟨fun z => ?_, fun _ => ?_⟩
            · have z : (!decide ((x.length : Int) ≤ 8)) = true := z
              rw [decide_eq_true (show (x.length : Int) ≤ 8 by omega)] at z
              cases z
            · refine lc_pure false ((x.cps.toList.map isLet).map D.bl) (fun _ _ => trivial) (by rw [List.length_map, List.length_map, List.length_map]) (by rw [List.length_map]; exact szn (by have := len_tl (x := x); show (tl x).length ≤ _; omega)) (fun k y z m3 hx hy le => ?_) ⟨_, rfl, by rw [List.all_map]; exact hR⟩
              rw [List.getElem?_map] at hx
              rw [List.getElem?_map, List.getElem?_map] at hy
              cases hc : x.cps.toList[k]? with
              | none => rw [hc] at hx; cases hx
              | some c =>
                rw [hc] at hx hy
                cases hx
                cases hy
                refine ⟨_, rfl, fun R hR => ⟨c, rfl, ?_⟩⟩
                rw [if_neg (by decide), let_mem]
                exact hR
          · rw [decide_eq_false h8, Bool.and_false, Bool.false_and] at hR
            refine ⟨fun _ => hR, fun z => ?_⟩
            have z : (!decide ((x.length : Int) ≤ 8)) = false := z
            rw [decide_eq_false (show ¬ (x.length : Int) ≤ 8 by omega)] at z
            cases z
        · have z : decide (1 ≤ (x.length : Int)) = false := z
          rw [decide_eq_true (show 1 ≤ (x.length : Int) by omega)] at z
          cases z
      · rw [decide_eq_false h1, Bool.false_and, Bool.false_and] at hR
        refine ⟨fun z => absurd (of_decide_eq_true z) (by omega), fun _ => ⟨fun _ => hR, fun z => (nomatch z)⟩⟩
  · exact h.elim
theorem part_l1 {P : DEnds} {x : List (Option D) → DX} {n : Int} {d : D} {seen : List Str} {q : Addr} {s0 : Option D} (hw : Wf m d) (n2 : 2 ≤ n) (hq : m q = some (.lst (seen.map .str))) (ls : seen.length ≤ 300000)
    (hno : partD n.toNat seen d = none → P.rt (.bl false) (del m q))
    (hyes : ∀ y, partD n.toNat seen d = some y → P.nx ⟨[s0, some (.int n), some (.ptr q), some d], x⟩ (up m q (.lst ((seen ++ [y]).map .str)))) :
    r_are_parts_l1 P ⟨[s0, some (.int n), some (.ptr q), some d], x⟩ m := by
  have no : partD n.toNat seen d = none → dFrz 2 (dRet (dC (.bl false))) P ⟨[s0, some (.int n), some (.ptr q), some d], x⟩ m := fun h => ⟨q, _, rfl, hq, hno h⟩
  cases hw with
  | non => exact ⟨fun _ => ⟨fun _ => no rfl, fun z => (nomatch z)⟩, fun z => (nomatch z)⟩
  | bl b => exact ⟨fun _ => ⟨fun _ => no rfl, fun z => (nomatch z)⟩, fun z => (nomatch z)⟩
  | int i => exact ⟨fun _ => ⟨fun _ => no rfl, fun z => (nomatch z)⟩, fun z => (nomatch z)⟩
  | str h => exact ⟨fun _ => ⟨fun _ => no rfl, fun z => (nomatch z)⟩, fun z => (nomatch z)⟩
  | ptr h => exact ⟨_, _, h, rfl, fun _ => ⟨fun _ => no rfl, fun z => (nomatch z)⟩, fun z => (nomatch z)⟩
  | lst ds => exact ⟨fun _ => ⟨fun _ => no rfl, fun z => (nomatch z)⟩, fun z => (nomatch z)⟩
  | @tup ds hl hd =>
    refine ⟨fun z => (nomatch z), fun _ => ?_⟩
    by_cases hn : (ds.length : Int) = n
    · refine ⟨fun z => ?_, fun _ => ?_⟩
      · rw [decide_eq_true hn] at z
        cases z
      · obtain ⟨a, c, r, rfl⟩ : ∃ a c r, ds = a :: c :: r := cons2 (by omega)
        · skip
          have hr : r.length + 2 = n.toNat := by simp at hn; omega
          refine ⟨_, a, rfl, at0, hd a (by simp), ?_⟩
          by_cases ha : isNameD a = true
          · rw [ha]
            refine ⟨fun z => (nomatch z), fun _ => ⟨_, c, rfl, at1, hd c (by simp), ?_⟩⟩
            cases a with
            | str y =>
              by_cases hc : isCurveD c = true
              · rw [hc]
                refine ⟨fun z => (nomatch z), fun _ => ⟨_, .str y, rfl, at0, _, ⟨_, hq, rfl⟩, rfl, flat_strs, ?_⟩⟩
                rw [if_neg (by decide), in_strs]
                by_cases hs : y ∈ seen
                · rw [decide_eq_true hs]
                  refine ⟨fun _ => no ?_, fun z => (nomatch z)⟩
                  unfold partD
                  exact if_neg fun z => z.2.2.2 hs
                · rw [decide_eq_false hs]
                  refine ⟨fun z => (nomatch z), fun _ => ⟨⟨_, _, hq, rfl⟩, _, .str y, rfl, at0, _, hq, ?_, ?_⟩⟩
                  · rw [List.length_map]
                    exact Nat.lt_of_le_of_lt ls (by decide)
                  · have := hyes y (by unfold partD; exact if_pos ⟨hr, ha, hc, hs⟩)
                    rw [List.map_append] at this
                    exact this
              · rw [bf hc]
                refine ⟨fun _ => no ?_, fun z => (nomatch z)⟩
                unfold partD
                exact if_neg fun z => hc z.2.2.1
            | _ => cases ha
          · rw [bf ha]
            refine ⟨fun _ => ⟨fun _ => no ?_, fun z => (nomatch z)⟩, fun z => (nomatch z)⟩
            cases a <;> first | rfl | (unfold partD; exact if_neg fun z => ha z.2.1)
    · refine ⟨fun _ => ⟨fun _ => no ?_, fun z => (nomatch z)⟩, fun z => ?_⟩
      · unfold partD
        split
        · rename_i y c r e
          cases e
          exact if_neg fun z => hn (by have := z.1; simp; omega)
        · rfl
      · rw [decide_eq_false hn] at z
        cases z
theorem no_frz {P : DEnds} {x : List (Option D) → DX} {s0 s1 s3 : Option D} {q : Addr} {L : List D} (hq : m q = some (.lst L)) (h : P.rt (.bl false) (del m q)) : dFrz 2 (dRet (dC (.bl false))) P ⟨[s0, s1, some (.ptr q), s3], x⟩ m := ⟨q, _, rfl, hq, h⟩
theorem wf_get {ds : List D} {i : Nat} {d : D} (hd : ∀ d, d ∈ ds → Wf m d) (h : ds[i]? = some d) : Wf m d := hd d (List.mem_of_getElem? h)
theorem drop_get {A : Type} {ds : List A} {i : Nat} {d : A} (h : ds[i]? = some d) : ds.drop i = d :: ds.drop (i + 1) := by
  obtain ⟨hi, e⟩ := List.getElem?_eq_some_iff.mp h
  rw [List.drop_eq_getElem_cons hi, e]
theorem v_are_parts {ds : List D} (h : sp_are_parts ds m R RX) : r_are_parts { nx := fun _ m' => R .non m', rt := R } ⟨ds.map some ++ List.replicate (4 - ds.length) none, fun _ => RX⟩ m := by
  unfold sp_are_parts at h
  split at h
  · rename_i d n
    obtain ⟨hw, n2, hR⟩ := h
    cases hw with
    | non => exact ⟨fun _ => ⟨fun _ => hR, fun z => (nomatch z)⟩, fun z => (nomatch z)⟩
    | bl b => exact ⟨fun _ => ⟨fun _ => hR, fun z => (nomatch z)⟩, fun z => (nomatch z)⟩
    | int i => exact ⟨fun _ => ⟨fun _ => hR, fun z => (nomatch z)⟩, fun z => (nomatch z)⟩
    | ptr h => exact ⟨_, _, h, rfl, fun _ => ⟨fun _ => hR, fun z => (nomatch z)⟩, fun z => (nomatch z)⟩
    | lst ds => exact ⟨fun _ => ⟨fun _ => hR, fun z => (nomatch z)⟩, fun z => (nomatch z)⟩
    | str _ => exact ⟨fun _ => ⟨fun _ => hR, fun z => (nomatch z)⟩, fun z => (nomatch z)⟩
    | @tup ds hl hd =>
      have hR : R (.bl (decide (1 ≤ ds.length) && (decide (ds.length ≤ 6) && partsGo n.toNat ds []))) m := hR
      refine ⟨fun z => (nomatch z), fun _ => ?_⟩
      by_cases h1 : 1 ≤ ds.length
      · rw [decide_eq_true h1, Bool.true_and] at hR
        refine ⟨fun _ => ?_, fun z => ?_⟩
        · by_cases h6 : ds.length ≤ 6
          · rw [decide_eq_true h6, Bool.true_and] at hR
            refine ⟨fun z => ?_, fun _ => ⟨by decide, fun q hq => ?_⟩⟩
            · have z : (!decide ((ds.length : Int) ≤ 6)) = true := z
              rw [decide_eq_true (show (ds.length : Int) ≤ 6 by omega)] at z
              cases z
            · refine ⟨fun i δ m' => ∃ seen t3, seen.length = i ∧ partsGo n.toNat ds [] = partsGo n.toNat (ds.drop i) seen ∧ m' = up m q (.lst (seen.map .str)) ∧ δ = ⟨[some (.tup ds), some (.int n), some (.ptr q), t3], fun _ => RX⟩, ⟨[], none, rfl, rfl, rfl, rfl⟩, fun _ _ _ _ => trivial, ?_, ?_⟩
              · rintro i d δ m1 hx ⟨seen, t3, hs, he, rfl, rfl⟩
                rw [drop_get hx, partsGo] at he
                have hi := (List.getElem?_eq_some_iff.mp hx).1
                refine part_l1 ((wf_get hd hx).on (Le.up hq)) n2 up_same (by omega) (fun hno => ?_) fun y hy => ?_
                · rw [hno] at he
                  rw [he] at hR
                  show R _ _
                  rw [del_up hq]
                  exact hR
                · rw [hy] at he
                  refine ⟨seen ++ [y], some d, by rw [List.length_append, hs]; rfl, he, by rw [up_up], rfl⟩
              · rintro δ m1 ⟨seen, t3, hs, he, rfl, rfl⟩
                rw [List.drop_length, partsGo] at he
                rw [he] at hR
                refine ⟨q, _, rfl, up_same, ?_⟩
                show R _ _
                rw [del_up hq]
                exact hR
          · rw [decide_eq_false h6, Bool.false_and] at hR
            refine ⟨fun _ => hR, fun z => ?_⟩
            have z : (!decide ((ds.length : Int) ≤ 6)) = false := z
            rw [decide_eq_false (show ¬ (ds.length : Int) ≤ 6 by omega)] at z
            cases z
        · have z : decide (1 ≤ (ds.length : Int)) = false := z
          rw [decide_eq_true (show 1 ≤ (ds.length : Int) by omega)] at z
          cases z
      · rw [decide_eq_false h1, Bool.false_and] at hR
        refine ⟨fun z => absurd (of_decide_eq_true z) (by omega), fun _ => ⟨fun _ => hR, fun z => (nomatch z)⟩⟩
  · exact h.elim
theorem route_l1 {P : DEnds} {x : List (Option D) → DX} {d : D} {names seen : List Str} {q : Addr} {s1 : Option D} {r : List D} (hw : Wf m d) (hq : m q = some (.lst (seen.map .str))) (ls : seen.length ≤ 300000)
    (hno : routeGo names (d :: r) seen = false → P.rt (.bl false) (del m q))
    (hyes : ∀ y, routeGo names (d :: r) seen = routeGo names r (seen ++ [y]) → P.nx ⟨[some (.lst (names.map .str)), s1, some (.ptr q), some d], x⟩ (up m q (.lst ((seen ++ [y]).map .str)))) :
    r_is_route_l1 P ⟨[some (.lst (names.map .str)), s1, some (.ptr q), some d], x⟩ m := by
  refine ⟨hw, ?_⟩
  by_cases ha : isNameD d = true
  · rw [ha]
    refine ⟨fun z => (nomatch z), fun _ => ?_⟩
    cases d with
    | str y =>
      have eg : routeGo names (.str y :: r) seen = (decide (y ∈ names) && (!decide (y ∈ seen) && routeGo names r (seen ++ [y]))) := by
        rw [routeGo]
        have : isName y = true := ha
        rw [this, Bool.true_and]
      refine ⟨_, rfl, rfl, flat_strs, ?_⟩
      rw [if_pos rfl, in_strs]
      by_cases hn : y ∈ names
      · rw [decide_eq_true hn] at eg ⊢
        rw [Bool.true_and] at eg
        refine ⟨fun z => (nomatch z), fun _ => ⟨_, ⟨_, hq, rfl⟩, rfl, flat_strs, ?_⟩⟩
        rw [if_neg (by decide), in_strs]
        by_cases hs : y ∈ seen
        · rw [decide_eq_true hs] at eg ⊢
          exact ⟨fun _ => no_frz hq (hno eg), fun z => (nomatch z)⟩
        · rw [decide_eq_false hs] at eg ⊢
          refine ⟨fun z => (nomatch z), fun _ => ⟨⟨_, _, hq, rfl⟩, _, hq, ?_, ?_⟩⟩
          · rw [List.length_map]
            exact Nat.lt_of_le_of_lt ls (by decide)
          · have := hyes y (by rw [eg]; simp)
            rw [List.map_append] at this
            exact this
      · rw [decide_eq_false hn] at eg ⊢
        exact ⟨fun _ => ⟨fun _ => no_frz hq (hno eg), fun z => (nomatch z)⟩, fun z => (nomatch z)⟩
    | _ => cases ha
  · rw [bf ha]
    refine ⟨fun _ => ⟨fun _ => no_frz hq (hno ?_), fun z => (nomatch z)⟩, fun z => (nomatch z)⟩
    cases d with
    | str y =>
      rw [routeGo]
      have : isName y = false := bf ha
      rw [this, Bool.false_and]
    | _ => rfl
theorem v_is_route {ds : List D} (h : sp_is_route ds m R RX) : r_is_route { nx := fun _ m' => R .non m', rt := R } ⟨ds.map some ++ List.replicate (4 - ds.length) none, fun _ => RX⟩ m := by
  unfold sp_is_route at h
  split at h
  · rename_i ns d
    obtain ⟨names, rfl, ln, hw, hR⟩ := h
    cases hw with
    | non => exact ⟨fun _ => ⟨fun _ => hR, fun z => (nomatch z)⟩, fun z => (nomatch z)⟩
    | bl b => exact ⟨fun _ => ⟨fun _ => hR, fun z => (nomatch z)⟩, fun z => (nomatch z)⟩
    | int i => exact ⟨fun _ => ⟨fun _ => hR, fun z => (nomatch z)⟩, fun z => (nomatch z)⟩
    | ptr h => exact ⟨_, _, h, rfl, fun _ => ⟨fun _ => hR, fun z => (nomatch z)⟩, fun z => (nomatch z)⟩
    | lst ds => exact ⟨fun _ => ⟨fun _ => hR, fun z => (nomatch z)⟩, fun z => (nomatch z)⟩
    | str _ => exact ⟨fun _ => ⟨fun _ => hR, fun z => (nomatch z)⟩, fun z => (nomatch z)⟩
    | @tup ds hl hd =>
      have hR : R (.bl (decide (ds ≠ []) && routeGo names ds [])) m := hR
      refine ⟨fun z => (nomatch z), fun _ => ?_⟩
      by_cases h0 : ds = []
      · subst h0
        exact ⟨fun _ => hR, fun z => (nomatch z)⟩
      · have l0 : 0 < ds.length := List.length_pos_iff.mpr h0
        rw [decide_eq_true h0, Bool.true_and] at hR
        refine ⟨fun z => absurd (of_decide_eq_true z) (by omega), fun _ => ⟨by decide, fun q hq => ?_⟩⟩
        refine ⟨fun i δ m' => ∃ seen t3, seen.length = i ∧ routeGo names ds [] = routeGo names (ds.drop i) seen ∧ m' = up m q (.lst (seen.map .str)) ∧ δ = ⟨[some (.lst (names.map .str)), some (.tup ds), some (.ptr q), t3], fun _ => RX⟩, ⟨[], none, rfl, rfl, rfl, rfl⟩, fun _ _ _ _ => trivial, ?_, ?_⟩
        · rintro i d δ m1 hx ⟨seen, t3, hs, he, rfl, rfl⟩
          rw [drop_get hx] at he
          have hi := (List.getElem?_eq_some_iff.mp hx).1
          refine route_l1 (r := ds.drop (i + 1)) ((wf_get hd hx).on (Le.up hq)) up_same (by omega) (fun hno => ?_) fun y hy => ?_
          · rw [he, hno] at hR
            show R _ _
            rw [del_up hq]
            exact hR
          · rw [hy] at he
            refine ⟨seen ++ [y], some d, by rw [List.length_append, hs]; rfl, he, by rw [up_up], rfl⟩
        · rintro δ m1 ⟨seen, t3, hs, he, rfl, rfl⟩
          rw [List.drop_length, routeGo] at he
          rw [he] at hR
          refine ⟨q, _, rfl, up_same, ?_⟩
          show R _ _
          rw [del_up hq]
          exact hR
  · exact h.elim
end
end Nz

namespace Nz
open PySem PySem.Spec PyProof.Rows L2 Dl Nt TL
open Pn (rgL_inv gd atI_end)
open Pg (atI_int)
theorem part_some {long : Nat} {seen : List Str} {d : D} {y : Str} (h : partD long seen d = some y) : ∃ c r, d = .tup (.str y :: c :: r) ∧ r.length + 2 = long ∧ isName y = true ∧ isCurveD c = true ∧ y ∉ seen := by
  unfold partD at h
  split at h
  · rename_i x c r
    split at h
    · rename_i z
      cases h
      exact ⟨c, r, rfl, z⟩
    · cases h
  · cases h
theorem parts_mem {long : Nat} : ∀ {ds : List D} {seen : List Str}, partsGo long ds seen = true → ∀ d ∈ ds, ∃ y c r, d = .tup (.str y :: c :: r) ∧ r.length + 2 = long ∧ isName y = true ∧ isCurveD c = true
  | [], _, _, d, hd => by cases hd
  | e :: ds, seen, h, d, hd => by
    rw [partsGo] at h
    split at h
    · rename_i y hy
      rcases List.mem_cons.mp hd with rfl | hd
      · obtain ⟨c, r, e, h1, h2, h3, _⟩ := part_some hy
        exact ⟨y, c, r, e, h1, h2, h3⟩
      · exact parts_mem h d hd
    · cases h
theorem parts_len {long : Nat} {ds : List D} (h : arePartsD long (.tup ds) = true) : 1 ≤ ds.length ∧ ds.length ≤ 6 ∧ partsGo long ds [] = true := by
  unfold arePartsD at h
  rw [Bool.and_eq_true, Bool.and_eq_true] at h
  exact ⟨of_decide_eq_true h.1, of_decide_eq_true h.2.1, h.2.2⟩
theorem net_no {ds : List D} (h : ds.length ≠ 2) : isNetD (.tup ds) = false := by
  unfold isNetD
  split
  · rename_i e
    cases e
    exact absurd rfl h
  · rfl
theorem parts_tup {long : Nat} {d : D} (h : arePartsD long d = true) : ∃ ds, d = .tup ds := by
  unfold arePartsD at h
  split at h
  · exact ⟨_, rfl⟩
  · cases h
theorem net_parts {a b : D} : isNetD (.tup [a, b]) = (arePartsD 2 a && (arePartsD 3 b && (match a, b with | .tup s, .tup t => t.all fun d => isRouteD (s.map headD) (thirdD d) | _, _ => false))) := by
  unfold isNetD
  split
  · rename_i s t e
    cases e
    rfl
  · rename_i hne
    by_cases ha : arePartsD 2 a = true
    · by_cases hb : arePartsD 3 b = true
      · obtain ⟨s, rfl⟩ := parts_tup ha
        obtain ⟨t, rfl⟩ := parts_tup hb
        exact absurd rfl (hne s t)
      · rw [bf hb, Bool.false_and, Bool.and_false]
    · rw [bf ha, Bool.false_and]
section
variable {m m' : Sto} {R : D → Sto → Prop} {RX : DX}
theorem v_is_net {ds : List D} (h : sp_is_net ds m R RX) : r_is_net { nx := fun _ m' => R .non m', rt := R } ⟨ds.map some ++ List.replicate (3 - ds.length) none, fun _ => RX⟩ m := by
  unfold sp_is_net at h
  split at h
  · obtain ⟨hw, hR⟩ := h
    cases hw with
    | non => exact ⟨fun _ => ⟨fun _ => hR, fun z => (nomatch z)⟩, fun z => (nomatch z)⟩
    | bl b => exact ⟨fun _ => ⟨fun _ => hR, fun z => (nomatch z)⟩, fun z => (nomatch z)⟩
    | int i => exact ⟨fun _ => ⟨fun _ => hR, fun z => (nomatch z)⟩, fun z => (nomatch z)⟩
    | ptr h => exact ⟨_, _, h, rfl, fun _ => ⟨fun _ => hR, fun z => (nomatch z)⟩, fun z => (nomatch z)⟩
    | lst ds => exact ⟨fun _ => ⟨fun _ => hR, fun z => (nomatch z)⟩, fun z => (nomatch z)⟩
    | str _ => exact ⟨fun _ => ⟨fun _ => hR, fun z => (nomatch z)⟩, fun z => (nomatch z)⟩
    | @tup ds hl hd =>
      refine ⟨fun z => (nomatch z), fun _ => ?_⟩
      by_cases h2 : ds.length = 2
      · obtain ⟨a, b, rfl⟩ := list2 h2
        refine ⟨fun z => ?_, fun _ => ⟨_, a, rfl, rfl, hd a (by simp), by decide, ?_⟩⟩
        · rw [decide_eq_true (show (([a, b] : List D).length : Int) = 2 from rfl)] at z
          cases z
        rw [net_parts] at hR
        by_cases ha : arePartsD 2 a = true
        · have ha' : arePartsD (Int.toNat 2) a = true := ha
          rw [ha']
          rw [ha, Bool.true_and] at hR
          refine ⟨fun z => (nomatch z), fun _ => ⟨_, b, rfl, rfl, hd b (by simp), by decide, ?_⟩⟩
          by_cases hb : arePartsD 3 b = true
          · have hb' : arePartsD (Int.toNat 3) b = true := hb
            rw [hb']
            rw [hb, Bool.true_and] at hR
            refine ⟨fun z => (nomatch z), fun _ => ?_⟩
            obtain ⟨s, rfl⟩ := parts_tup ha
            obtain ⟨t, rfl⟩ := parts_tup hb
            obtain ⟨s1, s6, ps⟩ := parts_len ha
            obtain ⟨t1, t6, pt⟩ := parts_len hb
            have hR : R (.bl (t.all fun d => isRouteD (s.map headD) (thirdD d))) m := hR
            have hT : Wf m (.tup t) := hd _ (by simp)
            refine ⟨_, .tup s, rfl, rfl, lc_pure false ((s.map headD).map D.str) (fun _ _ => trivial) (by rw [List.length_map, List.length_map]) (szn (by omega)) (fun k y z m3 hx hy le => ?_) ?_⟩
            · obtain ⟨w, c, r, rfl, _⟩ := parts_mem ps y (List.mem_of_getElem? hx)
              rw [List.getElem?_map, List.getElem?_map, hx] at hy
              cases hy
              exact ⟨_, rfl, fun R hR => ⟨_, .str w, rfl, at0, hR⟩⟩
            · refine ⟨_, .tup t, rfl, rfl, lc_pure false ((t.map fun d => isRouteD (s.map headD) (thirdD d)).map D.bl) (fun _ _ => trivial) (by rw [List.length_map, List.length_map]) (szn (by omega)) (fun k y z m3 hx hy le => ?_) ⟨_, rfl, by rw [List.all_map]; exact hR⟩⟩
              have hm := List.mem_of_getElem? hx
              obtain ⟨w, c, r, rfl, hr, _⟩ := parts_mem pt y hm
              rw [List.getElem?_map, List.getElem?_map, hx] at hy
              cases hy
              match r, hr with
              | [e], _ =>
                cases hT with
                | tup _ hT =>
                  cases hT _ hm with
                  | tup _ hT =>
                    exact ⟨_, rfl, fun R hR => ⟨_, e, rfl, rfl, s.map headD, rfl, by rw [List.length_map]; omega, (hT e (by simp)).on le, hR⟩⟩
          · have hb' : arePartsD (Int.toNat 3) b = false := bf hb
            rw [hb']
            rw [bf hb, Bool.false_and] at hR
            exact ⟨fun _ => hR, fun z => (nomatch z)⟩
        · have ha' : arePartsD (Int.toNat 2) a = false := bf ha
          rw [ha']
          rw [bf ha, Bool.false_and] at hR
          exact ⟨fun _ => ⟨fun _ => hR, fun z => (nomatch z)⟩, fun z => (nomatch z)⟩
      · rw [net_no h2] at hR
        refine ⟨fun _ => hR, fun z => ?_⟩
        rw [decide_eq_false (show ¬ ((ds.length : Int) = 2) by omega)] at z
        cases z
  · exact h.elim
end
end Nz

/-! Data that can be looked at and shown. -/
namespace Nz
open PySem PySem.Spec PyProof.Rows L2 Dl Nt TL
/-- q can be shown, in at most k signs, nested at most d deep -/
structure ShD (q : PyData) (k d : Nat) : Prop where
  sh : q.showable = true
  ln : q.shown.length ≤ k
  dp : q.depth ≤ d
/-- κ: none: neither a list nor a dict within; some false: perhaps lists; some true: perhaps dicts -/
def Gq (m : Sto) (κ : Option Bool) (k d : Nat) (x : D) (q : PyData) : Prop :=
  (κ ≠ some true → Pv m x q ∧ q.hasDict = false) ∧ (κ ≠ some false → PvD m x q) ∧ ShD q k d
def Gd (m : Sto) (κ : Option Bool) (k d : Nat) (x : D) : Prop := Wf m x ∧ ∃ q, Gq m κ k d x q
theorem ShD.mono {q : PyData} {k k' d d' : Nat} (h : ShD q k d) (hk : k ≤ k') (hd : d ≤ d') : ShD q k' d' := ⟨h.sh, Nat.le_trans h.ln hk, Nat.le_trans h.dp hd⟩
theorem ShD.all : ∀ {ps : List PyData} {k d : Nat}, (∀ p ∈ ps, ShD p k d) → PyData.showableAll ps = true ∧ (∀ t ∈ PyData.shownAll ps, t.length ≤ k) ∧ PyData.depthAll ps ≤ d ∧ (PyData.shownAll ps).length = ps.length
  | [], k, d, h => by
    rw [PyData.showableAll, PyData.shownAll, PyData.depthAll]
    exact ⟨rfl, fun t ht => (nomatch ht), Nat.zero_le _, rfl⟩
  | p :: ps, k, d, h => by
    have h1 := h p List.mem_cons_self
    obtain ⟨a, c, e, f⟩ := ShD.all (ps := ps) fun q hq => h q (List.mem_cons_of_mem _ hq)
    rw [PyData.showableAll, PyData.shownAll, PyData.depthAll, a, h1.sh]
    refine ⟨rfl, fun t ht => ?_, Nat.max_le.mpr ⟨h1.dp, e⟩, by rw [List.length_cons, List.length_cons, f]⟩
    rcases List.mem_cons.mp ht with rfl | ht
    · exact h1.ln
    · exact c t ht
theorem ShD.list {ps : List PyData} {k d n : Nat} (h : ∀ p ∈ ps, ShD p k d) (hl : ps.length ≤ n) : ShD (.list ps) (n * (k + 2) + 3) (d + 1) := by
  obtain ⟨a, c, e, f⟩ := ShD.all h
  refine ⟨by rw [PyData.showable, a], ?_, by rw [PyData.depth]; omega⟩
  rw [PyData.shown]
  exact Nat.le_trans (listText_len_le _) (shown_sum c (by rw [f]; exact hl))
theorem ShD.tuple {ps : List PyData} {k d n : Nat} (h : ∀ p ∈ ps, ShD p k d) (hl : ps.length ≤ n) : ShD (.tuple ps) (n * (k + 2) + 3) (d + 1) := by
  obtain ⟨a, c, e, f⟩ := ShD.all h
  refine ⟨by rw [PyData.showable, a], ?_, by rw [PyData.depth]; omega⟩
  rw [PyData.shown]
  exact Nat.le_trans (tupleText_len_le _) (shown_sum c (by rw [f]; exact hl))
section
variable {m m' : Sto} {κ : Option Bool} {k k' d d' : Nat} {x : D}
theorem Gd.mono (h : Gd m κ k d x) (hk : k ≤ k') (hd : d ≤ d') : Gd m κ k' d' x :=
  let ⟨w, q, a, b, c⟩ := h
  ⟨w, q, a, b, c.mono hk hd⟩
theorem Gd.of (h : Gd m none k d x) : Gd m κ k d x :=
  let ⟨w, q, a, b, c⟩ := h
  ⟨w, q, fun _ => a (by simp), fun _ => b (by simp), c⟩
theorem Gd.non : Gd m κ 300 1 .non := ⟨.non, .none, fun _ => ⟨.non, by rw [PyData.hasDict]⟩, fun _ => .non, by rw [PyData.showable], by rw [PyData.shown]; decide, by rw [PyData.depth]; decide⟩
theorem Gd.bl (b : Bool) : Gd m κ 300 1 (.bl b) := ⟨.bl b, .bool b, fun _ => ⟨.bl b, by rw [PyData.hasDict]⟩, fun _ => .bl b, by rw [PyData.showable], by rw [PyData.shown]; cases b <;> decide, by rw [PyData.depth]; decide⟩
theorem Gd.int {i : Int} (h : i.natAbs < 2 ^ 100) : Gd m κ 300 1 (.int i) := by
  have s := Shw.int h (by decide) (by decide)
  exact ⟨.int i, .int i, fun _ => ⟨.int i, s.nd⟩, fun _ => .int i, s.sh, Nat.le_trans s.ln (by decide), Nat.le_trans s.dp (by decide)⟩
theorem Gd.str {z : Str} (hl : z.length ≤ 28) (h : ∀ c ∈ tl z, c < 1000) : Gd m κ 300 1 (.str z) := by
  have := StrLaws.reprText_len z fun c hc => Nat.lt_of_lt_of_le (h c hc) (by decide)
  refine ⟨.str (by omega) h, .str z, fun _ => ⟨.str z, by rw [PyData.hasDict]⟩, fun _ => .str z, by rw [PyData.showable], ?_, by rw [PyData.depth]; decide⟩
  rw [PyData.shown]
  omega
theorem Gd.dct {a : Addr} (h : m a = some (.dct [])) : Gd m (some true) 300 1 (.ptr a) :=
  ⟨.ptr h, .dict [], fun z => absurd rfl z, fun _ => .dct h, by rw [PyData.showable, PyData.showableKv], by rw [PyData.shown, PyData.shownKv]; decide +kernel, by rw [PyData.depth, PyData.depthKv]; decide⟩
theorem Gd.items : ∀ {ds : List D}, (∀ x ∈ ds, Gd m κ k d x) → ∃ qs : List PyData, (κ ≠ some true → PvL m ds qs ∧ PyData.hasDictAll qs = false) ∧ (κ ≠ some false → PvDL m ds qs) ∧ (∀ q ∈ qs, ShD q k d) ∧ qs.length = ds.length
  | [], _ => ⟨[], fun _ => ⟨.nil, by rw [PyData.hasDictAll]⟩, fun _ => .nil, fun _ h => (nomatch h), rfl⟩
  | y :: ds, h => by
    obtain ⟨qs, a, b, c, e⟩ := Gd.items (ds := ds) fun z hz => h z (List.mem_cons_of_mem _ hz)
    obtain ⟨_, q, a1, b1, c1⟩ := h y List.mem_cons_self
    refine ⟨q :: qs, fun z => ⟨.cons (a1 z).1 (a z).1, by rw [PyData.hasDictAll, (a1 z).2, (a z).2]; rfl⟩, fun z => .cons (b1 z) (b z), fun q' hq => ?_, congrArg Nat.succ e⟩
    rcases List.mem_cons.mp hq with rfl | hq
    · exact c1
    · exact c q' hq
theorem Gd.tup {ds : List D} {n K : Nat} (h : ∀ x ∈ ds, Gd m κ k d x) (hl : ds.length ≤ n) (hn : n ≤ 1000) (hK : n * (k + 2) + 3 ≤ K) (hd : d + 1 ≤ d') : Gd m κ K d' (.tup ds) := by
  obtain ⟨qs, a, b, c, e⟩ := Gd.items h
  exact ⟨.tup (by omega) fun z hz => (h z hz).1, .tuple qs, fun z => ⟨.tup (a z).1, by rw [PyData.hasDict, (a z).2]⟩, fun z => .tup (b z), (ShD.tuple c (by omega)).mono hK hd⟩
theorem Gd.lst {ds : List D} {n K : Nat} (h : ∀ x ∈ ds, Gd m (some false) k d x) (hl : ds.length ≤ n) (hK : n * (k + 2) + 3 ≤ K) (hd : d + 1 ≤ d') : Gd m (some false) K d' (.lst ds) := by
  obtain ⟨qs, a, b, c, e⟩ := Gd.items h
  exact ⟨.lst ds, .list qs, fun z => ⟨.lst (a z).1, by rw [PyData.hasDict, (a z).2]⟩, fun z => absurd rfl z, (ShD.list c (by omega)).mono hK hd⟩
theorem Gd.wf (h : Gd m κ k d x) : Wf m x := h.1
/-- what repr tells of it -/
theorem Gd.rep (h : Gd m κ k d x) (hk : k ≤ 10000000) (hd : d ≤ 50) : ∃ z, RepIs m x z := by
  obtain ⟨w, q, a, b, c⟩ := h
  have hz : q.shown.length ≤ sizeLine := Nat.le_trans c.ln (Nat.le_trans hk line_big)
  have hdp : q.depth ≤ 50 := Nat.le_trans c.dp hd
  cases w with
  | non => exact ⟨_, .non⟩
  | bl b0 => exact ⟨_, .bl b0⟩
  | int i =>
    have e : q = .int i := by
      by_cases hk : κ = some true
      · cases b (by rw [hk]; simp); rfl
      · cases (a hk).1; rfl
    subst e
    have := c.sh
    rw [PyData.showable] at this
    exact ⟨_, .int (of_decide_eq_true this)⟩
  | @str z _ =>
    have e : q = .str z := by
      by_cases hk : κ = some true
      · cases b (by rw [hk]; simp); rfl
      · cases (a hk).1; rfl
    subst e
    rw [PyData.shown] at hz
    exact ⟨_, .str hz⟩
  | ptr h =>
    by_cases hk : κ = some true
    · have p := b (by rw [hk]; simp)
      cases p with
      | dct h' => exact ⟨_, .dct (.dct h') c.sh hz hdp trivial⟩
    · have p := (a hk).1
      cases p with
      | ptr h1 h2 _ =>
        rw [h] at h1
        cases h1
        cases h2
  | lst ds =>
    by_cases hk : κ = some true
    · have p := b (by rw [hk]; simp)
      cases p
    · obtain ⟨p, hd⟩ := a hk
      cases p with
      | lst p => exact ⟨_, .seq (.lst p) c.sh hd hz hdp trivial⟩
  | tup _ _ =>
    by_cases hk : κ = some true
    · have p := b (by rw [hk]; simp)
      cases p with
      | tup p => exact ⟨_, .dct (.tup p) c.sh hz hdp trivial⟩
    · obtain ⟨p, hd⟩ := a hk
      cases p with
      | tup p => exact ⟨_, .seq (.tup p) c.sh hd hz hdp trivial⟩
end
/-! ### letters -/
theorem up_letters : ((List.range' 97 26).all fun c => (Unicode.upperOf c).all fun k => decide (k < 1000)) = true := by decide +kernel
theorem upper_sm {x : Str} (h : ∀ c ∈ tl x, isLet c = true) : ∀ c ∈ tl (Txt.upper x), c < 1000 := by
  intro c hc
  have hc : c ∈ (placed x fun _ c => Unicode.upperOf c) := Array.mem_toList_iff.mp hc
  unfold placed at hc
  rw [Array.mem_flatten] at hc
  obtain ⟨a, ha, hc⟩ := hc
  rw [Array.mem_mapIdx] at ha
  obtain ⟨i, hi, e⟩ := ha
  have hl := h (x.cps[i]) (Array.mem_toList_iff.mpr (Array.getElem_mem hi))
  have ul := up_letters
  rw [List.all_eq_true] at ul
  have hb : 97 ≤ x.cps[i] ∧ x.cps[i] ≤ 122 := by
    unfold isLet at hl
    rw [Bool.and_eq_true] at hl
    exact ⟨of_decide_eq_true hl.1, of_decide_eq_true hl.2⟩
  have := ul x.cps[i] (List.mem_range'.mpr ⟨x.cps[i] - 97, by omega, by omega⟩)
  rw [List.all_eq_true] at this
  refine of_decide_eq_true (this c ?_)
  rw [← e] at hc
  exact List.mem_toArray.mp hc
theorem name_lets {x : Str} (h : isName x = true) : 1 ≤ x.length ∧ x.length ≤ 8 ∧ ∀ c ∈ tl x, isLet c = true := by
  unfold isName at h
  rw [Bool.and_eq_true, Bool.and_eq_true, List.all_eq_true] at h
  exact ⟨of_decide_eq_true h.1.1, of_decide_eq_true h.1.2, h.2⟩
theorem let_sm {c : Nat} (h : isLet c = true) : c < 1000 := by
  unfold isLet at h
  rw [Bool.and_eq_true] at h
  have := of_decide_eq_true h.2
  omega
theorem Gd.name {m : Sto} {κ : Option Bool} {x : Str} (h : isName x = true) : Gd m κ 300 1 (.str x) := by
  obtain ⟨_, h2, h3⟩ := name_lets h
  exact Gd.str (by omega) fun c hc => let_sm (h3 c hc)
end Nz

/-! Nets as data. -/
namespace Nz
open PySem PySem.Spec PyProof.Rows L2 Dl Nt TL
open Pg (crv)
def Cv.ok (c : Cv) : Prop := Pn.Drawn c.F c.A c.r
def svD (s : Str × Cv) : D := .tup [.str s.1, cvD s.2]
def stD (t : Str × Cv × List Str) : D := .tup [.str t.1, cvD t.2.1, .tup (t.2.2.map .str)]
def netD (S : List (Str × Cv)) (T : List (Str × Cv × List Str)) : D := .tup [.tup (S.map svD), .tup (T.map stD)]
structure NetOk (S : List (Str × Cv)) (T : List (Str × Cv × List Str)) : Prop where
  s1 : 1 ≤ S.length
  s6 : S.length ≤ 6
  t1 : 1 ≤ T.length
  t6 : T.length ≤ 6
  sn : (S.map (·.1)).Nodup
  tn : (T.map (·.1)).Nodup
  sN : ∀ s ∈ S, isName s.1 = true ∧ s.2.ok
  tN : ∀ t ∈ T, isName t.1 = true ∧ t.2.1.ok ∧ Route (S.map (·.1)) t.2.2 ∧ t.2.2.length ≤ 6
theorem Cv.is {c : Cv} (h : c.ok) : isCurveD (cvD c) = true := by
  obtain ⟨F, A, r⟩ := c
  have h : Pn.Drawn F A r := h
  show (((F.map D.int).all isNumD && ((A.map D.int).all isNumD && (isNumD (.int r) && (decide (A.map D.int ≠ []) && rowOk ((F.map D.int).map numD ++ (A.map D.int).map numD ++ [((A.map D.int).map numD).getD 0 0 + r]))))) = true)
  have nn : ∀ l : List Int, (∀ x ∈ l, 0 ≤ x) → (l.map D.int).all isNumD = true := fun l hl => by
    rw [List.all_map, List.all_eq_true]
    exact fun x hx => decide_eq_true (hl x hx)
  have a0 : 0 < A.length := List.length_pos_iff.mpr h.a0
  rw [nn F fun x hx => h.nn x (List.mem_append_left _ hx), nn A fun x hx => h.nn x (List.mem_append_right _ hx), numD_ints, numD_ints, Bool.true_and, Bool.true_and]
  have e1 : isNumD (.int r) = true := decide_eq_true h.r0
  have e2 : decide (A.map D.int ≠ []) = true := decide_eq_true fun z => h.a0 (List.map_eq_nil_iff.mp z)
  rw [e1, e2, Bool.true_and, Bool.true_and]
  unfold rowOk
  have lz : 0 < (F ++ A).length := by rw [List.length_append]; omega
  rw [Bool.and_eq_true]
  refine ⟨decide_eq_true ?_, decide_eq_true ?_⟩
  · rw [List.getElem?_append_left lz]
    exact h.zero
  · rw [ris_iff]
    intro i x y hx hy
    have hi := (List.getElem?_eq_some_iff.mp hy).1
    rw [List.length_append, List.length_singleton] at hi
    rw [List.getElem?_append_left (by omega)] at hx
    by_cases hj : i + 1 < (F ++ A).length
    · rw [List.getElem?_append_left hj] at hy
      exact h.mono i x y hx hy
    · have ei : i + 1 = (F ++ A).length := by omega
      rw [ei, List.getElem?_append_right (Nat.le_refl _), Nat.sub_self] at hy
      cases hy
      have hA0 : A[0]? = some (A.getD 0 0) := Pn.gd a0
      have hlast : A[A.length - 1]? = some x := by
        rw [List.length_append] at ei
        rw [List.getElem?_append_right (by omega)] at hx
        have : i - F.length = A.length - 1 := by omega
        rw [this] at hx
        exact hx
      exact h.r1 _ hA0 x hlast
theorem parts_ok {α : Type} {long : Nat} (f : α → D) (nm : α → Str) : ∀ (l : List α) (seen : List Str), (∀ a ∈ l, ∃ c r, f a = .tup (.str (nm a) :: c :: r) ∧ r.length + 2 = long ∧ isName (nm a) = true ∧ isCurveD c = true) → (l.map nm).Nodup → (∀ a ∈ l, nm a ∉ seen) → partsGo long (l.map f) seen = true
  | [], _, _, _, _ => rfl
  | a :: l, seen, h, hn, hs => by
    rw [List.map_cons, partsGo]
    obtain ⟨c, r, e, h1, h2, h3⟩ := h a List.mem_cons_self
    rw [List.map_cons, List.nodup_cons] at hn
    have ep : partD long seen (f a) = some (nm a) := by
      rw [e]
      unfold partD
      exact if_pos ⟨h1, h2, h3, hs a List.mem_cons_self⟩
    rw [ep]
    refine parts_ok f nm l (seen ++ [nm a]) (fun b hb => h b (List.mem_cons_of_mem _ hb)) hn.2 fun b hb z => ?_
    rcases List.mem_append.mp z with z | z
    · exact hs b (List.mem_cons_of_mem _ hb) z
    · exact hn.1 (List.mem_map.mpr ⟨b, hb, List.mem_singleton.mp z⟩)
theorem route_ok {names : List Str} : ∀ (l : List Str) (seen : List Str), (∀ a ∈ l, isName a = true ∧ a ∈ names) → l.Nodup → (∀ a ∈ l, a ∉ seen) → routeGo names (l.map .str) seen = true
  | [], _, _, _, _ => rfl
  | a :: l, seen, h, hn, hs => by
    rw [List.nodup_cons] at hn
    obtain ⟨h1, h2⟩ := h a List.mem_cons_self
    rw [List.map_cons, routeGo, h1, decide_eq_true h2, decide_eq_false (hs a List.mem_cons_self)]
    refine route_ok l (seen ++ [a]) (fun b hb => h b (List.mem_cons_of_mem _ hb)) hn.2 fun b hb z => ?_
    rcases List.mem_append.mp z with z | z
    · exact hs b (List.mem_cons_of_mem _ hb) z
    · exact hn.1 (List.mem_singleton.mp z ▸ hb)
section
variable {S : List (Str × Cv)} {T : List (Str × Cv × List Str)} {m : Sto} {κ : Option Bool}
theorem NetOk.is (N : NetOk S T) : isNetD (netD S T) = true := by
  have p1 : arePartsD 2 (.tup (S.map svD)) = true := by
    have hs := N.s1
    have h6 := N.s6
    show (decide (1 ≤ (S.map svD).length) && (decide ((S.map svD).length ≤ 6) && partsGo 2 (S.map svD) [])) = true
    rw [List.length_map, decide_eq_true hs, decide_eq_true h6, Bool.true_and, Bool.true_and]
    exact parts_ok svD (·.1) S [] (fun a ha => ⟨_, _, rfl, rfl, (N.sN a ha).1, Cv.is (N.sN a ha).2⟩) N.sn fun _ _ z => by cases z
  have p2 : arePartsD 3 (.tup (T.map stD)) = true := by
    have hs := N.t1
    have h6 := N.t6
    show (decide (1 ≤ (T.map stD).length) && (decide ((T.map stD).length ≤ 6) && partsGo 3 (T.map stD) [])) = true
    rw [List.length_map, decide_eq_true hs, decide_eq_true h6, Bool.true_and, Bool.true_and]
    exact parts_ok stD (·.1) T [] (fun a ha => ⟨_, _, rfl, rfl, (N.tN a ha).1, Cv.is (N.tN a ha).2.1⟩) N.tn fun _ _ z => by cases z
  show (arePartsD 2 (.tup (S.map svD)) && (arePartsD 3 (.tup (T.map stD)) && ((T.map stD).all fun d => isRouteD ((S.map svD).map headD) (thirdD d)))) = true
  rw [p1, p2, Bool.true_and, Bool.true_and, List.all_map, List.all_eq_true]
  intro t ht
  obtain ⟨_, _, R, _⟩ := N.tN t ht
  have en : (S.map svD).map headD = S.map (·.1) := by rw [List.map_map]; rfl
  show isRouteD ((S.map svD).map headD) (.tup (t.2.2.map .str)) = true
  rw [en]
  show (decide (t.2.2.map D.str ≠ []) && routeGo (S.map (·.1)) (t.2.2.map .str) []) = true
  have hne : t.2.2.map D.str ≠ [] := fun z => R.ne (List.map_eq_nil_iff.mp z)
  rw [decide_eq_true hne, Bool.true_and]
  refine route_ok t.2.2 [] (fun a ha => ?_) R.nd fun _ _ z => by cases z
  have hm := R.mem a ha
  obtain ⟨s, hs, e⟩ := List.mem_map.mp hm
  exact ⟨e ▸ (N.sN s hs).1, hm⟩
theorem Cv.nums {c : Cv} (h : c.ok) : (∀ x ∈ c.F ++ c.A, 0 ≤ x ∧ x ≤ 1000000) := fun x hx => ⟨h.nn x hx, h.sm x hx⟩
theorem gd_ints {l : List Int} (h : ∀ x ∈ l, x.natAbs < 2 ^ 100) (hl : l.length ≤ 64) : Gd m κ 20000 2 (.tup (l.map .int)) :=
  Gd.tup (n := 64) (fun x hx => by
    obtain ⟨i, hi, rfl⟩ := List.mem_map.mp hx
    exact Gd.int (h i hi)) (by rw [List.length_map]; exact hl) (by decide) (by decide) (by decide)
theorem mem3 {P : D → Prop} {a b c : D} (ha : P a) (hb : P b) (hc : P c) : ∀ x ∈ [a, b, c], P x := by
  intro x hx
  simp only [List.mem_cons, List.not_mem_nil, or_false] at hx
  rcases hx with rfl | rfl | rfl
  · exact ha
  · exact hb
  · exact hc
theorem mem2 {P : D → Prop} {a b : D} (ha : P a) (hb : P b) : ∀ x ∈ [a, b], P x := by
  intro x hx
  simp only [List.mem_cons, List.not_mem_nil, or_false] at hx
  rcases hx with rfl | rfl
  · exact ha
  · exact hb
theorem sm100 {x : Int} (h : 0 ≤ x ∧ x ≤ 100000000) : x.natAbs < 2 ^ 100 := Nat.lt_of_le_of_lt (show x.natAbs ≤ 100000000 by omega) (by decide)
theorem Cv.gd {c : Cv} (h : c.ok) : Gd m κ 81000 3 (cvD c) := by
  have nm := Cv.nums h
  refine Gd.tup (n := 3) (k := 20000) (d := 2) (mem3 ?_ ?_ ?_) (Nat.le_refl _) (by decide) (by decide) (by decide)
  · exact gd_ints (fun x hx => sm100 (by have := nm x (List.mem_append_left _ hx); omega)) (by have := h.f1; omega)
  · exact gd_ints (fun x hx => sm100 (by have := nm x (List.mem_append_right _ hx); omega)) (by have := h.a1; omega)
  · exact (Gd.int (sm100 (by have := h.r0; have := h.r2; omega))).mono (by decide) (by decide)
theorem gd_route {zs : List Str} (h : ∀ z ∈ zs, isName z = true) (hl : zs.length ≤ 8) : Gd m κ 20000 2 (.tup (zs.map .str)) :=
  Gd.tup (n := 8) (fun x hx => by
    obtain ⟨i, hi, rfl⟩ := List.mem_map.mp hx
    exact Gd.name (h i hi)) (by rw [List.length_map]; exact hl) (by decide) (by decide) (by decide)
theorem NetOk.names (N : NetOk S T) : ∀ y ∈ S.map (·.1), isName y = true := fun y hy => by
  obtain ⟨s, hs, e⟩ := List.mem_map.mp hy
  exact e ▸ (N.sN s hs).1
theorem NetOk.gsv (N : NetOk S T) {s : Str × Cv} (h : s ∈ S) : Gd m κ 330000 4 (svD s) :=
  Gd.tup (n := 2) (k := 81000) (d := 3) (mem2 ((Gd.name (N.sN s h).1).mono (by decide) (by decide)) (Cv.gd (N.sN s h).2)) (Nat.le_refl _) (by decide) (by decide) (by decide)
theorem NetOk.rnames (N : NetOk S T) {t : Str × Cv × List Str} (h : t ∈ T) : ∀ z ∈ t.2.2, isName z = true := fun z hz => N.names z ((N.tN t h).2.2.1.mem z hz)
theorem NetOk.gst (N : NetOk S T) {t : Str × Cv × List Str} (h : t ∈ T) : Gd m κ 330000 4 (stD t) :=
  Gd.tup (n := 3) (k := 81000) (d := 3) (mem3 ((Gd.name (N.tN t h).1).mono (by decide) (by decide)) (Cv.gd (N.tN t h).2.1) ((gd_route (N.rnames h) (by have := (N.tN t h).2.2.2; omega)).mono (by decide) (by decide))) (Nat.le_refl _) (by decide) (by decide) (by decide)
theorem NetOk.gS (N : NetOk S T) : Gd m κ 2320000 5 (.tup (S.map svD)) :=
  Gd.tup (n := 6) (k := 330000) (d := 4) (fun x hx => by
    obtain ⟨s, hs, rfl⟩ := List.mem_map.mp hx
    exact N.gsv hs) (by rw [List.length_map]; exact N.s6) (by decide) (by decide) (by decide)
theorem NetOk.gT (N : NetOk S T) : Gd m κ 2320000 5 (.tup (T.map stD)) :=
  Gd.tup (n := 6) (k := 330000) (d := 4) (fun x hx => by
    obtain ⟨s, hs, rfl⟩ := List.mem_map.mp hx
    exact N.gst hs) (by rw [List.length_map]; exact N.t6) (by decide) (by decide) (by decide)
theorem NetOk.gd (N : NetOk S T) : Gd m κ 7000000 6 (netD S T) :=
  Gd.tup (n := 3) (k := 2320000) (d := 5) (mem2 N.gS N.gT) (by show 2 ≤ 3; decide) (by decide) (by decide) (by decide)
end
end Nz

/-! Texts of curves and nets: what the program's functions compute, exactly; promises. -/
namespace Tt
open PySem PySem.Spec PyProof.Rows L2 Dl Nt Nz TL
open Pl (IsInts)
/-- the text of a number -/
def numT (i : Int) : Str := Str.ofString (toString i)
def showN (ns : List Int) : Str := Txt.join " " (ns.map numT)
def aheadT (F : List Int) : Str := if F = [] then "-" else showN F
def showC (c : Cv) : Str := aheadT c.F ++ " / " ++ showN c.A ++ " / " ++ numT c.r
def serverT (s : Str × Cv) : Str := "server " ++ s.1 ++ " " ++ showC s.2
def streamT (t : Str × Cv × List Str) : Str := Txt.join " " ([("stream" : Str), t.1, "via"] ++ t.2.2 ++ [(":" : Str), showC t.2.1])
def showNet (S : List (Str × Cv)) (T : List (Str × Cv × List Str)) : Str := Txt.join "\n" (S.map serverT ++ T.map streamT)
def isFig (c : Nat) : Bool := decide (48 ≤ c) && decide (c ≤ 57)
def numOk (w : Str) : Bool := decide (1 ≤ w.length) && (decide (w.length ≤ 30) && ((tl w).all isFig && !(decide ((tl w)[0]? = some 48) && decide (1 < w.length))))
def numV (w : Str) : Int := ((NumText.digitsVal (tl w) : Nat) : Int)
def numIn (w : Str) : Option Int := if numOk w = true then some (numV w) else none
def numsIn (t : Str) : Option (List Int) := if (Txt.split t " ").all numOk = true then some ((Txt.split t " ").map numV) else none
def keepsB (c : Cv) : Bool := decide (c.F.length ≤ 24) && (decide (c.A.length ≤ 12) && (c.F ++ c.A ++ [c.r]).all fun x => decide (x ≤ 1000000))
def okC (c : Cv) : Bool := isCurveD (cvD c) && keepsB c
def firstIn (a : Str) : Option (List Int) := if a = "-" then some [] else numsIn a
def curveIn (t : Str) : Option Cv := match Txt.split t " / " with
  | [a, b, c] => match firstIn a, numsIn b, numIn c with
    | some F, some A, some r => if okC ⟨F, A, r⟩ = true then some ⟨F, A, r⟩ else none
    | _, _, _ => none
  | _ => none
def serverIn (ws : List Str) (S : List (Str × Cv)) : Option (Str × Cv) :=
  if 3 ≤ ws.length ∧ isName (ws.getD 1 "") = true ∧ ws.getD 1 "" ∉ S.map (·.1) then (curveIn (Txt.join " " (ws.drop 2))).map fun c => (ws.getD 1 "", c) else none
def streamIn (ws : List Str) (S : List (Str × Cv)) (T : List (Str × Cv × List Str)) : Option (Str × Cv × List Str) :=
  if 3 ≤ ws.length ∧ ws.getD 2 "" = "via" ∧ (":" : Str) ∈ ws then
    if isName (ws.getD 1 "") = true ∧ ws.getD 1 "" ∉ T.map (·.1) then
      match curveIn (Txt.join " " (ws.drop (ws.idxOf (":" : Str) + 1))) with
      | some c => if isRouteD (S.map (·.1)) (.tup (((ws.take (ws.idxOf (":" : Str))).drop 3).map .str)) = true then some (ws.getD 1 "", c, (ws.take (ws.idxOf (":" : Str))).drop 3) else none
      | none => none
    else none
  else none
inductive Prt where
  | sv (s : Str × Cv)
  | st (t : Str × Cv × List Str)
def prtD : Prt → D
  | .sv s => svD s
  | .st t => stD t
def partIn (line : Str) (S : List (Str × Cv)) (T : List (Str × Cv × List Str)) : Option Prt :=
  if (Txt.split line " ").getD 0 "" = "server" ∧ T = [] ∧ S.length < 6 then (serverIn (Txt.split line " ") S).map .sv
  else if (Txt.split line " ").getD 0 "" = "stream" ∧ S ≠ [] ∧ T.length < 6 then (streamIn (Txt.split line " ") S T).map .st
  else none
/-- lines read behind some; none: refused -/
def linesIn : List Str → List (Str × Cv) → List (Str × Cv × List Str) → Option (List (Str × Cv) × List (Str × Cv × List Str))
  | [], S, T => if T = [] then none else some (S, T)
  | l :: ls, S, T => match partIn l S T with
    | some (.sv s) => linesIn ls (S ++ [s]) T
    | some (.st t) => linesIn ls S (T ++ [t])
    | none => none
def readNet (t : Str) : Option (List (Str × Cv) × List (Str × Cv × List Str)) := linesIn (Txt.split t "\n") [] []
/-- a text as it may come -/
structure TxOk (x : Str) : Prop where
  ln : x.length ≤ 200000
  ch : ∀ c ∈ tl x, c < 1000
def optD {α : Type} (f : α → D) : Option α → D
  | some v => f v
  | none => .non
def tupI (ns : List Int) : D := .tup (ns.map .int)
/-- few numbers, small ones -/
def NumsOk (ns : List Int) : Prop := ns.length ≤ 2000 ∧ ∀ x ∈ ns, 0 ≤ x ∧ x < 10 ^ 30
def CvOk (c : Cv) : Prop := NumsOk c.F ∧ NumsOk c.A ∧ 0 ≤ c.r ∧ c.r < 10 ^ 30
def sp_show_numbers : DSp := fun ds m R _ => match ds with
  | [d] => ∃ ns, d = tupI ns ∧ NumsOk ns ∧ R (.str (showN ns)) m
  | _ => False
def sp_show_curve : DSp := fun ds m R _ => match ds with
  | [d] => ∃ c, d = cvD c ∧ CvOk c ∧ R (.str (showC c)) m
  | _ => False
def sp_number_in : DSp := fun ds m R _ => match ds with
  | [.str w] => TxOk w ∧ R (optD .int (numIn w)) m
  | _ => False
def sp_numbers_in : DSp := fun ds m R _ => match ds with
  | [.str w] => TxOk w ∧ R (optD tupI (numsIn w)) m
  | _ => False
def sp_keeps_bounds : DSp := fun ds m R _ => match ds with
  | [d] => ∃ c, d = cvD c ∧ c.F.length ≤ 300000 ∧ c.A.length ≤ 300000 ∧ R (.bl (keepsB c)) m
  | _ => False
def sp_curve_in : DSp := fun ds m R _ => match ds with
  | [.str w] => TxOk w ∧ R (optD cvD (curveIn w)) m
  | _ => False
/-- d is the list of these, or it lies there -/
def LstAt {α : Type} (m : Sto) (d : D) (f : α → D) (l : List α) : Prop := LstIs m d (l.map f)
/-- parts read so far -/
def SOk (S : List (Str × Cv)) : Prop := S.length ≤ 6 ∧ ∀ s ∈ S, isName s.1 = true
def TOk (T : List (Str × Cv × List Str)) : Prop := T.length ≤ 6 ∧ ∀ t ∈ T, isName t.1 = true ∧ ∀ z ∈ t.2.2, isName z = true
/-- words of a line -/
def WsOk (ws : List Str) : Prop := ws.length ≤ 200001 ∧ (∀ w ∈ ws, TxOk w) ∧ (ws.map (·.length)).sum + ws.length ≤ 200001
def sp_server_in : DSp := fun ds m R _ => match ds with
  | [.lst w, d] => ∃ ws S, w = ws.map .str ∧ WsOk ws ∧ LstAt m d svD S ∧ SOk S ∧ R (optD svD (serverIn ws S)) m
  | _ => False
def sp_stream_in : DSp := fun ds m R _ => match ds with
  | [.lst w, d, e] => ∃ ws S T, w = ws.map .str ∧ WsOk ws ∧ LstAt m d svD S ∧ SOk S ∧ LstAt m e stD T ∧ TOk T ∧ R (optD stD (streamIn ws S T)) m
  | _ => False
def sp_part_in : DSp := fun ds m R _ => match ds with
  | [.str l, d, e] => ∃ S T, TxOk l ∧ LstAt m d svD S ∧ SOk S ∧ LstAt m e stD T ∧ TOk T ∧ R (optD prtD (partIn l S T)) m
  | _ => False
def sp_show_net : DSp := fun ds m R _ => match ds with
  | [d] => ∃ S T, d = netD S T ∧ S.length ≤ 6 ∧ T.length ≤ 6 ∧ (∀ s ∈ S, isName s.1 = true ∧ CvOk s.2) ∧ (∀ t ∈ T, isName t.1 = true ∧ CvOk t.2.1 ∧ t.2.2.length ≤ 6 ∧ ∀ z ∈ t.2.2, isName z = true) ∧ R (.str (showNet S T)) m
  | _ => False
end Tt

/-! A law's own texts and curves: promises. -/
namespace Tt
open PySem PySem.Spec PyProof.Rows L2 Dl Nt Nz
/-- a curve that may be handed in -/
structure CvIn (c : Cv) : Prop where
  is : isCurveD (cvD c) = true
  kb : keepsB c = true
structure NetIn (S : List (Str × Cv)) (T : List (Str × Cv × List Str)) : Prop where
  s1 : 1 ≤ S.length
  s6 : S.length ≤ 6
  t1 : 1 ≤ T.length
  t6 : T.length ≤ 6
  sn : (S.map (·.1)).Nodup
  tn : (T.map (·.1)).Nodup
  sN : ∀ s ∈ S, isName s.1 = true ∧ CvIn s.2
  tN : ∀ t ∈ T, isName t.1 = true ∧ CvIn t.2.1 ∧ Route (S.map (·.1)) t.2.2 ∧ t.2.2.length ≤ 6
def sp_law_any_curve : DSp := fun ds m R _ => match ds with
  | [.ptr p] => ∃ b X, m p = some X ∧ PenD b X ∧ b ≤ 2 ^ 29 ∧ ∀ c X', CvIn c → PenD (b + 80) X' → R (cvD c) (up m p X')
  | _ => False
def sp_law_numbers_text : DSp := fun ds m R _ => match ds with
  | [d] => ∃ ns, d = tupI ns ∧ NumsOk ns ∧ R (.str (showN ns)) m
  | _ => False
def sp_law_curve_text : DSp := fun ds m R _ => match ds with
  | [d] => ∃ c, d = cvD c ∧ CvOk c ∧ R (.str (showC c)) m
  | _ => False
def sp_law_net_text : DSp := fun ds m R _ => match ds with
  | [d] => ∃ S T, d = netD S T ∧ NetIn S T ∧ R (.str (showNet S T)) m
  | _ => False
end Tt

namespace K58
open PySem PySem.Spec PyProof.Rows L2 Dl Nt Nz Tt
def sp_law_net : DSp := fun ds m R _ => match ds with
  | [.ptr p] => ∃ b X, m p = some X ∧ PenD b X ∧ b ≤ 2 ^ 28 ∧ ∀ S T X', NetIn S T → PenD (b + 2000) X' → R (netD S T) (up m p X')
  | _ => False
def sp_read_curve : DSp := fun ds m R _ => match ds with
  | [.str t] => TxOk t ∧ ∃ c, curveIn t = some c ∧ R (cvD c) m
  | _ => False
def sp_read_net : DSp := fun ds m R _ => match ds with
  | [.str t] => TxOk t ∧ ∃ S T, readNet t = some (S, T) ∧ R (netD S T) m
  | _ => False
end K58

namespace Pl
open PySem PySem.Spec PyProof.Rows L2 Dl Pg Nz
def r_up_in : DS :=
(dRet (dOp (mulD false) (dOp ixD (dVar 0) (dC (.int 2))) (dOp divD (dVar 1) (dCB lenD (dCons (dOp ixD (dVar 0) (dC (.int 1))) dNil)))))
def r_common_measure_l1 : DS :=
(dPar 0 1 (dCons (dVar 1) (dCons (dOp modD (dVar 0) (dVar 1)) dNil)))
def r_common_measure : DS :=
(dSeq (dWhile (dB (dOp gtD (dVar 1) (dC (.int 0))))
(r_common_measure_l1))
(dRet (dVar 0)))
def r_goes_on_by : DS :=
(dSeq (dSet 3 (dCB lenD (dCons (dVar 0) dNil)))
(dSeq (dIf (dB (dOp neD (dOp modD (dOp (mulD false) (dVar 1) (dVar 2)) (dVar 3)) (dC (.int 0))))
(dRet (dC (.bl false)))
dNext)
(dSeq (dSet 4 (dOp divD (dOp (mulD false) (dVar 1) (dVar 2)) (dVar 3)))
(dRet (dCB allD (dCons (dLc false [5] false (rngI2 (dVar 2) (dVar 3)) dYes (dOp eqD (dOp ixD (dVar 0) (dVar 5)) (dOp (addD false) (dOp ixD (dVar 0) (dOp subD (dVar 5) (dVar 2))) (dVar 4)))) dNil))))))
def r_shortest_round_l1 : DS :=
(dIf (dAnd (dB (dOp eqD (dOp modD (dVar 2) (dVar 3)) (dC (.int 0)))) (dB (dCall sp_goes_on_by (dCons (dVar 0) (dCons (dVar 1) (dCons (dVar 3) dNil))))))
(dRet (dTup (dCons (dSl false (dVar 0) dNoPart (dPart (dVar 3))) (dCons (dOp divD (dOp (mulD false) (dVar 1) (dVar 3)) (dVar 2)) dNil))))
dNext)
def r_shortest_round : DS :=
(dSeq (dSet 2 (dCB lenD (dCons (dVar 0) dNil)))
(dSeq (dFor (rngI2 (dC (.int 1)) (dVar 2)) (nameG 3)
(r_shortest_round_l1))
(dRet (dTup (dCons (dVar 0) (dCons (dVar 1) dNil))))))
def r_reduced_l1 : DS :=
(dSeq (dSet 3 (dOp subD (dVar 3) (dC (.int 1))))
(dSet 4 (dOp (addD false) (dVar 4) (dC (.int 1)))))
def r_reduced_5 : DS :=
(dSeq (dSet 6 (dLc false [7] false (rngI1 (dVar 5)) dYes (dOp (addD false) (dOp ixD (dVar 1) (dOp modD (dOp subD (dVar 7) (dVar 4)) (dVar 5))) (dOp (mulD false) (dVar 2) (dOp divD (dOp subD (dVar 7) (dVar 4)) (dVar 5))))))
(dRet (dTup (dCons (dCB tupleD (dCons (dSl false (dVar 0) dNoPart (dPart (dVar 3))) dNil)) (dCons (dCB tupleD (dCons (dVar 6) dNil)) (dCons (dVar 2) dNil))))))
def r_reduced : DS :=
(dSeq (dAsg (tupG 2 (consG (nameG 1) (consG (nameG 2) nilG))) (dCall sp_shortest_round (dCons (dVar 1) (dCons (dVar 2) dNil))))
(dSeq (dSet 3 (dCB lenD (dCons (dVar 0) dNil)))
(dSeq (dSet 4 (dC (.int 0)))
(dSeq (dSet 5 (dCB lenD (dCons (dVar 1) dNil)))
(dSeq (dWhile (dAnd (dB (dOp gtD (dVar 3) (dC (.int 0)))) (dB (dOp eqD (dOp (addD false) (dOp ixD (dVar 0) (dOp subD (dVar 3) (dC (.int 1)))) (dVar 2)) (dOp subD (dOp ixD (dVar 1) (dOp modD (dOp subD (dOp subD (dVar 5) (dC (.int 1))) (dVar 4)) (dVar 5))) (dOp (mulD false) (dVar 2) (dOp divD (dVar 4) (dVar 5)))))))
(r_reduced_l1))
(r_reduced_5))))))
def r_told (c_TooLong : Addr) : DS :=
(dSeq (dSet 4 (dCall sp_reduced (dCons (dCB tupleD (dCons (dSl false (dVar 0) dNoPart (dPart (dVar 1))) dNil)) (dCons (dCB tupleD (dCons (dSl false (dVar 0) (dPart (dVar 1)) (dPart (dOp (addD false) (dVar 1) (dVar 2)))) dNil)) (dCons (dVar 3) dNil)))))
(dSeq (dIf (dB (dOp gtD (dOp (addD false) (dCB lenD (dCons (dOp ixD (dVar 4) (dC (.int 0))) dNil)) (dCB lenD (dCons (dOp ixD (dVar 4) (dC (.int 1))) dNil))) (dC (.int 600))))
(dRaise c_TooLong)
dNext)
(dRet (dVar 4))))
def r_plain (c_TooLong : Addr) : DS :=
(dRet (dCallX (sp_told c_TooLong) (dCons (dOp (addD false) (dOp ixD (dVar 0) (dC (.int 0))) (dOp ixD (dVar 0) (dC (.int 1)))) (dCons (dCB lenD (dCons (dOp ixD (dVar 0) (dC (.int 0))) dNil)) (dCons (dCB lenD (dCons (dOp ixD (dVar 0) (dC (.int 1))) dNil)) (dCons (dOp ixD (dVar 0) (dC (.int 2))) dNil))))))
def r_common_round (c_TooLong : Addr) : DS :=
(dSeq (dSet 2 (dCB lenD (dCons (dOp ixD (dCallX (sp_plain c_TooLong) (dCons (dVar 0) dNil)) (dC (.int 1))) dNil)))
(dSeq (dSet 3 (dCB lenD (dCons (dOp ixD (dCallX (sp_plain c_TooLong) (dCons (dVar 1) dNil)) (dC (.int 1))) dNil)))
(dSeq (dSet 4 (dOp divD (dOp (mulD false) (dVar 2) (dVar 3)) (dCall sp_common_measure (dCons (dVar 2) (dCons (dVar 3) dNil)))))
(dSeq (dIf (dB (dOp gtD (dVar 4) (dC (.int 600))))
(dRaise c_TooLong)
dNext)
(dRet (dVar 4))))))
def r_both_firsts (c_TooLong : Addr) : DS :=
(dRet (dCB maxD (dCons (dCB lenD (dCons (dOp ixD (dCallX (sp_plain c_TooLong) (dCons (dVar 0) dNil)) (dC (.int 0))) dNil)) (dCons (dCB lenD (dCons (dOp ixD (dCallX (sp_plain c_TooLong) (dCons (dVar 1) dNil)) (dC (.int 0))) dNil)) dNil))))
def r_plus_3 (c_TooLong : Addr) : DS :=
(dRet (dCallX (sp_told c_TooLong) (dCons (dVar 4) (dCons (dVar 3) (dCons (dVar 2) (dCons (dOp (addD false) (dCall sp_up_in (dCons (dCallX (sp_plain c_TooLong) (dCons (dVar 0) dNil)) (dCons (dVar 2) dNil))) (dCall sp_up_in (dCons (dCallX (sp_plain c_TooLong) (dCons (dVar 1) dNil)) (dCons (dVar 2) dNil)))) dNil))))))
def r_plus_2 (c_TooLong : Addr) : DS :=
(dSeq (dSet 4 (dLc false [5] false (rngI1 (dOp (addD false) (dVar 3) (dVar 2))) dYes (dOp (addD false) (dCall sp_value (dCons (dVar 0) (dCons (dVar 5) dNil))) (dCall sp_value (dCons (dVar 1) (dCons (dVar 5) dNil))))))
(r_plus_3 c_TooLong))
def r_plus_1 (c_TooLong : Addr) : DS :=
(dSeq (dSet 3 (dCallX (sp_both_firsts c_TooLong) (dCons (dVar 0) (dCons (dVar 1) dNil))))
(r_plus_2 c_TooLong))
def r_plus (c_TooLong : Addr) : DS :=
(dSeq (dSet 2 (dCallX (sp_common_round c_TooLong) (dCons (dVar 0) (dCons (dVar 1) dNil))))
(r_plus_1 c_TooLong))
end Pl

namespace Tt
open PySem PySem.Spec PyProof.Rows L2 Dl Nt Nz
def r_show_numbers : DS :=
(dRet (dJoin (dC (.str " ")) (dLc false [1] false (seqI (dVar 0)) dYes (dCB strD (dCons (dVar 1) dNil)))))
def r_show_curve_3 : DS :=
(dRet (dJoined [(dFmt (dVar 4)), (dC (.str " / ")), (dFmt (dCall sp_show_numbers (dCons (dVar 2) dNil))), (dC (.str " / ")), (dFmt (dVar 3))]))
def r_show_curve : DS :=
(dSeq (dAsg (tupG 3 (consG (nameG 1) (consG (nameG 2) (consG (nameG 3) nilG)))) (dVar 0))
(dSeq (dSet 4 (dC (.str "-")))
(dSeq (dIf (dB (dOp gtD (dCB lenD (dCons (dVar 1) dNil)) (dC (.int 0))))
(dSet 4 (dCall sp_show_numbers (dCons (dVar 1) dNil)))
dNext)
(r_show_curve_3))))
def r_number_in_2 : DS :=
(dRet (dCB intSD (dCons (dVar 0) dNil)))
def r_number_in_1 : DS :=
(dSeq (dIf (dAnd (dB (dOp eqD (dOp ixD (dVar 0) (dC (.int 0))) (dC (.str "0")))) (dB (dOp gtD (dCB lenD (dCons (dVar 0) dNil)) (dC (.int 1)))))
(dRet (dC .non))
dNext)
(r_number_in_2))
def r_number_in : DS :=
(dSeq (dIf (dOr (dNot (dB (dChain leD leD (dC (.int 1)) (dCB lenD (dCons (dVar 0) dNil)) (dC (.int 30))))) (dNot (dB (dCB allD (dCons (dLc false [1] false (strI (dVar 0)) dYes (dOp (inD false) (dVar 1) (dC (.str "0123456789")))) dNil)))))
(dRet (dC .non))
dNext)
(r_number_in_1))
def r_numbers_in_1 : DS :=
(dSeq (dIf (dB (dOp (inD false) (dC .non) (dVar 1)))
(dRet (dC .non))
dNext)
(dRet (dCB tupleD (dCons (dVar 1) dNil))))
def r_numbers_in : DS :=
(dSeq (dSet 1 (dLc false [2] false (seqI (dSplit false (dVar 0) (dC (.str " ")))) dYes (dCall sp_number_in (dCons (dVar 2) dNil))))
(r_numbers_in_1))
def r_keeps_bounds : DS :=
(dSeq (dAsg (tupG 3 (consG (nameG 1) (consG (nameG 2) (consG (nameG 3) nilG)))) (dVar 0))
(dSeq (dIf (dOr (dB (dOp gtD (dCB lenD (dCons (dVar 1) dNil)) (dC (.int 24)))) (dB (dOp gtD (dCB lenD (dCons (dVar 2) dNil)) (dC (.int 12)))))
(dRet (dC (.bl false)))
dNext)
(dRet (dCB allD (dCons (dLc false [4] false (seqI (dOp (addD false) (dOp (addD false) (dVar 1) (dVar 2)) (dTup (dCons (dVar 3) dNil)))) dYes (dOp leD (dVar 4) (dC (.int 1000000)))) dNil)))))
def r_curve_in_8 : DS :=
(dSeq (dIf (dOr (dNot (dB (dCall sp_is_curve (dCons (dVar 5) dNil)))) (dNot (dB (dCall sp_keeps_bounds (dCons (dVar 5) dNil)))))
(dRet (dC .non))
dNext)
(dRet (dVar 5)))
def r_curve_in_7 : DS :=
(dSeq (dSet 5 (dTup (dCons (dVar 2) (dCons (dVar 3) (dCons (dVar 4) dNil)))))
(r_curve_in_8))
def r_curve_in_4 : DS :=
(dSeq (dSet 3 (dCall sp_numbers_in (dCons (dOp ixD (dVar 1) (dC (.int 1))) dNil)))
(dSeq (dSet 4 (dCall sp_number_in (dCons (dOp ixD (dVar 1) (dC (.int 2))) dNil)))
(dSeq (dIf (dOr (dB (dOp isD (dVar 2) (dC .non))) (dOr (dB (dOp isD (dVar 3) (dC .non))) (dB (dOp isD (dVar 4) (dC .non)))))
(dRet (dC .non))
dNext)
(r_curve_in_7))))
def r_curve_in : DS :=
(dSeq (dSet 1 (dSplit false (dVar 0) (dC (.str " / "))))
(dSeq (dIf (dB (dOp neD (dCB lenD (dCons (dVar 1) dNil)) (dC (.int 3))))
(dRet (dC .non))
dNext)
(dSeq (dSet 2 (dTup dNil))
(dSeq (dIf (dB (dOp neD (dOp ixD (dVar 1) (dC (.int 0))) (dC (.str "-"))))
(dSet 2 (dCall sp_numbers_in (dCons (dOp ixD (dVar 1) (dC (.int 0))) dNil)))
dNext)
(r_curve_in_4)))))
def r_show_net_l1 : DS :=
(dExpr (dLM appM (dVar 1) (dCons (dJoin (dC (.str " ")) (dOp (addD false) (dOp (addD false) (dLst false (dCons (dC (.str "stream")) (dCons (dVar 2) (dCons (dC (.str "via")) dNil)))) (dCB (listD false) (dCons (dVar 4) dNil))) (dLst false (dCons (dC (.str ":")) (dCons (dCall sp_show_curve (dCons (dVar 3) dNil)) dNil))))) dNil)))
def r_show_net_2 : DS :=
(dFrz 1 (dRet (dJoin (dC (.str "\n")) (dVar 1))))
def r_show_net_1 : DS :=
(dSeq (dFor (seqI (dOp ixD (dVar 0) (dC (.int 1)))) (tupG 3 (consG (nameG 2) (consG (nameG 3) (consG (nameG 4) nilG))))
(r_show_net_l1))
(r_show_net_2))
def r_show_net : DS :=
(dSeq (dSet 1 (dLc true [2, 3] true (seqI (dOp ixD (dVar 0) (dC (.int 0)))) dYes (dJoined [(dC (.str "server ")), (dFmt (dVar 2)), (dC (.str " ")), (dFmt (dCall sp_show_curve (dCons (dVar 3) dNil)))])))
(r_show_net_1))
def r_server_in_1 : DS :=
(dSeq (dSet 3 (dCall sp_curve_in (dCons (dJoin (dC (.str " ")) (dSl false (dVar 0) (dPart (dC (.int 2))) dNoPart)) dNil)))
(dSeq (dIf (dB (dOp isD (dVar 3) (dC .non)))
(dRet (dC .non))
dNext)
(dRet (dTup (dCons (dOp ixD (dVar 0) (dC (.int 1))) (dCons (dVar 3) dNil))))))
def r_server_in : DS :=
(dSeq (dIf (dOr (dB (dOp ltD (dCB lenD (dCons (dVar 0) dNil)) (dC (.int 3)))) (dOr (dNot (dB (dCall sp_is_name (dCons (dOp ixD (dVar 0) (dC (.int 1))) dNil)))) (dB (dOp (inD false) (dOp ixD (dVar 0) (dC (.int 1))) (dLc false [2, 3] true (seqI (dVar 1)) dYes (dVar 2))))))
(dRet (dC .non))
dNext)
(r_server_in_1))
def r_stream_in_4 : DS :=
(dSeq (dSet 6 (dCall sp_curve_in (dCons (dJoin (dC (.str " ")) (dSl false (dVar 0) (dPart (dOp (addD false) (dVar 3) (dC (.int 1)))) dNoPart)) dNil)))
(dSeq (dIf (dOr (dB (dOp isD (dVar 6) (dC .non))) (dNot (dB (dCall sp_is_route (dCons (dLc false [7, 6] true (seqI (dVar 1)) dYes (dVar 7)) (dCons (dVar 4) dNil))))))
(dRet (dC .non))
dNext)
(dRet (dTup (dCons (dOp ixD (dVar 0) (dC (.int 1))) (dCons (dVar 6) (dCons (dVar 4) dNil)))))))
def r_stream_in_3 : DS :=
(dSeq (dIf (dOr (dNot (dB (dCall sp_is_name (dCons (dOp ixD (dVar 0) (dC (.int 1))) dNil)))) (dB (dOp (inD false) (dOp ixD (dVar 0) (dC (.int 1))) (dLc false [5] false (seqI (dVar 2)) dYes (dOp ixD (dVar 5) (dC (.int 0)))))))
(dRet (dC .non))
dNext)
(r_stream_in_4))
def r_stream_in_2 : DS :=
(dSeq (dSet 4 (dCB tupleD (dCons (dSl false (dVar 0) (dPart (dC (.int 3))) (dPart (dVar 3))) dNil)))
(r_stream_in_3))
def r_stream_in_1 : DS :=
(dSeq (dSet 3 (dLF indexF (dVar 0) (dCons (dC (.str ":")) dNil)))
(r_stream_in_2))
def r_stream_in : DS :=
(dSeq (dIf (dOr (dB (dOp ltD (dCB lenD (dCons (dVar 0) dNil)) (dC (.int 3)))) (dOr (dB (dOp neD (dOp ixD (dVar 0) (dC (.int 2))) (dC (.str "via")))) (dB (dOp (inD true) (dC (.str ":")) (dVar 0)))))
(dRet (dC .non))
dNext)
(r_stream_in_1))
def r_part_in_2 : DS :=
(dSeq (dIf (dAnd (dB (dOp eqD (dOp ixD (dVar 3) (dC (.int 0))) (dC (.str "stream")))) (dAnd (dB (dOp neD (dVar 1) (dLst false dNil))) (dB (dOp ltD (dCB lenD (dCons (dVar 2) dNil)) (dC (.int 6))))))
(dRet (dCall sp_stream_in (dCons (dVar 3) (dCons (dVar 1) (dCons (dVar 2) dNil)))))
dNext)
(dRet (dC .non)))
def r_part_in_1 : DS :=
(dSeq (dIf (dAnd (dB (dOp eqD (dOp ixD (dVar 3) (dC (.int 0))) (dC (.str "server")))) (dAnd (dB (dOp eqD (dVar 2) (dLst false dNil))) (dB (dOp ltD (dCB lenD (dCons (dVar 1) dNil)) (dC (.int 6))))))
(dRet (dCall sp_server_in (dCons (dVar 3) (dCons (dVar 1) dNil))))
dNext)
(r_part_in_2))
def r_part_in : DS :=
(dSeq (dSet 3 (dSplit false (dVar 0) (dC (.str " "))))
(r_part_in_1))
end Tt

namespace Tt
open PySem PySem.Spec PyProof.Rows L2 Dl Nt Nz
def r_law_any_curve_l1 : DS :=
(dExpr (dLM appM (dVar 4) (dCons (dOp (addD false) (dOp ixD (dVar 4) (dNeg (dC (.int 1)))) (dCall sp_law_draw (dCons (dVar 0) (dCons (dVar 3) dNil)))) dNil)))
def r_law_any_curve_6 : DS :=
(dSeq (dSet 6 (dOp subD (dOp ixD (dVar 4) (dNeg (dC (.int 1)))) (dOp ixD (dVar 4) (dVar 1))))
(dSeq (dSet 7 (dCB minD (dCons (dC (.int 1000000)) (dCons (dOp (addD false) (dVar 6) (dOp ixD (dLst false (dCons (dC (.int 0)) (dCons (dCall sp_law_draw (dCons (dVar 0) (dCons (dC (.int 9)) dNil))) (dCons (dCall sp_law_draw (dCons (dVar 0) (dCons (dOp powD (dC (.int 10)) (dC (.int 6))) dNil))) dNil)))) (dCall sp_law_draw (dCons (dVar 0) (dCons (dC (.int 3)) dNil))))) dNil))))
(dFrz 4 (dRet (dTup (dCons (dCB tupleD (dCons (dSl false (dVar 4) dNoPart (dPart (dVar 1))) dNil)) (dCons (dCB tupleD (dCons (dSl false (dVar 4) (dPart (dVar 1)) dNoPart) dNil)) (dCons (dVar 7) dNil))))))))
def r_law_any_curve_5 : DS :=
(dSeq (dIf (dAnd (dB (dOp eqD (dCall sp_law_draw (dCons (dVar 0) (dCons (dC (.int 8)) dNil))) (dC (.int 7)))) (dB (dOp gtD (dCB lenD (dCons (dVar 4) dNil)) (dC (.int 1)))))
(dAsg (subG (dVar 4) (dNeg (dC (.int 1)))) (dC (.int 1000000)))
dNext)
(r_law_any_curve_6))
def r_law_any_curve_4 : DS :=
(dSeq (dFor (rngI1 (dOp subD (dOp (addD false) (dVar 1) (dVar 2)) (dC (.int 1)))) (nameG 5)
(r_law_any_curve_l1))
(r_law_any_curve_5))
def r_law_any_curve_3 : DS :=
(dSeq (dSet 4 (dLst true (dCons (dC (.int 0)) dNil)))
(r_law_any_curve_4))
def r_law_any_curve : DS :=
(dSeq (dSet 1 (dOp ixD (dLst false (dCons (dCall sp_law_draw (dCons (dVar 0) (dCons (dC (.int 5)) dNil))) (dCons (dCall sp_law_draw (dCons (dVar 0) (dCons (dC (.int 25)) dNil))) (dCons (dC (.int 24)) (dCons (dC (.int 0)) dNil))))) (dCall sp_law_draw (dCons (dVar 0) (dCons (dC (.int 4)) dNil)))))
(dSeq (dSet 2 (dOp ixD (dLst false (dCons (dOp (addD false) (dC (.int 1)) (dCall sp_law_draw (dCons (dVar 0) (dCons (dC (.int 4)) dNil)))) (dCons (dC (.int 12)) (dCons (dOp (addD false) (dC (.int 1)) (dCall sp_law_draw (dCons (dVar 0) (dCons (dC (.int 12)) dNil)))) dNil)))) (dCall sp_law_draw (dCons (dVar 0) (dCons (dC (.int 3)) dNil)))))
(dSeq (dSet 3 (dOp ixD (dLst false (dCons (dC (.int 3)) (dCons (dC (.int 40)) (dCons (dC (.int 27000)) dNil)))) (dCall sp_law_draw (dCons (dVar 0) (dCons (dC (.int 3)) dNil)))))
(r_law_any_curve_3))))
def r_law_numbers_text : DS :=
(dRet (dJoin (dC (.str " ")) (dLc false [1] false (seqI (dVar 0)) dYes (dCB strD (dCons (dVar 1) dNil)))))
def r_law_curve_text : DS :=
(dSeq (dAsg (tupG 3 (consG (nameG 1) (consG (nameG 2) (consG (nameG 3) nilG)))) (dVar 0))
(dRet (dOp (addD false) (dOp (addD false) (dOp (addD false) (dOp (addD false) (dOp ixD (dLst false (dCons (dCall sp_law_numbers_text (dCons (dVar 1) dNil)) (dCons (dC (.str "-")) dNil))) (dCB intD (dCons (dOp eqD (dVar 1) (dTup dNil)) dNil))) (dC (.str " / "))) (dCall sp_law_numbers_text (dCons (dVar 2) dNil))) (dC (.str " / "))) (dCB strD (dCons (dVar 3) dNil)))))
def r_law_net_text_l1 : DS :=
(dExpr (dLM appM (dVar 1) (dCons (dOp (addD false) (dOp (addD false) (dOp (addD false) (dOp (addD false) (dOp (addD false) (dC (.str "stream ")) (dVar 2)) (dC (.str " via "))) (dJoin (dC (.str " ")) (dVar 4))) (dC (.str " : "))) (dCall sp_law_curve_text (dCons (dVar 3) dNil))) dNil)))
def r_law_net_text_2 : DS :=
(dFrz 1 (dRet (dJoin (dC (.str "\n")) (dVar 1))))
def r_law_net_text_1 : DS :=
(dSeq (dFor (seqI (dOp ixD (dVar 0) (dC (.int 1)))) (tupG 3 (consG (nameG 2) (consG (nameG 3) (consG (nameG 4) nilG))))
(r_law_net_text_l1))
(r_law_net_text_2))
def r_law_net_text : DS :=
(dSeq (dSet 1 (dLc true [2, 3] true (seqI (dOp ixD (dVar 0) (dC (.int 0)))) dYes (dOp (addD false) (dOp (addD false) (dOp (addD false) (dC (.str "server ")) (dVar 2)) (dC (.str " "))) (dCall sp_law_curve_text (dCons (dVar 3) dNil)))))
(r_law_net_text_1))
end Tt

namespace K58
open PySem PySem.Spec PyProof.Rows L2 Dl Nt Nz Pl Tt
open Pg (sp_value r_value v_value)
def r_read_curve : DS :=
(dSeq (dIf (dNot (dB (dIsi .str (dVar 0))))
dNever
dNext)
(dSeq (dSet 1 (dCall sp_curve_in (dCons (dVar 0) dNil)))
(dSeq (dIf (dB (dOp isD (dVar 1) (dC .non)))
dNever
dNext)
(dRet (dVar 1)))))
def r_read_net_l1 : DS :=
(dSeq (dSet 6 (dCall sp_part_in (dCons (dVar 5) (dCons (dVar 1) (dCons (dVar 2) dNil)))))
(dSeq (dIf (dB (dOp isD (dVar 6) (dC .non)))
dNever
dNext)
(dIf (dB (dOp eqD (dCB lenD (dCons (dVar 6) dNil)) (dC (.int 2))))
(dExpr (dLM appM (dVar 1) (dCons (dVar 6) dNil)))
(dExpr (dLM appM (dVar 2) (dCons (dVar 6) dNil))))))
def r_read_net_6 : DS :=
(dFrz 1 (dFrz 2 (dRet (dTup (dCons (dCB tupleD (dCons (dVar 1) dNil)) (dCons (dCB tupleD (dCons (dVar 2) dNil)) dNil))))))
def r_read_net_5 : DS :=
(dSeq (dIf (dB (dOp eqD (dVar 2) (dLst false dNil)))
dNever
dNext)
(r_read_net_6))
def r_read_net_4 : DS :=
(dSeq (dFor (enumerateI (dCons (dVar 3) dNil)) (tupG 2 (consG (nameG 4) (consG (nameG 5) nilG)))
(r_read_net_l1))
(r_read_net_5))
def r_read_net_3 : DS :=
(dSeq (dSet 3 (dSplit false (dVar 0) (dC (.str "\n"))))
(r_read_net_4))
def r_read_net_2 : DS :=
(dSeq (dSet 2 (dLst true dNil))
(r_read_net_3))
def r_read_net_1 : DS :=
(dSeq (dSet 1 (dLst true dNil))
(r_read_net_2))
def r_read_net : DS :=
(dSeq (dIf (dNot (dB (dIsi .str (dVar 0))))
dNever
dNext)
(r_read_net_1))
def r_law_net_l1 : DS :=
(dExpr (dLM appM (dVar 4) (dCons (dTup (dCons (dVar 3) (dCons (dCall sp_law_any_curve (dCons (dVar 0) dNil)) (dCons (dCall sp_law_any_route (dCons (dVar 0) (dCons (dVar 1) dNil))) dNil)))) dNil)))
def r_law_net_4 : DS :=
(dFrz 4 (dRet (dTup (dCons (dVar 2) (dCons (dCB tupleD (dCons (dVar 4) dNil)) dNil)))))
def r_law_net_3 : DS :=
(dSeq (dFor (seqI (dCall sp_law_names (dCons (dVar 0) (dCons (dOp (addD false) (dC (.int 1)) (dCall sp_law_draw (dCons (dVar 0) (dCons (dC (.int 6)) dNil)))) dNil)))) (nameG 3)
(r_law_net_l1))
(r_law_net_4))
def r_law_net_2 : DS :=
(dSeq (dSet 4 (dLst true dNil))
(r_law_net_3))
def r_law_net_1 : DS :=
(dSeq (dSet 2 (dCB tupleD (dCons (dLc false [3] false (seqI (dVar 1)) dYes (dTup (dCons (dVar 3) (dCons (dCall sp_law_any_curve (dCons (dVar 0) dNil)) dNil)))) dNil)))
(r_law_net_2))
def r_law_net : DS :=
(dSeq (dSet 1 (dCall sp_law_names (dCons (dVar 0) (dCons (dOp (addD false) (dC (.int 1)) (dCall sp_law_draw (dCons (dVar 0) (dCons (dC (.int 6)) dNil)))) dNil))))
(r_law_net_1))
def r_law_l1 : DS :=
(dSeq (dSet 7 (dCall sp_law_curve_text (dCons (dVar 6) dNil)))
(dSeq (dSet 8 (dCall sp_show_curve (dCons (dVar 6) dNil)))
(dIf (dOr (dNot (dB (dIsi .str (dVar 8)))) (dOr (dB (dOp neD (dVar 8) (dVar 7))) (dB (dOp neD (dCB reprE (dCons (dCall sp_read_curve (dCons (dVar 7) dNil)) dNil)) (dCB reprE (dCons (dVar 6) dNil))))))
(dRet (dC (.bl false)))
dNext)))
def r_law_l2 : DS :=
(dSeq (dFor (seqI (dVar 3)) (nameG 6)
(r_law_l1))
(dSeq (dSet 7 (dCall sp_law_net_text (dCons (dVar 2) dNil)))
(dSeq (dSet 8 (dCall sp_show_net (dCons (dVar 2) dNil)))
(dIf (dOr (dNot (dB (dIsi .str (dVar 8)))) (dOr (dB (dOp neD (dVar 8) (dVar 7))) (dB (dOp neD (dCB reprE (dCons (dCall sp_read_net (dCons (dVar 7) dNil)) dNil)) (dCB reprE (dCons (dVar 2) dNil))))))
(dRet (dC (.bl false)))
dNext))))
def r_law_6 : DS :=
(dRet (dAndV (dOp eqD (dCall sp_show_curve (dCons (dVar 9) dNil)) (dCall sp_law_curve_text (dCons (dVar 9) dNil))) (dOp eqD (dCB reprE (dCons (dTup (dCons (dVar 2) (dCons (dVar 3) dNil))) dNil)) (dVar 5))))
def r_law_5 (c_TooLong : Addr) : DS :=
(dSeq (dSet 9 (dCall (sp_plus c_TooLong) (dCons (dOp ixD (dVar 3) (dC (.int 0))) (dCons (dOp ixD (dVar 3) (dC (.int 1))) dNil))))
(r_law_6))
def r_law_4 (c_TooLong : Addr) : DS :=
(dSeq (dFor (rngI1 (dC (.int 2))) (nameG 4)
(r_law_l2))
(r_law_5 c_TooLong))
def r_law_3 (c_TooLong : Addr) : DS :=
(dSeq (dSet 5 (dCB reprE (dCons (dTup (dCons (dVar 2) (dCons (dVar 3) dNil))) dNil)))
(r_law_4 c_TooLong))
def r_law (c_TooLong : Addr) : DS :=
(dSeq (dSet 1 (dCall sp_law_pen (dCons (dVar 0) dNil)))
(dSeq (dSet 2 (dCall sp_law_net (dCons (dVar 1) dNil)))
(dSeq (dSet 3 (dLc false [4] false (rngI1 (dC (.int 4))) dYes (dCall sp_law_any_curve (dCons (dVar 1) dNil))))
(r_law_3 c_TooLong))))
end K58

namespace Nt
open PySem PySem.Spec PyProof.Rows L2 Dl Pg TL
open Pn (rgL_inv gd atI_end)
section
variable {P : DEnds} {x : List (Option D) → DX} {m : Sto} {p : Addr} {b : Int} {X : MO}
theorem cut_hi {xs : List D} {n : Nat} (h : n ≤ xs.length) : cut xs none (some (n : Int)) = xs.take n := by
  unfold cut
  rw [HT.sIx_none, HT.sIx_nat, Nat.sub_zero, List.drop_zero, Nat.min_eq_left h]
theorem cut_lo {xs : List D} {n : Nat} (h : n ≤ xs.length) : cut xs (some (n : Int)) none = xs.drop n := by
  unfold cut
  rw [HT.sIx_nat, HT.sIx_none, Nat.min_eq_left h, List.take_of_length_le (by rw [List.length_drop]; exact Nat.le_refl _)]
theorem stream_8 {even high ahead : Int} {R : Nat} {S : List Int} {q : Addr} {s0 s6 s8 s9 s10 s11 s12 : Option D} (hS : ∀ s ∈ S, 0 ≤ s ∧ s ≤ 6) (hl : S.length ≤ 3) (he : 0 ≤ even ∧ even ≤ 2) (hh : 0 ≤ high ∧ high ≤ 3) (ha : 0 ≤ ahead ∧ ahead ≤ 12) (hR : 0 < R ∧ R ≤ 12) (hq : m q = some (.lst ((Nl S even high ahead R (S.length + 1 + R)).map .int)))
    (h : ∀ F A r u, Pn.Drawn F A r → 0 ≤ u → u ≤ 100 → P.rt (.tup [crv F A r, .int u]) (del m q)) :
    r_law_stream_curve_8 P ⟨[s0, some (.int even), some (.int high), some (.int R), some (.int ahead), some (.lst (S.map .int)), s6, some (.ptr q), s8, s9, s10, s11, s12], x⟩ m := by
  have ln := Nl_len (S := S) (even := even) (high := high) (ahead := ahead) (R := R) (n := S.length + 1 + R)
  have dr := Nl_drawn hS hl he hh ha hR
  have lS : (S.map D.int).length = S.length := List.length_map ..
  have c1 : cut ((Nl S even high ahead R (S.length + 1 + R)).map D.int) none (some (((S.map D.int).length : Int) + 1)) = ((Nl S even high ahead R (S.length + 1 + R)).take (S.length + 1)).map D.int := by
    rw [lS, show (S.length : Int) + 1 = ((S.length + 1 : Nat) : Int) by omega, cut_hi (by rw [List.length_map, ln]; omega), List.map_take]
  have c2 : cut ((Nl S even high ahead R (S.length + 1 + R)).map D.int) (some (((S.map D.int).length : Int) + 1)) none = ((Nl S even high ahead R (S.length + 1 + R)).drop (S.length + 1)).map D.int := by
    rw [lS, show (S.length : Int) + 1 = ((S.length + 1 : Nat) : Int) by omega, cut_lo (by rw [List.length_map, ln]; omega), List.map_drop]
  have er0 : 0 ≤ even * (R : Int) := Int.mul_nonneg he.1 (by omega)
  have er1 : even * (R : Int) ≤ 2 * (R : Int) := Int.mul_le_mul_of_nonneg_right he.2 (by omega)
  have u1 : 0 ≤ (even * (R : Int) + high) * (12 / (R : Int)) ∧ (even * (R : Int) + high) * (12 / (R : Int)) ≤ 100 := by
    have h1 : 0 ≤ 12 / (R : Int) := Int.ediv_nonneg (by decide) (by omega)
    refine ⟨Int.mul_nonneg (by omega) h1, ?_⟩
    have h2 : (even * (R : Int) + high) * (12 / (R : Int)) ≤ (2 * (R : Int) + 3) * (12 / (R : Int)) := Int.mul_le_mul_of_nonneg_right (by omega) h1
    have h3 : (R : Int) * (12 / (R : Int)) ≤ 12 := Int.mul_ediv_self_le (by omega)
    have h4 : 12 / (R : Int) ≤ 12 := Int.ediv_le_self _ (by decide)
    have e : (2 * (R : Int) + 3) * (12 / (R : Int)) = 2 * ((R : Int) * (12 / (R : Int))) + 3 * (12 / (R : Int)) := by rw [Int.add_mul, Int.mul_assoc]
    omega
  have fin := h _ _ _ _ dr u1.1 u1.2
  unfold crv at fin
  rw [← c1, ← c2] at fin
  exact ⟨MulOk.small (by omega) (by omega), q, _, rfl, hq, _, rfl, _, rfl, (by show 3 ≤ sizeLine; decide), CDivW.small (by omega) (by omega), MulOk.smallL (by omega) (by omega), (by show 2 ≤ sizeLine; decide), fin⟩
theorem Bn0 {S : List Int} {even : Int} {R : Nat} : Bn S even R 0 = 0 := by unfold Bn; simp
theorem stream_5 {even high ahead : Int} {R : Nat} {S : List Int} {s0 s6 s7 s8 s9 s10 s11 s12 : Option D} (hS : ∀ s ∈ S, 0 ≤ s ∧ s ≤ 6) (hl : S.length ≤ 3) (he : 0 ≤ even ∧ even ≤ 2) (hh : 0 ≤ high ∧ high ≤ 3) (ha : 0 ≤ ahead ∧ ahead ≤ 12) (hR : 0 < R ∧ R ≤ 12)
    (h : ∀ F A r u, Pn.Drawn F A r → 0 ≤ u → u ≤ 100 → P.rt (.tup [crv F A r, .int u]) m) :
    r_law_stream_curve_5 P ⟨[s0, some (.int even), some (.int high), some (.int R), some (.int ahead), some (.lst (S.map .int)), s6, s7, s8, s9, s10, s11, s12], x⟩ m := by
  have lS : (S.map D.int).length = S.length := List.length_map ..
  have he6 : 0 ≤ even ∧ even ≤ 6 := by omega
  refine ⟨Nat.zero_le _, fun q hq => ⟨by rw [lS]; omega, by rw [lS]; omega, fun i δ m' => ∃ t c, δ = ⟨[s0, some (.int even), some (.int high), some (.int R), some (.int ahead), some (.lst (S.map .int)), s6, some (.ptr q), some (.int (Bn S even R i)), t, c, s11, s12], x⟩ ∧ m' = up m q (.lst ((Nl S even high ahead R i).map .int)), ⟨s9, s10, by rw [Bn0]; rfl, rfl⟩, fun _ _ _ _ => trivial, ?_, ?_⟩⟩
  · rintro i y δ m1 hx ⟨t, c, rfl, rfl⟩
    obtain ⟨hi, rfl⟩ := rgL_inv hx
    have hi' : i < S.length + 1 + R := by rw [lS] at hi; omega
    have ec : (0 + (i : Int) + ahead + (R : Int) - 1) / (R : Int) = cn ahead R i := by unfold cn; rw [Int.zero_add]
    have hb1 := Bn_bd (R := R) hS he6 i (by omega)
    have hc0 := cn_nn hR.1 ha.1 i
    have hc1 := cn_le hR.1 ha.1 i
    have hc2 : high * cn ahead R i ≤ 3 * 64 := Int.mul_le_mul hh.2 (by omega) hc0 (by decide)
    have hc3 := Int.mul_nonneg hh.1 hc0
    have eN : Bn S even R i + high * ((0 + (i : Int) + ahead + (R : Int) - 1) / (R : Int)) * (if decide ((0 : Int) < 0 + (i : Int)) = true then 1 else 0) = Nn S even high ahead R i := by
      rw [ec]
      unfold Nn
      by_cases h0 : 0 < i
      · rw [if_pos h0, if_pos (decide_eq_true (by omega))]
      · rw [if_neg h0, if_neg (fun z => h0 (by have := of_decide_eq_true z; omega))]
    refine ⟨CDivW.small (by omega) (by omega), ⟨_, _, up_same, rfl⟩, MulOk.smallL (by omega) (by omega), MulOk.smallL ?_ ?_, _, up_same, ?_, ?_⟩
    · rw [ec]
      omega
    · rw [ec]
      omega
    · rw [List.length_map, Nl_len]
      exact Nat.lt_of_lt_of_le (show i < 100 by omega) (by decide)
    · rw [eN]
      have hR1 : ((R : Int) + 1).toNat = R + 1 := by omega
      have eW : (S.map D.int) ++ (List.replicate ((R : Int) + 1).toNat [D.int even]).flatten = (Wn S even R).map D.int := by
        unfold Wn
        rw [List.map_append, List.map_replicate, hR1]
        congr 1
        have : ∀ n : Nat, (List.replicate n [D.int even]).flatten = List.replicate n (D.int even) := fun n => by
          induction n with
          | zero => rfl
          | succ n ih => rw [List.replicate_succ, List.flatten_cons, ih]; rfl
        exact this _
      have hat : L2.atI (S.map D.int ++ (List.replicate ((R : Int) + 1).toNat [D.int even]).flatten) (0 + (i : Int)) = some (.int ((Wn S even R).getD i 0)) := by
        rw [eW]
        have := atI_int (xs := Wn S even R) (k := 0 + (i : Int)) (by omega) (by rw [Wn_len]; omega)
        rw [show (0 + (i : Int)).toNat = i by omega] at this
        exact this
      have lf : (List.replicate ((R : Int) + 1).toNat [D.int even]).flatten.length = R + 1 := by
        have := congrArg List.length eW
        rw [List.length_append, List.length_map, List.length_map, Wn_len] at this
        omega
      refine ⟨(by show 1 ≤ sizeLine; decide), _, rfl, by omega, by omega, ?_, _, _, rfl, rfl, ?_, _, .int ((Wn S even R).getD i 0), rfl, hat, some (.int (0 + (i : Int))), some (.int ((0 + (i : Int) + ahead + (R : Int) - 1) / (R : Int))), ?_, ?_⟩
      · show 1 * ((R : Int) + 1).toNat ≤ sizeLine
        exact szn (by omega)
      · rw [lS, lf]
        exact szn (by omega)
      · rw [Bn_succ (by omega)]
        rfl
      · rw [up_up]
        unfold Nl
        rw [List.range_succ, List.map_append, List.map_append]
        rfl
  · rintro δ m1 ⟨t, c, rfl, rfl⟩
    have en : ((rgL 0 (((S.map D.int).length : Int) + 1 + (R : Int)).toNat)).length = S.length + 1 + R := by rw [rgL_len, lS]; omega
    rw [en]
    refine stream_8 hS hl he hh ha hR up_same fun F A r u d0 u0 u1 => ?_
    rw [del_up hq]
    exact h F A r u d0 u0 u1
theorem v_law_stream_curve {ds : List D} {R : D → Sto → Prop} {RX : DX} (h : sp_law_stream_curve ds m R RX) : r_law_stream_curve { nx := fun _ m' => R .non m', rt := R } ⟨ds.map some ++ List.replicate (13 - ds.length) none, fun _ => RX⟩ m := by
  unfold sp_law_stream_curve at h
  split at h
  · rename_i p
    obtain ⟨b, X, hp, hX, hb, hR⟩ := h
    refine ⟨b, X, hp, hX, by omega, by decide, by decide, fun even X1 e0 e1 hX1 => ?_⟩
    refine ⟨b + 1, X1, up_same, hX1, by omega, by decide, by decide, fun high X2 h0 h1 hX2 => ?_⟩
    refine ⟨(by show 8 ≤ sizeLine; decide), b + 1 + 1, X2, up_same, hX2, by omega, by decide, by decide, fun k X3 k0 k1 hX3 => ?_⟩
    obtain ⟨rr, hrr, hat⟩ := atI_mem (ns := [1, 1, 2, 2, 3, 4, 6, 12]) k0 k1
    have hr : 1 ≤ rr ∧ rr ≤ 12 := by
      simp only [List.mem_cons, List.not_mem_nil, or_false] at hrr
      omega
    refine ⟨_, _, rfl, hat, b + 1 + 1 + 1, X3, up_same, hX3, by omega, by omega, by omega, fun ahead X4 a0 a1 hX4 => ?_⟩
    simp only [up_up]
    refine ⟨b + 1 + 1 + 1 + 1, X4, up_same, hX4, by omega, by decide, by decide, fun ks X5 ks0 ks1 hX5 => ?_⟩
    simp only [up_up]
    refine ⟨by omega, by omega, lc_drawn false p (fun _ d => ∃ c, d = .int c ∧ (0 ≤ c ∧ c ≤ 6)) 1 (b + 1 + 1 + 1 + 1 + 1) X5 up_same hX5 (fun _ _ => trivial) ?_ (fun k y m2 X6 hx hp2 hX6 _ => ?_) fun acc X6 hl hP hX6 => ?_⟩
    · rw [rgL_len]
      exact szn (by omega)
    · obtain ⟨hk, rfl⟩ := rgL_inv hx
      refine ⟨_, rfl, fun R hR => ⟨_, X6, hp2, hX6, by omega, by decide, by decide, fun v X' v0 v1 hX' => hR _ X' ⟨_, rfl, by omega, by omega⟩ hX'⟩⟩
    · obtain ⟨cs, rfl, hcs⟩ := ints_of hP
      rw [rgL_len] at hl hX6
      rw [List.length_map] at hl
      refine ⟨cs, rfl, fun ns' hperm hsort => ⟨_, rfl, ?_⟩⟩
      have el : (ns'.map D.int).reverse = ns'.reverse.map D.int := by rw [List.map_reverse]
      have hS : ∀ s ∈ ns'.reverse, 0 ≤ s ∧ s ≤ 6 := fun s hs => hcs s (hperm.mem_iff.mp (List.mem_reverse.mp hs))
      have hl3 : ns'.reverse.length ≤ 3 := by rw [List.length_reverse, hperm.length_eq]; omega
      obtain ⟨Rn, hRn⟩ : ∃ Rn : Nat, rr = (Rn : Int) := ⟨rr.toNat, by omega⟩
      subst hRn
      have key := stream_5 (P := { nx := fun _ m' => R .non m', rt := R }) (x := fun _ => RX) (m := up (up m p X5) p X6) (s0 := some (.ptr p)) (s6 := none) (s7 := none) (s8 := none) (s9 := none) (s10 := none) (s11 := none) (s12 := none) (even := even) (high := high) (ahead := ahead) (R := Rn) (S := ns'.reverse) hS hl3 (by omega) (by omega) (by omega) (by omega) (fun F A r u d0 u0 u1 => by
        rw [up_up]
        exact hR F A r u X6 d0 u0 u1 (PenD.mono hX6 (by omega)))
      rw [← el] at key
      exact key
  · exact h.elim
end
end Nt

namespace Tt
open PySem PySem.Spec PyProof.Rows L2 Dl Nt Nz TL
open Pn (rgL_inv gd atI_end)
open Pg (atI_int crv)
theorem numT_tl {i : Int} (h : 0 ≤ i) : tl (numT i) = numL i.toNat := by
  obtain ⟨n, rfl⟩ : ∃ n : Nat, i = (n : Int) := ⟨i.toNat, by omega⟩
  exact tl_num n
theorem numT_len {i : Int} (h : 0 ≤ i) (h1 : i < 10 ^ 30) : (numT i).length ≤ 30 := by
  rw [len_tl, numT_tl h]
  exact numL_len (by decide) (by
    have : (10 : Int) ^ 30 = ((10 ^ 30 : Nat) : Int) := by decide
    omega)
theorem small_log {i : Int} (h : 0 ≤ i) (h1 : i < 10 ^ 30) : i.natAbs.log2 < 1920 := by
  have hl : i.natAbs.log2 < 100 := PySem.Flt.log2_lt_of (by decide) (by
    have : (10 : Int) ^ 30 = ((10 ^ 30 : Nat) : Int) := by decide
    have : (10 : Nat) ^ 30 < 2 ^ 100 := by decide
    omega)
  omega
theorem sum_map_le {α : Type} {f : α → Nat} {k : Nat} : ∀ {l : List α}, (∀ a ∈ l, f a ≤ k) → (l.map f).sum ≤ l.length * k
  | [], _ => by simp
  | a :: l, h => by
    have := sum_map_le (f := f) (k := k) (l := l) fun b hb => h b (List.mem_cons_of_mem _ hb)
    have := h a List.mem_cons_self
    rw [List.map_cons, List.sum_cons, List.length_cons, Nat.succ_mul]
    omega
theorem joinL_len (S : List Nat) : ∀ ps : List (List Nat), (joinL S ps).length ≤ (ps.map List.length).sum + ps.length * S.length
  | [] => by simp [joinL]
  | [p] => by simp [joinL]
  | p :: q :: r => by
    have ih := joinL_len S (q :: r)
    show (p ++ (S ++ joinL S (q :: r))).length ≤ _
    rw [List.length_append, List.length_append]
    simp only [List.map_cons, List.sum_cons, List.length_cons, Nat.succ_mul] at ih ⊢
    omega
theorem join_len (y : Str) (ps : List Str) : (Txt.join y ps).length ≤ (ps.map (·.length)).sum + ps.length * y.length := by
  have := joinL_len (tl y) (ps.map tl)
  rw [join_eq, len_tl, tl_join]
  rw [List.map_map, List.length_map] at this
  have e : (ps.map (List.length ∘ tl)) = ps.map (·.length) := List.map_congr_left fun a _ => (len_tl a).symm
  rw [e, ← len_tl] at this
  exact this
theorem showN_len {ns : List Int} (h : NumsOk ns) : (showN ns).length ≤ 70000 := by
  have hl := join_len " " (ns.map numT)
  have hs : ((ns.map numT).map (·.length)).sum ≤ (ns.map numT).length * 30 := sum_map_le fun a ha => by
    obtain ⟨i, hi, rfl⟩ := List.mem_map.mp ha
    exact numT_len (h.2 i hi).1 (h.2 i hi).2
  have e : (" " : Str).length = 1 := by decide
  have h1 := h.1
  rw [List.length_map] at hl hs
  rw [e] at hl
  unfold showN
  omega
theorem aheadT_len {F : List Int} (h : NumsOk F) : (aheadT F).length ≤ 70000 := by
  unfold aheadT
  split
  · decide
  · exact showN_len h
theorem showC_len {c : Cv} (h : CvOk c) : (showC c).length ≤ 140040 := by
  have h1 := aheadT_len h.1
  have h2 := showN_len h.2.1
  have h3 := numT_len h.2.2.1 h.2.2.2
  have e : (" / " : Str).length = 3 := by decide
  unfold showC
  rw [len_tl] at h1 h2 h3 e ⊢
  rw [tl_append, tl_append, tl_append, tl_append, List.length_append, List.length_append, List.length_append, List.length_append]
  omega
section
variable {m m' : Sto} {R : D → Sto → Prop} {RX : DX} {P : DEnds} {x : List (Option D) → DX}
theorem v_show_numbers {ds : List D} (h : sp_show_numbers ds m R RX) : r_show_numbers { nx := fun _ m' => R .non m', rt := R } ⟨ds.map some ++ List.replicate (2 - ds.length) none, fun _ => RX⟩ m := by
  unfold sp_show_numbers at h
  split at h
  · obtain ⟨ns, rfl, hn, hR⟩ := h
    have h1 := hn.1
    refine lc_pure false ((ns.map numT).map D.str) (fun _ _ => trivial) (by rw [List.length_map, List.length_map, List.length_map]) (by rw [List.length_map]; exact szn (by omega)) (fun k y z m3 hx hy le => ?_) ⟨ns.map numT, rfl, ?_, hR⟩
    · rw [List.getElem?_map] at hx
      rw [List.getElem?_map, List.getElem?_map] at hy
      cases hq : ns[k]? with
      | none => rw [hq] at hx; cases hx
      | some q =>
        rw [hq] at hx hy
        cases hx
        cases hy
        have := hn.2 q (List.mem_of_getElem? hq)
        exact ⟨_, rfl, fun R hR => ⟨small_log this.1 this.2, hR⟩⟩
    · have hs : ((ns.map numT).map (·.length)).sum ≤ (ns.map numT).length * 30 := sum_map_le fun a ha => by
        obtain ⟨i, hi, rfl⟩ := List.mem_map.mp ha
        exact numT_len (hn.2 i hi).1 (hn.2 i hi).2
      have e : (" " : Str).length = 1 := by decide
      rw [List.length_map] at hs ⊢
      rw [e]
      omega
  · exact h.elim
theorem show_5 {P : DEnds} {c : Cv} {s0 : Option D} (h : CvOk c) (hR : P.rt (.str (showC c)) m) : r_show_curve_3 P ⟨[s0, some (tupI c.F), some (tupI c.A), some (.int c.r), some (.str (aheadT c.F))], x⟩ m := by
  have h1 := aheadT_len h.1
  have h2 := showN_len h.2.1
  have h3 := numT_len h.2.2.1 h.2.2.2
  have e : (" / " : Str).length = 3 := by decide
  have ez : Str.empty.length = 0 := by decide
  have ae : ∀ a : Str, Str.empty ++ a = a := fun a => ext_tl (by rw [tl_append]; rfl)
  have la : ∀ a b : Str, (a ++ b).length = a.length + b.length := fun a b => by rw [len_tl, tl_append, List.length_append, ← len_tl, ← len_tl]
  refine ⟨szn (by omega), szn (by rw [la, ez]; omega), szn (by rw [la, la, ez, e]; omega), c.A, rfl, h.2.1, szn (by omega), szn (by rw [la, la, la, ez, e]; omega), szn (by rw [la, la, la, la, ez, e]; omega), small_log h.2.2.1 h.2.2.2, szn (by
    have : (toString c.r : Str).length = (numT c.r).length := rfl
    rw [la, la, la, la, la, ez, e]; omega), ?_⟩
  show P.rt (.str (Str.empty ++ aheadT c.F ++ " / " ++ showN c.A ++ " / " ++ numT c.r)) m
  rw [ae]
  exact hR
theorem v_show_curve {ds : List D} (h : sp_show_curve ds m R RX) : r_show_curve { nx := fun _ m' => R .non m', rt := R } ⟨ds.map some ++ List.replicate (5 - ds.length) none, fun _ => RX⟩ m := by
  unfold sp_show_curve at h
  split at h
  · obtain ⟨c, rfl, hc, hR⟩ := h
    have lFm : (c.F.map D.int).length = c.F.length := List.length_map ..
    refine ⟨rfl, fun z => ⟨c.F, rfl, hc.1, ?_⟩, fun z => ?_⟩
    · have hz := of_decide_eq_true z
      rw [lFm] at hz
      have e : aheadT c.F = showN c.F := by
        unfold aheadT
        rw [if_neg fun e => by rw [e] at hz; simp at hz]
      have key := show_5 (P := { nx := fun _ m' => R .non m', rt := R }) (x := fun _ => RX) (s0 := some (cvD c)) hc hR
      rw [e] at key
      exact key
    · have hz := of_decide_eq_false z
      rw [lFm] at hz
      have e : aheadT c.F = "-" := by
        unfold aheadT
        rw [if_pos (List.length_eq_zero_iff.mp (by omega))]
      have key := show_5 (P := { nx := fun _ m' => R .non m', rt := R }) (x := fun _ => RX) (s0 := some (cvD c)) hc hR
      rw [e] at key
      exact key
  · exact h.elim
end
end Tt

namespace Tt
open PySem PySem.Spec PyProof.Rows L2 Dl Nt Nz TL
open Pn (rgL_inv gd atI_end)
open Pg (atI_int crv)
/-! ### texts cut and joined again -/
theorem spl_ne (S : List Nat) : ∀ (n : Nat) (acc l : List Nat), l.length ≤ n → spl S 0 acc l ≠ []
  | n, acc, [], _ => by rw [spl_nil]; simp
  | n + 1, acc, c :: r, h => by
    by_cases hp : pre S (c :: r) = true
    · rw [spl_hit hp]; simp
    · rw [spl_miss (bf hp)]
      exact spl_ne S n _ r (by simpa using h)
theorem joinL_cons {S p : List Nat} {ps : List (List Nat)} (h : ps ≠ []) : joinL S (p :: ps) = p ++ (S ++ joinL S ps) := by
  match ps, h with
  | q :: r, _ => rfl
theorem joinL_spl {S : List Nat} (hS : S ≠ []) : ∀ (n : Nat) (acc l : List Nat), l.length ≤ n → joinL S (spl S 0 acc l) = acc ++ l
  | n, acc, [], _ => by rw [spl_nil, List.append_nil]; rfl
  | n + 1, acc, c :: r, h => by
    by_cases hp : pre S (c :: r) = true
    · rw [spl_hit hp, joinL_cons (by rw [spl_pass]; exact spl_ne S _ _ _ (Nat.le_refl _)), spl_pass, joinL_spl hS n [] _ (by rw [List.length_drop]; simp at h; omega), List.nil_append]
      have he : (c :: r).take S.length = S := eq_of_beq hp
      have hs : 0 < S.length := List.length_pos_iff.mpr hS
      congr 1
      have hd : r.drop (S.length - 1) = (c :: r).drop S.length := by
        obtain ⟨k, hk⟩ : ∃ k, S.length = k + 1 := ⟨S.length - 1, by omega⟩
        rw [hk]
        rfl
      rw [hd]
      conv => lhs; lhs; rw [← he]
      exact List.take_append_drop _ _
    · rw [spl_miss (bf hp), joinL_spl hS n _ r (by simpa using h)]
      simp
theorem spl_sub {S : List Nat} : ∀ (n : Nat) (acc l : List Nat), l.length ≤ n → ∀ p ∈ spl S 0 acc l, ∀ c ∈ p, c ∈ acc ++ l
  | n, acc, [], _, p, hp, c, hc => by
    rw [spl_nil] at hp
    rw [List.mem_singleton.mp hp] at hc
    exact List.mem_append_left _ hc
  | n + 1, acc, d :: r, h, p, hp, c, hc => by
    by_cases hq : pre S (d :: r) = true
    · rw [spl_hit hq] at hp
      rcases List.mem_cons.mp hp with rfl | hp
      · exact List.mem_append_left _ hc
      · rw [spl_pass] at hp
        have := spl_sub n [] _ (by rw [List.length_drop]; simp at h; omega) p hp c hc
        rw [List.nil_append] at this
        exact List.mem_append_right _ (List.mem_cons_of_mem _ (List.mem_of_mem_drop this))
    · rw [spl_miss (bf hq)] at hp
      have := spl_sub n _ r (by simpa using h) p hp c hc
      rw [List.append_assoc] at this
      exact this
theorem joinL_sum {S : List Nat} : ∀ {ps : List (List Nat)}, ps ≠ [] → (joinL S ps).length + S.length = (ps.map List.length).sum + ps.length * S.length
  | [p], _ => by simp [joinL]
  | p :: q :: r, _ => by
    have ih := joinL_sum (S := S) (ps := q :: r) (by simp)
    show (p ++ (S ++ joinL S (q :: r))).length + _ = _
    rw [List.length_append, List.length_append]
    simp only [List.map_cons, List.sum_cons, List.length_cons, Nat.succ_mul] at ih ⊢
    omega
theorem mem_le_sum : ∀ {l : List Nat} {a : Nat}, a ∈ l → a ≤ l.sum
  | b :: l, a, h => by
    rw [List.sum_cons]
    rcases List.mem_cons.mp h with rfl | h
    · omega
    · have := mem_le_sum h
      omega
section
variable {x y : Str} (hy : tl y ≠ []) (hk : y.cps.all (· < 256) = true)
include hy hk
theorem split_ne : Txt.split x y ≠ [] := fun e => by
  have h := split_spl x y hy (kind_ok hk)
  rw [e] at h
  exact spl_ne _ _ _ _ (Nat.le_refl _) h.symm
theorem join_split : Txt.join y (Txt.split x y) = x := by
  refine ext_tl ?_
  rw [join_eq, tl_join, split_spl x y hy (kind_ok hk), joinL_spl hy _ _ _ (Nat.le_refl _), List.nil_append]
theorem split_sum : ((Txt.split x y).map (·.length)).sum + (Txt.split x y).length * y.length = x.length + y.length := by
  have h := joinL_sum (S := tl y) (ps := (Txt.split x y).map tl) (by intro e; exact split_ne hy hk (List.map_eq_nil_iff.mp e))
  rw [split_spl x y hy (kind_ok hk), joinL_spl hy _ _ _ (Nat.le_refl _), List.nil_append, ← split_spl x y hy (kind_ok hk), List.map_map, List.length_map] at h
  have e : ((Txt.split x y).map (List.length ∘ tl)) = (Txt.split x y).map (·.length) := List.map_congr_left fun a _ => (len_tl a).symm
  rw [e, ← len_tl, ← len_tl] at h
  exact h.symm
theorem split_ch {p : Str} (hp : p ∈ Txt.split x y) : ∀ c ∈ tl p, c ∈ tl x := fun c hc => by
  have h := split_spl x y hy (kind_ok hk)
  have hm : tl p ∈ spl (tl y) 0 [] (tl x) := by
    rw [← h]
    exact List.mem_map_of_mem hp
  have := spl_sub _ _ _ (Nat.le_refl _) _ hm c hc
  rw [List.nil_append] at this
  exact this
theorem split_ok (hx : TxOk x) {p : Str} (hp : p ∈ Txt.split x y) : TxOk p := by
  refine ⟨?_, fun c hc => hx.ch c (split_ch hy hk hp c hc)⟩
  have h1 := split_sum (x := x) hy hk
  have h2 : p.length ≤ ((Txt.split x y).map (·.length)).sum := mem_le_sum (List.mem_map_of_mem hp)
  have h3 : 0 < (Txt.split x y).length := List.length_pos_iff.mpr (split_ne hy hk)
  have h4 : y.length ≤ (Txt.split x y).length * y.length := Nat.le_mul_of_pos_left _ h3
  have := hx.ln
  omega
end
theorem bl_ne : tl (" " : Str) ≠ [] := by decide +kernel
theorem bl_k : (" " : Str).cps.all (· < 256) = true := by decide +kernel
theorem sl_ne : tl (" / " : Str) ≠ [] := by decide +kernel
theorem sl_k : (" / " : Str).cps.all (· < 256) = true := by decide +kernel
theorem nl_ne : tl ("\n" : Str) ≠ [] := by decide +kernel
theorem nl_k : ("\n" : Str).cps.all (· < 256) = true := by decide +kernel
theorem split_cnt {x y : Str} (hy : tl y ≠ []) (hk : y.cps.all (· < 256) = true) (hx : TxOk x) : (Txt.split x y).length ≤ 200001 := by
  have h1 := split_sum (x := x) hy hk
  have h5 : 0 < y.length := by rw [len_tl]; exact List.length_pos_iff.mpr hy
  have := hx.ln
  have h6 : (Txt.split x y).length * y.length ≤ x.length + y.length := by omega
  obtain ⟨k, hk'⟩ : ∃ k, y.length = k + 1 := ⟨y.length - 1, by omega⟩
  rw [hk', Nat.mul_succ] at h6
  have h7 : 0 < (Txt.split x y).length := List.length_pos_iff.mpr (split_ne hy hk)
  have h8 : k ≤ (Txt.split x y).length * k := Nat.le_mul_of_pos_left _ h7
  omega
end Tt

namespace Tt
open PySem PySem.Spec PyProof.Rows L2 Dl Nt Nz TL
open Pn (rgL_inv gd atI_end)
open Pg (atI_int crv)
abbrev figs : Str := "0123456789"
theorem figs_tl : figs.cps.toList = List.range' 48 10 := by decide +kernel
theorem fig_mem {c : Nat} : decide (c ∈ figs.cps.toList) = isFig c := by
  rw [figs_tl]
  unfold isFig
  rw [Bool.eq_iff_iff, Bool.and_eq_true, decide_eq_true_iff, decide_eq_true_iff, decide_eq_true_iff, List.mem_range']
  constructor
  · rintro ⟨i, h1, h2⟩
    omega
  · rintro ⟨h1, h2⟩
    exact ⟨c - 48, by omega, by omega⟩
theorem all_figs {l : List Nat} (h : l.all isFig = true) : NumText.AllDigits l := fun c hc => by
  have := List.all_eq_true.mp h c hc
  unfold isFig at this
  rw [Bool.and_eq_true] at this
  exact ⟨of_decide_eq_true this.1, of_decide_eq_true this.2⟩
section
variable {m m' : Sto} {R : D → Sto → Prop} {RX : DX} {P : DEnds} {x : List (Option D) → DX}
theorem num_2 {w : Str} {s1 : Option D} (h1 : 1 ≤ w.length) (h30 : w.length ≤ 30) (ha : (tl w).all isFig = true) (hR : P.rt (.int (numV w)) m) : r_number_in_2 P ⟨[some (.str w), s1], x⟩ m := by
  refine ⟨numV w, intText_digits (all_figs ha) (fun e => ?_) (by omega), by omega, hR⟩
  have : (tl w).length = 0 := by
    show w.cps.toList.length = 0
    rw [e]
    rfl
  rw [← len_tl] at this
  omega
theorem num_1 {w : Str} {s1 : Option D} (h1 : 1 ≤ w.length) (h30 : w.length ≤ 30) (ha : (tl w).all isFig = true) (hR : P.rt (optD .int (numIn w)) m) : r_number_in_1 P ⟨[some (.str w), s1], x⟩ m := by
  obtain ⟨c, r, e⟩ : ∃ c r, tl w = c :: r := by
    cases h : tl w with
    | nil => rw [len_tl, h] at h1; simp at h1
    | cons c r => exact ⟨c, r, rfl⟩
  have e0 : ((⟨#[c]⟩ : Str) = ("0" : Str)) ↔ c = 48 := by
    constructor
    · intro h
      have := congrArg tl h
      have z : tl ("0" : Str) = [48] := by decide +kernel
      rw [z] at this
      simpa [tl] using this
    · rintro rfl
      exact ext_tl (by decide +kernel)
  have hno : ∀ b, (decide (c = 48) && decide (1 < w.length)) = b → numOk w = !b := fun b hb => by
    unfold numOk
    have e48 : decide ((tl w)[0]? = some 48) = decide (c = 48) := by
      rw [e]
      simp
    rw [decide_eq_true h1, decide_eq_true h30, ha, e48, hb]
    rfl
  unfold numIn at hR
  refine ⟨szn (by omega), c, ?_, ?_⟩
  · have : L2.atI (tl w) 0 = some c := by rw [e]; exact at0
    exact this
  · refine ⟨fun z => ⟨szn (by omega), ?_⟩, fun z => ⟨fun c => (nomatch c), fun _ => ?_⟩⟩
    · have hc : c = 48 := e0.mp (of_decide_eq_true z)
      by_cases hl : 1 < w.length
      · have := hno true (by rw [decide_eq_true hc, decide_eq_true hl]; rfl)
        rw [if_neg (by rw [this]; decide)] at hR
        exact ⟨fun _ => hR, fun z => absurd (of_decide_eq_false z) (by omega)⟩
      · have := hno false (by rw [decide_eq_false hl]; simp)
        rw [if_pos (by rw [this]; rfl)] at hR
        exact ⟨fun z => absurd (of_decide_eq_true z) (by omega), fun _ => num_2 (x := x) (s1 := s1) h1 h30 ha hR⟩
    · have hc : ¬ c = 48 := fun h => of_decide_eq_false z (e0.mpr h)
      have := hno false (by rw [decide_eq_false hc]; rfl)
      rw [if_pos (by rw [this]; rfl)] at hR
      exact num_2 (x := x) (s1 := s1) h1 h30 ha hR
theorem v_number_in {ds : List D} (h : sp_number_in ds m R RX) : r_number_in { nx := fun _ m' => R .non m', rt := R } ⟨ds.map some ++ List.replicate (2 - ds.length) none, fun _ => RX⟩ m := by
  unfold sp_number_in at h
  split at h
  · rename_i w
    obtain ⟨hw, hR⟩ := h
    have hl := hw.ln
    have no : numOk w = false → R .non m := fun e => by
      unfold numIn at hR
      rw [if_neg (by rw [e]; decide)] at hR
      exact hR
    refine ⟨szn (by omega), fun z => ?_, fun z => ?_⟩
    · have h1 : 1 ≤ w.length := by
        have := of_decide_eq_true z
        omega
      by_cases h30 : w.length ≤ 30
      · have e30 : (!decide ((w.length : Int) ≤ 30)) = false := by rw [decide_eq_true (show (w.length : Int) ≤ 30 by omega)]; rfl
        refine ⟨fun z => absurd z (by show ¬ (!decide ((w.length : Int) ≤ 30)) = true; rw [e30]; decide), fun _ => ?_⟩
        refine lc_pure false ((w.cps.toList.map isFig).map D.bl) (fun _ _ => trivial) (by rw [List.length_map, List.length_map, List.length_map]) (by rw [List.length_map]; exact szn (by have := len_tl (x := w); show (tl w).length ≤ _; omega)) (fun k y z m3 hx hy le => ?_) ⟨_, rfl, ?_⟩
        · rw [List.getElem?_map] at hx
          rw [List.getElem?_map, List.getElem?_map] at hy
          cases hc : w.cps.toList[k]? with
          | none => rw [hc] at hx; cases hx
          | some c =>
            rw [hc] at hx hy
            cases hx
            cases hy
            refine ⟨_, rfl, fun R hR => ⟨c, rfl, ?_⟩⟩
            rw [if_neg (by decide), fig_mem]
            exact hR
        · have e : (w.cps.toList.map isFig).all id = (tl w).all isFig := by rw [List.all_map]; rfl
          rw [e]
          by_cases ha : (tl w).all isFig = true
          · rw [ha]
            exact ⟨fun z => (nomatch z), fun _ => num_1 h1 h30 ha hR⟩
          · rw [bf ha]
            refine ⟨fun _ => no ?_, fun z => (nomatch z)⟩
            unfold numOk
            rw [bf ha]
            simp
      · have e30 : (!decide ((w.length : Int) ≤ 30)) = true := by rw [decide_eq_false (show ¬ (w.length : Int) ≤ 30 by omega)]; rfl
        refine ⟨fun _ => ⟨fun _ => no ?_, fun z => (nomatch z)⟩, fun z => absurd z (by show ¬ (!decide ((w.length : Int) ≤ 30)) = false; rw [e30]; decide)⟩
        unfold numOk
        rw [decide_eq_false h30]
        simp
    · have h1 : ¬ 1 ≤ w.length := by
        have := of_decide_eq_false z
        omega
      refine ⟨fun _ => ⟨fun _ => no ?_, fun z => (nomatch z)⟩, fun z => (nomatch z)⟩
      unfold numOk
      rw [decide_eq_false h1]
      rfl
  · exact h.elim
theorem none_in {l : List Str} : inFD .non ((l.map fun w => optD D.int (numIn w))) = !(l.all numOk) := by
  unfold inFD
  rw [List.any_map]
  induction l with
  | nil => rfl
  | cons w l ih =>
    rw [List.any_cons, List.all_cons, ih]
    have : ((fun y => eqFD y D.non) ∘ fun w => optD D.int (numIn w)) w = !numOk w := by
      show eqFD (optD D.int (numIn w)) D.non = !numOk w
      unfold numIn
      split
      · rename_i h
        rw [h]
        rfl
      · rename_i h
        rw [bf h]
        rfl
    rw [this]
    cases numOk w <;> simp
theorem nums_1 {w : Str} {s0 s2 : Option D} (hw : TxOk w) (hR : P.rt (optD tupI (numsIn w)) m) : r_numbers_in_1 P ⟨[s0, some (.lst ((Txt.split w " ").map fun w => optD D.int (numIn w))), s2], x⟩ m := by
  refine ⟨_, rfl, rfl, ?_, ?_⟩
  · rw [List.all_map, List.all_eq_true]
    intro a _
    show flatD (optD D.int (numIn a)) = true
    cases numIn a <;> rfl
  · rw [if_neg (by decide), none_in]
    unfold numsIn at hR
    by_cases ha : (Txt.split w " ").all numOk = true
    · rw [ha]
      rw [if_pos ha] at hR
      refine ⟨fun z => (nomatch z), fun _ => ⟨_, rfl, ?_⟩⟩
      have e : ((Txt.split w " ").map fun w => optD D.int (numIn w)) = ((Txt.split w " ").map numV).map .int := by
        rw [List.map_map]
        refine List.map_congr_left fun a hm => ?_
        have := List.all_eq_true.mp ha a hm
        show optD D.int (numIn a) = .int (numV a)
        unfold numIn
        rw [if_pos this]
        rfl
      show P.rt (.tup ((Txt.split w " ").map fun w => optD D.int (numIn w))) m
      rw [e]
      exact hR
    · rw [bf ha]
      rw [if_neg ha] at hR
      exact ⟨fun _ => hR, fun z => (nomatch z)⟩
theorem v_numbers_in {ds : List D} (h : sp_numbers_in ds m R RX) : r_numbers_in { nx := fun _ m' => R .non m', rt := R } ⟨ds.map some ++ List.replicate (3 - ds.length) none, fun _ => RX⟩ m := by
  unfold sp_numbers_in at h
  split at h
  · rename_i w
    obtain ⟨hw, hR⟩ := h
    have hl := hw.ln
    have hn := split_cnt (y := " ") bl_ne bl_k hw
    refine ⟨by decide, szn (by omega), lc_pure false ((Txt.split w " ").map fun w => optD D.int (numIn w)) (fun _ _ => trivial) (by rw [List.length_map, List.length_map]) (by rw [List.length_map]; exact szn (by omega)) (fun k y z m3 hx hy le => ?_) (nums_1 hw hR)⟩
    rw [List.getElem?_map] at hx hy
    cases hc : (Txt.split w " ")[k]? with
    | none => rw [hc] at hx; cases hx
    | some c =>
      rw [hc] at hx hy
      cases hx
      cases hy
      exact ⟨_, rfl, fun R hR => ⟨split_ok bl_ne bl_k hw (List.mem_of_getElem? hc), hR⟩⟩
  · exact h.elim
end
end Tt

namespace Tt
open PySem PySem.Spec PyProof.Rows L2 Dl Nt Nz TL
open Pn (rgL_inv gd atI_end)
open Pg (atI_int crv)
section
variable {m m' : Sto} {R : D → Sto → Prop} {RX : DX} {P : DEnds} {x : List (Option D) → DX}
theorem v_keeps_bounds {ds : List D} (h : sp_keeps_bounds ds m R RX) : r_keeps_bounds { nx := fun _ m' => R .non m', rt := R } ⟨ds.map some ++ List.replicate (5 - ds.length) none, fun _ => RX⟩ m := by
  unfold sp_keeps_bounds at h
  split at h
  · obtain ⟨⟨F, A, r⟩, rfl, lF, lA, hR⟩ := h
    have lF : F.length ≤ 300000 := lF
    have lA : A.length ≤ 300000 := lA
    have hR : R (.bl (decide (F.length ≤ 24) && (decide (A.length ≤ 12) && (F ++ A ++ [r]).all fun x => decide (x ≤ 1000000)))) m := hR
    have lFm : (F.map D.int).length = F.length := List.length_map ..
    have lAm : (A.map D.int).length = A.length := List.length_map ..
    refine ⟨rfl, fun z => ?_, fun z => ⟨fun z2 => ?_, fun z2 => ?_⟩⟩
    · have z : (24 : Int) < ((F.map D.int).length : Int) := of_decide_eq_true z
      rw [decide_eq_false (show ¬ F.length ≤ 24 by omega)] at hR
      exact ⟨fun _ => hR, fun z => (nomatch z)⟩
    · have z2 : (12 : Int) < ((A.map D.int).length : Int) := of_decide_eq_true z2
      rw [decide_eq_false (show ¬ A.length ≤ 12 by omega), Bool.false_and, Bool.and_false] at hR
      exact hR
    · have z : ¬ (24 : Int) < ((F.map D.int).length : Int) := of_decide_eq_false z
      have z2 : ¬ (12 : Int) < ((A.map D.int).length : Int) := of_decide_eq_false z2
      rw [decide_eq_true (show F.length ≤ 24 by omega), decide_eq_true (show A.length ≤ 12 by omega), Bool.true_and, Bool.true_and] at hR
      have e : F.map D.int ++ A.map D.int ++ [D.int r] = (F ++ A ++ [r]).map D.int := by simp
      have ll : (F ++ A ++ [r]).length = F.length + A.length + 1 := by simp; omega
      refine ⟨szn (by rw [lFm, lAm]; omega), (by show 1 ≤ sizeLine; decide), szn (by rw [List.length_append, lFm, lAm]; show _ + 1 ≤ _; omega), ?_⟩
      show LcCore false [4] false dYes _ _ _ (F.map D.int ++ A.map D.int ++ [D.int r]) _ m
      rw [e]
      refine lc_pure false (((F ++ A ++ [r]).map fun x => decide (x ≤ 1000000)).map D.bl) (fun _ _ => trivial) (by rw [List.length_map, List.length_map, List.length_map]) (szn (by rw [List.length_map]; omega)) (fun k y z m3 hx hy le => ?_) ⟨_, rfl, by rw [List.all_map]; exact hR⟩
      rw [List.getElem?_map] at hx
      rw [List.getElem?_map, List.getElem?_map] at hy
      cases hq : (F ++ A ++ [r])[k]? with
      | none => rw [hq] at hx; cases hx
      | some q =>
        rw [hq] at hx hy
        cases hx
        cases hy
        exact ⟨_, rfl, fun R hR => hR⟩
  · exact h.elim
theorem nums_wf {ns : List Int} {m : Sto} (h : ns.length ≤ 300000) : Wf m (.tup (ns.map .int)) := .tup (by rw [List.length_map]; exact h) fun d hd => by
  obtain ⟨i, _, rfl⟩ := List.mem_map.mp hd
  exact .int i
end
end Tt

namespace Tt
open PySem PySem.Spec PyProof.Rows L2 Dl Nt Nz TL
open Pn (rgL_inv gd atI_end)
open Pg (atI_int crv)
section
variable {m m' : Sto} {R : D → Sto → Prop} {RX : DX} {P : DEnds} {x : List (Option D) → DX}
theorem numsIn_len {w : Str} {F : List Int} (hw : TxOk w) (h : numsIn w = some F) : F.length ≤ 200001 := by
  unfold numsIn at h
  split at h
  · cases h
    rw [List.length_map]
    exact split_cnt bl_ne bl_k hw
  · cases h
theorem firstIn_len {w : Str} {F : List Int} (hw : TxOk w) (h : firstIn w = some F) : F.length ≤ 200001 := by
  unfold firstIn at h
  split at h
  · cases h
    decide
  · exact numsIn_len hw h
def pickC (o1 o2 : Option (List Int)) (o3 : Option Int) : Option Cv := match o1, o2, o3 with
  | some F, some A, some r => if okC ⟨F, A, r⟩ = true then some ⟨F, A, r⟩ else none
  | _, _, _ => none
theorem cin_7 {F A : List Int} {r : Int} {s0 s1 s5 : Option D} (lF : F.length ≤ 200001) (lA : A.length ≤ 200001) (hR : P.rt (optD cvD (if okC ⟨F, A, r⟩ = true then some ⟨F, A, r⟩ else none)) m) :
    r_curve_in_7 P ⟨[s0, s1, some (tupI F), some (tupI A), some (.int r), s5], x⟩ m := by
  have W : Wf m (cvD ⟨F, A, r⟩) := .tup (by show 3 ≤ _; decide) (mem3 (nums_wf (ns := F) (by omega)) (nums_wf (ns := A) (by omega)) (.int r))
  unfold okC at hR
  refine ⟨(by show 3 ≤ sizeLine; decide), W, ?_⟩
  by_cases hc : isCurveD (cvD ⟨F, A, r⟩) = true
  · have hc' : isCurveD (.tup [tupI F, tupI A, .int r]) = true := hc
    rw [hc']
    rw [hc, Bool.true_and] at hR
    refine ⟨fun z => (nomatch z), fun _ => ⟨⟨F, A, r⟩, rfl, Nat.le_trans lF (by decide), Nat.le_trans lA (by decide), ?_⟩⟩
    by_cases hk : keepsB ⟨F, A, r⟩ = true
    · rw [hk]
      rw [hk, if_pos rfl] at hR
      exact ⟨fun z => (nomatch z), fun _ => hR⟩
    · rw [bf hk]
      rw [bf hk, if_neg (by decide)] at hR
      exact ⟨fun _ => hR, fun z => (nomatch z)⟩
  · have hc' : isCurveD (.tup [tupI F, tupI A, .int r]) = false := bf hc
    rw [hc']
    rw [bf hc, Bool.false_and, if_neg (by decide)] at hR
    exact ⟨fun _ => ⟨fun _ => hR, fun z => (nomatch z)⟩, fun z => (nomatch z)⟩
theorem cin_4 {a b c : Str} {o1 : Option (List Int)} {s0 s3 s4 s5 : Option D} (hb : TxOk b) (hc : TxOk c) (l1 : ∀ F, o1 = some F → F.length ≤ 200001) (hR : P.rt (optD cvD (pickC o1 (numsIn b) (numIn c))) m) :
    r_curve_in_4 P ⟨[s0, some (.lst [.str a, .str b, .str c]), some (optD tupI o1), s3, s4, s5], x⟩ m := by
  refine ⟨_, .str b, rfl, rfl, hb, _, .str c, rfl, rfl, hc, ?_⟩
  cases o1 with
  | none => exact ⟨fun _ => ⟨fun _ => hR, fun z => (nomatch z)⟩, fun z => (nomatch z)⟩
  | some F =>
    have lF := l1 F rfl
    refine ⟨fun z => (nomatch z), fun _ => ?_⟩
    cases h2 : numsIn b with
    | none =>
      rw [h2] at hR
      exact ⟨fun _ => ⟨fun _ => hR, fun z => (nomatch z)⟩, fun z => (nomatch z)⟩
    | some A =>
      have lA := numsIn_len hb h2
      rw [h2] at hR
      refine ⟨fun z => (nomatch z), fun _ => ?_⟩
      cases h3 : numIn c with
      | none =>
        rw [h3] at hR
        exact ⟨fun _ => hR, fun z => (nomatch z)⟩
      | some r =>
        rw [h3] at hR
        exact ⟨fun z => (nomatch z), fun _ => cin_7 lF lA hR⟩
theorem v_curve_in {ds : List D} (h : sp_curve_in ds m R RX) : r_curve_in { nx := fun _ m' => R .non m', rt := R } ⟨ds.map some ++ List.replicate (6 - ds.length) none, fun _ => RX⟩ m := by
  unfold sp_curve_in at h
  split at h
  · rename_i w
    obtain ⟨hw, hR⟩ := h
    have hl := hw.ln
    have lm : ((Txt.split w " / ").map D.str).length = (Txt.split w " / ").length := List.length_map ..
    refine ⟨by decide, szn (by omega), ?_⟩
    by_cases h3 : (Txt.split w " / ").length = 3
    · refine ⟨fun z => ?_, fun _ => ⟨(by show 0 ≤ sizeLine; decide), ?_⟩⟩
      · have z : (!decide ((((Txt.split w " / ").map D.str).length : Int) = 3)) = true := z
        rw [lm, decide_eq_true (show ((Txt.split w " / ").length : Int) = 3 by omega)] at z
        cases z
      · obtain ⟨a, b, c, e⟩ := list3 h3
        have ok : ∀ p ∈ [a, b, c], TxOk p := fun p hp => split_ok sl_ne sl_k hw (by rw [e]; exact hp)
        have oa := ok a (by simp)
        have ob := ok b (by simp)
        have oc := ok c (by simp)
        have ec : curveIn w = pickC (firstIn a) (numsIn b) (numIn c) := by
          unfold curveIn
          rw [e]
          rfl
        rw [ec] at hR
        have ed : (Txt.split w " / ").map D.str = [.str a, .str b, .str c] := by rw [e]; rfl
        have go : dIf (dB (dOp neD (dOp ixD (dVar 1) (dC (.int 0))) (dC (.str "-")))) (dSet 2 (dCall sp_numbers_in (dCons (dOp ixD (dVar 1) (dC (.int 0))) dNil))) dNext { nx := r_curve_in_4 { nx := fun _ m' => R .non m', rt := R }, rt := R } ⟨[some (.str w), some (.lst [.str a, .str b, .str c]), some (.tup []), none, none, none], fun _ => RX⟩ m := by
          refine ⟨_, .str a, rfl, rfl, fun z => ?_, fun z => ?_⟩
          · have hne : ¬ a = "-" := fun h => by
              have z : (!decide (a = "-")) = true := z
              rw [decide_eq_true h] at z
              cases z
            refine ⟨_, .str a, rfl, rfl, oa, cin_4 ob oc (fun F h => firstIn_len oa (by unfold firstIn; rw [if_neg hne]; exact h)) ?_⟩
            have ef : firstIn a = numsIn a := by unfold firstIn; rw [if_neg hne]
            rw [ef] at hR
            exact hR
          · have he : a = "-" := by
              have z : (!decide (a = "-")) = false := z
              by_cases h : a = "-"
              · exact h
              · rw [decide_eq_false h] at z
                cases z
            have ef : firstIn a = some [] := by unfold firstIn; rw [if_pos he]
            rw [ef] at hR
            exact cin_4 (o1 := some []) ob oc (fun F h => by cases h; decide) hR
        rw [← ed] at go
        exact go
    · have ec : curveIn w = none := by
        unfold curveIn
        split
        · rename_i e
          rw [e] at h3
          exact absurd rfl h3
        · rfl
      rw [ec] at hR
      refine ⟨fun _ => hR, fun z => ?_⟩
      have z : (!decide ((((Txt.split w " / ").map D.str).length : Int) = 3)) = false := z
      rw [lm, decide_eq_false (show ¬ ((Txt.split w " / ").length : Int) = 3 by omega)] at z
      cases z
  · exact h.elim
end
end Tt

namespace Tt
open PySem PySem.Spec PyProof.Rows L2 Dl Nt Nz TL
open Pn (rgL_inv gd atI_end)
open Pg (atI_int crv)
theorem joinL_mem {S : List Nat} : ∀ {ps : List (List Nat)} {c : Nat}, c ∈ joinL S ps → c ∈ S ∨ ∃ p ∈ ps, c ∈ p
  | [], c, h => by cases h
  | [p], c, h => .inr ⟨p, by simp, h⟩
  | p :: q :: r, c, h => by
    have h : c ∈ p ++ (S ++ joinL S (q :: r)) := h
    rcases List.mem_append.mp h with h | h
    · exact .inr ⟨p, by simp, h⟩
    · rcases List.mem_append.mp h with h | h
      · exact .inl h
      · rcases joinL_mem h with h | ⟨p', hp, hc⟩
        · exact .inl h
        · exact .inr ⟨p', List.mem_cons_of_mem _ hp, hc⟩
theorem sum_drop_le {l : List Nat} {n : Nat} : (l.drop n).sum ≤ l.sum := by
  conv => rhs; rw [← List.take_append_drop n l, List.sum_append]
  omega
theorem join_ok {ws : List Str} (h : WsOk ws) {n : Nat} (hn : 1 ≤ n) (hl : n ≤ ws.length) : TxOk (Txt.join " " (ws.drop n)) := by
  refine ⟨?_, fun c hc => ?_⟩
  · have h1 := join_len " " (ws.drop n)
    have e : (" " : Str).length = 1 := by decide
    have h2 : ((ws.drop n).map (·.length)).sum ≤ (ws.map (·.length)).sum := by rw [List.map_drop]; exact sum_drop_le
    have h3 := h.2.2
    rw [e, List.length_drop] at h1
    omega
  · rw [join_eq, tl_join] at hc
    rcases joinL_mem hc with hc | ⟨p, hp, hc⟩
    · have e : tl (" " : Str) = [32] := by decide +kernel
      rw [e] at hc
      rw [List.mem_singleton.mp hc]
      decide
    · obtain ⟨w, hw, rfl⟩ := List.mem_map.mp hp
      exact (h.2.1 w (List.mem_of_mem_drop hw)).ch c hc
theorem join_room {ws : List Str} (h : WsOk ws) (n : Nat) : ((ws.drop n).map (·.length)).sum + (ws.drop n).length * (" " : Str).length ≤ 16777216 := by
  have e : (" " : Str).length = 1 := by decide
  have h2 : ((ws.drop n).map (·.length)).sum ≤ (ws.map (·.length)).sum := by rw [List.map_drop]; exact sum_drop_le
  have h3 := h.2.2
  rw [e, List.length_drop]
  omega
theorem TxOk.wf {w : Str} {m : Sto} (h : TxOk w) : Wf m (.str w) := .str h.ln h.ch
theorem words_at {ws : List Str} {i : Nat} (h : i < ws.length) : L2.atI (ws.map D.str) (i : Int) = some (.str (ws.getD i "")) := atN (by
  rw [List.getElem?_map, List.getElem?_eq_getElem h, List.getD_eq_getElem?_getD, List.getElem?_eq_getElem h]
  rfl)
theorem word_ok {ws : List Str} (h : WsOk ws) {i : Nat} (hi : i < ws.length) : TxOk (ws.getD i "") := by
  rw [List.getD_eq_getElem?_getD, List.getElem?_eq_getElem hi]
  exact h.2.1 _ (List.getElem_mem hi)
section
variable {m m' : Sto} {R : D → Sto → Prop} {RX : DX} {P : DEnds} {x : List (Option D) → DX}
theorem seqI_lst {i : Nat} {δ : Ev} {d : D} {xs : List D} {R : List D → (Sto → Prop) → Sto → Prop} (hδ : δ.s[i]? = some (some d)) (h : LstIs m d xs) (k : ∀ keep : Sto → Prop, (∀ m2, Le m m2 → keep m2) → R xs keep m) : seqI (dVar i) δ m R := by
  unfold seqI dVar
  rw [hδ]
  cases d with
  | lst ys => cases h; exact k _ fun _ _ => trivial
  | ptr a => exact ⟨_, _, h, rfl, k _ fun m2 l => l _ _ h⟩
  | _ => exact h.elim
theorem lc_names {δ : Ev} {R : D → Sto → Prop} {S : List (Str × Cv)} {keep : Sto → Prop} {i j : Nat} (hk : ∀ m2, Le m m2 → keep m2) (lS : S.length ≤ 6) (hi : ∀ a b, (setAll δ [i, j] [a, b]).s[i]? = some (some a)) (fl : Bool) (hR : newL fl ((S.map (·.1)).map .str) m R) :
    LcCore fl [i, j] true dYes (dVar i) δ R (S.map svD) keep m := by
  refine lc_pure fl ((S.map (·.1)).map .str) hk (by rw [List.length_map, List.length_map, List.length_map]) (by rw [List.length_map]; exact szn (by omega)) (fun k y z m3 hx hy le => ?_) hR
  rw [List.getElem?_map] at hx
  rw [List.getElem?_map, List.getElem?_map] at hy
  cases hq : S[k]? with
  | none => rw [hq] at hx; cases hx
  | some s =>
    rw [hq] at hx hy
    cases hx
    cases hy
    refine ⟨_, rfl, fun R hR => ?_⟩
    simp only [dVar, hi]
    exact hR
theorem server_1 {ws : List Str} {d : D} {s2 s3 : Option D} (hw : WsOk ws) (l3 : 3 ≤ ws.length) (hR : P.rt (optD svD ((curveIn (Txt.join " " (ws.drop 2))).map fun c => (ws.getD 1 "", c))) m) :
    r_server_in_1 P ⟨[some (.lst (ws.map .str)), some d, s2, s3], x⟩ m := by
  have ct : cut (ws.map D.str) (some ((2 : Nat) : Int)) none = (ws.drop 2).map .str := by rw [cut_lo (by rw [List.length_map]; omega), List.map_drop]
  refine ⟨ws.drop 2, ct, join_room hw 2, join_ok hw (by decide) (by omega), ?_⟩
  cases h : curveIn (Txt.join " " (ws.drop 2)) with
  | none =>
    rw [h] at hR
    exact ⟨fun _ => hR, fun z => (nomatch z)⟩
  | some c =>
    rw [h] at hR
    exact ⟨fun z => (nomatch z), fun _ => ⟨_, _, rfl, words_at (i := 1) (by omega), (by show 2 ≤ sizeLine; decide), hR⟩⟩
theorem v_server_in {ds : List D} (h : sp_server_in ds m R RX) : r_server_in { nx := fun _ m' => R .non m', rt := R } ⟨ds.map some ++ List.replicate (4 - ds.length) none, fun _ => RX⟩ m := by
  unfold sp_server_in at h
  split at h
  · rename_i w d
    obtain ⟨ws, S, rfl, hw, hS, oS, hR⟩ := h
    have lw := hw.1
    have lm : (ws.map D.str).length = ws.length := List.length_map ..
    unfold serverIn at hR
    refine ⟨fun z => ?_, fun z => ?_⟩
    · have z : ((ws.map D.str).length : Int) < 3 := of_decide_eq_true z
      rw [if_neg fun h => by have := h.1; omega] at hR
      exact ⟨fun _ => hR, fun z => (nomatch z)⟩
    · have z : ¬ ((ws.map D.str).length : Int) < 3 := of_decide_eq_false z
      refine ⟨_, _, rfl, words_at (i := 1) (by omega), (word_ok hw (by omega)).wf, ?_⟩
      by_cases hn : isName (ws.getD 1 "") = true
      · have hn' : isNameD (.str (ws.getD 1 "")) = true := hn
        rw [hn']
        refine ⟨fun z => (nomatch z), fun _ => ⟨_, _, rfl, words_at (i := 1) (by omega), ?_⟩⟩
        refine seqI_lst (i := 1) rfl hS fun keep hk => lc_names hk oS.1 (fun _ _ => rfl) false ⟨_, rfl, rfl, flat_strs, ?_⟩
        rw [if_neg (by decide), in_strs]
        by_cases hs : ws.getD 1 "" ∈ S.map (·.1)
        · rw [decide_eq_true hs]
          rw [if_neg fun h => h.2.2 hs] at hR
          exact ⟨fun _ => hR, fun z => (nomatch z)⟩
        · rw [decide_eq_false hs]
          rw [if_pos ⟨by omega, hn, hs⟩] at hR
          exact ⟨fun z => (nomatch z), fun _ => server_1 hw (by omega) hR⟩
      · have hn' : isNameD (.str (ws.getD 1 "")) = false := bf hn
        rw [hn']
        rw [if_neg fun h => hn h.2.1] at hR
        exact ⟨fun _ => ⟨fun _ => hR, fun z => (nomatch z)⟩, fun z => (nomatch z)⟩
  · exact h.elim
end
end Tt

namespace Tt
open PySem PySem.Spec PyProof.Rows L2 Dl Nt Nz TL
open Pn (rgL_inv gd atI_end)
open Pg (atI_int crv)
theorem pv_strs {m : Sto} : ∀ bs : List Str, PvL m (bs.map D.str) (bs.map PyData.str)
  | [] => .nil
  | b :: r => .cons (.str b) (pv_strs r)
theorem shaped_strs (ns : List Str) (h : ns.all PyData.strOk = true) : SeqAt.shaped (.list (ns.map .str)) = true := by
  have h1 : ∀ ns : List Str, ns.all PyData.strOk = true → PyData.canLayAll0 (ns.map PyData.str) = true := fun ns => by
    induction ns with
    | nil => intro _; rw [List.map_nil, PyData.canLayAll0]
    | cons n r ih =>
      intro h
      rw [List.all_cons, Bool.and_eq_true] at h
      rw [List.map_cons, PyData.canLayAll0, ih h.2, PyData.canLay0, h.1]
      rfl
  have h2 : ∀ ns : List Str, PyData.depthAll (ns.map PyData.str) = 0 := fun ns => by
    induction ns with
    | nil => rw [List.map_nil, PyData.depthAll]
    | cons n r ih => rw [List.map_cons, PyData.depthAll, ih, PyData.depth]; rfl
  unfold SeqAt.shaped
  rw [PyData.canLay0, h1 _ h, PyData.depth, h2]
  rfl
theorem TxOk.strOk {w : Str} (h : TxOk w) : PyData.strOk w = true := by
  unfold PyData.strOk
  rw [← Array.all_toList, List.all_eq_true]
  intro c hc
  have := h.ch c hc
  exact decide_eq_true (by omega)
theorem strs_ok {ws : List Str} (h : ∀ w ∈ ws, TxOk w) : ws.all PyData.strOk = true := by
  rw [List.all_eq_true]
  exact fun w hw => (h w hw).strOk
theorem eqv_s (a b : Str) : PyData.eqv (.str a) (.str b) = decide (a = b) := by
  rw [PyData.eqv]
  by_cases h : a = b
  · rw [decide_eq_true h, h]
    simp
  · rw [decide_eq_false h]
    simpa using h
section
variable {m m' : Sto} {R : D → Sto → Prop} {RX : DX} {P : DEnds} {x : List (Option D) → DX}
theorem lc_heads {δ : Ev} {R : D → Sto → Prop} {T : List (Str × Cv × List Str)} {keep : Sto → Prop} {i : Nat} (hk : ∀ m2, Le m m2 → keep m2) (lT : T.length ≤ 6) (hi : ∀ a, (setAll δ [i] [a]).s[i]? = some (some a)) (hR : R (.lst ((T.map (·.1)).map .str)) m) :
    LcCore false [i] false dYes (dOp ixD (dVar i) (dC (.int 0))) δ R (T.map stD) keep m := by
  refine lc_pure false ((T.map (fun t : Str × Cv × List Str => t.1)).map D.str) hk (by rw [List.length_map, List.length_map, List.length_map]) (by rw [List.length_map]; exact szn (by omega)) (fun k y z m3 hx hy le => ?_) hR
  rw [List.getElem?_map] at hx
  rw [List.getElem?_map, List.getElem?_map] at hy
  cases hq : T[k]? with
  | none => rw [hq] at hx; cases hx
  | some s =>
    rw [hq] at hx hy
    cases hx
    cases hy
    refine ⟨_, rfl, fun R hR => ?_⟩
    simp only [dOp, dVar, hi, dC]
    exact ⟨_, _, rfl, at0, hR⟩
theorem lst_or {d : D} {xs : List D} (h : LstIs m d xs) : d = .lst xs ∨ ∃ a, d = .ptr a ∧ m a = some (.lst xs) := by
  cases d with
  | lst ys => cases h; exact .inl rfl
  | ptr a => exact .inr ⟨a, rfl, h⟩
  | _ => exact h.elim
theorem stream_4 {ws rt : List Str} {S : List (Str × Cv)} {d : D} {j : Nat} {s2 s5 s6 s7 : Option D} (hw : WsOk ws) (l3 : 3 ≤ ws.length) (hj : j < ws.length) (hS : LstAt m d svD S) (oS : SOk S) (hr : rt.length ≤ 300000 ∧ ∀ w ∈ rt, TxOk w)
    (hR : P.rt (optD stD (match curveIn (Txt.join " " (ws.drop (j + 1))) with
      | some c => if isRouteD (S.map (·.1)) (.tup (rt.map .str)) = true then some (ws.getD 1 "", c, rt) else none
      | none => none)) m) :
    r_stream_in_4 P ⟨[some (.lst (ws.map .str)), some d, s2, some (.int (j : Int)), some (.tup (rt.map .str)), s5, s6, s7], x⟩ m := by
  have ct : cut (ws.map D.str) (some ((j : Int) + 1)) none = (ws.drop (j + 1)).map .str := by
    rw [show (j : Int) + 1 = ((j + 1 : Nat) : Int) by omega, cut_lo (by rw [List.length_map]; omega), List.map_drop]
  refine ⟨ws.drop (j + 1), ct, join_room hw (j + 1), join_ok hw (by omega) (by omega), ?_⟩
  cases h : curveIn (Txt.join " " (ws.drop (j + 1))) with
  | none =>
    rw [h] at hR
    exact ⟨fun _ => ⟨fun _ => hR, fun z => (nomatch z)⟩, fun z => (nomatch z)⟩
  | some c =>
    rw [h] at hR
    have hR : P.rt (optD stD (if isRouteD (S.map (·.1)) (.tup (rt.map .str)) = true then some (ws.getD 1 "", c, rt) else none)) m := hR
    refine ⟨fun z => (nomatch z), fun _ => ?_⟩
    rcases lst_or hS with rfl | ⟨a, rfl, ha⟩
    · refine lc_names (i := 7) (j := 6) (fun _ _ => trivial) oS.1 (fun _ _ => rfl) false ⟨S.map (·.1), rfl, by rw [List.length_map]; have := oS.1; omega, .tup (by rw [List.length_map]; exact hr.1) (fun d hd => ?_), ?_⟩
      · obtain ⟨w, hw', rfl⟩ := List.mem_map.mp hd
        exact (hr.2 w hw').wf
      · by_cases hi : isRouteD (S.map (·.1)) (.tup (rt.map .str)) = true
        · rw [hi]
          rw [if_pos hi] at hR
          exact ⟨fun z => (nomatch z), fun _ => ⟨_, _, rfl, words_at (i := 1) (by omega), (by show 3 ≤ sizeLine; decide), hR⟩⟩
        · rw [bf hi]
          rw [if_neg hi] at hR
          exact ⟨fun _ => hR, fun z => (nomatch z)⟩
    · refine ⟨_, _, ha, rfl, lc_names (i := 7) (j := 6) (fun m2 l => l _ _ ha) oS.1 (fun _ _ => rfl) false ⟨S.map (·.1), rfl, by rw [List.length_map]; have := oS.1; omega, .tup (by rw [List.length_map]; exact hr.1) (fun d hd => ?_), ?_⟩⟩
      · obtain ⟨w, hw', rfl⟩ := List.mem_map.mp hd
        exact (hr.2 w hw').wf
      · by_cases hi : isRouteD (S.map (·.1)) (.tup (rt.map .str)) = true
        · rw [hi]
          rw [if_pos hi] at hR
          exact ⟨fun z => (nomatch z), fun _ => ⟨_, _, rfl, words_at (i := 1) (by omega), (by show 3 ≤ sizeLine; decide), hR⟩⟩
        · rw [bf hi]
          rw [if_neg hi] at hR
          exact ⟨fun _ => hR, fun z => (nomatch z)⟩
theorem stream_3 {ws rt : List Str} {S : List (Str × Cv)} {T : List (Str × Cv × List Str)} {d e : D} {j : Nat} {s5 s6 s7 : Option D} (hw : WsOk ws) (l3 : 3 ≤ ws.length) (hj : j < ws.length) (hS : LstAt m d svD S) (oS : SOk S) (hT : LstAt m e stD T) (oT : TOk T) (hr : rt.length ≤ 300000 ∧ ∀ w ∈ rt, TxOk w)
    (hR : P.rt (optD stD (if isName (ws.getD 1 "") = true ∧ ws.getD 1 "" ∉ T.map (·.1) then
      match curveIn (Txt.join " " (ws.drop (j + 1))) with
      | some c => if isRouteD (S.map (·.1)) (.tup (rt.map .str)) = true then some (ws.getD 1 "", c, rt) else none
      | none => none else none)) m) :
    r_stream_in_3 P ⟨[some (.lst (ws.map .str)), some d, some e, some (.int (j : Int)), some (.tup (rt.map .str)), s5, s6, s7], x⟩ m := by
  refine ⟨_, _, rfl, words_at (i := 1) (by omega), (word_ok hw (by omega)).wf, ?_⟩
  by_cases hn : isName (ws.getD 1 "") = true
  · have hn' : isNameD (.str (ws.getD 1 "")) = true := hn
    rw [hn']
    refine ⟨fun z => (nomatch z), fun _ => ⟨_, _, rfl, words_at (i := 1) (by omega), ?_⟩⟩
    refine seqI_lst (i := 2) rfl hT fun keep hk => lc_heads hk oT.1 (fun _ => rfl) ⟨_, rfl, rfl, flat_strs, ?_⟩
    rw [if_neg (by decide), in_strs]
    by_cases hs : ws.getD 1 "" ∈ T.map (·.1)
    · rw [decide_eq_true hs]
      rw [if_neg fun h => h.2 hs] at hR
      exact ⟨fun _ => hR, fun z => (nomatch z)⟩
    · rw [decide_eq_false hs]
      rw [if_pos ⟨hn, hs⟩] at hR
      exact ⟨fun z => (nomatch z), fun _ => stream_4 hw l3 hj hS oS hr hR⟩
  · have hn' : isNameD (.str (ws.getD 1 "")) = false := bf hn
    rw [hn']
    rw [if_neg fun h => hn h.1] at hR
    exact ⟨fun _ => ⟨fun _ => hR, fun z => (nomatch z)⟩, fun z => (nomatch z)⟩
theorem cut3 {xs : List D} {j : Nat} (hl : 3 ≤ xs.length) (h : j ≤ xs.length) : cut xs (some 3) (some (j : Int)) = (xs.take j).drop 3 := by
  unfold cut
  rw [show (3 : Int) = ((3 : Nat) : Int) from rfl, HT.sIx_nat, HT.sIx_nat, Nat.min_eq_left hl, Nat.min_eq_left h, List.drop_take]
theorem stream_1 {ws : List Str} {S : List (Str × Cv)} {T : List (Str × Cv × List Str)} {d e : D} {s3 s4 s5 s6 s7 : Option D} (hw : WsOk ws) (l3 : 3 ≤ ws.length) (hv : ws.getD 2 "" = "via") (hm : (":" : Str) ∈ ws) (hS : LstAt m d svD S) (oS : SOk S) (hT : LstAt m e stD T) (oT : TOk T)
    (hR : P.rt (optD stD (streamIn ws S T)) m) :
    r_stream_in_1 P ⟨[some (.lst (ws.map .str)), some d, some e, s3, s4, s5, s6, s7], x⟩ m := by
  have hj : ws.idxOf (":" : Str) < ws.length := List.idxOf_lt_length_iff.mpr hm
  unfold streamIn at hR
  rw [if_pos ⟨l3, hv, hm⟩] at hR
  have sc : SeqAt.shaped (.str (":" : Str)) = true := by
    unfold SeqAt.shaped
    rw [PyData.canLay0, PyData.depth]
    decide +kernel
  generalize hjj : ws.idxOf (":" : Str) = j at hj hR
  refine ⟨⟨_, rfl⟩, _, rfl, ws.map .str, .str ":", j, .str ":", pv_strs ws, .str _, shaped_strs ws (strs_ok hw.2.1), sc, ?_, ?_, fun i z' hi hz => ?_, ?_⟩
  · rw [List.getElem?_map, List.getElem?_eq_getElem hj]
    subst hjj
    rw [List.getElem_idxOf hj]
    rfl
  · rw [eqv_s]
    exact decide_eq_true rfl
  · rw [List.getElem?_map, List.getElem?_eq_getElem (by omega)] at hz
    cases hz
    rw [eqv_s]
    refine decide_eq_false fun h => ?_
    subst hjj
    have := List.not_of_lt_findIdx (p := fun x => x == (":" : Str)) (xs := ws) hi
    rw [h] at this
    simp at this
  · have ct : cut (ws.map D.str) (some 3) (some (j : Int)) = ((ws.take j).drop 3).map .str := by
      rw [cut3 (by rw [List.length_map]; omega) (by rw [List.length_map]; omega), List.map_drop, List.map_take]
    have key := stream_3 (P := P) (x := x) (rt := (ws.take j).drop 3) (s5 := s5) (s6 := s6) (s7 := s7) hw l3 hj hS oS hT oT ⟨by rw [List.length_drop, List.length_take]; have := hw.1; omega, fun w hw' => hw.2.1 w (List.mem_of_mem_take (List.mem_of_mem_drop hw'))⟩ hR
    rw [← ct] at key
    exact ⟨_, rfl, key⟩
theorem v_stream_in {ds : List D} (h : sp_stream_in ds m R RX) : r_stream_in { nx := fun _ m' => R .non m', rt := R } ⟨ds.map some ++ List.replicate (8 - ds.length) none, fun _ => RX⟩ m := by
  unfold sp_stream_in at h
  split at h
  · rename_i w d e
    obtain ⟨ws, S, T, rfl, hw, hS, oS, hT, oT, hR⟩ := h
    have lm : (ws.map D.str).length = ws.length := List.length_map ..
    refine ⟨fun z => ?_, fun z => ?_⟩
    · have z : ((ws.map D.str).length : Int) < 3 := of_decide_eq_true z
      unfold streamIn at hR
      rw [if_neg fun h => by have := h.1; omega] at hR
      exact ⟨fun _ => hR, fun z => (nomatch z)⟩
    · have z : ¬ ((ws.map D.str).length : Int) < 3 := of_decide_eq_false z
      refine ⟨_, _, rfl, words_at (i := 2) (by omega), ?_⟩
      by_cases hv : ws.getD 2 "" = "via"
      · refine ⟨fun z => ?_, fun _ => ⟨_, rfl, rfl, flat_strs, ?_⟩⟩
        · have z : (!decide (ws.getD 2 "" = "via")) = true := z
          rw [decide_eq_true hv] at z
          cases z
        · rw [if_pos rfl, in_strs]
          by_cases hm : (":" : Str) ∈ ws
          · rw [decide_eq_true hm]
            exact ⟨fun z => (nomatch z), fun _ => stream_1 hw (by omega) hv hm hS oS hT oT hR⟩
          · rw [decide_eq_false hm]
            unfold streamIn at hR
            rw [if_neg fun h => hm h.2.2] at hR
            exact ⟨fun _ => hR, fun z => (nomatch z)⟩
      · refine ⟨fun _ => ⟨fun _ => ?_, fun z => (nomatch z)⟩, fun z => ?_⟩
        · unfold streamIn at hR
          rw [if_neg fun h => hv h.2.1] at hR
          exact hR
        · have z : (!decide (ws.getD 2 "" = "via")) = false := z
          rw [decide_eq_false hv] at z
          cases z
  · exact h.elim
end
end Tt

namespace Tt
open PySem PySem.Spec PyProof.Rows L2 Dl Nt Nz TL
open Pn (rgL_inv gd atI_end)
open Pg (atI_int crv)
/-- data that may be compared -/
def Ly (m : Sto) (k : Nat) (d : D) : Prop := ∃ q, Pv m d q ∧ q.canLay0 = true ∧ q.depth ≤ k
section
variable {m : Sto} {k : Nat}
theorem Ly.int (i : Int) : Ly m k (.int i) := ⟨.int i, .int i, by rw [PyData.canLay0], by rw [PyData.depth]; exact Nat.zero_le _⟩
theorem Ly.str {z : Str} (h : PyData.strOk z = true) : Ly m k (.str z) := ⟨.str z, .str z, by rw [PyData.canLay0, h], by rw [PyData.depth]; exact Nat.zero_le _⟩
theorem Ly.items : ∀ {ds : List D}, (∀ x ∈ ds, Ly m k x) → ∃ qs, PvL m ds qs ∧ PyData.canLayAll0 qs = true ∧ PyData.depthAll qs ≤ k ∧ qs.length = ds.length
  | [], _ => ⟨[], .nil, by rw [PyData.canLayAll0], by rw [PyData.depthAll]; exact Nat.zero_le _, rfl⟩
  | d :: ds, h => by
    obtain ⟨qs, a, b, c, e⟩ := Ly.items (ds := ds) fun x hx => h x (List.mem_cons_of_mem _ hx)
    obtain ⟨q, a1, b1, c1⟩ := h d List.mem_cons_self
    exact ⟨q :: qs, .cons a1 a, by rw [PyData.canLayAll0, b1, b]; rfl, by rw [PyData.depthAll]; exact Nat.max_le.mpr ⟨c1, c⟩, congrArg Nat.succ e⟩
theorem Ly.tup {ds : List D} (h : ∀ x ∈ ds, Ly m k x) : Ly m (k + 1) (.tup ds) := by
  obtain ⟨qs, a, b, c, _⟩ := Ly.items h
  exact ⟨.tuple qs, .tup a, by rw [PyData.canLay0, b], by rw [PyData.depth]; omega⟩
theorem name_strOk {z : Str} (h : isName z = true) : PyData.strOk z = true := by
  obtain ⟨_, _, h3⟩ := name_lets h
  unfold PyData.strOk
  rw [← Array.all_toList, List.all_eq_true]
  intro c hc
  have := let_sm (h3 c hc)
  exact decide_eq_true (by omega)
theorem Ly.ints (ns : List Int) : Ly m (k + 1) (.tup (ns.map .int)) := Ly.tup fun x hx => by
  obtain ⟨i, _, rfl⟩ := List.mem_map.mp hx
  exact Ly.int i
theorem Ly.cv (c : Cv) : Ly m 2 (cvD c) := Ly.tup (mem3 (Ly.ints (k := 0) c.F) (Ly.ints (k := 0) c.A) (Ly.int c.r))
theorem Ly.sv {s : Str × Cv} (h : isName s.1 = true) : Ly m 3 (svD s) := Ly.tup (mem2 (Ly.str (name_strOk h)) (Ly.cv s.2))
theorem Ly.st {t : Str × Cv × List Str} (h : isName t.1 = true) (hz : ∀ z ∈ t.2.2, isName z = true) : Ly m 3 (stD t) := Ly.tup (mem3 (Ly.str (name_strOk h)) (Ly.cv t.2.1) (Ly.tup (k := 1) fun x hx => by
  obtain ⟨z, hz', rfl⟩ := List.mem_map.mp hx
  exact Ly.str (name_strOk (hz z hz'))))
theorem shaped_nil : SeqAt.shaped (.list []) = true := by
  unfold SeqAt.shaped
  rw [PyData.canLay0, PyData.canLayAll0, PyData.depth, PyData.depthAll]
  rfl
theorem eq_nil {α : Type} {d : D} {f : α → D} {l : List α} (h : LstAt m d f l) (hl : ∀ a ∈ l, Ly m 3 (f a)) : ∃ p q, Pv m d p ∧ Pv m (.lst []) q ∧ SeqAt.shaped p = true ∧ SeqAt.shaped q = true ∧ PyData.eqv p q = decide (l = []) := by
  obtain ⟨qs, a, b, c, e⟩ := Ly.items (m := m) (k := 3) (ds := l.map f) fun x hx => by
    obtain ⟨y, hy, rfl⟩ := List.mem_map.mp hx
    exact hl y hy
  refine ⟨.list qs, .list [], LstIs.pv h a, .lst .nil, ?_, shaped_nil, ?_⟩
  · unfold SeqAt.shaped
    rw [PyData.canLay0, b, PyData.depth]
    exact decide_eq_true (show PyData.depthAll qs + 1 ≤ 64 by omega)
  · rw [PyData.eqv]
    rw [List.length_map] at e
    cases l with
    | nil =>
      cases qs with
      | nil => rw [PyData.eqvAll]; rfl
      | cons _ _ => simp at e
    | cons _ _ =>
      cases qs with
      | nil => simp at e
      | cons _ _ => rw [PyData.eqvAll]; rfl
end
section
variable {m m' : Sto} {R : D → Sto → Prop} {RX : DX} {P : DEnds} {x : List (Option D) → DX}
theorem eqD_nil {α : Type} {d : D} {f : α → D} {l : List α} (h : LstAt m d f l) (hl : ∀ a ∈ l, Ly m 3 (f a)) (hR : R (.bl (decide (l = []))) m) : eqD d (.lst []) m R := by
  obtain ⟨p, q, h1, h2, h3, h4, h5⟩ := eq_nil h hl
  rw [← h5] at hR
  rcases lst_or h with rfl | ⟨a, rfl, ha⟩
  · exact ⟨p, q, h1, h2, h3, h4, hR⟩
  · exact ⟨p, q, h1, h2, h3, h4, hR⟩
theorem neD_nil {α : Type} {d : D} {f : α → D} {l : List α} (h : LstAt m d f l) (hl : ∀ a ∈ l, Ly m 3 (f a)) (hR : R (.bl (!decide (l = []))) m) : neD d (.lst []) m R := by
  obtain ⟨p, q, h1, h2, h3, h4, h5⟩ := eq_nil h hl
  rw [← h5] at hR
  rcases lst_or h with rfl | ⟨a, rfl, ha⟩
  · exact ⟨p, q, h1, h2, h3, h4, hR⟩
  · exact ⟨p, q, h1, h2, h3, h4, hR⟩
theorem eqD_nil' {α : Type} {d : D} {f : α → D} {l : List α} (h : LstAt m d f l) (hl : ∀ a ∈ l, Ly m 3 (f a)) (hR : R (.bl (decide (l = []))) m) : newL false [] m fun e m2 => eqD d e m2 R := eqD_nil h hl hR
theorem neD_nil' {α : Type} {d : D} {f : α → D} {l : List α} (h : LstAt m d f l) (hl : ∀ a ∈ l, Ly m 3 (f a)) (hR : R (.bl (!decide (l = []))) m) : newL false [] m fun e m2 => neD d e m2 R := neD_nil h hl hR
theorem len_lst {d : D} {xs : List D} (h : LstIs m d xs) (hR : R (.int (xs.length : Int)) m) : lenD [d] m R := by
  rcases lst_or h with rfl | ⟨a, rfl, ha⟩
  · exact hR
  · exact ⟨_, _, ha, rfl, hR⟩
theorem len_lt {d : D} {xs : List D} {i : Nat} {n : Int} {δ : Ev} {Q : Bool → Sto → Prop} (hδ : δ.s[i]? = some (some d)) (h : LstIs m d xs) (hR : Q (decide ((xs.length : Int) < n)) m) : dB (dOp ltD (dCB lenD (dCons (dVar i) dNil)) (dC (.int n))) δ m Q := by
  show dVar i δ m _
  unfold dVar
  rw [hδ]
  rcases lst_or h with rfl | ⟨a, rfl, ha⟩
  · exact hR
  · exact ⟨_, _, ha, rfl, hR⟩
theorem split_ws {l : Str} (h : TxOk l) : WsOk (Txt.split l " ") := by
  refine ⟨split_cnt bl_ne bl_k h, fun w hw => split_ok bl_ne bl_k h hw, ?_⟩
  have h1 := split_sum (x := l) (y := " ") bl_ne bl_k
  have e : (" " : Str).length = 1 := by decide
  have := h.ln
  rw [e, Nat.mul_one] at h1
  omega
theorem opt_sv (o : Option (Str × Cv)) : optD prtD (o.map Prt.sv) = optD svD o := by cases o <;> rfl
theorem opt_st (o : Option (Str × Cv × List Str)) : optD prtD (o.map Prt.st) = optD stD o := by cases o <;> rfl
theorem part_2 {l : Str} {d e : D} {S : List (Str × Cv)} {T : List (Str × Cv × List Str)} (hl : TxOk l) (hS : LstAt m d svD S) (oS : SOk S) (hT : LstAt m e stD T) (oT : TOk T)
    (hR : P.rt (optD prtD (if (Txt.split l " ").getD 0 "" = "stream" ∧ S ≠ [] ∧ T.length < 6 then (streamIn (Txt.split l " ") S T).map .st else none)) m) :
    r_part_in_2 P ⟨[some (.str l), some d, some e, some (.lst ((Txt.split l " ").map .str))], x⟩ m := by
  have w0 : 0 < (Txt.split l " ").length := List.length_pos_iff.mpr (split_ne bl_ne bl_k)
  have lT : (T.map stD).length = T.length := List.length_map ..
  refine ⟨_, _, rfl, words_at (i := 0) w0, fun z => ?_, fun z => ⟨fun c => (nomatch c), fun _ => ?_⟩⟩
  · have hw : (Txt.split l " ").getD 0 "" = "stream" := of_decide_eq_true z
    refine ⟨(by show 0 ≤ sizeLine; decide), neD_nil' hS (fun s hs => Ly.sv (oS.2 s hs)) ?_⟩
    refine ⟨fun z => len_lt (i := 2) rfl hT ⟨fun z2 => ?_, fun z2 => ?_⟩, fun z => ⟨fun c => (nomatch c), fun _ => ?_⟩⟩
    · have hs : S ≠ [] := by
        intro h
        have z : (!decide (S = [])) = true := z
        rw [decide_eq_true h] at z
        cases z
      have z2 : ((T.map stD).length : Int) < 6 := of_decide_eq_true z2
      rw [if_pos ⟨hw, hs, by omega⟩, opt_st] at hR
      exact ⟨_, S, T, rfl, split_ws hl, hS, oS, hT, oT, hR⟩
    · have z2 : ¬ ((T.map stD).length : Int) < 6 := of_decide_eq_false z2
      rw [if_neg fun h => by have := h.2.2; omega] at hR
      exact hR
    · have hs : S = [] := by
        have z : (!decide (S = [])) = false := z
        by_cases h : S = []
        · exact h
        · rw [decide_eq_false h] at z
          cases z
      rw [if_neg fun h => h.2.1 hs] at hR
      exact hR
  · have hw : ¬ (Txt.split l " ").getD 0 "" = "stream" := of_decide_eq_false z
    rw [if_neg fun h => hw h.1] at hR
    exact hR
theorem part_1 {l : Str} {d e : D} {S : List (Str × Cv)} {T : List (Str × Cv × List Str)} (hl : TxOk l) (hS : LstAt m d svD S) (oS : SOk S) (hT : LstAt m e stD T) (oT : TOk T)
    (hR : P.rt (optD prtD (partIn l S T)) m) :
    r_part_in_1 P ⟨[some (.str l), some d, some e, some (.lst ((Txt.split l " ").map .str))], x⟩ m := by
  have w0 : 0 < (Txt.split l " ").length := List.length_pos_iff.mpr (split_ne bl_ne bl_k)
  have lS : (S.map svD).length = S.length := List.length_map ..
  unfold partIn at hR
  refine ⟨_, _, rfl, words_at (i := 0) w0, fun z => ?_, fun z => ⟨fun c => (nomatch c), fun _ => ?_⟩⟩
  · have hw : (Txt.split l " ").getD 0 "" = "server" := of_decide_eq_true z
    refine ⟨(by show 0 ≤ sizeLine; decide), eqD_nil' hT (fun t ht => Ly.st (oT.2 t ht).1 (oT.2 t ht).2) ?_⟩
    refine ⟨fun z => len_lt (i := 1) rfl hS ⟨fun z2 => ?_, fun z2 => ?_⟩, fun z => ⟨fun c => (nomatch c), fun _ => ?_⟩⟩
    · have ht : T = [] := of_decide_eq_true z
      have z2 : ((S.map svD).length : Int) < 6 := of_decide_eq_true z2
      rw [if_pos ⟨hw, ht, by omega⟩, opt_sv] at hR
      exact ⟨_, S, rfl, split_ws hl, hS, oS, hR⟩
    · have z2 : ¬ ((S.map svD).length : Int) < 6 := of_decide_eq_false z2
      rw [if_neg fun h => by have := h.2.2; omega] at hR
      exact part_2 hl hS oS hT oT hR
    · have ht : ¬ T = [] := of_decide_eq_false z
      rw [if_neg fun h => ht h.2.1] at hR
      exact part_2 hl hS oS hT oT hR
  · have hw : ¬ (Txt.split l " ").getD 0 "" = "server" := of_decide_eq_false z
    rw [if_neg fun h => hw h.1] at hR
    exact part_2 hl hS oS hT oT hR
theorem v_part_in {ds : List D} (h : sp_part_in ds m R RX) : r_part_in { nx := fun _ m' => R .non m', rt := R } ⟨ds.map some ++ List.replicate (4 - ds.length) none, fun _ => RX⟩ m := by
  unfold sp_part_in at h
  split at h
  · obtain ⟨S, T, hl, hS, oS, hT, oT, hR⟩ := h
    have := hl.ln
    exact ⟨by decide, szn (by omega), part_1 hl hS oS hT oT hR⟩
  · exact h.elim
end
end Tt

namespace Tt
open PySem PySem.Spec PyProof.Rows L2 Dl Nt Nz TL
open Pn (rgL_inv gd atI_end)
open Pg (atI_int crv)
theorem la (a b : Str) : (a ++ b).length = a.length + b.length := by rw [len_tl, tl_append, List.length_append, ← len_tl, ← len_tl]
theorem ae (a : Str) : Str.empty ++ a = a := ext_tl (by rw [tl_append]; rfl)
theorem serverT_len {s : Str × Cv} (hn : isName s.1 = true) (hc : CvOk s.2) : (serverT s).length ≤ 140060 := by
  have h1 := showC_len hc
  have h2 := (name_lets hn).2.1
  have e1 : ("server " : Str).length = 7 := by decide
  have e2 : (" " : Str).length = 1 := by decide
  unfold serverT
  rw [la, la, la, e1, e2]
  omega
theorem streamT_len {t : Str × Cv × List Str} (hn : isName t.1 = true) (hc : CvOk t.2.1) (hl : t.2.2.length ≤ 6) (hz : ∀ z ∈ t.2.2, isName z = true) : (streamT t).length ≤ 140200 ∧ (([("stream" : Str), t.1, "via"] ++ t.2.2 ++ [(":" : Str), showC t.2.1]).map (·.length)).sum ≤ 140180 := by
  have h1 := showC_len hc
  have h2 := (name_lets hn).2.1
  have e1 : ("stream" : Str).length = 6 := by decide
  have e2 : ("via" : Str).length = 3 := by decide
  have e3 : (":" : Str).length = 1 := by decide
  have e4 : (" " : Str).length = 1 := by decide
  have h3 : (t.2.2.map (·.length)).sum ≤ t.2.2.length * 8 := sum_map_le fun z h => (name_lets (hz z h)).2.1
  have hs : (([("stream" : Str), t.1, "via"] ++ t.2.2 ++ [(":" : Str), showC t.2.1]).map (·.length)).sum ≤ 140180 := by
    simp only [List.map_append, List.sum_append, List.map_cons, List.map_nil, List.sum_cons, List.sum_nil]
    omega
  have hj := join_len " " ([("stream" : Str), t.1, "via"] ++ t.2.2 ++ [(":" : Str), showC t.2.1])
  have hl2 : ([("stream" : Str), t.1, "via"] ++ t.2.2 ++ [(":" : Str), showC t.2.1]).length = t.2.2.length + 5 := by simp
  rw [hl2, e4] at hj
  unfold streamT
  exact ⟨by omega, hs⟩
section
variable {m m' : Sto} {R : D → Sto → Prop} {RX : DX} {P : DEnds} {x : List (Option D) → DX}
theorem show_l1 {t : Str × Cv × List Str} {q : Addr} {L : List Str} {s0 : Option D} (hq : m q = some (.lst (L.map .str))) (lL : L.length ≤ 100) (hn : isName t.1 = true) (hc : CvOk t.2.1) (hl : t.2.2.length ≤ 6) (hz : ∀ z ∈ t.2.2, isName z = true)
    (hR : P.nx ⟨[s0, some (.ptr q), some (.str t.1), some (cvD t.2.1), some (.tup (t.2.2.map .str))], x⟩ (up m q (.lst ((L ++ [streamT t]).map .str)))) :
    r_show_net_l1 P ⟨[s0, some (.ptr q), some (.str t.1), some (cvD t.2.1), some (.tup (t.2.2.map .str))], x⟩ m := by
  obtain ⟨_, hs⟩ := streamT_len hn hc hl hz
  have lz : (t.2.2.map D.str).length = t.2.2.length := List.length_map ..
  have e4 : (" " : Str).length = 1 := by decide
  have el : ([D.str "stream", .str t.1, .str "via"] ++ t.2.2.map D.str) ++ [D.str ":", .str (showC t.2.1)] = ([("stream" : Str), t.1, "via"] ++ t.2.2 ++ [(":" : Str), showC t.2.1]).map D.str := by simp
  refine ⟨⟨_, _, hq, rfl⟩, (by show 3 ≤ sizeLine; decide), _, rfl, _, _, rfl, rfl, szn (by show 3 + _ ≤ _; omega), t.2.1, rfl, hc, (by show 2 ≤ sizeLine; decide), _, _, rfl, rfl, szn (by show ([D.str "stream", .str t.1, .str "via"] ++ t.2.2.map D.str).length + 2 ≤ _; rw [List.length_append]; show 3 + _ + 2 ≤ _; omega), _, el, ?_, _, hq, ?_, ?_⟩
  · rw [e4]
    have : ([("stream" : Str), t.1, "via"] ++ t.2.2 ++ [(":" : Str), showC t.2.1]).length = t.2.2.length + 5 := by simp
    rw [this]
    omega
  · rw [List.length_map]
    exact Nat.lt_of_le_of_lt lL (by decide)
  · rw [List.map_append] at hR
    exact hR
theorem v_show_net {ds : List D} (h : sp_show_net ds m R RX) : r_show_net { nx := fun _ m' => R .non m', rt := R } ⟨ds.map some ++ List.replicate (5 - ds.length) none, fun _ => RX⟩ m := by
  unfold sp_show_net at h
  split at h
  · obtain ⟨S, T, rfl, lS, lT, hS, hT, hR⟩ := h
    refine ⟨_, .tup (S.map svD), rfl, rfl, lc_pure true ((S.map serverT).map .str) (fun _ _ => trivial) (by rw [List.length_map, List.length_map, List.length_map]) (by rw [List.length_map]; exact szn (by omega)) (fun k y z m3 hx hy le => ?_) fun q hq => ⟨_, .tup (T.map stD), rfl, rfl, ?_⟩⟩
    · rw [List.getElem?_map] at hx
      rw [List.getElem?_map, List.getElem?_map] at hy
      cases hs : S[k]? with
      | none => rw [hs] at hx; cases hx
      | some s =>
        rw [hs] at hx hy
        cases hx
        cases hy
        obtain ⟨hn, hc⟩ := hS s (List.mem_of_getElem? hs)
        have h1 := showC_len hc
        have h2 := (name_lets hn).2.1
        have e0 : Str.empty.length = 0 := by decide
        have e1 : ("server " : Str).length = 7 := by decide
        have e2 : (" " : Str).length = 1 := by decide
        refine ⟨_, rfl, fun R hR => ⟨szn (by rw [la, e0, e1]; decide), szn (by omega), szn (by rw [la, la, e0, e1]; omega), szn (by rw [la, la, la, e0, e1, e2]; omega), s.2, rfl, hc, szn (by omega), szn (by rw [la, la, la, la, e0, e1, e2]; omega), ?_⟩⟩
        show R (.str (Str.empty ++ "server " ++ s.1 ++ " " ++ showC s.2)) m3
        rw [ae]
        exact hR
    · refine ⟨fun i δ m' => ∃ t2 t3 t4, m' = up m q (.lst ((S.map serverT ++ (T.take i).map streamT).map .str)) ∧ δ = ⟨[some (netD S T), some (.ptr q), t2, t3, t4], fun _ => RX⟩, ⟨none, none, none, by simp, rfl⟩, fun _ _ _ _ => trivial, ?_, ?_⟩
      · rintro i y δ m1 hx ⟨t2, t3, t4, rfl, rfl⟩
        rw [List.getElem?_map] at hx
        cases ht : T[i]? with
        | none => rw [ht] at hx; cases hx
        | some t =>
          rw [ht] at hx
          cases hx
          obtain ⟨hn, hc, hl, hz⟩ := hT t (List.mem_of_getElem? ht)
          refine ⟨rfl, show_l1 (L := S.map serverT ++ (T.take i).map streamT) up_same ?_ hn hc hl hz ⟨_, _, _, ?_, rfl⟩⟩
          · rw [List.length_append, List.length_map, List.length_map, List.length_take]
            omega
          · rw [up_up, List.take_add_one, ht, List.map_append (f := streamT), ← List.append_assoc]
            rfl
      · rintro δ m1 ⟨t2, t3, t4, rfl, rfl⟩
        rw [List.length_map, List.take_length]
        refine ⟨q, _, rfl, up_same, S.map serverT ++ T.map streamT, rfl, ?_, ?_⟩
        · have hs : ((S.map serverT ++ T.map streamT).map (·.length)).sum ≤ (S.map serverT ++ T.map streamT).length * 140200 := sum_map_le fun a ha => by
            rcases List.mem_append.mp ha with ha | ha
            · obtain ⟨s, hs, rfl⟩ := List.mem_map.mp ha
              have := serverT_len (hS s hs).1 (hS s hs).2
              omega
            · obtain ⟨t, ht, rfl⟩ := List.mem_map.mp ha
              obtain ⟨a, b, c, d⟩ := hT t ht
              exact (streamT_len a b c d).1
          have hl : (S.map serverT ++ T.map streamT).length ≤ 12 := by rw [List.length_append, List.length_map, List.length_map]; omega
          have e : ("\n" : Str).length = 1 := by decide
          rw [e]
          have := Nat.mul_le_mul_right 140200 hl
          omega
        · show R _ (del (up m q _) q)
          rw [del_up hq]
          exact hR
  · exact h.elim
end
end Tt

/-! What is written and read again: plain. -/
namespace Tt
open PySem PySem.Spec PyProof.Rows L2 Dl Nt Nz TL
theorem numL_head : ∀ n : Nat, (numL n)[0]? = some 48 → n = 0 := fun n => by
  induction n using Nat.strongRecOn with
  | ind n ih =>
    intro h
    by_cases hn : n < 10
    · rw [numL_lt hn] at h
      have : 48 + n = 48 := by simpa using h
      omega
    · rw [numL_step (by omega)] at h
      have hl : 0 < (numL (n / 10)).length := List.length_pos_iff.mpr (numL_ne _)
      rw [List.getElem?_append_left hl] at h
      have := ih (n / 10) (Nat.div_lt_self (by omega) (by decide)) h
      omega
theorem numOk_num {i : Int} (h0 : 0 ≤ i) (h1 : i < 10 ^ 30) : numOk (numT i) = true := by
  have hl := numT_len h0 h1
  have ht := numT_tl h0
  have hp : 1 ≤ (numT i).length := by
    rw [len_tl, ht]
    exact List.length_pos_iff.mpr (numL_ne _)
  have ha : (tl (numT i)).all isFig = true := by
    rw [ht, List.all_eq_true]
    intro c hc
    have := numL_digits _ c hc
    unfold isFig
    rw [decide_eq_true this.1, decide_eq_true this.2]
    rfl
  have hz : (decide ((tl (numT i))[0]? = some 48) && decide (1 < (numT i).length)) = false := by
    by_cases h : (tl (numT i))[0]? = some 48
    · rw [ht] at h
      have hn := numL_head _ h
      have : (numT i).length = 1 := by rw [len_tl, ht, hn, numL_lt (by decide)]; rfl
      rw [decide_eq_false (show ¬ 1 < (numT i).length by omega), Bool.and_false]
    · rw [decide_eq_false h, Bool.false_and]
  unfold numOk
  rw [decide_eq_true hp, decide_eq_true hl, ha, hz]
  rfl
theorem numV_num {i : Int} (h0 : 0 ≤ i) : numV (numT i) = i := by
  unfold numV
  rw [numT_tl h0, numL_val]
  omega
theorem numIn_num {i : Int} (h0 : 0 ≤ i) (h1 : i < 10 ^ 30) : numIn (numT i) = some i := by
  unfold numIn
  rw [if_pos (numOk_num h0 h1), numV_num h0]
theorem num_free {i : Int} (h0 : 0 ≤ i) {s : Nat} (hs : s < 48 ∨ 57 < s) : s ∉ tl (numT i) := by
  rw [numT_tl h0]
  exact numL_free hs
theorem bl_tl : tl (" " : Str) = [32] := by decide +kernel
theorem sl_tl : tl (" / " : Str) = [32, 47, 32] := by decide +kernel
theorem split_showN {ns : List Int} (hne : ns ≠ []) (h : ∀ x ∈ ns, 0 ≤ x) : Txt.split (showN ns) " " = ns.map numT :=
  split_join bl_tl bl_k (by intro e; exact hne (List.map_eq_nil_iff.mp e)) fun p hp => by
    obtain ⟨i, hi, rfl⟩ := List.mem_map.mp hp
    exact num_free (h i hi) (.inl (by decide))
theorem numsIn_showN {ns : List Int} (hne : ns ≠ []) (h : ∀ x ∈ ns, 0 ≤ x ∧ x < 10 ^ 30) : numsIn (showN ns) = some ns := by
  have hs := split_showN hne fun x hx => (h x hx).1
  unfold numsIn
  rw [hs, if_pos, List.map_map]
  · congr 1
    conv => rhs; rw [← List.map_id ns]
    exact List.map_congr_left fun x hx => numV_num (h x hx).1
  · rw [List.all_map, List.all_eq_true]
    exact fun x hx => numOk_num (h x hx).1 (h x hx).2
/-- signs of numbers with blanks -/
theorem showN_signs {ns : List Int} (h : ∀ x ∈ ns, 0 ≤ x) : ∀ c ∈ tl (showN ns), c = 32 ∨ (48 ≤ c ∧ c ≤ 57) := fun c hc => by
  unfold showN at hc
  rw [join_eq, tl_join] at hc
  rcases joinL_mem hc with hc | ⟨p, hp, hc⟩
  · rw [bl_tl] at hc
    exact .inl (List.mem_singleton.mp hc)
  · obtain ⟨w, hw, rfl⟩ := List.mem_map.mp hp
    obtain ⟨i, hi, rfl⟩ := List.mem_map.mp hw
    rw [numT_tl (h i hi)] at hc
    exact .inr (numL_digits _ c hc)
theorem dash_tl : tl ("-" : Str) = [45] := by decide +kernel
theorem ahead_signs {F : List Int} (h : ∀ x ∈ F, 0 ≤ x) : ∀ c ∈ tl (aheadT F), c = 32 ∨ c = 45 ∨ (48 ≤ c ∧ c ≤ 57) := fun c hc => by
  unfold aheadT at hc
  split at hc
  · rw [dash_tl] at hc
    exact .inr (.inl (List.mem_singleton.mp hc))
  · rcases showN_signs h c hc with h | h
    · exact .inl h
    · exact .inr (.inr h)
theorem showC_signs {c : Cv} (hF : ∀ x ∈ c.F, 0 ≤ x) (hA : ∀ x ∈ c.A, 0 ≤ x) (hr : 0 ≤ c.r) : ∀ k ∈ tl (showC c), k = 32 ∨ k = 45 ∨ k = 47 ∨ (48 ≤ k ∧ k ≤ 57) := fun k hk => by
  unfold showC at hk
  rw [tl_append, tl_append, tl_append, tl_append] at hk
  have hs : k ∈ tl (" / " : Str) → k = 32 ∨ k = 45 ∨ k = 47 ∨ (48 ≤ k ∧ k ≤ 57) := fun h => by
    rw [sl_tl] at h
    simp only [List.mem_cons, List.not_mem_nil, or_false] at h
    omega
  rcases List.mem_append.mp hk with hk | hk
  · rcases List.mem_append.mp hk with hk | hk
    · rcases List.mem_append.mp hk with hk | hk
      · rcases List.mem_append.mp hk with hk | hk
        · have := ahead_signs hF k hk
          omega
        · exact hs hk
      · have := showN_signs hA k hk
        omega
    · exact hs hk
  · rw [numT_tl hr] at hk
    have := numL_digits _ k hk
    omega
theorem pre_get {l : List Nat} (h : pre [32, 47, 32] l = true) : l[1]? = some 47 := by
  have he : l.take 3 = [32, 47, 32] := eq_of_beq h
  have : (l.take 3)[1]? = some 47 := by rw [he]; rfl
  rw [List.getElem?_take] at this
  simpa using this
theorem no_pre {p rest : List Nat} (h : 47 ∉ p) : ∀ i, i < p.length → pre [32, 47, 32] ((p ++ ([32, 47, 32] ++ rest)).drop i) = false := fun i hi => bf fun z => by
  have := pre_get z
  rw [List.getElem?_drop] at this
  by_cases h1 : i + 1 < p.length
  · rw [List.getElem?_append_left h1] at this
    exact h (List.mem_of_getElem? this)
  · have e : i + 1 = p.length := by omega
    rw [e, List.getElem?_append_right (Nat.le_refl _), Nat.sub_self] at this
    cases this
theorem no_pre' {p : List Nat} (h : 47 ∉ p) : ∀ i, i < p.length → pre [32, 47, 32] (p.drop i) = false := fun i hi => bf fun z => by
  have := pre_get z
  rw [List.getElem?_drop] at this
  exact h (List.mem_of_getElem? this)
theorem split3 {a b c : Str} (ha : 47 ∉ tl a) (hb : 47 ∉ tl b) (hc : 47 ∉ tl c) : Txt.split (a ++ " / " ++ b ++ " / " ++ c) " / " = [a, b, c] := by
  refine map_tl_inj ?_
  rw [split_spl _ _ sl_ne (kind_ok sl_k), tl_append, tl_append, tl_append, tl_append, sl_tl]
  have e : tl a ++ [32, 47, 32] ++ tl b ++ [32, 47, 32] ++ tl c = tl a ++ ([32, 47, 32] ++ (tl b ++ ([32, 47, 32] ++ tl c))) := by simp
  rw [e, spl_part (by simp) (no_pre ha), spl_part (by simp) (no_pre hb), spl_last (no_pre' hc)]
  rfl
theorem CvIn.nums {c : Cv} (h : CvIn c) : (∀ x ∈ c.F, 0 ≤ x ∧ x ≤ 1000000) ∧ (∀ x ∈ c.A, 0 ≤ x ∧ x ≤ 1000000) ∧ (0 ≤ c.r ∧ c.r ≤ 1000000) ∧ c.A ≠ [] ∧ c.F.length ≤ 24 ∧ c.A.length ≤ 12 := by
  obtain ⟨F, A, r⟩ := c
  obtain ⟨h1, h2⟩ := h
  have h1 : ((F.map D.int).all isNumD && ((A.map D.int).all isNumD && (isNumD (.int r) && (decide (A.map D.int ≠ []) && rowOk _)))) = true := h1
  have h2 : (decide (F.length ≤ 24) && (decide (A.length ≤ 12) && (F ++ A ++ [r]).all fun x => decide (x ≤ 1000000))) = true := h2
  simp only [Bool.and_eq_true] at h1 h2
  obtain ⟨a1, a2, a3, a4, _⟩ := h1
  obtain ⟨b1, b2, b3⟩ := h2
  rw [List.all_map, List.all_eq_true] at a1 a2
  rw [List.all_eq_true] at b3
  refine ⟨fun x hx => ⟨of_decide_eq_true (a1 x hx), of_decide_eq_true (b3 x (by simp [hx]))⟩, fun x hx => ⟨of_decide_eq_true (a2 x hx), of_decide_eq_true (b3 x (by simp [hx]))⟩, ⟨of_decide_eq_true a3, of_decide_eq_true (b3 r (by simp))⟩, fun e => of_decide_eq_true a4 (List.map_eq_nil_iff.mpr e), of_decide_eq_true b1, of_decide_eq_true b2⟩
theorem CvIn.ok {c : Cv} (h : CvIn c) : CvOk c := by
  obtain ⟨n1, n2, n3, n4, n5, n6⟩ := h.nums
  have : (1000000 : Int) < 10 ^ 30 := by decide
  exact ⟨⟨by omega, fun x hx => ⟨(n1 x hx).1, by have := (n1 x hx).2; omega⟩⟩, ⟨by omega, fun x hx => ⟨(n2 x hx).1, by have := (n2 x hx).2; omega⟩⟩, n3.1, by omega⟩
theorem curveIn_showC {c : Cv} (h : CvIn c) : curveIn (showC c) = some c := by
  obtain ⟨n1, n2, n3, n4, n5, n6⟩ := h.nums
  have ok := h.ok
  have hF := fun x hx => (n1 x hx).1
  have hA := fun x hx => (n2 x hx).1
  have s1 : 47 ∉ tl (aheadT c.F) := fun z => by
    have := ahead_signs hF 47 z
    omega
  have s2 : 47 ∉ tl (showN c.A) := fun z => by
    have := showN_signs hA 47 z
    omega
  have s3 : 47 ∉ tl (numT c.r) := num_free n3.1 (.inl (by decide))
  have e1 : firstIn (aheadT c.F) = some c.F := by
    unfold aheadT firstIn
    by_cases hf : c.F = []
    · rw [if_pos hf, if_pos rfl, hf]
    · rw [if_neg hf, if_neg, numsIn_showN hf ok.1.2]
      intro e
      have := showN_signs hF 45 (by rw [e, dash_tl]; simp)
      omega
  unfold curveIn showC
  rw [split3 s1 s2 s3]
  show (match firstIn (aheadT c.F), numsIn (showN c.A), numIn (numT c.r) with
    | some F, some A, some r => if okC (⟨F, A, r⟩ : Cv) = true then some (⟨F, A, r⟩ : Cv) else none
    | _, _, _ => none) = _
  rw [e1, numsIn_showN n4 ok.2.1.2, numIn_num ok.2.2.1 ok.2.2.2]
  show (if okC c = true then some c else none) = some c
  unfold okC
  rw [h.is, h.kb]
  rfl
end Tt

/-! A net's text, read again: plain. -/
namespace Tt
open PySem PySem.Spec PyProof.Rows L2 Dl Nt Nz TL
theorem name_free {x : Str} (h : isName x = true) {s : Nat} (hs : s < 97 ∨ 122 < s) : s ∉ tl x := fun z => by
  have := (name_lets h).2.2 s z
  unfold isLet at this
  rw [Bool.and_eq_true] at this
  have h1 := of_decide_eq_true this.1
  have h2 := of_decide_eq_true this.2
  omega
theorem showC_free {c : Cv} (h : CvIn c) {s : Nat} (hs : s ≠ 32 ∧ s ≠ 45 ∧ s ≠ 47 ∧ (s < 48 ∨ 57 < s)) : s ∉ tl (showC c) := fun z => by
  obtain ⟨n1, n2, n3, _⟩ := h.nums
  have := showC_signs (fun x hx => (n1 x hx).1) (fun x hx => (n2 x hx).1) n3.1 s z
  omega
theorem spl_free {s : Nat} : ∀ (n : Nat) (acc l : List Nat), l.length ≤ n → s ∉ acc → ∀ p ∈ spl [s] 0 acc l, s ∉ p
  | n, acc, [], _, ha, p, hp => by
    rw [spl_nil] at hp
    rw [List.mem_singleton.mp hp]
    exact ha
  | n + 1, acc, c :: r, h, ha, p, hp => by
    by_cases hq : pre [s] (c :: r) = true
    · rw [spl_hit hq] at hp
      rcases List.mem_cons.mp hp with rfl | hp
      · exact ha
      · exact spl_free n [] r (by simpa using h) (by simp) p hp
    · rw [spl_miss (bf hq)] at hp
      refine spl_free n _ r (by simpa using h) (fun z => ?_) p hp
      rcases List.mem_append.mp z with z | z
      · exact ha z
      · refine hq ?_
        rw [List.mem_singleton.mp z]
        show ([c] == [c]) = true
        exact beq_self_eq_true _
theorem split_free {x p : Str} (hp : p ∈ Txt.split x " ") : 32 ∉ tl p := by
  have h := split_spl x " " bl_ne (kind_ok bl_k)
  rw [bl_tl] at h
  have hm : tl p ∈ spl [32] 0 [] (tl x) := by
    rw [← h]
    exact List.mem_map_of_mem hp
  exact spl_free _ _ _ (Nat.le_refl _) (by simp) _ hm
theorem joinL_app {S : List Nat} {ys : List (List Nat)} (hy : ys ≠ []) : ∀ xs : List (List Nat), joinL S (xs ++ [joinL S ys]) = joinL S (xs ++ ys)
  | [] => rfl
  | x :: xs => by
    rw [List.cons_append, List.cons_append, joinL_cons (by simp), joinL_cons (by simp [hy]), joinL_app hy xs]
theorem join_app {x : Str} (xs : List Str) : Txt.join " " (xs ++ [x]) = Txt.join " " (xs ++ Txt.split x " ") := by
  refine ext_tl ?_
  have hne := split_ne (x := x) bl_ne bl_k
  have hj := join_split (x := x) bl_ne bl_k
  have h1 : tl x = joinL [32] ((Txt.split x " ").map tl) := by
    conv => lhs; rw [← hj]
    rw [join_eq, tl_join, bl_tl]
  rw [join_eq, join_eq, tl_join, tl_join, bl_tl, List.map_append, List.map_append]
  rw [← joinL_app (ys := (Txt.split x " ").map tl) (by intro e; exact hne (List.map_eq_nil_iff.mp e)), ← h1]
  rfl
theorem getD_app {xs ys : List Str} {i : Nat} (h : i < xs.length) : (xs ++ ys).getD i "" = xs.getD i "" := by
  rw [List.getD_eq_getElem?_getD, List.getD_eq_getElem?_getD, List.getElem?_append_left h]
theorem serverT_join {s : Str × Cv} : serverT s = Txt.join " " ([("server" : Str), s.1] ++ [showC s.2]) := by
  refine ext_tl ?_
  unfold serverT
  rw [join_eq, tl_join, bl_tl, tl_append, tl_append, tl_append, bl_tl]
  have e : tl ("server " : Str) = tl ("server" : Str) ++ [32] := by decide +kernel
  rw [e]
  show _ = tl ("server" : Str) ++ ([32] ++ (tl s.1 ++ ([32] ++ tl (showC s.2))))
  simp
theorem word_free : 32 ∉ tl ("server" : Str) ∧ 32 ∉ tl ("stream" : Str) ∧ 32 ∉ tl ("via" : Str) ∧ 32 ∉ tl (":" : Str) := by
  have e1 : tl ("server" : Str) = [115, 101, 114, 118, 101, 114] := by decide +kernel
  have e2 : tl ("stream" : Str) = [115, 116, 114, 101, 97, 109] := by decide +kernel
  have e3 : tl ("via" : Str) = [118, 105, 97] := by decide +kernel
  have e4 : tl (":" : Str) = [58] := by decide +kernel
  rw [e1, e2, e3, e4]
  decide
theorem server_words {s : Str × Cv} (hn : isName s.1 = true) : Txt.split (serverT s) " " = [("server" : Str), s.1] ++ Txt.split (showC s.2) " " := by
  rw [serverT_join, join_app]
  refine split_join bl_tl bl_k (by simp) fun p hp => ?_
  rcases List.mem_append.mp hp with hp | hp
  · simp only [List.mem_cons, List.not_mem_nil, or_false] at hp
    rcases hp with rfl | rfl
    · exact word_free.1
    · exact name_free hn (.inl (by decide))
  · exact split_free hp
theorem stream_words {t : Str × Cv × List Str} (hn : isName t.1 = true) (hz : ∀ z ∈ t.2.2, isName z = true) : Txt.split (streamT t) " " = [("stream" : Str), t.1, "via"] ++ t.2.2 ++ [(":" : Str)] ++ Txt.split (showC t.2.1) " " := by
  have e : streamT t = Txt.join " " (([("stream" : Str), t.1, "via"] ++ t.2.2 ++ [(":" : Str)]) ++ [showC t.2.1]) := by
    unfold streamT
    simp
  rw [e, join_app]
  refine split_join bl_tl bl_k (by simp) fun p hp => ?_
  rcases List.mem_append.mp hp with hp | hp
  · simp only [List.mem_append, List.mem_cons, List.not_mem_nil, or_false] at hp
    rcases hp with ((rfl | rfl | rfl) | hp) | rfl
    · exact word_free.2.1
    · exact name_free hn (.inl (by decide))
    · exact word_free.2.2.1
    · exact name_free (hz p hp) (.inl (by decide))
    · exact word_free.2.2.2
  · exact split_free hp
theorem part_server {s : Str × Cv} {S : List (Str × Cv)} (hn : isName s.1 = true) (hc : CvIn s.2) (lS : S.length < 6) (hS : s.1 ∉ S.map (·.1)) : partIn (serverT s) S [] = some (.sv s) := by
  have hne := split_ne (x := showC s.2) bl_ne bl_k
  have l1 : 0 < (Txt.split (showC s.2) " ").length := List.length_pos_iff.mpr hne
  unfold partIn
  rw [server_words hn]
  rw [if_pos ⟨rfl, rfl, lS⟩]
  unfold serverIn
  have e1 : ([("server" : Str), s.1] ++ Txt.split (showC s.2) " ").getD 1 "" = s.1 := rfl
  have e2 : ([("server" : Str), s.1] ++ Txt.split (showC s.2) " ").drop 2 = Txt.split (showC s.2) " " := rfl
  rw [e1, e2, if_pos ⟨by rw [List.length_append]; show 3 ≤ 2 + _; omega, hn, hS⟩, join_split bl_ne bl_k, curveIn_showC hc]
  rfl
theorem colon_not {z : Str} (h : isName z = true) : z ≠ (":" : Str) := fun e => by
  have e4 : tl (":" : Str) = [58] := by decide +kernel
  have := name_free h (s := 58) (.inl (by decide))
  rw [e, e4] at this
  simp at this
theorem words_ne : ("stream" : Str) ≠ ":" ∧ ("via" : Str) ≠ ":" ∧ ("stream" : Str) ≠ "server" := by
  refine ⟨fun h => ?_, fun h => ?_, fun h => ?_⟩ <;> exact absurd h (by decide +kernel)
theorem part_stream {t : Str × Cv × List Str} {S : List (Str × Cv)} {T : List (Str × Cv × List Str)} (hn : isName t.1 = true) (hc : CvIn t.2.1) (hr : Route (S.map (·.1)) t.2.2) (hz : ∀ z ∈ t.2.2, isName z = true) (hS : S ≠ []) (lT : T.length < 6) (hT : t.1 ∉ T.map (·.1)) : partIn (streamT t) S T = some (.st t) := by
  have hne := split_ne (x := showC t.2.1) bl_ne bl_k
  unfold partIn
  rw [stream_words hn hz]
  have g0 : ([("stream" : Str), t.1, "via"] ++ t.2.2 ++ [(":" : Str)] ++ Txt.split (showC t.2.1) " ").getD 0 "" = "stream" := rfl
  rw [g0, if_neg fun h => words_ne.2.2 h.1, if_pos ⟨rfl, hS, lT⟩]
  have g1 : ([("stream" : Str), t.1, "via"] ++ t.2.2 ++ [(":" : Str)] ++ Txt.split (showC t.2.1) " ").getD 1 "" = t.1 := rfl
  have g2 : ([("stream" : Str), t.1, "via"] ++ t.2.2 ++ [(":" : Str)] ++ Txt.split (showC t.2.1) " ").getD 2 "" = "via" := rfl
  have ix : ([("stream" : Str), t.1, "via"] ++ t.2.2 ++ [(":" : Str)] ++ Txt.split (showC t.2.1) " ").idxOf (":" : Str) = 3 + t.2.2.length := by
    rw [List.append_assoc, List.idxOf_append, if_neg, List.singleton_append, List.idxOf_cons_self, List.length_append]
    · show 0 + (3 + t.2.2.length) = _
      omega
    · intro h
      simp only [List.mem_append, List.mem_cons, List.not_mem_nil, or_false] at h
      rcases h with (h | h | h) | h
      · exact words_ne.1 h.symm
      · exact colon_not hn h.symm
      · exact words_ne.2.1 h.symm
      · exact colon_not (hz _ h) rfl
  have d1 : ([("stream" : Str), t.1, "via"] ++ t.2.2 ++ [(":" : Str)] ++ Txt.split (showC t.2.1) " ").drop (3 + t.2.2.length + 1) = Txt.split (showC t.2.1) " " := by
    have : 3 + t.2.2.length + 1 = ([("stream" : Str), t.1, "via"] ++ t.2.2 ++ [(":" : Str)]).length := by simp; omega
    rw [this, List.drop_left]
  have d2 : (([("stream" : Str), t.1, "via"] ++ t.2.2 ++ [(":" : Str)] ++ Txt.split (showC t.2.1) " ").take (3 + t.2.2.length)).drop 3 = t.2.2 := by
    have : 3 + t.2.2.length = ([("stream" : Str), t.1, "via"] ++ t.2.2).length := by simp; omega
    rw [this, List.append_assoc, List.take_left]
    rfl
  have hrt : isRouteD (S.map (·.1)) (.tup (t.2.2.map .str)) = true := by
    have hne : t.2.2.map D.str ≠ [] := fun z => hr.ne (List.map_eq_nil_iff.mp z)
    show (decide (t.2.2.map D.str ≠ []) && routeGo (S.map (·.1)) (t.2.2.map .str) []) = true
    rw [decide_eq_true hne, Bool.true_and]
    exact route_ok t.2.2 [] (fun a ha => ⟨hz a ha, hr.mem a ha⟩) hr.nd fun _ _ z => by cases z
  unfold streamIn
  rw [ix, g1, g2, d1, d2, if_pos ⟨by simp, rfl, by simp⟩, if_pos ⟨hn, hT⟩, join_split bl_ne bl_k, curveIn_showC hc]
  show Option.map Prt.st (if isRouteD (S.map (·.1)) (.tup (t.2.2.map .str)) = true then some (t.1, t.2.1, t.2.2) else none) = _
  rw [if_pos hrt]
  rfl
theorem lines_servers {rest : List Str} : ∀ (S S0 : List (Str × Cv)), (∀ s ∈ S, isName s.1 = true ∧ CvIn s.2) → (S0 ++ S).length ≤ 6 → ((S0 ++ S).map (·.1)).Nodup → linesIn (S.map serverT ++ rest) S0 [] = linesIn rest (S0 ++ S) []
  | [], S0, _, _, _ => by rw [List.append_nil]; rfl
  | s :: S, S0, h, hl, hn => by
    have ha : S0 ++ s :: S = (S0 ++ [s]) ++ S := by simp
    have hs : s.1 ∉ S0.map (·.1) := fun z => by
      rw [List.map_append, List.map_cons, List.nodup_append] at hn
      exact hn.2.2 _ z _ List.mem_cons_self rfl
    rw [List.map_cons, List.cons_append, linesIn, part_server (h s List.mem_cons_self).1 (h s List.mem_cons_self).2 (by rw [List.length_append, List.length_cons] at hl; omega) hs]
    show linesIn (S.map serverT ++ rest) (S0 ++ [s]) [] = _
    rw [lines_servers S (S0 ++ [s]) (fun x hx => h x (List.mem_cons_of_mem _ hx)) (by rw [← ha]; exact hl) (by rw [← ha]; exact hn), ha]
theorem lines_streams {S : List (Str × Cv)} (hS : S ≠ []) (hN : ∀ y ∈ S.map (·.1), isName y = true) : ∀ (T T0 : List (Str × Cv × List Str)), (∀ t ∈ T, isName t.1 = true ∧ CvIn t.2.1 ∧ Route (S.map (·.1)) t.2.2) → (T0 ++ T).length ≤ 6 → ((T0 ++ T).map (·.1)).Nodup → T0 ++ T ≠ [] → linesIn (T.map streamT) S T0 = some (S, T0 ++ T)
  | [], T0, _, _, _, hne => by
    rw [List.append_nil] at hne ⊢
    rw [List.map_nil, linesIn, if_neg hne]
  | t :: T, T0, h, hl, hn, hne => by
    have ha : T0 ++ t :: T = (T0 ++ [t]) ++ T := by simp
    have hs : t.1 ∉ T0.map (·.1) := fun z => by
      rw [List.map_append, List.map_cons, List.nodup_append] at hn
      exact hn.2.2 _ z _ List.mem_cons_self rfl
    obtain ⟨h1, h2, h3⟩ := h t List.mem_cons_self
    rw [List.map_cons, linesIn, part_stream h1 h2 h3 (fun z hz => hN z (h3.mem z hz)) hS (by rw [List.length_append, List.length_cons] at hl; omega) hs]
    show linesIn (T.map streamT) S (T0 ++ [t]) = _
    rw [lines_streams hS hN T (T0 ++ [t]) (fun x hx => h x (List.mem_cons_of_mem _ hx)) (by rw [← ha]; exact hl) (by rw [← ha]; exact hn) (by simp), ha]
theorem nl_tl : tl ("\n" : Str) = [10] := by decide +kernel
theorem NetIn.read {S : List (Str × Cv)} {T : List (Str × Cv × List Str)} (N : NetIn S T) : readNet (showNet S T) = some (S, T) := by
  have hN : ∀ y ∈ S.map (·.1), isName y = true := fun y hy => by
    obtain ⟨s, hs, e⟩ := List.mem_map.mp hy
    exact e ▸ (N.sN s hs).1
  have hS : S ≠ [] := fun e => by have := N.s1; rw [e] at this; simp at this
  have hT : T ≠ [] := fun e => by have := N.t1; rw [e] at this; simp at this
  have hsp : Txt.split (showNet S T) "\n" = S.map serverT ++ T.map streamT := by
    refine split_join nl_tl nl_k (by simp [hS]) fun p hp => ?_
    have w1 : 10 ∉ tl ("server " : Str) ∧ 10 ∉ tl ("stream" : Str) ∧ 10 ∉ tl ("via" : Str) ∧ 10 ∉ tl (":" : Str) := by
      have e1 : tl ("server " : Str) = [115, 101, 114, 118, 101, 114, 32] := by decide +kernel
      have e2 : tl ("stream" : Str) = [115, 116, 114, 101, 97, 109] := by decide +kernel
      have e3 : tl ("via" : Str) = [118, 105, 97] := by decide +kernel
      have e4 : tl (":" : Str) = [58] := by decide +kernel
      rw [e1, e2, e3, e4]
      decide
    rcases List.mem_append.mp hp with hp | hp
    · obtain ⟨s, hs, rfl⟩ := List.mem_map.mp hp
      obtain ⟨h1, h2⟩ := N.sN s hs
      unfold serverT
      rw [tl_append, tl_append, tl_append, bl_tl]
      intro z
      rcases List.mem_append.mp z with z | z
      · rcases List.mem_append.mp z with z | z
        · rcases List.mem_append.mp z with z | z
          · exact w1.1 z
          · exact name_free h1 (.inl (by decide)) z
        · simp at z
      · exact showC_free h2 (by decide) z
    · obtain ⟨t, ht, rfl⟩ := List.mem_map.mp hp
      obtain ⟨h1, h2, h3, _⟩ := N.tN t ht
      unfold streamT
      rw [join_eq, tl_join, bl_tl]
      intro z
      rcases joinL_mem z with z | ⟨q, hq, z⟩
      · simp at z
      · obtain ⟨w, hw, rfl⟩ := List.mem_map.mp hq
        simp only [List.mem_append, List.mem_cons, List.not_mem_nil, or_false] at hw
        rcases hw with ((rfl | rfl | rfl) | hw) | rfl | rfl
        · exact w1.2.1 z
        · exact name_free h1 (.inl (by decide)) z
        · exact w1.2.2.1 z
        · exact name_free (hN _ (h3.mem _ hw)) (.inl (by decide)) z
        · exact w1.2.2.2 z
        · exact showC_free h2 (by decide) z
  unfold readNet
  rw [hsp, lines_servers S [] N.sN (by simpa using N.s6) (by simpa using N.sn), List.nil_append]
  have := lines_streams hS hN T [] (fun t ht => ⟨(N.tN t ht).1, (N.tN t ht).2.1, (N.tN t ht).2.2.1⟩) (by simpa using N.t6) (by simpa using N.tn) (by simpa using hT)
  rw [List.nil_append] at this
  exact this
end Tt

namespace Nt
open PySem PySem.Spec PyProof.Rows L2 Dl Pg TL
open Pn (rgL_inv gd atI_end)
/-- rising numbers from lo to hi -/
structure Up (l : List Int) (lo hi : Int) : Prop where
  pw : l.Pairwise (· ≤ ·)
  bd : ∀ x ∈ l, lo ≤ x ∧ x ≤ hi
  hd : l[0]? = some lo
  la : l[l.length - 1]? = some hi
theorem Up.app {l : List Int} {lo hi d : Int} (h : Up l lo hi) (hd : 0 ≤ d) : Up (l ++ [hi + d]) lo (hi + d) := by
  have h0 := (List.getElem?_eq_some_iff.mp h.hd).1
  have hm := h.bd hi (List.mem_of_getElem? h.la)
  refine ⟨?_, ?_, ?_, ?_⟩
  · rw [List.pairwise_append]
    refine ⟨h.pw, List.pairwise_singleton _ _, fun a ha b hb => ?_⟩
    rw [List.mem_singleton.mp hb]
    have := h.bd a ha
    omega
  · intro x hx
    rcases List.mem_append.mp hx with hx | hx
    · have := h.bd x hx
      omega
    · rw [List.mem_singleton.mp hx]
      omega
  · rw [List.getElem?_append_left h0]
    exact h.hd
  · rw [List.length_append, List.length_singleton, List.getElem?_append_right (by omega), Nat.add_sub_cancel, Nat.sub_self]
    rfl
theorem Up.one {a : Int} : Up [a] a a := ⟨List.pairwise_singleton _ _, fun x hx => by rw [List.mem_singleton.mp hx]; omega, rfl, rfl⟩
theorem Up.zeros {n : Nat} (h : 0 < n) : Up (List.replicate n 0) 0 0 := by
  refine ⟨?_, fun x hx => by rw [(List.mem_replicate.mp hx).2]; omega, ?_, ?_⟩
  · rw [List.pairwise_replicate]
    exact .inr (Int.le_refl _)
  · rw [List.getElem?_replicate, if_pos h]
  · rw [List.getElem?_replicate, if_pos (by rw [List.length_replicate]; omega)]
theorem Up.drawn {F A : List Int} {z a hi r : Int} (hF : Up F 0 z) (hA : Up A a hi) (hz : z ≤ a) (hr : hi ≤ a + r) (r0 : 0 ≤ r) (lA : A.length ≤ 12) (lF : F.length ≤ 24) (hs : hi ≤ 1000000) (rs : r ≤ 1000000) : Pn.Drawn F A r := by
  have f0 := (List.getElem?_eq_some_iff.mp hF.hd).1
  have a0 := (List.getElem?_eq_some_iff.mp hA.hd).1
  have z0 := (hF.bd z (List.mem_of_getElem? hF.la))
  have a1 := (hA.bd a (List.mem_of_getElem? hA.hd))
  have pw : (F ++ A).Pairwise (· ≤ ·) := by
    rw [List.pairwise_append]
    refine ⟨hF.pw, hA.pw, fun x hx y hy => ?_⟩
    have := hF.bd x hx
    have := hA.bd y hy
    omega
  refine ⟨fun e => by rw [e] at a0; simp at a0, lA, lF, r0, fun x hx => ?_, fun x hx => ?_, ?_, fun i x y hx hy => ?_, fun x hx y hy => ?_, rs⟩
  · rcases List.mem_append.mp hx with h | h
    · exact (hF.bd x h).1
    · have := (hA.bd x h).1
      omega
  · rcases List.mem_append.mp hx with h | h
    · have := (hF.bd x h).2
      omega
    · have := (hA.bd x h).2
      omega
  · rw [List.getElem?_append_left f0]
    exact hF.hd
  · have hi := (List.getElem?_eq_some_iff.mp hx)
    have hj := (List.getElem?_eq_some_iff.mp hy)
    obtain ⟨h1, e1⟩ := hi
    obtain ⟨h2, e2⟩ := hj
    rw [← e1, ← e2]
    exact List.pairwise_iff_getElem.mp pw i (i + 1) h1 h2 (by omega)
  · rw [hA.hd] at hx
    rw [hA.la] at hy
    cases hx
    cases hy
    exact hr
section
variable {P : DEnds} {x : List (Option D) → DX} {m : Sto} {p : Addr} {b : Int} {X : MO}
theorem server_7 {rise : Int} {q w : Addr} {F A : List Int} {s0 s1 s2 s5 s7 s8 s9 : Option D} (hq : m q = some (.lst (F.map .int))) (hw : m w = some (.lst (A.map .int))) (hqw : q ≠ w)
    (h : P.rt (crv F A rise) (del (del m q) w)) : r_law_server_curve_7 P ⟨[s0, s1, s2, some (.int rise), some (.ptr q), s5, some (.ptr w), s7, s8, s9], x⟩ m :=
  ⟨q, _, rfl, hq, w, _, rfl, (del_ne hqw.symm).trans hw, _, rfl, _, rfl, (by show 3 ≤ sizeLine; decide), h⟩
theorem server_6 {R : Nat} {rise a0 z : Int} {q w : Addr} {F : List Int} {s1 s5 s8 s9 : Option D} (hp : m p = some X) (hX : PenD b X) (hb : b ≤ 2 ^ 29 + 20) (hF : Up F 0 z) (hz : z ≤ a0) (lF : F.length ≤ 24) (ha : a0 ≤ 1000) (hR : 0 < R ∧ R ≤ 12) (hr : 0 ≤ rise ∧ rise ≤ 20000)
    (hq : m q = some (.lst (F.map .int))) (hw : m w = some (.lst [.int a0])) (hqw : q ≠ w)
    (h : ∀ A X', Pn.Drawn F A rise → PenD (b + 24) X' → P.rt (crv F A rise) (up (del (del m q) w) p X')) :
    r_law_server_curve_6 P ⟨[some (.ptr p), s1, some (.int (R : Int)), some (.int rise), some (.ptr q), s5, some (.ptr w), some (.int rise), s8, s9], x⟩ m := by
  have pq : p ≠ q := fun e => by
    subst e
    rw [hp] at hq
    obtain ⟨_, _, _, e, _⟩ := hX
    cases (Option.some.inj hq).symm.trans e
  have pw : p ≠ w := fun e => by
    subst e
    rw [hp] at hw
    obtain ⟨_, _, _, e, _⟩ := hX
    cases (Option.some.inj hw).symm.trans e
  refine ⟨by omega, by omega, fun i δ m' => ∃ as hi left X' t5 t8 t9, Up as a0 hi ∧ hi - a0 + left = rise ∧ 0 ≤ left ∧ as.length = 1 + i ∧ PenD (b + 2 * (i : Int)) X' ∧ m' = up (up m p X') w (.lst (as.map .int)) ∧ δ = ⟨[some (.ptr p), s1, some (.int (R : Int)), some (.int rise), some (.ptr q), t5, some (.ptr w), some (.int left), t8, t9], x⟩, ⟨[a0], a0, rise, X, s5, s8, s9, Up.one, by omega, hr.1, rfl, by simpa using hX, ?_, rfl⟩, fun _ _ _ _ => trivial, ?_, ?_⟩
  · funext a
    by_cases e1 : a = w
    · rw [e1, up_same, hw]
      rfl
    · rw [up_ne e1]
      by_cases e2 : a = p
      · rw [e2, up_same, hp]
      · rw [up_ne e2]
  · rintro i y δ m1 hx ⟨as, hi, left, X', t5, t8, t9, hU, hs, hl0, hal, hX', rfl, rfl⟩
    obtain ⟨hiR, rfl⟩ := rgL_inv hx
    have hi' : i < R - 1 := by omega
    have hhi := (hU.bd hi (List.mem_of_getElem? hU.la)).1
    refine ⟨b + 2 * (i : Int), X', by rw [up_ne pw, up_same], hX', by omega, by decide, by decide, fun way X1 w0 w1 hX1 => ?_⟩
    refine ⟨CDivW.small (by omega) (by omega), b + 2 * (i : Int) + 1, X1, up_same, hX1, by omega, by omega, by omega, fun d X2 d0 d1 hX2 => ?_⟩
    obtain ⟨step, hst, hat⟩ : ∃ step, step ∈ [0, left, left / 2, d] ∧ L2.atI ([0, left, left / 2, d].map D.int) way = some (.int step) := atI_mem w0 w1
    have hst2 : 0 ≤ step ∧ step ≤ left := by
      simp only [List.mem_cons, List.not_mem_nil, or_false] at hst
      omega
    have em : up (up (up (up m p X') w (.lst (as.map .int))) p X1) p X2 = up (up m p X2) w (.lst (as.map .int)) := by
      rw [up_up, up_comm pw, up_up, up_comm pw.symm]
    have ew : up (up (up (up m p X') w (.lst (as.map .int))) p X1) p X2 w = some (.lst (as.map .int)) := by
      rw [em, up_same]
    refine ⟨(by show 4 ≤ sizeLine; decide), _, _, rfl, hat, ⟨_, _, ew, rfl⟩, _, .int hi, ⟨_, ew, rfl⟩, atI_end hU.la, _, ew, ?_, as ++ [hi + step], hi + step, left - step, X2, _, _, _, hU.app hst2.1, by omega, by omega, by rw [List.length_append, hal, List.length_singleton]; omega, PenD.mono hX2 (by omega), ?_, rfl⟩
    · rw [List.length_map]
      exact Nat.lt_of_le_of_lt (show as.length ≤ 100 by omega) (by decide)
    · rw [em, up_up, List.map_append]
      rfl
  · rintro δ m1 ⟨as, hi, left, X', t5, t8, t9, hU, hs, hl0, hal, hX', rfl, rfl⟩
    rw [rgL_len] at hal hX'
    have hn : ((R : Int) - 1).toNat = R - 1 := by omega
    rw [hn] at hal hX'
    have k1 : up (up m p X') w (.lst (as.map .int)) q = some (.lst (F.map .int)) := by rw [up_ne hqw, up_ne pq.symm, hq]
    refine server_7 k1 up_same hqw ?_
    have e : del (del (up (up m p X') w (.lst (as.map .int))) q) w = up (del (del m q) w) p X' := by
      funext a
      by_cases e1 : a = w
      · rw [e1, del_same, up_ne pw.symm, del_same]
      · rw [del_ne e1]
        by_cases e2 : a = q
        · rw [e2, del_same, up_ne pq.symm, del_ne hqw, del_same]
        · rw [del_ne e2, up_ne e1]
          by_cases e3 : a = p
          · rw [e3, up_same, up_same]
          · rw [up_ne e3, up_ne e3, del_ne e1, del_ne e2]
    rw [e]
    exact h as X' (Up.drawn hF hU hz (by omega) hr.1 (by omega) lF (by omega) (by omega)) (PenD.mono hX' (by omega))
theorem server_4 {R : Nat} {rise z : Int} {q : Addr} {F : List Int} {s1 s5 s6 s7 s8 s9 : Option D} (hp : m p = some X) (hX : PenD b X) (hb : b ≤ 2 ^ 29 + 15) (hF : Up F 0 z) (hz : z ≤ 100) (lF : F.length ≤ 24) (hR : 0 < R ∧ R ≤ 12) (hr : 0 ≤ rise ∧ rise ≤ 20000)
    (hq : m q = some (.lst (F.map .int)))
    (h : ∀ A X', Pn.Drawn F A rise → PenD (b + 25) X' → P.rt (crv F A rise) (up (del m q) p X')) :
    r_law_server_curve_4 P ⟨[some (.ptr p), s1, some (.int (R : Int)), some (.int rise), some (.ptr q), s5, s6, s7, s8, s9], x⟩ m := by
  have pq : p ≠ q := fun e => by
    subst e
    rw [hp] at hq
    obtain ⟨_, _, _, e, _⟩ := hX
    cases (Option.some.inj hq).symm.trans e
  refine ⟨_, .int z, ⟨_, hq, rfl⟩, atI_end hF.la, b, X, hp, hX, by omega, by decide, by decide, fun d X1 d0 d1 hX1 => ⟨(by show 1 ≤ sizeLine; decide), fun w hw => ?_⟩⟩
  have wp : w ≠ p := fun e => by rw [e, up_same] at hw; cases hw
  have wq : w ≠ q := fun e => by rw [e, up_ne pq.symm, hq] at hw; cases hw
  have mw : m w = none := by rw [← hw, up_ne wp]
  refine server_6 (z := z) (a0 := z + d) (F := F) (q := q) (w := w) (X := X1) (b := b + 1) ?_ hX1 (by omega) hF (by omega) lF (by omega) hR hr ?_ up_same wq.symm fun A X' dr hX' => ?_
  · rw [up_ne wp.symm, up_same]
  · rw [up_ne wq.symm, up_ne pq.symm, hq]
  · have e : up (del (del (up (up m p X1) w (.lst [.int (z + d)])) q) w) p X' = up (del m q) p X' := by
      funext a
      by_cases e3 : a = p
      · rw [e3, up_same, up_same]
      · rw [up_ne e3, up_ne e3]
        by_cases e1 : a = w
        · rw [e1, del_same, del_ne wq, mw]
        · rw [del_ne e1]
          by_cases e2 : a = q
          · rw [e2, del_same, del_same]
          · rw [del_ne e2, del_ne e2, up_ne e1, up_ne e3]
    show P.rt (crv F A rise) (up (del (del (up (up m p X1) w (.lst [.int (z + d)])) q) w) p X')
    rw [e]
    exact h A X' dr (PenD.mono hX' (by omega))
theorem server_3 {R : Nat} {rise : Int} {q : Addr} {F : List Int} {s1 s5 s6 s7 s8 s9 : Option D} (hp : m p = some X) (hX : PenD b X) (hb : b ≤ 2 ^ 29 + 10) (hF : Up F 0 0) (lF : F.length ≤ 4) (hR : 0 < R ∧ R ≤ 12) (hr : 0 ≤ rise ∧ rise ≤ 20000)
    (hq : m q = some (.lst (F.map .int)))
    (h : ∀ F A X', Pn.Drawn F A rise → PenD (b + 30) X' → P.rt (crv F A rise) (up (del m q) p X')) :
    r_law_server_curve_3 P ⟨[some (.ptr p), s1, some (.int (R : Int)), some (.int rise), some (.ptr q), s5, s6, s7, s8, s9], x⟩ m := by
  have pq : p ≠ q := fun e => by
    subst e
    rw [hp] at hq
    obtain ⟨_, _, _, e, _⟩ := hX
    cases (Option.some.inj hq).symm.trans e
  refine ⟨b, X, hp, hX, by omega, by decide, by decide, fun v X1 v0 v1 hX1 => ?_⟩
  refine ⟨by omega, by omega, fun i δ m' => ∃ ns z X' t5, Up ns 0 z ∧ z ≤ 7 * (i : Int) ∧ ns.length ≤ 4 + i ∧ PenD (b + 1 + (i : Int)) X' ∧ m' = up (up m p X') q (.lst (ns.map .int)) ∧ δ = ⟨[some (.ptr p), s1, some (.int (R : Int)), some (.int rise), some (.ptr q), t5, s6, s7, s8, s9], x⟩, ⟨F, 0, X1, s5, hF, by omega, by omega, by simpa using hX1, ?_, rfl⟩, fun _ _ _ _ => trivial, ?_, ?_⟩
  · funext a
    by_cases e1 : a = q
    · rw [e1, up_same, up_ne pq.symm, hq]
    · rw [up_ne e1]
  · rintro i y δ m1 hx ⟨ns, z, X', t5, hU, hz, hl, hX', rfl, rfl⟩
    obtain ⟨hi, rfl⟩ := rgL_inv hx
    refine ⟨⟨_, _, up_same, rfl⟩, _, .int z, ⟨_, up_same, rfl⟩, atI_end hU.la, b + 1 + (i : Int), X', by rw [up_ne pq, up_same], hX', by omega, by decide, by decide, fun d X2 d0 d1 hX2 => ⟨_, by rw [up_ne pq.symm, up_same], ?_, ns ++ [z + d], z + d, X2, _, hU.app d0, by omega, by rw [List.length_append, List.length_singleton]; omega, PenD.mono hX2 (by omega), ?_, rfl⟩⟩
    · rw [List.length_map]
      exact Nat.lt_of_le_of_lt (show ns.length ≤ 100 by omega) (by decide)
    · rw [Pn.up_swap pq, List.map_append]
      rfl
  · rintro δ m1 ⟨ns, z, X', t5, hU, hz, hl, hX', rfl, rfl⟩
    rw [rgL_len] at hl hX' hz
    refine server_4 (z := z) (F := ns) (q := q) (X := X') (b := b + 1 + 2) ?_ (PenD.mono hX' (by omega)) (by omega) hU (by omega) (by omega) hR hr up_same fun A X2 dr hX2 => ?_
    · rw [up_ne pq, up_same]
    · have e : up (del (up (up m p X') q (.lst (ns.map .int))) q) p X2 = up (del m q) p X2 := by
        funext a
        by_cases e3 : a = p
        · rw [e3, up_same, up_same]
        · rw [up_ne e3, up_ne e3]
          by_cases e2 : a = q
          · rw [e2, del_same, del_same]
          · rw [del_ne e2, del_ne e2, up_ne e2, up_ne e3]
      rw [e]
      exact h ns A X2 dr (PenD.mono hX2 (by omega))
theorem v_law_server_curve {ds : List D} {R : D → Sto → Prop} {RX : DX} (h : sp_law_server_curve ds m R RX) : r_law_server_curve { nx := fun _ m' => R .non m', rt := R } ⟨ds.map some ++ List.replicate (10 - ds.length) none, fun _ => RX⟩ m := by
  unfold sp_law_server_curve at h
  split at h
  · rename_i p n
    obtain ⟨b, X, hp, hX, hb, n0, n1, hR⟩ := h
    refine ⟨(by show 8 ≤ sizeLine; decide), b, X, hp, hX, by omega, by decide, by decide, fun k X1 k0 k1 hX1 => ?_⟩
    obtain ⟨rr, hrr, hat⟩ := atI_mem (ns := [1, 1, 2, 2, 3, 4, 6, 12]) k0 k1
    have hr : 1 ≤ rr ∧ rr ≤ 12 := by
      simp only [List.mem_cons, List.not_mem_nil, or_false] at hrr
      omega
    have m1 : n * rr ≤ 10000 * 12 := Int.mul_le_mul n1 hr.2 (by omega) (by decide)
    have m0 : 0 ≤ n * rr := Int.mul_nonneg n0 (by omega)
    refine ⟨_, _, rfl, hat, MulOk.small (by omega) (by omega), CDivW.small (by omega) (by omega), b + 1, X1, up_same, hX1, by omega, by omega, by omega, fun d X2 d0 d1 hX2 => ?_⟩
    refine ⟨(by show 1 ≤ sizeLine; decide), b + 1 + 1, X2, up_same, hX2, by omega, by decide, by decide, fun c X3 c0 c1 hX3 => ?_⟩
    simp only [up_up]
    refine ⟨_, rfl, by omega, by omega, ?_, fun q hq => ?_⟩
    · show 1 * (1 + c).toNat ≤ sizeLine
      exact szn (by omega)
    · obtain ⟨Rn, hRn⟩ : ∃ Rn : Nat, rr = (Rn : Int) := ⟨rr.toNat, by omega⟩
      subst hRn
      have el : (List.replicate (1 + c).toNat [D.int 0]).flatten = (List.replicate (1 + c).toNat (0 : Int)).map D.int := by
        have : ∀ n : Nat, (List.replicate n [D.int 0]).flatten = (List.replicate n (0 : Int)).map D.int := fun n => by
          induction n with
          | zero => rfl
          | succ n ih => rw [List.replicate_succ, List.flatten_cons, ih]; rfl
        exact this _
      have qp : q ≠ p := fun e => by rw [e, up_same] at hq; cases hq
      have mq : m q = none := by rw [← hq, up_ne qp]
      refine server_3 (q := q) (F := List.replicate (1 + c).toNat 0) (X := X3) (b := b + 3) (R := Rn) ?_ (PenD.mono hX3 (by omega)) (by omega) (Up.zeros (by omega)) (by rw [List.length_replicate]; omega) (by omega) (by omega) ?_ fun F A X4 dr hX4 => ?_
      · show up (up m p X3) q _ p = _
        rw [up_ne qp.symm, up_same]
      · show up (up m p X3) q _ q = _
        rw [up_same]
        exact congrArg (fun z => some (MO.lst z)) el
      · have e : ∀ o, up (del (up (up m p X3) q o) q) p X4 = up m p X4 := fun o => by
          funext a
          by_cases e3 : a = p
          · rw [e3, up_same, up_same]
          · rw [up_ne e3, up_ne e3]
            by_cases e2 : a = q
            · rw [e2, del_same, mq]
            · rw [del_ne e2, up_ne e2, up_ne e3]
        have := hR F A _ X4 dr (PenD.mono hX4 (by omega))
        rw [← e (.lst (List.replicate (1 + c).toNat [D.int 0]).flatten)] at this
        exact this
  · exact h.elim
end
end Nt

namespace Tt
open PySem PySem.Spec PyProof.Rows L2 Dl Nt Nz TL
open Pn (rgL_inv gd atI_end)
open Pg (atI_int crv)
theorem cvin_of {row : List Int} {hi r : Int} {k : Nat} (hU : Up row 0 hi) (hh : hi ≤ 1000000) (hk : k < row.length) (k24 : k ≤ 24) (h12 : row.length ≤ k + 12) (r0 : 0 ≤ r) (r1 : r ≤ 1000000) (hr : hi ≤ row.getD k 0 + r) : CvIn ⟨row.take k, row.drop k, r⟩ := by
  have bd : ∀ x ∈ row, 0 ≤ x ∧ x ≤ 1000000 := fun x hx => by
    have := hU.bd x hx
    omega
  have nn : ∀ l : List Int, (∀ x ∈ l, 0 ≤ x) → (l.map D.int).all isNumD = true := fun l hl => by
    rw [List.all_map, List.all_eq_true]
    exact fun x hx => decide_eq_true (hl x hx)
  have hA : row.drop k ≠ [] := fun e => by
    have := congrArg List.length e
    rw [List.length_drop, List.length_nil] at this
    omega
  constructor
  · show (((row.take k).map D.int).all isNumD && (((row.drop k).map D.int).all isNumD && (isNumD (.int r) && (decide ((row.drop k).map D.int ≠ []) && rowOk (((row.take k).map D.int).map numD ++ ((row.drop k).map D.int).map numD ++ [(((row.drop k).map D.int).map numD).getD 0 0 + r]))))) = true
    have hA' : (row.drop k).map D.int ≠ [] := fun z => hA (List.map_eq_nil_iff.mp z)
    have e1 : isNumD (.int r) = true := decide_eq_true r0
    rw [nn _ fun x hx => (bd x (List.mem_of_mem_take hx)).1, nn _ fun x hx => (bd x (List.mem_of_mem_drop hx)).1, e1, decide_eq_true hA', numD_ints, numD_ints, List.take_append_drop]
    have g0 : (row.drop k).getD 0 0 = row.getD k 0 := by
      rw [List.getD_eq_getElem?_getD, List.getD_eq_getElem?_getD, List.getElem?_drop]
      rfl
    rw [g0]
    simp only [Bool.true_and]
    unfold rowOk
    have h0 := (List.getElem?_eq_some_iff.mp hU.hd).1
    rw [Bool.and_eq_true]
    refine ⟨decide_eq_true ?_, decide_eq_true ?_⟩
    · rw [List.getElem?_append_left h0]
      exact hU.hd
    · rw [List.pairwise_append]
      refine ⟨hU.pw, List.pairwise_singleton _ _, fun x hx y hy => ?_⟩
      rw [List.mem_singleton.mp hy]
      have := (hU.bd x hx).2
      omega
  · show (decide ((row.take k).length ≤ 24) && (decide ((row.drop k).length ≤ 12) && (row.take k ++ row.drop k ++ [r]).all fun x => decide (x ≤ 1000000))) = true
    rw [decide_eq_true (show (row.take k).length ≤ 24 by rw [List.length_take]; omega), decide_eq_true (show (row.drop k).length ≤ 12 by rw [List.length_drop]; omega), List.take_append_drop, Bool.true_and, Bool.true_and, List.all_eq_true]
    intro x hx
    rcases List.mem_append.mp hx with hx | hx
    · exact decide_eq_true (bd x hx).2
    · rw [List.mem_singleton.mp hx]
      exact decide_eq_true r1
theorem up_last {row : List Int} {hi : Int} (h : Up row 0 hi) (h1 : 1 < row.length) (hh : hi ≤ 1000000) : Up (row.set (row.length - 1) 1000000) 0 1000000 := by
  have hs : row.set (row.length - 1) 1000000 = row.dropLast ++ [1000000] := by
    have hne : row ≠ [] := fun e => by rw [e] at h1; simp at h1
    obtain ⟨ini, z, e⟩ : ∃ ini z, row = ini ++ [z] := ⟨_, _, (List.dropLast_concat_getLast hne).symm⟩
    subst e
    rw [List.dropLast_concat, List.length_append, List.length_singleton, Nat.add_sub_cancel, List.set_append_right _ _ (Nat.le_refl _), Nat.sub_self]
    rfl
  have sub := List.dropLast_sublist row
  rw [hs]
  refine ⟨?_, fun x hx => ?_, ?_, ?_⟩
  · rw [List.pairwise_append]
    refine ⟨h.pw.sublist sub, List.pairwise_singleton _ _, fun x hx y hy => ?_⟩
    rw [List.mem_singleton.mp hy]
    have := (h.bd x (sub.mem hx)).2
    omega
  · rcases List.mem_append.mp hx with hx | hx
    · have := h.bd x (sub.mem hx)
      omega
    · rw [List.mem_singleton.mp hx]
      decide
  · rw [List.getElem?_append_left (by rw [List.length_dropLast]; omega), List.getElem?_dropLast, if_pos (by omega)]
    exact h.hd
  · rw [List.length_append, List.length_dropLast, List.length_singleton, List.getElem?_append_right (by rw [List.length_dropLast]; omega), List.length_dropLast]
    have : row.length - 1 + 1 - 1 - (row.length - 1) = 0 := by omega
    rw [this]
    rfl
section
variable {P : DEnds} {x : List (Option D) → DX} {m : Sto} {p : Addr} {b : Int} {X : MO} {RX : DX}
theorem ixN_last {n : Nat} (h : 0 < n) : L2.ixN n (-1) = some (n - 1) := by
  unfold L2.ixN
  rw [if_neg (by decide), if_pos (by omega)]
  congr 1
  omega
theorem any_6 {row : List Int} {hi : Int} {k : Nat} {q : Addr} {s2 s3 s5 s6 s7 : Option D} (hp : m p = some X) (hX : PenD b X) (hb : b ≤ 2 ^ 29 + 60) (hq : m q = some (.lst (row.map .int))) (pq : p ≠ q)
    (hU : Up row 0 hi) (hh : hi ≤ 1000000) (hk : k < row.length) (k24 : k ≤ 24) (h12 : row.length ≤ k + 12)
    (h : ∀ c X', CvIn c → PenD (b + 10) X' → P.rt (cvD c) (up (del m q) p X')) :
    r_law_any_curve_6 P ⟨[some (.ptr p), some (.int (k : Int)), s2, s3, some (.ptr q), s5, s6, s7], x⟩ m := by
  have lm : (row.map D.int).length = row.length := List.length_map ..
  have hat : L2.atI (row.map D.int) (k : Int) = some (.int (row.getD k 0)) := by
    have := atI_int (xs := row) (k := (k : Int)) (by omega) (by omega)
    rw [show ((k : Int)).toNat = k by omega] at this
    exact this
  have hkm := hU.bd (row.getD k 0) (List.mem_of_getElem? (gd hk))
  have hhm := hU.bd hi (List.mem_of_getElem? hU.la)
  have p6 : CPow 10 6 := by refine ⟨by decide, by decide, ?_⟩; decide
  refine ⟨_, _, ⟨_, hq, rfl⟩, atI_end hU.la, _, _, ⟨_, hq, rfl⟩, hat, b, X, hp, hX, by omega, by decide, by decide, fun v X1 v0 v1 hX1 => ⟨p6, b + 1, X1, up_same, hX1, by omega, by decide, by decide, fun w X2 w0 w1 hX2 => ⟨(by show 3 ≤ sizeLine; decide), b + 1 + 1, X2, up_same, hX2, by omega, by decide, by decide, fun j X3 j0 j1 hX3 => ?_⟩⟩⟩
  obtain ⟨e, he, hat2⟩ : ∃ e, e ∈ [0, v, w] ∧ L2.atI ([0, v, w].map D.int) j = some (.int e) := atI_mem j0 j1
  have e0 : 0 ≤ e := by
    simp only [List.mem_cons, List.not_mem_nil, or_false] at he
    omega
  have c1 : cut (row.map D.int) none (some (k : Int)) = (row.take k).map .int := by rw [cut_hi (by omega), List.map_take]
  have c2 : cut (row.map D.int) (some (k : Int)) none = (row.drop k).map .int := by rw [cut_lo (by omega), List.map_drop]
  have mq : up (up (up m p X1) p X2) p X3 q = some (.lst (row.map .int)) := by rw [up_ne pq.symm, up_ne pq.symm, up_ne pq.symm, hq]
  have cv := cvin_of (r := min 1000000 (hi - row.getD k 0 + e)) hU hh hk k24 h12 (by omega) (by omega) (by omega)
  have fin := h _ X3 cv (PenD.mono hX3 (by omega))
  have es : del (up (up (up m p X1) p X2) p X3) q = up (del m q) p X3 := by
    funext a
    by_cases e1 : a = q
    · rw [e1, del_same, up_ne pq.symm, del_same]
    · rw [del_ne e1]
      by_cases e2 : a = p
      · rw [e2, up_same, up_same]
      · rw [up_ne e2, up_ne e2, up_ne e2, up_ne e2, del_ne e1]
  have fin : P.rt (.tup [.tup ((row.take k).map .int), .tup ((row.drop k).map .int), .int (min 1000000 (hi - row.getD k 0 + e))]) (up (del m q) p X3) := fin
  rw [← c1, ← c2, ← es] at fin
  exact ⟨_, _, rfl, hat2, q, _, rfl, mq, _, rfl, _, rfl, (by show 3 ≤ sizeLine; decide), fin⟩
theorem any_5 {row : List Int} {hi : Int} {k : Nat} {q : Addr} {s2 s3 s5 s6 s7 : Option D} (hp : m p = some X) (hX : PenD b X) (hb : b ≤ 2 ^ 29 + 55) (hq : m q = some (.lst (row.map .int))) (pq : p ≠ q)
    (hU : Up row 0 hi) (hh : hi ≤ 1000000) (hk : k < row.length) (k24 : k ≤ 24) (h12 : row.length ≤ k + 12)
    (h : ∀ c X', CvIn c → PenD (b + 20) X' → P.rt (cvD c) (up (del m q) p X')) :
    r_law_any_curve_5 P ⟨[some (.ptr p), some (.int (k : Int)), s2, s3, some (.ptr q), s5, s6, s7], x⟩ m := by
  have lm : (row.map D.int).length = row.length := List.length_map ..
  have es : ∀ X1 X' o, up (del (up (up m p X1) q o) q) p X' = up (del m q) p X' := fun X1 X' o => by
    funext a
    by_cases e2 : a = p
    · rw [e2, up_same, up_same]
    · rw [up_ne e2, up_ne e2]
      by_cases e1 : a = q
      · rw [e1, del_same, del_same]
      · rw [del_ne e1, del_ne e1, up_ne e1, up_ne e2]
  have es2 : ∀ X1 X', up (del (up m p X1) q) p X' = up (del m q) p X' := fun X1 X' => by
    funext a
    by_cases e2 : a = p
    · rw [e2, up_same, up_same]
    · rw [up_ne e2, up_ne e2]
      by_cases e1 : a = q
      · rw [e1, del_same, del_same]
      · rw [del_ne e1, del_ne e1, up_ne e2]
  refine ⟨b, X, hp, hX, by omega, by decide, by decide, fun v X1 v0 v1 hX1 => ?_⟩
  have mq : up m p X1 q = some (.lst (row.map .int)) := by rw [up_ne pq.symm, hq]
  have plain : r_law_any_curve_6 P ⟨[some (.ptr p), some (.int (k : Int)), s2, s3, some (.ptr q), s5, s6, s7], x⟩ (up m p X1) :=
    any_6 up_same hX1 (by omega) mq pq hU hh hk k24 h12 fun c X' hc hX' => by
      rw [es2]
      exact h c X' hc (PenD.mono hX' (by omega))
  refine ⟨fun _ => ⟨_, _, mq, rfl, fun z => ?_, fun _ => plain⟩, fun _ => ⟨fun c => (nomatch c), fun _ => plain⟩⟩
  have z : (1 : Int) < ((row.map D.int).length : Int) := of_decide_eq_true z
  rw [lm] at z
  refine ⟨_, row.length - 1, mq, by rw [lm]; exact ixN_last (by omega), ?_⟩
  have hU' := up_last hU (by omega) hh
  have el : (row.map D.int).set (row.length - 1) (.int 1000000) = (row.set (row.length - 1) 1000000).map .int := by rw [List.map_set]
  refine any_6 (row := row.set (row.length - 1) 1000000) (X := X1) (q := q) ?_ hX1 (by omega) ?_ pq hU' (by decide) (by rw [List.length_set]; exact hk) k24 (by rw [List.length_set]; exact h12) fun c X' hc hX' => ?_
  · rw [up_ne pq, up_same]
  · rw [up_same, el]
  · rw [es]
    exact h c X' hc (PenD.mono hX' (by omega))
theorem any_4 {k n : Nat} {far : Int} {q : Addr} {s5 s6 s7 : Option D} (hp : m p = some X) (hX : PenD b X) (hb : b ≤ 2 ^ 29 + 10) (hq : m q = some (.lst [.int 0])) (pq : p ≠ q)
    (k24 : k ≤ 24) (n0 : 0 < n) (n12 : n ≤ 12) (f0 : 0 < far) (f1 : far ≤ 27000)
    (h : ∀ c X', CvIn c → PenD (b + 65) X' → P.rt (cvD c) (up (del m q) p X')) :
    r_law_any_curve_4 P ⟨[some (.ptr p), some (.int (k : Int)), some (.int (n : Int)), some (.int far), some (.ptr q), s5, s6, s7], x⟩ m := by
  refine ⟨by omega, by omega, fun i δ m' => ∃ ns z X' t5, Up ns 0 z ∧ z ≤ 27000 * (i : Int) ∧ ns.length = 1 + i ∧ PenD (b + (i : Int)) X' ∧ m' = up (up m p X') q (.lst (ns.map .int)) ∧ δ = ⟨[some (.ptr p), some (.int (k : Int)), some (.int (n : Int)), some (.int far), some (.ptr q), t5, s6, s7], x⟩, ⟨[0], 0, X, s5, Up.one, by omega, rfl, by simpa using hX, ?_, rfl⟩, fun _ _ _ _ => trivial, ?_, ?_⟩
  · funext a
    by_cases e1 : a = q
    · rw [e1, up_same, hq]
      rfl
    · rw [up_ne e1]
      by_cases e2 : a = p
      · rw [e2, up_same, hp]
      · rw [up_ne e2]
  · rintro i y δ m1 hx ⟨ns, z, X', t5, hU, hz, hl, hX', rfl, rfl⟩
    obtain ⟨hi, rfl⟩ := rgL_inv hx
    refine ⟨⟨_, _, up_same, rfl⟩, _, .int z, ⟨_, up_same, rfl⟩, atI_end hU.la, b + (i : Int), X', by rw [up_ne pq, up_same], hX', by omega, f0, by omega, fun d X2 d0 d1 hX2 => ⟨_, by rw [up_ne pq.symm, up_same], ?_, ns ++ [z + d], z + d, X2, _, hU.app d0, by omega, by rw [List.length_append, List.length_singleton]; omega, PenD.mono hX2 (by omega), ?_, rfl⟩⟩
    · rw [List.length_map]
      exact Nat.lt_of_le_of_lt (show ns.length ≤ 100 by omega) (by decide)
    · rw [Pn.up_swap pq, List.map_append]
      rfl
  · rintro δ m1 ⟨ns, z, X', t5, hU, hz, hl, hX', rfl, rfl⟩
    rw [rgL_len] at hl hX' hz
    have en : ((k : Int) + (n : Int) - 1).toNat = k + n - 1 := by omega
    rw [en] at hl hX' hz
    refine any_5 (row := ns) (hi := z) (X := X') (q := q) (b := b + 36) ?_ (PenD.mono hX' (by omega)) (by omega) up_same pq hU (by omega) (by omega) k24 (by omega) fun c X2 hc hX2 => ?_
    · rw [up_ne pq, up_same]
    · have e : up (del (up (up m p X') q (.lst (ns.map .int))) q) p X2 = up (del m q) p X2 := by
        funext a
        by_cases e3 : a = p
        · rw [e3, up_same, up_same]
        · rw [up_ne e3, up_ne e3]
          by_cases e2 : a = q
          · rw [e2, del_same, del_same]
          · rw [del_ne e2, del_ne e2, up_ne e2, up_ne e3]
      rw [e]
      exact h c X2 hc (PenD.mono hX2 (by omega))
theorem v_law_any_curve {ds : List D} {R : D → Sto → Prop} (h : sp_law_any_curve ds m R RX) : r_law_any_curve { nx := fun _ m' => R .non m', rt := R } ⟨ds.map some ++ List.replicate (8 - ds.length) none, fun _ => RX⟩ m := by
  unfold sp_law_any_curve at h
  split at h
  · rename_i p
    obtain ⟨b, X, hp, hX, hb, hR⟩ := h
    refine ⟨b, X, hp, hX, by omega, by decide, by decide, fun v1 X1 a0 a1 hX1 => ⟨b + 1, X1, up_same, hX1, by omega, by decide, by decide, fun v2 X2 b0 b1 hX2 => ⟨(by show 4 ≤ sizeLine; decide), b + 1 + 1, X2, up_same, hX2, by omega, by decide, by decide, fun j X3 j0 j1 hX3 => ?_⟩⟩⟩
    simp only [up_up]
    obtain ⟨k, hk, hat⟩ : ∃ k, k ∈ [v1, v2, 24, 0] ∧ L2.atI ([v1, v2, 24, 0].map D.int) j = some (.int k) := atI_mem j0 j1
    have k0 : 0 ≤ k ∧ k ≤ 24 := by
      simp only [List.mem_cons, List.not_mem_nil, or_false] at hk
      omega
    refine ⟨_, _, rfl, hat, b + 3, X3, up_same, PenD.mono hX3 (by omega), by omega, by decide, by decide, fun w1 X4 c0 c1 hX4 => ⟨b + 3 + 1, X4, up_same, hX4, by omega, by decide, by decide, fun w2 X5 d0 d1 hX5 => ⟨(by show 3 ≤ sizeLine; decide), b + 3 + 1 + 1, X5, up_same, hX5, by omega, by decide, by decide, fun j2 X6 e0 e1 hX6 => ?_⟩⟩⟩
    simp only [up_up]
    obtain ⟨n, hn, hat2⟩ : ∃ n, n ∈ [1 + w1, 12, 1 + w2] ∧ L2.atI ([1 + w1, 12, 1 + w2].map D.int) j2 = some (.int n) := atI_mem e0 e1
    have n0 : 1 ≤ n ∧ n ≤ 12 := by
      simp only [List.mem_cons, List.not_mem_nil, or_false] at hn
      omega
    refine ⟨_, _, rfl, hat2, (by show 3 ≤ sizeLine; decide), b + 6, X6, up_same, PenD.mono hX6 (by omega), by omega, by decide, by decide, fun j3 X7 f0 f1 hX7 => ?_⟩
    simp only [up_up]
    obtain ⟨far, hf, hat3⟩ : ∃ f, f ∈ [3, 40, 27000] ∧ L2.atI ([3, 40, 27000].map D.int) j3 = some (.int f) := atI_mem f0 f1
    have far0 : 0 < far ∧ far ≤ 27000 := by
      simp only [List.mem_cons, List.not_mem_nil, or_false] at hf
      omega
    refine ⟨_, _, rfl, hat3, (by show 1 ≤ sizeLine; decide), fun q hq => ?_⟩
    have qp : p ≠ q := fun e => by rw [← e, up_same] at hq; cases hq
    have mq : m q = none := by rw [← hq, up_ne qp.symm]
    obtain ⟨kn, rfl⟩ : ∃ kn : Nat, k = (kn : Int) := ⟨k.toNat, by omega⟩
    obtain ⟨nn, rfl⟩ : ∃ nn : Nat, n = (nn : Int) := ⟨n.toNat, by omega⟩
    refine any_4 (X := X7) (q := q) (b := b + 7) ?_ (PenD.mono hX7 (by omega)) (by omega) up_same qp (by omega) (by omega) (by omega) far0.1 far0.2 fun c X' hc hX' => ?_
    · rw [up_ne qp, up_same]
    · have e : up (del (up (up m p X7) q (.lst [.int 0])) q) p X' = up m p X' := by
        funext a
        by_cases e3 : a = p
        · rw [e3, up_same, up_same]
        · rw [up_ne e3, up_ne e3]
          by_cases e2 : a = q
          · rw [e2, del_same, mq]
          · rw [del_ne e2, up_ne e2, up_ne e3]
      show R (cvD c) (up (del (up (up m p X7) q (.lst [.int 0])) q) p X')
      rw [e]
      exact hR c X' hc (PenD.mono hX' (by omega))
  · exact h.elim
end
end Tt

namespace Tt
open PySem PySem.Spec PyProof.Rows L2 Dl Nt Nz TL
open Pn (rgL_inv gd atI_end)
open Pg (atI_int crv)
theorem joinL_two {S : List Nat} {ys : List (List Nat)} (hy : ys ≠ []) : ∀ {xs : List (List Nat)}, xs ≠ [] → joinL S (xs ++ ys) = joinL S xs ++ (S ++ joinL S ys)
  | [x], _ => by rw [List.singleton_append, joinL_cons hy]; rfl
  | x :: y :: r, _ => by
    rw [List.cons_append, joinL_cons (by simp), joinL_two hy (xs := y :: r) (by simp), joinL_cons (ps := y :: r) (by simp)]
    simp
theorem join_two {xs ys : List Str} (hx : xs ≠ []) (hy : ys ≠ []) : Txt.join " " (xs ++ ys) = Txt.join " " xs ++ " " ++ Txt.join " " ys := by
  refine ext_tl ?_
  rw [tl_append, tl_append, join_eq, join_eq, join_eq, tl_join, tl_join, tl_join, List.map_append, joinL_two (by simpa using hy) (by simpa using hx), List.append_assoc]
theorem streamT_law {t : Str × Cv × List Str} (hr : t.2.2 ≠ []) : streamT t = "stream " ++ t.1 ++ " via " ++ Txt.join " " t.2.2 ++ " : " ++ showC t.2.1 := by
  unfold streamT
  rw [join_two (by simp) (by simp), join_two (by simp) hr]
  refine ext_tl ?_
  have e1 : tl ("stream " : Str) = tl ("stream" : Str) ++ [32] := by decide +kernel
  have e2 : tl (" via " : Str) = [32] ++ tl ("via" : Str) ++ [32] := by decide +kernel
  have e3 : tl (" : " : Str) = [32] ++ tl (":" : Str) ++ [32] := by decide +kernel
  have j1 : tl (Txt.join " " [("stream" : Str), t.1, "via"]) = tl ("stream" : Str) ++ ([32] ++ (tl t.1 ++ ([32] ++ tl ("via" : Str)))) := by
    rw [join_eq, tl_join, bl_tl]
    rfl
  have j3 : tl (Txt.join " " [(":" : Str), showC t.2.1]) = tl (":" : Str) ++ ([32] ++ tl (showC t.2.1)) := by
    rw [join_eq, tl_join, bl_tl]
    rfl
  simp only [tl_append, e1, e2, e3, bl_tl, j1, j3]
  simp
section
variable {P : DEnds} {x : List (Option D) → DX} {m : Sto} {p : Addr} {b : Int} {X : MO} {RX : DX} {R : D → Sto → Prop}
theorem v_law_numbers_text {ds : List D} (h : sp_law_numbers_text ds m R RX) : r_law_numbers_text { nx := fun _ m' => R .non m', rt := R } ⟨ds.map some ++ List.replicate (2 - ds.length) none, fun _ => RX⟩ m := v_show_numbers h
theorem eqT_nil (ns : List Int) : PyData.eqv (.tuple (ns.map .int)) (.tuple []) = decide (ns = []) := by
  rw [PyData.eqv]
  cases ns with
  | nil => rw [List.map_nil, PyData.eqvAll]; rfl
  | cons _ _ => rw [List.map_cons, PyData.eqvAll]; rfl
theorem shapedT (ns : List Int) : SeqAt.shaped (.tuple (ns.map .int)) = true := by
  have h1 : ∀ ns : List Int, PyData.canLayAll0 (ns.map PyData.int) = true := fun ns => by
    induction ns with
    | nil => rw [List.map_nil, PyData.canLayAll0]
    | cons n r ih => rw [List.map_cons, PyData.canLayAll0, ih, PyData.canLay0]; rfl
  have h2 : ∀ ns : List Int, PyData.depthAll (ns.map PyData.int) = 0 := fun ns => by
    induction ns with
    | nil => rw [List.map_nil, PyData.depthAll]
    | cons n r ih => rw [List.map_cons, PyData.depthAll, ih, PyData.depth]; rfl
  unfold SeqAt.shaped
  rw [PyData.canLay0, h1, PyData.depth, h2]
  rfl
theorem v_law_curve_text {ds : List D} (h : sp_law_curve_text ds m R RX) : r_law_curve_text { nx := fun _ m' => R .non m', rt := R } ⟨ds.map some ++ List.replicate (4 - ds.length) none, fun _ => RX⟩ m := by
  unfold sp_law_curve_text at h
  split at h
  · obtain ⟨c, rfl, hc, hR⟩ := h
    have h1 := aheadT_len hc.1
    have h2 := showN_len hc.2.1
    have h3 := numT_len hc.2.2.1 hc.2.2.2
    have e : (" / " : Str).length = 3 := by decide
    refine ⟨rfl, c.F, rfl, hc.1, (by show 2 ≤ sizeLine; decide), (by show 0 ≤ sizeLine; decide), .tuple (c.F.map .int), .tuple [], .tup (PvL.ints c.F), .tup .nil, shapedT _, shapedT [], ?_⟩
    rw [eqT_nil]
    have go : ∀ a : Str, a = aheadT c.F → ∀ ix : Int, L2.atI [D.str (showN c.F), .str "-"] ix = some (.str a) → ∃ xs y, SeqIs m (.lst [D.str (showN c.F), .str "-"]) xs ∧ L2.atI xs ix = some y ∧ (dOp (addD false) (dOp (addD false) (dOp (addD false) (dOp (addD false) (dC y) (dC (.str " / "))) (dCall sp_law_numbers_text (dCons (dVar 2) dNil))) (dC (.str " / "))) (dCB strD (dCons (dVar 3) dNil))) ⟨[some (cvD c), some (tupI c.F), some (tupI c.A), some (.int c.r)], fun _ => RX⟩ m R := fun a ha ix hix => by
      subst ha
      refine ⟨_, _, rfl, hix, szn (by rw [e]; omega), c.A, rfl, hc.2.1, szn (by rw [la, e]; omega), szn (by rw [la, la, e]; omega), small_log hc.2.2.1 hc.2.2.2, szn (by
        have : (toString c.r : Str).length = (numT c.r).length := rfl
        rw [la, la, la, e]; omega), hR⟩
    by_cases hf : c.F = []
    · rw [decide_eq_true hf]
      exact go "-" (by unfold aheadT; rw [if_pos hf]) 1 rfl
    · rw [decide_eq_false hf]
      exact go (showN c.F) (by unfold aheadT; rw [if_neg hf]) 0 rfl
  · exact h.elim
theorem law_l1 {t : Str × Cv × List Str} {q : Addr} {L : List Str} {s0 : Option D} (hq : m q = some (.lst (L.map .str))) (lL : L.length ≤ 100) (hn : isName t.1 = true) (hc : CvOk t.2.1) (hr : t.2.2 ≠ []) (hl : t.2.2.length ≤ 6) (hz : ∀ z ∈ t.2.2, isName z = true)
    (hR : P.nx ⟨[s0, some (.ptr q), some (.str t.1), some (cvD t.2.1), some (.tup (t.2.2.map .str))], x⟩ (up m q (.lst ((L ++ [streamT t]).map .str)))) :
    r_law_net_text_l1 P ⟨[s0, some (.ptr q), some (.str t.1), some (cvD t.2.1), some (.tup (t.2.2.map .str))], x⟩ m := by
  have h1 := showC_len hc
  have h2 := (name_lets hn).2.1
  have e1 : ("stream " : Str).length = 7 := by decide
  have e2 : (" via " : Str).length = 5 := by decide
  have e3 : (" : " : Str).length = 3 := by decide
  have e4 : (" " : Str).length = 1 := by decide
  have hs : (t.2.2.map (·.length)).sum ≤ t.2.2.length * 8 := sum_map_le fun z h => (name_lets (hz z h)).2.1
  have hj := join_len " " t.2.2
  rw [e4] at hj
  have et := streamT_law hr
  refine ⟨⟨_, _, hq, rfl⟩, szn (by rw [e1]; omega), szn (by rw [la, e1, e2]; omega), t.2.2, rfl, by rw [e4]; omega, szn (by rw [la, la, e1, e2]; omega), szn (by rw [la, la, la, e1, e2, e3]; omega), t.2.1, rfl, hc, szn (by rw [la, la, la, la, e1, e2, e3]; omega), L.map .str, hq, ?_, ?_⟩
  · rw [List.length_map]
    exact Nat.lt_of_le_of_lt lL (by decide)
  · rw [List.map_append, et] at hR
    exact hR
theorem v_law_net_text {ds : List D} (h : sp_law_net_text ds m R RX) : r_law_net_text { nx := fun _ m' => R .non m', rt := R } ⟨ds.map some ++ List.replicate (5 - ds.length) none, fun _ => RX⟩ m := by
  unfold sp_law_net_text at h
  split at h
  · obtain ⟨S, T, rfl, N, hR⟩ := h
    have lS := N.s6
    have lT := N.t6
    have hN : ∀ y ∈ S.map (·.1), isName y = true := fun y hy => by
      obtain ⟨s, hs, e⟩ := List.mem_map.mp hy
      exact e ▸ (N.sN s hs).1
    refine ⟨_, .tup (S.map svD), rfl, rfl, lc_pure true ((S.map serverT).map .str) (fun _ _ => trivial) (by rw [List.length_map, List.length_map, List.length_map]) (by rw [List.length_map]; exact szn (by omega)) (fun k y z m3 hx hy le => ?_) fun q hq => ⟨_, .tup (T.map stD), rfl, rfl, ?_⟩⟩
    · rw [List.getElem?_map] at hx
      rw [List.getElem?_map, List.getElem?_map] at hy
      cases hs : S[k]? with
      | none => rw [hs] at hx; cases hx
      | some s =>
        rw [hs] at hx hy
        cases hx
        cases hy
        obtain ⟨hn, hc⟩ := N.sN s (List.mem_of_getElem? hs)
        have hc := hc.ok
        have h1 := showC_len hc
        have h2 := (name_lets hn).2.1
        have e1 : ("server " : Str).length = 7 := by decide
        have e2 : (" " : Str).length = 1 := by decide
        exact ⟨_, rfl, fun R hR => ⟨szn (by rw [e1]; omega), szn (by rw [la, e1, e2]; omega), s.2, rfl, hc, szn (by rw [la, la, e1, e2]; omega), hR⟩⟩
    · refine ⟨fun i δ m' => ∃ t2 t3 t4, m' = up m q (.lst ((S.map serverT ++ (T.take i).map streamT).map .str)) ∧ δ = ⟨[some (netD S T), some (.ptr q), t2, t3, t4], fun _ => RX⟩, ⟨none, none, none, by simp, rfl⟩, fun _ _ _ _ => trivial, ?_, ?_⟩
      · rintro i y δ m1 hx ⟨t2, t3, t4, rfl, rfl⟩
        rw [List.getElem?_map] at hx
        cases ht : T[i]? with
        | none => rw [ht] at hx; cases hx
        | some t =>
          rw [ht] at hx
          cases hx
          obtain ⟨hn, hc, hr, hl⟩ := N.tN t (List.mem_of_getElem? ht)
          refine ⟨rfl, law_l1 (L := S.map serverT ++ (T.take i).map streamT) up_same ?_ hn hc.ok hr.ne hl (fun z hz => hN z (hr.mem z hz)) ⟨_, _, _, ?_, rfl⟩⟩
          · rw [List.length_append, List.length_map, List.length_map, List.length_take]
            omega
          · rw [up_up, List.take_add_one, ht, List.map_append (f := streamT), ← List.append_assoc]
            rfl
      · rintro δ m1 ⟨t2, t3, t4, rfl, rfl⟩
        rw [List.length_map, List.take_length]
        refine ⟨q, _, rfl, up_same, S.map serverT ++ T.map streamT, rfl, ?_, ?_⟩
        · have hs : ((S.map serverT ++ T.map streamT).map (·.length)).sum ≤ (S.map serverT ++ T.map streamT).length * 140200 := sum_map_le fun a ha => by
            rcases List.mem_append.mp ha with ha | ha
            · obtain ⟨s, hs, rfl⟩ := List.mem_map.mp ha
              have := serverT_len (N.sN s hs).1 (N.sN s hs).2.ok
              omega
            · obtain ⟨t, ht, rfl⟩ := List.mem_map.mp ha
              obtain ⟨a, b, c, d⟩ := N.tN t ht
              exact (streamT_len a b.ok d fun z hz => hN z (c.mem z hz)).1
          have hl : (S.map serverT ++ T.map streamT).length ≤ 12 := by rw [List.length_append, List.length_map, List.length_map]; omega
          have e : ("\n" : Str).length = 1 := by decide
          rw [e]
          have := Nat.mul_le_mul_right 140200 hl
          omega
        · show R _ (del (up m q _) q)
          rw [del_up hq]
          exact hR
  · exact h.elim
end
end Tt

namespace Pl
open PySem PySem.Spec PyProof.Rows L2 Dl Nz
open Pn (rgL_inv gd atI_end)
open Pg (atI_int crv)
open Nt (szn cut_hi cut_lo)
section
variable {m m' : Sto} {R : D → Sto → Prop} {RX : DX} {P : DEnds} {x : List (Option D) → DX}
theorem mulS {i : Int} {n : Nat} (h : n ≤ 1000000000) : MulOk i (n : Int) := MulOk.small (by omega) (by omega)
theorem divS {i : Int} {n : Nat} (h0 : 0 < n) (h : n ≤ 1000000000) : CDivW i (n : Int) := CDivW.small (by omega) (by omega)
theorem v_up_in {ds : List D} (h : sp_up_in ds m R RX) : r_up_in { nx := fun _ m' => R .non m', rt := R } ⟨ds.map some ++ List.replicate (2 - ds.length) none, fun _ => RX⟩ m := by
  unfold sp_up_in at h
  split at h
  · rename_i f t
    obtain ⟨⟨F, A, r⟩, rfl, W, t0, t1, hR⟩ := h
    have a0 : 0 < A.length := List.length_pos_iff.mpr W.a0
    have a1 : A.length ≤ 1000000 := W.a1
    have lA : (A.map D.int).length = A.length := List.length_map ..
    have hq := Int.ediv_le_self (a := t) (A.length : Int) t0
    have hq0 : 0 ≤ t / (A.length : Int) := Int.ediv_nonneg t0 (by omega)
    refine ⟨_, .int r, rfl, rfl, _, .tup (A.map .int), rfl, rfl, ?_, ?_, ?_⟩
    · rw [lA]
      exact divS a0 (by omega)
    · rw [lA]
      exact MulOk.small (by omega) (by omega)
    · rw [lA]
      exact hR
  · exact h.elim
theorem v_common_measure {ds : List D} (h : sp_common_measure ds m R RX) : r_common_measure { nx := fun _ m' => R .non m', rt := R } ⟨ds.map some ++ List.replicate (2 - ds.length) none, fun _ => RX⟩ m := by
  unfold sp_common_measure at h
  split at h
  · rename_i a b
    obtain ⟨x, y, rfl, rfl, hR⟩ := h
    refine ⟨fun n δ m' => ∃ u v : Nat, Nat.gcd u v = Nat.gcd x y ∧ n = v ∧ δ = ⟨[some (.int (u : Int)), some (.int (v : Int))], fun _ => RX⟩ ∧ m' = m, ⟨y, x, y, rfl, rfl, rfl, rfl⟩, ?_⟩
    rintro n δ m' ⟨u, v, hg, rfl, rfl, rfl⟩
    refine ⟨fun z => ?_, fun z => ?_⟩
    · have hv : (0 : Int) < (n : Int) := of_decide_eq_true z
      have hlt := Nat.mod_lt u (show n > 0 by omega)
      refine ⟨hv, u % n, hlt, n, u % n, ?_, rfl, ?_, rfl⟩
      · rw [Nat.gcd_comm, ← Nat.gcd_rec, Nat.gcd_comm] at *
        first | exact hg | (rw [Nat.gcd_comm]; exact hg)
      · rfl
    · have hv : ¬ ((0 : Int) < (n : Int)) := of_decide_eq_false z
      have : n = 0 := by omega
      subst this
      rw [Nat.gcd_zero_right] at hg
      subst hg
      exact hR
  · exact h.elim
theorem v_goes_on_by {ds : List D} (h : sp_goes_on_by ds m R RX) : r_goes_on_by { nx := fun _ m' => R .non m', rt := R } ⟨ds.map some ++ List.replicate (6 - ds.length) none, fun _ => RX⟩ m := by
  unfold sp_goes_on_by at h
  split at h
  · rename_i a r k
    obtain ⟨A, n, rfl, rfl, n0, nA, lA, hR⟩ := h
    have lAm : (A.map D.int).length = A.length := List.length_map ..
    unfold goesOn at hR
    refine ⟨mulS (by omega), by rw [lAm]; omega, ?_⟩
    by_cases h0 : r * (n : Int) % (A.length : Int) = 0
    · rw [decide_eq_true h0, Bool.true_and] at hR
      refine ⟨fun z => ?_, fun _ => ⟨mulS (by omega), by rw [lAm]; exact divS (by omega) (by omega), ?_⟩⟩
      · have z : (!decide (r * (n : Int) % ((A.map D.int).length : Int) = 0)) = true := z
        rw [lAm, decide_eq_true h0] at z
        cases z
      · refine ⟨by rw [lAm]; omega, lc_pure false (((List.range (A.length - n)).map fun j => decide (A.getD (n + j) 0 = A.getD j 0 + stepI r n A.length)).map D.bl) (fun _ _ => trivial) ?_ ?_ (fun j y z m3 hx hy le => ?_) ⟨_, rfl, by rw [List.all_map]; exact hR⟩⟩
        · rw [rgL_len, List.length_map, List.length_map, List.length_map, List.length_range]
          omega
        · rw [rgL_len, lAm]
          exact szn (by omega)
        · obtain ⟨hj, rfl⟩ := rgL_inv hx
          rw [lAm] at hj
          have hj' : j < A.length - n := by omega
          rw [List.getElem?_map, List.getElem?_map, List.getElem?_range hj'] at hy
          cases hy
          refine ⟨_, rfl, fun R hR => ⟨_, _, rfl, atI_int (by omega) (by omega), _, _, rfl, atI_int (by omega) (by omega), ?_⟩⟩
          have e1 : ((n : Int) + (j : Int)).toNat = n + j := by omega
          have e2 : ((n : Int) + (j : Int) - (n : Int)).toNat = j := by omega
          rw [e1, e2, lAm]
          exact hR
    · rw [decide_eq_false h0, Bool.false_and] at hR
      refine ⟨fun _ => hR, fun z => ?_⟩
      have z : (!decide (r * (n : Int) % ((A.map D.int).length : Int) = 0)) = false := z
      rw [lAm, decide_eq_false h0] at z
      cases z
  · exact h.elim
end
end Pl

namespace Pl
open PySem PySem.Spec PyProof.Rows L2 Dl Nz
open Pn (rgL_inv gd atI_end)
open Pg (atI_int crv)
open Nt (szn cut_hi cut_lo)
section
variable {m m' : Sto} {R : D → Sto → Prop} {RX : DX} {P : DEnds} {x : List (Option D) → DX}
theorem v_shortest_round {ds : List D} (h : sp_shortest_round ds m R RX) : r_shortest_round { nx := fun _ m' => R .non m', rt := R } ⟨ds.map some ++ List.replicate (4 - ds.length) none, fun _ => RX⟩ m := by
  unfold sp_shortest_round at h
  split at h
  · rename_i a r
    obtain ⟨A, rfl, hA, lA, hR⟩ := h
    have lAm : (A.map D.int).length = A.length := List.length_map ..
    have a0 : 0 < A.length := List.length_pos_iff.mpr hA
    refine ⟨by rw [lAm]; omega, fun i δ m' => ∃ t3, shortK A r = ((List.range' 1 (A.length - 1)).drop i).find? (fun k => decide (A.length % k = 0) && goesOn A r k) ∧ δ = ⟨[some (.tup (A.map .int)), some (.int r), some (.int ((A.map D.int).length : Int)), t3], fun _ => RX⟩ ∧ m' = m, ⟨none, rfl, rfl, rfl⟩, fun _ _ _ _ => trivial, ?_, ?_⟩
    · rintro i y δ m1 hx ⟨t3, he, rfl, rfl⟩
      obtain ⟨hi, rfl⟩ := rgL_inv hx
      rw [lAm] at hi
      have hi' : i < A.length - 1 := by omega
      have hd : (List.range' 1 (A.length - 1)).drop i = (1 + i) :: (List.range' 1 (A.length - 1)).drop (i + 1) := drop_get (by rw [List.getElem?_range' hi']; simp)
      have ek : (1 : Int) + (i : Int) = ((1 + i : Nat) : Int) := by omega
      have go : ∀ b, (b = (decide (A.length % (1 + i) = 0) && goesOn A r (1 + i))) → b = false → shortK A r = ((List.range' 1 (A.length - 1)).drop (i + 1)).find? (fun k => decide (A.length % k = 0) && goesOn A r k) := fun b e hb => by
        rw [he, hd, List.find?_cons, ← e, hb]
      have yes : (decide (A.length % (1 + i) = 0) && goesOn A r (1 + i)) = true → shortK A r = some (1 + i) := fun e => by
        rw [he, hd, List.find?_cons, e]
      have em : ∀ z : Bool, decide (((A.map D.int).length : Int) % (1 + (i : Int)) = 0) = z → decide (A.length % (1 + i) = 0) = z := fun z hz => by
        rw [← hz, lAm, ek, Bool.eq_iff_iff, decide_eq_true_iff, decide_eq_true_iff]
        omega
      refine ⟨by omega, fun z => ?_, fun z => ⟨fun c => (nomatch c), fun _ => ?_⟩⟩
      · have z' := em true z
        refine ⟨A, 1 + i, rfl, ek, by omega, by omega, lA, fun c => ?_, fun c => ?_⟩
        · have hs := yes (by rw [z', c]; rfl)
          unfold shortest at hR
          rw [hs] at hR
          have ct : cut (A.map D.int) none (some (1 + (i : Int))) = (A.take (1 + i)).map .int := by rw [ek, cut_hi (by omega), List.map_take]
          have hR' : R (.tup [.tup ((A.take (1 + i)).map .int), .int (r * ((1 + i : Nat) : Int) / (A.length : Int))]) m1 := hR
          rw [← ct, ← ek, ← lAm] at hR'
          exact ⟨by rw [ek]; exact mulS (by omega), by rw [lAm]; exact divS a0 (by omega), (by show 2 ≤ sizeLine; decide), hR'⟩
        · exact ⟨_, go _ rfl (by rw [z', c]; rfl), rfl, rfl⟩
      · exact ⟨_, go _ rfl (by rw [em false z]; rfl), rfl, rfl⟩
    · rintro δ m1 ⟨t3, he, rfl, rfl⟩
      rw [rgL_len, lAm, List.drop_of_length_le (by rw [List.length_range']; omega)] at he
      unfold shortest at hR
      rw [he] at hR
      exact ⟨(by show 2 ≤ sizeLine; decide), hR⟩
  · exact h.elim
theorem shortest_ne {A : List Int} {r : Int} (hA : A ≠ []) : (shortest A r).1 ≠ [] ∧ (shortest A r).1.length ≤ A.length := by
  unfold shortest
  split
  · rename_i k hk
    have hm := List.mem_of_find?_eq_some hk
    rw [List.mem_range'] at hm
    obtain ⟨i, h1, h2⟩ := hm
    refine ⟨fun e => ?_, by rw [List.length_take]; omega⟩
    have := congrArg List.length e
    rw [List.length_take, List.length_nil] at this
    omega
  · exact ⟨hA, Nat.le_refl _⟩
theorem per_in {A : List Int} {n : Int} (a0 : 0 < A.length) : L2.atI (A.map D.int) (n % (A.length : Int)) = some (.int (A.getD (n % (A.length : Int)).toNat 0)) :=
  atI_int (Int.emod_nonneg _ (by omega)) (Int.emod_lt_of_pos _ (by omega))
theorem v_reduced {ds : List D} (h : sp_reduced ds m R RX) : r_reduced { nx := fun _ m' => R .non m', rt := R } ⟨ds.map some ++ List.replicate (8 - ds.length) none, fun _ => RX⟩ m := by
  unfold sp_reduced at h
  split at h
  · rename_i f a r0
    obtain ⟨F, A0, rfl, rfl, hA0, lA0, lF, hR⟩ := h
    obtain ⟨n1, n2⟩ := shortest_ne (r := r0) hA0
    refine ⟨A0, rfl, hA0, lA0, rfl, ?_⟩
    unfold reduced at hR
    generalize hs : shortest A0 r0 = s at hR n1 n2
    obtain ⟨A, r⟩ := s
    have hR : R (cvD ⟨F.take (F.length - backN F A r F.length 0), turned A r (backN F A r F.length 0), r⟩) m := hR
    have a0 : 0 < A.length := List.length_pos_iff.mpr n1
    have lA : A.length ≤ 1000000 := Nat.le_trans n2 lA0
    have lAm : (A.map D.int).length = A.length := List.length_map ..
    have lFm : (F.map D.int).length = F.length := List.length_map ..
    refine ⟨fun n δ m' => ∃ b, n + b = F.length ∧ backN F A r F.length 0 = backN F A r n b ∧ m' = m ∧ δ = ⟨[some (.tup (F.map .int)), some (.tup (A.map .int)), some (.int r), some (.int (n : Int)), some (.int (b : Int)), some (.int (A.length : Int)), none, none], fun _ => RX⟩, ⟨F.length, 0, rfl, rfl, rfl, ?_⟩, ?_⟩
    · show (⟨[_, _, _, some (.int ((F.map D.int).length : Int)), _, some (.int ((A.map D.int).length : Int)), _, _], _⟩ : Ev) = _
      rw [lAm, lFm]
      rfl
    · rintro n δ m' ⟨b, hb, he, rfl, rfl⟩
      have fin : backN F A r F.length 0 = b → r_reduced_5 { nx := fun _ m' => R .non m', rt := R } ⟨[some (.tup (F.map .int)), some (.tup (A.map .int)), some (.int r), some (.int (n : Int)), some (.int (b : Int)), some (.int (A.length : Int)), none, none], fun _ => RX⟩ m' := fun e => by
        rw [e] at hR
        refine ⟨by omega, by omega, lc_pure false ((turned A r b).map D.int) (fun _ _ => trivial) ?_ ?_ (fun k y z m3 hx hy le => ?_) ⟨_, rfl, _, rfl, (by show 3 ≤ sizeLine; decide), ?_⟩⟩
        · rw [rgL_len, List.length_map]
          unfold turned
          rw [List.length_map, List.length_range]
          omega
        · rw [rgL_len]
          exact szn (by omega)
        · obtain ⟨hk, rfl⟩ := rgL_inv hx
          have hk' : k < A.length := by omega
          unfold turned at hy
          rw [List.getElem?_map, List.getElem?_map, List.getElem?_range hk'] at hy
          cases hy
          have q1 : (0 + (k : Int) - (b : Int)) / (A.length : Int) ≤ 1000000000 := by
            have := Int.ediv_le_ediv (c := (A.length : Int)) (by omega) (show 0 + (k : Int) - (b : Int) ≤ 1000000000 by omega)
            exact Int.le_trans this (Int.ediv_le_self _ (by omega))
          have q0 : -1000000000 ≤ (0 + (k : Int) - (b : Int)) / (A.length : Int) := by
            have h1 : -1000000000 * (A.length : Int) ≤ 0 + (k : Int) - (b : Int) := by omega
            exact (Int.le_ediv_iff_mul_le (by omega)).mpr h1
          refine ⟨_, rfl, fun R hR => ⟨by omega, _, _, rfl, per_in a0, divS a0 (by omega), MulOk.small (by omega) (by omega), ?_⟩⟩
          have e1 : (0 : Int) + (k : Int) = (k : Int) := by omega
          rw [e1]
          exact hR
        · have ct : cut (F.map D.int) none (some (n : Int)) = (F.take (F.length - b)).map .int := by
            rw [cut_hi (by omega), List.map_take]
            have : F.length - b = n := by omega
            rw [this]
          have hR' : R (.tup [.tup ((F.take (F.length - b)).map .int), .tup ((turned A r b).map .int), .int r]) m' := hR
          rw [← ct] at hR'
          exact hR'
      refine ⟨fun z => ?_, fun z => ?_⟩
      · have hn : 0 < n := by
          have := of_decide_eq_true z
          omega
        obtain ⟨n, rfl⟩ : ∃ k, n = k + 1 := ⟨n - 1, by omega⟩
        have en : ((n + 1 : Nat) : Int) - 1 = (n : Int) := by omega
        have ix : L2.atI (F.map D.int) (((n + 1 : Nat) : Int) - 1) = some (.int (F.getD n 0)) := by
          rw [en]
          exact atI_int (k := (n : Int)) (by omega) (by omega)
        rw [backN] at he
        have b0 : 0 ≤ (b : Int) / (A.length : Int) := Int.ediv_nonneg (by omega) (by omega)
        have b1 : (b : Int) / (A.length : Int) ≤ (b : Int) := Int.ediv_le_self _ (by omega)
        refine ⟨_, _, rfl, ix, by omega, _, _, rfl, per_in a0, divS a0 (by omega), MulOk.small (by omega) (by omega), fun c => ?_, fun c => ?_⟩
        · rw [if_pos (of_decide_eq_true c)] at he
          refine ⟨n, Nat.lt_succ_self n, b + 1, by omega, he, rfl, ?_⟩
          show (⟨[_, _, _, some (.int (((n + 1 : Nat) : Int) - 1)), some (.int ((b : Int) + 1)), _, _, _], _⟩ : Ev) = _
          rw [en]
          rfl
        · rw [if_neg (of_decide_eq_false c)] at he
          exact fin he
      · have hn : n = 0 := by
          have := of_decide_eq_false z
          omega
        subst hn
        rw [backN] at he
        exact ⟨fun c => (nomatch c), fun _ => fin he⟩
  · exact h.elim
end
end Pl

namespace Pl
open PySem PySem.Spec PyProof.Rows L2 Dl Nz
open Pn (rgL_inv gd atI_end)
open Pg (atI_int crv)
open Nt (szn cut_hi cut_lo)
section
variable {m m' : Sto} {R : D → Sto → Prop} {RX : DX} {P : DEnds} {x : List (Option D) → DX} {L E : Addr}
theorem cut_ab {xs : List D} {a b : Nat} (h : a + b ≤ xs.length) : cut xs (some (a : Int)) (some ((a : Int) + (b : Int))) = (xs.drop a).take b := by
  rw [show (a : Int) + (b : Int) = ((a + b : Nat) : Int) by omega]
  unfold cut
  rw [HT.sIx_nat, HT.sIx_nat, Nat.min_eq_left (show a ≤ xs.length by omega), Nat.min_eq_left h]
  congr 1
  omega
theorem v_told {ds : List D} (h : sp_told L ds m R RX) : r_told L { nx := fun _ m' => R .non m', rt := R } ⟨ds.map some ++ List.replicate (5 - ds.length) none, fun _ => RX⟩ m := by
  unfold sp_told at h
  split at h
  · rename_i d a b r
    obtain ⟨ns, at_, Rn, hd, rfl, rfl, R0, hl, ln, hR⟩ := h
    have lm : (ns.map D.int).length = ns.length := List.length_map ..
    have c1 : cut (ns.map D.int) none (some (at_ : Int)) = (ns.take at_).map .int := by rw [cut_hi (by omega), List.map_take]
    have c2 : cut (ns.map D.int) (some (at_ : Int)) (some ((at_ : Int) + (Rn : Int))) = ((ns.drop at_).take Rn).map .int := by rw [cut_ab (by omega), List.map_take, List.map_drop]
    have l2 : ((ns.drop at_).take Rn).length = Rn := by rw [List.length_take, List.length_drop]; omega
    have key : sp_reduced [.tup ((ns.take at_).map .int), .tup (((ns.drop at_).take Rn).map .int), .int r] m (fun d' m1 => dSeq (dIf (dB (dOp gtD (dOp (addD false) (dCB lenD (dCons (dOp ixD (dVar 4) (dC (.int 0))) dNil)) (dCB lenD (dCons (dOp ixD (dVar 4) (dC (.int 1))) dNil))) (dC (.int 600)))) (dRaise L) dNext) (dRet (dVar 4)) { nx := fun _ m' => R .non m', rt := R } ⟨[some d, some (.int (at_ : Int)), some (.int (Rn : Int)), some (.int r), some d'], fun _ => RX⟩ m1) (fun _ _ _ => False) := by
      refine ⟨_, _, rfl, rfl, fun z => ?_, by rw [l2]; omega, by rw [List.length_take]; omega, ?_⟩
      · rw [z] at l2
        simp at l2
        omega
      · unfold toldP limit at hR
        generalize reduced (ns.take at_) ((ns.drop at_).take Rn) r = c at hR ⊢
        have e1 : (c.F.map D.int).length = c.F.length := List.length_map ..
        have e2 : (c.A.map D.int).length = c.A.length := List.length_map ..
        refine ⟨_, .tup (c.F.map .int), rfl, rfl, _, .tup (c.A.map .int), rfl, rfl, fun z => ?_, fun z => ?_⟩
        · have := of_decide_eq_true z
          rw [if_neg (by omega)] at hR
          exact hR
        · have := of_decide_eq_false z
          rw [if_pos (by omega)] at hR
          exact hR
    rw [← c1, ← c2] at key
    rcases hd with rfl | rfl
    · exact ⟨_, rfl, _, rfl, key⟩
    · exact ⟨_, rfl, _, rfl, key⟩
  · exact h.elim
theorem v_plain {ds : List D} (h : sp_plain L ds m R RX) : r_plain L { nx := fun _ m' => R .non m', rt := R } ⟨ds.map some ++ List.replicate (1 - ds.length) none, fun _ => RX⟩ m := by
  unfold sp_plain at h
  split at h
  · obtain ⟨⟨F, A, r⟩, rfl, W, ll, hR⟩ := h
    have a0 : 0 < A.length := List.length_pos_iff.mpr W.a0
    have ll : F.length + A.length ≤ 1000000 := ll
    have e : F.map D.int ++ A.map D.int = (F ++ A).map D.int := by rw [List.map_append]
    have lFm : (F.map D.int).length = F.length := List.length_map ..
    have lAm : (A.map D.int).length = A.length := List.length_map ..
    refine ⟨_, .tup (F.map .int), rfl, rfl, _, .tup (A.map .int), rfl, rfl, szn (by rw [lFm, lAm]; exact ll), _, .tup (F.map .int), rfl, rfl, _, .tup (A.map .int), rfl, rfl, _, .int r, rfl, rfl, F ++ A, F.length, A.length, .inl (by rw [e]), by rw [lFm], by rw [lAm], a0, by rw [List.length_append]; omega, by rw [List.length_append]; omega, ?_⟩
    unfold toldP
    rw [List.take_left, List.drop_left, List.take_length]
    exact hR
  · exact h.elim
theorem ans_bind {α β : Type} {f : α → D} {g : β → D} {o : Out α} {k : α → Out β} {R : D → Sto → Prop} {RX : DX} (h : ans L E g (o >>= k) R RX m) : ans L E f o (fun d m1 => m1 = m ∧ ∃ v, d = f v ∧ o = .ok v ∧ ans L E g (k v) R RX m) RX m := by
  cases o with
  | ok v => exact ⟨rfl, v, rfl, rfl, h⟩
  | error e => cases e <;> exact h
theorem ans_weak {α : Type} {f : α → D} {o : Out α} {R R' : D → Sto → Prop} {RX : DX} (h : ans L E f o R RX m) (k : ∀ d, R d m → R' d m) : ans L E f o R' RX m := by
  cases o with
  | ok v => exact k _ h
  | error e => cases e <;> exact h
theorem limit_ok {c d : Cv} (h : limit c = .ok d) : d = c ∧ c.F.length + c.A.length ≤ 600 := by
  unfold limit at h
  split at h
  · rename_i hl
    cases h
    exact ⟨rfl, hl⟩
  · cases h
theorem turned_len {A : List Int} {r : Int} {b : Nat} : (turned A r b).length = A.length := by
  unfold turned
  rw [List.length_map, List.length_range]
theorem reduced_wf {F A : List Int} {r : Int} (hA : A ≠ []) : (reduced F A r).A ≠ [] ∧ (reduced F A r).A.length ≤ A.length ∧ (reduced F A r).F.length ≤ F.length := by
  obtain ⟨n1, n2⟩ := shortest_ne (r := r) hA
  unfold reduced
  refine ⟨fun z => ?_, ?_, ?_⟩
  · have := congrArg List.length z
    rw [turned_len, List.length_nil] at this
    exact n1 (List.length_eq_zero_iff.mp this)
  · show (turned _ _ _).length ≤ _
    rw [turned_len]
    exact n2
  · show (F.take _).length ≤ _
    rw [List.length_take]
    omega
/-- a plain curve -/
structure PlainC (c : Cv) : Prop where
  a0 : c.A ≠ []
  ln : c.F.length + c.A.length ≤ 600
theorem PlainC.wf {c : Cv} (h : PlainC c) : Cv.Wf c := ⟨h.a0, by have := h.ln; omega, by have := h.ln; omega⟩
theorem plain_ok {c d : Cv} (W : Cv.Wf c) (h : plainP c = .ok d) : PlainC d := by
  obtain ⟨rfl, hl⟩ := limit_ok h
  exact ⟨(reduced_wf W.a0).1, hl⟩
theorem toldP_ok {ns : List Int} {a R : Nat} {r : Int} {d : Cv} (h0 : 0 < R) (hl : a + R ≤ ns.length) (h : toldP ns a R r = .ok d) : PlainC d := by
  obtain ⟨rfl, hl⟩ := limit_ok h
  refine ⟨(reduced_wf fun z => ?_).1, hl⟩
  have := congrArg List.length z
  rw [List.length_take, List.length_drop, List.length_nil] at this
  omega
end
end Pl

namespace Pl
open PySem PySem.Spec PyProof.Rows L2 Dl Nz
open Pn (rgL_inv gd atI_end)
open Pg (atI_int crv)
open Nt (szn cut_hi cut_lo)
section
variable {m m' : Sto} {R : D → Sto → Prop} {RX : DX} {P : DEnds} {x : List (Option D) → DX} {L E : Addr}
theorem lcm_ok {a b n : Nat} (h : lcmP a b = .ok n) : n = a * b / Nat.gcd a b ∧ n ≤ 600 := by
  unfold lcmP at h
  split at h
  · rename_i hl
    cases h
    exact ⟨rfl, hl⟩
  · cases h
theorem v_common_round {ds : List D} (h : sp_common_round L ds m R RX) : r_common_round L { nx := fun _ m' => R .non m', rt := R } ⟨ds.map some ++ List.replicate (5 - ds.length) none, fun _ => RX⟩ m := by
  unfold sp_common_round at h
  split at h
  · obtain ⟨a, b, rfl, rfl, Wa, Wb, la, lb, hR⟩ := h
    refine ⟨a, rfl, Wa, la, ans_weak (ans_bind hR) fun d ⟨_, v, hv, ho, h2⟩ => ?_⟩
    subst hv
    have pv := plain_ok Wa ho
    have lv : (v.A.map D.int).length = v.A.length := List.length_map ..
    refine ⟨_, .tup (v.A.map .int), rfl, rfl, b, rfl, Wb, lb, ans_weak (ans_bind h2) fun d ⟨_, w, hw, ho2, h3⟩ => ?_⟩
    subst hw
    have pw := plain_ok Wb ho2
    have lw : (w.A.map D.int).length = w.A.length := List.length_map ..
    have v0 : 0 < v.A.length := List.length_pos_iff.mpr pv.a0
    have lnv := pv.ln
    have lnw := pw.ln
    have g0 : 0 < Nat.gcd v.A.length w.A.length := Nat.gcd_pos_of_pos_left _ v0
    have g1 := Nat.gcd_le_left w.A.length v0
    refine ⟨_, .tup (w.A.map .int), rfl, rfl, MulOk.small (by rw [lw]; omega) (by rw [lw]; omega), v.A.length, w.A.length, by rw [lv], by rw [lw], divS g0 (by omega), ?_⟩
    have eq : ((v.A.map D.int).length : Int) * ((w.A.map D.int).length : Int) / ((Nat.gcd v.A.length w.A.length : Nat) : Int) = ((v.A.length * w.A.length / Nat.gcd v.A.length w.A.length : Nat) : Int) := by
      rw [lv, lw]
      rfl
    unfold lcmP at h3
    refine ⟨fun z => ?_, fun z => ?_⟩
    · have z := of_decide_eq_true z
      rw [eq] at z
      rw [if_neg (by omega)] at h3
      exact h3
    · have z := of_decide_eq_false z
      rw [eq] at z
      rw [if_pos (by omega)] at h3
      show R (.int (((v.A.map D.int).length : Int) * ((w.A.map D.int).length : Int) / ((Nat.gcd v.A.length w.A.length : Nat) : Int))) m
      rw [eq]
      exact h3
  · exact h.elim
theorem v_both_firsts {ds : List D} (h : sp_both_firsts L ds m R RX) : r_both_firsts L { nx := fun _ m' => R .non m', rt := R } ⟨ds.map some ++ List.replicate (2 - ds.length) none, fun _ => RX⟩ m := by
  unfold sp_both_firsts at h
  split at h
  · obtain ⟨a, b, rfl, rfl, Wa, Wb, la, lb, hR⟩ := h
    refine ⟨a, rfl, Wa, la, ans_weak (ans_bind hR) fun d ⟨_, v, hv, ho, h2⟩ => ?_⟩
    subst hv
    refine ⟨_, .tup (v.F.map .int), rfl, rfl, b, rfl, Wb, lb, ans_weak (ans_bind h2) fun d ⟨_, w, hw, ho2, h3⟩ => ?_⟩
    subst hw
    refine ⟨_, .tup (w.F.map .int), rfl, rfl, ?_⟩
    have e : max ((v.F.map D.int).length : Int) ((w.F.map D.int).length : Int) = ((max v.F.length w.F.length : Nat) : Int) := by
      rw [List.length_map, List.length_map]
      omega
    show R (.int (max ((v.F.map D.int).length : Int) ((w.F.map D.int).length : Int))) m
    rw [e]
    exact h3
  · exact h.elim
theorem round_ok {a b : Cv} (Wa : Cv.Wf a) (Wb : Cv.Wf b) {n : Nat} (h : roundP a b = .ok n) : ∃ v w, plainP a = .ok v ∧ plainP b = .ok w ∧ PlainC v ∧ PlainC w ∧ n = v.A.length * w.A.length / Nat.gcd v.A.length w.A.length ∧ 0 < n ∧ n ≤ 600 := by
  unfold roundP at h
  cases ha : plainP a with
  | error e => rw [ha] at h; cases h
  | ok v =>
    cases hb : plainP b with
    | error e => rw [ha, hb] at h; cases h
    | ok w =>
      rw [ha, hb] at h
      have h : lcmP v.A.length w.A.length = .ok n := h
      have pv := plain_ok Wa ha
      have pw := plain_ok Wb hb
      obtain ⟨e, l⟩ := lcm_ok h
      have v0 : 0 < v.A.length := List.length_pos_iff.mpr pv.a0
      have w0 : 0 < w.A.length := List.length_pos_iff.mpr pw.a0
      have g0 : 0 < Nat.gcd v.A.length w.A.length := Nat.gcd_pos_of_pos_left _ v0
      refine ⟨v, w, rfl, rfl, pv, pw, e, ?_, l⟩
      rw [e]
      refine Nat.div_pos (Nat.le_trans (Nat.gcd_le_left _ v0) ?_) g0
      exact Nat.le_mul_of_pos_right _ w0
theorem firsts_ok {a b : Cv} (Wa : Cv.Wf a) (Wb : Cv.Wf b) {n : Nat} (h : firstsP a b = .ok n) : ∃ v w, plainP a = .ok v ∧ plainP b = .ok w ∧ PlainC v ∧ PlainC w ∧ n = max v.F.length w.F.length ∧ n ≤ 600 := by
  unfold firstsP at h
  cases ha : plainP a with
  | error e => rw [ha] at h; cases h
  | ok v =>
    cases hb : plainP b with
    | error e => rw [ha, hb] at h; cases h
    | ok w =>
      rw [ha, hb] at h
      have h : Except.ok (max v.F.length w.F.length) = Except.ok n := h
      cases h
      have pv := plain_ok Wa ha
      have pw := plain_ok Wb hb
      exact ⟨v, w, rfl, rfl, pv, pw, rfl, by have := pv.ln; have := pw.ln; omega⟩
theorem sp_val {c : Cv} {t : Int} {Q : D → Sto → Prop} (W : Cv.Wf c) (h0 : 0 ≤ t) (h1 : t < 1000000000) (h : Q (.int (c.val t)) m) : Pg.sp_value [cvD c, .int t] m Q (fun _ _ _ => False) := by
  have a1 := W.a1
  exact ⟨c.F, c.A, c.r, rfl, W.a0, Nat.lt_of_le_of_lt a1 (by decide), h0, by omega, h⟩
theorem v_plus {ds : List D} (h : sp_plus L ds m R RX) : r_plus L { nx := fun _ m' => R .non m', rt := R } ⟨ds.map some ++ List.replicate (6 - ds.length) none, fun _ => RX⟩ m := by
  unfold sp_plus at h
  split at h
  · obtain ⟨a, b, rfl, rfl, Wa, Wb, la, lb, hR⟩ := h
    refine ⟨a, b, rfl, rfl, Wa, Wb, la, lb, ans_weak (ans_bind hR) fun d ⟨_, n, hn, ho, h2⟩ => ?_⟩
    subst hn
    obtain ⟨v, w, hv, hw, pv, pw, en, n0, n6⟩ := round_ok Wa Wb ho
    refine ⟨a, b, rfl, rfl, Wa, Wb, la, lb, ans_weak (ans_bind h2) fun d ⟨_, f, hf, ho2, h3⟩ => ?_⟩
    subst hf
    obtain ⟨_, _, _, _, _, _, _, f6⟩ := firsts_ok Wa Wb ho2
    rw [hv, hw] at h3
    have h3 : ans L L cvD (toldP ((List.range (f + n)).map fun t : Nat => a.val (t : Int) + b.val (t : Int)) f n (upP v n + upP w n)) R RX m := h3
    refine ⟨by omega, by omega, lc_pure false (((List.range (f + n)).map fun t : Nat => a.val (t : Int) + b.val (t : Int)).map D.int) (fun _ _ => trivial) ?_ ?_ (fun k y z m3 hx hy le => ?_) ?_⟩
    · rw [rgL_len, List.length_map, List.length_map, List.length_range]
      omega
    · rw [rgL_len]
      exact szn (by omega)
    · obtain ⟨hk, rfl⟩ := rgL_inv hx
      have hk' : k < f + n := by omega
      rw [List.getElem?_map, List.getElem?_map, List.getElem?_range hk'] at hy
      cases hy
      have ek : (0 : Int) + (k : Int) = (k : Int) := by omega
      have wa1 := Wa.a1
      have wb1 := Wb.a1
      refine ⟨_, rfl, fun R hR => ⟨a.F, a.A, a.r, rfl, Wa.a0, by omega, by omega, by omega, b.F, b.A, b.r, rfl, Wb.a0, by omega, by omega, by omega, ?_⟩⟩
      rw [ek]
      exact hR
    · refine ⟨a, rfl, Wa, la, ?_⟩
      rw [hv]
      refine ⟨v, rfl, pv.wf, by omega, by omega, b, rfl, Wb, lb, ?_⟩
      rw [hw]
      refine ⟨w, rfl, pw.wf, by omega, by omega, _, f, n, .inr rfl, rfl, rfl, n0, ?_, ?_, h3⟩
      · rw [List.length_map, List.length_range]
        exact Nat.le_refl _
      · rw [List.length_map, List.length_range]
        omega
  · exact h.elim
end
end Pl

/-! What is known of plain curves: their numbers are among those told. -/
namespace Pl
open PySem PySem.Spec PyProof.Rows L2 Dl Nz
open Pn (gd)
theorem per_back {A : List Int} {r : Int} (a0 : 0 < A.length) (b : Nat) : perI A r (-((b : Int) + 1)) = A.getD (((A.length : Int) - 1 - (b : Int)) % (A.length : Int)).toNat 0 - r * ((b : Int) / (A.length : Int)) - r := by
  unfold perI
  have e1 : (-((b : Int) + 1)) % (A.length : Int) = ((A.length : Int) - 1 - (b : Int)) % (A.length : Int) := by
    have : (A.length : Int) - 1 - (b : Int) = -((b : Int) + 1) + (A.length : Int) := by omega
    rw [this, Int.add_emod_right]
  have e2 : (-((b : Int) + 1)) / (A.length : Int) = -((b : Int) / (A.length : Int)) - 1 := by
    have h1 := Int.emod_add_mul_ediv (b : Int) (A.length : Int)
    have h2 := Int.emod_nonneg (b : Int) (show (A.length : Int) ≠ 0 by omega)
    have h3 := Int.emod_lt_of_pos (b : Int) (show (0 : Int) < (A.length : Int) by omega)
    have h4 := (Int.ediv_emod_unique (a := -((b : Int) + 1)) (b := (A.length : Int)) (r := (A.length : Int) - 1 - (b : Int) % (A.length : Int)) (q := -((b : Int) / (A.length : Int)) - 1) (by omega)).mpr ⟨by rw [Int.mul_sub, Int.mul_neg, Int.mul_one]; omega, by omega, by omega⟩
    exact h4.1
  rw [e1, e2, Int.mul_sub, Int.mul_neg, Int.mul_one]
  omega
theorem back_ok {F A : List Int} {r : Int} (a0 : 0 < A.length) : ∀ (at_ b : Nat), at_ + b = F.length → (∀ j, 1 ≤ j → j ≤ b → perI A r (-(j : Int)) = F.getD (F.length - j) 0) → (backN F A r at_ b ≤ F.length ∧ ∀ j, 1 ≤ j → j ≤ backN F A r at_ b → perI A r (-(j : Int)) = F.getD (F.length - j) 0)
  | 0, b, hb, h => by
    rw [backN]
    exact ⟨by omega, h⟩
  | at_ + 1, b, hb, h => by
    rw [backN]
    split
    · rename_i hc
      refine back_ok a0 at_ (b + 1) (by omega) fun j j1 j2 => ?_
      by_cases hj : j ≤ b
      · exact h j j1 hj
      · have : j = b + 1 := by omega
        subst this
        have e : ((b + 1 : Nat) : Int) = (b : Int) + 1 := by omega
        rw [e, per_back a0]
        have : F.length - (b + 1) = at_ := by omega
        rw [this]
        omega
    · exact ⟨by omega, h⟩
theorem per_in_range {A : List Int} {r : Int} {k : Nat} (h : k < A.length) : perI A r (k : Int) = A.getD k 0 := by
  unfold perI
  rw [Int.emod_eq_of_lt (by omega) (by omega), Int.ediv_eq_zero_of_lt (by omega) (by omega), Int.mul_zero, Int.add_zero]
  rfl
theorem turned_mem {F A : List Int} {r : Int} (a0 : 0 < A.length) {y : Int} (hy : y ∈ turned A r (backN F A r F.length 0)) : y ∈ F ++ A := by
  obtain ⟨b1, b2⟩ := back_ok (F := F) (r := r) a0 F.length 0 (by omega) fun j j1 j2 => by omega
  generalize backN F A r F.length 0 = b at hy b1 b2
  unfold turned at hy
  obtain ⟨k, hk, rfl⟩ := List.mem_map.mp hy
  have hk := List.mem_range.mp hk
  by_cases hb : b ≤ k
  · have e : (k : Int) - (b : Int) = ((k - b : Nat) : Int) := by omega
    rw [e, per_in_range (by omega)]
    exact List.mem_append_right _ (List.mem_of_getElem? (gd (by omega)))
  · have e : (k : Int) - (b : Int) = -((b - k : Nat) : Int) := by omega
    rw [e, b2 (b - k) (by omega) (by omega)]
    exact List.mem_append_left _ (List.mem_of_getElem? (gd (by omega)))
theorem shortest_mem {A : List Int} {r : Int} {y : Int} (h : y ∈ (shortest A r).1) : y ∈ A := by
  unfold shortest at h
  split at h
  · exact List.mem_of_mem_take h
  · exact h
theorem reduced_mem {F A : List Int} {r : Int} (hA : A ≠ []) {y : Int} (h : y ∈ (reduced F A r).F ++ (reduced F A r).A) : y ∈ F ++ A := by
  have a0 : 0 < (shortest A r).1.length := List.length_pos_iff.mpr (shortest_ne (r := r) hA).1
  unfold reduced at h
  rcases List.mem_append.mp h with h | h
  · exact List.mem_append_left _ (List.mem_of_mem_take h)
  · rcases List.mem_append.mp (turned_mem a0 h) with h | h
    · exact List.mem_append_left _ h
    · exact List.mem_append_right _ (shortest_mem h)
theorem reduced_r {F A : List Int} {r : Int} (hA : A ≠ []) (r0 : 0 ≤ r) : 0 ≤ (reduced F A r).r ∧ (reduced F A r).r ≤ r := by
  show 0 ≤ (shortest A r).2 ∧ (shortest A r).2 ≤ r
  have a0 : 0 < A.length := List.length_pos_iff.mpr hA
  unfold shortest
  split
  · rename_i k hk
    have hm := List.mem_of_find?_eq_some hk
    rw [List.mem_range'] at hm
    obtain ⟨i, h1, h2⟩ := hm
    unfold stepI
    refine ⟨Int.ediv_nonneg (Int.mul_nonneg r0 (by omega)) (by omega), ?_⟩
    have h3 : r * (k : Int) ≤ r * (A.length : Int) := Int.mul_le_mul_of_nonneg_left (by omega) r0
    have := Int.ediv_le_ediv (c := (A.length : Int)) (by omega) h3
    rw [Int.mul_ediv_cancel _ (by omega)] at this
    exact this
  · exact ⟨r0, Int.le_refl _⟩
/-- few numbers from nought to K, the rise likewise -/
structure Sml (c : Cv) (nF nA : Nat) (K : Int) : Prop where
  a0 : c.A ≠ []
  lF : c.F.length ≤ nF
  lA : c.A.length ≤ nA
  nn : ∀ x ∈ c.F ++ c.A, 0 ≤ x ∧ x ≤ K
  r0 : 0 ≤ c.r
  r1 : c.r ≤ K
theorem Sml.wf {c : Cv} {nF nA : Nat} {K : Int} (h : Sml c nF nA K) (k : nF + nA ≤ 600) : Cv.Wf c := ⟨h.a0, by have := h.lF; omega, by have := h.lA; omega⟩
theorem Sml.reduced {c : Cv} {nF nA : Nat} {K : Int} (h : Sml c nF nA K) : Sml (reduced c.F c.A c.r) nF nA K := by
  obtain ⟨w1, w2, w3⟩ := reduced_wf (F := c.F) (r := c.r) h.a0
  obtain ⟨q1, q2⟩ := reduced_r (F := c.F) h.a0 h.r0
  exact ⟨w1, Nat.le_trans w3 h.lF, Nat.le_trans w2 h.lA, fun x hx => h.nn x (reduced_mem h.a0 hx), q1, Int.le_trans q2 h.r1⟩
theorem Sml.plain {c : Cv} {nF nA : Nat} {K : Int} (h : Sml c nF nA K) (k : nF + nA ≤ 600) : ∃ d, plainP c = .ok d ∧ Sml d nF nA K := by
  have h' := h.reduced
  refine ⟨_, ?_, h'⟩
  unfold plainP limit
  rw [if_pos (by have := h'.lF; have := h'.lA; omega)]
theorem Sml.val {c : Cv} {nF nA : Nat} {K : Int} (h : Sml c nF nA K) {t : Nat} {N : Nat} (ht : t ≤ N) : 0 ≤ c.val (t : Int) ∧ c.val (t : Int) ≤ K + K * (N : Int) := by
  have a0 : 0 < c.A.length := List.length_pos_iff.mpr h.a0
  have k0 : 0 ≤ K := Int.le_trans h.r0 h.r1
  have kN : 0 ≤ K * (N : Int) := Int.mul_nonneg k0 (by omega)
  unfold Cv.val Pg.val
  split
  · rename_i hl
    have := h.nn (c.F.getD ((t : Int)).toNat 0) (List.mem_append_left _ (List.mem_of_getElem? (gd (by omega))))
    omega
  · rename_i hl
    have d0 : 0 ≤ ((t : Int) - c.F.length) % (c.A.length : Int) := Int.emod_nonneg _ (by omega)
    have d1 : ((t : Int) - c.F.length) % (c.A.length : Int) < c.A.length := Int.emod_lt_of_pos _ (by omega)
    have := h.nn (c.A.getD (((t : Int) - c.F.length) % (c.A.length : Int)).toNat 0) (List.mem_append_right _ (List.mem_of_getElem? (gd (by omega))))
    have q0 : 0 ≤ ((t : Int) - c.F.length) / (c.A.length : Int) := Int.ediv_nonneg (by omega) (by omega)
    have q1 : ((t : Int) - c.F.length) / (c.A.length : Int) ≤ (N : Int) := by
      have := Int.ediv_le_self (a := (t : Int) - c.F.length) (c.A.length : Int) (by omega)
      omega
    have m0 := Int.mul_nonneg h.r0 q0
    have m1 : c.r * (((t : Int) - c.F.length) / (c.A.length : Int)) ≤ K * (N : Int) := Int.mul_le_mul h.r1 q1 q0 k0
    omega
theorem lcm_small {a b : Nat} (ha : 0 < a) (ha2 : a ≤ 12) (hb : 0 < b) (hb2 : b ≤ 12) : ∃ n, lcmP a b = .ok n ∧ 0 < n ∧ n ≤ 144 := by
  have g0 : 0 < Nat.gcd a b := Nat.gcd_pos_of_pos_left _ ha
  have h1 : a * b ≤ 12 * 12 := Nat.mul_le_mul ha2 hb2
  have h2 : a * b / Nat.gcd a b ≤ a * b := Nat.div_le_self _ _
  have h3 : 0 < a * b / Nat.gcd a b := Nat.div_pos (Nat.le_trans (Nat.gcd_le_left _ ha) (Nat.le_mul_of_pos_right _ hb)) g0
  refine ⟨a * b / Nat.gcd a b, ?_, h3, by omega⟩
  unfold lcmP
  rw [if_pos (by omega)]
/-- the sum of two small curves -/
theorem plus_small {a b : Cv} (ha : Sml a 24 12 1000000) (hb : Sml b 24 12 1000000) : ∃ c, plusP a b = .ok c ∧ Sml c 24 144 1000000000 := by
  obtain ⟨v, hv, sv⟩ := ha.plain (by decide)
  obtain ⟨w, hw, sw⟩ := hb.plain (by decide)
  obtain ⟨n, hn, n0, n1⟩ := lcm_small (List.length_pos_iff.mpr sv.a0) sv.lA (List.length_pos_iff.mpr sw.a0) sw.lA
  have e1 : roundP a b = .ok n := by
    unfold roundP
    rw [hv, hw]
    exact hn
  have e2 : firstsP a b = .ok (max v.F.length w.F.length) := by
    unfold firstsP
    rw [hv, hw]
    rfl
  have f24 : max v.F.length w.F.length ≤ 24 := by
    have := sv.lF
    have := sw.lF
    omega
  generalize hf : max v.F.length w.F.length = f at e2 f24
  have up : ∀ {c : Cv}, Sml c 24 12 1000000 → 0 ≤ upP c n ∧ upP c n ≤ 144000000 := fun {c} h => by
    unfold upP
    have q0 : 0 ≤ (n : Int) / (c.A.length : Int) := Int.ediv_nonneg (by omega) (by omega)
    have q1 : (n : Int) / (c.A.length : Int) ≤ 144 := by
      have := Int.ediv_le_self (a := (n : Int)) (c.A.length : Int) (by omega)
      omega
    have := Int.mul_le_mul h.r1 q1 q0 (by decide)
    exact ⟨Int.mul_nonneg h.r0 q0, by omega⟩
  have u1 := up sv
  have u2 := up sw
  obtain ⟨ns, hns⟩ : ∃ ns, ns = (List.range (f + n)).map fun t : Nat => a.val (t : Int) + b.val (t : Int) := ⟨_, rfl⟩
  have ln : ns.length = f + n := by rw [hns, List.length_map, List.length_range]
  have nb : ∀ x ∈ ns, 0 ≤ x ∧ x ≤ 1000000000 := fun x hx => by
    rw [hns] at hx
    obtain ⟨t, ht, rfl⟩ := List.mem_map.mp hx
    have ht := List.mem_range.mp ht
    have h1 := ha.val (t := t) (N := 168) (by omega)
    have h2 := hb.val (t := t) (N := 168) (by omega)
    omega
  have h0 : Sml ⟨ns.take f, (ns.drop f).take n, upP v n + upP w n⟩ 24 144 1000000000 := by
    refine ⟨fun e => ?_, ?_, ?_, fun x hx => ?_, by show 0 ≤ upP v n + upP w n; omega, by show upP v n + upP w n ≤ _; omega⟩
    · have := congrArg List.length e
      rw [List.length_nil] at this
      have h : ((ns.drop f).take n).length = 0 := this
      rw [List.length_take, List.length_drop, ln] at h
      omega
    · show (ns.take f).length ≤ 24
      rw [List.length_take]
      omega
    · show ((ns.drop f).take n).length ≤ 144
      rw [List.length_take]
      omega
    · rcases List.mem_append.mp hx with hx | hx
      · exact nb x (List.mem_of_mem_take hx)
      · exact nb x (List.mem_of_mem_drop (List.mem_of_mem_take hx))
  have h1 := h0.reduced
  refine ⟨_, ?_, h1⟩
  unfold plusP
  rw [e1]
  show (firstsP a b >>= _) = _
  rw [e2]
  show (plainP a >>= _) = _
  rw [hv]
  show (plainP b >>= _) = _
  rw [hw]
  show toldP _ f n _ = _
  unfold toldP limit
  rw [← hns, if_pos]
  have := h1.lF
  have := h1.lA
  show (reduced (ns.take f) ((ns.drop f).take n) (upP v n + upP w n)).F.length + (reduced (ns.take f) ((ns.drop f).take n) (upP v n + upP w n)).A.length ≤ 600
  have l1 : (reduced (ns.take f) ((ns.drop f).take n) (upP v n + upP w n)).F.length ≤ 24 := h1.lF
  have l2 : (reduced (ns.take f) ((ns.drop f).take n) (upP v n + upP w n)).A.length ≤ 144 := h1.lA
  omega
end Pl

namespace Nt
open PySem PySem.Spec PyProof.Rows L2 Dl Pg TL
open Pn (rgL_inv gd atI_end)
section
variable {P : DEnds} {x : List (Option D) → DX} {m : Sto} {p : Addr} {b : Int} {X : MO}
theorem sto3 {m : Sto} {p q w : Addr} {X X' a a' : MO} (pq : p ≠ q) (pw : p ≠ w) (qw : q ≠ w) (X0 : MO) {A : MO} {B : MO} :
    up (up (up (up (up (up m p X) q A) w B) p X') q a) w a' = up (up (up m p X') q a) w a' := by
  funext c
  by_cases e1 : c = w
  · rw [e1, up_same, up_same]
  · rw [up_ne e1, up_ne e1]
    by_cases e2 : c = q
    · rw [e2, up_same, up_same]
    · rw [up_ne e2, up_ne e2]
      by_cases e3 : c = p
      · rw [e3, up_same, up_same]
      · rw [up_ne e3, up_ne e1, up_ne e2, up_ne e3, up_ne e3]
theorem perm_pull {fs ls ys : List Str} (h : (fs ++ ls).Perm ys) {k : Nat} {y : Str} (hy : ls[k]? = some y) : ((fs ++ [y]) ++ ls.eraseIdx k).Perm ys := by
  refine List.Perm.trans ?_ h
  rw [List.append_assoc]
  refine List.Perm.append_left fs ?_
  obtain ⟨hk, e⟩ := List.getElem?_eq_some_iff.mp hy
  have e1 : ls.eraseIdx k = ls.take k ++ ls.drop (k + 1) := List.eraseIdx_eq_take_drop_succ ..
  have e2 : ls = ls.take k ++ (y :: ls.drop (k + 1)) := by
    conv => lhs; rw [← List.take_append_drop k ls, List.drop_eq_getElem_cons hk, e]
  rw [e1]
  conv => rhs; rw [e2]
  exact (List.perm_middle (a := y) (l₁ := ls.take k) (l₂ := ls.drop (k + 1))).symm
theorem emap {A B : Type} (f : A → B) : ∀ (l : List A) (k : Nat), (l.map f).eraseIdx k = (l.eraseIdx k).map f
  | [], _ => rfl
  | _ :: _, 0 => rfl
  | a :: l, k + 1 => congrArg (f a :: ·) (emap f l k)
theorem route_2 {ys : List Str} {q w : Addr} {s4 : Option D} (hp : m p = some X) (hX : PenD b X) (hb : b ≤ 2 ^ 29 + 10) (hy : ys ≠ []) (hl : ys.length ≤ 6) (hn : ys.Nodup)
    (hq : m q = some (.lst (ys.map .str))) (hw : m w = some (.lst [])) (qw : q ≠ w)
    (h : ∀ zs X', Route ys zs → zs.length ≤ 6 → PenD (b + 8) X' → P.rt (.tup (zs.map .str)) (up (del (del m q) w) p X')) :
    r_law_any_route_2 P ⟨[some (.ptr p), some (.lst (ys.map .str)), some (.ptr q), some (.ptr w), s4], x⟩ m := by
  have pq : p ≠ q := fun e => by
    subst e
    rw [hp] at hq
    obtain ⟨_, _, _, e, _⟩ := hX
    cases (Option.some.inj hq).symm.trans e
  have pw : p ≠ w := fun e => by
    subst e
    rw [hp] at hw
    obtain ⟨_, _, _, e, _⟩ := hX
    cases (Option.some.inj hw).symm.trans e
  have y0 : 0 < ys.length := List.length_pos_iff.mpr hy
  have ly : (ys.map D.str).length = ys.length := List.length_map ..
  refine ⟨b, X, hp, hX, by omega, by rw [ly]; omega, by rw [ly]; omega, fun v X1 v0 v1 hX1 => ?_⟩
  rw [ly] at v1
  refine ⟨by omega, by omega, fun i δ m' => ∃ fs ls X' t4, (fs ++ ls).Perm ys ∧ fs.length = i ∧ PenD (b + 1 + (i : Int)) X' ∧ m' = up (up (up m p X') q (.lst (ls.map .str))) w (.lst (fs.map .str)) ∧ δ = ⟨[some (.ptr p), some (.lst (ys.map .str)), some (.ptr q), some (.ptr w), t4], x⟩, ⟨[], ys, X1, s4, .refl _, rfl, by simpa using hX1, ?_, rfl⟩, fun _ _ _ _ => trivial, ?_, ?_⟩
  · funext a
    by_cases e1 : a = w
    · rw [e1, up_same, up_ne pw.symm, hw]
      rfl
    · rw [up_ne e1]
      by_cases e2 : a = q
      · rw [e2, up_same, up_ne pq.symm, hq]
      · rw [up_ne e2]
  · rintro i y δ m1 hx ⟨fs, ls, X', t4, hP, hf, hX', rfl, rfl⟩
    obtain ⟨hi, rfl⟩ := rgL_inv hx
    have ll := hP.length_eq
    rw [List.length_append, hf] at ll
    have lls : (ls.map D.str).length = ls.length := List.length_map ..
    refine ⟨⟨_, _, up_same, rfl⟩, ⟨_, _, by rw [up_ne qw, up_same], rfl⟩, ⟨_, _, by rw [up_ne qw, up_same], rfl, b + 1 + (i : Int), X', by rw [up_ne pw, up_ne pq, up_same], hX', by omega, by rw [lls]; omega, by rw [lls]; omega, fun d X2 d0 d1 hX2 => ?_⟩⟩
    rw [lls] at d1
    have hk : d.toNat < ls.length := by omega
    have hy : ls[d.toNat]? = some ls[d.toNat] := List.getElem?_eq_getElem hk
    refine ⟨ls.map .str, .str ls[d.toNat], by rw [up_ne pq.symm, up_ne qw, up_same], by omega, by omega, d0, by rw [List.getElem?_map, hy]; rfl, fs.map .str, by rw [up_ne qw.symm, up_ne pw.symm, up_same], ?_, fs ++ [ls[d.toNat]], ls.eraseIdx d.toNat, X2, _, perm_pull hP hy, by rw [List.length_append, hf]; rfl, PenD.mono hX2 (by omega), ?_, rfl⟩
    · rw [List.length_map]
      exact Nat.lt_of_le_of_lt (show fs.length ≤ 100 by omega) (by decide)
    · rw [sto3 pq pw qw X, List.map_append, emap]
      rfl
  · rintro δ m1 ⟨fs, ls, X', t4, hP, hf, hX', rfl, rfl⟩
    rw [rgL_len] at hf hX'
    have ll := hP.length_eq
    rw [List.length_append] at ll
    refine ⟨q, ls.map .str, rfl, by rw [up_ne qw, up_same], w, fs.map .str, rfl, by rw [del_ne qw.symm, up_same], fs.map .str, rfl, ?_⟩
    have e : del (del (up (up (up m p X') q (.lst (ls.map .str))) w (.lst (fs.map .str))) q) w = up (del (del m q) w) p X' := by
      funext a
      by_cases e1 : a = w
      · rw [e1, del_same, up_ne pw.symm, del_same]
      · rw [del_ne e1]
        by_cases e2 : a = q
        · rw [e2, del_same, up_ne pq.symm, del_ne qw, del_same]
        · rw [del_ne e2, up_ne e1, up_ne e2]
          by_cases e3 : a = p
          · rw [e3, up_same, up_same]
          · rw [up_ne e3, up_ne e3, del_ne e1, del_ne e2]
    show P.rt _ (del (del (up (up (up m p X') q (.lst (ls.map .str))) w (.lst (fs.map .str))) q) w)
    rw [e]
    have nd := (hP.nodup_iff).mpr hn
    refine h fs X' ⟨fun z => ?_, nd.sublist (List.sublist_append_left _ _), fun z hz => hP.mem_iff.mp (List.mem_append_left _ hz)⟩ (by omega) (PenD.mono hX' (by omega))
    rw [z] at hf
    simp at hf
    omega
theorem v_law_any_route {ds : List D} {R : D → Sto → Prop} {RX : DX} (h : sp_law_any_route ds m R RX) : r_law_any_route { nx := fun _ m' => R .non m', rt := R } ⟨ds.map some ++ List.replicate (5 - ds.length) none, fun _ => RX⟩ m := by
  unfold sp_law_any_route at h
  split at h
  · rename_i p d
    obtain ⟨b, X, ys, hp, hX, hb, rfl, hy, hl, hn, hR⟩ := h
    refine ⟨ys.map .str, rfl, fun q hq => ⟨by decide, fun w hw => ?_⟩⟩
    have qp : q ≠ p := fun e => by rw [e, hp] at hq; cases hq
    have wq : w ≠ q := fun e => by rw [e, up_same] at hw; cases hw
    have wp : w ≠ p := fun e => by rw [e, up_ne qp.symm, hp] at hw; cases hw
    have mw : m w = none := by rw [← hw, up_ne wq]
    refine route_2 (q := q) (w := w) (X := X) (b := b) (ys := ys) ?_ hX (by omega) hy hl hn ?_ up_same wq.symm fun zs X' hz hzl hX' => ?_
    · rw [up_ne wp.symm, up_ne qp.symm, hp]
    · rw [up_ne wq.symm, up_same]
    · have e : ∀ o, up (del (del (up (up m q (.lst (ys.map .str))) w o) q) w) p X' = up m p X' := fun o => by
        funext a
        by_cases e3 : a = p
        · rw [e3, up_same, up_same]
        · rw [up_ne e3, up_ne e3]
          by_cases e1 : a = w
          · rw [e1, del_same, mw]
          · rw [del_ne e1]
            by_cases e2 : a = q
            · rw [e2, del_same, hq]
            · rw [del_ne e2, up_ne e1, up_ne e2]
      rw [e]
      exact hR zs X' hz hzl (PenD.mono hX' (by omega))
  · exact h.elim
end
end Nt

namespace K58
open PySem PySem.Spec PyProof.Rows L2 Dl Nt Nz Tt TL
open Pn (rgL_inv gd atI_end)
open Pg (atI_int crv)
theorem sv_of : ∀ {ys : List Str} {acc : List D}, acc.length = ys.length → (∀ (k : Nat) (d : D), acc[k]? = some d → ∃ y, ys[k]? = some y ∧ ∃ c : Cv, d = svD (y, c) ∧ CvIn c) → ∃ S : List (Str × Cv), acc = S.map svD ∧ S.map (·.1) = ys ∧ ∀ s ∈ S, CvIn s.2
  | [], [], _, _ => ⟨[], rfl, rfl, fun _ h => (nomatch h)⟩
  | y :: ys, d :: acc, h, k => by
    obtain ⟨S, e1, e2, e3⟩ := sv_of (ys := ys) (acc := acc) (by simpa using h) fun i d hd => k (i + 1) d hd
    obtain ⟨y', hy, c, e, hc⟩ := k 0 d rfl
    cases hy
    exact ⟨(y, c) :: S, by rw [e, e1]; rfl, by rw [List.map_cons, e2], fun s hs => (List.mem_cons.mp hs).elim (fun z => z ▸ hc) (e3 s)⟩
  | [], _ :: _, h, _ => by simp at h
  | _ :: _, [], h, _ => by simp at h
section
variable {P : DEnds} {x : List (Option D) → DX} {m : Sto} {p : Addr} {b : Int} {X : MO} {RX : DX} {R : D → Sto → Prop}
theorem pen_ne {q : Addr} {L : List D} (hp : m p = some X) (hX : PenD b X) (hq : m q = some (.lst L)) : p ≠ q := fun e => by
  subst e
  rw [hp] at hq
  obtain ⟨_, _, _, e, _⟩ := hX
  cases (Option.some.inj hq).symm.trans e
theorem net_3 {S : List (Str × Cv)} {q : Addr} {s3 : Option D} (hp : m p = some X) (hX : PenD b X) (hb : b ≤ 2 ^ 28 + 700) (hq : m q = some (.lst []))
    (s1 : 1 ≤ S.length) (s6 : S.length ≤ 6) (sn : (S.map (·.1)).Nodup) (sN : ∀ s ∈ S, isName s.1 = true ∧ CvIn s.2)
    (h : ∀ T X', NetIn S T → PenD (b + 700) X' → P.rt (netD S T) (up (del m q) p X')) :
    r_law_net_3 P ⟨[some (.ptr p), some (.lst ((S.map (·.1)).map .str)), some (.tup (S.map svD)), s3, some (.ptr q)], x⟩ m := by
  have pq := pen_ne hp hX hq
  refine ⟨b, X, hp, hX, by omega, by decide, by decide, fun v X1 v0 v1 hX1 => ⟨b + 1, X1, up_same, hX1, by omega, by omega, by omega, fun ys m' X2 ly hy ny hX2 hm => ?_⟩⟩
  subst hm
  rw [up_up]
  have ly6 : ys.length ≤ 6 := by omega
  refine ⟨fun i δ m' => ∃ (T : List (Str × Cv × List Str)) (X' : MO) (t3 : Option D), T.map (·.1) = ys.take i ∧ (∀ t ∈ T, CvIn t.2.1 ∧ Route (S.map (·.1)) t.2.2 ∧ t.2.2.length ≤ 6) ∧ PenD (b + 21 + 90 * (i : Int)) X' ∧ m' = up (up m p X') q (.lst (T.map stD)) ∧ δ = ⟨[some (.ptr p), some (.lst ((S.map (·.1)).map .str)), some (.tup (S.map svD)), t3, some (.ptr q)], x⟩, ⟨[], X2, s3, by simp, fun _ h => (nomatch h), PenD.mono hX2 (by omega), ?_, rfl⟩, fun _ _ _ _ => trivial, ?_, ?_⟩
  · funext a
    by_cases e : a = q
    · rw [e, up_same, up_ne pq.symm, hq]
      rfl
    · rw [up_ne e]
  · rintro i y δ m1 hx ⟨T, X', t3, hT, hok, hX', rfl, rfl⟩
    rw [List.getElem?_map] at hx
    cases hz : ys[i]? with
    | none => rw [hz] at hx; cases hx
    | some z =>
      rw [hz] at hx
      cases hx
      have hi := (List.getElem?_eq_some_iff.mp hz).1
      have tl : T.length = i := by
        have := congrArg List.length hT
        rw [List.length_map, List.length_take] at this
        omega
      refine ⟨⟨_, _, up_same, rfl⟩, b + 21 + 90 * (i : Int), X', by rw [up_ne pq, up_same], hX', by omega, fun c X3 dr hX3 => ⟨b + 21 + 90 * (i : Int) + 80, X3, S.map (·.1), up_same, hX3, by omega, rfl, ?_, by rw [List.length_map]; omega, sn, fun zs X4 hr lz hX4 => ⟨(by show 3 ≤ sizeLine; decide), T.map stD, ?_, ?_, T ++ [(z, c, zs)], X4, _, ?_, fun t ht => ?_, PenD.mono hX4 (by omega), ?_, rfl⟩⟩⟩
      · intro e
        have := congrArg List.length e
        rw [List.length_map, List.length_nil] at this
        omega
      · show up (up (up (up m p X') q (.lst (T.map stD))) p X3) p X4 q = _
        rw [up_ne pq.symm, up_ne pq.symm, up_same]
      · rw [List.length_map, tl]
        exact Nat.lt_of_le_of_lt (show i ≤ 100 by omega) (by decide)
      · rw [List.map_append, hT, List.take_add_one, hz]
        rfl
      · rcases List.mem_append.mp ht with ht | ht
        · exact hok t ht
        · rw [List.mem_singleton.mp ht]
          exact ⟨dr, hr, lz⟩
      · show up (up (up (up (up m p X') q (.lst (T.map stD))) p X3) p X4) q _ = _
        rw [up_up, Pn.up_swap pq, List.map_append]
        rfl
  · rintro δ m1 ⟨T, X', t3, hT, hok, hX', rfl, rfl⟩
    rw [List.length_map] at hX' hT
    rw [List.take_length] at hT
    have tl : T.length = ys.length := by
      have := congrArg List.length hT
      rw [List.length_map] at this
      exact this
    refine ⟨q, _, rfl, up_same, _, rfl, (by show 2 ≤ sizeLine; decide), ?_⟩
    have e : del (up (up m p X') q (.lst (T.map stD))) q = up (del m q) p X' := by
      funext a
      by_cases e2 : a = q
      · rw [e2, del_same, up_ne pq.symm, del_same]
      · rw [del_ne e2, up_ne e2]
        by_cases e3 : a = p
        · rw [e3, up_same, up_same]
        · rw [up_ne e3, up_ne e3, del_ne e2]
    show P.rt (netD S T) (del (up (up m p X') q (.lst (T.map stD))) q)
    rw [e]
    refine h T X' ⟨s1, s6, by omega, by omega, sn, by rw [hT]; exact ny, sN, fun t ht => ⟨hy t.1 ?_, hok t ht⟩⟩ (PenD.mono hX' (by omega))
    rw [← hT]
    exact List.mem_map_of_mem ht
theorem net_1 {ys : List Str} {s2 s3 s4 : Option D} (hp : m p = some X) (hX : PenD b X) (hb : b ≤ 2 ^ 28 + 30) (y1 : 1 ≤ ys.length) (y6 : ys.length ≤ 6) (hy : ∀ y ∈ ys, isName y = true) (ny : ys.Nodup)
    (h : ∀ S T X', NetIn S T → PenD (b + 1500) X' → P.rt (netD S T) (up m p X')) :
    r_law_net_1 P ⟨[some (.ptr p), some (.lst (ys.map .str)), s2, s3, s4], x⟩ m := by
  have ly : (ys.map D.str).length = ys.length := List.length_map ..
  refine lc_drawn false p (fun k d => ∃ y, ys[k]? = some y ∧ ∃ c : Cv, d = svD (y, c) ∧ CvIn c) 80 b X hp hX (fun _ _ => trivial) (by rw [ly]; exact szn (by omega)) (fun k y m2 X1 hx hp2 hX1 le => ?_) fun acc X1 hl hP hX1 => ?_
  · rw [List.getElem?_map] at hx
    cases hz : ys[k]? with
    | none => rw [hz] at hx; cases hx
    | some z =>
      rw [hz] at hx
      cases hx
      have hk := (List.getElem?_eq_some_iff.mp hz).1
      exact ⟨_, rfl, fun R hR => ⟨b + 80 * (k : Int), X1, hp2, hX1, by omega, fun c X3 dr hX3 => ⟨(by show 2 ≤ sizeLine; decide), hR _ X3 ⟨z, rfl, c, rfl, dr⟩ hX3⟩⟩⟩
  · rw [ly] at hl hX1
    obtain ⟨S, rfl, e2, e3⟩ := sv_of hl hP
    rw [List.length_map] at hl
    refine ⟨_, rfl, by decide, fun q hq => ?_⟩
    have qp : q ≠ p := fun e => by rw [e, up_same] at hq; cases hq
    have mq : m q = none := by rw [← hq, up_ne qp]
    have key := net_3 (P := P) (x := x) (S := S) (q := q) (s3 := s3) (X := X1) (b := b + 80 * (ys.length : Int)) (m := up (up m p X1) q (.lst [])) (p := p) (by rw [up_ne qp.symm, up_same]) hX1 (by omega) up_same (by omega) (by omega) (by rw [e2]; exact ny) (fun s hs => ⟨hy _ (by rw [← e2]; exact List.mem_map_of_mem hs), e3 s hs⟩) (fun T X' N hX' => by
      have e : up (del (up (up m p X1) q (.lst [])) q) p X' = up m p X' := by
        funext a
        by_cases e3 : a = p
        · rw [e3, up_same, up_same]
        · rw [up_ne e3, up_ne e3]
          by_cases e4 : a = q
          · rw [e4, del_same, mq]
          · rw [del_ne e4, up_ne e4, up_ne e3]
      rw [e]
      exact h S T X' N (PenD.mono hX' (by omega)))
    rw [e2] at key
    exact key
theorem v_law_net {ds : List D} (h : sp_law_net ds m R RX) : r_law_net { nx := fun _ m' => R .non m', rt := R } ⟨ds.map some ++ List.replicate (5 - ds.length) none, fun _ => RX⟩ m := by
  unfold sp_law_net at h
  split at h
  · rename_i p
    obtain ⟨b, X, hp, hX, hb, hR⟩ := h
    refine ⟨b, X, hp, hX, by omega, by decide, by decide, fun v X1 v0 v1 hX1 => ⟨b + 1, X1, up_same, hX1, by omega, by omega, by omega, fun ys m' X2 ly hy ny hX2 hm => ?_⟩⟩
    subst hm
    rw [up_up]
    refine net_1 (b := b + 21) up_same (PenD.mono hX2 (by omega)) (by omega) (by omega) (by omega) hy ny fun S T X' N hX' => ?_
    rw [up_up]
    exact hR S T X' N (PenD.mono hX' (by omega))
  · exact h.elim
theorem v_read_curve {ds : List D} (h : sp_read_curve ds m R RX) : r_read_curve { nx := fun _ m' => R .non m', rt := R } ⟨ds.map some ++ List.replicate (2 - ds.length) none, fun _ => RX⟩ m := by
  unfold sp_read_curve at h
  split at h
  · obtain ⟨ht, c, hc, hR⟩ := h
    refine ⟨fun z => (nomatch z), fun _ => ⟨ht, ?_⟩⟩
    rw [hc]
    exact ⟨fun z => (nomatch z), fun _ => hR⟩
  · exact h.elim
end
end K58

namespace K58
open PySem PySem.Spec PyProof.Rows L2 Dl Nt Nz Tt TL
open Pn (rgL_inv gd atI_end)
open Pg (atI_int crv)
theorem routeGo_names {names : List Str} : ∀ {l : List Str} {seen : List Str}, routeGo names (l.map .str) seen = true → ∀ z ∈ l, isName z = true
  | [], _, _, z, hz => by cases hz
  | a :: l, seen, h, z, hz => by
    rw [List.map_cons, routeGo, Bool.and_eq_true, Bool.and_eq_true, Bool.and_eq_true] at h
    rcases List.mem_cons.mp hz with rfl | hz
    · exact h.1
    · exact routeGo_names h.2.2.2 z hz
theorem part_ok {l : Str} {S : List (Str × Cv)} {T : List (Str × Cv × List Str)} : (∀ s, partIn l S T = some (.sv s) → S.length < 6 ∧ isName s.1 = true) ∧ (∀ t, partIn l S T = some (.st t) → T.length < 6 ∧ isName t.1 = true ∧ ∀ z ∈ t.2.2, isName z = true) := by
  have hs : ∀ s, serverIn (Txt.split l " ") S = some s → isName s.1 = true := fun s h => by
    unfold serverIn at h
    split at h
    · rename_i hc
      cases hq : curveIn (Txt.join " " ((Txt.split l " ").drop 2)) with
      | none => rw [hq] at h; cases h
      | some c =>
        rw [hq] at h
        cases h
        exact hc.2.1
    · cases h
  have ht : ∀ t, streamIn (Txt.split l " ") S T = some t → isName t.1 = true ∧ ∀ z ∈ t.2.2, isName z = true := fun t h => by
    unfold streamIn at h
    split at h
    · split at h
      · rename_i hc
        split at h
        · split at h
          · rename_i hr
            cases h
            refine ⟨hc.1, ?_⟩
            have hr : (decide (_ ≠ []) && routeGo (S.map (·.1)) _ []) = true := hr
            rw [Bool.and_eq_true] at hr
            exact routeGo_names hr.2
          · cases h
        · cases h
      · cases h
    · cases h
  unfold partIn
  refine ⟨fun s h => ?_, fun t h => ?_⟩
  · split at h
    · rename_i hc
      cases hq : serverIn (Txt.split l " ") S with
      | none => rw [hq] at h; cases h
      | some s' =>
        rw [hq] at h
        cases h
        exact ⟨hc.2.2, hs _ hq⟩
    · split at h
      · cases hq : streamIn (Txt.split l " ") S T with
        | none => rw [hq] at h; cases h
        | some s' => rw [hq] at h; cases h
      · cases h
  · split at h
    · cases hq : serverIn (Txt.split l " ") S with
      | none => rw [hq] at h; cases h
      | some s' => rw [hq] at h; cases h
    · split at h
      · rename_i hc
        cases hq : streamIn (Txt.split l " ") S T with
        | none => rw [hq] at h; cases h
        | some s' =>
          rw [hq] at h
          cases h
          exact ⟨hc.2.2, ht _ hq⟩
      · cases h
section
variable {P : DEnds} {x : List (Option D) → DX} {m : Sto} {RX : DX} {R : D → Sto → Prop}
theorem v_read_net {ds : List D} (h : sp_read_net ds m R RX) : r_read_net { nx := fun _ m' => R .non m', rt := R } ⟨ds.map some ++ List.replicate (7 - ds.length) none, fun _ => RX⟩ m := by
  unfold sp_read_net at h
  split at h
  · rename_i t
    obtain ⟨ht, Sf, Tf, hr, hR⟩ := h
    have hl := ht.ln
    refine ⟨fun z => (nomatch z), fun _ => ⟨by decide, fun q1 hq1 => ⟨by decide, fun q2 hq2 => ⟨by decide, szn (by omega), ?_⟩⟩⟩⟩
    have q12 : q1 ≠ q2 := fun e => by rw [← e, up_same] at hq2; cases hq2
    have mq2 : m q2 = none := by rw [← hq2, up_ne q12.symm]
    refine ⟨fun i δ m' => ∃ S T t4 t5 t6, linesIn ((Txt.split t "\n").drop i) S T = some (Sf, Tf) ∧ SOk S ∧ TOk T ∧ m' = up (up m q1 (.lst (S.map svD))) q2 (.lst (T.map stD)) ∧ δ = ⟨[some (.str t), some (.ptr q1), some (.ptr q2), some (.lst ((Txt.split t "\n").map .str)), t4, t5, t6], fun _ => RX⟩, ⟨[], [], none, none, none, hr, ⟨by decide, fun _ h => (nomatch h)⟩, ⟨by decide, fun _ h => (nomatch h)⟩, rfl, rfl⟩, fun _ _ _ _ => trivial, ?_, ?_⟩
    · rintro i y δ m1 hx0 ⟨S, T, t4, t5, t6, he, oS, oT, rfl, rfl⟩
      obtain ⟨d, hx, rfl⟩ := enL_get hx0
      rw [List.getElem?_map] at hx
      cases hc : (Txt.split t "\n")[i]? with
      | none => rw [hc] at hx; cases hx
      | some l =>
        rw [hc] at hx
        cases hx
        rw [drop_get hc, linesIn] at he
        have m1q1 : up (up m q1 (.lst (S.map svD))) q2 (.lst (T.map stD)) q1 = some (.lst (S.map svD)) := by rw [up_ne q12, up_same]
        refine ⟨rfl, S, T, split_ok nl_ne nl_k ht (List.mem_of_getElem? hc), m1q1, oS, up_same, oT, ?_⟩
        obtain ⟨ps, pt⟩ := part_ok (l := l) (S := S) (T := T)
        cases hp : partIn l S T with
        | none => rw [hp] at he; cases he
        | some pr =>
          rw [hp] at he
          cases pr with
          | sv s =>
            obtain ⟨l6, hn⟩ := ps s hp
            refine ⟨fun z => (nomatch z), fun _ => ⟨fun _ => ⟨⟨_, _, m1q1, rfl⟩, _, m1q1, ?_, S ++ [s], T, _, _, _, he, ⟨by rw [List.length_append, List.length_singleton]; omega, fun a ha => ?_⟩, oT, ?_, rfl⟩, fun z => (nomatch z)⟩⟩
            · rw [List.length_map]
              exact Nat.lt_of_lt_of_le l6 (by decide)
            · rcases List.mem_append.mp ha with ha | ha
              · exact oS.2 a ha
              · rw [List.mem_singleton.mp ha]
                exact hn
            · rw [up_comm q12.symm, up_up, List.map_append]
              rfl
          | st s =>
            obtain ⟨l6, hn⟩ := pt s hp
            refine ⟨fun z => (nomatch z), fun _ => ⟨fun z => (nomatch z), fun _ => ⟨⟨_, _, up_same, rfl⟩, _, up_same, ?_, S, T ++ [s], _, _, _, he, oS, ⟨by rw [List.length_append, List.length_singleton]; omega, fun a ha => ?_⟩, ?_, rfl⟩⟩⟩
            · rw [List.length_map]
              exact Nat.lt_of_lt_of_le l6 (by decide)
            · rcases List.mem_append.mp ha with ha | ha
              · exact oT.2 a ha
              · rw [List.mem_singleton.mp ha]
                exact hn
            · rw [up_up, List.map_append]
              rfl
    · rintro δ m1 ⟨S, T, t4, t5, t6, he, oS, oT, rfl, rfl⟩
      rw [enL_len, List.length_map, List.drop_length, linesIn] at he
      have hT : ¬ T = [] := fun e => by rw [if_pos e] at he; cases he
      rw [if_neg hT] at he
      cases he
      refine ⟨(by show 0 ≤ sizeLine; decide), eqD_nil' (l := Tf) up_same (fun a ha => Ly.st (oT.2 a ha).1 (oT.2 a ha).2) ?_⟩
      rw [decide_eq_false hT]
      refine ⟨fun z => (nomatch z), fun _ => ⟨q1, _, rfl, by rw [up_ne q12, up_same], q2, _, rfl, by rw [del_ne q12.symm, up_same], _, rfl, _, rfl, (by show 2 ≤ sizeLine; decide), ?_⟩⟩
      show R (netD Sf Tf) (del (del (up (up m q1 (.lst (Sf.map svD))) q2 (.lst (Tf.map stD))) q1) q2)
      have e : del (del (up (up m q1 (.lst (Sf.map svD))) q2 (.lst (Tf.map stD))) q1) q2 = m := by
        funext a
        by_cases e1 : a = q2
        · rw [e1, del_same, mq2]
        · rw [del_ne e1]
          by_cases e2 : a = q1
          · rw [e2, del_same, hq1]
          · rw [del_ne e2, up_ne e1, up_ne e2]
      rw [e]
      exact hR
  · exact h.elim
end
end K58

namespace K58
open PySem PySem.Spec PyProof.Rows L2 Dl Nt Nz Tt TL
open Pn (rgL_inv gd atI_end)
open Pg (atI_int crv)
theorem cv_drawn {c : Cv} (h : CvIn c) : c.ok := by
  obtain ⟨n1, n2, n3, n4, n5, n6⟩ := h.nums
  obtain ⟨F, A, r⟩ := c
  have hi := h.is
  have hi : ((F.map D.int).all isNumD && ((A.map D.int).all isNumD && (isNumD (.int r) && (decide (A.map D.int ≠ []) && rowOk ((F.map D.int).map numD ++ (A.map D.int).map numD ++ [((A.map D.int).map numD).getD 0 0 + numD (.int r)]))))) = true := hi
  simp only [Bool.and_eq_true] at hi
  have ho := hi.2.2.2.2
  rw [numD_ints, numD_ints] at ho
  unfold rowOk at ho
  rw [Bool.and_eq_true] at ho
  have h0 := of_decide_eq_true ho.1
  have hp := of_decide_eq_true ho.2
  have n4 : A ≠ [] := n4
  have a0 : 0 < A.length := List.length_pos_iff.mpr n4
  have lz : 0 < (F ++ A).length := by rw [List.length_append]; omega
  rw [ris_iff] at hp
  have bd : ∀ x ∈ F ++ A, 0 ≤ x ∧ x ≤ 1000000 := fun x hx => (List.mem_append.mp hx).elim (n1 x) (n2 x)
  refine ⟨n4, n6, n5, n3.1, fun x hx => (bd x hx).1, fun x hx => (bd x hx).2, ?_, fun i x y hx hy => ?_, fun x hx y hy => ?_, n3.2⟩
  · rw [List.getElem?_append_left lz] at h0
    exact h0
  · have l1 := (List.getElem?_eq_some_iff.mp hx).1
    have l2 := (List.getElem?_eq_some_iff.mp hy).1
    exact hp i x y (by rw [List.getElem?_append_left l1]; exact hx) (by rw [List.getElem?_append_left l2]; exact hy)
  · have hx : A[0]? = some x := hx
    have hy : A[A.length - 1]? = some y := hy
    refine hp ((F ++ A).length - 1) y (x + r) ?_ ?_
    · rw [List.getElem?_append_left (by omega), List.getElem?_append_right (by rw [List.length_append]; omega)]
      have : (F ++ A).length - 1 - F.length = A.length - 1 := by rw [List.length_append]; omega
      rw [this]
      exact hy
    · have : (F ++ A).length - 1 + 1 = (F ++ A).length := by omega
      rw [this, List.getElem?_append_right (Nat.le_refl _), Nat.sub_self]
      have e : A.getD 0 0 = x := by rw [List.getD_eq_getElem?_getD, hx]; rfl
      show some (A.getD 0 0 + numD (.int r)) = _
      rw [e]
      rfl
theorem net_ok {S : List (Str × Cv)} {T : List (Str × Cv × List Str)} (N : NetIn S T) : NetOk S T :=
  ⟨N.s1, N.s6, N.t1, N.t6, N.sn, N.tn, fun s hs => ⟨(N.sN s hs).1, cv_drawn (N.sN s hs).2⟩, fun t ht => ⟨(N.tN t ht).1, cv_drawn (N.tN t ht).2.1, (N.tN t ht).2.2⟩⟩
theorem cv_sml {c : Cv} (h : CvIn c) : Pl.Sml c 24 12 1000000 := by
  obtain ⟨n1, n2, n3, n4, n5, n6⟩ := h.nums
  exact ⟨n4, n5, n6, fun x hx => (List.mem_append.mp hx).elim (n1 x) (n2 x), n3.1, n3.2⟩
/-- few small numbers make a short text -/
theorem numT7 {i : Int} (h : 0 ≤ i ∧ i ≤ 1000000) : (numT i).length ≤ 7 := by
  rw [len_tl, numT_tl h.1]
  exact numL_len (by decide) (by
    have : (10 : Nat) ^ 7 = 10000000 := by decide
    omega)
theorem showN7 {ns : List Int} {k : Nat} (h : ∀ x ∈ ns, 0 ≤ x ∧ x ≤ 1000000) (hl : ns.length ≤ k) : (showN ns).length ≤ 8 * k := by
  have hj := join_len " " (ns.map numT)
  have hs : ((ns.map numT).map (·.length)).sum ≤ (ns.map numT).length * 7 := sum_map_le fun a ha => by
    obtain ⟨i, hi, rfl⟩ := List.mem_map.mp ha
    exact numT7 (h i hi)
  have e : (" " : Str).length = 1 := by decide
  rw [List.length_map] at hj hs
  rw [e] at hj
  unfold showN
  omega
theorem showC7 {c : Cv} (h : CvIn c) : (showC c).length ≤ 400 := by
  obtain ⟨n1, n2, n3, n4, n5, n6⟩ := h.nums
  have h1 : (aheadT c.F).length ≤ 192 := by
    unfold aheadT
    split
    · decide
    · exact Nat.le_trans (showN7 n1 n5) (by decide)
  have h2 := showN7 n2 n6
  have h3 := numT7 n3
  have e : (" / " : Str).length = 3 := by decide
  unfold showC
  rw [la, la, la, la, e]
  omega
theorem showC_tx {c : Cv} (h : CvIn c) : TxOk (showC c) := by
  obtain ⟨n1, n2, n3, _⟩ := h.nums
  refine ⟨Nat.le_trans (showC7 h) (by decide), fun k hk => ?_⟩
  have := showC_signs (fun x hx => (n1 x hx).1) (fun x hx => (n2 x hx).1) n3.1 k hk
  omega
theorem showNet_tx {S : List (Str × Cv)} {T : List (Str × Cv × List Str)} (N : NetIn S T) : TxOk (showNet S T) := by
  have hN : ∀ y ∈ S.map (·.1), isName y = true := fun y hy => by
    obtain ⟨s, hs, e⟩ := List.mem_map.mp hy
    exact e ▸ (N.sN s hs).1
  have sl : ∀ s ∈ S, (serverT s).length ≤ 500 := fun s hs => by
    obtain ⟨h1, h2⟩ := N.sN s hs
    have := showC7 h2
    have := (name_lets h1).2.1
    have e1 : ("server " : Str).length = 7 := by decide
    have e2 : (" " : Str).length = 1 := by decide
    unfold serverT
    rw [la, la, la, e1, e2]
    omega
  have tl_ : ∀ t ∈ T, (streamT t).length ≤ 500 := fun t ht => by
    obtain ⟨h1, h2, h3, h4⟩ := N.tN t ht
    have := showC7 h2
    have := (name_lets h1).2.1
    have e1 : ("stream" : Str).length = 6 := by decide
    have e2 : ("via" : Str).length = 3 := by decide
    have e3 : (":" : Str).length = 1 := by decide
    have e4 : (" " : Str).length = 1 := by decide
    have h5 : (t.2.2.map (·.length)).sum ≤ t.2.2.length * 8 := sum_map_le fun z h => (name_lets (hN z (h3.mem z h))).2.1
    have hj := join_len " " ([("stream" : Str), t.1, "via"] ++ t.2.2 ++ [(":" : Str), showC t.2.1])
    have hl2 : ([("stream" : Str), t.1, "via"] ++ t.2.2 ++ [(":" : Str), showC t.2.1]).length = t.2.2.length + 5 := by simp
    rw [hl2, e4] at hj
    simp only [List.map_append, List.sum_append, List.map_cons, List.map_nil, List.sum_cons, List.sum_nil] at hj
    unfold streamT
    omega
  have all : ∀ w ∈ S.map serverT ++ T.map streamT, w.length ≤ 500 := fun w hw => by
    rcases List.mem_append.mp hw with hw | hw
    · obtain ⟨s, hs, rfl⟩ := List.mem_map.mp hw
      exact sl s hs
    · obtain ⟨t, ht, rfl⟩ := List.mem_map.mp hw
      exact tl_ t ht
  refine ⟨?_, fun c hc => ?_⟩
  · have hj := join_len "\n" (S.map serverT ++ T.map streamT)
    have hs : ((S.map serverT ++ T.map streamT).map (·.length)).sum ≤ (S.map serverT ++ T.map streamT).length * 500 := sum_map_le all
    have hl : (S.map serverT ++ T.map streamT).length ≤ 12 := by
      rw [List.length_append, List.length_map, List.length_map]
      have := N.s6
      have := N.t6
      omega
    have e : ("\n" : Str).length = 1 := by decide
    rw [e] at hj
    unfold showNet
    omega
  · unfold showNet at hc
    rw [join_eq, tl_join] at hc
    have wd : ∀ w : Str, (w = "server " ∨ w = " " ∨ w = "stream" ∨ w = "via" ∨ w = ":") → ∀ k ∈ tl w, k < 1000 := fun w hw k hk => by
      have z : ∀ v : Str, (tl v).all (fun k => decide (k < 1000)) = true → ∀ k ∈ tl v, k < 1000 := fun v hv k hk => of_decide_eq_true (List.all_eq_true.mp hv k hk)
      rcases hw with rfl | rfl | rfl | rfl | rfl <;> exact z _ (by decide +kernel) k hk
    have nm : ∀ {w : Str}, isName w = true → ∀ k ∈ tl w, k < 1000 := fun {w} h k hk => let_sm ((name_lets h).2.2 k hk)
    rcases joinL_mem hc with hc | ⟨p, hp, hc⟩
    · rw [nl_tl] at hc
      rw [List.mem_singleton.mp hc]
      decide
    · obtain ⟨w, hw, rfl⟩ := List.mem_map.mp hp
      rcases List.mem_append.mp hw with hw | hw
      · obtain ⟨s, hs, rfl⟩ := List.mem_map.mp hw
        obtain ⟨h1, h2⟩ := N.sN s hs
        unfold serverT at hc
        rw [tl_append, tl_append, tl_append] at hc
        rcases List.mem_append.mp hc with hc | hc
        · rcases List.mem_append.mp hc with hc | hc
          · rcases List.mem_append.mp hc with hc | hc
            · exact wd _ (.inl rfl) c hc
            · exact nm h1 c hc
          · exact wd _ (.inr (.inl rfl)) c hc
        · exact (showC_tx h2).ch c hc
      · obtain ⟨t, ht, rfl⟩ := List.mem_map.mp hw
        obtain ⟨h1, h2, h3, _⟩ := N.tN t ht
        unfold streamT at hc
        rw [join_eq, tl_join] at hc
        rcases joinL_mem hc with hc | ⟨q, hq, hc⟩
        · exact wd _ (.inr (.inl rfl)) c hc
        · obtain ⟨w, hw, rfl⟩ := List.mem_map.mp hq
          simp only [List.mem_append, List.mem_cons, List.not_mem_nil, or_false] at hw
          rcases hw with ((rfl | rfl | rfl) | hw) | rfl | rfl
          · exact wd _ (.inr (.inr (.inl rfl))) c hc
          · exact nm h1 c hc
          · exact wd _ (.inr (.inr (.inr (.inl rfl)))) c hc
          · exact nm (hN _ (h3.mem _ hw)) c hc
          · exact wd _ (.inr (.inr (.inr (.inr rfl)))) c hc
          · exact (showC_tx h2).ch c hc
end K58

namespace K58
open PySem PySem.Spec PyProof.Rows L2 Dl Nt Nz Tt TL
open Pn (rgL_inv gd atI_end)
open Pg (atI_int crv)
theorem cv_of : ∀ {acc : List D}, (∀ (k : Nat) (d : D), acc[k]? = some d → ∃ c : Cv, d = cvD c ∧ CvIn c) → ∃ cs : List Cv, acc = cs.map cvD ∧ ∀ c ∈ cs, CvIn c
  | [], _ => ⟨[], rfl, fun _ h => (nomatch h)⟩
  | d :: acc, k => by
    obtain ⟨S, e1, e3⟩ := cv_of (acc := acc) fun i d hd => k (i + 1) d hd
    obtain ⟨c, e, hc⟩ := k 0 d rfl
    exact ⟨c :: S, by rw [e, e1]; rfl, fun s hs => (List.mem_cons.mp hs).elim (fun z => z ▸ hc) (e3 s)⟩
theorem sml_ok {c : Cv} (h : Pl.Sml c 24 144 1000000000) : CvOk c := by
  have : (1000000000 : Int) < 10 ^ 30 := by decide
  have l1 := h.lF
  have l2 := h.lA
  refine ⟨⟨by omega, fun x hx => ?_⟩, ⟨by omega, fun x hx => ?_⟩, h.r0, by have := h.r1; omega⟩
  · have := h.nn x (List.mem_append_left _ hx)
    omega
  · have := h.nn x (List.mem_append_right _ hx)
    omega
section
variable {P : DEnds} {x : List (Option D) → DX} {m : Sto} {RX : DX} {R : D → Sto → Prop}
theorem law_l1 {c : Cv} {s0 s1 s2 s3 s4 s5 s7 s8 s9 : Option D} (hc : CvIn c) (h : ∀ t7 t8, P.nx ⟨[s0, s1, s2, s3, s4, s5, some (cvD c), t7, t8, s9], x⟩ m) : r_law_l1 P ⟨[s0, s1, s2, s3, s4, s5, some (cvD c), s7, s8, s9], x⟩ m := by
  obtain ⟨z, hz⟩ := (Cv.gd (m := m) (κ := none) (cv_drawn hc)).rep (by decide) (by decide)
  refine ⟨c, rfl, hc.ok, c, rfl, hc.ok, fun z => (nomatch z), fun _ => ⟨fun w => absurd w (by show ¬ (!decide (showC c = showC c)) = true; simp), fun _ => ⟨showC_tx hc, c, curveIn_showC hc, z, hz, z, hz, ?_⟩⟩⟩
  exact ⟨fun w => absurd w (by show ¬ (!decide (z = z)) = true; simp), fun _ => h _ _⟩
theorem law_l2 {S : List (Str × Cv)} {T : List (Str × Cv × List Str)} {cs : List Cv} {s0 s1 s4 s5 s6 s7 s8 s9 : Option D} (N : NetIn S T) (hcs : ∀ c ∈ cs, CvIn c) (h : ∀ t6 t7 t8, P.nx ⟨[s0, s1, some (netD S T), some (.lst (cs.map cvD)), s4, s5, t6, t7, t8, s9], x⟩ m) :
    r_law_l2 P ⟨[s0, s1, some (netD S T), some (.lst (cs.map cvD)), s4, s5, s6, s7, s8, s9], x⟩ m := by
  refine ⟨fun i δ m' => ∃ t6 t7 t8, m' = m ∧ δ = ⟨[s0, s1, some (netD S T), some (.lst (cs.map cvD)), s4, s5, t6, t7, t8, s9], x⟩, ⟨_, _, _, rfl, rfl⟩, fun _ _ _ _ => trivial, ?_, ?_⟩
  · rintro i y δ m1 hx ⟨t6, t7, t8, rfl, rfl⟩
    rw [List.getElem?_map] at hx
    cases hc : cs[i]? with
    | none => rw [hc] at hx; cases hx
    | some c =>
      rw [hc] at hx
      cases hx
      exact law_l1 (hcs c (List.mem_of_getElem? hc)) fun t7 t8 => ⟨_, t7, t8, rfl, rfl⟩
  · rintro δ m1 ⟨t6, t7, t8, rfl, rfl⟩
    have hN : ∀ y ∈ S.map (·.1), isName y = true := fun y hy => by
      obtain ⟨s, hs, e⟩ := List.mem_map.mp hy
      exact e ▸ (N.sN s hs).1
    obtain ⟨z, hz⟩ := ((net_ok N).gd (m := m1) (κ := none)).rep (by decide) (by decide)
    refine ⟨S, T, rfl, N, S, T, rfl, N.s6, N.t6, fun s hs => ⟨(N.sN s hs).1, (N.sN s hs).2.ok⟩, fun t ht => ⟨(N.tN t ht).1, (N.tN t ht).2.1.ok, (N.tN t ht).2.2.2, fun z hz => hN z ((N.tN t ht).2.2.1.mem z hz)⟩, fun z => (nomatch z), fun _ => ⟨fun w => absurd w (by show ¬ (!decide (showNet S T = showNet S T)) = true; simp), fun _ => ⟨showNet_tx N, S, T, N.read, z, hz, z, hz, ?_⟩⟩⟩
    exact ⟨fun w => absurd w (by show ¬ (!decide (z = z)) = true; simp), fun _ => h _ _ _⟩
theorem v_law {L : Addr} {ds : List D} (h : (lawSp 63) ds m R RX) : r_law L { nx := fun _ m' => R .non m', rt := R } ⟨ds.map some ++ List.replicate (10 - ds.length) none, fun _ => RX⟩ m := by
  obtain ⟨ns, rfl, hns, hR⟩ := h
  refine ⟨ns, rfl, fun p X hp hX => ⟨0, X, up_same, hX, by decide, fun S T X1 N hX1 => ?_⟩⟩
  rw [up_up]
  refine ⟨by decide, by decide, lc_drawn false p (fun _ d => ∃ c : Cv, d = cvD c ∧ CvIn c) 80 2000 X1 up_same hX1 (fun _ _ => trivial) (by rw [rgL_len]; decide) (fun k y m2 X2 hx hp2 hX2 le => ?_) fun acc X2 hl hP hX2 => ?_⟩
  · obtain ⟨hk, rfl⟩ := rgL_inv hx
    have hk4 : k < 4 := hk
    exact ⟨_, rfl, fun R hR => ⟨_, X2, hp2, hX2, by omega, fun c X' hc hX' => hR _ X' ⟨c, rfl, hc⟩ hX'⟩⟩
  · obtain ⟨cs, rfl, hcs⟩ := cv_of hP
    rw [rgL_len, List.length_map] at hl
    have hl : cs.length = 4 := hl
    rw [up_up]
    generalize up m p X2 = m2
    have gn : Gd m2 (some false) 4640007 7 (netD S T) := Gd.tup (n := 2) (k := 2320000) (d := 5) (mem2 (net_ok N).gS (net_ok N).gT) (Nat.le_refl _) (by decide) (by decide) (by decide)
    have gc : Gd m2 (some false) 4640007 7 (.lst (cs.map cvD)) := Gd.lst (n := 4) (k := 81000) (d := 3) (fun y hy => by
      obtain ⟨c, hc, rfl⟩ := List.mem_map.mp hy
      exact Cv.gd (cv_drawn (hcs c hc))) (by rw [List.length_map]; omega) (by decide) (by decide)
    obtain ⟨z, hz⟩ := (Gd.tup (n := 2) (K := 10000000) (d' := 8) (mem2 gn gc) (Nat.le_refl _) (by decide) (by decide) (by decide)).rep (by decide) (by decide)
    refine ⟨(by show 2 ≤ sizeLine; decide), z, hz, by decide, by decide, fun i δ m' => ∃ t4 t6 t7 t8, m' = m2 ∧ δ = ⟨[some (.rl (ns.map .int)), some (.ptr p), some (netD S T), some (.lst (cs.map cvD)), t4, some (.str z), t6, t7, t8, none], fun _ => RX⟩, ⟨_, _, _, _, rfl, rfl⟩, fun _ _ _ _ => trivial, ?_, ?_⟩
    · rintro i y δ m1 hx ⟨t4, t6, t7, t8, rfl, rfl⟩
      exact law_l2 N hcs fun t6 t7 t8 => ⟨_, t6, t7, t8, rfl, rfl⟩
    · rintro δ m1 ⟨t4, t6, t7, t8, rfl, rfl⟩
      match cs, hl, hcs, hz with
      | [c0, c1, c2, c3], _, hcs, hz =>
        obtain ⟨c, hp, hs⟩ := Pl.plus_small (cv_sml (hcs c0 (by simp))) (cv_sml (hcs c1 (by simp)))
        have w0 := cv_sml (hcs c0 (by simp))
        have w1 := cv_sml (hcs c1 (by simp))
        refine ⟨_, cvD c0, rfl, rfl, _, cvD c1, rfl, rfl, c0, c1, rfl, rfl, w0.wf (by decide), w1.wf (by decide), by have := w0.lF; have := w0.lA; omega, by have := w1.lF; have := w1.lA; omega, ?_⟩
        rw [hp]
        refine ⟨c, rfl, sml_ok hs, c, rfl, sml_ok hs, fun _ => ⟨(by show 2 ≤ sizeLine; decide), z, hz, ?_⟩, fun w => absurd w (by show ¬ decide (showC c = showC c) = false; simp)⟩
        show R (.bl (decide (z = z))) _
        rw [decide_eq_true rfl]
        exact hR _
end
end K58

namespace K58
open PySem PySem.Spec PyProof.Rows L2 Dl Nt Nz Pl Tt
open Pg (sp_value r_value v_value)
section
variable {P : Program} {w : World} {K : PySem.W.Frag} {mg : Str → Option Value} {base : Heap} {A : Ad}
theorem ok_is_number (T : Tx K mg A) : FnG P w K mg base CX0 1 A.f_is_number A.d_is_number ["thing"] (spD K sp_is_number) := by
  refine fn_d T.F_is_number sc_is_number (fun ds m R RX h => by unfold sp_is_number at h; first | (obtain ⟨ns, rfl, _⟩ := h; rfl) | (split at h <;> first | rfl | exact h.elim)) (fun cdv A' outer s H E hr hg => ⟨r_is_number, PDSs.nox ((pdss_one (pds_ret (pd_and (pd_isi .int (by rfl) T.z_isinstance (by decide +kernel) (pd_v 0) (by rfl) T.z_int (by decide +kernel)) (pd_and (pd_not (pd_isi .bool (by rfl) T.z_isinstance (by decide +kernel) (pd_v 0) (by rfl) T.z_bool (by decide +kernel))) (pd_one (pd_cmp od_ge (pd_v 0) pd_int (nomark _)))))))), fun ds m R RX h => v_is_number h⟩)
theorem ok_are_numbers (T : Tx K mg A) : FnG P w K mg base CX0 2 A.f_are_numbers A.d_are_numbers ["thing"] (spD K sp_are_numbers) := by
  have G_is_number : FnG P w K mg base CX0 1 A.f_is_number A.d_is_number ["thing"] (spD K sp_is_number) := ok_is_number T
  refine fn_d T.F_are_numbers sc_are_numbers (fun ds m R RX h => by unfold sp_are_numbers at h; first | (obtain ⟨ns, rfl, _⟩ := h; rfl) | (split at h <;> first | rfl | exact h.elim)) (fun cdv A' outer s H E hr hg => ⟨r_are_numbers, PDSs.nox ((pdss_one (pds_ret (pd_and (pd_isi .tup (by rfl) T.z_isinstance (by decide +kernel) (pd_v 0) (by rfl) T.z_tuple (by decide +kernel)) (pd_one (pd_callB (cd_all rfl) (by rfl) T.z_all (by decide +kernel) (pda_cons (pd_lc false [("one", 1)] false rfl sc_are_numbers.nd (pdi_seq (pd_v 0)) (blkOk_by (own := [("one", 1)]) (N := ["thing", "one"]) (sc := defScope s_are_numbers) (by decide +kernel)) (fun _ => rfl) (fun _ _ _ _ _ => (pg_name (i := 1) sc_are_numbers.nd rfl (Or.inl rfl))) (fun _ _ _ _ _ => pdts_nil) (fun _ _ _ _ _ => (pd_call G_is_number (hr.mono (by decide)) hg (by rfl) T.g_is_number T.F_is_number.kp T.b_is_number (fun _ => passAt0) (pda_cons (pd_v 1) pda_nil)))) pda_nil))))))), fun ds m R RX h => v_are_numbers h⟩)
theorem ok_is_curve (T : Tx K mg A) : FnG P w K mg base CX0 3 A.f_is_curve A.d_is_curve ["thing"] (spD K sp_is_curve) := by
  have G_are_numbers : FnG P w K mg base CX0 2 A.f_are_numbers A.d_are_numbers ["thing"] (spD K sp_are_numbers) := ok_are_numbers T
  have G_is_number : FnG P w K mg base CX0 1 A.f_is_number A.d_is_number ["thing"] (spD K sp_is_number) := ok_is_number T
  refine fn_d T.F_is_curve sc_is_curve (fun ds m R RX h => by unfold sp_is_curve at h; first | (obtain ⟨ns, rfl, _⟩ := h; rfl) | (split at h <;> first | rfl | exact h.elim)) (fun cdv A' outer s H E hr hg => ⟨r_is_curve, PDSs.nox ((pdss_cons (pds_if (PDW.pt (pdw_or (pdt_not (pdt_val (pd_isi .tup (by rfl) T.z_isinstance (by decide +kernel) (pd_v 0) (by rfl) T.z_tuple (by decide +kernel)))) (pdw_or (pdt_cmp (od_ne hr.units) (pd_callB cd_len (by rfl) T.z_len (by decide +kernel) (pda_cons (pd_v 0) pda_nil)) pd_int (nomark _)) (pdw_or (pdt_not (pdt_val (pd_call G_are_numbers (hr.mono (by decide)) hg (by rfl) T.g_are_numbers T.F_are_numbers.kp T.b_are_numbers (fun _ => passAt0) (pda_cons (pd_ix id_seq (pd_v 0) pd_int) pda_nil)))) (pdw_or1 (pdt_not (pdt_val (pd_call G_are_numbers (hr.mono (by decide)) hg (by rfl) T.g_are_numbers T.F_are_numbers.kp T.b_are_numbers (fun _ => passAt0) (pda_cons (pd_ix id_seq (pd_v 0) pd_int) pda_nil)))))))))
(pdss_one (pds_ret pd_bl))
pdss_nil)
(pdss_cons (pds_asg (pdg_tup rfl (pdgs_cons (pdg_name 1 sc_is_curve.nd rfl (by first | exact Or.inl rfl | exact Or.inr rfl)) (pdgs_cons (pdg_name 2 sc_is_curve.nd rfl (by first | exact Or.inl rfl | exact Or.inr rfl)) (pdgs_cons (pdg_name 3 sc_is_curve.nd rfl (by first | exact Or.inl rfl | exact Or.inr rfl)) pdgs_nil)))) (pd_v 0))
(pdss_cons (pds_if (PDW.pt (pdw_or (pdt_cmp (od_eq hr.units) (pd_callB cd_len (by rfl) T.z_len (by decide +kernel) (pda_cons (pd_v 2) pda_nil)) pd_int (nomark _)) (pdw_or1 (pdt_not (pdt_val (pd_call G_is_number (hr.mono (by decide)) hg (by rfl) T.g_is_number T.F_is_number.kp T.b_is_number (fun _ => passAt0) (pda_cons (pd_v 3) pda_nil)))))))
(pdss_one (pds_ret pd_bl))
pdss_nil)
(pdss_cons (pds_set 4 sc_is_curve.nd rfl (by first | exact Or.inl rfl | exact Or.inr rfl) (pd_op (od_add false) (pd_op (od_add false) (pd_v 1) (pd_v 2)) (pd_tup (pda_cons (pd_op (od_add false) (pd_ix id_seq (pd_v 2) pd_int) (pd_v 3)) pda_nil))))
(pdss_one (pds_ret (pd_and (pd_cmp (od_eq hr.units) (pd_ix id_seq (pd_v 4) pd_int) pd_int (nomark _)) (pd_one (pd_callB (cd_all rfl) (by rfl) T.z_all (by decide +kernel) (pda_cons (pd_lc false [("t", 5)] false rfl sc_is_curve.nd (pdi_range2 (by rfl) T.z_range pd_int (pd_callB cd_len (by rfl) T.z_len (by decide +kernel) (pda_cons (pd_v 4) pda_nil))) (blkOk_by (own := [("t", 5)]) (N := ["thing", "first", "again", "rise", "row", "t"]) (sc := defScope s_is_curve) (by decide +kernel)) (fun _ => rfl) (fun _ _ _ _ _ => (pg_name (i := 5) sc_is_curve.nd rfl (Or.inl rfl))) (fun _ _ _ _ _ => pdts_nil) (fun _ _ _ _ _ => (pd_cmp od_le (pd_ix id_seq (pd_v 4) (pd_op od_sub (pd_v 5) pd_int)) (pd_ix id_seq (pd_v 4) (pd_v 5)) (nomark _)))) pda_nil))))))))))), fun ds m R RX h => v_is_curve h⟩)
theorem ok_value (T : Tx K mg A) : FnG P w K mg base CX0 1 A.f_value A.d_value ["f", "t"] (spD K sp_value) := by
  refine fn_d T.F_value sc_value (fun ds m R RX h => by unfold sp_value at h; first | (obtain ⟨ns, rfl, _⟩ := h; rfl) | (split at h <;> first | rfl | exact h.elim)) (fun cdv A' outer s H E hr hg => ⟨r_value, PDSs.nox ((pdss_cons (pds_asg (pdg_tup rfl (pdgs_cons (pdg_name 2 sc_value.nd rfl (by first | exact Or.inl rfl | exact Or.inr rfl)) (pdgs_cons (pdg_name 3 sc_value.nd rfl (by first | exact Or.inl rfl | exact Or.inr rfl)) (pdgs_cons (pdg_name 4 sc_value.nd rfl (by first | exact Or.inl rfl | exact Or.inr rfl)) pdgs_nil)))) (pd_v 0))
(pdss_cons (pds_if (pdt_cmp od_lt (pd_v 1) (pd_callB cd_len (by rfl) T.z_len (by decide +kernel) (pda_cons (pd_v 2) pda_nil)) (nomark _))
(pdss_one (pds_ret (pd_ix id_seq (pd_v 2) (pd_v 1))))
pdss_nil)
(pdss_cons (pds_set 5 sc_value.nd rfl (by first | exact Or.inl rfl | exact Or.inr rfl) (pd_op od_sub (pd_v 1) (pd_callB cd_len (by rfl) T.z_len (by decide +kernel) (pda_cons (pd_v 2) pda_nil))))
(pdss_one (pds_ret (pd_op (od_add false) (pd_ix id_seq (pd_v 3) (pd_op od_mod (pd_v 5) (pd_callB cd_len (by rfl) T.z_len (by decide +kernel) (pda_cons (pd_v 3) pda_nil)))) (pd_op (od_mul false) (pd_v 4) (pd_op od_div (pd_v 5) (pd_callB cd_len (by rfl) T.z_len (by decide +kernel) (pda_cons (pd_v 3) pda_nil))))))))))), fun ds m R RX h => v_value h⟩)
theorem ok_up_in (T : Tx K mg A) : FnG P w K mg base CX0 1 A.f_up_in A.d_up_in ["f", "turns"] (spD K sp_up_in) := by
  refine fn_d T.F_up_in sc_up_in (fun ds m R RX h => by unfold sp_up_in at h; first | (obtain ⟨ns, rfl, _⟩ := h; rfl) | (split at h <;> first | rfl | exact h.elim)) (fun cdv A' outer s H E hr hg => ⟨r_up_in, PDSs.nox ((pdss_one (pds_ret (pd_op (od_mul false) (pd_ix id_seq (pd_v 0) pd_int) (pd_op od_div (pd_v 1) (pd_callB cd_len (by rfl) T.z_len (by decide +kernel) (pda_cons (pd_ix id_seq (pd_v 0) pd_int) pda_nil))))))), fun ds m R RX h => v_up_in h⟩)
theorem ok_is_name (T : Tx K mg A) : FnG P w K mg base CX0 1 A.f_is_name A.d_is_name ["thing"] (spD K sp_is_name) := by
  refine fn_d T.F_is_name sc_is_name (fun ds m R RX h => by unfold sp_is_name at h; first | (obtain ⟨ns, rfl, _⟩ := h; rfl) | (split at h <;> first | rfl | exact h.elim)) (fun cdv A' outer s H E hr hg => ⟨r_is_name, PDSs.nox ((pdss_cons (pds_if (PDW.pt (pdw_or (pdt_not (pdt_val (pd_isi .str (by rfl) T.z_isinstance (by decide +kernel) (pd_v 0) (by rfl) T.z_str (by decide +kernel)))) (pdw_or1 (pdt_not (pdt_chain od_le od_le pd_int (pd_callB cd_len (by rfl) T.z_len (by decide +kernel) (pda_cons (pd_v 0) pda_nil)) (pd_gint (by rfl) T.k_MOST_LETTERS))))))
(pdss_one (pds_ret pd_bl))
pdss_nil)
(pdss_one (pds_ret (pd_callB (cd_all rfl) (by rfl) T.z_all (by decide +kernel) (pda_cons (pd_lc false [("sign", 1)] false rfl sc_is_name.nd (pdi_str (pd_v 0)) (blkOk_by (own := [("sign", 1)]) (N := ["thing", "sign"]) (sc := defScope s_is_name) (by decide +kernel)) (fun _ => rfl) (fun _ _ _ _ _ => (pg_name (i := 1) sc_is_name.nd rfl (Or.inl rfl))) (fun _ _ _ _ _ => pdts_nil) (fun _ _ _ _ _ => (pd_cmp od_in (pd_v 1) (pd_gstr (by rfl) T.k_LETTERS) (by rfl)))) pda_nil)))))), fun ds m R RX h => v_is_name h⟩)
theorem ok_is_route (T : Tx K mg A) : FnG P w K mg base CX0 2 A.f_is_route A.d_is_route ["names", "thing"] (spD K sp_is_route) := by
  have G_is_name : FnG P w K mg base CX0 1 A.f_is_name A.d_is_name ["thing"] (spD K sp_is_name) := ok_is_name T
  refine fn_d T.F_is_route sc_is_route (fun ds m R RX h => by unfold sp_is_route at h; first | (obtain ⟨ns, rfl, _⟩ := h; rfl) | (split at h <;> first | rfl | exact h.elim)) (fun cdv A' outer s H E hr hg => ⟨r_is_route, PDSs.nox ((pdss_cons (pds_if (PDW.pt (pdw_or (pdt_not (pdt_val (pd_isi .tup (by rfl) T.z_isinstance (by decide +kernel) (pd_v 1) (by rfl) T.z_tuple (by decide +kernel)))) (pdw_or1 (pdt_cmp (od_eq hr.units) (pd_callB cd_len (by rfl) T.z_len (by decide +kernel) (pda_cons (pd_v 1) pda_nil)) pd_int (nomark _)))))
(pdss_one (pds_ret pd_bl))
pdss_nil)
(pdss_cons (pds_set 2 sc_is_route.nd rfl (by first | exact Or.inl rfl | exact Or.inr rfl) (pd_lst true pda_nil))
(pdss_cons (pds_for PassesOwn.never rfl (pdi_seq (pd_v 1)) (pdg_name 3 sc_is_route.nd rfl (by first | exact Or.inl rfl | exact Or.inr rfl))
(pdss_cons (pds_if (PDW.pt (pdw_or (pdt_not (pdt_val (pd_call G_is_name (hr.mono (by decide)) hg (by rfl) T.g_is_name T.F_is_name.kp T.b_is_name (fun _ => passAt0) (pda_cons (pd_v 3) pda_nil)))) (pdw_or (pdt_cmp od_nin (pd_v 3) (pd_v 0) (by rfl)) (pdw_or1 (pdt_cmp od_in (pd_v 3) (pd_v 2) (by rfl))))))
(pdss_one (pds_frz 2 (pds_ret pd_bl)))
pdss_nil)
(pdss_one (pds_expr (pd_lm PySem.F.plainAttrs_list PySem.F.slot_list_append PySem.F.type_list_append md_append (pd_v 2) (pda_cons (pd_v 3) pda_nil))))))
(pdss_one (pds_frz 2 (pds_ret pd_bl))))))), fun ds m R RX h => v_is_route h⟩)
theorem ok_show_numbers (T : Tx K mg A) : FnG P w K mg base CX0 1 A.f_show_numbers A.d_show_numbers ["numbers"] (spD K sp_show_numbers) := by
  refine fn_d T.F_show_numbers sc_show_numbers (fun ds m R RX h => by unfold sp_show_numbers at h; first | (obtain ⟨ns, rfl, _⟩ := h; rfl) | (split at h <;> first | rfl | exact h.elim)) (fun cdv A' outer s H E hr hg => ⟨r_show_numbers, PDSs.nox ((pdss_one (pds_ret (pd_join pd_str (pd_lc false [("number", 1)] false rfl sc_show_numbers.nd (pdi_seq (pd_v 0)) (blkOk_by (own := [("number", 1)]) (N := ["numbers", "number"]) (sc := defScope s_show_numbers) (by decide +kernel)) (fun _ => rfl) (fun _ _ _ _ _ => (pg_name (i := 1) sc_show_numbers.nd rfl (Or.inl rfl))) (fun _ _ _ _ _ => pdts_nil) (fun _ _ _ _ _ => (pd_callT cd_str (by rfl) T.z_str (by decide +kernel) (pda_cons (pd_v 1) pda_nil)))))))), fun ds m R RX h => v_show_numbers h⟩)
theorem ok_show_curve (T : Tx K mg A) : FnG P w K mg base CX0 2 A.f_show_curve A.d_show_curve ["f"] (spD K sp_show_curve) := by
  have G_show_numbers : FnG P w K mg base CX0 1 A.f_show_numbers A.d_show_numbers ["numbers"] (spD K sp_show_numbers) := ok_show_numbers T
  refine fn_d T.F_show_curve sc_show_curve (fun ds m R RX h => by unfold sp_show_curve at h; first | (obtain ⟨ns, rfl, _⟩ := h; rfl) | (split at h <;> first | rfl | exact h.elim)) (fun cdv A' outer s H E hr hg => ⟨r_show_curve, PDSs.nox ((pdss_cons (pds_asg (pdg_tup rfl (pdgs_cons (pdg_name 1 sc_show_curve.nd rfl (by first | exact Or.inl rfl | exact Or.inr rfl)) (pdgs_cons (pdg_name 2 sc_show_curve.nd rfl (by first | exact Or.inl rfl | exact Or.inr rfl)) (pdgs_cons (pdg_name 3 sc_show_curve.nd rfl (by first | exact Or.inl rfl | exact Or.inr rfl)) pdgs_nil)))) (pd_v 0))
(pdss_cons (pds_set 4 sc_show_curve.nd rfl (by first | exact Or.inl rfl | exact Or.inr rfl) pd_str)
(pdss_cons (pds_if (pdt_cmp od_gt (pd_callB cd_len (by rfl) T.z_len (by decide +kernel) (pda_cons (pd_v 1) pda_nil)) pd_int (nomark _))
(pdss_one (pds_set 4 sc_show_curve.nd rfl (by first | exact Or.inl rfl | exact Or.inr rfl) (pd_call G_show_numbers (hr.mono (by decide)) hg (by rfl) T.g_show_numbers T.F_show_numbers.kp T.b_show_numbers (fun _ => passAt0) (pda_cons (pd_v 1) pda_nil))))
pdss_nil)
(pdss_one (pds_ret (pd_joined (PDJ.cons (pd_fmt (pd_v 4)) (PDJ.cons pd_str (PDJ.cons (pd_fmt (pd_call G_show_numbers (hr.mono (by decide)) hg (by rfl) T.g_show_numbers T.F_show_numbers.kp T.b_show_numbers (fun _ => passAt0) (pda_cons (pd_v 2) pda_nil))) (PDJ.cons pd_str (PDJ.cons (pd_fmt (pd_v 3)) PDJ.nil)))))))))))), fun ds m R RX h => v_show_curve h⟩)
theorem ok_number_in (T : Tx K mg A) : FnG P w K mg base CX0 1 A.f_number_in A.d_number_in ["word"] (spD K sp_number_in) := by
  refine fn_d T.F_number_in sc_number_in (fun ds m R RX h => by unfold sp_number_in at h; first | (obtain ⟨ns, rfl, _⟩ := h; rfl) | (split at h <;> first | rfl | exact h.elim)) (fun cdv A' outer s H E hr hg => ⟨r_number_in, PDSs.nox ((pdss_cons (pds_if (PDW.pt (pdw_or (pdt_not (pdt_chain od_le od_le pd_int (pd_callB cd_len (by rfl) T.z_len (by decide +kernel) (pda_cons (pd_v 0) pda_nil)) (pd_gint (by rfl) T.k_MOST_FIGURES))) (pdw_or1 (pdt_not (pdt_val (pd_callB (cd_all rfl) (by rfl) T.z_all (by decide +kernel) (pda_cons (pd_lc false [("sign", 1)] false rfl sc_number_in.nd (pdi_str (pd_v 0)) (blkOk_by (own := [("sign", 1)]) (N := ["word", "sign"]) (sc := defScope s_number_in) (by decide +kernel)) (fun _ => rfl) (fun _ _ _ _ _ => (pg_name (i := 1) sc_number_in.nd rfl (Or.inl rfl))) (fun _ _ _ _ _ => pdts_nil) (fun _ _ _ _ _ => (pd_cmp od_in (pd_v 1) (pd_gstr (by rfl) T.k_FIGURES) (by rfl)))) pda_nil)))))))
(pdss_one (pds_ret pd_non))
pdss_nil)
(pdss_cons (pds_if (PDW.pt (pdw_and (pdt_cmp (od_eq hr.units) (pd_ix id_seq (pd_v 0) pd_int) pd_str (nomark _)) (pdw_and1 (pdt_cmp od_gt (pd_callB cd_len (by rfl) T.z_len (by decide +kernel) (pda_cons (pd_v 0) pda_nil)) pd_int (nomark _)))))
(pdss_one (pds_ret pd_non))
pdss_nil)
(pdss_one (pds_ret (pd_callT cd_intS (by rfl) T.z_int (by decide +kernel) (pda_cons (pd_v 0) pda_nil))))))), fun ds m R RX h => v_number_in h⟩)
theorem ok_numbers_in (T : Tx K mg A) : FnG P w K mg base CX0 2 A.f_numbers_in A.d_numbers_in ["text"] (spD K sp_numbers_in) := by
  have G_number_in : FnG P w K mg base CX0 1 A.f_number_in A.d_number_in ["word"] (spD K sp_number_in) := ok_number_in T
  refine fn_d T.F_numbers_in sc_numbers_in (fun ds m R RX h => by unfold sp_numbers_in at h; first | (obtain ⟨ns, rfl, _⟩ := h; rfl) | (split at h <;> first | rfl | exact h.elim)) (fun cdv A' outer s H E hr hg => ⟨r_numbers_in, PDSs.nox ((pdss_cons (pds_setLc 1 false [("word", 2)] false rfl sc_numbers_in.nd rfl rfl (sw_true rfl rfl rfl (by decide +kernel)) (pdi_seq (pd_split false (pd_v 0) pd_str)) (blkOk_by (own := [("word", 2)]) (N := ["text", "found", "word"]) (sc := defScope s_numbers_in) (by decide +kernel)) (fun _ => rfl) (fun _ _ _ _ _ => (pg_name (i := 2) sc_numbers_in.nd rfl (Or.inl rfl))) (fun _ _ _ _ _ => pdts_nil) (fun _ _ _ _ _ => (pd_call G_number_in (hr.mono (by decide)) hg (by rfl) T.g_number_in T.F_number_in.kp T.b_number_in (fun _ => passAt0) (pda_cons (pd_v 2) pda_nil))))
(pdss_cons (pds_if (pdt_cmp od_in pd_non (pd_v 1) (by rfl))
(pdss_one (pds_ret pd_non))
pdss_nil)
(pdss_one (pds_ret (pd_callT cd_tuple (by rfl) T.z_tuple (by decide +kernel) (pda_cons (pd_v 1) pda_nil))))))), fun ds m R RX h => v_numbers_in h⟩)
theorem ok_keeps_bounds (T : Tx K mg A) : FnG P w K mg base CX0 1 A.f_keeps_bounds A.d_keeps_bounds ["f"] (spD K sp_keeps_bounds) := by
  refine fn_d T.F_keeps_bounds sc_keeps_bounds (fun ds m R RX h => by unfold sp_keeps_bounds at h; first | (obtain ⟨ns, rfl, _⟩ := h; rfl) | (split at h <;> first | rfl | exact h.elim)) (fun cdv A' outer s H E hr hg => ⟨r_keeps_bounds, PDSs.nox ((pdss_cons (pds_asg (pdg_tup rfl (pdgs_cons (pdg_name 1 sc_keeps_bounds.nd rfl (by first | exact Or.inl rfl | exact Or.inr rfl)) (pdgs_cons (pdg_name 2 sc_keeps_bounds.nd rfl (by first | exact Or.inl rfl | exact Or.inr rfl)) (pdgs_cons (pdg_name 3 sc_keeps_bounds.nd rfl (by first | exact Or.inl rfl | exact Or.inr rfl)) pdgs_nil)))) (pd_v 0))
(pdss_cons (pds_if (PDW.pt (pdw_or (pdt_cmp od_gt (pd_callB cd_len (by rfl) T.z_len (by decide +kernel) (pda_cons (pd_v 1) pda_nil)) (pd_gint (by rfl) T.k_MOST_FIRST) (nomark _)) (pdw_or1 (pdt_cmp od_gt (pd_callB cd_len (by rfl) T.z_len (by decide +kernel) (pda_cons (pd_v 2) pda_nil)) (pd_gint (by rfl) T.k_MOST_AGAIN) (nomark _)))))
(pdss_one (pds_ret pd_bl))
pdss_nil)
(pdss_one (pds_ret (pd_callB (cd_all rfl) (by rfl) T.z_all (by decide +kernel) (pda_cons (pd_lc false [("number", 4)] false rfl sc_keeps_bounds.nd (pdi_seq (pd_op (od_add false) (pd_op (od_add false) (pd_v 1) (pd_v 2)) (pd_tup (pda_cons (pd_v 3) pda_nil)))) (blkOk_by (own := [("number", 4)]) (N := ["f", "first", "again", "rise", "number"]) (sc := defScope s_keeps_bounds) (by decide +kernel)) (fun _ => rfl) (fun _ _ _ _ _ => (pg_name (i := 4) sc_keeps_bounds.nd rfl (Or.inl rfl))) (fun _ _ _ _ _ => pdts_nil) (fun _ _ _ _ _ => (pd_cmp od_le (pd_v 4) (pd_gint (by rfl) T.k_MOST_NUMBER) (nomark _)))) pda_nil))))))), fun ds m R RX h => v_keeps_bounds h⟩)
theorem ok_curve_in (T : Tx K mg A) : FnG P w K mg base CX0 4 A.f_curve_in A.d_curve_in ["text"] (spD K sp_curve_in) := by
  have G_numbers_in : FnG P w K mg base CX0 2 A.f_numbers_in A.d_numbers_in ["text"] (spD K sp_numbers_in) := ok_numbers_in T
  have G_number_in : FnG P w K mg base CX0 1 A.f_number_in A.d_number_in ["word"] (spD K sp_number_in) := ok_number_in T
  have G_is_curve : FnG P w K mg base CX0 3 A.f_is_curve A.d_is_curve ["thing"] (spD K sp_is_curve) := ok_is_curve T
  have G_keeps_bounds : FnG P w K mg base CX0 1 A.f_keeps_bounds A.d_keeps_bounds ["f"] (spD K sp_keeps_bounds) := ok_keeps_bounds T
  refine fn_d T.F_curve_in sc_curve_in (fun ds m R RX h => by unfold sp_curve_in at h; first | (obtain ⟨ns, rfl, _⟩ := h; rfl) | (split at h <;> first | rfl | exact h.elim)) (fun cdv A' outer s H E hr hg => ⟨r_curve_in, PDSs.nox ((pdss_cons (pds_set 1 sc_curve_in.nd rfl (by first | exact Or.inl rfl | exact Or.inr rfl) (pd_split false (pd_v 0) pd_str))
(pdss_cons (pds_if (pdt_cmp (od_ne hr.units) (pd_callB cd_len (by rfl) T.z_len (by decide +kernel) (pda_cons (pd_v 1) pda_nil)) pd_int (nomark _))
(pdss_one (pds_ret pd_non))
pdss_nil)
(pdss_cons (pds_set 2 sc_curve_in.nd rfl (by first | exact Or.inl rfl | exact Or.inr rfl) (pd_tup pda_nil))
(pdss_cons (pds_if (pdt_cmp (od_ne hr.units) (pd_ix id_seq (pd_v 1) pd_int) pd_str (nomark _))
(pdss_one (pds_set 2 sc_curve_in.nd rfl (by first | exact Or.inl rfl | exact Or.inr rfl) (pd_call G_numbers_in (hr.mono (by decide)) hg (by rfl) T.g_numbers_in T.F_numbers_in.kp T.b_numbers_in (fun _ => passAt0) (pda_cons (pd_ix id_seq (pd_v 1) pd_int) pda_nil))))
pdss_nil)
(pdss_cons (pds_set 3 sc_curve_in.nd rfl (by first | exact Or.inl rfl | exact Or.inr rfl) (pd_call G_numbers_in (hr.mono (by decide)) hg (by rfl) T.g_numbers_in T.F_numbers_in.kp T.b_numbers_in (fun _ => passAt0) (pda_cons (pd_ix id_seq (pd_v 1) pd_int) pda_nil)))
(pdss_cons (pds_set 4 sc_curve_in.nd rfl (by first | exact Or.inl rfl | exact Or.inr rfl) (pd_call G_number_in (hr.mono (by decide)) hg (by rfl) T.g_number_in T.F_number_in.kp T.b_number_in (fun _ => passAt0) (pda_cons (pd_ix id_seq (pd_v 1) pd_int) pda_nil)))
(pdss_cons (pds_if (PDW.pt (pdw_or (pdt_cmp od_is (pd_v 2) pd_non (nomark _)) (pdw_or (pdt_cmp od_is (pd_v 3) pd_non (nomark _)) (pdw_or1 (pdt_cmp od_is (pd_v 4) pd_non (nomark _))))))
(pdss_one (pds_ret pd_non))
pdss_nil)
(pdss_cons (pds_set 5 sc_curve_in.nd rfl (by first | exact Or.inl rfl | exact Or.inr rfl) (pd_tup (pda_cons (pd_v 2) (pda_cons (pd_v 3) (pda_cons (pd_v 4) pda_nil)))))
(pdss_cons (pds_if (PDW.pt (pdw_or (pdt_not (pdt_val (pd_call G_is_curve (hr.mono (by decide)) hg (by rfl) T.g_is_curve T.F_is_curve.kp T.b_is_curve (fun _ => passAt0) (pda_cons (pd_v 5) pda_nil)))) (pdw_or1 (pdt_not (pdt_val (pd_call G_keeps_bounds (hr.mono (by decide)) hg (by rfl) T.g_keeps_bounds T.F_keeps_bounds.kp T.b_keeps_bounds (fun _ => passAt0) (pda_cons (pd_v 5) pda_nil)))))))
(pdss_one (pds_ret pd_non))
pdss_nil)
(pdss_one (pds_ret (pd_v 5))))))))))))), fun ds m R RX h => v_curve_in h⟩)
theorem ok_read_curve (T : Tx K mg A) : FnG P w K mg base CX0 5 A.f_read_curve A.d_read_curve ["text"] (spD K sp_read_curve) := by
  have G_curve_in : FnG P w K mg base CX0 4 A.f_curve_in A.d_curve_in ["text"] (spD K sp_curve_in) := ok_curve_in T
  refine fn_d T.F_read_curve sc_read_curve (fun ds m R RX h => by unfold sp_read_curve at h; first | (obtain ⟨ns, rfl, _⟩ := h; rfl) | (split at h <;> first | rfl | exact h.elim)) (fun cdv A' outer s H E hr hg => ⟨r_read_curve, PDSs.nox ((pdss_cons (pds_if (pdt_not (pdt_val (pd_isi .str (by rfl) T.z_isinstance (by decide +kernel) (pd_v 0) (by rfl) T.z_str (by decide +kernel))))
(pdss_one pds_never)
pdss_nil)
(pdss_cons (pds_set 1 sc_read_curve.nd rfl (by first | exact Or.inl rfl | exact Or.inr rfl) (pd_call G_curve_in (hr.mono (by decide)) hg (by rfl) T.g_curve_in T.F_curve_in.kp T.b_curve_in (fun _ => passAt0) (pda_cons (pd_v 0) pda_nil)))
(pdss_cons (pds_if (pdt_cmp od_is (pd_v 1) pd_non (nomark _))
(pdss_one pds_never)
pdss_nil)
(pdss_one (pds_ret (pd_v 1))))))), fun ds m R RX h => v_read_curve h⟩)
theorem ok_show_net (T : Tx K mg A) : FnG P w K mg base CX0 3 A.f_show_net A.d_show_net ["net"] (spD K sp_show_net) := by
  have G_show_curve : FnG P w K mg base CX0 2 A.f_show_curve A.d_show_curve ["f"] (spD K sp_show_curve) := ok_show_curve T
  refine fn_d T.F_show_net sc_show_net (fun ds m R RX h => by unfold sp_show_net at h; first | (obtain ⟨ns, rfl, _⟩ := h; rfl) | (split at h <;> first | rfl | exact h.elim)) (fun cdv A' outer s H E hr hg => ⟨r_show_net, PDSs.nox ((pdss_cons (pds_setLc 1 true [("name", 2), ("curve", 3)] true rfl sc_show_net.nd rfl rfl (sw_true rfl rfl rfl (by decide +kernel)) (pdi_seq (pd_ix id_seq (pd_v 0) pd_int)) (blkOk_by (own := [("name", 2), ("curve", 3)]) (N := ["net", "lines", "name", "curve", "route"]) (sc := defScope s_show_net) (by decide +kernel)) (fun z => by cases z) (fun _ _ _ _ _ => pg_tup rfl (pgs_cons (pg_name (i := 2) sc_show_net.nd rfl (Or.inl rfl)) (pgs_cons (pg_name (i := 3) sc_show_net.nd rfl (Or.inl rfl)) pgs_nil))) (fun _ _ _ _ _ => pdts_nil) (fun _ _ _ _ _ => (pd_joined (PDJ.cons pd_str (PDJ.cons (pd_fmt (pd_v 2)) (PDJ.cons pd_str (PDJ.cons (pd_fmt (pd_call G_show_curve (hr.mono (by decide)) hg (by rfl) T.g_show_curve T.F_show_curve.kp T.b_show_curve (fun _ => passAt0) (pda_cons (pd_v 3) pda_nil))) PDJ.nil)))))))
(pdss_cons (pds_for PassesOwn.never rfl (pdi_seq (pd_ix id_seq (pd_v 0) pd_int)) (pdg_tup rfl (pdgs_cons (pdg_name 2 sc_show_net.nd rfl (by first | exact Or.inl rfl | exact Or.inr rfl)) (pdgs_cons (pdg_name 3 sc_show_net.nd rfl (by first | exact Or.inl rfl | exact Or.inr rfl)) (pdgs_cons (pdg_name 4 sc_show_net.nd rfl (by first | exact Or.inl rfl | exact Or.inr rfl)) pdgs_nil))))
(pdss_one (pds_expr (pd_lm PySem.F.plainAttrs_list PySem.F.slot_list_append PySem.F.type_list_append md_append (pd_v 1) (pda_cons (pd_join pd_str (pd_op (od_add false) (pd_op (od_add false) (pd_lst false (pda_cons pd_str (pda_cons (pd_v 2) (pda_cons pd_str pda_nil)))) (pd_callT (cd_list false) (by rfl) T.z_list (by decide +kernel) (pda_cons (pd_v 4) pda_nil))) (pd_lst false (pda_cons pd_str (pda_cons (pd_call G_show_curve (hr.mono (by decide)) hg (by rfl) T.g_show_curve T.F_show_curve.kp T.b_show_curve (fun _ => passAt0) (pda_cons (pd_v 3) pda_nil)) pda_nil))))) pda_nil)))))
(pdss_one (pds_frz 1 (pds_ret (pd_join pd_str (pd_v 1)))))))), fun ds m R RX h => v_show_net h⟩)
theorem ok_server_in (T : Tx K mg A) : FnG P w K mg base CX0 5 A.f_server_in A.d_server_in ["words", "servers"] (spD K sp_server_in) := by
  have G_curve_in : FnG P w K mg base CX0 4 A.f_curve_in A.d_curve_in ["text"] (spD K sp_curve_in) := ok_curve_in T
  have G_is_name : FnG P w K mg base CX0 1 A.f_is_name A.d_is_name ["thing"] (spD K sp_is_name) := ok_is_name T
  refine fn_d T.F_server_in sc_server_in (fun ds m R RX h => by unfold sp_server_in at h; first | (obtain ⟨ns, rfl, _⟩ := h; rfl) | (split at h <;> first | rfl | exact h.elim)) (fun cdv A' outer s H E hr hg => ⟨r_server_in, PDSs.nox ((pdss_cons (pds_if (PDW.pt (pdw_or (pdt_cmp od_lt (pd_callB cd_len (by rfl) T.z_len (by decide +kernel) (pda_cons (pd_v 0) pda_nil)) pd_int (nomark _)) (pdw_or (pdt_not (pdt_val (pd_call G_is_name (hr.mono (by decide)) hg (by rfl) T.g_is_name T.F_is_name.kp T.b_is_name (fun _ => passAt0) (pda_cons (pd_ix id_seq (pd_v 0) pd_int) pda_nil)))) (pdw_or1 (pdt_cmp od_in (pd_ix id_seq (pd_v 0) pd_int) (pd_lc false [("name", 2), ("curve", 3)] true rfl sc_server_in.nd (pdi_seq (pd_v 1)) (blkOk_by (own := [("name", 2), ("curve", 3)]) (N := ["words", "servers", "name", "curve"]) (sc := defScope s_server_in) (by decide +kernel)) (fun z => by cases z) (fun _ _ _ _ _ => pg_tup rfl (pgs_cons (pg_name (i := 2) sc_server_in.nd rfl (Or.inl rfl)) (pgs_cons (pg_name (i := 3) sc_server_in.nd rfl (Or.inl rfl)) pgs_nil))) (fun _ _ _ _ _ => pdts_nil) (fun _ _ _ _ _ => (pd_v 2))) (by rfl))))))
(pdss_one (pds_ret pd_non))
pdss_nil)
(pdss_cons (pds_set 3 sc_server_in.nd rfl (by first | exact Or.inl rfl | exact Or.inr rfl) (pd_call G_curve_in (hr.mono (by decide)) hg (by rfl) T.g_curve_in T.F_curve_in.kp T.b_curve_in (fun _ => passAt0) (pda_cons (pd_join pd_str (pd_sl false (pd_v 0) (pdo_some pd_int) pdo_none)) pda_nil)))
(pdss_cons (pds_if (pdt_cmp od_is (pd_v 3) pd_non (nomark _))
(pdss_one (pds_ret pd_non))
pdss_nil)
(pdss_one (pds_ret (pd_tup (pda_cons (pd_ix id_seq (pd_v 0) pd_int) (pda_cons (pd_v 3) pda_nil))))))))), fun ds m R RX h => v_server_in h⟩)
theorem ok_stream_in (T : Tx K mg A) : FnG P w K mg base CX0 5 A.f_stream_in A.d_stream_in ["words", "servers", "streams"] (spD K sp_stream_in) := by
  have G_curve_in : FnG P w K mg base CX0 4 A.f_curve_in A.d_curve_in ["text"] (spD K sp_curve_in) := ok_curve_in T
  have G_is_name : FnG P w K mg base CX0 1 A.f_is_name A.d_is_name ["thing"] (spD K sp_is_name) := ok_is_name T
  have G_is_route : FnG P w K mg base CX0 2 A.f_is_route A.d_is_route ["names", "thing"] (spD K sp_is_route) := ok_is_route T
  refine fn_d T.F_stream_in sc_stream_in (fun ds m R RX h => by unfold sp_stream_in at h; first | (obtain ⟨ns, rfl, _⟩ := h; rfl) | (split at h <;> first | rfl | exact h.elim)) (fun cdv A' outer s H E hr hg => ⟨r_stream_in, PDSs.nox ((pdss_cons (pds_if (PDW.pt (pdw_or (pdt_cmp od_lt (pd_callB cd_len (by rfl) T.z_len (by decide +kernel) (pda_cons (pd_v 0) pda_nil)) pd_int (nomark _)) (pdw_or (pdt_cmp (od_ne hr.units) (pd_ix id_seq (pd_v 0) pd_int) pd_str (nomark _)) (pdw_or1 (pdt_cmp od_nin pd_str (pd_v 0) (by rfl))))))
(pdss_one (pds_ret pd_non))
pdss_nil)
(pdss_cons (pds_set 3 sc_stream_in.nd rfl (by first | exact Or.inl rfl | exact Or.inr rfl) (pd_lf PySem.F.plainAttrs_list PySem.F.slot_list_index PySem.F.type_list_index (mf_index (room_big hr)) (pd_v 0) (pda_cons pd_str pda_nil)))
(pdss_cons (pds_set 4 sc_stream_in.nd rfl (by first | exact Or.inl rfl | exact Or.inr rfl) (pd_callT cd_tuple (by rfl) T.z_tuple (by decide +kernel) (pda_cons (pd_sl false (pd_v 0) (pdo_some pd_int) (pdo_some (pd_v 3))) pda_nil)))
(pdss_cons (pds_if (PDW.pt (pdw_or (pdt_not (pdt_val (pd_call G_is_name (hr.mono (by decide)) hg (by rfl) T.g_is_name T.F_is_name.kp T.b_is_name (fun _ => passAt0) (pda_cons (pd_ix id_seq (pd_v 0) pd_int) pda_nil)))) (pdw_or1 (pdt_cmp od_in (pd_ix id_seq (pd_v 0) pd_int) (pd_lc false [("one", 5)] false rfl sc_stream_in.nd (pdi_seq (pd_v 2)) (blkOk_by (own := [("one", 5)]) (N := ["words", "servers", "streams", "at", "route", "one", "curve", "name"]) (sc := defScope s_stream_in) (by decide +kernel)) (fun _ => rfl) (fun _ _ _ _ _ => (pg_name (i := 5) sc_stream_in.nd rfl (Or.inl rfl))) (fun _ _ _ _ _ => pdts_nil) (fun _ _ _ _ _ => (pd_ix id_seq (pd_v 5) pd_int))) (by rfl)))))
(pdss_one (pds_ret pd_non))
pdss_nil)
(pdss_cons (pds_set 6 sc_stream_in.nd rfl (by first | exact Or.inl rfl | exact Or.inr rfl) (pd_call G_curve_in (hr.mono (by decide)) hg (by rfl) T.g_curve_in T.F_curve_in.kp T.b_curve_in (fun _ => passAt0) (pda_cons (pd_join pd_str (pd_sl false (pd_v 0) (pdo_some (pd_op (od_add false) (pd_v 3) pd_int)) pdo_none)) pda_nil)))
(pdss_cons (pds_if (PDW.pt (pdw_or (pdt_cmp od_is (pd_v 6) pd_non (nomark _)) (pdw_or1 (pdt_not (pdt_val (pd_call G_is_route (hr.mono (by decide)) hg (by rfl) T.g_is_route T.F_is_route.kp T.b_is_route (fun _ => passAt0) (pda_cons (pd_lc false [("name", 7), ("curve", 6)] true rfl sc_stream_in.nd (pdi_seq (pd_v 1)) (blkOk_by (own := [("name", 7), ("curve", 6)]) (N := ["words", "servers", "streams", "at", "route", "one", "curve", "name"]) (sc := defScope s_stream_in) (by decide +kernel)) (fun z => by cases z) (fun _ _ _ _ _ => pg_tup rfl (pgs_cons (pg_name (i := 7) sc_stream_in.nd rfl (Or.inl rfl)) (pgs_cons (pg_name (i := 6) sc_stream_in.nd rfl (Or.inl rfl)) pgs_nil))) (fun _ _ _ _ _ => pdts_nil) (fun _ _ _ _ _ => (pd_v 7))) (pda_cons (pd_v 4) pda_nil))))))))
(pdss_one (pds_ret pd_non))
pdss_nil)
(pdss_one (pds_ret (pd_tup (pda_cons (pd_ix id_seq (pd_v 0) pd_int) (pda_cons (pd_v 6) (pda_cons (pd_v 4) pda_nil))))))))))))), fun ds m R RX h => v_stream_in h⟩)
theorem ok_part_in (T : Tx K mg A) : FnG P w K mg base CX0 6 A.f_part_in A.d_part_in ["line", "servers", "streams"] (spD K sp_part_in) := by
  have G_server_in : FnG P w K mg base CX0 5 A.f_server_in A.d_server_in ["words", "servers"] (spD K sp_server_in) := ok_server_in T
  have G_stream_in : FnG P w K mg base CX0 5 A.f_stream_in A.d_stream_in ["words", "servers", "streams"] (spD K sp_stream_in) := ok_stream_in T
  refine fn_d T.F_part_in sc_part_in (fun ds m R RX h => by unfold sp_part_in at h; first | (obtain ⟨ns, rfl, _⟩ := h; rfl) | (split at h <;> first | rfl | exact h.elim)) (fun cdv A' outer s H E hr hg => ⟨r_part_in, PDSs.nox ((pdss_cons (pds_set 3 sc_part_in.nd rfl (by first | exact Or.inl rfl | exact Or.inr rfl) (pd_split false (pd_v 0) pd_str))
(pdss_cons (pds_if (PDW.pt (pdw_and (pdt_cmp (od_eq hr.units) (pd_ix id_seq (pd_v 3) pd_int) pd_str (nomark _)) (pdw_and (pdt_cmp (od_eq hr.units) (pd_v 2) (pd_lst false pda_nil) (nomark _)) (pdw_and1 (pdt_cmp od_lt (pd_callB cd_len (by rfl) T.z_len (by decide +kernel) (pda_cons (pd_v 1) pda_nil)) (pd_gint (by rfl) T.k_MOST_PARTS) (nomark _))))))
(pdss_one (pds_ret (pd_call G_server_in (hr.mono (by decide)) hg (by rfl) T.g_server_in T.F_server_in.kp T.b_server_in (fun _ => passAt0) (pda_cons (pd_v 3) (pda_cons (pd_v 1) pda_nil)))))
pdss_nil)
(pdss_cons (pds_if (PDW.pt (pdw_and (pdt_cmp (od_eq hr.units) (pd_ix id_seq (pd_v 3) pd_int) pd_str (nomark _)) (pdw_and (pdt_cmp (od_ne hr.units) (pd_v 1) (pd_lst false pda_nil) (nomark _)) (pdw_and1 (pdt_cmp od_lt (pd_callB cd_len (by rfl) T.z_len (by decide +kernel) (pda_cons (pd_v 2) pda_nil)) (pd_gint (by rfl) T.k_MOST_PARTS) (nomark _))))))
(pdss_one (pds_ret (pd_call G_stream_in (hr.mono (by decide)) hg (by rfl) T.g_stream_in T.F_stream_in.kp T.b_stream_in (fun _ => passAt0) (pda_cons (pd_v 3) (pda_cons (pd_v 1) (pda_cons (pd_v 2) pda_nil))))))
pdss_nil)
(pdss_one (pds_ret pd_non)))))), fun ds m R RX h => v_part_in h⟩)
theorem ok_read_net (T : Tx K mg A) : FnG P w K mg base CX0 7 A.f_read_net A.d_read_net ["text"] (spD K sp_read_net) := by
  have G_part_in : FnG P w K mg base CX0 6 A.f_part_in A.d_part_in ["line", "servers", "streams"] (spD K sp_part_in) := ok_part_in T
  refine fn_d T.F_read_net sc_read_net (fun ds m R RX h => by unfold sp_read_net at h; first | (obtain ⟨ns, rfl, _⟩ := h; rfl) | (split at h <;> first | rfl | exact h.elim)) (fun cdv A' outer s H E hr hg => ⟨r_read_net, PDSs.nox ((pdss_cons (pds_if (pdt_not (pdt_val (pd_isi .str (by rfl) T.z_isinstance (by decide +kernel) (pd_v 0) (by rfl) T.z_str (by decide +kernel))))
(pdss_one pds_never)
pdss_nil)
(pdss_cons (pds_set 1 sc_read_net.nd rfl (by first | exact Or.inl rfl | exact Or.inr rfl) (pd_lst true pda_nil))
(pdss_cons (pds_set 2 sc_read_net.nd rfl (by first | exact Or.inl rfl | exact Or.inr rfl) (pd_lst true pda_nil))
(pdss_cons (pds_set 3 sc_read_net.nd rfl (by first | exact Or.inl rfl | exact Or.inr rfl) (pd_split false (pd_v 0) pd_str))
(pdss_cons (pds_for PassesOwn.never rfl (pdi_enumerate (by rfl) T.z_enumerate (pda_cons (pd_v 3) pda_nil)) (pdg_tup rfl (pdgs_cons (pdg_name 4 sc_read_net.nd rfl (by first | exact Or.inl rfl | exact Or.inr rfl)) (pdgs_cons (pdg_name 5 sc_read_net.nd rfl (by first | exact Or.inl rfl | exact Or.inr rfl)) pdgs_nil)))
(pdss_cons (pds_set 6 sc_read_net.nd rfl (by first | exact Or.inl rfl | exact Or.inr rfl) (pd_call G_part_in (hr.mono (by decide)) hg (by rfl) T.g_part_in T.F_part_in.kp T.b_part_in (fun _ => passAt0) (pda_cons (pd_v 5) (pda_cons (pd_v 1) (pda_cons (pd_v 2) pda_nil)))))
(pdss_cons (pds_if (pdt_cmp od_is (pd_v 6) pd_non (nomark _))
(pdss_one pds_never)
pdss_nil)
(pdss_one (pds_if (pdt_cmp (od_eq hr.units) (pd_callB cd_len (by rfl) T.z_len (by decide +kernel) (pda_cons (pd_v 6) pda_nil)) pd_int (nomark _))
(pdss_one (pds_expr (pd_lm PySem.F.plainAttrs_list PySem.F.slot_list_append PySem.F.type_list_append md_append (pd_v 1) (pda_cons (pd_v 6) pda_nil))))
(pdss_one (pds_expr (pd_lm PySem.F.plainAttrs_list PySem.F.slot_list_append PySem.F.type_list_append md_append (pd_v 2) (pda_cons (pd_v 6) pda_nil)))))))))
(pdss_cons (pds_if (pdt_cmp (od_eq hr.units) (pd_v 2) (pd_lst false pda_nil) (nomark _))
(pdss_one pds_never)
pdss_nil)
(pdss_one (pds_frz 1 (pds_frz 2 (pds_ret (pd_tup (pda_cons (pd_callT cd_tuple (by rfl) T.z_tuple (by decide +kernel) (pda_cons (pd_v 1) pda_nil)) (pda_cons (pd_callT cd_tuple (by rfl) T.z_tuple (by decide +kernel) (pda_cons (pd_v 2) pda_nil)) pda_nil)))))))))))))), fun ds m R RX h => v_read_net h⟩)
theorem ok_common_measure (T : Tx K mg A) : FnG P w K mg base CX0 1 A.f_common_measure A.d_common_measure ["a", "b"] (spD K sp_common_measure) := by
  refine fn_d T.F_common_measure sc_common_measure (fun ds m R RX h => by unfold sp_common_measure at h; first | (obtain ⟨ns, rfl, _⟩ := h; rfl) | (split at h <;> first | rfl | exact h.elim)) (fun cdv A' outer s H E hr hg => ⟨r_common_measure, PDSs.nox ((pdss_cons (pds_while PassesOwn.never (pdt_cmp od_gt (pd_v 1) pd_int (nomark _))
(pdss_one (pds_par sc_common_measure.nd rfl rfl (by decide) rfl rfl (pda_cons (pd_v 1) (pda_cons (pd_op od_mod (pd_v 0) (pd_v 1)) pda_nil)) (by rfl))))
(pdss_one (pds_ret (pd_v 0))))), fun ds m R RX h => v_common_measure h⟩)
theorem ok_goes_on_by (T : Tx K mg A) : FnG P w K mg base CX0 1 A.f_goes_on_by A.d_goes_on_by ["again", "rise", "round_here"] (spD K sp_goes_on_by) := by
  refine fn_d T.F_goes_on_by sc_goes_on_by (fun ds m R RX h => by unfold sp_goes_on_by at h; first | (obtain ⟨ns, rfl, _⟩ := h; rfl) | (split at h <;> first | rfl | exact h.elim)) (fun cdv A' outer s H E hr hg => ⟨r_goes_on_by, PDSs.nox ((pdss_cons (pds_set 3 sc_goes_on_by.nd rfl (by first | exact Or.inl rfl | exact Or.inr rfl) (pd_callB cd_len (by rfl) T.z_len (by decide +kernel) (pda_cons (pd_v 0) pda_nil)))
(pdss_cons (pds_if (pdt_cmp (od_ne hr.units) (pd_op od_mod (pd_op (od_mul false) (pd_v 1) (pd_v 2)) (pd_v 3)) pd_int (nomark _))
(pdss_one (pds_ret pd_bl))
pdss_nil)
(pdss_cons (pds_set 4 sc_goes_on_by.nd rfl (by first | exact Or.inl rfl | exact Or.inr rfl) (pd_op od_div (pd_op (od_mul false) (pd_v 1) (pd_v 2)) (pd_v 3)))
(pdss_one (pds_ret (pd_callB (cd_all rfl) (by rfl) T.z_all (by decide +kernel) (pda_cons (pd_lc false [("k", 5)] false rfl sc_goes_on_by.nd (pdi_range2 (by rfl) T.z_range (pd_v 2) (pd_v 3)) (blkOk_by (own := [("k", 5)]) (N := ["again", "rise", "round_here", "long", "step", "k"]) (sc := defScope s_goes_on_by) (by decide +kernel)) (fun _ => rfl) (fun _ _ _ _ _ => (pg_name (i := 5) sc_goes_on_by.nd rfl (Or.inl rfl))) (fun _ _ _ _ _ => pdts_nil) (fun _ _ _ _ _ => (pd_cmp (od_eq hr.units) (pd_ix id_seq (pd_v 0) (pd_v 5)) (pd_op (od_add false) (pd_ix id_seq (pd_v 0) (pd_op od_sub (pd_v 5) (pd_v 2))) (pd_v 4)) (nomark _)))) pda_nil)))))))), fun ds m R RX h => v_goes_on_by h⟩)
theorem ok_shortest_round (T : Tx K mg A) : FnG P w K mg base CX0 2 A.f_shortest_round A.d_shortest_round ["again", "rise"] (spD K sp_shortest_round) := by
  have G_goes_on_by : FnG P w K mg base CX0 1 A.f_goes_on_by A.d_goes_on_by ["again", "rise", "round_here"] (spD K sp_goes_on_by) := ok_goes_on_by T
  refine fn_d T.F_shortest_round sc_shortest_round (fun ds m R RX h => by unfold sp_shortest_round at h; first | (obtain ⟨ns, rfl, _⟩ := h; rfl) | (split at h <;> first | rfl | exact h.elim)) (fun cdv A' outer s H E hr hg => ⟨r_shortest_round, PDSs.nox ((pdss_cons (pds_set 2 sc_shortest_round.nd rfl (by first | exact Or.inl rfl | exact Or.inr rfl) (pd_callB cd_len (by rfl) T.z_len (by decide +kernel) (pda_cons (pd_v 0) pda_nil)))
(pdss_cons (pds_for PassesOwn.never rfl (pdi_range2 (by rfl) T.z_range pd_int (pd_v 2)) (pdg_name 3 sc_shortest_round.nd rfl (by first | exact Or.inl rfl | exact Or.inr rfl))
(pdss_one (pds_if (PDW.pt (pdw_and (pdt_cmp (od_eq hr.units) (pd_op od_mod (pd_v 2) (pd_v 3)) pd_int (nomark _)) (pdw_and1 (pdt_val (pd_call G_goes_on_by (hr.mono (by decide)) hg (by rfl) T.g_goes_on_by T.F_goes_on_by.kp T.b_goes_on_by (fun _ => passAt0) (pda_cons (pd_v 0) (pda_cons (pd_v 1) (pda_cons (pd_v 3) pda_nil))))))))
(pdss_one (pds_ret (pd_tup (pda_cons (pd_sl false (pd_v 0) pdo_none (pdo_some (pd_v 3))) (pda_cons (pd_op od_div (pd_op (od_mul false) (pd_v 1) (pd_v 3)) (pd_v 2)) pda_nil)))))
pdss_nil)))
(pdss_one (pds_ret (pd_tup (pda_cons (pd_v 0) (pda_cons (pd_v 1) pda_nil)))))))), fun ds m R RX h => v_shortest_round h⟩)
theorem ok_reduced (T : Tx K mg A) : FnG P w K mg base CX0 3 A.f_reduced A.d_reduced ["first", "again", "rise"] (spD K sp_reduced) := by
  have G_shortest_round : FnG P w K mg base CX0 2 A.f_shortest_round A.d_shortest_round ["again", "rise"] (spD K sp_shortest_round) := ok_shortest_round T
  refine fn_d T.F_reduced sc_reduced (fun ds m R RX h => by unfold sp_reduced at h; first | (obtain ⟨ns, rfl, _⟩ := h; rfl) | (split at h <;> first | rfl | exact h.elim)) (fun cdv A' outer s H E hr hg => ⟨r_reduced, PDSs.nox ((pdss_cons (pds_asg (pdg_tup rfl (pdgs_cons (pdg_name 1 sc_reduced.nd rfl (by first | exact Or.inl rfl | exact Or.inr rfl)) (pdgs_cons (pdg_name 2 sc_reduced.nd rfl (by first | exact Or.inl rfl | exact Or.inr rfl)) pdgs_nil))) (pd_call G_shortest_round (hr.mono (by decide)) hg (by rfl) T.g_shortest_round T.F_shortest_round.kp T.b_shortest_round (fun _ => passAt0) (pda_cons (pd_v 1) (pda_cons (pd_v 2) pda_nil))))
(pdss_cons (pds_set 3 sc_reduced.nd rfl (by first | exact Or.inl rfl | exact Or.inr rfl) (pd_callB cd_len (by rfl) T.z_len (by decide +kernel) (pda_cons (pd_v 0) pda_nil)))
(pdss_cons (pds_set 4 sc_reduced.nd rfl (by first | exact Or.inl rfl | exact Or.inr rfl) pd_int)
(pdss_cons (pds_set 5 sc_reduced.nd rfl (by first | exact Or.inl rfl | exact Or.inr rfl) (pd_callB cd_len (by rfl) T.z_len (by decide +kernel) (pda_cons (pd_v 1) pda_nil)))
(pdss_cons (pds_while PassesOwn.never (PDW.pt (pdw_and (pdt_cmp od_gt (pd_v 3) pd_int (nomark _)) (pdw_and1 (pdt_cmp (od_eq hr.units) (pd_op (od_add false) (pd_ix id_seq (pd_v 0) (pd_op od_sub (pd_v 3) pd_int)) (pd_v 2)) (pd_op od_sub (pd_ix id_seq (pd_v 1) (pd_op od_mod (pd_op od_sub (pd_op od_sub (pd_v 5) pd_int) (pd_v 4)) (pd_v 5))) (pd_op (od_mul false) (pd_v 2) (pd_op od_div (pd_v 4) (pd_v 5)))) (nomark _)))))
(pdss_cons (pds_set 3 sc_reduced.nd rfl (by first | exact Or.inl rfl | exact Or.inr rfl) (pd_op od_sub (pd_v 3) pd_int))
(pdss_one (pds_set 4 sc_reduced.nd rfl (by first | exact Or.inl rfl | exact Or.inr rfl) (pd_op (od_add false) (pd_v 4) pd_int)))))
(pdss_cons (pds_setLc 6 false [("k", 7)] false rfl sc_reduced.nd rfl rfl (sw_true rfl rfl rfl (by decide +kernel)) (pdi_range1 (by rfl) T.z_range (pd_v 5)) (blkOk_by (own := [("k", 7)]) (N := ["first", "again", "rise", "at", "back", "round_here", "turned", "k"]) (sc := defScope s_reduced) (by decide +kernel)) (fun _ => rfl) (fun _ _ _ _ _ => (pg_name (i := 7) sc_reduced.nd rfl (Or.inl rfl))) (fun _ _ _ _ _ => pdts_nil) (fun _ _ _ _ _ => (pd_op (od_add false) (pd_ix id_seq (pd_v 1) (pd_op od_mod (pd_op od_sub (pd_v 7) (pd_v 4)) (pd_v 5))) (pd_op (od_mul false) (pd_v 2) (pd_op od_div (pd_op od_sub (pd_v 7) (pd_v 4)) (pd_v 5))))))
(pdss_one (pds_ret (pd_tup (pda_cons (pd_callT cd_tuple (by rfl) T.z_tuple (by decide +kernel) (pda_cons (pd_sl false (pd_v 0) pdo_none (pdo_some (pd_v 3))) pda_nil)) (pda_cons (pd_callT cd_tuple (by rfl) T.z_tuple (by decide +kernel) (pda_cons (pd_v 6) pda_nil)) (pda_cons (pd_v 2) pda_nil))))))))))))), fun ds m R RX h => v_reduced h⟩)
theorem ok_told (T : Tx K mg A) : FnG P w K mg base (L2.CX P w) 4 A.f_told A.d_told ["numbers", "at", "round_here", "rise"] (spD K (sp_told A.c_TooLong)) := by
  have G_reduced : FnG P w K mg base CX0 3 A.f_reduced A.d_reduced ["first", "again", "rise"] (spD K sp_reduced) := ok_reduced T
  refine fn_d T.F_told sc_told (fun ds m R RX h => by unfold sp_told at h; first | (obtain ⟨ns, rfl, _⟩ := h; rfl) | (split at h <;> first | rfl | exact h.elim)) (fun cdv A' outer s H E hr hg => ⟨r_told A.c_TooLong, ((pdss_cons (pds_set 4 sc_told.nd rfl (by first | exact Or.inl rfl | exact Or.inr rfl) (pd_call G_reduced (hr.mono (by decide)) hg (by rfl) T.g_reduced T.F_reduced.kp T.b_reduced (fun _ => passAt0) (pda_cons (pd_callT cd_tuple (by rfl) T.z_tuple (by decide +kernel) (pda_cons (pd_sl false (pd_v 0) pdo_none (pdo_some (pd_v 1))) pda_nil)) (pda_cons (pd_callT cd_tuple (by rfl) T.z_tuple (by decide +kernel) (pda_cons (pd_sl false (pd_v 0) (pdo_some (pd_v 1)) (pdo_some (pd_op (od_add false) (pd_v 1) (pd_v 2)))) pda_nil)) (pda_cons (pd_v 3) pda_nil)))))
(pdss_cons (pds_if (pdt_cmp od_gt (pd_op (od_add false) (pd_callB cd_len (by rfl) T.z_len (by decide +kernel) (pda_cons (pd_ix id_seq (pd_v 4) pd_int) pda_nil)) (pd_callB cd_len (by rfl) T.z_len (by decide +kernel) (pda_cons (pd_ix id_seq (pd_v 4) pd_int) pda_nil))) (pd_gint (by rfl) T.k_MOST_NUMBERS) (nomark _))
(pdss_one (pds_raise rfl (takes_of rfl rfl rfl rfl) (pmk_own PySem.F.excBase_ValueError T.x_TooLong T.g_TooLong T.kp_TooLong (raises_own T.be_TooLong T.ty_TooLong) (by rfl))))
pdss_nil)
(pdss_one (pds_ret (pd_v 4)))))), fun ds m R RX h => v_told h⟩)
theorem ok_plain (T : Tx K mg A) : FnG P w K mg base (L2.CX P w) 5 A.f_plain A.d_plain ["f"] (spD K (sp_plain A.c_TooLong)) := by
  have G_told : FnG P w K mg base (L2.CX P w) 4 A.f_told A.d_told ["numbers", "at", "round_here", "rise"] (spD K (sp_told A.c_TooLong)) := ok_told T
  refine fn_d T.F_plain sc_plain (fun ds m R RX h => by unfold sp_plain at h; first | (obtain ⟨ns, rfl, _⟩ := h; rfl) | (split at h <;> first | rfl | exact h.elim)) (fun cdv A' outer s H E hr hg => ⟨r_plain A.c_TooLong, ((pdss_one (pds_ret (pd_callX G_told (hr.mono (by decide)) hg (by rfl) T.g_told T.F_told.kp T.b_told (fun _ => passAt (takes_of rfl rfl rfl rfl) _) (pda_cons (pd_op (od_add false) (pd_ix id_seq (pd_v 0) pd_int) (pd_ix id_seq (pd_v 0) pd_int)) (pda_cons (pd_callB cd_len (by rfl) T.z_len (by decide +kernel) (pda_cons (pd_ix id_seq (pd_v 0) pd_int) pda_nil)) (pda_cons (pd_callB cd_len (by rfl) T.z_len (by decide +kernel) (pda_cons (pd_ix id_seq (pd_v 0) pd_int) pda_nil)) (pda_cons (pd_ix id_seq (pd_v 0) pd_int) pda_nil)))))))), fun ds m R RX h => v_plain h⟩)
theorem ok_common_round (T : Tx K mg A) : FnG P w K mg base (L2.CX P w) 6 A.f_common_round A.d_common_round ["f", "g"] (spD K (sp_common_round A.c_TooLong)) := by
  have G_common_measure : FnG P w K mg base CX0 1 A.f_common_measure A.d_common_measure ["a", "b"] (spD K sp_common_measure) := ok_common_measure T
  have G_plain : FnG P w K mg base (L2.CX P w) 5 A.f_plain A.d_plain ["f"] (spD K (sp_plain A.c_TooLong)) := ok_plain T
  refine fn_d T.F_common_round sc_common_round (fun ds m R RX h => by unfold sp_common_round at h; first | (obtain ⟨ns, rfl, _⟩ := h; rfl) | (split at h <;> first | rfl | exact h.elim)) (fun cdv A' outer s H E hr hg => ⟨r_common_round A.c_TooLong, ((pdss_cons (pds_set 2 sc_common_round.nd rfl (by first | exact Or.inl rfl | exact Or.inr rfl) (pd_callB cd_len (by rfl) T.z_len (by decide +kernel) (pda_cons (pd_ix id_seq (pd_callX G_plain (hr.mono (by decide)) hg (by rfl) T.g_plain T.F_plain.kp T.b_plain (fun _ => passAt (takes_of rfl rfl rfl rfl) _) (pda_cons (pd_v 0) pda_nil)) pd_int) pda_nil)))
(pdss_cons (pds_set 3 sc_common_round.nd rfl (by first | exact Or.inl rfl | exact Or.inr rfl) (pd_callB cd_len (by rfl) T.z_len (by decide +kernel) (pda_cons (pd_ix id_seq (pd_callX G_plain (hr.mono (by decide)) hg (by rfl) T.g_plain T.F_plain.kp T.b_plain (fun _ => passAt (takes_of rfl rfl rfl rfl) _) (pda_cons (pd_v 1) pda_nil)) pd_int) pda_nil)))
(pdss_cons (pds_set 4 sc_common_round.nd rfl (by first | exact Or.inl rfl | exact Or.inr rfl) (pd_op od_div (pd_op (od_mul false) (pd_v 2) (pd_v 3)) (pd_call G_common_measure (hr.mono (by decide)) hg (by rfl) T.g_common_measure T.F_common_measure.kp T.b_common_measure (fun _ => passAt0) (pda_cons (pd_v 2) (pda_cons (pd_v 3) pda_nil)))))
(pdss_cons (pds_if (pdt_cmp od_gt (pd_v 4) (pd_gint (by rfl) T.k_MOST_ROUND) (nomark _))
(pdss_one (pds_raise rfl (takes_of rfl rfl rfl rfl) (pmk_own PySem.F.excBase_ValueError T.x_TooLong T.g_TooLong T.kp_TooLong (raises_own T.be_TooLong T.ty_TooLong) (by rfl))))
pdss_nil)
(pdss_one (pds_ret (pd_v 4)))))))), fun ds m R RX h => v_common_round h⟩)
theorem ok_both_firsts (T : Tx K mg A) : FnG P w K mg base (L2.CX P w) 6 A.f_both_firsts A.d_both_firsts ["f", "g"] (spD K (sp_both_firsts A.c_TooLong)) := by
  have G_plain : FnG P w K mg base (L2.CX P w) 5 A.f_plain A.d_plain ["f"] (spD K (sp_plain A.c_TooLong)) := ok_plain T
  refine fn_d T.F_both_firsts sc_both_firsts (fun ds m R RX h => by unfold sp_both_firsts at h; first | (obtain ⟨ns, rfl, _⟩ := h; rfl) | (split at h <;> first | rfl | exact h.elim)) (fun cdv A' outer s H E hr hg => ⟨r_both_firsts A.c_TooLong, ((pdss_one (pds_ret (pd_callB (cd_max rfl) (by rfl) T.z_max (by decide +kernel) (pda_cons (pd_callB cd_len (by rfl) T.z_len (by decide +kernel) (pda_cons (pd_ix id_seq (pd_callX G_plain (hr.mono (by decide)) hg (by rfl) T.g_plain T.F_plain.kp T.b_plain (fun _ => passAt (takes_of rfl rfl rfl rfl) _) (pda_cons (pd_v 0) pda_nil)) pd_int) pda_nil)) (pda_cons (pd_callB cd_len (by rfl) T.z_len (by decide +kernel) (pda_cons (pd_ix id_seq (pd_callX G_plain (hr.mono (by decide)) hg (by rfl) T.g_plain T.F_plain.kp T.b_plain (fun _ => passAt (takes_of rfl rfl rfl rfl) _) (pda_cons (pd_v 1) pda_nil)) pd_int) pda_nil)) pda_nil)))))), fun ds m R RX h => v_both_firsts h⟩)
theorem ok_plus (T : Tx K mg A) : FnG P w K mg base (L2.CX P w) 7 A.f_plus A.d_plus ["f", "g"] (spD K (sp_plus A.c_TooLong)) := by
  have G_common_round : FnG P w K mg base (L2.CX P w) 6 A.f_common_round A.d_common_round ["f", "g"] (spD K (sp_common_round A.c_TooLong)) := ok_common_round T
  have G_both_firsts : FnG P w K mg base (L2.CX P w) 6 A.f_both_firsts A.d_both_firsts ["f", "g"] (spD K (sp_both_firsts A.c_TooLong)) := ok_both_firsts T
  have G_told : FnG P w K mg base (L2.CX P w) 4 A.f_told A.d_told ["numbers", "at", "round_here", "rise"] (spD K (sp_told A.c_TooLong)) := ok_told T
  have G_value : FnG P w K mg base CX0 1 A.f_value A.d_value ["f", "t"] (spD K sp_value) := ok_value T
  have G_up_in : FnG P w K mg base CX0 1 A.f_up_in A.d_up_in ["f", "turns"] (spD K sp_up_in) := ok_up_in T
  have G_plain : FnG P w K mg base (L2.CX P w) 5 A.f_plain A.d_plain ["f"] (spD K (sp_plain A.c_TooLong)) := ok_plain T
  refine fn_d T.F_plus sc_plus (fun ds m R RX h => by unfold sp_plus at h; first | (obtain ⟨ns, rfl, _⟩ := h; rfl) | (split at h <;> first | rfl | exact h.elim)) (fun cdv A' outer s H E hr hg => ⟨r_plus A.c_TooLong, ((pdss_cons (pds_set 2 sc_plus.nd rfl (by first | exact Or.inl rfl | exact Or.inr rfl) (pd_callX G_common_round (hr.mono (by decide)) hg (by rfl) T.g_common_round T.F_common_round.kp T.b_common_round (fun _ => passAt (takes_of rfl rfl rfl rfl) _) (pda_cons (pd_v 0) (pda_cons (pd_v 1) pda_nil))))
(pdss_cons (pds_set 3 sc_plus.nd rfl (by first | exact Or.inl rfl | exact Or.inr rfl) (pd_callX G_both_firsts (hr.mono (by decide)) hg (by rfl) T.g_both_firsts T.F_both_firsts.kp T.b_both_firsts (fun _ => passAt (takes_of rfl rfl rfl rfl) _) (pda_cons (pd_v 0) (pda_cons (pd_v 1) pda_nil))))
(pdss_cons (pds_setLc 4 false [("t", 5)] false rfl sc_plus.nd rfl rfl (sw_true rfl rfl rfl (by decide +kernel)) (pdi_range1 (by rfl) T.z_range (pd_op (od_add false) (pd_v 3) (pd_v 2))) (blkOk_by (own := [("t", 5)]) (N := ["f", "g", "round_here", "begin", "numbers", "t"]) (sc := defScope s_plus) (by decide +kernel)) (fun _ => rfl) (fun _ _ _ _ _ => (pg_name (i := 5) sc_plus.nd rfl (Or.inl rfl))) (fun _ _ _ _ _ => pdts_nil) (fun _ _ _ _ _ => (pd_op (od_add false) (pd_call G_value (hr.mono (by decide)) hg (by rfl) T.g_value T.F_value.kp T.b_value (fun _ => passAt0) (pda_cons (pd_v 0) (pda_cons (pd_v 5) pda_nil))) (pd_call G_value (hr.mono (by decide)) hg (by rfl) T.g_value T.F_value.kp T.b_value (fun _ => passAt0) (pda_cons (pd_v 1) (pda_cons (pd_v 5) pda_nil))))))
(pdss_one (pds_ret (pd_callX G_told (hr.mono (by decide)) hg (by rfl) T.g_told T.F_told.kp T.b_told (fun _ => passAt (takes_of rfl rfl rfl rfl) _) (pda_cons (pd_v 4) (pda_cons (pd_v 3) (pda_cons (pd_v 2) (pda_cons (pd_op (od_add false) (pd_call G_up_in (hr.mono (by decide)) hg (by rfl) T.g_up_in T.F_up_in.kp T.b_up_in (fun _ => passAt0) (pda_cons (pd_callX G_plain (hr.mono (by decide)) hg (by rfl) T.g_plain T.F_plain.kp T.b_plain (fun _ => passAt (takes_of rfl rfl rfl rfl) _) (pda_cons (pd_v 0) pda_nil)) (pda_cons (pd_v 2) pda_nil))) (pd_call G_up_in (hr.mono (by decide)) hg (by rfl) T.g_up_in T.F_up_in.kp T.b_up_in (fun _ => passAt0) (pda_cons (pd_callX G_plain (hr.mono (by decide)) hg (by rfl) T.g_plain T.F_plain.kp T.b_plain (fun _ => passAt (takes_of rfl rfl rfl rfl) _) (pda_cons (pd_v 1) pda_nil)) (pda_cons (pd_v 2) pda_nil)))) pda_nil))))))))))), fun ds m R RX h => v_plus h⟩)
theorem ok_law_pen (T : Tx K mg A) : FnG P w K mg base CX0 1 A.f_law_pen A.d_law_pen ["script"] (spD K sp_law_pen) := by
  refine fn_d T.F_law_pen sc_law_pen (fun ds m R RX h => by unfold sp_law_pen at h; first | (obtain ⟨ns, rfl, _⟩ := h; rfl) | (split at h <;> first | rfl | exact h.elim)) (fun cdv A' outer s H E hr hg => ⟨r_law_pen, PDSs.nox ((pdss_one (pds_ret (pd_disp (PDPs.cons pd_str (pd_callT (cd_list false) (by rfl) T.z_list (by decide +kernel) (pda_cons (pd_sl false (pd_v 0) pdo_none (pdo_some pd_int)) pda_nil)) (PDPs.cons pd_str pd_int (PDPs.cons pd_str pd_int PDPs.nil))))))), fun ds m R RX h => v_law_pen h⟩)
theorem ok_law_draw (T : Tx K mg A) : FnG P w K mg base CX0 1 A.f_law_draw A.d_law_draw ["pen", "many"] (spD K sp_law_draw) := by
  refine fn_d T.F_law_draw sc_law_draw (fun ds m R RX h => by unfold sp_law_draw at h; first | (obtain ⟨ns, rfl, _⟩ := h; rfl) | (split at h <;> first | rfl | exact h.elim)) (fun cdv A' outer s H E hr hg => ⟨r_law_draw, PDSs.nox ((pdss_cons (pds_if (pdt_cmp od_gt (pd_dix (room1 hr) (pd_v 0) pd_str) pd_int (nomark _))
(pdss_cons (pds_set 2 sc_law_draw.nd rfl (by first | exact Or.inl rfl | exact Or.inr rfl) (pd_op od_mod (pd_dix (room1 hr) (pd_v 0) pd_str) (pd_v 1)))
(pdss_cons (pds_dput (room1 hr) (pd_v 0) pd_str (pd_op od_div (pd_dix (room1 hr) (pd_v 0) pd_str) (pd_v 1)))
(pdss_one (pds_ret (pd_v 2)))))
pdss_nil)
(pdss_cons (pds_set 3 sc_law_draw.nd rfl (by first | exact Or.inl rfl | exact Or.inr rfl) (pd_dix (room1 hr) (pd_v 0) pd_str))
(pdss_cons (pds_dput (room1 hr) (pd_v 0) pd_str (pd_op (od_add false) (pd_v 3) pd_int))
(pdss_cons (pds_set 4 sc_law_draw.nd rfl (by first | exact Or.inl rfl | exact Or.inr rfl) (pd_op (od_add false) (pd_op (od_mul false) (pd_op (od_mul false) pd_int (pd_v 3)) (pd_v 3)) pd_int))
(pdss_cons (pds_if (pdt_cmp od_lt (pd_v 3) (pd_callB cd_len (by rfl) T.z_len (by decide +kernel) (pda_cons (pd_dix (room1 hr) (pd_v 0) pd_str) pda_nil)) (nomark _))
(pdss_cons (pds_set 4 sc_law_draw.nd rfl (by first | exact Or.inl rfl | exact Or.inr rfl) (pd_ix id_seq (pd_dix (room1 hr) (pd_v 0) pd_str) (pd_v 3)))
(pdss_one (pds_if (pdt_cmp od_ge (pd_callB cd_abs (by rfl) T.z_abs (by decide +kernel) (pda_cons (pd_v 4) pda_nil)) (pd_op od_pow pd_int pd_int) (nomark _))
(pdss_cons (pds_dput (room1 hr) (pd_v 0) pd_str (pd_op od_div (pd_callB cd_abs (by rfl) T.z_abs (by decide +kernel) (pda_cons (pd_v 4) pda_nil)) (pd_v 1)))
(pdss_one (pds_ret (pd_op od_mod (pd_callB cd_abs (by rfl) T.z_abs (by decide +kernel) (pda_cons (pd_v 4) pda_nil)) (pd_v 1)))))
pdss_nil)))
(pdss_one (pds_if (pdt_cmp od_gt (pd_callB cd_len (by rfl) T.z_len (by decide +kernel) (pda_cons (pd_dix (room1 hr) (pd_v 0) pd_str) pda_nil)) pd_int (nomark _))
(pdss_one (pds_set 4 sc_law_draw.nd rfl (by first | exact Or.inl rfl | exact Or.inr rfl) (pd_op (od_add false) (pd_op od_mod (pd_ix id_seq (pd_dix (room1 hr) (pd_v 0) pd_str) (pd_op od_mod (pd_v 3) (pd_callB cd_len (by rfl) T.z_len (by decide +kernel) (pda_cons (pd_dix (room1 hr) (pd_v 0) pd_str) pda_nil)))) (pd_op od_pow pd_int pd_int)) (pd_op (od_mul false) pd_int (pd_v 3)))))
pdss_nil)))
(pdss_cons (pds_set 5 sc_law_draw.nd rfl (by first | exact Or.inl rfl | exact Or.inr rfl) (pd_op od_mod (pd_op od_pow (pd_op (od_add false) (pd_op (od_add false) (pd_op od_mod (pd_v 4) pd_int) (pd_op (od_mul false) pd_int (pd_v 3))) pd_int) pd_int) pd_int))
(pdss_cons (pds_set 5 sc_law_draw.nd rfl (by first | exact Or.inl rfl | exact Or.inr rfl) (pd_op od_mod (pd_op (od_mul false) (pd_v 5) (pd_op (od_add false) (pd_op (od_add false) (pd_op od_mod (pd_v 5) pd_int) (pd_v 3)) pd_int)) pd_int))
(pdss_one (pds_ret (pd_op od_mod (pd_op od_div (pd_v 5) pd_int) (pd_v 1)))))))))))), fun ds m R RX h => v_law_draw h⟩)
theorem ok_law_names (T : Tx K mg A) : FnG P w K mg base CX0 2 A.f_law_names A.d_law_names ["pen", "many"] (spD K sp_law_names) := by
  have G_law_draw : FnG P w K mg base CX0 1 A.f_law_draw A.d_law_draw ["pen", "many"] (spD K sp_law_draw) := ok_law_draw T
  refine fn_d T.F_law_names sc_law_names (fun ds m R RX h => by unfold sp_law_names at h; first | (obtain ⟨ns, rfl, _⟩ := h; rfl) | (split at h <;> first | rfl | exact h.elim)) (fun cdv A' outer s H E hr hg => ⟨r_law_names, PDSs.nox ((pdss_cons (pds_set 2 sc_law_names.nd rfl (by first | exact Or.inl rfl | exact Or.inr rfl) pd_str)
(pdss_cons (pds_set 3 sc_law_names.nd rfl (by first | exact Or.inl rfl | exact Or.inr rfl) (pd_call G_law_draw (hr.mono (by decide)) hg (by rfl) T.g_law_draw T.F_law_draw.kp T.b_law_draw (fun _ => passAt0) (pda_cons (pd_v 0) (pda_cons pd_int pda_nil))))
(pdss_cons (pds_set 4 sc_law_names.nd rfl (by first | exact Or.inl rfl | exact Or.inr rfl) (pd_call G_law_draw (hr.mono (by decide)) hg (by rfl) T.g_law_draw T.F_law_draw.kp T.b_law_draw (fun _ => passAt0) (pda_cons (pd_v 0) (pda_cons pd_int pda_nil))))
(pdss_cons (pds_set 5 sc_law_names.nd rfl (by first | exact Or.inl rfl | exact Or.inr rfl) (pd_lst false (pda_cons pd_str (pda_cons pd_str (pda_cons pd_str (pda_cons pd_str (pda_cons pd_str (pda_cons pd_str (pda_cons pd_str (pda_cons pd_str (pda_cons pd_str (pda_cons pd_str (pda_cons pd_str pda_nil)))))))))))))
(pdss_cons (pds_if (pdt_cmp (od_eq hr.units) (pd_v 3) pd_int (nomark _))
(pdss_one (pds_ret (pd_lc false [("k", 6)] false rfl sc_law_names.nd (pdi_range1 (by rfl) T.z_range (pd_v 1)) (blkOk_by (own := [("k", 6)]) (N := ["pen", "many", "letters", "way", "begin", "words", "k", "base", "long", "at"]) (sc := defScope s_law_names) (by decide +kernel)) (fun _ => rfl) (fun _ _ _ _ _ => (pg_name (i := 6) sc_law_names.nd rfl (Or.inl rfl))) (fun _ _ _ _ _ => pdts_nil) (fun _ _ _ _ _ => (pd_ix id_seq (pd_v 5) (pd_op od_mod (pd_op (od_add false) (pd_v 4) (pd_op (od_mul false) pd_int (pd_v 6))) pd_int))))))
pdss_nil)
(pdss_cons (pds_set 7 sc_law_names.nd rfl (by first | exact Or.inl rfl | exact Or.inr rfl) (pd_join pd_str (pd_lc false [("k", 6)] false rfl sc_law_names.nd (pdi_range1 (by rfl) T.z_range pd_int) (blkOk_by (own := [("k", 6)]) (N := ["pen", "many", "letters", "way", "begin", "words", "k", "base", "long", "at"]) (sc := defScope s_law_names) (by decide +kernel)) (fun _ => rfl) (fun _ _ _ _ _ => (pg_name (i := 6) sc_law_names.nd rfl (Or.inl rfl))) (fun _ _ _ _ _ => pdts_nil) (fun _ _ _ _ _ => (pd_ix id_seq (pd_v 2) (pd_call G_law_draw (hr.mono (by decide)) hg (by rfl) T.g_law_draw T.F_law_draw.kp T.b_law_draw (fun _ => passAt0) (pda_cons (pd_v 0) (pda_cons pd_int pda_nil))))))))
(pdss_cons (pds_if (pdt_cmp (od_eq hr.units) (pd_v 3) pd_int (nomark _))
(pdss_one (pds_ret (pd_lc false [("k", 6)] false rfl sc_law_names.nd (pdi_range1 (by rfl) T.z_range (pd_v 1)) (blkOk_by (own := [("k", 6)]) (N := ["pen", "many", "letters", "way", "begin", "words", "k", "base", "long", "at"]) (sc := defScope s_law_names) (by decide +kernel)) (fun _ => rfl) (fun _ _ _ _ _ => (pg_name (i := 6) sc_law_names.nd rfl (Or.inl rfl))) (fun _ _ _ _ _ => pdts_nil) (fun _ _ _ _ _ => (pd_sl false (pd_v 7) pdo_none (pdo_some (pd_op (od_add false) pd_int (pd_op od_mod (pd_op (od_add false) (pd_v 4) (pd_v 6)) pd_int))))))))
pdss_nil)
(pdss_cons (pds_set 8 sc_law_names.nd rfl (by first | exact Or.inl rfl | exact Or.inr rfl) (pd_op (od_add false) pd_int (pd_call G_law_draw (hr.mono (by decide)) hg (by rfl) T.g_law_draw T.F_law_draw.kp T.b_law_draw (fun _ => passAt0) (pda_cons (pd_v 0) (pda_cons pd_int pda_nil)))))
(pdss_cons (pds_set 9 sc_law_names.nd rfl (by first | exact Or.inl rfl | exact Or.inr rfl) (pd_call G_law_draw (hr.mono (by decide)) hg (by rfl) T.g_law_draw T.F_law_draw.kp T.b_law_draw (fun _ => passAt0) (pda_cons (pd_v 0) (pda_cons (pd_v 8) pda_nil))))
(pdss_one (pds_ret (pd_lc false [("k", 6)] false rfl sc_law_names.nd (pdi_range1 (by rfl) T.z_range (pd_v 1)) (blkOk_by (own := [("k", 6)]) (N := ["pen", "many", "letters", "way", "begin", "words", "k", "base", "long", "at"]) (sc := defScope s_law_names) (by decide +kernel)) (fun _ => rfl) (fun _ _ _ _ _ => (pg_name (i := 6) sc_law_names.nd rfl (Or.inl rfl))) (fun _ _ _ _ _ => pdts_nil) (fun _ _ _ _ _ => (pd_op (od_add false) (pd_op (od_add false) (pd_sl false (pd_v 7) pdo_none (pdo_some (pd_v 9))) (pd_ix id_seq (pd_v 2) (pd_op od_mod (pd_op (od_add false) (pd_v 4) (pd_op (od_mul false) pd_int (pd_v 6))) pd_int))) (pd_sl false (pd_v 7) (pdo_some (pd_op (od_add false) (pd_v 9) pd_int)) (pdo_some (pd_v 8)))))))))))))))))), fun ds m R RX h => v_law_names h⟩)
theorem ok_law_any_curve (T : Tx K mg A) : FnG P w K mg base CX0 2 A.f_law_any_curve A.d_law_any_curve ["pen"] (spD K sp_law_any_curve) := by
  have G_law_draw : FnG P w K mg base CX0 1 A.f_law_draw A.d_law_draw ["pen", "many"] (spD K sp_law_draw) := ok_law_draw T
  refine fn_d T.F_law_any_curve sc_law_any_curve (fun ds m R RX h => by unfold sp_law_any_curve at h; first | (obtain ⟨ns, rfl, _⟩ := h; rfl) | (split at h <;> first | rfl | exact h.elim)) (fun cdv A' outer s H E hr hg => ⟨r_law_any_curve, PDSs.nox ((pdss_cons (pds_set 1 sc_law_any_curve.nd rfl (by first | exact Or.inl rfl | exact Or.inr rfl) (pd_ix id_seq (pd_lst false (pda_cons (pd_call G_law_draw (hr.mono (by decide)) hg (by rfl) T.g_law_draw T.F_law_draw.kp T.b_law_draw (fun _ => passAt0) (pda_cons (pd_v 0) (pda_cons pd_int pda_nil))) (pda_cons (pd_call G_law_draw (hr.mono (by decide)) hg (by rfl) T.g_law_draw T.F_law_draw.kp T.b_law_draw (fun _ => passAt0) (pda_cons (pd_v 0) (pda_cons pd_int pda_nil))) (pda_cons pd_int (pda_cons pd_int pda_nil))))) (pd_call G_law_draw (hr.mono (by decide)) hg (by rfl) T.g_law_draw T.F_law_draw.kp T.b_law_draw (fun _ => passAt0) (pda_cons (pd_v 0) (pda_cons pd_int pda_nil)))))
(pdss_cons (pds_set 2 sc_law_any_curve.nd rfl (by first | exact Or.inl rfl | exact Or.inr rfl) (pd_ix id_seq (pd_lst false (pda_cons (pd_op (od_add false) pd_int (pd_call G_law_draw (hr.mono (by decide)) hg (by rfl) T.g_law_draw T.F_law_draw.kp T.b_law_draw (fun _ => passAt0) (pda_cons (pd_v 0) (pda_cons pd_int pda_nil)))) (pda_cons pd_int (pda_cons (pd_op (od_add false) pd_int (pd_call G_law_draw (hr.mono (by decide)) hg (by rfl) T.g_law_draw T.F_law_draw.kp T.b_law_draw (fun _ => passAt0) (pda_cons (pd_v 0) (pda_cons pd_int pda_nil)))) pda_nil)))) (pd_call G_law_draw (hr.mono (by decide)) hg (by rfl) T.g_law_draw T.F_law_draw.kp T.b_law_draw (fun _ => passAt0) (pda_cons (pd_v 0) (pda_cons pd_int pda_nil)))))
(pdss_cons (pds_set 3 sc_law_any_curve.nd rfl (by first | exact Or.inl rfl | exact Or.inr rfl) (pd_ix id_seq (pd_lst false (pda_cons pd_int (pda_cons pd_int (pda_cons pd_int pda_nil)))) (pd_call G_law_draw (hr.mono (by decide)) hg (by rfl) T.g_law_draw T.F_law_draw.kp T.b_law_draw (fun _ => passAt0) (pda_cons (pd_v 0) (pda_cons pd_int pda_nil)))))
(pdss_cons (pds_set 4 sc_law_any_curve.nd rfl (by first | exact Or.inl rfl | exact Or.inr rfl) (pd_lst true (pda_cons pd_int pda_nil)))
(pdss_cons (pds_for PassesOwn.never rfl (pdi_range1 (by rfl) T.z_range (pd_op od_sub (pd_op (od_add false) (pd_v 1) (pd_v 2)) pd_int)) (pdg_name 5 sc_law_any_curve.nd rfl (by first | exact Or.inl rfl | exact Or.inr rfl))
(pdss_one (pds_expr (pd_lm PySem.F.plainAttrs_list PySem.F.slot_list_append PySem.F.type_list_append md_append (pd_v 4) (pda_cons (pd_op (od_add false) (pd_ix id_seq (pd_v 4) (pd_neg pd_int)) (pd_call G_law_draw (hr.mono (by decide)) hg (by rfl) T.g_law_draw T.F_law_draw.kp T.b_law_draw (fun _ => passAt0) (pda_cons (pd_v 0) (pda_cons (pd_v 3) pda_nil)))) pda_nil)))))
(pdss_cons (pds_if (PDW.pt (pdw_and (pdt_cmp (od_eq hr.units) (pd_call G_law_draw (hr.mono (by decide)) hg (by rfl) T.g_law_draw T.F_law_draw.kp T.b_law_draw (fun _ => passAt0) (pda_cons (pd_v 0) (pda_cons pd_int pda_nil))) pd_int (nomark _)) (pdw_and1 (pdt_cmp od_gt (pd_callB cd_len (by rfl) T.z_len (by decide +kernel) (pda_cons (pd_v 4) pda_nil)) pd_int (nomark _)))))
(pdss_one (pds_asg (pdg_sub (pd_v 4) (pd_neg pd_int)) pd_int))
pdss_nil)
(pdss_cons (pds_set 6 sc_law_any_curve.nd rfl (by first | exact Or.inl rfl | exact Or.inr rfl) (pd_op od_sub (pd_ix id_seq (pd_v 4) (pd_neg pd_int)) (pd_ix id_seq (pd_v 4) (pd_v 1))))
(pdss_cons (pds_set 7 sc_law_any_curve.nd rfl (by first | exact Or.inl rfl | exact Or.inr rfl) (pd_callB (cd_min rfl) (by rfl) T.z_min (by decide +kernel) (pda_cons pd_int (pda_cons (pd_op (od_add false) (pd_v 6) (pd_ix id_seq (pd_lst false (pda_cons pd_int (pda_cons (pd_call G_law_draw (hr.mono (by decide)) hg (by rfl) T.g_law_draw T.F_law_draw.kp T.b_law_draw (fun _ => passAt0) (pda_cons (pd_v 0) (pda_cons pd_int pda_nil))) (pda_cons (pd_call G_law_draw (hr.mono (by decide)) hg (by rfl) T.g_law_draw T.F_law_draw.kp T.b_law_draw (fun _ => passAt0) (pda_cons (pd_v 0) (pda_cons (pd_op od_pow pd_int pd_int) pda_nil))) pda_nil)))) (pd_call G_law_draw (hr.mono (by decide)) hg (by rfl) T.g_law_draw T.F_law_draw.kp T.b_law_draw (fun _ => passAt0) (pda_cons (pd_v 0) (pda_cons pd_int pda_nil))))) pda_nil))))
(pdss_one (pds_frz 4 (pds_ret (pd_tup (pda_cons (pd_callT cd_tuple (by rfl) T.z_tuple (by decide +kernel) (pda_cons (pd_sl false (pd_v 4) pdo_none (pdo_some (pd_v 1))) pda_nil)) (pda_cons (pd_callT cd_tuple (by rfl) T.z_tuple (by decide +kernel) (pda_cons (pd_sl false (pd_v 4) (pdo_some (pd_v 1)) pdo_none) pda_nil)) (pda_cons (pd_v 7) pda_nil)))))))))))))))), fun ds m R RX h => v_law_any_curve h⟩)
theorem ok_law_numbers_text (T : Tx K mg A) : FnG P w K mg base CX0 1 A.f_law_numbers_text A.d_law_numbers_text ["numbers"] (spD K sp_law_numbers_text) := by
  refine fn_d T.F_law_numbers_text sc_law_numbers_text (fun ds m R RX h => by unfold sp_law_numbers_text at h; first | (obtain ⟨ns, rfl, _⟩ := h; rfl) | (split at h <;> first | rfl | exact h.elim)) (fun cdv A' outer s H E hr hg => ⟨r_law_numbers_text, PDSs.nox ((pdss_one (pds_ret (pd_join pd_str (pd_lc false [("number", 1)] false rfl sc_law_numbers_text.nd (pdi_seq (pd_v 0)) (blkOk_by (own := [("number", 1)]) (N := ["numbers", "number"]) (sc := defScope s_law_numbers_text) (by decide +kernel)) (fun _ => rfl) (fun _ _ _ _ _ => (pg_name (i := 1) sc_law_numbers_text.nd rfl (Or.inl rfl))) (fun _ _ _ _ _ => pdts_nil) (fun _ _ _ _ _ => (pd_callT cd_str (by rfl) T.z_str (by decide +kernel) (pda_cons (pd_v 1) pda_nil)))))))), fun ds m R RX h => v_law_numbers_text h⟩)
theorem ok_law_curve_text (T : Tx K mg A) : FnG P w K mg base CX0 2 A.f_law_curve_text A.d_law_curve_text ["curve"] (spD K sp_law_curve_text) := by
  have G_law_numbers_text : FnG P w K mg base CX0 1 A.f_law_numbers_text A.d_law_numbers_text ["numbers"] (spD K sp_law_numbers_text) := ok_law_numbers_text T
  refine fn_d T.F_law_curve_text sc_law_curve_text (fun ds m R RX h => by unfold sp_law_curve_text at h; first | (obtain ⟨ns, rfl, _⟩ := h; rfl) | (split at h <;> first | rfl | exact h.elim)) (fun cdv A' outer s H E hr hg => ⟨r_law_curve_text, PDSs.nox ((pdss_cons (pds_asg (pdg_tup rfl (pdgs_cons (pdg_name 1 sc_law_curve_text.nd rfl (by first | exact Or.inl rfl | exact Or.inr rfl)) (pdgs_cons (pdg_name 2 sc_law_curve_text.nd rfl (by first | exact Or.inl rfl | exact Or.inr rfl)) (pdgs_cons (pdg_name 3 sc_law_curve_text.nd rfl (by first | exact Or.inl rfl | exact Or.inr rfl)) pdgs_nil)))) (pd_v 0))
(pdss_one (pds_ret (pd_op (od_add false) (pd_op (od_add false) (pd_op (od_add false) (pd_op (od_add false) (pd_ix id_seq (pd_lst false (pda_cons (pd_call G_law_numbers_text (hr.mono (by decide)) hg (by rfl) T.g_law_numbers_text T.F_law_numbers_text.kp T.b_law_numbers_text (fun _ => passAt0) (pda_cons (pd_v 1) pda_nil)) (pda_cons pd_str pda_nil))) (pd_callT cd_int (by rfl) T.z_int (by decide +kernel) (pda_cons (pd_cmp (od_eq hr.units) (pd_v 1) (pd_tup pda_nil) (nomark _)) pda_nil))) pd_str) (pd_call G_law_numbers_text (hr.mono (by decide)) hg (by rfl) T.g_law_numbers_text T.F_law_numbers_text.kp T.b_law_numbers_text (fun _ => passAt0) (pda_cons (pd_v 2) pda_nil))) pd_str) (pd_callT cd_str (by rfl) T.z_str (by decide +kernel) (pda_cons (pd_v 3) pda_nil))))))), fun ds m R RX h => v_law_curve_text h⟩)
theorem ok_law_net_text (T : Tx K mg A) : FnG P w K mg base CX0 3 A.f_law_net_text A.d_law_net_text ["net"] (spD K sp_law_net_text) := by
  have G_law_curve_text : FnG P w K mg base CX0 2 A.f_law_curve_text A.d_law_curve_text ["curve"] (spD K sp_law_curve_text) := ok_law_curve_text T
  refine fn_d T.F_law_net_text sc_law_net_text (fun ds m R RX h => by unfold sp_law_net_text at h; first | (obtain ⟨ns, rfl, _⟩ := h; rfl) | (split at h <;> first | rfl | exact h.elim)) (fun cdv A' outer s H E hr hg => ⟨r_law_net_text, PDSs.nox ((pdss_cons (pds_setLc 1 true [("name", 2), ("curve", 3)] true rfl sc_law_net_text.nd rfl rfl (sw_true rfl rfl rfl (by decide +kernel)) (pdi_seq (pd_ix id_seq (pd_v 0) pd_int)) (blkOk_by (own := [("name", 2), ("curve", 3)]) (N := ["net", "lines", "name", "curve", "route"]) (sc := defScope s_law_net_text) (by decide +kernel)) (fun z => by cases z) (fun _ _ _ _ _ => pg_tup rfl (pgs_cons (pg_name (i := 2) sc_law_net_text.nd rfl (Or.inl rfl)) (pgs_cons (pg_name (i := 3) sc_law_net_text.nd rfl (Or.inl rfl)) pgs_nil))) (fun _ _ _ _ _ => pdts_nil) (fun _ _ _ _ _ => (pd_op (od_add false) (pd_op (od_add false) (pd_op (od_add false) pd_str (pd_v 2)) pd_str) (pd_call G_law_curve_text (hr.mono (by decide)) hg (by rfl) T.g_law_curve_text T.F_law_curve_text.kp T.b_law_curve_text (fun _ => passAt0) (pda_cons (pd_v 3) pda_nil)))))
(pdss_cons (pds_for PassesOwn.never rfl (pdi_seq (pd_ix id_seq (pd_v 0) pd_int)) (pdg_tup rfl (pdgs_cons (pdg_name 2 sc_law_net_text.nd rfl (by first | exact Or.inl rfl | exact Or.inr rfl)) (pdgs_cons (pdg_name 3 sc_law_net_text.nd rfl (by first | exact Or.inl rfl | exact Or.inr rfl)) (pdgs_cons (pdg_name 4 sc_law_net_text.nd rfl (by first | exact Or.inl rfl | exact Or.inr rfl)) pdgs_nil))))
(pdss_one (pds_expr (pd_lm PySem.F.plainAttrs_list PySem.F.slot_list_append PySem.F.type_list_append md_append (pd_v 1) (pda_cons (pd_op (od_add false) (pd_op (od_add false) (pd_op (od_add false) (pd_op (od_add false) (pd_op (od_add false) pd_str (pd_v 2)) pd_str) (pd_join pd_str (pd_v 4))) pd_str) (pd_call G_law_curve_text (hr.mono (by decide)) hg (by rfl) T.g_law_curve_text T.F_law_curve_text.kp T.b_law_curve_text (fun _ => passAt0) (pda_cons (pd_v 3) pda_nil))) pda_nil)))))
(pdss_one (pds_frz 1 (pds_ret (pd_join pd_str (pd_v 1)))))))), fun ds m R RX h => v_law_net_text h⟩)
theorem ok_law_any_route (T : Tx K mg A) : FnG P w K mg base CX0 2 A.f_law_any_route A.d_law_any_route ["pen", "names"] (spD K sp_law_any_route) := by
  have G_law_draw : FnG P w K mg base CX0 1 A.f_law_draw A.d_law_draw ["pen", "many"] (spD K sp_law_draw) := ok_law_draw T
  refine fn_d T.F_law_any_route sc_law_any_route (fun ds m R RX h => by unfold sp_law_any_route at h; first | (obtain ⟨ns, rfl, _⟩ := h; rfl) | (split at h <;> first | rfl | exact h.elim)) (fun cdv A' outer s H E hr hg => ⟨r_law_any_route, PDSs.nox ((pdss_cons (pds_set 2 sc_law_any_route.nd rfl (by first | exact Or.inl rfl | exact Or.inr rfl) (pd_callT (cd_list true) (by rfl) T.z_list (by decide +kernel) (pda_cons (pd_v 1) pda_nil)))
(pdss_cons (pds_set 3 sc_law_any_route.nd rfl (by first | exact Or.inl rfl | exact Or.inr rfl) (pd_lst true pda_nil))
(pdss_cons (pds_for PassesOwn.never rfl (pdi_range1 (by rfl) T.z_range (pd_op (od_add false) pd_int (pd_call G_law_draw (hr.mono (by decide)) hg (by rfl) T.g_law_draw T.F_law_draw.kp T.b_law_draw (fun _ => passAt0) (pda_cons (pd_v 0) (pda_cons (pd_callB cd_len (by rfl) T.z_len (by decide +kernel) (pda_cons (pd_v 1) pda_nil)) pda_nil))))) (pdg_name 4 sc_law_any_route.nd rfl (by first | exact Or.inl rfl | exact Or.inr rfl))
(pdss_one (pds_expr (pd_lm PySem.F.plainAttrs_list PySem.F.slot_list_append PySem.F.type_list_append md_append (pd_v 3) (pda_cons (pd_lm PySem.F.plainAttrs_list PySem.F.slot_list_pop PySem.F.type_list_pop md_popAt (pd_v 2) (pda_cons (pd_call G_law_draw (hr.mono (by decide)) hg (by rfl) T.g_law_draw T.F_law_draw.kp T.b_law_draw (fun _ => passAt0) (pda_cons (pd_v 0) (pda_cons (pd_callB cd_len (by rfl) T.z_len (by decide +kernel) (pda_cons (pd_v 2) pda_nil)) pda_nil))) pda_nil)) pda_nil)))))
(pdss_one (pds_frz 2 (pds_frz 3 (pds_ret (pd_callT cd_tuple (by rfl) T.z_tuple (by decide +kernel) (pda_cons (pd_v 3) pda_nil)))))))))), fun ds m R RX h => v_law_any_route h⟩)
theorem ok_law_net (T : Tx K mg A) : FnG P w K mg base CX0 3 A.f_law_net A.d_law_net ["pen"] (spD K sp_law_net) := by
  have G_law_names : FnG P w K mg base CX0 2 A.f_law_names A.d_law_names ["pen", "many"] (spD K sp_law_names) := ok_law_names T
  have G_law_draw : FnG P w K mg base CX0 1 A.f_law_draw A.d_law_draw ["pen", "many"] (spD K sp_law_draw) := ok_law_draw T
  have G_law_any_curve : FnG P w K mg base CX0 2 A.f_law_any_curve A.d_law_any_curve ["pen"] (spD K sp_law_any_curve) := ok_law_any_curve T
  have G_law_any_route : FnG P w K mg base CX0 2 A.f_law_any_route A.d_law_any_route ["pen", "names"] (spD K sp_law_any_route) := ok_law_any_route T
  refine fn_d T.F_law_net sc_law_net (fun ds m R RX h => by unfold sp_law_net at h; first | (obtain ⟨ns, rfl, _⟩ := h; rfl) | (split at h <;> first | rfl | exact h.elim)) (fun cdv A' outer s H E hr hg => ⟨r_law_net, PDSs.nox ((pdss_cons (pds_set 1 sc_law_net.nd rfl (by first | exact Or.inl rfl | exact Or.inr rfl) (pd_call G_law_names (hr.mono (by decide)) hg (by rfl) T.g_law_names T.F_law_names.kp T.b_law_names (fun _ => passAt0) (pda_cons (pd_v 0) (pda_cons (pd_op (od_add false) pd_int (pd_call G_law_draw (hr.mono (by decide)) hg (by rfl) T.g_law_draw T.F_law_draw.kp T.b_law_draw (fun _ => passAt0) (pda_cons (pd_v 0) (pda_cons pd_int pda_nil)))) pda_nil))))
(pdss_cons (pds_set 2 sc_law_net.nd rfl (by first | exact Or.inl rfl | exact Or.inr rfl) (pd_callT cd_tuple (by rfl) T.z_tuple (by decide +kernel) (pda_cons (pd_lc false [("name", 3)] false rfl sc_law_net.nd (pdi_seq (pd_v 1)) (blkOk_by (own := [("name", 3)]) (N := ["pen", "names", "servers", "name", "streams"]) (sc := defScope s_law_net) (by decide +kernel)) (fun _ => rfl) (fun _ _ _ _ _ => (pg_name (i := 3) sc_law_net.nd rfl (Or.inl rfl))) (fun _ _ _ _ _ => pdts_nil) (fun _ _ _ _ _ => (pd_tup (pda_cons (pd_v 3) (pda_cons (pd_call G_law_any_curve (hr.mono (by decide)) hg (by rfl) T.g_law_any_curve T.F_law_any_curve.kp T.b_law_any_curve (fun _ => passAt0) (pda_cons (pd_v 0) pda_nil)) pda_nil))))) pda_nil)))
(pdss_cons (pds_set 4 sc_law_net.nd rfl (by first | exact Or.inl rfl | exact Or.inr rfl) (pd_lst true pda_nil))
(pdss_cons (pds_for PassesOwn.never rfl (pdi_seq (pd_call G_law_names (hr.mono (by decide)) hg (by rfl) T.g_law_names T.F_law_names.kp T.b_law_names (fun _ => passAt0) (pda_cons (pd_v 0) (pda_cons (pd_op (od_add false) pd_int (pd_call G_law_draw (hr.mono (by decide)) hg (by rfl) T.g_law_draw T.F_law_draw.kp T.b_law_draw (fun _ => passAt0) (pda_cons (pd_v 0) (pda_cons pd_int pda_nil)))) pda_nil)))) (pdg_name 3 sc_law_net.nd rfl (by first | exact Or.inl rfl | exact Or.inr rfl))
(pdss_one (pds_expr (pd_lm PySem.F.plainAttrs_list PySem.F.slot_list_append PySem.F.type_list_append md_append (pd_v 4) (pda_cons (pd_tup (pda_cons (pd_v 3) (pda_cons (pd_call G_law_any_curve (hr.mono (by decide)) hg (by rfl) T.g_law_any_curve T.F_law_any_curve.kp T.b_law_any_curve (fun _ => passAt0) (pda_cons (pd_v 0) pda_nil)) (pda_cons (pd_call G_law_any_route (hr.mono (by decide)) hg (by rfl) T.g_law_any_route T.F_law_any_route.kp T.b_law_any_route (fun _ => passAt0) (pda_cons (pd_v 0) (pda_cons (pd_v 1) pda_nil))) pda_nil)))) pda_nil)))))
(pdss_one (pds_frz 4 (pds_ret (pd_tup (pda_cons (pd_v 2) (pda_cons (pd_callT cd_tuple (by rfl) T.z_tuple (by decide +kernel) (pda_cons (pd_v 4) pda_nil)) pda_nil))))))))))), fun ds m R RX h => v_law_net h⟩)
theorem ok_law (T : Tx K mg A) : FnG P w K mg base CX0 8 A.f_law A.d_law ["script"] (spD K (lawSp 63)) := by
  have G_law_pen : FnG P w K mg base CX0 1 A.f_law_pen A.d_law_pen ["script"] (spD K sp_law_pen) := ok_law_pen T
  have G_law_net : FnG P w K mg base CX0 3 A.f_law_net A.d_law_net ["pen"] (spD K sp_law_net) := ok_law_net T
  have G_plus : FnG P w K mg base (L2.CX P w) 7 A.f_plus A.d_plus ["f", "g"] (spD K (sp_plus A.c_TooLong)) := ok_plus T
  have G_law_any_curve : FnG P w K mg base CX0 2 A.f_law_any_curve A.d_law_any_curve ["pen"] (spD K sp_law_any_curve) := ok_law_any_curve T
  have G_law_net_text : FnG P w K mg base CX0 3 A.f_law_net_text A.d_law_net_text ["net"] (spD K sp_law_net_text) := ok_law_net_text T
  have G_show_net : FnG P w K mg base CX0 3 A.f_show_net A.d_show_net ["net"] (spD K sp_show_net) := ok_show_net T
  have G_law_curve_text : FnG P w K mg base CX0 2 A.f_law_curve_text A.d_law_curve_text ["curve"] (spD K sp_law_curve_text) := ok_law_curve_text T
  have G_show_curve : FnG P w K mg base CX0 2 A.f_show_curve A.d_show_curve ["f"] (spD K sp_show_curve) := ok_show_curve T
  have G_read_net : FnG P w K mg base CX0 7 A.f_read_net A.d_read_net ["text"] (spD K sp_read_net) := ok_read_net T
  have G_read_curve : FnG P w K mg base CX0 5 A.f_read_curve A.d_read_curve ["text"] (spD K sp_read_curve) := ok_read_curve T
  refine fn_d T.F_law sc_law (fun ds m R RX h => by unfold lawSp at h; first | (obtain ⟨ns, rfl, _⟩ := h; rfl) | (split at h <;> first | rfl | exact h.elim)) (fun cdv A' outer s H E hr hg => ⟨r_law A.c_TooLong, PDSs.nox ((pdss_cons (pds_set 1 sc_law.nd rfl (by first | exact Or.inl rfl | exact Or.inr rfl) (pd_call G_law_pen (hr.mono (by decide)) hg (by rfl) T.g_law_pen T.F_law_pen.kp T.b_law_pen (fun _ => passAt0) (pda_cons (pd_v 0) pda_nil)))
(pdss_cons (pds_set 2 sc_law.nd rfl (by first | exact Or.inl rfl | exact Or.inr rfl) (pd_call G_law_net (hr.mono (by decide)) hg (by rfl) T.g_law_net T.F_law_net.kp T.b_law_net (fun _ => passAt0) (pda_cons (pd_v 1) pda_nil)))
(pdss_cons (pds_setLc 3 false [("turn", 4)] false rfl sc_law.nd rfl rfl (sw_true rfl rfl rfl (by decide +kernel)) (pdi_range1 (by rfl) T.z_range pd_int) (blkOk_by (own := [("turn", 4)]) (N := ["script", "pen", "net", "curves", "turn", "kept", "curve", "text", "found", "total"]) (sc := defScope s_law) (by decide +kernel)) (fun _ => rfl) (fun _ _ _ _ _ => (pg_name (i := 4) sc_law.nd rfl (Or.inl rfl))) (fun _ _ _ _ _ => pdts_nil) (fun _ _ _ _ _ => (pd_call G_law_any_curve (hr.mono (by decide)) hg (by rfl) T.g_law_any_curve T.F_law_any_curve.kp T.b_law_any_curve (fun _ => passAt0) (pda_cons (pd_v 1) pda_nil))))
(pdss_cons (pds_set 5 sc_law.nd rfl (by first | exact Or.inl rfl | exact Or.inr rfl) (pd_callB (cd_reprE hg hr.units) (by rfl) T.z_repr (by decide +kernel) (pda_cons (pd_tup (pda_cons (pd_v 2) (pda_cons (pd_v 3) pda_nil))) pda_nil)))
(pdss_cons (pds_for PassesOwn.never rfl (pdi_range1 (by rfl) T.z_range pd_int) (pdg_name 4 sc_law.nd rfl (by first | exact Or.inl rfl | exact Or.inr rfl))
(pdss_cons (pds_for PassesOwn.never rfl (pdi_seq (pd_v 3)) (pdg_name 6 sc_law.nd rfl (by first | exact Or.inl rfl | exact Or.inr rfl))
(pdss_cons (pds_set 7 sc_law.nd rfl (by first | exact Or.inl rfl | exact Or.inr rfl) (pd_call G_law_curve_text (hr.mono (by decide)) hg (by rfl) T.g_law_curve_text T.F_law_curve_text.kp T.b_law_curve_text (fun _ => passAt0) (pda_cons (pd_v 6) pda_nil)))
(pdss_cons (pds_set 8 sc_law.nd rfl (by first | exact Or.inl rfl | exact Or.inr rfl) (pd_call G_show_curve (hr.mono (by decide)) hg (by rfl) T.g_show_curve T.F_show_curve.kp T.b_show_curve (fun _ => passAt0) (pda_cons (pd_v 6) pda_nil)))
(pdss_one (pds_if (PDW.pt (pdw_or (pdt_not (pdt_val (pd_isi .str (by rfl) T.z_isinstance (by decide +kernel) (pd_v 8) (by rfl) T.z_str (by decide +kernel)))) (pdw_or (pdt_cmp (od_ne hr.units) (pd_v 8) (pd_v 7) (nomark _)) (pdw_or1 (pdt_cmp (od_ne hr.units) (pd_callB (cd_reprE hg hr.units) (by rfl) T.z_repr (by decide +kernel) (pda_cons (pd_call G_read_curve (hr.mono (by decide)) hg (by rfl) T.g_read_curve T.F_read_curve.kp T.b_read_curve (fun _ => passAt0) (pda_cons (pd_v 7) pda_nil)) pda_nil)) (pd_callB (cd_reprE hg hr.units) (by rfl) T.z_repr (by decide +kernel) (pda_cons (pd_v 6) pda_nil)) (nomark _))))))
(pdss_one (pds_ret pd_bl))
pdss_nil)))))
(pdss_cons (pds_set 7 sc_law.nd rfl (by first | exact Or.inl rfl | exact Or.inr rfl) (pd_call G_law_net_text (hr.mono (by decide)) hg (by rfl) T.g_law_net_text T.F_law_net_text.kp T.b_law_net_text (fun _ => passAt0) (pda_cons (pd_v 2) pda_nil)))
(pdss_cons (pds_set 8 sc_law.nd rfl (by first | exact Or.inl rfl | exact Or.inr rfl) (pd_call G_show_net (hr.mono (by decide)) hg (by rfl) T.g_show_net T.F_show_net.kp T.b_show_net (fun _ => passAt0) (pda_cons (pd_v 2) pda_nil)))
(pdss_one (pds_if (PDW.pt (pdw_or (pdt_not (pdt_val (pd_isi .str (by rfl) T.z_isinstance (by decide +kernel) (pd_v 8) (by rfl) T.z_str (by decide +kernel)))) (pdw_or (pdt_cmp (od_ne hr.units) (pd_v 8) (pd_v 7) (nomark _)) (pdw_or1 (pdt_cmp (od_ne hr.units) (pd_callB (cd_reprE hg hr.units) (by rfl) T.z_repr (by decide +kernel) (pda_cons (pd_call G_read_net (hr.mono (by decide)) hg (by rfl) T.g_read_net T.F_read_net.kp T.b_read_net (fun _ => passAt0) (pda_cons (pd_v 7) pda_nil)) pda_nil)) (pd_callB (cd_reprE hg hr.units) (by rfl) T.z_repr (by decide +kernel) (pda_cons (pd_v 2) pda_nil)) (nomark _))))))
(pdss_one (pds_ret pd_bl))
pdss_nil))))))
(pdss_cons (pds_set 9 sc_law.nd rfl (by first | exact Or.inl rfl | exact Or.inr rfl) (pd_call G_plus (hr.mono (by decide)) hg (by rfl) T.g_plus T.F_plus.kp T.b_plus (fun _ => passAtL) (pda_cons (pd_ix id_seq (pd_v 3) pd_int) (pda_cons (pd_ix id_seq (pd_v 3) pd_int) pda_nil))))
(pdss_one (pds_ret (pd_and (pd_cmp (od_eq hr.units) (pd_call G_show_curve (hr.mono (by decide)) hg (by rfl) T.g_show_curve T.F_show_curve.kp T.b_show_curve (fun _ => passAt0) (pda_cons (pd_v 9) pda_nil)) (pd_call G_law_curve_text (hr.mono (by decide)) hg (by rfl) T.g_law_curve_text T.F_law_curve_text.kp T.b_law_curve_text (fun _ => passAt0) (pda_cons (pd_v 9) pda_nil)) (nomark _)) (pd_one (pd_cmp (od_eq hr.units) (pd_callB (cd_reprE hg hr.units) (by rfl) T.z_repr (by decide +kernel) (pda_cons (pd_tup (pda_cons (pd_v 2) (pda_cons (pd_v 3) pda_nil))) pda_nil)) (pd_v 5) (nomark _))))))))))))), fun ds m R RX h => v_law h⟩)
end
theorem all_mk {P : Program} {w : World} {K : PySem.W.Frag} {h : Heap} {mg : Str → Option Value} {fa f0 f1 f2 f3 f4 f5 f6 f7 f8 f9 f10 f11 f12 f13 f14 f15 f16 f17 f18 f19 f20 f21 f22 f23 f24 f25 f26 f27 f28 f29 f30 f31 f32 f33 f34 f35 f36 f37 c_CurveError c_TooLong c_NoText : Addr} (X : K.In h) (G : h.Ns mainGlobals mg) (hfa : mg "law" = some (.ref fa))
    {od0 an0 od1 an1 od2 an2 od3 an3 od4 an4 od5 an5 od6 an6 od7 an7 od8 an8 od9 an9 od10 an10 od11 an11 od12 an12 od13 an13 od14 an14 od15 an15 od16 an16 od17 an17 od18 an18 od19 an19 od20 an20 od21 an21 od22 an22 od23 an23 od24 an24 od25 an25 od26 an26 od27 an27 od28 an28 od29 an29 od30 an30 od31 an31 od32 an32 od33 an33 od34 an34 od35 an35 od36 an36 od37 an37 : Option Addr} {sl0 sl1 sl2 sl3 sl4 sl5 sl6 sl7 sl8 sl9 sl10 sl11 sl12 sl13 sl14 sl15 sl16 sl17 sl18 sl19 sl20 sl21 sl22 sl23 sl24 sl25 sl26 sl27 sl28 sl29 sl30 sl31 sl32 sl33 sl34 sl35 sl36 sl37 : Array (Option Value)} {oc0 kV0 dc0 pm0 cd0 ct0 oc1 kV1 dc1 pm1 cd1 ct1 oc2 kV2 dc2 pm2 cd2 ct2 oc3 kV3 dc3 pm3 cd3 ct3 oc4 kV4 dc4 pm4 cd4 ct4 oc5 kV5 dc5 pm5 cd5 ct5 oc6 kV6 dc6 pm6 cd6 ct6 oc7 kV7 dc7 pm7 cd7 ct7 oc8 kV8 dc8 pm8 cd8 ct8 oc9 kV9 dc9 pm9 cd9 ct9 oc10 kV10 dc10 pm10 cd10 ct10 oc11 kV11 dc11 pm11 cd11 ct11 oc12 kV12 dc12 pm12 cd12 ct12 oc13 kV13 dc13 pm13 cd13 ct13 oc14 kV14 dc14 pm14 cd14 ct14 oc15 kV15 dc15 pm15 cd15 ct15 oc16 kV16 dc16 pm16 cd16 ct16 oc17 kV17 dc17 pm17 cd17 ct17 oc18 kV18 dc18 pm18 cd18 ct18 oc19 kV19 dc19 pm19 cd19 ct19 oc20 kV20 dc20 pm20 cd20 ct20 oc21 kV21 dc21 pm21 cd21 ct21 oc22 kV22 dc22 pm22 cd22 ct22 oc23 kV23 dc23 pm23 cd23 ct23 oc24 kV24 dc24 pm24 cd24 ct24 oc25 kV25 dc25 pm25 cd25 ct25 oc26 kV26 dc26 pm26 cd26 ct26 oc27 kV27 dc27 pm27 cd27 ct27 oc28 kV28 dc28 pm28 cd28 ct28 oc29 kV29 dc29 pm29 cd29 ct29 oc30 kV30 dc30 pm30 cd30 ct30 oc31 kV31 dc31 pm31 cd31 ct31 oc32 kV32 dc32 pm32 cd32 ct32 oc33 kV33 dc33 pm33 cd33 ct33 oc34 kV34 dc34 pm34 cd34 ct34 oc35 kV35 dc35 pm35 cd35 ct35 oc36 kV36 dc36 pm36 cd36 ct36 oc37 kV37 dc37 pm37 cd37 ct37 : Value}
    {tk_LETTERS tk_MOST_LETTERS tk_MOST_PARTS tk_FIGURES tk_MOST_FIGURES tk_MOST_FIRST tk_MOST_AGAIN tk_MOST_NUMBER tk_MOST_NUMBERS tk_MOST_ROUND : Tok}
    (a0 : PySem.W.nsIn K mainGlobals "is_number" = some (some (.ref f0)))
    (l0 : K.lookup f0 = some ⟨oc0, od0, .func (PySem.W.fnOf "is_number" "is_number" (defArgs s_is_number) (defBody s_is_number) (defScope s_is_number) .none kV0 dc0 pm0 an0 cd0 ct0), sl0⟩)
    (y0 : PySem.W.codeIn K cd0 "is_number" = true)
    (k0 : PySem.W.keepIn K (.ref f0) = true)
    (a1 : PySem.W.nsIn K mainGlobals "are_numbers" = some (some (.ref f1)))
    (l1 : K.lookup f1 = some ⟨oc1, od1, .func (PySem.W.fnOf "are_numbers" "are_numbers" (defArgs s_are_numbers) (defBody s_are_numbers) (defScope s_are_numbers) .none kV1 dc1 pm1 an1 cd1 ct1), sl1⟩)
    (y1 : PySem.W.codeIn K cd1 "are_numbers" = true)
    (k1 : PySem.W.keepIn K (.ref f1) = true)
    (a2 : PySem.W.nsIn K mainGlobals "is_curve" = some (some (.ref f2)))
    (l2 : K.lookup f2 = some ⟨oc2, od2, .func (PySem.W.fnOf "is_curve" "is_curve" (defArgs s_is_curve) (defBody s_is_curve) (defScope s_is_curve) .none kV2 dc2 pm2 an2 cd2 ct2), sl2⟩)
    (y2 : PySem.W.codeIn K cd2 "is_curve" = true)
    (k2 : PySem.W.keepIn K (.ref f2) = true)
    (a3 : PySem.W.nsIn K mainGlobals "value" = some (some (.ref f3)))
    (l3 : K.lookup f3 = some ⟨oc3, od3, .func (PySem.W.fnOf "value" "value" (defArgs s_value) (defBody s_value) (defScope s_value) .none kV3 dc3 pm3 an3 cd3 ct3), sl3⟩)
    (y3 : PySem.W.codeIn K cd3 "value" = true)
    (k3 : PySem.W.keepIn K (.ref f3) = true)
    (a4 : PySem.W.nsIn K mainGlobals "up_in" = some (some (.ref f4)))
    (l4 : K.lookup f4 = some ⟨oc4, od4, .func (PySem.W.fnOf "up_in" "up_in" (defArgs s_up_in) (defBody s_up_in) (defScope s_up_in) .none kV4 dc4 pm4 an4 cd4 ct4), sl4⟩)
    (y4 : PySem.W.codeIn K cd4 "up_in" = true)
    (k4 : PySem.W.keepIn K (.ref f4) = true)
    (a5 : PySem.W.nsIn K mainGlobals "is_name" = some (some (.ref f5)))
    (l5 : K.lookup f5 = some ⟨oc5, od5, .func (PySem.W.fnOf "is_name" "is_name" (defArgs s_is_name) (defBody s_is_name) (defScope s_is_name) .none kV5 dc5 pm5 an5 cd5 ct5), sl5⟩)
    (y5 : PySem.W.codeIn K cd5 "is_name" = true)
    (k5 : PySem.W.keepIn K (.ref f5) = true)
    (a6 : PySem.W.nsIn K mainGlobals "is_route" = some (some (.ref f6)))
    (l6 : K.lookup f6 = some ⟨oc6, od6, .func (PySem.W.fnOf "is_route" "is_route" (defArgs s_is_route) (defBody s_is_route) (defScope s_is_route) .none kV6 dc6 pm6 an6 cd6 ct6), sl6⟩)
    (y6 : PySem.W.codeIn K cd6 "is_route" = true)
    (k6 : PySem.W.keepIn K (.ref f6) = true)
    (a7 : PySem.W.nsIn K mainGlobals "show_numbers" = some (some (.ref f7)))
    (l7 : K.lookup f7 = some ⟨oc7, od7, .func (PySem.W.fnOf "show_numbers" "show_numbers" (defArgs s_show_numbers) (defBody s_show_numbers) (defScope s_show_numbers) .none kV7 dc7 pm7 an7 cd7 ct7), sl7⟩)
    (y7 : PySem.W.codeIn K cd7 "show_numbers" = true)
    (k7 : PySem.W.keepIn K (.ref f7) = true)
    (a8 : PySem.W.nsIn K mainGlobals "show_curve" = some (some (.ref f8)))
    (l8 : K.lookup f8 = some ⟨oc8, od8, .func (PySem.W.fnOf "show_curve" "show_curve" (defArgs s_show_curve) (defBody s_show_curve) (defScope s_show_curve) .none kV8 dc8 pm8 an8 cd8 ct8), sl8⟩)
    (y8 : PySem.W.codeIn K cd8 "show_curve" = true)
    (k8 : PySem.W.keepIn K (.ref f8) = true)
    (a9 : PySem.W.nsIn K mainGlobals "number_in" = some (some (.ref f9)))
    (l9 : K.lookup f9 = some ⟨oc9, od9, .func (PySem.W.fnOf "number_in" "number_in" (defArgs s_number_in) (defBody s_number_in) (defScope s_number_in) .none kV9 dc9 pm9 an9 cd9 ct9), sl9⟩)
    (y9 : PySem.W.codeIn K cd9 "number_in" = true)
    (k9 : PySem.W.keepIn K (.ref f9) = true)
    (a10 : PySem.W.nsIn K mainGlobals "numbers_in" = some (some (.ref f10)))
    (l10 : K.lookup f10 = some ⟨oc10, od10, .func (PySem.W.fnOf "numbers_in" "numbers_in" (defArgs s_numbers_in) (defBody s_numbers_in) (defScope s_numbers_in) .none kV10 dc10 pm10 an10 cd10 ct10), sl10⟩)
    (y10 : PySem.W.codeIn K cd10 "numbers_in" = true)
    (k10 : PySem.W.keepIn K (.ref f10) = true)
    (a11 : PySem.W.nsIn K mainGlobals "keeps_bounds" = some (some (.ref f11)))
    (l11 : K.lookup f11 = some ⟨oc11, od11, .func (PySem.W.fnOf "keeps_bounds" "keeps_bounds" (defArgs s_keeps_bounds) (defBody s_keeps_bounds) (defScope s_keeps_bounds) .none kV11 dc11 pm11 an11 cd11 ct11), sl11⟩)
    (y11 : PySem.W.codeIn K cd11 "keeps_bounds" = true)
    (k11 : PySem.W.keepIn K (.ref f11) = true)
    (a12 : PySem.W.nsIn K mainGlobals "curve_in" = some (some (.ref f12)))
    (l12 : K.lookup f12 = some ⟨oc12, od12, .func (PySem.W.fnOf "curve_in" "curve_in" (defArgs s_curve_in) (defBody s_curve_in) (defScope s_curve_in) .none kV12 dc12 pm12 an12 cd12 ct12), sl12⟩)
    (y12 : PySem.W.codeIn K cd12 "curve_in" = true)
    (k12 : PySem.W.keepIn K (.ref f12) = true)
    (a13 : PySem.W.nsIn K mainGlobals "read_curve" = some (some (.ref f13)))
    (l13 : K.lookup f13 = some ⟨oc13, od13, .func (PySem.W.fnOf "read_curve" "read_curve" (defArgs s_read_curve) (defBody s_read_curve) (defScope s_read_curve) .none kV13 dc13 pm13 an13 cd13 ct13), sl13⟩)
    (y13 : PySem.W.codeIn K cd13 "read_curve" = true)
    (k13 : PySem.W.keepIn K (.ref f13) = true)
    (a14 : PySem.W.nsIn K mainGlobals "show_net" = some (some (.ref f14)))
    (l14 : K.lookup f14 = some ⟨oc14, od14, .func (PySem.W.fnOf "show_net" "show_net" (defArgs s_show_net) (defBody s_show_net) (defScope s_show_net) .none kV14 dc14 pm14 an14 cd14 ct14), sl14⟩)
    (y14 : PySem.W.codeIn K cd14 "show_net" = true)
    (k14 : PySem.W.keepIn K (.ref f14) = true)
    (a15 : PySem.W.nsIn K mainGlobals "server_in" = some (some (.ref f15)))
    (l15 : K.lookup f15 = some ⟨oc15, od15, .func (PySem.W.fnOf "server_in" "server_in" (defArgs s_server_in) (defBody s_server_in) (defScope s_server_in) .none kV15 dc15 pm15 an15 cd15 ct15), sl15⟩)
    (y15 : PySem.W.codeIn K cd15 "server_in" = true)
    (k15 : PySem.W.keepIn K (.ref f15) = true)
    (a16 : PySem.W.nsIn K mainGlobals "stream_in" = some (some (.ref f16)))
    (l16 : K.lookup f16 = some ⟨oc16, od16, .func (PySem.W.fnOf "stream_in" "stream_in" (defArgs s_stream_in) (defBody s_stream_in) (defScope s_stream_in) .none kV16 dc16 pm16 an16 cd16 ct16), sl16⟩)
    (y16 : PySem.W.codeIn K cd16 "stream_in" = true)
    (k16 : PySem.W.keepIn K (.ref f16) = true)
    (a17 : PySem.W.nsIn K mainGlobals "part_in" = some (some (.ref f17)))
    (l17 : K.lookup f17 = some ⟨oc17, od17, .func (PySem.W.fnOf "part_in" "part_in" (defArgs s_part_in) (defBody s_part_in) (defScope s_part_in) .none kV17 dc17 pm17 an17 cd17 ct17), sl17⟩)
    (y17 : PySem.W.codeIn K cd17 "part_in" = true)
    (k17 : PySem.W.keepIn K (.ref f17) = true)
    (a18 : PySem.W.nsIn K mainGlobals "read_net" = some (some (.ref f18)))
    (l18 : K.lookup f18 = some ⟨oc18, od18, .func (PySem.W.fnOf "read_net" "read_net" (defArgs s_read_net) (defBody s_read_net) (defScope s_read_net) .none kV18 dc18 pm18 an18 cd18 ct18), sl18⟩)
    (y18 : PySem.W.codeIn K cd18 "read_net" = true)
    (k18 : PySem.W.keepIn K (.ref f18) = true)
    (a19 : PySem.W.nsIn K mainGlobals "common_measure" = some (some (.ref f19)))
    (l19 : K.lookup f19 = some ⟨oc19, od19, .func (PySem.W.fnOf "common_measure" "common_measure" (defArgs s_common_measure) (defBody s_common_measure) (defScope s_common_measure) .none kV19 dc19 pm19 an19 cd19 ct19), sl19⟩)
    (y19 : PySem.W.codeIn K cd19 "common_measure" = true)
    (k19 : PySem.W.keepIn K (.ref f19) = true)
    (a20 : PySem.W.nsIn K mainGlobals "goes_on_by" = some (some (.ref f20)))
    (l20 : K.lookup f20 = some ⟨oc20, od20, .func (PySem.W.fnOf "goes_on_by" "goes_on_by" (defArgs s_goes_on_by) (defBody s_goes_on_by) (defScope s_goes_on_by) .none kV20 dc20 pm20 an20 cd20 ct20), sl20⟩)
    (y20 : PySem.W.codeIn K cd20 "goes_on_by" = true)
    (k20 : PySem.W.keepIn K (.ref f20) = true)
    (a21 : PySem.W.nsIn K mainGlobals "shortest_round" = some (some (.ref f21)))
    (l21 : K.lookup f21 = some ⟨oc21, od21, .func (PySem.W.fnOf "shortest_round" "shortest_round" (defArgs s_shortest_round) (defBody s_shortest_round) (defScope s_shortest_round) .none kV21 dc21 pm21 an21 cd21 ct21), sl21⟩)
    (y21 : PySem.W.codeIn K cd21 "shortest_round" = true)
    (k21 : PySem.W.keepIn K (.ref f21) = true)
    (a22 : PySem.W.nsIn K mainGlobals "reduced" = some (some (.ref f22)))
    (l22 : K.lookup f22 = some ⟨oc22, od22, .func (PySem.W.fnOf "reduced" "reduced" (defArgs s_reduced) (defBody s_reduced) (defScope s_reduced) .none kV22 dc22 pm22 an22 cd22 ct22), sl22⟩)
    (y22 : PySem.W.codeIn K cd22 "reduced" = true)
    (k22 : PySem.W.keepIn K (.ref f22) = true)
    (a23 : PySem.W.nsIn K mainGlobals "told" = some (some (.ref f23)))
    (l23 : K.lookup f23 = some ⟨oc23, od23, .func (PySem.W.fnOf "told" "told" (defArgs s_told) (defBody s_told) (defScope s_told) .none kV23 dc23 pm23 an23 cd23 ct23), sl23⟩)
    (y23 : PySem.W.codeIn K cd23 "told" = true)
    (k23 : PySem.W.keepIn K (.ref f23) = true)
    (a24 : PySem.W.nsIn K mainGlobals "plain" = some (some (.ref f24)))
    (l24 : K.lookup f24 = some ⟨oc24, od24, .func (PySem.W.fnOf "plain" "plain" (defArgs s_plain) (defBody s_plain) (defScope s_plain) .none kV24 dc24 pm24 an24 cd24 ct24), sl24⟩)
    (y24 : PySem.W.codeIn K cd24 "plain" = true)
    (k24 : PySem.W.keepIn K (.ref f24) = true)
    (a25 : PySem.W.nsIn K mainGlobals "common_round" = some (some (.ref f25)))
    (l25 : K.lookup f25 = some ⟨oc25, od25, .func (PySem.W.fnOf "common_round" "common_round" (defArgs s_common_round) (defBody s_common_round) (defScope s_common_round) .none kV25 dc25 pm25 an25 cd25 ct25), sl25⟩)
    (y25 : PySem.W.codeIn K cd25 "common_round" = true)
    (k25 : PySem.W.keepIn K (.ref f25) = true)
    (a26 : PySem.W.nsIn K mainGlobals "both_firsts" = some (some (.ref f26)))
    (l26 : K.lookup f26 = some ⟨oc26, od26, .func (PySem.W.fnOf "both_firsts" "both_firsts" (defArgs s_both_firsts) (defBody s_both_firsts) (defScope s_both_firsts) .none kV26 dc26 pm26 an26 cd26 ct26), sl26⟩)
    (y26 : PySem.W.codeIn K cd26 "both_firsts" = true)
    (k26 : PySem.W.keepIn K (.ref f26) = true)
    (a27 : PySem.W.nsIn K mainGlobals "plus" = some (some (.ref f27)))
    (l27 : K.lookup f27 = some ⟨oc27, od27, .func (PySem.W.fnOf "plus" "plus" (defArgs s_plus) (defBody s_plus) (defScope s_plus) .none kV27 dc27 pm27 an27 cd27 ct27), sl27⟩)
    (y27 : PySem.W.codeIn K cd27 "plus" = true)
    (k27 : PySem.W.keepIn K (.ref f27) = true)
    (a28 : PySem.W.nsIn K mainGlobals "_law_pen" = some (some (.ref f28)))
    (l28 : K.lookup f28 = some ⟨oc28, od28, .func (PySem.W.fnOf "_law_pen" "_law_pen" (defArgs s_law_pen) (defBody s_law_pen) (defScope s_law_pen) .none kV28 dc28 pm28 an28 cd28 ct28), sl28⟩)
    (y28 : PySem.W.codeIn K cd28 "_law_pen" = true)
    (k28 : PySem.W.keepIn K (.ref f28) = true)
    (a29 : PySem.W.nsIn K mainGlobals "_law_draw" = some (some (.ref f29)))
    (l29 : K.lookup f29 = some ⟨oc29, od29, .func (PySem.W.fnOf "_law_draw" "_law_draw" (defArgs s_law_draw) (defBody s_law_draw) (defScope s_law_draw) .none kV29 dc29 pm29 an29 cd29 ct29), sl29⟩)
    (y29 : PySem.W.codeIn K cd29 "_law_draw" = true)
    (k29 : PySem.W.keepIn K (.ref f29) = true)
    (a30 : PySem.W.nsIn K mainGlobals "_law_names" = some (some (.ref f30)))
    (l30 : K.lookup f30 = some ⟨oc30, od30, .func (PySem.W.fnOf "_law_names" "_law_names" (defArgs s_law_names) (defBody s_law_names) (defScope s_law_names) .none kV30 dc30 pm30 an30 cd30 ct30), sl30⟩)
    (y30 : PySem.W.codeIn K cd30 "_law_names" = true)
    (k30 : PySem.W.keepIn K (.ref f30) = true)
    (a31 : PySem.W.nsIn K mainGlobals "_law_any_curve" = some (some (.ref f31)))
    (l31 : K.lookup f31 = some ⟨oc31, od31, .func (PySem.W.fnOf "_law_any_curve" "_law_any_curve" (defArgs s_law_any_curve) (defBody s_law_any_curve) (defScope s_law_any_curve) .none kV31 dc31 pm31 an31 cd31 ct31), sl31⟩)
    (y31 : PySem.W.codeIn K cd31 "_law_any_curve" = true)
    (k31 : PySem.W.keepIn K (.ref f31) = true)
    (a32 : PySem.W.nsIn K mainGlobals "_law_numbers_text" = some (some (.ref f32)))
    (l32 : K.lookup f32 = some ⟨oc32, od32, .func (PySem.W.fnOf "_law_numbers_text" "_law_numbers_text" (defArgs s_law_numbers_text) (defBody s_law_numbers_text) (defScope s_law_numbers_text) .none kV32 dc32 pm32 an32 cd32 ct32), sl32⟩)
    (y32 : PySem.W.codeIn K cd32 "_law_numbers_text" = true)
    (k32 : PySem.W.keepIn K (.ref f32) = true)
    (a33 : PySem.W.nsIn K mainGlobals "_law_curve_text" = some (some (.ref f33)))
    (l33 : K.lookup f33 = some ⟨oc33, od33, .func (PySem.W.fnOf "_law_curve_text" "_law_curve_text" (defArgs s_law_curve_text) (defBody s_law_curve_text) (defScope s_law_curve_text) .none kV33 dc33 pm33 an33 cd33 ct33), sl33⟩)
    (y33 : PySem.W.codeIn K cd33 "_law_curve_text" = true)
    (k33 : PySem.W.keepIn K (.ref f33) = true)
    (a34 : PySem.W.nsIn K mainGlobals "_law_net_text" = some (some (.ref f34)))
    (l34 : K.lookup f34 = some ⟨oc34, od34, .func (PySem.W.fnOf "_law_net_text" "_law_net_text" (defArgs s_law_net_text) (defBody s_law_net_text) (defScope s_law_net_text) .none kV34 dc34 pm34 an34 cd34 ct34), sl34⟩)
    (y34 : PySem.W.codeIn K cd34 "_law_net_text" = true)
    (k34 : PySem.W.keepIn K (.ref f34) = true)
    (a35 : PySem.W.nsIn K mainGlobals "_law_any_route" = some (some (.ref f35)))
    (l35 : K.lookup f35 = some ⟨oc35, od35, .func (PySem.W.fnOf "_law_any_route" "_law_any_route" (defArgs s_law_any_route) (defBody s_law_any_route) (defScope s_law_any_route) .none kV35 dc35 pm35 an35 cd35 ct35), sl35⟩)
    (y35 : PySem.W.codeIn K cd35 "_law_any_route" = true)
    (k35 : PySem.W.keepIn K (.ref f35) = true)
    (a36 : PySem.W.nsIn K mainGlobals "_law_net" = some (some (.ref f36)))
    (l36 : K.lookup f36 = some ⟨oc36, od36, .func (PySem.W.fnOf "_law_net" "_law_net" (defArgs s_law_net) (defBody s_law_net) (defScope s_law_net) .none kV36 dc36 pm36 an36 cd36 ct36), sl36⟩)
    (y36 : PySem.W.codeIn K cd36 "_law_net" = true)
    (k36 : PySem.W.keepIn K (.ref f36) = true)
    (a37 : PySem.W.nsIn K mainGlobals "law" = some (some (.ref f37)))
    (l37 : K.lookup f37 = some ⟨oc37, od37, .func (PySem.W.fnOf "law" "law" (defArgs s_law) (defBody s_law) (defScope s_law) .none kV37 dc37 pm37 an37 cd37 ct37), sl37⟩)
    (y37 : PySem.W.codeIn K cd37 "law" = true)
    (k37 : PySem.W.keepIn K (.ref f37) = true)
    (z_abs : PySem.W.nsIn K mainGlobals "abs" = some none)
    (z_all : PySem.W.nsIn K mainGlobals "all" = some none)
    (z_bool : PySem.W.nsIn K mainGlobals "bool" = some none)
    (z_enumerate : PySem.W.nsIn K mainGlobals "enumerate" = some none)
    (z_int : PySem.W.nsIn K mainGlobals "int" = some none)
    (z_isinstance : PySem.W.nsIn K mainGlobals "isinstance" = some none)
    (z_len : PySem.W.nsIn K mainGlobals "len" = some none)
    (z_list : PySem.W.nsIn K mainGlobals "list" = some none)
    (z_max : PySem.W.nsIn K mainGlobals "max" = some none)
    (z_min : PySem.W.nsIn K mainGlobals "min" = some none)
    (z_range : PySem.W.nsIn K mainGlobals "range" = some none)
    (z_repr : PySem.W.nsIn K mainGlobals "repr" = some none)
    (z_str : PySem.W.nsIn K mainGlobals "str" = some none)
    (z_tuple : PySem.W.nsIn K mainGlobals "tuple" = some none)
    (k_LETTERS : PySem.W.nsIn K mainGlobals "LETTERS" = some (some (.str "abcdefghijklmnopqrstuvwxyz" tk_LETTERS)))
    (k_MOST_LETTERS : PySem.W.nsIn K mainGlobals "MOST_LETTERS" = some (some (.int 8 tk_MOST_LETTERS)))
    (k_MOST_PARTS : PySem.W.nsIn K mainGlobals "MOST_PARTS" = some (some (.int 6 tk_MOST_PARTS)))
    (k_FIGURES : PySem.W.nsIn K mainGlobals "FIGURES" = some (some (.str "0123456789" tk_FIGURES)))
    (k_MOST_FIGURES : PySem.W.nsIn K mainGlobals "MOST_FIGURES" = some (some (.int 30 tk_MOST_FIGURES)))
    (k_MOST_FIRST : PySem.W.nsIn K mainGlobals "MOST_FIRST" = some (some (.int 24 tk_MOST_FIRST)))
    (k_MOST_AGAIN : PySem.W.nsIn K mainGlobals "MOST_AGAIN" = some (some (.int 12 tk_MOST_AGAIN)))
    (k_MOST_NUMBER : PySem.W.nsIn K mainGlobals "MOST_NUMBER" = some (some (.int 1000000 tk_MOST_NUMBER)))
    (k_MOST_NUMBERS : PySem.W.nsIn K mainGlobals "MOST_NUMBERS" = some (some (.int 600 tk_MOST_NUMBERS)))
    (k_MOST_ROUND : PySem.W.nsIn K mainGlobals "MOST_ROUND" = some (some (.int 600 tk_MOST_ROUND)))
    (g_CurveError : PySem.W.nsIn K mainGlobals "CurveError" = some (some (.ref c_CurveError)))
    (g_TooLong : PySem.W.nsIn K mainGlobals "TooLong" = some (some (.ref c_TooLong)))
    (g_NoText : PySem.W.nsIn K mainGlobals "NoText" = some (some (.ref c_NoText)))
    (x_TooLong : PySem.W.excIn K c_TooLong [.type "ValueError", .type "Exception", .type "BaseException", .type "object"] "ValueError.__new__" = true)
    (kp_TooLong : PySem.W.keepIn K (.ref c_TooLong) = true)
    (be_TooLong : PySem.W.subIn K (.ref c_TooLong) (.type "BaseException") = some true)
    (ty_TooLong : PySem.W.typeIn K (.ref c_TooLong) = some (.type "type"))
    (ea_TooLong : PySem.W.findIn K (.ref c_TooLong) "__getattribute__" = some (some (.builtin "BaseException.__getattribute__")))
    (eb_TooLong : PySem.W.findIn K (.ref c_TooLong) "__getattr__" = some none)
    (ed_TooLong : PySem.W.hasDictIn K c_TooLong = true)
    (ee_TooLong : PySem.W.findIn K (.ref c_TooLong) "__class__" = some (some (.builtin "object.__class__")))
    (em_TooLong : PySem.W.mroIn K c_TooLong (.type "object") = some true)
    (su_TooLong_TooLong : PySem.W.subIn K (.ref c_TooLong) (.ref c_TooLong) = some true)
    (esp : PySem.W.specialIn K (.builtin "object.__class__") "__get__" = some (some (.builtin "getset_descriptor.__get__")))
    (etk : PySem.W.takesIn K (.builtin "object.__class__") = some true)
    : ∃ fd : FuncData, (∀ (s : Shared) (v : Value), BindsTo s fd ⟨[v], []⟩ [("script", v)]) ∧ ∀ base : Heap, K.In base → base.Ns mainGlobals mg → FnG P w K mg base CX0 8 fa fd ["script"] (spD K (lawSp 63)) := by
  have e := hfa.symm.trans (PySem.W.mg_of X G a37)
  cases e
  have F0 := fun_mk (st := s_is_number) l0 y0 k0
  have B0 := F0.binds (ps := ["thing"]) fun _ _ _ _ _ _ us hl => match us, hl with | [_], _ => rfl
  have F1 := fun_mk (st := s_are_numbers) l1 y1 k1
  have B1 := F1.binds (ps := ["thing"]) fun _ _ _ _ _ _ us hl => match us, hl with | [_], _ => rfl
  have F2 := fun_mk (st := s_is_curve) l2 y2 k2
  have B2 := F2.binds (ps := ["thing"]) fun _ _ _ _ _ _ us hl => match us, hl with | [_], _ => rfl
  have F3 := fun_mk (st := s_value) l3 y3 k3
  have B3 := F3.binds (ps := ["f", "t"]) fun _ _ _ _ _ _ us hl => match us, hl with | [_, _], _ => rfl
  have F4 := fun_mk (st := s_up_in) l4 y4 k4
  have B4 := F4.binds (ps := ["f", "turns"]) fun _ _ _ _ _ _ us hl => match us, hl with | [_, _], _ => rfl
  have F5 := fun_mk (st := s_is_name) l5 y5 k5
  have B5 := F5.binds (ps := ["thing"]) fun _ _ _ _ _ _ us hl => match us, hl with | [_], _ => rfl
  have F6 := fun_mk (st := s_is_route) l6 y6 k6
  have B6 := F6.binds (ps := ["names", "thing"]) fun _ _ _ _ _ _ us hl => match us, hl with | [_, _], _ => rfl
  have F7 := fun_mk (st := s_show_numbers) l7 y7 k7
  have B7 := F7.binds (ps := ["numbers"]) fun _ _ _ _ _ _ us hl => match us, hl with | [_], _ => rfl
  have F8 := fun_mk (st := s_show_curve) l8 y8 k8
  have B8 := F8.binds (ps := ["f"]) fun _ _ _ _ _ _ us hl => match us, hl with | [_], _ => rfl
  have F9 := fun_mk (st := s_number_in) l9 y9 k9
  have B9 := F9.binds (ps := ["word"]) fun _ _ _ _ _ _ us hl => match us, hl with | [_], _ => rfl
  have F10 := fun_mk (st := s_numbers_in) l10 y10 k10
  have B10 := F10.binds (ps := ["text"]) fun _ _ _ _ _ _ us hl => match us, hl with | [_], _ => rfl
  have F11 := fun_mk (st := s_keeps_bounds) l11 y11 k11
  have B11 := F11.binds (ps := ["f"]) fun _ _ _ _ _ _ us hl => match us, hl with | [_], _ => rfl
  have F12 := fun_mk (st := s_curve_in) l12 y12 k12
  have B12 := F12.binds (ps := ["text"]) fun _ _ _ _ _ _ us hl => match us, hl with | [_], _ => rfl
  have F13 := fun_mk (st := s_read_curve) l13 y13 k13
  have B13 := F13.binds (ps := ["text"]) fun _ _ _ _ _ _ us hl => match us, hl with | [_], _ => rfl
  have F14 := fun_mk (st := s_show_net) l14 y14 k14
  have B14 := F14.binds (ps := ["net"]) fun _ _ _ _ _ _ us hl => match us, hl with | [_], _ => rfl
  have F15 := fun_mk (st := s_server_in) l15 y15 k15
  have B15 := F15.binds (ps := ["words", "servers"]) fun _ _ _ _ _ _ us hl => match us, hl with | [_, _], _ => rfl
  have F16 := fun_mk (st := s_stream_in) l16 y16 k16
  have B16 := F16.binds (ps := ["words", "servers", "streams"]) fun _ _ _ _ _ _ us hl => match us, hl with | [_, _, _], _ => rfl
  have F17 := fun_mk (st := s_part_in) l17 y17 k17
  have B17 := F17.binds (ps := ["line", "servers", "streams"]) fun _ _ _ _ _ _ us hl => match us, hl with | [_, _, _], _ => rfl
  have F18 := fun_mk (st := s_read_net) l18 y18 k18
  have B18 := F18.binds (ps := ["text"]) fun _ _ _ _ _ _ us hl => match us, hl with | [_], _ => rfl
  have F19 := fun_mk (st := s_common_measure) l19 y19 k19
  have B19 := F19.binds (ps := ["a", "b"]) fun _ _ _ _ _ _ us hl => match us, hl with | [_, _], _ => rfl
  have F20 := fun_mk (st := s_goes_on_by) l20 y20 k20
  have B20 := F20.binds (ps := ["again", "rise", "round_here"]) fun _ _ _ _ _ _ us hl => match us, hl with | [_, _, _], _ => rfl
  have F21 := fun_mk (st := s_shortest_round) l21 y21 k21
  have B21 := F21.binds (ps := ["again", "rise"]) fun _ _ _ _ _ _ us hl => match us, hl with | [_, _], _ => rfl
  have F22 := fun_mk (st := s_reduced) l22 y22 k22
  have B22 := F22.binds (ps := ["first", "again", "rise"]) fun _ _ _ _ _ _ us hl => match us, hl with | [_, _, _], _ => rfl
  have F23 := fun_mk (st := s_told) l23 y23 k23
  have B23 := F23.binds (ps := ["numbers", "at", "round_here", "rise"]) fun _ _ _ _ _ _ us hl => match us, hl with | [_, _, _, _], _ => rfl
  have F24 := fun_mk (st := s_plain) l24 y24 k24
  have B24 := F24.binds (ps := ["f"]) fun _ _ _ _ _ _ us hl => match us, hl with | [_], _ => rfl
  have F25 := fun_mk (st := s_common_round) l25 y25 k25
  have B25 := F25.binds (ps := ["f", "g"]) fun _ _ _ _ _ _ us hl => match us, hl with | [_, _], _ => rfl
  have F26 := fun_mk (st := s_both_firsts) l26 y26 k26
  have B26 := F26.binds (ps := ["f", "g"]) fun _ _ _ _ _ _ us hl => match us, hl with | [_, _], _ => rfl
  have F27 := fun_mk (st := s_plus) l27 y27 k27
  have B27 := F27.binds (ps := ["f", "g"]) fun _ _ _ _ _ _ us hl => match us, hl with | [_, _], _ => rfl
  have F28 := fun_mk (st := s_law_pen) l28 y28 k28
  have B28 := F28.binds (ps := ["script"]) fun _ _ _ _ _ _ us hl => match us, hl with | [_], _ => rfl
  have F29 := fun_mk (st := s_law_draw) l29 y29 k29
  have B29 := F29.binds (ps := ["pen", "many"]) fun _ _ _ _ _ _ us hl => match us, hl with | [_, _], _ => rfl
  have F30 := fun_mk (st := s_law_names) l30 y30 k30
  have B30 := F30.binds (ps := ["pen", "many"]) fun _ _ _ _ _ _ us hl => match us, hl with | [_, _], _ => rfl
  have F31 := fun_mk (st := s_law_any_curve) l31 y31 k31
  have B31 := F31.binds (ps := ["pen"]) fun _ _ _ _ _ _ us hl => match us, hl with | [_], _ => rfl
  have F32 := fun_mk (st := s_law_numbers_text) l32 y32 k32
  have B32 := F32.binds (ps := ["numbers"]) fun _ _ _ _ _ _ us hl => match us, hl with | [_], _ => rfl
  have F33 := fun_mk (st := s_law_curve_text) l33 y33 k33
  have B33 := F33.binds (ps := ["curve"]) fun _ _ _ _ _ _ us hl => match us, hl with | [_], _ => rfl
  have F34 := fun_mk (st := s_law_net_text) l34 y34 k34
  have B34 := F34.binds (ps := ["net"]) fun _ _ _ _ _ _ us hl => match us, hl with | [_], _ => rfl
  have F35 := fun_mk (st := s_law_any_route) l35 y35 k35
  have B35 := F35.binds (ps := ["pen", "names"]) fun _ _ _ _ _ _ us hl => match us, hl with | [_, _], _ => rfl
  have F36 := fun_mk (st := s_law_net) l36 y36 k36
  have B36 := F36.binds (ps := ["pen"]) fun _ _ _ _ _ _ us hl => match us, hl with | [_], _ => rfl
  have F37 := fun_mk (st := s_law) l37 y37 k37
  have B37 := F37.binds (ps := ["script"]) fun _ _ _ _ _ _ us hl => match us, hl with | [_], _ => rfl
  have T : Tx K mg { f_is_number := f0, d_is_number := _, f_are_numbers := f1, d_are_numbers := _, f_is_curve := f2, d_is_curve := _, f_value := f3, d_value := _, f_up_in := f4, d_up_in := _, f_is_name := f5, d_is_name := _, f_is_route := f6, d_is_route := _, f_show_numbers := f7, d_show_numbers := _, f_show_curve := f8, d_show_curve := _, f_number_in := f9, d_number_in := _, f_numbers_in := f10, d_numbers_in := _, f_keeps_bounds := f11, d_keeps_bounds := _, f_curve_in := f12, d_curve_in := _, f_read_curve := f13, d_read_curve := _, f_show_net := f14, d_show_net := _, f_server_in := f15, d_server_in := _, f_stream_in := f16, d_stream_in := _, f_part_in := f17, d_part_in := _, f_read_net := f18, d_read_net := _, f_common_measure := f19, d_common_measure := _, f_goes_on_by := f20, d_goes_on_by := _, f_shortest_round := f21, d_shortest_round := _, f_reduced := f22, d_reduced := _, f_told := f23, d_told := _, f_plain := f24, d_plain := _, f_common_round := f25, d_common_round := _, f_both_firsts := f26, d_both_firsts := _, f_plus := f27, d_plus := _, f_law_pen := f28, d_law_pen := _, f_law_draw := f29, d_law_draw := _, f_law_names := f30, d_law_names := _, f_law_any_curve := f31, d_law_any_curve := _, f_law_numbers_text := f32, d_law_numbers_text := _, f_law_curve_text := f33, d_law_curve_text := _, f_law_net_text := f34, d_law_net_text := _, f_law_any_route := f35, d_law_any_route := _, f_law_net := f36, d_law_net := _, f_law := fa, d_law := _, c_CurveError := c_CurveError, c_TooLong := c_TooLong, c_NoText := c_NoText } := {
    F_is_number := F0, b_is_number := B0,
    g_is_number := PySem.W.mg_of X G a0,
    F_are_numbers := F1, b_are_numbers := B1,
    g_are_numbers := PySem.W.mg_of X G a1,
    F_is_curve := F2, b_is_curve := B2,
    g_is_curve := PySem.W.mg_of X G a2,
    F_value := F3, b_value := B3,
    g_value := PySem.W.mg_of X G a3,
    F_up_in := F4, b_up_in := B4,
    g_up_in := PySem.W.mg_of X G a4,
    F_is_name := F5, b_is_name := B5,
    g_is_name := PySem.W.mg_of X G a5,
    F_is_route := F6, b_is_route := B6,
    g_is_route := PySem.W.mg_of X G a6,
    F_show_numbers := F7, b_show_numbers := B7,
    g_show_numbers := PySem.W.mg_of X G a7,
    F_show_curve := F8, b_show_curve := B8,
    g_show_curve := PySem.W.mg_of X G a8,
    F_number_in := F9, b_number_in := B9,
    g_number_in := PySem.W.mg_of X G a9,
    F_numbers_in := F10, b_numbers_in := B10,
    g_numbers_in := PySem.W.mg_of X G a10,
    F_keeps_bounds := F11, b_keeps_bounds := B11,
    g_keeps_bounds := PySem.W.mg_of X G a11,
    F_curve_in := F12, b_curve_in := B12,
    g_curve_in := PySem.W.mg_of X G a12,
    F_read_curve := F13, b_read_curve := B13,
    g_read_curve := PySem.W.mg_of X G a13,
    F_show_net := F14, b_show_net := B14,
    g_show_net := PySem.W.mg_of X G a14,
    F_server_in := F15, b_server_in := B15,
    g_server_in := PySem.W.mg_of X G a15,
    F_stream_in := F16, b_stream_in := B16,
    g_stream_in := PySem.W.mg_of X G a16,
    F_part_in := F17, b_part_in := B17,
    g_part_in := PySem.W.mg_of X G a17,
    F_read_net := F18, b_read_net := B18,
    g_read_net := PySem.W.mg_of X G a18,
    F_common_measure := F19, b_common_measure := B19,
    g_common_measure := PySem.W.mg_of X G a19,
    F_goes_on_by := F20, b_goes_on_by := B20,
    g_goes_on_by := PySem.W.mg_of X G a20,
    F_shortest_round := F21, b_shortest_round := B21,
    g_shortest_round := PySem.W.mg_of X G a21,
    F_reduced := F22, b_reduced := B22,
    g_reduced := PySem.W.mg_of X G a22,
    F_told := F23, b_told := B23,
    g_told := PySem.W.mg_of X G a23,
    F_plain := F24, b_plain := B24,
    g_plain := PySem.W.mg_of X G a24,
    F_common_round := F25, b_common_round := B25,
    g_common_round := PySem.W.mg_of X G a25,
    F_both_firsts := F26, b_both_firsts := B26,
    g_both_firsts := PySem.W.mg_of X G a26,
    F_plus := F27, b_plus := B27,
    g_plus := PySem.W.mg_of X G a27,
    F_law_pen := F28, b_law_pen := B28,
    g_law_pen := PySem.W.mg_of X G a28,
    F_law_draw := F29, b_law_draw := B29,
    g_law_draw := PySem.W.mg_of X G a29,
    F_law_names := F30, b_law_names := B30,
    g_law_names := PySem.W.mg_of X G a30,
    F_law_any_curve := F31, b_law_any_curve := B31,
    g_law_any_curve := PySem.W.mg_of X G a31,
    F_law_numbers_text := F32, b_law_numbers_text := B32,
    g_law_numbers_text := PySem.W.mg_of X G a32,
    F_law_curve_text := F33, b_law_curve_text := B33,
    g_law_curve_text := PySem.W.mg_of X G a33,
    F_law_net_text := F34, b_law_net_text := B34,
    g_law_net_text := PySem.W.mg_of X G a34,
    F_law_any_route := F35, b_law_any_route := B35,
    g_law_any_route := PySem.W.mg_of X G a35,
    F_law_net := F36, b_law_net := B36,
    g_law_net := PySem.W.mg_of X G a36,
    F_law := F37, b_law := B37,
    g_law := PySem.W.mg_of X G a37,
    z_abs := PySem.W.mg_none_of X G z_abs,
    z_all := PySem.W.mg_none_of X G z_all,
    z_bool := PySem.W.mg_none_of X G z_bool,
    z_enumerate := PySem.W.mg_none_of X G z_enumerate,
    z_int := PySem.W.mg_none_of X G z_int,
    z_isinstance := PySem.W.mg_none_of X G z_isinstance,
    z_len := PySem.W.mg_none_of X G z_len,
    z_list := PySem.W.mg_none_of X G z_list,
    z_max := PySem.W.mg_none_of X G z_max,
    z_min := PySem.W.mg_none_of X G z_min,
    z_range := PySem.W.mg_none_of X G z_range,
    z_repr := PySem.W.mg_none_of X G z_repr,
    z_str := PySem.W.mg_none_of X G z_str,
    z_tuple := PySem.W.mg_none_of X G z_tuple,
    k_LETTERS := ⟨_, PySem.W.mg_of X G k_LETTERS⟩,
    k_MOST_LETTERS := ⟨_, PySem.W.mg_of X G k_MOST_LETTERS⟩,
    k_MOST_PARTS := ⟨_, PySem.W.mg_of X G k_MOST_PARTS⟩,
    k_FIGURES := ⟨_, PySem.W.mg_of X G k_FIGURES⟩,
    k_MOST_FIGURES := ⟨_, PySem.W.mg_of X G k_MOST_FIGURES⟩,
    k_MOST_FIRST := ⟨_, PySem.W.mg_of X G k_MOST_FIRST⟩,
    k_MOST_AGAIN := ⟨_, PySem.W.mg_of X G k_MOST_AGAIN⟩,
    k_MOST_NUMBER := ⟨_, PySem.W.mg_of X G k_MOST_NUMBER⟩,
    k_MOST_NUMBERS := ⟨_, PySem.W.mg_of X G k_MOST_NUMBERS⟩,
    k_MOST_ROUND := ⟨_, PySem.W.mg_of X G k_MOST_ROUND⟩,
    g_CurveError := PySem.W.mg_of X G g_CurveError,
    g_TooLong := PySem.W.mg_of X G g_TooLong,
    g_NoText := PySem.W.mg_of X G g_NoText,
    x_TooLong := x_TooLong,
    kp_TooLong := kp_TooLong,
    be_TooLong := be_TooLong,
    ty_TooLong := ty_TooLong }
  exact ⟨_, fun s v => .of_eq rfl, fun base _ _ => ok_law T⟩
end K58

open PySem PySem.W PyProof.Rows
set_option maxRecDepth 100000 in
set_option maxHeartbeats 0 in
theorem PySem.Challenge.cw_arrivalcurves_k58_curves_and_nets_writte_holds : PySem.Challenge.rw_arrivalcurves_k58_curves_and_nets_writte.Holds := by
  w_on; o_law; k_head; (case hw => w_witness2)
  k_fill
  refine Dl.walk_g (l := PySem.Challenge.rw_arrivalcurves_k58_curves_and_nets_writte) (n := 63) (k := 8) (x := "script") rfl (by decide) rfl ⟨rfl, by decide, by decide⟩ (fun w h Y => PySem.W.kIn_of Y) ?F
  case F =>
    intro w mg fa h KX G hmg
    refine' K58.all_mk KX G hmg ?a0 ?l0 ?y0 ?k0 ?a1 ?l1 ?y1 ?k1 ?a2 ?l2 ?y2 ?k2 ?a3 ?l3 ?y3 ?k3 ?a4 ?l4 ?y4 ?k4 ?a5 ?l5 ?y5 ?k5 ?a6 ?l6 ?y6 ?k6 ?a7 ?l7 ?y7 ?k7 ?a8 ?l8 ?y8 ?k8 ?a9 ?l9 ?y9 ?k9 ?a10 ?l10 ?y10 ?k10 ?a11 ?l11 ?y11 ?k11 ?a12 ?l12 ?y12 ?k12 ?a13 ?l13 ?y13 ?k13 ?a14 ?l14 ?y14 ?k14 ?a15 ?l15 ?y15 ?k15 ?a16 ?l16 ?y16 ?k16 ?a17 ?l17 ?y17 ?k17 ?a18 ?l18 ?y18 ?k18 ?a19 ?l19 ?y19 ?k19 ?a20 ?l20 ?y20 ?k20 ?a21 ?l21 ?y21 ?k21 ?a22 ?l22 ?y22 ?k22 ?a23 ?l23 ?y23 ?k23 ?a24 ?l24 ?y24 ?k24 ?a25 ?l25 ?y25 ?k25 ?a26 ?l26 ?y26 ?k26 ?a27 ?l27 ?y27 ?k27 ?a28 ?l28 ?y28 ?k28 ?a29 ?l29 ?y29 ?k29 ?a30 ?l30 ?y30 ?k30 ?a31 ?l31 ?y31 ?k31 ?a32 ?l32 ?y32 ?k32 ?a33 ?l33 ?y33 ?k33 ?a34 ?l34 ?y34 ?k34 ?a35 ?l35 ?y35 ?k35 ?a36 ?l36 ?y36 ?k36 ?a37 ?l37 ?y37 ?k37 ?z_abs ?z_all ?z_bool ?z_enumerate ?z_int ?z_isinstance ?z_len ?z_list ?z_max ?z_min ?z_range ?z_repr ?z_str ?z_tuple ?k_LETTERS ?k_MOST_LETTERS ?k_MOST_PARTS ?k_FIGURES ?k_MOST_FIGURES ?k_MOST_FIRST ?k_MOST_AGAIN ?k_MOST_NUMBER ?k_MOST_NUMBERS ?k_MOST_ROUND ?g_CurveError ?g_TooLong ?g_NoText ?x_TooLong ?kp_TooLong ?be_TooLong ?ty_TooLong ?ea_TooLong ?eb_TooLong ?ed_TooLong ?ee_TooLong ?em_TooLong ?su_TooLong_TooLong ?esp ?etk
    (case a0 => k_is)
    (case l0 => k_is)
    (case y0 => k_is)
    (case k0 => k_is)
    (case a1 => k_is)
    (case l1 => k_is)
    (case y1 => k_is)
    (case k1 => k_is)
    (case a2 => k_is)
    (case l2 => k_is)
    (case y2 => k_is)
    (case k2 => k_is)
    (case a3 => k_is)
    (case l3 => k_is)
    (case y3 => k_is)
    (case k3 => k_is)
    (case a4 => k_is)
    (case l4 => k_is)
    (case y4 => k_is)
    (case k4 => k_is)
    (case a5 => k_is)
    (case l5 => k_is)
    (case y5 => k_is)
    (case k5 => k_is)
    (case a6 => k_is)
    (case l6 => k_is)
    (case y6 => k_is)
    (case k6 => k_is)
    (case a7 => k_is)
    (case l7 => k_is)
    (case y7 => k_is)
    (case k7 => k_is)
    (case a8 => k_is)
    (case l8 => k_is)
    (case y8 => k_is)
    (case k8 => k_is)
    (case a9 => k_is)
    (case l9 => k_is)
    (case y9 => k_is)
    (case k9 => k_is)
    (case a10 => k_is)
    (case l10 => k_is)
    (case y10 => k_is)
    (case k10 => k_is)
    (case a11 => k_is)
    (case l11 => k_is)
    (case y11 => k_is)
    (case k11 => k_is)
    (case a12 => k_is)
    (case l12 => k_is)
    (case y12 => k_is)
    (case k12 => k_is)
    (case a13 => k_is)
    (case l13 => k_is)
    (case y13 => k_is)
    (case k13 => k_is)
    (case a14 => k_is)
    (case l14 => k_is)
    (case y14 => k_is)
    (case k14 => k_is)
    (case a15 => k_is)
    (case l15 => k_is)
    (case y15 => k_is)
    (case k15 => k_is)
    (case a16 => k_is)
    (case l16 => k_is)
    (case y16 => k_is)
    (case k16 => k_is)
    (case a17 => k_is)
    (case l17 => k_is)
    (case y17 => k_is)
    (case k17 => k_is)
    (case a18 => k_is)
    (case l18 => k_is)
    (case y18 => k_is)
    (case k18 => k_is)
    (case a19 => k_is)
    (case l19 => k_is)
    (case y19 => k_is)
    (case k19 => k_is)
    (case a20 => k_is)
    (case l20 => k_is)
    (case y20 => k_is)
    (case k20 => k_is)
    (case a21 => k_is)
    (case l21 => k_is)
    (case y21 => k_is)
    (case k21 => k_is)
    (case a22 => k_is)
    (case l22 => k_is)
    (case y22 => k_is)
    (case k22 => k_is)
    (case a23 => k_is)
    (case l23 => k_is)
    (case y23 => k_is)
    (case k23 => k_is)
    (case a24 => k_is)
    (case l24 => k_is)
    (case y24 => k_is)
    (case k24 => k_is)
    (case a25 => k_is)
    (case l25 => k_is)
    (case y25 => k_is)
    (case k25 => k_is)
    (case a26 => k_is)
    (case l26 => k_is)
    (case y26 => k_is)
    (case k26 => k_is)
    (case a27 => k_is)
    (case l27 => k_is)
    (case y27 => k_is)
    (case k27 => k_is)
    (case a28 => k_is)
    (case l28 => k_is)
    (case y28 => k_is)
    (case k28 => k_is)
    (case a29 => k_is)
    (case l29 => k_is)
    (case y29 => k_is)
    (case k29 => k_is)
    (case a30 => k_is)
    (case l30 => k_is)
    (case y30 => k_is)
    (case k30 => k_is)
    (case a31 => k_is)
    (case l31 => k_is)
    (case y31 => k_is)
    (case k31 => k_is)
    (case a32 => k_is)
    (case l32 => k_is)
    (case y32 => k_is)
    (case k32 => k_is)
    (case a33 => k_is)
    (case l33 => k_is)
    (case y33 => k_is)
    (case k33 => k_is)
    (case a34 => k_is)
    (case l34 => k_is)
    (case y34 => k_is)
    (case k34 => k_is)
    (case a35 => k_is)
    (case l35 => k_is)
    (case y35 => k_is)
    (case k35 => k_is)
    (case a36 => k_is)
    (case l36 => k_is)
    (case y36 => k_is)
    (case k36 => k_is)
    (case a37 => k_is)
    (case l37 => k_is)
    (case y37 => k_is)
    (case k37 => k_is)
    (case z_abs => k_is)
    (case z_all => k_is)
    (case z_bool => k_is)
    (case z_enumerate => k_is)
    (case z_int => k_is)
    (case z_isinstance => k_is)
    (case z_len => k_is)
    (case z_list => k_is)
    (case z_max => k_is)
    (case z_min => k_is)
    (case z_range => k_is)
    (case z_repr => k_is)
    (case z_str => k_is)
    (case z_tuple => k_is)
    (case k_LETTERS => k_is)
    (case k_MOST_LETTERS => k_is)
    (case k_MOST_PARTS => k_is)
    (case k_FIGURES => k_is)
    (case k_MOST_FIGURES => k_is)
    (case k_MOST_FIRST => k_is)
    (case k_MOST_AGAIN => k_is)
    (case k_MOST_NUMBER => k_is)
    (case k_MOST_NUMBERS => k_is)
    (case k_MOST_ROUND => k_is)
    (case g_CurveError => k_is)
    (case g_TooLong => k_is)
    (case g_NoText => k_is)
    (case x_TooLong => k_exc)
    (case kp_TooLong => k_is)
    (case be_TooLong => k_is)
    (case ty_TooLong => k_is)
    (case ea_TooLong => k_is)
    (case eb_TooLong => k_is)
    (case ed_TooLong => k_is)
    (case ee_TooLong => k_is)
    (case em_TooLong => k_is)
    (case su_TooLong_TooLong => k_is)
    (case esp => k_is)
    (case etk => k_is)

