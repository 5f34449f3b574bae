import PyProof.Rows.All
import Wide.All
import OpenK.AllK
import Wide.FinOn
import HandS.ForMost
import HandS.Exc
import HandS.WordsExc
import HandS.IsInst
import HandS.Walk
import HandS.CallSlots
import HandS.TupAny
import HandS.Wide
import HandS.SortInts
import HandS.SortRule
import KE.DataEq
import HandS.More
import HandS.StrMore
import HandS.Flow
import HandS.NoneIn
import HandS.Defaults
import HandS.MakeKwOnly
import HandS.Style
import HandS.MakeKw
import HandS.ExcInit
import HandS.ExcField
import HandS.ExcIs
import HandS.TryOnly
import HandS.TryMany
import KE.KExcIs
import HandS.SortKw
import KE.DatumOrd
import HandS.FStr
import KE.KCallOwn
import HandS.ListItems
import KE.SortData
import HandS.SetKeys
import HandS.WordsDict
import PySem.Challenge.RW_pagelodge_k08_pieces_in_any_order
set_option Elab.async false
set_option linter.all false
set_option maxRecDepth 100000
namespace Fw
open PySem PySem.Spec PyProof.Rows L2

/-! ### data -/
def Ex (H H' : Hp) : Prop := ∀ a o, H a = some o → H' a = some o
theorem Ex.refl (H : Hp) : Ex H H := fun _ _ h => h
theorem Ex.trans {H H1 H2 : Hp} (a : Ex H H1) (b : Ex H1 H2) : Ex H H2 := fun x o h => b x o (a x o h)
theorem Ex.new {H : Hp} {p : Addr} {o : HO} (h : H p = none) : Ex H (upd H p o) := fun x u e => by
  rw [upd_ne (ne_of_none e h)]
  exact e
theorem ex_rd {H H' : Hp} {a : Addr} {u : HO} (e : Ex H H') (h : Rd H a u) : Rd H' a u := by
  rcases h with h | ⟨o, h⟩
  · exact .inl (e _ _ h)
  · exact .inr ⟨o, e _ _ h⟩
theorem ex_l {K : PySem.W.Frag} {H H' : Hp} {a : Addr} {xs : List V} (e : Ex H H') (h : SqL K H a xs) : SqL K H' a xs := by
  rcases h with h | h
  · exact .inl (ex_rd e h)
  · exact .inr h
theorem ex_t {K : PySem.W.Frag} {H H' : Hp} {a : Addr} {xs : List V} (e : Ex H H') (h : SqT K H a xs) : SqT K H' a xs := by
  rcases h with h | h
  · exact .inl (ex_rd e h)
  · exact .inr h
inductive D where
  | non | bl (b : Bool) | int (i : Int) | str (x : Str)
  | tup (ds : List D) | rot (ds : List D) | lst (ds : List D) | rol (ds : List D)
  | dk (kvs : List (Key × D)) | dt (kvs : List (List Key × D))
  | ins (c : Nat) (fs : List (Str × D))
  | ty (n : String) | cl (n : Nat)
  | exn (a dd : Addr) (c : Nat) (fs : List (Str × D))
  deriving Inhabited

structure Wc where
  K : PySem.W.Frag
  cls : Nat → Addr

inductive Dat (W : Wc) (F : Hp) : V → D → Prop
  | non : Dat W F .non .non
  | bl (b : Bool) : Dat W F (.bl b) (.bl b)
  | int (i : Int) : Dat W F (.int i) (.int i)
  | str (x : Str) : Dat W F (.str x) (.str x)
  | ty (n : String) : Dat W F (.ty n) (.ty n)
  | cl (n : Nat) : Dat W F (.ref (W.cls n)) (.cl n)
  | exn {a dd : Addr} {n : Nat} {fs' : List (Str × V)} {fs : List (Str × D)} (h : F dd = some (.xd fs')) (k : fs'.map (·.1) = fs.map (·.1)) (c : ∀ (i : Nat) v d, (fs'.map (·.2))[i]? = some v → (fs.map (·.2))[i]? = some d → Dat W F v d) : Dat W F (.ref a) (.exn a dd n fs)
  | tup {a : Addr} {vs : List V} {ds : List D} (h : F a = some (.tup vs)) (l : vs.length = ds.length) (c : ∀ (i : Nat) v d, vs[i]? = some v → ds[i]? = some d → Dat W F v d) : Dat W F (.ref a) (.tup ds)
  | rot {a : Addr} {vs : List V} {ds : List D} (h : SqT W.K F a vs) (l : vs.length = ds.length) (c : ∀ (i : Nat) v d, vs[i]? = some v → ds[i]? = some d → Dat W F v d) : Dat W F (.ref a) (.rot ds)
  | lst {a : Addr} {vs : List V} {ds : List D} (h : F a = some (.lst vs)) (l : vs.length = ds.length) (c : ∀ (i : Nat) v d, vs[i]? = some v → ds[i]? = some d → Dat W F v d) : Dat W F (.ref a) (.lst ds)
  | rol {a : Addr} {vs : List V} {ds : List D} (h : SqL W.K F a vs) (l : vs.length = ds.length) (c : ∀ (i : Nat) v d, vs[i]? = some v → ds[i]? = some d → Dat W F v d) : Dat W F (.ref a) (.rol ds)
  | dk {a : Addr} {kvs' : List (Key × V)} {kvs : List (Key × D)} (h : F a = some (.dK kvs')) (k : kvs'.map (·.1) = kvs.map (·.1)) (c : ∀ (i : Nat) v d, (kvs'.map (·.2))[i]? = some v → (kvs.map (·.2))[i]? = some d → Dat W F v d) : Dat W F (.ref a) (.dk kvs)
  | dt {a : Addr} {kvs' : List (List Key × V)} {kvs : List (List Key × D)} (h : F a = some (.dT kvs')) (k : kvs'.map (·.1) = kvs.map (·.1)) (c : ∀ (i : Nat) v d, (kvs'.map (·.2))[i]? = some v → (kvs.map (·.2))[i]? = some d → Dat W F v d) : Dat W F (.ref a) (.dt kvs)
  | ins {a dx : Addr} {n : Nat} {fs' : List (Str × V)} {fs : List (Str × D)} (h : F a = some (.ins (W.cls n) dx fs')) (k : fs'.map (·.1) = fs.map (·.1)) (c : ∀ (i : Nat) v d, (fs'.map (·.2))[i]? = some v → (fs.map (·.2))[i]? = some d → Dat W F v d) : Dat W F (.ref a) (.ins n fs)

def DL (W : Wc) (F : Hp) (vs : List V) (ds : List D) : Prop := vs.length = ds.length ∧ ∀ (i : Nat) v d, vs[i]? = some v → ds[i]? = some d → Dat W F v d
/-- pairs with equal first parts -/
def DP {κ : Type} (W : Wc) (F : Hp) (vs : List (κ × V)) (ds : List (κ × D)) : Prop := vs.map (·.1) = ds.map (·.1) ∧ ∀ (i : Nat) v d, (vs.map (·.2))[i]? = some v → (ds.map (·.2))[i]? = some d → Dat W F v d

section
variable {W : Wc} {F F' H H' : Hp} {v : V} {d : D} {vs : List V} {ds : List D}
theorem Dat.mono (h : Dat W F v d) (e : Ex F F') : Dat W F' v d := by
  induction h with
  | non => exact .non
  | bl b => exact .bl b
  | int i => exact .int i
  | str x => exact .str x
  | ty n => exact .ty n
  | cl n => exact .cl n
  | exn h k c ih => exact .exn (e _ _ h) k ih
  | tup h l c ih => exact .tup (e _ _ h) l ih
  | rot h l c ih => exact .rot (ex_t e h) l ih
  | lst h l c ih => exact .lst (e _ _ h) l ih
  | rol h l c ih => exact .rol (ex_l e h) l ih
  | dk h k c ih => exact .dk (e _ _ h) k ih
  | dt h k c ih => exact .dt (e _ _ h) k ih
  | ins h k c ih => exact .ins (e _ _ h) k ih
theorem DL.mono (h : DL W F vs ds) (e : Ex F F') : DL W F' vs ds := ⟨h.1, fun i v d a b => (h.2 i v d a b).mono e⟩
theorem DP.mono {κ : Type} {vs : List (κ × V)} {ds : List (κ × D)} (h : DP W F vs ds) (e : Ex F F') : DP W F' vs ds := ⟨h.1, fun i v d a b => (h.2 i v d a b).mono e⟩
theorem DL.nil : DL W F [] [] := ⟨rfl, fun i v d a b => by simp at a⟩
theorem DL.cons (h : Dat W F v d) (t : DL W F vs ds) : DL W F (v :: vs) (d :: ds) := by
  refine ⟨by simp [t.1], fun i x y a b => ?_⟩
  cases i with
  | zero => simp at a b; subst a; subst b; exact h
  | succ i => exact t.2 i x y (by simpa using a) (by simpa using b)
theorem DL.head (h : DL W F (v :: vs) (d :: ds)) : Dat W F v d := h.2 0 v d rfl rfl
theorem DL.tail (h : DL W F (v :: vs) (d :: ds)) : DL W F vs ds := ⟨by simpa using h.1, fun i x y a b => h.2 (i + 1) x y (by simpa using a) (by simpa using b)⟩
theorem DL.inv_cons {vs : List V} (h : DL W F vs (d :: ds)) : ∃ v r, vs = v :: r ∧ Dat W F v d ∧ DL W F r ds := by
  cases vs with
  | nil => have := h.1; simp at this
  | cons v r => exact ⟨v, r, rfl, h.head, h.tail⟩
theorem DL.inv_nil {vs : List V} (h : DL W F vs []) : vs = [] := List.eq_nil_of_length_eq_zero h.1
theorem DL.append : ∀ {vs ws : List V} {ds es : List D}, DL W F vs ds → DL W F ws es → DL W F (vs ++ ws) (ds ++ es)
  | [], _, [], _, _, h => h
  | [], _, _ :: _, _, h, _ => by have := h.1; simp at this
  | _ :: _, _, [], _, h, _ => by have := h.1; simp at this
  | v :: vs, ws, d :: ds, es, h, h' => DL.cons h.head (DL.append h.tail h')
theorem DL.get {i : Nat} (h : DL W F vs ds) (e : ds[i]? = some d) : ∃ v, vs[i]? = some v ∧ Dat W F v d := by
  obtain ⟨hl, e2⟩ := List.getElem?_eq_some_iff.mp e
  have hv : i < vs.length := by rw [h.1]; exact hl
  exact ⟨vs[i], List.getElem?_eq_getElem hv, h.2 i _ _ (List.getElem?_eq_getElem hv) e⟩
theorem DL.getV {i : Nat} (h : DL W F vs ds) (e : vs[i]? = some v) : ∃ d, ds[i]? = some d ∧ Dat W F v d := by
  obtain ⟨hl, e2⟩ := List.getElem?_eq_some_iff.mp e
  have hv : i < ds.length := by rw [← h.1]; exact hl
  exact ⟨ds[i], List.getElem?_eq_getElem hv, h.2 i _ _ e (List.getElem?_eq_getElem hv)⟩
theorem DL.take (n : Nat) (h : DL W F vs ds) : DL W F (vs.take n) (ds.take n) := by
  refine ⟨by simp [h.1], fun i v d a b => ?_⟩
  rw [List.getElem?_take] at a b
  split at a
  · rename_i hi
    rw [if_pos hi] at b
    exact h.2 i v d a b
  · cases a
theorem DL.drop (n : Nat) (h : DL W F vs ds) : DL W F (vs.drop n) (ds.drop n) := by
  refine ⟨by simp [h.1], fun i v d a b => ?_⟩
  rw [List.getElem?_drop] at a b
  exact h.2 (n + i) v d a b
theorem DL.set (i : Nat) (h : DL W F vs ds) (hd : Dat W F v d) : DL W F (vs.set i v) (ds.set i d) := by
  refine ⟨by simp [h.1], fun j x y a b => ?_⟩
  by_cases e : i = j
  · subst e
    have l1 : i < vs.length := by
      have := (List.getElem?_eq_some_iff.mp a).1
      simpa using this
    have l2 : i < ds.length := by rw [← h.1]; exact l1
    rw [List.getElem?_set_self l1] at a
    rw [List.getElem?_set_self l2] at b
    cases a; cases b; exact hd
  · rw [List.getElem?_set_ne e] at a b
    exact h.2 j x y a b
theorem DL.ints : ∀ {vs : List V} {ns : List Int}, DL W F vs (ns.map D.int) → vs = ns.map V.int
  | [], [], _ => rfl
  | [], _ :: _, h => by have := h.1; simp at this
  | _ :: _, [], h => by have := h.1; simp at this
  | v :: vs, n :: ns, h => by
    have h1 : Dat W F v (.int n) := h.head
    cases h1
    rw [List.map_cons, DL.ints (ns := ns) h.tail]
theorem DL.strs : ∀ {vs : List V} {ns : List Str}, DL W F vs (ns.map D.str) → vs = ns.map V.str
  | [], [], _ => rfl
  | [], _ :: _, h => by have := h.1; simp at this
  | _ :: _, [], h => by have := h.1; simp at this
  | v :: vs, n :: ns, h => by
    have h1 : Dat W F v (.str n) := h.head
    cases h1
    rw [List.map_cons, DL.strs (ns := ns) h.tail]
theorem DL.bls : ∀ {vs : List V} {ns : List Bool}, DL W F vs (ns.map D.bl) → vs = ns.map V.bl
  | [], [], _ => rfl
  | [], _ :: _, h => by have := h.1; simp at this
  | _ :: _, [], h => by have := h.1; simp at this
  | v :: vs, n :: ns, h => by
    have h1 : Dat W F v (.bl n) := h.head
    cases h1
    rw [List.map_cons, DL.bls (ns := ns) h.tail]
theorem DL.of_ints : ∀ (ns : List Int), DL W F (ns.map V.int) (ns.map D.int)
  | [] => .nil
  | n :: ns => .cons (.int n) (DL.of_ints ns)
theorem DL.of_strs : ∀ (ns : List Str), DL W F (ns.map V.str) (ns.map D.str)
  | [] => .nil
  | n :: ns => .cons (.str n) (DL.of_strs ns)
end

/-- what stands at a cell -/
def Top (W : Wc) (F H : Hp) (a : Addr) : D → Prop
  | .lst ds => ∃ vs, H a = some (.lst vs) ∧ DL W F vs ds
  | .dk kvs => ∃ kvs', H a = some (.dK kvs') ∧ DP W F kvs' kvs
  | .dt kvs => ∃ kvs', H a = some (.dT kvs') ∧ DP W F kvs' kvs
  | .ins c fs => ∃ dx fs', H a = some (.ins (W.cls c) dx fs') ∧ DP W F fs' fs
  | _ => False

section
variable {W : Wc} {F F' H H' : Hp} {a : Addr} {v : V} {d : D}
theorem Top.there (h : Top W F H a d) : ∃ o, H a = some o := by
  cases d with
  | lst ds => obtain ⟨vs, e, _⟩ := h; exact ⟨_, e⟩
  | dk kvs => obtain ⟨vs, e, _⟩ := h; exact ⟨_, e⟩
  | dt kvs => obtain ⟨vs, e, _⟩ := h; exact ⟨_, e⟩
  | ins c fs => obtain ⟨dx, vs, e, _⟩ := h; exact ⟨_, e⟩
  | _ => exact h.elim
theorem Top.mono (h : Top W F H a d) (e : Ex F F') (e' : ∀ o, H a = some o → H' a = some o) : Top W F' H' a d := by
  cases d with
  | lst ds => obtain ⟨vs, x, y⟩ := h; exact ⟨vs, e' _ x, y.mono e⟩
  | dk kvs => obtain ⟨vs, x, y⟩ := h; exact ⟨vs, e' _ x, y.mono e⟩
  | dt kvs => obtain ⟨vs, x, y⟩ := h; exact ⟨vs, e' _ x, y.mono e⟩
  | ins c fs => obtain ⟨dx, vs, x, y⟩ := h; exact ⟨dx, vs, e' _ x, y.mono e⟩
  | _ => exact h.elim
/-- a cell that is seen in the frozen heap is data -/
theorem Top.dat (h : Top W F H a d) (e : Ex F F') (e' : ∀ o, H a = some o → F' a = some o) : Dat W F' (.ref a) d := by
  cases d with
  | lst ds => obtain ⟨vs, x, y⟩ := h; exact .lst (e' _ x) y.1 (y.mono e).2
  | dk kvs => obtain ⟨vs, x, y⟩ := h; exact .dk (e' _ x) y.1 (y.mono e).2
  | dt kvs => obtain ⟨vs, x, y⟩ := h; exact .dt (e' _ x) y.1 (y.mono e).2
  | ins c fs => obtain ⟨dx, vs, x, y⟩ := h; exact .ins (e' _ x) y.1 (y.mono e).2
  | _ => exact h.elim
end
/-- a value that may be looked at: shared data, or a cell -/
def VB (W : Wc) (F H : Hp) (v : V) (d : D) : Prop := Dat W F v d ∨ ∃ a, v = .ref a ∧ Top W F H a d ∧ F a = none
theorem VB.dat {W : Wc} {F H : Hp} {v : V} {d : D} (h : VB W F H v d) (s : Ex F H) : Dat W H v d := by
  rcases h with h | ⟨a, rfl, t, _⟩
  · exact h.mono s
  · exact t.dat s fun o e => e
theorem VB.lst {W : Wc} {F H : Hp} {v : V} {ds : List D} (h : VB W F H v (.lst ds)) (s : Ex F H) : ∃ a vs, v = .ref a ∧ H a = some (.lst vs) ∧ DL W F vs ds := by
  rcases h with h | ⟨a, rfl, ⟨vs, t, l⟩, _⟩
  · cases h with
    | lst h l c => exact ⟨_, _, rfl, s _ _ h, l, c⟩
  · exact ⟨a, vs, rfl, t, l⟩
theorem VB.tup {W : Wc} {F H : Hp} {v : V} {ds : List D} (h : VB W F H v (.tup ds)) (s : Ex F H) : ∃ a vs, v = .ref a ∧ H a = some (.tup vs) ∧ DL W F vs ds := by
  rcases h with h | ⟨a, rfl, t, _⟩
  · cases h with
    | tup h l c => exact ⟨_, _, rfl, s _ _ h, l, c⟩
  · exact t.elim
theorem VB.rot {W : Wc} {F H : Hp} {v : V} {ds : List D} (h : VB W F H v (.rot ds)) (s : Ex F H) : ∃ a vs, v = .ref a ∧ SqT W.K H a vs ∧ DL W F vs ds := by
  rcases h with h | ⟨a, rfl, t, _⟩
  · cases h with
    | rot h l c => exact ⟨_, _, rfl, ex_t s h, l, c⟩
  · exact t.elim
theorem VB.ty {W : Wc} {F H : Hp} {v : V} {n : String} (h : VB W F H v (.ty n)) : v = .ty n := by
  rcases h with h | ⟨a, rfl, t, _⟩
  · cases h; rfl
  · exact t.elim
theorem VB.cl {W : Wc} {F H : Hp} {v : V} {n : Nat} (h : VB W F H v (.cl n)) : v = .ref (W.cls n) := by
  rcases h with h | ⟨a, rfl, t, _⟩
  · cases h; rfl
  · exact t.elim
theorem VB.rol {W : Wc} {F H : Hp} {v : V} {ds : List D} (h : VB W F H v (.rol ds)) (s : Ex F H) : ∃ a vs, v = .ref a ∧ SqL W.K H a vs ∧ DL W F vs ds := by
  rcases h with h | ⟨a, rfl, t, _⟩
  · cases h with
    | rol h l c => exact ⟨_, _, rfl, ex_l s h, l, c⟩
  · exact t.elim
theorem VB.dk {W : Wc} {F H : Hp} {v : V} {kvs : List (Key × D)} (h : VB W F H v (.dk kvs)) (s : Ex F H) : ∃ a kvs', v = .ref a ∧ H a = some (.dK kvs') ∧ DP W F kvs' kvs := by
  rcases h with h | ⟨a, rfl, ⟨vs, t, l⟩, _⟩
  · cases h with
    | dk h l c => exact ⟨_, _, rfl, s _ _ h, l, c⟩
  · exact ⟨a, vs, rfl, t, l⟩
theorem VB.dt {W : Wc} {F H : Hp} {v : V} {kvs : List (List Key × D)} (h : VB W F H v (.dt kvs)) (s : Ex F H) : ∃ a kvs', v = .ref a ∧ H a = some (.dT kvs') ∧ DP W F kvs' kvs := by
  rcases h with h | ⟨a, rfl, ⟨vs, t, l⟩, _⟩
  · cases h with
    | dt h l c => exact ⟨_, _, rfl, s _ _ h, l, c⟩
  · exact ⟨a, vs, rfl, t, l⟩
theorem VB.ins {W : Wc} {F H : Hp} {v : V} {c : Nat} {fs : List (Str × D)} (h : VB W F H v (.ins c fs)) (s : Ex F H) : ∃ a dx fs', v = .ref a ∧ H a = some (.ins (W.cls c) dx fs') ∧ DP W F fs' fs := by
  rcases h with h | ⟨a, rfl, ⟨dx, vs, t, l⟩, _⟩
  · cases h with
    | ins h l c => exact ⟨_, _, _, rfl, s _ _ h, l, c⟩
  · exact ⟨a, dx, vs, rfl, t, l⟩
theorem VB.non {W : Wc} {F H : Hp} {v : V} (h : VB W F H v .non) : v = .non := by
  rcases h with h | ⟨a, rfl, t, _⟩
  · cases h; rfl
  · exact t.elim
theorem VB.bl {W : Wc} {F H : Hp} {v : V} {b : Bool} (h : VB W F H v (.bl b)) : v = .bl b := by
  rcases h with h | ⟨a, rfl, t, _⟩
  · cases h; rfl
  · exact t.elim
theorem VB.int {W : Wc} {F H : Hp} {v : V} {i : Int} (h : VB W F H v (.int i)) : v = .int i := by
  rcases h with h | ⟨a, rfl, t, _⟩
  · cases h; rfl
  · exact t.elim
theorem VB.str {W : Wc} {F H : Hp} {v : V} {x : Str} (h : VB W F H v (.str x)) : v = .str x := by
  rcases h with h | ⟨a, rfl, t, _⟩
  · cases h; rfl
  · exact t.elim

/-! ### a step that changes no cell -/
structure Stp (F H F' H' : Hp) : Prop where
  ex : Ex F F'
  sub : Ex F' H'
  keep : Ex H H'
  fence : ∀ a o, H a = some o → F a = none → F' a = none
section
variable {F H F' H' F'' H'' : Hp} {p : Addr} {o : HO}
theorem Stp.refl (s : Ex F H) : Stp F H F H := ⟨Ex.refl _, s, Ex.refl _, fun _ _ _ h => h⟩
theorem Stp.trans (a : Stp F H F' H') (b : Stp F' H' F'' H'') : Stp F H F'' H'' := ⟨a.ex.trans b.ex, b.sub, a.keep.trans b.keep, fun x o h n => b.fence x o (a.keep _ _ h) (a.fence x o h n)⟩
theorem no_of {s : Ex F H} (h : H p = none) : F p = none := by
  cases e : F p with
  | none => rfl
  | some u => rw [s _ _ e] at h; cases h
/-- a new cell -/
theorem Stp.cell (s : Ex F H) (h : H p = none) : Stp F H F (upd H p o) := ⟨Ex.refl _, s.trans (Ex.new h), Ex.new h, fun _ _ _ h => h⟩
/-- a new shared object -/
theorem Stp.new (s : Ex F H) (h : H p = none) : Stp F H (upd F p o) (upd H p o) := by
  refine ⟨Ex.new (no_of (s := s) h), fun b u e => ?_, Ex.new h, fun b u e n => ?_⟩
  · by_cases hb : b = p
    · subst hb; rw [upd_same] at e ⊢; exact e
    · rw [upd_ne hb] at e ⊢; exact s _ _ e
  · have hb : b ≠ p := fun z => by subst z; rw [h] at e; cases e
    rw [upd_ne hb]; exact n
end
end Fw
set_option Elab.async false
set_option linter.all false
set_option maxRecDepth 100000
namespace Fw
open PySem PySem.Spec PyProof.Rows L2

abbrev St := L2.St
/-! ### slots -/
inductive Sl where
  | un | sh (d : D) | ow (d : D) | pn (m : Bool) (d : D) | lk (d : D)
  deriving Inhabited
abbrev En := List Sl
def Sl.own : Sl → Bool
  | .ow _ => true
  | .pn _ _ => true
  | .lk _ => true
  | _ => false
/-- nobody else has the cell -/
def Sl.excl : Sl → Bool
  | .ow _ => true
  | .pn m _ => m
  | .lk _ => true
  | _ => false
def Sl.mu : Sl → Bool
  | .ow _ => true
  | .pn m _ => m
  | _ => false
def Sl.isPn : Sl → Bool
  | .pn _ _ => true
  | .lk _ => true
  | _ => false
def Sl.dat : Sl → Option D
  | .un => none
  | .sh d => some d
  | .ow d => some d
  | .pn _ d => some d
  | .lk d => some d
/-- new content of a cell -/
def Sl.with (s : Sl) (d : D) : Sl := match s with
  | .ow _ => .ow d
  | .pn m _ => .pn m d
  | s => s
theorem Sl.mu_excl {s : Sl} (h : s.mu = true) : s.excl = true := by
  cases s <;> first | rfl | exact h | exact absurd h Bool.false_ne_true
theorem Sl.excl_own {s : Sl} (h : s.excl = true) : s.own = true := by
  cases s <;> first | rfl | exact absurd h Bool.false_ne_true
theorem Sl.mu_own {s : Sl} (h : s.mu = true) : s.own = true := by
  cases s <;> first | rfl | exact absurd h Bool.false_ne_true

/-- no slot's own cell is at a -/
def Apart (en : En) (σ : St) (a : Addr) : Prop := ∀ (j : Nat) (t : Sl), en[j]? = some t → t.own = true → σ[j]? ≠ some (some (V.ref a))

inductive ER where
  | sh (d : D) | fr (d : D) | bo (i : Nat)
inductive R (S α : Type) where
  | ok (a : α) (s : S) | exc (c : Nat) (fs : List (Str × D)) (s : S) | bad
def R.bind {S α β : Type} (r : R S α) (f : α → S → R S β) : R S β := match r with
  | .ok a s => f a s
  | .exc c fs s => .exc c fs s
  | .bad => .bad
abbrev M (α : Type) := En → R En α
@[simp] theorem R.bind_ok {S α β : Type} (a : α) (s : S) (f : α → S → R S β) : (R.ok a s).bind f = f a s := rfl
@[simp] theorem R.bind_exc {S α β : Type} (c : Nat) (fs) (s : S) (f : α → S → R S β) : (R.exc c fs s : R S α).bind f = .exc c fs s := rfl
@[simp] theorem R.bind_bad {S α β : Type} (f : α → S → R S β) : (R.bad : R S α).bind f = .bad := rfl

structure Gc where
  F0 : Hp
  H0 : Hp
  wr : List Addr
  pin : Nat → Option Addr

def SlOk (W : Wc) (G : Gc) (σ : St) (F H : Hp) (i : Nat) : Sl → Prop
  | .un => True
  | .sh d => ∃ v, σ[i]? = some (some v) ∧ Dat W F v d
  | .ow d => ∃ a, σ[i]? = some (some (.ref a)) ∧ Top W F H a d ∧ F a = none ∧ G.H0 a = none
  | .pn m d => ∃ a, σ[i]? = some (some (.ref a)) ∧ Top W F H a d ∧ F a = none ∧ G.pin i = some a ∧ (m = true → (a ∈ G.wr ∨ G.H0 a = none))
  | .lk d => ∃ a, σ[i]? = some (some (.ref a)) ∧ Top W F H a d ∧ F a = none ∧ G.pin i = some a

structure Rel (W : Wc) (G : Gc) (en : En) (σ : St) (F H : Hp) : Prop where
  len : en.length = σ.length
  sub : Ex F H
  ex0 : Ex G.F0 F
  fen : ∀ a o, G.H0 a = some o → G.F0 a = none → F a = none
  keep : ∀ a o, G.H0 a = some o → a ∉ G.wr → H a = some o
  wrk : ∀ a, a ∈ G.wr → ∃ o, H a = some o
  slot : ∀ i s, en[i]? = some s → SlOk W G σ F H i s
  dist : ∀ (i j : Nat) s t a, i ≠ j → en[i]? = some s → en[j]? = some t → s.excl = true → t.own = true → σ[i]? = some (some (.ref a)) → σ[j]? ≠ some (some (.ref a))

section
variable {W : Wc} {G : Gc} {en en' : En} {σ : St} {F H F' H' : Hp} {i j : Nat} {s t : Sl} {a : Addr} {o : HO} {v : V} {d : D}

theorem SlOk.own (h : SlOk W G σ F H i s) (e : s.own = true) : ∃ a d, σ[i]? = some (some (.ref a)) ∧ s.dat = some d ∧ Top W F H a d ∧ F a = none := by
  cases s with
  | ow d => obtain ⟨a, h1, h2, h3, _⟩ := h; exact ⟨a, d, h1, rfl, h2, h3⟩
  | pn m d => obtain ⟨a, h1, h2, h3, _⟩ := h; exact ⟨a, d, h1, rfl, h2, h3⟩
  | lk d => obtain ⟨a, h1, h2, h3, _⟩ := h; exact ⟨a, d, h1, rfl, h2, h3⟩
  | _ => exact absurd e Bool.false_ne_true
theorem SlOk.vb (h : SlOk W G σ F H i s) (e : s.dat = some d) : ∃ v, σ[i]? = some (some v) ∧ VB W F H v d := by
  cases s with
  | un => cases e
  | sh d' => cases e; obtain ⟨v, h1, h2⟩ := h; exact ⟨v, h1, .inl h2⟩
  | ow d' => cases e; obtain ⟨a, h1, h2, h3, _⟩ := h; exact ⟨_, h1, .inr ⟨a, rfl, h2, h3⟩⟩
  | pn m d' => cases e; obtain ⟨a, h1, h2, h3, _⟩ := h; exact ⟨_, h1, .inr ⟨a, rfl, h2, h3⟩⟩
  | lk d' => cases e; obtain ⟨a, h1, h2, h3, _⟩ := h; exact ⟨_, h1, .inr ⟨a, rfl, h2, h3⟩⟩
/-- nothing of the slot's own cell changes -/
theorem SlOk.mono (h : SlOk W G σ F H i s) (e : Ex F F') (k : ∀ a o, H a = some o → F a = none → σ[i]? = some (some (.ref a)) → s.own = true → H' a = some o ∧ F' a = none) : SlOk W G σ F' H' i s := by
  cases s with
  | un => trivial
  | sh d => obtain ⟨v, h1, h2⟩ := h; exact ⟨v, h1, h2.mono e⟩
  | ow d =>
    obtain ⟨a, h1, h2, h3, h4⟩ := h
    obtain ⟨o, ho⟩ := h2.there
    exact ⟨a, h1, h2.mono e fun o' e' => (k a o' e' h3 h1 rfl).1, (k a o ho h3 h1 rfl).2, h4⟩
  | pn m d =>
    obtain ⟨a, h1, h2, h3, h4⟩ := h
    obtain ⟨o, ho⟩ := h2.there
    exact ⟨a, h1, h2.mono e fun o' e' => (k a o' e' h3 h1 rfl).1, (k a o ho h3 h1 rfl).2, h4⟩
  | lk d =>
    obtain ⟨a, h1, h2, h3, h4⟩ := h
    obtain ⟨o, ho⟩ := h2.there
    exact ⟨a, h1, h2.mono e fun o' e' => (k a o' e' h3 h1 rfl).1, (k a o ho h3 h1 rfl).2, h4⟩

theorem Rel.stp (r : Rel W G en σ F H) (s : Stp F H F' H') : Rel W G en σ F' H' where
  len := r.len
  sub := s.sub
  ex0 := r.ex0.trans s.ex
  fen := fun a o h n => by
    have f := r.fen a o h n
    by_cases hw : a ∈ G.wr
    · obtain ⟨u, hu⟩ := r.wrk a hw
      exact s.fence a u hu f
    · exact s.fence a o (r.keep a o h hw) f
  keep := fun a o h n => s.keep _ _ (r.keep a o h n)
  wrk := fun a h => let ⟨o, e⟩ := r.wrk a h; ⟨o, s.keep _ _ e⟩
  slot := fun i t e => (r.slot i t e).mono s.ex fun a o h n _ _ => ⟨s.keep _ _ h, s.fence _ _ h n⟩
  dist := r.dist
/-- an address that is not tracked was not tracked at the entry -/
theorem Rel.new (r : Rel W G en σ F H) (h : H a = none) : G.H0 a = none := by
  cases e : G.H0 a with
  | none => rfl
  | some o =>
    by_cases hw : a ∈ G.wr
    · obtain ⟨u, hu⟩ := r.wrk a hw
      rw [h] at hu; cases hu
    · have := r.keep a o e hw
      rw [h] at this; cases this
theorem Rel.apart (r : Rel W G en σ F H) (h : H a = none) : Apart en σ a := fun j t e o z => by
  obtain ⟨b, d, h1, _, h2, _⟩ := (r.slot j t e).own o
  rw [z] at h1; cases h1
  obtain ⟨u, hu⟩ := h2.there
  rw [h] at hu; cases hu
theorem set_get {α : Type} {l : List α} {i j : Nat} {x y : α} (h : (l.set i x)[j]? = some y) : (j = i ∧ y = x) ∨ (j ≠ i ∧ l[j]? = some y) := by
  by_cases e : i = j
  · subst e
    have hl : i < l.length := by
      have := (List.getElem?_eq_some_iff.mp h).1
      simpa using this
    rw [List.getElem?_set_self hl] at h
    exact .inl ⟨rfl, (Option.some.inj h).symm⟩
  · rw [List.getElem?_set_ne e] at h
    exact .inr ⟨fun z => e z.symm, h⟩
theorem lt_of_some {α : Type} {l : List α} {i : Nat} {x : α} (h : l[i]? = some x) : i < l.length := (List.getElem?_eq_some_iff.mp h).1
/-- a slot's own cell becomes shared data -/
theorem Rel.share (r : Rel W G en σ F H) (e : en[i]? = some (.ow d)) (hs : σ[i]? = some (some v)) :
    ∃ F', Ex F F' ∧ Dat W F' v d ∧ Rel W G (en.set i (.sh d)) σ F' H := by
  obtain ⟨a, h1, h2, h3, h4⟩ := r.slot i _ e
  rw [hs] at h1; cases h1
  obtain ⟨o, ho⟩ := h2.there
  have exF : Ex F (upd F a o) := Ex.new h3
  refine ⟨upd F a o, exF, h2.dat exF fun o' e' => ?_, ?_⟩
  · rw [ho] at e'; cases e'; exact upd_same
  · refine ⟨by simpa using r.len, fun b u q => ?_, r.ex0.trans exF, fun b u q n => ?_, r.keep, r.wrk, fun j t q => ?_, fun j k s' t' b hjk q1 q2 m1 o2 => ?_⟩
    · by_cases hb : b = a
      · subst hb; rw [upd_same] at q; cases q; exact ho
      · rw [upd_ne hb] at q; exact r.sub _ _ q
    · have hb : b ≠ a := fun z => by subst z; rw [h4] at q; cases q
      rw [upd_ne hb]; exact r.fen b u q n
    · rcases set_get q with ⟨rfl, rfl⟩ | ⟨hj, q⟩
      · exact ⟨_, hs, h2.dat exF fun o' e' => by rw [ho] at e'; cases e'; exact upd_same⟩
      · refine (r.slot j t q).mono exF fun b u hb fb sb ob => ⟨hb, ?_⟩
        have : b ≠ a := fun z => by subst z; exact r.dist i j _ _ b (fun z => hj z.symm) e q rfl ob hs sb
        rw [upd_ne this]; exact fb
    · rcases set_get q1 with ⟨rfl, rfl⟩ | ⟨h1, q1⟩
      · exact absurd m1 Bool.false_ne_true
      · rcases set_get q2 with ⟨rfl, rfl⟩ | ⟨h2', q2⟩
        · exact absurd o2 Bool.false_ne_true
        · exact r.dist j k s' t' b hjk q1 q2 m1 o2
theorem st_set {σ : St} {i : Nat} {v v' : V} (hi : i < σ.length) (h : (σ.set i (some v))[i]? = some (some v')) : v' = v := by
  rw [List.getElem?_set_self hi] at h
  exact (Option.some.inj (Option.some.inj h)).symm
/-- a slot is stored: shared data -/
theorem Rel.setSh (r : Rel W G en σ F H) (e : en[i]? = some s) (hp : s.isPn = false) (hd : Dat W F v d) : Rel W G (en.set i (.sh d)) (σ.set i (some v)) F H := by
  have hi : i < σ.length := by rw [← r.len]; exact lt_of_some e
  refine ⟨by simpa using r.len, r.sub, r.ex0, r.fen, r.keep, r.wrk, fun j t q => ?_, fun j k s' t' b hjk q1 q2 m1 o2 => ?_⟩
  · rcases set_get q with ⟨rfl, rfl⟩ | ⟨hj, q⟩
    · exact ⟨v, List.getElem?_set_self hi, hd⟩
    · have h := r.slot j t q
      cases t with
      | un => trivial
      | _ => unfold SlOk at h ⊢; simpa [List.getElem?_set_ne (fun z => hj z.symm : i ≠ j)] using h
  · rcases set_get q1 with ⟨rfl, rfl⟩ | ⟨h1, q1⟩
    · exact absurd m1 Bool.false_ne_true
    · rcases set_get q2 with ⟨rfl, rfl⟩ | ⟨h2, q2⟩
      · exact absurd o2 Bool.false_ne_true
      · rw [List.getElem?_set_ne (fun z => h1 z.symm), List.getElem?_set_ne (fun z => h2 z.symm)]
        exact r.dist j k s' t' b hjk q1 q2 m1 o2
/-- .. a cell of its own -/
theorem Rel.setOw (r : Rel W G en σ F H) (e : en[i]? = some s) (hp : s.isPn = false) (ht : Top W F H a d) (hF : F a = none) (h0 : G.H0 a = none)
    (hn : Apart en σ a) : Rel W G (en.set i (.ow d)) (σ.set i (some (.ref a))) F H := by
  have hi : i < σ.length := by rw [← r.len]; exact lt_of_some e
  refine ⟨by simpa using r.len, r.sub, r.ex0, r.fen, r.keep, r.wrk, fun j t q => ?_, fun j k s' t' b hjk q1 q2 m1 o2 => ?_⟩
  · rcases set_get q with ⟨rfl, rfl⟩ | ⟨hj, q⟩
    · exact ⟨a, List.getElem?_set_self hi, ht, hF, h0⟩
    · have h := r.slot j t q
      cases t with
      | un => trivial
      | _ => unfold SlOk at h ⊢; simpa [List.getElem?_set_ne (fun z => hj z.symm : i ≠ j)] using h
  · rcases set_get q1 with ⟨rfl, rfl⟩ | ⟨h1, p1⟩
    · intro z1 z2
      cases st_set hi z1
      rcases set_get q2 with ⟨rfl, rfl⟩ | ⟨h2, q2⟩
      · exact hjk rfl
      · rw [List.getElem?_set_ne (fun z => h2 z.symm)] at z2
        exact hn k t' q2 o2 z2
    · rcases set_get q2 with ⟨rfl, rfl⟩ | ⟨h2, q2⟩
      · intro z1 z2
        cases st_set hi z2
        rw [List.getElem?_set_ne (fun z => h1 z.symm)] at z1
        exact hn j s' p1 (Sl.excl_own m1) z1
      · rw [List.getElem?_set_ne (fun z => h1 z.symm), List.getElem?_set_ne (fun z => h2 z.symm)]
        exact r.dist j k s' t' b hjk p1 q2 m1 o2
/-- a slot is forgotten -/
theorem Rel.setUn (r : Rel W G en σ F H) (i : Nat) (v : Option V) (hp : ∀ s, en[i]? = some s → True) : Rel W G (en.set i .un) (σ.set i v) F H := by
  refine ⟨by simpa using r.len, r.sub, r.ex0, r.fen, r.keep, r.wrk, fun j t q => ?_, fun j k s' t' b hjk q1 q2 m1 o2 => ?_⟩
  · rcases set_get q with ⟨rfl, rfl⟩ | ⟨hj, q⟩
    · trivial
    · have h := r.slot j t q
      cases t with
      | un => trivial
      | _ => unfold SlOk at h ⊢; simpa [List.getElem?_set_ne (fun z => hj z.symm : i ≠ j)] using h
  · rcases set_get q1 with ⟨rfl, rfl⟩ | ⟨h1, q1⟩
    · exact absurd m1 Bool.false_ne_true
    · rcases set_get q2 with ⟨rfl, rfl⟩ | ⟨h2, q2⟩
      · exact absurd o2 Bool.false_ne_true
      · rw [List.getElem?_set_ne (fun z => h1 z.symm), List.getElem?_set_ne (fun z => h2 z.symm)]
        exact r.dist j k s' t' b hjk q1 q2 m1 o2
theorem Rel.forget (r : Rel W G en σ F H) (i : Nat) : Rel W G (en.set i .un) σ F H := by
  refine ⟨by simpa using r.len, r.sub, r.ex0, r.fen, r.keep, r.wrk, fun j t q => ?_, fun j k s' t' b hjk q1 q2 m1 o2 => ?_⟩
  · rcases set_get q with ⟨rfl, rfl⟩ | ⟨hj, q⟩
    · trivial
    · exact r.slot j t q
  · rcases set_get q1 with ⟨rfl, rfl⟩ | ⟨h1, q1⟩
    · exact absurd m1 Bool.false_ne_true
    · rcases set_get q2 with ⟨rfl, rfl⟩ | ⟨h2, q2⟩
      · exact absurd o2 Bool.false_ne_true
      · exact r.dist j k s' t' b hjk q1 q2 m1 o2
theorem Sl.with_own {s : Sl} {d : D} : (s.with d).own = s.own := by cases s <;> rfl
theorem Sl.with_mu {s : Sl} {d : D} : (s.with d).mu = s.mu := by cases s <;> rfl
theorem Sl.with_excl {s : Sl} {d : D} : (s.with d).excl = s.excl := by cases s <;> rfl
/-- a cell of a slot is written -/
theorem Rel.mut (r : Rel W G en σ F H) (e : en[i]? = some s) (m : s.mu = true) (hs : σ[i]? = some (some (.ref a))) (ht : Top W F (upd H a o) a d) : Rel W G (en.set i (s.with d)) σ F (upd H a o) := by
  have hh : F a = none ∧ (a ∈ G.wr ∨ G.H0 a = none) := by
    have h := r.slot i s e
    cases s with
    | ow d' => obtain ⟨b, h1, h2, h3, h4⟩ := h; rw [hs] at h1; cases h1; exact ⟨h3, .inr h4⟩
    | pn m' d' => obtain ⟨b, h1, h2, h3, h4, h5⟩ := h; rw [hs] at h1; cases h1; exact ⟨h3, h5 m⟩
    | _ => exact absurd m Bool.false_ne_true
  refine ⟨by simpa using r.len, fun b u q => ?_, r.ex0, r.fen, fun b u q n => ?_, fun b hb => ?_, fun j t q => ?_, fun j k s' t' b hjk q1 q2 m1 o2 => ?_⟩
  · have hb : b ≠ a := fun z => by subst z; rw [hh.1] at q; cases q
    rw [upd_ne hb]; exact r.sub _ _ q
  · have hb : b ≠ a := fun z => by
      subst z
      rcases hh.2 with z | z
      · exact n z
      · rw [z] at q; cases q
    rw [upd_ne hb]; exact r.keep b u q n
  · by_cases z : b = a
    · subst z; exact ⟨o, upd_same⟩
    · rw [upd_ne z]; exact r.wrk b hb
  · rcases set_get q with ⟨rfl, rfl⟩ | ⟨hj, q⟩
    · have h := r.slot j s e
      cases s with
      | ow d' => obtain ⟨b, h1, h2, h3, h4⟩ := h; rw [hs] at h1; cases h1; exact ⟨a, hs, ht, h3, h4⟩
      | pn m' d' => obtain ⟨b, h1, h2, h3, h4, h5⟩ := h; rw [hs] at h1; cases h1; exact ⟨a, hs, ht, h3, h4, h5⟩
      | _ => exact absurd m Bool.false_ne_true
    · refine (r.slot j t q).mono (Ex.refl F) fun b u hb fb sb ob => ⟨?_, fb⟩
      have : b ≠ a := fun z => by subst z; exact r.dist i j _ _ b (fun z => hj z.symm) e q (Sl.mu_excl m) ob hs sb
      rw [upd_ne this]; exact hb
  · rcases set_get q1 with ⟨e1, e2⟩ | ⟨h1, p1⟩
    · subst e1; subst e2
      rw [Sl.with_excl] at m1
      rcases set_get q2 with ⟨e3, e4⟩ | ⟨h2, p2⟩
      · exact absurd e3.symm hjk
      · exact r.dist _ _ _ _ b hjk e p2 m1 o2
    · rcases set_get q2 with ⟨e3, e4⟩ | ⟨h2, p2⟩
      · subst e3; subst e4
        rw [Sl.with_own] at o2
        exact r.dist _ _ _ _ b hjk p1 e m1 o2
      · exact r.dist j k s' t' b hjk p1 p2 m1 o2
end

/-! ### results -/
def cur (en : En) : ER → Option D
  | .sh d => some d
  | .fr d => some d
  | .bo i => (en[i]?).bind Sl.dat
/-- a value that was looked at: it may stand over other steps -/
def VW (W : Wc) (σ : St) (F : Hp) : ER → V → Prop
  | .sh d, v => Dat W F v d
  | .fr d, v => Dat W F v d
  | .bo i, v => σ[i]? = some (some v)
/-- the value of an expression -/
def VR (W : Wc) (G : Gc) (en : En) (σ : St) (F H : Hp) : ER → V → Prop
  | .sh d, v => Dat W F v d
  | .fr d, v => ∃ a, v = .ref a ∧ Top W F H a d ∧ F a = none ∧ G.H0 a = none ∧ Apart en σ a
  | .bo i, v => σ[i]? = some (some v)
/-- a new value of a step from H -/
def VN (W : Wc) (H F' H' : Hp) : ER → V → Prop
  | .sh d, v => Dat W F' v d
  | .fr d, v => ∃ a, v = .ref a ∧ H a = none ∧ Top W F' H' a d ∧ F' a = none
  | .bo _, _ => False
def Res (W : Wc) (F H : Hp) (r : ER) (Q : VK) : Prop := ∀ v F' H', Stp F H F' H' → VN W H F' H' r v → Q v H'
section
variable {W : Wc} {G : Gc} {en en' : En} {σ : St} {F H F' H' : Hp} {i j : Nat} {s t : Sl} {a : Addr} {o : HO} {v : V} {d : D} {r : ER}
theorem VW.mono (h : VW W σ F r v) (e : Ex F F') : VW W σ F' r v := by
  cases r with
  | sh d => exact Dat.mono h e
  | fr d => exact Dat.mono h e
  | bo i => exact h
theorem VW.vb (h : VW W σ F r v) (R : Rel W G en σ F H) (c : cur en r = some d) : VB W F H v d := by
  cases r with
  | sh d' => cases c; exact .inl h
  | fr d' => cases c; exact .inl h
  | bo i =>
    have c' : (en[i]?).bind Sl.dat = some d := c
    cases e : en[i]? with
    | none => rw [e] at c'; cases c'
    | some s =>
      rw [e] at c'
      obtain ⟨v', h1, h2⟩ := (R.slot i s e).vb c'
      have h' : σ[i]? = some (some v) := h
      rw [h'] at h1; cases h1
      exact h2
/-- a new cell is frozen -/
theorem Rel.freeze (R : Rel W G en σ F H) (ht : Top W F H a d) (hF : F a = none) (h0 : G.H0 a = none) (hn : Apart en σ a) :
    ∃ F', Ex F F' ∧ Dat W F' (.ref a) d ∧ Rel W G en σ F' H := by
  obtain ⟨o, ho⟩ := ht.there
  have exF : Ex F (upd F a o) := Ex.new hF
  refine ⟨upd F a o, exF, ht.dat exF fun o' e' => by rw [ho] at e'; cases e'; exact upd_same, ?_⟩
  refine ⟨R.len, fun b u q => ?_, R.ex0.trans exF, fun b u q n => ?_, R.keep, R.wrk, fun j t q => ?_, R.dist⟩
  · by_cases hb : b = a
    · subst hb; rw [upd_same] at q; cases q; exact ho
    · rw [upd_ne hb] at q; exact R.sub _ _ q
  · have hb : b ≠ a := fun z => by subst z; rw [h0] at q; cases q
    rw [upd_ne hb]; exact R.fen b u q n
  · refine (R.slot j t q).mono exF fun b u hb fb sb ob => ⟨hb, ?_⟩
    have : b ≠ a := fun z => by subst z; exact hn j t q ob sb
    rw [upd_ne this]; exact fb
theorem VR.vw (h : VR W G en σ F H r v) (R : Rel W G en σ F H) : ∃ F', Ex F F' ∧ VW W σ F' r v ∧ Rel W G en σ F' H := by
  cases r with
  | sh d => exact ⟨F, Ex.refl F, (show Dat W F v d from h), R⟩
  | fr d =>
    obtain ⟨a, rfl, h1, h2, h3, h4⟩ := h
    obtain ⟨F', e, x, y⟩ := R.freeze h1 h2 h3 h4
    exact ⟨F', e, x, y⟩
  | bo i => exact ⟨F, Ex.refl F, (show σ[i]? = some (some v) from h), R⟩
theorem VN.vr (h : VN W H F' H' r v) (R : Rel W G en σ F H) : VR W G en σ F' H' r v := by
  cases r with
  | sh d => exact h
  | fr d =>
    obtain ⟨a, rfl, h1, h2, h3⟩ := h
    exact ⟨a, rfl, h2, h3, R.new h1, R.apart h1⟩
  | bo i => exact h.elim
end

/-! ### the readings -/
/-- what an exception bears -/
def XR (W : Wc) (H0 F H : Hp) (dd : Addr) (fs : List (Str × D)) : Prop := ∃ fs', H dd = some (.xd fs') ∧ DP W F fs' fs ∧ H0 dd = none
def EZ : St → XK := fun _ => E0
def tE (W : Wc) (E : St → XK) (f : M ER) : TE := fun σ H Q => ∃ G F en, Rel W G en σ F H ∧ match f en with
  | .ok r en' => ∀ v F' H', Rel W G en' σ F' H' → Ex F F' → VR W G en' σ F' H' r v → Q v H'
  | .exc c fs en' => ∀ dd F' H', Rel W G en' σ F' H' → XR W G.H0 F' H' dd fs → E σ (.ref (W.cls c)) (some dd) H'
  | .bad => False
def tT (W : Wc) (E : St → XK) (f : M Bool) : TT := fun σ H Q => ∃ G F en, Rel W G en σ F H ∧ match f en with
  | .ok r en' => ∀ F' H', Rel W G en' σ F' H' → Ex F F' → Q r H'
  | .exc c fs en' => ∀ dd F' H', Rel W G en' σ F' H' → XR W G.H0 F' H' dd fs → E σ (.ref (W.cls c)) (some dd) H'
  | .bad => False
def VWs (W : Wc) (σ : St) (F : Hp) : List ER → List V → Prop
  | [], [] => True
  | r :: rs, v :: vs => VW W σ F r v ∧ VWs W σ F rs vs
  | _, _ => False
def tA (W : Wc) (E : St → XK) (f : M (List ER)) : TA := fun σ H Q => ∃ G F en, Rel W G en σ F H ∧ match f en with
  | .ok rs en' => ∀ vs F' H', Rel W G en' σ F' H' → Ex F F' → VWs W σ F' rs vs → Q vs H'
  | .exc c fs en' => ∀ dd F' H', Rel W G en' σ F' H' → XR W G.H0 F' H' dd fs → E σ (.ref (W.cls c)) (some dd) H'
  | .bad => False
/-- what a statement comes to -/
inductive O where
  | nx (en : En) | rt (r : ER) (en : En) | bk (en : En) | ct (en : En) | exc (c : Nat) (fs : List (Str × D)) (en : En) | bad
abbrev SM := En → O
/-- a returned value: shared, or a cell that was not there at the entry -/
def VT (W : Wc) (G : Gc) (F H : Hp) : ER → V → Prop
  | .sh d, v => Dat W F v d
  | .fr d, v => ∃ a, v = .ref a ∧ Top W F H a d ∧ F a = none ∧ G.H0 a = none
  | .bo _, _ => False
def tS (W : Wc) (E : St → XK) (f : SM) : TS := fun D σ H => ∃ G F en, Rel W G en σ F H ∧ match f en with
  | .nx en' => ∀ σ' F' H', Rel W G en' σ' F' H' → D.nx σ' H'
  | .rt r en' => ∀ v σ' F' H', Rel W G en' σ' F' H' → VT W G F' H' r v → D.rt v H'
  | .bk en' => ∀ σ' F' H', Rel W G en' σ' F' H' → D.bk σ' H'
  | .ct en' => ∀ σ' F' H', Rel W G en' σ' F' H' → D.ct σ' H'
  | .exc c fs en' => ∀ dd σ' F' H', Rel W G en' σ' F' H' → XR W G.H0 F' H' dd fs → E σ' (.ref (W.cls c)) (some dd) H'
  | .bad => False
def EV (W : Wc) (E : St → XK) (X : Cx) (e : Expr) (f : M ER) : Prop := PE X e (tE W E f)
def BV (W : Wc) (E : St → XK) (X : Cx) (e : Expr) (f : M Bool) : Prop := PT X e (tT W E f)
def AV (W : Wc) (E : St → XK) (X : Cx) (es : List Expr) (f : M (List ER)) : Prop := PA X es (tA W E f)
def SV (W : Wc) (E : St → XK) (X : Cx) (st : Stmt) (f : SM) : Prop := PS X st (tS W E f)
def SVs (W : Wc) (E : St → XK) (X : Cx) (st : List Stmt) (f : SM) : Prop := PSs X st (tS W E f)
theorem PE.imp {X : Cx} {e : Expr} {t u : TE} (h : PE X e t) (i : ∀ σ H Q, u σ H Q → t σ H Q) : PE X e u := ⟨fun pins s σ H Q I w => h.run pins s σ H Q I (i _ _ _ w)⟩
theorem PT.imp {X : Cx} {e : Expr} {t u : TT} (h : PT X e t) (i : ∀ σ H Q, u σ H Q → t σ H Q) : PT X e u := ⟨fun pins s σ H Q I w => h.run pins s σ H Q I (i _ _ _ w)⟩
theorem PA.imp {X : Cx} {e : List Expr} {t u : TA} (h : PA X e t) (i : ∀ σ H Q, u σ H Q → t σ H Q) : PA X e u := ⟨fun p pins s σ H Q I w => h.run p pins s σ H Q I (i _ _ _ w)⟩
theorem PS.imp {X : Cx} {e : Stmt} {t u : TS} (h : PS X e t) (i : ∀ D σ H, u D σ H → t D σ H) : PS X e u := ⟨fun pins s σ H D I w => h.run pins s σ H D I (i _ _ _ w)⟩
theorem PSs.imp {X : Cx} {e : List Stmt} {t u : TS} (h : PSs X e t) (i : ∀ D σ H, u D σ H → t D σ H) : PSs X e u := ⟨fun pins s σ H D I w => h.run pins s σ H D I (i _ _ _ w)⟩

/-- one expression, then the rest: the rest may ask what tE tells of its value -/
theorem tE.then {W : Wc} {E : St → XK} {f : M ER} {G : Gc} {F : Hp} {en : En} {σ : St} {H : Hp} {Q : VK} (R : Rel W G en σ F H)
    (h : match f en with
      | .ok r en' => ∀ v F' H', Rel W G en' σ F' H' → Ex F F' → VW W σ F' r v → Q v H'
      | .exc c fs en' => ∀ dd F' H', Rel W G en' σ F' H' → XR W G.H0 F' H' dd fs → E σ (.ref (W.cls c)) (some dd) H'
      | .bad => False) : tE W E f σ H Q := by
  refine ⟨G, F, en, R, ?_⟩
  cases e : f en with
  | ok r en' =>
    rw [e] at h
    intro v F' H' R' x vr
    obtain ⟨F2, x2, vw, R2⟩ := vr.vw R'
    exact h v F2 H' R2 (x.trans x2) vw
  | exc c fs en' => rw [e] at h; exact h
  | bad => rw [e] at h; exact h
end Fw
set_option Elab.async false
set_option linter.all false
set_option maxRecDepth 100000
namespace Fw
open PySem PySem.Spec PyProof.Rows L2

/-! ### expressions -/
def eC (d : D) : M ER := fun en => .ok (.sh d) en
def eVar (i : Nat) : M ER := fun en => match en[i]? with
  | some (.sh d) => .ok (.sh d) en
  | some (.ow _) => .ok (.bo i) en
  | some (.pn _ _) => .ok (.bo i) en
  | some (.lk _) => .ok (.bo i) en
  | _ => .bad
def op2 (g : D → D → Option ER) (en : En) (ra rb : ER) : R En ER := match cur en ra, cur en rb with
  | some x, some y => (match g x y with | some r => .ok r en | none => .bad)
  | _, _ => .bad
def e2 (g : D → D → Option ER) (fa fb : M ER) : M ER := fun en => (fa en).bind fun ra en1 => (fb en1).bind fun rb en2 => op2 g en2 ra rb
def e1 (g : D → Option ER) (fa : M ER) : M ER := fun en => (fa en).bind fun ra en1 => match cur en1 ra with
  | some x => (match g x with | some r => .ok r en1 | none => .bad)
  | none => .bad
def toB (r : ER) (en : En) : R En Bool := match r with
  | .sh (.bl b) => .ok b en
  | _ => .bad
/-- a value that is True or False, as a test -/
def mB (f : M ER) : M Bool := fun en => (f en).bind toB
def tru : D → Option Bool
  | .non => some false
  | .bl b => some b
  | .int i => some (i != 0)
  | .str x => if x.length ≤ 1000000 then some ((x.length : Int) != 0) else none
  | .lst ds => some (!ds.isEmpty)
  | .rol ds => some (!ds.isEmpty)
  | .tup ds => some (!ds.isEmpty)
  | .rot ds => some (!ds.isEmpty)
  | .dk kvs => some (!kvs.isEmpty)
  | _ => none
/-- a value's truth -/
def mT (f : M ER) : M Bool := fun en => (f en).bind fun r en1 => match (cur en1 r).bind tru with
  | some b => .ok b en1
  | none => .bad
def mAnd (fa fb : M Bool) : M Bool := fun en => (fa en).bind fun b en1 => if b = true then fb en1 else .ok false en1
def mOr (fa fb : M Bool) : M Bool := fun en => (fa en).bind fun b en1 => if b = true then .ok true en1 else fb en1
def mNot (fa : M Bool) : M Bool := fun en => (fa en).bind fun b en1 => .ok (!b) en1
def eAnd (fa fb : M ER) : M ER := fun en => (fa en).bind fun r en1 => (toB r en1).bind fun b en2 => if b = true then fb en2 else .ok (.sh (.bl false)) en2
def eOr (fa fb : M ER) : M ER := fun en => (fa en).bind fun r en1 => (toB r en1).bind fun b en2 => if b = true then .ok (.sh (.bl true)) en2 else fb en2
def eNot (fa : M ER) : M ER := fun en => (fa en).bind fun r en1 => (toB r en1).bind fun b en2 => .ok (.sh (.bl (!b))) en2
def eIf (fc : M Bool) (fa fb : M ER) : M ER := fun en => (fc en).bind fun b en1 => if b = true then fa en1 else fb en1
/-- a chain a op b op c -/
def eChain (g g' : D → D → Option ER) (fa fb fc : M ER) : M ER := fun en => (fa en).bind fun ra en1 => (fb en1).bind fun rb en2 => (op2 g en2 ra rb).bind fun r en3 => (toB r en3).bind fun b en4 =>
  if b = true then (fc en4).bind fun rc en5 => op2 g' en5 rb rc else .ok (.sh (.bl false)) en4
def eA : List (M ER) → M (List ER)
  | [] => fun en => .ok [] en
  | f :: fs => fun en => (f en).bind fun r en1 => (eA fs en1).bind fun rs en2 => .ok (r :: rs) en2
def shr (en : En) : ER → Option (D × En)
  | .sh d => some (d, en)
  | .fr d => some (d, en)
  | .bo i => match en[i]? with
    | some (.sh d) => some (d, en)
    | some (.ow d) => some (d, en.set i (.sh d))
    | _ => none
def shrs : List ER → En → Option (List D × En)
  | [], en => some ([], en)
  | r :: rs, en => match shr en r with
    | some (d, en1) => (match shrs rs en1 with | some (ds, en2) => some (d :: ds, en2) | none => none)
    | none => none
def eTup (fs : List (M ER)) : M ER := fun en => (eA fs en).bind fun rs en1 => match shrs rs en1 with
  | some (ds, en2) => .ok (.sh (.tup ds)) en2
  | none => .bad
def eLst (fs : List (M ER)) : M ER := fun en => (eA fs en).bind fun rs en1 => match shrs rs en1 with
  | some (ds, en2) => .ok (.fr (.lst ds)) en2
  | none => .bad
def curs (en : En) : List ER → Option (List D)
  | [] => some []
  | r :: rs => match cur en r, curs en rs with
    | some d, some ds => some (d :: ds)
    | _, _ => none
/-- a built-in call, by what its arguments are -/
def eB (g : List D → Option ER) (fs : List (M ER)) : M ER := fun en => (eA fs en).bind fun rs en1 => match curs en1 rs with
  | some ds => (match g ds with | some r => .ok r en1 | none => .bad)
  | none => .bad

/-- an operator's rule, by data -/
def OpS (W : Wc) (r2 : R2) (g : D → D → Option ER) : Prop := ∀ F H x y dx dy r Q, Ex F H → VB W F H x dx → VB W F H y dy → g dx dy = some r → Res W F H r Q → r2 x y H Q
def UnS (W : Wc) (r1 : V → Hp → VK → Prop) (g : D → Option ER) : Prop := ∀ F H x dx r Q, Ex F H → VB W F H x dx → g dx = some r → Res W F H r Q → r1 x H Q
def VBs (W : Wc) (F H : Hp) : List V → List D → Prop
  | [], [] => True
  | v :: vs, d :: ds => VB W F H v d ∧ VBs W F H vs ds
  | _, _ => False
def CallS (W : Wc) (r1 : List V → Hp → VK → Prop) (g : List D → Option ER) : Prop := ∀ F H xs ds r Q, Ex F H → VBs W F H xs ds → g ds = some r → Res W F H r Q → r1 xs H Q
/-- a method that only looks at its receiver -/
def MetS (W : Wc) (r1 : V → List V → Hp → VK → Prop) (g : D → List D → Option ER) : Prop := ∀ F H x xs dx ds r Q, Ex F H → VB W F H x dx → VBs W F H xs ds → g dx ds = some r → Res W F H r Q → r1 x xs H Q

section
variable {W : Wc} {E : St → XK} {X : Cx} {a b c : Expr} {es : List Expr} {fa fb fc : M ER} {fs : List (M ER)} {pos : Pos} {G : Gc} {en : En} {σ : St} {F H : Hp}

theorem ev_int {i j} : EV W E X (.Constant (.int i) j pos) (eC (.int i)) := PE.imp pe_int fun σ H Q ⟨G, F, en, R, h⟩ => h _ F H R (Ex.refl F) (Dat.int i)
theorem ev_bl {i j} : EV W E X (.Constant (.bool i) j pos) (eC (.bl i)) := PE.imp pe_bl fun σ H Q ⟨G, F, en, R, h⟩ => h _ F H R (Ex.refl F) (Dat.bl i)
theorem ev_non {j} : EV W E X (.Constant .none j pos) (eC .non) := PE.imp pe_non fun σ H Q ⟨G, F, en, R, h⟩ => h _ F H R (Ex.refl F) Dat.non
theorem ev_str {i : Str} {j} : EV W E X (.Constant (.str i) j pos) (eC (.str i)) := PE.imp pe_str fun σ H Q ⟨G, F, en, R, h⟩ => h _ F H R (Ex.refl F) (Dat.str i)
/-- a module's constant -/
theorem ev_glob {x : Str} {v : V} {d : D} {u : Value} (hg : Gl X x) (hm : X.mg x = some u) (r : RelV v u) (hd : ∀ F, Dat W F v d) (hdb : (x == ("__debug__" : Str)) = false := by decide) : EV W E X (.Name x pos) (eC d) :=
  PE.imp (pe_glob hg hm r hdb) fun σ H Q ⟨G, F, en, R, h⟩ => h _ F H R (Ex.refl F) (show Dat W F v d from hd F)

theorem ev_var (i : Nat) {x : Str} (hN : X.N[i]? = some x := by rfl) (hv : Vis X.env.scope x := by first | exact Or.inl rfl | exact Or.inr (Or.inl rfl) | exact Or.inr (Or.inr rfl)) (hd : (x == ("__debug__" : Str)) = false := by decide)
    (hcd : (x == ("__classdict__" : Str)) = false := by decide) : EV W E X (.Name x pos) (eVar i) := by
  refine PE.imp (pe_var hN hv hd hcd) fun σ H Q ⟨G, F, en, R, h⟩ => ?_
  unfold eVar at h
  cases e : en[i]? with
  | none => rw [e] at h; exact h.elim
  | some s =>
    rw [e] at h
    have hs := R.slot i s e
    cases s with
    | un => exact h.elim
    | sh d => obtain ⟨v, h1, h2⟩ := hs; exact ⟨v, h1, h v F H R (Ex.refl F) h2⟩
    | ow d => obtain ⟨a, h1, h2⟩ := hs; exact ⟨_, h1, h _ F H R (Ex.refl F) h1⟩
    | pn m d => obtain ⟨a, h1, h2⟩ := hs; exact ⟨_, h1, h _ F H R (Ex.refl F) h1⟩
    | lk d => obtain ⟨a, h1, h2⟩ := hs; exact ⟨_, h1, h _ F H R (Ex.refl F) h1⟩

/-- f, then k: the reading of a bind -/
theorem tE_bind {α : Type} {f : M ER} {k : ER → En → R En α} {G : Gc} {F : Hp} {en : En} {σ : St} {H : Hp} {Q : VK} {Z : Prop} (R0 : Rel W G en σ F H)
    (P : R En α → Prop) (hx : ∀ c fs s, P (.exc c fs s) → ∀ dd F' H', Rel W G s σ F' H' → XR W G.H0 F' H' dd fs → E σ (.ref (W.cls c)) (some dd) H') (hb : ¬ P .bad)
    (h : P ((f en).bind k)) (hq : ∀ r en' v F' H', P (k r en') → Rel W G en' σ F' H' → Ex F F' → VW W σ F' r v → Q v H') : tE W E f σ H Q := by
  refine tE.then R0 ?_
  cases e : f en with
  | ok r en' => rw [e] at h; exact fun v F' H' R' x vw => hq r en' v F' H' h R' x vw
  | exc c fs s => rw [e] at h; exact hx c fs s h
  | bad => rw [e] at h; exact hb h

/-- what is asked of an outcome, for any kind of answer -/
def Out (W : Wc) (E : St → XK) (G : Gc) (σ : St) {α : Type} (A : α → En → Prop) : R En α → Prop
  | .ok r en' => A r en'
  | .exc c fs en' => ∀ dd F' H', Rel W G en' σ F' H' → XR W G.H0 F' H' dd fs → E σ (.ref (W.cls c)) (some dd) H'
  | .bad => False
/-- THE STEP: the reading of f, where what is asked is asked of f and then k -/
theorem ev_then {α : Type} {f : M ER} {k : ER → En → R En α} {A : α → En → Prop} {Q : VK} (R0 : Rel W G en σ F H) (h : Out W E G σ A ((f en).bind k))
    (hq : ∀ r en' v F' H', Out W E G σ A (k r en') → Rel W G en' σ F' H' → Ex F F' → VW W σ F' r v → Q v H') : tE W E f σ H Q := by
  refine tE.then R0 ?_
  cases e : f en with
  | ok r en' => rw [e] at h; exact fun v F' H' R' x vw => hq r en' v F' H' h R' x vw
  | exc c fs s => rw [e] at h; exact h
  | bad => rw [e] at h; exact h
theorem bv_then {α : Type} {f : M Bool} {k : Bool → En → R En α} {A : α → En → Prop} {Q : Bool → Hp → Prop} (R0 : Rel W G en σ F H) (h : Out W E G σ A ((f en).bind k))
    (hq : ∀ r en' F' H', Out W E G σ A (k r en') → Rel W G en' σ F' H' → Ex F F' → Q r H') : tT W E f σ H Q := by
  refine ⟨G, F, en, R0, ?_⟩
  cases e : f en with
  | ok r en' => rw [e] at h; exact fun F' H' R' x => hq r en' F' H' h R' x
  | exc c fs s => rw [e] at h; exact h
  | bad => rw [e] at h; exact h
theorem av_then {α : Type} {f : M (List ER)} {k : List ER → En → R En α} {A : α → En → Prop} {Q : List V → Hp → Prop} (R0 : Rel W G en σ F H) (h : Out W E G σ A ((f en).bind k))
    (hq : ∀ r en' v F' H', Out W E G σ A (k r en') → Rel W G en' σ F' H' → Ex F F' → VWs W σ F' r v → Q v H') : tA W E f σ H Q := by
  refine ⟨G, F, en, R0, ?_⟩
  cases e : f en with
  | ok r en' => rw [e] at h; exact fun v F' H' R' x vw => hq r en' v F' H' h R' x vw
  | exc c fs s => rw [e] at h; exact h
  | bad => rw [e] at h; exact h
/-- what an expression's value is asked -/
def AE (W : Wc) (G : Gc) (σ : St) (F : Hp) (Q : VK) : ER → En → Prop := fun r en' => ∀ v F' H', Rel W G en' σ F' H' → Ex F F' → VR W G en' σ F' H' r v → Q v H'
theorem tE.out {f : M ER} {Q : VK} : tE W E f σ H Q ↔ ∃ G F en, Rel W G en σ F H ∧ Out W E G σ (AE W G σ F Q) (f en) := by
  constructor
  · rintro ⟨G, F, en, R, h⟩
    refine ⟨G, F, en, R, ?_⟩
    cases e : f en with
    | ok r en' => rw [e] at h; exact h
    | exc c fs s => rw [e] at h; exact h
    | bad => rw [e] at h; exact h
  · rintro ⟨G, F, en, R, h⟩
    refine ⟨G, F, en, R, ?_⟩
    cases e : f en with
    | ok r en' => rw [e] at h; exact h
    | exc c fs s => rw [e] at h; exact h
    | bad => rw [e] at h; exact h
def AT (W : Wc) (G : Gc) (σ : St) (F : Hp) (Q : Bool → Hp → Prop) : Bool → En → Prop := fun r en' => ∀ F' H', Rel W G en' σ F' H' → Ex F F' → Q r H'
theorem tT.out {f : M Bool} {Q : Bool → Hp → Prop} : tT W E f σ H Q ↔ ∃ G F en, Rel W G en σ F H ∧ Out W E G σ (AT W G σ F Q) (f en) := by
  constructor
  · rintro ⟨G, F, en, R, h⟩
    refine ⟨G, F, en, R, ?_⟩
    cases e : f en with
    | ok r en' => rw [e] at h; exact h
    | exc c fs s => rw [e] at h; exact h
    | bad => rw [e] at h; exact h
  · rintro ⟨G, F, en, R, h⟩
    refine ⟨G, F, en, R, ?_⟩
    cases e : f en with
    | ok r en' => rw [e] at h; exact h
    | exc c fs s => rw [e] at h; exact h
    | bad => rw [e] at h; exact h
theorem op2_out {g : D → D → Option ER} {r2 : R2} {ra rb : ER} {x y : V} {A : ER → En → Prop} {Q : VK} (S : OpS W r2 g) (R0 : Rel W G en σ F H) (hx : VW W σ F ra x) (hy : VW W σ F rb y)
    (h : Out W E G σ A (op2 g en ra rb)) (hq : ∀ r v F' H', A r en → Stp F H F' H' → VN W H F' H' r v → Q v H') : r2 x y H Q := by
  unfold op2 at h
  cases e1 : cur en ra with
  | none => rw [e1] at h; exact h.elim
  | some dx =>
    cases e2 : cur en rb with
    | none => rw [e1, e2] at h; exact h.elim
    | some dy =>
      rw [e1, e2] at h
      cases e3 : g dx dy with
      | none => simp only [e3] at h; exact h.elim
      | some r =>
        simp only [e3] at h
        exact S F H x y dx dy r Q R0.sub (hx.vb R0 e1) (hy.vb R0 e2) e3 fun v F' H' s n => hq r v F' H' h s n
theorem ev_op {op : Operator} {r2 : R2} {g : D → D → Option ER} (ho : OpR X (binaryOp op) r2) (S : OpS W r2 g) (ha : EV W E X a fa) (hb : EV W E X b fb) : EV W E X (.BinOp a op b pos) (e2 g fa fb) := by
  refine PE.imp (pe_op ho ha hb) fun σ H Q hq => ?_
  obtain ⟨G, F, en, R, h⟩ := tE.out.mp hq
  refine ev_then R h fun ra en1 x F1 H1 h1 R1 x1 va => ?_
  refine ev_then R1 h1 fun rb en2 y F2 H2 h2 R2 x2 vb => ?_
  exact op2_out S R2 (va.mono x2) vb h2 fun r v F' H' A s n => A v F' H' (R2.stp s) ((x1.trans x2).trans s.ex) (n.vr R2)
theorem ev_cmp {op : CmpOp} {r2 : R2} {g : D → D → Option ER} (ho : OpR X (compareOp op) r2) (S : OpS W r2 g) (ha : EV W E X a fa) (hb : EV W E X b fb) (hm : behindInMarks op b = false := by first | exact nomark _ | rfl | with_unfolding_all rfl) : EV W E X (.Compare a [op] [b] pos) (e2 g fa fb) := by
  refine PE.imp (pe_cmpR ho ha hb hm) fun σ H Q hq => ?_
  obtain ⟨G, F, en, R, h⟩ := tE.out.mp hq
  refine ev_then R h fun ra en1 x F1 H1 h1 R1 x1 va => ?_
  refine ev_then R1 h1 fun rb en2 y F2 H2 h2 R2 x2 vb => ?_
  exact op2_out S R2 (va.mono x2) vb h2 fun r v F' H' A s n => A v F' H' (R2.stp s) ((x1.trans x2).trans s.ex) (n.vr R2)
theorem toB_out {α : Type} {A : α → En → Prop} {k : Bool → En → R En α} {r : ER} (h : Out W E G σ A ((toB r en).bind k)) : ∃ b, r = .sh (.bl b) ∧ Out W E G σ A (k b en) := by
  cases r with
  | sh d =>
    cases d with
    | bl b => exact ⟨b, rfl, h⟩
    | _ => exact h.elim
  | _ => exact h.elim
theorem toB_out' {A : Bool → En → Prop} {r : ER} (h : Out W E G σ A (toB r en)) : ∃ b, r = .sh (.bl b) ∧ A b en := by
  cases r with
  | sh d =>
    cases d with
    | bl b => exact ⟨b, rfl, h⟩
    | _ => exact h.elim
  | _ => exact h.elim
theorem VW.bl {F : Hp} {v : V} {b : Bool} (h : VW W σ F (.sh (.bl b)) v) : v = .bl b := by
  have h' : Dat W F v (.bl b) := h
  cases h'; rfl
theorem VN.bl {F H' : Hp} {v : V} {b : Bool} (h : VN W H F H' (.sh (.bl b)) v) : v = .bl b := by
  have h' : Dat W F v (.bl b) := h
  cases h'; rfl
theorem bv_cmp {op : CmpOp} {r2 : R2} {g : D → D → Option ER} (ho : OpR X (compareOp op) r2) (S : OpS W r2 g) (ha : EV W E X a fa) (hb : EV W E X b fb) (hm : behindInMarks op b = false := by first | exact nomark _ | rfl | with_unfolding_all rfl) : BV W E X (.Compare a [op] [b] pos) (mB (e2 g fa fb)) := by
  refine PT.imp (pt_cmpR ho ha hb hm) fun σ H Q hq => ?_
  obtain ⟨G, F, en, R, h⟩ := tT.out.mp hq
  have h' : Out W E G σ (AT W G σ F Q) ((fa en).bind fun ra en1 => (fb en1).bind fun rb en2 => (op2 g en2 ra rb).bind toB) := by
    unfold mB e2 at h
    cases e1 : fa en with
    | ok r1 s1 =>
      rw [e1] at h
      cases e2 : fb s1 with
      | ok r2 s2 => simp only [Fw.R.bind_ok, Fw.R.bind_exc, Fw.R.bind_bad, e2] at h ⊢; exact h
      | exc c fs s => simp only [Fw.R.bind_ok, Fw.R.bind_exc, Fw.R.bind_bad, e2] at h ⊢; exact h
      | bad => simp only [Fw.R.bind_ok, Fw.R.bind_exc, Fw.R.bind_bad, e2] at h ⊢; exact h
    | exc c fs s => rw [e1] at h; exact h
    | bad => rw [e1] at h; exact h
  refine ev_then R h' fun ra en1 x F1 H1 h1 R1 x1 va => ?_
  refine ev_then R1 h1 fun rb en2 y F2 H2 h2 R2 x2 vb => ?_
  refine op2_out (E := E) (A := fun r en' => Out W E G σ (AT W G σ F Q) (toB r en')) S R2 (va.mono x2) vb ?_ fun r v F' H' A s n => ?_
  · revert h2
    cases e : op2 g en2 ra rb with
    | ok r s => exact fun h => h
    | exc c fs s => exact fun h => h
    | bad => exact fun h => h
  · obtain ⟨b, rfl, h3⟩ := toB_out' A
    refine ⟨b, n.bl, h3 F' H' (R2.stp s) ((x1.trans x2).trans s.ex)⟩
theorem bv_val (ha : EV W E X a fa) (he : ∀ whole, isTrue a X.env whole = (do let v ← whole; standAt a.pos; holding [v] (truthy v)) := by intro _; rfl) : BV W E X a (mB fa) := by
  refine PT.imp (pt_val ha he) fun σ H Q hq => ?_
  obtain ⟨G, F, en, R, h⟩ := tT.out.mp hq
  refine ev_then R h fun r en1 x F1 H1 h1 R1 x1 va => ?_
  obtain ⟨b, rfl, h3⟩ := toB_out' h1
  exact ⟨b, va.bl, h3 F1 H1 R1 x1⟩
theorem tru_ok {F H : Hp} {v : V} {d : D} {k : Bool} (h : VB W F H v d) (s : Ex F H) (e : tru d = some k) : TruV W.K v H k := by
  cases d with
  | non => cases e; rw [h.non]; exact rfl
  | bl b => cases e; rw [h.bl]; exact rfl
  | int i => cases e; rw [h.int]; exact rfl
  | str x =>
    rw [h.str]
    have e' : (if x.length ≤ 1000000 then some ((x.length : Int) != 0) else none) = some k := e
    split at e'
    · rename_i hx
      cases e'
      exact ⟨Nat.le_trans hx (show 1000000 ≤ sizeLine by decide), rfl⟩
    · cases e'
  | lst ds =>
    obtain ⟨a, vs, rfl, h1, h2⟩ := h.lst s
    cases e
    refine .inl ⟨vs, .inl (.inl h1), ?_⟩
    have := h2.1
    cases vs <;> cases ds <;> first | rfl | (simp at this)
  | rol ds =>
    obtain ⟨a, vs, rfl, h1, h2⟩ := h.rol s
    cases e
    refine .inl ⟨vs, h1, ?_⟩
    have := h2.1
    cases vs <;> cases ds <;> first | rfl | (simp at this)
  | tup ds =>
    obtain ⟨a, vs, rfl, h1, h2⟩ := h.tup s
    cases e
    refine .inr (.inl ⟨vs, SqT.of h1, ?_⟩)
    have := h2.1
    cases vs <;> cases ds <;> first | rfl | (simp at this)
  | rot ds =>
    obtain ⟨a, vs, rfl, h1, h2⟩ := h.rot s
    cases e
    refine .inr (.inl ⟨vs, h1, ?_⟩)
    have := h2.1
    cases vs <;> cases ds <;> first | rfl | (simp at this)
  | dk ds =>
    obtain ⟨a, vs, rfl, h1, h2⟩ := h.dk s
    cases e
    refine .inr (.inr ⟨vs, h1, ?_⟩)
    have := congrArg List.length h2.1
    cases vs <;> cases ds <;> first | rfl | (simp at this)
  | _ => cases e
theorem bv_tru (hK : W.K = X.K) (ha : EV W E X a fa) (he : ∀ whole, isTrue a X.env whole = (do let v ← whole; standAt a.pos; holding [v] (truthy v)) := by intro _; rfl) : BV W E X a (mT fa) := by
  refine PT.imp (pt_truth ha he) fun σ H Q hq => ?_
  obtain ⟨G, F, en, R, h⟩ := tT.out.mp hq
  refine ev_then R h fun r en1 x F1 H1 h1 R1 x1 va => ?_
  cases e : cur en1 r with
  | none => simp only [e] at h1; exact h1.elim
  | some d =>
    cases e2 : tru d with
    | none => simp only [e, Option.bind_some, e2] at h1; exact h1.elim
    | some k =>
      simp only [e, Option.bind_some, e2] at h1
      refine ⟨k, ?_, h1 F1 H1 R1 x1⟩
      rw [← hK]
      exact tru_ok (va.vb R1 e) R1.sub e2
def BW (W : Wc) (E : St → XK) (X : Cx) (e : Expr) (f : M Bool) : Prop := PW X e (tT W E f)
variable {rest : List Expr} {ga gb : M Bool}
theorem PW.imp {X : Cx} {e : Expr} {t u : TT} (h : PW X e t) (i : ∀ σ H Q, u σ H Q → t σ H Q) : PW X e u := ⟨fun wh pins s σ H Q I w => h.run wh pins s σ H Q I (i _ _ _ w)⟩
theorem bw_and1 (ha : BV W E X a ga) : BW W E X (.BoolOp .And [a] pos) ga := pw_and1 ha
theorem bw_or1 (ha : BV W E X a ga) : BW W E X (.BoolOp .Or [a] pos) ga := pw_or1 ha
theorem bw_and (ha : BV W E X a ga) (hb : BW W E X (.BoolOp .And (b :: rest) pos) gb) : BW W E X (.BoolOp .And (a :: b :: rest) pos) (mAnd ga gb) := by
  refine PW.imp (pw_and ha hb) fun σ H Q hq => ?_
  obtain ⟨G, F, en, R, h⟩ := tT.out.mp hq
  refine bv_then R h fun r en1 F1 H1 h1 R1 x1 => ?_
  cases r with
  | true => exact tT.out.mpr ⟨G, F1, en1, R1, by
      revert h1; simp only [if_true]
      cases e : gb en1 with
      | ok r s => exact fun h F' H' R' x' => h F' H' R' (x1.trans x')
      | exc c fs s => exact fun h => h
      | bad => exact fun h => h⟩
  | false => exact h1 F1 H1 R1 x1
theorem bw_or (ha : BV W E X a ga) (hb : BW W E X (.BoolOp .Or (b :: rest) pos) gb) : BW W E X (.BoolOp .Or (a :: b :: rest) pos) (mOr ga gb) := by
  refine PW.imp (pw_or ha hb) fun σ H Q hq => ?_
  obtain ⟨G, F, en, R, h⟩ := tT.out.mp hq
  refine bv_then R h fun r en1 F1 H1 h1 R1 x1 => ?_
  cases r with
  | false => exact tT.out.mpr ⟨G, F1, en1, R1, by
      revert h1; simp only [if_neg Bool.false_ne_true]
      cases e : gb en1 with
      | ok r s => exact fun h F' H' R' x' => h F' H' R' (x1.trans x')
      | exc c fs s => exact fun h => h
      | bad => exact fun h => h⟩
  | true => exact h1 F1 H1 R1 x1
theorem bv_w (h : BW W E X a ga) : BV W E X a ga := PW.pt h
theorem bv_not (ha : BV W E X a ga) : BV W E X (.UnaryOp .Not a pos) (mNot ga) := by
  refine PT.imp (pt_not ha) fun σ H Q hq => ?_
  obtain ⟨G, F, en, R, h⟩ := tT.out.mp hq
  exact bv_then R h fun r en1 F1 H1 h1 R1 x1 => h1 F1 H1 R1 x1
/-- what is asked behind a further start -/
theorem tE.of {f : M ER} {Q : VK} {F1 H1 : Hp} {en1 : En} (R1 : Rel W G en1 σ F1 H1) (x1 : Ex F F1) (h : Out W E G σ (AE W G σ F Q) (f en1)) : tE W E f σ H1 Q := by
  refine tE.out.mpr ⟨G, F1, en1, R1, ?_⟩
  revert h
  cases f en1 with
  | ok r s => exact fun h v F' H' R' x' => h v F' H' R' (x1.trans x')
  | exc c fs s => exact fun h => h
  | bad => exact fun h => h
theorem ev_if (hc : BV W E X c ga) (ha : EV W E X a fa) (hb : EV W E X b fb) : EV W E X (.IfExp c a b pos) (eIf ga fa fb) := by
  refine PE.imp (pe_ifExp hc ha hb) fun σ H Q hq => ?_
  obtain ⟨G, F, en, R, h⟩ := tE.out.mp hq
  refine bv_then R h fun r en1 F1 H1 h1 R1 x1 => ?_
  cases r with
  | true => exact tE.of R1 x1 h1
  | false => exact tE.of R1 x1 h1
theorem ev_one {op} (h : EV W E X a fa) : EV W E X (.BoolOp op [a] pos) fa := pe_one h
theorem ev_and (ha : EV W E X a fa) (hb : EV W E X (.BoolOp .And (b :: rest) pos) fb) : EV W E X (.BoolOp .And (a :: b :: rest) pos) (eAnd fa fb) := by
  refine PE.imp (pe_and ha hb) fun σ H Q hq => ?_
  obtain ⟨G, F, en, R, h⟩ := tE.out.mp hq
  refine ev_then R h fun r en1 x F1 H1 h1 R1 x1 va => ?_
  obtain ⟨k, rfl, h3⟩ := toB_out h1
  refine ⟨k, va.bl, ?_⟩
  cases k with
  | true => exact tE.of R1 x1 h3
  | false => exact h3 _ F1 H1 R1 x1 (Dat.bl false)
theorem ev_or (ha : EV W E X a fa) (hb : EV W E X (.BoolOp .Or (b :: rest) pos) fb) : EV W E X (.BoolOp .Or (a :: b :: rest) pos) (eOr fa fb) := by
  refine PE.imp (pe_or ha hb) fun σ H Q hq => ?_
  obtain ⟨G, F, en, R, h⟩ := tE.out.mp hq
  refine ev_then R h fun r en1 x F1 H1 h1 R1 x1 va => ?_
  obtain ⟨k, rfl, h3⟩ := toB_out h1
  refine ⟨k, va.bl, ?_⟩
  cases k with
  | false => exact tE.of R1 x1 h3
  | true => exact h3 _ F1 H1 R1 x1 (Dat.bl true)
theorem ev_not (ha : EV W E X a fa) : EV W E X (.UnaryOp .Not a pos) (eNot fa) := by
  refine PE.imp (pe_not ha) fun σ H Q hq => ?_
  obtain ⟨G, F, en, R, h⟩ := tE.out.mp hq
  refine ev_then R h fun r en1 x F1 H1 h1 R1 x1 va => ?_
  obtain ⟨k, rfl, h3⟩ := toB_out h1
  exact ⟨k, va.bl, h3 _ F1 H1 R1 x1 (Dat.bl (!k))⟩
theorem ev_un {op : UnaryOp} {r1 : V → Hp → VK → Prop} {g : D → Option ER} (ho : UnR X (unaryOp op) r1) (S : UnS W r1 g) (ha : EV W E X a fa) : EV W E X (.UnaryOp op a pos) (e1 g fa) := by
  refine PE.imp (pe_un ho ha) fun σ H Q hq => ?_
  obtain ⟨G, F, en, R, h⟩ := tE.out.mp hq
  refine ev_then R h fun r en1 x F1 H1 h1 R1 x1 va => ?_
  cases e : cur en1 r with
  | none => simp only [e] at h1; exact h1.elim
  | some d =>
    cases e2 : g d with
    | none => simp only [e, e2] at h1; exact h1.elim
    | some r' =>
      simp only [e, e2] at h1
      exact S F1 H1 x d r' Q R1.sub (va.vb R1 e) e2 fun v F' H' s n => h1 v F' H' (R1.stp s) (x1.trans s.ex) (n.vr R1)
theorem ev_chain {op op' : CmpOp} {r2 r2' : R2} {g g' : D → D → Option ER} (ho : OpR X (compareOp op) r2) (ho' : OpR X (compareOp op') r2') (S : OpS W r2 g) (S' : OpS W r2' g') (ha : EV W E X a fa) (hb : EV W E X b fb) (hc : EV W E X c fc)
    (hm : lastMarks [op, op'] [b, c] = false := by with_unfolding_all rfl) : EV W E X (.Compare a [op, op'] [b, c] pos) (eChain g g' fa fb fc) := by
  refine PE.imp (pe_chain ho ho' ha hb hc hm) fun σ H Q hq => ?_
  obtain ⟨G, F, en, R, h⟩ := tE.out.mp hq
  refine ev_then R h fun ra en1 x F1 H1 h1 R1 x1 va => ?_
  refine ev_then R1 h1 fun rb en2 y F2 H2 h2 R2 x2 vb => ?_
  refine op2_out (E := E) (A := fun r en' => Out W E G σ (AE W G σ F Q) ((toB r en').bind fun b en4 => if b = true then (fc en4).bind fun rc en5 => op2 g' en5 rb rc else .ok (.sh (.bl false)) en4)) S R2 (va.mono x2) vb ?_ fun r v F' H' A s n => ?_
  · revert h2
    cases e : op2 g en2 ra rb with
    | ok r s => exact fun h => h
    | exc c fs s => exact fun h => h
    | bad => exact fun h => h
  · obtain ⟨k, rfl, h3⟩ := toB_out A
    refine ⟨k, n.bl, ?_⟩
    have R3 := R2.stp s
    have x3 := (x1.trans x2).trans s.ex
    cases k with
    | false => exact h3 _ F' H' R3 x3 (Dat.bl false)
    | true =>
      refine ev_then R3 h3 fun rc en5 z F4 H4 h4 R4 x4 vc => ?_
      exact op2_out S' R4 ((vb.mono s.ex).mono x4) vc h4 fun r v F' H' A s n => A v F' H' (R4.stp s) ((x3.trans x4).trans s.ex) (n.vr R4)
theorem VWs.mono {F' : Hp} (e : Ex F F') : ∀ {rs : List ER} {vs : List V}, VWs W σ F rs vs → VWs W σ F' rs vs
  | [], [], _ => trivial
  | r :: rs, v :: vs, h => ⟨h.1.mono e, VWs.mono e h.2⟩
  | [], _ :: _, h => h.elim
  | _ :: _, [], h => h.elim
theorem VWs.length : ∀ {rs : List ER} {vs : List V}, VWs W σ F rs vs → rs.length = vs.length
  | [], [], _ => rfl
  | r :: rs, v :: vs, h => by simp [VWs.length h.2]
  | [], _ :: _, h => h.elim
  | _ :: _, [], h => h.elim
def AL (W : Wc) (G : Gc) (σ : St) (F : Hp) (Q : List V → Hp → Prop) : List ER → En → Prop := fun rs en' => ∀ vs F' H', Rel W G en' σ F' H' → Ex F F' → VWs W σ F' rs vs → Q vs H'
theorem tA.out {f : M (List ER)} {Q : List V → Hp → Prop} : tA W E f σ H Q ↔ ∃ G F en, Rel W G en σ F H ∧ Out W E G σ (AL W G σ F Q) (f en) := by
  constructor
  · rintro ⟨G, F, en, R, h⟩
    refine ⟨G, F, en, R, ?_⟩
    cases e : f en with
    | ok r en' => rw [e] at h; exact h
    | exc c fs s => rw [e] at h; exact h
    | bad => rw [e] at h; exact h
  · rintro ⟨G, F, en, R, h⟩
    refine ⟨G, F, en, R, ?_⟩
    cases e : f en with
    | ok r en' => rw [e] at h; exact h
    | exc c fs s => rw [e] at h; exact h
    | bad => rw [e] at h; exact h
theorem av_nil : AV W E X [] (eA []) := PA.imp pa_nil fun σ H Q ⟨G, F, en, R, h⟩ => h [] F H R (Ex.refl F) trivial
theorem av_cons (ha : EV W E X a fa) (hr : AV W E X es (eA fs)) (hs : starEach (a :: es) X.env = (false, eval a X.env) :: starEach es X.env := by rfl) : AV W E X (a :: es) (eA (fa :: fs)) := by
  refine PA.imp (pa_cons ha hr hs) fun σ H Q hq => ?_
  obtain ⟨G, F, en, R, h⟩ := tA.out.mp hq
  refine ev_then R h fun r en1 x F1 H1 h1 R1 x1 va => ?_
  refine av_then R1 h1 fun rs en2 xs F2 H2 h2 R2 x2 vs => ?_
  exact h2 (x :: xs) F2 H2 R2 (x1.trans x2) ⟨va.mono x2, vs⟩
theorem eA_length : ∀ {fs : List (M ER)} {en en' : En} {rs : List ER}, eA fs en = .ok rs en' → rs.length = fs.length
  | [], en, en', rs, h => by cases h; rfl
  | f :: fs, en, en', rs, h => by
    have h' : ((f en).bind fun r en1 => (eA fs en1).bind fun rs en2 => (.ok (r :: rs) en2 : R En (List ER))) = .ok rs en' := h
    cases e : f en with
    | ok r en1 =>
      rw [e] at h'
      have h2 : ((eA fs en1).bind fun rs en2 => (.ok (r :: rs) en2 : R En (List ER))) = .ok rs en' := h'
      cases e2 : eA fs en1 with
      | ok rs2 en2 => rw [e2] at h2; cases h2; simp [eA_length e2]
      | exc c fs s => rw [e2] at h2; cases h2
      | bad => rw [e2] at h2; cases h2
    | exc c fs s => rw [e] at h'; cases h'
    | bad => rw [e] at h'; cases h'
theorem shr_ok {r : ER} {v : V} {d : D} {en' : En} (hw : VW W σ F r v) (R0 : Rel W G en σ F H) (e : shr en r = some (d, en')) : ∃ F', Ex F F' ∧ Dat W F' v d ∧ Rel W G en' σ F' H := by
  cases r with
  | sh d' => cases e; exact ⟨F, Ex.refl F, hw, R0⟩
  | fr d' => cases e; exact ⟨F, Ex.refl F, hw, R0⟩
  | bo i =>
    have hv : σ[i]? = some (some v) := hw
    unfold shr at e
    cases q : en[i]? with
    | none => simp only [q] at e; cases e
    | some s =>
      cases s with
      | un => simp only [q] at e; cases e
      | sh d' =>
        simp only [q] at e; cases e
        obtain ⟨v', h1, h2⟩ := R0.slot i _ q
        rw [hv] at h1; cases h1
        exact ⟨F, Ex.refl F, h2, R0⟩
      | ow d' =>
        simp only [q] at e; cases e
        exact R0.share q hv
      | pn m d' => simp only [q] at e; cases e
      | lk d' => simp only [q] at e; cases e
theorem shrs_ok : ∀ {rs : List ER} {vs : List V} {ds : List D} {F : Hp} {en en' : En}, VWs W σ F rs vs → Rel W G en σ F H → shrs rs en = some (ds, en') → ∃ F', Ex F F' ∧ DL W F' vs ds ∧ Rel W G en' σ F' H
  | [], [], _, F, en, en', _, R0, e => by cases e; exact ⟨F, Ex.refl F, DL.nil, R0⟩
  | [], _ :: _, _, _, _, _, h, _, _ => h.elim
  | _ :: _, [], _, _, _, _, h, _, _ => h.elim
  | r :: rs, v :: vs, ds, F, en, en', h, R0, e => by
    unfold shrs at e
    cases q : shr en r with
    | none => simp only [q] at e; cases e
    | some p =>
      obtain ⟨d, en1⟩ := p
      simp only [q] at e
      obtain ⟨F1, x1, d1, R1⟩ := shr_ok h.1 R0 q
      cases q2 : shrs rs en1 with
      | none => simp only [q2] at e; cases e
      | some p2 =>
        obtain ⟨ds2, en2⟩ := p2
        simp only [q2] at e
        cases e
        obtain ⟨F2, x2, d2, R2⟩ := shrs_ok (VWs.mono x1 h.2) R1 q2
        exact ⟨F2, x1.trans x2, DL.cons (d1.mono x2) d2, R2⟩
theorem shrs_out {α : Type} {A : α → En → Prop} {rs : List ER} {vs : List V} {k : List D → En → R En α} (hw : VWs W σ F rs vs) (R0 : Rel W G en σ F H)
    (h : Out W E G σ A (match shrs rs en with | some (ds, en2) => k ds en2 | none => .bad)) : ∃ ds en2 F', Ex F F' ∧ DL W F' vs ds ∧ Rel W G en2 σ F' H ∧ Out W E G σ A (k ds en2) := by
  cases q : shrs rs en with
  | none => simp only [q] at h; exact h.elim
  | some p =>
    obtain ⟨ds, en2⟩ := p
    simp only [q] at h
    obtain ⟨F', x, d, R1⟩ := shrs_ok hw R0 q
    exact ⟨ds, en2, F', x, d, R1, h⟩
theorem ev_tup {k} (h : AV W E X es (eA fs)) (hl : fs.length ≤ 1000 := by exact Nat.le_of_ble_eq_true rfl) : EV W E X (.Tuple es k pos) (eTup fs) := by
  refine PE.imp (pe_tup h) fun σ H Q hq => ?_
  obtain ⟨G, F, en, R, h⟩ := tE.out.mp hq
  refine ⟨G, F, en, R, ?_⟩
  unfold eTup at h
  cases e : eA fs en with
  | ok rs en1 =>
    rw [e] at h
    intro vs F1 H1 R1 x1 hw
    refine ⟨?_, fun p hp => ?_⟩
    · rw [← hw.length, eA_length e]; exact Nat.le_trans hl (by decide)
    · obtain ⟨ds, en2, F2, x2, dl, R2, h2⟩ := shrs_out (E := E) (A := AE W G σ F Q) (k := fun ds en2 => (.ok (.sh (.tup ds)) en2 : Fw.R En ER)) hw R1 h
      have st := Stp.new (o := .tup vs) R2.sub hp
      exact h2 (.ref p) _ _ (R2.stp st) ((x1.trans x2).trans st.ex) (Dat.tup upd_same dl.1 (dl.mono st.ex).2)
  | exc c fs s => rw [e] at h; exact h
  | bad => rw [e] at h; exact h
theorem ev_lst (h : AV W E X es (eA fs)) (hl : fs.length ≤ 1000 := by exact Nat.le_of_ble_eq_true rfl) : EV W E X (.List es pos) (eLst fs) := by
  refine PE.imp (pe_lst h) fun σ H Q hq => ?_
  obtain ⟨G, F, en, R, h⟩ := tE.out.mp hq
  refine ⟨G, F, en, R, ?_⟩
  unfold eLst at h
  cases e : eA fs en with
  | ok rs en1 =>
    rw [e] at h
    intro vs F1 H1 R1 x1 hw
    refine ⟨?_, fun p hp => ?_⟩
    · rw [← hw.length, eA_length e]; exact Nat.le_trans hl (by decide)
    · obtain ⟨ds, en2, F2, x2, dl, R2, h2⟩ := shrs_out (E := E) (A := AE W G σ F Q) (k := fun ds en2 => (.ok (.fr (.lst ds)) en2 : Fw.R En ER)) hw R1 h
      have st := Stp.cell (o := .lst vs) R2.sub hp
      exact h2 (.ref p) _ _ (R2.stp st) (x1.trans x2) ⟨p, rfl, ⟨vs, upd_same, dl⟩, no_of (s := R2.sub) hp, R2.new hp, R2.apart hp⟩
  | exc c fs s => rw [e] at h; exact h
  | bad => rw [e] at h; exact h
theorem curs_ok : ∀ {rs : List ER} {vs : List V} {ds : List D}, VWs W σ F rs vs → Rel W G en σ F H → curs en rs = some ds → VBs W F H vs ds
  | [], [], _, _, _, e => by cases e; exact trivial
  | [], _ :: _, _, h, _, _ => h.elim
  | _ :: _, [], _, h, _, _ => h.elim
  | r :: rs, v :: vs, ds, h, R0, e => by
    unfold curs at e
    cases q : cur en r with
    | none => simp only [q] at e; cases e
    | some d =>
      cases q2 : curs en rs with
      | none => simp only [q, q2] at e; cases e
      | some ds2 =>
        simp only [q, q2] at e
        cases e
        exact ⟨h.1.vb R0 q, curs_ok h.2 R0 q2⟩
theorem eB_run {r1 : List V → Hp → VK → Prop} {g : List D → Option ER} {Q : VK} (S : CallS W r1 g) (R : Rel W G en σ F H) (h : Out W E G σ (AE W G σ F Q) (eB g fs en)) : tA W E (eA fs) σ H fun vs H1 => r1 vs H1 Q := by
  refine av_then R h fun rs en1 vs F1 H1 h1 R1 x1 hw => ?_
  cases q : curs en1 rs with
  | none => simp only [q] at h1; exact h1.elim
  | some ds =>
    cases q2 : g ds with
    | none => simp only [q, q2] at h1; exact h1.elim
    | some r =>
      simp only [q, q2] at h1
      exact S F1 H1 vs ds r Q R1.sub (curs_ok hw R1 q) q2 fun v F' H' s n => h1 v F' H' (R1.stp s) (x1.trans s.ex) (n.vr R1)
/-- a built-in function, a built-in type called -/
theorem ev_b {x : Str} {p : Pos} {id : String} {r1 : List V → Hp → VK → Prop} {g : List D → Option ER} (hc : CallR X (.builtin id) r1) (S : CallS W r1 g) (hm : X.mg x = none) (ha : AV W E X (a :: es) (eA fs)) (hv : bootBuiltins x = some (.builtin id) := by decide +kernel) (hg : Gl X x := by rfl) (hn : x ≠ "__name__" := by decide) (hdb : (x == ("__debug__" : Str)) = false := by decide)
    (he : starEach (a :: es) X.env = (false, eval a X.env) :: starEach es X.env := by rfl) (hpl : (backTo pos (starEach es X.env)).any (·.1) = false := by rfl) : EV W E X (.Call (.Name x p) (a :: es) [] pos) (eB g fs) := by
  refine PE.imp (pe_callB hc hg hm hv ha hn hdb he hpl) fun σ H Q hq => ?_
  obtain ⟨G, F, en, R, h⟩ := tE.out.mp hq
  exact eB_run S R h
theorem ev_ty {x : Str} {p : Pos} {T : String} {r1 : List V → Hp → VK → Prop} {g : List D → Option ER} (hc : CallR X (.type T) r1) (S : CallS W r1 g) (hm : X.mg x = none) (ha : AV W E X (a :: es) (eA fs)) (hv : bootBuiltins x = some (.type T) := by decide +kernel) (hg : Gl X x := by rfl) (hn : x ≠ "__name__" := by decide) (hdb : (x == ("__debug__" : Str)) = false := by decide)
    (he : starEach (a :: es) X.env = (false, eval a X.env) :: starEach es X.env := by rfl) (hpl : (backTo pos (starEach es X.env)).any (·.1) = false := by rfl) : EV W E X (.Call (.Name x p) (a :: es) [] pos) (eB g fs) := by
  refine PE.imp (pe_callTy hc hg hm hv ha hn hdb he hpl) fun σ H Q hq => ?_
  obtain ⟨G, F, en, R, h⟩ := tE.out.mp hq
  exact eB_run S R h
theorem ev_ix {r2 : R2} {g : D → D → Option ER} (ho : IxR X r2) (S : OpS W r2 g) (ha : EV W E X a fa) (hb : EV W E X b fb) (hs : PlainIx b := by exact fun _ _ => rfl) : EV W E X (.Subscript a b pos) (e2 g fa fb) := by
  refine PE.imp (pe_ix ho ha hb hs) fun σ H Q hq => ?_
  obtain ⟨G, F, en, R, h⟩ := tE.out.mp hq
  refine ev_then R h fun ra en1 x F1 H1 h1 R1 x1 va => ?_
  refine ev_then R1 h1 fun rb en2 y F2 H2 h2 R2 x2 vb => ?_
  exact op2_out S R2 (va.mono x2) vb h2 fun r v F' H' A s n => A v F' H' (R2.stp s) ((x1.trans x2).trans s.ex) (n.vr R2)
end
end Fw
set_option Elab.async false
set_option linter.all false
set_option maxRecDepth 100000
namespace Fw
open PySem PySem.Spec PyProof.Rows L2

/-! ### statements -/
def sNil : SM := .nx
def sSeq (f g : SM) : SM := fun en => match f en with
  | .nx en' => g en'
  | .rt r en' => .rt r en'
  | .bk en' => .bk en'
  | .ct en' => .ct en'
  | .exc c fs en' => .exc c fs en'
  | .bad => .bad
def sPass : SM := .nx
def sBreak : SM := .bk
def sCont : SM := .ct
/-- an expression's value, then a statement's end -/
def R.then {α : Type} (r : R En α) (k : α → En → O) : O := match r with
  | .ok a en => k a en
  | .exc c fs en => .exc c fs en
  | .bad => .bad
def put (i : Nat) (r : ER) (en : En) : O := match en[i]? with
  | none => .bad
  | some s => if s.isPn = true then .bad else match r with
    | .sh d => .nx (en.set i (.sh d))
    | .fr d => .nx (en.set i (.ow d))
    | .bo j => match shr en (.bo j) with
      | some (d, en1) => .nx (en1.set i (.sh d))
      | none => .bad
def sSet (i : Nat) (f : M ER) : SM := fun en => (f en).then (put i)
def sExpr (f : M ER) : SM := fun en => (f en).then fun _ en1 => .nx en1
def retR (r : ER) (en : En) : O := match r with
  | .sh d => .rt (.sh d) en
  | .fr d => .rt (.fr d) en
  | .bo j => match en[j]? with
    | some (.sh d) => .rt (.sh d) en
    | some (.ow d) => .rt (.fr d) en
    | _ => .bad
def sRet (f : M ER) : SM := fun en => (f en).then retR
def sRetN : SM := fun en => .rt (.sh .non) en
def sIf (c : M Bool) (f g : SM) : SM := fun en => (c en).then fun b en1 => if b = true then f en1 else g en1
/-- targets of shared data -/
abbrev GM := D → En → Option En
def gN (i : Nat) : GM := fun d en => match en[i]? with
  | some s => if s.isPn = true then none else some (en.set i (.sh d))
  | none => none
def gAll : List GM → List D → En → Option En
  | [], [], en => some en
  | g :: gs, d :: ds, en => match g d en with
    | some en1 => gAll gs ds en1
    | none => none
  | _, _, _ => none
def gT (gs : List GM) : GM := fun d en => match d with
  | .tup ds => gAll gs ds en
  | _ => none
/-- target = e, the value shared -/
def sAsg (g : GM) (f : M ER) : SM := fun en => (f en).then fun r en1 => match shr en1 r with
  | some (d, en2) => (match g d en2 with | some en3 => .nx en3 | none => .bad)
  | none => .bad
/-- x op= e, of plain values -/
def sAug (i : Nat) (g : D → D → Option ER) (f : M ER) : SM := fun en => match en[i]? with
  | some (.sh dx) => (f en).then fun r en1 => match cur en1 r with
    | some dy => (match g dx dy with | some r' => put i r' en1 | none => .bad)
    | none => .bad
  | _ => .bad

/-- what is asked of a statement's outcome -/
def SOut (W : Wc) (E : St → XK) (G : Gc) (D : Ends) : O → Prop
  | .nx en' => ∀ σ' F' H', Rel W G en' σ' F' H' → D.nx σ' H'
  | .rt r en' => ∀ v σ' F' H', Rel W G en' σ' F' H' → VT W G F' H' r v → D.rt v H'
  | .bk en' => ∀ σ' F' H', Rel W G en' σ' F' H' → D.bk σ' H'
  | .ct en' => ∀ σ' F' H', Rel W G en' σ' F' H' → D.ct σ' H'
  | .exc c fs en' => ∀ dd σ' F' H', Rel W G en' σ' F' H' → XR W G.H0 F' H' dd fs → E σ' (.ref (W.cls c)) (some dd) H'
  | .bad => False

section
variable {W : Wc} {E : St → XK} {X : Cx} {a b c : Expr} {es : List Expr} {fa fb fc : M ER} {ga gb : M Bool} {fs : List (M ER)} {pos : Pos} {G : Gc} {en : En} {σ : St} {F H : Hp}
  {st : Stmt} {sts rest : List Stmt} {f g : SM} {De : Ends}

theorem tS.out : tS W E f De σ H ↔ ∃ G F en, Rel W G en σ F H ∧ SOut W E G De (f en) := by
  constructor
  · rintro ⟨G, F, en, R, h⟩
    refine ⟨G, F, en, R, ?_⟩
    cases e : f en <;> (rw [e] at h; exact h)
  · rintro ⟨G, F, en, R, h⟩
    refine ⟨G, F, en, R, ?_⟩
    cases e : f en <;> (rw [e] at h; exact h)
theorem tS.of (R : Rel W G en σ F H) (h : SOut W E G De (f en)) : tS W E f De σ H := tS.out.mpr ⟨G, F, en, R, h⟩
theorem es_then {f : M ER} {k : ER → En → O} {Q : VK} (R0 : Rel W G en σ F H) (h : SOut W E G De ((f en).then k))
    (hq : ∀ r en' v F' H', SOut W E G De (k r en') → Rel W G en' σ F' H' → Ex F F' → VR W G en' σ F' H' r v → Q v H') : tE W E f σ H Q := by
  refine ⟨G, F, en, R0, ?_⟩
  cases e : f en with
  | ok r en' => rw [e] at h; exact fun v F' H' R' x vw => hq r en' v F' H' h R' x vw
  | exc c fs s => rw [e] at h; exact fun dd F' H' R' x => h dd σ F' H' R' x
  | bad => rw [e] at h; exact h
theorem bs_then {f : M Bool} {k : Bool → En → O} {Q : Bool → Hp → Prop} (R0 : Rel W G en σ F H) (h : SOut W E G De ((f en).then k))
    (hq : ∀ r en' F' H', SOut W E G De (k r en') → Rel W G en' σ F' H' → Ex F F' → Q r H') : tT W E f σ H Q := by
  refine ⟨G, F, en, R0, ?_⟩
  cases e : f en with
  | ok r en' => rw [e] at h; exact fun F' H' R' x => hq r en' F' H' h R' x
  | exc c fs s => rw [e] at h; exact fun dd F' H' R' x => h dd σ F' H' R' x
  | bad => rw [e] at h; exact h
theorem sv_nil : SVs W E X [] sNil := PSs.imp pss_nil fun D σ H ⟨G, F, en, R, h⟩ => h σ F H R
theorem sv_one (h : SV W E X st f) : SVs W E X [st] f := pss_one h
theorem sv_cons (h1 : SV W E X st f) (h2 : SVs W E X rest g) : SVs W E X (st :: rest) (sSeq f g) := by
  refine PSs.imp (pss_cons h1 h2) fun D σ H hq => ?_
  obtain ⟨G, F, en, R, h⟩ := tS.out.mp hq
  refine ⟨G, F, en, R, ?_⟩
  unfold sSeq at h
  cases e : f en with
  | nx en' => simp only [e] at h; exact fun σ' F' H' R' => tS.of R' h
  | rt r en' => simp only [e] at h; exact h
  | bk en' => simp only [e] at h; exact h
  | ct en' => simp only [e] at h; exact h
  | exc c fs en' => simp only [e] at h; exact h
  | bad => simp only [e] at h; exact h
theorem sv_pass : SV W E X (.Pass pos) sPass := PS.imp ps_pass fun D σ H ⟨G, F, en, R, h⟩ => h σ F H R
theorem sv_break : SV W E X (.Break pos) sBreak := PS.imp ps_break fun D σ H ⟨G, F, en, R, h⟩ => h σ F H R
theorem sv_cont : SV W E X (.Continue pos) sCont := PS.imp ps_continue fun D σ H ⟨G, F, en, R, h⟩ => h σ F H R
/-- a value that ends is stored -/
theorem put_ok {i : Nat} {r : ER} {v : V} (R : Rel W G en σ F H) (hv : VR W G en σ F H r v) (h : SOut W E G De (put i r en)) : De.nx (σ.set i (some v)) H := by
  unfold put at h
  cases e : en[i]? with
  | none => simp only [e] at h; exact h.elim
  | some s =>
    simp only [e] at h
    by_cases hp : s.isPn = true
    · rw [if_pos hp] at h; exact h.elim
    · rw [if_neg hp] at h
      have hp' : s.isPn = false := by simpa using hp
      cases r with
      | sh d => exact h _ F H (R.setSh e hp' hv)
      | fr d =>
        obtain ⟨a, rfl, h1, h2, h3, h4⟩ := hv
        exact h _ F H (R.setOw e hp' h1 h2 h3 h4)
      | bo j =>
        cases q : shr en (.bo j) with
        | none => simp only [q] at h; exact h.elim
        | some p =>
          obtain ⟨d, en1⟩ := p
          simp only [q] at h
          obtain ⟨F', x, dv, R1⟩ := shr_ok (r := .bo j) hv R q
          have hs : ∃ s', en1[i]? = some s' ∧ s'.isPn = false := by
            unfold shr at q
            cases ej : en[j]? with
            | none => simp only [ej] at q; cases q
            | some t =>
              cases t with
              | un => simp only [ej] at q; cases q
              | sh d' => simp only [ej] at q; cases q; exact ⟨s, e, hp'⟩
              | ow d' =>
                simp only [ej] at q; cases q
                by_cases hij : i = j
                · subst hij; exact ⟨_, List.getElem?_set_self (lt_of_some e), rfl⟩
                · exact ⟨s, by rw [List.getElem?_set_ne (fun z => hij z.symm)]; exact e, hp'⟩
              | pn m d' => simp only [ej] at q; cases q
              | lk d' => simp only [ej] at q; cases q
          obtain ⟨s', e', hp2⟩ := hs
          exact h _ F' H (R1.setSh e' hp2 dv)
theorem sv_set (i : Nat) {x : Str} {p' : Pos} (hN : X.N.Nodup) (ha : EV W E X a fa) (hi : X.N[i]? = some x := by rfl) (hx : Loc X.env.scope x := by first | exact Or.inl rfl | exact Or.inr rfl)
    (hs : swapsWith a (some (.Name x p')) pos.line X.env = pure false := by rfl) (hf : X.fn x = true ∨ X.env.scope.names.lookup x = some .local := by first | exact .inl rfl | exact .inr rfl | assumption) : SV W E X (.Assign [.Name x p'] a pos) (sSet i fa) := by
  refine PS.imp (ps_set hN hi hx ha hs hf) fun D σ H hq => ?_
  obtain ⟨G, F, en, R, h⟩ := tS.out.mp hq
  exact es_then R h fun r en' v F' H' h1 R1 x1 vr => put_ok R1 vr h1
theorem sv_expr (ha : EV W E X a fa) (hs : swapsWith a none pos.line X.env = pure false := by rfl) : SV W E X (.Expr a pos) (sExpr fa) := by
  refine PS.imp (ps_expr ha hs) fun D σ H hq => ?_
  obtain ⟨G, F, en, R, h⟩ := tS.out.mp hq
  exact es_then R h fun r en' v F' H' h1 R1 x1 vr => h1 σ F' H' R1
theorem sv_doc {x : Str} {j p'} : SV W E X (.Expr (.Constant (.str x) j pos) p') sPass := PS.imp ps_doc fun D σ H ⟨G, F, en, R, h⟩ => h σ F H R
theorem sv_ret (ha : EV W E X a fa) : SV W E X (.Return (some a) pos) (sRet fa) := by
  refine PS.imp (ps_ret ha) fun D σ H hq => ?_
  obtain ⟨G, F, en, R, h⟩ := tS.out.mp hq
  refine es_then R h fun r en' v F' H' h1 R1 x1 vr => ?_
  cases r with
  | sh d => exact h1 v σ F' H' R1 vr
  | fr d =>
    obtain ⟨b, rfl, k1, k2, k3, k4⟩ := vr
    exact h1 _ σ F' H' R1 ⟨b, rfl, k1, k2, k3⟩
  | bo j =>
    have hv : σ[j]? = some (some v) := vr
    unfold retR at h1
    cases ej : en'[j]? with
    | none => simp only [ej] at h1; exact h1.elim
    | some s =>
      have hs := R1.slot j s ej
      cases s with
      | un => simp only [ej] at h1; exact h1.elim
      | sh d' =>
        simp only [ej] at h1
        obtain ⟨v', e1, e2⟩ := hs
        rw [hv] at e1; cases e1
        exact h1 v σ F' H' R1 e2
      | ow d' =>
        simp only [ej] at h1
        obtain ⟨b, e1, e2, e3, e4⟩ := hs
        rw [hv] at e1; cases e1
        exact h1 _ σ F' H' R1 ⟨b, rfl, e2, e3, e4⟩
      | pn m d' => simp only [ej] at h1; exact h1.elim
      | lk d' => simp only [ej] at h1; exact h1.elim
theorem sv_retN : SV W E X (.Return none pos) sRetN := PS.imp ps_retN fun D σ H ⟨G, F, en, R, h⟩ => h .non σ F H R Dat.non
theorem sv_if (hc : BV W E X c ga) (h1 : SVs W E X sts f) (h2 : SVs W E X rest g) : SV W E X (.If c sts rest pos) (sIf ga f g) := by
  refine PS.imp (ps_if hc h1 h2) fun D σ H hq => ?_
  obtain ⟨G, F, en, R, h⟩ := tS.out.mp hq
  refine bs_then R h fun r en' F' H' k R1 x1 => ?_
  cases r with
  | true => exact tS.of R1 k
  | false => exact tS.of R1 k
/-- a statement that is never come to -/
theorem sv_never : SVs W E X sts (fun _ => .bad) := PSs.imp pss_never fun D σ H ⟨G, F, en, R, h⟩ => h

/-! targets -/
/-- ws: the slots that the target may store -/
def tG (W : Wc) (ws : List Nat) (g : GM) : TG := fun v σ H Q => ∃ G F en d, Rel W G en σ F H ∧ Dat W F v d ∧ match g d en with
  | some en' => ∀ σ' F' H', Rel W G en' σ' F' H' → Ex F F' → σ'.length = σ.length → (∀ k, k ∉ ws → σ'[k]? = σ[k]?) → Q σ' H'
  | none => False
def tGs (W : Wc) (ws : List Nat) (gs : List GM) : TGs := fun vs σ H Q => ∃ G F en ds, Rel W G en σ F H ∧ DL W F vs ds ∧ match gAll gs ds en with
  | some en' => ∀ σ' F' H', Rel W G en' σ' F' H' → Ex F F' → σ'.length = σ.length → (∀ k, k ∉ ws → σ'[k]? = σ[k]?) → Q σ' H'
  | none => False
def GV (W : Wc) (X : Cx) (tg : Expr) (ws : List Nat) (g : GM) : Prop := PG X tg (tG W ws g)
def GVs (W : Wc) (X : Cx) (ts : List Expr) (ws : List Nat) (gs : List GM) : Prop := PGs X ts (tGs W ws gs)
theorem PG.imp {X : Cx} {e : Expr} {t u : TG} (h : PG X e t) (i : ∀ v σ H Q, u v σ H Q → t v σ H Q) : PG X e u := ⟨fun pins s σ H v u Q I r w => h.run pins s σ H v u Q I r (i _ _ _ _ w)⟩
theorem PGs.imp {X : Cx} {e : List Expr} {t u : TGs} (h : PGs X e t) (i : ∀ v σ H Q, u v σ H Q → t v σ H Q) : PGs X e u := ⟨fun pins s σ H v u Q I r w => h.run pins s σ H v u Q I r (i _ _ _ _ w)⟩
theorem gv_name (i : Nat) {x : Str} (hN : X.N.Nodup) (hi : X.N[i]? = some x := by rfl) (hx : Loc X.env.scope x := by first | exact Or.inl rfl | exact Or.inr rfl)
    (hf : X.fn x = true ∨ X.env.scope.names.lookup x = some .local := by first | exact .inl rfl | exact .inr rfl | assumption) : GV W X (.Name x pos) [i] (gN i) := by
  refine PG.imp (pg_name hN hi hx hf) fun v σ H Q ⟨G, F, en, d, R, hd, h⟩ => ?_
  unfold gN at h
  cases e : en[i]? with
  | none => simp only [e] at h
  | some s =>
    simp only [e] at h
    by_cases hp : s.isPn = true
    · rw [if_pos hp] at h; exact h.elim
    · rw [if_neg hp] at h
      exact h _ F H (R.setSh e (by simpa using hp) hd) (Ex.refl F) (by simp) fun k hk => List.getElem?_set_ne fun z => hk (by simp [z])
variable {tg : Expr} {ts : List Expr} {ws ws' : List Nat} {gm : GM} {gms : List GM}
theorem gv_nil : GVs W X [] [] [] := by
  refine PGs.imp pgs_nil fun vs σ H Q ⟨G, F, en, ds, R, hd, h⟩ => ?_
  cases ds with
  | nil => exact ⟨hd.inv_nil, h σ F H R (Ex.refl F) rfl fun _ _ => rfl⟩
  | cons d ds => exact h.elim
theorem gv_cons (h1 : GV W X tg ws gm) (h2 : GVs W X ts ws' gms) (hs : (assignEach (tg :: ts) X.env).map (·.2) = assign tg X.env :: (assignEach ts X.env).map (·.2) := by rfl) : GVs W X (tg :: ts) (ws ++ ws') (gm :: gms) := by
  refine PGs.imp (pgs_cons h1 h2 hs) fun vs σ H Q ⟨G, F, en, ds, R, hd, h⟩ => ?_
  cases ds with
  | nil => exact h.elim
  | cons d ds =>
    obtain ⟨v, r, rfl, hv, hr⟩ := hd.inv_cons
    refine ⟨v, r, rfl, G, F, en, d, R, hv, ?_⟩
    unfold gAll at h
    cases e : gm d en with
    | none => simp only [e] at h
    | some en1 =>
      simp only [e] at h
      refine fun σ1 F1 H1 R1 x1 l1 k1 => ⟨G, F1, en1, ds, R1, hr.mono x1, ?_⟩
      cases e2 : gAll gms ds en1 with
      | none => simp only [e2] at h
      | some en2 =>
        simp only [e2] at h
        exact fun σ2 F2 H2 R2 x2 l2 k2 => h σ2 F2 H2 R2 (x1.trans x2) (l2.trans l1) fun k hk => (k2 k fun z => hk (List.mem_append_right _ z)).trans (k1 k fun z => hk (List.mem_append_left _ z))
theorem gv_tup {k : Nat} (hK : W.K = X.K) (hc : X.calm = true) (h : GVs W X ts ws gms) (hl : (assignEach ts X.env).length = gms.length := by rfl) (hst : (assignEach ts X.env).findIdx? (·.1) = none := by rfl) : GV W X (.Tuple ts k pos) ws (gT gms) := by
  refine PG.imp (pg_tup hc h hl hst) fun v σ H Q ⟨G, F, en, d, R, hd, h⟩ => ?_
  cases d with
  | tup ds =>
    cases hd with
    | tup h1 l1 c1 =>
      have hlen : ∀ (gs : List GM) (ds : List D) (en en' : En), gAll gs ds en = some en' → gs.length = ds.length := by
        intro gs
        induction gs with
        | nil => intro ds en en' q; cases ds with
          | nil => rfl
          | cons d ds => cases q
        | cons g gs ih => intro ds en en' q; cases ds with
          | nil => cases q
          | cons d ds =>
            unfold gAll at q
            cases e : g d en with
            | none => simp only [e] at q; cases q
            | some en1 => simp only [e] at q; simp [ih ds en1 en' q]
      cases e : gAll gms ds en with
      | none => simp only [gT, e] at h
      | some en' =>
        refine ⟨_, _, rfl, by rw [← hK]; exact SqT.of (R.sub _ _ h1), by rw [l1, hlen _ _ _ _ e], G, F, en, ds, R, ⟨l1, c1⟩, ?_⟩
        simp only [gT, e] at h ⊢
        exact h
  | _ => exact h.elim
theorem sv_asg (ha : EV W E X a fa) (hg : GV W X tg ws gm) (hs : swapsWithSole [tg] a pos.line X.env = pure false := by rfl) (hw : swappedStores [tg] a X.env = pure none := by rfl)
    (h1 : (assignEach [tg] X.env).map (·.2) = [assign tg X.env] := by rfl) : SV W E X (.Assign [tg] a pos) (sAsg gm fa) := by
  refine PS.imp (ps_asg ha hg hs hw h1) fun D σ H hq => ?_
  obtain ⟨G, F, en, R, h⟩ := tS.out.mp hq
  refine es_then R h fun r en1 v F1 H1 h1 R1 x1 vr => ?_
  obtain ⟨F2, x2, vw, R2⟩ := vr.vw R1
  cases q : shr en1 r with
  | none => simp only [q] at h1; exact h1.elim
  | some p =>
    obtain ⟨d, en2⟩ := p
    simp only [q] at h1
    obtain ⟨F3, x3, dv, R3⟩ := shr_ok vw R2 q
    refine ⟨G, F3, en2, d, R3, dv, ?_⟩
    cases e : gm d en2 with
    | none => simp only [e] at h1; exact h1.elim
    | some en3 => simp only [e] at h1; exact fun σ' F' H' R' _ _ _ => h1 σ' F' H' R'
/-- an operator in place, by data -/
def IpS (W : Wc) (r2 : TIp) (g : D → D → Option ER) : Prop := ∀ F H x y dx dy r Q, Ex F H → VB W F H x dx → VB W F H y dy → g dx dy = some r → Res W F H r Q → r2 x y H Q
theorem sv_aug (i : Nat) {x : Str} {op : Operator} {ti : TIp} {gg : D → D → Option ER} {p' : Pos} (hN : X.N.Nodup) (ho : PIp X op ti) (S : IpS W ti gg) (ha : EV W E X a fa) (hi : X.N[i]? = some x := by rfl) (hx : Loc X.env.scope x := by first | exact Or.inl rfl | exact Or.inr rfl)
    (hf : X.fn x = true ∨ X.env.scope.names.lookup x = some .local := by first | exact .inl rfl | exact .inr rfl | assumption) : SV W E X (.AugAssign (.Name x p') op a pos) (sAug i gg fa) := by
  refine PS.imp (ps_aug hN hi hx ha ho hf) fun D σ H hq => ?_
  obtain ⟨G, F, en, R, h⟩ := tS.out.mp hq
  unfold sAug at h
  cases e : en[i]? with
  | none => simp only [e] at h; exact h.elim
  | some s =>
    cases s with
    | un => simp only [e] at h; exact h.elim
    | ow d => simp only [e] at h; exact h.elim
    | pn m d => simp only [e] at h; exact h.elim
    | lk d => simp only [e] at h; exact h.elim
    | sh dx =>
      simp only [e] at h
      obtain ⟨v, hv, hd⟩ := R.slot i _ e
      refine ⟨v, hv, ?_⟩
      refine es_then R h fun r en1 y F1 H1 h1 R1 x1 vr => ?_
      obtain ⟨F2, x2, vw, R2⟩ := vr.vw R1
      cases q : cur en1 r with
      | none => simp only [q] at h1; exact h1.elim
      | some dy =>
        cases q2 : gg dx dy with
        | none => simp only [q, q2] at h1; exact h1.elim
        | some r' =>
          simp only [q, q2] at h1
          exact S F2 H1 v y dx dy r' _ R2.sub (.inl (hd.mono (x1.trans x2))) (vw.vb R2 q) q2 fun z F' H' s n => put_ok (R2.stp s) (n.vr R2) h1
end
end Fw
set_option Elab.async false
set_option linter.all false
set_option maxRecDepth 100000
namespace Fw
open PySem PySem.Spec PyProof.Rows L2

/-! ### what a for walks -/
/-- the items, and a slot whose list is walked as it stands -/
structure IR where
  items : List D
  lock : Option Nat := none
def signs (x : Str) : List D := x.cps.toList.map fun c => .str ⟨#[c]⟩
def seqOf : D → Option (List D)
  | .lst ds => some ds
  | .tup ds => some ds
  | .rot ds => some ds
  | .rol ds => some ds
  | .str x => some (signs x)
  | _ => none
/-- the turns of a loop -/
def loop (g : GM) (body : SM) : List D → SM
  | [], en => .nx en
  | d :: ds, en => match g d en with
    | none => .bad
    | some en1 => match body en1 with
      | .nx en2 => loop g body ds en2
      | .ct en2 => loop g body ds en2
      | .bk en2 => .nx en2
      | .rt r en2 => .rt r en2
      | .exc c fs en2 => .exc c fs en2
      | .bad => .bad
/-- the kind of a slot while its list is walked -/
def Sl.lock : Sl → Sl
  | .ow d => .lk d
  | .pn true d => .lk d
  | s => s
open Classical in
/-- slot j stays t through a turn -/
noncomputable def stay (j : Nat) (t : Sl) (body : SM) : SM := fun en => match body en with
  | .nx en2 => if en2[j]? = some t then .nx en2 else .bad
  | .ct en2 => if en2[j]? = some t then .ct en2 else .bad
  | .bk en2 => if en2[j]? = some t then .bk en2 else .bad
  | .rt r en2 => if en2[j]? = some t then .rt r en2 else .bad
  | .exc c fs en2 => if en2[j]? = some t then .exc c fs en2 else .bad
  | .bad => .bad
/-- the slot gets its kind back -/
def back (j : Nat) (s : Sl) (o : O) : O := match o with
  | .nx en => .nx (en.set j s)
  | .rt r en => .rt r (en.set j s)
  | .bk en => .bk (en.set j s)
  | .ct en => .ct (en.set j s)
  | .exc c fs en => .exc c fs (en.set j s)
  | .bad => .bad
noncomputable def sFor (it : M IR) (g : GM) (body : SM) : SM := fun en => (it en).then fun ir en1 => match ir.lock with
  | none => loop g body ir.items en1
  | some j => match en1[j]? with
    | some s => if s.own = true then back j s (loop g (stay j s.lock body) ir.items (en1.set j s.lock)) else .bad
    | none => .bad
/-- a sequence or a text, walked -/
def iSeq (f : M ER) : M IR := fun en => (f en).bind fun r en1 => match r with
  | .bo j => (match en1[j]? with
    | some s => (if s.own = true then (match s.dat with | some (.lst ds) => .ok ⟨ds, some j⟩ en1 | _ => .bad) else .bad)
    | none => .bad)
  | .sh d => (match seqOf d with | some ds => .ok ⟨ds, none⟩ en1 | none => .bad)
  | .fr d => (match seqOf d with | some ds => .ok ⟨ds, none⟩ en1 | none => .bad)
def intsD (lo : Int) (n : Nat) : List D := (List.range n).map fun i => .int (lo + (i : Nat))
def small (i : Int) : Bool := decide (-(2 ^ 62) ≤ i) && decide (i < 2 ^ 62)
def rng1 : List D → Option (List D)
  | [.int n] => if small n = true then some (intsD 0 n.toNat) else none
  | _ => none
def rng2 : List D → Option (List D)
  | [.int lo, .int hi] => if (small lo && small hi) = true then some (intsD lo (hi - lo).toNat) else none
  | _ => none
/-- an iterator made of plain arguments -/
def iB (g : List D → Option (List D)) (fs : List (M ER)) : M IR := fun en => (eA fs en).bind fun rs en1 => match curs en1 rs with
  | some ds => (match g ds with | some xs => .ok ⟨xs, none⟩ en1 | none => .bad)
  | none => .bad
/-- an iterator over a shared list: each argument is shared first -/
def iS (g : List D → Option (List D)) (fs : List (M ER)) : M IR := fun en => (eA fs en).bind fun rs en1 => match shrs rs en1 with
  | some (ds, en2) => (match g ds with | some xs => .ok ⟨xs, none⟩ en2 | none => .bad)
  | none => .bad
def enumFrom (n : Nat) : List D → List D
  | [] => []
  | d :: ds => .tup [.int (n : Int), d] :: enumFrom (n + 1) ds
def enum1 : List D → Option (List D)
  | [.lst ds] => some (enumFrom 0 ds)
  | _ => none
def zipD : List D → List D → List D
  | a :: as, b :: bs => .tup [a, b] :: zipD as bs
  | _, _ => []
def zip2 : List D → Option (List D)
  | [.lst as, .lst bs] => some (zipD as bs)
  | _ => none

/-- where I stands, J gives the items ds -/
def Src (W : Wc) (J : It) (ds : List D) (I : Hp → Hp → Prop) : Prop := ∀ F H, Ex F H → I F H →
  (∀ i, i < ds.length → J.go i H ∧ ∀ x H', J.yld i H x H' → ∃ F' d, Stp F H F' H' ∧ ds[i]? = some d ∧ Dat W F' x d) ∧ J.stop ds.length H
def SrcOk (W : Wc) (σ : St) (en' : En) (J : It) (ir : IR) (F' : Hp) : Prop := match ir.lock with
  | none => Src W J ir.items (fun F2 _ => Ex F' F2)
  | some j => ∃ a s, σ[j]? = some (some (.ref a)) ∧ en'[j]? = some s ∧ s.own = true ∧ s.dat = some (.lst ir.items) ∧ Src W J ir.items (fun F2 H2 => Top W F2 H2 a (.lst ir.items))
/-- what a walked thing is asked -/
def tI (W : Wc) (E : St → XK) (f : M IR) : TI := fun σ H R => ∃ G F en, Rel W G en σ F H ∧ match f en with
  | .ok ir en' => ∀ J F' H', Rel W G en' σ F' H' → Ex F F' → SrcOk W σ en' J ir F' → R J H'
  | .exc c fs en' => ∀ dd F' H', Rel W G en' σ F' H' → XR W G.H0 F' H' dd fs → E σ (.ref (W.cls c)) (some dd) H'
  | .bad => False
def IV (W : Wc) (E : St → XK) (X : Cx) (tg e : Expr) (f : M IR) : Prop := PI X tg e (tI W E f)
theorem PI.imp {X : Cx} {tg e : Expr} {t u : TI} (h : PI X tg e t) (i : ∀ σ H Q, u σ H Q → t σ H Q) : PI X tg e u := ⟨fun pins s σ H R I w => h.run pins s σ H R I (i _ _ _ w)⟩
theorem PI.or {X : Cx} {tg e : Expr} {t u : TI} (h : PI X tg e t) (h' : PI X tg e u) : PI X tg e (fun σ H R => t σ H R ∨ u σ H R) := ⟨fun pins s σ H R I w => w.elim (h.run pins s σ H R I) (h'.run pins s σ H R I)⟩

section
variable {W : Wc} {E : St → XK} {X : Cx} {a b c : Expr} {es : List Expr} {fa fb fc : M ER} {ga gb : M Bool} {fs : List (M ER)} {pos : Pos} {G G' : Gc} {en : En} {σ : St} {F H : Hp}
  {st : Stmt} {sts rest : List Stmt} {f g body : SM} {De : Ends} {tg : Expr} {gm : GM} {ws : List Nat} {it : M IR}

theorem Sl.lock_own {s : Sl} : s.lock.own = s.own := by
  cases s with
  | pn m d => cases m <;> rfl
  | _ => rfl
theorem Sl.lock_dat {s : Sl} : s.lock.dat = s.dat := by
  cases s with
  | pn m d => cases m <;> rfl
  | _ => rfl
theorem Sl.lock_excl {s : Sl} : s.lock.excl = s.excl := by
  cases s with
  | pn m d => cases m <;> rfl
  | _ => rfl
/-- the context while slot j is locked at a, based on F -/
def Gc.lock (G : Gc) (F : Hp) (j : Nat) (a : Addr) : Gc := { G with F0 := F, pin := fun k => if k = j then some a else G.pin k }
def Gc.base (G : Gc) (F : Hp) : Gc := { G with F0 := F }
theorem Rel.rebase (R : Rel W G en σ F H) : Rel W (G.base F) en σ F H :=
  ⟨R.len, R.sub, Ex.refl F, fun _ _ _ h => h, R.keep, R.wrk, fun i s e => by
    have h := R.slot i s e
    cases s <;> exact h, R.dist⟩
theorem Rel.unbase {en0 en' : En} {σ0 σ' : St} {F0 H0 F' H' : Hp} (R0 : Rel W G en0 σ0 F0 H0) (R : Rel W (G.base F0) en' σ' F' H') : Rel W G en' σ' F' H' :=
  ⟨R.len, R.sub, R0.ex0.trans R.ex0, fun a o h n => R.fen a o h (R0.fen a o h n), R.keep, R.wrk, fun i s e => by
    have h := R.slot i s e
    cases s <;> exact h, R.dist⟩
/-- slot j is locked -/
theorem Rel.locked {j : Nat} {s : Sl} {ad : Addr} (R : Rel W G en σ F H) (e : en[j]? = some s) (ho : s.own = true) (ha : σ[j]? = some (some (.ref ad))) : Rel W (G.lock F j ad) (en.set j s.lock) σ F H := by
  refine ⟨by simpa using R.len, R.sub, Ex.refl F, fun _ _ _ h => h, R.keep, R.wrk, fun k t q => ?_, fun i k s' t' b hik q1 q2 m1 o2 => ?_⟩
  · rcases set_get q with ⟨e1, e2⟩ | ⟨hk, p⟩
    · subst e1; subst e2
      have h := R.slot k s e
      cases s with
      | un => exact absurd ho Bool.false_ne_true
      | sh d => exact absurd ho Bool.false_ne_true
      | ow d => obtain ⟨b, h1, h2, h3, h4⟩ := h; rw [ha] at h1; cases h1; exact ⟨ad, ha, h2, h3, if_pos rfl⟩
      | lk d => obtain ⟨b, h1, h2, h3, h4⟩ := h; rw [ha] at h1; cases h1; exact ⟨ad, ha, h2, h3, if_pos rfl⟩
      | pn m d =>
        obtain ⟨b, h1, h2, h3, h4, h5⟩ := h
        rw [ha] at h1; cases h1
        cases m with
        | true => exact ⟨ad, ha, h2, h3, if_pos rfl⟩
        | false => exact ⟨ad, ha, h2, h3, if_pos rfl, h5⟩
    · have h := R.slot k t p
      cases t with
      | un => trivial
      | sh x => exact h
      | ow x => exact h
      | lk x => obtain ⟨b, k1, k2, k3, k4⟩ := h; exact ⟨b, k1, k2, k3, (if_neg hk).trans k4⟩
      | pn m x => obtain ⟨b, k1, k2, k3, k4, k5⟩ := h; exact ⟨b, k1, k2, k3, (if_neg hk).trans k4, k5⟩
  · rcases set_get q1 with ⟨e1, e2⟩ | ⟨h1', p1⟩
    · subst e1; subst e2
      rw [Sl.lock_excl] at m1
      rcases set_get q2 with ⟨e3, e4⟩ | ⟨h2', p2⟩
      · exact absurd e3.symm hik
      · exact R.dist _ _ _ _ b hik e p2 m1 o2
    · rcases set_get q2 with ⟨e3, e4⟩ | ⟨h2', p2⟩
      · subst e3; subst e4
        rw [Sl.lock_own] at o2
        exact R.dist _ _ _ _ b hik p1 e m1 o2
      · exact R.dist _ _ _ _ b hik p1 p2 m1 o2
/-- .. unlocked again -/
theorem Rel.unlocked {j : Nat} {s : Sl} {ad : Addr} {en0 en' : En} {σ0 σ' : St} {F0 H0 F' H' : Hp} (R0 : Rel W G en0 σ0 F0 H0) (e0 : en0[j]? = some s) (ho : s.own = true) (ha : σ0[j]? = some (some (.ref ad)))
    (R : Rel W (G.lock F0 j ad) en' σ' F' H') (q : en'[j]? = some s.lock) : Rel W G (en'.set j s) σ' F' H' := by
  refine ⟨by simpa using R.len, R.sub, R0.ex0.trans R.ex0, fun x o h n => R.fen x o h (R0.fen x o h n), R.keep, R.wrk, fun k t p => ?_, fun i k s' t' x hik q1 q2 m1 o2 => ?_⟩
  · rcases set_get p with ⟨z1, z2⟩ | ⟨hk, p⟩
    · subst z1; subst z2
      have hn := R.slot k _ q
      have hs := R0.slot k t e0
      cases t with
      | un => exact absurd ho Bool.false_ne_true
      | sh x => exact absurd ho Bool.false_ne_true
      | ow x =>
        obtain ⟨y, k1, k2, k3, k4⟩ := hs
        rw [ha] at k1; cases k1
        obtain ⟨z, l1, l2, l3, l4⟩ := hn
        have l4' : (if k = k then some ad else G.pin k) = some z := l4
        rw [if_pos rfl] at l4'; cases l4'
        exact ⟨ad, l1, l2, l3, k4⟩
      | lk x =>
        obtain ⟨y, k1, k2, k3, k4⟩ := hs
        rw [ha] at k1; cases k1
        obtain ⟨z, l1, l2, l3, l4⟩ := hn
        have l4' : (if k = k then some ad else G.pin k) = some z := l4
        rw [if_pos rfl] at l4'; cases l4'
        exact ⟨ad, l1, l2, l3, k4⟩
      | pn m x =>
        obtain ⟨y, k1, k2, k3, k4, k5⟩ := hs
        rw [ha] at k1; cases k1
        cases m with
        | true =>
          obtain ⟨z, l1, l2, l3, l4⟩ := hn
          have l4' : (if k = k then some ad else G.pin k) = some z := l4
          rw [if_pos rfl] at l4'; cases l4'
          exact ⟨ad, l1, l2, l3, k4, k5⟩
        | false =>
          obtain ⟨z, l1, l2, l3, l4, l5⟩ := hn
          have l4' : (if k = k then some ad else G.pin k) = some z := l4
          rw [if_pos rfl] at l4'; cases l4'
          exact ⟨ad, l1, l2, l3, k4, k5⟩
    · have h := R.slot k t p
      cases t with
      | un => trivial
      | sh x => exact h
      | ow x => exact h
      | lk x =>
        obtain ⟨y, k1, k2, k3, k4⟩ := h
        have k4' : (if k = j then some ad else G.pin k) = some y := k4
        rw [if_neg hk] at k4'
        exact ⟨y, k1, k2, k3, k4'⟩
      | pn m x =>
        obtain ⟨y, k1, k2, k3, k4, k5⟩ := h
        have k4' : (if k = j then some ad else G.pin k) = some y := k4
        rw [if_neg hk] at k4'
        exact ⟨y, k1, k2, k3, k4', k5⟩
  · rcases set_get q1 with ⟨z1, z2⟩ | ⟨hi, p1⟩
    · subst z1; subst z2
      rcases set_get q2 with ⟨z3, z4⟩ | ⟨hk, p2⟩
      · exact absurd z3.symm hik
      · exact R.dist _ _ _ _ x hik q p2 (by rw [Sl.lock_excl]; exact m1) o2
    · rcases set_get q2 with ⟨z3, z4⟩ | ⟨hk, p2⟩
      · subst z3; subst z4
        exact R.dist _ _ _ _ x hik p1 q m1 (by rw [Sl.lock_own]; exact o2)
      · exact R.dist _ _ _ _ x hik p1 p2 m1 o2
/-- every end bears P -/
def Okp (P : En → Prop) : O → Prop
  | .nx en => P en
  | .rt _ en => P en
  | .bk en => P en
  | .ct en => P en
  | .exc _ _ en => P en
  | .bad => True
theorem stay_okp {j : Nat} {t : Sl} {body : SM} (en : En) : Okp (fun en2 => en2[j]? = some t) (stay j t body en) := by
  unfold stay
  cases body en with
  | bad => trivial
  | _ => simp only; split <;> first | assumption | trivial
theorem loop_okp {P : En → Prop} (hb : ∀ en, Okp P (body en)) : ∀ (ds : List D) (en : En), P en → Okp P (loop gm body ds en)
  | [], en, h => h
  | d :: ds, en, h => by
    unfold loop
    cases gm d en with
    | none => trivial
    | some en1 =>
      have k := hb en1
      simp only
      cases e : body en1 with
      | nx en2 => rw [e] at k; exact loop_okp hb ds en2 k
      | ct en2 => rw [e] at k; exact loop_okp hb ds en2 k
      | bk en2 => rw [e] at k; exact k
      | rt r en2 => rw [e] at k; exact k
      | exc c fs en2 => rw [e] at k; exact k
      | bad => trivial
/-- the turns -/
theorem loop_run {J : It} {ds : List D} {I : Hp → Hp → Prop} {P : En → Prop} {bodyS : SM} (S : Src W J ds I) (hI : ∀ en σ F H, Rel W G en σ F H → P en → I F H) (hP : ∀ en, Okp P (bodyS en))
    (hB : ∀ en, bodyS en = body en ∨ bodyS en = .bad) (R0 : Rel W G en σ F H) (p0 : P en) (h : SOut W E G De (loop gm bodyS ds en)) :
    ∃ Wv : Nat → Nat → St → Hp → Prop, (∃ m, Wv 0 m σ H) ∧ ∀ i m σ H, Wv i m σ H →
      (J.stop i H ∧ De.nx σ H) ∨ (J.go i H ∧ ∃ N : St → Hp → Prop, (∀ σ' H', N σ' H' → ∃ m', m' < m ∧ Wv (i + 1) m' σ' H') ∧ ∀ x H', J.yld i H x H' → tG W ws gm x σ H' fun σ2 H2 => tS W E body { De with nx := N, ct := N, bk := De.nx } σ2 H2) := by
  refine ⟨fun i m σ H => i + m = ds.length ∧ ∃ F en, Rel W G en σ F H ∧ P en ∧ SOut W E G De (loop gm bodyS (ds.drop i) en), ⟨ds.length, by omega, F, en, R0, p0, h⟩, ?_⟩
  rintro i m σ H ⟨hm, F, en, R, p, h⟩
  obtain ⟨s1, s2⟩ := S F H R.sub (hI _ _ _ _ R p)
  by_cases hi : i < ds.length
  · obtain ⟨s3, s4⟩ := s1 i hi
    refine .inr ⟨s3, fun σ' H' => i + 1 + (m - 1) = ds.length ∧ ∃ F en, Rel W G en σ' F H' ∧ P en ∧ SOut W E G De (loop gm bodyS (ds.drop (i + 1)) en), fun σ' H' hN => ⟨m - 1, by omega, hN⟩, fun x H' hy => ?_⟩
    obtain ⟨F', d, st, hd, hv⟩ := s4 x H' hy
    have hdr : ds.drop i = d :: ds.drop (i + 1) := by
      rw [List.drop_eq_getElem_cons hi]
      rw [List.getElem?_eq_getElem hi] at hd
      cases hd; rfl
    rw [hdr] at h
    unfold loop at h
    refine ⟨G, F', en, d, R.stp st, hv, ?_⟩
    cases e : gm d en with
    | none => simp only [e] at h; exact h.elim
    | some en1 =>
      simp only [e] at h
      intro σ1 F1 H1 R1 x1 l1 k1
      refine tS.of R1 ?_
      have hp := hP en1
      rcases hB en1 with hb | hb
      · rw [← hb]
        cases e2 : bodyS en1 with
        | nx en2 => rw [e2] at h hp; exact fun σ2 F2 H2 R2 => ⟨by omega, F2, en2, R2, hp, h⟩
        | ct en2 => rw [e2] at h hp; exact fun σ2 F2 H2 R2 => ⟨by omega, F2, en2, R2, hp, h⟩
        | bk en2 => rw [e2] at h; exact h
        | rt r en2 => rw [e2] at h; exact h
        | exc c fs en2 => rw [e2] at h; exact h
        | bad => rw [e2] at h; exact h.elim
      · rw [hb] at h; exact h.elim
  · refine .inl ⟨?_, ?_⟩
    · have : i = ds.length := by omega
      rw [this]; exact s2
    · rw [List.drop_of_length_le (by omega)] at h
      exact h σ F H R
theorem stay_or {j : Nat} {t : Sl} (en : En) : stay j t body en = body en ∨ stay j t body en = .bad := by
  unfold stay
  cases body en with
  | bad => exact .inl rfl
  | _ => simp only; split <;> first | exact .inl rfl | exact .inr rfl
theorem is_then {f : M IR} {k : IR → En → O} {Q : It → Hp → Prop} (R0 : Rel W G en σ F H) (h : SOut W E G De ((f en).then k))
    (hq : ∀ r en' J F' H', SOut W E G De (k r en') → Rel W G en' σ F' H' → Ex F F' → SrcOk W σ en' J r F' → Q J H') : tI W E f σ H Q := by
  refine ⟨G, F, en, R0, ?_⟩
  cases e : f en with
  | ok r en' => rw [e] at h; exact fun v F' H' R' x vw => hq r en' v F' H' h R' x vw
  | exc c fs s => rw [e] at h; exact fun dd F' H' R' x => h dd σ F' H' R' x
  | bad => rw [e] at h; exact h
theorem sv_for (hp : PassesOwn (model X.prog X.w) X.A X.env X.xe) (hc : X.calm = true) (hi : IV W E X tg a it) (hg : GV W X tg ws gm) (hb : SVs W E X sts body) (hs : ∀ x, foldedSetIterable a X.env x = pure x := by intro _; rfl) : SV W E X (.For tg a sts [] pos) (sFor it gm body) := by
  refine PS.imp (ps_for hp hc hi hg hb hs) fun D σ H hq => ?_
  obtain ⟨G, F, en, R, h⟩ := tS.out.mp hq
  refine is_then R h fun ir en1 J F1 H1 h1 R1 x1 src => ?_
  unfold SrcOk at src
  cases hl : ir.lock with
  | none =>
    simp only [hl] at src h1
    have RB := R1.rebase
    refine loop_run (G := G.base F1) (P := fun _ => True) (bodyS := body) src (fun en σ F H R _ => R.ex0) (fun en => ?_) (fun en => .inl rfl) RB trivial ?_
    · cases body en <;> trivial
    · revert h1
      cases loop gm body ir.items en1 with
      | nx en' => exact fun h σ' F' H' R' => h σ' F' H' (R1.unbase R')
      | rt r en' => exact fun h v σ' F' H' R' vt => h v σ' F' H' (R1.unbase R') (by cases r <;> exact vt)
      | bk en' => exact fun h σ' F' H' R' => h σ' F' H' (R1.unbase R')
      | ct en' => exact fun h σ' F' H' R' => h σ' F' H' (R1.unbase R')
      | exc c fs en' => exact fun h dd σ' F' H' R' x => h dd σ' F' H' (R1.unbase R') x
      | bad => exact fun h => h
  | some j =>
    simp only [hl] at src h1
    obtain ⟨ad, s, ha, hs, ho, hd, src⟩ := src
    simp only [hs] at h1
    rw [if_pos ho] at h1
    have RL := R1.locked hs ho ha
    have hj : j < en1.length := lt_of_some hs
    have p0 : (en1.set j s.lock)[j]? = some s.lock := List.getElem?_set_self hj
    refine loop_run (G := G.lock F1 j ad) (P := fun en => en[j]? = some s.lock) (bodyS := stay j s.lock body) src (fun en2 σ2 F2 H2 R2 q => ?_) stay_okp stay_or RL p0 ?_
    · have hslot := R2.slot j _ q
      obtain ⟨b, d', k1, k2, k3, k4⟩ := hslot.own (by rw [Sl.lock_own]; exact ho)
      rw [Sl.lock_dat, hd] at k2; cases k2
      have : b = ad := by
        cases s with
        | un => exact absurd ho Bool.false_ne_true
        | sh x => exact absurd ho Bool.false_ne_true
        | ow x =>
          obtain ⟨z, l1, l2, l3, l4⟩ := hslot
          rw [k1] at l1; cases l1
          have l4' : (if j = j then some ad else G.pin j) = some b := l4
          rw [if_pos rfl] at l4'; cases l4'; rfl
        | lk x =>
          obtain ⟨z, l1, l2, l3, l4⟩ := hslot
          rw [k1] at l1; cases l1
          have l4' : (if j = j then some ad else G.pin j) = some b := l4
          rw [if_pos rfl] at l4'; cases l4'; rfl
        | pn m x =>
          cases m with
          | true =>
            obtain ⟨z, l1, l2, l3, l4⟩ := hslot
            rw [k1] at l1; cases l1
            have l4' : (if j = j then some ad else G.pin j) = some b := l4
            rw [if_pos rfl] at l4'; cases l4'; rfl
          | false =>
            obtain ⟨z, l1, l2, l3, l4, l5⟩ := hslot
            rw [k1] at l1; cases l1
            have l4' : (if j = j then some ad else G.pin j) = some b := l4
            rw [if_pos rfl] at l4'; cases l4'; rfl
      subst this
      exact k3
    · have ok := loop_okp (gm := gm) (stay_okp (j := j) (t := s.lock) (body := body)) ir.items _ p0
      revert h1 ok
      cases loop gm (stay j s.lock body) ir.items (en1.set j s.lock) with
      | nx en' => exact fun h ok σ' F' H' R' => h σ' F' H' (R1.unlocked hs ho ha R' ok)
      | rt r en' => exact fun h ok v σ' F' H' R' vt => h v σ' F' H' (R1.unlocked hs ho ha R' ok) (by cases r <;> exact vt)
      | bk en' => exact fun h ok σ' F' H' R' => h σ' F' H' (R1.unlocked hs ho ha R' ok)
      | ct en' => exact fun h ok σ' F' H' R' => h σ' F' H' (R1.unlocked hs ho ha R' ok)
      | exc c fs en' => exact fun h ok dd σ' F' H' R' x => h dd σ' F' H' (R1.unlocked hs ho ha R' ok) x
      | bad => exact fun h ok => h
end
end Fw
set_option Elab.async false
set_option linter.all false
set_option maxRecDepth 100000
namespace Fw
open PySem PySem.Spec PyProof.Rows L2
section
variable {W : Wc} {E : St → XK} {X : Cx} {a b c : Expr} {es : List Expr} {fa fb fc : M ER} {ga gb : M Bool} {fs : List (M ER)} {pos : Pos} {G G' : Gc} {en : En} {σ : St} {F H : Hp}
  {st : Stmt} {sts rest : List Stmt} {f g body : SM} {De : Ends} {tg : Expr} {gm : GM} {ws : List Nat} {it : M IR}

/-! ### walked things -/
def AI (W : Wc) (G : Gc) (σ : St) (F : Hp) (Q : It → Hp → Prop) : IR → En → Prop := fun ir en' => ∀ J F' H', Rel W G en' σ F' H' → Ex F F' → SrcOk W σ en' J ir F' → Q J H'
theorem tI.out {f : M IR} {Q : It → Hp → Prop} : tI W E f σ H Q ↔ ∃ G F en, Rel W G en σ F H ∧ Out W E G σ (AI W G σ F Q) (f en) := by
  constructor
  · rintro ⟨G, F, en, R, h⟩
    refine ⟨G, F, en, R, ?_⟩
    cases e : f en <;> (rw [e] at h; exact h)
  · rintro ⟨G, F, en, R, h⟩
    refine ⟨G, F, en, R, ?_⟩
    cases e : f en <;> (rw [e] at h; exact h)
theorem src_list {ad : Addr} {ds : List D} : Src W (Itl W.K ad) ds (fun F H => Top W F H ad (.lst ds)) := fun F H x ⟨vs, t, l⟩ => by
  refine ⟨fun i hi => ⟨?_, fun x' H' hy => ?_⟩, vs, SqL.of t, by rw [l.1]; exact Nat.le_refl _⟩
  · obtain ⟨v, hv, _⟩ := l.get (List.getElem?_eq_getElem hi)
    exact ⟨vs, v, SqL.of t, hv⟩
  · obtain ⟨rfl, hx⟩ := hy
    have hv := hx vs (SqL.of t)
    obtain ⟨d, hd, dv⟩ := l.getV hv
    exact ⟨F, d, Stp.refl x, hd, dv⟩
theorem src_listF {ad : Addr} {vs : List V} {ds : List D} {F0 : Hp} (t : SqL W.K F0 ad vs) (l : DL W F0 vs ds) : Src W (Itl W.K ad) ds (fun F H => Ex F0 F) := fun F H x i0 => by
  have t' : SqL W.K H ad vs := ex_l (i0.trans x) t
  refine ⟨fun i hi => ⟨?_, fun x' H' hy => ?_⟩, vs, t', by rw [l.1]; exact Nat.le_refl _⟩
  · obtain ⟨v, hv, _⟩ := l.get (List.getElem?_eq_getElem hi)
    exact ⟨vs, v, t', hv⟩
  · obtain ⟨rfl, hx⟩ := hy
    have hv := hx vs t'
    obtain ⟨d, hd, dv⟩ := l.getV hv
    exact ⟨F, d, Stp.refl x, hd, dv.mono i0⟩
theorem src_tup {ad : Addr} {vs : List V} {ds : List D} {F0 : Hp} (t : SqT W.K F0 ad vs) (l : DL W F0 vs ds) : Src W (Itt W.K ad) ds (fun F H => Ex F0 F) := fun F H x i0 => by
  have t' : SqT W.K H ad vs := ex_t (i0.trans x) t
  refine ⟨fun i hi => ⟨?_, fun x' H' hy => ?_⟩, vs, t', by rw [l.1]; exact Nat.le_refl _⟩
  · obtain ⟨v, hv, _⟩ := l.get (List.getElem?_eq_getElem hi)
    exact ⟨vs, v, t', hv⟩
  · obtain ⟨rfl, hx⟩ := hy
    have hv := hx vs t'
    obtain ⟨d, hd, dv⟩ := l.getV hv
    exact ⟨F, d, Stp.refl x, hd, dv.mono i0⟩
theorem src_str {x : Str} {F0 : Hp} : Src W (Its x) (signs x) (fun F H => Ex F0 F) := fun F H xx i0 => by
  have hl : (signs x).length = x.cps.size := by simp [signs]
  refine ⟨fun i hi => ⟨by rw [hl] at hi; exact hi, fun x' H' hy => ?_⟩, by show x.cps.size ≤ _; omega⟩
  obtain ⟨rfl, c, hc, rfl⟩ := hy
  refine ⟨F, .str ⟨#[c]⟩, Stp.refl xx, ?_, Dat.str _⟩
  show ((x.cps.toList.map fun c => D.str ⟨#[c]⟩))[i]? = _
  rw [List.getElem?_map, show x.cps.toList[i]? = x.cps[i]? by simp, hc]; rfl
theorem src_range {lo : Int} {n : Nat} {F0 : Hp} : Src W (Itr lo n) (intsD lo n) (fun F H => Ex F0 F) := fun F H xx i0 => by
  have hl : (intsD lo n).length = n := by simp [intsD]
  refine ⟨fun i hi => ⟨by rw [hl] at hi; exact hi, fun x' H' hy => ?_⟩, by show n ≤ _; omega⟩
  obtain ⟨rfl, rfl⟩ := hy
  rw [hl] at hi
  refine ⟨F, .int (lo + (i : Nat)), Stp.refl xx, ?_, Dat.int _⟩
  unfold intsD
  rw [List.getElem?_map, List.getElem?_range hi]; rfl
theorem iv_list (hK : W.K = X.K) (ha : EV W E X a fa) : IV W E X tg a (iSeq fa) := by
  refine PI.imp (PI.or (pi_list ha) (PI.or (pi_tup ha) (pi_str ha))) fun σ H Q hq => ?_
  obtain ⟨G, F, en, R, h⟩ := tI.out.mp hq
  -- which it is hangs on the value alone
  unfold iSeq at h
  cases e : fa en with
  | bad => rw [e] at h; exact h.elim
  | exc c fs s =>
    rw [e] at h
    exact .inl (tE.out.mpr ⟨G, F, en, R, by rw [e]; exact h⟩)
  | ok r en1 =>
    rw [e] at h
    simp only [Fw.R.bind] at h
    -- three readings of one start
    have start : ∀ {t : VK}, (∀ v F1 H1, Rel W G en1 σ F1 H1 → Ex F F1 → VR W G en1 σ F1 H1 r v → t v H1) → tE W E fa σ H t := fun k => tE.out.mpr ⟨G, F, en, R, by rw [e]; exact k⟩
    cases r with
    | bo j =>
      try simp only at h
      cases q : en1[j]? with
      | none => simp only [q] at h; exact h.elim
      | some s =>
        simp only [q] at h
        by_cases ho : s.own = true
        · rw [if_pos ho] at h
          cases qd : s.dat with
          | none => simp only [qd] at h; exact h.elim
          | some d =>
            cases d with
            | lst ds =>
              simp only [qd] at h
              refine .inl (start fun v F1 H1 R1 x1 hv => ?_)
              have hv' : σ[j]? = some (some v) := hv
              obtain ⟨ad, d', k1, k2, k3, k4⟩ := (R1.slot j s q).own ho
              rw [qd] at k2; cases k2
              rw [hv'] at k1; cases k1
              obtain ⟨vs, t, l⟩ := id k3
              refine ⟨ad, rfl, ⟨vs, by exact SqL.of t⟩, ?_⟩
              rw [← hK]
              exact h _ F1 H1 R1 x1 ⟨ad, s, hv', q, ho, qd, src_list⟩
            | _ => simp only [qd] at h; exact h.elim
        · rw [if_neg ho] at h; exact h.elim
    | sh d =>
      try simp only at h
      cases d with
      | lst ds =>
        refine .inl (start fun v F1 H1 R1 x1 hv => ?_)
        have hv' : Dat W F1 v (.lst ds) := hv
        cases hv' with
        | lst t l c =>
          refine ⟨_, rfl, ⟨_, SqL.of (R1.sub _ _ t)⟩, ?_⟩
          rw [← hK]
          exact h _ F1 H1 R1 x1 (src_listF (SqL.of t) ⟨l, c⟩)
      | rol ds =>
        refine .inl (start fun v F1 H1 R1 x1 hv => ?_)
        have hv' : Dat W F1 v (.rol ds) := hv
        cases hv' with
        | rol t l c =>
          refine ⟨_, rfl, ⟨_, by rw [← hK]; exact ex_l R1.sub t⟩, ?_⟩
          rw [← hK]
          exact h _ F1 H1 R1 x1 (src_listF t ⟨l, c⟩)
      | tup ds =>
        refine .inr (.inl (start fun v F1 H1 R1 x1 hv => ?_))
        have hv' : Dat W F1 v (.tup ds) := hv
        cases hv' with
        | tup t l c =>
          refine ⟨_, rfl, ⟨_, SqT.of (R1.sub _ _ t)⟩, ?_⟩
          rw [← hK]
          exact h _ F1 H1 R1 x1 (src_tup (SqT.of t) ⟨l, c⟩)
      | rot ds =>
        refine .inr (.inl (start fun v F1 H1 R1 x1 hv => ?_))
        have hv' : Dat W F1 v (.rot ds) := hv
        cases hv' with
        | rot t l c =>
          refine ⟨_, rfl, ⟨_, by rw [← hK]; exact ex_t R1.sub t⟩, ?_⟩
          rw [← hK]
          exact h _ F1 H1 R1 x1 (src_tup t ⟨l, c⟩)
      | str x =>
        refine .inr (.inr (start fun v F1 H1 R1 x1 hv => ?_))
        have hv' : Dat W F1 v (.str x) := hv
        cases hv'
        exact ⟨x, rfl, h _ F1 H1 R1 x1 src_str⟩
      | _ => exact h.elim
    | fr d =>
      try simp only at h
      cases d with
      | lst ds =>
        refine .inl (start fun v F1 H1 R1 x1 hv => ?_)
        obtain ⟨F2, x2, vw, R2⟩ := VR.vw hv R1
        have hv' : Dat W F2 v (.lst ds) := vw
        cases hv' with
        | lst t l c =>
          refine ⟨_, rfl, ⟨_, SqL.of (R2.sub _ _ t)⟩, ?_⟩
          rw [← hK]
          exact h _ F2 H1 R2 (x1.trans x2) (src_listF (SqL.of t) ⟨l, c⟩)
      | _ =>
        refine .inl (start fun v F1 H1 R1 x1 hv => ?_)
        obtain ⟨ad, rfl, t, _⟩ := hv
        first | exact t.elim | exact h.elim
theorem iB_run {g : List D → Option (List D)} {Q : It → Hp → Prop} {t : List V → Hp → Prop} (R : Rel W G en σ F H) (h : Out W E G σ (AI W G σ F Q) (iB g fs en))
    (k : ∀ vs F1 H1 ds xs, Ex F1 H1 → VBs W F1 H1 vs ds → g ds = some xs → (∀ J, Src W J xs (fun F2 _ => Ex F1 F2) → Q J H1) → t vs H1) : tA W E (eA fs) σ H t := by
  refine av_then R h fun rs en1 vs F1 H1 h1 R1 x1 hw => ?_
  cases q : curs en1 rs with
  | none => simp only [q] at h1; exact h1.elim
  | some ds =>
    cases q2 : g ds with
    | none => simp only [q, q2] at h1; exact h1.elim
    | some xs =>
      simp only [q, q2] at h1
      exact k vs F1 H1 ds xs R1.sub (curs_ok hw R1 q) q2 fun J src => h1 J F1 H1 R1 x1 src
theorem small_ok {i : Int} (h : small i = true) : -(2 ^ 62) ≤ i ∧ i < 2 ^ 62 := by
  unfold small at h
  rw [Bool.and_eq_true] at h
  exact ⟨of_decide_eq_true h.1, of_decide_eq_true h.2⟩
theorem vbs1 {vs : List V} {d : D} (h : VBs W F H vs [d]) : ∃ v, vs = [v] ∧ VB W F H v d := by
  match vs, h with
  | [v], h => exact ⟨v, rfl, h.1⟩
theorem vbs2 {vs : List V} {d e : D} (h : VBs W F H vs [d, e]) : ∃ v w, vs = [v, w] ∧ VB W F H v d ∧ VB W F H w e := by
  match vs, h with
  | [v, w], h => exact ⟨v, w, rfl, h.1, h.2.1⟩
theorem iv_range1 {p : Pos} (hm : X.mg "range" = none) (ha : AV W E X [a] (eA fs)) (hg : Gl X "range" := by rfl) (hs : starEach [a] X.env = [(false, eval a X.env)] := by rfl) : IV W E X tg (.Call (.Name "range" p) [a] [] pos) (iB rng1 fs) := by
  refine PI.imp (pi_range1 hg hm ha hs) fun σ H Q hq => ?_
  obtain ⟨G, F, en, R, h⟩ := tI.out.mp hq
  refine iB_run R h fun vs F1 H1 ds xs sub hv hx k => ?_
  match ds, hx with
  | [.int n], hx =>
    obtain ⟨v, rfl, vb⟩ := vbs1 hv
    rw [vb.int]
    have hx' : (if small n = true then some (intsD 0 n.toNat) else none) = some xs := hx
    split at hx'
    · rename_i hn
      cases hx'
      exact ⟨n, rfl, (small_ok hn).1, (small_ok hn).2, k _ src_range⟩
    · cases hx'
theorem iv_range2 {p : Pos} (hm : X.mg "range" = none) (ha : AV W E X [a, b] (eA fs)) (hg : Gl X "range" := by rfl) (hs : starEach [a, b] X.env = [(false, eval a X.env), (false, eval b X.env)] := by rfl) (hs2 : starEach [b] X.env = [(false, eval b X.env)] := by rfl) : IV W E X tg (.Call (.Name "range" p) [a, b] [] pos) (iB rng2 fs) := by
  refine PI.imp (pi_range2 hg hm ha hs hs2) fun σ H Q hq => ?_
  obtain ⟨G, F, en, R, h⟩ := tI.out.mp hq
  refine iB_run R h fun vs F1 H1 ds xs sub hv hx k => ?_
  match ds, hx with
  | [.int lo, .int hi], hx =>
    obtain ⟨v, w, rfl, vb, wb⟩ := vbs2 hv
    rw [vb.int, wb.int]
    have hx' : (if (small lo && small hi) = true then some (intsD lo (hi - lo).toNat) else none) = some xs := hx
    split at hx'
    · rename_i hn
      cases hx'
      rw [Bool.and_eq_true] at hn
      exact ⟨lo, hi, rfl, ⟨(small_ok hn.1).1, (small_ok hn.1).2, (small_ok hn.2).1, (small_ok hn.2).2⟩, k _ src_range⟩
    · cases hx'
theorem iS_run {g : List D → Option (List D)} {Q : It → Hp → Prop} {t : List V → Hp → Prop} (R : Rel W G en σ F H) (h : Out W E G σ (AI W G σ F Q) (iS g fs en))
    (k : ∀ vs F1 H1 ds xs, Ex F1 H1 → DL W F1 vs ds → g ds = some xs → (∀ J, Src W J xs (fun F2 _ => Ex F1 F2) → Q J H1) → t vs H1) : tA W E (eA fs) σ H t := by
  refine av_then R h fun rs en1 vs F1 H1 h1 R1 x1 hw => ?_
  cases q : shrs rs en1 with
  | none => simp only [q] at h1; exact h1.elim
  | some p =>
    obtain ⟨ds, en2⟩ := p
    obtain ⟨F2, x2, dl, R2⟩ := shrs_ok hw R1 q
    cases q2 : g ds with
    | none => simp only [q, q2] at h1; exact h1.elim
    | some xs =>
      simp only [q, q2] at h1
      exact k vs F2 H1 ds xs R2.sub dl q2 fun J src => h1 J F2 H1 R2 (x1.trans x2) src
theorem enumFrom_get : ∀ (ds : List D) (n i : Nat) (d : D), ds[i]? = some d → (enumFrom n ds)[i]? = some (.tup [.int ((n + i : Nat) : Int), d])
  | d :: ds, n, 0, d', h => by cases h; rfl
  | d :: ds, n, i + 1, d', h => by
    show (enumFrom (n + 1) ds)[i]? = _
    rw [enumFrom_get ds (n + 1) i d' h, show n + 1 + i = n + (i + 1) by omega]
  | [], _, _, _, h => by simp at h
theorem enumFrom_len : ∀ (ds : List D) (n : Nat), (enumFrom n ds).length = ds.length
  | [], _ => rfl
  | d :: ds, n => by simp [enumFrom, enumFrom_len ds (n + 1)]
theorem dl1 {F : Hp} {vs : List V} {d : D} (h : DL W F vs [d]) : ∃ v, vs = [v] ∧ Dat W F v d := by
  obtain ⟨v, r, rfl, h1, h2⟩ := h.inv_cons
  rw [h2.inv_nil]
  exact ⟨v, rfl, h1⟩
theorem dl2 {F : Hp} {vs : List V} {d e : D} (h : DL W F vs [d, e]) : ∃ v w, vs = [v, w] ∧ Dat W F v d ∧ Dat W F w e := by
  obtain ⟨v, r, rfl, h1, h2⟩ := h.inv_cons
  obtain ⟨w, r2, rfl, h3, h4⟩ := h2.inv_cons
  rw [h4.inv_nil]
  exact ⟨v, w, rfl, h1, h3⟩
/-- a walk that yields new tuples -/
theorem src_pair {J : It} {n : Nat} {Gd : Hp → Prop} {xs ys : Nat → Option V} {ds : List D} {F0 : Hp} (w : Walk J n Gd (YPair xs ys)) (hn : ds.length = n) (hG : ∀ F H, Ex F0 F → Ex F H → Gd H)
    (hd : ∀ i x y, i < n → xs i = some x → ys i = some y → ∃ p q, ds[i]? = some (.tup [p, q]) ∧ Dat W F0 x p ∧ Dat W F0 y q) : Src W J ds (fun F _ => Ex F0 F) := fun F H x i0 => by
  have g := hG F H i0 x
  refine ⟨fun i hi => ⟨w.goes i H (hn ▸ hi) g, fun v H' hy => ?_⟩, by rw [hn]; exact w.stops H g⟩
  obtain ⟨T, a, b, rfl, nT, rfl, ha, hb⟩ := w.yields i H v H' (hn ▸ hi) g hy
  obtain ⟨p, q, e, dp, dq⟩ := hd i a b (hn ▸ hi) ha hb
  have st := Stp.new (o := .tup [a, b]) x nT
  exact ⟨_, _, st, e, Dat.tup upd_same rfl (DL.cons (dp.mono (i0.trans st.ex)) (DL.cons (dq.mono (i0.trans st.ex)) DL.nil)).2⟩
theorem iv_enum {p tpos : Pos} {elts : List Expr} {kk : Nat} (hK : W.K = X.K) (hm : X.mg "enumerate" = none) (ha : AV W E X [a] (eA fs)) (hg : Gl X "enumerate" := by rfl) (hs : starEach [a] X.env = [(false, eval a X.env)] := by rfl) : IV W E X (.Tuple elts kk tpos) (.Call (.Name "enumerate" p) [a] [] pos) (iS enum1 fs) := by
  refine PI.imp (pi_enum hg hm ha hs) fun σ H Q hq => ?_
  obtain ⟨G, F, en, R, h⟩ := tI.out.mp hq
  refine iS_run R h fun vs F1 H1 ds xs sub hv hx k => ?_
  match ds, hx with
  | [.lst ds], hx =>
    cases hx
    obtain ⟨v, rfl, vb⟩ := dl1 hv
    cases vb with
    | lst t l c =>
      refine ⟨_, _, rfl, SqL.of (sub _ _ t), k _ ?_⟩
      refine src_pair walk_enum (by rw [enumFrom_len, l]) (fun F H i0 x => SqL.of (x _ _ (i0 _ _ t))) fun i x y hi hx hy => ?_
      cases hx
      obtain ⟨d, hd, dv⟩ := DL.getV ⟨l, c⟩ hy
      refine ⟨_, _, enumFrom_get _ 0 i d hd, ?_, dv⟩
      rw [Nat.zero_add]; exact Dat.int _
theorem zipD_get : ∀ (as bs : List D) (i : Nat) (a b : D), as[i]? = some a → bs[i]? = some b → (zipD as bs)[i]? = some (.tup [a, b])
  | x :: as, y :: bs, 0, a, b, h, k => by cases h; cases k; rfl
  | x :: as, y :: bs, i + 1, a, b, h, k => zipD_get as bs i a b h k
  | [], _, _, _, _, h, _ => by simp at h
  | _ :: _, [], _, _, _, _, k => by simp at k
theorem zipD_len : ∀ (as bs : List D), (zipD as bs).length = min as.length bs.length
  | x :: as, y :: bs => by simp [zipD, zipD_len as bs, Nat.succ_min_succ]
  | [], _ => by simp [zipD]
  | _ :: _, [] => by simp [zipD]
theorem iv_zip {p tpos : Pos} {elts : List Expr} {kk : Nat} (hK : W.K = X.K) (hm : X.mg "zip" = none) (ha : AV W E X [a, b] (eA fs)) (hg : Gl X "zip" := by rfl) (hs : starEach [a, b] X.env = (false, eval a X.env) :: starEach [b] X.env := by rfl) (hpl : (backTo pos (starEach [b] X.env)).any (·.1) = false := by rfl) : IV W E X (.Tuple elts kk tpos) (.Call (.Name "zip" p) [a, b] [] pos) (iS zip2 fs) := by
  refine PI.imp (pi_zip hg hm ha hs hpl) fun σ H Q hq => ?_
  obtain ⟨G, F, en, R, h⟩ := tI.out.mp hq
  refine iS_run R h fun vs F1 H1 ds xs sub hv hx k => ?_
  match ds, hx with
  | [.lst as, .lst bs], hx =>
    cases hx
    obtain ⟨v, w, rfl, vb, wb⟩ := dl2 hv
    cases vb with
    | lst t l c =>
      cases wb with
      | lst t' l' c' =>
        refine ⟨_, _, _, _, rfl, SqL.of (sub _ _ t), SqL.of (sub _ _ t'), k _ ?_⟩
        refine src_pair (walk_zip rfl) (by rw [zipD_len, l, l']) (fun F H i0 x => ⟨SqL.of (x _ _ (i0 _ _ t)), SqL.of (x _ _ (i0 _ _ t'))⟩) fun i x y hi hx hy => ?_
        obtain ⟨d, hd, dv⟩ := DL.getV ⟨l, c⟩ hx
        obtain ⟨d', hd', dv'⟩ := DL.getV ⟨l', c'⟩ hy
        exact ⟨_, _, zipD_get _ _ i d d' hd hd', dv, dv'⟩
end
end Fw
set_option Elab.async false
set_option linter.all false
set_option maxRecDepth 100000
namespace Fw
open PySem PySem.Spec PyProof.Rows L2

/-! ### comprehensions -/
def wipeE (en : En) : List Nat → En
  | [] => en
  | i :: is => (wipeE en is).set i .un
/-- names that nothing asks any more -/
def sFg (fg : List Nat) (f : SM) : SM := fun en => match f en with
  | .nx e => .nx (wipeE e fg)
  | .ct e => .ct (wipeE e fg)
  | .bk e => .bk (wipeE e fg)
  | .rt r e => .rt r e
  | .exc c fs e => .exc c fs e
  | .bad => .bad
def keepSh : Option Sl → Sl
  | some (.sh d) => .sh d
  | _ => .un
def restE (en1 en' : En) : List Nat → En
  | [] => en'
  | i :: is => (restE en1 en' is).set i (keepSh en1[i]?)
open Classical in
noncomputable def chkd {α : Type} (c : Option (Nat × Sl)) (en : En) (k : Option α) : Option α := match c with
  | none => k
  | some (j, s) => if en[j]? = some s then k else none
noncomputable def lcLoop (c : Option (Nat × Sl)) (own : List Nat) (g : GM) (tt : M Bool) (elt : M ER) : List D → En → Option (List D × En)
  | [], en => some ([], en)
  | d :: ds, en => match g d en with
    | none => none
    | some en1 => match tt en1 with
      | .ok true en2 => (match elt en2 with
        | .ok r en3 => (match shr en3 r with
          | some (x, en4) => chkd c (wipeE en4 own) (match lcLoop c own g tt elt ds (wipeE en4 own) with
            | some (xs, en5) => some (x :: xs, en5)
            | none => none)
          | none => none)
        | _ => none)
      | .ok false en2 => chkd c (wipeE en2 own) (lcLoop c own g tt elt ds (wipeE en2 own))
      | _ => none
noncomputable def eLc (it : M IR) (own : List Nat) (g : GM) (tt : M Bool) (elt : M ER) : M ER := fun en => (it en).bind fun ir en1 =>
  if ir.items.length ≤ 1000000 then match ir.lock with
    | none => (match lcLoop none own g tt elt ir.items (wipeE en1 own) with
      | some (xs, en') => .ok (.fr (.lst xs)) (restE en1 en' own)
      | none => .bad)
    | some j => (match en1[j]? with
      | some s => if s.own = true ∧ j ∉ own then (match lcLoop (some (j, s.lock)) own g tt elt ir.items (wipeE (en1.set j s.lock) own) with
        | some (xs, en') => .ok (.fr (.lst xs)) ((restE (en1.set j s.lock) en' own).set j s)
        | none => .bad) else .bad
      | none => .bad)
  else .bad
def mYes : M Bool := fun en => .ok true en
def TVs (W : Wc) (X : Cx) (ifs : List Expr) (f : M Bool) : Prop := PTs X ifs (tT W EZ f)

/-- one more cell is held through -/
def Gc.hold (G : Gc) (p : Addr) (o : HO) : Gc := { G with H0 := upd G.H0 p o, pin := fun i => if G.pin i = some p then none else G.pin i }

section
variable {W : Wc} {E : St → XK} {X : Cx} {a b c : Expr} {es : List Expr} {fa fb fc elt : M ER} {ga gb tt : M Bool} {fs : List (M ER)} {pos : Pos} {G G' : Gc} {en en1 en' : En} {σ : St} {F H F' H' : Hp}
  {st : Stmt} {sts rest : List Stmt} {f g body : SM} {De : Ends} {tg : Expr} {gm : GM} {ws own : List Nat} {it : M IR} {p : Addr} {o : HO}

theorem Rel.hold (R : Rel W G en σ F H) (h : H p = some o) (hF : F p = none) (ha : Apart en σ p) (hw : p ∉ G.wr) : Rel W (G.hold p o) en σ F H := by
  refine ⟨R.len, R.sub, R.ex0, fun x u h1 n => ?_, fun x u h1 n => ?_, R.wrk, fun i s e => ?_, R.dist⟩
  · by_cases z : x = p
    · subst z; exact hF
    · exact R.fen x u (by have h1' : upd G.H0 p o x = some u := h1; rw [upd_ne z] at h1'; exact h1') n
  · by_cases z : x = p
    · subst z
      have h1' : upd G.H0 x o x = some u := h1
      rw [upd_same] at h1'; cases h1'; exact h
    · exact R.keep x u (by have h1' : upd G.H0 p o x = some u := h1; rw [upd_ne z] at h1'; exact h1') n
  · have hs := R.slot i s e
    cases s with
    | un => trivial
    | sh d => exact hs
    | ow d =>
      obtain ⟨x, h1, h2, h3, h4⟩ := hs
      refine ⟨x, h1, h2, h3, ?_⟩
      show upd G.H0 p o x = none
      rw [upd_ne fun z => ha i _ e rfl (by rw [← z]; exact h1)]; exact h4
    | lk d =>
      obtain ⟨x, h1, h2, h3, h4⟩ := hs
      refine ⟨x, h1, h2, h3, ?_⟩
      show (if G.pin i = some p then none else G.pin i) = some x
      rw [if_neg fun z => ha i _ e rfl (by rw [h4] at z; cases z; exact h1)]; exact h4
    | pn m d =>
      obtain ⟨x, h1, h2, h3, h4, h5⟩ := hs
      have ne : x ≠ p := fun z => ha i _ e rfl (by rw [← z]; exact h1)
      refine ⟨x, h1, h2, h3, ?_, fun z => (h5 z).imp id fun y => ?_⟩
      · show (if G.pin i = some p then none else G.pin i) = some x
        rw [if_neg fun z => ne (by rw [h4] at z; cases z; rfl)]; exact h4
      · show upd G.H0 p o x = none
        rw [upd_ne ne]; exact y
theorem Rel.held (R : Rel W (G.hold p o) en σ F H) (h0 : G.H0 p = none) (hF : G.F0 p = none) (hw : p ∉ G.wr) : Rel W G en σ F H ∧ H p = some o ∧ F p = none ∧ Apart en σ p := by
  have hp : (G.hold p o).H0 p = some o := upd_same
  have ne : ∀ x u, G.H0 x = some u → x ≠ p := fun x u e z => by subst z; rw [h0] at e; cases e
  refine ⟨⟨R.len, R.sub, R.ex0, fun x u h1 n => R.fen x u (by show upd G.H0 p o x = _; rw [upd_ne (ne x u h1)]; exact h1) n, fun x u h1 n => R.keep x u (by show upd G.H0 p o x = _; rw [upd_ne (ne x u h1)]; exact h1) n, R.wrk, fun i s e => ?_, R.dist⟩, R.keep p o hp hw, R.fen p o hp hF, fun i s e ow z => ?_⟩
  · have hs := R.slot i s e
    cases s with
    | un => trivial
    | sh d => exact hs
    | ow d =>
      obtain ⟨x, h1, h2, h3, h4⟩ := hs
      have h4' : upd G.H0 p o x = none := h4
      have : x ≠ p := fun z => by subst z; rw [upd_same] at h4'; cases h4'
      rw [upd_ne this] at h4'
      exact ⟨x, h1, h2, h3, h4'⟩
    | lk d =>
      obtain ⟨x, h1, h2, h3, h4⟩ := hs
      have h4' : (if G.pin i = some p then none else G.pin i) = some x := h4
      split at h4'
      · cases h4'
      · exact ⟨x, h1, h2, h3, h4'⟩
    | pn m d =>
      obtain ⟨x, h1, h2, h3, h4, h5⟩ := hs
      have h4' : (if G.pin i = some p then none else G.pin i) = some x := h4
      split at h4'
      · cases h4'
      · refine ⟨x, h1, h2, h3, h4', fun z => (h5 z).imp id fun y => ?_⟩
        have y' : upd G.H0 p o x = none := y
        have : x ≠ p := fun z => by subst z; rw [upd_same] at y'; cases y'
        rw [upd_ne this] at y'; exact y'
  · have hs := R.slot i s e
    cases s with
    | un => exact absurd ow Bool.false_ne_true
    | sh d => exact absurd ow Bool.false_ne_true
    | ow d =>
      obtain ⟨x, h1, h2, h3, h4⟩ := hs
      rw [z] at h1; cases h1
      rw [hp] at h4; cases h4
    | lk d =>
      obtain ⟨x, h1, h2, h3, h4⟩ := hs
      rw [z] at h1; cases h1
      have h4' : (if G.pin i = some p then none else G.pin i) = some p := h4
      split at h4'
      · cases h4'
      · rename_i hn; exact hn h4'
    | pn m d =>
      obtain ⟨x, h1, h2, h3, h4, h5⟩ := hs
      rw [z] at h1; cases h1
      have h4' : (if G.pin i = some p then none else G.pin i) = some p := h4
      split at h4'
      · cases h4'
      · rename_i hn; exact hn h4'
/-- a cell that no slot has is written -/
theorem Rel.poke (R : Rel W G en σ F H) (hF : F p = none) (h0 : G.H0 p = none) (ha : Apart en σ p) : Rel W G en σ F (upd H p o) := by
  refine ⟨R.len, fun x u e => ?_, R.ex0, R.fen, fun x u e n => ?_, fun x hx => ?_, fun i s e => ?_, R.dist⟩
  · rw [upd_ne fun z => by subst z; rw [hF] at e; cases e]; exact R.sub _ _ e
  · rw [upd_ne fun z => by subst z; rw [h0] at e; cases e]; exact R.keep x u e n
  · by_cases z : x = p
    · subst z; exact ⟨o, upd_same⟩
    · rw [upd_ne z]; exact R.wrk x hx
  · refine (R.slot i s e).mono (Ex.refl F) fun x u hx fx sx ox => ⟨?_, fx⟩
    rw [upd_ne fun z => by subst z; exact ha i s e ox sx]; exact hx
theorem wipe_get {σ : St} {k : Nat} : ∀ {vs : List Nat}, k ∉ vs → (wipe σ vs)[k]? = σ[k]?
  | [], _ => rfl
  | v :: vs, h => by
    show ((wipe σ vs).set v none)[k]? = _
    rw [List.getElem?_set_ne (fun z => h (by simp [z])), wipe_get fun z => h (List.mem_cons_of_mem _ z)]
theorem wipe_own {σ : St} {k : Nat} : ∀ {vs : List Nat}, k ∈ vs → k < σ.length → (wipe σ vs)[k]? = some none
  | v :: vs, h, hk => by
    show ((wipe σ vs).set v none)[k]? = _
    by_cases e : v = k
    · subst e; rw [List.getElem?_set_self (by rw [wipe_length]; exact hk)]
    · rw [List.getElem?_set_ne e]
      rcases List.mem_cons.mp h with z | z
      · exact absurd z.symm e
      · exact wipe_own z hk
theorem wipe_eq {σ σ' : St} {vs : List Nat} (hl : σ'.length = σ.length) (h : ∀ k, k ∉ vs → σ'[k]? = σ[k]?) : wipe σ' vs = wipe σ vs := by
  apply List.ext_getElem?
  intro k
  by_cases hk : k ∈ vs
  · by_cases hl2 : k < σ.length
    · rw [wipe_own hk hl2, wipe_own hk (by rw [hl]; exact hl2)]
    · rw [List.getElem?_eq_none_iff.mpr (by rw [wipe_length]; omega), List.getElem?_eq_none_iff.mpr (by rw [wipe_length]; omega)]
  · rw [wipe_get hk, wipe_get hk]; exact h k hk
theorem wipeE_length {en : En} : ∀ {vs : List Nat}, (wipeE en vs).length = en.length
  | [] => rfl
  | v :: vs => by show ((wipeE en vs).set v .un).length = _; rw [List.length_set, wipeE_length]
theorem wipeE_get {en : En} {k : Nat} : ∀ {vs : List Nat}, k ∉ vs → (wipeE en vs)[k]? = en[k]?
  | [], _ => rfl
  | v :: vs, h => by
    show ((wipeE en vs).set v .un)[k]? = _
    rw [List.getElem?_set_ne (fun z => h (by simp [z])), wipeE_get fun z => h (List.mem_cons_of_mem _ z)]
theorem wipeE_cases {en : En} {k : Nat} {s : Sl} : ∀ {vs : List Nat}, (wipeE en vs)[k]? = some s → (k ∈ vs ∧ s = .un) ∨ (k ∉ vs ∧ en[k]? = some s)
  | [], h => .inr ⟨by simp, h⟩
  | v :: vs, h => by
    rcases set_get h with ⟨e1, e2⟩ | ⟨hk, h⟩
    · exact .inl ⟨by simp [e1], e2⟩
    · rcases wipeE_cases h with ⟨h1, h2⟩ | ⟨h1, h2⟩
      · exact .inl ⟨List.mem_cons_of_mem _ h1, h2⟩
      · exact .inr ⟨fun z => (List.mem_cons.mp z).elim hk h1, h2⟩
theorem restE_length {en1 en' : En} : ∀ {vs : List Nat}, (restE en1 en' vs).length = en'.length
  | [] => rfl
  | v :: vs => by show ((restE en1 en' vs).set v _).length = _; rw [List.length_set, restE_length]
theorem restE_cases {en1 en' : En} {k : Nat} {s : Sl} : ∀ {vs : List Nat}, (restE en1 en' vs)[k]? = some s → (k ∈ vs ∧ s = keepSh en1[k]?) ∨ (k ∉ vs ∧ en'[k]? = some s)
  | [], h => .inr ⟨by simp, h⟩
  | v :: vs, h => by
    rcases set_get h with ⟨e1, e2⟩ | ⟨hk, h⟩
    · subst e1; exact .inl ⟨by simp, e2⟩
    · rcases restE_cases h with ⟨h1, h2⟩ | ⟨h1, h2⟩
      · exact .inl ⟨List.mem_cons_of_mem _ h1, h2⟩
      · exact .inr ⟨fun z => (List.mem_cons.mp z).elim hk h1, h2⟩
theorem keepSh_own (s : Option Sl) : (keepSh s).own = false := by
  unfold keepSh
  split <;> rfl
theorem Rel.wiped {σ' : St} (R : Rel W G en σ' F H) (hs : wipe σ' own = wipe σ own) (hl : σ'.length = σ.length) : Rel W G (wipeE en own) (wipe σ own) F H := by
  refine ⟨by rw [wipeE_length, wipe_length, R.len, hl], R.sub, R.ex0, R.fen, R.keep, R.wrk, fun i s e => ?_, fun i j s t x hij q1 q2 m o z1 z2 => ?_⟩
  · rcases wipeE_cases e with ⟨_, h2⟩ | ⟨h1, h2⟩
    · subst h2; trivial
    · have h := R.slot i s h2
      have eq : (wipe σ own)[i]? = σ'[i]? := by rw [← hs, wipe_get h1]
      cases s <;> (unfold SlOk at h ⊢; rw [eq]; exact h)
  · rcases wipeE_cases q1 with ⟨_, h2⟩ | ⟨h1, h2⟩
    · subst h2; exact absurd m Bool.false_ne_true
    · rcases wipeE_cases q2 with ⟨_, k2⟩ | ⟨k1, k2⟩
      · subst k2; exact absurd o Bool.false_ne_true
      · rw [← hs, wipe_get h1] at z1
        rw [← hs, wipe_get k1] at z2
        exact R.dist i j s t x hij h2 k2 m o z1 z2
theorem Rel.rested (R1 : Rel W G en1 σ F H) (R : Rel W G en' (wipe σ own) F' H') (x : Ex F F') : Rel W G (restE en1 en' own) σ F' H' := by
  refine ⟨by rw [restE_length, R.len, wipe_length], R.sub, R.ex0, R.fen, R.keep, R.wrk, fun i s e => ?_, fun i j s t x hij q1 q2 m o z1 z2 => ?_⟩
  · rcases restE_cases e with ⟨h1, h2⟩ | ⟨h1, h2⟩
    · subst h2
      cases e1 : en1[i]? with
      | none => trivial
      | some s =>
        have h := R1.slot i s e1
        cases s with
        | sh d => obtain ⟨v, k1, k2⟩ := h; exact ⟨v, k1, k2.mono x⟩
        | _ => trivial
    · have h := R.slot i s h2
      cases s <;> (unfold SlOk at h ⊢; rw [wipe_get h1] at h; exact h)
  · rcases restE_cases q1 with ⟨_, h2⟩ | ⟨h1, h2⟩
    · subst h2
      have := Sl.excl_own m
      rw [keepSh_own] at this; cases this
    · rcases restE_cases q2 with ⟨_, k2⟩ | ⟨k1, k2⟩
      · subst k2; rw [keepSh_own] at o; cases o
      · exact R.dist i j s t x hij h2 k2 m o (by rw [wipe_get h1]; exact z1) (by rw [wipe_get k1]; exact z2)
theorem Rel.fgt (R : Rel W G en σ F H) : ∀ (fg : List Nat), Rel W G (wipeE en fg) σ F H
  | [] => R
  | i :: is => (Rel.fgt R is).forget i
theorem sv_fg (fg : List Nat) {ss : List Stmt} (h : SVs W E X ss f) : SVs W E X ss (sFg fg f) := by
  refine PSs.imp h fun D σ H hq => ?_
  obtain ⟨G, F, en, R, h⟩ := tS.out.mp hq
  refine tS.out.mpr ⟨G, F, en, R, ?_⟩
  unfold sFg at h
  cases e : f en with
  | nx en' => simp only [e] at h; exact fun σ' F' H' R' => h σ' F' H' (R'.fgt fg)
  | ct en' => simp only [e] at h; exact fun σ' F' H' R' => h σ' F' H' (R'.fgt fg)
  | bk en' => simp only [e] at h; exact fun σ' F' H' R' => h σ' F' H' (R'.fgt fg)
  | rt r en' => simp only [e] at h; exact h
  | exc c fs en' => simp only [e] at h; exact h
  | bad => simp only [e] at h; exact h
/-- the turns of a comprehension -/
theorem lc_run {J : It} {ds : List D} {I : Hp → Hp → Prop} {ck : Option (Nat × Sl)} {P : En → Prop} {Q : Hp → Prop} {xs : List D} (S : Src W J ds I) (hw : ∀ k ∈ ws, k ∈ own) (hlen : ds.length ≤ 1000000)
    (hI : ∀ en F H, Rel W G en (wipe σ own) F H → P en → I F H) (hck : ∀ (en : En) (α : Type) (k : Option α) (x : α), chkd ck en k = some x → k = some x ∧ P en) (R0 : Rel W G en (wipe σ own) F H) (p0 : P en) (hp : H p = none)
    (h : lcLoop ck own gm tt elt ds en = some (xs, en')) (hQ : ∀ F' H', Rel W G en' (wipe σ own) F' H' → P en' → Top W F' H' p (.lst xs) → F' p = none → Apart en' (wipe σ own) p → Q H') :
    ∃ Wv : Nat → Nat → Hp → Prop, (∃ m, Wv 0 m (upd H p (.lst []))) ∧ ∀ i m H, Wv i m H →
      (J.stop i H ∧ Q H) ∨ (J.go i H ∧ ∃ Nx : Hp → Prop, (∀ H', Nx H' → ∃ m', m' < m ∧ Wv (i + 1) m' H') ∧ ∀ x H', J.yld i H x H' → tG W ws gm x (wipe σ own) H' fun σ2 H2 => wipe σ2 own = wipe σ own ∧ tT W EZ tt σ2 H2 fun b H3 =>
        if b = true then tE W EZ elt σ2 H3 fun y H4 => ∃ acc, H4 p = some (.lst acc) ∧ acc.length < sizeLine ∧ Nx (upd H4 p (.lst (acc ++ [y]))) else Nx H3) := by
  have h0 : G.H0 p = none := R0.new hp
  have hwr : p ∉ G.wr := fun z => let ⟨u, hu⟩ := R0.wrk p z; by rw [hp] at hu; cases hu
  have hF0 : G.F0 p = none := by
    cases q : G.F0 p with
    | none => rfl
    | some u => have := R0.sub _ _ (R0.ex0 _ _ q); rw [hp] at this; cases this
  refine ⟨fun i m H => i + m = ds.length ∧ ∃ F en acc vs zs, Rel W G en (wipe σ own) F H ∧ P en ∧ H p = some (.lst vs) ∧ F p = none ∧ Apart en (wipe σ own) p ∧ DL W F vs acc ∧ acc.length ≤ i ∧ lcLoop ck own gm tt elt (ds.drop i) en = some (zs, en') ∧ acc ++ zs = xs,
    ⟨ds.length, by omega, F, en, [], [], xs, R0.poke (no_of (s := R0.sub) hp) h0 (R0.apart hp), p0, upd_same, no_of (s := R0.sub) hp, R0.apart hp, DL.nil, Nat.le_refl _, h, rfl⟩, ?_⟩
  rintro i m H ⟨hm, F, en, acc, vs, zs, R, pe, hp1, hF1, ap, dl, hl, hz, hx⟩
  obtain ⟨s1, s2⟩ := S F H R.sub (hI _ _ _ R pe)
  by_cases hi : i < ds.length
  · obtain ⟨s3, s4⟩ := s1 i hi
    refine .inr ⟨s3, _, fun H' (hN : i + 1 + (m - 1) = ds.length ∧ ∃ F en acc vs zs, Rel W G en (wipe σ own) F H' ∧ P en ∧ H' p = some (.lst vs) ∧ F p = none ∧ Apart en (wipe σ own) p ∧ DL W F vs acc ∧ acc.length ≤ i + 1 ∧ lcLoop ck own gm tt elt (ds.drop (i + 1)) en = some (zs, en') ∧ acc ++ zs = xs) => ⟨m - 1, by omega, hN⟩, fun x H' hy => ?_⟩
    obtain ⟨F1, d, st, hd, hv⟩ := s4 x H' hy
    have hdr : ds.drop i = d :: ds.drop (i + 1) := by
      rw [List.drop_eq_getElem_cons hi]
      rw [List.getElem?_eq_getElem hi] at hd
      cases hd; rfl
    rw [hdr] at hz
    unfold lcLoop at hz
    have R1 := (R.stp st).rebase
    have RH : Rel W ((G.base F1).hold p (.lst vs)) en (wipe σ own) F1 H' := R1.hold (st.keep _ _ hp1) (st.fence _ _ hp1 hF1) ap hwr
    refine ⟨_, F1, en, d, RH, hv, ?_⟩
    cases e : gm d en with
    | none => simp only [e] at hz; cases hz
    | some en1 =>
      simp only [e] at hz
      intro σ2 F2 H2 R2 x2 l2 k2
      have hw2 : wipe σ2 own = wipe σ own := by
        have : wipe σ2 own = wipe (wipe σ own) own := wipe_eq l2 fun k hk => k2 k fun z => hk (hw k z)
        rw [this]
        exact wipe_eq (wipe_length _ _) fun k hk => wipe_get hk
      have hl2 : σ2.length = σ.length := l2.trans (wipe_length _ _)
      refine ⟨hw2, _, F2, en1, R2, ?_⟩
      -- what a turn leaves
      have fin : ∀ {en3 : En} {F3 H3 : Hp}, Rel W ((G.base F1).hold p (.lst vs)) en3 σ2 F3 H3 → Rel W G (wipeE en3 own) (wipe σ own) F3 H3 ∧ H3 p = some (.lst vs) ∧ F3 p = none ∧ Apart (wipeE en3 own) (wipe σ own) p ∧ Ex F1 F3 := by
        intro en3 F3 H3 R3
        have hF1' : F1 p = none := st.fence _ _ hp1 hF1
        have R4 := R3.wiped hw2 hl2
        obtain ⟨q1, q2, q3, q4⟩ := R4.held (G := G.base F1) h0 hF1' hwr
        exact ⟨(R.stp st).unbase q1, q2, q3, q4, q1.ex0⟩
      cases e2 : tt en1 with
      | bad => simp only [e2] at hz; cases hz
      | exc c fs s => simp only [e2] at hz; cases hz
      | ok bb en2 =>
        intro F3 H3 R3 x3
        cases bb with
        | false =>
          rw [if_neg Bool.false_ne_true]
          simp only [e2] at hz
          obtain ⟨hz, pe'⟩ := hck _ _ _ _ hz
          obtain ⟨q1, q2, q3, q4, q5⟩ := fin R3
          exact ⟨by omega, F3, _, acc, vs, zs, q1, pe', q2, q3, q4, dl.mono (st.ex.trans q5), by omega, hz, hx⟩
        | true =>
          rw [if_pos rfl]
          simp only [e2] at hz
          cases e3 : elt en2 with
          | bad => simp only [e3] at hz; cases hz
          | exc c fs s => simp only [e3] at hz; cases hz
          | ok r en3 =>
            simp only [e3] at hz
            refine ⟨_, F3, en2, R3, ?_⟩
            rw [e3]
            intro y F4 H4 R4 x4 vr
            obtain ⟨F5, x5, vw, R5⟩ := vr.vw R4
            cases e4 : shr en3 r with
            | none => simp only [e4] at hz; cases hz
            | some pr =>
              obtain ⟨xd, en4⟩ := pr
              simp only [e4] at hz
              obtain ⟨F6, x6, dv, R6⟩ := shr_ok vw R5 e4
              obtain ⟨hz, pe'⟩ := hck _ _ _ _ hz
              obtain ⟨q1, q2, q3, q4, q5⟩ := fin R6
              cases e5 : lcLoop ck own gm tt elt (ds.drop (i + 1)) (wipeE en4 own) with
              | none => simp only [e5] at hz; cases hz
              | some pr2 =>
                obtain ⟨zs2, en5⟩ := pr2
                simp only [e5] at hz
                cases hz
                refine ⟨vs, q2, ?_, by omega, F6, _, acc ++ [xd], vs ++ [y], zs2, q1.poke q3 h0 q4, pe', upd_same, q3, q4, (dl.mono (st.ex.trans q5)).append (DL.cons dv DL.nil), by simp; omega, e5, by rw [← hx]; simp⟩
                rw [dl.1]
                exact Nat.lt_of_le_of_lt hl (Nat.lt_of_lt_of_le hi (Nat.le_trans hlen (by decide)))
  · have hie : i = ds.length := by omega
    rw [List.drop_of_length_le (by omega)] at hz
    cases hz
    rw [List.append_nil] at hx
    subst hx
    exact .inl ⟨by rw [hie]; exact s2, hQ F H R pe ⟨vs, hp1, dl⟩ hF1 ap⟩
theorem tv_nil : TVs W X [] mYes := ⟨fun pins s σ H Q I ⟨G, F, en, R, h⟩ => pts_nil.run pins s σ H Q I (h F H R (Ex.refl F))⟩
theorem tv_one (h : BV W EZ X c tt) : TVs W X [c] tt := pts_one h
/-- a comprehension's reading -/
theorem lc_read {vs : List Nat} {Q : VK} (hw : ∀ k ∈ ws, k ∈ own) (R : Rel W G en σ F H) (h : Out W E G σ (AE W G σ F Q) (eLc it own gm tt elt en)) : tLc (tI W E it) (tG W ws gm) (tT W EZ tt) (tE W EZ elt) own σ H Q := by
  have h' : Out W E G σ (AE W G σ F Q) ((it en).bind fun ir en1 => if ir.items.length ≤ 1000000 then (match ir.lock with
    | none => (match lcLoop none own gm tt elt ir.items (wipeE en1 own) with
      | some (xs, en') => .ok (.fr (.lst xs)) (restE en1 en' own)
      | none => .bad)
    | some j => (match en1[j]? with
      | some s => if s.own = true ∧ j ∉ own then (match lcLoop (some (j, s.lock)) own gm tt elt ir.items (wipeE (en1.set j s.lock) own) with
        | some (xs, en') => .ok (.fr (.lst xs)) ((restE (en1.set j s.lock) en' own).set j s)
        | none => .bad) else .bad
      | none => .bad)) else .bad) := h
  refine ⟨G, F, en, R, ?_⟩
  cases e : it en with
  | bad => rw [e] at h'; exact h'.elim
  | exc c fs s => rw [e] at h'; exact h'
  | ok ir en1 =>
    rw [e] at h'
    intro J F1 H1 R1 x1 src p hp
    have h2 := h'
    simp only [Fw.R.bind_ok] at h2
    by_cases hlen : ir.items.length ≤ 1000000
    · rw [if_pos hlen] at h2
      unfold SrcOk at src
      cases hl : ir.lock with
      | none =>
        simp only [hl] at src h2
        cases q : lcLoop none own gm tt elt ir.items (wipeE en1 own) with
        | none => simp only [q] at h2; exact h2.elim
        | some pr =>
          obtain ⟨xs, en'⟩ := pr
          simp only [q] at h2
          have RB := R1.rebase
          refine lc_run (G := G.base F1) (ck := none) (P := fun _ => True) src hw hlen (fun en F H R _ => R.ex0) (fun en α k x hk => ⟨hk, trivial⟩) (RB.wiped (σ := σ) rfl rfl) trivial hp q fun F' H' R' _ t hF' ap => ?_
          have Rr := (RB.rested R' R'.ex0)
          have Rg := R1.unbase Rr
          refine h2 (.ref p) F' H' Rg (x1.trans R'.ex0) ⟨p, rfl, t, hF', R1.new hp, fun j t' ej oj zj => ?_⟩
          rcases restE_cases ej with ⟨_, k2⟩ | ⟨k1, k2⟩
          · subst k2; rw [keepSh_own] at oj; cases oj
          · exact ap j t' k2 oj (by rw [wipe_get k1]; exact zj)
      | some j =>
        simp only [hl] at src h2
        obtain ⟨ad, s, ha, hs, ho, hd, src⟩ := src
        simp only [hs] at h2
        by_cases hj : s.own = true ∧ j ∉ own
        · rw [if_pos hj] at h2
          cases q : lcLoop (some (j, s.lock)) own gm tt elt ir.items (wipeE (en1.set j s.lock) own) with
          | none => simp only [q] at h2; exact h2.elim
          | some pr =>
            obtain ⟨xs, en'⟩ := pr
            simp only [q] at h2
            have RL := R1.locked hs ho ha
            have hjl : j < en1.length := lt_of_some hs
            have p0 : (wipeE (en1.set j s.lock) own)[j]? = some s.lock := by rw [wipeE_get hj.2]; exact List.getElem?_set_self hjl
            refine lc_run (G := G.lock F1 j ad) (ck := some (j, s.lock)) (P := fun en => en[j]? = some s.lock) src hw hlen (fun en2 F2 H2 R2 q => ?_) (fun en α k x hk => ?_) (RL.wiped (σ := σ) rfl rfl) p0 hp q fun F' H' R' pq t hF' ap => ?_
            · have hslot := R2.slot j _ q
              obtain ⟨b, d', k1, k2, k3, k4⟩ := hslot.own (by rw [Sl.lock_own]; exact ho)
              rw [Sl.lock_dat, hd] at k2; cases k2
              have : b = ad := by
                have pin : (G.lock F1 j ad).pin j = some b := by
                  cases s with
                  | un => exact absurd ho Bool.false_ne_true
                  | sh x => exact absurd ho Bool.false_ne_true
                  | ow x => obtain ⟨z, l1, l2, l3, l4⟩ := hslot; rw [k1] at l1; cases l1; exact l4
                  | lk x => obtain ⟨z, l1, l2, l3, l4⟩ := hslot; rw [k1] at l1; cases l1; exact l4
                  | pn m x =>
                    cases m with
                    | true => obtain ⟨z, l1, l2, l3, l4⟩ := hslot; rw [k1] at l1; cases l1; exact l4
                    | false => obtain ⟨z, l1, l2, l3, l4, l5⟩ := hslot; rw [k1] at l1; cases l1; exact l4
                have pin' : (if j = j then some ad else G.pin j) = some b := pin
                rw [if_pos rfl] at pin'; cases pin'; rfl
              subst this
              exact k3
            · unfold chkd at hk
              simp only at hk
              split at hk
              · rename_i hq; exact ⟨hk, hq⟩
              · cases hk
            · have Rr := (RL.rested R' R'.ex0)
              have pr : (restE (en1.set j s.lock) en' own)[j]? = some s.lock := by
                have hl' : j < (restE (en1.set j s.lock) en' own).length := by rw [restE_length]; exact lt_of_some pq
                rcases restE_cases (List.getElem?_eq_getElem hl') with ⟨k1, _⟩ | ⟨_, k2⟩
                · exact absurd k1 hj.2
                · rw [List.getElem?_eq_getElem hl', ← pq, k2]
              have Rg := R1.unlocked hs ho ha Rr pr
              refine h2 (.ref p) F' H' Rg (x1.trans R'.ex0) ⟨p, rfl, t, hF', R1.new hp, fun k t' ej oj zj => ?_⟩
              rcases set_get ej with ⟨e1, e2⟩ | ⟨hk, ej⟩
              · subst e1; subst e2
                exact R1.apart hp k t' hs ho zj
              · rcases restE_cases ej with ⟨_, k2⟩ | ⟨k1, k2⟩
                · subst k2; rw [keepSh_own] at oj; cases oj
                · exact ap k t' k2 oj (by rw [wipe_get k1]; exact zj)
        · rw [if_neg hj] at h2; exact h2.elim
    · rw [if_neg hlen] at h2; exact h2.elim
theorem ev_lc {elt0 iter : Expr} {ifs : List Expr} {scope : Scope} (ownp : List (Str × Nat)) (hc : X.calm = true) (hN : X.N.Nodup) (hi : IV W E X tg iter it) (ok : BlkOk X.N X.env.scope scope ownp)
    (hg : ∀ (s : Shared) (H : Hp) (C : Addr) (cl : List (Str × Addr)) (fp : List Addr), GV W (X.blk s H scope (compEnvC scope cl C X.env) fp) tg ws gm) (ht : ∀ (s : Shared) (H : Hp) (C : Addr) (cl : List (Str × Addr)) (fp : List Addr), TVs W (X.blk s H scope (compEnvC scope cl C X.env) fp) ifs tt)
    (he : ∀ (s : Shared) (H : Hp) (C : Addr) (cl : List (Str × Addr)) (fp : List Addr), EV W EZ (X.blk s H scope (compEnvC scope cl C X.env) fp) elt0 elt) (hw : ∀ k ∈ ws, k ∈ ownp.map (·.2) := by decide) (hs : ∀ x, foldedSetIterable iter X.env x = pure x := by intro _; rfl) :
    EV W E X (.ListComp elt0 [⟨tg, iter, ifs, 0⟩] scope pos) (eLc it (ownp.map (·.2)) gm tt elt) := by
  refine PE.imp (pe_lc hc hN hi ok hg ht he hs) fun σ H Q hq => ?_
  obtain ⟨G, F, en, R, h⟩ := tE.out.mp hq
  exact lc_read (vs := []) hw R h
/-- x = [..] -/
theorem sv_setLc (i : Nat) {y : Str} {py : Pos} {elt0 iter : Expr} {ifs : List Expr} {scope : Scope} {spos : Pos} (ownp : List (Str × Nat)) (hc : X.calm = true) (hN : X.N.Nodup) (hy : X.N[i]? = some y) (hyl : X.env.scope.names.lookup y = some .local)
    (hsw : swapsWith (.ListComp elt0 [⟨tg, iter, ifs, 0⟩] scope pos) (some (.Name y py)) spos.line X.env = pure true) (hi : IV W E X tg iter it) (ok : BlkOk X.N X.env.scope scope ownp)
    (hg : ∀ (s : Shared) (H : Hp) (C : Addr) (cl : List (Str × Addr)) (fp : List Addr), GV W (X.blk s H scope (compEnvC scope cl C X.env) fp) tg ws gm) (ht : ∀ (s : Shared) (H : Hp) (C : Addr) (cl : List (Str × Addr)) (fp : List Addr), TVs W (X.blk s H scope (compEnvC scope cl C X.env) fp) ifs tt)
    (he : ∀ (s : Shared) (H : Hp) (C : Addr) (cl : List (Str × Addr)) (fp : List Addr), EV W EZ (X.blk s H scope (compEnvC scope cl C X.env) fp) elt0 elt) (hw : ∀ k ∈ ws, k ∈ ownp.map (·.2) := by decide) (hs : ∀ x, foldedSetIterable iter X.env x = pure x := by intro _; rfl) :
    SV W E X (.Assign [.Name y py] (.ListComp elt0 [⟨tg, iter, ifs, 0⟩] scope pos) spos) (sSet i (eLc it (ownp.map (·.2)) gm tt elt)) := by
  refine PS.imp (ps_setLc hc hN hy hyl hsw hi ok hg ht he hs) fun D σ H hq => ?_
  obtain ⟨G, F, en, R, h⟩ := tS.out.mp hq
  refine lc_read (E := E) (G := G) (en := en) (F := F) (vs := []) hw R ?_
  unfold sSet at h
  cases e : eLc it (ownp.map (·.2)) gm tt elt en with
  | ok r en' => rw [e] at h; exact fun v F' H' R' x vr => put_ok R' vr h
  | exc c fs s => rw [e] at h; exact fun dd F' H' R' x => h dd σ F' H' R' x
  | bad => rw [e] at h; exact h
end
end Fw
set_option Elab.async false
set_option linter.all false
set_option maxRecDepth 100000
namespace Fw
open PySem PySem.Spec PyProof.Rows L2

/-! ### calls of defs -/
def passArg (io : Bool) (en : En) (r : ER) : Option Sl := match r with
  | .sh d => if io = true then none else some (.sh d)
  | .fr d => if io = true then none else some (.sh d)
  | .bo j => match en[j]? with
    | some (.sh d) => if io = true then none else some (.sh d)
    | some (.ow d) => some (.pn io d)
    | some (.pn m d) => if io = true then (if m = true then some (.pn true d) else none) else some (.pn false d)
    | some (.lk d) => if io = true then none else some (.pn false d)
    | _ => none
def passAll : List Bool → En → List ER → Option (List Sl)
  | _, _, [] => some []
  | [], en, r :: rs => match passArg false en r, passAll [] en rs with
    | some s, some ss => some (s :: ss)
    | _, _ => none
  | b :: io, en, r :: rs => match passArg b en r, passAll io en rs with
    | some s, some ss => some (s :: ss)
    | _, _ => none
def boSlots : List ER → List Nat
  | [] => []
  | .bo j :: rs => j :: boSlots rs
  | _ :: rs => boSlots rs
def ioSlots : List Bool → List ER → List Nat
  | true :: io, .bo j :: rs => j :: ioSlots io rs
  | _ :: io, _ :: rs => ioSlots io rs
  | _, _ => []
def ioOk : List Bool → List ER → Bool
  | b :: io, .bo j :: rs => (if b = true then !(boSlots rs).contains j else !(ioSlots io rs).contains j) && ioOk io rs
  | _ :: io, _ :: rs => ioOk io rs
  | _, _ => true
def putD (en : En) (j : Nat) (d : D) : En := match en[j]? with
  | some s => en.set j (s.with d)
  | none => en
def putOuts : List Nat → List D → En → En
  | j :: js, d :: ds, en => putOuts js ds (putD en j d)
  | _, _, en => en
/-- a def: its arguments as slots, its answer, the new contents of what it changes -/
abbrev FM := List Sl → R (List D) ER
def callM (io : List Bool) (m : FM) (dds : List D) (rs : List ER) : En → R En ER := fun en1 => match passAll io en1 rs with
  | some args => if ioOk io rs = true then (match m (args ++ dds.map .sh) with
    | .ok r outs => .ok r (putOuts (ioSlots io rs) outs en1)
    | .exc c fs outs => .exc c fs (putOuts (ioSlots io rs) outs en1)
    | .bad => .bad) else .bad
  | none => .bad
def eF (io : List Bool) (m : FM) (dds : List D) (fs : List (M ER)) : M ER := fun en => (eA fs en).bind (callM io m dds)
def outsOf : List Sl → En → Option (List D)
  | .pn true _ :: as, .pn true d :: en => match outsOf as en with
    | some ds => some (d :: ds)
    | none => none
  | .pn true _ :: _, _ => none
  | _ :: as, _ :: en => outsOf as en
  | [], _ => some []
  | _ :: _, [] => none
/-- a def by its body: n names -/
def mkF (n : Nat) (body : SM) : FM := fun args => match body (args ++ List.replicate (n - args.length) .un) with
  | .nx en => (match outsOf args en with | some outs => .ok (.sh .non) outs | none => .bad)
  | .rt r en => (match outsOf args en with | some outs => .ok r outs | none => .bad)
  | .exc c fs en => (match outsOf args en with | some outs => .exc c fs outs | none => .bad)
  | _ => .bad
/-- .. that raises nothing -/
def mkN (n : Nat) (body : SM) : FM := fun args => match mkF n body args with
  | .exc _ _ _ => .bad
  | r => r

def ArgOk (W : Wc) (F H : Hp) : Sl → V → Prop
  | .sh d, v => Dat W F v d
  | .pn _ d, v => ∃ a, v = .ref a ∧ Top W F H a d ∧ F a = none
  | _, _ => False
def wrOf : List Sl → List V → List Addr
  | .pn true _ :: ss, .ref a :: vs => a :: wrOf ss vs
  | _ :: ss, _ :: vs => wrOf ss vs
  | _, _ => []
structure FPost (F H : Hp) (wr : List Addr) (F' H' : Hp) : Prop where
  ex : Ex F F'
  sub : Ex F' H'
  fence : ∀ a o, H a = some o → F a = none → F' a = none
  keep : ∀ a o, H a = some o → a ∉ wr → H' a = some o
def OutsOk (W : Wc) (F' H' : Hp) : List Sl → List V → List D → Prop
  | .pn true _ :: as, v :: vs, d :: outs => (∃ a, v = .ref a ∧ Top W F' H' a d ∧ F' a = none) ∧ OutsOk W F' H' as vs outs
  | .pn true _ :: _, _, _ => False
  | _ :: as, _ :: vs, outs => OutsOk W F' H' as vs outs
  | [], _, [] => True
  | _, _, _ => False
def VRes (W : Wc) (H F' H' : Hp) : ER → V → Prop
  | .sh d, v => Dat W F' v d
  | .fr d, v => ∃ a, v = .ref a ∧ Top W F' H' a d ∧ F' a = none ∧ H a = none
  | .bo _, _ => False
structure ArgsOk (W : Wc) (F H : Hp) (args : List Sl) (vs : List V) : Prop where
  len : args.length = vs.length
  ok : ∀ (k : Nat) s v, args[k]? = some s → vs[k]? = some v → ArgOk W F H s v
  dist : ∀ (k l : Nat) s t a, k ≠ l → args[k]? = some s → args[l]? = some t → s.excl = true → t.own = true → vs[k]? = some (.ref a) → vs[l]? ≠ some (.ref a)
/-- THE PROMISE of a def whose meaning is m -/
def spM (W : Wc) (m : FM) : Sp := fun vs H Q E => ∃ F args, Ex F H ∧ ArgsOk W F H args vs ∧ match m args with
  | .ok r outs => ∀ v F' H', FPost F H (wrOf args vs) F' H' → OutsOk W F' H' args vs outs → VRes W H F' H' r v → Q v H'
  | .exc c fs outs => ∀ dd F' H', FPost F H (wrOf args vs) F' H' → OutsOk W F' H' args vs outs → XR W H F' H' dd fs → E (.ref (W.cls c)) (some dd) H'
  | .bad => False

section
variable {W : Wc} {E : St → XK} {X : Cx} {a b c : Expr} {es : List Expr} {fa fb fc : M ER} {fs : List (M ER)} {pos : Pos} {G : Gc} {en en' : En} {σ : St} {F H F' H' : Hp} {wr : List Addr} {io : List Bool} {rs : List ER} {args : List Sl} {vs : List V} {m : FM}

theorem mem_wrOf : ∀ {args : List Sl} {vs : List V} {x : Addr}, x ∈ wrOf args vs ↔ ∃ (k : Nat) (d : D), args[k]? = some (.pn true d) ∧ vs[k]? = some (.ref x)
  | [], vs, x => by simp [wrOf]
  | s :: ss, [], x => by
    cases s with
    | pn m d => cases m <;> simp [wrOf]
    | _ => simp [wrOf]
  | s :: ss, v :: vs, x => by
    have ih := @mem_wrOf ss vs x
    have go : x ∈ wrOf ss vs ↔ ∃ (k : Nat) (d : D), (s :: ss)[k + 1]? = some (.pn true d) ∧ (v :: vs)[k + 1]? = some (.ref x) := by simpa using ih
    have cases0 : (∃ (k : Nat) (d : D), (s :: ss)[k]? = some (.pn true d) ∧ (v :: vs)[k]? = some (.ref x)) ↔ ((∃ d, s = .pn true d) ∧ v = .ref x) ∨ x ∈ wrOf ss vs := by
      rw [go]
      constructor
      · rintro ⟨k, d, h1, h2⟩
        cases k with
        | zero => simp at h1 h2; exact .inl ⟨⟨d, h1⟩, h2⟩
        | succ k => exact .inr ⟨k, d, h1, h2⟩
      · rintro (⟨⟨d, h1⟩, h2⟩ | ⟨k, d, h1, h2⟩)
        · exact ⟨0, d, by simp [h1], by simp [h2]⟩
        · exact ⟨k + 1, d, h1, h2⟩
    rw [cases0]
    cases s with
    | pn m d =>
      cases m with
      | false => simp [wrOf]
      | true =>
        cases v with
        | ref y => simp [wrOf, eq_comm]
        | _ => simp [wrOf]
    | _ => simp [wrOf]
theorem putD_get {j k : Nat} {d : D} {s : Sl} (h : (putD en j d)[k]? = some s) : (k = j ∧ ∃ t, en[j]? = some t ∧ s = t.with d) ∨ (k ≠ j ∧ en[k]? = some s) := by
  unfold putD at h
  cases e : en[j]? with
  | none =>
    simp only [e] at h
    refine .inr ⟨fun z => (by subst z; rw [e] at h; cases h), h⟩
  | some t =>
    simp only [e] at h
    rcases set_get h with ⟨e1, e2⟩ | ⟨h1, h2⟩
    · exact .inl ⟨e1, t, rfl, e2⟩
    · exact .inr ⟨h1, h2⟩
theorem putD_length {j : Nat} {d : D} : (putD en j d).length = en.length := by
  unfold putD
  split
  · simp
  · rfl
theorem putOuts_length : ∀ {js : List Nat} {ds : List D} {en : En}, (putOuts js ds en).length = en.length
  | [], _, _ => by simp [putOuts]
  | _ :: _, [], _ => by simp [putOuts]
  | j :: js, d :: ds, en => by rw [putOuts, putOuts_length, putD_length]
theorem Sl.with_with {s : Sl} {d e : D} : (s.with d).with e = s.with e := by cases s <;> rfl
theorem putOuts_get : ∀ {js : List Nat} {ds : List D} {en : En} {k : Nat} {s : Sl}, js.length = ds.length → (putOuts js ds en)[k]? = some s → (∃ d t, (k, d) ∈ js.zip ds ∧ en[k]? = some t ∧ s = t.with d) ∨ (k ∉ js ∧ en[k]? = some s)
  | [], [], en, k, s, _, h => .inr ⟨by simp, h⟩
  | [], _ :: _, _, _, _, hl, _ => by simp at hl
  | _ :: _, [], _, _, _, hl, _ => by simp at hl
  | j :: js, d :: ds, en, k, s, hl, h => by
    rw [putOuts] at h
    rcases putOuts_get (by simpa using hl) h with ⟨d', t, h1, h2, h3⟩ | ⟨h1, h2⟩
    · rcases putD_get h2 with ⟨rfl, t', h4, h5⟩ | ⟨h4, h5⟩
      · exact .inl ⟨d', t', by simp [h1], h4, by rw [h3, h5, Sl.with_with]⟩
      · exact .inl ⟨d', t, by simp [h1], h5, h3⟩
    · rcases putD_get h2 with ⟨rfl, t', h4, h5⟩ | ⟨h4, h5⟩
      · exact .inl ⟨d, t', by simp, h4, h5⟩
      · exact .inr ⟨by simp [h1, h4], h5⟩
/-- behind a call -/
theorem Rel.called {js : List Nat} {ds : List D} (R : Rel W G en σ F H) (post : FPost F H wr F' H') (hl : js.length = ds.length)
    (hj : ∀ j d, (j, d) ∈ js.zip ds → ∃ x s, en[j]? = some s ∧ s.mu = true ∧ σ[j]? = some (some (.ref x)) ∧ Top W F' H' x d ∧ F' x = none) (hw : ∀ x, x ∈ wr → ∃ j s, j ∈ js ∧ en[j]? = some s ∧ s.mu = true ∧ σ[j]? = some (some (.ref x))) :
    Rel W G (putOuts js ds en) σ F' H' := by
  have track : ∀ x u, G.H0 x = some u → ∃ u', H x = some u' := fun x u e => by
    by_cases z : x ∈ G.wr
    · exact R.wrk x z
    · exact ⟨u, R.keep x u e z⟩
  have nwr : ∀ x u, G.H0 x = some u → x ∉ G.wr → x ∉ wr := fun x u e n z => by
    obtain ⟨j, s, _, e1, e2, e3⟩ := hw x z
    have h := R.slot j s e1
    cases s with
    | ow d => obtain ⟨y, k1, k2, k3, k4⟩ := h; rw [e3] at k1; cases k1; rw [k4] at e; cases e
    | pn m d =>
      obtain ⟨y, k1, k2, k3, k4, k5⟩ := h
      rw [e3] at k1; cases k1
      rcases k5 e2 with z | z
      · exact n z
      · rw [z] at e; cases e
    | _ => exact absurd e2 Bool.false_ne_true
  refine ⟨by rw [putOuts_length]; exact R.len, post.sub, R.ex0.trans post.ex, fun x u e n => ?_, fun x u e n => post.keep x u (R.keep x u e n) (nwr x u e n), fun x hx => ?_, fun i s q => ?_, fun i k s t x hik q1 q2 m o z1 z2 => ?_⟩
  · obtain ⟨u', hu⟩ := track x u e
    exact post.fence x u' hu (R.fen x u e n)
  · obtain ⟨u, hu⟩ := R.wrk x hx
    by_cases z : x ∈ wr
    · obtain ⟨j, s, h1, e1, e2, e3⟩ := hw x z
      obtain ⟨d, hd⟩ : ∃ d, (j, d) ∈ js.zip ds := by
        obtain ⟨n, hn, e⟩ := List.getElem_of_mem h1
        refine ⟨ds[n]'(hl ▸ hn), ?_⟩
        rw [← e, List.mem_iff_getElem]
        exact ⟨n, by simp [hl] at hn ⊢; omega, by simp⟩
      obtain ⟨y, s', _, _, k3, k4, _⟩ := hj j d hd
      rw [e3] at k3; cases k3
      exact k4.there
    · exact ⟨u, post.keep x u hu z⟩
  · rcases putOuts_get hl q with ⟨d, t, h1, h2, h3⟩ | ⟨h1, h2⟩
    · subst h3
      obtain ⟨x, s', k1, k2, k3, k4, k5⟩ := hj i d h1
      rw [h2] at k1; cases k1
      have h := R.slot i t h2
      cases t with
      | ow d' => obtain ⟨y, l1, l2, l3, l4⟩ := h; rw [k3] at l1; cases l1; exact ⟨x, k3, k4, k5, l4⟩
      | pn m d' => obtain ⟨y, l1, l2, l3, l4, l5⟩ := h; rw [k3] at l1; cases l1; exact ⟨x, k3, k4, k5, l4, l5⟩
      | _ => exact absurd k2 Bool.false_ne_true
    · refine (R.slot i s h2).mono post.ex fun x u hx fx sx ox => ?_
      have nx : x ∉ wr := fun z => by
        obtain ⟨j, t, e0, e1, e2, e3⟩ := hw x z
        exact R.dist j i t s x (fun y => h1 (y ▸ e0)) e1 h2 (Sl.mu_excl e2) ox e3 sx
      exact ⟨post.keep x u hx nx, post.fence x u hx fx⟩
  · have back : ∀ {n : Nat} {s : Sl}, (putOuts js ds en)[n]? = some s → ∃ t, en[n]? = some t ∧ t.excl = s.excl ∧ t.own = s.own := by
      intro n s q
      rcases putOuts_get hl q with ⟨d, t, h1, h2, h3⟩ | ⟨h1, h2⟩
      · exact ⟨t, h2, by rw [h3, Sl.with_excl], by rw [h3, Sl.with_own]⟩
      · exact ⟨s, h2, rfl, rfl⟩
    obtain ⟨s', a1, a2, a3⟩ := back q1
    obtain ⟨t', b1, b2, b3⟩ := back q2
    exact R.dist i k s' t' x hik a1 b1 (a2.trans m) (b3.trans o) z1 z2
theorem passAll_get : ∀ {io : List Bool} {rs : List ER} {args : List Sl}, passAll io en rs = some args → args.length = rs.length ∧ ∀ (k : Nat) s, args[k]? = some s → ∃ r, rs[k]? = some r ∧ passArg (io.getD k false) en r = some s
  | _, [], args, h => by
    have h' : some [] = some args := by cases args <;> (revert h; unfold passAll; exact id)
    cases h'
    exact ⟨rfl, fun k s e => by simp at e⟩
  | [], r :: rs, args, h => by
    unfold passAll at h
    cases e1 : passArg false en r with
    | none => simp only [e1] at h; cases h
    | some s =>
      cases e2 : passAll [] en rs with
      | none => simp only [e1, e2] at h; cases h
      | some ss =>
        simp only [e1, e2] at h
        cases h
        obtain ⟨l, g⟩ := passAll_get e2
        refine ⟨by simp [l], fun k t q => ?_⟩
        cases k with
        | zero => simp at q; subst q; exact ⟨r, rfl, e1⟩
        | succ k =>
          obtain ⟨r', g1, g2⟩ := g k t (by simpa using q)
          exact ⟨r', by simpa using g1, by simpa using g2⟩
  | b :: io, r :: rs, args, h => by
    unfold passAll at h
    cases e1 : passArg b en r with
    | none => simp only [e1] at h; cases h
    | some s =>
      cases e2 : passAll io en rs with
      | none => simp only [e1, e2] at h; cases h
      | some ss =>
        simp only [e1, e2] at h
        cases h
        obtain ⟨l, g⟩ := passAll_get e2
        refine ⟨by simp [l], fun k t q => ?_⟩
        cases k with
        | zero => simp at q; subst q; exact ⟨r, rfl, e1⟩
        | succ k =>
          obtain ⟨r', g1, g2⟩ := g k t (by simpa using q)
          exact ⟨r', by simpa using g1, by simpa using g2⟩
theorem mem_boSlots : ∀ {rs : List ER} {j : Nat}, j ∈ boSlots rs ↔ ∃ k : Nat, rs[k]? = some (.bo j)
  | [], j => by simp [boSlots]
  | r :: rs, j => by
    have ih := @mem_boSlots rs j
    have go : (∃ k : Nat, (r :: rs)[k]? = some (.bo j)) ↔ r = .bo j ∨ j ∈ boSlots rs := by
      rw [ih]
      constructor
      · rintro ⟨k, h⟩
        cases k with
        | zero => simp at h; exact .inl h
        | succ k => exact .inr ⟨k, by simpa using h⟩
      · rintro (h | ⟨k, h⟩)
        · exact ⟨0, by simp [h]⟩
        · exact ⟨k + 1, by simpa using h⟩
    rw [go]
    cases r <;> simp [boSlots, eq_comm]
theorem mem_ioSlots : ∀ {io : List Bool} {rs : List ER} {j : Nat}, j ∈ ioSlots io rs ↔ ∃ k : Nat, io.getD k false = true ∧ rs[k]? = some (.bo j)
  | [], rs, j => by simp [ioSlots]
  | b :: io, [], j => by cases b <;> simp [ioSlots]
  | b :: io, r :: rs, j => by
    have ih := @mem_ioSlots io rs j
    have go : (∃ k : Nat, (b :: io).getD k false = true ∧ (r :: rs)[k]? = some (.bo j)) ↔ (b = true ∧ r = .bo j) ∨ j ∈ ioSlots io rs := by
      rw [ih]
      constructor
      · rintro ⟨k, h1, h2⟩
        cases k with
        | zero => simp at h1 h2; exact .inl ⟨h1, h2⟩
        | succ k => exact .inr ⟨k, by simpa using h1, by simpa using h2⟩
      · rintro (⟨h1, h2⟩ | ⟨k, h1, h2⟩)
        · exact ⟨0, by simp [h1], by simp [h2]⟩
        · exact ⟨k + 1, by simpa using h1, by simpa using h2⟩
    rw [go]
    cases b <;> cases r <;> simp [ioSlots, eq_comm]
theorem ioOk_ne : ∀ {io : List Bool} {rs : List ER}, ioOk io rs = true → ∀ (k l j : Nat), k ≠ l → io.getD k false = true → rs[k]? = some (.bo j) → rs[l]? ≠ some (.bo j)
  | [], rs, _, k, l, j, _, h, _ => by simp at h
  | b :: io, [], _, k, l, j, _, _, h => by simp at h
  | b :: io, r :: rs, ok, k, l, j, hkl, h1, h2 => by
    have tl : ioOk io rs = true := by
      cases r with
      | bo i => unfold ioOk at ok; rw [Bool.and_eq_true] at ok; exact ok.2
      | sh d => cases b <;> exact ok
      | fr d => cases b <;> exact ok
    cases k with
    | zero =>
      simp at h1 h2
      subst h2; subst h1
      unfold ioOk at ok
      rw [Bool.and_eq_true, if_pos rfl] at ok
      cases l with
      | zero => exact absurd rfl hkl
      | succ l =>
        intro z
        have : j ∈ boSlots rs := mem_boSlots.mpr ⟨l, by simpa using z⟩
        simp [this] at ok
    | succ k =>
      have h1' : io.getD k false = true := by simpa using h1
      have h2' : rs[k]? = some (.bo j) := by simpa using h2
      cases l with
      | zero =>
        intro z
        simp at z
        subst z
        have : j ∈ ioSlots io rs := mem_ioSlots.mpr ⟨k, h1', h2'⟩
        have : j ∈ boSlots rs := mem_boSlots.mpr ⟨k, h2'⟩
        unfold ioOk at ok
        rw [Bool.and_eq_true] at ok
        cases b <;> simp_all
      | succ l =>
        intro z
        exact ioOk_ne tl k l j (by omega) h1' h2' (by simpa using z)
/-- the arguments as the callee has them -/
theorem pass_ok {r : ER} {v : V} {s : Sl} {i : Bool} (R : Rel W G en σ F H) (hw : VW W σ F r v) (e : passArg i en r = some s) : ArgOk W F H s v ∧ (s.own = true → ∃ j t, r = .bo j ∧ en[j]? = some t ∧ t.own = true ∧ (s.excl = true → t.mu = true ∧ i = true)) ∧ (i = true → ∃ d, s = .pn true d) := by
  unfold passArg at e
  cases r with
  | sh d =>
    simp only at e
    split at e
    · cases e
    · rename_i hi; cases e; exact ⟨hw, fun z => absurd z Bool.false_ne_true, fun z => absurd z hi⟩
  | fr d =>
    simp only at e
    split at e
    · cases e
    · rename_i hi; cases e; exact ⟨hw, fun z => absurd z Bool.false_ne_true, fun z => absurd z hi⟩
  | bo j =>
    have hv : σ[j]? = some (some v) := hw
    simp only at e
    cases q : en[j]? with
    | none => simp only [q] at e; cases e
    | some t =>
      have h := R.slot j t q
      cases t with
      | un => simp only [q] at e; cases e
      | sh d =>
        simp only [q] at e
        split at e
        · cases e
        · rename_i hi
          cases e
          obtain ⟨v', k1, k2⟩ := h
          rw [hv] at k1; cases k1
          exact ⟨k2, fun z => absurd z Bool.false_ne_true, fun z => absurd z hi⟩
      | ow d =>
        simp only [q] at e
        cases e
        obtain ⟨x, k1, k2, k3, k4⟩ := h
        rw [hv] at k1; cases k1
        exact ⟨⟨x, rfl, k2, k3⟩, fun _ => ⟨j, _, rfl, q, rfl, fun z => ⟨rfl, z⟩⟩, fun z => ⟨d, by rw [z]⟩⟩
      | lk d =>
        simp only [q] at e
        split at e
        · cases e
        · rename_i hi
          cases e
          obtain ⟨x, k1, k2, k3, k4⟩ := h
          rw [hv] at k1; cases k1
          exact ⟨⟨x, rfl, k2, k3⟩, fun _ => ⟨j, _, rfl, q, rfl, fun z => absurd z Bool.false_ne_true⟩, fun z => absurd z hi⟩
      | pn m' d =>
        simp only [q] at e
        obtain ⟨x, k1, k2, k3, k4⟩ := h
        rw [hv] at k1; cases k1
        split at e
        · rename_i hi
          split at e
          · rename_i hm
            cases e
            exact ⟨⟨x, rfl, k2, k3⟩, fun _ => ⟨j, _, rfl, q, rfl, fun _ => ⟨hm, hi⟩⟩, fun _ => ⟨d, rfl⟩⟩
          · cases e
        · rename_i hi
          cases e
          exact ⟨⟨x, rfl, k2, k3⟩, fun _ => ⟨j, _, rfl, q, rfl, fun z => absurd z Bool.false_ne_true⟩, fun z => absurd z hi⟩
theorem VWs.get : ∀ {rs : List ER} {vs : List V} {k : Nat} {r : ER} {v : V}, VWs W σ F rs vs → rs[k]? = some r → vs[k]? = some v → VW W σ F r v
  | [], [], k, r, v, _, h, _ => by simp at h
  | r :: rs, v :: vs, 0, r', v', h, e1, e2 => by simp at e1 e2; subst e1; subst e2; exact h.1
  | r :: rs, v :: vs, k + 1, r', v', h, e1, e2 => VWs.get h.2 (by simpa using e1) (by simpa using e2)
  | [], _ :: _, _, _, _, h, _, _ => h.elim
  | _ :: _, [], _, _, _, h, _, _ => h.elim
theorem OutsOk.len : ∀ {as : List Sl} {vs : List V} {outs : List D} {io : List Bool} {rs : List ER}, OutsOk W F' H' as vs outs → as.length = rs.length → (∀ (k : Nat) s, as[k]? = some s → ∃ r, rs[k]? = some r ∧ passArg (io.getD k false) en r = some s) → (∀ (k : Nat) d, as[k]? = some (.pn true d) ↔ ∃ j, io.getD k false = true ∧ rs[k]? = some (.bo j) ∧ as[k]? = some (.pn true d)) →
    (ioSlots io rs).length = outs.length ∧ ∀ j d, (j, d) ∈ (ioSlots io rs).zip outs → ∃ (k : Nat) (x : Addr) (d' : D), rs[k]? = some (.bo j) ∧ io.getD k false = true ∧ as[k]? = some (.pn true d') ∧ vs[k]? = some (.ref x) ∧ Top W F' H' x d ∧ F' x = none := by
  intro as
  induction as with
  | nil =>
    intro vs outs io rs h hl hg hi
    cases rs with
    | nil =>
      cases outs with
      | nil =>
        refine ⟨?_, fun j d hm => ?_⟩
        · cases io with
          | nil => simp [ioSlots]
          | cons b io => cases b <;> simp [ioSlots]
        · simp at hm
      | cons d ds => cases vs <;> exact h.elim
    | cons r rs => simp at hl
  | cons s as ih =>
    intro vs outs io rs h hl hg hi
    cases rs with
    | nil => simp at hl
    | cons r rs =>
      have hg' : ∀ (k : Nat) t, as[k]? = some t → ∃ r, rs[k]? = some r ∧ passArg (io.tail.getD k false) en r = some t := fun k t e => by
        obtain ⟨r', q1, q2⟩ := hg (k + 1) t (by simpa using e)
        refine ⟨r', by simpa using q1, ?_⟩
        cases io with
        | nil => simpa using q2
        | cons b io => simpa using q2
      have hi' : ∀ (k : Nat) d, as[k]? = some (.pn true d) ↔ ∃ j, io.tail.getD k false = true ∧ rs[k]? = some (.bo j) ∧ as[k]? = some (.pn true d) := fun k d => by
        have := hi (k + 1) d
        cases io with
        | nil => simpa using this
        | cons b io => simpa using this
      have sp : ∀ {vs' : List V} {outs' : List D}, OutsOk W F' H' as vs' outs' → (ioSlots io.tail rs).length = outs'.length ∧ ∀ j d, (j, d) ∈ (ioSlots io.tail rs).zip outs' → ∃ (k : Nat) (x : Addr) (d' : D), rs[k]? = some (.bo j) ∧ io.tail.getD k false = true ∧ as[k]? = some (.pn true d') ∧ vs'[k]? = some (.ref x) ∧ Top W F' H' x d ∧ F' x = none :=
        fun h' => ih h' (by simpa using hl) hg' hi'
      by_cases hs : ∃ d0, s = .pn true d0
      · obtain ⟨d0, rfl⟩ := hs
        obtain ⟨j, hb, hr, _⟩ := (hi 0 d0).mp (by simp)
        simp at hr
        subst hr
        cases io with
        | nil => simp at hb
        | cons b io =>
          simp at hb
          subst hb
          cases vs with
          | nil => cases outs <;> exact h.elim
          | cons v vs =>
            cases outs with
            | nil => exact h.elim
            | cons d outs =>
              obtain ⟨⟨x, rfl, t1, t2⟩, h'⟩ := h
              obtain ⟨l, g⟩ := sp h'
              refine ⟨by simpa [ioSlots] using l, fun j' d' hm => ?_⟩
              have hm' : (j', d') = (j, d) ∨ (j', d') ∈ (ioSlots io rs).zip outs := by simpa [ioSlots] using hm
              rcases hm' with e | hm'
              · cases e
                exact ⟨0, x, d0, by simp, by simp, by simp, by simp, t1, t2⟩
              · obtain ⟨k, y, d', q1, q2, q3, q4, q5⟩ := g j' d' hm'
                exact ⟨k + 1, y, d', by simpa using q1, by simpa using q2, by simpa using q3, by simpa using q4, q5⟩
      · have hio : ioSlots io (r :: rs) = ioSlots io.tail rs := by
          cases io with
          | nil => cases rs <;> simp [ioSlots]
          | cons b io =>
            cases b with
            | false => cases r <;> rfl
            | true =>
              exfalso
              obtain ⟨r', q1, q2⟩ := hg 0 s (by simp)
              simp at q1
              subst q1
              have q2' : passArg true en r = some s := by simpa using q2
              apply hs
              revert q2'
              unfold passArg
              cases r with
              | sh d => simp
              | fr d => simp
              | bo j =>
                simp only
                cases en[j]? with
                | none => simp
                | some t =>
                  cases t with
                  | un => simp
                  | sh d => simp
                  | ow d => intro z; cases z; exact ⟨d, rfl⟩
                  | lk d => simp
                  | pn m d =>
                    simp only [if_true]
                    split
                    · intro z; cases z; exact ⟨d, rfl⟩
                    · simp
        cases vs with
        | nil =>
          exfalso
          cases s with
          | pn m d => cases m with
            | true => exact hs ⟨d, rfl⟩
            | false => cases outs <;> exact h.elim
          | _ => cases outs <;> exact h.elim
        | cons v vs =>
          have h' : OutsOk W F' H' as vs outs := by
            cases s with
            | pn m d => cases m with
              | true => exact absurd ⟨d, rfl⟩ hs
              | false => exact h
            | _ => exact h
          obtain ⟨l, g⟩ := sp h'
          rw [hio]
          refine ⟨l, fun j' d' hm => ?_⟩
          obtain ⟨k, y, d', q1, q2, q3, q4, q5⟩ := g j' d' hm
          refine ⟨k + 1, y, d', by simpa using q1, ?_, by simpa using q3, by simpa using q4, q5⟩
          cases io with
          | nil => simpa using q2
          | cons b io => simpa using q2
end
end Fw
set_option Elab.async false
set_option linter.all false
set_option maxRecDepth 100000
namespace Fw
open PySem PySem.Spec PyProof.Rows L2

section
variable {W : Wc} {E : St → XK} {X : Cx} {a b c : Expr} {es : List Expr} {fa fb fc : M ER} {fs : List (M ER)} {pos : Pos} {G : Gc} {en en' : En} {σ : St} {F H F' H' : Hp} {wr : List Addr} {io : List Bool} {rs : List ER} {args : List Sl} {vs : List V} {m : FM}

theorem getElem?_append_cases {α : Type} {l l' : List α} {k : Nat} {x : α} (h : (l ++ l')[k]? = some x) : (k < l.length ∧ l[k]? = some x) ∨ (l.length ≤ k ∧ l'[k - l.length]? = some x) := by
  by_cases hk : k < l.length
  · rw [List.getElem?_append_left hk] at h; exact .inl ⟨hk, h⟩
  · rw [List.getElem?_append_right (by omega)] at h; exact .inr ⟨by omega, h⟩
theorem wrOf_app : ∀ {args : List Sl} {vs : List V} {dds : List D} {dvs : List V}, args.length = vs.length → wrOf (args ++ dds.map .sh) (vs ++ dvs) = wrOf args vs
  | [], [], dds, dvs, _ => by
    have : ∀ (dds : List D) (dvs : List V), wrOf (dds.map .sh) dvs = [] := by
      intro dds
      induction dds with
      | nil => intro dvs; simp [wrOf]
      | cons d dds ih =>
        intro dvs
        cases dvs with
        | nil => simp [wrOf]
        | cons v dvs => simpa [wrOf] using ih dvs
    simpa [wrOf] using this dds dvs
  | [], _ :: _, _, _, h => by simp at h
  | _ :: _, [], _, _, h => by simp at h
  | s :: ss, v :: vs, dds, dvs, h => by
    have ih := wrOf_app (args := ss) (vs := vs) (dds := dds) (dvs := dvs) (by simpa using h)
    cases s with
    | pn m d =>
      cases m with
      | false => simpa [wrOf] using ih
      | true => cases v <;> simp [wrOf, ih]
    | _ => simpa [wrOf] using ih
theorem OutsOk_app : ∀ {args : List Sl} {vs : List V} {dds : List D} {dvs : List V} {outs : List D}, args.length = vs.length → OutsOk W F' H' (args ++ dds.map .sh) (vs ++ dvs) outs → OutsOk W F' H' args vs outs
  | [], [], dds, dvs, outs, _, h => by
    have : ∀ (dds : List D) (dvs : List V) (outs : List D), OutsOk W F' H' (dds.map .sh) dvs outs → outs = [] := by
      intro dds
      induction dds with
      | nil => intro dvs outs h; cases outs with
        | nil => rfl
        | cons d ds => exact h.elim
      | cons d dds ih =>
        intro dvs outs h
        cases dvs with
        | nil => exact h.elim
        | cons v dvs => exact ih dvs outs h
    rw [this dds dvs outs h]
    exact trivial
  | [], _ :: _, _, _, _, h, _ => by simp at h
  | _ :: _, [], _, _, _, h, _ => by simp at h
  | s :: ss, v :: vs, dds, dvs, outs, h, o => by
    have h' : ss.length = vs.length := by simpa using h
    cases s with
    | pn m d =>
      cases m with
      | false => exact OutsOk_app (args := ss) h' o
      | true =>
        cases outs with
        | nil => exact o.elim
        | cons d ds => exact ⟨o.1, OutsOk_app (args := ss) h' o.2⟩
    | _ => exact OutsOk_app (args := ss) h' o
/-- a call runs: what the caller asks of callM is what the callee's promise asks -/
theorem call_run {dds : List D} {dvs : List V} {Q : VK} (R : Rel W G en σ F H) (hw : VWs W σ F rs vs) (hd : ∀ F, DL W F dvs dds) (x0 : Hp) (xx : Ex x0 F) (h : Out W E G σ (AE W G σ x0 Q) (callM io m dds rs en)) : spM W m (vs ++ dvs) H Q (E σ) := by
  unfold callM at h
  cases e : passAll io en rs with
  | none => simp only [e] at h; exact h.elim
  | some args =>
    simp only [e] at h
    by_cases ok : ioOk io rs = true
    · rw [if_pos ok] at h
      obtain ⟨la, ga⟩ := passAll_get e
      have lv : args.length = vs.length := la.trans hw.length
      have lvs : (args ++ dds.map Sl.sh).length = (vs ++ dvs).length := by simp [lv, (hd F).1]
      have inf : ∀ (k : Nat) s v, args[k]? = some s → vs[k]? = some v → ∃ r, rs[k]? = some r ∧ VW W σ F r v ∧ ArgOk W F H s v ∧ (s.own = true → ∃ j t, r = .bo j ∧ en[j]? = some t ∧ t.own = true ∧ (s.excl = true → t.mu = true ∧ io.getD k false = true)) ∧ (io.getD k false = true → ∃ d, s = .pn true d) := by
        intro k s v e1 e2
        obtain ⟨r, h1, h2⟩ := ga k s e1
        have vw := VWs.get hw h1 e2
        exact ⟨r, h1, vw, pass_ok R vw h2⟩
      have aok : ArgsOk W F H (args ++ dds.map Sl.sh) (vs ++ dvs) := by
        refine ⟨lvs, fun k s v e1 e2 => ?_, fun k l s t x hkl e1 e2 ex ow z1 z2 => ?_⟩
        · rcases getElem?_append_cases e1 with ⟨hk, e1⟩ | ⟨hk, e1⟩
          · rw [List.getElem?_append_left (by omega)] at e2
            obtain ⟨r, _, _, q, _⟩ := inf k s v e1 e2
            exact q
          · rw [List.getElem?_append_right (by omega)] at e2
            rw [List.getElem?_map] at e1
            cases q : dds[k - args.length]? with
            | none => rw [q] at e1; cases e1
            | some d =>
              rw [q] at e1; cases e1
              rw [← lv] at e2
              exact (hd F).2 _ _ _ e2 q
        · rcases getElem?_append_cases e1 with ⟨hk, e1⟩ | ⟨hk, e1⟩
          · rcases getElem?_append_cases e2 with ⟨hl, e2⟩ | ⟨hl, e2⟩
            · rw [List.getElem?_append_left (by omega)] at z1 z2
              obtain ⟨r1, p1, w1, _, o1, i1⟩ := inf k s _ e1 z1
              obtain ⟨r2, p2, w2, _, o2, i2⟩ := inf l t _ e2 z2
              obtain ⟨j1, t1, rfl, q1, q2, q3⟩ := o1 (Sl.excl_own ex)
              obtain ⟨j2, t2, rfl, q4, q5, q6⟩ := o2 ow
              obtain ⟨mu1, ib⟩ := q3 ex
              have w1' : σ[j1]? = some (some (.ref x)) := w1
              have w2' : σ[j2]? = some (some (.ref x)) := w2
              by_cases hj : j1 = j2
              · subst hj
                exact ioOk_ne ok k l j1 hkl ib p1 p2
              · exact R.dist j1 j2 t1 t2 x hj q1 q4 (Sl.mu_excl mu1) q5 w1' w2'
            · rw [List.getElem?_map] at e2
              cases q : dds[l - args.length]? with
              | none => rw [q] at e2; cases e2
              | some d => rw [q] at e2; cases e2; exact absurd ow Bool.false_ne_true
          · rw [List.getElem?_map] at e1
            cases q : dds[k - args.length]? with
            | none => rw [q] at e1; cases e1
            | some d => rw [q] at e1; cases e1; exact absurd ex Bool.false_ne_true
      -- the two ways out
      have back : ∀ {outs : List D} {F' H' : Hp}, FPost F H (wrOf (args ++ dds.map Sl.sh) (vs ++ dvs)) F' H' → OutsOk W F' H' (args ++ dds.map Sl.sh) (vs ++ dvs) outs → Rel W G (putOuts (ioSlots io rs) outs en) σ F' H' := by
        intro outs F' H' post oo
        rw [wrOf_app lv] at post
        have oo' := OutsOk_app lv oo
        obtain ⟨l, g⟩ := OutsOk.len (io := io) (rs := rs) oo' la ga (fun k d => by
          constructor
          · intro e1
            obtain ⟨v, e2⟩ : ∃ v, vs[k]? = some v := by
              have : k < vs.length := by rw [← lv]; exact lt_of_some e1
              exact ⟨vs[k], List.getElem?_eq_getElem this⟩
            obtain ⟨r, p1, _, _, o1, _⟩ := inf k _ v e1 e2
            obtain ⟨j, t, rfl, _, _, q3⟩ := o1 rfl
            exact ⟨j, (q3 rfl).2, p1, e1⟩
          · rintro ⟨_, _, _, h⟩; exact h)
        refine R.called post l (fun j d hm => ?_) (fun x hx => ?_)
        · obtain ⟨k, x, d', p1, ib, e1, e2, t1, t2⟩ := g j d hm
          obtain ⟨r, p1', w1, _, o1, _⟩ := inf k _ _ e1 e2
          rw [p1] at p1'; cases p1'
          obtain ⟨j', t, z, q1, q2, q3⟩ := o1 rfl
          cases z
          exact ⟨x, t, q1, (q3 rfl).1, w1, t1, t2⟩
        · obtain ⟨k, d, e1, e2⟩ := mem_wrOf.mp hx
          obtain ⟨r, p1, w1, _, o1, _⟩ := inf k _ _ e1 e2
          obtain ⟨j, t, rfl, q1, q2, q3⟩ := o1 rfl
          exact ⟨j, t, mem_ioSlots.mpr ⟨k, (q3 rfl).2, p1⟩, q1, (q3 rfl).1, w1⟩
      refine ⟨F, _, R.sub, aok, ?_⟩
      cases em : m (args ++ dds.map Sl.sh) with
      | bad => simp only [em] at h; exact h
      | exc c fs outs =>
        simp only [em] at h
        exact fun dd F' H' post oo xr => h dd F' H' (back post oo) (by obtain ⟨fs', x1, x2, x3⟩ := xr; exact ⟨fs', x1, x2, R.new x3⟩)
      | ok r outs =>
        simp only [em] at h
        intro v F' H' post oo vr
        have R' := back post oo
        refine h v F' H' R' (xx.trans post.ex) ?_
        cases r with
        | sh d => exact vr
        | bo j => exact vr.elim
        | fr d =>
          obtain ⟨x, rfl, t, f, n⟩ := vr
          refine ⟨x, rfl, t, f, R.new n, fun j s ej oj zj => ?_⟩
          have hz : ∃ s', en[j]? = some s' ∧ s'.own = true := by
            have lo : (ioSlots io rs).length = outs.length ∨ True := .inr trivial
            -- kinds do not change
            have key : ∀ (js : List Nat) (ds : List D) (en : En) {s : Sl}, (putOuts js ds en)[j]? = some s → ∃ s', en[j]? = some s' ∧ s'.own = s.own := by
              intro js
              induction js with
              | nil => intro ds en s h; exact ⟨s, by simpa [putOuts] using h, rfl⟩
              | cons i js ih =>
                intro ds en s h
                cases ds with
                | nil => exact ⟨s, by simpa [putOuts] using h, rfl⟩
                | cons d ds =>
                  rw [putOuts] at h
                  obtain ⟨s', h1, h2⟩ := ih ds _ h
                  rcases putD_get h1 with ⟨rfl, t', h4, h5⟩ | ⟨h4, h5⟩
                  · exact ⟨t', h4, by rw [← h2, h5, Sl.with_own]⟩
                  · exact ⟨s', h5, h2⟩
            obtain ⟨s', h1, h2⟩ := key _ _ _ ej
            exact ⟨s', h1, h2.trans oj⟩
          obtain ⟨s', h1, h2⟩ := hz
          exact R.apart n j s' h1 h2 zj
    · rw [if_neg ok] at h; exact h.elim

theorem pe_call0SD {CX : CXT} {k : Nat} {f : Addr} {fd : FuncData} {ps : List Str} {sp : Sp} {dvs : List V} {ds : List Value} {E : St → XK} {x : Str} {p pos : Pos} (F : FnOk X.prog X.w X.K X.mg X.base CX k f fd ps sp) (hr : Room k X.A) (hg : Gl X x) (hm : X.mg x = some (.ref f)) (hk : PySem.W.keepIn X.K (.ref f) = true) (hb : Binds X.K fd ps ds) (hd : Vals dvs ds) (hx : ∀ σ, PassesAt CX X σ (E σ))
    (hdb : (x == ("__debug__" : Str)) = false := by decide) : PE X (.Call (.Name x p) [] [] pos) (fun σ H Q => sp dvs H Q (E σ)) := by
  refine ⟨fun pins s σ H Q I h => ?_⟩
  refine wpAny_Call_Name_kw (ld_glob I hg hm ?_ hdb)
  exact PySem.W.callWith_K0 I.kIn hk (run_fnSD (us := []) F hr hb hd (hx σ) I .nil h)
/-- a def as the module has it: at f, by name x -/
structure Fd (P : Program) (w : World) (K : PySem.W.Frag) (mg : Str → Option Value) (base : Heap) (x : Str) (ps : List Str) (k : Nat) (sp : Sp) (f : Addr) (fd : FuncData) : Prop where
  at_ : mg x = some (.ref f)
  ok : FnOk P w K mg base (L2.CX P w) k f fd ps sp
  kp : PySem.W.keepIn K (.ref f) = true
/-- what is raised passes on as E says -/
abbrev Pass (X : Cx) (E : St → XK) : Prop := ∀ σ, PassesAt (L2.CX X.prog X.w) X σ (E σ)
theorem passZ {X : Cx} : Pass X EZ := fun σ pins H s e s' I c => passL pins σ H s e s' I c
theorem passT {X : Cx} {E : St → XK} (tk : Takes X (fun c d σ H => E σ c d H)) : Pass X E := fun σ => passAt tk σ
variable {k : Nat} {f : Addr} {fd : FuncData} {ps : List Str} {x : Str} {p : Pos} {dvs : List V} {dds : List D} {ds : List Value}
theorem ev_call (io : List Bool) (D : Fd X.prog X.w X.K X.mg X.base x ps k (spM W m) f fd) (hr : Room k X.A) (hb : Binds X.K fd ps ds) (hd : Vals dvs ds) (hdd : ∀ F, DL W F dvs dds) (hx : Pass X E) (ha : AV W E X (a :: es) (eA fs)) (hg : Gl X x := by rfl)
    (hdb : (x == ("__debug__" : Str)) = false := by decide) (he : starEach (a :: es) X.env = (false, eval a X.env) :: starEach es X.env := by rfl) (hpl : (backTo pos (starEach es X.env)).any (·.1) = false := by rfl) : EV W E X (.Call (.Name x p) (a :: es) [] pos) (eF io m dds fs) := by
  refine PE.imp (pe_callSD D.ok hr hg D.at_ D.kp hb hd hx ha hdb he hpl) fun σ H Q hq => ?_
  obtain ⟨G, F, en, R, h⟩ := tE.out.mp hq
  refine av_then R h fun rs en1 vs F1 H1 h1 R1 x1 hw => ?_
  exact call_run R1 hw hdd F x1 h1
theorem ev_call0 (D : Fd X.prog X.w X.K X.mg X.base x ps k (spM W m) f fd) (hr : Room k X.A) (hb : Binds X.K fd ps ds) (hd : Vals dvs ds) (hdd : ∀ F, DL W F dvs dds) (hx : Pass X E) (hg : Gl X x := by rfl)
    (hdb : (x == ("__debug__" : Str)) = false := by decide) : EV W E X (.Call (.Name x p) [] [] pos) (eF [] m dds []) := by
  refine PE.imp (pe_call0SD D.ok hr hg D.at_ D.kp hb hd hx hdb) fun σ H Q hq => ?_
  obtain ⟨G, F, en, R, h⟩ := tE.out.mp hq
  exact call_run (io := []) (rs := []) (vs := []) R trivial hdd F (Ex.refl F) h

/-- the entry of a body -/
theorem entry_ok {N : List Str} (hs : Ex F H) (ha : ArgsOk W F H args vs) (hn : vs.length ≤ N.length) :
    Rel W ⟨F, H, wrOf args vs, fun i => match args[i]?, vs[i]? with
      | some (.pn _ _), some (.ref a) => some a
      | _, _ => none⟩ (args ++ List.replicate (N.length - args.length) .un) (L2.start N vs) F H := by
  have hl := ha.len
  have gs : ∀ (k : Nat) v, vs[k]? = some v → (L2.start N vs)[k]? = some (some v) := fun k v e => by
    have hk := lt_of_some e
    unfold L2.start
    rw [List.getElem?_append_left (by simpa using hk), List.getElem?_map, e]; rfl
  have ge : ∀ (k : Nat) s, (args ++ List.replicate (N.length - args.length) Sl.un)[k]? = some s → (args[k]? = some s ∧ ∃ v, vs[k]? = some v) ∨ s = .un := fun k s e => by
    rcases getElem?_append_cases e with ⟨hk, e⟩ | ⟨hk, e⟩
    · have : k < vs.length := by omega
      exact .inl ⟨e, vs[k], List.getElem?_eq_getElem this⟩
    · rw [List.getElem?_replicate] at e
      split at e
      · cases e; exact .inr rfl
      · cases e
  refine ⟨by simp [L2.start, hl], hs, Ex.refl F, fun _ _ _ h => h, fun _ _ h _ => h, fun x hx => ?_, fun i s e => ?_, fun i j s t x hij e1 e2 m o z1 z2 => ?_⟩
  · obtain ⟨k, d, e1, e2⟩ := mem_wrOf.mp hx
    obtain ⟨y, z, t, _⟩ := ha.ok k _ _ e1 e2
    cases z
    exact t.there
  · rcases ge i s e with ⟨e1, v, e2⟩ | rfl
    · have h := ha.ok i s v e1 e2
      cases s with
      | un => trivial
      | sh d => exact ⟨v, gs i v e2, h⟩
      | ow d => exact h.elim
      | lk d => exact h.elim
      | pn m d =>
        obtain ⟨y, rfl, t, n⟩ := h
        refine ⟨y, gs i _ e2, t, n, ?_, fun z => .inl ?_⟩
        · simp only [e1, e2]
        · subst z; exact mem_wrOf.mpr ⟨i, d, e1, e2⟩
    · trivial
  · rcases ge i s e1 with ⟨e1, v, e3⟩ | rfl
    · rcases ge j t e2 with ⟨e2, v2, e4⟩ | rfl
      · rw [gs i v e3] at z1
        rw [gs j v2 e4] at z2
        cases z1; cases z2
        exact ha.dist i j s t x hij e1 e2 m o e3 e4
      · exact absurd o Bool.false_ne_true
    · exact absurd (Sl.excl_own m) Bool.false_ne_true
/-- what a body leaves of what it may change -/
theorem outs_ok {G : Gc} : ∀ (as : List Sl) (vs : List V) (e : En) (σ' : List (Option V)) (outs : List D) (n : Nat), as.length = vs.length → outsOf as e = some outs →
    (∀ (k : Nat) d v, as[k]? = some (.pn true d) → vs[k]? = some v → ∃ x, v = .ref x ∧ G.pin (n + k) = some x) → (∀ (k : Nat) s, e[k]? = some s → SlOk W G σ F' H' (n + k) s) → OutsOk W F' H' as vs outs := by
  intro as
  induction as with
  | nil =>
    intro vs e σ' outs n hl ho hp hs
    have : outs = [] := by cases e <;> (unfold outsOf at ho; cases ho; rfl)
    subst this
    cases vs <;> trivial
  | cons s as ih =>
    intro vs e σ' outs n hl ho hp hs
    cases vs with
    | nil => simp at hl
    | cons v vs =>
      have hl' : as.length = vs.length := by simpa using hl
      have hp' : ∀ (k : Nat) d w, as[k]? = some (.pn true d) → vs[k]? = some w → ∃ x, w = .ref x ∧ G.pin (n + 1 + k) = some x := fun k d w e1 e2 => by
        have := hp (k + 1) d w (by simpa using e1) (by simpa using e2)
        rw [show n + 1 + k = n + (k + 1) by omega]; exact this
      have go : ∀ (t : Sl) (e' : En) (outs' : List D), e = t :: e' → outsOf as e' = some outs' → OutsOk W F' H' as vs outs' := by
        rintro t e' outs' rfl ho'
        refine ih vs e' σ' outs' (n + 1) hl' ho' hp' fun k s q => ?_
        have := hs (k + 1) s (by simpa using q)
        rw [show n + 1 + k = n + (k + 1) by omega]; exact this
      by_cases hs' : ∃ d, s = .pn true d
      · obtain ⟨d0, rfl⟩ := hs'
        cases e with
        | nil => unfold outsOf at ho; cases ho
        | cons t e' =>
          have ht : ∃ d, t = .pn true d := by
            cases t with
            | pn m d => cases m with
              | true => exact ⟨d, rfl⟩
              | false => unfold outsOf at ho; cases ho
            | _ => unfold outsOf at ho; cases ho
          obtain ⟨d, rfl⟩ := ht
          unfold outsOf at ho
          cases q : outsOf as e' with
          | none => simp only [q] at ho; cases ho
          | some outs' =>
            simp only [q] at ho
            cases ho
            refine ⟨?_, go _ e' outs' rfl q⟩
            obtain ⟨x, rfl, hx⟩ := hp 0 d0 v (by simp) (by simp)
            obtain ⟨y, k1, k2, k3, k4, k5⟩ := hs 0 (.pn true d) (by simp)
            have : y = x := by
              have h1 : G.pin (n + 0) = some y := k4
              rw [hx] at h1; cases h1; rfl
            subst this
            exact ⟨_, rfl, k2, k3⟩
      · cases e with
        | nil =>
          exfalso
          cases s with
          | pn m d => cases m with
            | true => exact hs' ⟨d, rfl⟩
            | false => unfold outsOf at ho; cases ho
          | _ => unfold outsOf at ho; cases ho
        | cons t e' =>
          have ho' : outsOf as e' = some outs := by
            cases s with
            | pn m d => cases m with
              | true => exact absurd ⟨d, rfl⟩ hs'
              | false => cases t with
                | pn m2 d2 => cases m2 <;> (unfold outsOf at ho; exact ho)
                | _ => unfold outsOf at ho; exact ho
            | _ => cases t with
                | pn m2 d2 => cases m2 <;> (unfold outsOf at ho; exact ho)
                | _ => unfold outsOf at ho; exact ho
          have := go t e' outs rfl ho'
          cases s with
          | pn m d => cases m with
            | true => exact absurd ⟨d, rfl⟩ hs'
            | false => exact this
          | _ => exact this
/-- the body's end is the promise's -/
theorem body_ok {N : List Str} {body : SM} {Q : VK} {E1 : XK} (hsp : spM W (mkF N.length body) vs H Q E1) (hn : vs.length ≤ N.length) : tS W (fun _ => E1) body { nx := fun _ H' => Q .non H', rt := Q } (L2.start N vs) H := by
  obtain ⟨F, args, hs, ha, hm⟩ := hsp
  have R := entry_ok (N := N) hs ha hn
  refine ⟨_, F, _, R, ?_⟩
  -- what stands at every end
  have post : ∀ {en' : En} {σ' : St} {F' H' : Hp} {outs : List D}, Rel W ⟨F, H, wrOf args vs, fun i => match args[i]?, vs[i]? with
      | some (.pn _ _), some (.ref a) => some a
      | _, _ => none⟩ en' σ' F' H' → outsOf args en' = some outs → FPost F H (wrOf args vs) F' H' ∧ OutsOk W F' H' args vs outs := by
    intro en' σ' F' H' outs R' ho
    refine ⟨⟨R'.ex0, R'.sub, fun x u h n => R'.fen x u h n, fun x u h n => R'.keep x u h n⟩, ?_⟩
    refine outs_ok (G := _) args vs en' σ' outs 0 ha.len ho (fun k d v e1 e2 => ?_) (fun k s e => by rw [Nat.zero_add]; exact R'.slot k s e)
    · obtain ⟨x, rfl, _, _⟩ := ha.ok k _ _ e1 e2
      refine ⟨x, rfl, ?_⟩
      rw [Nat.zero_add]
      simp only [e1, e2]
  unfold mkF at hm
  cases e : body (args ++ List.replicate (N.length - args.length) .un) with
  | nx en' =>
    simp only [e] at hm
    cases q : outsOf args en' with
    | none => simp only [q] at hm
    | some outs =>
      simp only [q] at hm
      intro σ' F' H' R'
      obtain ⟨p1, p2⟩ := post R' q
      exact hm .non F' H' p1 p2 Dat.non
  | rt r en' =>
    simp only [e] at hm
    cases q : outsOf args en' with
    | none => simp only [q] at hm
    | some outs =>
      simp only [q] at hm
      intro v σ' F' H' R' vt
      obtain ⟨p1, p2⟩ := post R' q
      refine hm v F' H' p1 p2 ?_
      cases r with
      | sh d => exact vt
      | bo j => exact vt
      | fr d => obtain ⟨x, rfl, t, f, n⟩ := vt; exact ⟨x, rfl, t, f, n⟩
  | exc c fs en' =>
    simp only [e] at hm
    cases q : outsOf args en' with
    | none => simp only [q] at hm
    | some outs =>
      simp only [q] at hm
      intro dd σ' F' H' R' xr
      obtain ⟨p1, p2⟩ := post R' q
      exact hm dd F' H' p1 p2 xr
  | bk en' => simp only [e] at hm
  | ct en' => simp only [e] at hm
  | bad => simp only [e] at hm
theorem spN {E1 : XK} (h : spM W (mkN n body) vs H Q E1) : spM W (mkF n body) vs H Q E0 := by
  obtain ⟨F, args, hs, ha, hm⟩ := h
  refine ⟨F, args, hs, ha, ?_⟩
  unfold mkN at hm
  cases e : mkF n body args with
  | ok r outs => simp only [e] at hm; exact hm
  | exc c fs outs => simp only [e] at hm
  | bad => simp only [e] at hm
variable {P : Program} {w : World} {K : PySem.W.Frag} {mg : Str → Option Value} {base : Heap}
/-- how many arguments a meaning is for: others are bad -/
def arity (n : Nat) (m : FM) : FM := fun args => if args.length = n then m args else .bad
theorem arity_len {n : Nat} {E1 : XK} (h : spM W (arity n m) vs H Q E1) : vs.length = n := by
  obtain ⟨F, args, hs, ha, hm⟩ := h
  unfold arity at hm
  by_cases hl : args.length = n
  · rw [← ha.len, hl]
  · rw [if_neg hl] at hm; exact hm.elim
theorem arity_sp {n : Nat} {E1 : XK} (h : spM W (arity n m) vs H Q E1) : spM W m vs H Q E1 := by
  obtain ⟨F, args, hs, ha, hm⟩ := h
  refine ⟨F, args, hs, ha, ?_⟩
  unfold arity at hm
  by_cases hl : args.length = n
  · rw [if_pos hl] at hm; exact hm
  · rw [if_neg hl] at hm; exact hm.elim
/-- a def that raises nothing: np its parameters, N all its names -/
def defN (np n : Nat) (body : SM) : FM := arity np (mkN n body)
def defX (np n : Nat) (body : SM) : FM := arity np (mkF n body)
theorem ok_defN {qual : Str} {st : Stmt} {N : List Str} {body : SM} (Fn : Fun K x qual st f fd) (S : FnScope N ps (defScope st)) (hn : ps.length ≤ N.length)
    (hb : ∀ (cdv : Value) (A : Around) (outer : List Env) (s : Shared) (H : Hp) (E : XK), Room k (A.deeper (envOfC qual (defScope st) s.heap.objs.size f cdv)) →
      SVs W EZ (cxOf (L2.CX P w) P w K mg base N qual (defScope st) f cdv A outer s H E).nox (defBody st) body) : FnOk P w K mg base (L2.CX P w) (k + 1) f fd ps (spM W (defN ps.length N.length body)) := by
  refine Fn.okX S (fun vs H Q E h => arity_len h) fun cdv A outer s H vs Q E hr h => ?_
  exact ⟨_, (hb cdv A outer s H E hr).nox, body_ok (spN (arity_sp h)) (by rw [arity_len h]; exact hn)⟩
theorem ok_defX {qual : Str} {st : Stmt} {N : List Str} {body : SM} (Fn : Fun K x qual st f fd) (S : FnScope N ps (defScope st)) (hn : ps.length ≤ N.length)
    (hb : ∀ (cdv : Value) (A : Around) (outer : List Env) (s : Shared) (H : Hp) (E : XK), Room k (A.deeper (envOfC qual (defScope st) s.heap.objs.size f cdv)) →
      SVs W (fun _ => E) (cxOf (L2.CX P w) P w K mg base N qual (defScope st) f cdv A outer s H E) (defBody st) body) : FnOk P w K mg base (L2.CX P w) (k + 1) f fd ps (spM W (defX ps.length N.length body)) := by
  refine Fn.okX S (fun vs H Q E h => arity_len h) fun cdv A outer s H vs Q E hr h => ?_
  exact ⟨_, hb cdv A outer s H E hr, body_ok (arity_sp h) (by rw [arity_len h]; exact hn)⟩
end
end Fw
set_option Elab.async false
set_option linter.all false
set_option maxRecDepth 100000
namespace Fw
open PySem PySem.Spec PyProof.Rows L2

/-! ### operators, by data -/
def sh? (d : D) : Option ER := some (.sh d)
def dAdd : D → D → Option ER
  | .int i, .int j => some (.sh (.int (i + j)))
  | .str x, .str y => if x.length + y.length ≤ 1000000 then some (.sh (.str (x ++ y))) else none
  | .lst xs, .lst ys => if xs.length + ys.length ≤ 1000000 then some (.fr (.lst (xs ++ ys))) else none
  | .tup xs, .tup ys => if xs.length + ys.length ≤ 1000000 then some (.sh (.tup (xs ++ ys))) else none
  | _, _ => none
def dSub : D → D → Option ER
  | .int i, .int j => some (.sh (.int (i - j)))
  | _, _ => none
/-- * of ints: one factor below 2 ^ 64 -/
def dMul : D → D → Option ER
  | .int i, .int j => if (-(2 ^ 64) < i ∧ i < 2 ^ 64) ∨ (-(2 ^ 64) < j ∧ j < 2 ^ 64) then some (.sh (.int (i * j))) else none
  | _, _ => none
def dDiv : D → D → Option ER
  | .int i, .int j => if 0 < j ∧ j.natAbs.log2 < 9000 then some (.sh (.int (i / j))) else none
  | _, _ => none
def dMod : D → D → Option ER
  | .int i, .int j => if 0 < j then some (.sh (.int (i % j))) else none
  | _, _ => none
def dPow : D → D → Option ER
  | .int i, .int j => if 0 ≤ j ∧ j ≤ 1000000 ∧ i.natAbs < 2 ^ 64 then some (.sh (.int (i ^ j.toNat))) else none
  | _, _ => none
def dNeg : D → Option ER
  | .int i => some (.sh (.int (-i)))
  | _ => none
def dCmp (f : Int → Int → Bool) : D → D → Option ER
  | .int i, .int j => some (.sh (.bl (f i j)))
  | _, _ => none
abbrev dLt := dCmp fun i j => decide (i < j)
abbrev dLe := dCmp fun i j => decide (i ≤ j)
abbrev dGt := dCmp fun i j => decide (j < i)
abbrev dGe := dCmp fun i j => decide (j ≤ i)
/-- data without dicts, at most n deep -/
def toPy : Nat → D → Option PyData
  | _, .non => some .none
  | _, .bl b => some (.bool b)
  | _, .int i => some (.int i)
  | _, .str x => some (.str x)
  | n + 1, .lst ds => match go n ds with | some ps => some (.list ps) | none => none
  | n + 1, .rol ds => match go n ds with | some ps => some (.list ps) | none => none
  | n + 1, .tup ds => match go n ds with | some ps => some (.tuple ps) | none => none
  | n + 1, .rot ds => match go n ds with | some ps => some (.tuple ps) | none => none
  | _, _ => none
where go : Nat → List D → Option (List PyData)
  | _, [] => some []
  | n, d :: ds => match toPy n d, go n ds with
    | some p, some ps => some (p :: ps)
    | _, _ => none
def dEq (x y : D) : Option ER := match toPy 40 x, toPy 40 y with
  | some p, some q => some (.sh (.bl (PyData.eqv p q)))
  | _, _ => none
def dNe (x y : D) : Option ER := match toPy 40 x, toPy 40 y with
  | some p, some q => some (.sh (.bl (!PyData.eqv p q)))
  | _, _ => none
def isNon : D → Bool
  | .non => true
  | _ => false
def dIs (x y : D) : Option ER := match y with
  | .non => some (.sh (.bl (isNon x)))
  | _ => none
def dIsNot (x y : D) : Option ER := match y with
  | .non => some (.sh (.bl (!isNon x)))
  | _ => none
/-- an int, a bool, a text, None -/
def flatD : D → Option V
  | .non => some .non
  | .bl b => some (.bl b)
  | .int i => some (.int i)
  | .str x => some (.str x)
  | _ => none
def flats : List D → Option (List V)
  | [] => some []
  | d :: ds => match flatD d, flats ds with
    | some v, some vs => some (v :: vs)
    | _, _ => none
def inSeq (x : D) (ds : List D) : Option Bool := match flatD x, flats ds with
  | some v, some vs => some (inV v vs)
  | _, _ => none
def sign1 (x : Str) : Option Nat := match x.cps.toList with
  | [c] => some c
  | _ => none
theorem sign1_ok {x : Str} {c : Nat} (h : sign1 x = some c) : x = ⟨#[c]⟩ := by
  unfold sign1 at h
  split at h
  · rename_i e
    cases h
    obtain ⟨⟨l⟩⟩ := x
    simp at e
    subst e; rfl
  · cases h
def inD (x y : D) : Option Bool := match y with
  | .str z => (match x with
    | .str s => (match sign1 s with | some c => some (decide (c ∈ z.cps.toList)) | none => none)
    | _ => none)
  | .lst ds => inSeq x ds
  | .rol ds => inSeq x ds
  | .tup ds => inSeq x ds
  | .rot ds => inSeq x ds
  | _ => none
def dIn (x y : D) : Option ER := match inD x y with
  | some b => some (.sh (.bl b))
  | none => none
def dNotIn (x y : D) : Option ER := match inD x y with
  | some b => some (.sh (.bl (!b)))
  | none => none
def atD (ds : List D) (i : Int) : Option ER := match atI ds i with
  | some d => some (.sh d)
  | none => none
/-- x[i] of a list, a tuple, a text -/
def dIx (x y : D) : Option ER := match y with
  | .int i => (match x with
    | .lst ds => atD ds i
    | .rol ds => atD ds i
    | .tup ds => atD ds i
    | .rot ds => atD ds i
    | .str z => if z.length ≤ 1000000 then (match atI z.cps.toList i with | some c => some (.sh (.str ⟨#[c]⟩)) | none => none) else none
    | _ => none)
  | _ => none

section
variable {W : Wc} {E : St → XK} {X : Cx} {a b c : Expr} {fa fb fc : M ER} {pos : Pos} {G : Gc} {en : En} {σ : St} {F H : Hp}
theorem DL.nilV {ds : List D} (h : DL W F [] ds) : ds = [] := List.eq_nil_of_length_eq_zero (by simpa using h.1.symm)
theorem lim_size {n : Nat} (h : n ≤ 1000000) : n ≤ sizeLine := Nat.le_trans h (by decide)
theorem res_sh {d : D} {v : V} {Q : VK} (x : Ex F H) (q : Res W F H (.sh d) Q) (hd : Dat W F v d) : Q v H := q v F H (Stp.refl x) hd
theorem res_tup {ds : List D} {vs : List V} {Q : VK} (x : Ex F H) (q : Res W F H (.sh (.tup ds)) Q) (hd : DL W F vs ds) : ∀ p, H p = none → Q (.ref p) (upd H p (.tup vs)) := fun p hp => by
  have st := Stp.new (o := .tup vs) x hp
  exact q _ _ _ st (Dat.tup upd_same hd.1 (hd.mono st.ex).2)
theorem res_lst {ds : List D} {vs : List V} {Q : VK} (x : Ex F H) (q : Res W F H (.fr (.lst ds)) Q) (hd : DL W F vs ds) : ∀ p, H p = none → Q (.ref p) (upd H p (.lst vs)) := fun p hp =>
  q _ _ _ (Stp.cell x hp) ⟨p, rfl, hp, ⟨vs, upd_same, hd⟩, no_of (s := x) hp⟩

def rAdd (K : PySem.W.Frag) : R2 := fun x y H Q => rI0 (fun i j => .int (i + j)) x y H Q ∨ (∃ i j, x = .str i ∧ y = .str j ∧ i.length + j.length ≤ sizeLine ∧ Q (.str (i ++ j)) H) ∨ rCat x y H Q ∨ rCatA K x y H Q
theorem op_addA : OpR X (binaryOp .Add) (rAdd X.K) := OpR.or op_add (OpR.or op_add_str (OpR.or op_cat op_catA))
theorem s_add : OpS W (rAdd W.K) dAdd := by
  intro F H x y dx dy r Q hs hx hy e q
  unfold dAdd at e
  split at e
  · cases e; exact .inl ⟨_, _, hx.int, hy.int, res_sh hs q (Dat.int _)⟩
  · split at e
    · rename_i h; cases e; exact .inr (.inl ⟨_, _, hx.str, hy.str, lim_size h, res_sh hs q (Dat.str _)⟩)
    · cases e
  · split at e
    · rename_i h
      cases e
      obtain ⟨a, vs, rfl, h1, l1⟩ := hx.lst hs
      obtain ⟨b, ws, rfl, h2, l2⟩ := hy.lst hs
      refine .inr (.inr (.inl ⟨a, b, vs, ws, rfl, rfl, h1, h2, ?_, res_lst hs q (l1.append l2)⟩))
      rw [l1.1, l2.1]; exact lim_size h
    · cases e
  · split at e
    · rename_i h
      cases e
      obtain ⟨a, vs, rfl, h1, l1⟩ := hx.tup hs
      obtain ⟨b, ws, rfl, h2, l2⟩ := hy.tup hs
      refine .inr (.inr (.inr ⟨a, b, vs, ws, rfl, rfl, SqT.of h1, SqT.of h2, ?_, fun z => ?_, fun _ z => ?_, fun _ _ => res_tup hs q (l1.append l2)⟩))
      · rw [l1.1, l2.1]; exact lim_size h
      · subst z
        rcases hy with hy | ⟨b', e', t, _⟩
        · refine res_sh hs q ?_
          rw [l1.nilV]
          exact hy
        · exact t.elim
      · subst z
        rcases hx with hx | ⟨b', e', t, _⟩
        · refine res_sh hs q ?_
          rw [l2.nilV, List.append_nil]
          exact hx
        · exact t.elim
    · cases e
  · cases e
theorem s_sub : OpS W (rI0 fun i j => .int (i - j)) dSub := by
  intro F H x y dx dy r Q hs hx hy e q
  unfold dSub at e
  split at e
  · cases e; exact ⟨_, _, hx.int, hy.int, res_sh hs q (Dat.int _)⟩
  · cases e
theorem s_mul : OpS W (rI CMul fun i j => .int (i * j)) dMul := by
  intro F H x y dx dy r Q hs hx hy e q
  unfold dMul at e
  split at e
  · split at e
    · rename_i h; cases e; exact ⟨_, _, hx.int, hy.int, h, res_sh hs q (Dat.int _)⟩
    · cases e
  · cases e
theorem s_div : OpS W (rI CDivW fun i j => .int (i / j)) dDiv := by
  intro F H x y dx dy r Q hs hx hy e q
  unfold dDiv at e
  split at e
  · split at e
    · rename_i h; cases e; exact ⟨_, _, hx.int, hy.int, h, res_sh hs q (Dat.int _)⟩
    · cases e
  · cases e
theorem s_mod : OpS W (rI (fun _ j => 0 < j) fun i j => .int (i % j)) dMod := by
  intro F H x y dx dy r Q hs hx hy e q
  unfold dMod at e
  split at e
  · split at e
    · rename_i h; cases e; exact ⟨_, _, hx.int, hy.int, h, res_sh hs q (Dat.int _)⟩
    · cases e
  · cases e
theorem s_pow : OpS W (rI CPow fun i j => .int (i ^ j.toNat)) dPow := by
  intro F H x y dx dy r Q hs hx hy e q
  unfold dPow at e
  split at e
  · split at e
    · rename_i h; cases e; exact ⟨_, _, hx.int, hy.int, h, res_sh hs q (Dat.int _)⟩
    · cases e
  · cases e
theorem s_neg : UnS W (rU fun i => .int (-i)) dNeg := by
  intro F H x dx r Q hs hx e q
  unfold dNeg at e
  split at e
  · cases e; exact ⟨_, hx.int, res_sh hs q (Dat.int _)⟩
  · cases e
theorem s_cmp {f : Int → Int → Bool} : OpS W (rI0 fun i j => .bl (f i j)) (dCmp f) := by
  intro F H x y dx dy r Q hs hx hy e q
  unfold dCmp at e
  split at e
  · cases e; exact ⟨_, _, hx.int, hy.int, res_sh hs q (Dat.bl _)⟩
  · cases e
/-- == of data without dicts -/
def rEqP (K : PySem.W.Frag) : R2 := fun x y H Q => ∃ d e, Dp K H x d ∧ Dp K H y e ∧ d.plain = true ∧ e.plain = true ∧ d.depth ≤ 64 ∧ Q (.bl (PyData.eqv d e)) H
def rNeP (K : PySem.W.Frag) : R2 := fun x y H Q => ∃ d e, Dp K H x d ∧ Dp K H y e ∧ d.plain = true ∧ e.plain = true ∧ d.depth ≤ 64 ∧ Q (.bl (!PyData.eqv d e)) H
theorem op_eqP (hu : X.A.units + 64 < cLine) : OpR X (compareOp .Eq) (rEqP X.K) := by
  intro pins s σ H x y v u Q I rx ry h
  obtain ⟨d, e, hd, he, sd, se, dp, q⟩ := h
  obtain ⟨as, r1⟩ := Dp.reads I d x v hd rx
  obtain ⟨bs, r2⟩ := Dp.reads I e y u he ry
  refine SeqAt.eq_plain r1 r2 sd se ?_ ⟨.bl _, H, I, rfl, q⟩
  have : min d.depth e.depth ≤ d.depth := Nat.min_le_left _ _
  omega
theorem op_neP (hu : X.A.units + 64 < cLine) : OpR X (compareOp .NotEq) (rNeP X.K) := by
  intro pins s σ H x y v u Q I rx ry h
  obtain ⟨d, e, hd, he, sd, se, dp, q⟩ := h
  obtain ⟨as, r1⟩ := Dp.reads I d x v hd rx
  obtain ⟨bs, r2⟩ := Dp.reads I e y u he ry
  refine SeqAt.ne_plain r1 r2 sd se ?_ ⟨.bl _, H, I, rfl, q⟩
  have : min d.depth e.depth ≤ d.depth := Nat.min_le_left _ _
  omega
theorem plain_list {ps : List PyData} : PyData.plain (.list ps) = PyData.plainAll ps := by simp [PyData.plain]
theorem plain_tuple {ps : List PyData} : PyData.plain (.tuple ps) = PyData.plainAll ps := by simp [PyData.plain]
theorem depth_list {ps : List PyData} : PyData.depth (.list ps) = PyData.depthAll ps + 1 := by simp [PyData.depth]
theorem depth_tuple {ps : List PyData} : PyData.depth (.tuple ps) = PyData.depthAll ps + 1 := by simp [PyData.depth]
theorem dpAll_of {K : PySem.W.Frag} {H : Hp} : ∀ {vs : List V} {ps : List PyData}, vs.length = ps.length → (∀ (i : Nat) v p, vs[i]? = some v → ps[i]? = some p → Dp K H v p) → DpAll K H vs ps
  | [], [], _, _ => .nil
  | v :: vs, p :: ps, hl, h => .cons (h 0 v p rfl rfl) (dpAll_of (by simpa using hl) fun i v p a b => h (i + 1) v p (by simpa using a) (by simpa using b))
  | [], _ :: _, h, _ => by simp at h
  | _ :: _, [], h, _ => by simp at h
/-- what toPy tells -/
theorem toPy_ok {v : V} {d : D} (h : Dat W H v d) : ∀ (n : Nat) (p : PyData), toPy n d = some p → Dp W.K H v p ∧ p.plain = true ∧ p.depth ≤ n := by
  have go : ∀ {vs : List V} {ds : List D} (n : Nat) (ps : List PyData), vs.length = ds.length → (∀ (i : Nat) v d, vs[i]? = some v → ds[i]? = some d → ∀ (n : Nat) (p : PyData), toPy n d = some p → Dp W.K H v p ∧ p.plain = true ∧ p.depth ≤ n) → toPy.go n ds = some ps → DpAll W.K H vs ps ∧ PyData.plainAll ps = true ∧ PyData.depthAll ps ≤ n := by
    intro vs ds
    induction ds generalizing vs with
    | nil =>
      intro n ps hl _ e
      have : vs = [] := List.eq_nil_of_length_eq_zero (by simpa using hl)
      subst this
      unfold toPy.go at e
      cases e
      exact ⟨.nil, by simp [PyData.plainAll], by simp [PyData.depthAll]⟩
    | cons d ds ih =>
      intro n ps hl hd e
      cases vs with
      | nil => simp at hl
      | cons v vs =>
        unfold toPy.go at e
        cases e1 : toPy n d with
        | none => simp only [e1] at e; cases e
        | some p =>
          cases e2 : toPy.go n ds with
          | none => simp only [e1, e2] at e; cases e
          | some qs =>
            simp only [e1, e2] at e
            cases e
            obtain ⟨h1, h2, h3⟩ := hd 0 v d rfl rfl n p e1
            obtain ⟨h4, h5, h6⟩ := ih n qs (by simpa using hl) (fun i v d a b => hd (i + 1) v d (by simpa using a) (by simpa using b)) e2
            exact ⟨.cons h1 h4, by simp [PyData.plainAll, h2, h5], by simp only [PyData.depthAll]; exact Nat.max_le.mpr ⟨h3, h6⟩⟩
  induction h with
  | non => intro n p e; have e' : some PyData.none = some p := by cases n <;> exact e
           cases e'; exact ⟨.non, by simp [PyData.plain], by simp [PyData.depth]⟩
  | bl b => intro n p e; have e' : some (PyData.bool b) = some p := by cases n <;> exact e
            cases e'; exact ⟨.bl b, by simp [PyData.plain], by simp [PyData.depth]⟩
  | int i => intro n p e; have e' : some (PyData.int i) = some p := by cases n <;> exact e
             cases e'; exact ⟨.int i, by simp [PyData.plain], by simp [PyData.depth]⟩
  | str x => intro n p e; have e' : some (PyData.str x) = some p := by cases n <;> exact e
             cases e'; exact ⟨.str x, by simp [PyData.plain], by simp [PyData.depth]⟩
  | ty m => intro n p e; cases n <;> (unfold toPy at e; cases e)
  | cl m => intro n p e; cases n <;> (unfold toPy at e; cases e)
  | exn _ _ _ _ => intro n p e; cases n <;> (unfold toPy at e; cases e)
  | dk _ _ _ _ => intro n p e; cases n <;> (unfold toPy at e; cases e)
  | dt _ _ _ _ => intro n p e; cases n <;> (unfold toPy at e; cases e)
  | ins _ _ _ _ => intro n p e; cases n <;> (unfold toPy at e; cases e)
  | lst h l c ih =>
    intro n p e
    cases n with
    | zero => unfold toPy at e; cases e
    | succ n =>
      unfold toPy at e
      cases q : toPy.go n (by assumption) with
      | none => simp only [q] at e; cases e
      | some ps =>
        simp only [q] at e
        cases e
        obtain ⟨h1, h2, h3⟩ := go n ps l ih q
        exact ⟨.lst (SqL.of h) h1, by rw [plain_list]; exact h2, by rw [depth_list]; omega⟩
  | rol h l c ih =>
    intro n p e
    cases n with
    | zero => unfold toPy at e; cases e
    | succ n =>
      unfold toPy at e
      cases q : toPy.go n (by assumption) with
      | none => simp only [q] at e; cases e
      | some ps =>
        simp only [q] at e
        cases e
        obtain ⟨h1, h2, h3⟩ := go n ps l ih q
        exact ⟨.lst h h1, by rw [plain_list]; exact h2, by rw [depth_list]; omega⟩
  | tup h l c ih =>
    intro n p e
    cases n with
    | zero => unfold toPy at e; cases e
    | succ n =>
      unfold toPy at e
      cases q : toPy.go n (by assumption) with
      | none => simp only [q] at e; cases e
      | some ps =>
        simp only [q] at e
        cases e
        obtain ⟨h1, h2, h3⟩ := go n ps l ih q
        exact ⟨.tup (SqT.of h) h1, by rw [plain_tuple]; exact h2, by rw [depth_tuple]; omega⟩
  | rot h l c ih =>
    intro n p e
    cases n with
    | zero => unfold toPy at e; cases e
    | succ n =>
      unfold toPy at e
      cases q : toPy.go n (by assumption) with
      | none => simp only [q] at e; cases e
      | some ps =>
        simp only [q] at e
        cases e
        obtain ⟨h1, h2, h3⟩ := go n ps l ih q
        exact ⟨.tup h h1, by rw [plain_tuple]; exact h2, by rw [depth_tuple]; omega⟩
theorem s_eq : OpS W (rEqP W.K) dEq := by
  intro F H x y dx dy r Q hs hx hy e q
  unfold dEq at e
  split at e
  · rename_i p q' e1 e2
    cases e
    obtain ⟨h1, h2, h3⟩ := toPy_ok (hx.dat hs) 40 p e1
    obtain ⟨k1, k2, k3⟩ := toPy_ok (hy.dat hs) 40 q' e2
    exact ⟨p, q', h1, k1, h2, k2, by omega, res_sh hs q (Dat.bl _)⟩
  · cases e
theorem s_ne : OpS W (rNeP W.K) dNe := by
  intro F H x y dx dy r Q hs hx hy e q
  unfold dNe at e
  split at e
  · rename_i p q' e1 e2
    cases e
    obtain ⟨h1, h2, h3⟩ := toPy_ok (hx.dat hs) 40 p e1
    obtain ⟨k1, k2, k3⟩ := toPy_ok (hy.dat hs) 40 q' e2
    exact ⟨p, q', h1, k1, h2, k2, by omega, res_sh hs q (Dat.bl _)⟩
  · cases e
theorem isNon_ok {x : V} {d : D} (h : VB W F H x d) : decide (x = .non) = isNon d := by
  cases d with
  | non => rw [h.non]; rfl
  | _ =>
    rcases h with h | ⟨a, rfl, _, _⟩
    · cases h <;> rfl
    · rfl
theorem s_is : OpS W (fun x y H Q => y = .non ∧ Q (.bl (decide (x = .non))) H) dIs := by
  intro F H x y dx dy r Q hs hx hy e q
  unfold dIs at e
  split at e
  · cases e
    exact ⟨hy.non, by rw [isNon_ok hx]; exact res_sh hs q (Dat.bl _)⟩
  · cases e
theorem s_isnot : OpS W (fun x y H Q => y = .non ∧ Q (.bl (!decide (x = .non))) H) dIsNot := by
  intro F H x y dx dy r Q hs hx hy e q
  unfold dIsNot at e
  split at e
  · cases e
    exact ⟨hy.non, by rw [isNon_ok hx]; exact res_sh hs q (Dat.bl _)⟩
  · cases e
theorem flatD_ok {x u : V} {d : D} (h : VB W F H x d) (e : flatD d = some u) : x = u ∧ flatV x = true := by
  cases d with
  | non => cases e; rw [h.non]; exact ⟨rfl, rfl⟩
  | bl b => cases e; rw [h.bl]; exact ⟨rfl, rfl⟩
  | int i => cases e; rw [h.int]; exact ⟨rfl, rfl⟩
  | str z => cases e; rw [h.str]; exact ⟨rfl, rfl⟩
  | _ => cases e
theorem flats_ok : ∀ {ds : List D} {vs us : List V}, DL W F vs ds → flats ds = some us → vs = us ∧ vs.all flatV = true
  | [], vs, us, h, e => by
    cases e
    rw [h.inv_nil]; exact ⟨rfl, rfl⟩
  | d :: ds, vs, us, h, e => by
    obtain ⟨v, r, rfl, hv, hr⟩ := h.inv_cons
    unfold flats at e
    cases e1 : flatD d with
    | none => simp only [e1] at e; cases e
    | some u =>
      cases e2 : flats ds with
      | none => simp only [e1, e2] at e; cases e
      | some us' =>
        simp only [e1, e2] at e
        cases e
        obtain ⟨rfl, f1⟩ := flatD_ok (F := F) (H := F) (.inl hv) e1
        obtain ⟨rfl, f2⟩ := flats_ok hr e2
        exact ⟨rfl, by simp only [List.all_cons, f1, f2]; rfl⟩
theorem inSeq_ok {x : V} {d : D} {ds : List D} {vs : List V} {k : Bool} (h : VB W F H x d) (l : DL W F vs ds) (e : inSeq d ds = some k) : flatV x = true ∧ vs.all flatV = true ∧ inV x vs = k := by
  unfold inSeq at e
  cases e1 : flatD d with
  | none => simp only [e1] at e; cases e
  | some u =>
    cases e2 : flats ds with
    | none => simp only [e1, e2] at e; cases e
    | some us =>
      simp only [e1, e2] at e
      cases e
      obtain ⟨rfl, f1⟩ := flatD_ok h e1
      obtain ⟨rfl, f2⟩ := flats_ok l e2
      exact ⟨f1, f2, rfl⟩
def rInA (K : PySem.W.Frag) : R2 := fun x y H Q => rIn K false x y H Q ∨ ∃ (c : Nat) (z : Str), x = .str ⟨#[c]⟩ ∧ y = .str z ∧ Q (.bl (decide (c ∈ z.cps.toList))) H
def rNotInA (K : PySem.W.Frag) : R2 := fun x y H Q => rIn K true x y H Q ∨ ∃ (c : Nat) (z : Str), x = .str ⟨#[c]⟩ ∧ y = .str z ∧ Q (.bl (!decide (c ∈ z.cps.toList))) H
theorem op_inA : OpR X (compareOp .In) (rInA X.K) := OpR.or op_in_seq op_in_sign
theorem op_notInA : OpR X (compareOp .NotIn) (rNotInA X.K) := OpR.or op_notIn_seq op_notIn_sign
theorem inD_ok {x y : V} {dx dy : D} {k : Bool} (hs : Ex F H) (hx : VB W F H x dx) (hy : VB W F H y dy) (e : inD dx dy = some k) :
    (∃ p xs, y = .ref p ∧ (SqL W.K H p xs ∨ SqT W.K H p xs) ∧ flatV x = true ∧ xs.all flatV = true ∧ inV x xs = k) ∨ ∃ (c : Nat) (z : Str), x = .str ⟨#[c]⟩ ∧ y = .str z ∧ decide (c ∈ z.cps.toList) = k := by
  unfold inD at e
  split at e
  · split at e
    · rename_i z _ s
      split at e
      · rename_i c hc
        cases e
        have := sign1_ok hc
        subst this
        exact .inr ⟨c, z, hx.str, hy.str, rfl⟩
      · cases e
    · cases e
  · obtain ⟨p, xs, rfl, h, l⟩ := hy.lst hs
    obtain ⟨a1, a2, a3⟩ := inSeq_ok hx l e
    exact .inl ⟨p, xs, rfl, .inl (SqL.of h), a1, a2, a3⟩
  · obtain ⟨p, xs, rfl, h, l⟩ := hy.rol hs
    obtain ⟨a1, a2, a3⟩ := inSeq_ok hx l e
    exact .inl ⟨p, xs, rfl, .inl h, a1, a2, a3⟩
  · obtain ⟨p, xs, rfl, h, l⟩ := hy.tup hs
    obtain ⟨a1, a2, a3⟩ := inSeq_ok hx l e
    exact .inl ⟨p, xs, rfl, .inr (SqT.of h), a1, a2, a3⟩
  · obtain ⟨p, xs, rfl, h, l⟩ := hy.rot hs
    obtain ⟨a1, a2, a3⟩ := inSeq_ok hx l e
    exact .inl ⟨p, xs, rfl, .inr h, a1, a2, a3⟩
  · cases e
theorem s_in : OpS W (rInA W.K) dIn := by
  intro F H x y dx dy r Q hs hx hy e q
  unfold dIn at e
  split at e
  · rename_i k ek
    cases e
    rcases inD_ok hs hx hy ek with ⟨p, xs, rfl, h, a1, a2, a3⟩ | ⟨c, z, rfl, rfl, a⟩
    · exact .inl ⟨p, xs, rfl, h, a1, a2, by rw [if_neg Bool.false_ne_true, a3]; exact res_sh hs q (Dat.bl _)⟩
    · exact .inr ⟨c, z, rfl, rfl, by rw [a]; exact res_sh hs q (Dat.bl _)⟩
  · cases e
theorem s_notin : OpS W (rNotInA W.K) dNotIn := by
  intro F H x y dx dy r Q hs hx hy e q
  unfold dNotIn at e
  split at e
  · rename_i k ek
    cases e
    rcases inD_ok hs hx hy ek with ⟨p, xs, rfl, h, a1, a2, a3⟩ | ⟨c, z, rfl, rfl, a⟩
    · exact .inl ⟨p, xs, rfl, h, a1, a2, by rw [if_pos rfl, a3]; exact res_sh hs q (Dat.bl _)⟩
    · exact .inr ⟨c, z, rfl, rfl, by rw [a]; exact res_sh hs q (Dat.bl _)⟩
  · cases e
theorem atI_dl {vs : List V} {ds : List D} {i : Int} {d : D} (l : DL W F vs ds) (e : atI ds i = some d) : ∃ v, atI vs i = some v ∧ Dat W F v d := by
  unfold atI at e ⊢
  rw [l.1]
  cases q : ixN ds.length i with
  | none => rw [q] at e; cases e
  | some j =>
    rw [q] at e
    exact l.get e
theorem s_ix : OpS W (rIx W.K) dIx := by
  intro F H x y dx dy r Q hs hx hy e q
  unfold dIx at e
  split at e
  · rename_i i
    rw [hy.int]
    split at e
    · obtain ⟨p, xs, rfl, h, l⟩ := hx.lst hs
      unfold atD at e
      split at e
      · rename_i d hd
        cases e
        obtain ⟨v, hv, dv⟩ := atI_dl l hd
        exact .inl ⟨p, xs, i, v, rfl, rfl, SqL.of h, hv, res_sh hs q dv⟩
      · cases e
    · obtain ⟨p, xs, rfl, h, l⟩ := hx.rol hs
      unfold atD at e
      split at e
      · rename_i d hd
        cases e
        obtain ⟨v, hv, dv⟩ := atI_dl l hd
        exact .inl ⟨p, xs, i, v, rfl, rfl, h, hv, res_sh hs q dv⟩
      · cases e
    · obtain ⟨p, xs, rfl, h, l⟩ := hx.tup hs
      unfold atD at e
      split at e
      · rename_i d hd
        cases e
        obtain ⟨v, hv, dv⟩ := atI_dl l hd
        exact .inr (.inl ⟨p, xs, i, v, rfl, rfl, SqT.of h, hv, res_sh hs q dv⟩)
      · cases e
    · obtain ⟨p, xs, rfl, h, l⟩ := hx.rot hs
      unfold atD at e
      split at e
      · rename_i d hd
        cases e
        obtain ⟨v, hv, dv⟩ := atI_dl l hd
        exact .inr (.inl ⟨p, xs, i, v, rfl, rfl, h, hv, res_sh hs q dv⟩)
      · cases e
    · rename_i z
      split at e
      · rename_i hz
        split at e
        · rename_i c hc
          cases e
          exact .inr (.inr ⟨z, i, c, hx.str, rfl, lim_size hz, hc, res_sh hs q (Dat.str _)⟩)
        · cases e
      · cases e
    · cases e
  · cases e
end
end Fw
set_option Elab.async false
set_option linter.all false
set_option maxRecDepth 100000
namespace Fw
open PySem PySem.Spec PyProof.Rows L2

/-! ### built-in functions, by data -/
def gLen : List D → Option ER
  | [.str x] => if x.length ≤ 1000000 then some (.sh (.int x.length)) else none
  | [.lst ds] => some (.sh (.int ds.length))
  | [.rol ds] => some (.sh (.int ds.length))
  | [.tup ds] => some (.sh (.int ds.length))
  | [.rot ds] => some (.sh (.int ds.length))
  | _ => none
def gMax2 : List D → Option ER
  | [.int i, .int j] => some (.sh (.int (if j > i then j else i)))
  | _ => none
def gMin2 : List D → Option ER
  | [.int i, .int j] => some (.sh (.int (if j < i then j else i)))
  | _ => none
def gInt : List D → Option ER
  | [.int i] => some (.sh (.int i))
  | [.bl k] => some (.sh (.int (if k then 1 else 0)))
  | [.str x] => if x.length ≤ 640 then (match PySem.intText? x with | some n => some (.sh (.int n)) | none => none) else none
  | _ => none
def gStr : List D → Option ER
  | [.int i] => if i.natAbs.log2 < 1920 then some (.sh (.str (Str.ofString (toString i)))) else none
  | _ => none
def gList : List D → Option ER
  | [.lst ds] => some (.fr (.lst ds))
  | [.rol ds] => some (.fr (.lst ds))
  | [.tup ds] => some (.fr (.lst ds))
  | [.rot ds] => some (.fr (.lst ds))
  | _ => none
def gTuple : List D → Option ER
  | [.lst ds] => some (.sh (.tup ds))
  | [.rol ds] => some (.sh (.tup ds))
  | [.tup ds] => some (.sh (.tup ds))
  | [.rot ds] => some (.sh (.rot ds))
  | _ => none
def tyName : D → String
  | .non => "NoneType"
  | .bl _ => "bool"
  | .int _ => "int"
  | .str _ => "str"
  | .tup _ => "tuple"
  | .rot _ => "tuple"
  | .lst _ => "list"
  | .rol _ => "list"
  | .dk _ => "dict"
  | .dt _ => "dict"
  | _ => "?"
def kitD : D → String → Option Bool
  | .non, t => kitB "NoneType" t
  | .bl _, t => kitB "bool" t
  | .int _, t => kitB "int" t
  | .str _, t => kitB "str" t
  | .tup _, t => kitB "tuple" t
  | .rot _, t => kitB "tuple" t
  | .lst _, t => kitB "list" t
  | .rol _, t => kitB "list" t
  | .dk _, t => kitB "dict" t
  | .dt _, t => kitB "dict" t
  | _, _ => none
def gIsi : List D → Option ER
  | [d, .ty t] => match kitD d t with | some b => some (.sh (.bl b)) | none => none
  | _ => none
def intsOf? : List D → Option (List Int)
  | [] => some []
  | .int i :: ds => match intsOf? ds with | some ns => some (i :: ns) | none => none
  | _ => none
def strsOf? : List D → Option (List Str)
  | [] => some []
  | .str i :: ds => match strsOf? ds with | some ns => some (i :: ns) | none => none
  | _ => none
def blsOf? : List D → Option (List Bool)
  | [] => some []
  | .bl i :: ds => match blsOf? ds with | some ns => some (i :: ns) | none => none
  | _ => none
def pairsOf? : List D → Option (List (Int × Int))
  | [] => some []
  | .tup [.int i, .int j] :: ds => match pairsOf? ds with | some ns => some ((i, j) :: ns) | none => none
  | _ => none
def seqL : D → Option (List D)
  | .lst ds => some ds
  | .rol ds => some ds
  | _ => none
def gSum : List D → Option ER
  | [d] => match (seqL d).bind intsOf? with | some ns => some (.sh (.int ns.sum)) | none => none
  | _ => none
def gAllB : List D → Option ER
  | [d] => match (seqL d).bind blsOf? with | some bs => some (.sh (.bl (bs.all id))) | none => none
  | _ => none
def gAnyB : List D → Option ER
  | [d] => match (seqL d).bind blsOf? with | some bs => some (.sh (.bl (bs.any id))) | none => none
  | _ => none
def leP (a b : Int × Int) : Bool := !SrtO.lexB b a
def sortPairs (ps : List (Int × Int)) : List (Int × Int) := ps.mergeSort leP
def pairD (p : Int × Int) : D := .tup [.int p.1, .int p.2]
def gSortP : List D → Option ER
  | [.lst ds] => match pairsOf? ds with | some ps => some (.fr (.lst ((sortPairs ps).map pairD))) | none => none
  | _ => none

section
variable {W : Wc} {E : St → XK} {X : Cx} {a b c o : Expr} {es : List Expr} {fs : List (M ER)} {fa fb fc : M ER} {pos apos : Pos} {G : Gc} {en : En} {σ : St} {F H : Hp}
theorem s_len : CallS W (fun xs H Q => ∃ x n, xs = [x] ∧ LenV W.K x H n ∧ Q (.int n) H) gLen := by
  intro F H xs ds r Q hs hv e q
  match ds, e with
  | [.str x], e =>
    obtain ⟨v, rfl, vb⟩ := vbs1 hv
    have e' : (if x.length ≤ 1000000 then some (ER.sh (.int x.length)) else none) = some r := e
    split at e'
    · rename_i hx
      cases e'
      exact ⟨v, x.length, rfl, by rw [vb.str]; exact ⟨lim_size hx, rfl⟩, res_sh hs q (Dat.int _)⟩
    · cases e'
  | [.lst ds], e =>
    cases e
    obtain ⟨v, rfl, vb⟩ := vbs1 hv
    obtain ⟨p, vs, rfl, h, l⟩ := vb.lst hs
    exact ⟨_, ds.length, rfl, .inl ⟨vs, SqL.of h, l.1.symm⟩, res_sh hs q (Dat.int _)⟩
  | [.rol ds], e =>
    cases e
    obtain ⟨v, rfl, vb⟩ := vbs1 hv
    obtain ⟨p, vs, rfl, h, l⟩ := vb.rol hs
    exact ⟨_, ds.length, rfl, .inl ⟨vs, h, l.1.symm⟩, res_sh hs q (Dat.int _)⟩
  | [.tup ds], e =>
    cases e
    obtain ⟨v, rfl, vb⟩ := vbs1 hv
    obtain ⟨p, vs, rfl, h, l⟩ := vb.tup hs
    exact ⟨_, ds.length, rfl, .inr ⟨vs, SqT.of h, l.1.symm⟩, res_sh hs q (Dat.int _)⟩
  | [.rot ds], e =>
    cases e
    obtain ⟨v, rfl, vb⟩ := vbs1 hv
    obtain ⟨p, vs, rfl, h, l⟩ := vb.rot hs
    exact ⟨_, ds.length, rfl, .inr ⟨vs, h, l.1.symm⟩, res_sh hs q (Dat.int _)⟩
theorem s_max2 : CallS W (fun xs H Q => ∃ i j, xs = [.int i, .int j] ∧ Q (.int (if j > i then j else i)) H) gMax2 := by
  intro F H xs ds r Q hs hv e q
  match ds, e with
  | [.int i, .int j], e =>
    cases e
    obtain ⟨v, w, rfl, vb, wb⟩ := vbs2 hv
    exact ⟨i, j, by rw [vb.int, wb.int], res_sh hs q (Dat.int _)⟩
theorem s_min2 : CallS W (fun xs H Q => ∃ i j, xs = [.int i, .int j] ∧ Q (.int (if j < i then j else i)) H) gMin2 := by
  intro F H xs ds r Q hs hv e q
  match ds, e with
  | [.int i, .int j], e =>
    cases e
    obtain ⟨v, w, rfl, vb, wb⟩ := vbs2 hv
    exact ⟨i, j, by rw [vb.int, wb.int], res_sh hs q (Dat.int _)⟩
theorem call_intA : CallR X (.type "int") (fun xs H Q => ((∃ i, xs = [.int i] ∧ Q (.int i) H) ∨ ∃ k, xs = [.bl k] ∧ Q (.int (if k then 1 else 0)) H) ∨ ∃ a n, xs = [.str a] ∧ PySem.intText? a = some n ∧ a.length ≤ 640 ∧ Q (.int n) H) := CallR.or call_int1 call_int_str
theorem s_int : CallS W (fun xs H Q => ((∃ i, xs = [.int i] ∧ Q (.int i) H) ∨ ∃ k, xs = [.bl k] ∧ Q (.int (if k then 1 else 0)) H) ∨ ∃ a n, xs = [.str a] ∧ PySem.intText? a = some n ∧ a.length ≤ 640 ∧ Q (.int n) H) gInt := by
  intro F H xs ds r Q hs hv e q
  match ds, e with
  | [.int i], e =>
    cases e
    obtain ⟨v, rfl, vb⟩ := vbs1 hv
    exact .inl (.inl ⟨i, by rw [vb.int], res_sh hs q (Dat.int _)⟩)
  | [.bl i], e =>
    cases e
    obtain ⟨v, rfl, vb⟩ := vbs1 hv
    exact .inl (.inr ⟨i, by rw [vb.bl], res_sh hs q (Dat.int _)⟩)
  | [.str x], e =>
    obtain ⟨v, rfl, vb⟩ := vbs1 hv
    have e' : (if x.length ≤ 640 then (match PySem.intText? x with | some n => some (ER.sh (.int n)) | none => none) else none) = some r := e
    split at e'
    · rename_i hx
      split at e'
      · rename_i n hn
        cases e'
        exact .inr ⟨x, n, by rw [vb.str], hn, hx, res_sh hs q (Dat.int _)⟩
      · cases e'
    · cases e'
theorem s_str : CallS W (fun xs H Q => ∃ i : Int, xs = [.int i] ∧ i.natAbs.log2 < 1920 ∧ Q (.str (Str.ofString (toString i))) H) gStr := by
  intro F H xs ds r Q hs hv e q
  match ds, e with
  | [.int i], e =>
    obtain ⟨v, rfl, vb⟩ := vbs1 hv
    have e' : (if i.natAbs.log2 < 1920 then some (ER.sh (.str (Str.ofString (toString i)))) else none) = some r := e
    split at e'
    · rename_i hx
      cases e'
      exact ⟨i, by rw [vb.int], hx, res_sh hs q (Dat.str _)⟩
    · cases e'
theorem s_list : CallS W (fun xs H Q => ∃ p ys, xs = [.ref p] ∧ (SqL W.K H p ys ∨ SqT W.K H p ys) ∧ ∀ l, H l = none → Q (.ref l) (upd H l (.lst ys))) gList := by
  intro F H xs ds r Q hs hv e q
  match ds, e with
  | [.lst ds], e =>
    cases e
    obtain ⟨v, rfl, vb⟩ := vbs1 hv
    obtain ⟨p, vs, rfl, h, l⟩ := vb.lst hs
    exact ⟨p, vs, rfl, .inl (SqL.of h), res_lst hs q l⟩
  | [.rol ds], e =>
    cases e
    obtain ⟨v, rfl, vb⟩ := vbs1 hv
    obtain ⟨p, vs, rfl, h, l⟩ := vb.rol hs
    exact ⟨p, vs, rfl, .inl h, res_lst hs q l⟩
  | [.tup ds], e =>
    cases e
    obtain ⟨v, rfl, vb⟩ := vbs1 hv
    obtain ⟨p, vs, rfl, h, l⟩ := vb.tup hs
    exact ⟨p, vs, rfl, .inr (SqT.of h), res_lst hs q l⟩
  | [.rot ds], e =>
    cases e
    obtain ⟨v, rfl, vb⟩ := vbs1 hv
    obtain ⟨p, vs, rfl, h, l⟩ := vb.rot hs
    exact ⟨p, vs, rfl, .inr h, res_lst hs q l⟩
theorem s_tuple : CallS W (fun xs H Q => ∃ p ys, xs = [.ref p] ∧ ((SqL W.K H p ys ∧ ∀ l, H l = none → Q (.ref l) (upd H l (.tup ys))) ∨ (SqT W.K H p ys ∧ Q (.ref p) H))) gTuple := by
  intro F H xs ds r Q hs hv e q
  match ds, e with
  | [.lst ds], e =>
    cases e
    obtain ⟨v, rfl, vb⟩ := vbs1 hv
    obtain ⟨p, vs, rfl, h, l⟩ := vb.lst hs
    exact ⟨p, vs, rfl, .inl ⟨SqL.of h, res_tup hs q l⟩⟩
  | [.rol ds], e =>
    cases e
    obtain ⟨v, rfl, vb⟩ := vbs1 hv
    obtain ⟨p, vs, rfl, h, l⟩ := vb.rol hs
    exact ⟨p, vs, rfl, .inl ⟨h, res_tup hs q l⟩⟩
  | [.tup ds], e =>
    cases e
    obtain ⟨v, rfl, vb⟩ := vbs1 hv
    rcases vb with vb | ⟨_, _, t, _⟩
    · cases id vb with
      | tup h l c => exact ⟨_, _, rfl, .inr ⟨SqT.of (hs _ _ h), res_sh hs q vb⟩⟩
    · exact t.elim
  | [.rot ds], e =>
    cases e
    obtain ⟨v, rfl, vb⟩ := vbs1 hv
    rcases vb with vb | ⟨_, _, t, _⟩
    · cases id vb with
      | rot h l c => exact ⟨_, _, rfl, .inr ⟨ex_t hs h, res_sh hs q vb⟩⟩
    · exact t.elim
theorem tyX_of {v : V} {d : D} {t : String} {b : Bool} (h : VB W F H v d) (hs : Ex F H) (e : kitD d t = some b) : ∃ n, TyX W.K H v (.type n) ∧ kitB n t = some b := by
  cases d with
  | non => rw [h.non]; exact ⟨_, .base .non, e⟩
  | bl k => rw [h.bl]; exact ⟨_, .base (.bl k), e⟩
  | int i => rw [h.int]; exact ⟨_, .base (.int i), e⟩
  | str x => rw [h.str]; exact ⟨_, .base (.str x), e⟩
  | lst ds => obtain ⟨p, vs, rfl, k, l⟩ := h.lst hs; exact ⟨_, .base (.lst k), e⟩
  | rol ds =>
    obtain ⟨p, vs, rfl, k, l⟩ := h.rol hs
    refine ⟨_, ?_, e⟩
    rcases k with (k | ⟨o, k⟩) | ⟨o, its, n, k, c, _⟩
    · exact .base (.lst k)
    · exact .base (.frz k)
    · exact .kList k c
  | tup ds => obtain ⟨p, vs, rfl, k, l⟩ := h.tup hs; exact ⟨_, .base (.tup k), e⟩
  | rot ds =>
    obtain ⟨p, vs, rfl, k, l⟩ := h.rot hs
    refine ⟨_, ?_, e⟩
    rcases k with (k | ⟨o, k⟩) | ⟨o, its, n, k, c, _⟩
    · exact .base (.tup k)
    · exact .fTuple k
    · exact .kTuple k c
  | dk ds => obtain ⟨p, vs, rfl, k, l⟩ := h.dk hs; exact ⟨_, .base (.dK k), e⟩
  | dt ds => obtain ⟨p, vs, rfl, k, l⟩ := h.dt hs; exact ⟨_, .base (.dT k), e⟩
  | _ => cases e
theorem s_isi : CallS W (rIsi W.K) gIsi := by
  intro F H xs ds r Q hs hv e q
  match ds, e with
  | [d, .ty t], e =>
    have e' : (match kitD d t with | some b => some (ER.sh (.bl b)) | none => none) = some r := e
    split at e'
    · rename_i k hk
      cases e'
      obtain ⟨v, w, rfl, vb, wb⟩ := vbs2 hv
      obtain ⟨n, tx, hb⟩ := tyX_of vb hs hk
      exact ⟨v, w, .type n, .type t, k, rfl, by rw [wb.ty]; exact .ty t, tx, kit_ty hb, res_sh hs q (Dat.bl _)⟩
    · cases e'
theorem ev_bty {x : Str} {n : String} (hm : X.mg x = none) (hv : bootBuiltins x = some (.type n) := by decide +kernel) (hg : Gl X x := by rfl) (hn : x ≠ "__name__" := by decide) (hdb : (x == ("__debug__" : Str)) = false := by decide) : EV W E X (.Name x pos) (eC (.ty n)) :=
  PE.imp (pe_bltn hg hm hv (v := .ty n) rfl hn hdb) fun σ H Q ⟨G, F, en, R, h⟩ => h _ F H R (Ex.refl F) (Dat.ty n)
theorem intsOf_ok : ∀ {ds : List D} {ns : List Int}, intsOf? ds = some ns → ds = ns.map D.int
  | [], ns, e => by cases e; rfl
  | .int i :: ds, ns, e => by
    unfold intsOf? at e
    cases q : intsOf? ds with
    | none => simp only [q] at e; cases e
    | some ms => simp only [q] at e; cases e; rw [intsOf_ok q]; rfl
theorem strsOf_ok : ∀ {ds : List D} {ns : List Str}, strsOf? ds = some ns → ds = ns.map D.str
  | [], ns, e => by cases e; rfl
  | .str i :: ds, ns, e => by
    unfold strsOf? at e
    cases q : strsOf? ds with
    | none => simp only [q] at e; cases e
    | some ms => simp only [q] at e; cases e; rw [strsOf_ok q]; rfl
theorem blsOf_ok : ∀ {ds : List D} {ns : List Bool}, blsOf? ds = some ns → ds = ns.map D.bl
  | [], ns, e => by cases e; rfl
  | .bl i :: ds, ns, e => by
    unfold blsOf? at e
    cases q : blsOf? ds with
    | none => simp only [q] at e; cases e
    | some ms => simp only [q] at e; cases e; rw [blsOf_ok q]; rfl
theorem pairsOf_ok : ∀ {ds : List D} {ns : List (Int × Int)}, pairsOf? ds = some ns → ds = ns.map pairD
  | [], ns, e => by cases e; rfl
  | .tup [.int i, .int j] :: ds, ns, e => by
    unfold pairsOf? at e
    cases q : pairsOf? ds with
    | none => simp only [q] at e; cases e
    | some ms => simp only [q] at e; cases e; rw [pairsOf_ok q]; rfl
theorem seqL_ok {v : V} {d : D} {ds : List D} (h : VB W F H v d) (hs : Ex F H) (e : seqL d = some ds) : ∃ p vs, v = .ref p ∧ SqL W.K H p vs ∧ DL W F vs ds := by
  cases d with
  | lst ds' => cases e; obtain ⟨p, vs, rfl, k, l⟩ := h.lst hs; exact ⟨p, vs, rfl, SqL.of k, l⟩
  | rol ds' => cases e; obtain ⟨p, vs, rfl, k, l⟩ := h.rol hs; exact ⟨p, vs, rfl, k, l⟩
  | _ => cases e
theorem s_sum : CallS W (rSum W.K) gSum := by
  intro F H xs ds r Q hs hv e q
  match ds, e with
  | [d], e =>
    have e' : (match (seqL d).bind intsOf? with | some ns => some (ER.sh (.int ns.sum)) | none => none) = some r := e
    split at e'
    · rename_i ns hn
      cases e'
      obtain ⟨v, rfl, vb⟩ := vbs1 hv
      cases q1 : seqL d with
      | none => rw [q1] at hn; cases hn
      | some ds =>
        rw [q1] at hn
        obtain ⟨p, vs, rfl, k, l⟩ := seqL_ok vb hs q1
        rw [intsOf_ok hn] at l
        exact ⟨p, ns, rfl, by rw [← l.ints]; exact k, res_sh hs q (Dat.int _)⟩
    · cases e'
theorem s_all : CallS W (rAll W.K) gAllB := by
  intro F H xs ds r Q hs hv e q
  match ds, e with
  | [d], e =>
    have e' : (match (seqL d).bind blsOf? with | some ns => some (ER.sh (.bl (ns.all id))) | none => none) = some r := e
    split at e'
    · rename_i ns hn
      cases e'
      obtain ⟨v, rfl, vb⟩ := vbs1 hv
      cases q1 : seqL d with
      | none => rw [q1] at hn; cases hn
      | some ds =>
        rw [q1] at hn
        obtain ⟨p, vs, rfl, k, l⟩ := seqL_ok vb hs q1
        rw [blsOf_ok hn] at l
        exact ⟨p, ns, rfl, by rw [← l.bls]; exact k, res_sh hs q (Dat.bl _)⟩
    · cases e'
theorem s_any : CallS W (rAny W.K) gAnyB := by
  intro F H xs ds r Q hs hv e q
  match ds, e with
  | [d], e =>
    have e' : (match (seqL d).bind blsOf? with | some ns => some (ER.sh (.bl (ns.any id))) | none => none) = some r := e
    split at e'
    · rename_i ns hn
      cases e'
      obtain ⟨v, rfl, vb⟩ := vbs1 hv
      cases q1 : seqL d with
      | none => rw [q1] at hn; cases hn
      | some ds =>
        rw [q1] at hn
        obtain ⟨p, vs, rfl, k, l⟩ := seqL_ok vb hs q1
        rw [blsOf_ok hn] at l
        exact ⟨p, ns, rfl, by rw [← l.bls]; exact k, res_sh hs q (Dat.bl _)⟩
    · cases e'
/-! sorted of pairs -/
theorem lexB_iff {a b : Int × Int} : SrtO.lexB a b = true ↔ a.1 < b.1 ∨ (a.1 = b.1 ∧ a.2 < b.2) := by
  exact SrtO.lexB_iff
theorem leP_iff {a b : Int × Int} : leP a b = true ↔ a.1 < b.1 ∨ (a.1 = b.1 ∧ a.2 ≤ b.2) := by
  unfold leP
  rw [Bool.not_eq_true', Bool.eq_false_iff, ne_eq, lexB_iff]
  omega
theorem leP_trans (a b c : Int × Int) (h1 : leP a b = true) (h2 : leP b c = true) : leP a c = true := by
  rw [leP_iff] at *
  omega
theorem leP_total (a b : Int × Int) : (leP a b || leP b a) = true := by
  rw [Bool.or_eq_true, leP_iff, leP_iff]
  omega
theorem leP_anti {a b : Int × Int} (h1 : leP a b = true) (h2 : leP b a = true) : a = b := by
  rw [leP_iff] at *
  ext <;> omega
theorem sorted_unique {l m : List (Int × Int)} : l.Perm m → l.Pairwise (fun a b => leP a b = true) → m.Pairwise (fun a b => leP a b = true) → l = m := by
  induction l generalizing m with
  | nil => intro p _ _; exact (List.Perm.nil_eq p)
  | cons x l ih =>
    intro p h1 h2
    cases m with
    | nil => exact absurd p.length_eq (by simp)
    | cons y m =>
      have hx : x ∈ y :: m := p.subset (List.mem_cons_self)
      have hy : y ∈ x :: l := p.symm.subset (List.mem_cons_self)
      have e : x = y := by
        rcases List.mem_cons.mp hx with z | z
        · exact z
        · rcases List.mem_cons.mp hy with w | w
          · exact w.symm
          · exact leP_anti ((List.pairwise_cons.mp h1).1 y w) ((List.pairwise_cons.mp h2).1 x z)
      subst e
      rw [ih ((List.perm_cons x).mp p) (List.pairwise_cons.mp h1).2 (List.pairwise_cons.mp h2).2]
theorem sortPairs_perm (ps : List (Int × Int)) : (sortPairs ps).Perm ps := List.mergeSort_perm ps leP
theorem sortPairs_sorted (ps : List (Int × Int)) : (sortPairs ps).Pairwise (fun a b => leP a b = true) := List.pairwise_mergeSort leP_trans leP_total ps
open Classical in
noncomputable def keyP (H : Hp) (v : V) : Int × Int := match v with
  | .ref t => match H t with
    | some (.tup [.int i, .int j]) => (i, j)
    | _ => (0, 0)
  | _ => (0, 0)
theorem dl_pairs {vs : List V} {ps : List (Int × Int)} (l : DL W F vs (ps.map pairD)) (hs : Ex F H) : ∀ x ∈ vs, ∃ t, x = V.ref t ∧ F t = some (.tup [.int (keyP H x).1, .int (keyP H x).2]) ∧ keyP H x ∈ ps := fun x hx => by
  obtain ⟨i, hi, e⟩ := List.getElem_of_mem hx
  obtain ⟨d, hd, dv⟩ := l.getV (i := i) (v := x) (by rw [List.getElem?_eq_getElem hi, e])
  rw [List.getElem?_map] at hd
  cases q : ps[i]? with
  | none => rw [q] at hd; cases hd
  | some p =>
    rw [q] at hd
    cases hd
    have dv' : Dat W F x (.tup [.int p.1, .int p.2]) := dv
    cases dv' with
    | tup h l2 c =>
      obtain ⟨v, w, rfl, h1, h2⟩ := dl2 ⟨l2, c⟩
      cases h1; cases h2
      rename_i t
      have hk : keyP H (.ref t) = (p.1, p.2) := by
        unfold keyP
        simp only [hs _ _ h]
      refine ⟨t, rfl, by rw [hk]; exact h, ?_⟩
      rw [hk]
      exact List.mem_of_getElem? q
theorem keys_of {vs : List V} {ps : List (Int × Int)} (l : DL W F vs (ps.map pairD)) (hs : Ex F H) : vs.map (keyP H) = ps := by
  induction ps generalizing vs with
  | nil => rw [l.inv_nil]; rfl
  | cons p ps ih =>
    obtain ⟨v, r, rfl, hv, hr⟩ := DL.inv_cons l
    rw [List.map_cons, ih hr]
    have dv' : Dat W F v (.tup [.int p.1, .int p.2]) := hv
    cases dv' with
    | tup h l2 c =>
      obtain ⟨v, w, rfl, h1, h2⟩ := dl2 ⟨l2, c⟩
      cases h1; cases h2
      have hk : keyP H (.ref (by assumption)) = (p.1, p.2) := by
        unfold keyP
        simp only [hs _ _ h]
      rw [hk]
theorem s_sortP : CallS W (rSortedPO W.K) gSortP := by
  intro F H xs ds r Q hs hv e q
  match ds, e with
  | [.lst ds], e =>
    have e' : (match pairsOf? ds with | some ps => some (ER.fr (.lst ((sortPairs ps).map pairD))) | none => none) = some r := e
    split at e'
    · rename_i ps hp
      cases e'
      obtain ⟨v, rfl, vb⟩ := vbs1 hv
      obtain ⟨a, vs, rfl, k, l⟩ := vb.lst hs
      rw [pairsOf_ok hp] at l
      have hd := dl_pairs l hs
      refine ⟨a, vs, keyP H, rfl, SqL.of k, fun x hx => ?_, fun ys p st sb hp' => ?_⟩
      · obtain ⟨t, h1, h2, _⟩ := hd x hx
        exact ⟨t, h1, hs _ _ h2⟩
      · have km : ys.map (keyP H) = sortPairs ps := by
          refine sorted_unique ?_ ?_ (sortPairs_sorted ps)
          · exact (sb.perm.map _).trans ((List.Perm.of_eq (keys_of l hs)).trans (sortPairs_perm ps).symm)
          · rw [List.pairwise_map]
            refine st.imp fun {x y} h => ?_
            unfold leP
            rw [Bool.not_eq_true']
            exact h
        have dly : DL W F ys ((sortPairs ps).map pairD) := by
          rw [← km]
          refine ⟨by simp, fun i v d h1 h2 => ?_⟩
          rw [List.map_map, List.getElem?_map, h1] at h2
          cases h2
          obtain ⟨t, e1, e2, _⟩ := hd v (sb.perm.subset (List.mem_of_getElem? h1))
          subst e1
          exact Dat.tup e2 rfl (DL.cons (Dat.int _) (DL.cons (Dat.int _) DL.nil)).2
        exact res_lst hs q dly p hp'
    · cases e'
end
end Fw
set_option Elab.async false
set_option linter.all false
set_option maxRecDepth 100000
namespace Fw
open PySem PySem.Spec PyProof.Rows L2

/-! ### slices -/
def partR (r : ER) (en : En) : R En (Option Int) := match r with
  | .sh (.int i) => .ok (some i) en
  | _ => .bad
def partM : Option (M ER) → M (Option Int)
  | none => fun en => .ok none en
  | some f => fun en => (f en).bind partR
def eSl (g : D → Option Int → Option Int → Option ER) (fa : M ER) (fl fh : Option (M ER)) : M ER := fun en => (fa en).bind fun ra en1 => (partM fl en1).bind fun lo en2 => (partM fh en2).bind fun hi en3 => match cur en3 ra with
  | some d => (match g d lo hi with | some r => .ok r en3 | none => .bad)
  | none => .bad
def cutL {α : Type} (xs : List α) (lo hi : Option Int) : List α := (xs.drop (HT.sIx xs.length 0 lo)).take (HT.sIx xs.length xs.length hi - HT.sIx xs.length 0 lo)
def dSl (d : D) (lo hi : Option Int) : Option ER := match d with
  | .lst ds => some (.fr (.lst (cutL ds lo hi)))
  | .rol ds => some (.fr (.lst (cutL ds lo hi)))
  | .tup ds => some (.sh (.tup (cutL ds lo hi)))
  | .str z => if z.length ≤ 1000000 then some (.sh (.str (cutS z lo hi))) else none
  | _ => none

/-! ### methods -/
/-- a method that only looks -/
def eMet (g : D → List D → Option ER) (fo : M ER) (fs : List (M ER)) : M ER := fun en => (fo en).bind fun ro en1 => (eA fs en1).bind fun rs en2 => match cur en2 ro, curs en2 rs with
  | some d, some ds => (match g d ds with | some r => .ok r en2 | none => .bad)
  | _, _ => .bad
def isStr (d : D) : Bool := match d with
  | .str _ => true
  | _ => false
/-- .. of a text -/
def eMetS (g : D → List D → Option ER) (fo : M ER) (fs : List (M ER)) : M ER := fun en => (fo en).bind fun ro en1 => match ro with
  | .sh (.str x) => (eA fs en1).bind fun rs en2 => (match curs en2 rs with
    | some ds => (match g (.str x) ds with | some r => .ok r en2 | none => .bad)
    | _ => .bad)
  | _ => .bad
def strD (x : Str) : D := .str x
def gSplit : D → List D → Option ER
  | .str a, [.str b] => if b.length ≠ 0 ∧ a.length ≤ 1000000 then some (.fr (.lst ((Txt.split a b).map strD))) else none
  | _, _ => none
def gPartition : D → List D → Option ER
  | .str a, [.str b] => if b.length ≠ 0 ∧ a.length ≤ 1000000 then some (.sh (.tup [.str (Txt.partition a b).1, .str (Txt.partition a b).2.1, .str (Txt.partition a b).2.2])) else none
  | _, _ => none
def seqA : D → Option (List D)
  | .lst ds => some ds
  | .rol ds => some ds
  | .tup ds => some ds
  | .rot ds => some ds
  | _ => none
def gJoin : D → List D → Option ER
  | .str a, [d] => match (seqA d).bind strsOf? with
    | some ys => if (ys.map (·.length)).sum + ys.length * a.length ≤ 1000000 then some (.sh (.str (Txt.join a ys))) else none
    | none => none
  | _, _ => none
def gStrip1 : D → List D → Option ER
  | .str a, [.str b] => if a.length ≤ 1000000 then some (.sh (.str (Txt.stripChars a b))) else none
  | _, _ => none
def gLower : D → List D → Option ER
  | .str a, [] => if a.length ≤ 1000000 then some (.sh (.str (Txt.lower a))) else none
  | _, _ => none
def gUpper : D → List D → Option ER
  | .str a, [] => if a.length ≤ 1000000 then some (.sh (.str (Txt.upper a))) else none
  | _, _ => none
def gStartswith : D → List D → Option ER
  | .str a, [.str b] => some (.sh (.bl (Txt.startswith a b)))
  | _, _ => none

/-! ### methods that change a cell of a slot -/
def kindN : D → Nat
  | .lst _ => 1
  | .dk _ => 2
  | .dt _ => 2
  | .ins _ _ => 3
  | _ => 0
/-- the cell in slot i, of kind k -/
def cellAt (k : Nat) (en : En) (i : Nat) : Option D := match en[i]? with
  | some s => if s.mu = true then (match s.dat with
    | some d => if kindN d = k then some d else none
    | none => none) else none
  | none => none
def eMut (k i : Nat) (g : D → List D → Option (D × D)) (fs : List (M ER)) : M ER := fun en => match cellAt k en i with
  | none => .bad
  | some _ => (eA fs en).bind fun rs en1 => match shrs rs en1 with
    | none => .bad
    | some (ds, en2) => (match cellAt k en2 i with
      | none => .bad
      | some d => (match g d ds with
        | some (d', r) => .ok (.sh r) (putD en2 i d')
        | none => .bad))
def gAppend : D → List D → Option (D × D)
  | .lst xs, [x] => if xs.length < 1000000 then some (.lst (xs ++ [x]), .non) else none
  | _, _ => none
def gPop : D → List D → Option (D × D)
  | .lst xs, [] => match xs[xs.length - 1]? with
    | some x => some (.lst xs.dropLast, x)
    | none => none
  | _, _ => none
def gClear : D → List D → Option (D × D)
  | .lst _, [] => some (.lst [], .non)
  | _, _ => none
/-- x[i] = e at slot i -/
def sPut (k i : Nat) (g : D → D → D → Option D) (fi fe : M ER) : SM := fun en => (fe en).then fun rv en1 => match shr en1 rv with
  | none => .bad
  | some (dv, en2) => match en2[i]? with
    | some (.ow _) => putAt k i g fi dv en2
    | some (.pn _ _) => putAt k i g fi dv en2
    | _ => .bad
where putAt (k i : Nat) (g : D → D → D → Option D) (fi : M ER) (dv : D) (en2 : En) : O := (fi en2).then fun ri en3 => match shr en3 ri with
  | none => .bad
  | some (di, en4) => match cellAt k en4 i with
    | none => .bad
    | some d => match g d di dv with
      | some d' => .nx (putD en4 i d')
      | none => .bad
def gSetL : D → D → D → Option D
  | .lst xs, .int n, v => match ixN xs.length n with
    | some j => some (.lst (xs.set j v))
    | none => none
  | _, _, _ => none

/-- a cell's method, by data -/
def MutS (W : Wc) (r1 : V → List V → Hp → VK → Prop) (g : D → List D → Option (D × D)) : Prop := ∀ F H a xs d ds d' r Q, Ex F H → F a = none → Top W F H a d → DL W F xs ds → g d ds = some (d', r) →
  (∀ v o, Top W F (upd H a o) a d' → Dat W F v r → Q v (upd H a o)) → r1 (.ref a) xs H Q

section
variable {W : Wc} {E : St → XK} {X : Cx} {a b c o : Expr} {e0 : Expr} {es : List Expr} {fs : List (M ER)} {fa fb fc fo : M ER} {pos apos p2 : Pos} {G : Gc} {en en' : En} {σ : St} {F H : Hp} {De : Ends}
theorem cutV_dl {vs : List V} {ds : List D} {lo hi : Option Int} (l : DL W F vs ds) : DL W F (cutV vs lo hi) (cutL ds lo hi) := by
  unfold cutV cutL
  rw [l.1]
  exact (l.drop _).take _
/-- a slice's part -/
def tPt (W : Wc) (E : St → XK) (f : M (Option Int)) : TO := fun σ H Q => ∃ G F en, Rel W G en σ F H ∧ match f en with
  | .ok r en' => ∀ F' H', Rel W G en' σ F' H' → Ex F F' → Q r H'
  | .exc c fs en' => ∀ dd F' H', Rel W G en' σ F' H' → XR W G.H0 F' H' dd fs → E σ (.ref (W.cls c)) (some dd) H'
  | .bad => False
def PtV (W : Wc) (E : St → XK) (X : Cx) (e : Option Expr) (f : Option (M ER)) : Prop := PO X e (tPt W E (partM f))
theorem PO.imp {X : Cx} {e : Option Expr} {t u : TO} (h : PO X e t) (i : ∀ σ H Q, u σ H Q → t σ H Q) : PO X e u := ⟨fun pins s σ H Q I w => h.run pins s σ H Q I (i _ _ _ w)⟩
theorem pt_none : PtV W E X none none := PO.imp po_none fun σ H Q ⟨G, F, en, R, h⟩ => h F H R (Ex.refl F)
theorem partR_out {α : Type} {A : α → En → Prop} {k : Option Int → En → R En α} {r : ER} (h : Out W E G σ A ((partR r en).bind k)) : ∃ i, r = .sh (.int i) ∧ Out W E G σ A (k (some i) en) := by
  cases r with
  | sh d => cases d with
    | int i => exact ⟨i, rfl, h⟩
    | _ => exact h.elim
  | _ => exact h.elim
theorem pt_some (ha : EV W E X a fa) : PtV W E X (some a) (some fa) := by
  refine PO.imp (po_some ha) fun σ H Q ⟨G, F, en, R, h⟩ => ?_
  have h' : Out W E G σ (fun r en' => ∀ F' H', Rel W G en' σ F' H' → Ex F F' → Q r H') ((fa en).bind fun r en1 => (partR r en1).bind fun i en2 => .ok i en2) := by
    revert h
    show (match (fa en).bind partR with | .ok r en' => _ | .exc c fs en' => _ | .bad => _) → _
    cases fa en with
    | bad => exact fun h => h
    | exc c fs s => exact fun h => h
    | ok r s =>
      show (match partR r s with | .ok r en' => _ | .exc c fs en' => _ | .bad => _) → _
      cases e : partR r s with
      | bad => simp only [Fw.R.bind_ok, e]; exact fun h => h
      | exc c fs s => simp only [Fw.R.bind_ok, e]; exact fun h => h
      | ok r s => simp only [Fw.R.bind_ok, e]; exact fun h => h
  refine ev_then R h' fun r en1 x F1 H1 h1 R1 x1 va => ?_
  obtain ⟨i, rfl, h2⟩ := partR_out h1
  have va' : Dat W F1 x (.int i) := va
  cases va'
  exact ⟨i, rfl, h2 F1 H1 R1 x1⟩
theorem po_then {α : Type} {f : M (Option Int)} {k : Option Int → En → R En α} {A : α → En → Prop} {Q : Option Int → Hp → Prop} (R0 : Rel W G en σ F H) (h : Out W E G σ A ((f en).bind k))
    (hq : ∀ r en' F' H', Out W E G σ A (k r en') → Rel W G en' σ F' H' → Ex F F' → Q r H') : tPt W E f σ H Q := by
  refine ⟨G, F, en, R0, ?_⟩
  cases e : f en with
  | ok r en' => rw [e] at h; exact fun F' H' R' x => hq r en' F' H' h R' x
  | exc c fs s => rw [e] at h; exact h
  | bad => rw [e] at h; exact h
def SlS (W : Wc) (r : V → Option Int → Option Int → Hp → VK → Prop) (g : D → Option Int → Option Int → Option ER) : Prop := ∀ F H x d lo hi rr Q, Ex F H → VB W F H x d → g d lo hi = some rr → Res W F H rr Q → r x lo hi H Q
theorem ev_sl {lo hi : Option Expr} {fl fh : Option (M ER)} {r : V → Option Int → Option Int → Hp → VK → Prop} {g : D → Option Int → Option Int → Option ER} (hr : SlR X r) (S : SlS W r g) (ha : EV W E X a fa) (hl : PtV W E X lo fl) (hh : PtV W E X hi fh) : EV W E X (.Subscript a (.Slice lo hi none p2) pos) (eSl g fa fl fh) := by
  refine PE.imp (pe_slice hr ha hl hh) fun σ H Q hq => ?_
  obtain ⟨G, F, en, R, h⟩ := tE.out.mp hq
  refine ev_then R h fun ra en1 x F1 H1 h1 R1 x1 va => ?_
  refine po_then R1 h1 fun l en2 F2 H2 h2 R2 x2 => ?_
  refine po_then R2 h2 fun u en3 F3 H3 h3 R3 x3 => ?_
  cases q : cur en3 ra with
  | none => simp only [q] at h3; exact h3.elim
  | some d =>
    cases q2 : g d l u with
    | none => simp only [q, q2] at h3; exact h3.elim
    | some rr =>
      simp only [q, q2] at h3
      exact S F3 H3 x d l u rr Q R3.sub (((va.mono x2).mono x3).vb R3 q) q2 fun v F' H' s n => h3 v F' H' (R3.stp s) (((x1.trans x2).trans x3).trans s.ex) (n.vr R3)
def rSl (K : PySem.W.Frag) : V → Option Int → Option Int → Hp → VK → Prop := fun x lo hi H Q => rSlL K x lo hi H Q ∨ rSlA K x lo hi H Q ∨ rSlS x lo hi H Q
theorem sl_any : SlR X (rSl X.K) := SlR.or sl_list (SlR.or sl_tupA sl_str)
theorem s_sl : SlS W (rSl W.K) dSl := by
  intro F H x d lo hi rr Q hs hx e q
  unfold dSl at e
  split at e
  · cases e
    obtain ⟨p, vs, rfl, k, l⟩ := hx.lst hs
    exact .inl ⟨p, vs, rfl, SqL.of k, res_lst hs q (cutV_dl l)⟩
  · cases e
    obtain ⟨p, vs, rfl, k, l⟩ := hx.rol hs
    exact .inl ⟨p, vs, rfl, k, res_lst hs q (cutV_dl l)⟩
  · cases e
    rcases hx with hx | ⟨_, _, t, _⟩
    · cases id hx with
      | tup k l c =>
        rename_i ds p vs
        refine .inr (.inl ⟨_, _, rfl, SqT.of (hs _ _ k), fun z => ?_, fun _ => res_tup hs q (cutV_dl ⟨l, c⟩)⟩)
        refine res_sh hs q ?_
        have : cutL ds lo hi = ds := by
          unfold cutL
          rw [← l, z.1, z.2]
          simp [l]
        rw [this]
        exact hx
    · exact t.elim
  · rename_i z
    split at e
    · rename_i hz
      cases e
      exact .inr (.inr ⟨z, hx.str, lim_size hz, res_sh hs q (Dat.str _)⟩)
    · cases e
  · cases e

/-! methods of texts -/
theorem ev_m1 {id : String} {name : Str} {r : V → List V → Hp → VK → Prop} {g : D → List D → Option ER} (slot : Slot "str" name id) (ty : typeOf (.builtin id) = pure (.type "method_descriptor")) (rule : MtR X id r) (S : MetS W r g) (ho : EV W E X o fo) (ha : EV W E X a fa)
    (hs : starEach [a] X.env = [(false, eval a X.env)] := by rfl) (hbase : attributeBase o name X.env (eval o X.env) = eval o X.env := by rfl) (hline : (apos.endLine == pos.line) = true := by rfl) : EV W E X (.Call (.Attribute o name apos) [a] [] pos) (eMetS g fo [fa]) := by
  refine PE.imp (pe_m1 slot ty rule ho ha hs hbase hline) fun σ H Q hq => ?_
  obtain ⟨G, F, en, R, h⟩ := tE.out.mp hq
  refine ev_then R h fun ro en1 x F1 H1 h1 R1 x1 va => ?_
  cases ro with
  | sh d =>
    cases d with
    | str z =>
      have va' : Dat W F1 x (.str z) := va
      cases va'
      refine ⟨⟨z, rfl⟩, ?_⟩
      simp only at h1
      have h1' : Out W E G σ (AE W G σ F Q) ((fa en1).bind fun r en2 => match curs en2 [r] with
        | some ds => (match g (.str z) ds with | some r => .ok r en2 | none => .bad)
        | _ => .bad) := by
        revert h1
        show Out W E G σ (AE W G σ F Q) (((fa en1).bind fun r en2 => .ok [r] en2).bind _) → _
        cases fa en1 <;> exact fun h => h
      refine ev_then R1 h1' fun ra en2 y F2 H2 h2 R2 x2 vb => ?_
      cases q : curs en2 [ra] with
      | none => simp only [q] at h2; exact h2.elim
      | some ds =>
        cases q2 : g (.str z) ds with
        | none => simp only [q, q2] at h2; exact h2.elim
        | some rr =>
          simp only [q, q2] at h2
          have vbs : VBs W F2 H2 [y] ds := curs_ok (rs := [ra]) (vs := [y]) ⟨vb, trivial⟩ R2 q
          exact S F2 H2 (.str z) [y] (.str z) ds rr Q R2.sub (.inl (Dat.str z)) vbs q2 fun v F' H' s n => h2 v F' H' (R2.stp s) ((x1.trans x2).trans s.ex) (n.vr R2)
    | _ => exact h1.elim
  | _ => exact h1.elim
theorem ev_m0 {id : String} {name : Str} {r : V → List V → Hp → VK → Prop} {g : D → List D → Option ER} (slot : Slot "str" name id) (ty : typeOf (.builtin id) = pure (.type "method_descriptor")) (rule : MtR X id r) (S : MetS W r g) (ho : EV W E X o fo)
    (hbase : attributeBase o name X.env (eval o X.env) = eval o X.env := by rfl) (hline : (apos.endLine == pos.line) = true := by rfl) : EV W E X (.Call (.Attribute o name apos) [] [] pos) (eMetS g fo []) := by
  refine PE.imp (pe_m0 slot ty rule ho hbase hline) fun σ H Q hq => ?_
  obtain ⟨G, F, en, R, h⟩ := tE.out.mp hq
  refine ev_then R h fun ro en1 x F1 H1 h1 R1 x1 va => ?_
  cases ro with
  | sh d =>
    cases d with
    | str z =>
      have va' : Dat W F1 x (.str z) := va
      cases va'
      refine ⟨⟨z, rfl⟩, ?_⟩
      have h2 : Out W E G σ (AE W G σ F Q) (match g (.str z) [] with | some r => .ok r en1 | none => .bad) := h1
      cases q2 : g (.str z) [] with
      | none => simp only [q2] at h2; exact h2.elim
      | some rr =>
        simp only [q2] at h2
        exact S F1 H1 (.str z) [] (.str z) [] rr Q R1.sub (.inl (Dat.str z)) trivial q2 fun v F' H' s n => h2 v F' H' (R1.stp s) (x1.trans s.ex) (n.vr R1)
    | _ => exact h1.elim
  | _ => exact h1.elim
theorem res_strs {ys : List Str} {Q : VK} (x : Ex F H) (q : Res W F H (.fr (.lst (ys.map strD))) Q) : rNewStrs ys H Q := res_lst x q (DL.of_strs ys)
theorem len_pos {b : Str} (h : b.length ≠ 0) : (b.length == 0) = false := by simpa using h
theorem s_split : MetS W (fun x xs H Q => ∃ a b, x = .str a ∧ xs = [.str b] ∧ (b.length == 0) = false ∧ a.length + 2 ≤ sizeLine ∧ rNewStrs (Txt.split a b) H Q) gSplit := by
  intro F H x xs dx ds r Q hs hx hv e q
  match dx, ds, e with
  | .str a, [.str b], e =>
    have e' : (if b.length ≠ 0 ∧ a.length ≤ 1000000 then some (ER.fr (.lst ((Txt.split a b).map strD))) else none) = some r := e
    split at e'
    · rename_i hb
      cases e'
      obtain ⟨v, rfl, vb⟩ := vbs1 hv
      exact ⟨a, b, hx.str, by rw [vb.str], len_pos hb.1, Nat.le_trans (Nat.add_le_add_right hb.2 2) (by decide), res_strs hs q⟩
    · cases e'
theorem s_partition : MetS W (fun x xs H Q => ∃ a b, x = .str a ∧ xs = [.str b] ∧ (b.length == 0) = false ∧ a.length ≤ sizeLine ∧ ∀ p, H p = none → Q (.ref p) (upd H p (.tup [.str (Txt.partition a b).1, .str (Txt.partition a b).2.1, .str (Txt.partition a b).2.2]))) gPartition := by
  intro F H x xs dx ds r Q hs hx hv e q
  match dx, ds, e with
  | .str a, [.str b], e =>
    have e' : (if b.length ≠ 0 ∧ a.length ≤ 1000000 then some (ER.sh (.tup [.str (Txt.partition a b).1, .str (Txt.partition a b).2.1, .str (Txt.partition a b).2.2])) else none) = some r := e
    split at e'
    · rename_i hb
      cases e'
      obtain ⟨v, rfl, vb⟩ := vbs1 hv
      exact ⟨a, b, hx.str, by rw [vb.str], len_pos hb.1, lim_size hb.2, res_tup hs q (DL.cons (Dat.str _) (DL.cons (Dat.str _) (DL.cons (Dat.str _) DL.nil)))⟩
    · cases e'
theorem seqA_ok {v : V} {d : D} {ds : List D} (h : VB W F H v d) (hs : Ex F H) (e : seqA d = some ds) : ∃ p vs, v = .ref p ∧ (SqL W.K H p vs ∨ SqT W.K H p vs) ∧ DL W F vs ds := by
  cases d with
  | lst ds' => cases e; obtain ⟨p, vs, rfl, k, l⟩ := h.lst hs; exact ⟨p, vs, rfl, .inl (SqL.of k), l⟩
  | rol ds' => cases e; obtain ⟨p, vs, rfl, k, l⟩ := h.rol hs; exact ⟨p, vs, rfl, .inl k, l⟩
  | tup ds' => cases e; obtain ⟨p, vs, rfl, k, l⟩ := h.tup hs; exact ⟨p, vs, rfl, .inr (SqT.of k), l⟩
  | rot ds' => cases e; obtain ⟨p, vs, rfl, k, l⟩ := h.rot hs; exact ⟨p, vs, rfl, .inr k, l⟩
  | _ => cases e
theorem s_join : MetS W (fun x xs H Q => ∃ a p, ∃ ys : List Str, x = .str a ∧ xs = [.ref p] ∧ (SqL W.K H p (ys.map V.str) ∨ SqT W.K H p (ys.map V.str)) ∧ (ys.map (·.length)).sum + ys.length * a.length ≤ 16777216 ∧ Q (.str (Txt.join a ys)) H) gJoin := by
  intro F H x xs dx ds r Q hs hx hv e q
  match dx, ds, e with
  | .str a, [d], e =>
    have e' : (match (seqA d).bind strsOf? with
      | some ys => if (ys.map (·.length)).sum + ys.length * a.length ≤ 1000000 then some (ER.sh (.str (Txt.join a ys))) else none
      | none => none) = some r := e
    split at e'
    · rename_i ys hy
      split at e'
      · rename_i hn
        cases e'
        obtain ⟨v, rfl, vb⟩ := vbs1 hv
        cases q1 : seqA d with
        | none => rw [q1] at hy; cases hy
        | some ds =>
          rw [q1] at hy
          obtain ⟨p, vs, rfl, k, l⟩ := seqA_ok vb hs q1
          rw [strsOf_ok hy] at l
          exact ⟨a, p, ys, hx.str, rfl, by rw [← l.strs]; exact k, Nat.le_trans hn (by decide), res_sh hs q (Dat.str _)⟩
      · cases e'
    · cases e'
theorem s_startswith : MetS W (fun x xs H Q => ∃ a b, x = .str a ∧ xs = [.str b] ∧ Q (.bl (Txt.startswith a b)) H) gStartswith := by
  intro F H x xs dx ds r Q hs hx hv e q
  match dx, ds, e with
  | .str a, [.str b], e =>
    cases e
    obtain ⟨v, rfl, vb⟩ := vbs1 hv
    exact ⟨a, b, hx.str, by rw [vb.str], res_sh hs q (Dat.bl _)⟩
theorem s_lower : MetS W (fun x xs H Q => ∃ a, x = .str a ∧ xs = [] ∧ a.length ≤ 5592405 ∧ Q (.str (Txt.lower a)) H) gLower := by
  intro F H x xs dx ds r Q hs hx hv e q
  match dx, ds, xs, hv, e with
  | .str a, [], [], hv, e =>
    have e' : (if a.length ≤ 1000000 then some (ER.sh (.str (Txt.lower a))) else none) = some r := e
    split at e'
    · rename_i hb; cases e'; exact ⟨a, hx.str, rfl, Nat.le_trans hb (by decide), res_sh hs q (Dat.str _)⟩
    · cases e'
theorem s_upper : MetS W (fun x xs H Q => ∃ a, x = .str a ∧ xs = [] ∧ a.length ≤ 5592405 ∧ Q (.str (Txt.upper a)) H) gUpper := by
  intro F H x xs dx ds r Q hs hx hv e q
  match dx, ds, xs, hv, e with
  | .str a, [], [], hv, e =>
    have e' : (if a.length ≤ 1000000 then some (ER.sh (.str (Txt.upper a))) else none) = some r := e
    split at e'
    · rename_i hb; cases e'; exact ⟨a, hx.str, rfl, Nat.le_trans hb (by decide), res_sh hs q (Dat.str _)⟩
    · cases e'

/-! methods that change -/
theorem cellAt_ok {k i : Nat} {d : D} (R : Rel W G en σ F H) (e : cellAt k en i = some d) : ∃ s ad, en[i]? = some s ∧ s.mu = true ∧ s.dat = some d ∧ kindN d = k ∧ σ[i]? = some (some (.ref ad)) ∧ Top W F H ad d ∧ F ad = none := by
  unfold cellAt at e
  cases q : en[i]? with
  | none => simp only [q] at e; cases e
  | some s =>
    simp only [q] at e
    split at e
    · rename_i hm
      cases qd : s.dat with
      | none => simp only [qd] at e; cases e
      | some d' =>
        simp only [qd] at e
        split at e
        · rename_i hk
          cases e
          obtain ⟨ad, d2, h1, h2, h3, h4⟩ := (R.slot i s q).own (Sl.mu_own hm)
          rw [qd] at h2; cases h2
          exact ⟨s, ad, rfl, hm, qd, hk, h1, h3, h4⟩
        · cases e
    · cases e
theorem putD_eq {i : Nat} {s : Sl} {d : D} (e : en[i]? = some s) : putD en i d = en.set i (s.with d) := by
  unfold putD
  simp only [e]
theorem tyV_list {ad : Addr} {d : D} (t : Top W F H ad d) (k : kindN d = 1) : tyV X.K "list" (.ref ad) H := by
  cases d with
  | lst ds => obtain ⟨vs, h, l⟩ := t; exact .inl ⟨rfl, vs, SqL.of h⟩
  | dk _ => cases k
  | dt _ => cases k
  | ins _ _ => cases k
  | _ => exact t.elim
/-- x.m(..), x the name in slot i, a list -/
theorem ev_mut (i : Nat) {x : Str} {p : Pos} {name : Str} {id : String} {r : V → List V → Hp → VK → Prop} {g : D → List D → Option (D × D)} (slot : Slot "list" name id) (hty : typeOf (.builtin id) = pure (.type "method_descriptor")) (hm : MtR X id r) (S : MutS W r g) (ha : AV W E X (e0 :: es) (eA fs))
    (hN : X.N[i]? = some x := by rfl) (hv : Vis X.env.scope x := by first | exact Or.inl rfl | exact Or.inr (Or.inl rfl) | exact Or.inr (Or.inr rfl)) (hd : (x == ("__debug__" : Str)) = false := by decide) (hcd : (x == ("__classdict__" : Str)) = false := by decide) (pa : PlainAttrs "list" := by exact PySem.F.plainAttrs_list)
    (hbase : attributeBase (.Name x p) name X.env (eval (.Name x p) X.env) = eval (.Name x p) X.env := by rfl)
    (hfew : ((backTo pos (starEach (e0 :: es) X.env)).all (fun x => !x.1) && (backToKw pos (keywordEach [] X.env)).all (fun x => x.1.isSome)
      && decide ((e0 :: es).length + ([] : List Keyword).length + (if ([] : List Keyword).isEmpty then 0 else 1) < 30)) = true := by rfl)
    (hline : (apos.endLine == pos.line) = true := by rfl) (hs : starEach (e0 :: es) X.env = (false, eval e0 X.env) :: starEach es X.env := by rfl) (hplain : (backTo pos (starEach es X.env)).any (·.1) = false := by rfl) :
    EV W E X (.Call (.Attribute (.Name x p) name apos) (e0 :: es) [] pos) (eMut 1 i g fs) := by
  refine PE.imp (pe_bm pa slot hty hm (pe_var hN hv hd hcd) ha hbase hfew hline hs hplain) fun σ H Q hq => ?_
  obtain ⟨G, F, en, R, h⟩ := tE.out.mp hq
  unfold eMut at h
  cases e1 : cellAt 1 en i with
  | none => simp only [e1] at h; exact h.elim
  | some d0 =>
    simp only [e1] at h
    obtain ⟨s, ad, q1, q2, q3, q4, q5, q6, q7⟩ := cellAt_ok R e1
    refine ⟨_, q5, tyV_list q6 q4, ?_⟩
    refine av_then R h fun rs en1 vs F1 H1 h1 R1 x1 hw => ?_
    obtain ⟨ds, en2, F2, x2, dl, R2, h2⟩ := shrs_out (E := E) (A := AE W G σ F Q) (k := fun ds en2 => (match cellAt 1 en2 i with
      | none => .bad
      | some d => (match g d ds with
        | some (d', r) => .ok (.sh r) (putD en2 i d')
        | none => .bad) : Fw.R En ER)) hw R1 (by revert h1; cases shrs rs en1 with
          | none => exact fun h => h
          | some p => exact fun h => h)
    cases e2 : cellAt 1 en2 i with
    | none => simp only [e2] at h2; exact h2.elim
    | some d =>
      simp only [e2] at h2
      obtain ⟨s2, ad2, k1, k2, k3, k4, k5, k6, k7⟩ := cellAt_ok R2 e2
      rw [q5] at k5; cases k5
      cases e3 : g d ds with
      | none => simp only [e3] at h2; exact h2.elim
      | some pr =>
        obtain ⟨d', r⟩ := pr
        simp only [e3] at h2
        rw [putD_eq k1] at h2
        exact S F2 H1 ad vs d ds d' r Q R2.sub k7 k6 dl e3 fun v o t dv => h2 v F2 _ (R2.mut k1 k2 q5 t) (x1.trans x2) dv
theorem ev_mut0 (i : Nat) {x : Str} {p : Pos} {name : Str} {id : String} {r : V → List V → Hp → VK → Prop} {g : D → List D → Option (D × D)} (slot : Slot "list" name id) (hty : typeOf (.builtin id) = pure (.type "method_descriptor")) (hm : MtR X id r) (S : MutS W r g)
    (hN : X.N[i]? = some x := by rfl) (hv : Vis X.env.scope x := by first | exact Or.inl rfl | exact Or.inr (Or.inl rfl) | exact Or.inr (Or.inr rfl)) (hd : (x == ("__debug__" : Str)) = false := by decide) (hcd : (x == ("__classdict__" : Str)) = false := by decide) (pa : PlainAttrs "list" := by exact PySem.F.plainAttrs_list)
    (hbase : attributeBase (.Name x p) name X.env (eval (.Name x p) X.env) = eval (.Name x p) X.env := by rfl) (hline : (apos.endLine == pos.line) = true := by rfl) :
    EV W E X (.Call (.Attribute (.Name x p) name apos) [] [] pos) (eMut 1 i g []) := by
  refine PE.imp (pe_bm0 pa slot hty hm (pe_var hN hv hd hcd) hbase hline) fun σ H Q hq => ?_
  obtain ⟨G, F, en, R, h⟩ := tE.out.mp hq
  unfold eMut at h
  cases e1 : cellAt 1 en i with
  | none => simp only [e1] at h; exact h.elim
  | some d =>
    simp only [e1] at h
    obtain ⟨s, ad, q1, q2, q3, q4, q5, q6, q7⟩ := cellAt_ok R e1
    refine ⟨_, q5, tyV_list q6 q4, ?_⟩
    have h2 : Out W E G σ (AE W G σ F Q) (match cellAt 1 en i with
      | none => .bad
      | some d => (match g d [] with
        | some (d', r) => .ok (.sh r) (putD en i d')
        | none => .bad)) := h
    simp only [e1] at h2
    cases e3 : g d [] with
    | none => simp only [e3] at h2; exact h2.elim
    | some pr =>
      obtain ⟨d', r⟩ := pr
      simp only [e3] at h2
      rw [putD_eq q1] at h2
      exact S F H ad [] d [] d' r Q R.sub q7 q6 DL.nil e3 fun v o t dv => h2 v F _ (R.mut q1 q2 q5 t) (Ex.refl F) dv
theorem s_append : MutS W rAppend gAppend := by
  intro F H ad xs d ds d' r Q hs hF t l e q
  match d, ds, e with
  | .lst ys, [y], e =>
    have e' : (if ys.length < 1000000 then some (D.lst (ys ++ [y]), D.non) else none) = some (d', r) := e
    split at e'
    · rename_i hy
      cases e'
      obtain ⟨vs, h, lv⟩ := t
      obtain ⟨v, rfl, dv⟩ := dl1 l
      refine ⟨ad, vs, v, rfl, rfl, h, ?_, q .non _ ⟨_, upd_same, lv.append (DL.cons dv DL.nil)⟩ Dat.non⟩
      rw [lv.1]; exact Nat.lt_of_lt_of_le hy (by decide)
    · cases e'
theorem DL.dropLast {vs : List V} {ds : List D} (l : DL W F vs ds) : DL W F vs.dropLast ds.dropLast := by
  rw [List.dropLast_eq_take, List.dropLast_eq_take, l.1]
  exact l.take _
theorem s_pop : MutS W rPop gPop := by
  intro F H ad xs d ds d' r Q hs hF t l e q
  match d, ds, e with
  | .lst ys, [], e =>
    have e' : (match ys[ys.length - 1]? with | some x => some (D.lst ys.dropLast, x) | none => none) = some (d', r) := e
    split at e'
    · rename_i x hx
      cases e'
      obtain ⟨vs, h, lv⟩ := t
      obtain ⟨v, hv, dv⟩ := lv.get hx
      exact ⟨ad, vs, v, rfl, l.inv_nil, h, by rw [lv.1]; exact hv, q v _ ⟨_, upd_same, lv.dropLast⟩ dv⟩
    · cases e'
theorem s_clear : MutS W rClear gClear := by
  intro F H ad xs d ds d' r Q hs hF t l e q
  match d, ds, e with
  | .lst ys, [], e =>
    cases e
    obtain ⟨vs, h, lv⟩ := t
    exact ⟨ad, vs, rfl, l.inv_nil, h, q .non _ ⟨_, upd_same, DL.nil⟩ Dat.non⟩
/-- x[i] = e, x the name in slot i, a list -/
theorem sv_putL (i : Nat) {x : Str} {p tpos : Pos} {ie : Expr} {fi fe : M ER} (hN : X.N[i]? = some x := by rfl) (hI : EV W E X ie fi) (hE : EV W E X a fe) (hv : Vis X.env.scope x := by first | exact Or.inl rfl | exact Or.inr (Or.inl rfl) | exact Or.inr (Or.inr rfl)) (hd : (x == ("__debug__" : Str)) = false := by decide) (hcd : (x == ("__classdict__" : Str)) = false := by decide)
    (ha : ∀ v, assign (.Subscript (.Name x p) ie tpos) X.env v = (do
      let ov ← holding [v] (eval (.Name x p) X.env)
      let iv ← holding [v, ov] (eval ie X.env)
      standAt tpos
      holding [v, ov, iv] (setItem ov iv v)
      release [v, ov, iv] []) := by intro _; rfl)
    (hs : swapsWithSole [.Subscript (.Name x p) ie tpos] a pos.line X.env = pure false := by rfl) (hw : swappedStores [.Subscript (.Name x p) ie tpos] a X.env = pure none := by rfl)
    (h1 : (assignEach [.Subscript (.Name x p) ie tpos] X.env).map (·.2) = [assign (.Subscript (.Name x p) ie tpos) X.env] := by rfl) : SV W E X (.Assign [.Subscript (.Name x p) ie tpos] a pos) (sPut 1 i gSetL fi fe) := by
  refine PS.imp (ps_asg hE (pg_sub (pe_var hN hv hd hcd) hI set_list ha) hs hw h1) fun D σ H hq => ?_
  obtain ⟨G, F, en, R, h⟩ := tS.out.mp hq
  refine es_then R h fun rv en1 v F1 H1 h1 R1 x1 vr => ?_
  obtain ⟨F2, x2, vw, R2⟩ := vr.vw R1
  cases e1 : shr en1 rv with
  | none => simp only [e1] at h1; exact h1.elim
  | some pr =>
    obtain ⟨dv, en2⟩ := pr
    simp only [e1] at h1
    obtain ⟨F3, x3, hdv, R3⟩ := shr_ok vw R2 e1
    have go : SOut W E G D (sPut.putAt 1 i gSetL fi dv en2) ∧ ∃ ad, σ[i]? = some (some (.ref ad)) := by
      cases e2 : en2[i]? with
      | none => simp only [e2] at h1; exact h1.elim
      | some s =>
        have hs := R3.slot i s e2
        cases s with
        | ow d => simp only [e2] at h1; exact ⟨h1, let ⟨ad, k, _⟩ := hs; ⟨ad, k⟩⟩
        | pn m d => simp only [e2] at h1; exact ⟨h1, let ⟨ad, k, _⟩ := hs; ⟨ad, k⟩⟩
        | _ => simp only [e2] at h1; exact h1.elim
    obtain ⟨h2, ad, ha'⟩ := go
    refine ⟨_, ha', ?_⟩
    refine es_then R3 h2 fun ri en3 w F4 H4 h3 R4 x4 wr => ?_
    obtain ⟨F5, x5, ww, R5⟩ := wr.vw R4
    cases e3 : shr en3 ri with
    | none => simp only [e3] at h3; exact h3.elim
    | some pr2 =>
      obtain ⟨di, en4⟩ := pr2
      simp only [e3] at h3
      obtain ⟨F6, x6, hdi, R6⟩ := shr_ok ww R5 e3
      cases e4 : cellAt 1 en4 i with
      | none => simp only [e4] at h3; exact h3.elim
      | some d =>
        simp only [e4] at h3
        obtain ⟨s2, ad2, k1, k2, k3, k4, k5, k6, k7⟩ := cellAt_ok R6 e4
        rw [ha'] at k5; cases k5
        cases e5 : gSetL d di dv with
        | none => simp only [e5] at h3; exact h3.elim
        | some d' =>
          simp only [e5] at h3
          rw [putD_eq k1] at h3
          match d, di, e5 with
          | .lst xs, .int n, e5 =>
            have e5' : (match ixN xs.length n with | some j => some (Fw.D.lst (xs.set j dv)) | none => none) = some d' := e5
            split at e5'
            · rename_i j hj
              cases e5'
              obtain ⟨vs, t, l⟩ := k6
              cases hdi
              have hdv' := ((hdv.mono x4).mono x5).mono x6
              exact ⟨ad, vs, n, j, rfl, rfl, t, by rw [l.1]; exact hj, h3 σ F6 _ (R6.mut k1 k2 ha' ⟨_, upd_same, l.set j hdv'⟩)⟩
            · cases e5'
end
end Fw
set_option Elab.async false
set_option linter.all false
set_option maxRecDepth 100000
namespace Fw
open PySem PySem.Spec PyProof.Rows L2
section
variable {W : Wc} {E : St → XK} {X : Cx} {a b c o : Expr} {e0 : Expr} {es : List Expr} {fs : List (M ER)} {fa fb fc fo : M ER} {pos apos p2 : Pos} {G : Gc} {en en' : En} {σ : St} {F H : Hp} {De : Ends}
theorem bv_chain {op op' : CmpOp} {r2 r2' : R2} {g g' : D → D → Option ER} (ho : OpR X (compareOp op) r2) (ho' : OpR X (compareOp op') r2') (S : OpS W r2 g) (S' : OpS W r2' g') (ha : EV W E X a fa) (hb : EV W E X b fb) (hc : EV W E X c fc)
    (hm : lastMarks [op, op'] [b, c] = false := by with_unfolding_all rfl) : BV W E X (.Compare a [op, op'] [b, c] pos) (mB (eChain g g' fa fb fc)) := by
  refine PT.imp (pt_chain ho ho' ha hb hc hm) fun σ H Q hq => ?_
  obtain ⟨G, F, en, R, h⟩ := tT.out.mp hq
  have h' : Out W E G σ (AT W G σ F Q) ((fa en).bind fun ra en1 => (fb en1).bind fun rb en2 => (op2 g en2 ra rb).bind fun r en3 => (toB r en3).bind fun b en4 =>
      if b = true then ((fc en4).bind fun rc en5 => (op2 g' en5 rb rc).bind toB) else .ok false en4) := by
    revert h
    unfold mB eChain
    cases fa en with
    | bad => exact fun h => h
    | exc c fs s => exact fun h => h
    | ok ra s1 =>
      simp only [Fw.R.bind_ok]
      cases fb s1 with
      | bad => exact fun h => h
      | exc c fs s => exact fun h => h
      | ok rb s2 =>
        simp only [Fw.R.bind_ok]
        cases op2 g s2 ra rb with
        | bad => exact fun h => h
        | exc c fs s => exact fun h => h
        | ok r s3 =>
          simp only [Fw.R.bind_ok]
          cases toB r s3 with
          | bad => exact fun h => h
          | exc c fs s => exact fun h => h
          | ok k s4 =>
            simp only [Fw.R.bind_ok]
            cases k with
            | false => simp only [if_neg Bool.false_ne_true]; exact fun h => h
            | true =>
              simp only [if_true]
              cases fc s4 with
              | bad => exact fun h => h
              | exc c fs s => exact fun h => h
              | ok rc s5 => exact fun h => h
  refine ev_then R h' fun ra en1 x F1 H1 h1 R1 x1 va => ?_
  refine ev_then R1 h1 fun rb en2 y F2 H2 h2 R2 x2 vb => ?_
  refine op2_out (E := E) (A := fun r en' => Out W E G σ (AT W G σ F Q) ((toB r en').bind fun b en4 => if b = true then ((fc en4).bind fun rc en5 => (op2 g' en5 rb rc).bind toB) else .ok false en4)) S R2 (va.mono x2) vb ?_ fun r v F' H' A s n => ?_
  · revert h2
    cases e : op2 g en2 ra rb with
    | ok r s => exact fun h => h
    | exc c fs s => exact fun h => h
    | bad => exact fun h => h
  · obtain ⟨k, rfl, h3⟩ := toB_out A
    refine ⟨k, n.bl, ?_⟩
    have R3 := R2.stp s
    have x3 := (x1.trans x2).trans s.ex
    cases k with
    | false => exact ⟨false, rfl, h3 F' H' R3 x3⟩
    | true =>
      refine ev_then R3 h3 fun rc en5 z F4 H4 h4 R4 x4 vc => ?_
      refine op2_out (E := E) (A := fun r en' => Out W E G σ (AT W G σ F Q) (toB r en')) S' R4 ((vb.mono s.ex).mono x4) vc ?_ fun r v F' H' A s n => ?_
      · revert h4
        cases e : op2 g' en5 rb rc with
        | ok r s => exact fun h => h
        | exc c fs s => exact fun h => h
        | bad => exact fun h => h
      · obtain ⟨b, rfl, h5⟩ := toB_out' A
        exact ⟨b, n.bl, h5 F' H' (R4.stp s) ((x3.trans x4).trans s.ex)⟩
theorem s_strip1 : MetS W (fun x xs H Q => ∃ a b, x = .str a ∧ xs = [.str b] ∧ a.length ≤ sizeLine ∧ Q (.str (Txt.stripChars a b)) H) gStrip1 := by
  intro F H x xs dx ds r Q hs hx hv e q
  match dx, ds, e with
  | .str a, [.str b], e =>
    have e' : (if a.length ≤ 1000000 then some (ER.sh (.str (Txt.stripChars a b))) else none) = some r := e
    split at e'
    · rename_i hb; cases e'
      obtain ⟨v, rfl, vb⟩ := vbs1 hv
      exact ⟨a, b, hx.str, by rw [vb.str], lim_size hb, res_sh hs q (Dat.str _)⟩
    · cases e'
theorem i_add : IpS W (ipI fun i j => i + j) (fun x y => match x, y with | .int i, .int j => some (.sh (.int (i + j))) | _, _ => none) := by
  intro F H x y dx dy r Q hs hx hy e q
  match dx, dy, e with
  | .int i, .int j, e => cases e; exact ⟨i, j, hx.int, hy.int, res_sh hs q (Dat.int _)⟩
end
/-- a def of the module, for whoever calls it -/
structure DefIn (P : Program) (w : World) (K : PySem.W.Frag) (mg : Str → Option Value) (base : Heap) (W : Wc) (x : Str) (ps : List Str) (k : Nat) (m : FM) where
  f : Addr
  fd : FuncData
  d : Fd P w K mg base x ps k (spM W m) f fd
  b : Binds K fd ps []
end Fw
set_option Elab.async false
set_option linter.all false
set_option maxRecDepth 100000
namespace Fw
open PySem PySem.Spec PyProof.Rows L2
/-! ### evaluation, step by step -/
section
variable {en en1 : En} {f g : SM} {fa fb fc : M ER} {fs : List (M ER)} {ga gb : M Bool}
theorem eC_ap {d : D} : eC d en = .ok (.sh d) en := rfl
theorem eVar_ap {i : Nat} : eVar i en = (match en[i]? with
  | some (.sh d) => .ok (.sh d) en
  | some (.ow _) => .ok (.bo i) en
  | some (.pn _ _) => .ok (.bo i) en
  | some (.lk _) => .ok (.bo i) en
  | _ => .bad) := rfl
theorem e2_ap {h : D → D → Option ER} : e2 h fa fb en = (fa en).bind fun ra en1 => (fb en1).bind fun rb en2 => op2 h en2 ra rb := rfl
theorem op2_ap {h : D → D → Option ER} {ra rb : ER} : op2 h en ra rb = (match cur en ra, cur en rb with
  | some x, some y => (match h x y with | some r => .ok r en | none => .bad)
  | _, _ => .bad) := rfl
theorem cur_sh {d : D} : cur en (.sh d) = some d := rfl
theorem cur_fr {d : D} : cur en (.fr d) = some d := rfl
theorem cur_bo {i : Nat} : cur en (.bo i) = (en[i]?).bind Sl.dat := rfl
theorem e1_ap {h : D → Option ER} : e1 h fa en = (fa en).bind fun ra en1 => (match cur en1 ra with
  | some x => (match h x with | some r => .ok r en1 | none => .bad)
  | none => .bad) := rfl
theorem eA_nil : eA [] en = .ok [] en := rfl
theorem eA_cons : eA (fa :: fs) en = (fa en).bind fun r en1 => (eA fs en1).bind fun rs en2 => .ok (r :: rs) en2 := rfl
theorem eB_ap {h : List D → Option ER} : eB h fs en = (eA fs en).bind fun rs en1 => (match curs en1 rs with
  | some ds => (match h ds with | some r => .ok r en1 | none => .bad)
  | none => .bad) := rfl
theorem curs_nil : curs en [] = some [] := rfl
theorem curs_cons {r : ER} {rs : List ER} : curs en (r :: rs) = (match cur en r, curs en rs with
    | some d, some ds => some (d :: ds)
    | _, _ => none) := rfl
theorem eTup_ap : eTup fs en = (eA fs en).bind fun rs en1 => (match shrs rs en1 with
  | some (ds, en2) => .ok (.sh (.tup ds)) en2
  | none => .bad) := rfl
theorem eLst_ap : eLst fs en = (eA fs en).bind fun rs en1 => (match shrs rs en1 with
  | some (ds, en2) => .ok (.fr (.lst ds)) en2
  | none => .bad) := rfl
theorem shrs_nil : shrs [] en = some ([], en) := rfl
theorem shrs_cons {r : ER} {rs : List ER} : shrs (r :: rs) en = (match shr en r with
    | some (d, en1) => (match shrs rs en1 with | some (ds, en2) => some (d :: ds, en2) | none => none)
    | none => none) := rfl
theorem shr_sh {d : D} : shr en (.sh d) = some (d, en) := rfl
theorem shr_fr {d : D} : shr en (.fr d) = some (d, en) := rfl
theorem shr_bo {i : Nat} : shr en (.bo i) = (match en[i]? with
    | some (.sh d) => some (d, en)
    | some (.ow d) => some (d, en.set i (.sh d))
    | _ => none) := rfl
theorem eF_ap {io : List Bool} {m : FM} {dds : List D} : eF io m dds fs en = (eA fs en).bind (callM io m dds) := rfl
theorem callM_ap {io : List Bool} {m : FM} {dds : List D} {rs : List ER} : callM io m dds rs en = (match passAll io en rs with
  | some args => if ioOk io rs = true then (match m (args ++ dds.map .sh) with
    | .ok r outs => .ok r (putOuts (ioSlots io rs) outs en)
    | .exc c fs outs => .exc c fs (putOuts (ioSlots io rs) outs en)
    | .bad => .bad) else .bad
  | none => .bad) := rfl
theorem sSeq_ap : sSeq f g en = (match f en with
  | .nx en' => g en'
  | .rt r en' => .rt r en'
  | .bk en' => .bk en'
  | .ct en' => .ct en'
  | .exc c fs en' => .exc c fs en'
  | .bad => .bad) := rfl
theorem sSet_ap {i : Nat} : sSet i fa en = (fa en).then (put i) := rfl
theorem then_ok {α : Type} {a : α} {k : α → En → O} : (R.ok a en : R En α).then k = k a en := rfl
theorem put_sh {i : Nat} {d : D} {s : Sl} (h : en[i]? = some s) (hp : s.isPn = false) : put i (.sh d) en = .nx (en.set i (.sh d)) := by
  unfold put; simp only [h]; rw [if_neg (by simp [hp])]
theorem put_fr {i : Nat} {d : D} {s : Sl} (h : en[i]? = some s) (hp : s.isPn = false) : put i (.fr d) en = .nx (en.set i (.ow d)) := by
  unfold put; simp only [h]; rw [if_neg (by simp [hp])]
theorem sExpr_ap : sExpr fa en = (fa en).then fun _ en1 => .nx en1 := rfl
theorem sRet_ap : sRet fa en = (fa en).then retR := rfl
theorem sIf_ap : sIf ga f g en = (ga en).then fun b en1 => if b = true then f en1 else g en1 := rfl
theorem mB_ap : mB fa en = (fa en).bind toB := rfl
theorem toB_bl {b : Bool} : toB (.sh (.bl b)) en = .ok b en := rfl
theorem mT_ap : mT fa en = (fa en).bind fun r en1 => (match (cur en1 r).bind tru with
  | some b => .ok b en1
  | none => .bad) := rfl
theorem mAnd_ap : mAnd ga gb en = (ga en).bind fun b en1 => if b = true then gb en1 else .ok false en1 := rfl
theorem mOr_ap : mOr ga gb en = (ga en).bind fun b en1 => if b = true then .ok true en1 else gb en1 := rfl
theorem mNot_ap : mNot ga en = (ga en).bind fun b en1 => .ok (!b) en1 := rfl
theorem eAnd_ap : eAnd fa fb en = (fa en).bind fun r en1 => (toB r en1).bind fun b en2 => if b = true then fb en2 else .ok (.sh (.bl false)) en2 := rfl
theorem eOr_ap : eOr fa fb en = (fa en).bind fun r en1 => (toB r en1).bind fun b en2 => if b = true then .ok (.sh (.bl true)) en2 else fb en2 := rfl
theorem eNot_ap : eNot fa en = (fa en).bind fun r en1 => (toB r en1).bind fun b en2 => .ok (.sh (.bl (!b))) en2 := rfl
theorem eIf_ap : eIf ga fa fb en = (ga en).bind fun b en1 => if b = true then fa en1 else fb en1 := rfl
theorem eChain_ap {h h' : D → D → Option ER} : eChain h h' fa fb fc en = (fa en).bind fun ra en1 => (fb en1).bind fun rb en2 => (op2 h en2 ra rb).bind fun r en3 => (toB r en3).bind fun b en4 =>
  if b = true then (fc en4).bind fun rc en5 => op2 h' en5 rb rc else .ok (.sh (.bl false)) en4 := rfl
theorem sNil_ap : sNil en = .nx en := rfl
theorem sFg_ap {fg : List Nat} : sFg fg f en = (match f en with
  | .nx e => .nx (wipeE e fg)
  | .ct e => .ct (wipeE e fg)
  | .bk e => .bk (wipeE e fg)
  | .rt r e => .rt r e
  | .exc c fs e => .exc c fs e
  | .bad => .bad) := rfl
theorem wipeE_nil : wipeE en [] = en := rfl
theorem wipeE_cons {i : Nat} {is : List Nat} : wipeE en (i :: is) = (wipeE en is).set i .un := rfl
theorem eMut_ap {k i : Nat} {h : D → List D → Option (D × D)} : eMut k i h fs en = (match cellAt k en i with
  | none => .bad
  | some _ => (eA fs en).bind fun rs en1 => (match shrs rs en1 with
    | none => .bad
    | some (ds, en2) => (match cellAt k en2 i with
      | none => .bad
      | some d => (match h d ds with
        | some (d', r) => .ok (.sh r) (putD en2 i d')
        | none => .bad)))) := rfl
theorem sAsg_ap {gm : GM} : sAsg gm fa en = (fa en).then fun r en1 => (match shr en1 r with
  | some (d, en2) => (match gm d en2 with | some en3 => .nx en3 | none => .bad)
  | none => .bad) := rfl
theorem arity_ap {n : Nat} {m : FM} {args : List Sl} : arity n m args = if args.length = n then m args else .bad := rfl
end
/-! loops -/
theorem loop_nil {g : GM} {b : SM} {en : En} : loop g b [] en = .nx en := rfl
theorem loop_cons {g : GM} {b : SM} {en : En} {d : D} {ds : List D} : loop g b (d :: ds) en = (match g d en with
    | none => .bad
    | some en1 => (match b en1 with
      | .nx en2 => loop g b ds en2
      | .ct en2 => loop g b ds en2
      | .bk en2 => .nx en2
      | .rt r en2 => .rt r en2
      | .exc c fs en2 => .exc c fs en2
      | .bad => .bad)) := rfl
/-- one turn -/
def turn (g : GM) (b : SM) (d : D) (en : En) : O := match g d en with
  | none => .bad
  | some en1 => b en1
theorem loop_turn {g : GM} {b : SM} {en : En} {d : D} {ds : List D} : loop g b (d :: ds) en = (match turn g b d en with
      | .nx en2 => loop g b ds en2
      | .ct en2 => loop g b ds en2
      | .bk en2 => .nx en2
      | .rt r en2 => .rt r en2
      | .exc c fs en2 => .exc c fs en2
      | .bad => .bad) := by
  rw [loop_cons]; unfold turn
  cases g d en <;> rfl
/-- a fold: the state stands in slots of a fixed shape; I: what holds of it -/
theorem loop_fold {β : Type} {g : GM} {b : SM} (mk : β → En) (I : Nat → β → Prop) : ∀ (ds : List D) (n : Nat) (s : β), I n s →
    (∀ i d s, ds[i]? = some d → I (n + i) s → ∃ s', turn g b d (mk s) = .nx (mk s') ∧ I (n + i + 1) s') → ∃ s', loop g b ds (mk s) = .nx (mk s') ∧ I (n + ds.length) s'
  | [], n, s, h, _ => ⟨s, rfl, h⟩
  | d :: ds, n, s, h, hs => by
    obtain ⟨s1, e1, h1⟩ := hs 0 d s rfl h
    obtain ⟨s2, e2, h2⟩ := loop_fold mk I ds (n + 1) s1 h1 fun i d' s' e hi => by
      have := hs (i + 1) d' s' (by simpa using e) (by rw [show n + (i + 1) = n + 1 + i by omega]; exact hi)
      rw [show n + 1 + i = n + (i + 1) by omega]
      exact this
    refine ⟨s2, ?_, by rw [List.length_cons, show n + (ds.length + 1) = n + 1 + ds.length by omega]; exact h2⟩
    rw [loop_turn, e1]
    exact e2
/-- a fold by a function, no facts -/
theorem loop_foldl {α β : Type} {g : GM} {b : SM} (enc : α → D) (mk : β → En) (step : β → α → β) (h : ∀ a s, turn g b (enc a) (mk s) = .nx (mk (step s a))) : ∀ (xs : List α) (s : β), loop g b (xs.map enc) (mk s) = .nx (mk (xs.foldl step s))
  | [], s => rfl
  | x :: xs, s => by
    rw [List.map_cons, loop_turn, h x s]
    exact loop_foldl enc mk step h xs (step s x)
/-- a comprehension: a map under a test -/
theorem lc_map {α : Type} {c : Option (Nat × Sl)} {own : List Nat} {g : GM} {tt : M Bool} {elt : M ER} {en : En} (enc : α → D) (p : α → Bool) (f : α → D) (hc : ∀ j t, c = some (j, t) → en[j]? = some t) : ∀ (xs : List α),
    (∀ x ∈ xs, ∃ en1 en2, g (enc x) en = some en1 ∧ tt en1 = .ok (p x) en2 ∧ (if p x = true then ∃ r en3 en4, elt en2 = .ok r en3 ∧ shr en3 r = some (f x, en4) ∧ wipeE en4 own = en else wipeE en2 own = en)) →
    lcLoop c own g tt elt (xs.map enc) en = some ((xs.filter p).map f, en)
  | [], _ => rfl
  | x :: xs, h => by
    obtain ⟨en1, en2, h1, h2, h3⟩ := h x (List.mem_cons_self)
    have ck : ∀ (k : Option (List D × En)), chkd c en k = k := by
      intro k
      cases c with
      | none => rfl
      | some js => exact if_pos (hc _ _ rfl)
    have ih := lc_map enc p f hc xs fun y hy => h y (List.mem_cons_of_mem _ hy)
    rw [List.map_cons]
    unfold lcLoop
    simp only [h1, h2]
    cases hp : p x with
    | true =>
      rw [hp, if_pos rfl] at h3
      obtain ⟨r, en3, en4, k1, k2, k3⟩ := h3
      simp only [k1, k2, k3, ck, ih]
      rw [List.filter_cons_of_pos hp]; rfl
    | false =>
      rw [hp, if_neg Bool.false_ne_true] at h3
      simp only [ck, h3, ih]
      rw [List.filter_cons_of_neg (by rw [hp]; exact Bool.false_ne_true)]
/-! operators at constructors -/
section
variable {xs ys ds : List D} {x y d : D} {i j : Int} {s t : Str} {en : En} {n : Nat}
theorem ix_lst : dIx (.lst ds) (.int i) = atD ds i := rfl
theorem ix_rol : dIx (.rol ds) (.int i) = atD ds i := rfl
theorem ix_tup : dIx (.tup ds) (.int i) = atD ds i := rfl
theorem ix_rot : dIx (.rot ds) (.int i) = atD ds i := rfl
theorem atD_nat {d : D} (h : ds[n]? = some d) : atD ds (n : Int) = some (.sh d) := by
  unfold atD; rw [atI_nat h]
theorem at0 {a : D} : atD (a :: ds) 0 = some (.sh a) := atD_nat (n := 0) rfl
theorem at1 {a b : D} : atD (a :: b :: ds) 1 = some (.sh b) := atD_nat (n := 1) rfl
theorem at2 {a b c : D} : atD (a :: b :: c :: ds) 2 = some (.sh c) := atD_nat (n := 2) rfl
theorem at3 {a b c e : D} : atD (a :: b :: c :: e :: ds) 3 = some (.sh e) := atD_nat (n := 3) rfl
theorem at4 {a b c e f : D} : atD (a :: b :: c :: e :: f :: ds) 4 = some (.sh f) := atD_nat (n := 4) rfl
theorem atm1 {a : D} : atD (ds ++ [a]) (-1) = some (.sh a) := by unfold atD; rw [atI_last]
/-- an index in bounds -/
theorem atD_mem (h0 : 0 ≤ i) (h1 : i < ds.length) : ∃ d, d ∈ ds ∧ atD ds i = some (.sh d) := by
  obtain ⟨n, rfl⟩ := Int.eq_ofNat_of_zero_le h0
  have hn : n < ds.length := by omega
  exact ⟨ds[n], List.getElem_mem hn, atD_nat (List.getElem?_eq_getElem hn)⟩
theorem add_int : dAdd (.int i) (.int j) = some (.sh (.int (i + j))) := rfl
theorem add_lst (h : xs.length + ys.length ≤ 1000000) : dAdd (.lst xs) (.lst ys) = some (.fr (.lst (xs ++ ys))) := if_pos h
theorem add_tup (h : xs.length + ys.length ≤ 1000000) : dAdd (.tup xs) (.tup ys) = some (.sh (.tup (xs ++ ys))) := if_pos h
theorem add_str (h : s.length + t.length ≤ 1000000) : dAdd (.str s) (.str t) = some (.sh (.str (s ++ t))) := if_pos h
theorem sub_int : dSub (.int i) (.int j) = some (.sh (.int (i - j))) := rfl
theorem mul_l (h : -(2 ^ 64) < i ∧ i < 2 ^ 64) : dMul (.int i) (.int j) = some (.sh (.int (i * j))) := if_pos (.inl h)
theorem mul_r (h : -(2 ^ 64) < j ∧ j < 2 ^ 64) : dMul (.int i) (.int j) = some (.sh (.int (i * j))) := if_pos (.inr h)
theorem mul_mod {k : Int} (h : 0 < k) (h2 : k ≤ 4611686018427387904) : dMul (.int (i % k)) (.int j) = some (.sh (.int (i % k * j))) := by
  refine mul_l ?_
  have h1 := Int.emod_nonneg i (show k ≠ 0 by omega)
  have h3 := Int.emod_lt_of_pos i h
  omega
theorem div_intW (h : 0 < j ∧ j.natAbs.log2 < 9000) : dDiv (.int i) (.int j) = some (.sh (.int (i / j))) := if_pos h
theorem div_int (h : 0 < j ∧ j < 1073741824) : dDiv (.int i) (.int j) = some (.sh (.int (i / j))) := div_intW ⟨h.1, by
  have h1 : j.natAbs < 2 ^ 30 := by omega
  have h2 : j.natAbs ≠ 0 := by omega
  exact Nat.lt_trans ((Nat.log2_lt h2).mpr h1) (by decide)⟩
theorem mod_int (h : 0 < j) : dMod (.int i) (.int j) = some (.sh (.int (i % j))) := if_pos h
theorem pow_int (h : 0 ≤ j ∧ j ≤ 1000000 ∧ i.natAbs < 2 ^ 64) : dPow (.int i) (.int j) = some (.sh (.int (i ^ j.toNat))) := if_pos h
theorem neg_int : dNeg (.int i) = some (.sh (.int (-i))) := rfl
theorem cmp_int {f : Int → Int → Bool} : dCmp f (.int i) (.int j) = some (.sh (.bl (f i j))) := rfl
theorem is_non : dIs x .non = some (.sh (.bl (isNon x))) := rfl
theorem isnot_non : dIsNot x .non = some (.sh (.bl (!isNon x))) := rfl
theorem isNon_non : isNon .non = true := rfl
theorem isNon_int : isNon (.int i) = false := rfl
theorem isNon_str : isNon (.str s) = false := rfl
theorem isNon_lst : isNon (.lst xs) = false := rfl
theorem isNon_tup : isNon (.tup xs) = false := rfl
theorem eq_int : dEq (.int i) (.int j) = some (.sh (.bl (i == j))) := rfl
theorem ne_int : dNe (.int i) (.int j) = some (.sh (.bl (!(i == j)))) := rfl
theorem eq_str : dEq (.str s) (.str t) = some (.sh (.bl (s == t))) := rfl
theorem ne_str : dNe (.str s) (.str t) = some (.sh (.bl (!(s == t)))) := rfl
theorem len_lst : gLen [.lst xs] = some (.sh (.int xs.length)) := rfl
theorem len_rol : gLen [.rol xs] = some (.sh (.int xs.length)) := rfl
theorem len_tup : gLen [.tup xs] = some (.sh (.int xs.length)) := rfl
theorem len_str (h : s.length ≤ 1000000) : gLen [.str s] = some (.sh (.int s.length)) := if_pos h
theorem max2_int : gMax2 [.int i, .int j] = some (.sh (.int (if j > i then j else i))) := rfl
theorem min2_int : gMin2 [.int i, .int j] = some (.sh (.int (if j < i then j else i))) := rfl
theorem int_int : gInt [.int i] = some (.sh (.int i)) := rfl
theorem int_bl {b : Bool} : gInt [.bl b] = some (.sh (.int (if b then 1 else 0))) := rfl
theorem list_lst : gList [.lst xs] = some (.fr (.lst xs)) := rfl
theorem list_tup : gList [.tup xs] = some (.fr (.lst xs)) := rfl
theorem tuple_lst : gTuple [.lst xs] = some (.sh (.tup xs)) := rfl
theorem tuple_tup : gTuple [.tup xs] = some (.sh (.tup xs)) := rfl
theorem append_lst (h : xs.length < 1000000) : gAppend (.lst xs) [x] = some (.lst (xs ++ [x]), .non) := if_pos h
theorem tru_bl {b : Bool} : tru (.bl b) = some b := rfl
theorem tru_lst : tru (.lst xs) = some (!xs.isEmpty) := rfl
theorem isi {t : String} : gIsi [x, .ty t] = (match kitD x t with | some b => some (.sh (.bl b)) | none => none) := rfl
theorem sl_rol {lo hi : Option Int} : dSl (.rol xs) lo hi = some (.fr (.lst (cutL xs lo hi))) := rfl
theorem sl_lst {lo hi : Option Int} : dSl (.lst xs) lo hi = some (.fr (.lst (cutL xs lo hi))) := rfl
/-! slots -/
theorem dat_sh : (Sl.sh d).dat = some d := rfl
theorem dat_ow : (Sl.ow d).dat = some d := rfl
theorem dat_pn {m : Bool} : (Sl.pn m d).dat = some d := rfl
theorem dat_lk : (Sl.lk d).dat = some d := rfl
theorem pn_un : Sl.un.isPn = false := rfl
theorem pn_sh : (Sl.sh d).isPn = false := rfl
theorem pn_ow : (Sl.ow d).isPn = false := rfl
theorem mu_ow : (Sl.ow d).mu = true := rfl
theorem mu_pn : (Sl.pn true d).mu = true := rfl
theorem own_ow : (Sl.ow d).own = true := rfl
theorem own_pn {m : Bool} : (Sl.pn m d).own = true := rfl
theorem own_lk : (Sl.lk d).own = true := rfl
theorem lock_ow : (Sl.ow d).lock = .lk d := rfl
theorem lock_pnT : (Sl.pn true d).lock = .lk d := rfl
theorem lock_pnF : (Sl.pn false d).lock = .pn false d := rfl
theorem lock_lk : (Sl.lk d).lock = .lk d := rfl
theorem with_ow : (Sl.ow d).with x = .ow x := rfl
theorem with_pn {m : Bool} : (Sl.pn m d).with x = .pn m x := rfl
theorem put_ap {i : Nat} {r : ER} : put i r en = (match en[i]? with
  | none => .bad
  | some s => if s.isPn = true then .bad else (match r with
    | .sh d => .nx (en.set i (.sh d))
    | .fr d => .nx (en.set i (.ow d))
    | .bo j => (match shr en (.bo j) with
      | some (d, en1) => .nx (en1.set i (.sh d))
      | none => .bad))) := rfl
theorem retR_sh : retR (.sh d) en = .rt (.sh d) en := rfl
theorem retR_fr : retR (.fr d) en = .rt (.fr d) en := rfl
theorem retR_bo {j : Nat} : retR (.bo j) en = (match en[j]? with
    | some (.sh d) => .rt (.sh d) en
    | some (.ow d) => .rt (.fr d) en
    | _ => .bad) := rfl
theorem cellAt_ap {k i : Nat} : cellAt k en i = (match en[i]? with
  | some s => if s.mu = true then (match s.dat with
    | some d => if kindN d = k then some d else none
    | none => none) else none
  | none => none) := rfl
theorem kind_lst : kindN (.lst xs) = 1 := rfl
theorem putD_ap {j : Nat} : putD en j d = (match en[j]? with
  | some s => en.set j (s.with d)
  | none => en) := rfl
theorem sPut_ap {k i : Nat} {g : D → D → D → Option D} {fi fe : M ER} : sPut k i g fi fe en = (fe en).then fun rv en1 => (match shr en1 rv with
  | none => .bad
  | some (dv, en2) => (match en2[i]? with
    | some (.ow _) => sPut.putAt k i g fi dv en2
    | some (.pn _ _) => sPut.putAt k i g fi dv en2
    | _ => .bad)) := rfl
theorem putAt_ap {k i : Nat} {g : D → D → D → Option D} {fi : M ER} {dv : D} : sPut.putAt k i g fi dv en = (fi en).then fun ri en3 => (match shr en3 ri with
  | none => .bad
  | some (di, en4) => (match cellAt k en4 i with
    | none => .bad
    | some d => (match g d di dv with
      | some d' => .nx (putD en4 i d')
      | none => .bad))) := rfl
theorem ixN_nat' {n j : Nat} (hj : j < n) : ixN n (j : Int) = some j := by
  unfold ixN
  rw [if_pos (by omega), if_pos (by omega)]
  rfl
theorem setL_nat {v : D} (h : n < ds.length) : gSetL (.lst ds) (.int (n : Int)) v = some (.lst (ds.set n v)) := by
  unfold gSetL
  simp only [ixN_nat' h]
theorem set0 {a v : D} : gSetL (.lst (a :: ds)) (.int 0) v = some (.lst (v :: ds)) := setL_nat (n := 0) (by simp)
theorem set1 {a b v : D} : gSetL (.lst (a :: b :: ds)) (.int 1) v = some (.lst (a :: v :: ds)) := setL_nat (n := 1) (by simp)
theorem set2 {a b c v : D} : gSetL (.lst (a :: b :: c :: ds)) (.int 2) v = some (.lst (a :: b :: v :: ds)) := setL_nat (n := 2) (by simp)
theorem pass_nil {io : List Bool} : passAll io en [] = some [] := by cases io <;> rfl
theorem pass_n {r : ER} {rs : List ER} : passAll [] en (r :: rs) = (match passArg false en r, passAll [] en rs with
    | some s, some ss => some (s :: ss)
    | _, _ => none) := rfl
theorem pass_c {b : Bool} {io : List Bool} {r : ER} {rs : List ER} : passAll (b :: io) en (r :: rs) = (match passArg b en r, passAll io en rs with
    | some s, some ss => some (s :: ss)
    | _, _ => none) := rfl
theorem passArg_sh : passArg false en (.sh d) = some (.sh d) := rfl
theorem passArg_fr : passArg false en (.fr d) = some (.sh d) := rfl
theorem passArg_boF {j : Nat} : passArg false en (.bo j) = (match en[j]? with
    | some (.sh d) => some (.sh d)
    | some (.ow d) => some (.pn false d)
    | some (.pn _ d) => some (.pn false d)
    | some (.lk d) => some (.pn false d)
    | _ => none) := by
  unfold passArg
  cases e : en[j]? with
  | none => simp [e]
  | some s => cases s <;> simp [e]
theorem passArg_boT {j : Nat} : passArg true en (.bo j) = (match en[j]? with
    | some (.ow d) => some (.pn true d)
    | some (.pn true d) => some (.pn true d)
    | _ => none) := by
  unfold passArg
  cases e : en[j]? with
  | none => simp [e]
  | some s => cases s with
    | pn m d => cases m <;> simp [e]
    | _ => simp [e]
theorem ioOk_n {rs : List ER} : ioOk [] rs = true := rfl
theorem ioOk_nil {io : List Bool} : ioOk io [] = true := by cases io <;> rfl
theorem ioOk_bo {b : Bool} {io : List Bool} {j : Nat} {rs : List ER} : ioOk (b :: io) (.bo j :: rs) = ((if b = true then !(boSlots rs).contains j else !(ioSlots io rs).contains j) && ioOk io rs) := rfl
theorem ioOk_sh {b : Bool} {io : List Bool} {rs : List ER} : ioOk (b :: io) (.sh d :: rs) = ioOk io rs := by cases b <;> rfl
theorem ioOk_fr {b : Bool} {io : List Bool} {rs : List ER} : ioOk (b :: io) (.fr d :: rs) = ioOk io rs := by cases b <;> rfl
theorem bo_nil : boSlots [] = [] := rfl
theorem bo_bo {j : Nat} {rs : List ER} : boSlots (.bo j :: rs) = j :: boSlots rs := rfl
theorem bo_sh {rs : List ER} : boSlots (.sh d :: rs) = boSlots rs := rfl
theorem bo_fr {rs : List ER} : boSlots (.fr d :: rs) = boSlots rs := rfl
theorem io_n {rs : List ER} : ioSlots [] rs = [] := by cases rs <;> rfl
theorem io_nil {io : List Bool} : ioSlots io [] = [] := by cases io with | nil => rfl | cons b io => cases b <;> rfl
theorem io_T {io : List Bool} {j : Nat} {rs : List ER} : ioSlots (true :: io) (.bo j :: rs) = j :: ioSlots io rs := rfl
theorem io_F {io : List Bool} {r : ER} {rs : List ER} : ioSlots (false :: io) (r :: rs) = ioSlots io rs := by cases r <;> rfl
theorem outs_nil {en : En} : outsOf [] en = some [] := by cases en <;> rfl
theorem outs_T {a b : D} {as : List Sl} {en : En} : outsOf (.pn true a :: as) (.pn true b :: en) = (match outsOf as en with
    | some ds => some (b :: ds)
    | none => none) := rfl
theorem outs_F {a : D} {s : Sl} {as : List Sl} {en : En} : outsOf (.pn false a :: as) (s :: en) = outsOf as en := by
  cases s with
  | pn m d => cases m <;> rfl
  | _ => rfl
theorem outs_sh {a : D} {s : Sl} {as : List Sl} {en : En} : outsOf (.sh a :: as) (s :: en) = outsOf as en := by
  cases s with
  | pn m d => cases m <;> rfl
  | _ => rfl
theorem putOuts_nil {ds : List D} {en : En} : putOuts [] ds en = en := by cases ds <;> rfl
theorem putOuts_cons {j : Nat} {js : List Nat} {d : D} {ds : List D} {en : En} : putOuts (j :: js) (d :: ds) en = putOuts js ds (putD en j d) := rfl
theorem gN_ap {i : Nat} : gN i d en = (match en[i]? with
  | some s => if s.isPn = true then none else some (en.set i (.sh d))
  | none => none) := rfl
theorem gT_tup {gs : List GM} : gT gs (.tup ds) en = gAll gs ds en := rfl
theorem gAll_nil : gAll [] [] en = some en := rfl
theorem gAll_cons {g : GM} {gs : List GM} : gAll (g :: gs) (d :: ds) en = (match g d en with
    | some en1 => gAll gs ds en1
    | none => none) := rfl
theorem sFor_ap {it : M IR} {g : GM} {body : SM} : sFor it g body en = (it en).then fun ir en1 => (match ir.lock with
  | none => loop g body ir.items en1
  | some j => (match en1[j]? with
    | some s => if s.own = true then back j s (loop g (stay j s.lock body) ir.items (en1.set j s.lock)) else .bad
    | none => .bad)) := rfl
theorem iSeq_ap {f : M ER} : iSeq f en = (f en).bind fun r en1 => (match r with
  | .bo j => (match en1[j]? with
    | some s => (if s.own = true then (match s.dat with | some (.lst ds) => .ok ⟨ds, some j⟩ en1 | _ => .bad) else .bad)
    | none => .bad)
  | .sh d => (match seqOf d with | some ds => .ok ⟨ds, none⟩ en1 | none => .bad)
  | .fr d => (match seqOf d with | some ds => .ok ⟨ds, none⟩ en1 | none => .bad)) := rfl
theorem seq_lst : seqOf (.lst xs) = some xs := rfl
theorem seq_tup : seqOf (.tup xs) = some xs := rfl
theorem iB_ap {g : List D → Option (List D)} {fs : List (M ER)} : iB g fs en = (eA fs en).bind fun rs en1 => (match curs en1 rs with
  | some ds => (match g ds with | some xs => .ok ⟨xs, none⟩ en1 | none => .bad)
  | none => .bad) := rfl
theorem rng1_ok (h : 0 ≤ i) (h2 : i < 1000000) : rng1 [.int i] = some (intsD 0 i.toNat) := if_pos (by unfold small; rw [Bool.and_eq_true, decide_eq_true_iff, decide_eq_true_iff]; omega)
theorem eLc_ap {it : M IR} {own : List Nat} {g : GM} {tt : M Bool} {elt : M ER} : eLc it own g tt elt en = (it en).bind fun ir en1 =>
  if ir.items.length ≤ 1000000 then (match ir.lock with
    | none => (match lcLoop none own g tt elt ir.items (wipeE en1 own) with
      | some (xs, en') => .ok (.fr (.lst xs)) (restE en1 en' own)
      | none => .bad)
    | some j => (match en1[j]? with
      | some s => if s.own = true ∧ j ∉ own then (match lcLoop (some (j, s.lock)) own g tt elt ir.items (wipeE (en1.set j s.lock) own) with
        | some (xs, en') => .ok (.fr (.lst xs)) ((restE (en1.set j s.lock) en' own).set j s)
        | none => .bad) else .bad
      | none => .bad))
  else .bad := rfl
theorem rest_nil {en1 en' : En} : restE en1 en' [] = en' := rfl
theorem rest_cons {en1 en' : En} {i : Nat} {is : List Nat} : restE en1 en' (i :: is) = (restE en1 en' is).set i (keepSh en1[i]?) := rfl
theorem keep_sh : keepSh (some (.sh d)) = .sh d := rfl
theorem keep_un : keepSh (some .un) = .un := rfl
theorem keep_none : keepSh none = .un := rfl
theorem yes_ap : mYes en = .ok true en := rfl
theorem eSl_ap {g : D → Option Int → Option Int → Option ER} {fa : M ER} {fl fh : Option (M ER)} : eSl g fa fl fh en = (fa en).bind fun ra en1 => (partM fl en1).bind fun lo en2 => (partM fh en2).bind fun hi en3 => (match cur en3 ra with
  | some d => (match g d lo hi with | some r => .ok r en3 | none => .bad)
  | none => .bad) := rfl
theorem part_none : partM none en = .ok none en := rfl
theorem part_some {f : M ER} : partM (some f) en = (f en).bind partR := rfl
theorem partR_int : partR (.sh (.int i)) en = .ok (some i) en := rfl
theorem mkF_ap {b : SM} {args : List Sl} : mkF n b args = (match b (args ++ List.replicate (n - args.length) .un) with
  | .nx en => (match outsOf args en with | some outs => .ok (.sh .non) outs | none => .bad)
  | .rt r en => (match outsOf args en with | some outs => .ok r outs | none => .bad)
  | .exc c fs en => (match outsOf args en with | some outs => .exc c fs outs | none => .bad)
  | _ => .bad) := rfl
theorem mkN_ap {b : SM} {args : List Sl} : mkN n b args = (match mkF n b args with
  | .exc _ _ _ => .bad
  | r => r) := rfl
theorem eMetS_ap {g : D → List D → Option ER} {fo : M ER} {fs : List (M ER)} : eMetS g fo fs en = (fo en).bind fun ro en1 => (match ro with
  | .sh (.str x) => (eA fs en1).bind fun rs en2 => (match curs en2 rs with
    | some ds => (match g (.str x) ds with | some r => .ok r en2 | none => .bad)
    | _ => .bad)
  | _ => .bad) := rfl
theorem p10_8 : dPow (.int 10) (.int 8) = some (.sh (.int 100000000)) := rfl
theorem p10_18 : dPow (.int 10) (.int 18) = some (.sh (.int 1000000000000000000)) := rfl
theorem back_nx {j : Nat} {sl : Sl} : back j sl (.nx en) = .nx (en.set j sl) := rfl
theorem back_rt {j : Nat} {sl : Sl} {r : ER} : back j sl (.rt r en) = .rt r (en.set j sl) := rfl
theorem stay_nx {j : Nat} {t : Sl} {b : SM} {en2 : En} (h : b en = .nx en2) (h2 : en2[j]? = some t) : stay j t b en = .nx en2 := by
  unfold stay; rw [h]; exact if_pos h2
theorem stay_rt {j : Nat} {t : Sl} {b : SM} {en2 : En} {r : ER} (h : b en = .rt r en2) (h2 : en2[j]? = some t) : stay j t b en = .rt r en2 := by
  unfold stay; rw [h]; exact if_pos h2
theorem stay_turn {g : GM} {j : Nat} {t : Sl} {b : SM} {en2 : En} (h : turn g b d en = .nx en2) (h2 : en2[j]? = some t) : turn g (stay j t b) d en = .nx en2 := by
  unfold turn at h ⊢
  cases e : g d en with
  | none => rw [e] at h; cases h
  | some en1 => rw [e] at h; exact stay_nx h h2
theorem sRetIf {b : Bool} {x : ER} : (if b = true then (O.rt x en) else O.nx en) = (if b = true then O.rt x en else O.nx en) := rfl
theorem atI_end {α : Type} {xs : List α} {a : α} : ixN (xs ++ [a]).length (-1) = some xs.length := by
  unfold ixN
  rw [List.length_append, List.length_singleton, if_neg (by decide), if_pos (by omega)]
  congr 1
  omega
theorem set_last {v : D} : gSetL (.lst (ds ++ [x])) (.int (-1)) v = some (.lst (ds ++ [v])) := by
  unfold gSetL
  simp only [atI_end, List.set_append_right _ _ (Nat.le_refl _), Nat.sub_self, List.set_cons_zero]
theorem toPy_goL {n : Nat} : ∀ {ds : List D}, (∀ d ∈ ds, ∃ p, toPy n d = some p) → ∃ ps, toPy.go n ds = some ps ∧ ps.length = ds.length
  | [], _ => ⟨[], rfl, rfl⟩
  | d :: ds, h => by
    obtain ⟨p, hp⟩ := h d (List.mem_cons_self)
    obtain ⟨ps, h1, h2⟩ := toPy_goL fun x hx => h x (List.mem_cons_of_mem _ hx)
    exact ⟨p :: ps, by unfold toPy.go; rw [hp, h1], by rw [List.length_cons, List.length_cons, h2]⟩
theorem toPy_lst {n : Nat} {ds : List D} (h : ∀ d ∈ ds, ∃ p, toPy n d = some p) : ∃ p, toPy (n + 1) (.lst ds) = some p := by
  obtain ⟨ps, h1, _⟩ := toPy_goL h
  exact ⟨.list ps, by unfold toPy; rw [h1]⟩
theorem toPy_tup {n : Nat} {ds : List D} (h : ∀ d ∈ ds, ∃ p, toPy n d = some p) : ∃ p, toPy (n + 1) (.tup ds) = some p := by
  obtain ⟨ps, h1, _⟩ := toPy_goL h
  exact ⟨.tuple ps, by unfold toPy; rw [h1]⟩
theorem nil_eqv (ps : List PyData) : PyData.eqv (.list ps) (.list []) = ps.isEmpty := by
  cases ps <;> rfl
theorem nilList (h : ∀ d ∈ ds, ∃ p, toPy 39 d = some p) : ∃ ps, toPy 40 (.lst ds) = some (.list ps) ∧ ps.isEmpty = ds.isEmpty := by
  obtain ⟨ps, h1, h2⟩ := toPy_goL h
  refine ⟨ps, by unfold toPy; rw [h1], ?_⟩
  cases ps <;> cases ds <;> first | rfl | cases h2
theorem ne_nil (h : ∀ d ∈ ds, ∃ p, toPy 39 d = some p) : dNe (.lst ds) (.lst []) = some (.sh (.bl (!ds.isEmpty))) := by
  obtain ⟨ps, h1, h2⟩ := nilList h
  unfold dNe
  rw [h1, show toPy 40 (.lst []) = some (.list []) from rfl]
  show some (ER.sh (.bl (!(PyData.eqv (.list ps) (.list []))))) = _
  rw [nil_eqv, h2]
theorem eq_nil (h : ∀ d ∈ ds, ∃ p, toPy 39 d = some p) : dEq (.lst ds) (.lst []) = some (.sh (.bl ds.isEmpty)) := by
  obtain ⟨ps, h1, h2⟩ := nilList h
  unfold dEq
  rw [h1, show toPy 40 (.lst []) = some (.list []) from rfl]
  show some (ER.sh (.bl (PyData.eqv (.list ps) (.list [])))) = _
  rw [nil_eqv, h2]
end
theorem toPy_plain : ∀ (n : Nat) (d : D) (p : PyData), toPy n d = some p → p.plain = true := by
  have go : ∀ (n : Nat), (∀ (d : D) (p : PyData), toPy n d = some p → p.plain = true) → ∀ (ds : List D) (ps : List PyData), toPy.go n ds = some ps → PyData.plainAll ps = true := by
    intro n h ds
    induction ds with
    | nil => intro ps e; cases e; rfl
    | cons d ds ih =>
      intro ps e
      unfold toPy.go at e
      cases e1 : toPy n d with
      | none => rw [e1] at e; cases e
      | some p =>
        cases e2 : toPy.go n ds with
        | none => rw [e1, e2] at e; cases e
        | some ps' =>
          rw [e1, e2] at e; cases e
          rw [PyData.plainAll, h d p e1, ih ps' e2]; rfl
  intro n
  induction n with
  | zero => intro d p e; cases d <;> first | (unfold toPy at e; cases e; done) | (unfold toPy at e; cases e; rfl)
  | succ n ih =>
    intro d p e
    cases d with
    | non => cases e; rfl
    | bl b => cases e; rfl
    | int i => cases e; rfl
    | str s => cases e; rfl
    | ty _ => cases e
    | cl _ => cases e
    | exn _ _ _ _ => cases e
    | dk _ => cases e
    | dt _ => cases e
    | ins _ _ => cases e
    | lst ds => unfold toPy at e; split at e; (rename_i ps e1; cases e; rw [plain_list]; exact go n ih ds ps e1); cases e
    | rol ds => unfold toPy at e; split at e; (rename_i ps e1; cases e; rw [plain_list]; exact go n ih ds ps e1); cases e
    | tup ds => unfold toPy at e; split at e; (rename_i ps e1; cases e; rw [plain_tuple]; exact go n ih ds ps e1); cases e
    | rot ds => unfold toPy at e; split at e; (rename_i ps e1; cases e; rw [plain_tuple]; exact go n ih ds ps e1); cases e
theorem ne_self {x : D} (h : ∃ p, toPy 40 x = some p) : dNe x x = some (.sh (.bl false)) := by
  obtain ⟨p, h1⟩ := h
  unfold dNe
  rw [h1]
  show some (ER.sh (.bl (!(PyData.eqv p p)))) = _
  rw [PySem.SeqAt.eqv_refl_plain p (toPy_plain _ _ _ h1)]; rfl
theorem eq_self {x : D} (h : ∃ p, toPy 40 x = some p) : dEq x x = some (.sh (.bl true)) := by
  obtain ⟨p, h1⟩ := h
  unfold dEq
  rw [h1]
  show some (ER.sh (.bl (PyData.eqv p p))) = _
  rw [PySem.SeqAt.eqv_refl_plain p (toPy_plain _ _ _ h1)]
end Fw
set_option Elab.async false
set_option linter.all false
set_option maxRecDepth 100000
namespace Fw
open PySem PySem.Spec PyProof.Rows L2
section
variable {W : Wc} {E : St → XK} {X : Cx} {e : Expr} {st : Stmt} {pos : Pos}
/-! what is not reached -/
def eBad : M ER := fun _ => .bad
def mBad : M Bool := fun _ => .bad
def sBad : SM := fun _ => .bad
theorem ev_bad : EV W E X e eBad := ⟨fun _ _ _ _ _ _ h => by obtain ⟨G, F, en, R, h⟩ := tE.out.mp h; exact h.elim⟩
theorem sv_bad : SV W E X st sBad := ⟨fun _ _ _ _ _ _ h => by obtain ⟨G, F, en, R, h⟩ := h; exact h.elim⟩
/-! {} -/
def eDict0 : M ER := fun en => .ok (.fr (.dk [])) en
theorem ev_dict0 : EV W E X (.Dict [] [] pos) eDict0 := by
  refine PE.imp pe_dnewK fun σ H Q hq => ?_
  obtain ⟨G, F, en, R, h⟩ := tE.out.mp hq
  intro p hp
  have st := Stp.cell (o := .dK []) R.sub hp
  exact h (.ref p) _ _ (R.stp st) (fun _ _ h => h) ⟨p, rfl, ⟨[], upd_same, rfl, fun i v d h => by simp at h⟩, no_of (s := R.sub) hp, R.new hp, R.apart hp⟩
/-! is, of truth values -/
def rIsB (neg : Bool) : R2 := fun x y H Q => ∃ b, y = .bl b ∧ ((∃ a, x = .bl a ∧ Q (.bl (neg != (a == b))) H) ∨ ((x = .non ∨ (∃ i, x = .int i) ∨ ∃ z, x = .str z) ∧ Q (.bl neg) H))
theorem op_isB : OpR X (compareOp .Is) (rIsB false) := by
  intro pins s σ H x y v u Q I rx ry h
  obtain ⟨b, rfl, h⟩ := h
  rcases h with ⟨a, rfl, q⟩ | ⟨h, q⟩
  · cases rx; cases ry
    show wpAny _ _ ((isSame (.bool a) (.bool b)) >>= fun z => pure (Value.bool z)) _ _ s
    refine wpAny_bind (wpAny_isSame_plain rfl (wpAny_pure (fin_bl I q ?_)))
    cases a <;> cases b <;> rfl
  · rcases h with rfl | ⟨i, rfl⟩ | ⟨z, rfl⟩
    · cases rx; cases ry
      show wpAny _ _ ((isSame _ (.bool b)) >>= fun z => pure (Value.bool z)) _ _ s
      exact wpAny_bind (wpAny_isSame_plain rfl (wpAny_pure (fin_bl I q rfl)))
    · obtain ⟨t, rfl⟩ := rx
      cases ry
      show wpAny _ _ ((isSame _ (.bool b)) >>= fun z => pure (Value.bool z)) _ _ s
      exact wpAny_bind (wpAny_isSame_plain rfl (wpAny_pure (fin_bl I q rfl)))
    · obtain ⟨t, rfl⟩ := rx
      cases ry
      show wpAny _ _ ((isSame _ (.bool b)) >>= fun z => pure (Value.bool z)) _ _ s
      exact wpAny_bind (wpAny_isSame_plain rfl (wpAny_pure (fin_bl I q rfl)))
theorem op_isnotB : OpR X (compareOp .IsNot) (rIsB true) := by
  intro pins s σ H x y v u Q I rx ry h
  obtain ⟨b, rfl, h⟩ := h
  rcases h with ⟨a, rfl, q⟩ | ⟨h, q⟩
  · cases rx; cases ry
    show wpAny _ _ ((isSame (.bool a) (.bool b)) >>= fun z => pure (Value.bool !z)) _ _ s
    refine wpAny_bind (wpAny_isSame_plain rfl (wpAny_pure (fin_bl I q ?_)))
    cases a <;> cases b <;> rfl
  · rcases h with rfl | ⟨i, rfl⟩ | ⟨z, rfl⟩
    · cases rx; cases ry
      show wpAny _ _ ((isSame _ (.bool b)) >>= fun z => pure (Value.bool !z)) _ _ s
      exact wpAny_bind (wpAny_isSame_plain rfl (wpAny_pure (fin_bl I q rfl)))
    · obtain ⟨t, rfl⟩ := rx
      cases ry
      show wpAny _ _ ((isSame _ (.bool b)) >>= fun z => pure (Value.bool !z)) _ _ s
      exact wpAny_bind (wpAny_isSame_plain rfl (wpAny_pure (fin_bl I q rfl)))
    · obtain ⟨t, rfl⟩ := rx
      cases ry
      show wpAny _ _ ((isSame _ (.bool b)) >>= fun z => pure (Value.bool !z)) _ _ s
      exact wpAny_bind (wpAny_isSame_plain rfl (wpAny_pure (fin_bl I q rfl)))
def dIsB : D → D → Option ER
  | .bl a, .bl b => some (.sh (.bl (a == b)))
  | .non, .bl _ => some (.sh (.bl false))
  | .int _, .bl _ => some (.sh (.bl false))
  | .str _, .bl _ => some (.sh (.bl false))
  | _, _ => none
def dIsNotB : D → D → Option ER
  | .bl a, .bl b => some (.sh (.bl (!(a == b))))
  | .non, .bl _ => some (.sh (.bl true))
  | .int _, .bl _ => some (.sh (.bl true))
  | .str _, .bl _ => some (.sh (.bl true))
  | _, _ => none
theorem s_isb : OpS W (rIsB false) dIsB := by
  intro F H x y dx dy r Q hs hx hy e q
  match dx, dy, e with
  | .bl a, .bl b, e =>
    cases e
    exact ⟨b, hy.bl, .inl ⟨a, hx.bl, res_sh hs q (by cases a <;> cases b <;> exact Dat.bl _)⟩⟩
  | .non, .bl b, e => cases e; exact ⟨b, hy.bl, .inr ⟨.inl hx.non, res_sh hs q (Dat.bl _)⟩⟩
  | .int i, .bl b, e => cases e; exact ⟨b, hy.bl, .inr ⟨.inr (.inl ⟨i, hx.int⟩), res_sh hs q (Dat.bl _)⟩⟩
  | .str i, .bl b, e => cases e; exact ⟨b, hy.bl, .inr ⟨.inr (.inr ⟨i, hx.str⟩), res_sh hs q (Dat.bl _)⟩⟩
theorem s_isnotb : OpS W (rIsB true) dIsNotB := by
  intro F H x y dx dy r Q hs hx hy e q
  match dx, dy, e with
  | .bl a, .bl b, e =>
    cases e
    exact ⟨b, hy.bl, .inl ⟨a, hx.bl, res_sh hs q (by cases a <;> cases b <;> exact Dat.bl _)⟩⟩
  | .non, .bl b, e => cases e; exact ⟨b, hy.bl, .inr ⟨.inl hx.non, res_sh hs q (Dat.bl _)⟩⟩
  | .int i, .bl b, e => cases e; exact ⟨b, hy.bl, .inr ⟨.inr (.inl ⟨i, hx.int⟩), res_sh hs q (Dat.bl _)⟩⟩
  | .str i, .bl b, e => cases e; exact ⟨b, hy.bl, .inr ⟨.inr (.inr ⟨i, hx.str⟩), res_sh hs q (Dat.bl _)⟩⟩
end
section
variable {W : Wc} {E : St → XK} {X : Cx} {a : Expr} {fa : M ER} {pos : Pos} {G : Gc} {en : En} {σ : St} {F H F' H' : Hp} {m : FM}
/-- a call that writes one cell, made anew, that no slot holds -/
theorem Rel.calledF {b : Addr} (R : Rel W G en σ F H) (hb : G.H0 b = none) (ap : Apart en σ b) (post : FPost F H [b] F' H') (tb : ∃ o, H' b = some o) : Rel W G en σ F' H' := by
  have track : ∀ x u, G.H0 x = some u → ∃ u', H x = some u' := fun x u e => by
    by_cases z : x ∈ G.wr
    · exact R.wrk x z
    · exact ⟨u, R.keep x u e z⟩
  have ne : ∀ x u, G.H0 x = some u → x ∉ [b] := fun x u e z => by
    cases List.mem_singleton.mp z; rw [hb] at e; cases e
  refine ⟨R.len, post.sub, R.ex0.trans post.ex, fun x u e n => ?_, fun x u e n => post.keep x u (R.keep x u e n) (ne x u e), fun x hx => ?_, fun i s q => ?_, R.dist⟩
  · obtain ⟨u', hu⟩ := track x u e
    exact post.fence x u' hu (R.fen x u e n)
  · obtain ⟨u, hu⟩ := R.wrk x hx
    by_cases z : x = b
    · subst z; exact tb
    · exact ⟨u, post.keep x u hu (by simpa using z)⟩
  · refine (R.slot i s q).mono post.ex fun x u hx fx sx ox => ?_
    have nx : x ∉ [b] := fun z => by
      cases List.mem_singleton.mp z
      exact ap i s q ox sx
    exact ⟨post.keep x u hx nx, post.fence x u hx fx⟩
/-- f(e) where e is a new cell that f writes -/
def afterF (en1 : En) : R (List D) ER → R En ER
  | .ok (.sh x) [_] => .ok (.sh x) en1
  | .exc c fs [_] => .exc c fs en1
  | _ => .bad
def toF (m : FM) (en1 : En) : ER → R En ER
  | .fr d => afterF en1 (m [.pn true d])
  | _ => .bad
def eFf (m : FM) (f : M ER) : M ER := fun en => (f en).bind fun r en1 => toF m en1 r
variable {k : Nat} {f : Addr} {fd : FuncData} {ps : List Str} {x : Str} {p : Pos}
theorem ev_callf (D : Fd X.prog X.w X.K X.mg X.base x ps k (spM W m) f fd) (hr : Room k X.A) (hb : Binds X.K fd ps []) (hx : Pass X E) (ha : EV W E X a fa) (hg : Gl X x := by rfl)
    (hdb : (x == ("__debug__" : Str)) = false := by decide) (hs : starEach [a] X.env = (false, eval a X.env) :: starEach [] X.env := by rfl) (he : starEach [a] X.env = (false, eval a X.env) :: starEach [] X.env := by rfl) (hpl : (backTo pos (starEach [] X.env)).any (·.1) = false := by rfl) : EV W E X (.Call (.Name x p) [a] [] pos) (eFf m fa) := by
  refine PE.imp (pe_callSD D.ok hr hg D.at_ D.kp hb .nil hx (pa_cons ha pa_nil hs) hdb he hpl) fun σ H Q hq => ?_
  obtain ⟨G, F, en, R, h⟩ := tE.out.mp hq
  show tE W E fa σ H fun v H1 => spM W m [v] H1 Q (E σ)
  refine tE.out.mpr ⟨G, F, en, R, ?_⟩
  unfold eFf at h
  cases e : fa en with
  | bad => rw [e] at h; exact h.elim
  | exc c fs en1 => rw [e] at h; exact h
  | ok r en1 =>
    rw [e] at h
    intro v F1 H1 R1 x1 hv
    have h' : Out W E G σ (AE W G σ F Q) (toF m en1 r) := h
    cases r with
    | sh d => exact h'.elim
    | bo i => exact h'.elim
    | fr d =>
      obtain ⟨b, rfl, t, fb, nb, ap⟩ := hv
      have aok : ArgsOk W F1 H1 [Sl.pn true d] [V.ref b] := by
        refine ⟨rfl, fun i s v e1 e2 => ?_, fun i l s t a hil e1 e2 => ?_⟩
        · cases i with
          | zero => cases e1; cases e2; exact ⟨b, rfl, t, fb⟩
          | succ i => cases e1
        · cases i with
          | succ i => cases e1
          | zero => cases l with
            | zero => exact absurd rfl hil
            | succ l => cases e2
      refine ⟨F1, [.pn true d], R1.sub, aok, ?_⟩
      have h2 : Out W E G σ (AE W G σ F Q) (afterF en1 (m [.pn true d])) := h'
      cases em : m [.pn true d] with
      | bad => rw [em] at h2; exact h2
      | exc c fs outs =>
        rw [em] at h2
        match outs, h2 with
        | [d'], h2 =>
          intro dd F2 H2 post oo xr
          exact h2 dd F2 H2 (R1.calledF nb ap post (by obtain ⟨⟨y, z, t', _⟩, _⟩ := oo; cases z; exact t'.there)) (by obtain ⟨fs', x1, x2, x3⟩ := xr; exact ⟨fs', x1, x2, R1.new x3⟩)
        | [], h2 => exact h2.elim
        | _ :: _ :: _, h2 => exact h2.elim
      | ok r outs =>
        rw [em] at h2
        match r, outs, h2 with
        | .sh y, [d'], h2 =>
          intro v F2 H2 post oo vr
          exact h2 v F2 H2 (R1.calledF nb ap post (by obtain ⟨⟨y, z, t', _⟩, _⟩ := oo; cases z; exact t'.there)) (x1.trans post.ex) vr
        | .sh y, [], h2 => exact h2.elim
        | .sh y, _ :: _ :: _, h2 => exact h2.elim
        | .fr y, _, h2 => exact h2.elim
        | .bo y, _, h2 => exact h2.elim
end
end Fw
set_option Elab.async false
set_option linter.all false
set_option maxRecDepth 100000
namespace Fw
open PySem PySem.Spec PyProof.Rows L2
/-- a list, unpacked -/
def gU (gs : List GM) : GM := fun d en => match d with
  | .lst ds => gAll gs ds en
  | _ => none
/-- t1 = t2 = e, the value shared -/
def sAsg2 (g g2 : GM) (f : M ER) : SM := fun en => (f en).then fun r en1 => match shr en1 r with
  | some (d, en2) => (match g d en2 with | some en3 => (match g2 d en3 with | some en4 => .nx en4 | none => .bad) | none => .bad)
  | none => .bad
section
variable {W : Wc} {E : St → XK} {X : Cx} {a b c : Expr} {es : List Expr} {fa fb fc : M ER} {ga gb : M Bool} {fs : List (M ER)} {pos : Pos} {tg : Expr} {ts : List Expr} {ws : List Nat} {gm : GM} {gms : List GM} {G : Gc} {en : En} {σ : St} {F H : Hp}
theorem gv_unl {k : Nat} (hK : W.K = X.K) (hc : X.calm = true) (h : GVs W X ts ws gms) (hl : (assignEach ts X.env).length = gms.length := by rfl) (hst : (assignEach ts X.env).findIdx? (·.1) = none := by rfl) : GV W X (.Tuple ts k pos) ws (gU gms) := by
  refine PG.imp (pg_unl hc h hl hst) fun v σ H Q ⟨G, F, en, d, R, hd, h⟩ => ?_
  cases d with
  | lst ds =>
    cases hd with
    | lst h1 l1 c1 =>
      have hlen : ∀ (gs : List GM) (ds : List D) (en en' : En), gAll gs ds en = some en' → gs.length = ds.length := by
        intro gs
        induction gs with
        | nil => intro ds en en' q; cases ds with
          | nil => rfl
          | cons d ds => cases q
        | cons g gs ih => intro ds en en' q; cases ds with
          | nil => cases q
          | cons d ds =>
            unfold gAll at q
            cases e : g d en with
            | none => simp only [e] at q; cases q
            | some en1 => simp only [e] at q; simp [ih ds en1 en' q]
      cases e : gAll gms ds en with
      | none => simp only [gU, e] at h
      | some en' =>
        refine ⟨_, _, rfl, by rw [← hK]; exact SqL.of (R.sub _ _ h1), by rw [l1, hlen _ _ _ _ e], G, F, en, ds, R, ⟨l1, c1⟩, ?_⟩
        simp only [gU, e] at h ⊢
        exact h
  | _ => exact h.elim
theorem sv_asg2 {t2 : Expr} {ws2 : List Nat} {gm2 : GM} (ha : EV W E X a fa) (hg : GV W X tg ws gm) (hg2 : GV W X t2 ws2 gm2) (hw : (assignEach [tg, t2] X.env).map (·.2) = [assign tg X.env, assign t2 X.env] := by rfl) (hs : swappedStores [tg, t2] a X.env = pure none := by rfl) : SV W E X (.Assign [tg, t2] a pos) (sAsg2 gm gm2 fa) := by
  refine PS.imp (ps_asg2 ha hg hg2 hw hs) fun D σ H hq => ?_
  obtain ⟨G, F, en, R, h⟩ := tS.out.mp hq
  refine es_then R h fun r en1 v F1 H1 h1 R1 x1 vr => ?_
  obtain ⟨F2, x2, vw, R2⟩ := vr.vw R1
  cases q : shr en1 r with
  | none => simp only [q] at h1; exact h1.elim
  | some p =>
    obtain ⟨d, en2⟩ := p
    simp only [q] at h1
    obtain ⟨F3, x3, dv, R3⟩ := shr_ok vw R2 q
    refine ⟨G, F3, en2, d, R3, dv, ?_⟩
    cases e : gm d en2 with
    | none => simp only [e] at h1; exact h1.elim
    | some en3 =>
      simp only [e] at h1
      intro σ' F' H' R' x' _ _
      refine ⟨G, F', en3, d, R', dv.mono x', ?_⟩
      cases e2 : gm2 d en3 with
      | none => simp only [e2] at h1; exact h1.elim
      | some en4 => simp only [e2] at h1; exact fun σ' F' H' R' _ _ _ => h1 σ' F' H' R'
end
end Fw
set_option Elab.async false
set_option linter.all false
set_option maxRecDepth 100000
namespace Fw
open PySem PySem.Spec PyProof.Rows L2
/-! ### instances: fields -/
def putG (f : Str) (v : D) : List (Str × D) → List (Str × D)
  | [] => [(f, v)]
  | (g, x) :: r => if g = f then (g, v) :: r else (g, x) :: putG f v r
/-- o.f, o an instance of a class among cs -/
def gFld (cs : List Nat) (f : Str) : D → Option ER
  | .ins c fs => if c ∈ cs then (match fs.lookup f with | some d => some (.sh d) | none => none) else none
  | _ => none
/-- the target x.f, x the slot i -/
def gA (cs : List Nat) (i : Nat) (f : Str) : GM := fun d en => match cellAt 3 en i with
  | some (.ins c fs) => if c ∈ cs ∧ fs.length < 1000 then some (putD en i (.ins c (putG f d fs))) else none
  | _ => none
section
variable {W : Wc} {E : St → XK} {X : Cx} {a : Expr} {fa : M ER} {pos : Pos} {G : Gc} {en : En} {σ : St} {F H F' H' : Hp} {f : Str} {cs : List Nat}
theorem dp_cons {g g' : Str} {v : V} {d : D} {r : List (Str × V)} {r' : List (Str × D)} : DP W F ((g, v) :: r) ((g', d) :: r') ↔ g = g' ∧ Dat W F v d ∧ DP W F r r' := by
  constructor
  · rintro ⟨h1, h2⟩
    simp only [List.map_cons, List.cons.injEq] at h1
    exact ⟨h1.1, h2 0 _ _ rfl rfl, h1.2, fun i v d e1 e2 => h2 (i + 1) v d e1 e2⟩
  · rintro ⟨rfl, h2, h3, h4⟩
    refine ⟨by simp only [List.map_cons, h3], fun i v d e1 e2 => ?_⟩
    cases i with
    | zero => cases e1; cases e2; exact h2
    | succ i => exact h4 i v d e1 e2
theorem dp_nil : DP W F ([] : List (Str × V)) ([] : List (Str × D)) := ⟨rfl, fun i v d h => by simp at h⟩
theorem dp_put {v : V} {d : D} (hd : Dat W F v d) : ∀ {fs' : List (Str × V)} {fs : List (Str × D)}, DP W F fs' fs → DP W F (putF f v fs') (putG f d fs)
  | [], [], _ => dp_cons.mpr ⟨rfl, hd, dp_nil⟩
  | [], _ :: _, h => by have := h.1; simp at this
  | _ :: _, [], h => by have := h.1; simp at this
  | (g, x) :: r, (g', x') :: r', h => by
    obtain ⟨rfl, h2, h3⟩ := dp_cons.mp h
    show DP W F (if g = f then (g, v) :: r else (g, x) :: putF f v r) (if g = f then (g, d) :: r' else (g, x') :: putG f d r')
    by_cases q : g = f
    · rw [if_pos q, if_pos q]; exact dp_cons.mpr ⟨rfl, hd, h3⟩
    · rw [if_neg q, if_neg q]; exact dp_cons.mpr ⟨rfl, h2, dp_put hd h3⟩
theorem dp_look {d : D} : ∀ {fs' : List (Str × V)} {fs : List (Str × D)}, DP W F fs' fs → fs.lookup f = some d → ∃ v, fs'.lookup f = some v ∧ Dat W F v d
  | [], [], _, e => by cases e
  | [], _ :: _, h, _ => by have := h.1; simp at this
  | _ :: _, [], h, _ => by have := h.1; simp at this
  | (g, x) :: r, (g', x') :: r', h, e => by
    obtain ⟨rfl, h2, h3⟩ := dp_cons.mp h
    rw [List.lookup_cons] at e ⊢
    cases q : f == g with
    | true => rw [q] at e; cases e; exact ⟨x, rfl, h2⟩
    | false => rw [q] at e; exact dp_look h3 e
theorem dp_len {fs' : List (Str × V)} {fs : List (Str × D)} (h : DP W F fs' fs) : fs'.length = fs.length := by
  have := congrArg List.length h.1
  simpa using this
/-- what the walk must know of the classes cs at the name f -/
def CF (W : Wc) (cs : List Nat) (f : Str) : Prop := ∀ c ∈ cs, Cls W.K (W.cls c) ∧ NoAttr W.K (W.cls c) f
theorem ev_fld (hK : W.K = X.K) (hc : CF W cs f) (ha : EV W E X a fa) (hb : attributeBase a f X.env (eval a X.env) = eval a X.env := by rfl) : EV W E X (.Attribute a f pos) (e1 (gFld cs f) fa) := by
  refine PE.imp (pe_fld ha hb) fun σ H Q hq => ?_
  obtain ⟨G, F, en, R, h⟩ := tE.out.mp hq
  refine ev_then R h fun ra en1 x F1 H1 h1 R1 x1 va => ?_
  cases e1 : cur en1 ra with
  | none => simp only [e1] at h1; exact h1.elim
  | some dx =>
    simp only [e1] at h1
    have vb := va.vb R1 e1
    cases e2 : gFld cs f dx with
    | none => simp only [e2] at h1; exact h1.elim
    | some r =>
      simp only [e2] at h1
      match dx, e2 with
      | .ins c fs, e2 =>
        have e2' : (if c ∈ cs then (match fs.lookup f with | some d => some (ER.sh d) | none => none) else none) = some r := e2
        split at e2'
        · rename_i hm
          split at e2'
          · rename_i d el
            cases e2'
            obtain ⟨ad, dx, fs', rfl, k1, k2⟩ := vb.ins R1.sub
            obtain ⟨v, l1, l2⟩ := dp_look k2 el
            obtain ⟨c1, c2⟩ := hc c hm
            rw [hK] at c1 c2
            exact ⟨ad, W.cls c, dx, fs', v, rfl, k1, c1, c2, l1, h1 v F1 H1 R1 x1 l2⟩
          · cases e2'
        · cases e2'
/-- a field as a target -/
def gAtt (K : PySem.W.Frag) (to : TE) (f : Str) : TG := fun v σ H Q => to σ H fun x H1 => ∃ a C dx fs, x = .ref a ∧ H1 a = some (.ins C dx fs) ∧ Cls K C ∧ NoAttr K C f ∧ fs.length < 1000 ∧ Q σ (upd H1 a (.ins C dx (putF f v fs)))
theorem pg_att {o : Expr} {to : TE} (ho : PE X o to) : PG X (.Attribute o f pos) (gAtt X.K to f) := by
  refine ⟨fun pins s σ H v u Q I r h => ?_⟩
  rw [assign_Attribute]
  refine wpAny_bind (wpAny_holding (thn (ho.run pins s σ H _ I h) fun ov s1 ⟨x, H1, I1, rx, a, C, dx, fs, ex, ea, c, n, l, q⟩ => ?_))
  subst ex
  obtain rfl : ov = Value.ref a := rx
  refine wpAny_bind (wpAny_standAt (wpAny_bind (wpAny_holding (setattr_ok I1 ea c n l r fun s2 I2 => ?_))))
  exact wpAny_release ⟨σ, _, I2, q⟩
theorem gv_att (i : Nat) {x : Str} {p : Pos} (hK : W.K = X.K) (hc : CF W cs f) (hN : X.N[i]? = some x := by rfl) (hv : Vis X.env.scope x := by first | exact Or.inl rfl | exact Or.inr (Or.inl rfl) | exact Or.inr (Or.inr rfl)) (hd : (x == ("__debug__" : Str)) = false := by decide) (hcd : (x == ("__classdict__" : Str)) = false := by decide) :
    GV W X (.Attribute (.Name x p) f pos) [] (gA cs i f) := by
  refine PG.imp (pg_att (pe_var hN hv hd hcd)) fun v σ H Q ⟨G, F, en, d, R, hd, h⟩ => ?_
  cases e4 : cellAt 3 en i with
  | none => simp only [gA, e4] at h
  | some dd =>
    obtain ⟨s2, ad2, k1, k2, k3, k4, k5, k6, k7⟩ := cellAt_ok R e4
    match dd, e4 with
    | .ins c fs, e4 =>
      simp only [gA, e4] at h
      by_cases q : c ∈ cs ∧ fs.length < 1000
      · rw [if_pos q] at h
        obtain ⟨dx, fs', t, l⟩ := k6
        obtain ⟨c1, c2⟩ := hc c q.1
        rw [hK] at c1 c2
        have hh : ∀ σ' F' H', Rel W G (putD en i (.ins c (putG f d fs))) σ' F' H' → Ex F F' → σ'.length = σ.length → (∀ k, k ∉ ([] : List Nat) → σ'[k]? = σ[k]?) → Q σ' H' := h
        refine ⟨_, k5, ad2, W.cls c, dx, fs', rfl, t, c1, c2, by rw [dp_len l]; exact q.2, hh σ F _ ?_ (Ex.refl F) rfl fun _ _ => rfl⟩
        rw [putD_eq k1]
        exact R.mut k1 k2 k5 ⟨dx, _, upd_same, dp_put hd l⟩
      · rw [if_neg q] at h; exact h.elim
    | .lst _, e4 => simp only [gA, e4] at h
    | .non, e4 => simp only [gA, e4] at h
    | .bl _, e4 => simp only [gA, e4] at h
    | .int _, e4 => simp only [gA, e4] at h
    | .str _, e4 => simp only [gA, e4] at h
    | .tup _, e4 => simp only [gA, e4] at h
    | .rot _, e4 => simp only [gA, e4] at h
    | .rol _, e4 => simp only [gA, e4] at h
    | .dk _, e4 => simp only [gA, e4] at h
    | .dt _, e4 => simp only [gA, e4] at h
    | .ty _, e4 => simp only [gA, e4] at h
    | .cl _, e4 => simp only [gA, e4] at h
    | .exn _ _ _ _, e4 => simp only [gA, e4] at h
end
/-! making an instance, every value by its name -/
def newOf (c : Nat) (en2 : En) : R (List D) ER → R En ER
  | .ok (.sh .non) [.ins c' fs] => if c' = c then .ok (.fr (.ins c fs)) en2 else .bad
  | _ => .bad
def eNew (c : Nat) (m : FM) (fs : List (M ER)) : M ER := fun en => (eA fs en).bind fun rs en1 => match shrs rs en1 with
  | some (ds, en2) => newOf c en2 (m (.pn true (.ins c []) :: ds.map .sh))
  | none => .bad
section
variable {W : Wc} {E : St → XK} {X : Cx} {a : Expr} {fa : M ER} {fs : List (M ER)} {pos : Pos} {G : Gc} {en : En} {σ : St} {F H F' H' : Hp} {m : FM} {kws : List Keyword} {nm : Option Str} {kpos : Pos}
def KV (W : Wc) (E : St → XK) (X : Cx) (kws : List Keyword) (f : M (List ER)) : Prop := PK X kws (tA W E f)
theorem PK.imp {t u : TA} (h : PK X kws t) (i : ∀ σ H Q, u σ H Q → t σ H Q) : PK X kws u := ⟨fun p pins s σ H Q I w => h.run p pins s σ H Q I (i _ _ _ w)⟩
theorem kv_nil : KV W E X [] (eA []) := PK.imp pk_nil fun σ H Q ⟨G, F, en, R, h⟩ => h [] F H R (Ex.refl F) trivial
theorem kv_cons (ha : EV W E X a fa) (hr : KV W E X kws (eA fs)) : KV W E X (⟨nm, a, kpos⟩ :: kws) (eA (fa :: fs)) := by
  refine PK.imp (pk_cons ha hr) fun σ H Q hq => ?_
  obtain ⟨G, F, en, R, h⟩ := tA.out.mp hq
  refine ev_then R h fun r en1 x F1 H1 h1 R1 x1 va => ?_
  refine av_then R1 h1 fun rs en2 xs F2 H2 h2 R2 x2 vs => ?_
  exact h2 (x :: xs) F2 H2 R2 (x1.trans x2) ⟨va.mono x2, vs⟩
theorem argsOk_new {c : Nat} {b dx : Addr} {zs : List V} {ds : List D} (hF : F b = none) (t : H b = some (.ins (W.cls c) dx [])) (dl : DL W F zs ds) : ArgsOk W F H (.pn true (.ins c []) :: ds.map Sl.sh) (.ref b :: zs) := by
  refine ⟨by simp [dl.1], fun k s v e1 e2 => ?_, fun k l s t a hkl e1 e2 ex ow z1 z2 => ?_⟩
  · cases k with
    | zero => cases e1; cases e2; exact ⟨b, rfl, ⟨dx, [], t, dp_nil⟩, hF⟩
    | succ k =>
      rw [List.getElem?_cons_succ] at e1 e2
      rw [List.getElem?_map] at e1
      cases q : ds[k]? with
      | none => rw [q] at e1; cases e1
      | some d => rw [q] at e1; cases e1; exact dl.2 _ _ _ e2 q
  · cases k with
    | zero =>
      cases l with
      | zero => exact absurd rfl hkl
      | succ l =>
        rw [List.getElem?_cons_succ, List.getElem?_map] at e2
        cases q : ds[l]? with
        | none => rw [q] at e2; cases e2
        | some d => rw [q] at e2; cases e2; exact absurd ow Bool.false_ne_true
    | succ k =>
      rw [List.getElem?_cons_succ, List.getElem?_map] at e1
      cases q : ds[k]? with
      | none => rw [q] at e1; cases e1
      | some d => rw [q] at e1; cases e1; exact absurd ex Bool.false_ne_true
theorem wr_shs : ∀ (ds : List D) (zs : List V), wrOf (ds.map Sl.sh) zs = []
  | [], zs => by simp [wrOf]
  | d :: ds, [] => by simp [wrOf]
  | d :: ds, z :: zs => by simpa [wrOf] using wr_shs ds zs
theorem wr_new {c : Nat} {b : Addr} {zs : List V} {ds : List D} : wrOf (.pn true (.ins c []) :: ds.map Sl.sh) (.ref b :: zs) = [b] := by
  show b :: wrOf (ds.map Sl.sh) zs = [b]
  rw [wr_shs]
variable {k : Nat} {f C : Addr} {fd : FuncData} {ps ks : List Str} {x : Str} {p : Pos} {g : List Value → List Value → List Value}
end
/-- the class that the module's top has under the name x -/
def gaN (K : PySem.W.Frag) (x : Str) : Addr := match PySem.W.nsIn K mainGlobals x with
  | some (some (.ref a)) => a
  | _ => 0
theorem gaN_eq {K : PySem.W.Frag} {x : Str} {C : Addr} (h : PySem.W.nsIn K mainGlobals x = some (some (.ref C))) : gaN K x = C := by
  unfold gaN; rw [h]
theorem CF.of {W : Wc} {cs : List Nat} {f : Str} (h : ∀ c ∈ cs, Cls W.K (W.cls c) ∧ NoAttr W.K (W.cls c) f) : CF W cs f := h
end Fw
set_option Elab.async false
set_option linter.all false
set_option maxRecDepth 100000
namespace Fw
open PySem PySem.Spec PyProof.Rows L2
/-! ### lists: turned about, index; a target that takes a tuple or a list -/
def gRev : D → Option ER
  | .lst ds => some (.fr (.lst ds.reverse))
  | .rol ds => some (.fr (.lst ds.reverse))
  | _ => none
def gIndexL (d : D) (ds : List D) : Option (D × D) := match d, ds with
  | .lst xs, [y] => (match flatD y, flats xs with
    | some v, some us => (match us.findIdx? (fun z => eqV z v) with | some j => some (.lst xs, .int (j : Nat)) | none => none)
    | _, _ => none)
  | _, _ => none
def gTU (gs : List GM) : GM := fun d en => match d with
  | .tup ds => gAll gs ds en
  | .lst ds => gAll gs ds en
  | _ => none
section
variable {W : Wc} {E : St → XK} {X : Cx} {a tg : Expr} {ts : List Expr} {ws : List Nat} {gms : List GM} {fa : M ER} {pos : Pos} {G : Gc} {en : En} {σ : St} {F H : Hp}
theorem DL.rev {vs : List V} {ds : List D} (l : DL W F vs ds) : DL W F vs.reverse ds.reverse := by
  refine ⟨by rw [List.length_reverse, List.length_reverse]; exact l.1, fun i v d e1 e2 => ?_⟩
  have h1 : i < vs.length := by
    have := (List.getElem?_eq_some_iff.mp e1).1
    simpa using this
  rw [List.getElem?_reverse h1] at e1
  rw [List.getElem?_reverse (by rw [← l.1]; exact h1), ← l.1] at e2
  exact l.2 _ _ _ e1 e2
theorem ev_rev {k : Nat} {p1 p2 p3 : Pos} (hK : W.K = X.K) (ha : EV W E X a fa) : EV W E X (.Subscript a (.Slice none none (some (.UnaryOp .USub (.Constant (.int 1) k p1) p2)) p3) pos) (e1 gRev fa) := by
  refine PE.imp (pe_revL ha) fun σ H Q hq => ?_
  obtain ⟨G, F, en, R, h⟩ := tE.out.mp hq
  refine ev_then R h fun r en1 x F1 H1 h1 R1 x1 va => ?_
  cases e : cur en1 r with
  | none => simp only [e] at h1; exact h1.elim
  | some d =>
    have vb := va.vb R1 e
    match d, e with
    | .lst ds, e =>
      simp only [e, gRev] at h1
      obtain ⟨p, vs, rfl, h, l⟩ := vb.lst R1.sub
      refine ⟨p, vs, rfl, SqL.of h, fun q nq => ?_⟩
      have st := Stp.cell (o := .lst vs.reverse) R1.sub nq
      exact h1 (.ref q) _ _ (R1.stp st) x1 ⟨q, rfl, ⟨vs.reverse, upd_same, l.rev⟩, no_of (s := R1.sub) nq, R1.new nq, R1.apart nq⟩
    | .rol ds, e =>
      simp only [e, gRev] at h1
      obtain ⟨p, vs, rfl, h, l⟩ := vb.rol R1.sub
      rw [hK] at h
      refine ⟨p, vs, rfl, h, fun q nq => ?_⟩
      have st := Stp.cell (o := .lst vs.reverse) R1.sub nq
      exact h1 (.ref q) _ _ (R1.stp st) x1 ⟨q, rfl, ⟨vs.reverse, upd_same, l.rev⟩, no_of (s := R1.sub) nq, R1.new nq, R1.apart nq⟩
    | .non, e => simp only [e, gRev] at h1; exact h1.elim
    | .bl _, e => simp only [e, gRev] at h1; exact h1.elim
    | .int _, e => simp only [e, gRev] at h1; exact h1.elim
    | .str _, e => simp only [e, gRev] at h1; exact h1.elim
    | .tup _, e => simp only [e, gRev] at h1; exact h1.elim
    | .rot _, e => simp only [e, gRev] at h1; exact h1.elim
    | .dk _, e => simp only [e, gRev] at h1; exact h1.elim
    | .dt _, e => simp only [e, gRev] at h1; exact h1.elim
    | .ins _ _, e => simp only [e, gRev] at h1; exact h1.elim
    | .ty _, e => simp only [e, gRev] at h1; exact h1.elim
    | .cl _, e => simp only [e, gRev] at h1; exact h1.elim
    | .exn _ _ _ _, e => simp only [e, gRev] at h1; exact h1.elim
theorem upd_eq {H : Hp} {a : Addr} {o : HO} (h : H a = some o) : upd H a o = H := by
  funext b
  by_cases q : b = a
  · subst q; rw [upd_same, h]
  · rw [upd_ne q]
theorem s_index : MutS W (rIndex W.K) gIndexL := by
  intro F H ad xs d ds d' r Q hs hF t l e q
  match d, ds, e with
  | .lst ys, [y], e =>
    have e' : (match flatD y, flats ys with
      | some v, some us => (match us.findIdx? (fun z => eqV z v) with | some j => some (D.lst ys, D.int (j : Nat)) | none => none)
      | _, _ => none) = some (d', r) := e
    cases e1 : flatD y with
    | none => simp only [e1] at e'; cases e'
    | some v =>
      cases e2 : flats ys with
      | none => simp only [e1, e2] at e'; cases e'
      | some us =>
        simp only [e1, e2] at e'
        split at e'
        · rename_i j hj
          cases e'
          obtain ⟨vs, h, lv⟩ := t
          obtain ⟨w, rfl, dv⟩ := dl1 l
          obtain ⟨rfl, fw⟩ := flatD_ok (H := H) (.inl dv) e1
          obtain ⟨rfl, fl⟩ := flats_ok lv e2
          obtain ⟨hj1, hj2, hj3⟩ := List.findIdx?_eq_some_iff_getElem.mp hj
          have hq := q (.int (j : Nat)) (.lst vs) (by rw [upd_eq h]; exact ⟨vs, h, lv⟩) (Dat.int _)
          rw [upd_eq h] at hq
          refine ⟨ad, vs, w, j, vs[j], rfl, rfl, SqL.of h, fw, fl, List.getElem?_eq_getElem hj1, hj2, fun m z hm hz => ?_, hq⟩
          obtain ⟨hm1, rfl⟩ := List.getElem?_eq_some_iff.mp hz
          have := hj3 m hm
          simpa using this
        · cases e'
theorem slx : Slot "list" "index" "list.index" := PySem.F.slot_list_index
theorem tyx : typeOf (.builtin "list.index") = pure (.type "method_descriptor") := PySem.F.type_list_index
theorem PG.or {t u : TG} (h1 : PG X tg t) (h2 : PG X tg u) : PG X tg (fun v σ H Q => t v σ H Q ∨ u v σ H Q) := ⟨fun pins s σ H v w Q I r h => by
  rcases h with h | h
  · exact h1.run pins s σ H v w Q I r h
  · exact h2.run pins s σ H v w Q I r h⟩
theorem gv_tu {k : Nat} (hK : W.K = X.K) (hc : X.calm = true) (h : GVs W X ts ws gms) (hl : (assignEach ts X.env).length = gms.length := by rfl) (hst : (assignEach ts X.env).findIdx? (·.1) = none := by rfl) : GV W X (.Tuple ts k pos) ws (gTU gms) := by
  refine PG.imp (PG.or (gv_tup hK hc h hl hst) (gv_unl hK hc h hl hst)) fun v σ H Q ⟨G, F, en, d, R, hd, h⟩ => ?_
  match d, hd, h with
  | .tup ds, hd, h => exact .inl ⟨G, F, en, .tup ds, R, hd, h⟩
  | .lst ds, hd, h => exact .inr ⟨G, F, en, .lst ds, R, hd, h⟩
end
theorem len_split {α : Type} {n : Nat} : ∀ {ws : List α}, ws.length = n + 1 → ∃ a r, ws = a :: r ∧ r.length = n
  | [], h => by cases h
  | a :: r, h => ⟨a, r, rfl, Nat.succ.inj h⟩
end Fw
set_option Elab.async false
set_option linter.all false
set_option maxRecDepth 100000
namespace Fw
open PySem PySem.Spec PyProof.Rows L2
/-! ### more evaluation -/
section
variable {en en1 en2 : En} {fa fb : M ER} {fs : List (M ER)} {ds xs : List D} {d : D} {a b : Bool} {i j : Int} {s t : Str} {α : Type}
theorem eNew_ap {c : Nat} {m : FM} : eNew c m fs en = (eA fs en).bind fun rs en1 => (match shrs rs en1 with
  | some (ds, en2) => newOf c en2 (m (.pn true (.ins c []) :: ds.map .sh))
  | none => .bad) := rfl
theorem newOf_ap {c : Nat} {fs : List (Str × D)} : newOf c en2 (.ok (.sh .non) [.ins c fs]) = .ok (.fr (.ins c fs)) en2 := if_pos rfl
theorem gU_lst {gs : List GM} : gU gs (.lst ds) en = gAll gs ds en := rfl
theorem gTU_lst {gs : List GM} : gTU gs (.lst ds) en = gAll gs ds en := rfl
theorem gTU_tup {gs : List GM} : gTU gs (.tup ds) en = gAll gs ds en := rfl
theorem sAsg2_ap {g g2 : GM} : sAsg2 g g2 fa en = (fa en).then fun r en1 => (match shr en1 r with
  | some (d, en2) => (match g d en2 with | some en3 => (match g2 d en3 with | some en4 => .nx en4 | none => .bad) | none => .bad)
  | none => .bad) := rfl
theorem rev_lst : gRev (.lst ds) = some (.fr (.lst ds.reverse)) := rfl
theorem rev_rol : gRev (.rol ds) = some (.fr (.lst ds.reverse)) := rfl
theorem eFf_ap {m : FM} : eFf m fa en = (fa en).bind fun r en1 => toF m en1 r := rfl
theorem eDict0_ap : eDict0 en = .ok (.fr (.dk [])) en := rfl
theorem iS_ap {g : List D → Option (List D)} : iS g fs en = (eA fs en).bind fun rs en1 => (match shrs rs en1 with
  | some (ds, en2) => (match g ds with | some xs => .ok ⟨xs, none⟩ en2 | none => .bad)
  | none => .bad) := rfl
theorem sRetN_ap : sRetN en = .rt (.sh .non) en := rfl
theorem sPass_ap : sPass en = .nx en := rfl
theorem sBreak_ap : sBreak en = .bk en := rfl
theorem sCont_ap : sCont en = .ct en := rfl
theorem sAug_ap {g : D → D → Option ER} {n : Nat} : sAug n g fa en = (match en[n]? with
  | some (.ow _) => sAug n g fa en
  | some (.sh _) => sAug n g fa en
  | _ => sAug n g fa en) := by split <;> rfl
theorem i_and : (if a = true then R.ok b en else R.ok false en : R En Bool) = .ok (a && b) en := by cases a <;> rfl
theorem i_or : (if a = true then R.ok true en else R.ok b en : R En Bool) = .ok (a || b) en := by cases a <;> rfl
theorem i_andE : (if a = true then R.ok (.sh (.bl b)) en else R.ok (.sh (.bl false)) en : R En ER) = .ok (.sh (.bl (a && b))) en := by cases a <;> rfl
theorem i_orE : (if a = true then R.ok (.sh (.bl true)) en else R.ok (.sh (.bl b)) en : R En ER) = .ok (.sh (.bl (a || b))) en := by cases a <;> rfl
theorem i_int : (if a = true then R.ok (.sh (.int i)) en else R.ok (.sh (.int j)) en : R En ER) = .ok (.sh (.int (if a = true then i else j))) en := by cases a <;> rfl
theorem i_str : (if a = true then R.ok (.sh (.str s)) en else R.ok (.sh (.str t)) en : R En ER) = .ok (.sh (.str (if a = true then s else t))) en := by cases a <;> rfl
theorem dl_nat {n : Nat} {d : D} (h : ds[n]? = some d) : dIx (.lst ds) (.int (n : Int)) = some (.sh d) := atD_nat h
theorem at5 {x0 x1 x2 x3 x4 x5 : D} : atD (x0 :: x1 :: x2 :: x3 :: x4 :: x5 :: ds) 5 = some (.sh x5) := atD_nat (n := 5) rfl
theorem at6 {x0 x1 x2 x3 x4 x5 x6 : D} : atD (x0 :: x1 :: x2 :: x3 :: x4 :: x5 :: x6 :: ds) 6 = some (.sh x6) := atD_nat (n := 6) rfl
theorem at7 {x0 x1 x2 x3 x4 x5 x6 x7 : D} : atD (x0 :: x1 :: x2 :: x3 :: x4 :: x5 :: x6 :: x7 :: ds) 7 = some (.sh x7) := atD_nat (n := 7) rfl
theorem at8 {x0 x1 x2 x3 x4 x5 x6 x7 x8 : D} : atD (x0 :: x1 :: x2 :: x3 :: x4 :: x5 :: x6 :: x7 :: x8 :: ds) 8 = some (.sh x8) := atD_nat (n := 8) rfl
theorem at9 {x0 x1 x2 x3 x4 x5 x6 x7 x8 x9 : D} : atD (x0 :: x1 :: x2 :: x3 :: x4 :: x5 :: x6 :: x7 :: x8 :: x9 :: ds) 9 = some (.sh x9) := atD_nat (n := 9) rfl
theorem at10 {x0 x1 x2 x3 x4 x5 x6 x7 x8 x9 x10 : D} : atD (x0 :: x1 :: x2 :: x3 :: x4 :: x5 :: x6 :: x7 :: x8 :: x9 :: x10 :: ds) 10 = some (.sh x10) := atD_nat (n := 10) rfl
theorem at11 {x0 x1 x2 x3 x4 x5 x6 x7 x8 x9 x10 x11 : D} : atD (x0 :: x1 :: x2 :: x3 :: x4 :: x5 :: x6 :: x7 :: x8 :: x9 :: x10 :: x11 :: ds) 11 = some (.sh x11) := atD_nat (n := 11) rfl
theorem at12 {x0 x1 x2 x3 x4 x5 x6 x7 x8 x9 x10 x11 x12 : D} : atD (x0 :: x1 :: x2 :: x3 :: x4 :: x5 :: x6 :: x7 :: x8 :: x9 :: x10 :: x11 :: x12 :: ds) 12 = some (.sh x12) := atD_nat (n := 12) rfl
theorem at13 {x0 x1 x2 x3 x4 x5 x6 x7 x8 x9 x10 x11 x12 x13 : D} : atD (x0 :: x1 :: x2 :: x3 :: x4 :: x5 :: x6 :: x7 :: x8 :: x9 :: x10 :: x11 :: x12 :: x13 :: ds) 13 = some (.sh x13) := atD_nat (n := 13) rfl
theorem at14 {x0 x1 x2 x3 x4 x5 x6 x7 x8 x9 x10 x11 x12 x13 x14 : D} : atD (x0 :: x1 :: x2 :: x3 :: x4 :: x5 :: x6 :: x7 :: x8 :: x9 :: x10 :: x11 :: x12 :: x13 :: x14 :: ds) 14 = some (.sh x14) := atD_nat (n := 14) rfl
theorem at15 {x0 x1 x2 x3 x4 x5 x6 x7 x8 x9 x10 x11 x12 x13 x14 x15 : D} : atD (x0 :: x1 :: x2 :: x3 :: x4 :: x5 :: x6 :: x7 :: x8 :: x9 :: x10 :: x11 :: x12 :: x13 :: x14 :: x15 :: ds) 15 = some (.sh x15) := atD_nat (n := 15) rfl
theorem at16 {x0 x1 x2 x3 x4 x5 x6 x7 x8 x9 x10 x11 x12 x13 x14 x15 x16 : D} : atD (x0 :: x1 :: x2 :: x3 :: x4 :: x5 :: x6 :: x7 :: x8 :: x9 :: x10 :: x11 :: x12 :: x13 :: x14 :: x15 :: x16 :: ds) 16 = some (.sh x16) := atD_nat (n := 16) rfl
theorem at17 {x0 x1 x2 x3 x4 x5 x6 x7 x8 x9 x10 x11 x12 x13 x14 x15 x16 x17 : D} : atD (x0 :: x1 :: x2 :: x3 :: x4 :: x5 :: x6 :: x7 :: x8 :: x9 :: x10 :: x11 :: x12 :: x13 :: x14 :: x15 :: x16 :: x17 :: ds) 17 = some (.sh x17) := atD_nat (n := 17) rfl
theorem at18 {x0 x1 x2 x3 x4 x5 x6 x7 x8 x9 x10 x11 x12 x13 x14 x15 x16 x17 x18 : D} : atD (x0 :: x1 :: x2 :: x3 :: x4 :: x5 :: x6 :: x7 :: x8 :: x9 :: x10 :: x11 :: x12 :: x13 :: x14 :: x15 :: x16 :: x17 :: x18 :: ds) 18 = some (.sh x18) := atD_nat (n := 18) rfl
theorem at19 {x0 x1 x2 x3 x4 x5 x6 x7 x8 x9 x10 x11 x12 x13 x14 x15 x16 x17 x18 x19 : D} : atD (x0 :: x1 :: x2 :: x3 :: x4 :: x5 :: x6 :: x7 :: x8 :: x9 :: x10 :: x11 :: x12 :: x13 :: x14 :: x15 :: x16 :: x17 :: x18 :: x19 :: ds) 19 = some (.sh x19) := atD_nat (n := 19) rfl
theorem at20 {x0 x1 x2 x3 x4 x5 x6 x7 x8 x9 x10 x11 x12 x13 x14 x15 x16 x17 x18 x19 x20 : D} : atD (x0 :: x1 :: x2 :: x3 :: x4 :: x5 :: x6 :: x7 :: x8 :: x9 :: x10 :: x11 :: x12 :: x13 :: x14 :: x15 :: x16 :: x17 :: x18 :: x19 :: x20 :: ds) 20 = some (.sh x20) := atD_nat (n := 20) rfl
theorem at21 {x0 x1 x2 x3 x4 x5 x6 x7 x8 x9 x10 x11 x12 x13 x14 x15 x16 x17 x18 x19 x20 x21 : D} : atD (x0 :: x1 :: x2 :: x3 :: x4 :: x5 :: x6 :: x7 :: x8 :: x9 :: x10 :: x11 :: x12 :: x13 :: x14 :: x15 :: x16 :: x17 :: x18 :: x19 :: x20 :: x21 :: ds) 21 = some (.sh x21) := atD_nat (n := 21) rfl
theorem at22 {x0 x1 x2 x3 x4 x5 x6 x7 x8 x9 x10 x11 x12 x13 x14 x15 x16 x17 x18 x19 x20 x21 x22 : D} : atD (x0 :: x1 :: x2 :: x3 :: x4 :: x5 :: x6 :: x7 :: x8 :: x9 :: x10 :: x11 :: x12 :: x13 :: x14 :: x15 :: x16 :: x17 :: x18 :: x19 :: x20 :: x21 :: x22 :: ds) 22 = some (.sh x22) := atD_nat (n := 22) rfl
theorem at23 {x0 x1 x2 x3 x4 x5 x6 x7 x8 x9 x10 x11 x12 x13 x14 x15 x16 x17 x18 x19 x20 x21 x22 x23 : D} : atD (x0 :: x1 :: x2 :: x3 :: x4 :: x5 :: x6 :: x7 :: x8 :: x9 :: x10 :: x11 :: x12 :: x13 :: x14 :: x15 :: x16 :: x17 :: x18 :: x19 :: x20 :: x21 :: x22 :: x23 :: ds) 23 = some (.sh x23) := atD_nat (n := 23) rfl
theorem at24 {x0 x1 x2 x3 x4 x5 x6 x7 x8 x9 x10 x11 x12 x13 x14 x15 x16 x17 x18 x19 x20 x21 x22 x23 x24 : D} : atD (x0 :: x1 :: x2 :: x3 :: x4 :: x5 :: x6 :: x7 :: x8 :: x9 :: x10 :: x11 :: x12 :: x13 :: x14 :: x15 :: x16 :: x17 :: x18 :: x19 :: x20 :: x21 :: x22 :: x23 :: x24 :: ds) 24 = some (.sh x24) := atD_nat (n := 24) rfl
end
end Fw
set_option Elab.async false
set_option linter.all false
set_option maxRecDepth 100000
namespace Fw
open PySem PySem.Spec PyProof.Rows L2
/-! ### calls with keywords and defaults, methods, makings -/
def pickL {α : Type} : List Nat → List α → List α
  | [], _ => []
  | i :: is, l => match l[i]? with
    | some x => x :: pickL is l
    | none => pickL is l
def permA {α : Type} (n : Nat) (is : List Nat) (l : List α) : List α := l.take n ++ pickL is (l.drop n)
def noT : Sl → Bool
  | .pn true _ => false
  | _ => true
def inB (is : List Nat) (n : Nat) : Bool := is.all fun i => decide (i < n)
def permM (n : Nat) (is : List Nat) (m : FM) : FM := fun args => if (decide (n ≤ args.length) && ((args.drop n).all noT && inB is (args.drop n).length)) = true then m (permA n is args) else .bad
theorem permM_ap {n : Nat} {is : List Nat} {m : FM} {args : List Sl} : permM n is m args = (if (decide (n ≤ args.length) && ((args.drop n).all noT && inB is (args.drop n).length)) = true then m (permA n is args) else .bad) := rfl
section
variable {α β : Type}
theorem get_pick : ∀ {is : List Nat} {l : List α} (k : Nat), (∀ i ∈ is, i < l.length) → (pickL is l)[k]? = (is[k]?).bind fun i => l[i]?
  | [], l, k, _ => by simp [pickL]
  | i :: is, l, k, h => by
    have hi := h i List.mem_cons_self
    unfold pickL
    rw [List.getElem?_eq_getElem hi]
    cases k with
    | zero => simp [List.getElem?_eq_getElem hi]
    | succ k =>
      simp only [List.getElem?_cons_succ]
      exact get_pick k fun j hj => h j (List.mem_cons_of_mem _ hj)
theorem pick_length : ∀ {is : List Nat} {l : List α}, (∀ i ∈ is, i < l.length) → (pickL is l).length = is.length
  | [], l, _ => rfl
  | i :: is, l, h => by
    have hi := h i List.mem_cons_self
    unfold pickL
    rw [List.getElem?_eq_getElem hi]
    simp only [List.length_cons]
    rw [pick_length fun j hj => h j (List.mem_cons_of_mem _ hj)]
theorem mem_pick : ∀ {is : List Nat} {l : List α} {x : α}, x ∈ pickL is l → x ∈ l
  | [], l, x, h => by cases h
  | i :: is, l, x, h => by
    unfold pickL at h
    cases e : l[i]? with
    | none => rw [e] at h; exact mem_pick h
    | some y =>
      rw [e] at h
      cases h with
      | head => exact List.mem_of_getElem? e
      | tail _ h => exact mem_pick h
/-- where the k-th of permA comes from -/
def srcP (n : Nat) (is : List Nat) (k : Nat) : Option Nat := if k < n then some k else (is[k - n]?).map (n + ·)
theorem get_perm {n : Nat} {is : List Nat} {l : List α} (hn : n ≤ l.length) (h : ∀ i ∈ is, i < (l.drop n).length) (k : Nat) : (permA n is l)[k]? = (srcP n is k).bind fun j => l[j]? := by
  unfold permA srcP
  have ht : (l.take n).length = n := by rw [List.length_take]; omega
  by_cases hk : k < n
  · rw [if_pos hk, List.getElem?_append_left (by rw [ht]; exact hk), List.getElem?_take, if_pos hk]; rfl
  · rw [if_neg hk, List.getElem?_append_right (by rw [ht]; omega), ht, get_pick _ h]
    cases e : is[k - n]? with
    | none => rfl
    | some i => simp only [Option.map_some, Option.bind_some, List.getElem?_drop]
theorem perm_length {n : Nat} {is : List Nat} {l : List α} (hn : n ≤ l.length) (h : ∀ i ∈ is, i < (l.drop n).length) : (permA n is l).length = n + is.length := by
  unfold permA
  rw [List.length_append, pick_length h, List.length_take]; omega
theorem nodup_idx : ∀ {is : List Nat} {a b : Nat}, is.Nodup → (ha : a < is.length) → (hb : b < is.length) → is[a] = is[b] → a = b
  | [], a, b, _, ha, _, _ => absurd ha (Nat.not_lt_zero _)
  | i :: is, a, b, nd, ha, hb, e => by
    obtain ⟨h1, h2⟩ := List.nodup_cons.mp nd
    cases a with
    | zero => cases b with
      | zero => rfl
      | succ b => exact absurd (by rw [show i = is[b]'(by simpa using hb) from e]; exact List.getElem_mem _) h1
    | succ a => cases b with
      | zero => exact absurd (by rw [show i = is[a]'(by simpa using ha) from e.symm]; exact List.getElem_mem _) h1
      | succ b => rw [nodup_idx h2 (by simpa using ha) (by simpa using hb) e]
theorem src_inj {n : Nat} {is : List Nat} (nd : is.Nodup) {k l j : Nat} (h1 : srcP n is k = some j) (h2 : srcP n is l = some j) : k = l := by
  unfold srcP at h1 h2
  by_cases hk : k < n
  · rw [if_pos hk] at h1; cases h1
    by_cases hl : l < n
    · rw [if_pos hl] at h2; exact (Option.some.inj h2).symm
    · rw [if_neg hl] at h2
      cases e : is[l - n]? with
      | none => rw [e] at h2; cases h2
      | some i => rw [e] at h2; have : n + i = _ := Option.some.inj h2; omega
  · rw [if_neg hk] at h1
    by_cases hl : l < n
    · rw [if_pos hl] at h2; cases h2
      cases e : is[k - n]? with
      | none => rw [e] at h1; cases h1
      | some i => rw [e] at h1; have : n + i = _ := Option.some.inj h1; omega
    · rw [if_neg hl] at h2
      cases e : is[k - n]? with
      | none => rw [e] at h1; cases h1
      | some i =>
        cases e2 : is[l - n]? with
        | none => rw [e2] at h2; cases h2
        | some i' =>
          rw [e] at h1; rw [e2] at h2
          have a1 : n + i = j := Option.some.inj h1
          have a2 : n + i' = j := Option.some.inj h2
          have hii : i = i' := by omega
          subst hii
          obtain ⟨b1, c1⟩ := List.getElem?_eq_some_iff.mp e
          obtain ⟨b2, c2⟩ := List.getElem?_eq_some_iff.mp e2
          have := nodup_idx nd b1 b2 (by rw [c1, c2])
          omega
end
section
variable {W : Wc} {E : St → XK} {X : Cx} {a b c o : Expr} {es : List Expr} {fa fb fc fo : M ER} {fs fs2 : List (M ER)} {pos apos : Pos} {G : Gc} {en en' : En} {σ : St} {F H F' H' : Hp} {args bs : List Sl} {vs us : List V} {m : FM} {outs : List D} {kws : List Keyword}
theorem wr_noT : ∀ {bs : List Sl} {us : List V}, bs.all noT = true → wrOf bs us = []
  | [], us, _ => by simp [wrOf]
  | s :: bs, [], _ => by simp [wrOf]
  | s :: bs, u :: us, h => by
    rw [List.all_cons, Bool.and_eq_true] at h
    have ih := wr_noT (us := us) h.2
    cases s with
    | pn mm d => cases mm with
      | true => exact absurd h.1 Bool.false_ne_true
      | false => simpa [wrOf] using ih
    | _ => simpa [wrOf] using ih
theorem wr_appT {bs : List Sl} {us : List V} : ∀ {as : List Sl} {vs : List V}, as.length = vs.length → bs.all noT = true → wrOf (as ++ bs) (vs ++ us) = wrOf as vs
  | [], [], _, h => by simpa [wrOf] using wr_noT h
  | [], _ :: _, l, _ => by cases l
  | _ :: _, [], l, _ => by cases l
  | s :: as, v :: vs, l, h => by
    have ih := wr_appT (bs := bs) (us := us) (as := as) (vs := vs) (by simpa using l) h
    cases s with
    | pn mm d => cases mm with
      | true => cases v with
        | ref a => simpa [wrOf] using ih
        | _ => simpa [wrOf] using ih
      | false => simpa [wrOf] using ih
    | _ => simpa [wrOf] using ih
theorem outs_noT : ∀ {bs : List Sl} {us : List V}, bs.length = us.length → bs.all noT = true → (OutsOk W F' H' bs us outs ↔ outs = [])
  | [], [], _, _ => by cases outs <;> simp [OutsOk]
  | [], _ :: _, l, _ => by cases l
  | _ :: _, [], l, _ => by cases l
  | s :: bs, u :: us, l, h => by
    rw [List.all_cons, Bool.and_eq_true] at h
    have ih := outs_noT (us := us) (bs := bs) (by simpa using l) h.2
    cases s with
    | pn mm d => cases mm with
      | true => exact absurd h.1 Bool.false_ne_true
      | false => simpa [OutsOk] using ih
    | _ => simpa [OutsOk] using ih
theorem outs_appT {bs : List Sl} {us : List V} : ∀ {as : List Sl} {vs : List V} {outs : List D}, as.length = vs.length → bs.length = us.length → bs.all noT = true → (OutsOk W F' H' (as ++ bs) (vs ++ us) outs ↔ OutsOk W F' H' as vs outs)
  | [], [], outs, _, l2, h => by
    rw [List.nil_append, List.nil_append, outs_noT l2 h]
    cases outs <;> simp [OutsOk]
  | [], _ :: _, _, l, _, _ => by cases l
  | _ :: _, [], _, l, _, _ => by cases l
  | s :: as, v :: vs, outs, l, l2, h => by
    have l' : as.length = vs.length := by simpa using l
    cases s with
    | pn mm d => cases mm with
      | true => cases outs with
        | nil => simp [OutsOk]
        | cons d' outs =>
          have ih := outs_appT (as := as) (vs := vs) (outs := outs) l' l2 h
          simp only [List.cons_append, OutsOk, ih]
      | false =>
        have ih := outs_appT (as := as) (vs := vs) (outs := outs) l' l2 h
        simpa [OutsOk] using ih
    | _ =>
      have ih := outs_appT (as := as) (vs := vs) (outs := outs) l' l2 h
      simpa [OutsOk] using ih
theorem permM_sp {n : Nat} {is : List Nat} {Q : VK} {E1 : XK} (nd : is.Nodup) (h : spM W (permM n is m) vs H Q E1) : spM W m (permA n is vs) H Q E1 := by
  obtain ⟨F, args, hs, ha, hm⟩ := h
  rw [permM_ap] at hm
  by_cases hc : (decide (n ≤ args.length) && ((args.drop n).all noT && inB is (args.drop n).length)) = true
  · rw [if_pos hc] at hm
    rw [Bool.and_eq_true, Bool.and_eq_true] at hc
    obtain ⟨h1, h2, h3⟩ := hc
    have h1 : n ≤ args.length := of_decide_eq_true h1
    have hr : ∀ i ∈ is, i < (args.drop n).length := fun i hi => of_decide_eq_true (List.all_eq_true.mp h3 i hi)
    have h1v : n ≤ vs.length := by rw [← ha.len]; exact h1
    have hrv : ∀ i ∈ is, i < (vs.drop n).length := fun i hi => by
      have := hr i hi
      rw [List.length_drop] at this ⊢
      rw [← ha.len]; exact this
    have la := perm_length h1 hr
    have lv := perm_length h1v hrv
    have e1 : args.take n ++ args.drop n = args := List.take_append_drop n args
    have e2 : vs.take n ++ vs.drop n = vs := List.take_append_drop n vs
    have l1 : (args.take n).length = (vs.take n).length := by rw [List.length_take, List.length_take, ha.len]
    have l2 : (args.drop n).length = (vs.drop n).length := by rw [List.length_drop, List.length_drop, ha.len]
    have pT : (pickL is (args.drop n)).all noT = true := List.all_eq_true.mpr fun x hx => List.all_eq_true.mp h2 x (mem_pick hx)
    have pl : (pickL is (args.drop n)).length = (pickL is (vs.drop n)).length := by rw [pick_length hr, pick_length hrv]
    have hw : wrOf (permA n is args) (permA n is vs) = wrOf args vs := by
      unfold permA
      rw [wr_appT l1 pT]
      conv => rhs; rw [← e1, ← e2, wr_appT l1 h2]
    have ho : ∀ {F' H' : Hp} {outs : List D}, OutsOk W F' H' (permA n is args) (permA n is vs) outs → OutsOk W F' H' args vs outs := by
      intro F' H' outs q
      unfold permA at q
      rw [outs_appT l1 pl pT] at q
      rw [← e1, ← e2, outs_appT l1 l2 h2]
      exact q
    refine ⟨F, permA n is args, hs, ⟨by rw [la, lv], fun k s v p1 p2 => ?_, fun k l s t a hkl p1 p2 ex ow z1 z2 => ?_⟩, ?_⟩
    · rw [get_perm h1 hr] at p1
      rw [get_perm h1v hrv] at p2
      cases e : srcP n is k with
      | none => rw [e] at p1; cases p1
      | some j => rw [e] at p1 p2; exact ha.ok j s v p1 p2
    · rw [get_perm h1 hr] at p1 p2
      rw [get_perm h1v hrv] at z1 z2
      cases e : srcP n is k with
      | none => rw [e] at p1; cases p1
      | some j =>
        cases e' : srcP n is l with
        | none => rw [e'] at p2; cases p2
        | some j' =>
          rw [e] at p1 z1
          rw [e'] at p2 z2
          exact ha.dist j j' s t a (fun z => hkl (src_inj nd e (by rw [e', z]))) p1 p2 ex ow z1 z2
    · cases em : m (permA n is args) with
      | bad => simp only [em] at hm
      | exc c fs outs =>
        simp only [em] at hm
        intro dd F' H' post oo xr
        rw [hw] at post
        exact hm dd F' H' post (ho oo) xr
      | ok r outs =>
        simp only [em] at hm
        intro v F' H' post oo vr
        rw [hw] at post
        exact hm v F' H' post (ho oo) vr
  · rw [if_neg hc] at hm; exact hm.elim
/-! the arguments, written ones then named ones -/
theorem eA_app : ∀ {fs gs : List (M ER)} {en : En}, eA (fs ++ gs) en = (eA fs en).bind fun rs en1 => (eA gs en1).bind fun ss en2 => .ok (rs ++ ss) en2
  | [], gs, en => by
    show eA gs en = (eA gs en).bind fun ss en2 => .ok ([] ++ ss) en2
    cases eA gs en <;> rfl
  | f :: fs, gs, en => by
    show (f en).bind (fun r en1 => (eA (fs ++ gs) en1).bind fun rs en2 => .ok (r :: rs) en2) = ((f en).bind fun r en1 => (eA fs en1).bind fun rs en2 => .ok (r :: rs) en2).bind fun rs en1 => (eA gs en1).bind fun ss en2 => .ok (rs ++ ss) en2
    cases f en with
    | bad => rfl
    | exc c fs s => rfl
    | ok r en1 =>
      show ((eA (fs ++ gs) en1).bind fun rs en2 => .ok (r :: rs) en2) = ((eA fs en1).bind fun rs en2 => .ok (r :: rs) en2).bind _
      rw [eA_app]
      cases eA fs en1 with
      | bad => rfl
      | exc c fs s => rfl
      | ok rs en2 =>
        show ((eA gs en2).bind fun ss en3 => .ok (rs ++ ss) en3).bind _ = (eA gs en2).bind _
        cases eA gs en2 <;> rfl
theorem VWs.app {σ : St} {F : Hp} : ∀ {rs : List ER} {vs : List V} {ss : List ER} {zs : List V}, VWs W σ F rs vs → VWs W σ F ss zs → VWs W σ F (rs ++ ss) (vs ++ zs)
  | [], [], _, _, _, h => h
  | _ :: _, _ :: _, _, _, h, h' => ⟨h.1, VWs.app h.2 h'⟩
  | [], _ :: _, _, _, h, _ => h.elim
  | _ :: _, [], _, _, h, _ => h.elim
end
end Fw
set_option Elab.async false
set_option linter.all false
set_option maxRecDepth 100000
namespace Fw
open PySem PySem.Spec PyProof.Rows L2
section
variable {X : Cx} {CX : CXT} {k n : Nat} {f C : Addr} {fd : FuncData} {ps ks : List Str} {sp : Sp} {E : St → XK} {x m : Str} {p pos apos : Pos} {e o : Expr} {es : List Expr} {kws : List Keyword} {te : TE} {t tk : TA} {g : List Value → List Value → List Value} {gV : List V → List V → List V}
theorem run_fnNS {pins : List (Addr × Obj)} {σ : St} {H : Hp} {s : Shared} {Q : VK} {us ws : List Value} {vs zs : List V} (F : FnOk X.prog X.w X.K X.mg X.base CX k f fd ps sp) (hr : Room k X.A) (hb : KBn X.K fd ps n ks g gV) (hx : PassesAt CX X σ (E σ))
    (I : Inv X pins σ H s) (r : Vals vs us) (rz : Vals zs ws) (l1 : vs.length = n) (l2 : zs.length = ks.length) (h : sp (gV vs zs) H Q (E σ)) : wpAny (model X.prog X.w) X.A (call (.ref f) us (ks.zip ws)) (EP X pins σ Q) X.xe s := by
  have r2 := hb.rel r rz
  refine wpAny_call (codeAny_mono (F.run X.A X.stack s H ⟨us, ks.zip ws⟩ (g us ws) (gV vs zs) Q (E σ) hr I.env0 (hb.to s us ws I.kIn (r.length.symm.trans l1) (rz.length.symm.trans l2)) r2 h) fun r s' hq => ?_)
  cases r with
  | error e => exact hx pins H s e s' I hq
  | ok fl =>
    cases fl with
    | ret u => exact I.after hq
    | next => exact False.elim hq
    | brk => exact False.elim hq
    | cont => exact False.elim hq
def tCallNS (n m : Nat) (sp : Sp) (gV : List V → List V → List V) (E : St → XK) (t tk : TA) : TE := fun σ H Q => t σ H fun vs H1 => tk σ H1 fun zs H2 => vs.length = n ∧ zs.length = m ∧ sp (gV vs zs) H2 Q (E σ)
theorem pe_callNS (F : FnOk X.prog X.w X.K X.mg X.base CX k f fd ps sp) (hr : Room k X.A) (hg : Gl X x) (hm : X.mg x = some (.ref f)) (hk : PySem.W.keepIn X.K (.ref f) = true) (hb : KBn X.K fd ps n ks g gV) (hx : ∀ σ, PassesAt CX X σ (E σ))
    (ha : PA X (e :: es) t) (hkw : PK X kws tk) (hall : (backToKw pos (keywordEach kws X.env)).all (·.1.isSome) = true) (hks : (backToKw pos (keywordEach kws X.env)).filterMap (·.1) = ks)
    (hdb : (x == ("__debug__" : Str)) = false) (he : starEach (e :: es) X.env = (false, eval e X.env) :: starEach es X.env)
    (hpl : ((backTo pos (starEach (e :: es) X.env)).any (·.1) || (backToKw pos (keywordEach kws X.env)).any (·.1.isNone)) = false) :
    PE X (.Call (.Name x p) (e :: es) kws pos) (tCallNS n ks.length sp gV E t tk) := by
  refine ⟨fun pins s σ H Q I h => ?_⟩
  refine wpAny_Call_Name_kw (ld_glob I hg hm ?_ hdb)
  refine PySem.W.callWith_KW (h₀ := X.base) I.ok.mod.kin hk hall (thn (ha.run pos pins s σ H _ I h) fun us s1 ⟨vs, H1, I1, r, q⟩ => ?_) hpl he
  refine thn (hkw.run pos pins s1 σ H1 _ I1 q) fun ws s2 ⟨zs, H2, I2, rz, l1, l2, q2⟩ => ⟨I2.kIn, ?_⟩
  rw [hks]
  exact run_fnNS F hr hb (hx σ) I2 r rz l1 l2 q2
theorem pe_callNS0 (F : FnOk X.prog X.w X.K X.mg X.base CX k f fd ps sp) (hr : Room k X.A) (hg : Gl X x) (hm : X.mg x = some (.ref f)) (hk : PySem.W.keepIn X.K (.ref f) = true) (hb : KBn X.K fd ps 0 ks g gV) (hx : ∀ σ, PassesAt CX X σ (E σ))
    (hkw : PK X kws tk) (hall : (backToKw pos (keywordEach kws X.env)).all (·.1.isSome) = true) (hks : (backToKw pos (keywordEach kws X.env)).filterMap (·.1) = ks)
    (hdb : (x == ("__debug__" : Str)) = false)
    (hpl : ((backTo pos (starEach [] X.env)).any (·.1) || (backToKw pos (keywordEach kws X.env)).any (·.1.isNone)) = false) :
    PE X (.Call (.Name x p) [] kws pos) (tCallNS 0 ks.length sp gV E tNil tk) := by
  refine ⟨fun pins s σ H Q I h => ?_⟩
  refine wpAny_Call_Name_kw (ld_glob I hg hm ?_ hdb)
  refine PySem.W.callWith_KW0 (h₀ := X.base) I.ok.mod.kin hk hall ?_ hpl
  refine thn (hkw.run pos pins s σ H _ I h) fun ws s2 ⟨zs, H2, I2, rz, l1, l2, q2⟩ => ⟨I2.kIn, ?_⟩
  rw [hks]
  exact run_fnNS (us := []) (vs := []) F hr hb (hx σ) I2 .nil rz l1 l2 q2
/-! methods -/
def tMethNS (X : Cx) (CX : CXT) (m : Str) (n : Nat) (ks : List Str) (E : St → XK) (te : TE) (t tk : TA) : TE := fun σ H Q => te σ H fun x H1 => ∃ (a C dx : Addr) (fs : List (Str × V)) (f : Addr) (fd : FuncData) (ps : List Str) (k : Nat) (sp : Sp) (g : List Value → List Value → List Value) (gV : List V → List V → List V),
  x = .ref a ∧ H1 a = some (.ins C dx fs) ∧ fs.lookup m = none ∧ Cls X.K C ∧ Meth X.K C m f ∧ FnOk X.prog X.w X.K X.mg X.base CX k f fd ps sp ∧ Room k X.A ∧ KBn X.K fd ps (n + 1) ks g gV ∧
  t σ H1 fun vs H2 => tk σ H2 fun zs H3 => vs.length = n ∧ zs.length = ks.length ∧ sp (gV (x :: vs) zs) H3 Q (E σ)
theorem pe_methNS {pl : Sem Bool} (ho : PE X o te) (hx : ∀ σ, PassesAt CX X σ (E σ)) (ha : PA X (e :: es) t) (hkw : PK X kws tk) (hall : (backToKw pos (keywordEach kws X.env)).all (·.1.isSome) = true) (hks : (backToKw pos (keywordEach kws X.env)).filterMap (·.1) = ks)
    (he : starEach (e :: es) X.env = (false, eval e X.env) :: starEach es X.env) (hpl : ((backTo pos (starEach (e :: es) X.env)).any (·.1) || (backToKw pos (keywordEach kws X.env)).any (·.1.isNone)) = false)
    (ht : eval (.Call (.Attribute o m apos) (e :: es) kws pos) X.env = (do
      let ov ← eval o X.env
      standAt apos.atName
      let (f, first) ← holding [ov] (getMethod ov m pl)
      callWith pos f first (backTo pos (starEach (e :: es) X.env)) (backToKw pos (keywordEach kws X.env)))) :
    PE X (.Call (.Attribute o m apos) (e :: es) kws pos) (tMethNS X CX m n ks E te t tk) := by
  refine ⟨fun pins s σ H Q I h => ?_⟩
  refine PySem.W.methodCall_KW (pl := pl) (thn (ho.run pins s σ H _ I h) fun u s1 ⟨x, H1, I1, rx, a, C, dx, fs, f, fd, ps, k, sp, g, gV, ex, ea, l, c, hm, F, hr, hb, q⟩ => ?_) ht
  subst ex
  obtain rfl : u = Value.ref a := rx
  refine getmeth_ok I1 ea c hm l ?_
  refine PySem.W.callWith_KW (first := [.ref a]) (h₀ := X.base) I.ok.mod.kin hm.kp hall (thn (ha.run pos pins s1 σ H1 _ I1 q) fun us s2 ⟨vs, H2, I2, r, q2⟩ => ?_) hpl he
  refine thn (hkw.run pos pins s2 σ H2 _ I2 q2) fun ws s3 ⟨zs, H3, I3, rz, l1, l2, q3⟩ => ⟨I3.kIn, ?_⟩
  rw [hks]
  exact run_fnNS (us := .ref a :: us) (vs := .ref a :: vs) F hr hb (hx σ) I3 (.cons rfl r) rz (by rw [List.length_cons, l1]) l2 q3
theorem pe_methNS0 {pl : Sem Bool} (ho : PE X o te) (hx : ∀ σ, PassesAt CX X σ (E σ)) (hkw : PK X kws tk) (hall : (backToKw pos (keywordEach kws X.env)).all (·.1.isSome) = true) (hks : (backToKw pos (keywordEach kws X.env)).filterMap (·.1) = ks)
    (hpl : ((backTo pos (starEach [] X.env)).any (·.1) || (backToKw pos (keywordEach kws X.env)).any (·.1.isNone)) = false)
    (ht : eval (.Call (.Attribute o m apos) [] kws pos) X.env = (do
      let ov ← eval o X.env
      standAt apos.atName
      let (f, first) ← holding [ov] (getMethod ov m pl)
      callWith pos f first (backTo pos (starEach [] X.env)) (backToKw pos (keywordEach kws X.env)))) :
    PE X (.Call (.Attribute o m apos) [] kws pos) (tMethNS X CX m 0 ks E te tNil tk) := by
  refine ⟨fun pins s σ H Q I h => ?_⟩
  refine PySem.W.methodCall_KW (pl := pl) (thn (ho.run pins s σ H _ I h) fun u s1 ⟨x, H1, I1, rx, a, C, dx, fs, f, fd, ps, k, sp, g, gV, ex, ea, l, c, hm, F, hr, hb, q⟩ => ?_) ht
  subst ex
  obtain rfl : u = Value.ref a := rx
  refine getmeth_ok I1 ea c hm l ?_
  refine PySem.W.callWith_KW0 (first := [.ref a]) (h₀ := X.base) I.ok.mod.kin hm.kp hall ?_ hpl
  refine thn (hkw.run pos pins s1 σ H1 _ I1 q) fun ws s3 ⟨zs, H3, I3, rz, l1, l2, q3⟩ => ⟨I3.kIn, ?_⟩
  rw [hks]
  exact run_fnNS (us := [.ref a]) (vs := [.ref a]) F hr hb (hx σ) I3 (.cons rfl .nil) rz rfl l2 q3
/-! makings -/
def tMakeNS (C : Addr) (n m : Nat) (sp : Sp) (gV : List V → List V → List V) (E : St → XK) (t tk : TA) : TE := fun σ H Q => t σ H fun vs H1 => tk σ H1 fun zs H2 => vs.length = n ∧ zs.length = m ∧
  ∀ x dx, H2 x = none → H2 dx = none → dx ≠ x → sp (gV (.ref x :: vs) zs) (upd (upd H2 dx (.own x)) x (.ins C dx [])) (fun v H3 => v = .non ∧ Q (.ref x) H3) (E σ)
/-- what is raised within, where an instance is being made -/
theorem run_makeNS {pins : List (Addr × Obj)} {σ : St} {H : Hp} {s : Shared} {Q : VK} {us ws : List Value} {vs zs : List V} (M : Mk X.K C f) (F : FnOk X.prog X.w X.K X.mg X.base CX k f fd ps sp) (hr : Room (k + 1) X.A) (hb : KBn X.K fd ps (n + 1) ks g gV)
    (hx : PassesAt CX X σ (E σ)) (I : Inv X pins σ H s) (r : Vals vs us) (rz : Vals zs ws) (l1 : vs.length = n) (l2 : zs.length = ks.length)
    (h : ∀ x dx, H x = none → H dx = none → dx ≠ x → sp (gV (.ref x :: vs) zs) (upd (upd H dx (.own x)) x (.ins C dx [])) (fun v H2 => v = .non ∧ Q (.ref x) H2) (E σ)) :
    wpAny (model X.prog X.w) X.A (call (.ref C) us (ks.zip ws)) (EP X pins σ Q) X.xe s := by
  have hq := h (s.heap.objs.size + 1) s.heap.objs.size (I.hok.fresh (Nat.le_succ _)) (I.hok.fresh (Nat.le_refl _)) (Nat.ne_of_lt (Nat.lt_succ_self _))
  have I2 := Inv.made (C := C) I
  have r1 : Vals (V.ref (s.heap.objs.size + 1) :: vs) (Value.ref (s.heap.objs.size + 1) :: us) := .cons rfl r
  have r2 := hb.rel r1 rz
  have e1 : (Value.ref (s.heap.objs.size + 1) :: us).length = n + 1 := r1.length.symm.trans (congrArg Nat.succ l1)
  have e2 : ws.length = ks.length := rz.length.symm.trans l2
  refine wpAny_call (make_map (f := f) I.kIn M.makes M.init (beq_iff_eq.mp M.fn) (codeAny_mono (F.run _ X.stack _ _ ⟨Value.ref (s.heap.objs.size + 1) :: us, ks.zip ws⟩ (g (Value.ref (s.heap.objs.size + 1) :: us) ws) _ _ (E σ) (hr.make C us (ks.zip ws))
    (I2.env0.make C us (ks.zip ws)) (hb.to _ (Value.ref (s.heap.objs.size + 1) :: us) ws I2.kIn e1 e2) r2 hq) fun r s' hq' => ?_))
  cases r with
  | error e => exact hx pins _ _ e s' I2 hq'
  | ok fl =>
    cases fl with
    | ret u =>
      obtain ⟨v, H', I3, rv, ev, q3⟩ := I2.after hq'
      subst ev
      exact ⟨rv, ⟨V.ref (s.heap.objs.size + 1), H', I3, rfl, q3⟩⟩
    | next => exact False.elim hq'
    | brk => exact False.elim hq'
    | cont => exact False.elim hq'
theorem pe_makeNS (M : Mk X.K C f) (F : FnOk X.prog X.w X.K X.mg X.base CX k f fd ps sp) (hr : Room (k + 1) X.A) (hg : Gl X x) (hm : X.mg x = some (.ref C)) (hb : KBn X.K fd ps (n + 1) ks g gV) (hx : ∀ σ, PassesAt CX X σ (E σ))
    (ha : PA X (e :: es) t) (hkw : PK X kws tk) (hall : (backToKw pos (keywordEach kws X.env)).all (·.1.isSome) = true) (hks : (backToKw pos (keywordEach kws X.env)).filterMap (·.1) = ks)
    (hdb : (x == ("__debug__" : Str)) = false) (he : starEach (e :: es) X.env = (false, eval e X.env) :: starEach es X.env)
    (hpl : ((backTo pos (starEach (e :: es) X.env)).any (·.1) || (backToKw pos (keywordEach kws X.env)).any (·.1.isNone)) = false) :
    PE X (.Call (.Name x p) (e :: es) kws pos) (tMakeNS C n ks.length sp gV E t tk) := by
  refine ⟨fun pins s σ H Q I h => ?_⟩
  refine wpAny_Call_Name_kw (ld_glob I hg hm ?_ hdb)
  refine PySem.W.callWith_KW (h₀ := X.base) I.ok.mod.kin M.kp hall (thn (ha.run pos pins s σ H _ I h) fun us s1 ⟨vs, H1, I1, r, q⟩ => ?_) hpl he
  refine thn (hkw.run pos pins s1 σ H1 _ I1 q) fun ws s2 ⟨zs, H2, I2, rz, l1, l2, q2⟩ => ⟨I2.kIn, ?_⟩
  rw [hks]
  exact run_makeNS M F hr hb (hx σ) I2 r rz l1 l2 q2
theorem pe_makeNS0 (M : Mk X.K C f) (F : FnOk X.prog X.w X.K X.mg X.base CX k f fd ps sp) (hr : Room (k + 1) X.A) (hg : Gl X x) (hm : X.mg x = some (.ref C)) (hb : KBn X.K fd ps 1 ks g gV) (hx : ∀ σ, PassesAt CX X σ (E σ))
    (hkw : PK X kws tk) (hall : (backToKw pos (keywordEach kws X.env)).all (·.1.isSome) = true) (hks : (backToKw pos (keywordEach kws X.env)).filterMap (·.1) = ks)
    (hdb : (x == ("__debug__" : Str)) = false)
    (hpl : ((backTo pos (starEach [] X.env)).any (·.1) || (backToKw pos (keywordEach kws X.env)).any (·.1.isNone)) = false) :
    PE X (.Call (.Name x p) [] kws pos) (tMakeNS C 0 ks.length sp gV E tNil tk) := by
  refine ⟨fun pins s σ H Q I h => ?_⟩
  refine wpAny_Call_Name_kw (ld_glob I hg hm ?_ hdb)
  refine PySem.W.callWith_KW0 (h₀ := X.base) I.ok.mod.kin M.kp hall ?_ hpl
  refine thn (hkw.run pos pins s σ H _ I h) fun ws s2 ⟨zs, H2, I2, rz, l1, l2, q2⟩ => ⟨I2.kIn, ?_⟩
  rw [hks]
  exact run_makeNS (us := []) (vs := []) M F hr hb (hx σ) I2 .nil rz rfl l2 q2
end
/-! ### the layer's rules -/
structure CallIn (P : Program) (w : World) (K : PySem.W.Frag) (mg : Str → Option Value) (base : Heap) (W : Wc) (x : Str) (k n : Nat) (ks : List Str) (is : List Nat) (dds : List D) (m : FM) : Prop where
  ex : ∃ (f : Addr) (fd : FuncData) (ps : List Str) (g : List Value → List Value → List Value) (dvs : List V), mg x = some (.ref f) ∧ PySem.W.keepIn K (.ref f) = true ∧ FnOk P w K mg base (L2.CX P w) k f fd ps (spM W m) ∧ (∀ F, DL W F dvs dds) ∧
    KBn K fd ps n ks g (fun vs zs => permA n is (vs ++ (zs ++ dvs)))
  nd : is.Nodup
structure MethIn (P : Program) (w : World) (K : PySem.W.Frag) (mg : Str → Option Value) (base : Heap) (W : Wc) (c : Nat) (x : Str) (k n : Nat) (ks : List Str) (is : List Nat) (dds : List D) (m : FM) : Prop where
  ex : ∃ (f : Addr) (fd : FuncData) (ps : List Str) (g : List Value → List Value → List Value) (dvs : List V), Cls K (W.cls c) ∧ Meth K (W.cls c) x f ∧ FnOk P w K mg base (L2.CX P w) k f fd ps (spM W m) ∧ (∀ F, DL W F dvs dds) ∧
    KBn K fd ps (n + 1) ks g (fun vs zs => permA (n + 1) is (vs ++ (zs ++ dvs)))
  nd : is.Nodup
structure MakeIn (P : Program) (w : World) (K : PySem.W.Frag) (mg : Str → Option Value) (base : Heap) (W : Wc) (c : Nat) (x : Str) (k n : Nat) (ks : List Str) (is : List Nat) (dds : List D) (m : FM) : Prop where
  ex : ∃ (C f : Addr) (fd : FuncData) (ps : List Str) (g : List Value → List Value → List Value) (dvs : List V), W.cls c = C ∧ Mk K C f ∧ FnOk P w K mg base (L2.CX P w) k f fd ps (spM W m) ∧ mg x = some (.ref C) ∧ (∀ F, DL W F dvs dds) ∧
    KBn K fd ps (n + 1) ks g (fun vs zs => permA (n + 1) is (vs ++ (zs ++ dvs)))
  nd : is.Nodup
def eFK (io : List Bool) (n : Nat) (is : List Nat) (m : FM) (dds : List D) (fs : List (M ER)) : M ER := eF io (permM n is m) dds fs
section
variable {W : Wc} {E : St → XK} {X : Cx} {a b c o e : Expr} {es : List Expr} {fa fb fc fo : M ER} {fs fs2 : List (M ER)} {pos apos p : Pos} {G : Gc} {en en' : En} {σ : St} {F H F' H' : Hp} {m : FM} {kws : List Keyword} {x nm : Str} {k n : Nat} {ks : List Str} {is : List Nat} {dds : List D}
theorem av_nil0 (R : Rel W G en σ F H) {Q : List V → Hp → Prop} (h : Q [] H) : tNil σ H Q := h
theorem call_runK {rs ss : List ER} {vs zs dvs : List V} {io : List Bool} {Q : VK} (nd : is.Nodup) (R : Rel W G en σ F H) (hw : VWs W σ F rs vs) (hz : VWs W σ F ss zs) (hd : ∀ F, DL W F dvs dds) (x0 : Hp) (xx : Ex x0 F)
    (h : Out W E G σ (AE W G σ x0 Q) (callM io (permM n is m) dds (rs ++ ss) en)) : spM W m (permA n is (vs ++ (zs ++ dvs))) H Q (E σ) := by
  have := call_run R (hw.app hz) hd x0 xx h
  rw [List.append_assoc] at this
  exact permM_sp nd this
theorem two_then {α : Type} {A : α → En → Prop} {kk : List ER → En → R En α} {Q : List V → List V → Hp → Prop} (R : Rel W G en σ F H) (h : Out W E G σ A ((eA (fs ++ fs2) en).bind kk))
    (hq : ∀ rs ss en2 vs zs F2 H2, Out W E G σ A (kk (rs ++ ss) en2) → Rel W G en2 σ F2 H2 → Ex F F2 → VWs W σ F2 rs vs → VWs W σ F2 ss zs → rs.length = fs.length → ss.length = fs2.length → Q vs zs H2) :
    tA W E (eA fs) σ H fun vs H1 => tA W E (eA fs2) σ H1 fun zs H2 => Q vs zs H2 := by
  rw [eA_app] at h
  refine ⟨G, F, en, R, ?_⟩
  cases e1 : eA fs en with
  | bad => rw [e1] at h; exact h
  | exc c fs s => rw [e1] at h; exact h
  | ok rs en1 =>
    rw [e1] at h
    intro vs F1 H1 R1 x1 hw
    refine ⟨G, F1, en1, R1, ?_⟩
    simp only [Fw.R.bind_ok] at h
    cases e2 : eA fs2 en1 with
    | bad => rw [e2] at h; exact h
    | exc c fs s => rw [e2] at h; exact h
    | ok ss en2 =>
      rw [e2] at h
      intro zs F2 H2 R2 x2 hz
      exact hq rs ss en2 vs zs F2 H2 h R2 (x1.trans x2) (hw.mono x2) hz (eA_length e1) (eA_length e2)
theorem ev_callK (io : List Bool) (D : CallIn X.prog X.w X.K X.mg X.base W x k n ks is dds m) (hr : Room k X.A) (hx : Pass X E) (ha : AV W E X (e :: es) (eA fs)) (hk : KV W E X kws (eA fs2)) (hn : fs.length = n := by rfl) (hm : fs2.length = ks.length := by rfl) (hg : Gl X x := by rfl)
    (hall : (backToKw pos (keywordEach kws X.env)).all (·.1.isSome) = true := by rfl) (hks : (backToKw pos (keywordEach kws X.env)).filterMap (·.1) = ks := by rfl)
    (hdb : (x == ("__debug__" : Str)) = false := by decide) (he : starEach (e :: es) X.env = (false, eval e X.env) :: starEach es X.env := by rfl)
    (hpl : ((backTo pos (starEach (e :: es) X.env)).any (·.1) || (backToKw pos (keywordEach kws X.env)).any (·.1.isNone)) = false := by rfl) :
    EV W E X (.Call (.Name x p) (e :: es) kws pos) (eFK io n is m dds (fs ++ fs2)) := by
  obtain ⟨f, fd, ps, g, dvs, hmg, kp, FO, hd, hb⟩ := D.ex
  refine PE.imp (pe_callNS FO hr hg hmg kp hb hx ha hk hall hks hdb he hpl) fun σ H Q hq => ?_
  obtain ⟨G, F, en, R, h⟩ := tE.out.mp hq
  exact two_then (Q := fun vs zs H2 => vs.length = n ∧ zs.length = ks.length ∧ spM W m (permA n is (vs ++ (zs ++ dvs))) H2 Q (E σ)) R h fun rs ss en2 vs zs F2 H2 h2 R2 x2 hw hz l1 l2 =>
    ⟨by rw [← hw.length, l1, hn], by rw [← hz.length, l2, hm], call_runK D.nd R2 hw hz hd F x2 h2⟩
theorem ev_callK0 (io : List Bool) (D : CallIn X.prog X.w X.K X.mg X.base W x k 0 ks is dds m) (hr : Room k X.A) (hx : Pass X E) (hk : KV W E X kws (eA fs2)) (hm : fs2.length = ks.length := by rfl) (hg : Gl X x := by rfl)
    (hall : (backToKw pos (keywordEach kws X.env)).all (·.1.isSome) = true := by rfl) (hks : (backToKw pos (keywordEach kws X.env)).filterMap (·.1) = ks := by rfl)
    (hdb : (x == ("__debug__" : Str)) = false := by decide)
    (hpl : ((backTo pos (starEach [] X.env)).any (·.1) || (backToKw pos (keywordEach kws X.env)).any (·.1.isNone)) = false := by rfl) :
    EV W E X (.Call (.Name x p) [] kws pos) (eFK io 0 is m dds fs2) := by
  obtain ⟨f, fd, ps, g, dvs, hmg, kp, FO, hd, hb⟩ := D.ex
  refine PE.imp (pe_callNS0 FO hr hg hmg kp hb hx hk hall hks hdb hpl) fun σ H Q hq => ?_
  obtain ⟨G, F, en, R, h⟩ := tE.out.mp hq
  show tA W E (eA fs2) σ H fun zs H2 => ([] : List V).length = 0 ∧ zs.length = ks.length ∧ spM W m (permA 0 is ([] ++ (zs ++ dvs))) H2 Q (E σ)
  refine ⟨G, F, en, R, ?_⟩
  have h' : Out W E G σ (AE W G σ F Q) ((eA fs2 en).bind (callM io (permM 0 is m) dds)) := h
  cases e1 : eA fs2 en with
  | bad => rw [e1] at h'; exact h'
  | exc c fs s => rw [e1] at h'; exact h'
  | ok rs en1 =>
    rw [e1] at h'
    intro zs F1 H1 R1 x1 hw
    exact ⟨rfl, by rw [← hw.length, eA_length e1, hm], call_runK (rs := []) (vs := []) (ss := rs) D.nd R1 trivial hw hd F x1 h'⟩
/-! methods -/
def insOk (nm : Str) : D → Option Nat
  | .ins c fls => match fls.lookup nm with | none => some c | some _ => none
  | _ => none
def eMeth (nm : Str) (io : List Bool) (tab : List (Nat × FM × List D)) (fo : M ER) (fs : List (M ER)) : M ER := fun en => (fo en).bind fun r0 en1 => match (cur en1 r0).bind (insOk nm) with
  | some c => (match tab.lookup c with
    | some (m, dds) => (eA fs en1).bind fun rs en2 => callM io m dds (r0 :: rs) en2
    | none => .bad)
  | none => .bad
/-- what is known of each class in a table of a method -/
def TabOk (X : Cx) (W : Wc) (nm : Str) (n : Nat) (ks : List Str) (tab : List (Nat × FM × List D)) : Prop := ∀ q ∈ tab, ∃ (k : Nat) (is : List Nat) (m : FM), q.2.1 = permM (n + 1) is m ∧ Room k X.A ∧ MethIn X.prog X.w X.K X.mg X.base W q.1 nm k n ks is q.2.2 m
theorem TabOk.nil : TabOk X W nm n ks [] := fun q h => by cases h
theorem TabOk.cons {c : Nat} {tab : List (Nat × FM × List D)} (D : MethIn X.prog X.w X.K X.mg X.base W c nm k n ks is dds m) (hr : Room k X.A) (h : TabOk X W nm n ks tab) : TabOk X W nm n ks ((c, permM (n + 1) is m, dds) :: tab) := fun q hq => by
  cases hq with
  | head => exact ⟨k, is, m, rfl, hr, D⟩
  | tail _ hq => exact h q hq
theorem look_mem {α : Type} {c : Nat} {v : α} : ∀ {tab : List (Nat × α)}, tab.lookup c = some v → (c, v) ∈ tab
  | [], h => by cases h
  | (d, u) :: tab, h => by
    rw [List.lookup_cons] at h
    cases q : c == d with
    | true => rw [q] at h; cases h; rw [beq_iff_eq.mp q]; exact List.mem_cons_self
    | false => rw [q] at h; exact List.mem_cons_of_mem _ (look_mem h)
theorem dp_none {f : Str} : ∀ {fs' : List (Str × V)} {fs : List (Str × D)}, DP W F fs' fs → fs.lookup f = none → fs'.lookup f = none
  | [], [], _, _ => rfl
  | [], _ :: _, h, _ => by have := h.1; simp at this
  | _ :: _, [], h, _ => by have := h.1; simp at this
  | (g, x) :: r, (g', x') :: r', h, e => by
    obtain ⟨rfl, h2, h3⟩ := dp_cons.mp h
    rw [List.lookup_cons] at e ⊢
    cases q : f == g with
    | true => rw [q] at e; cases e
    | false => rw [q] at e; exact dp_none h3 e
theorem meth_at {tab : List (Nat × FM × List D)} {A : ER → En → Prop} {r0 : ER} {v : V} {io : List Bool} (hT : TabOk X W nm n ks tab) (R : Rel W G en σ F H) (va : VW W σ F r0 v)
    (h : Out W E G σ A (match (cur en r0).bind (insOk nm) with
      | some c => (match tab.lookup c with
        | some (m, dds) => (eA fs en).bind fun rs en2 => callM io m dds (r0 :: rs) en2
        | none => .bad)
      | none => .bad)) : ∃ (a C dx : Addr) (fls : List (Str × V)) (f : Addr) (fd : FuncData) (ps : List Str) (k : Nat) (g : List Value → List Value → List Value) (dvs : List V) (is : List Nat) (m : FM) (dds : List D),
      v = .ref a ∧ H a = some (.ins C dx fls) ∧ fls.lookup nm = none ∧ Cls X.K C ∧ Meth X.K C nm f ∧ FnOk X.prog X.w X.K X.mg X.base (L2.CX X.prog X.w) k f fd ps (spM W m) ∧ Room k X.A ∧ KBn X.K fd ps (n + 1) ks g (fun vs zs => permA (n + 1) is (vs ++ (zs ++ dvs))) ∧
      is.Nodup ∧ (∀ F, DL W F dvs dds) ∧ Out W E G σ A ((eA fs en).bind fun rs en2 => callM io (permM (n + 1) is m) dds (r0 :: rs) en2) := by
  cases e : cur en r0 with
  | none => simp only [e, Option.bind_none] at h; exact h.elim
  | some d =>
    have vb := va.vb R e
    cases e2 : insOk nm d with
    | none => simp only [e, Option.bind_some, e2] at h; exact h.elim
    | some c =>
      simp only [e, Option.bind_some, e2] at h
      cases e3 : tab.lookup c with
      | none => simp only [e3] at h; exact h.elim
      | some q =>
        obtain ⟨mm, dds⟩ := q
        simp only [e3] at h
        obtain ⟨k, is, m, hmm, hr, D⟩ := hT _ (look_mem e3)
        have hmm' : mm = permM (n + 1) is m := hmm
        subst hmm'
        obtain ⟨f, fd, ps, g, dvs, hc, hM, FO, hd, hb⟩ := D.ex
        cases d with
        | ins c' fls =>
          unfold insOk at e2
          cases q : fls.lookup nm with
          | some _ => simp only [q] at e2; cases e2
          | none =>
            simp only [q] at e2
            cases e2
            obtain ⟨a, dx, fls', rfl, hH, dp⟩ := vb.ins R.sub
            exact ⟨a, _, dx, fls', f, fd, ps, k, g, dvs, is, m, dds, rfl, hH, dp_none dp q, hc, hM, FO, hr, hb, D.nd, hd, h⟩
        | _ => cases e2
theorem ev_meth {pl : Sem Bool} {tab : List (Nat × FM × List D)} (io : List Bool) (hT : TabOk X W nm n ks tab) (hx : Pass X E) (ho : EV W E X o fo) (ha : AV W E X (e :: es) (eA fs)) (hk : KV W E X kws (eA fs2)) (hn : fs.length = n := by rfl) (hm : fs2.length = ks.length := by rfl)
    (hall : (backToKw pos (keywordEach kws X.env)).all (·.1.isSome) = true := by rfl) (hks : (backToKw pos (keywordEach kws X.env)).filterMap (·.1) = ks := by rfl)
    (he : starEach (e :: es) X.env = (false, eval e X.env) :: starEach es X.env := by rfl) (hpl : ((backTo pos (starEach (e :: es) X.env)).any (·.1) || (backToKw pos (keywordEach kws X.env)).any (·.1.isNone)) = false := by rfl)
    (ht : eval (.Call (.Attribute o nm apos) (e :: es) kws pos) X.env = (do
      let ov ← eval o X.env
      standAt apos.atName
      let (f, first) ← holding [ov] (getMethod ov nm pl)
      callWith pos f first (backTo pos (starEach (e :: es) X.env)) (backToKw pos (keywordEach kws X.env))) := by rfl) :
    EV W E X (.Call (.Attribute o nm apos) (e :: es) kws pos) (eMeth nm io tab fo (fs ++ fs2)) := by
  refine PE.imp (pe_methNS (n := n) ho hx ha hk hall hks he hpl ht) fun σ H Q hq => ?_
  obtain ⟨G, F, en, R, h⟩ := tE.out.mp hq
  refine ev_then R h fun r0 en1 v F1 H1 h1 R1 x1 va => ?_
  obtain ⟨a, C, dx, fls, f, fd, ps, k, g, dvs, is, m, dds, ea, hH, hl, hc, hM, FO, hr, hb, nd, hd, h2⟩ := meth_at hT R1 va h1
  refine ⟨a, C, dx, fls, f, fd, ps, k, _, g, _, ea, hH, hl, hc, hM, FO, hr, hb, ?_⟩
  exact two_then (Q := fun vs zs H2 => vs.length = n ∧ zs.length = ks.length ∧ spM W m (permA (n + 1) is ((v :: vs) ++ (zs ++ dvs))) H2 Q (E σ)) R1 h2 fun rs ss en2 vs zs F2 H2 h3 R2 x2 hw hz l1 l2 =>
    ⟨by rw [← hw.length, l1, hn], by rw [← hz.length, l2, hm], call_runK (rs := r0 :: rs) (vs := v :: vs) nd R2 ⟨va.mono x2, hw⟩ hz hd F (x1.trans x2) h3⟩
theorem ev_meth0 {pl : Sem Bool} {tab : List (Nat × FM × List D)} (io : List Bool) (hT : TabOk X W nm 0 ks tab) (hx : Pass X E) (ho : EV W E X o fo) (hk : KV W E X kws (eA fs2)) (hm : fs2.length = ks.length := by rfl)
    (hall : (backToKw pos (keywordEach kws X.env)).all (·.1.isSome) = true := by rfl) (hks : (backToKw pos (keywordEach kws X.env)).filterMap (·.1) = ks := by rfl)
    (hpl : ((backTo pos (starEach [] X.env)).any (·.1) || (backToKw pos (keywordEach kws X.env)).any (·.1.isNone)) = false := by rfl)
    (ht : eval (.Call (.Attribute o nm apos) [] kws pos) X.env = (do
      let ov ← eval o X.env
      standAt apos.atName
      let (f, first) ← holding [ov] (getMethod ov nm pl)
      callWith pos f first (backTo pos (starEach [] X.env)) (backToKw pos (keywordEach kws X.env))) := by rfl) :
    EV W E X (.Call (.Attribute o nm apos) [] kws pos) (eMeth nm io tab fo fs2) := by
  refine PE.imp (pe_methNS0 ho hx hk hall hks hpl ht) fun σ H Q hq => ?_
  obtain ⟨G, F, en, R, h⟩ := tE.out.mp hq
  refine ev_then R h fun r0 en1 v F1 H1 h1 R1 x1 va => ?_
  obtain ⟨a, C, dx, fls, f, fd, ps, k, g, dvs, is, m, dds, ea, hH, hl, hc, hM, FO, hr, hb, nd, hd, h2⟩ := meth_at hT R1 va h1
  refine ⟨a, C, dx, fls, f, fd, ps, k, _, g, _, ea, hH, hl, hc, hM, FO, hr, hb, ?_⟩
  show tA W E (eA fs2) σ H1 fun zs H2 => ([] : List V).length = 0 ∧ zs.length = ks.length ∧ spM W m (permA 1 is ([v] ++ (zs ++ dvs))) H2 Q (E σ)
  refine ⟨G, F1, en1, R1, ?_⟩
  cases e1 : eA fs2 en1 with
  | bad => rw [e1] at h2; exact h2
  | exc c fs s => rw [e1] at h2; exact h2
  | ok rs en2 =>
    rw [e1] at h2
    intro zs F2 H2 R2 x2 hw
    exact ⟨rfl, by rw [← hw.length, eA_length e1, hm], call_runK (rs := [r0]) (vs := [v]) (ss := rs) nd R2 ⟨va.mono x2, trivial⟩ hw hd F (x1.trans x2) h2⟩
/-! makings -/
def popN (c n : Nat) : R En ER → R En ER
  | .ok (.sh .non) en' => (match en'[n]? with
    | some (.ow (.ins c' fs)) => if c' = c then .ok (.fr (.ins c fs)) en'.dropLast else .bad
    | _ => .bad)
  | .exc x fs en' => .exc x fs en'.dropLast
  | _ => .bad
def eMk (c n : Nat) (is : List Nat) (m : FM) (dds : List D) (fs : List (M ER)) : M ER := fun en => (eA fs en).bind fun rs en1 => popN c en1.length (callM [true] (permM (n + 1) is m) dds (.bo en1.length :: rs) (en1 ++ [.ow (.ins c [])]))
theorem app_at {α : Type} {l : List α} {x : α} : (l ++ [x])[l.length]? = some x := by simp
theorem Rel.push {b : Addr} {d : D} (R : Rel W G en σ F H) (t : Top W F H b d) (hF : F b = none) (h0 : G.H0 b = none) (ap : Apart en σ b) : Rel W G (en ++ [.ow d]) (σ ++ [some (.ref b)]) F H := by
  have hl := R.len
  have lt : ∀ {i : Nat} {s : Sl}, en[i]? = some s → i < σ.length := fun e => by rw [← hl]; exact lt_of_some e
  have old : ∀ {i : Nat} {s : Sl}, en[i]? = some s → (σ ++ [some (V.ref b)])[i]? = σ[i]? := fun e => List.getElem?_append_left (lt e)
  refine ⟨by simp [hl], R.sub, R.ex0, R.fen, R.keep, R.wrk, fun i s e => ?_, fun i j s t' a hij e1 e2 ex ow z1 z2 => ?_⟩
  · rcases getElem?_append_cases e with ⟨hi, e⟩ | ⟨hi, e⟩
    · have h := R.slot i s e
      cases s with
      | un => trivial
      | _ => unfold SlOk at h ⊢; rw [old e]; exact h
    · cases q : i - en.length with
      | zero =>
        rw [q] at e; cases e
        have hi' : i = σ.length := by omega
        subst hi'
        exact ⟨b, app_at, t, hF, h0⟩
      | succ z => rw [q] at e; cases e
  · rcases getElem?_append_cases e1 with ⟨hi, e1⟩ | ⟨hi, e1⟩
    · rw [old e1] at z1
      rcases getElem?_append_cases e2 with ⟨hj, e2⟩ | ⟨hj, e2⟩
      · rw [old e2] at z2
        exact R.dist i j s t' a hij e1 e2 ex ow z1 z2
      · cases q : j - en.length with
        | zero =>
          have hj' : j = σ.length := by omega
          subst hj'
          rw [app_at] at z2; cases z2
          exact ap i s e1 (Sl.excl_own ex) z1
        | succ z => rw [q] at e2; cases e2
    · cases q : i - en.length with
      | succ z => rw [q] at e1; cases e1
      | zero =>
        have hi' : i = σ.length := by omega
        subst hi'
        rw [app_at] at z1; cases z1
        rcases getElem?_append_cases e2 with ⟨hj, e2⟩ | ⟨hj, e2⟩
        · rw [old e2] at z2
          exact ap j t' e2 ow z2
        · cases q2 : j - en.length with
          | zero => omega
          | succ z => rw [q2] at e2; cases e2
theorem Rel.pop {u : Option V} (R : Rel W G en (σ ++ [u]) F H) : Rel W G en.dropLast σ F H := by
  have hl := R.len
  rw [List.length_append, List.length_singleton] at hl
  have old : ∀ {i : Nat} {s : Sl}, en.dropLast[i]? = some s → en[i]? = some s ∧ (σ ++ [u])[i]? = σ[i]? := fun {i s} e => by
    have hi := lt_of_some e
    rw [List.length_dropLast] at hi
    rw [List.getElem?_dropLast, if_pos (by omega)] at e
    exact ⟨e, List.getElem?_append_left (by omega)⟩
  refine ⟨by rw [List.length_dropLast]; omega, R.sub, R.ex0, R.fen, R.keep, R.wrk, fun i s e => ?_, fun i j s t' a hij e1 e2 ex ow => ?_⟩
  · obtain ⟨e1, e2⟩ := old e
    have h := R.slot i s e1
    cases s with
    | un => trivial
    | _ => unfold SlOk at h ⊢; rw [e2] at h; exact h
  · obtain ⟨p1, p2⟩ := old e1
    obtain ⟨q1, q2⟩ := old e2
    have := R.dist i j s t' a hij p1 q1 ex ow
    rw [p2, q2] at this
    exact this
theorem VWs.push {b : V} : ∀ {rs : List ER} {vs : List V}, (∀ i, ER.bo i ∈ rs → i < σ.length) → VWs W σ F rs vs → VWs W (σ ++ [some b]) F rs vs
  | [], [], _, h => h
  | r :: rs, v :: vs, hb, h => by
    refine ⟨?_, VWs.push (fun i hi => hb i (List.mem_cons_of_mem _ hi)) h.2⟩
    cases r with
    | sh d => exact h.1
    | fr d => exact h.1
    | bo i =>
      have h1 : σ[i]? = some (some v) := h.1
      show (σ ++ [some b])[i]? = some (some v)
      rw [List.getElem?_append_left (lt_of_some h1)]; exact h1
  | [], _ :: _, _, h => h.elim
  | _ :: _, [], _, h => h.elim
theorem VWs.lt : ∀ {rs : List ER} {vs : List V}, VWs W σ F rs vs → ∀ i, ER.bo i ∈ rs → i < σ.length
  | [], [], _, i, h => by cases h
  | r :: rs, v :: vs, h, i, hi => by
    cases hi with
    | head => have h1 : σ[i]? = some (some v) := h.1; exact lt_of_some h1
    | tail _ hi => exact VWs.lt h.2 i hi
  | [], _ :: _, h, _, _ => h.elim
  | _ :: _, [], h, _, _ => h.elim
theorem make_run {c : Nat} {C b dx : Addr} {rs ss : List ER} {vs zs dvs : List V} {Q : VK} (hC : W.cls c = C) (nd : is.Nodup) (R : Rel W G en σ F H) (hw : VWs W σ F rs vs) (hz : VWs W σ F ss zs) (hd : ∀ F, DL W F dvs dds) (x0 : Hp) (xx : Ex x0 F)
    (h : Out W E G σ (AE W G σ x0 Q) (popN c en.length (callM [true] (permM (n + 1) is m) dds (.bo en.length :: (rs ++ ss)) (en ++ [.ow (.ins c [])])))) (nb : H b = none) (ndx : H dx = none) (ne : dx ≠ b) :
    spM W m (permA (n + 1) is ((.ref b :: vs) ++ (zs ++ dvs))) (upd (upd H dx (.own b)) b (.ins C dx [])) (fun v H3 => v = .non ∧ Q (.ref b) H3) (E σ) := by
  have hlen := R.len
  have st1 := Stp.cell (o := .own b) R.sub ndx
  have R3 := R.stp st1
  have nb3 : upd H dx (.own b) b = none := by rw [upd_ne fun z => ne z.symm]; exact nb
  have st2 := Stp.cell (o := .ins C dx []) R3.sub nb3
  have R4 := R3.stp st2
  have fb : F b = none := no_of (s := R.sub) nb
  have tb : Top W F (upd (upd H dx (.own b)) b (.ins C dx [])) b (.ins c []) := ⟨dx, [], by rw [hC]; exact upd_same, dp_nil⟩
  have R5 := R4.push tb fb (R.new nb) (R.apart nb)
  have hwz := hw.app hz
  have hv : VWs W (σ ++ [some (.ref b)]) F (.bo en.length :: (rs ++ ss)) (.ref b :: (vs ++ zs)) := ⟨by show (σ ++ [some (V.ref b)])[en.length]? = _; rw [hlen]; exact app_at, hwz.push hwz.lt⟩
  have key := call_run (E := fun _ => E σ) (Q := fun v H3 => v = .non ∧ Q (.ref b) H3) (io := [true]) (m := permM (n + 1) is m) R5 hv hd x0 xx (by
    cases e : callM [true] (permM (n + 1) is m) dds (.bo en.length :: (rs ++ ss)) (en ++ [.ow (.ins c [])]) with
    | bad => rw [e] at h; exact h
    | exc x fls en' => rw [e] at h; exact fun dd F' H' R' xr => h dd F' H' R'.pop xr
    | ok r en' =>
      rw [e] at h
      intro v F' H' R' x' vr
      cases r with
      | sh d =>
        cases d with
        | non =>
          have vr' : Dat W F' v .non := vr
          cases vr'
          refine ⟨rfl, ?_⟩
          have h2 : Out W E G σ (AE W G σ x0 Q) (match en'[en.length]? with
            | some (.ow (.ins c' fs)) => if c' = c then .ok (.fr (.ins c fs)) en'.dropLast else .bad
            | _ => .bad) := h
          cases q : en'[en.length]? with
          | none => simp only [q] at h2; exact h2.elim
          | some s =>
            cases s with
            | ow d =>
              cases d with
              | ins c' fls =>
                simp only [q] at h2
                by_cases hc : c' = c
                · rw [if_pos hc] at h2
                  subst hc
                  obtain ⟨a, z1, z2, z3, z4⟩ := R'.slot _ _ q
                  rw [hlen, app_at] at z1
                  cases z1
                  refine h2 (.ref b) F' H' R'.pop x' ⟨b, rfl, z2, z3, z4, fun j t ej oj zj => ?_⟩
                  have hj := lt_of_some ej
                  have l' := R'.len
                  rw [List.length_append, List.length_singleton] at l'
                  rw [List.length_dropLast] at hj
                  rw [List.getElem?_dropLast, if_pos (by omega)] at ej
                  refine R'.dist en.length j _ t b (by omega) q ej rfl oj (by rw [hlen]; exact app_at) ?_
                  rw [List.getElem?_append_left (by omega)]; exact zj
                · rw [if_neg hc] at h2; exact h2.elim
              | _ => simp only [q] at h2; exact h2.elim
            | _ => simp only [q] at h2; exact h2.elim
        | _ => exact h.elim
      | fr d => exact h.elim
      | bo j => exact h.elim)
  have e1 : (V.ref b :: (vs ++ zs)) ++ dvs = (V.ref b :: vs) ++ (zs ++ dvs) := by simp
  rw [e1] at key
  exact permM_sp nd key
theorem ev_mk {c : Nat} (D : MakeIn X.prog X.w X.K X.mg X.base W c x k n ks is dds m) (hr : Room (k + 1) X.A) (hx : Pass X E) (ha : AV W E X (e :: es) (eA fs)) (hk : KV W E X kws (eA fs2)) (hn : fs.length = n := by rfl) (hm : fs2.length = ks.length := by rfl) (hg : Gl X x := by rfl)
    (hall : (backToKw pos (keywordEach kws X.env)).all (·.1.isSome) = true := by rfl) (hks : (backToKw pos (keywordEach kws X.env)).filterMap (·.1) = ks := by rfl)
    (hdb : (x == ("__debug__" : Str)) = false := by decide) (he : starEach (e :: es) X.env = (false, eval e X.env) :: starEach es X.env := by rfl)
    (hpl : ((backTo pos (starEach (e :: es) X.env)).any (·.1) || (backToKw pos (keywordEach kws X.env)).any (·.1.isNone)) = false := by rfl) :
    EV W E X (.Call (.Name x p) (e :: es) kws pos) (eMk c n is m dds (fs ++ fs2)) := by
  obtain ⟨C, f, fd, ps, g, dvs, hC, hM, FO, hmg, hd, hb⟩ := D.ex
  refine PE.imp (pe_makeNS hM FO hr hg hmg hb hx ha hk hall hks hdb he hpl) fun σ H Q hq => ?_
  obtain ⟨G, F, en, R, h⟩ := tE.out.mp hq
  exact two_then (Q := fun vs zs H2 => vs.length = n ∧ zs.length = ks.length ∧ ∀ x dx, H2 x = none → H2 dx = none → dx ≠ x → spM W m (permA (n + 1) is ((.ref x :: vs) ++ (zs ++ dvs))) (upd (upd H2 dx (.own x)) x (.ins C dx [])) (fun v H3 => v = .non ∧ Q (.ref x) H3) (E σ)) R h
    fun rs ss en2 vs zs F2 H2 h2 R2 x2 hw hz l1 l2 => ⟨by rw [← hw.length, l1, hn], by rw [← hz.length, l2, hm], fun b dx nb ndx ne => make_run hC D.nd R2 hw hz hd F x2 h2 nb ndx ne⟩
theorem ev_mk0 {c : Nat} (D : MakeIn X.prog X.w X.K X.mg X.base W c x k 0 ks is dds m) (hr : Room (k + 1) X.A) (hx : Pass X E) (hk : KV W E X kws (eA fs2)) (hm : fs2.length = ks.length := by rfl) (hg : Gl X x := by rfl)
    (hall : (backToKw pos (keywordEach kws X.env)).all (·.1.isSome) = true := by rfl) (hks : (backToKw pos (keywordEach kws X.env)).filterMap (·.1) = ks := by rfl)
    (hdb : (x == ("__debug__" : Str)) = false := by decide)
    (hpl : ((backTo pos (starEach [] X.env)).any (·.1) || (backToKw pos (keywordEach kws X.env)).any (·.1.isNone)) = false := by rfl) :
    EV W E X (.Call (.Name x p) [] kws pos) (eMk c 0 is m dds fs2) := by
  obtain ⟨C, f, fd, ps, g, dvs, hC, hM, FO, hmg, hd, hb⟩ := D.ex
  refine PE.imp (pe_makeNS0 hM FO hr hg hmg hb hx hk hall hks hdb hpl) fun σ H Q hq => ?_
  obtain ⟨G, F, en, R, h⟩ := tE.out.mp hq
  show tA W E (eA fs2) σ H fun zs H2 => ([] : List V).length = 0 ∧ zs.length = ks.length ∧ ∀ x dx, H2 x = none → H2 dx = none → dx ≠ x → spM W m (permA 1 is ([.ref x] ++ (zs ++ dvs))) (upd (upd H2 dx (.own x)) x (.ins C dx [])) (fun v H3 => v = .non ∧ Q (.ref x) H3) (E σ)
  refine ⟨G, F, en, R, ?_⟩
  have h' : Out W E G σ (AE W G σ F Q) ((eA fs2 en).bind fun rs en1 => popN c en1.length (callM [true] (permM 1 is m) dds (.bo en1.length :: rs) (en1 ++ [.ow (.ins c [])]))) := h
  cases e1 : eA fs2 en with
  | bad => rw [e1] at h'; exact h'
  | exc c fs s => rw [e1] at h'; exact h'
  | ok rs en1 =>
    rw [e1] at h'
    intro zs F1 H1 R1 x1 hw
    exact ⟨rfl, by rw [← hw.length, eA_length e1, hm], fun b dx nb ndx ne => make_run (rs := []) (vs := []) (ss := rs) hC D.nd R1 trivial hw hd F x1 h' nb ndx ne⟩
end
end Fw
set_option Elab.async false
set_option linter.all false
set_option maxRecDepth 100000
namespace Fw
open PySem PySem.Spec PyProof.Rows L2
/-! ### exceptions: raise -/
/-- what an __init__ that stores its arguments keeps -/
def spX1 (K : PySem.W.Frag) (C : Addr) (f : Str) : Sp := fun vs H Q _ => ∃ (a : Addr) (v : V), vs = [.ref a, v] ∧ H a = some (exo a C none) ∧ ∀ dx, H dx = none → dx ≠ a → Q .non (upd (upd H dx (exd dx [(f, v)])) a (exo a C (some dx)))
def spX2 (K : PySem.W.Frag) (C : Addr) (f f2 : Str) : Sp := fun vs H Q _ => ∃ (a : Addr) (v v2 : V), vs = [.ref a, v, v2] ∧ H a = some (exo a C none) ∧ ∀ dx, H dx = none → dx ≠ a → Q .non (upd (upd (upd H dx (exd dx [(f, v)])) a (exo a C (some dx))) dx (exd dx [(f2, v2), (f, v)]))
def flds (fl : List Str) (ds : List D) : List (Str × D) := (fl.zip ds).reverse
def spX (K : PySem.W.Frag) (C : Addr) : List Str → Sp
  | [f] => spX1 K C f
  | [f, f2] => spX2 K C f f2
  | _ => fun _ _ _ _ => False
structure RaiseIn (P : Program) (w : World) (K : PySem.W.Frag) (mg : Str → Option Value) (base : Heap) (W : Wc) (c : Nat) (x : Str) (k : Nat) (fl : List Str) : Prop where
  ex : ∃ (C f : Addr) (fd : FuncData) (ps : List Str), W.cls c = C ∧ OexC K C ∧ PySem.W.findIn K (.ref C) "__init__" = some (some (.ref f)) ∧ PySem.W.typeIn K (.ref f) = some (.type "function") ∧ FnOk P w K mg base (L2.CX P w) k f fd ps (spX K C fl) ∧ Binds K fd ps [] ∧ mg x = some (.ref C)
def sRaise (c : Nat) (fl : List Str) (fs : List (M ER)) : SM := fun en => (eA fs en).then fun rs en1 => match shrs rs en1 with
  | some (ds, en2) => if ds.length = fl.length ∧ (fl.length = 1 ∨ fl.length = 2) then .exc c (flds fl ds) en2 else .bad
  | none => .bad
section
variable {P : Program} {w : World} {K : PySem.W.Frag} {mg : Str → Option Value} {base : Heap}
theorem ok_x1 {k : Nat} {qual : Str} {st : Stmt} {f : Addr} {fd : FuncData} {fl sf va : Str} {C : Addr} {p1 p2 p3 p4 : Pos} (Fn : Fun K "__init__" qual st f fd) (S : FnScope [sf, va] [sf, va] (defScope st)) (T : OexC K C) (hno : PySem.W.findIn K (.ref C) fl = some none)
    (hb : defBody st = [.Assign [.Attribute (.Name sf p1) fl p2] (.Name va p3) p4] := by rfl)
    (hd1 : (sf == ("__debug__" : Str)) = false := by decide) (hc1 : (sf == ("__classdict__" : Str)) = false := by decide) (hd2 : (va == ("__debug__" : Str)) = false := by decide) (hc2 : (va == ("__classdict__" : Str)) = false := by decide)
    (v1 : Vis (defScope st) sf := by first | exact Or.inl rfl | exact Or.inr (Or.inl rfl) | exact Or.inr (Or.inr rfl)) (v2 : Vis (defScope st) va := by first | exact Or.inl rfl | exact Or.inr (Or.inl rfl) | exact Or.inr (Or.inr rfl)) :
    FnOk P w K mg base (L2.CX P w) (k + 1) f fd [sf, va] (spX1 K C fl) := by
  refine Fn.okX S (fun vs H Q E h => by obtain ⟨a, v, e, _⟩ := h; rw [e]; rfl) fun cdv A outer s H vs Q E hr h => ?_
  obtain ⟨a, v, rfl, ha, hq⟩ := h
  refine ⟨_, by rw [hb]; exact pss_one (ps_ost (pe_var (i := 0) rfl v1 hd1 hc1) (pe_var (i := 1) rfl v2 hd2 hc2)), ?_⟩
  refine ⟨v, rfl, .ref a, rfl, a, C, rfl, T, hno, .inl ⟨ha, fun dx n ne => hq dx n ne⟩⟩
theorem ok_x2 {k : Nat} {qual : Str} {st : Stmt} {f : Addr} {fd : FuncData} {fl fl2 sf va va2 : Str} {C : Addr} {p1 p2 p3 p4 q1 q2 q3 q4 : Pos} (Fn : Fun K "__init__" qual st f fd) (S : FnScope [sf, va, va2] [sf, va, va2] (defScope st)) (T : OexC K C)
    (hno : PySem.W.findIn K (.ref C) fl = some none) (hno2 : PySem.W.findIn K (.ref C) fl2 = some none)
    (hb : defBody st = [.Assign [.Attribute (.Name sf p1) fl p2] (.Name va p3) p4, .Assign [.Attribute (.Name sf q1) fl2 q2] (.Name va2 q3) q4] := by rfl)
    (hd1 : (sf == ("__debug__" : Str)) = false := by decide) (hc1 : (sf == ("__classdict__" : Str)) = false := by decide) (hd2 : (va == ("__debug__" : Str)) = false := by decide) (hc2 : (va == ("__classdict__" : Str)) = false := by decide)
    (hd3 : (va2 == ("__debug__" : Str)) = false := by decide) (hc3 : (va2 == ("__classdict__" : Str)) = false := by decide)
    (v1 : Vis (defScope st) sf := by first | exact Or.inl rfl | exact Or.inr (Or.inl rfl) | exact Or.inr (Or.inr rfl)) (v2 : Vis (defScope st) va := by first | exact Or.inl rfl | exact Or.inr (Or.inl rfl) | exact Or.inr (Or.inr rfl)) (v3 : Vis (defScope st) va2 := by first | exact Or.inl rfl | exact Or.inr (Or.inl rfl) | exact Or.inr (Or.inr rfl)) :
    FnOk P w K mg base (L2.CX P w) (k + 1) f fd [sf, va, va2] (spX2 K C fl fl2) := by
  refine Fn.okX S (fun vs H Q E h => by obtain ⟨a, v, v2, e, _⟩ := h; rw [e]; rfl) fun cdv A outer s H vs Q E hr h => ?_
  obtain ⟨a, v, v2', rfl, ha, hq⟩ := h
  refine ⟨_, by rw [hb]; exact pss_cons (ps_ost (pe_var (i := 0) rfl v1 hd1 hc1) (pe_var (i := 1) rfl v2 hd2 hc2)) (pss_one (ps_ost (pe_var (i := 0) rfl v1 hd1 hc1) (pe_var (i := 2) rfl v3 hd3 hc3))), ?_⟩
  refine ⟨v, rfl, .ref a, rfl, a, C, rfl, T, hno, .inl ⟨ha, fun dx n ne => ?_⟩⟩
  refine ⟨v2', rfl, .ref a, rfl, a, C, rfl, T, hno2, .inr ⟨dx, [(fl, v)], upd_same, by rw [upd_ne ne]; exact upd_same, Nat.le_of_ble_eq_true rfl, hq dx n ne⟩⟩
end
section
variable {W : Wc} {E : St → XK} {X : Cx} {a b e : Expr} {es : List Expr} {fa fo : M ER} {fs : List (M ER)} {pos pos' p : Pos} {G : Gc} {en en' : En} {σ : St} {F H F' H' : Hp} {x : Str} {k : Nat} {De : Ends}
theorem dp_flds {ds : List D} {vs : List V} : ∀ {fl : List Str}, fl.length = ds.length → DL W F vs ds → DP W F (fl.zip vs) (fl.zip ds) := by
  induction ds generalizing vs with
  | nil => intro fl h l; cases fl with
    | nil => exact ⟨rfl, fun i v d e => by simp at e⟩
    | cons _ _ => cases h
  | cons d ds ih => intro fl h l; cases fl with
    | nil => cases h
    | cons f fl =>
      obtain ⟨v, r, rfl, hd, hr⟩ := l.inv_cons
      exact dp_cons.mpr ⟨rfl, hd, ih (by simpa using h) hr⟩
theorem sv_raise {c : Nat} {fl : List Str} (D : RaiseIn X.prog X.w X.K X.mg X.base W c x k fl) (hr : Room (k + 1) X.A) (tk : Takes X (fun c d σ H => E σ c d H)) (ha : AV W E X (e :: es) (eA fs)) (hcm : X.calm = true := by rfl) (hg : Gl X x := by rfl)
    (hdb : (x == ("__debug__" : Str)) = false := by decide) (he : starEach (e :: es) X.env = (false, eval e X.env) :: starEach es X.env := by rfl) (hpl : (backTo pos (starEach es X.env)).any (·.1) = false := by rfl) :
    SV W E X (.Raise (some (.Call (.Name x p) (e :: es) [] pos)) none pos') (sRaise c fl fs) := by
  obtain ⟨C, f, fd, ps, hC, T, iC, tI, FO, hb, hm⟩ := D.ex
  refine PS.imp (ps_raise hcm tk (pmk_oex T iC tI FO hr hb .nil passL hg hm ha hdb he hpl)) fun De σ H hq => ?_
  obtain ⟨G, F, en, R, h⟩ := tS.out.mp hq
  show tA W E (eA fs) σ H fun vs H1 => vs.length ≤ 1000 ∧ ∀ a, H1 a = none → spX X.K C fl (.ref a :: (vs ++ [])) (upd H1 a (exo a C none))
    (fun v H2 => v = .non ∧ ∃ (d : Addr) (fs : List (Str × V)), H2 a = some (exo a C (some d)) ∧ H2 d = some (exd d fs) ∧ H1 d = none ∧ E σ (.ref C) (some d) (upd (del H2 a) d (.xd fs))) (fun _ _ _ => False)
  refine ⟨G, F, en, R, ?_⟩
  unfold sRaise at h
  cases e1 : eA fs en with
  | bad => rw [e1] at h; exact h
  | exc c fs s => rw [e1] at h; exact fun dd F' H' R' xr => h dd σ F' H' R' xr
  | ok rs en1 =>
    rw [e1] at h
    intro vs F1 H1 R1 x1 hw
    have h1 : SOut W E G De (match shrs rs en1 with
      | some (ds, en2) => if ds.length = fl.length ∧ (fl.length = 1 ∨ fl.length = 2) then .exc c (flds fl ds) en2 else .bad
      | none => .bad) := h
    cases q : shrs rs en1 with
    | none => simp only [q] at h1; exact h1.elim
    | some pp =>
      obtain ⟨ds, en2⟩ := pp
      simp only [q] at h1
      obtain ⟨F2, x2, dl, R2⟩ := shrs_ok hw R1 q
      by_cases hl0 : ds.length = fl.length ∧ (fl.length = 1 ∨ fl.length = 2)
      · rw [if_pos hl0] at h1
        obtain ⟨hl, h12⟩ := hl0
        have fin : ∀ (a d : Addr) (H2 : Hp) (gs : List (Str × V)), H1 a = none → H1 d = none → d ≠ a → (∀ b, b ≠ a → b ≠ d → H2 b = H1 b) → H2 d = some (exd d gs) → DP W F2 gs (flds fl ds) → E σ (.ref C) (some d) (upd (del H2 a) d (.xd gs)) := by
          intro a d H2 gs na nd ne hk hd dp
          have eqH : upd (del H2 a) d (.xd gs) = upd H1 d (.xd gs) := by
            funext b
            by_cases hb : b = d
            · subst hb; rw [upd_same, upd_same]
            · rw [upd_ne hb, upd_ne hb]
              by_cases hba : b = a
              · subst hba; rw [del_same, na]
              · rw [del_ne hba, hk b hba hb]
          rw [eqH]
          have st := Stp.cell (o := .xd gs) R2.sub nd
          have := h1 d σ F2 (upd H1 d (.xd gs)) (R2.stp st) ⟨gs, upd_same, dp, R2.new nd⟩
          rw [hC] at this
          exact this
        have lv : vs.length = fl.length := by rw [dl.1, hl]
        refine ⟨?_, fun a na => ?_⟩
        · rcases h12 with h | h <;> omega
        · rw [List.append_nil]
          match fl, lv, hl, fin, h12 with
          | [f1], lv, hl, fin, _ =>
            match vs, lv, dl with
            | [v], _, dl =>
              match ds, hl, dl, fin with
              | [d1], _, dl, fin =>
                refine ⟨a, v, rfl, upd_same, fun dx ndx ne => ⟨rfl, dx, [(f1, v)], upd_same, ?_, ?_, ?_⟩⟩
                · rw [upd_ne ne]; exact upd_same
                · rw [upd_ne ne] at ndx; exact ndx
                · rw [upd_ne ne] at ndx
                  refine fin a dx _ _ na ndx ne (fun b h1 h2 => ?_) (by rw [upd_ne ne]; exact upd_same) (dp_cons.mpr ⟨rfl, dl.head, dp_nil⟩)
                  rw [upd_ne h1, upd_ne h2, upd_ne h1]
          | [f1, f2], lv, hl, fin, _ =>
            match vs, lv, dl with
            | [v, v2], _, dl =>
              match ds, hl, dl, fin with
              | [d1, d2], _, dl, fin =>
                refine ⟨a, v, v2, rfl, upd_same, fun dx ndx ne => ⟨rfl, dx, [(f2, v2), (f1, v)], ?_, upd_same, ?_, ?_⟩⟩
                · rw [upd_ne ne.symm]; exact upd_same
                · rw [upd_ne ne] at ndx; exact ndx
                · rw [upd_ne ne] at ndx
                  refine fin a dx _ _ na ndx ne (fun b h1 h2 => ?_) upd_same (dp_cons.mpr ⟨rfl, dl.tail.head, dp_cons.mpr ⟨rfl, dl.head, dp_nil⟩⟩)
                  rw [upd_ne h2, upd_ne h1, upd_ne h2, upd_ne h1]
          | [], lv, hl, fin, h12 => simp at h12
          | _ :: _ :: _ :: _, lv, hl, fin, h12 => simp at h12
      · rw [if_neg hl0] at h1; exact h1.elim
end
end Fw
set_option Elab.async false
set_option linter.all false
set_option maxRecDepth 100000
namespace Fw
open PySem PySem.Spec PyProof.Rows L2
/-! ### try .. except -/
def endS (i : Nat) : O → O
  | .rt r en => .rt r (en.set i .un)
  | .nx en => .nx (en.set i .un)
  | .bk en => .bk (en.set i .un)
  | .ct en => .ct (en.set i .un)
  | _ => .bad
/-- the suite's outcome, wherever the exception lies -/
noncomputable def pickO (f : Addr → Addr → O) : O := open Classical in if h : ∃ o, ∀ a d, f a d = o then choose h else .bad
theorem pickO_eq {f : Addr → Addr → O} {o : O} (h : ∀ a d, f a d = o) : pickO f = o := by
  have hx : ∃ o, ∀ a d, f a d = o := ⟨o, h⟩
  unfold pickO
  rw [dif_pos hx]
  have := Classical.choose_spec hx 0 0
  rw [h] at this
  exact this.symm
theorem pickO_of {f : Addr → Addr → O} (a d : Addr) (h : pickO f ≠ .bad) : f a d = pickO f := by
  by_cases hx : ∃ o, ∀ a d, f a d = o
  · unfold pickO
    rw [dif_pos hx]
    exact Classical.choose_spec hx a d
  · exact absurd (by unfold pickO; rw [dif_neg hx]) h
def okSl (en : En) (i : Nat) : Bool := match en[i]? with
  | some s => !s.isPn
  | none => false
/-- what the clause does with an exception of class c -/
noncomputable def catchO (i : Nat) (all cs : List Nat) (fsu : Addr → Addr → Nat → SM) (c : Nat) (fs : List (Str × D)) (en1 : En) : O :=
  if all.contains c = true then (if cs.contains c = true then (if okSl en1 i = true then pickO (fun a dd => endS i (fsu a dd c (en1.set i (.sh (.exn a dd c fs))))) else .bad) else .exc c fs en1) else .bad
noncomputable def sTry (i : Nat) (all cs : List Nat) (fb : SM) (fsu : Addr → Addr → Nat → SM) : SM := fun en => match fb en with
  | .exc c fs en1 => catchO i all cs fsu c fs en1
  | .nx en => .nx en
  | .rt r en => .rt r en
  | .bk en => .bk en
  | .ct en => .ct en
  | .bad => .bad
section
variable {W : Wc} {E : St → XK} {X : Cx} {a b e : Expr} {es : List Expr} {fa fo : M ER} {fs : List (M ER)} {pos pos' np : Pos} {G : Gc} {en en' : En} {σ : St} {F H F' H' : Hp} {x n : Str} {k i : Nat} {De : Ends} {cc : Value} {all cs : List Nat} {fb : SM} {fsu : Addr → Addr → Nat → SM} {body suite : List Stmt} {b₀ : Stmt}
theorem Top.not_xd {a : Addr} {d : D} {fs : List (Str × V)} (t : Top W F H a d) : H a ≠ some (.xd fs) := by
  cases d with
  | lst ds => obtain ⟨vs, h, _⟩ := t; rw [h]; intro z; cases z
  | dk ds => obtain ⟨vs, h, _⟩ := t; rw [h]; intro z; cases z
  | dt ds => obtain ⟨vs, h, _⟩ := t; rw [h]; intro z; cases z
  | ins c fs => obtain ⟨dx, vs, h, _⟩ := t; rw [h]; intro z; cases z
  | _ => exact t.elim
/-- an exception's dict is frozen -/
theorem Rel.freezeX {dd : Addr} {fs' : List (Str × V)} (R : Rel W G en σ F H) (hd : H dd = some (.xd fs')) (h0 : G.H0 dd = none) : ∃ F2, Ex F F2 ∧ F2 dd = some (.xd fs') ∧ Rel W G en σ F2 H := by
  cases hF : F dd with
  | some o =>
    have := R.sub _ _ hF
    rw [hd] at this; cases this
    exact ⟨F, Ex.refl F, hF, R⟩
  | none =>
    have exF : Ex F (upd F dd (.xd fs')) := Ex.new hF
    refine ⟨upd F dd (.xd fs'), exF, upd_same, ?_⟩
    refine ⟨R.len, fun b u q => ?_, R.ex0.trans exF, fun b u q n => ?_, R.keep, R.wrk, fun j t q => ?_, R.dist⟩
    · by_cases hb : b = dd
      · subst hb; rw [upd_same] at q; cases q; exact hd
      · rw [upd_ne hb] at q; exact R.sub _ _ q
    · have hb : b ≠ dd := fun z => by subst z; rw [h0] at q; cases q
      rw [upd_ne hb]; exact R.fen b u q n
    · have ht := R.slot j t q
      refine ht.mono exF fun b u hb fb sb ob => ⟨hb, ?_⟩
      have : b ≠ dd := fun z => by
        subst z
        obtain ⟨a', d', h1, h2, h3, h4⟩ := ht.own ob
        rw [sb] at h1; cases h1
        exact h3.not_xd hd
      rw [upd_ne this]; exact fb
/-- what the suite is asked, if the exception lies at a -/
def tsOf (W : Wc) (cs : List Nat) (fsu : Addr → Addr → Nat → SM) : Addr → Value → Option Addr → TS := fun a cls d D σ H => ∃ c dd, cs.contains c = true ∧ cls = .ref (W.cls c) ∧ d = some dd ∧ tS W EZ (fsu a dd c) D σ H
theorem pss_of {X' : Cx} {sts : List Stmt} {a : Addr} {cls : Value} {d : Option Addr} (h : ∀ c dd, cs.contains c = true → cls = .ref (W.cls c) → d = some dd → SVs W EZ X' sts (fsu a dd c)) : PSs X' sts (tsOf W cs fsu a cls d) :=
  ⟨fun pins s σ H D I ⟨c, dd, h1, h2, h3, w⟩ => (h c dd h1 h2 h3).run pins s σ H D I w⟩
/-- the wish of the body's exceptions -/
theorem catch_yes {c : Nat} {fs : List (Str × D)} {dd a : Addr} {en1 : En} (R : Rel W G en1 σ F H) (xr : XR W G.H0 F H dd fs) (hc : all.contains c = true) (hcs : cs.contains c = true)
    (h : SOut W E G De (catchO i all cs fsu c fs en1)) : tsOf W cs fsu a (.ref (W.cls c)) (some dd) { nx := fun σ' H' => De.nx (σ'.set i none) H', rt := De.rt, bk := fun σ' H' => De.bk (σ'.set i none) H', ct := fun σ' H' => De.ct (σ'.set i none) H' } (σ.set i (some (.ref a))) H := by
  unfold catchO at h
  rw [if_pos hc, if_pos hcs] at h
  by_cases hs : okSl en1 i = true
  · rw [if_pos hs] at h
    have nb : pickO (fun a dd => endS i (fsu a dd c (en1.set i (.sh (.exn a dd c fs))))) ≠ .bad := fun z => by rw [z] at h; exact h
    rw [← pickO_of a dd nb] at h
    obtain ⟨fs', h1, h2, h3⟩ := xr
    obtain ⟨F2, x2, hF, R2⟩ := R.freezeX h1 h3
    obtain ⟨s, hs1, hs2⟩ : ∃ s, en1[i]? = some s ∧ s.isPn = false := by
      unfold okSl at hs
      cases e : en1[i]? with
      | none => rw [e] at hs; cases hs
      | some s => rw [e] at hs; exact ⟨s, rfl, by simpa using hs⟩
    have dp := h2.mono x2
    have R3 := R2.setSh (v := .ref a) (d := .exn a dd c fs) hs1 hs2 (.exn hF dp.1 dp.2)
    refine ⟨c, dd, hcs, rfl, rfl, G, F2, _, R3, ?_⟩
    cases e : fsu a dd c (en1.set i (.sh (.exn a dd c fs))) with
    | nx en' => rw [e] at h; exact fun σ' F' H' R' => h _ F' H' (R'.setUn i none fun _ _ => trivial)
    | bk en' => rw [e] at h; exact fun σ' F' H' R' => h _ F' H' (R'.setUn i none fun _ _ => trivial)
    | ct en' => rw [e] at h; exact fun σ' F' H' R' => h _ F' H' (R'.setUn i none fun _ _ => trivial)
    | rt r en' => rw [e] at h; exact fun v σ' F' H' R' => h v σ' F' H' (R'.forget i)
    | exc c fs s => rw [e] at h; exact h.elim
    | bad => rw [e] at h; exact h.elim
  · rw [if_neg hs] at h; exact h.elim
theorem catch_no {c : Nat} {fs : List (Str × D)} {dd : Addr} {en1 : En} (R : Rel W G en1 σ F H) (xr : XR W G.H0 F H dd fs) (hc : all.contains c = true) (hcs : cs.contains c = false)
    (h : SOut W E G De (catchO i all cs fsu c fs en1)) : E σ (.ref (W.cls c)) (some dd) H := by
  unfold catchO at h
  rw [if_pos hc, if_neg (by rw [hcs]; exact Bool.false_ne_true)] at h
  exact h dd σ F H R xr
theorem catch_all {c : Nat} {fs : List (Str × D)} {en1 : En} (h : SOut W E G De (catchO i all cs fsu c fs en1)) : all.contains c = true := by
  unfold catchO at h
  by_cases hc : all.contains c = true
  · exact hc
  · rw [if_neg hc] at h; exact h.elim
/-- what an except clause knows of the classes: which of them it takes -/
def Exm (K : PySem.W.Frag) (cls : Nat → Addr) (cc : Value) (all cs : List Nat) : Prop := ∀ c, all.contains c = true → PySem.W.exmOne K (.ref (cls c)) cc = some (cs.contains c)
theorem sv_tryAs (hi : X.N[i]? = some n) (hN : X.N.Nodup) (hc : Names X x cc) (tk : Takes X (fun c d σ H => E σ c d H)) (hm : Exm X.K W.cls cc all cs)
    (hb : ∀ (W' : WX) (pn : List (Addr × Obj)) (xe : Value → Shared → Prop), Takes (X.tr pn xe) W' → PassesOwn (model X.prog X.w) X.A X.env xe → SVs W (fun σ c d H => W' c d σ H) (X.tr pn xe) body fb)
    (hsu : ∀ (a : Addr) (oe : Obj) (c : Nat) (dd : Addr) (pn : List (Addr × Obj)), cs.contains c = true → Zc (.ref (W.cls c)) (some dd) oe → (∃ vs, oe.data = .fields vs) → SVs W EZ (X.suite a ((a, oe) :: pn)) (b₀ :: suite) (fsu a dd c))
    (hs : X.stack = X.env :: X.outer := by rfl) (hf : X.env.frame = some X.env.locals := by rfl) (hln : X.env.kindOf n = some .local := by rfl) :
    SV W E X (.Try body [.ExceptHandler (some (.Name x np)) (some n) (b₀ :: suite) pos'] [] [] pos) (sTry i all cs fb fsu) := by
  refine PS.imp (ps_try_as (ts := tsOf W cs fsu) hs hf hN hi hln hc tk (tb := fun W' => tS W (fun σ c d H => W' c d σ H) fb) (fun W' pn xe t1 t2 => hb W' pn xe t1 t2) fun a oe cls d pn hz hfl => pss_of fun c dd h1 h2 h3 => by
    subst h2; subst h3; exact hsu a oe c dd pn h1 hz hfl) fun De σ H hq => ?_
  obtain ⟨G, F, en, R, h⟩ := tS.out.mp hq
  refine ⟨G, F, en, R, ?_⟩
  unfold sTry at h
  cases eb : fb en with
  | nx en' => rw [eb] at h; exact h
  | rt r en' => rw [eb] at h; exact h
  | bk en' => rw [eb] at h; exact h
  | ct en' => rw [eb] at h; exact h
  | bad => rw [eb] at h; exact h
  | exc c fs en1 =>
    rw [eb] at h
    intro dd σ' F' H' R' xr
    have ha := catch_all h
    refine ⟨cs.contains c, hm c ha, fun hy a na => catch_yes R' xr ha hy h, fun hn => catch_no R' xr ha hn h⟩
theorem sv_tryO (hc : Names X x cc) (tk : Takes X (fun c d σ H => E σ c d H)) (hm : Exm X.K W.cls cc all cs)
    (hb : ∀ (W' : WX) (pn : List (Addr × Obj)) (xe : Value → Shared → Prop), Takes (X.tr pn xe) W' → PassesOwn (model X.prog X.w) X.A X.env xe → SVs W (fun σ c d H => W' c d σ H) (X.tr pn xe) body fb)
    {fs0 : SM} (hsu : ∀ (a : Addr) (oe : Obj) (c : Nat) (dd : Addr) (pn : List (Addr × Obj)), cs.contains c = true → Zc (.ref (W.cls c)) (some dd) oe → (∃ vs, oe.data = .fields vs) → SVs W EZ (X.suite a ((a, oe) :: pn)) (b₀ :: suite) fs0)
    (hs : X.stack = X.env :: X.outer := by rfl) (hf : X.env.frame = some X.env.locals := by rfl) :
    SV W E X (.Try body [.ExceptHandler (some (.Name x np)) none (b₀ :: suite) pos'] [] [] pos) (fun en => match fb en with
      | .exc c fs en1 => if all.contains c = true then (if cs.contains c = true then (match fs0 en1 with | .exc _ _ _ => .bad | o => o) else .exc c fs en1) else .bad
      | o => o) := by
  refine PS.imp (ps_try_only (ts := tsOf W cs fun _ _ _ => fs0) hs hf hc tk (tb := fun W' => tS W (fun σ c d H => W' c d σ H) fb) (fun W' pn xe t1 t2 => hb W' pn xe t1 t2) fun a oe cls d pn hz hfl => pss_of fun c dd h1 h2 h3 => by
    subst h2; subst h3; exact hsu a oe c dd pn h1 hz hfl) fun De σ H hq => ?_
  obtain ⟨G, F, en, R, h⟩ := tS.out.mp hq
  refine ⟨G, F, en, R, ?_⟩
  cases eb : fb en with
  | nx en' => simp only [eb] at h; exact h
  | rt r en' => simp only [eb] at h; exact h
  | bk en' => simp only [eb] at h; exact h
  | ct en' => simp only [eb] at h; exact h
  | bad => simp only [eb] at h; exact h
  | exc c fs en1 =>
    simp only [eb] at h
    intro dd σ' F' H' R' xr
    by_cases ha : all.contains c = true
    · rw [if_pos ha] at h
      refine ⟨cs.contains c, hm c ha, fun hy a na => ?_, fun hn => ?_⟩
      · rw [if_pos hy] at h
        refine ⟨c, dd, hy, rfl, rfl, tS.of R' ?_⟩
        show SOut W EZ G De (fs0 en1)
        cases es : fs0 en1 with
        | exc c fs s => simp only [es] at h; exact h.elim
        | nx en' => simp only [es] at h; exact h
        | rt r en' => simp only [es] at h; exact h
        | bk en' => simp only [es] at h; exact h
        | ct en' => simp only [es] at h; exact h
        | bad => simp only [es] at h; exact h
      · rw [if_neg (by rw [hn]; exact Bool.false_ne_true)] at h
        exact h dd σ' F' H' R' xr
    · rw [if_neg ha] at h; exact h.elim
/-! ### in the suite: e.f, isinstance(e, ..) -/
def XA (K : PySem.W.Frag) (cls : Nat → Addr) (cs : List Nat) (f : Str) : Prop := ∀ c, cs.contains c = true → XfC K (cls c) ∧ PySem.W.findIn K (.ref (cls c)) f = some none
def lookX (a dd : Addr) (c : Nat) (f : Str) (en1 : En) : ER → R En ER
  | .sh (.exn a' dd' c' fs) => if a' = a ∧ dd' = dd ∧ c' = c then (match fs.lookup f with | some d => .ok (.sh d) en1 | none => .bad) else .bad
  | _ => .bad
def eXf (a dd : Addr) (c : Nat) (f : Str) (fa : M ER) : M ER := fun en => (fa en).bind fun r en1 => lookX a dd c f en1 r
theorem ev_xf {ad dd : Addr} {c : Nat} {f : Str} {oe : Obj} {pn : List (Addr × Obj)} (hA : XA X.K W.cls cs f) (hcs : cs.contains c = true) (hz : Zc (.ref (W.cls c)) (some dd) oe) (hf : ∃ vs, oe.data = .fields vs) (ha : EV W E (X.suite ad ((ad, oe) :: pn)) a fa)
    (hb : attributeBase a f X.env (eval a X.env) = eval a X.env := by rfl) : EV W E (X.suite ad ((ad, oe) :: pn)) (.Attribute a f pos) (eXf ad dd c f fa) := by
  obtain ⟨T, hno⟩ := hA c hcs
  refine PE.imp (pe_xf T hno hz hf ha hb) fun σ H Q hq => ?_
  obtain ⟨G, F, en, R, h⟩ := tE.out.mp hq
  refine ev_then R h fun r en1 v F1 H1 h1 R1 x1 va => ?_
  cases r with
  | sh d =>
    cases d with
    | exn a' dd' c' fs =>
      have h2 : Out W E G σ (AE W G σ F Q) (if a' = ad ∧ dd' = dd ∧ c' = c then (match fs.lookup f with | some d => .ok (.sh d) en1 | none => .bad) else .bad) := h1
      by_cases hh : a' = ad ∧ dd' = dd ∧ c' = c
      · rw [if_pos hh] at h2
        obtain ⟨rfl, rfl, rfl⟩ := hh
        cases q : fs.lookup f with
        | none => simp only [q] at h2; exact h2.elim
        | some d =>
          simp only [q] at h2
          have vd : Dat W F1 v (.exn a' dd' c' fs) := va
          cases vd with
          | exn h3 k3 c3 =>
            obtain ⟨u, hu, du⟩ := dp_look ⟨k3, c3⟩ q
            exact ⟨rfl, rfl, dd', _, u, rfl, R1.sub _ _ h3, hu, h2 u F1 H1 R1 x1 du⟩
      · rw [if_neg hh] at h2; exact h2.elim
    | _ => exact h1.elim
  | _ => exact h1.elim
/-- what isinstance says of the classes -/
inductive Kk where
  | c (n : Nat) | t (s : String)
  deriving DecidableEq
abbrev IsT := List ((Nat × Kk) × Bool)
def keyV (cls : Nat → Addr) : Kk → Value
  | .c n => .ref (cls n)
  | .t s => .type s
def IsOk (K : PySem.W.Frag) (cls : Nat → Addr) (tab : IsT) : Prop := ∀ q ∈ tab, PySem.W.kitOne K (.ref (cls q.1.1)) (keyV cls q.1.2) = some q.2
def isK (tab : IsT) (c : Nat) : D → Option Bool
  | .cl n => tab.lookup (c, Kk.c n)
  | .ty s => tab.lookup (c, Kk.t s)
  | _ => none
def isAny (tab : IsT) (c : Nat) : List D → Option Bool
  | [] => some false
  | d :: ds => match isK tab c d, isAny tab c ds with
    | some a, some b => some (a || b)
    | _, _ => none
/-- isinstance(e, ..) of the caught exception -/
def gIsX (tab : IsT) (a dd : Addr) (c : Nat) : List D → Option ER := fun ds => match ds with
    | [.exn a' dd' c' fs, d] => if a' = a ∧ dd' = dd ∧ c' = c then (match d with
      | .tup ds => (match isAny tab c ds with | some b => some (.sh (.bl b)) | none => none)
      | d => (match isK tab c d with | some b => some (.sh (.bl b)) | none => none)) else none
    | _ => none
def rIsX (K : PySem.W.Frag) (Dc a dd : Addr) : List V → Hp → VK → Prop := fun xs H Q => (∃ fs, H dd = some (.xd fs)) ∧ ((∃ (c : V) (cv : Value) (b : Bool), xs = [.ref a, c] ∧ ClsV c cv ∧ PySem.W.kitOne K (.ref Dc) cv = some b ∧ Q (.bl b) H) ∨
  ∃ (tp : Addr) (cs : List V) (us : List Value) (b : Bool), xs = [.ref a, .ref tp] ∧ H tp = some (.tup cs) ∧ Paired ClsV cs us ∧ PySem.W.kitAny K (.ref Dc) us = some b ∧ Q (.bl b) H)
theorem call_isX {ad Dc dd : Addr} {oe : Obj} {pn : List (Addr × Obj)} (C : ExcC X.K Dc) (hz : Zc (.ref Dc) (some dd) oe) (hf : ∃ vs, oe.data = .fields vs) : CallR (X.suite ad ((ad, oe) :: pn)) (.builtin "isinstance") (rIsX X.K Dc ad dd) := by
  intro pins s σ H xs us Q I r h
  have hcl : (PySem.W.clsIn X.K Dc).isSome = true := by
    obtain ⟨cd, hc, _⟩ := PySem.W.any_some C.hd
    rw [hc]; rfl
  obtain ⟨⟨fs, hx⟩, h⟩ := h
  obtain ⟨hget, _⟩ := I.pin (ad, oe) (List.mem_append.mpr (.inl List.mem_cons_self))
  obtain ⟨vs, hv⟩ := hf
  have hx : ObjOk X.prog X.w H s.heap dd (.xd fs) := I.hok dd _ hx
  obtain ⟨mA, hns, hr⟩ := hx
  obtain ⟨od, ho, hl⟩ := lookIn_ns hns
  have J : PySem.W.InstAt s.heap ad oe Dc (some od) := ⟨hget, hz.1, by unfold PySem.W.notCls; rw [hv] <;> rfl, by rw [hz.2]; exact ho⟩
  have Z := PySem.W.kitx_exc (x := ad) (ox := oe) (od := some od) hcl C.hg C.hk C.hs C.ha C.hn C.ht C.hm
  rcases h with ⟨c, cv, b, rfl, hcv, e, q⟩ | ⟨tp, cs, ws, b, rfl, hT, k, e, q⟩
  · obtain ⟨u1, u2, rfl, r1, r2⟩ := vals2 r
    cases (show u1 = Value.ref ad from r1)
    have ec := hcv.eq r2
    subst ec
    exact PySem.W.kia_one Z I.kIn J e (fun z => nomatch z) fun tk => ⟨.bl b, H, I.kept (t' := tk) fun _ _ z => z, rfl, q⟩
  · obtain ⟨u1, u2, rfl, r1, r2⟩ := vals2 r
    cases (show u1 = Value.ref ad from r1)
    cases (show u2 = Value.ref tp from r2)
    obtain ⟨_, its, rv, o, h1, h2, n, h3⟩ := (show ObjOk X.prog X.w H s.heap tp (.tup cs) from I.hok tp _ hT)
    have e3 := ClsV.all k rv
    subst e3
    obtain ⟨oc, od', dt, sl⟩ := o
    simp only at h2 h3
    subst h2 h3
    exact PySem.W.kia_tup Z I.kIn J h1 e (fun z => nomatch z) fun tk => ⟨.bl b, H, I.kept (t' := tk) fun _ _ z => z, rfl, q⟩
theorem look_memK {κ α : Type} [BEq κ] [LawfulBEq κ] {c : κ} {v : α} : ∀ {tab : List (κ × α)}, tab.lookup c = some v → (c, v) ∈ tab
  | [], h => by cases h
  | (d, u) :: tab, h => by
    rw [List.lookup_cons] at h
    cases q : c == d with
    | true => rw [q] at h; cases h; rw [beq_iff_eq.mp q]; exact List.mem_cons_self
    | false => rw [q] at h; exact List.mem_cons_of_mem _ (look_memK h)
theorem isK_ok {tab : IsT} {c : Nat} {d : D} {b : Bool} {v : V} (hT : IsOk X.K W.cls tab) (hv : VB W F H v d) (e : isK tab c d = some b) : ∃ cv, ClsV v cv ∧ PySem.W.kitOne X.K (.ref (W.cls c)) cv = some b := by
  cases d with
  | cl n =>
    have e' : tab.lookup (c, Kk.c n) = some b := e
    exact ⟨.ref (W.cls n), by rw [hv.cl]; exact .own _, hT _ (look_memK e')⟩
  | ty s =>
    have e' : tab.lookup (c, Kk.t s) = some b := e
    exact ⟨.type s, by rw [hv.ty]; exact .ty s, hT _ (look_memK e')⟩
  | _ => cases e
theorem isAny_ok {tab : IsT} {c : Nat} (hT : IsOk X.K W.cls tab) : ∀ {ds : List D} {vs : List V} {b : Bool}, DL W F vs ds → isAny tab c ds = some b → ∃ us, Paired ClsV vs us ∧ PySem.W.kitAny X.K (.ref (W.cls c)) us = some b := by
  intro ds
  induction ds with
  | nil =>
    intro vs b l e
    cases l.inv_nil
    cases e
    exact ⟨[], .nil, rfl⟩
  | cons d ds ih =>
    intro vs b l e
    obtain ⟨v, r, rfl, hd, hr⟩ := l.inv_cons
    unfold isAny at e
    cases q : isK tab c d with
    | none => simp only [q] at e; cases e
    | some k =>
      cases q2 : isAny tab c ds with
      | none => simp only [q, q2] at e; cases e
      | some b' =>
        simp only [q, q2] at e
        cases e
        obtain ⟨cv, h1, h2⟩ := isK_ok (F := F) (H := F) hT (.inl hd) q
        obtain ⟨us, h3, h4⟩ := ih hr q2
        refine ⟨cv :: us, .cons h1 h3, ?_⟩
        show (match PySem.W.kitOne X.K (.ref (W.cls c)) cv with | some true => some true | some false => PySem.W.kitAny X.K (.ref (W.cls c)) us | none => none) = some (k || b')
        rw [h2]
        cases k with
        | true => rfl
        | false => exact h4
theorem s_isX {tab : IsT} {ad dd : Addr} {c : Nat} {K : PySem.W.Frag} (hK : K = X.K) (hT : IsOk X.K W.cls tab) : CallS W (rIsX K (W.cls c) ad dd) (gIsX tab ad dd c) := by
  subst hK
  intro F H xs ds r Q hs hv e q
  unfold gIsX at e
  match ds, e with
  | [.exn a' dd' c' fs, d], e =>
    by_cases hh : a' = ad ∧ dd' = dd ∧ c' = c
    · simp only [if_pos hh] at e
      obtain ⟨rfl, rfl, rfl⟩ := hh
      obtain ⟨v, w, rfl, vb, wb⟩ := vbs2 hv
      have vd : Dat W F v (.exn a' dd' c' fs) := by
        rcases vb with h | ⟨a, rfl, t, _⟩
        · exact h
        · exact t.elim
      cases vd with
      | exn h3 k3 c3 =>
        refine ⟨⟨_, hs _ _ h3⟩, ?_⟩
        have one : ∀ {b : Bool}, isK tab c' d = some b → r = .sh (.bl b) → (∃ (c : V) (cv : Value) (b : Bool), [V.ref a', w] = [.ref a', c] ∧ ClsV c cv ∧ PySem.W.kitOne X.K (.ref (W.cls c')) cv = some b ∧ Q (.bl b) H) := by
          intro b hk hr
          subst hr
          obtain ⟨cv, h1, h2⟩ := isK_ok hT wb hk
          exact ⟨w, cv, b, rfl, h1, h2, res_sh hs q (Dat.bl _)⟩
        cases d with
        | tup ds =>
          simp only at e
          cases hk : isAny tab c' ds with
          | none => simp only [hk] at e; cases e
          | some b =>
            simp only [hk] at e
            cases e
            obtain ⟨tp, vs, rfl, hT', l⟩ := wb.tup hs
            obtain ⟨us, h1, h2⟩ := isAny_ok hT l hk
            exact .inr ⟨tp, vs, us, b, rfl, hT', h1, h2, res_sh hs q (Dat.bl _)⟩
        | cl n =>
          simp only at e
          cases hk : isK tab c' (.cl n) with
          | none => simp only [hk] at e; cases e
          | some b => simp only [hk] at e; exact .inl (one hk (Option.some.inj e).symm)
        | ty n =>
          simp only at e
          cases hk : isK tab c' (.ty n) with
          | none => simp only [hk] at e; cases e
          | some b => simp only [hk] at e; exact .inl (one hk (Option.some.inj e).symm)
        | _ => cases e
    · simp only [if_neg hh] at e; cases e
end
end Fw
set_option Elab.async false
set_option linter.all false
set_option maxRecDepth 100000
namespace Fw
open PySem PySem.Spec PyProof.Rows L2
/-! ### small things for the ends -/
theorem dat_rotS {W : Wc} {F : Hp} {a : Addr} {ns : List Str} (h : SqT W.K F a (ns.map V.str)) : Dat W F (.ref a) (.rot (ns.map D.str)) :=
  .rot h (DL.of_strs (W := W) (F := F) ns).1 (DL.of_strs (W := W) (F := F) ns).2
theorem dat_rot0 {W : Wc} {F : Hp} {a : Addr} {o : Option Addr} {n : Nat} {sl : Array (Option Value)} (h : W.K.lookup a = some ⟨.type "tuple", o, .seq #[] n, sl⟩) : Dat W F (.ref a) (.rot []) :=
  .rot (vs := []) (.inr ⟨_, _, _, h, rfl, rfl, Nat.zero_le _, .nil⟩) rfl fun i v d e => by cases e
theorem paired_get {vs : List V} {us : List Value} (r : Vals vs us) (i : Nat) : (∃ v u, vs[i]? = some v ∧ us[i]? = some u ∧ RelV v u) ∨ (vs[i]? = none ∧ us[i]? = none) := by
  induction r generalizing i with
  | nil => exact .inr ⟨by simp, by simp⟩
  | cons h t ih => cases i with
    | zero => exact .inl ⟨_, _, rfl, rfl, h⟩
    | succ i => exact ih i
theorem pick_vals : ∀ (is : List Nat) {vs : List V} {us : List Value}, Vals vs us → Vals (pickL is vs) (pickL is us)
  | [], _, _, _ => .nil
  | i :: is, vs, us, r => by
    unfold pickL
    rcases paired_get r i with ⟨v, u, h1, h2, h3⟩ | ⟨h1, h2⟩
    · rw [h1, h2]; exact .cons h3 (pick_vals is r)
    · rw [h1, h2]; exact pick_vals is r
theorem take_vals : ∀ (n : Nat) {vs : List V} {us : List Value}, Vals vs us → Vals (vs.take n) (us.take n)
  | 0, _, _, _ => by simp only [List.take_zero]; exact .nil
  | n + 1, _, _, .nil => by simp only [List.take_nil]; exact .nil
  | n + 1, _, _, .cons h t => .cons h (take_vals n t)
theorem perm_vals (n : Nat) (is : List Nat) {vs : List V} {us : List Value} (r : Vals vs us) : Vals (permA n is vs) (permA n is us) := by
  unfold permA
  exact (take_vals n r).append (pick_vals is (r.drop n))
/-! s.find(t) -/
def gFind : D → List D → Option ER
  | .str a, [.str b] => some (.sh (.int (Txt.find a b)))
  | _, _ => none
theorem s_find {W : Wc} : MetS W (fun x xs H Q => ∃ a b, x = .str a ∧ xs = [.str b] ∧ Q (.int (Txt.find a b)) H) gFind := by
  intro F H x xs dx ds r Q hs hx hv e q
  match dx, ds, e with
  | .str a, [.str b], e =>
    cases e
    obtain ⟨v, rfl, vb⟩ := vbs1 hv
    exact ⟨a, b, hx.str, by rw [vb.str], res_sh hs q (Dat.int _)⟩
/-! isinstance of classes of the program -/
theorem kit_ref {K : PySem.W.Frag} {C Dc : Addr} {b : Bool} (h : PySem.W.subIn K (.ref C) (.ref Dc) = some b) (hs : PySem.W.subIn K (.ref C) (.ref C) = some true) (hd : PySem.W.hasDictIn K Dc = true) (ht : PySem.W.typeIn K (.ref Dc) = some (.type "type")) :
    PySem.W.kitOne K (.ref C) (.ref Dc) = some b := by
  obtain ⟨cd, hc, _⟩ := PySem.W.any_some hd
  unfold PySem.W.kitOne
  by_cases e : C = Dc
  · subst e
    rw [h] at hs
    rw [if_pos (by simp)]
    exact hs.symm
  · rw [if_neg (by simpa using e)]
    have e2 : ((PySem.W.clsIn K Dc).isSome && PySem.W.typeIn K (.ref Dc) == some (.type "type")) = true := by rw [hc, ht] <;> rfl
    show (if ((PySem.W.clsIn K Dc).isSome && PySem.W.typeIn K (.ref Dc) == some (.type "type")) = true then PySem.W.subIn K (.ref C) (.ref Dc) else none) = some b
    rw [if_pos e2]; exact h
theorem kit_bty {K : PySem.W.Frag} {C : Addr} {T : String} {b : Bool} (h : PySem.W.subIn K (.ref C) (.type T) = some b) (hm : PySem.W.kitMeta T = true := by decide +kernel) : PySem.W.kitOne K (.ref C) (.type T) = some b := by
  unfold PySem.W.kitOne
  rw [if_neg (by simp)]
  show (if PySem.W.kitMeta T = true then PySem.W.subIn K (.ref C) (.type T) else none) = some b
  rw [if_pos hm]; exact h
/-! isinstance(x, C), x an instance or a plain value, C a class of the program -/
abbrev IsiT := List ((Kk × Nat) × Bool)
structure InsC (K : PySem.W.Frag) (C : Addr) : Prop where
  c : Cls K C
  ha : PySem.W.findIn K (.ref C) "__class__" = some (some (.builtin "object.__class__"))
  hn : PySem.W.specialIn K (.builtin "object.__class__") "__get__" = some (some (.builtin "getset_descriptor.__get__"))
  ht : PySem.W.takesIn K (.builtin "object.__class__") = some true
  hm : PySem.W.mroIn K C (.type "object") = some true
def IsiOk (K : PySem.W.Frag) (cls : Nat → Addr) (tab : IsiT) : Prop := ∀ q ∈ tab, PySem.W.kitOne K (keyV cls q.1.1) (.ref (cls q.1.2)) = some q.2 ∧ (∀ c, q.1.1 = .c c → InsC K (cls c))
def keyD : D → Option Kk
  | .ins c _ => some (.c c)
  | .non => some (.t "NoneType")
  | .bl _ => some (.t "bool")
  | .int _ => some (.t "int")
  | .str _ => some (.t "str")
  | .tup _ => some (.t "tuple")
  | .lst _ => some (.t "list")
  | _ => none
def gIsiC (tab : IsiT) : List D → Option ER
  | [d, .cl n] => match keyD d with
    | some k => (match tab.lookup (k, n) with | some b => some (.sh (.bl b)) | none => none)
    | none => none
  | _ => none
theorem s_isiC {W : Wc} {tab : IsiT} (hT : IsiOk W.K W.cls tab) : CallS W (rIsi W.K) (gIsiC tab) := by
  intro F H xs ds r Q hs hv e q
  match ds, e with
  | [d, .cl n], e =>
    have e' : (match keyD d with
      | some k => (match tab.lookup (k, n) with | some b => some (ER.sh (.bl b)) | none => none)
      | none => none) = some r := e
    cases hk : keyD d with
    | none => simp only [hk] at e'; cases e'
    | some k =>
      simp only [hk] at e'
      cases hl : tab.lookup (k, n) with
      | none => simp only [hl] at e'; cases e'
      | some b =>
        simp only [hl] at e'
        cases e'
        obtain ⟨v, w, rfl, vb, wb⟩ := vbs2 hv
        obtain ⟨h1, h2⟩ := hT _ (look_memK hl)
        have h1' : PySem.W.kitOne W.K (keyV W.cls k) (.ref (W.cls n)) = some b := h1
        have ty : TyX W.K H v (keyV W.cls k) := by
          cases d with
          | ins c fs =>
            cases hk
            obtain ⟨a, dx, fs', rfl, hH, dp⟩ := vb.ins hs
            have I := h2 c rfl
            exact .base (.ins hH I.c I.ha I.hn I.ht I.hm)
          | non => cases hk; rw [vb.non]; exact .base .non
          | bl b => cases hk; rw [vb.bl]; exact .base (.bl b)
          | int b => cases hk; rw [vb.int]; exact .base (.int b)
          | str b => cases hk; rw [vb.str]; exact .base (.str b)
          | tup ds => cases hk; obtain ⟨a, vs, rfl, hH, _⟩ := vb.tup hs; exact .base (.tup hH)
          | lst ds => cases hk; obtain ⟨a, vs, rfl, hH, _⟩ := vb.lst hs; exact .base (.lst hH)
          | _ => cases hk
        exact ⟨v, w, _, .ref (W.cls n), b, rfl, by rw [wb.cl]; exact .own _, ty, h1', res_sh hs q (Dat.bl _)⟩
theorem kit_tref {K : PySem.W.Frag} {T : String} {Dc : Addr} {b : Bool} (h : PySem.W.subIn K (.type T) (.ref Dc) = some b) (hd : PySem.W.hasDictIn K Dc = true) (ht : PySem.W.typeIn K (.ref Dc) = some (.type "type")) : PySem.W.kitOne K (.type T) (.ref Dc) = some b := by
  obtain ⟨cd, hc, _⟩ := PySem.W.any_some hd
  unfold PySem.W.kitOne
  rw [if_neg (by simp)]
  have e2 : ((PySem.W.clsIn K Dc).isSome && PySem.W.typeIn K (.ref Dc) == some (.type "type")) = true := by rw [hc, ht] <;> rfl
  show (if ((PySem.W.clsIn K Dc).isSome && PySem.W.typeIn K (.ref Dc) == some (.type "type")) = true then PySem.W.subIn K (.type T) (.ref Dc) else none) = some b
  rw [if_pos e2]; exact h
end Fw
set_option Elab.async false
set_option linter.all false
set_option maxRecDepth 100000
namespace Fw
open PySem PySem.Spec PyProof.Rows L2
section
variable {en en1 : En} {fa fo : M ER} {fs : List (M ER)} {d : D} {ds : List D} {m : FM} {io : List Bool} {n c : Nat} {is : List Nat} {dds : List D} {args : List Sl} {α : Type} {x : α} {l : List α}
theorem eFK_ap : eFK io n is m dds fs = eF io (permM n is m) dds fs := rfl
theorem permA_def : permA n is l = l.take n ++ pickL is (l.drop n) := rfl
theorem permM_cons {a : Sl} {as : List Sl} : permM n is m (a :: as) = (if (decide (n ≤ (a :: as).length) && (((a :: as).drop n).all noT && inB is ((a :: as).drop n).length)) = true then m ((a :: as).take n ++ pickL is ((a :: as).drop n)) else .bad) := rfl
theorem pick_nil : pickL [] l = [] := rfl
theorem pick_cons {i : Nat} : pickL (i :: is) l = (match l[i]? with
    | some x => x :: pickL is l
    | none => pickL is l) := rfl
theorem noT_sh : noT (.sh d) = true := rfl
theorem noT_pn : noT (.pn false d) = true := rfl
theorem inB_def {k : Nat} : inB is k = is.all fun i => decide (i < k) := rfl
theorem eMeth_ap {nm : Str} {tab : List (Nat × FM × List D)} : eMeth nm io tab fo fs en = (fo en).bind fun r0 en1 => (match (cur en1 r0).bind (insOk nm) with
  | some c => (match tab.lookup c with
    | some (m, dds) => (eA fs en1).bind fun rs en2 => callM io m dds (r0 :: rs) en2
    | none => .bad)
  | none => .bad) := rfl
theorem eMk_ap : eMk c n is m dds fs en = (eA fs en).bind fun rs en1 => popN c en1.length (callM [true] (permM (n + 1) is m) dds (.bo en1.length :: rs) (en1 ++ [.ow (.ins c [])])) := rfl
theorem popN_ok : popN c n (.ok (.sh .non) en) = (match en[n]? with
    | some (.ow (.ins c' fs)) => if c' = c then .ok (.fr (.ins c fs)) en.dropLast else .bad
    | _ => .bad) := rfl
theorem popN_exc {x : Nat} {fs : List (Str × D)} : popN c n (.exc x fs en) = .exc x fs en.dropLast := rfl
theorem sRaise_ap {fl : List Str} : sRaise c fl fs en = (eA fs en).then fun rs en1 => (match shrs rs en1 with
  | some (ds, en2) => if ds.length = fl.length ∧ (fl.length = 1 ∨ fl.length = 2) then .exc c (flds fl ds) en2 else .bad
  | none => .bad) := rfl
theorem sTry_ap {i : Nat} {all cs : List Nat} {fb : SM} {fsu : Addr → Addr → Nat → SM} : sTry i all cs fb fsu en = (match fb en with
  | .exc c fs en1 => catchO i all cs fsu c fs en1
  | .nx en => .nx en
  | .rt r en => .rt r en
  | .bk en => .bk en
  | .ct en => .ct en
  | .bad => .bad) := rfl
theorem eXf_ap {a dd : Addr} {f : Str} : eXf a dd c f fa en = (fa en).bind fun r en1 => lookX a dd c f en1 r := rfl
theorem lookX_ap {a dd : Addr} {f : Str} {fs : List (Str × D)} : lookX a dd c f en (.sh (.exn a dd c fs)) = (match fs.lookup f with | some d => .ok (.sh d) en | none => .bad) := if_pos ⟨rfl, rfl, rfl⟩
theorem endS_nx {i : Nat} : endS i (.nx en) = .nx (en.set i .un) := rfl
theorem endS_rt {i : Nat} {r : ER} : endS i (.rt r en) = .rt r (en.set i .un) := rfl
theorem isX_ty {tab : IsT} {a dd : Addr} {fs : List (Str × D)} {t : String} : gIsX tab a dd c [.exn a dd c fs, .ty t] = (match isK tab c (.ty t) with | some b => some (.sh (.bl b)) | none => none) := if_pos ⟨rfl, rfl, rfl⟩
theorem isX_cl {tab : IsT} {a dd : Addr} {fs : List (Str × D)} {t : Nat} : gIsX tab a dd c [.exn a dd c fs, .cl t] = (match isK tab c (.cl t) with | some b => some (.sh (.bl b)) | none => none) := if_pos ⟨rfl, rfl, rfl⟩
theorem isX_tup {tab : IsT} {a dd : Addr} {fs : List (Str × D)} : gIsX tab a dd c [.exn a dd c fs, .tup ds] = (match isAny tab c ds with | some b => some (.sh (.bl b)) | none => none) := if_pos ⟨rfl, rfl, rfl⟩
theorem then_exc {β : Type} {fs : List (Str × D)} {k : β → En → O} : (R.exc c fs en : R En β).then k = .exc c fs en := rfl
/-- a try whose suite ends alike wherever the exception lies -/
theorem catch_eq {i : Nat} {all cs : List Nat} {fsu : Addr → Addr → Nat → SM} {fs : List (Str × D)} {o : O} (h1 : all.contains c = true) (h2 : cs.contains c = true) (h3 : okSl en i = true)
    (h : ∀ a dd, endS i (fsu a dd c (en.set i (.sh (.exn a dd c fs)))) = o) : catchO i all cs fsu c fs en = o := by
  unfold catchO
  rw [if_pos h1, if_pos h2, if_pos h3]
  exact pickO_eq h
theorem lc_nil {c : Option (Nat × Sl)} {own : List Nat} {g : GM} {tt : M Bool} {elt : M ER} : lcLoop c own g tt elt [] en = some ([], en) := rfl
theorem lc_consN {own : List Nat} {g : GM} {tt : M Bool} {elt : M ER} : lcLoop none own g tt elt (d :: ds) en = (match g d en with
    | none => none
    | some en1 => match tt en1 with
      | .ok true en2 => (match elt en2 with
        | .ok r en3 => (match shr en3 r with
          | some (x, en4) => (match lcLoop none own g tt elt ds (wipeE en4 own) with
            | some (xs, en5) => some (x :: xs, en5)
            | none => none)
          | none => none)
        | _ => none)
      | .ok false en2 => lcLoop none own g tt elt ds (wipeE en2 own)
      | _ => none) := rfl
theorem rng1_1 : rng1 [.int 1] = some [.int 0] := rfl
theorem rng1_2 : rng1 [.int 2] = some [.int 0, .int 1] := rfl
theorem rng1_3 : rng1 [.int 3] = some [.int 0, .int 1, .int 2] := rfl
theorem rng1_4 : rng1 [.int 4] = some [.int 0, .int 1, .int 2, .int 3] := rfl
theorem rng1_5 : rng1 [.int 5] = some [.int 0, .int 1, .int 2, .int 3, .int 4] := rfl
theorem rng1_6 : rng1 [.int 6] = some [.int 0, .int 1, .int 2, .int 3, .int 4, .int 5] := rfl
theorem rng1_7 : rng1 [.int 7] = some [.int 0, .int 1, .int 2, .int 3, .int 4, .int 5, .int 6] := rfl
theorem rng1_8 : rng1 [.int 8] = some [.int 0, .int 1, .int 2, .int 3, .int 4, .int 5, .int 6, .int 7] := rfl
theorem rng1_9 : rng1 [.int 9] = some [.int 0, .int 1, .int 2, .int 3, .int 4, .int 5, .int 6, .int 7, .int 8] := rfl
theorem rng1_10 : rng1 [.int 10] = some [.int 0, .int 1, .int 2, .int 3, .int 4, .int 5, .int 6, .int 7, .int 8, .int 9] := rfl
theorem rng1_11 : rng1 [.int 11] = some [.int 0, .int 1, .int 2, .int 3, .int 4, .int 5, .int 6, .int 7, .int 8, .int 9, .int 10] := rfl
theorem rng1_12 : rng1 [.int 12] = some [.int 0, .int 1, .int 2, .int 3, .int 4, .int 5, .int 6, .int 7, .int 8, .int 9, .int 10, .int 11] := rfl
theorem rng2_3_8 : rng2 [.int 3, .int 8] = some [.int 3, .int 4, .int 5, .int 6, .int 7] := rfl
theorem rng2_3_6 : rng2 [.int 3, .int 6] = some [.int 3, .int 4, .int 5] := rfl
theorem rng2_1_3 : rng2 [.int 1, .int 3] = some [.int 1, .int 2] := rfl
theorem rng2_1_4 : rng2 [.int 1, .int 4] = some [.int 1, .int 2, .int 3] := rfl
theorem rng2_2_5 : rng2 [.int 2, .int 5] = some [.int 2, .int 3, .int 4] := rfl
end
end Fw
set_option Elab.async false
set_option linter.all false
set_option maxRecDepth 100000
namespace Fw
open PySem PySem.Spec PyProof.Rows L2
/-! ### dicts -/
def valD (kvs : List (Key × D)) (k : Key) : Option D := (kvs.find? fun kv => decide (kv.1 = k)).map (·.2)
def putDk (kvs : List (Key × D)) (k : Key) (v : D) : List (Key × D) :=
  if (kvs.any fun kv => decide (kv.1 = k)) = true then kvs.map (fun kv => if kv.1 = k then (kv.1, v) else kv) else kvs ++ [(k, v)]
def keyOf : D → Option Key
  | .int i => some (.inl i)
  | .str s => some (.inr s)
  | _ => none
def dInK (y x : D) : Option ER := match x, keyOf y with
  | .dk kvs, some k => some (.sh (.bl (valD kvs k).isSome))
  | _, _ => none
def dInN (y x : D) : Option ER := match x with
  | .dk _ => none
  | _ => dIn y x
/-- y in x: a dict, or a sequence or a text -/
def dIn2 (y x : D) : Option ER := match x with
  | .dk _ => dInK y x
  | _ => dIn y x
def dNInK (y x : D) : Option ER := match x, keyOf y with
  | .dk kvs, some k => some (.sh (.bl (!(valD kvs k).isSome)))
  | _, _ => none
def dNInN (y x : D) : Option ER := match x with
  | .dk _ => none
  | _ => dNotIn y x
def dNotIn2 (y x : D) : Option ER := match x with
  | .dk _ => dNInK y x
  | _ => dNotIn y x
def dIxK (x y : D) : Option ER := match x, keyOf y with
  | .dk kvs, some k => (match valD kvs k with | some d => some (.sh d) | none => none)
  | _, _ => none
def dIx2 (x y : D) : Option ER := match x with
  | .dk _ => dIxK x y
  | _ => dIx x y
def gSetK : D → D → D → Option D
  | .dk kvs, k, v => match keyOf k with
    | some k => if kvs.length < 1000000 then some (.dk (putDk kvs k v)) else none
    | none => none
  | _, _, _ => none
def getK (en : En) (ro rk : ER) (k : Option D → R En ER) : R En ER := match cur en ro, (cur en rk).bind keyOf with
  | some (.dk kvs), some key => k (valD kvs key)
  | _, _ => .bad
def dkAt (en : En) (r : ER) : Bool := match cur en r with
  | some (.dk _) => true
  | _ => false
/-- d.get(k), d.get(k, x) -/
def eGet1 (fo fk : M ER) : M ER := fun en => (fo en).bind fun ro en1 => if dkAt en1 ro = true then (fk en1).bind fun rk en2 => getK en2 ro rk fun o => .ok (.sh (o.getD .non)) en2 else .bad
def shOf : ER → Option D
  | .sh d => some d
  | _ => none
def eGet2 (fo fk fx : M ER) : M ER := fun en => (fo en).bind fun ro en1 => if dkAt en1 ro = true then (fk en1).bind fun rk en2 => (fx en2).bind fun rx en3 => match shOf rx with
  | some dx => getK en3 ro rk fun o => .ok (.sh (o.getD dx)) en3
  | none => .bad else .bad
section
variable {W : Wc} {E : St → XK} {X : Cx} {a b c o e f : Expr} {fa fb fc fo fk fx f1 f2 : M ER} {pos apos cpos : Pos} {G : Gc} {en en' : En} {σ : St} {F H F' H' : Hp}
theorem dpk_cons {κ : Type} {g g' : κ} {v : V} {d : D} {r : List (κ × V)} {r' : List (κ × D)} : DP W F ((g, v) :: r) ((g', d) :: r') ↔ g = g' ∧ Dat W F v d ∧ DP W F r r' := by
  constructor
  · rintro ⟨h1, h2⟩
    simp only [List.map_cons, List.cons.injEq] at h1
    exact ⟨h1.1, h2 0 _ _ rfl rfl, h1.2, fun i v d e1 e2 => h2 (i + 1) v d e1 e2⟩
  · rintro ⟨rfl, h2, h3, h4⟩
    refine ⟨by simp only [List.map_cons, h3], fun i v d e1 e2 => ?_⟩
    cases i with
    | zero => cases e1; cases e2; exact h2
    | succ i => exact h4 i v d e1 e2
theorem dpk_nil {κ : Type} : DP W F ([] : List (κ × V)) ([] : List (κ × D)) := ⟨rfl, fun i v d h => by simp at h⟩
theorem dpk_val {k : Key} : ∀ {kvs' : List (Key × V)} {kvs : List (Key × D)}, DP W F kvs' kvs → (valD kvs k = none → valV kvs' k = none) ∧ ∀ d, valD kvs k = some d → ∃ v, valV kvs' k = some v ∧ Dat W F v d
  | [], [], _ => ⟨fun _ => rfl, fun d h => by cases h⟩
  | [], _ :: _, h => by have := h.1; simp at this
  | _ :: _, [], h => by have := h.1; simp at this
  | (g, x) :: r, (g', x') :: r', h => by
    obtain ⟨rfl, h2, h3⟩ := dpk_cons.mp h
    have ih := dpk_val (k := k) h3
    by_cases q : g = k
    · have e1 : valD ((g, x') :: r') k = some x' := by simp [valD, List.find?_cons, q]
      have e2 : valV ((g, x) :: r) k = some x := valV_pos q
      rw [e1, e2]
      exact ⟨fun z => (by cases z), fun d z => (by cases z; exact ⟨x, rfl, h2⟩)⟩
    · have e1 : valD ((g, x') :: r') k = valD r' k := by simp [valD, List.find?_cons, q]
      have e2 : valV ((g, x) :: r) k = valV r k := valV_neg q
      rw [e1, e2]; exact ih
theorem dpk_any {k : Key} : ∀ {kvs' : List (Key × V)} {kvs : List (Key × D)}, DP W F kvs' kvs → (kvs'.any fun kv => decide (kv.1 = k)) = (kvs.any fun kv => decide (kv.1 = k))
  | [], [], _ => rfl
  | [], _ :: _, h => by have := h.1; simp at this
  | _ :: _, [], h => by have := h.1; simp at this
  | (g, x) :: r, (g', x') :: r', h => by
    obtain ⟨rfl, h2, h3⟩ := dpk_cons.mp h
    rw [List.any_cons, List.any_cons, dpk_any h3]
theorem dpk_map {k : Key} {v : V} {d : D} (hd : Dat W F v d) : ∀ {kvs' : List (Key × V)} {kvs : List (Key × D)}, DP W F kvs' kvs → DP W F (kvs'.map fun kv => if kv.1 = k then (kv.1, v) else kv) (kvs.map fun kv => if kv.1 = k then (kv.1, d) else kv)
  | [], [], _ => dpk_nil
  | [], _ :: _, h => by have := h.1; simp at this
  | _ :: _, [], h => by have := h.1; simp at this
  | (g, x) :: r, (g', x') :: r', h => by
    obtain ⟨rfl, h2, h3⟩ := dpk_cons.mp h
    rw [List.map_cons, List.map_cons]
    by_cases q : g = k
    · rw [if_pos q, if_pos q]; exact dpk_cons.mpr ⟨rfl, hd, dpk_map hd h3⟩
    · rw [if_neg q, if_neg q]; exact dpk_cons.mpr ⟨rfl, h2, dpk_map hd h3⟩
theorem dpk_app {k : Key} {v : V} {d : D} (hd : Dat W F v d) : ∀ {kvs' : List (Key × V)} {kvs : List (Key × D)}, DP W F kvs' kvs → DP W F (kvs' ++ [(k, v)]) (kvs ++ [(k, d)])
  | [], [], _ => dpk_cons.mpr ⟨rfl, hd, dpk_nil⟩
  | [], _ :: _, h => by have := h.1; simp at this
  | _ :: _, [], h => by have := h.1; simp at this
  | (g, x) :: r, (g', x') :: r', h => by
    obtain ⟨rfl, h2, h3⟩ := dpk_cons.mp h
    exact dpk_cons.mpr ⟨rfl, h2, dpk_app hd h3⟩
theorem dpk_put {k : Key} {v : V} {d : D} {kvs' : List (Key × V)} {kvs : List (Key × D)} (hd : Dat W F v d) (h : DP W F kvs' kvs) : DP W F (putK kvs' k v) (putDk kvs k d) := by
  unfold putK putDk
  rw [dpk_any h]
  split
  · exact dpk_map hd h
  · exact dpk_app hd h
theorem dpk_len {kvs' : List (Key × V)} {kvs : List (Key × D)} (h : DP W F kvs' kvs) : kvs'.length = kvs.length := by
  have := congrArg List.length h.1
  simpa using this
theorem key_ok {y : V} {d : D} {k : Key} (h : VB W F H y d) (e : keyOf d = some k) : y = kV k := by
  cases d with
  | int i => cases e; exact h.int
  | str s => cases e; exact h.str
  | _ => cases e
theorem dget_of {a : Addr} {y : V} {dk : D} {k : Key} {kvs' : List (Key × V)} (h : H a = some (.dK kvs')) (hy : VB W F H y dk) (e : keyOf dk = some k) : DGet H a y (valV kvs' k) := by
  rw [key_ok hy e]; exact DGet.k h
/-! two readings of one expression -/
theorem PE.or2 {t u : TE} (h1 : PE X e t) (h2 : PE X e u) : PE X e (fun σ H Q => t σ H Q ∨ u σ H Q) := ⟨fun pins s σ H Q I w => w.elim (h1.run pins s σ H Q I) (h2.run pins s σ H Q I)⟩
theorem PT.or2 {t u : TT} (h1 : PT X e t) (h2 : PT X e u) : PT X e (fun σ H Q => t σ H Q ∨ u σ H Q) := ⟨fun pins s σ H Q I w => w.elim (h1.run pins s σ H Q I) (h2.run pins s σ H Q I)⟩
theorem ev_two {g : M ER} (h1 : EV W E X e f1) (h2 : EV W E X e f2) (h : ∀ en, g en = f1 en ∨ g en = f2 en) : EV W E X e g := by
  refine PE.imp (PE.or2 h1 h2) fun σ H Q hq => ?_
  obtain ⟨G, F, en, R, hg⟩ := hq
  rcases h en with q | q
  · exact .inl ⟨G, F, en, R, by rw [q] at hg; exact hg⟩
  · exact .inr ⟨G, F, en, R, by rw [q] at hg; exact hg⟩
theorem bv_two {g g1 g2 : M Bool} (h1 : BV W E X e g1) (h2 : BV W E X e g2) (h : ∀ en, g en = g1 en ∨ g en = g2 en) : BV W E X e g := by
  refine PT.imp (PT.or2 h1 h2) fun σ H Q hq => ?_
  obtain ⟨G, F, en, R, hg⟩ := hq
  rcases h en with q | q
  · exact .inl ⟨G, F, en, R, by rw [q] at hg; exact hg⟩
  · exact .inr ⟨G, F, en, R, by rw [q] at hg; exact hg⟩
theorem e2_split {g g1 g2 : D → D → Option ER} (h : ∀ y x, g y x = g1 y x ∨ g y x = g2 y x) (en : En) : e2 g fa fb en = e2 g1 fa fb en ∨ e2 g fa fb en = e2 g2 fa fb en := by
  show ((fa en).bind fun ra en1 => (fb en1).bind fun rb en2 => op2 g en2 ra rb) = ((fa en).bind fun ra en1 => (fb en1).bind fun rb en2 => op2 g1 en2 ra rb) ∨ ((fa en).bind fun ra en1 => (fb en1).bind fun rb en2 => op2 g en2 ra rb) = ((fa en).bind fun ra en1 => (fb en1).bind fun rb en2 => op2 g2 en2 ra rb)
  cases fa en with
  | bad => exact .inl rfl
  | exc c fs s => exact .inl rfl
  | ok ra en1 =>
    simp only [Fw.R.bind_ok]
    cases fb en1 with
    | bad => exact .inl rfl
    | exc c fs s => exact .inl rfl
    | ok rb en2 =>
      simp only [Fw.R.bind_ok, op2_ap]
      cases cur en2 ra with
      | none => exact .inl rfl
      | some y => cases cur en2 rb with
        | none => exact .inl rfl
        | some x =>
          rcases h y x with q | q
          · left; simp only [q]
          · right; simp only [q]
theorem mB_split {g1 g2 : M ER} {g : M ER} (h : ∀ en, g en = g1 en ∨ g en = g2 en) (en : En) : mB g en = mB g1 en ∨ mB g en = mB g2 en := by
  show (g en).bind toB = (g1 en).bind toB ∨ (g en).bind toB = (g2 en).bind toB
  rcases h en with q | q
  · left; rw [q]
  · right; rw [q]
theorem in2_split (y x : D) : dIn2 y x = dInN y x ∨ dIn2 y x = dInK y x := by
  cases x <;> first | exact .inr rfl | exact .inl rfl
theorem nin2_split (y x : D) : dNotIn2 y x = dNInN y x ∨ dNotIn2 y x = dNInK y x := by
  cases x <;> first | exact .inr rfl | exact .inl rfl
theorem s_inN : OpS W (rInA W.K) dInN := by
  intro F H x y dx dy r Q hs hx hy e q
  have e' : dIn dx dy = some r := by
    cases dy <;> first | exact e | cases e
  exact s_in F H x y dx dy r Q hs hx hy e' q
theorem s_ninN : OpS W (rNotInA W.K) dNInN := by
  intro F H x y dx dy r Q hs hx hy e q
  have e' : dNotIn dx dy = some r := by
    cases dy <;> first | exact e | cases e
  exact s_notin F H x y dx dy r Q hs hx hy e' q
theorem ix2_split (y x : D) : dIx2 y x = dIx y x ∨ dIx2 y x = dIxK y x := by
  cases y <;> first | exact .inr rfl | exact .inl rfl
/-- the dict's side of a test y in d -/
theorem din_read {neg : Bool} {g : D → D → Option ER} (hg : ∀ y x r, g y x = some r → ∃ kvs k, x = .dk kvs ∧ keyOf y = some k ∧ r = .sh (.bl (neg != (valD kvs k).isSome))) {Q : VK} {ra rb : ER} {y x : V} {A : ER → En → Prop} (R : Rel W G en σ F H) (hy : VW W σ F ra y) (hx : VW W σ F rb x)
    (h : Out W E G σ A (op2 g en ra rb)) (hq : ∀ b : Bool, A (.sh (.bl b)) en → Q (.bl b) H) : ∃ a o, x = .ref a ∧ DGet H a y o ∧ Q (.bl (neg != o.isSome)) H := by
  rw [op2_ap] at h
  cases e1 : cur en ra with
  | none => simp only [e1] at h; exact h.elim
  | some dy => cases e2 : cur en rb with
    | none => simp only [e1, e2] at h; exact h.elim
    | some dx =>
      simp only [e1, e2] at h
      cases e3 : g dy dx with
      | none => simp only [e3] at h; exact h.elim
      | some r =>
        simp only [e3] at h
        obtain ⟨kvs, k, rfl, hk, rfl⟩ := hg _ _ _ e3
        obtain ⟨a, kvs', rfl, hH, dp⟩ := (hx.vb R e2).dk R.sub
        refine ⟨a, _, rfl, dget_of hH (hy.vb R e1) hk, ?_⟩
        have q := dpk_val (k := k) dp
        have : (valV kvs' k).isSome = (valD kvs k).isSome := by
          cases z : valD kvs k with
          | none => rw [q.1 z]; rfl
          | some d => obtain ⟨v, hv, _⟩ := q.2 d z; rw [hv]; rfl
        rw [this]
        exact hq _ h
theorem inK_inv (y x : D) (r : ER) (h : dInK y x = some r) : ∃ kvs k, x = .dk kvs ∧ keyOf y = some k ∧ r = .sh (.bl (false != (valD kvs k).isSome)) := by
  cases x with
  | dk kvs =>
    unfold dInK at h
    cases e : keyOf y with
    | none => simp only [e] at h; cases h
    | some k => simp only [e] at h; cases h; exact ⟨kvs, k, rfl, rfl, by cases (valD kvs k).isSome <;> rfl⟩
  | _ => cases h
theorem ninK_inv (y x : D) (r : ER) (h : dNInK y x = some r) : ∃ kvs k, x = .dk kvs ∧ keyOf y = some k ∧ r = .sh (.bl (true != (valD kvs k).isSome)) := by
  cases x with
  | dk kvs =>
    unfold dNInK at h
    cases e : keyOf y with
    | none => simp only [e] at h; cases h
    | some k => simp only [e] at h; cases h; exact ⟨kvs, k, rfl, rfl, by cases (valD kvs k).isSome <;> rfl⟩
  | _ => cases h
theorem fneq (b : Bool) : (false != b) = b := by cases b <;> rfl
theorem tneq (b : Bool) : (true != b) = !b := by cases b <;> rfl
theorem ev_inK (hu : X.A.units + 1 < cLine) (ha : EV W E X a fa) (hb : EV W E X b fb) (hm : behindInMarks .In b = false := by first | exact nobehind _ (by decide) (by decide) | rfl | with_unfolding_all rfl) : EV W E X (.Compare a [.In] [b] pos) (e2 dInK fa fb) := by
  refine PE.imp (pe_cmp (pc_din hu ha hb) hm) fun σ H Q hq => ?_
  obtain ⟨G, F, en, R, h⟩ := tE.out.mp hq
  refine ev_then R h fun ra en1 y F1 H1 h1 R1 x1 va => ?_
  refine ev_then R1 h1 fun rb en2 x F2 H2 h2 R2 x2 vb => ?_
  have := din_read (Q := Q) inK_inv R2 (va.mono x2) vb h2 fun b A => A (.bl b) F2 H2 R2 (x1.trans x2) (Dat.bl b)
  simpa only [fneq] using this
theorem bv_inK (hu : X.A.units + 1 < cLine) (ha : EV W E X a fa) (hb : EV W E X b fb) (hm : behindInMarks .In b = false := by first | exact nobehind _ (by decide) (by decide) | rfl | with_unfolding_all rfl) : BV W E X (.Compare a [.In] [b] pos) (mB (e2 dInK fa fb)) := by
  refine PT.imp (pt_cmp (pc_din hu ha hb) hm) fun σ H Q hq => ?_
  obtain ⟨G, F, en, R, h⟩ := tT.out.mp hq
  have h' : Out W E G σ (AT W G σ F Q) ((fa en).bind fun ra en1 => (fb en1).bind fun rb en2 => (op2 dInK en2 ra rb).bind toB) := by
    have h0 : Out W E G σ (AT W G σ F Q) (((fa en).bind fun ra en1 => (fb en1).bind fun rb en2 => op2 dInK en2 ra rb).bind toB) := h
    cases e1 : fa en with
    | bad => rw [e1] at h0; exact h0
    | exc c fs s => rw [e1] at h0; exact h0
    | ok r1 s1 =>
      rw [e1] at h0
      simp only [Fw.R.bind_ok] at h0 ⊢
      cases e2 : fb s1 with
      | bad => rw [e2] at h0; exact h0
      | exc c fs s => rw [e2] at h0; exact h0
      | ok r2 s2 => rw [e2] at h0; exact h0
  show tE W E fa σ H fun y H1 => tE W E fb σ H1 fun x H2 => ∃ a o, x = .ref a ∧ DGet H2 a y o ∧ ∃ d, V.bl o.isSome = V.bl d ∧ Q d H2
  refine ev_then R h' fun ra en1 y F1 H1 h1 R1 x1 va => ?_
  refine ev_then R1 h1 fun rb en2 x F2 H2 h2 R2 x2 vb => ?_
  have h3 : Out W E G σ (fun r en' => Out W E G σ (AT W G σ F Q) (toB r en')) (op2 dInK en2 ra rb) := by
    revert h2
    cases op2 dInK en2 ra rb with
    | ok r s => exact fun h => h
    | exc c fs s => exact fun h => h
    | bad => exact fun h => h
  have := din_read (Q := fun v H => ∃ d, v = V.bl d ∧ Q d H) inK_inv R2 (va.mono x2) vb h3 fun b A => ⟨b, rfl, A F2 H2 R2 (x1.trans x2)⟩
  simpa only [fneq] using this
theorem ev_ninK (hu : X.A.units + 1 < cLine) (ha : EV W E X a fa) (hb : EV W E X b fb) (hm : behindInMarks .NotIn b = false := by first | exact nobehind _ (by decide) (by decide) | rfl | with_unfolding_all rfl) : EV W E X (.Compare a [.NotIn] [b] pos) (e2 dNInK fa fb) := by
  refine PE.imp (pe_cmp (pc_dnotin hu ha hb) hm) fun σ H Q hq => ?_
  obtain ⟨G, F, en, R, h⟩ := tE.out.mp hq
  refine ev_then R h fun ra en1 y F1 H1 h1 R1 x1 va => ?_
  refine ev_then R1 h1 fun rb en2 x F2 H2 h2 R2 x2 vb => ?_
  have := din_read (Q := Q) ninK_inv R2 (va.mono x2) vb h2 fun b A => A (.bl b) F2 H2 R2 (x1.trans x2) (Dat.bl b)
  simpa only [tneq] using this
theorem bv_ninK (hu : X.A.units + 1 < cLine) (ha : EV W E X a fa) (hb : EV W E X b fb) (hm : behindInMarks .NotIn b = false := by first | exact nobehind _ (by decide) (by decide) | rfl | with_unfolding_all rfl) : BV W E X (.Compare a [.NotIn] [b] pos) (mB (e2 dNInK fa fb)) := by
  refine PT.imp (pt_cmp (pc_dnotin hu ha hb) hm) fun σ H Q hq => ?_
  obtain ⟨G, F, en, R, h⟩ := tT.out.mp hq
  have h' : Out W E G σ (AT W G σ F Q) ((fa en).bind fun ra en1 => (fb en1).bind fun rb en2 => (op2 dNInK en2 ra rb).bind toB) := by
    have h0 : Out W E G σ (AT W G σ F Q) (((fa en).bind fun ra en1 => (fb en1).bind fun rb en2 => op2 dNInK en2 ra rb).bind toB) := h
    cases e1 : fa en with
    | bad => rw [e1] at h0; exact h0
    | exc c fs s => rw [e1] at h0; exact h0
    | ok r1 s1 =>
      rw [e1] at h0
      simp only [Fw.R.bind_ok] at h0 ⊢
      cases e2 : fb s1 with
      | bad => rw [e2] at h0; exact h0
      | exc c fs s => rw [e2] at h0; exact h0
      | ok r2 s2 => rw [e2] at h0; exact h0
  show tE W E fa σ H fun y H1 => tE W E fb σ H1 fun x H2 => ∃ a o, x = .ref a ∧ DGet H2 a y o ∧ ∃ d, V.bl (!o.isSome) = V.bl d ∧ Q d H2
  refine ev_then R h' fun ra en1 y F1 H1 h1 R1 x1 va => ?_
  refine ev_then R1 h1 fun rb en2 x F2 H2 h2 R2 x2 vb => ?_
  have h3 : Out W E G σ (fun r en' => Out W E G σ (AT W G σ F Q) (toB r en')) (op2 dNInK en2 ra rb) := by
    revert h2
    cases op2 dNInK en2 ra rb with
    | ok r s => exact fun h => h
    | exc c fs s => exact fun h => h
    | bad => exact fun h => h
  have := din_read (Q := fun v H => ∃ d, v = V.bl d ∧ Q d H) ninK_inv R2 (va.mono x2) vb h3 fun b A => ⟨b, rfl, A F2 H2 R2 (x1.trans x2)⟩
  simpa only [tneq] using this
/-- y in x, whatever x is -/
theorem ev_in2 (hu : X.A.units + 1 < cLine) (ho : OpR X (compareOp .In) (rInA W.K)) (ha : EV W E X a fa) (hb : EV W E X b fb) (hm : behindInMarks .In b = false := by first | exact nomark _ | exact nobehind _ (by decide) (by decide) | rfl | with_unfolding_all rfl) : EV W E X (.Compare a [.In] [b] pos) (e2 dIn2 fa fb) :=
  ev_two (ev_cmp ho s_inN ha hb hm) (ev_inK hu ha hb hm) (e2_split in2_split)
theorem bv_in2 (hu : X.A.units + 1 < cLine) (ho : OpR X (compareOp .In) (rInA W.K)) (ha : EV W E X a fa) (hb : EV W E X b fb) (hm : behindInMarks .In b = false := by first | exact nomark _ | exact nobehind _ (by decide) (by decide) | rfl | with_unfolding_all rfl) : BV W E X (.Compare a [.In] [b] pos) (mB (e2 dIn2 fa fb)) :=
  bv_two (bv_cmp ho s_inN ha hb hm) (bv_inK hu ha hb hm) (mB_split (e2_split in2_split))
theorem ev_nin2 (hu : X.A.units + 1 < cLine) (ho : OpR X (compareOp .NotIn) (rNotInA W.K)) (ha : EV W E X a fa) (hb : EV W E X b fb) (hm : behindInMarks .NotIn b = false := by first | exact nomark _ | exact nobehind _ (by decide) (by decide) | rfl | with_unfolding_all rfl) : EV W E X (.Compare a [.NotIn] [b] pos) (e2 dNotIn2 fa fb) :=
  ev_two (ev_cmp ho s_ninN ha hb hm) (ev_ninK hu ha hb hm) (e2_split nin2_split)
theorem bv_nin2 (hu : X.A.units + 1 < cLine) (ho : OpR X (compareOp .NotIn) (rNotInA W.K)) (ha : EV W E X a fa) (hb : EV W E X b fb) (hm : behindInMarks .NotIn b = false := by first | exact nomark _ | exact nobehind _ (by decide) (by decide) | rfl | with_unfolding_all rfl) : BV W E X (.Compare a [.NotIn] [b] pos) (mB (e2 dNotIn2 fa fb)) :=
  bv_two (bv_cmp ho s_ninN ha hb hm) (bv_ninK hu ha hb hm) (mB_split (e2_split nin2_split))
/-- d[k] -/
theorem ev_ixK (hu : X.A.units + 1 < cLine) (ha : EV W E X a fa) (hb : EV W E X b fb) (hs : NoSl b := by exact fun _ _ => rfl) : EV W E X (.Subscript a b pos) (e2 dIxK fa fb) := by
  refine PE.imp (pe_dget hu ha hb hs) fun σ H Q hq => ?_
  obtain ⟨G, F, en, R, h⟩ := tE.out.mp hq
  refine ev_then R h fun ra en1 x F1 H1 h1 R1 x1 va => ?_
  refine ev_then R1 h1 fun rb en2 y F2 H2 h2 R2 x2 vb => ?_
  rw [op2_ap] at h2
  cases e1 : cur en2 ra with
  | none => simp only [e1] at h2; exact h2.elim
  | some dx => cases e2 : cur en2 rb with
    | none => simp only [e1, e2] at h2; exact h2.elim
    | some dy =>
      simp only [e1, e2] at h2
      cases dx with
      | dk kvs =>
        cases hk : keyOf dy with
        | none => simp only [dIxK, hk] at h2; exact h2.elim
        | some k =>
          cases hv : valD kvs k with
          | none => simp only [dIxK, hk, hv] at h2; exact h2.elim
          | some d =>
            simp only [dIxK, hk, hv] at h2
            obtain ⟨ad, kvs', rfl, hH, dp⟩ := ((va.mono x2).vb R2 e1).dk R2.sub
            obtain ⟨v, q1, q2⟩ := (dpk_val (k := k) dp).2 d hv
            have g := dget_of (k := k) hH (vb.vb R2 e2) hk
            rw [q1] at g
            exact ⟨ad, v, rfl, g, h2 v F2 H2 R2 (x1.trans x2) q2⟩
      | _ => simp only [dIxK] at h2; exact h2.elim
theorem ev_ix2 (hu : X.A.units + 1 < cLine) (ho : IxR X (rIx W.K)) (ha : EV W E X a fa) (hb : EV W E X b fb) (hs : NoSl b := by exact fun _ _ => rfl) (hp : PlainIx b := by exact fun _ _ => rfl) : EV W E X (.Subscript a b pos) (e2 dIx2 fa fb) :=
  ev_two (ev_ix ho s_ix ha hb hp) (ev_ixK hu ha hb hs) (e2_split ix2_split)
/-! d.get(k), d.get(k, x) -/
theorem get_read {ro rk : ER} {x y : V} {A : ER → En → Prop} {k : Option D → R En ER} (R : Rel W G en σ F H) (hx : VW W σ F ro x) (hy : VW W σ F rk y) (h : Out W E G σ A (getK en ro rk k)) :
    ∃ a o o', x = .ref a ∧ DGet H a y o ∧ (o' = none → o = none) ∧ (∀ d, o' = some d → ∃ v, o = some v ∧ Dat W F v d) ∧ Out W E G σ A (k o') := by
  unfold getK at h
  cases e1 : cur en ro with
  | none => simp only [e1] at h; exact h.elim
  | some dx =>
    cases e2 : cur en rk with
    | none => simp only [e1, e2, Option.bind_none] at h; cases dx <;> exact h.elim
    | some dy =>
      cases e3 : keyOf dy with
      | none => simp only [e1, e2, e3, Option.bind_some] at h; cases dx <;> exact h.elim
      | some key =>
        cases dx with
        | dk kvs =>
          simp only [e1, e2, e3, Option.bind_some] at h
          obtain ⟨a, kvs', rfl, hH, dp⟩ := (hx.vb R e1).dk R.sub
          have q := dpk_val (k := key) dp
          exact ⟨a, _, valD kvs key, rfl, dget_of hH (hy.vb R e2) e3, q.1, q.2, h⟩
        | _ => simp only [e1, e2, e3, Option.bind_some] at h; exact h.elim
theorem isD_of {ro : ER} {x : V} (R : Rel W G en σ F H) (hx : VW W σ F ro x) (h : dkAt en ro = true) : ∃ a, x = .ref a ∧ IsD H a := by
  unfold dkAt at h
  cases e1 : cur en ro with
  | none => rw [e1] at h; cases h
  | some dx =>
    cases dx with
    | dk kvs =>
      obtain ⟨a, kvs', rfl, hH, dp⟩ := (hx.vb R e1).dk R.sub
      exact ⟨a, rfl, .inl ⟨kvs', .inl hH⟩⟩
    | _ => rw [e1] at h; cases h
theorem ev_get1 (hu : X.A.units + 1 < cLine) (ho : EV W E X o fo) (he : EV W E X e fk) (m : M1 X o "get" apos e cpos := by exact ⟨rfl, rfl, rfl, rfl⟩) : EV W E X (.Call (.Attribute o "get" apos) [e] [] cpos) (eGet1 fo fk) := by
  refine PE.imp (pe_dget1 hu ho he m) fun σ H Q hq => ?_
  obtain ⟨G, F, en, R, h⟩ := tE.out.mp hq
  refine ev_then R h fun ro en1 x F1 H1 h1 R1 x1 va => ?_
  by_cases hd : dkAt en1 ro = true
  · rw [if_pos hd] at h1
    obtain ⟨a, rfl, id⟩ := isD_of R1 va hd
    refine ⟨a, rfl, id, ?_⟩
    refine ev_then R1 h1 fun rk en2 y F2 H2 h2 R2 x2 vb => ?_
    obtain ⟨a', ov, o', ea, g, n1, n2, h3⟩ := get_read R2 (va.mono x2) vb h2
    cases ea
    refine ⟨ov, g, ?_⟩
    cases o' with
    | none => rw [n1 rfl]; exact h3 .non F2 H2 R2 (x1.trans x2) Dat.non
    | some d => obtain ⟨v, rfl, hv⟩ := n2 d rfl; exact h3 v F2 H2 R2 (x1.trans x2) hv
  · rw [if_neg hd] at h1; exact h1.elim
theorem ev_get2 (hu : X.A.units + 1 < cLine) (ho : EV W E X o fo) (he : EV W E X e fk) (hf : EV W E X f fx) (m : M2 X o "get" apos e f cpos := by exact ⟨rfl, rfl, rfl, rfl⟩) : EV W E X (.Call (.Attribute o "get" apos) [e, f] [] cpos) (eGet2 fo fk fx) := by
  refine PE.imp (pe_dget2 hu ho he hf m) fun σ H Q hq => ?_
  obtain ⟨G, F, en, R, h⟩ := tE.out.mp hq
  refine ev_then R h fun ro en1 x F1 H1 h1 R1 x1 va => ?_
  by_cases hd : dkAt en1 ro = true
  · rw [if_pos hd] at h1
    obtain ⟨a, rfl, id⟩ := isD_of R1 va hd
    refine ⟨a, rfl, id, ?_⟩
    refine ev_then R1 h1 fun rk en2 y F2 H2 h2 R2 x2 vb => ?_
    refine ev_then R2 h2 fun rx en3 z F3 H3 h3 R3 x3 vc => ?_
    cases rx with
    | sh dx =>
      simp only [shOf] at h3
      obtain ⟨a', ov, o', ea, g, n1, n2, h4⟩ := get_read R3 ((va.mono x2).mono x3) (vb.mono x3) h3
      cases ea
      refine ⟨ov, g, ?_⟩
      cases o' with
      | none => rw [n1 rfl]; exact h4 z F3 H3 R3 ((x1.trans x2).trans x3) vc
      | some d => obtain ⟨v, rfl, hv⟩ := n2 d rfl; exact h4 v F3 H3 R3 ((x1.trans x2).trans x3) hv
    | fr d => simp only [shOf] at h3; exact h3.elim
    | bo i => simp only [shOf] at h3; exact h3.elim
  · rw [if_neg hd] at h1; exact h1.elim
/-- x[k] = e, x a dict of the def's -/
theorem sv_putK (hu : X.A.units + 1 < cLine) (i : Nat) {x : Str} {p tpos : Pos} {ie : Expr} {fi fe : M ER} (hI : EV W E X ie fi) (hE : EV W E X a fe) (hN : X.N[i]? = some x := by rfl) (hv : Vis X.env.scope x := by first | exact Or.inl rfl | exact Or.inr (Or.inl rfl) | exact Or.inr (Or.inr rfl))
    (hd : (x == ("__debug__" : Str)) = false := by decide) (hcd : (x == ("__classdict__" : Str)) = false := by decide)
    (hs : swapsWith a (some (.Subscript (.Name x p) ie tpos)) pos.line X.env = pure false := by rfl) : SV W E X (.Assign [.Subscript (.Name x p) ie tpos] a pos) (sPut 2 i gSetK fi fe) := by
  refine PS.imp (ps_dput hu (pe_var hN hv hd hcd) hI hE hs) fun D σ H hq => ?_
  obtain ⟨G, F, en, R, h⟩ := tS.out.mp hq
  refine es_then R h fun rv en1 v F1 H1 h1 R1 x1 vr => ?_
  obtain ⟨F2, x2, vw, R2⟩ := vr.vw R1
  cases e1 : shr en1 rv with
  | none => simp only [e1] at h1; exact h1.elim
  | some pr =>
    obtain ⟨dv, en2⟩ := pr
    simp only [e1] at h1
    obtain ⟨F3, x3, hdv, R3⟩ := shr_ok vw R2 e1
    have go : SOut W E G D (sPut.putAt 2 i gSetK fi dv en2) ∧ ∃ ad, σ[i]? = some (some (.ref ad)) := by
      cases e2 : en2[i]? with
      | none => simp only [e2] at h1; exact h1.elim
      | some s =>
        have hs := R3.slot i s e2
        cases s with
        | ow d => simp only [e2] at h1; exact ⟨h1, let ⟨ad, k, _⟩ := hs; ⟨ad, k⟩⟩
        | pn m d => simp only [e2] at h1; exact ⟨h1, let ⟨ad, k, _⟩ := hs; ⟨ad, k⟩⟩
        | _ => simp only [e2] at h1; exact h1.elim
    obtain ⟨h2, ad, ha'⟩ := go
    refine ⟨_, ha', ?_⟩
    refine es_then R3 h2 fun ri en3 w F4 H4 h3 R4 x4 wr => ?_
    obtain ⟨F5, x5, ww, R5⟩ := wr.vw R4
    cases e3 : shr en3 ri with
    | none => simp only [e3] at h3; exact h3.elim
    | some pr2 =>
      obtain ⟨di, en4⟩ := pr2
      simp only [e3] at h3
      obtain ⟨F6, x6, hdi, R6⟩ := shr_ok ww R5 e3
      cases e4 : cellAt 2 en4 i with
      | none => simp only [e4] at h3; exact h3.elim
      | some d =>
        simp only [e4] at h3
        obtain ⟨s2, ad2, k1, k2, k3, k4, k5, k6, k7⟩ := cellAt_ok R6 e4
        rw [ha'] at k5; cases k5
        cases e5 : gSetK d di dv with
        | none => simp only [e5] at h3; exact h3.elim
        | some d' =>
          simp only [e5] at h3
          rw [putD_eq k1] at h3
          cases d with
          | dk kvs =>
            have e5' : (match keyOf di with
              | some k => if kvs.length < 1000000 then some (Fw.D.dk (putDk kvs k dv)) else none
              | none => none) = some d' := e5
            cases hk : keyOf di with
            | none => simp only [hk] at e5'; cases e5'
            | some k =>
              simp only [hk] at e5'
              by_cases hl : kvs.length < 1000000
              · rw [if_pos hl] at e5'
                cases e5'
                obtain ⟨kvs', t, dp⟩ := k6
                have hdv' := ((hdv.mono x4).mono x5).mono x6
                have hw := key_ok (H := H4) (.inl hdi) hk
                refine ⟨ad, _, rfl, by rw [hw]; exact DPut.k t (by rw [dpk_len dp, sizeLine_eq]; omega), h3 σ F6 _ (R6.mut k1 k2 ha' ⟨_, upd_same, dpk_put hdv' dp⟩)⟩
              · rw [if_neg hl] at e5'; cases e5'
          | _ => cases e5
end
end Fw
set_option Elab.async false
set_option linter.all false
set_option maxRecDepth 100000
namespace Fw
open PySem PySem.Spec PyProof.Rows L2
/-! ### two or three plain names at once -/
/-- a value to be stored: shared, or a new cell -/
def nrm (r : ER) (en : En) : R En ER := match r with
  | .sh d => .ok (.sh d) en
  | .fr d => .ok (.fr d) en
  | .bo i => match shr en (.bo i) with
    | some (d, en1) => .ok (.sh d) en1
    | none => .bad
def eP : List (M ER) → M (List ER)
  | [] => fun en => .ok [] en
  | f :: fs => fun en => (f en).bind fun r en1 => (nrm r en1).bind fun r' en2 => (eP fs en2).bind fun rs en3 => .ok (r' :: rs) en3
def put1 (i : Nat) (r : ER) (en : En) : Option En := match en[i]? with
  | none => none
  | some s => if s.isPn = true then none else match r with
    | .sh d => some (en.set i (.sh d))
    | .fr d => some (en.set i (.ow d))
    | .bo _ => none
def puts : List Nat → List ER → En → O
  | [], [], en => .nx en
  | i :: is, r :: rs, en => match put1 i r en with
    | some en1 => puts is rs en1
    | none => .bad
  | _, _, _ => .bad
def sPar (is : List Nat) (fs : List (M ER)) : SM := fun en => (eP fs en).then (puts is)

def Off (a : Addr) : List ER → List V → Prop
  | .fr _ :: rs, v :: vs => v ≠ .ref a ∧ Off a rs vs
  | _ :: rs, _ :: vs => Off a rs vs
  | _, _ => True
def VRs (W : Wc) (G : Gc) (en : En) (σ : St) (F H : Hp) : List ER → List V → Prop
  | [], [] => True
  | r :: rs, v :: vs => VR W G en σ F H r v ∧ (∀ i, r ≠ .bo i) ∧ (∀ d a, r = .fr d → v = .ref a → Off a rs vs) ∧ VRs W G en σ F H rs vs
  | _, _ => False
def tP (W : Wc) (E : St → XK) (f : M (List ER)) : TA := fun σ H Q => ∃ G F en, Rel W G en σ F H ∧ match f en with
  | .ok rs en' => ∀ vs F' H', Rel W G en' σ F' H' → Ex F F' → VRs W G en' σ F' H' rs vs → Q vs H'
  | .exc c fs en' => ∀ dd F' H', Rel W G en' σ F' H' → XR W G.H0 F' H' dd fs → E σ (.ref (W.cls c)) (some dd) H'
  | .bad => False
def PV (W : Wc) (E : St → XK) (X : Cx) (es : List Expr) (f : M (List ER)) : Prop := PA X es (tP W E f)
section
variable {W : Wc} {E : St → XK} {X : Cx} {a b c : Expr} {es : List Expr} {fa fb fc : M ER} {fs : List (M ER)} {pos : Pos} {G : Gc} {en en' : En} {σ : St} {F H F' H' : Hp} {p : Addr} {d : D} {De : Ends} {rs : List ER} {vs : List V} {r : ER} {v : V} {i : Nat} {s : Sl}

/-- a new cell is held over steps -/
theorem Rel.holdP (R : Rel W G en σ F H) (ht : Top W F H p d) (hF : F p = none) (h0 : G.H0 p = none) (hn : Apart en σ p) :
    ∃ G', Rel W G' en σ F H ∧ (∀ x, G'.H0 x = none → G.H0 x = none ∧ x ≠ p) ∧
      ∀ en' F' H', Rel W G' en' σ F' H' → Rel W G en' σ F' H' ∧ (Ex F F' → Top W F' H' p d) ∧ F' p = none ∧ Apart en' σ p := by
  classical
  obtain ⟨o, ho⟩ := ht.there
  let G' : Gc := ⟨G.F0, fun x => if x = p then some o else G.H0 x, G.wr.filter (fun x => decide (x ≠ p)), fun i => if G.pin i = some p then none else G.pin i⟩
  have z0 : ∀ x, x ≠ p → G'.H0 x = G.H0 x := fun x hx => if_neg hx
  have zp : G'.H0 p = some o := if_pos rfl
  have zn : ∀ x, G'.H0 x = none → G.H0 x = none ∧ x ≠ p := fun x hx => by
    by_cases e : x = p
    · subst e; rw [zp] at hx; cases hx
    · rw [z0 x e] at hx; exact ⟨hx, e⟩
  have zw : ∀ x, x ∈ G'.wr ↔ x ∈ G.wr ∧ x ≠ p := fun x => by
    show x ∈ G.wr.filter _ ↔ _
    simp [List.mem_filter]
  have hF0 : G.F0 p = none := by
    cases e : G.F0 p with
    | none => rfl
    | some u => rw [R.ex0 _ _ e] at hF; cases hF
  refine ⟨G', ?_, zn, ?_⟩
  · refine ⟨R.len, R.sub, R.ex0, fun x u e n => ?_, fun x u e n => ?_, fun x hx => R.wrk x ((zw x).mp hx).1, fun i s e => ?_, R.dist⟩
    · by_cases hx : x = p
      · subst hx; exact hF
      · rw [z0 x hx] at e; exact R.fen x u e n
    · by_cases hx : x = p
      · subst hx; rw [zp] at e; cases e; exact ho
      · rw [z0 x hx] at e; exact R.keep x u e fun m => n ((zw x).mpr ⟨m, hx⟩)
    · have hs := R.slot i s e
      cases s with
      | un => trivial
      | sh d' => exact hs
      | ow d' =>
        obtain ⟨x, h1, h2, h3, h4⟩ := hs
        have hx : x ≠ p := fun q => by subst q; exact hn i _ e rfl h1
        exact ⟨x, h1, h2, h3, by rw [z0 x hx]; exact h4⟩
      | pn m d' =>
        obtain ⟨x, h1, h2, h3, h4, h5⟩ := hs
        have hx : x ≠ p := fun q => by subst q; exact hn i _ e rfl h1
        refine ⟨x, h1, h2, h3, ?_, fun q => ?_⟩
        · show (if G.pin i = some p then none else G.pin i) = some x
          rw [if_neg (fun q => by rw [h4] at q; cases q; exact hx rfl)]; exact h4
        · rcases h5 q with k | k
          · exact .inl ((zw x).mpr ⟨k, hx⟩)
          · exact .inr (by rw [z0 x hx]; exact k)
      | lk d' =>
        obtain ⟨x, h1, h2, h3, h4⟩ := hs
        have hx : x ≠ p := fun q => by subst q; exact hn i _ e rfl h1
        refine ⟨x, h1, h2, h3, ?_⟩
        show (if G.pin i = some p then none else G.pin i) = some x
        rw [if_neg (fun q => by rw [h4] at q; cases q; exact hx rfl)]; exact h4
  · intro en' F' H' R'
    have hH : H' p = some o := R'.keep p o zp fun m => ((zw p).mp m).2 rfl
    have hF' : F' p = none := R'.fen p o zp hF0
    have hpin : ∀ i x, G'.pin i = some x → G.pin i = some x ∧ x ≠ p := fun i x q => by
      have q' : (if G.pin i = some p then none else G.pin i) = some x := q
      by_cases h : G.pin i = some p
      · rw [if_pos h] at q'; cases q'
      · rw [if_neg h] at q'; exact ⟨q', fun e => h (e ▸ q')⟩
    refine ⟨?_, ?_, hF', fun j t e o2 z => ?_⟩
    · refine ⟨R'.len, R'.sub, R'.ex0, fun x u e n => ?_, fun x u e n => ?_, fun x hx => ?_, fun i s e => ?_, R'.dist⟩
      · have hx : x ≠ p := fun q => by subst q; rw [h0] at e; cases e
        exact R'.fen x u (by rw [z0 x hx]; exact e) n
      · have hx : x ≠ p := fun q => by subst q; rw [h0] at e; cases e
        exact R'.keep x u (by rw [z0 x hx]; exact e) fun m => n ((zw x).mp m).1
      · by_cases hq : x = p
        · subst hq; exact ⟨o, hH⟩
        · exact R'.wrk x ((zw x).mpr ⟨hx, hq⟩)
      · have hs := R'.slot i s e
        cases s with
        | un => trivial
        | sh d' => exact hs
        | ow d' =>
          obtain ⟨x, h1, h2, h3, h4⟩ := hs
          exact ⟨x, h1, h2, h3, (zn x h4).1⟩
        | pn m d' =>
          obtain ⟨x, h1, h2, h3, h4, h5⟩ := hs
          refine ⟨x, h1, h2, h3, (hpin i x h4).1, fun q => ?_⟩
          rcases h5 q with k | k
          · exact .inl ((zw x).mp k).1
          · exact .inr (zn x k).1
        | lk d' =>
          obtain ⟨x, h1, h2, h3, h4⟩ := hs
          exact ⟨x, h1, h2, h3, (hpin i x h4).1⟩
    · exact fun xF => ht.mono xF fun o' e => by rw [ho] at e; cases e; exact hH
    · have hs := R'.slot j t e
      cases t with
      | un => cases o2
      | sh d' => cases o2
      | ow d' =>
        obtain ⟨x, h1, h2, h3, h4⟩ := hs
        rw [z] at h1; cases h1
        exact (zn p h4).2 rfl
      | pn m d' =>
        obtain ⟨x, h1, h2, h3, h4, h5⟩ := hs
        rw [z] at h1; cases h1
        exact (hpin j p h4).2 rfl
      | lk d' =>
        obtain ⟨x, h1, h2, h3, h4⟩ := hs
        rw [z] at h1; cases h1
        exact (hpin j p h4).2 rfl

theorem VRs.unhold {G' : Gc} (hz : ∀ x, G'.H0 x = none → G.H0 x = none ∧ x ≠ p) : ∀ {rs : List ER} {vs : List V}, VRs W G' en σ F H rs vs → VRs W G en σ F H rs vs ∧ Off p rs vs
  | [], [], _ => ⟨trivial, trivial⟩
  | [], _ :: _, h => h.elim
  | _ :: _, [], h => h.elim
  | r :: rs, v :: vs, ⟨h1, h2, h3, h4⟩ => by
    obtain ⟨i1, i2⟩ := VRs.unhold hz h4
    cases r with
    | sh d => exact ⟨⟨h1, h2, h3, i1⟩, i2⟩
    | bo i => exact absurd rfl (h2 i)
    | fr d =>
      obtain ⟨x, rfl, k1, k2, k3, k4⟩ := h1
      obtain ⟨z1, z2⟩ := hz x k3
      exact ⟨⟨⟨x, rfl, k1, k2, z1, k4⟩, h2, h3, i1⟩, fun q => z2 (V.ref.inj q), i2⟩

theorem pv_nil : PV W E X [] (eP []) := PA.imp pa_nil fun σ H Q ⟨G, F, en, R, h⟩ => h [] F H R (Ex.refl F) trivial
theorem tP.out {f : M (List ER)} {Q : List V → Hp → Prop} : tP W E f σ H Q ↔ ∃ G F en, Rel W G en σ F H ∧ Out W E G σ (fun rs en' => ∀ vs F' H', Rel W G en' σ F' H' → Ex F F' → VRs W G en' σ F' H' rs vs → Q vs H') (f en) := by
  constructor
  · rintro ⟨G, F, en, R, h⟩
    refine ⟨G, F, en, R, ?_⟩
    cases e : f en with
    | ok r en' => rw [e] at h; exact h
    | exc c fs s => rw [e] at h; exact h
    | bad => rw [e] at h; exact h
  · rintro ⟨G, F, en, R, h⟩
    refine ⟨G, F, en, R, ?_⟩
    cases e : f en with
    | ok r en' => rw [e] at h; exact h
    | exc c fs s => rw [e] at h; exact h
    | bad => rw [e] at h; exact h
theorem pv_cons (ha : EV W E X a fa) (hr : PV W E X es (eP fs)) (hs : starEach (a :: es) X.env = (false, eval a X.env) :: starEach es X.env := by rfl) : PV W E X (a :: es) (eP (fa :: fs)) := by
  refine PA.imp (pa_cons ha hr hs) fun σ H Q hq => ?_
  obtain ⟨G, F, en, R, h⟩ := tP.out.mp hq
  have h' : Out W E G σ (fun rs en' => ∀ vs F' H', Rel W G en' σ F' H' → Ex F F' → VRs W G en' σ F' H' rs vs → Q vs H') ((fa en).bind fun r en1 => (nrm r en1).bind fun r' en2 => (eP fs en2).bind fun rs en3 => .ok (r' :: rs) en3) := h
  show tE W E fa σ H _
  refine ⟨G, F, en, R, ?_⟩
  cases e : fa en with
  | bad => rw [e] at h'; exact h'
  | exc c fs2 en' => rw [e] at h'; exact h'
  | ok r en1 =>
    rw [e] at h'
    refine fun v F1 H1 R1 x1 vr => ?_
    cases r with
    | sh d =>
      have h2 : Out W E G σ (fun rs en' => ∀ vs F' H', Rel W G en' σ F' H' → Ex F F' → VRs W G en' σ F' H' rs vs → Q vs H') ((eP fs en1).bind fun rs en3 => .ok (ER.sh d :: rs) en3) := h'
      refine ⟨G, F1, en1, R1, ?_⟩
      cases e2 : eP fs en1 with
      | bad => rw [e2] at h2; exact h2
      | exc c fs2 en' => rw [e2] at h2; exact h2
      | ok rs en2 =>
        rw [e2] at h2
        exact fun vs F2 H2 R2 x2 vsr => h2 (v :: vs) F2 H2 R2 (x1.trans x2) ⟨(show Dat W F1 v d from vr).mono x2, (fun i => by simp), (fun d a q => by cases q), vsr⟩
    | bo i =>
      have h1 : Out W E G σ (fun rs en' => ∀ vs F' H', Rel W G en' σ F' H' → Ex F F' → VRs W G en' σ F' H' rs vs → Q vs H') ((nrm (.bo i) en1).bind fun r' en2 => (eP fs en2).bind fun rs en3 => .ok (r' :: rs) en3) := h'
      unfold nrm at h1
      cases q : shr en1 (.bo i) with
      | none => simp only [q] at h1; exact h1.elim
      | some pr =>
        obtain ⟨d, en2⟩ := pr
        simp only [q] at h1
        obtain ⟨F2, x2, dv, R2⟩ := shr_ok (show VW W σ F1 (.bo i) v from vr) R1 q
        have h2 : Out W E G σ (fun rs en' => ∀ vs F' H', Rel W G en' σ F' H' → Ex F F' → VRs W G en' σ F' H' rs vs → Q vs H') ((eP fs en2).bind fun rs en3 => .ok (ER.sh d :: rs) en3) := h1
        refine ⟨G, F2, en2, R2, ?_⟩
        cases e2 : eP fs en2 with
        | bad => rw [e2] at h2; exact h2
        | exc c fs2 en' => rw [e2] at h2; exact h2
        | ok rs en3 =>
          rw [e2] at h2
          exact fun vs F3 H3 R3 x3 vsr => h2 (v :: vs) F3 H3 R3 ((x1.trans x2).trans x3) ⟨dv.mono x3, (fun i => by simp), (fun d a q => by cases q), vsr⟩
    | fr d =>
      have h2 : Out W E G σ (fun rs en' => ∀ vs F' H', Rel W G en' σ F' H' → Ex F F' → VRs W G en' σ F' H' rs vs → Q vs H') ((eP fs en1).bind fun rs en3 => .ok (ER.fr d :: rs) en3) := h'
      obtain ⟨p, rfl, k1, k2, k3, k4⟩ := vr
      obtain ⟨G', R1', hz, hb⟩ := R1.holdP k1 k2 k3 k4
      refine ⟨G', F1, en1, R1', ?_⟩
      cases e2 : eP fs en1 with
      | bad => rw [e2] at h2; exact h2
      | exc c fs2 en' =>
        rw [e2] at h2
        refine fun dd F2 H2 R2 xr => ?_
        obtain ⟨g1, g2, g3, g4⟩ := xr
        exact h2 dd F2 H2 (hb en' F2 H2 R2).1 ⟨g1, g2, g3, (hz dd g4).1⟩
      | ok rs en2 =>
        rw [e2] at h2
        refine fun vs F2 H2 R2 x2 vsr => ?_
        obtain ⟨u1, u2, u3, u4⟩ := hb en2 F2 H2 R2
        obtain ⟨w1, w2⟩ := VRs.unhold hz vsr
        exact h2 (V.ref p :: vs) F2 H2 u1 (x1.trans x2) ⟨⟨p, rfl, u2 x2, u3, k3, u4⟩, (fun i => by simp), (fun d a _ q => by cases q; exact w2), w1⟩

def setAll : St → List Nat → List V → St
  | σ, i :: is, v :: vs => setAll (σ.set i (some v)) is vs
  | σ, _, _ => σ
theorem VRs.keep {s' : Sl} (hl : i < σ.length) (ho2 : ∀ q, v = .ref q → s'.own = true → Off q rs vs) (h : VRs W G en σ F H rs vs) : VRs W G (en.set i s') (σ.set i (some v)) F H rs vs := by
  induction rs generalizing vs with
  | nil => cases vs with
    | nil => trivial
    | cons v vs => exact h.elim
  | cons r rs ih =>
    cases vs with
    | nil => exact h.elim
    | cons w vs =>
      obtain ⟨h1, h2, h3, h4⟩ := h
      have ho3 : ∀ q, v = .ref q → s'.own = true → Off q rs vs := fun q a b => by
        have := ho2 q a b
        cases r with
        | fr d => exact this.2
        | sh d => exact this
        | bo i => exact this
      refine ⟨?_, h2, h3, ih ho3 h4⟩
      cases r with
      | sh d => exact h1
      | bo j => exact absurd rfl (h2 j)
      | fr d =>
        obtain ⟨q, rfl, k1, k2, k3, k4⟩ := h1
        refine ⟨q, rfl, k1, k2, k3, fun j t e o z => ?_⟩
        rcases set_get e with ⟨rfl, rfl⟩ | ⟨hj, e⟩
        · have := st_set hl z
          exact (ho2 q this.symm o).1 rfl
        · rw [List.getElem?_set_ne (fun y => hj y.symm)] at z
          exact k4 j t e o z
theorem puts_ok : ∀ {is : List Nat} {rs : List ER} {vs : List V} {en : En} {σ : St}, is.length = vs.length → Rel W G en σ F H → VRs W G en σ F H rs vs → SOut W E G De (puts is rs en) → De.nx (setAll σ is vs) H
  | [], [], [], en, σ, _, R, _, h => h σ F H R
  | [], _ :: _, [], en, σ, _, _, h, _ => h.elim
  | [], _, _ :: _, en, σ, l, _, _, _ => by simp at l
  | _ :: _, _, [], en, σ, l, _, _, _ => by simp at l
  | _ :: _, [], _ :: _, en, σ, _, _, h, _ => h.elim
  | i :: is, r :: rs, v :: vs, en, σ, l, R, ⟨h1, h2, h3, h4⟩, h => by
    unfold puts put1 at h
    cases e : en[i]? with
    | none => simp only [e] at h; exact h.elim
    | some s =>
      simp only [e] at h
      by_cases hp : s.isPn = true
      · rw [if_pos hp] at h; exact h.elim
      · rw [if_neg hp] at h
        have hp' : s.isPn = false := by simpa using hp
        have hl : i < σ.length := by rw [← R.len]; exact lt_of_some e
        have l' : is.length = vs.length := by simpa using l
        show De.nx (setAll (σ.set i (some v)) is vs) H
        cases r with
        | sh d => exact puts_ok l' (R.setSh e hp' h1) (VRs.keep (s' := .sh d) hl (fun _ _ q => by cases q) h4) h
        | bo j => exact absurd rfl (h2 j)
        | fr d =>
          obtain ⟨q, rfl, k1, k2, k3, k4⟩ := h1
          exact puts_ok l' (R.setOw e hp' k1 k2 k3 k4) (VRs.keep (s' := .ow d) hl (fun y z _ => h3 d y rfl z) h4) h
theorem bind_inv {α β : Type} {r : R En α} {f : α → En → R En β} {x : β} {en' : En} (h : r.bind f = .ok x en') : ∃ a s, r = .ok a s ∧ f a s = .ok x en' := by
  cases r with
  | ok a s => exact ⟨a, s, rfl, h⟩
  | exc c fs s => cases h
  | bad => cases h
theorem eP_length : ∀ {fs : List (M ER)} {en en' : En} {rs : List ER}, eP fs en = .ok rs en' → rs.length = fs.length
  | [], en, en', rs, h => by cases h; rfl
  | f :: fs, en, en', rs, h => by
    obtain ⟨r, en1, _, h⟩ := bind_inv (show ((f en).bind fun r en1 => (nrm r en1).bind fun r' en2 => (eP fs en2).bind fun rs en3 => .ok (r' :: rs) en3) = .ok rs en' from h)
    obtain ⟨r', en2, _, h⟩ := bind_inv h
    obtain ⟨rs', en3, e, h⟩ := bind_inv h
    cases h
    simp [eP_length e]
theorem eP_len : ∀ {rs : List ER} {vs : List V} {n : Nat}, VRs W G en σ F H rs vs → rs.length = n → vs.length = n
  | [], [], _, _, h => h
  | [], _ :: _, _, h, _ => h.elim
  | _ :: _, [], _, h, _ => h.elim
  | r :: rs, v :: vs, n, h, e => by
    have := eP_len (n := rs.length) h.2.2.2 rfl
    simp only [List.length_cons] at e ⊢
    omega
theorem len2 {α : Type} {l : List α} (h : l.length = 2) : ∃ a b, l = [a, b] := by
  match l, h with
  | [a, b], _ => exact ⟨a, b, rfl⟩
theorem len3 {α : Type} {l : List α} (h : l.length = 3) : ∃ a b c, l = [a, b, c] := by
  match l, h with
  | [a, b, c], _ => exact ⟨a, b, c, rfl⟩
theorem sv_par {i j : Nat} {x y : Str} {px py pt : Pos} {kt k2 pt2} (hc : X.calm = true) (hN : X.N.Nodup) (ha : PV W E X [a, b] (eP [fa, fb]))
    (hi : X.N[i]? = some x := by rfl) (hj : X.N[j]? = some y := by rfl) (hij : i ≠ j := by decide)
    (hx : X.env.scope.names.lookup x = some .local := by rfl) (hy : X.env.scope.names.lookup y = some .local := by rfl)
    (hw : swappedStores [.Tuple [.Name x px, .Name y py] kt pt] (.Tuple [a, b] k2 pt2) X.env = pure (some [x, y]) := by rfl)
    (hs : swapsWithSole [.Tuple [.Name x px, .Name y py] kt pt] (.Tuple [a, b] k2 pt2) pos.line X.env = pure false := by rfl) :
    SV W E X (.Assign [.Tuple [.Name x px, .Name y py] kt pt] (.Tuple [a, b] k2 pt2) pos) (sPar [i, j] [fa, fb]) := by
  refine PS.imp (ps_par hc hN hi hj hij hx hy ha hw hs) fun D σ H hq => ?_
  obtain ⟨G, F, en, R, h⟩ := tS.out.mp hq
  refine ⟨G, F, en, R, ?_⟩
  unfold sPar at h
  cases e : eP [fa, fb] en with
  | bad => rw [e] at h; exact h
  | exc c fs s => rw [e] at h; exact fun dd F' H' R' x => h dd σ F' H' R' x
  | ok rs en1 =>
    rw [e] at h
    refine fun vs F1 H1 R1 x1 vr => ?_
    have hv := eP_len vr (eP_length e)
    obtain ⟨u, v, rfl⟩ := len2 hv
    exact ⟨u, v, rfl, puts_ok (is := [i, j]) (σ := σ) rfl R1 vr h⟩
theorem sv_par3 {i j l : Nat} {x y z : Str} {px py pz pt : Pos} {kt k2 pt2} (hc : X.calm = true) (hN : X.N.Nodup) (ha : PV W E X [a, b, c] (eP [fa, fb, fc]))
    (hi : X.N[i]? = some x := by rfl) (hj : X.N[j]? = some y := by rfl) (hl : X.N[l]? = some z := by rfl) (hij : i ≠ j := by decide) (hil : i ≠ l := by decide) (hjl : j ≠ l := by decide)
    (hx : X.env.scope.names.lookup x = some .local := by rfl) (hy : X.env.scope.names.lookup y = some .local := by rfl) (hz : X.env.scope.names.lookup z = some .local := by rfl)
    (hw : swappedStores [.Tuple [.Name x px, .Name y py, .Name z pz] kt pt] (.Tuple [a, b, c] k2 pt2) X.env = pure (some [x, y, z]) := by rfl)
    (hs : swapsWithSole [.Tuple [.Name x px, .Name y py, .Name z pz] kt pt] (.Tuple [a, b, c] k2 pt2) pos.line X.env = pure false := by rfl) :
    SV W E X (.Assign [.Tuple [.Name x px, .Name y py, .Name z pz] kt pt] (.Tuple [a, b, c] k2 pt2) pos) (sPar [i, j, l] [fa, fb, fc]) := by
  refine PS.imp (ps_par3 hc hN hi hj hl hij hil hjl hx hy hz ha hw hs) fun D σ H hq => ?_
  obtain ⟨G, F, en, R, h⟩ := tS.out.mp hq
  refine ⟨G, F, en, R, ?_⟩
  unfold sPar at h
  cases e : eP [fa, fb, fc] en with
  | bad => rw [e] at h; exact h
  | exc c fs s => rw [e] at h; exact fun dd F' H' R' x => h dd σ F' H' R' x
  | ok rs en1 =>
    rw [e] at h
    refine fun vs F1 H1 R1 x1 vr => ?_
    have hv := eP_len vr (eP_length e)
    obtain ⟨u, v, w, rfl⟩ := len3 hv
    exact ⟨u, v, w, rfl, puts_ok (is := [i, j, l]) (σ := σ) rfl R1 vr h⟩
theorem sPar_ap {is : List Nat} : sPar is fs en = (eP fs en).then (puts is) := rfl
theorem eP_nil : eP [] en = .ok [] en := rfl
theorem eP_cons : eP (fa :: fs) en = (fa en).bind fun r en1 => (nrm r en1).bind fun r' en2 => (eP fs en2).bind fun rs en3 => .ok (r' :: rs) en3 := rfl
theorem nrm_sh : nrm (.sh d) en = .ok (.sh d) en := rfl
theorem nrm_fr : nrm (.fr d) en = .ok (.fr d) en := rfl
theorem nrm_bo : nrm (.bo i) en = (match shr en (.bo i) with
    | some (d, en1) => .ok (.sh d) en1
    | none => .bad) := rfl
theorem kind_dk {kvs : List (Key × D)} : kindN (.dk kvs) = 2 := rfl
theorem eGet1_ap {fo fk : M ER} : eGet1 fo fk en = (fo en).bind fun ro en1 => if dkAt en1 ro = true then (fk en1).bind fun rk en2 => getK en2 ro rk fun o => .ok (.sh (o.getD .non)) en2 else .bad := rfl
theorem eGet2_ap {fo fk fx : M ER} : eGet2 fo fk fx en = (fo en).bind fun ro en1 => if dkAt en1 ro = true then (fk en1).bind fun rk en2 => (fx en2).bind fun rx en3 => (match shOf rx with
  | some dx => getK en3 ro rk fun o => .ok (.sh (o.getD dx)) en3
  | none => .bad) else .bad := rfl
theorem getK_ap {ro rk : ER} {k : Option D → R En ER} : getK en ro rk k = (match cur en ro, (cur en rk).bind keyOf with
  | some (.dk kvs), some key => k (valD kvs key)
  | _, _ => .bad) := rfl
theorem dkAt_ap : dkAt en r = (match cur en r with
  | some (.dk _) => true
  | _ => false) := rfl
theorem shOf_sh : shOf (.sh d) = some d := rfl
theorem key_str {s : Str} : keyOf (.str s) = some (.inr s) := rfl
theorem key_int {s : Int} : keyOf (.int s) = some (.inl s) := rfl
theorem in2_str {s : Str} {kvs : List (Key × D)} : dIn2 (.str s) (.dk kvs) = some (.sh (.bl (valD kvs (.inr s)).isSome)) := rfl
theorem nin2_str {s : Str} {kvs : List (Key × D)} : dNotIn2 (.str s) (.dk kvs) = some (.sh (.bl (!(valD kvs (.inr s)).isSome))) := rfl
theorem setK_str {s : Str} {kvs : List (Key × D)} (h : kvs.length < 1000000) : gSetK (.dk kvs) (.str s) d = some (.dk (putDk kvs (.inr s) d)) := if_pos h
theorem putDk_new {k : Key} {kvs : List (Key × D)} (h : valD kvs k = none) : putDk kvs k d = kvs ++ [(k, d)] := by
  unfold putDk
  rw [if_neg]
  intro q
  obtain ⟨kv, h1, h2⟩ := List.any_eq_true.mp q
  unfold valD at h
  rw [Option.map_eq_none_iff, List.find?_eq_none] at h
  exact h kv h1 h2
theorem puts_nil : puts [] [] en = .nx en := rfl
theorem puts_cons {is : List Nat} : puts (i :: is) (r :: rs) en = (match put1 i r en with
    | some en1 => puts is rs en1
    | none => .bad) := rfl
theorem put1_sh : put1 i (.sh d) en = (match en[i]? with
  | none => none
  | some s => if s.isPn = true then none else some (en.set i (.sh d))) := rfl
theorem put1_fr : put1 i (.fr d) en = (match en[i]? with
  | none => none
  | some s => if s.isPn = true then none else some (en.set i (.ow d))) := rfl
end
end Fw
set_option Elab.async false
set_option linter.all false
set_option maxRecDepth 100000
namespace Fw
open PySem PySem.Spec PyProof.Rows L2
/-! ### list.count of plain values -/
def rCountF (K : PySem.W.Frag) : V → List V → Hp → VK → Prop := fun x xs H Q => ∃ (a : Addr) (ys : List V) (y : V), x = V.ref a ∧ xs = [y] ∧ SqL K H a ys ∧ flatV y = true ∧ ys.all flatV = true ∧ Q (.int (ys.countP (fun z => eqV z y) : Nat)) H
theorem count_rel {y : V} : ∀ {ys : List V} {its : List Value}, Vals ys its → ys.all flatV = true → its.countP (eqU y) = ys.countP (fun z => eqV z y)
  | _, _, .nil, _ => rfl
  | _, _, .cons r rs, h => by
    rw [List.all_cons, Bool.and_eq_true] at h
    rw [List.countP_cons, List.countP_cons, count_rel rs h.2, eqU_of r h.1]
section
variable {W : Wc} {E : St → XK} {X : Cx}
theorem mt_countF : MtR X "list.count" (rCountF X.K) := by
  intro pins s σ H x xs v us Q I rx rxs h
  obtain ⟨a, ys, y, rfl, rfl, hs, fy, fys, q⟩ := h
  cases rx
  cases rxs with
  | cons ry rt =>
    rename_i uy ut
    cases rt
    obtain ⟨its, rv, ⟨⟨cls, dd, data, sl⟩, n, ho, hc, hdn, hd⟩, hlen⟩ := I.list hs
    simp only at hc hd
    subst hc hd
    refine call_meets PySem.F.slot_list_count ⟨_, ho, rfl⟩ PySem.F.entry_list_count (PySem.F.args_list_count_2 _ _)
      (SeqAt.list_countAt a its.toArray n dd sl uy (eqU y)) ⟨ho, fun u' hu' => mem_eqAt ry fy rv fys u' (by simpa using hu'), ?_⟩
    refine ⟨.int (ys.countP (fun z => eqV z y) : Nat), H, I.tok _, ⟨s.toks, ?_⟩, q⟩
    have e : its.toArray.toList.countP (eqU y) = ys.countP (fun z => eqV z y) := count_rel rv fys
    rw [e]
def gCountL (d : D) (ds : List D) : Option (D × D) := match d, ds with
  | .lst xs, [y] => (match flatD y, flats xs with
    | some v, some us => some (.lst xs, .int (us.countP (fun z => eqV z v) : Nat))
    | _, _ => none)
  | _, _ => none
theorem s_count : MutS W (rCountF W.K) gCountL := by
  intro F H ad xs d ds d' r Q hs hF t l e q
  match d, ds, e with
  | .lst ys, [y], e =>
    have e' : (match flatD y, flats ys with
      | some v, some us => some (D.lst ys, D.int (us.countP (fun z => eqV z v) : Nat))
      | _, _ => none) = some (d', r) := e
    cases e1 : flatD y with
    | none => simp only [e1] at e'; cases e'
    | some v =>
      cases e2 : flats ys with
      | none => simp only [e1, e2] at e'; cases e'
      | some us =>
        simp only [e1, e2] at e'
        cases e'
        obtain ⟨vs, h, lv⟩ := t
        obtain ⟨w, rfl, dv⟩ := dl1 l
        obtain ⟨rfl, fw⟩ := flatD_ok (H := H) (.inl dv) e1
        obtain ⟨rfl, fl⟩ := flats_ok lv e2
        have hq := q (.int (vs.countP (fun z => eqV z w) : Nat)) (.lst vs) (by rw [upd_eq h]; exact ⟨vs, h, lv⟩) (Dat.int _)
        rw [upd_eq h] at hq
        exact ⟨ad, vs, w, rfl, rfl, SqL.of h, fw, fl, hq⟩
/-! ### list.insert -/
def rIns : V → List V → Hp → VK → Prop := fun x vs H Q => ∃ (l : Addr) (xs : List V) (i : Int) (y : V), x = .ref l ∧ vs = [.int i, y] ∧ H l = some (.lst xs) ∧ xs.length < sizeLine ∧ 0 ≤ i ∧ i < 2 ^ 63 ∧
    Q .non (upd H l (.lst (xs.take i.toNat ++ [y] ++ xs.drop i.toNat)))
def gInsert (d : D) (ds : List D) : Option (D × D) := match d, ds with
  | .lst xs, [.int i, y] => if 0 ≤ i ∧ i < 2 ^ 63 ∧ xs.length < 1000000 then some (.lst (xs.take i.toNat ++ [y] ++ xs.drop i.toNat), .non) else none
  | _, _ => none
theorem mt_ins : MtR X "list.insert" rIns := mt_insert
theorem s_insert : MutS W rIns gInsert := by
  intro F H ad xs d ds d' r Q hs hF t l e q
  match d, ds, e with
  | .lst ys, [.int i, y], e =>
    have e' : (if 0 ≤ i ∧ i < 2 ^ 63 ∧ ys.length < 1000000 then some (D.lst (ys.take i.toNat ++ [y] ++ ys.drop i.toNat), D.non) else none) = some (d', r) := e
    split at e'
    · rename_i hy
      cases e'
      obtain ⟨vs, h, lv⟩ := t
      obtain ⟨v, w, rfl, dv, dw⟩ := dl2 l
      cases dv
      refine ⟨ad, vs, i, w, rfl, rfl, h, ?_, hy.1, hy.2.1, q .non _ ⟨_, upd_same, ((lv.take _).append (DL.cons dw DL.nil)).append (lv.drop _)⟩ Dat.non⟩
      rw [lv.1]; exact Nat.lt_of_lt_of_le hy.2.2 (by decide)
    · cases e'
theorem slc : Slot "list" "count" "list.count" := PySem.F.slot_list_count
theorem tyc : typeOf (.builtin "list.count") = pure (.type "method_descriptor") := PySem.F.type_list_count
end
end Fw
set_option Elab.async false
set_option linter.all false
set_option maxRecDepth 100000
namespace Fw
open PySem PySem.Spec PyProof.Rows L2
/-! ### a text or a list, times a number -/
def rMulS : R2 := fun x y H Q => ∃ a n, x = .str a ∧ y = .int n ∧ MulOk a n ∧ Q (.str (Txt.mul a n)) H
section
variable {W : Wc} {X : Cx}
theorem op_mulS : OpR X (binaryOp .Mult) rMulS := by
  intro pins s σ H x y v u Q I rx ry h
  obtain ⟨a, n, rfl, rfl, ok, q⟩ := h
  obtain ⟨t, rfl⟩ := rx
  obtain ⟨k, rfl⟩ := ry
  exact PySem.SB.mul ok fun t' k' => ⟨.str (Txt.mul a n), H, I.tok _, ⟨_, rfl⟩, q⟩
def rMul2 : R2 := fun x y H Q => rMulS x y H Q ∨ rRep x y H Q
theorem op_mul2 : OpR X (binaryOp .Mult) rMul2 := by
  intro pins s σ H x y v u Q I rx ry h
  rcases h with h | h
  · exact op_mulS pins s σ H x y v u Q I rx ry h
  · exact op_rep pins s σ H x y v u Q I rx ry h
def dMul2 : D → D → Option ER
  | .str a, .int n => if a.length ≤ 1000 ∧ -1000 ≤ n ∧ n ≤ 1000 then some (.sh (.str (Txt.mul a n))) else none
  | .lst xs, .int n => if xs.length * n.toNat ≤ 1000000 ∧ -(2 ^ 63) ≤ n ∧ n < 2 ^ 63 then some (.fr (.lst (List.replicate n.toNat xs).flatten)) else none
  | _, _ => none
theorem mul_fits {a : Str} {n : Int} (h1 : a.length ≤ 1000) (h2 : -1000 ≤ n) (h3 : n ≤ 1000) : MulOk a n := by
  refine ⟨?_, fun h _ => ?_, fun h _ => ?_⟩
  · rw [decide_eq_false (by omega), decide_eq_false (by omega)]; rfl
  · have h4 : (0 : Int) < n := by omega
    have : (a.length : Int) ≤ (2 ^ 63 - 1) / n := by
      refine (Int.le_ediv_iff_mul_le h4).mpr ?_
      have h5 : (a.length : Int) ≤ 1000 := by omega
      have h6 : (a.length : Int) * n ≤ 1000 * 1000 := Int.mul_le_mul h5 h3 (by omega) (by decide)
      exact Int.le_trans h6 (by decide)
    omega
  · have h6 : a.length * n.toNat ≤ 1000 * 1000 := Nat.mul_le_mul h1 (by omega)
    show decide _ = false
    refine decide_eq_false ?_
    have := sizeLine_eq
    omega
theorem dl_rep {F : Hp} {vs : List V} {ds : List D} (l : DL W F vs ds) : ∀ k : Nat, DL W F (List.replicate k vs).flatten (List.replicate k ds).flatten
  | 0 => DL.nil
  | k + 1 => by
    rw [List.replicate_succ, List.replicate_succ, List.flatten_cons, List.flatten_cons]
    exact l.append (dl_rep l k)
theorem s_mul2 : OpS W rMul2 dMul2 := by
  intro F H x y dx dy r Q hs hx hy e q
  match dx, dy, e with
  | .str a, .int n, e =>
    have e' : (if a.length ≤ 1000 ∧ -1000 ≤ n ∧ n ≤ 1000 then some (ER.sh (.str (Txt.mul a n))) else none) = some r := e
    split at e'
    · rename_i h
      cases e'
      exact .inl ⟨a, n, hx.str, hy.int, mul_fits h.1 h.2.1 h.2.2, res_sh hs q (Dat.str _)⟩
    · cases e'
  | .lst xs, .int n, e =>
    have e' : (if xs.length * n.toNat ≤ 1000000 ∧ -(2 ^ 63) ≤ n ∧ n < 2 ^ 63 then some (ER.fr (.lst (List.replicate n.toNat xs).flatten)) else none) = some r := e
    split at e'
    · rename_i h
      cases e'
      obtain ⟨p, vs, rfl, hp, l⟩ := hx.lst hs
      refine .inr ⟨p, n, vs, rfl, hy.int, hp, h.2.1, h.2.2, ?_, fun z hz => ?_⟩
      · rw [l.1]; exact Nat.le_trans h.1 (by decide)
      · have st := Stp.cell (o := .lst (List.replicate n.toNat vs).flatten) hs hz
        exact q (.ref z) _ _ st ⟨z, rfl, hz, ⟨_, upd_same, dl_rep l _⟩, no_of (s := hs) hz⟩
    · cases e'
end
end Fw
set_option Elab.async false
set_option linter.all false
set_option maxRecDepth 100000
namespace Fw
open PySem PySem.Spec PyProof.Rows L2
/-! ### x in l, l.index(x) of any plain data -/
def rInP (K : PySem.W.Frag) (neg : Bool) : R2 := fun x y H Q => ∃ d ds, Dp K H x d ∧ (Dp K H y (.list ds) ∨ Dp K H y (.tuple ds)) ∧ d.plain = true ∧ PyData.plainAll ds = true ∧ d.depth ≤ 60 ∧ Q (.bl (neg != (ds.any fun z => PyData.eqv z d))) H
section
variable {W : Wc} {E : St → XK} {X : Cx} {a b : Expr} {fa fb : M ER} {pos : Pos}
theorem op_inP (hu : X.A.units + 64 < cLine) : OpR X (compareOp .In) (rInP X.K false) := by
  intro pins s σ H x y v u Q I rx ry h
  obtain ⟨d, ds, hd, he, sd, se, dp, q⟩ := h
  obtain ⟨as, r1⟩ := Dp.reads I d x v hd rx
  have room : X.A.units + 1 + min (PyData.depthAll ds) d.depth < cLine := by
    have : min (PyData.depthAll ds) d.depth ≤ d.depth := Nat.min_le_right _ _
    omega
  have q' : Q (.bl (ds.any fun z => PyData.eqv z d)) H := by
    rw [Bool.false_bne] at q; exact q
  rcases he with he | he
  · obtain ⟨bs, r2⟩ := Dp.reads I _ y u he ry
    exact SeqAt.in_list_data r2 r1 se sd room ⟨.bl _, H, I, rfl, q'⟩
  · obtain ⟨bs, r2⟩ := Dp.reads I _ y u he ry
    exact SeqAt.in_tuple_data r2 r1 se sd room ⟨.bl _, H, I, rfl, q'⟩
theorem op_notInP (hu : X.A.units + 64 < cLine) : OpR X (compareOp .NotIn) (rInP X.K true) := by
  intro pins s σ H x y v u Q I rx ry h
  obtain ⟨d, ds, hd, he, sd, se, dp, q⟩ := h
  obtain ⟨as, r1⟩ := Dp.reads I d x v hd rx
  have room : X.A.units + 1 + min (PyData.depthAll ds) d.depth < cLine := by
    have : min (PyData.depthAll ds) d.depth ≤ d.depth := Nat.min_le_right _ _
    omega
  have q' : Q (.bl (!ds.any fun z => PyData.eqv z d)) H := by
    rw [Bool.true_bne] at q; exact q
  rcases he with he | he
  · obtain ⟨bs, r2⟩ := Dp.reads I _ y u he ry
    exact SeqAt.notIn_list_data r2 r1 se sd room ⟨.bl _, H, I, rfl, q'⟩
  · obtain ⟨bs, r2⟩ := Dp.reads I _ y u he ry
    exact SeqAt.notIn_tuple_data r2 r1 se sd room ⟨.bl _, H, I, rfl, q'⟩
def inP (x y : D) : Option Bool := match toPy 40 x, toPy 40 y with
  | some d, some (.list ds) => some (ds.any fun z => PyData.eqv z d)
  | some d, some (.tuple ds) => some (ds.any fun z => PyData.eqv z d)
  | _, _ => none
def dInP (x y : D) : Option ER := match inP x y with
  | some b => some (.sh (.bl b))
  | none => none
def dNotInP (x y : D) : Option ER := match inP x y with
  | some b => some (.sh (.bl (!b)))
  | none => none
theorem inP_ok {F H : Hp} {x y : V} {dx dy : D} {r : Bool} (neg : Bool) {Q : VK} (hs : Ex F H) (hx : VB W F H x dx) (hy : VB W F H y dy) (e : inP dx dy = some r) (q : Q (.bl (neg != r)) H) : rInP W.K neg x y H Q := by
  unfold inP at e
  split at e
  · rename_i d ds e1 e2
    cases e
    obtain ⟨h1, h2, h3⟩ := toPy_ok (hx.dat hs) 40 d e1
    obtain ⟨k1, k2, k3⟩ := toPy_ok (hy.dat hs) 40 _ e2
    exact ⟨d, ds, h1, .inl k1, h2, (by rw [plain_list] at k2; exact k2), by omega, q⟩
  · rename_i d ds e1 e2
    cases e
    obtain ⟨h1, h2, h3⟩ := toPy_ok (hx.dat hs) 40 d e1
    obtain ⟨k1, k2, k3⟩ := toPy_ok (hy.dat hs) 40 _ e2
    exact ⟨d, ds, h1, .inr k1, h2, (by rw [plain_tuple] at k2; exact k2), by omega, q⟩
  · cases e
theorem s_inP : OpS W (rInP W.K false) dInP := by
  intro F H x y dx dy r Q hs hx hy e q
  unfold dInP at e
  cases e1 : inP dx dy with
  | none => simp only [e1] at e; cases e
  | some b =>
    simp only [e1] at e
    cases e
    exact inP_ok false hs hx hy e1 (res_sh hs q (by rw [Bool.false_bne]; exact Dat.bl _))
theorem s_notinP : OpS W (rInP W.K true) dNotInP := by
  intro F H x y dx dy r Q hs hx hy e q
  unfold dNotInP at e
  cases e1 : inP dx dy with
  | none => simp only [e1] at e; cases e
  | some b =>
    simp only [e1] at e
    cases e
    exact inP_ok true hs hx hy e1 (res_sh hs q (by rw [Bool.true_bne]; exact Dat.bl _))
/-- l.index(x) -/
def rIndexP (K : PySem.W.Frag) : V → List V → Hp → VK → Prop := fun x xs H Q => ∃ (a : Addr) (y : V) (d : PyData) (ds : List PyData) (j : Nat) (z : PyData), x = V.ref a ∧ xs = [y] ∧ Dp K H (V.ref a) (.list ds) ∧ Dp K H y d ∧
  PyData.plainAll ds = true ∧ d.plain = true ∧ d.depth ≤ 60 ∧ ds[j]? = some z ∧ PyData.eqv z d = true ∧ (∀ (m : Nat) (z' : PyData), m < j → ds[m]? = some z' → PyData.eqv z' d = false) ∧ Q (.int (j : Nat)) H
theorem mt_indexP (hu : X.A.units + 64 < cLine) : MtR X "list.index" (rIndexP X.K) := by
  intro pins s σ H x xs v us Q I rx rxs h
  obtain ⟨a, y, d, ds, j, z, rfl, rfl, hl, hy, sl, sd, dp, hz, hzj, hno, q⟩ := h
  cases rx
  cases rxs with
  | cons ry rt =>
    rename_i uy ut
    cases rt
    obtain ⟨bs, r1⟩ := Dp.reads I d y uy hy ry
    have hroom : X.A.units + 1 + min (PyData.depthAll ds) d.depth < cLine := by
      have : min (PyData.depthAll ds) d.depth ≤ d.depth := Nat.min_le_right _ _
      omega
    cases hl with
    | lst hs ha =>
      obtain ⟨its, rv, ⟨⟨cls, dd, data, sls⟩, n, ho, hc, hdn, hdt⟩, hlen⟩ := I.list hs
      simp only at hc hdt
      subst hc hdt
      obtain ⟨as, h4⟩ := Dp.readsAll I ds _ its ha rv
      have hn : its.length = ds.length := SeqAt.ReadsAll.length ds its as h4
      have hmap : its.map (SeqAt.readOf s.heap) = ds := SeqAt.readsAll_map_plain ds its as sl h4
      have hvl := rv.length
      have hsl := sizeLine_eq
      obtain ⟨hjd, _⟩ := List.getElem?_eq_some_iff.mp hz
      have hjl : j < its.length := by omega
      have hj : j < its.toArray.size := by simpa using hjl
      have at_ : ∀ (m : Nat) (hm : m < its.toArray.size) (z' : PyData), ds[m]? = some z' → SeqAt.readOf s.heap its.toArray[m] = z' := by
        intro m hm z' hz'
        have hml : m < its.length := by simpa using hm
        rw [← hmap, List.getElem?_map, List.getElem?_eq_getElem hml] at hz'
        have e1 : SeqAt.readOf s.heap its[m] = z' := Option.some.inj (show some (SeqAt.readOf s.heap its[m]) = some z' from hz')
        simpa using e1
      refine call_meets PySem.F.slot_list_index ⟨_, ho, rfl⟩ PySem.F.entry_list_index (PySem.F.args_list_index_2 _ _)
        (SeqAt.list_indexAt a its.toArray n dd sls uy (fun u => PyData.eqv (SeqAt.readOf s.heap u) d) j hj (by omega) ?_ ?_) ⟨ho, SeqAt.items_plain (vs := its.toArray) (show ReadsAll s.heap its.toArray.toList ds as from h4) r1 sl sd hroom, ?_⟩
      · show PyData.eqv (SeqAt.readOf s.heap its.toArray[j]) d = true
        rw [at_ j hj z hz]
        exact hzj
      · intro m hm hmj
        have hmd : m < ds.length := by omega
        have hz' : ds[m]? = some ds[m] := List.getElem?_eq_getElem hmd
        show PyData.eqv (SeqAt.readOf s.heap its.toArray[m]) d = false
        rw [at_ m hm _ hz']
        exact hno m _ hmj hz'
      · exact ⟨.int (j : Nat), H, I.tok _, ⟨_, rfl⟩, q⟩
def gIndexP (d : D) (ds : List D) : Option (D × D) := match d, ds with
  | .lst xs, [y] => (match toPy 40 y, toPy 40 (.lst xs) with
    | some v, some (.list us) => (match us.findIdx? (fun z => PyData.eqv z v) with | some j => some (.lst xs, .int (j : Nat)) | none => none)
    | _, _ => none)
  | _, _ => none
theorem s_indexP : MutS W (rIndexP W.K) gIndexP := by
  intro F H ad xs d ds d' r Q hs hF t l e q
  match d, ds, e with
  | .lst ys, [y], e =>
    have e' : (match toPy 40 y, toPy 40 (.lst ys) with
      | some v, some (.list us) => (match us.findIdx? (fun z => PyData.eqv z v) with | some j => some (D.lst ys, D.int (j : Nat)) | none => none)
      | _, _ => none) = some (d', r) := e
    split at e'
    · rename_i v us e1 e2
      split at e'
      · rename_i j hj
        cases e'
        obtain ⟨w, rfl, dv⟩ := dl1 l
        have dt : Dat W H (.ref ad) (.lst ys) := t.dat hs fun o e => e
        obtain ⟨h1, h2, h3⟩ := toPy_ok (dv.mono hs) 40 v e1
        obtain ⟨k1, k2, k3⟩ := toPy_ok dt 40 _ e2
        obtain ⟨hj1, hj2, hj3⟩ := List.findIdx?_eq_some_iff_getElem.mp hj
        obtain ⟨vs, h, lv⟩ := t
        have hq := q (.int (j : Nat)) (.lst vs) (by rw [upd_eq h]; exact ⟨vs, h, lv⟩) (Dat.int _)
        rw [upd_eq h] at hq
        rw [plain_list] at k2
        refine ⟨ad, w, v, us, j, us[j], rfl, rfl, k1, h1, k2, h2, by omega, List.getElem?_eq_getElem hj1, hj2, fun m z hm hz => ?_, hq⟩
        obtain ⟨hm1, rfl⟩ := List.getElem?_eq_some_iff.mp hz
        have := hj3 m hm
        simpa using this
      · cases e'
    · cases e'
/-! a list's method that only looks -/
def isLst (d : D) : Bool := match d with
  | .lst _ => true
  | _ => false
def eMetL (g : D → List D → Option ER) (fo : M ER) (fs : List (M ER)) : M ER := fun en => (fo en).bind fun ro en1 => match cur en1 ro with
  | some d1 => (if isLst d1 = true then (eA fs en1).bind fun rs en2 => (match cur en2 ro, curs en2 rs with
    | some d, some ds => (match g d ds with | some r => .ok r en2 | none => .bad)
    | _, _ => .bad) else .bad)
  | none => .bad
theorem ev_metL {o e0 : Expr} {es : List Expr} {fo : M ER} {fs : List (M ER)} {apos : Pos} {name : Str} {id : String} {r : V → List V → Hp → VK → Prop} {g : D → List D → Option ER} (slot : Slot "list" name id) (hty : typeOf (.builtin id) = pure (.type "method_descriptor")) (hm : MtR X id r) (S : MetS W r g) (ho : EV W E X o fo) (ha : AV W E X (e0 :: es) (eA fs))
    (pa : PlainAttrs "list" := by exact PySem.F.plainAttrs_list)
    (hbase : attributeBase o name X.env (eval o X.env) = eval o X.env := by rfl)
    (hfew : ((backTo pos (starEach (e0 :: es) X.env)).all (fun x => !x.1) && (backToKw pos (keywordEach [] X.env)).all (fun x => x.1.isSome)
      && decide ((e0 :: es).length + ([] : List Keyword).length + (if ([] : List Keyword).isEmpty then 0 else 1) < 30)) = true := by rfl)
    (hline : (apos.endLine == pos.line) = true := by rfl) (hs : starEach (e0 :: es) X.env = (false, eval e0 X.env) :: starEach es X.env := by rfl) (hplain : (backTo pos (starEach es X.env)).any (·.1) = false := by rfl) :
    EV W E X (.Call (.Attribute o name apos) (e0 :: es) [] pos) (eMetL g fo fs) := by
  refine PE.imp (pe_bm pa slot hty hm ho ha hbase hfew hline hs hplain) fun σ H Q hq => ?_
  obtain ⟨G, F, en, R, h⟩ := tE.out.mp hq
  refine ev_then R h fun ro en1 x F1 H1 h1 R1 x1 va => ?_
  cases e1 : cur en1 ro with
  | none => simp only [e1] at h1; exact h1.elim
  | some d1 =>
    simp only [e1] at h1
    by_cases hl : isLst d1 = true
    · rw [if_pos hl] at h1
      have hty : tyV X.K "list" x H1 := by
        cases d1 with
        | lst ds =>
          obtain ⟨a, vs, rfl, hH, l⟩ := (va.vb R1 e1).lst R1.sub
          exact .inl ⟨rfl, vs, SqL.of hH⟩
        | _ => cases hl
      refine ⟨hty, ?_⟩
      refine av_then R1 h1 fun rs en2 vs F2 H2 h2 R2 x2 hw => ?_
      cases q1 : cur en2 ro with
      | none => simp only [q1] at h2; exact h2.elim
      | some d => cases q2 : curs en2 rs with
        | none => simp only [q1, q2] at h2; exact h2.elim
        | some ds =>
          cases q3 : g d ds with
          | none => simp only [q1, q2, q3] at h2; exact h2.elim
          | some rr =>
            simp only [q1, q2, q3] at h2
            exact S F2 H2 x vs d ds rr Q R2.sub ((va.mono x2).vb R2 q1) (curs_ok hw R2 q2) q3 fun v F' H' s n => h2 v F' H' (R2.stp s) ((x1.trans x2).trans s.ex) (n.vr R2)
    · rw [if_neg hl] at h1; exact h1.elim
theorem eMetL_ap {g : D → List D → Option ER} {fo : M ER} {fs : List (M ER)} {en : En} : eMetL g fo fs en = (fo en).bind fun ro en1 => (match cur en1 ro with
  | some d1 => (if isLst d1 = true then (eA fs en1).bind fun rs en2 => (match cur en2 ro, curs en2 rs with
    | some d, some ds => (match g d ds with | some r => .ok r en2 | none => .bad)
    | _, _ => .bad) else .bad)
  | none => .bad) := rfl
theorem isLst_lst {ds : List D} : isLst (.lst ds) = true := rfl
def gIdx (d : D) (ds : List D) : Option ER := match gIndexP d ds with
  | some (_, r) => some (.sh r)
  | none => none
theorem s_idx : MetS W (rIndexP W.K) gIdx := by
  intro F H x xs dx ds r Q hs hx hv e q
  match dx, ds, hv, e with
  | .lst ys, [y], hv, e =>
    have e' : (match gIndexP (.lst ys) [y] with
      | some (_, r) => some (ER.sh r)
      | none => none) = some r := e
    unfold gIndexP at e'
    simp only at e'
    cases e1 : toPy 40 y with
    | none => simp only [e1] at e'; cases e'
    | some v =>
      cases e2 : toPy 40 (.lst ys) with
      | none => simp only [e1, e2] at e'; cases e'
      | some p =>
        cases p with
        | list us =>
          simp only [e1, e2] at e'
          cases hj : us.findIdx? (fun z => PyData.eqv z v) with
          | none => simp only [hj] at e'; cases e'
          | some j =>
            simp only [hj] at e'
            cases e'
            obtain ⟨w, rfl, hw⟩ : ∃ w, xs = [w] ∧ VB W F H w y := by
              match xs, hv with
              | [w], hv => exact ⟨w, rfl, hv.1⟩
            obtain ⟨ad, vs, rfl, hH, l⟩ := hx.lst hs
            have dt := hx.dat hs
            obtain ⟨h1, h2, h3⟩ := toPy_ok (hw.dat hs) 40 v e1
            obtain ⟨k1, k2, k3⟩ := toPy_ok dt 40 _ e2
            obtain ⟨hj1, hj2, hj3⟩ := List.findIdx?_eq_some_iff_getElem.mp hj
            rw [plain_list] at k2
            refine ⟨ad, w, v, us, j, us[j], rfl, rfl, k1, h1, k2, h2, by omega, List.getElem?_eq_getElem hj1, hj2, fun m z hm hz => ?_, res_sh hs q (Dat.int _)⟩
            obtain ⟨hm1, rfl⟩ := List.getElem?_eq_some_iff.mp hz
            have := hj3 m hm
            simpa using this
        | _ => simp only [e1, e2] at e'; cases e'
end
end Fw
set_option Elab.async false
set_option linter.all false
set_option maxRecDepth 100000
namespace Fw
open PySem PySem.Spec PyProof.Rows L2
/-! ### sorted of ints, or of pairs of ints -/
def leI (a b : Int) : Bool := decide (a ≤ b)
def sortInts (ns : List Int) : List Int := ns.mergeSort leI
def gSortA : List D → Option ER
  | [.lst ds] => match intsOf? ds with
    | some ns => some (.fr (.lst ((sortInts ns).map D.int)))
    | none => gSortP [.lst ds]
  | _ => none
theorem leI_trans (a b c : Int) (h1 : leI a b = true) (h2 : leI b c = true) : leI a c = true := by
  unfold leI at *
  rw [decide_eq_true_eq] at *
  omega
theorem leI_total (a b : Int) : (leI a b || leI b a) = true := by
  unfold leI
  rw [Bool.or_eq_true, decide_eq_true_eq, decide_eq_true_eq]
  omega
theorem sortI_perm (ns : List Int) : (sortInts ns).Perm ns := List.mergeSort_perm ns leI
theorem sortI_sorted (ns : List Int) : (sortInts ns).Pairwise (· ≤ ·) := by
  have h : (sortInts ns).Pairwise (fun a b => leI a b = true) := List.pairwise_mergeSort leI_trans leI_total ns
  exact h.imp fun {a b} h => of_decide_eq_true h
theorem sortI_unique {l m : List Int} : l.Perm m → l.Pairwise (· ≤ ·) → m.Pairwise (· ≤ ·) → l = m := by
  induction l generalizing m with
  | nil => intro p _ _; exact (List.Perm.nil_eq p)
  | cons x l ih =>
    intro p h1 h2
    cases m with
    | nil => exact absurd p.length_eq (by simp)
    | cons y m =>
      have hx : x ∈ y :: m := p.subset (List.mem_cons_self)
      have hy : y ∈ x :: l := p.symm.subset (List.mem_cons_self)
      have e : x = y := by
        rcases List.mem_cons.mp hx with z | z
        · exact z
        · rcases List.mem_cons.mp hy with w | w
          · exact w.symm
          · have a := (List.pairwise_cons.mp h1).1 y w
            have b := (List.pairwise_cons.mp h2).1 x z
            omega
      subst e
      rw [ih ((List.perm_cons x).mp p) (List.pairwise_cons.mp h1).2 (List.pairwise_cons.mp h2).2]
def rSortedA (K : PySem.W.Frag) : List V → Hp → VK → Prop := fun vs H Q => rSortedI K vs H Q ∨ rSortedPO K vs H Q
section
variable {W : Wc} {X : Cx}
theorem cr_sortedA : CallR X (.builtin "sorted") (rSortedA X.K) := by
  intro pins s σ H vs us Q I r h
  rcases h with h | h
  · exact cr_sortedI _ _ _ _ _ _ _ I r h
  · exact cr_sortedPO _ _ _ _ _ _ _ I r h
theorem s_sortA : CallS W (rSortedA W.K) gSortA := by
  intro F H xs ds r Q hs hv e q
  match ds, e with
  | [.lst ds], e =>
    have e' : (match intsOf? ds with | some ns => some (ER.fr (.lst ((sortInts ns).map D.int))) | none => gSortP [.lst ds]) = some r := e
    split at e'
    · rename_i ns hp
      cases e'
      obtain ⟨v, rfl, vb⟩ := vbs1 hv
      obtain ⟨a, vs, rfl, k, l⟩ := vb.lst hs
      rw [intsOf_ok hp] at l
      rw [DL.ints l] at k
      refine .inl ⟨a, ns, rfl, SqL.of k, fun ns' p pm st hp' => ?_⟩
      have e1 : ns' = sortInts ns := sortI_unique (pm.trans (sortI_perm ns).symm) st (sortI_sorted ns)
      subst e1
      exact res_lst hs q (DL.of_ints _) p hp'
    · exact .inr (s_sortP _ _ _ _ _ _ hs hv e' q)
end
end Fw
set_option Elab.async false
set_option linter.all false
set_option maxRecDepth 100000
namespace Fw
open PySem PySem.Spec PyProof.Rows L2
/-! ### min and max of a list of ints, with default= -/
def leastL (x : Int) (xs : List Int) : Int := xs.foldl (fun a y => if y < a then y else a) x
def mostL (x : Int) (xs : List Int) : Int := xs.foldl (fun a y => if a < y then y else a) x
def dMinD (x y : D) : Option ER := match x with
  | .lst ds => (match intsOf? ds with
    | some [] => some (.sh y)
    | some (n :: ns) => some (.sh (.int (leastL n ns)))
    | none => none)
  | _ => none
def dMaxD (x y : D) : Option ER := match x with
  | .lst ds => (match intsOf? ds with
    | some [] => some (.sh y)
    | some (n :: ns) => some (.sh (.int (mostL n ns)))
    | none => none)
  | _ => none
theorem least_eq (x : Int) (xs : List Int) : PySem.W.minOf x xs = leastL x xs := by
  unfold PySem.W.minOf leastL
  congr 1
  funext a y
  show (if decide (y < a) = true then y else a) = _
  by_cases h : y < a
  · rw [if_pos (decide_eq_true h), if_pos h]
  · rw [if_neg (by simpa using h), if_neg h]
theorem most_eq (x : Int) (xs : List Int) : PySem.W.maxOf x xs = mostL x xs := by
  unfold PySem.W.maxOf mostL
  congr 1
  funext a y
  show (if decide (a < y) = true then y else a) = _
  by_cases h : a < y
  · rw [if_pos (decide_eq_true h), if_pos h]
  · rw [if_neg (by simpa using h), if_neg h]
def rBestD (K : PySem.W.Frag) (best : Int → List Int → Int) : List V → List V → Hp → VK → Prop := fun vs zs H Q => ∃ (a : Addr) (ns : List Int) (d : V), vs = [V.ref a] ∧ zs = [d] ∧ SqL K H a (ns.map V.int) ∧ (ns = [] → Q d H) ∧ (∀ n ms, ns = n :: ms → Q (.int (best n ms)) H)
def r2K (r : List V → List V → Hp → VK → Prop) : R2 := fun x y H Q => r [x] [y] H Q
section
variable {W : Wc} {E : St → XK} {X : Cx} {a b c o : Expr} {es : List Expr} {fa fb fc : M ER} {pos apos : Pos} {G : Gc} {en : En} {σ : St} {F H : Hp}
theorem cr_minD (hc : X.calm = true) (hu : X.A.units + 1 < cLine) : CallRK X (.builtin "min") [Str.ofString "default"] (rBestD X.K leastL) := by
  intro pins s σ H vs zs us ws Q I r rz h
  obtain ⟨a, ns, d, rfl, rfl, hs, q1, q2⟩ := h
  obtain ⟨its, rv, hl, _⟩ := I.list hs
  obtain rfl := Vals.ref1 r
  obtain ⟨w, rfl, rd⟩ := vals1 rz
  refine PySem.W.min_list_datum_default (α := Int) (xs := ns) (I.ok.hd hc) hl.isList (PySem.W.HoldAll.of_ints rv.ints) hu (fun e h' tk hk => ⟨d, H, I.kept hk, rd, q1 e⟩) fun y ys i v h' tk e hv Hd hk => ?_
  obtain ⟨t, rfl⟩ := PySem.W.int_of_holds Hd
  refine ⟨.int (leastL y ys), H, I.kept hk, ⟨t, by rw [least_eq]⟩, q2 y ys e⟩
theorem cr_maxD' (hc : X.calm = true) (hu : X.A.units + 1 < cLine) : CallRK X (.builtin "max") [Str.ofString "default"] (rBestD X.K mostL) := by
  intro pins s σ H vs zs us ws Q I r rz h
  obtain ⟨a, ns, d, rfl, rfl, hs, q1, q2⟩ := h
  obtain ⟨its, rv, hl, _⟩ := I.list hs
  obtain rfl := Vals.ref1 r
  obtain ⟨w, rfl, rd⟩ := vals1 rz
  refine PySem.W.max_list_datum_default (α := Int) (xs := ns) (I.ok.hd hc) hl.isList (PySem.W.HoldAll.of_ints rv.ints) hu (fun e h' tk hk => ⟨d, H, I.kept hk, rd, q1 e⟩) fun y ys i v h' tk e hv Hd hk => ?_
  obtain ⟨t, rfl⟩ := PySem.W.int_of_holds Hd
  refine ⟨.int (mostL y ys), H, I.kept hk, ⟨t, by rw [most_eq]⟩, q2 y ys e⟩
theorem s_bestD {best : Int → List Int → Int} {g : D → D → Option ER} (hg : ∀ x y r, g x y = some r → ∃ ds ns, x = .lst ds ∧ intsOf? ds = some ns ∧ ((ns = [] ∧ r = .sh y) ∨ ∃ n ms, ns = n :: ms ∧ r = .sh (.int (best n ms))))
    (hn : ∀ x y r, g x y = some r → y = .non ∨ ∃ i, y = .int i) : OpS W (r2K (rBestD W.K best)) g := by
  intro F H x y dx dy r Q hs hx hy e q
  obtain ⟨ds, ns, rfl, hi, h⟩ := hg _ _ _ e
  have hd := hn _ _ _ e
  obtain ⟨p, vs, rfl, k, l⟩ := hx.lst hs
  rw [intsOf_ok hi] at l
  rw [DL.ints l] at k
  refine ⟨p, ns, y, rfl, rfl, SqL.of k, fun e0 => ?_, fun n ms e0 => ?_⟩
  · rcases h with ⟨_, rfl⟩ | ⟨n, ms, e1, _⟩
    · rcases hd with rfl | ⟨i, rfl⟩
      · exact res_sh hs q (by rw [hy.non]; exact Dat.non)
      · exact res_sh hs q (by rw [hy.int]; exact Dat.int _)
    · rw [e0] at e1; cases e1
  · rcases h with ⟨e1, _⟩ | ⟨n', ms', e1, rfl⟩
    · rw [e0] at e1; cases e1
    · rw [e0] at e1
      cases e1
      exact res_sh hs q (Dat.int _)
def plainE (y : D) : Bool := match y with
  | .non => true
  | .int _ => true
  | _ => false
def dMinK (x y : D) : Option ER := if plainE y = true then dMinD x y else none
def dMaxK (x y : D) : Option ER := if plainE y = true then dMaxD x y else none
theorem plainE_ok {y : D} (h : plainE y = true) : y = .non ∨ ∃ i, y = .int i := by
  cases y <;> first | exact .inl rfl | exact .inr ⟨_, rfl⟩ | (exact absurd h (by decide)) | cases h
theorem s_minD : OpS W (r2K (rBestD W.K leastL)) dMinK := by
  refine s_bestD (fun x y r e => ?_) fun x y r e => ?_
  · unfold dMinK at e
    split at e
    · unfold dMinD at e
      split at e
      · rename_i ds
        split at e
        · rename_i h; cases e; exact ⟨_, _, rfl, h, .inl ⟨rfl, rfl⟩⟩
        · rename_i n ns h; cases e; exact ⟨_, _, rfl, h, .inr ⟨n, ns, rfl, rfl⟩⟩
        · cases e
      · cases e
    · cases e
  · unfold dMinK at e
    split at e
    · rename_i h; exact plainE_ok h
    · cases e
theorem s_maxD : OpS W (r2K (rBestD W.K mostL)) dMaxK := by
  refine s_bestD (fun x y r e => ?_) fun x y r e => ?_
  · unfold dMaxK at e
    split at e
    · unfold dMaxD at e
      split at e
      · rename_i ds
        split at e
        · rename_i h; cases e; exact ⟨_, _, rfl, h, .inl ⟨rfl, rfl⟩⟩
        · rename_i n ns h; cases e; exact ⟨_, _, rfl, h, .inr ⟨n, ns, rfl, rfl⟩⟩
        · cases e
      · cases e
    · cases e
  · unfold dMaxK at e
    split at e
    · rename_i h; exact plainE_ok h
    · cases e
/-- f(a, nm=k) -/
theorem ev_bk {x nm : Str} {p kpos : Pos} {id : String} {r : List V → List V → Hp → VK → Prop} {g : D → D → Option ER} (hc : CallRK X (.builtin id) [nm] r) (S : OpS W (r2K r) g) (hm : X.mg x = none) (ha : EV W E X a fa) (hb : EV W E X b fb) (hv : bootBuiltins x = some (.builtin id) := by decide +kernel) (hg : Gl X x := by rfl) (hn : x ≠ "__name__" := by decide) (hdb : (x == ("__debug__" : Str)) = false := by decide)
    (hs : starEach [a] X.env = (false, eval a X.env) :: starEach [] X.env := by rfl)
    (he : backTo pos (starEach [a] X.env) = (false, eval a X.env) :: backTo pos (starEach [] X.env) := by rfl) (hpl : (backTo pos (starEach [a] X.env)).any (·.1) = false := by rfl)
    (hall : (backToKw pos (keywordEach [⟨some nm, b, kpos⟩] X.env)).all (·.1.isSome) = true := by rfl) (hnone : (backToKw pos (keywordEach [⟨some nm, b, kpos⟩] X.env)).any (·.1.isNone) = false := by rfl) (hks : (backToKw pos (keywordEach [⟨some nm, b, kpos⟩] X.env)).filterMap (·.1) = [nm] := by rfl) :
    EV W E X (.Call (.Name x p) [a] [⟨some nm, b, kpos⟩] pos) (e2 g fa fb) := by
  refine PE.imp (pe_callBK hc hg hm hv (pa_cons ha pa_nil hs) (pk_cons hb pk_nil) hn hdb he hpl hall hnone hks) fun σ H Q hq => ?_
  obtain ⟨G, F, en, R, h⟩ := tE.out.mp hq
  show tE W E fa σ H fun x H1 => tE W E fb σ H1 fun y H2 => r2K r x y H2 Q
  refine ev_then R h fun ra en1 x F1 H1 h1 R1 x1 va => ?_
  refine ev_then R1 h1 fun rb en2 y F2 H2 h2 R2 x2 vb => ?_
  exact op2_out S R2 (va.mono x2) vb h2 fun r v F' H' A s n => A v F' H' (R2.stp s) ((x1.trans x2).trans s.ex) (n.vr R2)
end
end Fw
set_option Elab.async false
set_option linter.all false
set_option maxRecDepth 100000
namespace Fw
open PySem PySem.Spec PyProof.Rows L2
local macro_rules | `(tactic| walk_at "ev") => `(tactic| simp only [Fw.defN, Fw.defX, Fw.arity_ap, Fw.mkN_ap, Fw.mkF_ap, Fw.eC_ap, Fw.eVar_ap, Fw.e2_ap, Fw.op2_ap, Fw.cur_sh, Fw.cur_fr, Fw.cur_bo, Fw.e1_ap, Fw.eA_nil, Fw.eA_cons, Fw.eB_ap, Fw.curs_nil, Fw.curs_cons, Fw.eTup_ap, Fw.eLst_ap, Fw.shrs_nil, Fw.shrs_cons, Fw.shr_sh, Fw.shr_fr, Fw.shr_bo, Fw.eF_ap, Fw.callM_ap, Fw.sSeq_ap, Fw.sSet_ap, Fw.then_ok, Fw.put_ap, Fw.sExpr_ap, Fw.sRet_ap, Fw.retR_sh, Fw.retR_fr, Fw.retR_bo, Fw.sIf_ap, Fw.mB_ap, Fw.toB_bl, Fw.mT_ap, Fw.mAnd_ap, Fw.mOr_ap, Fw.mNot_ap, Fw.eAnd_ap, Fw.eOr_ap, Fw.eNot_ap, Fw.eIf_ap, Fw.eChain_ap, Fw.sNil_ap, Fw.sFg_ap, Fw.wipeE_nil, Fw.wipeE_cons, Fw.eMut_ap, Fw.eMetS_ap, Fw.afterF, Fw.toF, Fw.sAsg_ap, Fw.R.bind_ok, Fw.R.bind_exc, Fw.R.bind_bad, Fw.R.then,
  List.length_cons, List.length_nil, List.cons_append, List.nil_append, List.append_nil, List.replicate_succ, List.replicate_zero, List.getElem?_cons_zero, List.getElem?_cons_succ, List.set_cons_zero, List.set_cons_succ, Option.bind_some, Option.bind_none, Fw.dat_sh, Fw.dat_ow, Fw.dat_pn, Fw.dat_lk, Fw.pn_un, Fw.pn_sh, Fw.pn_ow, Fw.mu_ow, Fw.mu_pn, Fw.own_ow, Fw.own_pn, Fw.own_lk, Fw.lock_ow, Fw.lock_pnT, Fw.lock_pnF, Fw.lock_lk, Fw.with_ow, Fw.with_pn, if_true, if_false, Bool.false_eq_true, Bool.true_eq_false, ite_true, ite_false, reduceIte,
  Fw.ix_lst, Fw.ix_rol, Fw.ix_tup, Fw.ix_rot, Fw.at0, Fw.at1, Fw.at2, Fw.at3, Fw.at4, Fw.atm1, Fw.add_int, Fw.add_lst, Fw.add_tup, Fw.add_str, Fw.sub_int, Fw.mul_mod, Fw.mul_r, Fw.mul_l, Fw.div_int, Fw.mod_int, Fw.p10_8, Fw.p10_18, Fw.pow_int, Fw.neg_int, Fw.cmp_int, Fw.is_non, Fw.isnot_non, Fw.isNon_non, Fw.isNon_int, Fw.isNon_str, Fw.isNon_lst, Fw.isNon_tup, Fw.eq_int, Fw.ne_int, Fw.eq_str, Fw.ne_str, Fw.len_lst, Fw.len_rol, Fw.len_tup, Fw.len_str, Fw.max2_int, Fw.min2_int, Fw.int_int, Fw.int_bl, Fw.list_lst, Fw.list_tup, Fw.tuple_lst, Fw.tuple_tup, Fw.append_lst, Fw.tru_bl, Fw.tru_lst, Fw.sl_rol, Fw.sl_lst,
  Fw.cellAt_ap, Fw.kind_lst, Fw.putD_ap, Fw.sPut_ap, Fw.putAt_ap, Fw.set_last, Fw.set0, Fw.set1, Fw.set2, Fw.pass_nil, Fw.pass_n, Fw.pass_c, Fw.passArg_sh, Fw.passArg_fr, Fw.passArg_boF, Fw.passArg_boT, Fw.ioOk_n, Fw.ioOk_nil, Fw.ioOk_bo, Fw.ioOk_sh, Fw.ioOk_fr, Fw.bo_nil, Fw.bo_bo, Fw.bo_sh, Fw.bo_fr, Fw.io_n, Fw.io_nil, Fw.io_T, Fw.io_F, Fw.outs_nil, Fw.outs_T, Fw.outs_F, Fw.outs_sh, Fw.putOuts_nil, Fw.putOuts_cons, Fw.gN_ap, Fw.gT_tup, Fw.gAll_nil, Fw.gAll_cons, Fw.sFor_ap, Fw.eLc_ap, Fw.back_nx, Fw.back_rt, Fw.iSeq_ap, Fw.seq_lst, Fw.seq_tup, Fw.iB_ap, Fw.yes_ap, Fw.eSl_ap, Fw.part_none, Fw.part_some, Fw.partR_int, Fw.rest_nil, Fw.rest_cons, Fw.keep_sh, Fw.keep_un, Fw.keep_none,
  List.map_nil, List.map_cons, List.contains_nil, List.contains_cons, Bool.not_false, Bool.not_true, Bool.and_self, Bool.and_true, Bool.true_and, Bool.false_and, Bool.and_false, Bool.or_true, Bool.true_or, Bool.or_false, Bool.false_or, Nat.reduceAdd, Nat.reduceSub, Nat.reduceEqDiff, Nat.reduceBEq, decide_true, decide_false, Int.reduceLT, Int.reduceLE, Int.reduceNeg, Int.reducePow, Int.reduceToNat, Nat.reducePow, Nat.reduceLT, Nat.reduceLeDiff, and_true, true_and, and_self, not_true_eq_false, not_false_eq_true,
  Fw.eNew_ap, Fw.newOf_ap, Fw.gU_lst, Fw.gTU_lst, Fw.gTU_tup, Fw.sAsg2_ap, Fw.rev_lst, Fw.rev_rol, Fw.eFf_ap, Fw.eDict0_ap, Fw.iS_ap, Fw.sRetN_ap, Fw.sPass_ap, Fw.sBreak_ap, Fw.sCont_ap, Fw.i_and, Fw.i_or, Fw.i_andE, Fw.i_orE, Fw.i_int, Fw.i_str, Fw.at5, Fw.at6, Fw.at7, Fw.at8, Fw.at9, Fw.at10, Fw.at11, Fw.at12, Fw.at13, Fw.at14, Fw.at15, Fw.at16, Fw.at17, Fw.at18, Fw.at19, Fw.at20, Fw.at21, Fw.at22, Fw.at23, Fw.at24, Fw.eFK_ap, Fw.permM_cons, Fw.pick_nil, Fw.pick_cons, Fw.noT_sh, Fw.noT_pn, Fw.inB_def, Fw.eMeth_ap, Fw.eMk_ap, Fw.popN_ok, Fw.popN_exc, Fw.sRaise_ap, Fw.sTry_ap, Fw.eXf_ap, Fw.lookX_ap, Fw.endS_nx, Fw.endS_rt, Fw.isX_ty, Fw.isX_cl, Fw.isX_tup, Fw.then_exc, true_or, or_false, or_true, List.lookup_cons, List.lookup_nil, List.take_zero, List.take_succ_cons, List.drop_zero, List.drop_succ_cons, List.all_cons, List.all_nil, List.dropLast_cons₂, List.dropLast_singleton, _root_.eq_self, Nat.reduceBEq, Nat.zero_add, Nat.reduceLeDiff, Nat.sub_self, Nat.lt_irrefl, Nat.add_zero, Fw.lc_nil, Fw.lc_consN, Fw.loop_nil, Fw.loop_cons, Fw.rng1_1, Fw.rng1_2, Fw.rng1_3, Fw.rng1_4, Fw.rng1_5, Fw.rng1_6, Fw.rng1_7, Fw.rng1_8, Fw.rng1_9, Fw.rng1_10, Fw.rng1_11, Fw.rng1_12, Fw.rng2_3_8, Fw.rng2_3_6, Fw.rng2_1_3, Fw.rng2_1_4, Fw.rng2_2_5, Fw.sPar_ap, Fw.eP_nil, Fw.eP_cons, Fw.nrm_sh, Fw.nrm_fr, Fw.nrm_bo, Fw.puts_nil, Fw.puts_cons, Fw.put1_sh, Fw.put1_fr, Fw.eMetL_ap, Fw.isLst_lst, Fw.kind_dk, Fw.eGet1_ap, Fw.eGet2_ap, Fw.getK_ap, Fw.dkAt_ap, Fw.shOf_sh, Fw.key_str, Fw.key_int, Fw.in2_str, Fw.nin2_str, Option.getD_some, Option.getD_none, Option.isSome_some, Option.isSome_none, *])
local macro_rules | `(tactic| walk_at "e0") => `(tactic| simp only [Fw.defN, Fw.defX, Fw.arity_ap, Fw.mkN_ap, Fw.mkF_ap, Fw.eC_ap, Fw.eVar_ap, Fw.e2_ap, Fw.op2_ap, Fw.cur_sh, Fw.cur_fr, Fw.cur_bo, Fw.e1_ap, Fw.eA_nil, Fw.eA_cons, Fw.eB_ap, Fw.curs_nil, Fw.curs_cons, Fw.eTup_ap, Fw.eLst_ap, Fw.shrs_nil, Fw.shrs_cons, Fw.shr_sh, Fw.shr_fr, Fw.shr_bo, Fw.eF_ap, Fw.callM_ap, Fw.sSeq_ap, Fw.sSet_ap, Fw.then_ok, Fw.put_ap, Fw.sExpr_ap, Fw.sRet_ap, Fw.retR_sh, Fw.retR_fr, Fw.retR_bo, Fw.sIf_ap, Fw.mB_ap, Fw.toB_bl, Fw.mT_ap, Fw.mAnd_ap, Fw.mOr_ap, Fw.mNot_ap, Fw.eAnd_ap, Fw.eOr_ap, Fw.eNot_ap, Fw.eIf_ap, Fw.eChain_ap, Fw.sNil_ap, Fw.sFg_ap, Fw.wipeE_nil, Fw.wipeE_cons, Fw.eMut_ap, Fw.eMetS_ap, Fw.afterF, Fw.toF, Fw.sAsg_ap, Fw.R.bind_ok, Fw.R.bind_exc, Fw.R.bind_bad, Fw.R.then,
  List.length_cons, List.length_nil, List.cons_append, List.nil_append, List.append_nil, List.replicate_succ, List.replicate_zero, List.getElem?_cons_zero, List.getElem?_cons_succ, List.set_cons_zero, List.set_cons_succ, Option.bind_some, Option.bind_none, Fw.dat_sh, Fw.dat_ow, Fw.dat_pn, Fw.dat_lk, Fw.pn_un, Fw.pn_sh, Fw.pn_ow, Fw.mu_ow, Fw.mu_pn, Fw.own_ow, Fw.own_pn, Fw.own_lk, Fw.lock_ow, Fw.lock_pnT, Fw.lock_pnF, Fw.lock_lk, Fw.with_ow, Fw.with_pn, if_true, if_false, Bool.false_eq_true, Bool.true_eq_false, ite_true, ite_false, reduceIte,
  Fw.ix_lst, Fw.ix_rol, Fw.ix_tup, Fw.ix_rot, Fw.at0, Fw.at1, Fw.at2, Fw.at3, Fw.at4, Fw.atm1, Fw.add_int, Fw.add_lst, Fw.add_tup, Fw.add_str, Fw.sub_int, Fw.mul_mod, Fw.mul_r, Fw.mul_l, Fw.div_int, Fw.mod_int, Fw.p10_8, Fw.p10_18, Fw.pow_int, Fw.neg_int, Fw.cmp_int, Fw.is_non, Fw.isnot_non, Fw.isNon_non, Fw.isNon_int, Fw.isNon_str, Fw.isNon_lst, Fw.isNon_tup, Fw.eq_int, Fw.ne_int, Fw.eq_str, Fw.ne_str, Fw.len_lst, Fw.len_rol, Fw.len_tup, Fw.len_str, Fw.max2_int, Fw.min2_int, Fw.int_int, Fw.int_bl, Fw.list_lst, Fw.list_tup, Fw.tuple_lst, Fw.tuple_tup, Fw.append_lst, Fw.tru_bl, Fw.tru_lst, Fw.sl_rol, Fw.sl_lst,
  Fw.cellAt_ap, Fw.kind_lst, Fw.putD_ap, Fw.sPut_ap, Fw.putAt_ap, Fw.set_last, Fw.set0, Fw.set1, Fw.set2, Fw.pass_nil, Fw.pass_n, Fw.pass_c, Fw.passArg_sh, Fw.passArg_fr, Fw.passArg_boF, Fw.passArg_boT, Fw.ioOk_n, Fw.ioOk_nil, Fw.ioOk_bo, Fw.ioOk_sh, Fw.ioOk_fr, Fw.bo_nil, Fw.bo_bo, Fw.bo_sh, Fw.bo_fr, Fw.io_n, Fw.io_nil, Fw.io_T, Fw.io_F, Fw.outs_nil, Fw.outs_T, Fw.outs_F, Fw.outs_sh, Fw.putOuts_nil, Fw.putOuts_cons, Fw.gN_ap, Fw.gT_tup, Fw.gAll_nil, Fw.gAll_cons, Fw.sFor_ap, Fw.eLc_ap, Fw.back_nx, Fw.back_rt, Fw.iSeq_ap, Fw.seq_lst, Fw.seq_tup, Fw.iB_ap, Fw.yes_ap, Fw.eSl_ap, Fw.part_none, Fw.part_some, Fw.partR_int, Fw.rest_nil, Fw.rest_cons, Fw.keep_sh, Fw.keep_un, Fw.keep_none,
  List.map_nil, List.map_cons, List.contains_nil, List.contains_cons, Bool.not_false, Bool.not_true, Bool.and_self, Bool.and_true, Bool.true_and, Bool.false_and, Bool.and_false, Bool.or_true, Bool.true_or, Bool.or_false, Bool.false_or, Nat.reduceAdd, Nat.reduceSub, Nat.reduceEqDiff, Nat.reduceBEq, decide_true, decide_false, Int.reduceLT, Int.reduceLE, Int.reduceNeg, Int.reducePow, Int.reduceToNat, Nat.reducePow, Nat.reduceLT, Nat.reduceLeDiff, and_true, true_and, and_self, not_true_eq_false, not_false_eq_true,
  Fw.eNew_ap, Fw.newOf_ap, Fw.gU_lst, Fw.gTU_lst, Fw.gTU_tup, Fw.sAsg2_ap, Fw.rev_lst, Fw.rev_rol, Fw.eFf_ap, Fw.eDict0_ap, Fw.iS_ap, Fw.sRetN_ap, Fw.sPass_ap, Fw.sBreak_ap, Fw.sCont_ap, Fw.i_and, Fw.i_or, Fw.i_andE, Fw.i_orE, Fw.i_int, Fw.i_str, Fw.at5, Fw.at6, Fw.at7, Fw.at8, Fw.at9, Fw.at10, Fw.at11, Fw.at12, Fw.at13, Fw.at14, Fw.at15, Fw.at16, Fw.at17, Fw.at18, Fw.at19, Fw.at20, Fw.at21, Fw.at22, Fw.at23, Fw.at24, Fw.eFK_ap, Fw.permM_cons, Fw.pick_nil, Fw.pick_cons, Fw.noT_sh, Fw.noT_pn, Fw.inB_def, Fw.eMeth_ap, Fw.eMk_ap, Fw.popN_ok, Fw.popN_exc, Fw.sRaise_ap, Fw.sTry_ap, Fw.eXf_ap, Fw.lookX_ap, Fw.endS_nx, Fw.endS_rt, Fw.isX_ty, Fw.isX_cl, Fw.isX_tup, Fw.then_exc, true_or, or_false, or_true, List.lookup_cons, List.lookup_nil, List.take_zero, List.take_succ_cons, List.drop_zero, List.drop_succ_cons, List.all_cons, List.all_nil, List.dropLast_cons₂, List.dropLast_singleton, _root_.eq_self, Nat.reduceBEq, Nat.zero_add, Nat.reduceLeDiff, Nat.sub_self, Nat.lt_irrefl, Nat.add_zero, Fw.lc_nil, Fw.lc_consN, Fw.loop_nil, Fw.loop_cons, Fw.rng1_1, Fw.rng1_2, Fw.rng1_3, Fw.rng1_4, Fw.rng1_5, Fw.rng1_6, Fw.rng1_7, Fw.rng1_8, Fw.rng1_9, Fw.rng1_10, Fw.rng1_11, Fw.rng1_12, Fw.rng2_3_8, Fw.rng2_3_6, Fw.rng2_1_3, Fw.rng2_1_4, Fw.rng2_2_5, Fw.sPar_ap, Fw.eP_nil, Fw.eP_cons, Fw.nrm_sh, Fw.nrm_fr, Fw.nrm_bo, Fw.puts_nil, Fw.puts_cons, Fw.put1_sh, Fw.put1_fr, Fw.eMetL_ap, Fw.isLst_lst, Fw.kind_dk, Fw.eGet1_ap, Fw.eGet2_ap, Fw.getK_ap, Fw.dkAt_ap, Fw.shOf_sh, Fw.key_str, Fw.key_int, Fw.in2_str, Fw.nin2_str, Option.getD_some, Option.getD_none, Option.isSome_some, Option.isSome_none])
local macro_rules | `(tactic| walk_at "go") => `(tactic| repeat' (first | done | rfl | (walk_at "ev"; done) | (split <;> try walk_at "ev")))
/-! ### some value of a kind: what a def draws out of its well (slot 0), kinds alone -/
def Sb (n : Nat) (d : D) : Prop := ∃ s : Str, d = .str s ∧ s.length ≤ n
def Ib (a b : Int) (d : D) : Prop := ∃ i : Int, d = .int i ∧ a ≤ i ∧ i < b
def Bb (d : D) : Prop := ∃ b : Bool, d = .bl b
section
variable {ω : Type} (E : ω → D)
def wE (w : ω) : Sl := .pn true (E w)
def Ts (f : M ER) (rest : En) (P : D → Prop) : Prop := ∀ w, ∃ w' d, f (wE E w :: rest) = .ok (.sh d) (wE E w' :: rest) ∧ P d
/-- a list of just n -/
def Tl (f : M ER) (rest : En) (n : Nat) (P : D → Prop) : Prop := ∀ w, ∃ w' r ds, f (wE E w :: rest) = .ok r (wE E w' :: rest) ∧ (∀ w'', cur (wE E w'' :: rest) r = some (.lst ds)) ∧ ds.length = n ∧ ∀ x ∈ ds, P x
/-- a new list of n at most -/
def Tc (f : M ER) (rest : En) (n : Nat) (P : D → Prop) : Prop := ∀ w, ∃ w' ds, f (wE E w :: rest) = .ok (.fr (.lst ds)) (wE E w' :: rest) ∧ ds.length ≤ n ∧ ∀ x ∈ ds, P x
def TlF (f : M ER) (rest : En) (n : Nat) (P : D → Prop) : Prop := ∀ w, ∃ w' ds, f (wE E w :: rest) = .ok (.fr (.lst ds)) (wE E w' :: rest) ∧ ds.length = n ∧ ∀ x ∈ ds, P x
def Tb (f : M Bool) (rest : En) : Prop := ∀ w, ∃ w' b, f (wE E w :: rest) = .ok b (wE E w' :: rest)
def Ht (st : SM) (rest : En) (Q : En → Prop) (P : D → Prop) : Prop := ∀ w, (∃ w' rest', st (wE E w :: rest) = .nx (wE E w' :: rest') ∧ Q rest' ∧ rest'.length = rest.length) ∨ ∃ w' d en', st (wE E w :: rest) = .rt (.sh d) (wE E w' :: en') ∧ P d ∧ en'.length = rest.length
def DrawOk (m : FM) : Prop := ∀ w (k : Int), 0 < k → k < 1073741824 → ∃ r w', 0 ≤ r ∧ r < k ∧ m [.pn true (E w), .sh (.int k)] = .ok (.sh (.int r)) [E w']
def Mk1 (m : FM) (P : D → Prop) : Prop := ∀ w, ∃ w' d, m [.pn true (E w)] = .ok (.sh d) [E w'] ∧ P d
def Mk2 (m : FM) (R P : D → Prop) : Prop := ∀ w x, R x → ∃ w' d, m [.pn true (E w), .sh x] = .ok (.sh d) [E w'] ∧ P d
end
section
variable {ω : Type} {E : ω → D} {rest : En} {P R R1 R2 : D → Prop} {a b c fa fb : M ER} {n m i : Nat}
theorem set_same {rest : En} {j : Nat} {s : Sl} (h : rest[j]? = some s) : rest.set j s = rest := by
  refine List.ext_getElem? fun q => ?_
  by_cases hq : j = q
  · subst hq
    rcases Nat.lt_or_ge j rest.length with l | l
    · rw [List.getElem?_set_self l, h]
    · rw [List.getElem?_eq_none l] at h; cases h
  · rw [List.getElem?_set_ne hq]
theorem Sb.le {n m : Nat} {d : D} (h : Sb n d) (l : n ≤ m) : Sb m d := by obtain ⟨s, e, hs⟩ := h; exact ⟨s, e, by omega⟩
theorem Ib.le {a b c e : Int} {d : D} (h : Ib a b d) (l1 : c ≤ a) (l2 : b ≤ e) : Ib c e d := by obtain ⟨s, e, h1, h2⟩ := h; exact ⟨s, e, by omega, by omega⟩
theorem Ts.imp (h : Ts E a rest R) (g : ∀ d, R d → P d) : Ts E a rest P := fun w => by obtain ⟨w', d, e, hd⟩ := h w; exact ⟨w', d, e, g d hd⟩
theorem ts_c {d : D} (h : P d) : Ts E (eC d) rest P := fun w => ⟨w, d, rfl, h⟩
theorem ts_s {s : Str} (h : s.length ≤ n) : Ts E (eC (.str s)) rest (Sb n) := ts_c ⟨s, rfl, h⟩
theorem ts_i {i : Int} {x y : Int} (h : x ≤ i) (h2 : i < y) : Ts E (eC (.int i)) rest (Ib x y) := ts_c ⟨i, rfl, h, h2⟩
theorem ts_v {d : D} (h : rest[i]? = some (.sh d)) (hp : P d) : Ts E (eVar (i + 1)) rest P := fun w => ⟨w, d, by
  rw [eVar_ap]
  show (match (wE E w :: rest)[i + 1]? with
    | some (.sh d) => R.ok (ER.sh d) (wE E w :: rest)
    | some (.ow _) => .ok (.bo (i + 1)) (wE E w :: rest)
    | some (.pn _ _) => .ok (.bo (i + 1)) (wE E w :: rest)
    | some (.lk _) => .ok (.bo (i + 1)) (wE E w :: rest)
    | _ => .bad) = _
  rw [List.getElem?_cons_succ, h], hp⟩
theorem ts_op2 {g : D → D → Option ER} (ha : Ts E a rest R1) (hb : Ts E b rest R2) (hg : ∀ x y, R1 x → R2 y → ∃ z, g x y = some (.sh z) ∧ P z) : Ts E (e2 g a b) rest P := fun w => by
  obtain ⟨w1, x, e1, h1⟩ := ha w
  obtain ⟨w2, y, e2', h2⟩ := hb w1
  obtain ⟨z, e3, h3⟩ := hg x y h1 h2
  refine ⟨w2, z, ?_, h3⟩
  walk_at "ev"
theorem ts_b1 {g : List D → Option ER} (ha : Ts E a rest R) (hg : ∀ x, R x → ∃ z, g [x] = some (.sh z) ∧ P z) : Ts E (eB g [a]) rest P := fun w => by
  obtain ⟨w1, x, e1, h1⟩ := ha w
  obtain ⟨z, e3, h3⟩ := hg x h1
  refine ⟨w1, z, ?_, h3⟩
  walk_at "ev"
theorem ts_draw {m : FM} {k : Int} (hm : DrawOk E m) (ha : Ts E a rest (fun d => d = .int k)) (h1 : 0 < k := by decide) (h2 : k < 1073741824 := by decide) : Ts E (eF [true, false] m [] [eVar 0, a]) rest (Ib 0 k) := fun w => by
  obtain ⟨w1, x, e1, rfl⟩ := ha w
  obtain ⟨r, w2, r0, r1, e2'⟩ := hm w1 k h1 h2
  refine ⟨w2, .int r, ?_, ⟨r, rfl, r0, r1⟩⟩
  unfold wE at *
  clear h1 h2 r0 r1
  walk_at "ev"
theorem ts_drawK {m : FM} {k : Int} (hm : DrawOk E m) (h1 : 0 < k := by decide) (h2 : k < 1073741824 := by decide) : Ts E (eF [true, false] m [] [eVar 0, eC (.int k)]) rest (Ib 0 k) := ts_draw hm (ts_c rfl) h1 h2
theorem ts_drawR {m : FM} {k : Int} (hm : DrawOk E m) (ha : Ts E a rest (Ib 1 (k + 1))) (h2 : k < 1073741824 := by decide) : Ts E (eF [true, false] m [] [eVar 0, a]) rest (Ib 0 k) := fun w => by
  obtain ⟨w1, x, e1, i, rfl, i1, i2⟩ := ha w
  obtain ⟨r, w2, r0, r1, e2'⟩ := hm w1 i (by omega) (by omega)
  refine ⟨w2, .int r, ?_, ⟨r, rfl, r0, by omega⟩⟩
  unfold wE at *
  clear h2 r0 r1 i1 i2
  walk_at "ev"
theorem ts_call1 {m : FM} (hm : Mk1 E m P) : Ts E (eF [true] m [] [eVar 0]) rest P := fun w => by
  obtain ⟨w1, d, e1, h1⟩ := hm w
  refine ⟨w1, d, ?_, h1⟩
  unfold wE at *
  walk_at "ev"
theorem ts_call2 {m : FM} (hm : Mk2 E m R P) (ha : Ts E a rest R) : Ts E (eF [true, false] m [] [eVar 0, a]) rest P := fun w => by
  obtain ⟨w0, x, e0, h0⟩ := ha w
  obtain ⟨w1, d, e1, h1⟩ := hm w0 x h0
  refine ⟨w1, d, ?_, h1⟩
  unfold wE at *
  walk_at "ev"
/-! texts and whole numbers -/
theorem ty_len_app (a b : Str) : (a ++ b).length = a.length + b.length := by
  show (a.cps ++ b.cps).size = _
  simp [Str.length]
theorem ts_cat {k l : Nat} (ha : Ts E a rest (Sb k)) (hb : Ts E b rest (Sb l)) (h : k + l ≤ n) (hn : n ≤ 900000 := by decide) : Ts E (e2 dAdd a b) rest (Sb n) :=
  ts_op2 ha hb fun x y hx hy => by
    obtain ⟨s, rfl, hs⟩ := hx
    obtain ⟨t, rfl, ht⟩ := hy
    exact ⟨.str (s ++ t), add_str (by omega), s ++ t, rfl, by rw [ty_len_app]; omega⟩
theorem ts_plus {x y u v p q : Int} (ha : Ts E a rest (Ib x y)) (hb : Ts E b rest (Ib u v)) (h1 : p ≤ x + u) (h2 : y + v - 1 ≤ q) : Ts E (e2 dAdd a b) rest (Ib p q) :=
  ts_op2 ha hb fun d e hx hy => by
    obtain ⟨s, rfl, s1, s2⟩ := hx
    obtain ⟨t, rfl, t1, t2⟩ := hy
    exact ⟨.int (s + t), add_int, s + t, rfl, by omega, by omega⟩
theorem ts_times {x y u v p q : Int} (ha : Ts E a rest (Ib x y)) (hb : Ts E b rest (Ib u v)) (h0 : 0 ≤ x) (h3 : 0 ≤ u) (hv : v ≤ 1000000) (h1 : p ≤ 0) (h2 : (y - 1) * (v - 1) < q) : Ts E (e2 dMul a b) rest (Ib p q) :=
  ts_op2 ha hb fun d e hx hy => by
    obtain ⟨s, rfl, s1, s2⟩ := hx
    obtain ⟨t, rfl, t1, t2⟩ := hy
    have k1 : 0 ≤ s * t := Int.mul_nonneg (by omega) (by omega)
    have k2 : s * t ≤ (y - 1) * (v - 1) := Int.mul_le_mul (by omega) (by omega) (by omega) (by omega)
    exact ⟨.int (s * t), mul_r (by omega), s * t, rfl, by omega, by omega⟩
theorem ts_div {x y k p q : Int} (ha : Ts E a rest (Ib x y)) (hk : 0 < k ∧ k < 1073741824) (h1 : p ≤ x / k) (h2 : (y - 1) / k < q) : Ts E (e2 dDiv a (eC (.int k))) rest (Ib p q) :=
  ts_op2 (R2 := fun d => d = .int k) ha (ts_c rfl) fun d e hx hy => by
    subst hy
    obtain ⟨s, rfl, s1, s2⟩ := hx
    have l1 : x / k ≤ s / k := Int.ediv_le_ediv hk.1 s1
    have l2 : s / k ≤ (y - 1) / k := Int.ediv_le_ediv hk.1 (by omega)
    exact ⟨.int (s / k), div_int hk, s / k, rfl, by omega, by omega⟩
theorem ts_mod {x y k v : Int} (ha : Ts E a rest (Ib x y)) (hb : Ts E b rest (Ib k (v + 1))) (hk : 0 < k) : Ts E (e2 dMod a b) rest (Ib 0 v) :=
  ts_op2 ha hb fun d e hx hy => by
    obtain ⟨s, rfl, s1, s2⟩ := hx
    obtain ⟨t, rfl, t1, t2⟩ := hy
    have l1 := Int.emod_nonneg s (show t ≠ 0 by omega)
    have l2 := Int.emod_lt_of_pos s (show 0 < t by omega)
    exact ⟨.int (s % t), mod_int (by omega), s % t, rfl, by omega, by omega⟩
theorem ty_dec (i : Int) (h0 : 0 ≤ i) (h1 : i < 1000000000) : ∃ s : Str, s.length ≤ 60 ∧ gStr [.int i] = some (.sh (.str s)) := by
  obtain ⟨n, rfl⟩ := Int.eq_ofNat_of_zero_le h0
  have hn : n < 10 ^ 60 := Nat.lt_of_lt_of_le (by omega : n < 1000000000) (by decide)
  have l : (Str.ofString (toString ((n : Nat) : Int))).length ≤ 60 := by
    have e : (Str.ofString (toString ((n : Nat) : Int))).length = (Str.ofString (toString ((n : Nat) : Int))).cps.toList.length := by unfold Str.length; simp
    rw [e]
    have : (Str.ofString (toString ((n : Nat) : Int))).cps.toList = TL.numL n := TL.tl_num n
    rw [this]
    exact TL.numL_len (by decide) hn
  refine ⟨_, l, if_pos ?_⟩
  rw [Int.natAbs_natCast]
  by_cases h0 : n = 0
  · subst h0; decide
  · rw [Nat.log2_lt h0]
    exact Nat.lt_trans hn (by decide)
theorem ts_str {x y : Int} (ha : Ts E a rest (Ib x y)) (h0 : 0 ≤ x) (h1 : y ≤ 1000000000) : Ts E (eB gStr [a]) rest (Sb 60) :=
  ts_b1 ha fun d hd => by
    obtain ⟨i, rfl, i1, i2⟩ := hd
    obtain ⟨s, l, e⟩ := ty_dec i (by omega) (by omega)
    exact ⟨.str s, e, s, rfl, l⟩
theorem ts_len {k : Nat} (ha : Ts E a rest (Sb k)) (hk : k ≤ 900000 := by decide) : Ts E (eB gLen [a]) rest (Ib 0 (k + 1)) :=
  ts_b1 ha fun d hd => by
    obtain ⟨s, rfl, hs⟩ := hd
    exact ⟨.int (s.length : Nat), len_str (by omega), _, rfl, by omega, by omega⟩
theorem mul_len (s : Str) (i : Int) (n : Nat) (h : i.toNat * s.length ≤ n) : (Txt.mul s i).length ≤ n := by
  have e := PyProof.Rows.len_mul_leN (x := s) (n := i) (L := s.length) (N := i.toNat) (Nat.le_refl _) (by omega)
  rw [Nat.mul_comm] at e
  omega
theorem ts_rep {s : Str} {x y : Int} (hb : Ts E b rest (Ib x y)) (hs : s.length ≤ 1000) (h0 : -1000 ≤ x) (h1 : y ≤ 1001) (h2 : (y - 1).toNat * s.length ≤ n) : Ts E (e2 dMul2 (eC (.str s)) b) rest (Sb n) :=
  ts_op2 (R1 := fun d => d = .str s) (ts_c rfl) hb fun d e hx hy => by
    subst hx
    obtain ⟨i, rfl, i1, i2⟩ := hy
    refine ⟨.str (Txt.mul s i), if_pos ⟨hs, by omega, by omega⟩, _, rfl, mul_len s i n ?_⟩
    exact Nat.le_trans (Nat.mul_le_mul_right _ (by omega)) h2
theorem ts_cutS {k : Nat} {lo hi : Option (M ER)} (hk : k ≤ 900000) (ha : Ts E a rest (Sb k)) (hlo : ∀ f, lo = some f → ∃ x y, Ts E f rest (Ib x y)) (hhi : ∀ f, hi = some f → ∃ x y, Ts E f rest (Ib x y)) : Ts E (eSl dSl a lo hi) rest (Sb k) := fun w => by
  obtain ⟨w1, d, e1, s, rfl, hs⟩ := ha w
  have pl : ∀ w, ∃ w' o, partM lo (wE E w :: rest) = .ok o (wE E w' :: rest) := by
    intro w
    cases lo with
    | none => exact ⟨w, none, rfl⟩
    | some f =>
      obtain ⟨x, y, h⟩ := hlo f rfl
      obtain ⟨w', d, e, i, rfl, _, _⟩ := h w
      exact ⟨w', some i, by rw [part_some, e]; rfl⟩
  have ph : ∀ w, ∃ w' o, partM hi (wE E w :: rest) = .ok o (wE E w' :: rest) := by
    intro w
    cases hi with
    | none => exact ⟨w, none, rfl⟩
    | some f =>
      obtain ⟨x, y, h⟩ := hhi f rfl
      obtain ⟨w', d, e, i, rfl, _, _⟩ := h w
      exact ⟨w', some i, by rw [part_some, e]; rfl⟩
  obtain ⟨w2, o1, e2'⟩ := pl w1
  obtain ⟨w3, o2, e3⟩ := ph w2
  refine ⟨w3, .str (cutS s o1 o2), ?_, cutS s o1 o2, rfl, ?_⟩
  · rw [eSl_ap, e1, Fw.R.bind_ok, e2', Fw.R.bind_ok, e3, Fw.R.bind_ok]
    show (match (if s.length ≤ 1000000 then some (ER.sh (.str (cutS s o1 o2))) else none) with
      | some r => R.ok r _
      | none => .bad) = _
    rw [if_pos (by omega)]
  · have := L2.cutS_length s o1 o2
    omega
theorem ts_to {k : Nat} {x y : Int} (ha : Ts E a rest (Sb k)) (hb : Ts E b rest (Ib x y)) (hk : k ≤ 900000 := by decide) : Ts E (eSl dSl a none (some b)) rest (Sb k) :=
  ts_cutS hk ha (fun f h => by cases h) (fun f h => by cases h; exact ⟨_, _, hb⟩)
theorem ts_from {k : Nat} {x y : Int} (ha : Ts E a rest (Sb k)) (hb : Ts E b rest (Ib x y)) (hk : k ≤ 900000 := by decide) : Ts E (eSl dSl a (some b) none) rest (Sb k) :=
  ts_cutS hk ha (fun f h => by cases h; exact ⟨_, _, hb⟩) (fun f h => by cases h)
/-- a sign of a text -/
theorem ts_sign {z : Str} {x : Int} (ha : Ts E a rest (fun d => d = .str z)) (hb : Ts E b rest (Ib 0 x)) (hz : x ≤ z.length) (hl : z.length ≤ 1000000) : Ts E (e2 dIx a b) rest (Sb 1) :=
  ts_op2 ha hb fun d e hx hy => by
    subst hx
    obtain ⟨i, rfl, i1, i2⟩ := hy
    obtain ⟨n, rfl⟩ := Int.eq_ofNat_of_zero_le i1
    have hz' : z.length = z.cps.toList.length := by unfold Str.length; simp
    have hn : n < z.cps.toList.length := by omega
    refine ⟨.str ⟨#[z.cps.toList[n]]⟩, ?_, _, rfl, Nat.le_refl _⟩
    unfold dIx
    have : L2.atI z.cps.toList (n : Int) = some z.cps.toList[n] := by rw [L2.atI_nat (j := n) (List.getElem?_eq_getElem hn)]
    simp only [if_pos hl, this]
/-! lists -/
theorem Tl.of (h : TlF E a rest n P) : Tl E a rest n P := fun w => by
  obtain ⟨w', ds, e, l, hp⟩ := h w
  exact ⟨w', _, ds, e, fun _ => rfl, l, hp⟩
theorem tl_v {ds : List D} (h : rest[i]? = some (.ow (.lst ds))) (l : ds.length = n) (hp : ∀ x ∈ ds, P x) : Tl E (eVar (i + 1)) rest n P := fun w => ⟨w, .bo (i + 1), ds, by
  rw [eVar_ap]
  show (match (wE E w :: rest)[i + 1]? with
    | some (.sh d) => R.ok (ER.sh d) (wE E w :: rest)
    | some (.ow _) => .ok (.bo (i + 1)) (wE E w :: rest)
    | some (.pn _ _) => .ok (.bo (i + 1)) (wE E w :: rest)
    | some (.lk _) => .ok (.bo (i + 1)) (wE E w :: rest)
    | _ => .bad) = _
  rw [List.getElem?_cons_succ, h], fun w'' => by rw [cur_bo, List.getElem?_cons_succ, h]; rfl, l, hp⟩
theorem ts_ixL {x : Int} (ha : Tl E a rest n R) (hb : Ts E b rest (Ib 0 x)) (hx : x ≤ n) (hp : ∀ d, R d → P d) : Ts E (e2 dIx a b) rest P := fun w => by
  obtain ⟨w1, r, ds, e1, hc, hl, hd⟩ := ha w
  obtain ⟨w2, y, e2', i, rfl, i1, i2⟩ := hb w1
  obtain ⟨d, hm, e3⟩ := atD_mem (ds := ds) i1 (by omega)
  have hc2 := hc w2
  have e4 : dIx (.lst ds) (.int i) = some (.sh d) := e3
  refine ⟨w2, d, ?_, hp d (hd d hm)⟩
  clear hc hd hl hm e3 i1 i2
  walk_at "ev"
def Tss (E : ω → D) (rest : En) (P : D → Prop) : List (M ER) → Prop
  | [] => True
  | f :: fs => Ts E f rest P ∧ Tss E rest P fs
theorem tss_run : ∀ {fs : List (M ER)}, Tss E rest P fs → ∀ w, ∃ (w' : ω) (ds : List D), eA fs (wE E w :: rest) = .ok (ds.map ER.sh) (wE E w' :: rest) ∧ ds.length = fs.length ∧ ∀ x ∈ ds, P x
  | [], _, w => ⟨w, [], rfl, rfl, fun x h => by cases h⟩
  | f :: fs, h, w => by
    obtain ⟨w1, d, e1, h1⟩ := h.1 w
    obtain ⟨w2, ds, e2', l2, h2⟩ := tss_run h.2 w1
    refine ⟨w2, d :: ds, ?_, by rw [List.length_cons, List.length_cons, l2], fun x hx => by
      rcases List.mem_cons.mp hx with rfl | hx
      · exact h1
      · exact h2 x hx⟩
    rw [eA_cons, e1, Fw.R.bind_ok, e2', Fw.R.bind_ok]
    rfl
theorem shrs_map : ∀ (ds : List D) (en : En), shrs (ds.map ER.sh) en = some (ds, en)
  | [], _ => rfl
  | d :: ds, en => by
    rw [List.map_cons, shrs_cons, shr_sh]
    dsimp only
    rw [shrs_map ds en]
theorem tl_lst {fs : List (M ER)} (h : Tss E rest P fs) (hn : fs.length = n) : TlF E (eLst fs) rest n P := fun w => by
  obtain ⟨w', ds, e, l, hp⟩ := tss_run h w
  refine ⟨w', ds, ?_, by rw [l, hn], hp⟩
  rw [eLst_ap, e, Fw.R.bind_ok, shrs_map]
theorem tl_cat {k l : Nat} (ha : Tl E a rest k P) (hb : Tl E b rest l P) (h : k + l = n) (hn : n ≤ 1000000 := by decide) : TlF E (e2 dAdd a b) rest n P := fun w => by
  obtain ⟨w1, r, ds, e1, hc, hl, hd⟩ := ha w
  obtain ⟨w2, r2, ds2, e2', hc2, hl2, hd2⟩ := hb w1
  have c1 := hc w2
  have c2 := hc2 w2
  have e3 : dAdd (.lst ds) (.lst ds2) = some (.fr (.lst (ds ++ ds2))) := add_lst (by omega)
  refine ⟨w2, ds ++ ds2, ?_, by rw [List.length_append]; omega, fun x hx => by
    rcases List.mem_append.mp hx with hx | hx
    · exact hd x hx
    · exact hd2 x hx⟩
  clear hc hc2 hd hd2 hl hl2 h hn
  walk_at "ev"
theorem tc_run {x : M ER} {j : Nat} (hj : rest[j]? = some .un) (hx : ∀ i : Int, Ts E x (rest.set j (.sh (.int i))) P) : ∀ (is : List D), (∀ d ∈ is, ∃ i : Int, d = .int i) → ∀ w : ω, ∃ w' ds, lcLoop none [j + 1] (gN (j + 1)) mYes x is (wE E w :: rest) = some (ds, wE E w' :: rest) ∧ ds.length = is.length ∧ ∀ y ∈ ds, P y
  | [], _, w => ⟨w, [], rfl, rfl, fun y h => by cases h⟩
  | d0 :: is, hi, w => by
    obtain ⟨i, rfl⟩ := hi d0 List.mem_cons_self
    obtain ⟨w2, d, e2', hd⟩ := hx i w
    obtain ⟨w3, ds, e3, l3, h3⟩ := tc_run hj hx is (fun d h => hi d (List.mem_cons_of_mem _ h)) w2
    have g1 : gN (j + 1) (.int i) (wE E w :: rest) = some (wE E w :: rest.set j (.sh (.int i))) := by
      rw [gN_ap, List.getElem?_cons_succ, hj]
      rfl
    have wp : wipeE (wE E w2 :: rest.set j (.sh (.int i))) [j + 1] = wE E w2 :: rest := by
      rw [wipeE_cons, wipeE_nil, List.set_cons_succ, List.set_set, set_same hj]
    refine ⟨w3, d :: ds, ?_, by rw [List.length_cons, List.length_cons, l3], fun y hy => by
      rcases List.mem_cons.mp hy with rfl | hy
      · exact hd
      · exact h3 y hy⟩
    unfold lcLoop
    simp only [g1, mYes, e2', shr_sh, chkd]
    rw [wp, e3]
theorem intsD_len (n : Nat) : (intsD 0 n).length = n := by unfold intsD; rw [List.length_map, List.length_range]
theorem intsD_int (n : Nat) : ∀ d ∈ intsD 0 n, ∃ i : Int, d = .int i := fun d h => by
  unfold intsD at h
  obtain ⟨q, _, e⟩ := List.mem_map.mp h
  exact ⟨_, e.symm⟩
theorem ib_rng {en en1 : En} {i : Int} {T : List D} (e1 : a en = .ok (.sh (.int i)) en1) (hr : rng1 [.int i] = some T) : iB rng1 [a] en = .ok ⟨T, none⟩ en1 := by
  walk_at "ev"
/-- a new list by a comprehension over a range -/
theorem tc_range {x : M ER} {j : Nat} {k : Nat} (ha : Ts E a rest (Ib 0 (k + 1))) (hk : k ≤ 1000) (hj : rest[j]? = some .un) (hx : ∀ i : Int, Ts E x (rest.set j (.sh (.int i))) P) : Tc E (eLc (iB rng1 [a]) [j + 1] (gN (j + 1)) mYes x) rest k P := fun w => by
  obtain ⟨w1, d, e1, i, rfl, i1, i2⟩ := ha w
  have e3 := ib_rng e1 (rng1_ok i1 (by omega))
  obtain ⟨w2, ds, e2', l2, h2⟩ := tc_run hj hx (intsD 0 i.toNat) (intsD_int _) w1
  rw [intsD_len] at l2
  refine ⟨w2, ds, ?_, by omega, h2⟩
  have wp : ∀ w, wipeE (wE E w :: rest) [j + 1] = wE E w :: rest := by
    intro w
    rw [wipeE_cons, wipeE_nil, List.set_cons_succ, set_same hj]
  have hlen : (intsD 0 i.toNat).length ≤ 1000000 := by
    rw [intsD_len]; omega
  rw [eLc_ap, e3, Fw.R.bind_ok]
  dsimp only
  rw [if_pos hlen, wp, e2']
  dsimp only
  rw [rest_cons, rest_nil, List.set_cons_succ, List.getElem?_cons_succ, hj, keep_un, set_same hj]
theorem strs_sb {k : Nat} : ∀ {ds : List D}, (∀ x ∈ ds, Sb k x) → ∃ ss : List Str, strsOf? ds = some ss ∧ ss.length = ds.length ∧ (ss.map fun x : Str => x.length).sum ≤ k * ds.length
  | [], _ => ⟨[], rfl, rfl, by simp⟩
  | d :: ds, h => by
    obtain ⟨s, rfl, hs⟩ := h d List.mem_cons_self
    obtain ⟨ss, e, l, g⟩ := strs_sb fun x hx => h x (List.mem_cons_of_mem _ hx)
    refine ⟨s :: ss, ?_, by rw [List.length_cons, List.length_cons, l], ?_⟩
    · show (match strsOf? ds with | some ns => some (s :: ns) | none => none) = _
      rw [e]
    · rw [List.map_cons, List.sum_cons, List.length_cons, Nat.mul_succ]
      omega
theorem ts_join {z : Str} {k l : Nat} (ha : Tc E a rest l (Sb k)) (hz : z.length ≤ 100) (h : k * l + l * z.length ≤ n) (hn : n ≤ 900000 := by decide) : Ts E (eMetS gJoin (eC (.str z)) [a]) rest (Sb n) := fun w => by
  obtain ⟨w', ds, e, ld, hd⟩ := ha w
  obtain ⟨ss, e1, l1, g1⟩ := strs_sb hd
  have b1 : k * ds.length ≤ k * l := Nat.mul_le_mul_left _ ld
  have b2 : ss.length * z.length ≤ l * z.length := Nat.mul_le_mul_right _ (by omega)
  have e3 : gJoin (.str z) [.lst ds] = some (.sh (.str (Txt.join z ss))) := by
    show (match strsOf? ds with
      | some ys => if (ys.map fun x : Str => x.length).sum + ys.length * z.length ≤ 1000000 then some (ER.sh (D.str (Txt.join z ys))) else none
      | none => none) = _
    rw [e1]
    exact if_pos (by omega)
  refine ⟨w', .str (Txt.join z ss), ?_, _, rfl, ?_⟩
  · clear b1 b2 g1 l1 e1 hd ld h hn hz
    walk_at "ev"
  · unfold Txt.join
    rw [size_glued]
    have : (ss.length - 1) * z.length ≤ ss.length * z.length := Nat.mul_le_mul_right _ (by omega)
    omega
theorem ts_join0 {k l : Nat} (ha : Tc E a rest l (Sb k)) (h : k * l ≤ n) (hn : n ≤ 900000 := by decide) : Ts E (eMetS gJoin (eC (.str "")) [a]) rest (Sb n) :=
  ts_join ha (by decide) (by
    have : (Str.ofString "").length = 0 := by decide
    rw [this]; omega) hn
/-! tests -/
theorem tb_op2 {g : D → D → Option ER} (ha : Ts E a rest R1) (hb : Ts E b rest R2) (hg : ∀ x y, R1 x → R2 y → ∃ q, g x y = some (.sh (.bl q))) : Tb E (mB (e2 g a b)) rest := fun w => by
  obtain ⟨w1, x, e1, h1⟩ := ha w
  obtain ⟨w2, y, e2', h2⟩ := hb w1
  obtain ⟨z, e3⟩ := hg x y h1 h2
  refine ⟨w2, z, ?_⟩
  walk_at "ev"
theorem tb_eqi {x y u v : Int} (ha : Ts E a rest (Ib x y)) (hb : Ts E b rest (Ib u v)) : Tb E (mB (e2 dEq a b)) rest :=
  tb_op2 ha hb fun d e hx hy => by
    obtain ⟨s, rfl, _⟩ := hx
    obtain ⟨t, rfl, _⟩ := hy
    exact ⟨_, eq_int⟩
theorem tb_lti {x y u v : Int} (ha : Ts E a rest (Ib x y)) (hb : Ts E b rest (Ib u v)) : Tb E (mB (e2 dLt a b)) rest :=
  tb_op2 ha hb fun d e hx hy => by
    obtain ⟨s, rfl, _⟩ := hx
    obtain ⟨t, rfl, _⟩ := hy
    exact ⟨decide (s < t), rfl⟩
theorem tb_gti {x y u v : Int} (ha : Ts E a rest (Ib x y)) (hb : Ts E b rest (Ib u v)) : Tb E (mB (e2 dGt a b)) rest :=
  tb_op2 ha hb fun d e hx hy => by
    obtain ⟨s, rfl, _⟩ := hx
    obtain ⟨t, rfl, _⟩ := hy
    exact ⟨decide (t < s), rfl⟩
theorem ts_eqi {x y u v : Int} (ha : Ts E a rest (Ib x y)) (hb : Ts E b rest (Ib u v)) : Ts E (e2 dEq a b) rest Bb :=
  ts_op2 ha hb fun d e hx hy => by
    obtain ⟨s, rfl, _⟩ := hx
    obtain ⟨t, rfl, _⟩ := hy
    exact ⟨_, eq_int, _, rfl⟩
theorem tb_t (ha : Ts E a rest Bb) : Tb E (mT a) rest := fun w => by
  obtain ⟨w1, x, e1, b, rfl⟩ := ha w
  refine ⟨w1, b, ?_⟩
  walk_at "ev"
theorem tb_and {ga gb : M Bool} (ha : Tb E ga rest) (hb : Tb E gb rest) : Tb E (mAnd ga gb) rest := fun w => by
  obtain ⟨w1, x, e1⟩ := ha w
  obtain ⟨w2, y, e2'⟩ := hb w1
  cases x with
  | true => exact ⟨w2, y, by walk_at "ev"⟩
  | false => exact ⟨w1, false, by walk_at "ev"⟩
theorem tb_or {ga gb : M Bool} (ha : Tb E ga rest) (hb : Tb E gb rest) : Tb E (mOr ga gb) rest := fun w => by
  obtain ⟨w1, x, e1⟩ := ha w
  obtain ⟨w2, y, e2'⟩ := hb w1
  cases x with
  | true => exact ⟨w1, true, by walk_at "ev"⟩
  | false => exact ⟨w2, y, by walk_at "ev"⟩
/-! statements -/
section
variable {st st1 st2 : SM} {Q Q' : En → Prop} {t : M Bool}
theorem h_ret (h : Ts E a rest P) : Ht E (sRet a) rest Q P := fun w => by
  obtain ⟨w', d, e, hd⟩ := h w
  exact .inr ⟨w', d, rest, by rw [sRet_ap, e, then_ok, retR_sh], hd, rfl⟩
theorem h_nil (h : Q rest) : Ht E sNil rest Q P := fun w => .inl ⟨w, rest, rfl, h, rfl⟩
theorem h_seq (h1 : Ht E st1 rest Q' P) (h2 : ∀ r, Q' r → Ht E st2 r Q P) : Ht E (sSeq st1 st2) rest Q P := fun w => by
  rcases h1 w with ⟨w', r, e, hq, hl⟩ | ⟨w', d, en', e, hd⟩
  · rcases h2 r hq w' with ⟨w2, r2, e2', hq2, hl2⟩ | ⟨w2, d, en2, e2', hd, hl2⟩
    · exact .inl ⟨w2, r2, by rw [sSeq_ap, e]; exact e2', hq2, by omega⟩
    · exact .inr ⟨w2, d, en2, by rw [sSeq_ap, e]; exact e2', hd, by omega⟩
  · exact .inr ⟨w', d, en', by rw [sSeq_ap, e], hd⟩
theorem h_set {s : Sl} (h : Ts E a rest R) (hs : rest[i]? = some s) (hp : s.isPn = false) (hq : ∀ d, R d → Q (rest.set i (.sh d))) : Ht E (sSet (i + 1) a) rest Q P := fun w => by
  obtain ⟨w', d, e, hd⟩ := h w
  refine .inl ⟨w', rest.set i (.sh d), ?_, hq d hd, List.length_set⟩
  rw [sSet_ap, e, then_ok, put_sh (i := i + 1) (s := s) (by rw [List.getElem?_cons_succ]; exact hs) hp, List.set_cons_succ]
theorem h_setL {s : Sl} (h : TlF E a rest n R) (hs : rest[i]? = some s) (hp : s.isPn = false) (hq : ∀ ds : List D, ds.length = n → (∀ x ∈ ds, R x) → Q (rest.set i (.ow (.lst ds)))) : Ht E (sSet (i + 1) a) rest Q P := fun w => by
  obtain ⟨w', ds, e, hl, hd⟩ := h w
  refine .inl ⟨w', rest.set i (.ow (.lst ds)), ?_, hq ds hl hd, List.length_set⟩
  rw [sSet_ap, e, then_ok, put_fr (i := i + 1) (s := s) (by rw [List.getElem?_cons_succ]; exact hs) hp, List.set_cons_succ]
theorem h_if (ht : Tb E t rest) (h1 : Ht E st1 rest Q P) (h2 : Ht E st2 rest Q P) : Ht E (sIf t st1 st2) rest Q P := fun w => by
  obtain ⟨w', b, e⟩ := ht w
  cases b with
  | true =>
    rcases h1 w' with ⟨w2, r2, e2', hq2⟩ | ⟨w2, d, en2, e2', hd⟩
    · exact .inl ⟨w2, r2, by rw [sIf_ap, e, then_ok, if_pos rfl]; exact e2', hq2⟩
    · exact .inr ⟨w2, d, en2, by rw [sIf_ap, e, then_ok, if_pos rfl]; exact e2', hd⟩
  | false =>
    rcases h2 w' with ⟨w2, r2, e2', hq2⟩ | ⟨w2, d, en2, e2', hd⟩
    · exact .inl ⟨w2, r2, by rw [sIf_ap, e, then_ok, if_neg Bool.false_ne_true]; exact e2', hq2⟩
    · exact .inr ⟨w2, d, en2, by rw [sIf_ap, e, then_ok, if_neg Bool.false_ne_true]; exact e2', hd⟩
def wipeR (rest : En) : List Nat → En
  | [] => rest
  | j :: js => (wipeR rest js).set (j - 1) .un
theorem wipeR_len : ∀ (js : List Nat) (rest : En), (wipeR rest js).length = rest.length
  | [], _ => rfl
  | j :: js, rest => by rw [wipeR, List.length_set, wipeR_len js]
theorem wipe_r (w : Sl) : ∀ (js : List Nat) (rest : En), (∀ j ∈ js, 1 ≤ j) → wipeE (w :: rest) js = w :: wipeR rest js
  | [], rest, _ => rfl
  | j :: js, rest, h => by
    have := h j List.mem_cons_self
    obtain ⟨k, rfl⟩ : ∃ k, j = k + 1 := ⟨j - 1, by omega⟩
    rw [wipeE_cons, wipe_r w js _ fun x hx => h x (List.mem_cons_of_mem _ hx), List.set_cons_succ]
    rfl
theorem h_fg {fg : List Nat} (hf : fg.all (fun j => decide (1 ≤ j)) = true) (h : Ht E st rest (fun r => Q (wipeR r fg)) P) : Ht E (sFg fg st) rest Q P := fun w => by
  have hf' : ∀ j ∈ fg, 1 ≤ j := fun j hj => of_decide_eq_true (List.all_eq_true.mp hf j hj)
  rcases h w with ⟨w', r, e, hq, hl⟩ | ⟨w', d, en', e, hd⟩
  · exact .inl ⟨w', _, by rw [sFg_ap, e]; dsimp only; rw [wipe_r _ _ _ hf'], hq, by rw [wipeR_len]; exact hl⟩
  · exact .inr ⟨w', d, en', by rw [sFg_ap, e], hd⟩
/-! in a row -/
theorem hs_set {s : Sl} (h : Ts E a rest R) (hs : rest[i]? = some s) (hp : s.isPn = false) (hq : ∀ d, R d → Ht E st (rest.set i (.sh d)) Q P) : Ht E (sSeq (sSet (i + 1) a) st) rest Q P :=
  h_seq (Q' := fun r => ∃ d, R d ∧ r = rest.set i (.sh d)) (h_set h hs hp fun d hd => ⟨d, hd, rfl⟩) fun r ⟨d, hd, e⟩ => by rw [e]; exact hq d hd
theorem hs_setL {s : Sl} (h : TlF E a rest n R) (hs : rest[i]? = some s) (hp : s.isPn = false) (hq : ∀ ds : List D, ds.length = n → (∀ x ∈ ds, R x) → Ht E st (rest.set i (.ow (.lst ds))) Q P) : Ht E (sSeq (sSet (i + 1) a) st) rest Q P :=
  h_seq (Q' := fun r => ∃ ds : List D, ds.length = n ∧ (∀ x ∈ ds, R x) ∧ r = rest.set i (.ow (.lst ds))) (h_setL h hs hp fun ds hl hd => ⟨ds, hl, hd, rfl⟩) fun r ⟨ds, hl, hd, e⟩ => by rw [e]; exact hq ds hl hd
theorem hs_ifret (ht : Tb E t rest) (h : Ts E a rest P) (hq : Ht E st rest Q P) : Ht E (sSeq (sIf t (sRet a) sNil) st) rest Q P :=
  h_seq (Q' := fun r => r = rest) (h_if ht (h_ret h) (h_nil rfl)) fun r e => by rw [e]; exact hq
theorem hs_ifset {d0 : D} (ht : Tb E t rest) (h : Ts E a rest R) (hs : rest[i]? = some (.sh d0)) (h0 : R d0) (hq : ∀ d, R d → Ht E st (rest.set i (.sh d)) Q P) : Ht E (sSeq (sIf t (sSet (i + 1) a) sNil) st) rest Q P :=
  h_seq (Q' := fun r => ∃ d, R d ∧ r = rest.set i (.sh d)) (h_if ht (h_set h hs rfl fun d hd => ⟨d, hd, rfl⟩) (h_nil ⟨d0, h0, (set_same hs).symm⟩)) fun r ⟨d, hd, e⟩ => by rw [e]; exact hq d hd
theorem mk1_of {body : SM} (h : Ht E body (List.replicate n .un) (fun _ => False) P) : Mk1 E (defN 1 (n + 1) body) P := fun w => by
  rcases h w with ⟨w', r, e, hq, _⟩ | ⟨w', d, en', e, hd, hl⟩
  · exact hq.elim
  · refine ⟨w', d, ?_, hd⟩
    have e' : body (.pn true (E w) :: List.replicate n .un) = .rt (.sh d) (.pn true (E w') :: en') := e
    have hr : n + 1 - [Sl.pn true (E w)].length = n := by simp
    rw [defN, arity_ap, if_pos (show [Sl.pn true (E w)].length = 1 from rfl), mkN_ap, mkF_ap, hr]
    show (match (match body (.pn true (E w) :: List.replicate n .un) with
      | .nx en => (match outsOf [Sl.pn true (E w)] en with | some outs => Fw.R.ok (ER.sh .non) outs | none => Fw.R.bad)
      | .rt r en => (match outsOf [Sl.pn true (E w)] en with | some outs => Fw.R.ok r outs | none => Fw.R.bad)
      | .exc c fs en => (match outsOf [Sl.pn true (E w)] en with | some outs => Fw.R.exc c fs outs | none => Fw.R.bad)
      | _ => Fw.R.bad) with
      | Fw.R.exc c fs s => Fw.R.bad
      | r => r) = _
    rw [e']
    rfl
theorem mk2_of {body : SM} (h : ∀ x, R x → Ht E body (.sh x :: List.replicate n .un) (fun _ => False) P) : Mk2 E (defN 2 (n + 2) body) R P := fun w x hx => by
  rcases h x hx w with ⟨w', r, e, hq, _⟩ | ⟨w', d, en', e, hd, hl⟩
  · exact hq.elim
  · refine ⟨w', d, ?_, hd⟩
    obtain ⟨s0, en', rfl⟩ : ∃ s0 en2, en' = s0 :: en2 := by
      cases en' with
      | nil => cases hl
      | cons s0 en2 => exact ⟨s0, en2, rfl⟩
    have e' : body (.pn true (E w) :: .sh x :: List.replicate n .un) = .rt (.sh d) (.pn true (E w') :: s0 :: en') := e
    have hr : n + 2 - [Sl.pn true (E w), .sh x].length = n := by simp
    rw [defN, arity_ap, if_pos (show [Sl.pn true (E w), .sh x].length = 2 from rfl), mkN_ap, mkF_ap, hr]
    show (match (match body (.pn true (E w) :: .sh x :: List.replicate n .un) with
      | .nx en => (match outsOf [Sl.pn true (E w), .sh x] en with | some outs => Fw.R.ok (ER.sh .non) outs | none => Fw.R.bad)
      | .rt r en => (match outsOf [Sl.pn true (E w), .sh x] en with | some outs => Fw.R.ok r outs | none => Fw.R.bad)
      | .exc c fs en => (match outsOf [Sl.pn true (E w), .sh x] en with | some outs => Fw.R.exc c fs outs | none => Fw.R.bad)
      | _ => Fw.R.bad) with
      | Fw.R.exc c fs s => Fw.R.bad
      | r => r) = _
    rw [e']
    rfl
end
end
end Fw
set_option Elab.async false
set_option linter.all false
set_option maxRecDepth 100000
namespace Fw
open PySem PySem.Spec PyProof.Rows L2
local macro_rules | `(tactic| walk_at "ev") => `(tactic| simp only [Fw.defN, Fw.defX, Fw.arity_ap, Fw.mkN_ap, Fw.mkF_ap, Fw.eC_ap, Fw.eVar_ap, Fw.e2_ap, Fw.op2_ap, Fw.cur_sh, Fw.cur_fr, Fw.cur_bo, Fw.e1_ap, Fw.eA_nil, Fw.eA_cons, Fw.eB_ap, Fw.curs_nil, Fw.curs_cons, Fw.eTup_ap, Fw.eLst_ap, Fw.shrs_nil, Fw.shrs_cons, Fw.shr_sh, Fw.shr_fr, Fw.shr_bo, Fw.eF_ap, Fw.callM_ap, Fw.sSeq_ap, Fw.sSet_ap, Fw.then_ok, Fw.put_ap, Fw.sExpr_ap, Fw.sRet_ap, Fw.retR_sh, Fw.retR_fr, Fw.retR_bo, Fw.sIf_ap, Fw.mB_ap, Fw.toB_bl, Fw.mT_ap, Fw.mAnd_ap, Fw.mOr_ap, Fw.mNot_ap, Fw.eAnd_ap, Fw.eOr_ap, Fw.eNot_ap, Fw.eIf_ap, Fw.eChain_ap, Fw.sNil_ap, Fw.sFg_ap, Fw.wipeE_nil, Fw.wipeE_cons, Fw.eMut_ap, Fw.eMetS_ap, Fw.afterF, Fw.toF, Fw.sAsg_ap, Fw.R.bind_ok, Fw.R.bind_exc, Fw.R.bind_bad, Fw.R.then,
  List.length_cons, List.length_nil, List.cons_append, List.nil_append, List.append_nil, List.replicate_succ, List.replicate_zero, List.getElem?_cons_zero, List.getElem?_cons_succ, List.set_cons_zero, List.set_cons_succ, Option.bind_some, Option.bind_none, Fw.dat_sh, Fw.dat_ow, Fw.dat_pn, Fw.dat_lk, Fw.pn_un, Fw.pn_sh, Fw.pn_ow, Fw.mu_ow, Fw.mu_pn, Fw.own_ow, Fw.own_pn, Fw.own_lk, Fw.lock_ow, Fw.lock_pnT, Fw.lock_pnF, Fw.lock_lk, Fw.with_ow, Fw.with_pn, if_true, if_false, Bool.false_eq_true, Bool.true_eq_false, ite_true, ite_false, reduceIte,
  Fw.ix_lst, Fw.ix_rol, Fw.ix_tup, Fw.ix_rot, Fw.at0, Fw.at1, Fw.at2, Fw.at3, Fw.at4, Fw.atm1, Fw.add_int, Fw.add_lst, Fw.add_tup, Fw.add_str, Fw.sub_int, Fw.mul_mod, Fw.mul_r, Fw.mul_l, Fw.div_int, Fw.mod_int, Fw.p10_8, Fw.p10_18, Fw.pow_int, Fw.neg_int, Fw.cmp_int, Fw.is_non, Fw.isnot_non, Fw.isNon_non, Fw.isNon_int, Fw.isNon_str, Fw.isNon_lst, Fw.isNon_tup, Fw.eq_int, Fw.ne_int, Fw.eq_str, Fw.ne_str, Fw.len_lst, Fw.len_rol, Fw.len_tup, Fw.len_str, Fw.max2_int, Fw.min2_int, Fw.int_int, Fw.int_bl, Fw.list_lst, Fw.list_tup, Fw.tuple_lst, Fw.tuple_tup, Fw.append_lst, Fw.tru_bl, Fw.tru_lst, Fw.sl_rol, Fw.sl_lst,
  Fw.cellAt_ap, Fw.kind_lst, Fw.putD_ap, Fw.sPut_ap, Fw.putAt_ap, Fw.set_last, Fw.set0, Fw.set1, Fw.set2, Fw.pass_nil, Fw.pass_n, Fw.pass_c, Fw.passArg_sh, Fw.passArg_fr, Fw.passArg_boF, Fw.passArg_boT, Fw.ioOk_n, Fw.ioOk_nil, Fw.ioOk_bo, Fw.ioOk_sh, Fw.ioOk_fr, Fw.bo_nil, Fw.bo_bo, Fw.bo_sh, Fw.bo_fr, Fw.io_n, Fw.io_nil, Fw.io_T, Fw.io_F, Fw.outs_nil, Fw.outs_T, Fw.outs_F, Fw.outs_sh, Fw.putOuts_nil, Fw.putOuts_cons, Fw.gN_ap, Fw.gT_tup, Fw.gAll_nil, Fw.gAll_cons, Fw.sFor_ap, Fw.eLc_ap, Fw.back_nx, Fw.back_rt, Fw.iSeq_ap, Fw.seq_lst, Fw.seq_tup, Fw.iB_ap, Fw.yes_ap, Fw.eSl_ap, Fw.part_none, Fw.part_some, Fw.partR_int, Fw.rest_nil, Fw.rest_cons, Fw.keep_sh, Fw.keep_un, Fw.keep_none,
  List.map_nil, List.map_cons, List.contains_nil, List.contains_cons, Bool.not_false, Bool.not_true, Bool.and_self, Bool.and_true, Bool.true_and, Bool.false_and, Bool.and_false, Bool.or_true, Bool.true_or, Bool.or_false, Bool.false_or, Nat.reduceAdd, Nat.reduceSub, Nat.reduceEqDiff, Nat.reduceBEq, decide_true, decide_false, Int.reduceLT, Int.reduceLE, Int.reduceNeg, Int.reducePow, Int.reduceToNat, Nat.reducePow, Nat.reduceLT, Nat.reduceLeDiff, and_true, true_and, and_self, not_true_eq_false, not_false_eq_true,
  Fw.eNew_ap, Fw.newOf_ap, Fw.gU_lst, Fw.gTU_lst, Fw.gTU_tup, Fw.sAsg2_ap, Fw.rev_lst, Fw.rev_rol, Fw.eFf_ap, Fw.eDict0_ap, Fw.iS_ap, Fw.sRetN_ap, Fw.sPass_ap, Fw.sBreak_ap, Fw.sCont_ap, Fw.i_and, Fw.i_or, Fw.i_andE, Fw.i_orE, Fw.i_int, Fw.i_str, Fw.at5, Fw.at6, Fw.at7, Fw.at8, Fw.at9, Fw.at10, Fw.at11, Fw.at12, Fw.at13, Fw.at14, Fw.at15, Fw.at16, Fw.at17, Fw.at18, Fw.at19, Fw.at20, Fw.at21, Fw.at22, Fw.at23, Fw.at24, Fw.eFK_ap, Fw.permM_cons, Fw.pick_nil, Fw.pick_cons, Fw.noT_sh, Fw.noT_pn, Fw.inB_def, Fw.eMeth_ap, Fw.eMk_ap, Fw.popN_ok, Fw.popN_exc, Fw.sRaise_ap, Fw.sTry_ap, Fw.eXf_ap, Fw.lookX_ap, Fw.endS_nx, Fw.endS_rt, Fw.isX_ty, Fw.isX_cl, Fw.isX_tup, Fw.then_exc, true_or, or_false, or_true, List.lookup_cons, List.lookup_nil, List.take_zero, List.take_succ_cons, List.drop_zero, List.drop_succ_cons, List.all_cons, List.all_nil, List.dropLast_cons₂, List.dropLast_singleton, _root_.eq_self, Nat.reduceBEq, Nat.zero_add, Nat.reduceLeDiff, Nat.sub_self, Nat.lt_irrefl, Nat.add_zero, Fw.lc_nil, Fw.lc_consN, Fw.loop_nil, Fw.loop_cons, Fw.rng1_1, Fw.rng1_2, Fw.rng1_3, Fw.rng1_4, Fw.rng1_5, Fw.rng1_6, Fw.rng1_7, Fw.rng1_8, Fw.rng1_9, Fw.rng1_10, Fw.rng1_11, Fw.rng1_12, Fw.rng2_3_8, Fw.rng2_3_6, Fw.rng2_1_3, Fw.rng2_1_4, Fw.rng2_2_5, Fw.sPar_ap, Fw.eP_nil, Fw.eP_cons, Fw.nrm_sh, Fw.nrm_fr, Fw.nrm_bo, Fw.puts_nil, Fw.puts_cons, Fw.put1_sh, Fw.put1_fr, Fw.eMetL_ap, Fw.isLst_lst, Fw.kind_dk, Fw.eGet1_ap, Fw.eGet2_ap, Fw.getK_ap, Fw.dkAt_ap, Fw.shOf_sh, Fw.key_str, Fw.key_int, Fw.in2_str, Fw.nin2_str, Option.getD_some, Option.getD_none, Option.isSome_some, Option.isSome_none, *])
local macro_rules | `(tactic| walk_at "e0") => `(tactic| simp only [Fw.defN, Fw.defX, Fw.arity_ap, Fw.mkN_ap, Fw.mkF_ap, Fw.eC_ap, Fw.eVar_ap, Fw.e2_ap, Fw.op2_ap, Fw.cur_sh, Fw.cur_fr, Fw.cur_bo, Fw.e1_ap, Fw.eA_nil, Fw.eA_cons, Fw.eB_ap, Fw.curs_nil, Fw.curs_cons, Fw.eTup_ap, Fw.eLst_ap, Fw.shrs_nil, Fw.shrs_cons, Fw.shr_sh, Fw.shr_fr, Fw.shr_bo, Fw.eF_ap, Fw.callM_ap, Fw.sSeq_ap, Fw.sSet_ap, Fw.then_ok, Fw.put_ap, Fw.sExpr_ap, Fw.sRet_ap, Fw.retR_sh, Fw.retR_fr, Fw.retR_bo, Fw.sIf_ap, Fw.mB_ap, Fw.toB_bl, Fw.mT_ap, Fw.mAnd_ap, Fw.mOr_ap, Fw.mNot_ap, Fw.eAnd_ap, Fw.eOr_ap, Fw.eNot_ap, Fw.eIf_ap, Fw.eChain_ap, Fw.sNil_ap, Fw.sFg_ap, Fw.wipeE_nil, Fw.wipeE_cons, Fw.eMut_ap, Fw.eMetS_ap, Fw.afterF, Fw.toF, Fw.sAsg_ap, Fw.R.bind_ok, Fw.R.bind_exc, Fw.R.bind_bad, Fw.R.then,
  List.length_cons, List.length_nil, List.cons_append, List.nil_append, List.append_nil, List.replicate_succ, List.replicate_zero, List.getElem?_cons_zero, List.getElem?_cons_succ, List.set_cons_zero, List.set_cons_succ, Option.bind_some, Option.bind_none, Fw.dat_sh, Fw.dat_ow, Fw.dat_pn, Fw.dat_lk, Fw.pn_un, Fw.pn_sh, Fw.pn_ow, Fw.mu_ow, Fw.mu_pn, Fw.own_ow, Fw.own_pn, Fw.own_lk, Fw.lock_ow, Fw.lock_pnT, Fw.lock_pnF, Fw.lock_lk, Fw.with_ow, Fw.with_pn, if_true, if_false, Bool.false_eq_true, Bool.true_eq_false, ite_true, ite_false, reduceIte,
  Fw.ix_lst, Fw.ix_rol, Fw.ix_tup, Fw.ix_rot, Fw.at0, Fw.at1, Fw.at2, Fw.at3, Fw.at4, Fw.atm1, Fw.add_int, Fw.add_lst, Fw.add_tup, Fw.add_str, Fw.sub_int, Fw.mul_mod, Fw.mul_r, Fw.mul_l, Fw.div_int, Fw.mod_int, Fw.p10_8, Fw.p10_18, Fw.pow_int, Fw.neg_int, Fw.cmp_int, Fw.is_non, Fw.isnot_non, Fw.isNon_non, Fw.isNon_int, Fw.isNon_str, Fw.isNon_lst, Fw.isNon_tup, Fw.eq_int, Fw.ne_int, Fw.eq_str, Fw.ne_str, Fw.len_lst, Fw.len_rol, Fw.len_tup, Fw.len_str, Fw.max2_int, Fw.min2_int, Fw.int_int, Fw.int_bl, Fw.list_lst, Fw.list_tup, Fw.tuple_lst, Fw.tuple_tup, Fw.append_lst, Fw.tru_bl, Fw.tru_lst, Fw.sl_rol, Fw.sl_lst,
  Fw.cellAt_ap, Fw.kind_lst, Fw.putD_ap, Fw.sPut_ap, Fw.putAt_ap, Fw.set_last, Fw.set0, Fw.set1, Fw.set2, Fw.pass_nil, Fw.pass_n, Fw.pass_c, Fw.passArg_sh, Fw.passArg_fr, Fw.passArg_boF, Fw.passArg_boT, Fw.ioOk_n, Fw.ioOk_nil, Fw.ioOk_bo, Fw.ioOk_sh, Fw.ioOk_fr, Fw.bo_nil, Fw.bo_bo, Fw.bo_sh, Fw.bo_fr, Fw.io_n, Fw.io_nil, Fw.io_T, Fw.io_F, Fw.outs_nil, Fw.outs_T, Fw.outs_F, Fw.outs_sh, Fw.putOuts_nil, Fw.putOuts_cons, Fw.gN_ap, Fw.gT_tup, Fw.gAll_nil, Fw.gAll_cons, Fw.sFor_ap, Fw.eLc_ap, Fw.back_nx, Fw.back_rt, Fw.iSeq_ap, Fw.seq_lst, Fw.seq_tup, Fw.iB_ap, Fw.yes_ap, Fw.eSl_ap, Fw.part_none, Fw.part_some, Fw.partR_int, Fw.rest_nil, Fw.rest_cons, Fw.keep_sh, Fw.keep_un, Fw.keep_none,
  List.map_nil, List.map_cons, List.contains_nil, List.contains_cons, Bool.not_false, Bool.not_true, Bool.and_self, Bool.and_true, Bool.true_and, Bool.false_and, Bool.and_false, Bool.or_true, Bool.true_or, Bool.or_false, Bool.false_or, Nat.reduceAdd, Nat.reduceSub, Nat.reduceEqDiff, Nat.reduceBEq, decide_true, decide_false, Int.reduceLT, Int.reduceLE, Int.reduceNeg, Int.reducePow, Int.reduceToNat, Nat.reducePow, Nat.reduceLT, Nat.reduceLeDiff, and_true, true_and, and_self, not_true_eq_false, not_false_eq_true,
  Fw.eNew_ap, Fw.newOf_ap, Fw.gU_lst, Fw.gTU_lst, Fw.gTU_tup, Fw.sAsg2_ap, Fw.rev_lst, Fw.rev_rol, Fw.eFf_ap, Fw.eDict0_ap, Fw.iS_ap, Fw.sRetN_ap, Fw.sPass_ap, Fw.sBreak_ap, Fw.sCont_ap, Fw.i_and, Fw.i_or, Fw.i_andE, Fw.i_orE, Fw.i_int, Fw.i_str, Fw.at5, Fw.at6, Fw.at7, Fw.at8, Fw.at9, Fw.at10, Fw.at11, Fw.at12, Fw.at13, Fw.at14, Fw.at15, Fw.at16, Fw.at17, Fw.at18, Fw.at19, Fw.at20, Fw.at21, Fw.at22, Fw.at23, Fw.at24, Fw.eFK_ap, Fw.permM_cons, Fw.pick_nil, Fw.pick_cons, Fw.noT_sh, Fw.noT_pn, Fw.inB_def, Fw.eMeth_ap, Fw.eMk_ap, Fw.popN_ok, Fw.popN_exc, Fw.sRaise_ap, Fw.sTry_ap, Fw.eXf_ap, Fw.lookX_ap, Fw.endS_nx, Fw.endS_rt, Fw.isX_ty, Fw.isX_cl, Fw.isX_tup, Fw.then_exc, true_or, or_false, or_true, List.lookup_cons, List.lookup_nil, List.take_zero, List.take_succ_cons, List.drop_zero, List.drop_succ_cons, List.all_cons, List.all_nil, List.dropLast_cons₂, List.dropLast_singleton, _root_.eq_self, Nat.reduceBEq, Nat.zero_add, Nat.reduceLeDiff, Nat.sub_self, Nat.lt_irrefl, Nat.add_zero, Fw.lc_nil, Fw.lc_consN, Fw.loop_nil, Fw.loop_cons, Fw.rng1_1, Fw.rng1_2, Fw.rng1_3, Fw.rng1_4, Fw.rng1_5, Fw.rng1_6, Fw.rng1_7, Fw.rng1_8, Fw.rng1_9, Fw.rng1_10, Fw.rng1_11, Fw.rng1_12, Fw.rng2_3_8, Fw.rng2_3_6, Fw.rng2_1_3, Fw.rng2_1_4, Fw.rng2_2_5, Fw.sPar_ap, Fw.eP_nil, Fw.eP_cons, Fw.nrm_sh, Fw.nrm_fr, Fw.nrm_bo, Fw.puts_nil, Fw.puts_cons, Fw.put1_sh, Fw.put1_fr, Fw.eMetL_ap, Fw.isLst_lst, Fw.kind_dk, Fw.eGet1_ap, Fw.eGet2_ap, Fw.getK_ap, Fw.dkAt_ap, Fw.shOf_sh, Fw.key_str, Fw.key_int, Fw.in2_str, Fw.nin2_str, Option.getD_some, Option.getD_none, Option.isSome_some, Option.isSome_none])
local macro_rules | `(tactic| walk_at "go") => `(tactic| repeat' (first | done | rfl | (walk_at "ev"; done) | (split <;> try walk_at "ev")))
/-! the rules of FwTy with the bounds reckoned -/
section
variable {ω : Type} {E : ω → D} {rest : En} {P R R1 R2 : D → Prop} {a b c fa fb : M ER} {n m i : Nat}
theorem c_s {s : Str} : Ts E (eC (.str s)) rest (Sb s.length) := ts_s (Nat.le_refl _)
theorem c_i {i : Int} : Ts E (eC (.int i)) rest (Ib i (i + 1)) := ts_i (Int.le_refl _) (by omega)
theorem c_b {q : Bool} : Ts E (eC (.bl q)) rest Bb := ts_c ⟨q, rfl⟩
theorem c_vS {d : D} (h : rest[i]? = some (.sh d)) (hp : Sb n d) : Ts E (eVar (i + 1)) rest (Sb n) := ts_v h hp
theorem c_vI {d : D} {x y : Int} (h : rest[i]? = some (.sh d)) (hp : Ib x y d) : Ts E (eVar (i + 1)) rest (Ib x y) := ts_v h hp
theorem c_vB {d : D} (h : rest[i]? = some (.sh d)) (hp : Bb d) : Ts E (eVar (i + 1)) rest Bb := ts_v h hp
theorem c_vK {z : Str} (h : rest[i]? = some (.sh (.str z))) : Ts E (eVar (i + 1)) rest (fun d => d = .str z) := ts_v h rfl
theorem sb_self {s : Str} : Sb s.length (.str s) := ⟨s, rfl, Nat.le_refl _⟩
theorem ib_self {i : Int} : Ib i (i + 1) (.int i) := ⟨i, rfl, Int.le_refl _, by omega⟩
theorem c_vS1 {s : Str} (h : rest[i]? = some (.sh (.str s))) : Ts E (eVar (i + 1)) rest (Sb s.length) := ts_v h sb_self
theorem c_vI1 {j : Int} (h : rest[i]? = some (.sh (.int j))) : Ts E (eVar (i + 1)) rest (Ib j (j + 1)) := ts_v h ib_self
theorem c_K {z : Str} : Ts E (eC (.str z)) rest (fun d => d = .str z) := ts_c rfl
theorem c_cat {k l : Nat} (ha : Ts E a rest (Sb k)) (hb : Ts E b rest (Sb l)) (hn : k + l ≤ 900000) : Ts E (e2 dAdd a b) rest (Sb (k + l)) := ts_cat ha hb (Nat.le_refl _) hn
theorem c_plus {x y u v : Int} (ha : Ts E a rest (Ib x y)) (hb : Ts E b rest (Ib u v)) : Ts E (e2 dAdd a b) rest (Ib (x + u) (y + v - 1)) := ts_plus ha hb (Int.le_refl _) (Int.le_refl _)
theorem c_times {x y u v : Int} (ha : Ts E a rest (Ib x y)) (hb : Ts E b rest (Ib u v)) (h : 0 ≤ x ∧ 0 ≤ u ∧ v ≤ 1000000) : Ts E (e2 dMul a b) rest (Ib 0 ((y - 1) * (v - 1) + 1)) := ts_times ha hb h.1 h.2.1 h.2.2 (Int.le_refl _) (by omega)
theorem c_div {x y k : Int} (ha : Ts E a rest (Ib x y)) (hk : 0 < k ∧ k < 1073741824) : Ts E (e2 dDiv a (eC (.int k))) rest (Ib (x / k) ((y - 1) / k + 1)) := ts_div ha hk (Int.le_refl _) (by omega)
theorem c_mod {x y p q : Int} (ha : Ts E a rest (Ib x y)) (hb : Ts E b rest (Ib p q)) (hk : 0 < p) : Ts E (e2 dMod a b) rest (Ib 0 (q - 1)) := ts_mod (k := p) ha (hb.imp fun _ h => h.le (Int.le_refl _) (by omega)) hk
theorem c_str {x y : Int} (ha : Ts E a rest (Ib x y)) (h : 0 ≤ x ∧ y ≤ 1000000000) : Ts E (eB gStr [a]) rest (Sb 60) := ts_str ha h.1 h.2
theorem c_len {k : Nat} (ha : Ts E a rest (Sb k)) (hk : k ≤ 900000) : Ts E (eB gLen [a]) rest (Ib 0 (k + 1)) := ts_len ha hk
theorem c_lenK {z : Str} (ha : Ts E a rest (fun d => d = .str z)) (hz : z.length ≤ 900000) : Ts E (eB gLen [a]) rest (Ib z.length (z.length + 1)) :=
  ts_b1 ha fun d hd => by
    subst hd
    exact ⟨.int (z.length : Nat), len_str (by omega), _, rfl, Int.le_refl _, by omega⟩
theorem c_rep {s : Str} {x y : Int} (hb : Ts E b rest (Ib x y)) (h : s.length ≤ 1000 ∧ -1000 ≤ x ∧ y ≤ 1001) : Ts E (e2 dMul2 (eC (.str s)) b) rest (Sb ((y - 1).toNat * s.length)) := ts_rep hb h.1 h.2.1 h.2.2 (Nat.le_refl _)
theorem c_to {k : Nat} {x y : Int} (ha : Ts E a rest (Sb k)) (hb : Ts E b rest (Ib x y)) (hk : k ≤ 900000) : Ts E (eSl dSl a none (some b)) rest (Sb k) := ts_to ha hb hk
theorem c_from {k : Nat} {x y : Int} (ha : Ts E a rest (Sb k)) (hb : Ts E b rest (Ib x y)) (hk : k ≤ 900000) : Ts E (eSl dSl a (some b) none) rest (Sb k) := ts_from ha hb hk
theorem c_sign {z : Str} {x y : Int} (ha : Ts E a rest (fun d => d = .str z)) (hb : Ts E b rest (Ib x y)) (h : 0 ≤ x ∧ y ≤ z.length ∧ z.length ≤ 1000000) : Ts E (e2 dIx a b) rest (Sb 1) := ts_sign ha (hb.imp fun _ g => g.le h.1 (Int.le_refl _)) h.2.1 h.2.2
theorem c_draw {mm : FM} {x y : Int} (hm : DrawOk E mm) (ha : Ts E a rest (Ib x y)) (h : 1 ≤ x ∧ y ≤ 1073741824) : Ts E (eF [true, false] mm [] [eVar 0, a]) rest (Ib 0 (y - 1)) :=
  ts_drawR (k := y - 1) hm (ha.imp fun _ g => g.le h.1 (by omega)) (by omega)
theorem c_upper {k : Nat} (ha : Ts E a rest (Sb k)) (hk : k ≤ 900000) : Ts E (eMetS gUpper a []) rest (Sb (3 * k)) := fun w => by
  obtain ⟨w1, x, e1, s, rfl, hs⟩ := ha w
  have l := PyProof.Rows.len_upper s
  have e3 : gUpper (.str s) [] = some (.sh (.str (Txt.upper s))) := if_pos (by omega)
  refine ⟨w1, .str (Txt.upper s), ?_, _, rfl, by omega⟩
  clear hs l
  generalize Txt.upper s = U at *
  walk_at "ev"
theorem c_ixL {x y : Int} (ha : Tl E a rest n R) (hb : Ts E b rest (Ib x y)) (h : 0 ≤ x ∧ y ≤ n) : Ts E (e2 dIx a b) rest R := ts_ixL ha (hb.imp fun _ g => g.le h.1 (Int.le_refl _)) h.2 fun _ g => g
theorem c_join {z : Str} {k l : Nat} (ha : Tc E a rest l (Sb k)) (h : z.length ≤ 100 ∧ k * l + l * z.length ≤ 900000) : Ts E (eMetS gJoin (eC (.str z)) [a]) rest (Sb (k * l + l * z.length)) := ts_join ha h.1 (Nat.le_refl _) h.2
theorem ssn : Tss E rest (Sb 0) [] := trivial
theorem tss_imp : ∀ {fs : List (M ER)}, Tss E rest R fs → (∀ d, R d → P d) → Tss E rest P fs
  | [], _, _ => trivial
  | f :: fs, h, g => ⟨h.1.imp g, tss_imp h.2 g⟩
theorem ssc {k l : Nat} {fs : List (M ER)} (h : Ts E fa rest (Sb k)) (h2 : Tss E rest (Sb l) fs) : Tss E rest (Sb (max k l)) (fa :: fs) :=
  ⟨h.imp fun _ g => g.le (Nat.le_max_left _ _), tss_imp h2 fun _ g => g.le (Nat.le_max_right _ _)⟩
theorem sin : Tss E rest (Ib 0 0) [] := trivial
theorem si1 {x y : Int} (h : Ts E fa rest (Ib x y)) : Tss E rest (Ib x y) [fa] := ⟨h, trivial⟩
theorem sic {x y u v : Int} {fs : List (M ER)} (h : Ts E fa rest (Ib x y)) (h2 : Tss E rest (Ib u v) fs) : Tss E rest (Ib (min x u) (max y v)) (fa :: fs) :=
  ⟨h.imp fun _ g => g.le (Int.min_le_left _ _) (Int.le_max_left _ _), tss_imp h2 fun _ g => g.le (Int.min_le_right _ _) (Int.le_max_right _ _)⟩
theorem c_lst {fs : List (M ER)} (h : Tss E rest P fs) : TlF E (eLst fs) rest fs.length P := tl_lst h rfl
theorem Tl.imp (h : Tl E a rest n R) (g : ∀ d, R d → P d) : Tl E a rest n P := fun w => by
  obtain ⟨w', r, ds, e, c, l, hp⟩ := h w
  exact ⟨w', r, ds, e, c, l, fun x hx => g x (hp x hx)⟩
theorem c_catL {k l p q : Nat} (ha : Tl E a rest k (Sb p)) (hb : Tl E b rest l (Sb q)) (hn : k + l ≤ 1000000) : TlF E (e2 dAdd a b) rest (k + l) (Sb (max p q)) :=
  tl_cat (ha.imp fun _ g => g.le (Nat.le_max_left _ _)) (hb.imp fun _ g => g.le (Nat.le_max_right _ _)) rfl hn
theorem c_range {x : M ER} {j : Nat} {u v : Int} (ha : Ts E a rest (Ib u v)) (hk : 0 ≤ u ∧ v ≤ 1000) (hj : rest[j]? = some .un) (hx : ∀ i : Int, Ts E x (rest.set j (.sh (.int i))) P) : Tc E (eLc (iB rng1 [a]) [j + 1] (gN (j + 1)) mYes x) rest (v - 1).toNat P :=
  tc_range (ha.imp fun _ g => g.le hk.1 (by omega)) (by omega) hj hx
theorem c_rangeV {x : M ER} {j : Nat} {u v : Int} (ha : Ts E a rest (Ib u v)) (hk : 0 ≤ u ∧ v ≤ 1000) (hj : rest[j]? = some .un) (hx : ∀ i : Int, Ts E x (rest.set j (.sh (.int i))) P) : Tc E (eLc (iB rng1 [a]) [j + 1] (gN (j + 1)) mYes x) rest (v - 1).toNat P := c_range ha hk hj hx
theorem TlF.le (h : TlF E a rest n R) : TlF E a rest n R := h
theorem Tc.le {k l : Nat} (h : Tc E a rest k (Sb m)) (h2 : k ≤ l) (h3 : m ≤ n) : Tc E a rest l (Sb n) := fun w => by
  obtain ⟨w', ds, e, hl, hp⟩ := h w
  exact ⟨w', ds, e, by omega, fun x hx => (hp x hx).le h3⟩
theorem Ts.leS {k : Nat} (h : Ts E a rest (Sb k)) (h2 : k ≤ n) : Ts E a rest (Sb n) := h.imp fun _ g => g.le h2
theorem Ts.leI {x y u v : Int} (h : Ts E a rest (Ib x y)) (h2 : u ≤ x ∧ y ≤ v) : Ts E a rest (Ib u v) := h.imp fun _ g => g.le h2.1 h2.2
section
variable {st st1 st2 : SM} {Q Q' : En → Prop} {t : M Bool} {fg : List Nat}
theorem hs_ifsetS {d0 : D} {k k0 : Nat} (ht : Tb E t rest) (h : Ts E a rest (Sb k)) (hs : rest[i]? = some (.sh d0)) (h0 : Sb k0 d0) (hq : ∀ d, Sb (max k k0) d → Ht E st (rest.set i (.sh d)) Q P) : Ht E (sSeq (sIf t (sSet (i + 1) a) sNil) st) rest Q P :=
  hs_ifset ht (h.leS (Nat.le_max_left _ _)) hs (h0.le (Nat.le_max_right _ _)) hq
theorem hs_setK {s : Sl} {d : D} (hs : rest[i]? = some s) (hp : s.isPn = false) (hq : Ht E st (rest.set i (.sh d)) Q P) : Ht E (sSeq (sSet (i + 1) (eC d)) st) rest Q P :=
  hs_set (R := fun e => e = d) (ts_c rfl) hs hp fun e he => by rw [he]; exact hq
/-- a test that is known -/
theorem hs_ifsetK {d0 : D} {k k0 : Nat} {q : Bool} (ht : ∀ w, t (wE E w :: rest) = .ok q (wE E w :: rest)) (h : q = true → Ts E a rest (Sb k)) (hs : rest[i]? = some (.sh d0)) (h0 : Sb k0 d0) (hq : ∀ d, Sb (max k k0) d → Ht E st (rest.set i (.sh d)) Q P) : Ht E (sSeq (sIf t (sSet (i + 1) a) sNil) st) rest Q P := by
  refine h_seq (Q' := fun r => ∃ d, Sb (max k k0) d ∧ r = rest.set i (.sh d)) (fun w => ?_) fun r ⟨d, hd, e⟩ => by rw [e]; exact hq d hd
  cases q with
  | true =>
    obtain ⟨w', d, e, hd⟩ := h rfl w
    refine .inl ⟨w', rest.set i (.sh d), ?_, ⟨d, hd.le (Nat.le_max_left _ _), rfl⟩, List.length_set⟩
    rw [sIf_ap, ht w, then_ok, if_pos rfl, sSet_ap, e, then_ok, put_sh (i := i + 1) (s := .sh d0) (by rw [List.getElem?_cons_succ]; exact hs) rfl, List.set_cons_succ]
  | false =>
    refine .inl ⟨w, rest, ?_, ⟨d0, h0.le (Nat.le_max_right _ _), (set_same hs).symm⟩, rfl⟩
    rw [sIf_ap, ht w, then_ok, if_neg Bool.false_ne_true]
    rfl
theorem hs_suite (ht : Tb E t rest) (h : Ht E st1 rest (fun _ => False) P) (hf : fg.all (fun j => decide (1 ≤ j)) = true) (hw : wipeR rest fg = rest) (hq : Ht E st rest Q P) : Ht E (sSeq (sIf t (sFg fg st1) (sFg fg sNil)) st) rest Q P :=
  h_seq (Q' := fun r => r = rest) (h_if ht (h_fg hf (fun w => by
    rcases h w with ⟨_, _, _, hq, _⟩ | h
    · exact hq.elim
    · exact .inr h)) (h_fg hf (h_nil hw))) fun r e => by rw [e]; exact hq
theorem h_all {Q : En → Prop} (h : Ht E st rest (fun _ => False) P) : Ht E st rest Q P := fun w => by
  rcases h w with ⟨_, _, _, hq, _⟩ | h
  · exact hq.elim
  · exact .inr h
end
end
end Fw
set_option Elab.async false
set_option linter.all false
set_option maxRecDepth 100000
namespace Fw
open PySem PySem.Spec PyProof.Rows L2
/-! f-strings of two parts with a text between them -/
def fmtD : D → Option Str
  | .str y => if y.length ≤ 1000000 then some y else none
  | .int i => if i.natAbs.log2 < 1920 then some (toString i : String) else none
  | _ => none
def eJ3 (s : Str) (fa fb : M ER) : M ER := fun en => (fa en).bind fun ra en1 => match (cur en1 ra).bind fmtD with
  | some y => if y.length + s.length ≤ 1000000 then ((fb en1).bind fun rb en2 => (match (cur en2 rb).bind fmtD with
    | some z => if y.length + s.length + z.length ≤ 1000000 then .ok (.sh (.str (y ++ s ++ z))) en2 else .bad
    | none => .bad)) else .bad
  | none => .bad
theorem eJ3_ap {s : Str} {fa fb : M ER} {en : En} : eJ3 s fa fb en = (fa en).bind fun ra en1 => (match (cur en1 ra).bind fmtD with
  | some y => if y.length + s.length ≤ 1000000 then ((fb en1).bind fun rb en2 => (match (cur en2 rb).bind fmtD with
    | some z => if y.length + s.length + z.length ≤ 1000000 then .ok (.sh (.str (y ++ s ++ z))) en2 else .bad
    | none => .bad)) else .bad
  | none => .bad) := rfl
section
variable {W : Wc} {E : St → XK} {X : Cx} {a b c o e : Expr} {es : List Expr} {fa fb fc fo : M ER} {fs fs2 : List (M ER)} {pos apos p : Pos} {G : Gc} {en en' : En} {σ : St} {F H F' H' : Hp} {m : FM} {x nm : Str} {k n : Nat} {ks : List Str} {is : List Nat} {dds : List D}
theorem fs_len (a b : Str) : (a ++ b).length = a.length + b.length := by
  show (a.cps ++ b.cps).size = _
  simp [Str.length]
theorem fs_empty (a : Str) : Str.empty ++ a = a := by
  obtain ⟨⟨l⟩⟩ := a
  show (⟨#[] ++ ⟨l⟩⟩ : Str) = _
  simp
theorem fmt_vb {ra : ER} {v : V} {y : Str} (R : Rel W G en σ F H) (va : VW W σ F ra v) (h : (cur en ra).bind fmtD = some y) :
    (∃ z : Str, v = .str z ∧ z.length ≤ sizeLine ∧ y = z) ∨ ∃ i : Int, v = .int i ∧ i.natAbs.log2 < 1920 ∧ y = (toString i : String) := by
  cases e : cur en ra with
  | none => rw [e] at h; cases h
  | some d =>
    rw [e] at h
    have vb := va.vb R e
    cases d with
    | str z =>
      left
      have h' : (if z.length ≤ 1000000 then some z else none) = some y := h
      by_cases q : z.length ≤ 1000000
      · rw [if_pos q] at h'
        cases h'
        exact ⟨_, vb.str, by rw [sizeLine_eq]; omega, rfl⟩
      · rw [if_neg q] at h'; cases h'
    | int i =>
      right
      have h' : (if i.natAbs.log2 < 1920 then some (Str.ofString (toString i)) else none) = some y := h
      by_cases q : i.natAbs.log2 < 1920
      · rw [if_pos q] at h'
        cases h'
        exact ⟨_, vb.int, q, rfl⟩
      · rw [if_neg q] at h'; cases h'
    | _ => cases h
theorem ev_j3 {s : Str} {j} {p1 p2 p3 : Pos} (ha : EV W E X a fa) (hb : EV W E X b fb) : EV W E X (.JoinedStr [.FormattedValue a (-1) none p1, .Constant (.str s) j p2, .FormattedValue b (-1) none p3] pos) (eJ3 s fa fb) := by
  refine PE.imp (pe_joined (PJ.cons (pe_fmt ha) (PJ.cons pe_str (PJ.cons (pe_fmt hb) PJ.nil)))) fun σ H Q hq => ?_
  obtain ⟨G, F, en, R, h⟩ := tE.out.mp hq
  show tE W E fa σ H _
  refine ev_then R h fun ra en1 x F1 H1 h1 R1 x1 va => ?_
  cases e1 : (cur en1 ra).bind fmtD with
  | none => rw [e1] at h1; exact h1.elim
  | some y =>
    rw [e1] at h1
    dsimp only at h1
    by_cases hl : y.length + s.length ≤ 1000000
    · rw [if_pos hl] at h1
      have z0 : sizeLine = 16777216 := sizeLine_eq
      have fin : ∃ u : Str, V.str y = .str u ∧ (Str.empty ++ u).length ≤ sizeLine ∧ (∃ u2 : Str, V.str s = .str u2 ∧ (Str.empty ++ u ++ u2).length ≤ sizeLine ∧ tFmt (tE W E fb) σ H1 fun x3 H3 => ∃ u3 : Str, x3 = .str u3 ∧ (Str.empty ++ u ++ u2 ++ u3).length ≤ sizeLine ∧ Q (.str (Str.empty ++ u ++ u2 ++ u3)) H3) := by
        refine ⟨y, rfl, by rw [fs_empty, z0]; omega, s, rfl, by rw [fs_empty, fs_len, z0]; omega, ?_⟩
        rw [fs_empty]
        show tE W E fb σ H1 _
        refine ev_then R1 h1 fun rb en2 x2 F2 H2 h2 R2 xx2 vb => ?_
        cases e2 : (cur en2 rb).bind fmtD with
        | none => rw [e2] at h2; exact h2.elim
        | some z =>
          rw [e2] at h2
          dsimp only at h2
          by_cases hl2 : y.length + s.length + z.length ≤ 1000000
          · rw [if_pos hl2] at h2
            have q : Q (.str (y ++ s ++ z)) H2 := h2 _ F2 H2 R2 (x1.trans xx2) (Dat.str _)
            have ql : (y ++ s ++ z).length ≤ sizeLine := by rw [fs_len, fs_len, z0]; omega
            rcases fmt_vb R2 vb e2 with ⟨z, rfl, hz, rfl⟩ | ⟨i, rfl, hz, rfl⟩
            · exact .inl ⟨_, rfl, hz, _, rfl, ql, q⟩
            · exact .inr ⟨_, rfl, hz, _, rfl, ql, q⟩
          · rw [if_neg hl2] at h2; exact h2.elim
      rcases fmt_vb R1 va e1 with ⟨z, rfl, hz, rfl⟩ | ⟨i, rfl, hz, rfl⟩
      · exact .inl ⟨_, rfl, hz, fin⟩
      · exact .inr ⟨_, rfl, hz, fin⟩
    · rw [if_neg hl] at h1; exact h1.elim
/-! str(x) of an instance whose class has a __str__ of its own -/
def strR : R En ER → R En ER
  | .ok (.sh (.str y)) en => .ok (.sh (.str y)) en
  | .exc c fs en => .exc c fs en
  | _ => .bad
def eStrI (tab : List (Nat × FM × List D)) (fo : M ER) : M ER := fun en => (fo en).bind fun r0 en1 => strR (match (cur en1 r0).bind (insOk "__str__") with
  | some c => (match tab.lookup c with
    | some (m, dds) => (eA [] en1).bind fun rs en2 => callM [] m dds (r0 :: rs) en2
    | none => .bad)
  | none => .bad)
theorem eStrI_ap {tab : List (Nat × FM × List D)} {fo : M ER} {en : En} : eStrI tab fo en = (fo en).bind fun r0 en1 => strR (match (cur en1 r0).bind (insOk "__str__") with
  | some c => (match tab.lookup c with
    | some (m, dds) => callM [] m dds [r0] en1
    | none => .bad)
  | none => .bad) := rfl
theorem strR_ok {y : Str} {en : En} : strR (.ok (.sh (.str y)) en) = .ok (.sh (.str y)) en := rfl
def X2 (X : Cx) : Cx := { X with A := X.A.in1.in1 }
theorem room2 (hr : Room (k + 2) X.A) : Room k (X2 X).A := hr.in1.in1
theorem run_str2 {sp : Sp} {f : Addr} {fd : FuncData} {ps : List Str} {g : List Value → List Value → List Value} {gV : List V → List V → List V} {pins : List (Addr × Obj)} {s : Shared} {Q : VK} {us : List Value} {vs : List V} (F : FnOk X.prog X.w X.K X.mg X.base (L2.CX X.prog X.w) k f fd ps sp) (hr : Room k X.A.in1.in1) (hb : KBn X.K fd ps 1 [] g gV) (hx : PassesAt (L2.CX X.prog X.w) X σ (E σ))
    (I : Inv X pins σ H s) (r : Vals vs us) (l1 : vs.length = 1) (h : sp (gV vs []) H Q (E σ)) : wpAny (model X.prog X.w) X.A.in1.in1 (call (.ref f) us) (EP X pins σ Q) X.xe s := by
  have r2 := hb.rel r .nil
  refine wpAny_call (codeAny_mono (F.run X.A.in1.in1 X.stack s H ⟨us, []⟩ (g us []) (gV vs []) Q (E σ) hr I.env0.in1.in1 (hb.to s us [] I.kIn (r.length.symm.trans l1) rfl) r2 h) fun r s' hq => ?_)
  cases r with
  | error e => exact hx pins H s e s' I hq
  | ok fl =>
    cases fl with
    | ret u => exact I.after hq
    | next => exact False.elim hq
    | brk => exact False.elim hq
    | cont => exact False.elim hq
def qStrI (X : Cx) (E : St → XK) (σ : St) (Q : VK) (x : V) (H1 : Hp) : Prop := ∃ (a C dx : Addr) (fs : List (Str × V)) (f : Addr) (fd : FuncData) (ps : List Str) (k : Nat) (sp : Sp) (g : List Value → List Value → List Value) (gV : List V → List V → List V),
  x = .ref a ∧ H1 a = some (.ins C dx fs) ∧ Meth X.K C "__str__" f ∧ FnOk X.prog X.w X.K X.mg X.base (L2.CX X.prog X.w) k f fd ps sp ∧ Room k X.A.in1.in1 ∧ KBn X.K fd ps 1 [] g gV ∧
  sp (gV [x] []) H1 (fun v H2 => ∃ y, v = .str y ∧ Q (.str y) H2) (E σ)
def tStrI (X : Cx) (E : St → XK) (te : TE) : TE := fun σ H Q => te σ H fun x H1 => qStrI X E σ Q x H1
theorem pe_strI {te : TE} (hx : ∀ σ, PassesAt (L2.CX X.prog X.w) X σ (E σ)) (ho : PE X o te) (hm : X.mg "str" = none) (hg : Gl X "str") (na : starEach [o] X.env = (false, eval o X.env) :: starEach [] X.env) (hpl : (backTo pos (starEach [] X.env)).any (·.1) = false) :
    PE X (.Call (.Name "str" p) [o] [] pos) (tStrI X E te) := by
  refine ⟨fun pins s σ H Q I h => ?_⟩
  refine wpAny_Call_Name_kw (ld_blt (u := .type "str") I hg hm (by decide +kernel) ?_ (by decide) (by decide))
  refine PyProof.Rows.callWith_type1 (thn ((pa_cons ho pa_nil na).run pos pins s σ H (fun vs H1 => match vs with | [x] => qStrI X E σ Q x H1 | _ => False) I h) fun us s1 ⟨vs, H1, I1, r1, q1⟩ => ?_) na hpl
  match vs, r1, q1 with
  | [x], r1, q1 =>
    obtain ⟨a, C, dx, fs, f, fd, ps, k, sp, g, gV, rfl, ea, M, F, hr, hb, q⟩ := q1
    obtain ⟨u, rfl, ru⟩ := vals1 r1
    obtain rfl : u = Value.ref a := ru
    obtain ⟨mA, O, _, _, _, _⟩ := ins_get I1.hok ea
    obtain ⟨od, hd, _⟩ := lookIn_ns O.ns
    refine PySem.W.kso_call (K := X.K) (C := C) (f := f) (ox := PySem.W.instObj C dx) (od := some od) hr.units0 I1.kIn ⟨O.obj, rfl, rfl, hd⟩ M.at_ M.fn ?_
    refine wpAny_mono (run_str2 (us := [.ref a]) (vs := [.ref a]) F hr hb (hx σ) I1 (.cons rfl .nil) rfl q) (fun v s2 hv => ?_) fun _ _ y => y
    obtain ⟨w, H2, I2, rw2, y, rfl, q2⟩ := hv
    obtain ⟨t, rfl⟩ := rw2
    exact ⟨.str y, H2, I2, ⟨t, rfl⟩, q2⟩
theorem strR_out {A : VK} {r : R En ER} (h : Out W E G σ (AE W G σ F A) (strR r)) : Out W E G σ (AE W G σ F (fun v H2 => ∃ y, v = .str y ∧ A (.str y) H2)) r := by
  cases r with
  | bad => exact h
  | exc c fs en => exact h
  | ok r en' =>
    cases r with
    | sh d =>
      cases d with
      | str y =>
        intro v F' H' R' x' vr
        have vd : Dat W F' v (.str y) := vr
        cases vd
        exact ⟨y, rfl, h _ F' H' R' x' vr⟩
      | _ => exact h.elim
    | _ => exact h.elim
theorem ev_strI {tab : List (Nat × FM × List D)} (hT : TabOk (X2 X) W "__str__" 0 [] tab) (hx : Pass X E) (hm : X.mg "str" = none) (ho : EV W E X o fo) (hg : Gl X "str" := by rfl) (na : starEach [o] X.env = (false, eval o X.env) :: starEach [] X.env := by rfl) (hpl : (backTo pos (starEach [] X.env)).any (·.1) = false := by rfl) :
    EV W E X (.Call (.Name "str" p) [o] [] pos) (eStrI tab fo) := by
  refine PE.imp (pe_strI hx ho hm hg na hpl) fun σ H Q hq => ?_
  obtain ⟨G, F, en, R, h⟩ := tE.out.mp hq
  show tE W E fo σ H _
  refine ev_then R h fun r0 en1 v F1 H1 h1 R1 x1 va => ?_
  have h2 := strR_out h1
  obtain ⟨a, C, dx, fls, f, fd, ps, k, g, dvs, is, m, dds, ea, hH, hl, hc, hM, FO, hr, hb, nd, hd, h3⟩ := meth_at (X := X2 X) (fs := []) hT R1 va h2
  refine ⟨a, C, dx, fls, f, fd, ps, k, _, g, _, ea, hH, hM, FO, hr, hb, ?_⟩
  exact call_runK (rs := [r0]) (vs := [v]) (ss := []) (zs := []) nd R1 ⟨va, trivial⟩ trivial hd F x1 h3
end
end Fw
set_option Elab.async false
set_option linter.all false
set_option maxRecDepth 100000
namespace Fw
open PySem PySem.Spec PyProof.Rows L2
/-! dict(pairs) -/
def pairsD : List D → Option (List (Key × D))
  | [] => some []
  | .tup [k, v] :: ds => (match keyOf k, pairsD ds with
    | some k, some r => some ((k, v) :: r)
    | _, _ => none)
  | _ => none
def mergeD (kvs more : List (Key × D)) : List (Key × D) := more.foldl (fun acc kv => putDk acc kv.1 kv.2) kvs
def gDictP : List D → Option ER
  | [.lst ds] => (match pairsD ds with
    | some kvs => some (.fr (.dk (mergeD [] kvs)))
    | none => none)
  | _ => none
section
variable {W : Wc} {E : St → XK} {X : Cx} {F H : Hp}
theorem dp_merge : ∀ {more' : List (Key × V)} {more : List (Key × D)} {kvs' : List (Key × V)} {kvs : List (Key × D)}, DP W F more' more → DP W F kvs' kvs → DP W F (mergeK kvs' more') (mergeD kvs more)
  | [], [], _, _, _, h => h
  | [], _ :: _, _, _, h, _ => by have := h.1; simp at this
  | _ :: _, [], _, _, h, _ => by have := h.1; simp at this
  | (g, x) :: r, (g', x') :: r', kvs', kvs, h, h0 => by
    obtain ⟨rfl, h2, h3⟩ := dpk_cons.mp h
    show DP W F (mergeK (putK kvs' g x) r) (mergeD (putDk kvs g x') r')
    exact dp_merge h3 (dpk_put h2 h0)
theorem pairs_at (s : Ex F H) : ∀ {ds : List D} {vs : List V} {kvs : List (Key × D)}, DL W F vs ds → pairsD ds = some kvs → ∃ (ps : List Addr) (kvs' : List (Key × V)), vs = ps.map V.ref ∧ Paired (fun p kv => SqT W.K H p [kV kv.1, kv.2]) ps kvs' ∧ DP W F kvs' kvs
  | [], vs, kvs, h, e => by
    cases e
    have : vs = [] := List.eq_nil_of_length_eq_zero (by simpa using h.1)
    subst this
    exact ⟨[], [], rfl, .nil, dpk_nil⟩
  | d :: ds, vs, kvs, h, e => by
    cases vs with
    | nil => have := h.1; simp at this
    | cons v vs =>
      have hv : Dat W F v d := h.2 0 v d rfl rfl
      have ht : DL W F vs ds := ⟨by have := h.1; simpa using this, fun i a b x y => h.2 (i + 1) a b x y⟩
      match d, hv, e with
      | .tup [k, w], hv, e =>
        unfold pairsD at e
        cases hk : keyOf k with
        | none => rw [hk] at e; cases e
        | some key =>
          cases hr : pairsD ds with
          | none => rw [hk, hr] at e; cases e
          | some r =>
            rw [hk, hr] at e
            cases e
            obtain ⟨ps, kvs', rfl, hp, hd⟩ := pairs_at s ht hr
            cases hv with
            | @tup a xs _ ha l c =>
              match xs, l with
              | [x, y], _ =>
                have hx : Dat W F x k := c 0 x k rfl rfl
                have hy : Dat W F y w := c 1 y w rfl rfl
                have ex : x = kV key := by
                  cases k with
                  | int i => cases hk; cases hx; rfl
                  | str i => cases hk; cases hx; rfl
                  | _ => cases hk
                subst ex
                exact ⟨a :: ps, (key, y) :: kvs', rfl, .cons (SqT.of (s _ _ ha)) hp, dpk_cons.mpr ⟨rfl, hy, hd⟩⟩
theorem s_dictP : CallS W (fun xs H Q => ∃ (a : Addr) (ps : List Addr) (kvs : List (Key × V)), xs = [.ref a] ∧ SqL W.K H a (ps.map V.ref) ∧ Paired (fun p kv => SqT W.K H p [kV kv.1, kv.2]) ps kvs ∧ ∀ p, H p = none → Q (.ref p) (upd H p (.dK (mergeK [] kvs)))) gDictP := by
  intro F H xs ds r Q hs hv e q
  match ds, e with
  | [.lst ds], e =>
    have e : (match pairsD ds with | some kvs => some (ER.fr (.dk (mergeD [] kvs))) | none => none) = some r := e
    cases hp : pairsD ds with
    | none => rw [hp] at e; cases e
    | some kvs =>
      rw [hp] at e
      cases e
      obtain ⟨v, rfl, vb⟩ := vbs1 hv
      obtain ⟨p, vs, rfl, h, l⟩ := vb.lst hs
      obtain ⟨ps, kvs', rfl, hpair, hd⟩ := pairs_at hs l hp
      refine ⟨p, ps, kvs', rfl, SqL.of h, hpair, fun b hb => ?_⟩
      exact q _ _ _ (Stp.cell hs hb) ⟨b, rfl, hb, ⟨_, upd_same, dp_merge hd dpk_nil⟩, no_of (s := hs) hb⟩
end
end Fw
set_option Elab.async false
set_option linter.all false
set_option maxRecDepth 100000
namespace Fw
open PySem PySem.Spec PyProof.Rows L2
/-! sorted of a dict with text keys, list(d.items()) -/
def keyDat : Key → D
  | .inl i => .int i
  | .inr s => .str s
def eItemsL (fe : M ER) : M ER := fun en => (fe en).bind fun r en1 => match cur en1 r with
  | some (.dk kvs) => .ok (.fr (.lst (kvs.map fun kv => .tup [keyDat kv.1, kv.2]))) en1
  | _ => .bad
theorem eItemsL_ap (fe : M ER) (en : En) : eItemsL fe en = (fe en).bind fun r en1 => match cur en1 r with
  | some (.dk kvs) => .ok (.fr (.lst (kvs.map fun kv => .tup [keyDat kv.1, kv.2]))) en1
  | _ => .bad := rfl
def ltS (a b : Str) : Bool := ltCps a.cps.toList b.cps.toList
def leS (a b : Str) : Bool := !ltS b a
def sortStrs (ss : List Str) : List Str := ss.mergeSort leS
def keyStrs : List (Key × D) → Option (List Str)
  | [] => some []
  | (.inr s, _) :: r => (match keyStrs r with | some ss => some (s :: ss) | none => none)
  | _ => none
def gSortB : List D → Option ER
  | [.dk kvs] => (match keyStrs kvs with
    | some ss => if ss.length < 64 then some (.fr (.lst ((sortStrs ss).map D.str))) else none
    | none => none)
  | ds => gSortA ds
theorem ltS_eq (a b : Str) : ltS a b = decide (a.cps.toList < b.cps.toList) := ltCps_eq _ _
theorem str_cps {a b : Str} (h : a.cps.toList = b.cps.toList) : a = b := by
  cases a; cases b; cases (Array.toList_inj.mp h); rfl
theorem leS_iff (a b : Str) : leS a b = true ↔ a.cps.toList ≤ b.cps.toList := by
  unfold leS
  rw [ltS_eq, Bool.not_eq_true', decide_eq_false_iff_not]
  exact List.not_lt
theorem leS_trans (a b c : Str) (h1 : leS a b = true) (h2 : leS b c = true) : leS a c = true := by
  rw [leS_iff] at *
  exact List.le_trans h1 h2
theorem leS_total (a b : Str) : (leS a b || leS b a) = true := by
  rw [Bool.or_eq_true, leS_iff, leS_iff]
  exact List.le_total _ _
theorem leS_antisymm {a b : Str} (h1 : leS a b = true) (h2 : leS b a = true) : a = b := by
  rw [leS_iff] at *
  exact str_cps (List.le_antisymm h1 h2)
theorem sortS_perm (ss : List Str) : (sortStrs ss).Perm ss := List.mergeSort_perm ss leS
theorem sortS_sorted (ss : List Str) : (sortStrs ss).Pairwise (fun a b => leS a b = true) := List.pairwise_mergeSort leS_trans leS_total ss
theorem sortS_unique {l m : List Str} : l.Perm m → l.Pairwise (fun a b => leS a b = true) → m.Pairwise (fun a b => leS a b = true) → l = m := by
  induction l generalizing m with
  | nil => intro p _ _; exact (List.Perm.nil_eq p)
  | cons x l ih =>
    intro p h1 h2
    cases m with
    | nil => exact absurd p.length_eq (by simp)
    | cons y m =>
      have hx : x ∈ y :: m := p.subset (List.mem_cons_self)
      have hy : y ∈ x :: l := p.symm.subset (List.mem_cons_self)
      have e : x = y := by
        rcases List.mem_cons.mp hx with z | z
        · exact z
        · rcases List.mem_cons.mp hy with w | w
          · exact w.symm
          · exact leS_antisymm ((List.pairwise_cons.mp h1).1 y w) ((List.pairwise_cons.mp h2).1 x z)
      subst e
      rw [ih ((List.perm_cons x).mp p) (List.pairwise_cons.mp h1).2 (List.pairwise_cons.mp h2).2]
theorem rising_le : ∀ {r : List Str} {p : Str}, risingS p r = true → (∀ x ∈ r, leS p x = true) ∧ r.Pairwise (fun a b => leS a b = true)
  | [], p, _ => ⟨fun x h => absurd h (by simp), .nil⟩
  | x :: r, p, h => by
    have h : (!ltCps x.cps.toList p.cps.toList && risingS x r) = true := h
    rw [Bool.and_eq_true] at h
    have ih := rising_le h.2
    have h1 : leS p x = true := h.1
    exact ⟨fun y hy => by rcases List.mem_cons.mp hy with rfl | hy; exact h1; exact leS_trans _ _ _ h1 (ih.1 y hy), .cons ih.1 ih.2⟩
theorem sortedS_le : ∀ {l : List Str}, sortedS l = true → l.Pairwise (fun a b => leS a b = true)
  | [], _ => .nil
  | x :: r, h => .cons (rising_le h).1 (rising_le h).2
theorem keyStrs_ok : ∀ {kvs : List (Key × D)} {ss : List Str}, keyStrs kvs = some ss → kvs.map (·.1) = ss.map Sum.inr
  | [], ss, h => by cases h; rfl
  | (.inr s, _) :: r, ss, h => by
    unfold keyStrs at h
    cases e : keyStrs r with
    | none => rw [e] at h; cases h
    | some t => rw [e] at h; cases h; rw [List.map_cons, List.map_cons, keyStrs_ok e]
  | (.inl i, _) :: r, ss, h => by cases h
def rSortedB (X : Cx) : List V → Hp → VK → Prop := fun xs H Q => (∃ (a : Addr) (kvs : List (Key × V)) (ks : List Str), xs = [.ref a] ∧ Rd H a (.dK kvs) ∧ kvs.map (·.1) = ks.map Sum.inr ∧ ks.length < 64 ∧
    ∀ ys p, ys.Perm ks → sortedS ys = true → H p = none → Q (.ref p) (upd H p (.lst (ys.map V.str)))) ∨ rSortedA X.K xs H Q
/-- x < y of numbers, or of texts -/
def dLtA : D → D → Option ER
  | .int i, .int j => some (.sh (.bl (decide (i < j))))
  | .str i, .str j => some (.sh (.bl (ltS i j)))
  | _, _ => none
def rLtA : R2 := fun x y H Q => (∃ i j, x = .int i ∧ y = .int j ∧ Q (.bl (decide (i < j))) H) ∨ ∃ i j, x = .str i ∧ y = .str j ∧ Q (.bl (decide (i.cps.toList < j.cps.toList))) H
section
variable {W : Wc} {E : St → XK} {X : Cx} {F H : Hp} {e : Expr} {fe : M ER} {p apos cpos pos : Pos}
theorem op_ltA : OpR X (compareOp .Lt) rLtA := by
  intro pins s σ H x y v u Q I rx ry h
  rcases h with h | h
  · exact op_lt _ _ _ _ _ _ _ _ _ I rx ry h
  · exact op_lt_str _ _ _ _ _ _ _ _ _ I rx ry h
theorem s_ltA : OpS W rLtA dLtA := by
  intro F H x y dx dy r Q hs hx hy e q
  unfold dLtA at e
  split at e
  · cases e; exact .inl ⟨_, _, hx.int, hy.int, res_sh hs q (Dat.bl _)⟩
  · cases e
    refine .inr ⟨_, _, hx.str, hy.str, ?_⟩
    rw [← ltS_eq]
    exact res_sh hs q (Dat.bl _)
  · cases e
theorem cr_sortedB (hc : X.calm = true) : CallR X (.builtin "sorted") (rSortedB X) := by
  intro pins s σ H vs us Q I r h
  rcases h with h | h
  · exact call_sortedD hc _ _ _ _ _ _ _ I r h
  · exact cr_sortedA _ _ _ _ _ _ _ I r h
theorem s_sortB (hK : W.K = X.K) : CallS W (rSortedB X) gSortB := by
  intro F H xs ds r Q hs hv e q
  have go : gSortA ds = some r → rSortedB X xs H Q := fun e => .inr (by have := s_sortA (W := W) _ _ _ _ _ _ hs hv e q; rw [hK] at this; exact this)
  match ds, e, hv with
  | [.dk kvs], e, hv =>
    left
    have e : (match keyStrs kvs with | some ss => if ss.length < 64 then some (ER.fr (.lst ((sortStrs ss).map D.str))) else none | none => none) = some r := e
    cases hk : keyStrs kvs with
    | none => rw [hk] at e; cases e
    | some ss =>
      rw [hk] at e
      by_cases hl : ss.length < 64
      · have e : (if ss.length < 64 then some (ER.fr (.lst ((sortStrs ss).map D.str))) else none) = some r := e
        rw [if_pos hl] at e
        cases e
        obtain ⟨v, rfl, vb⟩ := vbs1 hv
        obtain ⟨a, kvs', rfl, hH, dp⟩ := vb.dk hs
        refine ⟨a, kvs', ss, rfl, .inl hH, dp.1.trans (keyStrs_ok hk), hl, fun ys p pm st hp => ?_⟩
        have e1 : ys = sortStrs ss := sortS_unique (pm.trans (sortS_perm ss).symm) (sortedS_le st) (sortS_sorted ss)
        subst e1
        refine res_lst hs q ?_ p hp
        exact ⟨by simp, fun i v d h1 h2 => by
          rw [List.getElem?_map] at h1 h2
          cases h3 : (sortStrs ss)[i]? with
          | none => rw [h3] at h1; cases h1
          | some x => rw [h3] at h1 h2; cases h1; cases h2; exact Dat.str x⟩
      · have e : (if ss.length < 64 then some (ER.fr (.lst ((sortStrs ss).map D.str))) else none) = some r := e
        rw [if_neg hl] at e; cases e
  | [], e, _ => exact go e
  | [.non], e, _ => exact go e
  | [.bl _], e, _ => exact go e
  | [.int _], e, _ => exact go e
  | [.str _], e, _ => exact go e
  | [.tup _], e, _ => exact go e
  | [.rot _], e, _ => exact go e
  | [.lst _], e, _ => exact go e
  | [.rol _], e, _ => exact go e
  | [.dt _], e, _ => exact go e
  | [.ins _ _], e, _ => exact go e
  | [.ty _], e, _ => exact go e
  | [.cl _], e, _ => exact go e
  | [.exn _ _ _ _], e, _ => exact go e
  | d :: _ :: _, e, _ => cases d <;> exact go e
theorem dp_pairs {F' : Hp} : ∀ {ts : List Addr} {kvs' : List (Key × V)} {kvs : List (Key × D)}, DP W F' kvs' kvs → Paired (fun (t : Addr) (q : Key × V) => F' t = some (.tup [kV q.1, q.2])) ts kvs' → DL W F' (ts.map V.ref) (kvs.map fun kv => .tup [keyDat kv.1, kv.2])
  | [], [], [], _, _ => DL.nil
  | [], [], _ :: _, h, _ => by have := h.1; simp at this
  | _ :: _, _ :: _, [], h, _ => by have := h.1; simp at this
  | t :: ts, (g, x) :: r, (g', x') :: r', h, hp => by
    obtain ⟨rfl, h2, h3⟩ := dpk_cons.mp h
    cases hp with
    | cons h4 h5 =>
      refine DL.cons ?_ (dp_pairs h3 h5)
      refine Dat.tup h4 rfl ?_
      have hk : Dat W F' (kV g) (keyDat g) := by cases g <;> constructor
      exact (DL.cons hk (DL.cons h2 DL.nil)).2
open Classical in
theorem ev_litems (hc : X.calm = true) (hm : X.mg "list" = none) (he : EV W E X e fe) (hg : Gl X "list" := by rfl) (hv : bootBuiltins "list" = some (.type "list") := by decide +kernel) (hbase : attributeBase e "items" X.env (eval e X.env) = eval e X.env := by rfl) (hline : (apos.endLine == cpos.line) = true := by rfl)
    (hs : starEach [.Call (.Attribute e "items" apos) [] [] cpos] X.env = (false, eval (.Call (.Attribute e "items" apos) [] [] cpos) X.env) :: starEach [] X.env := by rfl) :
    EV W E X (.Call (.Name "list" p) [.Call (.Attribute e "items" apos) [] [] cpos] [] pos) (eItemsL fe) := by
  refine PE.imp (LiI.pe_listItems hc he hg hm hv hbase hline hs) fun σ H Q hq => ?_
  obtain ⟨G, F, en, R, h⟩ := tE.out.mp hq
  refine ev_then R h fun r en1 x F1 H1 h1 R1 x1 va => ?_
  cases e1 : cur en1 r with
  | none => rw [e1] at h1; exact h1.elim
  | some d =>
    rw [e1] at h1
    match d, e1, h1 with
    | .dk kvs, e1, h1 =>
      have h1 : Out W E G σ _ (Fw.R.ok (ER.fr (.lst (kvs.map fun kv => .tup [keyDat kv.1, kv.2]))) en1) := h1
      obtain ⟨a, kvs', rfl, hH, dp⟩ := (va.vb R1 e1).dk R1.sub
      refine ⟨a, kvs', rfl, hH, fun H' p ts kp np nt npt hp hpair => ?_⟩
      let F' : Hp := fun b => if b ∈ ts then H' b else F1 b
      have hF' : ∀ b, b ∉ ts → F' b = F1 b := fun b hb => if_neg hb
      have ex : Ex F1 F' := fun b u e2 => by
        have : b ∉ ts := fun z => by have := R1.sub _ _ e2; rw [nt b z] at this; cases this
        rw [hF' b this]; exact e2
      have sub : Ex F' H' := fun b u e2 => by
        by_cases hb : b ∈ ts
        · have e3 : F' b = H' b := if_pos hb
          rw [e3] at e2; exact e2
        · rw [hF' b hb] at e2; exact kp b u (R1.sub _ _ e2)
      have st : Stp F1 H1 F' H' := ⟨ex, sub, kp, fun b u e2 n => by
        have : b ∉ ts := fun z => by rw [nt b z] at e2; cases e2
        rw [hF' b this]; exact n⟩
      have hpair' : Paired (fun (t : Addr) (q : Key × V) => F' t = some (.tup [kV q.1, q.2])) ts kvs' := by
        have : ∀ (as : List Addr) (ks : List (Key × V)), (∀ t ∈ as, t ∈ ts) → Paired (fun (t : Addr) (q : Key × V) => H' t = some (.tup [kV q.1, q.2])) as ks → Paired (fun (t : Addr) (q : Key × V) => F' t = some (.tup [kV q.1, q.2])) as ks := by
          intro as
          induction as with
          | nil => intro ks _ h; cases h; exact .nil
          | cons t as ih =>
            intro ks hin h
            cases h with
            | cons h4 h5 =>
              refine .cons ?_ (ih _ (fun b hb => hin b (List.mem_cons_of_mem _ hb)) h5)
              have e3 : F' t = H' t := if_pos (hin t List.mem_cons_self)
              rw [e3]; exact h4
        exact this ts kvs' (fun _ h => h) hpair
      have dp' : DP W F' kvs' kvs := ⟨dp.1, fun i v d h1 h2 => (dp.2 i v d h1 h2).mono ex⟩
      have vn : VN W H1 F' H' (ER.fr (.lst (kvs.map fun kv => .tup [keyDat kv.1, kv.2]))) (.ref p) := ⟨p, rfl, np, ⟨_, hp, dp_pairs dp' hpair'⟩, by rw [hF' p npt]; exact no_of (s := R1.sub) np⟩
      exact h1 (.ref p) F' H' (R1.stp st) (x1.trans st.ex) (vn.vr R1)
end
end Fw
set_option Elab.async false
set_option linter.all false
set_option maxRecDepth 100000
namespace Fw
open PySem PySem.Spec PyProof.Rows L2
/-! while; sorted of pairs of a number and a text -/
def afterW (k : SM) : O → O
  | .nx e => k e
  | .ct e => k e
  | .bk e => .nx e
  | .rt r e => .rt r e
  | .exc c fs e => .exc c fs e
  | .bad => .bad
def whileN (t : M Bool) (b : SM) : Nat → SM
  | 0 => fun _ => .bad
  | n + 1 => fun en => (t en).then fun q en1 => match q with
    | true => afterW (whileN t b n) (b en1)
    | false => .nx en1
/-- a while of at most 100000 turns -/
def sWhile (t : M Bool) (b : SM) : SM := fun en => whileN t b 100000 en
theorem whileN_ap (t : M Bool) (b : SM) (n : Nat) (en : En) : whileN t b (n + 1) en = (t en).then fun q en1 => match q with
    | true => afterW (whileN t b n) (b en1)
    | false => .nx en1 := rfl
theorem sWhile_ap (t : M Bool) (b : SM) (en : En) : sWhile t b en = whileN t b 100000 en := rfl
section
variable {W : Wc} {E : St → XK} {X : Cx} {c : Expr} {sts : List Stmt} {pos : Pos} {ga : M Bool} {f : SM}
theorem sv_while (hp : PassesOwn (model X.prog X.w) X.A X.env X.xe) (hc : BV W E X c ga) (h1 : SVs W E X sts f) : SV W E X (.While c sts [] pos) (sWhile ga f) := by
  refine PS.imp (ps_while hp hc h1) fun D σ H hq => ?_
  obtain ⟨G, F, en, R, h⟩ := tS.out.mp hq
  refine ⟨fun m σ H => ∃ F en, Rel W G en σ F H ∧ SOut W E G D (whileN ga f m en), ⟨100000, F, en, R, h⟩, ?_⟩
  rintro m σ1 H1 ⟨F1, en1, R1, h1⟩
  match m, h1 with
  | 0, h1 => exact h1.elim
  | m + 1, h1 =>
    refine bs_then R1 h1 fun q en' F' H' k R2 x2 => ?_
    cases q with
    | false => exact k σ1 F' H' R2
    | true =>
      refine ⟨fun σ H => ∃ F en, Rel W G en σ F H ∧ SOut W E G D (whileN ga f m en), fun σ' H' w => ⟨m, Nat.lt_succ_self _, w⟩, ?_⟩
      refine tS.of R2 ?_
      have k : SOut W E G D (afterW (whileN ga f m) (f en')) := k
      cases e : f en' with
      | nx e2 => rw [e] at k; exact fun σ' F2 H2 R3 => ⟨F2, e2, R3, k⟩
      | ct e2 => rw [e] at k; exact fun σ' F2 H2 R3 => ⟨F2, e2, R3, k⟩
      | bk e2 => rw [e] at k; exact k
      | rt r e2 => rw [e] at k; exact k
      | exc c fs e2 => rw [e] at k; exact k
      | bad => rw [e] at k; exact k
end
/-! sorted of pairs -/
abbrev IT := Int × Str
def encIT (p : IT) : PyData := .tuple [.int p.1, .str p.2]
def leIT (a b : IT) : Bool := PySem.W.dataLe false encIT a b
def sortIT (bs : List IT) : List IT := bs.mergeSort leIT
def itD (p : IT) : D := .tup [.int p.1, .str p.2]
def itOf? : List D → Option (List IT)
  | [] => some []
  | .tup [.int i, .str s] :: r => (match itOf? r with | some bs => some ((i, s) :: bs) | none => none)
  | _ => none
def gSortC : List D → Option ER
  | [.lst ds] => (match itOf? ds with
    | some (b :: bs) => if bs.length < 1000000 then some (.fr (.lst ((sortIT (b :: bs)).map itD))) else none
    | _ => gSortB [.lst ds])
  | ds => gSortB ds
theorem lt_IT (p q : IT) : PySem.W.dataLt (encIT p) (encIT q) = if p.1 = q.1 then decide (p.2.cps.toList < q.2.cps.toList) else decide (p.1 < q.1) := by
  unfold encIT
  rw [PySem.W.dataLt_pair (by simp [PySem.W.alike]) (by simp [PySem.W.alike]), PySem.W.dataLt_int, PySem.W.dataLt_str]
  have e1 : PyData.eqv (.int p.1) (.int q.1) = (p.1 == q.1) := rfl
  rw [e1]
  by_cases h : p.1 = q.1
  · rw [if_pos h, if_pos (beq_iff_eq.mpr h)]
    have e2 : PyData.eqv (.str p.2) (.str q.2) = (p.2 == q.2) := rfl
    rw [e2]
    by_cases h2 : p.2 = q.2
    · rw [if_pos (beq_iff_eq.mpr h2), h2]
      exact (decide_eq_false (List.lt_irrefl _)).symm
    · rw [if_neg (fun z => h2 (beq_iff_eq.mp z))]
  · rw [if_neg h, if_neg (fun z => h (beq_iff_eq.mp z))]
theorem leIT_iff (p q : IT) : leIT p q = true ↔ p.1 < q.1 ∨ (p.1 = q.1 ∧ p.2.cps.toList ≤ q.2.cps.toList) := by
  unfold leIT
  rw [PySem.W.dataLe_eq]
  show (!PySem.W.dataLt (encIT q) (encIT p)) = true ↔ _
  rw [lt_IT]
  by_cases h : q.1 = p.1
  · rw [if_pos h, Bool.not_eq_true', decide_eq_false_iff_not, List.not_lt]
    exact ⟨fun z => .inr ⟨h.symm, z⟩, fun z => by rcases z with z | z; (omega); exact z.2⟩
  · rw [if_neg h, Bool.not_eq_true', decide_eq_false_iff_not]
    exact ⟨fun z => .inl (by omega), fun z => by rcases z with z | z; (omega); exact absurd z.1.symm h⟩
theorem leIT_trans (a b c : IT) (h1 : leIT a b = true) (h2 : leIT b c = true) : leIT a c = true := by
  rw [leIT_iff] at *
  rcases h1 with h1 | ⟨h1, k1⟩ <;> rcases h2 with h2 | ⟨h2, k2⟩
  · exact .inl (by omega)
  · exact .inl (by omega)
  · exact .inl (by omega)
  · exact .inr ⟨by omega, List.le_trans k1 k2⟩
theorem leIT_total (a b : IT) : (leIT a b || leIT b a) = true := by
  rw [Bool.or_eq_true, leIT_iff, leIT_iff]
  rcases Int.lt_trichotomy a.1 b.1 with h | h | h
  · exact .inl (.inl h)
  · rcases List.le_total a.2.cps.toList b.2.cps.toList with k | k
    · exact .inl (.inr ⟨h, k⟩)
    · exact .inr (.inr ⟨h.symm, k⟩)
  · exact .inr (.inl h)
theorem sortIT_perm (bs : List IT) : (sortIT bs).Perm bs := List.mergeSort_perm bs leIT
theorem sortIT_sorted (bs : List IT) : (sortIT bs).Pairwise (fun a b => a.1 ≤ b.1) := by
  have h : (sortIT bs).Pairwise (fun a b => leIT a b = true) := List.pairwise_mergeSort leIT_trans leIT_total bs
  exact h.imp fun {a b} h => by rcases (leIT_iff a b).mp h with h | h <;> omega
def rSortedIT (K : PySem.W.Frag) : List V → Hp → VK → Prop := fun vs H Q => ∃ (a : Addr) (xs : List V) (bs : List IT) (P : V → IT → Prop), vs = [V.ref a] ∧ SqL K H a xs ∧ Paired P xs bs ∧ (∀ x b, P x b → ∃ t, x = V.ref t ∧ H t = some (.tup [.int b.1, .str b.2])) ∧ bs.length ≤ sizeLine ∧
  ∀ ys p, Paired P ys (sortIT bs) → H p = none → Q (.ref p) (upd H p (.lst ys))
def rSortedC (X : Cx) : List V → Hp → VK → Prop := fun xs H Q => rSortedIT X.K xs H Q ∨ rSortedB X xs H Q
section
variable {W : Wc} {X : Cx}
theorem each_of : ∀ {xs : List V} {bs : List IT} {P : V → IT → Prop} {its : List Value}, Paired P xs bs → Vals xs its → (∀ x b, P x b → ∃ t, x = V.ref t) → PySem.W.EachIs (fun v b => ∃ t, v = Value.ref t ∧ P (.ref t) b) its bs
  | [], [], _, _, _, r, _ => by cases r; exact .nil
  | x :: xs, b :: bs, P, _, h, r, hp => by
    cases h with
    | cons h1 h2 =>
      cases r with
      | cons r1 r2 =>
        refine .cons ?_ (each_of h2 r2 hp)
        obtain ⟨t, rfl⟩ := hp _ _ h1
        cases r1
        exact ⟨t, rfl, h1⟩
theorem of_each : ∀ {out : List Value} {bs : List IT} {P : V → IT → Prop}, PySem.W.EachIs (fun v b => ∃ t, v = Value.ref t ∧ P (.ref t) b) out bs → ∃ ys, Paired P ys bs ∧ Vals ys out
  | _, _, _, .nil => ⟨[], .nil, .nil⟩
  | _, _, _, .cons ⟨t, e, h⟩ r => by
    obtain ⟨ys, h1, h2⟩ := of_each r
    subst e
    exact ⟨.ref t :: ys, .cons h h1, .cons rfl h2⟩
theorem cr_sortedIT (hu : X.A.units + 64 < cLine) : CallR X (.builtin "sorted") (rSortedIT X.K) := by
  intro pins s σ H vs us Q I r h
  obtain ⟨a, xs, bs, P, rfl, hs, hp, ht, hb, q⟩ := h
  obtain ⟨its, rv, hl, hz⟩ := I.list hs
  obtain ⟨u, rfl, ru⟩ := vals1 r
  obtain rfl : u = Value.ref a := ru
  have e := each_of hp rv (fun x b h => by obtain ⟨t, e, _⟩ := ht x b h; exact ⟨t, e⟩)
  have er : PySem.W.EachIs (fun v b => ∃ as, Reads s.heap v (encIT b) as) its bs := e.mono fun v b ⟨t, e, h⟩ => by
    subst e
    obtain ⟨t', e', hh⟩ := ht _ _ h
    cases e'
    obtain ⟨_, its2, r2, o, ho, hc, n, hd⟩ := I.hok _ _ hh
    obtain ⟨u1, u2, rfl, ri, rj⟩ := vals2 r2
    obtain ⟨t1, rfl⟩ := ri
    obtain ⟨t2, rfl⟩ := rj
    exact ⟨_, .tuple ho hc hd (.cons (.int _ _) (.cons (.str _ _) .nil))⟩
  refine PySem.W.sorted_data (enc := encIT) hl.isList e er (PySem.W.AllAlike.of fun p q => by simp [encIT, PySem.W.alike, PySem.W.alikeAll]) (PySem.W.Sortable.tuples fun b => ⟨_, _, rfl⟩) hb (fun b _ => ?_) fun out ho eo => ?_
  · have : (encIT b).depth = 1 := by simp [encIT, PyData.depth, PyData.depthAll]
    omega
  obtain ⟨ys, h1, h2⟩ := of_each eo
  obtain ⟨ep, he'⟩ := PyProof.Rows.sortedAll_at s.heap its out.toArray
  have hlen : ys.length ≤ sizeLine := by
    rw [h2.length, ho]
    exact hb
  exact ⟨.ref _, upd H (s.heap.objs.size + 1) (.lst ys), I.laid (t' := s.toks) (fun _ _ => PyProof.Rows.sortedAll_old) (Nat.le_succ _) ⟨hlen, out, ep, h2, he'⟩, rfl, q _ _ h1 (I.hok.fresh (Nat.le_succ _))⟩
theorem cr_sortedC (hc : X.calm = true) (hu : X.A.units + 64 < cLine) : CallR X (.builtin "sorted") (rSortedC X) := by
  intro pins s σ H vs us Q I r h
  rcases h with h | h
  · exact cr_sortedIT hu _ _ _ _ _ _ _ I r h
  · exact cr_sortedB hc _ _ _ _ _ _ _ I r h
theorem itOf_ok : ∀ {ds : List D} {bs : List IT}, itOf? ds = some bs → ds = bs.map itD
  | [], bs, h => by cases h; rfl
  | d :: ds, bs, h => by
    unfold itOf? at h
    split at h
    · rename_i h1; cases h1
    · rename_i i s r h1
      cases h1
      cases e : itOf? ds with
      | none => rw [e] at h; cases h
      | some cs => rw [e] at h; cases h; rw [itOf_ok e]; rfl
    · cases h
theorem it_paired {F : Hp} : ∀ {vs : List V} {bs : List IT}, DL W F vs (bs.map itD) → Paired (fun x b => Dat W F x (itD b)) vs bs
  | [], [], _ => .nil
  | [], _ :: _, h => by have := h.1; simp at this
  | _ :: _, [], h => by have := h.1; simp at this
  | v :: vs, b :: bs, h => .cons (h.2 0 v (itD b) rfl rfl) (it_paired ⟨by have := h.1; simpa using this, fun i a c x y => h.2 (i + 1) a c x y⟩)
theorem it_dl {F : Hp} : ∀ {vs : List V} {bs : List IT}, Paired (fun x b => Dat W F x (itD b)) vs bs → DL W F vs (bs.map itD)
  | _, _, .nil => DL.nil
  | _, _, .cons h r => DL.cons h (it_dl r)
theorem it_cell {F H : Hp} (hs : Ex F H) {x : V} {b : IT} (h : Dat W F x (itD b)) : ∃ t, x = V.ref t ∧ H t = some (.tup [.int b.1, .str b.2]) := by
  unfold itD at h
  cases h with
  | @tup a vs _ ha l c =>
    match vs, l with
    | [x, y], _ =>
      have hx := c 0 x _ rfl rfl
      have hy := c 1 y _ rfl rfl
      cases hx
      cases hy
      exact ⟨a, rfl, hs _ _ ha⟩
theorem s_sortC (hK : W.K = X.K) : CallS W (rSortedC X) gSortC := by
  intro F H xs ds r Q hs hv e q
  have go : gSortB ds = some r → rSortedC X xs H Q := fun e => .inr (s_sortB hK _ _ _ _ _ _ hs hv e q)
  match ds, e, hv with
  | [.lst ds], e, hv =>
    have e : (match itOf? ds with
      | some (b :: bs) => if bs.length < 1000000 then some (ER.fr (.lst ((sortIT (b :: bs)).map itD))) else none
      | _ => gSortB [.lst ds]) = some r := e
    cases hi : itOf? ds with
    | none => rw [hi] at e; exact go e
    | some cs =>
      rw [hi] at e
      cases cs with
      | nil => exact go e
      | cons b bs =>
        have e : (if bs.length < 1000000 then some (ER.fr (.lst ((sortIT (b :: bs)).map itD))) else none) = some r := e
        by_cases hl : bs.length < 1000000
        · rw [if_pos hl] at e
          cases e
          obtain ⟨v, rfl, vb⟩ := vbs1 hv
          obtain ⟨a, vs, rfl, k, l⟩ := vb.lst hs
          rw [itOf_ok hi] at l
          refine .inl ⟨a, vs, b :: bs, fun x b => Dat W F x (itD b), rfl, hK ▸ SqL.of k, it_paired l, fun x b h => it_cell hs h, lim_size (by rw [List.length_cons]; omega), fun ys p hp hn => ?_⟩
          exact res_lst hs q (it_dl hp) p hn
        · rw [if_neg hl] at e; cases e
  | [], e, _ => exact go e
  | [.non], e, _ => exact go e
  | [.bl _], e, _ => exact go e
  | [.int _], e, _ => exact go e
  | [.str _], e, _ => exact go e
  | [.tup _], e, _ => exact go e
  | [.rot _], e, _ => exact go e
  | [.rol _], e, _ => exact go e
  | [.dk _], e, _ => exact go e
  | [.dt _], e, _ => exact go e
  | [.ins _ _], e, _ => exact go e
  | [.ty _], e, _ => exact go e
  | [.cl _], e, _ => exact go e
  | [.exn _ _ _ _], e, _ => exact go e
  | d :: _ :: _, e, _ => cases d <;> exact go e
end
end Fw
set_option Elab.async false
set_option linter.all false
set_option maxRecDepth 100000
namespace Fw
open PySem PySem.Spec PyProof.Rows L2
/-! d.setdefault(k, v); sorted of a dict with whole numbers as keys -/
def setdK (i : Nat) (key : Option Key) (dv : D) (en : En) : R En ER := match key, cellAt 2 en i with
  | some k, some (.dk kvs) => if kvs.length < 1000000 then (match valD kvs k with
    | some d => .ok (.sh d) en
    | none => .ok (.sh dv) (putD en i (.dk (putDk kvs k dv)))) else .bad
  | _, _ => .bad
def eSetd (i : Nat) (fk fv : M ER) : M ER := fun en => match cellAt 2 en i with
  | none => .bad
  | some _ => (fk en).bind fun rk en1 => (fv en1).bind fun rv en2 => match shOf rv with
    | some dv => setdK i ((cur en2 rk).bind keyOf) dv en2
    | none => .bad
theorem eSetd_ap (i : Nat) (fk fv : M ER) (en : En) : eSetd i fk fv en = match cellAt 2 en i with
  | none => .bad
  | some _ => (fk en).bind fun rk en1 => (fv en1).bind fun rv en2 => match shOf rv with
    | some dv => setdK i ((cur en2 rk).bind keyOf) dv en2
    | none => .bad := rfl
section
variable {W : Wc} {E : St → XK} {X : Cx} {e f : Expr} {fk fv : M ER} {apos cpos : Pos}
theorem ev_setd (i : Nat) {x : Str} {p : Pos} (he : EV W E X e fk) (hf : EV W E X f fv) (m : M2 X (.Name x p) "setdefault" apos e f cpos := by exact ⟨rfl, rfl, rfl, rfl⟩)
    (hN : X.N[i]? = some x := by rfl) (hv : Vis X.env.scope x := by first | exact Or.inl rfl | exact Or.inr (Or.inl rfl) | exact Or.inr (Or.inr rfl)) (hd : (x == ("__debug__" : Str)) = false := by decide) (hcd : (x == ("__classdict__" : Str)) = false := by decide) :
    EV W E X (.Call (.Attribute (.Name x p) "setdefault" apos) [e, f] [] cpos) (eSetd i fk fv) := by
  refine PE.imp (pe_dsetd (pe_var hN hv hd hcd) he hf m) fun σ H Q hq => ?_
  obtain ⟨G, F, en, R, h⟩ := tE.out.mp hq
  rw [eSetd_ap] at h
  cases e1 : cellAt 2 en i with
  | none => rw [e1] at h; exact h.elim
  | some d0 =>
    rw [e1] at h
    obtain ⟨s, ad, q1, q2, q3, q4, q5, q6, q7⟩ := cellAt_ok R e1
    refine ⟨_, q5, ad, rfl, ?_, ?_⟩
    · cases d0 with
      | dk kvs => obtain ⟨kvs', t, dp⟩ := q6; exact .inl ⟨kvs', .inl t⟩
      | dt kvs => obtain ⟨kvs', t, dp⟩ := q6; exact .inr ⟨kvs', .inl t⟩
      | _ => first | (cases q4; done) | exact q6.elim
    · refine ev_then R h fun rk en1 y F1 H1 h1 R1 x1 va => ?_
      refine ev_then R1 h1 fun rv en2 z F2 H2 h2 R2 x2 vb => ?_
      cases rv with
      | sh dv =>
        simp only [shOf] at h2
        unfold setdK at h2
        cases e2 : cur en2 rk with
        | none => simp only [e2, Option.bind_none] at h2; exact h2.elim
        | some dk =>
          cases e3 : keyOf dk with
          | none => simp only [e2, e3, Option.bind_some] at h2; exact h2.elim
          | some key =>
            cases e4 : cellAt 2 en2 i with
            | none => simp only [e2, e3, e4, Option.bind_some] at h2; exact h2.elim
            | some d =>
              obtain ⟨s2, ad2, k1, k2, k3, k4, k5, k6, k7⟩ := cellAt_ok R2 e4
              rw [q5] at k5; cases k5
              cases d with
              | dk kvs =>
                simp only [e2, e3, e4, Option.bind_some] at h2
                by_cases hl : kvs.length < 1000000
                · rw [if_pos hl] at h2
                  obtain ⟨kvs', t, dp⟩ := k6
                  have hw := key_ok ((va.mono x2).vb R2 e2) e3
                  have hval := dpk_val (k := key) dp
                  refine ⟨kvs', key, t, hw, by rw [dpk_len dp, sizeLine_eq]; omega, fun v hv => ?_, fun hn => ?_⟩
                  · cases e5 : valD kvs key with
                    | none => rw [hval.1 e5] at hv; cases hv
                    | some d =>
                      rw [e5] at h2
                      obtain ⟨v', g1, g2⟩ := hval.2 d e5
                      rw [g1] at hv; cases hv
                      exact h2 v F2 H2 R2 (x1.trans x2) g2
                  · cases e5 : valD kvs key with
                    | some d => obtain ⟨v', g1, g2⟩ := hval.2 d e5; rw [g1] at hn; cases hn
                    | none =>
                      rw [e5] at h2
                      have h2 : Out W E G σ _ (Fw.R.ok (ER.sh dv) (putD en2 i (.dk (putDk kvs key dv)))) := h2
                      rw [putD_eq k1] at h2
                      have hz : Dat W F2 z dv := vb
                      exact h2 z F2 _ (R2.mut k1 k2 q5 ⟨_, upd_same, dpk_put hz dp⟩) (x1.trans x2) hz
                · rw [if_neg hl] at h2; exact h2.elim
              | _ => simp only [e2, e3, e4, Option.bind_some] at h2; exact h2.elim
      | fr d => simp only [shOf] at h2; exact h2.elim
      | bo j => simp only [shOf] at h2; exact h2.elim
end
/-! sorted(d), d's keys whole numbers -/
def keyInts : List (Key × D) → Option (List Int)
  | [] => some []
  | (.inl s, _) :: r => (match keyInts r with | some ss => some (s :: ss) | none => none)
  | _ => none
def gSortD : List D → Option ER
  | [.dk kvs] => (match keyInts kvs with
    | some (n :: ns) => if (n :: ns).length < 64 then some (.fr (.lst ((sortInts (n :: ns)).map D.int))) else none
    | _ => gSortC [.dk kvs])
  | ds => gSortC ds
theorem keyInts_ok : ∀ {kvs : List (Key × D)} {ss : List Int}, keyInts kvs = some ss → kvs.map (·.1) = ss.map Sum.inl
  | [], ss, h => by cases h; rfl
  | (.inl s, _) :: r, ss, h => by
    unfold keyInts at h
    cases e : keyInts r with
    | none => rw [e] at h; cases h
    | some t => rw [e] at h; cases h; rw [List.map_cons, List.map_cons, keyInts_ok e]
  | (.inr i, _) :: r, ss, h => by cases h
def rSortedD (X : Cx) : List V → Hp → VK → Prop := fun xs H Q => (∃ (a : Addr) (kvs : List (Key × V)) (ks : List Int), xs = [.ref a] ∧ Rd H a (.dK kvs) ∧ kvs.map (·.1) = ks.map Sum.inl ∧ ks.length < 64 ∧
    ∀ (ys : List Int) (p : Addr), ys.Perm ks → ys.Pairwise (· ≤ ·) → H p = none → Q (.ref p) (upd H p (.lst (ys.map V.int)))) ∨ rSortedC X xs H Q
section
variable {W : Wc} {X : Cx}
theorem cr_sortedD (hc : X.calm = true) (hu : X.A.units + 64 < cLine) : CallR X (.builtin "sorted") (rSortedD X) := by
  intro pins s σ H vs us Q I r h
  rcases h with h | h
  · exact call_sortedDI hc _ _ _ _ _ _ _ I r h
  · exact cr_sortedC hc hu _ _ _ _ _ _ _ I r h
theorem s_sortD (hK : W.K = X.K) : CallS W (rSortedD X) gSortD := by
  intro F H xs ds r Q hs hv e q
  have go : gSortC ds = some r → rSortedD X xs H Q := fun e => .inr (s_sortC hK _ _ _ _ _ _ hs hv e q)
  match ds, e, hv with
  | [.dk kvs], e, hv =>
    have e : (match keyInts kvs with
      | some (n :: ns) => if (n :: ns).length < 64 then some (ER.fr (.lst ((sortInts (n :: ns)).map D.int))) else none
      | _ => gSortC [.dk kvs]) = some r := e
    cases hk : keyInts kvs with
    | none => rw [hk] at e; exact go e
    | some ss =>
      rw [hk] at e
      cases ss with
      | nil => exact go e
      | cons n ns =>
        have e : (if (n :: ns).length < 64 then some (ER.fr (.lst ((sortInts (n :: ns)).map D.int))) else none) = some r := e
        by_cases hl : (n :: ns).length < 64
        · rw [if_pos hl] at e
          cases e
          obtain ⟨v, rfl, vb⟩ := vbs1 hv
          obtain ⟨a, kvs', rfl, hH, dp⟩ := vb.dk hs
          refine .inl ⟨a, kvs', n :: ns, rfl, .inl hH, dp.1.trans (keyInts_ok hk), hl, fun ys p pm st hp => ?_⟩
          have e1 : ys = sortInts (n :: ns) := sortI_unique (pm.trans (sortI_perm _).symm) st (sortI_sorted _)
          subst e1
          exact res_lst hs q (DL.of_ints _) p hp
        · rw [if_neg hl] at e; cases e
  | [], e, _ => exact go e
  | [.non], e, _ => exact go e
  | [.bl _], e, _ => exact go e
  | [.int _], e, _ => exact go e
  | [.str _], e, _ => exact go e
  | [.tup _], e, _ => exact go e
  | [.rot _], e, _ => exact go e
  | [.lst _], e, _ => exact go e
  | [.rol _], e, _ => exact go e
  | [.dt _], e, _ => exact go e
  | [.ins _ _], e, _ => exact go e
  | [.ty _], e, _ => exact go e
  | [.cl _], e, _ => exact go e
  | [.exn _ _ _ _], e, _ => exact go e
  | d :: _ :: _, e, _ => cases d <;> exact go e
end
end Fw
set_option Elab.async false
set_option linter.all false
set_option maxRecDepth 100000
namespace Fw
open PySem PySem.Spec PyProof.Rows L2
/-! ### len of a dict, too -/
def gLenD : List D → Option ER
  | [.dk kvs] => some (.sh (.int kvs.length))
  | ds => gLen ds
def rLenA (K : PySem.W.Frag) : List V → Hp → VK → Prop := fun xs H Q => (∃ a kvs, xs = [V.ref a] ∧ H a = some (.dK kvs) ∧ Q (.int kvs.length) H) ∨ ∃ x n, xs = [x] ∧ LenV K x H n ∧ Q (.int n) H
section
variable {W : Wc} {X : Cx}
theorem cr_len : CallR X (.builtin "len") (rLenA X.K) := by
  intro pins s σ H vs us Q I r h
  rcases h with h | h
  · exact call_lenD _ _ _ _ _ _ _ I r h
  · exact call_len _ _ _ _ _ _ _ I r h
theorem s_lenA (hK : W.K = X.K) : CallS W (rLenA X.K) gLenD := by
  intro F H xs ds r Q hs hv e q
  have go : gLen ds = some r → rLenA X.K xs H Q := fun e => .inr (by rw [← hK]; exact s_len _ _ _ _ _ _ hs hv e q)
  match ds, e, hv with
  | [.dk kvs], e, hv =>
    have e : some (ER.sh (.int kvs.length)) = some r := e
    cases e
    obtain ⟨v, rfl, vb⟩ := vbs1 hv
    obtain ⟨a, kvs', rfl, hH, dp⟩ := vb.dk hs
    have l : kvs'.length = kvs.length := by
      have := congrArg List.length dp.1
      simpa using this
    refine .inl ⟨a, kvs', rfl, hH, ?_⟩
    rw [l]
    exact res_sh hs q (Dat.int _)
  | [], e, _ => exact go e
  | [.non], e, _ => exact go e
  | [.bl _], e, _ => exact go e
  | [.int _], e, _ => exact go e
  | [.str _], e, _ => exact go e
  | [.tup _], e, _ => exact go e
  | [.rot _], e, _ => exact go e
  | [.lst _], e, _ => exact go e
  | [.rol _], e, _ => exact go e
  | [.dt _], e, _ => exact go e
  | [.ins _ _], e, _ => exact go e
  | [.ty _], e, _ => exact go e
  | [.cl _], e, _ => exact go e
  | [.exn _ _ _ _], e, _ => exact go e
  | d :: _ :: _, e, _ => cases d <;> exact go e
theorem lenD_lst {xs : List D} : gLenD [.lst xs] = some (.sh (.int xs.length)) := rfl
theorem lenD_dk {kvs : List (Key × D)} : gLenD [.dk kvs] = some (.sh (.int kvs.length)) := rfl
end
end Fw
set_option Elab.async false
set_option linter.all false
set_option maxRecDepth 100000
namespace Law
open PySem PySem.Spec PyProof.Rows L2 Fw
/-- z_well(z_cell) -/
noncomputable def b_z_well : SM :=
  sRet (eLst [e2 dMul (eVar 0) (eB gInt [e2 dGe (eVar 0) (e2 dPow (eC (.int 10)) (eC (.int 18)))]), e2 dMod (eVar 0) (eC (.int 2147483647)), eC (.int 0)])
noncomputable def m_z_well : FM := defN 1 1 b_z_well
/-- z_draw(z_well_here, z_many) -/
noncomputable def b_z_draw : SM :=
  sSeq (sIf (mB (e2 dGt (e2 dIx (eVar 0) (eC (.int 0))) (eC (.int 0)))) (sFg [2] (sSeq (sSet 2 (e2 dMod (e2 dIx (eVar 0) (eC (.int 0))) (eVar 1))) (sSeq (sPut 1 0 gSetL (eC (.int 0)) (e2 dDiv (e2 dIx (eVar 0) (eC (.int 0))) (eVar 1))) (sRet (eVar 2))))) (sFg [2] (sNil))) (sSeq (sPut 1 0 gSetL (eC (.int 2)) (e2 dAdd (e2 dIx (eVar 0) (eC (.int 2))) (eC (.int 1)))) (sSeq (sSet 3 (e2 dMod (e2 dMul (e2 dAdd (e2 dAdd (e2 dIx (eVar 0) (eC (.int 1))) (e2 dMul (eC (.int 7919)) (e2 dIx (eVar 0) (eC (.int 2))))) (eC (.int 1))) (eC (.int 48271))) (eC (.int 2147483647)))) (sSeq (sSet 3 (e2 dMod (e2 dMul (eVar 3) (e2 dAdd (e2 dDiv (eVar 3) (eC (.int 1009))) (eC (.int 69621)))) (eC (.int 2147483647)))) (sRet (e2 dMod (e2 dMod (e2 dMul (eVar 3) (e2 dAdd (e2 dDiv (eVar 3) (eC (.int 2003))) (eC (.int 40692)))) (eC (.int 2147483399))) (eVar 1))))))
noncomputable def m_z_draw : FM := defN 2 4 b_z_draw
noncomputable def x1_z_text : M ER :=
  e2 dIx (eVar 2) (eF [true, false] m_z_draw [] [eVar 0, eB gLen [eVar 2]])
noncomputable def c1_z_text : M ER :=
  eLc (iB rng1 [eVar 1]) [3] (gN 3) (mYes) (x1_z_text)
/-- z_text(z_well_here, z_many) -/
noncomputable def b_z_text : SM :=
  sSeq (sSet 2 (eC (.str "abcdefghijklmnopqrstuvwxyzABCDEFGHIJKLMNOPQRSTUVWXYZ0123456789 ,.;:-+*/=!?"))) (sRet (eMetS gJoin (eC (.str "")) [c1_z_text]))
noncomputable def m_z_text : FM := defN 2 4 b_z_text
noncomputable def f1_z_piece : SM :=
  sFg [5, 6] (sSeq (sSet 6 (e2 dAdd (eC (.int 1)) (eF [true, false] m_z_draw [] [eVar 0, e2 dIx (eLst [eC (.int 1), eC (.int 5), eC (.int 30)]) (eF [true, false] m_z_draw [] [eVar 0, eC (.int 3)])]))) (sSeq (sIf (mB (e2 dLt (eVar 4) (eB gLen [eVar 1]))) (sExpr (eMut 1 3 gAppend [eTup [e2 dAdd (eVar 2) (eVar 4), eSl dSl (eVar 1) (some (eVar 4)) (some (e2 dAdd (eVar 4) (eVar 6)))]])) (sNil)) (sSet 4 (e2 dAdd (e2 dAdd (e2 dAdd (eVar 4) (eVar 6)) (eC (.int 1))) (eF [true, false] m_z_draw [] [eVar 0, eC (.int 9)])))))
noncomputable def l1_z_piece : SM :=
  sFor (iB rng1 [e2 dAdd (eC (.int 1)) (eF [true, false] m_z_draw [] [eVar 0, eC (.int 4)])]) (gN 5) (f1_z_piece)
/-- z_piece(z_well_here, z_text_here, z_far) -/
noncomputable def b_z_piece : SM :=
  sSeq (sSet 3 (eLst [])) (sSeq (sSet 4 (eF [true, false] m_z_draw [] [eVar 0, eB gLen [eVar 1]])) (sSeq (l1_z_piece) (sRet (eVar 3))))
noncomputable def m_z_piece : FM := defN 3 7 b_z_piece
noncomputable def i1_z_parts : SM :=
  sIf (mAnd (mB (e2 dNe (eVar 1) (eLst []))) (mB (e2 dEq (e2 dAdd (e2 dIx (e2 dIx (eVar 1) (e1 dNeg (eC (.int 1)))) (eC (.int 0))) (eB gLen [e2 dIx (e2 dIx (eVar 1) (e1 dNeg (eC (.int 1)))) (eC (.int 1))])) (eVar 2)))) (sPut 1 1 gSetL (e1 dNeg (eC (.int 1))) (eTup [e2 dIx (e2 dIx (eVar 1) (e1 dNeg (eC (.int 1)))) (eC (.int 0)), e2 dAdd (e2 dIx (e2 dIx (eVar 1) (e1 dNeg (eC (.int 1)))) (eC (.int 1))) (e2 dIx2 (eVar 0) (eVar 2))])) (sExpr (eMut 1 1 gAppend [eTup [eVar 2, e2 dIx2 (eVar 0) (eVar 2)]]))
noncomputable def f1_z_parts : SM :=
  sFg [2] (i1_z_parts)
noncomputable def l1_z_parts : SM :=
  sFor (iSeq (eB gSortD [eVar 0])) (gN 2) (f1_z_parts)
/-- z_parts(z_table_here) -/
noncomputable def b_z_parts : SM :=
  sSeq (sSet 1 (eLst [])) (sSeq (l1_z_parts) (sRet (eVar 1)))
noncomputable def m_z_parts : FM := defN 1 3 b_z_parts
noncomputable def f1_z_table : SM :=
  sFg [5] (sExpr (eSetd 1 (e2 dAdd (eVar 3) (eVar 5)) (e2 dIx (eVar 4) (eVar 5))))
noncomputable def l1_z_table : SM :=
  sFor (iB rng1 [eB gLen [eVar 4]]) (gN 5) (f1_z_table)
noncomputable def f2_z_table : SM :=
  sFg [3, 4, 5] (l1_z_table)
noncomputable def l2_z_table : SM :=
  sFor (iSeq (eVar 2)) (gT [gN 3, gN 4]) (f2_z_table)
noncomputable def f3_z_table : SM :=
  sFg [2, 3, 4, 5] (l2_z_table)
noncomputable def l3_z_table : SM :=
  sFor (iSeq (eVar 0)) (gN 2) (f3_z_table)
/-- z_table(z_pieces) -/
noncomputable def b_z_table : SM :=
  sSeq (sSet 1 (eDict0)) (sSeq (l3_z_table) (sRet (eVar 1)))
noncomputable def m_z_table : FM := defN 1 6 b_z_table
noncomputable def f1_cut : SM :=
  sFg [5, 6, 7, 8] (sSeq (sSet 7 (eB gMax2 [eVar 3, eVar 5])) (sSeq (sSet 8 (eB gMin2 [e2 dAdd (eVar 3) (eB gLen [eVar 4]), eVar 6])) (sIf (mB (e2 dLt (eVar 7) (eVar 8))) (sExpr (eMut 1 2 gAppend [eTup [eVar 7, eSl dSl (eVar 4) (some (e2 dSub (eVar 7) (eVar 3))) (some (e2 dSub (eVar 8) (eVar 3)))]])) (sNil))))
noncomputable def l1_cut : SM :=
  sFor (iSeq (eVar 1)) (gT [gN 5, gN 6]) (f1_cut)
noncomputable def f2_cut : SM :=
  sFg [3, 4, 5, 6, 7, 8] (l1_cut)
noncomputable def l2_cut : SM :=
  sFor (iSeq (eVar 0)) (gT [gN 3, gN 4]) (f2_cut)
/-- cut(parts, wanted) -/
noncomputable def b_cut : SM :=
  sSeq (sSet 2 (eLst [])) (sSeq (l2_cut) (sRet (eVar 2)))
noncomputable def m_cut : FM := defN 2 9 b_cut
noncomputable def f1_lacking : SM :=
  sFg [5, 6] (sSeq (sIf (mB (eChain dLt dLt (eVar 3) (eVar 5) (eVar 4))) (sExpr (eMut 1 2 gAppend [eTup [eVar 3, eVar 5]])) (sNil)) (sIf (mAnd (mB (e2 dLt (eVar 5) (eVar 4))) (mB (e2 dLt (eVar 3) (e2 dAdd (eVar 5) (eB gLen [eVar 6]))))) (sSet 3 (e2 dAdd (eVar 5) (eB gLen [eVar 6]))) (sNil)))
noncomputable def l1_lacking : SM :=
  sFor (iSeq (eVar 1)) (gT [gN 5, gN 6]) (f1_lacking)
noncomputable def f2_lacking : SM :=
  sFg [3, 4, 5, 6] (sSeq (l1_lacking) (sIf (mB (e2 dLt (eVar 3) (eVar 4))) (sExpr (eMut 1 2 gAppend [eTup [eVar 3, eVar 4]])) (sNil)))
noncomputable def l2_lacking : SM :=
  sFor (iSeq (eVar 0)) (gT [gN 3, gN 4]) (f2_lacking)
/-- lacking(wanted, parts) -/
noncomputable def b_lacking : SM :=
  sSeq (sSet 2 (eLst [])) (sSeq (l2_lacking) (sRet (eVar 2)))
noncomputable def m_lacking : FM := defN 2 7 b_lacking
noncomputable def x1_joined : M ER :=
  eTup [eVar 4, e2 dAdd (eVar 4) (eB gLen [eVar 5])]
noncomputable def c1_joined : M ER :=
  eLc (iSeq (eVar 1)) [4, 5] (gT [gN 4, gN 5]) (mYes) (x1_joined)
noncomputable def i1_joined : SM :=
  sIf (mAnd (mB (e2 dGt (eB gLen [eVar 3]) (eC (.int 0)))) (mB (e2 dEq (e2 dAdd (e2 dIx (e2 dIx (eVar 3) (e1 dNeg (eC (.int 1)))) (eC (.int 0))) (eB gLen [e2 dIx (e2 dIx (eVar 3) (e1 dNeg (eC (.int 1)))) (eC (.int 1))])) (eVar 4)))) (sPut 1 3 gSetL (e1 dNeg (eC (.int 1))) (eTup [e2 dIx (e2 dIx (eVar 3) (e1 dNeg (eC (.int 1)))) (eC (.int 0)), e2 dAdd (e2 dIx (e2 dIx (eVar 3) (e1 dNeg (eC (.int 1)))) (eC (.int 1))) (eVar 5)])) (sExpr (eMut 1 3 gAppend [eTup [eVar 4, eVar 5]]))
noncomputable def f1_joined : SM :=
  sFg [4, 5] (i1_joined)
noncomputable def l1_joined : SM :=
  sFor (iSeq (eB gSortD [e2 dAdd (eB gList [eVar 0]) (eF [] m_cut [] [eVar 1, eF [] m_lacking [] [eVar 2, eVar 0]])])) (gT [gN 4, gN 5]) (f1_joined)
/-- joined(ones, others) -/
noncomputable def b_joined : SM :=
  sSeq (sSet 2 (c1_joined)) (sSeq (sSet 3 (eLst [])) (sSeq (l1_joined) (sRet (eVar 3))))
noncomputable def m_joined : FM := defN 2 6 b_joined
noncomputable def f1_z_from_the_last : SM :=
  sFg [2] (sSet 1 (eF [] m_joined [] [eVar 2, eVar 1]))
noncomputable def l1_z_from_the_last : SM :=
  sFor (iSeq (e1 gRev (eVar 0))) (gN 2) (f1_z_from_the_last)
/-- z_from_the_last(z_pieces) -/
noncomputable def b_z_from_the_last : SM :=
  sSeq (sSet 1 (eLst [])) (sSeq (l1_z_from_the_last) (sRet (eVar 1)))
noncomputable def m_z_from_the_last : FM := defN 1 3 b_z_from_the_last
noncomputable def f1_z_one_by_one : SM :=
  sFg [2] (sSet 1 (eF [] m_joined [] [eVar 1, eVar 2]))
noncomputable def l1_z_one_by_one : SM :=
  sFor (iSeq (eVar 0)) (gN 2) (f1_z_one_by_one)
/-- z_one_by_one(z_pieces) -/
noncomputable def b_z_one_by_one : SM :=
  sSeq (sSet 1 (eLst [])) (sSeq (l1_z_one_by_one) (sRet (eVar 1)))
noncomputable def m_z_one_by_one : FM := defN 1 3 b_z_one_by_one
noncomputable def f1_z_turned : SM :=
  sFg [3] (sSeq (sExpr (eMut 1 2 gInsert [eF [true, false] m_z_draw [] [eVar 0, e2 dAdd (eB gLen [eVar 2]) (eC (.int 1))], eVar 3])) (sIf (mB (e2 dEq (eF [true, false] m_z_draw [] [eVar 0, eC (.int 4)]) (eC (.int 0)))) (sExpr (eMut 1 2 gAppend [eVar 3])) (sNil)))
noncomputable def l1_z_turned : SM :=
  sFor (iSeq (eVar 1)) (gN 3) (f1_z_turned)
/-- z_turned(z_well_here, z_pieces) -/
noncomputable def b_z_turned : SM :=
  sSeq (sSet 2 (eLst [])) (sSeq (l1_z_turned) (sRet (eVar 2)))
noncomputable def m_z_turned : FM := defN 2 4 b_z_turned
noncomputable def x1_weight : M ER :=
  eB gLen [eVar 2]
noncomputable def c1_weight : M ER :=
  eLc (iSeq (eVar 0)) [1, 2] (gT [gN 1, gN 2]) (mYes) (x1_weight)
/-- weight(parts) -/
noncomputable def b_weight : SM :=
  sRet (eB gSum [c1_weight])
noncomputable def m_weight : FM := defN 1 3 b_weight
noncomputable def f1_law : SM :=
  sFg [9, 10] (sSeq (sSet 10 (eVar 7)) (sSeq (sIf (mAnd (mNot (mT (eVar 3))) (mB (e2 dEq (eF [true, false] m_z_draw [] [eVar 2, eC (.int 2)]) (eC (.int 0))))) (sSet 10 (eF [true, false] m_z_text [] [eVar 2, eVar 5])) (sNil)) (sExpr (eMut 1 8 gAppend [eF [true, false, false] m_z_piece [] [eVar 2, eVar 10, eVar 4]]))))
noncomputable def l1_law : SM :=
  sFor (iB rng1 [eVar 6]) (gN 9) (f1_law)
noncomputable def x1_law : M ER :=
  eB gList [eVar 15]
noncomputable def c1_law : M ER :=
  eLc (iSeq (eVar 8)) [15] (gN 15) (mYes) (x1_law)
noncomputable def x2_law : M ER :=
  eVar 16
noncomputable def t1_law : M Bool :=
  mOr (mNot (mT (eB gIsi [eVar 16, eC (.ty "list")]))) (mB (e2 dNe (eVar 16) (eVar 12)))
noncomputable def c2_law : M ER :=
  eLc (iSeq (eVar 14)) [16] (gN 16) (t1_law) (x2_law)
noncomputable def f2_law : SM :=
  sFg [1, 2, 3, 4, 5, 6, 7, 8, 9, 10, 11, 12, 13, 14] (sSeq (sSet 2 (eF [] m_z_well [] [eVar 1])) (sSeq (sSet 3 (e2 dEq (eF [true, false] m_z_draw [] [eVar 2, eC (.int 2)]) (eC (.int 0)))) (sSeq (sSet 4 (e2 dIx (eLst [eC (.int 0), eC (.int 0), eC (.int 0), e2 dAdd (e2 dPow (eC (.int 10)) (eC (.int 59))) (eF [true, false] m_z_draw [] [eVar 2, e2 dPow (eC (.int 10)) (eC (.int 9))])]) (eF [true, false] m_z_draw [] [eVar 2, eC (.int 4)]))) (sSeq (sSet 5 (e2 dAdd (eC (.int 2)) (eF [true, false] m_z_draw [] [eVar 2, eC (.int 59)]))) (sSeq (sSet 6 (e2 dAdd (eC (.int 2)) (eF [true, false] m_z_draw [] [eVar 2, eC (.int 7)]))) (sSeq (sSet 7 (eF [true, false] m_z_text [] [eVar 2, eVar 5])) (sSeq (sSet 8 (eLst [])) (sSeq (l1_law) (sSeq (sSet 11 (c1_law)) (sSeq (sSet 12 (eF [] m_z_parts [] [eF [] m_z_table [] [eVar 8]])) (sSeq (sSet 13 (e2 dDiv (eVar 6) (eC (.int 2)))) (sSeq (sSet 14 (eLst [eF [] m_z_one_by_one [] [eVar 11], eF [] m_z_from_the_last [] [eVar 11]])) (sSeq (sExpr (eMut 1 14 gAppend [eF [] m_joined [] [eF [] m_z_one_by_one [] [eSl dSl (eVar 11) none (some (eVar 13))], eF [] m_z_one_by_one [] [eSl dSl (eVar 11) (some (eVar 13)) none]]])) (sSeq (sIf (mB (e2 dNe (c2_law) (eLst []))) (sRet (eC (.bl false))) (sNil)) (sSeq (sIf (mAnd (mT (eVar 3)) (mB (e2 dNe (eF [] m_z_one_by_one [] [eF [true, false] m_z_turned [] [eVar 2, eVar 11]]) (eVar 12)))) (sRet (eC (.bl false))) (sNil)) (sIf (mOr (mB (e2 dNe (eF [] m_joined [] [eVar 12, eVar 12]) (eVar 12))) (mOr (mB (e2 dNe (eF [] m_weight [] [eVar 12]) (eB gLenD [eF [] m_z_table [] [eVar 8]]))) (mB (e2 dNe (eVar 11) (eVar 8))))) (sRet (eC (.bl false))) (sNil)))))))))))))))))
noncomputable def l2_law : SM :=
  sFor (iSeq (e2 dAdd (eSl dSl (eVar 0) none (some (eC (.int 16)))) (eLst [eC (.int 0), eC (.int 2), eC (.int 11)]))) (gN 1) (f2_law)
/-- law(z_script) -/
noncomputable def b_law : SM :=
  sSeq (l2_law) (sRet (eC (.bl true)))
noncomputable def m_law : FM := defN 1 17 b_law
end Law
set_option linter.all false
set_option maxRecDepth 100000
set_option Elab.async false
namespace Law
open PySem Fw
/-! parts and stretches, place by place -/
abbrev PT := Int × Str
abbrev WT := Int × Int
def ln (s : Str) : Int := ((s.cps.toList.length : Nat) : Int)
theorem ln_nn (s : Str) : 0 ≤ ln s := Int.natCast_nonneg _
def fin (p : PT) : Int := p.1 + ln p.2
def at1 (p : PT) (x : Int) : Option Nat := if p.1 ≤ x ∧ x < fin p then p.2.cps.toList[(x - p.1).toNat]? else none
def tell (ps : List PT) (x : Int) : Option Nat := ps.findSome? (fun p => at1 p x)
def inW1 (w : WT) (x : Int) : Bool := decide (w.1 ≤ x) && decide (x < w.2)
def inW (ws : List WT) (x : Int) : Bool := ws.any (fun w => inW1 w x)
/-- pieces in their order, none on another -/
def SP (ps : List PT) : Prop := ps.Pairwise (fun a b => fin a ≤ b.1) ∧ ∀ p ∈ ps, 0 < ln p.2
/-- parts: with a place between -/
def CP (ps : List PT) : Prop := ps.Pairwise (fun a b => fin a < b.1) ∧ ∀ p ∈ ps, 0 < ln p.2
def CW (ws : List WT) : Prop := ws.Pairwise (fun a b => a.2 < b.1) ∧ ∀ w ∈ ws, w.1 < w.2
theorem CP.sp {ps : List PT} (h : CP ps) : SP ps := ⟨h.1.imp fun {a b} h => Int.le_of_lt h, h.2⟩
theorem at1_some {p : PT} {x : Int} {c : Nat} (h : at1 p x = some c) : p.1 ≤ x ∧ x < fin p := by
  unfold at1 at h
  split at h
  · assumption
  · cases h
theorem at1_in {p : PT} {x : Int} (h1 : p.1 ≤ x) (h2 : x < fin p) : ∃ c, at1 p x = some c ∧ p.2.cps.toList[(x - p.1).toNat]? = some c := by
  unfold at1
  rw [if_pos ⟨h1, h2⟩]
  unfold fin ln at h2
  have : (x - p.1).toNat < p.2.cps.toList.length := by omega
  exact ⟨_, List.getElem?_eq_getElem this, List.getElem?_eq_getElem this⟩
theorem at1_out {p : PT} {x : Int} (h : ¬ (p.1 ≤ x ∧ x < fin p)) : at1 p x = none := if_neg h
theorem tell_cons (p : PT) (ps : List PT) (x : Int) : tell (p :: ps) x = if p.1 ≤ x ∧ x < fin p then at1 p x else tell ps x := by
  unfold tell
  rw [List.findSome?_cons]
  by_cases h : p.1 ≤ x ∧ x < fin p
  · obtain ⟨c, e, _⟩ := at1_in h.1 h.2
    rw [e, if_pos h]
  · rw [at1_out h, if_neg h]
theorem tell_nil (x : Int) : tell [] x = none := rfl
theorem tell_mem {ps : List PT} {x : Int} {c : Nat} (h : tell ps x = some c) : ∃ p ∈ ps, p.1 ≤ x ∧ x < fin p ∧ at1 p x = some c := by
  unfold tell at h
  obtain ⟨p, hp, e⟩ := List.exists_of_findSome?_eq_some h
  have := at1_some e
  exact ⟨p, hp, this.1, this.2, e⟩
theorem tell_none {ps : List PT} {x : Int} : tell ps x = none ↔ ∀ p ∈ ps, ¬ (p.1 ≤ x ∧ x < fin p) := by
  unfold tell
  rw [List.findSome?_eq_none_iff]
  constructor
  · intro h p hp z
    obtain ⟨c, e, _⟩ := at1_in z.1 z.2
    rw [h p hp] at e
    cases e
  · intro h p hp
    exact at1_out (h p hp)
theorem sp_cons {p : PT} {ps : List PT} : SP (p :: ps) ↔ (∀ q ∈ ps, fin p ≤ q.1) ∧ 0 < ln p.2 ∧ SP ps := by
  unfold SP
  rw [List.pairwise_cons]
  constructor
  · rintro ⟨⟨h1, h2⟩, h3⟩
    exact ⟨h1, h3 p List.mem_cons_self, h2, fun q hq => h3 q (List.mem_cons_of_mem _ hq)⟩
  · rintro ⟨h1, h2, h3, h4⟩
    exact ⟨⟨h1, h3⟩, fun q hq => by rcases List.mem_cons.mp hq with rfl | hq; exact h2; exact h4 q hq⟩
theorem cp_cons {p : PT} {ps : List PT} : CP (p :: ps) ↔ (∀ q ∈ ps, fin p < q.1) ∧ 0 < ln p.2 ∧ CP ps := by
  unfold CP
  rw [List.pairwise_cons]
  constructor
  · rintro ⟨⟨h1, h2⟩, h3⟩
    exact ⟨h1, h3 p List.mem_cons_self, h2, fun q hq => h3 q (List.mem_cons_of_mem _ hq)⟩
  · rintro ⟨h1, h2, h3, h4⟩
    exact ⟨⟨h1, h3⟩, fun q hq => by rcases List.mem_cons.mp hq with rfl | hq; exact h2; exact h4 q hq⟩
theorem cw_cons {p : WT} {ps : List WT} : CW (p :: ps) ↔ (∀ q ∈ ps, p.2 < q.1) ∧ p.1 < p.2 ∧ CW ps := by
  unfold CW
  rw [List.pairwise_cons]
  constructor
  · rintro ⟨⟨h1, h2⟩, h3⟩
    exact ⟨h1, h3 p List.mem_cons_self, h2, fun q hq => h3 q (List.mem_cons_of_mem _ hq)⟩
  · rintro ⟨h1, h2, h3, h4⟩
    exact ⟨⟨h1, h3⟩, fun q hq => by rcases List.mem_cons.mp hq with rfl | hq; exact h2; exact h4 q hq⟩
theorem cp_nil : CP [] := ⟨.nil, fun _ h => absurd h (by simp)⟩
theorem cw_nil : CW [] := ⟨.nil, fun _ h => absurd h (by simp)⟩
theorem inW_nil (x : Int) : inW [] x = false := rfl
theorem inW_cons (w : WT) (ws : List WT) (x : Int) : inW (w :: ws) x = (inW1 w x || inW ws x) := rfl
theorem inW1_iff {w : WT} {x : Int} : inW1 w x = true ↔ w.1 ≤ x ∧ x < w.2 := by
  unfold inW1
  rw [Bool.and_eq_true, decide_eq_true_iff, decide_eq_true_iff]
theorem inW_iff {ws : List WT} {x : Int} : inW ws x = true ↔ ∃ w ∈ ws, w.1 ≤ x ∧ x < w.2 := by
  unfold inW
  rw [List.any_eq_true]
  exact ⟨fun ⟨w, h, e⟩ => ⟨w, h, inW1_iff.mp e⟩, fun ⟨w, h, e⟩ => ⟨w, h, inW1_iff.mpr e⟩⟩
theorem inW_app (a b : List WT) (x : Int) : inW (a ++ b) x = (inW a x || inW b x) := List.any_append
theorem inW_none {ws : List WT} {x : Int} : inW ws x = false ↔ ∀ w ∈ ws, ¬ (w.1 ≤ x ∧ x < w.2) := by
  cases h : inW ws x with
  | true =>
    obtain ⟨w, hw, e⟩ := inW_iff.mp h
    exact ⟨(fun z => by cases z), (fun z => absurd e (z w hw))⟩
  | false => exact ⟨(fun _ w hw e => by rw [inW_iff.mpr ⟨w, hw, e⟩] at h; cases h), fun _ => rfl⟩
/-! what a row tells decides it -/
theorem tell_ge {p : PT} {ps : List PT} (h : SP (p :: ps)) {x : Int} {c : Nat} (e : tell (p :: ps) x = some c) : p.1 ≤ x := by
  obtain ⟨q, hq, h1, _, _⟩ := tell_mem e
  obtain ⟨g1, g2, _⟩ := sp_cons.mp h
  have := ln_nn p.2
  rcases List.mem_cons.mp hq with rfl | hq
  · exact h1
  · have := g1 q hq
    unfold fin at *
    omega
theorem tell_head {p : PT} {ps : List PT} {x : Int} (h1 : p.1 ≤ x) (h2 : x < fin p) : tell (p :: ps) x = at1 p x := by
  rw [tell_cons, if_pos ⟨h1, h2⟩]
theorem tell_rest {p : PT} {ps : List PT} {x : Int} (h : fin p ≤ x) : tell (p :: ps) x = tell ps x := by
  rw [tell_cons, if_neg (by omega)]
theorem tell_gap {p : PT} {ps : List PT} (h : CP (p :: ps)) : tell (p :: ps) (fin p) = none := by
  obtain ⟨g1, g2, _⟩ := cp_cons.mp h
  refine tell_none.mpr fun q hq z => ?_
  rcases List.mem_cons.mp hq with rfl | hq
  · omega
  · have := g1 q hq
    omega
theorem str_cps_eq {s t : Str} (h : s.cps.toList = t.cps.toList) : s = t := Fw.str_cps h
theorem cp_uniq : ∀ {ps qs : List PT}, CP ps → CP qs → (∀ x, tell ps x = tell qs x) → ps = qs
  | [], [], _, _, _ => rfl
  | [], q :: qs, _, hq, h => by
    have h2 := (cp_cons.mp hq).2.1
    obtain ⟨c, e, _⟩ := at1_in (p := q) (x := q.1) (Int.le_refl _) (by unfold fin; omega)
    have := h q.1
    rw [tell_head (Int.le_refl _) (by unfold fin; omega), e] at this
    cases this
  | p :: ps, [], hp, _, h => by
    have h2 := (cp_cons.mp hp).2.1
    obtain ⟨c, e, _⟩ := at1_in (p := p) (x := p.1) (Int.le_refl _) (by unfold fin; omega)
    have := h p.1
    rw [tell_head (Int.le_refl _) (by unfold fin; omega), e] at this
    cases this
  | p :: ps, q :: qs, hp, hq, h => by
    obtain ⟨p1, p2, p3⟩ := cp_cons.mp hp
    obtain ⟨q1, q2, q3⟩ := cp_cons.mp hq
    have a1 : p.1 = q.1 := by
      obtain ⟨c, e, _⟩ := at1_in (p := p) (x := p.1) (Int.le_refl _) (by unfold fin; omega)
      obtain ⟨d, e', _⟩ := at1_in (p := q) (x := q.1) (Int.le_refl _) (by unfold fin; omega)
      have h1 := h p.1
      rw [tell_head (Int.le_refl _) (by unfold fin; omega), e] at h1
      have h2 := h q.1
      rw [tell_head (p := q) (Int.le_refl _) (by unfold fin; omega), e'] at h2
      have g1 := tell_ge hq.sp h1.symm
      have g2 := tell_ge hp.sp h2
      omega
    have a2 : fin p = fin q := by
      rcases Int.lt_trichotomy (fin p) (fin q) with z | z | z
      · have g := tell_gap hp
        rw [h, tell_head (p := q) (by rw [← a1]; unfold fin; omega) z] at g
        obtain ⟨d, e', _⟩ := at1_in (p := q) (x := fin p) (by rw [← a1]; unfold fin; omega) z
        rw [e'] at g; cases g
      · exact z
      · have g := tell_gap hq
        rw [← h, tell_head (p := p) (by rw [a1]; unfold fin; omega) z] at g
        obtain ⟨d, e', _⟩ := at1_in (p := p) (x := fin q) (by rw [a1]; unfold fin; omega) z
        rw [e'] at g; cases g
    have a3 : p.2 = q.2 := by
      refine str_cps_eq (List.ext_getElem? fun i => ?_)
      have ll : p.2.cps.toList.length = q.2.cps.toList.length := by unfold fin ln at a2; omega
      by_cases hi : i < p.2.cps.toList.length
      · have b1 : p.1 ≤ p.1 + (i : Int) := by omega
        have b2 : p.1 + (i : Int) < fin p := by unfold fin ln; omega
        have h1 := h (p.1 + (i : Int))
        rw [tell_head b1 b2, tell_head (p := q) (by omega) (by omega)] at h1
        unfold at1 at h1
        rw [if_pos ⟨b1, b2⟩, if_pos ⟨by omega, by omega⟩] at h1
        have c1 : (p.1 + (i : Int) - p.1).toNat = i := by omega
        have c2 : (p.1 + (i : Int) - q.1).toNat = i := by omega
        rw [c1, c2] at h1
        exact h1
      · rw [List.getElem?_eq_none (by omega), List.getElem?_eq_none (by omega)]
    have a4 : p = q := Prod.ext a1 a3
    subst a4
    rw [cp_uniq p3 q3 fun x => ?_]
    by_cases hx : fin p ≤ x
    · rw [← tell_rest hx, h x, tell_rest hx]
    · have k1 : tell ps x = none := tell_none.mpr fun q hq z => by have := p1 q hq; omega
      have k2 : tell qs x = none := tell_none.mpr fun q hq z => by have := q1 q hq; omega
      rw [k1, k2]
theorem cw_uniq : ∀ {ps qs : List WT}, CW ps → CW qs → (∀ x, inW ps x = inW qs x) → ps = qs
  | [], [], _, _, _ => rfl
  | [], q :: qs, _, hq, h => by
    have := h q.1
    have e : inW (q :: qs) q.1 = true := inW_iff.mpr ⟨q, List.mem_cons_self, Int.le_refl _, (cw_cons.mp hq).2.1⟩
    rw [e] at this
    cases this
  | p :: ps, [], hp, _, h => by
    have := h p.1
    have e : inW (p :: ps) p.1 = true := inW_iff.mpr ⟨p, List.mem_cons_self, Int.le_refl _, (cw_cons.mp hp).2.1⟩
    rw [e] at this
    cases this
  | p :: ps, q :: qs, hp, hq, h => by
    obtain ⟨p1, p2, p3⟩ := cw_cons.mp hp
    obtain ⟨q1, q2, q3⟩ := cw_cons.mp hq
    have ge : ∀ {r : WT} {rs : List WT}, CW (r :: rs) → ∀ x, inW (r :: rs) x = true → r.1 ≤ x := fun {r rs} hr x hx => by
      obtain ⟨g1, g2, _⟩ := cw_cons.mp hr
      obtain ⟨w, hw, e1, e2⟩ := inW_iff.mp hx
      rcases List.mem_cons.mp hw with rfl | hw
      · exact e1
      · have := g1 w hw; omega
    have gap : ∀ {r : WT} {rs : List WT}, CW (r :: rs) → inW (r :: rs) r.2 = false := fun {r rs} hr => by
      obtain ⟨g1, g2, _⟩ := cw_cons.mp hr
      refine inW_none.mpr fun w hw z => ?_
      rcases List.mem_cons.mp hw with rfl | hw
      · omega
      · have := g1 w hw; omega
    have a1 : p.1 = q.1 := by
      have h1 : inW (p :: ps) p.1 = true := inW_iff.mpr ⟨p, List.mem_cons_self, Int.le_refl _, p2⟩
      have h2 : inW (q :: qs) q.1 = true := inW_iff.mpr ⟨q, List.mem_cons_self, Int.le_refl _, q2⟩
      have g1 := ge hq p.1 (by rw [← h]; exact h1)
      have g2 := ge hp q.1 (by rw [h]; exact h2)
      omega
    have a2 : p.2 = q.2 := by
      rcases Int.lt_trichotomy p.2 q.2 with z | z | z
      · have g := gap hp
        rw [h, inW_iff.mpr ⟨q, List.mem_cons_self, by omega, z⟩] at g
        cases g
      · exact z
      · have g := gap hq
        rw [← h, inW_iff.mpr ⟨p, List.mem_cons_self, by omega, z⟩] at g
        cases g
    have a4 : p = q := Prod.ext a1 a2
    subst a4
    rw [cw_uniq p3 q3 fun x => ?_]
    by_cases hx : p.2 ≤ x
    · have e : inW1 p x = false := by
        cases z : inW1 p x with
        | false => rfl
        | true => have := (inW1_iff.mp z).2; omega
      have := h x
      rw [inW_cons, inW_cons, e, Bool.false_or, Bool.false_or] at this
      exact this
    · have k1 : inW ps x = false := inW_none.mpr fun q hq z => by have := p1 q hq; omega
      have k2 : inW qs x = false := inW_none.mpr fun q hq z => by have := q1 q hq; omega
      rw [k1, k2]
end Law
set_option linter.all false
set_option maxRecDepth 100000
set_option Elab.async false
namespace Law
open PySem Fw
/-! what lacks -/
def lackGo (hi : Int) : List PT → Int → List WT
  | [], lo => if lo < hi then [(lo, hi)] else []
  | p :: ps, lo => (if lo < p.1 ∧ p.1 < hi then [(lo, p.1)] else []) ++ lackGo hi ps (if p.1 < hi ∧ lo < fin p then fin p else lo)
def lackF (ws : List WT) (ps : List PT) : List WT := ws.flatMap fun w => lackGo w.2 ps w.1
def told (ps : List PT) (x : Int) : Bool := (tell ps x).isSome
theorem told_iff {ps : List PT} {x : Int} : told ps x = true ↔ ∃ p ∈ ps, p.1 ≤ x ∧ x < fin p := by
  unfold told
  cases h : tell ps x with
  | none =>
    have := tell_none.mp h
    exact ⟨(fun z => by cases z), fun ⟨p, hp, z⟩ => absurd z (this p hp)⟩
  | some c =>
    obtain ⟨p, hp, a, b, _⟩ := tell_mem h
    exact ⟨fun _ => ⟨p, hp, a, b⟩, fun _ => rfl⟩
theorem told_cons (p : PT) (ps : List PT) (x : Int) : told (p :: ps) x = (decide (p.1 ≤ x ∧ x < fin p) || told ps x) := by
  cases h : told (p :: ps) x with
  | true =>
    obtain ⟨q, hq, z⟩ := told_iff.mp h
    rcases List.mem_cons.mp hq with rfl | hq
    · rw [decide_eq_true z]; rfl
    · rw [told_iff.mpr ⟨q, hq, z⟩, Bool.or_true]
  | false =>
    have n : ∀ q ∈ p :: ps, ¬ (q.1 ≤ x ∧ x < fin q) := fun q hq z => by rw [told_iff.mpr ⟨q, hq, z⟩] at h; cases h
    rw [decide_eq_false (n p List.mem_cons_self), Bool.false_or]
    cases h2 : told ps x with
    | false => rfl
    | true => obtain ⟨q, hq, z⟩ := told_iff.mp h2; exact absurd z (n q (List.mem_cons_of_mem _ hq))
structure LackOk (ps : List PT) (lo hi : Int) (R : List WT) : Prop where
  cw : CW R
  rng : ∀ w ∈ R, lo ≤ w.1 ∧ w.2 ≤ hi
  tells : ∀ x, inW R x = (decide (lo ≤ x ∧ x < hi) && !told ps x)
theorem lackGo_ok (hi : Int) : ∀ (ps : List PT) (lo : Int), SP ps → LackOk ps lo hi (lackGo hi ps lo)
  | [], lo, _ => by
    unfold lackGo
    by_cases h : lo < hi
    · rw [if_pos h]
      refine ⟨cw_cons.mpr ⟨fun q hq => absurd hq (by simp), h, cw_nil⟩, fun w hw => by rw [List.mem_singleton.mp hw]; exact ⟨Int.le_refl _, Int.le_refl _⟩, fun x => ?_⟩
      rw [inW_cons, inW_nil, Bool.or_false]
      show (decide (lo ≤ x) && decide (x < hi)) = (decide (lo ≤ x ∧ x < hi) && !(none : Option Nat).isSome)
      rw [Bool.decide_and]
      simp
    · rw [if_neg h]
      refine ⟨cw_nil, fun w hw => absurd hw (by simp), fun x => ?_⟩
      rw [inW_nil, decide_eq_false (by omega), Bool.false_and]
  | p :: ps, lo, hs => by
    obtain ⟨h1, h2, h3⟩ := sp_cons.mp hs
    have hf : p.1 < fin p := by unfold fin; omega
    unfold lackGo
    by_cases hc : p.1 < hi ∧ lo < fin p
    · rw [if_pos hc]
      obtain ⟨cw, rng, tells⟩ := lackGo_ok hi ps (fin p) h3
      by_cases hd : lo < p.1 ∧ p.1 < hi
      · rw [if_pos hd]
        refine ⟨cw_cons.mpr ⟨fun q hq => ?_, hd.1, cw⟩, fun w hw => ?_, fun x => ?_⟩
        · have := (rng q hq).1
          show p.1 < q.1
          omega
        · rcases List.mem_cons.mp hw with rfl | hw
          · exact ⟨Int.le_refl _, Int.le_of_lt hd.2⟩
          · have := rng w hw
            exact ⟨by omega, this.2⟩
        · show inW ((lo, p.1) :: lackGo hi ps (fin p)) x = _
          rw [inW_cons, tells, told_cons]
          show ((decide (lo ≤ x) && decide (x < p.1)) || _) = _
          by_cases k1 : x < p.1
          · have t0 : told ps x = false := by
              cases z : told ps x with
              | false => rfl
              | true => obtain ⟨q, hq, e, _⟩ := told_iff.mp z; have := h1 q hq; omega
            rw [t0, decide_eq_true k1, decide_eq_false (by omega : ¬ (fin p ≤ x ∧ x < hi)), decide_eq_false (by omega : ¬ (p.1 ≤ x ∧ x < fin p))]
            by_cases k2 : lo ≤ x
            · rw [decide_eq_true k2, decide_eq_true (by omega : lo ≤ x ∧ x < hi)]; rfl
            · rw [decide_eq_false k2, decide_eq_false (by omega : ¬ (lo ≤ x ∧ x < hi))]; rfl
          · rw [decide_eq_false k1, Bool.and_false, Bool.false_or]
            by_cases k2 : x < fin p
            · rw [decide_eq_false (by omega : ¬ (fin p ≤ x ∧ x < hi)), decide_eq_true (by omega : p.1 ≤ x ∧ x < fin p)]
              simp
            · rw [decide_eq_false (by omega : ¬ (p.1 ≤ x ∧ x < fin p)), Bool.false_or]
              by_cases k3 : x < hi
              · rw [decide_eq_true (by omega : fin p ≤ x ∧ x < hi), decide_eq_true (by omega : lo ≤ x ∧ x < hi)]
              · rw [decide_eq_false (by omega : ¬ (fin p ≤ x ∧ x < hi)), decide_eq_false (by omega : ¬ (lo ≤ x ∧ x < hi))]
      · rw [if_neg hd]
        have hl : p.1 ≤ lo := by omega
        refine ⟨cw, fun w hw => ?_, fun x => ?_⟩
        · have := rng w hw
          exact ⟨by omega, this.2⟩
        · show inW (lackGo hi ps (fin p)) x = _
          rw [tells, told_cons]
          by_cases k2 : x < fin p
          · by_cases k4 : p.1 ≤ x
            · rw [decide_eq_false (by omega : ¬ (fin p ≤ x ∧ x < hi)), decide_eq_true (by omega : p.1 ≤ x ∧ x < fin p)]
              simp
            · rw [decide_eq_false (by omega : ¬ (fin p ≤ x ∧ x < hi)), decide_eq_false (by omega : ¬ (lo ≤ x ∧ x < hi))]
              rfl
          · rw [decide_eq_false (by omega : ¬ (p.1 ≤ x ∧ x < fin p)), Bool.false_or]
            by_cases k3 : x < hi
            · rw [decide_eq_true (by omega : fin p ≤ x ∧ x < hi), decide_eq_true (by omega : lo ≤ x ∧ x < hi)]
            · rw [decide_eq_false (by omega : ¬ (fin p ≤ x ∧ x < hi)), decide_eq_false (by omega : ¬ (lo ≤ x ∧ x < hi))]
    · rw [if_neg hc]
      have hd : ¬ (lo < p.1 ∧ p.1 < hi) := by omega
      rw [if_neg hd]
      obtain ⟨cw, rng, tells⟩ := lackGo_ok hi ps lo h3
      refine ⟨cw, rng, fun x => ?_⟩
      show inW (lackGo hi ps lo) x = _
      rw [tells, told_cons]
      by_cases k : lo ≤ x ∧ x < hi
      · rw [decide_eq_false (by omega : ¬ (p.1 ≤ x ∧ x < fin p)), Bool.false_or]
      · rw [decide_eq_false k, Bool.false_and, Bool.false_and]
theorem lackF_ok {ps : List PT} (hp : SP ps) : ∀ {ws : List WT}, CW ws → CW (lackF ws ps) ∧ (∀ r ∈ lackF ws ps, ∃ w ∈ ws, w.1 ≤ r.1 ∧ r.2 ≤ w.2) ∧ ∀ x, inW (lackF ws ps) x = (inW ws x && !told ps x)
  | [], _ => ⟨cw_nil, fun _ h => absurd h (by simp [lackF]), fun x => by rw [inW_nil, Bool.false_and]; rfl⟩
  | w :: ws, h => by
    obtain ⟨h1, h2, h3⟩ := cw_cons.mp h
    obtain ⟨a, b, c⟩ := lackF_ok hp h3
    obtain ⟨cw, rng, tells⟩ := lackGo_ok w.2 ps w.1 hp
    have e : lackF (w :: ws) ps = lackGo w.2 ps w.1 ++ lackF ws ps := rfl
    rw [e]
    refine ⟨⟨?_, fun r hr => ?_⟩, fun r hr => ?_, fun x => ?_⟩
    · rw [List.pairwise_append]
      refine ⟨cw.1, a.1, fun r hr s hs => ?_⟩
      obtain ⟨v, hv, g1, _⟩ := b s hs
      have := (rng r hr).2
      have := h1 v hv
      omega
    · rcases List.mem_append.mp hr with hr | hr
      · exact cw.2 r hr
      · exact a.2 r hr
    · rcases List.mem_append.mp hr with hr | hr
      · exact ⟨w, List.mem_cons_self, (rng r hr).1, (rng r hr).2⟩
      · obtain ⟨v, hv, g⟩ := b r hr
        exact ⟨v, List.mem_cons_of_mem _ hv, g⟩
    · rw [inW_app, tells, c, inW_cons]
      have : decide (w.1 ≤ x ∧ x < w.2) = inW1 w x := by unfold inW1; rw [Bool.decide_and]
      rw [this]
      cases inW1 w x <;> cases inW ws x <;> cases told ps x <;> rfl
/-! what is cut -/
def sub (s : Str) (a b : Int) : Str := L2.cutS s (some a) (some b)
theorem sub_list (s : Str) {a b : Int} (h0 : 0 ≤ a) (h1 : a ≤ b) (h2 : b ≤ ln s) : (sub s a b).cps.toList = (s.cps.toList.drop a.toNat).take (b - a).toNat := by
  unfold sub L2.cutS
  have e1 : HT.sIx s.length 0 (some a) = a.toNat := by
    unfold HT.sIx
    dsimp only
    rw [if_neg (by omega)]
    have : s.length = s.cps.toList.length := by unfold Str.length; simp
    unfold ln at h2
    omega
  have e2 : HT.sIx s.length s.length (some b) = b.toNat := by
    unfold HT.sIx
    dsimp only
    rw [if_neg (by omega)]
    have : s.length = s.cps.toList.length := by unfold Str.length; simp
    unfold ln at h2
    omega
  simp only [e1, e2]
  have : (b - a).toNat = b.toNat - a.toNat := by omega
  rw [this]
theorem sub_ln (s : Str) {a b : Int} (h0 : 0 ≤ a) (h1 : a ≤ b) (h2 : b ≤ ln s) : ln (sub s a b) = b - a := by
  unfold ln
  rw [sub_list s h0 h1 h2, List.length_take, List.length_drop]
  unfold ln at h2
  omega
theorem sub_at (s : Str) {a b : Int} (h0 : 0 ≤ a) (h1 : a ≤ b) (h2 : b ≤ ln s) {i : Nat} (hi : (i : Int) < b - a) : (sub s a b).cps.toList[i]? = s.cps.toList[a.toNat + i]? := by
  rw [sub_list s h0 h1 h2, List.getElem?_take_of_lt (by omega), List.getElem?_drop]
def cut1 (p : PT) (w : WT) : Option PT := if max p.1 w.1 < min (fin p) w.2 then some (max p.1 w.1, sub p.2 (max p.1 w.1 - p.1) (min (fin p) w.2 - p.1)) else none
def cutF (ps : List PT) (ws : List WT) : List PT := ps.flatMap fun p => ws.filterMap (cut1 p)
theorem cut1_ok {p : PT} {w : WT} {r : PT} (h : cut1 p w = some r) : r.1 = max p.1 w.1 ∧ fin r = min (fin p) w.2 ∧ r.1 < fin r ∧ 0 < ln r.2 ∧ ∀ x, r.1 ≤ x → x < fin r → at1 r x = at1 p x := by
  unfold cut1 at h
  split at h
  · rename_i hc
    cases h
    have b1 : max p.1 w.1 - p.1 ≤ min (fin p) w.2 - p.1 := by omega
    have b0 : 0 ≤ max p.1 w.1 - p.1 := by omega
    have b2 : min (fin p) w.2 - p.1 ≤ ln p.2 := by unfold fin at *; omega
    have l := sub_ln p.2 b0 b1 b2
    have f : fin (max p.1 w.1, sub p.2 (max p.1 w.1 - p.1) (min (fin p) w.2 - p.1)) = min (fin p) w.2 := by
      show max p.1 w.1 + ln (sub p.2 (max p.1 w.1 - p.1) (min (fin p) w.2 - p.1)) = _
      rw [l]; omega
    refine ⟨rfl, f, ?_, ?_, fun x h1 h2 => ?_⟩
    · rw [f]; exact hc
    · show 0 < ln (sub p.2 (max p.1 w.1 - p.1) (min (fin p) w.2 - p.1))
      rw [l]; omega
    · have h1' : max p.1 w.1 ≤ x := h1
      unfold at1
      rw [if_pos ⟨h1, h2⟩, if_pos (by rw [f] at h2; omega)]
      rw [f] at h2
      show (sub p.2 (max p.1 w.1 - p.1) (min (fin p) w.2 - p.1)).cps.toList[(x - max p.1 w.1).toNat]? = _
      rw [sub_at p.2 b0 b1 b2 (by omega)]
      congr 1
      omega
  · cases h
theorem mem_cut {ps : List PT} {ws : List WT} {r : PT} : r ∈ cutF ps ws ↔ ∃ p ∈ ps, ∃ w ∈ ws, cut1 p w = some r := by
  unfold cutF
  rw [List.mem_flatMap]
  constructor
  · rintro ⟨p, hp, h⟩
    obtain ⟨w, hw, e⟩ := List.mem_filterMap.mp h
    exact ⟨p, hp, w, hw, e⟩
  · rintro ⟨p, hp, w, hw, e⟩
    exact ⟨p, hp, List.mem_filterMap.mpr ⟨w, hw, e⟩⟩
theorem cut_row {p : PT} : ∀ {ws : List WT}, CW ws → (ws.filterMap (cut1 p)).Pairwise (fun a b => fin a < b.1) ∧ ∀ r ∈ ws.filterMap (cut1 p), ∃ w ∈ ws, cut1 p w = some r
  | [], _ => ⟨.nil, fun r h => absurd h (by simp)⟩
  | w :: ws, h => by
    obtain ⟨h1, h2, h3⟩ := cw_cons.mp h
    obtain ⟨a, b⟩ := cut_row (p := p) h3
    rw [List.filterMap_cons]
    cases e : cut1 p w with
    | none => exact ⟨a, fun r hr => by obtain ⟨v, hv, g⟩ := b r hr; exact ⟨v, List.mem_cons_of_mem _ hv, g⟩⟩
    | some r =>
      refine ⟨List.pairwise_cons.mpr ⟨fun s hs => ?_, a⟩, fun s hs => ?_⟩
      · obtain ⟨v, hv, g⟩ := b s hs
        have k := h1 v hv
        have e1 := cut1_ok e
        have e2 := cut1_ok g
        omega
      · rcases List.mem_cons.mp hs with rfl | hs
        · exact ⟨w, List.mem_cons_self, e⟩
        · obtain ⟨v, hv, g⟩ := b s hs
          exact ⟨v, List.mem_cons_of_mem _ hv, g⟩
theorem cutF_cp : ∀ {ps : List PT} {ws : List WT}, CP ps → CW ws → CP (cutF ps ws)
  | [], _, _, _ => cp_nil
  | p :: ps, ws, hp, hw => by
    obtain ⟨h1, h2, h3⟩ := cp_cons.mp hp
    obtain ⟨a, b⟩ := cut_row (p := p) hw
    have ih := cutF_cp h3 hw
    have e : cutF (p :: ps) ws = ws.filterMap (cut1 p) ++ cutF ps ws := rfl
    rw [e]
    refine ⟨List.pairwise_append.mpr ⟨a, ih.1, fun r hr s hs => ?_⟩, fun r hr => ?_⟩
    · obtain ⟨w, _, g⟩ := b r hr
      obtain ⟨q, hq, v, _, g2⟩ := mem_cut.mp hs
      have k := h1 q hq
      have e1 := cut1_ok g
      have e2 := cut1_ok g2
      omega
    · rcases List.mem_append.mp hr with hr | hr
      · obtain ⟨w, _, g⟩ := b r hr
        exact (cut1_ok g).2.2.2.1
      · exact ih.2 r hr
/-- of pieces none on another, the one that holds a place tells it -/
theorem tell_of {ps : List PT} (h : SP ps) {p : PT} (hp : p ∈ ps) {x : Int} (h1 : p.1 ≤ x) (h2 : x < fin p) : tell ps x = at1 p x := by
  induction ps with
  | nil => exact absurd hp (by simp)
  | cons q ps ih =>
    obtain ⟨g1, g2, g3⟩ := sp_cons.mp h
    rcases List.mem_cons.mp hp with rfl | hp
    · exact tell_head h1 h2
    · have := g1 p hp
      rw [tell_rest (by omega)]
      exact ih g3 hp
theorem cutF_tell {ps : List PT} {ws : List WT} (hp : CP ps) (hw : CW ws) (x : Int) : tell (cutF ps ws) x = if inW ws x = true then tell ps x else none := by
  cases h : tell (cutF ps ws) x with
  | some c =>
    obtain ⟨r, hr, h1, h2, h3⟩ := tell_mem h
    obtain ⟨p, pm, w, wm, g⟩ := mem_cut.mp hr
    obtain ⟨e1, e2, e3, e4, e5⟩ := cut1_ok g
    rw [inW_iff.mpr ⟨w, wm, by omega, by omega⟩, if_pos rfl, tell_of hp.sp pm (x := x) (by omega) (by omega), ← e5 x h1 h2, h3]
  | none =>
    split
    · rename_i hi
      obtain ⟨w, wm, w1, w2⟩ := inW_iff.mp hi
      cases h2 : tell ps x with
      | none => rfl
      | some c =>
        exfalso
        obtain ⟨p, pm, p1, p2, _⟩ := tell_mem h2
        have hc : max p.1 w.1 < min (fin p) w.2 := by omega
        have g : cut1 p w = some (max p.1 w.1, sub p.2 (max p.1 w.1 - p.1) (min (fin p) w.2 - p.1)) := if_pos hc
        obtain ⟨e1, e2, e3, e4, e5⟩ := cut1_ok g
        exact tell_none.mp h _ (mem_cut.mpr ⟨p, pm, w, wm, g⟩) ⟨by rw [e1]; omega, by rw [e2]; omega⟩
    · rfl
end Law
set_option linter.all false
set_option maxRecDepth 100000
set_option Elab.async false
namespace Law
open PySem Fw
/-! put together -/
def places (ps : List PT) : List WT := ps.map fun p => (p.1, fin p)
def glue (acc : List PT) (p : PT) : List PT := match acc.getLast? with
  | some q => if fin q = p.1 then acc.dropLast ++ [(q.1, q.2 ++ p.2)] else acc ++ [p]
  | none => acc ++ [p]
def joinL (ones others : List PT) : List PT := ones ++ cutF others (lackF (places others) ones)
def joinF (ones others : List PT) : List PT := (sortIT (joinL ones others)).foldl glue []
theorem places_cw {ps : List PT} (h : CP ps) : CW (places ps) := by
  refine ⟨List.pairwise_map.mpr h.1, fun w hw => ?_⟩
  obtain ⟨p, hp, rfl⟩ := List.mem_map.mp hw
  have := h.2 p hp
  show p.1 < fin p
  unfold fin; omega
theorem places_in (ps : List PT) (x : Int) : inW (places ps) x = told ps x := by
  cases h : told ps x with
  | true =>
    obtain ⟨p, hp, z⟩ := told_iff.mp h
    exact inW_iff.mpr ⟨_, List.mem_map_of_mem hp, z⟩
  | false =>
    refine inW_none.mpr fun w hw z => ?_
    obtain ⟨p, hp, rfl⟩ := List.mem_map.mp hw
    rw [told_iff.mpr ⟨p, hp, z⟩] at h
    cases h
theorem tell_app (a b : List PT) (x : Int) : tell (a ++ b) x = (tell a x).or (tell b x) := List.findSome?_append
theorem ln_app (s t : Str) : ln (s ++ t) = ln s + ln t := by
  have : (s ++ t).cps.toList = s.cps.toList ++ t.cps.toList := by
    show (s.cps ++ t.cps).toList = _
    simp
  unfold ln
  rw [this, List.length_append]
  omega
theorem app_list (s t : Str) : (s ++ t).cps.toList = s.cps.toList ++ t.cps.toList := by
  show (s.cps ++ t.cps).toList = _
  simp
theorem at1_glue {q p : PT} (h : fin q = p.1) (x : Int) : at1 (q.1, q.2 ++ p.2) x = (at1 q x).or (at1 p x) := by
  have f : fin (q.1, q.2 ++ p.2) = fin p := by
    show q.1 + ln (q.2 ++ p.2) = _
    rw [ln_app]; unfold fin at *; omega
  have l1 := ln_nn q.2
  have l2 := ln_nn p.2
  have hq : fin q = q.1 + ln q.2 := rfl
  have hp : fin p = p.1 + ln p.2 := rfl
  by_cases h1 : q.1 ≤ x ∧ x < fin q
  · obtain ⟨c, e, e2⟩ := at1_in h1.1 h1.2
    rw [e]
    unfold at1
    rw [if_pos ⟨h1.1, by rw [f]; omega⟩, app_list]
    show (q.2.cps.toList ++ p.2.cps.toList)[(x - q.1).toNat]? = some c
    rw [List.getElem?_append_left (by have := (List.getElem?_eq_some_iff.mp e2).1; exact this)]
    exact e2
  · rw [at1_out h1]
    show _ = at1 p x
    by_cases h2 : p.1 ≤ x ∧ x < fin p
    · unfold at1
      rw [if_pos h2, if_pos ⟨by show q.1 ≤ x; omega, by rw [f]; omega⟩, app_list]
      show (q.2.cps.toList ++ p.2.cps.toList)[(x - q.1).toNat]? = _
      have e1 : ln q.2 = ((q.2.cps.toList.length : Nat) : Int) := rfl
      rw [List.getElem?_append_right (by omega)]
      congr 1
      omega
    · rw [at1_out h2]
      exact at1_out (by rw [f]; show ¬ (q.1 ≤ x ∧ x < fin p); omega)
theorem sp_app {a b : List PT} : SP (a ++ b) ↔ SP a ∧ SP b ∧ ∀ p ∈ a, ∀ q ∈ b, fin p ≤ q.1 := by
  unfold SP
  rw [List.pairwise_append]
  constructor
  · rintro ⟨⟨h1, h2, h3⟩, h4⟩
    exact ⟨⟨h1, fun p hp => h4 p (List.mem_append_left _ hp)⟩, ⟨h2, fun p hp => h4 p (List.mem_append_right _ hp)⟩, h3⟩
  · rintro ⟨⟨h1, h2⟩, ⟨h3, h4⟩, h5⟩
    exact ⟨⟨h1, h3, h5⟩, fun p hp => by rcases List.mem_append.mp hp with hp | hp; exact h2 p hp; exact h4 p hp⟩
theorem cp_app {a b : List PT} : CP (a ++ b) ↔ CP a ∧ CP b ∧ ∀ p ∈ a, ∀ q ∈ b, fin p < q.1 := by
  unfold CP
  rw [List.pairwise_append]
  constructor
  · rintro ⟨⟨h1, h2, h3⟩, h4⟩
    exact ⟨⟨h1, fun p hp => h4 p (List.mem_append_left _ hp)⟩, ⟨h2, fun p hp => h4 p (List.mem_append_right _ hp)⟩, h3⟩
  · rintro ⟨⟨h1, h2⟩, ⟨h3, h4⟩, h5⟩
    exact ⟨⟨h1, h3, h5⟩, fun p hp => by rcases List.mem_append.mp hp with hp | hp; exact h2 p hp; exact h4 p hp⟩
theorem cp_one {p : PT} (h : 0 < ln p.2) : CP [p] := cp_cons.mpr ⟨fun q hq => absurd hq (by simp), h, cp_nil⟩
/-- acc: nothing, or ahead of a last one -/
theorem last_cases (acc : List PT) : acc = [] ∨ ∃ ini q, acc = ini ++ [q] := by
  rcases List.eq_nil_or_concat acc with h | ⟨l, b, h⟩
  · exact .inl h
  · exact .inr ⟨l, b, by rw [h, List.concat_eq_append]⟩
theorem glue_nil (p : PT) : glue [] p = [p] := rfl
theorem glue_last (ini : List PT) (q p : PT) : glue (ini ++ [q]) p = if fin q = p.1 then ini ++ [(q.1, q.2 ++ p.2)] else ini ++ [q] ++ [p] := by
  unfold glue
  rw [List.getLast?_concat, List.dropLast_concat]
theorem glue_step {acc r : List PT} {p : PT} (h1 : CP acc) (h2 : SP (acc ++ p :: r)) : CP (glue acc p) ∧ SP (glue acc p ++ r) ∧ ∀ x, tell (glue acc p ++ r) x = tell (acc ++ p :: r) x := by
  obtain ⟨s1, s2, s3⟩ := sp_app.mp h2
  obtain ⟨t1, t2, t3⟩ := sp_cons.mp s2
  rcases last_cases acc with rfl | ⟨ini, q, rfl⟩
  · rw [glue_nil]
    exact ⟨cp_one t2, s2, fun x => rfl⟩
  · rw [glue_last]
    obtain ⟨c1, c2, c3⟩ := cp_app.mp h1
    have hq : 0 < ln q.2 := c2.2 q List.mem_cons_self
    have hqp : fin q ≤ p.1 := s3 q (List.mem_append_right _ List.mem_cons_self) p List.mem_cons_self
    by_cases e : fin q = p.1
    · rw [if_pos e]
      have f : fin (q.1, q.2 ++ p.2) = fin p := by
        show q.1 + ln (q.2 ++ p.2) = _
        rw [ln_app]; unfold fin at *; omega
      have lq : 0 < ln (q.2 ++ p.2) := by rw [ln_app]; omega
      have cq : CP [(q.1, q.2 ++ p.2)] := cp_one lq
      have ca : CP (ini ++ [(q.1, q.2 ++ p.2)]) := cp_app.mpr ⟨c1, cq, fun a ha b hb => by
        rw [List.mem_singleton.mp hb]
        exact c3 a ha q List.mem_cons_self⟩
      refine ⟨ca, sp_app.mpr ⟨ca.sp, t3, fun a ha b hb => ?_⟩, fun x => ?_⟩
      · rcases List.mem_append.mp ha with ha | ha
        · exact s3 a (List.mem_append_left _ ha) b (List.mem_cons_of_mem _ hb)
        · rw [List.mem_singleton.mp ha, f]
          exact t1 b hb
      · rw [tell_app, tell_app, tell_app, tell_app]
        have e1 : tell [(q.1, q.2 ++ p.2)] x = at1 (q.1, q.2 ++ p.2) x := by show List.findSome? _ [_] = _; rw [List.findSome?_singleton]
        have e2 : tell [q] x = at1 q x := by show List.findSome? _ [_] = _; rw [List.findSome?_singleton]
        have e3 : tell (p :: r) x = (at1 p x).or (tell r x) := by
          have := tell_app [p] r x
          rw [show tell [p] x = at1 p x from by show List.findSome? _ [_] = _; rw [List.findSome?_singleton]] at this
          exact this
        rw [e1, e2, e3, at1_glue e]
        cases tell ini x <;> cases at1 q x <;> rfl
    · rw [if_neg e]
      have cpp : CP [p] := cp_one t2
      refine ⟨cp_app.mpr ⟨h1, cpp, fun a ha b hb => ?_⟩, ?_, fun x => ?_⟩
      · rw [List.mem_singleton.mp hb]
        rcases List.mem_append.mp ha with ha | ha
        · have k := c3 a ha q List.mem_cons_self
          have : fin q = q.1 + ln q.2 := rfl
          omega
        · rw [List.mem_singleton.mp ha]; omega
      · rw [List.append_assoc]; exact h2
      · rw [List.append_assoc (ini ++ [q])]; rfl
theorem glue_all : ∀ (r acc : List PT), CP acc → SP (acc ++ r) → CP (r.foldl glue acc) ∧ ∀ x, tell (r.foldl glue acc) x = tell (acc ++ r) x
  | [], acc, h, _ => ⟨h, fun x => by rw [List.append_nil]; rfl⟩
  | p :: r, acc, h1, h2 => by
    obtain ⟨a, b, c⟩ := glue_step h1 h2
    obtain ⟨d, e⟩ := glue_all r (glue acc p) a b
    exact ⟨d, fun x => (e x).trans (c x)⟩
def Dj (a b : PT) : Prop := fin a ≤ b.1 ∨ fin b ≤ a.1
theorem sort_sp {l : List PT} (h : l.Pairwise Dj) (h2 : ∀ p ∈ l, 0 < ln p.2) : SP (sortIT l) ∧ ∀ x, tell (sortIT l) x = tell l x := by
  have pm := sortIT_perm l
  have m2 : ∀ p ∈ sortIT l, 0 < ln p.2 := fun p hp => h2 p (pm.subset hp)
  have dj : (sortIT l).Pairwise Dj := (pm.symm.pairwise_iff (fun {a b} (z : Dj a b) => show Dj b a from z.symm)).mp h
  have sp : SP (sortIT l) := by
    refine ⟨?_, m2⟩
    have both := List.Pairwise.and dj (sortIT_sorted l)
    refine both.imp_of_mem fun {a b} ha hb z => ?_
    have lb := m2 b hb
    have fb : fin b = b.1 + ln b.2 := rfl
    rcases z.1 with k | k
    · exact k
    · have := z.2; omega
  refine ⟨sp, fun x => ?_⟩
  cases e : tell l x with
  | some c =>
    obtain ⟨p, hp, h1, h3, h4⟩ := tell_mem e
    rw [tell_of sp (pm.symm.subset hp) h1 h3, h4]
  | none =>
    have n := tell_none.mp e
    exact tell_none.mpr fun p hp => n p (pm.subset hp)
theorem join_sp {ones others : List PT} (h1 : CP ones) (h2 : CP others) : SP (sortIT (joinL ones others)) ∧ ∀ x, tell (sortIT (joinL ones others)) x = (tell ones x).or (tell others x) := by
  obtain ⟨a, b, c⟩ := lackF_ok h1.sp (places_cw h2)
  have cc := cutF_cp h2 a
  have dj : (joinL ones others).Pairwise Dj := by
    refine List.pairwise_append.mpr ⟨h1.sp.1.imp fun h => .inl h, cc.sp.1.imp fun h => .inl h, fun p hp r hr => ?_⟩
    obtain ⟨q, hq, w, hw, g⟩ := mem_cut.mp hr
    obtain ⟨e1, e2, e3, e4, e5⟩ := cut1_ok g
    have lp := h1.2 p hp
    have fp : fin p = p.1 + ln p.2 := rfl
    by_cases k1 : fin p ≤ r.1
    · exact .inl k1
    · by_cases k2 : fin r ≤ p.1
      · exact .inr k2
      · exfalso
        have hi : inW (lackF (places others) ones) (max p.1 r.1) = true := inW_iff.mpr ⟨w, hw, by omega, by omega⟩
        rw [c, told_iff.mpr ⟨p, hp, by omega, by omega⟩, Bool.not_true, Bool.and_false] at hi
        cases hi
  have ne : ∀ p ∈ joinL ones others, 0 < ln p.2 := fun p hp => by
    rcases List.mem_append.mp hp with hp | hp
    · exact h1.2 p hp
    · exact cc.2 p hp
  obtain ⟨s1, s2⟩ := sort_sp dj ne
  refine ⟨s1, fun x => ?_⟩
  rw [s2]
  show tell (ones ++ cutF others (lackF (places others) ones)) x = _
  rw [tell_app, cutF_tell h2 a, c, places_in]
  unfold told
  cases tell ones x with
  | some d => rfl
  | none =>
    cases tell others x with
    | some d => rfl
    | none => rfl
theorem join_ok {ones others : List PT} (h1 : CP ones) (h2 : CP others) : CP (joinF ones others) ∧ ∀ x, tell (joinF ones others) x = (tell ones x).or (tell others x) := by
  obtain ⟨s1, s2⟩ := join_sp h1 h2
  obtain ⟨a, b⟩ := glue_all (sortIT (joinL ones others)) [] cp_nil s1
  exact ⟨a, fun x => (b x).trans (s2 x)⟩
/-! how long the texts are -/
def tot (ps : List PT) : Nat := (ps.map fun p => p.2.cps.toList.length).sum
theorem tot_nil : tot [] = 0 := rfl
theorem tot_cons (p : PT) (ps : List PT) : tot (p :: ps) = p.2.cps.toList.length + tot ps := by unfold tot; rw [List.map_cons, List.sum_cons]
theorem tot_app (a b : List PT) : tot (a ++ b) = tot a + tot b := by unfold tot; rw [List.map_append, List.sum_append]
theorem tot_mem {ps : List PT} {p : PT} (h : p ∈ ps) : p.2.cps.toList.length ≤ tot ps := by
  induction ps with
  | nil => exact absurd h (by simp)
  | cons q ps ih =>
    rw [tot_cons]
    rcases List.mem_cons.mp h with rfl | h
    · omega
    · have := ih h; omega
theorem tot_perm {a b : List PT} (h : a.Perm b) : tot a = tot b := by
  unfold tot
  exact (h.map _).sum_nat
theorem tot_glue (acc : List PT) (p : PT) : tot (glue acc p) = tot acc + p.2.cps.toList.length := by
  rcases last_cases acc with rfl | ⟨ini, q, rfl⟩
  · rw [glue_nil, tot_cons, tot_nil]; omega
  · rw [glue_last]
    split
    · rw [tot_app, tot_app, tot_cons, tot_cons, tot_nil, app_list, List.length_append]; omega
    · rw [tot_app, tot_cons, tot_nil]; omega
theorem len_glue (acc : List PT) (p : PT) : (glue acc p).length ≤ acc.length + 1 := by
  rcases last_cases acc with rfl | ⟨ini, q, rfl⟩
  · exact Nat.le_refl _
  · rw [glue_last]
    split
    · rw [List.length_append, List.length_append]; show _ + 1 ≤ _ + 1 + 1; omega
    · rw [List.length_append]; exact Nat.le_refl _
end Law
set_option linter.all false
set_option maxRecDepth 100000
set_option Elab.async false
namespace Law
open PySem Fw
/-! a table of places -/
abbrev TB := List (Int × Nat)
def lookT (tb : TB) (x : Int) : Option Nat := (tb.find? fun p => p.1 == x).map (·.2)
def setT (tb : TB) (p : Int × Nat) : TB := if tb.any (fun q => q.1 == p.1) = true then tb else tb ++ [p]
def sing1 : Int → List Nat → TB
  | _, [] => []
  | a, c :: cs => (a, c) :: sing1 (a + 1) cs
def sing (ps : List PT) : TB := ps.flatMap fun p => sing1 p.1 p.2.cps.toList
def tableOf (pcs : List (List PT)) : TB := (pcs.flatMap sing).foldl setT []
def firstTell (pcs : List (List PT)) (x : Int) : Option Nat := pcs.findSome? fun ps => tell ps x
theorem lookT_app (a b : TB) (x : Int) : lookT (a ++ b) x = (lookT a x).or (lookT b x) := by
  unfold lookT
  rw [List.find?_append]
  cases a.find? (fun p => p.1 == x) <;> rfl
theorem lookT_any (tb : TB) (x : Int) : (lookT tb x).isSome = tb.any (fun q => q.1 == x) := by
  unfold lookT
  rw [Option.isSome_map]
  cases h : tb.find? (fun p => p.1 == x) with
  | none =>
    have := List.find?_eq_none.mp h
    cases k : tb.any (fun q => q.1 == x) with
    | false => rfl
    | true => obtain ⟨q, hq, e⟩ := List.any_eq_true.mp k; exact absurd e (this q hq)
  | some p =>
    have := List.find?_some h
    exact (List.any_eq_true.mpr ⟨p, List.mem_of_find?_eq_some h, this⟩).symm
theorem lookT_one (p : Int × Nat) (x : Int) : lookT [p] x = if p.1 = x then some p.2 else none := by
  unfold lookT
  rw [List.find?_cons]
  by_cases h : p.1 = x
  · rw [if_pos h, beq_iff_eq.mpr h]; rfl
  · rw [if_neg h, beq_false_of_ne h]; rfl
theorem lookT_set (tb : TB) (p : Int × Nat) (x : Int) : lookT (setT tb p) x = (lookT tb x).or (lookT [p] x) := by
  unfold setT
  split
  · rename_i h
    rw [lookT_one]
    by_cases e : p.1 = x
    · rw [if_pos e]
      have := lookT_any tb x
      rw [← e, h] at this
      rw [← e]
      cases k : lookT tb p.1 with
      | none => rw [k] at this; cases this
      | some c => rfl
    · rw [if_neg e, Option.or_none]
  · exact lookT_app _ _ _
theorem lookT_fold : ∀ (xs tb : TB) (x : Int), lookT (xs.foldl setT tb) x = (lookT tb x).or (lookT xs x)
  | [], tb, x => by
    have : lookT [] x = none := rfl
    rw [this, Option.or_none]; rfl
  | p :: xs, tb, x => by
    have e : lookT (p :: xs) x = (lookT [p] x).or (lookT xs x) := lookT_app [p] xs x
    rw [List.foldl_cons, lookT_fold xs (setT tb p) x, lookT_set, e, Option.or_assoc]
theorem lookT_sing1 : ∀ (cs : List Nat) (a x : Int), lookT (sing1 a cs) x = if a ≤ x ∧ x < a + (cs.length : Nat) then cs[(x - a).toNat]? else none
  | [], a, x => by
    rw [if_neg (by rw [List.length_nil]; omega)]; rfl
  | c :: cs, a, x => by
    have e : lookT (sing1 a (c :: cs)) x = (lookT [(a, c)] x).or (lookT (sing1 (a + 1) cs) x) := lookT_app [(a, c)] _ x
    rw [e, lookT_one, lookT_sing1 cs (a + 1) x, List.length_cons]
    by_cases h : a = x
    · have h : a = x := h
      have : (x - a).toNat = 0 := by omega
      rw [if_pos h, this, if_pos (show a ≤ x ∧ x < a + ((cs.length + 1 : Nat) : Int) by omega)]
      rfl
    · have h : ¬ a = x := h
      rw [if_neg h]
      show (if a + 1 ≤ x ∧ x < a + 1 + ((cs.length : Nat) : Int) then cs[(x - (a + 1)).toNat]? else none) = _
      by_cases k : a + 1 ≤ x ∧ x < a + 1 + ((cs.length : Nat) : Int)
      · rw [if_pos k, if_pos (show a ≤ x ∧ x < a + ((cs.length + 1 : Nat) : Int) by omega)]
        have : (x - a).toNat = (x - (a + 1)).toNat + 1 := by omega
        rw [this, List.getElem?_cons_succ]
      · rw [if_neg k, if_neg (show ¬ (a ≤ x ∧ x < a + ((cs.length + 1 : Nat) : Int)) by omega)]
theorem lookT_sing : ∀ (ps : List PT) (x : Int), lookT (sing ps) x = tell ps x
  | [], x => rfl
  | p :: ps, x => by
    have e : sing (p :: ps) = sing1 p.1 p.2.cps.toList ++ sing ps := rfl
    rw [e, lookT_app, lookT_sing ps x, lookT_sing1]
    have e2 : tell (p :: ps) x = (at1 p x).or (tell ps x) := by
      have := tell_app [p] ps x
      rw [show tell [p] x = at1 p x from by show List.findSome? _ [_] = _; rw [List.findSome?_singleton]] at this
      exact this
    rw [e2]
    rfl
theorem lookT_flat : ∀ (pcs : List (List PT)) (x : Int), lookT (pcs.flatMap sing) x = firstTell pcs x
  | [], x => rfl
  | ps :: pcs, x => by
    rw [List.flatMap_cons, lookT_app, lookT_sing, lookT_flat pcs x]
    unfold firstTell
    rw [List.findSome?_cons]
    cases tell ps x <;> rfl
theorem table_look (pcs : List (List PT)) (x : Int) : lookT (tableOf pcs) x = firstTell pcs x := by
  unfold tableOf
  rw [lookT_fold, lookT_flat]
  rfl
theorem set_nd {tb : TB} (h : (tb.map (·.1)).Nodup) (p : Int × Nat) : ((setT tb p).map (·.1)).Nodup := by
  unfold setT
  split
  · exact h
  · rename_i k
    rw [List.map_append, List.nodup_append]
    refine ⟨h, List.nodup_cons.mpr ⟨by simp, List.nodup_nil⟩, fun a ha b hb => ?_⟩
    have hb : b ∈ [p.1] := hb
    rw [List.mem_singleton.mp hb]
    rintro rfl
    obtain ⟨q, hq, e⟩ := List.mem_map.mp ha
    exact k (List.any_eq_true.mpr ⟨q, hq, beq_iff_eq.mpr e⟩)
theorem fold_nd : ∀ (xs tb : TB), (tb.map (·.1)).Nodup → ((xs.foldl setT tb).map (·.1)).Nodup
  | [], _, h => h
  | p :: xs, tb, h => fold_nd xs _ (set_nd h p)
theorem table_nd (pcs : List (List PT)) : ((tableOf pcs).map (·.1)).Nodup := fold_nd _ [] List.nodup_nil
theorem look_key {tb : TB} {x : Int} : x ∈ tb.map (·.1) ↔ ∃ c, lookT tb x = some c := by
  have := lookT_any tb x
  constructor
  · intro h
    obtain ⟨q, hq, e⟩ := List.mem_map.mp h
    have any : tb.any (fun q => q.1 == x) = true := List.any_eq_true.mpr ⟨q, hq, beq_iff_eq.mpr e⟩
    rw [any] at this
    cases k : lookT tb x with
    | none => rw [k] at this; cases this
    | some c => exact ⟨c, rfl⟩
  · rintro ⟨c, e⟩
    rw [e] at this
    obtain ⟨q, hq, z⟩ := List.any_eq_true.mp this.symm
    exact List.mem_map.mpr ⟨q, hq, beq_iff_eq.mp z⟩
/-! the table's parts -/
def chr (c : Nat) : Str := ⟨#[c]⟩
def cell (tb : TB) (x : Int) : PT := (x, chr ((lookT tb x).getD 0))
def cells (tb : TB) : List PT := (sortInts (tb.map (·.1))).map (cell tb)
def dueOf (tb : TB) : List PT := (cells tb).foldl glue []
theorem cell_ln (tb : TB) (x : Int) : ln (cell tb x).2 = 1 := rfl
theorem cell_fin (tb : TB) (x : Int) : fin (cell tb x) = x + 1 := rfl
theorem sorted_lt {l : List Int} (h : l.Pairwise (· ≤ ·)) (n : l.Nodup) : l.Pairwise (· < ·) := by
  have := List.Pairwise.and h n
  exact this.imp fun {a b} z => by have := z.2; omega
theorem cells_sp {tb : TB} (h : (tb.map (·.1)).Nodup) : SP (cells tb) := by
  refine ⟨List.pairwise_map.mpr ?_, fun p hp => ?_⟩
  · have := sorted_lt (sortI_sorted (tb.map (·.1))) ((sortI_perm _).symm.nodup h)
    exact this.imp fun {a b} z => by show a + 1 ≤ b; omega
  · obtain ⟨x, _, rfl⟩ := List.mem_map.mp hp
    rw [cell_ln]; decide
theorem cells_tell {tb : TB} (h : (tb.map (·.1)).Nodup) (x : Int) : tell (cells tb) x = lookT tb x := by
  have sp := cells_sp h
  cases e : lookT tb x with
  | some c =>
    have hm : x ∈ sortInts (tb.map (·.1)) := (sortI_perm _).symm.subset (look_key.mpr ⟨c, e⟩)
    rw [tell_of sp (p := cell tb x) (List.mem_map_of_mem hm) (x := x) (Int.le_refl _) (by rw [cell_fin]; omega)]
    unfold at1
    rw [if_pos ⟨Int.le_refl _, by rw [cell_fin]; omega⟩]
    show (chr ((lookT tb x).getD 0)).cps.toList[(x - x).toNat]? = _
    rw [e, Int.sub_self]
    rfl
  | none =>
    refine tell_none.mpr fun p hp z => ?_
    obtain ⟨y, hy, rfl⟩ := List.mem_map.mp hp
    rw [cell_fin] at z
    have z1 : y ≤ x := z.1
    have : y = x := by omega
    subst this
    obtain ⟨c, e'⟩ := look_key.mp ((sortI_perm _).subset hy)
    rw [e] at e'
    cases e'
theorem due_ok {tb : TB} (h : (tb.map (·.1)).Nodup) : CP (dueOf tb) ∧ ∀ x, tell (dueOf tb) x = lookT tb x := by
  obtain ⟨a, b⟩ := glue_all (cells tb) [] cp_nil (cells_sp h)
  exact ⟨a, fun x => (b x).trans (cells_tell h x)⟩
theorem tot_fold : ∀ (r acc : List PT), tot (r.foldl glue acc) = tot acc + tot r
  | [], acc => rfl
  | p :: r, acc => by rw [List.foldl_cons, tot_fold r, tot_glue, tot_cons]; omega
theorem tot_cells (tb : TB) : ∀ xs : List Int, tot (xs.map (cell tb)) = xs.length
  | [] => rfl
  | x :: xs => by
    rw [List.map_cons, tot_cons, tot_cells tb xs, List.length_cons]
    show 1 + _ = _
    omega
theorem due_tot (tb : TB) : tot (dueOf tb) = tb.length := by
  unfold dueOf
  rw [tot_fold]
  unfold cells
  rw [tot_cells, tot_nil, (sortI_perm _).length_eq, List.length_map]
  omega
/-! one put to another -/
theorem fold_join : ∀ (pcs : List (List PT)) (acc : List PT), CP acc → (∀ ps ∈ pcs, CP ps) → CP (pcs.foldl joinF acc) ∧ ∀ x, tell (pcs.foldl joinF acc) x = (tell acc x).or (firstTell pcs x)
  | [], acc, h, _ => ⟨h, fun x => by show _ = (tell acc x).or none; rw [Option.or_none]; rfl⟩
  | ps :: pcs, acc, h, hp => by
    obtain ⟨a, b⟩ := join_ok h (hp ps List.mem_cons_self)
    obtain ⟨c, d⟩ := fold_join pcs (joinF acc ps) a fun q hq => hp q (List.mem_cons_of_mem _ hq)
    refine ⟨c, fun x => ?_⟩
    rw [List.foldl_cons, d, b, Option.or_assoc]
    unfold firstTell
    rw [List.findSome?_cons]
    cases tell ps x <;> rfl
theorem foldr_join : ∀ (pcs : List (List PT)), (∀ ps ∈ pcs, CP ps) → CP (pcs.foldr joinF []) ∧ ∀ x, tell (pcs.foldr joinF []) x = firstTell pcs x
  | [], _ => ⟨cp_nil, fun x => rfl⟩
  | ps :: pcs, hp => by
    obtain ⟨c, d⟩ := foldr_join pcs fun q hq => hp q (List.mem_cons_of_mem _ hq)
    obtain ⟨a, b⟩ := join_ok (hp ps List.mem_cons_self) c
    refine ⟨a, fun x => ?_⟩
    rw [List.foldr_cons, b, d]
    unfold firstTell
    rw [List.findSome?_cons]
    cases tell ps x <;> rfl
theorem first_app (a b : List (List PT)) (x : Int) : firstTell (a ++ b) x = (firstTell a x).or (firstTell b x) := List.findSome?_append
/-- all of one text -/
def Of (txt : Int → Option Nat) (pcs : List (List PT)) : Prop := ∀ ps ∈ pcs, ∀ x c, tell ps x = some c → txt x = some c
theorem of_perm {txt : Int → Option Nat} {pcs qcs : List (List PT)} (h1 : Of txt pcs) (a : ∀ p ∈ pcs, p ∈ qcs) (b : ∀ p ∈ qcs, p ∈ pcs) (x : Int) : firstTell qcs x = firstTell pcs x := by
  unfold firstTell
  cases e : pcs.findSome? (fun ps => tell ps x) with
  | none =>
    rw [List.findSome?_eq_none_iff] at e ⊢
    exact fun p hp => e p (b p hp)
  | some c =>
    obtain ⟨p, hp, e1⟩ := List.exists_of_findSome?_eq_some e
    cases e2 : qcs.findSome? (fun ps => tell ps x) with
    | none =>
      rw [List.findSome?_eq_none_iff] at e2
      rw [e2 p (a p hp)] at e1
      cases e1
    | some d =>
      obtain ⟨q, hq, e3⟩ := List.exists_of_findSome?_eq_some e2
      have t1 := h1 p hp x c e1
      have t2 := h1 q (b q hq) x d e3
      rw [t1] at t2
      exact t2.symm
end Law
set_option linter.all false
set_option maxRecDepth 100000
set_option Elab.async false
namespace Law
open PySem Fw
local macro_rules | `(tactic| walk_at "ev") => `(tactic| simp only [Fw.defN, Fw.defX, Fw.arity_ap, Fw.mkN_ap, Fw.mkF_ap, Fw.eC_ap, Fw.eVar_ap, Fw.e2_ap, Fw.op2_ap, Fw.cur_sh, Fw.cur_fr, Fw.cur_bo, Fw.e1_ap, Fw.eA_nil, Fw.eA_cons, Fw.eB_ap, Fw.curs_nil, Fw.curs_cons, Fw.eTup_ap, Fw.eLst_ap, Fw.shrs_nil, Fw.shrs_cons, Fw.shr_sh, Fw.shr_fr, Fw.shr_bo, Fw.eF_ap, Fw.callM_ap, Fw.sSeq_ap, Fw.sSet_ap, Fw.then_ok, Fw.put_ap, Fw.sExpr_ap, Fw.sRet_ap, Fw.retR_sh, Fw.retR_fr, Fw.retR_bo, Fw.sIf_ap, Fw.mB_ap, Fw.toB_bl, Fw.mT_ap, Fw.mAnd_ap, Fw.mOr_ap, Fw.mNot_ap, Fw.eAnd_ap, Fw.eOr_ap, Fw.eNot_ap, Fw.eIf_ap, Fw.eChain_ap, Fw.sNil_ap, Fw.sFg_ap, Fw.wipeE_nil, Fw.wipeE_cons, Fw.eMut_ap, Fw.eMetS_ap, Fw.afterF, Fw.toF, Fw.sAsg_ap, Fw.R.bind_ok, Fw.R.bind_exc, Fw.R.bind_bad, Fw.R.then,
  List.length_cons, List.length_nil, List.cons_append, List.nil_append, List.append_nil, List.replicate_succ, List.replicate_zero, List.getElem?_cons_zero, List.getElem?_cons_succ, List.set_cons_zero, List.set_cons_succ, Option.bind_some, Option.bind_none, Fw.dat_sh, Fw.dat_ow, Fw.dat_pn, Fw.dat_lk, Fw.pn_un, Fw.pn_sh, Fw.pn_ow, Fw.mu_ow, Fw.mu_pn, Fw.own_ow, Fw.own_pn, Fw.own_lk, Fw.lock_ow, Fw.lock_pnT, Fw.lock_pnF, Fw.lock_lk, Fw.with_ow, Fw.with_pn, if_true, if_false, Bool.false_eq_true, Bool.true_eq_false, ite_true, ite_false, reduceIte,
  Fw.ix_lst, Fw.ix_rol, Fw.ix_tup, Fw.ix_rot, Fw.at0, Fw.at1, Fw.at2, Fw.at3, Fw.at4, Fw.atm1, Fw.add_int, Fw.add_lst, Fw.add_tup, Fw.add_str, Fw.sub_int, Fw.mul_mod, Fw.mul_r, Fw.mul_l, Fw.div_int, Fw.mod_int, Fw.p10_8, Fw.p10_18, Fw.pow_int, Fw.neg_int, Fw.cmp_int, Fw.is_non, Fw.isnot_non, Fw.isNon_non, Fw.isNon_int, Fw.isNon_str, Fw.isNon_lst, Fw.isNon_tup, Fw.eq_int, Fw.ne_int, Fw.eq_str, Fw.ne_str, Fw.len_lst, Fw.len_rol, Fw.len_tup, Fw.len_str, Fw.max2_int, Fw.min2_int, Fw.int_int, Fw.int_bl, Fw.list_lst, Fw.list_tup, Fw.tuple_lst, Fw.tuple_tup, Fw.append_lst, Fw.tru_bl, Fw.tru_lst, Fw.sl_rol, Fw.sl_lst,
  Fw.cellAt_ap, Fw.kind_lst, Fw.putD_ap, Fw.sPut_ap, Fw.putAt_ap, Fw.set_last, Fw.set0, Fw.set1, Fw.set2, Fw.pass_nil, Fw.pass_n, Fw.pass_c, Fw.passArg_sh, Fw.passArg_fr, Fw.passArg_boF, Fw.passArg_boT, Fw.ioOk_n, Fw.ioOk_nil, Fw.ioOk_bo, Fw.ioOk_sh, Fw.ioOk_fr, Fw.bo_nil, Fw.bo_bo, Fw.bo_sh, Fw.bo_fr, Fw.io_n, Fw.io_nil, Fw.io_T, Fw.io_F, Fw.outs_nil, Fw.outs_T, Fw.outs_F, Fw.outs_sh, Fw.putOuts_nil, Fw.putOuts_cons, Fw.gN_ap, Fw.gT_tup, Fw.gAll_nil, Fw.gAll_cons, Fw.sFor_ap, Fw.eLc_ap, Fw.back_nx, Fw.back_rt, Fw.iSeq_ap, Fw.seq_lst, Fw.seq_tup, Fw.iB_ap, Fw.yes_ap, Fw.eSl_ap, Fw.part_none, Fw.part_some, Fw.partR_int, Fw.rest_nil, Fw.rest_cons, Fw.keep_sh, Fw.keep_un, Fw.keep_none,
  List.map_nil, List.map_cons, List.contains_nil, List.contains_cons, Bool.not_false, Bool.not_true, Bool.and_self, Bool.and_true, Bool.true_and, Bool.false_and, Bool.and_false, Bool.or_true, Bool.true_or, Bool.or_false, Bool.false_or, Nat.reduceAdd, Nat.reduceSub, Nat.reduceEqDiff, Nat.reduceBEq, decide_true, decide_false, Int.reduceLT, Int.reduceLE, Int.reduceNeg, Int.reducePow, Int.reduceToNat, Nat.reducePow, Nat.reduceLT, Nat.reduceLeDiff, and_true, true_and, and_self, not_true_eq_false, not_false_eq_true,
  Fw.eNew_ap, Fw.newOf_ap, Fw.gU_lst, Fw.gTU_lst, Fw.gTU_tup, Fw.sAsg2_ap, Fw.rev_lst, Fw.rev_rol, Fw.eFf_ap, Fw.eDict0_ap, Fw.iS_ap, Fw.sRetN_ap, Fw.sPass_ap, Fw.sBreak_ap, Fw.sCont_ap, Fw.i_and, Fw.i_or, Fw.i_andE, Fw.i_orE, Fw.i_int, Fw.i_str, Fw.at5, Fw.at6, Fw.at7, Fw.at8, Fw.at9, Fw.at10, Fw.at11, Fw.at12, Fw.at13, Fw.at14, Fw.at15, Fw.at16, Fw.at17, Fw.at18, Fw.at19, Fw.at20, Fw.at21, Fw.at22, Fw.at23, Fw.at24, Fw.eFK_ap, Fw.permM_cons, Fw.pick_nil, Fw.pick_cons, Fw.noT_sh, Fw.noT_pn, Fw.inB_def, Fw.eMeth_ap, Fw.eMk_ap, Fw.popN_ok, Fw.popN_exc, Fw.sRaise_ap, Fw.sTry_ap, Fw.eXf_ap, Fw.lookX_ap, Fw.endS_nx, Fw.endS_rt, Fw.isX_ty, Fw.isX_cl, Fw.isX_tup, Fw.then_exc, true_or, or_false, or_true, List.lookup_cons, List.lookup_nil, List.take_zero, List.take_succ_cons, List.drop_zero, List.drop_succ_cons, List.all_cons, List.all_nil, List.dropLast_cons₂, List.dropLast_singleton, _root_.eq_self, Nat.reduceBEq, Nat.zero_add, Nat.reduceLeDiff, Nat.sub_self, Nat.lt_irrefl, Nat.add_zero, Fw.lc_nil, Fw.lc_consN, Fw.loop_nil, Fw.loop_cons, Fw.rng1_1, Fw.rng1_2, Fw.rng1_3, Fw.rng1_4, Fw.rng1_5, Fw.rng1_6, Fw.rng1_7, Fw.rng1_8, Fw.rng1_9, Fw.rng1_10, Fw.rng1_11, Fw.rng1_12, Fw.rng2_3_8, Fw.rng2_3_6, Fw.rng2_1_3, Fw.rng2_1_4, Fw.rng2_2_5, Fw.sPar_ap, Fw.eP_nil, Fw.eP_cons, Fw.nrm_sh, Fw.nrm_fr, Fw.nrm_bo, Fw.puts_nil, Fw.puts_cons, Fw.put1_sh, Fw.put1_fr, Fw.eMetL_ap, Fw.isLst_lst, Fw.kind_dk, Fw.eGet1_ap, Fw.eGet2_ap, Fw.getK_ap, Fw.dkAt_ap, Fw.shOf_sh, Fw.key_str, Fw.key_int, Fw.in2_str, Fw.nin2_str, Option.getD_some, Option.getD_none, Option.isSome_some, Option.isSome_none, *])
local macro_rules | `(tactic| walk_at "e0") => `(tactic| simp only [Fw.defN, Fw.defX, Fw.arity_ap, Fw.mkN_ap, Fw.mkF_ap, Fw.eC_ap, Fw.eVar_ap, Fw.e2_ap, Fw.op2_ap, Fw.cur_sh, Fw.cur_fr, Fw.cur_bo, Fw.e1_ap, Fw.eA_nil, Fw.eA_cons, Fw.eB_ap, Fw.curs_nil, Fw.curs_cons, Fw.eTup_ap, Fw.eLst_ap, Fw.shrs_nil, Fw.shrs_cons, Fw.shr_sh, Fw.shr_fr, Fw.shr_bo, Fw.eF_ap, Fw.callM_ap, Fw.sSeq_ap, Fw.sSet_ap, Fw.then_ok, Fw.put_ap, Fw.sExpr_ap, Fw.sRet_ap, Fw.retR_sh, Fw.retR_fr, Fw.retR_bo, Fw.sIf_ap, Fw.mB_ap, Fw.toB_bl, Fw.mT_ap, Fw.mAnd_ap, Fw.mOr_ap, Fw.mNot_ap, Fw.eAnd_ap, Fw.eOr_ap, Fw.eNot_ap, Fw.eIf_ap, Fw.eChain_ap, Fw.sNil_ap, Fw.sFg_ap, Fw.wipeE_nil, Fw.wipeE_cons, Fw.eMut_ap, Fw.eMetS_ap, Fw.afterF, Fw.toF, Fw.sAsg_ap, Fw.R.bind_ok, Fw.R.bind_exc, Fw.R.bind_bad, Fw.R.then,
  List.length_cons, List.length_nil, List.cons_append, List.nil_append, List.append_nil, List.replicate_succ, List.replicate_zero, List.getElem?_cons_zero, List.getElem?_cons_succ, List.set_cons_zero, List.set_cons_succ, Option.bind_some, Option.bind_none, Fw.dat_sh, Fw.dat_ow, Fw.dat_pn, Fw.dat_lk, Fw.pn_un, Fw.pn_sh, Fw.pn_ow, Fw.mu_ow, Fw.mu_pn, Fw.own_ow, Fw.own_pn, Fw.own_lk, Fw.lock_ow, Fw.lock_pnT, Fw.lock_pnF, Fw.lock_lk, Fw.with_ow, Fw.with_pn, if_true, if_false, Bool.false_eq_true, Bool.true_eq_false, ite_true, ite_false, reduceIte,
  Fw.ix_lst, Fw.ix_rol, Fw.ix_tup, Fw.ix_rot, Fw.at0, Fw.at1, Fw.at2, Fw.at3, Fw.at4, Fw.atm1, Fw.add_int, Fw.add_lst, Fw.add_tup, Fw.add_str, Fw.sub_int, Fw.mul_mod, Fw.mul_r, Fw.mul_l, Fw.div_int, Fw.mod_int, Fw.p10_8, Fw.p10_18, Fw.pow_int, Fw.neg_int, Fw.cmp_int, Fw.is_non, Fw.isnot_non, Fw.isNon_non, Fw.isNon_int, Fw.isNon_str, Fw.isNon_lst, Fw.isNon_tup, Fw.eq_int, Fw.ne_int, Fw.eq_str, Fw.ne_str, Fw.len_lst, Fw.len_rol, Fw.len_tup, Fw.len_str, Fw.max2_int, Fw.min2_int, Fw.int_int, Fw.int_bl, Fw.list_lst, Fw.list_tup, Fw.tuple_lst, Fw.tuple_tup, Fw.append_lst, Fw.tru_bl, Fw.tru_lst, Fw.sl_rol, Fw.sl_lst,
  Fw.cellAt_ap, Fw.kind_lst, Fw.putD_ap, Fw.sPut_ap, Fw.putAt_ap, Fw.set_last, Fw.set0, Fw.set1, Fw.set2, Fw.pass_nil, Fw.pass_n, Fw.pass_c, Fw.passArg_sh, Fw.passArg_fr, Fw.passArg_boF, Fw.passArg_boT, Fw.ioOk_n, Fw.ioOk_nil, Fw.ioOk_bo, Fw.ioOk_sh, Fw.ioOk_fr, Fw.bo_nil, Fw.bo_bo, Fw.bo_sh, Fw.bo_fr, Fw.io_n, Fw.io_nil, Fw.io_T, Fw.io_F, Fw.outs_nil, Fw.outs_T, Fw.outs_F, Fw.outs_sh, Fw.putOuts_nil, Fw.putOuts_cons, Fw.gN_ap, Fw.gT_tup, Fw.gAll_nil, Fw.gAll_cons, Fw.sFor_ap, Fw.eLc_ap, Fw.back_nx, Fw.back_rt, Fw.iSeq_ap, Fw.seq_lst, Fw.seq_tup, Fw.iB_ap, Fw.yes_ap, Fw.eSl_ap, Fw.part_none, Fw.part_some, Fw.partR_int, Fw.rest_nil, Fw.rest_cons, Fw.keep_sh, Fw.keep_un, Fw.keep_none,
  List.map_nil, List.map_cons, List.contains_nil, List.contains_cons, Bool.not_false, Bool.not_true, Bool.and_self, Bool.and_true, Bool.true_and, Bool.false_and, Bool.and_false, Bool.or_true, Bool.true_or, Bool.or_false, Bool.false_or, Nat.reduceAdd, Nat.reduceSub, Nat.reduceEqDiff, Nat.reduceBEq, decide_true, decide_false, Int.reduceLT, Int.reduceLE, Int.reduceNeg, Int.reducePow, Int.reduceToNat, Nat.reducePow, Nat.reduceLT, Nat.reduceLeDiff, and_true, true_and, and_self, not_true_eq_false, not_false_eq_true,
  Fw.eNew_ap, Fw.newOf_ap, Fw.gU_lst, Fw.gTU_lst, Fw.gTU_tup, Fw.sAsg2_ap, Fw.rev_lst, Fw.rev_rol, Fw.eFf_ap, Fw.eDict0_ap, Fw.iS_ap, Fw.sRetN_ap, Fw.sPass_ap, Fw.sBreak_ap, Fw.sCont_ap, Fw.i_and, Fw.i_or, Fw.i_andE, Fw.i_orE, Fw.i_int, Fw.i_str, Fw.at5, Fw.at6, Fw.at7, Fw.at8, Fw.at9, Fw.at10, Fw.at11, Fw.at12, Fw.at13, Fw.at14, Fw.at15, Fw.at16, Fw.at17, Fw.at18, Fw.at19, Fw.at20, Fw.at21, Fw.at22, Fw.at23, Fw.at24, Fw.eFK_ap, Fw.permM_cons, Fw.pick_nil, Fw.pick_cons, Fw.noT_sh, Fw.noT_pn, Fw.inB_def, Fw.eMeth_ap, Fw.eMk_ap, Fw.popN_ok, Fw.popN_exc, Fw.sRaise_ap, Fw.sTry_ap, Fw.eXf_ap, Fw.lookX_ap, Fw.endS_nx, Fw.endS_rt, Fw.isX_ty, Fw.isX_cl, Fw.isX_tup, Fw.then_exc, true_or, or_false, or_true, List.lookup_cons, List.lookup_nil, List.take_zero, List.take_succ_cons, List.drop_zero, List.drop_succ_cons, List.all_cons, List.all_nil, List.dropLast_cons₂, List.dropLast_singleton, _root_.eq_self, Nat.reduceBEq, Nat.zero_add, Nat.reduceLeDiff, Nat.sub_self, Nat.lt_irrefl, Nat.add_zero, Fw.lc_nil, Fw.lc_consN, Fw.loop_nil, Fw.loop_cons, Fw.rng1_1, Fw.rng1_2, Fw.rng1_3, Fw.rng1_4, Fw.rng1_5, Fw.rng1_6, Fw.rng1_7, Fw.rng1_8, Fw.rng1_9, Fw.rng1_10, Fw.rng1_11, Fw.rng1_12, Fw.rng2_3_8, Fw.rng2_3_6, Fw.rng2_1_3, Fw.rng2_1_4, Fw.rng2_2_5, Fw.sPar_ap, Fw.eP_nil, Fw.eP_cons, Fw.nrm_sh, Fw.nrm_fr, Fw.nrm_bo, Fw.puts_nil, Fw.puts_cons, Fw.put1_sh, Fw.put1_fr, Fw.eMetL_ap, Fw.isLst_lst, Fw.kind_dk, Fw.eGet1_ap, Fw.eGet2_ap, Fw.getK_ap, Fw.dkAt_ap, Fw.shOf_sh, Fw.key_str, Fw.key_int, Fw.in2_str, Fw.nin2_str, Option.getD_some, Option.getD_none, Option.isSome_some, Option.isSome_none])
local macro_rules | `(tactic| walk_at "go") => `(tactic| repeat' (first | done | rfl | (walk_at "ev"; done) | (split <;> try walk_at "ev")))
/-! the program's own defs -/
def rnD (w : WT) : Fw.D := .tup [.int w.1, .int w.2]
def SeqS (s : Sl) (ds : List Fw.D) : Prop := s = .pn false (.lst ds) ∨ s = .sh (.tup ds) ∨ s = .sh (.lst ds)
theorem ln_eq (s : Str) : ((s.length : Nat) : Int) = ln s := by
  unfold ln Str.length
  simp
theorem ln_le {s : Str} {n : Nat} (h : s.cps.toList.length ≤ n) : s.length ≤ n := by unfold Str.length; simpa using h
theorem glen_s {s : Str} (h : s.cps.toList.length ≤ 100000) : gLen [.str s] = some (.sh (.int (ln s))) := by
  rw [len_str (by have := ln_le h; omega), ln_eq]
theorem gmax_s (a b : Int) : gMax2 [.int a, .int b] = some (.sh (.int (max a b))) := by
  rw [max2_int]
  congr 3
  split <;> omega
theorem gmin_s (a b : Int) : gMin2 [.int a, .int b] = some (.sh (.int (min a b))) := by
  rw [min2_int]
  congr 3
  split <;> omega
section
variable {s0 s1 : Sl}
theorem core_c1 (A A2 : List Fw.D) (a lo hi L F La : Int) (s S : Str) (q : Bool) (MX MN GL : List Fw.D → Option ER) (AP : Fw.D → List Fw.D → Option (Fw.D × Fw.D)) (SL : Fw.D → Option Int → Option Int → Option ER)
    (h1 : MX [.int a, .int lo] = some (.sh (.int F))) (h2 : GL [.str s] = some (.sh (.int L))) (h3 : MN [.int (a + L), .int hi] = some (.sh (.int La))) (h4 : dLt (.int F) (.int La) = some (.sh (.bl q)))
    (h5 : q = true → SL (.str s) (some (F - a)) (some (La - a)) = some (.sh (.str S))) (h6 : AP (.lst A) [.tup [.int F, .str S]] = some (.lst A2, .non)) :
    turn (gT [gN 5, gN 6]) (sFg [5, 6, 7, 8] (sSeq (sSet 7 (eB MX [eVar 3, eVar 5])) (sSeq (sSet 8 (eB MN [e2 dAdd (eVar 3) (eB GL [eVar 4]), eVar 6])) (sIf (mB (e2 dLt (eVar 7) (eVar 8))) (sExpr (eMut 1 2 AP [eTup [eVar 7, eSl SL (eVar 4) (some (e2 dSub (eVar 7) (eVar 3))) (some (e2 dSub (eVar 8) (eVar 3)))]])) (sNil)))))
      (.tup [.int lo, .int hi]) [s0, s1, .ow (.lst A), .sh (.int a), .sh (.str s), .un, .un, .un, .un] = .nx [s0, s1, .ow (.lst (if q = true then A2 else A)), .sh (.int a), .sh (.str s), .un, .un, .un, .un] := by
  unfold turn
  cases q with
  | true =>
    have h5 := h5 rfl
    walk_at "ev"
  | false =>
    clear h5
    walk_at "ev"
theorem cut_turn (acc : List PT) (p : PT) (w : WT) (hl : acc.length < 900000) (hp : p.2.cps.toList.length ≤ 100000) :
    turn (gT [gN 5, gN 6]) f1_cut (rnD w) [s0, s1, .ow (.lst (acc.map itD)), .sh (.int p.1), .sh (.str p.2), .un, .un, .un, .un] = .nx [s0, s1, .ow (.lst ((acc ++ (cut1 p w).toList).map itD)), .sh (.int p.1), .sh (.str p.2), .un, .un, .un, .un] := by
  have h := core_c1 (s0 := s0) (s1 := s1) (acc.map itD) ((acc ++ [(max p.1 w.1, sub p.2 (max p.1 w.1 - p.1) (min (fin p) w.2 - p.1))]).map itD) p.1 w.1 w.2 (ln p.2) (max p.1 w.1) (min (fin p) w.2) p.2 (sub p.2 (max p.1 w.1 - p.1) (min (fin p) w.2 - p.1)) (decide (max p.1 w.1 < min (fin p) w.2)) gMax2 gMin2 gLen gAppend dSl
    (gmax_s _ _) (glen_s hp) (gmin_s _ _) rfl (fun _ => if_pos (by have := ln_le hp; omega)) (by
      rw [append_lst (by rw [List.length_map]; omega), List.map_append]
      rfl)
  have e : (if decide (max p.1 w.1 < min (fin p) w.2) = true then (acc ++ [(max p.1 w.1, sub p.2 (max p.1 w.1 - p.1) (min (fin p) w.2 - p.1))]).map itD else acc.map itD) = (acc ++ (cut1 p w).toList).map itD := by
    unfold cut1
    by_cases hc : max p.1 w.1 < min (fin p) w.2
    · rw [if_pos (decide_eq_true hc), if_pos hc]; rfl
    · rw [if_neg (by rw [decide_eq_false hc]; exact Bool.false_ne_true), if_neg hc]
      simp
  rw [e] at h
  exact h
theorem cut_in (B : SM) (hB : B = f1_cut ∨ B = stay 1 s1 f1_cut) (p : PT) (hp : p.2.cps.toList.length ≤ 100000) : ∀ (ws : List WT) (acc : List PT), acc.length + ws.length < 900000 →
    loop (gT [gN 5, gN 6]) B (ws.map rnD) [s0, s1, .ow (.lst (acc.map itD)), .sh (.int p.1), .sh (.str p.2), .un, .un, .un, .un] = .nx [s0, s1, .ow (.lst ((acc ++ ws.filterMap (cut1 p)).map itD)), .sh (.int p.1), .sh (.str p.2), .un, .un, .un, .un]
  | [], acc, _ => by rw [List.filterMap_nil, List.append_nil]; rfl
  | w :: ws, acc, hl => by
    rw [List.length_cons] at hl
    have t := cut_turn (s0 := s0) (s1 := s1) acc p w (by omega) hp
    have ih := cut_in B hB p hp ws (acc ++ (cut1 p w).toList) (by
      rw [List.length_append]
      have : (cut1 p w).toList.length ≤ 1 := by cases cut1 p w <;> simp
      omega)
    have e : acc ++ (cut1 p w).toList ++ ws.filterMap (cut1 p) = acc ++ (w :: ws).filterMap (cut1 p) := by
      rw [List.filterMap_cons, List.append_assoc]
      cases cut1 p w <;> rfl
    rw [e] at ih
    rw [List.map_cons, loop_turn]
    rcases hB with rfl | rfl
    · rw [t]; exact ih
    · rw [stay_turn t rfl]; exact ih
theorem core_c2 (W : List Fw.D) (hs : SeqS s1 W) (hW : W.length ≤ 1000000) (F : SM) (A A2 : List Fw.D) (a : Int) (s : Str)
    (h : ∀ B, (B = F ∨ B = stay 1 s1 F) → loop (gT [gN 5, gN 6]) B W [s0, s1, .ow (.lst A), .sh (.int a), .sh (.str s), .un, .un, .un, .un] = .nx [s0, s1, .ow (.lst A2), .sh (.int a), .sh (.str s), .un, .un, .un, .un]) :
    turn (gT [gN 3, gN 4]) (sFg [3, 4, 5, 6, 7, 8] (sFor (iSeq (eVar 1)) (gT [gN 5, gN 6]) F)) (.tup [.int a, .str s]) [s0, s1, .ow (.lst A), .un, .un, .un, .un, .un, .un] = .nx [s0, s1, .ow (.lst A2), .un, .un, .un, .un, .un, .un] := by
  have h1 := h F (.inl rfl)
  have h2 := h _ (.inr rfl)
  clear h
  unfold turn
  rcases hs with rfl | rfl | rfl <;> walk_at "ev"
theorem flat_len (p : PT) (ws : List WT) : (ws.filterMap (cut1 p)).length ≤ ws.length := List.length_filterMap_le _ _
theorem cut_out (B : SM) (hB : B = f2_cut ∨ B = stay 0 s0 f2_cut) (ws : List WT) (hs : SeqS s1 (ws.map rnD)) (hw : ws.length ≤ 800) : ∀ (ps : List PT) (acc : List PT), (∀ p ∈ ps, p.2.cps.toList.length ≤ 100000) → acc.length + ps.length * ws.length ≤ 800000 →
    loop (gT [gN 3, gN 4]) B (ps.map itD) [s0, s1, .ow (.lst (acc.map itD)), .un, .un, .un, .un, .un, .un] = .nx [s0, s1, .ow (.lst ((acc ++ cutF ps ws).map itD)), .un, .un, .un, .un, .un, .un]
  | [], acc, _, _ => by
    have : cutF [] ws = [] := rfl
    rw [this, List.append_nil]; rfl
  | p :: ps, acc, hp, hl => by
    rw [List.length_cons, Nat.add_mul, Nat.one_mul] at hl
    have hp0 := hp p List.mem_cons_self
    have t : turn (gT [gN 3, gN 4]) f2_cut (itD p) [s0, s1, .ow (.lst (acc.map itD)), .un, .un, .un, .un, .un, .un] = .nx [s0, s1, .ow (.lst ((acc ++ ws.filterMap (cut1 p)).map itD)), .un, .un, .un, .un, .un, .un] :=
      core_c2 (s0 := s0) (ws.map rnD) hs (by rw [List.length_map]; omega) f1_cut _ _ p.1 p.2 fun B hB => cut_in B hB p hp0 ws acc (by omega)
    have fl := flat_len p ws
    have ih := cut_out B hB ws hs hw ps (acc ++ ws.filterMap (cut1 p)) (fun q hq => hp q (List.mem_cons_of_mem _ hq)) (by rw [List.length_append]; omega)
    have e : acc ++ ws.filterMap (cut1 p) ++ cutF ps ws = acc ++ cutF (p :: ps) ws := by rw [List.append_assoc]; rfl
    rw [e] at ih
    rw [List.map_cons, loop_turn]
    rcases hB with rfl | rfl
    · rw [t]; exact ih
    · rw [stay_turn t rfl]; exact ih
theorem core_c3 (P : List Fw.D) (hs : SeqS s0 P) (hs1 : ∃ W, SeqS s1 W) (hP : P.length ≤ 1000000) (F : SM) (A2 : List Fw.D)
    (h : ∀ B, (B = F ∨ B = stay 0 s0 F) → loop (gT [gN 3, gN 4]) B P [s0, s1, .ow (.lst []), .un, .un, .un, .un, .un, .un] = .nx [s0, s1, .ow (.lst A2), .un, .un, .un, .un, .un, .un]) :
    defN 2 9 (sSeq (sSet 2 (eLst [])) (sSeq (sFor (iSeq (eVar 0)) (gT [gN 3, gN 4]) F) (sRet (eVar 2)))) [s0, s1] = .ok (.fr (.lst A2)) [] := by
  have h1 := h F (.inl rfl)
  have h2 := h _ (.inr rfl)
  clear h
  obtain ⟨W, hs1⟩ := hs1
  rcases hs with rfl | rfl | rfl <;> rcases hs1 with rfl | rfl | rfl <;> walk_at "ev"
theorem cut_ok {ps : List PT} {ws : List WT} (hs : SeqS s0 (ps.map itD)) (hs1 : SeqS s1 (ws.map rnD)) (hw : ws.length ≤ 800) (hp : ∀ p ∈ ps, p.2.cps.toList.length ≤ 100000) (hl : ps.length * ws.length ≤ 800000) (hl2 : ps.length ≤ 800000) :
    m_cut [s0, s1] = .ok (.fr (.lst ((cutF ps ws).map itD))) [] :=
  core_c3 (ps.map itD) hs ⟨_, hs1⟩ (by rw [List.length_map]; omega) f2_cut _ fun B hB => cut_out B hB ws hs1 hw ps [] hp (by rw [List.length_nil]; omega)
/-! what lacks -/
theorem core_l1 (A A2 : List Fw.D) (at' lo hi L : Int) (s : Str) (q1 q2 q3 q4 : Bool) (GL : List Fw.D → Option ER) (AP : Fw.D → List Fw.D → Option (Fw.D × Fw.D))
    (h1 : dLt (.int lo) (.int at') = some (.sh (.bl q1))) (h2 : dLt (.int at') (.int hi) = some (.sh (.bl q2))) (h3 : GL [.str s] = some (.sh (.int L))) (h4 : dLt (.int lo) (.int (at' + L)) = some (.sh (.bl q3)))
    (h6 : AP (.lst A) [.tup [.int lo, .int at']] = some (.lst A2, .non)) :
    turn (gT [gN 5, gN 6]) (sFg [5, 6] (sSeq (sIf (mB (eChain dLt dLt (eVar 3) (eVar 5) (eVar 4))) (sExpr (eMut 1 2 AP [eTup [eVar 3, eVar 5]])) (sNil)) (sIf (mAnd (mB (e2 dLt (eVar 5) (eVar 4))) (mB (e2 dLt (eVar 3) (e2 dAdd (eVar 5) (eB GL [eVar 6]))))) (sSet 3 (e2 dAdd (eVar 5) (eB GL [eVar 6]))) (sNil))))
      (.tup [.int at', .str s]) [s0, s1, .ow (.lst A), .sh (.int lo), .sh (.int hi), .un, .un] = .nx [s0, s1, .ow (.lst (if (q1 && q2) = true then A2 else A)), .sh (.int (if (q2 && q3) = true then at' + L else lo)), .sh (.int hi), .un, .un] := by
  unfold turn
  cases q1 <;> cases q2 <;> cases q3 <;> walk_at "ev"
def lackSt (hi : Int) (st : List WT × Int) (p : PT) : List WT × Int := (st.1 ++ (if st.2 < p.1 ∧ p.1 < hi then [(st.2, p.1)] else []), if p.1 < hi ∧ st.2 < fin p then fin p else st.2)
theorem lack_turn (acc : List WT) (lo hi : Int) (p : PT) (hl : acc.length < 900000) (hp : p.2.cps.toList.length ≤ 100000) :
    turn (gT [gN 5, gN 6]) f1_lacking (itD p) [s0, s1, .ow (.lst (acc.map rnD)), .sh (.int lo), .sh (.int hi), .un, .un] = .nx [s0, s1, .ow (.lst ((lackSt hi (acc, lo) p).1.map rnD)), .sh (.int (lackSt hi (acc, lo) p).2), .sh (.int hi), .un, .un] := by
  have h := core_l1 (s0 := s0) (s1 := s1) (acc.map rnD) ((acc ++ [(lo, p.1)]).map rnD) p.1 lo hi (ln p.2) p.2 (decide (lo < p.1)) (decide (p.1 < hi)) (decide (lo < fin p)) true gLen gAppend rfl rfl (glen_s hp) rfl (by
    rw [append_lst (by rw [List.length_map]; omega), List.map_append]
    rfl)
  have e1 : (if (decide (lo < p.1) && decide (p.1 < hi)) = true then (acc ++ [(lo, p.1)]).map rnD else acc.map rnD) = (lackSt hi (acc, lo) p).1.map rnD := by
    show _ = (acc ++ (if lo < p.1 ∧ p.1 < hi then [(lo, p.1)] else [])).map rnD
    rw [← Bool.decide_and]
    by_cases c : lo < p.1 ∧ p.1 < hi
    · rw [if_pos (decide_eq_true c), if_pos c]
    · rw [if_neg (by rw [decide_eq_false c]; exact Bool.false_ne_true), if_neg c, List.append_nil]
  have e2' : (if (decide (p.1 < hi) && decide (lo < fin p)) = true then p.1 + ln p.2 else lo) = (lackSt hi (acc, lo) p).2 := by
    show _ = (if p.1 < hi ∧ lo < fin p then fin p else lo)
    rw [← Bool.decide_and]
    by_cases c : p.1 < hi ∧ lo < fin p
    · rw [if_pos (decide_eq_true c), if_pos c]; rfl
    · rw [if_neg (by rw [decide_eq_false c]; exact Bool.false_ne_true), if_neg c]
  rw [e1, e2'] at h
  exact h
theorem lackSt_len (hi : Int) (st : List WT × Int) (p : PT) : (lackSt hi st p).1.length ≤ st.1.length + 1 := by
  unfold lackSt
  rw [List.length_append]
  split <;> simp
theorem lack_in (B : SM) (hB : B = f1_lacking ∨ B = stay 1 s1 f1_lacking) (hi : Int) : ∀ (ps : List PT) (acc : List WT) (lo : Int), (∀ p ∈ ps, p.2.cps.toList.length ≤ 100000) → acc.length + ps.length < 900000 →
    loop (gT [gN 5, gN 6]) B (ps.map itD) [s0, s1, .ow (.lst (acc.map rnD)), .sh (.int lo), .sh (.int hi), .un, .un] = .nx [s0, s1, .ow (.lst ((ps.foldl (lackSt hi) (acc, lo)).1.map rnD)), .sh (.int (ps.foldl (lackSt hi) (acc, lo)).2), .sh (.int hi), .un, .un]
  | [], acc, lo, _, _ => rfl
  | p :: ps, acc, lo, hp, hl => by
    rw [List.length_cons] at hl
    have t := lack_turn (s0 := s0) (s1 := s1) acc lo hi p (by omega) (hp p List.mem_cons_self)
    have sl := lackSt_len hi (acc, lo) p
    have sl2 : (acc, lo).1.length = acc.length := rfl
    have ih := lack_in B hB hi ps (lackSt hi (acc, lo) p).1 (lackSt hi (acc, lo) p).2 (fun q hq => hp q (List.mem_cons_of_mem _ hq)) (by omega)
    rw [List.map_cons, loop_turn]
    rcases hB with rfl | rfl
    · rw [t]; exact ih
    · rw [stay_turn t rfl]; exact ih
theorem lack_fold (hi : Int) : ∀ (ps : List PT) (acc : List WT) (lo : Int), (ps.foldl (lackSt hi) (acc, lo)).1 ++ (if (ps.foldl (lackSt hi) (acc, lo)).2 < hi then [((ps.foldl (lackSt hi) (acc, lo)).2, hi)] else []) = acc ++ lackGo hi ps lo
  | [], acc, lo => rfl
  | p :: ps, acc, lo => by
    have ih := lack_fold hi ps (lackSt hi (acc, lo) p).1 (lackSt hi (acc, lo) p).2
    rw [List.foldl_cons]
    refine ih.trans ?_
    show acc ++ (if lo < p.1 ∧ p.1 < hi then [(lo, p.1)] else []) ++ lackGo hi ps (if p.1 < hi ∧ lo < fin p then fin p else lo) = acc ++ ((if lo < p.1 ∧ p.1 < hi then [(lo, p.1)] else []) ++ lackGo hi ps (if p.1 < hi ∧ lo < fin p then fin p else lo))
    rw [List.append_assoc]
theorem fold_len (hi : Int) : ∀ (ps : List PT) (st : List WT × Int), (ps.foldl (lackSt hi) st).1.length ≤ st.1.length + ps.length
  | [], st => Nat.le_refl _
  | p :: ps, st => by
    have := fold_len hi ps (lackSt hi st p)
    have := lackSt_len hi st p
    rw [List.foldl_cons, List.length_cons]
    omega
theorem core_l2 (P : List Fw.D) (hs : SeqS s1 P) (hP : P.length ≤ 1000000) (F : SM) (AP : Fw.D → List Fw.D → Option (Fw.D × Fw.D)) (A A2 A3 : List Fw.D) (lo lo2 hi : Int) (q : Bool)
    (h : ∀ B, (B = F ∨ B = stay 1 s1 F) → loop (gT [gN 5, gN 6]) B P [s0, s1, .ow (.lst A), .sh (.int lo), .sh (.int hi), .un, .un] = .nx [s0, s1, .ow (.lst A2), .sh (.int lo2), .sh (.int hi), .un, .un])
    (h2 : dLt (.int lo2) (.int hi) = some (.sh (.bl q))) (h3 : AP (.lst A2) [.tup [.int lo2, .int hi]] = some (.lst A3, .non)) :
    turn (gT [gN 3, gN 4]) (sFg [3, 4, 5, 6] (sSeq (sFor (iSeq (eVar 1)) (gT [gN 5, gN 6]) F) (sIf (mB (e2 dLt (eVar 3) (eVar 4))) (sExpr (eMut 1 2 AP [eTup [eVar 3, eVar 4]])) (sNil)))) (.tup [.int lo, .int hi]) [s0, s1, .ow (.lst A), .un, .un, .un, .un] = .nx [s0, s1, .ow (.lst (if q = true then A3 else A2)), .un, .un, .un, .un] := by
  have h1 := h F (.inl rfl)
  have h4 := h _ (.inr rfl)
  clear h
  unfold turn
  rcases hs with rfl | rfl | rfl <;> cases q <;> walk_at "ev"
theorem lack_turn2 {ps : List PT} (hs : SeqS s1 (ps.map itD)) (hp : ∀ p ∈ ps, p.2.cps.toList.length ≤ 100000) (hl0 : ps.length ≤ 800) (acc : List WT) (w : WT) (hl : acc.length + ps.length + 1 < 900000) :
    turn (gT [gN 3, gN 4]) f2_lacking (rnD w) [s0, s1, .ow (.lst (acc.map rnD)), .un, .un, .un, .un] = .nx [s0, s1, .ow (.lst ((acc ++ lackGo w.2 ps w.1).map rnD)), .un, .un, .un, .un] := by
  have fl := fold_len w.2 ps (acc, w.1)
  have fl2 : (acc, w.1).1.length = acc.length := rfl
  have h := core_l2 (s0 := s0) (ps.map itD) hs (by rw [List.length_map]; omega) f1_lacking gAppend (acc.map rnD) _ (((ps.foldl (lackSt w.2) (acc, w.1)).1 ++ [((ps.foldl (lackSt w.2) (acc, w.1)).2, w.2)]).map rnD) w.1 _ w.2 _ (fun B hB => lack_in B hB w.2 ps acc w.1 hp (by omega)) rfl (by
    rw [append_lst (by rw [List.length_map]; omega), List.map_append]
    rfl)
  have e : (if decide ((ps.foldl (lackSt w.2) (acc, w.1)).2 < w.2) = true then ((ps.foldl (lackSt w.2) (acc, w.1)).1 ++ [((ps.foldl (lackSt w.2) (acc, w.1)).2, w.2)]).map rnD else (ps.foldl (lackSt w.2) (acc, w.1)).1.map rnD) = (acc ++ lackGo w.2 ps w.1).map rnD := by
    rw [← lack_fold w.2 ps acc w.1]
    by_cases c : (ps.foldl (lackSt w.2) (acc, w.1)).2 < w.2
    · rw [if_pos (decide_eq_true c), if_pos c]
    · rw [if_neg (by rw [decide_eq_false c]; exact Bool.false_ne_true), if_neg c, List.append_nil]
  rw [e] at h
  exact h
theorem lackGo_len (hi : Int) : ∀ (ps : List PT) (lo : Int), (lackGo hi ps lo).length ≤ ps.length + 1
  | [], lo => by unfold lackGo; split <;> simp
  | p :: ps, lo => by
    unfold lackGo
    have := lackGo_len hi ps (if p.1 < hi ∧ lo < fin p then fin p else lo)
    rw [List.length_append, List.length_cons]
    have : (if lo < p.1 ∧ p.1 < hi then [(lo, p.1)] else []).length ≤ 1 := by split <;> simp
    omega
theorem lackF_len (ps : List PT) : ∀ (ws : List WT), (lackF ws ps).length ≤ ws.length * (ps.length + 1)
  | [] => Nat.zero_le _
  | w :: ws => by
    have := lackF_len ps ws
    have := lackGo_len w.2 ps w.1
    have e : lackF (w :: ws) ps = lackGo w.2 ps w.1 ++ lackF ws ps := rfl
    rw [e, List.length_append, List.length_cons, Nat.add_mul, Nat.one_mul]
    omega
theorem lack_out (B : SM) (hB : B = f2_lacking ∨ B = stay 0 s0 f2_lacking) (ps : List PT) (hs : SeqS s1 (ps.map itD)) (hp : ∀ p ∈ ps, p.2.cps.toList.length ≤ 100000) (hl0 : ps.length ≤ 800) : ∀ (ws : List WT) (acc : List WT), acc.length + ws.length * (ps.length + 1) ≤ 800000 →
    loop (gT [gN 3, gN 4]) B (ws.map rnD) [s0, s1, .ow (.lst (acc.map rnD)), .un, .un, .un, .un] = .nx [s0, s1, .ow (.lst ((acc ++ lackF ws ps).map rnD)), .un, .un, .un, .un]
  | [], acc, _ => by
    have : lackF [] ps = [] := rfl
    rw [this, List.append_nil]; rfl
  | w :: ws, acc, hl => by
    rw [List.length_cons, Nat.add_mul, Nat.one_mul] at hl
    have t := lack_turn2 (s0 := s0) hs hp hl0 acc w (by omega)
    have fl := lackGo_len w.2 ps w.1
    have ih := lack_out B hB ps hs hp hl0 ws (acc ++ lackGo w.2 ps w.1) (by rw [List.length_append]; omega)
    have e : acc ++ lackGo w.2 ps w.1 ++ lackF ws ps = acc ++ lackF (w :: ws) ps := by rw [List.append_assoc]; rfl
    rw [e] at ih
    rw [List.map_cons, loop_turn]
    rcases hB with rfl | rfl
    · rw [t]; exact ih
    · rw [stay_turn t rfl]; exact ih
theorem core_l3 (P : List Fw.D) (hs : SeqS s0 P) (hs1 : ∃ W, SeqS s1 W) (hP : P.length ≤ 1000000) (F : SM) (A2 : List Fw.D)
    (h : ∀ B, (B = F ∨ B = stay 0 s0 F) → loop (gT [gN 3, gN 4]) B P [s0, s1, .ow (.lst []), .un, .un, .un, .un] = .nx [s0, s1, .ow (.lst A2), .un, .un, .un, .un]) :
    defN 2 7 (sSeq (sSet 2 (eLst [])) (sSeq (sFor (iSeq (eVar 0)) (gT [gN 3, gN 4]) F) (sRet (eVar 2)))) [s0, s1] = .ok (.fr (.lst A2)) [] := by
  have h1 := h F (.inl rfl)
  have h2 := h _ (.inr rfl)
  clear h
  obtain ⟨W, hs1⟩ := hs1
  rcases hs with rfl | rfl | rfl <;> rcases hs1 with rfl | rfl | rfl <;> walk_at "ev"
theorem lack_ok {ps : List PT} {ws : List WT} (hs : SeqS s0 (ws.map rnD)) (hs1 : SeqS s1 (ps.map itD)) (hl0 : ps.length ≤ 800) (hp : ∀ p ∈ ps, p.2.cps.toList.length ≤ 100000) (hl : ws.length * (ps.length + 1) ≤ 800000) (hl2 : ws.length ≤ 800000) :
    m_lacking [s0, s1] = .ok (.fr (.lst ((lackF ws ps).map rnD))) [] :=
  core_l3 (ws.map rnD) hs ⟨_, hs1⟩ (by rw [List.length_map]; omega) f2_lacking _ fun B hB => lack_out B hB ps hs1 hp hl0 ws [] (by rw [List.length_nil]; omega)
end
end Law
set_option linter.all false
set_option maxRecDepth 100000
set_option Elab.async false
namespace Law
open PySem Fw
local macro_rules | `(tactic| walk_at "ev") => `(tactic| simp only [Fw.defN, Fw.defX, Fw.arity_ap, Fw.mkN_ap, Fw.mkF_ap, Fw.eC_ap, Fw.eVar_ap, Fw.e2_ap, Fw.op2_ap, Fw.cur_sh, Fw.cur_fr, Fw.cur_bo, Fw.e1_ap, Fw.eA_nil, Fw.eA_cons, Fw.eB_ap, Fw.curs_nil, Fw.curs_cons, Fw.eTup_ap, Fw.eLst_ap, Fw.shrs_nil, Fw.shrs_cons, Fw.shr_sh, Fw.shr_fr, Fw.shr_bo, Fw.eF_ap, Fw.callM_ap, Fw.sSeq_ap, Fw.sSet_ap, Fw.then_ok, Fw.put_ap, Fw.sExpr_ap, Fw.sRet_ap, Fw.retR_sh, Fw.retR_fr, Fw.retR_bo, Fw.sIf_ap, Fw.mB_ap, Fw.toB_bl, Fw.mT_ap, Fw.mAnd_ap, Fw.mOr_ap, Fw.mNot_ap, Fw.eAnd_ap, Fw.eOr_ap, Fw.eNot_ap, Fw.eIf_ap, Fw.eChain_ap, Fw.sNil_ap, Fw.sFg_ap, Fw.wipeE_nil, Fw.wipeE_cons, Fw.eMut_ap, Fw.eMetS_ap, Fw.afterF, Fw.toF, Fw.sAsg_ap, Fw.R.bind_ok, Fw.R.bind_exc, Fw.R.bind_bad, Fw.R.then,
  List.length_cons, List.length_nil, List.cons_append, List.nil_append, List.append_nil, List.replicate_succ, List.replicate_zero, List.getElem?_cons_zero, List.getElem?_cons_succ, List.set_cons_zero, List.set_cons_succ, Option.bind_some, Option.bind_none, Fw.dat_sh, Fw.dat_ow, Fw.dat_pn, Fw.dat_lk, Fw.pn_un, Fw.pn_sh, Fw.pn_ow, Fw.mu_ow, Fw.mu_pn, Fw.own_ow, Fw.own_pn, Fw.own_lk, Fw.lock_ow, Fw.lock_pnT, Fw.lock_pnF, Fw.lock_lk, Fw.with_ow, Fw.with_pn, if_true, if_false, Bool.false_eq_true, Bool.true_eq_false, ite_true, ite_false, reduceIte,
  Fw.ix_lst, Fw.ix_rol, Fw.ix_tup, Fw.ix_rot, Fw.at0, Fw.at1, Fw.at2, Fw.at3, Fw.at4, Fw.atm1, Fw.add_int, Fw.add_lst, Fw.add_tup, Fw.add_str, Fw.sub_int, Fw.mul_mod, Fw.mul_r, Fw.mul_l, Fw.div_int, Fw.mod_int, Fw.p10_8, Fw.p10_18, Fw.pow_int, Fw.neg_int, Fw.cmp_int, Fw.is_non, Fw.isnot_non, Fw.isNon_non, Fw.isNon_int, Fw.isNon_str, Fw.isNon_lst, Fw.isNon_tup, Fw.eq_int, Fw.ne_int, Fw.eq_str, Fw.ne_str, Fw.len_lst, Fw.len_rol, Fw.len_tup, Fw.len_str, Fw.max2_int, Fw.min2_int, Fw.int_int, Fw.int_bl, Fw.list_lst, Fw.list_tup, Fw.tuple_lst, Fw.tuple_tup, Fw.append_lst, Fw.tru_bl, Fw.tru_lst, Fw.sl_rol, Fw.sl_lst,
  Fw.cellAt_ap, Fw.kind_lst, Fw.putD_ap, Fw.sPut_ap, Fw.putAt_ap, Fw.set_last, Fw.set0, Fw.set1, Fw.set2, Fw.pass_nil, Fw.pass_n, Fw.pass_c, Fw.passArg_sh, Fw.passArg_fr, Fw.passArg_boF, Fw.passArg_boT, Fw.ioOk_n, Fw.ioOk_nil, Fw.ioOk_bo, Fw.ioOk_sh, Fw.ioOk_fr, Fw.bo_nil, Fw.bo_bo, Fw.bo_sh, Fw.bo_fr, Fw.io_n, Fw.io_nil, Fw.io_T, Fw.io_F, Fw.outs_nil, Fw.outs_T, Fw.outs_F, Fw.outs_sh, Fw.putOuts_nil, Fw.putOuts_cons, Fw.gN_ap, Fw.gT_tup, Fw.gAll_nil, Fw.gAll_cons, Fw.sFor_ap, Fw.eLc_ap, Fw.back_nx, Fw.back_rt, Fw.iSeq_ap, Fw.seq_lst, Fw.seq_tup, Fw.iB_ap, Fw.yes_ap, Fw.eSl_ap, Fw.part_none, Fw.part_some, Fw.partR_int, Fw.rest_nil, Fw.rest_cons, Fw.keep_sh, Fw.keep_un, Fw.keep_none,
  List.map_nil, List.map_cons, List.contains_nil, List.contains_cons, Bool.not_false, Bool.not_true, Bool.and_self, Bool.and_true, Bool.true_and, Bool.false_and, Bool.and_false, Bool.or_true, Bool.true_or, Bool.or_false, Bool.false_or, Nat.reduceAdd, Nat.reduceSub, Nat.reduceEqDiff, Nat.reduceBEq, decide_true, decide_false, Int.reduceLT, Int.reduceLE, Int.reduceNeg, Int.reducePow, Int.reduceToNat, Nat.reducePow, Nat.reduceLT, Nat.reduceLeDiff, and_true, true_and, and_self, not_true_eq_false, not_false_eq_true,
  Fw.eNew_ap, Fw.newOf_ap, Fw.gU_lst, Fw.gTU_lst, Fw.gTU_tup, Fw.sAsg2_ap, Fw.rev_lst, Fw.rev_rol, Fw.eFf_ap, Fw.eDict0_ap, Fw.iS_ap, Fw.sRetN_ap, Fw.sPass_ap, Fw.sBreak_ap, Fw.sCont_ap, Fw.i_and, Fw.i_or, Fw.i_andE, Fw.i_orE, Fw.i_int, Fw.i_str, Fw.at5, Fw.at6, Fw.at7, Fw.at8, Fw.at9, Fw.at10, Fw.at11, Fw.at12, Fw.at13, Fw.at14, Fw.at15, Fw.at16, Fw.at17, Fw.at18, Fw.at19, Fw.at20, Fw.at21, Fw.at22, Fw.at23, Fw.at24, Fw.eFK_ap, Fw.permM_cons, Fw.pick_nil, Fw.pick_cons, Fw.noT_sh, Fw.noT_pn, Fw.inB_def, Fw.eMeth_ap, Fw.eMk_ap, Fw.popN_ok, Fw.popN_exc, Fw.sRaise_ap, Fw.sTry_ap, Fw.eXf_ap, Fw.lookX_ap, Fw.endS_nx, Fw.endS_rt, Fw.isX_ty, Fw.isX_cl, Fw.isX_tup, Fw.then_exc, true_or, or_false, or_true, List.lookup_cons, List.lookup_nil, List.take_zero, List.take_succ_cons, List.drop_zero, List.drop_succ_cons, List.all_cons, List.all_nil, List.dropLast_cons₂, List.dropLast_singleton, _root_.eq_self, Nat.reduceBEq, Nat.zero_add, Nat.reduceLeDiff, Nat.sub_self, Nat.lt_irrefl, Nat.add_zero, Fw.lc_nil, Fw.lc_consN, Fw.loop_nil, Fw.loop_cons, Fw.rng1_1, Fw.rng1_2, Fw.rng1_3, Fw.rng1_4, Fw.rng1_5, Fw.rng1_6, Fw.rng1_7, Fw.rng1_8, Fw.rng1_9, Fw.rng1_10, Fw.rng1_11, Fw.rng1_12, Fw.rng2_3_8, Fw.rng2_3_6, Fw.rng2_1_3, Fw.rng2_1_4, Fw.rng2_2_5, Fw.sPar_ap, Fw.eP_nil, Fw.eP_cons, Fw.nrm_sh, Fw.nrm_fr, Fw.nrm_bo, Fw.puts_nil, Fw.puts_cons, Fw.put1_sh, Fw.put1_fr, Fw.eMetL_ap, Fw.isLst_lst, Fw.kind_dk, Fw.eGet1_ap, Fw.eGet2_ap, Fw.getK_ap, Fw.dkAt_ap, Fw.shOf_sh, Fw.key_str, Fw.key_int, Fw.in2_str, Fw.nin2_str, Option.getD_some, Option.getD_none, Option.isSome_some, Option.isSome_none, *])
local macro_rules | `(tactic| walk_at "e0") => `(tactic| simp only [Fw.defN, Fw.defX, Fw.arity_ap, Fw.mkN_ap, Fw.mkF_ap, Fw.eC_ap, Fw.eVar_ap, Fw.e2_ap, Fw.op2_ap, Fw.cur_sh, Fw.cur_fr, Fw.cur_bo, Fw.e1_ap, Fw.eA_nil, Fw.eA_cons, Fw.eB_ap, Fw.curs_nil, Fw.curs_cons, Fw.eTup_ap, Fw.eLst_ap, Fw.shrs_nil, Fw.shrs_cons, Fw.shr_sh, Fw.shr_fr, Fw.shr_bo, Fw.eF_ap, Fw.callM_ap, Fw.sSeq_ap, Fw.sSet_ap, Fw.then_ok, Fw.put_ap, Fw.sExpr_ap, Fw.sRet_ap, Fw.retR_sh, Fw.retR_fr, Fw.retR_bo, Fw.sIf_ap, Fw.mB_ap, Fw.toB_bl, Fw.mT_ap, Fw.mAnd_ap, Fw.mOr_ap, Fw.mNot_ap, Fw.eAnd_ap, Fw.eOr_ap, Fw.eNot_ap, Fw.eIf_ap, Fw.eChain_ap, Fw.sNil_ap, Fw.sFg_ap, Fw.wipeE_nil, Fw.wipeE_cons, Fw.eMut_ap, Fw.eMetS_ap, Fw.afterF, Fw.toF, Fw.sAsg_ap, Fw.R.bind_ok, Fw.R.bind_exc, Fw.R.bind_bad, Fw.R.then,
  List.length_cons, List.length_nil, List.cons_append, List.nil_append, List.append_nil, List.replicate_succ, List.replicate_zero, List.getElem?_cons_zero, List.getElem?_cons_succ, List.set_cons_zero, List.set_cons_succ, Option.bind_some, Option.bind_none, Fw.dat_sh, Fw.dat_ow, Fw.dat_pn, Fw.dat_lk, Fw.pn_un, Fw.pn_sh, Fw.pn_ow, Fw.mu_ow, Fw.mu_pn, Fw.own_ow, Fw.own_pn, Fw.own_lk, Fw.lock_ow, Fw.lock_pnT, Fw.lock_pnF, Fw.lock_lk, Fw.with_ow, Fw.with_pn, if_true, if_false, Bool.false_eq_true, Bool.true_eq_false, ite_true, ite_false, reduceIte,
  Fw.ix_lst, Fw.ix_rol, Fw.ix_tup, Fw.ix_rot, Fw.at0, Fw.at1, Fw.at2, Fw.at3, Fw.at4, Fw.atm1, Fw.add_int, Fw.add_lst, Fw.add_tup, Fw.add_str, Fw.sub_int, Fw.mul_mod, Fw.mul_r, Fw.mul_l, Fw.div_int, Fw.mod_int, Fw.p10_8, Fw.p10_18, Fw.pow_int, Fw.neg_int, Fw.cmp_int, Fw.is_non, Fw.isnot_non, Fw.isNon_non, Fw.isNon_int, Fw.isNon_str, Fw.isNon_lst, Fw.isNon_tup, Fw.eq_int, Fw.ne_int, Fw.eq_str, Fw.ne_str, Fw.len_lst, Fw.len_rol, Fw.len_tup, Fw.len_str, Fw.max2_int, Fw.min2_int, Fw.int_int, Fw.int_bl, Fw.list_lst, Fw.list_tup, Fw.tuple_lst, Fw.tuple_tup, Fw.append_lst, Fw.tru_bl, Fw.tru_lst, Fw.sl_rol, Fw.sl_lst,
  Fw.cellAt_ap, Fw.kind_lst, Fw.putD_ap, Fw.sPut_ap, Fw.putAt_ap, Fw.set_last, Fw.set0, Fw.set1, Fw.set2, Fw.pass_nil, Fw.pass_n, Fw.pass_c, Fw.passArg_sh, Fw.passArg_fr, Fw.passArg_boF, Fw.passArg_boT, Fw.ioOk_n, Fw.ioOk_nil, Fw.ioOk_bo, Fw.ioOk_sh, Fw.ioOk_fr, Fw.bo_nil, Fw.bo_bo, Fw.bo_sh, Fw.bo_fr, Fw.io_n, Fw.io_nil, Fw.io_T, Fw.io_F, Fw.outs_nil, Fw.outs_T, Fw.outs_F, Fw.outs_sh, Fw.putOuts_nil, Fw.putOuts_cons, Fw.gN_ap, Fw.gT_tup, Fw.gAll_nil, Fw.gAll_cons, Fw.sFor_ap, Fw.eLc_ap, Fw.back_nx, Fw.back_rt, Fw.iSeq_ap, Fw.seq_lst, Fw.seq_tup, Fw.iB_ap, Fw.yes_ap, Fw.eSl_ap, Fw.part_none, Fw.part_some, Fw.partR_int, Fw.rest_nil, Fw.rest_cons, Fw.keep_sh, Fw.keep_un, Fw.keep_none,
  List.map_nil, List.map_cons, List.contains_nil, List.contains_cons, Bool.not_false, Bool.not_true, Bool.and_self, Bool.and_true, Bool.true_and, Bool.false_and, Bool.and_false, Bool.or_true, Bool.true_or, Bool.or_false, Bool.false_or, Nat.reduceAdd, Nat.reduceSub, Nat.reduceEqDiff, Nat.reduceBEq, decide_true, decide_false, Int.reduceLT, Int.reduceLE, Int.reduceNeg, Int.reducePow, Int.reduceToNat, Nat.reducePow, Nat.reduceLT, Nat.reduceLeDiff, and_true, true_and, and_self, not_true_eq_false, not_false_eq_true,
  Fw.eNew_ap, Fw.newOf_ap, Fw.gU_lst, Fw.gTU_lst, Fw.gTU_tup, Fw.sAsg2_ap, Fw.rev_lst, Fw.rev_rol, Fw.eFf_ap, Fw.eDict0_ap, Fw.iS_ap, Fw.sRetN_ap, Fw.sPass_ap, Fw.sBreak_ap, Fw.sCont_ap, Fw.i_and, Fw.i_or, Fw.i_andE, Fw.i_orE, Fw.i_int, Fw.i_str, Fw.at5, Fw.at6, Fw.at7, Fw.at8, Fw.at9, Fw.at10, Fw.at11, Fw.at12, Fw.at13, Fw.at14, Fw.at15, Fw.at16, Fw.at17, Fw.at18, Fw.at19, Fw.at20, Fw.at21, Fw.at22, Fw.at23, Fw.at24, Fw.eFK_ap, Fw.permM_cons, Fw.pick_nil, Fw.pick_cons, Fw.noT_sh, Fw.noT_pn, Fw.inB_def, Fw.eMeth_ap, Fw.eMk_ap, Fw.popN_ok, Fw.popN_exc, Fw.sRaise_ap, Fw.sTry_ap, Fw.eXf_ap, Fw.lookX_ap, Fw.endS_nx, Fw.endS_rt, Fw.isX_ty, Fw.isX_cl, Fw.isX_tup, Fw.then_exc, true_or, or_false, or_true, List.lookup_cons, List.lookup_nil, List.take_zero, List.take_succ_cons, List.drop_zero, List.drop_succ_cons, List.all_cons, List.all_nil, List.dropLast_cons₂, List.dropLast_singleton, _root_.eq_self, Nat.reduceBEq, Nat.zero_add, Nat.reduceLeDiff, Nat.sub_self, Nat.lt_irrefl, Nat.add_zero, Fw.lc_nil, Fw.lc_consN, Fw.loop_nil, Fw.loop_cons, Fw.rng1_1, Fw.rng1_2, Fw.rng1_3, Fw.rng1_4, Fw.rng1_5, Fw.rng1_6, Fw.rng1_7, Fw.rng1_8, Fw.rng1_9, Fw.rng1_10, Fw.rng1_11, Fw.rng1_12, Fw.rng2_3_8, Fw.rng2_3_6, Fw.rng2_1_3, Fw.rng2_1_4, Fw.rng2_2_5, Fw.sPar_ap, Fw.eP_nil, Fw.eP_cons, Fw.nrm_sh, Fw.nrm_fr, Fw.nrm_bo, Fw.puts_nil, Fw.puts_cons, Fw.put1_sh, Fw.put1_fr, Fw.eMetL_ap, Fw.isLst_lst, Fw.kind_dk, Fw.eGet1_ap, Fw.eGet2_ap, Fw.getK_ap, Fw.dkAt_ap, Fw.shOf_sh, Fw.key_str, Fw.key_int, Fw.in2_str, Fw.nin2_str, Option.getD_some, Option.getD_none, Option.isSome_some, Option.isSome_none])
local macro_rules | `(tactic| walk_at "go") => `(tactic| repeat' (first | done | rfl | (walk_at "ev"; done) | (split <;> try walk_at "ev")))
section
variable {s0 s1 : Sl}
/-! the places of parts -/
theorem x1j_core (a b S2 S3 : Sl) (at' L : Int) (s : Str) (GL : List Fw.D → Option ER) (h : GL [.str s] = some (.sh (.int L))) : (eTup [eVar 4, e2 dAdd (eVar 4) (eB GL [eVar 5])]) [a, b, S2, S3, .sh (.int at'), .sh (.str s)] = .ok (.sh (.tup [.int at', .int (at' + L)])) [a, b, S2, S3, .sh (.int at'), .sh (.str s)] := by
  walk_at "ev"
theorem core_j1 (P Q : List Fw.D) (hs : SeqS s1 P) (hP : P.length ≤ 1000000) (X : M ER) (h : ∀ c, (c = none ∨ c = some (1, s1)) → lcLoop c [4, 5] (gT [gN 4, gN 5]) mYes X P [s0, s1, .un, .un, .un, .un] = some (Q, [s0, s1, .un, .un, .un, .un])) :
    (eLc (iSeq (eVar 1)) [4, 5] (gT [gN 4, gN 5]) (mYes) X) [s0, s1, .un, .un, .un, .un] = .ok (.fr (.lst Q)) [s0, s1, .un, .un, .un, .un] := by
  have h1 := h _ (.inl rfl)
  have h2 := h _ (.inr rfl)
  have hm : ¬ 1 ∈ [4, 5] := by decide
  clear h
  rcases hs with rfl | rfl | rfl <;> walk_at "ev"
theorem c1_joined_ok {ps : List PT} (hs : SeqS s1 (ps.map itD)) (hp : ∀ p ∈ ps, p.2.cps.toList.length ≤ 100000) (hl : ps.length ≤ 800000) : c1_joined [s0, s1, .un, .un, .un, .un] = .ok (.fr (.lst ((places ps).map rnD))) [s0, s1, .un, .un, .un, .un] := by
  refine core_j1 (ps.map itD) _ hs (by rw [List.length_map]; omega) x1_joined fun c hc => ?_
  have h := lc_map (c := c) (own := [4, 5]) (g := gT [gN 4, gN 5]) (tt := mYes) (elt := x1_joined) (en := [s0, s1, .un, .un, .un, .un]) itD (fun _ => true) (fun p => rnD (p.1, fin p)) (fun j t e => by
    rcases hc with rfl | rfl
    · cases e
    · cases e; rfl) ps (fun p hm => by
    refine ⟨[s0, s1, .un, .un, .sh (.int p.1), .sh (.str p.2)], [s0, s1, .un, .un, .sh (.int p.1), .sh (.str p.2)], rfl, rfl, ?_⟩
    rw [if_pos rfl]
    exact ⟨.sh (rnD (p.1, fin p)), [s0, s1, .un, .un, .sh (.int p.1), .sh (.str p.2)], [s0, s1, .un, .un, .sh (.int p.1), .sh (.str p.2)], x1j_core s0 s1 .un .un p.1 (ln p.2) p.2 gLen (glen_s (hp p hm)), rfl, rfl⟩)
  rw [List.filter_eq_self.mpr (fun _ _ => rfl)] at h
  have e : (places ps).map rnD = ps.map (fun p => rnD (p.1, fin p)) := by unfold places; rw [List.map_map]; rfl
  rw [e]
  exact h
/-! one piece put to the others -/
theorem at_last (X : List Fw.D) (d : Fw.D) : dIx (.lst (X ++ [d])) (.int (-1)) = some (.sh d) := by
  have h : L2.atI (X ++ [d]) (-1) = some d := by
    have hx : L2.ixN (X ++ [d]).length (-1) = some X.length := by
      unfold L2.ixN
      rw [List.length_append, List.length_singleton, if_neg (by decide)]
      rw [if_pos (by omega)]
      congr 1
      omega
    unfold L2.atI
    rw [hx]
    simp
  show atD (X ++ [d]) (-1) = _
  unfold atD
  rw [h]
theorem set_lastL (X : List Fw.D) (d v : Fw.D) : gSetL (.lst (X ++ [d])) (.int (-1)) v = some (.lst (X ++ [v])) := by
  show (match L2.ixN (X ++ [d]).length (-1) with
    | some j => some (Fw.D.lst ((X ++ [d]).set j v))
    | none => none) = _
  have h : L2.ixN (X ++ [d]).length (-1) = some X.length := by
    unfold L2.ixN
    rw [List.length_append, List.length_singleton, if_neg (by decide)]
    rw [if_pos (by omega)]
    congr 1
    omega
  rw [h]
  simp
theorem core_g1 (s2 : Sl) (at' : Int) (s : Str) (GL : List Fw.D → Option ER) (AP : Fw.D → List Fw.D → Option (Fw.D × Fw.D)) (A2 : List Fw.D) (h1 : GL [.lst []] = some (.sh (.int 0))) (h2 : AP (.lst []) [.tup [.int at', .str s]] = some (.lst A2, .non)) (T : M Bool) (PU : SM)
    (hz : dGt (.int 0) (.int 0) = some (.sh (.bl false))) :
    turn (gT [gN 4, gN 5]) (sFg [4, 5] (sIf (mAnd (mB (e2 dGt (eB GL [eVar 3]) (eC (.int 0)))) T) PU (sExpr (eMut 1 3 AP [eTup [eVar 4, eVar 5]])))) (.tup [.int at', .str s]) [s0, s1, s2, .ow (.lst []), .un, .un] = .nx [s0, s1, s2, .ow (.lst A2), .un, .un] := by
  unfold turn
  walk_at "ev"
theorem core_g2 (s2 : Sl) (at' qa L k : Int) (s qs qt : Str) (GL : List Fw.D → Option ER) (AP : Fw.D → List Fw.D → Option (Fw.D × Fw.D)) (IX : Fw.D → Fw.D → Option ER) (ST : Fw.D → Fw.D → Fw.D → Option Fw.D) (AD : Fw.D → Fw.D → Option ER) (A : List Fw.D) (A2 A3 : Fw.D) (b : Bool)
    (h1 : GL [.lst A] = some (.sh (.int k))) (hk : dGt (.int k) (.int 0) = some (.sh (.bl true))) (h2 : AP (.lst A) [.tup [.int at', .str s]] = some (A2, .non))
    (h3 : IX (.lst A) (.int (-1)) = some (.sh (.tup [.int qa, .str qs]))) (h4 : IX (.tup [.int qa, .str qs]) (.int 0) = some (.sh (.int qa))) (h5 : IX (.tup [.int qa, .str qs]) (.int 1) = some (.sh (.str qs)))
    (h6 : GL [.str qs] = some (.sh (.int L))) (h7 : dEq (.int (qa + L)) (.int at') = some (.sh (.bl b))) (h8 : AD (.str qs) (.str s) = some (.sh (.str qt))) (h9 : ST (.lst A) (.int (-1)) (.tup [.int qa, .str qt]) = some A3)
    (h10 : AD (.int qa) (.int L) = some (.sh (.int (qa + L)))) :
    turn (gT [gN 4, gN 5]) (sFg [4, 5] (sIf (mAnd (mB (e2 dGt (eB GL [eVar 3]) (eC (.int 0)))) (mB (e2 dEq (e2 AD (e2 IX (e2 IX (eVar 3) (e1 dNeg (eC (.int 1)))) (eC (.int 0))) (eB GL [e2 IX (e2 IX (eVar 3) (e1 dNeg (eC (.int 1)))) (eC (.int 1))])) (eVar 4)))) (sPut 1 3 ST (e1 dNeg (eC (.int 1))) (eTup [e2 IX (e2 IX (eVar 3) (e1 dNeg (eC (.int 1)))) (eC (.int 0)), e2 AD (e2 IX (e2 IX (eVar 3) (e1 dNeg (eC (.int 1)))) (eC (.int 1))) (eVar 5)])) (sExpr (eMut 1 3 AP [eTup [eVar 4, eVar 5]]))))
      (.tup [.int at', .str s]) [s0, s1, s2, .ow (.lst A), .un, .un] = .nx [s0, s1, s2, .ow (if b = true then A3 else A2), .un, .un] := by
  unfold turn
  cases b <;> walk_at "ev"
theorem glue_turn (s2 : Sl) (acc : List PT) (p : PT) (hl : acc.length < 900000) (ha : tot acc + p.2.cps.toList.length ≤ 100000) :
    turn (gT [gN 4, gN 5]) f1_joined (itD p) [s0, s1, s2, .ow (.lst (acc.map itD)), .un, .un] = .nx [s0, s1, s2, .ow (.lst ((glue acc p).map itD)), .un, .un] := by
  rcases last_cases acc with rfl | ⟨ini, q, rfl⟩
  · rw [glue_nil]
    exact core_g1 s2 p.1 p.2 gLen gAppend _ rfl rfl _ _ rfl
  · have hq : q.2.cps.toList.length ≤ tot (ini ++ [q]) := tot_mem (List.mem_append_right _ List.mem_cons_self)
    have el : (ini ++ [q]).map itD = ini.map itD ++ [itD q] := by rw [List.map_append]; rfl
    have h := core_g2 (s0 := s0) (s1 := s1) s2 p.1 q.1 (ln q.2) (((ini ++ [q]).map itD).length : Nat) p.2 q.2 (q.2 ++ p.2) gLen gAppend dIx gSetL dAdd ((ini ++ [q]).map itD) (.lst ((ini ++ [q] ++ [p]).map itD)) (.lst ((ini ++ [(q.1, q.2 ++ p.2)]).map itD)) (q.1 + ln q.2 == p.1)
      len_lst (by
        show some (ER.sh (Fw.D.bl (decide ((0 : Int) < _)))) = _
        rw [decide_eq_true]
        rw [List.length_map, List.length_append, List.length_singleton]; omega) (by
        rw [append_lst (by rw [List.length_map]; omega), List.map_append (l₁ := ini ++ [q])]
        rfl) (by rw [el]; exact at_last _ _) rfl rfl (glen_s (by omega)) eq_int (add_str (by have := ln_le (Nat.le_refl q.2.cps.toList.length); have := ln_le (Nat.le_refl p.2.cps.toList.length); omega)) (by
        rw [el, List.map_append]
        exact set_lastL _ _ _) rfl
    have e : (if (q.1 + ln q.2 == p.1) = true then Fw.D.lst ((ini ++ [(q.1, q.2 ++ p.2)]).map itD) else .lst ((ini ++ [q] ++ [p]).map itD)) = .lst ((glue (ini ++ [q]) p).map itD) := by
      rw [glue_last]
      by_cases c : fin q = p.1
      · have c' : q.1 + ln q.2 = p.1 := c
        rw [if_pos (by rw [c']; exact beq_self_eq_true _), if_pos c]
      · have c' : ¬ q.1 + ln q.2 = p.1 := c
        rw [if_neg (by rw [beq_false_of_ne c']; exact Bool.false_ne_true), if_neg c]
    rw [e] at h
    exact h
theorem glue_loop (s2 : Sl) : ∀ (r acc : List PT), acc.length + r.length < 900000 → tot acc + tot r ≤ 100000 →
    loop (gT [gN 4, gN 5]) f1_joined (r.map itD) [s0, s1, s2, .ow (.lst (acc.map itD)), .un, .un] = .nx [s0, s1, s2, .ow (.lst ((r.foldl glue acc).map itD)), .un, .un]
  | [], acc, _, _ => rfl
  | p :: r, acc, hl, ht => by
    rw [List.length_cons] at hl
    rw [tot_cons] at ht
    have t := glue_turn (s0 := s0) (s1 := s1) s2 acc p (by omega) (by omega)
    have lg := len_glue acc p
    have tg := tot_glue acc p
    have ih := glue_loop s2 r (glue acc p) (by omega) (by omega)
    rw [List.map_cons, loop_turn, t]
    exact ih
theorem core_j2 (P0 W R J Z : List Fw.D) (hs : SeqS s0 P0) (hs1 : ∃ P1, SeqS s1 P1) (CU LA : FM) (C1 : M ER) (F : SM) (LI SO : List Fw.D → Option ER) (AD : Fw.D → Fw.D → Option ER) (K : List Fw.D) (hZ : Z.length ≤ 1000000)
    (h1 : C1 [s0, s1, .un, .un, .un, .un] = .ok (.fr (.lst W)) [s0, s1, .un, .un, .un, .un])
    (h2 : LA [.pn false (.lst W), s0] = .ok (.fr (.lst R)) [])
    (h3 : CU [s1, .sh (.lst R)] = .ok (.fr (.lst K)) [])
    (h4 : LI [.lst P0] = some (.fr (.lst P0))) (h4' : LI [.tup P0] = some (.fr (.lst P0))) (h5 : AD (.lst P0) (.lst K) = some (.fr (.lst J)))
    (h6 : SO [.lst J] = some (.fr (.lst Z)))
    (A2 : List Fw.D) (h7 : loop (gT [gN 4, gN 5]) F Z [s0, s1, .ow (.lst W), .ow (.lst []), .un, .un] = .nx [s0, s1, .ow (.lst W), .ow (.lst A2), .un, .un]) :
    defN 2 6 (sSeq (sSet 2 (C1)) (sSeq (sSet 3 (eLst [])) (sSeq (sFor (iSeq (eB SO [e2 AD (eB LI [eVar 0]) (eF [] CU [] [eVar 1, eF [] LA [] [eVar 2, eVar 0]])])) (gT [gN 4, gN 5]) F) (sRet (eVar 3))))) [s0, s1] = .ok (.fr (.lst A2)) [] := by
  obtain ⟨P1, hs1⟩ := hs1
  rcases hs with rfl | rfl | rfl <;> rcases hs1 with rfl | rfl | rfl <;> walk_at "ev"
theorem itOf_map : ∀ (bs : List PT), itOf? (bs.map itD) = some bs
  | [] => rfl
  | b :: bs => by
    show (match itOf? (bs.map itD) with | some cs => some ((b.1, b.2) :: cs) | none => none) = _
    rw [itOf_map bs]
theorem sort_ok {bs : List PT} (hl : bs.length < 1000000) : gSortD [.lst (bs.map itD)] = some (.fr (.lst ((sortIT bs).map itD))) := by
  show (match itOf? (bs.map itD) with
      | some (b :: bs) => if bs.length < 1000000 then some (ER.fr (.lst ((sortIT (b :: bs)).map itD))) else none
      | _ => gSortB [.lst (bs.map itD)]) = _
  rw [itOf_map]
  cases bs with
  | nil =>
    show some (ER.fr (.lst ((sortInts []).map Fw.D.int))) = some (ER.fr (.lst ((sortIT []).map itD)))
    unfold sortInts sortIT
    rw [List.mergeSort_nil, List.mergeSort_nil]
    rfl
  | cons b bs => exact if_pos (by rw [List.length_cons] at hl; omega)
/-- how much it all is -/
structure Sm (n m : Nat) (ps : List PT) : Prop where
  len : ps.length ≤ n
  tx : ∀ p ∈ ps, p.2.cps.toList.length ≤ m
theorem tot_le {n m : Nat} : ∀ {ps : List PT}, Sm n m ps → tot ps ≤ n * m := by
  intro ps
  induction ps generalizing n with
  | nil => intro _; exact Nat.zero_le _
  | cons p ps ih =>
    intro h
    have h1 := h.tx p List.mem_cons_self
    have h2 := h.len
    rw [List.length_cons] at h2
    obtain ⟨k, rfl⟩ : ∃ k, n = k + 1 := ⟨n - 1, by omega⟩
    have := ih (n := k) ⟨by omega, fun q hq => h.tx q (List.mem_cons_of_mem _ hq)⟩
    rw [tot_cons, Nat.add_mul, Nat.one_mul]
    omega
theorem cutF_len (ws : List WT) : ∀ (ps : List PT), (cutF ps ws).length ≤ ps.length * ws.length
  | [] => Nat.zero_le _
  | p :: ps => by
    have := cutF_len ws ps
    have := flat_len p ws
    have e : cutF (p :: ps) ws = ws.filterMap (cut1 p) ++ cutF ps ws := rfl
    rw [e, List.length_append, List.length_cons, Nat.add_mul, Nat.one_mul]
    omega
theorem cutF_tx {m : Nat} {ps : List PT} (ws : List WT) (h : ∀ p ∈ ps, p.2.cps.toList.length ≤ m) : ∀ p ∈ cutF ps ws, p.2.cps.toList.length ≤ m := fun r hr => by
  obtain ⟨p, hp, w, hw, g⟩ := mem_cut.mp hr
  obtain ⟨e1, e2, e3, e4, e5⟩ := cut1_ok g
  have := h p hp
  have f1 : fin p = p.1 + ln p.2 := rfl
  have f2 : fin r = r.1 + ln r.2 := rfl
  have l1 : ln p.2 = ((p.2.cps.toList.length : Nat) : Int) := rfl
  have l2 : ln r.2 = ((r.2.cps.toList.length : Nat) : Int) := rfl
  omega
/-- of parts none on another the cut ones are no more text than the parts -/
theorem joined_ok {ones others : List PT} (hs : SeqS s0 (ones.map itD)) (hs1 : SeqS s1 (others.map itD)) (h1 : ∀ p ∈ ones, p.2.cps.toList.length ≤ 100000) (h2 : ∀ p ∈ others, p.2.cps.toList.length ≤ 100000)
    (l1 : ones.length ≤ 800) (l2 : others.length ≤ 800) (l3 : (lackF (places others) ones).length ≤ 800) (l4 : tot (joinL ones others) ≤ 100000) :
    m_joined [s0, s1] = .ok (.fr (.lst ((joinF ones others).map itD))) [] := by
  have a1 := c1_joined_ok (s0 := s0) hs1 h2 (by omega)
  have pl : (places others).length = others.length := by unfold places; rw [List.length_map]
  have m1 : others.length * (ones.length + 1) ≤ 800 * 801 := Nat.mul_le_mul l2 (by omega)
  have m2 : others.length * (lackF (places others) ones).length ≤ 800 * 800 := Nat.mul_le_mul l2 l3
  have a2 : m_lacking [.pn false (.lst ((places others).map rnD)), s0] = _ := lack_ok (s0 := .pn false (.lst ((places others).map rnD))) (s1 := s0) (.inl rfl) hs l1 h1 (by rw [pl]; omega) (by rw [pl]; omega)
  have a3 : m_cut [s1, .sh (.lst ((lackF (places others) ones).map rnD))] = _ := cut_ok (s0 := s1) (s1 := .sh (.lst ((lackF (places others) ones).map rnD))) hs1 (.inr (.inr rfl)) l3 h2 (by omega) (by omega)
  have cl := cutF_len (lackF (places others) ones) others
  have jl : (joinL ones others).length ≤ 800 + 800 * 800 := by unfold joinL; rw [List.length_append]; omega
  have a5 : dAdd (.lst (ones.map itD)) (.lst ((cutF others (lackF (places others) ones)).map itD)) = some (.fr (.lst ((joinL ones others).map itD))) := by
    rw [add_lst (by rw [List.length_map, List.length_map]; omega), ← List.map_append]
    rfl
  have sl : (sortIT (joinL ones others)).length = (joinL ones others).length := (sortIT_perm _).length_eq
  have a7 := glue_loop (s0 := s0) (s1 := s1) (.ow (.lst ((places others).map rnD))) (sortIT (joinL ones others)) [] (by rw [sl, List.length_nil]; omega) (by rw [tot_perm (sortIT_perm _), tot_nil]; omega)
  exact core_j2 (ones.map itD) _ _ _ _ hs ⟨_, hs1⟩ m_cut m_lacking c1_joined f1_joined gList gSortD dAdd _ (by rw [List.length_map, sl]; omega) a1 a2 a3 rfl rfl a5 (sort_ok (by omega)) _ a7
/-! what they weigh -/
theorem core_w (P : List Fw.D) (hs : SeqS s0 P) (hP : P.length ≤ 1000000) (X : M ER) (SU : List Fw.D → Option ER) (Q : List Fw.D) (n : Int) (h : ∀ c, (c = none ∨ c = some (0, s0)) → lcLoop c [1, 2] (gT [gN 1, gN 2]) mYes X P [s0, .un, .un] = some (Q, [s0, .un, .un])) (h2 : SU [.lst Q] = some (.sh (.int n))) :
    defN 1 3 (sRet (eB SU [eLc (iSeq (eVar 0)) [1, 2] (gT [gN 1, gN 2]) (mYes) X])) [s0] = .ok (.sh (.int n)) [] := by
  have h1 := h _ (.inl rfl)
  have h3 := h _ (.inr rfl)
  have hm : ¬ 0 ∈ [1, 2] := by decide
  clear h
  rcases hs with rfl | rfl | rfl <;> walk_at "ev"
theorem x1w_core (a : Sl) (at' : Fw.D) (L : Int) (s : Str) (GL : List Fw.D → Option ER) (h : GL [.str s] = some (.sh (.int L))) : (eB GL [eVar 2]) [a, .sh at', .sh (.str s)] = .ok (.sh (.int L)) [a, .sh at', .sh (.str s)] := by
  walk_at "ev"
theorem ints_of : ∀ (ns : List Int), intsOf? (ns.map Fw.D.int) = some ns
  | [] => rfl
  | n :: ns => by
    show (match intsOf? (ns.map Fw.D.int) with | some r => some (n :: r) | none => none) = _
    rw [ints_of ns]
def heavy (ps : List PT) : Int := (ps.map fun p => ln p.2).sum
theorem weight_ok {ps : List PT} (hs : SeqS s0 (ps.map itD)) (hp : ∀ p ∈ ps, p.2.cps.toList.length ≤ 100000) (hl : ps.length ≤ 800000) : m_weight [s0] = .ok (.sh (.int (heavy ps))) [] := by
  refine core_w (ps.map itD) hs (by rw [List.length_map]; omega) x1_weight gSum ((ps.map fun p => ln p.2).map Fw.D.int) _ (fun c hc => ?_) ?_
  · have h := lc_map (c := c) (own := [1, 2]) (g := gT [gN 1, gN 2]) (tt := mYes) (elt := x1_weight) (en := [s0, .un, .un]) itD (fun _ => true) (fun p => Fw.D.int (ln p.2)) (fun j t e => by
      rcases hc with rfl | rfl
      · cases e
      · cases e; rfl) ps (fun p hm => by
      refine ⟨[s0, .sh (.int p.1), .sh (.str p.2)], [s0, .sh (.int p.1), .sh (.str p.2)], rfl, rfl, ?_⟩
      rw [if_pos rfl]
      exact ⟨.sh (.int (ln p.2)), [s0, .sh (.int p.1), .sh (.str p.2)], [s0, .sh (.int p.1), .sh (.str p.2)], x1w_core s0 (.int p.1) (ln p.2) p.2 gLen (glen_s (hp p hm)), rfl, rfl⟩)
    rw [List.filter_eq_self.mpr (fun _ _ => rfl)] at h
    rw [List.map_map]
    exact h
  · show (match (seqL (.lst ((ps.map fun p => ln p.2).map Fw.D.int))).bind intsOf? with | some ns => some (ER.sh (Fw.D.int ns.sum)) | none => none) = _
    show (match intsOf? ((ps.map fun p => ln p.2).map Fw.D.int) with | some ns => some (ER.sh (Fw.D.int ns.sum)) | none => none) = _
    rw [ints_of]
    rfl
end
end Law
set_option linter.all false
set_option maxRecDepth 100000
set_option Elab.async false
namespace Law
open PySem Fw
/-! how many there are between two places -/
def InP (a b : Int) (ps : List PT) : Prop := ∀ p ∈ ps, a ≤ p.1 ∧ fin p ≤ b
def InR (a b : Int) (ws : List WT) : Prop := ∀ w ∈ ws, a ≤ w.1 ∧ w.2 ≤ b
theorem cw_len {b : Int} : ∀ {ws : List WT} {a : Int}, CW ws → InR a b ws → a ≤ b → (ws.length : Int) ≤ b - a
  | [], a, _, _, h => by simpa using h
  | w :: ws, a, h, hi, hab => by
    obtain ⟨h1, h2, h3⟩ := cw_cons.mp h
    obtain ⟨g1, g2⟩ := hi w List.mem_cons_self
    have := cw_len (a := w.2) h3 (fun v hv => ⟨Int.le_of_lt (h1 v hv), (hi v (List.mem_cons_of_mem _ hv)).2⟩) g2
    rw [List.length_cons]
    omega
theorem cp_tot {b : Int} : ∀ {ps : List PT} {a : Int}, SP ps → InP a b ps → a ≤ b → (tot ps : Int) ≤ b - a ∧ (ps.length : Int) ≤ b - a
  | [], a, _, _, h => by rw [tot_nil]; exact ⟨by simpa using h, by simpa using h⟩
  | p :: ps, a, h, hi, hab => by
    obtain ⟨h1, h2, h3⟩ := sp_cons.mp h
    obtain ⟨g1, g2⟩ := hi p List.mem_cons_self
    have := cp_tot (a := fin p) h3 (fun v hv => ⟨h1 v hv, (hi v (List.mem_cons_of_mem _ hv)).2⟩) g2
    have f : fin p = p.1 + ((p.2.cps.toList.length : Nat) : Int) := rfl
    unfold ln at h2
    rw [tot_cons, List.length_cons]
    omega
theorem in_tx {a b : Int} {ps : List PT} (h : InP a b ps) {n : Nat} (hn : b - a ≤ n) : ∀ p ∈ ps, p.2.cps.toList.length ≤ n := fun p hp => by
  have := h p hp
  have f : fin p = p.1 + ((p.2.cps.toList.length : Nat) : Int) := rfl
  omega
theorem cut_in_rng {a b : Int} {ps : List PT} (ws : List WT) (h : InP a b ps) : InP a b (cutF ps ws) := fun r hr => by
  obtain ⟨p, hp, w, hw, g⟩ := mem_cut.mp hr
  obtain ⟨e1, e2, e3, e4, e5⟩ := cut1_ok g
  have := h p hp
  omega
theorem lack_in_rng {a b : Int} {ws : List WT} {ps : List PT} (h1 : SP ps) (h2 : CW ws) (h : InR a b ws) : InR a b (lackF ws ps) := fun r hr => by
  obtain ⟨w, hw, g1, g2⟩ := (lackF_ok h1 h2).2.1 r hr
  have := h w hw
  omega
theorem places_rng {a b : Int} {ps : List PT} (h : InP a b ps) : InR a b (places ps) := fun w hw => by
  obtain ⟨p, hp, rfl⟩ := List.mem_map.mp hw
  exact h p hp
/-- parts between two places, put together -/
theorem joined_cp {s0 s1 : Sl} {ones others : List PT} (hs : SeqS s0 (ones.map itD)) (hs1 : SeqS s1 (others.map itD)) (c1 : CP ones) (c2 : CP others) {a b : Int} (hab : a ≤ b) (hb : b - a ≤ 700) (i1 : InP a b ones) (i2 : InP a b others) :
    m_joined [s0, s1] = .ok (.fr (.lst ((joinF ones others).map itD))) [] := by
  have l1 := cp_tot c1.sp i1 hab
  have l2 := cp_tot c2.sp i2 hab
  have lw := lackF_ok c1.sp (places_cw c2)
  have l3 := cw_len lw.1 (lack_in_rng c1.sp (places_cw c2) (places_rng i2)) hab
  have l4 := cp_tot (cutF_cp c2 lw.1).sp (cut_in_rng (lackF (places others) ones) i2) hab
  refine joined_ok hs hs1 (in_tx i1 (by omega)) (in_tx i2 (by omega)) (by omega) (by omega) (by omega) ?_
  unfold joinL
  rw [tot_app]
  omega
/-- what is put together lies between, too -/
theorem join_rng {ones others : List PT} (c1 : CP ones) (c2 : CP others) {a b : Int} (i1 : InP a b ones) (i2 : InP a b others) : InP a b (joinF ones others) := fun p hp => by
  obtain ⟨c, t⟩ := join_ok c1 c2
  have lp := c.2 p hp
  have fp : fin p = p.1 + ln p.2 := rfl
  have at_ : ∀ x, p.1 ≤ x → x < fin p → a ≤ x ∧ x < b := fun x h1 h2 => by
    have := tell_of c.sp hp h1 h2
    obtain ⟨d, e, _⟩ := at1_in h1 h2
    rw [e, t] at this
    cases k : tell ones x with
    | some d' =>
      obtain ⟨q, hq, g1, g2, _⟩ := tell_mem k
      have := i1 q hq
      omega
    | none =>
      rw [k] at this
      obtain ⟨q, hq, g1, g2, _⟩ := tell_mem this
      have := i2 q hq
      omega
  have h1 := at_ p.1 (by omega) (by omega)
  have h2 := at_ (fin p - 1) (by omega) (by omega)
  omega
theorem cut_cp {s0 s1 : Sl} {ps : List PT} {ws : List WT} (hs : SeqS s0 (ps.map itD)) (hs1 : SeqS s1 (ws.map rnD)) (c1 : SP ps) (c2 : CW ws) {a b : Int} (hab : a ≤ b) (hb : b - a ≤ 700) (i1 : InP a b ps) (i2 : InR a b ws) :
    m_cut [s0, s1] = .ok (.fr (.lst ((cutF ps ws).map itD))) [] := by
  have l1 := (cp_tot c1 i1 hab).2
  have l2 := cw_len c2 i2 hab
  have : ps.length * ws.length ≤ 700 * 700 := Nat.mul_le_mul (by omega) (by omega)
  exact cut_ok hs hs1 (by omega) (in_tx i1 (by omega)) (by omega) (by omega)
theorem lack_cp {s0 s1 : Sl} {ps : List PT} {ws : List WT} (hs : SeqS s0 (ws.map rnD)) (hs1 : SeqS s1 (ps.map itD)) (c1 : SP ps) (c2 : CW ws) {a b : Int} (hab : a ≤ b) (hb : b - a ≤ 700) (i1 : InP a b ps) (i2 : InR a b ws) :
    m_lacking [s0, s1] = .ok (.fr (.lst ((lackF ws ps).map rnD))) [] := by
  have l1 := (cp_tot c1 i1 hab).2
  have l2 := cw_len c2 i2 hab
  have : ws.length * (ps.length + 1) ≤ 700 * 701 := Nat.mul_le_mul (by omega) (by omega)
  exact lack_ok hs hs1 (by omega) (in_tx i1 (by omega)) (by omega) (by omega)
end Law
set_option linter.all false
set_option maxRecDepth 100000
set_option Elab.async false
namespace Law
open PySem Fw
local macro_rules | `(tactic| walk_at "ev") => `(tactic| simp only [Fw.defN, Fw.defX, Fw.arity_ap, Fw.mkN_ap, Fw.mkF_ap, Fw.eC_ap, Fw.eVar_ap, Fw.e2_ap, Fw.op2_ap, Fw.cur_sh, Fw.cur_fr, Fw.cur_bo, Fw.e1_ap, Fw.eA_nil, Fw.eA_cons, Fw.eB_ap, Fw.curs_nil, Fw.curs_cons, Fw.eTup_ap, Fw.eLst_ap, Fw.shrs_nil, Fw.shrs_cons, Fw.shr_sh, Fw.shr_fr, Fw.shr_bo, Fw.eF_ap, Fw.callM_ap, Fw.sSeq_ap, Fw.sSet_ap, Fw.then_ok, Fw.put_ap, Fw.sExpr_ap, Fw.sRet_ap, Fw.retR_sh, Fw.retR_fr, Fw.retR_bo, Fw.sIf_ap, Fw.mB_ap, Fw.toB_bl, Fw.mT_ap, Fw.mAnd_ap, Fw.mOr_ap, Fw.mNot_ap, Fw.eAnd_ap, Fw.eOr_ap, Fw.eNot_ap, Fw.eIf_ap, Fw.eChain_ap, Fw.sNil_ap, Fw.sFg_ap, Fw.wipeE_nil, Fw.wipeE_cons, Fw.eMut_ap, Fw.eMetS_ap, Fw.afterF, Fw.toF, Fw.sAsg_ap, Fw.R.bind_ok, Fw.R.bind_exc, Fw.R.bind_bad, Fw.R.then,
  List.length_cons, List.length_nil, List.cons_append, List.nil_append, List.append_nil, List.replicate_succ, List.replicate_zero, List.getElem?_cons_zero, List.getElem?_cons_succ, List.set_cons_zero, List.set_cons_succ, Option.bind_some, Option.bind_none, Fw.dat_sh, Fw.dat_ow, Fw.dat_pn, Fw.dat_lk, Fw.pn_un, Fw.pn_sh, Fw.pn_ow, Fw.mu_ow, Fw.mu_pn, Fw.own_ow, Fw.own_pn, Fw.own_lk, Fw.lock_ow, Fw.lock_pnT, Fw.lock_pnF, Fw.lock_lk, Fw.with_ow, Fw.with_pn, if_true, if_false, Bool.false_eq_true, Bool.true_eq_false, ite_true, ite_false, reduceIte,
  Fw.ix_lst, Fw.ix_rol, Fw.ix_tup, Fw.ix_rot, Fw.at0, Fw.at1, Fw.at2, Fw.at3, Fw.at4, Fw.atm1, Fw.add_int, Fw.add_lst, Fw.add_tup, Fw.add_str, Fw.sub_int, Fw.mul_mod, Fw.mul_r, Fw.mul_l, Fw.div_int, Fw.mod_int, Fw.p10_8, Fw.p10_18, Fw.pow_int, Fw.neg_int, Fw.cmp_int, Fw.is_non, Fw.isnot_non, Fw.isNon_non, Fw.isNon_int, Fw.isNon_str, Fw.isNon_lst, Fw.isNon_tup, Fw.eq_int, Fw.ne_int, Fw.eq_str, Fw.ne_str, Fw.len_lst, Fw.len_rol, Fw.len_tup, Fw.len_str, Fw.max2_int, Fw.min2_int, Fw.int_int, Fw.int_bl, Fw.list_lst, Fw.list_tup, Fw.tuple_lst, Fw.tuple_tup, Fw.append_lst, Fw.tru_bl, Fw.tru_lst, Fw.sl_rol, Fw.sl_lst,
  Fw.cellAt_ap, Fw.kind_lst, Fw.putD_ap, Fw.sPut_ap, Fw.putAt_ap, Fw.set_last, Fw.set0, Fw.set1, Fw.set2, Fw.pass_nil, Fw.pass_n, Fw.pass_c, Fw.passArg_sh, Fw.passArg_fr, Fw.passArg_boF, Fw.passArg_boT, Fw.ioOk_n, Fw.ioOk_nil, Fw.ioOk_bo, Fw.ioOk_sh, Fw.ioOk_fr, Fw.bo_nil, Fw.bo_bo, Fw.bo_sh, Fw.bo_fr, Fw.io_n, Fw.io_nil, Fw.io_T, Fw.io_F, Fw.outs_nil, Fw.outs_T, Fw.outs_F, Fw.outs_sh, Fw.putOuts_nil, Fw.putOuts_cons, Fw.gN_ap, Fw.gT_tup, Fw.gAll_nil, Fw.gAll_cons, Fw.sFor_ap, Fw.eLc_ap, Fw.back_nx, Fw.back_rt, Fw.iSeq_ap, Fw.seq_lst, Fw.seq_tup, Fw.iB_ap, Fw.yes_ap, Fw.eSl_ap, Fw.part_none, Fw.part_some, Fw.partR_int, Fw.rest_nil, Fw.rest_cons, Fw.keep_sh, Fw.keep_un, Fw.keep_none,
  List.map_nil, List.map_cons, List.contains_nil, List.contains_cons, Bool.not_false, Bool.not_true, Bool.and_self, Bool.and_true, Bool.true_and, Bool.false_and, Bool.and_false, Bool.or_true, Bool.true_or, Bool.or_false, Bool.false_or, Nat.reduceAdd, Nat.reduceSub, Nat.reduceEqDiff, Nat.reduceBEq, decide_true, decide_false, Int.reduceLT, Int.reduceLE, Int.reduceNeg, Int.reducePow, Int.reduceToNat, Nat.reducePow, Nat.reduceLT, Nat.reduceLeDiff, and_true, true_and, and_self, not_true_eq_false, not_false_eq_true,
  Fw.eNew_ap, Fw.newOf_ap, Fw.gU_lst, Fw.gTU_lst, Fw.gTU_tup, Fw.sAsg2_ap, Fw.rev_lst, Fw.rev_rol, Fw.eFf_ap, Fw.eDict0_ap, Fw.iS_ap, Fw.sRetN_ap, Fw.sPass_ap, Fw.sBreak_ap, Fw.sCont_ap, Fw.i_and, Fw.i_or, Fw.i_andE, Fw.i_orE, Fw.i_int, Fw.i_str, Fw.at5, Fw.at6, Fw.at7, Fw.at8, Fw.at9, Fw.at10, Fw.at11, Fw.at12, Fw.at13, Fw.at14, Fw.at15, Fw.at16, Fw.at17, Fw.at18, Fw.at19, Fw.at20, Fw.at21, Fw.at22, Fw.at23, Fw.at24, Fw.eFK_ap, Fw.permM_cons, Fw.pick_nil, Fw.pick_cons, Fw.noT_sh, Fw.noT_pn, Fw.inB_def, Fw.eMeth_ap, Fw.eMk_ap, Fw.popN_ok, Fw.popN_exc, Fw.sRaise_ap, Fw.sTry_ap, Fw.eXf_ap, Fw.lookX_ap, Fw.endS_nx, Fw.endS_rt, Fw.isX_ty, Fw.isX_cl, Fw.isX_tup, Fw.then_exc, true_or, or_false, or_true, List.lookup_cons, List.lookup_nil, List.take_zero, List.take_succ_cons, List.drop_zero, List.drop_succ_cons, List.all_cons, List.all_nil, List.dropLast_cons₂, List.dropLast_singleton, _root_.eq_self, Nat.reduceBEq, Nat.zero_add, Nat.reduceLeDiff, Nat.sub_self, Nat.lt_irrefl, Nat.add_zero, Fw.lc_nil, Fw.lc_consN, Fw.loop_nil, Fw.loop_cons, Fw.rng1_1, Fw.rng1_2, Fw.rng1_3, Fw.rng1_4, Fw.rng1_5, Fw.rng1_6, Fw.rng1_7, Fw.rng1_8, Fw.rng1_9, Fw.rng1_10, Fw.rng1_11, Fw.rng1_12, Fw.rng2_3_8, Fw.rng2_3_6, Fw.rng2_1_3, Fw.rng2_1_4, Fw.rng2_2_5, Fw.sPar_ap, Fw.eP_nil, Fw.eP_cons, Fw.nrm_sh, Fw.nrm_fr, Fw.nrm_bo, Fw.puts_nil, Fw.puts_cons, Fw.put1_sh, Fw.put1_fr, Fw.eMetL_ap, Fw.isLst_lst, Fw.kind_dk, Fw.eGet1_ap, Fw.eGet2_ap, Fw.getK_ap, Fw.dkAt_ap, Fw.shOf_sh, Fw.key_str, Fw.key_int, Fw.in2_str, Fw.nin2_str, Option.getD_some, Option.getD_none, Option.isSome_some, Option.isSome_none, *])
local macro_rules | `(tactic| walk_at "e0") => `(tactic| simp only [Fw.defN, Fw.defX, Fw.arity_ap, Fw.mkN_ap, Fw.mkF_ap, Fw.eC_ap, Fw.eVar_ap, Fw.e2_ap, Fw.op2_ap, Fw.cur_sh, Fw.cur_fr, Fw.cur_bo, Fw.e1_ap, Fw.eA_nil, Fw.eA_cons, Fw.eB_ap, Fw.curs_nil, Fw.curs_cons, Fw.eTup_ap, Fw.eLst_ap, Fw.shrs_nil, Fw.shrs_cons, Fw.shr_sh, Fw.shr_fr, Fw.shr_bo, Fw.eF_ap, Fw.callM_ap, Fw.sSeq_ap, Fw.sSet_ap, Fw.then_ok, Fw.put_ap, Fw.sExpr_ap, Fw.sRet_ap, Fw.retR_sh, Fw.retR_fr, Fw.retR_bo, Fw.sIf_ap, Fw.mB_ap, Fw.toB_bl, Fw.mT_ap, Fw.mAnd_ap, Fw.mOr_ap, Fw.mNot_ap, Fw.eAnd_ap, Fw.eOr_ap, Fw.eNot_ap, Fw.eIf_ap, Fw.eChain_ap, Fw.sNil_ap, Fw.sFg_ap, Fw.wipeE_nil, Fw.wipeE_cons, Fw.eMut_ap, Fw.eMetS_ap, Fw.afterF, Fw.toF, Fw.sAsg_ap, Fw.R.bind_ok, Fw.R.bind_exc, Fw.R.bind_bad, Fw.R.then,
  List.length_cons, List.length_nil, List.cons_append, List.nil_append, List.append_nil, List.replicate_succ, List.replicate_zero, List.getElem?_cons_zero, List.getElem?_cons_succ, List.set_cons_zero, List.set_cons_succ, Option.bind_some, Option.bind_none, Fw.dat_sh, Fw.dat_ow, Fw.dat_pn, Fw.dat_lk, Fw.pn_un, Fw.pn_sh, Fw.pn_ow, Fw.mu_ow, Fw.mu_pn, Fw.own_ow, Fw.own_pn, Fw.own_lk, Fw.lock_ow, Fw.lock_pnT, Fw.lock_pnF, Fw.lock_lk, Fw.with_ow, Fw.with_pn, if_true, if_false, Bool.false_eq_true, Bool.true_eq_false, ite_true, ite_false, reduceIte,
  Fw.ix_lst, Fw.ix_rol, Fw.ix_tup, Fw.ix_rot, Fw.at0, Fw.at1, Fw.at2, Fw.at3, Fw.at4, Fw.atm1, Fw.add_int, Fw.add_lst, Fw.add_tup, Fw.add_str, Fw.sub_int, Fw.mul_mod, Fw.mul_r, Fw.mul_l, Fw.div_int, Fw.mod_int, Fw.p10_8, Fw.p10_18, Fw.pow_int, Fw.neg_int, Fw.cmp_int, Fw.is_non, Fw.isnot_non, Fw.isNon_non, Fw.isNon_int, Fw.isNon_str, Fw.isNon_lst, Fw.isNon_tup, Fw.eq_int, Fw.ne_int, Fw.eq_str, Fw.ne_str, Fw.len_lst, Fw.len_rol, Fw.len_tup, Fw.len_str, Fw.max2_int, Fw.min2_int, Fw.int_int, Fw.int_bl, Fw.list_lst, Fw.list_tup, Fw.tuple_lst, Fw.tuple_tup, Fw.append_lst, Fw.tru_bl, Fw.tru_lst, Fw.sl_rol, Fw.sl_lst,
  Fw.cellAt_ap, Fw.kind_lst, Fw.putD_ap, Fw.sPut_ap, Fw.putAt_ap, Fw.set_last, Fw.set0, Fw.set1, Fw.set2, Fw.pass_nil, Fw.pass_n, Fw.pass_c, Fw.passArg_sh, Fw.passArg_fr, Fw.passArg_boF, Fw.passArg_boT, Fw.ioOk_n, Fw.ioOk_nil, Fw.ioOk_bo, Fw.ioOk_sh, Fw.ioOk_fr, Fw.bo_nil, Fw.bo_bo, Fw.bo_sh, Fw.bo_fr, Fw.io_n, Fw.io_nil, Fw.io_T, Fw.io_F, Fw.outs_nil, Fw.outs_T, Fw.outs_F, Fw.outs_sh, Fw.putOuts_nil, Fw.putOuts_cons, Fw.gN_ap, Fw.gT_tup, Fw.gAll_nil, Fw.gAll_cons, Fw.sFor_ap, Fw.eLc_ap, Fw.back_nx, Fw.back_rt, Fw.iSeq_ap, Fw.seq_lst, Fw.seq_tup, Fw.iB_ap, Fw.yes_ap, Fw.eSl_ap, Fw.part_none, Fw.part_some, Fw.partR_int, Fw.rest_nil, Fw.rest_cons, Fw.keep_sh, Fw.keep_un, Fw.keep_none,
  List.map_nil, List.map_cons, List.contains_nil, List.contains_cons, Bool.not_false, Bool.not_true, Bool.and_self, Bool.and_true, Bool.true_and, Bool.false_and, Bool.and_false, Bool.or_true, Bool.true_or, Bool.or_false, Bool.false_or, Nat.reduceAdd, Nat.reduceSub, Nat.reduceEqDiff, Nat.reduceBEq, decide_true, decide_false, Int.reduceLT, Int.reduceLE, Int.reduceNeg, Int.reducePow, Int.reduceToNat, Nat.reducePow, Nat.reduceLT, Nat.reduceLeDiff, and_true, true_and, and_self, not_true_eq_false, not_false_eq_true,
  Fw.eNew_ap, Fw.newOf_ap, Fw.gU_lst, Fw.gTU_lst, Fw.gTU_tup, Fw.sAsg2_ap, Fw.rev_lst, Fw.rev_rol, Fw.eFf_ap, Fw.eDict0_ap, Fw.iS_ap, Fw.sRetN_ap, Fw.sPass_ap, Fw.sBreak_ap, Fw.sCont_ap, Fw.i_and, Fw.i_or, Fw.i_andE, Fw.i_orE, Fw.i_int, Fw.i_str, Fw.at5, Fw.at6, Fw.at7, Fw.at8, Fw.at9, Fw.at10, Fw.at11, Fw.at12, Fw.at13, Fw.at14, Fw.at15, Fw.at16, Fw.at17, Fw.at18, Fw.at19, Fw.at20, Fw.at21, Fw.at22, Fw.at23, Fw.at24, Fw.eFK_ap, Fw.permM_cons, Fw.pick_nil, Fw.pick_cons, Fw.noT_sh, Fw.noT_pn, Fw.inB_def, Fw.eMeth_ap, Fw.eMk_ap, Fw.popN_ok, Fw.popN_exc, Fw.sRaise_ap, Fw.sTry_ap, Fw.eXf_ap, Fw.lookX_ap, Fw.endS_nx, Fw.endS_rt, Fw.isX_ty, Fw.isX_cl, Fw.isX_tup, Fw.then_exc, true_or, or_false, or_true, List.lookup_cons, List.lookup_nil, List.take_zero, List.take_succ_cons, List.drop_zero, List.drop_succ_cons, List.all_cons, List.all_nil, List.dropLast_cons₂, List.dropLast_singleton, _root_.eq_self, Nat.reduceBEq, Nat.zero_add, Nat.reduceLeDiff, Nat.sub_self, Nat.lt_irrefl, Nat.add_zero, Fw.lc_nil, Fw.lc_consN, Fw.loop_nil, Fw.loop_cons, Fw.rng1_1, Fw.rng1_2, Fw.rng1_3, Fw.rng1_4, Fw.rng1_5, Fw.rng1_6, Fw.rng1_7, Fw.rng1_8, Fw.rng1_9, Fw.rng1_10, Fw.rng1_11, Fw.rng1_12, Fw.rng2_3_8, Fw.rng2_3_6, Fw.rng2_1_3, Fw.rng2_1_4, Fw.rng2_2_5, Fw.sPar_ap, Fw.eP_nil, Fw.eP_cons, Fw.nrm_sh, Fw.nrm_fr, Fw.nrm_bo, Fw.puts_nil, Fw.puts_cons, Fw.put1_sh, Fw.put1_fr, Fw.eMetL_ap, Fw.isLst_lst, Fw.kind_dk, Fw.eGet1_ap, Fw.eGet2_ap, Fw.getK_ap, Fw.dkAt_ap, Fw.shOf_sh, Fw.key_str, Fw.key_int, Fw.in2_str, Fw.nin2_str, Option.getD_some, Option.getD_none, Option.isSome_some, Option.isSome_none])
local macro_rules | `(tactic| walk_at "go") => `(tactic| repeat' (first | done | rfl | (walk_at "ev"; done) | (split <;> try walk_at "ev")))
structure Wl where
  a : Int
  b : Int
  n : Int
def wD (w : Wl) : Fw.D := .lst [.int w.a, .int w.b, .int w.n]
def drawA (w : Wl) : Int := (w.b + 7919 * (w.n + 1) + 1) * 48271 % 2147483647
def drawB (w : Wl) : Int := drawA w * (drawA w / 1009 + 69621) % 2147483647
theorem draw_ok (w : Wl) (m : Int) (h : 0 < m) (h2 : m < 1073741824) : ∃ r w', 0 ≤ r ∧ r < m ∧ m_z_draw [.pn true (wD w), .sh (.int m)] = .ok (.sh (.int r)) [wD w'] := by
  by_cases ha : 0 < w.a
  · refine ⟨w.a % m, ⟨w.a / m, w.b, w.n⟩, Int.emod_nonneg _ (by omega), Int.emod_lt_of_pos _ h, ?_⟩
    unfold m_z_draw b_z_draw wD
    walk_at "ev"
  · refine ⟨drawB w * (drawB w / 2003 + 40692) % 2147483399 % m, ⟨w.a, w.b, w.n + 1⟩, Int.emod_nonneg _ (by omega), Int.emod_lt_of_pos _ h, ?_⟩
    unfold m_z_draw b_z_draw wD drawB drawA
    walk_at "ev"
/-- well -/
theorem well_ok (c : Int) : ∃ w, m_z_well [.sh (.int c)] = .ok (.fr (wD w)) [] := by
  refine ⟨⟨c * (if decide ((10:Int) ^ 18 ≤ c) = true then 1 else 0), c % 2147483647, 0⟩, ?_⟩
  unfold m_z_well b_z_well wD
  have h : -(2 ^ 64) < (if decide ((10:Int) ^ 18 ≤ c) = true then (1:Int) else 0) ∧ (if decide ((10:Int) ^ 18 ≤ c) = true then (1:Int) else 0) < 2 ^ 64 := by split <;> decide
  have h2 := mul_r (i := c) h
  have e : (Fw.dPow (.int 10) (.int 18)) = some (.sh (.int ((10 : Int) ^ 18))) := rfl
  simp only [Int.reducePow] at h h2 e
  walk_at "ev"
theorem pickL (l : List Int) (P : Int → Prop) (h : ∀ x ∈ l, P x) (r : Int) (h0 : 0 ≤ r) (h1 : r < (l.length : Nat)) : ∃ x, P x ∧ dIx (.lst (l.map Fw.D.int)) (.int r) = some (.sh (.int x)) := by
  obtain ⟨d, hd, e⟩ := atD_mem (ds := l.map Fw.D.int) h0 (by rw [List.length_map]; exact h1)
  obtain ⟨x, hx, rfl⟩ := List.mem_map.mp hd
  exact ⟨x, h x hx, e⟩
theorem draw_t : DrawOk wD m_z_draw := fun w k h1 h2 => draw_ok w k h1 h2
local macro_rules | `(tactic| walk_at "kn") => `(tactic| first | exact Fw.c_vK rfl | exact Fw.c_K)
local macro_rules | `(tactic| walk_at "ty") => `(tactic| first
  | with_reducible exact Fw.c_s | with_reducible exact Fw.c_i | with_reducible exact Fw.c_b
  | exact Fw.c_vS rfl (by assumption) | exact Fw.c_vI rfl (by assumption) | exact Fw.c_vB rfl (by assumption) | exact Fw.c_vS1 rfl | exact Fw.c_vI1 rfl
  | (apply Fw.c_cat; (walk_at "ty"); (walk_at "ty"); decide +kernel)
  | (apply Fw.c_plus; (walk_at "ty"); (walk_at "ty"))
  | (apply Fw.c_draw draw_t; (walk_at "ty"); decide +kernel)
  | (apply Fw.ts_call1; assumption)
  | (apply Fw.ts_call2; assumption; (walk_at "ty"))
  | (apply Fw.c_times; (walk_at "ty"); (walk_at "ty"); decide +kernel)
  | (apply Fw.c_div; (walk_at "ty"); decide +kernel)
  | (apply Fw.c_mod; (walk_at "ty"); (walk_at "ty"); decide +kernel)
  | (apply Fw.c_str; (walk_at "ty"); decide +kernel)
  | (apply Fw.c_lenK; (walk_at "kn"); decide +kernel)
  | (apply Fw.c_len; (walk_at "ty"); decide +kernel)
  | (apply Fw.c_rep; (walk_at "ty"); decide +kernel)
  | (apply Fw.c_to; (walk_at "ty"); (walk_at "ty"); decide +kernel)
  | (apply Fw.c_from; (walk_at "ty"); (walk_at "ty"); decide +kernel)
  | (apply Fw.c_sign; (walk_at "kn"); (walk_at "ty"); decide +kernel)
  | (apply Fw.c_ixL; (walk_at "tl"); (walk_at "ty"); decide +kernel)
  | (apply Fw.c_join; assumption; decide +kernel)
  | (apply Fw.c_upper; (walk_at "ty"); decide +kernel)
  | (apply Fw.ts_eqi; (walk_at "ty"); (walk_at "ty")))
local macro_rules | `(tactic| walk_at "tl") => `(tactic| first
  | exact Fw.tl_v rfl (by assumption) (by assumption)
  | (apply Fw.Tl.of; (walk_at "tf")))
local macro_rules | `(tactic| walk_at "tf") => `(tactic| first
  | (apply Fw.c_lst; (walk_at "ss"))
  | (apply Fw.c_lst; (walk_at "si"))
  | (apply Fw.c_catL; (walk_at "tl"); (walk_at "tl"); decide +kernel))
local macro_rules | `(tactic| walk_at "ss") => `(tactic| first
  | exact Fw.ssn
  | (apply Fw.ssc; (walk_at "ty"); (walk_at "ss")))
local macro_rules | `(tactic| walk_at "si") => `(tactic| first
  | (apply Fw.si1; (walk_at "ty"))
  | (apply Fw.sic; (walk_at "ty"); (walk_at "si")))
local macro_rules | `(tactic| walk_at "tb") => `(tactic| first
  | (apply Fw.tb_eqi; (walk_at "ty"); (walk_at "ty"))
  | (apply Fw.tb_lti; (walk_at "ty"); (walk_at "ty"))
  | (apply Fw.tb_gti; (walk_at "ty"); (walk_at "ty"))
  | (apply Fw.tb_t; (walk_at "ty"))
  | (apply Fw.tb_and; (walk_at "tb"); (walk_at "tb"))
  | (apply Fw.tb_or; (walk_at "tb"); (walk_at "tb")))
local macro_rules | `(tactic| walk_at "tS") => `(tactic| (apply Fw.Ts.leS; (walk_at "ty"); decide +kernel))
local macro_rules | `(tactic| walk_at "tn") => `(tactic| simp only [List.set_cons_zero, List.set_cons_succ, List.replicate_succ, List.replicate_zero])
local macro_rules | `(tactic| walk_at "st") => `(tactic| first
  | (apply Fw.hs_setK; rfl; rfl; walk_at "tn")
  | (apply Fw.hs_set; (walk_at "ty"); rfl; rfl; intro d hd; walk_at "tn")
  | (apply Fw.hs_setL; (walk_at "tf"); rfl; rfl; intro ds hl hd; walk_at "tn")
  | (apply Fw.hs_ifret; (walk_at "tb"); (walk_at "tS"))
  | (apply Fw.hs_ifsetS; (walk_at "tb"); (walk_at "ty"); rfl; (first | exact Fw.sb_self | assumption); intro d hd; walk_at "tn")
  | (apply Fw.h_ret; (walk_at "tS")))
local macro_rules | `(tactic| walk_at "tc") => `(tactic| (apply Fw.Tc.le; apply Fw.c_range; (walk_at "ty"); decide +kernel; rfl; intro i; walk_at "tn"))
/-! a text of just so many signs -/
def one (c : Nat) : Fw.D := .str ⟨#[c]⟩
def AL : Str := "abcdefghijklmnopqrstuvwxyzABCDEFGHIJKLMNOPQRSTUVWXYZ0123456789 ,.;:-+*/=!?"
theorem al_len : AL.cps.toList.length = 74 := by decide +kernel
theorem core_x (w1 : Sl) (w2 : Fw.D) (w3 : Fw.D) (M : Sl) (A : Str) (i : Fw.D) (L k : Int) (c : Fw.D) (DR : FM) (GL : List Fw.D → Option ER) (IX : Fw.D → Fw.D → Option ER)
    (h1 : GL [.str A] = some (.sh (.int L))) (h2 : DR [.pn true w2, .sh (.int L)] = .ok (.sh (.int k)) [w3]) (h3 : IX (.str A) (.int k) = some (.sh c)) :
    (e2 IX (eVar 2) (eF [true, false] DR [] [eVar 0, eB GL [eVar 2]])) [.pn true w2, M, .sh (.str A), .sh i] = .ok (.sh c) [.pn true w3, M, .sh (.str A), .sh i] := by
  walk_at "ev"
theorem letters (M : Sl) : ∀ (is : List Fw.D) (w : Wl), ∃ (w' : Wl) (cs : List Nat), cs.length = is.length ∧ lcLoop none [3] (gN 3) mYes x1_z_text is [.pn true (wD w), M, .sh (.str AL), .un] = some (cs.map one, [.pn true (wD w'), M, .sh (.str AL), .un])
  | [], w => ⟨w, [], rfl, rfl⟩
  | i :: is, w => by
    obtain ⟨k, w1, k0, k1, e1⟩ := draw_ok w 74 (by decide) (by decide)
    obtain ⟨w2, cs, hl, e2'⟩ := letters M is w1
    obtain ⟨n, rfl⟩ := Int.eq_ofNat_of_zero_le k0
    have hn : n < AL.cps.toList.length := by rw [al_len]; omega
    have h3 : dIx (.str AL) (.int (n : Int)) = some (.sh (one AL.cps.toList[n])) := by
      unfold dIx
      have : L2.atI AL.cps.toList (n : Int) = some AL.cps.toList[n] := by rw [L2.atI_nat (j := n) (List.getElem?_eq_getElem hn)]
      have lz : AL.length ≤ 1000000 := by decide +kernel
      simp only [if_pos lz, this]
      rfl
    have h1 : gLen [.str AL] = some (.sh (.int 74)) := by
      rw [glen_s (by rw [al_len]; omega)]
      unfold ln
      rw [al_len]
      rfl
    have x : x1_z_text [.pn true (wD w), M, .sh (.str AL), .sh i] = _ := core_x (.sh i) (wD w) (wD w1) M AL i 74 (n : Int) (one AL.cps.toList[n]) m_z_draw gLen dIx h1 e1 h3
    refine ⟨w2, AL.cps.toList[n] :: cs, by rw [List.length_cons, List.length_cons, hl], ?_⟩
    unfold lcLoop
    have g : gN 3 i [.pn true (wD w), M, .sh (.str AL), .un] = some [.pn true (wD w), M, .sh (.str AL), .sh i] := rfl
    have wp : wipeE [.pn true (wD w1), M, .sh (.str AL), .sh i] [3] = [.pn true (wD w1), M, .sh (.str AL), .un] := rfl
    simp only [g, mYes, x, shr_sh, chkd]
    rw [wp, e2']
    rfl
def sOf (cs : List Nat) : Str := ⟨cs.toArray⟩
theorem sOf_tl (cs : List Nat) : (sOf cs).cps.toList = cs := by unfold sOf; simp
theorem strs_one : ∀ (cs : List Nat), strsOf? (cs.map one) = some (cs.map fun c => (⟨#[c]⟩ : Str))
  | [] => rfl
  | c :: cs => by
    show (match strsOf? (cs.map one) with | some ns => some (_ :: ns) | none => none) = _
    rw [strs_one cs]
    rfl
theorem joinL_nil : ∀ (cs : List Nat), TL.joinL [] (cs.map fun c => [c]) = cs
  | [] => rfl
  | [c] => rfl
  | c :: d :: cs => by
    show [c] ++ ([] ++ TL.joinL [] ((d :: cs).map fun c => [c])) = _
    rw [joinL_nil (d :: cs)]
    rfl
theorem join_one (cs : List Nat) (h : cs.length ≤ 1000) : gJoin (.str "") [.lst (cs.map one)] = some (.sh (.str (sOf cs))) := by
  have e : Txt.join (Str.ofString "") (cs.map fun c => (⟨#[c]⟩ : Str)) = sOf cs := by
    refine TL.ext_tl ?_
    have z : TL.tl (Str.ofString "") = [] := by decide
    have e2 : TL.tl (sOf cs) = cs := sOf_tl cs
    rw [TL.join_eq, TL.tl_join, List.map_map, e2, z]
    exact joinL_nil cs
  have sm : ∀ (cs : List Nat), ((cs.map fun c => (⟨#[c]⟩ : Str)).map fun x : Str => x.length).sum = cs.length := by
    intro cs
    induction cs with
    | nil => rfl
    | cons c cs ih => rw [List.map_cons, List.map_cons, List.sum_cons, ih, List.length_cons]; show 1 + _ = _; omega
  show (match strsOf? (cs.map one) with
    | some ys => if (ys.map fun x : Str => x.length).sum + ys.length * (Str.ofString "").length ≤ 1000000 then some (ER.sh (Fw.D.str (Txt.join "" ys))) else none
    | none => none) = _
  rw [strs_one]
  dsimp only
  rw [if_pos (by rw [sm, List.length_map]; have : (Str.ofString "").length = 0 := by decide
                 rw [this]; omega), e]
theorem core_text (w w' : Fw.D) (n : Int) (A S : Str) (R C : List Fw.D) (X : M ER) (hR : R.length ≤ 1000000) (h1 : rng1 [.int n] = some R) (h2 : lcLoop none [3] (gN 3) mYes X R [.pn true w, .sh (.int n), .sh (.str A), .un] = some (C, [.pn true w', .sh (.int n), .sh (.str A), .un])) (h3 : gJoin (.str "") [.lst C] = some (.sh (.str S))) :
    defN 2 4 (sSeq (sSet 2 (eC (.str A))) (sRet (eMetS gJoin (eC (.str "")) [eLc (iB rng1 [eVar 1]) [3] (gN 3) (mYes) X]))) [.pn true w, .sh (.int n)] = .ok (.sh (.str S)) [w'] := by
  walk_at "ev"
theorem text_ok (n : Int) (h0 : 0 ≤ n) (h1 : n ≤ 200) (w : Wl) : ∃ (w' : Wl) (t : Str), ln t = n ∧ m_z_text [.pn true (wD w), .sh (.int n)] = .ok (.sh (.str t)) [wD w'] := by
  obtain ⟨w', cs, hl, e⟩ := letters (.sh (.int n)) (intsD 0 n.toNat) w
  rw [intsD_len] at hl
  refine ⟨w', sOf cs, by unfold ln; rw [sOf_tl]; omega, ?_⟩
  exact core_text (wD w) (wD w') n AL (sOf cs) _ _ x1_z_text (by rw [intsD_len]; omega) (rng1_ok h0 (by omega)) e (join_one cs (by omega))

theorem ts_run {f : M ER} {rest : En} {x y : Int} (h : Ts wD f rest (Ib x y)) (w : Wl) : ∃ (w' : Wl) (i : Int), x ≤ i ∧ i < y ∧ f (.pn true (wD w) :: rest) = .ok (.sh (.int i)) (.pn true (wD w') :: rest) := by
  obtain ⟨w', d, e, i, rfl, h1, h2⟩ := h w
  exact ⟨w', i, h1, h2, e⟩
/-! a piece -/
theorem sub_min (s : Str) {a b : Int} (h0 : 0 ≤ a) (hb : 0 ≤ b) : sub s a b = sub s a (min b (ln s)) := by
  have e : s.length = s.cps.toList.length := by unfold Str.length; simp
  have k : HT.sIx s.length s.length (some b) = HT.sIx s.length s.length (some (min b (ln s))) := by
    unfold HT.sIx
    dsimp only
    unfold ln
    rw [if_neg (by omega), if_neg (by omega)]
    omega
  unfold sub L2.cutS
  simp only [k]
def txtAt (far : Int) (t : Str) (x : Int) : Option Nat := if far ≤ x then t.cps.toList[(x - far).toNat]? else none
structure Pc (far : Int) (t : Str) (at' : Int) (acc : List PT) : Prop where
  cp : CP acc
  rng : InP far (far + ln t) acc
  lt : ∀ p ∈ acc, fin p < far + at'
  nn : 0 ≤ at'
  tx : ∀ x c, tell acc x = some c → txtAt far t x = some c
theorem pc_step {far at' wd k : Int} {t : Str} {acc : List PT} (h : Pc far t at' acc) (hw : 0 < wd) (hk : 0 ≤ k) : Pc far t (at' + wd + 1 + k) (if decide (at' < ln t) = true then acc ++ [(far + at', sub t at' (at' + wd))] else acc) := by
  obtain ⟨cp, rng, lt, nn, tx⟩ := h
  by_cases q : at' < ln t
  · rw [if_pos (decide_eq_true q), sub_min t nn (by omega)]
    have b1 : at' ≤ min (at' + wd) (ln t) := by omega
    have b2 : min (at' + wd) (ln t) ≤ ln t := by omega
    have l := sub_ln t nn b1 b2
    have f : fin (far + at', sub t at' (min (at' + wd) (ln t))) = far + min (at' + wd) (ln t) := by
      show far + at' + ln (sub t at' (min (at' + wd) (ln t))) = _
      rw [l]; omega
    refine ⟨cp_app.mpr ⟨cp, cp_one (by rw [l]; omega), fun a ha b hb => ?_⟩, fun p hp => ?_, fun p hp => ?_, by omega, fun x c hx => ?_⟩
    · rw [List.mem_singleton.mp hb]; exact lt a ha
    · rcases List.mem_append.mp hp with hp | hp
      · exact rng p hp
      · rw [List.mem_singleton.mp hp, f]; show far ≤ far + at' ∧ _; omega
    · rcases List.mem_append.mp hp with hp | hp
      · have := lt p hp; omega
      · rw [List.mem_singleton.mp hp, f]; omega
    · rw [tell_app] at hx
      cases e : tell acc x with
      | some d => rw [e] at hx; exact tx x c (e.trans hx)
      | none =>
        rw [e] at hx
        have hx : tell [(far + at', sub t at' (min (at' + wd) (ln t)))] x = some c := hx
        obtain ⟨p, hp, h1, h2, h3⟩ := tell_mem hx
        rw [List.mem_singleton.mp hp] at h1 h2 h3
        rw [f] at h2
        have h1 : far + at' ≤ x := h1
        unfold at1 at h3
        rw [if_pos ⟨h1, by rw [f]; exact h2⟩] at h3
        have h3 : (sub t at' (min (at' + wd) (ln t))).cps.toList[(x - (far + at')).toNat]? = some c := h3
        rw [sub_at t nn b1 b2 (by omega)] at h3
        unfold txtAt
        rw [if_pos (by omega), ← h3]
        congr 1
        omega
  · rw [if_neg (by rw [decide_eq_false q]; exact Bool.false_ne_true)]
    exact ⟨cp, rng, fun p hp => by have := lt p hp; omega, by omega, tx⟩
theorem core_pc (w0 w1 w2 i : Fw.D) (t S : Str) (far at' L wd k : Int) (q : Bool) (A A2 : List Fw.D) (X Y : M ER) (GL : List Fw.D → Option ER) (AP : Fw.D → List Fw.D → Option (Fw.D × Fw.D)) (SL : Fw.D → Option Int → Option Int → Option ER)
    (h1 : X [.pn true w0, .sh (.str t), .sh (.int far), .ow (.lst A), .sh (.int at'), .sh i, .un] = .ok (.sh (.int wd)) [.pn true w1, .sh (.str t), .sh (.int far), .ow (.lst A), .sh (.int at'), .sh i, .un])
    (h2 : GL [.str t] = some (.sh (.int L))) (h3 : dLt (.int at') (.int L) = some (.sh (.bl q)))
    (h4 : SL (.str t) (some at') (some (at' + wd)) = some (.sh (.str S))) (h5 : AP (.lst A) [.tup [.int (far + at'), .str S]] = some (.lst A2, .non))
    (h6 : ∀ B, Y [.pn true w1, .sh (.str t), .sh (.int far), .ow (.lst B), .sh (.int at'), .sh i, .sh (.int wd)] = .ok (.sh (.int k)) [.pn true w2, .sh (.str t), .sh (.int far), .ow (.lst B), .sh (.int at'), .sh i, .sh (.int wd)]) :
    turn (gN 5) (sFg [5, 6] (sSeq (sSet 6 X) (sSeq (sIf (mB (e2 dLt (eVar 4) (eB GL [eVar 1]))) (sExpr (eMut 1 3 AP [eTup [e2 dAdd (eVar 2) (eVar 4), eSl SL (eVar 1) (some (eVar 4)) (some (e2 dAdd (eVar 4) (eVar 6)))]])) (sNil)) (sSet 4 (e2 dAdd (e2 dAdd (e2 dAdd (eVar 4) (eVar 6)) (eC (.int 1))) Y)))))
      i [.pn true w0, .sh (.str t), .sh (.int far), .ow (.lst A), .sh (.int at'), .un, .un] = .nx [.pn true w2, .sh (.str t), .sh (.int far), .ow (.lst (if q = true then A2 else A)), .sh (.int (at' + wd + 1 + k)), .un, .un] := by
  unfold turn
  cases q with
  | true =>
    have h6 := h6 A2
    walk_at "ev"
  | false =>
    have h6 := h6 A
    walk_at "ev"
theorem piece_turn (far : Int) (t : Str) (ht : t.cps.toList.length ≤ 100) (w : Wl) (at' : Int) (acc : List PT) (h : Pc far t at' acc) (hl : acc.length < 900000) (i : Fw.D) : ∃ (w' : Wl) (at2 : Int) (acc2 : List PT), Pc far t at2 acc2 ∧ acc2.length ≤ acc.length + 1 ∧
    turn (gN 5) f1_z_piece i [.pn true (wD w), .sh (.str t), .sh (.int far), .ow (.lst (acc.map itD)), .sh (.int at'), .un, .un] = .nx [.pn true (wD w'), .sh (.str t), .sh (.int far), .ow (.lst (acc2.map itD)), .sh (.int at2), .un, .un] := by
  have hX : Ts wD (e2 dAdd (eC (.int 1)) (eF [true, false] m_z_draw [] [eVar 0, e2 dIx (eLst [eC (.int 1), eC (.int 5), eC (.int 30)]) (eF [true, false] m_z_draw [] [eVar 0, eC (.int 3)])])) [.sh (.str t), .sh (.int far), .ow (.lst (acc.map itD)), .sh (.int at'), .sh i, .un] (Ib 1 100) := by
    refine Ts.leI (by walk_at "ty") ?_
    decide +kernel
  obtain ⟨w1, wd, d0, d1, e1⟩ := ts_run hX w
  obtain ⟨k, w2, k0, k1, e2'⟩ := draw_ok w1 9 (by decide) (by decide)
  have hY : ∀ B : List Fw.D, (eF [true, false] m_z_draw [] [eVar 0, eC (.int 9)]) [.pn true (wD w1), .sh (.str t), .sh (.int far), .ow (.lst B), .sh (.int at'), .sh i, .sh (.int wd)] = .ok (.sh (.int k)) [.pn true (wD w2), .sh (.str t), .sh (.int far), .ow (.lst B), .sh (.int at'), .sh i, .sh (.int wd)] := fun B => by
    clear h hl d0 d1 k0 k1 e1 hX
    walk_at "ev"
  have hh := core_pc (wD w) (wD w1) (wD w2) i t (sub t at' (at' + wd)) far at' (ln t) wd k (decide (at' < ln t)) (acc.map itD) ((acc ++ [(far + at', sub t at' (at' + wd))]).map itD) _ _ gLen gAppend dSl e1 (glen_s (by omega)) rfl (if_pos (by have := ln_le ht; omega)) (by
    rw [append_lst (by rw [List.length_map]; omega), List.map_append]
    rfl) hY
  refine ⟨w2, at' + wd + 1 + k, _, pc_step h (by omega) k0, by split <;> simp, ?_⟩
  have e : (if decide (at' < ln t) = true then (acc ++ [(far + at', sub t at' (at' + wd))]).map itD else acc.map itD) = (if decide (at' < ln t) = true then acc ++ [(far + at', sub t at' (at' + wd))] else acc).map itD := by split <;> rfl
  rw [e] at hh
  exact hh
theorem piece_loop (far : Int) (t : Str) (ht : t.cps.toList.length ≤ 100) : ∀ (is : List Fw.D) (w : Wl) (at' : Int) (acc : List PT), Pc far t at' acc → acc.length + is.length < 900000 → ∃ (w' : Wl) (at2 : Int) (acc2 : List PT), Pc far t at2 acc2 ∧
    loop (gN 5) f1_z_piece is [.pn true (wD w), .sh (.str t), .sh (.int far), .ow (.lst (acc.map itD)), .sh (.int at'), .un, .un] = .nx [.pn true (wD w'), .sh (.str t), .sh (.int far), .ow (.lst (acc2.map itD)), .sh (.int at2), .un, .un]
  | [], w, at', acc, h, _ => ⟨w, at', acc, h, rfl⟩
  | i :: is, w, at', acc, h, hl => by
    rw [List.length_cons] at hl
    obtain ⟨w1, at1', acc1, h1, l1, e1⟩ := piece_turn far t ht w at' acc h (by omega) i
    obtain ⟨w2, at2, acc2, h2, e2'⟩ := piece_loop far t ht is w1 at1' acc1 h1 (by omega)
    refine ⟨w2, at2, acc2, h2, ?_⟩
    rw [loop_turn, e1]
    exact e2'
theorem core_piece (w0 w1 w2 w3 : Fw.D) (t : Str) (far L a n at2 : Int) (R C : List Fw.D) (DR : FM) (F : SM) (GL : List Fw.D → Option ER) (hR : R.length ≤ 1000000)
    (h1 : GL [.str t] = some (.sh (.int L))) (h2 : DR [.pn true w0, .sh (.int L)] = .ok (.sh (.int a)) [w1]) (h3 : DR [.pn true w1, .sh (.int 4)] = .ok (.sh (.int n)) [w2]) (h4 : rng1 [.int (1 + n)] = some R)
    (h5 : loop (gN 5) F R [.pn true w2, .sh (.str t), .sh (.int far), .ow (.lst []), .sh (.int a), .un, .un] = .nx [.pn true w3, .sh (.str t), .sh (.int far), .ow (.lst C), .sh (.int at2), .un, .un]) :
    defN 3 7 (sSeq (sSet 3 (eLst [])) (sSeq (sSet 4 (eF [true, false] DR [] [eVar 0, eB GL [eVar 1]])) (sSeq (sFor (iB rng1 [e2 dAdd (eC (.int 1)) (eF [true, false] DR [] [eVar 0, eC (.int 4)])]) (gN 5) (F)) (sRet (eVar 3))))) [.pn true w0, .sh (.str t), .sh (.int far)] = .ok (.fr (.lst C)) [w3] := by
  walk_at "ev"
theorem piece_ok (far : Int) (t : Str) (h0 : 0 < ln t) (h1 : ln t ≤ 60) (w : Wl) : ∃ (w' : Wl) (ps : List PT), CP ps ∧ InP far (far + ln t) ps ∧ (∀ x c, tell ps x = some c → txtAt far t x = some c) ∧
    m_z_piece [.pn true (wD w), .sh (.str t), .sh (.int far)] = .ok (.fr (.lst (ps.map itD))) [wD w'] := by
  have ht : t.cps.toList.length ≤ 100 := by unfold ln at h1; omega
  obtain ⟨a, w1, a0, a1, e1⟩ := draw_ok w (ln t) h0 (by omega)
  obtain ⟨n, w2, n0, n1, e2'⟩ := draw_ok w1 4 (by decide) (by decide)
  obtain ⟨w3, at2, ps, hp, e3⟩ := piece_loop far t ht (intsD 0 (1 + n).toNat) w2 a [] ⟨cp_nil, fun _ h => absurd h (by simp), fun _ h => absurd h (by simp), a0, fun x c h => by cases h⟩ (by rw [intsD_len, List.length_nil]; omega)
  refine ⟨w3, ps, hp.cp, hp.rng, hp.tx, ?_⟩
  exact core_piece (wD w) (wD w1) (wD w2) (wD w3) t far (ln t) a n at2 _ _ m_z_draw f1_z_piece gLen (by rw [intsD_len]; omega) (glen_s (by omega)) e1 e2' (rng1_ok (by omega) (by omega)) e3
end Law
set_option linter.all false
set_option maxRecDepth 100000
set_option Elab.async false
namespace Law
open PySem Fw
local macro_rules | `(tactic| walk_at "ev") => `(tactic| simp only [Fw.defN, Fw.defX, Fw.arity_ap, Fw.mkN_ap, Fw.mkF_ap, Fw.eC_ap, Fw.eVar_ap, Fw.e2_ap, Fw.op2_ap, Fw.cur_sh, Fw.cur_fr, Fw.cur_bo, Fw.e1_ap, Fw.eA_nil, Fw.eA_cons, Fw.eB_ap, Fw.curs_nil, Fw.curs_cons, Fw.eTup_ap, Fw.eLst_ap, Fw.shrs_nil, Fw.shrs_cons, Fw.shr_sh, Fw.shr_fr, Fw.shr_bo, Fw.eF_ap, Fw.callM_ap, Fw.sSeq_ap, Fw.sSet_ap, Fw.then_ok, Fw.put_ap, Fw.sExpr_ap, Fw.sRet_ap, Fw.retR_sh, Fw.retR_fr, Fw.retR_bo, Fw.sIf_ap, Fw.mB_ap, Fw.toB_bl, Fw.mT_ap, Fw.mAnd_ap, Fw.mOr_ap, Fw.mNot_ap, Fw.eAnd_ap, Fw.eOr_ap, Fw.eNot_ap, Fw.eIf_ap, Fw.eChain_ap, Fw.sNil_ap, Fw.sFg_ap, Fw.wipeE_nil, Fw.wipeE_cons, Fw.eMut_ap, Fw.eMetS_ap, Fw.afterF, Fw.toF, Fw.sAsg_ap, Fw.R.bind_ok, Fw.R.bind_exc, Fw.R.bind_bad, Fw.R.then,
  List.length_cons, List.length_nil, List.cons_append, List.nil_append, List.append_nil, List.replicate_succ, List.replicate_zero, List.getElem?_cons_zero, List.getElem?_cons_succ, List.set_cons_zero, List.set_cons_succ, Option.bind_some, Option.bind_none, Fw.dat_sh, Fw.dat_ow, Fw.dat_pn, Fw.dat_lk, Fw.pn_un, Fw.pn_sh, Fw.pn_ow, Fw.mu_ow, Fw.mu_pn, Fw.own_ow, Fw.own_pn, Fw.own_lk, Fw.lock_ow, Fw.lock_pnT, Fw.lock_pnF, Fw.lock_lk, Fw.with_ow, Fw.with_pn, if_true, if_false, Bool.false_eq_true, Bool.true_eq_false, ite_true, ite_false, reduceIte,
  Fw.ix_lst, Fw.ix_rol, Fw.ix_tup, Fw.ix_rot, Fw.at0, Fw.at1, Fw.at2, Fw.at3, Fw.at4, Fw.atm1, Fw.add_int, Fw.add_lst, Fw.add_tup, Fw.add_str, Fw.sub_int, Fw.mul_mod, Fw.mul_r, Fw.mul_l, Fw.div_int, Fw.mod_int, Fw.p10_8, Fw.p10_18, Fw.pow_int, Fw.neg_int, Fw.cmp_int, Fw.is_non, Fw.isnot_non, Fw.isNon_non, Fw.isNon_int, Fw.isNon_str, Fw.isNon_lst, Fw.isNon_tup, Fw.eq_int, Fw.ne_int, Fw.eq_str, Fw.ne_str, Fw.len_lst, Fw.len_rol, Fw.len_tup, Fw.len_str, Fw.max2_int, Fw.min2_int, Fw.int_int, Fw.int_bl, Fw.list_lst, Fw.list_tup, Fw.tuple_lst, Fw.tuple_tup, Fw.append_lst, Fw.tru_bl, Fw.tru_lst, Fw.sl_rol, Fw.sl_lst,
  Fw.cellAt_ap, Fw.kind_lst, Fw.putD_ap, Fw.sPut_ap, Fw.putAt_ap, Fw.set_last, Fw.set0, Fw.set1, Fw.set2, Fw.pass_nil, Fw.pass_n, Fw.pass_c, Fw.passArg_sh, Fw.passArg_fr, Fw.passArg_boF, Fw.passArg_boT, Fw.ioOk_n, Fw.ioOk_nil, Fw.ioOk_bo, Fw.ioOk_sh, Fw.ioOk_fr, Fw.bo_nil, Fw.bo_bo, Fw.bo_sh, Fw.bo_fr, Fw.io_n, Fw.io_nil, Fw.io_T, Fw.io_F, Fw.outs_nil, Fw.outs_T, Fw.outs_F, Fw.outs_sh, Fw.putOuts_nil, Fw.putOuts_cons, Fw.gN_ap, Fw.gT_tup, Fw.gAll_nil, Fw.gAll_cons, Fw.sFor_ap, Fw.eLc_ap, Fw.back_nx, Fw.back_rt, Fw.iSeq_ap, Fw.seq_lst, Fw.seq_tup, Fw.iB_ap, Fw.yes_ap, Fw.eSl_ap, Fw.part_none, Fw.part_some, Fw.partR_int, Fw.rest_nil, Fw.rest_cons, Fw.keep_sh, Fw.keep_un, Fw.keep_none,
  List.map_nil, List.map_cons, List.contains_nil, List.contains_cons, Bool.not_false, Bool.not_true, Bool.and_self, Bool.and_true, Bool.true_and, Bool.false_and, Bool.and_false, Bool.or_true, Bool.true_or, Bool.or_false, Bool.false_or, Nat.reduceAdd, Nat.reduceSub, Nat.reduceEqDiff, Nat.reduceBEq, decide_true, decide_false, Int.reduceLT, Int.reduceLE, Int.reduceNeg, Int.reducePow, Int.reduceToNat, Nat.reducePow, Nat.reduceLT, Nat.reduceLeDiff, and_true, true_and, and_self, not_true_eq_false, not_false_eq_true,
  Fw.eNew_ap, Fw.newOf_ap, Fw.gU_lst, Fw.gTU_lst, Fw.gTU_tup, Fw.sAsg2_ap, Fw.rev_lst, Fw.rev_rol, Fw.eFf_ap, Fw.eDict0_ap, Fw.iS_ap, Fw.sRetN_ap, Fw.sPass_ap, Fw.sBreak_ap, Fw.sCont_ap, Fw.i_and, Fw.i_or, Fw.i_andE, Fw.i_orE, Fw.i_int, Fw.i_str, Fw.at5, Fw.at6, Fw.at7, Fw.at8, Fw.at9, Fw.at10, Fw.at11, Fw.at12, Fw.at13, Fw.at14, Fw.at15, Fw.at16, Fw.at17, Fw.at18, Fw.at19, Fw.at20, Fw.at21, Fw.at22, Fw.at23, Fw.at24, Fw.eFK_ap, Fw.permM_cons, Fw.pick_nil, Fw.pick_cons, Fw.noT_sh, Fw.noT_pn, Fw.inB_def, Fw.eMeth_ap, Fw.eMk_ap, Fw.popN_ok, Fw.popN_exc, Fw.sRaise_ap, Fw.sTry_ap, Fw.eXf_ap, Fw.lookX_ap, Fw.endS_nx, Fw.endS_rt, Fw.isX_ty, Fw.isX_cl, Fw.isX_tup, Fw.then_exc, true_or, or_false, or_true, List.lookup_cons, List.lookup_nil, List.take_zero, List.take_succ_cons, List.drop_zero, List.drop_succ_cons, List.all_cons, List.all_nil, List.dropLast_cons₂, List.dropLast_singleton, _root_.eq_self, Nat.reduceBEq, Nat.zero_add, Nat.reduceLeDiff, Nat.sub_self, Nat.lt_irrefl, Nat.add_zero, Fw.lc_nil, Fw.lc_consN, Fw.loop_nil, Fw.loop_cons, Fw.rng1_1, Fw.rng1_2, Fw.rng1_3, Fw.rng1_4, Fw.rng1_5, Fw.rng1_6, Fw.rng1_7, Fw.rng1_8, Fw.rng1_9, Fw.rng1_10, Fw.rng1_11, Fw.rng1_12, Fw.rng2_3_8, Fw.rng2_3_6, Fw.rng2_1_3, Fw.rng2_1_4, Fw.rng2_2_5, Fw.sPar_ap, Fw.eP_nil, Fw.eP_cons, Fw.nrm_sh, Fw.nrm_fr, Fw.nrm_bo, Fw.puts_nil, Fw.puts_cons, Fw.put1_sh, Fw.put1_fr, Fw.eMetL_ap, Fw.isLst_lst, Fw.kind_dk, Fw.eGet1_ap, Fw.eGet2_ap, Fw.getK_ap, Fw.dkAt_ap, Fw.shOf_sh, Fw.key_str, Fw.key_int, Fw.in2_str, Fw.nin2_str, Option.getD_some, Option.getD_none, Option.isSome_some, Option.isSome_none, *])
local macro_rules | `(tactic| walk_at "e0") => `(tactic| simp only [Fw.defN, Fw.defX, Fw.arity_ap, Fw.mkN_ap, Fw.mkF_ap, Fw.eC_ap, Fw.eVar_ap, Fw.e2_ap, Fw.op2_ap, Fw.cur_sh, Fw.cur_fr, Fw.cur_bo, Fw.e1_ap, Fw.eA_nil, Fw.eA_cons, Fw.eB_ap, Fw.curs_nil, Fw.curs_cons, Fw.eTup_ap, Fw.eLst_ap, Fw.shrs_nil, Fw.shrs_cons, Fw.shr_sh, Fw.shr_fr, Fw.shr_bo, Fw.eF_ap, Fw.callM_ap, Fw.sSeq_ap, Fw.sSet_ap, Fw.then_ok, Fw.put_ap, Fw.sExpr_ap, Fw.sRet_ap, Fw.retR_sh, Fw.retR_fr, Fw.retR_bo, Fw.sIf_ap, Fw.mB_ap, Fw.toB_bl, Fw.mT_ap, Fw.mAnd_ap, Fw.mOr_ap, Fw.mNot_ap, Fw.eAnd_ap, Fw.eOr_ap, Fw.eNot_ap, Fw.eIf_ap, Fw.eChain_ap, Fw.sNil_ap, Fw.sFg_ap, Fw.wipeE_nil, Fw.wipeE_cons, Fw.eMut_ap, Fw.eMetS_ap, Fw.afterF, Fw.toF, Fw.sAsg_ap, Fw.R.bind_ok, Fw.R.bind_exc, Fw.R.bind_bad, Fw.R.then,
  List.length_cons, List.length_nil, List.cons_append, List.nil_append, List.append_nil, List.replicate_succ, List.replicate_zero, List.getElem?_cons_zero, List.getElem?_cons_succ, List.set_cons_zero, List.set_cons_succ, Option.bind_some, Option.bind_none, Fw.dat_sh, Fw.dat_ow, Fw.dat_pn, Fw.dat_lk, Fw.pn_un, Fw.pn_sh, Fw.pn_ow, Fw.mu_ow, Fw.mu_pn, Fw.own_ow, Fw.own_pn, Fw.own_lk, Fw.lock_ow, Fw.lock_pnT, Fw.lock_pnF, Fw.lock_lk, Fw.with_ow, Fw.with_pn, if_true, if_false, Bool.false_eq_true, Bool.true_eq_false, ite_true, ite_false, reduceIte,
  Fw.ix_lst, Fw.ix_rol, Fw.ix_tup, Fw.ix_rot, Fw.at0, Fw.at1, Fw.at2, Fw.at3, Fw.at4, Fw.atm1, Fw.add_int, Fw.add_lst, Fw.add_tup, Fw.add_str, Fw.sub_int, Fw.mul_mod, Fw.mul_r, Fw.mul_l, Fw.div_int, Fw.mod_int, Fw.p10_8, Fw.p10_18, Fw.pow_int, Fw.neg_int, Fw.cmp_int, Fw.is_non, Fw.isnot_non, Fw.isNon_non, Fw.isNon_int, Fw.isNon_str, Fw.isNon_lst, Fw.isNon_tup, Fw.eq_int, Fw.ne_int, Fw.eq_str, Fw.ne_str, Fw.len_lst, Fw.len_rol, Fw.len_tup, Fw.len_str, Fw.max2_int, Fw.min2_int, Fw.int_int, Fw.int_bl, Fw.list_lst, Fw.list_tup, Fw.tuple_lst, Fw.tuple_tup, Fw.append_lst, Fw.tru_bl, Fw.tru_lst, Fw.sl_rol, Fw.sl_lst,
  Fw.cellAt_ap, Fw.kind_lst, Fw.putD_ap, Fw.sPut_ap, Fw.putAt_ap, Fw.set_last, Fw.set0, Fw.set1, Fw.set2, Fw.pass_nil, Fw.pass_n, Fw.pass_c, Fw.passArg_sh, Fw.passArg_fr, Fw.passArg_boF, Fw.passArg_boT, Fw.ioOk_n, Fw.ioOk_nil, Fw.ioOk_bo, Fw.ioOk_sh, Fw.ioOk_fr, Fw.bo_nil, Fw.bo_bo, Fw.bo_sh, Fw.bo_fr, Fw.io_n, Fw.io_nil, Fw.io_T, Fw.io_F, Fw.outs_nil, Fw.outs_T, Fw.outs_F, Fw.outs_sh, Fw.putOuts_nil, Fw.putOuts_cons, Fw.gN_ap, Fw.gT_tup, Fw.gAll_nil, Fw.gAll_cons, Fw.sFor_ap, Fw.eLc_ap, Fw.back_nx, Fw.back_rt, Fw.iSeq_ap, Fw.seq_lst, Fw.seq_tup, Fw.iB_ap, Fw.yes_ap, Fw.eSl_ap, Fw.part_none, Fw.part_some, Fw.partR_int, Fw.rest_nil, Fw.rest_cons, Fw.keep_sh, Fw.keep_un, Fw.keep_none,
  List.map_nil, List.map_cons, List.contains_nil, List.contains_cons, Bool.not_false, Bool.not_true, Bool.and_self, Bool.and_true, Bool.true_and, Bool.false_and, Bool.and_false, Bool.or_true, Bool.true_or, Bool.or_false, Bool.false_or, Nat.reduceAdd, Nat.reduceSub, Nat.reduceEqDiff, Nat.reduceBEq, decide_true, decide_false, Int.reduceLT, Int.reduceLE, Int.reduceNeg, Int.reducePow, Int.reduceToNat, Nat.reducePow, Nat.reduceLT, Nat.reduceLeDiff, and_true, true_and, and_self, not_true_eq_false, not_false_eq_true,
  Fw.eNew_ap, Fw.newOf_ap, Fw.gU_lst, Fw.gTU_lst, Fw.gTU_tup, Fw.sAsg2_ap, Fw.rev_lst, Fw.rev_rol, Fw.eFf_ap, Fw.eDict0_ap, Fw.iS_ap, Fw.sRetN_ap, Fw.sPass_ap, Fw.sBreak_ap, Fw.sCont_ap, Fw.i_and, Fw.i_or, Fw.i_andE, Fw.i_orE, Fw.i_int, Fw.i_str, Fw.at5, Fw.at6, Fw.at7, Fw.at8, Fw.at9, Fw.at10, Fw.at11, Fw.at12, Fw.at13, Fw.at14, Fw.at15, Fw.at16, Fw.at17, Fw.at18, Fw.at19, Fw.at20, Fw.at21, Fw.at22, Fw.at23, Fw.at24, Fw.eFK_ap, Fw.permM_cons, Fw.pick_nil, Fw.pick_cons, Fw.noT_sh, Fw.noT_pn, Fw.inB_def, Fw.eMeth_ap, Fw.eMk_ap, Fw.popN_ok, Fw.popN_exc, Fw.sRaise_ap, Fw.sTry_ap, Fw.eXf_ap, Fw.lookX_ap, Fw.endS_nx, Fw.endS_rt, Fw.isX_ty, Fw.isX_cl, Fw.isX_tup, Fw.then_exc, true_or, or_false, or_true, List.lookup_cons, List.lookup_nil, List.take_zero, List.take_succ_cons, List.drop_zero, List.drop_succ_cons, List.all_cons, List.all_nil, List.dropLast_cons₂, List.dropLast_singleton, _root_.eq_self, Nat.reduceBEq, Nat.zero_add, Nat.reduceLeDiff, Nat.sub_self, Nat.lt_irrefl, Nat.add_zero, Fw.lc_nil, Fw.lc_consN, Fw.loop_nil, Fw.loop_cons, Fw.rng1_1, Fw.rng1_2, Fw.rng1_3, Fw.rng1_4, Fw.rng1_5, Fw.rng1_6, Fw.rng1_7, Fw.rng1_8, Fw.rng1_9, Fw.rng1_10, Fw.rng1_11, Fw.rng1_12, Fw.rng2_3_8, Fw.rng2_3_6, Fw.rng2_1_3, Fw.rng2_1_4, Fw.rng2_2_5, Fw.sPar_ap, Fw.eP_nil, Fw.eP_cons, Fw.nrm_sh, Fw.nrm_fr, Fw.nrm_bo, Fw.puts_nil, Fw.puts_cons, Fw.put1_sh, Fw.put1_fr, Fw.eMetL_ap, Fw.isLst_lst, Fw.kind_dk, Fw.eGet1_ap, Fw.eGet2_ap, Fw.getK_ap, Fw.dkAt_ap, Fw.shOf_sh, Fw.key_str, Fw.key_int, Fw.in2_str, Fw.nin2_str, Option.getD_some, Option.getD_none, Option.isSome_some, Option.isSome_none])
local macro_rules | `(tactic| walk_at "go") => `(tactic| repeat' (first | done | rfl | (walk_at "ev"; done) | (split <;> try walk_at "ev")))
/-! the table -/
def plD (ps : List PT) : Fw.D := .lst (ps.map itD)
def kvT (p : Int × Nat) : L2.Key × Fw.D := (.inl p.1, one p.2)
theorem val_kvT (x : Int) : ∀ (tb : TB), valD (tb.map kvT) (.inl x) = (lookT tb x).map one
  | [] => rfl
  | p :: tb => by
    have ih := val_kvT x tb
    unfold valD lookT at *
    rw [List.map_cons, List.find?_cons, List.find?_cons]
    by_cases e : p.1 = x
    · have a : decide ((kvT p).1 = Sum.inl x) = true := decide_eq_true (by show Sum.inl p.1 = _; rw [e])
      have b : (p.1 == x) = true := beq_iff_eq.mpr e
      rw [a, b]; rfl
    · have a : decide ((kvT p).1 = Sum.inl x) = false := decide_eq_false (fun z => e (by injection z))
      have b : (p.1 == x) = false := beq_false_of_ne e
      rw [a, b]
      exact ih
theorem any_kvT (tb : TB) (x : Int) : ((tb.map kvT).any fun kv => decide (kv.1 = Sum.inl x)) = tb.any (fun q => q.1 == x) := by
  rw [List.any_map]
  congr 1
  funext p
  show decide ((kvT p).1 = Sum.inl x) = _
  by_cases e : p.1 = x
  · rw [decide_eq_true (by show Sum.inl p.1 = _; rw [e]), beq_iff_eq.mpr e]
  · rw [decide_eq_false (fun z => e (by injection z)), beq_false_of_ne e]
theorem put_kvT (tb : TB) (p : Int × Nat) (h : lookT tb p.1 = none) : putDk (tb.map kvT) (.inl p.1) (one p.2) = (setT tb p).map kvT := by
  have a := lookT_any tb p.1
  rw [h] at a
  have a : tb.any (fun q => q.1 == p.1) = false := a.symm
  unfold putDk setT
  rw [any_kvT, a, if_neg Bool.false_ne_true, if_neg Bool.false_ne_true, List.map_append]
  rfl
theorem setd_run (i : Nat) {fk fv : M ER} {en : En} {kvs : List (L2.Key × Fw.D)} {dk dv : Fw.D} {k : L2.Key} (h0 : cellAt 2 en i = some (.dk kvs)) (h1 : fk en = .ok (.sh dk) en) (hk : keyOf dk = some k) (h2 : fv en = .ok (.sh dv) en) (hl : kvs.length < 1000000) :
    eSetd i fk fv en = match valD kvs k with
      | some d => .ok (.sh d) en
      | none => .ok (.sh dv) (putD en i (.dk (putDk kvs k dv))) := by
  rw [eSetd_ap, h0]
  dsimp only
  rw [h1, Fw.R.bind_ok, h2, Fw.R.bind_ok]
  show setdK i ((some dk).bind keyOf) dv en = _
  unfold setdK
  rw [Option.bind_some, hk, h0]
  dsimp only
  first
    | (rw [if_pos hl]; cases valD kvs k <;> rfl)
    | rw [if_pos hl]
theorem core_t1 (P s2 : Sl) (K K2 : List (L2.Key × Fw.D)) (a k : Int) (s : Str) (r : Fw.D) (S : M ER) (h : S [P, .ow (.dk K), s2, .sh (.int a), .sh (.str s), .sh (.int k)] = .ok (.sh r) [P, .ow (.dk K2), s2, .sh (.int a), .sh (.str s), .sh (.int k)]) :
    turn (gN 5) (sFg [5] (sExpr S)) (.int k) [P, .ow (.dk K), s2, .sh (.int a), .sh (.str s), .un] = .nx [P, .ow (.dk K2), s2, .sh (.int a), .sh (.str s), .un] := by
  unfold turn
  walk_at "ev"
theorem core_k1 (a0 a1 a2 : Sl) (a k : Int) (s : Str) : (e2 dAdd (eVar 3) (eVar 5)) [a0, a1, a2, .sh (.int a), .sh (.str s), .sh (.int k)] = .ok (.sh (.int (a + k))) [a0, a1, a2, .sh (.int a), .sh (.str s), .sh (.int k)] := by
  walk_at "ev"
theorem core_v1 (a0 a1 a2 : Sl) (a k : Int) (s : Str) (c : Fw.D) (IX : Fw.D → Fw.D → Option ER) (h : IX (.str s) (.int k) = some (.sh c)) : (e2 IX (eVar 4) (eVar 5)) [a0, a1, a2, .sh (.int a), .sh (.str s), .sh (.int k)] = .ok (.sh c) [a0, a1, a2, .sh (.int a), .sh (.str s), .sh (.int k)] := by
  walk_at "ev"
theorem ix_s {s : Str} {i c : Nat} (hl : s.cps.toList.length ≤ 100000) (h : s.cps.toList[i]? = some c) : dIx (.str s) (.int (i : Int)) = some (.sh (one c)) := by
  unfold dIx
  have : L2.atI s.cps.toList (i : Int) = some c := by rw [L2.atI_nat (j := i) h]
  have lz : s.length ≤ 1000000 := by have := ln_le hl; omega
  simp only [if_pos lz, this]
  rfl
theorem tab_turn (P s2 : Sl) (tb : TB) (a : Int) (s : Str) (i c : Nat) (hs : s.cps.toList.length ≤ 100000) (hc : s.cps.toList[i]? = some c) (hl : tb.length < 900000) :
    turn (gN 5) f1_z_table (.int (i : Int)) [P, .ow (.dk (tb.map kvT)), s2, .sh (.int a), .sh (.str s), .un] = .nx [P, .ow (.dk ((setT tb (a + i, c)).map kvT)), s2, .sh (.int a), .sh (.str s), .un] := by
  have h := setd_run (en := [P, .ow (.dk (tb.map kvT)), s2, .sh (.int a), .sh (.str s), .sh (.int (i : Int))]) 1 rfl (core_k1 _ _ _ a (i : Int) s) rfl (core_v1 _ _ _ a (i : Int) s (one c) dIx (ix_s hs hc)) (by rw [List.length_map]; omega)
  rw [val_kvT] at h
  cases e : lookT tb (a + (i : Int)) with
  | some d =>
    rw [e] at h
    have h : eSetd 1 _ _ _ = .ok (.sh (one d)) _ := h
    have any := lookT_any tb (a + (i : Int))
    rw [e] at any
    have st : setT tb (a + (i : Int), c) = tb := by
      unfold setT
      exact if_pos any.symm
    rw [st]
    exact core_t1 P s2 _ _ a (i : Int) s (one d) _ h
  | none =>
    rw [e] at h
    have h : eSetd 1 _ _ _ = .ok (.sh (one c)) [P, .ow (.dk (putDk (tb.map kvT) (.inl (a + (i : Int))) (one c))), s2, .sh (.int a), .sh (.str s), .sh (.int (i : Int))] := h
    rw [put_kvT tb (a + (i : Int), c) e] at h
    exact core_t1 P s2 _ _ a (i : Int) s (one c) _ h
theorem set_len (tb : TB) (p : Int × Nat) : (setT tb p).length ≤ tb.length + 1 := by unfold setT; split <;> simp
theorem fold_set_len : ∀ (xs tb : TB), (xs.foldl setT tb).length ≤ tb.length + xs.length
  | [], tb => Nat.le_refl _
  | p :: xs, tb => by
    have := fold_set_len xs (setT tb p)
    have := set_len tb p
    rw [List.foldl_cons, List.length_cons]
    omega
theorem sing1_len : ∀ (cs : List Nat) (a : Int), (sing1 a cs).length = cs.length
  | [], _ => rfl
  | c :: cs, a => by
    show (sing1 (a + 1) cs).length + 1 = _
    rw [sing1_len cs, List.length_cons]
theorem tab_in (P s2 : Sl) (a : Int) (s : Str) (hs : s.cps.toList.length ≤ 100000) : ∀ (m i : Nat) (tb : TB), i + m = s.cps.toList.length → tb.length + m < 900000 →
    loop (gN 5) f1_z_table ((List.range' i m).map fun (j : Nat) => Fw.D.int (0 + (j : Int))) [P, .ow (.dk (tb.map kvT)), s2, .sh (.int a), .sh (.str s), .un] = .nx [P, .ow (.dk (((sing1 (a + i) (s.cps.toList.drop i)).foldl setT tb).map kvT)), s2, .sh (.int a), .sh (.str s), .un]
  | 0, i, tb, h, _ => by
    rw [List.drop_of_length_le (by omega)]
    rfl
  | m + 1, i, tb, h, hl => by
    have hi : i < s.cps.toList.length := by omega
    have t := tab_turn P s2 tb a s i s.cps.toList[i] hs (List.getElem?_eq_getElem hi) (by omega)
    have sl := set_len tb (a + (i : Int), s.cps.toList[i])
    have ih := tab_in P s2 a s hs m (i + 1) (setT tb (a + i, s.cps.toList[i])) (by omega) (by omega)
    rw [List.range'_succ, List.map_cons, loop_turn, Int.zero_add, t]
    have e : (sing1 (a + i) (s.cps.toList.drop i)).foldl setT tb = (sing1 (a + ((i + 1 : Nat) : Int)) (s.cps.toList.drop (i + 1))).foldl setT (setT tb (a + i, s.cps.toList[i])) := by
      rw [List.drop_eq_getElem_cons hi]
      show (sing1 (a + i + 1) (s.cps.toList.drop (i + 1))).foldl setT (setT tb (a + i, s.cps.toList[i])) = _
      have : a + (i : Int) + 1 = a + ((i + 1 : Nat) : Int) := by omega
      rw [this]
    rw [e]
    exact ih
theorem core_t2 (P s2 : Sl) (K K2 : List (L2.Key × Fw.D)) (a L : Int) (s : Str) (R : List Fw.D) (F : SM) (GL : List Fw.D → Option ER) (hR : R.length ≤ 1000000) (h1 : GL [.str s] = some (.sh (.int L))) (h2 : rng1 [.int L] = some R)
    (h3 : loop (gN 5) F R [P, .ow (.dk K), s2, .sh (.int a), .sh (.str s), .un] = .nx [P, .ow (.dk K2), s2, .sh (.int a), .sh (.str s), .un]) :
    turn (gT [gN 3, gN 4]) (sFg [3, 4, 5] (sFor (iB rng1 [eB GL [eVar 4]]) (gN 5) F)) (.tup [.int a, .str s]) [P, .ow (.dk K), s2, .un, .un, .un] = .nx [P, .ow (.dk K2), s2, .un, .un, .un] := by
  unfold turn
  walk_at "ev"
theorem tab_turn2 (P s2 : Sl) (tb : TB) (p : PT) (hs : p.2.cps.toList.length ≤ 100000) (hl : tb.length + p.2.cps.toList.length < 900000) :
    turn (gT [gN 3, gN 4]) f2_z_table (itD p) [P, .ow (.dk (tb.map kvT)), s2, .un, .un, .un] = .nx [P, .ow (.dk (((sing1 p.1 p.2.cps.toList).foldl setT tb).map kvT)), s2, .un, .un, .un] := by
  have h := tab_in P s2 p.1 p.2 hs p.2.cps.toList.length 0 tb (by omega) hl
  have e : p.1 + ((0 : Nat) : Int) = p.1 := by omega
  rw [e, List.drop_zero] at h
  have er : intsD 0 (ln p.2).toNat = (List.range' 0 p.2.cps.toList.length).map fun (j : Nat) => Fw.D.int (0 + (j : Int)) := by
    unfold intsD ln
    rw [Int.toNat_natCast, List.range_eq_range']
  rw [← er] at h
  exact core_t2 P s2 _ _ p.1 (ln p.2) p.2 _ f1_z_table gLen (by rw [intsD_len]; unfold ln; omega) (glen_s hs) (rng1_ok (ln_nn _) (by unfold ln; omega)) h
theorem tab_mid (P s2 : Sl) : ∀ (ps : List PT) (tb : TB), (∀ p ∈ ps, p.2.cps.toList.length ≤ 100000) → tb.length + tot ps < 900000 →
    loop (gT [gN 3, gN 4]) f2_z_table (ps.map itD) [P, .ow (.dk (tb.map kvT)), s2, .un, .un, .un] = .nx [P, .ow (.dk (((sing ps).foldl setT tb).map kvT)), s2, .un, .un, .un]
  | [], tb, _, _ => rfl
  | p :: ps, tb, hp, hl => by
    rw [tot_cons] at hl
    have t := tab_turn2 P s2 tb p (hp p List.mem_cons_self) (by omega)
    have fl := fold_set_len (sing1 p.1 p.2.cps.toList) tb
    rw [sing1_len] at fl
    have ih := tab_mid P s2 ps ((sing1 p.1 p.2.cps.toList).foldl setT tb) (fun q hq => hp q (List.mem_cons_of_mem _ hq)) (by omega)
    rw [List.map_cons, loop_turn, t]
    have e : (sing (p :: ps)).foldl setT tb = (sing ps).foldl setT ((sing1 p.1 p.2.cps.toList).foldl setT tb) := by
      show (sing1 p.1 p.2.cps.toList ++ sing ps).foldl setT tb = _
      rw [List.foldl_append]
    rw [e]
    exact ih
theorem core_t3 (P : Sl) (K K2 : List (L2.Key × Fw.D)) (L : List Fw.D) (F : SM) (hL : L.length ≤ 1000000) (h : loop (gT [gN 3, gN 4]) F L [P, .ow (.dk K), .sh (.lst L), .un, .un, .un] = .nx [P, .ow (.dk K2), .sh (.lst L), .un, .un, .un]) :
    turn (gN 2) (sFg [2, 3, 4, 5] (sFor (iSeq (eVar 2)) (gT [gN 3, gN 4]) F)) (.lst L) [P, .ow (.dk K), .un, .un, .un, .un] = .nx [P, .ow (.dk K2), .un, .un, .un, .un] := by
  unfold turn
  walk_at "ev"
def totA (pcs : List (List PT)) : Nat := (pcs.map tot).sum
theorem sing_len : ∀ (ps : List PT), (sing ps).length = tot ps
  | [] => rfl
  | p :: ps => by
    show (sing1 p.1 p.2.cps.toList ++ sing ps).length = _
    rw [List.length_append, sing1_len, sing_len ps, tot_cons]
theorem tab_out (P : Sl) (B : SM) (hB : B = f3_z_table ∨ B = stay 0 P f3_z_table) : ∀ (pcs : List (List PT)) (tb : TB), (∀ ps ∈ pcs, ps.length ≤ 1000 ∧ ∀ p ∈ ps, p.2.cps.toList.length ≤ 100000) → tb.length + totA pcs < 900000 →
    loop (gN 2) B (pcs.map plD) [P, .ow (.dk (tb.map kvT)), .un, .un, .un, .un] = .nx [P, .ow (.dk (((pcs.flatMap sing).foldl setT tb).map kvT)), .un, .un, .un, .un]
  | [], tb, _, _ => rfl
  | ps :: pcs, tb, hp, hl => by
    have ea : totA (ps :: pcs) = tot ps + totA pcs := by unfold totA; rw [List.map_cons, List.sum_cons]
    rw [ea] at hl
    obtain ⟨h1, h2⟩ := hp ps List.mem_cons_self
    have t : turn (gN 2) f3_z_table (plD ps) [P, .ow (.dk (tb.map kvT)), .un, .un, .un, .un] = _ := core_t3 P _ _ (ps.map itD) f2_z_table (by rw [List.length_map]; omega) (tab_mid P (.sh (.lst (ps.map itD))) ps tb h2 (by omega))
    have fl := fold_set_len (sing ps) tb
    rw [sing_len] at fl
    have ih := tab_out P B hB pcs ((sing ps).foldl setT tb) (fun q hq => hp q (List.mem_cons_of_mem _ hq)) (by omega)
    have e : ((ps :: pcs).flatMap sing).foldl setT tb = (pcs.flatMap sing).foldl setT ((sing ps).foldl setT tb) := by
      rw [List.flatMap_cons, List.foldl_append]
    rw [e, List.map_cons, loop_turn]
    rcases hB with rfl | rfl
    · rw [t]; exact ih
    · rw [stay_turn t rfl]; exact ih
theorem core_t4 (P : Sl) (W : List Fw.D) (hs : SeqS P W) (hW : W.length ≤ 1000000) (K2 : List (L2.Key × Fw.D)) (F : SM) (h : ∀ B, (B = F ∨ B = stay 0 P F) → loop (gN 2) B W [P, .ow (.dk []), .un, .un, .un, .un] = .nx [P, .ow (.dk K2), .un, .un, .un, .un]) :
    defN 1 6 (sSeq (sSet 1 (eDict0)) (sSeq (sFor (iSeq (eVar 0)) (gN 2) F) (sRet (eVar 1)))) [P] = .ok (.fr (.dk K2)) [] := by
  have h1 := h F (.inl rfl)
  have h2 := h _ (.inr rfl)
  clear h
  rcases hs with rfl | rfl | rfl <;> walk_at "ev"
theorem table_ok {P : Sl} {pcs : List (List PT)} (hs : SeqS P (pcs.map plD)) (hp : ∀ ps ∈ pcs, ps.length ≤ 1000 ∧ ∀ p ∈ ps, p.2.cps.toList.length ≤ 100000) (hl : totA pcs < 900000) (hl2 : pcs.length ≤ 100000) : m_z_table [P] = .ok (.fr (.dk ((tableOf pcs).map kvT))) [] :=
  core_t4 P (pcs.map plD) hs (by rw [List.length_map]; omega) _ f3_z_table fun B hB => tab_out P B hB pcs [] hp (by rw [List.length_nil]; omega)
/-! the table's parts -/
theorem keys_kvT : ∀ (tb : TB), keyInts (tb.map kvT) = some (tb.map (·.1))
  | [] => rfl
  | p :: tb => by
    show (match keyInts (tb.map kvT) with | some ss => some (p.1 :: ss) | none => none) = _
    rw [keys_kvT tb]
    rfl
theorem sort_kvT {tb : TB} (hl : tb.length < 64) : gSortD [.dk (tb.map kvT)] = some (.fr (.lst ((sortInts (tb.map (·.1))).map Fw.D.int))) := by
  show (match keyInts (tb.map kvT) with
      | some (n :: ns) => if (n :: ns).length < 64 then some (ER.fr (.lst ((sortInts (n :: ns)).map Fw.D.int))) else none
      | _ => gSortC [.dk (tb.map kvT)]) = _
  rw [keys_kvT]
  cases tb with
  | nil =>
    show some (ER.fr (.lst ((sortStrs []).map Fw.D.str))) = some (ER.fr (.lst ((sortInts []).map Fw.D.int)))
    unfold sortInts sortStrs
    rw [List.mergeSort_nil, List.mergeSort_nil]
    rfl
  | cons p tb => exact if_pos (by show (tb.map (·.1)).length + 1 < 64; rw [List.length_map]; rw [List.length_cons] at hl; omega)
theorem core_p1 (d : Fw.D) (x : Int) (c : Str) (AP : Fw.D → List Fw.D → Option (Fw.D × Fw.D)) (IX2 : Fw.D → Fw.D → Option ER) (A2 : List Fw.D) (h0 : dNe (.lst []) (.lst []) = some (.sh (.bl false))) (h1 : IX2 d (.int x) = some (.sh (.str c))) (h2 : AP (.lst []) [.tup [.int x, .str c]] = some (.lst A2, .non)) (T : M Bool) (PU : SM) :
    turn (gN 2) (sFg [2] (sIf (mAnd (mB (e2 dNe (eVar 1) (eLst []))) T) PU (sExpr (eMut 1 1 AP [eTup [eVar 2, e2 IX2 (eVar 0) (eVar 2)]])))) (.int x) [.sh d, .ow (.lst []), .un] = .nx [.sh d, .ow (.lst A2), .un] := by
  unfold turn
  walk_at "ev"
theorem core_p2 (d : Fw.D) (x qa L : Int) (c qs qt : Str) (GL : List Fw.D → Option ER) (AP : Fw.D → List Fw.D → Option (Fw.D × Fw.D)) (IX IX2 : Fw.D → Fw.D → Option ER) (ST : Fw.D → Fw.D → Fw.D → Option Fw.D) (AD : Fw.D → Fw.D → Option ER) (A : List Fw.D) (A2 A3 : Fw.D) (b : Bool)
    (h0 : dNe (.lst A) (.lst []) = some (.sh (.bl true))) (h1 : IX2 d (.int x) = some (.sh (.str c))) (h2 : AP (.lst A) [.tup [.int x, .str c]] = some (A2, .non))
    (h3 : IX (.lst A) (.int (-1)) = some (.sh (.tup [.int qa, .str qs]))) (h4 : IX (.tup [.int qa, .str qs]) (.int 0) = some (.sh (.int qa))) (h5 : IX (.tup [.int qa, .str qs]) (.int 1) = some (.sh (.str qs)))
    (h6 : GL [.str qs] = some (.sh (.int L))) (h7 : dEq (.int (qa + L)) (.int x) = some (.sh (.bl b))) (h8 : AD (.str qs) (.str c) = some (.sh (.str qt))) (h9 : ST (.lst A) (.int (-1)) (.tup [.int qa, .str qt]) = some A3)
    (h10 : AD (.int qa) (.int L) = some (.sh (.int (qa + L)))) :
    turn (gN 2) (sFg [2] (sIf (mAnd (mB (e2 dNe (eVar 1) (eLst []))) (mB (e2 dEq (e2 AD (e2 IX (e2 IX (eVar 1) (e1 dNeg (eC (.int 1)))) (eC (.int 0))) (eB GL [e2 IX (e2 IX (eVar 1) (e1 dNeg (eC (.int 1)))) (eC (.int 1))])) (eVar 2)))) (sPut 1 1 ST (e1 dNeg (eC (.int 1))) (eTup [e2 IX (e2 IX (eVar 1) (e1 dNeg (eC (.int 1)))) (eC (.int 0)), e2 AD (e2 IX (e2 IX (eVar 1) (e1 dNeg (eC (.int 1)))) (eC (.int 1))) (e2 IX2 (eVar 0) (eVar 2))])) (sExpr (eMut 1 1 AP [eTup [eVar 2, e2 IX2 (eVar 0) (eVar 2)]]))))
      (.int x) [.sh d, .ow (.lst A), .un] = .nx [.sh d, .ow (if b = true then A3 else A2), .un] := by
  unfold turn
  cases b <;> walk_at "ev"
theorem it_py (p : PT) (n : Nat) : ∃ q, toPy (n + 1) (itD p) = some q := toPy_tup fun d hd => by
  rcases List.mem_cons.mp hd with rfl | hd
  · exact ⟨_, by cases n <;> rfl⟩
  · rcases List.mem_cons.mp hd with rfl | hd
    · exact ⟨_, by cases n <;> rfl⟩
    · exact absurd hd (by simp)
theorem its_py (ps : List PT) (n : Nat) : ∀ d ∈ ps.map itD, ∃ q, toPy (n + 1) d = some q := fun d hd => by
  obtain ⟨p, _, rfl⟩ := List.mem_map.mp hd
  exact it_py p n
theorem cell_ix {tb : TB} {x : Int} (h : x ∈ tb.map (·.1)) : dIx2 (.dk (tb.map kvT)) (.int x) = some (.sh (.str (cell tb x).2)) := by
  obtain ⟨c, e⟩ := look_key.mp h
  show (match valD (tb.map kvT) (.inl x) with | some d => some (ER.sh d) | none => none) = _
  rw [val_kvT, e]
  show some (ER.sh (one c)) = some (ER.sh (.str (chr ((lookT tb x).getD 0))))
  rw [e]
  rfl
theorem parts_turn (tb : TB) (acc : List PT) (x : Int) (hx : x ∈ tb.map (·.1)) (hl : acc.length < 900000) (ha : tot acc ≤ 90000) :
    turn (gN 2) f1_z_parts (.int x) [.sh (.dk (tb.map kvT)), .ow (.lst (acc.map itD)), .un] = .nx [.sh (.dk (tb.map kvT)), .ow (.lst ((glue acc (cell tb x)).map itD)), .un] := by
  have ix := cell_ix hx
  have lc : (cell tb x).2.cps.toList.length = 1 := rfl
  rcases last_cases acc with rfl | ⟨ini, q, rfl⟩
  · rw [glue_nil]
    exact core_p1 _ x _ gAppend dIx2 _ (ne_nil (fun d hd => absurd hd (by simp))) ix rfl _ _
  · have hq : q.2.cps.toList.length ≤ tot (ini ++ [q]) := tot_mem (List.mem_append_right _ List.mem_cons_self)
    have el : (ini ++ [q]).map itD = ini.map itD ++ [itD q] := by rw [List.map_append]; rfl
    have ne : dNe (.lst ((ini ++ [q]).map itD)) (.lst []) = some (.sh (.bl true)) := by
      rw [ne_nil (its_py _ 38), el]
      simp
    have h := core_p2 (.dk (tb.map kvT)) x q.1 (ln q.2) (cell tb x).2 q.2 (q.2 ++ (cell tb x).2) gLen gAppend dIx dIx2 gSetL dAdd ((ini ++ [q]).map itD) (.lst ((ini ++ [q] ++ [cell tb x]).map itD)) (.lst ((ini ++ [(q.1, q.2 ++ (cell tb x).2)]).map itD)) (q.1 + ln q.2 == x)
      ne ix (by
        rw [append_lst (by rw [List.length_map]; omega), List.map_append (l₁ := ini ++ [q])]
        rfl) (by rw [el]; exact at_last _ _) rfl rfl (glen_s (by omega)) eq_int (add_str (by have := ln_le (Nat.le_refl q.2.cps.toList.length); have := ln_le (Nat.le_refl (cell tb x).2.cps.toList.length); omega)) (by
        rw [el, List.map_append]
        exact set_lastL _ _ _) rfl
    have e : (if (q.1 + ln q.2 == x) = true then Fw.D.lst ((ini ++ [(q.1, q.2 ++ (cell tb x).2)]).map itD) else .lst ((ini ++ [q] ++ [cell tb x]).map itD)) = .lst ((glue (ini ++ [q]) (cell tb x)).map itD) := by
      rw [glue_last]
      by_cases c : fin q = (cell tb x).1
      · have c' : q.1 + ln q.2 = x := c
        rw [if_pos (by rw [c']; exact beq_self_eq_true _), if_pos c]
      · have c' : ¬ q.1 + ln q.2 = x := c
        rw [if_neg (by rw [beq_false_of_ne c']; exact Bool.false_ne_true), if_neg c]
    rw [e] at h
    exact h
theorem parts_loop (tb : TB) : ∀ (xs : List Int) (acc : List PT), (∀ x ∈ xs, x ∈ tb.map (·.1)) → acc.length + xs.length < 900000 → tot acc + xs.length ≤ 90000 →
    loop (gN 2) f1_z_parts (xs.map Fw.D.int) [.sh (.dk (tb.map kvT)), .ow (.lst (acc.map itD)), .un] = .nx [.sh (.dk (tb.map kvT)), .ow (.lst (((xs.map (cell tb)).foldl glue acc).map itD)), .un]
  | [], acc, _, _, _ => rfl
  | x :: xs, acc, hx, hl, ht => by
    rw [List.length_cons] at hl ht
    have t := parts_turn tb acc x (hx x List.mem_cons_self) (by omega) (by omega)
    have lg := len_glue acc (cell tb x)
    have tg := tot_glue acc (cell tb x)
    have lc : (cell tb x).2.cps.toList.length = 1 := rfl
    have ih := parts_loop tb xs (glue acc (cell tb x)) (fun y hy => hx y (List.mem_cons_of_mem _ hy)) (by omega) (by omega)
    rw [List.map_cons, loop_turn, t]
    exact ih
theorem core_p3 (d : Fw.D) (R Z : List Fw.D) (SO : List Fw.D → Option ER) (F : SM) (hR : R.length ≤ 1000000) (h1 : SO [d] = some (.fr (.lst R))) (h2 : loop (gN 2) F R [.sh d, .ow (.lst []), .un] = .nx [.sh d, .ow (.lst Z), .un]) :
    defN 1 3 (sSeq (sSet 1 (eLst [])) (sSeq (sFor (iSeq (eB SO [eVar 0])) (gN 2) F) (sRet (eVar 1)))) [.sh d] = .ok (.fr (.lst Z)) [] := by
  walk_at "ev"
theorem zparts_ok {tb : TB} (hl : tb.length < 64) : m_z_parts [.sh (.dk (tb.map kvT))] = .ok (.fr (.lst ((dueOf tb).map itD))) [] := by
  have sl : (sortInts (tb.map (·.1))).length = tb.length := by rw [(sortI_perm _).length_eq, List.length_map]
  exact core_p3 _ _ _ gSortD f1_z_parts (by rw [List.length_map, sl]; omega) (sort_kvT hl) (parts_loop tb (sortInts (tb.map (·.1))) [] (fun x hx => (sortI_perm _).subset hx) (by rw [sl, List.length_nil]; omega) (by rw [sl, tot_nil]; omega))
end Law
set_option linter.all false
set_option maxRecDepth 100000
set_option Elab.async false
namespace Law
open PySem Fw
local macro_rules | `(tactic| walk_at "ev") => `(tactic| simp only [Fw.defN, Fw.defX, Fw.arity_ap, Fw.mkN_ap, Fw.mkF_ap, Fw.eC_ap, Fw.eVar_ap, Fw.e2_ap, Fw.op2_ap, Fw.cur_sh, Fw.cur_fr, Fw.cur_bo, Fw.e1_ap, Fw.eA_nil, Fw.eA_cons, Fw.eB_ap, Fw.curs_nil, Fw.curs_cons, Fw.eTup_ap, Fw.eLst_ap, Fw.shrs_nil, Fw.shrs_cons, Fw.shr_sh, Fw.shr_fr, Fw.shr_bo, Fw.eF_ap, Fw.callM_ap, Fw.sSeq_ap, Fw.sSet_ap, Fw.then_ok, Fw.put_ap, Fw.sExpr_ap, Fw.sRet_ap, Fw.retR_sh, Fw.retR_fr, Fw.retR_bo, Fw.sIf_ap, Fw.mB_ap, Fw.toB_bl, Fw.mT_ap, Fw.mAnd_ap, Fw.mOr_ap, Fw.mNot_ap, Fw.eAnd_ap, Fw.eOr_ap, Fw.eNot_ap, Fw.eIf_ap, Fw.eChain_ap, Fw.sNil_ap, Fw.sFg_ap, Fw.wipeE_nil, Fw.wipeE_cons, Fw.eMut_ap, Fw.eMetS_ap, Fw.afterF, Fw.toF, Fw.sAsg_ap, Fw.R.bind_ok, Fw.R.bind_exc, Fw.R.bind_bad, Fw.R.then,
  List.length_cons, List.length_nil, List.cons_append, List.nil_append, List.append_nil, List.replicate_succ, List.replicate_zero, List.getElem?_cons_zero, List.getElem?_cons_succ, List.set_cons_zero, List.set_cons_succ, Option.bind_some, Option.bind_none, Fw.dat_sh, Fw.dat_ow, Fw.dat_pn, Fw.dat_lk, Fw.pn_un, Fw.pn_sh, Fw.pn_ow, Fw.mu_ow, Fw.mu_pn, Fw.own_ow, Fw.own_pn, Fw.own_lk, Fw.lock_ow, Fw.lock_pnT, Fw.lock_pnF, Fw.lock_lk, Fw.with_ow, Fw.with_pn, if_true, if_false, Bool.false_eq_true, Bool.true_eq_false, ite_true, ite_false, reduceIte,
  Fw.ix_lst, Fw.ix_rol, Fw.ix_tup, Fw.ix_rot, Fw.at0, Fw.at1, Fw.at2, Fw.at3, Fw.at4, Fw.atm1, Fw.add_int, Fw.add_lst, Fw.add_tup, Fw.add_str, Fw.sub_int, Fw.mul_mod, Fw.mul_r, Fw.mul_l, Fw.div_int, Fw.mod_int, Fw.p10_8, Fw.p10_18, Fw.pow_int, Fw.neg_int, Fw.cmp_int, Fw.is_non, Fw.isnot_non, Fw.isNon_non, Fw.isNon_int, Fw.isNon_str, Fw.isNon_lst, Fw.isNon_tup, Fw.eq_int, Fw.ne_int, Fw.eq_str, Fw.ne_str, Fw.len_lst, Fw.len_rol, Fw.len_tup, Fw.len_str, Fw.max2_int, Fw.min2_int, Fw.int_int, Fw.int_bl, Fw.list_lst, Fw.list_tup, Fw.tuple_lst, Fw.tuple_tup, Fw.append_lst, Fw.tru_bl, Fw.tru_lst, Fw.sl_rol, Fw.sl_lst,
  Fw.cellAt_ap, Fw.kind_lst, Fw.putD_ap, Fw.sPut_ap, Fw.putAt_ap, Fw.set_last, Fw.set0, Fw.set1, Fw.set2, Fw.pass_nil, Fw.pass_n, Fw.pass_c, Fw.passArg_sh, Fw.passArg_fr, Fw.passArg_boF, Fw.passArg_boT, Fw.ioOk_n, Fw.ioOk_nil, Fw.ioOk_bo, Fw.ioOk_sh, Fw.ioOk_fr, Fw.bo_nil, Fw.bo_bo, Fw.bo_sh, Fw.bo_fr, Fw.io_n, Fw.io_nil, Fw.io_T, Fw.io_F, Fw.outs_nil, Fw.outs_T, Fw.outs_F, Fw.outs_sh, Fw.putOuts_nil, Fw.putOuts_cons, Fw.gN_ap, Fw.gT_tup, Fw.gAll_nil, Fw.gAll_cons, Fw.sFor_ap, Fw.eLc_ap, Fw.back_nx, Fw.back_rt, Fw.iSeq_ap, Fw.seq_lst, Fw.seq_tup, Fw.iB_ap, Fw.yes_ap, Fw.eSl_ap, Fw.part_none, Fw.part_some, Fw.partR_int, Fw.rest_nil, Fw.rest_cons, Fw.keep_sh, Fw.keep_un, Fw.keep_none,
  List.map_nil, List.map_cons, List.contains_nil, List.contains_cons, Bool.not_false, Bool.not_true, Bool.and_self, Bool.and_true, Bool.true_and, Bool.false_and, Bool.and_false, Bool.or_true, Bool.true_or, Bool.or_false, Bool.false_or, Nat.reduceAdd, Nat.reduceSub, Nat.reduceEqDiff, Nat.reduceBEq, decide_true, decide_false, Int.reduceLT, Int.reduceLE, Int.reduceNeg, Int.reducePow, Int.reduceToNat, Nat.reducePow, Nat.reduceLT, Nat.reduceLeDiff, and_true, true_and, and_self, not_true_eq_false, not_false_eq_true,
  Fw.eNew_ap, Fw.newOf_ap, Fw.gU_lst, Fw.gTU_lst, Fw.gTU_tup, Fw.sAsg2_ap, Fw.rev_lst, Fw.rev_rol, Fw.eFf_ap, Fw.eDict0_ap, Fw.iS_ap, Fw.sRetN_ap, Fw.sPass_ap, Fw.sBreak_ap, Fw.sCont_ap, Fw.i_and, Fw.i_or, Fw.i_andE, Fw.i_orE, Fw.i_int, Fw.i_str, Fw.at5, Fw.at6, Fw.at7, Fw.at8, Fw.at9, Fw.at10, Fw.at11, Fw.at12, Fw.at13, Fw.at14, Fw.at15, Fw.at16, Fw.at17, Fw.at18, Fw.at19, Fw.at20, Fw.at21, Fw.at22, Fw.at23, Fw.at24, Fw.eFK_ap, Fw.permM_cons, Fw.pick_nil, Fw.pick_cons, Fw.noT_sh, Fw.noT_pn, Fw.inB_def, Fw.eMeth_ap, Fw.eMk_ap, Fw.popN_ok, Fw.popN_exc, Fw.sRaise_ap, Fw.sTry_ap, Fw.eXf_ap, Fw.lookX_ap, Fw.endS_nx, Fw.endS_rt, Fw.isX_ty, Fw.isX_cl, Fw.isX_tup, Fw.then_exc, true_or, or_false, or_true, List.lookup_cons, List.lookup_nil, List.take_zero, List.take_succ_cons, List.drop_zero, List.drop_succ_cons, List.all_cons, List.all_nil, List.dropLast_cons₂, List.dropLast_singleton, _root_.eq_self, Nat.reduceBEq, Nat.zero_add, Nat.reduceLeDiff, Nat.sub_self, Nat.lt_irrefl, Nat.add_zero, Fw.lc_nil, Fw.lc_consN, Fw.loop_nil, Fw.loop_cons, Fw.rng1_1, Fw.rng1_2, Fw.rng1_3, Fw.rng1_4, Fw.rng1_5, Fw.rng1_6, Fw.rng1_7, Fw.rng1_8, Fw.rng1_9, Fw.rng1_10, Fw.rng1_11, Fw.rng1_12, Fw.rng2_3_8, Fw.rng2_3_6, Fw.rng2_1_3, Fw.rng2_1_4, Fw.rng2_2_5, Fw.sPar_ap, Fw.eP_nil, Fw.eP_cons, Fw.nrm_sh, Fw.nrm_fr, Fw.nrm_bo, Fw.puts_nil, Fw.puts_cons, Fw.put1_sh, Fw.put1_fr, Fw.eMetL_ap, Fw.isLst_lst, Fw.kind_dk, Fw.eGet1_ap, Fw.eGet2_ap, Fw.getK_ap, Fw.dkAt_ap, Fw.shOf_sh, Fw.key_str, Fw.key_int, Fw.in2_str, Fw.nin2_str, Option.getD_some, Option.getD_none, Option.isSome_some, Option.isSome_none, *])
local macro_rules | `(tactic| walk_at "e0") => `(tactic| simp only [Fw.defN, Fw.defX, Fw.arity_ap, Fw.mkN_ap, Fw.mkF_ap, Fw.eC_ap, Fw.eVar_ap, Fw.e2_ap, Fw.op2_ap, Fw.cur_sh, Fw.cur_fr, Fw.cur_bo, Fw.e1_ap, Fw.eA_nil, Fw.eA_cons, Fw.eB_ap, Fw.curs_nil, Fw.curs_cons, Fw.eTup_ap, Fw.eLst_ap, Fw.shrs_nil, Fw.shrs_cons, Fw.shr_sh, Fw.shr_fr, Fw.shr_bo, Fw.eF_ap, Fw.callM_ap, Fw.sSeq_ap, Fw.sSet_ap, Fw.then_ok, Fw.put_ap, Fw.sExpr_ap, Fw.sRet_ap, Fw.retR_sh, Fw.retR_fr, Fw.retR_bo, Fw.sIf_ap, Fw.mB_ap, Fw.toB_bl, Fw.mT_ap, Fw.mAnd_ap, Fw.mOr_ap, Fw.mNot_ap, Fw.eAnd_ap, Fw.eOr_ap, Fw.eNot_ap, Fw.eIf_ap, Fw.eChain_ap, Fw.sNil_ap, Fw.sFg_ap, Fw.wipeE_nil, Fw.wipeE_cons, Fw.eMut_ap, Fw.eMetS_ap, Fw.afterF, Fw.toF, Fw.sAsg_ap, Fw.R.bind_ok, Fw.R.bind_exc, Fw.R.bind_bad, Fw.R.then,
  List.length_cons, List.length_nil, List.cons_append, List.nil_append, List.append_nil, List.replicate_succ, List.replicate_zero, List.getElem?_cons_zero, List.getElem?_cons_succ, List.set_cons_zero, List.set_cons_succ, Option.bind_some, Option.bind_none, Fw.dat_sh, Fw.dat_ow, Fw.dat_pn, Fw.dat_lk, Fw.pn_un, Fw.pn_sh, Fw.pn_ow, Fw.mu_ow, Fw.mu_pn, Fw.own_ow, Fw.own_pn, Fw.own_lk, Fw.lock_ow, Fw.lock_pnT, Fw.lock_pnF, Fw.lock_lk, Fw.with_ow, Fw.with_pn, if_true, if_false, Bool.false_eq_true, Bool.true_eq_false, ite_true, ite_false, reduceIte,
  Fw.ix_lst, Fw.ix_rol, Fw.ix_tup, Fw.ix_rot, Fw.at0, Fw.at1, Fw.at2, Fw.at3, Fw.at4, Fw.atm1, Fw.add_int, Fw.add_lst, Fw.add_tup, Fw.add_str, Fw.sub_int, Fw.mul_mod, Fw.mul_r, Fw.mul_l, Fw.div_int, Fw.mod_int, Fw.p10_8, Fw.p10_18, Fw.pow_int, Fw.neg_int, Fw.cmp_int, Fw.is_non, Fw.isnot_non, Fw.isNon_non, Fw.isNon_int, Fw.isNon_str, Fw.isNon_lst, Fw.isNon_tup, Fw.eq_int, Fw.ne_int, Fw.eq_str, Fw.ne_str, Fw.len_lst, Fw.len_rol, Fw.len_tup, Fw.len_str, Fw.max2_int, Fw.min2_int, Fw.int_int, Fw.int_bl, Fw.list_lst, Fw.list_tup, Fw.tuple_lst, Fw.tuple_tup, Fw.append_lst, Fw.tru_bl, Fw.tru_lst, Fw.sl_rol, Fw.sl_lst,
  Fw.cellAt_ap, Fw.kind_lst, Fw.putD_ap, Fw.sPut_ap, Fw.putAt_ap, Fw.set_last, Fw.set0, Fw.set1, Fw.set2, Fw.pass_nil, Fw.pass_n, Fw.pass_c, Fw.passArg_sh, Fw.passArg_fr, Fw.passArg_boF, Fw.passArg_boT, Fw.ioOk_n, Fw.ioOk_nil, Fw.ioOk_bo, Fw.ioOk_sh, Fw.ioOk_fr, Fw.bo_nil, Fw.bo_bo, Fw.bo_sh, Fw.bo_fr, Fw.io_n, Fw.io_nil, Fw.io_T, Fw.io_F, Fw.outs_nil, Fw.outs_T, Fw.outs_F, Fw.outs_sh, Fw.putOuts_nil, Fw.putOuts_cons, Fw.gN_ap, Fw.gT_tup, Fw.gAll_nil, Fw.gAll_cons, Fw.sFor_ap, Fw.eLc_ap, Fw.back_nx, Fw.back_rt, Fw.iSeq_ap, Fw.seq_lst, Fw.seq_tup, Fw.iB_ap, Fw.yes_ap, Fw.eSl_ap, Fw.part_none, Fw.part_some, Fw.partR_int, Fw.rest_nil, Fw.rest_cons, Fw.keep_sh, Fw.keep_un, Fw.keep_none,
  List.map_nil, List.map_cons, List.contains_nil, List.contains_cons, Bool.not_false, Bool.not_true, Bool.and_self, Bool.and_true, Bool.true_and, Bool.false_and, Bool.and_false, Bool.or_true, Bool.true_or, Bool.or_false, Bool.false_or, Nat.reduceAdd, Nat.reduceSub, Nat.reduceEqDiff, Nat.reduceBEq, decide_true, decide_false, Int.reduceLT, Int.reduceLE, Int.reduceNeg, Int.reducePow, Int.reduceToNat, Nat.reducePow, Nat.reduceLT, Nat.reduceLeDiff, and_true, true_and, and_self, not_true_eq_false, not_false_eq_true,
  Fw.eNew_ap, Fw.newOf_ap, Fw.gU_lst, Fw.gTU_lst, Fw.gTU_tup, Fw.sAsg2_ap, Fw.rev_lst, Fw.rev_rol, Fw.eFf_ap, Fw.eDict0_ap, Fw.iS_ap, Fw.sRetN_ap, Fw.sPass_ap, Fw.sBreak_ap, Fw.sCont_ap, Fw.i_and, Fw.i_or, Fw.i_andE, Fw.i_orE, Fw.i_int, Fw.i_str, Fw.at5, Fw.at6, Fw.at7, Fw.at8, Fw.at9, Fw.at10, Fw.at11, Fw.at12, Fw.at13, Fw.at14, Fw.at15, Fw.at16, Fw.at17, Fw.at18, Fw.at19, Fw.at20, Fw.at21, Fw.at22, Fw.at23, Fw.at24, Fw.eFK_ap, Fw.permM_cons, Fw.pick_nil, Fw.pick_cons, Fw.noT_sh, Fw.noT_pn, Fw.inB_def, Fw.eMeth_ap, Fw.eMk_ap, Fw.popN_ok, Fw.popN_exc, Fw.sRaise_ap, Fw.sTry_ap, Fw.eXf_ap, Fw.lookX_ap, Fw.endS_nx, Fw.endS_rt, Fw.isX_ty, Fw.isX_cl, Fw.isX_tup, Fw.then_exc, true_or, or_false, or_true, List.lookup_cons, List.lookup_nil, List.take_zero, List.take_succ_cons, List.drop_zero, List.drop_succ_cons, List.all_cons, List.all_nil, List.dropLast_cons₂, List.dropLast_singleton, _root_.eq_self, Nat.reduceBEq, Nat.zero_add, Nat.reduceLeDiff, Nat.sub_self, Nat.lt_irrefl, Nat.add_zero, Fw.lc_nil, Fw.lc_consN, Fw.loop_nil, Fw.loop_cons, Fw.rng1_1, Fw.rng1_2, Fw.rng1_3, Fw.rng1_4, Fw.rng1_5, Fw.rng1_6, Fw.rng1_7, Fw.rng1_8, Fw.rng1_9, Fw.rng1_10, Fw.rng1_11, Fw.rng1_12, Fw.rng2_3_8, Fw.rng2_3_6, Fw.rng2_1_3, Fw.rng2_1_4, Fw.rng2_2_5, Fw.sPar_ap, Fw.eP_nil, Fw.eP_cons, Fw.nrm_sh, Fw.nrm_fr, Fw.nrm_bo, Fw.puts_nil, Fw.puts_cons, Fw.put1_sh, Fw.put1_fr, Fw.eMetL_ap, Fw.isLst_lst, Fw.kind_dk, Fw.eGet1_ap, Fw.eGet2_ap, Fw.getK_ap, Fw.dkAt_ap, Fw.shOf_sh, Fw.key_str, Fw.key_int, Fw.in2_str, Fw.nin2_str, Option.getD_some, Option.getD_none, Option.isSome_some, Option.isSome_none])
local macro_rules | `(tactic| walk_at "go") => `(tactic| repeat' (first | done | rfl | (walk_at "ev"; done) | (split <;> try walk_at "ev")))
section
variable {s0 : Sl}
theorem core_o1 (A L A2 : List Fw.D) (JO : FM) (h : JO [.pn false (.lst A), .sh (.lst L)] = .ok (.fr (.lst A2)) []) :
    turn (gN 2) (sFg [2] (sSet 1 (eF [] JO [] [eVar 1, eVar 2]))) (.lst L) [s0, .ow (.lst A), .un] = .nx [s0, .ow (.lst A2), .un] := by
  unfold turn
  walk_at "ev"
theorem core_o2 (A L A2 : List Fw.D) (JO : FM) (h : JO [.sh (.lst L), .pn false (.lst A)] = .ok (.fr (.lst A2)) []) :
    turn (gN 2) (sFg [2] (sSet 1 (eF [] JO [] [eVar 2, eVar 1]))) (.lst L) [s0, .ow (.lst A), .un] = .nx [s0, .ow (.lst A2), .un] := by
  unfold turn
  walk_at "ev"
def Pcs (a b : Int) (pcs : List (List PT)) : Prop := ∀ ps ∈ pcs, CP ps ∧ InP a b ps
theorem fold_rng {a b : Int} : ∀ (pcs : List (List PT)) (acc : List PT), CP acc → InP a b acc → Pcs a b pcs → InP a b (pcs.foldl joinF acc)
  | [], _, _, h, _ => h
  | ps :: pcs, acc, c, h, hp => by
    obtain ⟨c1, i1⟩ := hp ps List.mem_cons_self
    exact fold_rng pcs _ (join_ok c c1).1 (join_rng c c1 h i1) fun q hq => hp q (List.mem_cons_of_mem _ hq)
theorem one_loop (B : SM) (hB : B = f1_z_one_by_one ∨ B = stay 0 s0 f1_z_one_by_one) {a b : Int} (hab : a ≤ b) (hb : b - a ≤ 700) : ∀ (pcs : List (List PT)) (acc : List PT), CP acc → InP a b acc → Pcs a b pcs →
    loop (gN 2) B (pcs.map plD) [s0, .ow (.lst (acc.map itD)), .un] = .nx [s0, .ow (.lst ((pcs.foldl joinF acc).map itD)), .un]
  | [], acc, _, _, _ => rfl
  | ps :: pcs, acc, c, h, hp => by
    obtain ⟨c1, i1⟩ := hp ps List.mem_cons_self
    have t : turn (gN 2) f1_z_one_by_one (plD ps) [s0, .ow (.lst (acc.map itD)), .un] = _ := core_o1 (s0 := s0) _ _ _ m_joined (joined_cp (.inl rfl) (.inr (.inr rfl)) c c1 hab hb h i1)
    have ih := one_loop B hB hab hb pcs (joinF acc ps) (join_ok c c1).1 (join_rng c c1 h i1) fun q hq => hp q (List.mem_cons_of_mem _ hq)
    rw [List.map_cons, loop_turn]
    rcases hB with rfl | rfl
    · rw [t]; exact ih
    · rw [stay_turn t rfl]; exact ih
theorem core_o3 (W : List Fw.D) (hs : SeqS s0 W) (hW : W.length ≤ 1000000) (F : SM) (Z : List Fw.D) (h : ∀ B, (B = F ∨ B = stay 0 s0 F) → loop (gN 2) B W [s0, .ow (.lst []), .un] = .nx [s0, .ow (.lst Z), .un]) :
    defN 1 3 (sSeq (sSet 1 (eLst [])) (sSeq (sFor (iSeq (eVar 0)) (gN 2) F) (sRet (eVar 1)))) [s0] = .ok (.fr (.lst Z)) [] := by
  have h1 := h F (.inl rfl)
  have h2 := h _ (.inr rfl)
  clear h
  rcases hs with rfl | rfl | rfl <;> walk_at "ev"
theorem one_ok {pcs : List (List PT)} (hs : SeqS s0 (pcs.map plD)) (hl : pcs.length ≤ 100000) {a b : Int} (hab : a ≤ b) (hb : b - a ≤ 700) (hp : Pcs a b pcs) : m_z_one_by_one [s0] = .ok (.fr (.lst ((pcs.foldl joinF []).map itD))) [] :=
  core_o3 (pcs.map plD) hs (by rw [List.length_map]; omega) f1_z_one_by_one _ fun B hB => one_loop B hB hab hb pcs [] cp_nil (fun _ h => absurd h (by simp)) hp
theorem last_loop {a b : Int} (hab : a ≤ b) (hb : b - a ≤ 700) : ∀ (pcs : List (List PT)) (acc : List PT), CP acc → InP a b acc → Pcs a b pcs →
    loop (gN 2) f1_z_from_the_last (pcs.map plD) [s0, .ow (.lst (acc.map itD)), .un] = .nx [s0, .ow (.lst ((pcs.foldl (fun acc p => joinF p acc) acc).map itD)), .un]
  | [], acc, _, _, _ => rfl
  | ps :: pcs, acc, c, h, hp => by
    obtain ⟨c1, i1⟩ := hp ps List.mem_cons_self
    have t : turn (gN 2) f1_z_from_the_last (plD ps) [s0, .ow (.lst (acc.map itD)), .un] = _ := core_o2 (s0 := s0) _ _ _ m_joined (joined_cp (.inr (.inr rfl)) (.inl rfl) c1 c hab hb i1 h)
    have ih := last_loop hab hb pcs (joinF ps acc) (join_ok c1 c).1 (join_rng c1 c i1 h) fun q hq => hp q (List.mem_cons_of_mem _ hq)
    rw [List.map_cons, loop_turn, t]
    exact ih
end
theorem core_o4 (W R Z : List Fw.D) (hW : R.length ≤ 1000000) (F : SM) (hr : gRev (.lst W) = some (.fr (.lst R))) (h : loop (gN 2) F R [.pn false (.lst W), .ow (.lst []), .un] = .nx [.pn false (.lst W), .ow (.lst Z), .un]) :
    defN 1 3 (sSeq (sSet 1 (eLst [])) (sSeq (sFor (iSeq (e1 gRev (eVar 0))) (gN 2) F) (sRet (eVar 1)))) [.pn false (.lst W)] = .ok (.fr (.lst Z)) [] := by
  walk_at "ev"
theorem last_ok {pcs : List (List PT)} (hl : pcs.length ≤ 100000) {a b : Int} (hab : a ≤ b) (hb : b - a ≤ 700) (hp : Pcs a b pcs) : m_z_from_the_last [.pn false (.lst (pcs.map plD))] = .ok (.fr (.lst ((pcs.foldr joinF []).map itD))) [] := by
  have h := last_loop (s0 := .pn false (.lst (pcs.map plD))) hab hb pcs.reverse [] cp_nil (fun _ h => absurd h (by simp)) (fun ps h => hp ps (List.mem_reverse.mp h))
  rw [List.foldl_reverse] at h
  refine core_o4 (pcs.map plD) (pcs.reverse.map plD) _ (by rw [List.length_map, List.length_reverse]; omega) f1_z_from_the_last ?_ h
  rw [rev_lst, List.map_reverse]
/-! turned about -/
theorem gins (L : List Fw.D) (i : Int) (y : Fw.D) (c : 0 ≤ i ∧ i < 2 ^ 63 ∧ L.length < 1000000) : gInsert (.lst L) [.int i, y] = some (.lst (L.take i.toNat ++ [y] ++ L.drop i.toNat), .non) := by
  unfold gInsert
  simp only [if_pos c]
theorem core_u1 (w0 w1 w2 p : Fw.D) (W A A2 A3 : List Fw.D) (L k z : Int) (q : Bool) (DR : FM) (GL : List Fw.D → Option ER) (AP GI : Fw.D → List Fw.D → Option (Fw.D × Fw.D))
    (h1 : GL [.lst A] = some (.sh (.int L))) (h2 : DR [.pn true w0, .sh (.int (L + 1))] = .ok (.sh (.int k)) [w1]) (h3 : GI (.lst A) [.int k, p] = some (.lst A2, .non))
    (h4 : DR [.pn true w1, .sh (.int 4)] = .ok (.sh (.int z)) [w2]) (h5 : dEq (.int z) (.int 0) = some (.sh (.bl q))) (h6 : AP (.lst A2) [p] = some (.lst A3, .non)) :
    turn (gN 3) (sFg [3] (sSeq (sExpr (eMut 1 2 GI [eF [true, false] DR [] [eVar 0, e2 dAdd (eB GL [eVar 2]) (eC (.int 1))], eVar 3])) (sIf (mB (e2 dEq (eF [true, false] DR [] [eVar 0, eC (.int 4)]) (eC (.int 0)))) (sExpr (eMut 1 2 AP [eVar 3])) (sNil))))
      p [.pn true w0, .pn false (.lst W), .ow (.lst A), .un] = .nx [.pn true w2, .pn false (.lst W), .ow (.lst (if q = true then A3 else A2)), .un] := by
  unfold turn
  cases q <;> walk_at "ev"
theorem turn_turn (W : List Fw.D) (ps : List PT) (acc : List (List PT)) (hl : acc.length ≤ 100000) (w : Wl) : ∃ (w' : Wl) (acc2 : List (List PT)), (∀ q, q ∈ acc2 ↔ q ∈ acc ∨ q = ps) ∧ acc2.length ≤ acc.length + 2 ∧
    turn (gN 3) f1_z_turned (plD ps) [.pn true (wD w), .pn false (.lst W), .ow (.lst (acc.map plD)), .un] = .nx [.pn true (wD w'), .pn false (.lst W), .ow (.lst (acc2.map plD)), .un] := by
  obtain ⟨k, w1, k0, k1, e1⟩ := draw_ok w (acc.length + 1) (by omega) (by omega)
  obtain ⟨z, w2, z0, z1, e2'⟩ := draw_ok w1 4 (by decide) (by decide)
  have gl : gLen [.lst (acc.map plD)] = some (.sh (.int (acc.length : Nat))) := by rw [len_lst, List.length_map]
  have gi : gInsert (.lst (acc.map plD)) [.int k, plD ps] = some (.lst ((acc.take k.toNat ++ [ps] ++ acc.drop k.toNat).map plD), .non) := by
    rw [gins _ _ _ ⟨k0, by omega, by rw [List.length_map]; omega⟩, List.map_append, List.map_append, List.map_take, List.map_drop]
    rfl
  have ll : (acc.take k.toNat ++ [ps] ++ acc.drop k.toNat).length = acc.length + 1 := by
    rw [List.length_append, List.length_append, List.length_take, List.length_drop]
    simp
    omega
  have ap : gAppend (.lst ((acc.take k.toNat ++ [ps] ++ acc.drop k.toNat).map plD)) [plD ps] = some (.lst ((acc.take k.toNat ++ [ps] ++ acc.drop k.toNat ++ [ps]).map plD), .non) := by
    rw [append_lst (by rw [List.length_map, ll]; omega), List.map_append (l₂ := [ps])]
    rfl
  have h := core_u1 (wD w) (wD w1) (wD w2) (plD ps) W _ _ _ _ k z _ m_z_draw gLen gAppend gInsert gl e1 gi e2' eq_int ap
  have mem : ∀ q, q ∈ acc.take k.toNat ++ [ps] ++ acc.drop k.toNat ↔ q ∈ acc ∨ q = ps := fun q => by
    rw [List.mem_append, List.mem_append, List.mem_singleton]
    constructor
    · rintro ((h | h) | h)
      · exact .inl (List.mem_of_mem_take h)
      · exact .inr h
      · exact .inl (List.mem_of_mem_drop h)
    · rintro (h | h)
      · rw [← List.take_append_drop k.toNat acc, List.mem_append] at h
        rcases h with h | h
        · exact .inl (.inl h)
        · exact .inr h
      · exact .inl (.inr h)
  refine ⟨w2, if (z == 0) = true then acc.take k.toNat ++ [ps] ++ acc.drop k.toNat ++ [ps] else acc.take k.toNat ++ [ps] ++ acc.drop k.toNat, fun q => ?_, ?_, ?_⟩
  · split
    · rw [List.mem_append, mem, List.mem_singleton]
      constructor
      · rintro (h | h)
        · exact h
        · exact .inr h
      · exact .inl
    · exact mem q
  · split
    · rw [List.length_append, ll, List.length_singleton]; omega
    · rw [ll]; omega
  · have e : (if (z == 0) = true then (acc.take k.toNat ++ [ps] ++ acc.drop k.toNat ++ [ps]).map plD else (acc.take k.toNat ++ [ps] ++ acc.drop k.toNat).map plD) = (if (z == 0) = true then acc.take k.toNat ++ [ps] ++ acc.drop k.toNat ++ [ps] else acc.take k.toNat ++ [ps] ++ acc.drop k.toNat).map plD := by split <;> rfl
    rw [e] at h
    exact h
theorem turn_loop (W : List Fw.D) : ∀ (pcs acc : List (List PT)) (w : Wl), acc.length + 2 * pcs.length ≤ 100000 → ∃ (w' : Wl) (acc2 : List (List PT)), (∀ q, q ∈ acc2 ↔ q ∈ acc ∨ q ∈ pcs) ∧ acc2.length ≤ acc.length + 2 * pcs.length ∧
    loop (gN 3) (stay 1 (.pn false (.lst W)) f1_z_turned) (pcs.map plD) [.pn true (wD w), .pn false (.lst W), .ow (.lst (acc.map plD)), .un] = .nx [.pn true (wD w'), .pn false (.lst W), .ow (.lst (acc2.map plD)), .un]
  | [], acc, w, _ => ⟨w, acc, fun q => by simp, by simp, rfl⟩
  | ps :: pcs, acc, w, hl => by
    rw [List.length_cons] at hl
    obtain ⟨w1, acc1, m1, l1, t⟩ := turn_turn W ps acc (by omega) w
    obtain ⟨w2, acc2, m2, l2, e⟩ := turn_loop W pcs acc1 w1 (by omega)
    refine ⟨w2, acc2, fun q => ?_, by rw [List.length_cons]; omega, ?_⟩
    · rw [m2, m1, List.mem_cons, or_assoc]
    · rw [List.map_cons, loop_turn, stay_turn t rfl]
      exact e
theorem core_u2 (w0 w1 : Fw.D) (W A : List Fw.D) (F : SM) (hW : W.length ≤ 1000000) (h : loop (gN 3) (stay 1 (.pn false (.lst W)) F) W [.pn true w0, .pn false (.lst W), .ow (.lst []), .un] = .nx [.pn true w1, .pn false (.lst W), .ow (.lst A), .un]) :
    defN 2 4 (sSeq (sSet 2 (eLst [])) (sSeq (sFor (iSeq (eVar 1)) (gN 3) F) (sRet (eVar 2)))) [.pn true w0, .pn false (.lst W)] = .ok (.fr (.lst A)) [w1] := by
  walk_at "ev"
theorem turned_ok (pcs : List (List PT)) (hl : pcs.length ≤ 1000) (w : Wl) : ∃ (w' : Wl) (qcs : List (List PT)), (∀ q, q ∈ qcs ↔ q ∈ pcs) ∧ qcs.length ≤ 2000 ∧ m_z_turned [.pn true (wD w), .pn false (.lst (pcs.map plD))] = .ok (.fr (.lst (qcs.map plD))) [wD w'] := by
  obtain ⟨w', qcs, m, l, e⟩ := turn_loop (pcs.map plD) pcs [] w (by rw [List.length_nil]; omega)
  refine ⟨w', qcs, fun q => by rw [m]; simp, by rw [List.length_nil] at l; omega, ?_⟩
  exact core_u2 (wD w) (wD w') _ _ f1_z_turned (by rw [List.length_map]; omega) e
end Law
set_option linter.all false
set_option maxRecDepth 100000
set_option Elab.async false
namespace Law
open PySem Fw
local macro_rules | `(tactic| walk_at "ev") => `(tactic| simp only [Fw.defN, Fw.defX, Fw.arity_ap, Fw.mkN_ap, Fw.mkF_ap, Fw.eC_ap, Fw.eVar_ap, Fw.e2_ap, Fw.op2_ap, Fw.cur_sh, Fw.cur_fr, Fw.cur_bo, Fw.e1_ap, Fw.eA_nil, Fw.eA_cons, Fw.eB_ap, Fw.curs_nil, Fw.curs_cons, Fw.eTup_ap, Fw.eLst_ap, Fw.shrs_nil, Fw.shrs_cons, Fw.shr_sh, Fw.shr_fr, Fw.shr_bo, Fw.eF_ap, Fw.callM_ap, Fw.sSeq_ap, Fw.sSet_ap, Fw.then_ok, Fw.put_ap, Fw.sExpr_ap, Fw.sRet_ap, Fw.retR_sh, Fw.retR_fr, Fw.retR_bo, Fw.sIf_ap, Fw.mB_ap, Fw.toB_bl, Fw.mT_ap, Fw.mAnd_ap, Fw.mOr_ap, Fw.mNot_ap, Fw.eAnd_ap, Fw.eOr_ap, Fw.eNot_ap, Fw.eIf_ap, Fw.eChain_ap, Fw.sNil_ap, Fw.sFg_ap, Fw.wipeE_nil, Fw.wipeE_cons, Fw.eMut_ap, Fw.eMetS_ap, Fw.afterF, Fw.toF, Fw.sAsg_ap, Fw.R.bind_ok, Fw.R.bind_exc, Fw.R.bind_bad, Fw.R.then,
  List.length_cons, List.length_nil, List.cons_append, List.nil_append, List.append_nil, List.replicate_succ, List.replicate_zero, List.getElem?_cons_zero, List.getElem?_cons_succ, List.set_cons_zero, List.set_cons_succ, Option.bind_some, Option.bind_none, Fw.dat_sh, Fw.dat_ow, Fw.dat_pn, Fw.dat_lk, Fw.pn_un, Fw.pn_sh, Fw.pn_ow, Fw.mu_ow, Fw.mu_pn, Fw.own_ow, Fw.own_pn, Fw.own_lk, Fw.lock_ow, Fw.lock_pnT, Fw.lock_pnF, Fw.lock_lk, Fw.with_ow, Fw.with_pn, if_true, if_false, Bool.false_eq_true, Bool.true_eq_false, ite_true, ite_false, reduceIte,
  Fw.ix_lst, Fw.ix_rol, Fw.ix_tup, Fw.ix_rot, Fw.at0, Fw.at1, Fw.at2, Fw.at3, Fw.at4, Fw.atm1, Fw.add_int, Fw.add_lst, Fw.add_tup, Fw.add_str, Fw.sub_int, Fw.mul_mod, Fw.mul_r, Fw.mul_l, Fw.div_int, Fw.mod_int, Fw.p10_8, Fw.p10_18, Fw.pow_int, Fw.neg_int, Fw.cmp_int, Fw.is_non, Fw.isnot_non, Fw.isNon_non, Fw.isNon_int, Fw.isNon_str, Fw.isNon_lst, Fw.isNon_tup, Fw.eq_int, Fw.ne_int, Fw.eq_str, Fw.ne_str, Fw.len_lst, Fw.len_rol, Fw.len_tup, Fw.len_str, Fw.max2_int, Fw.min2_int, Fw.int_int, Fw.int_bl, Fw.list_lst, Fw.list_tup, Fw.tuple_lst, Fw.tuple_tup, Fw.append_lst, Fw.tru_bl, Fw.tru_lst, Fw.sl_rol, Fw.sl_lst,
  Fw.cellAt_ap, Fw.kind_lst, Fw.putD_ap, Fw.sPut_ap, Fw.putAt_ap, Fw.set_last, Fw.set0, Fw.set1, Fw.set2, Fw.pass_nil, Fw.pass_n, Fw.pass_c, Fw.passArg_sh, Fw.passArg_fr, Fw.passArg_boF, Fw.passArg_boT, Fw.ioOk_n, Fw.ioOk_nil, Fw.ioOk_bo, Fw.ioOk_sh, Fw.ioOk_fr, Fw.bo_nil, Fw.bo_bo, Fw.bo_sh, Fw.bo_fr, Fw.io_n, Fw.io_nil, Fw.io_T, Fw.io_F, Fw.outs_nil, Fw.outs_T, Fw.outs_F, Fw.outs_sh, Fw.putOuts_nil, Fw.putOuts_cons, Fw.gN_ap, Fw.gT_tup, Fw.gAll_nil, Fw.gAll_cons, Fw.sFor_ap, Fw.eLc_ap, Fw.back_nx, Fw.back_rt, Fw.iSeq_ap, Fw.seq_lst, Fw.seq_tup, Fw.iB_ap, Fw.yes_ap, Fw.eSl_ap, Fw.part_none, Fw.part_some, Fw.partR_int, Fw.rest_nil, Fw.rest_cons, Fw.keep_sh, Fw.keep_un, Fw.keep_none,
  List.map_nil, List.map_cons, List.contains_nil, List.contains_cons, Bool.not_false, Bool.not_true, Bool.and_self, Bool.and_true, Bool.true_and, Bool.false_and, Bool.and_false, Bool.or_true, Bool.true_or, Bool.or_false, Bool.false_or, Nat.reduceAdd, Nat.reduceSub, Nat.reduceEqDiff, Nat.reduceBEq, decide_true, decide_false, Int.reduceLT, Int.reduceLE, Int.reduceNeg, Int.reducePow, Int.reduceToNat, Nat.reducePow, Nat.reduceLT, Nat.reduceLeDiff, and_true, true_and, and_self, not_true_eq_false, not_false_eq_true,
  Fw.eNew_ap, Fw.newOf_ap, Fw.gU_lst, Fw.gTU_lst, Fw.gTU_tup, Fw.sAsg2_ap, Fw.rev_lst, Fw.rev_rol, Fw.eFf_ap, Fw.eDict0_ap, Fw.iS_ap, Fw.sRetN_ap, Fw.sPass_ap, Fw.sBreak_ap, Fw.sCont_ap, Fw.i_and, Fw.i_or, Fw.i_andE, Fw.i_orE, Fw.i_int, Fw.i_str, Fw.at5, Fw.at6, Fw.at7, Fw.at8, Fw.at9, Fw.at10, Fw.at11, Fw.at12, Fw.at13, Fw.at14, Fw.at15, Fw.at16, Fw.at17, Fw.at18, Fw.at19, Fw.at20, Fw.at21, Fw.at22, Fw.at23, Fw.at24, Fw.eFK_ap, Fw.permM_cons, Fw.pick_nil, Fw.pick_cons, Fw.noT_sh, Fw.noT_pn, Fw.inB_def, Fw.eMeth_ap, Fw.eMk_ap, Fw.popN_ok, Fw.popN_exc, Fw.sRaise_ap, Fw.sTry_ap, Fw.eXf_ap, Fw.lookX_ap, Fw.endS_nx, Fw.endS_rt, Fw.isX_ty, Fw.isX_cl, Fw.isX_tup, Fw.then_exc, true_or, or_false, or_true, List.lookup_cons, List.lookup_nil, List.take_zero, List.take_succ_cons, List.drop_zero, List.drop_succ_cons, List.all_cons, List.all_nil, List.dropLast_cons₂, List.dropLast_singleton, _root_.eq_self, Nat.reduceBEq, Nat.zero_add, Nat.reduceLeDiff, Nat.sub_self, Nat.lt_irrefl, Nat.add_zero, Fw.lc_nil, Fw.lc_consN, Fw.loop_nil, Fw.loop_cons, Fw.rng1_1, Fw.rng1_2, Fw.rng1_3, Fw.rng1_4, Fw.rng1_5, Fw.rng1_6, Fw.rng1_7, Fw.rng1_8, Fw.rng1_9, Fw.rng1_10, Fw.rng1_11, Fw.rng1_12, Fw.rng2_3_8, Fw.rng2_3_6, Fw.rng2_1_3, Fw.rng2_1_4, Fw.rng2_2_5, Fw.sPar_ap, Fw.eP_nil, Fw.eP_cons, Fw.nrm_sh, Fw.nrm_fr, Fw.nrm_bo, Fw.puts_nil, Fw.puts_cons, Fw.put1_sh, Fw.put1_fr, Fw.eMetL_ap, Fw.isLst_lst, Fw.kind_dk, Fw.eGet1_ap, Fw.eGet2_ap, Fw.getK_ap, Fw.dkAt_ap, Fw.shOf_sh, Fw.key_str, Fw.key_int, Fw.in2_str, Fw.nin2_str, Option.getD_some, Option.getD_none, Option.isSome_some, Option.isSome_none, *])
local macro_rules | `(tactic| walk_at "e0") => `(tactic| simp only [Fw.defN, Fw.defX, Fw.arity_ap, Fw.mkN_ap, Fw.mkF_ap, Fw.eC_ap, Fw.eVar_ap, Fw.e2_ap, Fw.op2_ap, Fw.cur_sh, Fw.cur_fr, Fw.cur_bo, Fw.e1_ap, Fw.eA_nil, Fw.eA_cons, Fw.eB_ap, Fw.curs_nil, Fw.curs_cons, Fw.eTup_ap, Fw.eLst_ap, Fw.shrs_nil, Fw.shrs_cons, Fw.shr_sh, Fw.shr_fr, Fw.shr_bo, Fw.eF_ap, Fw.callM_ap, Fw.sSeq_ap, Fw.sSet_ap, Fw.then_ok, Fw.put_ap, Fw.sExpr_ap, Fw.sRet_ap, Fw.retR_sh, Fw.retR_fr, Fw.retR_bo, Fw.sIf_ap, Fw.mB_ap, Fw.toB_bl, Fw.mT_ap, Fw.mAnd_ap, Fw.mOr_ap, Fw.mNot_ap, Fw.eAnd_ap, Fw.eOr_ap, Fw.eNot_ap, Fw.eIf_ap, Fw.eChain_ap, Fw.sNil_ap, Fw.sFg_ap, Fw.wipeE_nil, Fw.wipeE_cons, Fw.eMut_ap, Fw.eMetS_ap, Fw.afterF, Fw.toF, Fw.sAsg_ap, Fw.R.bind_ok, Fw.R.bind_exc, Fw.R.bind_bad, Fw.R.then,
  List.length_cons, List.length_nil, List.cons_append, List.nil_append, List.append_nil, List.replicate_succ, List.replicate_zero, List.getElem?_cons_zero, List.getElem?_cons_succ, List.set_cons_zero, List.set_cons_succ, Option.bind_some, Option.bind_none, Fw.dat_sh, Fw.dat_ow, Fw.dat_pn, Fw.dat_lk, Fw.pn_un, Fw.pn_sh, Fw.pn_ow, Fw.mu_ow, Fw.mu_pn, Fw.own_ow, Fw.own_pn, Fw.own_lk, Fw.lock_ow, Fw.lock_pnT, Fw.lock_pnF, Fw.lock_lk, Fw.with_ow, Fw.with_pn, if_true, if_false, Bool.false_eq_true, Bool.true_eq_false, ite_true, ite_false, reduceIte,
  Fw.ix_lst, Fw.ix_rol, Fw.ix_tup, Fw.ix_rot, Fw.at0, Fw.at1, Fw.at2, Fw.at3, Fw.at4, Fw.atm1, Fw.add_int, Fw.add_lst, Fw.add_tup, Fw.add_str, Fw.sub_int, Fw.mul_mod, Fw.mul_r, Fw.mul_l, Fw.div_int, Fw.mod_int, Fw.p10_8, Fw.p10_18, Fw.pow_int, Fw.neg_int, Fw.cmp_int, Fw.is_non, Fw.isnot_non, Fw.isNon_non, Fw.isNon_int, Fw.isNon_str, Fw.isNon_lst, Fw.isNon_tup, Fw.eq_int, Fw.ne_int, Fw.eq_str, Fw.ne_str, Fw.len_lst, Fw.len_rol, Fw.len_tup, Fw.len_str, Fw.max2_int, Fw.min2_int, Fw.int_int, Fw.int_bl, Fw.list_lst, Fw.list_tup, Fw.tuple_lst, Fw.tuple_tup, Fw.append_lst, Fw.tru_bl, Fw.tru_lst, Fw.sl_rol, Fw.sl_lst,
  Fw.cellAt_ap, Fw.kind_lst, Fw.putD_ap, Fw.sPut_ap, Fw.putAt_ap, Fw.set_last, Fw.set0, Fw.set1, Fw.set2, Fw.pass_nil, Fw.pass_n, Fw.pass_c, Fw.passArg_sh, Fw.passArg_fr, Fw.passArg_boF, Fw.passArg_boT, Fw.ioOk_n, Fw.ioOk_nil, Fw.ioOk_bo, Fw.ioOk_sh, Fw.ioOk_fr, Fw.bo_nil, Fw.bo_bo, Fw.bo_sh, Fw.bo_fr, Fw.io_n, Fw.io_nil, Fw.io_T, Fw.io_F, Fw.outs_nil, Fw.outs_T, Fw.outs_F, Fw.outs_sh, Fw.putOuts_nil, Fw.putOuts_cons, Fw.gN_ap, Fw.gT_tup, Fw.gAll_nil, Fw.gAll_cons, Fw.sFor_ap, Fw.eLc_ap, Fw.back_nx, Fw.back_rt, Fw.iSeq_ap, Fw.seq_lst, Fw.seq_tup, Fw.iB_ap, Fw.yes_ap, Fw.eSl_ap, Fw.part_none, Fw.part_some, Fw.partR_int, Fw.rest_nil, Fw.rest_cons, Fw.keep_sh, Fw.keep_un, Fw.keep_none,
  List.map_nil, List.map_cons, List.contains_nil, List.contains_cons, Bool.not_false, Bool.not_true, Bool.and_self, Bool.and_true, Bool.true_and, Bool.false_and, Bool.and_false, Bool.or_true, Bool.true_or, Bool.or_false, Bool.false_or, Nat.reduceAdd, Nat.reduceSub, Nat.reduceEqDiff, Nat.reduceBEq, decide_true, decide_false, Int.reduceLT, Int.reduceLE, Int.reduceNeg, Int.reducePow, Int.reduceToNat, Nat.reducePow, Nat.reduceLT, Nat.reduceLeDiff, and_true, true_and, and_self, not_true_eq_false, not_false_eq_true,
  Fw.eNew_ap, Fw.newOf_ap, Fw.gU_lst, Fw.gTU_lst, Fw.gTU_tup, Fw.sAsg2_ap, Fw.rev_lst, Fw.rev_rol, Fw.eFf_ap, Fw.eDict0_ap, Fw.iS_ap, Fw.sRetN_ap, Fw.sPass_ap, Fw.sBreak_ap, Fw.sCont_ap, Fw.i_and, Fw.i_or, Fw.i_andE, Fw.i_orE, Fw.i_int, Fw.i_str, Fw.at5, Fw.at6, Fw.at7, Fw.at8, Fw.at9, Fw.at10, Fw.at11, Fw.at12, Fw.at13, Fw.at14, Fw.at15, Fw.at16, Fw.at17, Fw.at18, Fw.at19, Fw.at20, Fw.at21, Fw.at22, Fw.at23, Fw.at24, Fw.eFK_ap, Fw.permM_cons, Fw.pick_nil, Fw.pick_cons, Fw.noT_sh, Fw.noT_pn, Fw.inB_def, Fw.eMeth_ap, Fw.eMk_ap, Fw.popN_ok, Fw.popN_exc, Fw.sRaise_ap, Fw.sTry_ap, Fw.eXf_ap, Fw.lookX_ap, Fw.endS_nx, Fw.endS_rt, Fw.isX_ty, Fw.isX_cl, Fw.isX_tup, Fw.then_exc, true_or, or_false, or_true, List.lookup_cons, List.lookup_nil, List.take_zero, List.take_succ_cons, List.drop_zero, List.drop_succ_cons, List.all_cons, List.all_nil, List.dropLast_cons₂, List.dropLast_singleton, _root_.eq_self, Nat.reduceBEq, Nat.zero_add, Nat.reduceLeDiff, Nat.sub_self, Nat.lt_irrefl, Nat.add_zero, Fw.lc_nil, Fw.lc_consN, Fw.loop_nil, Fw.loop_cons, Fw.rng1_1, Fw.rng1_2, Fw.rng1_3, Fw.rng1_4, Fw.rng1_5, Fw.rng1_6, Fw.rng1_7, Fw.rng1_8, Fw.rng1_9, Fw.rng1_10, Fw.rng1_11, Fw.rng1_12, Fw.rng2_3_8, Fw.rng2_3_6, Fw.rng2_1_3, Fw.rng2_1_4, Fw.rng2_2_5, Fw.sPar_ap, Fw.eP_nil, Fw.eP_cons, Fw.nrm_sh, Fw.nrm_fr, Fw.nrm_bo, Fw.puts_nil, Fw.puts_cons, Fw.put1_sh, Fw.put1_fr, Fw.eMetL_ap, Fw.isLst_lst, Fw.kind_dk, Fw.eGet1_ap, Fw.eGet2_ap, Fw.getK_ap, Fw.dkAt_ap, Fw.shOf_sh, Fw.key_str, Fw.key_int, Fw.in2_str, Fw.nin2_str, Option.getD_some, Option.getD_none, Option.isSome_some, Option.isSome_none])
local macro_rules | `(tactic| walk_at "go") => `(tactic| repeat' (first | done | rfl | (walk_at "ev"; done) | (split <;> try walk_at "ev")))
/-! the pieces -/
def E8 (X : Sl) (c w : Fw.D) (al : Bool) (far sz many : Int) (t : Str) (P : List Fw.D) (s9 s10 s11 s12 s13 s14 : Sl) : En := [X, .sh c, .ow w, .sh (.bl al), .sh (.int far), .sh (.int sz), .sh (.int many), .sh (.str t), .ow (.lst P), s9, s10, s11, s12, s13, s14, .un, .un]
theorem core_b1 (X : Sl) (c w w2 w3 i : Fw.D) (al : Bool) (far sz many : Int) (t u : Str) (P P2 PS : List Fw.D) (PI : FM) (S : SM) (AP : Fw.D → List Fw.D → Option (Fw.D × Fw.D))
    (h : S (E8 X c w al far sz many t P (.sh i) (.sh (.str t)) .un .un .un .un) = .nx (E8 X c w2 al far sz many t P (.sh i) (.sh (.str u)) .un .un .un .un))
    (hp : PI [.pn true w2, .sh (.str u), .sh (.int far)] = .ok (.fr (.lst PS)) [w3]) (ha : AP (.lst P) [.lst PS] = some (.lst P2, .non)) :
    turn (gN 9) (sFg [9, 10] (sSeq (sSet 10 (eVar 7)) (sSeq S (sExpr (eMut 1 8 AP [eF [true, false, false] PI [] [eVar 2, eVar 10, eVar 4]]))))) i (E8 X c w al far sz many t P .un .un .un .un .un .un) = .nx (E8 X c w3 al far sz many t P2 .un .un .un .un .un .un) := by
  unfold E8 at *
  unfold turn
  walk_at "ev"
theorem core_b2 (X : Sl) (c w i : Fw.D) (far sz many : Int) (t : Str) (P : List Fw.D) (T : M Bool) (S : SM) :
    (sIf (mAnd (mNot (mT (eVar 3))) T) S (sNil)) (E8 X c w true far sz many t P (.sh i) (.sh (.str t)) .un .un .un .un) = .nx (E8 X c w true far sz many t P (.sh i) (.sh (.str t)) .un .un .un .un) := by
  unfold E8 at *
  walk_at "ev"
theorem core_b3 (X : Sl) (c w w1 w2 i : Fw.D) (far sz many z : Int) (t u : Str) (P : List Fw.D) (q : Bool) (DR TE : FM) (h1 : DR [.pn true w, .sh (.int 2)] = .ok (.sh (.int z)) [w1]) (h2 : dEq (.int z) (.int 0) = some (.sh (.bl q)))
    (h3 : TE [.pn true w1, .sh (.int sz)] = .ok (.sh (.str u)) [w2]) :
    (sIf (mAnd (mNot (mT (eVar 3))) (mB (e2 dEq (eF [true, false] DR [] [eVar 2, eC (.int 2)]) (eC (.int 0))))) (sSet 10 (eF [true, false] TE [] [eVar 2, eVar 5])) (sNil)) (E8 X c w false far sz many t P (.sh i) (.sh (.str t)) .un .un .un .un) = .nx (E8 X c (if q = true then w2 else w1) false far sz many t P (.sh i) (.sh (.str (if q = true then u else t))) .un .un .un .un) := by
  unfold E8 at *
  cases q <;> walk_at "ev"
structure Pieces (far sz : Int) (al : Bool) (t : Str) (pcs : List (List PT)) : Prop where
  ok : Pcs far (far + sz) pcs
  of : al = true → Of (txtAt far t) pcs
theorem pcs_turn (X : Sl) (c : Fw.D) (al : Bool) (far sz many : Int) (t : Str) (h0 : 0 < sz) (h1 : sz ≤ 60) (ht : ln t = sz) (w : Wl) (i : Fw.D) (acc : List (List PT)) (hl : acc.length < 900000) (hp : Pieces far sz al t acc) :
    ∃ (w' : Wl) (ps : List PT), Pieces far sz al t (acc ++ [ps]) ∧ turn (gN 9) f1_law i (E8 X c (wD w) al far sz many t (acc.map plD) .un .un .un .un .un .un) = .nx (E8 X c (wD w') al far sz many t ((acc ++ [ps]).map plD) .un .un .un .un .un .un) := by
  have key : ∃ (w2 : Wl) (u : Str), ln u = sz ∧ (al = true → u = t) ∧ (sIf (mAnd (mNot (mT (eVar 3))) (mB (e2 dEq (eF [true, false] m_z_draw [] [eVar 2, eC (.int 2)]) (eC (.int 0))))) (sSet 10 (eF [true, false] m_z_text [] [eVar 2, eVar 5])) (sNil)) (E8 X c (wD w) al far sz many t (acc.map plD) (.sh i) (.sh (.str t)) .un .un .un .un) = .nx (E8 X c (wD w2) al far sz many t (acc.map plD) (.sh i) (.sh (.str u)) .un .un .un .un) := by
    cases al with
    | true => exact ⟨w, t, ht, fun _ => rfl, core_b2 X c (wD w) i far sz many t _ _ _⟩
    | false =>
      obtain ⟨z, w1, z0, z1, e1⟩ := draw_ok w 2 (by decide) (by decide)
      obtain ⟨w2, u, lu, e2'⟩ := text_ok sz (by omega) (by omega) w1
      refine ⟨if (z == 0) = true then w2 else w1, if (z == 0) = true then u else t, by split <;> assumption, (fun h => by cases h), ?_⟩
      have h := core_b3 X c (wD w) (wD w1) (wD w2) i far sz many z t u (acc.map plD) (z == 0) m_z_draw m_z_text e1 eq_int e2'
      have e : (if (z == 0) = true then wD w2 else wD w1) = wD (if (z == 0) = true then w2 else w1) := by split <;> rfl
      rw [e] at h
      exact h
  obtain ⟨w2, u, lu, hu, e1⟩ := key
  obtain ⟨w3, ps, cp, rg, tx, e2'⟩ := piece_ok far u (by omega) (by omega) w2
  rw [lu] at rg
  refine ⟨w3, ps, ⟨fun q hq => ?_, fun ha q hq => ?_⟩, ?_⟩
  · rcases List.mem_append.mp hq with hq | hq
    · exact hp.ok q hq
    · rw [List.mem_singleton.mp hq]; exact ⟨cp, rg⟩
  · rcases List.mem_append.mp hq with hq | hq
    · exact hp.of ha q hq
    · rw [List.mem_singleton.mp hq, ← hu ha]; exact tx
  · refine core_b1 X c (wD w) (wD w2) (wD w3) i al far sz many t u _ _ _ m_z_piece _ gAppend e1 e2' ?_
    rw [append_lst (by rw [List.length_map]; omega), List.map_append]
    rfl
theorem pcs_loop (X : Sl) (c : Fw.D) (al : Bool) (far sz many : Int) (t : Str) (h0 : 0 < sz) (h1 : sz ≤ 60) (ht : ln t = sz) : ∀ (is : List Fw.D) (w : Wl) (acc : List (List PT)), acc.length + is.length < 900000 → Pieces far sz al t acc →
    ∃ (w' : Wl) (pcs : List (List PT)), pcs.length = acc.length + is.length ∧ Pieces far sz al t pcs ∧ loop (gN 9) f1_law is (E8 X c (wD w) al far sz many t (acc.map plD) .un .un .un .un .un .un) = .nx (E8 X c (wD w') al far sz many t (pcs.map plD) .un .un .un .un .un .un)
  | [], w, acc, _, hp => ⟨w, acc, rfl, hp, rfl⟩
  | i :: is, w, acc, hl, hp => by
    rw [List.length_cons] at hl
    obtain ⟨w1, ps, hp1, e1⟩ := pcs_turn X c al far sz many t h0 h1 ht w i acc (by omega) hp
    obtain ⟨w2, pcs, l, hp2, e2'⟩ := pcs_loop X c al far sz many t h0 h1 ht is w1 (acc ++ [ps]) (by rw [List.length_append, List.length_singleton]; omega) hp1
    refine ⟨w2, pcs, by rw [l, List.length_append, List.length_singleton, List.length_cons]; omega, hp2, ?_⟩
    rw [loop_turn, e1]
    exact e2'
/-! what is due -/
structure Due (pcs : List (List PT)) (a b : Int) (D : List PT) : Prop where
  cp : CP D
  rg : InP a b D
  te : ∀ x, tell D x = firstTell pcs x
  fl : pcs.foldl joinF [] = D
  fr : pcs.foldr joinF [] = D
  hf : ∀ n, joinF ((pcs.take n).foldl joinF []) ((pcs.drop n).foldl joinF []) = D
  tw : joinF D D = D
  tb : dueOf (tableOf pcs) = D
theorem due_all {pcs : List (List PT)} {a b : Int} (h : Pcs a b pcs) : Due pcs a b (pcs.foldl joinF []) := by
  have cps : ∀ ps ∈ pcs, CP ps := fun ps hp => (h ps hp).1
  obtain ⟨c1, t1⟩ := fold_join pcs [] cp_nil cps
  have t1 : ∀ x, tell (pcs.foldl joinF []) x = firstTell pcs x := t1
  obtain ⟨c2, t2⟩ := foldr_join pcs cps
  obtain ⟨c3, t3⟩ := due_ok (table_nd pcs)
  refine ⟨c1, fold_rng pcs [] cp_nil (fun _ h => absurd h (by simp)) h, t1, rfl, cp_uniq c2 c1 fun x => (t2 x).trans (t1 x).symm, fun n => ?_, ?_, cp_uniq c3 c1 fun x => by rw [t3, table_look, t1]⟩
  · obtain ⟨k1, u1⟩ := fold_join (pcs.take n) [] cp_nil fun ps hp => cps ps (List.mem_of_mem_take hp)
    obtain ⟨k2, u2⟩ := fold_join (pcs.drop n) [] cp_nil fun ps hp => cps ps (List.mem_of_mem_drop hp)
    obtain ⟨k3, u3⟩ := join_ok k1 k2
    refine cp_uniq k3 c1 fun x => ?_
    rw [u3, u1, u2, t1]
    show (firstTell (pcs.take n) x).or (firstTell (pcs.drop n) x) = _
    rw [← first_app, List.take_append_drop]
  · obtain ⟨k3, u3⟩ := join_ok c1 c1
    refine cp_uniq k3 c1 fun x => ?_
    rw [u3]
    cases tell (pcs.foldl joinF []) x <;> rfl
theorem due_turned {pcs qcs : List (List PT)} {a b : Int} {txt : Int → Option Nat} (h : Pcs a b pcs) (o : Of txt pcs) (m : ∀ q, q ∈ qcs ↔ q ∈ pcs) : qcs.foldl joinF [] = pcs.foldl joinF [] ∧ Pcs a b qcs := by
  have h2 : Pcs a b qcs := fun q hq => h q ((m q).mp hq)
  refine ⟨cp_uniq (due_all h2).cp (due_all h).cp fun x => ?_, h2⟩
  rw [(due_all h2).te, (due_all h).te]
  exact of_perm o (fun p hp => (m p).mpr hp) (fun p hp => (m p).mp hp) x
theorem heavy_tot : ∀ (ps : List PT), heavy ps = (tot ps : Int)
  | [] => rfl
  | p :: ps => by
    have ih := heavy_tot ps
    unfold heavy at *
    rw [tot_cons, List.map_cons, List.sum_cons, ih]
    unfold ln
    omega
end Law
set_option linter.all false
set_option maxRecDepth 100000
set_option Elab.async false
namespace Law
open PySem Fw
local macro_rules | `(tactic| walk_at "ev") => `(tactic| simp only [Fw.defN, Fw.defX, Fw.arity_ap, Fw.mkN_ap, Fw.mkF_ap, Fw.eC_ap, Fw.eVar_ap, Fw.e2_ap, Fw.op2_ap, Fw.cur_sh, Fw.cur_fr, Fw.cur_bo, Fw.e1_ap, Fw.eA_nil, Fw.eA_cons, Fw.eB_ap, Fw.curs_nil, Fw.curs_cons, Fw.eTup_ap, Fw.eLst_ap, Fw.shrs_nil, Fw.shrs_cons, Fw.shr_sh, Fw.shr_fr, Fw.shr_bo, Fw.eF_ap, Fw.callM_ap, Fw.sSeq_ap, Fw.sSet_ap, Fw.then_ok, Fw.put_ap, Fw.sExpr_ap, Fw.sRet_ap, Fw.retR_sh, Fw.retR_fr, Fw.retR_bo, Fw.sIf_ap, Fw.mB_ap, Fw.toB_bl, Fw.mT_ap, Fw.mAnd_ap, Fw.mOr_ap, Fw.mNot_ap, Fw.eAnd_ap, Fw.eOr_ap, Fw.eNot_ap, Fw.eIf_ap, Fw.eChain_ap, Fw.sNil_ap, Fw.sFg_ap, Fw.wipeE_nil, Fw.wipeE_cons, Fw.eMut_ap, Fw.eMetS_ap, Fw.afterF, Fw.toF, Fw.sAsg_ap, Fw.R.bind_ok, Fw.R.bind_exc, Fw.R.bind_bad, Fw.R.then,
  List.length_cons, List.length_nil, List.cons_append, List.nil_append, List.append_nil, List.replicate_succ, List.replicate_zero, List.getElem?_cons_zero, List.getElem?_cons_succ, List.set_cons_zero, List.set_cons_succ, Option.bind_some, Option.bind_none, Fw.dat_sh, Fw.dat_ow, Fw.dat_pn, Fw.dat_lk, Fw.pn_un, Fw.pn_sh, Fw.pn_ow, Fw.mu_ow, Fw.mu_pn, Fw.own_ow, Fw.own_pn, Fw.own_lk, Fw.lock_ow, Fw.lock_pnT, Fw.lock_pnF, Fw.lock_lk, Fw.with_ow, Fw.with_pn, if_true, if_false, Bool.false_eq_true, Bool.true_eq_false, ite_true, ite_false, reduceIte,
  Fw.ix_lst, Fw.ix_rol, Fw.ix_tup, Fw.ix_rot, Fw.at0, Fw.at1, Fw.at2, Fw.at3, Fw.at4, Fw.atm1, Fw.add_int, Fw.add_lst, Fw.add_tup, Fw.add_str, Fw.sub_int, Fw.mul_mod, Fw.mul_r, Fw.mul_l, Fw.div_int, Fw.mod_int, Fw.p10_8, Fw.p10_18, Fw.pow_int, Fw.neg_int, Fw.cmp_int, Fw.is_non, Fw.isnot_non, Fw.isNon_non, Fw.isNon_int, Fw.isNon_str, Fw.isNon_lst, Fw.isNon_tup, Fw.eq_int, Fw.ne_int, Fw.eq_str, Fw.ne_str, Fw.len_lst, Fw.len_rol, Fw.len_tup, Fw.len_str, Fw.max2_int, Fw.min2_int, Fw.int_int, Fw.int_bl, Fw.list_lst, Fw.list_tup, Fw.tuple_lst, Fw.tuple_tup, Fw.append_lst, Fw.tru_bl, Fw.tru_lst, Fw.sl_rol, Fw.sl_lst,
  Fw.cellAt_ap, Fw.kind_lst, Fw.putD_ap, Fw.sPut_ap, Fw.putAt_ap, Fw.set_last, Fw.set0, Fw.set1, Fw.set2, Fw.pass_nil, Fw.pass_n, Fw.pass_c, Fw.passArg_sh, Fw.passArg_fr, Fw.passArg_boF, Fw.passArg_boT, Fw.ioOk_n, Fw.ioOk_nil, Fw.ioOk_bo, Fw.ioOk_sh, Fw.ioOk_fr, Fw.bo_nil, Fw.bo_bo, Fw.bo_sh, Fw.bo_fr, Fw.io_n, Fw.io_nil, Fw.io_T, Fw.io_F, Fw.outs_nil, Fw.outs_T, Fw.outs_F, Fw.outs_sh, Fw.putOuts_nil, Fw.putOuts_cons, Fw.gN_ap, Fw.gT_tup, Fw.gAll_nil, Fw.gAll_cons, Fw.sFor_ap, Fw.eLc_ap, Fw.back_nx, Fw.back_rt, Fw.iSeq_ap, Fw.seq_lst, Fw.seq_tup, Fw.iB_ap, Fw.yes_ap, Fw.eSl_ap, Fw.part_none, Fw.part_some, Fw.partR_int, Fw.rest_nil, Fw.rest_cons, Fw.keep_sh, Fw.keep_un, Fw.keep_none,
  List.map_nil, List.map_cons, List.contains_nil, List.contains_cons, Bool.not_false, Bool.not_true, Bool.and_self, Bool.and_true, Bool.true_and, Bool.false_and, Bool.and_false, Bool.or_true, Bool.true_or, Bool.or_false, Bool.false_or, Nat.reduceAdd, Nat.reduceSub, Nat.reduceEqDiff, Nat.reduceBEq, decide_true, decide_false, Int.reduceLT, Int.reduceLE, Int.reduceNeg, Int.reducePow, Int.reduceToNat, Nat.reducePow, Nat.reduceLT, Nat.reduceLeDiff, and_true, true_and, and_self, not_true_eq_false, not_false_eq_true,
  Fw.eNew_ap, Fw.newOf_ap, Fw.gU_lst, Fw.gTU_lst, Fw.gTU_tup, Fw.sAsg2_ap, Fw.rev_lst, Fw.rev_rol, Fw.eFf_ap, Fw.eDict0_ap, Fw.iS_ap, Fw.sRetN_ap, Fw.sPass_ap, Fw.sBreak_ap, Fw.sCont_ap, Fw.i_and, Fw.i_or, Fw.i_andE, Fw.i_orE, Fw.i_int, Fw.i_str, Fw.at5, Fw.at6, Fw.at7, Fw.at8, Fw.at9, Fw.at10, Fw.at11, Fw.at12, Fw.at13, Fw.at14, Fw.at15, Fw.at16, Fw.at17, Fw.at18, Fw.at19, Fw.at20, Fw.at21, Fw.at22, Fw.at23, Fw.at24, Fw.eFK_ap, Fw.permM_cons, Fw.pick_nil, Fw.pick_cons, Fw.noT_sh, Fw.noT_pn, Fw.inB_def, Fw.eMeth_ap, Fw.eMk_ap, Fw.popN_ok, Fw.popN_exc, Fw.sRaise_ap, Fw.sTry_ap, Fw.eXf_ap, Fw.lookX_ap, Fw.endS_nx, Fw.endS_rt, Fw.isX_ty, Fw.isX_cl, Fw.isX_tup, Fw.then_exc, true_or, or_false, or_true, List.lookup_cons, List.lookup_nil, List.take_zero, List.take_succ_cons, List.drop_zero, List.drop_succ_cons, List.all_cons, List.all_nil, List.dropLast_cons₂, List.dropLast_singleton, _root_.eq_self, Nat.reduceBEq, Nat.zero_add, Nat.reduceLeDiff, Nat.sub_self, Nat.lt_irrefl, Nat.add_zero, Fw.lc_nil, Fw.lc_consN, Fw.loop_nil, Fw.loop_cons, Fw.rng1_1, Fw.rng1_2, Fw.rng1_3, Fw.rng1_4, Fw.rng1_5, Fw.rng1_6, Fw.rng1_7, Fw.rng1_8, Fw.rng1_9, Fw.rng1_10, Fw.rng1_11, Fw.rng1_12, Fw.rng2_3_8, Fw.rng2_3_6, Fw.rng2_1_3, Fw.rng2_1_4, Fw.rng2_2_5, Fw.sPar_ap, Fw.eP_nil, Fw.eP_cons, Fw.nrm_sh, Fw.nrm_fr, Fw.nrm_bo, Fw.puts_nil, Fw.puts_cons, Fw.put1_sh, Fw.put1_fr, Fw.eMetL_ap, Fw.isLst_lst, Fw.kind_dk, Fw.eGet1_ap, Fw.eGet2_ap, Fw.getK_ap, Fw.dkAt_ap, Fw.shOf_sh, Fw.key_str, Fw.key_int, Fw.in2_str, Fw.nin2_str, Option.getD_some, Option.getD_none, Option.isSome_some, Option.isSome_none, *])
local macro_rules | `(tactic| walk_at "e0") => `(tactic| simp only [Fw.defN, Fw.defX, Fw.arity_ap, Fw.mkN_ap, Fw.mkF_ap, Fw.eC_ap, Fw.eVar_ap, Fw.e2_ap, Fw.op2_ap, Fw.cur_sh, Fw.cur_fr, Fw.cur_bo, Fw.e1_ap, Fw.eA_nil, Fw.eA_cons, Fw.eB_ap, Fw.curs_nil, Fw.curs_cons, Fw.eTup_ap, Fw.eLst_ap, Fw.shrs_nil, Fw.shrs_cons, Fw.shr_sh, Fw.shr_fr, Fw.shr_bo, Fw.eF_ap, Fw.callM_ap, Fw.sSeq_ap, Fw.sSet_ap, Fw.then_ok, Fw.put_ap, Fw.sExpr_ap, Fw.sRet_ap, Fw.retR_sh, Fw.retR_fr, Fw.retR_bo, Fw.sIf_ap, Fw.mB_ap, Fw.toB_bl, Fw.mT_ap, Fw.mAnd_ap, Fw.mOr_ap, Fw.mNot_ap, Fw.eAnd_ap, Fw.eOr_ap, Fw.eNot_ap, Fw.eIf_ap, Fw.eChain_ap, Fw.sNil_ap, Fw.sFg_ap, Fw.wipeE_nil, Fw.wipeE_cons, Fw.eMut_ap, Fw.eMetS_ap, Fw.afterF, Fw.toF, Fw.sAsg_ap, Fw.R.bind_ok, Fw.R.bind_exc, Fw.R.bind_bad, Fw.R.then,
  List.length_cons, List.length_nil, List.cons_append, List.nil_append, List.append_nil, List.replicate_succ, List.replicate_zero, List.getElem?_cons_zero, List.getElem?_cons_succ, List.set_cons_zero, List.set_cons_succ, Option.bind_some, Option.bind_none, Fw.dat_sh, Fw.dat_ow, Fw.dat_pn, Fw.dat_lk, Fw.pn_un, Fw.pn_sh, Fw.pn_ow, Fw.mu_ow, Fw.mu_pn, Fw.own_ow, Fw.own_pn, Fw.own_lk, Fw.lock_ow, Fw.lock_pnT, Fw.lock_pnF, Fw.lock_lk, Fw.with_ow, Fw.with_pn, if_true, if_false, Bool.false_eq_true, Bool.true_eq_false, ite_true, ite_false, reduceIte,
  Fw.ix_lst, Fw.ix_rol, Fw.ix_tup, Fw.ix_rot, Fw.at0, Fw.at1, Fw.at2, Fw.at3, Fw.at4, Fw.atm1, Fw.add_int, Fw.add_lst, Fw.add_tup, Fw.add_str, Fw.sub_int, Fw.mul_mod, Fw.mul_r, Fw.mul_l, Fw.div_int, Fw.mod_int, Fw.p10_8, Fw.p10_18, Fw.pow_int, Fw.neg_int, Fw.cmp_int, Fw.is_non, Fw.isnot_non, Fw.isNon_non, Fw.isNon_int, Fw.isNon_str, Fw.isNon_lst, Fw.isNon_tup, Fw.eq_int, Fw.ne_int, Fw.eq_str, Fw.ne_str, Fw.len_lst, Fw.len_rol, Fw.len_tup, Fw.len_str, Fw.max2_int, Fw.min2_int, Fw.int_int, Fw.int_bl, Fw.list_lst, Fw.list_tup, Fw.tuple_lst, Fw.tuple_tup, Fw.append_lst, Fw.tru_bl, Fw.tru_lst, Fw.sl_rol, Fw.sl_lst,
  Fw.cellAt_ap, Fw.kind_lst, Fw.putD_ap, Fw.sPut_ap, Fw.putAt_ap, Fw.set_last, Fw.set0, Fw.set1, Fw.set2, Fw.pass_nil, Fw.pass_n, Fw.pass_c, Fw.passArg_sh, Fw.passArg_fr, Fw.passArg_boF, Fw.passArg_boT, Fw.ioOk_n, Fw.ioOk_nil, Fw.ioOk_bo, Fw.ioOk_sh, Fw.ioOk_fr, Fw.bo_nil, Fw.bo_bo, Fw.bo_sh, Fw.bo_fr, Fw.io_n, Fw.io_nil, Fw.io_T, Fw.io_F, Fw.outs_nil, Fw.outs_T, Fw.outs_F, Fw.outs_sh, Fw.putOuts_nil, Fw.putOuts_cons, Fw.gN_ap, Fw.gT_tup, Fw.gAll_nil, Fw.gAll_cons, Fw.sFor_ap, Fw.eLc_ap, Fw.back_nx, Fw.back_rt, Fw.iSeq_ap, Fw.seq_lst, Fw.seq_tup, Fw.iB_ap, Fw.yes_ap, Fw.eSl_ap, Fw.part_none, Fw.part_some, Fw.partR_int, Fw.rest_nil, Fw.rest_cons, Fw.keep_sh, Fw.keep_un, Fw.keep_none,
  List.map_nil, List.map_cons, List.contains_nil, List.contains_cons, Bool.not_false, Bool.not_true, Bool.and_self, Bool.and_true, Bool.true_and, Bool.false_and, Bool.and_false, Bool.or_true, Bool.true_or, Bool.or_false, Bool.false_or, Nat.reduceAdd, Nat.reduceSub, Nat.reduceEqDiff, Nat.reduceBEq, decide_true, decide_false, Int.reduceLT, Int.reduceLE, Int.reduceNeg, Int.reducePow, Int.reduceToNat, Nat.reducePow, Nat.reduceLT, Nat.reduceLeDiff, and_true, true_and, and_self, not_true_eq_false, not_false_eq_true,
  Fw.eNew_ap, Fw.newOf_ap, Fw.gU_lst, Fw.gTU_lst, Fw.gTU_tup, Fw.sAsg2_ap, Fw.rev_lst, Fw.rev_rol, Fw.eFf_ap, Fw.eDict0_ap, Fw.iS_ap, Fw.sRetN_ap, Fw.sPass_ap, Fw.sBreak_ap, Fw.sCont_ap, Fw.i_and, Fw.i_or, Fw.i_andE, Fw.i_orE, Fw.i_int, Fw.i_str, Fw.at5, Fw.at6, Fw.at7, Fw.at8, Fw.at9, Fw.at10, Fw.at11, Fw.at12, Fw.at13, Fw.at14, Fw.at15, Fw.at16, Fw.at17, Fw.at18, Fw.at19, Fw.at20, Fw.at21, Fw.at22, Fw.at23, Fw.at24, Fw.eFK_ap, Fw.permM_cons, Fw.pick_nil, Fw.pick_cons, Fw.noT_sh, Fw.noT_pn, Fw.inB_def, Fw.eMeth_ap, Fw.eMk_ap, Fw.popN_ok, Fw.popN_exc, Fw.sRaise_ap, Fw.sTry_ap, Fw.eXf_ap, Fw.lookX_ap, Fw.endS_nx, Fw.endS_rt, Fw.isX_ty, Fw.isX_cl, Fw.isX_tup, Fw.then_exc, true_or, or_false, or_true, List.lookup_cons, List.lookup_nil, List.take_zero, List.take_succ_cons, List.drop_zero, List.drop_succ_cons, List.all_cons, List.all_nil, List.dropLast_cons₂, List.dropLast_singleton, _root_.eq_self, Nat.reduceBEq, Nat.zero_add, Nat.reduceLeDiff, Nat.sub_self, Nat.lt_irrefl, Nat.add_zero, Fw.lc_nil, Fw.lc_consN, Fw.loop_nil, Fw.loop_cons, Fw.rng1_1, Fw.rng1_2, Fw.rng1_3, Fw.rng1_4, Fw.rng1_5, Fw.rng1_6, Fw.rng1_7, Fw.rng1_8, Fw.rng1_9, Fw.rng1_10, Fw.rng1_11, Fw.rng1_12, Fw.rng2_3_8, Fw.rng2_3_6, Fw.rng2_1_3, Fw.rng2_1_4, Fw.rng2_2_5, Fw.sPar_ap, Fw.eP_nil, Fw.eP_cons, Fw.nrm_sh, Fw.nrm_fr, Fw.nrm_bo, Fw.puts_nil, Fw.puts_cons, Fw.put1_sh, Fw.put1_fr, Fw.eMetL_ap, Fw.isLst_lst, Fw.kind_dk, Fw.eGet1_ap, Fw.eGet2_ap, Fw.getK_ap, Fw.dkAt_ap, Fw.shOf_sh, Fw.key_str, Fw.key_int, Fw.in2_str, Fw.nin2_str, Option.getD_some, Option.getD_none, Option.isSome_some, Option.isSome_none])
local macro_rules | `(tactic| walk_at "go") => `(tactic| repeat' (first | done | rfl | (walk_at "ev"; done) | (split <;> try walk_at "ev")))
theorem core_cc1 (X : Sl) (c w : Fw.D) (al : Bool) (far sz many : Int) (t : Str) (P Q : List Fw.D) (Y : M ER) (hl : P.length ≤ 1000000)
    (h : lcLoop (some (8, .lk (.lst P))) [15] (gN 15) mYes Y P [X, .sh c, .ow w, .sh (.bl al), .sh (.int far), .sh (.int sz), .sh (.int many), .sh (.str t), .lk (.lst P), .un, .un, .un, .un, .un, .un, .un, .un] = some (Q, [X, .sh c, .ow w, .sh (.bl al), .sh (.int far), .sh (.int sz), .sh (.int many), .sh (.str t), .lk (.lst P), .un, .un, .un, .un, .un, .un, .un, .un])) :
    (eLc (iSeq (eVar 8)) [15] (gN 15) (mYes) Y) (E8 X c w al far sz many t P .un .un .un .un .un .un) = .ok (.fr (.lst Q)) (E8 X c w al far sz many t P .un .un .un .un .un .un) := by
  have hm : ¬ 8 ∈ [15] := by decide
  unfold E8
  walk_at "ev"
theorem core_x1 (a0 a1 a2 a3 a4 a5 a6 a7 a8 a9 a10 a11 a12 a13 a14 a16 : Sl) (L : List Fw.D) :
    (eB gList [eVar 15]) [a0, a1, a2, a3, a4, a5, a6, a7, a8, a9, a10, a11, a12, a13, a14, .sh (.lst L), a16] = .ok (.fr (.lst L)) [a0, a1, a2, a3, a4, a5, a6, a7, a8, a9, a10, a11, a12, a13, a14, .sh (.lst L), a16] := by
  have h : gList [.lst L] = some (.fr (.lst L)) := rfl
  walk_at "ev"
theorem lists {c : Option (Nat × Sl)} (a0 a1 a2 a3 a4 a5 a6 a7 a8 a9 a10 a11 a12 a13 a14 : Sl) (hc : ∀ j s, c = some (j, s) → ([a0, a1, a2, a3, a4, a5, a6, a7, a8, a9, a10, a11, a12, a13, a14, .un, .un] : En)[j]? = some s) (pcs : List (List PT)) :
    lcLoop c [15] (gN 15) mYes x1_law (pcs.map plD) [a0, a1, a2, a3, a4, a5, a6, a7, a8, a9, a10, a11, a12, a13, a14, .un, .un] = some (pcs.map plD, [a0, a1, a2, a3, a4, a5, a6, a7, a8, a9, a10, a11, a12, a13, a14, .un, .un]) := by
  have h := lc_map (c := c) (own := [15]) (g := gN 15) (tt := mYes) (elt := x1_law) (en := [a0, a1, a2, a3, a4, a5, a6, a7, a8, a9, a10, a11, a12, a13, a14, .un, .un]) plD (fun _ => true) plD hc pcs (fun p _ => by
    refine ⟨[a0, a1, a2, a3, a4, a5, a6, a7, a8, a9, a10, a11, a12, a13, a14, .sh (plD p), .un], [a0, a1, a2, a3, a4, a5, a6, a7, a8, a9, a10, a11, a12, a13, a14, .sh (plD p), .un], rfl, rfl, ?_⟩
    rw [if_pos rfl]
    exact ⟨_, _, [a0, a1, a2, a3, a4, a5, a6, a7, a8, a9, a10, a11, a12, a13, a14, .sh (plD p), .un], core_x1 a0 a1 a2 a3 a4 a5 a6 a7 a8 a9 a10 a11 a12 a13 a14 .un (p.map itD), rfl, rfl⟩)
  rw [List.filter_eq_self.mpr (fun _ _ => rfl)] at h
  exact h
theorem core_t2' (a0 a1 a2 a3 a4 a5 a6 a7 a8 a9 a10 a11 a13 a14 a15 : Sl) (D : List Fw.D) (h : dNe (.lst D) (.lst D) = some (.sh (.bl false))) (h2 : gIsi [.lst D, .ty "list"] = some (.sh (.bl true))) :
    (mOr (mNot (mT (eB gIsi [eVar 16, eC (.ty "list")]))) (mB (e2 dNe (eVar 16) (eVar 12)))) [a0, a1, a2, a3, a4, a5, a6, a7, a8, a9, a10, a11, .ow (.lst D), a13, a14, a15, .sh (.lst D)] = .ok false [a0, a1, a2, a3, a4, a5, a6, a7, a8, a9, a10, a11, .ow (.lst D), a13, a14, a15, .sh (.lst D)] := by
  walk_at "ev"
theorem core_c2' (X : Sl) (c w : Fw.D) (al : Bool) (far sz many : Int) (t : Str) (P D F : List Fw.D) (s13 : Sl) (T : M Bool) (Y : M ER) (hl : F.length ≤ 1000000)
    (h : lcLoop (some (14, .lk (.lst F))) [16] (gN 16) T Y F [X, .sh c, .ow w, .sh (.bl al), .sh (.int far), .sh (.int sz), .sh (.int many), .sh (.str t), .ow (.lst P), .un, .un, .ow (.lst P), .ow (.lst D), s13, .lk (.lst F), .un, .un] = some ([], [X, .sh c, .ow w, .sh (.bl al), .sh (.int far), .sh (.int sz), .sh (.int many), .sh (.str t), .ow (.lst P), .un, .un, .ow (.lst P), .ow (.lst D), s13, .lk (.lst F), .un, .un])) :
    (eLc (iSeq (eVar 14)) [16] (gN 16) (T) Y) (E8 X c w al far sz many t P .un .un (.ow (.lst P)) (.ow (.lst D)) s13 (.ow (.lst F))) = .ok (.fr (.lst [])) (E8 X c w al far sz many t P .un .un (.ow (.lst P)) (.ow (.lst D)) s13 (.ow (.lst F))) := by
  have hm : ¬ 14 ∈ [16] := by decide
  unfold E8
  walk_at "ev"
theorem none_left {c : Option (Nat × Sl)} (a0 a1 a2 a3 a4 a5 a6 a7 a8 a9 a10 a11 a13 a14 : Sl) (D : List Fw.D) (h1 : dNe (.lst D) (.lst D) = some (.sh (.bl false))) (hc : ∀ j s, c = some (j, s) → ([a0, a1, a2, a3, a4, a5, a6, a7, a8, a9, a10, a11, .ow (.lst D), a13, a14, .un, .un] : En)[j]? = some s) (xs : List Unit) :
    lcLoop c [16] (gN 16) t1_law x2_law (xs.map fun _ => .lst D) [a0, a1, a2, a3, a4, a5, a6, a7, a8, a9, a10, a11, .ow (.lst D), a13, a14, .un, .un] = some ([], [a0, a1, a2, a3, a4, a5, a6, a7, a8, a9, a10, a11, .ow (.lst D), a13, a14, .un, .un]) := by
  have h := lc_map (c := c) (own := [16]) (g := gN 16) (tt := t1_law) (elt := x2_law) (en := [a0, a1, a2, a3, a4, a5, a6, a7, a8, a9, a10, a11, .ow (.lst D), a13, a14, .un, .un]) (fun (_ : Unit) => Fw.D.lst D) (fun _ => false) (fun _ => Fw.D.lst D) hc xs (fun p _ => by
    refine ⟨[a0, a1, a2, a3, a4, a5, a6, a7, a8, a9, a10, a11, .ow (.lst D), a13, a14, .un, .sh (.lst D)], [a0, a1, a2, a3, a4, a5, a6, a7, a8, a9, a10, a11, .ow (.lst D), a13, a14, .un, .sh (.lst D)], rfl, core_t2' a0 a1 a2 a3 a4 a5 a6 a7 a8 a9 a10 a11 a13 a14 .un D h1 rfl, ?_⟩
    rw [if_neg Bool.false_ne_true]
    rfl)
  have e : xs.filter (fun _ => false) = [] := by
    rw [List.filter_eq_nil_iff]
    exact fun _ _ h => by cases h
  rw [e] at h
  exact h
theorem core_B (X : Sl) (c w w2 : Fw.D) (al : Bool) (far sz many hf n : Int) (t : Str) (P D K2 P1 P2 D1 D2 Q D3 : List Fw.D) (K : List (L2.Key × Fw.D)) (C1 C2 : M ER) (TA PA OB FL JO TU WG : FM) (SL : Fw.D → Option Int → Option Int → Option ER) (AP : Fw.D → List Fw.D → Option (Fw.D × Fw.D)) (GL : List Fw.D → Option ER)
    (c1 : C1 (E8 X c w al far sz many t P .un .un .un .un .un .un) = .ok (.fr (.lst P)) (E8 X c w al far sz many t P .un .un .un .un .un .un))
    (ta : TA [.pn false (.lst P)] = .ok (.fr (.dk K)) []) (pa : PA [.sh (.dk K)] = .ok (.fr (.lst D)) []) (dv : dDiv (.int many) (.int 2) = some (.sh (.int hf)))
    (ob : OB [.pn false (.lst P)] = .ok (.fr (.lst D)) []) (fl : FL [.pn false (.lst P)] = .ok (.fr (.lst D)) [])
    (s1 : SL (.lst P) none (some hf) = some (.fr (.lst P1))) (s2 : SL (.lst P) (some hf) none = some (.fr (.lst P2))) (o1 : OB [.sh (.lst P1)] = .ok (.fr (.lst D1)) []) (o2 : OB [.sh (.lst P2)] = .ok (.fr (.lst D2)) []) (j1 : JO [.sh (.lst D1), .sh (.lst D2)] = .ok (.fr (.lst D)) [])
    (ap : AP (.lst [.lst D, .lst D]) [.lst D] = some (.lst [.lst D, .lst D, .lst D], .non))
    (c2 : C2 (E8 X c w al far sz many t P .un .un (.ow (.lst P)) (.ow (.lst D)) (.sh (.int hf)) (.ow (.lst [.lst D, .lst D, .lst D]))) = .ok (.fr (.lst [])) (E8 X c w al far sz many t P .un .un (.ow (.lst P)) (.ow (.lst D)) (.sh (.int hf)) (.ow (.lst [.lst D, .lst D, .lst D]))))
    (nN : dNe (.lst []) (.lst []) = some (.sh (.bl false))) (tu : TU [.pn true w, .pn false (.lst P)] = .ok (.fr (.lst Q)) [w2]) (o3 : al = true → OB [.sh (.lst Q)] = .ok (.fr (.lst D)) []) (nD : dNe (.lst D) (.lst D) = some (.sh (.bl false)))
    (jd : JO [.pn false (.lst D), .pn false (.lst D)] = .ok (.fr (.lst D)) []) (wg : WG [.pn false (.lst D)] = .ok (.sh (.int n)) []) (gl : GL [.dk K] = some (.sh (.int n))) (nn : dNe (.int n) (.int n) = some (.sh (.bl false))) (nP : dNe (.lst P) (.lst P) = some (.sh (.bl false))) :
    (sSeq (sSet 11 (C1)) (sSeq (sSet 12 (eF [] PA [] [eF [] TA [] [eVar 8]])) (sSeq (sSet 13 (e2 dDiv (eVar 6) (eC (.int 2)))) (sSeq (sSet 14 (eLst [eF [] OB [] [eVar 11], eF [] FL [] [eVar 11]])) (sSeq (sExpr (eMut 1 14 AP [eF [] JO [] [eF [] OB [] [eSl SL (eVar 11) none (some (eVar 13))], eF [] OB [] [eSl SL (eVar 11) (some (eVar 13)) none]]])) (sSeq (sIf (mB (e2 dNe (C2) (eLst []))) (sRet (eC (.bl false))) (sNil)) (sSeq (sIf (mAnd (mT (eVar 3)) (mB (e2 dNe (eF [] OB [] [eF [true, false] TU [] [eVar 2, eVar 11]]) (eVar 12)))) (sRet (eC (.bl false))) (sNil)) (sIf (mOr (mB (e2 dNe (eF [] JO [] [eVar 12, eVar 12]) (eVar 12))) (mOr (mB (e2 dNe (eF [] WG [] [eVar 12]) (eB GL [eF [] TA [] [eVar 8]]))) (mB (e2 dNe (eVar 11) (eVar 8))))) (sRet (eC (.bl false))) (sNil)))))))))
      (E8 X c w al far sz many t P .un .un .un .un .un .un) = .nx (E8 X c (if al = true then w2 else w) al far sz many t P .un .un (.ow (.lst P)) (.ow (.lst D)) (.sh (.int hf)) (.ow (.lst [.lst D, .lst D, .lst D]))) := by
  unfold E8 at *
  cases al with
  | true =>
    have o3 := o3 rfl
    walk_at "ev"
  | false =>
    clear o3
    walk_at "ev"
theorem core_far (X : Sl) (c w0 w1 w2 : Fw.D) (al : Bool) (T r k x : Int) (DR : FM) (PO : Fw.D → Fw.D → Option ER) (p1 : PO (.int 10) (.int 59) = some (.sh (.int T))) (p2 : PO (.int 10) (.int 9) = some (.sh (.int 1000000000))) (e1 : DR [.pn true w0, .sh (.int 1000000000)] = .ok (.sh (.int r)) [w1]) (e2' : DR [.pn true w1, .sh (.int 4)] = .ok (.sh (.int k)) [w2])
    (e3 : dIx (.lst [.int 0, .int 0, .int 0, .int (T + r)]) (.int k) = some (.sh (.int x))) :
    (e2 dIx (eLst [eC (.int 0), eC (.int 0), eC (.int 0), e2 dAdd (e2 PO (eC (.int 10)) (eC (.int 59))) (eF [true, false] DR [] [eVar 2, e2 PO (eC (.int 10)) (eC (.int 9))])]) (eF [true, false] DR [] [eVar 2, eC (.int 4)])) [X, .sh c, .ow w0, .sh (.bl al), .un, .un, .un, .un, .un, .un, .un, .un, .un, .un, .un, .un, .un] = .ok (.sh (.int x)) [X, .sh c, .ow w2, .sh (.bl al), .un, .un, .un, .un, .un, .un, .un, .un, .un, .un, .un, .un, .un] := by
  walk_at "ev"
theorem core_A (X : Sl) (c w0 w1 w2 w3 w4 w5 w6 w7 : Fw.D) (z : Int) (al : Bool) (far s m : Int) (t : Str) (P R : List Fw.D) (h11 h12 h13 h14 : Sl) (FA : M ER) (WE DR TE : FM) (F : SM) (B : SM) (hR : R.length ≤ 1000000)
    (e1 : WE [.sh c] = .ok (.fr w0) []) (e2' : DR [.pn true w0, .sh (.int 2)] = .ok (.sh (.int z)) [w1]) (e3 : dEq (.int z) (.int 0) = some (.sh (.bl al)))
    (e4 : FA [X, .sh c, .ow w1, .sh (.bl al), .un, .un, .un, .un, .un, .un, .un, .un, .un, .un, .un, .un, .un] = .ok (.sh (.int far)) [X, .sh c, .ow w2, .sh (.bl al), .un, .un, .un, .un, .un, .un, .un, .un, .un, .un, .un, .un, .un])
    (e5 : DR [.pn true w2, .sh (.int 59)] = .ok (.sh (.int s)) [w3]) (e6 : DR [.pn true w3, .sh (.int 7)] = .ok (.sh (.int m)) [w4]) (e7 : TE [.pn true w4, .sh (.int (2 + s))] = .ok (.sh (.str t)) [w5])
    (e8 : rng1 [.int (2 + m)] = some R)
    (e9 : loop (gN 9) F R (E8 X c w5 al far (2 + s) (2 + m) t [] .un .un .un .un .un .un) = .nx (E8 X c w6 al far (2 + s) (2 + m) t P .un .un .un .un .un .un))
    (b : B (E8 X c w6 al far (2 + s) (2 + m) t P .un .un .un .un .un .un) = .nx (E8 X c w7 al far (2 + s) (2 + m) t P .un .un h11 h12 h13 h14)) :
    turn (gN 1) (sFg [1, 2, 3, 4, 5, 6, 7, 8, 9, 10, 11, 12, 13, 14] (sSeq (sSet 2 (eF [] WE [] [eVar 1])) (sSeq (sSet 3 (e2 dEq (eF [true, false] DR [] [eVar 2, eC (.int 2)]) (eC (.int 0)))) (sSeq (sSet 4 FA) (sSeq (sSet 5 (e2 dAdd (eC (.int 2)) (eF [true, false] DR [] [eVar 2, eC (.int 59)]))) (sSeq (sSet 6 (e2 dAdd (eC (.int 2)) (eF [true, false] DR [] [eVar 2, eC (.int 7)]))) (sSeq (sSet 7 (eF [true, false] TE [] [eVar 2, eVar 5])) (sSeq (sSet 8 (eLst [])) (sSeq (sFor (iB rng1 [eVar 6]) (gN 9) (F)) B)))))))))
      c [X, .un, .un, .un, .un, .un, .un, .un, .un, .un, .un, .un, .un, .un, .un, .un, .un] = .nx [X, .un, .un, .un, .un, .un, .un, .un, .un, .un, .un, .un, .un, .un, .un, .un, .un] := by
  unfold E8 at *
  unfold turn
  walk_at "ev"
theorem pl_py (ps : List PT) (n : Nat) : ∃ q, toPy (n + 1 + 1) (plD ps) = some q := toPy_lst fun d hd => by
  obtain ⟨p, _, rfl⟩ := List.mem_map.mp hd
  exact it_py p n
theorem ne_pls (pcs : List (List PT)) : dNe (.lst (pcs.map plD)) (.lst (pcs.map plD)) = some (.sh (.bl false)) := ne_self (toPy_lst fun d hd => by
  obtain ⟨p, _, rfl⟩ := List.mem_map.mp hd
  exact pl_py p 37)
theorem ne_its (ps : List PT) : dNe (.lst (ps.map itD)) (.lst (ps.map itD)) = some (.sh (.bl false)) := ne_self (toPy_lst fun d hd => by
  obtain ⟨p, _, rfl⟩ := List.mem_map.mp hd
  exact it_py p 38)
theorem cutL_none {α : Type} (xs : List α) (n : Int) (h : 0 ≤ n) (h2 : n ≤ xs.length) : cutL xs none (some n) = xs.take n.toNat ∧ cutL xs (some n) none = xs.drop n.toNat := by
  obtain ⟨k, rfl⟩ := Int.eq_ofNat_of_zero_le h
  have hk : k ≤ xs.length := by omega
  rw [Int.toNat_natCast]
  constructor
  · unfold cutL
    rw [HT.sIx_nat, HT.sIx_none, Nat.min_eq_left hk, List.drop_zero, Nat.sub_zero]
  · unfold cutL
    rw [HT.sIx_nat, HT.sIx_none, Nat.min_eq_left hk]
    exact List.take_of_length_le (by rw [List.length_drop]; omega)
end Law
set_option linter.all false
set_option maxRecDepth 100000
set_option Elab.async false
namespace Law
open PySem Fw
local macro_rules | `(tactic| walk_at "ev") => `(tactic| simp only [Fw.defN, Fw.defX, Fw.arity_ap, Fw.mkN_ap, Fw.mkF_ap, Fw.eC_ap, Fw.eVar_ap, Fw.e2_ap, Fw.op2_ap, Fw.cur_sh, Fw.cur_fr, Fw.cur_bo, Fw.e1_ap, Fw.eA_nil, Fw.eA_cons, Fw.eB_ap, Fw.curs_nil, Fw.curs_cons, Fw.eTup_ap, Fw.eLst_ap, Fw.shrs_nil, Fw.shrs_cons, Fw.shr_sh, Fw.shr_fr, Fw.shr_bo, Fw.eF_ap, Fw.callM_ap, Fw.sSeq_ap, Fw.sSet_ap, Fw.then_ok, Fw.put_ap, Fw.sExpr_ap, Fw.sRet_ap, Fw.retR_sh, Fw.retR_fr, Fw.retR_bo, Fw.sIf_ap, Fw.mB_ap, Fw.toB_bl, Fw.mT_ap, Fw.mAnd_ap, Fw.mOr_ap, Fw.mNot_ap, Fw.eAnd_ap, Fw.eOr_ap, Fw.eNot_ap, Fw.eIf_ap, Fw.eChain_ap, Fw.sNil_ap, Fw.sFg_ap, Fw.wipeE_nil, Fw.wipeE_cons, Fw.eMut_ap, Fw.eMetS_ap, Fw.afterF, Fw.toF, Fw.sAsg_ap, Fw.R.bind_ok, Fw.R.bind_exc, Fw.R.bind_bad, Fw.R.then,
  List.length_cons, List.length_nil, List.cons_append, List.nil_append, List.append_nil, List.replicate_succ, List.replicate_zero, List.getElem?_cons_zero, List.getElem?_cons_succ, List.set_cons_zero, List.set_cons_succ, Option.bind_some, Option.bind_none, Fw.dat_sh, Fw.dat_ow, Fw.dat_pn, Fw.dat_lk, Fw.pn_un, Fw.pn_sh, Fw.pn_ow, Fw.mu_ow, Fw.mu_pn, Fw.own_ow, Fw.own_pn, Fw.own_lk, Fw.lock_ow, Fw.lock_pnT, Fw.lock_pnF, Fw.lock_lk, Fw.with_ow, Fw.with_pn, if_true, if_false, Bool.false_eq_true, Bool.true_eq_false, ite_true, ite_false, reduceIte,
  Fw.ix_lst, Fw.ix_rol, Fw.ix_tup, Fw.ix_rot, Fw.at0, Fw.at1, Fw.at2, Fw.at3, Fw.at4, Fw.atm1, Fw.add_int, Fw.add_lst, Fw.add_tup, Fw.add_str, Fw.sub_int, Fw.mul_mod, Fw.mul_r, Fw.mul_l, Fw.div_int, Fw.mod_int, Fw.p10_8, Fw.p10_18, Fw.pow_int, Fw.neg_int, Fw.cmp_int, Fw.is_non, Fw.isnot_non, Fw.isNon_non, Fw.isNon_int, Fw.isNon_str, Fw.isNon_lst, Fw.isNon_tup, Fw.eq_int, Fw.ne_int, Fw.eq_str, Fw.ne_str, Fw.len_lst, Fw.len_rol, Fw.len_tup, Fw.len_str, Fw.max2_int, Fw.min2_int, Fw.int_int, Fw.int_bl, Fw.list_lst, Fw.list_tup, Fw.tuple_lst, Fw.tuple_tup, Fw.append_lst, Fw.tru_bl, Fw.tru_lst, Fw.sl_rol, Fw.sl_lst,
  Fw.cellAt_ap, Fw.kind_lst, Fw.putD_ap, Fw.sPut_ap, Fw.putAt_ap, Fw.set_last, Fw.set0, Fw.set1, Fw.set2, Fw.pass_nil, Fw.pass_n, Fw.pass_c, Fw.passArg_sh, Fw.passArg_fr, Fw.passArg_boF, Fw.passArg_boT, Fw.ioOk_n, Fw.ioOk_nil, Fw.ioOk_bo, Fw.ioOk_sh, Fw.ioOk_fr, Fw.bo_nil, Fw.bo_bo, Fw.bo_sh, Fw.bo_fr, Fw.io_n, Fw.io_nil, Fw.io_T, Fw.io_F, Fw.outs_nil, Fw.outs_T, Fw.outs_F, Fw.outs_sh, Fw.putOuts_nil, Fw.putOuts_cons, Fw.gN_ap, Fw.gT_tup, Fw.gAll_nil, Fw.gAll_cons, Fw.sFor_ap, Fw.eLc_ap, Fw.back_nx, Fw.back_rt, Fw.iSeq_ap, Fw.seq_lst, Fw.seq_tup, Fw.iB_ap, Fw.yes_ap, Fw.eSl_ap, Fw.part_none, Fw.part_some, Fw.partR_int, Fw.rest_nil, Fw.rest_cons, Fw.keep_sh, Fw.keep_un, Fw.keep_none,
  List.map_nil, List.map_cons, List.contains_nil, List.contains_cons, Bool.not_false, Bool.not_true, Bool.and_self, Bool.and_true, Bool.true_and, Bool.false_and, Bool.and_false, Bool.or_true, Bool.true_or, Bool.or_false, Bool.false_or, Nat.reduceAdd, Nat.reduceSub, Nat.reduceEqDiff, Nat.reduceBEq, decide_true, decide_false, Int.reduceLT, Int.reduceLE, Int.reduceNeg, Int.reducePow, Int.reduceToNat, Nat.reducePow, Nat.reduceLT, Nat.reduceLeDiff, and_true, true_and, and_self, not_true_eq_false, not_false_eq_true,
  Fw.eNew_ap, Fw.newOf_ap, Fw.gU_lst, Fw.gTU_lst, Fw.gTU_tup, Fw.sAsg2_ap, Fw.rev_lst, Fw.rev_rol, Fw.eFf_ap, Fw.eDict0_ap, Fw.iS_ap, Fw.sRetN_ap, Fw.sPass_ap, Fw.sBreak_ap, Fw.sCont_ap, Fw.i_and, Fw.i_or, Fw.i_andE, Fw.i_orE, Fw.i_int, Fw.i_str, Fw.at5, Fw.at6, Fw.at7, Fw.at8, Fw.at9, Fw.at10, Fw.at11, Fw.at12, Fw.at13, Fw.at14, Fw.at15, Fw.at16, Fw.at17, Fw.at18, Fw.at19, Fw.at20, Fw.at21, Fw.at22, Fw.at23, Fw.at24, Fw.eFK_ap, Fw.permM_cons, Fw.pick_nil, Fw.pick_cons, Fw.noT_sh, Fw.noT_pn, Fw.inB_def, Fw.eMeth_ap, Fw.eMk_ap, Fw.popN_ok, Fw.popN_exc, Fw.sRaise_ap, Fw.sTry_ap, Fw.eXf_ap, Fw.lookX_ap, Fw.endS_nx, Fw.endS_rt, Fw.isX_ty, Fw.isX_cl, Fw.isX_tup, Fw.then_exc, true_or, or_false, or_true, List.lookup_cons, List.lookup_nil, List.take_zero, List.take_succ_cons, List.drop_zero, List.drop_succ_cons, List.all_cons, List.all_nil, List.dropLast_cons₂, List.dropLast_singleton, _root_.eq_self, Nat.reduceBEq, Nat.zero_add, Nat.reduceLeDiff, Nat.sub_self, Nat.lt_irrefl, Nat.add_zero, Fw.lc_nil, Fw.lc_consN, Fw.loop_nil, Fw.loop_cons, Fw.rng1_1, Fw.rng1_2, Fw.rng1_3, Fw.rng1_4, Fw.rng1_5, Fw.rng1_6, Fw.rng1_7, Fw.rng1_8, Fw.rng1_9, Fw.rng1_10, Fw.rng1_11, Fw.rng1_12, Fw.rng2_3_8, Fw.rng2_3_6, Fw.rng2_1_3, Fw.rng2_1_4, Fw.rng2_2_5, Fw.sPar_ap, Fw.eP_nil, Fw.eP_cons, Fw.nrm_sh, Fw.nrm_fr, Fw.nrm_bo, Fw.puts_nil, Fw.puts_cons, Fw.put1_sh, Fw.put1_fr, Fw.eMetL_ap, Fw.isLst_lst, Fw.kind_dk, Fw.eGet1_ap, Fw.eGet2_ap, Fw.getK_ap, Fw.dkAt_ap, Fw.shOf_sh, Fw.key_str, Fw.key_int, Fw.in2_str, Fw.nin2_str, Option.getD_some, Option.getD_none, Option.isSome_some, Option.isSome_none, *])
local macro_rules | `(tactic| walk_at "e0") => `(tactic| simp only [Fw.defN, Fw.defX, Fw.arity_ap, Fw.mkN_ap, Fw.mkF_ap, Fw.eC_ap, Fw.eVar_ap, Fw.e2_ap, Fw.op2_ap, Fw.cur_sh, Fw.cur_fr, Fw.cur_bo, Fw.e1_ap, Fw.eA_nil, Fw.eA_cons, Fw.eB_ap, Fw.curs_nil, Fw.curs_cons, Fw.eTup_ap, Fw.eLst_ap, Fw.shrs_nil, Fw.shrs_cons, Fw.shr_sh, Fw.shr_fr, Fw.shr_bo, Fw.eF_ap, Fw.callM_ap, Fw.sSeq_ap, Fw.sSet_ap, Fw.then_ok, Fw.put_ap, Fw.sExpr_ap, Fw.sRet_ap, Fw.retR_sh, Fw.retR_fr, Fw.retR_bo, Fw.sIf_ap, Fw.mB_ap, Fw.toB_bl, Fw.mT_ap, Fw.mAnd_ap, Fw.mOr_ap, Fw.mNot_ap, Fw.eAnd_ap, Fw.eOr_ap, Fw.eNot_ap, Fw.eIf_ap, Fw.eChain_ap, Fw.sNil_ap, Fw.sFg_ap, Fw.wipeE_nil, Fw.wipeE_cons, Fw.eMut_ap, Fw.eMetS_ap, Fw.afterF, Fw.toF, Fw.sAsg_ap, Fw.R.bind_ok, Fw.R.bind_exc, Fw.R.bind_bad, Fw.R.then,
  List.length_cons, List.length_nil, List.cons_append, List.nil_append, List.append_nil, List.replicate_succ, List.replicate_zero, List.getElem?_cons_zero, List.getElem?_cons_succ, List.set_cons_zero, List.set_cons_succ, Option.bind_some, Option.bind_none, Fw.dat_sh, Fw.dat_ow, Fw.dat_pn, Fw.dat_lk, Fw.pn_un, Fw.pn_sh, Fw.pn_ow, Fw.mu_ow, Fw.mu_pn, Fw.own_ow, Fw.own_pn, Fw.own_lk, Fw.lock_ow, Fw.lock_pnT, Fw.lock_pnF, Fw.lock_lk, Fw.with_ow, Fw.with_pn, if_true, if_false, Bool.false_eq_true, Bool.true_eq_false, ite_true, ite_false, reduceIte,
  Fw.ix_lst, Fw.ix_rol, Fw.ix_tup, Fw.ix_rot, Fw.at0, Fw.at1, Fw.at2, Fw.at3, Fw.at4, Fw.atm1, Fw.add_int, Fw.add_lst, Fw.add_tup, Fw.add_str, Fw.sub_int, Fw.mul_mod, Fw.mul_r, Fw.mul_l, Fw.div_int, Fw.mod_int, Fw.p10_8, Fw.p10_18, Fw.pow_int, Fw.neg_int, Fw.cmp_int, Fw.is_non, Fw.isnot_non, Fw.isNon_non, Fw.isNon_int, Fw.isNon_str, Fw.isNon_lst, Fw.isNon_tup, Fw.eq_int, Fw.ne_int, Fw.eq_str, Fw.ne_str, Fw.len_lst, Fw.len_rol, Fw.len_tup, Fw.len_str, Fw.max2_int, Fw.min2_int, Fw.int_int, Fw.int_bl, Fw.list_lst, Fw.list_tup, Fw.tuple_lst, Fw.tuple_tup, Fw.append_lst, Fw.tru_bl, Fw.tru_lst, Fw.sl_rol, Fw.sl_lst,
  Fw.cellAt_ap, Fw.kind_lst, Fw.putD_ap, Fw.sPut_ap, Fw.putAt_ap, Fw.set_last, Fw.set0, Fw.set1, Fw.set2, Fw.pass_nil, Fw.pass_n, Fw.pass_c, Fw.passArg_sh, Fw.passArg_fr, Fw.passArg_boF, Fw.passArg_boT, Fw.ioOk_n, Fw.ioOk_nil, Fw.ioOk_bo, Fw.ioOk_sh, Fw.ioOk_fr, Fw.bo_nil, Fw.bo_bo, Fw.bo_sh, Fw.bo_fr, Fw.io_n, Fw.io_nil, Fw.io_T, Fw.io_F, Fw.outs_nil, Fw.outs_T, Fw.outs_F, Fw.outs_sh, Fw.putOuts_nil, Fw.putOuts_cons, Fw.gN_ap, Fw.gT_tup, Fw.gAll_nil, Fw.gAll_cons, Fw.sFor_ap, Fw.eLc_ap, Fw.back_nx, Fw.back_rt, Fw.iSeq_ap, Fw.seq_lst, Fw.seq_tup, Fw.iB_ap, Fw.yes_ap, Fw.eSl_ap, Fw.part_none, Fw.part_some, Fw.partR_int, Fw.rest_nil, Fw.rest_cons, Fw.keep_sh, Fw.keep_un, Fw.keep_none,
  List.map_nil, List.map_cons, List.contains_nil, List.contains_cons, Bool.not_false, Bool.not_true, Bool.and_self, Bool.and_true, Bool.true_and, Bool.false_and, Bool.and_false, Bool.or_true, Bool.true_or, Bool.or_false, Bool.false_or, Nat.reduceAdd, Nat.reduceSub, Nat.reduceEqDiff, Nat.reduceBEq, decide_true, decide_false, Int.reduceLT, Int.reduceLE, Int.reduceNeg, Int.reducePow, Int.reduceToNat, Nat.reducePow, Nat.reduceLT, Nat.reduceLeDiff, and_true, true_and, and_self, not_true_eq_false, not_false_eq_true,
  Fw.eNew_ap, Fw.newOf_ap, Fw.gU_lst, Fw.gTU_lst, Fw.gTU_tup, Fw.sAsg2_ap, Fw.rev_lst, Fw.rev_rol, Fw.eFf_ap, Fw.eDict0_ap, Fw.iS_ap, Fw.sRetN_ap, Fw.sPass_ap, Fw.sBreak_ap, Fw.sCont_ap, Fw.i_and, Fw.i_or, Fw.i_andE, Fw.i_orE, Fw.i_int, Fw.i_str, Fw.at5, Fw.at6, Fw.at7, Fw.at8, Fw.at9, Fw.at10, Fw.at11, Fw.at12, Fw.at13, Fw.at14, Fw.at15, Fw.at16, Fw.at17, Fw.at18, Fw.at19, Fw.at20, Fw.at21, Fw.at22, Fw.at23, Fw.at24, Fw.eFK_ap, Fw.permM_cons, Fw.pick_nil, Fw.pick_cons, Fw.noT_sh, Fw.noT_pn, Fw.inB_def, Fw.eMeth_ap, Fw.eMk_ap, Fw.popN_ok, Fw.popN_exc, Fw.sRaise_ap, Fw.sTry_ap, Fw.eXf_ap, Fw.lookX_ap, Fw.endS_nx, Fw.endS_rt, Fw.isX_ty, Fw.isX_cl, Fw.isX_tup, Fw.then_exc, true_or, or_false, or_true, List.lookup_cons, List.lookup_nil, List.take_zero, List.take_succ_cons, List.drop_zero, List.drop_succ_cons, List.all_cons, List.all_nil, List.dropLast_cons₂, List.dropLast_singleton, _root_.eq_self, Nat.reduceBEq, Nat.zero_add, Nat.reduceLeDiff, Nat.sub_self, Nat.lt_irrefl, Nat.add_zero, Fw.lc_nil, Fw.lc_consN, Fw.loop_nil, Fw.loop_cons, Fw.rng1_1, Fw.rng1_2, Fw.rng1_3, Fw.rng1_4, Fw.rng1_5, Fw.rng1_6, Fw.rng1_7, Fw.rng1_8, Fw.rng1_9, Fw.rng1_10, Fw.rng1_11, Fw.rng1_12, Fw.rng2_3_8, Fw.rng2_3_6, Fw.rng2_1_3, Fw.rng2_1_4, Fw.rng2_2_5, Fw.sPar_ap, Fw.eP_nil, Fw.eP_cons, Fw.nrm_sh, Fw.nrm_fr, Fw.nrm_bo, Fw.puts_nil, Fw.puts_cons, Fw.put1_sh, Fw.put1_fr, Fw.eMetL_ap, Fw.isLst_lst, Fw.kind_dk, Fw.eGet1_ap, Fw.eGet2_ap, Fw.getK_ap, Fw.dkAt_ap, Fw.shOf_sh, Fw.key_str, Fw.key_int, Fw.in2_str, Fw.nin2_str, Option.getD_some, Option.getD_none, Option.isSome_some, Option.isSome_none])
local macro_rules | `(tactic| walk_at "go") => `(tactic| repeat' (first | done | rfl | (walk_at "ev"; done) | (split <;> try walk_at "ev")))
abbrev U17 (X : Sl) : En := [X, .un, .un, .un, .un, .un, .un, .un, .un, .un, .un, .un, .un, .un, .un, .un, .un]
theorem cell_ok (X : Fw.D) (c : Int) : turn (gN 1) f2_law (.int c) (U17 (.sh X)) = .nx (U17 (.sh X)) := by
  obtain ⟨w0, e1⟩ := well_ok c
  obtain ⟨z, w1, z0, z1, e2'⟩ := draw_ok w0 2 (by decide) (by decide)
  obtain ⟨r, u1, r0, r1, d1⟩ := draw_ok w1 1000000000 (by decide) (by decide)
  obtain ⟨k, w2, k0, k1, d2⟩ := draw_ok u1 4 (by decide) (by decide)
  obtain ⟨s, w3, s0, s1, e5⟩ := draw_ok w2 59 (by decide) (by decide)
  obtain ⟨m, w4, m0, m1, e6⟩ := draw_ok w3 7 (by decide) (by decide)
  have eT : ∃ T : Int, dPow (.int 10) (.int 59) = some (.sh (.int T)) := ⟨(10 : Int) ^ 59, rfl⟩
  obtain ⟨T, eT⟩ := eT
  obtain ⟨far, _, d3⟩ := pickL [0, 0, 0, T + r] (fun _ => True) (fun _ _ => trivial) k k0 (by simpa using k1)
  have e4 := fun al => core_far (.sh X) (.int c) (wD w1) (wD u1) (wD w2) al T r k far m_z_draw dPow eT rfl d1 d2 d3
  obtain ⟨w5, t, lt, e7⟩ := text_ok (2 + s) (by omega) (by omega) w4
  obtain ⟨w6, pcs, pl, hp, e9⟩ := pcs_loop (.sh X) (.int c) (z == 0) far (2 + s) (2 + m) t (by omega) (by omega) lt (intsD 0 (2 + m).toNat) w5 [] (by rw [List.length_nil, intsD_len]; omega) ⟨fun _ h => absurd h (by simp), fun _ _ h => absurd h (by simp)⟩
  rw [List.length_nil, intsD_len] at pl
  have Du := due_all hp.ok
  have hab : far ≤ far + (2 + s) := by omega
  have hb : far + (2 + s) - far ≤ 700 := by omega
  obtain ⟨tD, lD⟩ := cp_tot Du.cp.sp Du.rg hab
  have tl : (tableOf pcs).length < 64 := by
    have := due_tot (tableOf pcs)
    rw [Du.tb] at this
    omega
  obtain ⟨w7, qcs, mq, lq, tu⟩ := turned_ok pcs (by omega) w6
  have tx : ∀ ps ∈ pcs, ps.length ≤ 1000 ∧ ∀ p ∈ ps, p.2.cps.toList.length ≤ 100000 := fun ps h => by
    obtain ⟨c1, i1⟩ := hp.ok ps h
    have := cp_tot c1.sp i1 hab
    exact ⟨by omega, in_tx i1 (by omega)⟩
  have ta_le : totA pcs ≤ pcs.length * 62 := by
    have : ∀ (qs : List (List PT)), (∀ ps ∈ qs, tot ps ≤ 62) → totA qs ≤ qs.length * 62 := by
      intro qs
      induction qs with
      | nil => intro _; exact Nat.le_refl _
      | cons q qs ih =>
        intro h
        have h1 := h q List.mem_cons_self
        have h2 := ih fun ps hps => h ps (List.mem_cons_of_mem _ hps)
        have e : totA (q :: qs) = tot q + totA qs := by unfold totA; rw [List.map_cons, List.sum_cons]
        rw [e, List.length_cons]
        omega
    refine this pcs fun ps h => ?_
    obtain ⟨c1, i1⟩ := hp.ok ps h
    have := (cp_tot c1.sp i1 hab).1
    omega
  have ta := table_ok (P := .pn false (.lst (pcs.map plD))) (pcs := pcs) (.inl rfl) tx (by omega) (by omega)
  have pa := zparts_ok tl
  rw [Du.tb] at pa
  have ob := one_ok (s0 := .pn false (.lst (pcs.map plD))) (pcs := pcs) (.inl rfl) (by omega) hab hb hp.ok
  have fl := last_ok (pcs := pcs) (by omega) hab hb hp.ok
  rw [Du.fr] at fl
  have dv : dDiv (.int (2 + m)) (.int 2) = some (.sh (.int ((2 + m) / 2))) := rfl
  obtain ⟨cu1, cu2⟩ := cutL_none pcs ((2 + m) / 2) (by omega) (by omega)
  have s1' : dSl (.lst (pcs.map plD)) none (some ((2 + m) / 2)) = some (.fr (.lst ((pcs.take ((2 + m) / 2).toNat).map plD))) := by
    show some (ER.fr (.lst (cutL (pcs.map plD) none (some ((2 + m) / 2))))) = _
    rw [show cutL (pcs.map plD) none (some ((2 + m) / 2)) = (cutL pcs none (some ((2 + m) / 2))).map plD from by unfold cutL; rw [List.length_map, List.map_take, List.map_drop], cu1]
  have s2' : dSl (.lst (pcs.map plD)) (some ((2 + m) / 2)) none = some (.fr (.lst ((pcs.drop ((2 + m) / 2).toNat).map plD))) := by
    show some (ER.fr (.lst (cutL (pcs.map plD) (some ((2 + m) / 2)) none))) = _
    rw [show cutL (pcs.map plD) (some ((2 + m) / 2)) none = (cutL pcs (some ((2 + m) / 2)) none).map plD from by unfold cutL; rw [List.length_map, List.map_take, List.map_drop], cu2]
  have p1 : Pcs far (far + (2 + s)) (pcs.take ((2 + m) / 2).toNat) := fun ps h => hp.ok ps (List.mem_of_mem_take h)
  have p2 : Pcs far (far + (2 + s)) (pcs.drop ((2 + m) / 2).toNat) := fun ps h => hp.ok ps (List.mem_of_mem_drop h)
  have o1 := one_ok (s0 := .sh (.lst ((pcs.take ((2 + m) / 2).toNat).map plD))) (.inr (.inr rfl)) (by rw [List.length_take]; omega) hab hb p1
  have o2 := one_ok (s0 := .sh (.lst ((pcs.drop ((2 + m) / 2).toNat).map plD))) (.inr (.inr rfl)) (by rw [List.length_drop]; omega) hab hb p2
  have D1 := due_all p1
  have D2 := due_all p2
  have j1 := joined_cp (s0 := .sh (.lst (((pcs.take ((2 + m) / 2).toNat).foldl joinF []).map itD))) (s1 := .sh (.lst (((pcs.drop ((2 + m) / 2).toNat).foldl joinF []).map itD))) (.inr (.inr rfl)) (.inr (.inr rfl)) D1.cp D2.cp hab hb D1.rg D2.rg
  rw [Du.hf] at j1
  have jd := joined_cp (s0 := .pn false (.lst ((pcs.foldl joinF []).map itD))) (s1 := .pn false (.lst ((pcs.foldl joinF []).map itD))) (.inl rfl) (.inl rfl) Du.cp Du.cp hab hb Du.rg Du.rg
  rw [Du.tw] at jd
  have wg := weight_ok (s0 := .pn false (.lst ((pcs.foldl joinF []).map itD))) (.inl rfl) (in_tx Du.rg (by omega)) (by omega)
  have gl : gLenD [.dk ((tableOf pcs).map kvT)] = some (.sh (.int (heavy (pcs.foldl joinF [])))) := by
    have e : heavy (pcs.foldl joinF []) = (((tableOf pcs).map kvT).length : Nat) := by
      rw [heavy_tot, ← due_tot, Du.tb] at *
      rw [List.length_map, ← due_tot, Du.tb]
    rw [e]
    rfl
  have o3 : (z == 0) = true → m_z_one_by_one [.sh (.lst (qcs.map plD))] = .ok (.fr (.lst ((pcs.foldl joinF []).map itD))) [] := fun ha => by
    obtain ⟨q1, q2⟩ := due_turned hp.ok (hp.of ha) mq
    have := one_ok (s0 := .sh (.lst (qcs.map plD))) (.inr (.inr rfl)) (by omega) hab hb q2
    rw [q1] at this
    exact this
  have c1 := core_cc1 (.sh X) (.int c) (wD w6) (z == 0) far (2 + s) (2 + m) t (pcs.map plD) _ x1_law (by rw [List.length_map]; omega) (lists _ _ _ _ _ _ _ _ _ _ _ _ _ _ _ (fun _ _ h => by cases h; rfl) pcs)
  have c2 := core_c2' (.sh X) (.int c) (wD w6) (z == 0) far (2 + s) (2 + m) t (pcs.map plD) ((pcs.foldl joinF []).map itD) [.lst ((pcs.foldl joinF []).map itD), .lst ((pcs.foldl joinF []).map itD), .lst ((pcs.foldl joinF []).map itD)] (.sh (.int ((2 + m) / 2))) t1_law x2_law (by simp)
    (none_left _ _ _ _ _ _ _ _ _ _ _ _ _ _ _ (ne_its _) (fun _ _ h => by cases h; rfl) [(), (), ()])
  have B := core_B (.sh X) (.int c) (wD w6) (wD w7) (z == 0) far (2 + s) (2 + m) ((2 + m) / 2) _ t _ _ [] _ _ _ _ _ [] _ _ _ m_z_table m_z_parts m_z_one_by_one m_z_from_the_last m_joined m_z_turned m_weight dSl gAppend gLenD c1 ta pa dv ob fl s1' s2' o1 o2 j1 rfl c2 (ne_its []) tu o3 (ne_its _) jd wg gl (ne_self ⟨_, rfl⟩) (ne_pls _)
  have ew : (if (z == 0) = true then wD w7 else wD w6) = wD (if (z == 0) = true then w7 else w6) := by split <;> rfl
  exact core_A (.sh X) (.int c) (wD w0) (wD w1) (wD w2) (wD w3) (wD w4) (wD w5) (wD w6) _ z (z == 0) far s m t _ _ _ _ _ _ _ m_z_well m_z_draw m_z_text f1_law _ (by rw [intsD_len]; omega) e1 e2' eq_int (e4 _) e5 e6 e7 (rng1_ok (by omega) (by omega)) e9 B
theorem law_loop (X : Fw.D) : ∀ (cs : List Int), loop (gN 1) f2_law (cs.map Fw.D.int) (U17 (.sh X)) = .nx (U17 (.sh X))
  | [] => rfl
  | c :: cs => by
    rw [List.map_cons, loop_turn, cell_ok X c]
    exact law_loop X cs
theorem cut_map {α β : Type} (f : α → β) (xs : List α) (lo hi : Option Int) : cutL (xs.map f) lo hi = (cutL xs lo hi).map f := by
  unfold cutL
  rw [List.length_map, List.map_take, List.map_drop]
theorem cut_len2 {α : Type} (xs : List α) (lo hi : Option Int) : (cutL xs lo hi).length ≤ xs.length := by
  unfold cutL
  rw [List.length_take, List.length_drop]
  omega
theorem law_holds (ns : List Int) (hl : ns.length ≤ 63) : m_law [.sh (.rol (ns.map Fw.D.int))] = .ok (.sh (.bl true)) [] := by
  have h1 : dSl (.rol (ns.map Fw.D.int)) none (some 16) = some (.fr (.lst ((cutL ns none (some 16)).map Fw.D.int))) := by
    rw [← cut_map]; rfl
  have h2 : dAdd (.lst ((cutL ns none (some 16)).map Fw.D.int)) (.lst [.int 0, .int 2, .int 11]) = some (.fr (.lst ((cutL ns none (some 16) ++ [0, 2, 11]).map Fw.D.int))) := by
    rw [List.map_append]
    refine add_lst ?_
    have := cut_len2 ns none (some 16)
    rw [List.length_map]; simp; omega
  have h3 := law_loop (.rol (ns.map Fw.D.int)) (cutL ns none (some 16) ++ [0, 2, 11])
  have hl3 : ((cutL ns none (some 16) ++ [0, 2, 11]).map Fw.D.int).length ≤ 1000000 := by
    have := cut_len2 ns none (some 16)
    rw [List.length_map]; simp; omega
  unfold m_law b_law l2_law
  clear hl
  generalize (cutL ns none (some 16) ++ [0, 2, 11]).map Fw.D.int = T at *
  generalize (cutL ns none (some 16)).map Fw.D.int = T1 at *
  generalize ns.map Fw.D.int = T2 at *
  walk_at "ev"
end Law
set_option Elab.async false
set_option linter.all false
set_option maxRecDepth 100000
set_option maxHeartbeats 4000000
namespace Law
open PySem PySem.Spec PyProof.Rows L2 Fw
def topS (i : Nat) : Stmt := PySem.Challenge.pw_pagelodge_k08_pieces_in_any_order.main.body.getD i (.Pass ⟨0, 0, 0, 0⟩)
abbrev s_lacking : Stmt := topS 1
abbrev N_lacking : List Str := ["wanted", "parts", "found", "low", "high", "at", "signs"]
abbrev P_lacking : List Str := ["wanted", "parts"]
theorem sc_lacking : FnScope N_lacking P_lacking (defScope s_lacking) := ⟨rfl, rfl, rfl, by decide +kernel, rfl, by decide +kernel, by decide +kernel⟩
abbrev s_cut : Stmt := topS 2
abbrev N_cut : List Str := ["parts", "wanted", "found", "at", "signs", "low", "high", "first", "last"]
abbrev P_cut : List Str := ["parts", "wanted"]
theorem sc_cut : FnScope N_cut P_cut (defScope s_cut) := ⟨rfl, rfl, rfl, by decide +kernel, rfl, by decide +kernel, by decide +kernel⟩
abbrev s_joined : Stmt := topS 3
abbrev N_joined : List Str := ["ones", "others", "places", "found", "at", "signs"]
abbrev P_joined : List Str := ["ones", "others"]
theorem sc_joined : FnScope N_joined P_joined (defScope s_joined) := ⟨rfl, rfl, rfl, by decide +kernel, rfl, by decide +kernel, by decide +kernel⟩
abbrev s_weight : Stmt := topS 4
abbrev N_weight : List Str := ["parts", "at", "signs"]
abbrev P_weight : List Str := ["parts"]
theorem sc_weight : FnScope N_weight P_weight (defScope s_weight) := ⟨rfl, rfl, rfl, by decide +kernel, rfl, by decide +kernel, by decide +kernel⟩
abbrev s_z_well : Stmt := topS 6
abbrev N_z_well : List Str := ["_law_cell"]
abbrev P_z_well : List Str := ["_law_cell"]
theorem sc_z_well : FnScope N_z_well P_z_well (defScope s_z_well) := ⟨rfl, rfl, rfl, by decide +kernel, rfl, by decide +kernel, by decide +kernel⟩
abbrev s_z_draw : Stmt := topS 7
abbrev N_z_draw : List Str := ["_law_well_here", "_law_many", "_law_found", "_law_number"]
abbrev P_z_draw : List Str := ["_law_well_here", "_law_many"]
theorem sc_z_draw : FnScope N_z_draw P_z_draw (defScope s_z_draw) := ⟨rfl, rfl, rfl, by decide +kernel, rfl, by decide +kernel, by decide +kernel⟩
abbrev s_z_text : Stmt := topS 8
abbrev N_z_text : List Str := ["_law_well_here", "_law_many", "_law_some", "_law_k"]
abbrev P_z_text : List Str := ["_law_well_here", "_law_many"]
theorem sc_z_text : FnScope N_z_text P_z_text (defScope s_z_text) := ⟨rfl, rfl, rfl, by decide +kernel, rfl, by decide +kernel, by decide +kernel⟩
abbrev s_z_piece : Stmt := topS 9
abbrev N_z_piece : List Str := ["_law_well_here", "_law_text_here", "_law_far", "_law_found", "_law_at", "_law_k", "_law_wide"]
abbrev P_z_piece : List Str := ["_law_well_here", "_law_text_here", "_law_far"]
theorem sc_z_piece : FnScope N_z_piece P_z_piece (defScope s_z_piece) := ⟨rfl, rfl, rfl, by decide +kernel, rfl, by decide +kernel, by decide +kernel⟩
abbrev s_z_table : Stmt := topS 10
abbrev N_z_table : List Str := ["_law_pieces", "_law_found", "_law_piece_here", "_law_at", "_law_signs", "_law_k"]
abbrev P_z_table : List Str := ["_law_pieces"]
theorem sc_z_table : FnScope N_z_table P_z_table (defScope s_z_table) := ⟨rfl, rfl, rfl, by decide +kernel, rfl, by decide +kernel, by decide +kernel⟩
abbrev s_z_parts : Stmt := topS 11
abbrev N_z_parts : List Str := ["_law_table_here", "_law_found", "_law_at"]
abbrev P_z_parts : List Str := ["_law_table_here"]
theorem sc_z_parts : FnScope N_z_parts P_z_parts (defScope s_z_parts) := ⟨rfl, rfl, rfl, by decide +kernel, rfl, by decide +kernel, by decide +kernel⟩
abbrev s_z_one_by_one : Stmt := topS 12
abbrev N_z_one_by_one : List Str := ["_law_pieces", "_law_found", "_law_piece_here"]
abbrev P_z_one_by_one : List Str := ["_law_pieces"]
theorem sc_z_one_by_one : FnScope N_z_one_by_one P_z_one_by_one (defScope s_z_one_by_one) := ⟨rfl, rfl, rfl, by decide +kernel, rfl, by decide +kernel, by decide +kernel⟩
abbrev s_z_from_the_last : Stmt := topS 13
abbrev N_z_from_the_last : List Str := ["_law_pieces", "_law_found", "_law_piece_here"]
abbrev P_z_from_the_last : List Str := ["_law_pieces"]
theorem sc_z_from_the_last : FnScope N_z_from_the_last P_z_from_the_last (defScope s_z_from_the_last) := ⟨rfl, rfl, rfl, by decide +kernel, rfl, by decide +kernel, by decide +kernel⟩
abbrev s_z_turned : Stmt := topS 14
abbrev N_z_turned : List Str := ["_law_well_here", "_law_pieces", "_law_found", "_law_piece_here"]
abbrev P_z_turned : List Str := ["_law_well_here", "_law_pieces"]
theorem sc_z_turned : FnScope N_z_turned P_z_turned (defScope s_z_turned) := ⟨rfl, rfl, rfl, by decide +kernel, rfl, by decide +kernel, by decide +kernel⟩
abbrev s_law : Stmt := topS 15
abbrev N_law : List Str := ["_law_script", "_law_cell", "_law_well_here", "_law_alike", "_law_far", "_law_size", "_law_many", "_law_text_here", "_law_pieces", "_law_k", "_law_own", "_law_handed", "_law_due", "_law_half", "_law_found", "_law_piece_here", "_law_one"]
abbrev P_law : List Str := ["_law_script"]
theorem sc_law : FnScope N_law P_law (defScope s_law) := ⟨rfl, rfl, rfl, by decide +kernel, rfl, by decide +kernel, by decide +kernel⟩
structure Txt (K : PySem.W.Frag) (mg : Str → Option Value) (cls : Nat → Addr) : Prop where
  b_int : mg "int" = none
  b_isinstance : mg "isinstance" = none
  b_len : mg "len" = none
  b_list : mg "list" = none
  b_max : mg "max" = none
  b_min : mg "min" = none
  b_range : mg "range" = none
  b_sorted : mg "sorted" = none
  b_sum : mg "sum" = none
def clsOf (K : PySem.W.Frag) : Nat → Addr
  | _ => 0
section
variable {P : Program} {w : World} {K : PySem.W.Frag} {mg : Str → Option Value} {base : Heap} {cls : Nat → Addr}
theorem ok_z_well {f : Addr} {fd : FuncData} (T : Txt K mg cls) (Fn : Fun K "_law_well" "_law_well" s_z_well f fd) : FnOk P w K mg base (L2.CX P w) 1 f fd P_z_well (spM ⟨K, cls⟩ m_z_well) :=
  ok_defN (N := N_z_well) Fn sc_z_well (by decide) fun cdv A outer s H E hr => (sv_one (sv_ret (ev_lst (av_cons (ev_op op_mul s_mul (ev_var 0) (ev_ty call_intA s_int T.b_int (av_cons (ev_cmp op_ge s_cmp (ev_var 0) (ev_op op_pow s_pow ev_int ev_int)) av_nil))) (av_cons (ev_op op_mod s_mod (ev_var 0) ev_int) (av_cons ev_int av_nil))))))
theorem ok_z_draw {f : Addr} {fd : FuncData} (T : Txt K mg cls) (Fn : Fun K "_law_draw" "_law_draw" s_z_draw f fd) : FnOk P w K mg base (L2.CX P w) 1 f fd P_z_draw (spM ⟨K, cls⟩ m_z_draw) :=
  ok_defN (N := N_z_draw) Fn sc_z_draw (by decide) fun cdv A outer s H E hr => (sv_cons (sv_if (bv_cmp op_gt s_cmp (ev_ix ix_seq s_ix (ev_var 0) ev_int) ev_int) (sv_fg [2] (sv_cons (sv_set 2 sc_z_draw.nd (ev_op op_mod s_mod (ev_ix ix_seq s_ix (ev_var 0) ev_int) (ev_var 1))) (sv_cons (sv_putL 0 rfl ev_int (ev_op op_fdivW s_div (ev_ix ix_seq s_ix (ev_var 0) ev_int) (ev_var 1))) (sv_one (sv_ret (ev_var 2)))))) (sv_fg [2] sv_nil)) (sv_cons (sv_putL 0 rfl ev_int (ev_op op_addA s_add (ev_ix ix_seq s_ix (ev_var 0) ev_int) ev_int)) (sv_cons (sv_set 3 sc_z_draw.nd (ev_op op_mod s_mod (ev_op op_mul s_mul (ev_op op_addA s_add (ev_op op_addA s_add (ev_ix ix_seq s_ix (ev_var 0) ev_int) (ev_op op_mul s_mul ev_int (ev_ix ix_seq s_ix (ev_var 0) ev_int))) ev_int) ev_int) ev_int)) (sv_cons (sv_set 3 sc_z_draw.nd (ev_op op_mod s_mod (ev_op op_mul s_mul (ev_var 3) (ev_op op_addA s_add (ev_op op_fdivW s_div (ev_var 3) ev_int) ev_int)) ev_int)) (sv_one (sv_ret (ev_op op_mod s_mod (ev_op op_mod s_mod (ev_op op_mul s_mul (ev_var 3) (ev_op op_addA s_add (ev_op op_fdivW s_div (ev_var 3) ev_int) ev_int)) ev_int) (ev_var 1))))))))
theorem ok_z_text {f : Addr} {fd : FuncData} (T : Txt K mg cls) (D_z_draw : DefIn P w K mg base ⟨K, cls⟩ "_law_draw" P_z_draw 1 m_z_draw) (Fn : Fun K "_law_text" "_law_text" s_z_text f fd) : FnOk P w K mg base (L2.CX P w) 2 f fd P_z_text (spM ⟨K, cls⟩ m_z_text) :=
  ok_defN (N := N_z_text) Fn sc_z_text (by decide) fun cdv A outer s H E hr => (sv_cons (sv_set 2 sc_z_text.nd ev_str) (sv_one (sv_ret (ev_m1 PySem.F.slot_str_join PySem.F.type_str_join mt_join s_join ev_str (ev_lc [("_law_k", 3)] rfl sc_z_text.nd (iv_range1 T.b_range (av_cons (ev_var 1) av_nil)) (blkOk_by (own := [("_law_k", 3)]) (N := N_z_text) (sc := defScope s_z_text) (by decide +kernel)) (fun _ _ _ _ _ => (gv_name 3 sc_z_text.nd)) (fun _ _ _ _ _ => tv_nil) (fun _ _ _ _ _ => (ev_ix ix_seq s_ix (ev_var 2) (ev_call [true, false] D_z_draw.d (hr.mono (by decide)) D_z_draw.b .nil (fun _ => DL.nil) passZ (av_cons (ev_var 0) (av_cons (ev_b call_len s_len T.b_len (av_cons (ev_var 2) av_nil)) av_nil))))))))))
theorem ok_z_piece {f : Addr} {fd : FuncData} (T : Txt K mg cls) (D_z_draw : DefIn P w K mg base ⟨K, cls⟩ "_law_draw" P_z_draw 1 m_z_draw) (Fn : Fun K "_law_piece" "_law_piece" s_z_piece f fd) : FnOk P w K mg base (L2.CX P w) 2 f fd P_z_piece (spM ⟨K, cls⟩ m_z_piece) :=
  ok_defN (N := N_z_piece) Fn sc_z_piece (by decide) fun cdv A outer s H E hr => (sv_cons (sv_set 3 sc_z_piece.nd (ev_lst av_nil)) (sv_cons (sv_set 4 sc_z_piece.nd (ev_call [true, false] D_z_draw.d (hr.mono (by decide)) D_z_draw.b .nil (fun _ => DL.nil) passZ (av_cons (ev_var 0) (av_cons (ev_b call_len s_len T.b_len (av_cons (ev_var 1) av_nil)) av_nil)))) (sv_cons (sv_for PassesOwn.never rfl (iv_range1 T.b_range (av_cons (ev_op op_addA s_add ev_int (ev_call [true, false] D_z_draw.d (hr.mono (by decide)) D_z_draw.b .nil (fun _ => DL.nil) passZ (av_cons (ev_var 0) (av_cons ev_int av_nil)))) av_nil)) (gv_name 5 sc_z_piece.nd) (sv_fg [5, 6] (sv_cons (sv_set 6 sc_z_piece.nd (ev_op op_addA s_add ev_int (ev_call [true, false] D_z_draw.d (hr.mono (by decide)) D_z_draw.b .nil (fun _ => DL.nil) passZ (av_cons (ev_var 0) (av_cons (ev_ix ix_seq s_ix (ev_lst (av_cons ev_int (av_cons ev_int (av_cons ev_int av_nil)))) (ev_call [true, false] D_z_draw.d (hr.mono (by decide)) D_z_draw.b .nil (fun _ => DL.nil) passZ (av_cons (ev_var 0) (av_cons ev_int av_nil)))) av_nil))))) (sv_cons (sv_if (bv_cmp op_lt s_cmp (ev_var 4) (ev_b call_len s_len T.b_len (av_cons (ev_var 1) av_nil))) (sv_one (sv_expr (ev_mut 3 PySem.F.slot_list_append PySem.F.type_list_append mt_append s_append (av_cons (ev_tup (av_cons (ev_op op_addA s_add (ev_var 2) (ev_var 4)) (av_cons (ev_sl sl_any s_sl (ev_var 1) (pt_some (ev_var 4)) (pt_some (ev_op op_addA s_add (ev_var 4) (ev_var 6)))) av_nil))) av_nil)))) sv_nil) (sv_one (sv_set 4 sc_z_piece.nd (ev_op op_addA s_add (ev_op op_addA s_add (ev_op op_addA s_add (ev_var 4) (ev_var 6)) ev_int) (ev_call [true, false] D_z_draw.d (hr.mono (by decide)) D_z_draw.b .nil (fun _ => DL.nil) passZ (av_cons (ev_var 0) (av_cons ev_int av_nil)))))))))) (sv_one (sv_ret (ev_var 3))))))
theorem ok_z_parts {f : Addr} {fd : FuncData} (T : Txt K mg cls) (Fn : Fun K "_law_parts" "_law_parts" s_z_parts f fd) : FnOk P w K mg base (L2.CX P w) 1 f fd P_z_parts (spM ⟨K, cls⟩ m_z_parts) :=
  ok_defN (N := N_z_parts) Fn sc_z_parts (by decide) fun cdv A outer s H E hr => (sv_cons (sv_set 1 sc_z_parts.nd (ev_lst av_nil)) (sv_cons (sv_for PassesOwn.never rfl (iv_list rfl (ev_b (cr_sortedD rfl hr.units) (s_sortD rfl) T.b_sorted (av_cons (ev_var 0) av_nil))) (gv_name 2 sc_z_parts.nd) (sv_fg [2] (sv_one (sv_if (bv_w (bw_and (bv_cmp (op_neP hr.units) s_ne (ev_var 1) (ev_lst av_nil)) (bw_and1 (bv_cmp (op_eqP hr.units) s_eq (ev_op op_addA s_add (ev_ix ix_seq s_ix (ev_ix ix_seq s_ix (ev_var 1) (ev_un un_neg s_neg ev_int)) ev_int) (ev_b call_len s_len T.b_len (av_cons (ev_ix ix_seq s_ix (ev_ix ix_seq s_ix (ev_var 1) (ev_un un_neg s_neg ev_int)) ev_int) av_nil))) (ev_var 2))))) (sv_one (sv_putL 1 rfl (ev_un un_neg s_neg ev_int) (ev_tup (av_cons (ev_ix ix_seq s_ix (ev_ix ix_seq s_ix (ev_var 1) (ev_un un_neg s_neg ev_int)) ev_int) (av_cons (ev_op op_addA s_add (ev_ix ix_seq s_ix (ev_ix ix_seq s_ix (ev_var 1) (ev_un un_neg s_neg ev_int)) ev_int) (ev_ix2 (hu_of hr) ix_seq (ev_var 0) (ev_var 2))) av_nil))))) (sv_one (sv_expr (ev_mut 1 PySem.F.slot_list_append PySem.F.type_list_append mt_append s_append (av_cons (ev_tup (av_cons (ev_var 2) (av_cons (ev_ix2 (hu_of hr) ix_seq (ev_var 0) (ev_var 2)) av_nil))) av_nil)))))))) (sv_one (sv_ret (ev_var 1)))))
theorem ok_z_table {f : Addr} {fd : FuncData} (T : Txt K mg cls) (Fn : Fun K "_law_table" "_law_table" s_z_table f fd) : FnOk P w K mg base (L2.CX P w) 1 f fd P_z_table (spM ⟨K, cls⟩ m_z_table) :=
  ok_defN (N := N_z_table) Fn sc_z_table (by decide) fun cdv A outer s H E hr => (sv_cons (sv_set 1 sc_z_table.nd ev_dict0) (sv_cons (sv_for PassesOwn.never rfl (iv_list rfl (ev_var 0)) (gv_name 2 sc_z_table.nd) (sv_fg [2, 3, 4, 5] (sv_one (sv_for PassesOwn.never rfl (iv_list rfl (ev_var 2)) (gv_tup rfl rfl (gv_cons (gv_name 3 sc_z_table.nd) (gv_cons (gv_name 4 sc_z_table.nd) gv_nil))) (sv_fg [3, 4, 5] (sv_one (sv_for PassesOwn.never rfl (iv_range1 T.b_range (av_cons (ev_b call_len s_len T.b_len (av_cons (ev_var 4) av_nil)) av_nil)) (gv_name 5 sc_z_table.nd) (sv_fg [5] (sv_one (sv_expr (ev_setd 1 (ev_op op_addA s_add (ev_var 3) (ev_var 5)) (ev_ix ix_seq s_ix (ev_var 4) (ev_var 5))))))))))))) (sv_one (sv_ret (ev_var 1)))))
theorem ok_cut {f : Addr} {fd : FuncData} (T : Txt K mg cls) (Fn : Fun K "cut" "cut" s_cut f fd) : FnOk P w K mg base (L2.CX P w) 1 f fd P_cut (spM ⟨K, cls⟩ m_cut) :=
  ok_defN (N := N_cut) Fn sc_cut (by decide) fun cdv A outer s H E hr => (sv_cons (sv_set 2 sc_cut.nd (ev_lst av_nil)) (sv_cons (sv_for PassesOwn.never rfl (iv_list rfl (ev_var 0)) (gv_tup rfl rfl (gv_cons (gv_name 3 sc_cut.nd) (gv_cons (gv_name 4 sc_cut.nd) gv_nil))) (sv_fg [3, 4, 5, 6, 7, 8] (sv_one (sv_for PassesOwn.never rfl (iv_list rfl (ev_var 1)) (gv_tup rfl rfl (gv_cons (gv_name 5 sc_cut.nd) (gv_cons (gv_name 6 sc_cut.nd) gv_nil))) (sv_fg [5, 6, 7, 8] (sv_cons (sv_set 7 sc_cut.nd (ev_b (call_max2 rfl) s_max2 T.b_max (av_cons (ev_var 3) (av_cons (ev_var 5) av_nil)))) (sv_cons (sv_set 8 sc_cut.nd (ev_b (call_min2 rfl) s_min2 T.b_min (av_cons (ev_op op_addA s_add (ev_var 3) (ev_b call_len s_len T.b_len (av_cons (ev_var 4) av_nil))) (av_cons (ev_var 6) av_nil)))) (sv_one (sv_if (bv_cmp op_lt s_cmp (ev_var 7) (ev_var 8)) (sv_one (sv_expr (ev_mut 2 PySem.F.slot_list_append PySem.F.type_list_append mt_append s_append (av_cons (ev_tup (av_cons (ev_var 7) (av_cons (ev_sl sl_any s_sl (ev_var 4) (pt_some (ev_op op_sub s_sub (ev_var 7) (ev_var 3))) (pt_some (ev_op op_sub s_sub (ev_var 8) (ev_var 3)))) av_nil))) av_nil)))) sv_nil))))))))) (sv_one (sv_ret (ev_var 2)))))
theorem ok_lacking {f : Addr} {fd : FuncData} (T : Txt K mg cls) (Fn : Fun K "lacking" "lacking" s_lacking f fd) : FnOk P w K mg base (L2.CX P w) 1 f fd P_lacking (spM ⟨K, cls⟩ m_lacking) :=
  ok_defN (N := N_lacking) Fn sc_lacking (by decide) fun cdv A outer s H E hr => (sv_cons (sv_set 2 sc_lacking.nd (ev_lst av_nil)) (sv_cons (sv_for PassesOwn.never rfl (iv_list rfl (ev_var 0)) (gv_tup rfl rfl (gv_cons (gv_name 3 sc_lacking.nd) (gv_cons (gv_name 4 sc_lacking.nd) gv_nil))) (sv_fg [3, 4, 5, 6] (sv_cons (sv_for PassesOwn.never rfl (iv_list rfl (ev_var 1)) (gv_tup rfl rfl (gv_cons (gv_name 5 sc_lacking.nd) (gv_cons (gv_name 6 sc_lacking.nd) gv_nil))) (sv_fg [5, 6] (sv_cons (sv_if (bv_chain op_lt op_lt s_cmp s_cmp (ev_var 3) (ev_var 5) (ev_var 4)) (sv_one (sv_expr (ev_mut 2 PySem.F.slot_list_append PySem.F.type_list_append mt_append s_append (av_cons (ev_tup (av_cons (ev_var 3) (av_cons (ev_var 5) av_nil))) av_nil)))) sv_nil) (sv_one (sv_if (bv_w (bw_and (bv_cmp op_lt s_cmp (ev_var 5) (ev_var 4)) (bw_and1 (bv_cmp op_lt s_cmp (ev_var 3) (ev_op op_addA s_add (ev_var 5) (ev_b call_len s_len T.b_len (av_cons (ev_var 6) av_nil))))))) (sv_one (sv_set 3 sc_lacking.nd (ev_op op_addA s_add (ev_var 5) (ev_b call_len s_len T.b_len (av_cons (ev_var 6) av_nil))))) sv_nil))))) (sv_one (sv_if (bv_cmp op_lt s_cmp (ev_var 3) (ev_var 4)) (sv_one (sv_expr (ev_mut 2 PySem.F.slot_list_append PySem.F.type_list_append mt_append s_append (av_cons (ev_tup (av_cons (ev_var 3) (av_cons (ev_var 4) av_nil))) av_nil)))) sv_nil))))) (sv_one (sv_ret (ev_var 2)))))
theorem ok_joined {f : Addr} {fd : FuncData} (T : Txt K mg cls) (D_cut : DefIn P w K mg base ⟨K, cls⟩ "cut" P_cut 1 m_cut) (D_lacking : DefIn P w K mg base ⟨K, cls⟩ "lacking" P_lacking 1 m_lacking) (Fn : Fun K "joined" "joined" s_joined f fd) : FnOk P w K mg base (L2.CX P w) 2 f fd P_joined (spM ⟨K, cls⟩ m_joined) :=
  ok_defN (N := N_joined) Fn sc_joined (by decide) fun cdv A outer s H E hr => (sv_cons (sv_setLc 2 [("at", 4), ("signs", 5)] rfl sc_joined.nd rfl rfl (sw_true rfl rfl rfl (by decide +kernel)) (iv_list rfl (ev_var 1)) (blkOk_by (own := [("at", 4), ("signs", 5)]) (N := N_joined) (sc := defScope s_joined) (by decide +kernel)) (fun _ _ _ _ _ => (gv_tup rfl rfl (gv_cons (gv_name 4 sc_joined.nd) (gv_cons (gv_name 5 sc_joined.nd) gv_nil)))) (fun _ _ _ _ _ => tv_nil) (fun _ _ _ _ _ => (ev_tup (av_cons (ev_var 4) (av_cons (ev_op op_addA s_add (ev_var 4) (ev_b call_len s_len T.b_len (av_cons (ev_var 5) av_nil))) av_nil))))) (sv_cons (sv_set 3 sc_joined.nd (ev_lst av_nil)) (sv_cons (sv_for PassesOwn.never rfl (iv_list rfl (ev_b (cr_sortedD rfl hr.units) (s_sortD rfl) T.b_sorted (av_cons (ev_op op_addA s_add (ev_ty call_list_of s_list T.b_list (av_cons (ev_var 0) av_nil)) (ev_call [] D_cut.d (hr.mono (by decide)) D_cut.b .nil (fun _ => DL.nil) passZ (av_cons (ev_var 1) (av_cons (ev_call [] D_lacking.d (hr.mono (by decide)) D_lacking.b .nil (fun _ => DL.nil) passZ (av_cons (ev_var 2) (av_cons (ev_var 0) av_nil))) av_nil)))) av_nil))) (gv_tup rfl rfl (gv_cons (gv_name 4 sc_joined.nd) (gv_cons (gv_name 5 sc_joined.nd) gv_nil))) (sv_fg [4, 5] (sv_one (sv_if (bv_w (bw_and (bv_cmp op_gt s_cmp (ev_b call_len s_len T.b_len (av_cons (ev_var 3) av_nil)) ev_int) (bw_and1 (bv_cmp (op_eqP hr.units) s_eq (ev_op op_addA s_add (ev_ix ix_seq s_ix (ev_ix ix_seq s_ix (ev_var 3) (ev_un un_neg s_neg ev_int)) ev_int) (ev_b call_len s_len T.b_len (av_cons (ev_ix ix_seq s_ix (ev_ix ix_seq s_ix (ev_var 3) (ev_un un_neg s_neg ev_int)) ev_int) av_nil))) (ev_var 4))))) (sv_one (sv_putL 3 rfl (ev_un un_neg s_neg ev_int) (ev_tup (av_cons (ev_ix ix_seq s_ix (ev_ix ix_seq s_ix (ev_var 3) (ev_un un_neg s_neg ev_int)) ev_int) (av_cons (ev_op op_addA s_add (ev_ix ix_seq s_ix (ev_ix ix_seq s_ix (ev_var 3) (ev_un un_neg s_neg ev_int)) ev_int) (ev_var 5)) av_nil))))) (sv_one (sv_expr (ev_mut 3 PySem.F.slot_list_append PySem.F.type_list_append mt_append s_append (av_cons (ev_tup (av_cons (ev_var 4) (av_cons (ev_var 5) av_nil))) av_nil)))))))) (sv_one (sv_ret (ev_var 3))))))
theorem ok_z_from_the_last {f : Addr} {fd : FuncData} (T : Txt K mg cls) (D_joined : DefIn P w K mg base ⟨K, cls⟩ "joined" P_joined 2 m_joined) (Fn : Fun K "_law_from_the_last" "_law_from_the_last" s_z_from_the_last f fd) : FnOk P w K mg base (L2.CX P w) 3 f fd P_z_from_the_last (spM ⟨K, cls⟩ m_z_from_the_last) :=
  ok_defN (N := N_z_from_the_last) Fn sc_z_from_the_last (by decide) fun cdv A outer s H E hr => (sv_cons (sv_set 1 sc_z_from_the_last.nd (ev_lst av_nil)) (sv_cons (sv_for PassesOwn.never rfl (iv_list rfl (by exact ev_rev rfl (ev_var 0))) (gv_name 2 sc_z_from_the_last.nd) (sv_fg [2] (sv_one (sv_set 1 sc_z_from_the_last.nd (ev_call [] D_joined.d (hr.mono (by decide)) D_joined.b .nil (fun _ => DL.nil) passZ (av_cons (ev_var 2) (av_cons (ev_var 1) av_nil))))))) (sv_one (sv_ret (ev_var 1)))))
theorem ok_z_one_by_one {f : Addr} {fd : FuncData} (T : Txt K mg cls) (D_joined : DefIn P w K mg base ⟨K, cls⟩ "joined" P_joined 2 m_joined) (Fn : Fun K "_law_one_by_one" "_law_one_by_one" s_z_one_by_one f fd) : FnOk P w K mg base (L2.CX P w) 3 f fd P_z_one_by_one (spM ⟨K, cls⟩ m_z_one_by_one) :=
  ok_defN (N := N_z_one_by_one) Fn sc_z_one_by_one (by decide) fun cdv A outer s H E hr => (sv_cons (sv_set 1 sc_z_one_by_one.nd (ev_lst av_nil)) (sv_cons (sv_for PassesOwn.never rfl (iv_list rfl (ev_var 0)) (gv_name 2 sc_z_one_by_one.nd) (sv_fg [2] (sv_one (sv_set 1 sc_z_one_by_one.nd (ev_call [] D_joined.d (hr.mono (by decide)) D_joined.b .nil (fun _ => DL.nil) passZ (av_cons (ev_var 1) (av_cons (ev_var 2) av_nil))))))) (sv_one (sv_ret (ev_var 1)))))
theorem ok_z_turned {f : Addr} {fd : FuncData} (T : Txt K mg cls) (D_z_draw : DefIn P w K mg base ⟨K, cls⟩ "_law_draw" P_z_draw 1 m_z_draw) (Fn : Fun K "_law_turned" "_law_turned" s_z_turned f fd) : FnOk P w K mg base (L2.CX P w) 2 f fd P_z_turned (spM ⟨K, cls⟩ m_z_turned) :=
  ok_defN (N := N_z_turned) Fn sc_z_turned (by decide) fun cdv A outer s H E hr => (sv_cons (sv_set 2 sc_z_turned.nd (ev_lst av_nil)) (sv_cons (sv_for PassesOwn.never rfl (iv_list rfl (ev_var 1)) (gv_name 3 sc_z_turned.nd) (sv_fg [3] (sv_cons (sv_expr (ev_mut 2 PySem.F.slot_list_insert PySem.F.type_list_insert mt_ins s_insert (av_cons (ev_call [true, false] D_z_draw.d (hr.mono (by decide)) D_z_draw.b .nil (fun _ => DL.nil) passZ (av_cons (ev_var 0) (av_cons (ev_op op_addA s_add (ev_b call_len s_len T.b_len (av_cons (ev_var 2) av_nil)) ev_int) av_nil))) (av_cons (ev_var 3) av_nil)))) (sv_one (sv_if (bv_cmp (op_eqP hr.units) s_eq (ev_call [true, false] D_z_draw.d (hr.mono (by decide)) D_z_draw.b .nil (fun _ => DL.nil) passZ (av_cons (ev_var 0) (av_cons ev_int av_nil))) ev_int) (sv_one (sv_expr (ev_mut 2 PySem.F.slot_list_append PySem.F.type_list_append mt_append s_append (av_cons (ev_var 3) av_nil)))) sv_nil))))) (sv_one (sv_ret (ev_var 2)))))
theorem ok_weight {f : Addr} {fd : FuncData} (T : Txt K mg cls) (Fn : Fun K "weight" "weight" s_weight f fd) : FnOk P w K mg base (L2.CX P w) 1 f fd P_weight (spM ⟨K, cls⟩ m_weight) :=
  ok_defN (N := N_weight) Fn sc_weight (by decide) fun cdv A outer s H E hr => (sv_one (sv_ret (ev_b (cr_sum rfl) s_sum T.b_sum (av_cons (ev_lc [("at", 1), ("signs", 2)] rfl sc_weight.nd (iv_list rfl (ev_var 0)) (blkOk_by (own := [("at", 1), ("signs", 2)]) (N := N_weight) (sc := defScope s_weight) (by decide +kernel)) (fun _ _ _ _ _ => (gv_tup rfl rfl (gv_cons (gv_name 1 sc_weight.nd) (gv_cons (gv_name 2 sc_weight.nd) gv_nil)))) (fun _ _ _ _ _ => tv_nil) (fun _ _ _ _ _ => (ev_b call_len s_len T.b_len (av_cons (ev_var 2) av_nil)))) av_nil))))
theorem ok_law {f : Addr} {fd : FuncData} (T : Txt K mg cls) (D_z_well : DefIn P w K mg base ⟨K, cls⟩ "_law_well" P_z_well 1 m_z_well) (D_z_draw : DefIn P w K mg base ⟨K, cls⟩ "_law_draw" P_z_draw 1 m_z_draw) (D_z_text : DefIn P w K mg base ⟨K, cls⟩ "_law_text" P_z_text 2 m_z_text) (D_z_piece : DefIn P w K mg base ⟨K, cls⟩ "_law_piece" P_z_piece 2 m_z_piece) (D_z_parts : DefIn P w K mg base ⟨K, cls⟩ "_law_parts" P_z_parts 1 m_z_parts) (D_z_table : DefIn P w K mg base ⟨K, cls⟩ "_law_table" P_z_table 1 m_z_table) (D_z_from_the_last : DefIn P w K mg base ⟨K, cls⟩ "_law_from_the_last" P_z_from_the_last 3 m_z_from_the_last) (D_z_one_by_one : DefIn P w K mg base ⟨K, cls⟩ "_law_one_by_one" P_z_one_by_one 3 m_z_one_by_one) (D_joined : DefIn P w K mg base ⟨K, cls⟩ "joined" P_joined 2 m_joined) (D_z_turned : DefIn P w K mg base ⟨K, cls⟩ "_law_turned" P_z_turned 2 m_z_turned) (D_weight : DefIn P w K mg base ⟨K, cls⟩ "weight" P_weight 1 m_weight) (Fn : Fun K "law" "law" s_law f fd) : FnOk P w K mg base (L2.CX P w) 4 f fd P_law (spM ⟨K, cls⟩ m_law) :=
  ok_defN (N := N_law) Fn sc_law (by decide) fun cdv A outer s H E hr => (sv_cons (sv_for PassesOwn.never rfl (iv_list rfl (ev_op op_addA s_add (ev_sl sl_any s_sl (ev_var 0) pt_none (pt_some ev_int)) (ev_lst (av_cons ev_int (av_cons ev_int (av_cons ev_int av_nil)))))) (gv_name 1 sc_law.nd) (sv_fg [1, 2, 3, 4, 5, 6, 7, 8, 9, 10, 11, 12, 13, 14] (sv_cons (sv_set 2 sc_law.nd (ev_call [] D_z_well.d (hr.mono (by decide)) D_z_well.b .nil (fun _ => DL.nil) passZ (av_cons (ev_var 1) av_nil))) (sv_cons (sv_set 3 sc_law.nd (ev_cmp (op_eqP hr.units) s_eq (ev_call [true, false] D_z_draw.d (hr.mono (by decide)) D_z_draw.b .nil (fun _ => DL.nil) passZ (av_cons (ev_var 2) (av_cons ev_int av_nil))) ev_int)) (sv_cons (sv_set 4 sc_law.nd (ev_ix ix_seq s_ix (ev_lst (av_cons ev_int (av_cons ev_int (av_cons ev_int (av_cons (ev_op op_addA s_add (ev_op op_pow s_pow ev_int ev_int) (ev_call [true, false] D_z_draw.d (hr.mono (by decide)) D_z_draw.b .nil (fun _ => DL.nil) passZ (av_cons (ev_var 2) (av_cons (ev_op op_pow s_pow ev_int ev_int) av_nil)))) av_nil))))) (ev_call [true, false] D_z_draw.d (hr.mono (by decide)) D_z_draw.b .nil (fun _ => DL.nil) passZ (av_cons (ev_var 2) (av_cons ev_int av_nil))))) (sv_cons (sv_set 5 sc_law.nd (ev_op op_addA s_add ev_int (ev_call [true, false] D_z_draw.d (hr.mono (by decide)) D_z_draw.b .nil (fun _ => DL.nil) passZ (av_cons (ev_var 2) (av_cons ev_int av_nil))))) (sv_cons (sv_set 6 sc_law.nd (ev_op op_addA s_add ev_int (ev_call [true, false] D_z_draw.d (hr.mono (by decide)) D_z_draw.b .nil (fun _ => DL.nil) passZ (av_cons (ev_var 2) (av_cons ev_int av_nil))))) (sv_cons (sv_set 7 sc_law.nd (ev_call [true, false] D_z_text.d (hr.mono (by decide)) D_z_text.b .nil (fun _ => DL.nil) passZ (av_cons (ev_var 2) (av_cons (ev_var 5) av_nil)))) (sv_cons (sv_set 8 sc_law.nd (ev_lst av_nil)) (sv_cons (sv_for PassesOwn.never rfl (iv_range1 T.b_range (av_cons (ev_var 6) av_nil)) (gv_name 9 sc_law.nd) (sv_fg [9, 10] (sv_cons (sv_set 10 sc_law.nd (ev_var 7)) (sv_cons (sv_if (bv_w (bw_and (bv_not (bv_tru rfl (ev_var 3))) (bw_and1 (bv_cmp (op_eqP hr.units) s_eq (ev_call [true, false] D_z_draw.d (hr.mono (by decide)) D_z_draw.b .nil (fun _ => DL.nil) passZ (av_cons (ev_var 2) (av_cons ev_int av_nil))) ev_int)))) (sv_one (sv_set 10 sc_law.nd (ev_call [true, false] D_z_text.d (hr.mono (by decide)) D_z_text.b .nil (fun _ => DL.nil) passZ (av_cons (ev_var 2) (av_cons (ev_var 5) av_nil))))) sv_nil) (sv_one (sv_expr (ev_mut 8 PySem.F.slot_list_append PySem.F.type_list_append mt_append s_append (av_cons (ev_call [true, false, false] D_z_piece.d (hr.mono (by decide)) D_z_piece.b .nil (fun _ => DL.nil) passZ (av_cons (ev_var 2) (av_cons (ev_var 10) (av_cons (ev_var 4) av_nil)))) av_nil)))))))) (sv_cons (sv_setLc 11 [("_law_piece_here", 15)] rfl sc_law.nd rfl rfl (sw_true rfl rfl rfl (by decide +kernel)) (iv_list rfl (ev_var 8)) (blkOk_by (own := [("_law_piece_here", 15)]) (N := N_law) (sc := defScope s_law) (by decide +kernel)) (fun _ _ _ _ _ => (gv_name 15 sc_law.nd)) (fun _ _ _ _ _ => tv_nil) (fun _ _ _ _ _ => (ev_ty call_list_of s_list T.b_list (av_cons (ev_var 15) av_nil)))) (sv_cons (sv_set 12 sc_law.nd (ev_call [] D_z_parts.d (hr.mono (by decide)) D_z_parts.b .nil (fun _ => DL.nil) passZ (av_cons (ev_call [] D_z_table.d (hr.mono (by decide)) D_z_table.b .nil (fun _ => DL.nil) passZ (av_cons (ev_var 8) av_nil)) av_nil))) (sv_cons (sv_set 13 sc_law.nd (ev_op op_fdivW s_div (ev_var 6) ev_int)) (sv_cons (sv_set 14 sc_law.nd (ev_lst (av_cons (ev_call [] D_z_one_by_one.d (hr.mono (by decide)) D_z_one_by_one.b .nil (fun _ => DL.nil) passZ (av_cons (ev_var 11) av_nil)) (av_cons (ev_call [] D_z_from_the_last.d (hr.mono (by decide)) D_z_from_the_last.b .nil (fun _ => DL.nil) passZ (av_cons (ev_var 11) av_nil)) av_nil)))) (sv_cons (sv_expr (ev_mut 14 PySem.F.slot_list_append PySem.F.type_list_append mt_append s_append (av_cons (ev_call [] D_joined.d (hr.mono (by decide)) D_joined.b .nil (fun _ => DL.nil) passZ (av_cons (ev_call [] D_z_one_by_one.d (hr.mono (by decide)) D_z_one_by_one.b .nil (fun _ => DL.nil) passZ (av_cons (ev_sl sl_any s_sl (ev_var 11) pt_none (pt_some (ev_var 13))) av_nil)) (av_cons (ev_call [] D_z_one_by_one.d (hr.mono (by decide)) D_z_one_by_one.b .nil (fun _ => DL.nil) passZ (av_cons (ev_sl sl_any s_sl (ev_var 11) (pt_some (ev_var 13)) pt_none) av_nil)) av_nil))) av_nil))) (sv_cons (sv_if (bv_cmp (op_neP hr.units) s_ne (ev_lc [("_law_one", 16)] rfl sc_law.nd (iv_list rfl (ev_var 14)) (blkOk_by (own := [("_law_one", 16)]) (N := N_law) (sc := defScope s_law) (by decide +kernel)) (fun _ _ _ _ _ => (gv_name 16 sc_law.nd)) (fun _ _ _ _ _ => (tv_one (bv_w (bw_or (bv_not (bv_tru rfl (ev_b call_isi s_isi T.b_isinstance (av_cons (ev_var 16) (av_cons (ev_bty T.b_list) av_nil))))) (bw_or1 (bv_cmp (op_neP hr.units) s_ne (ev_var 16) (ev_var 12))))))) (fun _ _ _ _ _ => (ev_var 16))) (ev_lst av_nil)) (sv_one (sv_ret ev_bl)) sv_nil) (sv_cons (sv_if (bv_w (bw_and (bv_tru rfl (ev_var 3)) (bw_and1 (bv_cmp (op_neP hr.units) s_ne (ev_call [] D_z_one_by_one.d (hr.mono (by decide)) D_z_one_by_one.b .nil (fun _ => DL.nil) passZ (av_cons (ev_call [true, false] D_z_turned.d (hr.mono (by decide)) D_z_turned.b .nil (fun _ => DL.nil) passZ (av_cons (ev_var 2) (av_cons (ev_var 11) av_nil))) av_nil)) (ev_var 12))))) (sv_one (sv_ret ev_bl)) sv_nil) (sv_one (sv_if (bv_w (bw_or (bv_cmp (op_neP hr.units) s_ne (ev_call [] D_joined.d (hr.mono (by decide)) D_joined.b .nil (fun _ => DL.nil) passZ (av_cons (ev_var 12) (av_cons (ev_var 12) av_nil))) (ev_var 12)) (bw_or (bv_cmp (op_neP hr.units) s_ne (ev_call [] D_weight.d (hr.mono (by decide)) D_weight.b .nil (fun _ => DL.nil) passZ (av_cons (ev_var 12) av_nil)) (ev_b cr_len (s_lenA rfl) T.b_len (av_cons (ev_call [] D_z_table.d (hr.mono (by decide)) D_z_table.b .nil (fun _ => DL.nil) passZ (av_cons (ev_var 8) av_nil)) av_nil))) (bw_or1 (bv_cmp (op_neP hr.units) s_ne (ev_var 11) (ev_var 8)))))) (sv_one (sv_ret ev_bl)) sv_nil))))))))))))))))))) (sv_one (sv_ret ev_bl)))
end
end Law
set_option Elab.async false
set_option linter.all false
set_option maxRecDepth 100000
set_option maxHeartbeats 4000000
namespace Law
open PySem PySem.Spec PyProof.Rows L2 Fw
theorem ex_of {r p q : FuncData → Prop} {fd : FuncData} (_ : r fd) (h : p fd) (h2 : q fd) : ∃ fd, p fd ∧ q fd := ⟨fd, h, h2⟩
/-! ### the end -/
theorem all_mk {l : PySem.W.OpenLaw} {w : World} {K : PySem.W.Frag} {h : Heap} {mg : Str → Option Value} {fa : Addr} (X : K.In h) (G : h.Ns mainGlobals mg) (hfa : mg "law" = some (.ref fa))
    {f0 f1 f2 f3 f4 f5 f6 f7 f8 f9 f10 f11 f12 f13 : Addr}
    {od0 an0 od1 an1 od2 an2 od3 an3 od4 an4 od5 an5 od6 an6 od7 an7 od8 an8 od9 an9 od10 an10 od11 an11 od12 an12 od13 an13 : Option Addr}
    {sl0 sl1 sl2 sl3 sl4 sl5 sl6 sl7 sl8 sl9 sl10 sl11 sl12 sl13 : Array (Option Value)}
    {oc0 dc0 pm0 cd0 ct0 kV0 oc1 dc1 pm1 cd1 ct1 kV1 oc2 dc2 pm2 cd2 ct2 kV2 oc3 dc3 pm3 cd3 ct3 kV3 oc4 dc4 pm4 cd4 ct4 kV4 oc5 dc5 pm5 cd5 ct5 kV5 oc6 dc6 pm6 cd6 ct6 kV6 oc7 dc7 pm7 cd7 ct7 kV7 oc8 dc8 pm8 cd8 ct8 kV8 oc9 dc9 pm9 cd9 ct9 kV9 oc10 dc10 pm10 cd10 ct10 kV10 oc11 dc11 pm11 cd11 ct11 kV11 oc12 dc12 pm12 cd12 ct12 kV12 oc13 dc13 pm13 cd13 ct13 kV13 : Value}
    (a0 : PySem.W.nsIn K mainGlobals "_law_well" = some (some (.ref f0)))
    (l0 : K.lookup f0 = some ⟨oc0, od0, .func (PySem.W.fnOf "_law_well" "_law_well" (defArgs s_z_well) (defBody s_z_well) (defScope s_z_well) .none kV0 dc0 pm0 an0 cd0 ct0), sl0⟩)
    (c0 : PySem.W.codeIn K cd0 "_law_well" = true)
    (k0 : PySem.W.keepIn K (.ref f0) = true)
    (a1 : PySem.W.nsIn K mainGlobals "_law_draw" = some (some (.ref f1)))
    (l1 : K.lookup f1 = some ⟨oc1, od1, .func (PySem.W.fnOf "_law_draw" "_law_draw" (defArgs s_z_draw) (defBody s_z_draw) (defScope s_z_draw) .none kV1 dc1 pm1 an1 cd1 ct1), sl1⟩)
    (c1 : PySem.W.codeIn K cd1 "_law_draw" = true)
    (k1 : PySem.W.keepIn K (.ref f1) = true)
    (a2 : PySem.W.nsIn K mainGlobals "_law_text" = some (some (.ref f2)))
    (l2 : K.lookup f2 = some ⟨oc2, od2, .func (PySem.W.fnOf "_law_text" "_law_text" (defArgs s_z_text) (defBody s_z_text) (defScope s_z_text) .none kV2 dc2 pm2 an2 cd2 ct2), sl2⟩)
    (c2 : PySem.W.codeIn K cd2 "_law_text" = true)
    (k2 : PySem.W.keepIn K (.ref f2) = true)
    (a3 : PySem.W.nsIn K mainGlobals "_law_piece" = some (some (.ref f3)))
    (l3 : K.lookup f3 = some ⟨oc3, od3, .func (PySem.W.fnOf "_law_piece" "_law_piece" (defArgs s_z_piece) (defBody s_z_piece) (defScope s_z_piece) .none kV3 dc3 pm3 an3 cd3 ct3), sl3⟩)
    (c3 : PySem.W.codeIn K cd3 "_law_piece" = true)
    (k3 : PySem.W.keepIn K (.ref f3) = true)
    (a4 : PySem.W.nsIn K mainGlobals "_law_parts" = some (some (.ref f4)))
    (l4 : K.lookup f4 = some ⟨oc4, od4, .func (PySem.W.fnOf "_law_parts" "_law_parts" (defArgs s_z_parts) (defBody s_z_parts) (defScope s_z_parts) .none kV4 dc4 pm4 an4 cd4 ct4), sl4⟩)
    (c4 : PySem.W.codeIn K cd4 "_law_parts" = true)
    (k4 : PySem.W.keepIn K (.ref f4) = true)
    (a5 : PySem.W.nsIn K mainGlobals "_law_table" = some (some (.ref f5)))
    (l5 : K.lookup f5 = some ⟨oc5, od5, .func (PySem.W.fnOf "_law_table" "_law_table" (defArgs s_z_table) (defBody s_z_table) (defScope s_z_table) .none kV5 dc5 pm5 an5 cd5 ct5), sl5⟩)
    (c5 : PySem.W.codeIn K cd5 "_law_table" = true)
    (k5 : PySem.W.keepIn K (.ref f5) = true)
    (a6 : PySem.W.nsIn K mainGlobals "cut" = some (some (.ref f6)))
    (l6 : K.lookup f6 = some ⟨oc6, od6, .func (PySem.W.fnOf "cut" "cut" (defArgs s_cut) (defBody s_cut) (defScope s_cut) .none kV6 dc6 pm6 an6 cd6 ct6), sl6⟩)
    (c6 : PySem.W.codeIn K cd6 "cut" = true)
    (k6 : PySem.W.keepIn K (.ref f6) = true)
    (a7 : PySem.W.nsIn K mainGlobals "lacking" = some (some (.ref f7)))
    (l7 : K.lookup f7 = some ⟨oc7, od7, .func (PySem.W.fnOf "lacking" "lacking" (defArgs s_lacking) (defBody s_lacking) (defScope s_lacking) .none kV7 dc7 pm7 an7 cd7 ct7), sl7⟩)
    (c7 : PySem.W.codeIn K cd7 "lacking" = true)
    (k7 : PySem.W.keepIn K (.ref f7) = true)
    (a8 : PySem.W.nsIn K mainGlobals "joined" = some (some (.ref f8)))
    (l8 : K.lookup f8 = some ⟨oc8, od8, .func (PySem.W.fnOf "joined" "joined" (defArgs s_joined) (defBody s_joined) (defScope s_joined) .none kV8 dc8 pm8 an8 cd8 ct8), sl8⟩)
    (c8 : PySem.W.codeIn K cd8 "joined" = true)
    (k8 : PySem.W.keepIn K (.ref f8) = true)
    (a9 : PySem.W.nsIn K mainGlobals "_law_from_the_last" = some (some (.ref f9)))
    (l9 : K.lookup f9 = some ⟨oc9, od9, .func (PySem.W.fnOf "_law_from_the_last" "_law_from_the_last" (defArgs s_z_from_the_last) (defBody s_z_from_the_last) (defScope s_z_from_the_last) .none kV9 dc9 pm9 an9 cd9 ct9), sl9⟩)
    (c9 : PySem.W.codeIn K cd9 "_law_from_the_last" = true)
    (k9 : PySem.W.keepIn K (.ref f9) = true)
    (a10 : PySem.W.nsIn K mainGlobals "_law_one_by_one" = some (some (.ref f10)))
    (l10 : K.lookup f10 = some ⟨oc10, od10, .func (PySem.W.fnOf "_law_one_by_one" "_law_one_by_one" (defArgs s_z_one_by_one) (defBody s_z_one_by_one) (defScope s_z_one_by_one) .none kV10 dc10 pm10 an10 cd10 ct10), sl10⟩)
    (c10 : PySem.W.codeIn K cd10 "_law_one_by_one" = true)
    (k10 : PySem.W.keepIn K (.ref f10) = true)
    (a11 : PySem.W.nsIn K mainGlobals "_law_turned" = some (some (.ref f11)))
    (l11 : K.lookup f11 = some ⟨oc11, od11, .func (PySem.W.fnOf "_law_turned" "_law_turned" (defArgs s_z_turned) (defBody s_z_turned) (defScope s_z_turned) .none kV11 dc11 pm11 an11 cd11 ct11), sl11⟩)
    (c11 : PySem.W.codeIn K cd11 "_law_turned" = true)
    (k11 : PySem.W.keepIn K (.ref f11) = true)
    (a12 : PySem.W.nsIn K mainGlobals "weight" = some (some (.ref f12)))
    (l12 : K.lookup f12 = some ⟨oc12, od12, .func (PySem.W.fnOf "weight" "weight" (defArgs s_weight) (defBody s_weight) (defScope s_weight) .none kV12 dc12 pm12 an12 cd12 ct12), sl12⟩)
    (c12 : PySem.W.codeIn K cd12 "weight" = true)
    (k12 : PySem.W.keepIn K (.ref f12) = true)
    (a13 : PySem.W.nsIn K mainGlobals "law" = some (some (.ref f13)))
    (l13 : K.lookup f13 = some ⟨oc13, od13, .func (PySem.W.fnOf "law" "law" (defArgs s_law) (defBody s_law) (defScope s_law) .none kV13 dc13 pm13 an13 cd13 ct13), sl13⟩)
    (c13 : PySem.W.codeIn K cd13 "law" = true)
    (k13 : PySem.W.keepIn K (.ref f13) = true)
    (z_int : PySem.W.nsIn K mainGlobals "int" = some none)
    (z_isinstance : PySem.W.nsIn K mainGlobals "isinstance" = some none)
    (z_len : PySem.W.nsIn K mainGlobals "len" = some none)
    (z_list : PySem.W.nsIn K mainGlobals "list" = some none)
    (z_max : PySem.W.nsIn K mainGlobals "max" = some none)
    (z_min : PySem.W.nsIn K mainGlobals "min" = some none)
    (z_range : PySem.W.nsIn K mainGlobals "range" = some none)
    (z_sorted : PySem.W.nsIn K mainGlobals "sorted" = some none)
    (z_sum : PySem.W.nsIn K mainGlobals "sum" = some none)
    : ∃ fd : FuncData, (∀ (s : Shared) (v : Value), BindsTo s fd ⟨[v], []⟩ [("_law_script", v)]) ∧ ∀ base : Heap, K.In base → base.Ns mainGlobals mg → FnOk l.prog w K mg base (L2.CX l.prog w) 4 fa fd ["_law_script"] (spM ⟨K, clsOf K⟩ m_law) := by
  have e := hfa.symm.trans (PySem.W.mg_of X G a13)
  cases e
  have T : Txt K mg (clsOf K) := ⟨(PySem.W.mg_none_of X G z_int),
    (PySem.W.mg_none_of X G z_isinstance),
    (PySem.W.mg_none_of X G z_len),
    (PySem.W.mg_none_of X G z_list),
    (PySem.W.mg_none_of X G z_max),
    (PySem.W.mg_none_of X G z_min),
    (PySem.W.mg_none_of X G z_range),
    (PySem.W.mg_none_of X G z_sorted),
    (PySem.W.mg_none_of X G z_sum)⟩
  have F0 := fun_mk (st := s_z_well) l0 c0 k0
  have F1 := fun_mk (st := s_z_draw) l1 c1 k1
  have F2 := fun_mk (st := s_z_text) l2 c2 k2
  have F3 := fun_mk (st := s_z_piece) l3 c3 k3
  have F4 := fun_mk (st := s_z_parts) l4 c4 k4
  have F5 := fun_mk (st := s_z_table) l5 c5 k5
  have F6 := fun_mk (st := s_cut) l6 c6 k6
  have F7 := fun_mk (st := s_lacking) l7 c7 k7
  have F8 := fun_mk (st := s_joined) l8 c8 k8
  have F9 := fun_mk (st := s_z_from_the_last) l9 c9 k9
  have F10 := fun_mk (st := s_z_one_by_one) l10 c10 k10
  have F11 := fun_mk (st := s_z_turned) l11 c11 k11
  have F12 := fun_mk (st := s_weight) l12 c12 k12
  have F13 := fun_mk (st := s_law) l13 c13 k13
  refine ex_of (r := Fun K _ _ _ _) F13 (by exact fun s v => .of_eq rfl) (fun base _ _ => ?G)
  case G =>
    have O0 := ok_z_well (P := l.prog) (w := w) (base := base) T  F0
    have D_z_well : DefIn l.prog w K mg base ⟨K, clsOf K⟩ "_law_well" P_z_well 1 m_z_well := ⟨_, _, ⟨PySem.W.mg_of X G a0, O0, k0⟩, F0.binds (ps := P_z_well) fun _ _ _ _ _ _ us hl => match us, hl with | [_], _ => rfl⟩
    have O1 := ok_z_draw (P := l.prog) (w := w) (base := base) T  F1
    have D_z_draw : DefIn l.prog w K mg base ⟨K, clsOf K⟩ "_law_draw" P_z_draw 1 m_z_draw := ⟨_, _, ⟨PySem.W.mg_of X G a1, O1, k1⟩, F1.binds (ps := P_z_draw) fun _ _ _ _ _ _ us hl => match us, hl with | [_, _], _ => rfl⟩
    have O2 := ok_z_text (P := l.prog) (w := w) (base := base) T D_z_draw F2
    have D_z_text : DefIn l.prog w K mg base ⟨K, clsOf K⟩ "_law_text" P_z_text 2 m_z_text := ⟨_, _, ⟨PySem.W.mg_of X G a2, O2, k2⟩, F2.binds (ps := P_z_text) fun _ _ _ _ _ _ us hl => match us, hl with | [_, _], _ => rfl⟩
    have O3 := ok_z_piece (P := l.prog) (w := w) (base := base) T D_z_draw F3
    have D_z_piece : DefIn l.prog w K mg base ⟨K, clsOf K⟩ "_law_piece" P_z_piece 2 m_z_piece := ⟨_, _, ⟨PySem.W.mg_of X G a3, O3, k3⟩, F3.binds (ps := P_z_piece) fun _ _ _ _ _ _ us hl => match us, hl with | [_, _, _], _ => rfl⟩
    have O4 := ok_z_parts (P := l.prog) (w := w) (base := base) T  F4
    have D_z_parts : DefIn l.prog w K mg base ⟨K, clsOf K⟩ "_law_parts" P_z_parts 1 m_z_parts := ⟨_, _, ⟨PySem.W.mg_of X G a4, O4, k4⟩, F4.binds (ps := P_z_parts) fun _ _ _ _ _ _ us hl => match us, hl with | [_], _ => rfl⟩
    have O5 := ok_z_table (P := l.prog) (w := w) (base := base) T  F5
    have D_z_table : DefIn l.prog w K mg base ⟨K, clsOf K⟩ "_law_table" P_z_table 1 m_z_table := ⟨_, _, ⟨PySem.W.mg_of X G a5, O5, k5⟩, F5.binds (ps := P_z_table) fun _ _ _ _ _ _ us hl => match us, hl with | [_], _ => rfl⟩
    have O6 := ok_cut (P := l.prog) (w := w) (base := base) T  F6
    have D_cut : DefIn l.prog w K mg base ⟨K, clsOf K⟩ "cut" P_cut 1 m_cut := ⟨_, _, ⟨PySem.W.mg_of X G a6, O6, k6⟩, F6.binds (ps := P_cut) fun _ _ _ _ _ _ us hl => match us, hl with | [_, _], _ => rfl⟩
    have O7 := ok_lacking (P := l.prog) (w := w) (base := base) T  F7
    have D_lacking : DefIn l.prog w K mg base ⟨K, clsOf K⟩ "lacking" P_lacking 1 m_lacking := ⟨_, _, ⟨PySem.W.mg_of X G a7, O7, k7⟩, F7.binds (ps := P_lacking) fun _ _ _ _ _ _ us hl => match us, hl with | [_, _], _ => rfl⟩
    have O8 := ok_joined (P := l.prog) (w := w) (base := base) T D_cut D_lacking F8
    have D_joined : DefIn l.prog w K mg base ⟨K, clsOf K⟩ "joined" P_joined 2 m_joined := ⟨_, _, ⟨PySem.W.mg_of X G a8, O8, k8⟩, F8.binds (ps := P_joined) fun _ _ _ _ _ _ us hl => match us, hl with | [_, _], _ => rfl⟩
    have O9 := ok_z_from_the_last (P := l.prog) (w := w) (base := base) T D_joined F9
    have D_z_from_the_last : DefIn l.prog w K mg base ⟨K, clsOf K⟩ "_law_from_the_last" P_z_from_the_last 3 m_z_from_the_last := ⟨_, _, ⟨PySem.W.mg_of X G a9, O9, k9⟩, F9.binds (ps := P_z_from_the_last) fun _ _ _ _ _ _ us hl => match us, hl with | [_], _ => rfl⟩
    have O10 := ok_z_one_by_one (P := l.prog) (w := w) (base := base) T D_joined F10
    have D_z_one_by_one : DefIn l.prog w K mg base ⟨K, clsOf K⟩ "_law_one_by_one" P_z_one_by_one 3 m_z_one_by_one := ⟨_, _, ⟨PySem.W.mg_of X G a10, O10, k10⟩, F10.binds (ps := P_z_one_by_one) fun _ _ _ _ _ _ us hl => match us, hl with | [_], _ => rfl⟩
    have O11 := ok_z_turned (P := l.prog) (w := w) (base := base) T D_z_draw F11
    have D_z_turned : DefIn l.prog w K mg base ⟨K, clsOf K⟩ "_law_turned" P_z_turned 2 m_z_turned := ⟨_, _, ⟨PySem.W.mg_of X G a11, O11, k11⟩, F11.binds (ps := P_z_turned) fun _ _ _ _ _ _ us hl => match us, hl with | [_, _], _ => rfl⟩
    have O12 := ok_weight (P := l.prog) (w := w) (base := base) T  F12
    have D_weight : DefIn l.prog w K mg base ⟨K, clsOf K⟩ "weight" P_weight 1 m_weight := ⟨_, _, ⟨PySem.W.mg_of X G a12, O12, k12⟩, F12.binds (ps := P_weight) fun _ _ _ _ _ _ us hl => match us, hl with | [_], _ => rfl⟩
    have O13 := ok_law (P := l.prog) (w := w) (base := base) T D_z_well D_z_draw D_z_text D_z_piece D_z_parts D_z_table D_z_from_the_last D_z_one_by_one D_joined D_z_turned D_weight F13
    exact O13
theorem ints_dl {W : Wc} {F : Hp} : ∀ (ns : List Int) (i : Nat) (v : V) (d : Fw.D), (ns.map V.int)[i]? = some v → (ns.map Fw.D.int)[i]? = some d → Dat W F v d := by
  intro ns i v d h1 h2
  rw [List.getElem?_map] at h1 h2
  cases e : ns[i]? with
  | none => rw [e] at h1; cases h1
  | some n => rw [e] at h1 h2; cases h1; cases h2; exact .int n
theorem law_sp {K : PySem.W.Frag} {H : Hp} {a : Addr} {ns : List Int} (hl : ns.length ≤ 63) (hS : SqL K H a (ns.map V.int)) :
    spM ⟨K, clsOf K⟩ m_law [.ref a] H (fun v _ => v = .bl true) (fun _ _ _ => False) := by
  refine ⟨H, [.sh (.rol (ns.map Fw.D.int))], fun _ _ h => h, ?_, ?_⟩
  · refine ⟨rfl, fun i s v h1 h2 => ?_, ?_⟩
    · cases i with
      | zero =>
        cases h1; cases h2
        exact Dat.rol hS (by rw [List.length_map, List.length_map]) (ints_dl ns)
      | succ i => cases h1
    · intro k l s t b hkl h1 h2
      cases k with
      | succ k => cases h1
      | zero => cases l with
        | zero => exact absurd rfl hkl
        | succ l => cases h2
  · rw [law_holds ns hl]
    intro v F' H' _ _ hr
    cases hr; rfl
theorem law_ex {p : Program} {w : World} {H : Hp} {s : Shared} {e : Value} {s' : Shared} (h : L2.CX p w [] H s (fun _ _ _ => False) e s') : False := by
  obtain ⟨_, _, _, _, _, _, _, _, _, _, _, _, hf⟩ := h
  exact hf
end Law
open PySem PySem.W PyProof.Rows
set_option maxRecDepth 100000 in
set_option maxHeartbeats 0 in
theorem PySem.Challenge.cw_pagelodge_k08_pieces_in_any_order_holds : PySem.Challenge.rw_pagelodge_k08_pieces_in_any_order.Holds := by
  w_on; o_law; k_head; (case hw => w_witness2)
  k_fill
  refine L2.walk_of (l := PySem.Challenge.rw_pagelodge_k08_pieces_in_any_order) (n := 63) (k := 4) (x := "_law_script") (CX := fun w => L2.CX PySem.Challenge.rw_pagelodge_k08_pieces_in_any_order.prog w) (sp := fun w => Fw.spM ⟨_, Law.clsOf _⟩ Law.m_law) rfl (by decide) rfl ⟨rfl, by decide, by decide⟩ (fun w h Y => PySem.W.kIn_of Y) ?F (fun w H a ns hl hO hS => Law.law_sp hl hS) (fun w H s e s2 h => Law.law_ex h)
  case F =>
    intro w mg fa h KX G hmg
    refine' Law.all_mk KX G hmg ?a0 ?l0 ?c0 ?k0 ?a1 ?l1 ?c1 ?k1 ?a2 ?l2 ?c2 ?k2 ?a3 ?l3 ?c3 ?k3 ?a4 ?l4 ?c4 ?k4 ?a5 ?l5 ?c5 ?k5 ?a6 ?l6 ?c6 ?k6 ?a7 ?l7 ?c7 ?k7 ?a8 ?l8 ?c8 ?k8 ?a9 ?l9 ?c9 ?k9 ?a10 ?l10 ?c10 ?k10 ?a11 ?l11 ?c11 ?k11 ?a12 ?l12 ?c12 ?k12 ?a13 ?l13 ?c13 ?k13 ?z_int ?z_isinstance ?z_len ?z_list ?z_max ?z_min ?z_range ?z_sorted ?z_sum
    (case a0 => k_is); (case l0 => k_is); (case c0 => k_is); (case k0 => k_is); (case a1 => k_is); (case l1 => k_is); (case c1 => k_is); (case k1 => k_is); (case a2 => k_is); (case l2 => k_is); (case c2 => k_is); (case k2 => k_is); (case a3 => k_is); (case l3 => k_is); (case c3 => k_is); (case k3 => k_is); (case a4 => k_is); (case l4 => k_is); (case c4 => k_is); (case k4 => k_is); (case a5 => k_is); (case l5 => k_is); (case c5 => k_is); (case k5 => k_is); (case a6 => k_is); (case l6 => k_is); (case c6 => k_is); (case k6 => k_is); (case a7 => k_is); (case l7 => k_is); (case c7 => k_is); (case k7 => k_is); (case a8 => k_is); (case l8 => k_is); (case c8 => k_is); (case k8 => k_is); (case a9 => k_is); (case l9 => k_is); (case c9 => k_is); (case k9 => k_is); (case a10 => k_is); (case l10 => k_is); (case c10 => k_is); (case k10 => k_is); (case a11 => k_is); (case l11 => k_is); (case c11 => k_is); (case k11 => k_is); (case a12 => k_is); (case l12 => k_is); (case c12 => k_is); (case k12 => k_is); (case a13 => k_is); (case l13 => k_is); (case c13 => k_is); (case k13 => k_is); (case z_int => k_is); (case z_isinstance => k_is); (case z_len => k_is); (case z_list => k_is); (case z_max => k_is); (case z_min => k_is); (case z_range => k_is); (case z_sorted => k_is); (case z_sum => k_is)
