import PyProof.Rows.All
import Wide.All
import OpenK.AllK
import Wide.FinOn
import HandS.ForMost
import HandS.Wide
import HandS.Exc
import KE.SortData
import KE.DataCmp
import KE.DataEq
import KE.DataFind
import KE.DataMinMax
import KE.DataAny
import KE.DataIsa
import KE.KIndexOf
import PyProof.ReprRoads
import HandS.TupAny
import HandS.ExcOwn
import HandS.WordsExc
import HandS.Style
import HandS.Walk
import HandS.More
import HandS.SetFor
import HandS.Remove
import HandS.Words
import HandS.EndBits
import HandS.Conv
import KE.Datum
import KE.DatumOrd
import HandS.Star
import KE.GoesEnum
import KE.GoesMore
import PySem.Challenge.RW_levelturns_k14_whole_how_many_rings
set_option Elab.async false
set_option linter.all false
set_option maxRecDepth 100000
set_option maxHeartbeats 4000000
/-! MP.1: data over the abstract heap with footprints, values with owned parts, the state of a def's body -/
namespace MP
open PySem PySem.Spec PyProof.Rows L2

/-! ## data without changeable parts -/
mutual
def im : PyData → Bool
  | .list _ => false
  | .dict _ => false
  | .tuple ds => ims ds
  | .none => true
  | .bool _ => true
  | .int _ => true
  | .str _ => true
def ims : List PyData → Bool
  | [] => true
  | d :: ds => im d && ims ds
end

/-! the script is told as a dict of its own, so no other thing is taken for it -/
mutual
def sc : PyData → Bool
  | .none | .bool _ | .int _ | .str _ => true
  | .list ds => scs ds
  | .tuple ds => scs ds
  | .dict ds => sck ds
def scs : List PyData → Bool
  | [] => true
  | d :: ds => sc d && scs ds
def sck : List (PyData × PyData) → Bool
  | [] => true
  | (k, d) :: ds => (match k with | .none => false | _ => true) && sc d && sck ds
end
def kD : Key → PyData
  | .inl i => .int i
  | .inr x => .str x

/-- a value of a body: data that is only read; a list, a dict of our own; a tuple with such parts; a shared list or dict; data lent of an own thing -/
inductive LV where
  | imm (d : PyData)
  | lst (xs : List LV)
  | dic (ks : List (Key × LV))
  | tup (xs : List LV)
  | ref (l : Nat)
  | lent (d : PyData)

/-- the script's list: not ours to change -/
def SqS (K : PySem.W.Frag) (H : Hp) (a : Addr) (xs : List V) : Prop :=
  (∃ o, H a = some (.frz o (.lst xs))) ∨
    ∃ (o : Obj) (its : Array Value) (n : Nat), K.lookup a = some o ∧ o.cls = .type "list" ∧ o.dict = none ∧ o.data = .seq its n ∧ its.size ≤ sizeLine ∧ Vals xs its.toList
theorem SqS.sql {K : PySem.W.Frag} {H : Hp} {a : Addr} {xs : List V} (h : SqS K H a xs) : SqL K H a xs := h.imp (fun h => .inr h) id
/-! ## data at an address -/
mutual
inductive RD (K : PySem.W.Frag) (H : Hp) : V → PyData → List Addr → Prop
  | non : RD K H .non .none []
  | bl (b : Bool) : RD K H (.bl b) (.bool b) []
  | int (i : Int) : RD K H (.int i) (.int i) []
  | str (x : Str) : RD K H (.str x) (.str x) []
  | lst {a : Addr} {xs : List V} {ds : List PyData} {as : List Addr} : H a = some (.lst xs) → RDs K H xs ds as → RD K H (.ref a) (.list ds) (a :: as)
  | scr {a : Addr} {xs : List V} {ds : List PyData} {as : List Addr} : SqS K H a xs → RDs K H xs ds as → RD K H (.ref a) (.dict [(.none, .list ds)]) as
  | tup {a : Addr} {xs : List V} {ds : List PyData} {as : List Addr} : SqT K H a xs → RDs K H xs ds as → RD K H (.ref a) (.tuple ds) as
  | dic {a : Addr} {xs : List (Key × V)} {ds : List (PyData × PyData)} {as : List Addr} : H a = some (.dK xs) → RDk K H xs ds as → RD K H (.ref a) (.dict ds) (a :: as)
inductive RDs (K : PySem.W.Frag) (H : Hp) : List V → List PyData → List Addr → Prop
  | nil : RDs K H [] [] []
  | cons {v : V} {vs : List V} {d : PyData} {ds : List PyData} {as bs : List Addr} : RD K H v d as → RDs K H vs ds bs → RDs K H (v :: vs) (d :: ds) (as ++ bs)
inductive RDk (K : PySem.W.Frag) (H : Hp) : List (Key × V) → List (PyData × PyData) → List Addr → Prop
  | nil : RDk K H [] [] []
  | cons {k : Key} {v : V} {vs : List (Key × V)} {d : PyData} {ds : List (PyData × PyData)} {as bs : List Addr} : RD K H v d as → RDk K H vs ds bs → RDk K H ((k, v) :: vs) ((kD k, d) :: ds) (as ++ bs)
end

/-! ## values at an address: F tells which changeable things may be only read, m where the shared ones lie; the last list: what is owned -/
mutual
inductive Rp (K : PySem.W.Frag) (H : Hp) (m : List Addr) (F : Addr → Prop) : V → LV → List Addr → Prop
  | imm {v : V} {d : PyData} {as : List Addr} : RD K H v d as → (∀ a ∈ as, F a) → Rp K H m F v (.imm d) []
  | lent {v : V} {d : PyData} {as : List Addr} : RD K H v d as → Rp K H m F v (.lent d) []
  | lst {a : Addr} {vs : List V} {xs : List LV} {O : List Addr} : H a = some (.lst vs) → Rps K H m F vs xs O → Rp K H m F (.ref a) (.lst xs) (a :: O)
  | dic {a : Addr} {vs : List (Key × V)} {xs : List (Key × LV)} {O : List Addr} : H a = some (.dK vs) → Rpk K H m F vs xs O → Rp K H m F (.ref a) (.dic xs) (a :: O)
  | tup {a : Addr} {vs : List V} {xs : List LV} {O : List Addr} : SqT K H a vs → Rps K H m F vs xs O → Rp K H m F (.ref a) (.tup xs) O
  | ref {a : Addr} {l : Nat} : m[l]? = some a → Rp K H m F (.ref a) (.ref l) []
inductive Rps (K : PySem.W.Frag) (H : Hp) (m : List Addr) (F : Addr → Prop) : List V → List LV → List Addr → Prop
  | nil : Rps K H m F [] [] []
  | cons {v : V} {vs : List V} {x : LV} {xs : List LV} {O P : List Addr} : Rp K H m F v x O → Rps K H m F vs xs P → Rps K H m F (v :: vs) (x :: xs) (O ++ P)
inductive Rpk (K : PySem.W.Frag) (H : Hp) (m : List Addr) (F : Addr → Prop) : List (Key × V) → List (Key × LV) → List Addr → Prop
  | nil : Rpk K H m F [] [] []
  | cons {k : Key} {v : V} {vs : List (Key × V)} {x : LV} {xs : List (Key × LV)} {O P : List Addr} : Rp K H m F v x O → Rpk K H m F vs xs P → Rpk K H m F ((k, v) :: vs) ((k, x) :: xs) (O ++ P)
end

/-! ## what stays -/
/-- all that stood stays, but at W -/
def Pres (W : List Addr) (H H' : Hp) : Prop := ∀ b o, H b = some o → b ∉ W → H' b = some o
/-- only lists and dicts stand at W -/
def WM (W : List Addr) (H : Hp) : Prop := ∀ b ∈ W, (∃ xs, H b = some (.lst xs)) ∨ ∃ xs, H b = some (.dK xs)

theorem Pres.refl {W : List Addr} {H : Hp} : Pres W H H := fun _ _ e _ => e
theorem Pres.trans {W W' : List Addr} {H H1 H2 : Hp} (a : Pres W H H1) (b : Pres W' H1 H2) (h : ∀ x ∈ W', x ∈ W ∨ H x = none) : Pres W H H2 := fun x o e n =>
  b x o (a x o e n) fun z => (h x z).elim n fun q => by rw [e] at q; cases q
theorem Pres.mono {W W' : List Addr} {H H1 : Hp} (a : Pres W H H1) (h : ∀ x ∈ W, x ∈ W') : Pres W' H H1 := fun x o e n => a x o e fun z => n (h x z)
theorem Pres.dom {H H' : Hp} (p : Pres [] H H') : ∀ a, H a ≠ none → H' a ≠ none := fun a n z => by
  cases e : H a with
  | none => exact n e
  | some o => rw [p a o e fun z => nomatch z] at z; cases z
theorem Pres.new {H : Hp} {p : Addr} {o : HO} (h : H p = none) : Pres [] H (upd H p o) := fun b u e _ => by
  rw [upd_ne (ne_of_none e h)]; exact e
theorem Pres.upd {H : Hp} {p : Addr} {o : HO} : Pres [p] H (upd H p o) := fun b u e n => by
  rw [upd_ne fun z => n (by rw [z]; exact List.mem_cons_self)]; exact e

section
variable {K : PySem.W.Frag} {H H' : Hp} {W : List Addr}
theorem Rd.pres {a : Addr} {u : HO} (p : Pres W H H') (n : a ∉ W) (h : Rd H a u) : Rd H' a u := by
  rcases h with h | ⟨o, h⟩
  · exact .inl (p a _ h n)
  · exact .inr ⟨o, p a _ h n⟩
theorem notW_tup {a : Addr} {xs : List V} (wm : WM W H) (h : Rd H a (.tup xs)) : a ∉ W := fun z => by
  rcases wm a z with ⟨ys, e⟩ | ⟨ys, e⟩ <;> rcases h with h | ⟨o, h⟩ <;> rw [e] at h <;> cases h
theorem SqT.pres {a : Addr} {xs : List V} (p : Pres W H H') (wm : WM W H) (h : SqT K H a xs) : SqT K H' a xs := by
  rcases h with h | h
  · exact .inl (Rd.pres p (notW_tup wm h) h)
  · exact .inr h

theorem SqS.pres {a : Addr} {xs : List V} (p : Pres W H H') (wm : WM W H) (h : SqS K H a xs) : SqS K H' a xs := by
  rcases h with ⟨o, h⟩ | h
  · exact .inl ⟨o, p a _ h fun z => by rcases wm a z with ⟨ys, e⟩ | ⟨ys, e⟩ <;> rw [e] at h <;> cases h⟩
  · exact .inr h
mutual
theorem RD.pres (p : Pres W H H') (wm : WM W H) : ∀ {d : PyData} {v : V} {as : List Addr}, RD K H v d as → (∀ a ∈ as, a ∉ W) → RD K H' v d as
  | .none, _, _, .non, _ => .non
  | .bool _, _, _, .bl b, _ => .bl b
  | .int _, _, _, .int i, _ => .int i
  | .str _, _, _, .str x, _ => .str x
  | .list ds, _, _, .lst h r, n => .lst (p _ _ h (n _ List.mem_cons_self)) (RDs.pres p wm r fun a z => n a (List.mem_cons_of_mem _ z))
  | .dict _, _, _, .scr h r, n => .scr (SqS.pres p wm h) (RDs.pres p wm r n)
  | .tuple ds, _, _, .tup h r, n => .tup (SqT.pres p wm h) (RDs.pres p wm r n)
  | .dict ds, _, _, .dic h r, n => .dic (p _ _ h (n _ List.mem_cons_self)) (RDk.pres p wm r fun a z => n a (List.mem_cons_of_mem _ z))
theorem RDs.pres (p : Pres W H H') (wm : WM W H) : ∀ {ds : List PyData} {vs : List V} {as : List Addr}, RDs K H vs ds as → (∀ a ∈ as, a ∉ W) → RDs K H' vs ds as
  | [], _, _, .nil, _ => .nil
  | _ :: _, _, _, .cons r t, n => .cons (RD.pres p wm r fun a z => n a (List.mem_append_left _ z)) (RDs.pres p wm t fun a z => n a (List.mem_append_right _ z))
theorem RDk.pres (p : Pres W H H') (wm : WM W H) : ∀ {ds : List (PyData × PyData)} {vs : List (Key × V)} {as : List Addr}, RDk K H vs ds as → (∀ a ∈ as, a ∉ W) → RDk K H' vs ds as
  | [], _, _, .nil, _ => .nil
  | _ :: _, _, _, .cons r t, n => .cons (RD.pres p wm r fun a z => n a (List.mem_append_left _ z)) (RDk.pres p wm t fun a z => n a (List.mem_append_right _ z))
end


mutual
theorem RD.dom : ∀ {d : PyData} {v : V} {as : List Addr}, RD K H v d as → ∀ a ∈ as, H a ≠ none
  | .none, _, _, .non, _, z => by cases z
  | .bool _, _, _, .bl b, _, z => by cases z
  | .int _, _, _, .int i, _, z => by cases z
  | .str _, _, _, .str x, _, z => by cases z
  | .list ds, _, _, .lst h r, a, z => by
    rcases List.mem_cons.mp z with e | z
    · subst e; rw [h]; exact fun q => nomatch q
    · exact RDs.dom r a z
  | .dict _, _, _, .scr h r, a, z => RDs.dom r a z
  | .tuple ds, _, _, .tup h r, a, z => RDs.dom r a z
  | .dict ds, _, _, .dic h r, a, z => by
    rcases List.mem_cons.mp z with e | z
    · subst e; rw [h]; exact fun q => nomatch q
    · exact RDk.dom r a z
theorem RDs.dom : ∀ {ds : List PyData} {vs : List V} {as : List Addr}, RDs K H vs ds as → ∀ a ∈ as, H a ≠ none
  | [], _, _, .nil, _, z => by cases z
  | _ :: _, _, _, .cons r t, a, z => (List.mem_append.mp z).elim (RD.dom r a) (RDs.dom t a)
theorem RDk.dom : ∀ {ds : List (PyData × PyData)} {vs : List (Key × V)} {as : List Addr}, RDk K H vs ds as → ∀ a ∈ as, H a ≠ none
  | [], _, _, .nil, _, z => by cases z
  | _ :: _, _, _, .cons r t, a, z => (List.mem_append.mp z).elim (RD.dom r a) (RDk.dom t a)
end


mutual
theorem RD.im : ∀ {d : PyData} {v : V} {as : List Addr}, RD K H v d as → MP.im d = true → as = []
  | .none, _, _, .non, _ => rfl
  | .bool _, _, _, .bl b, _ => rfl
  | .int _, _, _, .int i, _ => rfl
  | .str _, _, _, .str x, _ => rfl
  | .list ds, _, _, .lst h r, z => by simp [MP.im] at z
  | .tuple ds, _, _, .tup h r, z => RDs.im r (by simpa [MP.im] using z)
  | .dict ds, _, _, .dic h r, z => by simp [MP.im] at z
  | .dict _, _, _, .scr h r, z => by simp [MP.im] at z
theorem RDs.im : ∀ {ds : List PyData} {vs : List V} {as : List Addr}, RDs K H vs ds as → ims ds = true → as = []
  | [], _, _, .nil, _ => rfl
  | _ :: _, _, _, .cons r t, z => by
    simp [ims] at z
    rw [RD.im r z.1, RDs.im t z.2]; rfl
end

/-! ## owned values -/
variable {m m' : List Addr} {F F' : Addr → Prop}
mutual
theorem Rp.own : ∀ {x : LV} {v : V} {O : List Addr}, Rp K H m F v x O → ∀ a ∈ O, (∃ xs, H a = some (.lst xs)) ∨ ∃ xs, H a = some (.dK xs)
  | .imm _, _, _, .imm _ _, a, z => by cases z
  | .lent _, _, _, .lent _, a, z => by cases z
  | .ref _, _, _, .ref _, a, z => by cases z
  | .lst _, _, _, .lst h r, a, z => by
    rcases List.mem_cons.mp z with e | z
    · subst e; exact .inl ⟨_, h⟩
    · exact Rps.own r a z
  | .dic _, _, _, .dic h r, a, z => by
    rcases List.mem_cons.mp z with e | z
    · subst e; exact .inr ⟨_, h⟩
    · exact Rpk.own r a z
  | .tup _, _, _, .tup h r, a, z => Rps.own r a z
theorem Rps.own : ∀ {x : List LV} {v : List V} {O : List Addr}, Rps K H m F v x O → ∀ a ∈ O, (∃ xs, H a = some (.lst xs)) ∨ ∃ xs, H a = some (.dK xs)
  | [], _, _, .nil, a, z => by cases z
  | _ :: _, _, _, .cons r t, a, z => (List.mem_append.mp z).elim (Rp.own r a) (Rps.own t a)
theorem Rpk.own : ∀ {x : List (Key × LV)} {v : List (Key × V)} {O : List Addr}, Rpk K H m F v x O → ∀ a ∈ O, (∃ xs, H a = some (.lst xs)) ∨ ∃ xs, H a = some (.dK xs)
  | [], _, _, .nil, a, z => by cases z
  | _ :: _, _, _, .cons r t, a, z => (List.mem_append.mp z).elim (Rp.own r a) (Rpk.own t a)
end

/-! no lent part -/
mutual
def LV.nl : LV → Bool
  | .imm _ => true
  | .lst xs => LV.nls xs
  | .dic xs => LV.nlk xs
  | .tup xs => LV.nls xs
  | .ref _ => true
  | .lent _ => false
def LV.nls : List LV → Bool
  | [] => true
  | x :: xs => x.nl && LV.nls xs
def LV.nlk : List (Key × LV) → Bool
  | [] => true
  | (_, x) :: xs => x.nl && LV.nlk xs
end


mutual
theorem Rp.pres (p : Pres W H H') (wm : WM W H) (hm : ∀ (l : Nat) (a : Addr), m[l]? = some a → m'[l]? = some a) (hF : ∀ a, F a → H a ≠ none → F' a) (hW : ∀ a, F a → H a ≠ none → a ∉ W) :
    ∀ {x : LV} {v : V} {O : List Addr}, Rp K H m F v x O → (∀ a ∈ O, a ∉ W) → (W = [] ∨ x.nl = true) → Rp K H' m' F' v x O
  | .imm _, _, _, .imm r f, _, _ => .imm (RD.pres p wm r fun a z => hW a (f a z) (RD.dom r a z)) fun a z => hF a (f a z) (RD.dom r a z)
  | .lent _, _, _, .lent r, _, c => .lent (RD.pres p wm r fun a _ => by
      rcases c with c | c
      · rw [c]; exact List.not_mem_nil
      · simp [LV.nl] at c)
  | .ref _, _, _, .ref e, _, _ => .ref (hm _ _ e)
  | .lst _, _, _, .lst h r, n, c => .lst (p _ _ h (n _ List.mem_cons_self)) (Rps.pres p wm hm hF hW r (fun a z => n a (List.mem_cons_of_mem _ z)) (by simpa [LV.nl] using c))
  | .dic _, _, _, .dic h r, n, c => .dic (p _ _ h (n _ List.mem_cons_self)) (Rpk.pres p wm hm hF hW r (fun a z => n a (List.mem_cons_of_mem _ z)) (by simpa [LV.nl] using c))
  | .tup _, _, _, .tup h r, n, c => .tup (SqT.pres p wm h) (Rps.pres p wm hm hF hW r n (by simpa [LV.nl] using c))
theorem Rps.pres (p : Pres W H H') (wm : WM W H) (hm : ∀ (l : Nat) (a : Addr), m[l]? = some a → m'[l]? = some a) (hF : ∀ a, F a → H a ≠ none → F' a) (hW : ∀ a, F a → H a ≠ none → a ∉ W) :
    ∀ {x : List LV} {v : List V} {O : List Addr}, Rps K H m F v x O → (∀ a ∈ O, a ∉ W) → (W = [] ∨ LV.nls x = true) → Rps K H' m' F' v x O
  | [], _, _, .nil, _, _ => .nil
  | _ :: _, _, _, .cons r t, n, c => .cons (Rp.pres p wm hm hF hW r (fun a z => n a (List.mem_append_left _ z)) (c.imp id fun c => by simp [LV.nls] at c; exact c.1))
      (Rps.pres p wm hm hF hW t (fun a z => n a (List.mem_append_right _ z)) (c.imp id fun c => by simp [LV.nls] at c; exact c.2))
theorem Rpk.pres (p : Pres W H H') (wm : WM W H) (hm : ∀ (l : Nat) (a : Addr), m[l]? = some a → m'[l]? = some a) (hF : ∀ a, F a → H a ≠ none → F' a) (hW : ∀ a, F a → H a ≠ none → a ∉ W) :
    ∀ {x : List (Key × LV)} {v : List (Key × V)} {O : List Addr}, Rpk K H m F v x O → (∀ a ∈ O, a ∉ W) → (W = [] ∨ LV.nlk x = true) → Rpk K H' m' F' v x O
  | [], _, _, .nil, _, _ => .nil
  | _ :: _, _, _, .cons r t, n, c => .cons (Rp.pres p wm hm hF hW r (fun a z => n a (List.mem_append_left _ z)) (c.imp id fun c => by simp [LV.nlk] at c; exact c.1))
      (Rpk.pres p wm hm hF hW t (fun a z => n a (List.mem_append_right _ z)) (c.imp id fun c => by simp [LV.nlk] at c; exact c.2))
end
end

/-! ## the data that a value holds -/
mutual
def LV.dat0 : LV → Option PyData
  | .imm d => some d
  | .lent d => some d
  | .lst xs => (LV.dats0 xs).map PyData.list
  | .tup xs => (LV.dats0 xs).map PyData.tuple
  | .dic xs => (LV.datk0 xs).map PyData.dict
  | .ref _ => none
def LV.dats0 : List LV → Option (List PyData)
  | [] => some []
  | x :: xs => match x.dat0, LV.dats0 xs with
    | some d, some ds => some (d :: ds)
    | _, _ => none
def LV.datk0 : List (Key × LV) → Option (List (PyData × PyData))
  | [] => some []
  | (k, x) :: xs => match x.dat0, LV.datk0 xs with
    | some d, some ds => some ((kD k, d) :: ds)
    | _, _ => none
end
/-- shared things are looked up (one deep) -/
def LV.dat (ob : List LV) : LV → Option PyData
  | .ref l => match ob[l]? with
    | some x => x.dat0
    | none => none
  | x => x.dat0

section
variable {K : PySem.W.Frag} {H : Hp} {m : List Addr} {F : Addr → Prop}
mutual
theorem Rp.rd0 : ∀ {x : LV} {v : V} {O : List Addr} {d : PyData}, Rp K H m F v x O → x.dat0 = some d → ∃ as, RD K H v d as ∧ ∀ a ∈ as, F a ∨ a ∈ O ∨ x.nl = false
  | .imm _, _, _, _, .imm r f, e => by cases e; exact ⟨_, r, fun a z => .inl (f a z)⟩
  | .lent _, _, _, _, .lent r, e => by cases e; exact ⟨_, r, fun a z => .inr (.inr rfl)⟩
  | .ref _, _, _, _, .ref _, e => by simp [LV.dat0] at e
  | .lst _, _, _, _, .lst h r, e => by
    obtain ⟨ds, e1, e2⟩ := Option.map_eq_some_iff.mp e
    obtain ⟨as, q, f⟩ := Rps.rd0 r e1
    subst e2
    refine ⟨_, .lst h q, fun a z => ?_⟩
    rcases List.mem_cons.mp z with z | z
    · exact .inr (.inl (z ▸ List.mem_cons_self))
    · exact (f a z).imp id fun w => w.imp (List.mem_cons_of_mem _) id
  | .dic _, _, _, _, .dic h r, e => by
    obtain ⟨ds, e1, e2⟩ := Option.map_eq_some_iff.mp e
    obtain ⟨as, q, f⟩ := Rpk.rd0 r e1
    subst e2
    refine ⟨_, .dic h q, fun a z => ?_⟩
    rcases List.mem_cons.mp z with z | z
    · exact .inr (.inl (z ▸ List.mem_cons_self))
    · exact (f a z).imp id fun w => w.imp (List.mem_cons_of_mem _) id
  | .tup _, _, _, _, .tup h r, e => by
    obtain ⟨ds, e1, e2⟩ := Option.map_eq_some_iff.mp e
    obtain ⟨as, q, f⟩ := Rps.rd0 r e1
    subst e2
    exact ⟨_, .tup h q, f⟩
theorem Rps.rd0 : ∀ {x : List LV} {v : List V} {O : List Addr} {d : List PyData}, Rps K H m F v x O → LV.dats0 x = some d → ∃ as, RDs K H v d as ∧ ∀ a ∈ as, F a ∨ a ∈ O ∨ LV.nls x = false
  | [], _, _, _, .nil, e => by cases e; exact ⟨_, .nil, fun a z => by cases z⟩
  | x :: xs, _, _, _, .cons r t, e => by
    unfold LV.dats0 at e
    split at e
    · rename_i d ds e1 e2
      cases e
      obtain ⟨as, q, f⟩ := Rp.rd0 r e1
      obtain ⟨bs, q', f'⟩ := Rps.rd0 t e2
      refine ⟨_, .cons q q', fun a z => ?_⟩
      rcases List.mem_append.mp z with z | z
      · refine (f a z).imp id fun w => w.imp (List.mem_append_left _) fun w => ?_
        simp [LV.nls, w]
      · refine (f' a z).imp id fun w => w.imp (List.mem_append_right _) fun w => ?_
        simp [LV.nls, w]
    · cases e
theorem Rpk.rd0 : ∀ {x : List (Key × LV)} {v : List (Key × V)} {O : List Addr} {d : List (PyData × PyData)}, Rpk K H m F v x O → LV.datk0 x = some d → ∃ as, RDk K H v d as ∧ ∀ a ∈ as, F a ∨ a ∈ O ∨ LV.nlk x = false
  | [], _, _, _, .nil, e => by cases e; exact ⟨_, .nil, fun a z => by cases z⟩
  | (k, x) :: xs, _, _, _, .cons r t, e => by
    unfold LV.datk0 at e
    split at e
    · rename_i d ds e1 e2
      cases e
      obtain ⟨as, q, f⟩ := Rp.rd0 r e1
      obtain ⟨bs, q', f'⟩ := Rpk.rd0 t e2
      refine ⟨_, .cons q q', fun a z => ?_⟩
      rcases List.mem_append.mp z with z | z
      · refine (f a z).imp id fun w => w.imp (List.mem_append_left _) fun w => ?_
        simp [LV.nlk, w]
      · refine (f' a z).imp id fun w => w.imp (List.mem_append_right _) fun w => ?_
        simp [LV.nlk, w]
    · cases e
end
end

/-! ## the state of a body -/
structure LS where
  sl : List (Option LV)
  ob : List LV

inductive RpS (K : PySem.W.Frag) (H : Hp) (m : List Addr) (F : Addr → Prop) : L2.St → List (Option LV) → List Addr → Prop
  | nil : RpS K H m F [] [] []
  | no {v : Option V} {vs : L2.St} {xs : List (Option LV)} {O : List Addr} : RpS K H m F vs xs O → RpS K H m F (v :: vs) (none :: xs) O
  | so {v : V} {vs : L2.St} {x : LV} {xs : List (Option LV)} {O P : List Addr} : Rp K H m F v x O → RpS K H m F vs xs P → RpS K H m F (some v :: vs) (some x :: xs) (O ++ P)

/-- what may be read and stays: not among O, not reserved -/
def Fz (R : Addr → Prop) (O : List Addr) : Addr → Prop := fun a => a ∉ O ∧ ¬ R a
/-- more is reserved -/
def Rv (R : Addr → Prop) (O : List Addr) : Addr → Prop := fun a => R a ∨ a ∈ O

structure LI (K : PySem.W.Frag) (H : Hp) (R : Addr → Prop) (vs : L2.St) (s : LS) (m : List Addr) (O1 O2 : List Addr) : Prop where
  sl : RpS K H m (Fz R (O1 ++ O2)) vs s.sl O1
  ob : Rps K H m (Fz R (O1 ++ O2)) (m.map V.ref) s.ob O2
  nd : (O1 ++ O2).Nodup
  nr : ∀ a ∈ O1 ++ O2, ¬ R a
  rs : ∀ a, R a → H a ≠ none

section
variable {K : PySem.W.Frag} {H H' : Hp} {m m' : List Addr} {F F' : Addr → Prop} {W : List Addr}
theorem RpS.own {x : List (Option LV)} {v : L2.St} {O : List Addr} (r : RpS K H m F v x O) : ∀ a ∈ O, (∃ xs, H a = some (.lst xs)) ∨ ∃ xs, H a = some (.dK xs) := by
  induction r with
  | nil => exact fun a z => nomatch z
  | no _ ih => exact ih
  | so h _ ih => exact fun a z => (List.mem_append.mp z).elim (h.own a) (ih a)
theorem RpS.length {x : List (Option LV)} {v : L2.St} {O : List Addr} (r : RpS K H m F v x O) : v.length = x.length := by
  induction r with
  | nil => rfl
  | no _ ih => simp [ih]
  | so _ _ ih => simp [ih]
/-- slots hold nothing lent -/
def nlS : List (Option LV) → Bool
  | [] => true
  | none :: xs => nlS xs
  | some x :: xs => x.nl && nlS xs
theorem RpS.pres (p : Pres W H H') (wm : WM W H) (hm : ∀ (l : Nat) (a : Addr), m[l]? = some a → m'[l]? = some a) (hF : ∀ a, F a → H a ≠ none → F' a) (hW : ∀ a, F a → H a ≠ none → a ∉ W)
    {x : List (Option LV)} {v : L2.St} {O : List Addr} (r : RpS K H m F v x O) : (∀ a ∈ O, a ∉ W) → (W = [] ∨ nlS x = true) → RpS K H' m' F' v x O := by
  induction r with
  | nil => exact fun _ _ => .nil
  | no _ ih => exact fun n c => .no (ih n (by simpa [nlS] using c))
  | so h _ ih =>
    intro n c
    refine .so (h.pres p wm hm hF hW (fun a z => n a (List.mem_append_left _ z)) ?_) (ih (fun a z => n a (List.mem_append_right _ z)) ?_)
    · exact c.imp id fun c => by
        simp [nlS] at c
        exact c.1
    · exact c.imp id fun c => by
        simp [nlS] at c
        exact c.2
theorem RpS.get {x : List (Option LV)} {v : L2.St} {O : List Addr} (r : RpS K H m F v x O) : ∀ {i : Nat} {y : LV}, x[i]? = some (some y) → ∃ u P, v[i]? = some (some u) ∧ Rp K H m F u y P ∧ ∀ a ∈ P, a ∈ O := by
  induction r with
  | nil => intro i y e; simp at e
  | no _ ih =>
    intro i y e
    cases i with
    | zero => simp at e
    | succ i => simpa using ih (i := i) (y := y) (by simpa using e)
  | so h _ ih =>
    intro i y e
    cases i with
    | zero =>
      cases Option.some.inj (Option.some.inj e)
      exact ⟨_, _, rfl, h, fun a z => List.mem_append_left _ z⟩
    | succ i =>
      obtain ⟨u, P, h1, h2, h3⟩ := ih (i := i) (y := y) (by simpa using e)
      exact ⟨u, P, by simpa using h1, h2, fun a z => List.mem_append_right _ (h3 a z)⟩
end
end MP
/-! MP.2: a small Python over data, evaluated -/
namespace MP
open PySem PySem.Spec PyProof.Rows L2

/-- a target: a name's slot, a tuple of targets -/
inductive Tg where
  | nm (i : Nat) | nil | cons (a b : Tg) | tp (l : Tg)

inductive BI where
  | len | int | tuple | list | sorted | sum | abs | all | repr | min | max | isInt | isBool | isTuple | isStr | str
  deriving DecidableEq
inductive MT where
  | index | count | join
  deriving DecidableEq
inductive MO where
  | append | extend | insert | remove | pop
  deriving DecidableEq

/-- expressions (also lists of them, and what is walked) -/
inductive ME where
  | nil | cons (a b : ME)
  | c (d : PyData) | g (x : Str) (d : PyData) | v (i : Nat) | io (i : Nat)
  | tup (as : ME) | lst (as : ME) | star (a : ME)
  | dk (ks : List Str) (as : ME)
  | bin (op : Operator) (a b : ME) | neg (a : ME)
  | cmp (op : CmpOp) (a b : ME) | chain (o1 o2 : CmpOp) (a b c : ME)
  | and (a b : ME) | or (a b : ME) | not (a : ME) | ite (c a b : ME)
  | ix (a b : ME) | sl (a lo hi : ME) | no
  | call (f : Nat) (as : ME)
  | callk (f : Nat) (ns : List Str) (as : ME)
  | bi (x : BI) (as : ME)
  | mt (x : MT) (o as : ME)
  | mut (op : MO) (i : Nat) (path as : ME)
  | rd (i : Nat) (path : ME)
  | frz (a : ME)
  | lc (own : List Nat) (elt : ME) (tg : Tg) (it cond : ME)
  | lc2 (own own2 : List Nat) (elt : ME) (tg : Tg) (it cond : ME) (tg2 : Tg) (it2 cond2 : ME)
  | rng (as : ME) | enum (a : ME) | zip (a b : ME) | items (a : ME) | comb (a : ME)

inductive MS where
  | nil | cons (s r : MS)
  | asg (t : Tg) (e : ME)
  | par (is : List Nat) (as : ME)
  | setix (i : Nat) (path k e : ME)
  | ife (c : ME) (a b : MS)
  | for (tg : Tg) (it : ME) (body : MS)
  | whl (c : ME) (body : MS)
  | ret (e : ME) | retN | ex (e : ME) | brk | cnt | pass
  | freeze (i : Nat) | share (i : Nat) (k : Key)

/-! ## results -/
inductive Res (α : Type) where
  | ok (a : α) | exc (c : Nat) (ps : List PyData) (s : LS) | stuck
def Res.bind {α β : Type} (r : Res α) (f : α → Res β) : Res β := match r with
  | .ok a => f a
  | .exc c ps s => .exc c ps s
  | .stuck => .stuck
/-- what a statement leads to -/
inductive SR where
  | nxt (s : LS) | ret (x : LV) (s : LS) | brk (s : LS) | cnt (s : LS) | exc (c : Nat) (ps : List PyData) (s : LS) | stuck
/-- what a call leads to: the value, and what the changeable arguments have become -/
inductive CRes where
  | ok (x : LV) (outs : List LV) | exc (c : Nat) (ps : List PyData) (outs : List LV) | stuck

/-! ## operations on data -/
/-- data; a new list of data -/
inductive RK where
  | dat (d : PyData) | nl (ds : List PyData)
def mkLent (d : PyData) : LV := if im d then .imm d else .lent d
def mkImm (len : Bool) (d : PyData) : LV := if len then mkLent d else .imm d
def RK.lv (len : Bool) : RK → LV
  | .dat d => mkImm len d
  | .nl ds => .lst (ds.map (mkImm len))
/-- what is made of parts of it may lie in an own thing -/
def LV.lh : LV → Bool
  | .ref _ => true
  | x => !x.nl

def okD (d : PyData) : Bool := d.plain && decide (d.depth ≤ 40)
def cutD {α : Type} (xs : List α) (lo hi : Option Int) : List α := (xs.drop (HT.sIx xs.length 0 lo)).take (HT.sIx xs.length xs.length hi - HT.sIx xs.length 0 lo)
def mulOk (i j : Int) : Bool := decide (i.natAbs.log2 + j.natAbs.log2 < 100000000)

def bopD : Operator → PyData → PyData → Option RK
  | .Add, .int i, .int j => some (.dat (.int (i + j)))
  | .Add, .list xs, .list ys => if xs.length + ys.length ≤ sizeLine then some (.nl (xs ++ ys)) else none
  | .Add, .tuple xs, .tuple ys => if xs.length + ys.length ≤ sizeLine then some (.dat (.tuple (xs ++ ys))) else none
  | .Add, .str x, .str y => if x.length + y.length ≤ sizeLine then some (.dat (.str (x ++ y))) else none
  | .Sub, .int i, .int j => some (.dat (.int (i - j)))
  | .Mult, .int i, .int j => if mulOk i j then some (.dat (.int (i * j))) else none
  | .Mult, .list xs, .int k => if decide (-(2 ^ 63) ≤ k ∧ k < 2 ^ 63 ∧ xs.length * k.toNat ≤ sizeLine) then some (.nl (List.replicate k.toNat xs).flatten) else none
  | .FloorDiv, .int i, .int j => if decide (0 < j ∧ j.natAbs.log2 < 9000) then some (.dat (.int (i / j))) else none
  | .Mod, .int i, .int j => if decide (0 < j) then some (.dat (.int (i % j))) else none
  | .Pow, .int i, .int j => if decide (0 ≤ j ∧ j ≤ 1000000 ∧ i.natAbs < 2 ^ 64) then some (.dat (.int (i ^ j.toNat))) else none
  | _, _, _ => none
def keyOf : PyData → Option Key
  | .int i => some (.inl i)
  | .str x => some (.inr x)
  | _ => none
/-- what a dict holds at a key -/
def lookD : List (PyData × PyData) → Key → Option PyData
  | [], _ => none
  | (.int i, v) :: r, .inl j => if i = j then some v else lookD r (.inl j)
  | (.str x, v) :: r, .inr y => if x = y then some v else lookD r (.inr y)
  | _ :: r, k => lookD r k
def inD (d : PyData) : PyData → Option Bool
  | .list xs => if okD d && okD (.list xs) then some (xs.any fun y => PyData.eqv y d) else none
  | .tuple xs => if okD d && okD (.tuple xs) then some (xs.any fun y => PyData.eqv y d) else none
  | .dict kvs => if sck kvs then (keyOf d).map fun k => (lookD kvs k).isSome else none
  | _ => none
def nnD : PyData → Bool
  | .none => false
  | _ => true
def ltD (d e : PyData) (r : Bool) : Option Bool := if PySem.W.alike d e && okD d && okD e && nnD d then some r else none
def cmpD : CmpOp → PyData → PyData → Option Bool
  | .Eq, d, e => if okD d && okD e then some (PyData.eqv d e) else none
  | .NotEq, d, e => if okD d && okD e then some (!PyData.eqv d e) else none
  | .Lt, d, e => ltD d e (PySem.W.dataLt d e)
  | .LtE, d, e => ltD d e (!PySem.W.dataLt e d)
  | .Gt, d, e => ltD d e (PySem.W.dataLt e d)
  | .GtE, d, e => ltD d e (!PySem.W.dataLt d e)
  | .Is, d, .none => some (match d with | .none => true | _ => false)
  | .IsNot, d, .none => some (match d with | .none => false | _ => true)
  | .In, d, e => inD d e
  | .NotIn, d, e => (inD d e).map (!·)
  | _, _, _ => none
def ixD : PyData → PyData → Option PyData
  | .list xs, .int i => atI xs i
  | .tuple xs, .int i => atI xs i
  | .str z, .int i => if z.length ≤ sizeLine then (atI z.cps.toList i).map fun c => .str ⟨#[c]⟩ else none
  | .dict kvs, d => match keyOf d with
    | some k => lookD kvs k
    | none => none
  | _, _ => none
def ixK (d e : PyData) : Option RK := (ixD d e).map .dat
def cmpK (op : CmpOp) (d e : PyData) : Option RK := (cmpD op d e).map fun b => .dat (.bool b)
def optI : Option PyData → Option (Option Int)
  | none => some none
  | some (.int i) => some (some i)
  | _ => none
def slD (d : PyData) (lo hi : Option Int) : Option RK := match d with
  | .list xs => some (.nl (cutD xs lo hi))
  | .tuple xs => some (.dat (.tuple (cutD xs lo hi)))
  | .dict [(.none, .list xs)] => some (.nl (cutD xs lo hi))
  | _ => none
def asInts : List PyData → Option (List Int)
  | [] => some []
  | .int i :: r => (asInts r).map (i :: ·)
  | _ :: _ => none
def asBools : List PyData → Option (List Bool)
  | [] => some []
  | .bool i :: r => (asBools r).map (i :: ·)
  | _ :: _ => none
def asStrs : List PyData → Option (List Str)
  | [] => some []
  | .str i :: r => (asStrs r).map (i :: ·)
  | _ :: _ => none
def alikeTo (d : PyData) (ds : List PyData) : Bool := ds.all fun e => PySem.W.alike d e
/-- items that can be sorted -/
def neTup : PyData → Bool
  | .tuple (_ :: _) => true
  | _ => false
def noTup : PyData → Bool
  | .tuple _ => false
  | .none => false
  | _ => true
def sortable (ds : List PyData) : Bool := ds.all okD && (ds.all fun d => ds.all fun e => PySem.W.alike d e) && (ds.all neTup || ds.all noTup)
def sortD (ds : List PyData) : List PyData := ds.mergeSort (PySem.W.dataLe false id)
def itemsD : PyData → Option (List PyData)
  | .list xs => some xs
  | .tuple xs => some xs
  | _ => none
def biD : BI → List PyData → Option RK
  | .len, [.list xs] => some (.dat (.int xs.length))
  | .len, [.tuple xs] => some (.dat (.int xs.length))
  | .len, [.str x] => if x.length ≤ sizeLine then some (.dat (.int x.length)) else none
  | .len, [.dict [(.none, .list xs)]] => some (.dat (.int xs.length))
  | .int, [.int i] => some (.dat (.int i))
  | .int, [.bool b] => some (.dat (.int (if b then 1 else 0)))
  | .tuple, [.list xs] => some (.dat (.tuple xs))
  | .tuple, [.tuple xs] => some (.dat (.tuple xs))
  | .list, [.list xs] => some (.nl xs)
  | .list, [.tuple xs] => some (.nl xs)
  | .abs, [.int i] => some (.dat (.int i.natAbs))
  | .sum, [.list xs] => (asInts xs).map fun ns => .dat (.int ns.sum)
  | .all, [.list xs] => (asBools xs).map fun bs => .dat (.bool (bs.all id))
  | .sorted, [.list xs] => if sortable xs && decide (xs.length ≤ sizeLine) then some (.nl (sortD xs)) else none
  | .repr, [d] => if d.showable && decide (d.depth ≤ 40) && decide (d.shown.length ≤ sizeLine) && d.plain then some (.dat (.str d.shown)) else none
  | _, _ => none
def mtD : MT → PyData → List PyData → Option RK
  | _, _, _ => none

/-! ## parts of values -/
def LV.parts : LV → Option (List LV)
  | .imm (.tuple ds) => some (ds.map LV.imm)
  | .lent (.tuple ds) => some (ds.map mkLent)
  | .tup xs => some xs
  | _ => none
mutual
def bindT : Tg → LV → List (Option LV) → Option (List (Option LV))
  | .nm i, x, sl => if i < sl.length then some (sl.set i (some x)) else none
  | .tp l, x, sl => match x.parts with
    | some xs => bindL l xs sl
    | none => none
  | _, _, _ => none
def bindL : Tg → List LV → List (Option LV) → Option (List (Option LV))
  | .nil, [], sl => some sl
  | .cons a b, x :: xs, sl => match bindT a x sl with
    | some sl' => bindL b xs sl'
    | none => none
  | _, _, _ => none
end
def wipeL (sl : List (Option LV)) : List Nat → List (Option LV)
  | [] => sl
  | i :: is => (wipeL sl is).set i none
/-- behind a comprehension its own names stand as ahead -/
def backL (old sl : List (Option LV)) : List Nat → List (Option LV)
  | [] => sl
  | i :: is => (backL old sl is).set i ((old[i]?).getD none)
def cleanL (sl : List (Option LV)) (own : List Nat) : Bool := own.all fun i => match sl[i]? with
  | some none => true
  | some (some (.imm _)) => true
  | _ => false

def readV (ob : List LV) : LV → Option LV
  | .imm d => some (.imm d)
  | .lent d => some (.lent d)
  | .ref l => some (.ref l)
  | x => (x.dat ob).map mkLent
/-- a display's tuple -/
def mkTup (xs : List LV) : LV := match allImm xs with
  | some ds => .imm (.tuple ds)
  | none => .tup xs
where allImm : List LV → Option (List PyData)
  | [] => some []
  | .imm d :: r => (allImm r).map (d :: ·)
  | _ :: _ => none
/-- the imm parts have nothing changeable -/
def LV.hm : LV → Bool
  | .imm d => im d
  | .lst xs => hms xs
  | .tup xs => hms xs
  | .dic ks => hmk ks
  | .ref _ => false
  | .lent _ => false
where
  hms : List LV → Bool
    | [] => true
    | x :: xs => x.hm && hms xs
  hmk : List (Key × LV) → Bool
    | [] => true
    | (_, x) :: xs => x.hm && hmk xs

/-- a walk of several turns of a comprehension -/
def compL (own : List Nat) (tg : Tg) (step : LS → Res (List LV × LS)) : List LV → LS → Res (List LV × LS)
  | [], s => .ok ([], s)
  | x :: xs, s => match bindT tg x (wipeL s.sl own) with
    | none => .stuck
    | some sl' => (step ⟨sl', s.ob⟩).bind fun p => (compL own tg step xs p.2).bind fun q => .ok (p.1 ++ q.1, q.2)
def forL (tg : Tg) (body : LS → SR) : List LV → LS → SR
  | [], s => .nxt s
  | x :: xs, s => match bindT tg x s.sl with
    | none => .stuck
    | some sl' => match body ⟨sl', s.ob⟩ with
      | .nxt s' => forL tg body xs s'
      | .cnt s' => forL tg body xs s'
      | .brk s' => .nxt s'
      | .ret x s' => .ret x s'
      | .exc c ps s' => .exc c ps s'
      | .stuck => .stuck
def whlL (c : LS → Res (Bool × LS)) (body : LS → SR) : Nat → LS → SR
  | 0, _ => .stuck
  | n + 1, s => match c s with
    | .ok (true, s1) => match body s1 with
      | .nxt s' => whlL c body n s'
      | .cnt s' => whlL c body n s'
      | .brk s' => .nxt s'
      | .ret x s' => .ret x s'
      | .exc c ps s' => .exc c ps s'
      | .stuck => .stuck
    | .ok (false, s1) => .nxt s1
    | .exc c ps s' => .exc c ps s'
    | .stuck => .stuck

/-! ## effects -/
def ME.isNil : ME → Bool
  | .nil => true
  | _ => false
def ME.isOne : ME → Bool
  | .cons _ .nil => true
  | _ => false
def eff : ME → Bool
  | .io _ => true
  | .mut _ _ _ _ => true
  | .rd _ p => eff p
  | .frz a => eff a
  | .cons a b => eff a || eff b
  | .tup a | .lst a | .star a | .neg a | .not a | .rng a | .enum a | .items a | .comb a => eff a
  | .dk _ a => eff a
  | .bin _ a b | .cmp _ a b | .and a b | .or a b | .ix a b | .zip a b => eff a || eff b
  | .chain _ _ a b c | .ite a b c | .sl a b c => eff a || eff b || eff c
  | .call _ a | .callk _ _ a | .bi _ a => eff a
  | .mt _ a b => eff a || eff b
  | .lc _ e _ i c => eff e || eff i || eff c
  | .lc2 _ _ e _ i c _ i2 c2 => eff e || eff i || eff c || eff i2 || eff c2
  | .nil | .c _ | .g _ _ | .v _ | .no => false
end MP
namespace MP
open PySem PySem.Spec PyProof.Rows L2

/-! ## paths to own things -/
def lookK {β : Type} : List (Key × β) → Key → Option β
  | [], _ => none
  | (k', v) :: r, k => if k' = k then some v else lookK r k
def setK {β : Type} : List (Key × β) → Key → β → List (Key × β)
  | [], k, v => [(k, v)]
  | (k', v') :: r, k, v => if k' = k then (k', v) :: r else (k', v') :: setK r k v
/-- a step: a place of a list, a key of a dict -/
def stepL : LV → PyData → Option LV
  | .lst xs, .int i => atI xs i
  | .dic ks, d => match keyOf d with
    | some k => lookK ks k
    | none => none
  | _, _ => none
def putL : LV → PyData → LV → Option LV
  | .lst xs, .int i, x => (ixN xs.length i).map fun j => .lst (xs.set j x)
  | .dic ks, d, x => (keyOf d).map fun k => .dic (setK ks k x)
  | _, _, _ => none
/-- the first shared thing on the path, and the rest -/
def splitP : LV → List PyData → Option (Nat × List PyData)
  | .ref l, ds => some (l, ds)
  | x, d :: ds => match stepL x d with
    | some c => splitP c ds
    | none => none
  | _, [] => none
def getP : LV → List PyData → Option LV
  | x, [] => some x
  | x, d :: ds => match stepL x d with
    | some c => getP c ds
    | none => none
def putP : LV → List PyData → LV → Option LV
  | _, [], z => some z
  | x, d :: ds, z => match stepL x d with
    | some c => match putP c ds z with
      | some c' => putL x d c'
      | none => none
    | none => none
/-- the thing at the path from slot i -/
def getF (s : LS) (i : Nat) (path : List PyData) : Option LV := match s.sl[i]? with
  | some (some x) => match splitP x path with
    | some (l, rest) => match s.ob[l]? with
      | some y => getP y rest
      | none => none
    | none => getP x path
  | _ => none
/-- the state with another one there -/
def putF (s : LS) (i : Nat) (path : List PyData) (z : LV) : Option LS := match s.sl[i]? with
  | some (some x) => match splitP x path with
    | some (l, rest) => match s.ob[l]? with
      | some y => (putP y rest z).map fun y' => ⟨s.sl, s.ob.set l y'⟩
      | none => none
    | none => (putP x path z).map fun x' => ⟨s.sl.set i (some x'), s.ob⟩
  | _ => none

def allInts : List LV → Option (List Int)
  | [] => some []
  | .imm (.int i) :: r => (allInts r).map (i :: ·)
  | _ :: _ => none
/-- a change of an own thing: what it becomes, what is handed back -/
def mutG : MO → LV → List LV → Option (LV × LV)
  | .append, .lst xs, [y] => if xs.length < sizeLine then some (.lst (xs ++ [y]), .imm .none) else none
  | .extend, .lst xs, [.lst ys] => if xs.length + ys.length ≤ sizeLine then some (.lst (xs ++ ys), .imm .none) else none
  | .extend, .lst xs, [.imm (.list ds)] => if xs.length + ds.length ≤ sizeLine then some (.lst (xs ++ ds.map .imm), .imm .none) else none
  | .insert, .lst xs, [.imm (.int i), y] => if decide (xs.length < sizeLine ∧ 0 ≤ i ∧ i < 2 ^ 63) then some (.lst (xs.take i.toNat ++ [y] ++ xs.drop i.toNat), .imm .none) else none
  | .remove, .lst xs, [.imm (.int k)] => match allInts xs with
    | some ns => if k ∈ ns then some (.lst ((ns.erase k).map fun n => .imm (.int n)), .imm .none) else none
    | none => none
  | .pop, .lst xs, [] => match xs[xs.length - 1]? with
    | some y => some (.lst xs.dropLast, y)
    | none => none
  | .pop, .lst xs, [.imm (.int i)] => if decide (-(2 ^ 63) ≤ i ∧ i < 2 ^ 63) then match ixN xs.length i with
      | some j => match xs[j]? with
        | some y => some (.lst (xs.eraseIdx j), y)
        | none => none
      | none => none
    else none
  | _, _, _ => none
/-- o[d] = x -/
def putZ : LV → PyData → LV → Option LV
  | .lst xs, .int i, x => (ixN xs.length i).map fun j => .lst (xs.set j x)
  | .dic ks, d, x => match keyOf d with
    | some k => if ks.length < sizeLine ∧ (ks.filter fun p => decide (p.1 = k)).length ≤ 1 then some (.dic (setK ks k x)) else none
    | none => none
  | _, _, _ => none

/-! ## evaluation -/
def rangeD (i j : Int) : List PyData := (List.range (j - i).toNat).map fun (k : Nat) => PyData.int (i + (k : Int))
def enumD : Nat → List PyData → List PyData
  | _, [] => []
  | n, d :: ds => .tuple [.int n, d] :: enumD (n + 1) ds
def zipD : List PyData → List PyData → List PyData
  | d :: ds, e :: es => .tuple [d, e] :: zipD ds es
  | _, _ => []
def small62 (i : Int) : Bool := decide (-(2 ^ 62) ≤ i ∧ i < 2 ^ 62)
def datsOf (ob : List LV) : List LV → Option (List PyData)
  | [] => some []
  | x :: xs => match x.dat ob, datsOf ob xs with
    | some d, some ds => some (d :: ds)
    | _, _ => none
def lhs (xs : List LV) : Bool := xs.any LV.lh
def nlAll (xs : List LV) : Bool := xs.all LV.nl
/-- an argument of a call: data, or a slot handed over -/
inductive AV where
  | dat (x : LV) | slot (i : Nat)
/-- what may be handed over: own, nothing shared or lent within -/
def LV.giv : LV → Bool
  | .lst xs => givs xs
  | .dic ks => givk ks
  | _ => false
where
  giv1 : LV → Bool
    | .imm _ => true
    | .lst xs => givs xs
    | .dic ks => givk ks
    | .tup xs => givs xs
    | .ref _ => false
    | .lent _ => false
  givs : List LV → Bool
    | [] => true
    | x :: xs => giv1 x && givs xs
  givk : List (Key × LV) → Bool
    | [] => true
    | (_, x) :: xs => giv1 x && givk xs
def slotsOf : List AV → List Nat
  | [] => []
  | .slot i :: r => i :: slotsOf r
  | .dat _ :: r => slotsOf r
def dataOf : List AV → List LV
  | [] => []
  | .slot _ :: r => dataOf r
  | .dat x :: r => x :: dataOf r
def argsOf (s : LS) : List AV → Option (List LV)
  | [] => some []
  | .dat x :: r => match x.dat s.ob, argsOf s r with
    | some d, some ds => some (.imm d :: ds)
    | _, _ => none
  | .slot i :: r => match s.sl[i]?, argsOf s r with
    | some (some x), some ds => if x.giv then some (x :: ds) else none
    | _, _ => none
def setOuts : List Nat → List LV → List (Option LV) → Option (List (Option LV))
  | [], [], sl => some sl
  | i :: is, x :: xs, sl => setOuts is xs (sl.set i (some x))
  | _, _, _ => none
def distinct : List Nat → Bool
  | [] => true
  | i :: is => !is.contains i && distinct is
abbrev CF := Nat → List LV → CRes
def callE (cf : CF) (f : Nat) (as : List AV) (s : LS) : Res (LV × LS) :=
  match argsOf s as with
  | none => .stuck
  | some xs => if distinct (slotsOf as) = true ∧ (lhs (dataOf as) = true → slotsOf as = []) then
      match cf f xs with
      | .ok r outs => if (lhs (dataOf as) = true ∧ r.hm = false) ∨ r.nl = false ∨ nlAll outs = false then .stuck else
        match setOuts (slotsOf as) outs (wipeL s.sl (slotsOf as)) with
        | some sl' => .ok (r, ⟨sl', s.ob⟩)
        | none => .stuck
      | .exc c ps outs => if nlAll outs = false ∨ (lhs (dataOf as) = true ∧ ims ps = false) then .stuck else match setOuts (slotsOf as) outs (wipeL s.sl (slotsOf as)) with
        | some sl' => .exc c ps ⟨sl', s.ob⟩
        | none => .stuck
      | .stuck => .stuck
    else .stuck
def boolOf : LV → Option Bool
  | .imm (.bool b) => some b
  | _ => none
def tstR (r : Res (LV × LS)) : Res (Bool × LS) := r.bind fun p => match boolOf p.1 with
  | some b => .ok (b, p.2)
  | none => .stuck
/-- one value, a list's values laid out -/
def starItems (x : LV) : Option (List LV) := match x with
  | .imm (.list ds) => some (ds.map .imm)
  | .imm (.tuple ds) => some (ds.map .imm)
  | .lst xs => some xs
  | .lent (.list ds) => some (ds.map mkLent)
  | .lent (.tuple ds) => some (ds.map mkLent)
  | _ => none

def nlL (s : LS) : Bool := nlS s.sl && LV.nls s.ob
/-! the ways of evaluation, over the parts' -/
abbrev EvF := LS → Res (LV × LS)
def op2E (g : PyData → PyData → Option RK) (lv : LV → LV → RK → LV) (bb : Bool) (fa fb : EvF) : EvF := fun s => (fa s).bind fun p => if bb = true ∧ p.1.nl = false then .stuck else (fb p.2).bind fun q =>
  match p.1.dat q.2.ob, q.1.dat q.2.ob with
  | some d, some e => match g d e with
    | some r => .ok (lv p.1 q.1 r, q.2)
    | none => .stuck
  | _, _ => .stuck
def lvB (x y : LV) (r : RK) : LV := r.lv (x.lh || y.lh)
def lvC (_ _ : LV) (r : RK) : LV := r.lv false
def lvA (x _ : LV) (r : RK) : LV := r.lv x.lh
def negE (fa : EvF) : EvF := fun s => (fa s).bind fun p => match p.1 with
  | .imm (.int i) => .ok (.imm (.int (-i)), p.2)
  | _ => .stuck
def chainE (o1 o2 : CmpOp) (bb : Bool) (fa fb fc : EvF) : EvF := fun s => if bb then .stuck else (fa s).bind fun p => (fb p.2).bind fun q =>
  match p.1.dat q.2.ob, q.1.dat q.2.ob with
  | some d, some e => match cmpD o1 d e with
    | some b => if b then (fc q.2).bind fun t => match t.1.dat t.2.ob with
        | some f => match cmpD o2 e f with
          | some r => .ok (.imm (.bool r), t.2)
          | none => .stuck
        | none => .stuck
      else .ok (.imm (.bool false), q.2)
    | none => .stuck
  | _, _ => .stuck
def andE (fa fb : EvF) : EvF := fun s => (tstR (fa s)).bind fun p => if p.1 then (tstR (fb p.2)).bind fun q => .ok (.imm (.bool q.1), q.2) else .ok (.imm (.bool false), p.2)
def orE (fa fb : EvF) : EvF := fun s => (tstR (fa s)).bind fun p => if p.1 then .ok (.imm (.bool true), p.2) else (tstR (fb p.2)).bind fun q => .ok (.imm (.bool q.1), q.2)
def notE (fa : EvF) : EvF := fun s => (tstR (fa s)).bind fun p => .ok (.imm (.bool (!p.1)), p.2)
def iteE (fc fa fb : EvF) : EvF := fun s => (tstR (fc s)).bind fun p => if p.1 then fa p.2 else fb p.2
def varE (i : Nat) : EvF := fun s => match s.sl[i]? with
  | some (some x) => match readV s.ob x with
    | some y => .ok (y, s)
    | none => .stuck
  | _ => .stuck
def slE (bb : Bool) (fa : EvF) (fl fh : LS → Res (Option Int × LS)) : EvF := fun s => if bb then .stuck else (fa s).bind fun p => (fl p.2).bind fun q => (fh q.2).bind fun t =>
  match p.1.dat t.2.ob with
  | some d => match slD d q.1 t.1 with
    | some r => .ok (r.lv p.1.lh, t.2)
    | none => .stuck
  | none => .stuck
def biE (g : List PyData → Option RK) (fa : LS → Res (List LV × LS)) : EvF := fun s => (fa s).bind fun p => match datsOf p.2.ob p.1 with
  | some ds => match g ds with
    | some r => .ok (r.lv (lhs p.1), p.2)
    | none => .stuck
  | none => .stuck
def mtE (g : PyData → List PyData → Option RK) (bb : Bool) (fo : EvF) (fa : LS → Res (List LV × LS)) : EvF := fun s => (fo s).bind fun p => if bb = true ∧ p.1.nl = false then .stuck else (fa p.2).bind fun q =>
  match p.1.dat q.2.ob, datsOf q.2.ob q.1 with
  | some d, some ds => match g d ds with
    | some r => .ok (r.lv (p.1.lh || lhs q.1), q.2)
    | none => .stuck
  | _, _ => .stuck
def tupE (fa : LS → Res (List LV × LS)) : EvF := fun s => (fa s).bind fun p => if p.1.length ≤ sizeLine then .ok (mkTup p.1, p.2) else .stuck
def lstE (fa : LS → Res (List LV × LS)) : EvF := fun s => (fa s).bind fun p => if p.1.length ≤ sizeLine then .ok (.lst p.1, p.2) else .stuck
def dkE (ks : List Str) (fa : LS → Res (List LV × LS)) : EvF := fun s => (fa s).bind fun p => if ks.length = p.1.length ∧ ks.length ≤ 15 ∧ ks.Nodup ∧ nlAll p.1 = true ∧ nlL p.2 = true then .ok (.dic ((ks.map Sum.inr).zip p.1), p.2) else .stuck
def callEE (cf : CF) (f : Nat) (fa : LS → Res (List AV × LS)) : EvF := fun s => (fa s).bind fun p => callE cf f p.1 p.2
def isLst : Option LV → Bool
  | some (.lst _) => true
  | _ => false
/-- nothing is raised -/
def noExc {α : Type} : Res α → Res α
  | .exc _ _ _ => .stuck
  | r => r
def mutE (i : Nat) (bad : Bool) (g : LV → List LV → Option (LV × LV)) (fp : LS → Res (List PyData)) (fa : LS → Res (List LV × LS)) : EvF := fun s => if bad then .stuck else (noExc (fp s)).bind fun ds => if isLst (getF s i ds) = false then .stuck else (fa s).bind fun q =>
  match getF q.2 i ds with
  | some z => if nlAll q.1 then match g z q.1 with
      | some (z', y) => match putF q.2 i ds z' with
        | some s' => .ok (y, s')
        | none => .stuck
      | none => .stuck
    else .stuck
  | none => .stuck
def rdE (i : Nat) (fp : LS → Res (List PyData)) : EvF := fun s => (noExc (fp s)).bind fun ds => match s.sl[i]? with
  | some (some x) => match getP x ds with
    | some z => match readV s.ob z with
      | some y => .ok (y, s)
      | none => .stuck
    | none => .stuck
  | _ => .stuck
def frzE (fa : EvF) : EvF := fun s => (fa s).bind fun p => if p.1.nl then match p.1.dat0 with
    | some d => .ok (.imm d, p.2)
    | none => .stuck
  else .stuck
def consA (bb : Bool) (fa : EvF) (fb : LS → Res (List LV × LS)) : LS → Res (List LV × LS) := fun s => (fa s).bind fun p => if bb = true ∧ p.1.nl = false then .stuck else (fb p.2).bind fun q => .ok (p.1 :: q.1, q.2)
def starA (bb : Bool) (fa : EvF) (fb : LS → Res (List LV × LS)) : LS → Res (List LV × LS) := fun s => (fa s).bind fun p => if bb = true ∧ p.1.nl = false then .stuck else match starItems p.1 with
  | some xs => (fb p.2).bind fun q => .ok (xs ++ q.1, q.2)
  | none => .stuck
def consC (bb : Bool) (fa : EvF) (fb : LS → Res (List AV × LS)) : LS → Res (List AV × LS) := fun s => (fa s).bind fun p => if bb = true ∧ p.1.nl = false then .stuck else (fb p.2).bind fun q => .ok (.dat p.1 :: q.1, q.2)
def slotC (i : Nat) (fb : LS → Res (List AV × LS)) : LS → Res (List AV × LS) := fun s => match s.sl[i]? with
  | some (some _) => (fb s).bind fun q => .ok (.slot i :: q.1, q.2)
  | _ => .stuck
/-- one step more of a path, without effects -/
def snocP (fa : LS → Res (List PyData)) (fb : EvF) : LS → Res (List PyData) := fun s => (fa s).bind fun ds => (fb s).bind fun p => match p.1 with
  | .imm d => .ok (ds ++ [d])
  | _ => .stuck
def intO (fa : EvF) : LS → Res (Option Int × LS) := fun s => (fa s).bind fun p => match p.1 with
  | .imm (.int i) => .ok (some i, p.2)
  | _ => .stuck
abbrev ItF := LS → Res ((List LV × Bool) × LS)
def itP (fa : EvF) : ItF := fun s => (fa s).bind fun p => match p.1.dat p.2.ob with
  | some d => match itemsD d with
    | some ds => .ok ((ds.map (mkImm p.1.lh), p.1.lh), p.2)
    | none => .stuck
  | none => .stuck
def itR1 (fa : LS → Res (List LV × LS)) : ItF := fun s => (fa s).bind fun p => match p.1 with
  | [.imm (.int j)] => if small62 j then .ok (((rangeD 0 j).map .imm, false), p.2) else .stuck
  | _ => .stuck
def itR2 (fa : LS → Res (List LV × LS)) : ItF := fun s => (fa s).bind fun p => match p.1 with
  | [.imm (.int i), .imm (.int j)] => if small62 i && small62 j then .ok (((rangeD i j).map .imm, false), p.2) else .stuck
  | _ => .stuck
def itR (one : Bool) (fa : LS → Res (List LV × LS)) : ItF := if one then itR1 fa else itR2 fa
def listD : PyData → Option (List PyData)
  | .list xs => some xs
  | _ => none
def nilA : LS → Res (List LV × LS) := fun s => .ok ([], s)
def itE (fA : LS → Res (List LV × LS)) : ItF := fun s => (fA s).bind fun p => match datsOf p.2.ob p.1 with
  | some [d] => match listD d with
    | some ds => .ok (((enumD 0 ds).map (mkImm (lhs p.1)), lhs p.1), p.2)
    | none => .stuck
  | _ => .stuck
def itZ (fA : LS → Res (List LV × LS)) : ItF := fun s => (fA s).bind fun p => match datsOf p.2.ob p.1 with
  | some [d, e] => match listD d, listD e with
    | some ds, some es => .ok (((zipD ds es).map (mkImm (lhs p.1)), lhs p.1), p.2)
    | _, _ => .stuck
  | _ => .stuck
def lcStep (ft : LS → Res (Bool × LS)) (fe : EvF) : LS → Res (List LV × LS) := fun s1 => (ft s1).bind fun t => if t.1 then (fe t.2).bind fun e => .ok ([e.1], e.2) else .ok ([], t.2)
def lcEnd (own : List Nat) (s : LS) (q : List LV × LS) : Res (LV × LS) := if q.1.length ≤ sizeLine ∧ nlAll q.1 = true then .ok (.lst q.1, ⟨backL s.sl q.2.sl own, q.2.ob⟩) else .stuck
def lcBad (own : List Nat) (be : Bool) (p : (List LV × Bool) × LS) : Prop := (p.1.2 = true ∧ be = true) ∨ cleanL p.2.sl own = false ∨ nlL p.2 = false ∨ nlAll p.1.1 = false
instance {own be p} : Decidable (lcBad own be p) := by unfold lcBad; infer_instance
def lcE (own : List Nat) (be : Bool) (tg : Tg) (fi : ItF) (ft : LS → Res (Bool × LS)) (fe : EvF) : EvF := fun s => (fi s).bind fun p =>
  if lcBad own be p then .stuck else (noExc (compL own tg (lcStep ft fe) p.1.1 p.2)).bind fun q => lcEnd own p.2 q
def lc2Step (own2 : List Nat) (ft : LS → Res (Bool × LS)) (tg2 : Tg) (fi2 : ItF) (ft2 : LS → Res (Bool × LS)) (fe : EvF) : LS → Res (List LV × LS) := fun s1 => (ft s1).bind fun t => if t.1 then (fi2 t.2).bind fun p2 => if p2.1.2 = true ∨ nlAll p2.1.1 = false then .stuck else compL own2 tg2 (lcStep ft2 fe) p2.1.1 p2.2 else .ok ([], t.2)
def lc2E (own own2 : List Nat) (be : Bool) (tg : Tg) (fi : ItF) (ft : LS → Res (Bool × LS)) (tg2 : Tg) (fi2 : ItF) (ft2 : LS → Res (Bool × LS)) (fe : EvF) : EvF := fun s => (fi s).bind fun p =>
  if lcBad own be p then .stuck else (noExc (compL own tg (lc2Step own2 ft tg2 fi2 ft2 fe) p.1.1 p.2)).bind fun q => lcEnd own p.2 q
mutual
def evalE (cf : CF) : ME → EvF
  | .c d => fun s => .ok (.imm d, s)
  | .g _ d => fun s => .ok (.imm d, s)
  | .v i => varE i
  | .tup as => tupE (evalA cf as)
  | .lst as => lstE (evalA cf as)
  | .dk ks as => dkE ks (evalA cf as)
  | .bin op a b => op2E (bopD op) lvB (eff b) (evalE cf a) (evalE cf b)
  | .neg a => negE (evalE cf a)
  | .cmp op a b => op2E (cmpK op) lvC (eff b) (evalE cf a) (evalE cf b)
  | .chain o1 o2 a b c => chainE o1 o2 (eff b || eff c) (evalE cf a) (evalE cf b) (evalE cf c)
  | .and a b => andE (evalE cf a) (evalE cf b)
  | .or a b => orE (evalE cf a) (evalE cf b)
  | .not a => notE (evalE cf a)
  | .ite c a b => iteE (evalE cf c) (evalE cf a) (evalE cf b)
  | .ix a b => op2E ixK lvB (eff b) (evalE cf a) (evalE cf b)
  | .sl a lo hi => slE (eff lo || eff hi) (evalE cf a) (evalO cf lo) (evalO cf hi)
  | .call f as => callEE cf f (evalC cf as)
  | .callk f _ as => callEE cf f (evalC cf as)
  | .bi x as => biE (biD x) (evalA cf as)
  | .mt x o as => mtE (mtD x) (eff as) (evalE cf o) (evalA cf as)
  | .mut op i path as => mutE i (eff path || (eff as && !path.isNil)) (mutG op) (evalP cf path) (evalA cf as)
  | .rd i path => rdE i (evalP cf path)
  | .frz a => frzE (evalE cf a)
  | .lc own elt tg it cond => lcE own (eff elt || eff cond) tg (evalI cf it) (tstO cf cond) (evalE cf elt)
  | .lc2 own own2 elt tg it cond tg2 it2 cond2 => lc2E own own2 (eff elt || eff cond || eff it2 || eff cond2) tg (evalI cf it) (tstO cf cond) tg2 (evalI cf it2) (tstO cf cond2) (evalE cf elt)
  | _ => fun _ => .stuck
/-- items of a display, arguments of a built-in -/
def evalA (cf : CF) : ME → LS → Res (List LV × LS)
  | .nil => fun s => .ok ([], s)
  | .cons a b => match a with
    | .star a => starA (eff b) (evalE cf a) (evalA cf b)
    | a => consA (eff b) (evalE cf a) (evalA cf b)
  | _ => fun _ => .stuck
/-- arguments of a def -/
def evalC (cf : CF) : ME → LS → Res (List AV × LS)
  | .nil => fun s => .ok ([], s)
  | .cons a b => match a with
    | .io i => slotC i (evalC cf b)
    | a => consC (eff b) (evalE cf a) (evalC cf b)
  | _ => fun _ => .stuck
/-- a path's steps, without effects -/
def evalP (cf : CF) : ME → LS → Res (List PyData)
  | .nil => fun _ => .ok []
  | .cons a b => snocP (evalP cf a) (evalE cf b)
  | _ => fun _ => .stuck
/-- a bound of a slice -/
def evalO (cf : CF) : ME → LS → Res (Option Int × LS)
  | .no => fun s => .ok (none, s)
  | e => intO (evalE cf e)
/-- a test that may be left out -/
def tstO (cf : CF) : ME → LS → Res (Bool × LS)
  | .no => fun s => .ok (true, s)
  | e => fun s => tstR (evalE cf e s)
/-- what is walked: its items, whether they lie in an own thing -/
def evalI (cf : CF) : ME → ItF
  | .rng as => itR as.isOne (evalA cf as)
  | .enum a => itE (consA false (evalE cf a) nilA)
  | .zip a b => itZ (consA (eff b) (evalE cf a) (consA false (evalE cf b) nilA))
  | e => itP (evalE cf e)
end

/-! ## statements -/
/-- a value handed back: own names give away what they hold -/
def takeV (s : LS) (i : Nat) : Option (LV × LS) := match s.sl[i]? with
  | some (some x) => some (x, ⟨s.sl.set i none, s.ob⟩)
  | _ => none
def takeE (i : Nat) : EvF := fun s => match takeV s i with
  | some p => .ok p
  | none => .stuck
mutual
def moveE (cf : CF) (kp : Nat → Bool) : ME → EvF
  | .v i => if kp i then varE i else takeE i
  | .tup as => tupE (moveA cf kp as)
  | e => evalE cf e
def moveA (cf : CF) (kp : Nat → Bool) : ME → LS → Res (List LV × LS)
  | .nil => fun s => .ok ([], s)
  | .cons a b => match a with
    | .star _ => fun _ => .stuck
    | a => consA true (moveE cf kp a) (moveA cf kp b)
  | _ => fun _ => .stuck
end
def SR.bind (r : SR) (f : LS → SR) : SR := match r with
  | .nxt s => f s
  | r => r
def Res.toS {α : Type} (r : Res α) (f : α → SR) : SR := match r with
  | .ok a => f a
  | .exc c ps s => .exc c ps s
  | .stuck => .stuck
def fuel : Nat := 1000000
def parL : List Nat → List LV → List (Option LV) → Option (List (Option LV))
  | [], [], sl => some sl
  | i :: is, x :: xs, sl => if i < sl.length then parL is xs (sl.set i (some x)) else none
  | _, _, _ => none
def setS (i : Nat) (bad : Bool) (fe : EvF) (fp : LS → Res (List PyData)) (fk : EvF) : LS → SR := fun s => if bad then .stuck else (fe s).toS fun p => (noExc (fp p.2)).toS fun ds => (noExc (fk p.2)).toS fun q =>
  match q.1, getF p.2 i ds with
  | .imm d, some z => if p.1.nl then match putZ z d p.1 with
      | some z' => match putF p.2 i ds z' with
        | some s' => .nxt s'
        | none => .stuck
      | none => .stuck
    else .stuck
  | _, _ => .stuck
def exec (cf : CF) (kp : Nat → Bool) : MS → LS → SR
  | .nil, s => .nxt s
  | .cons a b, s => (exec cf kp a s).bind (exec cf kp b)
  | .pass, s => .nxt s
  | .brk, s => .brk s
  | .cnt, s => .cnt s
  | .ex e, s => (evalE cf e s).toS fun p => .nxt p.2
  | .asg t e, s => (evalE cf e s).toS fun p => if p.1.nl then match bindT t p.1 p.2.sl with
      | some sl' => .nxt ⟨sl', p.2.ob⟩
      | none => .stuck
    else .stuck
  | .par is as, s => (evalA cf as s).toS fun p => if nlAll p.1 then match parL is p.1 p.2.sl with
      | some sl' => .nxt ⟨sl', p.2.ob⟩
      | none => .stuck
    else .stuck
  | .ife c a b, s => (tstR (evalE cf c s)).toS fun p => if p.1 then exec cf kp a p.2 else exec cf kp b p.2
  | .for tg it body, s => (evalI cf it s).toS fun p => if p.1.2 then .stuck else forL tg (exec cf kp body) p.1.1 p.2
  | .whl c body, s => whlL (fun s => tstR (evalE cf c s)) (exec cf kp body) fuel s
  | .ret e, s => (moveE cf kp e s).toS fun p => .ret p.1 p.2
  | .retN, s => .ret (.imm .none) s
  | .setix i path k e, s => setS i (eff path || eff k) (evalE cf e) (evalP cf path) (evalE cf k) s
  | .freeze i, s => match s.sl[i]? with
    | some (some x) => match x.dat0 with
      | some d => if x.nl then .nxt ⟨s.sl.set i (some (.imm d)), s.ob⟩ else .stuck
      | none => .stuck
    | _ => .stuck
  | .share i k, s => match s.sl[i]? with
    | some (some (.dic ks)) => match lookK ks k with
      | some x => if x.giv then .nxt ⟨s.sl.set i (some (.dic (setK ks k (.ref s.ob.length)))), s.ob ++ [x]⟩ else .stuck
      | none => .stuck
    | _ => .stuck

/-! ## calls -/
/-- shared things put back in their places, each once -/
def rsv (ob : List (Option LV)) : LV → Option (LV × List (Option LV))
  | .imm d => some (.imm d, ob)
  | .lent _ => none
  | .ref l => match ob[l]? with
    | some (some x) => if x.giv then some (x, ob.set l none) else none
    | _ => none
  | .lst xs => (rsvs ob xs).map fun p => (.lst p.1, p.2)
  | .tup xs => (rsvs ob xs).map fun p => (.tup p.1, p.2)
  | .dic ks => (rsvk ob ks).map fun p => (.dic p.1, p.2)
where
  rsvs (ob : List (Option LV)) : List LV → Option (List LV × List (Option LV))
    | [] => some ([], ob)
    | x :: xs => match rsv ob x with
      | some (y, ob') => match rsvs ob' xs with
        | some (ys, ob'') => some (y :: ys, ob'')
        | none => none
      | none => none
  rsvk (ob : List (Option LV)) : List (Key × LV) → Option (List (Key × LV) × List (Option LV))
    | [] => some ([], ob)
    | (k, x) :: xs => match rsv ob x with
      | some (y, ob') => match rsvk ob' xs with
        | some (ys, ob'') => some ((k, y) :: ys, ob'')
        | none => none
      | none => none
def outsOf (sl : List (Option LV)) : List Nat → List (Option LV) → Option (List LV × List (Option LV))
  | [], ob => some ([], ob)
  | i :: is, ob => match sl[i]? with
    | some (some x) => match rsv ob x with
      | some (y, ob') => match outsOf sl is ob' with
        | some (ys, ob'') => some (y :: ys, ob'')
        | none => none
      | none => none
    | _ => none
def endOf (io : List Nat) : SR → CRes
  | .nxt s => match outsOf s.sl io (s.ob.map some) with
    | some (ys, _) => .ok (.imm .none) ys
    | none => .stuck
  | .ret x s => match rsv (s.ob.map some) x with
    | some (y, ob') => match outsOf s.sl io ob' with
      | some (ys, _) => .ok y ys
      | none => .stuck
    | none => .stuck
  | .exc c ps s => match outsOf s.sl io (s.ob.map some) with
    | some (ys, _) => .exc c ps ys
    | none => .stuck
  | _ => .stuck
def runB (np ns : Nat) (io : List Nat) (body : LS → SR) (xs : List LV) : CRes :=
  if xs.length = np ∧ nlAll xs = true then endOf io (body ⟨xs.map some ++ List.replicate (ns - np) none, []⟩) else .stuck
/-- a def: how many parameters, how many slots, which parameters are changed, the body -/
structure BDef where
  np : Nat
  ns : Nat
  io : List Nat
  body : CF → LS → SR
def callF (P : List BDef) : Nat → CF
  | 0 => fun _ _ => .stuck
  | n + 1 => fun f xs => match P[f]? with
    | some d => runB d.np d.ns d.io (d.body (callF P n)) xs
    | none => .stuck
end MP
/-! MP.3: a step of evaluation, seen from the heap -/
namespace MP
open PySem PySem.Spec PyProof.Rows L2


section
variable {K : PySem.W.Frag} {H H' H1 H2 : Hp} {R R' : Addr → Prop} {vs : L2.St} {s s' s1 s2 : LS} {m m' m1 m2 : List Addr} {O O' A B A' B' A1 B1 A2 B2 : List Addr}

theorem LI.own (l : LI K H R vs s m A B) : WM (A ++ B) H := fun b z => (List.mem_append.mp z).elim (l.sl.own b) (l.ob.own b)
theorem LI.exists (l : LI K H R vs s m A B) : ∀ a ∈ A ++ B, H a ≠ none := fun a z q => by
  rcases l.own a z with ⟨_, e⟩ | ⟨_, e⟩ <;> rw [q] at e <;> cases e

/-- the state carried on: the heap changed at W, R became R' -/
theorem LI.pres {W : List Addr} (l : LI K H R vs s m A B) (p : Pres W H H') (wm : WM W H) (hW : ∀ a, a ∈ A ++ B → a ∉ W) (hF : ∀ a, a ∉ A ++ B → ¬ R a → H a ≠ none → a ∉ W ∧ ¬ R' a) (hR : ∀ a ∈ A ++ B, ¬ R' a)
    (hS : ∀ a, R' a → H' a ≠ none) (c : W = [] ∨ nlL s = true) : LI K H' R' vs s m A B where
  sl := l.sl.pres p wm (fun _ _ e => e) (fun a f n => ⟨f.1, (hF a f.1 f.2 n).2⟩) (fun a f n => (hF a f.1 f.2 n).1) (fun a z => hW a (List.mem_append_left _ z)) (c.imp id fun c => by simp [nlL] at c; exact c.1)
  ob := l.ob.pres p wm (fun _ _ e => e) (fun a f n => ⟨f.1, (hF a f.1 f.2 n).2⟩) (fun a f n => (hF a f.1 f.2 n).1) (fun a z => hW a (List.mem_append_right _ z)) (c.imp id fun c => by simp [nlL] at c; exact c.2)
  nd := l.nd
  nr := hR
  rs := hS

/-- what an evaluation does: Ov is what its value owns; b: whether it has effects -/
structure Stp (K : PySem.W.Frag) (H : Hp) (R : Addr → Prop) (vs : L2.St) (s : LS) (m A B : List Addr) (b : Bool) (H' : Hp) (s' : LS) (m' A' B' Ov : List Addr) : Prop where
  li : LI K H' (Rv R Ov) vs s' m' A' B'
  nd : Ov.Nodup
  nr : ∀ a ∈ Ov, ¬ R a
  ex : ∀ a ∈ Ov, H' a ≠ none
  pr : Pres (A ++ B) H H'
  dm : ∀ a, H a ≠ none → H' a ≠ none
  gr : ∀ a, a ∈ A' ++ B' ∨ a ∈ Ov → a ∈ A ++ B ∨ H a = none
  mm : ∀ (l : Nat) (a : Addr), m[l]? = some a → m'[l]? = some a
  nl : nlL s = true → nlL s' = true
  ef : b = false → s' = s ∧ Pres [] H H'

theorem Stp.disj {b : Bool} {Ov : List Addr} (x : Stp K H R vs s m A B b H' s' m' A' B' Ov) : ∀ a ∈ A' ++ B', a ∉ Ov := fun a z q => x.li.nr a z (.inr q)

theorem Rv_nil : Rv R [] = R := by
  funext a; unfold Rv; simp
theorem Rv_app {P Q : List Addr} : Rv (Rv R P) Q = Rv R (P ++ Q) := by
  funext a; unfold Rv; simp [or_assoc]

theorem Stp.refl {b : Bool} (l : LI K H R vs s m A B) : Stp K H R vs s m A B b H s m A B [] where
  li := by rw [Rv_nil]; exact l
  nd := List.nodup_nil
  nr := fun _ z => nomatch z
  ex := fun _ z => nomatch z
  pr := Pres.refl
  dm := fun _ e => e
  gr := fun a z => .inl (z.elim id fun q => nomatch q)
  mm := fun _ _ e => e
  nl := id
  ef := fun _ => ⟨rfl, Pres.refl⟩
theorem Stp.any {b b' : Bool} {Ov : List Addr} (x : Stp K H R vs s m A B b H' s' m' A' B' Ov) (h : b' = false → b = false) : Stp K H R vs s m A B b' H' s' m' A' B' Ov :=
  ⟨x.li, x.nd, x.nr, x.ex, x.pr, x.dm, x.gr, x.mm, x.nl, fun q => x.ef (h q)⟩

/-- one behind another -/
theorem Stp.seq {b c : Bool} {P Q : List Addr} (x : Stp K H R vs s m A B b H1 s1 m1 A1 B1 P) (y : Stp K H1 (Rv R P) vs s1 m1 A1 B1 c H2 s2 m2 A2 B2 Q) : Stp K H R vs s m A B (b || c) H2 s2 m2 A2 B2 (P ++ Q) where
  li := by rw [← Rv_app]; exact y.li
  nd := List.nodup_append.mpr ⟨x.nd, y.nd, fun a ha b hb e => y.nr b hb (.inr (e ▸ ha))⟩
  nr := fun a z q => (List.mem_append.mp z).elim (fun z => x.nr a z q) fun z => y.nr a z (.inl q)
  ex := fun a z => (List.mem_append.mp z).elim (fun z => y.dm a (x.ex a z)) (y.ex a)
  pr := x.pr.trans y.pr fun a z => x.gr a (.inl z)
  dm := fun a n => y.dm a (x.dm a n)
  gr := fun a z => by
    have up : a ∈ A1 ++ B1 ∨ H1 a = none → a ∈ A ++ B ∨ H a = none := fun q => by
      rcases q with q | q
      · exact x.gr a (.inl q)
      · cases e : H a with
        | none => exact .inr rfl
        | some o =>
          by_cases w : a ∈ A ++ B
          · exact .inl w
          · rw [x.pr a o e w] at q; cases q
    rcases z with z | z
    · exact up (y.gr a (.inl z))
    · rcases List.mem_append.mp z with z | z
      · exact x.gr a (.inr z)
      · exact up (y.gr a (.inr z))
  mm := fun l a e => y.mm l a (x.mm l a e)
  nl := fun q => y.nl (x.nl q)
  ef := fun q => by
    simp only [Bool.or_eq_false_iff] at q
    obtain ⟨e1, e5⟩ := x.ef q.1
    obtain ⟨f1, f5⟩ := y.ef q.2
    exact ⟨f1.trans e1, e5.trans f5 fun a z => nomatch z⟩

/-- a value made ahead of a step stands behind it -/
theorem Stp.keep {b c : Bool} {P Q : List Addr} {v : V} {z : LV} (x : Stp K H R vs s m A B b H1 s1 m1 A1 B1 P) (r : Rp K H1 m1 (Fz R (A1 ++ B1 ++ P)) v z P) (y : Stp K H1 (Rv R P) vs s1 m1 A1 B1 c H2 s2 m2 A2 B2 Q)
    (n : c = false ∨ z.nl = true) : Rp K H2 m2 (Fz R (A2 ++ B2 ++ (P ++ Q))) v z P := by
  have hF : ∀ a, Fz R (A1 ++ B1 ++ P) a → H1 a ≠ none → Fz R (A2 ++ B2 ++ (P ++ Q)) a := fun a f n => by
    refine ⟨fun w => ?_, f.2⟩
    rcases List.mem_append.mp w with w | w
    · rcases y.gr a (.inl w) with w | w
      · exact f.1 (List.mem_append_left _ w)
      · exact n w
    · rcases List.mem_append.mp w with w | w
      · exact f.1 (List.mem_append_right _ w)
      · rcases y.gr a (.inr w) with w | w
        · exact f.1 (List.mem_append_left _ w)
        · exact n w
  rcases n with n | n
  · obtain ⟨_, e5⟩ := y.ef n
    exact r.pres e5 (fun b z => nomatch z) y.mm hF (fun a _ _ z => nomatch z) (fun a _ z => nomatch z) (.inl rfl)
  · refine r.pres y.pr x.li.own y.mm hF (fun a f _ z => f.1 (List.mem_append_left _ z)) (fun a z w => x.disj a w z) (.inr n)

/-- the end of an operation: what its operands owned is let go, what it made is owned -/
theorem Stp.res {b : Bool} {P Q : List Addr} (x : Stp K H R vs s m A B b H1 s1 m1 A1 B1 P) (p : Pres [] H1 H2) (hQ : ∀ a ∈ Q, (a ∈ P ∨ H1 a = none) ∧ H2 a ≠ none) (nd : Q.Nodup) : Stp K H R vs s m A B b H2 s1 m1 A1 B1 Q where
  li := x.li.pres p (fun b z => nomatch z) (fun _ _ z => nomatch z) (fun a h1 h2 h3 => ⟨(fun z => nomatch z), fun q => Or.elim q (fun q => h2 (.inl q)) fun q => ((hQ a q).1).elim (fun q => h2 (.inr q)) h3⟩)
    (fun a z q => Or.elim q (fun q => x.li.nr a z (.inl q)) fun q => ((hQ a q).1).elim (fun q => x.li.nr a z (.inr q)) (x.li.exists a z))
    (fun a z => Or.elim z (fun z => p.dom a (x.li.rs a (.inl z))) fun z => (hQ a z).2) (.inl rfl)
  nd := nd
  nr := fun a z => ((hQ a z).1).elim (fun w => x.nr a w) fun w q => x.li.rs a (.inl q) w
  ex := fun a z => (hQ a z).2
  pr := x.pr.trans p fun a z => nomatch z
  dm := fun a n => p.dom a (x.dm a n)
  gr := fun a z => by
    rcases z with z | z
    · exact x.gr a (.inl z)
    · rcases (hQ a z).1 with w | w
      · exact x.gr a (.inr w)
      · cases e : H a with
        | none => exact .inr rfl
        | some o =>
          by_cases u : a ∈ A ++ B
          · exact .inl u
          · rw [x.pr a o e u] at w; cases w
  mm := x.mm
  nl := x.nl
  ef := fun q => by
    obtain ⟨e1, e5⟩ := x.ef q
    exact ⟨e1, e5.trans p fun a z => nomatch z⟩
end
end MP
/-! MP.4: what an expression's evaluation promises -/
namespace MP
open PySem PySem.Spec PyProof.Rows L2

/-- where one stands: the written part, what is wanted of an exception, how an exception lies -/
structure Yx where
  K : PySem.W.Frag
  W : WX
  XR : (Addr → Prop) → Hp → Nat → List PyData → Value → Option Addr → Prop
  mono : ∀ (F F' : Addr → Prop) (H : Hp) (c : Nat) (ps : List PyData) (cl : Value) (d : Option Addr), (ims ps = true ∨ ∀ a, F a → H a ≠ none → F' a) → XR F H c ps cl d → XR F' H c ps cl d

abbrev Rel (α β : Type) := Hp → List Addr → (Addr → Prop) → β → α → List Addr → Prop
def Post {α β : Type} (Y : Yx) (H : Hp) (R : Addr → Prop) (vs : L2.St) (s : LS) (m A B : List Addr) (b : Bool) (rel : Rel α β) (r : Res (α × LS)) (Q : β → Hp → Prop) : Prop :=
  match r with
  | .ok p => ∀ y H' m' A' B' Ov, Stp Y.K H R vs s m A B b H' p.2 m' A' B' Ov → rel H' m' (Fz R (A' ++ B' ++ Ov)) y p.1 Ov → Q y H'
  | .exc c ps s' => ∀ cl d H' m' A' B', Stp Y.K H R vs s m A B b H' s' m' A' B' [] → Y.XR (Fz R (A' ++ B')) H' c ps cl d → Y.W cl d vs H'
  | .stuck => False
def tG {α β : Type} (Y : Yx) (b : Bool) (rel : Rel α β) (f : LS → Res (α × LS)) : L2.St → Hp → (β → Hp → Prop) → Prop := fun vs H Q =>
  ∃ s R m A B, LI Y.K H R vs s m A B ∧ (b = true → nlL s = true) ∧ Post Y H R vs s m A B b rel (f s) Q
abbrev relV (Y : Yx) : Rel LV V := fun H m F v x O => Rp Y.K H m F v x O
abbrev relVs (Y : Yx) : Rel (List LV) (List V) := fun H m F v x O => Rps Y.K H m F v x O
abbrev relB : Rel Bool Bool := fun _ _ _ y x O => y = x ∧ O = []
abbrev relI : Rel (Option Int) (Option Int) := fun _ _ _ y x O => y = x ∧ O = []
abbrev SE (Y : Yx) (X : Cx) (b : Bool) (f : LS → Res (LV × LS)) (e : Expr) : Prop := PE X e (tG Y b (relV Y) f)
abbrev SA (Y : Yx) (X : Cx) (b : Bool) (f : LS → Res (List LV × LS)) (es : List Expr) : Prop := PA X es (tG Y b (relVs Y) f)
abbrev ST (Y : Yx) (X : Cx) (b : Bool) (f : LS → Res (Bool × LS)) (e : Expr) : Prop := PT X e (tG Y b relB f)

section
variable {Y : Yx} {H H' H1 H2 : Hp} {R : Addr → Prop} {vs : L2.St} {s s' s1 s2 : LS} {m m' m1 m2 : List Addr} {A B A' B' A1 B1 A2 B2 P : List Addr} {b b1 b2 : Bool} {α β γ δ : Type}
theorem Stp.drop (x : Stp Y.K H R vs s m A B b H' s' m' A' B' P) : Stp Y.K H R vs s m A B b H' s' m' A' B' [] := x.res Pres.refl (fun _ z => nomatch z) List.nodup_nil
/-- the first of two -/
theorem Post.split {rel : Rel α β} {rel1 : Rel γ δ} {Q : β → Hp → Prop} {Q1 : δ → Hp → Prop} {r : Res (γ × LS)} {g : γ × LS → Res (α × LS)} (hb : b = false → b1 = false)
    (h : Post Y H R vs s m A B b rel (r.bind g) Q)
    (k : ∀ p, r = .ok p → Post Y H R vs s m A B b rel (g p) Q → ∀ y H1 m1 A1 B1 P, Stp Y.K H R vs s m A B b1 H1 p.2 m1 A1 B1 P → rel1 H1 m1 (Fz R (A1 ++ B1 ++ P)) y p.1 P → Q1 y H1) :
    Post Y H R vs s m A B b1 rel1 r Q1 := by
  cases r with
  | ok p => exact fun y H1 m1 A1 B1 P x q => k p rfl h y H1 m1 A1 B1 P x q
  | exc c ps s' => exact fun cl d H' m' A' B' x q => h cl d H' m' A' B' (x.any hb) q
  | stuck => exact h
/-- the next one: behind a step -/
theorem Post.next {rel : Rel α β} {rel1 : Rel γ δ} {Q : β → Hp → Prop} {Q1 : δ → Hp → Prop} {r : Res (γ × LS)} {g : γ × LS → Res (α × LS)} (x1 : Stp Y.K H R vs s m A B b1 H1 s1 m1 A1 B1 P) (hb : b = false → b1 = false ∧ b2 = false)
    (h : Post Y H R vs s m A B b rel (r.bind g) Q)
    (k : ∀ p, r = .ok p → Post Y H R vs s m A B b rel (g p) Q → ∀ y H2 m2 A2 B2 P2, Stp Y.K H1 (Rv R P) vs s1 m1 A1 B1 b2 H2 p.2 m2 A2 B2 P2 → rel1 H2 m2 (Fz (Rv R P) (A2 ++ B2 ++ P2)) y p.1 P2 → Q1 y H2) :
    Post Y H1 (Rv R P) vs s1 m1 A1 B1 b2 rel1 r Q1 := by
  cases r with
  | ok p => exact fun y H1 m1 A1 B1 P x q => k p rfl h y H1 m1 A1 B1 P x q
  | exc c ps s' =>
    refine fun cl d H' m' A' B' x q => h cl d H' m' A' B' (((x1.seq x).drop).any fun e => ?_) (Y.mono _ _ _ _ _ _ _ (.inr fun a f _ => ⟨f.1, fun w => f.2 (.inl w)⟩) q)
    obtain ⟨e1, e2⟩ := hb e
    rw [e1, e2]; rfl
  | stuck => exact h

/-- the data of a value -/
theorem Rp.rd {F : Addr → Prop} {O OB : List Addr} {v : V} {x : LV} {d : PyData} {ob : List LV} (r : Rp Y.K H m F v x O) (ro : Rps Y.K H m F (m.map V.ref) ob OB) (e : x.dat ob = some d) :
    ∃ as, RD Y.K H v d as ∧ ∀ a ∈ as, F a ∨ a ∈ O ∨ x.lh = true := by
  cases r with
  | imm r f =>
    obtain ⟨as, q, g⟩ := (Rp.imm r f : Rp Y.K H m F _ _ []).rd0 e
    exact ⟨as, q, fun a z => (g a z).imp id fun w => w.imp id fun w => by simp [LV.nl] at w⟩
  | lent r =>
    obtain ⟨as, q, g⟩ := (Rp.lent r : Rp Y.K H m F _ _ []).rd0 e
    exact ⟨as, q, fun a z => .inr (.inr rfl)⟩
  | lst h r =>
    obtain ⟨as, q, g⟩ := (Rp.lst h r).rd0 e
    exact ⟨as, q, fun a z => (g a z).imp id fun w => w.imp id fun w => by unfold LV.lh; simp [w]⟩
  | dic h r =>
    obtain ⟨as, q, g⟩ := (Rp.dic h r).rd0 e
    exact ⟨as, q, fun a z => (g a z).imp id fun w => w.imp id fun w => by unfold LV.lh; simp [w]⟩
  | tup h r =>
    obtain ⟨as, q, g⟩ := (Rp.tup h r).rd0 e
    exact ⟨as, q, fun a z => (g a z).imp id fun w => w.imp id fun w => by unfold LV.lh; simp [w]⟩
  | @ref a l h =>
    unfold LV.dat at e
    split at e
    · rename_i l' e0
      cases e0
      split at e
      · rename_i y ey
        have at_ : ∀ {us : List V} {xs : List LV} {P : List Addr} {i : Nat} {u : V} {z : LV}, Rps Y.K H m F us xs P → us[i]? = some u → xs[i]? = some z → ∃ P', Rp Y.K H m F u z P' := by
          intro us xs P i u z r
          induction us generalizing xs P i with
          | nil => intro e1; simp at e1
          | cons w ws ih =>
            cases r with
            | cons r t =>
              cases i with
              | zero => intro e1 e2; simp at e1 e2; subst e1 e2; exact ⟨_, r⟩
              | succ i => intro e1 e2; exact ih t (by simpa using e1) (by simpa using e2)
        obtain ⟨P', r'⟩ := at_ ro (by rw [List.getElem?_map, h]; rfl) ey
        obtain ⟨as, q, _⟩ := r'.rd0 e
        exact ⟨as, q, fun a z => .inr (.inr rfl)⟩
      · cases e
    · rename_i hn
      exact absurd rfl (hn l)

/-- what an operation on data leaves -/
def RKrep (K : PySem.W.Frag) (H H' : Hp) (as : List Addr) (v : V) : RK → Prop
  | .dat d => ∃ bs, RD K H' v d bs ∧ ∀ a ∈ bs, a ∈ as
  | .nl ds => ∃ p us bs, v = .ref p ∧ H p = none ∧ H' p = some (.lst us) ∧ RDs K H' us ds bs ∧ ∀ a ∈ bs, a ∈ as

theorem mkImm_rp {F : Addr → Prop} {len : Bool} {v : V} {d : PyData} {as : List Addr} (r : RD Y.K H v d as) (h : len = false → ∀ a ∈ as, F a) : Rp Y.K H m F v (mkImm len d) [] := by
  unfold mkImm
  cases len with
  | false => exact .imm r (h rfl)
  | true =>
    simp only [if_true]
    unfold mkLent
    split
    · rename_i hi
      exact .imm r fun a z => by rw [r.im hi] at z; cases z
    · exact .lent r
theorem mkImm_rps {F : Addr → Prop} {len : Bool} : ∀ {ds : List PyData} {us : List V} {as : List Addr}, RDs Y.K H us ds as → (len = false → ∀ a ∈ as, F a) → Rps Y.K H m F us (ds.map (mkImm len)) []
  | _, _, _, .nil, _ => .nil
  | _, _, _, .cons r t, h => by
    have q := Rps.cons (mkImm_rp (m := m) r fun e a z => h e a (List.mem_append_left _ z)) (mkImm_rps t fun e a z => h e a (List.mem_append_right _ z))
    exact q

/-- an operation's end -/
theorem Stp.op {rk : RK} {v : V} {as : List Addr} {len : Bool} (x : Stp Y.K H R vs s m A B b H1 s1 m1 A1 B1 P) (p : Pres [] H1 H2) (r : RKrep Y.K H1 H2 as v rk) (ha : len = false → ∀ a ∈ as, a ∉ A1 ++ B1 ∧ ¬ R a) (he : ∀ a ∈ as, H1 a ≠ none) :
    ∃ Ov, Stp Y.K H R vs s m A B b H2 s1 m1 A1 B1 Ov ∧ Rp Y.K H2 m1 (Fz R (A1 ++ B1 ++ Ov)) v (rk.lv len) Ov := by
  cases rk with
  | dat d =>
    obtain ⟨bs, r, hb⟩ := r
    refine ⟨[], x.res p (fun _ z => nomatch z) List.nodup_nil, mkImm_rp r fun e a z => ?_⟩
    rw [List.append_nil]
    exact ha e a (hb a z)
  | nl ds =>
    obtain ⟨q, us, bs, rfl, hq, hq', r, hb⟩ := r
    refine ⟨[q], x.res p (fun a z => ?_) (List.nodup_cons.mpr ⟨List.not_mem_nil, List.nodup_nil⟩), ?_⟩
    · cases List.mem_singleton.mp z
      exact ⟨.inr hq, by rw [hq']; exact fun z => nomatch z⟩
    · have q2 := Rp.lst (m := m1) (F := Fz R (A1 ++ B1 ++ [q])) hq' (mkImm_rps (len := len) r fun e a z => by
        obtain ⟨h1, h2⟩ := ha e a (hb a z)
        refine ⟨fun w => ?_, h2⟩
        rcases List.mem_append.mp w with w | w
        · exact h1 w
        · have e := List.mem_singleton.mp w
          rw [e] at z
          exact he _ (hb _ z) hq)
      exact q2
end

/-! ## operations on data, at the values -/
def Op2 (K : PySem.W.Frag) (g : PyData → PyData → Option RK) : R2 := fun x y H Q => ∃ d e as bs r, RD K H x d as ∧ RD K H y e bs ∧ g d e = some r ∧ ∀ v H', Pres [] H H' → RKrep K H H' (as ++ bs) v r → Q v H'

section
variable {Y : Yx} {X : Cx} {ea eb : Expr} {ba bb : Bool} {fa fb : LS → Res (LV × LS)} {pos : Pos}
/-- two operands and an operation on their data -/
theorem seq_op {g : PyData → PyData → Option RK} {vs : L2.St} {H : Hp} {Q : VK} (lv : LV → LV → RK → LV)
    (hlv : ∀ x y r, ∃ len, lv x y r = r.lv len ∧ (len = false → x.lh = false ∧ y.lh = false))
    (h : tG Y (ba || bb) (relV Y) (fun s => (fa s).bind fun p => if bb = true ∧ p.1.nl = false then .stuck else (fb p.2).bind fun q =>
      match p.1.dat q.2.ob, q.1.dat q.2.ob with
      | some d, some e => match g d e with
        | some r => .ok (lv p.1 q.1 r, q.2)
        | none => .stuck
      | _, _ => .stuck) vs H Q) : tOp (Op2 Y.K g) (tG Y ba (relV Y) fa) (tG Y bb (relV Y) fb) vs H Q := by
  obtain ⟨s, R, m, A, B, l, n, h⟩ := h
  refine ⟨s, R, m, A, B, l, fun e => n (by rw [e]; rfl), h.split (fun e => by cases ba <;> simp_all) fun p hp h1 y H1 m1 A1 B1 P x1 r1 => ?_⟩
  by_cases hc : bb = true ∧ p.1.nl = false
  · rw [if_pos hc] at h1; exact h1.elim
  rw [if_neg hc] at h1
  refine ⟨p.2, Rv R P, m1, A1, B1, x1.li, fun e => x1.nl (n (by rw [e]; cases ba <;> rfl)), h1.next x1 (fun e => by cases ba <;> cases bb <;> simp_all) fun q hq h2 z H2 m2 A2 B2 P2 x2 r2 => ?_⟩
  have r1' := x1.keep r1 x2 (by
    cases e : bb with
    | false => exact .inl rfl
    | true =>
      right
      cases e2 : p.1.nl with
      | true => rfl
      | false => exact absurd ⟨e, e2⟩ hc)
  have x := x1.seq x2
  revert h2
  cases e1 : p.1.dat q.2.ob with
  | none => exact fun h2 => h2.elim
  | some d =>
    cases e2 : q.1.dat q.2.ob with
    | none => exact fun h2 => h2.elim
    | some e =>
      simp only
      cases e3 : g d e with
      | none => exact fun h2 => h2.elim
      | some r =>
        intro h2
        have hfz : ∀ a, Fz R (A2 ++ B2 ++ (P ++ P2)) a → Fz (Rv R (P ++ P2)) (A2 ++ B2) a := fun a f => ⟨fun w => f.1 (List.mem_append_left _ w), fun w => w.elim f.2 fun w => f.1 (List.mem_append_right _ w)⟩
        have ob : Rps Y.K H2 m2 (Fz R (A2 ++ B2 ++ (P ++ P2))) (m2.map V.ref) q.2.ob B2 := x.li.ob.pres (W := []) Pres.refl (fun b z => nomatch z) (fun _ _ e => e)
          (fun a f _ => ⟨fun w => (List.mem_append.mp w).elim f.1 fun w => f.2 (.inr w), fun w => f.2 (.inl w)⟩) (fun _ _ _ z => nomatch z) (fun _ _ z => nomatch z) (.inl rfl)
        have r2' : Rp Y.K H2 m2 (Fz R (A2 ++ B2 ++ (P ++ P2))) z q.1 P2 := r2.pres (W := []) Pres.refl (fun b z => nomatch z) (fun _ _ e => e)
          (fun a f _ => ⟨fun w => by
            rcases List.mem_append.mp w with w | w
            · exact f.1 (List.mem_append_left _ w)
            · rcases List.mem_append.mp w with w | w
              · exact f.2 (.inr w)
              · exact f.1 (List.mem_append_right _ w), fun w => f.2 (.inl w)⟩) (fun _ _ _ z => nomatch z) (fun _ _ z => nomatch z) (.inl rfl)
        obtain ⟨as, d1, f1⟩ := r1'.rd ob e1
        obtain ⟨bs, d2, f2⟩ := r2'.rd ob e2
        refine ⟨d, e, as, bs, r, d1, d2, e3, fun v H' p' rk => ?_⟩
        obtain ⟨len, el, hl⟩ := hlv p.1 q.1 r
        have hfin : len = false → ∀ a ∈ as ++ bs, a ∉ A2 ++ B2 ∧ ¬ R a := fun e a z => by
          obtain ⟨l1, l2⟩ := hl e
          have fin : Fz R (A2 ++ B2 ++ (P ++ P2)) a ∨ a ∈ P ++ P2 → a ∉ A2 ++ B2 ∧ ¬ R a := fun w => by
            rcases w with w | w
            · exact ⟨fun u => w.1 (List.mem_append_left _ u), w.2⟩
            · exact ⟨fun u => x.disj a u w, x.nr a w⟩
          rcases List.mem_append.mp z with z | z
          · rcases f1 a z with w | w | w
            · exact fin (.inl w)
            · exact fin (.inr (List.mem_append_left _ w))
            · rw [l1] at w; cases w
          · rcases f2 a z with w | w | w
            · exact fin (.inl w)
            · exact fin (.inr (List.mem_append_right _ w))
            · rw [l2] at w; cases w
        obtain ⟨Ov, x', rp⟩ := x.op (len := len) p' rk hfin (fun a z => (List.mem_append.mp z).elim (d1.dom a) (d2.dom a))
        refine h2 v H' m2 A2 B2 Ov x' ?_
        show Rp Y.K H' m2 _ v (lv p.1 q.1 r) Ov
        rw [el]; exact rp
end
end MP
/-! MP.5: the operations on data, as the machine does them -/
namespace MP
open PySem PySem.Spec PyProof.Rows L2

theorem key_reads {h : Heap} {k : Key} {u : Value} (p : keyIs k u = true) : Reads h u (kD k) [] := by
  rcases keyIs_shape p with ⟨i, tk, e, e'⟩ | ⟨x, tk, e, e'⟩
  · rw [e, e']; exact .int i tk
  · rw [e, e']; exact .str x tk
section
variable {X : Cx} {pins : List (Addr × Obj)} {σ : L2.St} {H : Hp} {s : Shared}
mutual
theorem RD.reads (I : Inv X pins σ H s) : ∀ {d : PyData} {v : V} {u : Value} {as : List Addr}, RD X.K H v d as → sc d = true → RelV v u → ∃ bs, Reads s.heap u d bs
  | .none, _, _, _, .non, _, r => by cases r; exact ⟨_, Reads.none⟩
  | .bool _, _, _, _, .bl b, _, r => by cases r; exact ⟨_, Reads.bool b⟩
  | .int _, _, _, _, .int i, _, r => by obtain ⟨t, rfl⟩ := r; exact ⟨_, Reads.int i t⟩
  | .str _, _, _, _, .str x, _, r => by obtain ⟨t, rfl⟩ := r; exact ⟨_, Reads.str x t⟩
  | .list ds, _, _, _, .lst h r, c, e => by
    cases e
    obtain ⟨_, its, n, rv, hg⟩ := (Rd.of h).ok I.hok
    obtain ⟨bs, q⟩ := RDs.reads I r (by simpa [sc] using c) rv
    exact ⟨_, Reads.list hg rfl rfl q⟩
  | .tuple ds, _, _, _, .tup h r, c, e => by
    cases e
    obtain ⟨its, rv, ⟨o, ho, hc, n, hd⟩, _⟩ := I.tuple h
    obtain ⟨bs, q⟩ := RDs.reads I r (by simpa [sc] using c) rv
    exact ⟨_, Reads.tuple ho hc hd q⟩
  | .dict _, _, _, _, .scr h r, c, e => by simp [sc, sck] at c
  | .dict ds, _, _, _, .dic h r, c, e => by
    cases e
    obtain ⟨_, _, ws, kv, o, es, ep, ho, hx, hd, _, hp, _⟩ := I.hok _ _ h
    obtain ⟨as, bs, q1, q2⟩ := RDk.reads I r (by simpa [sc] using c) kv hp
    exact ⟨_, Reads.dict ho hx.1 hd q1 q2⟩
theorem RDs.reads (I : Inv X pins σ H s) : ∀ {d : List PyData} {v : List V} {u : List Value} {as : List Addr}, RDs X.K H v d as → scs d = true → Vals v u → ∃ bs, ReadsAll s.heap u d bs
  | [], _, _, _, .nil, _, r => by cases r; exact ⟨_, .nil⟩
  | _ :: _, _, _, _, .cons h t, c, r => by
    simp [scs] at c
    cases r with
    | cons r1 r2 =>
      obtain ⟨as, q1⟩ := RD.reads I h c.1 r1
      obtain ⟨bs, q2⟩ := RDs.reads I t c.2 r2
      exact ⟨_, .cons q1 q2⟩
theorem RDk.reads (I : Inv X pins σ H s) : ∀ {d : List (PyData × PyData)} {v : List (Key × V)} {u : List (Key × Value)} {es : List DictEntry} {as : List Addr}, RDk X.K H v d as → sck d = true → KV v u → PySem.Pairs (mixKind X.prog X.w) es u →
    ∃ bs cs, ReadsAll s.heap (es.map (·.key)) (d.map (·.1)) bs ∧ ReadsAll s.heap (es.map (·.val)) (d.map (·.2)) cs
  | [], _, _, _, _, .nil, _, r, p => by cases r; cases p; exact ⟨_, _, .nil, .nil⟩
  | _ :: _, _, _, _, _, .cons h t, c, r, p => by
    simp [sck] at c
    cases r with
    | cons r1 r2 =>
      cases p with
      | cons p1 p2 p3 =>
        obtain ⟨e1, e2⟩ := r1
        obtain ⟨as, q1⟩ := RD.reads I h c.1.2 e2
        obtain ⟨bs, cs, q2, q3⟩ := RDk.reads I t c.2 r2 p3
        rw [← p2] at q1
        rw [← e1] at p1
        have q := key_reads (h := s.heap) p1
        exact ⟨_, _, .cons q q2, .cons q1 q3⟩
end

/-- a list, whether it is held fast or not -/
theorem rdl (I : Inv X pins σ H s) {a : Addr} {xs : List V} (h : Rd H a (.lst xs)) : xs.length ≤ sizeLine ∧ ∃ (its : List Value) (n : Nat), Vals xs its ∧ s.heap.get? a = some { cls := .type "list", data := .seq its.toArray n } := h.ok I.hok
theorem SqL.ofRd {K : PySem.W.Frag} {a : Addr} {xs : List V} (h : Rd H a (.lst xs)) : SqL K H a xs := .inl h

theorem RDs.length : ∀ {K : PySem.W.Frag} {ds : List PyData} {us : List V} {as : List Addr}, RDs K H us ds as → us.length = ds.length
  | _, _, _, _, .nil => rfl
  | _, _, _, _, .cons _ t => by simp [RDs.length t]
theorem RDs.append {K : PySem.W.Frag} : ∀ {ds es : List PyData} {us ws : List V} {as bs : List Addr}, RDs K H us ds as → RDs K H ws es bs → RDs K H (us ++ ws) (ds ++ es) (as ++ bs)
  | _, _, _, _, _, _, .nil, r => r
  | _, _, _, _, _, _, .cons h t, r => by
    rw [List.append_assoc]
    exact .cons h (RDs.append t r)
theorem RDs.get {K : PySem.W.Frag} : ∀ {ds : List PyData} {us : List V} {as : List Addr}, RDs K H us ds as → ∀ {i : Nat} {d : PyData}, ds[i]? = some d → ∃ u bs, us[i]? = some u ∧ RD K H u d bs ∧ ∀ a ∈ bs, a ∈ as
  | _, _, _, .nil, _, _, e => by simp at e
  | _, _, _, .cons h t, 0, _, e => by
    cases Option.some.inj e
    exact ⟨_, _, rfl, h, fun a z => List.mem_append_left _ z⟩
  | _, _, _, .cons h t, i + 1, d, e => by
    obtain ⟨u, bs, e1, r, f⟩ := RDs.get t (i := i) (d := d) (by simpa using e)
    exact ⟨u, bs, by simpa using e1, r, fun a z => List.mem_append_right _ (f a z)⟩
theorem RDs.take {K : PySem.W.Frag} : ∀ {ds : List PyData} {us : List V} {as : List Addr} (n : Nat), RDs K H us ds as → ∃ bs, RDs K H (us.take n) (ds.take n) bs ∧ ∀ a ∈ bs, a ∈ as
  | _, _, _, 0, _ => ⟨[], .nil, fun a z => nomatch z⟩
  | _, _, _, n + 1, .nil => ⟨[], .nil, fun a z => nomatch z⟩
  | _, _, _, n + 1, .cons h t => by
    obtain ⟨bs, r, f⟩ := RDs.take n t
    exact ⟨_, .cons h r, fun a z => (List.mem_append.mp z).elim (List.mem_append_left _) fun z => List.mem_append_right _ (f a z)⟩
theorem RDs.drop {K : PySem.W.Frag} : ∀ {ds : List PyData} {us : List V} {as : List Addr} (n : Nat), RDs K H us ds as → ∃ bs, RDs K H (us.drop n) (ds.drop n) bs ∧ ∀ a ∈ bs, a ∈ as
  | _, _, _, 0, r => ⟨_, r, fun a z => z⟩
  | _, _, _, n + 1, .nil => ⟨[], .nil, fun a z => nomatch z⟩
  | _, _, _, n + 1, .cons h t => by
    obtain ⟨bs, r, f⟩ := RDs.drop n t
    exact ⟨bs, r, fun a z => List.mem_append_right _ (f a z)⟩

/-- the end: a new list -/
theorem new_list {as : List Addr} {Q : VK} {ds : List PyData} {us : List V} {its : List Value} {bs : List Addr} {tk : Nat} (I : Inv X pins σ H s) (hz : us.length ≤ sizeLine) (rv : Vals us its) (r : RDs X.K H us ds bs) (f : ∀ a ∈ bs, a ∈ as)
    (k : ∀ v H', Pres [] H H' → RKrep X.K H H' as v (.nl ds) → Q v H') : EP X pins σ Q (.ref s.heap.objs.size) { s with heap := s.heap.push { cls := .type "list", data := .seq its.toArray }, toks := tk } := by
  have hn : H s.heap.objs.size = none := I.fresh
  exact ⟨.ref _, _, I.lnew (t' := tk) rv hz, rfl, k _ _ (Pres.new hn) ⟨_, us, bs, rfl, hn, upd_same, r.pres (W := []) (Pres.new hn) (fun _ z => nomatch z) (fun _ _ z => nomatch z), f⟩⟩
theorem new_tup {as : List Addr} {Q : VK} {ds : List PyData} {us : List V} {its : List Value} {bs : List Addr} (I : Inv X pins σ H s) (hz : us.length ≤ sizeLine) (rv : Vals us its) (r : RDs X.K H us ds bs) (f : ∀ a ∈ bs, a ∈ as)
    (k : ∀ v H', Pres [] H H' → RKrep X.K H H' as v (.dat (.tuple ds)) → Q v H') : EP X pins σ Q (.ref s.heap.objs.size) { s with heap := s.heap.push { cls := .type "tuple", data := .seq its.toArray } } := by
  have hn : H s.heap.objs.size = none := I.fresh
  refine ⟨.ref _, _, I.laid (t' := s.toks) (o := .tup us) (fun b ob q => Heap.get?_push_of_some _ q) (Nat.le_refl _) ?_, rfl, k _ _ (Pres.new hn) ⟨bs, .tup (.inl (.inl upd_same)) (r.pres (W := []) (Pres.new hn) (fun _ z => nomatch z) (fun _ _ z => nomatch z)), f⟩⟩
  exact ⟨hz, _, rv, IsTup.new _ _⟩

/-- an end that leaves all as it is -/
theorem RKrep.same {as bs : List Addr} {v : V} {d : PyData} (r : RD X.K H v d bs) (f : ∀ a ∈ bs, a ∈ as) : RKrep X.K H H as v (.dat d) := ⟨bs, r, f⟩

/-! ### int operators -/
theorem op2_int {f : Value → Value → Sem Value} {C : Int → Int → Prop} {gg : Int → Int → Int} {g : PyData → PyData → Option RK} (ho : OpR X f (rI C fun i j => .int (gg i j)))
    (hg : ∀ d e r, g d e = some r → ∃ i j, d = .int i ∧ e = .int j ∧ C i j ∧ r = .dat (.int (gg i j))) : OpR X f (Op2 X.K g) := by
  intro pins s σ H x y v u Q I rx ry h
  obtain ⟨d, e, as, bs, r, d1, d2, e3, k⟩ := h
  obtain ⟨i, j, rfl, rfl, hc, rfl⟩ := hg d e r e3
  cases d1
  cases d2
  exact ho pins s σ H _ _ v u Q I rx ry ⟨i, j, rfl, rfl, hc, k _ _ Pres.refl (RKrep.same (.int _) fun _ z => nomatch z)⟩
theorem op_mulB : OpR X (binaryOp .Mult) (rI (fun i j => mulOk i j = true) fun i j => .int (i * j)) := opI fun i j _ _ _ _ _ hc q => mul_int q (by
  have b : ∀ x : Int, Builtin.Int.intBits x ≤ x.natAbs.log2 + 1 := fun x => by
    unfold Builtin.Int.intBits
    split <;> omega
  have h1 := b i
  have h2 := b j
  have h3 : i.natAbs.log2 + j.natAbs.log2 < 100000000 := of_decide_eq_true hc
  have e : bitsLine = 134217728 := by decide
  unfold IntMulOk
  intro z
  rw [Bool.and_eq_true] at z
  have z2 := z.2
  unfold Builtin.Int.intTooBig at z2
  have z3 := of_decide_eq_true z2
  rw [e] at z3
  omega)
theorem op2_sub : OpR X (binaryOp .Sub) (Op2 X.K (bopD .Sub)) := by
  intro pins s σ H x y v u Q I rx ry h
  obtain ⟨d, e, as, bs, r, d1, d2, e3, k⟩ := h
  cases d1 <;> cases d2 <;> simp [bopD] at e3
  subst e3
  exact op_sub pins s σ H _ _ v u Q I rx ry ⟨_, _, rfl, rfl, k _ _ Pres.refl (RKrep.same (.int _) fun _ z => nomatch z)⟩
theorem op2_fdiv : OpR X (binaryOp .FloorDiv) (Op2 X.K (bopD .FloorDiv)) := by
  refine op2_int op_fdivW fun d e r h => ?_
  cases d <;> cases e <;> simp [bopD] at h
  exact ⟨_, _, rfl, rfl, h.1, h.2.symm⟩
theorem op2_mod : OpR X (binaryOp .Mod) (Op2 X.K (bopD .Mod)) := by
  refine op2_int op_mod fun d e r h => ?_
  cases d <;> cases e <;> simp [bopD] at h
  exact ⟨_, _, rfl, rfl, h.1, h.2.symm⟩
theorem op2_pow : OpR X (binaryOp .Pow) (Op2 X.K (bopD .Pow)) := by
  refine op2_int op_pow fun d e r h => ?_
  cases d <;> cases e <;> simp [bopD] at h
  exact ⟨_, _, rfl, rfl, h.1, h.2.symm⟩
end
end MP
/-! MP.6: more operations on data -/
namespace MP
open PySem PySem.Spec PyProof.Rows L2

section
variable {X : Cx} {pins : List (Addr × Obj)} {σ : L2.St} {H : Hp} {s : Shared}
theorem inl_of {as bs : List Addr} : ∀ a ∈ as, a ∈ as ++ bs := fun _ z => List.mem_append_left _ z
theorem inr_of {as bs : List Addr} : ∀ a ∈ bs, a ∈ as ++ bs := fun _ z => List.mem_append_right _ z
theorem noA {as : List Addr} : ∀ a ∈ ([] : List Addr), a ∈ as := fun _ z => nomatch z

theorem op2_add : OpR X (binaryOp .Add) (Op2 X.K (bopD .Add)) := by
  intro pins s σ H x y v u Q I rx ry h
  obtain ⟨d, e, as, bs, r, d1, d2, e3, k⟩ := h
  cases d1 with
  | int i =>
    cases d2 <;> simp [bopD] at e3
    subst e3
    exact op_add pins s σ H _ _ v u Q I rx ry ⟨_, _, rfl, rfl, k _ _ Pres.refl (RKrep.same (.int _) noA)⟩
  | str x =>
    cases d2 <;> simp [bopD] at e3
    obtain ⟨hz, rfl⟩ := e3
    exact op_add_str pins s σ H _ _ v u Q I rx ry ⟨_, _, rfl, rfl, hz, k _ _ Pres.refl (RKrep.same (.str _) noA)⟩
  | lst ha ra =>
    cases d2 with
    | lst hb rb =>
      simp [bopD] at e3
      obtain ⟨hz, rfl⟩ := e3
      cases rx
      cases ry
      obtain ⟨z, its, n, rv, e⟩ := rdl I (Rd.of ha)
      obtain ⟨z2, its2, n2, rv2, e2⟩ := rdl I (Rd.of hb)
      have l1 := rv.length
      have l2 := rv2.length
      have l3 := ra.length
      have l4 := rb.length
      refine PySem.P.add_list e e2 ?_ (by rw [List.size_toArray, List.size_toArray]; omega)
      have ea : its.toArray ++ its2.toArray = (its ++ its2).toArray := by simp
      rw [ea]
      exact new_list (tk := s.toks) I (by rw [List.length_append]; omega) (rv.append rv2) (ra.append rb) (fun a z => (List.mem_append.mp z).elim (fun z => inl_of _ (List.mem_cons_of_mem _ z)) fun z => inr_of _ (List.mem_cons_of_mem _ z)) k
    | _ => simp [bopD] at e3
  | tup ha ra =>
    cases d2 with
    | tup hb rb =>
      simp [bopD] at e3
      obtain ⟨hz, rfl⟩ := e3
      have l3 := ra.length
      have l4 := rb.length
      refine op_catA pins s σ H _ _ v u Q I rx ry ⟨_, _, _, _, rfl, rfl, ha, hb, by omega, fun e => ?_, fun e1 e => ?_, fun e1 e2 p hp => ?_⟩
      · subst e
        cases ra
        exact k _ _ Pres.refl ⟨_, .tup hb rb, fun a z => by simpa using z⟩
      · subst e
        cases rb
        refine k _ _ Pres.refl ⟨_, ?_, fun a z => inl_of a z⟩
        rw [List.append_nil]
        exact .tup ha ra
      · exact k _ _ (Pres.new hp) ⟨_, .tup (.inl (.inl upd_same)) ((ra.append rb).pres (W := []) (Pres.new hp) (fun _ z => nomatch z) (fun _ _ z => nomatch z)), fun a z => z⟩
    | _ => simp [bopD] at e3
  | _ => cases d2 <;> simp [bopD] at e3

theorem RDs.rep {K : PySem.W.Frag} {xs : List V} {ds : List PyData} {as : List Addr} (ra : RDs K H xs ds as) : ∀ n : Nat, ∃ bs, RDs K H (List.replicate n xs).flatten (List.replicate n ds).flatten bs ∧ ∀ a ∈ bs, a ∈ as
  | 0 => ⟨[], .nil, fun _ z => nomatch z⟩
  | n + 1 => by
    obtain ⟨bs, r', f⟩ := RDs.rep ra n
    rw [List.replicate_succ, List.flatten_cons, List.replicate_succ, List.flatten_cons]
    exact ⟨_, ra.append r', fun a z => (List.mem_append.mp z).elim id (f a)⟩
theorem op2_mul : OpR X (binaryOp .Mult) (Op2 X.K (bopD .Mult)) := by
  intro pins s σ H x y v u Q I rx ry h
  obtain ⟨d, e, as, bs, r, d1, d2, e3, k⟩ := h
  cases d1 with
  | int i =>
    cases d2 <;> simp [bopD] at e3
    obtain ⟨hz, rfl⟩ := e3
    exact op_mulB pins s σ H _ _ v u Q I rx ry ⟨_, _, rfl, rfl, hz, k _ _ Pres.refl (RKrep.same (.int _) noA)⟩
  | lst ha ra =>
    cases d2 with
    | int i =>
      simp [bopD] at e3
      obtain ⟨⟨h1, h2, hz⟩, rfl⟩ := e3
      have l3 := ra.length
      refine op_rep pins s σ H _ _ v u Q I rx ry ⟨_, _, _, rfl, rfl, ha, h1, h2, by rw [l3]; exact hz, fun p hp => ?_⟩
      obtain ⟨bs, r', f⟩ := RDs.rep ra i.toNat
      exact k _ _ (Pres.new hp) ⟨p, _, bs, rfl, hp, upd_same, r'.pres (W := []) (Pres.new hp) (fun _ z => nomatch z) (fun _ _ z => nomatch z), fun a z => inl_of _ (List.mem_cons_of_mem _ (f a z))⟩
    | _ => simp [bopD] at e3
  | _ => cases d2 <;> simp [bopD] at e3
end
end MP
/-! MP.7: comparisons, places, slices, built-ins -/
namespace MP
open PySem PySem.Spec PyProof.Rows L2

mutual
theorem sc_plain : ∀ d : PyData, d.plain = true → sc d = true
  | .none, _ => rfl
  | .bool _, _ => rfl
  | .int _, _ => rfl
  | .str _, _ => rfl
  | .list ds, h => by
    unfold sc
    exact scs_plain ds (by simpa [PyData.plain] using h)
  | .tuple ds, h => by
    unfold sc
    exact scs_plain ds (by simpa [PyData.plain] using h)
  | .dict ds, h => by simp [PyData.plain] at h
theorem scs_plain : ∀ d : List PyData, PyData.plainAll d = true → scs d = true
  | [], _ => rfl
  | d :: ds, h => by
    simp [PyData.plainAll] at h
    unfold scs
    rw [sc_plain d h.1, scs_plain ds h.2]
    rfl
end

section
variable {X : Cx} {pins : List (Addr × Obj)} {σ : L2.St} {H : Hp} {s : Shared}
theorem room_min {a b u c : Nat} (h : a + 1 ≤ 40) (hu : u + 64 < c) : u + 1 + min a b < c := by
  have := Nat.min_le_left a b
  omega
theorem okD_iff {d : PyData} : okD d = true ↔ d.plain = true ∧ d.depth ≤ 40 := by simp [okD]
theorem EPbl {as : List Addr} {Q : VK} {b : Bool} (I : Inv X pins σ H s) (k : ∀ v H', Pres [] H H' → RKrep X.K H H' as v (.dat (.bool b)) → Q v H') : EP X pins σ Q (.bool b) s :=
  ⟨.bl b, H, I, rfl, k _ _ Pres.refl (RKrep.same (.bl _) noA)⟩
/-- a comparison by what the data say -/
theorem op2_cmp {op : CmpOp} (h : ∀ (pins : List (Addr × Obj)) (σ : L2.St) (H : Hp) (s : Shared) (d e : PyData) (x y : V) (v u : Value) (as bs : List Addr) (b : Bool) (Q : Value → Shared → Prop), Inv X pins σ H s → RelV x v → RelV y u → RD X.K H x d as → RD X.K H y e bs → cmpD op d e = some b →
      (∀ s', Inv X pins σ H s' → Q (.bool b) s') → wpAny (model X.prog X.w) X.A (compareOp op v u) Q X.xe s) : OpR X (compareOp op) (Op2 X.K (cmpK op)) := by
  intro pins s σ H x y v u Q I rx ry hh
  obtain ⟨d, e, as, bs, r, d1, d2, e3, k⟩ := hh
  simp only [cmpK, Option.map_eq_some_iff] at e3
  obtain ⟨b, e3, rfl⟩ := e3
  exact h pins σ H s d e x y v u as bs b _ I rx ry d1 d2 e3 fun s' I' => EPbl I' k
theorem op2_eq (hu : X.A.units + 64 < cLine) : OpR X (compareOp .Eq) (Op2 X.K (cmpK .Eq)) := op2_cmp fun pins σ H s d e x y v u as bs b Q I rx ry d1 d2 e3 k => by
  simp only [cmpD] at e3
  split at e3 <;> cases e3
  rename_i h
  simp only [Bool.and_eq_true, okD_iff] at h
  obtain ⟨_, q1⟩ := d1.reads I (sc_plain _ h.1.1) rx
  obtain ⟨_, q2⟩ := d2.reads I (sc_plain _ h.2.1) ry
  exact SeqAt.eq_plain q1 q2 h.1.1 h.2.1 (by have := Nat.min_le_left d.depth e.depth; omega) (k s I)
theorem op2_ne (hu : X.A.units + 64 < cLine) : OpR X (compareOp .NotEq) (Op2 X.K (cmpK .NotEq)) := op2_cmp fun pins σ H s d e x y v u as bs b Q I rx ry d1 d2 e3 k => by
  simp only [cmpD] at e3
  split at e3 <;> cases e3
  rename_i h
  simp only [Bool.and_eq_true, okD_iff] at h
  obtain ⟨_, q1⟩ := d1.reads I (sc_plain _ h.1.1) rx
  obtain ⟨_, q2⟩ := d2.reads I (sc_plain _ h.2.1) ry
  exact SeqAt.ne_plain q1 q2 h.1.1 h.2.1 (by have := Nat.min_le_left d.depth e.depth; omega) (k s I)
theorem ltD_iff {d e : PyData} {r b : Bool} (h : ltD d e r = some b) : W.alike d e = true ∧ (d.plain = true ∧ d.depth ≤ 40) ∧ (e.plain = true ∧ e.depth ≤ 40) ∧ d ≠ .none ∧ r = b := by
  unfold ltD at h
  split at h
  · rename_i q
    simp only [Bool.and_eq_true, okD_iff] at q
    refine ⟨q.1.1.1, q.1.1.2, q.1.2, fun z => ?_, Option.some.inj h⟩
    subst z
    exact absurd q.2 (by simp [nnD])
  · cases h
theorem op2_lt (hu : X.A.units + 64 < cLine) : OpR X (compareOp .Lt) (Op2 X.K (cmpK .Lt)) := op2_cmp fun pins σ H s d e x y v u as bs b Q I rx ry d1 d2 e3 k => by
  obtain ⟨h1, h2, h3, h4, rfl⟩ := ltD_iff e3
  obtain ⟨_, q1⟩ := d1.reads I (sc_plain _ h2.1) rx
  obtain ⟨_, q2⟩ := d2.reads I (sc_plain _ h3.1) ry
  exact W.lt_data q1 q2 h1 h4 (by have := Nat.min_le_left d.depth e.depth; omega) (k s I)
theorem op2_le (hu : X.A.units + 64 < cLine) : OpR X (compareOp .LtE) (Op2 X.K (cmpK .LtE)) := op2_cmp fun pins σ H s d e x y v u as bs b Q I rx ry d1 d2 e3 k => by
  obtain ⟨h1, h2, h3, h4, rfl⟩ := ltD_iff e3
  obtain ⟨_, q1⟩ := d1.reads I (sc_plain _ h2.1) rx
  obtain ⟨_, q2⟩ := d2.reads I (sc_plain _ h3.1) ry
  exact W.le_data q1 q2 h1 h4 (by have := Nat.min_le_left d.depth e.depth; omega) (k s I)
theorem op2_gt (hu : X.A.units + 64 < cLine) : OpR X (compareOp .Gt) (Op2 X.K (cmpK .Gt)) := op2_cmp fun pins σ H s d e x y v u as bs b Q I rx ry d1 d2 e3 k => by
  obtain ⟨h1, h2, h3, h4, rfl⟩ := ltD_iff e3
  obtain ⟨_, q1⟩ := d1.reads I (sc_plain _ h2.1) rx
  obtain ⟨_, q2⟩ := d2.reads I (sc_plain _ h3.1) ry
  exact W.gt_data q1 q2 h1 h4 (by have := Nat.min_le_left d.depth e.depth; omega) (k s I)
theorem op2_ge (hu : X.A.units + 64 < cLine) : OpR X (compareOp .GtE) (Op2 X.K (cmpK .GtE)) := op2_cmp fun pins σ H s d e x y v u as bs b Q I rx ry d1 d2 e3 k => by
  obtain ⟨h1, h2, h3, h4, rfl⟩ := ltD_iff e3
  obtain ⟨_, q1⟩ := d1.reads I (sc_plain _ h2.1) rx
  obtain ⟨_, q2⟩ := d2.reads I (sc_plain _ h3.1) ry
  exact W.ge_data q1 q2 h1 h4 (by have := Nat.min_le_left d.depth e.depth; omega) (k s I)
theorem op2_is : OpR X (compareOp .Is) (Op2 X.K (cmpK .Is)) := op2_cmp fun pins σ H s d e x y v u as bs b Q I rx ry d1 d2 e3 k => by
  cases d2 <;> simp [cmpD] at e3
  cases ry
  refine is_none_gen ?_
  have q : (v == Value.none) = b := by
    rw [rx.none_iff, ← e3]
    cases d1 <;> rfl
  rw [q]
  exact k s I
theorem op2_isnot : OpR X (compareOp .IsNot) (Op2 X.K (cmpK .IsNot)) := op2_cmp fun pins σ H s d e x y v u as bs b Q I rx ry d1 d2 e3 k => by
  cases d2 <;> simp [cmpD] at e3
  cases ry
  refine isnot_none_gen ?_
  have q : (!(v == Value.none)) = b := by
    rw [rx.none_iff, ← e3]
    cases d1 <;> rfl
  rw [q]
  exact k s I

/-! ### dicts -/
theorem lookD_rd {K : PySem.W.Frag} : ∀ {ds : List (PyData × PyData)} {xs : List (Key × V)} {as : List Addr} {k : Key}, RDk K H xs ds as →
    match lookD ds k with
    | some d => ∃ v bs, valV xs k = some v ∧ RD K H v d bs ∧ ∀ a ∈ bs, a ∈ as
    | none => valV xs k = none
  | _, _, _, k, .nil => by unfold lookD; rfl
  | _, _, _, k, @RDk.cons _ _ k' v vs d ds as bs h t => by
    have ih := lookD_rd (k := k) t
    have out : k' ≠ k → valV ((k', v) :: vs) k = valV vs k := fun n => by
      unfold valV
      rw [List.find?_cons_of_neg (by simpa using n)]
    have far : k' ≠ k → lookD ((kD k', d) :: ds) k = lookD ds k := fun n => by
      cases k' with
      | inl i =>
        cases k with
        | inl j => simp only [kD, lookD]; rw [if_neg fun e => n (by rw [e])]
        | inr y => rfl
      | inr x =>
        cases k with
        | inl j => rfl
        | inr y => simp only [kD, lookD]; rw [if_neg fun e => n (by rw [e])]
    by_cases hk : k' = k
    · subst hk
      have e1 : lookD ((kD k', d) :: ds) k' = some d := by cases k' <;> simp [kD, lookD]
      rw [e1]
      exact ⟨v, as, by simp [valV], h, fun a z => List.mem_append_left _ z⟩
    · rw [far hk]
      revert ih
      cases lookD ds k with
      | none => intro ih; simp only at ih ⊢; rw [out hk]; exact ih
      | some d' =>
        intro ih
        obtain ⟨w, cs, e1, r, f⟩ := ih
        exact ⟨w, cs, by rw [out hk]; exact e1, r, fun a z => List.mem_append_right _ (f a z)⟩
theorem look_some {K : PySem.W.Frag} {ds : List (PyData × PyData)} {xs : List (Key × V)} {as : List Addr} {k : Key} (r : RDk K H xs ds as) : (valV xs k).isSome = (lookD ds k).isSome := by
  have q := lookD_rd (k := k) r
  cases e : lookD ds k with
  | none => rw [e] at q; simp only at q; rw [q]; rfl
  | some d' => rw [e] at q; obtain ⟨w, _, e, _⟩ := q; rw [e]; rfl
theorem keyOf_rd {K : PySem.W.Frag} {d : PyData} {y : V} {bs : List Addr} {k : Key} (h : RD K H y d bs) (e : keyOf d = some k) : y = kV k := by
  cases h <;> simp [keyOf] at e
  · subst e; rfl
  · subst e; rfl
theorem op2_in (hu : X.A.units + 64 < cLine) : OpR X (compareOp .In) (Op2 X.K (cmpK .In)) := op2_cmp fun pins σ H s d e x y v u as bs b Q I rx ry d1 d2 e3 k => by
  simp only [cmpD] at e3
  cases d2 with
  | lst h2 r2 =>
    simp only [inD] at e3
    split at e3 <;> cases e3
    rename_i h
    simp only [Bool.and_eq_true, okD_iff] at h
    obtain ⟨_, q1⟩ := d1.reads I (sc_plain _ h.1.1) rx
    obtain ⟨_, q2⟩ := (RD.lst h2 r2).reads I (sc_plain _ h.2.1) ry
    exact SeqAt.in_list_data q2 q1 (by simpa [PyData.plain] using h.2.1) h.1.1 (room_min (by simpa only [PyData.depth] using h.2.2) hu) (k s I)
  | tup h2 r2 =>
    simp only [inD] at e3
    split at e3 <;> cases e3
    rename_i h
    simp only [Bool.and_eq_true, okD_iff] at h
    obtain ⟨_, q1⟩ := d1.reads I (sc_plain _ h.1.1) rx
    obtain ⟨_, q2⟩ := (RD.tup h2 r2).reads I (sc_plain _ h.2.1) ry
    exact SeqAt.in_tuple_data q2 q1 (by simpa [PyData.plain] using h.2.1) h.1.1 (room_min (by simpa only [PyData.depth] using h.2.2) hu) (k s I)
  | scr h2 r2 => simp [inD, sck] at e3
  | @dic a xs ds as h2 r2 =>
    simp only [inD] at e3
    split at e3
    · obtain ⟨kk, ek, rfl⟩ := Option.map_eq_some_iff.mp e3
      have hy := keyOf_rd d1 ek
      subst hy
      cases ry
      refine d_in (by omega) I (.inl ⟨xs, kk, .inl h2, rfl, rfl⟩) rx fun s' I' => ?_
      rw [look_some r2]
      exact k s' I'
    · cases e3
  | _ => simp [inD] at e3
theorem op2_notin (hu : X.A.units + 64 < cLine) : OpR X (compareOp .NotIn) (Op2 X.K (cmpK .NotIn)) := op2_cmp fun pins σ H s d e x y v u as bs b Q I rx ry d1 d2 e3 k => by
  simp only [cmpD] at e3
  obtain ⟨b', e5, e6⟩ := Option.map_eq_some_iff.mp e3
  clear e3
  have e3 := e5
  subst e6
  cases d2 with
  | lst h2 r2 =>
    simp only [inD] at e3
    split at e3 <;> cases e3
    rename_i h
    simp only [Bool.and_eq_true, okD_iff] at h
    obtain ⟨_, q1⟩ := d1.reads I (sc_plain _ h.1.1) rx
    obtain ⟨_, q2⟩ := (RD.lst h2 r2).reads I (sc_plain _ h.2.1) ry
    exact SeqAt.notIn_list_data q2 q1 (by simpa [PyData.plain] using h.2.1) h.1.1 (room_min (by simpa only [PyData.depth] using h.2.2) hu) (k s I)
  | tup h2 r2 =>
    simp only [inD] at e3
    split at e3 <;> cases e3
    rename_i h
    simp only [Bool.and_eq_true, okD_iff] at h
    obtain ⟨_, q1⟩ := d1.reads I (sc_plain _ h.1.1) rx
    obtain ⟨_, q2⟩ := (RD.tup h2 r2).reads I (sc_plain _ h.2.1) ry
    exact SeqAt.notIn_tuple_data q2 q1 (by simpa [PyData.plain] using h.2.1) h.1.1 (room_min (by simpa only [PyData.depth] using h.2.2) hu) (k s I)
  | scr h2 r2 => simp [inD, sck] at e3
  | @dic a xs ds as h2 r2 =>
    simp only [inD] at e3
    split at e3
    · obtain ⟨kk, ek, rfl⟩ := Option.map_eq_some_iff.mp e3
      have hy := keyOf_rd d1 ek
      subst hy
      cases ry
      refine d_notIn (by omega) I (.inl ⟨xs, kk, .inl h2, rfl, rfl⟩) rx fun s' I' => ?_
      rw [look_some r2]
      exact k s' I'
    · cases e3
  | _ => simp [inD] at e3
end
end MP
/-! MP.8: places, slices, built-ins -/
namespace MP
open PySem PySem.Spec PyProof.Rows L2

mutual
theorem noDict_plain : ∀ d : PyData, d.plain = true → d.hasDict = false
  | .none, _ => rfl
  | .bool _, _ => rfl
  | .int _, _ => rfl
  | .str _, _ => rfl
  | .list ds, h => by
    unfold PyData.hasDict
    exact noDicts_plain ds (by simpa [PyData.plain] using h)
  | .tuple ds, h => by
    unfold PyData.hasDict
    exact noDicts_plain ds (by simpa [PyData.plain] using h)
  | .dict ds, h => by simp [PyData.plain] at h
theorem noDicts_plain : ∀ d : List PyData, PyData.plainAll d = true → PyData.hasDictAll d = false
  | [], _ => rfl
  | d :: ds, h => by
    simp [PyData.plainAll] at h
    unfold PyData.hasDictAll
    rw [noDict_plain d h.1, noDicts_plain ds h.2]
    rfl
end
section
variable {X : Cx} {pins : List (Addr × Obj)} {σ : L2.St} {H : Hp} {s : Shared}
theorem atI_rd {K : PySem.W.Frag} {ds : List PyData} {us : List V} {as : List Addr} {i : Int} {d : PyData} (r : RDs K H us ds as) (e : atI ds i = some d) : ∃ u bs, atI us i = some u ∧ RD K H u d bs ∧ ∀ a ∈ bs, a ∈ as := by
  unfold atI at e ⊢
  rw [r.length]
  cases q : ixN ds.length i with
  | none => rw [q] at e; cases e
  | some j =>
    rw [q] at e
    exact r.get (i := j) e
/-- the element of a dict -/
theorem sub_any {value slice : Expr} {o i : Value} {T id : String} {A : Around} {w : World} {prog : Program} {E : Value → Shared → Prop} {Q : Value → Shared → Prop} (hT : s.TypeIs o T) (hl : typeLookup (.type T) "__getitem__" = pure (some (.builtin id)))
    (hs : subscripted slice false o i = operate [o, i] (getItem o i)) (h : wpAny (model prog w) A (getItem o i) Q E s) : wpAny (model prog w) A (subscriptTail value slice o i) Q E s := by
  unfold subscriptTail
  apply wpAny_bind
  rw [getitemInPython_of_ne hT.not_modules]
  apply wpAny_bind
  apply wpAny_specialOf hT hl
  have fin : wpAny (model prog w) A (subscripted slice false o i) (fun r s₃ => wpAny (model prog w) A (letTemporaryGo value o r >>= fun _ => pure r) Q E s₃) E s := by
    rw [hs]
    exact wpAny_operating (thn h fun r s₃ h₃ => wpAny_bind (wpAny_letTemporaryGo (wpAny_pure h₃)))
  first
    | exact wpAny_pure (wpAny_bind fin)
    | exact wpAny_bind fin
theorem ixD_dict {ds : List (PyData × PyData)} {e z : PyData} (h : ixD (.dict ds) e = some z) : ∃ kk, keyOf e = some kk ∧ lookD ds kk = some z := by
  cases e <;> simp [ixD, keyOf] at h ⊢ <;> exact h
theorem ixr (hu : X.A.units + 64 < cLine) : IxR X (Op2 X.K ixK) := by
  intro value slice pins s σ H x y v u Q I rx ry h hs
  obtain ⟨d, e, as, bs, r, d1, d2, e3, k⟩ := h
  simp only [ixK, Option.map_eq_some_iff] at e3
  obtain ⟨z, e3, rfl⟩ := e3
  cases d1 with
  | lst h1 r1 =>
    cases d2 <;> simp [ixD] at e3
    obtain ⟨w, cs, e, r, f⟩ := atI_rd r1 e3
    exact ix_list value slice pins s σ H _ _ v u Q I rx ry ⟨_, _, _, w, rfl, rfl, SqL.of h1, e, k _ _ Pres.refl (RKrep.same r fun a z => inl_of _ (List.mem_cons_of_mem _ (f a z)))⟩ hs
  | tup h1 r1 =>
    cases d2 <;> simp [ixD] at e3
    obtain ⟨w, cs, e, r, f⟩ := atI_rd r1 e3
    exact ix_tup value slice pins s σ H _ _ v u Q I rx ry ⟨_, _, _, w, rfl, rfl, h1, e, k _ _ Pres.refl (RKrep.same r fun a z => inl_of _ (f a z))⟩ hs
  | str t =>
    cases d2 <;> simp [ixD] at e3
    obtain ⟨hz, c, e, rfl⟩ := e3
    exact ix_str value slice pins s σ H _ _ v u Q I rx ry ⟨_, _, c, rfl, rfl, hz, e, k _ _ Pres.refl (RKrep.same (.str _) noA)⟩ hs
  | @dic a xs ds as h1 r1 =>
    have e4 := ixD_dict e3
    obtain ⟨kk, ek, e5⟩ := e4
    have hy := keyOf_rd d2 ek
    subst hy
    cases rx
    have q := lookD_rd (k := kk) r1
    rw [e5] at q
    obtain ⟨w, cs, e6, r, f⟩ := q
    have g : DGet H a (kV kk) (some w) := .inl ⟨xs, kk, .inl h1, rfl, e6.symm⟩
    exact sub_any (dict_typeIs I g) PySem.F.slot_dict_getitem.lookup hs (d_getItem (by omega) I g ry fun w' s' I' r' => ⟨w, H, I', r', k _ _ Pres.refl (RKrep.same r fun a z => inl_of _ (List.mem_cons_of_mem _ (f a z)))⟩)
  | scr h1 r1 =>
    exfalso
    obtain ⟨kk, ek, e5⟩ := ixD_dict e3
    cases kk <;> simp [lookD] at e5
  | _ => cases d2 <;> simp [ixD] at e3

/-! ### slices -/
theorem cut_rd {K : PySem.W.Frag} {ds : List PyData} {us : List V} {as : List Addr} (lo hi : Option Int) (r : RDs K H us ds as) : ∃ bs, RDs K H (cutV us lo hi) (cutD ds lo hi) bs ∧ ∀ a ∈ bs, a ∈ as := by
  unfold cutV cutD
  rw [r.length]
  obtain ⟨bs, r1, f1⟩ := r.drop (HT.sIx ds.length 0 lo)
  obtain ⟨cs, r2, f2⟩ := r1.take (HT.sIx ds.length ds.length hi - HT.sIx ds.length 0 lo)
  exact ⟨cs, r2, fun a z => f1 a (f2 a z)⟩
def Sl2 (K : PySem.W.Frag) : V → Option Int → Option Int → Hp → VK → Prop := fun x lo hi H Q => ∃ d as r, RD K H x d as ∧ slD d lo hi = some r ∧ ∀ v H', Pres [] H H' → RKrep K H H' as v r → Q v H'

/-! ### calls of built-ins -/
def CallN (K : PySem.W.Frag) (g : List PyData → Option RK) : List V → Hp → VK → Prop := fun xs H Q => ∃ ds as r, RDs K H xs ds as ∧ g ds = some r ∧ ∀ v H', Pres [] H H' → RKrep K H H' as v r → Q v H'
theorem RDs.one {K : PySem.W.Frag} {xs : List V} {d : PyData} {as : List Addr} (r : RDs K H xs [d] as) : ∃ x, xs = [x] ∧ RD K H x d as := by
  cases r with
  | cons h t =>
    cases t
    rw [List.append_nil]
    exact ⟨_, rfl, h⟩

theorem slr : SlR X (Sl2 X.K) := by
  intro pins s σ H x v vl vu lo hi sl Q I rx hs pl pu h
  obtain ⟨d, as, r, d1, e, k⟩ := h
  cases d1 with
  | lst h1 r1 =>
    simp [slD] at e
    subst e
    obtain ⟨bs, r2, f⟩ := cut_rd lo hi r1
    exact sl_list pins s σ H _ v vl vu lo hi sl Q I rx hs pl pu ⟨_, _, rfl, SqL.of h1, fun p hp => k _ _ (Pres.new hp) ⟨p, _, bs, rfl, hp, upd_same, r2.pres (W := []) (Pres.new hp) (fun _ z => nomatch z) (fun _ _ z => nomatch z), fun a z => List.mem_cons_of_mem _ (f a z)⟩⟩
  | scr h1 r1 =>
    simp [slD] at e
    subst e
    obtain ⟨bs, r2, f⟩ := cut_rd lo hi r1
    exact sl_list pins s σ H _ v vl vu lo hi sl Q I rx hs pl pu ⟨_, _, rfl, h1.sql, fun p hp => k _ _ (Pres.new hp) ⟨p, _, bs, rfl, hp, upd_same, r2.pres (W := []) (Pres.new hp) (fun _ z => nomatch z) (fun _ _ z => nomatch z), fun a z => f a z⟩⟩
  | @tup a1 xs1 ds1 as1 h1 r1 =>
    simp [slD] at e
    subst e
    obtain ⟨bs, r2, f⟩ := cut_rd lo hi r1
    refine sl_tupA pins s σ H _ v vl vu lo hi sl Q I rx hs pl pu ⟨_, _, rfl, h1, fun e => ?_, fun e p hp => ?_⟩
    · refine k _ _ Pres.refl ⟨_, ?_, fun a z => z⟩
      have w : cutD ds1 lo hi = ds1 := by
        unfold cutD
        rw [r1.length] at e
        rw [e.1, e.2, List.drop_zero, Nat.sub_zero, List.take_length]
      rw [w]
      exact .tup h1 r1
    · exact k _ _ (Pres.new hp) ⟨bs, .tup (.inl (.inl upd_same)) (r2.pres (W := []) (Pres.new hp) (fun _ z => nomatch z) (fun _ _ z => nomatch z)), f⟩
  | dic h1 r1 =>
    exfalso
    cases r1 with
    | nil => simp [slD] at e
    | @cons kk _ _ _ _ _ _ r2 t => cases kk <;> simp [slD, kD] at e
  | _ => simp [slD] at e

theorem asInts_rd {K : PySem.W.Frag} : ∀ {ds : List PyData} {us : List V} {as : List Addr} {ns : List Int}, RDs K H us ds as → asInts ds = some ns → us = ns.map V.int
  | [], _, _, _, .nil, e => by cases e; rfl
  | d :: ds, _, _, ns, .cons h t, e => by
    cases h <;> simp [asInts] at e
    obtain ⟨ms, e, rfl⟩ := e
    rw [asInts_rd t e]
    rfl
theorem asBools_rd {K : PySem.W.Frag} : ∀ {ds : List PyData} {us : List V} {as : List Addr} {ns : List Bool}, RDs K H us ds as → asBools ds = some ns → us = ns.map V.bl
  | [], _, _, _, .nil, e => by cases e; rfl
  | d :: ds, _, _, ns, .cons h t, e => by
    cases h <;> simp [asBools] at e
    obtain ⟨ms, e, rfl⟩ := e
    rw [asBools_rd t e]
    rfl
theorem cn_len : CallR X (.builtin "len") (CallN X.K (biD .len)) := by
  intro pins s σ H xs us Q I r h
  obtain ⟨ds, as, rk, rd, e, k⟩ := h
  match ds, rd, e with
  | [d], rd, e =>
    obtain ⟨x, rfl, d1⟩ := rd.one
    cases d1 with
    | lst h1 r1 =>
      simp [biD] at e
      subst e
      rw [← r1.length] at k
      exact call_len_seq pins s σ H _ us Q I r ⟨_, _, rfl, .inl (SqL.of h1), k _ _ Pres.refl (RKrep.same (.int _) noA)⟩
    | tup h1 r1 =>
      simp [biD] at e
      subst e
      rw [← r1.length] at k
      exact call_len_seq pins s σ H _ us Q I r ⟨_, _, rfl, .inr h1, k _ _ Pres.refl (RKrep.same (.int _) noA)⟩
    | scr h1 r1 =>
      simp [biD] at e
      subst e
      rw [← r1.length] at k
      exact call_len_seq pins s σ H _ us Q I r ⟨_, _, rfl, .inl h1.sql, k _ _ Pres.refl (RKrep.same (.int _) noA)⟩
    | str z =>
      simp [biD] at e
      obtain ⟨hz, rfl⟩ := e
      exact call_len_str pins s σ H _ us Q I r ⟨_, rfl, hz, k _ _ Pres.refl (RKrep.same (.int _) noA)⟩
    | dic h1 r1 =>
      exfalso
      cases r1 with
      | nil => simp [biD] at e
      | @cons kk _ _ _ _ _ _ r2 t => cases kk <;> simp [biD, kD] at e
    | _ => simp [biD] at e
  | [], _, e => simp [biD] at e
  | _ :: _ :: _, _, e => simp [biD] at e
theorem cn_int : CallR X (.type "int") (CallN X.K (biD .int)) := by
  intro pins s σ H xs us Q I r h
  obtain ⟨ds, as, rk, rd, e, k⟩ := h
  match ds, rd, e with
  | [d], rd, e =>
    obtain ⟨x, rfl, d1⟩ := rd.one
    cases d1 <;> simp [biD] at e
    · subst e
      exact call_int1 pins s σ H _ us Q I r (.inr ⟨_, rfl, k _ _ Pres.refl (RKrep.same (.int _) noA)⟩)
    · subst e
      exact call_int1 pins s σ H _ us Q I r (.inl ⟨_, rfl, k _ _ Pres.refl (RKrep.same (.int _) noA)⟩)
  | [], _, e => simp [biD] at e
  | _ :: _ :: _, _, e => simp [biD] at e
theorem cn_abs : CallR X (.builtin "abs") (CallN X.K (biD .abs)) := by
  intro pins s σ H xs us Q I r h
  obtain ⟨ds, as, rk, rd, e, k⟩ := h
  match ds, rd, e with
  | [d], rd, e =>
    obtain ⟨x, rfl, d1⟩ := rd.one
    have q : ∀ i : Int, (if i < 0 then -i else i) = ((i.natAbs : Nat) : Int) := fun i => by split <;> omega
    cases d1 <;> simp [biD] at e
    subst e
    refine call_abs pins s σ H _ us Q I r ⟨_, rfl, ?_⟩
    rw [q]
    exact k _ _ Pres.refl (RKrep.same (.int _) noA)
  | [], _, e => simp [biD] at e
  | _ :: _ :: _, _, e => simp [biD] at e
theorem cn_tuple : CallR X (.type "tuple") (CallN X.K (biD .tuple)) := by
  intro pins s σ H xs us Q I r h
  obtain ⟨ds, as, rk, rd, e, k⟩ := h
  match ds, rd, e with
  | [d], rd, e =>
    obtain ⟨x, rfl, d1⟩ := rd.one
    cases d1 with
    | lst h1 r1 =>
      simp [biD] at e
      subst e
      exact call_tuple_of pins s σ H _ us Q I r ⟨_, _, rfl, .inl ⟨SqL.of h1, fun l hl => k _ _ (Pres.new hl) ⟨_, .tup (.inl (.inl upd_same)) (r1.pres (W := []) (Pres.new hl) (fun _ z => nomatch z) (fun _ _ z => nomatch z)), fun a z => List.mem_cons_of_mem _ z⟩⟩⟩
    | tup h1 r1 =>
      simp [biD] at e
      subst e
      exact call_tuple_of pins s σ H _ us Q I r ⟨_, _, rfl, .inr ⟨h1, k _ _ Pres.refl (RKrep.same (.tup h1 r1) fun a z => z)⟩⟩
    | _ => simp [biD] at e
  | [], _, e => simp [biD] at e
  | _ :: _ :: _, _, e => simp [biD] at e
theorem cn_list : CallR X (.type "list") (CallN X.K (biD .list)) := by
  intro pins s σ H xs us Q I r h
  obtain ⟨ds, as, rk, rd, e, k⟩ := h
  match ds, rd, e with
  | [d], rd, e =>
    obtain ⟨x, rfl, d1⟩ := rd.one
    cases d1 with
    | lst h1 r1 =>
      simp [biD] at e
      subst e
      exact call_list_of pins s σ H _ us Q I r ⟨_, _, rfl, .inl (SqL.of h1), fun l hl => k _ _ (Pres.new hl) ⟨l, _, _, rfl, hl, upd_same, r1.pres (W := []) (Pres.new hl) (fun _ z => nomatch z) (fun _ _ z => nomatch z), fun a z => List.mem_cons_of_mem _ z⟩⟩
    | tup h1 r1 =>
      simp [biD] at e
      subst e
      exact call_list_of pins s σ H _ us Q I r ⟨_, _, rfl, .inr h1, fun l hl => k _ _ (Pres.new hl) ⟨l, _, _, rfl, hl, upd_same, r1.pres (W := []) (Pres.new hl) (fun _ z => nomatch z) (fun _ _ z => nomatch z), fun a z => z⟩⟩
    | _ => simp [biD] at e
  | [], _, e => simp [biD] at e
  | _ :: _ :: _, _, e => simp [biD] at e
theorem cn_sum (hc : X.calm = true) : CallR X (.builtin "sum") (CallN X.K (biD .sum)) := by
  intro pins s σ H xs us Q I r h
  obtain ⟨ds, as, rk, rd, e, k⟩ := h
  match ds, rd, e with
  | [d], rd, e =>
    obtain ⟨x, rfl, d1⟩ := rd.one
    cases d1 with
    | lst h1 r1 =>
      simp [biD] at e
      obtain ⟨ns, e', rfl⟩ := e
      rw [asInts_rd r1 e'] at h1
      exact cr_sum hc pins s σ H _ us Q I r ⟨_, ns, rfl, SqL.of h1, k _ _ Pres.refl (RKrep.same (.int _) noA)⟩
    | _ => simp [biD] at e
  | [], _, e => simp [biD] at e
  | _ :: _ :: _, _, e => simp [biD] at e
theorem cn_all (hc : X.calm = true) : CallR X (.builtin "all") (CallN X.K (biD .all)) := by
  intro pins s σ H xs us Q I r h
  obtain ⟨ds, as, rk, rd, e, k⟩ := h
  match ds, rd, e with
  | [d], rd, e =>
    obtain ⟨x, rfl, d1⟩ := rd.one
    cases d1 with
    | lst h1 r1 =>
      simp [biD] at e
      obtain ⟨ns, e', rfl⟩ := e
      rw [asBools_rd r1 e'] at h1
      exact cr_all hc pins s σ H _ us Q I r ⟨_, ns, rfl, SqL.of h1, k _ _ Pres.refl (RKrep.same (.bl _) noA)⟩
    | _ => simp [biD] at e
  | [], _, e => simp [biD] at e
  | _ :: _ :: _, _, e => simp [biD] at e
theorem depth0 {d : PyData} (h : d.depth ≤ 40) {u : Nat} (hu : u + 64 < cLine) : u + (d.depth + 1) < cLine := by omega
theorem cn_repr (hg : X.A.guards = some []) (hu : X.A.units + 64 < cLine) : CallR X (.builtin "repr") (CallN X.K (biD .repr)) := by
  intro pins s σ H xs us Q I r h
  obtain ⟨ds, as, rk, rd, e, k⟩ := h
  match ds, rd, e with
  | [d], rd, e =>
    obtain ⟨x, rfl, d1⟩ := rd.one
    obtain ⟨u, rfl, ru⟩ := vals1 r
    simp only [biD] at e
    split at e <;> cases e
    rename_i hq
    simp only [Bool.and_eq_true, decide_eq_true_eq, Bool.not_eq_true'] at hq
    have hsc : sc d = true := sc_plain d hq.2
    obtain ⟨bs, q⟩ := d1.reads I hsc ru
    have fin : ∀ (h' : Heap) (t : Tok) (tk : Nat), (∀ b o, s.heap.get? b = some o → h'.get? b = some o) → EP X pins σ Q (.str d.shown t) { s with heap := h', toks := tk } := fun h' t tk hk =>
      ⟨.str _, H, I.kept hk, ⟨t, rfl⟩, k _ _ Pres.refl (RKrep.same (.str _) noA)⟩
    cases q with
    | none => exact PySem.P.repr_of_none (fin _ _ _ fun _ _ z => z)
    | bool b => exact PySem.P.repr_of_bool (fin _ _ _ fun _ _ z => z)
    | int i t => exact PySem.P.repr_of_int (by simpa [PyData.showable] using hq.1.1.1) (fin _ _ _ fun _ _ z => z)
    | str z t => exact PySem.P.repr_of_str (fin _ _ _ fun _ _ z => z) (by simpa [PyData.shown] using hq.1.2)
    | list a1 a2 a3 a4 => exact repr_of_reads' (Reads.list a1 a2 a3 a4) hq.1.1.1 (fun z => by rw [noDict_plain _ hq.2] at z; cases z) hg (depth0 hq.1.1.2 hu) (fun _ _ z => z) (fun h' t tk hk => fin h' t tk hk) hq.1.2
    | tuple a1 a2 a3 a4 => exact repr_of_reads' (Reads.tuple a1 a2 a3 a4) hq.1.1.1 (fun z => by rw [noDict_plain _ hq.2] at z; cases z) hg (depth0 hq.1.1.2 hu) (fun _ _ z => z) (fun h' t tk hk => fin h' t tk hk) hq.1.2
    | dict a1 a2 a3 a4 a5 => exact absurd hq.2 (by simp [PyData.plain])
  | [], _, e => simp [biD] at e
  | _ :: _ :: _, _, e => simp [biD] at e

theorem sortable_iff {ds : List PyData} (h : sortable ds = true) : (∀ d ∈ ds, d.plain = true ∧ d.depth ≤ 40) ∧ W.AllAlike ds ∧ W.Sortable ds := by
  unfold sortable at h
  simp only [Bool.and_eq_true, Bool.or_eq_true, List.all_eq_true] at h
  obtain ⟨⟨h1, h2⟩, h3⟩ := h
  refine ⟨fun d z => okD_iff.mp (h1 d z), fun d z e w => h2 d z e w, ?_⟩
  rcases h3 with h3 | h3
  · left
    intro d z
    have q := h3 d z
    unfold neTup at q
    split at q
    · exact ⟨_, _, rfl⟩
    · cases q
  · right
    intro d z
    have q := h3 d z
    unfold noTup at q
    split at q
    · cases q
    · cases q
    · rename_i a b
      exact ⟨fun e => b e, fun xs e => a xs e⟩
theorem each_of {K : PySem.W.Frag} (I : Inv X pins σ H s) {as : List Addr} : ∀ {ds : List PyData} {us : List V} {its : List Value} {bs : List Addr}, RDs X.K H us ds bs → (∀ a ∈ bs, a ∈ as) → Vals us its → W.EachIs (fun v d => ∃ x cs, RelV x v ∧ RD X.K H x d cs ∧ ∀ a ∈ cs, a ∈ as) its ds
  | _, _, _, _, .nil, _, r => by cases r; exact .nil
  | _, _, _, _, .cons h t, f, r => by
    cases r with
    | cons r1 r2 => exact .cons ⟨_, _, r1, h, fun a z => f a (List.mem_append_left _ z)⟩ (each_of (K := K) I t (fun a z => f a (List.mem_append_right _ z)) r2)
theorem each_back {as : List Addr} : ∀ {ds : List PyData} {its : List Value}, W.EachIs (fun v d => ∃ x cs, RelV x v ∧ RD X.K H x d cs ∧ ∀ a ∈ cs, a ∈ as) its ds → ∃ us bs, Vals us its ∧ RDs X.K H us ds bs ∧ ∀ a ∈ bs, a ∈ as
  | _, _, .nil => ⟨[], [], .nil, .nil, fun _ z => nomatch z⟩
  | _, _, .cons h t => by
    obtain ⟨x, cs, r, d, f⟩ := h
    obtain ⟨us, bs, r', d', f'⟩ := each_back t
    exact ⟨_, _, .cons r r', .cons d d', fun a z => (List.mem_append.mp z).elim (f a) (f' a)⟩
theorem cn_sorted (hu : X.A.units + 64 < cLine) : CallR X (.builtin "sorted") (CallN X.K (biD .sorted)) := by
  intro pins s σ H xs us Q I r h
  obtain ⟨ds, as, rk, rd, e, k⟩ := h
  match ds, rd, e with
  | [d], rd, e =>
    obtain ⟨x, rfl, d1⟩ := rd.one
    obtain ⟨u, rfl, ru⟩ := vals1 r
    cases d1 with
    | @lst a1 xs1 ds1 as1 h1 r1 =>
      simp only [biD] at e
      split at e <;> cases e
      rename_i hq
      simp only [Bool.and_eq_true, decide_eq_true_eq] at hq
      obtain ⟨q1, q2, q3⟩ := sortable_iff hq.1
      cases ru
      obtain ⟨its, rv, hl, hz⟩ := I.list (SqL.of h1)
      have e1 := each_of (K := X.K) I r1 (fun a z => List.mem_cons_of_mem a1 z) rv
      have hlen : its.length = ds1.length := by rw [← rv.length, r1.length]
      refine W.sorted_data (bs := ds1) (enc := id) (vs := its) hl.isList e1 ?_ (by rw [List.map_id]; exact q2) (by rw [List.map_id]; exact q3) hq.2 (fun b z => by have := (q1 b z).2; show X.A.units + 2 + b.depth < cLine; omega) fun out ho eo => ?_
      · have go : ∀ {ds : List PyData} {its : List Value}, (∀ d ∈ ds, d.plain = true ∧ d.depth ≤ 40) → W.EachIs (fun v d => ∃ x cs, RelV x v ∧ RD X.K H x d cs ∧ ∀ a ∈ cs, a ∈ a1 :: as1) its ds → W.EachIs (fun v b => ∃ as, Reads s.heap v (id b) as) its ds := by
          intro ds its hp he
          induction he with
          | nil => exact .nil
          | cons h t ih =>
            obtain ⟨x, cs, r, d, _⟩ := h
            exact .cons (d.reads I (sc_plain _ (hp _ List.mem_cons_self).1) r) (ih fun d z => hp d (List.mem_cons_of_mem _ z))
        exact go q1 e1
      · obtain ⟨ws, bs, rv2, rd2, f2⟩ := each_back eo
        obtain ⟨ep, he'⟩ := PyProof.Rows.sortedAll_at s.heap its out.toArray
        have hn : H (s.heap.objs.size + 1) = none := I.hok.fresh (Nat.le_succ _)
        refine ⟨.ref _, upd H (s.heap.objs.size + 1) (.lst ws), I.laid (t' := s.toks) (fun _ _ => PyProof.Rows.sortedAll_old) (Nat.le_succ _) ⟨by rw [rv2.length, ho]; exact hq.2, out, ep, rv2, he'⟩, rfl, ?_⟩
        exact k _ _ (Pres.new hn) ⟨_, ws, bs, rfl, hn, upd_same, rd2.pres (W := []) (Pres.new hn) (fun _ z => nomatch z) (fun _ _ z => nomatch z), f2⟩
    | _ => simp [biD] at e
  | [], _, e => simp [biD] at e
  | _ :: _ :: _, _, e => simp [biD] at e
end
end MP
/-! MP.9: a def's promise, where no text of a thing is being made around it -/
namespace MP
open PySem PySem.Spec PyProof.Rows L2

structure FnG (P : Program) (w : World) (K : PySem.W.Frag) (mg : Str → Option Value) (base : Heap) (k : Nat) (f : Addr) (fd : FuncData) (ps : List Str) (sp : Sp) : Prop where
  len : ∀ vs H Q E, sp vs H Q E → vs.length = ps.length
  run : ∀ (A : Around) (outer : List Env) (s : Shared) (H : Hp) (args : Args) (us : List Value) (vs : List V) (Q : VK) (E : XK), Room k A → A.guards = some [] → Env0 P w K mg base A outer s H → BindsTo s fd args (ps.zip us) → Vals vs us → sp vs H Q E →
    codeAny (model P w) A (.call (.ref f) args) (CR (L2.CX P w) outer P w H s Q E) s
theorem FnG.imp {P : Program} {w : World} {K : PySem.W.Frag} {mg : Str → Option Value} {base : Heap} {k : Nat} {f : Addr} {fd : FuncData} {ps : List Str} {sp sp' : Sp} (F : FnG P w K mg base k f fd ps sp) (h : ∀ vs H Q E, sp' vs H Q E → sp vs H Q E) :
    FnG P w K mg base k f fd ps sp' := ⟨fun vs H Q E q => F.len vs H Q E (h _ _ _ _ q), fun A outer s H args us vs Q E hr hg he hb hv hs => F.run A outer s H args us vs Q E hr hg he hb hv (h _ _ _ _ hs)⟩

section
variable {X : Cx} {k : Nat} {f : Addr} {fd : FuncData} {ps : List Str} {sp : Sp} {W : WX}
/-- the callee runs; args: as they are handed over, us: as the parameters get them -/
theorem run_fnG {pins : List (Addr × Obj)} {σ : L2.St} {H : Hp} {s : Shared} {Q : VK} {us : List Value} {vs : List V} {args : Args} (F : FnG X.prog X.w X.K X.mg X.base k f fd ps sp) (hr : Room k X.A) (hg : X.A.guards = some []) (tk : Takes X W)
    (I : Inv X pins σ H s) (hb : BindsTo s fd args (ps.zip us)) (r : Vals vs us) (h : sp vs H Q (fun cl d H' => W cl d σ H')) : codeAny (model X.prog X.w) X.A (.call (.ref f) args) (fun r s' => match r with
      | .ok (.ret u) => EP X pins σ Q u s'
      | .ok _ => False
      | .error e => X.xe e s') s := by
  refine codeAny_mono (F.run X.A X.stack s H args us vs Q (fun cl d H' => W cl d σ H') hr hg I.env0 hb r h) fun r s' hq => ?_
  cases r with
  | error e => exact passAt tk σ pins H s e s' I hq
  | ok fl =>
    cases fl with
    | ret u => exact I.after hq
    | next => exact False.elim hq
    | brk => exact False.elim hq
    | cont => exact False.elim hq
theorem call_fnG {pins : List (Addr × Obj)} {σ : L2.St} {H : Hp} {s : Shared} {Q : VK} {us : List Value} {vs : List V} (F : FnG X.prog X.w X.K X.mg X.base k f fd ps sp) (hr : Room k X.A) (hg : X.A.guards = some []) (tk : Takes X W) (hb : Binds X.K fd ps [])
    (I : Inv X pins σ H s) (r : Vals vs us) (h : sp vs H Q (fun cl d H' => W cl d σ H')) : wpAny (model X.prog X.w) X.A (call (.ref f) us) (EP X pins σ Q) X.xe s := by
  have hl : us.length = ps.length := by rw [← r.length]; exact F.len _ _ _ _ h
  have b := hb s us I.kIn (by rw [List.append_nil]; exact hl)
  rw [List.append_nil] at b
  refine wpAny_call (codeAny_mono (run_fnG F hr hg tk I b r h) fun r s' hq => ?_)
  cases r with
  | error e => exact hq
  | ok fl => cases fl <;> exact hq
end

/-- a def by its body -/
theorem fn_ofG {P : Program} {w : World} {K : PySem.W.Frag} {mg : Str → Option Value} {base : Heap} {k : Nat} {f : Addr} {x qual : Str} {st : Stmt} {fd : FuncData} {N ps : List Str} {sp : Sp} (F : Fun K x qual st f fd) (S : FnScope N ps (defScope st))
    (len : ∀ vs H Q E, sp vs H Q E → vs.length = ps.length)
    (hbody : ∀ (cdv : Value) (A : Around) (outer : List Env) (s : Shared) (H : Hp) (vs : List V) (Q : VK) (E : XK), Room k (A.deeper (envOfC qual (defScope st) s.heap.objs.size f cdv)) → A.guards = some [] → sp vs H Q E →
      ∃ t, PSs (cxOf (L2.CX P w) P w K mg base N qual (defScope st) f cdv A outer s H E) (defBody st) t ∧ t { nx := fun _ H' => Q .non H', rt := Q } (start N vs) H) : FnG P w K mg base (k + 1) f fd ps sp := by
  obtain ⟨oc, od, kV, doc, pm, an, cdv, ct, osl, rfl, lk, hcd⟩ := F.ex
  refine ⟨len, fun A outer s H args us vs Q E hr hg e0 hb r hsp => ?_⟩
  have KX : K.In s.heap := e0.mod.kin.keeps fun b o e => (e0.bs b o e).1
  have lim : s.heap.NoLimit := e0.mod.nolimit.keeps fun b o e => (e0.bs b o e).1
  refine codeAny_call_function hr.depth (KX _ _ lk) rfl S.co S.gen rfl (PySem.W.codeRec_of KX hcd) (hb _ _ _ _ ?_)
  refine wpAny_newFunctionEnv_cells S.kind (fun ⟨n, v⟩ hy => ?_) fun env he s1 x => ?_
  · rcases S.par n (List.of_mem_zip hy).1 with q | q
    · exact .inl q
    · exact .inr ⟨q, PySem.W.cellsFrom_some _ _ _ (.inl q)⟩
  subst he
  refine ⟨lim.keeps x.toInCall.keep, codeAny_func ?_⟩
  obtain ⟨t, ht, hq⟩ := hbody cdv A outer s H vs Q E (hr.deeper _) hg hsp
  have I : Inv (cxOf (L2.CX P w) P w K mg base N qual (defScope st) f cdv A outer s H E) [] (start N vs) H s1 := inv_start S hr.hd e0 (len _ _ _ _ hsp) r x
  refine wpAny_mono (ht.run [] s1 (start N vs) H _ I hq) (fun fl s' hs => ?_) fun e s' hs => hs
  cases fl with
  | ret u =>
    obtain ⟨v, σ', H', J, rv, q⟩ := hs
    exact ⟨v, H', J.os, J.bare, J.base, J.hok, rv, q⟩
  | next =>
    obtain ⟨σ', H', J, q⟩ := hs
    exact ⟨V.non, H', J.os, J.bare, J.base, J.hok, rfl, q⟩
  | brk =>
    obtain ⟨_, _, _, q⟩ := hs
    exact False.elim q
  | cont =>
    obtain ⟨_, _, _, q⟩ := hs
    exact False.elim q
end MP
/-! MP.10: expressions, form by form -/
namespace MP
open PySem PySem.Spec PyProof.Rows L2

theorem PEw {X : Cx} {e : Expr} {t t' : TE} (h : PE X e t) (w : ∀ σ H Q, t' σ H Q → t σ H Q) : PE X e t' := ⟨fun pins s σ H Q I q => h.run pins s σ H Q I (w σ H Q q)⟩
theorem PTw {X : Cx} {e : Expr} {t t' : TT} (h : PT X e t) (w : ∀ σ H Q, t' σ H Q → t σ H Q) : PT X e t' := ⟨fun pins s σ H Q I q => h.run pins s σ H Q I (w σ H Q q)⟩

section
variable {Y : Yx} {X : Cx} {ea eb ec : Expr} {ba bb bc : Bool} {fa fb fc : EvF} {pos : Pos}

/-- a value that is there, nothing done -/
theorem tG_here {vs : L2.St} {H : Hp} {Q : VK} {f : EvF} {b : Bool} {v : V} {g : LS → LV} (hf : ∀ s, f s = .ok (g s, s)) (hr : ∀ R m A B s, LI Y.K H R vs s m A B → Rp Y.K H m (Fz R (A ++ B)) v (g s) []) (h : tG Y b (relV Y) f vs H Q) : Q v H := by
  obtain ⟨s, R, m, A, B, l, n, h⟩ := h
  rw [hf s] at h
  refine h v H m A B [] (Stp.refl l) ?_
  rw [List.append_nil]
  exact hr R m A B s l
theorem okConst {d : PyData} {v : V} (r : ∀ H, RD Y.K H v d []) {vs : L2.St} {H : Hp} {Q : VK} {b : Bool} (h : tG Y b (relV Y) (fun s => .ok (.imm d, s)) vs H Q) : Q v H :=
  tG_here (g := fun _ => .imm d) (fun _ => rfl) (fun _ _ _ _ _ _ => .imm (r H) fun _ z => nomatch z) h
theorem se_none {k pos b} : SE Y X b (fun s => .ok (.imm .none, s)) (.Constant .none k pos) := PEw pe_non fun _ _ _ h => okConst (fun _ => .non) h
theorem se_bool {k pos b} {c : Bool} : SE Y X b (fun s => .ok (.imm (.bool c), s)) (.Constant (.bool c) k pos) := PEw pe_bl fun _ _ _ h => okConst (fun _ => .bl c) h
theorem se_int {k pos b} {i : Int} : SE Y X b (fun s => .ok (.imm (.int i), s)) (.Constant (.int i) k pos) := PEw pe_int fun _ _ _ h => okConst (fun _ => .int i) h
theorem se_str {k pos b} {x : Str} : SE Y X b (fun s => .ok (.imm (.str x), s)) (.Constant (.str x) k pos) := PEw pe_str fun _ _ _ h => okConst (fun _ => .str x) h
theorem se_glob {x : Str} {d : PyData} {v : V} {u : Value} {b : Bool} (hg : Gl X x) (hm : X.mg x = some u) (r : RelV v u) (hd : (x == ("__debug__" : Str)) = false) (rd : ∀ H, RD Y.K H v d []) : SE Y X b (fun s => .ok (.imm d, s)) (.Name x pos) :=
  PEw (pe_glob hg hm r hd) fun _ _ _ h => okConst rd h

theorem readV_rp {H : Hp} {m : List Addr} {F : Addr → Prop} {v : V} {x y : LV} {O OB : List Addr} {ob : List LV} (r : Rp Y.K H m F v x O) (ro : Rps Y.K H m F (m.map V.ref) ob OB) (e : readV ob x = some y) : Rp Y.K H m F v y [] := by
  have lent : ∀ {d : PyData}, x.dat ob = some d → Rp Y.K H m F v (mkLent d) [] := fun {d} e => by
    obtain ⟨as, q, _⟩ := r.rd ro e
    have := mkImm_rp (m := m) (F := F) (len := true) q (fun z => nomatch z)
    exact this
  cases x with
  | imm d =>
    cases e
    cases r with
    | imm q f => exact .imm q f
  | lent d =>
    cases e
    cases r with
    | lent q => exact .lent q
  | ref l =>
    cases e
    cases r with
    | ref q => exact .ref q
  | lst xs => obtain ⟨d, e1, rfl⟩ := Option.map_eq_some_iff.mp e; exact lent e1
  | tup xs => obtain ⟨d, e1, rfl⟩ := Option.map_eq_some_iff.mp e; exact lent e1
  | dic xs => obtain ⟨d, e1, rfl⟩ := Option.map_eq_some_iff.mp e; exact lent e1
theorem se_var {i : Nat} {x : Str} {b : Bool} (hN : X.N[i]? = some x) (hv : Vis X.env.scope x) (hd : (x == ("__debug__" : Str)) = false) (hcd : (x == ("__classdict__" : Str)) = false) : SE Y X b (varE i) (.Name x pos) := by
  refine PEw (pe_var hN hv hd hcd) fun vs H Q h => ?_
  obtain ⟨s, R, m, A, B, l, n, h⟩ := h
  unfold varE at h
  split at h
  · rename_i x hx
    obtain ⟨u, P, e1, r, _⟩ := l.sl.get hx
    split at h
    · rename_i y hy
      refine ⟨u, e1, h u H m A B [] (Stp.refl l) ?_⟩
      rw [List.append_nil]
      exact readV_rp r l.ob hy
    · exact h.elim
  · exact h.elim

theorem se_op {op : Operator} {g : PyData → PyData → Option RK} (ho : OpR X (binaryOp op) (Op2 Y.K g)) (ha : SE Y X ba fa ea) (hb : SE Y X bb fb eb) : SE Y X (ba || bb) (op2E g lvB bb fa fb) (.BinOp ea op eb pos) :=
  PEw (pe_op ho ha hb) fun vs H Q h => seq_op lvB (fun x y r => ⟨_, rfl, fun e => by simpa using e⟩) h
theorem se_cmp {op : CmpOp} (ho : OpR X (compareOp op) (Op2 Y.K (cmpK op))) (ha : SE Y X ba fa ea) (hb : SE Y X bb fb eb) (hm : behindInMarks op eb = false) : SE Y X (ba || bb) (op2E (cmpK op) lvC bb fa fb) (.Compare ea [op] [eb] pos) :=
  PEw (pe_cmpR ho ha hb hm) fun vs H Q h => by
    refine seq_op (fun x y r => r.lv true) (fun x y r => ⟨true, rfl, fun z => nomatch z⟩) ?_
    obtain ⟨s, R, m, A, B, l, n, h⟩ := h
    refine ⟨s, R, m, A, B, l, n, ?_⟩
    have e : ∀ s, op2E (cmpK op) lvC bb fa fb s = op2E (cmpK op) (fun x y r => r.lv true) bb fa fb s := fun s => by
      unfold op2E
      congr 1
      funext p
      split
      · rfl
      congr 1
      funext q
      split
      · split
        · rename_i r hr
          unfold cmpK at hr
          obtain ⟨b, _, rfl⟩ := Option.map_eq_some_iff.mp hr
          rfl
        · rfl
      · rfl
    rw [e s] at h
    exact h
theorem se_ix (ho : IxR X (Op2 Y.K ixK)) (ha : SE Y X ba fa ea) (hb : SE Y X bb fb eb) (hs : PlainIx eb) : SE Y X (ba || bb) (op2E ixK lvB bb fa fb) (.Subscript ea eb pos) :=
  PEw (pe_ix ho ha hb hs) fun vs H Q h => seq_op lvB (fun x y r => ⟨_, rfl, fun e => by simpa using e⟩) h

theorem tG.mono {α β : Type} {b : Bool} {rel : Rel α β} {f : LS → Res (α × LS)} {vs : L2.St} {H : Hp} {Q Q' : β → Hp → Prop} (h : tG Y b rel f vs H Q) (w : ∀ y H, Q y H → Q' y H) : tG Y b rel f vs H Q' := by
  obtain ⟨s, R, m, A, B, l, n, h⟩ := h
  refine ⟨s, R, m, A, B, l, n, ?_⟩
  revert h
  cases f s with
  | ok p => exact fun h y H' m' A' B' Ov x r => w _ _ (h y H' m' A' B' Ov x r)
  | exc c ps s' => exact id
  | stuck => exact id
/-- the rest is the last part -/
theorem Post.tail {H H1 : Hp} {R : Addr → Prop} {vs : L2.St} {s s1 : LS} {m A B m1 A1 B1 : List Addr} {b b1 b2 : Bool} {Q : VK} {r : Res (LV × LS)} (h : Post Y H R vs s m A B b (relV Y) r Q) (x1 : Stp Y.K H R vs s m A B b1 H1 s1 m1 A1 B1 []) (hb : b = false → b1 = false ∧ b2 = false) :
    Post Y H1 (Rv R []) vs s1 m1 A1 B1 b2 (relV Y) r Q := by
  cases r with
  | ok p =>
    intro y H2 m2 A2 B2 P2 x2 r2
    refine h y H2 m2 A2 B2 P2 ((x1.seq x2).any fun e => ?_) ?_
    · obtain ⟨e1, e2⟩ := hb e
      rw [e1, e2]; rfl
    · have r3 : Rp Y.K H2 m2 (Fz (Rv R []) (A2 ++ B2 ++ P2)) y p.1 P2 := r2
      rw [Rv_nil] at r3
      exact r3
  | exc c ps s' =>
    refine fun cl d H' m' A' B' x q => h cl d H' m' A' B' ((x1.seq x).any fun e => ?_) (by rw [Rv_nil] at q; exact q)
    obtain ⟨e1, e2⟩ := hb e
    rw [e1, e2]; rfl
  | stuck => exact h
/-! ### tests -/
theorem boolOf_rp {H : Hp} {m : List Addr} {F : Addr → Prop} {v : V} {x : LV} {O : List Addr} {c : Bool} (r : Rp Y.K H m F v x O) (e : boolOf x = some c) : v = .bl c ∧ O = [] := by
  unfold boolOf at e
  split at e
  · cases e
    cases r with
    | imm q f =>
      cases q
      exact ⟨rfl, rfl⟩
  · cases e
theorem tst_val {b : Bool} {vs : L2.St} {H : Hp} {Q : Bool → Hp → Prop} (h : tG Y b relB (fun s => tstR (fa s)) vs H Q) : tG Y b (relV Y) fa vs H (fun x H1 => ∃ c, x = .bl c ∧ Q c H1) := by
  obtain ⟨s, R, m, A, B, l, n, h⟩ := h
  refine ⟨s, R, m, A, B, l, n, h.split id fun p hp h1 y H1 m1 A1 B1 P x1 r1 => ?_⟩
  cases e : boolOf p.1 with
  | none => rw [e] at h1; exact h1.elim
  | some c =>
    rw [e] at h1
    obtain ⟨rfl, rfl⟩ := boolOf_rp r1 e
    exact ⟨c, rfl, h1 c H1 m1 A1 B1 [] x1 ⟨rfl, rfl⟩⟩
theorem st_val {b : Bool} (h : SE Y X b fa ea) (he : ∀ whole, isTrue ea X.env whole = (do let v ← whole; standAt ea.pos; holding [v] (truthy v))) : ST Y X b (fun s => tstR (fa s)) ea :=
  PTw (pt_val h he) fun vs H Q h => tst_val h
theorem st_of {t : TE} {b : Bool} (h : PT X ea (tTest t)) (w : ∀ σ H Q, tG Y b (relV Y) fa σ H Q → t σ H Q) : ST Y X b (fun s => tstR (fa s)) ea :=
  PTw h fun vs H Q q => w vs H _ (tst_val q)
theorem cmp_conv {op : CmpOp} {vs : L2.St} {H : Hp} {Q : VK} (h : tG Y (ba || bb) (relV Y) (op2E (cmpK op) lvC bb fa fb) vs H Q) : tOp (Op2 Y.K (cmpK op)) (tG Y ba (relV Y) fa) (tG Y bb (relV Y) fb) vs H Q := by
  refine seq_op (fun x y r => r.lv true) (fun x y r => ⟨true, rfl, fun z => nomatch z⟩) ?_
  obtain ⟨s, R, m, A, B, l, n, h⟩ := h
  refine ⟨s, R, m, A, B, l, n, ?_⟩
  have e : ∀ s, op2E (cmpK op) lvC bb fa fb s = op2E (cmpK op) (fun x y r => r.lv true) bb fa fb s := fun s => by
    unfold op2E
    congr 1
    funext p
    split
    · rfl
    congr 1
    funext q
    split
    · split
      · rename_i r hr
        unfold cmpK at hr
        obtain ⟨b, _, rfl⟩ := Option.map_eq_some_iff.mp hr
        rfl
      · rfl
    · rfl
  rw [e s] at h
  exact h
theorem st_cmp {op : CmpOp} (ho : OpR X (compareOp op) (Op2 Y.K (cmpK op))) (ha : SE Y X ba fa ea) (hb : SE Y X bb fb eb) (hm : behindInMarks op eb = false) : ST Y X (ba || bb) (fun s => tstR (op2E (cmpK op) lvC bb fa fb s)) (.Compare ea [op] [eb] pos) :=
  st_of (pt_cmpR ho ha hb hm) fun vs H Q h => cmp_conv h

/-- two tests in a row -/
theorem and_conv {vs : L2.St} {H : Hp} {Q : Bool → Hp → Prop} (h : tG Y (ba || bb) relB (fun s => tstR (andE fa fb s)) vs H Q) :
    tAnd (tG Y ba relB fun s => tstR (fa s)) (tG Y bb relB fun s => tstR (fb s)) vs H Q := by
  obtain ⟨s, R, m, A, B, l, n, h⟩ := h
  have e : tstR (andE fa fb s) = (tstR (fa s)).bind fun p => if p.1 then (tstR (fb p.2)).bind fun q => .ok (q.1, q.2) else .ok (false, p.2) := by
    unfold andE tstR
    cases fa s with
    | ok p =>
      simp only [Res.bind]
      cases boolOf p.1 with
      | none => rfl
      | some c =>
        simp only [Res.bind]
        cases c with
        | false => rfl
        | true =>
          simp only [if_true]
          cases fb p.2 with
          | ok q => simp only [Res.bind]; cases boolOf q.1 <;> rfl
          | exc _ _ _ => rfl
          | stuck => rfl
    | exc _ _ _ => rfl
    | stuck => rfl
  simp only [e] at h
  refine ⟨s, R, m, A, B, l, fun e => n (by rw [e]; rfl), h.split (fun e => by cases ba <;> simp_all) fun p hp h1 y H1 m1 A1 B1 P x1 r1 => ?_⟩
  obtain ⟨rfl, rfl⟩ := r1
  cases hc : p.1 with
  | false =>
    rw [if_neg Bool.false_ne_true]
    rw [hc] at h1
    exact h1 false H1 m1 A1 B1 [] (x1.any fun e => by cases ba <;> simp_all) ⟨rfl, rfl⟩
  | true =>
    rw [if_pos rfl]
    rw [hc, if_pos rfl] at h1
    refine ⟨p.2, Rv R [], m1, A1, B1, x1.li, fun e => x1.nl (n (by rw [e]; cases ba <;> rfl)), h1.next x1 (fun e => by cases ba <;> cases bb <;> simp_all) fun q hq h2 z H2 m2 A2 B2 P2 x2 r2 => ?_⟩
    obtain ⟨rfl, rfl⟩ := r2
    exact h2 q.1 H2 m2 A2 B2 [] ((x1.seq x2).any (fun e => by cases ba <;> cases bb <;> simp_all)) ⟨rfl, rfl⟩
theorem or_conv {vs : L2.St} {H : Hp} {Q : Bool → Hp → Prop} (h : tG Y (ba || bb) relB (fun s => tstR (orE fa fb s)) vs H Q) :
    tOr (tG Y ba relB fun s => tstR (fa s)) (tG Y bb relB fun s => tstR (fb s)) vs H Q := by
  obtain ⟨s, R, m, A, B, l, n, h⟩ := h
  have e : tstR (orE fa fb s) = (tstR (fa s)).bind fun p => if p.1 then .ok (true, p.2) else (tstR (fb p.2)).bind fun q => .ok (q.1, q.2) := by
    unfold orE tstR
    cases fa s with
    | ok p =>
      simp only [Res.bind]
      cases boolOf p.1 with
      | none => rfl
      | some c =>
        simp only [Res.bind]
        cases c with
        | true => rfl
        | false =>
          simp only [Bool.false_eq_true, if_false]
          cases fb p.2 with
          | ok q => simp only [Res.bind]; cases boolOf q.1 <;> rfl
          | exc _ _ _ => rfl
          | stuck => rfl
    | exc _ _ _ => rfl
    | stuck => rfl
  simp only [e] at h
  refine ⟨s, R, m, A, B, l, fun e => n (by rw [e]; rfl), h.split (fun e => by cases ba <;> simp_all) fun p hp h1 y H1 m1 A1 B1 P x1 r1 => ?_⟩
  obtain ⟨rfl, rfl⟩ := r1
  cases hc : p.1 with
  | true =>
    rw [if_pos rfl]
    rw [hc] at h1
    exact h1 true H1 m1 A1 B1 [] (x1.any fun e => by cases ba <;> simp_all) ⟨rfl, rfl⟩
  | false =>
    rw [if_neg Bool.false_ne_true]
    rw [hc, if_neg Bool.false_ne_true] at h1
    refine ⟨p.2, Rv R [], m1, A1, B1, x1.li, fun e => x1.nl (n (by rw [e]; cases ba <;> rfl)), h1.next x1 (fun e => by cases ba <;> cases bb <;> simp_all) fun q hq h2 z H2 m2 A2 B2 P2 x2 r2 => ?_⟩
    obtain ⟨rfl, rfl⟩ := r2
    exact h2 q.1 H2 m2 A2 B2 [] ((x1.seq x2).any (fun e => by cases ba <;> cases bb <;> simp_all)) ⟨rfl, rfl⟩
/-- a test whose value is wanted -/
theorem bool_conv {b : Bool} {f : LS → Res (Bool × LS)} {vs : L2.St} {H : Hp} {Q : VK} (h : tG Y b (relV Y) (fun s => (f s).bind fun p => .ok (.imm (.bool p.1), p.2)) vs H Q) : tG Y b relB f vs H (fun c H1 => Q (.bl c) H1) := by
  obtain ⟨s, R, m, A, B, l, n, h⟩ := h
  refine ⟨s, R, m, A, B, l, n, h.split id fun p hp h1 y H1 m1 A1 B1 P x1 r1 => ?_⟩
  obtain ⟨rfl, rfl⟩ := r1
  exact h1 _ H1 m1 A1 B1 [] x1 (.imm (.bl p.1) fun _ z => nomatch z)
abbrev SW (Y : Yx) (X : Cx) (b : Bool) (f : LS → Res (Bool × LS)) (e : Expr) : Prop := PW X e (tG Y b relB f)
theorem PWw {e : Expr} {t t' : TT} (h : PW X e t) (w : ∀ σ H Q, t' σ H Q → t σ H Q) : PW X e t' := ⟨fun wh pins s σ H Q I q => h.run wh pins s σ H Q I (w σ H Q q)⟩
theorem sw_and {rest : List Expr} (ha : ST Y X ba (fun s => tstR (fa s)) ea) (hb : SW Y X bb (fun s => tstR (fb s)) (.BoolOp .And (eb :: rest) pos)) : SW Y X (ba || bb) (fun s => tstR (andE fa fb s)) (.BoolOp .And (ea :: eb :: rest) pos) :=
  PWw (pw_and ha hb) fun vs H Q h => and_conv h
theorem sw_or {rest : List Expr} (ha : ST Y X ba (fun s => tstR (fa s)) ea) (hb : SW Y X bb (fun s => tstR (fb s)) (.BoolOp .Or (eb :: rest) pos)) : SW Y X (ba || bb) (fun s => tstR (orE fa fb s)) (.BoolOp .Or (ea :: eb :: rest) pos) :=
  PWw (pw_or ha hb) fun vs H Q h => or_conv h
theorem not_conv {b : Bool} {vs : L2.St} {H : Hp} {Q : Bool → Hp → Prop} (h : tG Y b relB (fun s => tstR (notE fa s)) vs H Q) : tNot (tG Y b relB fun s => tstR (fa s)) vs H Q := by
  obtain ⟨s, R, m, A, B, l, n, h⟩ := h
  have e : tstR (notE fa s) = (tstR (fa s)).bind fun p => .ok (!p.1, p.2) := by
    unfold notE tstR
    cases fa s with
    | ok p => simp only [Res.bind]; cases boolOf p.1 <;> rfl
    | exc _ _ _ => rfl
    | stuck => rfl
  simp only [e] at h
  refine ⟨s, R, m, A, B, l, n, h.split id fun p hp h1 y H1 m1 A1 B1 P x1 r1 => ?_⟩
  obtain ⟨rfl, rfl⟩ := r1
  exact h1 _ H1 m1 A1 B1 [] x1 ⟨rfl, rfl⟩
theorem st_not {b : Bool} (ha : ST Y X b (fun s => tstR (fa s)) ea) : ST Y X b (fun s => tstR (notE fa s)) (.UnaryOp .Not ea pos) := PTw (pt_not ha) fun vs H Q h => not_conv h
/-- a value's test from what it would be as a value: for and, or, not -/
theorem tst_same (f : EvF) (g : LS → Res (Bool × LS)) (h : ∀ s, f s = (g s).bind fun p => .ok (.imm (.bool p.1), p.2)) : ∀ s, tstR (f s) = g s := fun s => by
  rw [h s]
  unfold tstR
  cases g s <;> rfl

/-! ### and, or, not as values; one or the other -/
theorem se_not {b : Bool} (ha : SE Y X b fa ea) : SE Y X b (notE fa) (.UnaryOp .Not ea pos) := PEw (pe_not ha) fun vs H Q h => by
  have h' := bool_conv (f := fun s => (tstR (fa s)).bind fun p => .ok (!p.1, p.2)) (Y := Y) (b := b) (vs := vs) (H := H) (Q := Q) (by
    obtain ⟨s, R, m, A, B, l, n, h⟩ := h
    refine ⟨s, R, m, A, B, l, n, ?_⟩
    have e : notE fa s = ((tstR (fa s)).bind fun p => Res.ok (!p.1, p.2)).bind fun p => .ok (.imm (.bool p.1), p.2) := by
      unfold notE
      cases tstR (fa s) <;> rfl
    rw [e] at h
    exact h)
  have h2 : tG Y b relB (fun s => tstR (fa s)) vs H (fun c H1 => Q (.bl (!c)) H1) := by
    obtain ⟨s, R, m, A, B, l, n, h⟩ := h'
    refine ⟨s, R, m, A, B, l, n, h.split id fun p hp h1 y H1 m1 A1 B1 P x1 r1 => ?_⟩
    obtain ⟨rfl, rfl⟩ := r1
    exact h1 _ H1 m1 A1 B1 [] x1 ⟨rfl, rfl⟩
  exact tst_val h2
theorem se_and {rest : List Expr} (ha : SE Y X ba fa ea) (hb : SE Y X bb fb (.BoolOp .And (eb :: rest) pos)) : SE Y X (ba || bb) (andE fa fb) (.BoolOp .And (ea :: eb :: rest) pos) := PEw (pe_and ha hb) fun vs H Q h => by
  have h' : tG Y (ba || bb) relB (fun s => tstR (andE fa fb s)) vs H (fun c H1 => Q (.bl c) H1) := bool_conv (by
    obtain ⟨s, R, m, A, B, l, n, h⟩ := h
    refine ⟨s, R, m, A, B, l, n, ?_⟩
    have e : andE fa fb s = (tstR (andE fa fb s)).bind fun p => .ok (.imm (.bool p.1), p.2) := by
      unfold andE
      cases tstR (fa s) with
      | ok p =>
        simp only [Res.bind]
        cases p.1 with
        | false => rfl
        | true =>
          simp only [if_true]
          cases tstR (fb p.2) <;> rfl
      | exc _ _ _ => rfl
      | stuck => rfl
    rw [e] at h
    exact h)
  have h2 := and_conv h'
  exact tst_val (tG.mono h2 fun c H1 q => by
    cases c with
    | false => exact q
    | true => exact tG.mono (tst_val q) fun x H2 ⟨d, e, q⟩ => by rw [e]; exact q)
theorem se_or {rest : List Expr} (ha : SE Y X ba fa ea) (hb : SE Y X bb fb (.BoolOp .Or (eb :: rest) pos)) : SE Y X (ba || bb) (orE fa fb) (.BoolOp .Or (ea :: eb :: rest) pos) := PEw (pe_or ha hb) fun vs H Q h => by
  have h' : tG Y (ba || bb) relB (fun s => tstR (orE fa fb s)) vs H (fun c H1 => Q (.bl c) H1) := bool_conv (by
    obtain ⟨s, R, m, A, B, l, n, h⟩ := h
    refine ⟨s, R, m, A, B, l, n, ?_⟩
    have e : orE fa fb s = (tstR (orE fa fb s)).bind fun p => .ok (.imm (.bool p.1), p.2) := by
      unfold orE
      cases tstR (fa s) with
      | ok p =>
        simp only [Res.bind]
        cases p.1 with
        | true => rfl
        | false =>
          simp only [Bool.false_eq_true, if_false]
          cases tstR (fb p.2) <;> rfl
      | exc _ _ _ => rfl
      | stuck => rfl
    rw [e] at h
    exact h)
  have h2 := or_conv h'
  exact tst_val (tG.mono h2 fun c H1 q => by
    cases c with
    | true => exact q
    | false => exact tG.mono (tst_val q) fun x H2 ⟨d, e, q⟩ => by rw [e]; exact q)
theorem se_one {op} {b : Bool} (h : SE Y X b fa ea) : SE Y X b fa (.BoolOp op [ea] pos) := pe_one h
theorem se_ite (hc : ST Y X bc (fun s => tstR (fc s)) ec) (ha : SE Y X ba fa ea) (hb : SE Y X bb fb eb) : SE Y X (bc || ba || bb) (iteE fc fa fb) (.IfExp ec ea eb pos) := PEw (pe_ifExp hc ha hb) fun vs H Q h => by
  obtain ⟨s, R, m, A, B, l, n, h⟩ := h
  refine ⟨s, R, m, A, B, l, fun e => n (by rw [e]; rfl), h.split (fun e => by cases bc <;> simp_all) fun p hp h1 y H1 m1 A1 B1 P x1 r1 => ?_⟩
  obtain ⟨rfl, rfl⟩ := r1
  cases hq : p.1 with
  | true =>
    rw [if_pos rfl]
    rw [hq, if_pos rfl] at h1
    exact ⟨p.2, Rv R [], m1, A1, B1, x1.li, fun e => x1.nl (n (by rw [e]; cases bc <;> rfl)), h1.tail x1 (fun e => by cases bc <;> cases ba <;> simp_all)⟩
  | false =>
    rw [if_neg Bool.false_ne_true]
    rw [hq, if_neg Bool.false_ne_true] at h1
    exact ⟨p.2, Rv R [], m1, A1, B1, x1.li, fun e => x1.nl (n (by rw [e]; cases bc <;> cases ba <;> rfl)), h1.tail x1 (fun e => by cases bc <;> cases bb <;> simp_all)⟩
theorem se_neg {b : Bool} (h : SE Y X b fa ea) : SE Y X b (negE fa) (.UnaryOp .USub ea pos) := PEw (pe_un un_neg h) fun vs H Q h => by
  obtain ⟨s, R, m, A, B, l, n, h⟩ := h
  refine ⟨s, R, m, A, B, l, n, h.split id fun p hp h1 y H1 m1 A1 B1 P x1 r1 => ?_⟩
  obtain ⟨x, s1⟩ := p
  simp only at r1 h1 x1
  split at h1
  · cases r1 with
    | imm q f =>
      cases q
      exact ⟨_, rfl, h1 _ H1 m1 A1 B1 [] x1 (.imm (as := []) (.int _) fun _ z => nomatch z)⟩
  · exact h1.elim
end
end MP
/-! MP.11: lists of expressions, displays, built-ins, slices, chains -/
namespace MP
open PySem PySem.Spec PyProof.Rows L2

theorem PAw {X : Cx} {e : List Expr} {t t' : TA} (h : PA X e t) (w : ∀ σ H Q, t' σ H Q → t σ H Q) : PA X e t' := ⟨fun pos pins s σ H Q I q => h.run pos pins s σ H Q I (w σ H Q q)⟩

section
variable {Y : Yx} {H H' H1 H2 : Hp} {R : Addr → Prop} {vs : L2.St} {s s' s1 s2 : LS} {m m' m1 m2 : List Addr} {A B A' B' A1 B1 A2 B2 P : List Addr} {b b1 b2 : Bool}
theorem Stp.keeps {c : Bool} {P Q : List Addr} {v : List V} {z : List LV} (x : Stp Y.K H R vs s m A B b H1 s1 m1 A1 B1 P) (r : Rps Y.K H1 m1 (Fz R (A1 ++ B1 ++ P)) v z P) (y : Stp Y.K H1 (Rv R P) vs s1 m1 A1 B1 c H2 s2 m2 A2 B2 Q)
    (n : c = false ∨ LV.nls z = true) : Rps Y.K H2 m2 (Fz R (A2 ++ B2 ++ (P ++ Q))) v z P := by
  have hF : ∀ a, Fz R (A1 ++ B1 ++ P) a → H1 a ≠ none → Fz R (A2 ++ B2 ++ (P ++ Q)) a := fun a f n => by
    refine ⟨fun w => ?_, f.2⟩
    rcases List.mem_append.mp w with w | w
    · rcases y.gr a (.inl w) with w | w
      · exact f.1 (List.mem_append_left _ w)
      · exact n w
    · rcases List.mem_append.mp w with w | w
      · exact f.1 (List.mem_append_right _ w)
      · rcases y.gr a (.inr w) with w | w
        · exact f.1 (List.mem_append_left _ w)
        · exact n w
  rcases n with n | n
  · obtain ⟨_, e5⟩ := y.ef n
    exact r.pres e5 (fun b z => nomatch z) y.mm hF (fun a _ _ z => nomatch z) (fun a _ z => nomatch z) (.inl rfl)
  · exact r.pres y.pr x.li.own y.mm hF (fun a f _ z => f.1 (List.mem_append_left _ z)) (fun a z w => x.disj a w z) (.inr n)
/-- the frozen ones, read from the first step on -/
theorem Fz_rv {Q : List Addr} : ∀ a, Fz (Rv R P) (A2 ++ B2 ++ Q) a → Fz R (A2 ++ B2 ++ (P ++ Q)) a := fun a f => ⟨fun w => by
  rcases List.mem_append.mp w with w | w
  · exact f.1 (List.mem_append_left _ w)
  · rcases List.mem_append.mp w with w | w
    · exact f.2 (.inr w)
    · exact f.1 (List.mem_append_right _ w), fun w => f.2 (.inl w)⟩
theorem Rp.fz {F F' : Addr → Prop} {v : V} {x : LV} {O : List Addr} (r : Rp Y.K H m F v x O) (h : ∀ a, F a → F' a) : Rp Y.K H m F' v x O :=
  r.pres (W := []) Pres.refl (fun b z => nomatch z) (fun _ _ e => e) (fun a f _ => h a f) (fun _ _ _ z => nomatch z) (fun _ _ z => nomatch z) (.inl rfl)
theorem Rps.fz {F F' : Addr → Prop} {v : List V} {x : List LV} {O : List Addr} (r : Rps Y.K H m F v x O) (h : ∀ a, F a → F' a) : Rps Y.K H m F' v x O :=
  r.pres (W := []) Pres.refl (fun b z => nomatch z) (fun _ _ e => e) (fun a f _ => h a f) (fun _ _ _ z => nomatch z) (fun _ _ z => nomatch z) (.inl rfl)
theorem Stp.obF {Q : List Addr} (x : Stp Y.K H R vs s m A B b H2 s2 m2 A2 B2 Q) : Rps Y.K H2 m2 (Fz R (A2 ++ B2 ++ Q)) (m2.map V.ref) s2.ob B2 := x.li.ob.fz fun a f => ⟨fun w => (List.mem_append.mp w).elim f.1 fun w => f.2 (.inr w), fun w => f.2 (.inl w)⟩
end

section
variable {Y : Yx} {X : Cx} {ea eb ec : Expr} {es : List Expr} {ba bb bc : Bool} {fa fb fc : EvF} {ga gb : LS → Res (List LV × LS)} {pos : Pos}
theorem sa_nil {b : Bool} : SA Y X b (fun s => .ok ([], s)) [] := PAw pa_nil fun vs H Q h => by
  obtain ⟨s, R, m, A, B, l, n, h⟩ := h
  exact h [] H m A B [] (Stp.refl l) .nil
theorem cons_conv {vs : L2.St} {H : Hp} {Q : List V → Hp → Prop} (h : tG Y (ba || bb) (relVs Y) (consA bb fa gb) vs H Q) : tCons (tG Y ba (relV Y) fa) (tG Y bb (relVs Y) gb) vs H Q := by
  obtain ⟨s, R, m, A, B, l, n, h⟩ := h
  refine ⟨s, R, m, A, B, l, fun e => n (by rw [e]; rfl), h.split (fun e => by cases ba <;> simp_all) fun p hp h1 y H1 m1 A1 B1 P x1 r1 => ?_⟩
  by_cases hc : bb = true ∧ p.1.nl = false
  · rw [if_pos hc] at h1; exact h1.elim
  rw [if_neg hc] at h1
  refine ⟨p.2, Rv R P, m1, A1, B1, x1.li, fun e => x1.nl (n (by rw [e]; cases ba <;> rfl)), h1.next x1 (fun e => by cases ba <;> cases bb <;> simp_all) fun q hq h2 z H2 m2 A2 B2 P2 x2 r2 => ?_⟩
  have r1' := x1.keep r1 x2 (by
    cases e : bb with
    | false => exact .inl rfl
    | true =>
      right
      cases e2 : p.1.nl with
      | true => rfl
      | false => exact absurd ⟨e, e2⟩ hc)
  exact h2 (y :: z) H2 m2 A2 B2 (P ++ P2) (x1.seq x2) (.cons r1' (r2.fz Fz_rv))
theorem star_no {e : Expr} (h : ∀ v p, e ≠ .Starred v p) (es : List Expr) (env : Env) : starEach (e :: es) env = (false, eval e env) :: starEach es env := by
  cases e <;> first | rfl | exact absurd rfl (h _ _)
theorem sa_cons (ha : SE Y X ba fa ea) (hb : SA Y X bb gb es) (hs : ∀ v p, ea ≠ .Starred v p) : SA Y X (ba || bb) (consA bb fa gb) (ea :: es) := PAw (pa_cons ha hb (star_no hs es X.env)) fun vs H Q h => cons_conv h

/-! ### displays -/
theorem allImm_rp {H : Hp} {m : List Addr} {F : Addr → Prop} : ∀ {us : List V} {xs : List LV} {O : List Addr} {ds : List PyData}, Rps Y.K H m F us xs O → mkTup.allImm xs = some ds → O = [] ∧ ∃ as, RDs Y.K H us ds as ∧ ∀ a ∈ as, F a
  | _, _, _, _, .nil, e => by cases e; exact ⟨rfl, [], .nil, fun _ z => nomatch z⟩
  | _, _, _, _, .cons r t, e => by
    cases r with
    | imm q f =>
      obtain ⟨ds, e', rfl⟩ := Option.map_eq_some_iff.mp e
      obtain ⟨rfl, as, q2, f2⟩ := allImm_rp t e'
      exact ⟨rfl, _, .cons q q2, fun a z => (List.mem_append.mp z).elim (f a) (f2 a)⟩
    | _ => cases e
theorem mkTup_rp {H : Hp} {m : List Addr} {F : Addr → Prop} {p : Addr} {us : List V} {xs : List LV} {O : List Addr} (hp : SqT Y.K H p us) (r : Rps Y.K H m F us xs O) : Rp Y.K H m F (.ref p) (mkTup xs) O := by
  unfold mkTup
  split
  · rename_i ds e
    obtain ⟨rfl, as, q, f⟩ := allImm_rp r e
    exact .imm (.tup hp q) f
  · exact .tup hp r
theorem Rps.length {K : PySem.W.Frag} {H : Hp} {m : List Addr} {F : Addr → Prop} : ∀ {us : List V} {xs : List LV} {O : List Addr}, Rps K H m F us xs O → us.length = xs.length
  | _, _, _, .nil => rfl
  | _, _, _, .cons _ t => by simp [Rps.length t]
theorem tup_conv {b : Bool} {vs : L2.St} {H : Hp} {Q : VK} (h : tG Y b (relV Y) (tupE ga) vs H Q) : tTup (tG Y b (relVs Y) ga) vs H Q := by
  obtain ⟨s, R, m, A, B, l, n, h⟩ := h
  refine ⟨s, R, m, A, B, l, n, h.split id fun p hp h1 y H1 m1 A1 B1 P x1 r1 => ?_⟩
  by_cases hz : p.1.length ≤ sizeLine
  · rw [if_pos hz] at h1
    refine ⟨by rw [r1.length]; exact hz, fun q hq => ?_⟩
    refine h1 (.ref q) _ m1 A1 B1 P (x1.res (Pres.new hq) (fun a z => ⟨.inl z, (Pres.new hq).dom a (x1.ex a z)⟩) x1.nd) (mkTup_rp (.inl (.inl upd_same)) ?_)
    exact r1.pres (W := []) (Pres.new hq) (fun b z => nomatch z) (fun _ _ e => e) (fun a f _ => f) (fun _ _ _ z => nomatch z) (fun _ _ z => nomatch z) (.inl rfl)
  · rw [if_neg hz] at h1; exact h1.elim
theorem lst_conv {b : Bool} {vs : L2.St} {H : Hp} {Q : VK} (h : tG Y b (relV Y) (lstE ga) vs H Q) : tLst (tG Y b (relVs Y) ga) vs H Q := by
  obtain ⟨s, R, m, A, B, l, n, h⟩ := h
  refine ⟨s, R, m, A, B, l, n, h.split id fun p hp h1 y H1 m1 A1 B1 P x1 r1 => ?_⟩
  by_cases hz : p.1.length ≤ sizeLine
  · rw [if_pos hz] at h1
    refine ⟨by rw [r1.length]; exact hz, fun q hq => ?_⟩
    have nq : q ∉ P := fun z => x1.ex q z hq
    refine h1 (.ref q) _ m1 A1 B1 (q :: P) (x1.res (Pres.new hq) (fun a z => ?_) (List.nodup_cons.mpr ⟨nq, x1.nd⟩)) (.lst upd_same ?_)
    · rcases List.mem_cons.mp z with z | z
      · rw [z]; exact ⟨.inr hq, by rw [upd_same]; exact fun z => nomatch z⟩
      · exact ⟨.inl z, (Pres.new hq).dom a (x1.ex a z)⟩
    · refine r1.pres (W := []) (Pres.new hq) (fun b z => nomatch z) (fun _ _ e => e) (fun a f ne => ⟨fun w => ?_, f.2⟩) (fun _ _ _ z => nomatch z) (fun _ _ z => nomatch z) (.inl rfl)
      rcases List.mem_append.mp w with w | w
      · exact f.1 (List.mem_append_left _ w)
      · rcases List.mem_cons.mp w with w | w
        · rw [w] at ne; exact ne hq
        · exact f.1 (List.mem_append_right _ w)
  · rw [if_neg hz] at h1; exact h1.elim
theorem se_tup {b : Bool} {k} (h : SA Y X b ga es) : SE Y X b (tupE ga) (.Tuple es k pos) := PEw (pe_tup h) fun vs H Q h => tup_conv h
theorem se_lst {b : Bool} (h : SA Y X b ga es) : SE Y X b (lstE ga) (.List es pos) := PEw (pe_lst h) fun vs H Q h => lst_conv h

/-! ### built-ins -/
theorem datsOf_rd {H : Hp} {m : List Addr} {F : Addr → Prop} {OB : List Addr} {ob : List LV} (ro : Rps Y.K H m F (m.map V.ref) ob OB) : ∀ {us : List V} {xs : List LV} {O : List Addr} {ds : List PyData}, Rps Y.K H m F us xs O → datsOf ob xs = some ds →
    ∃ as, RDs Y.K H us ds as ∧ ∀ a ∈ as, F a ∨ a ∈ O ∨ lhs xs = true
  | _, _, _, _, .nil, e => by cases e; exact ⟨[], .nil, fun _ z => nomatch z⟩
  | _, x :: xs, _, _, .cons r t, e => by
    unfold datsOf at e
    split at e
    · rename_i d ds e1 e2
      cases e
      obtain ⟨as, q, f⟩ := r.rd ro e1
      obtain ⟨bs, q2, f2⟩ := datsOf_rd ro t e2
      refine ⟨_, .cons q q2, fun a z => ?_⟩
      rcases List.mem_append.mp z with z | z
      · refine (f a z).imp id fun w => w.imp (List.mem_append_left _) fun w => ?_
        simp [lhs, w]
      · refine (f2 a z).imp id fun w => w.imp (List.mem_append_right _) fun w => ?_
        simp only [lhs, List.any_cons, Bool.or_eq_true]
        exact .inr w
    · cases e
theorem bi_conv {b : Bool} {g : List PyData → Option RK} {vs : L2.St} {H : Hp} {Q : VK} (h : tG Y b (relV Y) (biE g ga) vs H Q) : tCB (CallN Y.K g) (tG Y b (relVs Y) ga) vs H Q := by
  obtain ⟨s, R, m, A, B, l, n, h⟩ := h
  refine ⟨s, R, m, A, B, l, n, h.split id fun p hp h1 y H1 m1 A1 B1 P x1 r1 => ?_⟩
  revert h1
  cases e1 : datsOf p.2.ob p.1 with
  | none => exact fun h => h.elim
  | some ds =>
    simp only
    cases e2 : g ds with
    | none => exact fun h => h.elim
    | some r =>
      intro h1
      obtain ⟨as, q, f⟩ := datsOf_rd x1.obF r1 e1
      refine ⟨ds, as, r, q, e2, fun v H' p' rk => ?_⟩
      obtain ⟨Ov, x', rp⟩ := x1.op (len := lhs p.1) p' rk (fun e a z => by
        rcases f a z with w | w | w
        · exact ⟨fun u => w.1 (List.mem_append_left _ u), w.2⟩
        · exact ⟨fun u => x1.disj a u w, x1.nr a w⟩
        · rw [e] at w; cases w) (q.dom)
      exact h1 v H' m1 A1 B1 Ov x' rp
theorem se_callB {b : Bool} {id : String} {g : List PyData → Option RK} {x : Str} {p : Pos} (hc : CallR X (.builtin id) (CallN Y.K g)) (hg : Gl X x) (hm : X.mg x = none) (hv : bootBuiltins x = some (.builtin id)) (h : SA Y X b ga (ea :: es)) (hn : x ≠ "__name__") (hdb : (x == ("__debug__" : Str)) = false)
    (he : starEach (ea :: es) X.env = (false, eval ea X.env) :: starEach es X.env) (hpl : (backTo pos (starEach es X.env)).any (·.1) = false) : SE Y X b (biE g ga) (.Call (.Name x p) (ea :: es) [] pos) :=
  PEw (pe_callB hc hg hm hv h hn hdb he hpl) fun vs H Q h => bi_conv h
theorem se_callT {b : Bool} {id : String} {g : List PyData → Option RK} {x : Str} {p : Pos} (hc : CallR X (.type id) (CallN Y.K g)) (hg : Gl X x) (hm : X.mg x = none) (hv : bootBuiltins x = some (.type id)) (h : SA Y X b ga (ea :: es)) (hn : x ≠ "__name__") (hdb : (x == ("__debug__" : Str)) = false)
    (he : starEach (ea :: es) X.env = (false, eval ea X.env) :: starEach es X.env) (hpl : (backTo pos (starEach es X.env)).any (·.1) = false) : SE Y X b (biE g ga) (.Call (.Name x p) (ea :: es) [] pos) :=
  PEw (pe_callTy hc hg hm hv h hn hdb he hpl) fun vs H Q h => bi_conv h

/-! ### slices -/
abbrev SO (Y : Yx) (X : Cx) (b : Bool) (f : LS → Res (Option Int × LS)) (e : Option Expr) : Prop := PO X e (tG Y b relI f)
theorem POw {e : Option Expr} {t t' : TO} (h : PO X e t) (w : ∀ σ H Q, t' σ H Q → t σ H Q) : PO X e t' := ⟨fun s pins σ H E I q => h.run s pins σ H E I (w _ _ _ q)⟩

theorem so_none {b : Bool} : SO Y X b (fun s => .ok (none, s)) none := POw po_none fun vs H Q h => by
  obtain ⟨s, R, m, A, B, l, n, h⟩ := h
  exact h none H m A B [] (Stp.refl l) ⟨rfl, rfl⟩
theorem so_some {b : Bool} (h : SE Y X b fa ea) : SO Y X b (intO fa) (some ea) := POw (po_some h) fun vs H Q h => by
  obtain ⟨s, R, m, A, B, l, n, h⟩ := h
  refine ⟨s, R, m, A, B, l, n, h.split id fun p hp h1 y H1 m1 A1 B1 P x1 r1 => ?_⟩
  obtain ⟨x, s1⟩ := p
  simp only at r1 h1 x1
  split at h1
  · cases r1 with
    | imm q f =>
      cases q
      exact ⟨_, rfl, h1 _ H1 m1 A1 B1 [] x1 ⟨rfl, rfl⟩⟩
  · exact h1.elim
/-- only the heap grew: a value that lies in own things too stands -/
theorem sl_conv {fl fh : LS → Res (Option Int × LS)} {vs : L2.St} {H : Hp} {Q : VK} (h : tG Y (ba || (bb || bc)) (relV Y) (slE (bb || bc) fa fl fh) vs H Q) : tSl (Sl2 Y.K) (tG Y ba (relV Y) fa) (tG Y bb relI fl) (tG Y bc relI fh) vs H Q := by
  obtain ⟨s, R, m, A, B, l, n, h⟩ := h
  unfold slE at h
  cases hb : (bb || bc) with
  | true => rw [if_pos hb] at h; exact h.elim
  | false =>
    rw [if_neg (by rw [hb]; exact Bool.false_ne_true)] at h
    obtain ⟨rfl, rfl⟩ : bb = false ∧ bc = false := by simpa using hb
    refine ⟨s, R, m, A, B, l, fun e => n (by rw [e]; rfl), h.split (fun e => by cases ba <;> simp_all) fun p hp h1 y H1 m1 A1 B1 P x1 r1 => ?_⟩
    refine ⟨p.2, Rv R P, m1, A1, B1, x1.li, (fun e => nomatch e), h1.next x1 (fun e => by cases ba <;> simp_all) fun q hq h2 z H2 m2 A2 B2 P2 x2 r2 => ?_⟩
    obtain ⟨rfl, rfl⟩ := r2
    have r1' := x1.keep r1 x2 (.inl rfl)
    have x := x1.seq x2
    refine ⟨q.2, Rv R (P ++ []), m2, A2, B2, x.li, (fun e => nomatch e), h2.next x (fun e => by cases ba <;> simp_all) fun t ht h3 w H3 m3 A3 B3 P3 x3 r3 => ?_⟩
    obtain ⟨rfl, rfl⟩ := r3
    have r1'' := x.keep (P := P ++ []) (by
      have e : P ++ [] = P := List.append_nil P
      rw [e] at r1' ⊢
      exact r1') x3 (.inl rfl)
    have xx := x.seq x3
    revert h3
    cases e1 : p.1.dat t.2.ob with
    | none => exact fun h => h.elim
    | some d =>
      simp only
      cases e2 : slD d q.1 t.1 with
      | none => exact fun h => h.elim
      | some r =>
        intro h3
        obtain ⟨as, d1, f⟩ := r1''.rd xx.obF e1
        refine ⟨d, as, r, d1, e2, fun v H' p' rk => ?_⟩
        obtain ⟨Ov, x', rp⟩ := xx.op (len := p.1.lh) p' rk (fun e a z => by
          rcases f a z with w | w | w
          · exact ⟨fun u => w.1 (List.mem_append_left _ u), w.2⟩
          · have w' : a ∈ P ++ [] ++ [] := List.mem_append_left _ w
            exact ⟨fun u => xx.disj a u w', xx.nr a w'⟩
          · rw [e] at w; cases w) (d1.dom)
        exact h3 v H' m3 A3 B3 Ov (x'.any (fun e => by cases ba <;> simp_all)) rp
theorem se_sl {fl fh : LS → Res (Option Int × LS)} {lo hi : Option Expr} {p2 : Pos} (hr : SlR X (Sl2 Y.K)) (ha : SE Y X ba fa ea) (hl : SO Y X bb fl lo) (hh : SO Y X bc fh hi) : SE Y X (ba || (bb || bc)) (slE (bb || bc) fa fl fh) (.Subscript ea (.Slice lo hi none p2) pos) :=
  PEw (pe_slice hr ha hl hh) fun vs H Q h => sl_conv h

/-! ### a op1 b op2 c -/
theorem chain_conv {o1 o2 : CmpOp} {vs : L2.St} {H : Hp} {Q : VK} (h : tG Y (ba || (bb || bc)) (relV Y) (chainE o1 o2 (bb || bc) fa fb fc) vs H Q) :
    tChain (Op2 Y.K (cmpK o1)) (Op2 Y.K (cmpK o2)) (tG Y ba (relV Y) fa) (tG Y bb (relV Y) fb) (tG Y bc (relV Y) fc) vs H Q := by
  obtain ⟨s, R, m, A, B, l, n, h⟩ := h
  unfold chainE at h
  cases hb : (bb || bc) with
  | true => rw [if_pos hb] at h; exact h.elim
  | false =>
    rw [if_neg (by rw [hb]; exact Bool.false_ne_true)] at h
    obtain ⟨rfl, rfl⟩ : bb = false ∧ bc = false := by simpa using hb
    refine ⟨s, R, m, A, B, l, fun e => n (by rw [e]; rfl), h.split (fun e => by cases ba <;> simp_all) fun p hp h1 y H1 m1 A1 B1 P x1 r1 => ?_⟩
    refine ⟨p.2, Rv R P, m1, A1, B1, x1.li, (fun e => nomatch e), h1.next x1 (fun e => by cases ba <;> simp_all) fun q hq h2 z H2 m2 A2 B2 P2 x2 r2 => ?_⟩
    have r1' := x1.keep r1 x2 (.inl rfl)
    have x := x1.seq x2
    have r2' := r2.fz (Fz_rv (R := R) (P := P))
    revert h2
    cases e1 : p.1.dat q.2.ob with
    | none => exact fun h => h.elim
    | some d =>
      cases e2 : q.1.dat q.2.ob with
      | none => exact fun h => h.elim
      | some e =>
        simp only
        cases e3 : cmpD o1 d e with
        | none => exact fun h => h.elim
        | some c =>
          intro h2
          obtain ⟨as, d1, f1⟩ := r1'.rd x.obF e1
          obtain ⟨bs, d2, f2⟩ := r2'.rd x.obF e2
          refine ⟨d, e, as, bs, .dat (.bool c), d1, d2, by unfold cmpK; rw [e3]; rfl, fun v H' p' rk => ?_⟩
          obtain ⟨cs, rk, _⟩ := rk
          cases rk
          refine ⟨c, rfl, ?_⟩
          have x' := x.res (Q := P ++ P2) p' (fun a z => ⟨.inl z, p'.dom a (x.ex a z)⟩) x.nd
          have d2' := d2.pres p' (fun _ z => nomatch z) (fun _ _ z => nomatch z)
          cases c with
          | false =>
            rw [if_neg Bool.false_ne_true]
            simp only [Bool.false_eq_true, if_false] at h2
            exact h2 _ H' m2 A2 B2 [] (x'.drop.any (fun e => by cases ba <;> simp_all)) (.imm (as := []) (.bl false) fun _ z => nomatch z)
          | true =>
            rw [if_pos rfl]
            simp only [if_true] at h2
            refine ⟨q.2, Rv R (P ++ P2), m2, A2, B2, x'.li, (fun e => nomatch e), h2.next x' (fun e => by cases ba <;> simp_all) fun t ht h3 w H3 m3 A3 B3 P3 x3 r3 => ?_⟩
            have xx := x'.seq x3
            have r3' := r3.fz (Fz_rv (R := R) (P := P ++ P2))
            revert h3
            cases e4 : t.1.dat t.2.ob with
            | none => exact fun h => h.elim
            | some f =>
              simp only
              cases e5 : cmpD o2 e f with
              | none => exact fun h => h.elim
              | some c2 =>
                intro h3
                obtain ⟨gs, d3, _⟩ := r3'.rd xx.obF e4
                have d2'' := d2'.pres (x3.ef rfl).2 (fun _ z => nomatch z) (fun _ _ z => nomatch z)
                refine ⟨e, f, bs, gs, .dat (.bool c2), d2'', d3, by unfold cmpK; rw [e5]; rfl, fun v H4 p4 rk => ?_⟩
                obtain ⟨cs, rk, _⟩ := rk
                cases rk
                exact h3 _ H4 m3 A3 B3 [] (((xx.res (Q := []) p4 (fun _ z => nomatch z) List.nodup_nil)).any (fun e => by cases ba <;> simp_all)) (.imm (as := []) (.bl c2) fun _ z => nomatch z)
theorem se_chain {o1 o2 : CmpOp} (h1 : OpR X (compareOp o1) (Op2 Y.K (cmpK o1))) (h2 : OpR X (compareOp o2) (Op2 Y.K (cmpK o2))) (ha : SE Y X ba fa ea) (hb : SE Y X bb fb eb) (hc : SE Y X bc fc ec) (hm : lastMarks [o1, o2] [eb, ec] = false) :
    SE Y X (ba || (bb || bc)) (chainE o1 o2 (bb || bc) fa fb fc) (.Compare ea [o1, o2] [eb, ec] pos) := PEw (pe_chain h1 h2 ha hb hc hm) fun vs H Q h => chain_conv h
theorem st_chain {o1 o2 : CmpOp} (h1 : OpR X (compareOp o1) (Op2 Y.K (cmpK o1))) (h2 : OpR X (compareOp o2) (Op2 Y.K (cmpK o2))) (ha : SE Y X ba fa ea) (hb : SE Y X bb fb eb) (hc : SE Y X bc fc ec) (hm : lastMarks [o1, o2] [eb, ec] = false) :
    ST Y X (ba || (bb || bc)) (fun s => tstR (chainE o1 o2 (bb || bc) fa fb fc s)) (.Compare ea [o1, o2] [eb, ec] pos) := st_of (pt_chain h1 h2 ha hb hc hm) fun vs H Q h => chain_conv h
end
end MP
/-! MP.12: slots given out and put back; the call of a def -/
namespace MP
open PySem PySem.Spec PyProof.Rows L2

section
variable {K : PySem.W.Frag} {H H' : Hp} {m m' : List Addr} {F F' : Addr → Prop} {vs : L2.St}
/-- a slot's thing taken out -/
theorem RpS.out {sl : List (Option LV)} {A : List Addr} (r : RpS K H m F vs sl A) : ∀ {i : Nat} {x : LV}, sl[i]? = some (some x) → ∃ v O A', vs[i]? = some (some v) ∧ Rp K H m F v x O ∧ RpS K H m F vs (sl.set i none) A' ∧ A.Perm (O ++ A') := by
  induction r with
  | nil => intro i x e; simp at e
  | @no v vs xs O r ih =>
    intro i x e
    cases i with
    | zero => simp at e
    | succ i =>
      obtain ⟨u, P, A', h1, h2, h3, h4⟩ := ih (i := i) (x := x) (by simpa using e)
      exact ⟨u, P, A', by simpa using h1, h2, by rw [List.set_cons_succ]; exact .no h3, h4⟩
  | @so v vs y xs O P h r ih =>
    intro i x e
    cases i with
    | zero =>
      cases Option.some.inj (Option.some.inj e)
      exact ⟨v, O, P, rfl, h, by rw [List.set_cons_zero]; exact .no r, List.Perm.refl _⟩
    | succ i =>
      obtain ⟨u, P', A', h1, h2, h3, h4⟩ := ih (i := i) (x := x) (by simpa using e)
      refine ⟨u, P', O ++ A', by simpa using h1, h2, by rw [List.set_cons_succ]; exact .so h h3, ?_⟩
      refine (List.Perm.append_left O h4).trans ?_
      rw [← List.append_assoc, ← List.append_assoc]
      exact List.Perm.append_right A' List.perm_append_comm
/-- a thing put into an empty slot -/
theorem RpS.put {sl : List (Option LV)} {A : List Addr} (r : RpS K H m F vs sl A) : ∀ {i : Nat} {v : V} {x : LV} {O : List Addr}, sl[i]? = some none → vs[i]? = some (some v) → Rp K H m F v x O → ∃ A', RpS K H m F vs (sl.set i (some x)) A' ∧ A'.Perm (O ++ A) := by
  induction r with
  | nil => intro i v x O e; simp at e
  | @no u us xs P r ih =>
    intro i v x O e1 e2 q
    cases i with
    | zero =>
      have e3 : u = some v := by simpa using e2
      subst e3
      exact ⟨O ++ P, by rw [List.set_cons_zero]; exact .so q r, List.Perm.refl _⟩
    | succ i =>
      obtain ⟨A', h1, h2⟩ := ih (i := i) (v := v) (x := x) (by simpa using e1) (by simpa using e2) q
      exact ⟨A', by rw [List.set_cons_succ]; exact .no h1, h2⟩
  | @so u us y xs O' P h r ih =>
    intro i v x O e1 e2 q
    cases i with
    | zero => simp at e1
    | succ i =>
      obtain ⟨A', h1, h2⟩ := ih (i := i) (v := v) (x := x) (by simpa using e1) (by simpa using e2) q
      refine ⟨O' ++ A', by rw [List.set_cons_succ]; exact .so h h1, ?_⟩
      refine (List.Perm.append_left O' h2).trans ?_
      rw [← List.append_assoc, ← List.append_assoc]
      exact List.Perm.append_right P List.perm_append_comm
theorem RpS.wiped {sl : List (Option LV)} {A : List Addr} (r : RpS K H m F vs sl A) : ∀ {i : Nat}, ∃ A' O, RpS K H m F vs (sl.set i none) A' ∧ A.Perm (O ++ A') := by
  intro i
  cases e : sl[i]? with
  | none => rw [List.set_eq_of_length_le (List.getElem?_eq_none_iff.mp e)]; exact ⟨A, [], r, List.Perm.refl _⟩
  | some y =>
    cases y with
    | none =>
      have : sl.set i none = sl := by
        apply List.ext_getElem?
        intro j
        by_cases hj : j = i
        · subst hj
          obtain ⟨h, e'⟩ := List.getElem?_eq_some_iff.mp e
          rw [List.getElem?_set_self h, e]
        · rw [List.getElem?_set_ne (Ne.symm hj)]
      rw [this]
      exact ⟨A, [], r, List.Perm.refl _⟩
    | some x =>
      obtain ⟨v, O, A', _, _, h, p⟩ := r.out e
      exact ⟨A', O, h, p⟩
theorem nlS_set {sl : List (Option LV)} (h : nlS sl = true) : ∀ (i : Nat) (x : Option LV), (∀ y, x = some y → y.nl = true) → nlS (sl.set i x) = true := by
  induction sl with
  | nil => intro i x _; simpa using h
  | cons z zs ih =>
    intro i x hx
    have hz : nlS zs = true := by
      cases z with
      | none => simpa [nlS] using h
      | some z => simp [nlS] at h; exact h.2
    cases i with
    | zero =>
      rw [List.set_cons_zero]
      cases x with
      | none => simpa [nlS] using hz
      | some y => simp [nlS, hx y rfl, hz]
    | succ i =>
      rw [List.set_cons_succ]
      cases z with
      | none => simpa [nlS] using ih hz i x hx
      | some z =>
        simp [nlS] at h ⊢
        exact ⟨h.1, ih h.2 i x hx⟩
end
end MP
namespace MP
open PySem PySem.Spec PyProof.Rows L2

/-- what a def promises: handed over xs, it does what cf tells -/
def spF (K : PySem.W.Frag) (XR : (Addr → Prop) → Hp → Nat → List PyData → Value → Option Addr → Prop) (cf : CF) (f np : Nat) (io : List Nat) : Sp := fun vs H Q E =>
  ∃ xs R O, vs.length = np ∧ Rps K H [] (Fz R O) vs xs O ∧ O.Nodup ∧ (∀ a ∈ O, ¬ R a) ∧ (∀ a, R a → H a ≠ none) ∧
    match cf f xs with
    | .ok r outs => ∀ v H' Oo Or, Pres O H H' → (∀ a, H a ≠ none → H' a ≠ none) → Rps K H' [] (Fz R (Oo ++ Or)) (io.filterMap fun i => vs[i]?) outs Oo → Rp K H' [] (Fz R (Oo ++ Or)) v r Or → (Oo ++ Or).Nodup → (∀ a ∈ Oo ++ Or, ¬ R a) → (∀ a ∈ Oo ++ Or, a ∈ O ∨ H a = none) → Q v H'
    | .exc c ps outs => ∀ cl d H' Oo, Pres O H H' → (∀ a, H a ≠ none → H' a ≠ none) → Rps K H' [] (Fz R Oo) (io.filterMap fun i => vs[i]?) outs Oo → XR (Fz R Oo) H' c ps cl d → Oo.Nodup → (∀ a ∈ Oo, ¬ R a) → (∀ a ∈ Oo, a ∈ O ∨ H a = none) → E cl d H'
    | .stuck => False

section
variable {K : PySem.W.Frag} {H H' : Hp} {m m' : List Addr} {F F' : Addr → Prop} {vs : L2.St}
mutual
theorem Rp.giv1 : ∀ {x : LV} {v : V} {O : List Addr}, Rp K H m F v x O → LV.giv.giv1 x = true → Rp K H m' F v x O
  | .imm _, _, _, .imm r f, _ => .imm r f
  | .lent _, _, _, .lent r, c => by simp [LV.giv.giv1] at c
  | .ref _, _, _, .ref e, c => by simp [LV.giv.giv1] at c
  | .lst _, _, _, .lst h r, c => .lst h (Rps.givs r (by simpa [LV.giv.giv1] using c))
  | .dic _, _, _, .dic h r, c => .dic h (Rpk.givk r (by simpa [LV.giv.giv1] using c))
  | .tup _, _, _, .tup h r, c => .tup h (Rps.givs r (by simpa [LV.giv.giv1] using c))
theorem Rps.givs : ∀ {x : List LV} {v : List V} {O : List Addr}, Rps K H m F v x O → LV.giv.givs x = true → Rps K H m' F v x O
  | [], _, _, .nil, _ => .nil
  | _ :: _, _, _, .cons r t, c => by
    simp [LV.giv.givs] at c
    exact .cons (Rp.giv1 r c.1) (Rps.givs t c.2)
theorem Rpk.givk : ∀ {x : List (Key × LV)} {v : List (Key × V)} {O : List Addr}, Rpk K H m F v x O → LV.giv.givk x = true → Rpk K H m' F v x O
  | [], _, _, .nil, _ => .nil
  | _ :: _, _, _, .cons r t, c => by
    simp [LV.giv.givk] at c
    exact .cons (Rp.giv1 r c.1) (Rpk.givk t c.2)
end
theorem Rp.giv {x : LV} {v : V} {O : List Addr} (r : Rp K H m F v x O) (c : x.giv = true) : Rp K H m' F v x O := by
  cases r with
  | lst h r => exact .lst h (Rps.givs r (by simpa [LV.giv] using c))
  | dic h r => exact .dic h (Rpk.givk r (by simpa [LV.giv] using c))
  | _ => simp [LV.giv] at c
/-- from no shared things to any -/
theorem Rp.nilm {x : LV} {v : V} {O : List Addr} (r : Rp K H [] F v x O) : Rp K H m F v x O :=
  r.pres (W := []) Pres.refl (fun b z => nomatch z) (fun _ _ e => by simp at e) (fun a f _ => f) (fun _ _ _ z => nomatch z) (fun _ _ z => nomatch z) (.inl rfl)
mutual
theorem Rp.hmF : ∀ {x : LV} {v : V} {O : List Addr}, Rp K H m F v x O → x.hm = true → Rp K H m' F' v x O
  | .imm _, _, _, .imm r f, c => .imm r fun a z => by rw [r.im (by simpa [LV.hm] using c)] at z; cases z
  | .lent _, _, _, .lent r, c => by simp [LV.hm] at c
  | .ref _, _, _, .ref e, c => by simp [LV.hm] at c
  | .lst _, _, _, .lst h r, c => .lst h (Rps.hmF r (by simpa [LV.hm] using c))
  | .dic _, _, _, .dic h r, c => .dic h (Rpk.hmF r (by simpa [LV.hm] using c))
  | .tup _, _, _, .tup h r, c => .tup h (Rps.hmF r (by simpa [LV.hm] using c))
theorem Rps.hmF : ∀ {x : List LV} {v : List V} {O : List Addr}, Rps K H m F v x O → LV.hm.hms x = true → Rps K H m' F' v x O
  | [], _, _, .nil, _ => .nil
  | _ :: _, _, _, .cons r t, c => by
    simp [LV.hm.hms] at c
    exact .cons (Rp.hmF r c.1) (Rps.hmF t c.2)
theorem Rpk.hmF : ∀ {x : List (Key × LV)} {v : List (Key × V)} {O : List Addr}, Rpk K H m F v x O → LV.hm.hmk x = true → Rpk K H m' F' v x O
  | [], _, _, .nil, _ => .nil
  | _ :: _, _, _, .cons r t, c => by
    simp [LV.hm.hmk] at c
    exact .cons (Rp.hmF r c.1) (Rpk.hmF t c.2)
end

/-- arguments: values, slots handed over -/
inductive RpA (K : PySem.W.Frag) (H : Hp) (m : List Addr) (F : Addr → Prop) (vs : L2.St) : List V → List AV → List Addr → Prop
  | nil : RpA K H m F vs [] [] []
  | dat {v : V} {us : List V} {x : LV} {as : List AV} {O P : List Addr} : Rp K H m F v x O → RpA K H m F vs us as P → RpA K H m F vs (v :: us) (.dat x :: as) (O ++ P)
  | slot {i : Nat} {v : V} {us : List V} {as : List AV} {P : List Addr} : vs[i]? = some (some v) → RpA K H m F vs us as P → RpA K H m F vs (v :: us) (.slot i :: as) P
theorem wipeL_get {sl : List (Option LV)} {is : List Nat} {i : Nat} (h : i ∉ is) : (wipeL sl is)[i]? = sl[i]? := by
  induction is with
  | nil => rfl
  | cons j js ih =>
    unfold wipeL
    rw [List.getElem?_set_ne (fun e => h (by rw [e]; exact List.mem_cons_self)), ih fun z => h (List.mem_cons_of_mem _ z)]
theorem wipeL_len {sl : List (Option LV)} {is : List Nat} : (wipeL sl is).length = sl.length := by
  induction is with
  | nil => rfl
  | cons j js ih => unfold wipeL; rw [List.length_set, ih]
theorem distinct_cons {i : Nat} {is : List Nat} (h : distinct (i :: is) = true) : i ∉ is ∧ distinct is = true := by
  simpa [distinct] using h
end

section
variable {Y : Yx} {H H' : Hp} {m m' : List Addr} {vs : L2.St}
/-- the arguments, as the def gets them -/
theorem args_rp {s : LS} {R : Addr → Prop} {P A B : List Addr} (l : LI Y.K H (Rv R P) vs s m A B) : ∀ {us : List V} {as : List AV} {Q : List Addr} {xs : List LV} {G : Addr → Prop}, RpA Y.K H m G vs us as Q → argsOf s as = some xs → distinct (slotsOf as) = true → (∀ a, G a → a ∉ A ++ B ∧ ¬ R a) → (∀ a ∈ Q, a ∈ P) →
    ∃ (Oin A' L : List Addr), A.Perm (Oin ++ A') ∧ RpS Y.K H m (Fz (Rv R P) (A ++ B)) vs (wipeL s.sl (slotsOf as)) A' ∧ Rps Y.K H [] (fun a => Fz (Rv R P) (A ++ B) a ∨ a ∈ L) us xs Oin ∧ (∀ a ∈ L, H a ≠ none ∧ ((a ∉ A ++ B ∧ ¬ R a) ∨ a ∈ P ∨ lhs (dataOf as) = true)) ∧ (slotsOf as = [] → Oin = [] ∧ A' = A)
  | _, _, _, _, _, .nil, e, _, _, _ => by
    cases e
    exact ⟨[], A, [], List.Perm.refl _, l.sl, .nil, (fun _ z => nomatch z), fun _ => ⟨rfl, rfl⟩⟩
  | _, _, _, _, G, @RpA.dat _ _ _ _ _ v us x as O P' r t, e, hd, hG, hQ => by
    unfold argsOf at e
    split at e
    · rename_i d ds e1 e2
      cases e
      obtain ⟨Oin, A', L, h1, h2, h3, h4, h5⟩ := args_rp l t e2 hd hG (fun a z => hQ a (List.mem_append_right _ z))
      obtain ⟨bs, q, f⟩ := (r.fz (F' := fun a => G a ∨ Fz (Rv R P) (A ++ B) a) fun a w => .inl w).rd (l.ob.fz fun a w => .inr w) e1
      refine ⟨Oin, A', L ++ bs, h1, h2, ?_, fun a z => ?_, h5⟩
      · refine .cons (O := []) (.imm q fun a z => .inr (List.mem_append_right _ z)) (h3.fz fun a w => w.imp id (List.mem_append_left _))
      · rcases List.mem_append.mp z with z | z
        · obtain ⟨n, w⟩ := h4 a z
          refine ⟨n, w.imp id fun w => w.imp id fun w => ?_⟩
          simp only [dataOf, lhs, List.any_cons, Bool.or_eq_true]
          exact .inr w
        · refine ⟨q.dom a z, ?_⟩
          rcases f a z with w | w | w
          · exact .inl (w.elim (hG a) fun w => ⟨w.1, fun u => w.2 (.inl u)⟩)
          · exact .inr (.inl (hQ a (List.mem_append_left _ w)))
          · right; right
            simp [dataOf, lhs, w]
    · cases e
  | _, _, _, _, G, @RpA.slot _ _ _ _ _ i v us as P' hv t, e, hd, hG, hQ => by
    unfold argsOf at e
    split at e
    · rename_i x ds e1 e2
      split at e
      · rename_i hg
        cases e
        obtain ⟨hn, hd'⟩ := distinct_cons (i := i) (is := slotsOf as) hd
        obtain ⟨Oin, A', L, h1, h2, h3, h4, h5⟩ := args_rp l t e2 hd' hG hQ
        obtain ⟨w, O, A2, q1, q2, q3, q4⟩ := h2.out (i := i) (x := x) (by rw [wipeL_get hn]; exact e1)
        rw [hv] at q1
        cases Option.some.inj (Option.some.inj q1)
        refine ⟨O ++ Oin, A2, L, ?_, q3, .cons ((q2.giv hg).fz fun a f => .inl f) h3, h4, (fun z => nomatch z)⟩
        refine h1.trans ((List.Perm.append_left Oin q4).trans ?_)
        rw [← List.append_assoc]
        exact List.Perm.append_right A2 List.perm_append_comm
      · cases e
    · cases e

theorem pick_rp {K : PySem.W.Frag} {F : Addr → Prop} {A0 : List Addr} : ∀ {is : List Nat} {sl sl' : List (Option LV)} {A : List Addr} {us : List V} {outs : List LV} {O : List Addr}, RpS K H m F vs sl A → Rps K H [] F us outs O → setOuts is outs sl = some sl' → (∀ i ∈ is, sl[i]? = some none) → distinct is = true →
    (∀ (k i : Nat), is[k]? = some i → ∃ v : V, us[k]? = some v ∧ vs[i]? = some (some v)) → ∃ A', RpS K H m F vs sl' A' ∧ A'.Perm (O ++ A)
  | [], _, _, A, _, _, _, r, .nil, e, _, _, _ => by cases e; exact ⟨A, r, List.Perm.refl _⟩
  | [], _, _, _, _, _, _, _, .cons _ _, e, _, _, _ => by cases e
  | _ :: _, _, _, _, _, _, _, _, .nil, e, _, _, _ => by cases e
  | i :: is, sl, sl', A, _, _, _, r, @Rps.cons _ _ _ _ v us x xs O P q t, e, hn, hd, hv => by
    obtain ⟨hi, hd'⟩ := distinct_cons hd
    obtain ⟨w, e1, e2⟩ := hv 0 i rfl
    cases Option.some.inj e1
    obtain ⟨A1, r1, p1⟩ := r.put (hn i List.mem_cons_self) e2 q.nilm
    obtain ⟨A2, r2, p2⟩ := pick_rp (A0 := A0) r1 t e (fun j hj => by
      rw [List.getElem?_set_ne (fun e => hi (by rw [e]; exact hj))]
      exact hn j (List.mem_cons_of_mem _ hj)) hd' fun k j hk => by simpa using hv (k + 1) j (by simpa using hk)
    refine ⟨A2, r2, p2.trans ((List.Perm.append_left P p1).trans ?_)⟩
    rw [← List.append_assoc]
    exact List.Perm.append_right A List.perm_append_comm
theorem wipe_none {sl : List (Option LV)} : ∀ {is : List Nat} {i : Nat}, i ∈ is → i < sl.length → (wipeL sl is)[i]? = some none
  | j :: js, i, h, hl => by
    unfold wipeL
    by_cases e : i = j
    · subst e; rw [List.getElem?_set_self (by rw [wipeL_len]; exact hl)]
    · rw [List.getElem?_set_ne (Ne.symm e)]
      exact wipe_none (by simpa [e] using h) hl
/-- which slots are handed over, and where they stand among the arguments -/
def ioAt : Nat → List AV → List Nat
  | _, [] => []
  | n, .dat _ :: r => ioAt (n + 1) r
  | n, .slot _ :: r => n :: ioAt (n + 1) r
theorem slots_at {K : PySem.W.Frag} {G : Addr → Prop} : ∀ {us : List V} {as : List AV} {P : List Addr} {pre : List V}, RpA K H m G vs us as P → ∀ (k i : Nat), (slotsOf as)[k]? = some i → ∃ v : V, ((ioAt pre.length as).filterMap fun j => (pre ++ us)[j]?)[k]? = some v ∧ vs[i]? = some (some v)
  | _, _, _, pre, .nil, k, i, e => by simp [slotsOf] at e
  | _, _, _, pre, @RpA.dat _ _ _ _ _ v us x as O P r t, k, i, e => by
    have q := slots_at (pre := pre ++ [v]) t k i e
    simpa [ioAt] using q
  | _, _, _, pre, @RpA.slot _ _ _ _ _ j v us as P hv t, k, i, e => by
    have hp : (pre ++ v :: us)[pre.length]? = some v := by simp
    cases k with
    | zero =>
      have e' : j = i := by simpa [slotsOf] using e
      subst e'
      exact ⟨v, by simp [ioAt, hp], hv⟩
    | succ k =>
      obtain ⟨w, q1, q2⟩ := slots_at (pre := pre ++ [v]) t k i (by simpa [slotsOf] using e)
      refine ⟨w, ?_, q2⟩
      rw [ioAt, List.filterMap_cons, hp]
      simpa using q1
theorem args_lt {s : LS} : ∀ {as : List AV} {xs : List LV}, argsOf s as = some xs → ∀ i ∈ slotsOf as, i < s.sl.length
  | [], _, _, i, z => by cases z
  | .dat x :: as, xs, e, i, z => by
    unfold argsOf at e
    split at e
    · rename_i e1 e2; exact args_lt e2 i z
    · cases e
  | .slot j :: as, xs, e, i, z => by
    unfold argsOf at e
    split at e
    · rename_i e1 e2
      rcases List.mem_cons.mp z with z | z
      · rw [z]; exact (List.getElem?_eq_some_iff.mp e1).1
      · exact args_lt e2 i z
    · cases e
theorem RpA.len {K : PySem.W.Frag} {G : Addr → Prop} : ∀ {us : List V} {as : List AV} {P : List Addr}, RpA K H m G vs us as P → us.length = as.length
  | _, _, _, .nil => rfl
  | _, _, _, .dat _ t => by simp [RpA.len t]
  | _, _, _, .slot _ t => by simp [RpA.len t]
end
end MP
/-! MP.13: the call of a def -/
namespace MP
open PySem PySem.Spec PyProof.Rows L2

def shp : List AV → List (Option Nat)
  | [] => []
  | .dat _ :: r => none :: shp r
  | .slot i :: r => some i :: shp r
def ioOf : Nat → List (Option Nat) → List Nat
  | _, [] => []
  | n, none :: r => ioOf (n + 1) r
  | n, some _ :: r => n :: ioOf (n + 1) r
theorem ioAt_shp : ∀ (n : Nat) (as : List AV), ioAt n as = ioOf n (shp as)
  | _, [] => rfl
  | n, .dat _ :: r => ioAt_shp (n + 1) r
  | n, .slot _ :: r => by show n :: ioAt (n + 1) r = _; rw [ioAt_shp (n + 1) r]; rfl
theorem shp_len : ∀ as : List AV, (shp as).length = as.length
  | [] => rfl
  | .dat _ :: r => by simp [shp, shp_len r]
  | .slot _ :: r => by simp [shp, shp_len r]

abbrev relA (Y : Yx) (vs : L2.St) (b : Bool) (sh : List (Option Nat)) : Rel (List AV) (List V) := fun H m F us as O => RpA Y.K H m F vs us as O ∧ shp as = sh ∧ (b = false → slotsOf as = [])
abbrev tA (Y : Yx) (b : Bool) (sh : List (Option Nat)) (f : LS → Res (List AV × LS)) : TA := fun vs H Q => tG Y b (relA Y vs b sh) f vs H Q
abbrev SC (Y : Yx) (X : Cx) (b : Bool) (sh : List (Option Nat)) (f : LS → Res (List AV × LS)) (es : List Expr) : Prop := PA X es (tA Y b sh f)

section
variable {Y : Yx} {H H' H1 H2 : Hp} {R : Addr → Prop} {vs : L2.St} {s s' s1 s2 : LS} {m m' m1 m2 : List Addr} {A B A' B' A1 B1 A2 B2 P : List Addr} {b b1 b2 : Bool}
theorem setOuts_nil {outs : List LV} {sl sl' : List (Option LV)} (e : setOuts [] outs sl = some sl') : outs = [] ∧ sl' = sl := by
  cases outs with
  | nil => cases e; exact ⟨rfl, rfl⟩
  | cons x xs => cases e
theorem nl_outs : ∀ {is : List Nat} {outs : List LV} {sl sl' : List (Option LV)}, setOuts is outs sl = some sl' → nlAll outs = true → nlS sl = true → nlS sl' = true
  | [], [], _, _, e, _, h => by cases e; exact h
  | [], _ :: _, _, _, e, _, _ => by cases e
  | _ :: _, [], _, _, e, _, _ => by cases e
  | i :: is, x :: xs, sl, sl', e, n, h => by
    simp only [nlAll, List.all_cons, Bool.and_eq_true] at n
    exact nl_outs (sl := sl.set i (some x)) e n.2 (nlS_set h i _ fun y e => by cases e; exact n.1)
theorem nl_wipe {sl : List (Option LV)} (h : nlS sl = true) : ∀ is : List Nat, nlS (wipeL sl is) = true
  | [] => h
  | i :: is => by unfold wipeL; exact nlS_set (nl_wipe h is) i none fun y e => nomatch e

/-- behind a call: the state with what was handed over set anew -/
theorem call_end {as : List AV} {us : List V} {xs outs : List LV} {sl' : List (Option LV)} {Oin A0 L Oo Or : List Addr} {cf : CF} (x1 : Stp Y.K H R vs s m A B b H1 s1 m1 A1 B1 P) (nl0 : b = true → nlL s = true) (ra : RpA Y.K H1 m1 (Fz R (A1 ++ B1 ++ P)) vs us as P)
    (bs : b = false → slotsOf as = [])
    (e1 : argsOf s1 as = some xs) (hd : distinct (slotsOf as) = true) (hl : lhs (dataOf as) = true → slotsOf as = [])
    (p1 : A1.Perm (Oin ++ A0)) (p2 : RpS Y.K H1 m1 (Fz (Rv R P) (A1 ++ B1)) vs (wipeL s1.sl (slotsOf as)) A0) (p4 : ∀ a ∈ L, H1 a ≠ none ∧ ((a ∉ A1 ++ B1 ∧ ¬ R a) ∨ a ∈ P ∨ lhs (dataOf as) = true)) (p5 : slotsOf as = [] → Oin = [] ∧ A0 = A1)
    (hp : Pres Oin H1 H') (hdm : ∀ a, H1 a ≠ none → H' a ≠ none)
    (ro : Rps Y.K H' [] (Fz (fun a => H1 a ≠ none ∧ ¬ (Fz (Rv R P) (A1 ++ B1) a ∨ a ∈ L) ∧ a ∉ Oin) (Oo ++ Or)) ((ioAt 0 as).filterMap fun i => us[i]?) outs Oo)
    (nd : (Oo ++ Or).Nodup) (hor : ∀ a ∈ Oo ++ Or, a ∈ Oin ∨ H1 a = none) (hox : ∀ a ∈ Or, H' a ≠ none) (nlo : nlAll outs = true) (eo : setOuts (slotsOf as) outs (wipeL s1.sl (slotsOf as)) = some sl') :
    ∃ A2, Stp Y.K H R vs s m A B b H' ⟨sl', s1.ob⟩ m1 A2 B1 Or ∧ (lhs (dataOf as) = false → ∀ a, Fz (fun a => H1 a ≠ none ∧ ¬ (Fz (Rv R P) (A1 ++ B1) a ∨ a ∈ L) ∧ a ∉ Oin) (Oo ++ Or) a → Fz R (A2 ++ B1 ++ Or) a) := by
  have mA : ∀ {a}, a ∈ Oin → a ∈ A1 := fun z => p1.mem_iff.mpr (List.mem_append_left _ z)
  have mA0 : ∀ {a}, a ∈ A0 → a ∈ A1 := fun z => p1.mem_iff.mpr (List.mem_append_right _ z)
  have ndA : (Oin ++ A0).Nodup := p1.nodup_iff.mp (List.nodup_append.mp x1.li.nd).1
  have dAB : ∀ a ∈ A1, a ∉ B1 := fun a h1 h2 => (List.nodup_append.mp x1.li.nd).2.2 a h1 a h2 rfl
  have dIO : ∀ a ∈ Oin, a ∉ A0 := fun a h1 h2 => (List.nodup_append.mp ndA).2.2 a h1 a h2 rfl
  have exA : ∀ a ∈ A1 ++ B1, H1 a ≠ none := x1.li.exists
  have nR : ∀ a, a ∈ Oin ∨ H1 a = none → ¬ R a := fun a h z => by
    rcases h with h | h
    · exact x1.li.nr a (List.mem_append_left _ (mA h)) (.inl z)
    · exact x1.li.rs a (.inl z) h
  have offA : ∀ a, a ∈ Oin ∨ H1 a = none → a ∉ A0 ∧ a ∉ B1 := fun a h => by
    rcases h with h | h
    · exact ⟨dIO a h, dAB a (mA h)⟩
    · exact ⟨fun z => exA a (List.mem_append_left _ (mA0 z)) h, fun z => exA a (List.mem_append_right _ z) h⟩
  have hfr : lhs (dataOf as) = false → ∀ a, Fz (fun a => H1 a ≠ none ∧ ¬ (Fz (Rv R P) (A1 ++ B1) a ∨ a ∈ L) ∧ a ∉ Oin) (Oo ++ Or) a → (a ∉ A0 ∧ a ∉ B1) ∧ ¬ R a := fun hl0 a f => by
    by_cases h1 : a ∈ Oin ∨ H1 a = none
    · exact ⟨offA a h1, nR a h1⟩
    · have h2 : Fz (Rv R P) (A1 ++ B1) a ∨ a ∈ L := Classical.byContradiction fun z => f.2 ⟨fun w => h1 (.inr w), z, fun w => h1 (.inl w)⟩
      have off : a ∉ A1 ++ B1 → a ∉ A0 ∧ a ∉ B1 := fun z => ⟨fun w => z (List.mem_append_left _ (mA0 w)), fun w => z (List.mem_append_right _ w)⟩
      rcases h2 with h2 | h2
      · exact ⟨off h2.1, fun w => h2.2 (.inl w)⟩
      · rcases (p4 a h2).2 with w | w | w
        · exact ⟨off w.1, w.2⟩
        · exact ⟨off fun u => x1.disj a u w, x1.nr a w⟩
        · rw [hl0] at w; cases w
  have ndO := List.nodup_append.mp nd
  have hoff : ∀ a, a ∈ A1 ++ B1 → Fz R (Oo ++ A0 ++ (B1 ++ Or)) a ∨ a ∈ A0 ++ B1 ∨ a ∈ Oin := fun a h => by
    rcases List.mem_append.mp h with h | h
    · rcases List.mem_append.mp (p1.mem_iff.mp h) with h | h
      · exact .inr (.inr h)
      · exact .inr (.inl (List.mem_append_left _ h))
    · exact .inr (.inl (List.mem_append_right _ h))
  have F1 : ∀ a, Fz (Rv R P) (A1 ++ B1) a → H1 a ≠ none → Fz R (Oo ++ A0 ++ (B1 ++ Or)) a := fun a f n => by
    have new : a ∈ Oin ∨ H1 a = none → False := fun w => w.elim (fun w => f.1 (List.mem_append_left _ (mA w))) n
    refine ⟨fun w => ?_, fun w => f.2 (.inl w)⟩
    rcases List.mem_append.mp w with w | w <;> rcases List.mem_append.mp w with w | w
    · exact new (hor a (List.mem_append_left _ w))
    · exact f.1 (List.mem_append_left _ (mA0 w))
    · exact f.1 (List.mem_append_right _ w)
    · exact new (hor a (List.mem_append_right _ w))
  have wmI : WM Oin H1 := fun a z => x1.li.own a (List.mem_append_left _ (mA z))
  have hcS : Oin = [] ∨ nlL s1 = true := by
    cases e : b with
    | false => exact .inl (p5 (bs e)).1
    | true => exact .inr (x1.nl (nl0 e))
  have q1 : RpS Y.K H' m1 (Fz R (Oo ++ A0 ++ (B1 ++ Or))) vs (wipeL s1.sl (slotsOf as)) A0 :=
    p2.pres hp wmI (fun _ _ e => e) F1 (fun a f _ w => f.1 (List.mem_append_left _ (mA w))) (fun a z w => dIO a w z) (hcS.imp id fun h => by
      simp only [nlL, Bool.and_eq_true] at h
      exact nl_wipe h.1 _)
  have fo : lhs (dataOf as) = false → ∀ a, Fz (fun a => H1 a ≠ none ∧ ¬ (Fz (Rv R P) (A1 ++ B1) a ∨ a ∈ L) ∧ a ∉ Oin) (Oo ++ Or) a → Fz R (Oo ++ A0 ++ (B1 ++ Or)) a := fun hl0 a f => ⟨fun w => by
    rcases List.mem_append.mp w with w | w <;> rcases List.mem_append.mp w with w | w
    · exact f.1 (List.mem_append_left _ w)
    · exact (hfr hl0 a f).1.1 w
    · exact (hfr hl0 a f).1.2 w
    · exact f.1 (List.mem_append_right _ w), (hfr hl0 a f).2⟩
  obtain ⟨A2, q2, pm, h0⟩ : ∃ A2, RpS Y.K H' m1 (Fz R (Oo ++ A0 ++ (B1 ++ Or))) vs sl' A2 ∧ A2.Perm (Oo ++ A0) ∧ (slotsOf as = [] → A2 = A1 ∧ sl' = s1.sl) := by
    by_cases hs : slotsOf as = []
    · have hio : ioAt 0 as = [] := by
        have : ∀ (n : Nat) (as : List AV), slotsOf as = [] → ioAt n as = [] := by
          intro n as
          induction as generalizing n with
          | nil => intro _; rfl
          | cons a as ih =>
            cases a with
            | dat x => intro h; exact ih (n + 1) h
            | slot i => intro h; cases h
        exact this 0 as hs
      rw [hio] at ro
      have hoo : outs = [] ∧ Oo = [] := by
        generalize hG : Fz (fun a => H1 a ≠ none ∧ ¬ (Fz (Rv R P) (A1 ++ B1) a ∨ a ∈ L) ∧ a ∉ Oin) (Oo ++ Or) = G at ro
        cases ro
        exact ⟨rfl, rfl⟩
      obtain ⟨rfl, ho⟩ := hoo
      rw [hs] at eo
      obtain ⟨_, e2⟩ := setOuts_nil eo
      refine ⟨A0, ?_, by rw [ho]; exact List.Perm.refl _, fun _ => ⟨(p5 hs).2, e2⟩⟩
      rw [hs] at q1
      rw [e2]
      exact q1
    · have hl0 : lhs (dataOf as) = false := by
        cases e : lhs (dataOf as) with
        | false => rfl
        | true => exact absurd (hl e) hs
      obtain ⟨A2, h1, h2⟩ := pick_rp (A0 := A0) q1 (ro.fz fun a f => fo hl0 a f) eo (fun i hi => wipe_none hi (args_lt e1 i hi)) hd (slots_at (pre := []) ra)
      exact ⟨A2, h1, h2, fun h => absurd h hs⟩
  have m3 : ∀ {a}, a ∈ A2 → a ∈ Oo ∨ a ∈ A0 := fun z => List.mem_append.mp (pm.mem_iff.mp z)
  have F32 : ∀ a, Fz R (Oo ++ A0 ++ (B1 ++ Or)) a → Fz R (A2 ++ B1 ++ Or) a := fun a f => ⟨fun w => f.1 (by
    rcases List.mem_append.mp w with w | w
    · rcases List.mem_append.mp w with w | w
      · exact List.mem_append_left _ (pm.mem_iff.mp w)
      · exact List.mem_append_right _ (List.mem_append_left _ w)
    · exact List.mem_append_right _ (List.mem_append_right _ w)), f.2⟩
  have FR : ∀ a, Fz R (A2 ++ B1 ++ Or) a → Fz (Rv R Or) (A2 ++ B1) a := fun a f => ⟨fun w => f.1 (List.mem_append_left _ w), fun w => w.elim f.2 fun w => f.1 (List.mem_append_right _ w)⟩
  have or3 : ∀ a ∈ Or, a ∉ A2 ++ B1 := fun a h w => by
    have h' := hor a (List.mem_append_right _ h)
    rcases List.mem_append.mp w with w | w
    · rcases m3 w with w | w
      · exact ndO.2.2 a w a h rfl
      · exact (offA a h').1 w
    · exact (offA a h').2 w
  have nd3 : (A2 ++ B1).Nodup := by
    refine List.nodup_append.mpr ⟨pm.nodup_iff.mpr (List.nodup_append.mpr ⟨ndO.1, (List.nodup_append.mp ndA).2.1, fun a h1 c h2 e => ?_⟩), (List.nodup_append.mp x1.li.nd).2.1, fun a h1 c h2 e => ?_⟩
    · subst e; exact (offA a (hor a (List.mem_append_left _ h1))).1 h2
    · subst e
      rcases m3 h1 with h1 | h1
      · exact (offA a (hor a (List.mem_append_left _ h1))).2 h2
      · exact dAB a (mA0 h1) h2
  have L2' : LI Y.K H' (Rv R Or) vs ⟨sl', s1.ob⟩ m1 A2 B1 := by
    refine ⟨?_, ?_, nd3, fun a z w => ?_, fun a z => ?_⟩
    · exact q2.pres (W := []) Pres.refl (fun b z => nomatch z) (fun _ _ e => e) (fun a f _ => FR a (F32 a f)) (fun _ _ _ z => nomatch z) (fun _ _ z => nomatch z) (.inl rfl)
    · exact x1.li.ob.pres hp wmI (fun _ _ e => e) (fun a f n => FR a (F32 a (F1 a f n))) (fun a f _ w => f.1 (List.mem_append_left _ (mA w))) (fun a z w => dAB a (mA w) z) (hcS.imp id fun h => by
        simp only [nlL, Bool.and_eq_true] at h
        exact h.2)
    · rcases w with w | w
      · rcases List.mem_append.mp z with z | z
        · rcases m3 z with z | z
          · exact nR a (hor a (List.mem_append_left _ z)) w
          · exact x1.li.nr a (List.mem_append_left _ (mA0 z)) (.inl w)
        · exact x1.li.nr a (List.mem_append_right _ z) (.inl w)
      · exact or3 a w z
    · rcases z with z | z
      · exact hdm a (x1.li.rs a (.inl z))
      · exact hox a z
  have old : ∀ a, a ∈ Oin ∨ H1 a = none → a ∈ A ++ B ∨ H a = none := fun a h => by
    rcases h with h | h
    · exact x1.gr a (.inl (List.mem_append_left _ (mA h)))
    · cases e : H a with
      | none => exact .inr rfl
      | some o =>
        by_cases u : a ∈ A ++ B
        · exact .inl u
        · rw [x1.pr a o e u] at h; cases h
  refine ⟨A2, ⟨L2', ndO.2.1, fun a z => nR a (hor a (List.mem_append_right _ z)), hox, ?_, fun a n => hdm a (x1.dm a n), fun a z => ?_, x1.mm, fun h => ?_, fun h => ?_⟩, fun hl0 a f => F32 a (fo hl0 a f)⟩
  · exact x1.pr.trans hp fun a z => x1.gr a (.inl (List.mem_append_left _ (mA z)))
  · rcases z with z | z
    · rcases List.mem_append.mp z with z | z
      · rcases m3 z with z | z
        · exact old a (hor a (List.mem_append_left _ z))
        · exact x1.gr a (.inl (List.mem_append_left _ (mA0 z)))
      · exact x1.gr a (.inl (List.mem_append_right _ z))
    · exact old a (hor a (List.mem_append_right _ z))
  · have h1 := x1.nl h
    simp only [nlL, Bool.and_eq_true] at h1 ⊢
    exact ⟨nl_outs eo nlo (nl_wipe h1.1 _), h1.2⟩
  · obtain ⟨f1, f5⟩ := x1.ef h
    have hs := bs h
    obtain ⟨e3, e4⟩ := h0 hs
    refine ⟨by rw [e4, ← f1], ?_⟩
    rw [(p5 hs).1] at hp
    exact f5.trans hp fun a z => nomatch z

theorem argsOf_len {s : LS} : ∀ {as : List AV} {xs : List LV}, argsOf s as = some xs → xs.length = as.length
  | [], _, e => by cases e; rfl
  | .dat x :: as, xs, e => by
    unfold argsOf at e
    split at e
    · rename_i e1 e2; cases e; simp [argsOf_len e2]
    · cases e
  | .slot j :: as, xs, e => by
    unfold argsOf at e
    split at e
    · rename_i e1 e2
      split at e
      · cases e; simp [argsOf_len e2]
      · cases e
    · cases e
theorem call_conv {cf : CF} {f np : Nat} {io : List Nat} {sh : List (Option Nat)} {ga : LS → Res (List AV × LS)} {vs : L2.St} {H : Hp} {Q : VK} (hio : ioOf 0 sh = io) (hnp : sh.length = np) (h : tG Y b (relV Y) (callEE cf f ga) vs H Q) :
    tA Y b sh ga vs H (fun us H1 => spF Y.K Y.XR cf f np io us H1 Q (fun cl d H' => Y.W cl d vs H')) := by
  obtain ⟨s, R, m, A, B, l, n, h⟩ := h
  refine ⟨s, R, m, A, B, l, n, h.split id fun p hp h1 us H1 m1 A1 B1 P x1 r1 => ?_⟩
  obtain ⟨as, s1⟩ := p
  obtain ⟨ra, hsh, hbs⟩ := r1
  simp only at h1 x1 ra hsh hbs
  unfold callE at h1
  cases e1 : argsOf s1 as with
  | none => rw [e1] at h1; exact h1.elim
  | some xs =>
    rw [e1] at h1
    simp only at h1
    by_cases hc : distinct (slotsOf as) = true ∧ (lhs (dataOf as) = true → slotsOf as = [])
    case neg => rw [if_neg hc] at h1; exact h1.elim
    rw [if_pos hc] at h1
    obtain ⟨Oin, A0, L, p1, p2, p3, p4, p5⟩ := args_rp x1.li ra e1 hc.1 (fun a f => ⟨fun w => f.1 (List.mem_append_left _ w), f.2⟩) (fun a z => z)
    have mA : ∀ {a}, a ∈ Oin → a ∈ A1 := fun z => p1.mem_iff.mpr (List.mem_append_left _ z)
    have ndA : (Oin ++ A0).Nodup := p1.nodup_iff.mp (List.nodup_append.mp x1.li.nd).1
    have hio' : ioAt 0 as = io := by rw [ioAt_shp, hsh, hio]
    refine ⟨xs, (fun a => H1 a ≠ none ∧ ¬ (Fz (Rv R P) (A1 ++ B1) a ∨ a ∈ L) ∧ a ∉ Oin), Oin, by rw [ra.len, ← shp_len, hsh, hnp], ?_, (List.nodup_append.mp ndA).1, fun a z w => w.2.2 z, fun a w => w.1, ?_⟩
    · refine p3.fz fun a f => ⟨fun w => ?_, fun w => w.2.1 f⟩
      rcases f with f | f
      · exact f.1 (List.mem_append_left _ (mA w))
      · rcases (p4 a f).2 with q | q | q
        · exact q.1 (List.mem_append_left _ (mA w))
        · exact x1.disj a (List.mem_append_left _ (mA w)) q
        · rw [(p5 (hc.2 q)).1] at w; cases w
    · rw [← hio']
      cases ec : cf f xs with
      | stuck => rw [ec] at h1; exact h1.elim
      | ok r outs =>
        rw [ec] at h1
        simp only at h1 ⊢
        by_cases hn : (lhs (dataOf as) = true ∧ r.hm = false) ∨ r.nl = false ∨ nlAll outs = false
        · rw [if_pos hn] at h1; exact h1.elim
        rw [if_neg hn] at h1
        cases eo : setOuts (slotsOf as) outs (wipeL s1.sl (slotsOf as)) with
        | none => rw [eo] at h1; exact h1.elim
        | some sl' =>
          rw [eo] at h1
          intro v H' Oo Or q1 q2 q3 q4 q5 q6 q7
          have exr : ∀ a ∈ Or, H' a ≠ none := fun a z w => by
            rcases q4.own a z with ⟨_, e⟩ | ⟨_, e⟩ <;> rw [w] at e <;> cases e
          obtain ⟨A2, x2, hf⟩ := call_end (cf := cf) x1 n ra hbs e1 hc.1 hc.2 p1 p2 p4 p5 q1 q2 q3 q5 q7 exr (by
            cases e : nlAll outs with
            | true => rfl
            | false => exact absurd (.inr (.inr e)) hn) eo
          refine h1 v H' m1 A2 B1 Or x2 ?_
          cases hl0 : lhs (dataOf as) with
          | true =>
            refine q4.hmF ?_
            cases e : r.hm with
            | true => rfl
            | false => exact absurd (.inl ⟨hl0, e⟩) hn
          | false => exact (q4.fz fun a f => hf hl0 a f).nilm
      | exc c ps outs =>
        rw [ec] at h1
        simp only at h1 ⊢
        by_cases hn : nlAll outs = false ∨ (lhs (dataOf as) = true ∧ ims ps = false)
        · rw [if_pos hn] at h1; exact h1.elim
        rw [if_neg hn] at h1
        cases eo : setOuts (slotsOf as) outs (wipeL s1.sl (slotsOf as)) with
        | none => rw [eo] at h1; exact h1.elim
        | some sl' =>
          rw [eo] at h1
          intro cl d H' Oo q1 q2 q3 q4 q5 q6 q7
          obtain ⟨A2, x2, hf⟩ := call_end (cf := cf) (Or := []) x1 n ra hbs e1 hc.1 hc.2 p1 p2 p4 p5 q1 q2 (by rw [List.append_nil]; exact q3) (by rw [List.append_nil]; exact q5) (by rw [List.append_nil]; exact q7) (fun _ z => nomatch z) (by
            cases e : nlAll outs with
            | true => rfl
            | false => exact absurd (.inl e) hn) eo
          refine h1 cl d H' m1 A2 B1 x2 (Y.mono _ _ _ _ _ _ _ ?_ q4)
          cases hl0 : lhs (dataOf as) with
          | true =>
            left
            cases e : ims ps with
            | true => rfl
            | false => exact absurd (.inr ⟨hl0, e⟩) hn
          | false =>
            right
            intro a f _
            have f' := hf hl0 a (by rw [List.append_nil]; exact f)
            rw [List.append_nil] at f'
            exact f'
end

section
variable {Y : Yx} {X : Cx} {ea : Expr} {es : List Expr} {ba bb b : Bool} {fa : EvF} {ga : LS → Res (List AV × LS)} {sh : List (Option Nat)} {pos : Pos} {k : Nat} {f : Addr} {fd : FuncData} {ps : List Str} {x : Str} {p : Pos}
theorem sc_nil : SC Y X b [] (fun s => .ok ([], s)) [] := PAw pa_nil fun vs H Q h => by
  obtain ⟨s, R, m, A, B, l, n, h⟩ := h
  exact h [] H m A B [] (Stp.refl l) ⟨.nil, rfl, fun _ => rfl⟩
theorem RpA.keep {H1 H2 : Hp} {vs : L2.St} {m1 m2 : List Addr} {F F' : Addr → Prop} (hp : Pres [] H1 H2) : True := trivial
theorem scc_conv {vs : L2.St} {H : Hp} {Q : List V → Hp → Prop} (h : tG Y (ba || bb) (relA Y vs (ba || bb) (none :: sh)) (consC bb fa ga) vs H Q) : tCons (tG Y ba (relV Y) fa) (tA Y bb sh ga) vs H Q := by
  obtain ⟨s, R, m, A, B, l, n, h⟩ := h
  refine ⟨s, R, m, A, B, l, fun e => n (by rw [e]; rfl), h.split (fun e => by cases ba <;> simp_all) fun p hp h1 y H1 m1 A1 B1 P x1 r1 => ?_⟩
  by_cases hc : bb = true ∧ p.1.nl = false
  · rw [if_pos hc] at h1; exact h1.elim
  rw [if_neg hc] at h1
  refine ⟨p.2, Rv R P, m1, A1, B1, x1.li, fun e => x1.nl (n (by rw [e]; cases ba <;> rfl)), h1.next x1 (fun e => by cases ba <;> cases bb <;> simp_all) fun q hq h2 z H2 m2 A2 B2 P2 x2 r2 => ?_⟩
  have r1' := x1.keep r1 x2 (by
    cases e : bb with
    | false => exact .inl rfl
    | true =>
      right
      cases e2 : p.1.nl with
      | true => rfl
      | false => exact absurd ⟨e, e2⟩ hc)
  obtain ⟨ra, hs, hb⟩ := r2
  have rf : ∀ {us : List V} {as : List AV} {Q : List Addr}, RpA Y.K H2 m2 (Fz (Rv R P) (A2 ++ B2 ++ P2)) vs us as Q → RpA Y.K H2 m2 (Fz R (A2 ++ B2 ++ (P ++ P2))) vs us as Q := by
    intro us as Q r
    induction r with
    | nil => exact .nil
    | dat r t ih => exact .dat (r.fz Fz_rv) ih
    | slot h t ih => exact .slot h ih
  exact h2 (y :: z) H2 m2 A2 B2 (P ++ P2) (x1.seq x2) ⟨.dat r1' (rf ra), by simp [shp, hs], fun e => by
    simp only [Bool.or_eq_false_iff] at e
    simpa [slotsOf] using hb e.2⟩
theorem sc_cons (ha : SE Y X ba fa ea) (hb : SC Y X bb sh ga es) (hs : ∀ v p, ea ≠ .Starred v p) : SC Y X (ba || bb) (none :: sh) (consC bb fa ga) (ea :: es) := PAw (pa_cons ha hb (star_no hs es X.env)) fun vs H Q h => scc_conv h
theorem scs_conv {i : Nat} {vs : L2.St} {H : Hp} {Q : List V → Hp → Prop} (h : tG Y true (relA Y vs true (some i :: sh)) (slotC i ga) vs H Q) : tCons (fun σ H Q => ∃ x, σ[i]? = some (some x) ∧ Q x H) (tA Y true sh ga) vs H Q := by
  obtain ⟨s, R, m, A, B, l, n, h⟩ := h
  unfold slotC at h
  split at h
  · rename_i x hx
    obtain ⟨u, P, e1, r, _⟩ := l.sl.get hx
    refine ⟨u, e1, s, R, m, A, B, l, n, h.split id fun q hq h2 z H2 m2 A2 B2 P2 x2 r2 => ?_⟩
    obtain ⟨ra, hs, hb⟩ := r2
    exact h2 (u :: z) H2 m2 A2 B2 P2 x2 ⟨.slot e1 ra, by simp [shp, hs], fun e => nomatch e⟩
  · exact h.elim
theorem sc_slot {i : Nat} {y : Str} {py : Pos} (hN : X.N[i]? = some y) (hv : Vis X.env.scope y) (hd : (y == ("__debug__" : Str)) = false) (hcd : (y == ("__classdict__" : Str)) = false) (hb : SC Y X true sh ga es) : SC Y X true (some i :: sh) (slotC i ga) (.Name y py :: es) :=
  PAw (pa_cons (pe_var hN hv hd hcd) hb (star_no (e := .Name y py) (fun v p z => by cases z) es X.env)) fun vs H Q h => scs_conv h

theorem se_call {cf : CF} {g np : Nat} {io : List Nat} (hio : ioOf 0 sh = io) (hnp : sh.length = np) (F : FnG X.prog X.w X.K X.mg X.base k f fd ps (spF Y.K Y.XR cf g np io)) (hr : Room k X.A) (hgd : X.A.guards = some []) (tk : Takes X Y.W) (hg : Gl X x) (hm : X.mg x = some (.ref f)) (hk : PySem.W.keepIn X.K (.ref f) = true) (hb : Binds X.K fd ps [])
    (ha : SC Y X b sh ga (ea :: es)) (hdb : (x == ("__debug__" : Str)) = false) (he : starEach (ea :: es) X.env = (false, eval ea X.env) :: starEach es X.env) (hpl : (backTo pos (starEach es X.env)).any (·.1) = false) : SE Y X b (callEE cf g ga) (.Call (.Name x p) (ea :: es) [] pos) := by
  refine ⟨fun pins s σ H Q I h => ?_⟩
  refine wpAny_Call_Name_kw (ld_glob I hg hm ?_ hdb)
  refine PySem.W.callWith_K (h₀ := X.base) I.ok.mod.kin hk (thn (ha.run pos pins s σ H _ I (call_conv hio hnp h)) fun us s1 ⟨vs, H1, I1, r, q⟩ => ⟨I1.kIn, ?_⟩) he hpl
  exact call_fnG F hr hgd tk hb I1 r q
theorem se_call0 {cf : CF} {g np : Nat} {io : List Nat} (hio : ioOf 0 [] = io) (hnp : ([] : List (Option Nat)).length = np) (F : FnG X.prog X.w X.K X.mg X.base k f fd ps (spF Y.K Y.XR cf g np io)) (hr : Room k X.A) (hgd : X.A.guards = some []) (tk : Takes X Y.W) (hg : Gl X x) (hm : X.mg x = some (.ref f)) (hk : PySem.W.keepIn X.K (.ref f) = true) (hb : Binds X.K fd ps [])
    (hdb : (x == ("__debug__" : Str)) = false) : SE Y X b (callEE cf g (fun s => .ok ([], s))) (.Call (.Name x p) [] [] pos) := by
  refine ⟨fun pins s σ H Q I h => ?_⟩
  refine wpAny_Call_Name_kw (ld_glob I hg hm ?_ hdb)
  have q := call_conv (sh := []) hio hnp h
  obtain ⟨s0, R, m, A, B, l, n, q⟩ := q
  exact PySem.W.callWith_K0 I.kIn hk (call_fnG (us := []) F hr hgd tk hb I .nil (q [] H m A B [] (Stp.refl l) ⟨.nil, rfl, fun _ => rfl⟩))
end
end MP
/-! MP.14: statements -/
namespace MP
open PySem PySem.Spec PyProof.Rows L2

structure StT (K : PySem.W.Frag) (H : Hp) (R : Addr → Prop) (vs : L2.St) (A B : List Addr) (io : List Nat) (H' : Hp) (vs' : L2.St) (s' : LS) (m' A' B' Ov : List Addr) : Prop where
  li : LI K H' (Rv R Ov) vs' s' m' A' B'
  nd : Ov.Nodup
  nr : ∀ a ∈ Ov, ¬ R a
  pr : Pres (A ++ B) H H'
  dm : ∀ a, H a ≠ none → H' a ≠ none
  gr : ∀ a, a ∈ A' ++ B' ∨ a ∈ Ov → a ∈ A ++ B ∨ H a = none
  nl : nlL s' = true
  io : ∀ i ∈ io, vs'[i]? = vs[i]?

def PostS (Y : Yx) (H : Hp) (R : Addr → Prop) (vs : L2.St) (A B : List Addr) (io : List Nat) (r : SR) (D : Ends) : Prop :=
  match r with
  | .nxt s' => ∀ H' vs' m' A' B', StT Y.K H R vs A B io H' vs' s' m' A' B' [] → D.nx vs' H'
  | .brk s' => ∀ H' vs' m' A' B', StT Y.K H R vs A B io H' vs' s' m' A' B' [] → D.bk vs' H'
  | .cnt s' => ∀ H' vs' m' A' B', StT Y.K H R vs A B io H' vs' s' m' A' B' [] → D.ct vs' H'
  | .ret x s' => ∀ y H' vs' m' A' B' Ov, StT Y.K H R vs A B io H' vs' s' m' A' B' Ov → Rp Y.K H' m' (Fz R (A' ++ B' ++ Ov)) y x Ov → D.rt y H'
  | .exc c ps s' => ∀ cl d H' vs' m' A' B', StT Y.K H R vs A B io H' vs' s' m' A' B' [] → Y.XR (Fz R (A' ++ B')) H' c ps cl d → Y.W cl d vs' H'
  | .stuck => False
def tS (Y : Yx) (io : List Nat) (f : LS → SR) : TS := fun D vs H => ∃ s R m A B, LI Y.K H R vs s m A B ∧ nlL s = true ∧ PostS Y H R vs A B io (f s) D
abbrev SS (Y : Yx) (X : Cx) (io : List Nat) (f : LS → SR) (st : Stmt) : Prop := PS X st (tS Y io f)
abbrev SB (Y : Yx) (X : Cx) (io : List Nat) (f : LS → SR) (st : List Stmt) : Prop := PSs X st (tS Y io f)
theorem PSw {X : Cx} {e : Stmt} {t t' : TS} (h : PS X e t) (w : ∀ D σ H, t' D σ H → t D σ H) : PS X e t' := ⟨fun pins s σ H D I q => h.run pins s σ H D I (w D σ H q)⟩
theorem PSsw {X : Cx} {e : List Stmt} {t t' : TS} (h : PSs X e t) (w : ∀ D σ H, t' D σ H → t D σ H) : PSs X e t' := ⟨fun pins s σ H D I q => h.run pins s σ H D I (w D σ H q)⟩

section
variable {Y : Yx} {H H' H1 H2 : Hp} {R : Addr → Prop} {vs vs1 vs2 : L2.St} {s s' s1 s2 : LS} {m m' m1 m2 : List Addr} {A B A' B' A1 B1 A2 B2 P : List Addr} {b b1 b2 : Bool} {io : List Nat}
theorem StT.refl {K : PySem.W.Frag} (l : LI K H R vs s m A B) (n : nlL s = true) : StT K H R vs A B io H vs s m A B [] :=
  ⟨by rw [Rv_nil]; exact l, List.nodup_nil, (fun _ z => nomatch z), Pres.refl, fun _ e => e, fun a z => .inl (z.elim id fun q => nomatch q), n, fun _ _ => rfl⟩
theorem StT.seq {K : PySem.W.Frag} (x : StT K H R vs A B io H1 vs1 s1 m1 A1 B1 []) (y : StT K H1 R vs1 A1 B1 io H2 vs2 s2 m2 A2 B2 P) : StT K H R vs A B io H2 vs2 s2 m2 A2 B2 P where
  li := y.li
  nd := y.nd
  nr := y.nr
  pr := x.pr.trans y.pr fun a z => x.gr a (.inl z)
  dm := fun a n => y.dm a (x.dm a n)
  gr := fun a z => by
    rcases y.gr a z with q | q
    · exact x.gr a (.inl q)
    · cases e : H a with
      | none => exact .inr rfl
      | some o =>
        by_cases w : a ∈ A ++ B
        · exact .inl w
        · rw [x.pr a o e w] at q; cases q
  nl := y.nl
  io := fun i h => (y.io i h).trans (x.io i h)
/-- an expression's step -/
theorem Stp.toT {K : PySem.W.Frag} (x : Stp K H R vs s m A B b H1 s1 m1 A1 B1 P) (n : nlL s = true) : StT K H R vs A B io H1 vs s1 m1 A1 B1 P := ⟨x.li, x.nd, x.nr, x.pr, x.dm, x.gr, x.nl n, fun _ _ => rfl⟩
theorem PostS.next {r : SR} {D : Ends} (h : PostS Y H R vs A B io r D) (x : StT Y.K H R vs A B io H1 vs1 s1 m1 A1 B1 []) : PostS Y H1 R vs1 A1 B1 io r D := by
  cases r with
  | nxt s' => exact fun H' vs' m' A' B' y => h H' vs' m' A' B' (x.seq y)
  | brk s' => exact fun H' vs' m' A' B' y => h H' vs' m' A' B' (x.seq y)
  | cnt s' => exact fun H' vs' m' A' B' y => h H' vs' m' A' B' (x.seq y)
  | ret v s' => exact fun y H' vs' m' A' B' Ov z q => h y H' vs' m' A' B' Ov (x.seq z) q
  | exc c ps s' => exact fun cl d H' vs' m' A' B' y q => h cl d H' vs' m' A' B' (x.seq y) q
  | stuck => exact h
theorem PostS.li {r : SR} {D : Ends} (h : PostS Y H1 R vs1 A1 B1 io r D) (x : StT Y.K H R vs A B io H1 vs1 s1 m1 A1 B1 []) {f : LS → SR} (e : f s1 = r) : tS Y io f D vs1 H1 :=
  ⟨s1, R, m1, A1, B1, by have := x.li; rw [Rv_nil] at this; exact this, x.nl, by rw [e]; exact h⟩
/-- an expression within a statement -/
theorem PostS.expr {α β : Type} {rel : Rel α β} {r : Res (α × LS)} {g : α × LS → SR} {D : Ends} {Q : β → Hp → Prop} (n : nlL s = true) (h : PostS Y H R vs A B io (r.toS g) D)
    (k : ∀ p, r = .ok p → PostS Y H R vs A B io (g p) D → ∀ y H1 m1 A1 B1 P, Stp Y.K H R vs s m A B b H1 p.2 m1 A1 B1 P → rel H1 m1 (Fz R (A1 ++ B1 ++ P)) y p.1 P → Q y H1) : Post Y H R vs s m A B b rel r Q := by
  cases r with
  | ok p => exact fun y H1 m1 A1 B1 P x q => k p rfl h y H1 m1 A1 B1 P x q
  | exc c ps s' => exact fun cl d H' m' A' B' x q => h cl d H' vs m' A' B' (x.toT n) q
  | stuck => exact h
end

section
variable {Y : Yx} {X : Cx} {st : Stmt} {rest : List Stmt} {ea : Expr} {fa : EvF} {ga gb : LS → SR} {b : Bool} {io : List Nat} {pos : Pos}
theorem sb_nil : SB Y X io (fun s => .nxt s) [] := PSsw pss_nil fun D vs H h => by
  obtain ⟨s, R, m, A, B, l, n, h⟩ := h
  exact h H vs m A B (.refl l n)
theorem seq_conv {D : Ends} {vs : L2.St} {H : Hp} (h : tS Y io (fun s => (ga s).bind gb) D vs H) : tSeq (tS Y io ga) (tS Y io gb) D vs H := by
  obtain ⟨s, R, m, A, B, l, n, h⟩ := h
  replace h : PostS Y H R vs A B io ((ga s).bind gb) D := h
  refine ⟨s, R, m, A, B, l, n, ?_⟩
  revert h
  cases e : ga s with
  | nxt s' => exact fun h H' vs' m' A' B' x => (PostS.next h x).li x rfl
  | brk s' => exact id
  | cnt s' => exact id
  | ret v s' => exact id
  | exc c ps s' => exact id
  | stuck => exact id
theorem sb_cons (h1 : SS Y X io ga st) (h2 : SB Y X io gb rest) : SB Y X io (fun s => (ga s).bind gb) (st :: rest) := PSsw (pss_cons h1 h2) fun D vs H h => seq_conv h
theorem sb_one (h1 : SS Y X io ga st) : SB Y X io ga [st] := pss_one h1
theorem ss_pass : SS Y X io (fun s => .nxt s) (.Pass pos) := PSw ps_pass fun D vs H h => by
  obtain ⟨s, R, m, A, B, l, n, h⟩ := h
  exact h H vs m A B (.refl l n)
theorem ss_brk : SS Y X io (fun s => .brk s) (.Break pos) := PSw ps_break fun D vs H h => by
  obtain ⟨s, R, m, A, B, l, n, h⟩ := h
  exact h H vs m A B (.refl l n)
theorem ss_cnt : SS Y X io (fun s => .cnt s) (.Continue pos) := PSw ps_continue fun D vs H h => by
  obtain ⟨s, R, m, A, B, l, n, h⟩ := h
  exact h H vs m A B (.refl l n)
theorem ss_doc {x j pos pos'} : SS Y X io (fun s => .nxt s) (.Expr (.Constant (.str x) j pos) pos') := PSw ps_doc fun D vs H h => by
  obtain ⟨s, R, m, A, B, l, n, h⟩ := h
  exact h H vs m A B (.refl l n)
theorem ss_expr (he : SE Y X b fa ea) (hs : swapsWith ea none pos.line X.env = pure false) : SS Y X io (fun s => (fa s).toS fun p => .nxt p.2) (.Expr ea pos) := PSw (ps_expr he hs) fun D vs H h => by
  obtain ⟨s, R, m, A, B, l, n, h⟩ := h
  exact ⟨s, R, m, A, B, l, fun _ => n, h.expr n fun p hp h1 y H1 m1 A1 B1 P x1 r1 => h1 H1 vs m1 A1 B1 (x1.drop.toT n)⟩
theorem ss_retE (he : SE Y X b fa ea) : SS Y X io (fun s => (fa s).toS fun p => .ret p.1 p.2) (.Return (some ea) pos) := PSw (ps_ret he) fun D vs H h => by
  obtain ⟨s, R, m, A, B, l, n, h⟩ := h
  exact ⟨s, R, m, A, B, l, fun _ => n, h.expr n fun p hp h1 y H1 m1 A1 B1 P x1 r1 => h1 y H1 vs m1 A1 B1 P (x1.toT n) r1⟩
theorem ss_retN : SS Y X io (fun s => .ret (.imm .none) s) (.Return none pos) := PSw ps_retN fun D vs H h => by
  obtain ⟨s, R, m, A, B, l, n, h⟩ := h
  exact h .non H vs m A B [] (.refl l n) (.imm (as := []) .non fun _ z => nomatch z)
theorem if_conv {D : Ends} {vs : L2.St} {H : Hp} (h : tS Y io (fun s => (tstR (fa s)).toS fun p => if p.1 then ga p.2 else gb p.2) D vs H) : tIfS (tG Y b relB fun s => tstR (fa s)) (tS Y io ga) (tS Y io gb) D vs H := by
  obtain ⟨s, R, m, A, B, l, n, h⟩ := h
  refine ⟨s, R, m, A, B, l, fun _ => n, h.expr n fun p hp h1 y H1 m1 A1 B1 P x1 r1 => ?_⟩
  obtain ⟨rfl, rfl⟩ := r1
  have t := x1.toT (io := io) n
  have h2 := PostS.next h1 t
  revert h2
  cases p.1 with
  | true => exact fun h2 => h2.li t rfl
  | false => exact fun h2 => h2.li t rfl
theorem ss_if {c : Expr} {p q : List Stmt} (hc : ST Y X b (fun s => tstR (fa s)) c) (ha : SB Y X io ga p) (hb : SB Y X io gb q) : SS Y X io (fun s => (tstR (fa s)).toS fun p => if p.1 then ga p.2 else gb p.2) (.If c p q pos) :=
  PSw (ps_if hc ha hb) fun D vs H h => if_conv h

/-! ### targets -/
mutual
def tgT (K : PySem.W.Frag) : Tg → TG
  | .nm i => gName i
  | .tp l => gTup K (tgN l) (tgL K l)
  | _ => fun _ _ _ _ => False
def tgL (K : PySem.W.Frag) : Tg → TGs
  | .nil => gNil
  | .cons a b => gCons (tgT K a) (tgL K b)
  | _ => fun _ _ _ _ => False
def tgN : Tg → Nat
  | .nil => 0
  | .cons _ b => tgN b + 1
  | _ => 0
end
/-- the slots of a target -/
def tgS : Tg → List Nat
  | .nm i => [i]
  | .nil => []
  | .cons a b => tgS a ++ tgS b
  | .tp l => tgS l
def Sub (A C : List Addr) : Prop := ∃ D : List Addr, C.Perm (D ++ A)
theorem Sub.refl (A : List Addr) : Sub A A := ⟨[], List.Perm.refl _⟩
theorem Sub.trans {A B C : List Addr} (h : Sub A B) (g : Sub B C) : Sub A C := by
  obtain ⟨D, h⟩ := h
  obtain ⟨E, g⟩ := g
  exact ⟨E ++ D, by rw [List.append_assoc]; exact g.trans (List.Perm.append_left E h)⟩
theorem Sub.mem {A C : List Addr} (h : Sub A C) : ∀ {a}, a ∈ A → a ∈ C := fun z => by
  obtain ⟨D, h⟩ := h
  exact h.mem_iff.mpr (List.mem_append_right _ z)
theorem Sub.nodup {A C : List Addr} (h : Sub A C) (n : C.Nodup) : A.Nodup := by
  obtain ⟨D, h⟩ := h
  exact (List.nodup_append.mp (h.nodup_iff.mp n)).2.1
theorem Sub.cons {A C : List Addr} (D : List Addr) (h : Sub A C) : Sub A (D ++ C) := by
  obtain ⟨E, h⟩ := h
  exact ⟨D ++ E, by rw [List.append_assoc]; exact List.Perm.append_left D h⟩
theorem RpS.set1 {K : PySem.W.Frag} {H : Hp} {m : List Addr} {F : Addr → Prop} {vs : L2.St} {sl : List (Option LV)} {A : List Addr} (r : RpS K H m F vs sl A) : ∀ {i : Nat} {v : V} {x : LV} {O : List Addr}, i < sl.length → Rp K H m F v x O → ∃ A', RpS K H m F (vs.set i (some v)) (sl.set i (some x)) A' ∧ Sub A' (O ++ A) := by
  induction r with
  | nil => intro i v x O e; simp at e
  | @no u us xs P r ih =>
    intro i v x O e q
    cases i with
    | zero => exact ⟨O ++ P, .so q r, .refl _⟩
    | succ i =>
      obtain ⟨A', h1, h2⟩ := ih (i := i) (v := v) (x := x) (by simpa using e) q
      exact ⟨A', .no h1, h2⟩
  | @so u us y xs O' P h r ih =>
    intro i v x O e q
    cases i with
    | zero => exact ⟨O ++ P, .so q r, O', by
        rw [← List.append_assoc, ← List.append_assoc]
        exact List.Perm.append_right P List.perm_append_comm⟩
    | succ i =>
      obtain ⟨A', h1, D, h2⟩ := ih (i := i) (v := v) (x := x) (by simpa using e) q
      refine ⟨O' ++ A', .so h h1, D, ?_⟩
      have e1 : (O ++ (O' ++ P)).Perm (O' ++ (O ++ P)) := by
        rw [← List.append_assoc, ← List.append_assoc]
        exact List.Perm.append_right P List.perm_append_comm
      have e2 : (O' ++ (D ++ A')).Perm (D ++ (O' ++ A')) := by
        rw [← List.append_assoc, ← List.append_assoc]
        exact List.Perm.append_right A' List.perm_append_comm
      exact e1.trans ((List.Perm.append_left O' h2).trans e2)
theorem parts_rp {K : PySem.W.Frag} {H : Hp} {m : List Addr} {F : Addr → Prop} {v : V} {x : LV} {O : List Addr} {xs : List LV} (r : Rp K H m F v x O) (e : x.parts = some xs) : ∃ a us, v = .ref a ∧ SqT K H a us ∧ Rps K H m F us xs O := by
  have conv : ∀ {ds : List PyData} {us : List V} {as : List Addr}, RDs K H us ds as → (∀ a ∈ as, F a) → Rps K H m F us (ds.map LV.imm) [] := by
    intro ds
    induction ds with
    | nil => intro us as r f; cases r; exact .nil
    | cons d ds ih =>
      intro us as r f
      cases r with
      | cons r t => exact Rps.cons (.imm r fun a z => f a (List.mem_append_left _ z)) (ih t fun a z => f a (List.mem_append_right _ z))
  have convL : ∀ {ds : List PyData} {us : List V} {as : List Addr}, RDs K H us ds as → Rps K H m F us (ds.map mkLent) [] := by
    intro ds
    induction ds with
    | nil => intro us as r; cases r; exact .nil
    | cons d ds ih =>
      intro us as r
      cases r with
      | cons r t =>
        refine Rps.cons (O := []) ?_ (ih t)
        unfold mkLent
        split
        · rename_i hi
          exact .imm r fun a z => by rw [r.im hi] at z; cases z
        · exact .lent r
  unfold LV.parts at e
  split at e
  · cases e
    cases r with
    | imm r f => cases r with
      | tup h r => exact ⟨_, _, rfl, h, conv r f⟩
  · cases e
    cases r with
    | lent r => cases r with
      | tup h r => exact ⟨_, _, rfl, h, convL r⟩
  · cases e
    cases r with
    | tup h r => exact ⟨_, _, rfl, h, r⟩
  · cases e
theorem set_get {vs : L2.St} {i j : Nat} {v : Option V} (h : i ≠ j) : (vs.set i v)[j]? = vs[j]? := List.getElem?_set_ne h
theorem bindL_len : ∀ {t : Tg} {xs : List LV} {sl sl' : List (Option LV)}, bindL t xs sl = some sl' → xs.length = tgN t
  | .nil, [], _, _, _ => by simp [tgN]
  | .nil, _ :: _, _, _, e => by simp [bindL] at e
  | .cons a b, [], _, _, e => by simp [bindL] at e
  | .cons a b, x :: xs, sl, sl', e => by
    unfold bindL at e
    split at e
    · simp [tgN, bindL_len e]
    · cases e
  | .nm _, xs, _, _, e => by cases xs <;> simp [bindL] at e
  | .tp _, xs, _, _, e => by cases xs <;> simp [bindL] at e
mutual
theorem bindT_rp {K : PySem.W.Frag} {H : Hp} {m : List Addr} {F : Addr → Prop} {keep : List Nat} : ∀ {t : Tg} {x : LV} {v : V} {O : List Addr} {vs : L2.St} {sl sl' : List (Option LV)} {A : List Addr} {Q : L2.St → Hp → Prop}, Rp K H m F v x O → RpS K H m F vs sl A → bindT t x sl = some sl' → (∀ i ∈ tgS t, i ∉ keep) →
    (∀ vs' A', RpS K H m F vs' sl' A' → Sub A' (O ++ A) → (∀ i ∈ keep, vs'[i]? = vs[i]?) → Q vs' H) → tgT K t v vs H Q
  | .nm i, x, v, O, vs, sl, sl', A, Q, r, rs, e, hk, k => by
    unfold bindT at e
    split at e
    · rename_i hl
      cases e
      obtain ⟨A', h1, h2⟩ := rs.set1 hl r
      unfold tgT
      exact k _ A' h1 h2 fun j hj => set_get fun e => hk i (by simp [tgS]) (by rw [e]; exact hj)
    · cases e
  | .tp t, x, v, O, vs, sl, sl', A, Q, r, rs, e, hk, k => by
    unfold bindT at e
    split at e
    · rename_i xs ex
      obtain ⟨a, us, rfl, hq, r'⟩ := parts_rp r ex
      unfold tgT
      refine ⟨a, us, rfl, hq, by rw [r'.length]; exact bindL_len e, ?_⟩
      exact bindL_rp r' rs e hk k
    · cases e
  | .nil, _, _, _, _, _, _, _, _, _, _, e, _, _ => by unfold bindT at e; cases e
  | .cons _ _, _, _, _, _, _, _, _, _, _, _, e, _, _ => by unfold bindT at e; cases e
theorem bindL_rp {K : PySem.W.Frag} {H : Hp} {m : List Addr} {F : Addr → Prop} {keep : List Nat} : ∀ {t : Tg} {xs : List LV} {us : List V} {O : List Addr} {vs : L2.St} {sl sl' : List (Option LV)} {A : List Addr} {Q : L2.St → Hp → Prop}, Rps K H m F us xs O → RpS K H m F vs sl A → bindL t xs sl = some sl' → (∀ i ∈ tgS t, i ∉ keep) →
    (∀ vs' A', RpS K H m F vs' sl' A' → Sub A' (O ++ A) → (∀ i ∈ keep, vs'[i]? = vs[i]?) → Q vs' H) → tgL K t us vs H Q
  | .nil, _, _, _, vs, sl, sl', A, Q, .nil, rs, e, hk, k => by
    unfold bindL at e
    cases e
    unfold tgL
    exact ⟨rfl, k vs A rs (Sub.refl _) fun _ _ => rfl⟩
  | .nil, _, _, _, _, _, _, _, _, .cons _ _, _, e, _, _ => by unfold bindL at e; cases e
  | .cons _ _, _, _, _, _, _, _, _, _, .nil, _, e, _, _ => by unfold bindL at e; cases e
  | .cons a b, _, _, _, vs, sl, sl', A, Q, @Rps.cons _ _ _ _ v us x xs O P r t, rs, e, hk, k => by
    unfold bindL at e
    split at e
    · rename_i sl1 e1
      unfold tgL
      refine ⟨v, us, rfl, bindT_rp r rs e1 (fun i hi => hk i (by simp [tgS, hi])) fun vs1 A1 r1 s1 k1 => ?_⟩
      refine bindL_rp t r1 e (fun i hi => hk i (by simp [tgS, hi])) fun vs2 A2 r2 s2 k2 => k vs2 A2 r2 ?_ fun i hi => (k2 i hi).trans (k1 i hi)
      refine s2.trans ?_
      obtain ⟨D, s1⟩ := s1
      refine ⟨D, ?_⟩
      have e1 : (O ++ P ++ A).Perm (P ++ (O ++ A)) := by
        rw [← List.append_assoc]
        exact List.Perm.append_right A List.perm_append_comm
      have e2 : (P ++ (D ++ A1)).Perm (D ++ (P ++ A1)) := by
        rw [← List.append_assoc, ← List.append_assoc]
        exact List.Perm.append_right A1 List.perm_append_comm
      exact e1.trans ((List.Perm.append_left P s1).trans e2)
    · cases e
  | .nm _, _, _, _, _, _, _, _, _, .nil, _, e, _, _ => by unfold bindL at e; cases e
  | .nm _, _, _, _, _, _, _, _, _, .cons _ _, _, e, _, _ => by unfold bindL at e; cases e
  | .tp _, _, _, _, _, _, _, _, _, .nil, _, e, _, _ => by unfold bindL at e; cases e
  | .tp _, _, _, _, _, _, _, _, _, .cons _ _, _, e, _, _ => by unfold bindL at e; cases e
end
theorem parts_nl {x : LV} {xs : List LV} (e : x.parts = some xs) (n : x.nl = true) : LV.nls xs = true := by
  have conv : ∀ ds : List PyData, LV.nls (ds.map LV.imm) = true := fun ds => by induction ds <;> simp_all [LV.nls, LV.nl]
  unfold LV.parts at e
  split at e
  · cases e; exact conv _
  · simp [LV.nl] at n
  · cases e; simpa [LV.nl] using n
  · cases e
mutual
theorem bindT_nl : ∀ {t : Tg} {x : LV} {sl sl' : List (Option LV)}, bindT t x sl = some sl' → x.nl = true → nlS sl = true → nlS sl' = true
  | .nm i, x, sl, sl', e, n, h => by
    unfold bindT at e
    split at e
    · cases e; exact nlS_set h i _ fun y e => by cases e; exact n
    · cases e
  | .tp t, x, sl, sl', e, n, h => by
    unfold bindT at e
    split at e
    · rename_i xs ex; exact bindL_nl e (parts_nl ex n) h
    · cases e
  | .nil, _, _, _, e, _, _ => by unfold bindT at e; cases e
  | .cons _ _, _, _, _, e, _, _ => by unfold bindT at e; cases e
theorem bindL_nl : ∀ {t : Tg} {xs : List LV} {sl sl' : List (Option LV)}, bindL t xs sl = some sl' → LV.nls xs = true → nlS sl = true → nlS sl' = true
  | .nil, [], _, _, e, _, h => by unfold bindL at e; cases e; exact h
  | .nil, _ :: _, _, _, e, _, _ => by unfold bindL at e; cases e
  | .cons _ _, [], _, _, e, _, _ => by unfold bindL at e; cases e
  | .cons a b, x :: xs, sl, sl', e, n, h => by
    unfold bindL at e
    simp only [LV.nls, Bool.and_eq_true] at n
    split at e
    · rename_i sl1 e1; exact bindL_nl e n.2 (bindT_nl e1 n.1 h)
    · cases e
  | .nm _, [], _, _, e, _, _ => by unfold bindL at e; cases e
  | .nm _, _ :: _, _, _, e, _, _ => by unfold bindL at e; cases e
  | .tp _, [], _, _, e, _, _ => by unfold bindL at e; cases e
  | .tp _, _ :: _, _, _, e, _, _ => by unfold bindL at e; cases e
end
end
end MP
/-! MP.15: assignments, what is handed back, loops -/
namespace MP
open PySem PySem.Spec PyProof.Rows L2

section
variable {Y : Yx} {X : Cx} {st : Stmt} {rest : List Stmt} {ea : Expr} {es : List Expr} {fa : EvF} {fA : LS → Res (List LV × LS)} {ga gb : LS → SR} {b : Bool} {io : List Nat} {pos : Pos}

theorem tG.up {α β : Type} {rel : Rel α β} {f : LS → Res (α × LS)} {vs : L2.St} {H : Hp} {Q : β → Hp → Prop} (h : tG Y true rel f vs H Q) : tG Y b rel f vs H Q := by
  obtain ⟨s, R, m, A, B, l, n, h⟩ := h
  refine ⟨s, R, m, A, B, l, fun _ => n rfl, ?_⟩
  revert h
  cases f s with
  | ok p => exact fun h y H' m' A' B' Ov x r => h y H' m' A' B' Ov (x.any fun z => nomatch z) r
  | exc c ps s' => exact fun h cl d H' m' A' B' x q => h cl d H' m' A' B' (x.any fun z => nomatch z) q
  | stuck => exact id
theorem SE_up (h : SE Y X b fa ea) : SE Y X true fa ea := PEw h fun vs H Q h => tG.up h
theorem SA_up (h : SA Y X b fA es) : SA Y X true fA es := PAw h fun vs H Q h => tG.up h

theorem se_take {i : Nat} {x : Str} (hN : X.N[i]? = some x) (hv : Vis X.env.scope x) (hd : (x == ("__debug__" : Str)) = false) (hcd : (x == ("__classdict__" : Str)) = false) : SE Y X true (takeE i) (.Name x pos) := by
  refine PEw (pe_var hN hv hd hcd) fun vs H Q h => ?_
  obtain ⟨s, R, m, A, B, l, n, h⟩ := h
  unfold takeE takeV at h
  split at h
  · rename_i p hp
    split at hp
    · rename_i x hx
      cases hp
      obtain ⟨v, O, A', e1, r, rs, pm⟩ := l.sl.out hx
      refine ⟨v, e1, ?_⟩
      have ndA := (List.nodup_append.mp l.nd)
      have ndO : (O ++ A').Nodup := pm.nodup_iff.mp ndA.1
      have inA : ∀ {a}, a ∈ O ++ A' → a ∈ A := fun z => pm.mem_iff.mpr z
      have F1 : ∀ a, Fz R (A ++ B) a → Fz (Rv R O) (A' ++ B) a := fun a f => ⟨fun w => f.1 ((List.mem_append.mp w).elim (fun w => List.mem_append_left _ (inA (List.mem_append_right _ w))) (List.mem_append_right _)), fun w => w.elim f.2 fun w => f.1 (List.mem_append_left _ (inA (List.mem_append_left _ w)))⟩
      have F2 : ∀ a, Fz R (A ++ B) a → Fz R (A' ++ B ++ O) a := fun a f => ⟨fun w => (List.mem_append.mp w).elim (F1 a f).1 fun w => f.1 (List.mem_append_left _ (inA (List.mem_append_left _ w))), f.2⟩
      have exO : ∀ a ∈ O, H a ≠ none := fun a z => l.exists a (List.mem_append_left _ (inA (List.mem_append_left _ z)))
      refine h v H m A' B O ⟨⟨?_, ?_, ?_, ?_, ?_⟩, (List.nodup_append.mp ndO).1, ?_, exO, Pres.refl, fun _ e => e, ?_, fun _ _ e => e, ?_, fun z => nomatch z⟩ ?_
      · exact rs.pres (W := []) Pres.refl (fun b z => nomatch z) (fun _ _ e => e) (fun a f _ => F1 a f) (fun _ _ _ z => nomatch z) (fun _ _ z => nomatch z) (.inl rfl)
      · exact l.ob.fz F1
      · exact List.nodup_append.mpr ⟨(List.nodup_append.mp ndO).2.1, ndA.2.1, fun a h1 c h2 e => ndA.2.2 a (inA (List.mem_append_right _ h1)) c h2 e⟩
      · intro a z w
        rcases w with w | w
        · exact l.nr a ((List.mem_append.mp z).elim (fun z => List.mem_append_left _ (inA (List.mem_append_right _ z))) (List.mem_append_right _)) w
        · rcases List.mem_append.mp z with z | z
          · exact (List.nodup_append.mp ndO).2.2 a w a z rfl
          · exact ndA.2.2 a (inA (List.mem_append_left _ w)) a z rfl
      · exact fun a z => z.elim (l.rs a) (exO a)
      · exact fun a z => l.nr a (List.mem_append_left _ (inA (List.mem_append_left _ z)))
      · intro a z
        refine .inl ?_
        rcases z with z | z
        · exact (List.mem_append.mp z).elim (fun z => List.mem_append_left _ (inA (List.mem_append_right _ z))) (List.mem_append_right _)
        · exact List.mem_append_left _ (inA (List.mem_append_left _ z))
      · intro hn
        simp only [nlL, Bool.and_eq_true] at hn ⊢
        exact ⟨nlS_set hn.1 i none (fun y e => nomatch e), hn.2⟩
      · exact r.fz F2
    · cases hp
  · exact h.elim

/-- behind a store -/
theorem Stp.store {H H1 : Hp} {R : Addr → Prop} {vs vs' : L2.St} {s s1 : LS} {m A B m1 A1 B1 P A' : List Addr} {sl' : List (Option LV)} (x : Stp Y.K H R vs s m A B b H1 s1 m1 A1 B1 P) (n : nlL s = true) (r : RpS Y.K H1 m1 (Fz R (A1 ++ B1 ++ P)) vs' sl' A') (hs : Sub A' (P ++ A1)) (hn : nlS sl' = true) (hk : ∀ i ∈ io, vs'[i]? = vs[i]?) :
    StT Y.K H R vs A B io H1 vs' ⟨sl', s1.ob⟩ m1 A' B1 [] := by
  have mm : ∀ {a}, a ∈ A' → a ∈ P ∨ a ∈ A1 := fun z => List.mem_append.mp (hs.mem z)
  have ndA := List.nodup_append.mp x.li.nd
  have F1 : ∀ a, Fz R (A1 ++ B1 ++ P) a → Fz (Rv R []) (A' ++ B1) a := fun a f => ⟨fun w => f.1 (by
    rcases List.mem_append.mp w with w | w
    · exact (mm w).elim (List.mem_append_right _) fun w => List.mem_append_left _ (List.mem_append_left _ w)
    · exact List.mem_append_left _ (List.mem_append_right _ w)), fun w => w.elim f.2 fun w => nomatch w⟩
  refine ⟨⟨?_, ?_, ?_, ?_, ?_⟩, List.nodup_nil, (fun _ z => nomatch z), x.pr, x.dm, ?_, ?_, hk⟩
  · exact r.pres (W := []) Pres.refl (fun b z => nomatch z) (fun _ _ e => e) (fun a f _ => F1 a f) (fun _ _ _ z => nomatch z) (fun _ _ z => nomatch z) (.inl rfl)
  · exact x.obF.fz F1
  · refine List.nodup_append.mpr ⟨hs.nodup (List.nodup_append.mpr ⟨x.nd, ndA.1, fun a h1 c h2 e => x.disj c (List.mem_append_left _ h2) (e ▸ h1)⟩), ndA.2.1, fun a h1 c h2 e => ?_⟩
    subst e
    exact (mm h1).elim (fun w => x.disj a (List.mem_append_right _ h2) w) fun w => ndA.2.2 a w a h2 rfl
  · intro a z w
    have w : R a := w.elim id fun w => nomatch w
    rcases List.mem_append.mp z with z | z
    · exact (mm z).elim (fun z => x.nr a z w) fun z => x.li.nr a (List.mem_append_left _ z) (.inl w)
    · exact x.li.nr a (List.mem_append_right _ z) (.inl w)
  · exact fun a z => z.elim (fun z => x.li.rs a (.inl z)) fun z => nomatch z
  · intro a z
    have z : a ∈ A' ++ B1 := z.elim id fun z => nomatch z
    rcases List.mem_append.mp z with z | z
    · exact (mm z).elim (fun z => x.gr a (.inr z)) fun z => x.gr a (.inl (List.mem_append_left _ z))
    · exact x.gr a (.inl (List.mem_append_right _ z))
  · have h := x.nl n
    simp only [nlL, Bool.and_eq_true] at h ⊢
    exact ⟨hn, h.2⟩
theorem Stp.slF {K : PySem.W.Frag} {H H1 : Hp} {R : Addr → Prop} {vs : L2.St} {s s1 : LS} {m A B m1 A1 B1 P : List Addr} (x : Stp K H R vs s m A B b H1 s1 m1 A1 B1 P) : RpS K H1 m1 (Fz R (A1 ++ B1 ++ P)) vs s1.sl A1 :=
  x.li.sl.pres (W := []) Pres.refl (fun b z => nomatch z) (fun _ _ e => e) (fun a f _ => ⟨fun w => (List.mem_append.mp w).elim f.1 fun w => f.2 (.inr w), fun w => f.2 (.inl w)⟩) (fun _ _ _ z => nomatch z) (fun _ _ z => nomatch z) (.inl rfl)
theorem nlL_sl {s : LS} (h : nlL s = true) : nlS s.sl = true := by
  simp only [nlL, Bool.and_eq_true] at h; exact h.1

theorem asg_conv {t : Tg} {D : Ends} {vs : L2.St} {H : Hp} (ht : ∀ i ∈ tgS t, i ∉ io) (h : tS Y io (fun s => (fa s).toS fun p => if p.1.nl then match bindT t p.1 p.2.sl with
      | some sl' => .nxt ⟨sl', p.2.ob⟩
      | none => .stuck
    else .stuck) D vs H) : tAsg (tG Y b (relV Y) fa) (tgT Y.K t) D vs H := by
  obtain ⟨s, R, m, A, B, l, n, h⟩ := h
  refine ⟨s, R, m, A, B, l, fun _ => n, h.expr n fun p hp h1 y H1 m1 A1 B1 P x1 r1 => ?_⟩
  by_cases hn : p.1.nl = true
  · rw [if_pos hn] at h1
    cases e : bindT t p.1 p.2.sl with
    | none => rw [e] at h1; exact h1.elim
    | some sl' =>
      rw [e] at h1
      exact bindT_rp r1 x1.slF e ht fun vs' A' r' sb hk => h1 H1 vs' m1 A' B1 (x1.store n r' sb (bindT_nl e hn (nlL_sl (x1.nl n))) hk)
  · rw [if_neg hn] at h1; exact h1.elim
theorem ss_asg {t : Tg} {tg : Expr} (he : SE Y X b fa ea) (hg : PG X tg (tgT Y.K t)) (ht : ∀ i ∈ tgS t, i ∉ io) (hs : swapsWithSole [tg] ea pos.line X.env = pure false) (hw : swappedStores [tg] ea X.env = pure none) (h1 : (assignEach [tg] X.env).map (·.2) = [assign tg X.env]) :
    SS Y X io (fun s => (fa s).toS fun p => if p.1.nl then match bindT t p.1 p.2.sl with
      | some sl' => .nxt ⟨sl', p.2.ob⟩
      | none => .stuck
    else .stuck) (.Assign [tg] ea pos) := PSw (ps_asg he hg hs hw h1) fun D vs H h => asg_conv ht h
theorem ss_set {i : Nat} {x : Str} {pos' : Pos} (hN : X.N.Nodup) (hi : X.N[i]? = some x) (hx : Loc X.env.scope x) (he : SE Y X b fa ea) (hio : i ∉ io) (hs : swapsWith ea (some (.Name x pos')) pos.line X.env = pure false) (hf : X.fn x = true ∨ X.env.scope.names.lookup x = some .local) :
    SS Y X io (fun s => (fa s).toS fun p => if p.1.nl then match bindT (.nm i) p.1 p.2.sl with
      | some sl' => .nxt ⟨sl', p.2.ob⟩
      | none => .stuck
    else .stuck) (.Assign [.Name x pos'] ea pos) := PSw (ps_set hN hi hx he hs hf) fun D vs H h => by
  have q := asg_conv (b := b) (t := .nm i) (fun j hj => by simp [tgS] at hj; subst hj; exact hio) h
  unfold tgT at q
  exact q

/-- stores, one after another -/
def setsV : List Nat → List V → L2.St → L2.St
  | i :: is, v :: vs, σ => setsV is vs (σ.set i (some v))
  | _, _, σ => σ
theorem parL_rp {K : PySem.W.Frag} {H : Hp} {m : List Addr} {F : Addr → Prop} {keep : List Nat} : ∀ {is : List Nat} {xs : List LV} {us : List V} {O : List Addr} {vs : L2.St} {sl sl' : List (Option LV)} {A : List Addr}, Rps K H m F us xs O → RpS K H m F vs sl A → parL is xs sl = some sl' → (∀ i ∈ is, i ∉ keep) →
    ∃ A', RpS K H m F (setsV is us vs) sl' A' ∧ Sub A' (O ++ A) ∧ (∀ i ∈ keep, (setsV is us vs)[i]? = vs[i]?) ∧ is.length = us.length
  | [], _, _, _, vs, sl, sl', A, .nil, rs, e, hk => by
    unfold parL at e; cases e
    exact ⟨A, rs, Sub.refl _, fun _ _ => rfl, rfl⟩
  | [], _, _, _, _, _, _, _, .cons _ _, _, e, _ => by unfold parL at e; cases e
  | _ :: _, _, _, _, _, _, _, _, .nil, _, e, _ => by unfold parL at e; cases e
  | i :: is, _, _, _, vs, sl, sl', A, @Rps.cons _ _ _ _ v us x xs O P r t, rs, e, hk => by
    unfold parL at e
    split at e
    · rename_i hl
      obtain ⟨A1, h1, D, h2⟩ := rs.set1 hl r
      obtain ⟨A', q1, q2, q3, q4⟩ := parL_rp (keep := keep) t h1 e fun j hj => hk j (List.mem_cons_of_mem _ hj)
      refine ⟨A', q1, q2.trans ⟨D, ?_⟩, fun j hj => (q3 j hj).trans (set_get fun e => hk i List.mem_cons_self (by rw [e]; exact hj)), by simp [q4]⟩
      have e1 : (O ++ P ++ A).Perm (P ++ (O ++ A)) := by
        rw [← List.append_assoc]
        exact List.Perm.append_right A List.perm_append_comm
      have e2 : (P ++ (D ++ A1)).Perm (D ++ (P ++ A1)) := by
        rw [← List.append_assoc, ← List.append_assoc]
        exact List.Perm.append_right A1 List.perm_append_comm
      exact e1.trans ((List.Perm.append_left P h2).trans e2)
    · cases e
theorem nls_all {xs : List LV} (h : nlAll xs = true) : LV.nls xs = true := by
  induction xs with
  | nil => rfl
  | cons x xs ih =>
    simp only [nlAll, List.all_cons, Bool.and_eq_true] at h
    simp only [LV.nls, Bool.and_eq_true]
    exact ⟨h.1, ih h.2⟩
theorem parL_nl : ∀ {is : List Nat} {xs : List LV} {sl sl' : List (Option LV)}, parL is xs sl = some sl' → nlAll xs = true → nlS sl = true → nlS sl' = true
  | [], [], _, _, e, _, h => by unfold parL at e; cases e; exact h
  | [], _ :: _, _, _, e, _, _ => by unfold parL at e; cases e
  | _ :: _, [], _, _, e, _, _ => by unfold parL at e; cases e
  | i :: is, x :: xs, sl, sl', e, n, h => by
    unfold parL at e
    simp only [nlAll, List.all_cons, Bool.and_eq_true] at n
    split at e
    · exact parL_nl e n.2 (nlS_set h i _ fun y e => by cases e; exact n.1)
    · cases e
theorem par_conv {is : List Nat} {vs : L2.St} {H : Hp} {D : Ends} (hk : ∀ i ∈ is, i ∉ io) (h : tS Y io (fun s => (fA s).toS fun p => if nlAll p.1 then match parL is p.1 p.2.sl with
      | some sl' => .nxt ⟨sl', p.2.ob⟩
      | none => .stuck
    else .stuck) D vs H) : tG Y b (relVs Y) fA vs H (fun us H1 => is.length = us.length ∧ D.nx (setsV is us vs) H1) := by
  obtain ⟨s, R, m, A, B, l, n, h⟩ := h
  refine ⟨s, R, m, A, B, l, fun _ => n, h.expr n fun p hp h1 y H1 m1 A1 B1 P x1 r1 => ?_⟩
  by_cases hn : nlAll p.1 = true
  · rw [if_pos hn] at h1
    cases e : parL is p.1 p.2.sl with
    | none => rw [e] at h1; exact h1.elim
    | some sl' =>
      rw [e] at h1
      obtain ⟨A', q1, q2, q3, q4⟩ := parL_rp (keep := io) r1 x1.slF e hk
      exact ⟨q4, h1 H1 _ m1 A' B1 (x1.store n q1 q2 (parL_nl e hn (nlL_sl (x1.nl n))) q3)⟩
  · rw [if_neg hn] at h1; exact h1.elim
theorem ss_par {i j : Nat} {x y : Str} {a c : Expr} {px py pt : Pos} {kt k2 pt2} (hc : X.calm = true) (hN : X.N.Nodup) (hi : X.N[i]? = some x) (hj : X.N[j]? = some y) (hij : i ≠ j)
    (hx : X.env.scope.names.lookup x = some .local) (hy : X.env.scope.names.lookup y = some .local) (hio : i ∉ io) (hjo : j ∉ io) (ha : SA Y X b fA [a, c])
    (hw : swappedStores [.Tuple [.Name x px, .Name y py] kt pt] (.Tuple [a, c] k2 pt2) X.env = pure (some [x, y]))
    (hs : swapsWithSole [.Tuple [.Name x px, .Name y py] kt pt] (.Tuple [a, c] k2 pt2) pos.line X.env = pure false) :
    SS Y X io (fun s => (fA s).toS fun p => if nlAll p.1 then match parL [i, j] p.1 p.2.sl with
      | some sl' => .nxt ⟨sl', p.2.ob⟩
      | none => .stuck
    else .stuck) (.Assign [.Tuple [.Name x px, .Name y py] kt pt] (.Tuple [a, c] k2 pt2) pos) := PSw (ps_par hc hN hi hj hij hx hy ha hw hs) fun D vs H h => by
  refine (par_conv (fun k hk => ?_) h).mono fun us H1 q => ?_
  · rcases List.mem_cons.mp hk with e | hk
    · rw [e]; exact hio
    · rw [List.mem_singleton.mp hk]; exact hjo
  · obtain ⟨q1, q2⟩ := q
    match us, q1 with
    | [v, w], _ => exact ⟨v, w, rfl, q2⟩
theorem ss_par3 {i j k : Nat} {x y z : Str} {a c d : Expr} {px py pz pt : Pos} {kt k2 pt2} (hc : X.calm = true) (hN : X.N.Nodup) (hi : X.N[i]? = some x) (hj : X.N[j]? = some y) (hl : X.N[k]? = some z) (hij : i ≠ j) (hil : i ≠ k) (hjl : j ≠ k)
    (hx : X.env.scope.names.lookup x = some .local) (hy : X.env.scope.names.lookup y = some .local) (hz : X.env.scope.names.lookup z = some .local) (hio : i ∉ io) (hjo : j ∉ io) (hko : k ∉ io) (ha : SA Y X b fA [a, c, d])
    (hw : swappedStores [.Tuple [.Name x px, .Name y py, .Name z pz] kt pt] (.Tuple [a, c, d] k2 pt2) X.env = pure (some [x, y, z]))
    (hs : swapsWithSole [.Tuple [.Name x px, .Name y py, .Name z pz] kt pt] (.Tuple [a, c, d] k2 pt2) pos.line X.env = pure false) :
    SS Y X io (fun s => (fA s).toS fun p => if nlAll p.1 then match parL [i, j, k] p.1 p.2.sl with
      | some sl' => .nxt ⟨sl', p.2.ob⟩
      | none => .stuck
    else .stuck) (.Assign [.Tuple [.Name x px, .Name y py, .Name z pz] kt pt] (.Tuple [a, c, d] k2 pt2) pos) := PSw (ps_par3 hc hN hi hj hl hij hil hjl hx hy hz ha hw hs) fun D vs H h => by
  refine (par_conv (fun l hk => ?_) h).mono fun us H1 q => ?_
  · rcases List.mem_cons.mp hk with e | hk
    · rw [e]; exact hio
    · rcases List.mem_cons.mp hk with e | hk
      · rw [e]; exact hjo
      · rw [List.mem_singleton.mp hk]; exact hko
  · obtain ⟨q1, q2⟩ := q
    match us, q1 with
    | [u, v, w], _ => exact ⟨u, v, w, rfl, q2⟩

/-! ### while -/
theorem whl_step (c : LS → Res (Bool × LS)) (body : LS → SR) (n : Nat) (s : LS) : whlL c body (n + 1) s = (c s).toS fun p => if p.1 then (match body p.2 with
      | .nxt s' => whlL c body n s'
      | .cnt s' => whlL c body n s'
      | .brk s' => .nxt s'
      | .ret x s' => .ret x s'
      | .exc c ps s' => .exc c ps s'
      | .stuck => .stuck) else .nxt p.2 := by
  rw [whlL]
  cases c s with
  | ok p =>
    obtain ⟨b, s1⟩ := p
    cases b <;> rfl
  | exc c ps s' => rfl
  | stuck => rfl
theorem whl_conv {c : LS → Res (Bool × LS)} {body : LS → SR} {k : Nat} {D : Ends} {vs : L2.St} {H : Hp} (h : tS Y io (whlL c body k) D vs H) : tWhile (tG Y b relB c) (tS Y io body) D vs H := by
  refine ⟨fun m σ H => tS Y io (whlL c body m) D σ H, ⟨k, h⟩, ?_⟩
  rintro m σ H ⟨s, R, mm, A, B, l, n, h⟩
  cases m with
  | zero => exact h.elim
  | succ m =>
    rw [whl_step] at h
    refine ⟨s, R, mm, A, B, l, fun _ => n, h.expr n fun p hp h1 y H1 m1 A1 B1 P x1 r1 => ?_⟩
    obtain ⟨rfl, rfl⟩ := r1
    have t := x1.toT (io := io) n
    have h2 := PostS.next h1 t
    revert h2
    cases p.1 with
    | false => exact fun h2 => h2 H1 σ m1 A1 B1 (by have := t; exact .refl (by have := t.li; rw [Rv_nil] at this; exact this) t.nl)
    | true =>
      simp only [if_true]
      intro h2
      refine ⟨fun σ' H' => tS Y io (whlL c body m) D σ' H', fun σ' H' q => ⟨m, Nat.lt_succ_self m, q⟩, ?_⟩
      refine ⟨p.2, R, m1, A1, B1, by have := t.li; rw [Rv_nil] at this; exact this, t.nl, ?_⟩
      revert h2
      cases body p.2 with
      | nxt s' => exact fun h2 H' vs' m' A' B' x => (PostS.next h2 x).li x rfl
      | cnt s' => exact fun h2 H' vs' m' A' B' x => (PostS.next h2 x).li x rfl
      | brk s' => exact id
      | ret v s' => exact id
      | exc c ps s' => exact id
      | stuck => exact id
theorem ss_whl {c : Expr} {body : List Stmt} (hp : PassesOwn (model X.prog X.w) X.A X.env X.xe) (hc : ST Y X b (fun s => tstR (fa s)) c) (hb : SB Y X io ga body) : SS Y X io (fun s => whlL (fun s => tstR (fa s)) ga fuel s) (.While c body [] pos) :=
  PSw (ps_while hp hc hb) fun D vs H h => whl_conv (k := fuel) h

/-! ### what is walked -/
structure IW (K : PySem.W.Frag) (J : It) (ds : List PyData) (as : List Addr) (G : Hp → Prop) : Prop where
  w : Walk J ds.length G (fun i H x H' => Pres [] H H' ∧ ∃ d bs, ds[i]? = some d ∧ RD K H' x d bs ∧ ∀ a ∈ bs, a ∈ as)
  keep : ∀ {W : List Addr} {H H' : Hp}, G H → Pres W H H' → WM W H → (∀ a ∈ as, a ∉ W) → G H'
  ex : ∀ {H : Hp}, G H → ∀ a ∈ as, H a ≠ none
abbrev relIt (Y : Yx) : Rel (List LV × Bool) It := fun H m F J p O => O = [] ∧ ∃ ds as G, IW Y.K J ds as G ∧ G H ∧ p.1 = ds.map (mkImm p.2) ∧ (p.2 = false → ∀ a ∈ as, F a)
abbrev SI (Y : Yx) (X : Cx) (b : Bool) (f : ItF) (tg e : Expr) : Prop := PI X tg e (tG Y b (relIt Y) f)

theorem for_conv {f : ItF} {t : Tg} {body : LS → SR} {D : Ends} {vs : L2.St} {H : Hp} (ht : ∀ i ∈ tgS t, i ∉ io) (h : tS Y io (fun s => (f s).toS fun p => if p.1.2 then .stuck else forL t body p.1.1 p.2) D vs H) : tFor (tG Y b (relIt Y) f) (tgT Y.K t) (tS Y io body) D vs H := by
  obtain ⟨s, R, m, A, B, l, n, h⟩ := h
  refine ⟨s, R, m, A, B, l, fun _ => n, h.expr n fun p hp h1 J H1 m1 A1 B1 P x1 r1 => ?_⟩
  obtain ⟨rfl, ds, as, G, iw, g, e1, fr⟩ := r1
  by_cases hl : p.1.2 = true
  · rw [if_pos hl] at h1; exact h1.elim
  have hl : p.1.2 = false := by simpa using hl
  rw [if_neg (by rw [hl]; exact Bool.false_ne_true)] at h1
  have fr := fr hl
  have t0 := x1.toT (io := io) n
  have h2 := PostS.next h1 t0
  refine for_it iw.w (fun i σ H' => G H' ∧ ∃ s' m' A' B', LI Y.K H' R σ s' m' A' B' ∧ nlL s' = true ∧ (∀ a ∈ as, Fz R (A' ++ B') a) ∧ PostS Y H' R σ A' B' io (forL t body (p.1.1.drop i) s') D)
    ⟨g, p.2, m1, A1, B1, by have := t0.li; rw [Rv_nil] at this; exact this, t0.nl, fun a z => ⟨fun w => (fr a z).1 (List.mem_append_left _ w), (fr a z).2⟩, h2⟩ (fun i σ H' _ q => q.1) ?_ ?_
  · rintro i x σ H2 H3 hi ⟨g2, s2, m2, A2, B2, l2, n2, f2, h2⟩ ⟨p3, d, bs, e2, rd, hb⟩
    have hx : p.1.1.drop i = mkImm p.1.2 d :: p.1.1.drop (i + 1) := by
      rw [List.drop_eq_getElem_cons (by rw [e1, List.length_map]; exact hi)]
      congr 1
      have : p.1.1[i]? = some (mkImm p.1.2 d) := by rw [e1, List.getElem?_map, e2]; rfl
      exact Option.some.inj (by rw [← this, List.getElem?_eq_getElem])
    rw [hx, forL, hl] at h2
    have hF : ∀ a ∈ bs, Fz R (A2 ++ B2) a := fun a z => f2 a (hb a z)
    have l3 : LI Y.K H3 R σ s2 m2 A2 B2 := l2.pres p3 (fun b z => nomatch z) (fun _ _ z => nomatch z) (fun a _ h _ => ⟨(fun z => nomatch z), h⟩) l2.nr (fun a z => p3.dom a (l2.rs a z)) (.inl rfl)
    have x3 : Stp Y.K H2 R σ s2 m2 A2 B2 false H3 s2 m2 A2 B2 [] := (Stp.refl (b := false) l2).res p3 (fun _ z => nomatch z) List.nodup_nil
    have r3 : Rp Y.K H3 m2 (Fz R (A2 ++ B2 ++ [])) x (mkImm false d) [] := mkImm_rp rd fun _ a z => by rw [List.append_nil]; exact hF a z
    cases eb : bindT t (mkImm false d) s2.sl with
    | none => rw [eb] at h2; exact h2.elim
    | some sl' =>
      rw [eb] at h2
      simp only at h2
      refine bindT_rp r3 x3.slF eb ht fun vs' A' r' sb hk => ?_
      have t3 := x3.store (io := io) n2 r' sb (bindT_nl eb rfl (nlL_sl n2)) hk
      have f3 : ∀ a ∈ as, Fz R (A' ++ B2) a := fun a z => ⟨fun w => (f2 a z).1 (by
        rcases List.mem_append.mp w with w | w
        · exact List.mem_append_left _ (by simpa using sb.mem w)
        · exact List.mem_append_right _ w), (f2 a z).2⟩
      have g3 : G H3 := iw.keep g2 p3 (fun _ z => nomatch z) (fun _ _ z => nomatch z)
      have h2 := fun r (e : body ⟨sl', s2.ob⟩ = r) => PostS.next (by rw [e] at h2; exact h2) t3
      refine ⟨⟨sl', s2.ob⟩, R, m2, A', B2, by have := t3.li; rw [Rv_nil] at this; exact this, t3.nl, ?_⟩
      have go : ∀ {s4 : LS} {H4 : Hp} {σ4 : L2.St} {m4 A4 B4 : List Addr}, StT Y.K H3 R vs' A' B2 io H4 σ4 s4 m4 A4 B4 [] → PostS Y H3 R vs' A' B2 io (forL t body (p.1.1.drop (i + 1)) s4) D →
          G H4 ∧ ∃ s' m' A' B', LI Y.K H4 R σ4 s' m' A' B' ∧ nlL s' = true ∧ (∀ a ∈ as, Fz R (A' ++ B') a) ∧ PostS Y H4 R σ4 A' B' io (forL t body (p.1.1.drop (i + 1)) s') D := fun {s4 H4 σ4 m4 A4 B4} x4 h4 =>
        ⟨iw.keep g3 x4.pr t3.li.own (fun a z => (f3 a z).1), s4, m4, A4, B4, by have := x4.li; rw [Rv_nil] at this; exact this, x4.nl, fun a z => ⟨fun w => (x4.gr a (.inl w)).elim (f3 a z).1 (iw.ex g3 a z), (f2 a z).2⟩, PostS.next h4 x4⟩
      cases ebd : body ⟨sl', s2.ob⟩ with
      | nxt s4 => exact fun H' σ' m' A4 B4 x4 => go x4 (h2 _ ebd)
      | cnt s4 => exact fun H' σ' m' A4 B4 x4 => go x4 (h2 _ ebd)
      | brk s4 => exact h2 _ ebd
      | ret v s4 => exact h2 _ ebd
      | exc c ps s4 => exact h2 _ ebd
      | stuck => exact (h2 _ ebd).elim
  · rintro σ H2 ⟨g2, s2, m2, A2, B2, l2, n2, f2, h2⟩
    rw [List.drop_eq_nil_of_le (by rw [e1, List.length_map]; exact Nat.le_refl _), forL] at h2
    exact h2 H2 σ m2 A2 B2 (.refl l2 n2)
theorem ss_for {f : ItF} {t : Tg} {tg iter : Expr} {body : List Stmt} (hp : PassesOwn (model X.prog X.w) X.A X.env X.xe) (hc : X.calm = true) (hi : SI Y X b f tg iter) (hg : PG X tg (tgT Y.K t)) (ht : ∀ i ∈ tgS t, i ∉ io) (hb : SB Y X io ga body)
    (hs : ∀ x, foldedSetIterable iter X.env x = pure x) : SS Y X io (fun s => (f s).toS fun p => if p.1.2 then .stuck else forL t ga p.1.1 p.2) (.For tg iter body [] pos) := PSw (ps_for hp hc hi hg hb hs) fun D vs H h => for_conv ht h
end
end MP
/-! MP.16: what is walked -/
namespace MP
open PySem PySem.Spec PyProof.Rows L2

theorem PIw {X : Cx} {tg e : Expr} {t t' : TI} (h : PI X tg e t) (w : ∀ σ H Q, t' σ H Q → t σ H Q) : PI X tg e t' := ⟨fun pins s σ H R I q => h.run pins s σ H R I (w _ _ _ q)⟩
def iAny (K : PySem.W.Frag) (tl : TE) : TI := fun σ H R => tl σ H fun x H1 => (∃ a, x = .ref a ∧ (∃ xs, SqL K H1 a xs) ∧ R (Itl K a) H1) ∨ (∃ a, x = .ref a ∧ (∃ xs, SqT K H1 a xs) ∧ R (Itt K a) H1)
theorem pi_any {X : Cx} {tg l : Expr} {tl : TE} (hl : PE X l tl) : PI X tg l (iAny X.K tl) := by
  refine ⟨fun pins s σ H R I h => ?_⟩
  refine thn (hl.run pins s σ H _ I h) fun v s1 ⟨x, H1, I1, r1, q1⟩ => ?_
  rcases q1 with ⟨a, e, ⟨xs, hq⟩, q⟩ | ⟨a, e, ⟨xs, hq⟩, q⟩
  · subst e
    cases r1
    obtain ⟨its, rv, p, hz⟩ := I1.list hq
    refine wpAny_pyIter_list p.isList ?_
    refine ⟨s1.heap.objs.size, [s1.heap.objs.size], _, _, H1, rfl, I1.kept (t' := s1.toks) fun b o e => Heap.get?_push_of_some _ e, turn_list a _, ⟨_, Heap.get?_push_size _ rfl, rfl, rfl⟩, fun b hb => ?_, q⟩
    have e : b = s1.heap.objs.size := by simpa using hb
    subst e
    exact I1.fpOk (Nat.le_refl _) (I1.hok.fresh (Nat.le_refl _))
  · subst e
    cases r1
    obtain ⟨its, rv, p, hz⟩ := I1.tuple hq
    refine wpAny_pyIter_tuple (show s1.heap.IsTuple a its.toArray from p) ?_
    refine ⟨s1.heap.objs.size, [s1.heap.objs.size], _, _, H1, rfl, I1.kept (t' := s1.toks) fun b o e => Heap.get?_push_of_some _ e, turn_tuple a _, ⟨_, Heap.get?_push_size _ rfl, rfl, rfl⟩, fun b hb => ?_, q⟩
    have e : b = s1.heap.objs.size := by simpa using hb
    subst e
    exact I1.fpOk (Nat.le_refl _) (I1.hok.fresh (Nat.le_refl _))

section
variable {K : PySem.W.Frag}
theorem RDs.len {H : Hp} : ∀ {ds : List PyData} {us : List V} {as : List Addr}, RDs K H us ds as → us.length = ds.length
  | _, _, _, .nil => rfl
  | _, _, _, .cons _ t => by simp [RDs.len t]
theorem RDs.at {H : Hp} : ∀ {ds : List PyData} {us : List V} {as : List Addr} {i : Nat} {x : V}, RDs K H us ds as → us[i]? = some x → ∃ d bs, ds[i]? = some d ∧ RD K H x d bs ∧ ∀ a ∈ bs, a ∈ as
  | _, _, _, i, _, .nil, e => by simp at e
  | _, _, _, i, _, .cons r t, e => by
    cases i with
    | zero => simp at e; subst e; exact ⟨_, _, rfl, r, fun a z => List.mem_append_left _ z⟩
    | succ i =>
      obtain ⟨d, bs, h1, h2, h3⟩ := RDs.at t (by simpa using e)
      exact ⟨d, bs, by simpa using h1, h2, fun a z => List.mem_append_right _ (h3 a z)⟩
def GL (K : PySem.W.Frag) (a : Addr) (us : List V) (ds : List PyData) (as : List Addr) : Hp → Prop := fun H => H a = some (.lst us) ∧ RDs K H us ds as
def GT (K : PySem.W.Frag) (a : Addr) (us : List V) (ds : List PyData) (as : List Addr) : Hp → Prop := fun H => SqT K H a us ∧ RDs K H us ds as
theorem GL.keep {a : Addr} {us : List V} {ds : List PyData} {as W : List Addr} {H H' : Hp} (g : GL K a us ds as H) (p : Pres W H H') (wm : WM W H) (n : ∀ b ∈ a :: as, b ∉ W) : GL K a us ds as H' :=
  ⟨p a _ g.1 (n a List.mem_cons_self), g.2.pres p wm fun b z => n b (List.mem_cons_of_mem _ z)⟩
theorem GL.ex {a : Addr} {us : List V} {ds : List PyData} {as : List Addr} {H : Hp} (g : GL K a us ds as H) : ∀ b ∈ a :: as, H b ≠ none := fun b z => by
  rcases List.mem_cons.mp z with z | z
  · rw [z, g.1]; exact fun z => nomatch z
  · exact g.2.dom b z
theorem iw_list {H : Hp} {a : Addr} {us : List V} {ds : List PyData} {as : List Addr} (g : GL K a us ds as H) : IW K (Itl K a) ds (a :: as) (GL K a us ds as) where
  w := by
    rw [← g.2.len]
    exact (walk_list (K := K) (a := a) (xs := us)).mono (fun H g => .inl (.inl g.1)) fun i H x H' _ g y => by
      obtain ⟨rfl, e⟩ := y
      obtain ⟨d, bs, h1, h2, h3⟩ := g.2.at e
      exact ⟨Pres.refl, d, bs, h1, h2, fun b z => List.mem_cons_of_mem _ (h3 b z)⟩
  keep := fun g p wm n => g.keep p wm n
  ex := fun g => g.ex
theorem iw_tup {H : Hp} {a : Addr} {us : List V} {ds : List PyData} {as : List Addr} (g : GT K a us ds as H) : IW K (Itt K a) ds as (GT K a us ds as) where
  w := by
    rw [← g.2.len]
    exact (walk_tup (K := K) (a := a) (xs := us)).mono (fun H g => g.1) fun i H x H' _ g y => by
      obtain ⟨rfl, e⟩ := y
      obtain ⟨d, bs, h1, h2, h3⟩ := g.2.at e
      exact ⟨Pres.refl, d, bs, h1, h2, h3⟩
  keep := fun g p wm n => ⟨SqT.pres p wm g.1, g.2.pres p wm n⟩
  ex := fun g => g.2.dom
theorem enumD_at : ∀ {ds : List PyData} {n i : Nat} {d : PyData}, ds[i]? = some d → (enumD n ds)[i]? = some (.tuple [.int ((n + i : Nat) : Int), d])
  | [], _, _, _, e => by simp at e
  | d :: ds, n, 0, _, e => by simp at e; subst e; simp [enumD]
  | d :: ds, n, i + 1, _, e => by
    have := enumD_at (n := n + 1) (show ds[i]? = some _ by simpa using e)
    simpa [enumD, Nat.add_assoc, Nat.add_comm 1 i] using this
theorem enumD_len : ∀ (ds : List PyData) (n : Nat), (enumD n ds).length = ds.length
  | [], _ => rfl
  | d :: ds, n => by simp [enumD, enumD_len ds]
theorem zipD_at : ∀ {ds es : List PyData} {i : Nat} {d e : PyData}, ds[i]? = some d → es[i]? = some e → (zipD ds es)[i]? = some (.tuple [d, e])
  | [], _, _, _, _, e, _ => by simp at e
  | _ :: _, [], _, _, _, _, e => by simp at e
  | d :: ds, e :: es, 0, _, _, h1, h2 => by simp at h1 h2; subst h1 h2; simp [zipD]
  | d :: ds, e :: es, i + 1, _, _, h1, h2 => by
    simpa [zipD] using zipD_at (show ds[i]? = some _ by simpa using h1) (show es[i]? = some _ by simpa using h2)
theorem zipD_len : ∀ (ds es : List PyData), (zipD ds es).length = min ds.length es.length
  | [], es => by simp [zipD]
  | _ :: _, [] => by simp [zipD]
  | d :: ds, e :: es => by simp [zipD, zipD_len ds es]
theorem iw_enum {H : Hp} {a : Addr} {us : List V} {ds : List PyData} {as : List Addr} (g : GL K a us ds as H) : IW K (Ite K a) (enumD 0 ds) (a :: as) (GL K a us ds as) where
  w := by
    rw [enumD_len, ← g.2.len]
    exact (walk_enum (K := K) (a := a) (xs := us)).mono (fun H g => .inl (.inl g.1)) fun i H v H' _ g y => by
      obtain ⟨T, x, y, rfl, h2, rfl, h4, h5⟩ := y
      cases h4
      obtain ⟨d, bs, q1, q2, q3⟩ := g.2.at h5
      refine ⟨Pres.new h2, _, [] ++ (bs ++ []), enumD_at q1, .tup (.inl (.inl upd_same)) (.cons ?_ (.cons (q2.pres (Pres.new h2) (fun _ z => nomatch z) (fun _ _ z => nomatch z)) .nil)), fun b z => List.mem_cons_of_mem _ (q3 b (by simpa using z))⟩
      rw [Nat.zero_add]
      exact .int _
  keep := fun g p wm n => g.keep p wm n
  ex := fun g => g.ex
theorem iw_zip {H : Hp} {a c : Addr} {us ws : List V} {ds es : List PyData} {as cs : List Addr} (g : GL K a us ds as H) (g' : GL K c ws es cs H) : IW K (Itz K a c) (zipD ds es) ((a :: as) ++ (c :: cs)) (fun H => GL K a us ds as H ∧ GL K c ws es cs H) where
  w := by
    rw [zipD_len]
    exact (walk_zip (K := K) (a := a) (b := c) (xs := us) (ys := ws) (by rw [g.2.len, g'.2.len])).mono (fun H g => ⟨.inl (.inl g.1.1), .inl (.inl g.2.1)⟩) fun i H v H' _ g y => by
      obtain ⟨T, x, y, rfl, h2, rfl, h4, h5⟩ := y
      obtain ⟨d, bs, q1, q2, q3⟩ := g.1.2.at h4
      obtain ⟨e, cs', p1, p2, p3⟩ := g.2.2.at h5
      have pp := Pres.new (o := .tup [x, y]) h2
      refine ⟨pp, _, bs ++ (cs' ++ []), zipD_at q1 p1, .tup (.inl (.inl upd_same)) (.cons (q2.pres pp (fun _ z => nomatch z) (fun _ _ z => nomatch z)) (.cons (p2.pres pp (fun _ z => nomatch z) (fun _ _ z => nomatch z)) .nil)), fun b z => ?_⟩
      rcases List.mem_append.mp z with z | z
      · exact List.mem_append_left _ (List.mem_cons_of_mem _ (q3 b z))
      · exact List.mem_append_right _ (List.mem_cons_of_mem _ (p3 b (by simpa using z)))
  keep := fun g p wm n => ⟨g.1.keep p wm fun b z => n b (List.mem_append_left _ z), g.2.keep p wm fun b z => n b (List.mem_append_right _ z)⟩
  ex := fun g b z => (List.mem_append.mp z).elim (g.1.ex b) (g.2.ex b)
theorem iw_range {i j : Int} : IW K (Itr i (j - i).toNat) (rangeD i j) [] (fun _ => True) where
  w := by
    have hl : (rangeD i j).length = (j - i).toNat := by simp [rangeD]
    rw [hl]
    exact (walk_range (lo := i) (n := (j - i).toNat)).mono (fun H g => g) fun k H x H' hk g y => by
      obtain ⟨rfl, rfl⟩ := y
      refine ⟨Pres.refl, .int (i + k), [], ?_, .int _, fun b z => nomatch z⟩
      simp [rangeD, List.getElem?_map, List.getElem?_range hk]
  keep := fun _ _ _ _ => trivial
  ex := fun _ _ z => nomatch z
end

section
variable {Y : Yx} {X : Cx} {tg ea eb : Expr} {es : List Expr} {fa fb : EvF} {fA : LS → Res (List LV × LS)} {b ba bb : Bool} {pos : Pos}
theorem RD.items {K : PySem.W.Frag} {H : Hp} {v : V} {d : PyData} {as : List Addr} {ds : List PyData} (r : RD K H v d as) (e : itemsD d = some ds) : (∃ a us as', v = .ref a ∧ as = a :: as' ∧ GL K a us ds as' H) ∨ (∃ a us, v = .ref a ∧ GT K a us ds as H) := by
  cases r with
  | lst h r => cases e; exact .inl ⟨_, _, _, rfl, rfl, h, r⟩
  | tup h r => cases e; exact .inr ⟨_, _, rfl, h, r⟩
  | _ => cases e
theorem RD.listD {K : PySem.W.Frag} {H : Hp} {v : V} {d : PyData} {as : List Addr} {ds : List PyData} (r : RD K H v d as) (e : MP.listD d = some ds) : ∃ a us as', v = .ref a ∧ as = a :: as' ∧ GL K a us ds as' H := by
  cases r with
  | lst h r => cases e; exact ⟨_, _, _, rfl, rfl, h, r⟩
  | _ => cases e
/-- a walk of data that was found -/
theorem relIt_of {H : Hp} {m : List Addr} {F : Addr → Prop} {J : It} {ds : List PyData} {as : List Addr} {G : Hp → Prop} {l : Bool} (iw : IW Y.K J ds as G) (g : G H) (f : l = false → ∀ a ∈ as, F a) : relIt Y H m F J (ds.map (mkImm l), l) [] := ⟨rfl, ds, as, G, iw, g, rfl, f⟩
theorem itp_conv {vs : L2.St} {H : Hp} {Q : It → Hp → Prop} (h : tG Y b (relIt Y) (itP fa) vs H Q) : iAny Y.K (tG Y b (relV Y) fa) vs H Q := by
  obtain ⟨s, R, m, A, B, l, n, h⟩ := h
  refine ⟨s, R, m, A, B, l, n, h.split id fun p hp h1 y H1 m1 A1 B1 P x1 r1 => ?_⟩
  revert h1
  cases e1 : p.1.dat p.2.ob with
  | none => exact fun h => h.elim
  | some d =>
    simp only
    cases e2 : itemsD d with
    | none => exact fun h => h.elim
    | some ds =>
      intro h1
      obtain ⟨as, rd, f⟩ := r1.rd x1.obF e1
      have hf : p.1.lh = false → ∀ a ∈ as, Fz R (A1 ++ B1 ++ []) a := fun e a z => by
        rw [List.append_nil]
        rcases f a z with w | w | w
        · exact ⟨fun u => w.1 (List.mem_append_left _ u), w.2⟩
        · exact ⟨fun u => x1.disj a u w, x1.nr a w⟩
        · rw [e] at w; cases w
      rcases rd.items e2 with ⟨a, us, as', rfl, rfl, g⟩ | ⟨a, us, rfl, g⟩
      · exact .inl ⟨a, rfl, ⟨us, .inl (.inl g.1)⟩, h1 _ H1 m1 A1 B1 [] x1.drop (relIt_of (iw_list g) g hf)⟩
      · exact .inr ⟨a, rfl, ⟨us, g.1⟩, h1 _ H1 m1 A1 B1 [] x1.drop (relIt_of (iw_tup g) g hf)⟩
theorem si_any (hK : X.K = Y.K) (ha : SE Y X b fa ea) : SI Y X b (itP fa) tg ea := PIw (pi_any ha) fun vs H Q h => by rw [hK]; exact itp_conv h
theorem rng1_conv {vs : L2.St} {H : Hp} {Q : It → Hp → Prop} (h : tG Y b (relIt Y) (itR1 fA) vs H Q) : iRng1 (tG Y b (relVs Y) fA) vs H Q := by
  obtain ⟨s, R, m, A, B, l, n, h⟩ := h
  refine ⟨s, R, m, A, B, l, n, h.split id fun p hp h1 y H1 m1 A1 B1 P x1 r1 => ?_⟩
  obtain ⟨xs, s1⟩ := p
  simp only at r1 h1 x1
  split at h1
  · rename_i j
    by_cases hj : small62 j = true
    · rw [if_pos hj] at h1
      cases r1 with
      | cons r t =>
        cases t
        cases r with
        | imm r f =>
          cases r
          have hj' := hj
          simp only [small62, decide_eq_true_eq] at hj'
          refine ⟨j, rfl, hj'.1, hj'.2, ?_⟩
          have e : j.toNat = (j - 0).toNat := by rw [Int.sub_zero]
          rw [e]
          exact h1 _ H1 m1 A1 B1 [] x1.drop (relIt_of (l := false) iw_range trivial fun _ _ z => nomatch z)
    · rw [if_neg hj] at h1; exact h1.elim
  · exact h1.elim
theorem rng2_conv {vs : L2.St} {H : Hp} {Q : It → Hp → Prop} (h : tG Y b (relIt Y) (itR2 fA) vs H Q) : iRng2 (tG Y b (relVs Y) fA) vs H Q := by
  obtain ⟨s, R, m, A, B, l, n, h⟩ := h
  refine ⟨s, R, m, A, B, l, n, h.split id fun p hp h1 y H1 m1 A1 B1 P x1 r1 => ?_⟩
  obtain ⟨xs, s1⟩ := p
  simp only at r1 h1 x1
  split at h1
  · rename_i i j
    by_cases hj : (small62 i && small62 j) = true
    · rw [if_pos hj] at h1
      cases r1 with
      | cons r t =>
        cases t with
        | cons r' t =>
          cases t
          cases r with
          | imm r f =>
            cases r' with
            | imm r' f =>
              cases r
              cases r'
              have hj' := hj
              simp only [small62, Bool.and_eq_true, decide_eq_true_eq] at hj'
              exact ⟨i, j, rfl, ⟨hj'.1.1, hj'.1.2, hj'.2.1, hj'.2.2⟩, h1 _ H1 m1 A1 B1 [] x1.drop (relIt_of (l := false) iw_range trivial fun _ _ z => nomatch z)⟩
    · rw [if_neg hj] at h1; exact h1.elim
  · exact h1.elim
theorem si_rng1 {p : Pos} (hg : Gl X "range") (hm : X.mg "range" = none) (ha : SA Y X b fA [ea]) (hs : starEach [ea] X.env = [(false, eval ea X.env)]) : SI Y X b (itR true fA) tg (.Call (.Name "range" p) [ea] [] pos) :=
  PIw (pi_range1 hg hm ha hs) fun vs H Q h => rng1_conv h
theorem si_rng2 {p : Pos} (hg : Gl X "range") (hm : X.mg "range" = none) (ha : SA Y X b fA [ea, eb]) (hs : starEach [ea, eb] X.env = [(false, eval ea X.env), (false, eval eb X.env)]) (hs2 : starEach [eb] X.env = [(false, eval eb X.env)]) : SI Y X b (itR false fA) tg (.Call (.Name "range" p) [ea, eb] [] pos) :=
  PIw (pi_range2 hg hm ha hs hs2) fun vs H Q h => rng2_conv h
theorem datsOf_one {ob xs : List LV} {d : PyData} (e : datsOf ob xs = some [d]) : ∃ x, xs = [x] := by
  match xs, e with
  | [x], _ => exact ⟨x, rfl⟩
  | [], e => simp [datsOf] at e
  | x :: y :: r, e =>
    unfold datsOf at e
    split at e
    · rename_i d0 ds e1 e2
      cases e
      unfold datsOf at e2
      split at e2 <;> cases e2
    · cases e
theorem datsOf_two {ob xs : List LV} {d c : PyData} (e : datsOf ob xs = some [d, c]) : ∃ x y, xs = [x, y] := by
  match xs, e with
  | [], e => simp [datsOf] at e
  | x :: r, e =>
    unfold datsOf at e
    split at e
    · rename_i d0 ds e1 e2
      cases e
      obtain ⟨y, rfl⟩ := datsOf_one e2
      exact ⟨x, y, rfl⟩
    · cases e
theorem frz_of {H H1 : Hp} {R : Addr → Prop} {vs : L2.St} {s s1 : LS} {m A B m1 A1 B1 P : List Addr} {as : List Addr} {l : Bool} (x1 : Stp Y.K H R vs s m A B b H1 s1 m1 A1 B1 P) (f : ∀ a ∈ as, Fz R (A1 ++ B1 ++ P) a ∨ a ∈ P ∨ l = true) : l = false → ∀ a ∈ as, Fz R (A1 ++ B1 ++ []) a := fun e a z => by
  rw [List.append_nil]
  rcases f a z with w | w | w
  · exact ⟨fun u => w.1 (List.mem_append_left _ u), w.2⟩
  · exact ⟨fun u => x1.disj a u w, x1.nr a w⟩
  · rw [e] at w; cases w
theorem enum_conv {vs : L2.St} {H : Hp} {Q : It → Hp → Prop} (h : tG Y b (relIt Y) (itE fA) vs H Q) : iEnum Y.K (tG Y b (relVs Y) fA) vs H Q := by
  obtain ⟨s, R, m, A, B, l, n, h⟩ := h
  refine ⟨s, R, m, A, B, l, n, h.split id fun p hp h1 us H1 m1 A1 B1 P x1 r1 => ?_⟩
  split at h1
  · rename_i d e1
    cases e2 : MP.listD d with
    | none => rw [e2] at h1; exact h1.elim
    | some ds =>
      rw [e2] at h1
      obtain ⟨as, rd, f⟩ := datsOf_rd x1.obF r1 e1
      match us, as, rd, f with
      | _, _, .cons (v := v) r t, f =>
        cases t
        obtain ⟨a, us, as', rfl, rfl, g⟩ := r.listD e2
        exact ⟨a, us, rfl, .inl (.inl g.1), h1 _ H1 m1 A1 B1 [] x1.drop (relIt_of (iw_enum g) g (frz_of x1 fun c z => f c (List.mem_append_left _ z)))⟩
  · exact h1.elim
theorem zip_conv {vs : L2.St} {H : Hp} {Q : It → Hp → Prop} (h : tG Y b (relIt Y) (itZ fA) vs H Q) : iZip Y.K (tG Y b (relVs Y) fA) vs H Q := by
  obtain ⟨s, R, m, A, B, l, n, h⟩ := h
  refine ⟨s, R, m, A, B, l, n, h.split id fun p hp h1 us H1 m1 A1 B1 P x1 r1 => ?_⟩
  split at h1
  · rename_i d e e1
    cases e2 : MP.listD d with
    | none => rw [e2] at h1; exact h1.elim
    | some ds =>
      cases e3 : MP.listD e with
      | none => rw [e2, e3] at h1; exact h1.elim
      | some es =>
        rw [e2, e3] at h1
        obtain ⟨as, rd, f⟩ := datsOf_rd x1.obF r1 e1
        match us, as, rd, f with
        | _, _, .cons r t, f =>
          cases t with
          | cons r' t =>
            cases t
            obtain ⟨a, us, as', rfl, rfl, g⟩ := r.listD e2
            obtain ⟨c, ws, cs, rfl, rfl, g'⟩ := r'.listD e3
            refine ⟨a, c, us, ws, rfl, .inl (.inl g.1), .inl (.inl g'.1), h1 _ H1 m1 A1 B1 [] x1.drop (relIt_of (iw_zip g g') ⟨g, g'⟩ (frz_of x1 fun k z => f k ?_))⟩
            simpa using z
  · exact h1.elim
theorem si_enum {p tpos : Pos} {elts : List Expr} {kk : Nat} (hK : X.K = Y.K) (hg : Gl X "enumerate") (hm : X.mg "enumerate" = none) (ha : SA Y X b fA [ea]) (hs : starEach [ea] X.env = [(false, eval ea X.env)]) : SI Y X b (itE fA) (.Tuple elts kk tpos) (.Call (.Name "enumerate" p) [ea] [] pos) :=
  PIw (pi_enum hg hm ha hs) fun vs H Q h => by rw [hK]; exact enum_conv h
theorem si_zip {p tpos : Pos} {elts : List Expr} {kk : Nat} (hK : X.K = Y.K) (hg : Gl X "zip") (hm : X.mg "zip" = none) (ha : SA Y X b fA [ea, eb]) (hs : starEach [ea, eb] X.env = (false, eval ea X.env) :: starEach [eb] X.env) (hpl : (backTo pos (starEach [eb] X.env)).any (·.1) = false) : SI Y X b (itZ fA) (.Tuple elts kk tpos) (.Call (.Name "zip" p) [ea, eb] [] pos) :=
  PIw (pi_zip hg hm ha hs hpl) fun vs H Q h => by rw [hK]; exact zip_conv h
end
end MP
/-! MP.17: comprehensions -/
namespace MP
open PySem PySem.Spec PyProof.Rows L2

/-! ### slots forgotten and put back -/
theorem wipeL_at (sl : List (Option LV)) : ∀ (own : List Nat) (i : Nat), i < sl.length → (wipeL sl own)[i]? = if i ∈ own then some none else sl[i]?
  | [], i, _ => by simp [wipeL]
  | j :: js, i, h => by
    unfold wipeL
    by_cases e : j = i
    · subst e
      rw [List.getElem?_set_self (by rw [wipeL_len]; exact h)]
      simp
    · rw [List.getElem?_set_ne e, wipeL_at sl js i h]
      have : (i ∈ j :: js) ↔ i ∈ js := by simp [Ne.symm e]
      by_cases z : i ∈ js
      · simp [z]
      · simp [z, Ne.symm e]
theorem wipe_at (σ : L2.St) : ∀ (own : List Nat) (i : Nat), i < σ.length → (wipe σ own)[i]? = if i ∈ own then some none else σ[i]?
  | [], i, _ => by simp [wipe]
  | j :: js, i, h => by
    unfold wipe
    by_cases e : j = i
    · subst e
      rw [List.getElem?_set_self (by rw [wipe_length]; exact h)]
      simp
    · rw [List.getElem?_set_ne e, wipe_at σ js i h]
      by_cases z : i ∈ js
      · simp [z]
      · simp [z, Ne.symm e]
theorem backL_len (old sl : List (Option LV)) : ∀ own : List Nat, (backL old sl own).length = sl.length
  | [] => rfl
  | j :: js => by unfold backL; rw [List.length_set, backL_len old sl js]
theorem backL_at (old sl : List (Option LV)) : ∀ (own : List Nat) (i : Nat), i < sl.length → (backL old sl own)[i]? = if i ∈ own then some ((old[i]?).getD none) else sl[i]?
  | [], i, _ => by simp [backL]
  | j :: js, i, h => by
    unfold backL
    by_cases e : j = i
    · subst e
      rw [List.getElem?_set_self (by rw [backL_len]; exact h)]
      simp
    · rw [List.getElem?_set_ne e, backL_at old sl js i h]
      by_cases z : i ∈ js
      · simp [z]
      · simp [z, Ne.symm e]
theorem wipe_wipe {σ σ' : L2.St} {own : List Nat} (hl : σ'.length = σ.length) (h : ∀ i, i < σ.length → i ∉ own → σ'[i]? = σ[i]?) : wipe σ' own = wipe σ own := by
  apply List.ext_getElem?
  intro i
  by_cases hi : i < σ.length
  · rw [wipe_at _ _ _ hi, wipe_at _ _ _ (by omega)]
    by_cases z : i ∈ own
    · simp [z]
    · simp [z, h i hi z]
  · rw [List.getElem?_eq_none (by rw [wipe_length]; omega), List.getElem?_eq_none (by rw [wipe_length]; omega)]
theorem wipeL_wipe {sl sl' : List (Option LV)} {own : List Nat} (hl : sl'.length = sl.length) (h : ∀ i, i < sl.length → i ∉ own → sl'[i]? = sl[i]?) : wipeL sl' own = wipeL sl own := by
  apply List.ext_getElem?
  intro i
  by_cases hi : i < sl.length
  · rw [wipeL_at _ _ _ hi, wipeL_at _ _ _ (by omega)]
    by_cases z : i ∈ own
    · simp [z]
    · simp [z, h i hi z]
  · rw [List.getElem?_eq_none (by rw [wipeL_len]; omega), List.getElem?_eq_none (by rw [wipeL_len]; omega)]

section
variable {K : PySem.W.Frag} {H : Hp} {m : List Addr} {F : Addr → Prop}
theorem RpS.wipe1 {vs : L2.St} {sl : List (Option LV)} {A : List Addr} (r : RpS K H m F vs sl A) : ∀ i : Nat, ∃ A', RpS K H m F (vs.set i none) (sl.set i none) A' ∧ Sub A' A := by
  induction r with
  | nil => exact fun i => ⟨[], .nil, .refl _⟩
  | @no v vs xs P r ih =>
    intro i
    cases i with
    | zero => exact ⟨P, .no r, .refl _⟩
    | succ i =>
      obtain ⟨A', h1, h2⟩ := ih i
      exact ⟨A', .no h1, h2⟩
  | @so v vs x xs O P h r ih =>
    intro i
    cases i with
    | zero => exact ⟨P, .no r, O, List.Perm.refl _⟩
    | succ i =>
      obtain ⟨A', h1, D, h2⟩ := ih i
      refine ⟨O ++ A', .so h h1, D, (List.Perm.append_left O h2).trans ?_⟩
      rw [← List.append_assoc, ← List.append_assoc]
      exact List.Perm.append_right A' List.perm_append_comm
theorem RpS.wipes {vs : L2.St} {sl : List (Option LV)} {A : List Addr} (r : RpS K H m F vs sl A) : ∀ own : List Nat, ∃ A', RpS K H m F (wipe vs own) (wipeL sl own) A' ∧ Sub A' A
  | [] => ⟨A, r, .refl _⟩
  | i :: is => by
    obtain ⟨A1, h1, s1⟩ := r.wipes is
    obtain ⟨A2, h2, s2⟩ := h1.wipe1 i
    exact ⟨A2, h2, s2.trans s1⟩
theorem RpS.patch {vs : L2.St} {sl : List (Option LV)} {A : List Addr} (r : RpS K H m F vs sl A) : ∀ {vs' : L2.St} {sl' : List (Option LV)}, vs'.length = vs.length → sl'.length = sl.length →
    (∀ i, i < sl.length → (vs'[i]? = vs[i]? ∧ sl'[i]? = sl[i]?) ∨ (sl[i]? = some none ∧ (sl'[i]? = some none ∨ ∃ d w as, sl'[i]? = some (some (.imm d)) ∧ vs'[i]? = some (some w) ∧ RD K H w d as ∧ ∀ a ∈ as, F a))) → RpS K H m F vs' sl' A := by
  induction r with
  | nil =>
    intro vs' sl' h1 h2 _
    rw [List.length_eq_zero_iff.mp h1, List.length_eq_zero_iff.mp h2]
    exact .nil
  | @no v vs xs P r ih =>
    intro vs' sl' h1 h2 h
    match vs', sl', h1, h2 with
    | w :: ws, y :: ys, h1, h2 =>
      have t := ih (vs' := ws) (sl' := ys) (by simpa using h1) (by simpa using h2) fun i hi => by simpa using h (i + 1) (by simpa using hi)
      rcases h 0 (by simp) with ⟨e1, e2⟩ | ⟨_, e2 | ⟨d, u, as, e2, e3, e4, e5⟩⟩
      · simp at e1 e2; subst e1 e2; exact .no t
      · simp at e2; subst e2; exact .no t
      · simp at e2 e3; subst e2 e3; exact RpS.so (O := []) (.imm e4 e5) t
  | @so v vs x xs O P h0 r ih =>
    intro vs' sl' h1 h2 h
    match vs', sl', h1, h2 with
    | w :: ws, y :: ys, h1, h2 =>
      have t := ih (vs' := ws) (sl' := ys) (by simpa using h1) (by simpa using h2) fun i hi => by simpa using h (i + 1) (by simpa using hi)
      rcases h 0 (by simp) with ⟨e1, e2⟩ | ⟨e2, _⟩
      · simp at e1 e2; subst e1 e2; exact .so h0 t
      · simp at e2
end
theorem nlS_wipe {sl : List (Option LV)} (h : nlS sl = true) (own : List Nat) : nlS (wipeL sl own) = true := nl_wipe h own
theorem bindT_len2 : ∀ {t : Tg} {x : LV} {sl sl' : List (Option LV)}, bindT t x sl = some sl' → sl'.length = sl.length ∧ ∀ i, i ∉ tgS t → sl'[i]? = sl[i]? := by
  intro t
  suffices h : (∀ (x : LV) (sl sl' : List (Option LV)), bindT t x sl = some sl' → sl'.length = sl.length ∧ ∀ i, i ∉ tgS t → sl'[i]? = sl[i]?) ∧ ∀ (xs : List LV) (sl sl' : List (Option LV)), bindL t xs sl = some sl' → sl'.length = sl.length ∧ ∀ i, i ∉ tgS t → sl'[i]? = sl[i]? from fun {x sl sl'} e => h.1 x sl sl' e
  induction t with
  | nm j =>
    refine ⟨fun x sl sl' e => ?_, fun xs sl sl' e => ?_⟩
    · unfold bindT at e
      split at e
      · cases e
        refine ⟨List.length_set .., fun i hi => List.getElem?_set_ne fun z => hi (by simp [tgS, z])⟩
      · cases e
    · cases xs <;> (unfold bindL at e; cases e)
  | nil =>
    refine ⟨fun x sl sl' e => ?_, fun xs sl sl' e => ?_⟩
    · unfold bindT at e; cases e
    · cases xs with
      | nil => unfold bindL at e; cases e; exact ⟨rfl, fun _ _ => rfl⟩
      | cons x xs => unfold bindL at e; cases e
  | cons a b iha ihb =>
    refine ⟨fun x sl sl' e => ?_, fun xs sl sl' e => ?_⟩
    · unfold bindT at e; cases e
    · cases xs with
      | nil => unfold bindL at e; cases e
      | cons x xs =>
        unfold bindL at e
        split at e
        · rename_i sl1 e1
          obtain ⟨l1, g1⟩ := iha.1 _ _ _ e1
          obtain ⟨l2, g2⟩ := ihb.2 _ _ _ e
          refine ⟨l2.trans l1, fun i hi => ?_⟩
          simp only [tgS, List.mem_append, not_or] at hi
          exact (g2 i hi.2).trans (g1 i hi.1)
        · cases e
  | tp l ih =>
    refine ⟨fun x sl sl' e => ?_, fun xs sl sl' e => ?_⟩
    · unfold bindT at e
      split at e
      · rename_i xs ex
        obtain ⟨l1, g1⟩ := ih.2 _ _ _ e
        exact ⟨l1, fun i hi => g1 i (by simpa [tgS] using hi)⟩
      · cases e
    · cases xs <;> (unfold bindL at e; cases e)

theorem Rps.fz' {K : PySem.W.Frag} {H : Hp} {m : List Addr} {F F' : Addr → Prop} {v : List V} {x : List LV} {O : List Addr} (r : Rps K H m F v x O) (h : ∀ a, F a → F' a) : Rps K H m F' v x O :=
  r.pres (W := []) Pres.refl (fun b z => nomatch z) (fun _ _ e => e) (fun a f _ => h a f) (fun _ _ _ z => nomatch z) (fun _ _ z => nomatch z) (.inl rfl)
/-! ### what stands while a comprehension runs: D the new list, O what its items own -/
structure AS (K : PySem.W.Frag) (H1 : Hp) (R : Addr → Prop) (A1 B1 m1 : List Addr) (b : Bool) (D : Addr) (H : Hp) (σ : L2.St) (s : LS) (m A B O : List Addr) (us : List V) (acc : List LV) : Prop where
  li : LI K H (Rv R (D :: O)) σ s m A B
  nd : (D :: O).Nodup
  nr : ∀ a ∈ D :: O, ¬ R a
  hD : H D = some (.lst us)
  rp : Rps K H m (Fz R (A ++ B ++ (D :: O))) us acc O
  pr : Pres (A1 ++ B1) H1 H
  dm : ∀ a, H1 a ≠ none → H a ≠ none
  gr : ∀ a, a ∈ A ++ B ∨ a ∈ D :: O → a ∈ A1 ++ B1 ∨ H1 a = none
  mm : ∀ (l : Nat) (a : Addr), m1[l]? = some a → m[l]? = some a
  ef : b = false → Pres [] H1 H
  nl : nlL s = true
  na : nlAll acc = true
  d0 : H1 D = none

section
variable {K : PySem.W.Frag} {H1 H H' : Hp} {R : Addr → Prop} {A1 B1 m1 : List Addr} {b c : Bool} {D : Addr} {σ σ' : L2.St} {s s' : LS} {m A B O m' A' B' P : List Addr} {us : List V} {acc : List LV}
theorem AS.iter (x : AS K H1 R A1 B1 m1 b D H σ s m A B O us acc) (p : Pres [] H H') : AS K H1 R A1 B1 m1 b D H' σ s m A B O us acc where
  li := x.li.pres p (fun b z => nomatch z) (fun _ _ z => nomatch z) (fun a _ h _ => ⟨(fun z => nomatch z), h⟩) x.li.nr (fun a z => p.dom a (x.li.rs a z)) (.inl rfl)
  nd := x.nd
  nr := x.nr
  hD := p D _ x.hD fun z => nomatch z
  rp := x.rp.pres p (fun b z => nomatch z) (fun _ _ e => e) (fun a f _ => f) (fun _ _ _ z => nomatch z) (fun _ _ z => nomatch z) (.inl rfl)
  pr := x.pr.trans p fun a z => nomatch z
  dm := fun a n => p.dom a (x.dm a n)
  gr := x.gr
  mm := x.mm
  ef := fun h => (x.ef h).trans p fun a z => nomatch z
  nl := x.nl
  na := x.na
  d0 := x.d0
/-- other slots, fewer owned -/
theorem AS.slots (x : AS K H1 R A1 B1 m1 b D H σ s m A B O us acc) {sl' : List (Option LV)} (r : RpS K H m (Fz (Rv R (D :: O)) (A ++ B)) σ' sl' A') (hs : Sub A' A) (hn : nlS sl' = true) : AS K H1 R A1 B1 m1 b D H σ' ⟨sl', s.ob⟩ m A' B O us acc := by
  have F1 : ∀ a, Fz (Rv R (D :: O)) (A ++ B) a → Fz (Rv R (D :: O)) (A' ++ B) a := fun a f => ⟨fun w => f.1 ((List.mem_append.mp w).elim (fun w => List.mem_append_left _ (hs.mem w)) (List.mem_append_right _)), f.2⟩
  have ndA := List.nodup_append.mp x.li.nd
  refine ⟨⟨?_, x.li.ob.fz' F1, ?_, fun a z => ?_, x.li.rs⟩, x.nd, x.nr, x.hD, ?_, x.pr, x.dm, fun a z => ?_, x.mm, x.ef, ?_, x.na, x.d0⟩
  · exact r.pres (W := []) Pres.refl (fun b z => nomatch z) (fun _ _ e => e) (fun a f _ => F1 a f) (fun _ _ _ z => nomatch z) (fun _ _ z => nomatch z) (.inl rfl)
  · exact List.nodup_append.mpr ⟨hs.nodup ndA.1, ndA.2.1, fun a h1 c h2 e => ndA.2.2 a (hs.mem h1) c h2 e⟩
  · exact x.li.nr a ((List.mem_append.mp z).elim (fun w => List.mem_append_left _ (hs.mem w)) (List.mem_append_right _))
  · refine x.rp.fz' fun a f => ⟨fun w => f.1 ?_, f.2⟩
    rcases List.mem_append.mp w with w | w
    · exact List.mem_append_left _ ((List.mem_append.mp w).elim (fun w => List.mem_append_left _ (hs.mem w)) (List.mem_append_right _))
    · exact List.mem_append_right _ w
  · exact x.gr a (z.imp (fun z => (List.mem_append.mp z).elim (fun w => List.mem_append_left _ (hs.mem w)) (List.mem_append_right _)) id)
  · have := x.nl
    simp only [nlL, Bool.and_eq_true] at this ⊢
    exact ⟨hn, this.2⟩
theorem AS.up (x : AS K H1 R A1 B1 m1 b D H σ s m A B O us acc) (a : Addr) (h : a ∈ A ++ B ∨ H a = none) : a ∈ A1 ++ B1 ∨ H1 a = none := by
  rcases h with h | h
  · exact x.gr a (.inl h)
  · cases e : H1 a with
    | none => exact .inr rfl
    | some o => exact absurd h (x.dm a (by rw [e]; exact fun z => nomatch z))
/-- a step whose value owns P, and the list is written: us', acc' with O' -/
theorem AS.step {O' : List Addr} {us' : List V} {acc' : List LV} (x : AS K H1 R A1 B1 m1 b D H σ s m A B O us acc) (y : Stp K H (Rv R (D :: O)) σ s m A B c H' s' m' A' B' P) (hc : c = true → b = true)
    (r : (Rps K H' m' (Fz R (A' ++ B' ++ ((D :: O) ++ P))) us acc O → Rps K H' m' (Fz R (A' ++ B' ++ ((D :: O) ++ P))) us' acc' O')) (ho : O' = O ++ P) (na : nlAll acc' = true) :
    AS K H1 R A1 B1 m1 b D (upd H' D (.lst us')) σ s' m' A' B' O' us' acc' := by
  subst ho
  have dA : D ∉ A' ++ B' := fun z => y.li.nr D z (.inl (.inr List.mem_cons_self))
  have RR : Rv (Rv R (D :: O)) P = Rv R (D :: (O ++ P)) := Rv_app
  have pu : Pres [D] H' (upd H' D (.lst us')) := Pres.upd
  have hD' : H' D = some (.lst us) := y.pr D _ x.hD fun z => x.li.nr D z (.inr List.mem_cons_self)
  have wD : WM [D] H' := fun b z => by rw [List.mem_singleton.mp z]; exact .inl ⟨_, hD'⟩
  have dm' : ∀ a, H' a ≠ none → (upd H' D (.lst us')) a ≠ none := fun a n => by
    by_cases e : a = D
    · rw [e, upd_same]; exact fun z => nomatch z
    · rw [upd_ne e]; exact n
  have nP : ∀ a ∈ P, a ∉ D :: O := fun a z w => y.nr a z (.inr w)
  have ndO : (D :: (O ++ P)).Nodup := by
    have : ((D :: O) ++ P).Nodup := List.nodup_append.mpr ⟨x.nd, y.nd, fun a h1 c h2 e => nP c h2 (e ▸ h1)⟩
    exact this
  have nDO : D ∉ O ++ P := (List.nodup_cons.mp ndO).1
  have hgr : ∀ a, a ∈ A' ++ B' ∨ a ∈ D :: (O ++ P) → a ∈ A1 ++ B1 ∨ H1 a = none := fun a z => by
    rcases z with z | z
    · exact x.up a (y.gr a (.inl z))
    · rcases List.mem_append.mp (show a ∈ (D :: O) ++ P from z) with z | z
      · exact x.gr a (.inr z)
      · exact x.up a (y.gr a (.inr z))
  have rp' := r (by
    have nls : LV.nls acc = true := nls_all x.na
    refine x.rp.pres y.pr x.li.own y.mm (fun a f n => ⟨fun w => ?_, f.2⟩) (fun a f _ w => f.1 (List.mem_append_left _ w)) (fun a z w => x.li.nr a w (.inr (List.mem_cons_of_mem _ z))) (.inr nls)
    rcases List.mem_append.mp w with w | w
    · rcases y.gr a (.inl w) with w | w
      · exact f.1 (List.mem_append_left _ w)
      · exact n w
    · rcases List.mem_append.mp w with w | w
      · exact f.1 (List.mem_append_right _ w)
      · rcases y.gr a (.inr w) with w | w
        · exact f.1 (List.mem_append_left _ w)
        · exact n w)
  refine ⟨?_, ndO, fun a z => ?_, upd_same, ?_, ?_, fun a n => dm' a (y.dm a (x.dm a n)), hgr, fun l a e => y.mm l a (x.mm l a e), fun h => ?_, y.nl x.nl, na, x.d0⟩
  · rw [← RR]
    exact y.li.pres pu wD (fun a z w => dA (List.mem_singleton.mp w ▸ z)) (fun a _ h _ => ⟨fun w => h (.inl (.inr (by rw [List.mem_singleton.mp w]; exact List.mem_cons_self))), h⟩) y.li.nr (fun a z => dm' a (y.li.rs a z)) (.inr (y.nl x.nl))
  · rcases List.mem_append.mp (show a ∈ (D :: O) ++ P from z) with z | z
    · exact x.nr a z
    · exact fun w => y.nr a z (.inl w)
  · exact rp'.pres pu wD (fun _ _ e => e) (fun a f _ => f) (fun a f _ w => f.1 (by rw [List.mem_singleton.mp w]; exact List.mem_append_right _ List.mem_cons_self)) (fun a z w => nDO (List.mem_singleton.mp w ▸ z)) (.inr (nls_all na))
  · refine (x.pr.trans y.pr fun a z => x.gr a (.inl z)).trans pu fun a z => ?_
    rw [List.mem_singleton.mp z]
    exact .inr x.d0
  · have hc' : c = false := by
      cases e : c with
      | false => rfl
      | true => rw [hc e] at h; cases h
    exact ((x.ef h).trans (y.ef hc').2 fun a z => nomatch z).trans pu fun a z => .inr (by rw [List.mem_singleton.mp z]; exact x.d0)
end
end MP
/-! MP.18: comprehensions, turn by turn -/
namespace MP
open PySem PySem.Spec PyProof.Rows L2

abbrev Yx.b (Y : Yx) : Yx := ⟨Y.K, fun _ _ _ _ => False, Y.XR, Y.mono⟩

section
variable {Y : Yx} {H1 H H' : Hp} {R : Addr → Prop} {A1 B1 m1 : List Addr} {b c : Bool} {D : Addr} {σ σ' : L2.St} {s s' : LS} {m A B O m' A' B' P : List Addr} {us : List V} {acc : List LV}

/-- what is walked stays -/
structure Wk (K : PySem.W.Frag) (R : Addr → Prop) (D : Addr) (l bw : Bool) (as : List Addr) (G : Hp → Prop) (H : Hp) (A B O : List Addr) : Prop where
  g : G H
  fr : l = false → ∀ a ∈ as, Fz (Rv R (D :: O)) (A ++ B) a
  nw : l = true → bw = false
  nD : D ∉ as
theorem Wk.step {K : PySem.W.Frag} {J : It} {l bw : Bool} {ds : List PyData} {as : List Addr} {G : Hp → Prop} {xs : List V} (iw : IW K J ds as G) (w : Wk K R D l bw as G H A B O) (y : Stp K H (Rv R (D :: O)) σ s m A B c H' s' m' A' B' P) (hl : WM (A ++ B) H) (hc : c = true → bw = true) (hD : H' D = some (.lst us)) {u : List V} :
    Wk K R D l bw as G (upd H' D (.lst u)) A' B' (O ++ P) := by
  have ex := iw.ex w.g
  have g' : G H' := by
    cases e : l with
    | false => exact iw.keep w.g y.pr hl fun a z q => (w.fr e a z).1 q
    | true =>
      have hb := w.nw e
      have hc' : c = false := by
        cases q : c with
        | false => rfl
        | true => rw [hc q] at hb; cases hb
      exact iw.keep w.g (y.ef hc').2 (fun _ z => nomatch z) fun a z q => nomatch q
  refine ⟨iw.keep g' (Pres.upd (p := D)) (fun b z => by rw [List.mem_singleton.mp z]; exact .inl ⟨_, hD⟩) (fun a z q => w.nD (List.mem_singleton.mp q ▸ z)), fun e a z => ⟨fun q => ?_, fun q => ?_⟩, w.nw, w.nD⟩
  · rcases y.gr a (.inl q) with q | q
    · exact (w.fr e a z).1 q
    · exact ex a z q
  · have f := w.fr e a z
    rcases q with q | q
    · exact f.2 (.inl q)
    · rcases List.mem_append.mp (show a ∈ (D :: O) ++ P from q) with q | q
      · exact f.2 (.inr q)
      · rcases y.gr a (.inr q) with q | q
        · exact f.1 q
        · exact ex a z q
theorem Wk.slots {K : PySem.W.Frag} {l bw : Bool} {as : List Addr} {G : Hp → Prop} (w : Wk K R D l bw as G H A B O) (hs : Sub A' A) : Wk K R D l bw as G H A' B O :=
  ⟨w.g, fun e a z => ⟨fun q => (w.fr e a z).1 ((List.mem_append.mp q).elim (fun q => List.mem_append_left _ (hs.mem q)) (List.mem_append_right _)), (w.fr e a z).2⟩, w.nw, w.nD⟩

abbrev ZP := Hp → List Addr → List Addr → List Addr → Prop
/-- what is said of the heap and the own things, and stays -/
structure Zs (K : PySem.W.Frag) (R : Addr → Prop) (D : Addr) (bw : Bool) (Z : ZP) : Prop where
  iter : ∀ {H H' : Hp} {A B O : List Addr}, Z H A B O → Pres [] H H' → Z H' A B O
  slots : ∀ {H : Hp} {A A' B O : List Addr}, Z H A B O → Sub A' A → Z H A' B O
  step : ∀ {H H' : Hp} {σ : L2.St} {s s' : LS} {m A B O m' A' B' P : List Addr} {c : Bool} {us u : List V}, Z H A B O → Stp K H (Rv R (D :: O)) σ s m A B c H' s' m' A' B' P → WM (A ++ B) H → (c = true → bw = true) → H' D = some (.lst us) → Z (upd H' D (.lst u)) A' B' (O ++ P)
theorem Wk.zs {K : PySem.W.Frag} {J : It} {l bw : Bool} {ds : List PyData} {as : List Addr} {G : Hp → Prop} (iw : IW K J ds as G) : Zs K R D bw (Wk K R D l bw as G) where
  iter := fun w p => ⟨iw.keep w.g p (fun _ z => nomatch z) (fun _ _ z => nomatch z), w.fr, w.nw, w.nD⟩
  slots := fun w hs => w.slots hs
  step := fun w y hl hc hD => w.step (xs := []) iw y hl hc hD
theorem Zs.and {K : PySem.W.Frag} {bw : Bool} {Z Z' : ZP} (h : Zs K R D bw Z) (h' : Zs K R D bw Z') : Zs K R D bw (fun H A B O => Z H A B O ∧ Z' H A B O) where
  iter := fun w p => ⟨h.iter w.1 p, h'.iter w.2 p⟩
  slots := fun w hs => ⟨h.slots w.1 hs, h'.slots w.2 hs⟩
  step := fun w y hl hc hD => ⟨h.step w.1 y hl hc hD, h'.step w.2 y hl hc hD⟩
theorem Zs.weak {K : PySem.W.Frag} {bw bw' : Bool} {Z : ZP} (h : Zs K R D bw Z) (hw : bw' = true → bw = true) : Zs K R D bw' Z where
  iter := h.iter
  slots := h.slots
  step := fun w y hl hc hD => h.step w y hl (fun e => hw (hc e)) hD

def LP (K : PySem.W.Frag) (H1 : Hp) (R : Addr → Prop) (A1 B1 m1 : List Addr) (b : Bool) (D : Addr) (own : List Nat) (σw : L2.St) (w0 : LS) (Z : ZP) (t : Tg) (step : LS → Res (List LV × LS)) (xs : List LV) (tot : List LV × LS) (i : Nat) (H : Hp) : Prop :=
  ∃ s m A B O us acc rest, AS K H1 R A1 B1 m1 b D H σw ⟨wipeL s.sl own, s.ob⟩ m A B O us acc ∧ Z H A B O ∧ (b = false → (⟨wipeL s.sl own, s.ob⟩ : LS) = w0) ∧
    compL own t step (xs.drop i) s = .ok (rest, tot.2) ∧ tot.1 = acc ++ rest

/-- an item comes and is bound -/
theorem lp_bind {own : List Nat} {σ0 : L2.St} {w0 : LS} {l bw : Bool} {ds : List PyData} {as : List Addr} {Z : ZP} {t : Tg} {step : LS → Res (List LV × LS)} {tot : List LV × LS} {i : Nat} {x : V} {Q : L2.St → Hp → Prop}
    (hZ : Zs Y.K R D bw Z) (hF : ∀ H A B O, Z H A B O → l = false → ∀ a ∈ as, Fz (Rv R (D :: O)) (A ++ B) a) (ht : ∀ i ∈ tgS t, i ∈ own) (hnl : nlAll (ds.map (mkImm l)) = true) (hi : i < ds.length) (h : LP Y.K H1 R A1 B1 m1 b D own (wipe σ0 own) w0 Z t step (ds.map (mkImm l)) tot i H)
    (p : Pres [] H H') (hx : ∃ d bs, ds[i]? = some d ∧ RD Y.K H' x d bs ∧ ∀ a ∈ bs, a ∈ as)
    (k : ∀ σ2 s2 m A B O us acc q rest, wipe σ2 own = wipe σ0 own → (b = false → (⟨wipeL s2.sl own, s2.ob⟩ : LS) = w0) → AS Y.K H1 R A1 B1 m1 b D H' σ2 s2 m A B O us acc → Z H' A B O → step s2 = .ok q → compL own t step ((ds.map (mkImm l)).drop (i + 1)) q.2 = .ok (rest, tot.2) → tot.1 = acc ++ (q.1 ++ rest) → Q σ2 H') :
    tgT Y.K t x (wipe σ0 own) H' Q := by
  obtain ⟨s, m, A, B, O, us, acc, rest, a0, w, he, hc, htot⟩ := h
  obtain ⟨d, bs, e2, rd, hb⟩ := hx
  have hx : (ds.map (mkImm l)).drop i = mkImm l d :: (ds.map (mkImm l)).drop (i + 1) := by
    rw [List.drop_eq_getElem_cons (by rw [List.length_map]; exact hi)]
    congr 1
    have : (ds.map (mkImm l))[i]? = some (mkImm l d) := by rw [List.getElem?_map, e2]; rfl
    exact Option.some.inj (by rw [← this, List.getElem?_eq_getElem])
  have ndn : (mkImm l d).nl = true := by
    have := List.all_eq_true.mp hnl (mkImm l d) (List.mem_map.mpr ⟨d, List.mem_of_getElem? e2, rfl⟩)
    exact this
  rw [hx, compL] at hc
  cases eb : bindT t (mkImm l d) (wipeL s.sl own) with
  | none => rw [eb] at hc; cases hc
  | some sl' =>
    rw [eb] at hc
    simp only at hc
    cases es : step ⟨sl', s.ob⟩ with
    | exc c ps s' => rw [es] at hc; cases hc
    | stuck => rw [es] at hc; cases hc
    | ok q =>
      rw [es] at hc
      simp only [Res.bind] at hc
      cases ec : compL own t step ((ds.map (mkImm l)).drop (i + 1)) q.2 with
      | exc c ps s' => rw [ec] at hc; cases hc
      | stuck => rw [ec] at hc; cases hc
      | ok r =>
        rw [ec] at hc
        simp only at hc
        obtain ⟨h1, h2⟩ := Prod.mk.inj (Res.ok.inj hc)
        subst h1
        have a1 := a0.iter p
        have g1 := hZ.iter w p
        have rx : Rp Y.K H' m (Fz (Rv R (D :: O)) (A ++ B)) x (mkImm l d) [] := mkImm_rp rd fun e a z => hF _ _ _ _ w e a (hb a z)
        have wl : (wipeL s.sl own).length = s.sl.length := wipeL_len
        have hlen := a1.li.sl.length
        simp only at hlen
        have bl := bindT_len2 eb
        refine bindT_rp (keep := (List.range s.sl.length).filter fun i => !own.contains i) rx a1.li.sl eb (fun i hi hk => ?_) fun σ2 A' r' sb hk => ?_
        · have := (List.mem_filter.mp hk).2
          simp [ht i hi] at this
        · have l2 := r'.length
          have e1 : wipe σ2 own = wipe (wipe σ0 own) own := wipe_wipe (by rw [l2, bl.1, ← hlen]) fun j hj hn => by
            refine hk j (List.mem_filter.mpr ⟨List.mem_range.mpr (by rw [← wl, ← hlen]; exact hj), by simp [hn]⟩)
          have e2 : wipe (wipe σ0 own) own = wipe σ0 own := wipe_wipe (wipe_length _ _) fun j hj hn => by rw [wipe_at _ _ _ hj, if_neg hn]
          have e3 : wipeL sl' own = wipeL s.sl own := by
            have h1 : wipeL sl' own = wipeL (wipeL s.sl own) own := wipeL_wipe bl.1 fun j hj hn => bl.2 j fun z => hn (ht j z)
            have h2 : wipeL (wipeL s.sl own) own = wipeL s.sl own := wipeL_wipe wl fun j hj hn => by rw [wipeL_at _ _ _ hj, if_neg hn]
            exact h1.trans h2
          have sb' : Sub A' A := by simpa using sb
          refine k σ2 ⟨sl', s.ob⟩ m A' B O us acc q r.1 (e1.trans e2) (fun e => by rw [e3]; exact he e) (a1.slots r' sb' (bindT_nl eb ndn (nlL_sl a1.nl))) (hZ.slots g1 sb') es ?_ htot
          rw [ec, ← h2]
/-- the names of the block forgotten again -/
theorem AS.wiped {own : List Nat} {σ2 σw : L2.St} {s2 : LS} (x : AS Y.K H1 R A1 B1 m1 b D H σ2 s2 m A B O us acc) (e : wipe σ2 own = σw) : ∃ A', Sub A' A ∧ AS Y.K H1 R A1 B1 m1 b D H σw ⟨wipeL s2.sl own, s2.ob⟩ m A' B O us acc := by
  obtain ⟨A', r, hs⟩ := x.li.sl.wipes own
  rw [e] at r
  exact ⟨A', hs, x.slots r hs (nlS_wipe (nlL_sl x.nl) own)⟩

theorem upd_self {H : Hp} {D : Addr} {o : HO} (h : H D = some o) : upd H D o = H := by
  funext a
  by_cases e : a = D
  · rw [e, upd_same, h]
  · rw [upd_ne e]

/-- behind the binding: test, item, the next turn -/
theorem lc_turn {own : List Nat} {σ2 σw : L2.St} {s2 w0 : LS} {bw bt be : Bool} {xs : List LV} {Z : ZP} {t : Tg} {ft : LS → Res (Bool × LS)} {fe : EvF} {tot q : List LV × LS} {i : Nat} {rest : List LV}
    (hZ : Zs Y.K R D bw Z) (hbt : bt = true → bw = true) (hbe : be = true → bw = true) (hbw : bw = true → b = true) (hz : tot.1.length ≤ sizeLine) (hna : nlAll tot.1 = true)
    (ew : wipe σ2 own = σw) (e0 : b = false → (⟨wipeL s2.sl own, s2.ob⟩ : LS) = w0) (x : AS Y.K H1 R A1 B1 m1 b D H σ2 s2 m A B O us acc) (w : Z H A B O) (es : lcStep ft fe s2 = .ok q)
    (ec : compL own t (lcStep ft fe) (xs.drop (i + 1)) q.2 = .ok (rest, tot.2)) (et : tot.1 = acc ++ (q.1 ++ rest)) :
    tG Y.b bt relB ft σ2 H fun c H3 => if c = true then tG Y.b be (relV Y.b) fe σ2 H3 fun y H4 => ∃ us', H4 D = some (.lst us') ∧ us'.length < sizeLine ∧ LP Y.K H1 R A1 B1 m1 b D own σw w0 Z t (lcStep ft fe) xs tot (i + 1) (upd H4 D (.lst (us' ++ [y])))
      else LP Y.K H1 R A1 B1 m1 b D own σw w0 Z t (lcStep ft fe) xs tot (i + 1) H3 := by
  refine ⟨s2, Rv R (D :: O), m, A, B, x.li, fun _ => x.nl, ?_⟩
  unfold lcStep at es
  cases e1 : ft s2 with
  | exc c ps s' => rw [e1] at es; cases es
  | stuck => rw [e1] at es; cases es
  | ok tt =>
    rw [e1] at es
    simp only [Res.bind] at es
    intro c H3 m3 A3 B3 P y3 hrel
    obtain ⟨rfl, rfl⟩ := hrel
    have hD3 : H3 D = some (.lst us) := y3.pr D _ x.hD fun z => x.li.nr D z (.inr List.mem_cons_self)
    have x3 := x.step y3 (fun h => hbw (hbt h)) (us' := us) (acc' := acc) (O' := O) (fun r => by simpa using r) (by simp) x.na
    have w3 := hZ.step w y3 x.li.own hbt hD3 (u := us)
    rw [upd_self hD3, List.append_nil] at w3
    rw [upd_self hD3] at x3
    have ef3 : b = false → tt.2 = s2 := fun h => (y3.ef (by
      cases e : bt with
      | false => rfl
      | true => rw [hbw (hbt e)] at h; cases h)).1
    cases hc : tt.1 with
    | false =>
      rw [hc] at es
      simp only [Bool.false_eq_true, if_false] at es ⊢
      cases es
      obtain ⟨A', hs, x4⟩ := x3.wiped ew
      exact ⟨tt.2, m3, A', B3, O, us, acc, rest, x4, hZ.slots w3 hs, fun h => by rw [ef3 h]; exact e0 h, ec, by simpa using et⟩
    | true =>
      rw [hc] at es
      simp only [if_true] at es ⊢
      cases e2 : fe tt.2 with
      | exc c ps s' => rw [e2] at es; cases es
      | stuck => rw [e2] at es; cases es
      | ok e =>
        rw [e2] at es
        simp only at es
        cases es
        refine ⟨tt.2, Rv R (D :: O), m3, A3, B3, x3.li, fun _ => x3.nl, ?_⟩
        rw [e2]
        intro v H4 m4 A4 B4 P y4 rv
        have hD4 : H4 D = some (.lst us) := y4.pr D _ x3.hD fun z => x3.li.nr D z (.inr List.mem_cons_self)
        have hle : us.length = acc.length := x3.rp.length
        have hlt : us.length < sizeLine := by
          rw [et] at hz
          simp only [List.length_append, List.length_cons, List.length_nil] at hz
          omega
        have nle : e.1.nl = true ∧ nlAll acc = true := by
          have h1 := List.all_eq_true.mp hna
          rw [et] at h1
          exact ⟨h1 e.1 (by simp), x3.na⟩
        refine ⟨us, hD4, hlt, ?_⟩
        have x4 := x3.step y4 (fun h => hbw (hbe h)) (us' := us ++ [v]) (acc' := acc ++ [e.1]) (O' := O ++ P) (fun r => ?_) rfl (by
          simp only [nlAll, List.all_append, List.all_cons, List.all_nil, Bool.and_true, Bool.and_eq_true]
          exact ⟨nle.2, nle.1⟩)
        · have w4 := hZ.step w3 y4 x3.li.own hbe hD4 (u := us ++ [v])
          obtain ⟨A', hs, x5⟩ := x4.wiped ew
          have ef4 : b = false → e.2 = tt.2 := fun h => (y4.ef (by
            cases e : be with
            | false => rfl
            | true => rw [hbw (hbe e)] at h; cases h)).1
          exact ⟨e.2, m4, A', B4, O ++ P, us ++ [v], acc ++ [e.1], rest, x5, hZ.slots w4 hs, fun h => by rw [ef4 h, ef3 h]; exact e0 h, ec, by simpa using et⟩
        · have app : ∀ {us : List V} {xs : List LV} {O : List Addr} {F : Addr → Prop}, Rps Y.K H4 m4 F us xs O → Rp Y.K H4 m4 F v e.1 P → Rps Y.K H4 m4 F (us ++ [v]) (xs ++ [e.1]) (O ++ P) := by
            intro us xs O F r q
            induction us generalizing xs O with
            | nil => cases r; have := Rps.cons q .nil; simpa using this
            | cons u us ih =>
              cases r with
              | cons r t =>
                have := Rps.cons r (ih t)
                rw [← List.append_assoc] at this
                exact this
          refine app r (Rp.fz (Y := Y) rv fun a f => ⟨fun z => ?_, fun z => f.2 (.inl z)⟩)
          rcases List.mem_append.mp z with z | z
          · exact f.1 (List.mem_append_left _ z)
          · rcases List.mem_append.mp z with z | z
            · exact f.2 (.inr z)
            · exact f.1 (List.mem_append_right _ z)

/-- the names' old contents put back -/
theorem unwipe {own : List Nat} {sl0 sl : List (Option LV)} {vs : L2.St} {F0 F : Addr → Prop} {H0 : Hp} {m0 A0 : List Addr} (r0 : RpS Y.K H0 m0 F0 vs sl0 A0) (p : ∀ d w as, RD Y.K H0 w d as → (∀ a ∈ as, F0 a) → RD Y.K H w d as ∧ ∀ a ∈ as, F a)
    (hc : cleanL sl0 own = true) (r : RpS Y.K H m F (wipe vs own) (wipeL sl own) A) : RpS Y.K H m F vs (backL sl0 sl own) A := by
  have l0 := r0.length
  have l1 := r.length
  rw [wipe_length, wipeL_len] at l1
  refine r.patch (by rw [wipe_length]) (by rw [backL_len, wipeL_len]) fun i hi => ?_
  rw [wipeL_len] at hi
  rw [wipe_at _ _ _ (by omega), wipeL_at _ _ _ hi, backL_at _ _ _ _ hi]
  by_cases z : i ∈ own
  · right
    simp only [z, if_true, true_and]
    have q := List.all_eq_true.mp hc i z
    split at q
    · rename_i e; left; rw [e]; rfl
    · rename_i d e
      obtain ⟨w, P, e1, r1, _⟩ := r0.get e
      cases r1 with
      | imm rd f =>
        obtain ⟨rd', f'⟩ := p _ _ _ rd f
        exact .inr ⟨d, w, _, by rw [e]; rfl, e1, rd', f'⟩
    · cases q
  · left; simp [z]
theorem backL_same {own : List Nat} {sl0 sl : List (Option LV)} (h : wipeL sl own = wipeL sl0 own) : backL sl0 sl own = sl0 := by
  have hl : sl.length = sl0.length := by
    have := congrArg List.length h
    simpa [wipeL_len] using this
  apply List.ext_getElem?
  intro i
  by_cases hi : i < sl.length
  · rw [backL_at _ _ _ _ hi]
    by_cases z : i ∈ own
    · simp only [z, if_true]
      rw [List.getElem?_eq_getElem (by omega)]; rfl
    · simp only [z, if_false]
      have this : (wipeL sl own)[i]? = (wipeL sl0 own)[i]? := by rw [h]
      rwa [wipeL_at _ _ _ hi, wipeL_at _ _ _ (by omega), if_neg z, if_neg z] at this
  · rw [List.getElem?_eq_none (by rw [backL_len]; omega), List.getElem?_eq_none (by omega)]
end
end MP
/-! MP.19: comprehensions, whole -/
namespace MP
open PySem PySem.Spec PyProof.Rows L2

theorem walk_go {J : It} {n : Nat} {G : Hp → Prop} {Y : Nat → Hp → V → Hp → Prop} (w : Walk J n G Y) {g : TG} {tt : TT} {te : TE} {vs : List Nat} {σ : L2.St} {H0 : Hp} {D : Addr} {Qd : Hp → Prop} (Pv : Nat → Hp → Prop) (h0 : Pv 0 H0) (hG : ∀ i H, i ≤ n → Pv i H → G H)
    (hs : ∀ i x H H', i < n → Pv i H → Y i H x H' → g x (wipe σ vs) H' fun σ2 H2 => wipe σ2 vs = wipe σ vs ∧ tt σ2 H2 fun b H3 =>
      if b = true then te σ2 H3 fun y H4 => ∃ acc, H4 D = some (.lst acc) ∧ acc.length < sizeLine ∧ Pv (i + 1) (upd H4 D (.lst (acc ++ [y]))) else Pv (i + 1) H3) (hd : ∀ H, Pv n H → Qd H) :
    ∃ W : Nat → Nat → Hp → Prop, (∃ m, W 0 m H0) ∧ ∀ i m H, W i m H →
      (J.stop i H ∧ Qd H) ∨ (J.go i H ∧ ∃ Nx : Hp → Prop, (∀ H', Nx H' → ∃ m', m' < m ∧ W (i + 1) m' H') ∧ ∀ x H', J.yld i H x H' → g x (wipe σ vs) H' fun σ2 H2 => wipe σ2 vs = wipe σ vs ∧ tt σ2 H2 fun b H3 =>
        if b = true then te σ2 H3 fun y H4 => ∃ acc, H4 D = some (.lst acc) ∧ acc.length < sizeLine ∧ Nx (upd H4 D (.lst (acc ++ [y]))) else Nx H3) := by
  refine ⟨fun i m H => m = n - i ∧ i ≤ n ∧ Pv i H, ⟨n, by simp, Nat.zero_le _, h0⟩, ?_⟩
  rintro i m H ⟨rfl, hi, p⟩
  have q := hG i H hi p
  by_cases hlt : i < n
  · refine .inr ⟨w.goes i H hlt q, Pv (i + 1), fun H' p' => ⟨n - (i + 1), by omega, rfl, hlt, p'⟩, fun x H' y => hs i x H H' hlt p (w.yields i H x H' hlt q y)⟩
  · have e : i = n := by omega
    subst e
    exact .inl ⟨w.stops H q, hd H p⟩

section
variable {Y : Yx} {X : Cx} {b : Bool}
/-- the first step: nothing in the new list -/
theorem AS.start {H1 : Hp} {R : Addr → Prop} {vs : L2.St} {s : LS} {m1 A1 B1 : List Addr} {b : Bool} {D : Addr} {own : List Nat} (l : LI Y.K H1 R vs s m1 A1 B1) (n : nlL s = true) (hD : H1 D = none) :
    ∃ A', Sub A' A1 ∧ AS Y.K H1 R A1 B1 m1 b D (upd H1 D (.lst [])) (wipe vs own) ⟨wipeL s.sl own, s.ob⟩ m1 A' B1 [] [] [] := by
  obtain ⟨A', r, hs⟩ := l.sl.wipes own
  have pn : Pres [] H1 (upd H1 D (.lst [])) := Pres.new hD
  have ndA := List.nodup_append.mp l.nd
  have inA : ∀ a, a ∈ A' ++ B1 → a ∈ A1 ++ B1 := fun a z => (List.mem_append.mp z).elim (fun w => List.mem_append_left _ (hs.mem w)) (List.mem_append_right _)
  have F1 : ∀ a, Fz R (A1 ++ B1) a → H1 a ≠ none → Fz (Rv R [D]) (A' ++ B1) a := fun a f n => ⟨fun w => f.1 (inA a w), fun w => w.elim f.2 fun w => n (by rw [List.mem_singleton.mp w]; exact hD)⟩
  refine ⟨A', hs, ⟨⟨?_, ?_, ?_, fun a z w => ?_, fun a z => ?_⟩, List.nodup_cons.mpr ⟨List.not_mem_nil, List.nodup_nil⟩, fun a z w => ?_, upd_same, .nil, fun a o e n => pn a o e (fun z => nomatch z), pn.dom, fun a z => ?_, fun _ _ e => e, fun _ => pn, ?_, rfl, hD⟩⟩
  · exact r.pres pn (fun b z => nomatch z) (fun _ _ e => e) F1 (fun _ _ _ z => nomatch z) (fun _ _ z => nomatch z) (.inl rfl)
  · exact l.ob.pres pn (fun b z => nomatch z) (fun _ _ e => e) F1 (fun _ _ _ z => nomatch z) (fun _ _ z => nomatch z) (.inl rfl)
  · exact List.nodup_append.mpr ⟨hs.nodup ndA.1, ndA.2.1, fun a h1 c h2 e => ndA.2.2 a (hs.mem h1) c h2 e⟩
  · rcases w with w | w
    · exact l.nr a (inA a z) w
    · exact l.exists a (inA a z) (by rw [List.mem_singleton.mp w]; exact hD)
  · rcases z with z | z
    · exact pn.dom a (l.rs a z)
    · rw [List.mem_singleton.mp z, upd_same]; exact fun z => nomatch z
  · exact l.rs a w (by rw [List.mem_singleton.mp z]; exact hD)
  · rcases z with z | z
    · exact .inl (inA a z)
    · exact .inr (by rw [List.mem_singleton.mp z]; exact hD)
  · simp only [nlL, Bool.and_eq_true] at n ⊢
    exact ⟨nlS_wipe n.1 own, n.2⟩
/-- the last: back in the def -/
theorem AS.fin {H H1 : Hp} {R : Addr → Prop} {vs : L2.St} {s s' : LS} {m A B m1 A1 B1 O : List Addr} {b : Bool} {D : Addr} {own : List Nat} {us : List V} {acc : List LV} (l : LI Y.K H1 R vs s m1 A1 B1) (hc : cleanL s.sl own = true) (hn : nlL s = true)
    (x : AS Y.K H1 R A1 B1 m1 b D H (wipe vs own) ⟨wipeL s'.sl own, s'.ob⟩ m A B O us acc) (e : b = false → (⟨wipeL s'.sl own, s'.ob⟩ : LS) = ⟨wipeL s.sl own, s.ob⟩) :
    Stp Y.K H1 R vs s m1 A1 B1 b H ⟨backL s.sl s'.sl own, s'.ob⟩ m A B (D :: O) where
  li := by
    refine ⟨unwipe l.sl (fun d w as r f => ⟨r.pres x.pr l.own fun a z => (f a z).1, fun a z => ⟨fun q => ?_, fun q => ?_⟩⟩) hc x.li.sl, x.li.ob, x.li.nd, x.li.nr, x.li.rs⟩
    · rcases x.gr a (.inl q) with q | q
      · exact (f a z).1 q
      · exact r.dom a z q
    · rcases q with q | q
      · exact (f a z).2 q
      · rcases x.gr a (.inr q) with q | q
        · exact (f a z).1 q
        · exact r.dom a z q
  nd := x.nd
  nr := x.nr
  ex := fun a z => x.li.rs a (.inr z)
  pr := x.pr
  dm := x.dm
  gr := x.gr
  mm := x.mm
  nl := fun _ => by
    have h := x.nl
    simp only [nlL, Bool.and_eq_true] at h hn ⊢
    refine ⟨?_, h.2⟩
    have : ∀ (is : List Nat) (sl : List (Option LV)), nlS sl = true → nlS (backL s.sl sl is) = true := by
      intro is
      induction is with
      | nil => exact fun sl h => h
      | cons j js ih =>
        intro sl h
        unfold backL
        refine nlS_set (ih sl h) j _ fun y e => ?_
        have : ∀ (sl : List (Option LV)) (i : Nat) (y : LV), nlS sl = true → (sl[i]?).getD none = some y → y.nl = true := by
          intro sl
          induction sl with
          | nil => intro i y _ e; simp at e
          | cons z zs ih2 =>
            intro i y h e
            cases i with
            | zero =>
              simp at e; subst e
              simp [nlS] at h; exact h.1
            | succ i =>
              refine ih2 i y ?_ (by simpa using e)
              cases z with
              | none => simpa [nlS] using h
              | some z => simp [nlS] at h; exact h.2
        exact this s.sl j y hn.1 e
    -- the wiped and the whole agree off own
    have e2 : backL s.sl (wipeL s'.sl own) own = backL s.sl s'.sl own := by
      apply List.ext_getElem?
      intro i
      by_cases hi : i < s'.sl.length
      · rw [backL_at _ _ _ _ (by rw [wipeL_len]; exact hi), backL_at _ _ _ _ hi]
        by_cases z : i ∈ own
        · simp [z]
        · simp [z, wipeL_at _ _ _ hi]
      · rw [List.getElem?_eq_none (by rw [backL_len, wipeL_len]; omega), List.getElem?_eq_none (by rw [backL_len]; omega)]
    rw [← e2]
    exact this own _ h.1
  ef := fun hb => by
    have h := e hb
    obtain ⟨h1, h2⟩ := LS.mk.inj h
    exact ⟨by rw [backL_same h1, h2], x.ef hb⟩

theorem lcBad_no {own : List Nat} {be : Bool} {p : (List LV × Bool) × LS} (h : ¬ lcBad own be p) : (p.1.2 = true → be = false) ∧ cleanL p.2.sl own = true ∧ nlL p.2 = true ∧ nlAll p.1.1 = true := by
  unfold lcBad at h
  simp only [not_or, not_and, Bool.not_eq_false, Bool.not_eq_true] at h
  exact ⟨h.1, h.2.1, h.2.2.1, h.2.2.2⟩
theorem lc_conv {own : List Nat} {fi : ItF} {t : Tg} {ft : LS → Res (Bool × LS)} {fe : EvF} {vs : L2.St} {H : Hp} {Q : VK} {bi bt bl be : Bool} (ht : ∀ i ∈ tgS t, i ∈ own) (hbt : bt = true → be = true) (hbl : bl = true → be = true) (h : tG Y (bi || be) (relV Y) (lcE own be t fi ft fe) vs H Q) :
    tLc (tG Y bi (relIt Y) fi) (tgT Y.K t) (tG Y.b bt relB ft) (tG Y.b bl (relV Y.b) fe) own vs H Q := by
  obtain ⟨s, R, m, A, B, l, n, h⟩ := h
  refine ⟨s, R, m, A, B, l, fun e => n (by rw [e]; rfl), h.split (fun e => by cases bi <;> simp_all) fun p hp h1 J H1 m1 A1 B1 P x1 r1 => ?_⟩
  obtain ⟨rfl, ds, as, G, iw, g, e1, fr⟩ := r1
  by_cases hbad : lcBad own be p
  · rw [if_pos hbad] at h1; exact h1.elim
  rw [if_neg hbad] at h1
  obtain ⟨hb1, hb2, hb3, hb4⟩ := lcBad_no hbad
  obtain ⟨⟨xs, lf⟩, s1⟩ := p
  simp only at e1 fr hb1 hb2 hb3 hb4 h1 x1
  subst e1
  cases ec : compL own t (lcStep ft fe) (ds.map (mkImm lf)) s1 with
  | exc c ps s' => rw [ec] at h1; exact h1.elim
  | stuck => rw [ec] at h1; exact h1.elim
  | ok tot =>
    rw [ec] at h1
    replace h1 : Post Y H R vs s m A B (bi || be) (relV Y) (lcEnd own s1 tot) Q := h1
    unfold lcEnd at h1
    by_cases hz : tot.1.length ≤ sizeLine ∧ nlAll tot.1 = true
    case neg => rw [if_neg hz] at h1; exact h1.elim
    rw [if_pos hz] at h1
    intro D hD
    have l1 : LI Y.K H1 R vs s1 m1 A1 B1 := by have := x1.li; rw [Rv_nil] at this; exact this
    obtain ⟨A', hsub, a0⟩ := AS.start (own := own) (b := be) l1 hb3 hD
    have nD : D ∉ as := fun z => iw.ex g D z hD
    have w0 : Wk Y.K R D lf be as G (upd H1 D (.lst [])) A' B1 [] := ⟨iw.keep g (Pres.new hD) (fun _ z => nomatch z) (fun _ _ z => nomatch z), fun e a z => ⟨fun w => (fr e a z).1 (List.mem_append_left _ ((List.mem_append.mp w).elim (fun w => List.mem_append_left _ (hsub.mem w)) (List.mem_append_right _))), fun w => w.elim (fr e a z).2 fun w => nD (List.mem_singleton.mp w ▸ z)⟩, hb1, nD⟩
    have zs : Zs Y.K R D be (Wk Y.K R D lf be as G) := Wk.zs iw
    refine walk_go iw.w (LP Y.K H1 R A1 B1 m1 be D own (wipe vs own) ⟨wipeL s1.sl own, s1.ob⟩ (Wk Y.K R D lf be as G) t (lcStep ft fe) (ds.map (mkImm lf)) tot) ⟨s1, m1, A', B1, [], [], [], tot.1, a0, w0, fun _ => rfl, by rw [List.drop_zero, ec], rfl⟩ (fun i H' _ q => ?_) (fun i x H2 H3 hi q y => ?_) fun H2 q => ?_
    · obtain ⟨_, _, _, _, _, _, _, _, _, w, _⟩ := q
      exact w.g
    · exact lp_bind zs (fun _ _ _ _ w => w.fr) ht hb4 hi q y.1 y.2 fun σ2 s2 m2 A2 B2 O us acc q rest ew e0 x w es ec et => ⟨ew, lc_turn zs hbt hbl id hz.1 hz.2 ew e0 x w es ec et⟩
    · obtain ⟨s2, m2, A2, B2, O, us, acc, rest, a, w, e0, ec2, et⟩ := q
      rw [List.drop_eq_nil_of_le (by rw [List.length_map]; exact Nat.le_refl _), compL] at ec2
      obtain ⟨e2, e3⟩ := Prod.mk.inj (Res.ok.inj ec2)
      subst e2
      rw [List.append_nil] at et
      have y := AS.fin l1 hb2 hb3 a e0
      have y' : Stp Y.K H1 (Rv R []) vs s1 m1 A1 B1 be H2 ⟨backL s1.sl s2.sl own, s2.ob⟩ m2 A2 B2 (D :: O) := by rw [Rv_nil]; exact y
      rw [e3] at y'
      refine h1 (.ref D) H2 m2 A2 B2 (D :: O) (x1.seq y') ?_
      rw [et]
      exact .lst a.hD a.rp
theorem se_lc {elt tg iter : Expr} {ifs : List Expr} {scope : Scope} {ow : List (Str × Nat)} {pos : Pos} {own : List Nat} {fi : ItF} {t : Tg} {ft : LS → Res (Bool × LS)} {fe : EvF} {bi bt bl be : Bool} (ho : ow.map (·.2) = own) (ht : ∀ i ∈ tgS t, i ∈ own) (hbt : bt = true → be = true) (hbl : bl = true → be = true)
    (hc : X.calm = true) (hN : X.N.Nodup) (hi : SI Y X bi fi tg iter) (ok : BlkOk X.N X.env.scope scope ow)
    (hg : ∀ (s : Shared) (H : Hp) (C : Addr) (cl : List (Str × Addr)) (fp : List Addr), PG (X.blk s H scope (compEnvC scope cl C X.env) fp) tg (tgT Y.K t)) (htt : ∀ (s : Shared) (H : Hp) (C : Addr) (cl : List (Str × Addr)) (fp : List Addr), PTs (X.blk s H scope (compEnvC scope cl C X.env) fp) ifs (tG Y.b bt relB ft))
    (he : ∀ (s : Shared) (H : Hp) (C : Addr) (cl : List (Str × Addr)) (fp : List Addr), SE Y.b (X.blk s H scope (compEnvC scope cl C X.env) fp) bl fe elt) (hs : ∀ x, foldedSetIterable iter X.env x = pure x) :
    SE Y X (bi || be) (lcE own be t fi ft fe) (.ListComp elt [⟨tg, iter, ifs, 0⟩] scope pos) := PEw (pe_lc hc hN hi ok hg htt he hs) fun vs H Q h => by rw [ho]; exact lc_conv ht hbt hbl h

/-! ### two clauses -/
theorem lc2_conv {own own2 : List Nat} {fi fi2 : ItF} {t t2 : Tg} {ft ft2 : LS → Res (Bool × LS)} {fe : EvF} {vs : L2.St} {H : Hp} {Q : VK} {bi bt bi2 bt2 bl be : Bool} (ht : ∀ i ∈ tgS t, i ∈ own) (ht2 : ∀ i ∈ tgS t2, i ∈ own2) (ho2 : ∀ i ∈ own2, i ∈ own)
    (hbt : bt = true → be = true) (hbi2 : bi2 = true → be = true) (hbt2 : bt2 = true → be = true) (hbl : bl = true → be = true) (h : tG Y (bi || be) (relV Y) (lc2E own own2 be t fi ft t2 fi2 ft2 fe) vs H Q) :
    tLc2 (tG Y bi (relIt Y) fi) (tgT Y.K t) (tG Y.b bt relB ft) (tG Y.b bi2 (relIt Y.b) fi2) (tgT Y.K t2) (tG Y.b bt2 relB ft2) (tG Y.b bl (relV Y.b) fe) own own2 vs H Q := by
  obtain ⟨s, R, m, A, B, l, n, h⟩ := h
  refine ⟨s, R, m, A, B, l, fun e => n (by rw [e]; rfl), h.split (fun e => by cases bi <;> simp_all) fun p hp h1 J H1 m1 A1 B1 P x1 r1 => ?_⟩
  obtain ⟨rfl, ds, as, G, iw, g, e1, fr⟩ := r1
  by_cases hbad : lcBad own be p
  · rw [if_pos hbad] at h1; exact h1.elim
  rw [if_neg hbad] at h1
  obtain ⟨hb1, hb2, hb3, hb4⟩ := lcBad_no hbad
  obtain ⟨⟨xs, lf⟩, s1⟩ := p
  simp only at e1 fr hb1 hb2 hb3 hb4 h1 x1
  subst e1
  cases ec : compL own t (lc2Step own2 ft t2 fi2 ft2 fe) (ds.map (mkImm lf)) s1 with
  | exc c ps s' => rw [ec] at h1; exact h1.elim
  | stuck => rw [ec] at h1; exact h1.elim
  | ok tot =>
    rw [ec] at h1
    replace h1 : Post Y H R vs s m A B (bi || be) (relV Y) (lcEnd own s1 tot) Q := h1
    unfold lcEnd at h1
    by_cases hz : tot.1.length ≤ sizeLine ∧ nlAll tot.1 = true
    case neg => rw [if_neg hz] at h1; exact h1.elim
    rw [if_pos hz] at h1
    intro D hD
    have l1 : LI Y.K H1 R vs s1 m1 A1 B1 := by have := x1.li; rw [Rv_nil] at this; exact this
    obtain ⟨A', hsub, a0⟩ := AS.start (own := own) (b := be) l1 hb3 hD
    have nD : D ∉ as := fun z => iw.ex g D z hD
    have w0 : Wk Y.K R D lf be as G (upd H1 D (.lst [])) A' B1 [] := ⟨iw.keep g (Pres.new hD) (fun _ z => nomatch z) (fun _ _ z => nomatch z), fun e a z => ⟨fun w => (fr e a z).1 (List.mem_append_left _ ((List.mem_append.mp w).elim (fun w => List.mem_append_left _ (hsub.mem w)) (List.mem_append_right _))), fun w => w.elim (fr e a z).2 fun w => nD (List.mem_singleton.mp w ▸ z)⟩, hb1, nD⟩
    have zs : Zs Y.K R D be (Wk Y.K R D lf be as G) := Wk.zs iw
    generalize hZ : Wk Y.K R D lf be as G = Z at zs w0
    have hZF : ∀ H A B O, Z H A B O → lf = false → ∀ a ∈ as, Fz (Rv R (D :: O)) (A ++ B) a := fun H A B O w => by rw [← hZ] at w; exact w.fr
    have hZG : ∀ H A B O, Z H A B O → G H := fun H A B O w => by rw [← hZ] at w; exact w.g
    -- the outer loop
    refine ⟨fun i m H => m = ds.length - i ∧ i ≤ ds.length ∧ LP Y.K H1 R A1 B1 m1 be D own (wipe vs own) ⟨wipeL s1.sl own, s1.ob⟩ Z t (lc2Step own2 ft t2 fi2 ft2 fe) (ds.map (mkImm lf)) tot i H,
      ⟨ds.length, by simp, Nat.zero_le _, s1, m1, A', B1, [], [], [], tot.1, a0, w0, fun _ => rfl, by rw [List.drop_zero, ec], rfl⟩, ?_⟩
    rintro i mm H2 ⟨rfl, hi, q⟩
    have g2 : G H2 := by
      obtain ⟨_, _, _, _, _, _, _, _, _, w, _⟩ := q
      exact hZG _ _ _ _ w
    by_cases hlt : i < ds.length
    case neg =>
      have e : i = ds.length := by omega
      subst e
      refine .inl ⟨iw.w.stops H2 g2, ?_⟩
      obtain ⟨s2, m2, A2, B2, O, us, acc, rest, a, w, e0, ec2, et⟩ := q
      rw [List.drop_eq_nil_of_le (by rw [List.length_map]; exact Nat.le_refl _), compL] at ec2
      obtain ⟨e2, e3⟩ := Prod.mk.inj (Res.ok.inj ec2)
      subst e2
      rw [List.append_nil] at et
      have y := AS.fin l1 hb2 hb3 a e0
      have y' : Stp Y.K H1 (Rv R []) vs s1 m1 A1 B1 be H2 ⟨backL s1.sl s2.sl own, s2.ob⟩ m2 A2 B2 (D :: O) := by rw [Rv_nil]; exact y
      rw [e3] at y'
      refine h1 (.ref D) H2 m2 A2 B2 (D :: O) (x1.seq y') ?_
      rw [et]
      exact .lst a.hD a.rp
    refine .inr ⟨iw.w.goes i H2 hlt g2, LP Y.K H1 R A1 B1 m1 be D own (wipe vs own) ⟨wipeL s1.sl own, s1.ob⟩ Z t (lc2Step own2 ft t2 fi2 ft2 fe) (ds.map (mkImm lf)) tot (i + 1), fun H' p' => ⟨ds.length - (i + 1), by omega, rfl, hlt, p'⟩, fun x H3 yy => ?_⟩
    have y := iw.w.yields i H2 x H3 hlt g2 yy
    refine lp_bind zs hZF ht hb4 hlt q y.1 y.2 fun σ2 s2 m2 A2 B2 O us acc q rest ew e0 x w es ec et => ⟨ew, ?_⟩
    -- the first test
    refine ⟨s2, Rv R (D :: O), m2, A2, B2, x.li, fun _ => x.nl, ?_⟩
    unfold lc2Step at es
    cases f1 : ft s2 with
    | exc c ps s' => rw [f1] at es; cases es
    | stuck => rw [f1] at es; cases es
    | ok tt =>
      rw [f1] at es
      simp only [Res.bind] at es
      intro c H4 m3 A3 B3 P y3 hrel
      obtain ⟨rfl, rfl⟩ := hrel
      have hD3 : H4 D = some (.lst us) := y3.pr D _ x.hD fun z => x.li.nr D z (.inr List.mem_cons_self)
      have x3 := x.step y3 hbt (us' := us) (acc' := acc) (O' := O) (fun r => by simpa using r) (by simp) x.na
      have w3 := zs.step w y3 x.li.own hbt hD3 (u := us)
      rw [upd_self hD3, List.append_nil] at w3
      rw [upd_self hD3] at x3
      have ef3 : be = false → tt.2 = s2 := fun h => (y3.ef (by
        cases e : bt with
        | false => rfl
        | true => rw [hbt e] at h; cases h)).1
      cases hc : tt.1 with
      | false =>
        rw [hc] at es
        simp only [Bool.false_eq_true, if_false] at es ⊢
        cases es
        obtain ⟨A', hs, x4⟩ := x3.wiped ew
        exact ⟨tt.2, m3, A', B3, O, us, acc, rest, x4, zs.slots w3 hs, fun h => by rw [ef3 h]; exact e0 h, ec, by simpa using et⟩
      | true =>
        rw [hc] at es
        simp only [if_true] at es ⊢
        cases f2 : fi2 tt.2 with
        | exc c ps s' => rw [f2] at es; cases es
        | stuck => rw [f2] at es; cases es
        | ok p2 =>
          rw [f2] at es
          simp only at es
          refine ⟨tt.2, Rv R (D :: O), m3, A3, B3, x3.li, fun _ => x3.nl, ?_⟩
          rw [f2]
          intro J1 H5 m4 A4 B4 P y4 rv
          obtain ⟨rfl, ds2, as2, G2, iw2, g4, e2, fr2⟩ := rv
          by_cases hbd : p2.1.2 = true ∨ nlAll p2.1.1 = false
          · rw [if_pos hbd] at es; cases es
          rw [if_neg hbd] at es
          obtain ⟨⟨xs2, l2⟩, s4⟩ := p2
          simp only at e2 fr2 y4 es hbd
          subst e2
          have hn2 : nlAll (ds2.map (mkImm l2)) = true := by
            cases e : nlAll (ds2.map (mkImm l2)) with
            | true => rfl
            | false => exact absurd (.inr e) hbd
          have hl2 : l2 = false := by
            cases e : l2 with
            | false => rfl
            | true => exact absurd (.inl e) hbd
          subst hl2
          have fr2 := fr2 rfl
          have hD4 : H5 D = some (.lst us) := y4.pr D _ x3.hD fun z => x3.li.nr D z (.inr List.mem_cons_self)
          have x4 := x3.step y4 hbi2 (us' := us) (acc' := acc) (O' := O) (fun r => by simpa using r) (by simp) x3.na
          have w4 := zs.step w3 y4 x3.li.own hbi2 hD4 (u := us)
          rw [upd_self hD4, List.append_nil] at w4
          rw [upd_self hD4] at x4
          have ef4 : be = false → s4 = tt.2 := fun h => (y4.ef (by
            cases e : bi2 with
            | false => rfl
            | true => rw [hbi2 e] at h; cases h)).1
          have nD2 : D ∉ as2 := fun z => (fr2 D z).2 (.inr List.mem_cons_self)
          have zs2 : Zs Y.K R D be (fun H A B O => Wk Y.K R D false be as2 G2 H A B O ∧ Z H A B O) := (Wk.zs iw2).and zs
          obtain ⟨A5, hs5, x5⟩ := x4.wiped (own := own2) rfl
          have w5 : Wk Y.K R D false be as2 G2 H5 A4 B4 O := ⟨g4, fun _ a z => ⟨fun w => (fr2 a z).1 (List.mem_append_left _ w), (fr2 a z).2⟩, (fun z => nomatch z), nD2⟩
          have hz2 : (acc ++ q.1).length ≤ sizeLine := by
            have := hz.1
            rw [et] at this
            simp only [List.length_append] at this ⊢
            omega
          have hna2 : nlAll (acc ++ q.1) = true := by
            have := hz.2
            rw [et] at this
            simp only [nlAll, List.all_append, Bool.and_eq_true] at this ⊢
            exact ⟨this.1, this.2.1⟩
          refine walk_go iw2.w (LP Y.K H1 R A1 B1 m1 be D own2 (wipe σ2 own2) ⟨wipeL s4.sl own2, s4.ob⟩ (fun H A B O => Wk Y.K R D false be as2 G2 H A B O ∧ Z H A B O) t2 (lcStep ft2 fe) (ds2.map (mkImm false)) (acc ++ q.1, q.2))
            ⟨s4, m4, A5, B4, O, us, acc, q.1, x5, zs2.slots ⟨w5, w4⟩ hs5, fun _ => rfl, by rw [List.drop_zero]; exact es, rfl⟩ (fun j H' _ q => ?_) (fun j x H6 H7 hj qq y => ?_) fun H6 qq => ?_
          · obtain ⟨_, _, _, _, _, _, _, _, _, w, _⟩ := q
            exact w.1.g
          · exact lp_bind zs2 (fun _ _ _ _ w => w.1.fr) ht2 hn2 hj qq y.1 y.2 fun σ3 s3 m3 A3 B3 O us acc q rest ew e0 x w es ec et => ⟨ew, lc_turn zs2 hbt2 hbl id hz2 hna2 ew e0 x w es ec et⟩
          · obtain ⟨s6, m6, A6, B6, O6, us6, acc6, rest6, x6, w6, e6, ec6, et6⟩ := qq
            rw [List.drop_eq_nil_of_le (by rw [List.length_map]; exact Nat.le_refl _), compL] at ec6
            obtain ⟨e7, e8⟩ := Prod.mk.inj (Res.ok.inj ec6)
            subst e7
            simp only [List.append_nil] at et6 e8
            have len6 := x6.li.sl.length
            have sub : ∀ sl : List (Option LV), wipeL (wipeL sl own2) own = wipeL sl own := fun sl => wipeL_wipe wipeL_len fun j hj hn => by rw [wipeL_at _ _ _ hj, if_neg fun z => hn (ho2 j z)]
            have subV : wipe (wipe σ2 own2) own = wipe vs own := (wipe_wipe (wipe_length _ _) fun j hj hn => by rw [wipe_at _ _ _ hj, if_neg fun z => hn (ho2 j z)]).trans ew
            obtain ⟨A7, hs7, x7⟩ := x6.wiped subV
            simp only at x7
            rw [sub] at x7
            subst e8
            refine ⟨q.2, m6, A7, B6, O6, us6, acc6, rest, x7, zs.slots w6.2 hs7, fun h => ?_, ec, by rw [et, ← List.append_assoc, et6]⟩
            obtain ⟨h1, h2⟩ := LS.mk.inj (e6 h)
            have h3 : wipeL q.2.sl own = wipeL s4.sl own := by rw [← sub q.2.sl, h1, sub]
            rw [h3, h2, ef4 h, ef3 h]
            exact e0 h
theorem se_lc2 {elt tg iter tg2 iter2 : Expr} {ifs ifs2 : List Expr} {scope : Scope} {ow : List (Str × Nat)} {pos : Pos} {own own2 : List Nat} {fi fi2 : ItF} {t t2 : Tg} {ft ft2 : LS → Res (Bool × LS)} {fe : EvF} {bi bt bi2 bt2 bl be : Bool} (ho : ow.map (·.2) = own) (ht : ∀ i ∈ tgS t, i ∈ own) (ht2 : ∀ i ∈ tgS t2, i ∈ own2) (ho2 : ∀ i ∈ own2, i ∈ own)
    (hbt : bt = true → be = true) (hbi2 : bi2 = true → be = true) (hbt2 : bt2 = true → be = true) (hbl : bl = true → be = true)
    (hc : X.calm = true) (hN : X.N.Nodup) (hi : SI Y X bi fi tg iter) (ok : BlkOk X.N X.env.scope scope ow)
    (hg : ∀ (s : Shared) (H : Hp) (C : Addr) (cl : List (Str × Addr)) (fp : List Addr), PG (X.blk s H scope (compEnvC scope cl C X.env) fp) tg (tgT Y.K t)) (htt : ∀ (s : Shared) (H : Hp) (C : Addr) (cl : List (Str × Addr)) (fp : List Addr), PTs (X.blk s H scope (compEnvC scope cl C X.env) fp) ifs (tG Y.b bt relB ft))
    (hi2 : ∀ (s : Shared) (H : Hp) (C : Addr) (cl : List (Str × Addr)) (fp : List Addr), SI Y.b (X.blk s H scope (compEnvC scope cl C X.env) fp) bi2 fi2 tg2 iter2)
    (hg2 : ∀ (s : Shared) (H : Hp) (C : Addr) (cl : List (Str × Addr)) (fp : List Addr), PG (X.blk s H scope (compEnvC scope cl C X.env) fp) tg2 (tgT Y.K t2)) (ht2t : ∀ (s : Shared) (H : Hp) (C : Addr) (cl : List (Str × Addr)) (fp : List Addr), PTs (X.blk s H scope (compEnvC scope cl C X.env) fp) ifs2 (tG Y.b bt2 relB ft2))
    (he : ∀ (s : Shared) (H : Hp) (C : Addr) (cl : List (Str × Addr)) (fp : List Addr), SE Y.b (X.blk s H scope (compEnvC scope cl C X.env) fp) bl fe elt) (hs : ∀ x, foldedSetIterable iter X.env x = pure x) (hs2 : ∀ env x, foldedSetIterable iter2 env x = pure x) :
    SE Y X (bi || be) (lc2E own own2 be t fi ft t2 fi2 ft2 fe) (.ListComp elt [⟨tg, iter, ifs, 0⟩, ⟨tg2, iter2, ifs2, 0⟩] scope pos) :=
  PEw (pe_lc2 hc hN hi ok (vs1 := own2) (fun i hi => by rw [ho]; exact ho2 i hi) hg htt hi2 hg2 ht2t he hs hs2) fun vs H Q h => by rw [ho]; exact lc2_conv ht ht2 ho2 hbt hbi2 hbt2 hbl h
/-- no test, one test -/
theorem pts_none {Y : Yx} {X : Cx} {b : Bool} : PTs X [] (tG Y b relB (fun s => .ok (true, s))) := ⟨fun pins s σ H Q I h => pts_nil.run pins s σ H Q I (by
  obtain ⟨s0, R, m, A, B, l, n, h⟩ := h
  exact h true H m A B [] (Stp.refl l) ⟨rfl, rfl⟩)⟩
end
end MP
/-! MP.20: paths to own things -/
namespace MP
open PySem PySem.Spec PyProof.Rows L2

section
variable {K : PySem.W.Frag} {H : Hp} {m : List Addr} {F : Addr → Prop}
inductive Reach (K : PySem.W.Frag) (H : Hp) : V → List PyData → V → Prop
  | nil {v : V} : Reach K H v [] v
  | lst {a : Addr} {vs : List V} {i : Int} {w z : V} {ds : List PyData} : H a = some (.lst vs) → atI vs i = some w → Reach K H w ds z → Reach K H (.ref a) (.int i :: ds) z
  | dic {a : Addr} {vs : List (Key × V)} {d : PyData} {k : Key} {w z : V} {ds : List PyData} : H a = some (.dK vs) → keyOf d = some k → valV vs k = some w → Reach K H w ds z → Reach K H (.ref a) (d :: ds) z
theorem Reach.snoc {v z w : V} {ds : List PyData} {d : PyData} (r : Reach K H v ds z) (s : Reach K H z [d] w) : Reach K H v (ds ++ [d]) w := by
  induction r with
  | nil => exact s
  | lst h e _ ih => exact .lst h e (ih s)
  | dic h ek e _ ih => exact .dic h ek e (ih s)
theorem Reach.pres {H' : Hp} (p : Pres [] H H') {v z : V} {ds : List PyData} (r : Reach K H v ds z) : Reach K H' v ds z := by
  induction r with
  | nil => exact .nil
  | lst h e _ ih => exact .lst (p _ _ h fun z => nomatch z) e ih
  | dic h ek e _ ih => exact .dic (p _ _ h fun z => nomatch z) ek e ih
theorem Reach.split {z : V} : ∀ {ds : List PyData} {d : PyData} {v : V}, Reach K H v (ds ++ [d]) z → ∃ w, Reach K H v ds w ∧ Reach K H w [d] z := by
  intro ds
  induction ds with
  | nil => exact fun {d v} r => ⟨v, .nil, r⟩
  | cons c ds ih =>
    intro d v r
    rw [List.cons_append] at r
    cases r with
    | lst h e r =>
      obtain ⟨w, r1, r2⟩ := ih r
      exact ⟨w, .lst h e r1, r2⟩
    | dic h ek e r =>
      obtain ⟨w, r1, r2⟩ := ih r
      exact ⟨w, .dic h ek e r1, r2⟩

/-- the other things stay as one is written -/
def Put (K : PySem.W.Frag) (H : Hp) (m : List Addr) (F : Addr → Prop) (Oz : List Addr) (P : Hp → (Addr → Prop) → List Addr → List Addr → Prop) : Prop :=
  ∀ (H' : Hp) (F' : Addr → Prop) (l : Addr) (Oz' : List Addr), l ∈ Oz → Pres [l] H H' → WM [l] H → (∀ a, F a → H a ≠ none → F' a) → (∀ a, F a → H a ≠ none → a ≠ l) → P H' F' [l] Oz'

theorem Rps.nth : ∀ {xs : List LV} {vs : List V} {O : List Addr} {j : Nat} {c : LV}, Rps K H m F vs xs O → LV.nls xs = true → O.Nodup → xs[j]? = some c →
    ∃ w Oc Or, vs[j]? = some w ∧ Rp K H m F w c Oc ∧ O.Perm (Oc ++ Or) ∧ c.nl = true ∧
      ∀ (H' : Hp) (F' : Addr → Prop) (l : Addr) (c' : LV) (Oc' : List Addr), l ∈ Oc → Pres [l] H H' → WM [l] H → (∀ a, F a → H a ≠ none → F' a) → (∀ a, F a → H a ≠ none → a ≠ l) → Rp K H' m F' w c' Oc' → ∃ O', Rps K H' m F' vs (xs.set j c') O' ∧ O'.Perm (Oc' ++ Or)
  | [], _, _, j, c, .nil, _, _, e => by simp at e
  | x :: xs, v :: vs, _, j, c, @Rps.cons _ _ _ _ _ _ _ _ O P r t, n, nd, e => by
    simp only [LV.nls, Bool.and_eq_true] at n
    have nd' := List.nodup_append.mp nd
    cases j with
    | zero =>
      simp at e; subst e
      refine ⟨v, O, P, rfl, r, List.Perm.refl _, n.1, fun H' F' l c' Oc' hl p wm hF hn q => ⟨Oc' ++ P, .cons q ?_, List.Perm.refl _⟩⟩
      exact t.pres p wm (fun _ _ e => e) hF (fun a f ne w => hn a f ne (List.mem_singleton.mp w)) (fun a z w => nd'.2.2 l hl a z (List.mem_singleton.mp w).symm) (.inr n.2)
    | succ j =>
      obtain ⟨w, Oc, Or, e1, rc, pm, nc, put⟩ := Rps.nth t n.2 nd'.2.1 (j := j) (by simpa using e)
      refine ⟨w, Oc, O ++ Or, by simpa using e1, rc, ?_, nc, fun H' F' l c' Oc' hl p wm hF hn q => ?_⟩
      · refine (List.Perm.append_left O pm).trans ?_
        rw [← List.append_assoc, ← List.append_assoc]
        exact List.Perm.append_right Or List.perm_append_comm
      · obtain ⟨O', q1, q2⟩ := put H' F' l c' Oc' hl p wm hF hn q
        refine ⟨O ++ O', .cons (r.pres p wm (fun _ _ e => e) hF (fun a f ne w => hn a f ne (List.mem_singleton.mp w)) (fun a z w => nd'.2.2 a z l (pm.mem_iff.mpr (List.mem_append_left _ hl)) (List.mem_singleton.mp w)) (.inr n.1)) q1, ?_⟩
        refine (List.Perm.append_left O q2).trans ?_
        rw [← List.append_assoc, ← List.append_assoc]
        exact List.Perm.append_right Or List.perm_append_comm
theorem valV_cons {kvs : List (Key × V)} {k' k : Key} {v : V} : valV ((k', v) :: kvs) k = if k' = k then some v else valV kvs k := by
  by_cases e : k' = k
  · rw [if_pos e]; exact valV_pos (p := (k', v)) e
  · rw [if_neg e]; exact valV_neg (p := (k', v)) e
theorem Rpk.look : ∀ {xs : List (Key × LV)} {vs : List (Key × V)} {O : List Addr} {k : Key} {c : LV}, Rpk K H m F vs xs O → LV.nlk xs = true → O.Nodup → lookK xs k = some c →
    ∃ w Oc Or, valV vs k = some w ∧ Rp K H m F w c Oc ∧ O.Perm (Oc ++ Or) ∧ c.nl = true ∧
      ∀ (H' : Hp) (F' : Addr → Prop) (l : Addr) (c' : LV) (Oc' : List Addr), l ∈ Oc → Pres [l] H H' → WM [l] H → (∀ a, F a → H a ≠ none → F' a) → (∀ a, F a → H a ≠ none → a ≠ l) → Rp K H' m F' w c' Oc' → ∃ O', Rpk K H' m F' vs (setK xs k c') O' ∧ O'.Perm (Oc' ++ Or)
  | [], _, _, k, c, .nil, _, _, e => by simp [lookK] at e
  | (k', x) :: xs, _, _, k, c, @Rpk.cons _ _ _ _ _ v vs _ _ O P r t, n, nd, e => by
    simp only [LV.nlk, Bool.and_eq_true] at n
    have nd' := List.nodup_append.mp nd
    unfold lookK at e
    by_cases hk : k' = k
    · rw [if_pos hk] at e
      cases e
      refine ⟨v, O, P, by rw [valV_cons, if_pos hk], r, List.Perm.refl _, n.1, fun H' F' l c' Oc' hl p wm hF hn q => ⟨Oc' ++ P, ?_, List.Perm.refl _⟩⟩
      unfold setK
      rw [if_pos hk]
      exact .cons q (t.pres p wm (fun _ _ e => e) hF (fun a f ne w => hn a f ne (List.mem_singleton.mp w)) (fun a z w => nd'.2.2 l hl a z (List.mem_singleton.mp w).symm) (.inr n.2))
    · rw [if_neg hk] at e
      obtain ⟨w, Oc, Or, e1, rc, pm, nc, put⟩ := Rpk.look t n.2 nd'.2.1 e
      refine ⟨w, Oc, O ++ Or, by rw [valV_cons, if_neg hk]; exact e1, rc, ?_, nc, fun H' F' l c' Oc' hl p wm hF hn q => ?_⟩
      · refine (List.Perm.append_left O pm).trans ?_
        rw [← List.append_assoc, ← List.append_assoc]
        exact List.Perm.append_right Or List.perm_append_comm
      · obtain ⟨O', q1, q2⟩ := put H' F' l c' Oc' hl p wm hF hn q
        unfold setK
        rw [if_neg hk]
        refine ⟨O ++ O', .cons (r.pres p wm (fun _ _ e => e) hF (fun a f ne w => hn a f ne (List.mem_singleton.mp w)) (fun a z w => nd'.2.2 a z l (pm.mem_iff.mpr (List.mem_append_left _ hl)) (List.mem_singleton.mp w)) (.inr n.1)) q1, ?_⟩
        refine (List.Perm.append_left O q2).trans ?_
        rw [← List.append_assoc, ← List.append_assoc]
        exact List.Perm.append_right Or List.perm_append_comm

theorem atI_two {α β : Type} {xs : List α} {vs : List β} {i : Int} {c : α} (hl : vs.length = xs.length) (e : atI xs i = some c) : ∃ j, ixN xs.length i = some j ∧ xs[j]? = some c ∧ ∀ w, vs[j]? = some w → atI vs i = some w := by
  unfold atI at e ⊢
  cases h : ixN xs.length i with
  | none => rw [h] at e; cases e
  | some j =>
    rw [h] at e
    exact ⟨j, rfl, e, fun w hw => by rw [hl, h]; exact hw⟩
theorem stepL_dic {ks : List (Key × LV)} {d : PyData} : stepL (.dic ks) d = (match keyOf d with | some k => lookK ks k | none => none) := rfl
/-- the thing at a path, and another one in its place -/
theorem path_rp : ∀ {ds : List PyData} {x z : LV} {v : V} {O : List Addr}, Rp K H m F v x O → x.nl = true → O.Nodup → getP x ds = some z →
    ∃ vz Oz Or, Reach K H v ds vz ∧ Rp K H m F vz z Oz ∧ O.Perm (Oz ++ Or) ∧ z.nl = true ∧
      ∀ (H' : Hp) (F' : Addr → Prop) (l : Addr) (z' x' : LV) (Oz' : List Addr), l ∈ Oz → Pres [l] H H' → WM [l] H → (∀ a, F a → H a ≠ none → F' a) → (∀ a, F a → H a ≠ none → a ≠ l) → Rp K H' m F' vz z' Oz' → putP x ds z' = some x' → ∃ O', Rp K H' m F' v x' O' ∧ O'.Perm (Oz' ++ Or)
  | [], x, z, v, O, r, n, nd, e => by
    unfold getP at e
    cases e
    refine ⟨v, O, [], .nil, r, by rw [List.append_nil], n, fun H' F' l z' x' Oz' hl p wm hF hn q e => ?_⟩
    unfold putP at e
    cases e
    exact ⟨Oz', q, by rw [List.append_nil]⟩
  | d :: ds, x, z, v, O, r, n, nd, e => by
    unfold getP at e
    cases es : stepL x d with
    | none => rw [es] at e; cases e
    | some c =>
      rw [es] at e
      simp only at e
      unfold stepL at es
      split at es
      · rename_i xs i
        cases r with
        | @lst a vs _ O1 h r =>
          obtain ⟨na, nd1⟩ := List.nodup_cons.mp nd
          obtain ⟨j, ej, ec, hat⟩ := atI_two (vs := vs) r.length es
          obtain ⟨w, Oc, Or, e1, rc, pm, nc, put⟩ := r.nth (by simpa [LV.nl] using n) nd1 ec
          have ndc : Oc.Nodup := (List.nodup_append.mp (pm.nodup_iff.mp nd1)).1
          obtain ⟨vz, Oz, Or2, rr, rz, pm2, nz, put2⟩ := path_rp rc nc ndc e
          refine ⟨vz, Oz, a :: (Or2 ++ Or), .lst h (hat w e1) rr, rz, ?_, nz, fun H' F' l z' x' Oz' hl p wm hF hn q e => ?_⟩
          · have : (a :: O1).Perm (a :: (Oz ++ (Or2 ++ Or))) := .cons _ (pm.trans (by rw [← List.append_assoc]; exact List.Perm.append_right Or pm2))
            exact this.trans List.perm_middle.symm
          · unfold putP at e
            rw [show stepL (.lst xs) (.int i) = some c from by unfold stepL; exact es] at e
            simp only at e
            cases ep : putP c ds z' with
            | none => rw [ep] at e; cases e
            | some c' =>
              rw [ep] at e
              simp only [putL, ej, Option.map_some, Option.some.injEq] at e
              subst e
              obtain ⟨Oc', q1, q2⟩ := put2 H' F' l z' c' Oz' hl p wm hF hn q ep
              have hlc : l ∈ Oc := pm2.mem_iff.mpr (List.mem_append_left _ hl)
              obtain ⟨O1', q3, q4⟩ := put H' F' l c' Oc' hlc p wm hF hn q1
              have nal : a ≠ l := fun e => na (pm.mem_iff.mpr (List.mem_append_left _ (e ▸ hlc)))
              refine ⟨a :: O1', .lst (p a _ h fun w => nal (List.mem_singleton.mp w)) q3, ?_⟩
              have : (a :: O1').Perm (a :: (Oz' ++ (Or2 ++ Or))) := .cons _ (q4.trans (by rw [← List.append_assoc]; exact List.Perm.append_right Or q2))
              exact this.trans List.perm_middle.symm
      · rename_i ks
        split at es
        · rename_i k ek
          cases r with
          | @dic a vs _ O1 h r =>
            obtain ⟨na, nd1⟩ := List.nodup_cons.mp nd
            obtain ⟨w, Oc, Or, e1, rc, pm, nc, put⟩ := r.look (by simpa [LV.nl] using n) nd1 es
            have ndc : Oc.Nodup := (List.nodup_append.mp (pm.nodup_iff.mp nd1)).1
            obtain ⟨vz, Oz, Or2, rr, rz, pm2, nz, put2⟩ := path_rp rc nc ndc e
            refine ⟨vz, Oz, a :: (Or2 ++ Or), .dic h ek e1 rr, rz, ?_, nz, fun H' F' l z' x' Oz' hl p wm hF hn q e => ?_⟩
            · have : (a :: O1).Perm (a :: (Oz ++ (Or2 ++ Or))) := .cons _ (pm.trans (by rw [← List.append_assoc]; exact List.Perm.append_right Or pm2))
              exact this.trans List.perm_middle.symm
            · unfold putP at e
              rw [show stepL (.dic ks) d = some c from by rw [stepL_dic, ek]; exact es] at e
              simp only at e
              cases ep : putP c ds z' with
              | none => rw [ep] at e; cases e
              | some c' =>
                rw [ep] at e
                simp only [putL, ek, Option.map_some, Option.some.injEq] at e
                subst e
                obtain ⟨Oc', q1, q2⟩ := put2 H' F' l z' c' Oz' hl p wm hF hn q ep
                have hlc : l ∈ Oc := pm2.mem_iff.mpr (List.mem_append_left _ hl)
                obtain ⟨O1', q3, q4⟩ := put H' F' l c' Oc' hlc p wm hF hn q1
                have nal : a ≠ l := fun e => na (pm.mem_iff.mpr (List.mem_append_left _ (e ▸ hlc)))
                refine ⟨a :: O1', .dic (p a _ h fun w => nal (List.mem_singleton.mp w)) q3, ?_⟩
                have : (a :: O1').Perm (a :: (Oz' ++ (Or2 ++ Or))) := .cons _ (q4.trans (by rw [← List.append_assoc]; exact List.Perm.append_right Or q2))
                exact this.trans List.perm_middle.symm
        · cases es
      · cases es
end
end MP
/-! MP.21: own things at paths: read -/
namespace MP
open PySem PySem.Spec PyProof.Rows L2

theorem pmid {A B C : List Addr} : (A ++ (B ++ C)).Perm (B ++ (A ++ C)) := by
  rw [← List.append_assoc, ← List.append_assoc]
  exact List.Perm.append_right C List.perm_append_comm
section
variable {K : PySem.W.Frag} {H : Hp} {m : List Addr} {F : Addr → Prop}
theorem Rps.get {xs : List LV} {vs : List V} {O : List Addr} {j : Nat} {c : LV} (r : Rps K H m F vs xs O) (e : xs[j]? = some c) : ∃ w Oc, vs[j]? = some w ∧ Rp K H m F w c Oc := by
  induction xs generalizing vs O j with
  | nil => simp at e
  | cons x xs ih =>
    cases r with
    | cons r t =>
      cases j with
      | zero => simp at e; subst e; exact ⟨_, _, rfl, r⟩
      | succ j => obtain ⟨w, Oc, h1, h2⟩ := ih t (by simpa using e); exact ⟨w, Oc, by simpa using h1, h2⟩
theorem Rpk.get {xs : List (Key × LV)} {vs : List (Key × V)} {O : List Addr} {k : Key} {c : LV} (r : Rpk K H m F vs xs O) (e : lookK xs k = some c) : ∃ w Oc, valV vs k = some w ∧ Rp K H m F w c Oc := by
  induction xs generalizing vs O with
  | nil => simp [lookK] at e
  | cons x xs ih =>
    obtain ⟨k', x⟩ := x
    cases r with
    | cons r t =>
      unfold lookK at e
      by_cases hk : k' = k
      · rw [if_pos hk] at e; cases e; exact ⟨_, _, by rw [valV_cons, if_pos hk], r⟩
      · rw [if_neg hk] at e
        obtain ⟨w, Oc, h1, h2⟩ := ih t e
        exact ⟨w, Oc, by rw [valV_cons, if_neg hk]; exact h1, h2⟩
theorem step_rp {x c : LV} {d : PyData} {v : V} {O : List Addr} (r : Rp K H m F v x O) (e : stepL x d = some c) : ∃ w Oc, (∀ z ds, Reach K H w ds z → Reach K H v (d :: ds) z) ∧ Rp K H m F w c Oc := by
  cases r with
  | lst h r =>
    cases d with
    | int i =>
      obtain ⟨j, ej, ec, hat⟩ := atI_two r.length (show atI _ i = some c from e)
      obtain ⟨w, Oc, h1, h2⟩ := r.get ec
      exact ⟨w, Oc, fun z ds q => .lst h (hat w h1) q, h2⟩
    | _ => cases e
  | dic h r =>
    rw [stepL_dic] at e
    split at e
    · rename_i k ek
      obtain ⟨w, Oc, h1, h2⟩ := r.get e
      exact ⟨w, Oc, fun z ds q => .dic h ek h1 q, h2⟩
    · cases e
  | _ => cases e
theorem get_rp : ∀ {ds : List PyData} {x z : LV} {v : V} {O : List Addr}, Rp K H m F v x O → getP x ds = some z → ∃ vz Oz, Reach K H v ds vz ∧ Rp K H m F vz z Oz
  | [], x, z, v, O, r, e => by unfold getP at e; cases e; exact ⟨v, O, .nil, r⟩
  | d :: ds, x, z, v, O, r, e => by
    unfold getP at e
    cases es : stepL x d with
    | none => rw [es] at e; cases e
    | some c =>
      rw [es] at e
      obtain ⟨w, Oc, h1, h2⟩ := step_rp r es
      obtain ⟨vz, Oz, q1, q2⟩ := get_rp h2 e
      exact ⟨vz, Oz, h1 _ _ q1, q2⟩
theorem split_rp : ∀ {ds : List PyData} {x : LV} {v : V} {O : List Addr} {l : Nat} {rest : List PyData}, Rp K H m F v x O → splitP x ds = some (l, rest) → ∃ a, m[l]? = some a ∧ ∀ vz, Reach K H (.ref a) rest vz → Reach K H v ds vz
  | [], x, v, O, l, rest, r, e => by
    cases x <;> simp [splitP] at e
    obtain ⟨rfl, rfl⟩ := e
    cases r with
    | ref h => exact ⟨_, h, fun _ q => q⟩
  | d :: ds, x, v, O, l, rest, r, e => by
    by_cases hx : ∃ l', x = .ref l'
    · obtain ⟨l', rfl⟩ := hx
      simp [splitP] at e
      obtain ⟨rfl, rfl⟩ := e
      cases r with
      | ref h => exact ⟨_, h, fun _ q => q⟩
    · have e' : (match stepL x d with
        | some c => splitP c ds
        | none => none) = some (l, rest) := by
        cases x <;> first | exact e | exact absurd ⟨_, rfl⟩ hx
      cases es : stepL x d with
      | none => rw [es] at e'; cases e'
      | some c =>
        rw [es] at e'
        obtain ⟨w, Oc, h1, h2⟩ := step_rp r es
        obtain ⟨a, q1, q2⟩ := split_rp h2 e'
        exact ⟨a, q1, fun vz q => h1 _ _ (q2 vz q)⟩
theorem RpS.nth {vs : L2.St} {sl : List (Option LV)} {A : List Addr} (r : RpS K H m F vs sl A) : ∀ {i : Nat} {x : LV}, nlS sl = true → A.Nodup → sl[i]? = some (some x) →
    ∃ v O Or, vs[i]? = some (some v) ∧ Rp K H m F v x O ∧ A.Perm (O ++ Or) ∧ x.nl = true ∧
      ∀ (H' : Hp) (F' : Addr → Prop) (l : Addr) (x' : LV) (O' : List Addr), l ∈ O → Pres [l] H H' → WM [l] H → (∀ a, F a → H a ≠ none → F' a) → (∀ a, F a → H a ≠ none → a ≠ l) → Rp K H' m F' v x' O' → ∃ A', RpS K H' m F' vs (sl.set i (some x')) A' ∧ A'.Perm (O' ++ Or) := by
  induction r with
  | nil => intro i x _ _ e; simp at e
  | @no u us xs P r ih =>
    intro i x n nd e
    cases i with
    | zero => simp at e
    | succ i =>
      obtain ⟨v, O, Or, e1, rv, pm, nx, put⟩ := ih (i := i) (x := x) (by simpa [nlS] using n) nd (by simpa using e)
      refine ⟨v, O, Or, by simpa using e1, rv, pm, nx, fun H' F' l x' O' hl p wm hF hn q => ?_⟩
      obtain ⟨A', h1, h2⟩ := put H' F' l x' O' hl p wm hF hn q
      exact ⟨A', .no h1, h2⟩
  | @so v us y xs O P h r ih =>
    intro i x n nd e
    have nd' := List.nodup_append.mp nd
    simp [nlS] at n
    cases i with
    | zero =>
      simp at e; subst e
      refine ⟨v, O, P, rfl, h, List.Perm.refl _, n.1, fun H' F' l x' O' hl p wm hF hn q => ⟨O' ++ P, .so q ?_, List.Perm.refl _⟩⟩
      exact r.pres p wm (fun _ _ e => e) hF (fun a f ne w => hn a f ne (List.mem_singleton.mp w)) (fun a z w => nd'.2.2 l hl a z (List.mem_singleton.mp w).symm) (.inr n.2)
    | succ i =>
      obtain ⟨w, O2, Or, e1, rv, pm, nx, put⟩ := ih (i := i) (x := x) n.2 nd'.2.1 (by simpa using e)
      refine ⟨w, O2, O ++ Or, by simpa using e1, rv, ?_, nx, fun H' F' l x' O' hl p wm hF hn q => ?_⟩
      · refine (List.Perm.append_left O pm).trans ?_
        rw [← List.append_assoc, ← List.append_assoc]
        exact List.Perm.append_right Or List.perm_append_comm
      · obtain ⟨A', h1, h2⟩ := put H' F' l x' O' hl p wm hF hn q
        refine ⟨O ++ A', .so (h.pres p wm (fun _ _ e => e) hF (fun a f ne w => hn a f ne (List.mem_singleton.mp w)) (fun a z w => nd'.2.2 a z l (pm.mem_iff.mpr (List.mem_append_left _ hl)) (List.mem_singleton.mp w)) (.inr n.1)) h1, ?_⟩
        refine (List.Perm.append_left O h2).trans ?_
        rw [← List.append_assoc, ← List.append_assoc]
        exact List.Perm.append_right Or List.perm_append_comm

/-- the thing at a slot's path, and another one in its place -/
theorem focus_rp {R : Addr → Prop} {vs : L2.St} {s : LS} {A B : List Addr} {i : Nat} {ds : List PyData} {z : LV} (l0 : LI K H R vs s m A B) (n : nlL s = true) (e : getF s i ds = some z) :
    ∃ v vz Oz Or, vs[i]? = some (some v) ∧ Reach K H v ds vz ∧ Rp K H m (Fz R (A ++ B)) vz z Oz ∧ (A ++ B).Perm (Oz ++ Or) ∧ z.nl = true ∧
      ∀ (H' : Hp) (F' : Addr → Prop) (l : Addr) (z' : LV) (s' : LS) (Oz' : List Addr), l ∈ Oz → Pres [l] H H' → WM [l] H → (∀ a, Fz R (A ++ B) a → H a ≠ none → F' a) → Rp K H' m F' vz z' Oz' → putF s i ds z' = some s' →
        ∃ A' B', RpS K H' m F' vs s'.sl A' ∧ Rps K H' m F' (m.map V.ref) s'.ob B' ∧ (A' ++ B').Perm (Oz' ++ Or) := by
  have nd := List.nodup_append.mp l0.nd
  simp only [nlL, Bool.and_eq_true] at n
  unfold getF at e
  split at e
  · rename_i x hx
    obtain ⟨v, O, Or, e1, rv, pm, nx, put⟩ := l0.sl.nth n.1 nd.1 hx
    have ndO := List.nodup_append.mp (pm.nodup_iff.mp nd.1)
    split at e
    · rename_i l rest es
      split at e
      · rename_i y ey
        obtain ⟨a, h1, h2⟩ := split_rp rv es
        obtain ⟨w, Oc, Or2, e2, rc, pm2, nc, put2⟩ := l0.ob.nth n.2 nd.2.1 ey
        have : w = .ref a := by
          rw [List.getElem?_map, h1] at e2
          exact (Option.some.inj e2).symm
        subst this
        obtain ⟨vz, Oz, Or3, rr, rz, pm3, nz, put3⟩ := path_rp rc nc (List.nodup_append.mp (pm2.nodup_iff.mp nd.2.1)).1 e
        refine ⟨v, vz, Oz, A ++ (Or3 ++ Or2), e1, h2 _ rr, rz, ?_, nz, fun H' F' l' z' s' Oz' hl p wm hF q ep => ?_⟩
        · have : (A ++ B).Perm (A ++ (Oz ++ (Or3 ++ Or2))) := List.Perm.append_left A (pm2.trans (by rw [← List.append_assoc]; exact List.Perm.append_right Or2 pm3))
          exact this.trans pmid
        · have hlB : l' ∈ B := pm2.mem_iff.mpr (List.mem_append_left _ (pm3.mem_iff.mpr (List.mem_append_left _ hl)))
          have hn : ∀ a, Fz R (A ++ B) a → H a ≠ none → a ≠ l' := fun a f _ e => f.1 (List.mem_append_right _ (e ▸ hlB))
          unfold putF at ep
          rw [hx] at ep
          simp only [es, ey] at ep
          obtain ⟨y', ey', rfl⟩ := Option.map_eq_some_iff.mp ep
          obtain ⟨Oc', q1, q2⟩ := put3 H' F' l' z' y' Oz' hl p wm hF hn q ey'
          obtain ⟨B', q3, q4⟩ := put2 H' F' l' y' Oc' (pm3.mem_iff.mpr (List.mem_append_left _ hl)) p wm hF hn q1
          refine ⟨A, B', l0.sl.pres p wm (fun _ _ e => e) hF (fun a f ne w => hn a f ne (List.mem_singleton.mp w)) (fun a z w => nd.2.2 a z l' hlB (List.mem_singleton.mp w)) (.inr n.1), q3, ?_⟩
          have : (A ++ B').Perm (A ++ (Oz' ++ (Or3 ++ Or2))) := List.Perm.append_left A (q4.trans (by rw [← List.append_assoc]; exact List.Perm.append_right Or2 q2))
          exact this.trans pmid
      · cases e
    · rename_i es
      obtain ⟨vz, Oz, Or3, rr, rz, pm3, nz, put3⟩ := path_rp rv nx ndO.1 e
      refine ⟨v, vz, Oz, Or3 ++ Or ++ B, e1, rr, rz, ?_, nz, fun H' F' l' z' s' Oz' hl p wm hF q ep => ?_⟩
      · have : (A ++ B).Perm ((Oz ++ (Or3 ++ Or)) ++ B) := List.Perm.append_right B (pm.trans (by rw [← List.append_assoc]; exact List.Perm.append_right Or pm3))
        rw [List.append_assoc] at this
        exact this
      · have hlO : l' ∈ O := pm3.mem_iff.mpr (List.mem_append_left _ hl)
        have hlA : l' ∈ A := pm.mem_iff.mpr (List.mem_append_left _ hlO)
        have hn : ∀ a, Fz R (A ++ B) a → H a ≠ none → a ≠ l' := fun a f _ e => f.1 (List.mem_append_left _ (e ▸ hlA))
        unfold putF at ep
        rw [hx] at ep
        simp only [es] at ep
        obtain ⟨x', ex', rfl⟩ := Option.map_eq_some_iff.mp ep
        obtain ⟨O', q1, q2⟩ := put3 H' F' l' z' x' Oz' hl p wm hF hn q ex'
        obtain ⟨A', q3, q4⟩ := put H' F' l' x' O' hlO p wm hF hn q1
        refine ⟨A', B, q3, l0.ob.pres p wm (fun _ _ e => e) hF (fun a f ne w => hn a f ne (List.mem_singleton.mp w)) (fun a z w => nd.2.2 l' hlA a z (List.mem_singleton.mp w).symm) (.inr n.2), ?_⟩
        have : (A' ++ B).Perm ((Oz' ++ (Or3 ++ Or)) ++ B) := List.Perm.append_right B (q4.trans (by rw [← List.append_assoc]; exact List.Perm.append_right Or q2))
        rw [List.append_assoc] at this
        exact this
  · cases e
end

/-! ### the expression of a path -/
def tPth (Y : Yx) (i : Nat) (fp : LS → Res (List PyData)) : TE := fun vs H Q => ∃ s R m A B ds v vz, LI Y.K H R vs s m A B ∧ fp s = .ok ds ∧ vs[i]? = some (some v) ∧ Reach Y.K H v ds vz ∧ ∀ H' m' A' B', Stp Y.K H R vs s m A B false H' s m' A' B' [] → Q vz H'
abbrev SP (Y : Yx) (X : Cx) (i : Nat) (fp : LS → Res (List PyData)) (e : Expr) : Prop := PE X e (tPth Y i fp)
def rStepR (K : PySem.W.Frag) : R2 := fun x y H Q => ∃ d z, Reach K H x [d] z ∧ RD K H y d [] ∧ Q z H
section
variable {Y : Yx} {X : Cx} {ea eb : Expr} {b : Bool} {fb : EvF} {fp : LS → Res (List PyData)} {i : Nat} {pos : Pos}
theorem ix_step (hu : X.A.units + 64 < cLine) : IxR X (rStepR X.K) := by
  intro value slice pins s σ H x y v u Q I rx ry h hs
  obtain ⟨d, z, rc, rd, q⟩ := h
  cases rc with
  | lst h1 e1 r1 =>
    cases r1
    cases rd
    exact ix_list value slice pins s σ H _ _ v u Q I rx ry ⟨_, _, _, _, rfl, rfl, .inl (.inl h1), e1, q⟩ hs
  | @dic a xs _ kk w _ _ h1 ek e1 r1 =>
    cases r1
    have hy := keyOf_rd rd ek
    subst hy
    cases rx
    have g : DGet H a (kV kk) (some z) := .inl ⟨xs, kk, .inl h1, rfl, e1.symm⟩
    exact sub_any (dict_typeIs I g) PySem.F.slot_dict_getitem.lookup hs (d_getItem (by omega) I g ry fun w' s' I' r' => ⟨z, H, I', r', q⟩)
theorem sp_name {x : Str} (hN : X.N[i]? = some x) (hv : Vis X.env.scope x) (hd : (x == ("__debug__" : Str)) = false) (hcd : (x == ("__classdict__" : Str)) = false) : SP Y X i (fun _ => .ok []) (.Name x pos) := by
  refine PEw (pe_var hN hv hd hcd) fun vs H Q h => ?_
  obtain ⟨s, R, m, A, B, ds, v, vz, l, e, ev, rc, k⟩ := h
  cases e
  have e : v = vz := by cases rc; rfl
  rw [e] at ev
  exact ⟨vz, ev, k H m A B (Stp.refl l)⟩
theorem sp_ix (hK : X.K = Y.K) (hu : X.A.units + 64 < cLine) (ha : SP Y X i fp ea) (hb : SE Y X false fb eb) (hs : PlainIx eb) : SP Y X i (snocP fp fb) (.Subscript ea eb pos) := by
  refine PEw (pe_ix (ix_step hu) ha hb hs) fun vs H Q h => ?_
  obtain ⟨s, R, m, A, B, ds, v, vz, l, e, ev, rc, k⟩ := h
  unfold snocP at e
  cases e1 : fp s with
  | exc c ps s' => rw [e1] at e; cases e
  | stuck => rw [e1] at e; cases e
  | ok ds1 =>
    rw [e1] at e
    simp only [Res.bind] at e
    cases e2 : fb s with
    | exc c ps s' => rw [e2] at e; cases e
    | stuck => rw [e2] at e; cases e
    | ok p =>
      rw [e2] at e
      simp only at e
      obtain ⟨x, s2⟩ := p
      split at e
      · rename_i d ex
        simp only at ex
        subst ex
        cases e
        obtain ⟨w, r1, r2⟩ := rc.split
        refine ⟨s, R, m, A, B, ds1, v, w, l, e1, ev, r1, fun H1 m1 A1 B1 x1 => ?_⟩
        refine ⟨s, Rv R [], m1, A1, B1, x1.li, (fun z => nomatch z), ?_⟩
        rw [e2]
        intro y H2 m2 A2 B2 P x2 ry
        have hs2 : s2 = s := (x2.ef rfl).1
        simp only at x2
        rw [hs2] at x2
        have x12 := x1.seq x2.drop
        have p12 := ((x12.ef rfl).2)
        cases ry with
        | @imm _ _ as rd f =>
          have r2' := r2.pres p12
          have rd' : RD X.K H2 y d [] := by
            rw [hK]
            cases r2' with
            | lst _ _ _ => cases rd; exact .int _
            | dic _ ek _ _ =>
              cases d <;> simp [keyOf] at ek
              · cases rd; exact .int _
              · cases rd; exact .str _
          exact ⟨d, vz, by rw [hK]; exact r2', rd', k H2 m2 A2 B2 x12⟩
      · cases e
theorem rd_conv {vs : L2.St} {H : Hp} {Q : VK} (h : tG Y b (relV Y) (rdE i fp) vs H Q) : tPth Y i fp vs H Q := by
  obtain ⟨s, R, m, A, B, l, n, h⟩ := h
  unfold rdE at h
  cases e1 : fp s with
  | exc c ps s' => rw [e1] at h; exact h.elim
  | stuck => rw [e1] at h; exact h.elim
  | ok ds =>
    rw [e1] at h
    replace h : Post Y H R vs s m A B b (relV Y) (match s.sl[i]? with
      | some (some x) => match getP x ds with
        | some z => match readV s.ob z with
          | some y => Res.ok (y, s)
          | none => .stuck
        | none => .stuck
      | _ => .stuck) Q := h
    split at h
    · rename_i x hx
      split at h
      · rename_i z ez
        split at h
        · rename_i y ey
          obtain ⟨v, P, ev, rv, _⟩ := l.sl.get hx
          obtain ⟨vz, Oz, rc, rz⟩ := get_rp rv ez
          refine ⟨s, R, m, A, B, ds, v, vz, l, e1, ev, rc, fun H' m' A' B' x1 => ?_⟩
          refine h vz H' m' A' B' [] (x1.any fun _ => rfl) ?_
          have r2 := readV_rp rz l.ob ey
          have := (Stp.refl (b := false) l).keep (by rw [List.append_nil]; exact r2) (by rw [Rv_nil]; exact x1) (.inl rfl)
          simpa using this
        · exact h.elim
      · exact h.elim
    · exact h.elim
theorem se_rd (ha : SP Y X i fp ea) : SE Y X b (rdE i fp) ea := PEw ha fun vs H Q h => rd_conv h
theorem frz_conv {fa : EvF} {vs : L2.St} {H : Hp} {Q : VK} (h : tG Y b (relV Y) (frzE fa) vs H Q) : tG Y b (relV Y) fa vs H Q := by
  obtain ⟨s, R, m, A, B, l, n, h⟩ := h
  refine ⟨s, R, m, A, B, l, n, h.split id fun p hp h1 y H1 m1 A1 B1 P x1 r1 => ?_⟩
  by_cases hn : p.1.nl = true
  · rw [if_pos hn] at h1
    cases e : p.1.dat0 with
    | none => rw [e] at h1; exact h1.elim
    | some d =>
      rw [e] at h1
      obtain ⟨as, rd, f⟩ := r1.rd0 e
      refine h1 y H1 m1 A1 B1 [] x1.drop (.imm rd fun a z => ?_)
      rw [List.append_nil]
      rcases f a z with w | w | w
      · exact ⟨fun u => w.1 (List.mem_append_left _ u), w.2⟩
      · exact ⟨fun u => x1.disj a u w, x1.nr a w⟩
      · rw [hn] at w; cases w
  · rw [if_neg hn] at h1; exact h1.elim
theorem se_frz {fa : EvF} (ha : SE Y X b fa ea) : SE Y X b (frzE fa) ea := PEw ha fun vs H Q h => frz_conv h
end
end MP
/-! MP.22: own things at paths: changed -/
namespace MP
open PySem PySem.Spec PyProof.Rows L2

theorem Reach.det {K : PySem.W.Frag} {H : Hp} {v a : V} {ds : List PyData} (r : Reach K H v ds a) : ∀ {b : V}, Reach K H v ds b → a = b := by
  induction r with
  | nil => intro b q; cases q; rfl
  | lst h e _ ih =>
    intro b q
    cases q with
    | lst h' e' q => rw [h] at h'; cases h'; rw [e] at e'; cases e'; exact ih q
    | dic h' ek e' q => rw [h] at h'; cases h'
  | dic h ek e _ ih =>
    intro b q
    cases q with
    | lst h' e' q => rw [h] at h'; cases h'
    | dic h' ek' e' q => rw [h] at h'; cases h'; rw [ek] at ek'; cases ek'; rw [e] at e'; cases e'; exact ih q

/-! nothing lent comes in -/
theorem nls_at {xs : List LV} {j : Nat} {c : LV} (n : LV.nls xs = true) (e : xs[j]? = some c) : c.nl = true := by
  induction xs generalizing j with
  | nil => simp at e
  | cons x xs ih =>
    simp only [LV.nls, Bool.and_eq_true] at n
    cases j with
    | zero => simp at e; subst e; exact n.1
    | succ j => exact ih n.2 (by simpa using e)
theorem nls_set {xs : List LV} {j : Nat} {c : LV} (n : LV.nls xs = true) (nc : c.nl = true) : LV.nls (xs.set j c) = true := by
  induction xs generalizing j with
  | nil => simpa using n
  | cons x xs ih =>
    simp only [LV.nls, Bool.and_eq_true] at n
    cases j with
    | zero => simp [LV.nls, nc, n.2]
    | succ j => simp [LV.nls, n.1, ih n.2]
theorem nlk_set {ks : List (Key × LV)} {k : Key} {c : LV} (n : LV.nlk ks = true) (nc : c.nl = true) : LV.nlk (setK ks k c) = true := by
  induction ks with
  | nil => simp [setK, LV.nlk, nc]
  | cons x xs ih =>
    obtain ⟨k', x⟩ := x
    simp only [LV.nlk, Bool.and_eq_true] at n
    unfold setK
    split <;> simp [LV.nlk, nc, n.1, n.2, ih n.2]
theorem nlk_look {ks : List (Key × LV)} {k : Key} {c : LV} (n : LV.nlk ks = true) (e : lookK ks k = some c) : c.nl = true := by
  induction ks with
  | nil => simp [lookK] at e
  | cons x xs ih =>
    obtain ⟨k', x⟩ := x
    simp only [LV.nlk, Bool.and_eq_true] at n
    unfold lookK at e
    split at e
    · cases e; exact n.1
    · exact ih n.2 e
theorem stepL_nl {x c : LV} {d : PyData} (e : stepL x d = some c) (n : x.nl = true) : c.nl = true := by
  unfold stepL at e
  split at e
  · obtain ⟨j, _, ec, _⟩ := atI_two (vs := (List.replicate _ ())) (by simp; rfl) e
    exact nls_at (by simpa [LV.nl] using n) ec
  · split at e
    · exact nlk_look (by simpa [LV.nl] using n) e
    · cases e
  · cases e
theorem putL_nl {x c x' : LV} {d : PyData} (e : putL x d c = some x') (n : x.nl = true) (nc : c.nl = true) : x'.nl = true := by
  unfold putL at e
  split at e
  · obtain ⟨j, _, rfl⟩ := Option.map_eq_some_iff.mp e
    simpa [LV.nl] using nls_set (by simpa [LV.nl] using n) nc
  · obtain ⟨j, _, rfl⟩ := Option.map_eq_some_iff.mp e
    simpa [LV.nl] using nlk_set (by simpa [LV.nl] using n) nc
  · cases e
theorem putP_nl : ∀ {ds : List PyData} {x z x' : LV}, putP x ds z = some x' → x.nl = true → z.nl = true → x'.nl = true
  | [], x, z, x', e, _, nz => by unfold putP at e; cases e; exact nz
  | d :: ds, x, z, x', e, n, nz => by
    unfold putP at e
    split at e
    · rename_i c ec
      split at e
      · rename_i c' ec'
        exact putL_nl e n (putP_nl ec' (stepL_nl ec n) nz)
      · cases e
    · cases e
theorem nlS_at {sl : List (Option LV)} {i : Nat} {x : LV} (n : nlS sl = true) (e : sl[i]? = some (some x)) : x.nl = true := by
  induction sl generalizing i with
  | nil => simp at e
  | cons z zs ih =>
    cases i with
    | zero => simp at e; subst e; simp [nlS] at n; exact n.1
    | succ i =>
      refine ih ?_ (by simpa using e)
      cases z with
      | none => simpa [nlS] using n
      | some z => simp [nlS] at n; exact n.2
theorem putF_nl {s s' : LS} {i : Nat} {ds : List PyData} {z : LV} (e : putF s i ds z = some s') (n : nlL s = true) (nz : z.nl = true) : nlL s' = true := by
  simp only [nlL, Bool.and_eq_true] at n ⊢
  unfold putF at e
  split at e
  · rename_i x hx
    split at e
    · split at e
      · rename_i y ey
        obtain ⟨y', ey', rfl⟩ := Option.map_eq_some_iff.mp e
        exact ⟨n.1, nls_set n.2 (putP_nl ey' (nls_at n.2 ey) nz)⟩
      · cases e
    · obtain ⟨x', ex', rfl⟩ := Option.map_eq_some_iff.mp e
      exact ⟨nlS_set n.1 i _ fun y e => (by cases e; exact putP_nl ex' (nlS_at n.1 hx) nz), n.2⟩
  · cases e

structure MutR (K : PySem.W.Frag) (r : V → List V → Hp → VK → Prop) (g : LV → List LV → Option (LV × LV)) : Prop where
  lst : ∀ {z : LV} {args : List LV} {p : LV × LV}, g z args = some p → ∃ xs, z = .lst xs
  nl : ∀ {xs args : List LV} {z' y : LV}, g (.lst xs) args = some (z', y) → LV.nls xs = true → nlAll args = true → z'.nl = true ∧ y.nl = true
  ok : ∀ {H : Hp} {m : List Addr} {F : Addr → Prop} {a : Addr} {us vs : List V} {xs args : List LV} {O P : List Addr} {z' y : LV}, H a = some (.lst us) → Rps K H m F us xs O → Rps K H m F vs args P → g (.lst xs) args = some (z', y) →
    ∃ us' xs' yv O' Oy, z' = .lst xs' ∧ Rps K H m F us' xs' O' ∧ Rp K H m F yv y Oy ∧ Sub (Oy ++ O') (O ++ P) ∧ ∀ Q : VK, Q yv (upd H a (.lst us')) → r (.ref a) vs H Q

section
variable {Y : Yx} {X : Cx} {ea : Expr} {es : List Expr} {b bA bad : Bool} {fp : LS → Res (List PyData)} {fA : LS → Res (List LV × LS)} {i : Nat} {pos : Pos} {g : LV → List LV → Option (LV × LV)} {r : V → List V → Hp → VK → Prop}
/-- behind the change -/
theorem Stp.put {H H2 : Hp} {R : Addr → Prop} {vs : L2.St} {s s2 s' : LS} {m A B m2 A2 B2 P Or O' Oy Oz1 A3 B3 : List Addr} {a : Addr} {o : HO} (x : Stp Y.K H R vs s m A B b H2 s2 m2 A2 B2 P)
    (pm : (A2 ++ B2).Perm ((a :: Oz1) ++ Or)) (sb : Sub (Oy ++ O') (Oz1 ++ P)) (r1 : RpS Y.K (upd H2 a o) m2 (Fz R ((a :: O') ++ Or ++ Oy)) vs s'.sl A3) (r2 : Rps Y.K (upd H2 a o) m2 (Fz R ((a :: O') ++ Or ++ Oy)) (m2.map V.ref) s'.ob B3) (pm3 : (A3 ++ B3).Perm ((a :: O') ++ Or)) (hn : nlL s' = true) :
    Stp Y.K H R vs s m A B true (upd H2 a o) s' m2 A3 B3 Oy := by
  have nd2 := List.nodup_append.mp (pm.nodup_iff.mp x.li.nd)
  have inA : ∀ {b}, b ∈ (a :: Oz1) ++ Or → b ∈ A2 ++ B2 := fun z => pm.mem_iff.mpr z
  have aA : a ∈ A2 ++ B2 := inA (List.mem_append_left _ List.mem_cons_self)
  obtain ⟨naz, ndz⟩ := List.nodup_cons.mp nd2.1
  have ndZP : (Oz1 ++ P).Nodup := List.nodup_append.mpr ⟨ndz, x.nd, fun b h1 c h2 e => x.disj c (inA (List.mem_append_left _ (List.mem_cons_of_mem _ (e ▸ h1)))) h2⟩
  have ndS := List.nodup_append.mp (sb.nodup ndZP)
  have src : ∀ b, b ∈ Oy ∨ b ∈ O' → b ∈ Oz1 ∨ b ∈ P := fun b z => List.mem_append.mp (sb.mem (z.elim (List.mem_append_left _) (List.mem_append_right _)))
  have src2 : ∀ b, b ∈ Oy ∨ b ∈ O' → b ∈ A2 ++ B2 ∨ b ∈ P := fun b z => (src b z).imp (fun z => inA (List.mem_append_left _ (List.mem_cons_of_mem _ z))) id
  have na : ∀ b, b ∈ Oy ∨ b ∈ O' → b ≠ a := fun b z e => by
    rcases src b z with z | z
    · exact naz (e ▸ z)
    · exact x.disj a aA (e ▸ z)
  have nor : ∀ b, b ∈ Oy ∨ b ∈ O' → b ∉ Or := fun b z w => by
    rcases src b z with z | z
    · exact nd2.2.2 b (List.mem_cons_of_mem _ z) b w rfl
    · exact x.disj b (inA (List.mem_append_right _ w)) z
  have dm' : ∀ c, H2 c ≠ none → (upd H2 a o) c ≠ none := fun c n => by
    by_cases e : c = a
    · rw [e, upd_same]; exact fun z => nomatch z
    · rw [upd_ne e]; exact n
  have exO : ∀ b, b ∈ Oy ∨ b ∈ O' → H2 b ≠ none := fun b z => (src2 b z).elim (x.li.exists b) (x.ex b)
  have m3 : ∀ {b}, b ∈ A3 ++ B3 → b = a ∨ b ∈ O' ∨ b ∈ Or := fun z => by
    rcases List.mem_append.mp (pm3.mem_iff.mp z) with z | z
    · exact (List.mem_cons.mp z).imp id .inl
    · exact .inr (.inr z)
  have nRO : ∀ b, b ∈ A2 ++ B2 ∨ b ∈ P → ¬ R b := fun b z => z.elim (fun z w => x.li.nr b z (.inl w)) (x.nr b)
  have m3' : ∀ {b}, b ∈ A3 ++ B3 → b ∈ A2 ++ B2 ∨ b ∈ P := fun z => by
    rcases m3 z with z | z | z
    · rw [z]; exact .inl aA
    · exact src2 _ (.inr z)
    · exact .inl (inA (List.mem_append_right _ z))
  have F1 : ∀ b, Fz R ((a :: O') ++ Or ++ Oy) b → Fz (Rv R Oy) (A3 ++ B3) b := fun b f => ⟨fun w => f.1 (List.mem_append_left _ (pm3.mem_iff.mp w)), fun w => w.elim f.2 fun w => f.1 (List.mem_append_right _ w)⟩
  refine ⟨⟨?_, ?_, ?_, fun b z w => ?_, fun b z => ?_⟩, ndS.1, fun b z => nRO b (src2 b (.inl z)), fun b z => dm' b (exO b (.inl z)), ?_, fun c n => dm' c (x.dm c n), fun b z => ?_, x.mm, fun _ => hn, fun z => nomatch z⟩
  · exact r1.pres (W := []) Pres.refl (fun b z => nomatch z) (fun _ _ e => e) (fun a f _ => F1 a f) (fun _ _ _ z => nomatch z) (fun _ _ z => nomatch z) (.inl rfl)
  · exact r2.fz' F1
  · refine pm3.nodup_iff.mpr (List.nodup_append.mpr ⟨List.nodup_cons.mpr ⟨fun z => na a (.inr z) rfl, ndS.2.1⟩, nd2.2.1, fun b h1 c h2 e => ?_⟩)
    subst e
    rcases List.mem_cons.mp h1 with h1 | h1
    · rw [h1] at h2; exact nd2.2.2 a List.mem_cons_self a h2 rfl
    · exact nor b (.inr h1) h2
  · rcases w with w | w
    · exact nRO b (m3' z) w
    · rcases m3 z with z | z | z
      · exact na b (.inl w) z
      · exact ndS.2.2 b w b z rfl
      · exact nor b (.inl w) z
  · rcases z with z | z
    · exact dm' b (x.li.rs b (.inl z))
    · exact dm' b (exO b (.inl z))
  · exact x.pr.trans Pres.upd fun b z => by rw [List.mem_singleton.mp z]; exact x.gr a (.inl aA)
  · have up : b ∈ A2 ++ B2 ∨ b ∈ P → b ∈ A ++ B ∨ H b = none := fun w => w.elim (fun w => x.gr b (.inl w)) fun w => x.gr b (.inr w)
    exact up (z.elim m3' fun z => src2 b (.inl z))
theorem mut_conv {vs : L2.St} {H : Hp} {Q : VK} (hr : MutR Y.K r g) (hp : bad = false → bA = true → ∀ s, fp s = .ok []) (h : tG Y true (relV Y) (mutE i bad g fp fA) vs H Q) : tBM Y.K "list" r (tPth Y i fp) (tG Y bA (relVs Y) fA) vs H Q := by
  obtain ⟨s, R, m, A, B, l, n, h⟩ := h
  have n := n rfl
  unfold mutE at h
  cases hb : bad with
  | true => rw [hb] at h; exact h.elim
  | false =>
    rw [hb] at h
    simp only [Bool.false_eq_true, if_false] at h
    cases e1 : fp s with
    | exc c ps s' => rw [e1] at h; exact h.elim
    | stuck => rw [e1] at h; exact h.elim
    | ok ds =>
      rw [e1] at h
      simp only [noExc, Res.bind] at h
      cases e2 : getF s i ds with
      | none => rw [e2] at h; exact h.elim
      | some z0 =>
        rw [e2] at h
        cases z0 with
        | lst xs0 =>
          simp only [isLst, Bool.true_eq_false, if_false] at h
          obtain ⟨v, vz0, Oz0, Or0, ev, rc0, rz0, _, _, _⟩ := focus_rp l n e2
          cases rz0 with
          | @lst a us0 _ O0 hA0 rz0 =>
            refine ⟨s, R, m, A, B, ds, v, _, l, e1, ev, rc0, fun H1 m1 A1 B1 x1 => ⟨.inl ⟨rfl, us0, .inl (.inl ((x1.ef rfl).2 _ _ hA0 fun z => nomatch z))⟩, ?_⟩⟩
            refine ⟨s, Rv R [], m1, A1, B1, x1.li, fun _ => n, ?_⟩
            replace h : Post Y H R vs s m A B true (relV Y) ((fA s).bind fun q => match getF q.2 i ds with
              | some z => if nlAll q.1 then match g z q.1 with
                  | some (z', y) => match putF q.2 i ds z' with
                    | some s' => .ok (y, s')
                    | none => .stuck
                  | none => .stuck
                else .stuck
              | none => .stuck) Q := h
            refine Post.next (b := true) (b1 := false) (b2 := bA) x1 (fun z => by cases z) h fun p hq h2 ys H2 m2 A2 B2 P2 x2 r2 => ?_
            cases e3 : getF p.2 i ds with
            | none => rw [e3] at h2; exact h2.elim
            | some z =>
              rw [e3] at h2
              simp only at h2
              by_cases na : nlAll p.1 = true
              case neg => rw [if_neg na] at h2; exact h2.elim
              rw [if_pos na] at h2
              cases e4 : g z p.1 with
              | none => rw [e4] at h2; exact h2.elim
              | some q =>
                obtain ⟨z', y⟩ := q
                rw [e4] at h2
                simp only at h2
                cases e5 : putF p.2 i ds z' with
                | none => rw [e5] at h2; exact h2.elim
                | some s' =>
                  rw [e5] at h2
                  obtain ⟨xs, rfl⟩ := hr.lst e4
                  obtain ⟨v', vz, Oz, Or, ev', rc, rz, pm, nz, put⟩ := focus_rp x2.li (x2.nl n) e3
                  rw [ev] at ev'
                  cases ev'
                  have same : vz = .ref a := by
                    cases hba : bA with
                    | true =>
                      have e := hp hb hba s
                      rw [e1] at e
                      cases e
                      cases rc
                      cases rc0
                      rfl
                    | false => exact rc.det ((rc0.pres (x1.ef rfl).2).pres (x2.ef hba).2)
                  subst same
                  cases rz with
                  | @lst _ us _ Oz1 hA rz =>
                    have F0 : ∀ c, Fz (Rv (Rv R []) P2) (A2 ++ B2) c → Fz R (A2 ++ B2 ++ P2) c := fun c f => ⟨fun w => (List.mem_append.mp w).elim f.1 fun w => f.2 (.inr w), fun w => f.2 (.inl (.inl w))⟩
                    have F1 : ∀ c, Fz (Rv R []) (A2 ++ B2 ++ P2) c → Fz R (A2 ++ B2 ++ P2) c := fun c f => ⟨f.1, fun w => f.2 (.inl w)⟩
                    obtain ⟨us', xs', yv, O', Oy, rfl, rx, ry, sb, fin⟩ := hr.ok hA (rz.fz' F0) (r2.fz F1) e4
                    refine fin _ ?_
                    have xx := x1.seq x2
                    have e0 : [] ++ P2 = P2 := rfl
                    rw [e0] at xx
                    have nzx : LV.nls xs = true := by simpa [LV.nl] using nz
                    obtain ⟨nz', ny⟩ := hr.nl e4 nzx na
                    have nd2 := List.nodup_append.mp (pm.nodup_iff.mp x2.li.nd)
                    have inA : ∀ {b}, b ∈ (a :: Oz1) ++ Or → b ∈ A2 ++ B2 := fun z => pm.mem_iff.mpr z
                    have aA : a ∈ A2 ++ B2 := inA (List.mem_append_left _ List.mem_cons_self)
                    have src : ∀ b, b ∈ Oy ∨ b ∈ O' → b ∈ A2 ++ B2 ++ P2 := fun b z => (List.mem_append.mp (sb.mem (z.elim (List.mem_append_left _) (List.mem_append_right _)))).elim (fun z => List.mem_append_left _ (inA (List.mem_append_left _ (List.mem_cons_of_mem _ z)))) (List.mem_append_right _)
                    have F2 : ∀ c, Fz R (A2 ++ B2 ++ P2) c → Fz R ((a :: O') ++ Or ++ Oy) c := fun c f => ⟨fun w => f.1 (by
                      rcases List.mem_append.mp w with w | w
                      · rcases List.mem_append.mp w with w | w
                        · rcases List.mem_cons.mp w with w | w
                          · rw [w]; exact List.mem_append_left _ aA
                          · exact src c (.inr w)
                        · exact List.mem_append_left _ (inA (List.mem_append_right _ w))
                      · exact src c (.inl w)), f.2⟩
                    have pu : Pres [a] H2 (upd H2 a (.lst us')) := Pres.upd
                    have wa : WM [a] H2 := fun b z => by rw [List.mem_singleton.mp z]; exact .inl ⟨_, hA⟩
                    have naO : ∀ b, b ∈ Oy ∨ b ∈ O' → b ∉ [a] := fun b z w => by
                      have e := List.mem_singleton.mp w
                      rcases List.mem_append.mp (sb.mem (z.elim (List.mem_append_left _) (List.mem_append_right _))) with q | q
                      · exact (List.nodup_cons.mp nd2.1).1 (e ▸ q)
                      · exact x2.disj a aA (e ▸ q)
                    have nfa : ∀ c, Fz R (A2 ++ B2 ++ P2) c → H2 c ≠ none → c ∉ [a] := fun c f _ w => f.1 (by rw [List.mem_singleton.mp w]; exact List.mem_append_left _ aA)
                    have rx' : Rps Y.K (upd H2 a (.lst us')) m2 (Fz R ((a :: O') ++ Or ++ Oy)) us' xs' O' := rx.pres pu wa (fun _ _ e => e) (fun c f _ => F2 c f) nfa (fun b z => naO b (.inr z)) (.inr (by simpa [LV.nl] using nz'))
                    obtain ⟨A3, B3, q1, q2, q3⟩ := put (upd H2 a (.lst us')) (Fz R ((a :: O') ++ Or ++ Oy)) a (.lst xs') s' (a :: O') List.mem_cons_self pu wa (fun c f _ => F2 c (F0 c f)) (.lst upd_same rx') e5
                    have st := xx.put pm sb q1 q2 q3 (putF_nl e5 (x2.nl n) nz')
                    refine h2 yv _ m2 A3 B3 Oy st ?_
                    refine ry.pres pu wa (fun _ _ e => e) (fun c f _ => ?_) nfa (fun b z => naO b (.inl z)) (.inr ny)
                    have f2 := F2 c f
                    exact ⟨fun w => f2.1 ((List.mem_append.mp w).elim (fun w => List.mem_append_left _ (q3.mem_iff.mp w)) (List.mem_append_right _)), f2.2⟩
        | _ => exact h.elim
end
end MP
/-! MP.23: the changes of lists; o[k] = x; dict displays -/
namespace MP
open PySem PySem.Spec PyProof.Rows L2

theorem mutG_lst {op : MO} {z : LV} {args : List LV} {p : LV × LV} (e : mutG op z args = some p) : ∃ xs, z = .lst xs := by
  unfold mutG at e
  split at e <;> first | exact ⟨_, rfl⟩ | cases e
theorem nls_app {xs ys : List LV} (a : LV.nls xs = true) (b : LV.nls ys = true) : LV.nls (xs ++ ys) = true := by
  induction xs with
  | nil => exact b
  | cons x xs ih =>
    simp only [LV.nls, Bool.and_eq_true] at a
    simp [LV.nls, a.1, ih a.2]
theorem nls_take {xs : List LV} (a : LV.nls xs = true) : ∀ k : Nat, LV.nls (xs.take k) = true := by
  induction xs with
  | nil => intro k; simp [LV.nls]
  | cons x xs ih =>
    simp only [LV.nls, Bool.and_eq_true] at a
    intro k
    cases k with
    | zero => simp [LV.nls]
    | succ k => simp [LV.nls, a.1, ih a.2 k]
theorem nls_drop {xs : List LV} (a : LV.nls xs = true) : ∀ k : Nat, LV.nls (xs.drop k) = true := by
  induction xs with
  | nil => intro k; simp [LV.nls]
  | cons x xs ih =>
    simp only [LV.nls, Bool.and_eq_true] at a
    intro k
    cases k with
    | zero => simp [LV.nls, a.1, a.2]
    | succ k => simp [ih a.2 k]
theorem nls_imm (ds : List PyData) : LV.nls (ds.map LV.imm) = true := by induction ds <;> simp_all [LV.nls, LV.nl]
theorem nls_ints (ns : List Int) : LV.nls (ns.map fun n => LV.imm (.int n)) = true := by induction ns <;> simp_all [LV.nls, LV.nl]
theorem nls_erase {xs : List LV} (a : LV.nls xs = true) : ∀ k : Nat, LV.nls (xs.eraseIdx k) = true := by
  induction xs with
  | nil => intro k; simp [LV.nls]
  | cons x xs ih =>
    simp only [LV.nls, Bool.and_eq_true] at a
    intro k
    cases k with
    | zero => simp [a.2]
    | succ k => simp [LV.nls, a.1, ih a.2 k]
section
variable {K : PySem.W.Frag} {H : Hp} {m : List Addr} {F : Addr → Prop}
theorem Rps.app {us vs : List V} {xs ys : List LV} {O P : List Addr} (a : Rps K H m F us xs O) (b : Rps K H m F vs ys P) : Rps K H m F (us ++ vs) (xs ++ ys) (O ++ P) := by
  induction xs generalizing us O with
  | nil => cases a; exact b
  | cons x xs ih =>
    cases a with
    | cons r t =>
      rw [List.append_assoc]
      exact .cons r (ih t)
theorem Rps.imms {us : List V} {ds : List PyData} {as : List Addr} (r : RDs K H us ds as) (f : ∀ a ∈ as, F a) : Rps K H m F us (ds.map .imm) [] := by
  induction ds generalizing us as with
  | nil => cases r; exact .nil
  | cons d ds ih =>
    cases r with
    | cons r t => exact Rps.cons (O := []) (.imm r fun a z => f a (List.mem_append_left _ z)) (ih t fun a z => f a (List.mem_append_right _ z))
theorem Rps.one {vs : List V} {y : LV} {P : List Addr} (r : Rps K H m F vs [y] P) : ∃ v, vs = [v] ∧ Rp K H m F v y P := by
  cases r with
  | cons r t => cases t; rw [List.append_nil]; exact ⟨_, rfl, r⟩
theorem Rps.take {us : List V} {xs : List LV} {O : List Addr} (r : Rps K H m F us xs O) : ∀ k : Nat, ∃ O1 O2, Rps K H m F (us.take k) (xs.take k) O1 ∧ Rps K H m F (us.drop k) (xs.drop k) O2 ∧ O = O1 ++ O2 := by
  induction xs generalizing us O with
  | nil => cases r; intro k; exact ⟨[], [], by simpa using Rps.nil, by simpa using Rps.nil, rfl⟩
  | cons x xs ih =>
    cases r with
    | @cons v us _ _ O P r t =>
      intro k
      cases k with
      | zero => exact ⟨[], O ++ P, by simpa using Rps.nil, by simpa using Rps.cons r t, rfl⟩
      | succ k =>
        obtain ⟨O1, O2, h1, h2, e⟩ := ih t k
        exact ⟨O ++ O1, O2, by simpa using Rps.cons r h1, by simpa using h2, by rw [e, List.append_assoc]⟩
theorem Rps.erase {us : List V} {xs : List LV} {O : List Addr} (r : Rps K H m F us xs O) : ∀ {k : Nat} {y : LV}, xs[k]? = some y → ∃ v Oy O', us[k]? = some v ∧ Rp K H m F v y Oy ∧ Rps K H m F (us.eraseIdx k) (xs.eraseIdx k) O' ∧ O.Perm (Oy ++ O') := by
  induction xs generalizing us O with
  | nil => intro k y e; simp at e
  | cons x xs ih =>
    intro k y e
    cases r with
    | @cons v us _ _ O P r t =>
      cases k with
      | zero => simp at e; subst e; exact ⟨v, O, P, rfl, r, by simpa using t, List.Perm.refl _⟩
      | succ k =>
        obtain ⟨w, Oy, O', h1, h2, h3, h4⟩ := ih t (by simpa using e)
        refine ⟨w, Oy, O ++ O', by simpa using h1, h2, by simpa using Rps.cons r h3, ?_⟩
        exact (List.Perm.append_left O h4).trans pmid
theorem allInts_rp : ∀ {xs : List LV} {us : List V} {O : List Addr} {ns : List Int}, Rps K H m F us xs O → allInts xs = some ns → us = ns.map V.int ∧ O = []
  | [], _, _, ns, .nil, e => by cases e; exact ⟨rfl, rfl⟩
  | x :: xs, _, _, ns, .cons r t, e => by
    cases r with
    | @imm _ d _ r f =>
      cases d with
      | int k =>
        obtain ⟨ms, e1, rfl⟩ := Option.map_eq_some_iff.mp (show (allInts xs).map (k :: ·) = some ns from e)
        obtain ⟨rfl, rfl⟩ := allInts_rp t e1
        cases r
        exact ⟨rfl, rfl⟩
      | _ => cases e
    | _ => cases e
theorem ints_rp (ns : List Int) : Rps K H m F (ns.map V.int) (ns.map fun n => .imm (.int n)) [] := by
  induction ns with
  | nil => exact .nil
  | cons n ns ih => exact Rps.cons (O := []) (.imm (as := []) (.int n) fun _ z => nomatch z) ih
theorem non_rp : Rp K H m F .non (.imm .none) [] := .imm (as := []) .non fun _ z => nomatch z
end

def mutR (op : MO) : V → List V → Hp → VK → Prop := match op with
  | .append => rAppend
  | .extend => rExtend
  | .insert => fun x vs H Q => ∃ (l : Addr) (xs : List V) (i : Int) (y : V), x = .ref l ∧ vs = [.int i, y] ∧ H l = some (.lst xs) ∧ xs.length < sizeLine ∧ 0 ≤ i ∧ i < 2 ^ 63 ∧ Q .non (upd H l (.lst (xs.take i.toNat ++ [y] ++ xs.drop i.toNat)))
  | .remove => rRemI
  | .pop => fun x vs H Q => rPop x vs H Q ∨ rPopAt x vs H Q
theorem eq_append {xs args : List LV} {p : LV × LV} (e : mutG .append (.lst xs) args = some p) : ∃ y, args = [y] ∧ xs.length < sizeLine ∧ p = (.lst (xs ++ [y]), .imm .none) := by
  match args, e with
  | [], e => simp [mutG] at e
  | [y], e => simp [mutG] at e; exact ⟨y, rfl, e.1, e.2.symm⟩
  | _ :: _ :: _, e => simp [mutG] at e
theorem eq_extend {xs args : List LV} {p : LV × LV} (e : mutG .extend (.lst xs) args = some p) : (∃ ys, args = [.lst ys] ∧ xs.length + ys.length ≤ sizeLine ∧ p = (.lst (xs ++ ys), .imm .none)) ∨ ∃ ds, args = [.imm (.list ds)] ∧ xs.length + ds.length ≤ sizeLine ∧ p = (.lst (xs ++ ds.map .imm), .imm .none) := by
  match args, e with
  | [], e => simp [mutG] at e
  | [.lst ys], e => simp [mutG] at e; exact .inl ⟨ys, rfl, e.1, e.2.symm⟩
  | [.imm (.list ds)], e => simp [mutG] at e; exact .inr ⟨ds, rfl, e.1, e.2.symm⟩
  | [.imm .none], e | [.imm (.bool _)], e | [.imm (.int _)], e | [.imm (.str _)], e | [.imm (.tuple _)], e | [.imm (.dict _)], e | [.dic _], e | [.tup _], e | [.ref _], e | [.lent _], e => simp [mutG] at e
  | _ :: _ :: _, e => simp [mutG] at e
theorem eq_insert {xs args : List LV} {p : LV × LV} (e : mutG .insert (.lst xs) args = some p) : ∃ i y, args = [.imm (.int i), y] ∧ (xs.length < sizeLine ∧ 0 ≤ i ∧ i < 2 ^ 63) ∧ p = (.lst (xs.take i.toNat ++ [y] ++ xs.drop i.toNat), .imm .none) := by
  match args, e with
  | [], e => simp [mutG] at e
  | [_], e => simp [mutG] at e
  | [x, y], e =>
    match x, e with
    | .imm (.int i), e =>
      replace e : (if decide (xs.length < sizeLine ∧ 0 ≤ i ∧ i < 2 ^ 63) = true then some (LV.lst (xs.take i.toNat ++ [y] ++ xs.drop i.toNat), LV.imm .none) else none) = some p := e
      by_cases h : decide (xs.length < sizeLine ∧ 0 ≤ i ∧ i < 2 ^ 63) = true
      · rw [if_pos h] at e
        exact ⟨i, y, rfl, of_decide_eq_true h, (Option.some.inj e).symm⟩
      · rw [if_neg h] at e; cases e
    | .imm .none, e | .imm (.bool _), e | .imm (.list _), e | .imm (.str _), e | .imm (.tuple _), e | .imm (.dict _), e | .dic _, e | .tup _, e | .ref _, e | .lent _, e | .lst _, e => simp [mutG] at e
  | _ :: _ :: _ :: _, e => simp [mutG] at e
theorem eq_remove {xs args : List LV} {p : LV × LV} (e : mutG .remove (.lst xs) args = some p) : ∃ k ns, args = [.imm (.int k)] ∧ allInts xs = some ns ∧ k ∈ ns ∧ p = (.lst ((ns.erase k).map fun n => .imm (.int n)), .imm .none) := by
  match args, e with
  | [], e => simp [mutG] at e
  | [.imm (.int k)], e =>
    replace e : (match allInts xs with
      | some ns => if k ∈ ns then some (LV.lst ((ns.erase k).map fun n => .imm (.int n)), LV.imm .none) else none
      | none => none) = some p := e
    cases h : allInts xs with
    | none => rw [h] at e; cases e
    | some ns =>
      rw [h] at e
      simp only at e
      by_cases hk : k ∈ ns
      · rw [if_pos hk] at e; exact ⟨k, ns, rfl, rfl, hk, (Option.some.inj e).symm⟩
      · rw [if_neg hk] at e; cases e
  | [.imm .none], e | [.imm (.bool _)], e | [.imm (.list _)], e | [.imm (.str _)], e | [.imm (.tuple _)], e | [.imm (.dict _)], e | [.dic _], e | [.tup _], e | [.ref _], e | [.lent _], e | [.lst _], e => simp [mutG] at e
  | _ :: _ :: _, e => simp [mutG] at e
theorem eq_pop {xs args : List LV} {p : LV × LV} (e : mutG .pop (.lst xs) args = some p) : (args = [] ∧ ∃ y, xs[xs.length - 1]? = some y ∧ p = (.lst xs.dropLast, y)) ∨ ∃ i j y, args = [.imm (.int i)] ∧ (-(2 ^ 63) ≤ i ∧ i < 2 ^ 63) ∧ ixN xs.length i = some j ∧ xs[j]? = some y ∧ p = (.lst (xs.eraseIdx j), y) := by
  match args, e with
  | [], e =>
    replace e : (match xs[xs.length - 1]? with
      | some y => some (LV.lst xs.dropLast, y)
      | none => none) = some p := e
    cases h : xs[xs.length - 1]? with
    | none => rw [h] at e; cases e
    | some y => rw [h] at e; cases e; exact .inl ⟨rfl, y, rfl, rfl⟩
  | [.imm (.int i)], e =>
    replace e : (if decide (-(2 ^ 63) ≤ i ∧ i < 2 ^ 63) = true then match ixN xs.length i with
      | some j => match xs[j]? with
        | some y => some (LV.lst (xs.eraseIdx j), y)
        | none => none
      | none => none
    else none) = some p := e
    by_cases hi : decide (-(2 ^ 63) ≤ i ∧ i < 2 ^ 63) = true
    · rw [if_pos hi] at e
      cases h : ixN xs.length i with
      | none => rw [h] at e; cases e
      | some j =>
        rw [h] at e
        simp only at e
        cases h2 : xs[j]? with
        | none => rw [h2] at e; cases e
        | some y => rw [h2] at e; cases e; exact .inr ⟨i, j, y, rfl, of_decide_eq_true hi, h, h2, rfl⟩
    · rw [if_neg hi] at e; cases e
  | [.imm .none], e | [.imm (.bool _)], e | [.imm (.list _)], e | [.imm (.str _)], e | [.imm (.tuple _)], e | [.imm (.dict _)], e | [.dic _], e | [.tup _], e | [.ref _], e | [.lent _], e | [.lst _], e => simp [mutG] at e
  | _ :: _ :: _, e => simp [mutG] at e

theorem mutG_nl {op : MO} {xs args : List LV} {z' y : LV} (e : mutG op (.lst xs) args = some (z', y)) (n : LV.nls xs = true) (na : nlAll args = true) : z'.nl = true ∧ y.nl = true := by
  cases op with
  | append =>
    obtain ⟨y, rfl, _, e⟩ := eq_append e
    cases e
    simp only [nlAll, List.all_cons, List.all_nil, Bool.and_true] at na
    exact ⟨by simpa [LV.nl] using nls_app n (show LV.nls [_] = true by simp [LV.nls, na]), rfl⟩
  | extend =>
    rcases eq_extend e with ⟨ys, rfl, hz, e⟩ | ⟨ds, rfl, hz, e⟩
    · cases e
      simp only [nlAll, List.all_cons, List.all_nil, Bool.and_true] at na
      exact ⟨by simpa [LV.nl] using nls_app n (by simpa [LV.nl] using na), rfl⟩
    · cases e
      exact ⟨by simpa [LV.nl] using nls_app n (nls_imm ds), rfl⟩
  | insert =>
    obtain ⟨i, x, rfl, _, e⟩ := eq_insert e
    cases e
    simp only [nlAll, List.all_cons, List.all_nil, Bool.and_true, Bool.and_eq_true] at na
    have h : LV.nls (xs.take i.toNat ++ ([x] ++ xs.drop i.toNat)) = true := nls_app (nls_take n i.toNat) (nls_app (show LV.nls [x] = true by simp [LV.nls, na.2]) (nls_drop n i.toNat))
    rw [← List.append_assoc] at h
    exact ⟨h, rfl⟩
  | remove =>
    obtain ⟨k, ns, rfl, _, _, e⟩ := eq_remove e
    cases e
    exact ⟨nls_ints _, rfl⟩
  | pop =>
    rcases eq_pop e with ⟨rfl, w, hy, e⟩ | ⟨i, j, w, rfl, hi, hj, hy, e⟩
    · cases e
      refine ⟨?_, nls_at n hy⟩
      rw [List.dropLast_eq_take]
      exact nls_take n _
    · cases e
      exact ⟨nls_erase n _, nls_at n hy⟩
theorem mutr {K : PySem.W.Frag} : ∀ op : MO, MutR K (mutR op) (mutG op)
  | .append => ⟨mutG_lst, mutG_nl, fun {H m F a us vs xs args O P z' y} hA rx ra e => by
    obtain ⟨x, rfl, hz, e⟩ := eq_append e
    cases e
    obtain ⟨v, rfl, r⟩ := ra.one
    refine ⟨us ++ [v], _, .non, O ++ P, [], rfl, ?_, non_rp, Sub.refl _, fun Q q => ⟨a, us, v, rfl, rfl, hA, by rw [rx.length]; exact hz, q⟩⟩
    have := rx.app (Rps.cons r .nil)
    rwa [List.append_nil] at this⟩
  | .extend => ⟨mutG_lst, mutG_nl, fun {H m F a us vs xs args O P z' y} hA rx ra e => by
    rcases eq_extend e with ⟨ys, rfl, hz, e⟩ | ⟨ds, rfl, hz, e⟩
    · cases e
      obtain ⟨v, rfl, r⟩ := ra.one
      cases r with
      | @lst c ws _ P1 hB ry =>
        exact ⟨us ++ ws, _, .non, O ++ P1, [], rfl, rx.app ry, non_rp, ⟨[c], by
          show (O ++ c :: P1).Perm (c :: (O ++ P1))
          exact List.perm_middle⟩, fun Q q => ⟨a, c, us, ws, rfl, rfl, hA, hB, by rw [rx.length, ry.length]; exact hz, q⟩⟩
    · cases e
      obtain ⟨v, rfl, r⟩ := ra.one
      cases r with
      | @imm _ _ as rd f =>
        cases rd with
        | @lst c ws _ as hB rs =>
          have ry := Rps.imms (m := m) rs fun b z => f b (List.mem_cons_of_mem _ z)
          have := rx.app ry
          rw [List.append_nil] at this
          exact ⟨us ++ ws, _, .non, O, [], rfl, this, non_rp, ⟨[], by simp⟩, fun Q q => ⟨a, c, us, ws, rfl, rfl, hA, hB, by rw [rx.length, rs.len]; exact hz, q⟩⟩⟩
  | .insert => ⟨mutG_lst, mutG_nl, fun {H m F a us vs xs args O P z' y} hA rx ra e => by
    obtain ⟨i, x, rfl, ⟨hz, h0, h1⟩, e⟩ := eq_insert e
    cases e
    cases ra with
    | cons r t =>
      obtain ⟨v, rfl, r2⟩ := t.one
      cases r with
      | imm r f =>
        cases r
        obtain ⟨O1, O2, q1, q2, rfl⟩ := rx.take i.toNat
        refine ⟨us.take i.toNat ++ [v] ++ us.drop i.toNat, _, .non, _, [], rfl, (q1.app (Rps.cons r2 .nil)).app q2, non_rp, ⟨[], ?_⟩, fun Q q => ⟨a, us, i, v, rfl, rfl, hA, by rw [rx.length]; exact hz, h0, h1, q⟩⟩
        simp only [List.nil_append, List.append_nil]
        rw [List.append_assoc, List.append_assoc]
        exact List.Perm.append_left O1 List.perm_append_comm⟩
  | .remove => ⟨mutG_lst, mutG_nl, fun {H m F a us vs xs args O P z' y} hA rx ra e => by
    obtain ⟨k, ns, rfl, hn, hk, e⟩ := eq_remove e
    cases e
    obtain ⟨rfl, rfl⟩ := allInts_rp rx hn
    obtain ⟨v, rfl, r⟩ := ra.one
    cases r with
    | imm r f =>
      cases r
      obtain ⟨j, hj, h1, h2, h3⟩ := first_at hk
      refine ⟨(ns.erase k).map V.int, _, .non, [], [], rfl, ints_rp _, non_rp, Sub.refl _, fun Q q => ⟨a, ns, k, j, rfl, rfl, hA, h1, h2, ?_⟩⟩
      rw [h3]; exact q⟩
  | .pop => ⟨mutG_lst, mutG_nl, fun {H m F a us vs xs args O P z' y} hA rx ra e => by
    rcases eq_pop e with ⟨rfl, w, hy, e⟩ | ⟨i, j, w, rfl, hi, hj, hy, e⟩
    · cases e
      cases ra
      obtain ⟨v, Oy, O', h1, h2, h3, h4⟩ := rx.erase hy
      have e1 : xs.eraseIdx (xs.length - 1) = xs.dropLast := PyProof.Rows.Copied.eraseIdx_last xs
      have e2 : us.eraseIdx (xs.length - 1) = us.dropLast := by rw [← rx.length]; exact PyProof.Rows.Copied.eraseIdx_last us
      rw [e1, e2] at h3
      exact ⟨us.dropLast, _, v, O', Oy, rfl, h3, h2, ⟨[], by rw [List.append_nil]; exact h4⟩, fun Q q => .inl ⟨a, us, v, rfl, rfl, hA, by rw [rx.length]; exact h1, q⟩⟩
    · cases e
      obtain ⟨u, rfl, r⟩ := ra.one
      cases r with
      | imm r f =>
        cases r
        obtain ⟨v, Oy, O', h1, h2, h3, h4⟩ := rx.erase hy
        exact ⟨us.eraseIdx j, _, v, O', Oy, rfl, h3, h2, ⟨[], by rw [List.append_nil]; exact h4⟩, fun Q q => .inr ⟨a, us, i, j, v, rfl, rfl, hA, hi.1, hi.2, (ixN_seq (by rw [rx.length]; exact hj)).1, h1, q⟩⟩⟩
end MP
/-! MP.24: calls of methods that change; o[k] = x; dict displays -/
namespace MP
open PySem PySem.Spec PyProof.Rows L2

section
variable {Y : Yx} {X : Cx} {ea eo : Expr} {es : List Expr} {b bA bad be : Bool} {fp : LS → Res (List PyData)} {fA : LS → Res (List LV × LS)} {fe fk : EvF} {i : Nat} {io : List Nat} {pos : Pos} {apos cpos : Pos}
theorem mtr_append {X : Cx} : MtR X "list.append" (mutR .append) := mt_append
theorem mtr_extend {X : Cx} : MtR X "list.extend" (mutR .extend) := mt_extend
theorem mtr_insert {X : Cx} : MtR X "list.insert" (mutR .insert) := mt_insert
theorem mtr_remove {X : Cx} : MtR X "list.remove" (mutR .remove) := mt_remove
theorem mtr_pop {X : Cx} : MtR X "list.pop" (mutR .pop) := MtR.or mt_pop mt_popAt
theorem se_mut {op : MO} {name : Str} {id : String} (hK : X.K = Y.K) (pa : PlainAttrs "list") (slot : Slot "list" name id) (hty : typeOf (.builtin id) = pure (.type "method_descriptor")) (hm : MtR X id (mutR op)) (ho : SP Y X i fp eo) (ha : SA Y X bA fA (ea :: es)) (hp : bad = false → bA = true → ∀ s, fp s = .ok [])
    (hbase : attributeBase eo name X.env (eval eo X.env) = eval eo X.env)
    (hfew : ((backTo cpos (starEach (ea :: es) X.env)).all (fun x => !x.1) && (backToKw cpos (keywordEach [] X.env)).all (fun x => x.1.isSome)
      && decide ((ea :: es).length + ([] : List Keyword).length + (if ([] : List Keyword).isEmpty then 0 else 1) < 30)) = true)
    (hline : (apos.endLine == cpos.line) = true) (hs : starEach (ea :: es) X.env = (false, eval ea X.env) :: starEach es X.env) (hplain : (backTo cpos (starEach es X.env)).any (·.1) = false) :
    SE Y X true (mutE i bad (mutG op) fp fA) (.Call (.Attribute eo name apos) (ea :: es) [] cpos) :=
  PEw (pe_bm pa slot hty hm ho ha hbase hfew hline hs hplain) fun vs H Q h => by rw [hK]; exact mut_conv (mutr op) hp h
theorem se_mut0 {op : MO} {name : Str} {id : String} (hK : X.K = Y.K) (pa : PlainAttrs "list") (slot : Slot "list" name id) (hty : typeOf (.builtin id) = pure (.type "method_descriptor")) (hm : MtR X id (mutR op)) (ho : SP Y X i fp eo)
    (hbase : attributeBase eo name X.env (eval eo X.env) = eval eo X.env) (hline : (apos.endLine == cpos.line) = true) :
    SE Y X true (mutE i bad (mutG op) fp (fun s => .ok ([], s))) (.Call (.Attribute eo name apos) [] [] cpos) :=
  PEw (pe_bm0 pa slot hty hm ho hbase hline) fun vs H Q h => by
    rw [hK]
    have q := mut_conv (bA := false) (mutr op) (fun _ z => nomatch z) h
    obtain ⟨s, R, m, A, B, ds, v, vz, l, e, ev, rc, k⟩ := q
    refine ⟨s, R, m, A, B, ds, v, vz, l, e, ev, rc, fun H' m' A' B' x => ?_⟩
    obtain ⟨h1, s2, R2, m2, A2, B2, l2, n2, h2⟩ := k H' m' A' B' x
    exact ⟨h1, h2 [] H' m2 A2 B2 [] (Stp.refl l2) .nil⟩

/-! ### o[k] = x -/
def rSetA : TSet := fun o i v H Q => rSetL o i v H Q ∨ ∃ a kvs k, o = .ref a ∧ i = kV k ∧ H a = some (.dK kvs) ∧ kvs.length < sizeLine ∧ Q (upd H a (.dK (putK kvs k v)))
theorem set_any (hu : X.A.units + 64 < cLine) : PSet X rSetA := by
  intro pins s σ H o i v ov iv u Q I ro ri rv h
  rcases h with h | ⟨a, kvs, k, rfl, rfl, hA, hz, q⟩
  · exact set_list pins s σ H o i v ov iv u Q I ro ri rv h
  · cases ro
    exact d_setItem (by omega) I (DPut.k hA hz) ri rv fun s' I' => ⟨_, I', q⟩
theorem Rps.setv {K : PySem.W.Frag} {H : Hp} {m : List Addr} {F : Addr → Prop} {us : List V} {xs : List LV} {O P : List Addr} {v : V} {x : LV} (r : Rps K H m F us xs O) (q : Rp K H m F v x P) : ∀ {j : Nat}, j < xs.length → ∃ O', Rps K H m F (us.set j v) (xs.set j x) O' ∧ Sub O' (O ++ P) := by
  induction xs generalizing us O with
  | nil => intro j h; simp at h
  | cons y ys ih =>
    cases r with
    | @cons w ws _ _ O1 O2 r t =>
      intro j h
      cases j with
      | zero => exact ⟨P ++ O2, .cons q t, O1, by rw [List.append_assoc]; exact List.Perm.append_left O1 List.perm_append_comm⟩
      | succ j =>
        obtain ⟨O', h1, D, h2⟩ := ih t (by simpa using h)
        refine ⟨O1 ++ O', .cons r h1, D, ?_⟩
        rw [List.append_assoc]
        exact (List.Perm.append_left O1 h2).trans pmid
theorem putK_setK : ∀ {kvs : List (Key × V)} {k : Key} {v : V}, (kvs.filter fun p => decide (p.1 = k)).length ≤ 1 → putK kvs k v = setK kvs k v := by
  intro kvs k v
  have none_ : ∀ kvs : List (Key × V), (kvs.filter fun p => decide (p.1 = k)).length ≤ 0 → kvs.map (fun kv => if kv.1 = k then (kv.1, v) else kv) = kvs ∧ (kvs.any fun kv => decide (kv.1 = k)) = false := by
    intro kvs
    induction kvs with
    | nil => intro _; exact ⟨rfl, rfl⟩
    | cons p r ih =>
      intro h
      by_cases e : p.1 = k
      · simp [e] at h
      · simp only [List.filter_cons, e, decide_false] at h
        obtain ⟨h1, h2⟩ := ih h
        exact ⟨by simp [e, h1], by simp [e]; simpa using h2⟩
  induction kvs with
  | nil => intro _; rfl
  | cons p r ih =>
    intro h
    obtain ⟨k', w⟩ := p
    by_cases e : k' = k
    · have h' : (r.filter fun p => decide (p.1 = k)).length ≤ 0 := by
        simp [List.filter_cons, e] at h
        simpa using h
      obtain ⟨h1, h2⟩ := none_ r h'
      unfold putK setK
      rw [if_pos (by simp [e]), if_pos e, List.map_cons, if_pos e, h1]
    · have h' : (r.filter fun p => decide (p.1 = k)).length ≤ 1 := by simpa [List.filter_cons, e] using h
      have q := ih h'
      unfold setK
      rw [if_neg e, ← q]
      unfold putK
      by_cases a : (r.any fun kv => decide (kv.1 = k)) = true
      · rw [if_pos (by simp only [List.any_cons, Bool.or_eq_true]; exact .inr a), if_pos a, List.map_cons, if_neg e]
      · rw [if_neg (by simp only [List.any_cons, Bool.or_eq_true, not_or]; exact ⟨by simp [e], a⟩), if_neg a]; rfl
theorem Rpk.setv {K : PySem.W.Frag} {H : Hp} {m : List Addr} {F : Addr → Prop} {us : List (Key × V)} {ks : List (Key × LV)} {O P : List Addr} {k : Key} {v : V} {x : LV} (r : Rpk K H m F us ks O) (q : Rp K H m F v x P) : ∃ O', Rpk K H m F (setK us k v) (setK ks k x) O' ∧ Sub O' (O ++ P) := by
  induction ks generalizing us O with
  | nil =>
    cases r
    have := Rpk.cons (k := k) q .nil
    rw [List.append_nil] at this
    exact ⟨P, this, Sub.refl _⟩
  | cons y ys ih =>
    cases r with
    | @cons k' w ws y' _ O1 O2 r t =>
      unfold setK
      by_cases e : k' = k
      · rw [if_pos e, if_pos e]
        exact ⟨P ++ O2, .cons q t, O1, by rw [List.append_assoc]; exact List.Perm.append_left O1 List.perm_append_comm⟩
      · rw [if_neg e, if_neg e]
        obtain ⟨O', h1, D, h2⟩ := ih t
        refine ⟨O1 ++ O', .cons r h1, D, ?_⟩
        rw [List.append_assoc]
        exact (List.Perm.append_left O1 h2).trans pmid
theorem Rpk.keys {K : PySem.W.Frag} {H : Hp} {m : List Addr} {F : Addr → Prop} {us : List (Key × V)} {ks : List (Key × LV)} {O : List Addr} {k : Key} (r : Rpk K H m F us ks O) : us.length = ks.length ∧ (us.filter fun p => decide (p.1 = k)).length = (ks.filter fun p => decide (p.1 = k)).length := by
  induction ks generalizing us O with
  | nil => cases r; exact ⟨rfl, rfl⟩
  | cons y ys ih =>
    cases r with
    | @cons k' w ws y' _ O1 O2 r t =>
      obtain ⟨h1, h2⟩ := ih t
      refine ⟨by simp [h1], ?_⟩
      by_cases e : k' = k <;> simp [List.filter_cons, e, h2]
/-- what o[k] = x makes of the thing -/
theorem putZ_rp {K : PySem.W.Frag} {H : Hp} {m : List Addr} {F : Addr → Prop} {w y v : V} {z z' x : LV} {d : PyData} {Oz P : List Addr} (e : putZ z d x = some z') (rz : Rp K H m F w z Oz) (rd : RD K H y d []) (rx : Rp K H m F v x P) (nz : z.nl = true) (nx : x.nl = true) :
    z'.nl = true ∧ ∃ a o Oz1 O', w = .ref a ∧ Oz = a :: Oz1 ∧ WM [a] H ∧ Sub O' (Oz1 ++ P) ∧ (∀ H' F', H' a = some o → Pres [a] H H' → a ∉ O' → (∀ b, F b → H b ≠ none → F' b) → (∀ b, F b → H b ≠ none → b ≠ a) → Rp K H' m F' w z' (a :: O')) ∧ ∀ Q : Hp → Prop, Q (upd H a o) → rSetA w y v H Q := by
  unfold putZ at e
  split at e
  · rename_i xs j
    obtain ⟨k, hk, rfl⟩ := Option.map_eq_some_iff.mp e
    cases rz with
    | @lst a us _ Oz1 hA r =>
      cases rd
      have hl := (ixN_seq hk).2.1
      obtain ⟨O', h1, sb⟩ := r.setv rx hl
      have n' : LV.nls (xs.set k x) = true := nls_set (by simpa [LV.nl] using nz) nx
      have wa : WM [a] H := fun b z => by rw [List.mem_singleton.mp z]; exact .inl ⟨_, hA⟩
      refine ⟨by simpa [LV.nl] using n', a, .lst (us.set k v), Oz1, O', rfl, rfl, wa, sb, fun H' F' ho p na hF hn => .lst ho (h1.pres p wa (fun _ _ e => e) hF (fun b f n w => hn b f n (List.mem_singleton.mp w)) (fun b z w => na (List.mem_singleton.mp w ▸ z)) (.inr n')), fun Q q => .inl ⟨a, us, j, k, rfl, rfl, hA, by rw [r.length]; exact hk, q⟩⟩
  · rename_i ks
    split at e
    · rename_i k ek
      by_cases hc : ks.length < sizeLine ∧ (ks.filter fun p => decide (p.1 = k)).length ≤ 1
      · rw [if_pos hc] at e
        cases e
        have hy := keyOf_rd rd ek
        subst hy
        cases rz with
        | @dic a us _ Oz1 hA r =>
          obtain ⟨O', h1, sb⟩ := r.setv (k := k) rx
          obtain ⟨k1, k2⟩ := r.keys (k := k)
          have n' : LV.nlk (setK ks k x) = true := nlk_set (by simpa [LV.nl] using nz) nx
          have wa : WM [a] H := fun b z => by rw [List.mem_singleton.mp z]; exact .inr ⟨_, hA⟩
          have pk : putK us k v = setK us k v := putK_setK (by rw [k2]; exact hc.2)
          refine ⟨by simpa [LV.nl] using n', a, .dK (putK us k v), Oz1, O', rfl, rfl, wa, sb, fun H' F' ho p na hF hn => .dic ho (by rw [pk]; exact h1.pres p wa (fun _ _ e => e) hF (fun b f n w => hn b f n (List.mem_singleton.mp w)) (fun b z w => na (List.mem_singleton.mp w ▸ z)) (.inr n')), fun Q q => .inr ⟨a, us, k, rfl, rfl, hA, by rw [k1]; exact hc.1, q⟩⟩
      · rw [if_neg hc] at e; cases e
    · cases e
  · cases e
theorem putZ_key {z z' x : LV} {d : PyData} (e : putZ z d x = some z') : (∃ i, d = .int i) ∨ ∃ k, d = .str k := by
  cases d with
  | int i => exact .inl ⟨i, rfl⟩
  | str k => exact .inr ⟨k, rfl⟩
  | _ => cases z <;> simp [putZ, keyOf] at e
theorem set_conv {D : Ends} {vs : L2.St} {H : Hp} (h : tS Y io (setS i bad fe fp fk) D vs H) : tAsg (tG Y be (relV Y) fe) (gSub (tPth Y i fp) (tG Y false (relV Y) fk) rSetA) D vs H := by
  obtain ⟨s, R, m, A, B, l, n, h⟩ := h
  unfold setS at h
  cases hb : bad with
  | true => rw [hb] at h; exact h.elim
  | false =>
    rw [hb] at h
    simp only [Bool.false_eq_true, if_false] at h
    refine ⟨s, R, m, A, B, l, fun _ => n, h.expr n fun p hp h1 v H1 m1 A1 B1 P x1 r1 => ?_⟩
    cases e1 : fp p.2 with
    | exc c ps s' => rw [e1] at h1; exact h1.elim
    | stuck => rw [e1] at h1; exact h1.elim
    | ok ds =>
      rw [e1] at h1
      simp only [noExc, Res.toS] at h1
      cases e2 : fk p.2 with
      | exc c ps s' => rw [e2] at h1; exact h1.elim
      | stuck => rw [e2] at h1; exact h1.elim
      | ok q =>
        rw [e2] at h1
        simp only at h1
        obtain ⟨xk, sk⟩ := q
        simp only at h1
        cases xk with
        | imm d =>
         cases hz : getF p.2 i ds with
         | none => rw [hz] at h1; exact h1.elim
         | some z =>
          rw [hz] at h1
          simp only at h1
          by_cases nx : p.1.nl = true
          case neg => rw [if_neg nx] at h1; exact h1.elim
          rw [if_pos nx] at h1
          cases e3 : putZ z d p.1 with
          | none => rw [e3] at h1; exact h1.elim
          | some z' =>
            rw [e3] at h1
            simp only at h1
            cases e4 : putF p.2 i ds z' with
            | none => rw [e4] at h1; exact h1.elim
            | some s' =>
              rw [e4] at h1
              obtain ⟨w, wz, Oz0, Or0, ev, rc0, _, _, _, _⟩ := focus_rp x1.li (x1.nl n) hz
              refine ⟨p.2, Rv R P, m1, A1, B1, ds, w, wz, x1.li, e1, ev, rc0, fun H2 m2 A2 B2 x2 => ?_⟩
              refine ⟨p.2, Rv (Rv R P) [], m2, A2, B2, x2.li, (fun z => nomatch z), ?_⟩
              rw [e2]
              intro y H3 m3 A3 B3 P3 x3 ry
              simp only at x3 ry
              have es : sk = p.2 := (x3.ef rfl).1
              rw [es] at x3
              cases ry with
              | @imm _ _ as rd f =>
                have x3' := x3.drop
                have x23 := x2.seq x3'
                have xx := x1.seq x23
                have e0 : P ++ ([] ++ []) = P := by simp
                rw [e0] at xx
                obtain ⟨w', wz', Oz, Or, ev', rc, rz, pm, nz, put⟩ := focus_rp (i := i) (ds := ds) xx.li (xx.nl n) hz
                rw [ev] at ev'
                cases ev'
                have same : wz' = wz := rc.det (rc0.pres (x23.ef rfl).2)
                subst same
                have rv := x1.keep r1 x23 (.inl rfl)
                rw [e0] at rv
                have rd' : RD Y.K H3 y d [] := by
                  rcases putZ_key e3 with ⟨k, rfl⟩ | ⟨k, rfl⟩
                  · cases rd; exact .int _
                  · cases rd; exact .str _
                have F0 : ∀ c, Fz (Rv R P) (A3 ++ B3) c → Fz R (A3 ++ B3 ++ P) c := fun c f => ⟨fun w => (List.mem_append.mp w).elim f.1 fun w => f.2 (.inr w), fun w => f.2 (.inl w)⟩
                have rz' : Rp Y.K H3 m3 (Fz R (A3 ++ B3 ++ P)) wz' z Oz := rz.fz F0
                obtain ⟨nz', a, o, Oz1, O', rfl, rfl, wa, sb, mk, fin⟩ := putZ_rp e3 rz' rd' rv nz nx
                refine fin _ ?_
                have nd2 := List.nodup_append.mp (pm.nodup_iff.mp xx.li.nd)
                have inA : ∀ {b}, b ∈ (a :: Oz1) ++ Or → b ∈ A3 ++ B3 := fun z => pm.mem_iff.mpr z
                have aA : a ∈ A3 ++ B3 := inA (List.mem_append_left _ List.mem_cons_self)
                have src : ∀ b, b ∈ O' → b ∈ A3 ++ B3 ++ P := fun b z => (List.mem_append.mp (sb.mem z)).elim (fun z => List.mem_append_left _ (inA (List.mem_append_left _ (List.mem_cons_of_mem _ z)))) (List.mem_append_right _)
                have naO : a ∉ O' := fun z => by
                  rcases List.mem_append.mp (sb.mem z) with q | q
                  · exact (List.nodup_cons.mp nd2.1).1 q
                  · exact xx.disj a aA q
                have F2 : ∀ c, Fz R (A3 ++ B3 ++ P) c → Fz R ((a :: O') ++ Or ++ []) c := fun c f => ⟨fun w => f.1 (by
                  rw [List.append_nil] at w
                  rcases List.mem_append.mp w with w | w
                  · rcases List.mem_cons.mp w with w | w
                    · rw [w]; exact List.mem_append_left _ aA
                    · exact src c w
                  · exact List.mem_append_left _ (inA (List.mem_append_right _ w))), f.2⟩
                have nfa : ∀ c, Fz R (A3 ++ B3 ++ P) c → H3 c ≠ none → c ≠ a := fun c f _ w => f.1 (by rw [w]; exact List.mem_append_left _ aA)
                have pu : Pres [a] H3 (upd H3 a o) := Pres.upd
                obtain ⟨A4, B4, q1, q2, q3⟩ := put (upd H3 a o) (Fz R ((a :: O') ++ Or ++ [])) a z' s' (a :: O') List.mem_cons_self pu wa (fun c f _ => F2 c (F0 c f)) (mk _ _ upd_same pu naO (fun c f _ => F2 c f) nfa) e4
                have st := xx.put (Oy := []) pm sb q1 q2 q3 (putF_nl e4 (xx.nl n) nz')
                exact h1 _ vs m3 A4 B4 (st.toT n)
        | _ => exact h1.elim
theorem ss_setix {eo ek : Expr} {p2 : Pos} (hK : X.K = Y.K) (hu : X.A.units + 64 < cLine) (he : SE Y X be fe ea) (ho : SP Y X i fp eo) (hk : SE Y X false fk ek)
    (hs : swapsWithSole [.Subscript eo ek p2] ea pos.line X.env = pure false) (hw : swappedStores [.Subscript eo ek p2] ea X.env = pure none)
    (ha : ∀ v, assign (.Subscript eo ek p2) X.env v = (do
      let ov ← holding [v] (eval eo X.env)
      let iv ← holding [v, ov] (eval ek X.env)
      standAt p2
      holding [v, ov, iv] (setItem ov iv v)
      release [v, ov, iv] []))
    (h1 : (assignEach [.Subscript eo ek p2] X.env).map (·.2) = [assign (.Subscript eo ek p2) X.env]) :
    SS Y X io (setS i bad fe fp fk) (.Assign [.Subscript eo ek p2] ea pos) := PSw (ps_asg he (pg_sub ho hk (set_any hu) ha) hs hw h1) fun D vs H h => set_conv h

/-! ### dict displays -/
def SD (Y : Yx) (X : Cx) (pos : Pos) (b : Bool) (ks : List Str) (fA : LS → Res (List LV × LS)) (keys : List (Option Expr)) (vals : List Expr) : Prop :=
  ∃ trs, PPs X pos keys vals trs ∧ ∀ σ H Q, tG Y b (relVs Y) fA σ H (fun us H' => Q ((ks.zip us).map fun p => (V.str p.1, p.2)) H') → tPairs trs σ H Q
theorem sd_nil : SD Y X pos b [] (fun s => .ok ([], s)) [] [] := ⟨[], pps_nil, fun σ H Q h => by
  obtain ⟨s, R, m, A, B, l, n, h⟩ := h
  exact h [] H m A B [] (Stp.refl l) .nil⟩
theorem sd_cons {k : Str} {ks : List Str} {bb : Bool} {keys : List (Option Expr)} {vals : List Expr} {j : Nat} {p : Pos} {gA : LS → Res (List LV × LS)} (he : SE Y X b fe ea) (hr : SD Y X pos bb ks gA keys vals) : SD Y X pos (b || bb) (k :: ks) (consA bb fe gA) (some (.Constant (.str k) j p) :: keys) (ea :: vals) := by
  obtain ⟨trs, h1, h2⟩ := hr
  refine ⟨_, pps_cons (PEw (t' := fun _ H Q => Q (.str k) H) pe_str fun _ _ _ h => h) he h1, fun σ H Q h => ?_⟩
  have q := cons_conv h
  obtain ⟨s, R, m, A, B, l, n, q⟩ := q
  refine ⟨s, R, m, A, B, l, n, ?_⟩
  revert q
  cases fe s with
  | ok p => exact fun q y H' m' A' B' Ov x r => h2 _ _ _ (q y H' m' A' B' Ov x r)
  | exc c ps s' => exact id
  | stuck => exact id
theorem Stp.write {H H2 : Hp} {R : Addr → Prop} {vs : L2.St} {s s2 : LS} {m A B m2 A2 B2 O : List Addr} {p : Addr} {o : HO} (x : Stp Y.K H R vs s m A B b H2 s2 m2 A2 B2 O) (hp : p ∈ O) (h0 : H p = none) (wp : WM [p] H2) (n : nlL s2 = true) :
    Stp Y.K H R vs s m A B b (upd H2 p o) s2 m2 A2 B2 O := by
  have pu : Pres [p] H2 (upd H2 p o) := Pres.upd
  have dm' : ∀ c, H2 c ≠ none → (upd H2 p o) c ≠ none := fun c n => by
    by_cases e : c = p
    · rw [e, upd_same]; exact fun z => nomatch z
    · rw [upd_ne e]; exact n
  exact ⟨x.li.pres pu wp (fun a z w => x.disj a z (List.mem_singleton.mp w ▸ hp)) (fun a _ h _ => ⟨fun w => h (.inr (List.mem_singleton.mp w ▸ hp)), h⟩) x.li.nr (fun a z => dm' a (x.li.rs a z)) (.inr n), x.nd, x.nr, fun a z => dm' a (x.ex a z),
    x.pr.trans pu fun a z => .inr (List.mem_singleton.mp z ▸ h0), fun c n => dm' c (x.dm c n), x.gr, x.mm, x.nl, fun hb => ⟨(x.ef hb).1, (x.ef hb).2.trans pu fun a z => .inr (List.mem_singleton.mp z ▸ h0)⟩⟩
theorem zip_rpk {K : PySem.W.Frag} {H : Hp} {m : List Addr} {F : Addr → Prop} : ∀ {ks : List Str} {us : List V} {xs : List LV} {O : List Addr}, Rps K H m F us xs O → ks.length = xs.length → Rpk K H m F ((ks.map Sum.inr).zip us) ((ks.map Sum.inr).zip xs) O
  | [], _, _, _, .nil, _ => .nil
  | [], _, _, _, .cons _ _, e => by simp at e
  | _ :: _, _, _, _, .nil, e => by simp at e
  | k :: ks, _, _, _, .cons r t, e => .cons r (zip_rpk t (by simpa using e))
theorem merge_new : ∀ {kvs : List (Key × V)} {acc : List (Key × V)}, (kvs.map (·.1)).Nodup → (∀ k ∈ kvs.map (·.1), k ∉ acc.map (·.1)) → mergeK acc kvs = acc ++ kvs
  | [], acc, _, _ => by simp [mergeK]
  | (k, v) :: r, acc, nd, h => by
    obtain ⟨h1, h2⟩ := List.nodup_cons.mp (show (k :: r.map (·.1)).Nodup from nd)
    have e : putK acc k v = acc ++ [(k, v)] := by
      unfold putK
      rw [if_neg]
      intro z
      obtain ⟨p, hp, e⟩ := List.any_eq_true.mp z
      exact h k (by simp) (List.mem_map.mpr ⟨p, hp, by simpa using e⟩)
    show mergeK (putK acc k v) r = _
    rw [e, merge_new h2, List.append_assoc]
    · rfl
    · intro k' hk' z
      rw [List.map_append, List.mem_append] at z
      rcases z with z | z
      · exact h k' (by simp only [List.map_cons, List.mem_cons]; exact .inr hk') z
      · simp at z
        exact h1 (z ▸ hk')
theorem dk_conv {ks : List Str} {keys : List (Option Expr)} {vals : List Expr} {trs : List (TE × TE)} (ht : ∀ σ H Q, tG Y b (relVs Y) fA σ H (fun us H' => Q ((ks.zip us).map fun p => (V.str p.1, p.2)) H') → tPairs trs σ H Q) {vs : L2.St} {H : Hp} {Q : VK} (h : tG Y b (relV Y) (dkE ks fA) vs H Q) : tDisp trs vs H Q := by
  obtain ⟨s, R, m, A, B, l, n, h⟩ := h
  intro p hp
  apply ht
  have x0 : Stp Y.K H R vs s m A B b (upd H p (.dK [])) s m A B [p] := (Stp.refl (b := b) l).res (Pres.new hp) (fun a z => by rw [List.mem_singleton.mp z]; exact ⟨.inr hp, by rw [upd_same]; exact fun z => nomatch z⟩) (List.nodup_cons.mpr ⟨List.not_mem_nil, List.nodup_nil⟩)
  refine ⟨s, Rv R [p], m, A, B, x0.li, n, Post.next (b := b) (b1 := b) (b2 := b) x0 (fun e => ⟨e, e⟩) h fun q hq h1 us H2 m2 A2 B2 P x2 r2 => ?_⟩
  by_cases hc : ks.length = q.1.length ∧ ks.length ≤ 15 ∧ ks.Nodup ∧ nlAll q.1 = true ∧ nlL q.2 = true
  case neg => rw [if_neg hc] at h1; exact h1.elim
  rw [if_pos hc] at h1
  obtain ⟨c1, c2, c3, c4, c5⟩ := hc
  have hp2 : H2 p = some (.dK []) := x2.pr p _ upd_same fun z => x0.li.nr p z (.inr (List.mem_singleton.mpr rfl))
  refine ⟨hp2, (ks.map Sum.inr).zip us, ?_, ?_, ?_⟩
  · clear h1
    induction ks generalizing us with
    | nil => rfl
    | cons k ks ih =>
      cases us with
      | nil => rfl
      | cons u us =>
        simp only [List.map_cons, List.zip_cons_cons, kV, List.cons.injEq, true_and]
        have : ∀ (ks : List Str) (us : List V), (ks.zip us).map (fun p => (V.str p.1, p.2)) = ((ks.map (Sum.inr : Str → Key)).zip us).map fun kv => (kV kv.1, kv.2) := by
          intro ks
          induction ks with
          | nil => intro us; rfl
          | cons k ks ih => intro us; cases us with
            | nil => rfl
            | cons u us => simp [kV, ih us]
        exact this ks us
  · rw [List.length_zip, List.length_map]
    have := r2.length
    omega
  · have xx := x0.seq x2
    have mk : mergeK [] ((ks.map Sum.inr).zip us) = (ks.map Sum.inr).zip us := by
      have hk : (((ks.map (Sum.inr : Str → Key)).zip us).map (·.1)) = ks.map Sum.inr := List.map_fst_zip (by rw [List.length_map, c1, r2.length]; exact Nat.le_refl _)
      rw [merge_new, List.nil_append]
      · rw [hk]
        exact List.pairwise_map.mpr (c3.imp fun h e => h (Sum.inr.inj e))
      · intro k _ z; simp at z
    rw [mk]
    have wp : WM [p] H2 := fun b z => by rw [List.mem_singleton.mp z]; exact .inr ⟨_, hp2⟩
    have nP : p ∉ P := fun z => x2.nr p z (.inr (List.mem_singleton.mpr rfl))
    have x3 := xx.write (o := .dK ((ks.map Sum.inr).zip us)) (p := p) (by simp) hp wp c5
    refine h1 (.ref p) _ m2 A2 B2 ([p] ++ P) (x3.any (fun e => by rw [e]; rfl)) (.dic upd_same ?_)
    refine (zip_rpk r2 c1).pres (Pres.upd (p := p)) wp (fun _ _ e => e) (fun a f _ => ?_) (fun a f _ w => f.2 (.inr w)) (fun a z w => nP (List.mem_singleton.mp w ▸ z)) (.inr ?_)
    · exact Fz_rv a f
    · have : ∀ (ks : List Str) (xs : List LV), LV.nls xs = true → LV.nlk ((ks.map (Sum.inr : Str → Key)).zip xs) = true := by
        intro ks
        induction ks with
        | nil => intro xs _; simp [LV.nlk]
        | cons k ks ih =>
          intro xs hx
          cases xs with
          | nil => simp [LV.nlk]
          | cons x xs =>
            simp only [LV.nls, Bool.and_eq_true] at hx
            simp [LV.nlk, hx.1, ih xs hx.2]
      exact this ks _ (nls_all c4)
theorem se_dk {ks : List Str} {keys : List (Option Expr)} {vals : List Expr} (h : SD Y X pos b ks fA keys vals) (hall : keys.all (·.isSome) = true) (hl : keys.length = vals.length) (h0 : keys ≠ []) (h15 : keys.length ≤ 15) : SE Y X b (dkE ks fA) (.Dict keys vals pos) := by
  obtain ⟨trs, h1, h2⟩ := h
  exact PEw (pe_disp h1 hall hl h0 h15) fun vs H Q h => dk_conv (keys := keys) (vals := vals) h2 h
end
end MP
/-! MP.25: a def from its body -/
namespace MP
open PySem PySem.Spec PyProof.Rows L2

section
variable {K : PySem.W.Frag} {H : Hp} {m : List Addr} {F : Addr → Prop} {us : List V}
mutual
/-- shared things put back -/
theorem rsv_rp : ∀ {x y : LV} {v : V} {O B : List Addr} {ob ob' : List (Option LV)}, Rp K H m F v x O → RpS K H m F ((m.map V.ref).map some) ob B → rsv ob x = some (y, ob') →
    ∃ Oy B', Rp K H [] F v y Oy ∧ RpS K H m F ((m.map V.ref).map some) ob' B' ∧ (O ++ B).Perm (Oy ++ B')
  | .imm d, _, _, _, B, ob, _, .imm r f, ro, e => by
    unfold rsv at e; cases e
    exact ⟨[], B, .imm r f, ro, List.Perm.refl _⟩
  | .lent d, _, _, _, _, _, _, _, _, e => by unfold rsv at e; cases e
  | .ref l, y, _, _, B, ob, ob', @Rp.ref _ _ _ _ a _ h, ro, e => by
    unfold rsv at e
    split at e
    · rename_i x hx
      split at e
      · rename_i hg
        cases e
        obtain ⟨w, O, B', e1, r, ro', pm⟩ := ro.out hx
        have : w = .ref a := by
          rw [List.getElem?_map, List.getElem?_map, h] at e1
          exact (Option.some.inj (Option.some.inj e1)).symm
        subst this
        exact ⟨O, B', r.giv hg, ro', pm⟩
      · cases e
    · cases e
  | .lst xs, y, _, _, B, ob, ob', @Rp.lst _ _ _ _ a vs _ O h r, ro, e => by
    unfold rsv at e
    obtain ⟨⟨ys, ob1⟩, e1, e2⟩ := Option.map_eq_some_iff.mp e
    cases e2
    obtain ⟨Oy, B', q1, q2, q3⟩ := rsvs_rp r ro e1
    exact ⟨a :: Oy, B', .lst h q1, q2, List.Perm.cons a q3⟩
  | .tup xs, y, _, _, B, ob, ob', @Rp.tup _ _ _ _ a vs _ O h r, ro, e => by
    unfold rsv at e
    obtain ⟨⟨ys, ob1⟩, e1, e2⟩ := Option.map_eq_some_iff.mp e
    cases e2
    obtain ⟨Oy, B', q1, q2, q3⟩ := rsvs_rp r ro e1
    exact ⟨Oy, B', .tup h q1, q2, q3⟩
  | .dic ks, y, _, _, B, ob, ob', @Rp.dic _ _ _ _ a vs _ O h r, ro, e => by
    unfold rsv at e
    obtain ⟨⟨ys, ob1⟩, e1, e2⟩ := Option.map_eq_some_iff.mp e
    cases e2
    obtain ⟨Oy, B', q1, q2, q3⟩ := rsvk_rp r ro e1
    exact ⟨a :: Oy, B', .dic h q1, q2, List.Perm.cons a q3⟩
theorem rsvs_rp : ∀ {xs ys : List LV} {vs : List V} {O B : List Addr} {ob ob' : List (Option LV)}, Rps K H m F vs xs O → RpS K H m F ((m.map V.ref).map some) ob B → rsv.rsvs ob xs = some (ys, ob') →
    ∃ Oy B', Rps K H [] F vs ys Oy ∧ RpS K H m F ((m.map V.ref).map some) ob' B' ∧ (O ++ B).Perm (Oy ++ B')
  | [], _, _, _, B, _, _, .nil, ro, e => by
    unfold rsv.rsvs at e; cases e
    exact ⟨[], B, .nil, ro, List.Perm.refl _⟩
  | x :: xs, _, _, _, B, ob, ob', @Rps.cons _ _ _ _ v vs _ _ O P r t, ro, e => by
    unfold rsv.rsvs at e
    split at e
    · rename_i y ob1 e1
      split at e
      · rename_i ys ob2 e2
        cases e
        obtain ⟨O1, B1, q1, q2, q3⟩ := rsv_rp r ro e1
        obtain ⟨O2, B2, p1, p2, p3⟩ := rsvs_rp t q2 e2
        refine ⟨O1 ++ O2, B2, .cons q1 p1, p2, ?_⟩
        have h1 : (O ++ P ++ B).Perm (P ++ (O ++ B)) := by rw [List.append_assoc]; exact pmid
        have h2 : (P ++ (O1 ++ B1)).Perm (O1 ++ (P ++ B1)) := pmid
        have h3 := (h1.trans (List.Perm.append_left P q3)).trans (h2.trans (List.Perm.append_left O1 p3))
        rwa [← List.append_assoc] at h3
      · cases e
    · cases e
theorem rsvk_rp : ∀ {xs ys : List (Key × LV)} {vs : List (Key × V)} {O B : List Addr} {ob ob' : List (Option LV)}, Rpk K H m F vs xs O → RpS K H m F ((m.map V.ref).map some) ob B → rsv.rsvk ob xs = some (ys, ob') →
    ∃ Oy B', Rpk K H [] F vs ys Oy ∧ RpS K H m F ((m.map V.ref).map some) ob' B' ∧ (O ++ B).Perm (Oy ++ B')
  | [], _, _, _, B, _, _, .nil, ro, e => by
    unfold rsv.rsvk at e; cases e
    exact ⟨[], B, .nil, ro, List.Perm.refl _⟩
  | (k, x) :: xs, _, _, _, B, ob, ob', @Rpk.cons _ _ _ _ _ v vs _ _ O P r t, ro, e => by
    unfold rsv.rsvk at e
    split at e
    · rename_i y ob1 e1
      split at e
      · rename_i ys ob2 e2
        cases e
        obtain ⟨O1, B1, q1, q2, q3⟩ := rsv_rp r ro e1
        obtain ⟨O2, B2, p1, p2, p3⟩ := rsvk_rp t q2 e2
        refine ⟨O1 ++ O2, B2, .cons q1 p1, p2, ?_⟩
        have h1 : (O ++ P ++ B).Perm (P ++ (O ++ B)) := by rw [List.append_assoc]; exact pmid
        have h2 : (P ++ (O1 ++ B1)).Perm (O1 ++ (P ++ B1)) := pmid
        have h3 := (h1.trans (List.Perm.append_left P q3)).trans (h2.trans (List.Perm.append_left O1 p3))
        rwa [← List.append_assoc] at h3
      · cases e
    · cases e
end
theorem outs_rp {vs : L2.St} : ∀ {io : List Nat} {sl : List (Option LV)} {A B : List Addr} {ob ob' : List (Option LV)} {ys : List LV}, RpS K H m F vs sl A → RpS K H m F ((m.map V.ref).map some) ob B → outsOf sl io ob = some (ys, ob') → distinct io = true →
    ∃ Oo C, Rps K H [] F (io.filterMap fun i => (vs[i]?).join) ys Oo ∧ (A ++ B).Perm (Oo ++ C)
  | [], sl, A, B, ob, ob', ys, r, ro, e, hd => by
    unfold outsOf at e; cases e
    exact ⟨[], A ++ B, .nil, List.Perm.refl _⟩
  | i :: is, sl, A, B, ob, ob', ys, r, ro, e, hd => by
    obtain ⟨hn, hd'⟩ := distinct_cons hd
    unfold outsOf at e
    split at e
    · rename_i x hx
      split at e
      · rename_i y ob1 e1
        split at e
        · rename_i ys2 ob2 e2
          cases e
          obtain ⟨v, O, A', ev, rv, r', pm⟩ := r.out hx
          obtain ⟨O1, B1, q1, q2, q3⟩ := rsv_rp rv ro e1
          have e2' : outsOf (sl.set i none) is ob1 = some (ys2, ob') := by
            have : ∀ (is : List Nat) (ob : List (Option LV)), i ∉ is → outsOf (sl.set i none) is ob = outsOf sl is ob := by
              intro is
              induction is with
              | nil => intro ob _; rfl
              | cons j js ih =>
                intro ob h
                unfold outsOf
                rw [List.getElem?_set_ne (fun e => h (by rw [e]; exact List.mem_cons_self))]
                split
                · split
                  · rw [ih _ fun z => h (List.mem_cons_of_mem _ z)]
                  · rfl
                · rfl
            rw [this is ob1 hn, e2]
          obtain ⟨Oo, C, p1, p2⟩ := outs_rp r' q2 e2' hd'
          refine ⟨O1 ++ Oo, C, ?_, ?_⟩
          · rw [List.filterMap_cons, ev]
            exact .cons q1 p1
          · have h1 : (A ++ B).Perm (O ++ A' ++ B) := List.Perm.append_right B pm
            have h2 : (O ++ A' ++ B).Perm (A' ++ (O ++ B)) := by rw [List.append_assoc]; exact pmid
            have h3 := ((h1.trans h2).trans (List.Perm.append_left A' q3)).trans pmid
            have h4 := h3.trans (List.Perm.append_left O1 p2)
            rwa [← List.append_assoc] at h4
        · cases e
      · cases e
    · cases e
theorem RpS.ofs {ob : List LV} {vs : List V} {B : List Addr} (r : Rps K H m F vs ob B) : RpS K H m F (vs.map some) (ob.map some) B := by
  induction ob generalizing vs B with
  | nil => cases r; exact .nil
  | cons x xs ih =>
    cases r with
    | cons r t => exact .so r (ih t)
end
end MP
/-! MP.26: a def keeps its promise -/
namespace MP
open PySem PySem.Spec PyProof.Rows L2

section
variable {K : PySem.W.Frag} {XR : (Addr → Prop) → Hp → Nat → List PyData → Value → Option Addr → Prop}
theorem RpS.nones {H : Hp} {m : List Addr} {F : Addr → Prop} {vs : L2.St} {sl : List (Option LV)} {A : List Addr} (r : RpS K H m F vs sl A) (k : Nat) : RpS K H m F (vs ++ List.replicate k none) (sl ++ List.replicate k none) A := by
  induction r with
  | nil =>
    induction k with
    | zero => exact .nil
    | succ k ih => exact .no ih
  | no _ ih => exact .no ih
  | so h _ ih => exact .so h ih
theorem nlS_start {xs : List LV} (h : nlAll xs = true) (k : Nat) : nlS (xs.map some ++ List.replicate k none) = true := by
  induction xs with
  | nil =>
    induction k with
    | zero => rfl
    | succ k ih => simpa [List.replicate_succ, nlS] using ih
  | cons x xs ih =>
    simp only [nlAll, List.all_cons, Bool.and_eq_true] at h
    simp [nlS, h.1, ih h.2]
theorem io_vals {vs : List V} {vs' : L2.St} {N : List Str} {io : List Nat} (hio : ∀ i ∈ io, i < vs.length) (h : ∀ i ∈ io, vs'[i]? = (L2.start N vs)[i]?) : (io.filterMap fun i => (vs'[i]?).join) = io.filterMap fun i => vs[i]? := by
  induction io with
  | nil => rfl
  | cons i is ih =>
    have hi := hio i List.mem_cons_self
    have e : (vs'[i]?).join = vs[i]? := by
      rw [h i List.mem_cons_self]
      unfold L2.start
      rw [List.getElem?_append_left (by simpa using hi), List.getElem?_map]
      cases vs[i]? <;> rfl
    rw [List.filterMap_cons, List.filterMap_cons, e, ih (fun j hj => hio j (List.mem_cons_of_mem _ hj)) fun j hj => h j (List.mem_cons_of_mem _ hj)]

theorem body_ok {mono : ∀ (F F' : Addr → Prop) (H : Hp) (c : Nat) (ps : List PyData) (cl : Value) (d : Option Addr), (ims ps = true ∨ ∀ a, F a → H a ≠ none → F' a) → XR F H c ps cl d → XR F' H c ps cl d}
    {cf : CF} {f np ns : Nat} {io : List Nat} {body : LS → SR} {N : List Str} {vs : List V} {H : Hp} {Q : VK} {E : XK} (hN : N.length = ns) (hio : ∀ i ∈ io, i < np) (hd : distinct io = true) (hcf : ∀ xs, cf f xs = runB np ns io body xs) (h : spF K XR cf f np io vs H Q E) :
    tS ⟨K, fun cl d _ H => E cl d H, XR, mono⟩ io body { nx := fun _ H' => Q .non H', rt := Q } (L2.start N vs) H := by
  obtain ⟨xs, R, O, hl, r, nd, nr, rs, hm⟩ := h
  rw [hcf] at hm
  unfold runB at hm
  by_cases hc : xs.length = np ∧ nlAll xs = true
  case neg => rw [if_neg hc] at hm; exact hm.elim
  rw [if_pos hc] at hm
  have hio' : ∀ i ∈ io, i < vs.length := fun i hi => by rw [hl]; exact hio i hi
  have li : LI K H R (L2.start N vs) ⟨xs.map some ++ List.replicate (ns - np) none, []⟩ [] O [] := by
    refine ⟨?_, .nil, by rw [List.append_nil]; exact nd, fun a z => nr a (by simpa using z), rs⟩
    rw [List.append_nil]
    have := (RpS.ofs r).nones (ns - np)
    unfold L2.start
    rw [hN, hl]
    exact this
  have nl : nlL ⟨xs.map some ++ List.replicate (ns - np) none, []⟩ = true := by
    simp [nlL, nlS_start hc.2, LV.nls]
  refine ⟨_, R, [], O, [], li, nl, ?_⟩
  have e0 : O ++ [] = O := List.append_nil O
  cases hb : body ⟨xs.map some ++ List.replicate (ns - np) none, []⟩ with
  | nxt s' =>
    rw [hb] at hm
    intro H' vs' m' A' B' st
    simp only [endOf] at hm
    cases eo : outsOf s'.sl io (s'.ob.map some) with
    | none => rw [eo] at hm; exact hm.elim
    | some p =>
      obtain ⟨ys, ob'⟩ := p
      rw [eo] at hm
      obtain ⟨Oo, C, q1, q2⟩ := outs_rp st.li.sl (RpS.ofs st.li.ob) eo hd
      rw [io_vals hio' st.io] at q1
      have inA : ∀ a ∈ Oo, a ∈ A' ++ B' := fun a z => q2.mem_iff.mpr (List.mem_append_left _ z)
      refine hm .non H' Oo [] (by have := st.pr; rwa [e0] at this) st.dm ?_ non_rp ?_ ?_ ?_
      · refine q1.pres (W := []) Pres.refl (fun b z => nomatch z) (fun _ _ e => by simp at e) (fun a f _ => ⟨fun w => f.1 (inA a (by simpa using w)), fun w => f.2 (.inl w)⟩) (fun _ _ _ z => nomatch z) (fun _ _ z => nomatch z) (.inl rfl)
      · rw [List.append_nil]; exact (List.nodup_append.mp (q2.nodup_iff.mp st.li.nd)).1
      · intro a z w
        rw [List.append_nil] at z
        exact st.li.nr a (inA a z) (.inl w)
      · intro a z
        rw [List.append_nil] at z
        have := st.gr a (.inl (inA a z))
        rwa [e0] at this
  | ret x s' =>
    rw [hb] at hm
    intro y H' vs' m' A' B' Ov st rx
    simp only [endOf] at hm
    cases er : rsv (s'.ob.map some) x with
    | none => rw [er] at hm; exact hm.elim
    | some p =>
      obtain ⟨y', ob1⟩ := p
      rw [er] at hm
      simp only at hm
      cases eo : outsOf s'.sl io ob1 with
      | none => rw [eo] at hm; exact hm.elim
      | some p =>
        obtain ⟨ys, ob'⟩ := p
        rw [eo] at hm
        have F0 : ∀ a, Fz (Rv R Ov) (A' ++ B') a → Fz R (A' ++ B' ++ Ov) a := fun a f => ⟨fun w => (List.mem_append.mp w).elim f.1 fun w => f.2 (.inr w), fun w => f.2 (.inl w)⟩
        have rsl : RpS K H' m' (Fz R (A' ++ B' ++ Ov)) vs' s'.sl A' := st.li.sl.pres (W := []) Pres.refl (fun b z => nomatch z) (fun _ _ e => e) (fun a f _ => F0 a f) (fun _ _ _ z => nomatch z) (fun _ _ z => nomatch z) (.inl rfl)
        obtain ⟨Oy, B1, p1, p2, p3⟩ := rsv_rp rx (RpS.ofs (st.li.ob.fz' F0)) er
        obtain ⟨Oo, C, q1, q2⟩ := outs_rp rsl p2 eo hd
        rw [io_vals hio' st.io] at q1
        have pm : (A' ++ B' ++ Ov).Perm (Oo ++ Oy ++ C) := by
          have h1 : (A' ++ B' ++ Ov).Perm (A' ++ (Ov ++ B')) := by
            rw [List.append_assoc]
            exact List.Perm.append_left A' List.perm_append_comm
          have h2 : (A' ++ (Ov ++ B')).Perm (A' ++ (Oy ++ B1)) := List.Perm.append_left A' p3
          have h3 : (A' ++ (Oy ++ B1)).Perm (Oy ++ (A' ++ B1)) := pmid
          have h4 : (Oy ++ (A' ++ B1)).Perm (Oy ++ (Oo ++ C)) := List.Perm.append_left Oy q2
          have h5 : (Oy ++ (Oo ++ C)).Perm (Oo ++ (Oy ++ C)) := pmid
          rw [List.append_assoc Oo]
          exact h1.trans (h2.trans (h3.trans (h4.trans h5)))
        have inA : ∀ a ∈ Oo ++ Oy, a ∈ A' ++ B' ++ Ov := fun a z => pm.mem_iff.mpr (List.mem_append_left _ z)
        have ndAll : (A' ++ B' ++ Ov).Nodup := List.nodup_append.mpr ⟨st.li.nd, st.nd, fun a h1 c h2 e => st.li.nr a h1 (.inr (e ▸ h2))⟩
        have F1 : ∀ a, Fz R (A' ++ B' ++ Ov) a → Fz R (Oo ++ Oy) a := fun a f => ⟨fun w => f.1 (inA a w), f.2⟩
        refine hm y H' Oo Oy (by have := st.pr; rwa [e0] at this) st.dm (q1.fz' F1) ?_ (List.nodup_append.mp (pm.nodup_iff.mp ndAll)).1 ?_ ?_
        · exact p1.pres (W := []) Pres.refl (fun b z => nomatch z) (fun _ _ e => e) (fun a f _ => F1 a f) (fun _ _ _ z => nomatch z) (fun _ _ z => nomatch z) (.inl rfl)
        · intro a z w
          rcases List.mem_append.mp (inA a z) with z | z
          · exact st.li.nr a z (.inl w)
          · exact st.nr a z w
        · intro a z
          have := st.gr a (List.mem_append.mp (inA a z))
          rwa [e0] at this
  | exc c ps s' =>
    rw [hb] at hm
    intro cl d H' vs' m' A' B' st xr
    simp only [endOf] at hm
    cases eo : outsOf s'.sl io (s'.ob.map some) with
    | none => rw [eo] at hm; exact hm.elim
    | some p =>
      obtain ⟨ys, ob'⟩ := p
      rw [eo] at hm
      obtain ⟨Oo, C, q1, q2⟩ := outs_rp st.li.sl (RpS.ofs st.li.ob) eo hd
      rw [io_vals hio' st.io] at q1
      have inA : ∀ a ∈ Oo, a ∈ A' ++ B' := fun a z => q2.mem_iff.mpr (List.mem_append_left _ z)
      refine hm cl d H' Oo (by have := st.pr; rwa [e0] at this) st.dm ?_ (mono _ _ _ _ _ _ _ (.inr fun a f _ => ⟨fun w => f.1 (inA a w), f.2⟩) xr) (List.nodup_append.mp (q2.nodup_iff.mp st.li.nd)).1 (fun a z w => st.li.nr a (inA a z) (.inl w)) fun a z => by
        have := st.gr a (.inl (inA a z))
        rwa [e0] at this
      exact q1.pres (W := []) Pres.refl (fun b z => nomatch z) (fun _ _ e => by simp at e) (fun a f _ => ⟨fun w => f.1 (inA a w), fun w => f.2 (.inl w)⟩) (fun _ _ _ z => nomatch z) (fun _ _ z => nomatch z) (.inl rfl)
  | brk s' => rw [hb] at hm; exact hm.elim
  | cnt s' => rw [hb] at hm; exact hm.elim
  | stuck => rw [hb] at hm; exact hm.elim
end
end MP
/-! MP.27: the context of a def's body; a def by its body's derivation -/
namespace MP
open PySem PySem.Spec PyProof.Rows L2

/-- what the rules ask of the context -/
structure Cc (k : Nat) (X : Cx) (Y : Yx) : Prop where
  hK : X.K = Y.K
  room : Room k X.A
  gd : X.A.guards = some []
  calm : X.calm = true
  nd : X.N.Nodup
  tk : Takes X Y.W
section
variable {k : Nat} {X : Cx} {Y : Yx}
theorem Cc.hu (c : Cc k X Y) : X.A.units + 64 < cLine := c.room.units
theorem Cc.blk (c : Cc k X Y) (s : Shared) (H : Hp) (scope : Scope) (cenv : Env) (fp : List Addr) : Cc k (X.blk s H scope cenv fp) Y.b :=
  ⟨c.hK, c.room, c.gd, c.calm, c.nd, fun u s' x => by
    obtain ⟨a, B, sI, pins, σ, H, cls, d, e, I, nb, up, sky, na, os, ag, w⟩ := x
    exact w⟩
end
section
variable {Pr : Program} {w : World} {K : PySem.W.Frag} {mg : Str → Option Value} {base : Heap} {XR : (Addr → Prop) → Hp → Nat → List PyData → Value → Option Addr → Prop}
abbrev Mono (XR : (Addr → Prop) → Hp → Nat → List PyData → Value → Option Addr → Prop) : Prop := ∀ (F F' : Addr → Prop) (H : Hp) (c : Nat) (ps : List PyData) (cl : Value) (d : Option Addr), (ims ps = true ∨ ∀ a, F a → H a ≠ none → F' a) → XR F H c ps cl d → XR F' H c ps cl d
abbrev yOf (K : PySem.W.Frag) (XR : (Addr → Prop) → Hp → Nat → List PyData → Value → Option Addr → Prop) (mono : Mono XR) (E : XK) : Yx := ⟨K, fun cl d _ H => E cl d H, XR, mono⟩
theorem cc_def {k : Nat} {mono : Mono XR} {N : List Str} {qual : Str} {scope : Scope} {f : Addr} {cdv : Value} {A : Around} {outer : List Env} {s : Shared} {H : Hp} {E : XK} (hr : Room k (A.deeper (envOfC qual scope s.heap.objs.size f cdv))) (hg : A.guards = some []) (hN : N.Nodup) :
    Cc k (cxOf (L2.CX Pr w) Pr w K mg base N qual scope f cdv A outer s H E) (yOf K XR mono E) :=
  ⟨rfl, hr, hg, rfl, hN, takes_of rfl rfl rfl rfl⟩
theorem pass_def {N : List Str} {qual : Str} {scope : Scope} {f : Addr} {cdv : Value} {A : Around} {outer : List Env} {s : Shared} {H : Hp} {E : XK} :
    PassesOwn (model Pr w) (cxOf (L2.CX Pr w) Pr w K mg base N qual scope f cdv A outer s H E).A (cxOf (L2.CX Pr w) Pr w K mg base N qual scope f cdv A outer s H E).env (cxOf (L2.CX Pr w) Pr w K mg base N qual scope f cdv A outer s H E).xe := passes_of rfl
theorem fn_step {k fi : Nat} {mono : Mono XR} {f : Addr} {x qual : Str} {st : Stmt} {fd : FuncData} {N ps : List Str} {d : BDef} {cf cf' : CF} (F : Fun K x qual st f fd) (S : FnScope N ps (defScope st)) (hN : N.length = d.ns) (hps : ps.length = d.np) (hio : ∀ i ∈ d.io, i < d.np) (hdi : distinct d.io = true)
    (hcf : ∀ xs, cf' fi xs = runB d.np d.ns d.io (d.body cf) xs)
    (hb : ∀ (cdv : Value) (A : Around) (outer : List Env) (s : Shared) (H : Hp) (E : XK), Cc k (cxOf (L2.CX Pr w) Pr w K mg base N qual (defScope st) f cdv A outer s H E) (yOf K XR mono E) →
      SB (yOf K XR mono E) (cxOf (L2.CX Pr w) Pr w K mg base N qual (defScope st) f cdv A outer s H E) d.io (d.body cf) (defBody st)) :
    FnG Pr w K mg base (k + 1) f fd ps (spF K XR cf' fi d.np d.io) := by
  refine fn_ofG F S (fun vs H Q E h => ?_) fun cdv A outer s H vs Q E hr hg h => ⟨_, hb cdv A outer s H E (cc_def hr hg S.nd), body_ok hN hio hdi hcf h⟩
  obtain ⟨xs, R, O, hl, _⟩ := h
  rw [hl, hps]
/-- the k-th def of a table -/
theorem callF_at {P : List BDef} {n fi : Nat} {d : BDef} (h : P[fi]? = some d) : ∀ xs, callF P (n + 1) fi xs = runB d.np d.ns d.io (d.body (callF P n)) xs := fun xs => by
  show (match P[fi]? with
    | some d => runB d.np d.ns d.io (d.body (callF P n)) xs
    | none => CRes.stuck) = _
  rw [h]
end
end MP
/-! MP.28: the end of a law, from the table of its defs -/
namespace MP
open PySem PySem.Spec PyProof.Rows L2

/-- the script, as it is told -/
def scrD (ns : List Int) : PyData := .dict [(.none, .list (ns.map .int))]
theorem scr_rd {K : PySem.W.Frag} {H : Hp} {a : Addr} {ns : List Int} (hO : Only H) (h : SqL K H a (ns.map V.int)) : RD K H (.ref a) (scrD ns) [] := by
  have rds : RDs K H (ns.map V.int) (ns.map PyData.int) [] := by
    clear h
    induction ns with
    | nil => exact .nil
    | cons n ns ih => exact RDs.cons (as := []) (.int n) ih
  refine .scr ?_ rds
  rcases h with (h | ⟨o, h⟩) | h
  · rcases hO a with z | ⟨o, xs, z⟩ <;> rw [h] at z <;> cases z
  · exact .inl ⟨o, h⟩
  · exact .inr h
theorem sp_script {K : PySem.W.Frag} {XR : (Addr → Prop) → Hp → Nat → List PyData → Value → Option Addr → Prop} {cf : CF} {f : Nat} {H : Hp} {a : Addr} {ns : List Int} (hO : Only H) (h : SqL K H a (ns.map V.int)) (hc : cf f [.imm (scrD ns)] = .ok (.imm (.bool true)) []) :
    spF K XR cf f 1 [] [.ref a] H (fun v _ => v = .bl true) fun _ _ _ => False := by
  refine ⟨[.imm (scrD ns)], fun _ => False, [], rfl, Rps.cons (O := []) (.imm (scr_rd hO h) fun _ z => nomatch z) .nil, List.nodup_nil, (fun _ z => nomatch z), (fun _ z => z.elim), ?_⟩
  rw [hc]
  intro v H' Oo Or _ _ _ r _ _ _
  cases r with
  | imm r f => cases r; rfl

theorem end_call {P : Program} {w : World} {K : PySem.W.Frag} {mg mb : Str → Option Value} {k : Nat} {fa a : Addr} {fd : FuncData} {x : Str} {sp : Sp} {s₁ : Shared} {vs : List Value} {ns : List Int}
    (KX : K.In s₁.heap) (hns : s₁.heap.Ns mainGlobals mg) (hb : s₁.heap.Ns builtinsNs mb) (hbb : ∀ x : Str, x ≠ "__name__" → mb x = bootBuiltins x) (hlim : s₁.heap.NoLimit) (hg : s₁.gens = #[])
    (ha : s₁.heap.get? a = some { cls := .type "list", data := .seq vs.toArray }) (hi : IntsAre vs ns) (hl : ns.length ≤ sizeLine) (hr : Room k callerA)
    (F : ∀ base : Heap, K.In base → base.Ns mainGlobals mg → FnG P w K mg base k fa fd [x] sp) (hbind : ∀ (s : Shared) (u : Value), BindsTo s fd ⟨[u], []⟩ [(x, u)])
    (hsp : ∀ H : Hp, Only H → SqL K H a (ns.map V.int) → sp [.ref a] H (fun v _ => v = .bl true) fun _ _ _ => False)
    (hCX : ∀ H e s', L2.CX P w [] H s₁ (fun _ _ _ => False) e s' → False) :
    codeAny (model P w) callerA (.call (.ref fa) ⟨[.ref a], []⟩) (fun r s' => r = .ok (.ret (.bool true)) ∧ OldK s₁.heap s'.heap ∧ s'.os = s₁.os ∧ AllBare s'.gens) s₁ := by
  -- over a heap that tells of the script alone
  have go : ∀ H : Hp, Only H → SqL K H a (ns.map V.int) → HOk P w H s₁.heap → (∀ b, H b ≠ none → b = a) → (H a ≠ none → K.lookup a = none) →
      codeAny (model P w) callerA (.call (.ref fa) ⟨[.ref a], []⟩) (fun r s' => r = .ok (.ret (.bool true)) ∧ OldK s₁.heap s'.heap ∧ s'.os = s₁.os ∧ AllBare s'.gens) s₁ := by
    intro H hO hS hok only hK
    have isA : ∀ {b : Addr}, (¬ b = a) → H b = none := fun {b} n => Classical.byContradiction fun q => n (only b q)
    have notDict : ∀ {b : Addr} {o : Obj} {es : Array DictEntry} {ep : Nat}, s₁.heap.get? b = some o → o.data = .dict es ep → H b = none := fun {b o es ep} e d => isA fun z => by
      subst z
      rw [ha] at e
      cases e
      have d' : Data.seq vs.toArray _ = Data.dict es ep := d
      cases d'
    have ns_ : ∀ {b : Addr} {m : Str → Option Value}, s₁.heap.Ns b m → (hidT s₁.heap H).Ns b m := fun {b m} ⟨o, es, ep, e, d, r⟩ => ⟨o, es, ep, hidT_get e (notDict e d), d, r⟩
    have kin : K.In (hidT s₁.heap H) := fun b o e => hidT_get (KX b o e) (by
      by_cases z : b = a
      · subst z
        by_cases q : H b = none
        · exact q
        · rw [hK q] at e; cases e
      · exact isA z)
    obtain ⟨mc, l1, l2⟩ := hlim
    have e0 : Env0 P w K mg (hidT s₁.heap H) callerA [] s₁ H :=
      ⟨rfl, ⟨kin, ns_ hns, ⟨mb, ns_ hb, hbb⟩, ⟨mc, ns_ l1, l2⟩⟩, fun b o e => of_hidT e, Nat.le_of_eq (hidT_size _ _), trivial, fun b hb => (List.not_mem_nil hb).elim, hok, .of_eq hg⟩
    refine codeAny_mono ((F _ kin (ns_ hns)).run callerA [] s₁ H ⟨[.ref a], []⟩ [.ref a] [.ref a] _ _ hr rfl e0 (hbind s₁ (.ref a)) (.cons rfl .nil) (hsp H hO hS)) fun r s' h => ?_
    match r, h with
    | .error e, h => exact (hCX H e s' h).elim
    | .ok .next, h => exact False.elim h
    | .ok .brk, h => exact False.elim h
    | .ok .cont, h => exact False.elim h
    | .ok (.ret u), h =>
      obtain ⟨v, H', os, bare, un, hok', r', q⟩ := h
      have q : v = .bl true := q
      subst q
      obtain rfl : u = Value.bool true := r'
      refine ⟨rfl, OldK.of_keep fun b o e => ?_, os, bare⟩
      by_cases hn : H b = none
      · exact un.keep b o e hn (fun z => (List.not_mem_nil z).elim) (by simp)
      · rcases hO b with z | ⟨ob, xs, z⟩
        · exact absurd z hn
        · have old := (hok b _ z).1
          have new := (hok' b _ (un.frzs b ob _ z)).1
          rw [old] at e
          cases e
          exact new
  have rv := vals_ints hi
  by_cases hk : K.lookup a = none
  · have hit : ∀ {b : Addr} {u : HO}, (if b = a then some (HO.frz { cls := .type "list", data := .seq vs.toArray } (.lst (ns.map V.int))) else none) = some u → b = a ∧ u = .frz { cls := .type "list", data := .seq vs.toArray } (.lst (ns.map V.int)) := fun {b u} z => by
      by_cases hb : b = a
      · rw [if_pos hb] at z; exact ⟨hb, (Option.some.inj z).symm⟩
      · rw [if_neg hb] at z; cases z
    refine go (fun b => if b = a then some (.frz { cls := .type "list", data := .seq vs.toArray } (.lst (ns.map V.int))) else none) (fun b => ?_) (.inl (.inr ⟨_, if_pos rfl⟩)) (fun b u z => ?_) (fun b z => ?_) fun _ => hk
    · by_cases hb : b = a
      · exact .inr ⟨_, _, if_pos hb⟩
      · exact .inl (if_neg hb)
    · obtain ⟨rfl, rfl⟩ := hit z
      exact ⟨ha, by rw [List.length_map]; exact hl, vs, _, rv, ha⟩
    · exact Classical.byContradiction fun hb => z (if_neg hb)
  · obtain ⟨o, ho⟩ := Option.ne_none_iff_exists'.mp hk
    have e := KX a o ho
    rw [ha] at e
    cases e
    exact go (fun _ => none) (fun _ => .inl rfl) (.inr ⟨_, vs.toArray, _, ho, rfl, rfl, rfl, by rw [List.size_toArray, hi.length]; exact hl, by simpa using rv⟩) (fun b u z => nomatch z) (fun b z => absurd rfl z) fun z => absurd rfl z
end MP
/-! MP.29: short words for the printed derivations: a leaf's flag is false, a node's comes last (hf) -/
namespace MP
open PySem PySem.Spec PyProof.Rows L2
section
variable {k : Nat} {X : Cx} {Y : Yx} {b ba bb bc : Bool} {fa fb fc : EvF} {ea eb ec : Expr} {es : List Expr} {gA : LS → Res (List LV × LS)} {pos : Pos}
theorem vv (i : Nat) {x : Str} (hN : X.N[i]? = some x := by rfl) (hv : Vis X.env.scope x := by first | exact Or.inl rfl | exact Or.inr (Or.inl rfl) | exact Or.inr (Or.inr rfl)) (hd : (x == ("__debug__" : Str)) = false := by decide)
    (hcd : (x == ("__classdict__" : Str)) = false := by decide) : SE Y X false (varE i) (.Name x pos) := se_var hN hv hd hcd
theorem tv (i : Nat) {x : Str} (hN : X.N[i]? = some x := by rfl) (hv : Vis X.env.scope x := by first | exact Or.inl rfl | exact Or.inr (Or.inl rfl) | exact Or.inr (Or.inr rfl)) (hd : (x == ("__debug__" : Str)) = false := by decide)
    (hcd : (x == ("__classdict__" : Str)) = false := by decide) : SE Y X true (takeE i) (.Name x pos) := se_take hN hv hd hcd
theorem c_int {k pos} {i : Int} : SE Y X false (fun s => .ok (.imm (.int i), s)) (.Constant (.int i) k pos) := se_int
theorem c_str {k pos} {x : Str} : SE Y X false (fun s => .ok (.imm (.str x), s)) (.Constant (.str x) k pos) := se_str
theorem c_bool {k pos} {x : Bool} : SE Y X false (fun s => .ok (.imm (.bool x), s)) (.Constant (.bool x) k pos) := se_bool
theorem c_none {k pos} : SE Y X false (fun s => .ok (.imm .none, s)) (.Constant .none k pos) := se_none
theorem e_ix (c : Cc k X Y) (ha : SE Y X ba fa ea) (hb : SE Y X bb fb eb) (hs : PlainIx eb := by intro _ _; rfl) (hf : (ba || bb) = b := by rfl) : SE Y X b (op2E ixK lvB bb fa fb) (.Subscript ea eb pos) := hf ▸ se_ix (c.hK ▸ ixr c.hu) ha hb hs
theorem e_op {op : Operator} (ho : OpR X (binaryOp op) (Op2 Y.K (bopD op))) (ha : SE Y X ba fa ea) (hb : SE Y X bb fb eb) (hf : (ba || bb) = b := by rfl) : SE Y X b (op2E (bopD op) lvB bb fa fb) (.BinOp ea op eb pos) := hf ▸ se_op ho ha hb
theorem e_cmp {op : CmpOp} (ho : OpR X (compareOp op) (Op2 Y.K (cmpK op))) (ha : SE Y X ba fa ea) (hb : SE Y X bb fb eb) (hm : behindInMarks op eb = false := by rfl) (hf : (ba || bb) = b := by rfl) : SE Y X b (op2E (cmpK op) lvC bb fa fb) (.Compare ea [op] [eb] pos) := hf ▸ se_cmp ho ha hb hm
theorem t_cmp {op : CmpOp} (ho : OpR X (compareOp op) (Op2 Y.K (cmpK op))) (ha : SE Y X ba fa ea) (hb : SE Y X bb fb eb) (hm : behindInMarks op eb = false := by rfl) (hf : (ba || bb) = b := by rfl) : ST Y X b (fun s => tstR (op2E (cmpK op) lvC bb fa fb s)) (.Compare ea [op] [eb] pos) := hf ▸ st_cmp ho ha hb hm
theorem a_nil : SA Y X false (fun s => .ok ([], s)) [] := sa_nil
theorem a_cons (ha : SE Y X ba fa ea) (hb : SA Y X bb gA es) (hs : ∀ v p, ea ≠ .Starred v p := by intro _ _ z; cases z) (hf : (ba || bb) = b := by rfl) : SA Y X b (consA bb fa gA) (ea :: es) := hf ▸ sa_cons ha hb hs

/-! ### operators, built-ins: as the context has them -/
theorem o_add (c : Cc k X Y) : OpR X (binaryOp .Add) (Op2 Y.K (bopD .Add)) := c.hK ▸ op2_add
theorem o_sub (c : Cc k X Y) : OpR X (binaryOp .Sub) (Op2 Y.K (bopD .Sub)) := c.hK ▸ op2_sub
theorem o_mul (c : Cc k X Y) : OpR X (binaryOp .Mult) (Op2 Y.K (bopD .Mult)) := c.hK ▸ op2_mul
theorem o_fdiv (c : Cc k X Y) : OpR X (binaryOp .FloorDiv) (Op2 Y.K (bopD .FloorDiv)) := c.hK ▸ op2_fdiv
theorem o_mod (c : Cc k X Y) : OpR X (binaryOp .Mod) (Op2 Y.K (bopD .Mod)) := c.hK ▸ op2_mod
theorem o_pow (c : Cc k X Y) : OpR X (binaryOp .Pow) (Op2 Y.K (bopD .Pow)) := c.hK ▸ op2_pow
theorem q_eq (c : Cc k X Y) : OpR X (compareOp .Eq) (Op2 Y.K (cmpK .Eq)) := c.hK ▸ op2_eq c.hu
theorem q_ne (c : Cc k X Y) : OpR X (compareOp .NotEq) (Op2 Y.K (cmpK .NotEq)) := c.hK ▸ op2_ne c.hu
theorem q_lt (c : Cc k X Y) : OpR X (compareOp .Lt) (Op2 Y.K (cmpK .Lt)) := c.hK ▸ op2_lt c.hu
theorem q_le (c : Cc k X Y) : OpR X (compareOp .LtE) (Op2 Y.K (cmpK .LtE)) := c.hK ▸ op2_le c.hu
theorem q_gt (c : Cc k X Y) : OpR X (compareOp .Gt) (Op2 Y.K (cmpK .Gt)) := c.hK ▸ op2_gt c.hu
theorem q_ge (c : Cc k X Y) : OpR X (compareOp .GtE) (Op2 Y.K (cmpK .GtE)) := c.hK ▸ op2_ge c.hu
theorem q_in (c : Cc k X Y) : OpR X (compareOp .In) (Op2 Y.K (cmpK .In)) := c.hK ▸ op2_in c.hu
theorem q_notin (c : Cc k X Y) : OpR X (compareOp .NotIn) (Op2 Y.K (cmpK .NotIn)) := c.hK ▸ op2_notin c.hu
theorem q_is (c : Cc k X Y) : OpR X (compareOp .Is) (Op2 Y.K (cmpK .Is)) := c.hK ▸ op2_is
theorem q_isnot (c : Cc k X Y) : OpR X (compareOp .IsNot) (Op2 Y.K (cmpK .IsNot)) := c.hK ▸ op2_isnot
theorem b_len (c : Cc k X Y) : CallR X (.builtin "len") (CallN Y.K (biD .len)) := c.hK ▸ cn_len
theorem b_int (c : Cc k X Y) : CallR X (.type "int") (CallN Y.K (biD .int)) := c.hK ▸ cn_int
theorem b_abs (c : Cc k X Y) : CallR X (.builtin "abs") (CallN Y.K (biD .abs)) := c.hK ▸ cn_abs
theorem b_tuple (c : Cc k X Y) : CallR X (.type "tuple") (CallN Y.K (biD .tuple)) := c.hK ▸ cn_tuple
theorem b_list (c : Cc k X Y) : CallR X (.type "list") (CallN Y.K (biD .list)) := c.hK ▸ cn_list
theorem b_sum (c : Cc k X Y) : CallR X (.builtin "sum") (CallN Y.K (biD .sum)) := c.hK ▸ cn_sum c.calm
theorem b_all (c : Cc k X Y) : CallR X (.builtin "all") (CallN Y.K (biD .all)) := c.hK ▸ cn_all c.calm
theorem b_repr (c : Cc k X Y) : CallR X (.builtin "repr") (CallN Y.K (biD .repr)) := c.hK ▸ cn_repr c.gd c.hu
theorem b_sorted (c : Cc k X Y) : CallR X (.builtin "sorted") (CallN Y.K (biD .sorted)) := c.hK ▸ cn_sorted c.hu
theorem e_bi {id : String} {g : List PyData → Option RK} {x : Str} {p : Pos} (hc : CallR X (.builtin id) (CallN Y.K g)) (hm : X.mg x = none) (h : SA Y X b gA (ea :: es)) (hg : Gl X x := by rfl) (hv : bootBuiltins x = some (.builtin id) := by rfl) (hn : x ≠ "__name__" := by decide) (hdb : (x == ("__debug__" : Str)) = false := by decide)
    (he : starEach (ea :: es) X.env = (false, eval ea X.env) :: starEach es X.env := by rfl) (hpl : (backTo pos (starEach es X.env)).any (·.1) = false := by rfl) : SE Y X b (biE g gA) (.Call (.Name x p) (ea :: es) [] pos) := se_callB hc hg hm hv h hn hdb he hpl
theorem e_ty {id : String} {g : List PyData → Option RK} {x : Str} {p : Pos} (hc : CallR X (.type id) (CallN Y.K g)) (hm : X.mg x = none) (h : SA Y X b gA (ea :: es)) (hg : Gl X x := by rfl) (hv : bootBuiltins x = some (.type id) := by rfl) (hn : x ≠ "__name__" := by decide) (hdb : (x == ("__debug__" : Str)) = false := by decide)
    (he : starEach (ea :: es) X.env = (false, eval ea X.env) :: starEach es X.env := by rfl) (hpl : (backTo pos (starEach es X.env)).any (·.1) = false := by rfl) : SE Y X b (biE g gA) (.Call (.Name x p) (ea :: es) [] pos) := se_callT hc hg hm hv h hn hdb he hpl
/-! ### tests -/
theorem t_val (h : SE Y X b fa ea) (he : ∀ whole, isTrue ea X.env whole = (do let v ← whole; standAt ea.pos; holding [v] (truthy v)) := by intro _; rfl) : ST Y X b (fun s => tstR (fa s)) ea := st_val h he
theorem t_not (h : ST Y X b (fun s => tstR (fa s)) ea) : ST Y X b (fun s => tstR (notE fa s)) (.UnaryOp .Not ea pos) := st_not h
theorem e_ite (hc : ST Y X bc (fun s => tstR (fc s)) ec) (ha : SE Y X ba fa ea) (hb : SE Y X bb fb eb) (hf : (bc || ba || bb) = b := by rfl) : SE Y X b (iteE fc fa fb) (.IfExp ec ea eb pos) := hf ▸ se_ite hc ha hb
theorem e_and {rest : List Expr} (ha : SE Y X ba fa ea) (hb : SE Y X bb fb (.BoolOp .And (eb :: rest) pos)) (hf : (ba || bb) = b := by rfl) : SE Y X b (andE fa fb) (.BoolOp .And (ea :: eb :: rest) pos) := hf ▸ se_and ha hb
theorem e_or {rest : List Expr} (ha : SE Y X ba fa ea) (hb : SE Y X bb fb (.BoolOp .Or (eb :: rest) pos)) (hf : (ba || bb) = b := by rfl) : SE Y X b (orE fa fb) (.BoolOp .Or (ea :: eb :: rest) pos) := hf ▸ se_or ha hb
/-! ### slices -/
theorem e_sl (c : Cc k X Y) {fl fh : LS → Res (Option Int × LS)} {lo hi : Option Expr} {p2 : Pos} (ha : SE Y X ba fa ea) (hl : SO Y X bb fl lo) (hh : SO Y X bc fh hi) (hf : (ba || (bb || bc)) = b := by rfl) : SE Y X b (slE (bb || bc) fa fl fh) (.Subscript ea (.Slice lo hi none p2) pos) := hf ▸ se_sl (c.hK ▸ slr) ha hl hh
theorem o_none : SO Y X false (fun s => .ok (none, s)) none := so_none
theorem o_some (h : SE Y X b fa ea) : SO Y X b (intO fa) (some ea) := so_some h
/-! ### statements -/
variable {io : List Nat} {ga gb : LS → SR}
theorem s_ret (h : SE Y X b fa ea) : SS Y X io (fun s => (fa s).toS fun p => .ret p.1 p.2) (.Return (some ea) pos) := ss_retE h
theorem s_expr (h : SE Y X b fa ea) (hs : swapsWith ea none pos.line X.env = pure false := by rfl) : SS Y X io (fun s => (fa s).toS fun p => .nxt p.2) (.Expr ea pos) := ss_expr h hs
theorem s_if {ec : Expr} {p q : List Stmt} (hc : ST Y X b (fun s => tstR (fa s)) ec) (ha : SB Y X io ga p) (hb : SB Y X io gb q) : SS Y X io (fun s => (tstR (fa s)).toS fun p => if p.1 then ga p.2 else gb p.2) (.If ec p q pos) := ss_if hc ha hb
/-- name = value -/
def setS1 (i : Nat) (fa : EvF) : LS → SR := fun s => (fa s).toS fun p => if p.1.nl then match bindT (.nm i) p.1 p.2.sl with
      | some sl' => .nxt ⟨sl', p.2.ob⟩
      | none => .stuck
    else .stuck
theorem s_set (c : Cc k X Y) (i : Nat) {x : Str} {pos' : Pos} (he : SE Y X b fa ea) (hi : X.N[i]? = some x := by rfl) (hx : Loc X.env.scope x := by first | exact Or.inl rfl | exact Or.inr rfl) (hio : i ∉ io := by decide) (hs : swapsWith ea (some (.Name x pos')) pos.line X.env = pure false := by rfl) (hf : X.fn x = true ∨ X.env.scope.names.lookup x = some .local := by first | exact Or.inl rfl | exact Or.inr rfl) :
    SS Y X io (setS1 i fa) (.Assign [.Name x pos'] ea pos) := ss_set c.nd hi hx he hio hs hf

theorem s_for (c : Cc k X Y) (hp : PassesOwn (model X.prog X.w) X.A X.env X.xe) {f : ItF} {t : Tg} {tg iter : Expr} {body : List Stmt} (hi : SI Y X b f tg iter) (hg : PG X tg (tgT Y.K t)) (hb : SB Y X io ga body) (ht : ∀ i ∈ tgS t, i ∉ io := by decide)
    (hs : ∀ x, foldedSetIterable iter X.env x = pure x := by intro _; rfl) : SS Y X io (fun s => (f s).toS fun p => if p.1.2 then .stuck else forL t ga p.1.1 p.2) (.For tg iter body [] pos) := ss_for hp c.calm hi hg ht hb hs
theorem s_whl (hp : PassesOwn (model X.prog X.w) X.A X.env X.xe) {ec : Expr} {body : List Stmt} (hc : ST Y X b (fun s => tstR (fa s)) ec) (hb : SB Y X io ga body) : SS Y X io (fun s => whlL (fun s => tstR (fa s)) ga fuel s) (.While ec body [] pos) := ss_whl hp hc hb
theorem g_nm (c : Cc k X Y) (i : Nat) {x : Str} (hi : X.N[i]? = some x := by rfl) (hx : Loc X.env.scope x := by first | exact Or.inl rfl | exact Or.inr rfl) (hf : X.fn x = true ∨ X.env.scope.names.lookup x = some .local := by first | exact Or.inl rfl | exact Or.inr rfl) : PG X (.Name x pos) (tgT Y.K (.nm i)) := pg_name c.nd hi hx hf
theorem i_any (c : Cc k X Y) {tg : Expr} (h : SE Y X b fa ea) : SI Y X b (itP fa) tg ea := si_any c.hK h
theorem i_rng1 (c : Cc k X Y) {tg : Expr} {p : Pos} (hm : X.mg "range" = none) (h : SA Y X b gA [ea]) (hg : Gl X "range" := by rfl) (hs : starEach [ea] X.env = [(false, eval ea X.env)] := by rfl) : SI Y X b (itR true gA) tg (.Call (.Name "range" p) [ea] [] pos) := si_rng1 hg hm h hs
theorem i_rng2 (c : Cc k X Y) {tg : Expr} {p : Pos} (hm : X.mg "range" = none) (h : SA Y X b gA [ea, eb]) (hg : Gl X "range" := by rfl) (hs : starEach [ea, eb] X.env = [(false, eval ea X.env), (false, eval eb X.env)] := by rfl) (hs2 : starEach [eb] X.env = [(false, eval eb X.env)] := by rfl) : SI Y X b (itR false gA) tg (.Call (.Name "range" p) [ea, eb] [] pos) := si_rng2 hg hm h hs hs2
theorem p_nm (i : Nat) {x : Str} (hN : X.N[i]? = some x := by rfl) (hv : Vis X.env.scope x := by first | exact Or.inl rfl | exact Or.inr (Or.inl rfl) | exact Or.inr (Or.inr rfl)) (hd : (x == ("__debug__" : Str)) = false := by decide) (hcd : (x == ("__classdict__" : Str)) = false := by decide) : SP Y X i (fun _ => .ok []) (.Name x pos) := sp_name hN hv hd hcd
theorem p_ix (c : Cc k X Y) {i : Nat} {fp : LS → Res (List PyData)} (ha : SP Y X i fp ea) (hb : SE Y X false fb eb) (hs : PlainIx eb := by intro _ _; rfl) : SP Y X i (snocP fp fb) (.Subscript ea eb pos) := sp_ix c.hK c.hu ha hb hs

theorem w_and1 {f : LS → Res (Bool × LS)} (h : ST Y X b f ea) : SW Y X b f (.BoolOp .And [ea] pos) := pw_and1 h
theorem w_or1 {f : LS → Res (Bool × LS)} (h : ST Y X b f ea) : SW Y X b f (.BoolOp .Or [ea] pos) := pw_or1 h
theorem w_and {rest : List Expr} (ha : ST Y X ba (fun s => tstR (fa s)) ea) (hb : SW Y X bb (fun s => tstR (fb s)) (.BoolOp .And (eb :: rest) pos)) (hf : (ba || bb) = b := by rfl) : SW Y X b (fun s => tstR (andE fa fb s)) (.BoolOp .And (ea :: eb :: rest) pos) := hf ▸ sw_and ha hb
theorem w_or {rest : List Expr} (ha : ST Y X ba (fun s => tstR (fa s)) ea) (hb : SW Y X bb (fun s => tstR (fb s)) (.BoolOp .Or (eb :: rest) pos)) (hf : (ba || bb) = b := by rfl) : SW Y X b (fun s => tstR (orE fa fb s)) (.BoolOp .Or (ea :: eb :: rest) pos) := hf ▸ sw_or ha hb
theorem t_w {f : LS → Res (Bool × LS)} (h : SW Y X b f ea) : ST Y X b f ea := PW.pt h
/-! ### calls -/
theorem ac_nil : SC Y X false [] (fun s => .ok ([], s)) [] := sc_nil
theorem ac_cons {sh : List (Option Nat)} {gC : LS → Res (List AV × LS)} (ha : SE Y X ba fa ea) (hb : SC Y X bb sh gC es) (hs : ∀ v p, ea ≠ .Starred v p := by intro _ _ z; cases z) (hf : (ba || bb) = b := by rfl) : SC Y X b (none :: sh) (consC bb fa gC) (ea :: es) := hf ▸ sc_cons ha hb hs
theorem SC_up {sh : List (Option Nat)} {gC : LS → Res (List AV × LS)} (h : SC Y X b sh gC es) : SC Y X true sh gC es := PAw h fun vs H Q h => by
  obtain ⟨s, R, m, A, B, l, n, h⟩ := h
  refine ⟨s, R, m, A, B, l, fun _ => n rfl, ?_⟩
  revert h
  cases gC s with
  | ok p => exact fun h y H' m' A' B' Ov x r => h y H' m' A' B' Ov (x.any fun z => nomatch z) ⟨r.1, r.2.1, fun z => nomatch z⟩
  | exc c ps s' => exact fun h cl d H' m' A' B' x q => h cl d H' m' A' B' (x.any fun z => nomatch z) q
  | stuck => exact id
theorem ac_slot {sh : List (Option Nat)} {gC : LS → Res (List AV × LS)} (i : Nat) {y : Str} {py : Pos} (hb : SC Y X b sh gC es) (hN : X.N[i]? = some y := by rfl) (hv : Vis X.env.scope y := by first | exact Or.inl rfl | exact Or.inr (Or.inl rfl) | exact Or.inr (Or.inr rfl)) (hd : (y == ("__debug__" : Str)) = false := by decide) (hcd : (y == ("__classdict__" : Str)) = false := by decide) :
    SC Y X true (some i :: sh) (slotC i gC) (.Name y py :: es) := sc_slot hN hv hd hcd (SC_up hb)
/-- what a def of the module is, to its callers -/
structure Cal (k : Nat) (X : Cx) (Y : Yx) (x : Str) (cf : CF) (g np : Nat) (io : List Nat) : Prop where
  ex : ∃ (f : Addr) (fd : FuncData) (ps : List Str), FnG X.prog X.w X.K X.mg X.base k f fd ps (spF Y.K Y.XR cf g np io) ∧ X.mg x = some (.ref f) ∧ PySem.W.keepIn X.K (.ref f) = true ∧ Binds X.K fd ps []
theorem e_call {sh : List (Option Nat)} {gC : LS → Res (List AV × LS)} {x : Str} {p : Pos} {cf : CF} {g np : Nat} {io : List Nat} (c : Cc k X Y) (F : Cal k X Y x cf g np io) (ha : SC Y X b sh gC (ea :: es)) (hio : ioOf 0 sh = io := by rfl) (hnp : sh.length = np := by rfl) (hg : Gl X x := by rfl) (hdb : (x == ("__debug__" : Str)) = false := by decide)
    (he : starEach (ea :: es) X.env = (false, eval ea X.env) :: starEach es X.env := by rfl) (hpl : (backTo pos (starEach es X.env)).any (·.1) = false := by rfl) : SE Y X b (callEE cf g gC) (.Call (.Name x p) (ea :: es) [] pos) := by
  obtain ⟨f, fd, ps, h1, h2, h3, h4⟩ := F.ex
  exact se_call hio hnp h1 c.room c.gd c.tk hg h2 h3 h4 ha hdb he hpl
theorem Cal.blk {x : Str} {cf : CF} {g np : Nat} {io : List Nat} (F : Cal k X Y x cf g np io) (s : Shared) (H : Hp) (scope : Scope) (cenv : Env) (fp : List Addr) : Cal k (X.blk s H scope cenv fp) Y.b x cf g np io := ⟨F.ex⟩

theorem _root_.MP.FnG.up {P : Program} {w : World} {K : PySem.W.Frag} {mg : Str → Option Value} {base : Heap} {j k : Nat} {f : Addr} {fd : FuncData} {ps : List Str} {sp : Sp} (F : FnG P w K mg base j f fd ps sp) (h : j ≤ k) : FnG P w K mg base k f fd ps sp :=
  ⟨F.len, fun A outer s H args us vs Q E hr hg e0 hb hv hs => F.run A outer s H args us vs Q E (hr.mono h) hg e0 hb hv hs⟩
/-! ### comprehensions -/
abbrev Blk (X : Cx) (scope : Scope) (s : Shared) (H : Hp) (C : Addr) (cl : List (Str × Addr)) (fp : List Addr) : Cx := X.blk s H scope (compEnvC scope cl C X.env) fp
theorem l_none {X : Cx} {Y : Yx} : PTs X [] (tG Y false relB (fun s => .ok (true, s))) := pts_none
theorem l_one {X : Cx} {Y : Yx} {b : Bool} {e : Expr} {f : LS → Res (Bool × LS)} (h : ST Y X b f e) : PTs X [e] (tG Y b relB f) := pts_one h
theorem e_lc (c : Cc k X Y) (ow : List (Str × Nat)) (own : List Nat) {elt tg iter : Expr} {ifs : List Expr} {scope : Scope} {fi : ItF} {t : Tg} {ft : LS → Res (Bool × LS)} {fe : EvF} {bi bt bl be : Bool} (hi : SI Y X bi fi tg iter)
    (hg : ∀ (s : Shared) (H : Hp) (C : Addr) (cl : List (Str × Addr)) (fp : List Addr), Cc k (Blk X scope s H C cl fp) Y.b → PG (Blk X scope s H C cl fp) tg (tgT Y.K t))
    (htt : ∀ (s : Shared) (H : Hp) (C : Addr) (cl : List (Str × Addr)) (fp : List Addr), Cc k (Blk X scope s H C cl fp) Y.b → PTs (Blk X scope s H C cl fp) ifs (tG Y.b bt relB ft))
    (he : ∀ (s : Shared) (H : Hp) (C : Addr) (cl : List (Str × Addr)) (fp : List Addr), Cc k (Blk X scope s H C cl fp) Y.b → SE Y.b (Blk X scope s H C cl fp) bl fe elt)
    (ok : BlkOk X.N X.env.scope scope ow := by exact blkOk_by (by rfl)) (ho : ow.map (·.2) = own := by rfl) (ht : ∀ i ∈ tgS t, i ∈ own := by decide) (hs : ∀ x, foldedSetIterable iter X.env x = pure x := by intro _; rfl)
    (hbe : (bt || bl) = be := by rfl) (hf : (bi || be) = b := by rfl) : SE Y X b (lcE own be t fi ft fe) (.ListComp elt [⟨tg, iter, ifs, 0⟩] scope pos) :=
  hf ▸ se_lc ho ht (fun e => by rw [← hbe, e]; rfl) (fun e => by rw [← hbe, e]; cases bt <;> rfl) c.calm c.nd hi ok (fun s H C cl fp => hg s H C cl fp (c.blk ..)) (fun s H C cl fp => htt s H C cl fp (c.blk ..)) (fun s H C cl fp => he s H C cl fp (c.blk ..)) hs

/-! ### methods of lists -/
variable {eo : Expr} {apos cpos : Pos} {i : Nat} {fp : LS → Res (List PyData)} {bA : Bool}
theorem m_append (c : Cc k X Y) (bad : Bool) (ho : SP Y X i fp eo) (ha : SA Y X bA gA (ea :: es)) (hp : bad = false → bA = true → ∀ s, fp s = .ok [] := by intro h1 h2; first | (intro _; rfl) | cases h2 | cases h1) (hbase : attributeBase eo "append" X.env (eval eo X.env) = eval eo X.env := by rfl)
    (hfew : ((backTo cpos (starEach (ea :: es) X.env)).all (fun x => !x.1) && (backToKw cpos (keywordEach [] X.env)).all (fun x => x.1.isSome) && decide ((ea :: es).length + ([] : List Keyword).length + (if ([] : List Keyword).isEmpty then 0 else 1) < 30)) = true := by rfl)
    (hline : (apos.endLine == cpos.line) = true := by rfl) (hs : starEach (ea :: es) X.env = (false, eval ea X.env) :: starEach es X.env := by rfl) (hplain : (backTo cpos (starEach es X.env)).any (·.1) = false := by rfl) :
    SE Y X true (mutE i bad (mutG .append) fp gA) (.Call (.Attribute eo "append" apos) (ea :: es) [] cpos) := se_mut c.hK PySem.F.plainAttrs_list PySem.F.slot_list_append PySem.F.type_list_append mtr_append ho ha hp hbase hfew hline hs hplain
theorem m_extend (c : Cc k X Y) (bad : Bool) (ho : SP Y X i fp eo) (ha : SA Y X bA gA (ea :: es)) (hp : bad = false → bA = true → ∀ s, fp s = .ok [] := by intro h1 h2; first | (intro _; rfl) | cases h2 | cases h1) (hbase : attributeBase eo "extend" X.env (eval eo X.env) = eval eo X.env := by rfl)
    (hfew : ((backTo cpos (starEach (ea :: es) X.env)).all (fun x => !x.1) && (backToKw cpos (keywordEach [] X.env)).all (fun x => x.1.isSome) && decide ((ea :: es).length + ([] : List Keyword).length + (if ([] : List Keyword).isEmpty then 0 else 1) < 30)) = true := by rfl)
    (hline : (apos.endLine == cpos.line) = true := by rfl) (hs : starEach (ea :: es) X.env = (false, eval ea X.env) :: starEach es X.env := by rfl) (hplain : (backTo cpos (starEach es X.env)).any (·.1) = false := by rfl) :
    SE Y X true (mutE i bad (mutG .extend) fp gA) (.Call (.Attribute eo "extend" apos) (ea :: es) [] cpos) := se_mut c.hK PySem.F.plainAttrs_list PySem.F.slot_list_extend PySem.F.type_list_extend mtr_extend ho ha hp hbase hfew hline hs hplain
theorem m_insert (c : Cc k X Y) (bad : Bool) (ho : SP Y X i fp eo) (ha : SA Y X bA gA (ea :: es)) (hp : bad = false → bA = true → ∀ s, fp s = .ok [] := by intro h1 h2; first | (intro _; rfl) | cases h2 | cases h1) (hbase : attributeBase eo "insert" X.env (eval eo X.env) = eval eo X.env := by rfl)
    (hfew : ((backTo cpos (starEach (ea :: es) X.env)).all (fun x => !x.1) && (backToKw cpos (keywordEach [] X.env)).all (fun x => x.1.isSome) && decide ((ea :: es).length + ([] : List Keyword).length + (if ([] : List Keyword).isEmpty then 0 else 1) < 30)) = true := by rfl)
    (hline : (apos.endLine == cpos.line) = true := by rfl) (hs : starEach (ea :: es) X.env = (false, eval ea X.env) :: starEach es X.env := by rfl) (hplain : (backTo cpos (starEach es X.env)).any (·.1) = false := by rfl) :
    SE Y X true (mutE i bad (mutG .insert) fp gA) (.Call (.Attribute eo "insert" apos) (ea :: es) [] cpos) := se_mut c.hK PySem.F.plainAttrs_list PySem.F.slot_list_insert PySem.F.type_list_insert mtr_insert ho ha hp hbase hfew hline hs hplain
theorem m_remove (c : Cc k X Y) (bad : Bool) (ho : SP Y X i fp eo) (ha : SA Y X bA gA (ea :: es)) (hp : bad = false → bA = true → ∀ s, fp s = .ok [] := by intro h1 h2; first | (intro _; rfl) | cases h2 | cases h1) (hbase : attributeBase eo "remove" X.env (eval eo X.env) = eval eo X.env := by rfl)
    (hfew : ((backTo cpos (starEach (ea :: es) X.env)).all (fun x => !x.1) && (backToKw cpos (keywordEach [] X.env)).all (fun x => x.1.isSome) && decide ((ea :: es).length + ([] : List Keyword).length + (if ([] : List Keyword).isEmpty then 0 else 1) < 30)) = true := by rfl)
    (hline : (apos.endLine == cpos.line) = true := by rfl) (hs : starEach (ea :: es) X.env = (false, eval ea X.env) :: starEach es X.env := by rfl) (hplain : (backTo cpos (starEach es X.env)).any (·.1) = false := by rfl) :
    SE Y X true (mutE i bad (mutG .remove) fp gA) (.Call (.Attribute eo "remove" apos) (ea :: es) [] cpos) := se_mut c.hK PySem.F.plainAttrs_list PySem.F.slot_list_remove PySem.F.type_list_remove mtr_remove ho ha hp hbase hfew hline hs hplain
theorem m_pop (c : Cc k X Y) (bad : Bool) (ho : SP Y X i fp eo) (ha : SA Y X bA gA (ea :: es)) (hp : bad = false → bA = true → ∀ s, fp s = .ok [] := by intro h1 h2; first | (intro _; rfl) | cases h2 | cases h1) (hbase : attributeBase eo "pop" X.env (eval eo X.env) = eval eo X.env := by rfl)
    (hfew : ((backTo cpos (starEach (ea :: es) X.env)).all (fun x => !x.1) && (backToKw cpos (keywordEach [] X.env)).all (fun x => x.1.isSome) && decide ((ea :: es).length + ([] : List Keyword).length + (if ([] : List Keyword).isEmpty then 0 else 1) < 30)) = true := by rfl)
    (hline : (apos.endLine == cpos.line) = true := by rfl) (hs : starEach (ea :: es) X.env = (false, eval ea X.env) :: starEach es X.env := by rfl) (hplain : (backTo cpos (starEach es X.env)).any (·.1) = false := by rfl) :
    SE Y X true (mutE i bad (mutG .pop) fp gA) (.Call (.Attribute eo "pop" apos) (ea :: es) [] cpos) := se_mut c.hK PySem.F.plainAttrs_list PySem.F.slot_list_pop PySem.F.type_list_pop mtr_pop ho ha hp hbase hfew hline hs hplain
theorem m_pop0 (c : Cc k X Y) (bad : Bool) (ho : SP Y X i fp eo) (hbase : attributeBase eo "pop" X.env (eval eo X.env) = eval eo X.env := by rfl) (hline : (apos.endLine == cpos.line) = true := by rfl) :
    SE Y X true (mutE i bad (mutG .pop) fp (fun s => .ok ([], s))) (.Call (.Attribute eo "pop" apos) [] [] cpos) := se_mut0 c.hK PySem.F.plainAttrs_list PySem.F.slot_list_pop PySem.F.type_list_pop mtr_pop ho hbase hline
theorem e_tup {kk} (h : SA Y X b gA es) : SE Y X b (tupE gA) (.Tuple es kk pos) := se_tup h
theorem e_lst (h : SA Y X b gA es) : SE Y X b (lstE gA) (.List es pos) := se_lst h

/-! ### more -/
theorem e_rd (ho : SP Y X i fp eo) : SE Y X false (rdE i fp) eo := se_rd ho
theorem e_frz (h : SE Y X b fa ea) : SE Y X b (frzE fa) ea := se_frz h
theorem e_neg (h : SE Y X b fa ea) : SE Y X b (negE fa) (.UnaryOp .USub ea pos) := se_neg h
theorem e_not (h : SE Y X b fa ea) : SE Y X b (notE fa) (.UnaryOp .Not ea pos) := se_not h
theorem e_one {op} (h : SE Y X b fa ea) : SE Y X b fa (.BoolOp op [ea] pos) := se_one h
theorem t_chain {o1 o2 : CmpOp} (h1 : OpR X (compareOp o1) (Op2 Y.K (cmpK o1))) (h2 : OpR X (compareOp o2) (Op2 Y.K (cmpK o2))) (ha : SE Y X ba fa ea) (hb : SE Y X bb fb eb) (hc : SE Y X bc fc ec) (hm : lastMarks [o1, o2] [eb, ec] = false := by rfl) (hf : (ba || (bb || bc)) = b := by rfl) :
    ST Y X b (fun s => tstR (chainE o1 o2 (bb || bc) fa fb fc s)) (.Compare ea [o1, o2] [eb, ec] pos) := hf ▸ st_chain h1 h2 ha hb hc hm
theorem e_chain {o1 o2 : CmpOp} (h1 : OpR X (compareOp o1) (Op2 Y.K (cmpK o1))) (h2 : OpR X (compareOp o2) (Op2 Y.K (cmpK o2))) (ha : SE Y X ba fa ea) (hb : SE Y X bb fb eb) (hc : SE Y X bc fc ec) (hm : lastMarks [o1, o2] [eb, ec] = false := by rfl) (hf : (ba || (bb || bc)) = b := by rfl) :
    SE Y X b (chainE o1 o2 (bb || bc) fa fb fc) (.Compare ea [o1, o2] [eb, ec] pos) := hf ▸ se_chain h1 h2 ha hb hc hm
theorem i_enum (c : Cc k X Y) {p tpos : Pos} {elts : List Expr} {kk : Nat} (hm : X.mg "enumerate" = none) (h : SA Y X b gA [ea]) (hg : Gl X "enumerate" := by rfl) (hs : starEach [ea] X.env = [(false, eval ea X.env)] := by rfl) : SI Y X b (itE gA) (.Tuple elts kk tpos) (.Call (.Name "enumerate" p) [ea] [] pos) := si_enum c.hK hg hm h hs
theorem i_zip (c : Cc k X Y) {p tpos : Pos} {elts : List Expr} {kk : Nat} (hm : X.mg "zip" = none) (h : SA Y X b gA [ea, eb]) (hg : Gl X "zip" := by rfl) (hs : starEach [ea, eb] X.env = (false, eval ea X.env) :: starEach [eb] X.env := by rfl) (hpl : (backTo pos (starEach [eb] X.env)).any (·.1) = false := by rfl) : SI Y X b (itZ gA) (.Tuple elts kk tpos) (.Call (.Name "zip" p) [ea, eb] [] pos) := si_zip c.hK hg hm h hs hpl
/-- several names at once -/
def parS (is : List Nat) (fA : LS → Res (List LV × LS)) : LS → SR := fun s => (fA s).toS fun p => if nlAll p.1 then match parL is p.1 p.2.sl with
      | some sl' => .nxt ⟨sl', p.2.ob⟩
      | none => .stuck
    else .stuck
theorem s_par (c : Cc k X Y) (i j : Nat) {x y : Str} {ex ey : Expr} {px py pt : Pos} {kt k2 pt2} (ha : SA Y X b gA [ex, ey]) (hi : X.N[i]? = some x := by rfl) (hj : X.N[j]? = some y := by rfl) (hij : i ≠ j := by decide)
    (hx : X.env.scope.names.lookup x = some .local := by rfl) (hy : X.env.scope.names.lookup y = some .local := by rfl) (hio : i ∉ io := by decide) (hjo : j ∉ io := by decide)
    (hw : swappedStores [.Tuple [.Name x px, .Name y py] kt pt] (.Tuple [ex, ey] k2 pt2) X.env = pure (some [x, y]) := by rfl) (hs : swapsWithSole [.Tuple [.Name x px, .Name y py] kt pt] (.Tuple [ex, ey] k2 pt2) pos.line X.env = pure false := by rfl) :
    SS Y X io (parS [i, j] gA) (.Assign [.Tuple [.Name x px, .Name y py] kt pt] (.Tuple [ex, ey] k2 pt2) pos) := ss_par c.calm c.nd hi hj hij hx hy hio hjo ha hw hs
theorem s_par3 (c : Cc k X Y) (i j l : Nat) {x y z : Str} {ex ey ez : Expr} {px py pz pt : Pos} {kt k2 pt2} (ha : SA Y X b gA [ex, ey, ez]) (hi : X.N[i]? = some x := by rfl) (hj : X.N[j]? = some y := by rfl) (hl : X.N[l]? = some z := by rfl) (hij : i ≠ j := by decide) (hil : i ≠ l := by decide) (hjl : j ≠ l := by decide)
    (hx : X.env.scope.names.lookup x = some .local := by rfl) (hy : X.env.scope.names.lookup y = some .local := by rfl) (hz : X.env.scope.names.lookup z = some .local := by rfl) (hio : i ∉ io := by decide) (hjo : j ∉ io := by decide) (hlo : l ∉ io := by decide)
    (hw : swappedStores [.Tuple [.Name x px, .Name y py, .Name z pz] kt pt] (.Tuple [ex, ey, ez] k2 pt2) X.env = pure (some [x, y, z]) := by rfl) (hs : swapsWithSole [.Tuple [.Name x px, .Name y py, .Name z pz] kt pt] (.Tuple [ex, ey, ez] k2 pt2) pos.line X.env = pure false := by rfl) :
    SS Y X io (parS [i, j, l] gA) (.Assign [.Tuple [.Name x px, .Name y py, .Name z pz] kt pt] (.Tuple [ex, ey, ez] k2 pt2) pos) := ss_par3 c.calm c.nd hi hj hl hij hil hjl hx hy hz hio hjo hlo ha hw hs
/-- a target of any form -/
def asgS (t : Tg) (fa : EvF) : LS → SR := fun s => (fa s).toS fun p => if p.1.nl then match bindT t p.1 p.2.sl with
      | some sl' => .nxt ⟨sl', p.2.ob⟩
      | none => .stuck
    else .stuck
theorem s_asg {t : Tg} {tg : Expr} (he : SE Y X b fa ea) (hg : PG X tg (tgT Y.K t)) (ht : ∀ i ∈ tgS t, i ∉ io := by decide) (hs : swapsWithSole [tg] ea pos.line X.env = pure false := by rfl) (hw : swappedStores [tg] ea X.env = pure none := by rfl) (h1 : (assignEach [tg] X.env).map (·.2) = [assign tg X.env] := by rfl) :
    SS Y X io (asgS t fa) (.Assign [tg] ea pos) := ss_asg he hg ht hs hw h1
theorem g_nil : PGs X [] (tgL Y.K .nil) := pgs_nil
theorem g_cons {t u : Tg} {e : Expr} {es : List Expr} (h1 : PG X e (tgT Y.K t)) (h2 : PGs X es (tgL Y.K u)) (hs : (assignEach (e :: es) X.env).map (·.2) = assign e X.env :: (assignEach es X.env).map (·.2) := by rfl) : PGs X (e :: es) (tgL Y.K (.cons t u)) := pgs_cons h1 h2 hs
theorem g_tup (c : Cc k X Y) {u : Tg} {es : List Expr} {kk : Nat} (h : PGs X es (tgL Y.K u)) (hn : (assignEach es X.env).length = tgN u := by rfl) (hst : (assignEach es X.env).findIdx? (·.1) = none := by rfl) : PG X (.Tuple es kk pos) (tgT Y.K (.tp u)) := by
  have q := pg_tup (k := kk) (pos := pos) c.calm h hn hst
  rw [c.hK] at q
  exact q
theorem s_setix (c : Cc k X Y) (bad : Bool) {fk : EvF} {ek : Expr} {be : Bool} {p2 : Pos} (he : SE Y X be fa ea) (ho : SP Y X i fp eo) (hk : SE Y X false fk ek) (hs : swapsWithSole [.Subscript eo ek p2] ea pos.line X.env = pure false := by rfl) (hw : swappedStores [.Subscript eo ek p2] ea X.env = pure none := by rfl)
    (ha : ∀ v, assign (.Subscript eo ek p2) X.env v = (do
      let ov ← holding [v] (eval eo X.env)
      let iv ← holding [v, ov] (eval ek X.env)
      standAt p2
      holding [v, ov, iv] (setItem ov iv v)
      release [v, ov, iv] []) := by intro _; rfl)
    (h1 : (assignEach [.Subscript eo ek p2] X.env).map (·.2) = [assign (.Subscript eo ek p2) X.env] := by rfl) : SS Y X io (setS i bad fa fp fk) (.Assign [.Subscript eo ek p2] ea pos) := ss_setix c.hK c.hu he ho hk hs hw ha h1
theorem d_nil : SD Y X pos false [] (fun s => .ok ([], s)) [] [] := sd_nil
theorem d_cons {kx : Str} {ks : List Str} {keys : List (Option Expr)} {vals : List Expr} {j : Nat} {p : Pos} (he : SE Y X ba fa ea) (hr : SD Y X pos bb ks gA keys vals) (hf : (ba || bb) = b := by rfl) : SD Y X pos b (kx :: ks) (consA bb fa gA) (some (.Constant (.str kx) j p) :: keys) (ea :: vals) := hf ▸ sd_cons he hr
theorem e_dk {ks : List Str} {keys : List (Option Expr)} {vals : List Expr} (h : SD Y X pos b ks gA keys vals) (hall : keys.all (·.isSome) = true := by rfl) (hl : keys.length = vals.length := by rfl) (h0 : keys ≠ [] := by intro z; cases z) (h15 : keys.length ≤ 15 := by decide) : SE Y X b (dkE ks gA) (.Dict keys vals pos) := se_dk h hall hl h0 h15
theorem s_pass : SS Y X io (fun s => .nxt s) (.Pass pos) := ss_pass
theorem s_brk : SS Y X io (fun s => .brk s) (.Break pos) := ss_brk
theorem s_cnt : SS Y X io (fun s => .cnt s) (.Continue pos) := ss_cnt
theorem s_retN : SS Y X io (fun s => .ret (.imm .none) s) (.Return none pos) := ss_retN
end
end MP
/-! MP.30: a part of a dict becomes a shared thing (no text of its own) -/
namespace MP
open PySem PySem.Spec PyProof.Rows L2

def shareS (i : Nat) (k : Key) : LS → SR := fun s => match s.sl[i]? with
  | some (some (.dic ks)) => match lookK ks k with
    | some x => if x.giv then .nxt ⟨s.sl.set i (some (.dic (setK ks k (.ref s.ob.length)))), s.ob ++ [x]⟩ else .stuck
    | none => .stuck
  | _ => .stuck
theorem Rps.snoc {K : PySem.W.Frag} {H : Hp} {m : List Addr} {F : Addr → Prop} {us : List V} {xs : List LV} {O P : List Addr} {v : V} {x : LV} (r : Rps K H m F us xs O) (q : Rp K H m F v x P) : Rps K H m F (us ++ [v]) (xs ++ [x]) (O ++ P) := by
  have := r.app (Rps.cons q .nil)
  rwa [List.append_nil] at this
theorem share_key {K : PySem.W.Frag} {H : Hp} {m : List Addr} {F : Addr → Prop} {n : Nat} : ∀ {ks : List (Key × LV)} {vs : List (Key × V)} {O : List Addr} {k : Key} {x : LV}, Rpk K H m F vs ks O → lookK ks k = some x → x.giv = true →
    ∃ a Oc Or, Rp K H m F (.ref a) x Oc ∧ O.Perm (Oc ++ Or) ∧ ∀ m' : List Addr, (∀ (l : Nat) (a : Addr), m[l]? = some a → m'[l]? = some a) → m'[n]? = some a → Rpk K H m' F vs (setK ks k (.ref n)) Or
  | [], _, _, _, _, .nil, e, _ => by simp [lookK] at e
  | (k', y) :: ks, _, _, k, x, @Rpk.cons _ _ _ _ _ v vs _ _ O P r t, e, g => by
    unfold lookK at e
    by_cases hk : k' = k
    · rw [if_pos hk] at e
      cases e
      obtain ⟨a, rfl⟩ : ∃ a, v = .ref a := by
        cases r with
        | lst _ _ => exact ⟨_, rfl⟩
        | dic _ _ => exact ⟨_, rfl⟩
        | _ => simp [LV.giv] at g
      refine ⟨a, O, P, r, List.Perm.refl _, fun m' hm hn => ?_⟩
      unfold setK
      rw [if_pos hk]
      exact Rpk.cons (O := []) (.ref hn) (t.pres (W := []) Pres.refl (fun b z => nomatch z) hm (fun a f _ => f) (fun _ _ _ z => nomatch z) (fun _ _ z => nomatch z) (.inl rfl))
    · rw [if_neg hk] at e
      obtain ⟨a, Oc, Or, h1, h2, h3⟩ := share_key t e g
      refine ⟨a, Oc, O ++ Or, h1, (List.Perm.append_left O h2).trans pmid, fun m' hm hn => ?_⟩
      unfold setK
      rw [if_neg hk]
      exact .cons (r.pres (W := []) Pres.refl (fun b z => nomatch z) hm (fun a f _ => f) (fun _ _ _ z => nomatch z) (fun _ _ z => nomatch z) (.inl rfl)) (h3 m' hm hn)
theorem share_conv {Y : Yx} {io : List Nat} {i : Nat} {k : Key} {ga : LS → SR} {D : Ends} {vs : L2.St} {H : Hp} (h : tS Y io (fun s => (shareS i k s).bind ga) D vs H) : tS Y io ga D vs H := by
  obtain ⟨s, R, m, A, B, l, n, h⟩ := h
  replace h : PostS Y H R vs A B io ((shareS i k s).bind ga) D := h
  unfold shareS at h
  split at h
  · rename_i ks hx
    split at h
    · rename_i x ex
      by_cases g : x.giv = true
      case neg => rw [if_neg g] at h; exact h.elim
      rw [if_pos g] at h
      replace h : PostS Y H R vs A B io (ga ⟨s.sl.set i (some (.dic (setK ks k (.ref s.ob.length)))), s.ob ++ [x]⟩) D := h
      obtain ⟨v, O, A', ev, rv, rs, pm⟩ := l.sl.out hx
      have hi : i < s.sl.length := (List.getElem?_eq_some_iff.mp hx).1
      simp only [nlL, Bool.and_eq_true] at n
      have nx := nlS_at n.1 hx
      cases rv with
      | @dic a us _ O1 hA rk =>
        have hlen : m.length = s.ob.length := by
          have := l.ob.length
          simpa using this
        obtain ⟨p, Oc, Or, rx, pm2, mk⟩ := share_key (n := s.ob.length) rk ex g
        have hm : ∀ (l : Nat) (a : Addr), m[l]? = some a → (m ++ [p])[l]? = some a := fun l a e => by rw [List.getElem?_append_left ((List.getElem?_eq_some_iff.mp e).1)]; exact e
        have hn : (m ++ [p])[s.ob.length]? = some p := by rw [← hlen]; simp
        have rk' := mk (m ++ [p]) hm hn
        have upS : RpS Y.K H (m ++ [p]) (Fz R (A ++ B)) vs (s.sl.set i none) A' := rs.pres (W := []) Pres.refl (fun b z => nomatch z) hm (fun a f _ => f) (fun _ _ _ z => nomatch z) (fun _ _ z => nomatch z) (.inl rfl)
        have upO : Rps Y.K H (m ++ [p]) (Fz R (A ++ B)) (m.map V.ref) s.ob B := l.ob.pres (W := []) Pres.refl (fun b z => nomatch z) hm (fun a f _ => f) (fun _ _ _ z => nomatch z) (fun _ _ z => nomatch z) (.inl rfl)
        have upX : Rp Y.K H (m ++ [p]) (Fz R (A ++ B)) (.ref p) x Oc := rx.pres (W := []) Pres.refl (fun b z => nomatch z) hm (fun a f _ => f) (fun _ _ _ z => nomatch z) (fun _ _ z => nomatch z) (.inl rfl)
        obtain ⟨A2, q1, q2⟩ := upS.put (i := i) (v := .ref a) (by rw [List.getElem?_set_self hi]) ev (.dic hA rk')
        rw [List.set_set] at q1
        have ob2 : Rps Y.K H (m ++ [p]) (Fz R (A ++ B)) ((m ++ [p]).map V.ref) (s.ob ++ [x]) (B ++ Oc) := by
          rw [List.map_append]
          exact upO.snoc upX
        have all : (A2 ++ (B ++ Oc)).Perm (A ++ B) := by
          have h1 : (A2 ++ (B ++ Oc)).Perm ((a :: Or) ++ A' ++ (B ++ Oc)) := List.Perm.append_right _ q2
          have h2 : (A ++ B).Perm ((a :: O1) ++ A' ++ B) := List.Perm.append_right B pm
          have h3 : ((a :: O1) ++ A' ++ B).Perm ((a :: (Oc ++ Or)) ++ A' ++ B) := List.Perm.append_right B (List.Perm.append_right A' (List.Perm.cons a pm2))
          have h4 : ((a :: Or) ++ A' ++ (B ++ Oc)).Perm (Oc ++ ((a :: Or) ++ A' ++ B)) := by
            rw [← List.append_assoc ((a :: Or) ++ A') B Oc]
            exact List.perm_append_comm
          have h5 : ((a :: (Oc ++ Or)) ++ A' ++ B).Perm (Oc ++ ((a :: Or) ++ A' ++ B)) := by
            have : (a :: (Oc ++ Or)).Perm (Oc ++ (a :: Or)) := List.perm_middle.symm
            have := List.Perm.append_right B (List.Perm.append_right A' this)
            simpa [List.append_assoc] using this
          exact (h1.trans h4).trans ((h2.trans (h3.trans h5)).symm)
        have Fq : ∀ c, Fz R (A ++ B) c → Fz R (A2 ++ (B ++ Oc)) c := fun c f => ⟨fun w => f.1 (all.mem_iff.mp w), f.2⟩
        have l2 : LI Y.K H R vs ⟨s.sl.set i (some (.dic (setK ks k (.ref s.ob.length)))), s.ob ++ [x]⟩ (m ++ [p]) A2 (B ++ Oc) :=
          ⟨q1.pres (W := []) Pres.refl (fun b z => nomatch z) (fun _ _ e => e) (fun a f _ => Fq a f) (fun _ _ _ z => nomatch z) (fun _ _ z => nomatch z) (.inl rfl), ob2.fz' Fq, all.nodup_iff.mpr l.nd, fun c z => l.nr c (all.mem_iff.mp z), l.rs⟩
        have nn : nlL ⟨s.sl.set i (some (.dic (setK ks k (.ref s.ob.length)))), s.ob ++ [x]⟩ = true := by
          simp only [nlL, Bool.and_eq_true]
          refine ⟨nlS_set n.1 i _ fun y e => ?_, nls_app n.2 ?_⟩
          · cases e
            simpa [LV.nl] using nlk_set (by simpa [LV.nl] using nx) (show (LV.ref s.ob.length).nl = true from rfl)
          · have := nlk_look (by simpa [LV.nl] using nx) ex
            simp [LV.nls, this]
        refine ⟨_, R, m ++ [p], A2, B ++ Oc, l2, nn, ?_⟩
        refine PostS.next h (m1 := m ++ [p]) ⟨by rw [Rv_nil]; exact l2, List.nodup_nil, (fun _ z => nomatch z), Pres.refl, fun _ e => e, fun c z => .inl ?_, nn, fun _ _ => rfl⟩
        exact all.mem_iff.mp (z.elim id fun z => nomatch z)
    · exact h.elim
  · exact h.elim
theorem b_share {Y : Yx} {X : Cx} {io : List Nat} (i : Nat) (k : Key) {ga : LS → SR} {sts : List Stmt} (h : SB Y X io ga sts) : SB Y X io (fun s => (shareS i k s).bind ga) sts := PSsw h fun D vs H q => share_conv q
end MP
/-! MP.31: list(range(n)) -/
namespace MP
open PySem PySem.Spec PyProof.Rows L2

def rgOk (a b : Int) : Bool := decide (-(2 ^ 62) ≤ a ∧ a < 2 ^ 62 ∧ -(2 ^ 62) ≤ b ∧ b < 2 ^ 62 ∧ (b - a).toNat ≤ 2 ^ 24)
theorem rgOk_iff {a b : Int} (h : rgOk a b = true) : RgOk a b := by
  have q : -(2 ^ 62) ≤ a ∧ a < 2 ^ 62 ∧ -(2 ^ 62) ≤ b ∧ b < 2 ^ 62 ∧ (b - a).toNat ≤ 2 ^ 24 := of_decide_eq_true h
  exact q
def lrE (fa : EvF) : EvF := fun s => (fa s).bind fun p => match p.1 with
  | .imm (.int j) => if rgOk 0 j then .ok (.lst ((rangeD 0 j).map .imm), p.2) else .stuck
  | _ => .stuck
theorem rg_rps {K : PySem.W.Frag} {H : Hp} {m : List Addr} {F : Addr → Prop} (a b : Int) : Rps K H m F (rgV a b) ((rangeD a b).map .imm) [] := by
  unfold rgV rangeD
  induction List.range (b - a).toNat with
  | nil => exact .nil
  | cons i is ih => exact Rps.cons (O := []) (.imm (as := []) (.int _) fun _ z => nomatch z) ih
theorem lr_conv {Y : Yx} {b : Bool} {fa : EvF} {vs : L2.St} {H : Hp} {Q : VK} (h : tG Y b (relV Y) (lrE fa) vs H Q) : tLstRg (tRg1 (tG Y b (relV Y) fa)) vs H Q := by
  obtain ⟨s, R, m, A, B, l, n, h⟩ := h
  refine ⟨s, R, m, A, B, l, n, h.split id fun p hp h1 y H1 m1 A1 B1 P x1 r1 => ?_⟩
  obtain ⟨x, s1⟩ := p
  simp only at r1 h1 x1
  split at h1
  · rename_i j
    by_cases hj : rgOk 0 j = true
    · rw [if_pos hj] at h1
      cases r1 with
      | imm r f =>
        cases r
        refine ⟨j, rfl, (rgOk_iff hj), fun q hq => ?_⟩
        refine h1 (.ref q) _ m1 A1 B1 [q] (x1.res (Pres.new hq) (fun a z => ?_) (List.nodup_cons.mpr ⟨List.not_mem_nil, List.nodup_nil⟩)) (.lst upd_same (rg_rps 0 j))
        rw [List.mem_singleton.mp z]
        exact ⟨.inr hq, by rw [upd_same]; exact fun z => nomatch z⟩
    · rw [if_neg hj] at h1; exact h1.elim
  · exact h1.elim
theorem e_lr {k : Nat} {X : Cx} {Y : Yx} {b : Bool} {fa : EvF} {ea : Expr} {p p2 pos pos2 : Pos} (c : Cc k X Y) (h1 : X.mg "list" = none) (h2 : X.mg "range" = none) (ha : SE Y X b fa ea) (g1 : Gl X "list" := by rfl) (g2 : Gl X "range" := by rfl) (na : starEach [ea] X.env = (false, eval ea X.env) :: starEach [] X.env := by rfl)
    (nb : starEach [.Call (.Name "range" p2) [ea] [] pos2] X.env = (false, eval (.Call (.Name "range" p2) [ea] [] pos2) X.env) :: starEach [] X.env := by rfl) : SE Y X b (lrE fa) (.Call (.Name "list" p) [.Call (.Name "range" p2) [ea] [] pos2] [] pos) :=
  PEw (pe_listRg c.calm g1 h1 (prg_1 g2 h2 ha na) nb) fun vs H Q h => lr_conv h
end MP
/-! MP.32: constants by name; name = [..] on one line; calls with keywords only -/
namespace MP
open PySem PySem.Spec PyProof.Rows L2

def cE (d : PyData) : EvF := fun s => .ok (.imm d, s)
def tyE : LS → Res (Bool × LS) := fun s => .ok (true, s)
def nilC : LS → Res (List AV × LS) := fun s => .ok ([], s)
def noO : LS → Res (Option Int × LS) := fun s => .ok (none, s)
def nilP : LS → Res (List PyData) := fun _ => .ok []
def nxtS : LS → SR := fun s => .nxt s
def brkS : LS → SR := fun s => .brk s
def cntS : LS → SR := fun s => .cnt s
def retNS : LS → SR := fun s => .ret (.imm .none) s
def retS (fa : EvF) : LS → SR := fun s => (fa s).toS fun p => .ret p.1 p.2
def exS (fa : EvF) : LS → SR := fun s => (fa s).toS fun p => .nxt p.2
def tstE (fa : EvF) : LS → Res (Bool × LS) := fun s => tstR (fa s)
def ifS (ft : LS → Res (Bool × LS)) (ga gb : LS → SR) : LS → SR := fun s => (ft s).toS fun p => if p.1 then ga p.2 else gb p.2
def forS (f : ItF) (t : Tg) (ga : LS → SR) : LS → SR := fun s => (f s).toS fun p => if p.1.2 then .stuck else forL t ga p.1.1 p.2
def whlS (ft : LS → Res (Bool × LS)) (ga : LS → SR) : LS → SR := fun s => whlL ft ga fuel s
def seqS (ga gb : LS → SR) : LS → SR := fun s => (ga s).bind gb
section
variable {k : Nat} {X : Cx} {Y : Yx} {b ba bb bt bl be bi : Bool} {fa fb : EvF} {ea eb : Expr} {es : List Expr} {gA : LS → Res (List LV × LS)} {ga gb : LS → SR} {io : List Nat} {pos : Pos}
theorem k_int {kk pos} {i : Int} : SE Y X false (cE (.int i)) (.Constant (.int i) kk pos) := se_int
theorem k_str {kk pos} {x : Str} : SE Y X false (cE (.str x)) (.Constant (.str x) kk pos) := se_str
theorem k_bool {kk pos} {x : Bool} : SE Y X false (cE (.bool x)) (.Constant (.bool x) kk pos) := se_bool
theorem k_none {kk pos} : SE Y X false (cE .none) (.Constant .none kk pos) := se_none
theorem an : SA Y X false nilA [] := sa_nil
theorem acn : SC Y X false [] nilC [] := sc_nil
theorem dn : SD Y X pos false [] nilA [] [] := sd_nil
theorem on : SO Y X false noO none := so_none
theorem ln {X : Cx} {Y : Yx} : PTs X [] (tG Y false relB tyE) := pts_none
theorem lo {X : Cx} {Y : Yx} {b : Bool} {e : Expr} {fa : EvF} (h : ST Y X b (tstE fa) e) : PTs X [e] (tG Y b relB (tstE fa)) := pts_one h
theorem pn (i : Nat) {x : Str} (hN : X.N[i]? = some x := by rfl) (hv : Vis X.env.scope x := by first | exact Or.inl rfl | exact Or.inr (Or.inl rfl) | exact Or.inr (Or.inr rfl)) (hd : (x == ("__debug__" : Str)) = false := by decide) (hcd : (x == ("__classdict__" : Str)) = false := by decide) : SP Y X i nilP (.Name x pos) := sp_name hN hv hd hcd
theorem z_seq {st : Stmt} {rest : List Stmt} (h1 : SS Y X io ga st) (h2 : SB Y X io gb rest) : SB Y X io (seqS ga gb) (st :: rest) := sb_cons h1 h2
theorem z_nil : SB Y X io nxtS [] := sb_nil
theorem z_one {st : Stmt} (h1 : SS Y X io ga st) : SB Y X io ga [st] := sb_one h1
theorem z_ret (h : SE Y X b fa ea) : SS Y X io (retS fa) (.Return (some ea) pos) := ss_retE h
theorem z_ex (h : SE Y X b fa ea) (hs : swapsWith ea none pos.line X.env = pure false := by rfl) : SS Y X io (exS fa) (.Expr ea pos) := ss_expr h hs
theorem z_if {ec : Expr} {p q : List Stmt} (hc : ST Y X b (tstE fa) ec) (ha : SB Y X io ga p) (hb : SB Y X io gb q) : SS Y X io (ifS (tstE fa) ga gb) (.If ec p q pos) := ss_if hc ha hb
theorem z_for (c : Cc k X Y) (hp : PassesOwn (model X.prog X.w) X.A X.env X.xe) {f : ItF} {t : Tg} {tg iter : Expr} {body : List Stmt} (hi : SI Y X b f tg iter) (hg : PG X tg (tgT Y.K t)) (hb : SB Y X io ga body) (ht : ∀ i ∈ tgS t, i ∉ io := by decide)
    (hs : ∀ x, foldedSetIterable iter X.env x = pure x := by intro _; rfl) : SS Y X io (forS f t ga) (.For tg iter body [] pos) := ss_for hp c.calm hi hg ht hb hs
theorem z_whl (hp : PassesOwn (model X.prog X.w) X.A X.env X.xe) {ec : Expr} {body : List Stmt} (hc : ST Y X b (tstE fa) ec) (hb : SB Y X io ga body) : SS Y X io (whlS (tstE fa) ga) (.While ec body [] pos) := ss_whl hp hc hb
theorem z_pass : SS Y X io nxtS (.Pass pos) := ss_pass
theorem z_brk : SS Y X io brkS (.Break pos) := ss_brk
theorem z_cnt : SS Y X io cntS (.Continue pos) := ss_cnt
theorem z_retN : SS Y X io retNS (.Return none pos) := ss_retN
theorem z_share (i : Nat) (kk : Key) {sts : List Stmt} (h : SB Y X io ga sts) : SB Y X io (seqS (shareS i kk) ga) sts := b_share i kk h
/-- name = [.. for .. in ..] on one line -/
theorem z_lc (c : Cc k X Y) (i : Nat) (ow : List (Str × Nat)) (own : List Nat) {y : Str} {py : Pos} {elt tg iter : Expr} {ifs : List Expr} {scope : Scope} {p2 : Pos} {fi : ItF} {t : Tg} {ft : LS → Res (Bool × LS)} {fe : EvF} (hi : SI Y X bi fi tg iter)
    (hg : ∀ (s : Shared) (H : Hp) (C : Addr) (cl : List (Str × Addr)) (fp : List Addr), Cc k (Blk X scope s H C cl fp) Y.b → PG (Blk X scope s H C cl fp) tg (tgT Y.K t))
    (htt : ∀ (s : Shared) (H : Hp) (C : Addr) (cl : List (Str × Addr)) (fp : List Addr), Cc k (Blk X scope s H C cl fp) Y.b → PTs (Blk X scope s H C cl fp) ifs (tG Y.b bt relB ft))
    (he : ∀ (s : Shared) (H : Hp) (C : Addr) (cl : List (Str × Addr)) (fp : List Addr), Cc k (Blk X scope s H C cl fp) Y.b → SE Y.b (Blk X scope s H C cl fp) bl fe elt)
    (ok : BlkOk X.N X.env.scope scope ow := by exact blkOk_by (by rfl)) (ho : ow.map (·.2) = own := by rfl) (ht : ∀ i ∈ tgS t, i ∈ own := by decide) (hs : ∀ x, foldedSetIterable iter X.env x = pure x := by intro _; rfl)
    (hbe : (bt || bl) = be := by rfl) (hy : X.N[i]? = some y := by rfl) (hyl : X.env.scope.names.lookup y = some .local := by rfl) (hio : i ∉ io := by decide)
    (hsw : swapsWith (.ListComp elt [⟨tg, iter, ifs, 0⟩] scope p2) (some (.Name y py)) pos.line X.env = pure true := by rfl) :
    SS Y X io (setS1 i (lcE own be t fi ft fe)) (.Assign [.Name y py] (.ListComp elt [⟨tg, iter, ifs, 0⟩] scope p2) pos) :=
  PSw (ps_setLc (own := ow) c.calm c.nd hy hyl hsw hi ok (fun s H C cl fp => hg s H C cl fp (c.blk ..)) (fun s H C cl fp => htt s H C cl fp (c.blk ..)) (fun s H C cl fp => he s H C cl fp (c.blk ..)) hs) fun D vs H h => by
    have q := asg_conv (b := bi || be) (t := .nm i) (fun j hj => by simp [tgS] at hj; subst hj; exact hio) h
    rw [ho]
    unfold tgT at q
    exact lc_conv ht (fun e => by rw [← hbe, e]; rfl) (fun e => by rw [← hbe, e]; cases bt <;> rfl) q

/-! ### keywords only -/
abbrev SK (Y : Yx) (X : Cx) (b : Bool) (sh : List (Option Nat)) (f : LS → Res (List AV × LS)) (kws : List Keyword) : Prop := PK X kws (tA Y b sh f)
theorem PKw {kws : List Keyword} {t t' : TA} (h : PK X kws t) (w : ∀ σ H Q, t' σ H Q → t σ H Q) : PK X kws t' := ⟨fun pos pins s σ H Q I q => h.run pos pins s σ H Q I (w σ H Q q)⟩
theorem kn : SK Y X false [] nilC [] := PKw pk_nil fun vs H Q h => by
  obtain ⟨s, R, m, A, B, l, n, h⟩ := h
  exact h [] H m A B [] (Stp.refl l) ⟨.nil, rfl, fun _ => rfl⟩
theorem kc {sh : List (Option Nat)} {gC : LS → Res (List AV × LS)} {nm : Option Str} {kpos : Pos} {kws : List Keyword} (ha : SE Y X ba fa ea) (hb : SK Y X bb sh gC kws) (hf : (ba || bb) = b := by rfl) : SK Y X b (none :: sh) (consC bb fa gC) (⟨nm, ea, kpos⟩ :: kws) := by
  subst hf
  exact PKw (pk_cons ha hb) fun vs H Q h => scc_conv h
/-- how a def binds keywords that name all parameters in their order -/
structure CalK (k : Nat) (X : Cx) (Y : Yx) (x : Str) (ks : List Str) (cf : CF) (g np : Nat) (io : List Nat) : Prop where
  ex : ∃ (f : Addr) (fd : FuncData), FnG X.prog X.w X.K X.mg X.base k f fd ks (spF Y.K Y.XR cf g np io) ∧ X.mg x = some (.ref f) ∧ PySem.W.keepIn X.K (.ref f) = true ∧ ∀ (s : Shared) (ws : List Value), X.K.In s.heap → ws.length = ks.length → BindsTo s fd ⟨[], ks.zip ws⟩ (ks.zip ws)
theorem CalK.blk {x : Str} {ks : List Str} {cf : CF} {g np : Nat} {io : List Nat} (F : CalK k X Y x ks cf g np io) (s : Shared) (H : Hp) (scope : Scope) (cenv : Env) (fp : List Addr) : CalK k (X.blk s H scope cenv fp) Y.b x ks cf g np io := ⟨F.ex⟩
theorem e_callK {sh : List (Option Nat)} {gC : LS → Res (List AV × LS)} {x : Str} {ks : List Str} {p : Pos} {cf : CF} {g np : Nat} {io : List Nat} {kws : List Keyword} (c : Cc k X Y) (F : CalK k X Y x ks cf g np io) (ha : SK Y X b sh gC kws) (hio : ioOf 0 sh = io := by rfl) (hnp : sh.length = np := by rfl) (hg : Gl X x := by rfl) (hdb : (x == ("__debug__" : Str)) = false := by decide)
    (hall : (backToKw pos (keywordEach kws X.env)).all (·.1.isSome) = true := by rfl) (hks : (backToKw pos (keywordEach kws X.env)).filterMap (·.1) = ks := by rfl) (hpl : ((backTo pos (starEach [] X.env)).any (·.1) || (backToKw pos (keywordEach kws X.env)).any (·.1.isNone)) = false := by rfl) :
    SE Y X b (callEE cf g gC) (.Call (.Name x p) [] kws pos) := by
  obtain ⟨f, fd, h1, h2, h3, h4⟩ := F.ex
  refine ⟨fun pins s σ H Q I h => ?_⟩
  refine wpAny_Call_Name_kw (ld_glob I hg h2 ?_ hdb)
  refine PySem.W.callWith_KW0 (h₀ := X.base) I.ok.mod.kin h3 hall (thn (ha.run pos pins s σ H _ I (call_conv hio hnp h)) fun us s1 ⟨vs, H1, I1, r, q⟩ => ⟨I1.kIn, ?_⟩) hpl
  rw [hks]
  have hl : us.length = ks.length := by rw [← r.length]; exact h1.len _ _ _ _ q
  refine wpAny_call (codeAny_mono (run_fnG h1 c.room c.gd c.tk I1 (h4 s1 us I1.kIn hl) r q) fun r s' hq => ?_)
  cases r with
  | error e => exact hq
  | ok fl => cases fl <;> exact hq
end
end MP
/-! MP.33: what the combinators lead to, one rule each -/
namespace MP
open PySem PySem.Spec PyProof.Rows L2

section
variable {s s1 s2 s3 : LS} {fa fb fc : EvF} {gA gB : LS → Res (List LV × LS)} {gC : LS → Res (List AV × LS)} {fp : LS → Res (List PyData)} {ft : LS → Res (Bool × LS)} {fi : ItF} {x y z : LV} {xs ys : List LV} {d e : PyData} {ds es : List PyData} {r : RK} {b c : Bool} {i j : Int} {n m : Nat}
theorem ev_c : cE d s = .ok (.imm d, s) := rfl
theorem ev_v {i : Nat} (h : s.sl[i]? = some (some x)) (h2 : readV s.ob x = some y) : varE i s = .ok (y, s) := by simp only [varE, h, h2]
theorem ev_op {g : PyData → PyData → Option RK} {lv : LV → LV → RK → LV} {bb : Bool} (ha : fa s = .ok (x, s1)) (hb : fb s1 = .ok (y, s2)) (hd : x.dat s2.ob = some d) (he : y.dat s2.ob = some e) (hg : g d e = some r) (hz : lv x y r = z) (hn : bb = true → x.nl = true) : op2E g lv bb fa fb s = .ok (z, s2) := by
  have hn : ¬ (bb = true ∧ x.nl = false) := fun q => by rw [hn q.1] at q; exact nomatch q.2
  simp only [op2E, ha, Res.bind, if_neg hn, hb, hd, he, hg, hz]
theorem ev_neg (ha : fa s = .ok (.imm (.int i), s1)) : negE fa s = .ok (.imm (.int (-i)), s1) := by simp only [negE, ha, Res.bind]
theorem ev_bi {g : List PyData → Option RK} (ha : gA s = .ok (xs, s1)) (hd : datsOf s1.ob xs = some ds) (hg : g ds = some r) (hz : r.lv (lhs xs) = z) : biE g gA s = .ok (z, s1) := by
  simp only [biE, ha, Res.bind, hd, hg, hz]
theorem datsOf_nil {ob : List LV} : datsOf ob [] = some [] := rfl
theorem datsOf_cons {ob : List LV} (h : x.dat ob = some d) (t : datsOf ob xs = some ds) : datsOf ob (x :: xs) = some (d :: ds) := by simp only [datsOf, h, t]
theorem ev_tup (ha : gA s = .ok (xs, s1)) (hl : xs.length ≤ sizeLine) (hz : mkTup xs = z) : tupE gA s = .ok (z, s1) := by simp only [tupE, ha, Res.bind, if_pos hl, hz]
theorem ev_lst (ha : gA s = .ok (xs, s1)) (hl : xs.length ≤ sizeLine) : lstE gA s = .ok (.lst xs, s1) := by simp only [lstE, ha, Res.bind, if_pos hl]
theorem ev_nilA : nilA s = .ok ([], s) := rfl
theorem ev_consA {bb : Bool} (ha : fa s = .ok (x, s1)) (hb : gB s1 = .ok (xs, s2)) (hn : bb = true → x.nl = true) : consA bb fa gB s = .ok (x :: xs, s2) := by
  have hn : ¬ (bb = true ∧ x.nl = false) := fun q => by rw [hn q.1] at q; exact nomatch q.2
  simp only [consA, ha, Res.bind, if_neg hn, hb]
theorem ev_nilC : nilC s = .ok ([], s) := rfl
theorem ev_consC {bb : Bool} {as : List AV} (ha : fa s = .ok (x, s1)) (hb : gC s1 = .ok (as, s2)) (hn : bb = true → x.nl = true) : consC bb fa gC s = .ok (.dat x :: as, s2) := by
  have hn : ¬ (bb = true ∧ x.nl = false) := fun q => by rw [hn q.1] at q; exact nomatch q.2
  simp only [consC, ha, Res.bind, if_neg hn, hb]
theorem ev_slotC {i : Nat} {as : List AV} (h : s.sl[i]? = some (some x)) (hb : gC s = .ok (as, s2)) : slotC i gC s = .ok (.slot i :: as, s2) := by
  simp only [slotC, h, Res.bind, hb]
theorem ev_nilP : nilP s = .ok [] := rfl
theorem ev_snocP (ha : fp s = .ok ds) (hb : fa s = .ok (.imm d, s1)) : snocP fp fa s = .ok (ds ++ [d]) := by simp only [snocP, ha, Res.bind, hb]
theorem ev_take {i : Nat} (h : s.sl[i]? = some (some x)) : takeE i s = .ok (x, ⟨s.sl.set i none, s.ob⟩) := by simp only [takeE, takeV, h]
theorem ev_rd {i : Nat} (hp : fp s = .ok ds) (h : s.sl[i]? = some (some x)) (hg : getP x ds = some z) (hr : readV s.ob z = some y) : rdE i fp s = .ok (y, s) := by simp only [rdE, hp, noExc, Res.bind, h, hg, hr]
theorem ev_frz (ha : fa s = .ok (x, s1)) (hn : x.nl = true) (hd : x.dat0 = some d) : frzE fa s = .ok (.imm d, s1) := by simp only [frzE, ha, Res.bind, hn, if_pos, hd]
theorem ev_noO : noO s = .ok (none, s) := rfl
theorem ev_intO (ha : fa s = .ok (.imm (.int i), s1)) : intO fa s = .ok (some i, s1) := by simp only [intO, ha, Res.bind]
theorem ev_sl {fl fh : LS → Res (Option Int × LS)} {lo hi : Option Int} (ha : fa s = .ok (x, s1)) (hl : fl s1 = .ok (lo, s2)) (hh : fh s2 = .ok (hi, s3)) (hd : x.dat s3.ob = some d) (hs : slD d lo hi = some r) (hz : r.lv x.lh = z) : slE false fa fl fh s = .ok (z, s3) := by
  simp only [slE, Bool.false_eq_true, if_false, ha, Res.bind, hl, hh, hd, hs, hz]
theorem ev_mut {i : Nat} {g : LV → List LV → Option (LV × LV)} {z' : LV} (hp : fp s = .ok ds) (hl : isLst (getF s i ds) = true) (ha : gA s = .ok (xs, s1)) (hz : getF s1 i ds = some z) (hn : nlAll xs = true) (hg : g z xs = some (z', y)) (hw : putF s1 i ds z' = some s2) : mutE i false g fp gA s = .ok (y, s2) := by
  simp only [mutE, hp, noExc, Res.bind, hl, ha, hz, hn, hg, hw, Bool.false_eq_true, Bool.true_eq_false, if_false, if_true]
theorem ev_lr (ha : fa s = .ok (.imm (.int j), s1)) (h : rgOk 0 j = true) : lrE fa s = .ok (.lst ((rangeD 0 j).map .imm), s1) := by simp only [lrE, ha, Res.bind, h, if_true]
theorem ev_itP (ha : fa s = .ok (x, s1)) (hd : x.dat s1.ob = some d) (hi : itemsD d = some ds) (hl : x.lh = false) : itP fa s = .ok ((ds.map .imm, false), s1) := by
  simp only [itP, ha, Res.bind, hd, hi, hl]
  rfl
theorem ev_itPl (ha : fa s = .ok (x, s1)) (hd : x.dat s1.ob = some d) (hi : itemsD d = some ds) : itP fa s = .ok ((ds.map (mkImm x.lh), x.lh), s1) := by
  simp only [itP, ha, Res.bind, hd, hi]
theorem ev_itR1 (ha : gA s = .ok ([.imm (.int j)], s1)) (h : small62 j = true) : itR true gA s = .ok (((rangeD 0 j).map .imm, false), s1) := by simp only [itR, itR1, if_true, ha, Res.bind, h]
theorem ev_itR2 (ha : gA s = .ok ([.imm (.int i), .imm (.int j)], s1)) (h : small62 i = true) (h' : small62 j = true) : itR false gA s = .ok (((rangeD i j).map .imm, false), s1) := by simp only [itR, itR2, Bool.false_eq_true, if_false, ha, Res.bind, h, h', Bool.and_self, if_true]
theorem ev_tst (ha : fa s = .ok (.imm (.bool b), s1)) : tstE fa s = .ok (b, s1) := by simp only [tstE, tstR, ha, Res.bind, boolOf]
theorem ev_and (ha : fa s = .ok (.imm (.bool b), s1)) (hb : b = true → fb s1 = .ok (.imm (.bool c), s1)) : andE fa fb s = .ok (.imm (.bool (b && c)), s1) := by
  cases b with
  | false => simp only [andE, tstR, ha, Res.bind, boolOf, Bool.false_eq_true, if_false, Bool.false_and]
  | true => simp only [andE, tstR, ha, Res.bind, boolOf, if_true, hb rfl, Bool.true_and]
theorem ev_andE (ha : fa s = .ok (.imm (.bool b), s1)) {R : Res (LV × LS)} (hf : b = false → R = .ok (.imm (.bool false), s1)) (ht : b = true → ∃ c s2, fb s1 = .ok (.imm (.bool c), s2) ∧ R = .ok (.imm (.bool c), s2)) : andE fa fb s = R := by
  cases b with
  | false => simp only [andE, tstR, ha, Res.bind, boolOf, Bool.false_eq_true, if_false, hf rfl]
  | true =>
    obtain ⟨c, s2, e, h⟩ := ht rfl
    simp only [andE, tstR, ha, Res.bind, boolOf, if_true, e, h]
theorem ev_or (ha : fa s = .ok (.imm (.bool b), s1)) (hb : b = false → fb s1 = .ok (.imm (.bool c), s1)) : orE fa fb s = .ok (.imm (.bool (b || c)), s1) := by
  cases b with
  | true => simp only [orE, tstR, ha, Res.bind, boolOf, if_true, Bool.true_or]
  | false => simp only [orE, tstR, ha, Res.bind, boolOf, Bool.false_eq_true, if_false, hb rfl, Bool.false_or]
theorem ev_not (ha : fa s = .ok (.imm (.bool b), s1)) : notE fa s = .ok (.imm (.bool (!b)), s1) := by simp only [notE, tstR, ha, Res.bind, boolOf]
theorem ev_ite (hc : fc s = .ok (.imm (.bool b), s1)) {R : Res (LV × LS)} (ht : b = true → fa s1 = R) (hf : b = false → fb s1 = R) : iteE fc fa fb s = R := by
  cases b with
  | true => simp only [iteE, tstR, hc, Res.bind, boolOf, if_true, ht rfl]
  | false => simp only [iteE, tstR, hc, Res.bind, boolOf, Bool.false_eq_true, if_false, hf rfl]
/-! calls -/
theorem ev_call0 {cf : CF} {f : Nat} {as : List AV} (ha : gC s = .ok (as, s1)) (hx : argsOf s1 as = some xs) (h0 : slotsOf as = []) (hl : lhs (dataOf as) = false ∨ x.hm = true) (hc : cf f xs = .ok x []) (hn : x.nl = true) : callEE cf f gC s = .ok (x, s1) := by
  have q : ¬ ((lhs (dataOf as) = true ∧ x.hm = false) ∨ x.nl = false ∨ nlAll ([] : List LV) = false) := fun q => by
    rcases q with ⟨q, q'⟩ | q | q
    · rcases hl with hl | hl
      · rw [hl] at q; cases q
      · rw [hl] at q'; cases q'
    · rw [hn] at q; cases q
    · cases q
  simp only [callEE, ha, Res.bind, callE, hx, h0, hc, distinct, if_neg q, setOuts, wipeL]
  simp
theorem ev_call1 {cf : CF} {f i : Nat} {as : List AV} (ha : gC s = .ok (as, s1)) (hx : argsOf s1 as = some xs) (h0 : slotsOf as = [i]) (hl : lhs (dataOf as) = false) (hc : cf f xs = .ok x [y]) (hn : x.nl = true) (hy : y.nl = true) : callEE cf f gC s = .ok (x, ⟨s1.sl.set i (some y), s1.ob⟩) := by
  have q : ¬ ((lhs (dataOf as) = true ∧ x.hm = false) ∨ x.nl = false ∨ nlAll ([y] : List LV) = false) := fun q => by
    rcases q with ⟨q, q'⟩ | q | q
    · rw [hl] at q; cases q
    · rw [hn] at q; cases q
    · simp [nlAll, hy] at q
  rw [hl] at q
  simp only [callEE, ha, Res.bind, callE, hx, h0, hc, hl, distinct, if_neg q, setOuts, wipeL, List.set_set]
  simp
theorem argsOf_nil : argsOf s [] = some [] := rfl
theorem argsOf_dat {as : List AV} (h : x.dat s.ob = some d) (t : argsOf s as = some xs) : argsOf s (.dat x :: as) = some (.imm d :: xs) := by simp only [argsOf, h, t]
theorem argsOf_slot {i : Nat} {as : List AV} (h : s.sl[i]? = some (some x)) (g : x.giv = true) (t : argsOf s as = some xs) : argsOf s (.slot i :: as) = some (x :: xs) := by simp only [argsOf, h, t, g, if_true]
end
/-! statements -/
section
variable {s s1 s2 s3 : LS} {fa fb fc : EvF} {gA : LS → Res (List LV × LS)} {fp : LS → Res (List PyData)} {ft : LS → Res (Bool × LS)} {fi : ItF} {ga gb : LS → SR} {x y z : LV} {xs ys : List LV} {d e : PyData} {ds : List PyData} {b c : Bool} {R : SR} {sl' : List (Option LV)} {t : Tg}
theorem st_seq (ha : ga s = .nxt s1) (hb : gb s1 = R) : seqS ga gb s = R := by simp only [seqS, ha, SR.bind, hb]
theorem st_seqR (ha : ga s = .ret x s1) : seqS ga gb s = .ret x s1 := by simp only [seqS, ha, SR.bind]
theorem st_nxt : nxtS s = .nxt s := rfl
theorem st_if (hc : ft s = .ok (b, s1)) (ht : b = true → ga s1 = R) (hf : b = false → gb s1 = R) : ifS ft ga gb s = R := by
  cases b with
  | true => simp only [ifS, hc, Res.toS, if_true, ht rfl]
  | false => simp only [ifS, hc, Res.toS, Bool.false_eq_true, if_false, hf rfl]
theorem st_set {i : Nat} (ha : fa s = .ok (x, s1)) (hn : x.nl = true) (hi : i < s1.sl.length) (hs : s1.sl.set i (some x) = sl') : setS1 i fa s = .nxt ⟨sl', s1.ob⟩ := by
  simp only [setS1, ha, Res.toS, hn, if_true, bindT, if_pos hi, hs]
theorem st_par {is : List Nat} (ha : gA s = .ok (xs, s1)) (hn : nlAll xs = true) (hs : parL is xs s1.sl = some sl') : parS is gA s = .nxt ⟨sl', s1.ob⟩ := by
  simp only [parS, ha, Res.toS, hn, if_true, hs]
theorem st_asg (ha : fa s = .ok (x, s1)) (hn : x.nl = true) (hs : bindT t x s1.sl = some sl') : asgS t fa s = .nxt ⟨sl', s1.ob⟩ := by
  simp only [asgS, ha, Res.toS, hn, if_true, hs]
theorem st_ex (ha : fa s = .ok (x, s1)) : exS fa s = .nxt s1 := by simp only [exS, ha, Res.toS]
theorem st_ret (ha : fa s = .ok (x, s1)) : retS fa s = .ret x s1 := by simp only [retS, ha, Res.toS]
theorem st_for (hi : fi s = .ok ((xs, false), s1)) (h : forL t ga xs s1 = R) : forS fi t ga s = R := by simp only [forS, hi, Res.toS, Bool.false_eq_true, if_false, h]
theorem st_whl (h : whlL ft ga fuel s = R) : whlS ft ga s = R := h
theorem st_setix {i : Nat} {z' : LV} (ha : fa s = .ok (x, s1)) (hp : fp s1 = .ok ds) (hk : fc s1 = .ok (.imm d, s2)) (hz : getF s1 i ds = some z) (hn : x.nl = true) (hg : putZ z d x = some z') (hw : putF s1 i ds z' = some s3) : setS i false fa fp fc s = .nxt s3 := by
  simp only [setS, Bool.false_eq_true, if_false, ha, Res.toS, hp, noExc, hk, hz, hn, if_true, hg, hw]
theorem st_share {i : Nat} {k : Key} {ks : List (Key × LV)} (h : s.sl[i]? = some (some (.dic ks))) (hl : lookK ks k = some x) (hg : x.giv = true) : shareS i k s = .nxt ⟨s.sl.set i (some (.dic (setK ks k (.ref s.ob.length)))), s.ob ++ [x]⟩ := by
  simp only [shareS, h, hl, hg, if_true]
/-- a walk, item by item -/
theorem forL_run {α : Type} (v : α → LV) (I : List α → LS → Prop) {body : LS → SR} : ∀ {as done : List α} {s : LS}, I done s →
    (∀ pre x rest, done ++ as = pre ++ x :: rest → ∀ s, I pre s → ∃ sl', bindT t (v x) s.sl = some sl' ∧ ∃ s', (body ⟨sl', s.ob⟩ = .nxt s' ∨ body ⟨sl', s.ob⟩ = .cnt s') ∧ I (pre ++ [x]) s') →
    ∃ s', forL t body (as.map v) s = .nxt s' ∧ I (done ++ as) s'
  | [], done, s, h, _ => ⟨s, rfl, by rwa [List.append_nil]⟩
  | x :: as, done, s, h, hs => by
    obtain ⟨sl', e, s', hb, h'⟩ := hs done x as rfl s h
    obtain ⟨s2, e2, h2⟩ := forL_run v I (as := as) (done := done ++ [x]) h' fun pre y rest q => hs pre y rest (by rw [← q, List.append_assoc]; rfl)
    refine ⟨s2, ?_, by rwa [List.append_assoc] at h2⟩
    show forL t body (v x :: as.map v) s = _
    rw [forL, e]
    rcases hb with hb | hb <;> simp only [hb] <;> exact e2
/-- a walk that may hand back on the way -/
theorem whlL_run (I : Nat → LS → Prop) (Q : LS → Prop) {body : LS → SR} (hs : ∀ m s, I (m + 1) s → ∃ s1 s2, ft s = .ok (true, s1) ∧ (body s1 = .nxt s2 ∨ body s1 = .cnt s2) ∧ I m s2) (h0 : ∀ s, I 0 s → ∃ s1, ft s = .ok (false, s1) ∧ Q s1) : ∀ {m n : Nat} {s : LS}, m < n → I m s → ∃ s', whlL ft body n s = .nxt s' ∧ Q s'
  | 0, n + 1, s, _, h => by
    obtain ⟨s1, e, q⟩ := h0 s h
    exact ⟨s1, by simp only [whlL, e], q⟩
  | m + 1, n + 1, s, l, h => by
    obtain ⟨s1, s2, e, hb, h2⟩ := hs m s h
    obtain ⟨s', e', q⟩ := whlL_run I Q hs h0 (Nat.lt_of_succ_lt_succ l) h2
    refine ⟨s', ?_, q⟩
    rcases hb with hb | hb <;> simp only [whlL, e, hb] <;> exact e'
/-- a comprehension whose items change nothing -/
theorem compL_pure {α : Type} (v : α → LV) {own : List Nat} {fe : EvF} {ob : List LV} {W : List (Option LV)} {p : α → Bool} {e : α → LV} {B : α → List (Option LV)} : ∀ {as : List α} {sl : List (Option LV)}, wipeL sl own = W →
    (∀ a ∈ as, bindT t (v a) W = some (B a) ∧ wipeL (B a) own = W) → (∀ a ∈ as, ft ⟨B a, ob⟩ = .ok (p a, ⟨B a, ob⟩)) → (∀ a ∈ as, p a = true → fe ⟨B a, ob⟩ = .ok (e a, ⟨B a, ob⟩)) →
    ∃ sl', compL own t (lcStep ft fe) (as.map v) ⟨sl, ob⟩ = .ok ((as.filter p).map e, ⟨sl', ob⟩) ∧ (sl' = sl ∨ ∃ a ∈ as, sl' = B a)
  | [], sl, _, _, _, _ => ⟨sl, rfl, .inl rfl⟩
  | a :: as, sl, hw, hB, ht, he => by
    obtain ⟨b1, b2⟩ := hB a List.mem_cons_self
    obtain ⟨sl', e1, e2⟩ := compL_pure v (as := as) (sl := B a) b2 (fun a h => hB a (List.mem_cons_of_mem _ h)) (fun a h => ht a (List.mem_cons_of_mem _ h)) (fun a h => he a (List.mem_cons_of_mem _ h))
    refine ⟨sl', ?_, .inr ?_⟩
    · show compL own t (lcStep ft fe) (v a :: as.map v) ⟨sl, ob⟩ = _
      rw [compL]
      simp only [hw, b1, lcStep, ht a List.mem_cons_self, Res.bind]
      cases hp : p a with
      | true => simp only [if_true, he a List.mem_cons_self hp, Res.bind, e1, List.filter_cons, hp, List.map_cons]; rfl
      | false => simp only [Bool.false_eq_true, if_false, Res.bind, e1, List.filter_cons, hp]; rfl
    · rcases e2 with rfl | ⟨a', h, rfl⟩
      · exact ⟨a, List.mem_cons_self, rfl⟩
      · exact ⟨a', List.mem_cons_of_mem _ h, rfl⟩
theorem ev_lc {α : Type} (as : List α) (v : α → LV) {own : List Nat} {be : Bool} {fe : EvF} {W : List (Option LV)} {p : α → Bool} {e : α → LV} {B : α → List (Option LV)}
    (hi : fi s = .ok ((as.map v, false), s1)) (hc : cleanL s1.sl own = true) (hn : nlL s1 = true) (hx : nlAll (as.map v) = true) (hW : wipeL s1.sl own = W)
    (hB : ∀ a ∈ as, bindT t (v a) W = some (B a)) (hB2 : ∀ a ∈ as, wipeL (B a) own = W) (h0 : backL s1.sl s1.sl own = s1.sl) (h1 : ∀ a ∈ as, backL s1.sl (B a) own = s1.sl)
    (ht : ∀ a ∈ as, ft ⟨B a, s1.ob⟩ = .ok (p a, ⟨B a, s1.ob⟩)) (he : ∀ a ∈ as, p a = true → fe ⟨B a, s1.ob⟩ = .ok (e a, ⟨B a, s1.ob⟩)) (hl : ((as.filter p).map e).length ≤ sizeLine) (hy : nlAll ((as.filter p).map e) = true) :
    lcE own be t fi ft fe s = .ok (.lst ((as.filter p).map e), s1) := by
  obtain ⟨sl1, ob1⟩ := s1
  obtain ⟨sl', e1, e2⟩ := compL_pure v (sl := sl1) (ob := ob1) hW (fun a h => ⟨hB a h, hB2 a h⟩) ht he
  have hbad : ¬ lcBad own be ((as.map v, false), (⟨sl1, ob1⟩ : LS)) := fun q => by
    rcases q with ⟨q, _⟩ | q | q | q
    · cases q
    · rw [hc] at q; cases q
    · rw [hn] at q; cases q
    · rw [hx] at q; cases q
  have hb : backL sl1 sl' own = sl1 := by
    rcases e2 with rfl | ⟨a, h, rfl⟩
    · exact h0
    · exact h1 a h
  simp only [lcE, hi, Res.bind, if_neg hbad, e1, noExc, lcEnd, hb]
  exact if_pos ⟨hl, hy⟩
theorem ev_ty : tyE s = .ok (true, s) := rfl
end
/-! what goes back unchanged -/
mutual
theorem rsv_giv (ob : List (Option LV)) : ∀ {x : LV}, LV.giv.giv1 x = true → rsv ob x = some (x, ob)
  | .imm _, _ => rfl
  | .lst xs, h => by rw [rsv, rsvs_giv ob (xs := xs) (by simpa [LV.giv.giv1] using h)]; rfl
  | .tup xs, h => by rw [rsv, rsvs_giv ob (xs := xs) (by simpa [LV.giv.giv1] using h)]; rfl
  | .dic ks, h => by rw [rsv, rsvk_giv ob (ks := ks) (by simpa [LV.giv.giv1] using h)]; rfl
  | .ref _, h => by simp [LV.giv.giv1] at h
  | .lent _, h => by simp [LV.giv.giv1] at h
theorem rsvs_giv (ob : List (Option LV)) : ∀ {xs : List LV}, LV.giv.givs xs = true → rsv.rsvs ob xs = some (xs, ob)
  | [], _ => rfl
  | x :: xs, h => by
    have h : LV.giv.giv1 x = true ∧ LV.giv.givs xs = true := by simpa [LV.giv.givs] using h
    simp only [rsv.rsvs, rsv_giv ob h.1, rsvs_giv ob h.2]
theorem rsvk_giv (ob : List (Option LV)) : ∀ {ks : List (Key × LV)}, LV.giv.givk ks = true → rsv.rsvk ob ks = some (ks, ob)
  | [], _ => rfl
  | (k, x) :: xs, h => by
    have h : LV.giv.giv1 x = true ∧ LV.giv.givk xs = true := by simpa [LV.giv.givk] using h
    simp only [rsv.rsvk, rsv_giv ob h.1, rsvk_giv ob h.2]
end
section
variable {np ns : Nat} {io : List Nat} {body : LS → SR} {xs ys : List LV} {x y : LV} {s : LS} {ob ob' : List (Option LV)}
theorem run_ret (hl : xs.length = np) (hn : nlAll xs = true) (hb : body ⟨xs.map some ++ List.replicate (ns - np) none, []⟩ = .ret x s) (hx : rsv (s.ob.map some) x = some (y, ob)) (ho : outsOf s.sl io ob = some (ys, ob')) : runB np ns io body xs = .ok y ys := by
  simp only [runB, hl, hn, hb, endOf, hx, ho, and_self, if_true]
theorem run_nxt (hl : xs.length = np) (hn : nlAll xs = true) (hb : body ⟨xs.map some ++ List.replicate (ns - np) none, []⟩ = .nxt s) (ho : outsOf s.sl io (s.ob.map some) = some (ys, ob')) : runB np ns io body xs = .ok (.imm .none) ys := by
  simp only [runB, hl, hn, hb, endOf, ho, and_self, if_true]
end
/-! lists of data -/
theorem dats0_imm : ∀ ds : List PyData, LV.dats0 (ds.map .imm) = some ds
  | [] => rfl
  | d :: ds => by simp only [List.map_cons, LV.dats0, LV.dat0, dats0_imm ds]
theorem dat_lst {ob : List LV} (ds : List PyData) : (LV.lst (ds.map .imm)).dat ob = some (.list ds) := by simp only [LV.dat, LV.dat0, dats0_imm, Option.map_some]
theorem nls_imms : ∀ ds : List PyData, LV.nls (ds.map .imm) = true
  | [] => rfl
  | d :: ds => by simp only [List.map_cons, LV.nls, LV.nl, nls_imms ds, Bool.and_self]
theorem nl_lst (ds : List PyData) : (LV.lst (ds.map .imm)).nl = true := by rw [LV.nl]; exact nls_imms ds
theorem givs_imm : ∀ ds : List PyData, LV.giv.givs (ds.map .imm) = true
  | [] => rfl
  | d :: ds => by simp only [List.map_cons, LV.giv.givs, LV.giv.giv1, givs_imm ds, Bool.and_self]
theorem nlAll_imm (ds : List PyData) : nlAll (ds.map .imm) = true := by
  simp only [nlAll, List.all_map, List.all_eq_true]
  intro d _
  rfl
/-! operations -/
theorem atI_nat {α : Type} {xs : List α} {k : Nat} {x : α} (h : xs[k]? = some x) : atI xs (k : Int) = some x := by
  have hl : k < xs.length := (List.getElem?_eq_some_iff.mp h).1
  simp only [atI, ixN]
  rw [if_pos (by omega), if_pos (by omega)]
  simpa using h
theorem ixK_tup {xs : List PyData} {k : Nat} {d : PyData} (h : xs[k]? = some d) : ixK (.tuple xs) (.int k) = some (.dat d) := by simp only [ixK, ixD, atI_nat h, Option.map_some]
theorem ixK_lst {xs : List PyData} {k : Nat} {d : PyData} (h : xs[k]? = some d) : ixK (.list xs) (.int k) = some (.dat d) := by simp only [ixK, ixD, atI_nat h, Option.map_some]
theorem okD_int (i : Int) : okD (.int i) = true := by simp [okD, PyData.plain, PyData.depth]
theorem okD_bool (i : Bool) : okD (.bool i) = true := by simp [okD, PyData.plain, PyData.depth]
theorem okD_str (i : Str) : okD (.str i) = true := by simp [okD, PyData.plain, PyData.depth]
theorem alike_int (i j : Int) : PySem.W.alike (.int i) (.int j) = true := rfl
theorem lt_int (i j : Int) : cmpK .Lt (.int i) (.int j) = some (.dat (.bool (decide (i < j)))) := by
  simp [cmpK, cmpD, ltD, alike_int, okD_int, nnD, PySem.W.dataLt_int]
theorem gt_int (i j : Int) : cmpK .Gt (.int i) (.int j) = some (.dat (.bool (decide (j < i)))) := by
  simp [cmpK, cmpD, ltD, alike_int, okD_int, nnD, PySem.W.dataLt_int]
theorem ge_int (i j : Int) : cmpK .GtE (.int i) (.int j) = some (.dat (.bool (decide (j ≤ i)))) := by
  simp only [cmpK, cmpD, ltD, alike_int, okD_int, nnD, PySem.W.dataLt_int, Bool.and_self, if_true, Option.map_some]
  congr 3
  by_cases h : j ≤ i
  · rw [decide_eq_true h, decide_eq_false (by omega)]; rfl
  · rw [decide_eq_false h, decide_eq_true (by omega)]; rfl
theorem le_int (i j : Int) : cmpK .LtE (.int i) (.int j) = some (.dat (.bool (decide (i ≤ j)))) := by
  simp only [cmpK, cmpD, ltD, alike_int, okD_int, nnD, PySem.W.dataLt_int, Bool.and_self, if_true, Option.map_some]
  congr 3
  by_cases h : i ≤ j
  · rw [decide_eq_true h, decide_eq_false (by omega)]; rfl
  · rw [decide_eq_false h, decide_eq_true (by omega)]; rfl
theorem okD_datum {α : Type} [DecidableEq α] [PySem.W.Datum α] (a : α) (h : PySem.W.Datum.depth α ≤ 40 := by decide) : okD (PySem.W.Datum.toD a) = true := by
  simp only [okD, PySem.W.Datum.plain, Bool.true_and, decide_eq_true_eq]
  exact Nat.le_trans (PySem.W.Datum.depth_le a) h
theorem eq_datum {α : Type} [DecidableEq α] [PySem.W.Datum α] (a b : α) (h : PySem.W.Datum.depth α ≤ 40 := by decide) : cmpK .Eq (PySem.W.Datum.toD a) (PySem.W.Datum.toD b) = some (.dat (.bool (decide (a = b)))) := by
  simp only [cmpK, cmpD, okD_datum a h, okD_datum b h, Bool.and_self, if_true, PySem.W.Datum.eqv, Option.map_some]
theorem ne_datum {α : Type} [DecidableEq α] [PySem.W.Datum α] (a b : α) (h : PySem.W.Datum.depth α ≤ 40 := by decide) : cmpK .NotEq (PySem.W.Datum.toD a) (PySem.W.Datum.toD b) = some (.dat (.bool (!decide (a = b)))) := by
  simp only [cmpK, cmpD, okD_datum a h, okD_datum b h, Bool.and_self, if_true, PySem.W.Datum.eqv, Option.map_some]
theorem eq_int (i j : Int) : cmpK .Eq (.int i) (.int j) = some (.dat (.bool (decide (i = j)))) := eq_datum i j
theorem ne_int (i j : Int) : cmpK .NotEq (.int i) (.int j) = some (.dat (.bool (!decide (i = j)))) := ne_datum i j
theorem mod_int {i j : Int} (h : 0 < j) : bopD .Mod (.int i) (.int j) = some (.dat (.int (i % j))) := by simp [bopD, h]
theorem fdiv_int {i j : Int} (h : 0 < j) (h' : j.natAbs.log2 < 9000) : bopD .FloorDiv (.int i) (.int j) = some (.dat (.int (i / j))) := by simp [bopD, h, h']
theorem mul_int {i j : Int} (h : mulOk i j = true) : bopD .Mult (.int i) (.int j) = some (.dat (.int (i * j))) := by simp [bopD, h]
theorem add_int (i j : Int) : bopD .Add (.int i) (.int j) = some (.dat (.int (i + j))) := rfl
theorem sub_int (i j : Int) : bopD .Sub (.int i) (.int j) = some (.dat (.int (i - j))) := rfl
/-- a text shown -/
theorem repr_ok {d : PyData} (h1 : d.showable = true) (h2 : d.depth ≤ 40) (h3 : d.leavesShort 13 = true) (h4 : d.bulk ≤ 2 ^ 20) (h5 : d.plain = true) : biD .repr [d] = some (.dat (.str d.shown)) := by
  have h := PyData.shown_fits_bulk (by decide) (by decide) h3 h4
  simp [biD, h1, h2, h, h5]
/-- sorted -/
theorem pw_mem {α : Type} {R : α → α → Prop} : ∀ {ys : List α}, ys.Pairwise R → ∀ a ∈ ys, ∀ b ∈ ys, a = b ∨ R a b ∨ R b a
  | [], _, a, h, _, _ => by cases h
  | y :: ys, p, a, ha, b, hb => by
    obtain ⟨p1, p2⟩ := List.pairwise_cons.mp p
    rcases List.mem_cons.mp ha with rfl | ha' <;> rcases List.mem_cons.mp hb with rfl | hb'
    · exact .inl rfl
    · exact .inr (.inl (p1 _ hb'))
    · exact .inr (.inr (p1 _ ha'))
    · exact pw_mem p2 a ha' b hb'
theorem dataLe_eq (a b : PyData) : PySem.W.dataLe false id a b = !PySem.W.dataLt b a := rfl
theorem dataLt_asymm {a b : PyData} (h : PySem.W.dataLt a b = true) : PySem.W.dataLt b a = false := by
  have tl : PySem.W.TotalLe (PySem.W.dataLe false id) := PySem.W.sortLe_total (listOrd itemOrd) false PySem.W.keyToks
  rcases tl.total a b with t | t
  · rw [dataLe_eq] at t
    simpa using t
  · rw [dataLe_eq, h] at t; cases t
theorem sortD_eq {xs ys : List PyData} (hp : ys.Perm xs) (hs : ys.Pairwise fun a b => PySem.W.dataLt a b = true) : sortD xs = ys := by
  have tl : PySem.W.TotalLe (PySem.W.dataLe false id) := PySem.W.sortLe_total (listOrd itemOrd) false PySem.W.keyToks
  have hq := List.mergeSort_perm xs (PySem.W.dataLe false id)
  refine List.Perm.eq_of_pairwise (le := fun a b => PySem.W.dataLe false id a b = true) (fun a b ha hb h1 h2 => ?_) (List.pairwise_mergeSort (fun a b c => tl.trans a b c) (fun a b => by simpa using tl.total a b) xs) (hs.imp fun h => by rw [dataLe_eq, dataLt_asymm h]; rfl) (hq.trans hp.symm)
  rw [dataLe_eq] at h1 h2
  rcases pw_mem hs a (hp.symm.subset (hq.subset ha)) b hb with e | e | e
  · exact e
  · rw [e] at h2; cases h2
  · rw [e] at h1; cases h1
end MP
/-! MP.34: evaluation by one word -/
namespace MP
open PySem PySem.Spec PyProof.Rows L2
section
variable {s s1 s2 s3 : LS} {fa fb fc : EvF} {x y z : LV} {xs ys : List LV} {d e : PyData} {ds es : List PyData} {r : RK} {b c : Bool} {i j : Int} {n m : Nat} {ob : List LV}
theorem v_imm {i : Nat} (h : s.sl[i]? = some (some (.imm d)) := by rfl) : varE i s = .ok (.imm d, s) := ev_v h rfl
theorem v_ref {i l : Nat} (h : s.sl[i]? = some (some (.ref l)) := by rfl) : varE i s = .ok (.ref l, s) := ev_v h rfl
theorem v_lst {i : Nat} (h : s.sl[i]? = some (some (.lst (ds.map .imm))) := by rfl) : varE i s = .ok (.lent (.list ds), s) := ev_v h (by
  simp only [readV, dat_lst, Option.map_some, mkLent]
  rfl)
theorem v_nil {i : Nat} (h : s.sl[i]? = some (some (.lst [])) := by rfl) : varE i s = .ok (.lent (.list []), s) := v_lst (ds := []) h
theorem dat_imm : (LV.imm d).dat ob = some d := rfl
theorem dat_lent : (LV.lent d).dat ob = some d := rfl
theorem dat_ref {l : Nat} (h : ob[l]? = some (.lst (ds.map .imm)) := by rfl) : (LV.ref l).dat ob = some (.list ds) := by
  simp only [LV.dat, h, LV.dat0, dats0_imm, Option.map_some]
theorem dat_nil : (LV.lst []).dat ob = some (.list []) := rfl
theorem lvB_imm : lvB (.imm d) (.imm e) (.dat (.int i)) = .imm (.int i) := rfl
theorem lvB_immd {f : PyData} : lvB (.imm d) (.imm e) (.dat f) = .imm f := rfl
theorem lvB_int : lvB x y (.dat (.int i)) = .imm (.int i) := by
  simp only [lvB, RK.lv, mkImm, mkLent, im]
  split <;> rfl
theorem lvB_bool : lvB x y (.dat (.bool b)) = .imm (.bool b) := by
  simp only [lvB, RK.lv, mkImm, mkLent, im]
  split <;> rfl
theorem lvC_dat : lvC x y (.dat d) = .imm d := rfl
theorem rk_imm {f : PyData} : (RK.dat f).lv (lhs [.imm d]) = .imm f := rfl
theorem rk_int : (RK.dat (.int i)).lv b = .imm (.int i) := by cases b <;> rfl
theorem rk_bool : (RK.dat (.bool c)).lv b = .imm (.bool c) := by cases b <;> rfl
theorem rk_str {t : Str} : (RK.dat (.str t)).lv b = .imm (.str t) := by cases b <;> rfl
theorem rk_nl : (RK.nl ds).lv (lhs [.imm d]) = .lst (ds.map .imm) := rfl
theorem len_lst : biD .len [.list ds] = some (.dat (.int ds.length)) := rfl
theorem len_tup : biD .len [.tuple ds] = some (.dat (.int ds.length)) := rfl
theorem len_scr : biD .len [.dict [(.none, .list ds)]] = some (.dat (.int ds.length)) := rfl
theorem len_scrD {ns : List Int} : biD .len [scrD ns] = some (.dat (.int ns.length)) := by
  simp only [scrD, biD, List.length_map]
theorem int_int : biD .int [.int i] = some (.dat (.int i)) := rfl
theorem tup_lst : biD .tuple [.list ds] = some (.dat (.tuple ds)) := rfl
theorem lst_lst : biD .list [.list ds] = some (.nl ds) := rfl
theorem lst_tup : biD .list [.tuple ds] = some (.nl ds) := rfl
theorem nf {P : Prop} : false = true → P := fun h => nomatch h
theorem nl_imm : true = true → (LV.imm d).nl = true := fun _ => rfl
theorem mk_imm2 : mkTup [.imm d, .imm e] = .imm (.tuple [d, e]) := rfl
theorem mk_imm3 {f : PyData} : mkTup [.imm d, .imm e, .imm f] = .imm (.tuple [d, e, f]) := rfl
theorem mk_nil : mkTup [] = .imm (.tuple []) := rfl
theorem len2 : [x, y].length ≤ sizeLine := by simp [sizeLine]
theorem len0 : ([] : List LV).length ≤ sizeLine := by decide
theorem len1 : [x].length ≤ sizeLine := by simp [sizeLine]
theorem len3 : [x, y, z].length ≤ sizeLine := by simp [sizeLine]
theorem hm_imm (h : im d = true) : (LV.imm d).hm = true := h
end
theorem ltl {i n : Nat} (h : Nat.ble (i + 1) n = true := by rfl) : i < n := Nat.le_of_ble_eq_true h
theorem rd_key {s : LS} {i : Nat} {k : Str} {x z y : LV} (h : s.sl[i]? = some (some x) := by rfl) (hg : getP x [.str k] = some z := by rfl) (hr : readV s.ob z = some y := by rfl) : rdE i (snocP nilP (cE (.str k))) s = .ok (y, s) := ev_rd (ev_snocP rfl rfl) h hg hr
section
variable {s s1 s2 : LS} {fa : EvF} {gA : LS → Res (List LV × LS)} {x : LV} {xs : List LV} {sl' : List (Option LV)} {t : Tg}
theorem st_set2 {i : Nat} (ha : fa s = .ok (x, s1)) (hn : x.nl = true) (hi : i < s1.sl.length) (hr : (⟨s1.sl.set i (some x), s1.ob⟩ : LS) = s2) : setS1 i fa s = .nxt s2 := by rw [st_set ha hn hi rfl, hr]
theorem st_par2 {is : List Nat} (ha : gA s = .ok (xs, s1)) (hn : nlAll xs = true) (hs : parL is xs s1.sl = some sl') (hr : (⟨sl', s1.ob⟩ : LS) = s2) : parS is gA s = .nxt s2 := by rw [st_par ha hn hs, hr]
theorem st_asg2 (ha : fa s = .ok (x, s1)) (hn : x.nl = true) (hs : bindT t x s1.sl = some sl') (hr : (⟨sl', s1.ob⟩ : LS) = s2) : asgS t fa s = .nxt s2 := by rw [st_asg ha hn hs, hr]
theorem st_share2 {i : Nat} {k : Key} {ks : List (Key × LV)} (h : s.sl[i]? = some (some (.dic ks))) (hl : lookK ks k = some x) (hg : x.giv = true) (hr : (⟨s.sl.set i (some (.dic (setK ks k (.ref s.ob.length)))), s.ob ++ [x]⟩ : LS) = s2) : shareS i k s = .nxt s2 := by rw [st_share h hl hg, hr]
theorem ev_take2 {i : Nat} (h : s.sl[i]? = some (some x)) (hr : (⟨s.sl.set i none, s.ob⟩ : LS) = s2) : takeE i s = .ok (x, s2) := by rw [ev_take h, hr]
theorem ev_call2 {y : LV} {gC : LS → Res (List AV × LS)} {cf : CF} {f i : Nat} {as : List AV} (ha : gC s = .ok (as, s1)) (hx : argsOf s1 as = some xs) (h0 : slotsOf as = [i]) (hl : lhs (dataOf as) = false) (hc : cf f xs = .ok x [y]) (hn : x.nl = true) (hy : y.nl = true) (hr : (⟨s1.sl.set i (some y), s1.ob⟩ : LS) = s2) : callEE cf f gC s = .ok (x, s2) := by rw [ev_call1 ha hx h0 hl hc hn hy, hr]
theorem nlAll_nil : nlAll [] = true := rfl
theorem nlAll_cons (h : x.nl = true) (t : nlAll xs = true) : nlAll (x :: xs) = true := by
  have t : xs.all LV.nl = true := t
  show (x :: xs).all LV.nl = true
  rw [List.all_cons, h, t]; rfl
end
section
variable {ob : List LV} {d : PyData} {ds : List PyData} {l : Nat}
theorem rd_key2 {s : LS} {i : Nat} {k : Str} {x z y : LV} (h : s.sl[i]? = some (some x)) (hg : getP x [.str k] = some z) (hr : readV s.ob z = some y) : rdE i (snocP nilP (cE (.str k))) s = .ok (y, s) := ev_rd (ev_snocP rfl rfl) h hg hr
theorem dat_ref2 {l : Nat} (h : ob[l]? = some (.lst (ds.map .imm))) : (LV.ref l).dat ob = some (.list ds) := dat_ref h
theorem rv_imm : readV ob (.imm d) = some (.imm d) := rfl
theorem rv_ref : readV ob (.ref l) = some (.ref l) := rfl
theorem rv_lst : readV ob (.lst (ds.map .imm)) = some (.lent (.list ds)) := by
  simp only [readV, dat_lst, Option.map_some, mkLent]
  rfl
theorem rv_nil : readV ob (.lst []) = some (.lent (.list [])) := rv_lst (ds := [])
end
end MP
/-! MP.35: from the table of defs to the law's walk -/
namespace MP
open PySem PySem.Spec PyProof.Rows L2
/-- nothing is raised out of a def -/
abbrev noXR : (Addr → Prop) → Hp → Nat → List PyData → Value → Option Addr → Prop := fun _ _ _ _ _ _ => False
theorem noMono : Mono noXR := fun _ _ _ _ _ _ _ _ h => h
theorem cal_mk {Pr : Program} {w : World} {K : PySem.W.Frag} {mg : Str → Option Value} {base : Heap} {XR : (Addr → Prop) → Hp → Nat → List PyData → Value → Option Addr → Prop} {k g np : Nat} {io : List Nat} {x : Str} {cf : CF} {f : Addr} {fd : FuncData} {ps : List Str}
    (F : FnG Pr w K mg base k f fd ps (spF K XR cf g np io)) (h : mg x = some (.ref f)) (kp : PySem.W.keepIn K (.ref f) = true) (b : Binds K fd ps []) :
    ∀ (X : Cx) (Y : Yx), X.prog = Pr → X.w = w → X.K = K → X.mg = mg → X.base = base → Y.K = K → Y.XR = XR → Cal k X Y x cf g np io := fun X Y e1 e2 e3 e4 e5 e6 e7 =>
  ⟨f, fd, ps, by rw [e1, e2, e3, e4, e5, e6, e7]; exact F, by rw [e4]; exact h, by rw [e3]; exact kp, by rw [e3]; exact b⟩
theorem calK_mk {Pr : Program} {w : World} {K : PySem.W.Frag} {mg : Str → Option Value} {base : Heap} {XR : (Addr → Prop) → Hp → Nat → List PyData → Value → Option Addr → Prop} {k g np : Nat} {io : List Nat} {x : Str} {cf : CF} {f : Addr} {fd : FuncData} {ps : List Str}
    (F : FnG Pr w K mg base k f fd ps (spF K XR cf g np io)) (h : mg x = some (.ref f)) (kp : PySem.W.keepIn K (.ref f) = true) (b : ∀ (s : Shared) (ws : List Value), K.In s.heap → ws.length = ps.length → BindsTo s fd ⟨[], ps.zip ws⟩ (ps.zip ws)) :
    ∀ (X : Cx) (Y : Yx), X.prog = Pr → X.w = w → X.K = K → X.mg = mg → X.base = base → Y.K = K → Y.XR = XR → CalK k X Y x ps cf g np io := fun X Y e1 e2 e3 e4 e5 e6 e7 =>
  ⟨f, fd, by rw [e1, e2, e3, e4, e5, e6, e7]; exact F, by rw [e4]; exact h, by rw [e3]; exact kp, by rw [e3]; exact b⟩
theorem bits_lt {z : Int} {B : Nat} (h : Builtin.Int.intBits z ≤ B) : z.natAbs < 2 ^ B := by
  by_cases e : z = 0
  · subst e; exact Nat.pow_pos (by decide)
  · have h2 : z.natAbs.log2 + 1 ≤ B := by
      have : (z == 0) = false := by simpa using e
      simpa [Builtin.Int.intBits, this] using h
    exact (Nat.log2_lt (by omega)).mp h2
theorem walk_mp {l : PySem.W.OpenLaw} {n k f : Nat} {q : Program} {loose : List Str} {XP : (Str → Option Value) → Heap → Prop} {YP : World → Heap → Prop} {d : DefRec} {K : Params → PySem.W.Frag} {cf : CF} {x : Str}
    (hn : l.most = some n) (hn2 : n ≤ sizeLine) (hdf : d.params.defaults = []) (hr : Room k callerA)
    (hY : ∀ (w : World) (h : Heap), YP w h → (K w.params).In h)
    (F : ∀ (w : World) (mg : Str → Option Value) (fa : Addr) (h : Heap), (K w.params).In h → h.Ns mainGlobals mg → mg d.name = some (.ref fa) →
      ∃ fd : FuncData, (∀ (s : Shared) (u : Value), BindsTo s fd ⟨[u], []⟩ [(x, u)]) ∧
        ∀ base : Heap, (K w.params).In base → base.Ns mainGlobals mg → FnG l.prog w (K w.params) mg base k fa fd [x] (spF (K w.params) noXR cf f 1 []))
    (hc : ∀ ns : List Int, ns.length ≤ n → (∀ z ∈ ns, Builtin.Int.intBits z ≤ 1048576) → cf f [.imm (scrD ns)] = .ok (.imm (.bool true)) []) :
    PySem.W.WalkO q loose XP YP l.row.toRowW d [] (fun f vs => PySem.call f vs) := by
  refine Att.attach_callB hn hdf fun w s₀ s₁ mg mb fa o pm cd doc a vs ns G Y ho hd hcd hmg hobj hints hlen hbits hg => ?_
  have KX := hY w _ Y
  obtain ⟨fd, hb, hF⟩ := F w mg fa _ KX G.T.g hmg
  exact end_call KX G.T.g G.T.b G.T.builtins G.T.nolimit hg hobj hints (Nat.le_trans hlen hn2) hr hF hb (fun H hO hS => sp_script hO hS (hc ns hlen hbits)) fun H e s' z => by
    obtain ⟨a, B, H', cls, d, _, _, _, _, _, _, _, z⟩ := z
    exact z
end MP
/-! MP.36: *e in a display, where e is only read -/
namespace MP
open PySem PySem.Spec PyProof.Rows L2
/-- the items of what is only read -/
def starD : LV → Option (List LV)
  | .imm (.list ds) => some (ds.map .imm)
  | .imm (.tuple ds) => some (ds.map .imm)
  | .lent (.list ds) => some (ds.map mkLent)
  | .lent (.tuple ds) => some (ds.map mkLent)
  | _ => none
def starI (bb : Bool) (fa : EvF) (fb : LS → Res (List LV × LS)) : LS → Res (List LV × LS) := fun s => (fa s).bind fun p => if bb = true ∧ p.1.nl = false then .stuck else match starD p.1 with
  | some xs => (fb p.2).bind fun q => .ok (xs ++ q.1, q.2)
  | none => .stuck
section
variable {K : PySem.W.Frag} {H : Hp} {m : List Addr} {F : Addr → Prop}
theorem rds_imm : ∀ {vs : List V} {ds : List PyData} {as : List Addr}, RDs K H vs ds as → (∀ a ∈ as, F a) → Rps K H m F vs (ds.map .imm) []
  | _, _, _, .nil, _ => .nil
  | _, _, _, .cons r t, f => Rps.cons (O := []) (.imm r fun a z => f a (List.mem_append_left _ z)) (rds_imm t fun a z => f a (List.mem_append_right _ z))
theorem rds_lent : ∀ {vs : List V} {ds : List PyData} {as : List Addr}, RDs K H vs ds as → Rps K H m F vs (ds.map mkLent) []
  | _, _, _, .nil => .nil
  | _, d :: _, _, .cons r t => by
    refine Rps.cons (O := []) ?_ (rds_lent t)
    unfold mkLent
    split
    · rename_i h
      exact .imm r fun a z => by rw [RD.im r h] at z; cases z
    · exact .lent r
theorem starD_nl {x : LV} {xs : List LV} (h : starD x = some xs) (n : x.nl = true) : LV.nls xs = true := by
  unfold starD at h
  split at h
  · cases h; exact nls_imms _
  · cases h; exact nls_imms _
  · cases n
  · cases n
  · cases h
theorem starD_rp {v : V} {x : LV} {O : List Addr} {xs : List LV} (r : Rp K H m F v x O) (h : starD x = some xs) : O = [] ∧ ∃ p us, v = V.ref p ∧ (SqT K H p us ∨ SqL K H p us) ∧ Rps K H m F us xs [] := by
  unfold starD at h
  split at h
  · cases h
    cases r with
    | imm r f =>
      cases r with
      | lst e q => exact ⟨rfl, _, _, rfl, .inr (.inl (.inl e)), rds_imm q fun a z => f a (List.mem_cons_of_mem _ z)⟩
  · cases h
    cases r with
    | imm r f =>
      cases r with
      | tup e q => exact ⟨rfl, _, _, rfl, .inl e, rds_imm q f⟩
  · cases h
    cases r with
    | lent r =>
      cases r with
      | lst e q => exact ⟨rfl, _, _, rfl, .inr (.inl (.inl e)), rds_lent q⟩
  · cases h
    cases r with
    | lent r =>
      cases r with
      | tup e q => exact ⟨rfl, _, _, rfl, .inl e, rds_lent q⟩
  · cases h
end
section
variable {Y : Yx} {X : Cx} {ea : Expr} {es : List Expr} {ba bb b : Bool} {fa : EvF} {gb : LS → Res (List LV × LS)} {p : Pos}
theorem star_conv {vs : L2.St} {H : Hp} {Q : List V → Hp → Prop} (h : tG Y (ba || bb) (relVs Y) (starI bb fa gb) vs H Q) : StX.tStar Y.K (tG Y ba (relV Y) fa) (tG Y bb (relVs Y) gb) vs H Q := by
  obtain ⟨s, R, m, A, B, l, n, h⟩ := h
  refine ⟨s, R, m, A, B, l, fun e => n (by rw [e]; rfl), h.split (fun e => by cases ba <;> simp_all) fun p hp h1 y H1 m1 A1 B1 P x1 r1 => ?_⟩
  by_cases hc : bb = true ∧ p.1.nl = false
  · rw [if_pos hc] at h1; exact h1.elim
  rw [if_neg hc] at h1
  cases e : starD p.1 with
  | none => simp only [e] at h1; exact h1.elim
  | some xs =>
    simp only [e] at h1
    obtain ⟨rfl, a, us, rfl, hs, r1'⟩ := starD_rp r1 e
    refine ⟨a, us, rfl, hs, p.2, Rv R [], m1, A1, B1, x1.li, fun e => x1.nl (n (by rw [e]; cases ba <;> rfl)), h1.next x1 (fun e => by cases ba <;> cases bb <;> simp_all) fun q hq h2 z H2 m2 A2 B2 P2 x2 r2 => ?_⟩
    have r1'' := x1.keeps r1' x2 (by
      cases e2 : bb with
      | false => exact .inl rfl
      | true =>
        right
        refine starD_nl e ?_
        cases e3 : p.1.nl with
        | true => rfl
        | false => exact absurd ⟨e2, e3⟩ hc)
    exact h2 (us ++ z) H2 m2 A2 B2 ([] ++ P2) (x1.seq x2) (Rps.app r1'' (r2.fz Fz_rv))
theorem a_star (ha : SE Y X ba fa ea) (hb : SA Y X bb gb es) (hs : starEach (.Starred ea p :: es) X.env = (true, eval ea X.env) :: starEach es X.env := by rfl) (hf : (ba || bb) = b := by rfl) (hK : X.K = Y.K := by rfl) : SA Y X b (starI bb fa gb) (.Starred ea p :: es) := by
  subst hf
  exact PAw (StX.pa_star ha hb hs) fun vs H Q h => by rw [hK]; exact star_conv h
end
theorem ev_star {s s1 s2 : LS} {fa : EvF} {gb : LS → Res (List LV × LS)} {x : LV} {xs ys : List LV} {bb : Bool} (ha : fa s = .ok (x, s1)) (hd : starD x = some xs) (hb : gb s1 = .ok (ys, s2)) (hn : bb = true → x.nl = true) : starI bb fa gb s = .ok (xs ++ ys, s2) := by
  have hn : ¬ (bb = true ∧ x.nl = false) := fun q => by rw [hn q.1] at q; exact nomatch q.2
  simp only [starI, ha, Res.bind, if_neg hn, hd, hb]
end MP
/-! MP.37: enumerate over a list or a tuple -/
namespace MP
open PySem PySem.Spec PyProof.Rows L2
open Sem (wp)
set_option maxHeartbeats 8000000 in
theorem new_enum1 {v : Value} {o : Obj} {HH : Heap → Prop} (B : Begins v o HH) :
    Meets (Builtin.«enumerate.__new__» ⟨[.type "enumerate", v], []⟩) (fun _ R s => HH s.heap ∧
      R (.ok (.ret (.ref (s.heap.push o).objs.size))) { s with heap := (s.heap.push o).push { cls := .type "enumerate", data := .fields #[.none, .bool false, .ref s.heap.objs.size, rawInt 0, .none, .none] } }) :=
  .of_wp fun prog w A R s h => by
    obtain ⟨hp, g, d, tk, os⟩ := s; obtain ⟨h1, h⟩ := h
    have hsub := sub_enumerate
    have q1 : ∀ {A' : Around} {E : Value → Shared → Prop} {Q : Value → Shared → Prop}, Q (.ref hp.objs.size) ⟨hp.push o, g, d, tk, os⟩ → wpAny (model prog w) A' (pyIter v) Q E ⟨hp, g, d, tk, os⟩ :=
      fun q => B.iter prog w _ _ ⟨hp, g, d, tk, os⟩ _ h1 q
    wp_walk using q1
    refine wpAny_stack_any fun st => wpAny_pure ?_
    split
    · rename_i c _ _ _ _ _
      cases (c == Value.type "enumerate")
      · wp_walk using q1
        exact ⟨_, rfl, h⟩
      · wp_walk using q1
        exact ⟨_, rfl, h⟩
    · wp_walk using q1
      exact ⟨_, rfl, h⟩
theorem call_enum1 {prog : Program} {w : World} {A : Around} {E : Value → Shared → Prop} {s : Shared} {v : Value} {o : Obj} {HH : Heap → Prop} {Q : Value → Shared → Prop} (B : Begins v o HH) (h1 : HH s.heap)
    (h : ∀ h', IsEnum h' (s.heap.objs.size + 1) s.heap.objs.size 0 .none → h'.get? s.heap.objs.size = some o → h'.objs.size = s.heap.objs.size + 2 →
      (∀ b o, s.heap.get? b = some o → h'.get? b = some o) → Q (.ref (s.heap.objs.size + 1)) { s with heap := h' }) :
    wpAny (model prog w) A (call (.type "enumerate") [v]) Q E s := by
  refine callType_new F.called_enumerate (by decide) (F.typeCall_enumerate_1 _) (F.newCall_enumerate_1 _) (fun obj => F.args_object_init_2 obj _) F.entry_enumerate_new (new_enum1 B) ⟨h1, ?_⟩
  have hz : (s.heap.push o).objs.size = s.heap.objs.size + 1 := Heap.size_push ..
  show _ ∧ _
  rw [hz]
  have he : IsEnum ((s.heap.push o).push { cls := .type "enumerate", data := .fields #[.none, .bool false, .ref s.heap.objs.size, rawInt 0, .none, .none] }) (s.heap.objs.size + 1) s.heap.objs.size 0 .none := by
    have := Heap.get?_push_size (s.heap.push o) (o := { cls := .type "enumerate", data := .fields #[.none, .bool false, .ref s.heap.objs.size, rawInt 0, .none, .none] }) rfl
    rw [hz] at this; exact this
  refine ⟨⟨_, he, rfl⟩, h _ he (Heap.get?_push_of_some _ (Heap.get?_push_size _ B.free)) (by rw [Heap.size_push, hz]) fun b o x => Heap.get?_push_of_some _ (Heap.get?_push_of_some _ x)⟩
/-- the tuple at a, each item in a new pair -/
def Itet (K : PySem.W.Frag) (a : Addr) : It :=
  ⟨fun i H => ∃ (xs : List V) (x : V), SqT K H a xs ∧ xs[i]? = some x, fun i H v H' => ∃ T x, v = .ref T ∧ H T = none ∧ H' = upd H T (.tup [.int (i : Nat), x]) ∧ ∀ xs, SqT K H a xs → xs[i]? = some x, fun i H => ∃ xs : List V, SqT K H a xs ∧ xs.length ≤ i⟩
theorem turn_enumT {P : Program} {w : World} {K : PySem.W.Frag} {elts : List Expr} {kk : Nat} {tpos : Pos} (a e it : Addr) (hai : a ≠ it) (hea : e ≠ a) :
    Turn P w K (.Tuple elts kk tpos) (Itet K a) [e, it] e (fun i h => (∃ old, IsEnum h e it ((i : Nat) : Int) old) ∧ h.IsTupleIter it a i ∧ e ≠ it) where
  mem := by simp
  obj := fun i h st b hb => by
    obtain ⟨⟨old, he⟩, ⟨o, ho, hc, hd⟩, _⟩ := st
    have e' : b = e ∨ b = it := by simpa using hb
    rcases e' with z | z
    · rw [z]; exact ⟨_, he, fun v q => nomatch q⟩
    · rw [z]; exact ⟨o, ho, fun v q => by rw [hd] at q; cases q⟩
  keep := fun i h h' st k => let ⟨⟨old, he⟩, hi, hne⟩ := st; ⟨⟨old, k e (by simp) _ he⟩, hi.at fun o q => k it (by simp) o q, hne⟩
  item := by
    intro X hP hw hK hc i pins s σ H E I hf st hg
    subst hP hw hK
    obtain ⟨⟨old, he⟩, hit, hne⟩ := st
    obtain ⟨xs, x, hq, hx⟩ := hg
    obtain ⟨its, rv, p, hz⟩ := I.tuple hq
    obtain ⟨u, hu, ru⟩ := rv.get hx
    have hel : e < s.heap.objs.size := Heap.lt_size he
    have hil : it < s.heap.objs.size := by obtain ⟨_, q, _⟩ := hit; exact Heap.lt_size q
    have hlt : i < its.toArray.size := by
      have := (List.getElem?_eq_some_iff.mp hu).1
      simpa using this
    refine wpAny_pyNext_enum_itemC (Draws.tuple (A := X.A.in1) (I.ok.hd hc) it a hai its.toArray) he ⟨hit, show s.heap.IsTuple a its.toArray from p⟩ hlt hne (by simp [hne, hea]) fun y h' tk hy ho hit' hT hsz hk => ?_
    have ey : y = u := by
      have : its[i]? = some y := by simpa using hy
      rw [hu] at this; cases this; rfl
    subst ey
    refine ⟨_, rfl, wpAny_letOwnedTupleGo_enum (s := { s with heap := h', toks := tk + 1 }) ho fun h'' he' sb => ?_⟩
    have hT2 : h''.get? s.heap.objs.size = some { cls := .type "tuple", data := .seq #[.int i tk, y] } := (sb.2 _ (Nat.ne_of_gt hel)).trans hT
    have new : ObjOk X.prog X.w (upd H s.heap.objs.size (.tup [.int (i : Nat), x])) h'' s.heap.objs.size (.tup [.int (i : Nat), x]) :=
      ⟨by show 2 ≤ sizeLine; decide, [.int i tk, y], .cons ⟨_, rfl⟩ (.cons ru .nil), ⟨_, hT2, rfl, _, rfl⟩⟩
    have I1 : Inv X pins σ (upd H s.heap.objs.size (.tup [.int (i : Nat), x])) { s with heap := h'', toks := tk + 1 } :=
      I.turnedNew (ch := [e, it]) (fun b ob hb q => (sb.2 b (fun z => hb (by simp [z]))).trans (hk b ob (fun z => hb (by simp [z])) (fun z => hb (by simp [z])) q)) hf (Nat.le_refl _) new
    refine ⟨.ref s.heap.objs.size, _, I1, rfl, ⟨_, x, rfl, I.hok.fresh (Nat.le_refl _), rfl, fun ys hy => by rw [I.tuple_inj hy hq]; exact hx⟩, ⟨⟨y, ?_⟩, hit'.1.at fun o q => (sb.2 it (Ne.symm hne)).trans q, hne⟩, fun b hb => ?_⟩
    · have e1 : ((i + 1 : Nat) : Int) = (i : Int) + 1 := by omega
      rw [e1]; exact he'
    · have hb' : b < s.heap.objs.size := by
        have e' : b = e ∨ b = it := by simpa using hb
        rcases e' with z | z
        · rw [z]; exact hel
        · rw [z]; exact hil
      rw [upd_ne (Nat.ne_of_lt hb')]
      exact (hf b hb).1
  done := by
    intro X hP hw hK hc i pins s σ H E I hf st hg
    subst hP hw hK
    obtain ⟨⟨old, he⟩, hit, hne⟩ := st
    obtain ⟨xs, hq, hx⟩ := hg
    obtain ⟨its, rv, p, hz⟩ := I.tuple hq
    obtain ⟨f0, f1, f2, f3, f4, f5⟩ := hf it (by simp)
    have hl := rv.length
    have q1 : Builtin.SmallTypes.nextOf (.ref it) = Builtin.SmallTypes.nextOf (.ref it) := rfl
    have hT : s.TypeIs (.ref e) "enumerate" := ⟨_, he, rfl⟩
    unfold pyNext
    refine wpAny_bind (wpAny_attempt (wpAny_callSpecial?_slot (name := Str.ofString "__next__") hT F.slot_enumerate_next
      (wpAny_call_entry F.slot_enumerate_next hT F.entry_enumerate_next ?_ (F.args_enumerate_next_1 _))))
    show wpAny _ _ (field (.ref e) 2 >>= _) _ _ _
    refine wpAny_bind (wpAny_field he rfl (x := .ref it) rfl ?_)
    refine wpAny_bind (wpAny_nextOf_tuple_end (A := X.A.in1) (I.ok.hd hc) hit (show s.heap.IsTuple a its.toArray from p) (by simp; omega) fun h' x he' hx' => ?_)
    obtain ⟨o, ho, hc'⟩ := hx'
    refine wpAny_bind (wpAny_isInstance (T := "StopIteration") (b := true) ⟨o, ho, hc'⟩ isSubtype_stop ?_)
    exact wpAny_pure ⟨rfl, I.turned (t' := s.toks) (fun b o hb q => he' b o hb q) f0 f1 f3 f4 f5⟩
  self := fun A i s Q E st h => let ⟨⟨_, he⟩, _⟩ := st; wpAny_pyIter_enum he h
theorem walk_enumT {K : PySem.W.Frag} {a : Addr} {xs : List V} : Walk (Itet K a) xs.length (fun H => SqT K H a xs) (YPair (fun i => some (.int (i : Nat))) (fun i => xs[i]?)) := by
  refine ⟨fun i _ hi q => ⟨xs, xs[i], q, by simp [hi]⟩, fun _ q => ⟨xs, q, Nat.le_refl _⟩, fun i H v H' _ q y => ?_⟩
  obtain ⟨T, x, h1, h2, h3, h4⟩ := y
  exact ⟨T, .int (i : Nat), x, h1, h2, h3, rfl, h4 xs q⟩
def iEnumA (K : PySem.W.Frag) (ta : TA) : TI := fun σ H R => ta σ H fun vs H1 => ∃ a, vs = [.ref a] ∧ ((∃ xs, SqL K H1 a xs ∧ R (Ite K a) H1) ∨ ∃ xs, SqT K H1 a xs ∧ R (Itet K a) H1)
theorem pi_enumA {X : Cx} {e : Expr} {ta : TA} {p pos tpos : Pos} {elts : List Expr} {kk : Nat} (hg : Gl X "enumerate") (hm : X.mg "enumerate" = none) (ha : PA X [e] ta) (hs : starEach [e] X.env = [(false, eval e X.env)]) :
    PI X (.Tuple elts kk tpos) (.Call (.Name "enumerate" p) [e] [] pos) (iEnumA X.K ta) := by
  refine ⟨fun pins s σ H R I h => ?_⟩
  refine Call_ (ld_blt I hg hm boot_enumerate (PyProof.Rows.callWith_type1 (thn (ha.run pos pins s σ H _ I h) fun us s1 ⟨vs, H1, I1, r1, q1⟩ => ?_) hs rfl))
  obtain ⟨a, ex, q⟩ := q1
  subst ex
  cases r1 with
  | cons r rr =>
    cases rr
    cases r
    rcases q with ⟨xs, hq, q⟩ | ⟨xs, hq, q⟩
    · obtain ⟨its, rv, p', hz⟩ := I1.list hq
      refine call_enumerate_list p'.isList fun h' he hit hsz hk => wpAny_pyIter_enum he ?_
      have I2 : Inv X pins σ H1 { s1 with heap := h' } := I1.kept (t' := s1.toks) hk
      refine ⟨s1.heap.objs.size + 1, [s1.heap.objs.size + 1, s1.heap.objs.size], _, _, H1, rfl, I2, turn_enum a (s1.heap.objs.size + 1) s1.heap.objs.size, ⟨⟨.none, he⟩, hit, Nat.succ_ne_self _⟩, fun b hb => ?_, q⟩
      have e' : b = s1.heap.objs.size + 1 ∨ b = s1.heap.objs.size := by simpa using hb
      have hle : s1.heap.objs.size ≤ b := by
        rcases e' with z | z
        · rw [z]; exact Nat.le_add_right _ _
        · rw [z]; exact Nat.le_refl _
      exact I1.fpOk hle (I1.hok.fresh hle)
    · obtain ⟨its, rv, p', hz⟩ := I1.tuple hq
      have p2 : s1.heap.IsTuple a its.toArray := p'
      have hla : a < s1.heap.objs.size := by obtain ⟨_, q, _⟩ := p2; exact Heap.lt_size q
      refine call_enum1 (begins_tuple a its.toArray) p2 fun h' he hit hsz hk => wpAny_pyIter_enum he ?_
      have I2 : Inv X pins σ H1 { s1 with heap := h' } := I1.kept (t' := s1.toks) hk
      refine ⟨s1.heap.objs.size + 1, [s1.heap.objs.size + 1, s1.heap.objs.size], _, _, H1, rfl, I2, turn_enumT a (s1.heap.objs.size + 1) s1.heap.objs.size (Nat.ne_of_lt hla) (Ne.symm (Nat.ne_of_lt (Nat.lt_succ_of_lt hla))), ⟨⟨.none, he⟩, ⟨_, hit, rfl, rfl⟩, Nat.succ_ne_self _⟩, fun b hb => ?_, q⟩
      have e' : b = s1.heap.objs.size + 1 ∨ b = s1.heap.objs.size := by simpa using hb
      have hle : s1.heap.objs.size ≤ b := by
        rcases e' with z | z
        · rw [z]; exact Nat.le_add_right _ _
        · rw [z]; exact Nat.le_refl _
      exact I1.fpOk hle (I1.hok.fresh hle)
end MP
namespace MP
open PySem PySem.Spec PyProof.Rows L2
theorem iw_enumT {K : PySem.W.Frag} {H : Hp} {a : Addr} {us : List V} {ds : List PyData} {as : List Addr} (g : GT K a us ds as H) : IW K (Itet K a) (enumD 0 ds) as (GT K a us ds as) where
  w := by
    rw [enumD_len, ← g.2.len]
    exact (walk_enumT (K := K) (a := a) (xs := us)).mono (fun H g => g.1) fun i H v H' _ g y => by
      obtain ⟨T, x, y, rfl, h2, rfl, h4, h5⟩ := y
      cases h4
      obtain ⟨d, bs, q1, q2, q3⟩ := g.2.at h5
      refine ⟨Pres.new h2, _, [] ++ (bs ++ []), enumD_at q1, .tup (.inl (.inl upd_same)) (.cons ?_ (.cons (q2.pres (Pres.new h2) (fun _ z => nomatch z) (fun _ _ z => nomatch z)) .nil)), fun b z => q3 b (by simpa using z)⟩
      rw [Nat.zero_add]
      exact .int _
  keep := fun g p wm n => ⟨SqT.pres p wm g.1, g.2.pres p wm n⟩
  ex := fun g => g.2.dom
def itEA (fA : LS → Res (List LV × LS)) : ItF := fun s => (fA s).bind fun p => match datsOf p.2.ob p.1 with
  | some [d] => match itemsD d with
    | some ds => .ok (((enumD 0 ds).map (mkImm (lhs p.1)), lhs p.1), p.2)
    | none => .stuck
  | _ => .stuck
section
variable {Y : Yx} {X : Cx} {ea : Expr} {fA : LS → Res (List LV × LS)} {b : Bool} {pos : Pos}
theorem enumA_conv {vs : L2.St} {H : Hp} {Q : It → Hp → Prop} (h : tG Y b (relIt Y) (itEA fA) vs H Q) : iEnumA Y.K (tG Y b (relVs Y) fA) vs H Q := by
  obtain ⟨s, R, m, A, B, l, n, h⟩ := h
  refine ⟨s, R, m, A, B, l, n, h.split id fun p hp h1 us H1 m1 A1 B1 P x1 r1 => ?_⟩
  split at h1
  · rename_i d e1
    cases e2 : itemsD d with
    | none => rw [e2] at h1; exact h1.elim
    | some ds =>
      rw [e2] at h1
      obtain ⟨as, rd, f⟩ := datsOf_rd x1.obF r1 e1
      match us, as, rd, f with
      | _, _, .cons (v := v) r t, f =>
        cases t
        cases d with
        | list xs =>
          cases e2
          obtain ⟨a, us, as', rfl, rfl, g⟩ := r.listD (ds := ds) rfl
          exact ⟨a, rfl, .inl ⟨us, .inl (.inl g.1), h1 _ H1 m1 A1 B1 [] x1.drop (relIt_of (iw_enum g) g (frz_of x1 fun c z => f c (List.mem_append_left _ z)))⟩⟩
        | tuple xs =>
          cases e2
          cases r with
          | tup hq rs =>
            have g : GT Y.K _ _ _ _ H1 := ⟨hq, rs⟩
            exact ⟨_, rfl, .inr ⟨_, hq, h1 _ H1 m1 A1 B1 [] x1.drop (relIt_of (iw_enumT g) g (frz_of x1 fun c z => f c (List.mem_append_left _ z)))⟩⟩
        | _ => cases e2
  · exact h1.elim
theorem i_enumA {k : Nat} (c : Cc k X Y) {p tpos : Pos} {elts : List Expr} {kk : Nat} (hm : X.mg "enumerate" = none) (h : SA Y X b fA [ea]) (hg : Gl X "enumerate" := by rfl) (hs : starEach [ea] X.env = [(false, eval ea X.env)] := by rfl) : SI Y X b (itEA fA) (.Tuple elts kk tpos) (.Call (.Name "enumerate" p) [ea] [] pos) :=
  PIw (pi_enumA hg hm h hs) fun vs H Q h => by rw [c.hK]; exact enumA_conv h
theorem ev_itEA {s s1 : LS} {x : LV} {d : PyData} {ds : List PyData} (ha : fA s = .ok ([x], s1)) (hd : x.dat s1.ob = some d) (hi : itemsD d = some ds) : itEA fA s = .ok (((enumD 0 ds).map (mkImm (lhs [x])), lhs [x]), s1) := by
  simp only [itEA, ha, Res.bind, datsOf, hd, hi]
end
end MP
/-! MP.38: a call by keywords in any order, the values being names -/
namespace MP
open PySem PySem.Spec PyProof.Rows L2
def namesC : List Nat → LS → Res (List AV × LS)
  | [] => nilC
  | i :: is => consC false (varE i) (namesC is)
/-- the values of the names -/
inductive NV (vs : L2.St) : List Nat → List V → Prop
  | nil : NV vs [] []
  | cons {i : Nat} {is : List Nat} {v : V} {ys : List V} : vs[i]? = some (some v) → NV vs is ys → NV vs (i :: is) (v :: ys)
theorem NV.at {vs : L2.St} : ∀ {is : List Nat} {ys : List V}, NV vs is ys → ∀ {n i : Nat}, is[n]? = some i → ∃ v, ys[n]? = some v ∧ vs[i]? = some (some v)
  | _, _, .nil, n, i, e => by simp at e
  | _, _, .cons (v := v) h t, 0, i, e => by simp at e; subst e; exact ⟨v, rfl, h⟩
  | _, _, .cons h t, n + 1, i, e => by simp at e; simpa using t.at e
theorem NV.len {vs : L2.St} : ∀ {is : List Nat} {ys : List V}, NV vs is ys → is.length = ys.length
  | _, _, .nil => rfl
  | _, _, .cons _ t => by simp [t.len]
theorem NV.sub {vs : L2.St} : ∀ (is : List Nat), (∀ i ∈ is, ∃ v, vs[i]? = some (some v)) → ∃ ys, NV vs is ys
  | [], _ => ⟨[], .nil⟩
  | i :: is, h => by
    obtain ⟨v, hv⟩ := h i List.mem_cons_self
    obtain ⟨ys, hy⟩ := NV.sub is fun j hj => h j (List.mem_cons_of_mem _ hj)
    exact ⟨_, .cons hv hy⟩
section
variable {k : Nat} {X : Cx} {Y : Yx} {b : Bool} {pos : Pos}
theorem var_tv {i : Nat} {vs : L2.St} {H : Hp} {Q : VK} (h : tG Y false (relV Y) (varE i) vs H Q) : ∃ v, vs[i]? = some (some v) ∧ Q v H := by
  obtain ⟨s, R, m, A, B, l, n, h⟩ := h
  unfold varE at h
  split at h
  · rename_i x hx
    obtain ⟨u, P, e1, r, _⟩ := l.sl.get hx
    split at h
    · rename_i y hy
      refine ⟨u, e1, h u H m A B [] (Stp.refl l) ?_⟩
      rw [List.append_nil]
      exact readV_rp r l.ob hy
    · exact h.elim
  · exact h.elim
theorem names_tv : ∀ {is : List Nat} {vs : L2.St} {H : Hp} {Q : List V → Hp → Prop}, tA Y false (is.map fun _ => none) (namesC is) vs H Q → ∃ ys, NV vs is ys ∧ Q ys H
  | [], vs, H, Q, h => by
    obtain ⟨s, R, m, A, B, l, n, h⟩ := h
    exact ⟨[], .nil, h [] H m A B [] (Stp.refl l) ⟨.nil, rfl, fun _ => rfl⟩⟩
  | i :: is, vs, H, Q, h => by
    have q : tCons (tG Y false (relV Y) (varE i)) (tA Y false (is.map fun _ => none) (namesC is)) vs H Q := scc_conv (ba := false) (bb := false) h
    obtain ⟨v, e, q⟩ := var_tv q
    obtain ⟨ys, n, q⟩ := names_tv q
    exact ⟨_, .cons e n, q⟩
/-- keywords whose values are names -/
abbrev KN (X : Cx) (js : List Nat) (kws : List Keyword) : Prop := PK X kws fun σ H Q => ∃ ys, NV σ js ys ∧ Q ys H
theorem kn_nil : KN X [] [] := PKw pk_nil fun vs H Q h => by
  obtain ⟨ys, n, q⟩ := h
  cases n
  exact q
theorem kn_cons (i : Nat) {js : List Nat} {kws : List Keyword} {x : Str} {nm : Option Str} {kpos : Pos} (t : KN X js kws) (hN : X.N[i]? = some x := by rfl) (hv : Vis X.env.scope x := by first | exact Or.inl rfl | exact Or.inr (Or.inl rfl) | exact Or.inr (Or.inr rfl)) (hd : (x == ("__debug__" : Str)) = false := by decide) (hcd : (x == ("__classdict__" : Str)) = false := by decide) : KN X (i :: js) (⟨nm, .Name x pos, kpos⟩ :: kws) :=
  PKw (pk_cons (pe_var hN hv hd hcd) t) fun vs H Q h => by
    obtain ⟨ys, n, q⟩ := h
    cases n with
    | cons e n => exact ⟨_, e, _, n, q⟩
/-- the values in the parameters' order -/
def permA {α : Type} (pm : List Nat) (xs : List α) : List α := pm.filterMap fun i => xs[i]?
/-- how a def binds keywords that name all parameters, in any order -/
structure CalP (k : Nat) (X : Cx) (Y : Yx) (x : Str) (ks : List Str) (pm : List Nat) (cf : CF) (g np : Nat) : Prop where
  ex : ∃ (f : Addr) (fd : FuncData) (ps : List Str), FnG X.prog X.w X.K X.mg X.base k f fd ps (spF Y.K Y.XR cf g np []) ∧ X.mg x = some (.ref f) ∧ PySem.W.keepIn X.K (.ref f) = true ∧ ∀ (s : Shared) (ws : List Value), X.K.In s.heap → ws.length = ks.length → BindsTo s fd ⟨[], ks.zip ws⟩ (ps.zip (permA pm ws))
theorem CalP.blk {x : Str} {ks : List Str} {pm : List Nat} {cf : CF} {g np : Nat} (F : CalP k X Y x ks pm cf g np) (s : Shared) (H : Hp) (scope : Scope) (cenv : Env) (fp : List Addr) : CalP k (X.blk s H scope cenv fp) Y.b x ks pm cf g np := ⟨F.ex⟩
theorem perm_vals {vs : L2.St} {js : List Nat} {zs : List V} {us : List Value} (n : NV vs js zs) (r : Vals zs us) : ∀ {pm is : List Nat} {ys : List V}, (∀ i ∈ pm, i < js.length) → is = permA pm js → NV vs is ys → Vals ys (permA pm us)
  | [], is, ys, _, e, h => by
    subst e
    cases h
    exact .nil
  | i :: pm, is, ys, hl, e, h => by
    obtain ⟨j, hj⟩ : ∃ j, js[i]? = some j := ⟨_, List.getElem?_eq_getElem (hl i List.mem_cons_self)⟩
    obtain ⟨v, hv, ev⟩ := n.at hj
    obtain ⟨u, hu, ru⟩ := r.get hv
    have e : is = j :: permA pm js := by rw [e]; simp [permA, hj]
    subst e
    cases h with
    | cons e2 t =>
      rw [ev] at e2
      cases e2
      have : permA (i :: pm) us = u :: permA pm us := by simp [permA, hu]
      rw [this]
      exact .cons ru (perm_vals n r (fun a ha => hl a (List.mem_cons_of_mem _ ha)) rfl t)
theorem e_callP {x : Str} {ks : List Str} {pm is js : List Nat} {p : Pos} {cf : CF} {g np : Nat} {kws : List Keyword} (c : Cc k X Y) (F : CalP k X Y x ks pm cf g np) (ha : KN X js kws) (his : is = permA pm js := by rfl) (hpm : ∀ i ∈ pm, i < js.length := by decide) (hjs : ∀ j ∈ js, j ∈ is := by decide) (hnp : is.length = np := by rfl) (hlk : js.length = ks.length := by rfl) (hg : Gl X x := by rfl) (hdb : (x == ("__debug__" : Str)) = false := by decide)
    (hall : (backToKw pos (keywordEach kws X.env)).all (·.1.isSome) = true := by rfl) (hks : (backToKw pos (keywordEach kws X.env)).filterMap (·.1) = ks := by rfl) (hpl : ((backTo pos (starEach [] X.env)).any (·.1) || (backToKw pos (keywordEach kws X.env)).any (·.1.isNone)) = false := by rfl) :
    SE Y X false (callEE cf g (namesC is)) (.Call (.Name x p) [] kws pos) := by
  subst hnp
  obtain ⟨f, fd, ps, h1, h2, h3, h4⟩ := F.ex
  refine ⟨fun pins s σ H Q I h => ?_⟩
  have io0 : ioOf 0 (is.map fun _ => (none : Option Nat)) = [] := by
    have : ∀ (l : List Nat) (n : Nat), ioOf n (l.map fun _ => (none : Option Nat)) = [] := fun l => by
      induction l with
      | nil => intro n; rfl
      | cons a l ih => intro n; simp only [List.map_cons, ioOf]; exact ih _
    exact this is 0
  obtain ⟨ys, ny, q0⟩ := names_tv (call_conv io0 (by rw [List.length_map]) h)
  refine wpAny_Call_Name_kw (ld_glob I hg h2 ?_ hdb)
  have hz : ∃ zs, NV σ js zs := NV.sub js fun j hj => by
    obtain ⟨n, hn, e⟩ := List.mem_iff_getElem.mp (hjs j hj)
    obtain ⟨v, _, ev⟩ := ny.at (by rw [List.getElem?_eq_getElem hn, e])
    exact ⟨v, ev⟩
  obtain ⟨zs, nz⟩ := hz
  refine PySem.W.callWith_KW0 (h₀ := X.base) I.ok.mod.kin h3 hall (thn (ha.run pos pins s σ H (fun a H1 => a = zs ∧ H1 = H) I ⟨zs, nz, rfl, rfl⟩) fun us s1 ⟨vs, H1, I1, r, e1, e2⟩ => ⟨I1.kIn, ?_⟩) hpl
  subst e1 e2
  rw [hks]
  have hl : us.length = ks.length := by rw [← r.length, ← nz.len, hlk]
  have r2 := perm_vals nz r hpm his ny
  refine wpAny_call (codeAny_mono (run_fnG h1 c.room c.gd c.tk I1 (h4 s1 us I1.kIn hl) r2 q0) fun r s' hq => ?_)
  cases r with
  | error e => exact hq
  | ok fl => cases fl <;> exact hq
theorem calP_mk {Pr : Program} {w : World} {K : PySem.W.Frag} {mg : Str → Option Value} {base : Heap} {XR : (Addr → Prop) → Hp → Nat → List PyData → Value → Option Addr → Prop} {g np : Nat} {x : Str} {cf : CF} {f : Addr} {fd : FuncData} {ps ks : List Str} {pm : List Nat}
    (F : FnG Pr w K mg base k f fd ps (spF K XR cf g np [])) (h : mg x = some (.ref f)) (kp : PySem.W.keepIn K (.ref f) = true) (b : ∀ (s : Shared) (ws : List Value), K.In s.heap → ws.length = ks.length → BindsTo s fd ⟨[], ks.zip ws⟩ (ps.zip (permA pm ws))) :
    ∀ (X : Cx) (Y : Yx), X.prog = Pr → X.w = w → X.K = K → X.mg = mg → X.base = base → Y.K = K → Y.XR = XR → CalP k X Y x ks pm cf g np := fun X Y e1 e2 e3 e4 e5 e6 e7 =>
  ⟨f, fd, ps, by rw [e1, e2, e3, e4, e5, e6, e7]; exact F, by rw [e4]; exact h, by rw [e3]; exact kp, by rw [e3]; exact b⟩
end
end MP
/-! MP.39: place of a number in a list of numbers (list.index) -/
namespace MP
open PySem PySem.Spec PyProof.Rows L2
/-- the list, if it is only read -/
def rdL : LV → Option (List PyData)
  | .imm (.list ds) => some ds
  | .lent (.list ds) => some ds
  | _ => none
def idxE (bb : Bool) (fo : EvF) (gA : LS → Res (List LV × LS)) : EvF := fun s => (fo s).bind fun p => if bb = true ∧ p.1.nl = false then .stuck else match rdL p.1 with
  | none => .stuck
  | some ds => (gA p.2).bind fun q => match q.1, asInts ds with
    | [.imm (.int k)], some ns => if k ∈ ns then .ok (.imm (.int (ns.idxOf k)), q.2) else .stuck
    | _, _ => .stuck
section
variable {K : PySem.W.Frag} {H : Hp} {m : List Addr} {F : Addr → Prop}
theorem rdL_rp {v : V} {x : LV} {O : List Addr} {ds : List PyData} (r : Rp K H m F v x O) (h : rdL x = some ds) : ∃ a us as, v = .ref a ∧ H a = some (.lst us) ∧ RDs K H us ds as := by
  unfold rdL at h
  split at h
  · cases h
    cases r with
    | imm r f =>
      cases r with
      | lst e q => exact ⟨_, _, _, rfl, e, q⟩
  · cases h
    cases r with
    | lent r =>
      cases r with
      | lst e q => exact ⟨_, _, _, rfl, e, q⟩
  · cases h
theorem rds_ints : ∀ {ds : List PyData} {us : List V} {as : List Addr} {ns : List Int}, RDs K H us ds as → asInts ds = some ns → us = ns.map V.int
  | [], _, _, _, .nil, e => by cases e; rfl
  | d :: ds, _, _, _, .cons r t, e => by
    cases r with
    | int i =>
      obtain ⟨ms, e1, rfl⟩ := Option.map_eq_some_iff.mp (show (asInts ds).map (i :: ·) = some _ from e)
      rw [rds_ints t e1]; rfl
    | _ => cases e
end
theorem idx_get {k : Int} : ∀ {ns : List Int}, k ∈ ns → ns[ns.idxOf k]? = some k ∧ ∀ m z, m < ns.idxOf k → ns[m]? = some z → z ≠ k
  | n :: ns, h => by
    by_cases e : n = k
    · subst e
      simp [List.idxOf_cons]
    · have hb : (n == k) = false := by simpa using e
      have h' : k ∈ ns := (List.mem_cons.mp h).resolve_left fun q => e q.symm
      obtain ⟨h1, h2⟩ := idx_get h'
      rw [List.idxOf_cons, hb]
      refine ⟨by simpa using h1, fun m z hm hz => ?_⟩
      cases m with
      | zero => simp at hz; subst hz; exact e
      | succ m => exact h2 m z (by simpa using hm) (by simpa using hz)
section
variable {k : Nat} {X : Cx} {Y : Yx} {ba bb b : Bool} {fo : EvF} {gA : LS → Res (List LV × LS)} {eo ea : Expr}
theorem idx_conv {vs : L2.St} {H : Hp} {Q : VK} (h : tG Y (ba || bb) (relV Y) (idxE bb fo gA) vs H Q) : tBM Y.K "list" (rIndex Y.K) (tG Y ba (relV Y) fo) (tG Y bb (relVs Y) gA) vs H Q := by
  obtain ⟨s, R, m, A, B, l, n, h⟩ := h
  refine ⟨s, R, m, A, B, l, fun e => n (by rw [e]; rfl), h.split (fun e => by cases ba <;> simp_all) fun p hp h1 y H1 m1 A1 B1 P x1 r1 => ?_⟩
  by_cases hc : bb = true ∧ p.1.nl = false
  · rw [if_pos hc] at h1; exact h1.elim
  rw [if_neg hc] at h1
  cases e : rdL p.1 with
  | none => simp only [e] at h1; exact h1.elim
  | some ds =>
    simp only [e] at h1
    obtain ⟨a, us, as, rfl, ha, hr⟩ := rdL_rp r1 e
    refine ⟨.inl ⟨rfl, us, .inl (.inl ha)⟩, p.2, Rv R P, m1, A1, B1, x1.li, fun e => x1.nl (n (by rw [e]; cases ba <;> rfl)), h1.next x1 (fun e => by cases ba <;> cases bb <;> simp_all) fun q hq h2 z H2 m2 A2 B2 P2 x2 r2 => ?_⟩
    have r1' := x1.keep r1 x2 (by
      cases e2 : bb with
      | false => exact .inl rfl
      | true =>
        right
        cases e3 : p.1.nl with
        | true => rfl
        | false => exact absurd ⟨e2, e3⟩ hc)
    obtain ⟨a', us', as', ea', ha', hr'⟩ := rdL_rp r1' e
    cases ea'
    split at h2
    · rename_i k ns e5 e6
      by_cases hk : k ∈ ns
      · rw [if_pos hk] at h2
        rw [e5] at r2
        cases r2 with
        | cons r t =>
          cases t
          cases r with
          | imm r f =>
            cases r
            obtain rfl := rds_ints hr' e6
            obtain ⟨g1, g2⟩ := idx_get hk
            refine ⟨a, ns.map V.int, .int k, ns.idxOf k, .int k, rfl, rfl, .inl (.inl ha'), rfl, ?_, by rw [List.getElem?_map, g1]; rfl, by simp [eqV], fun m z' hm hz => ?_, h2 (.int (ns.idxOf k : Nat)) H2 m2 A2 B2 [] (x1.seq x2).drop (.imm (.int _) fun _ z => nomatch z)⟩
            · simp [List.all_map, flatV]
            · rw [List.getElem?_map] at hz
              obtain ⟨n', e7, rfl⟩ := Option.map_eq_some_iff.mp hz
              have := g2 m n' hm e7
              simpa [eqV] using this
      · rw [if_neg hk] at h2; exact h2.elim
    · exact h2.elim
theorem e_index {apos cpos : Pos} (c : Cc k X Y) (ho : SE Y X ba fo eo) (ha : SA Y X bb gA [ea]) (hf : (ba || bb) = b := by rfl) (hbase : attributeBase eo "index" X.env (eval eo X.env) = eval eo X.env := by rfl)
    (hfew : ((backTo cpos (starEach [ea] X.env)).all (fun x => !x.1) && (backToKw cpos (keywordEach [] X.env)).all (fun x => x.1.isSome) && decide ([ea].length + ([] : List Keyword).length + (if ([] : List Keyword).isEmpty then 0 else 1) < 30)) = true := by rfl)
    (hline : (apos.endLine == cpos.line) = true := by rfl) (hs : starEach [ea] X.env = (false, eval ea X.env) :: starEach [] X.env := by rfl) (hplain : (backTo cpos (starEach [] X.env)).any (·.1) = false := by rfl) :
    SE Y X b (idxE bb fo gA) (.Call (.Attribute eo "index" apos) [ea] [] cpos) := by
  subst hf
  exact PEw (pe_bm PySem.F.plainAttrs_list PySem.F.slot_list_index PySem.F.type_list_index mt_index ho ha hbase hfew hline hs hplain) fun vs H Q h => by rw [c.hK]; exact idx_conv h
end
theorem ev_idx {s s1 s2 : LS} {bb : Bool} {fo : EvF} {gA : LS → Res (List LV × LS)} {x : LV} {ds : List PyData} {ns : List Int} {k : Int} (ho : fo s = .ok (x, s1)) (hn : bb = true → x.nl = true) (hd : rdL x = some ds) (ha : gA s1 = .ok ([.imm (.int k)], s2)) (hi : asInts ds = some ns) (hk : k ∈ ns) : idxE bb fo gA s = .ok (.imm (.int (ns.idxOf k)), s2) := by
  have hn : ¬ (bb = true ∧ x.nl = false) := fun q => by rw [hn q.1] at q; exact nomatch q.2
  simp only [idxE, ho, Res.bind, if_neg hn, hd, ha, hi, if_pos hk]
end MP
namespace JM
/-! leagues as rows of sides -/
abbrev Lg := List (List Nat)
def gd (R : Lg) (x : Nat) : List Nat := R.getD x []
structure Tn (n : Nat) (R : Lg) : Prop where
  len : R.length = n
  nd : ∀ x, (gd R x).Nodup
  lt : ∀ x y, y ∈ gd R x → y < n
  anti : ∀ x y, y ∈ gd R x → x ∉ gd R y
structure Wf (n : Nat) (L : Lg) : Prop where
  len : L.length = n
  asc : ∀ x, (gd L x).Pairwise (· < ·)
  lt : ∀ x y, y ∈ gd L x → y < n
  anti : ∀ x y, y ∈ gd L x → x ∉ gd L y
theorem gd_lt {R : Lg} {x y : Nat} (h : y ∈ gd R x) : x < R.length := by
  by_cases z : x < R.length
  · exact z
  · rw [gd, List.getD_eq_getElem?_getD, List.getElem?_eq_none (by omega)] at h; cases h
theorem gd_get {R : Lg} {x : Nat} (h : x < R.length) : R[x]? = some (gd R x) := by
  simp [gd, List.getD_eq_getElem?_getD, List.getElem?_eq_getElem h]
theorem gd_set (R : Lg) (a : Nat) (r : List Nat) (x : Nat) : gd (R.set a r) x = if x = a ∧ a < R.length then r else gd R x := by
  simp only [gd, List.getD_eq_getElem?_getD, List.getElem?_set]
  by_cases h : a = x
  · subst h
    by_cases z : a < R.length
    · simp [z]
    · simp [z, List.getElem?_eq_none (Nat.le_of_not_lt z)]
  · have : ¬ x = a := fun q => h q.symm
    simp [h, this]
theorem Wf.ne {n : Nat} {L : Lg} (W : Wf n L) {x y : Nat} (h : y ∈ gd L x) : x ≠ y := fun e => by subst e; exact W.anti _ _ h h
theorem Wf.tn {n : Nat} {L : Lg} (W : Wf n L) : Tn n L := ⟨W.len, fun x => (W.asc x).imp fun h => Nat.ne_of_lt h, W.lt, W.anti⟩
/-- each two sides have met -/
def Tot (n : Nat) (R : Lg) : Prop := ∀ x y, x < n → y < n → x ≠ y → y ∈ gd R x ∨ x ∈ gd R y
/-! rings, two ways -/
abbrev Tri := Nat × Nat × Nat
def ringsM (L : Lg) : List Tri := (List.range L.length).flatMap fun a => (gd L a).flatMap fun b => ((gd L b).filter fun c => decide (a < b) && (decide (a < c) && decide (a ∈ gd L c))).map fun c => (a, b, c)
def ringAt (L : Lg) (a b c : Nat) : List Tri :=
  (if b ∈ gd L a ∧ c ∈ gd L b ∧ a ∈ gd L c then [(a, b, c)] else []) ++ (if c ∈ gd L a ∧ b ∈ gd L c ∧ a ∈ gd L b then [(a, c, b)] else [])
def up (a n : Nat) : List Nat := List.range' (a + 1) (n - (a + 1))
def lawM (L : Lg) : List Tri := (List.range L.length).flatMap fun a => (up a L.length).flatMap fun b => (up b L.length).flatMap fun c => ringAt L a b c
def ltT (p q : Tri) : Prop := p.1 < q.1 ∨ (p.1 = q.1 ∧ (p.2.1 < q.2.1 ∨ (p.2.1 = q.2.1 ∧ p.2.2 < q.2.2)))
theorem mem_up {a n x : Nat} : x ∈ up a n ↔ a < x ∧ x < n := by
  simp only [up, List.mem_range'_1]; omega
theorem up_asc (a n : Nat) : (up a n).Pairwise (· < ·) := List.pairwise_lt_range'
theorem mem_ringAt {L : Lg} {a b c : Nat} {p : Tri} : p ∈ ringAt L a b c ↔ (p = (a, b, c) ∧ b ∈ gd L a ∧ c ∈ gd L b ∧ a ∈ gd L c) ∨ (p = (a, c, b) ∧ c ∈ gd L a ∧ b ∈ gd L c ∧ a ∈ gd L b) := by
  unfold ringAt
  rw [List.mem_append]
  constructor
  · rintro (h | h)
    · split at h
      · exact .inl ⟨by simpa using h, by assumption⟩
      · cases h
    · split at h
      · exact .inr ⟨by simpa using h, by assumption⟩
      · cases h
  · rintro (⟨e, h⟩ | ⟨e, h⟩)
    · left; rw [if_pos h, e]; exact List.mem_cons_self
    · right; rw [if_pos h, e]; exact List.mem_cons_self
theorem mem_ringsM {L : Lg} {p : Tri} : p ∈ ringsM L ↔ p.2.1 ∈ gd L p.1 ∧ p.2.2 ∈ gd L p.2.1 ∧ p.1 ∈ gd L p.2.2 ∧ p.1 < p.2.1 ∧ p.1 < p.2.2 := by
  obtain ⟨a, b, c⟩ := p
  simp only [ringsM, List.mem_flatMap, List.mem_map, List.mem_filter, List.mem_range, Bool.and_eq_true, decide_eq_true_eq, Prod.mk.injEq]
  constructor
  · rintro ⟨a', _, b', hb, c', ⟨hc, h1, h2, h3⟩, rfl, rfl, rfl⟩
    exact ⟨hb, hc, h3, h1, h2⟩
  · rintro ⟨hb, hc, h3, h1, h2⟩
    exact ⟨a, gd_lt hb, b, hb, c, ⟨hc, h1, h2, h3⟩, rfl, rfl, rfl⟩
theorem mem_lawM {n : Nat} {L : Lg} (W : Wf n L) {p : Tri} : p ∈ lawM L ↔ p.2.1 ∈ gd L p.1 ∧ p.2.2 ∈ gd L p.2.1 ∧ p.1 ∈ gd L p.2.2 ∧ p.1 < p.2.1 ∧ p.1 < p.2.2 := by
  obtain ⟨x, y, z⟩ := p
  have hl := W.len
  simp only [lawM, List.mem_flatMap, List.mem_range, mem_up, mem_ringAt, Prod.mk.injEq]
  constructor
  · rintro ⟨a, ha, b, hb, c, hc, (⟨⟨rfl, rfl, rfl⟩, h⟩ | ⟨⟨rfl, rfl, rfl⟩, h⟩)⟩
    · exact ⟨h.1, h.2.1, h.2.2, by omega, by omega⟩
    · exact ⟨h.1, h.2.1, h.2.2, by omega, by omega⟩
  · rintro ⟨h1, h2, h3, h4, h5⟩
    have := W.lt _ _ h1
    have := W.lt _ _ h2
    have := W.lt _ _ h3
    have ne := W.ne h2
    by_cases q : y < z
    · exact ⟨x, by omega, y, by omega, z, by omega, .inl ⟨⟨rfl, rfl, rfl⟩, h1, h2, h3⟩⟩
    · exact ⟨x, by omega, z, by omega, y, by omega, .inr ⟨⟨rfl, rfl, rfl⟩, h1, h2, h3⟩⟩
theorem rings_asc {n : Nat} {L : Lg} (W : Wf n L) : (ringsM L).Pairwise ltT := by
  unfold ringsM
  rw [List.pairwise_flatMap]
  refine ⟨fun a _ => ?_, List.pairwise_lt_range.imp fun {a a'} h p hp q hq => ?_⟩
  · rw [List.pairwise_flatMap]
    refine ⟨fun b _ => ?_, (W.asc a).imp fun {b b'} h p hp q hq => ?_⟩
    · rw [List.pairwise_map]
      exact ((W.asc b).filter _).imp fun {c c'} h => .inr ⟨rfl, .inr ⟨rfl, h⟩⟩
    · obtain ⟨c, _, rfl⟩ := List.mem_map.mp hp
      obtain ⟨c', _, rfl⟩ := List.mem_map.mp hq
      exact .inr ⟨rfl, .inl h⟩
  · obtain ⟨b, _, hp⟩ := List.mem_flatMap.mp hp
    obtain ⟨c, _, rfl⟩ := List.mem_map.mp hp
    obtain ⟨b', _, hq⟩ := List.mem_flatMap.mp hq
    obtain ⟨c', _, rfl⟩ := List.mem_map.mp hq
    exact .inl h
theorem ltT_ne {p q : Tri} (h : ltT p q) : p ≠ q := fun e => by subst e; unfold ltT at h; omega
theorem rings_nodup {n : Nat} {L : Lg} (W : Wf n L) : (ringsM L).Nodup := (rings_asc W).imp ltT_ne
theorem law_nodup {L : Lg} : (lawM L).Nodup := by
  unfold lawM
  have key : ∀ {a b c : Nat} {p : Tri}, p ∈ ringAt L a b c → p = (a, b, c) ∨ p = (a, c, b) := fun h => (mem_ringAt.mp h).imp (·.1) (·.1)
  rw [List.Nodup, List.pairwise_flatMap]
  refine ⟨fun a _ => ?_, List.pairwise_lt_range.imp fun {a a'} h p hp q hq => ?_⟩
  · rw [List.pairwise_flatMap]
    refine ⟨fun b _ => ?_, (up_asc a _).imp fun {b b'} h p hp q hq => ?_⟩
    · rw [List.pairwise_flatMap]
      refine ⟨fun c hc => ?_, (up_asc b _).imp_of_mem fun {c c'} m m' h p hp q hq => ?_⟩
      · have hc := mem_up.mp hc
        unfold ringAt
        split <;> split <;> simp <;> omega
      · have m := mem_up.mp m
        have m' := mem_up.mp m'
        rcases key hp with rfl | rfl <;> rcases key hq with rfl | rfl <;> simp <;> omega
    · obtain ⟨c, m, hp⟩ := List.mem_flatMap.mp hp
      obtain ⟨c', m', hq⟩ := List.mem_flatMap.mp hq
      have m := mem_up.mp m
      have m' := mem_up.mp m'
      rcases key hp with rfl | rfl <;> rcases key hq with rfl | rfl <;> simp <;> omega
  · obtain ⟨b, _, hp⟩ := List.mem_flatMap.mp hp
    obtain ⟨c, _, hp⟩ := List.mem_flatMap.mp hp
    obtain ⟨b', _, hq⟩ := List.mem_flatMap.mp hq
    obtain ⟨c', _, hq⟩ := List.mem_flatMap.mp hq
    rcases key hp with rfl | rfl <;> rcases key hq with rfl | rfl <;> simp <;> omega
theorem rings_perm {n : Nat} {L : Lg} (W : Wf n L) : (ringsM L).Perm (lawM L) := (List.perm_ext_iff_of_nodup (rings_nodup W) law_nodup).2 fun p => by rw [mem_ringsM, mem_lawM W]
/-! a match turned -/
def turnM (R : Lg) (a b : Nat) : Lg :=
  if b ∈ gd R a then (R.set a ((gd R a).erase b)).set b (gd (R.set a ((gd R a).erase b)) b ++ [a]) else (R.set b ((gd R b).erase a)).set a (gd (R.set b ((gd R b).erase a)) a ++ [b])
theorem move_tn {n : Nat} {R : Lg} (T : Tn n R) {a b : Nat} (h : b ∈ gd R a) :
    Tn n ((R.set a ((gd R a).erase b)).set b (gd (R.set a ((gd R a).erase b)) b ++ [a])) ∧ ∀ x y, y ∈ gd ((R.set a ((gd R a).erase b)).set b (gd (R.set a ((gd R a).erase b)) b ++ [a])) x ↔ (y ∈ gd R x ∧ ¬(x = a ∧ y = b)) ∨ (x = b ∧ y = a) := by
  have ha : a < R.length := gd_lt h
  have hb : b < R.length := T.len ▸ T.lt _ _ h
  have ne : a ≠ b := fun e => by subst e; exact T.anti _ _ h h
  have ne' : ¬ b = a := fun e => ne e.symm
  have e1 : gd (R.set a ((gd R a).erase b)) b = gd R b := by rw [gd_set, if_neg (by simp [ne'])]
  rw [e1]
  have hg : ∀ x, gd ((R.set a ((gd R a).erase b)).set b (gd R b ++ [a])) x = if x = b then gd R b ++ [a] else if x = a then (gd R a).erase b else gd R x := fun x => by
    rw [gd_set, gd_set, List.length_set]
    simp [ha, hb]
  have hm : ∀ x y, y ∈ gd ((R.set a ((gd R a).erase b)).set b (gd R b ++ [a])) x ↔ (y ∈ gd R x ∧ ¬(x = a ∧ y = b)) ∨ (x = b ∧ y = a) := fun x y => by
    rw [hg]
    by_cases h1 : x = b
    · subst h1
      simp [ne']
    · rw [if_neg h1]
      by_cases h2 : x = a
      · subst h2
        rw [if_pos rfl, (T.nd x).mem_erase_iff]
        simp [h1, and_comm]
      · rw [if_neg h2]
        simp [h1, h2]
  refine ⟨⟨by simp [T.len], fun x => ?_, fun x y q => ?_, fun x y q => ?_⟩, hm⟩
  · rw [hg]
    split
    · refine List.nodup_append.mpr ⟨T.nd b, by simp, fun u hu v hv e => ?_⟩
      rw [List.mem_singleton] at hv
      subst hv
      subst e
      exact T.anti _ _ h hu
    · split
      · exact (T.nd a).erase b
      · exact T.nd x
  · rcases (hm x y).mp q with ⟨q, _⟩ | ⟨_, rfl⟩
    · exact T.lt _ _ q
    · exact T.len ▸ ha
  · intro r
    rcases (hm x y).mp q with ⟨q, q'⟩ | ⟨rfl, rfl⟩ <;> rcases (hm _ _).mp r with ⟨r, r'⟩ | ⟨h1, h2⟩
    · exact T.anti _ _ q r
    · exact q' ⟨h2, h1⟩
    · exact r' ⟨rfl, rfl⟩
    · exact ne h1
theorem turn_tn {n : Nat} {R : Lg} (T : Tn n R) {a b : Nat} (h : b ∈ gd R a ∨ a ∈ gd R b) :
    Tn n (turnM R a b) ∧ ∀ x y, ¬((x = a ∧ y = b) ∨ (x = b ∧ y = a)) → (y ∈ gd (turnM R a b) x ↔ y ∈ gd R x) := by
  unfold turnM
  split
  case isTrue hb =>
    refine ⟨(move_tn T hb).1, fun x y n => ?_⟩
    rw [(move_tn T hb).2]
    constructor
    · rintro (⟨q, _⟩ | q)
      · exact q
      · exact (n (.inr q)).elim
    · exact fun q => .inl ⟨q, fun z => n (.inl z)⟩
  case isFalse hb =>
    have hb : a ∈ gd R b := h.resolve_left hb
    refine ⟨(move_tn T hb).1, fun x y n => ?_⟩
    rw [(move_tn T hb).2]
    constructor
    · rintro (⟨q, _⟩ | q)
      · exact q
      · exact (n (.inl q)).elim
    · exact fun q => .inl ⟨q, fun z => n (.inr z)⟩
/-- three matches of a ring -/
theorem turn3 {n : Nat} {R : Lg} (T : Tn n R) {a b c : Nat} (h1 : b ∈ gd R a) (h2 : c ∈ gd R b) (h3 : a ∈ gd R c) :
    (c ∈ gd (turnM R a b) b) ∧ (a ∈ gd (turnM (turnM R a b) b c) c) ∧ Tn n (turnM R a b) ∧ Tn n (turnM (turnM R a b) b c) ∧ Tn n (turnM (turnM (turnM R a b) b c) a c) := by
  have n1 : a ≠ b := fun e => by subst e; exact T.anti _ _ h1 h1
  have n2 : b ≠ c := fun e => by subst e; exact T.anti _ _ h2 h2
  have n3 : c ≠ a := fun e => by subst e; exact T.anti _ _ h3 h3
  obtain ⟨t1, m1⟩ := turn_tn T (.inl h1)
  have h2' := (m1 b c (by omega)).mpr h2
  have h3' := (m1 c a (by omega)).mpr h3
  obtain ⟨t2, m2⟩ := turn_tn t1 (.inl h2')
  have h3'' := (m2 c a (by omega)).mpr h3'
  exact ⟨h2', h3'', t1, t2, (turn_tn t2 (.inr h3'')).1⟩
/-! a league drawn -/
def pairs (n : Nat) : List (Nat × Nat) := (List.range n).flatMap fun a => (up a n).map fun b => (a, b)
theorem pairs_nodup (n : Nat) : (pairs n).Nodup := by
  unfold pairs
  rw [List.Nodup, List.pairwise_flatMap]
  refine ⟨fun a _ => ?_, List.pairwise_lt_range.imp fun {a a'} h p hp q hq => ?_⟩
  · rw [List.pairwise_map]
    exact (up_asc a n).imp fun {b b'} h => by simp; omega
  · obtain ⟨b, _, rfl⟩ := List.mem_map.mp hp
    obtain ⟨b', _, rfl⟩ := List.mem_map.mp hq
    simp; omega
theorem mem_pairs {n : Nat} {p : Nat × Nat} : p ∈ pairs n ↔ p.1 < p.2 ∧ p.2 < n := by
  obtain ⟨x, y⟩ := p
  simp only [pairs, List.mem_flatMap, List.mem_map, List.mem_range, mem_up, Prod.mk.injEq]
  constructor
  · rintro ⟨a, _, b, h, rfl, rfl⟩; exact h
  · rintro h; exact ⟨x, by omega, y, h, rfl, rfl⟩
/-- rows while a league is drawn: only told of the matches done -/
structure Dr (n : Nat) (ord : List Nat) (done : List (Nat × Nat)) (R : Lg) : Prop where
  tn : Tn n R
  told : ∀ x y, y ∈ gd R x → ∃ p ∈ done, (ord[p.1]? = some x ∧ ord[p.2]? = some y) ∨ (ord[p.1]? = some y ∧ ord[p.2]? = some x)
  all : ∀ p ∈ done, ∀ x y, ord[p.1]? = some x → ord[p.2]? = some y → y ∈ gd R x ∨ x ∈ gd R y
theorem dr_nil (n : Nat) (ord : List Nat) : Dr n ord [] (List.replicate n []) := by
  have e : ∀ x, gd (List.replicate n ([] : List Nat)) x = [] := fun x => by
    simp only [gd, List.getD_eq_getElem?_getD, List.getElem?_replicate]
    split <;> rfl
  exact ⟨⟨by simp, fun x => by simp [e], fun x y h => by simp [e] at h, fun x y h => by simp [e] at h⟩, fun x y h => by simp [e] at h, fun p h => nomatch h⟩
theorem dr_step {n : Nat} {ord : List Nat} {done : List (Nat × Nat)} {R : Lg} (D : Dr n ord done R) (hn : ord.Nodup) (hlt : ∀ x ∈ ord, x < n) {i j x y : Nat} (hij : i < j) (hd : ∀ p ∈ done, p.1 < p.2) (hnew : (i, j) ∉ done)
    (hxy : (ord[i]? = some x ∧ ord[j]? = some y) ∨ (ord[i]? = some y ∧ ord[j]? = some x)) : Dr n ord (done ++ [(i, j)]) (R.set x (gd R x ++ [y])) := by
  have inj : ∀ {p q z : Nat}, ord[p]? = some z → ord[q]? = some z → p = q := fun {p q z} hp hq => by
    obtain ⟨lp, ep⟩ := List.getElem?_eq_some_iff.mp hp
    obtain ⟨lq, eq⟩ := List.getElem?_eq_some_iff.mp hq
    exact (List.getElem_inj hn).mp (ep.trans eq.symm)
  have hx : x ∈ ord := hxy.elim (fun h => List.mem_of_getElem? h.1) fun h => List.mem_of_getElem? h.2
  have hy : y ∈ ord := hxy.elim (fun h => List.mem_of_getElem? h.2) fun h => List.mem_of_getElem? h.1
  have ne : x ≠ y := fun e => by
    subst e
    have : i = j := by rcases hxy with h | h <;> exact inj h.1 h.2
    omega
  have no : ∀ u v, ((u = x ∧ v = y) ∨ (u = y ∧ v = x)) → v ∉ gd R u := fun u v huv hv => by
    obtain ⟨⟨p, q⟩, hp, h⟩ := D.told u v hv
    have := hd _ hp
    simp only at this h
    have e : p = i ∧ q = j := by
      rcases huv with ⟨rfl, rfl⟩ | ⟨rfl, rfl⟩ <;> rcases hxy with ⟨a1, a2⟩ | ⟨a1, a2⟩ <;> rcases h with ⟨b1, b2⟩ | ⟨b1, b2⟩
      all_goals first
        | exact ⟨inj b1 a1, inj b2 a2⟩
        | (exfalso; have e1 := inj b1 a2; have e2 := inj b2 a1; omega)
    exact hnew (e.1 ▸ e.2 ▸ hp)
  have hxl : x < R.length := D.tn.len ▸ hlt x hx
  have hg : ∀ u, gd (R.set x (gd R x ++ [y])) u = if u = x then gd R x ++ [y] else gd R u := fun u => by rw [gd_set]; simp [hxl]
  have hm : ∀ u v, v ∈ gd (R.set x (gd R x ++ [y])) u ↔ v ∈ gd R u ∨ (u = x ∧ v = y) := fun u v => by
    rw [hg]
    split
    · next h => subst h; simp
    · next h => simp [h]
  refine ⟨⟨by simp [D.tn.len], fun u => ?_, fun u v h => ?_, fun u v h r => ?_⟩, fun u v h => ?_, fun p hp u v hu hv => ?_⟩
  · rw [hg]
    split
    · refine List.nodup_append.mpr ⟨D.tn.nd x, by simp, fun a ha b hb e => ?_⟩
      rw [List.mem_singleton] at hb
      subst hb; subst e
      exact no _ _ (.inl ⟨rfl, rfl⟩) ha
    · exact D.tn.nd u
  · rcases (hm u v).mp h with h | ⟨_, rfl⟩
    · exact D.tn.lt _ _ h
    · exact hlt _ hy
  · rcases (hm u v).mp h with h | ⟨rfl, rfl⟩ <;> rcases (hm _ _).mp r with r | ⟨e1, e2⟩
    · exact D.tn.anti _ _ h r
    · exact no u v (.inr ⟨e2, e1⟩) h
    · exact no _ _ (.inr ⟨rfl, rfl⟩) r
    · exact ne e2
  · rcases (hm u v).mp h with h | ⟨rfl, rfl⟩
    · obtain ⟨p, hp, h⟩ := D.told u v h
      exact ⟨p, List.mem_append_left _ hp, h⟩
    · exact ⟨(i, j), by simp, hxy⟩
  · rcases List.mem_append.mp hp with hp | hp
    · exact (D.all p hp u v hu hv).imp (fun q => (hm _ _).mpr (.inl q)) fun q => (hm _ _).mpr (.inl q)
    · rw [List.mem_singleton] at hp
      subst hp
      rcases hxy with ⟨a1, a2⟩ | ⟨a1, a2⟩
      · rw [a1] at hu; rw [a2] at hv
        cases hu; cases hv
        exact .inl ((hm _ _).mpr (.inr ⟨rfl, rfl⟩))
      · rw [a1] at hu; rw [a2] at hv
        cases hu; cases hv
        exact .inr ((hm _ _).mpr (.inr ⟨rfl, rfl⟩))
theorem dr_tot {n : Nat} {ord : List Nat} {R : Lg} (D : Dr n ord (pairs n) R) (ho : ord.Perm (List.range n)) : Tot n R := by
  have hl : ord.length = n := by rw [ho.length_eq, List.length_range]
  have find : ∀ x, x < n → ∃ i, i < n ∧ ord[i]? = some x := fun x hx => by
    obtain ⟨i, hi, e⟩ := List.mem_iff_getElem.mp (ho.symm.subset (List.mem_range.mpr hx))
    exact ⟨i, by omega, by rw [List.getElem?_eq_getElem hi, e]⟩
  intro x y hx hy ne
  obtain ⟨i, hi, ei⟩ := find x hx
  obtain ⟨j, hj, ej⟩ := find y hy
  have : i ≠ j := fun e => by subst e; rw [ei] at ej; cases ej; exact ne rfl
  by_cases q : i < j
  · exact D.all (i, j) (mem_pairs.mpr ⟨q, hj⟩) x y ei ej
  · exact (D.all (j, i) (mem_pairs.mpr ⟨by omega, hi⟩) y x ej ei).symm
/-! sums over sides -/
def su (n : Nat) (f : Nat → Int) : Int := ((List.range n).map f).sum
theorem su_succ (n : Nat) (f : Nat → Int) : su (n + 1) f = su n f + f n := by simp [su, List.range_succ]
theorem su_congr {n : Nat} {f g : Nat → Int} (h : ∀ x, x < n → f x = g x) : su n f = su n g := by
  induction n with
  | zero => rfl
  | succ n ih => rw [su_succ, su_succ, ih fun x hx => h x (by omega), h n (by omega)]
theorem su_one {n h : Nat} {f g : Nat → Int} (hh : h < n) (e : ∀ x, x < n → x ≠ h → f x = g x) : su n f = su n g + (f h - g h) := by
  induction n with
  | zero => omega
  | succ n ih =>
    rw [su_succ, su_succ]
    by_cases q : h = n
    · subst q
      rw [su_congr fun x hx => e x (by omega) (by omega)]
      omega
    · rw [ih (by omega) fun x hx => e x (by omega), e n (by omega) (by omega)]
      omega
theorem su_two {n h l : Nat} {f g : Nat → Int} (hh : h < n) (hl : l < n) (ne : h ≠ l) (e : ∀ x, x < n → x ≠ h → x ≠ l → f x = g x) : su n f = su n g + (f h - g h) + (f l - g l) := by
  have h1 := su_one (f := f) (g := fun x => if x = l then f x else g x) hh fun x hx q => by
    by_cases z : x = l
    · simp [z]
    · simp [z, e x hx q z]
  have h2 := su_one (f := fun x => if x = l then f x else g x) (g := g) hl fun x hx q => by simp [q]
  simp only [if_neg ne] at h1
  simp only [if_pos] at h2
  omega
/-! the sign -/
def ch2 (w : Nat) : Int := ((w : Int) * ((w : Int) - 1)) / 2
theorem ch2_succ (w : Nat) : ch2 (w + 1) = ch2 w + w := by
  unfold ch2
  have h : ((w + 1 : Nat) : Int) * (((w + 1 : Nat) : Int) - 1) = (w : Int) * ((w : Int) - 1) + 2 * w := by
    rw [show (((w + 1 : Nat) : Int) - 1) = w by omega, show ((w + 1 : Nat) : Int) = w + 1 by omega, Int.add_mul, Int.mul_sub]
    omega
  rw [h]
  omega
def lower (x : Nat) (r : List Nat) : Nat := (r.filter fun y => decide (y < x)).length
def cntM (L : Lg) : Int := ((L.length : Int) * ((L.length : Int) - 1) * ((L.length : Int) - 2)) / 6 - su L.length fun x => ch2 (gd L x).length
def upM (L : Lg) : Int := su L.length fun x => (lower x (gd L x) : Int)
def signM (L : Lg) : Int := (cntM L + upM L) % 2
theorem lower_perm {x : Nat} {r s : List Nat} (h : r.Perm s) : lower x r = lower x s := (h.filter _).length_eq
theorem lower_app (x y : Nat) (r : List Nat) : lower x (r ++ [y]) = lower x r + if y < x then 1 else 0 := by
  simp only [lower, List.filter_append, List.length_append]
  congr 1
  by_cases h : y < x <;> simp [h]
/-- what a turned match does to a row -/
theorem gd_move {R : Lg} {a b : Nat} (ha : a < R.length) (hb : b < R.length) (ne : a ≠ b) (x : Nat) : gd ((R.set a ((gd R a).erase b)).set b (gd (R.set a ((gd R a).erase b)) b ++ [a])) x = if x = b then gd R b ++ [a] else if x = a then (gd R a).erase b else gd R x := by
  have ne' : ¬ b = a := fun e => ne e.symm
  have e1 : gd (R.set a ((gd R a).erase b)) b = gd R b := by rw [gd_set, if_neg (by simp [ne'])]
  rw [e1, gd_set, gd_set, List.length_set]
  simp [ha, hb]
theorem move_sign {n : Nat} {R : Lg} (T : Tn n R) {a b : Nat} (h : b ∈ gd R a) : signM ((R.set a ((gd R a).erase b)).set b (gd (R.set a ((gd R a).erase b)) b ++ [a])) = (signM R + (gd R a).length + (gd R b).length) % 2 := by
  have ha : a < R.length := gd_lt h
  have hb : b < R.length := T.len ▸ T.lt _ _ h
  have ne : a ≠ b := fun e => by subst e; exact T.anti _ _ h h
  have hg := fun x => gd_move ha hb ne x
  generalize hR' : (R.set a ((gd R a).erase b)).set b (gd (R.set a ((gd R a).erase b)) b ++ [a]) = R' at hg
  have hl : R'.length = R.length := by rw [← hR']; simp
  have ga : gd R' a = (gd R a).erase b := by rw [hg, if_neg ne, if_pos rfl]
  have gb : gd R' b = gd R b ++ [a] := by rw [hg, if_pos rfl]
  have go : ∀ x, x ≠ a → x ≠ b → gd R' x = gd R x := fun x h1 h2 => by rw [hg, if_neg h2, if_neg h1]
  obtain ⟨wa, hwa⟩ : ∃ w, (gd R a).length = w + 1 := ⟨(gd R a).length - 1, by have := List.length_pos_of_mem h; omega⟩
  have la : (gd R' a).length = wa := by rw [ga, List.length_erase_of_mem h]; omega
  have lb : (gd R' b).length = (gd R b).length + 1 := by rw [gb]; simp
  have c : cntM R' = cntM R + wa - (gd R b).length := by
    unfold cntM
    rw [hl, su_two (f := fun x => ch2 (gd R' x).length) (g := fun x => ch2 (gd R x).length) ha hb ne fun x _ h1 h2 => by rw [go x h1 h2]]
    rw [la, lb, hwa, ch2_succ, ch2_succ]
    omega
  have ua : (lower a (gd R a) : Int) = lower a (gd R' a) + if b < a then 1 else 0 := by
    rw [lower_perm (List.perm_cons_erase h), ga]
    simp only [lower, List.filter_cons]
    by_cases q : b < a <;> simp [q]
  have ub : (lower b (gd R' b) : Int) = lower b (gd R b) + if a < b then 1 else 0 := by
    rw [gb, lower_app]
    by_cases q : a < b <;> simp [q]
  have u : upM R' = upM R - (if b < a then 1 else 0) + if a < b then 1 else 0 := by
    unfold upM
    rw [hl, su_two (f := fun x => (lower x (gd R' x) : Int)) (g := fun x => (lower x (gd R x) : Int)) ha hb ne fun x _ h1 h2 => by rw [go x h1 h2]]
    rw [ua, ub]
    omega
  unfold signM
  rw [c, u, hwa]
  by_cases q : a < b
  · rw [if_neg (by omega), if_pos q]; omega
  · rw [if_pos (by omega), if_neg q]; omega
theorem turn_sign {n : Nat} {R : Lg} (T : Tn n R) {a b : Nat} (h : b ∈ gd R a ∨ a ∈ gd R b) : signM (turnM R a b) = (signM R + (gd R a).length + (gd R b).length) % 2 := by
  unfold turnM
  split
  case isTrue hb => exact move_sign T hb
  case isFalse hb =>
    rw [move_sign T (h.resolve_left hb)]
    omega
theorem turn_len (R : Lg) (a b : Nat) : (turnM R a b).length = R.length := by
  unfold turnM
  split <;> simp
theorem map_sign {R : Lg} {f : List Nat → List Nat} (hf : ∀ r, (f r).Perm r) : signM (R.map f) = signM R := by
  have h0 : f [] = [] := (hf []).eq_nil
  have hg : ∀ x, gd (R.map f) x = f (gd R x) := fun x => by
    simp only [gd, List.getD_eq_getElem?_getD, List.getElem?_map]
    cases R[x]? with
    | none => simp [h0]
    | some r => simp
  unfold signM cntM upM
  rw [List.length_map, su_congr fun x _ => by rw [hg, (hf _).length_eq], su_congr (f := fun x => (lower x (gd (R.map f) x) : Int)) fun x _ => by rw [hg, lower_perm (hf _)]]
theorem turn_tot {n : Nat} {R : Lg} (T : Tn n R) (Q : Tot n R) {a b : Nat} (h : b ∈ gd R a ∨ a ∈ gd R b) : Tot n (turnM R a b) := by
  have hab : a ∈ gd (turnM R a b) b ∨ b ∈ gd (turnM R a b) a := by
    unfold turnM
    split
    case isTrue hb => exact .inl (((move_tn T hb).2 b a).mpr (.inr ⟨rfl, rfl⟩))
    case isFalse hb => exact .inr (((move_tn T (h.resolve_left hb)).2 a b).mpr (.inr ⟨rfl, rfl⟩))
  intro x y hx hy ne
  by_cases q : (x = a ∧ y = b) ∨ (x = b ∧ y = a)
  · rcases q with ⟨rfl, rfl⟩ | ⟨rfl, rfl⟩
    · exact hab.symm
    · exact hab
  · have m := (turn_tn T h).2
    exact (Q x y hx hy ne).imp (fun z => (m x y q).mpr z) fun z => (m y x (by omega)).mpr z
theorem sign_01 (R : Lg) : signM R = 0 ∨ signM R = 1 := by unfold signM; omega
end JM
namespace JM
/-! how many rings there are -/
theorem su_add {n : Nat} (f g : Nat → Int) : su n (fun x => f x + g x) = su n f + su n g := by
  induction n with
  | zero => rfl
  | succ n ih => rw [su_succ, su_succ, su_succ, ih]; omega
theorem su_zero (n : Nat) : su n (fun _ => 0) = 0 := by
  induction n with
  | zero => rfl
  | succ n ih => rw [su_succ, ih]; rfl
theorem su_mulr {n : Nat} (f : Nat → Int) (k : Int) : su n (fun x => f x * k) = su n f * k := by
  induction n with
  | zero => simp [su]
  | succ n ih => rw [su_succ, su_succ, ih, Int.add_mul]
def su2 (n : Nat) (f : Nat → Nat → Int) : Int := su n fun c => su c fun b => f b c
def su3 (n : Nat) (f : Nat → Nat → Nat → Int) : Int := su n fun c => su c fun b => su b fun a => f a b c
theorem su2_succ (n : Nat) (f : Nat → Nat → Int) : su2 (n + 1) f = su2 n f + su n fun b => f b n := by rw [su2, su_succ]; rfl
theorem su3_succ (n : Nat) (f : Nat → Nat → Nat → Int) : su3 (n + 1) f = su3 n f + su2 n fun a b => f a b n := by rw [su3, su_succ]; rfl
theorem up_succ {a n : Nat} (h : a < n) : up a (n + 1) = up a n ++ [n] := by
  unfold up
  rw [show n + 1 - (a + 1) = (n - (a + 1)) + 1 by omega, List.range'_concat]
  congr 2
  omega
theorem up_self (n : Nat) : up n (n + 1) = [] := by simp [up]
theorem up_sum (n : Nat) (f : Nat → Nat → Int) : su n (fun a => ((up a n).map (f a)).sum) = su2 n f := by
  induction n with
  | zero => rfl
  | succ n ih =>
    rw [su_succ, up_self, su2_succ, ← ih, ← su_add]
    simp only [List.map_nil, List.sum_nil, Int.add_zero]
    refine su_congr fun a ha => ?_
    rw [up_succ ha, List.map_append, List.sum_append]
    simp
theorem up_sum3 (n : Nat) (r : Nat → Nat → Nat → Int) : su2 n (fun a b => ((up b n).map (r a b)).sum) = su3 n r := by
  induction n with
  | zero => rfl
  | succ n ih =>
    have e : su2 (n + 1) (fun a b => ((up b (n + 1)).map (r a b)).sum) = su2 n (fun a b => ((up b n).map (r a b)).sum + r a b n) := by
      rw [su2_succ, up_self]
      simp only [List.map_nil, List.sum_nil]
      rw [su_zero, Int.add_zero]
      refine su_congr fun b hb => su_congr fun a ha => ?_
      show (List.map (r a b) (up b (n + 1))).sum = (List.map (r a b) (up b n)).sum + r a b n
      rw [up_succ hb, List.map_append, List.sum_append]
      simp
    rw [e, su3_succ, ← ih]
    simp only [su2, ← su_add]
theorem len_flat {α β : Type} (f : α → List β) (as : List α) : (((as.flatMap f).length : Nat) : Int) = (as.map fun a => ((f a).length : Int)).sum := by
  induction as with
  | nil => rfl
  | cons a as ih => rw [List.flatMap_cons, List.length_append, List.map_cons, List.sum_cons, ← ih]; omega
theorem law_len (L : Lg) : ((lawM L).length : Int) = su3 L.length fun a b c => ((ringAt L a b c).length : Int) := by
  rw [← up_sum3, ← up_sum]
  unfold lawM
  rw [len_flat]
  refine su_congr fun a _ => ?_
  rw [len_flat]
  congr 1
  refine List.map_congr_left fun b _ => ?_
  rw [len_flat]
theorem split2 (n : Nat) (h : Nat → Nat → Int) (h0 : ∀ x, h x x = 0) : su n (fun x => su n fun b => h x b) = su2 n fun a b => h a b + h b a := by
  induction n with
  | zero => rfl
  | succ n ih =>
    rw [su_succ, su2_succ, ← ih]
    have e : su n (fun x => su (n + 1) fun b => h x b) = su n (fun x => su n fun b => h x b) + su n fun x => h x n := by
      rw [← su_add]
      exact su_congr fun x _ => su_succ _ _
    rw [e, su_succ, h0, su_add]
    have : (su n fun b => h n b) = su n (h n) := rfl
    omega
theorem split3 (n : Nat) (g : Nat → Nat → Nat → Int) (h1 : ∀ x y, g x x y = 0) (h2 : ∀ x y, g x y x = 0) : su n (fun x => su2 n (g x)) = su3 n fun a b c => g a b c + g b a c + g c a b := by
  induction n with
  | zero => rfl
  | succ n ih =>
    rw [su_succ, su3_succ, ← ih]
    have e : su n (fun x => su2 (n + 1) (g x)) = su n (fun x => su2 n (g x)) + su2 n fun a b => g a b n + g b a n := by
      rw [← split2 n (fun x b => g x b n) fun x => h1 x n, ← su_add]
      exact su_congr fun x _ => su2_succ _ _
    rw [e, su2_succ, su_congr (f := fun b => g n b n) (g := fun _ => 0) fun b _ => h2 n b, su_zero]
    have e2 : su2 n (fun a b => g a b n + g b a n + g n a b) = su2 n (fun a b => g a b n + g b a n) + su2 n (g n) := by
      simp only [su2, ← su_add]
    rw [e2]
    omega
theorem filt_len (p : Nat → Bool) (n : Nat) : (((List.range n).filter p).length : Int) = su n fun y => if p y then 1 else 0 := by
  induction n with
  | zero => rfl
  | succ n ih =>
    rw [List.range_succ, List.filter_append, List.length_append, su_succ, ← ih]
    cases h : p n <;> simp [h]
def ed (L : Lg) (x y : Nat) : Int := if y ∈ gd L x then 1 else 0
theorem ed_len {n : Nat} {L : Lg} (W : Wf n L) (x : Nat) : ((gd L x).length : Int) = su n (ed L x) := by
  have p : (gd L x).Perm ((List.range n).filter fun y => decide (y ∈ gd L x)) := (List.perm_ext_iff_of_nodup ((W.tn).nd x) (List.nodup_range.filter _)).2 fun y => by
    simp only [List.mem_filter, List.mem_range, decide_eq_true_eq]
    exact ⟨fun h => ⟨W.lt _ _ h, h⟩, fun h => h.2⟩
  rw [p.length_eq, filt_len]
  refine su_congr fun y _ => ?_
  unfold ed
  by_cases h : y ∈ gd L x <;> simp [h]
theorem ch2_even (w : Nat) : (w : Int) * ((w : Int) - 1) = 2 * ch2 w := by
  induction w with
  | zero => rfl
  | succ w ih =>
    rw [ch2_succ, Int.mul_add, ← ih]
    rw [show (((w + 1 : Nat) : Int) - 1) = w by omega, show ((w + 1 : Nat) : Int) = w + 1 by omega, Int.add_mul, Int.mul_sub]
    omega
def t3 : Nat → Int
  | 0 => 0
  | n + 1 => t3 n + ch2 n
theorem t3_eq (n : Nat) : ((n : Int) * ((n : Int) - 1) * ((n : Int) - 2)) / 6 = t3 n := by
  have h : (n : Int) * ((n : Int) - 1) * ((n : Int) - 2) = 6 * t3 n := by
    induction n with
    | zero => rfl
    | succ n ih =>
      rw [t3, Int.mul_add, ← ih]
      have e := ch2_even n
      rw [show (((n + 1 : Nat) : Int) - 1) = n by omega, show (((n + 1 : Nat) : Int) - 2) = (n : Int) - 1 by omega, show ((n + 1 : Nat) : Int) = n + 1 by omega]
      rw [show 6 * ch2 n = 3 * (2 * ch2 n) by omega, ← e]
      generalize hp : (n : Int) * ((n : Int) - 1) = p at *
      have e1 : ((n : Int) + 1) * n * ((n : Int) - 1) = (n + 1) * p := by rw [Int.mul_assoc, hp]
      rw [e1, Int.add_mul, Int.mul_sub, Int.mul_comm (n : Int) p]
      omega
  rw [h]; omega
theorem su3_one (n : Nat) : su3 n (fun _ _ _ => 1) = t3 n := by
  have h2 : ∀ n, su2 n (fun _ _ => 1) = ch2 n := fun n => by
    have h1 : ∀ n, su n (fun _ => 1) = n := fun n => by
      induction n with
      | zero => rfl
      | succ n ih => rw [su_succ, ih]; omega
    induction n with
    | zero => rfl
    | succ n ih => rw [su2_succ, ih, ch2_succ, h1]
  induction n with
  | zero => rfl
  | succ n ih => rw [su3_succ, ih, h2]; rfl
theorem pairs_sum {e : Nat → Int} (h01 : ∀ x, e x = 0 ∨ e x = 1) (n : Nat) : ∃ w : Nat, su n e = w ∧ ch2 w = su2 n fun y z => e y * e z := by
  induction n with
  | zero => exact ⟨0, rfl, rfl⟩
  | succ n ih =>
    obtain ⟨w, h1, h2⟩ := ih
    rw [su2_succ, ← h2, su_mulr, h1, su_succ, h1]
    rcases h01 n with h | h
    · exact ⟨w, by rw [h]; omega, by rw [h]; omega⟩
    · exact ⟨w + 1, by rw [h]; omega, by rw [h, ch2_succ]; omega⟩
theorem count_eq {n : Nat} {L : Lg} (W : Wf n L) (Q : Tot n L) : ((lawM L).length : Int) = cntM L := by
  have hl := W.len
  rw [law_len, cntM, t3_eq, ← su3_one, hl]
  have e1 : su n (fun x => ch2 (gd L x).length) = su3 n fun a b c => ed L a b * ed L a c + ed L b a * ed L b c + ed L c a * ed L c b := by
    have nz : ∀ x, ed L x x = 0 := fun x => by
      unfold ed
      exact if_neg fun h => W.anti _ _ h h
    rw [← split3 n (fun x y z => ed L x y * ed L x z) (fun x y => by rw [nz]; omega) fun x y => by rw [nz]; omega]
    refine su_congr fun x _ => ?_
    obtain ⟨w, h1, h2⟩ := pairs_sum (e := ed L x) (fun y => by unfold ed; split <;> simp) n
    rw [← h2]
    have := ed_len W x
    congr 1
    omega
  rw [e1]
  have e2 : ∀ f g : Nat → Nat → Nat → Int, su3 n (fun a b c => f a b c + g a b c) = su3 n f + su3 n g := fun f g => by
    simp only [su3, ← su_add]
  have e3 : su3 n (fun a b c => ((ringAt L a b c).length : Int) + (ed L a b * ed L a c + ed L b a * ed L b c + ed L c a * ed L c b)) = su3 n fun _ _ _ => 1 := by
    refine su_congr fun c hc => su_congr fun b hb => su_congr fun a ha => ?_
    have q1 := Q a b (by omega) (by omega) (by omega)
    have q2 := Q b c (by omega) (by omega) (by omega)
    have q3 := Q a c (by omega) (by omega) (by omega)
    have a1 := W.anti a b
    have a2 := W.anti b c
    have a3 := W.anti a c
    have b1 := W.anti b a
    have b2 := W.anti c b
    have b3 := W.anti c a
    unfold ringAt ed
    by_cases h1 : b ∈ gd L a <;> by_cases h2 : c ∈ gd L b <;> by_cases h3 : c ∈ gd L a <;> simp_all
  rw [e2] at e3
  omega
end JM
namespace JM
/-! rings through a side -/
def inT (s : Nat) (p : Tri) : Bool := decide (s = p.1) || (decide (s = p.2.1) || decide (s = p.2.2))
/-- the ways round from s -/
def ways (L : Lg) (s : Nat) : List (Nat × Nat) := (gd L s).flatMap fun b => ((gd L b).filter fun c => decide (s ∈ gd L c)).map fun c => (b, c)
theorem mem_ways {L : Lg} {s : Nat} {p : Nat × Nat} : p ∈ ways L s ↔ p.1 ∈ gd L s ∧ p.2 ∈ gd L p.1 ∧ s ∈ gd L p.2 := by
  obtain ⟨b, c⟩ := p
  simp only [ways, List.mem_flatMap, List.mem_map, List.mem_filter, decide_eq_true_eq, Prod.mk.injEq]
  constructor
  · rintro ⟨b', h1, c', ⟨h2, h3⟩, rfl, rfl⟩
    exact ⟨h1, h2, h3⟩
  · rintro ⟨h1, h2, h3⟩
    exact ⟨b, h1, c, ⟨h2, h3⟩, rfl, rfl⟩
theorem ways_nodup {n : Nat} {L : Lg} (T : Tn n L) (s : Nat) : (ways L s).Nodup := by
  unfold ways
  rw [List.Nodup, List.pairwise_flatMap]
  refine ⟨fun b _ => ?_, (T.nd s).imp fun {b b'} h p hp q hq e => ?_⟩
  · rw [List.pairwise_map]
    exact ((T.nd b).filter _).imp fun {c c'} h e => h (Prod.mk.inj e).2
  · obtain ⟨c, _, rfl⟩ := List.mem_map.mp hp
    obtain ⟨c', _, rfl⟩ := List.mem_map.mp hq
    exact h (Prod.mk.inj e).1
/-- the ring, told from its least side -/
def canon (s : Nat) (p : Nat × Nat) : Tri := if s < p.1 ∧ s < p.2 then (s, p.1, p.2) else if p.2 < p.1 then (p.2, s, p.1) else (p.1, p.2, s)
theorem ways_ring {n : Nat} {L : Lg} (W : Wf n L) (s : Nat) : ((ways L s).map (canon s)).Perm ((ringsM L).filter (inT s)) := by
  refine (List.perm_ext_iff_of_nodup ?_ ((rings_nodup W).filter _)).2 fun q => ?_
  · rw [List.Nodup, List.pairwise_map]
    refine (ways_nodup W.tn s).imp_of_mem fun {p p'} hp hp' ne e => ne ?_
    have hp := mem_ways.mp hp
    have hp' := mem_ways.mp hp'
    have a1 := W.ne hp.1
    have a2 := W.ne hp.2.1
    have a3 := W.ne hp.2.2
    have b1 := W.ne hp'.1
    have b2 := W.ne hp'.2.1
    have b3 := W.ne hp'.2.2
    obtain ⟨b, c⟩ := p
    obtain ⟨b', c'⟩ := p'
    simp only [canon] at e a1 a2 a3 b1 b2 b3
    split at e <;> split at e <;> (try split at e) <;> (try split at e) <;> simp only [Prod.mk.injEq] at e ⊢ <;> omega
  · obtain ⟨x, y, z⟩ := q
    simp only [List.mem_map, List.mem_filter, mem_ringsM, inT, Bool.or_eq_true, decide_eq_true_eq]
    constructor
    · rintro ⟨⟨b, c⟩, hp, e⟩
      obtain ⟨h1, h2, h3⟩ := mem_ways.mp hp
      have a1 := W.ne h1
      have a2 := W.ne h2
      have a3 := W.ne h3
      simp only at h1 h2 h3 a1 a2 a3
      simp only [canon] at e
      split at e
      · obtain ⟨rfl, rfl, rfl⟩ : s = x ∧ b = y ∧ c = z := by simpa using e
        exact ⟨⟨h1, h2, h3, by omega, by omega⟩, .inl rfl⟩
      · split at e
        · obtain ⟨rfl, rfl, rfl⟩ : c = x ∧ s = y ∧ b = z := by simpa using e
          exact ⟨⟨h3, h1, h2, by omega, by omega⟩, .inr (.inl rfl)⟩
        · obtain ⟨rfl, rfl, rfl⟩ : b = x ∧ c = y ∧ s = z := by simpa using e
          exact ⟨⟨h2, h3, h1, by omega, by omega⟩, .inr (.inr rfl)⟩
    · rintro ⟨⟨h1, h2, h3, h4, h5⟩, rfl | rfl | rfl⟩
      · exact ⟨(y, z), mem_ways.mpr ⟨h1, h2, h3⟩, by simp only [canon]; rw [if_pos ⟨h4, h5⟩]⟩
      · have := W.ne h2
        exact ⟨(z, x), mem_ways.mpr ⟨h2, h3, h1⟩, by simp only [canon]; rw [if_neg (by omega), if_pos (by omega)]⟩
      · have := W.ne h2
        exact ⟨(x, y), mem_ways.mpr ⟨h3, h1, h2⟩, by simp only [canon]; rw [if_neg (by omega), if_neg (by omega)]⟩
theorem ways_len {n : Nat} {L : Lg} (W : Wf n L) (s : Nat) : (ways L s).length = ((ringsM L).filter (inT s)).length := by
  have := (ways_ring W s).length_eq
  rwa [List.length_map] at this
/-- each ring is counted thrice -/
theorem thrice {n : Nat} : ∀ {ps : List Tri}, (∀ p ∈ ps, p.1 < n ∧ p.2.1 < n ∧ p.2.2 < n ∧ p.1 ≠ p.2.1 ∧ p.1 ≠ p.2.2 ∧ p.2.1 ≠ p.2.2) → su n (fun s => ((ps.filter (inT s)).length : Int)) = 3 * ps.length
  | [], _ => by simp [su_zero]
  | p :: ps, h => by
    have ih := thrice (ps := ps) fun q hq => h q (List.mem_cons_of_mem _ hq)
    obtain ⟨h1, h2, h3, h4, h5, h6⟩ := h p List.mem_cons_self
    have e : su n (fun s => (((p :: ps).filter (inT s)).length : Int)) = su n (fun s => (if inT s p then 1 else 0) + ((ps.filter (inT s)).length : Int)) := su_congr fun s _ => by
      rw [List.filter_cons]
      split <;> simp <;> omega
    rw [e, su_add, ih]
    have e2 : su n (fun s => if inT s p then (1 : Int) else 0) = 3 := by
      obtain ⟨a, b, c⟩ := p
      simp only at h1 h2 h3 h4 h5 h6
      have q1 : su n (fun s => if inT s (a, b, c) then (1 : Int) else 0) = su n (fun s => if s = b ∨ s = c then 1 else 0) + 1 := by
        rw [su_one (f := fun s => if inT s (a, b, c) then (1 : Int) else 0) (g := fun s => if s = b ∨ s = c then 1 else 0) h1 fun x _ hx => by simp [inT, hx]]
        simp [inT, h4, h5]
      have q2 : su n (fun s => if s = b ∨ s = c then (1 : Int) else 0) = su n (fun s => if s = c then 1 else 0) + 1 := by
        rw [su_one (f := fun s => if s = b ∨ s = c then (1 : Int) else 0) (g := fun s => if s = c then 1 else 0) h2 fun x _ hx => by simp [hx]]
        simp [h6]
      have q3 : su n (fun s => if s = c then (1 : Int) else 0) = 1 := by
        rw [su_one (f := fun s => if s = c then (1 : Int) else 0) (g := fun _ => 0) h3 fun x _ hx => by simp [hx], su_zero]
        simp
      rw [q1, q2, q3]; rfl
    rw [e2, List.length_cons]
    omega
theorem sum_parts {n : Nat} {L : Lg} (W : Wf n L) : su n (fun s => ((ways L s).length : Int)) = 3 * (ringsM L).length := by
  rw [su_congr fun s _ => by rw [ways_len W s]]
  refine thrice fun p hp => ?_
  obtain ⟨h1, h2, h3, _, _⟩ := mem_ringsM.mp hp
  exact ⟨W.lt _ _ h3, W.lt _ _ h1, W.lt _ _ h2, W.ne h1, fun e => W.ne h3 e.symm, W.ne h2⟩
/-! renamed -/
theorem perm_sum {α : Type} {f : α → Int} {xs ys : List α} (h : xs.Perm ys) : (xs.map f).sum = (ys.map f).sum := by
  induction h with
  | nil => rfl
  | cons x _ ih => simp only [List.map_cons, List.sum_cons, ih]
  | swap x y l => simp only [List.map_cons, List.sum_cons]; omega
  | trans _ _ h1 h2 => exact h1.trans h2
def og (ord : List Nat) (x : Nat) : Nat := ord.getD x 0
theorem og_map {ord : List Nat} {n : Nat} (hl : ord.length = n) (f : Nat → Int) : ((List.range n).map fun x => f (og ord x)) = ord.map f := by
  refine List.ext_getElem (by simp [hl]) fun i h1 h2 => ?_
  simp at h1
  simp [og, List.getD_eq_getElem?_getD, List.getElem?_eq_getElem (hl ▸ h1)]
theorem su_perm {ord : List Nat} {n : Nat} (h : ord.Perm (List.range n)) (f : Nat → Int) : su n (fun x => f (og ord x)) = su n f := by
  have hl : ord.length = n := by rw [h.length_eq, List.length_range]
  unfold su
  rw [og_map hl, perm_sum h]
def relM (L : Lg) (ord : List Nat) : Lg := ord.map fun s => (gd L s).map fun o => ord.idxOf o
theorem idx_og {ord : List Nat} (hn : ord.Nodup) {x : Nat} (hx : x < ord.length) : ord.idxOf (og ord x) = x := by
  have e : og ord x = ord[x] := by simp [og, List.getD_eq_getElem?_getD, List.getElem?_eq_getElem hx]
  rw [e, hn.idxOf_getElem]
theorem og_idx {ord : List Nat} {o : Nat} (h : o ∈ ord) : og ord (ord.idxOf o) = o := by
  have hl : ord.idxOf o < ord.length := List.idxOf_lt_length_iff.mpr h
  simp [og, List.getD_eq_getElem?_getD, List.getElem?_eq_getElem hl]
theorem gd_rel {L : Lg} {ord : List Nat} {x : Nat} (hx : x < ord.length) : gd (relM L ord) x = (gd L (og ord x)).map fun o => ord.idxOf o := by
  simp [relM, gd, og, List.getD_eq_getElem?_getD, List.getElem?_map, List.getElem?_eq_getElem hx]
theorem mem_rel {n : Nat} {L : Lg} {ord : List Nat} (W : Wf n L) (ho : ord.Perm (List.range n)) {x y : Nat} : y ∈ gd (relM L ord) x ↔ x < n ∧ y < n ∧ og ord y ∈ gd L (og ord x) := by
  have hl : ord.length = n := by rw [ho.length_eq, List.length_range]
  have hn : ord.Nodup := ho.symm.nodup List.nodup_range
  have hm : ∀ o, o < n → o ∈ ord := fun o h => ho.symm.subset (List.mem_range.mpr h)
  constructor
  · intro h
    have hx : x < ord.length := by
      have := gd_lt h
      rwa [relM, List.length_map] at this
    rw [gd_rel hx] at h
    obtain ⟨o, h1, rfl⟩ := List.mem_map.mp h
    have h2 := hm o (W.lt _ _ h1)
    refine ⟨by omega, ?_, ?_⟩
    · have := List.idxOf_lt_length_iff.mpr h2
      omega
    · rw [og_idx h2]; exact h1
  · rintro ⟨hx, hy, h⟩
    rw [gd_rel (by omega)]
    exact List.mem_map.mpr ⟨og ord y, h, idx_og hn (by omega)⟩
theorem og_lt {n : Nat} {ord : List Nat} (ho : ord.Perm (List.range n)) {x : Nat} (hx : x < n) : og ord x < n := by
  have hl : ord.length = n := by rw [ho.length_eq, List.length_range]
  have e : og ord x = ord[x] := by simp [og, List.getD_eq_getElem?_getD, List.getElem?_eq_getElem (show x < ord.length by omega)]
  exact List.mem_range.mp (ho.subset (e ▸ List.getElem_mem _))
theorem og_inj {n : Nat} {ord : List Nat} (ho : ord.Perm (List.range n)) {x y : Nat} (hx : x < n) (hy : y < n) (e : og ord x = og ord y) : x = y := by
  have hl : ord.length = n := by rw [ho.length_eq, List.length_range]
  have hn : ord.Nodup := ho.symm.nodup List.nodup_range
  rw [← idx_og hn (x := x) (by omega), e, idx_og hn (by omega)]
theorem rel_tn {n : Nat} {L : Lg} {ord : List Nat} (W : Wf n L) (ho : ord.Perm (List.range n)) : Tn n (relM L ord) := by
  have hl : ord.length = n := by rw [ho.length_eq, List.length_range]
  have hm : ∀ o, o < n → o ∈ ord := fun o h => ho.symm.subset (List.mem_range.mpr h)
  refine ⟨by rw [relM, List.length_map, hl], fun x => ?_, fun x y h => ((mem_rel W ho).mp h).2.1, fun x y h r => W.anti _ _ ((mem_rel W ho).mp h).2.2 ((mem_rel W ho).mp r).2.2⟩
  by_cases hx : x < ord.length
  · rw [gd_rel hx, List.Nodup, List.pairwise_map]
    refine (W.tn.nd _).imp_of_mem fun {a b} ha hb ne e => ne ?_
    rw [← og_idx (hm a (W.lt _ _ ha)), e, og_idx (hm b (W.lt _ _ hb))]
  · rw [gd, List.getD_eq_getElem?_getD, List.getElem?_eq_none (by rw [relM, List.length_map]; omega)]
    exact List.nodup_nil
theorem rel_tot {n : Nat} {L : Lg} {ord : List Nat} (W : Wf n L) (Q : Tot n L) (ho : ord.Perm (List.range n)) : Tot n (relM L ord) := fun x y hx hy ne =>
  (Q _ _ (og_lt ho hx) (og_lt ho hy) fun e => ne (og_inj ho hx hy e)).imp (fun h => (mem_rel W ho).mpr ⟨hx, hy, h⟩) fun h => (mem_rel W ho).mpr ⟨hy, hx, h⟩
/-- the ways round in a league that is the renamed one, row by row in any order -/
theorem ways_rel {n : Nat} {L M : Lg} {ord : List Nat} (W : Wf n L) (V : Tn n M) (ho : ord.Perm (List.range n)) (hM : ∀ x y, y ∈ gd M x ↔ x < n ∧ y < n ∧ og ord y ∈ gd L (og ord x)) {s : Nat} (hs : s < n) : (ways M s).length = (ways L (og ord s)).length := by
  have hl : ord.length = n := by rw [ho.length_eq, List.length_range]
  have hm : ∀ o, o < n → o ∈ ord := fun o h => ho.symm.subset (List.mem_range.mpr h)
  have p : ((ways M s).map fun q => (og ord q.1, og ord q.2)).Perm (ways L (og ord s)) := by
    refine (List.perm_ext_iff_of_nodup ?_ (ways_nodup W.tn _)).2 fun q => ?_
    · rw [List.Nodup, List.pairwise_map]
      refine (ways_nodup V s).imp_of_mem fun {a b} ha hb ne e => ne ?_
      obtain ⟨h1, h2, h3⟩ := mem_ways.mp ha
      obtain ⟨g1, g2, g3⟩ := mem_ways.mp hb
      obtain ⟨e1, e2⟩ := Prod.mk.inj e
      exact Prod.ext (og_inj ho (V.lt _ _ h1) (V.lt _ _ g1) e1) (og_inj ho (V.lt _ _ h2) (V.lt _ _ g2) e2)
    · constructor
      · intro h
        obtain ⟨a, ha, rfl⟩ := List.mem_map.mp h
        obtain ⟨h1, h2, h3⟩ := mem_ways.mp ha
        exact mem_ways.mpr ⟨((hM _ _).mp h1).2.2, ((hM _ _).mp h2).2.2, ((hM _ _).mp h3).2.2⟩
      · intro h
        obtain ⟨h1, h2, h3⟩ := mem_ways.mp h
        obtain ⟨b, c⟩ := q
        have hb := hm b (W.lt _ _ h1)
        have hc := hm c (W.lt _ _ h2)
        have lb := List.idxOf_lt_length_iff.mpr hb
        have lc := List.idxOf_lt_length_iff.mpr hc
        refine List.mem_map.mpr ⟨(ord.idxOf b, ord.idxOf c), mem_ways.mpr ⟨(hM _ _).mpr ⟨hs, by omega, ?_⟩, (hM _ _).mpr ⟨by omega, by omega, ?_⟩, (hM _ _).mpr ⟨by omega, hs, ?_⟩⟩, ?_⟩
        · rw [og_idx hb]; exact h1
        · rw [og_idx hb, og_idx hc]; exact h2
        · rw [og_idx hc]; exact h3
        · simp only [og_idx hb, og_idx hc]
  have := p.length_eq
  rwa [List.length_map] at this
theorem cnt_rel {n : Nat} {L M : Lg} {ord : List Nat} (W : Wf n L) (Q : Tot n L) (V : Wf n M) (Q' : Tot n M) (ho : ord.Perm (List.range n)) (hM : ∀ x y, y ∈ gd M x ↔ x < n ∧ y < n ∧ og ord y ∈ gd L (og ord x)) : cntM M = cntM L := by
  have h1 := sum_parts W
  have h2 := sum_parts V
  rw [su_congr fun s hs => by rw [ways_rel W V.tn ho hM hs], su_perm ho fun s => ((ways L s).length : Int), h1] at h2
  rw [← count_eq W Q, ← count_eq V Q', ← (rings_perm W).length_eq, ← (rings_perm V).length_eq]
  omega
/-! a ring turned -/
theorem cnt_congr {n : Nat} {L M : Lg} (hL : L.length = n) (hM : M.length = n) (h : ∀ x, (gd M x).length = (gd L x).length) : cntM M = cntM L := by
  unfold cntM
  rw [hL, hM, su_congr fun x _ => by rw [h x]]
theorem move_len {n : Nat} {R : Lg} (T : Tn n R) {a b : Nat} (h : b ∈ gd R a) (x : Nat) : ((gd ((R.set a ((gd R a).erase b)).set b (gd (R.set a ((gd R a).erase b)) b ++ [a])) x).length : Int) = (gd R x).length + (if x = b then 1 else 0) - (if x = a then 1 else 0) := by
  have ha : a < R.length := gd_lt h
  have hb : b < R.length := T.len ▸ T.lt _ _ h
  have ne : a ≠ b := fun e => by subst e; exact T.anti _ _ h h
  rw [gd_move ha hb ne]
  by_cases h1 : x = b
  · subst h1
    rw [if_pos rfl, if_pos rfl, if_neg (fun e => ne e.symm)]
    simp
  · rw [if_neg h1, if_neg h1]
    by_cases h2 : x = a
    · subst h2
      have := List.length_pos_of_mem h
      rw [if_pos rfl, if_pos rfl, List.length_erase_of_mem h]
      omega
    · rw [if_neg h2, if_neg h2]; omega
theorem ring_cnt {n : Nat} {R : Lg} (T : Tn n R) {a b c : Nat} (h1 : b ∈ gd R a) (h2 : c ∈ gd R b) (h3 : a ∈ gd R c) : cntM (turnM (turnM (turnM R a b) b c) a c) = cntM R := by
  obtain ⟨g2, g3, T1, T2, T3⟩ := turn3 T h1 h2 h3
  refine cnt_congr T.len T3.len fun x => ?_
  have e1 := move_len T h1 x
  have e2 := move_len T1 g2 x
  have e3 := move_len T2 g3 x
  have q1 : turnM R a b = (R.set a ((gd R a).erase b)).set b (gd (R.set a ((gd R a).erase b)) b ++ [a]) := by rw [turnM, if_pos h1]
  rw [← q1] at e1
  have q2 : turnM (turnM R a b) b c = ((turnM R a b).set b ((gd (turnM R a b) b).erase c)).set c (gd ((turnM R a b).set b ((gd (turnM R a b) b).erase c)) c ++ [b]) := by rw [turnM, if_pos g2]
  rw [← q2] at e2
  have q3 : turnM (turnM (turnM R a b) b c) a c = ((turnM (turnM R a b) b c).set c ((gd (turnM (turnM R a b) b c) c).erase a)).set a (gd ((turnM (turnM R a b) b c).set c ((gd (turnM (turnM R a b) b c) c).erase a)) a ++ [c]) := by rw [turnM, if_neg (T2.anti _ _ g3)]
  rw [← q3] at e3
  omega
end JM
namespace Law
open PySem PySem.Spec PyProof.Rows L2 MP
abbrev topS (i : Nat) : Stmt := PySem.Challenge.pw_levelturns_k14_whole_how_many_rings.main.body.getD i (.Pass ⟨0, 0, 0, 0⟩)
section
variable {Pr : Program} {w : World} {K : PySem.W.Frag} {mg : Str → Option Value} {base : Heap} {XR : (Addr → Prop) → Hp → Nat → List PyData → Value → Option Addr → Prop}

/-! beat -/
abbrev s_beat : Stmt := topS 1
theorem sc_beat : FnScope ["league", "a", "b"] ["league", "a", "b"] (defScope s_beat) := ⟨rfl, rfl, rfl, by decide +kernel, rfl, by decide +kernel, by decide +kernel⟩
def b_beat (cf : CF) : LS → SR :=
  (retS (op2E (cmpK .In) lvC false (varE 2) (op2E ixK lvB false (varE 0) (varE 1))))
def d_beat : BDef := ⟨3, 3, [], b_beat⟩
theorem k_beat (mono : Mono XR) {k fi : Nat} {f : Addr} {fd : FuncData} {cf cf' : CF} (F : Fun K "beat" "beat" s_beat f fd) (hcf : ∀ xs, cf' fi xs = runB d_beat.np d_beat.ns d_beat.io (d_beat.body cf) xs) :
    FnG Pr w K mg base (k + 1) f fd ["league", "a", "b"] (spF K XR cf' fi d_beat.np d_beat.io) :=
  fn_step (mono := mono) F sc_beat rfl rfl (by decide) rfl hcf fun cdv A outer s H E c =>
    (z_one (z_ret (e_cmp (q_in c) (vv 2) (e_ix c (vv 0) (vv 1)))))

/-! wins -/
abbrev s_wins : Stmt := topS 2
theorem sc_wins : FnScope ["league", "row"] ["league"] (defScope s_wins) := ⟨rfl, rfl, rfl, by decide +kernel, rfl, by decide +kernel, by decide +kernel⟩
def b_wins (cf : CF) : LS → SR :=
  (retS (biE (biD .tuple) (consA false (lcE [1] false (.nm 1) (itP (varE 0)) tyE (biE (biD .len) (consA false (varE 1) nilA))) nilA)))
def d_wins : BDef := ⟨1, 2, [], b_wins⟩
theorem k_wins (mono : Mono XR) {k fi : Nat} {f : Addr} {fd : FuncData} {cf cf' : CF} (F : Fun K "wins" "wins" s_wins f fd) (hcf : ∀ xs, cf' fi xs = runB d_wins.np d_wins.ns d_wins.io (d_wins.body cf) xs) (m_len_ : mg "len" = none) (m_tuple_ : mg "tuple" = none) :
    FnG Pr w K mg base (k + 1) f fd ["league"] (spF K XR cf' fi d_wins.np d_wins.io) :=
  fn_step (mono := mono) F sc_wins rfl rfl (by decide) rfl hcf fun cdv A outer s H E c =>
    (z_one (z_ret (e_ty (b_tuple c) m_tuple_ (a_cons (e_lc c [("row", 1)] [1] (i_any c (vv 0)) (fun _ _ _ _ _ c => (g_nm c 1)) (fun _ _ _ _ _ cb => ln) (fun _ _ _ _ _ cb => (e_bi (b_len cb) m_len_ (a_cons (vv 1) an)))) an))))

/-! ring_count -/
abbrev s_ring_count : Stmt := topS 4
theorem sc_ring_count : FnScope ["league", "n", "won"] ["league"] (defScope s_ring_count) := ⟨rfl, rfl, rfl, by decide +kernel, rfl, by decide +kernel, by decide +kernel⟩
def b_ring_count (cf : CF) : LS → SR :=
  (seqS (setS1 1 (biE (biD .len) (consA false (varE 0) nilA)))
  (retS (op2E (bopD .Sub) lvB false (op2E (bopD .FloorDiv) lvB false (op2E (bopD .Mult) lvB false (op2E (bopD .Mult) lvB false (varE 1) (op2E (bopD .Sub) lvB false (varE 1) (cE (.int 1)))) (op2E (bopD .Sub) lvB false (varE 1) (cE (.int 2)))) (cE (.int 6))) (biE (biD .sum) (consA false (lcE [2] false (.nm 2) (itP (callEE cf 12 (consC false (varE 0) nilC))) tyE (op2E (bopD .FloorDiv) lvB false (op2E (bopD .Mult) lvB false (varE 2) (op2E (bopD .Sub) lvB false (varE 2) (cE (.int 1)))) (cE (.int 2)))) nilA)))))
def d_ring_count : BDef := ⟨1, 3, [], b_ring_count⟩
theorem k_ring_count (mono : Mono XR) {k fi : Nat} {f : Addr} {fd : FuncData} {cf cf' : CF} (F : Fun K "ring_count" "ring_count" s_ring_count f fd) (hcf : ∀ xs, cf' fi xs = runB d_ring_count.np d_ring_count.ns d_ring_count.io (d_ring_count.body cf) xs) (m_len_ : mg "len" = none) (m_sum_ : mg "sum" = none)
    (C_wins : ∀ (X : Cx) (Y : Yx), X.prog = Pr → X.w = w → X.K = K → X.mg = mg → X.base = base → Y.K = K → Y.XR = XR → Cal k X Y "wins" cf 12 1 []) :
    FnG Pr w K mg base (k + 1) f fd ["league"] (spF K XR cf' fi d_ring_count.np d_ring_count.io) :=
  fn_step (mono := mono) F sc_ring_count rfl rfl (by decide) rfl hcf fun cdv A outer s H E c =>
    have C_wins := C_wins (cxOf (L2.CX Pr w) Pr w K mg base _ _ (defScope s_ring_count) f cdv A outer s H E) (yOf K XR mono E) rfl rfl rfl rfl rfl rfl rfl
    (z_seq (s_set c 1 (e_bi (b_len c) m_len_ (a_cons (vv 0) an)))
    (z_one (z_ret (e_op (o_sub c) (e_op (o_fdiv c) (e_op (o_mul c) (e_op (o_mul c) (vv 1) (e_op (o_sub c) (vv 1) k_int)) (e_op (o_sub c) (vv 1) k_int)) k_int) (e_bi (b_sum c) m_sum_ (a_cons (e_lc c [("won", 2)] [2] (i_any c (e_call c C_wins (ac_cons (vv 0) acn))) (fun _ _ _ _ _ c => (g_nm c 2)) (fun _ _ _ _ _ cb => ln) (fun _ _ _ _ _ cb => (e_op (o_fdiv cb) (e_op (o_mul cb) (vv 2) (e_op (o_sub cb) (vv 2) k_int)) k_int))) an))))))

/-! rings_with -/
abbrev s_rings_with : Stmt := topS 5
theorem sc_rings_with : FnScope ["league", "side", "b", "c"] ["league", "side"] (defScope s_rings_with) := ⟨rfl, rfl, rfl, by decide +kernel, rfl, by decide +kernel, by decide +kernel⟩
def b_rings_with (cf : CF) : LS → SR :=
  (retS (biE (biD .sum) (consA false (lcE [2] false (.nm 2) (itP (op2E ixK lvB false (varE 0) (varE 1))) tyE (biE (biD .len) (consA false (lcE [3] false (.nm 3) (itP (op2E ixK lvB false (varE 0) (varE 2))) (tstE (callEE cf 11 (consC false (varE 0) (consC false (varE 3) (consC false (varE 1) nilC))))) (varE 3)) nilA))) nilA)))
def d_rings_with : BDef := ⟨2, 4, [], b_rings_with⟩
theorem k_rings_with (mono : Mono XR) {k fi : Nat} {f : Addr} {fd : FuncData} {cf cf' : CF} (F : Fun K "rings_with" "rings_with" s_rings_with f fd) (hcf : ∀ xs, cf' fi xs = runB d_rings_with.np d_rings_with.ns d_rings_with.io (d_rings_with.body cf) xs) (m_len_ : mg "len" = none) (m_sum_ : mg "sum" = none)
    (C_beat : ∀ (X : Cx) (Y : Yx), X.prog = Pr → X.w = w → X.K = K → X.mg = mg → X.base = base → Y.K = K → Y.XR = XR → Cal k X Y "beat" cf 11 3 []) :
    FnG Pr w K mg base (k + 1) f fd ["league", "side"] (spF K XR cf' fi d_rings_with.np d_rings_with.io) :=
  fn_step (mono := mono) F sc_rings_with rfl rfl (by decide) rfl hcf fun cdv A outer s H E c =>
    have C_beat := C_beat (cxOf (L2.CX Pr w) Pr w K mg base _ _ (defScope s_rings_with) f cdv A outer s H E) (yOf K XR mono E) rfl rfl rfl rfl rfl rfl rfl
    (z_one (z_ret (e_bi (b_sum c) m_sum_ (a_cons (e_lc c [("b", 2)] [2] (i_any c (e_ix c (vv 0) (vv 1))) (fun _ _ _ _ _ c => (g_nm c 2)) (fun _ _ _ _ _ cb => ln) (fun _ _ _ _ _ cb => (e_bi (b_len cb) m_len_ (a_cons (e_lc cb [("c", 3)] [3] (i_any cb (e_ix cb (vv 0) (vv 2))) (fun _ _ _ _ _ c => (g_nm c 3)) (fun _ _ _ _ _ cb => (lo (t_val (e_call cb (C_beat.blk ..) (ac_cons (vv 0) (ac_cons (vv 3) (ac_cons (vv 1) acn))))))) (fun _ _ _ _ _ cb => (vv 3))) an)))) an))))

/-! _law_jar -/
abbrev s__law_jar : Stmt := topS 7
theorem sc__law_jar : FnScope ["script", "own", "far", "cells", "seal"] ["script"] (defScope s__law_jar) := ⟨rfl, rfl, rfl, by decide +kernel, rfl, by decide +kernel, by decide +kernel⟩
def b__law_jar (cf : CF) : LS → SR :=
  (seqS (parS [3, 4] (consA false (frzE (lcE [1] false (.nm 1) (itP (slE false (varE 0) noO (intO (cE (.int 63))))) tyE (iteE (op2E (cmpK .GtE) lvC false (varE 1) (cE (.int 0))) (op2E (bopD .Mult) lvB false (cE (.int 2)) (varE 1)) (op2E (bopD .Sub) lvB false (op2E (bopD .Mult) lvB false (negE (cE (.int 2))) (varE 1)) (cE (.int 1)))))) (consA false (op2E (bopD .Add) lvB false (cE (.int 15026)) (op2E (bopD .Mult) lvB false (cE (.int 5)) (biE (biD .len) (consA false (varE 0) nilA)))) nilA)))
  (seqS (forS (itP (varE 3)) (.nm 1)
  (setS1 4 (op2E (bopD .Mod) lvB false (biE (biD .int) (consA false (op2E (bopD .Add) lvB false (op2E (bopD .Add) lvB false (op2E (bopD .Mult) lvB false (varE 4) (cE (.int 16807))) (op2E (bopD .Mult) lvB false (varE 1) (cE (.int 3)))) (cE (.int 5))) nilA)) (cE (.int 4294967279)))))
  (seqS (setS1 2 (lcE [1] false (.nm 1) (itP (varE 3)) (tstE (op2E (cmpK .GtE) lvC false (varE 1) (op2E (bopD .Pow) lvB false (cE (.int 10)) (cE (.int 18))))) (varE 1)))
  (retS (dkE ["far", "cells", "seal", "count"] (consA false (takeE 2) (consA false (frzE (op2E (bopD .Add) lvB false (varE 3) (lstE (consA false (op2E (bopD .Add) lvB false (op2E (bopD .Mult) lvB false (cE (.int 7)) (biE (biD .len) (consA false (varE 3) nilA))) (cE (.int 3))) nilA)))) (consA false (varE 4) (consA false (cE (.int 0)) nilA)))))))))
def d__law_jar : BDef := ⟨1, 5, [], b__law_jar⟩
theorem k__law_jar (mono : Mono XR) {k fi : Nat} {f : Addr} {fd : FuncData} {cf cf' : CF} (F : Fun K "_law_jar" "_law_jar" s__law_jar f fd) (hcf : ∀ xs, cf' fi xs = runB d__law_jar.np d__law_jar.ns d__law_jar.io (d__law_jar.body cf) xs) (m_int_ : mg "int" = none) (m_len_ : mg "len" = none) :
    FnG Pr w K mg base (k + 1) f fd ["script"] (spF K XR cf' fi d__law_jar.np d__law_jar.io) :=
  fn_step (mono := mono) F sc__law_jar rfl rfl (by decide) rfl hcf fun cdv A outer s H E c =>
    (z_seq (s_par c 3 4 (a_cons (e_frz (e_lc c [("own", 1)] [1] (i_any c (e_sl c (vv 0) on (o_some k_int))) (fun _ _ _ _ _ c => (g_nm c 1)) (fun _ _ _ _ _ cb => ln) (fun _ _ _ _ _ cb => (e_ite (t_cmp (q_ge cb) (vv 1) k_int) (e_op (o_mul cb) k_int (vv 1)) (e_op (o_sub cb) (e_op (o_mul cb) (e_neg k_int) (vv 1)) k_int))))) (a_cons (e_op (o_add c) k_int (e_op (o_mul c) k_int (e_bi (b_len c) m_len_ (a_cons (vv 0) an)))) an)))
    (z_seq (z_for c pass_def (i_any c (vv 3)) (g_nm c 1)
    (z_one (s_set c 4 (e_op (o_mod c) (e_ty (b_int c) m_int_ (a_cons (e_op (o_add c) (e_op (o_add c) (e_op (o_mul c) (vv 4) k_int) (e_op (o_mul c) (vv 1) k_int)) k_int) an)) k_int))))
    (z_seq (z_lc c 2 [("own", 1)] [1] (i_any c (vv 3)) (fun _ _ _ _ _ c => (g_nm c 1)) (fun _ _ _ _ _ cb => (lo (t_cmp (q_ge cb) (vv 1) (e_op (o_pow cb) k_int k_int)))) (fun _ _ _ _ _ cb => (vv 1)))
    (z_one (z_ret (e_dk (d_cons (tv 2) (d_cons (e_frz (e_op (o_add c) (vv 3) (e_lst (a_cons (e_op (o_add c) (e_op (o_mul c) k_int (e_bi (b_len c) m_len_ (a_cons (vv 3) an))) k_int) an)))) (d_cons (vv 4) (d_cons k_int dn))))))))))

/-! _law_draw -/
abbrev s__law_draw : Stmt := topS 8
theorem sc__law_draw : FnScope ["jar", "many", "far", "mix", "whole", "count", "cells"] ["jar", "many"] (defScope s__law_draw) := ⟨rfl, rfl, rfl, by decide +kernel, rfl, by decide +kernel, by decide +kernel⟩
def b__law_draw (cf : CF) : LS → SR :=
  (seqS (shareS 0 (.inr "far"))
  (seqS (setS1 2 (rdE 0 (snocP nilP (cE (.str "far")))))
  (seqS (ifS (tstE (op2E (cmpK .NotEq) lvC false (varE 2) (lstE nilA))) (seqS (setS1 4 (mutE 2 false (mutG .pop) nilP (consA false (cE (.int 0)) nilA)))
  (seqS (ifS (tstE (op2E (cmpK .GtE) lvC false (varE 4) (varE 1))) (exS (mutE 2 false (mutG .insert) nilP (consA false (cE (.int 0)) (consA false (op2E (bopD .FloorDiv) lvB false (varE 4) (varE 1)) nilA)))) nxtS)
  (retS (op2E (bopD .Mod) lvB false (biE (biD .int) (consA false (varE 4) nilA)) (varE 1))))) nxtS)
  (seqS (setS 0 false (op2E (bopD .Add) lvB false (rdE 0 (snocP nilP (cE (.str "count")))) (cE (.int 1))) nilP (cE (.str "count")))
  (seqS (parS [5, 6] (consA false (rdE 0 (snocP nilP (cE (.str "count")))) (consA false (rdE 0 (snocP nilP (cE (.str "cells")))) nilA)))
  (seqS (setS1 3 (op2E (bopD .Mod) lvB false (biE (biD .int) (consA false (op2E (bopD .Add) lvB false (op2E (bopD .Add) lvB false (rdE 0 (snocP nilP (cE (.str "seal")))) (op2E (bopD .Mult) lvB false (cE (.int 7919)) (biE (biD .int) (consA false (op2E ixK lvB false (varE 6) (op2E (bopD .Mod) lvB false (biE (biD .int) (consA false (varE 5) nilA)) (biE (biD .len) (consA false (varE 6) nilA)))) nilA)))) (op2E (bopD .Mult) lvB false (cE (.int 104729)) (varE 5))) nilA)) (cE (.int 4294967291))))
  (seqS (setS1 3 (op2E (bopD .Mod) lvB false (biE (biD .int) (consA false (op2E (bopD .Add) lvB false (op2E (bopD .Add) lvB false (op2E (bopD .Mult) lvB false (varE 3) (cE (.int 22695477))) (op2E (bopD .Mult) lvB false (varE 5) (varE 5))) (cE (.int 1))) nilA)) (cE (.int 4294967291))))
  (seqS (setS1 3 (op2E (bopD .Mod) lvB false (biE (biD .int) (consA false (op2E (bopD .Add) lvB false (op2E (bopD .Mult) lvB false (varE 3) (cE (.int 48271))) (op2E (bopD .FloorDiv) lvB false (varE 3) (cE (.int 65536)))) nilA)) (cE (.int 4294967279))))
  (retS (op2E (bopD .Mod) lvB false (biE (biD .int) (consA false (op2E (bopD .FloorDiv) lvB false (varE 3) (cE (.int 1024))) nilA)) (varE 1)))))))))))
def d__law_draw : BDef := ⟨2, 7, [0], b__law_draw⟩
theorem k__law_draw (mono : Mono XR) {k fi : Nat} {f : Addr} {fd : FuncData} {cf cf' : CF} (F : Fun K "_law_draw" "_law_draw" s__law_draw f fd) (hcf : ∀ xs, cf' fi xs = runB d__law_draw.np d__law_draw.ns d__law_draw.io (d__law_draw.body cf) xs) (m_int_ : mg "int" = none) (m_len_ : mg "len" = none) :
    FnG Pr w K mg base (k + 1) f fd ["jar", "many"] (spF K XR cf' fi d__law_draw.np d__law_draw.io) :=
  fn_step (mono := mono) F sc__law_draw rfl rfl (by decide) rfl hcf fun cdv A outer s H E c =>
    (z_share 0 (.inr "far") (z_seq (s_set c 2 (e_rd (p_ix c (pn 0) k_str)))
    (z_seq (z_if (t_cmp (q_ne c) (vv 2) (e_lst an)) (z_seq (s_set c 4 (m_pop c false (pn 2) (a_cons k_int an)))
    (z_seq (z_if (t_cmp (q_ge c) (vv 4) (vv 1)) (z_one (z_ex (m_insert c false (pn 2) (a_cons k_int (a_cons (e_op (o_fdiv c) (vv 4) (vv 1)) an))))) z_nil)
    (z_one (z_ret (e_op (o_mod c) (e_ty (b_int c) m_int_ (a_cons (vv 4) an)) (vv 1)))))) z_nil)
    (z_seq (s_setix c false (e_op (o_add c) (e_rd (p_ix c (pn 0) k_str)) k_int) (pn 0) k_str)
    (z_seq (s_par c 5 6 (a_cons (e_rd (p_ix c (pn 0) k_str)) (a_cons (e_rd (p_ix c (pn 0) k_str)) an)))
    (z_seq (s_set c 3 (e_op (o_mod c) (e_ty (b_int c) m_int_ (a_cons (e_op (o_add c) (e_op (o_add c) (e_rd (p_ix c (pn 0) k_str)) (e_op (o_mul c) k_int (e_ty (b_int c) m_int_ (a_cons (e_ix c (vv 6) (e_op (o_mod c) (e_ty (b_int c) m_int_ (a_cons (vv 5) an)) (e_bi (b_len c) m_len_ (a_cons (vv 6) an)))) an)))) (e_op (o_mul c) k_int (vv 5))) an)) k_int))
    (z_seq (s_set c 3 (e_op (o_mod c) (e_ty (b_int c) m_int_ (a_cons (e_op (o_add c) (e_op (o_add c) (e_op (o_mul c) (vv 3) k_int) (e_op (o_mul c) (vv 5) (vv 5))) k_int) an)) k_int))
    (z_seq (s_set c 3 (e_op (o_mod c) (e_ty (b_int c) m_int_ (a_cons (e_op (o_add c) (e_op (o_mul c) (vv 3) k_int) (e_op (o_fdiv c) (vv 3) k_int)) an)) k_int))
    (z_one (z_ret (e_op (o_mod c) (e_ty (b_int c) m_int_ (a_cons (e_op (o_fdiv c) (vv 3) k_int) an)) (vv 1))))))))))))

/-! _law_pick -/
abbrev s__law_pick : Stmt := topS 9
theorem sc__law_pick : FnScope ["jar", "row"] ["jar", "row"] (defScope s__law_pick) := ⟨rfl, rfl, rfl, by decide +kernel, rfl, by decide +kernel, by decide +kernel⟩
def b__law_pick (cf : CF) : LS → SR :=
  (retS (op2E ixK lvB true (varE 1) (callEE cf 1 (slotC 0 (consC false (biE (biD .len) (consA false (varE 1) nilA)) nilC)))))
def d__law_pick : BDef := ⟨2, 2, [0], b__law_pick⟩
theorem k__law_pick (mono : Mono XR) {k fi : Nat} {f : Addr} {fd : FuncData} {cf cf' : CF} (F : Fun K "_law_pick" "_law_pick" s__law_pick f fd) (hcf : ∀ xs, cf' fi xs = runB d__law_pick.np d__law_pick.ns d__law_pick.io (d__law_pick.body cf) xs) (m_len_ : mg "len" = none)
    (C__law_draw : ∀ (X : Cx) (Y : Yx), X.prog = Pr → X.w = w → X.K = K → X.mg = mg → X.base = base → Y.K = K → Y.XR = XR → Cal k X Y "_law_draw" cf 1 2 [0]) :
    FnG Pr w K mg base (k + 1) f fd ["jar", "row"] (spF K XR cf' fi d__law_pick.np d__law_pick.io) :=
  fn_step (mono := mono) F sc__law_pick rfl rfl (by decide) rfl hcf fun cdv A outer s H E c =>
    have C__law_draw := C__law_draw (cxOf (L2.CX Pr w) Pr w K mg base _ _ (defScope s__law_pick) f cdv A outer s H E) (yOf K XR mono E) rfl rfl rfl rfl rfl rfl rfl
    (z_one (z_ret (e_ix c (vv 1) (e_call c C__law_draw (ac_slot 0 (ac_cons (e_bi (b_len c) m_len_ (a_cons (vv 1) an)) acn))))))

/-! _law_mixed -/
abbrev s__law_mixed : Stmt := topS 10
theorem sc__law_mixed : FnScope ["jar", "row", "left", "found"] ["jar", "row"] (defScope s__law_mixed) := ⟨rfl, rfl, rfl, by decide +kernel, rfl, by decide +kernel, by decide +kernel⟩
def b__law_mixed (cf : CF) : LS → SR :=
  (seqS (parS [2, 3] (consA false (biE (biD .list) (consA false (varE 1) nilA)) (consA false (lstE nilA) nilA)))
  (seqS (whlS (tstE (op2E (cmpK .NotEq) lvC false (varE 2) (lstE nilA)))
  (exS (mutE 3 false (mutG .append) nilP (consA false (mutE 2 false (mutG .pop) nilP (consA false (callEE cf 1 (slotC 0 (consC false (biE (biD .len) (consA false (varE 2) nilA)) nilC))) nilA)) nilA))))
  (retS (takeE 3))))
def d__law_mixed : BDef := ⟨2, 4, [0], b__law_mixed⟩
theorem k__law_mixed (mono : Mono XR) {k fi : Nat} {f : Addr} {fd : FuncData} {cf cf' : CF} (F : Fun K "_law_mixed" "_law_mixed" s__law_mixed f fd) (hcf : ∀ xs, cf' fi xs = runB d__law_mixed.np d__law_mixed.ns d__law_mixed.io (d__law_mixed.body cf) xs) (m_len_ : mg "len" = none) (m_list_ : mg "list" = none)
    (C__law_draw : ∀ (X : Cx) (Y : Yx), X.prog = Pr → X.w = w → X.K = K → X.mg = mg → X.base = base → Y.K = K → Y.XR = XR → Cal k X Y "_law_draw" cf 1 2 [0]) :
    FnG Pr w K mg base (k + 1) f fd ["jar", "row"] (spF K XR cf' fi d__law_mixed.np d__law_mixed.io) :=
  fn_step (mono := mono) F sc__law_mixed rfl rfl (by decide) rfl hcf fun cdv A outer s H E c =>
    have C__law_draw := C__law_draw (cxOf (L2.CX Pr w) Pr w K mg base _ _ (defScope s__law_mixed) f cdv A outer s H E) (yOf K XR mono E) rfl rfl rfl rfl rfl rfl rfl
    (z_seq (s_par c 2 3 (a_cons (e_ty (b_list c) m_list_ (a_cons (vv 1) an)) (a_cons (e_lst an) an)))
    (z_seq (z_whl pass_def (t_cmp (q_ne c) (vv 2) (e_lst an))
    (z_one (z_ex (m_append c false (pn 3) (a_cons (m_pop c false (pn 2) (a_cons (e_call c C__law_draw (ac_slot 0 (ac_cons (e_bi (b_len c) m_len_ (a_cons (vv 2) an)) acn))) an)) an)))))
    (z_one (z_ret (tv 3)))))

/-! _law_rows -/
abbrev s__law_rows : Stmt := topS 11
theorem sc__law_rows : FnScope ["league", "row"] ["league"] (defScope s__law_rows) := ⟨rfl, rfl, rfl, by decide +kernel, rfl, by decide +kernel, by decide +kernel⟩
def b__law_rows (cf : CF) : LS → SR :=
  (retS (lcE [1] false (.nm 1) (itP (varE 0)) tyE (biE (biD .list) (consA false (varE 1) nilA))))
def d__law_rows : BDef := ⟨1, 2, [], b__law_rows⟩
theorem k__law_rows (mono : Mono XR) {k fi : Nat} {f : Addr} {fd : FuncData} {cf cf' : CF} (F : Fun K "_law_rows" "_law_rows" s__law_rows f fd) (hcf : ∀ xs, cf' fi xs = runB d__law_rows.np d__law_rows.ns d__law_rows.io (d__law_rows.body cf) xs) (m_list_ : mg "list" = none) :
    FnG Pr w K mg base (k + 1) f fd ["league"] (spF K XR cf' fi d__law_rows.np d__law_rows.io) :=
  fn_step (mono := mono) F sc__law_rows rfl rfl (by decide) rfl hcf fun cdv A outer s H E c =>
    (z_one (z_ret (e_lc c [("row", 1)] [1] (i_any c (vv 0)) (fun _ _ _ _ _ c => (g_nm c 1)) (fun _ _ _ _ _ cb => ln) (fun _ _ _ _ _ cb => (e_ty (b_list cb) m_list_ (a_cons (vv 1) an))))))

/-! _law_shut -/
abbrev s__law_shut : Stmt := topS 12
theorem sc__law_shut : FnScope ["rows", "row"] ["rows"] (defScope s__law_shut) := ⟨rfl, rfl, rfl, by decide +kernel, rfl, by decide +kernel, by decide +kernel⟩
def b__law_shut (cf : CF) : LS → SR :=
  (retS (biE (biD .tuple) (consA false (lcE [1] false (.nm 1) (itP (varE 0)) tyE (biE (biD .tuple) (consA false (biE (biD .sorted) (consA false (varE 1) nilA)) nilA))) nilA)))
def d__law_shut : BDef := ⟨1, 2, [], b__law_shut⟩
theorem k__law_shut (mono : Mono XR) {k fi : Nat} {f : Addr} {fd : FuncData} {cf cf' : CF} (F : Fun K "_law_shut" "_law_shut" s__law_shut f fd) (hcf : ∀ xs, cf' fi xs = runB d__law_shut.np d__law_shut.ns d__law_shut.io (d__law_shut.body cf) xs) (m_sorted_ : mg "sorted" = none) (m_tuple_ : mg "tuple" = none) :
    FnG Pr w K mg base (k + 1) f fd ["rows"] (spF K XR cf' fi d__law_shut.np d__law_shut.io) :=
  fn_step (mono := mono) F sc__law_shut rfl rfl (by decide) rfl hcf fun cdv A outer s H E c =>
    (z_one (z_ret (e_ty (b_tuple c) m_tuple_ (a_cons (e_lc c [("row", 1)] [1] (i_any c (vv 0)) (fun _ _ _ _ _ c => (g_nm c 1)) (fun _ _ _ _ _ cb => ln) (fun _ _ _ _ _ cb => (e_ty (b_tuple cb) m_tuple_ (a_cons (e_bi (b_sorted cb) m_sorted_ (a_cons (vv 1) an)) an)))) an))))

/-! _law_turn -/
abbrev s__law_turn : Stmt := topS 13
theorem sc__law_turn : FnScope ["rows", "a", "b"] ["rows", "a", "b"] (defScope s__law_turn) := ⟨rfl, rfl, rfl, by decide +kernel, rfl, by decide +kernel, by decide +kernel⟩
def b__law_turn (cf : CF) : LS → SR :=
  (ifS (tstE (op2E (cmpK .In) lvC false (varE 2) (op2E ixK lvB false (varE 0) (varE 1)))) (seqS (exS (mutE 0 false (mutG .remove) (snocP nilP (varE 1)) (consA false (varE 2) nilA)))
  (exS (mutE 0 false (mutG .append) (snocP nilP (varE 2)) (consA false (varE 1) nilA)))) (seqS (exS (mutE 0 false (mutG .remove) (snocP nilP (varE 2)) (consA false (varE 1) nilA)))
  (exS (mutE 0 false (mutG .append) (snocP nilP (varE 1)) (consA false (varE 2) nilA)))))
def d__law_turn : BDef := ⟨3, 3, [0], b__law_turn⟩
theorem k__law_turn (mono : Mono XR) {k fi : Nat} {f : Addr} {fd : FuncData} {cf cf' : CF} (F : Fun K "_law_turn" "_law_turn" s__law_turn f fd) (hcf : ∀ xs, cf' fi xs = runB d__law_turn.np d__law_turn.ns d__law_turn.io (d__law_turn.body cf) xs) :
    FnG Pr w K mg base (k + 1) f fd ["rows", "a", "b"] (spF K XR cf' fi d__law_turn.np d__law_turn.io) :=
  fn_step (mono := mono) F sc__law_turn rfl rfl (by decide) rfl hcf fun cdv A outer s H E c =>
    (z_one (z_if (t_cmp (q_in c) (vv 2) (e_ix c (vv 0) (vv 1))) (z_seq (z_ex (m_remove c false (p_ix c (pn 0) (vv 1)) (a_cons (vv 2) an)))
    (z_one (z_ex (m_append c false (p_ix c (pn 0) (vv 2)) (a_cons (vv 1) an))))) (z_seq (z_ex (m_remove c false (p_ix c (pn 0) (vv 2)) (a_cons (vv 1) an)))
    (z_one (z_ex (m_append c false (p_ix c (pn 0) (vv 1)) (a_cons (vv 2) an)))))))

/-! _law_with -/
abbrev s__law_with : Stmt := topS 14
theorem sc__law_with : FnScope ["league", "some", "rows", "a", "b"] ["league", "some"] (defScope s__law_with) := ⟨rfl, rfl, rfl, by decide +kernel, rfl, by decide +kernel, by decide +kernel⟩
def b__law_with (cf : CF) : LS → SR :=
  (seqS (setS1 2 (callEE cf 7 (consC false (varE 0) nilC)))
  (seqS (forS (itP (varE 1)) (.tp (.cons (.nm 3) (.cons (.nm 4) .nil)))
  (exS (callEE cf 8 (slotC 2 (consC false (varE 3) (consC false (varE 4) nilC))))))
  (retS (callEE cf 3 (consC false (varE 2) nilC)))))
def d__law_with : BDef := ⟨2, 5, [], b__law_with⟩
theorem k__law_with (mono : Mono XR) {k fi : Nat} {f : Addr} {fd : FuncData} {cf cf' : CF} (F : Fun K "_law_with" "_law_with" s__law_with f fd) (hcf : ∀ xs, cf' fi xs = runB d__law_with.np d__law_with.ns d__law_with.io (d__law_with.body cf) xs)
    (C__law_rows : ∀ (X : Cx) (Y : Yx), X.prog = Pr → X.w = w → X.K = K → X.mg = mg → X.base = base → Y.K = K → Y.XR = XR → Cal k X Y "_law_rows" cf 7 1 [])
    (C__law_shut : ∀ (X : Cx) (Y : Yx), X.prog = Pr → X.w = w → X.K = K → X.mg = mg → X.base = base → Y.K = K → Y.XR = XR → Cal k X Y "_law_shut" cf 3 1 [])
    (C__law_turn : ∀ (X : Cx) (Y : Yx), X.prog = Pr → X.w = w → X.K = K → X.mg = mg → X.base = base → Y.K = K → Y.XR = XR → Cal k X Y "_law_turn" cf 8 3 [0]) :
    FnG Pr w K mg base (k + 1) f fd ["league", "some"] (spF K XR cf' fi d__law_with.np d__law_with.io) :=
  fn_step (mono := mono) F sc__law_with rfl rfl (by decide) rfl hcf fun cdv A outer s H E c =>
    have C__law_rows := C__law_rows (cxOf (L2.CX Pr w) Pr w K mg base _ _ (defScope s__law_with) f cdv A outer s H E) (yOf K XR mono E) rfl rfl rfl rfl rfl rfl rfl
    have C__law_shut := C__law_shut (cxOf (L2.CX Pr w) Pr w K mg base _ _ (defScope s__law_with) f cdv A outer s H E) (yOf K XR mono E) rfl rfl rfl rfl rfl rfl rfl
    have C__law_turn := C__law_turn (cxOf (L2.CX Pr w) Pr w K mg base _ _ (defScope s__law_with) f cdv A outer s H E) (yOf K XR mono E) rfl rfl rfl rfl rfl rfl rfl
    (z_seq (s_set c 2 (e_call c C__law_rows (ac_cons (vv 0) acn)))
    (z_seq (z_for c pass_def (i_any c (vv 1)) (g_tup c (g_cons (g_nm c 3) (g_cons (g_nm c 4) g_nil)))
    (z_one (z_ex (e_call c C__law_turn (ac_slot 2 (ac_cons (vv 3) (ac_cons (vv 4) acn)))))))
    (z_one (z_ret (e_call c C__law_shut (ac_cons (vv 2) acn))))))

/-! _law_matches -/
abbrev s__law_matches : Stmt := topS 15
theorem sc__law_matches : FnScope ["n", "found", "a", "b"] ["n"] (defScope s__law_matches) := ⟨rfl, rfl, rfl, by decide +kernel, rfl, by decide +kernel, by decide +kernel⟩
def b__law_matches (cf : CF) : LS → SR :=
  (seqS (setS1 1 (lstE nilA))
  (seqS (forS (itR true (consA false (varE 0) nilA)) (.nm 2)
  (exS (mutE 1 false (mutG .extend) nilP (consA false (lcE [3] false (.nm 3) (itR false (consA false (op2E (bopD .Add) lvB false (varE 2) (cE (.int 1))) (consA false (varE 0) nilA))) tyE (tupE (consA false (varE 2) (consA false (varE 3) nilA)))) nilA))))
  (retS (takeE 1))))
def d__law_matches : BDef := ⟨1, 4, [], b__law_matches⟩
theorem k__law_matches (mono : Mono XR) {k fi : Nat} {f : Addr} {fd : FuncData} {cf cf' : CF} (F : Fun K "_law_matches" "_law_matches" s__law_matches f fd) (hcf : ∀ xs, cf' fi xs = runB d__law_matches.np d__law_matches.ns d__law_matches.io (d__law_matches.body cf) xs) (m_range_ : mg "range" = none) :
    FnG Pr w K mg base (k + 1) f fd ["n"] (spF K XR cf' fi d__law_matches.np d__law_matches.io) :=
  fn_step (mono := mono) F sc__law_matches rfl rfl (by decide) rfl hcf fun cdv A outer s H E c =>
    (z_seq (s_set c 1 (e_lst an))
    (z_seq (z_for c pass_def (i_rng1 c m_range_ (a_cons (vv 0) an)) (g_nm c 2)
    (z_one (z_ex (m_extend c false (pn 1) (a_cons (e_lc c [("b", 3)] [3] (i_rng2 c m_range_ (a_cons (e_op (o_add c) (vv 2) k_int) (a_cons (vv 0) an))) (fun _ _ _ _ _ c => (g_nm c 3)) (fun _ _ _ _ _ cb => ln) (fun _ _ _ _ _ cb => (e_tup (a_cons (vv 2) (a_cons (vv 3) an))))) an)))))
    (z_one (z_ret (tv 1)))))

/-! _law_league -/
abbrev s__law_league : Stmt := topS 16
theorem sc__law_league : FnScope ["jar", "n", "style", "order", "rows", "i", "j", "is_turned", "high", "low", "side"] ["jar", "n"] (defScope s__law_league) := ⟨rfl, rfl, rfl, by decide +kernel, rfl, by decide +kernel, by decide +kernel⟩
def b__law_league (cf : CF) : LS → SR :=
  (seqS (parS [2, 3, 4] (consA true (callEE cf 1 (slotC 0 (consC false (cE (.int 6)) nilC))) (consA false (callEE cf 2 (slotC 0 (consC false (lrE (varE 1)) nilC))) (consA false (lcE [10] false (.nm 10) (itR true (consA false (varE 1) nilA)) tyE (lstE nilA)) nilA))))
  (seqS (forS (itP (callEE cf 4 (consC false (varE 1) nilC))) (.tp (.cons (.nm 5) (.cons (.nm 6) .nil)))
  (seqS (parS [8, 9] (consA false (op2E ixK lvB false (varE 3) (varE 5)) (consA false (op2E ixK lvB false (varE 3) (varE 6)) nilA)))
  (seqS (setS1 7 (op2E (cmpK .Eq) lvC false (callEE cf 1 (slotC 0 (consC false (cE (.int 2)) nilC))) (cE (.int 0))))
  (seqS (ifS (tstE (op2E (cmpK .Lt) lvC false (varE 2) (cE (.int 2)))) (setS1 7 (andE (op2E (cmpK .Eq) lvC false (varE 2) (cE (.int 1))) (op2E (cmpK .Eq) lvC false (callEE cf 1 (slotC 0 (consC false (cE (.int 5)) nilC))) (cE (.int 0))))) (ifS (tstE (op2E (cmpK .Eq) lvC false (varE 2) (cE (.int 2)))) (setS1 7 (op2E (cmpK .Gt) lvC false (op2E (bopD .Sub) lvB false (varE 6) (varE 5)) (op2E (bopD .FloorDiv) lvB false (varE 1) (cE (.int 2))))) nxtS))
  (exS (mutE 4 false (mutG .append) (snocP nilP (iteE (varE 7) (varE 9) (varE 8))) (consA false (iteE (varE 7) (varE 8) (varE 9)) nilA)))))))
  (retS (callEE cf 3 (consC false (varE 4) nilC)))))
def d__law_league : BDef := ⟨2, 11, [0], b__law_league⟩
theorem k__law_league (mono : Mono XR) {k fi : Nat} {f : Addr} {fd : FuncData} {cf cf' : CF} (F : Fun K "_law_league" "_law_league" s__law_league f fd) (hcf : ∀ xs, cf' fi xs = runB d__law_league.np d__law_league.ns d__law_league.io (d__law_league.body cf) xs) (m_list_ : mg "list" = none) (m_range_ : mg "range" = none)
    (C__law_draw : ∀ (X : Cx) (Y : Yx), X.prog = Pr → X.w = w → X.K = K → X.mg = mg → X.base = base → Y.K = K → Y.XR = XR → Cal k X Y "_law_draw" cf 1 2 [0])
    (C__law_matches : ∀ (X : Cx) (Y : Yx), X.prog = Pr → X.w = w → X.K = K → X.mg = mg → X.base = base → Y.K = K → Y.XR = XR → Cal k X Y "_law_matches" cf 4 1 [])
    (C__law_mixed : ∀ (X : Cx) (Y : Yx), X.prog = Pr → X.w = w → X.K = K → X.mg = mg → X.base = base → Y.K = K → Y.XR = XR → Cal k X Y "_law_mixed" cf 2 2 [0])
    (C__law_shut : ∀ (X : Cx) (Y : Yx), X.prog = Pr → X.w = w → X.K = K → X.mg = mg → X.base = base → Y.K = K → Y.XR = XR → Cal k X Y "_law_shut" cf 3 1 []) :
    FnG Pr w K mg base (k + 1) f fd ["jar", "n"] (spF K XR cf' fi d__law_league.np d__law_league.io) :=
  fn_step (mono := mono) F sc__law_league rfl rfl (by decide) rfl hcf fun cdv A outer s H E c =>
    have C__law_draw := C__law_draw (cxOf (L2.CX Pr w) Pr w K mg base _ _ (defScope s__law_league) f cdv A outer s H E) (yOf K XR mono E) rfl rfl rfl rfl rfl rfl rfl
    have C__law_matches := C__law_matches (cxOf (L2.CX Pr w) Pr w K mg base _ _ (defScope s__law_league) f cdv A outer s H E) (yOf K XR mono E) rfl rfl rfl rfl rfl rfl rfl
    have C__law_mixed := C__law_mixed (cxOf (L2.CX Pr w) Pr w K mg base _ _ (defScope s__law_league) f cdv A outer s H E) (yOf K XR mono E) rfl rfl rfl rfl rfl rfl rfl
    have C__law_shut := C__law_shut (cxOf (L2.CX Pr w) Pr w K mg base _ _ (defScope s__law_league) f cdv A outer s H E) (yOf K XR mono E) rfl rfl rfl rfl rfl rfl rfl
    (z_seq (s_par3 c 2 3 4 (a_cons (e_call c C__law_draw (ac_slot 0 (ac_cons k_int acn))) (a_cons (e_call c C__law_mixed (ac_slot 0 (ac_cons (e_lr c m_list_ m_range_ (vv 1)) acn))) (a_cons (e_lc c [("side", 10)] [10] (i_rng1 c m_range_ (a_cons (vv 1) an)) (fun _ _ _ _ _ c => (g_nm c 10)) (fun _ _ _ _ _ cb => ln) (fun _ _ _ _ _ cb => (e_lst an))) an))))
    (z_seq (z_for c pass_def (i_any c (e_call c C__law_matches (ac_cons (vv 1) acn))) (g_tup c (g_cons (g_nm c 5) (g_cons (g_nm c 6) g_nil)))
    (z_seq (s_par c 8 9 (a_cons (e_ix c (vv 3) (vv 5)) (a_cons (e_ix c (vv 3) (vv 6)) an)))
    (z_seq (s_set c 7 (e_cmp (q_eq c) (e_call c C__law_draw (ac_slot 0 (ac_cons k_int acn))) k_int))
    (z_seq (z_if (t_cmp (q_lt c) (vv 2) k_int) (z_one (s_set c 7 (e_and (e_cmp (q_eq c) (vv 2) k_int) (e_one (e_cmp (q_eq c) (e_call c C__law_draw (ac_slot 0 (ac_cons k_int acn))) k_int))))) (z_one (z_if (t_cmp (q_eq c) (vv 2) k_int) (z_one (s_set c 7 (e_cmp (q_gt c) (e_op (o_sub c) (vv 6) (vv 5)) (e_op (o_fdiv c) (vv 1) k_int)))) z_nil)))
    (z_one (z_ex (m_append c false (p_ix c (pn 4) (e_ite (t_val (vv 7)) (vv 9) (vv 8))) (a_cons (e_ite (t_val (vv 7)) (vv 8) (vv 9)) an))))))))
    (z_one (z_ret (e_call c C__law_shut (ac_cons (vv 4) acn))))))

/-! _law_rings -/
abbrev s__law_rings : Stmt := topS 17
theorem sc__law_rings : FnScope ["league", "a", "found", "n", "b", "c"] ["league"] (defScope s__law_rings) := ⟨rfl, rfl, rfl, by decide +kernel, rfl, by decide +kernel, by decide +kernel⟩
def b__law_rings (cf : CF) : LS → SR :=
  (seqS (parS [2, 3] (consA false (lstE nilA) (consA false (biE (biD .len) (consA false (varE 0) nilA)) nilA)))
  (seqS (forS (itR true (consA false (varE 3) nilA)) (.nm 1)
  (forS (itR false (consA false (op2E (bopD .Add) lvB false (varE 1) (cE (.int 1))) (consA false (varE 3) nilA))) (.nm 4)
  (forS (itR false (consA false (op2E (bopD .Add) lvB false (varE 4) (cE (.int 1))) (consA false (varE 3) nilA))) (.nm 5)
  (seqS (ifS (tstE (andE (op2E (cmpK .In) lvC false (varE 4) (op2E ixK lvB false (varE 0) (varE 1))) (andE (op2E (cmpK .In) lvC false (varE 5) (op2E ixK lvB false (varE 0) (varE 4))) (op2E (cmpK .In) lvC false (varE 1) (op2E ixK lvB false (varE 0) (varE 5)))))) (exS (mutE 2 false (mutG .append) nilP (consA false (tupE (consA false (varE 1) (consA false (varE 4) (consA false (varE 5) nilA)))) nilA))) nxtS)
  (ifS (tstE (andE (op2E (cmpK .In) lvC false (varE 5) (op2E ixK lvB false (varE 0) (varE 1))) (andE (op2E (cmpK .In) lvC false (varE 4) (op2E ixK lvB false (varE 0) (varE 5))) (op2E (cmpK .In) lvC false (varE 1) (op2E ixK lvB false (varE 0) (varE 4)))))) (exS (mutE 2 false (mutG .append) nilP (consA false (tupE (consA false (varE 1) (consA false (varE 5) (consA false (varE 4) nilA)))) nilA))) nxtS)))))
  (retS (biE (biD .tuple) (consA false (biE (biD .sorted) (consA false (varE 2) nilA)) nilA)))))
def d__law_rings : BDef := ⟨1, 6, [], b__law_rings⟩
theorem k__law_rings (mono : Mono XR) {k fi : Nat} {f : Addr} {fd : FuncData} {cf cf' : CF} (F : Fun K "_law_rings" "_law_rings" s__law_rings f fd) (hcf : ∀ xs, cf' fi xs = runB d__law_rings.np d__law_rings.ns d__law_rings.io (d__law_rings.body cf) xs) (m_len_ : mg "len" = none) (m_range_ : mg "range" = none) (m_sorted_ : mg "sorted" = none) (m_tuple_ : mg "tuple" = none) :
    FnG Pr w K mg base (k + 1) f fd ["league"] (spF K XR cf' fi d__law_rings.np d__law_rings.io) :=
  fn_step (mono := mono) F sc__law_rings rfl rfl (by decide) rfl hcf fun cdv A outer s H E c =>
    (z_seq (s_par c 2 3 (a_cons (e_lst an) (a_cons (e_bi (b_len c) m_len_ (a_cons (vv 0) an)) an)))
    (z_seq (z_for c pass_def (i_rng1 c m_range_ (a_cons (vv 3) an)) (g_nm c 1)
    (z_one (z_for c pass_def (i_rng2 c m_range_ (a_cons (e_op (o_add c) (vv 1) k_int) (a_cons (vv 3) an))) (g_nm c 4)
    (z_one (z_for c pass_def (i_rng2 c m_range_ (a_cons (e_op (o_add c) (vv 4) k_int) (a_cons (vv 3) an))) (g_nm c 5)
    (z_seq (z_if (t_w (w_and (t_cmp (q_in c) (vv 4) (e_ix c (vv 0) (vv 1))) (w_and (t_cmp (q_in c) (vv 5) (e_ix c (vv 0) (vv 4))) (w_and1 (t_cmp (q_in c) (vv 1) (e_ix c (vv 0) (vv 5))))))) (z_one (z_ex (m_append c false (pn 2) (a_cons (e_tup (a_cons (vv 1) (a_cons (vv 4) (a_cons (vv 5) an)))) an)))) z_nil)
    (z_one (z_if (t_w (w_and (t_cmp (q_in c) (vv 5) (e_ix c (vv 0) (vv 1))) (w_and (t_cmp (q_in c) (vv 4) (e_ix c (vv 0) (vv 5))) (w_and1 (t_cmp (q_in c) (vv 1) (e_ix c (vv 0) (vv 4))))))) (z_one (z_ex (m_append c false (pn 2) (a_cons (e_tup (a_cons (vv 1) (a_cons (vv 5) (a_cons (vv 4) an)))) an)))) z_nil))))))))
    (z_one (z_ret (e_ty (b_tuple c) m_tuple_ (a_cons (e_bi (b_sorted c) m_sorted_ (a_cons (vv 2) an)) an))))))

/-! _law_count -/
abbrev s__law_count : Stmt := topS 18
theorem sc__law_count : FnScope ["league", "n", "row"] ["league"] (defScope s__law_count) := ⟨rfl, rfl, rfl, by decide +kernel, rfl, by decide +kernel, by decide +kernel⟩
def b__law_count (cf : CF) : LS → SR :=
  (seqS (setS1 1 (biE (biD .len) (consA false (varE 0) nilA)))
  (retS (op2E (bopD .Sub) lvB false (op2E (bopD .FloorDiv) lvB false (op2E (bopD .Mult) lvB false (op2E (bopD .Mult) lvB false (varE 1) (op2E (bopD .Sub) lvB false (varE 1) (cE (.int 1)))) (op2E (bopD .Sub) lvB false (varE 1) (cE (.int 2)))) (cE (.int 6))) (biE (biD .sum) (consA false (lcE [2] false (.nm 2) (itP (varE 0)) tyE (op2E (bopD .FloorDiv) lvB false (op2E (bopD .Mult) lvB false (biE (biD .len) (consA false (varE 2) nilA)) (op2E (bopD .Sub) lvB false (biE (biD .len) (consA false (varE 2) nilA)) (cE (.int 1)))) (cE (.int 2)))) nilA)))))
def d__law_count : BDef := ⟨1, 3, [], b__law_count⟩
theorem k__law_count (mono : Mono XR) {k fi : Nat} {f : Addr} {fd : FuncData} {cf cf' : CF} (F : Fun K "_law_count" "_law_count" s__law_count f fd) (hcf : ∀ xs, cf' fi xs = runB d__law_count.np d__law_count.ns d__law_count.io (d__law_count.body cf) xs) (m_len_ : mg "len" = none) (m_sum_ : mg "sum" = none) :
    FnG Pr w K mg base (k + 1) f fd ["league"] (spF K XR cf' fi d__law_count.np d__law_count.io) :=
  fn_step (mono := mono) F sc__law_count rfl rfl (by decide) rfl hcf fun cdv A outer s H E c =>
    (z_seq (s_set c 1 (e_bi (b_len c) m_len_ (a_cons (vv 0) an)))
    (z_one (z_ret (e_op (o_sub c) (e_op (o_fdiv c) (e_op (o_mul c) (e_op (o_mul c) (vv 1) (e_op (o_sub c) (vv 1) k_int)) (e_op (o_sub c) (vv 1) k_int)) k_int) (e_bi (b_sum c) m_sum_ (a_cons (e_lc c [("row", 2)] [2] (i_any c (vv 0)) (fun _ _ _ _ _ c => (g_nm c 2)) (fun _ _ _ _ _ cb => ln) (fun _ _ _ _ _ cb => (e_op (o_fdiv cb) (e_op (o_mul cb) (e_bi (b_len cb) m_len_ (a_cons (vv 2) an)) (e_op (o_sub cb) (e_bi (b_len cb) m_len_ (a_cons (vv 2) an)) k_int)) k_int))) an))))))

/-! _law_are_parts -/
abbrev s__law_are_parts : Stmt := topS 19
theorem sc__law_are_parts : FnScope ["league", "many", "parts", "found", "side"] ["league", "many", "parts"] (defScope s__law_are_parts) := ⟨rfl, rfl, rfl, by decide +kernel, rfl, by decide +kernel, by decide +kernel⟩
def b__law_are_parts (cf : CF) : LS → SR :=
  (seqS (setS1 3 (lcE [4] false (.nm 4) (itR true (consA false (biE (biD .len) (consA false (varE 0) nilA)) nilA)) tyE (callEE cf 25 (consC false (varE 0) (consC false (varE 4) nilC)))))
  (retS (op2E (cmpK .Eq) lvC false (biE (biD .repr) (consA false (lstE (consA false (callEE cf 14 (consC false (varE 0) nilC)) (consA false (varE 3) nilA))) nilA)) (biE (biD .repr) (consA false (lstE (consA false (varE 1) (consA false (varE 2) nilA))) nilA)))))
def d__law_are_parts : BDef := ⟨3, 5, [], b__law_are_parts⟩
theorem k__law_are_parts (mono : Mono XR) {k fi : Nat} {f : Addr} {fd : FuncData} {cf cf' : CF} (F : Fun K "_law_are_parts" "_law_are_parts" s__law_are_parts f fd) (hcf : ∀ xs, cf' fi xs = runB d__law_are_parts.np d__law_are_parts.ns d__law_are_parts.io (d__law_are_parts.body cf) xs) (m_len_ : mg "len" = none) (m_range_ : mg "range" = none) (m_repr_ : mg "repr" = none)
    (C_ring_count : ∀ (X : Cx) (Y : Yx), X.prog = Pr → X.w = w → X.K = K → X.mg = mg → X.base = base → Y.K = K → Y.XR = XR → Cal k X Y "ring_count" cf 14 1 [])
    (C_rings_with : ∀ (X : Cx) (Y : Yx), X.prog = Pr → X.w = w → X.K = K → X.mg = mg → X.base = base → Y.K = K → Y.XR = XR → Cal k X Y "rings_with" cf 25 2 []) :
    FnG Pr w K mg base (k + 1) f fd ["league", "many", "parts"] (spF K XR cf' fi d__law_are_parts.np d__law_are_parts.io) :=
  fn_step (mono := mono) F sc__law_are_parts rfl rfl (by decide) rfl hcf fun cdv A outer s H E c =>
    have C_ring_count := C_ring_count (cxOf (L2.CX Pr w) Pr w K mg base _ _ (defScope s__law_are_parts) f cdv A outer s H E) (yOf K XR mono E) rfl rfl rfl rfl rfl rfl rfl
    have C_rings_with := C_rings_with (cxOf (L2.CX Pr w) Pr w K mg base _ _ (defScope s__law_are_parts) f cdv A outer s H E) (yOf K XR mono E) rfl rfl rfl rfl rfl rfl rfl
    (z_seq (z_lc c 3 [("side", 4)] [4] (i_rng1 c m_range_ (a_cons (e_bi (b_len c) m_len_ (a_cons (vv 0) an)) an)) (fun _ _ _ _ _ c => (g_nm c 4)) (fun _ _ _ _ _ cb => ln) (fun _ _ _ _ _ cb => (e_call cb (C_rings_with.blk ..) (ac_cons (vv 0) (ac_cons (vv 4) acn)))))
    (z_one (z_ret (e_cmp (q_eq c) (e_bi (b_repr c) m_repr_ (a_cons (e_lst (a_cons (e_call c C_ring_count (ac_cons (vv 0) acn)) (a_cons (vv 3) an))) an)) (e_bi (b_repr c) m_repr_ (a_cons (e_lst (a_cons (vv 1) (a_cons (vv 2) an))) an))))))

/-! law -/
abbrev s_law : Stmt := topS 20
theorem sc_law : FnScope ["script", "jar", "turn", "n", "league", "told", "parts", "order", "fresh", "kept", "found", "every", "side", "a", "b", "c", "ring", "other"] ["script"] (defScope s_law) := ⟨rfl, rfl, rfl, by decide +kernel, rfl, by decide +kernel, by decide +kernel⟩
def b_law (cf : CF) : LS → SR :=
  (seqS (setS1 1 (callEE cf 0 (consC false (varE 0) nilC)))
  (seqS (forS (itR true (consA false (cE (.int 7)) nilA)) (.nm 2)
  (seqS (setS1 3 (op2E (bopD .Add) lvB true (cE (.int 1)) (callEE cf 1 (slotC 1 (consC false (cE (.int 8)) nilC)))))
  (seqS (setS1 4 (callEE cf 5 (slotC 1 (consC false (varE 3) nilC))))
  (seqS (asgS (.tp (.cons (.nm 9) (.cons (.nm 10) .nil))) (tupE (consA false (biE (biD .repr) (consA false (varE 4) nilA)) (consA false (callEE cf 10 (consC false (varE 4) nilC)) nilA))))
  (seqS (setS1 5 (iteE (op2E (cmpK .Eq) lvC false (varE 2) (cE (.int 1))) (callEE cf 14 (consC false (varE 4) nilC)) (callEE cf 14 (consC false (varE 4) nilC))))
  (seqS (ifS (tstE (orE (op2E (cmpK .NotEq) lvC false (biE (biD .repr) (consA false (varE 5) nilA)) (biE (biD .repr) (consA false (biE (biD .len) (consA false (varE 10) nilA)) nilA))) (op2E (cmpK .NotEq) lvC false (biE (biD .repr) (consA false (varE 5) nilA)) (biE (biD .repr) (consA false (callEE cf 18 (consC false (varE 4) nilC)) nilA))))) (retS (cE (.bool false))) nxtS)
  (seqS (setS1 6 (lcE [12] false (.nm 12) (itR true (consA false (varE 3) nilA)) tyE (iteE (op2E (cmpK .Eq) lvC false (varE 2) (cE (.int 2))) (callEE cf 25 (namesC [4, 12])) (callEE cf 25 (consC false (varE 4) (consC false (varE 12) nilC))))))
  (seqS (ifS (tstE (op2E (cmpK .NotEq) lvC false (biE (biD .repr) (consA false (varE 6) nilA)) (biE (biD .repr) (consA false (lcE [12] false (.nm 12) (itR true (consA false (varE 3) nilA)) tyE (biE (biD .len) (consA false (lcE [16] false (.nm 16) (itP (varE 10)) (tstE (op2E (cmpK .In) lvC false (varE 12) (varE 16))) (varE 16)) nilA))) nilA)))) (retS (cE (.bool false))) nxtS)
  (seqS (ifS (tstE (orE (op2E (cmpK .NotEq) lvC false (biE (biD .sum) (consA false (varE 6) nilA)) (op2E (bopD .Mult) lvB false (cE (.int 3)) (varE 5))) (op2E (cmpK .NotEq) lvC false (biE (biD .repr) (consA false (varE 4) nilA)) (varE 9)))) (retS (cE (.bool false))) nxtS)
  (seqS (setS1 7 (callEE cf 2 (slotC 1 (consC false (lrE (varE 3)) nilC))))
  (seqS (setS1 8 (biE (biD .tuple) (consA false (lcE [12] false (.nm 12) (itP (varE 7)) tyE (biE (biD .tuple) (consA false (biE (biD .sorted) (consA false (lcE [17] false (.nm 17) (itP (op2E ixK lvB false (varE 4) (varE 12))) tyE (idxE false (varE 7) (consA false (varE 17) nilA))) nilA)) nilA))) nilA)))
  (seqS (ifS (tstE (notE (callEE cf 26 (consC false (varE 8) (consC false (varE 5) (consC false (lcE [12] false (.nm 12) (itP (varE 7)) tyE (op2E ixK lvB false (varE 6) (varE 12))) nilC)))))) (retS (cE (.bool false))) nxtS)
  (ifS (tstE (op2E (cmpK .NotEq) lvC false (varE 10) (tupE nilA))) (seqS (asgS (.tp (.cons (.nm 13) (.cons (.nm 14) (.cons (.nm 15) .nil)))) (callEE cf 6 (slotC 1 (consC false (biE (biD .list) (consA false (varE 10) nilA)) nilC))))
  (seqS (setS1 8 (callEE cf 9 (consC false (varE 4) (consC false (lstE (consA false (tupE (consA false (varE 13) (consA false (varE 14) nilA))) (consA false (tupE (consA false (varE 14) (consA false (varE 15) nilA))) (consA false (tupE (consA false (varE 13) (consA false (varE 15) nilA))) nilA)))) nilC))))
  (seqS (setS1 11 (callEE cf 10 (consC false (varE 8) nilC)))
  (ifS (tstE (notE (callEE cf 26 (consC false (varE 8) (consC false (varE 5) (consC false (lcE [12] false (.nm 12) (itR true (consA false (varE 3) nilA)) tyE (biE (biD .len) (consA false (lcE [16] false (.nm 16) (itP (varE 11)) (tstE (op2E (cmpK .In) lvC false (varE 12) (varE 16))) (varE 16)) nilA))) nilC)))))) (retS (cE (.bool false))) nxtS)))) nxtS)))))))))))))
  (retS (cE (.bool true)))))
def d_law : BDef := ⟨1, 18, [], b_law⟩
theorem k_law (mono : Mono XR) {k fi : Nat} {f : Addr} {fd : FuncData} {cf cf' : CF} (F : Fun K "law" "law" s_law f fd) (hcf : ∀ xs, cf' fi xs = runB d_law.np d_law.ns d_law.io (d_law.body cf) xs) (m_len_ : mg "len" = none) (m_list_ : mg "list" = none) (m_range_ : mg "range" = none) (m_repr_ : mg "repr" = none) (m_sorted_ : mg "sorted" = none) (m_sum_ : mg "sum" = none) (m_tuple_ : mg "tuple" = none)
    (C__law_are_parts : ∀ (X : Cx) (Y : Yx), X.prog = Pr → X.w = w → X.K = K → X.mg = mg → X.base = base → Y.K = K → Y.XR = XR → Cal k X Y "_law_are_parts" cf 26 3 [])
    (C__law_count : ∀ (X : Cx) (Y : Yx), X.prog = Pr → X.w = w → X.K = K → X.mg = mg → X.base = base → Y.K = K → Y.XR = XR → Cal k X Y "_law_count" cf 18 1 [])
    (C__law_draw : ∀ (X : Cx) (Y : Yx), X.prog = Pr → X.w = w → X.K = K → X.mg = mg → X.base = base → Y.K = K → Y.XR = XR → Cal k X Y "_law_draw" cf 1 2 [0])
    (C__law_jar : ∀ (X : Cx) (Y : Yx), X.prog = Pr → X.w = w → X.K = K → X.mg = mg → X.base = base → Y.K = K → Y.XR = XR → Cal k X Y "_law_jar" cf 0 1 [])
    (C__law_league : ∀ (X : Cx) (Y : Yx), X.prog = Pr → X.w = w → X.K = K → X.mg = mg → X.base = base → Y.K = K → Y.XR = XR → Cal k X Y "_law_league" cf 5 2 [0])
    (C__law_mixed : ∀ (X : Cx) (Y : Yx), X.prog = Pr → X.w = w → X.K = K → X.mg = mg → X.base = base → Y.K = K → Y.XR = XR → Cal k X Y "_law_mixed" cf 2 2 [0])
    (C__law_pick : ∀ (X : Cx) (Y : Yx), X.prog = Pr → X.w = w → X.K = K → X.mg = mg → X.base = base → Y.K = K → Y.XR = XR → Cal k X Y "_law_pick" cf 6 2 [0])
    (C__law_rings : ∀ (X : Cx) (Y : Yx), X.prog = Pr → X.w = w → X.K = K → X.mg = mg → X.base = base → Y.K = K → Y.XR = XR → Cal k X Y "_law_rings" cf 10 1 [])
    (C__law_with : ∀ (X : Cx) (Y : Yx), X.prog = Pr → X.w = w → X.K = K → X.mg = mg → X.base = base → Y.K = K → Y.XR = XR → Cal k X Y "_law_with" cf 9 2 [])
    (C_ring_count : ∀ (X : Cx) (Y : Yx), X.prog = Pr → X.w = w → X.K = K → X.mg = mg → X.base = base → Y.K = K → Y.XR = XR → Cal k X Y "ring_count" cf 14 1 [])
    (C_rings_with : ∀ (X : Cx) (Y : Yx), X.prog = Pr → X.w = w → X.K = K → X.mg = mg → X.base = base → Y.K = K → Y.XR = XR → Cal k X Y "rings_with" cf 25 2 [])
    (K_ring_count : ∀ (X : Cx) (Y : Yx), X.prog = Pr → X.w = w → X.K = K → X.mg = mg → X.base = base → Y.K = K → Y.XR = XR → CalK k X Y "ring_count" ["league"] cf 14 1 [])
    (Q_rings_with_side_league : ∀ (X : Cx) (Y : Yx), X.prog = Pr → X.w = w → X.K = K → X.mg = mg → X.base = base → Y.K = K → Y.XR = XR → CalP k X Y "rings_with" ["side", "league"] [1, 0] cf 25 2) :
    FnG Pr w K mg base (k + 1) f fd ["script"] (spF K XR cf' fi d_law.np d_law.io) :=
  fn_step (mono := mono) F sc_law rfl rfl (by decide) rfl hcf fun cdv A outer s H E c =>
    have C__law_are_parts := C__law_are_parts (cxOf (L2.CX Pr w) Pr w K mg base _ _ (defScope s_law) f cdv A outer s H E) (yOf K XR mono E) rfl rfl rfl rfl rfl rfl rfl
    have C__law_count := C__law_count (cxOf (L2.CX Pr w) Pr w K mg base _ _ (defScope s_law) f cdv A outer s H E) (yOf K XR mono E) rfl rfl rfl rfl rfl rfl rfl
    have C__law_draw := C__law_draw (cxOf (L2.CX Pr w) Pr w K mg base _ _ (defScope s_law) f cdv A outer s H E) (yOf K XR mono E) rfl rfl rfl rfl rfl rfl rfl
    have C__law_jar := C__law_jar (cxOf (L2.CX Pr w) Pr w K mg base _ _ (defScope s_law) f cdv A outer s H E) (yOf K XR mono E) rfl rfl rfl rfl rfl rfl rfl
    have C__law_league := C__law_league (cxOf (L2.CX Pr w) Pr w K mg base _ _ (defScope s_law) f cdv A outer s H E) (yOf K XR mono E) rfl rfl rfl rfl rfl rfl rfl
    have C__law_mixed := C__law_mixed (cxOf (L2.CX Pr w) Pr w K mg base _ _ (defScope s_law) f cdv A outer s H E) (yOf K XR mono E) rfl rfl rfl rfl rfl rfl rfl
    have C__law_pick := C__law_pick (cxOf (L2.CX Pr w) Pr w K mg base _ _ (defScope s_law) f cdv A outer s H E) (yOf K XR mono E) rfl rfl rfl rfl rfl rfl rfl
    have C__law_rings := C__law_rings (cxOf (L2.CX Pr w) Pr w K mg base _ _ (defScope s_law) f cdv A outer s H E) (yOf K XR mono E) rfl rfl rfl rfl rfl rfl rfl
    have C__law_with := C__law_with (cxOf (L2.CX Pr w) Pr w K mg base _ _ (defScope s_law) f cdv A outer s H E) (yOf K XR mono E) rfl rfl rfl rfl rfl rfl rfl
    have C_ring_count := C_ring_count (cxOf (L2.CX Pr w) Pr w K mg base _ _ (defScope s_law) f cdv A outer s H E) (yOf K XR mono E) rfl rfl rfl rfl rfl rfl rfl
    have C_rings_with := C_rings_with (cxOf (L2.CX Pr w) Pr w K mg base _ _ (defScope s_law) f cdv A outer s H E) (yOf K XR mono E) rfl rfl rfl rfl rfl rfl rfl
    have K_ring_count := K_ring_count (cxOf (L2.CX Pr w) Pr w K mg base _ _ (defScope s_law) f cdv A outer s H E) (yOf K XR mono E) rfl rfl rfl rfl rfl rfl rfl
    have Q_rings_with_side_league := Q_rings_with_side_league (cxOf (L2.CX Pr w) Pr w K mg base _ _ (defScope s_law) f cdv A outer s H E) (yOf K XR mono E) rfl rfl rfl rfl rfl rfl rfl
    (z_seq (s_set c 1 (e_call c C__law_jar (ac_cons (vv 0) acn)))
    (z_seq (z_for c pass_def (i_rng1 c m_range_ (a_cons k_int an)) (g_nm c 2)
    (z_seq (s_set c 3 (e_op (o_add c) k_int (e_call c C__law_draw (ac_slot 1 (ac_cons k_int acn)))))
    (z_seq (s_set c 4 (e_call c C__law_league (ac_slot 1 (ac_cons (vv 3) acn))))
    (z_seq (s_asg (e_tup (a_cons (e_bi (b_repr c) m_repr_ (a_cons (vv 4) an)) (a_cons (e_call c C__law_rings (ac_cons (vv 4) acn)) an))) (g_tup c (g_cons (g_nm c 9) (g_cons (g_nm c 10) g_nil))))
    (z_seq (s_set c 5 (e_ite (t_cmp (q_eq c) (vv 2) k_int) (e_callK c K_ring_count (kc (vv 4) kn)) (e_call c C_ring_count (ac_cons (vv 4) acn))))
    (z_seq (z_if (t_w (w_or (t_cmp (q_ne c) (e_bi (b_repr c) m_repr_ (a_cons (vv 5) an)) (e_bi (b_repr c) m_repr_ (a_cons (e_bi (b_len c) m_len_ (a_cons (vv 10) an)) an))) (w_or1 (t_cmp (q_ne c) (e_bi (b_repr c) m_repr_ (a_cons (vv 5) an)) (e_bi (b_repr c) m_repr_ (a_cons (e_call c C__law_count (ac_cons (vv 4) acn)) an)))))) (z_one (z_ret k_bool)) z_nil)
    (z_seq (s_set c 6 (e_lc c [("side", 12)] [12] (i_rng1 c m_range_ (a_cons (vv 3) an)) (fun _ _ _ _ _ c => (g_nm c 12)) (fun _ _ _ _ _ cb => ln) (fun _ _ _ _ _ cb => (e_ite (t_cmp (q_eq cb) (vv 2) k_int) (e_callP cb (Q_rings_with_side_league.blk ..) (kn_cons 12 (kn_cons 4 kn_nil))) (e_call cb (C_rings_with.blk ..) (ac_cons (vv 4) (ac_cons (vv 12) acn)))))))
    (z_seq (z_if (t_cmp (q_ne c) (e_bi (b_repr c) m_repr_ (a_cons (vv 6) an)) (e_bi (b_repr c) m_repr_ (a_cons (e_lc c [("side", 12)] [12] (i_rng1 c m_range_ (a_cons (vv 3) an)) (fun _ _ _ _ _ c => (g_nm c 12)) (fun _ _ _ _ _ cb => ln) (fun _ _ _ _ _ cb => (e_bi (b_len cb) m_len_ (a_cons (e_lc cb [("ring", 16)] [16] (i_any cb (vv 10)) (fun _ _ _ _ _ c => (g_nm c 16)) (fun _ _ _ _ _ cb => (lo (t_cmp (q_in cb) (vv 12) (vv 16)))) (fun _ _ _ _ _ cb => (vv 16))) an)))) an))) (z_one (z_ret k_bool)) z_nil)
    (z_seq (z_if (t_w (w_or (t_cmp (q_ne c) (e_bi (b_sum c) m_sum_ (a_cons (vv 6) an)) (e_op (o_mul c) k_int (vv 5))) (w_or1 (t_cmp (q_ne c) (e_bi (b_repr c) m_repr_ (a_cons (vv 4) an)) (vv 9))))) (z_one (z_ret k_bool)) z_nil)
    (z_seq (s_set c 7 (e_call c C__law_mixed (ac_slot 1 (ac_cons (e_lr c m_list_ m_range_ (vv 3)) acn))))
    (z_seq (s_set c 8 (e_ty (b_tuple c) m_tuple_ (a_cons (e_lc c [("side", 12)] [12] (i_any c (vv 7)) (fun _ _ _ _ _ c => (g_nm c 12)) (fun _ _ _ _ _ cb => ln) (fun _ _ _ _ _ cb => (e_ty (b_tuple cb) m_tuple_ (a_cons (e_bi (b_sorted cb) m_sorted_ (a_cons (e_lc cb [("other", 17)] [17] (i_any cb (e_ix cb (vv 4) (vv 12))) (fun _ _ _ _ _ c => (g_nm c 17)) (fun _ _ _ _ _ cb => ln) (fun _ _ _ _ _ cb => (e_index cb (vv 7) (a_cons (vv 17) an)))) an)) an)))) an)))
    (z_seq (z_if (t_not (t_val (e_call c C__law_are_parts (ac_cons (vv 8) (ac_cons (vv 5) (ac_cons (e_lc c [("side", 12)] [12] (i_any c (vv 7)) (fun _ _ _ _ _ c => (g_nm c 12)) (fun _ _ _ _ _ cb => ln) (fun _ _ _ _ _ cb => (e_ix cb (vv 6) (vv 12)))) acn)))))) (z_one (z_ret k_bool)) z_nil)
    (z_one (z_if (t_cmp (q_ne c) (vv 10) (e_tup an)) (z_seq (s_asg (e_call c C__law_pick (ac_slot 1 (ac_cons (e_ty (b_list c) m_list_ (a_cons (vv 10) an)) acn))) (g_tup c (g_cons (g_nm c 13) (g_cons (g_nm c 14) (g_cons (g_nm c 15) g_nil)))))
    (z_seq (s_set c 8 (e_call c C__law_with (ac_cons (vv 4) (ac_cons (e_lst (a_cons (e_tup (a_cons (vv 13) (a_cons (vv 14) an))) (a_cons (e_tup (a_cons (vv 14) (a_cons (vv 15) an))) (a_cons (e_tup (a_cons (vv 13) (a_cons (vv 15) an))) an)))) acn))))
    (z_seq (s_set c 11 (e_call c C__law_rings (ac_cons (vv 8) acn)))
    (z_one (z_if (t_not (t_val (e_call c C__law_are_parts (ac_cons (vv 8) (ac_cons (vv 5) (ac_cons (e_lc c [("side", 12)] [12] (i_rng1 c m_range_ (a_cons (vv 3) an)) (fun _ _ _ _ _ c => (g_nm c 12)) (fun _ _ _ _ _ cb => ln) (fun _ _ _ _ _ cb => (e_bi (b_len cb) m_len_ (a_cons (e_lc cb [("ring", 16)] [16] (i_any cb (vv 11)) (fun _ _ _ _ _ c => (g_nm c 16)) (fun _ _ _ _ _ cb => (lo (t_cmp (q_in cb) (vv 12) (vv 16)))) (fun _ _ _ _ _ cb => (vv 16))) an)))) acn)))))) (z_one (z_ret k_bool)) z_nil))))) z_nil))))))))))))))
    (z_one (z_ret k_bool))))

def noD : BDef := ⟨0, 0, [], fun _ _ => .stuck⟩
def P : List BDef := [d__law_jar, d__law_draw, d__law_mixed, d__law_shut, d__law_matches, d__law_league, d__law_pick, d__law_rows, d__law_turn, d__law_with, d__law_rings, d_beat, d_wins, noD, d_ring_count, noD, noD, noD, d__law_count, noD, noD, noD, noD, noD, noD, d_rings_with, d__law_are_parts, d_law]
end
end Law
namespace Law
open PySem PySem.Spec PyProof.Rows L2 MP JM
local macro_rules | `(tactic| and_intros) => `(tactic| repeat' (first
  | with_reducible exact MP.ev_c | with_reducible exact MP.ev_nilA | with_reducible exact MP.ev_nilC | with_reducible exact MP.ev_nilP | with_reducible exact MP.ev_noO | with_reducible exact MP.ev_ty | with_reducible exact MP.st_nxt
  | ((with_reducible apply MP.ev_v); exact rfl; first | exact MP.rv_imm | exact MP.rv_ref | exact MP.rv_nil | exact MP.rv_lst)
  | with_reducible exact MP.nf | with_reducible exact MP.nl_imm
  | with_reducible exact MP.dat_imm | with_reducible exact MP.dat_lent | with_reducible exact MP.dat_nil | with_reducible exact MP.dat_lst _
  | ((with_reducible apply MP.dat_ref2); exact rfl)
  | with_reducible exact MP.datsOf_nil | with_reducible apply MP.datsOf_cons
  | with_reducible exact MP.lvC_dat | with_reducible exact MP.lvB_int | with_reducible exact MP.lvB_bool | with_reducible exact MP.lvB_immd | with_reducible exact MP.rk_int | with_reducible exact MP.rk_bool | with_reducible exact MP.rk_str | with_reducible exact MP.rk_imm | with_reducible exact MP.rk_nl
  | with_reducible exact MP.add_int _ _ | with_reducible exact MP.sub_int _ _ | with_reducible exact MP.lt_int _ _ | with_reducible exact MP.gt_int _ _ | with_reducible exact MP.ge_int _ _ | with_reducible exact MP.le_int _ _ | with_reducible exact MP.eq_int _ _ | with_reducible exact MP.ne_int _ _
  | with_reducible apply MP.mul_int | with_reducible apply MP.mod_int | with_reducible apply MP.fdiv_int | ((with_reducible apply MP.rd_key2); exact rfl; exact rfl; exact rfl)
  | with_reducible exact MP.len_lst | with_reducible exact MP.len_tup | with_reducible exact MP.len_scr | with_reducible exact MP.len_scrD | with_reducible exact MP.int_int | with_reducible exact MP.tup_lst | with_reducible exact MP.lst_lst | with_reducible exact MP.lst_tup
  | with_reducible exact MP.mk_imm2 | with_reducible exact MP.mk_imm3 | with_reducible exact MP.mk_nil | with_reducible exact MP.len0 | with_reducible exact MP.len1 | with_reducible exact MP.len2 | with_reducible exact MP.len3
  | with_reducible apply MP.ev_op | with_reducible apply MP.ev_bi | with_reducible apply MP.ev_tup | with_reducible apply MP.ev_lst | with_reducible apply MP.ev_consA | with_reducible apply MP.ev_consC
  | with_reducible apply MP.ev_neg | with_reducible apply MP.ev_tst | with_reducible apply MP.ev_not | with_reducible apply MP.ev_snocP | with_reducible apply MP.ev_intO
  | with_reducible apply MP.st_set2 | with_reducible apply MP.st_par2 | with_reducible apply MP.st_asg2 | with_reducible exact MP.nlAll_nil | with_reducible apply MP.nlAll_cons | with_reducible exact MP.nl_lst _
  | with_reducible apply MP.st_ret | with_reducible apply MP.st_ex
  | with_reducible exact MP.argsOf_nil | with_reducible apply MP.argsOf_dat
  | with_reducible assumption
  | ((with_reducible show _ < List.length _); exact MP.ltl) | ((with_reducible show MP.LV.nl _ = true); exact rfl) | ((with_reducible show MP.LS.mk _ _ = _); exact rfl) | ((with_reducible show MP.parL _ _ _ = _); exact rfl) | ((with_reducible show MP.bindT _ _ _ = _); exact rfl)
  | ((with_reducible show (0 : Int) < _); decide) | ((with_reducible show Nat.log2 _ < 9000); decide)))
/-! the jar -/
structure Jar where
  far : List Int
  cells : List Int
  sea : Int
  cnt : Int
def il (xs : List Int) : List PyData := xs.map .int
def farL (xs : List Int) : LV := .lst ((il xs).map .imm)
def Jar.lv (J : Jar) : LV := .dic [(.inr "far", farL J.far), (.inr "cells", .imm (.list (il J.cells))), (.inr "seal", .imm (.int J.sea)), (.inr "count", .imm (.int J.cnt))]
structure Jok (k : Nat) (J : Jar) : Prop where
  far : J.far.length ≤ 100
  pos : 0 < J.cells.length
  cap : J.cells.length ≤ 100
  c0 : 0 ≤ J.cnt
  c1 : J.cnt ≤ k
  big : ∃ B : Nat, B ≤ 10000000 ∧ ∀ c ∈ J.cells, c.natAbs < 2 ^ B
theorem log2_le {n k : Nat} (h : n < 2 ^ k) : n.log2 ≤ k := by
  by_cases z : n = 0
  · subst z; exact Nat.zero_le _
  · exact Nat.le_of_lt ((Nat.log2_lt z).mpr h)
theorem mulOk_of {i j : Int} (a b : Nat) (hi : i.natAbs < 2 ^ a) (hj : j.natAbs < 2 ^ b) (h : a + b < 100000000) : mulOk i j = true := by
  have := log2_le hi
  have := log2_le hj
  simp only [mulOk, decide_eq_true_eq]
  omega
def DrawS (cf : CF) : Prop := ∀ {k m : Nat} {J : Jar}, Jok k J → k ≤ 2 ^ 30 → 0 < m → m ≤ 2 ^ 30 → ∃ v J', v < m ∧ Jok (k + 1) J' ∧ cf 1 [J.lv, .imm (.int m)] = .ok (.imm (.int v)) [J'.lv]
theorem far_giv (xs : List Int) : (farL xs).giv = true := givs_imm _
theorem far_giv1 (xs : List Int) : LV.giv.giv1 (farL xs) = true := givs_imm _
theorem jar_giv (J : Jar) : J.lv.giv = true := by
  simp [Jar.lv, LV.giv, LV.giv.givk, LV.giv.giv1, far_giv1]
theorem far_nl (xs : List Int) : (farL xs).nl = true := nl_lst _
theorem jar_nl (J : Jar) : J.lv.nl = true := by
  simp [Jar.lv, LV.nl, LV.nlk, far_nl]
/-- the jar while its far numbers are shared -/
def jr (cells : List Int) (sea cnt : Int) : LV := .dic [(.inr "far", .ref 0), (.inr "cells", .imm (.list (il cells))), (.inr "seal", .imm (.int sea)), (.inr "count", .imm (.int cnt))]
theorem jr_back (far cells : List Int) (sea cnt : Int) : rsv [some (farL far)] (jr cells sea cnt) = some ((⟨far, cells, sea, cnt⟩ : Jar).lv, [none]) := by
  simp [jr, rsv, rsv.rsvk, far_giv, Jar.lv]
theorem mod_lt {v : Int} {m : Nat} (hm : 0 < m) : ∃ n : Nat, n < m ∧ v % (m : Int) = n := by
  have h1 := Int.emod_nonneg v (b := m) (by omega)
  have h2 := Int.emod_lt_of_pos v (b := m) (by omega)
  exact ⟨(v % m).toNat, by omega, by omega⟩
theorem draw_ev (cf : CF) {k m : Nat} {J : Jar} (h : Jok k J) (hk : k ≤ 2 ^ 30) (hm : 0 < m) (hm' : m ≤ 2 ^ 30) : ∃ v J', v < m ∧ Jok (k + 1) J' ∧ runB 2 7 [0] (b__law_draw cf) [J.lv, .imm (.int m)] = .ok (.imm (.int v)) [J'.lv] := by
  obtain ⟨far, cells, sea, cnt⟩ := J
  have hm2 : (0 : Int) < m := by omega
  have hm3 : (m : Int).natAbs.log2 < 9000 := Nat.lt_of_le_of_lt (log2_le (k := 31) (by rw [Int.natAbs_natCast]; omega)) (by decide)
  cases far with
  | cons a far =>
    obtain ⟨v, hv, ev⟩ := mod_lt (v := a) hm
    refine ⟨v, ⟨if (m : Int) ≤ a then a / m :: far else far, cells, sea, cnt⟩, hv, ?_, ?_⟩
    · obtain ⟨h1, h2, h3, h4, h5, h6⟩ := h
      refine ⟨?_, h2, h3, h4, by simp only at h5 ⊢; omega, h6⟩
      simp only [List.length_cons] at h1
      simp only
      split
      · simpa using h1
      · omega
    refine run_ret (s := ⟨[some (jr cells sea cnt), some (.imm (.int m)), some (.ref 0), none, some (.imm (.int a)), none, none], [farL (if (m : Int) ≤ a then a / m :: far else far)]⟩) (x := .imm (.int v)) rfl (by simp [nlAll, jar_nl, LV.nl]) ?_ rfl ?_ (ob' := [none])
    · refine st_seq (s1 := ⟨[some (jr cells sea cnt), some (.imm (.int m)), none, none, none, none, none], [farL (a :: far)]⟩) (st_share2 rfl rfl (far_giv _) rfl) ?_
      refine st_seq (s1 := ⟨[some (jr cells sea cnt), some (.imm (.int m)), some (.ref 0), none, none, none, none], [farL (a :: far)]⟩) (by and_intros) ?_
      refine st_seqR (st_if (b := true) (s1 := ⟨[some (jr cells sea cnt), some (.imm (.int m)), some (.ref 0), none, none, none, none], [farL (a :: far)]⟩) (ev_tst (ev_op v_ref (ev_lst rfl len0) (dat_ref (l := 0) (ds := il (a :: far))) dat_nil (ne_datum (α := List Int) (a :: far) []) rfl nf)) (fun _ => ?_) (fun z => nomatch z))
      refine st_seq (s1 := ⟨[some (jr cells sea cnt), some (.imm (.int m)), some (.ref 0), none, some (.imm (.int a)), none, none], [farL far]⟩) (st_set2 (x := .imm (.int a)) (ev_mut (ds := []) rfl rfl (s1 := ⟨[some (jr cells sea cnt), some (.imm (.int m)), some (.ref 0), none, none, none, none], [farL (a :: far)]⟩) (ev_consA rfl rfl nf) (z := farL (a :: far)) rfl rfl (z' := farL far) ?_ rfl) rfl ltl rfl) ?_
      · simp [mutG, farL, ixN, il]
      refine st_seq (s1 := ⟨[some (jr cells sea cnt), some (.imm (.int m)), some (.ref 0), none, some (.imm (.int a)), none, none], [farL (if (m : Int) ≤ a then a / m :: far else far)]⟩) (st_if (b := decide ((m : Int) ≤ a)) (s1 := ⟨[some (jr cells sea cnt), some (.imm (.int m)), some (.ref 0), none, some (.imm (.int a)), none, none], [farL far]⟩) (by and_intros) (fun z => ?_) fun z => ?_) ?_
      · rw [if_pos (by simpa using z)]
        refine st_ex (x := .imm .none) (ev_mut (ds := []) rfl rfl (xs := [.imm (.int 0), .imm (.int (a / m))]) (s1 := ⟨[some (jr cells sea cnt), some (.imm (.int m)), some (.ref 0), none, some (.imm (.int a)), none, none], [farL far]⟩) ?_ (z := farL far) rfl rfl (z' := farL (a / m :: far)) ?_ rfl)
        · and_intros
        · have := h.far
          simp only [List.length_cons] at this
          simp [mutG, farL, sizeLine, il]
          omega
      · rw [if_neg (by simpa using z)]
        rfl
      · rw [← ev]
        and_intros
    · simp only [outsOf, List.getElem?_cons_zero, List.map_cons, List.map_nil, jr_back]
  | nil =>
    obtain ⟨h1, h2, h3, h4, h5, B, hB, h6⟩ := h
    simp only at h1 h2 h3 h4 h5 h6
    obtain ⟨p, hp, ep⟩ := mod_lt (v := cnt + 1) h2
    obtain ⟨x, hx⟩ : ∃ x, cells[p]? = some x := ⟨_, List.getElem?_eq_getElem hp⟩
    have hx' := h6 x (List.mem_of_getElem? hx)
    have hix : ixK (.list (il cells)) (.int ((cnt + 1) % ((il cells).length : Nat))) = some (.dat (.int x)) := by
      rw [show (il cells).length = cells.length from List.length_map .., ep]
      exact ixK_lst (by simp [il, hx])
    have hil : (0 : Int) < ((il cells).length : Nat) := by simpa [il] using h2
    have kk : k + 1 < 2 ^ 31 := by omega
    let m1 : Int := (sea + 7919 * x + 104729 * (cnt + 1)) % 4294967291
    let m2 : Int := (m1 * 22695477 + (cnt + 1) * (cnt + 1) + 1) % 4294967291
    let m3 : Int := (m2 * 48271 + m2 / 65536) % 4294967279
    have b1 : m1.natAbs < 2 ^ 33 := by
      have := Int.emod_nonneg (sea + 7919 * x + 104729 * (cnt + 1)) (b := 4294967291) (by decide)
      have := Int.emod_lt_of_pos (sea + 7919 * x + 104729 * (cnt + 1)) (b := 4294967291) (by decide)
      omega
    have b2 : m2.natAbs < 2 ^ 33 := by
      have := Int.emod_nonneg (m1 * 22695477 + (cnt + 1) * (cnt + 1) + 1) (b := 4294967291) (by decide)
      have := Int.emod_lt_of_pos (m1 * 22695477 + (cnt + 1) * (cnt + 1) + 1) (b := 4294967291) (by decide)
      omega
    obtain ⟨v, hv, ev⟩ := mod_lt (v := m3 / 1024) hm
    have bc : (cnt + 1).natAbs < 2 ^ 32 := by omega
    refine ⟨v, ⟨[], cells, sea, cnt + 1⟩, hv, ⟨h1, h2, h3, by simp only; omega, by simp only; omega, B, hB, h6⟩, ?_⟩
    refine run_ret (s := ⟨[some (jr cells sea (cnt + 1)), some (.imm (.int m)), some (.ref 0), some (.imm (.int m3)), none, some (.imm (.int (cnt + 1))), some (.imm (.list (il cells)))], [farL []]⟩) (x := .imm (.int v)) rfl (by simp [nlAll, jar_nl, LV.nl]) ?_ rfl ?_ (ob' := [none])
    · refine st_seq (s1 := ⟨[some (jr cells sea cnt), some (.imm (.int m)), none, none, none, none, none], [farL []]⟩) (st_share2 rfl rfl (far_giv _) rfl) ?_
      refine st_seq (s1 := ⟨[some (jr cells sea cnt), some (.imm (.int m)), some (.ref 0), none, none, none, none], [farL []]⟩) (by and_intros) ?_
      refine st_seq (s1 := ⟨[some (jr cells sea cnt), some (.imm (.int m)), some (.ref 0), none, none, none, none], [farL []]⟩) (st_if (b := false) (s1 := ⟨[some (jr cells sea cnt), some (.imm (.int m)), some (.ref 0), none, none, none, none], [farL []]⟩) (ev_tst (ev_op v_ref (ev_lst rfl len0) (dat_ref (l := 0) (ds := il [])) dat_nil (ne_datum (α := List Int) [] []) rfl nf)) (fun z => nomatch z) (fun _ => rfl)) ?_
      refine st_seq (s1 := ⟨[some (jr cells sea (cnt + 1)), some (.imm (.int m)), some (.ref 0), none, none, none, none], [farL []]⟩) (st_setix (ds := []) (d := .str "count") (x := .imm (.int (cnt + 1))) (z := jr cells sea cnt) (z' := jr cells sea (cnt + 1)) (by and_intros) rfl rfl rfl rfl rfl rfl) ?_
      refine st_seq (s1 := ⟨[some (jr cells sea (cnt + 1)), some (.imm (.int m)), some (.ref 0), none, none, some (.imm (.int (cnt + 1))), some (.imm (.list (il cells)))], [farL []]⟩) (by and_intros) ?_
      refine st_seq (s1 := ⟨[some (jr cells sea (cnt + 1)), some (.imm (.int m)), some (.ref 0), some (.imm (.int m1)), none, some (.imm (.int (cnt + 1))), some (.imm (.list (il cells)))], [farL []]⟩) ?_ ?_
      · and_intros
        · exact mulOk_of 13 B (by decide) hx' (by omega)
        · exact mulOk_of 17 32 (by decide) bc (by decide)
      refine st_seq (s1 := ⟨[some (jr cells sea (cnt + 1)), some (.imm (.int m)), some (.ref 0), some (.imm (.int m2)), none, some (.imm (.int (cnt + 1))), some (.imm (.list (il cells)))], [farL []]⟩) ?_ ?_
      · and_intros
        · exact mulOk_of 33 25 b1 (by decide) (by decide)
        · exact mulOk_of 32 32 bc bc (by decide)
      refine st_seq (s1 := ⟨[some (jr cells sea (cnt + 1)), some (.imm (.int m)), some (.ref 0), some (.imm (.int m3)), none, some (.imm (.int (cnt + 1))), some (.imm (.list (il cells)))], [farL []]⟩) ?_ ?_
      · and_intros
        · exact mulOk_of 33 16 b2 (by decide) (by decide)
      rw [← ev]
      and_intros
    · simp only [outsOf, List.getElem?_cons_zero, List.map_cons, List.map_nil, jr_back]
theorem mk_int (b : Bool) (i : Int) : mkImm b (.int i) = .imm (.int i) := by cases b <;> rfl
theorem map_mk (b : Bool) (xs : List Int) : (il xs).map (mkImm b) = (il xs).map .imm := by
  simp [il, Function.comp_def, mk_int]
theorem lst_lh (ds : List PyData) : (LV.lst (ds.map .imm)).lh = false := by simp [LV.lh, nl_lst]
theorem itP_lst {s : LS} {fa : EvF} {x : LV} {s1 : LS} {ds : List PyData} (ha : fa s = .ok (x, s1)) (hd : x.dat s1.ob = some (.list ds)) (hi : ds.map (mkImm x.lh) = ds.map .imm) (hl : x.lh = false) : itP fa s = .ok ((ds.map .imm, false), s1) := by
  rw [ev_itPl ha hd rfl, hi, hl]
theorem cut_map (ns : List Int) (lo hi : Option Int) : MP.cutD (il ns) lo hi = il (MP.cutD ns lo hi) := by simp [MP.cutD, il, List.map_take, List.map_drop]
theorem mem_cut {ns : List Int} {lo hi : Option Int} {x : Int} (h : x ∈ MP.cutD ns lo hi) : x ∈ ns := List.mem_of_mem_drop (List.mem_of_mem_take h)
theorem cut_len (ns : List Int) (lo hi : Option Int) : (MP.cutD ns lo hi).length ≤ ns.length := by
  simp only [MP.cutD, List.length_take, List.length_drop]; omega
def celM (a : Int) : Int := if 0 ≤ a then 2 * a else -2 * a - 1
theorem cel_lt {a : Int} {B : Nat} (h : a.natAbs < 2 ^ B) : (celM a).natAbs < 2 ^ (B + 1) := by
  rw [Nat.pow_succ]
  unfold celM
  split <;> omega
theorem nlL_nil {sl : List (Option LV)} (h : nlS sl = true) : nlL ⟨sl, []⟩ = true := by simp [nlL, h, LV.nls]
theorem ev_lc1 {s s1 : LS} {fi : ItF} {t : Tg} {α : Type} (as : List α) (v : α → LV) {own : List Nat} {be : Bool} {fe : EvF} (W : List (Option LV)) (e : α → LV) (B : α → List (Option LV))
    (hi : fi s = .ok ((as.map v, false), s1)) (hc : cleanL s1.sl own = true) (hn : nlL s1 = true) (hx : nlAll (as.map v) = true) (hW : wipeL s1.sl own = W)
    (hB : ∀ a ∈ as, bindT t (v a) W = some (B a)) (hB2 : ∀ a ∈ as, wipeL (B a) own = W) (h0 : backL s1.sl s1.sl own = s1.sl) (h1 : ∀ a ∈ as, backL s1.sl (B a) own = s1.sl)
    (he : ∀ a ∈ as, fe ⟨B a, s1.ob⟩ = .ok (e a, ⟨B a, s1.ob⟩)) (hl : as.length ≤ sizeLine) (hy : nlAll (as.map e) = true) :
    lcE own be t fi tyE fe s = .ok (.lst (as.map e), s1) := by
  have := ev_lc (ft := tyE) (p := fun _ => true) as v (be := be) hi hc hn hx hW hB hB2 h0 h1 (fun _ _ => rfl) (fun a h _ => he a h) (by rwa [List.filter_eq_self.mpr fun _ _ => rfl, List.length_map]) (by rwa [List.filter_eq_self.mpr fun _ _ => rfl])
  rwa [List.filter_eq_self.mpr fun _ _ => rfl] at this
theorem ev_dk {s s1 : LS} {ks : List Str} {gA : LS → Res (List LV × LS)} {xs : List LV} {z : LV} (ha : gA s = .ok (xs, s1)) (h1 : ks.length = xs.length) (h2 : ks.length ≤ 15) (h3 : ks.Nodup) (h4 : nlAll xs = true) (h5 : nlL s1 = true) (hz : LV.dic ((ks.map Sum.inr).zip xs) = z) : dkE ks gA s = .ok (z, s1) := by
  subst hz
  simp only [dkE, ha, Res.bind]
  exact if_pos ⟨h1, h2, h3, h4, h5⟩
theorem il_nl (xs : List Int) : nlAll ((il xs).map .imm) = true := nlAll_imm _
theorem mapc {α : Type} (f : α → PyData) (xs : List α) : xs.map (fun a => LV.imm (f a)) = (xs.map f).map LV.imm := by simp [Function.comp_def]
abbrev im1 (d : PyData) : Option LV := some (.imm d)
theorem jar_ev (cf : CF) {ns : List Int} (hl : ns.length ≤ 63) {B : Nat} (hB : B ≤ 5000000) (hb : ∀ n ∈ ns, n.natAbs < 2 ^ B) : ∃ J, Jok 0 J ∧ runB 1 5 [] (b__law_jar cf) [.imm (scrD ns)] = .ok J.lv [] := by
  let cs := MP.cutD ns none (some 63)
  let cells := cs.map celM
  have hcl : cs.length ≤ 63 := Nat.le_trans (cut_len ..) hl
  have hcb : ∀ c ∈ cells, c.natAbs < 2 ^ (B + 1) := fun c h => by
    obtain ⟨a, ha, rfl⟩ := List.mem_map.mp h
    exact cel_lt (hb a (mem_cut ha))
  -- the loop over the cells
  have loop : ∃ s', forL (.nm 1) (setS1 4 (op2E (bopD .Mod) lvB false (biE (biD .int) (consA false (op2E (bopD .Add) lvB false (op2E (bopD .Add) lvB false (op2E (bopD .Mult) lvB false (varE 4) (cE (.int 16807))) (op2E (bopD .Mult) lvB false (varE 1) (cE (.int 3)))) (cE (.int 5))) nilA)) (cE (.int 4294967279)))) (cells.map fun c => .imm (.int c)) ⟨[im1 (scrD ns), none, none, im1 (.list (il cells)), im1 (.int (15026 + 5 * ns.length))], []⟩ = .nxt s' ∧
      ∃ g se, s' = ⟨[im1 (scrD ns), g, none, im1 (.list (il cells)), im1 (.int se)], []⟩ ∧ se.natAbs < 2 ^ 33 ∧ (g = none ∨ ∃ d, g = im1 d) := by
    refine forL_run (fun c : Int => .imm (.int c)) (fun _ s' => ∃ g se, s' = ⟨[im1 (scrD ns), g, none, im1 (.list (il cells)), im1 (.int se)], []⟩ ∧ se.natAbs < 2 ^ 33 ∧ (g = none ∨ ∃ d, g = im1 d)) (done := []) ⟨none, _, rfl, by omega, .inl rfl⟩ ?_
    rintro pre c rest e s ⟨g, se, rfl, hse, _⟩
    have hc : c ∈ cells := by
      have e : cells = pre ++ c :: rest := e
      rw [e]; simp
    refine ⟨[im1 (scrD ns), im1 (.int c), none, im1 (.list (il cells)), im1 (.int se)], rfl, ⟨[im1 (scrD ns), im1 (.int c), none, im1 (.list (il cells)), im1 (.int ((se * 16807 + c * 3 + 5) % 4294967279))], []⟩, .inl ?_, ⟨_, _, rfl, ?_, .inr ⟨_, rfl⟩⟩⟩
    · and_intros
      · exact mulOk_of 33 15 hse (by decide) (by decide)
      · exact mulOk_of (B + 1) 2 (hcb c hc) (by decide) (by omega)
    · have := Int.emod_nonneg (se * 16807 + c * 3 + 5) (b := 4294967279) (by decide)
      have := Int.emod_lt_of_pos (se * 16807 + c * 3 + 5) (b := 4294967279) (by decide)
      omega
  obtain ⟨s', el, g, se, rfl, hse, hg⟩ := loop
  have hgc : nlS [im1 (scrD ns), g, none, im1 (.list (il cells)), im1 (.int se)] = true ∧ cleanL [im1 (scrD ns), g, none, im1 (.list (il cells)), im1 (.int se)] [1] = true := by
    rcases hg with rfl | ⟨d, rfl⟩ <;> exact ⟨rfl, rfl⟩
  refine ⟨⟨cells.filter fun c => decide (10 ^ 18 ≤ c), cells ++ [7 * (cells.length : Int) + 3], se, 0⟩, ⟨?_, ?_, ?_, Int.le_refl _, Int.le_refl _, B + 10, by omega, ?_⟩, ?_⟩
  · simp only
    refine Nat.le_trans (List.length_filter_le ..) ?_
    simp only [cells, List.length_map]; omega
  · simp
  · simp only [cells, List.length_append, List.length_map, List.length_singleton]; omega
  · intro c hc
    rcases List.mem_append.mp hc with hc | hc
    · exact Nat.lt_of_lt_of_le (hcb c hc) (Nat.pow_le_pow_right (by decide) (by omega))
    · rw [List.mem_singleton] at hc
      subst hc
      refine Nat.lt_of_lt_of_le (m := 2 ^ 10) ?_ (Nat.pow_le_pow_right (by decide) (by omega))
      have : cells.length ≤ 63 := by simp only [cells, List.length_map]; exact hcl
      omega
  refine run_ret (s := ⟨[im1 (scrD ns), g, none, im1 (.list (il cells)), im1 (.int se)], []⟩) rfl (by simp [nlAll, LV.nl]) ?_ (rsv_giv _ (jar_giv _)) rfl
  refine st_seq (s1 := ⟨[im1 (scrD ns), none, none, im1 (.list (il cells)), im1 (.int (15026 + 5 * ns.length))], []⟩) (st_par2 (xs := [.imm (.list (il cells)), .imm (.int (15026 + 5 * ns.length))]) (s1 := ⟨[im1 (scrD ns), none, none, none, none], []⟩) (ev_consA (s1 := ⟨[im1 (scrD ns), none, none, none, none], []⟩) (ev_frz (x := .lst ((il cells).map .imm)) ?_ (nl_lst _) (by simp only [LV.dat0, dats0_imm, Option.map_some])) ?_ nf) rfl rfl rfl) ?_
  · have := ev_lc1 (s := ⟨[im1 (scrD ns), none, none, none, none], []⟩) (s1 := ⟨[im1 (scrD ns), none, none, none, none], []⟩) (t := .nm 1) (own := [1]) (be := false) (fi := itP (slE false (varE 0) noO (intO (cE (.int 63))))) (fe := iteE (op2E (cmpK .GtE) lvC false (varE 1) (cE (.int 0))) (op2E (bopD .Mult) lvB false (cE (.int 2)) (varE 1)) (op2E (bopD .Sub) lvB false (op2E (bopD .Mult) lvB false (negE (cE (.int 2))) (varE 1)) (cE (.int 1)))) cs (fun c => .imm (.int c)) [im1 (scrD ns), none, none, none, none] (fun c => .imm (.int (celM c))) (fun c => [im1 (scrD ns), im1 (.int c), none, none, none]) ?_ rfl rfl ?_ rfl (fun _ _ => rfl) (fun _ _ => rfl) rfl (fun _ _ => rfl) (fun c hc => ?_) ?_ ?_
    · rw [mapc (fun c => PyData.int (celM c))] at this
      simpa [cells, il, Function.comp_def] using this
    · rw [mapc PyData.int, show List.map PyData.int cs = MP.cutD (il ns) none (some 63) from (cut_map _ _ _).symm]
      refine itP_lst (x := .lst ((MP.cutD (il ns) none (some 63)).map .imm)) ?_ (dat_lst _) (by rw [cut_map, map_mk]) (lst_lh _)
      exact ev_sl (d := scrD ns) (ev_v rfl rfl) ev_noO (ev_intO ev_c) rfl rfl rfl
    · rw [mapc PyData.int]; exact nlAll_imm _
    · have hc := hb c (mem_cut hc)
      refine ev_ite (b := decide (0 ≤ c)) (s1 := ⟨[im1 (scrD ns), im1 (.int c), none, none, none], []⟩) (by and_intros) (fun z => ?_) fun z => ?_
      · have z : 0 ≤ c := of_decide_eq_true z
        rw [celM, if_pos z]
        and_intros
        exact mulOk_of 2 B (by decide) hc (by omega)
      · have z : ¬ 0 ≤ c := of_decide_eq_false z
        rw [celM, if_neg z]
        and_intros
        exact mulOk_of 2 B (by decide) hc (by omega)
    · simp [sizeLine]; omega
    · rw [mapc (fun c => PyData.int (celM c))]; exact nlAll_imm _
  · and_intros
    exact mulOk_of 3 10 (by decide) (by simp; omega) (by decide)
  refine st_seq (s1 := ⟨[im1 (scrD ns), g, none, im1 (.list (il cells)), im1 (.int se)], []⟩) (st_for (s1 := ⟨[im1 (scrD ns), none, none, im1 (.list (il cells)), im1 (.int (15026 + 5 * ns.length))], []⟩) (xs := cells.map fun c => .imm (.int c)) ?_ el) ?_
  · rw [mapc PyData.int]
    exact ev_itP (ev_v rfl rfl) rfl rfl rfl
  refine st_seq (s1 := ⟨[im1 (scrD ns), g, some (farL (cells.filter fun c => decide (10 ^ 18 ≤ c))), im1 (.list (il cells)), im1 (.int se)], []⟩) (st_set2 (x := farL (cells.filter fun c => decide (10 ^ 18 ≤ c))) (s1 := ⟨[im1 (scrD ns), g, none, im1 (.list (il cells)), im1 (.int se)], []⟩) ?_ (far_nl _) ltl rfl) ?_
  · have := ev_lc (s := ⟨[im1 (scrD ns), g, none, im1 (.list (il cells)), im1 (.int se)], []⟩) (s1 := ⟨[im1 (scrD ns), g, none, im1 (.list (il cells)), im1 (.int se)], []⟩) (t := .nm 1) (own := [1]) (be := false) (fi := itP (varE 3)) (ft := tstE (op2E (cmpK .GtE) lvC false (varE 1) (op2E (bopD .Pow) lvB false (cE (.int 10)) (cE (.int 18))))) (fe := varE 1) (p := fun c => decide (10 ^ 18 ≤ c)) (e := fun c => .imm (.int c)) (W := [im1 (scrD ns), none, none, im1 (.list (il cells)), im1 (.int se)]) (B := fun c => [im1 (scrD ns), im1 (.int c), none, im1 (.list (il cells)), im1 (.int se)]) cells (fun c => .imm (.int c)) ?_ hgc.2 (nlL_nil hgc.1) ?_ rfl (fun _ _ => rfl) (fun _ _ => rfl) rfl (fun _ _ => rfl) (fun c hc => ?_) (fun c hc _ => ev_v rfl rfl) ?_ ?_
    · rw [mapc PyData.int] at this
      exact this
    · rw [mapc PyData.int]
      exact ev_itP (ev_v rfl rfl) rfl rfl rfl
    · rw [mapc PyData.int]; exact nlAll_imm _
    · refine ev_tst (ev_op (e := .int (10 ^ 18)) (ev_v rfl rfl) (ev_op ev_c ev_c rfl rfl (r := .dat (.int (10 ^ 18))) rfl rfl nf) rfl rfl (ge_int _ _) rfl nf)
    · have := List.length_filter_le (fun c : Int => decide (10 ^ 18 ≤ c)) cells
      have e : cells.length = cs.length := by simp only [cells, List.length_map]
      simp only [List.length_map, sizeLine]
      omega
    · rw [mapc PyData.int]; exact nlAll_imm _
  refine st_ret (s1 := ⟨[im1 (scrD ns), g, none, im1 (.list (il cells)), im1 (.int se)], []⟩) ?_
  refine ev_dk (xs := [farL (cells.filter fun c => decide (10 ^ 18 ≤ c)), .imm (.list (il (cells ++ [7 * (cells.length : Int) + 3]))), .imm (.int se), .imm (.int 0)]) ?_ rfl (by decide) (by decide) (nlAll_cons (far_nl _) rfl) (nlL_nil ?_) rfl
  · refine ev_consA (s1 := ⟨[im1 (scrD ns), g, none, im1 (.list (il cells)), im1 (.int se)], []⟩) (ev_take2 rfl rfl) (ev_consA (s1 := ⟨[im1 (scrD ns), g, none, im1 (.list (il cells)), im1 (.int se)], []⟩) (ev_frz (x := .lst ((il (cells ++ [7 * (cells.length : Int) + 3])).map .imm)) ?_ (nl_lst _) (by simp only [LV.dat0, dats0_imm, Option.map_some])) (ev_consA (ev_v rfl rfl) (ev_consA ev_c ev_nilA nf) nf) nf) nf
    have e : il (cells ++ [7 * (cells.length : Int) + 3]) = il cells ++ [.int (7 * ((il cells).length : Nat) + 3)] := by simp [il]
    rw [e]
    refine ev_op (x := .imm (.list (il cells))) (y := .lst [.imm (.int (7 * ((il cells).length : Nat) + 3))]) (s1 := ⟨[im1 (scrD ns), g, none, im1 (.list (il cells)), im1 (.int se)], []⟩) (d := .list (il cells)) (e := .list [.int (7 * ((il cells).length : Nat) + 3)]) (r := .nl (il cells ++ [.int (7 * ((il cells).length : Nat) + 3)])) (ev_v rfl rfl) (ev_lst ?_ len1) rfl rfl ?_ rfl nf
    · and_intros
      have hq : mulOk 7 ((il cells).length : Nat) = true := mulOk_of 3 10 (by decide) (by simp [il, cells]; omega) (by decide)
      exact hq
    · have : (il cells).length ≤ 63 := by simp only [il, cells, List.length_map]; exact hcl
      simp only [bopD, List.length_singleton]
      exact if_pos (by simp only [sizeLine]; omega)
  · rcases hg with rfl | ⟨d, rfl⟩ <;> rfl
theorem erase_perm {α : Type} : ∀ {l : List α} {i : Nat} {x : α}, l[i]? = some x → (x :: l.eraseIdx i).Perm l
  | a :: l, 0, x, h => by
    simp only [List.getElem?_cons_zero, Option.some.injEq] at h
    subst h
    exact .refl _
  | a :: l, i + 1, x, h => by
    simp only [List.getElem?_cons_succ] at h
    exact (List.Perm.swap a x _).trans ((erase_perm h).cons a)
theorem erase_map {α β : Type} (f : α → β) : ∀ (l : List α) (i : Nat), (l.map f).eraseIdx i = (l.eraseIdx i).map f
  | [], _ => rfl
  | _ :: _, 0 => rfl
  | a :: l, i + 1 => by simp [erase_map f l i]
theorem getF_own {s : LS} {i : Nat} {xs : List LV} (h : s.sl[i]? = some (some (.lst xs))) : getF s i [] = some (.lst xs) := by simp [getF, h, splitP, getP]
theorem putF_own {s : LS} {i : Nat} {xs : List LV} {z : LV} (h : s.sl[i]? = some (some (.lst xs))) : MP.putF s i [] z = some ⟨s.sl.set i (some z), s.ob⟩ := by simp [MP.putF, h, splitP, putP]
theorem jar_giv1 (J : Jar) : LV.giv.giv1 J.lv = true := jar_giv J
theorem run_ret2 {np ns : Nat} {io : List Nat} {body : LS → SR} {xs ys : List LV} {x y : LV} {s : LS} {ob ob' : List (Option LV)} (sl0 : List (Option LV)) (h0 : xs.map some ++ List.replicate (ns - np) none = sl0) (hl : xs.length = np) (hn : nlAll xs = true) (hb : body ⟨sl0, []⟩ = .ret x s) (hx : rsv (s.ob.map some) x = some (y, ob)) (ho : outsOf s.sl io ob = some (ys, ob')) : runB np ns io body xs = .ok y ys := by
  subst h0
  exact run_ret hl hn hb hx ho
theorem out0 {sl : List (Option LV)} {ob : List (Option LV)} {x : LV} (h : sl[0]? = some (some x)) (g : LV.giv.giv1 x = true) : outsOf sl [0] ob = some ([x], ob) := by
  simp only [outsOf, h, rsv_giv _ g]
/-- name.method(..) of an own list -/
theorem ev_mutL {s s1 s2 : LS} {i : Nat} {g : LV → List LV → Option (LV × LV)} {gA : LS → Res (List LV × LS)} {z' y : LV} {xs ys ws : List LV} (hl : s.sl[i]? = some (some (.lst ws))) (ha : gA s = .ok (xs, s1)) (hz : s1.sl[i]? = some (some (.lst ys))) (hn : nlAll xs = true) (hg : g (.lst ys) xs = some (z', y)) (hw : (⟨s1.sl.set i (some z'), s1.ob⟩ : LS) = s2) : mutE i false g nilP gA s = .ok (y, s2) :=
  ev_mut (ds := []) ev_nilP (by rw [getF_own hl]; rfl) ha (getF_own hz) hn hg (by rw [putF_own hz, hw])
theorem app_lst {ds : List PyData} {d : PyData} (h : ds.length < sizeLine) : mutG .append (.lst (ds.map .imm)) [.imm d] = some (.lst ((ds ++ [d]).map .imm), .imm .none) := by
  simp only [mutG, List.length_map, if_pos h, List.map_append, List.map_cons, List.map_nil]
theorem ext_lst {ds es : List PyData} (h : ds.length + es.length ≤ sizeLine) : mutG .extend (.lst (ds.map .imm)) [.lst (es.map .imm)] = some (.lst ((ds ++ es).map .imm), .imm .none) := by
  simp only [mutG, List.length_map, if_pos h, List.map_append]
theorem pop_lst {ds : List PyData} {d : PyData} {v : Nat} (h : ds[v]? = some d) (hl : ds.length < 2 ^ 62) : mutG .pop (.lst (ds.map .imm)) [.imm (.int v)] = some (.lst ((ds.eraseIdx v).map .imm), .imm d) := by
  have hv : v < ds.length := (List.getElem?_eq_some_iff.mp h).1
  have c : decide (-(2 ^ 63) ≤ (v : Int) ∧ (v : Int) < 2 ^ 63) = true := by
    rw [decide_eq_true_eq]; omega
  have hi : ixN ds.length (v : Int) = some v := by
    rw [ixN, if_pos (by omega), if_pos (by omega)]; rfl
  simp only [mutG, c, if_true, List.length_map, hi, List.getElem?_map, h, Option.map_some, erase_map]
theorem ne_nil {ds : List PyData} (h : okD (.list ds) = true) : cmpK .NotEq (.list ds) (.list []) = some (.dat (.bool (!ds.isEmpty))) := by
  have h0 : okD (.list []) = true := by decide
  simp only [cmpK, cmpD, h, h0, Bool.and_self, if_true, Option.map_some, PyData.eqv]
  cases ds <;> rfl
def MixS (cf : CF) : Prop := ∀ {k : Nat} {J : Jar} {ds : List PyData}, Jok k J → k + ds.length ≤ 2 ^ 30 → ds.length ≤ 1000 → (∀ xs : List PyData, (∀ x ∈ xs, x ∈ ds) → okD (.list xs) = true) →
  ∃ (out : List PyData) (J' : Jar), out.Perm ds ∧ Jok (k + ds.length) J' ∧ cf 2 [J.lv, .imm (.list ds)] = .ok (.lst (out.map .imm)) [J'.lv]
theorem mixed_ev {cf : CF} (D : DrawS cf) {k : Nat} {J : Jar} {ds : List PyData} (h : Jok k J) (hk : k + ds.length ≤ 2 ^ 30) (hl : ds.length ≤ 1000) (hok : ∀ xs : List PyData, (∀ x ∈ xs, x ∈ ds) → okD (.list xs) = true) :
    ∃ (out : List PyData) (J' : Jar), out.Perm ds ∧ Jok (k + ds.length) J' ∧ runB 2 4 [0] (b__law_mixed cf) [J.lv, .imm (.list ds)] = .ok (.lst (out.map .imm)) [J'.lv] := by
  have loop := whlL_run (ft := tstE (op2E (cmpK .NotEq) lvC false (varE 2) (lstE nilA))) (body := exS (mutE 3 false (mutG .append) nilP (consA false (mutE 2 false (mutG .pop) nilP (consA false (callEE cf 1 (slotC 0 (consC false (biE (biD .len) (consA false (varE 2) nilA)) nilC))) nilA)) nilA)))
    (fun m s => ∃ (left found : List PyData) (J : Jar), left.length = m ∧ s = ⟨[some J.lv, im1 (.list ds), some (.lst (left.map .imm)), some (.lst (found.map .imm))], []⟩ ∧ Jok (k + found.length) J ∧ (found ++ left).Perm ds)
    (fun s => ∃ (found : List PyData) (J : Jar), s = ⟨[some J.lv, im1 (.list ds), some (.lst []), some (.lst (found.map .imm))], []⟩ ∧ Jok (k + found.length) J ∧ found.Perm ds) ?_ ?_ (m := ds.length) (n := fuel) (s := ⟨[some J.lv, im1 (.list ds), some (.lst (ds.map .imm)), some (.lst [])], []⟩) (by simp only [fuel]; omega) ⟨ds, [], J, rfl, rfl, h, .refl _⟩
  · obtain ⟨s', el, found, J', rfl, hj, hp⟩ := loop
    refine ⟨found, J', hp, hp.length_eq ▸ hj, ?_⟩
    refine run_ret2 [some J.lv, im1 (.list ds), none, none] rfl (s := ⟨[some J'.lv, im1 (.list ds), some (.lst []), none], []⟩) rfl (nlAll_cons (jar_nl _) rfl) ?_ (rsv_giv _ (givs_imm found)) (out0 rfl (jar_giv1 _))
    · refine st_seq (s1 := ⟨[some J.lv, im1 (.list ds), some (.lst (ds.map .imm)), some (.lst [])], []⟩) (st_par2 (xs := [.lst (ds.map .imm), .lst []]) (s1 := ⟨[some J.lv, im1 (.list ds), none, none], []⟩) (by and_intros) (nlAll_cons (nl_lst _) rfl) rfl rfl) ?_
      refine st_seq (st_whl el) (st_ret (ev_take2 rfl rfl))
  · rintro m s ⟨left, found, J, hm, rfl, hj, hp⟩
    have hlen := hp.length_eq
    simp only [List.length_append] at hlen
    have hpos : 0 < left.length := by omega
    have hsub : ∀ x ∈ left, x ∈ ds := fun x hx => hp.subset (List.mem_append_right _ hx)
    obtain ⟨v, J', hv, hj', ev⟩ := D hj (by omega) hpos (by omega)
    have hd := List.getElem?_eq_getElem hv
    refine ⟨⟨[some J.lv, im1 (.list ds), some (.lst (left.map .imm)), some (.lst (found.map .imm))], []⟩, ⟨[some J'.lv, im1 (.list ds), some (.lst ((left.eraseIdx v).map .imm)), some (.lst ((found ++ [left[v]]).map .imm))], []⟩, ?_, .inl ?_, ?_⟩
    · have hne := ne_nil (hok left hsub)
      have : (!left.isEmpty) = true := by cases left <;> simp_all
      rw [this] at hne
      refine ev_tst (ev_op (ev_v rfl rv_lst) (ev_lst ev_nilA len0) dat_lent dat_nil hne rfl nf)
    · refine st_ex (x := .imm .none) (ev_mutL rfl (ev_consA (x := .imm left[v]) (s1 := ⟨[some J'.lv, im1 (.list ds), some (.lst ((left.eraseIdx v).map .imm)), some (.lst (found.map .imm))], []⟩) (ev_mutL rfl (ev_consA (x := .imm (.int v)) (s1 := ⟨[some J'.lv, im1 (.list ds), some (.lst (left.map .imm)), some (.lst (found.map .imm))], []⟩) (ev_call2 (s1 := ⟨[some J.lv, im1 (.list ds), some (.lst (left.map .imm)), some (.lst (found.map .imm))], []⟩) (ev_slotC rfl (ev_consC (x := .imm (.int left.length)) ?_ ev_nilC nf)) (argsOf_slot rfl (jar_giv _) (argsOf_dat rfl rfl)) rfl rfl ev rfl (jar_nl _) rfl) ev_nilA nf) rfl rfl (pop_lst hd (by omega)) rfl) ev_nilA nf) rfl rfl (app_lst (by simp only [sizeLine]; omega)) rfl)
      and_intros
    · refine ⟨left.eraseIdx v, found ++ [left[v]], J', ?_, rfl, ?_, ?_⟩
      · rw [List.length_eraseIdx, if_pos hv]; omega
      · rw [List.length_append]; exact hj'
      · rw [List.append_assoc]
        exact (List.Perm.append_left found (erase_perm hd)).trans hp
  · rintro s ⟨left, found, J, hm, rfl, hj, hp⟩
    obtain rfl := List.eq_nil_of_length_eq_zero hm
    refine ⟨⟨[some J.lv, im1 (.list ds), some (.lst []), some (.lst (found.map .imm))], []⟩, ?_, found, J, rfl, hj, by rwa [List.append_nil] at hp⟩
    exact ev_tst (ev_op (ev_v rfl rv_nil) (ev_lst ev_nilA len0) dat_lent dat_nil (ne_nil (ds := []) (by decide)) rfl nf)
abbrev nd (x : Nat) : PyData := .int x
def nl (r : List Nat) : List PyData := r.map nd
def rowT (r : List Nat) : PyData := .tuple (nl r)
def rowL (r : List Nat) : PyData := .list (nl r)
def lgD (L : Lg) : PyData := .tuple (L.map rowT)
def rowV (r : List Nat) : LV := .lst ((nl r).map .imm)
def rowsV (R : Lg) : LV := .lst (R.map rowV)
def rowsD (R : Lg) : PyData := .list (R.map rowL)
abbrev pd (p : Nat × Nat) : PyData := .tuple [nd p.1, nd p.2]
abbrev td (p : Tri) : PyData := .tuple [nd p.1, nd p.2.1, nd p.2.2]
/-! rules for lists -/
theorem lhs_lst (ds : List PyData) : lhs [.lst (ds.map .imm)] = false := by simp [lhs, LV.lh, nl_lst]
theorem rk_lst {f : PyData} {ds : List PyData} : (RK.dat f).lv (lhs [.lst (ds.map .imm)]) = .imm f := by rw [lhs_lst]; rfl
theorem rk_lent {f : PyData} {b : Bool} (h : im f = true) : (RK.dat f).lv b = .imm f := by
  cases b
  · rfl
  · simp [RK.lv, mkImm, mkLent, h]
theorem ims_all {ds : List PyData} (h : ∀ d ∈ ds, im d = true) : ims ds = true := by
  induction ds with
  | nil => rfl
  | cons d ds ih => simp [ims, h d List.mem_cons_self, ih fun e he => h e (List.mem_cons_of_mem _ he)]
theorem im_nl (r : List Nat) : ims (nl r) = true := ims_all fun d hd => by
  obtain ⟨x, _, rfl⟩ := List.mem_map.mp hd
  rfl
theorem im_row (r : List Nat) : im (rowT r) = true := im_nl r
theorem im_lg (L : Lg) : im (lgD L) = true := ims_all fun d hd => by
  obtain ⟨x, _, rfl⟩ := List.mem_map.mp hd
  exact im_row x
theorem dats0_map {α : Type} (f : α → LV) (g : α → PyData) (h : ∀ a, (f a).dat0 = some (g a)) : ∀ as : List α, LV.dats0 (as.map f) = some (as.map g)
  | [] => rfl
  | a :: as => by simp only [List.map_cons, LV.dats0, h, dats0_map f g h as]
theorem dat0_row (r : List Nat) : (rowV r).dat0 = some (rowL r) := by simp only [rowV, rowL, LV.dat0, dats0_imm, Option.map_some]
theorem dat0_rows (R : Lg) : (rowsV R).dat0 = some (rowsD R) := by simp only [rowsV, rowsD, LV.dat0, dats0_map rowV rowL dat0_row, Option.map_some]
theorem rv_rows {ob : List LV} {R : Lg} : readV ob (rowsV R) = some (.lent (rowsD R)) := by
  have : (rowsV R).dat ob = some (rowsD R) := dat0_rows R
  show ((rowsV R).dat ob).map mkLent = _
  rw [this]
  rfl
theorem nls_map {α : Type} (f : α → LV) (h : ∀ a, (f a).nl = true) : ∀ as : List α, LV.nls (as.map f) = true
  | [] => rfl
  | a :: as => by simp only [List.map_cons, LV.nls, h, nls_map f h as, Bool.and_self]
theorem row_nl (r : List Nat) : (rowV r).nl = true := nl_lst _
theorem rows_nl (R : Lg) : (rowsV R).nl = true := by
  simp only [rowsV, LV.nl]
  exact nls_map rowV row_nl R
theorem givs_map {α : Type} (f : α → LV) (h : ∀ a, LV.giv.giv1 (f a) = true) : ∀ as : List α, LV.giv.givs (as.map f) = true
  | [] => rfl
  | a :: as => by simp only [List.map_cons, LV.giv.givs, h, givs_map f h as, Bool.and_self]
theorem row_giv (r : List Nat) : LV.giv.giv1 (rowV r) = true := givs_imm _
theorem rows_giv (R : Lg) : LV.giv.giv1 (rowsV R) = true := givs_map rowV row_giv R
/-! ranges -/
theorem rng0 (n : Nat) : rangeD 0 (n : Int) = nl (List.range n) := by
  simp only [rangeD, nl, nd]
  rw [show ((n : Int) - 0).toNat = n by omega]
  refine List.map_congr_left fun k _ => ?_
  rw [Int.zero_add]
theorem rngU (a n : Nat) : rangeD ((a : Int) + 1) (n : Int) = nl (up a n) := by
  simp only [rangeD, nl, nd, up]
  rw [show ((n : Int) - ((a : Int) + 1)).toNat = n - (a + 1) by omega, List.range'_eq_map_range, List.map_map]
  refine List.map_congr_left fun k _ => ?_
  simp only [Function.comp, nd]
  congr 1
theorem rng0i (n : Nat) : (rangeD 0 (n : Int)).map LV.imm = (List.range n).map fun a => .imm (nd a) := by rw [rng0, nl, List.map_map]; rfl
theorem rngUi (a n : Nat) : (rangeD ((a : Int) + 1) (n : Int)).map LV.imm = (up a n).map fun a => .imm (nd a) := by rw [rngU, nl, List.map_map]; rfl
theorem small_of {i : Int} (h1 : -1000000 ≤ i) (h2 : i ≤ 1000000) : small62 i = true := by
  simp only [small62, decide_eq_true_eq]; omega
/-! sorted rows -/
theorem okD_nd (x : Nat) : okD (nd x) = true := okD_int _
def sortN (r : List Nat) : List Nat := r.mergeSort fun a b => decide (a ≤ b)
theorem sortN_perm (r : List Nat) : (sortN r).Perm r := List.mergeSort_perm ..
theorem sortN_asc {r : List Nat} (h : r.Nodup) : (sortN r).Pairwise (· < ·) := by
  have h1 : (sortN r).Pairwise fun a b => decide (a ≤ b) = true := List.pairwise_mergeSort (fun a b c h1 h2 => by simp only [decide_eq_true_eq] at *; omega) (fun a b => by simp only [Bool.or_eq_true, decide_eq_true_eq]; omega) r
  have h2 : (sortN r).Nodup := (sortN_perm r).symm.nodup h
  refine (h1.and h2).imp fun {a b} h => ?_
  have := h.1
  have := h.2
  simp only [decide_eq_true_eq] at *
  omega
theorem dataLt_nd (a b : Nat) : PySem.W.dataLt (nd a) (nd b) = decide (a < b) := by
  simp only [nd, PySem.W.dataLt_int]
  by_cases h : a < b
  · rw [decide_eq_true h, decide_eq_true (by omega)]
  · rw [decide_eq_false h, decide_eq_false (by omega)]
theorem sortD_nl {r : List Nat} (h : r.Nodup) : sortD (nl r) = nl (sortN r) := by
  refine sortD_eq ((sortN_perm r).map nd) ?_
  rw [nl, List.pairwise_map]
  exact (sortN_asc h).imp fun {a b} h => by rw [dataLt_nd, decide_eq_true h]
theorem sortable_nl (r : List Nat) : sortable (nl r) = true := by
  simp only [sortable, Bool.and_eq_true, List.all_eq_true, Bool.or_eq_true]
  have hi : ∀ d ∈ nl r, ∃ x : Nat, d = .int x := fun d hd => by
    obtain ⟨x, _, rfl⟩ := List.mem_map.mp hd
    exact ⟨x, rfl⟩
  refine ⟨⟨fun d hd => ?_, fun d hd e he => ?_⟩, .inr fun d hd => ?_⟩
  · obtain ⟨x, rfl⟩ := hi d hd; exact okD_int _
  · obtain ⟨x, rfl⟩ := hi d hd
    obtain ⟨y, rfl⟩ := hi e he
    rfl
  · obtain ⟨x, rfl⟩ := hi d hd; rfl
theorem sorted_nl {r : List Nat} (h : r.Nodup) (hl : r.length ≤ 1000) : biD .sorted [.list (nl r)] = some (.nl (nl (sortN r))) := by
  have : (nl r).length ≤ sizeLine := by simp only [nl, List.length_map, sizeLine]; omega
  simp only [biD, sortable_nl, this, decide_true, Bool.and_self, if_true, sortD_nl h]
theorem mapv {α : Type} (f : α → PyData) (xs : List α) : (xs.map f).map LV.imm = xs.map fun a => LV.imm (f a) := (mapc f xs).symm
/-! rows shut -/
theorem shut_ev (cf : CF) {R : Lg} (hn : ∀ r ∈ R, r.Nodup) (hl : ∀ r ∈ R, r.length ≤ 1000) (hR : R.length ≤ 1000) : runB 1 2 [] (b__law_shut cf) [.imm (rowsD R)] = .ok (.imm (lgD (R.map sortN))) [] := by
  refine run_ret2 [im1 (rowsD R), none] rfl (s := ⟨[im1 (rowsD R), none], []⟩) (x := .imm (lgD (R.map sortN))) rfl rfl ?_ rfl rfl
  refine st_ret (ev_bi (xs := [.lst ((R.map fun r => rowT (sortN r)).map .imm)]) (ev_consA ?_ ev_nilA nf) (datsOf_cons (dat_lst _) datsOf_nil) tup_lst (rk_lst.trans (by simp [lgD, Function.comp_def])))
  have := ev_lc1 (s := ⟨[im1 (rowsD R), none], []⟩) (s1 := ⟨[im1 (rowsD R), none], []⟩) (t := .nm 1) (own := [1]) (be := false) (fi := itP (varE 0)) (fe := biE (biD .tuple) (consA false (biE (biD .sorted) (consA false (varE 1) nilA)) nilA)) R (fun r => .imm (rowL r)) [im1 (rowsD R), none] (fun r => .imm (rowT (sortN r))) (fun r => [im1 (rowsD R), im1 (rowL r)]) ?_ rfl rfl ?_ rfl (fun _ _ => rfl) (fun _ _ => rfl) rfl (fun _ _ => rfl) (fun r hr => ?_) (by simp only [sizeLine]; omega) ?_
  · rwa [mapc fun r => rowT (sortN r)] at this
  · rw [mapc rowL]
    exact ev_itP (ev_v rfl rfl) rfl rfl rfl
  · rw [mapc rowL]; exact nlAll_imm _
  · refine ev_bi (xs := [.lst ((nl (sortN r)).map .imm)]) (ev_consA (ev_bi (xs := [.imm (rowL r)]) (ev_consA (ev_v rfl rfl) ev_nilA nf) rfl (sorted_nl (hn r hr) (hl r hr)) rfl) ev_nilA nf) (datsOf_cons (dat_lst _) datsOf_nil) tup_lst rk_lst
  · rw [mapc fun r => rowT (sortN r)]; exact nlAll_imm _
theorem gd_map {R : Lg} (f : List Nat → List Nat) (h : f [] = []) (x : Nat) : gd (R.map f) x = f (gd R x) := by
  simp only [gd, List.getD_eq_getElem?_getD, List.getElem?_map]
  cases R[x]? with
  | none => simp [h]
  | some r => simp
theorem shut_wf {n : Nat} {R : Lg} (T : Tn n R) : Wf n (R.map sortN) := by
  have hg := fun x => gd_map (R := R) sortN (by simp [sortN]) x
  have hm : ∀ x y, y ∈ gd (R.map sortN) x ↔ y ∈ gd R x := fun x y => by rw [hg]; exact (sortN_perm _).mem_iff
  exact ⟨by rw [List.length_map]; exact T.len, fun x => by rw [hg]; exact sortN_asc (T.nd x), fun x y h => T.lt x y ((hm x y).mp h), fun x y h r => T.anti x y ((hm x y).mp h) ((hm y x).mp r)⟩
theorem shut_tot {n : Nat} {R : Lg} (T : Tot n R) : Tot n (R.map sortN) := fun x y hx hy ne => by
  have hm : ∀ x y, y ∈ gd (R.map sortN) x ↔ y ∈ gd R x := fun x y => by rw [gd_map sortN (by simp [sortN])]; exact (sortN_perm _).mem_iff
  exact (T x y hx hy ne).imp (hm x y).mpr (hm y x).mpr
theorem asc_len {k n : Nat} : ∀ {r : List Nat}, r.Pairwise (· < ·) → (∀ x ∈ r, k ≤ x ∧ x < n) → r.length ≤ n - k
  | [], _, _ => Nat.zero_le _
  | x :: r, p, h => by
    obtain ⟨p1, p2⟩ := List.pairwise_cons.mp p
    have hx := h x List.mem_cons_self
    have := asc_len (k := x + 1) (n := n) p2 fun y hy => ⟨p1 y hy, (h y (List.mem_cons_of_mem _ hy)).2⟩
    simp only [List.length_cons]
    omega
theorem wf_len {n : Nat} {L : Lg} (W : Wf n L) (x : Nat) : (gd L x).length ≤ n := by
  have := asc_len (k := 0) (n := n) (W.asc x) fun y hy => ⟨Nat.zero_le _, W.lt x y hy⟩
  omega
theorem gd_mem {R : Lg} {r : List Nat} (h : r ∈ R) : ∃ x, x < R.length ∧ gd R x = r := by
  obtain ⟨x, hx, e⟩ := List.mem_iff_getElem.mp h
  exact ⟨x, hx, by simp [gd, List.getD_eq_getElem?_getD, List.getElem?_eq_getElem hx, e]⟩
theorem tn_len {n : Nat} {R : Lg} (T : Tn n R) (x : Nat) : (gd R x).length ≤ n := by
  have W := shut_wf T
  have := wf_len W x
  rw [gd_map sortN (by simp [sortN])] at this
  rwa [(sortN_perm _).length_eq] at this
theorem shut_tn (cf : CF) {n : Nat} {R : Lg} (T : Tn n R) (hn : n ≤ 100) : runB 1 2 [] (b__law_shut cf) [.imm (rowsD R)] = .ok (.imm (lgD (R.map sortN))) [] := by
  refine shut_ev cf (fun r hr => ?_) (fun r hr => ?_) (by have := T.len; omega)
  · obtain ⟨x, _, rfl⟩ := gd_mem hr; exact T.nd x
  · obtain ⟨x, _, rfl⟩ := gd_mem hr
    have := tn_len T x
    omega
/-! rows of a league -/
theorem rows_ev (cf : CF) {L : Lg} (hR : L.length ≤ 1000) : runB 1 2 [] (b__law_rows cf) [.imm (lgD L)] = .ok (rowsV L) [] := by
  refine run_ret2 [im1 (lgD L), none] rfl (s := ⟨[im1 (lgD L), none], []⟩) rfl rfl (st_ret ?_) (rsv_giv _ (rows_giv L)) rfl
  refine ev_lc1 (s := ⟨[im1 (lgD L), none], []⟩) (s1 := ⟨[im1 (lgD L), none], []⟩) (t := .nm 1) (own := [1]) (be := false) L (fun r => .imm (rowT r)) [im1 (lgD L), none] rowV (fun r => [im1 (lgD L), im1 (rowT r)]) ?_ rfl rfl ?_ rfl (fun _ _ => rfl) (fun _ _ => rfl) rfl (fun _ _ => rfl) (fun r hr => ?_) (by simp only [sizeLine]; omega) ?_
  · rw [mapc rowT]
    exact ev_itP (ev_v rfl rfl) rfl rfl rfl
  · rw [mapc rowT]; exact nlAll_imm _
  · exact ev_bi (xs := [.imm (rowT r)]) (ev_consA (ev_v rfl rfl) ev_nilA nf) rfl lst_tup rfl
  · simp [nlAll, row_nl]
def cln (g : Option LV) : Prop := g = none ∨ ∃ d, g = im1 d
theorem flat_len {α β : Type} (f : α → List β) (k : Nat) : ∀ {as : List α}, (∀ a ∈ as, (f a).length ≤ k) → (as.flatMap f).length ≤ as.length * k
  | [], _ => by simp
  | a :: as, h => by
    have h1 := h a List.mem_cons_self
    have h2 := flat_len f k (as := as) fun b hb => h b (List.mem_cons_of_mem _ hb)
    rw [List.flatMap_cons, List.length_append, List.length_cons, Nat.add_mul]
    omega
theorem up_len (a n : Nat) : (up a n).length ≤ n := by simp only [up, List.length_range']; omega
/-! all matches -/
theorem matches_ev (cf : CF) {n : Nat} (hn : n ≤ 100) : runB 1 4 [] (b__law_matches cf) [.imm (nd n)] = .ok (.lst (((pairs n).map pd).map .imm)) [] := by
  have loop := forL_run (t := .nm 2) (body := exS (mutE 1 false (mutG .extend) nilP (consA false (lcE [3] false (.nm 3) (itR false (consA false (op2E (bopD .Add) lvB false (varE 2) (cE (.int 1))) (consA false (varE 0) nilA))) tyE (tupE (consA false (varE 2) (consA false (varE 3) nilA)))) nilA))) (fun a : Nat => .imm (nd a))
    (fun done s => ∃ g, cln g ∧ s = ⟨[im1 (nd n), some (.lst (((done.flatMap fun a => (up a n).map fun b => (a, b)).map pd).map .imm)), g, none], []⟩) (as := List.range n) (done := []) (s := ⟨[im1 (nd n), some (.lst []), none, none], []⟩) ⟨none, .inl rfl, rfl⟩ ?_
  · obtain ⟨s', el, g, hg, rfl⟩ := loop
    refine run_ret2 [im1 (nd n), none, none, none] rfl (s := ⟨[im1 (nd n), none, g, none], []⟩) rfl rfl ?_ (rsv_giv _ (givs_imm _)) rfl
    refine st_seq (s1 := ⟨[im1 (nd n), some (.lst []), none, none], []⟩) (by and_intros) (st_seq (st_for (s1 := ⟨[im1 (nd n), some (.lst []), none, none], []⟩) (xs := (List.range n).map fun a => .imm (nd a)) ?_ el) (st_ret (ev_take2 rfl rfl)))
    have := ev_itR1 (s := ⟨[im1 (nd n), some (.lst []), none, none], []⟩) (gA := consA false (varE 0) nilA) (s1 := ⟨[im1 (nd n), some (.lst []), none, none], []⟩) (j := n) (ev_consA (ev_v rfl rfl) ev_nilA nf) (small_of (by omega) (by omega))
    rw [rng0i] at this
    exact this
  · rintro pre a rest e s ⟨g, hg, rfl⟩
    have hp : pre.length ≤ n := by
      have := congrArg List.length e
      simp at this; omega
    have ha : a < n := List.mem_range.mp (by rw [show List.range n = pre ++ a :: rest from e]; simp)
    have sa : small62 ((a : Int) + 1) = true := small_of (by omega) (by omega)
    obtain ⟨fd, hfe⟩ : ∃ fd, fd = pre.flatMap fun a => (up a n).map fun b => (a, b) := ⟨_, rfl⟩
    rw [← hfe]
    have hfd : fd.length ≤ 10000 := by
      rw [hfe]
      have := flat_len (fun a => (up a n).map fun b => (a, b)) n (as := pre) fun a _ => by rw [List.length_map]; exact up_len a n
      have h2 : pre.length * n ≤ 100 * 100 := Nat.mul_le_mul (by omega) hn
      omega
    refine ⟨[im1 (nd n), some (.lst ((fd.map pd).map .imm)), im1 (nd a), none], rfl, ⟨[im1 (nd n), some (.lst (((fd ++ (up a n).map fun b => (a, b)).map pd).map .imm)), im1 (nd a), none], []⟩, .inl ?_, _, .inr ⟨nd a, rfl⟩, by rw [hfe]; simp [List.flatMap_append]⟩
    refine st_ex (x := .imm .none) (ev_mutL (xs := [.lst (((up a n).map fun b => pd (a, b)).map .imm)]) (ys := (fd.map pd).map .imm) (s1 := ⟨[im1 (nd n), some (.lst ((fd.map pd).map .imm)), im1 (nd a), none], []⟩) (z' := .lst (((fd.map pd) ++ (up a n).map fun b => pd (a, b)).map .imm)) rfl (ev_consA ?_ ev_nilA nf) rfl (nlAll_cons (nl_lst _) rfl) (ext_lst ?_) (by simp [Function.comp_def]))
    · have := ev_lc1 (s := ⟨[im1 (nd n), some (.lst ((fd.map pd).map .imm)), im1 (nd a), none], []⟩) (s1 := ⟨[im1 (nd n), some (.lst ((fd.map pd).map .imm)), im1 (nd a), none], []⟩) (t := .nm 3) (own := [3]) (be := false) (fi := itR false (consA false (op2E (bopD .Add) lvB false (varE 2) (cE (.int 1))) (consA false (varE 0) nilA))) (fe := tupE (consA false (varE 2) (consA false (varE 3) nilA))) (up a n) (fun b => .imm (nd b)) [im1 (nd n), some (.lst ((fd.map pd).map .imm)), im1 (nd a), none] (fun b => .imm (pd (a, b))) (fun b => [im1 (nd n), some (.lst ((fd.map pd).map .imm)), im1 (nd a), im1 (nd b)]) ?_ rfl ?_ ?_ rfl (fun _ _ => rfl) (fun _ _ => rfl) rfl (fun _ _ => rfl) (fun b _ => ?_) ?_ ?_
      · rwa [mapc fun b => pd (a, b)] at this
      · have := ev_itR2 (s := ⟨[im1 (nd n), some (.lst ((fd.map pd).map .imm)), im1 (nd a), none], []⟩) (gA := consA false (op2E (bopD .Add) lvB false (varE 2) (cE (.int 1))) (consA false (varE 0) nilA)) (s1 := ⟨[im1 (nd n), some (.lst ((fd.map pd).map .imm)), im1 (nd a), none], []⟩) (i := (a : Int) + 1) (j := n) (by and_intros) sa (small_of (by omega) (by omega))
        · rw [rngUi] at this
          exact this
      · refine nlL_nil ?_
        simp only [nlS, nl_lst, show ∀ d, (LV.imm d).nl = true from fun _ => rfl, Bool.and_self]
      · rw [mapc nd]; exact nlAll_imm _
      · and_intros
      · have := up_len a n
        simp only [sizeLine]; omega
      · rw [mapc fun b => pd (a, b)]; exact nlAll_imm _
    · have := up_len a n
      simp only [List.length_map, sizeLine]
      omega
theorem step_row {R : Lg} {a : Nat} (ha : a < R.length) : stepL (rowsV R) (nd a) = some (rowV (gd R a)) := by
  have : (R.map rowV)[a]? = some (rowV (gd R a)) := by rw [List.getElem?_map, gd_get ha]; rfl
  simp only [rowsV, stepL, nd, MP.atI_nat this]
theorem getF_row {s : LS} {i : Nat} {R : Lg} {a : Nat} (h : s.sl[i]? = some (some (rowsV R))) (ha : a < R.length) : getF s i [nd a] = some (rowV (gd R a)) := by
  have e := step_row ha
  rw [rowsV] at h e
  simp only [getF, h, splitP, e, getP]
  rw [rowV]
  simp only [splitP]
theorem putF_row {s : LS} {i : Nat} {R : Lg} {a : Nat} {r : List Nat} (h : s.sl[i]? = some (some (rowsV R))) (ha : a < R.length) : MP.putF s i [nd a] (rowV r) = some ⟨s.sl.set i (some (rowsV (R.set a r))), s.ob⟩ := by
  have e := step_row ha
  have hi : ixN (R.map rowV).length (a : Int) = some a := by
    rw [List.length_map, ixN, if_pos (by omega), if_pos (by omega)]; rfl
  rw [rowsV] at h e
  have e2 : putP (.lst (R.map rowV)) [nd a] (rowV r) = some (rowsV (R.set a r)) := by
    simp only [putP, e]
    simp only [putL, nd, hi, Option.map_some, rowsV, List.map_set]
  simp only [MP.putF, h, splitP, e]
  have e3 : splitP (rowV (gd R a)) [] = none := by rw [rowV, splitP]; simp
  simp only [e3, e2, Option.map_some]
theorem allInts_nl : ∀ r : List Nat, allInts ((nl r).map .imm) = some (r.map fun (x : Nat) => (x : Int))
  | [] => rfl
  | x :: r => by
    have := allInts_nl r
    simp only [nl] at this
    simp only [nl, List.map_cons, allInts, this, Option.map_some]
theorem erase_cast (k : Nat) : ∀ r : List Nat, (r.map fun (x : Nat) => (x : Int)).erase (k : Int) = (r.erase k).map fun (x : Nat) => (x : Int)
  | [] => rfl
  | x :: r => by
    rw [List.map_cons, List.erase_cons, List.erase_cons]
    by_cases h : x = k
    · subst h; simp
    · rw [if_neg (by simp; omega), if_neg (by simp [h]), erase_cast k r]; rfl
theorem rem_row {r : List Nat} {k : Nat} (h : k ∈ r) : mutG .remove (rowV r) [.imm (nd k)] = some (rowV (r.erase k), .imm .none) := by
  have hm : (k : Int) ∈ r.map fun (x : Nat) => (x : Int) := List.mem_map.mpr ⟨k, h, rfl⟩
  simp only [rowV, mutG, nd, allInts_nl, if_pos hm, erase_cast]
  simp [nl, Function.comp_def]
theorem app_row {r : List Nat} {k : Nat} (h : r.length < sizeLine) : mutG .append (rowV r) [.imm (nd k)] = some (rowV (r ++ [k]), .imm .none) := by
  have := app_lst (ds := nl r) (d := nd k) (by simpa [nl] using h)
  simp only [rowV, nl, List.map_append, List.map_cons, List.map_nil] at this ⊢
  exact this
theorem nl_dat (r : List Nat) : nl r = (r.map fun (x : Nat) => (x : Int)).map PySem.W.Datum.toD := by
  rw [nl, List.map_map]; rfl
theorem in_any (r : List Nat) (b : Nat) : ((nl r).any fun y => PyData.eqv y (nd b)) = decide (b ∈ r) := by
  rw [nl_dat]
  refine (PySem.W.any_datum _ (b : Int)).trans ?_
  have : (b : Int) ∈ (r.map fun (x : Nat) => (x : Int)) ↔ b ∈ r := by
    constructor
    · intro h
      obtain ⟨x, hx, e⟩ := List.mem_map.mp h
      have : x = b := by have e : (x : Int) = b := e; omega
      exact this ▸ hx
    · exact fun h => List.mem_map.mpr ⟨b, h, rfl⟩
  simp only [this]
theorem okD_rowL (r : List Nat) : okD (rowL r) = true := by
  rw [rowL, nl_dat]; exact okD_datum (α := List Int) _
theorem okD_rowT (r : List Nat) : okD (rowT r) = true := by
  rw [rowT, nl_dat]; exact okD_datum (α := PySem.W.Tup Int) ⟨_⟩
theorem in_rowL (r : List Nat) (b : Nat) : cmpK .In (nd b) (rowL r) = some (.dat (.bool (decide (b ∈ r)))) := by
  have h := okD_rowL r
  rw [rowL] at h
  simp only [cmpK, cmpD, rowL, inD, okD_nd, h, Bool.and_self, if_true, in_any, Option.map_some]
theorem in_rowT (r : List Nat) (b : Nat) : cmpK .In (nd b) (rowT r) = some (.dat (.bool (decide (b ∈ r)))) := by
  have h := okD_rowT r
  rw [rowT] at h
  simp only [cmpK, cmpD, rowT, inD, okD_nd, h, Bool.and_self, if_true, in_any, Option.map_some]
theorem ix_rowsD {R : Lg} {a : Nat} (ha : a < R.length) : ixK (rowsD R) (nd a) = some (.dat (rowL (gd R a))) := ixK_lst (by rw [List.getElem?_map, gd_get ha]; rfl)
theorem ix_lgD {R : Lg} {a : Nat} (ha : a < R.length) : ixK (lgD R) (nd a) = some (.dat (rowT (gd R a))) := ixK_tup (by rw [List.getElem?_map, gd_get ha]; rfl)
/-! a match turned -/
theorem turn_ev (cf : CF) {n : Nat} {R : Lg} (T : Tn n R) (hn : n ≤ 100) {a b : Nat} (h : b ∈ gd R a ∨ a ∈ gd R b) : runB 3 3 [0] (b__law_turn cf) [rowsV R, .imm (nd a), .imm (nd b)] = .ok (.imm .none) [rowsV (turnM R a b)] := by
  have hab : a < R.length ∧ b < R.length := by
    have l := T.len
    rcases h with h | h
    · exact ⟨gd_lt h, by rw [l]; exact T.lt _ _ h⟩
    · exact ⟨by rw [l]; exact T.lt _ _ h, gd_lt h⟩
  have two : ∀ {u v : Nat}, u < R.length → v < R.length → v ∈ gd R u → (gd (R.set u ((gd R u).erase v)) v).length < sizeLine := fun {u v} hu hv hm => by
    have h1 := tn_len T u
    have h2 := tn_len T v
    have h3 := List.length_erase_le (a := v) (l := gd R u)
    rw [gd_set]
    simp only [sizeLine]
    split <;> omega
  have fin : ∀ {R' : Lg} {s : LS}, s = ⟨[some (rowsV R'), im1 (nd a), im1 (nd b)], []⟩ → outsOf s.sl [0] (s.ob.map some) = some ([rowsV R'], []) := fun {R' s} e => by subst e; exact out0 rfl (rows_giv _)
  have start : nlAll [rowsV R, .imm (nd a), .imm (nd b)] = true := nlAll_cons (rows_nl _) rfl
  refine run_nxt (s := ⟨[some (rowsV (turnM R a b)), im1 (nd a), im1 (nd b)], []⟩) rfl start ?_ (fin rfl)
  show b__law_turn cf ⟨[some (rowsV R), im1 (nd a), im1 (nd b)], []⟩ = _
  refine st_if (b := decide (b ∈ gd R a)) (s1 := ⟨[some (rowsV R), im1 (nd a), im1 (nd b)], []⟩) (ev_tst (ev_op (y := .lent (rowL (gd R a))) (ev_v rfl rfl) (ev_op (ev_v rfl rv_rows) (ev_v rfl rfl) dat_lent rfl (ix_rowsD hab.1) rfl nf) rfl rfl (in_rowL _ _) rfl nf)) (fun z => ?_) fun z => ?_
  · have z : b ∈ gd R a := of_decide_eq_true z
    rw [turnM, if_pos z]
    have hl := two hab.1 hab.2 z
    refine st_seq (s1 := ⟨[some (rowsV (R.set a ((gd R a).erase b))), im1 (nd a), im1 (nd b)], []⟩) (st_ex (x := .imm .none) (ev_mut (ds := [nd a]) (ev_snocP ev_nilP (ev_v rfl rfl)) (by rw [getF_row rfl hab.1]; rfl) (ev_consA (ev_v rfl rfl) ev_nilA nf) (getF_row rfl hab.1) rfl (rem_row z) (putF_row rfl hab.1))) (st_ex (x := .imm .none) (ev_mut (ds := [nd b]) (ev_snocP ev_nilP (ev_v rfl rfl)) (by rw [getF_row rfl (by simpa using hab.2)]; rfl) (ev_consA (ev_v rfl rfl) ev_nilA nf) (getF_row rfl (by simpa using hab.2)) rfl (app_row hl) (putF_row rfl (by simpa using hab.2))))
  · have z : ¬ b ∈ gd R a := of_decide_eq_false z
    have z' := h.resolve_left z
    rw [turnM, if_neg z]
    have hl := two hab.2 hab.1 z'
    refine st_seq (s1 := ⟨[some (rowsV (R.set b ((gd R b).erase a))), im1 (nd a), im1 (nd b)], []⟩) (st_ex (x := .imm .none) (ev_mut (ds := [nd b]) (ev_snocP ev_nilP (ev_v rfl rfl)) (by rw [getF_row rfl hab.2]; rfl) (ev_consA (ev_v rfl rfl) ev_nilA nf) (getF_row rfl hab.2) rfl (rem_row z') (putF_row rfl hab.2))) (st_ex (x := .imm .none) (ev_mut (ds := [nd a]) (ev_snocP ev_nilP (ev_v rfl rfl)) (by rw [getF_row rfl (by simpa using hab.1)]; rfl) (ev_consA (ev_v rfl rfl) ev_nilA nf) (getF_row rfl (by simpa using hab.1)) rfl (app_row hl) (putF_row rfl (by simpa using hab.1))))
def ShutS (cf : CF) : Prop := ∀ {n : Nat} {R : Lg}, Tn n R → n ≤ 100 → cf 3 [.imm (rowsD R)] = .ok (.imm (lgD (R.map sortN))) []
def RowsS (cf : CF) : Prop := ∀ {L : Lg}, L.length ≤ 1000 → cf 7 [.imm (lgD L)] = .ok (rowsV L) []
def TurnS (cf : CF) : Prop := ∀ {n : Nat} {R : Lg}, Tn n R → n ≤ 100 → ∀ {a b : Nat}, b ∈ gd R a ∨ a ∈ gd R b → cf 8 [rowsV R, .imm (nd a), .imm (nd b)] = .ok (.imm .none) [rowsV (turnM R a b)]
def turnsM (R : Lg) (ps : List (Nat × Nat)) : Lg := ps.foldl (fun R p => turnM R p.1 p.2) R
def turnsOk : Lg → List (Nat × Nat) → Prop
  | _, [] => True
  | R, p :: ps => (p.2 ∈ gd R p.1 ∨ p.1 ∈ gd R p.2) ∧ turnsOk (turnM R p.1 p.2) ps
theorem turnsOk_at : ∀ {pre : List (Nat × Nat)} {R : Lg} {p : Nat × Nat} {rest : List (Nat × Nat)}, turnsOk R (pre ++ p :: rest) → p.2 ∈ gd (turnsM R pre) p.1 ∨ p.1 ∈ gd (turnsM R pre) p.2
  | [], _, _, _, h => h.1
  | _ :: pre, _, _, _, h => turnsOk_at (pre := pre) h.2
theorem turns_tn {n : Nat} : ∀ {ps : List (Nat × Nat)} {R : Lg}, Tn n R → turnsOk R ps → Tn n (turnsM R ps)
  | [], _, T, _ => T
  | _ :: ps, _, T, h => turns_tn (ps := ps) (turn_tn T h.1).1 h.2
theorem bind_pd {sl : List (Option LV)} {i j : Nat} {p : Nat × Nat} (hi : i < sl.length) (hj : j < sl.length) : bindT (.tp (.cons (.nm i) (.cons (.nm j) .nil))) (.imm (pd p)) sl = some ((sl.set i (im1 (nd p.1))).set j (im1 (nd p.2))) := by
  simp [bindT, MP.bindL, LV.parts, hi, hj]
theorem with_ev {cf : CF} (hr : RowsS cf) (ht : TurnS cf) (hs : ShutS cf) {n : Nat} {L : Lg} (T : Tn n L) (hn : n ≤ 100) {ps : List (Nat × Nat)} (ok : turnsOk L ps) : runB 2 5 [] (b__law_with cf) [.imm (lgD L), .imm (.list (ps.map pd))] = .ok (.imm (lgD ((turnsM L ps).map sortN))) [] := by
  have hL : L.length ≤ 1000 := by have := T.len; omega
  have loop := forL_run (t := .tp (.cons (.nm 3) (.cons (.nm 4) .nil))) (body := exS (callEE cf 8 (slotC 2 (consC false (varE 3) (consC false (varE 4) nilC))))) (fun p => .imm (pd p))
    (fun done s => ∃ g h, s = ⟨[im1 (lgD L), im1 (.list (ps.map pd)), some (rowsV (turnsM L done)), g, h], []⟩ ∧ Tn n (turnsM L done)) (as := ps) (done := []) (s := ⟨[im1 (lgD L), im1 (.list (ps.map pd)), some (rowsV L), none, none], []⟩) ⟨_, _, rfl, T⟩ ?_
  · obtain ⟨s', el, g, h, rfl, T'⟩ := loop
    refine run_ret2 [im1 (lgD L), im1 (.list (ps.map pd)), none, none, none] rfl (s := ⟨[im1 (lgD L), im1 (.list (ps.map pd)), some (rowsV (turnsM L ps)), g, h], []⟩) (x := .imm (lgD ((turnsM L ps).map sortN))) rfl rfl ?_ rfl rfl
    refine st_seq (s1 := ⟨[im1 (lgD L), im1 (.list (ps.map pd)), some (rowsV L), none, none], []⟩) (st_set2 (x := rowsV L) (s1 := ⟨[im1 (lgD L), im1 (.list (ps.map pd)), none, none, none], []⟩) (ev_call0 (ev_consC (ev_v rfl rfl) ev_nilC nf) (argsOf_dat rfl argsOf_nil) rfl (.inl rfl) (hr hL) (rows_nl _)) (rows_nl _) ltl rfl) ?_
    refine st_seq (st_for (s1 := ⟨[im1 (lgD L), im1 (.list (ps.map pd)), some (rowsV L), none, none], []⟩) ?_ el) ?_
    · rw [mapc pd]; exact ev_itP (ev_v rfl rfl) rfl rfl rfl
    · exact st_ret (ev_call0 (ev_consC (ev_v rfl rv_rows) ev_nilC nf) (argsOf_dat rfl argsOf_nil) rfl (.inr (im_lg _)) (hs T' hn) rfl)
  · rintro pre p rest e s ⟨g, h, rfl, T'⟩
    have e : ps = pre ++ p :: rest := e
    have hp := turnsOk_at (e ▸ ok)
    refine ⟨_, bind_pd ltl ltl, ⟨[im1 (lgD L), im1 (.list (ps.map pd)), some (rowsV (turnsM L (pre ++ [p]))), im1 (nd p.1), im1 (nd p.2)], []⟩, .inl ?_, _, _, rfl, ?_⟩
    · have hm : turnsM L (pre ++ [p]) = turnM (turnsM L pre) p.1 p.2 := by simp [turnsM, List.foldl_append]
      rw [hm]
      exact st_ex (ev_call2 (s1 := ⟨[im1 (lgD L), im1 (.list (ps.map pd)), some (rowsV (turnsM L pre)), im1 (nd p.1), im1 (nd p.2)], []⟩) (ev_slotC rfl (ev_consC (ev_v rfl rfl) (ev_consC (ev_v rfl rfl) ev_nilC nf) nf)) (argsOf_slot rfl (rows_giv _) (argsOf_dat rfl (argsOf_dat rfl argsOf_nil))) rfl rfl (ht T' hn hp) rfl (rows_nl _) rfl)
    · have hm : turnsM L (pre ++ [p]) = turnM (turnsM L pre) p.1 p.2 := by simp [turnsM, List.foldl_append]
      rw [hm]
      exact (turn_tn T' hp).1
theorem cast_b {s s1 : LS} {fa : EvF} {b c : Bool} (h : b = c) (e : fa s = .ok (.imm (.bool b), s1)) : fa s = .ok (.imm (.bool c), s1) := h ▸ e
theorem Jok.mono {k k' : Nat} {J : Jar} (h : Jok k J) (l : k ≤ k') : Jok k' J := ⟨h.far, h.pos, h.cap, h.c0, by have := h.c1; omega, h.big⟩
def un : PyData → Nat
  | .int i => i.toNat
  | _ => 0
theorem nl_un {ds : List PyData} (h : ∀ d ∈ ds, ∃ x : Nat, d = nd x) : nl (ds.map un) = ds := by
  rw [nl, List.map_map]
  induction ds with
  | nil => rfl
  | cons d ds ih =>
    obtain ⟨x, rfl⟩ := h d List.mem_cons_self
    rw [List.map_cons, ih fun e he => h e (List.mem_cons_of_mem _ he)]
    rfl
theorem un_nl (r : List Nat) : (nl r).map un = r := by
  induction r with
  | nil => rfl
  | cons x r ih => simp only [nl, List.map_cons] at ih ⊢; rw [ih]; rfl
theorem nl_mem {r : List Nat} {d : PyData} (h : d ∈ nl r) : ∃ x : Nat, d = nd x := by
  obtain ⟨x, _, rfl⟩ := List.mem_map.mp h
  exact ⟨x, rfl⟩
theorem perm_nl {out : List PyData} {r : List Nat} (h : out.Perm (nl r)) : ∃ ord, out = nl ord ∧ ord.Perm r := by
  refine ⟨out.map un, (nl_un fun d hd => nl_mem (h.subset hd)).symm, ?_⟩
  have := h.map un
  rwa [un_nl] at this
theorem okD_nds {ds : List PyData} (h : ∀ d ∈ ds, ∃ x : Nat, d = nd x) : okD (.list ds) = true := by
  rw [← nl_un h]; exact okD_rowL _
def MatchS (cf : CF) : Prop := ∀ {n : Nat}, n ≤ 100 → cf 4 [.imm (nd n)] = .ok (.lst (((pairs n).map pd).map .imm)) []
theorem pairs_len (n : Nat) : (pairs n).length ≤ n * n := by
  have := flat_len (fun a => (up a n).map fun b => (a, b)) n (as := List.range n) fun a _ => by rw [List.length_map]; exact up_len a n
  rwa [List.length_range] at this
def LeagS (cf : CF) : Prop := ∀ {k n : Nat} {J : Jar}, Jok k J → k ≤ 2 ^ 29 → n ≤ 20 → ∃ L J', Wf n L ∧ Tot n L ∧ Jok (k + 1000) J' ∧ cf 5 [J.lv, .imm (nd n)] = .ok (.imm (lgD L)) [J'.lv]
theorem league_ev {cf : CF} (D : DrawS cf) (M : MixS cf) (H : ShutS cf) (E : MatchS cf) {k n : Nat} {J : Jar} (h : Jok k J) (hk : k ≤ 2 ^ 29) (hn : n ≤ 20) : ∃ L J', Wf n L ∧ Tot n L ∧ Jok (k + 1000) J' ∧ runB 2 11 [0] (b__law_league cf) [J.lv, .imm (nd n)] = .ok (.imm (lgD L)) [J'.lv] := by
  obtain ⟨style, J1, hs6, h1, e1⟩ := D h (by omega) (m := 6) (by decide) (by decide)
  obtain ⟨out, J2, hp, h2, e2⟩ := M h1 (ds := nl (List.range n)) (by simp [nl]; omega) (by simp [nl]; omega) (fun xs hx => okD_nds fun d hd => nl_mem (hx d hd))
  obtain ⟨ord, rfl, ho⟩ := perm_nl hp
  have hond : ord.Nodup := ho.symm.nodup List.nodup_range
  have holt : ∀ x ∈ ord, x < n := fun x hx => List.mem_range.mp (ho.subset hx)
  have hol : ord.length = n := by rw [ho.length_eq, List.length_range]
  rw [show (nl (List.range n)).length = n by simp [nl]] at h2
  let st : Jar → Lg → Option LV → Option LV → Option LV → Option LV → Option LV → LS := fun J R a b c d e => ⟨[some J.lv, im1 (nd n), im1 (nd style), some (.lst ((nl ord).map .imm)), some (rowsV R), a, b, c, d, e, none], []⟩
  have loop := forL_run (t := .tp (.cons (.nm 5) (.cons (.nm 6) .nil))) (body := seqS (parS [8, 9] (consA false (op2E ixK lvB false (varE 3) (varE 5)) (consA false (op2E ixK lvB false (varE 3) (varE 6)) nilA)))
  (seqS (setS1 7 (op2E (cmpK .Eq) lvC false (callEE cf 1 (slotC 0 (consC false (cE (.int 2)) nilC))) (cE (.int 0))))
  (seqS (ifS (tstE (op2E (cmpK .Lt) lvC false (varE 2) (cE (.int 2)))) (setS1 7 (andE (op2E (cmpK .Eq) lvC false (varE 2) (cE (.int 1))) (op2E (cmpK .Eq) lvC false (callEE cf 1 (slotC 0 (consC false (cE (.int 5)) nilC))) (cE (.int 0))))) (ifS (tstE (op2E (cmpK .Eq) lvC false (varE 2) (cE (.int 2)))) (setS1 7 (op2E (cmpK .Gt) lvC false (op2E (bopD .Sub) lvB false (varE 6) (varE 5)) (op2E (bopD .FloorDiv) lvB false (varE 1) (cE (.int 2))))) nxtS))
  (exS (mutE 4 false (mutG .append) (snocP nilP (iteE (varE 7) (varE 9) (varE 8))) (consA false (iteE (varE 7) (varE 8) (varE 9)) nilA)))))) (fun p => .imm (pd p))
    (fun done s => ∃ J R a b c d e, s = st J R a b c d e ∧ Jok (k + 1 + n + 2 * done.length) J ∧ Dr n ord done R) (as := pairs n) (done := []) (s := st J2 (List.replicate n []) none none none none none) ⟨J2, _, _, _, _, _, _, rfl, by simpa using h2, dr_nil n ord⟩ ?_
  · obtain ⟨s', el, J3, R, a, b, c, d, e, rfl, hj, dr⟩ := loop
    have hpl := pairs_len n
    have hnn : n * n ≤ 20 * 20 := Nat.mul_le_mul hn hn
    simp only [List.nil_append] at hj dr
    refine ⟨R.map sortN, J3, shut_wf dr.tn, shut_tot (dr_tot dr ho), hj.mono (by omega), ?_⟩
    refine run_ret2 [some J.lv, im1 (nd n), none, none, none, none, none, none, none, none, none] rfl (s := st J3 R a b c d e) (x := .imm (lgD (R.map sortN))) rfl (nlAll_cons (jar_nl _) rfl) ?_ rfl (out0 rfl (jar_giv1 _))
    refine st_seq (s1 := st J2 (List.replicate n []) none none none none none) (st_par2 (xs := [.imm (nd style), .lst ((nl ord).map .imm), rowsV (List.replicate n [])]) (s1 := ⟨[some J2.lv, im1 (nd n), none, none, none, none, none, none, none, none, none], []⟩) (ev_consA (s1 := ⟨[some J1.lv, im1 (nd n), none, none, none, none, none, none, none, none, none], []⟩) ?_ (ev_consA (s1 := ⟨[some J2.lv, im1 (nd n), none, none, none, none, none, none, none, none, none], []⟩) ?_ (ev_consA ?_ ev_nilA nf) nf) (fun _ => rfl)) (nlAll_cons rfl (nlAll_cons (nl_lst _) (nlAll_cons (rows_nl _) rfl))) rfl rfl) ?_
    · exact ev_call2 (s1 := ⟨[some J.lv, im1 (nd n), none, none, none, none, none, none, none, none, none], []⟩) (ev_slotC rfl (ev_consC ev_c ev_nilC nf)) (argsOf_slot rfl (jar_giv _) (argsOf_dat rfl argsOf_nil)) rfl rfl e1 rfl (jar_nl _) rfl
    · refine ev_call2 (xs := [J1.lv, .imm (.list (nl (List.range n)))]) (s1 := ⟨[some J1.lv, im1 (nd n), none, none, none, none, none, none, none, none, none], []⟩) (ev_slotC rfl (ev_consC (x := .lst ((nl (List.range n)).map .imm)) ?_ ev_nilC nf)) (argsOf_slot rfl (jar_giv _) (argsOf_dat (dat_lst _) argsOf_nil)) rfl (lhs_lst _) e2 (nl_lst _) (jar_nl _) rfl
      rw [← rng0]
      exact ev_lr (ev_v rfl rfl) (by simp only [rgOk, decide_eq_true_eq]; omega)
    · have := ev_lc1 (s := ⟨[some J2.lv, im1 (nd n), none, none, none, none, none, none, none, none, none], []⟩) (s1 := ⟨[some J2.lv, im1 (nd n), none, none, none, none, none, none, none, none, none], []⟩) (t := .nm 10) (own := [10]) (be := false) (fi := itR true (consA false (varE 1) nilA)) (fe := lstE nilA) (List.range n) (fun a => .imm (nd a)) [some J2.lv, im1 (nd n), none, none, none, none, none, none, none, none, none] (fun _ => .lst []) (fun a => [some J2.lv, im1 (nd n), none, none, none, none, none, none, none, none, im1 (nd a)]) ?_ rfl ?_ ?_ rfl (fun _ _ => rfl) (fun _ _ => rfl) rfl (fun _ _ => rfl) (fun _ _ => ev_lst ev_nilA len0) ?_ ?_
      · have e : rowsV (List.replicate n []) = .lst ((List.range n).map fun _ => .lst []) := by
          rw [rowsV, List.map_replicate, List.map_const', List.length_range]; rfl
        rw [e]; exact this
      · have := ev_itR1 (s := ⟨[some J2.lv, im1 (nd n), none, none, none, none, none, none, none, none, none], []⟩) (gA := consA false (varE 1) nilA) (s1 := ⟨[some J2.lv, im1 (nd n), none, none, none, none, none, none, none, none, none], []⟩) (j := n) (ev_consA (ev_v rfl rfl) ev_nilA nf) (small_of (by omega) (by omega))
        rwa [rng0i] at this
      · refine nlL_nil ?_
        simp only [nlS, jar_nl, show ∀ d, (LV.imm d).nl = true from fun _ => rfl, Bool.and_self]
      · rw [mapc nd]; exact nlAll_imm _
      · simp only [List.length_range, sizeLine]; omega
      · simp [nlAll, LV.nl, LV.nls]
    refine st_seq (st_for (s1 := st J2 (List.replicate n []) none none none none none) (xs := (pairs n).map fun p => .imm (pd p)) ?_ el) ?_
    · have := ev_itP (s := st J2 (List.replicate n []) none none none none none) (fa := callEE cf 4 (consC false (varE 1) nilC)) (s1 := st J2 (List.replicate n []) none none none none none) (x := .lst (((pairs n).map pd).map .imm)) (ev_call0 (ev_consC (ev_v rfl rfl) ev_nilC nf) (argsOf_dat rfl argsOf_nil) rfl (.inl rfl) (E (by omega)) (nl_lst _)) (dat_lst _) rfl (lst_lh _)
      rwa [mapv] at this
    · exact st_ret (ev_call0 (ev_consC (ev_v rfl rv_rows) ev_nilC nf) (argsOf_dat rfl argsOf_nil) rfl (.inr (im_lg _)) (H dr.tn (by omega)) rfl)
  · rintro pre p rest e s ⟨J, R, a, b, c, d, g, rfl, hj, dr⟩
    have e : pairs n = pre ++ p :: rest := e
    have hpm : p ∈ pairs n := by rw [e]; simp
    obtain ⟨hij, hjn⟩ := mem_pairs.mp hpm
    have hpre : ∀ q ∈ pre, q.1 < q.2 := fun q hq => (mem_pairs.mp (by rw [e]; exact List.mem_append_left _ hq)).1
    have hnew : (p.1, p.2) ∉ pre := by
      have := pairs_nodup n
      rw [e] at this
      intro hq
      exact (List.nodup_append.mp this).2.2 p hq p List.mem_cons_self rfl
    have hplen : pre.length ≤ 400 := by
      have h1 := pairs_len n
      have h2 : n * n ≤ 20 * 20 := Nat.mul_le_mul hn hn
      have h3 := congrArg List.length e
      simp only [List.length_append, List.length_cons] at h3
      omega
    obtain ⟨hi, hhi⟩ : ∃ x, ord[p.1]? = some x := ⟨_, List.getElem?_eq_getElem (by omega)⟩
    obtain ⟨lo, hlo⟩ : ∃ x, ord[p.2]? = some x := ⟨_, List.getElem?_eq_getElem (by omega)⟩
    have hhn := holt hi (List.mem_of_getElem? hhi)
    have hln := holt lo (List.mem_of_getElem? hlo)
    have xi : ixK (.list (nl ord)) (nd p.1) = some (.dat (nd hi)) := ixK_lst (by rw [nl, List.getElem?_map, hhi]; rfl)
    have xj : ixK (.list (nl ord)) (nd p.2) = some (.dat (nd lo)) := ixK_lst (by rw [nl, List.getElem?_map, hlo]; rfl)
    obtain ⟨v, J', hv, hj', ev⟩ := D hj (m := 2) (by omega) (by decide) (by decide)
    have hb : ∃ bt J'', Jok (k + 1 + n + 2 * pre.length + 2) J'' ∧ ifS (tstE (op2E (cmpK .Lt) lvC false (varE 2) (cE (.int 2)))) (setS1 7 (andE (op2E (cmpK .Eq) lvC false (varE 2) (cE (.int 1))) (op2E (cmpK .Eq) lvC false (callEE cf 1 (slotC 0 (consC false (cE (.int 5)) nilC))) (cE (.int 0))))) (ifS (tstE (op2E (cmpK .Eq) lvC false (varE 2) (cE (.int 2)))) (setS1 7 (op2E (cmpK .Gt) lvC false (op2E (bopD .Sub) lvB false (varE 6) (varE 5)) (op2E (bopD .FloorDiv) lvB false (varE 1) (cE (.int 2))))) nxtS) (st J' R (im1 (nd p.1)) (im1 (nd p.2)) (im1 (.bool (decide ((v : Int) = 0)))) (im1 (nd hi)) (im1 (nd lo))) = .nxt (st J'' R (im1 (nd p.1)) (im1 (nd p.2)) (im1 (.bool bt)) (im1 (nd hi)) (im1 (nd lo))) := by
      by_cases c1 : style < 2
      · by_cases c2 : style = 1
        · obtain ⟨v2, J'', hv2, hj'', ev2⟩ := D hj' (m := 5) (by omega) (by decide) (by decide)
          refine ⟨decide ((v2 : Int) = 0), J'', hj''.mono (by omega), st_if (b := true) (s1 := st J' R (im1 (nd p.1)) (im1 (nd p.2)) (im1 (.bool (decide ((v : Int) = 0)))) (im1 (nd hi)) (im1 (nd lo))) ?_ (fun _ => st_set2 (x := .imm (.bool (decide ((v2 : Int) = 0)))) (s1 := st J'' R (im1 (nd p.1)) (im1 (nd p.2)) (im1 (.bool (decide ((v : Int) = 0)))) (im1 (nd hi)) (im1 (nd lo))) (ev_andE (b := true) (s1 := st J' R (im1 (nd p.1)) (im1 (nd p.2)) (im1 (.bool (decide ((v : Int) = 0)))) (im1 (nd hi)) (im1 (nd lo))) ?_ (fun z => nomatch z) fun _ => ⟨_, _, ?_, rfl⟩) rfl ltl rfl) fun z => nomatch z⟩
          · exact ev_tst (cast_b (decide_eq_true (by omega)) (ev_op (ev_v rfl rfl) ev_c rfl rfl (lt_int _ _) rfl nf))
          · exact cast_b (decide_eq_true (by omega)) (ev_op (ev_v rfl rfl) ev_c rfl rfl (eq_int _ _) rfl nf)
          · exact ev_op (x := .imm (nd v2)) (ev_call2 (s1 := st J' R (im1 (nd p.1)) (im1 (nd p.2)) (im1 (.bool (decide ((v : Int) = 0)))) (im1 (nd hi)) (im1 (nd lo))) (ev_slotC rfl (ev_consC ev_c ev_nilC nf)) (argsOf_slot rfl (jar_giv _) (argsOf_dat rfl argsOf_nil)) rfl rfl ev2 rfl (jar_nl _) rfl) ev_c rfl rfl (eq_int _ _) rfl nf
        · refine ⟨false, J', hj'.mono (by omega), st_if (b := true) (s1 := st J' R (im1 (nd p.1)) (im1 (nd p.2)) (im1 (.bool (decide ((v : Int) = 0)))) (im1 (nd hi)) (im1 (nd lo))) ?_ (fun _ => st_set2 (x := .imm (.bool false)) (s1 := st J' R (im1 (nd p.1)) (im1 (nd p.2)) (im1 (.bool (decide ((v : Int) = 0)))) (im1 (nd hi)) (im1 (nd lo))) (ev_andE (b := false) (s1 := st J' R (im1 (nd p.1)) (im1 (nd p.2)) (im1 (.bool (decide ((v : Int) = 0)))) (im1 (nd hi)) (im1 (nd lo))) ?_ (fun _ => rfl) fun z => nomatch z) rfl ltl rfl) fun z => nomatch z⟩
          · exact ev_tst (cast_b (decide_eq_true (by omega)) (ev_op (ev_v rfl rfl) ev_c rfl rfl (lt_int _ _) rfl nf))
          · exact cast_b (decide_eq_false (by omega)) (ev_op (ev_v rfl rfl) ev_c rfl rfl (eq_int _ _) rfl nf)
      · have t1 : tstE (op2E (cmpK .Lt) lvC false (varE 2) (cE (.int 2))) (st J' R (im1 (nd p.1)) (im1 (nd p.2)) (im1 (.bool (decide ((v : Int) = 0)))) (im1 (nd hi)) (im1 (nd lo))) = .ok (false, st J' R (im1 (nd p.1)) (im1 (nd p.2)) (im1 (.bool (decide ((v : Int) = 0)))) (im1 (nd hi)) (im1 (nd lo))) := by
          exact ev_tst (cast_b (decide_eq_false (by omega)) (ev_op (ev_v rfl rfl) ev_c rfl rfl (lt_int _ _) rfl nf))
        by_cases c2 : style = 2
        · refine ⟨_, J', hj'.mono (by omega), st_if t1 (fun z => nomatch z) fun _ => st_if (b := true) (s1 := st J' R (im1 (nd p.1)) (im1 (nd p.2)) (im1 (.bool (decide ((v : Int) = 0)))) (im1 (nd hi)) (im1 (nd lo))) ?_ (fun _ => st_set2 (s1 := st J' R (im1 (nd p.1)) (im1 (nd p.2)) (im1 (.bool (decide ((v : Int) = 0)))) (im1 (nd hi)) (im1 (nd lo))) (ev_op (x := .imm (.int ((p.2 : Int) - p.1))) (y := .imm (.int ((n : Int) / 2))) (ev_op (ev_v rfl rfl) (ev_v rfl rfl) rfl rfl (sub_int _ _) rfl nf) (ev_op (ev_v rfl rfl) ev_c rfl rfl (fdiv_int (by decide) (by decide)) rfl nf) rfl rfl (gt_int _ _) rfl nf) rfl ltl rfl) fun z => nomatch z⟩
          exact ev_tst (cast_b (decide_eq_true (by omega)) (ev_op (ev_v rfl rfl) ev_c rfl rfl (eq_int _ _) rfl nf))
        · refine ⟨_, J', hj'.mono (by omega), st_if t1 (fun z => nomatch z) fun _ => st_if (b := false) (s1 := st J' R (im1 (nd p.1)) (im1 (nd p.2)) (im1 (.bool (decide ((v : Int) = 0)))) (im1 (nd hi)) (im1 (nd lo))) ?_ (fun z => nomatch z) fun _ => rfl⟩
          exact ev_tst (cast_b (decide_eq_false (by omega)) (ev_op (ev_v rfl rfl) ev_c rfl rfl (eq_int _ _) rfl nf))
    obtain ⟨bt, J'', hj'', eb⟩ := hb
    -- the side that is told of, the side that is told
    obtain ⟨x, y, hx, hy, hxy⟩ : ∃ x y, x = (if bt then lo else hi) ∧ y = (if bt then hi else lo) ∧ ((ord[p.1]? = some x ∧ ord[p.2]? = some y) ∨ (ord[p.1]? = some y ∧ ord[p.2]? = some x)) := by
      refine ⟨_, _, rfl, rfl, ?_⟩
      cases bt
      · exact .inl ⟨hhi, hlo⟩
      · exact .inr ⟨hhi, hlo⟩
    have hxn : x < R.length := by rw [dr.tn.len, hx]; split <;> assumption
    have hdr := dr_step dr hond holt hij hpre hnew hxy
    refine ⟨_, bind_pd ltl ltl, st J'' (R.set x (gd R x ++ [y])) (im1 (nd p.1)) (im1 (nd p.2)) (im1 (.bool bt)) (im1 (nd hi)) (im1 (nd lo)), .inl ?_, J'', _, _, _, _, _, _, rfl, hj''.mono (by simp; omega), hdr⟩
    refine st_seq (s1 := st J R (im1 (nd p.1)) (im1 (nd p.2)) c (im1 (nd hi)) (im1 (nd lo))) (st_par2 (xs := [.imm (nd hi), .imm (nd lo)]) (s1 := st J R (im1 (nd p.1)) (im1 (nd p.2)) c d g) (ev_consA (s1 := st J R (im1 (nd p.1)) (im1 (nd p.2)) c d g) (ev_op (ev_v rfl rv_lst) (ev_v rfl rfl) rfl rfl xi lvB_int nf) (ev_consA (ev_op (ev_v rfl rv_lst) (ev_v rfl rfl) rfl rfl xj lvB_int nf) ev_nilA nf) nf) rfl rfl rfl) ?_
    refine st_seq (s1 := st J' R (im1 (nd p.1)) (im1 (nd p.2)) (im1 (.bool (decide ((v : Int) = 0)))) (im1 (nd hi)) (im1 (nd lo))) (st_set2 (s1 := st J' R (im1 (nd p.1)) (im1 (nd p.2)) c (im1 (nd hi)) (im1 (nd lo))) (ev_op (x := .imm (nd v)) (ev_call2 (s1 := st J R (im1 (nd p.1)) (im1 (nd p.2)) c (im1 (nd hi)) (im1 (nd lo))) (ev_slotC rfl (ev_consC ev_c ev_nilC nf)) (argsOf_slot rfl (jar_giv _) (argsOf_dat rfl argsOf_nil)) rfl rfl ev rfl (jar_nl _) rfl) ev_c rfl rfl (eq_int _ _) rfl nf) rfl ltl rfl) ?_
    refine st_seq eb (st_ex (x := .imm .none) (ev_mut (ds := [nd x]) (s1 := st J'' R (im1 (nd p.1)) (im1 (nd p.2)) (im1 (.bool bt)) (im1 (nd hi)) (im1 (nd lo))) (xs := [.imm (nd y)]) (ev_snocP ev_nilP (s1 := st J'' R (im1 (nd p.1)) (im1 (nd p.2)) (im1 (.bool bt)) (im1 (nd hi)) (im1 (nd lo))) ?_) (by rw [getF_row rfl hxn]; rfl) (ev_consA (s1 := st J'' R (im1 (nd p.1)) (im1 (nd p.2)) (im1 (.bool bt)) (im1 (nd hi)) (im1 (nd lo))) ?_ ev_nilA nf) (getF_row rfl hxn) rfl (app_row (by have := tn_len dr.tn x; simp only [sizeLine]; omega)) (putF_row rfl hxn)))
    · rw [hx]
      cases bt
      · exact ev_ite (b := false) (s1 := st J'' R (im1 (nd p.1)) (im1 (nd p.2)) (im1 (.bool false)) (im1 (nd hi)) (im1 (nd lo))) (ev_v rfl rfl) (fun z => nomatch z) fun _ => ev_v rfl rfl
      · exact ev_ite (b := true) (s1 := st J'' R (im1 (nd p.1)) (im1 (nd p.2)) (im1 (.bool true)) (im1 (nd hi)) (im1 (nd lo))) (ev_v rfl rfl) (fun _ => ev_v rfl rfl) fun z => nomatch z
    · rw [hy]
      cases bt
      · exact ev_ite (b := false) (s1 := st J'' R (im1 (nd p.1)) (im1 (nd p.2)) (im1 (.bool false)) (im1 (nd hi)) (im1 (nd lo))) (ev_v rfl rfl) (fun z => nomatch z) fun _ => ev_v rfl rfl
      · exact ev_ite (b := true) (s1 := st J'' R (im1 (nd p.1)) (im1 (nd p.2)) (im1 (.bool true)) (im1 (nd hi)) (im1 (nd lo))) (ev_v rfl rfl) (fun _ => ev_v rfl rfl) fun z => nomatch z
theorem pick_ev {cf : CF} (D : DrawS cf) {k : Nat} {J : Jar} {ds : List PyData} (h : Jok k J) (hk : k ≤ 2 ^ 30) (h0 : 0 < ds.length) (h1 : ds.length ≤ 2 ^ 30) : ∃ d J', d ∈ ds ∧ Jok (k + 1) J' ∧ runB 2 2 [0] (b__law_pick cf) [J.lv, .imm (.list ds)] = .ok (.imm d) [J'.lv] := by
  obtain ⟨v, J', hv, hj, ev⟩ := D h hk h0 h1
  have hd := List.getElem?_eq_getElem hv
  refine ⟨ds[v], J', List.getElem_mem hv, hj, ?_⟩
  refine run_ret2 [some J.lv, im1 (.list ds)] rfl (s := ⟨[some J'.lv, im1 (.list ds)], []⟩) (x := .imm ds[v]) rfl (nlAll_cons (jar_nl _) rfl) (st_ret ?_) rfl (out0 rfl (jar_giv1 _))
  refine ev_op (x := .imm (.list ds)) (y := .imm (nd v)) (s1 := ⟨[some J.lv, im1 (.list ds)], []⟩) (ev_v rfl rfl) (ev_call2 (xs := [J.lv, .imm (nd ds.length)]) (s1 := ⟨[some J.lv, im1 (.list ds)], []⟩) (ev_slotC rfl (ev_consC (x := .imm (nd ds.length)) ?_ ev_nilC nf)) (argsOf_slot rfl (jar_giv _) (argsOf_dat rfl argsOf_nil)) rfl rfl ev rfl (jar_nl _) rfl) rfl rfl (ixK_lst hd) rfl (fun _ => rfl)
  and_intros
theorem beat_ev (cf : CF) {L : Lg} {a b : Nat} (ha : a < L.length) : runB 3 3 [] (b_beat cf) [.imm (lgD L), .imm (nd a), .imm (nd b)] = .ok (.imm (.bool (decide (b ∈ gd L a)))) [] := by
  refine run_ret2 [im1 (lgD L), im1 (nd a), im1 (nd b)] rfl (s := ⟨[im1 (lgD L), im1 (nd a), im1 (nd b)], []⟩) (x := .imm (.bool (decide (b ∈ gd L a)))) rfl rfl (st_ret ?_) rfl rfl
  exact ev_op (ev_v rfl rfl) (ev_op (ev_v rfl rfl) (ev_v rfl rfl) rfl rfl (ix_lgD ha) rfl nf) rfl rfl (in_rowT _ _) rfl nf
def BeatS (cf : CF) : Prop := ∀ {L : Lg} {a b : Nat}, a < L.length → cf 11 [.imm (lgD L), .imm (nd a), .imm (nd b)] = .ok (.imm (.bool (decide (b ∈ gd L a)))) []
/-! rings sorted -/
theorem td_dat (p : Tri) : td p = PySem.W.Datum.toD (PySem.W.Tup.mk [(p.1 : Int), (p.2.1 : Int), (p.2.2 : Int)]) := rfl
theorem im_td (p : Tri) : im (td p) = true := rfl
theorem okD_td (p : Tri) : okD (td p) = true := by rw [td_dat]; exact okD_datum _
theorem alike_td (p q : Tri) : PySem.W.alike (td p) (td q) = true := by rw [td_dat, td_dat]; exact PySem.W.DatumOrd.alike _ _
theorem lt_td {p q : Tri} (h : ltT p q) : PySem.W.dataLt (td p) (td q) = true := by
  rw [td_dat, td_dat]
  refine (PySem.W.DatumOrd.lt_eq _ _).trans ?_
  show PySem.W.listLt [(p.1 : Int), (p.2.1 : Int), (p.2.2 : Int)] [(q.1 : Int), (q.2.1 : Int), (q.2.2 : Int)] = true
  simp only [PySem.W.listLt]
  unfold ltT at h
  by_cases h1 : (p.1 : Int) = q.1
  · rw [if_pos h1]
    by_cases h2 : (p.2.1 : Int) = q.2.1
    · rw [if_pos h2, if_neg (by omega)]
      exact decide_eq_true (by omega)
    · rw [if_neg h2]
      exact decide_eq_true (by omega)
  · rw [if_neg h1]
    exact decide_eq_true (by omega)
theorem sorted_td {n : Nat} {L : Lg} (W : Wf n L) (hl : (lawM L).length ≤ sizeLine) : biD .sorted [.list ((lawM L).map td)] = some (.nl ((ringsM L).map td)) := by
  have hs : sortable ((lawM L).map td) = true := by
    simp only [sortable, Bool.and_eq_true, List.all_eq_true, Bool.or_eq_true]
    have hi : ∀ d ∈ (lawM L).map td, ∃ p : Tri, d = td p := fun d hd => by
      obtain ⟨x, _, rfl⟩ := List.mem_map.mp hd
      exact ⟨x, rfl⟩
    refine ⟨⟨fun d hd => ?_, fun d hd e he => ?_⟩, .inl fun d hd => ?_⟩
    · obtain ⟨x, rfl⟩ := hi d hd; exact okD_td _
    · obtain ⟨x, rfl⟩ := hi d hd
      obtain ⟨y, rfl⟩ := hi e he
      exact alike_td _ _
    · obtain ⟨x, rfl⟩ := hi d hd; rfl
  have e : sortD ((lawM L).map td) = (ringsM L).map td := sortD_eq ((rings_perm W).map td) (by rw [List.pairwise_map]; exact (rings_asc W).imp lt_td)
  have hl' : ((lawM L).map td).length ≤ sizeLine := by rwa [List.length_map]
  simp only [biD, hs, hl', decide_true, Bool.and_self, if_true, e]
theorem rk_nli {ds : List PyData} {b : Bool} (h : ∀ d ∈ ds, im d = true) : (RK.nl ds).lv b = .lst (ds.map .imm) := by
  simp only [RK.lv]
  congr 1
  refine List.map_congr_left fun d hd => ?_
  cases b
  · rfl
  · simp [mkImm, mkLent, h d hd]
theorem ringAt_len (L : Lg) (a b c : Nat) : (ringAt L a b c).length ≤ 2 := by
  unfold ringAt
  split <;> split <;> simp
abbrev tl (F : List Tri) : LV := .lst ((F.map td).map .imm)
theorem im_tds (F : List Tri) : ∀ d ∈ F.map td, im d = true := fun d hd => by
  obtain ⟨x, _, rfl⟩ := List.mem_map.mp hd
  rfl
def cbody : LS → SR := seqS (ifS (tstE (andE (op2E (cmpK .In) lvC false (varE 4) (op2E ixK lvB false (varE 0) (varE 1))) (andE (op2E (cmpK .In) lvC false (varE 5) (op2E ixK lvB false (varE 0) (varE 4))) (op2E (cmpK .In) lvC false (varE 1) (op2E ixK lvB false (varE 0) (varE 5)))))) (exS (mutE 2 false (mutG .append) nilP (consA false (tupE (consA false (varE 1) (consA false (varE 4) (consA false (varE 5) nilA)))) nilA))) nxtS)
  (ifS (tstE (andE (op2E (cmpK .In) lvC false (varE 5) (op2E ixK lvB false (varE 0) (varE 1))) (andE (op2E (cmpK .In) lvC false (varE 4) (op2E ixK lvB false (varE 0) (varE 5))) (op2E (cmpK .In) lvC false (varE 1) (op2E ixK lvB false (varE 0) (varE 4)))))) (exS (mutE 2 false (mutG .append) nilP (consA false (tupE (consA false (varE 1) (consA false (varE 5) (consA false (varE 4) nilA)))) nilA))) nxtS)
def cst (L : Lg) (a : Option LV) (F : List Tri) (n : Nat) (b c : Option LV) : LS := ⟨[im1 (lgD L), a, some (tl F), im1 (nd n), b, c], []⟩
theorem cin (L : Lg) (F : List Tri) (n : Nat) (a b c : Nat) {i j x y : Nat} (hi : (cst L (im1 (nd a)) F n (im1 (nd b)) (im1 (nd c))).sl[i]? = some (im1 (nd x))) (hj : (cst L (im1 (nd a)) F n (im1 (nd b)) (im1 (nd c))).sl[j]? = some (im1 (nd y))) (hy : y < L.length) :
    op2E (cmpK .In) lvC false (varE i) (op2E ixK lvB false (varE 0) (varE j)) (cst L (im1 (nd a)) F n (im1 (nd b)) (im1 (nd c))) = .ok (.imm (.bool (decide (x ∈ gd L y))), cst L (im1 (nd a)) F n (im1 (nd b)) (im1 (nd c))) :=
  ev_op (ev_v hi rfl) (ev_op (ev_v rfl rfl) (ev_v hj rfl) rfl rfl (ix_lgD hy) rfl nf) rfl rfl (in_rowT _ _) rfl nf
theorem capp (L : Lg) (F : List Tri) (n : Nat) (a b c : Option LV) {p : Tri} (hF : F.length < sizeLine) {fa : EvF} (h : fa (cst L a F n b c) = .ok (.imm (td p), cst L a F n b c)) :
    exS (mutE 2 false (mutG .append) nilP (consA false fa nilA)) (cst L a F n b c) = .nxt (cst L a (F ++ [p]) n b c) :=
  st_ex (x := .imm .none) (ev_mutL (s1 := cst L a F n b c) rfl (ev_consA h ev_nilA nf) rfl rfl (app_lst (by rwa [List.length_map])) (by simp [cst, tl]))
theorem cbody_ev {L : Lg} {F : List Tri} {n a b c : Nat} (ha : a < L.length) (hb : b < L.length) (hc : c < L.length) (hF : F.length + 2 < sizeLine) :
    cbody (cst L (im1 (nd a)) F n (im1 (nd b)) (im1 (nd c))) = .nxt (cst L (im1 (nd a)) (F ++ ringAt L a b c) n (im1 (nd b)) (im1 (nd c))) := by
  unfold ringAt
  rw [← List.append_assoc]
  have g1 : ∀ (G : List Tri), (decide (b ∈ gd L a) && (decide (c ∈ gd L b) && decide (a ∈ gd L c))) = decide (b ∈ gd L a ∧ c ∈ gd L b ∧ a ∈ gd L c) := fun _ => by simp
  have g2 : ∀ (G : List Tri), (decide (c ∈ gd L a) && (decide (b ∈ gd L c) && decide (a ∈ gd L b))) = decide (c ∈ gd L a ∧ b ∈ gd L c ∧ a ∈ gd L b) := fun _ => by simp
  refine st_seq (s1 := cst L (im1 (nd a)) (F ++ if b ∈ gd L a ∧ c ∈ gd L b ∧ a ∈ gd L c then [(a, b, c)] else []) n (im1 (nd b)) (im1 (nd c))) (st_if (s1 := cst L (im1 (nd a)) F n (im1 (nd b)) (im1 (nd c))) (ev_tst (cast_b (g1 F) (ev_and (cin L F n a b c rfl rfl ha) fun _ => ev_and (cin L F n a b c rfl rfl hb) fun _ => cin L F n a b c rfl rfl hc))) (fun z => ?_) fun z => ?_) ?_
  · rw [if_pos (of_decide_eq_true z)]
    exact capp L F n _ _ _ (by omega) (by rw [cst]; and_intros)
  · rw [if_neg (of_decide_eq_false z), List.append_nil]; rfl
  · generalize hG : (F ++ if b ∈ gd L a ∧ c ∈ gd L b ∧ a ∈ gd L c then [(a, b, c)] else []) = G
    have hGl : G.length ≤ F.length + 1 := by rw [← hG]; split <;> simp
    refine st_if (s1 := cst L (im1 (nd a)) G n (im1 (nd b)) (im1 (nd c))) (ev_tst (cast_b (g2 F) (ev_and (cin L G n a b c rfl rfl ha) fun _ => ev_and (cin L G n a b c rfl rfl hc) fun _ => cin L G n a b c rfl rfl hb))) (fun z => ?_) fun z => ?_
    · rw [if_pos (of_decide_eq_true z)]
      exact capp L G n _ _ _ (by omega) (by rw [cst]; and_intros)
    · rw [if_neg (of_decide_eq_false z), List.append_nil]; rfl
theorem rng_up {s : LS} {i j a n : Nat} (hi : s.sl[i]? = some (im1 (nd a))) (hj : s.sl[j]? = some (im1 (nd n))) (ha : a ≤ 1000) (hn : n ≤ 1000) :
    itR false (consA false (op2E (bopD .Add) lvB false (varE i) (cE (.int 1))) (consA false (varE j) nilA)) s = .ok (((up a n).map fun x => .imm (nd x), false), s) := by
  have := ev_itR2 (s := s) (gA := consA false (op2E (bopD .Add) lvB false (varE i) (cE (.int 1))) (consA false (varE j) nilA)) (s1 := s) (i := (a : Int) + 1) (j := n) (ev_consA (ev_op (ev_v hi rfl) ev_c rfl rfl (add_int _ _) rfl nf) (ev_consA (ev_v hj rfl) ev_nilA nf) nf) (small_of (by omega) (by omega)) (small_of (by omega) (by omega))
  rwa [rngUi] at this
theorem rng_0 {s : LS} {j n : Nat} (hj : s.sl[j]? = some (im1 (nd n))) (hn : n ≤ 1000) :
    itR true (consA false (varE j) nilA) s = .ok (((List.range n).map fun x => .imm (nd x), false), s) := by
  have := ev_itR1 (s := s) (gA := consA false (varE j) nilA) (s1 := s) (j := n) (ev_consA (ev_v hj rfl) ev_nilA nf) (small_of (by omega) (by omega))
  rwa [rng0i] at this
theorem pre_len {α : Type} {l pre : List α} {x : α} {rest : List α} (e : l = pre ++ x :: rest) : pre.length < l.length := by rw [e]; simp
theorem cloop {L : Lg} {n a b : Nat} {F : List Tri} {c : Option LV} (hn : n = L.length) (hn2 : n ≤ 20) (ha : a < n) (hb : b < n) (hF : F.length ≤ 100000) :
    ∃ g, forS (itR false (consA false (op2E (bopD .Add) lvB false (varE 4) (cE (.int 1))) (consA false (varE 3) nilA))) (.nm 5) cbody (cst L (im1 (nd a)) F n (im1 (nd b)) c) = .nxt (cst L (im1 (nd a)) (F ++ (up b n).flatMap (ringAt L a b)) n (im1 (nd b)) g) := by
  have loop := forL_run (t := .nm 5) (body := cbody) (fun x => .imm (nd x)) (fun done s => ∃ g, s = cst L (im1 (nd a)) (F ++ done.flatMap (ringAt L a b)) n (im1 (nd b)) g) (as := up b n) (done := []) (s := cst L (im1 (nd a)) F n (im1 (nd b)) c) ⟨c, by simp⟩ ?_
  · obtain ⟨s', el, g, rfl⟩ := loop
    exact ⟨g, st_for (rng_up rfl rfl (by omega) (by omega)) el⟩
  · rintro pre x rest e s ⟨g, rfl⟩
    have e : up b n = pre ++ x :: rest := e
    have hx : b < x ∧ x < n := mem_up.mp (by rw [e]; simp)
    have h1 := flat_len (ringAt L a b) 2 (as := pre) fun c _ => ringAt_len L a b c
    have h2 := pre_len e
    have h3 := up_len b n
    refine ⟨_, rfl, cst L (im1 (nd a)) ((F ++ pre.flatMap (ringAt L a b)) ++ ringAt L a b x) n (im1 (nd b)) (im1 (nd x)), .inl ?_, im1 (nd x), by simp [List.flatMap_append]⟩
    exact cbody_ev (by omega) (by omega) (by omega) (by simp only [List.length_append, sizeLine]; omega)
theorem bloop {L : Lg} {n a : Nat} {F : List Tri} {b c : Option LV} (hn : n = L.length) (hn2 : n ≤ 20) (ha : a < n) (hF : F.length ≤ 90000) :
    ∃ g h, forS (itR false (consA false (op2E (bopD .Add) lvB false (varE 1) (cE (.int 1))) (consA false (varE 3) nilA))) (.nm 4) (forS (itR false (consA false (op2E (bopD .Add) lvB false (varE 4) (cE (.int 1))) (consA false (varE 3) nilA))) (.nm 5) cbody) (cst L (im1 (nd a)) F n b c) = .nxt (cst L (im1 (nd a)) (F ++ (up a n).flatMap fun b => (up b n).flatMap (ringAt L a b)) n g h) := by
  have loop := forL_run (t := .nm 4) (body := forS (itR false (consA false (op2E (bopD .Add) lvB false (varE 4) (cE (.int 1))) (consA false (varE 3) nilA))) (.nm 5) cbody) (fun x => .imm (nd x)) (fun done s => ∃ g h, s = cst L (im1 (nd a)) (F ++ done.flatMap fun b => (up b n).flatMap (ringAt L a b)) n g h) (as := up a n) (done := []) (s := cst L (im1 (nd a)) F n b c) ⟨b, c, by simp⟩ ?_
  · obtain ⟨s', el, g, h, rfl⟩ := loop
    exact ⟨g, h, st_for (rng_up rfl rfl (by omega) (by omega)) el⟩
  · rintro pre x rest e s ⟨g, h, rfl⟩
    have e : up a n = pre ++ x :: rest := e
    have hx : a < x ∧ x < n := mem_up.mp (by rw [e]; simp)
    have h1 := flat_len (fun b => (up b n).flatMap (ringAt L a b)) 40 (as := pre) fun c _ => by
      have := flat_len (ringAt L a c) 2 (as := up c n) fun d _ => ringAt_len L a c d
      have := up_len c n
      omega
    have h2 := pre_len e
    have h3 := up_len a n
    obtain ⟨g', eg⟩ := cloop (L := L) (n := n) (a := a) (b := x) (F := F ++ pre.flatMap fun b => (up b n).flatMap (ringAt L a b)) (c := h) hn hn2 ha hx.2 (by simp only [List.length_append]; omega)
    exact ⟨_, rfl, _, .inl eg, im1 (nd x), g', by simp [List.flatMap_append]⟩
theorem aloop {L : Lg} {n : Nat} {a b c : Option LV} (hn : n = L.length) (hn2 : n ≤ 20) :
    ∃ a' g h, forS (itR true (consA false (varE 3) nilA)) (.nm 1) (forS (itR false (consA false (op2E (bopD .Add) lvB false (varE 1) (cE (.int 1))) (consA false (varE 3) nilA))) (.nm 4) (forS (itR false (consA false (op2E (bopD .Add) lvB false (varE 4) (cE (.int 1))) (consA false (varE 3) nilA))) (.nm 5) cbody)) (cst L a [] n b c) = .nxt (cst L a' (lawM L) n g h) := by
  have loop := forL_run (t := .nm 1) (body := forS (itR false (consA false (op2E (bopD .Add) lvB false (varE 1) (cE (.int 1))) (consA false (varE 3) nilA))) (.nm 4) (forS (itR false (consA false (op2E (bopD .Add) lvB false (varE 4) (cE (.int 1))) (consA false (varE 3) nilA))) (.nm 5) cbody)) (fun x => .imm (nd x)) (fun done s => ∃ a g h, s = cst L a (done.flatMap fun a => (up a n).flatMap fun b => (up b n).flatMap (ringAt L a b)) n g h) (as := List.range n) (done := []) (s := cst L a [] n b c) ⟨a, b, c, by simp⟩ ?_
  · obtain ⟨s', el, a', g, h, rfl⟩ := loop
    exact ⟨a', g, h, by subst hn; exact st_for (rng_0 rfl (by omega)) el⟩
  · rintro pre x rest e s ⟨a', g, h, rfl⟩
    have e : List.range n = pre ++ x :: rest := e
    have hx : x < n := List.mem_range.mp (by rw [e]; simp)
    have h1 := flat_len (fun a => (up a n).flatMap fun b => (up b n).flatMap (ringAt L a b)) 800 (as := pre) fun d _ => by
      have := flat_len (fun b => (up b n).flatMap (ringAt L d b)) 40 (as := up d n) fun c _ => by
        have := flat_len (ringAt L d c) 2 (as := up c n) fun e _ => ringAt_len L d c e
        have := up_len c n
        omega
      have := up_len d n
      omega
    have h2 := pre_len e
    rw [List.length_range] at h2
    obtain ⟨g', h', eg⟩ := bloop (L := L) (n := n) (a := x) (F := pre.flatMap fun a => (up a n).flatMap fun b => (up b n).flatMap (ringAt L a b)) (b := g) (c := h) hn hn2 hx (by omega)
    exact ⟨_, rfl, _, .inl eg, im1 (nd x), g', h', by simp [List.flatMap_append]⟩
theorem lawM_len {L : Lg} (h : L.length ≤ 20) : (lawM L).length ≤ 16000 := by
  have := flat_len (fun a => (up a L.length).flatMap fun b => (up b L.length).flatMap (ringAt L a b)) 800 (as := List.range L.length) fun d _ => by
      have := flat_len (fun b => (up b L.length).flatMap (ringAt L d b)) 40 (as := up d L.length) fun c _ => by
        have := flat_len (ringAt L d c) 2 (as := up c L.length) fun e _ => ringAt_len L d c e
        have := up_len c L.length
        omega
      have := up_len d L.length
      omega
  rw [List.length_range] at this
  have e : lawM L = (List.range L.length).flatMap (fun a => (up a L.length).flatMap fun b => (up b L.length).flatMap (ringAt L a b)) := rfl
  rw [e]
  omega
theorem ringsM_len {n : Nat} {L : Lg} (W : Wf n L) (h : n ≤ 20) : (ringsM L).length ≤ 16000 := by
  rw [(rings_perm W).length_eq]
  exact lawM_len (by have := W.len; omega)
def ringsD (L : Lg) : PyData := .tuple ((ringsM L).map td)
theorem im_ringsD (L : Lg) : im (ringsD L) = true := ims_all (im_tds _)
theorem law_rings_ev (cf : CF) {n : Nat} {L : Lg} (W : Wf n L) (hn : n ≤ 20) : runB 1 6 [] (b__law_rings cf) [.imm (lgD L)] = .ok (.imm (ringsD L)) [] := by
  have hl := W.len
  obtain ⟨a', g, h, eg⟩ := aloop (L := L) (n := L.length) (a := none) (b := none) (c := none) rfl (by omega)
  refine run_ret2 [im1 (lgD L), none, none, none, none, none] rfl (s := cst L a' (lawM L) L.length g h) (x := .imm (ringsD L)) rfl rfl ?_ rfl rfl
  refine st_seq (s1 := cst L none [] L.length none none) (st_par2 (xs := [.lst [], .imm (nd L.length)]) (s1 := ⟨[im1 (lgD L), none, none, none, none, none], []⟩) (ev_consA (ev_lst ev_nilA len0) (ev_consA (ev_bi (ev_consA (ev_v rfl rfl) ev_nilA nf) rfl len_tup ?_) ev_nilA nf) nf) rfl rfl rfl) ?_
  · simp only [List.length_map]; rfl
  refine st_seq eg (st_ret (ev_bi (xs := [.lst (((ringsM L).map td).map .imm)]) (ev_consA (ev_bi (xs := [.lent (.list ((lawM L).map td))]) (ev_consA (ev_v rfl rv_lst) ev_nilA nf) rfl (sorted_td W ?_) (rk_nli (im_tds _))) ev_nilA nf) (datsOf_cons (dat_lst _) datsOf_nil) tup_lst rk_lst))
  have := lawM_len (L := L) (by omega)
  simp only [sizeLine]
  omega
theorem ltN (a b : Nat) : decide ((a : Int) < b) = decide (a < b) := by
  by_cases h : a < b
  · rw [decide_eq_true h, decide_eq_true (by omega)]
  · rw [decide_eq_false h, decide_eq_false (by omega)]
theorem it_row {s : LS} {L : Lg} {i j x : Nat} (hi : s.sl[i]? = some (im1 (lgD L))) (hj : s.sl[j]? = some (im1 (nd x))) (hx : x < L.length) : itP (op2E ixK lvB false (varE i) (varE j)) s = .ok (((gd L x).map fun y => .imm (nd y), false), s) := by
  have := ev_itP (s := s) (fa := op2E ixK lvB false (varE i) (varE j)) (s1 := s) (x := .imm (rowT (gd L x))) (ds := nl (gd L x)) (ev_op (ev_v hi rfl) (ev_v hj rfl) rfl rfl (ix_lgD hx) rfl nf) rfl rfl rfl
  rwa [nl, mapv] at this
/-! what can be shown -/
structure Sh (k m : Nat) (d : PyData) : Prop where
  h1 : d.showable = true
  h2 : d.depth ≤ k
  h3 : d.leavesShort 13 = true
  h4 : d.bulk ≤ m
  h5 : d.plain = true
structure Shs (k m : Nat) (ds : List PyData) : Prop where
  h1 : PyData.showableAll ds = true
  h2 : PyData.depthAll ds ≤ k
  h3 : PyData.leavesShortAll 13 ds = true
  h4 : PyData.bulkAll ds ≤ ds.length * (m + 1)
  h5 : PyData.plainAll ds = true
theorem shs {k m : Nat} : ∀ {ds : List PyData}, (∀ d ∈ ds, Sh k m d) → Shs k m ds
  | [], _ => ⟨rfl, Nat.zero_le _, rfl, Nat.zero_le _, rfl⟩
  | d :: ds, h => by
    have a := h d List.mem_cons_self
    have b := shs (ds := ds) fun e he => h e (List.mem_cons_of_mem _ he)
    refine ⟨by simp [PyData.showableAll, a.h1, b.h1], ?_, by simp [PyData.leavesShortAll, a.h3, b.h3], ?_, by simp [PyData.plainAll, a.h5, b.h5]⟩
    · have := a.h2; have := b.h2
      simp only [PyData.depthAll]; omega
    · have := a.h4; have := b.h4
      simp only [PyData.bulkAll, List.length_cons, Nat.add_mul]; omega
theorem sh_tup {k m : Nat} {ds : List PyData} (h : ∀ d ∈ ds, Sh k m d) : Sh (k + 1) (ds.length * (m + 1)) (.tuple ds) := by
  have a := shs h
  refine ⟨a.h1, ?_, a.h3, a.h4, a.h5⟩
  have := a.h2
  simp only [PyData.depth]; omega
theorem sh_lst {k m : Nat} {ds : List PyData} (h : ∀ d ∈ ds, Sh k m d) : Sh (k + 1) (ds.length * (m + 1)) (.list ds) := by
  have a := shs h
  refine ⟨a.h1, ?_, a.h3, a.h4, a.h5⟩
  have := a.h2
  simp only [PyData.depth]; omega
theorem Sh.mono {k m k' m' : Nat} {d : PyData} (h : Sh k m d) (a : k ≤ k') (b : m ≤ m') : Sh k' m' d := ⟨h.h1, Nat.le_trans h.h2 a, h.h3, Nat.le_trans h.h4 b, h.h5⟩
theorem sh_nd : ∀ {x : Nat}, x < 64 → Sh 0 0 (nd x) := fun {x} h => by
  have := (by decide : ∀ x : Fin 64, (PyData.showable (.int (x.val : Int)) && PyData.leavesShort 13 (.int (x.val : Int))) = true) ⟨x, h⟩
  simp only [Bool.and_eq_true] at this
  exact ⟨this.1, Nat.le_refl _, this.2, Nat.le_refl _, rfl⟩
theorem Sh.repr {k m : Nat} {d : PyData} (h : Sh k m d) (hk : k ≤ 40 := by decide) (hm : m ≤ 2 ^ 20 := by decide) : biD .repr [d] = some (.dat (.str d.shown)) := repr_ok h.h1 (Nat.le_trans h.h2 hk) h.h3 (Nat.le_trans h.h4 hm) h.h5
theorem sh_row {n : Nat} {r : List Nat} (hn : n ≤ 20) (h : ∀ x ∈ r, x < n) (hl : r.length ≤ n) : Sh 1 20 (rowT r) := by
  refine (sh_tup (k := 0) (m := 0) fun d hd => ?_).mono (Nat.le_refl _) ?_
  · obtain ⟨x, hx, rfl⟩ := List.mem_map.mp hd
    exact sh_nd (by have := h x hx; omega)
  · simp only [nl, List.length_map]; omega
theorem sh_lg {n : Nat} {L : Lg} (W : Wf n L) (hn : n ≤ 20) : Sh 2 420 (lgD L) := by
  refine (sh_tup (k := 1) (m := 20) fun d hd => ?_).mono (Nat.le_refl _) ?_
  · obtain ⟨r, hr, rfl⟩ := List.mem_map.mp hd
    obtain ⟨x, _, rfl⟩ := gd_mem hr
    exact sh_row hn (fun y hy => W.lt x y hy) (wf_len W x)
  · have := W.len
    simp only [List.length_map]; omega
theorem sh_rings {n : Nat} {L : Lg} (W : Wf n L) (hn : n ≤ 20) : Sh 2 64000 (ringsD L) := by
  refine (sh_tup (k := 1) (m := 3) fun d hd => ?_).mono (Nat.le_refl _) ?_
  · obtain ⟨p, hp, rfl⟩ := List.mem_map.mp hd
    obtain ⟨h1, h2, h3, _, _⟩ := mem_ringsM.mp hp
    have := W.lt _ _ h1
    have := W.lt _ _ h2
    have := W.lt _ _ h3
    refine (sh_tup (k := 0) (m := 0) fun e he => ?_).mono (Nat.le_refl _) (Nat.le_refl _)
    simp only [List.mem_cons, List.not_mem_nil, or_false] at he
    rcases he with rfl | rfl | rfl <;> exact sh_nd (by omega)
  · have := ringsM_len W hn
    simp only [List.length_map]; omega
theorem sh_two {k m : Nat} {d e : PyData} (h1 : Sh k m d) (h2 : Sh k m e) : Sh (k + 1) (2 * (m + 1)) (.list [d, e]) := sh_lst (ds := [d, e]) fun x hx => by
  simp only [List.mem_cons, List.not_mem_nil, or_false] at hx
  rcases hx with rfl | rfl <;> assumption
/-! comparisons -/
theorem ringsD_dat (L : Lg) : ringsD L = PySem.W.Datum.toD (PySem.W.Tup.mk ((ringsM L).map fun p => PySem.W.Tup.mk [(p.1 : Int), (p.2.1 : Int), (p.2.2 : Int)])) := by
  show PyData.tuple _ = PyData.tuple _
  rw [List.map_map]; rfl
theorem ne_tup {ds : List PyData} (h : okD (.tuple ds) = true) : cmpK .NotEq (.tuple ds) (.tuple []) = some (.dat (.bool (!ds.isEmpty))) := by
  have h0 : okD (.tuple []) = true := by decide
  simp only [cmpK, cmpD, h, h0, Bool.and_self, if_true, Option.map_some, PyData.eqv]
  cases ds <;> rfl
theorem okD_rings (L : Lg) : okD (ringsD L) = true := by rw [ringsD_dat]; exact okD_datum _
theorem ne_str (t u : Str) : cmpK .NotEq (.str t) (.str u) = some (.dat (.bool (!decide (t = u)))) := ne_datum t u
theorem ne_strs (t u : List Str) : cmpK .NotEq (.list (t.map .str)) (.list (u.map .str)) = some (.dat (.bool (!decide (t = u)))) := ne_datum t u
/-- a comprehension over an own list -/
theorem ev_lcf {s s1 : LS} {fi : ItF} {t : Tg} {α : Type} (as : List α) (v : α → LV) {fl : Bool} {own : List Nat} {fe : EvF} (W : List (Option LV)) (e : α → LV) (B : α → List (Option LV))
    (hi : fi s = .ok ((as.map v, fl), s1)) (hc : cleanL s1.sl own = true) (hn : nlL s1 = true) (hx : nlAll (as.map v) = true) (hW : wipeL s1.sl own = W)
    (hB : ∀ a ∈ as, bindT t (v a) W = some (B a)) (hB2 : ∀ a ∈ as, wipeL (B a) own = W) (h0 : backL s1.sl s1.sl own = s1.sl) (h1 : ∀ a ∈ as, backL s1.sl (B a) own = s1.sl)
    (he : ∀ a ∈ as, fe ⟨B a, s1.ob⟩ = .ok (e a, ⟨B a, s1.ob⟩)) (hl : as.length ≤ sizeLine) (hy : nlAll (as.map e) = true) :
    lcE own false t fi tyE fe s = .ok (.lst (as.map e), s1) := by
  have := ev_lc1 (s := s) (fi := fun s => (fi s).bind fun p => .ok ((p.1.1, false), p.2)) (be := false) (t := t) (fe := fe) as v W e B (by simp only [hi, Res.bind]) hc hn hx hW hB hB2 h0 h1 he hl hy
  simp only [lcE, hi, Res.bind] at this ⊢
  have q : ∀ b : Bool, lcBad own false ((as.map v, b), s1) ↔ lcBad own false ((as.map v, false), s1) := fun b => by simp [lcBad]
  rw [if_neg (fun z => ?_)]
  · rwa [if_neg (fun z => ?_)] at this
    rw [if_pos z] at this; cases this
  · rw [if_pos ((q fl).mp z)] at this; cases this
def JarS (cf : CF) : Prop := ∀ {ns : List Int}, ns.length ≤ 63 → ∀ {B : Nat}, B ≤ 5000000 → (∀ n ∈ ns, n.natAbs < 2 ^ B) → ∃ J, Jok 0 J ∧ cf 0 [.imm (scrD ns)] = .ok J.lv []
def PickS (cf : CF) : Prop := ∀ {k : Nat} {J : Jar} {ds : List PyData}, Jok k J → k ≤ 2 ^ 30 → 0 < ds.length → ds.length ≤ 2 ^ 30 → ∃ d J', d ∈ ds ∧ Jok (k + 1) J' ∧ cf 6 [J.lv, .imm (.list ds)] = .ok (.imm d) [J'.lv]
def WithS (cf : CF) : Prop := ∀ {n : Nat} {L : Lg}, Tn n L → n ≤ 100 → ∀ {ps : List (Nat × Nat)}, turnsOk L ps → cf 9 [.imm (lgD L), .imm (.list (ps.map pd))] = .ok (.imm (lgD ((turnsM L ps).map sortN))) []
def RingS (cf : CF) (f : Nat) : Prop := ∀ {n : Nat} {L : Lg}, Wf n L → n ≤ 20 → cf f [.imm (lgD L)] = .ok (.imm (ringsD L)) []
theorem drawS (n : Nat) : DrawS (callF P (n + 1)) := fun h hk hm hm' => by
  obtain ⟨v, J', a, b, c⟩ := draw_ev (callF P n) h hk hm hm'
  exact ⟨v, J', a, b, (callF_at (P := P) (n := n) (fi := 1) (d := d__law_draw) rfl _).trans c⟩
theorem jarS (n : Nat) : JarS (callF P (n + 1)) := fun {_} hl {_} hB hb => by
  obtain ⟨J, a, c⟩ := jar_ev (callF P n) hl hB hb
  exact ⟨J, a, (callF_at (P := P) (n := n) (fi := 0) (d := d__law_jar) rfl _).trans c⟩
theorem shutS (n : Nat) : ShutS (callF P (n + 1)) := fun T h => (callF_at (P := P) (n := n) (fi := 3) (d := d__law_shut) rfl _).trans (shut_tn (callF P n) T h)
theorem matchS (n : Nat) : MatchS (callF P (n + 1)) := fun h => (callF_at (P := P) (n := n) (fi := 4) (d := d__law_matches) rfl _).trans (matches_ev (callF P n) h)
theorem rowsS (n : Nat) : RowsS (callF P (n + 1)) := fun h => (callF_at (P := P) (n := n) (fi := 7) (d := d__law_rows) rfl _).trans (rows_ev (callF P n) h)
theorem turnS (n : Nat) : TurnS (callF P (n + 1)) := fun {_ _} T h {_ _} r => (callF_at (P := P) (n := n) (fi := 8) (d := d__law_turn) rfl _).trans (turn_ev (callF P n) T h r)
theorem withS (n : Nat) : WithS (callF P (n + 2)) := fun {_ _} T h {_} ok => (callF_at (P := P) (n := n + 1) (fi := 9) (d := d__law_with) rfl _).trans (with_ev (rowsS n) (turnS n) (shutS n) T h ok)
theorem mixS (n : Nat) : MixS (callF P (n + 2)) := fun h hk hl hok => by
  obtain ⟨out, J', a, b, c⟩ := mixed_ev (drawS n) h hk hl hok
  exact ⟨out, J', a, b, (callF_at (P := P) (n := n + 1) (fi := 2) (d := d__law_mixed) rfl _).trans c⟩
theorem leagS (n : Nat) : LeagS (callF P (n + 3)) := fun h hk hn => by
  obtain ⟨L, J', a, t, b, c⟩ := league_ev (drawS (n + 1)) (mixS n) (shutS (n + 1)) (matchS (n + 1)) h hk hn
  exact ⟨L, J', a, t, b, (callF_at (P := P) (n := n + 2) (fi := 5) (d := d__law_league) rfl _).trans c⟩
theorem pickS (n : Nat) : PickS (callF P (n + 2)) := fun h hk h0 h1 => by
  obtain ⟨d, J', a, b, c⟩ := pick_ev (drawS n) h hk h0 h1
  exact ⟨d, J', a, b, (callF_at (P := P) (n := n + 1) (fi := 6) (d := d__law_pick) rfl _).trans c⟩
theorem lringS (n : Nat) : RingS (callF P (n + 1)) 10 := fun W h => (callF_at (P := P) (n := n) (fi := 10) (d := d__law_rings) rfl _).trans (law_rings_ev (callF P n) W h)
theorem beatS (n : Nat) : BeatS (callF P (n + 1)) := fun h => (callF_at (P := P) (n := n) (fi := 11) (d := d_beat) rfl _).trans (beat_ev (callF P n) h)
/-! sums of lists -/
theorem lg_range (L : Lg) : L = (List.range L.length).map (gd L) := by
  refine List.ext_getElem (by simp) fun i h1 h2 => ?_
  simp [gd, List.getD_eq_getElem?_getD, List.getElem?_eq_getElem h1]
theorem su_list (L : Lg) (f : List Nat → Int) : (L.map f).sum = su L.length fun x => f (gd L x) := by
  have := congrArg (fun M => (M.map f).sum) (lg_range L)
  simp only [List.map_map] at this
  exact this
theorem asInts_int (ns : List Int) : asInts (ns.map .int) = some ns := by
  induction ns with
  | nil => rfl
  | cons n ns ih => simp only [List.map_cons, asInts, ih, Option.map_some]
theorem sum_int (ns : List Int) : biD .sum [.list (ns.map .int)] = some (.dat (.int ns.sum)) := by simp only [biD, asInts_int, Option.map_some]
theorem sortN_id {r : List Nat} (h : r.Pairwise (· < ·)) : sortN r = r := List.mergeSort_of_pairwise (h.imp fun {a b} h => by simp only [decide_eq_true_eq]; omega)
theorem map_sortN {n : Nat} {L : Lg} (W : Wf n L) : L.map sortN = L := by
  rw [List.map_congr_left (g := id) fun r hr => ?_, List.map_id]
  obtain ⟨x, _, rfl⟩ := gd_mem hr
  exact sortN_id (W.asc x)
theorem okD_sh {k m : Nat} {d : PyData} (h : Sh k m d) (hk : k ≤ 40) : okD d = true := by
  simp only [okD, h.h5, Bool.true_and, decide_eq_true_eq]
  exact Nat.le_trans h.h2 hk
theorem sh_bool (b : Bool) : Sh 0 0 (.bool b) := by cases b <;> exact ⟨rfl, Nat.le_refl _, rfl, Nat.le_refl _, rfl⟩
theorem sh_01 {i : Int} (h : i = 0 ∨ i = 1) : Sh 0 0 (.int i) := by
  rcases h with rfl | rfl
  · exact sh_nd (x := 0) (by decide)
  · exact sh_nd (x := 1) (by decide)
theorem sh_pd {p : Nat × Nat} (h1 : p.1 < 64) (h2 : p.2 < 64) : Sh 1 2 (pd p) := (sh_tup (k := 0) (m := 0) fun e he => by
  simp only [List.mem_cons, List.not_mem_nil, or_false] at he
  rcases he with rfl | rfl
  · exact sh_nd h1
  · exact sh_nd h2).mono (Nat.le_refl _) (Nat.le_refl _)
theorem nl_len (L : Lg) : nl (L.map List.length) = L.map fun r => nd r.length := by rw [nl, List.map_map]; rfl
theorem ch_len (L : Lg) : (L.map fun r => ch2 r.length).map PyData.int = L.map fun r => PyData.int (ch2 r.length) := by rw [List.map_map]; rfl
theorem wins_ev (cf : CF) {L : Lg} (hL : L.length ≤ 1000) : runB 1 2 [] (b_wins cf) [.imm (lgD L)] = .ok (.imm (rowT (L.map List.length))) [] := by
  refine run_ret2 [im1 (lgD L), none] rfl (s := ⟨[im1 (lgD L), none], []⟩) (x := .imm (rowT (L.map List.length))) rfl rfl ?_ rfl rfl
  refine st_ret (ev_bi (xs := [.lst ((nl (L.map List.length)).map .imm)]) (ev_consA ?_ ev_nilA nf) (datsOf_cons (dat_lst _) datsOf_nil) tup_lst rk_lst)
  have := ev_lc1 (s := ⟨[im1 (lgD L), none], []⟩) (s1 := ⟨[im1 (lgD L), none], []⟩) (t := .nm 1) (own := [1]) (be := false) (fi := itP (varE 0)) (fe := biE (biD .len) (consA false (varE 1) nilA)) L (fun r => .imm (rowT r)) [im1 (lgD L), none] (fun r => .imm (nd r.length)) (fun r => [im1 (lgD L), im1 (rowT r)]) ?_ rfl rfl ?_ rfl (fun _ _ => rfl) (fun _ _ => rfl) rfl (fun _ _ => rfl) (fun r hr => ?_) (by simp only [sizeLine]; omega) ?_
  · rw [mapc fun r : List Nat => nd r.length] at this
    rw [nl_len]
    exact this
  · rw [mapc rowT]; exact ev_itP (ev_v rfl rfl) rfl rfl rfl
  · rw [mapc rowT]; exact nlAll_imm _
  · exact ev_bi (xs := [.imm (rowT r)]) (ev_consA (ev_v rfl rfl) ev_nilA nf) rfl len_tup (by simp only [nl, List.length_map]; exact rk_int)
  · rw [mapc fun r : List Nat => nd r.length]; exact nlAll_imm _
def WinsS (cf : CF) : Prop := ∀ {L : Lg}, L.length ≤ 1000 → cf 12 [.imm (lgD L)] = .ok (.imm (rowT (L.map List.length))) []
theorem winsS (n : Nat) : WinsS (callF P (n + 1)) := fun h => (callF_at (P := P) (n := n) (fi := 12) (d := d_wins) rfl _).trans (wins_ev (callF P n) h)
theorem small_mul {a b : Nat} (ha : a ≤ 1000) (hb : b ≤ 1000000) {i j : Int} (hi : i.natAbs ≤ a) (hj : j.natAbs ≤ b) : mulOk i j = true := mulOk_of 10 20 (by omega) (by omega) (by decide)
theorem ring_count_ev {cf : CF} (Wn : WinsS cf) {L : Lg} (hL : L.length ≤ 100) (hr : ∀ x, (gd L x).length ≤ 100) : runB 1 3 [] (b_ring_count cf) [.imm (lgD L)] = .ok (.imm (.int (cntM L))) [] := by
  refine run_ret2 [im1 (lgD L), none, none] rfl (s := ⟨[im1 (lgD L), im1 (nd L.length), none], []⟩) (x := .imm (.int (cntM L))) rfl rfl ?_ rfl rfl
  refine st_seq (s1 := ⟨[im1 (lgD L), im1 (nd L.length), none], []⟩) (st_set2 (x := .imm (nd L.length)) (s1 := ⟨[im1 (lgD L), none, none], []⟩) (ev_bi (ev_consA (ev_v rfl rfl) ev_nilA nf) rfl len_tup (by simp only [List.length_map]; rfl)) rfl ltl rfl) (st_ret ?_)
  have hb1 : ((L.length : Int) - 1).natAbs ≤ 100 := by omega
  have hb2 : ((L.length : Int) - 2).natAbs ≤ 100 := by omega
  have hb3 : ((L.length : Int) * ((L.length : Int) - 1)).natAbs ≤ 10000 := by
    rw [Int.natAbs_mul]
    exact Nat.le_trans (Nat.mul_le_mul (by omega) hb1) (by decide : 100 * 100 ≤ 10000)
  have e : cntM L = ((L.length : Int) * ((L.length : Int) - 1) * ((L.length : Int) - 2)) / 6 - (L.map fun r => ch2 r.length).sum := by rw [su_list]; rfl
  rw [e]
  refine ev_op (x := .imm (.int (((L.length : Int) * ((L.length : Int) - 1) * ((L.length : Int) - 2)) / 6))) (y := .imm (.int (L.map fun r => ch2 r.length).sum)) (s1 := ⟨[im1 (lgD L), im1 (nd L.length), none], []⟩) ?_ ?_ rfl rfl (sub_int _ _) rfl nf
  · refine ev_op (ev_op (ev_op (ev_v rfl rfl) (ev_op (ev_v rfl rfl) ev_c rfl rfl (sub_int _ _) rfl nf) rfl rfl (mul_int (small_mul (a := 100) (b := 100) (by decide) (by decide) (by omega) hb1)) rfl nf) (ev_op (ev_v rfl rfl) ev_c rfl rfl (sub_int _ _) rfl nf) rfl rfl (mul_int (mulOk_of 14 10 (by omega) (by omega) (by decide))) rfl nf) ev_c rfl rfl (fdiv_int (by decide) (by decide)) rfl nf
  · refine ev_bi (xs := [.lst (((L.map fun r => ch2 r.length).map PyData.int).map .imm)]) (ev_consA ?_ ev_nilA nf) (datsOf_cons (dat_lst _) datsOf_nil) (sum_int _) rk_int
    have := ev_lc1 (s := ⟨[im1 (lgD L), im1 (nd L.length), none], []⟩) (s1 := ⟨[im1 (lgD L), im1 (nd L.length), none], []⟩) (t := .nm 2) (own := [2]) (be := false) (fi := itP (callEE cf 12 (consC false (varE 0) nilC))) (fe := op2E (bopD .FloorDiv) lvB false (op2E (bopD .Mult) lvB false (varE 2) (op2E (bopD .Sub) lvB false (varE 2) (cE (.int 1)))) (cE (.int 2))) L (fun r => .imm (nd r.length)) [im1 (lgD L), im1 (nd L.length), none] (fun r => .imm (.int (ch2 r.length))) (fun r => [im1 (lgD L), im1 (nd L.length), im1 (nd r.length)]) ?_ rfl rfl ?_ rfl (fun _ _ => rfl) (fun _ _ => rfl) rfl (fun _ _ => rfl) (fun r hr' => ?_) (by simp only [sizeLine]; omega) ?_
    · rw [mapc fun r : List Nat => PyData.int (ch2 r.length)] at this
      rw [ch_len]
      exact this
    · have := ev_itP (s := ⟨[im1 (lgD L), im1 (nd L.length), none], []⟩) (fa := callEE cf 12 (consC false (varE 0) nilC)) (s1 := ⟨[im1 (lgD L), im1 (nd L.length), none], []⟩) (x := .imm (rowT (L.map List.length))) (ev_call0 (ev_consC (ev_v rfl rfl) ev_nilC nf) (argsOf_dat rfl argsOf_nil) rfl (.inl rfl) (Wn (by omega)) rfl) rfl rfl rfl
      rw [nl_len, mapv] at this
      exact this
    · rw [mapc fun r : List Nat => nd r.length]; exact nlAll_imm _
    · obtain ⟨x, _, rfl⟩ := gd_mem hr'
      have := hr x
      exact ev_op (ev_op (ev_v rfl rfl) (ev_op (ev_v rfl rfl) ev_c rfl rfl (sub_int _ _) rfl nf) rfl rfl (mul_int (small_mul (a := 100) (b := 100) (by decide) (by decide) (by omega) (by omega))) rfl nf) ev_c rfl rfl (fdiv_int (by decide) (by decide)) rfl nf
    · rw [mapc fun r : List Nat => PyData.int (ch2 r.length)]; exact nlAll_imm _
def CountS (cf : CF) : Prop := ∀ {L : Lg}, L.length ≤ 100 → (∀ x, (gd L x).length ≤ 100) → cf 14 [.imm (lgD L)] = .ok (.imm (.int (cntM L))) []
theorem countS (n : Nat) : CountS (callF P (n + 2)) := fun h h' => (callF_at (P := P) (n := n + 1) (fi := 14) (d := d_ring_count) rfl _).trans (ring_count_ev (winsS n) h h')
theorem perm_inv {α : Type} {f : α → PyData} (g : PyData → α) (hg : ∀ a, g (f a) = a) {out : List PyData} {l : List α} (h : out.Perm (l.map f)) : ∃ l' : List α, out = l'.map f ∧ l'.Perm l := by
  refine ⟨out.map g, ?_, ?_⟩
  · rw [List.map_map]
    have : ∀ d ∈ out, f (g d) = d := fun d hd => by
      obtain ⟨a, _, rfl⟩ := List.mem_map.mp (h.subset hd)
      rw [hg]
    rw [List.map_congr_left (f := f ∘ g) (g := id) this, List.map_id]
  · have := h.map g
    rw [List.map_map, List.map_congr_left (f := g ∘ f) (g := id) fun a _ => hg a, List.map_id] at this
    exact this
def unpd : PyData → Nat × Nat
  | .tuple [.int a, .int b] => (a.toNat, b.toNat)
  | _ => (0, 0)
theorem unpd_pd (p : Nat × Nat) : unpd (pd p) = p := rfl
theorem cut_mapf {α β : Type} (f : α → β) (xs : List α) (lo hi : Option Int) : MP.cutD (xs.map f) lo hi = (MP.cutD xs lo hi).map f := by simp [MP.cutD, List.map_take, List.map_drop]
theorem mem_cutD {α : Type} {xs : List α} {lo hi : Option Int} {x : α} (h : x ∈ MP.cutD xs lo hi) : x ∈ xs := List.mem_of_mem_drop (List.mem_of_mem_take h)
theorem okD_pairs {n : Nat} (hn : n ≤ 20) : ∀ xs : List PyData, (∀ x ∈ xs, x ∈ (pairs n).map pd) → okD (.list xs) = true := fun xs hx => okD_sh (sh_lst (k := 1) (m := 2) fun d hd => by
  obtain ⟨p, hp, rfl⟩ := List.mem_map.mp (hx d hd)
  have := mem_pairs.mp hp
  exact sh_pd (by omega) (by omega)) (by decide)
theorem rep1 {s : LS} {i : Nat} {d : PyData} {k m : Nat} (hs : s.sl[i]? = some (im1 d)) (h : Sh k m d) (hk : k ≤ 40 := by decide) (hm : m ≤ 2 ^ 20 := by decide) : biE (biD .repr) (consA false (varE i) nilA) s = .ok (.imm (.str d.shown), s) := ev_bi (ev_consA (ev_v hs rfl) ev_nilA nf) rfl (h.repr hk hm) rk_str
theorem repE {s s1 : LS} {fa : EvF} {d : PyData} {k m : Nat} (hs : fa s = .ok (.imm d, s1)) (h : Sh k m d) (hk : k ≤ 40 := by decide) (hm : m ≤ 2 ^ 20 := by decide) : biE (biD .repr) (consA false fa nilA) s = .ok (.imm (.str d.shown), s1) := ev_bi (ev_consA hs ev_nilA nf) rfl (h.repr hk hm) rk_str
theorem repX {s s1 : LS} {fa : EvF} {x : LV} {d : PyData} {k m : Nat} (hs : fa s = .ok (x, s1)) (hd : x.dat s1.ob = some d) (h : Sh k m d) (hk : k ≤ 40 := by decide) (hm : m ≤ 2 ^ 20 := by decide) : biE (biD .repr) (consA false fa nilA) s = .ok (.imm (.str d.shown), s1) := ev_bi (ev_consA hs ev_nilA nf) (datsOf_cons hd datsOf_nil) (h.repr hk hm) rk_str
theorem neS {s : LS} {fa fb : EvF} {t u : Str} (ha : fa s = .ok (.imm (.str t), s)) (hb : fb s = .ok (.imm (.str u), s)) (e : t = u) : op2E (cmpK .NotEq) lvC false fa fb s = .ok (.imm (.bool false), s) :=
  cast_b (b := !decide (t = u)) (by simp [e]) (ev_op ha hb rfl rfl (ne_str _ _) rfl nf)
theorem neI {s : LS} {fa fb : EvF} {t u : Int} (ha : fa s = .ok (.imm (.int t), s)) (hb : fb s = .ok (.imm (.int u), s)) (e : t = u) : op2E (cmpK .NotEq) lvC false fa fb s = .ok (.imm (.bool false), s) :=
  cast_b (b := !decide (t = u)) (by simp [e]) (ev_op ha hb rfl rfl (ne_int _ _) rfl nf)
theorem sh_int {i : Int} (h : -100 ≤ i) (h' : i < 100) : Sh 0 0 (.int i) := by
  have := (by decide : ∀ x : Fin 200, (PyData.showable (.int ((x.val : Int) - 100)) && PyData.leavesShort 13 (.int ((x.val : Int) - 100))) = true) ⟨(i + 100).toNat, by omega⟩
  have e : (((i + 100).toNat : Nat) : Int) - 100 = i := by omega
  simp only [e, Bool.and_eq_true] at this
  exact ⟨this.1, Nat.le_refl _, this.2, Nat.le_refl _, rfl⟩
theorem enumP {α : Type} (f : α → PyData) (ps : List α) : (enumD 0 (ps.map f)).map LV.imm = ps.zipIdx.map fun q => .imm (.tuple [nd q.2, f q.1]) := by
  have : ∀ (xs : List α) (n : Nat), enumD n (xs.map f) = (xs.zipIdx n).map fun p => .tuple [nd p.2, f p.1] := by
    intro xs
    induction xs with
    | nil => intro n; rfl
    | cons x xs ih => intro n; rw [List.map_cons, enumD, ih]; rfl
  rw [this, List.map_map]; rfl
theorem len_ring {n : Nat} {L : Lg} (W : Wf n L) (Q : Tot n L) : ((ringsM L).length : Int) = cntM L := by rw [(rings_perm W).length_eq]; exact count_eq W Q
theorem su_nonneg {n : Nat} {f : Nat → Int} (h : ∀ x, 0 ≤ f x) : 0 ≤ su n f := by
  induction n with
  | zero => exact Int.le_refl _
  | succ n ih => rw [su_succ]; have := h n; omega
theorem ch2_nonneg (w : Nat) : 0 ≤ ch2 w := by
  induction w with
  | zero => decide
  | succ w ih => rw [ch2_succ]; omega
theorem cnt_bound {n : Nat} {L : Lg} (W : Wf n L) (Q : Tot n L) (hn : n ≤ 8) : 0 ≤ cntM L ∧ cntM L ≤ 56 := by
  refine ⟨by rw [← count_eq W Q]; omega, ?_⟩
  have h1 : t3 n ≤ 56 := (by decide : ∀ x : Fin 9, t3 x.val ≤ 56) ⟨n, by omega⟩
  have hl := W.len
  rw [cntM, t3_eq, hl]
  have : 0 ≤ su n fun x => ch2 (gd L x).length := su_nonneg fun x => ch2_nonneg _
  omega
def nlG : Option LV → Bool
  | none => true
  | some x => x.nl
theorem nlS_g (g : Option LV) (xs : List (Option LV)) : nlS (g :: xs) = (nlG g && nlS xs) := by cases g <;> rfl
def st (ns : List Int) (J : Jar) (t : Nat) (n : Nat) (L : Lg) (a5 a6 a7 a8 a9 a10 a11 a12 a13 a14 a15 a16 : Option LV) : LS := ⟨[im1 (scrD ns), some J.lv, im1 (nd t), im1 (nd n), im1 (lgD L), a5, a6, a7, a8, a9, a10, a11, a12, a13, a14, a15, a16, none], []⟩
structure Gs (a5 a6 a7 a8 a9 a10 a11 a13 a14 a15 : Option LV) : Prop where
  h5 : nlG a5 = true
  h6 : nlG a6 = true
  h7 : nlG a7 = true
  h8 : nlG a8 = true
  h9 : nlG a9 = true
  h10 : nlG a10 = true
  h11 : nlG a11 = true
  h13 : nlG a13 = true
  h14 : nlG a14 = true
  h15 : nlG a15 = true
theorem st_nl {ns : List Int} {J : Jar} {t n : Nat} {L : Lg} {a5 a6 a7 a8 a9 a10 a11 a12 a13 a14 a15 : Option LV} (g : Gs a5 a6 a7 a8 a9 a10 a11 a13 a14 a15) (h12 : nlG a12 = true) (a16 : Option LV) (h16 : nlG a16 = true) : nlL (st ns J t n L a5 a6 a7 a8 a9 a10 a11 a12 a13 a14 a15 a16) = true := by
  simp only [nlL, st, nlS_g, g.h5, g.h6, g.h7, g.h8, g.h9, g.h10, g.h11, h12, g.h13, g.h14, g.h15, h16]
  simp [nlG, nlS, jar_nl, LV.nls, LV.nl]
/-! counts -/
theorem law_count_ev (cf : CF) {L : Lg} (hL : L.length ≤ 100) (hr : ∀ x, (gd L x).length ≤ 100) : runB 1 3 [] (b__law_count cf) [.imm (lgD L)] = .ok (.imm (.int (cntM L))) [] := by
  refine run_ret2 [im1 (lgD L), none, none] rfl (s := ⟨[im1 (lgD L), im1 (nd L.length), none], []⟩) (x := .imm (.int (cntM L))) rfl rfl ?_ rfl rfl
  refine st_seq (s1 := ⟨[im1 (lgD L), im1 (nd L.length), none], []⟩) (st_set2 (x := .imm (nd L.length)) (s1 := ⟨[im1 (lgD L), none, none], []⟩) (ev_bi (ev_consA (ev_v rfl rfl) ev_nilA nf) rfl len_tup (by simp only [List.length_map]; rfl)) rfl ltl rfl) (st_ret ?_)
  have hb1 : ((L.length : Int) - 1).natAbs ≤ 100 := by omega
  have hb2 : ((L.length : Int) - 2).natAbs ≤ 100 := by omega
  have hb3 : ((L.length : Int) * ((L.length : Int) - 1)).natAbs ≤ 10000 := by
    rw [Int.natAbs_mul]
    exact Nat.le_trans (Nat.mul_le_mul (by omega) hb1) (by decide : 100 * 100 ≤ 10000)
  have e : cntM L = ((L.length : Int) * ((L.length : Int) - 1) * ((L.length : Int) - 2)) / 6 - (L.map fun r => ch2 r.length).sum := by rw [su_list]; rfl
  rw [e]
  refine ev_op (x := .imm (.int (((L.length : Int) * ((L.length : Int) - 1) * ((L.length : Int) - 2)) / 6))) (y := .imm (.int (L.map fun r => ch2 r.length).sum)) (s1 := ⟨[im1 (lgD L), im1 (nd L.length), none], []⟩) ?_ ?_ rfl rfl (sub_int _ _) rfl nf
  · refine ev_op (ev_op (ev_op (ev_v rfl rfl) (ev_op (ev_v rfl rfl) ev_c rfl rfl (sub_int _ _) rfl nf) rfl rfl (mul_int (small_mul (a := 100) (b := 100) (by decide) (by decide) (by omega) hb1)) rfl nf) (ev_op (ev_v rfl rfl) ev_c rfl rfl (sub_int _ _) rfl nf) rfl rfl (mul_int (mulOk_of 14 10 (by omega) (by omega) (by decide))) rfl nf) ev_c rfl rfl (fdiv_int (by decide) (by decide)) rfl nf
  · refine ev_bi (xs := [.lst (((L.map fun r => ch2 r.length).map PyData.int).map .imm)]) (ev_consA ?_ ev_nilA nf) (datsOf_cons (dat_lst _) datsOf_nil) (sum_int _) rk_int
    have := ev_lc1 (s := ⟨[im1 (lgD L), im1 (nd L.length), none], []⟩) (s1 := ⟨[im1 (lgD L), im1 (nd L.length), none], []⟩) (t := .nm 2) (own := [2]) (be := false) (fi := itP (varE 0)) (fe := op2E (bopD .FloorDiv) lvB false (op2E (bopD .Mult) lvB false (biE (biD .len) (consA false (varE 2) nilA)) (op2E (bopD .Sub) lvB false (biE (biD .len) (consA false (varE 2) nilA)) (cE (.int 1)))) (cE (.int 2))) L (fun r => .imm (rowT r)) [im1 (lgD L), im1 (nd L.length), none] (fun r => .imm (.int (ch2 r.length))) (fun r => [im1 (lgD L), im1 (nd L.length), im1 (rowT r)]) ?_ rfl rfl ?_ rfl (fun _ _ => rfl) (fun _ _ => rfl) rfl (fun _ _ => rfl) (fun r hr' => ?_) (by simp only [sizeLine]; omega) ?_
    · rw [mapc fun r : List Nat => PyData.int (ch2 r.length)] at this
      rw [ch_len]
      exact this
    · rw [mapc rowT]; exact ev_itP (ev_v rfl rfl) rfl rfl rfl
    · rw [mapc rowT]; exact nlAll_imm _
    · obtain ⟨x, _, rfl⟩ := gd_mem hr'
      have := hr x
      have hlen : biE (biD .len) (consA false (varE 2) nilA) ⟨[im1 (lgD L), im1 (nd L.length), im1 (rowT (gd L x))], []⟩ = .ok (.imm (.int (gd L x).length), ⟨[im1 (lgD L), im1 (nd L.length), im1 (rowT (gd L x))], []⟩) := ev_bi (ev_consA (ev_v rfl rfl) ev_nilA nf) rfl len_tup (by simp only [nl, List.length_map]; exact rk_int)
      exact ev_op (ev_op hlen (ev_op hlen ev_c rfl rfl (sub_int _ _) rfl nf) rfl rfl (mul_int (small_mul (a := 100) (b := 100) (by decide) (by decide) (by omega) (by omega))) rfl nf) ev_c rfl rfl (fdiv_int (by decide) (by decide)) rfl nf
    · rw [mapc fun r : List Nat => PyData.int (ch2 r.length)]; exact nlAll_imm _
def LCountS (cf : CF) : Prop := ∀ {L : Lg}, L.length ≤ 100 → (∀ x, (gd L x).length ≤ 100) → cf 18 [.imm (lgD L)] = .ok (.imm (.int (cntM L))) []
theorem lcountS (n : Nat) : LCountS (callF P (n + 1)) := fun h h' => (callF_at (P := P) (n := n) (fi := 18) (d := d__law_count) rfl _).trans (law_count_ev (callF P n) h h')
theorem map_intF {α : Type} (f : α → Int) (xs : List α) : (xs.map f).map PyData.int = xs.map fun a => PyData.int (f a) := by rw [List.map_map]; rfl
theorem flat_sum {α β : Type} (f : α → List β) : ∀ as : List α, (as.map fun a => ((f a).length : Int)).sum = ((as.flatMap f).length : Int)
  | [] => rfl
  | a :: as => by rw [List.map_cons, List.sum_cons, flat_sum f as, List.flatMap_cons, List.length_append]; omega
theorem rings_with_ev {cf : CF} (Bt : BeatS cf) {n : Nat} {L : Lg} (W : Wf n L) (hn : n ≤ 20) {s : Nat} (hs : s < n) : runB 2 4 [] (b_rings_with cf) [.imm (lgD L), .imm (nd s)] = .ok (.imm (.int (ways L s).length)) [] := by
  have hl := W.len
  have e : ((ways L s).length : Int) = ((gd L s).map fun b => (((gd L b).filter fun c => decide (s ∈ gd L c)).length : Int)).sum := by
    rw [ways, ← flat_sum]
    congr 1
    refine List.map_congr_left fun b _ => ?_
    rw [List.length_map]
  rw [e]
  refine run_ret2 [im1 (lgD L), im1 (nd s), none, none] rfl (s := ⟨[im1 (lgD L), im1 (nd s), none, none], []⟩) (x := .imm (.int ((gd L s).map fun b => (((gd L b).filter fun c => decide (s ∈ gd L c)).length : Int)).sum)) rfl rfl (st_ret ?_) rfl rfl
  refine ev_bi (xs := [.lst ((((gd L s).map fun b => (((gd L b).filter fun c => decide (s ∈ gd L c)).length : Int)).map PyData.int).map .imm)]) (ev_consA ?_ ev_nilA nf) (datsOf_cons (dat_lst _) datsOf_nil) (sum_int _) rk_int
  have := ev_lc1 (s := ⟨[im1 (lgD L), im1 (nd s), none, none], []⟩) (s1 := ⟨[im1 (lgD L), im1 (nd s), none, none], []⟩) (t := .nm 2) (own := [2]) (be := false) (fi := itP (op2E ixK lvB false (varE 0) (varE 1))) (fe := biE (biD .len) (consA false (lcE [3] false (.nm 3) (itP (op2E ixK lvB false (varE 0) (varE 2))) (tstE (callEE cf 11 (consC false (varE 0) (consC false (varE 3) (consC false (varE 1) nilC))))) (varE 3)) nilA)) (gd L s) (fun b => .imm (nd b)) [im1 (lgD L), im1 (nd s), none, none] (fun b => .imm (.int ((gd L b).filter fun c => decide (s ∈ gd L c)).length)) (fun b => [im1 (lgD L), im1 (nd s), im1 (nd b), none]) (it_row rfl rfl (by omega)) rfl rfl ?_ rfl (fun _ _ => rfl) (fun _ _ => rfl) rfl (fun _ _ => rfl) (fun b hb => ?_) ?_ ?_
  · rw [mapc fun b => PyData.int ((gd L b).filter fun c => decide (s ∈ gd L c)).length] at this
    rw [map_intF]
    exact this
  · rw [mapc nd]; exact nlAll_imm _
  · have hbn : b < n := W.lt _ _ hb
    refine ev_bi (xs := [.lst ((nl ((gd L b).filter fun c => decide (s ∈ gd L c))).map .imm)]) (ev_consA ?_ ev_nilA nf) (datsOf_cons (dat_lst _) datsOf_nil) len_lst (by simp only [nl, List.length_map]; exact rk_int)
    have := ev_lc (s := ⟨[im1 (lgD L), im1 (nd s), im1 (nd b), none], []⟩) (s1 := ⟨[im1 (lgD L), im1 (nd s), im1 (nd b), none], []⟩) (t := .nm 3) (own := [3]) (be := false) (fi := itP (op2E ixK lvB false (varE 0) (varE 2))) (ft := tstE (callEE cf 11 (consC false (varE 0) (consC false (varE 3) (consC false (varE 1) nilC))))) (fe := varE 3) (p := fun c => decide (s ∈ gd L c)) (e := fun c => .imm (nd c)) (W := [im1 (lgD L), im1 (nd s), im1 (nd b), none]) (B := fun c => [im1 (lgD L), im1 (nd s), im1 (nd b), im1 (nd c)]) (gd L b) (fun c => .imm (nd c)) (it_row rfl rfl (by omega)) rfl rfl ?_ rfl (fun _ _ => rfl) (fun _ _ => rfl) rfl (fun _ _ => rfl) (fun c hc => ?_) (fun _ _ _ => ev_v rfl rfl) ?_ ?_
    · rw [mapc nd] at this
      exact this
    · rw [mapc nd]; exact nlAll_imm _
    · have hcn : c < L.length := by rw [hl]; exact W.lt _ _ hc
      exact ev_tst (ev_call0 (ev_consC (ev_v rfl rfl) (ev_consC (ev_v rfl rfl) (ev_consC (ev_v rfl rfl) ev_nilC nf) nf) nf) (argsOf_dat rfl (argsOf_dat rfl (argsOf_dat rfl argsOf_nil))) rfl (.inl rfl) (Bt hcn) rfl)
    · have := wf_len W b
      have := List.length_filter_le (fun c => decide (s ∈ gd L c)) (gd L b)
      simp only [List.length_map, sizeLine]; omega
    · rw [mapc nd]; exact nlAll_imm _
  · have := wf_len W s
    simp only [sizeLine]; omega
  · rw [mapc fun b => PyData.int ((gd L b).filter fun c => decide (s ∈ gd L c)).length]; exact nlAll_imm _
def RWithS (cf : CF) : Prop := ∀ {n : Nat} {L : Lg}, Wf n L → n ≤ 20 → ∀ {s : Nat}, s < n → cf 25 [.imm (lgD L), .imm (nd s)] = .ok (.imm (.int (ways L s).length)) []
theorem rwithS (n : Nat) : RWithS (callF P (n + 2)) := fun {_ _} W h {_} q => (callF_at (P := P) (n := n + 1) (fi := 25) (d := d_rings_with) rfl _).trans (rings_with_ev (beatS n) W h q)
/-- the parts of a league, as data -/
def ptsI (L : Lg) (n : Nat) : List Int := (List.range n).map fun s => ((ways L s).length : Int)
def ptsD (L : Lg) (n : Nat) : List PyData := (ptsI L n).map .int
theorem ways_le {n : Nat} {L : Lg} (W : Wf n L) (Q : Tot n L) (hn : n ≤ 8) (s : Nat) : (ways L s).length ≤ 56 := by
  rw [ways_len W s]
  have h1 := List.length_filter_le (inT s) (ringsM L)
  have h2 := len_ring W Q
  have h3 := cnt_bound W Q hn
  omega
theorem sh_pts {n : Nat} {L : Lg} (W : Wf n L) (Q : Tot n L) (hn : n ≤ 8) : Sh 1 20 (.list (ptsD L n)) := by
  refine (sh_lst (k := 0) (m := 0) fun d hd => ?_).mono (Nat.le_refl _) ?_
  · obtain ⟨i, hi, rfl⟩ := List.mem_map.mp hd
    obtain ⟨s, _, rfl⟩ := List.mem_map.mp hi
    have := ways_le W Q hn s
    exact sh_int (by omega) (by omega)
  · simp only [ptsD, ptsI, List.length_map, List.length_range]; omega
theorem sh_pair {k m : Nat} {d e : PyData} (h1 : Sh k m d) (h2 : Sh k m e) : Sh (k + 1) (2 * (m + 1)) (.list [d, e]) := sh_two h1 h2
theorem pts_map (L : Lg) (n : Nat) : (List.range n).map (fun s => LV.imm (.int (ways L s).length)) = (ptsD L n).map .imm := by
  simp [ptsD, ptsI, Function.comp_def]
theorem parts_ev {cf : CF} (Ct : CountS cf) (Rw : RWithS cf) {n : Nat} {L : Lg} (W : Wf n L) (Q : Tot n L) (hn : n ≤ 8) : runB 3 5 [] (b__law_are_parts cf) [.imm (lgD L), .imm (.int (cntM L)), .imm (.list (ptsD L n))] = .ok (.imm (.bool true)) [] := by
  have hl := W.len
  have wl : ∀ x, (gd L x).length ≤ 100 := fun x => by have := wf_len W x; omega
  have cb := cnt_bound W Q hn
  let s0 : LS := ⟨[im1 (lgD L), im1 (.int (cntM L)), im1 (.list (ptsD L n)), none, none], []⟩
  let s1 : LS := ⟨[im1 (lgD L), im1 (.int (cntM L)), im1 (.list (ptsD L n)), some (.lst ((ptsD L n).map .imm)), none], []⟩
  have sP := sh_pair ((sh_int (i := cntM L) (by omega) (by omega)).mono (Nat.zero_le 1) (Nat.zero_le 20)) (sh_pts W Q hn)
  refine run_ret2 [im1 (lgD L), im1 (.int (cntM L)), im1 (.list (ptsD L n)), none, none] rfl (s := s1) (x := .imm (.bool true)) rfl rfl (st_seq (s1 := s1) (st_set2 (s1 := s0) (x := .lst ((ptsD L n).map .imm)) ?_ (nl_lst _) ltl rfl) (st_ret ?_)) rfl rfl
  · have := ev_lc1 (s := s0) (s1 := s0) (t := .nm 4) (own := [4]) (be := false) (fi := itR true (consA false (biE (biD .len) (consA false (varE 0) nilA)) nilA)) (fe := callEE cf 25 (consC false (varE 0) (consC false (varE 4) nilC))) (List.range n) (fun s => .imm (nd s)) [im1 (lgD L), im1 (.int (cntM L)), im1 (.list (ptsD L n)), none, none] (fun s => .imm (.int (ways L s).length)) (fun s => [im1 (lgD L), im1 (.int (cntM L)), im1 (.list (ptsD L n)), none, im1 (nd s)]) ?_ rfl rfl ?_ rfl (fun _ _ => rfl) (fun _ _ => rfl) rfl (fun _ _ => rfl) (fun s hs => ?_) ?_ ?_
    · rw [pts_map] at this
      exact this
    · have := ev_itR1 (s := s0) (gA := consA false (biE (biD .len) (consA false (varE 0) nilA)) nilA) (s1 := s0) (j := n) (ev_consA (ev_bi (ev_consA (ev_v rfl rfl) ev_nilA nf) rfl len_tup (by simp only [List.length_map, hl]; exact rk_int)) ev_nilA nf) (small_of (by omega) (by omega))
      rwa [rng0i] at this
    · rw [mapc nd]; exact nlAll_imm _
    · exact ev_call0 (ev_consC (ev_v rfl rfl) (ev_consC (ev_v rfl rfl) ev_nilC nf) nf) (argsOf_dat rfl (argsOf_dat rfl argsOf_nil)) rfl (.inl rfl) (Rw W (by omega) (List.mem_range.mp hs)) rfl
    · simp only [List.length_range, sizeLine]; omega
    · rw [pts_map]; exact nlAll_imm _
  · refine cast_b (b := decide ((PyData.list [.int (cntM L), .list (ptsD L n)]).shown = (PyData.list [.int (cntM L), .list (ptsD L n)]).shown)) (by simp) (ev_op (x := .imm (.str (PyData.list [.int (cntM L), .list (ptsD L n)]).shown)) (y := .imm (.str (PyData.list [.int (cntM L), .list (ptsD L n)]).shown)) (s1 := s1) (repX (d := .list [.int (cntM L), .list (ptsD L n)]) (ev_lst (ev_consA (ev_call0 (ev_consC (ev_v rfl rfl) ev_nilC nf) (argsOf_dat rfl argsOf_nil) rfl (.inl rfl) (Ct (by omega) wl) rfl) (ev_consA (ev_v rfl rv_lst) ev_nilA nf) nf) len2) rfl sP) (repX (d := .list [.int (cntM L), .list (ptsD L n)]) (ev_lst (ev_consA (ev_v rfl rfl) (ev_consA (ev_v rfl rfl) ev_nilA nf) nf) len2) rfl sP) rfl rfl (eq_datum (α := Str) _ _) rfl nf)
def PartsS (cf : CF) : Prop := ∀ {n : Nat} {L : Lg}, Wf n L → Tot n L → n ≤ 8 → cf 26 [.imm (lgD L), .imm (.int (cntM L)), .imm (.list (ptsD L n))] = .ok (.imm (.bool true)) []
theorem partsS (n : Nat) : PartsS (callF P (n + 3)) := fun W Q h => (callF_at (P := P) (n := n + 2) (fi := 26) (d := d__law_are_parts) rfl _).trans (parts_ev (countS n.succ) (rwithS n.succ) W Q h)
theorem partsE10 {ns : List Int} {J : Jar} {t n : Nat} {L M : Lg} (W : Wf n M) (hn : n ≤ 8) {a5 a6 a7 a8 a9 a10 a11 a13 a14 a15 : Option LV} (hk : a10 = im1 (ringsD M)) (g : Gs a5 a6 a7 a8 a9 a10 a11 a13 a14 a15) :
    lcE [12] false (.nm 12) (itR true (consA false (varE 3) nilA)) tyE (biE (biD .len) (consA false (lcE [16] false (.nm 16) (itP (varE 10)) (tstE (op2E (cmpK .In) lvC false (varE 12) (varE 16))) (varE 16)) nilA)) (st ns J t n L a5 a6 a7 a8 a9 a10 a11 none a13 a14 a15 none) = .ok (.lst ((ptsD M n).map .imm), st ns J t n L a5 a6 a7 a8 a9 a10 a11 none a13 a14 a15 none) := by
  subst hk
  have := ev_lc1 (s := st ns J t n L a5 a6 a7 a8 a9 (im1 (ringsD M)) a11 none a13 a14 a15 none) (s1 := st ns J t n L a5 a6 a7 a8 a9 (im1 (ringsD M)) a11 none a13 a14 a15 none) (t := .nm 12) (own := [12]) (be := false) (fi := itR true (consA false (varE 3) nilA)) (fe := biE (biD .len) (consA false (lcE [16] false (.nm 16) (itP (varE 10)) (tstE (op2E (cmpK .In) lvC false (varE 12) (varE 16))) (varE 16)) nilA)) (List.range n) (fun s => .imm (nd s)) (st ns J t n L a5 a6 a7 a8 a9 (im1 (ringsD M)) a11 none a13 a14 a15 none).sl (fun s => .imm (.int (ways M s).length)) (fun s => (st ns J t n L a5 a6 a7 a8 a9 (im1 (ringsD M)) a11 (im1 (nd s)) a13 a14 a15 none).sl) (rng_0 rfl (by omega)) rfl (st_nl g rfl none rfl) ?_ rfl (fun _ _ => rfl) (fun _ _ => rfl) rfl (fun _ _ => rfl) (fun s hs => ?_) ?_ ?_
  · rw [pts_map] at this
    exact this
  · rw [mapc nd]; exact nlAll_imm _
  · refine ev_bi (xs := [.lst ((((ringsM M).filter (inT s)).map td).map .imm)]) (s1 := st ns J t n L a5 a6 a7 a8 a9 (im1 (ringsD M)) a11 (im1 (nd s)) a13 a14 a15 none) (ev_consA ?_ ev_nilA nf) (datsOf_cons (dat_lst _) datsOf_nil) len_lst (by rw [List.length_map, ← ways_len W s]; exact rk_int)
    have := ev_lc (s := st ns J t n L a5 a6 a7 a8 a9 (im1 (ringsD M)) a11 (im1 (nd s)) a13 a14 a15 none) (s1 := st ns J t n L a5 a6 a7 a8 a9 (im1 (ringsD M)) a11 (im1 (nd s)) a13 a14 a15 none) (t := .nm 16) (own := [16]) (be := false) (fi := itP (varE 10)) (ft := tstE (op2E (cmpK .In) lvC false (varE 12) (varE 16))) (fe := varE 16) (p := inT s) (e := fun p => .imm (td p)) (W := (st ns J t n L a5 a6 a7 a8 a9 (im1 (ringsD M)) a11 (im1 (nd s)) a13 a14 a15 none).sl) (B := fun p => (st ns J t n L a5 a6 a7 a8 a9 (im1 (ringsD M)) a11 (im1 (nd s)) a13 a14 a15 (im1 (td p))).sl) (ringsM M) (fun p => .imm (td p)) ?_ rfl (st_nl g rfl none rfl) ?_ rfl (fun _ _ => rfl) (fun _ _ => rfl) rfl (fun _ _ => rfl) (fun p _ => ?_) (fun _ _ _ => ev_v rfl rfl) ?_ ?_
    · rw [mapc td] at this
      exact this
    · rw [mapc td]; exact ev_itP (ev_v rfl rfl) rfl rfl rfl
    · rw [mapc td]; exact nlAll_imm _
    · refine ev_tst (cast_b (b := decide (s ∈ [p.1, p.2.1, p.2.2])) ?_ (ev_op (y := .imm (rowT [p.1, p.2.1, p.2.2])) (ev_v rfl rfl) (ev_v rfl rfl) rfl rfl (in_rowT _ _) rfl nf))
      simp [inT, Bool.decide_or]
    · have h1 := List.length_filter_le (inT s) (ringsM M)
      have h2 := ringsM_len W (by omega)
      simp only [List.length_map, sizeLine]; omega
    · rw [mapc td]; exact nlAll_imm _
  · simp only [List.length_range, sizeLine]; omega
  · rw [pts_map]; exact nlAll_imm _
theorem partsE11 {ns : List Int} {J : Jar} {t n : Nat} {L M : Lg} (W : Wf n M) (hn : n ≤ 8) {a5 a6 a7 a8 a9 a10 a11 a13 a14 a15 : Option LV} (hk : a11 = im1 (ringsD M)) (g : Gs a5 a6 a7 a8 a9 a10 a11 a13 a14 a15) :
    lcE [12] false (.nm 12) (itR true (consA false (varE 3) nilA)) tyE (biE (biD .len) (consA false (lcE [16] false (.nm 16) (itP (varE 11)) (tstE (op2E (cmpK .In) lvC false (varE 12) (varE 16))) (varE 16)) nilA)) (st ns J t n L a5 a6 a7 a8 a9 a10 a11 none a13 a14 a15 none) = .ok (.lst ((ptsD M n).map .imm), st ns J t n L a5 a6 a7 a8 a9 a10 a11 none a13 a14 a15 none) := by
  subst hk
  have := ev_lc1 (s := st ns J t n L a5 a6 a7 a8 a9 a10 (im1 (ringsD M)) none a13 a14 a15 none) (s1 := st ns J t n L a5 a6 a7 a8 a9 a10 (im1 (ringsD M)) none a13 a14 a15 none) (t := .nm 12) (own := [12]) (be := false) (fi := itR true (consA false (varE 3) nilA)) (fe := biE (biD .len) (consA false (lcE [16] false (.nm 16) (itP (varE 11)) (tstE (op2E (cmpK .In) lvC false (varE 12) (varE 16))) (varE 16)) nilA)) (List.range n) (fun s => .imm (nd s)) (st ns J t n L a5 a6 a7 a8 a9 a10 (im1 (ringsD M)) none a13 a14 a15 none).sl (fun s => .imm (.int (ways M s).length)) (fun s => (st ns J t n L a5 a6 a7 a8 a9 a10 (im1 (ringsD M)) (im1 (nd s)) a13 a14 a15 none).sl) (rng_0 rfl (by omega)) rfl (st_nl g rfl none rfl) ?_ rfl (fun _ _ => rfl) (fun _ _ => rfl) rfl (fun _ _ => rfl) (fun s hs => ?_) ?_ ?_
  · rw [pts_map] at this
    exact this
  · rw [mapc nd]; exact nlAll_imm _
  · refine ev_bi (xs := [.lst ((((ringsM M).filter (inT s)).map td).map .imm)]) (s1 := st ns J t n L a5 a6 a7 a8 a9 a10 (im1 (ringsD M)) (im1 (nd s)) a13 a14 a15 none) (ev_consA ?_ ev_nilA nf) (datsOf_cons (dat_lst _) datsOf_nil) len_lst (by rw [List.length_map, ← ways_len W s]; exact rk_int)
    have := ev_lc (s := st ns J t n L a5 a6 a7 a8 a9 a10 (im1 (ringsD M)) (im1 (nd s)) a13 a14 a15 none) (s1 := st ns J t n L a5 a6 a7 a8 a9 a10 (im1 (ringsD M)) (im1 (nd s)) a13 a14 a15 none) (t := .nm 16) (own := [16]) (be := false) (fi := itP (varE 11)) (ft := tstE (op2E (cmpK .In) lvC false (varE 12) (varE 16))) (fe := varE 16) (p := inT s) (e := fun p => .imm (td p)) (W := (st ns J t n L a5 a6 a7 a8 a9 a10 (im1 (ringsD M)) (im1 (nd s)) a13 a14 a15 none).sl) (B := fun p => (st ns J t n L a5 a6 a7 a8 a9 a10 (im1 (ringsD M)) (im1 (nd s)) a13 a14 a15 (im1 (td p))).sl) (ringsM M) (fun p => .imm (td p)) ?_ rfl (st_nl g rfl none rfl) ?_ rfl (fun _ _ => rfl) (fun _ _ => rfl) rfl (fun _ _ => rfl) (fun p _ => ?_) (fun _ _ _ => ev_v rfl rfl) ?_ ?_
    · rw [mapc td] at this
      exact this
    · rw [mapc td]; exact ev_itP (ev_v rfl rfl) rfl rfl rfl
    · rw [mapc td]; exact nlAll_imm _
    · refine ev_tst (cast_b (b := decide (s ∈ [p.1, p.2.1, p.2.2])) ?_ (ev_op (y := .imm (rowT [p.1, p.2.1, p.2.2])) (ev_v rfl rfl) (ev_v rfl rfl) rfl rfl (in_rowT _ _) rfl nf))
      simp [inT, Bool.decide_or]
    · have h1 := List.length_filter_le (inT s) (ringsM M)
      have h2 := ringsM_len W (by omega)
      simp only [List.length_map, sizeLine]; omega
    · rw [mapc td]; exact nlAll_imm _
  · simp only [List.length_range, sizeLine]; omega
  · rw [pts_map]; exact nlAll_imm _
theorem idx_cast (k : Nat) : ∀ r : List Nat, (r.map fun (x : Nat) => (x : Int)).idxOf (k : Int) = r.idxOf k
  | [] => rfl
  | x :: r => by
    rw [List.map_cons, List.idxOf_cons, List.idxOf_cons, idx_cast k r]
    by_cases h : x = k
    · subst h; simp
    · have h1 : ((x : Int) == (k : Int)) = false := by simp; omega
      have h2 : (x == k) = false := by simp [h]
      rw [h1, h2]
theorem asInts_nl (r : List Nat) : asInts (nl r) = some (r.map fun (x : Nat) => (x : Int)) := by
  have : nl r = (r.map fun (x : Nat) => (x : Int)).map PyData.int := by rw [nl, List.map_map]; rfl
  rw [this, asInts_int]
theorem it_ord {s : LS} {i : Nat} {ord : List Nat} (h : s.sl[i]? = some (some (.lst ((nl ord).map .imm)))) : itP (varE i) s = .ok ((ord.map fun x => .imm (nd x), true), s) := by
  rw [ev_itPl (ev_v h rv_lst) dat_lent rfl]
  have : (nl ord).map (mkImm (LV.lent (.list (nl ord))).lh) = ord.map fun x => .imm (nd x) := by
    rw [nl, List.map_map]
    refine List.map_congr_left fun x _ => mk_int _ _
  rw [this]; rfl
theorem freshE {ns : List Int} {J : Jar} {t n : Nat} {L : Lg} {ord : List Nat} (W : Wf n L) (hn : n ≤ 8) (ho : ord.Perm (List.range n)) {a5 a6 a8 a9 a10 a11 a13 a14 a15 : Option LV} (g : Gs a5 a6 (some (.lst ((nl ord).map .imm))) a8 a9 a10 a11 a13 a14 a15) :
    biE (biD .tuple) (consA false (lcE [12] false (.nm 12) (itP (varE 7)) tyE (biE (biD .tuple) (consA false (biE (biD .sorted) (consA false (lcE [17] false (.nm 17) (itP (op2E ixK lvB false (varE 4) (varE 12))) tyE (idxE false (varE 7) (consA false (varE 17) nilA))) nilA)) nilA))) nilA) (st ns J t n L a5 a6 (some (.lst ((nl ord).map .imm))) a8 a9 a10 a11 none a13 a14 a15 none) = .ok (.imm (lgD ((relM L ord).map sortN)), st ns J t n L a5 a6 (some (.lst ((nl ord).map .imm))) a8 a9 a10 a11 none a13 a14 a15 none) := by
  have hl := W.len
  have hol : ord.length = n := by rw [ho.length_eq, List.length_range]
  have hm : ∀ o, o < n → o ∈ ord := fun o h => ho.symm.subset (List.mem_range.mpr h)
  have e : lgD ((relM L ord).map sortN) = .tuple (ord.map fun s => rowT (sortN ((gd L s).map fun o => ord.idxOf o))) := by
    simp [lgD, relM, Function.comp_def]
  rw [e]
  refine ev_bi (xs := [.lst ((ord.map fun s => rowT (sortN ((gd L s).map fun o => ord.idxOf o))).map .imm)]) (ev_consA ?_ ev_nilA nf) (datsOf_cons (dat_lst _) datsOf_nil) tup_lst rk_lst
  have := ev_lcf (s := st ns J t n L a5 a6 (some (.lst ((nl ord).map .imm))) a8 a9 a10 a11 none a13 a14 a15 none) (s1 := st ns J t n L a5 a6 (some (.lst ((nl ord).map .imm))) a8 a9 a10 a11 none a13 a14 a15 none) (t := .nm 12) (own := [12]) (fi := itP (varE 7)) (fl := true) (fe := biE (biD .tuple) (consA false (biE (biD .sorted) (consA false (lcE [17] false (.nm 17) (itP (op2E ixK lvB false (varE 4) (varE 12))) tyE (idxE false (varE 7) (consA false (varE 17) nilA))) nilA)) nilA)) ord (fun s => .imm (nd s)) (st ns J t n L a5 a6 (some (.lst ((nl ord).map .imm))) a8 a9 a10 a11 none a13 a14 a15 none).sl (fun s => .imm (rowT (sortN ((gd L s).map fun o => ord.idxOf o)))) (fun s => (st ns J t n L a5 a6 (some (.lst ((nl ord).map .imm))) a8 a9 a10 a11 (im1 (nd s)) a13 a14 a15 none).sl) (it_ord rfl) rfl (st_nl g rfl none rfl) ?_ rfl (fun _ _ => rfl) (fun _ _ => rfl) rfl (fun _ _ => rfl) (fun s hs => ?_) ?_ ?_
  · rw [mapc fun s => rowT (sortN ((gd L s).map fun o => ord.idxOf o))] at this
    exact this
  · rw [mapc nd]; exact nlAll_imm _
  · have hsn : s < n := List.mem_range.mp (ho.subset hs)
    have hrl := wf_len W s
    have hnd : ((gd L s).map fun o => ord.idxOf o).Nodup := by
      rw [List.Nodup, List.pairwise_map]
      refine (W.tn.nd _).imp_of_mem fun {a b} ha hb ne e => ne ?_
      rw [← og_idx (hm a (W.lt _ _ ha)), e, og_idx (hm b (W.lt _ _ hb))]
    refine ev_bi (xs := [.lst ((nl (sortN ((gd L s).map fun o => ord.idxOf o))).map .imm)]) (s1 := st ns J t n L a5 a6 (some (.lst ((nl ord).map .imm))) a8 a9 a10 a11 (im1 (nd s)) a13 a14 a15 none) (ev_consA (ev_bi (xs := [.lst ((nl ((gd L s).map fun o => ord.idxOf o)).map .imm)]) (ev_consA ?_ ev_nilA nf) (datsOf_cons (dat_lst _) datsOf_nil) (sorted_nl hnd (by rw [List.length_map]; omega)) (by rw [lhs_lst]; rfl)) ev_nilA nf) (datsOf_cons (dat_lst _) datsOf_nil) tup_lst rk_lst
    have := ev_lc1 (s := st ns J t n L a5 a6 (some (.lst ((nl ord).map .imm))) a8 a9 a10 a11 (im1 (nd s)) a13 a14 a15 none) (s1 := st ns J t n L a5 a6 (some (.lst ((nl ord).map .imm))) a8 a9 a10 a11 (im1 (nd s)) a13 a14 a15 none) (t := .nm 17) (own := [17]) (be := false) (fi := itP (op2E ixK lvB false (varE 4) (varE 12))) (fe := idxE false (varE 7) (consA false (varE 17) nilA)) (gd L s) (fun o => .imm (nd o)) (st ns J t n L a5 a6 (some (.lst ((nl ord).map .imm))) a8 a9 a10 a11 (im1 (nd s)) a13 a14 a15 none).sl (fun o => .imm (nd (ord.idxOf o))) (fun o => (st ns J t n L a5 a6 (some (.lst ((nl ord).map .imm))) a8 a9 a10 a11 (im1 (nd s)) a13 a14 a15 none).sl.set 17 (im1 (nd o))) (it_row rfl rfl (by omega)) rfl (st_nl g rfl none rfl) ?_ rfl (fun _ _ => rfl) (fun _ _ => rfl) rfl (fun _ _ => rfl) (fun o ho' => ?_) ?_ ?_
    · rw [mapc fun o => nd (ord.idxOf o)] at this
      rw [show nl ((gd L s).map fun o => ord.idxOf o) = (gd L s).map fun o => nd (ord.idxOf o) by rw [nl, List.map_map]; rfl]
      exact this
    · rw [mapc nd]; exact nlAll_imm _
    · rw [show (.imm (nd (ord.idxOf o)) : LV) = .imm (.int ((ord.map fun (x : Nat) => (x : Int)).idxOf (o : Int))) by rw [idx_cast]]
      exact ev_idx (ev_v rfl rv_lst) nf rfl (ev_consA (ev_v rfl rfl) ev_nilA nf) (asInts_nl ord) (List.mem_map.mpr ⟨o, hm o (W.lt _ _ ho'), rfl⟩)
    · simp only [sizeLine]; omega
    · rw [mapc fun o => nd (ord.idxOf o)]; exact nlAll_imm _
  · simp only [sizeLine]; omega
  · rw [mapc fun s => rowT (sortN ((gd L s).map fun o => ord.idxOf o))]; exact nlAll_imm _
theorem ordE {ns : List Int} {J : Jar} {t n : Nat} {L M : Lg} {ord : List Nat} (W : Wf n L) (hn : n ≤ 8) (ho : ord.Perm (List.range n)) (hM : ∀ s, s < n → (ways M s).length = (ways L (og ord s)).length) {a5 a8 a9 a10 a11 a13 a14 a15 : Option LV} (g : Gs a5 (some (.lst ((ptsD L n).map .imm))) (some (.lst ((nl ord).map .imm))) a8 a9 a10 a11 a13 a14 a15) :
    lcE [12] false (.nm 12) (itP (varE 7)) tyE (op2E ixK lvB false (varE 6) (varE 12)) (st ns J t n L a5 (some (.lst ((ptsD L n).map .imm))) (some (.lst ((nl ord).map .imm))) a8 a9 a10 a11 none a13 a14 a15 none) = .ok (.lst ((ptsD M n).map .imm), st ns J t n L a5 (some (.lst ((ptsD L n).map .imm))) (some (.lst ((nl ord).map .imm))) a8 a9 a10 a11 none a13 a14 a15 none) := by
  have hol : ord.length = n := by rw [ho.length_eq, List.length_range]
  have e : ptsD M n = ord.map fun s => .int (ways L s).length := by
    have : ptsI M n = ord.map fun s => ((ways L s).length : Int) := by
      rw [← og_map hol fun s => ((ways L s).length : Int)]
      refine List.map_congr_left fun s hs => ?_
      rw [hM s (List.mem_range.mp hs)]
    rw [ptsD, this, map_intF]
  rw [e]
  have := ev_lcf (s := st ns J t n L a5 (some (.lst ((ptsD L n).map .imm))) (some (.lst ((nl ord).map .imm))) a8 a9 a10 a11 none a13 a14 a15 none) (s1 := st ns J t n L a5 (some (.lst ((ptsD L n).map .imm))) (some (.lst ((nl ord).map .imm))) a8 a9 a10 a11 none a13 a14 a15 none) (t := .nm 12) (own := [12]) (fi := itP (varE 7)) (fl := true) (fe := op2E ixK lvB false (varE 6) (varE 12)) ord (fun s => .imm (nd s)) (st ns J t n L a5 (some (.lst ((ptsD L n).map .imm))) (some (.lst ((nl ord).map .imm))) a8 a9 a10 a11 none a13 a14 a15 none).sl (fun s => .imm (.int (ways L s).length)) (fun s => (st ns J t n L a5 (some (.lst ((ptsD L n).map .imm))) (some (.lst ((nl ord).map .imm))) a8 a9 a10 a11 (im1 (nd s)) a13 a14 a15 none).sl) (it_ord rfl) rfl (st_nl g rfl none rfl) ?_ rfl (fun _ _ => rfl) (fun _ _ => rfl) rfl (fun _ _ => rfl) (fun s hs => ?_) ?_ ?_
  · rw [mapc fun s => PyData.int (ways L s).length] at this
    exact this
  · rw [mapc nd]; exact nlAll_imm _
  · have hsn : s < n := List.mem_range.mp (ho.subset hs)
    refine ev_op (x := .lent (.list (ptsD L n))) (y := .imm (nd s)) (ev_v rfl rv_lst) (ev_v rfl rfl) rfl rfl (ixK_lst (k := s) (d := .int (ways L s).length) ?_) lvB_int nf
    simp [ptsD, ptsI, hsn]
  · simp only [sizeLine]; omega
  · rw [mapc fun s => PyData.int (ways L s).length]; exact nlAll_imm _
def lb (cf : CF) : LS → SR :=
  (seqS (setS1 3 (op2E (bopD .Add) lvB true (cE (.int 1)) (callEE cf 1 (slotC 1 (consC false (cE (.int 8)) nilC)))))
  (seqS (setS1 4 (callEE cf 5 (slotC 1 (consC false (varE 3) nilC))))
  (seqS (asgS (.tp (.cons (.nm 9) (.cons (.nm 10) .nil))) (tupE (consA false (biE (biD .repr) (consA false (varE 4) nilA)) (consA false (callEE cf 10 (consC false (varE 4) nilC)) nilA))))
  (seqS (setS1 5 (iteE (op2E (cmpK .Eq) lvC false (varE 2) (cE (.int 1))) (callEE cf 14 (consC false (varE 4) nilC)) (callEE cf 14 (consC false (varE 4) nilC))))
  (seqS (ifS (tstE (orE (op2E (cmpK .NotEq) lvC false (biE (biD .repr) (consA false (varE 5) nilA)) (biE (biD .repr) (consA false (biE (biD .len) (consA false (varE 10) nilA)) nilA))) (op2E (cmpK .NotEq) lvC false (biE (biD .repr) (consA false (varE 5) nilA)) (biE (biD .repr) (consA false (callEE cf 18 (consC false (varE 4) nilC)) nilA))))) (retS (cE (.bool false))) nxtS)
  (seqS (setS1 6 (lcE [12] false (.nm 12) (itR true (consA false (varE 3) nilA)) tyE (iteE (op2E (cmpK .Eq) lvC false (varE 2) (cE (.int 2))) (callEE cf 25 (namesC [4, 12])) (callEE cf 25 (consC false (varE 4) (consC false (varE 12) nilC))))))
  (seqS (ifS (tstE (op2E (cmpK .NotEq) lvC false (biE (biD .repr) (consA false (varE 6) nilA)) (biE (biD .repr) (consA false (lcE [12] false (.nm 12) (itR true (consA false (varE 3) nilA)) tyE (biE (biD .len) (consA false (lcE [16] false (.nm 16) (itP (varE 10)) (tstE (op2E (cmpK .In) lvC false (varE 12) (varE 16))) (varE 16)) nilA))) nilA)))) (retS (cE (.bool false))) nxtS)
  (seqS (ifS (tstE (orE (op2E (cmpK .NotEq) lvC false (biE (biD .sum) (consA false (varE 6) nilA)) (op2E (bopD .Mult) lvB false (cE (.int 3)) (varE 5))) (op2E (cmpK .NotEq) lvC false (biE (biD .repr) (consA false (varE 4) nilA)) (varE 9)))) (retS (cE (.bool false))) nxtS)
  (seqS (setS1 7 (callEE cf 2 (slotC 1 (consC false (lrE (varE 3)) nilC))))
  (seqS (setS1 8 (biE (biD .tuple) (consA false (lcE [12] false (.nm 12) (itP (varE 7)) tyE (biE (biD .tuple) (consA false (biE (biD .sorted) (consA false (lcE [17] false (.nm 17) (itP (op2E ixK lvB false (varE 4) (varE 12))) tyE (idxE false (varE 7) (consA false (varE 17) nilA))) nilA)) nilA))) nilA)))
  (seqS (ifS (tstE (notE (callEE cf 26 (consC false (varE 8) (consC false (varE 5) (consC false (lcE [12] false (.nm 12) (itP (varE 7)) tyE (op2E ixK lvB false (varE 6) (varE 12))) nilC)))))) (retS (cE (.bool false))) nxtS)
  (ifS (tstE (op2E (cmpK .NotEq) lvC false (varE 10) (tupE nilA))) (seqS (asgS (.tp (.cons (.nm 13) (.cons (.nm 14) (.cons (.nm 15) .nil)))) (callEE cf 6 (slotC 1 (consC false (biE (biD .list) (consA false (varE 10) nilA)) nilC))))
  (seqS (setS1 8 (callEE cf 9 (consC false (varE 4) (consC false (lstE (consA false (tupE (consA false (varE 13) (consA false (varE 14) nilA))) (consA false (tupE (consA false (varE 14) (consA false (varE 15) nilA))) (consA false (tupE (consA false (varE 13) (consA false (varE 15) nilA))) nilA)))) nilC))))
  (seqS (setS1 11 (callEE cf 10 (consC false (varE 8) nilC)))
  (ifS (tstE (notE (callEE cf 26 (consC false (varE 8) (consC false (varE 5) (consC false (lcE [12] false (.nm 12) (itR true (consA false (varE 3) nilA)) tyE (biE (biD .len) (consA false (lcE [16] false (.nm 16) (itP (varE 11)) (tstE (op2E (cmpK .In) lvC false (varE 12) (varE 16))) (varE 16)) nilA))) nilC)))))) (retS (cE (.bool false))) nxtS)))) nxtS))))))))))))
def l0 (ns : List Int) (J : Jar) (t a3 a4 a5 a6 a7 a8 a9 a10 a11 a13 a14 a15 : Option LV) : LS := ⟨[im1 (scrD ns), some J.lv, t, a3, a4, a5, a6, a7, a8, a9, a10, a11, none, a13, a14, a15, none, none], []⟩
theorem bind3 {sl : List (Option LV)} {i j k : Nat} {p : Tri} (hi : i < sl.length) (hj : j < sl.length) (hk : k < sl.length) : bindT (.tp (.cons (.nm i) (.cons (.nm j) (.cons (.nm k) .nil)))) (.imm (td p)) sl = some (((sl.set i (im1 (nd p.1))).set j (im1 (nd p.2.1))).set k (im1 (nd p.2.2))) := by
  simp [bindT, MP.bindL, LV.parts, hi, hj, hk]
theorem bind2 {sl : List (Option LV)} {i j : Nat} {d e : PyData} (hi : i < sl.length) (hj : j < sl.length) : bindT (.tp (.cons (.nm i) (.cons (.nm j) .nil))) (.imm (.tuple [d, e])) sl = some ((sl.set i (im1 d)).set j (im1 e)) := by
  simp [bindT, MP.bindL, LV.parts, hi, hj]
theorem lb_ev {cf : CF} (D : DrawS cf) (Mx : MixS cf) (Lg_ : LeagS cf) (Rg : RingS cf 10) (Ct : CountS cf) (LC : LCountS cf) (Rw : RWithS cf) (Ps : PartsS cf) (Pk : PickS cf) (Wt : WithS cf) {ns : List Int} {J : Jar} {k t : Nat} (h : Jok k J) (hk : k ≤ 2 ^ 20) {a3 a4 a5 a6 a7 a8 a9 a10 a11 a13 a14 a15 : Option LV} (g : Gs a5 a6 a7 a8 a9 a10 a11 a13 a14 a15) :
    ∃ J' n L b5 b6 b7 b8 b9 b10 b11 b13 b14 b15, Jok (k + 2000) J' ∧ Gs b5 b6 b7 b8 b9 b10 b11 b13 b14 b15 ∧ lb cf (l0 ns J (im1 (nd t)) a3 a4 a5 a6 a7 a8 a9 a10 a11 a13 a14 a15) = .nxt (st ns J' t n L b5 b6 b7 b8 b9 b10 b11 none b13 b14 b15 none) := by
  obtain ⟨v, J1, hv, h1, e1⟩ := D h (m := 8) (by omega) (by decide) (by decide)
  obtain ⟨n, hn⟩ : ∃ n, n = 1 + v := ⟨_, rfl⟩
  have hn8 : n ≤ 8 := by omega
  have hn20 : n ≤ 20 := by omega
  obtain ⟨L, J2, W, Q, h2, e2⟩ := Lg_ h1 (by omega) hn20
  have hl := W.len
  have wl : ∀ x, (gd L x).length ≤ 100 := fun x => by have := wf_len W x; omega
  have sL := sh_lg W hn20
  have cb := cnt_bound W Q hn8
  have lr := len_ring W Q
  have sC := sh_int (i := cntM L) (by omega) (by omega)
  have sP := sh_pts W Q hn8
  have sp := sum_parts W
  obtain ⟨out, J3, hp, h3, e3⟩ := Mx h2 (ds := nl (List.range n)) (by simp [nl]; omega) (by simp [nl]; omega) (fun xs hx => okD_nds fun d hd => nl_mem (hx d hd))
  obtain ⟨ord, rfl, ho⟩ := perm_nl hp
  rw [show (nl (List.range n)).length = n by simp [nl]] at h3
  have T' := rel_tn W ho
  have W' : Wf n ((relM L ord).map sortN) := shut_wf T'
  have Q' : Tot n ((relM L ord).map sortN) := shut_tot (rel_tot W Q ho)
  have hM : ∀ x y, y ∈ gd ((relM L ord).map sortN) x ↔ x < n ∧ y < n ∧ og ord y ∈ gd L (og ord x) := fun x y => by
    rw [gd_map sortN (by simp [sortN]), (sortN_perm _).mem_iff]
    exact mem_rel W ho
  have cM := cnt_rel W Q W' Q' ho hM
  have wM := fun s (hs : s < n) => ways_rel W W'.tn ho hM hs
  have p1 := Ps W' Q' hn8
  rw [cM] at p1
  generalize hMM : (relM L ord).map sortN = M at W' Q' hM cM wM p1
  have fr := fun {J : Jar} {a5 a6 a8 a9 a10 a11 a13 a14 a15 : Option LV} => freshE (ns := ns) (J := J) (t := t) (a5 := a5) (a6 := a6) (a8 := a8) (a9 := a9) (a10 := a10) (a11 := a11) (a13 := a13) (a14 := a14) (a15 := a15) W hn8 ho
  rw [hMM] at fr
  let tL := (lgD L).shown
  -- the states
  let c9 := im1 (.str tL)
  let c10 := im1 (ringsD L)
  let c5 := im1 (.int (cntM L))
  let c6 : Option LV := some (.lst ((ptsD L n).map .imm))
  let c7 : Option LV := some (.lst ((nl ord).map .imm))
  let S4 := st ns J2 t n L a5 a6 a7 a8 a9 a10 a11 none a13 a14 a15 none
  let Sc := st ns J2 t n L a5 a6 a7 a8 c9 c10 a11 none a13 a14 a15 none
  let Sd := st ns J2 t n L c5 a6 a7 a8 c9 c10 a11 none a13 a14 a15 none
  let Sf := st ns J2 t n L c5 c6 a7 a8 c9 c10 a11 none a13 a14 a15 none
  let Si := st ns J3 t n L c5 c6 c7 a8 c9 c10 a11 none a13 a14 a15 none
  let Sj := st ns J3 t n L c5 c6 c7 (im1 (lgD M)) c9 c10 a11 none a13 a14 a15 none
  have gd1 : Gs c5 a6 a7 a8 c9 c10 a11 a13 a14 a15 := ⟨rfl, g.h6, g.h7, g.h8, rfl, rfl, g.h11, g.h13, g.h14, g.h15⟩
  have gf : Gs c5 c6 a7 a8 c9 c10 a11 a13 a14 a15 := ⟨rfl, nl_lst _, g.h7, g.h8, rfl, rfl, g.h11, g.h13, g.h14, g.h15⟩
  have gi : Gs c5 c6 c7 a8 c9 c10 a11 a13 a14 a15 := ⟨rfl, nl_lst _, nl_lst _, g.h8, rfl, rfl, g.h11, g.h13, g.h14, g.h15⟩
  have gj : Gs c5 c6 c7 (im1 (lgD M)) c9 c10 a11 a13 a14 a15 := ⟨rfl, nl_lst _, nl_lst _, rfl, rfl, rfl, g.h11, g.h13, g.h14, g.h15⟩
  have call1 : ∀ {s : LS} {f i : Nat} {r : PyData}, s.sl[i]? = some (im1 (lgD L)) → cf f [.imm (lgD L)] = .ok (.imm r) [] → callEE cf f (consC false (varE i) nilC) s = .ok (.imm r, s) := fun hi hc => ev_call0 (ev_consC (ev_v hi rfl) ev_nilC nf) (argsOf_dat rfl argsOf_nil) rfl (.inl rfl) hc rfl
  have main : ∀ {R : SR}, (ifS (tstE (op2E (cmpK .NotEq) lvC false (varE 10) (tupE nilA))) (seqS (asgS (.tp (.cons (.nm 13) (.cons (.nm 14) (.cons (.nm 15) .nil)))) (callEE cf 6 (slotC 1 (consC false (biE (biD .list) (consA false (varE 10) nilA)) nilC))))
      (seqS (setS1 8 (callEE cf 9 (consC false (varE 4) (consC false (lstE (consA false (tupE (consA false (varE 13) (consA false (varE 14) nilA))) (consA false (tupE (consA false (varE 14) (consA false (varE 15) nilA))) (consA false (tupE (consA false (varE 13) (consA false (varE 15) nilA))) nilA)))) nilC))))
      (seqS (setS1 11 (callEE cf 10 (consC false (varE 8) nilC)))
      (ifS (tstE (notE (callEE cf 26 (consC false (varE 8) (consC false (varE 5) (consC false (lcE [12] false (.nm 12) (itR true (consA false (varE 3) nilA)) tyE (biE (biD .len) (consA false (lcE [16] false (.nm 16) (itP (varE 11)) (tstE (op2E (cmpK .In) lvC false (varE 12) (varE 16))) (varE 16)) nilA))) nilC)))))) (retS (cE (.bool false))) nxtS)))) nxtS) Sj = R →
      lb cf (l0 ns J (im1 (nd t)) a3 a4 a5 a6 a7 a8 a9 a10 a11 a13 a14 a15) = R := by
    intro R hR
    refine st_seq (s1 := l0 ns J1 (im1 (nd t)) (im1 (nd n)) a4 a5 a6 a7 a8 a9 a10 a11 a13 a14 a15) (st_set2 (x := .imm (nd n)) (s1 := l0 ns J1 (im1 (nd t)) a3 a4 a5 a6 a7 a8 a9 a10 a11 a13 a14 a15) ?_ rfl ltl rfl) ?_
    · rw [show (.imm (nd n) : LV) = .imm (.int (1 + (v : Int))) by rw [hn]; simp [nd]]
      exact ev_op (x := .imm (.int 1)) (y := .imm (nd v)) (s1 := l0 ns J (im1 (nd t)) a3 a4 a5 a6 a7 a8 a9 a10 a11 a13 a14 a15) ev_c (ev_call2 (s1 := l0 ns J (im1 (nd t)) a3 a4 a5 a6 a7 a8 a9 a10 a11 a13 a14 a15) (ev_slotC rfl (ev_consC ev_c ev_nilC nf)) (argsOf_slot rfl (jar_giv _) (argsOf_dat rfl argsOf_nil)) rfl rfl e1 rfl (jar_nl _) rfl) rfl rfl (add_int _ _) lvB_int (fun _ => rfl)
    refine st_seq (s1 := S4) (st_set2 (x := .imm (lgD L)) (s1 := l0 ns J2 (im1 (nd t)) (im1 (nd n)) a4 a5 a6 a7 a8 a9 a10 a11 a13 a14 a15) (ev_call2 (s1 := l0 ns J1 (im1 (nd t)) (im1 (nd n)) a4 a5 a6 a7 a8 a9 a10 a11 a13 a14 a15) (ev_slotC rfl (ev_consC (ev_v rfl rfl) ev_nilC nf)) (argsOf_slot rfl (jar_giv _) (argsOf_dat rfl argsOf_nil)) rfl rfl e2 rfl (jar_nl _) rfl) rfl ltl rfl) ?_
    refine st_seq (s1 := Sc) (st_asg2 (x := .imm (.tuple [.str tL, ringsD L])) (s1 := S4) (ev_tup (ev_consA (rep1 rfl sL) (ev_consA (call1 rfl (Rg W hn20)) ev_nilA nf) nf) len2 mk_imm2) rfl (bind2 ltl ltl) rfl) ?_
    refine st_seq (s1 := Sd) (st_set2 (x := .imm (.int (cntM L))) (s1 := Sc) (ev_ite (ev_op (ev_v rfl rfl) ev_c rfl rfl (eq_int _ _) rfl nf) (fun _ => call1 rfl (Ct (by omega) wl)) fun _ => call1 rfl (Ct (by omega) wl)) rfl ltl rfl) ?_
    refine st_seq (s1 := Sd) (st_if (b := false) (s1 := Sd) (ev_tst (ev_or (b := false) (c := false) ?_ fun _ => ?_)) (fun z => nomatch z) fun _ => rfl) ?_
    · refine neS (rep1 rfl sC) (repE (d := .int (cntM L)) (ev_bi (ev_consA (ev_v rfl rfl) ev_nilA nf) rfl len_tup (by rw [List.length_map, lr]; exact rk_int)) sC) rfl
    · exact neS (rep1 rfl sC) (repE (call1 rfl (LC (by omega) wl)) sC) rfl
    refine st_seq (s1 := Sf) (st_set2 (x := .lst ((ptsD L n).map .imm)) (s1 := Sd) ?_ (nl_lst _) ltl rfl) ?_
    · have := ev_lc1 (s := Sd) (s1 := Sd) (t := .nm 12) (own := [12]) (be := false) (fi := itR true (consA false (varE 3) nilA)) (fe := iteE (op2E (cmpK .Eq) lvC false (varE 2) (cE (.int 2))) (callEE cf 25 (namesC [4, 12])) (callEE cf 25 (consC false (varE 4) (consC false (varE 12) nilC)))) (List.range n) (fun s => .imm (nd s)) Sd.sl (fun s => .imm (.int (ways L s).length)) (fun s => (st ns J2 t n L c5 a6 a7 a8 c9 c10 a11 (im1 (nd s)) a13 a14 a15 none).sl) (rng_0 rfl (by omega)) rfl (st_nl gd1 rfl none rfl) ?_ rfl (fun _ _ => rfl) (fun _ _ => rfl) rfl (fun _ _ => rfl) (fun s hs => ?_) ?_ ?_
      · rw [pts_map] at this
        exact this
      · rw [mapc nd]; exact nlAll_imm _
      · have hc : callEE cf 25 (consC false (varE 4) (consC false (varE 12) nilC)) ⟨(st ns J2 t n L c5 a6 a7 a8 c9 c10 a11 (im1 (nd s)) a13 a14 a15 none).sl, Sd.ob⟩ = .ok (.imm (.int (ways L s).length), ⟨(st ns J2 t n L c5 a6 a7 a8 c9 c10 a11 (im1 (nd s)) a13 a14 a15 none).sl, Sd.ob⟩) := ev_call0 (ev_consC (ev_v rfl rfl) (ev_consC (ev_v rfl rfl) ev_nilC nf) nf) (argsOf_dat rfl (argsOf_dat rfl argsOf_nil)) rfl (.inl rfl) (Rw W hn20 (List.mem_range.mp hs)) rfl
        exact ev_ite (ev_op (ev_v rfl rfl) ev_c rfl rfl (eq_int _ _) rfl nf) (fun _ => hc) fun _ => hc
      · simp only [List.length_range, sizeLine]; omega
      · rw [pts_map]; exact nlAll_imm _
    refine st_seq (s1 := Sf) (st_if (b := false) (s1 := Sf) (ev_tst (neS (repX (d := .list (ptsD L n)) (ev_v rfl rv_lst) rfl sP) (repX (d := .list (ptsD L n)) (partsE10 W hn8 rfl gf) (dat_lst _) sP) rfl)) (fun z => nomatch z) fun _ => rfl) ?_
    refine st_seq (s1 := Sf) (st_if (b := false) (s1 := Sf) (ev_tst (ev_or (b := false) (c := false) ?_ fun _ => ?_)) (fun z => nomatch z) fun _ => rfl) ?_
    · refine neI (t := (ptsI L n).sum) (u := 3 * cntM L) (ev_bi (ds := [.list (ptsD L n)]) (ev_consA (ev_v rfl rv_lst) ev_nilA nf) rfl (sum_int _) rk_int) (ev_op ev_c (ev_v rfl rfl) rfl rfl (mul_int (mulOk_of 2 10 (by decide) (by omega) (by decide))) rfl nf) ?_
      have : (ptsI L n).sum = su n fun s => ((ways L s).length : Int) := rfl
      omega
    · exact neS (rep1 rfl sL) (ev_v rfl rfl) rfl
    refine st_seq (s1 := Si) (st_set2 (x := .lst ((nl ord).map .imm)) (s1 := st ns J3 t n L c5 c6 a7 a8 c9 c10 a11 none a13 a14 a15 none) (ev_call2 (xs := [J2.lv, .imm (.list (nl (List.range n)))]) (s1 := Sf) (ev_slotC rfl (ev_consC (x := .lst ((nl (List.range n)).map .imm)) ?_ ev_nilC nf)) (argsOf_slot rfl (jar_giv _) (argsOf_dat (dat_lst _) argsOf_nil)) rfl (lhs_lst _) e3 (nl_lst _) (jar_nl _) rfl) (nl_lst _) ltl rfl) ?_
    · rw [← rng0]
      exact ev_lr (ev_v rfl rfl) (by simp only [rgOk, decide_eq_true_eq]; omega)
    refine st_seq (s1 := Sj) (st_set2 (x := .imm (lgD M)) (s1 := Si) (fr gi) rfl ltl rfl) ?_
    refine st_seq (s1 := Sj) (st_if (b := false) (s1 := Sj) (ev_tst (ev_not (b := true) (ev_call0 (as := [.dat (.imm (lgD M)), .dat (.imm (.int (cntM L))), .dat (.lst ((ptsD M n).map .imm))]) (ev_consC (ev_v rfl rfl) (ev_consC (ev_v rfl rfl) (ev_consC (ordE W hn8 ho wM gj) ev_nilC nf) nf) nf) (argsOf_dat rfl (argsOf_dat rfl (argsOf_dat (dat_lst _) argsOf_nil))) rfl (.inr rfl) p1 rfl))) (fun z => nomatch z) fun _ => rfl) hR
  have t10 : tstE (op2E (cmpK .NotEq) lvC false (varE 10) (tupE nilA)) Sj = .ok (!((ringsM L).map td).isEmpty, Sj) :=
    ev_tst (ev_op (y := .imm (.tuple [])) (ev_v rfl rfl) (ev_tup ev_nilA len0 rfl) rfl rfl (ne_tup (okD_sh (sh_rings W hn20) (by decide))) rfl nf)
  by_cases hE : ringsM L = []
  · refine ⟨J3, n, L, c5, c6, c7, im1 (lgD M), c9, c10, a11, a13, a14, a15, h3.mono (by omega), gj, main (st_if (b := false) (s1 := Sj) ?_ (fun z => nomatch z) fun _ => rfl)⟩
    rw [hE] at t10
    exact t10
  · have hpos : 0 < ((ringsM L).map td).length := by rw [List.length_map]; exact List.length_pos_iff.mpr hE
    have hlen := ringsM_len W hn20
    obtain ⟨d, J4, hd, h4, e4⟩ := Pk h3 (by omega) hpos (by rw [List.length_map]; omega)
    obtain ⟨p, hp', rfl⟩ := List.mem_map.mp hd
    obtain ⟨r1, r2, r3, _, _⟩ := mem_ringsM.mp hp'
    obtain ⟨o2, o3, T1, T2, T3⟩ := turn3 W.tn r1 r2 r3
    have ok : turnsOk L [(p.1, p.2.1), (p.2.1, p.2.2), (p.1, p.2.2)] := ⟨.inl r1, .inl o2, .inr o3, trivial⟩
    have e5 := Wt W.tn (by omega) ok
    have V : Wf n ((turnsM L [(p.1, p.2.1), (p.2.1, p.2.2), (p.1, p.2.2)]).map sortN) := shut_wf T3
    have VQ : Tot n ((turnsM L [(p.1, p.2.1), (p.2.1, p.2.2), (p.1, p.2.2)]).map sortN) := shut_tot (turn_tot T2 (turn_tot T1 (turn_tot W.tn Q (.inl r1)) (.inl o2)) (.inr o3))
    have vc : cntM ((turnsM L [(p.1, p.2.1), (p.2.1, p.2.2), (p.1, p.2.2)]).map sortN) = cntM L := by
      rw [cnt_congr (n := n) T3.len (by rw [List.length_map]; exact T3.len) fun x => by rw [gd_map sortN (by simp [sortN]), (sortN_perm _).length_eq]; rfl]
      exact ring_cnt W.tn r1 r2 r3
    have p2 := Ps V VQ hn8
    rw [vc] at p2
    generalize (turnsM L [(p.1, p.2.1), (p.2.1, p.2.2), (p.1, p.2.2)]).map sortN = N at e5 V VQ vc p2
    let Sk := st ns J4 t n L c5 c6 c7 (im1 (lgD M)) c9 c10 a11 none (im1 (nd p.1)) (im1 (nd p.2.1)) (im1 (nd p.2.2)) none
    let Sl := st ns J4 t n L c5 c6 c7 (im1 (lgD N)) c9 c10 a11 none (im1 (nd p.1)) (im1 (nd p.2.1)) (im1 (nd p.2.2)) none
    let Sm := st ns J4 t n L c5 c6 c7 (im1 (lgD N)) c9 c10 (im1 (ringsD N)) none (im1 (nd p.1)) (im1 (nd p.2.1)) (im1 (nd p.2.2)) none
    have gm : Gs c5 c6 c7 (im1 (lgD N)) c9 c10 (im1 (ringsD N)) (im1 (nd p.1)) (im1 (nd p.2.1)) (im1 (nd p.2.2)) := ⟨rfl, nl_lst _, nl_lst _, rfl, rfl, rfl, rfl, rfl, rfl, rfl⟩
    refine ⟨J4, n, L, c5, c6, c7, im1 (lgD N), c9, c10, im1 (ringsD N), im1 (nd p.1), im1 (nd p.2.1), im1 (nd p.2.2), h4.mono (by omega), gm, main (st_if (b := true) (s1 := Sj) ?_ (fun _ => ?_) fun z => nomatch z)⟩
    · have : (!((ringsM L).map td).isEmpty) = true := by
        cases hq : ringsM L with
        | nil => exact absurd hq hE
        | cons _ _ => rfl
      rw [this] at t10
      exact t10
    · refine st_seq (s1 := Sk) (st_asg2 (x := .imm (td p)) (s1 := st ns J4 t n L c5 c6 c7 (im1 (lgD M)) c9 c10 a11 none a13 a14 a15 none) ?_ rfl (bind3 ltl ltl ltl) rfl) (st_seq (s1 := Sl) (st_set2 (x := .imm (lgD N)) (s1 := Sk) ?_ rfl ltl rfl) (st_seq (s1 := Sm) (st_set2 (x := .imm (ringsD N)) (s1 := Sl) (ev_call0 (ev_consC (ev_v rfl rfl) ev_nilC nf) (argsOf_dat rfl argsOf_nil) rfl (.inl rfl) (Rg V hn20) rfl) rfl ltl rfl) (st_if (b := false) (s1 := Sm) (ev_tst (ev_not (b := true) (ev_call0 (as := [.dat (.imm (lgD N)), .dat (.imm (.int (cntM L))), .dat (.lst ((ptsD N n).map .imm))]) (ev_consC (ev_v rfl rfl) (ev_consC (ev_v rfl rfl) (ev_consC (partsE11 V hn8 rfl gm) ev_nilC nf) nf) nf) (argsOf_dat rfl (argsOf_dat rfl (argsOf_dat (dat_lst _) argsOf_nil))) rfl (.inr rfl) p2 rfl))) (fun z => nomatch z) fun _ => rfl)))
      · exact ev_call2 (s1 := Sj) (ev_slotC rfl (ev_consC (x := .lst (((ringsM L).map td).map .imm)) (ev_bi (ev_consA (ev_v rfl rfl) ev_nilA nf) rfl lst_tup rk_nl) ev_nilC nf)) (argsOf_slot rfl (jar_giv _) (argsOf_dat (dat_lst _) argsOf_nil)) rfl (lhs_lst _) e4 rfl (jar_nl _) rfl
      · exact ev_call0 (as := [.dat (.imm (lgD L)), .dat (.lst ([pd (p.1, p.2.1), pd (p.2.1, p.2.2), pd (p.1, p.2.2)].map .imm))]) (ev_consC (ev_v rfl rfl) (ev_consC (ev_lst (ev_consA (ev_tup (ev_consA (ev_v rfl rfl) (ev_consA (ev_v rfl rfl) ev_nilA nf) nf) len2 mk_imm2) (ev_consA (ev_tup (ev_consA (ev_v rfl rfl) (ev_consA (ev_v rfl rfl) ev_nilA nf) nf) len2 mk_imm2) (ev_consA (ev_tup (ev_consA (ev_v rfl rfl) (ev_consA (ev_v rfl rfl) ev_nilA nf) nf) len2 mk_imm2) ev_nilA nf) nf) nf) len3) ev_nilC nf) nf) (argsOf_dat rfl (argsOf_dat (dat_lst _) argsOf_nil)) rfl (.inl rfl) e5 rfl
theorem law_ev {cf : CF} (Ja : JarS cf) (D : DrawS cf) (Mx : MixS cf) (Lg_ : LeagS cf) (Rg : RingS cf 10) (Ct : CountS cf) (LC : LCountS cf) (Rw : RWithS cf) (Ps : PartsS cf) (Pk : PickS cf) (Wt : WithS cf) {ns : List Int} (hl : ns.length ≤ 63) {B : Nat} (hB : B ≤ 5000000) (hb : ∀ n ∈ ns, n.natAbs < 2 ^ B) :
    runB 1 18 [] (b_law cf) [.imm (scrD ns)] = .ok (.imm (.bool true)) [] := by
  obtain ⟨J, hJ, eJ⟩ := Ja hl hB hb
  have loop := forL_run (t := .nm 2) (body := lb cf) (fun a => .imm (nd a)) (fun done s => ∃ J a2 a3 a4 a5 a6 a7 a8 a9 a10 a11 a13 a14 a15, s = l0 ns J a2 a3 a4 a5 a6 a7 a8 a9 a10 a11 a13 a14 a15 ∧ Jok (2000 * done.length) J ∧ Gs a5 a6 a7 a8 a9 a10 a11 a13 a14 a15) (as := List.range 7) (done := []) (s := l0 ns J none none none none none none none none none none none none none) ⟨J, _, _, _, _, _, _, _, _, _, _, _, _, _, rfl, hJ, ⟨rfl, rfl, rfl, rfl, rfl, rfl, rfl, rfl, rfl, rfl⟩⟩ ?_
  · obtain ⟨s', el, J', a2, a3, a4, a5, a6, a7, a8, a9, a10, a11, a13, a14, a15, rfl, _⟩ := loop
    refine run_ret2 [im1 (scrD ns), none, none, none, none, none, none, none, none, none, none, none, none, none, none, none, none, none] rfl (x := .imm (.bool true)) rfl rfl (st_seq (s1 := l0 ns J none none none none none none none none none none none none none) (st_set2 (x := J.lv) (s1 := ⟨[im1 (scrD ns), none, none, none, none, none, none, none, none, none, none, none, none, none, none, none, none, none], []⟩) (ev_call0 (ev_consC (ev_v rfl rfl) ev_nilC nf) (argsOf_dat rfl argsOf_nil) rfl (.inl rfl) eJ (jar_nl _)) (jar_nl _) ltl rfl) (st_seq (st_for (s1 := l0 ns J none none none none none none none none none none none none none) (xs := (List.range 7).map fun a => .imm (nd a)) ?_ el) (st_ret ev_c))) rfl rfl
    have := ev_itR1 (s := l0 ns J none none none none none none none none none none none none none) (gA := consA false (cE (.int 7)) nilA) (s1 := l0 ns J none none none none none none none none none none none none none) (j := (7 : Nat)) (ev_consA ev_c ev_nilA nf) (by decide)
    rwa [rng0i] at this
  · rintro pre x rest e s ⟨J, a2, a3, a4, a5, a6, a7, a8, a9, a10, a11, a13, a14, a15, rfl, hj, g⟩
    have e : List.range 7 = pre ++ x :: rest := e
    have hp := pre_len e
    rw [List.length_range] at hp
    obtain ⟨J', n, L, b5, b6, b7, b8, b9, b10, b11, b13, b14, b15, hj', g', eb⟩ := lb_ev D Mx Lg_ Rg Ct LC Rw Ps Pk Wt (ns := ns) (t := x) hj (by omega) (a3 := a3) (a4 := a4) g
    exact ⟨_, rfl, _, .inl eb, J', _, _, _, _, _, _, _, _, _, _, _, _, _, rfl, hj'.mono (by simp; omega), g'⟩
theorem plain {ns : List Int} (hl : ns.length ≤ 63) (hb : ∀ z ∈ ns, Builtin.Int.intBits z ≤ 1048576) : callF P 4 27 [.imm (scrD ns)] = .ok (.imm (.bool true)) [] := by
  obtain ⟨B, hB, hb⟩ : ∃ B : Nat, B ≤ 5000000 ∧ ∀ z ∈ ns, Builtin.Int.intBits z ≤ B := ⟨1048576, by decide, hb⟩
  exact (callF_at (P := P) (n := 3) (fi := 27) (d := d_law) rfl _).trans (law_ev (jarS 2) (drawS 2) (mixS 1) (leagS 0) (lringS 2) (countS 1) (lcountS 2) (rwithS 1) (partsS 0) (pickS 1) (withS 1) hl hB fun z hz => bits_lt (hb z hz))
end Law
namespace Law
open PySem PySem.Spec PyProof.Rows L2 MP
theorem all_mk {Pr : Program} {w : World} {K : PySem.W.Frag} {h : Heap} {mg : Str → Option Value} {fa : Addr} (X : K.In h) (G : h.Ns mainGlobals mg) (hfa : mg "law" = some (.ref fa))
    {oc0 kV0 dc0 pm0 cd0 ct0 : Value} {od0 an0 : Option Addr} {sl0 : Array (Option Value)} {f0 : Addr}
    (a0 : PySem.W.nsIn K mainGlobals "beat" = some (some (.ref f0))) (l0 : K.lookup f0 = some ⟨oc0, od0, .func (PySem.W.fnOf "beat" "beat" (defArgs s_beat) (defBody s_beat) (defScope s_beat) .none kV0 dc0 pm0 an0 cd0 ct0), sl0⟩) (c0 : PySem.W.codeIn K cd0 "beat" = true) (k0 : PySem.W.keepIn K (.ref f0) = true)
    {oc1 kV1 dc1 pm1 cd1 ct1 : Value} {od1 an1 : Option Addr} {sl1 : Array (Option Value)} {f1 : Addr}
    (a1 : PySem.W.nsIn K mainGlobals "wins" = some (some (.ref f1))) (l1 : K.lookup f1 = some ⟨oc1, od1, .func (PySem.W.fnOf "wins" "wins" (defArgs s_wins) (defBody s_wins) (defScope s_wins) .none kV1 dc1 pm1 an1 cd1 ct1), sl1⟩) (c1 : PySem.W.codeIn K cd1 "wins" = true) (k1 : PySem.W.keepIn K (.ref f1) = true)
    {oc2 kV2 dc2 pm2 cd2 ct2 : Value} {od2 an2 : Option Addr} {sl2 : Array (Option Value)} {f2 : Addr}
    (a2 : PySem.W.nsIn K mainGlobals "ring_count" = some (some (.ref f2))) (l2 : K.lookup f2 = some ⟨oc2, od2, .func (PySem.W.fnOf "ring_count" "ring_count" (defArgs s_ring_count) (defBody s_ring_count) (defScope s_ring_count) .none kV2 dc2 pm2 an2 cd2 ct2), sl2⟩) (c2 : PySem.W.codeIn K cd2 "ring_count" = true) (k2 : PySem.W.keepIn K (.ref f2) = true)
    {oc3 kV3 dc3 pm3 cd3 ct3 : Value} {od3 an3 : Option Addr} {sl3 : Array (Option Value)} {f3 : Addr}
    (a3 : PySem.W.nsIn K mainGlobals "rings_with" = some (some (.ref f3))) (l3 : K.lookup f3 = some ⟨oc3, od3, .func (PySem.W.fnOf "rings_with" "rings_with" (defArgs s_rings_with) (defBody s_rings_with) (defScope s_rings_with) .none kV3 dc3 pm3 an3 cd3 ct3), sl3⟩) (c3 : PySem.W.codeIn K cd3 "rings_with" = true) (k3 : PySem.W.keepIn K (.ref f3) = true)
    {oc4 kV4 dc4 pm4 cd4 ct4 : Value} {od4 an4 : Option Addr} {sl4 : Array (Option Value)} {f4 : Addr}
    (a4 : PySem.W.nsIn K mainGlobals "_law_jar" = some (some (.ref f4))) (l4 : K.lookup f4 = some ⟨oc4, od4, .func (PySem.W.fnOf "_law_jar" "_law_jar" (defArgs s__law_jar) (defBody s__law_jar) (defScope s__law_jar) .none kV4 dc4 pm4 an4 cd4 ct4), sl4⟩) (c4 : PySem.W.codeIn K cd4 "_law_jar" = true) (k4 : PySem.W.keepIn K (.ref f4) = true)
    {oc5 kV5 dc5 pm5 cd5 ct5 : Value} {od5 an5 : Option Addr} {sl5 : Array (Option Value)} {f5 : Addr}
    (a5 : PySem.W.nsIn K mainGlobals "_law_draw" = some (some (.ref f5))) (l5 : K.lookup f5 = some ⟨oc5, od5, .func (PySem.W.fnOf "_law_draw" "_law_draw" (defArgs s__law_draw) (defBody s__law_draw) (defScope s__law_draw) .none kV5 dc5 pm5 an5 cd5 ct5), sl5⟩) (c5 : PySem.W.codeIn K cd5 "_law_draw" = true) (k5 : PySem.W.keepIn K (.ref f5) = true)
    {oc6 kV6 dc6 pm6 cd6 ct6 : Value} {od6 an6 : Option Addr} {sl6 : Array (Option Value)} {f6 : Addr}
    (a6 : PySem.W.nsIn K mainGlobals "_law_pick" = some (some (.ref f6))) (l6 : K.lookup f6 = some ⟨oc6, od6, .func (PySem.W.fnOf "_law_pick" "_law_pick" (defArgs s__law_pick) (defBody s__law_pick) (defScope s__law_pick) .none kV6 dc6 pm6 an6 cd6 ct6), sl6⟩) (c6 : PySem.W.codeIn K cd6 "_law_pick" = true) (k6 : PySem.W.keepIn K (.ref f6) = true)
    {oc7 kV7 dc7 pm7 cd7 ct7 : Value} {od7 an7 : Option Addr} {sl7 : Array (Option Value)} {f7 : Addr}
    (a7 : PySem.W.nsIn K mainGlobals "_law_mixed" = some (some (.ref f7))) (l7 : K.lookup f7 = some ⟨oc7, od7, .func (PySem.W.fnOf "_law_mixed" "_law_mixed" (defArgs s__law_mixed) (defBody s__law_mixed) (defScope s__law_mixed) .none kV7 dc7 pm7 an7 cd7 ct7), sl7⟩) (c7 : PySem.W.codeIn K cd7 "_law_mixed" = true) (k7 : PySem.W.keepIn K (.ref f7) = true)
    {oc8 kV8 dc8 pm8 cd8 ct8 : Value} {od8 an8 : Option Addr} {sl8 : Array (Option Value)} {f8 : Addr}
    (a8 : PySem.W.nsIn K mainGlobals "_law_rows" = some (some (.ref f8))) (l8 : K.lookup f8 = some ⟨oc8, od8, .func (PySem.W.fnOf "_law_rows" "_law_rows" (defArgs s__law_rows) (defBody s__law_rows) (defScope s__law_rows) .none kV8 dc8 pm8 an8 cd8 ct8), sl8⟩) (c8 : PySem.W.codeIn K cd8 "_law_rows" = true) (k8 : PySem.W.keepIn K (.ref f8) = true)
    {oc9 kV9 dc9 pm9 cd9 ct9 : Value} {od9 an9 : Option Addr} {sl9 : Array (Option Value)} {f9 : Addr}
    (a9 : PySem.W.nsIn K mainGlobals "_law_shut" = some (some (.ref f9))) (l9 : K.lookup f9 = some ⟨oc9, od9, .func (PySem.W.fnOf "_law_shut" "_law_shut" (defArgs s__law_shut) (defBody s__law_shut) (defScope s__law_shut) .none kV9 dc9 pm9 an9 cd9 ct9), sl9⟩) (c9 : PySem.W.codeIn K cd9 "_law_shut" = true) (k9 : PySem.W.keepIn K (.ref f9) = true)
    {oc10 kV10 dc10 pm10 cd10 ct10 : Value} {od10 an10 : Option Addr} {sl10 : Array (Option Value)} {f10 : Addr}
    (a10 : PySem.W.nsIn K mainGlobals "_law_turn" = some (some (.ref f10))) (l10 : K.lookup f10 = some ⟨oc10, od10, .func (PySem.W.fnOf "_law_turn" "_law_turn" (defArgs s__law_turn) (defBody s__law_turn) (defScope s__law_turn) .none kV10 dc10 pm10 an10 cd10 ct10), sl10⟩) (c10 : PySem.W.codeIn K cd10 "_law_turn" = true) (k10 : PySem.W.keepIn K (.ref f10) = true)
    {oc11 kV11 dc11 pm11 cd11 ct11 : Value} {od11 an11 : Option Addr} {sl11 : Array (Option Value)} {f11 : Addr}
    (a11 : PySem.W.nsIn K mainGlobals "_law_with" = some (some (.ref f11))) (l11 : K.lookup f11 = some ⟨oc11, od11, .func (PySem.W.fnOf "_law_with" "_law_with" (defArgs s__law_with) (defBody s__law_with) (defScope s__law_with) .none kV11 dc11 pm11 an11 cd11 ct11), sl11⟩) (c11 : PySem.W.codeIn K cd11 "_law_with" = true) (k11 : PySem.W.keepIn K (.ref f11) = true)
    {oc12 kV12 dc12 pm12 cd12 ct12 : Value} {od12 an12 : Option Addr} {sl12 : Array (Option Value)} {f12 : Addr}
    (a12 : PySem.W.nsIn K mainGlobals "_law_matches" = some (some (.ref f12))) (l12 : K.lookup f12 = some ⟨oc12, od12, .func (PySem.W.fnOf "_law_matches" "_law_matches" (defArgs s__law_matches) (defBody s__law_matches) (defScope s__law_matches) .none kV12 dc12 pm12 an12 cd12 ct12), sl12⟩) (c12 : PySem.W.codeIn K cd12 "_law_matches" = true) (k12 : PySem.W.keepIn K (.ref f12) = true)
    {oc13 kV13 dc13 pm13 cd13 ct13 : Value} {od13 an13 : Option Addr} {sl13 : Array (Option Value)} {f13 : Addr}
    (a13 : PySem.W.nsIn K mainGlobals "_law_league" = some (some (.ref f13))) (l13 : K.lookup f13 = some ⟨oc13, od13, .func (PySem.W.fnOf "_law_league" "_law_league" (defArgs s__law_league) (defBody s__law_league) (defScope s__law_league) .none kV13 dc13 pm13 an13 cd13 ct13), sl13⟩) (c13 : PySem.W.codeIn K cd13 "_law_league" = true) (k13 : PySem.W.keepIn K (.ref f13) = true)
    {oc14 kV14 dc14 pm14 cd14 ct14 : Value} {od14 an14 : Option Addr} {sl14 : Array (Option Value)} {f14 : Addr}
    (a14 : PySem.W.nsIn K mainGlobals "_law_rings" = some (some (.ref f14))) (l14 : K.lookup f14 = some ⟨oc14, od14, .func (PySem.W.fnOf "_law_rings" "_law_rings" (defArgs s__law_rings) (defBody s__law_rings) (defScope s__law_rings) .none kV14 dc14 pm14 an14 cd14 ct14), sl14⟩) (c14 : PySem.W.codeIn K cd14 "_law_rings" = true) (k14 : PySem.W.keepIn K (.ref f14) = true)
    {oc15 kV15 dc15 pm15 cd15 ct15 : Value} {od15 an15 : Option Addr} {sl15 : Array (Option Value)} {f15 : Addr}
    (a15 : PySem.W.nsIn K mainGlobals "_law_count" = some (some (.ref f15))) (l15 : K.lookup f15 = some ⟨oc15, od15, .func (PySem.W.fnOf "_law_count" "_law_count" (defArgs s__law_count) (defBody s__law_count) (defScope s__law_count) .none kV15 dc15 pm15 an15 cd15 ct15), sl15⟩) (c15 : PySem.W.codeIn K cd15 "_law_count" = true) (k15 : PySem.W.keepIn K (.ref f15) = true)
    {oc16 kV16 dc16 pm16 cd16 ct16 : Value} {od16 an16 : Option Addr} {sl16 : Array (Option Value)} {f16 : Addr}
    (a16 : PySem.W.nsIn K mainGlobals "_law_are_parts" = some (some (.ref f16))) (l16 : K.lookup f16 = some ⟨oc16, od16, .func (PySem.W.fnOf "_law_are_parts" "_law_are_parts" (defArgs s__law_are_parts) (defBody s__law_are_parts) (defScope s__law_are_parts) .none kV16 dc16 pm16 an16 cd16 ct16), sl16⟩) (c16 : PySem.W.codeIn K cd16 "_law_are_parts" = true) (k16 : PySem.W.keepIn K (.ref f16) = true)
    {oc17 kV17 dc17 pm17 cd17 ct17 : Value} {od17 an17 : Option Addr} {sl17 : Array (Option Value)} {f17 : Addr}
    (a17 : PySem.W.nsIn K mainGlobals "law" = some (some (.ref f17))) (l17 : K.lookup f17 = some ⟨oc17, od17, .func (PySem.W.fnOf "law" "law" (defArgs s_law) (defBody s_law) (defScope s_law) .none kV17 dc17 pm17 an17 cd17 ct17), sl17⟩) (c17 : PySem.W.codeIn K cd17 "law" = true) (k17 : PySem.W.keepIn K (.ref f17) = true)
    (z_int : PySem.W.nsIn K mainGlobals "int" = some none)
    (z_len : PySem.W.nsIn K mainGlobals "len" = some none)
    (z_list : PySem.W.nsIn K mainGlobals "list" = some none)
    (z_range : PySem.W.nsIn K mainGlobals "range" = some none)
    (z_repr : PySem.W.nsIn K mainGlobals "repr" = some none)
    (z_sorted : PySem.W.nsIn K mainGlobals "sorted" = some none)
    (z_sum : PySem.W.nsIn K mainGlobals "sum" = some none)
    (z_tuple : PySem.W.nsIn K mainGlobals "tuple" = some none) :
    ∃ fd : FuncData, (∀ (s : Shared) (v : Value), BindsTo s fd ⟨[v], []⟩ [("script", v)]) ∧ ∀ base : Heap, K.In base → base.Ns mainGlobals mg → FnG Pr w K mg base 4 fa fd ["script"] (spF K noXR (callF P 4) 27 1 []) := by
  have e := hfa.symm.trans (PySem.W.mg_of X G a17)
  cases e
  have F0 := fun_mk (st := s_beat) l0 c0 k0
  have F1 := fun_mk (st := s_wins) l1 c1 k1
  have F2 := fun_mk (st := s_ring_count) l2 c2 k2
  have F3 := fun_mk (st := s_rings_with) l3 c3 k3
  have F4 := fun_mk (st := s__law_jar) l4 c4 k4
  have F5 := fun_mk (st := s__law_draw) l5 c5 k5
  have F6 := fun_mk (st := s__law_pick) l6 c6 k6
  have F7 := fun_mk (st := s__law_mixed) l7 c7 k7
  have F8 := fun_mk (st := s__law_rows) l8 c8 k8
  have F9 := fun_mk (st := s__law_shut) l9 c9 k9
  have F10 := fun_mk (st := s__law_turn) l10 c10 k10
  have F11 := fun_mk (st := s__law_with) l11 c11 k11
  have F12 := fun_mk (st := s__law_matches) l12 c12 k12
  have F13 := fun_mk (st := s__law_league) l13 c13 k13
  have F14 := fun_mk (st := s__law_rings) l14 c14 k14
  have F15 := fun_mk (st := s__law_count) l15 c15 k15
  have F16 := fun_mk (st := s__law_are_parts) l16 c16 k16
  have F17 := fun_mk (st := s_law) l17 c17 k17
  have b0 := F0.binds (ps := ["league", "a", "b"]) fun _ _ _ _ _ _ us hl => match us, hl with | [_, _, _], _ => rfl
  have b1 := F1.binds (ps := ["league"]) fun _ _ _ _ _ _ us hl => match us, hl with | [_], _ => rfl
  have b2 := F2.binds (ps := ["league"]) fun _ _ _ _ _ _ us hl => match us, hl with | [_], _ => rfl
  have b3 := F3.binds (ps := ["league", "side"]) fun _ _ _ _ _ _ us hl => match us, hl with | [_, _], _ => rfl
  have b4 := F4.binds (ps := ["script"]) fun _ _ _ _ _ _ us hl => match us, hl with | [_], _ => rfl
  have b5 := F5.binds (ps := ["jar", "many"]) fun _ _ _ _ _ _ us hl => match us, hl with | [_, _], _ => rfl
  have b6 := F6.binds (ps := ["jar", "row"]) fun _ _ _ _ _ _ us hl => match us, hl with | [_, _], _ => rfl
  have b7 := F7.binds (ps := ["jar", "row"]) fun _ _ _ _ _ _ us hl => match us, hl with | [_, _], _ => rfl
  have b8 := F8.binds (ps := ["league"]) fun _ _ _ _ _ _ us hl => match us, hl with | [_], _ => rfl
  have b9 := F9.binds (ps := ["rows"]) fun _ _ _ _ _ _ us hl => match us, hl with | [_], _ => rfl
  have b10 := F10.binds (ps := ["rows", "a", "b"]) fun _ _ _ _ _ _ us hl => match us, hl with | [_, _, _], _ => rfl
  have b11 := F11.binds (ps := ["league", "some"]) fun _ _ _ _ _ _ us hl => match us, hl with | [_, _], _ => rfl
  have b12 := F12.binds (ps := ["n"]) fun _ _ _ _ _ _ us hl => match us, hl with | [_], _ => rfl
  have b13 := F13.binds (ps := ["jar", "n"]) fun _ _ _ _ _ _ us hl => match us, hl with | [_, _], _ => rfl
  have b14 := F14.binds (ps := ["league"]) fun _ _ _ _ _ _ us hl => match us, hl with | [_], _ => rfl
  have b15 := F15.binds (ps := ["league"]) fun _ _ _ _ _ _ us hl => match us, hl with | [_], _ => rfl
  have b16 := F16.binds (ps := ["league", "many", "parts"]) fun _ _ _ _ _ _ us hl => match us, hl with | [_, _, _], _ => rfl
  have b17 := F17.binds (ps := ["script"]) fun _ _ _ _ _ _ us hl => match us, hl with | [_], _ => rfl
  have bk2 : ∀ (s : Shared) (ws : List Value), K.In s.heap → ws.length = 1 → BindsTo s (PySem.W.fnOf "ring_count" "ring_count" (defArgs s_ring_count) (defBody s_ring_count) (defScope s_ring_count) .none kV2 dc2 pm2 an2 cd2 ct2) ⟨[], (["league"] : List Str).zip ws⟩ ((["league"] : List Str).zip ws) := fun s ws _ hl => match ws, hl with | [_], _ => .of_eq rfl
  have bp_Q_rings_with_side_league : ∀ (s : Shared) (ws : List Value), K.In s.heap → ws.length = 2 → BindsTo s (PySem.W.fnOf "rings_with" "rings_with" (defArgs s_rings_with) (defBody s_rings_with) (defScope s_rings_with) .none kV3 dc3 pm3 an3 cd3 ct3) ⟨[], (["side", "league"] : List Str).zip ws⟩ ((["league", "side"] : List Str).zip (permA [1, 0] ws)) := fun s ws _ hl => match ws, hl with | [_, _], _ => .of_eq rfl
  have m_int := PySem.W.mg_none_of X G z_int
  have m_len := PySem.W.mg_none_of X G z_len
  have m_list := PySem.W.mg_none_of X G z_list
  have m_range := PySem.W.mg_none_of X G z_range
  have m_repr := PySem.W.mg_none_of X G z_repr
  have m_sorted := PySem.W.mg_none_of X G z_sorted
  have m_sum := PySem.W.mg_none_of X G z_sum
  have m_tuple := PySem.W.mg_none_of X G z_tuple
  refine ⟨PySem.W.fnOf "law" "law" (defArgs s_law) (defBody s_law) (defScope s_law) .none kV17 dc17 pm17 an17 cd17 ct17, fun s v => .of_eq rfl, fun base _ _ => ?_⟩
  have ok0 : ∀ n : Nat, FnG Pr w K mg base (n + 1) f0 _ ["league", "a", "b"] (spF K noXR (callF P (n + 1)) 11 3 []) := fun n => k_beat noMono (k := n + 0) F0 (callF_at (P := P) (n := n + 0) (d := d_beat) rfl)
  have ok1 : ∀ n : Nat, FnG Pr w K mg base (n + 1) f1 _ ["league"] (spF K noXR (callF P (n + 1)) 12 1 []) := fun n => k_wins noMono (k := n + 0) F1 (callF_at (P := P) (n := n + 0) (d := d_wins) rfl) m_len m_tuple
  have ok4 : ∀ n : Nat, FnG Pr w K mg base (n + 1) f4 _ ["script"] (spF K noXR (callF P (n + 1)) 0 1 []) := fun n => k__law_jar noMono (k := n + 0) F4 (callF_at (P := P) (n := n + 0) (d := d__law_jar) rfl) m_int m_len
  have ok5 : ∀ n : Nat, FnG Pr w K mg base (n + 1) f5 _ ["jar", "many"] (spF K noXR (callF P (n + 1)) 1 2 [0]) := fun n => k__law_draw noMono (k := n + 0) F5 (callF_at (P := P) (n := n + 0) (d := d__law_draw) rfl) m_int m_len
  have ok8 : ∀ n : Nat, FnG Pr w K mg base (n + 1) f8 _ ["league"] (spF K noXR (callF P (n + 1)) 7 1 []) := fun n => k__law_rows noMono (k := n + 0) F8 (callF_at (P := P) (n := n + 0) (d := d__law_rows) rfl) m_list
  have ok9 : ∀ n : Nat, FnG Pr w K mg base (n + 1) f9 _ ["rows"] (spF K noXR (callF P (n + 1)) 3 1 []) := fun n => k__law_shut noMono (k := n + 0) F9 (callF_at (P := P) (n := n + 0) (d := d__law_shut) rfl) m_sorted m_tuple
  have ok10 : ∀ n : Nat, FnG Pr w K mg base (n + 1) f10 _ ["rows", "a", "b"] (spF K noXR (callF P (n + 1)) 8 3 [0]) := fun n => k__law_turn noMono (k := n + 0) F10 (callF_at (P := P) (n := n + 0) (d := d__law_turn) rfl)
  have ok12 : ∀ n : Nat, FnG Pr w K mg base (n + 1) f12 _ ["n"] (spF K noXR (callF P (n + 1)) 4 1 []) := fun n => k__law_matches noMono (k := n + 0) F12 (callF_at (P := P) (n := n + 0) (d := d__law_matches) rfl) m_range
  have ok14 : ∀ n : Nat, FnG Pr w K mg base (n + 1) f14 _ ["league"] (spF K noXR (callF P (n + 1)) 10 1 []) := fun n => k__law_rings noMono (k := n + 0) F14 (callF_at (P := P) (n := n + 0) (d := d__law_rings) rfl) m_len m_range m_sorted m_tuple
  have ok15 : ∀ n : Nat, FnG Pr w K mg base (n + 1) f15 _ ["league"] (spF K noXR (callF P (n + 1)) 18 1 []) := fun n => k__law_count noMono (k := n + 0) F15 (callF_at (P := P) (n := n + 0) (d := d__law_count) rfl) m_len m_sum
  have ok2 : ∀ n : Nat, FnG Pr w K mg base (n + 2) f2 _ ["league"] (spF K noXR (callF P (n + 2)) 14 1 []) := fun n => k_ring_count noMono (k := n + 1) F2 (callF_at (P := P) (n := n + 1) (d := d_ring_count) rfl) m_len m_sum (cal_mk (ok1 (n + 0)) (PySem.W.mg_of X G a1) k1 b1)
  have ok3 : ∀ n : Nat, FnG Pr w K mg base (n + 2) f3 _ ["league", "side"] (spF K noXR (callF P (n + 2)) 25 2 []) := fun n => k_rings_with noMono (k := n + 1) F3 (callF_at (P := P) (n := n + 1) (d := d_rings_with) rfl) m_len m_sum (cal_mk (ok0 (n + 0)) (PySem.W.mg_of X G a0) k0 b0)
  have ok6 : ∀ n : Nat, FnG Pr w K mg base (n + 2) f6 _ ["jar", "row"] (spF K noXR (callF P (n + 2)) 6 2 [0]) := fun n => k__law_pick noMono (k := n + 1) F6 (callF_at (P := P) (n := n + 1) (d := d__law_pick) rfl) m_len (cal_mk (ok5 (n + 0)) (PySem.W.mg_of X G a5) k5 b5)
  have ok7 : ∀ n : Nat, FnG Pr w K mg base (n + 2) f7 _ ["jar", "row"] (spF K noXR (callF P (n + 2)) 2 2 [0]) := fun n => k__law_mixed noMono (k := n + 1) F7 (callF_at (P := P) (n := n + 1) (d := d__law_mixed) rfl) m_len m_list (cal_mk (ok5 (n + 0)) (PySem.W.mg_of X G a5) k5 b5)
  have ok11 : ∀ n : Nat, FnG Pr w K mg base (n + 2) f11 _ ["league", "some"] (spF K noXR (callF P (n + 2)) 9 2 []) := fun n => k__law_with noMono (k := n + 1) F11 (callF_at (P := P) (n := n + 1) (d := d__law_with) rfl) (cal_mk (ok8 (n + 0)) (PySem.W.mg_of X G a8) k8 b8) (cal_mk (ok9 (n + 0)) (PySem.W.mg_of X G a9) k9 b9) (cal_mk (ok10 (n + 0)) (PySem.W.mg_of X G a10) k10 b10)
  have ok13 : ∀ n : Nat, FnG Pr w K mg base (n + 3) f13 _ ["jar", "n"] (spF K noXR (callF P (n + 3)) 5 2 [0]) := fun n => k__law_league noMono (k := n + 2) F13 (callF_at (P := P) (n := n + 2) (d := d__law_league) rfl) m_list m_range (cal_mk (ok5 (n + 1)) (PySem.W.mg_of X G a5) k5 b5) (cal_mk (ok12 (n + 1)) (PySem.W.mg_of X G a12) k12 b12) (cal_mk (ok7 (n + 0)) (PySem.W.mg_of X G a7) k7 b7) (cal_mk (ok9 (n + 1)) (PySem.W.mg_of X G a9) k9 b9)
  have ok16 : ∀ n : Nat, FnG Pr w K mg base (n + 3) f16 _ ["league", "many", "parts"] (spF K noXR (callF P (n + 3)) 26 3 []) := fun n => k__law_are_parts noMono (k := n + 2) F16 (callF_at (P := P) (n := n + 2) (d := d__law_are_parts) rfl) m_len m_range m_repr (cal_mk (ok2 (n + 0)) (PySem.W.mg_of X G a2) k2 b2) (cal_mk (ok3 (n + 0)) (PySem.W.mg_of X G a3) k3 b3)
  have ok17 : ∀ n : Nat, FnG Pr w K mg base (n + 4) fa _ ["script"] (spF K noXR (callF P (n + 4)) 27 1 []) := fun n => k_law noMono (k := n + 3) F17 (callF_at (P := P) (n := n + 3) (d := d_law) rfl) m_len m_list m_range m_repr m_sorted m_sum m_tuple (cal_mk (ok16 (n + 0)) (PySem.W.mg_of X G a16) k16 b16) (cal_mk (ok15 (n + 2)) (PySem.W.mg_of X G a15) k15 b15) (cal_mk (ok5 (n + 2)) (PySem.W.mg_of X G a5) k5 b5) (cal_mk (ok4 (n + 2)) (PySem.W.mg_of X G a4) k4 b4) (cal_mk (ok13 (n + 0)) (PySem.W.mg_of X G a13) k13 b13) (cal_mk (ok7 (n + 1)) (PySem.W.mg_of X G a7) k7 b7) (cal_mk (ok6 (n + 1)) (PySem.W.mg_of X G a6) k6 b6) (cal_mk (ok14 (n + 2)) (PySem.W.mg_of X G a14) k14 b14) (cal_mk (ok11 (n + 1)) (PySem.W.mg_of X G a11) k11 b11) (cal_mk (ok2 (n + 1)) (PySem.W.mg_of X G a2) k2 b2) (cal_mk (ok3 (n + 1)) (PySem.W.mg_of X G a3) k3 b3) (calK_mk (ok2 (n + 1)) (PySem.W.mg_of X G a2) k2 bk2) (calP_mk (ok3 (n + 1)) (PySem.W.mg_of X G a3) k3 bp_Q_rings_with_side_league)
  exact ok17 0
theorem walk {l : PySem.W.OpenLaw} {q : Program} {loose : List Str} {XP : (Str → Option Value) → Heap → Prop} {YP : World → Heap → Prop} {d : DefRec} {K : Params → PySem.W.Frag} (hn : l.most = some 63) (hdf : d.params.defaults = [])
    (hY : ∀ (w : World) (h : Heap), YP w h → (K w.params).In h)
    (F : ∀ (w : World) (mg : Str → Option Value) (fa : Addr) (h : Heap), (K w.params).In h → h.Ns mainGlobals mg → mg d.name = some (.ref fa) →
      ∃ fd : FuncData, (∀ (s : Shared) (u : Value), BindsTo s fd ⟨[u], []⟩ [("script", u)]) ∧ ∀ base : Heap, (K w.params).In base → base.Ns mainGlobals mg → FnG l.prog w (K w.params) mg base 4 fa fd ["script"] (spF (K w.params) noXR (callF P 4) 27 1 [])) :
    PySem.W.WalkO q loose XP YP l.row.toRowW d [] (fun f vs => PySem.call f vs) :=
  walk_mp (n := 63) hn (by decide) hdf ⟨rfl, by decide, by decide⟩ hY F fun ns hl hb => plain hl hb
end Law
open PySem PySem.W PyProof.Rows
set_option maxRecDepth 100000 in
set_option maxHeartbeats 0 in
theorem PySem.Challenge.cw_levelturns_k14_whole_how_many_rings_holds : PySem.Challenge.rw_levelturns_k14_whole_how_many_rings.Holds := by
  w_on; o_law; k_head; (case hw => w_witness2)
  k_fill
  refine Law.walk (l := PySem.Challenge.rw_levelturns_k14_whole_how_many_rings) rfl rfl (fun w h Y => PySem.W.kIn_of Y) ?F
  case F =>
    intro w mg fa h KX G hmg
    refine' Law.all_mk KX G hmg ?a0 ?l0 ?c0 ?k0 ?a1 ?l1 ?c1 ?k1 ?a2 ?l2 ?c2 ?k2 ?a3 ?l3 ?c3 ?k3 ?a4 ?l4 ?c4 ?k4 ?a5 ?l5 ?c5 ?k5 ?a6 ?l6 ?c6 ?k6 ?a7 ?l7 ?c7 ?k7 ?a8 ?l8 ?c8 ?k8 ?a9 ?l9 ?c9 ?k9 ?a10 ?l10 ?c10 ?k10 ?a11 ?l11 ?c11 ?k11 ?a12 ?l12 ?c12 ?k12 ?a13 ?l13 ?c13 ?k13 ?a14 ?l14 ?c14 ?k14 ?a15 ?l15 ?c15 ?k15 ?a16 ?l16 ?c16 ?k16 ?a17 ?l17 ?c17 ?k17 ?z_int ?z_len ?z_list ?z_range ?z_repr ?z_sorted ?z_sum ?z_tuple
    (case a0 => k_is); (case l0 => k_is); (case c0 => k_is); (case k0 => k_is)
    (case a1 => k_is); (case l1 => k_is); (case c1 => k_is); (case k1 => k_is)
    (case a2 => k_is); (case l2 => k_is); (case c2 => k_is); (case k2 => k_is)
    (case a3 => k_is); (case l3 => k_is); (case c3 => k_is); (case k3 => k_is)
    (case a4 => k_is); (case l4 => k_is); (case c4 => k_is); (case k4 => k_is)
    (case a5 => k_is); (case l5 => k_is); (case c5 => k_is); (case k5 => k_is)
    (case a6 => k_is); (case l6 => k_is); (case c6 => k_is); (case k6 => k_is)
    (case a7 => k_is); (case l7 => k_is); (case c7 => k_is); (case k7 => k_is)
    (case a8 => k_is); (case l8 => k_is); (case c8 => k_is); (case k8 => k_is)
    (case a9 => k_is); (case l9 => k_is); (case c9 => k_is); (case k9 => k_is)
    (case a10 => k_is); (case l10 => k_is); (case c10 => k_is); (case k10 => k_is)
    (case a11 => k_is); (case l11 => k_is); (case c11 => k_is); (case k11 => k_is)
    (case a12 => k_is); (case l12 => k_is); (case c12 => k_is); (case k12 => k_is)
    (case a13 => k_is); (case l13 => k_is); (case c13 => k_is); (case k13 => k_is)
    (case a14 => k_is); (case l14 => k_is); (case c14 => k_is); (case k14 => k_is)
    (case a15 => k_is); (case l15 => k_is); (case c15 => k_is); (case k15 => k_is)
    (case a16 => k_is); (case l16 => k_is); (case c16 => k_is); (case k16 => k_is)
    (case a17 => k_is); (case l17 => k_is); (case c17 => k_is); (case k17 => k_is)
    (case z_int => k_is)
    (case z_len => k_is)
    (case z_list => k_is)
    (case z_range => k_is)
    (case z_repr => k_is)
    (case z_sorted => k_is)
    (case z_sum => k_is)
    (case z_tuple => k_is)
